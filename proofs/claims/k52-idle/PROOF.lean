import PyProof.Rows.All
import Wide.All
import OpenK.AllK
import Wide.FinOn
import HandS.ForMost
import HandS.IsInst
import HandS.FStr
import HandS.Zip
import HandS.Walk
import HandS.Codes
import HandS.Defaults
import HandS.Head0
import HandS.Head1
import HandS.Head2
import HandS.HeadEnd
import HandS.HeadHook1
import HandS.HeadHook2
import HandS.HeadHook3
import HandS.HeadHook4
import KE.GoesEnumKw
import OpenK.KWalk
import HandS.ClsMeth
import HandS.Style
import HandS.More
import HandS.RevRange
import HandS.Conv
import HandS.Steps
import HandS.Text
import HandS.MapObj
import HandS.HeadNt
import HandS.NoneIn
import PySem.Challenge.RW_buriedsure_k52_whole_idle_letters_put_in
set_option Elab.async false
set_option maxRecDepth 100000
set_option maxHeartbeats 4000000
set_option linter.all false
namespace My
open PySem L2
/-! ### calls by one bundle -/
structure Cal (P : Program) (w : World) (K : PySem.W.Frag) (mg : Str → Option Value) (base : Heap) (k : Nat) (x : Str) (ps : List Str) (sp : Sp) : Prop where
  ex : ∃ f fd, FnOk P w K mg base CX0 k f fd ps sp ∧ mg x = some (.ref f) ∧ PySem.W.keepIn K (.ref f) = true ∧ Binds K fd ps []
structure CalM (P : Program) (w : World) (K : PySem.W.Frag) (mg : Str → Option Value) (base : Heap) (k : Nat) (x : Str) (C : Addr) (ps : List Str) (sp : Sp) : Prop where
  ex : ∃ f fd, Mk K C f ∧ FnOk P w K mg base CX0 k f fd ps sp ∧ mg x = some (.ref C) ∧ Binds K fd ps []
section
variable {X : Cx} {k : Nat} {x : Str} {C : Addr} {ps : List Str} {sp : Sp} {p pos : Pos} {e : Expr} {es : List Expr} {t : TA}
theorem pe_callC (c : Cal X.prog X.w X.K X.mg X.base k x ps sp) (hr : Room k X.A) (hg : Gl X x) (ha : PA X (e :: es) t) (hdb : (x == ("__debug__" : Str)) = false := by decide)
    (he : starEach (e :: es) X.env = (false, eval e X.env) :: starEach es X.env := by rfl) (hpl : (backTo pos (starEach es X.env)).any (·.1) = false := by rfl) : PE X (.Call (.Name x p) (e :: es) [] pos) (tCall sp [] E0 t) := by
  obtain ⟨f, fd, F, hm, hk, hb⟩ := c.ex
  exact pe_call F hr hg hm hk hb .nil pass0 ha hdb he hpl
theorem pe_callC0 (c : Cal X.prog X.w X.K X.mg X.base k x ps sp) (hr : Room k X.A) (hg : Gl X x) (hdb : (x == ("__debug__" : Str)) = false := by decide) : PE X (.Call (.Name x p) [] [] pos) (tCall sp [] E0 tNil) := by
  obtain ⟨f, fd, F, hm, hk, hb⟩ := c.ex
  exact pe_call0 F hr hg hm hk hb .nil pass0 hdb
theorem pe_makeC (c : CalM X.prog X.w X.K X.mg X.base k x C ps sp) (hr : Room (k + 1) X.A) (hg : Gl X x) (ha : PA X (e :: es) t) (hdb : (x == ("__debug__" : Str)) = false := by decide)
    (he : starEach (e :: es) X.env = (false, eval e X.env) :: starEach es X.env := by rfl) (hpl : (backTo pos (starEach es X.env)).any (·.1) = false := by rfl) : PE X (.Call (.Name x p) (e :: es) [] pos) (tMake C sp [] E0 t) := by
  obtain ⟨f, fd, M, F, hm, hb⟩ := c.ex
  exact pe_make M F hr hg hm hb .nil pass0 ha hdb he hpl
end
theorem Cal.mono {P : Program} {w : World} {K : PySem.W.Frag} {mg : Str → Option Value} {base : Heap} {j k : Nat} {x : Str} {ps : List Str} {sp : Sp} (c : Cal P w K mg base j x ps sp) (h : j ≤ k) : Cal P w K mg base k x ps sp := by
  obtain ⟨f, fd, F, a⟩ := c.ex
  exact ⟨f, fd, F.mono h, a⟩
theorem CalM.mono {P : Program} {w : World} {K : PySem.W.Frag} {mg : Str → Option Value} {base : Heap} {j k : Nat} {x : Str} {C : Addr} {ps : List Str} {sp : Sp} (c : CalM P w K mg base j x C ps sp) (h : j ≤ k) : CalM P w K mg base k x C ps sp := by
  obtain ⟨f, fd, M, F, a⟩ := c.ex
  exact ⟨f, fd, M, F.mono h, a⟩

/-! ### named operators -/
def rPlus : R2 := rI0 fun i j => .int (i + j)
def rMinus : R2 := rI0 fun i j => .int (i - j)
def rTimes : R2 := rI CMul fun i j => .int (i * j)
def rModP : R2 := rI (fun _ j => 0 < j) fun i j => .int (i % j)
def rFdivN : R2 := rI CDivN fun i j => .int (i.fdiv j)
def rPow0 : R2 := rI CPow fun i j => .int (i ^ j.toNat)
def rLt0 : R2 := rI0 fun i j => .bl (decide (i < j))
def rLe0 : R2 := rI0 fun i j => .bl (decide (i ≤ j))
def rGt0 : R2 := rI0 fun i j => .bl (decide (j < i))
def rGe0 : R2 := rI0 fun i j => .bl (decide (j ≤ i))
def rIsN0 : R2 := fun x y H Q => y = .non ∧ Q (.bl (decide (x = .non))) H
def rNotN0 : R2 := fun x y H Q => y = .non ∧ Q (.bl (!decide (x = .non))) H
def rAddS : R2 := fun x y H Q => ∃ i j, x = .str i ∧ y = .str j ∧ i.length + j.length ≤ sizeLine ∧ Q (.str (i ++ j)) H
def uNeg : V → Hp → VK → Prop := rU fun i => .int (-i)
def bInt : List V → Hp → VK → Prop := fun xs H Q => (∃ i, xs = [.int i] ∧ Q (.int i) H) ∨ ∃ k, xs = [.bl k] ∧ Q (.int (if k then 1 else 0)) H
def bMax2 : List V → Hp → VK → Prop := fun xs H Q => ∃ i j, xs = [.int i, .int j] ∧ Q (.int (if j > i then j else i)) H
def bMin2 : List V → Hp → VK → Prop := fun xs H Q => ∃ i j, xs = [.int i, .int j] ∧ Q (.int (if j < i then j else i)) H
def bAbs : List V → Hp → VK → Prop := fun xs H Q => ∃ i, xs = [.int i] ∧ Q (.int (if i < 0 then -i else i)) H
def bStr : List V → Hp → VK → Prop := fun xs H Q => ∃ i, xs = [.int i] ∧ i.natAbs.log2 < 1920 ∧ Q (.str (Str.ofString (toString i))) H
def bLen (K : PySem.W.Frag) : List V → Hp → VK → Prop := fun xs H Q => ∃ p ys, xs = [V.ref p] ∧ (SqL K H p ys ∨ SqT K H p ys) ∧ Q (.int (ys.length : Int)) H
def bList (K : PySem.W.Frag) : List V → Hp → VK → Prop := fun xs H Q => ∃ p ys, xs = [V.ref p] ∧ (SqL K H p ys ∨ SqT K H p ys) ∧ ∀ l, H l = none → Q (.ref l) (upd H l (.lst ys))
def bTuple (K : PySem.W.Frag) : List V → Hp → VK → Prop := fun xs H Q => ∃ p ys, xs = [V.ref p] ∧ ((SqL K H p ys ∧ ∀ l, H l = none → Q (.ref l) (upd H l (.tup ys))) ∨ SqT K H p ys ∧ Q (.ref p) H)
def mJoin (K : PySem.W.Frag) : V → List V → Hp → VK → Prop := fun x xs H Q => ∃ a p ys, x = .str a ∧ xs = [.ref p] ∧ (SqL K H p (ys.map V.str) ∨ SqT K H p (ys.map V.str)) ∧ (ys.map (·.length)).sum + ys.length * a.length ≤ 16777216 ∧ Q (.str (Txt.join a ys)) H
def tTru (K : PySem.W.Frag) (ta : TE) : TT := fun σ H Q => ta σ H fun x H' => ∃ k, TruV K x H' k ∧ Q k H'
def tJoin (ts : List TE) : TE := fun σ H Q => tJs ts Str.empty σ H fun out H1 => Q (.str out) H1
def rItemS : R2 := fun x y H Q => ∃ z i c, x = .str z ∧ y = .int i ∧ 0 ≤ i ∧ i < 2 ^ 63 ∧ i < (z.length : Int) ∧ z.cps[i.toNat]? = some c ∧ Q (.str { cps := #[c] }) H

/-! ### steps: statements -/
section
variable {t u : TS} {c ta tt : TT} {D : Ends} {σ : St} {H : Hp} {te tf : TE} {g : TG} {gs : TGs} {i j n : Nat} {x y v : V} {xs ys : List V} {Q : VK} {R : St → Hp → Prop} {K : PySem.W.Frag} {a b p l : Addr} {B : Bool → Hp → Prop} {LQ : List V → Hp → Prop} {tas tar : TA}
theorem s_seq (h : t { D with nx := u D } σ H) : tSeq t u D σ H := h
theorem s_cut (M : St → Hp → Prop) (h : t { D with nx := M } σ H) (k : ∀ σ' H', M σ' H' → u D σ' H') : C8.tCut t u D σ H := ⟨M, h, k⟩
theorem s_asg (h : te σ H fun x H1 => g x σ H1 D.nx) : tAsg te g D σ H := h
theorem s_ret (h : te σ H D.rt) : tRet te D σ H := h
theorem s_retN (h : D.rt .non H) : tRetN D σ H := h
theorem s_drop (h : te σ H fun _ H1 => D.nx σ H1) : tDrop te D σ H := h
theorem s_next (h : D.nx σ H) : tNext D σ H := h
theorem s_if (h : c σ H fun b H1 => if b = true then t D σ H1 else u D σ H1) : tIfS c t u D σ H := h
theorem s_par (h : tas σ H fun vs H1 => ∃ v w, vs = [v, w] ∧ D.nx ((σ.set i (some v)).set j (some w)) H1) : tPar i j tas D σ H := h
theorem s_brk (h : D.bk σ H) : tBreak D σ H := h
theorem s_cont (h : D.ct σ H) : tCont D σ H := h
theorem x_par {w : V} {P : V → V → Prop} (h : P v w) : ∃ v' w', [v, w] = [v', w'] ∧ P v' w' := ⟨v, w, rfl, h⟩
theorem g_name (h : R (σ.set i (some v)) H) : gName i v σ H R := h
theorem g_tup (h : SqT K H a xs) (hl : xs.length = n) (q : gs xs σ H R) : gTup K n gs (.ref a) σ H R := ⟨a, xs, rfl, h, hl, q⟩
theorem g_cons (h : g x σ H fun σ' H' => gs xs σ' H' R) : gCons g gs (x :: xs) σ H R := ⟨x, xs, rfl, h⟩
theorem g_nil (h : R σ H) : gNil [] σ H R := ⟨rfl, h⟩
theorem g_sub {to ti : TE} {ts : TSet} (h : to σ H fun o H1 => ti σ H1 fun i H2 => ts o i v H2 fun H3 => R σ H3) : gSub to ti ts v σ H R := h
/-! ### expressions -/
theorem e_var (h : σ[i]? = some (some v)) (q : Q v H) : tVar i σ H Q := ⟨v, h, q⟩
theorem e_c (q : Q v H) : tC v σ H Q := q
theorem e_op {r : R2} (h : te σ H fun x H1 => tf σ H1 fun y H2 => r x y H2 Q) : tOp r te tf σ H Q := h
theorem e_un {r : V → Hp → VK → Prop} (h : te σ H fun x H1 => r x H1 Q) : tUn r te σ H Q := h
theorem e_if (h : c σ H fun b H1 => if b = true then te σ H1 Q else tf σ H1 Q) : tIf c te tf σ H Q := h
theorem e_tup (h : tas σ H fun xs H1 => xs.length ≤ sizeLine ∧ ∀ p, H1 p = none → Q (.ref p) (upd H1 p (.tup xs))) : tTup tas σ H Q := h
theorem e_lst (h : tas σ H fun xs H1 => xs.length ≤ sizeLine ∧ ∀ p, H1 p = none → Q (.ref p) (upd H1 p (.lst xs))) : tLst tas σ H Q := h
theorem e_call {sp : Sp} {E : XK} (h : tas σ H fun vs H1 => sp (vs ++ []) H1 Q E) : tCall sp [] E tas σ H Q := h
theorem e_cb {r : List V → Hp → VK → Prop} (h : tas σ H fun vs H1 => r vs H1 Q) : tCB r tas σ H Q := h
theorem e_bm {T : String} {r : V → List V → Hp → VK → Prop} (h : te σ H fun x H1 => tyV K T x H1 ∧ tas σ H1 fun xs H2 => r x xs H2 Q) : tBM K T r te tas σ H Q := h
theorem e_bm0 {T : String} {r : V → List V → Hp → VK → Prop} (h : te σ H fun x H1 => tyV K T x H1 ∧ r x [] H1 Q) : tBM0 K T r te σ H Q := h
theorem e_sl {r : V → Option Int → Option Int → Hp → VK → Prop} {tl th : TO} (h : te σ H fun x H1 => tl σ H1 fun l H2 => th σ H2 fun u H3 => r x l u H3 Q) : tSl r te tl th σ H Q := h
theorem o_no {R : Option Int → Hp → Prop} (h : R none H) : tNoPart σ H R := h
theorem o_part {R : Option Int → Hp → Prop} (h : te σ H fun x H1 => ∃ i, x = .int i ∧ R (some i) H1) : tPart te σ H R := h
theorem x_part {P : Int → Prop} {i : Int} (h : P i) : ∃ i', V.int i = .int i' ∧ P i' := ⟨i, rfl, h⟩
theorem e_and (h : te σ H fun x H1 => ∃ c, x = .bl c ∧ if c = true then tf σ H1 Q else Q (.bl false) H1) : tAndV te tf σ H Q := h
theorem e_or (h : te σ H fun x H1 => ∃ c, x = .bl c ∧ if c = true then Q (.bl true) H1 else tf σ H1 Q) : tOrV te tf σ H Q := h
theorem e_not (h : te σ H fun x H1 => ∃ c, x = .bl c ∧ Q (.bl (!c)) H1) : tNotV te σ H Q := h
theorem e_fld {f : Str} (h : te σ H fun x H1 => ∃ a C dx fs v, x = .ref a ∧ H1 a = some (.ins C dx fs) ∧ Cls K C ∧ NoAttr K C f ∧ fs.lookup f = some v ∧ Q v H1) : tFld K te f σ H Q := h
theorem s_fld {f : Str} (h : tf σ H fun y H1 => te σ H1 fun x H2 => ∃ a C dx fs, x = .ref a ∧ H2 a = some (.ins C dx fs) ∧ Cls K C ∧ NoAttr K C f ∧ fs.length < 1000 ∧ D.nx σ (upd H2 a (.ins C dx (putF f y fs)))) : sFld K te tf f D σ H := h
theorem a_nil (q : LQ [] H) : tNil σ H LQ := q
theorem a_cons (h : te σ H fun x H1 => tas σ H1 fun xs H2 => LQ (x :: xs) H2) : tCons te tas σ H LQ := h
/-! ### tests -/
theorem t_test (h : te σ H fun x H' => ∃ k, x = .bl k ∧ B k H') : tTest te σ H B := h
theorem t_b (h : te σ H fun x H1 => ∃ c, x = .bl c ∧ B c H1) : tB te σ H B := h
theorem t_and (h : c σ H fun d H1 => if d = true then tt σ H1 B else B false H1) : tAnd c tt σ H B := h
theorem t_or (h : c σ H fun d H1 => if d = true then B true H1 else tt σ H1 B) : tOr c tt σ H B := h
theorem t_not (h : c σ H fun d H1 => B (!d) H1) : tNot c σ H B := h
theorem t_tru (h : te σ H fun x H' => ∃ k, TruV K x H' k ∧ B k H') : tTru K te σ H B := h
theorem x_bl {R : Bool → Hp → Prop} {k : Bool} (h : R k H) : ∃ k', V.bl k = .bl k' ∧ R k' H := ⟨k, rfl, h⟩
theorem x_blE {R : Bool → Prop} {k : Bool} (h : R k) : ∃ k', V.bl k = .bl k' ∧ R k' := ⟨k, rfl, h⟩
theorem x_trT {P : Bool → Prop} (h : SqT K H p xs) (q : P (!xs.isEmpty)) : ∃ k, TruV K (.ref p) H k ∧ P k := ⟨_, Or.inr (Or.inl ⟨xs, h, rfl⟩), q⟩
theorem x_trL {P : Bool → Prop} (h : SqL K H p xs) (q : P (!xs.isEmpty)) : ∃ k, TruV K (.ref p) H k ∧ P k := ⟨_, Or.inl ⟨xs, h, rfl⟩, q⟩
theorem x_trB {P : Bool → Prop} {d : Bool} (q : P d) : ∃ k, TruV K (.bl d) H k ∧ P k := ⟨_, rfl, q⟩
theorem i_dec {p : Prop} [Decidable p] {A B : Prop} (h1 : p → A) (h2 : ¬ p → B) : if decide p = true then A else B := by
  by_cases h : p
  · rw [if_pos (decide_eq_true h)]; exact h1 h
  · rw [if_neg (by rw [decide_eq_false h]; exact Bool.false_ne_true)]; exact h2 h
theorem i_ndec {p : Prop} [Decidable p] {A B : Prop} (h1 : ¬ p → A) (h2 : p → B) : if (!decide p) = true then A else B := by
  by_cases h : p
  · rw [decide_eq_true h, if_neg (by exact Bool.false_ne_true)]; exact h2 h
  · rw [decide_eq_false h, Bool.not_false, if_pos rfl]; exact h1 h
theorem i_t {A B : Prop} (h : A) : if true = true then A else B := by rw [if_pos rfl]; exact h
theorem i_f {A B : Prop} (h : B) : if false = true then A else B := by rw [if_neg Bool.false_ne_true]; exact h
theorem i_nt {A B : Prop} (h : B) : if (!true) = true then A else B := i_f h
theorem i_nf {A B : Prop} (h : A) : if (!false) = true then A else B := i_t h
theorem i_b {d : Bool} {A B : Prop} (h1 : d = true → A) (h2 : d = false → B) : if d = true then A else B := by
  cases d
  · exact i_f (h2 rfl)
  · exact i_t (h1 rfl)
/-! ### operators -/
theorem r_0 {g : Int → Int → V} {i j : Int} (q : Q (g i j) H) : rI0 g (.int i) (.int j) H Q := ⟨i, j, rfl, rfl, q⟩
theorem r_1 {C : Int → Int → Prop} {g : Int → Int → V} {i j : Int} (h : C i j) (q : Q (g i j) H) : rI C g (.int i) (.int j) H Q := ⟨i, j, rfl, rfl, h, q⟩
theorem r_plus {i j : Int} (q : Q (.int (i + j)) H) : rPlus (.int i) (.int j) H Q := r_0 q
theorem r_minus {i j : Int} (q : Q (.int (i - j)) H) : rMinus (.int i) (.int j) H Q := r_0 q
theorem r_times {i j : Int} (h : CMul i j) (q : Q (.int (i * j)) H) : rTimes (.int i) (.int j) H Q := r_1 h q
theorem r_mod {i j : Int} (h : 0 < j) (q : Q (.int (i % j)) H) : rModP (.int i) (.int j) H Q := r_1 h q
theorem r_fdiv {i j : Int} (h : CDivN i j) (q : Q (.int (i.fdiv j)) H) : rFdivN (.int i) (.int j) H Q := r_1 h q
theorem r_pow {i j : Int} (h : CPow i j) (q : Q (.int (i ^ j.toNat)) H) : rPow0 (.int i) (.int j) H Q := r_1 h q
theorem r_lt {i j : Int} (q : Q (.bl (decide (i < j))) H) : rLt0 (.int i) (.int j) H Q := r_0 q
theorem r_le {i j : Int} (q : Q (.bl (decide (i ≤ j))) H) : rLe0 (.int i) (.int j) H Q := r_0 q
theorem r_gt {i j : Int} (q : Q (.bl (decide (j < i))) H) : rGt0 (.int i) (.int j) H Q := r_0 q
theorem r_ge {i j : Int} (q : Q (.bl (decide (j ≤ i))) H) : rGe0 (.int i) (.int j) H Q := r_0 q
theorem dec_int {i j : Int} : decide (V.int i = V.int j) = decide (i = j) := by
  by_cases h : i = j
  · rw [decide_eq_true h, decide_eq_true (congrArg V.int h)]
  · rw [decide_eq_false h, decide_eq_false (fun e => h (V.int.inj e))]
theorem dec_bl {i j : Bool} : decide (V.bl i = V.bl j) = decide (i = j) := by
  by_cases h : i = j
  · rw [decide_eq_true h, decide_eq_true (congrArg V.bl h)]
  · rw [decide_eq_false h, decide_eq_false (fun e => h (V.bl.inj e))]
theorem dec_str {i j : Str} : decide (V.str i = V.str j) = decide (i = j) := by
  by_cases h : i = j
  · rw [decide_eq_true h, decide_eq_true (congrArg V.str h)]
  · rw [decide_eq_false h, decide_eq_false (fun e => h (V.str.inj e))]
theorem r_eqI {i j : Int} (q : Q (.bl (decide (i = j))) H) : rEq (.int i) (.int j) H Q := ⟨rfl, by rw [dec_int]; exact q⟩
theorem r_eqB {i j : Bool} (q : Q (.bl (decide (i = j))) H) : rEq (.bl i) (.bl j) H Q := ⟨rfl, by rw [dec_bl]; exact q⟩
theorem r_eqS {i j : Str} (q : Q (.bl (decide (i = j))) H) : rEq (.str i) (.str j) H Q := ⟨rfl, by rw [dec_str]; exact q⟩
theorem r_neI {i j : Int} (q : Q (.bl (!decide (i = j))) H) : rNe (.int i) (.int j) H Q := ⟨rfl, by rw [dec_int]; exact q⟩
theorem r_neB {i j : Bool} (q : Q (.bl (!decide (i = j))) H) : rNe (.bl i) (.bl j) H Q := ⟨rfl, by rw [dec_bl]; exact q⟩
theorem r_neS {i j : Str} (q : Q (.bl (!decide (i = j))) H) : rNe (.str i) (.str j) H Q := ⟨rfl, by rw [dec_str]; exact q⟩
theorem r_isNi {i : Int} (q : Q (.bl false) H) : rIsN0 (.int i) .non H Q := ⟨rfl, q⟩
theorem r_isNr (q : Q (.bl false) H) : rIsN0 (.ref a) .non H Q := ⟨rfl, q⟩
theorem r_isNs {z : Str} (q : Q (.bl false) H) : rIsN0 (.str z) .non H Q := ⟨rfl, q⟩
theorem r_isNb {d : Bool} (q : Q (.bl false) H) : rIsN0 (.bl d) .non H Q := ⟨rfl, q⟩
theorem r_isNn (q : Q (.bl true) H) : rIsN0 .non .non H Q := ⟨rfl, q⟩
theorem r_notNi {i : Int} (q : Q (.bl true) H) : rNotN0 (.int i) .non H Q := ⟨rfl, q⟩
theorem r_notNr (q : Q (.bl true) H) : rNotN0 (.ref a) .non H Q := ⟨rfl, q⟩
theorem r_notNn (q : Q (.bl false) H) : rNotN0 .non .non H Q := ⟨rfl, q⟩
theorem r_neg {i : Int} (q : Q (.int (-i)) H) : uNeg (.int i) H Q := ⟨i, rfl, q⟩
theorem atI_nn {α : Type} {xs : List α} {i : Int} {v : α} (h0 : 0 ≤ i) (ha : xs[i.toNat]? = some v) : atI xs i = some v := by
  obtain ⟨n, rfl⟩ := Int.eq_ofNat_of_zero_le h0
  exact atI_nat ha
theorem ixN_nn {i : Int} {n k : Nat} (h0 : 0 ≤ i) (hk : i.toNat = k) (h : k < n) : ixN n i = some k := by
  obtain ⟨m, rfl⟩ := Int.eq_ofNat_of_zero_le h0
  have : m = k := by rw [← hk]; rfl
  rw [this]
  unfold ixN
  rw [if_pos (Int.natCast_nonneg k), if_pos (by omega)]
  simp
theorem r_ixL {i : Int} (h : SqL K H p xs) (h0 : 0 ≤ i) (ha : xs[i.toNat]? = some v) (q : Q v H) : rIxL K (.ref p) (.int i) H Q := ⟨p, xs, i, v, rfl, rfl, h, atI_nn h0 ha, q⟩
theorem r_ixT {i : Int} (h : SqT K H p xs) (h0 : 0 ≤ i) (ha : xs[i.toNat]? = some v) (q : Q v H) : rIxT K (.ref p) (.int i) H Q := ⟨p, xs, i, v, rfl, rfl, h, atI_nn h0 ha, q⟩
theorem r_set {k : Int} (h : H p = some (.lst xs)) (h0 : 0 ≤ k) (hk : k.toNat = j) (hj : j < xs.length) {R : Hp → Prop} (q : R (upd H p (.lst (xs.set j v)))) : rSetL (.ref p) (.int k) v H R := ⟨p, xs, k, j, rfl, rfl, h, ixN_nn h0 hk hj, q⟩
theorem r_app (h : H p = some (.lst xs)) (hl : xs.length < sizeLine) (q : Q .non (upd H p (.lst (xs ++ [y])))) : rAppend (.ref p) [y] H Q := ⟨p, xs, y, rfl, rfl, h, hl, q⟩
theorem r_ext (h : H p = some (.lst xs)) (h2 : H b = some (.lst ys)) (hl : xs.length + ys.length ≤ sizeLine) (q : Q .non (upd H p (.lst (xs ++ ys)))) : rExtend (.ref p) [.ref b] H Q := ⟨p, b, xs, ys, rfl, rfl, h, h2, hl, q⟩
theorem r_popAt {i : Int} {k : Nat} (h : H p = some (.lst xs)) (h1 : -(2 ^ 63) ≤ i) (h2 : i < 2 ^ 63) (h3 : seqIndex? i xs.length = some k) (h4 : xs[k]? = some y) (q : Q y (upd H p (.lst (xs.eraseIdx k)))) : rPopAt (.ref p) [.int i] H Q := ⟨p, xs, i, k, y, rfl, rfl, h, h1, h2, h3, h4, q⟩
theorem r_cat (h : H p = some (.lst xs)) (h2 : H b = some (.lst ys)) (hl : xs.length + ys.length ≤ sizeLine) (q : ∀ l, H l = none → Q (.ref l) (upd H l (.lst (xs ++ ys)))) : rCat (.ref p) (.ref b) H Q := ⟨p, b, xs, ys, rfl, rfl, h, h2, hl, q⟩
theorem r_slL {lo hi : Option Int} (h : SqL K H p xs) (q : ∀ l, H l = none → Q (.ref l) (upd H l (.lst (cutV xs lo hi)))) : rSlL K (.ref p) lo hi H Q := ⟨p, xs, rfl, h, q⟩
theorem b_int {i : Int} (q : Q (.int i) H) : bInt [.int i] H Q := .inl ⟨i, rfl, q⟩
theorem b_max2 {i j : Int} (q : Q (.int (if j > i then j else i)) H) : bMax2 [.int i, .int j] H Q := ⟨i, j, rfl, q⟩
theorem b_min2 {i j : Int} (q : Q (.int (if j < i then j else i)) H) : bMin2 [.int i, .int j] H Q := ⟨i, j, rfl, q⟩
theorem b_str {i : Int} (h : i.natAbs.log2 < 1920) (q : Q (.str (Str.ofString (toString i))) H) : bStr [.int i] H Q := ⟨i, rfl, h, q⟩
theorem b_lenL (h : SqL K H p xs) (q : Q (.int (xs.length : Int)) H) : bLen K [.ref p] H Q := ⟨p, xs, rfl, .inl h, q⟩
theorem b_lenT (h : SqT K H p xs) (q : Q (.int (xs.length : Int)) H) : bLen K [.ref p] H Q := ⟨p, xs, rfl, .inr h, q⟩
theorem b_listL (h : SqL K H p xs) (q : ∀ l, H l = none → Q (.ref l) (upd H l (.lst xs))) : bList K [.ref p] H Q := ⟨p, xs, rfl, .inl h, q⟩
theorem b_tupL (h : SqL K H p xs) (q : ∀ l, H l = none → Q (.ref l) (upd H l (.tup xs))) : bTuple K [.ref p] H Q := ⟨p, xs, rfl, .inl ⟨h, q⟩⟩
theorem b_tupT (h : SqT K H p xs) (q : Q (.ref p) H) : bTuple K [.ref p] H Q := ⟨p, xs, rfl, .inr ⟨h, q⟩⟩
theorem ty_list (h : SqL K H p xs) : tyV K "list" (.ref p) H := .inl ⟨rfl, xs, h⟩
theorem ty_str {z : Str} : tyV K "str" (.str z) H := rfl
theorem x_tl {A : Prop} (h : SqL K H p xs) (q : A) : tyV K "list" (.ref p) H ∧ A := ⟨ty_list h, q⟩
theorem x_ts {z : Str} {A : Prop} (q : A) : tyV K "str" (.str z) H ∧ A := ⟨rfl, q⟩
theorem x_isi {x c : V} {t u : Value} {d : Bool} (hc : ClsV c u) (ht : TyX K H x t) (hk : PySem.W.kitOne K t u = some d) (q : Q (.bl d) H) : rIsi K [x, c] H Q := ⟨x, c, t, u, d, rfl, hc, ht, hk, q⟩
end
/-! ### frames -/
/-- all that was tracked stands as it was, but at a -/
def Sb (a : Addr) (H H' : Hp) : Prop := ∀ b o, b ≠ a → H b = some o → H' b = some o
theorem Sb.refl (a : Addr) (H : Hp) : Sb a H H := fun _ _ _ h => h
theorem Sb.trans {a : Addr} {H H1 H2 : Hp} (x : Sb a H H1) (y : Sb a H1 H2) : Sb a H H2 := fun b o n h => y b o n (x b o n h)
theorem Sb.new {a : Addr} {H H1 : Hp} {p : Addr} {o : HO} (x : Sb a H H1) (h : H1 p = none) : Sb a H (upd H1 p o) := fun b u n e => by
  rw [upd_ne (ne_of_none (x b u n e) h)]
  exact x b u n e
theorem Sb.mut {a : Addr} {H H1 : Hp} {p : Addr} {o : HO} (x : Sb a H H1) (h : H p = none) : Sb a H (upd H1 p o) := fun b u n e => by
  rw [upd_ne (ne_of_none e h)]
  exact x b u n e
theorem Sb.own {a : Addr} {H H1 : Hp} {o : HO} (x : Sb a H H1) : Sb a H (upd H1 a o) := fun b u n e => by
  rw [upd_ne n]
  exact x b u n e
theorem Sb.same {a : Addr} {H H1 : Hp} (x : Same H H1) : Sb a H H1 := fun b o _ h => x b o h
theorem Same.sb {a : Addr} {H H1 : Hp} (x : Same H H1) : Sb a H H1 := fun b o _ h => x b o h
theorem Same.new {H H1 : Hp} {p : Addr} {o : HO} (x : Same H H1) (h : H1 p = none) : Same H (upd H1 p o) := fun b u e => by
  rw [upd_ne (ne_of_none (x b u e) h)]
  exact x b u e
theorem Same.mut {H H1 : Hp} {p : Addr} {o : HO} (x : Same H H1) (h : H p = none) : Same H (upd H1 p o) := fun b u e => by
  rw [upd_ne (ne_of_none e h)]
  exact x b u e
theorem Sb.free {a : Addr} {H H' : Hp} (e : Sb a H H') {l : Addr} (n : l ≠ a) (h : H' l = none) : H l = none := by
  cases q : H l with
  | none => rfl
  | some o =>
    rw [e l o n q] at h
    cases h
theorem SqL.at {K : PySem.W.Frag} {H : Hp} {a : Addr} {xs : List V} (h : H a = some (.lst xs)) : SqL K H a xs := L2.SqL.of h
theorem SqT.at {K : PySem.W.Frag} {H : Hp} {a : Addr} {xs : List V} (h : H a = some (.tup xs)) : SqT K H a xs := L2.SqT.of h
/-! ### finding an index -/
theorem ixN_nat {n i : Nat} (h : i < n) : ixN n (i : Int) = some i := by
  unfold ixN
  first
    | (simp; omega)
    | (rw [if_pos (by omega)]; simp; omega)
theorem atI_at {α : Type} {xs : List α} {i : Nat} {v : α} (h : xs[i]? = some v) : atI xs (i : Int) = some v := by
  have hi : i < xs.length := (List.getElem?_eq_some_iff.mp h).1
  unfold atI
  rw [ixN_nat hi]
  exact h
/-! ### more steps -/
theorem upd_at {H : Hp} {p b : Addr} {o : HO} {u : Option HO} (n : b ≠ p) (h : H b = u) : upd H p o b = u := by rw [upd_ne n]; exact h
theorem sb_at {a b : Addr} {H H' : Hp} {o : HO} (s : Sb a H H') (n : b ≠ a) (h : H b = some o) : H' b = some o := s b o n h
theorem same_at {b : Addr} {H H' : Hp} {o : HO} (s : Same H H') (h : H b = some o) : H' b = some o := s b o h
theorem ne_new {H : Hp} {b p : Addr} {o : HO} (n : H p = none) (h : H b = some o) : b ≠ p := ne_of_none h n
theorem ne_new' {H : Hp} {b p : Addr} {o : HO} (n : H p = none) (h : H b = some o) : p ≠ b := (ne_of_none h n).symm
theorem ne_tl {H : Hp} {a b : Addr} {xs ys : List V} (h : H b = some (.tup xs)) (g : H a = some (.lst ys)) : b ≠ a := ne_of h g (by intro z; cases z)
theorem ne_lt {H : Hp} {a b : Addr} {xs ys : List V} (h : H b = some (.lst xs)) (g : H a = some (.tup ys)) : b ≠ a := ne_of h g (by intro z; cases z)
theorem SqL.mono {K : PySem.W.Frag} {H H' : Hp} {a : Addr} {xs : List V} (h : SqL K H a xs) (s : Same H H') : SqL K H' a xs := s.seq h
theorem s_for {wi : TI} {g : TG} {tb : TS} {D : Ends} {σ : L2.St} {H : Hp} (h : wi σ H fun J H1 => ∃ W : Nat → Nat → L2.St → Hp → Prop, (∃ m, W 0 m σ H1) ∧ ∀ i m σ H, W i m σ H →
  (J.stop i H ∧ D.nx σ H) ∨ (J.go i H ∧ ∃ N : L2.St → Hp → Prop, (∀ σ' H', N σ' H' → ∃ m', m' < m ∧ W (i + 1) m' σ' H') ∧ ∀ x H', J.yld i H x H' → g x σ H' fun σ2 H2 => tb { D with nx := N, ct := N, bk := D.nx } σ2 H2)) : tFor wi g tb D σ H := h
theorem i_tup {K : PySem.W.Frag} {te : TE} {σ : L2.St} {H : Hp} {R : It → Hp → Prop} (h : te σ H fun x H1 => ∃ a, x = .ref a ∧ (∃ xs, SqT K H1 a xs) ∧ R (Itt K a) H1) : iTup K te σ H R := h
theorem i_list {K : PySem.W.Frag} {te : TE} {σ : L2.St} {H : Hp} {R : It → Hp → Prop} (h : te σ H fun x H1 => ∃ a, x = .ref a ∧ (∃ xs, SqL K H1 a xs) ∧ R (Itl K a) H1) : iList K te σ H R := h
theorem i_rng1 {ta : TA} {σ : L2.St} {H : Hp} {R : It → Hp → Prop} (h : ta σ H fun vs H1 => ∃ j : Int, vs = [.int j] ∧ -(2 ^ 62) ≤ j ∧ j < 2 ^ 62 ∧ R (Itr 0 j.toNat) H1) : iRng1 ta σ H R := h
theorem i_rng2 {ta : TA} {σ : L2.St} {H : Hp} {R : It → Hp → Prop} (h : ta σ H fun vs H1 => ∃ i j : Int, vs = [.int i, .int j] ∧ (-(2 ^ 62) ≤ i ∧ i < 2 ^ 62 ∧ -(2 ^ 62) ≤ j ∧ j < 2 ^ 62) ∧ R (Itr i (j - i).toNat) H1) : iRng2 ta σ H R := h
theorem i_zip {K : PySem.W.Frag} {ta : TA} {σ : L2.St} {H : Hp} {R : It → Hp → Prop} (h : ta σ H fun vs H1 => ∃ a b xs ys, vs = [.ref a, .ref b] ∧ ((SqL K H1 a xs ∧ SqL K H1 b ys ∧ R (Itz K a b) H1) ∨ (SqT K H1 a xs ∧ SqT K H1 b ys ∧ R (RZ.ItzT K a b) H1))) : RZ.iZipA K ta σ H R := h
theorem e_join {ts : List TE} {σ : L2.St} {H : Hp} {Q : VK} (h : tJs ts Str.empty σ H fun out H1 => Q (.str out) H1) : tJoin ts σ H Q := h
theorem j_nil {acc : Str} {σ : L2.St} {H : Hp} {R : Str → Hp → Prop} (h : R acc H) : tJs [] acc σ H R := h
theorem j_cons {t : TE} {ts : List TE} {acc : Str} {σ : L2.St} {H : Hp} {R : Str → Hp → Prop} (h : t σ H fun x H1 => ∃ y : Str, x = .str y ∧ (acc ++ y).length ≤ sizeLine ∧ tJs ts (acc ++ y) σ H1 R) : tJs (t :: ts) acc σ H R := h
theorem mapI_get {ns : List Int} {i : Nat} {x : V} (h : (ns.map V.int)[i]? = some x) : ∃ n, x = V.int n ∧ ns[i]? = some n := by
  rw [List.getElem?_map] at h
  cases e : ns[i]? with
  | none => rw [e] at h; cases h
  | some n => rw [e] at h; exact ⟨n, (Option.some.inj h).symm, rfl⟩
theorem e_lc {wi : TI} {g : TG} {tt : TT} {te : TE} {vs : List Nat} {σ : L2.St} {H : Hp} {Q : VK} (h : wi σ H fun J H1 => ∀ D, H1 D = none → ∃ W : Nat → Nat → Hp → Prop, (∃ m, W 0 m (upd H1 D (.lst []))) ∧ ∀ i m H, W i m H →
  (J.stop i H ∧ Q (.ref D) H) ∨ (J.go i H ∧ ∃ Nx : Hp → Prop, (∀ H', Nx H' → ∃ m', m' < m ∧ W (i + 1) m' H') ∧ ∀ x H', J.yld i H x H' → g x (wipe σ vs) H' fun σ2 H2 => wipe σ2 vs = wipe σ vs ∧ tt σ2 H2 fun b H3 =>
    if b = true then te σ2 H3 fun y H4 => ∃ acc, H4 D = some (.lst acc) ∧ acc.length < sizeLine ∧ Nx (upd H4 D (.lst (acc ++ [y]))) else Nx H3)) : tLc wi g tt te vs σ H Q := h
theorem t_yes {σ : L2.St} {H : Hp} {B : Bool → Hp → Prop} (q : B true H) : tYes σ H B := q
theorem e_fmtS {te : TE} {σ : L2.St} {H : Hp} {Q : VK} (h : te σ H fun x H1 => (∃ y : Str, x = .str y ∧ y.length ≤ sizeLine ∧ Q (.str y) H1) ∨ ∃ i : Int, x = .int i ∧ i.natAbs.log2 < 1920 ∧ Q (.str (toString i)) H1) : tFmt te σ H Q := h
theorem sz {n : Nat} (h : n ≤ 100000) : n ≤ sizeLine := Nat.le_trans h (by decide)
theorem szl {n : Nat} (h : n ≤ 100000) : n < sizeLine := Nat.lt_of_le_of_lt h (by decide)
theorem walk_zipT {K : PySem.W.Frag} {a b : Addr} {xs ys : List V} {n : Nat} (hn : n = min xs.length ys.length) : Walk (RZ.ItzT K a b) n (fun H => SqT K H a xs ∧ SqT K H b ys) (YPair (fun i => xs[i]?) (fun i => ys[i]?)) := by
  subst hn
  refine ⟨fun i _ hi q => ?_, fun _ q => ⟨xs, ys, q.1, q.2, by omega⟩, fun i H v H' _ q y => ?_⟩
  · have h1 : i < xs.length := by omega
    have h2 : i < ys.length := by omega
    exact ⟨xs, ys, xs[i], ys[i], q.1, q.2, by simp [h1], by simp [h2]⟩
  · obtain ⟨T, x, z, h1, h2, h3, h4, h5⟩ := y
    exact ⟨T, x, z, h1, h2, h3, h4 xs q.1, h5 ys q.2⟩
theorem x_max {i j : Int} {H : Hp} {Q : VK} (q : ∀ m : Int, i ≤ m → j ≤ m → (m = i ∨ m = j) → Q (.int m) H) : bMax2 [.int i, .int j] H Q := by
  refine ⟨i, j, rfl, ?_⟩
  by_cases h : j > i
  · rw [if_pos h]; exact q j (by omega) (Int.le_refl _) (.inr rfl)
  · rw [if_neg h]; exact q i (Int.le_refl _) (by omega) (.inl rfl)
theorem x_min {i j : Int} {H : Hp} {Q : VK} (q : ∀ m : Int, m ≤ i → m ≤ j → (m = i ∨ m = j) → Q (.int m) H) : bMin2 [.int i, .int j] H Q := by
  refine ⟨i, j, rfl, ?_⟩
  by_cases h : j < i
  · rw [if_pos h]; exact q j (by omega) (Int.le_refl _) (.inr rfl)
  · rw [if_neg h]; exact q i (Int.le_refl _) (by omega) (.inl rfl)
theorem e_make {C : Addr} {sp : Sp} {E : XK} {t : TA} {σ : L2.St} {H : Hp} {Q : VK} (h : t σ H fun vs H1 => ∀ x dx, H1 x = none → H1 dx = none → dx ≠ x →
  sp (.ref x :: (vs ++ [])) (upd (upd H1 dx (.own x)) x (.ins C dx [])) (fun v H2 => v = .non ∧ Q (.ref x) H2) E) : tMake C sp [] E t σ H Q := h
theorem Same.mut2 {p : Addr} {H H' : Hp} (h : H p = none) (s : Sb p H H') : Same H H' := fun b o e => s b o (ne_of_none e h) e

/-! ### enumerate over a text, from k0 -/
def Ites (x : Str) (k0 : Int) : It :=
  ⟨fun i _ => i < x.cps.size, fun i H v H' => ∃ (T : Addr) (c : Nat), v = .ref T ∧ H T = none ∧ H' = upd H T (.tup [.int (k0 + (i : Nat)), .str ⟨#[c]⟩]) ∧ x.cps[i]? = some c, fun i _ => i = x.cps.size⟩
theorem turn_enumS {P : Program} {w : World} {K : PySem.W.Frag} {elts : List Expr} {kk : Nat} {tpos : Pos} (x : Str) (t : Tok) (k0 : Int) (e it : Addr) :
    Turn P w K (.Tuple elts kk tpos) (Ites x k0) [e, it] e (fun i h => (∃ old, IsEnum h e it (k0 + ((i : Nat) : Int)) old) ∧ h.IsStrIter it (strIterType x) x t i ∧ e ≠ it) where
  mem := by simp
  obj := fun i h st b hb => by
    obtain ⟨⟨old, he⟩, ⟨o, ho, hc, hd⟩, _⟩ := st
    have e' : b = e ∨ b = it := by simpa using hb
    rcases e' with z | z
    · rw [z]; exact ⟨_, he, fun v q => nomatch q⟩
    · rw [z]; exact ⟨o, ho, fun v q => by rw [hd] at q; cases q⟩
  keep := fun i h h' st k => by
    obtain ⟨⟨old, he⟩, ⟨o, ho, r⟩, hne⟩ := st
    exact ⟨⟨old, k e (by simp) _ he⟩, ⟨o, k it (by simp) o ho, r⟩, hne⟩
  item := by
    intro X hP hw hK hc i pins s σ H E I hf st hg
    subst hP hw hK
    obtain ⟨⟨old, he⟩, hit, hne⟩ := st
    have hel : e < s.heap.objs.size := Heap.lt_size he
    have hil : it < s.heap.objs.size := by obtain ⟨_, q, _⟩ := id hit; exact Heap.lt_size q
    have hh : X.A.in1.handled = none := I.ok.hd hc
    have D : Draws X.prog X.w X.A.in1 it [it] x.cps.size _ _ := Draws.text hh it x t
    refine wpAny_pyNext_enum_itemC D he hit hg hne (by simpa using hne) fun u h' tk hu ho hit' hT hsz hk => ?_
    obtain ⟨c, tc, hx, rfl⟩ := hu
    refine ⟨_, rfl, wpAny_letOwnedTupleGo_enum (s := { s with heap := h', toks := tk + 1 }) ho fun h'' he' sb => ?_⟩
    have hT2 : h''.get? s.heap.objs.size = some { cls := .type "tuple", data := .seq #[.int (k0 + (i : Nat)) tk, .str ⟨#[c]⟩ tc] } := (sb.2 _ (Nat.ne_of_gt hel)).trans hT
    have new : ObjOk X.prog X.w (upd H s.heap.objs.size (.tup [.int (k0 + (i : Nat)), .str ⟨#[c]⟩])) h'' s.heap.objs.size (.tup [.int (k0 + (i : Nat)), .str ⟨#[c]⟩]) :=
      ⟨by show 2 ≤ sizeLine; decide, [.int (k0 + (i : Nat)) tk, .str ⟨#[c]⟩ tc], .cons ⟨_, rfl⟩ (.cons ⟨_, rfl⟩ .nil), ⟨_, hT2, rfl, _, rfl⟩⟩
    have I1 : Inv X pins σ (upd H s.heap.objs.size (.tup [.int (k0 + (i : Nat)), .str ⟨#[c]⟩])) { s with heap := h'', toks := tk + 1 } :=
      I.turnedNew (ch := [e, it]) (fun b ob hb q => (sb.2 b (fun z => hb (by simp [z]))).trans (hk b ob (fun z => hb (by simp [z])) (fun z => hb (by simp [z])) q)) hf (Nat.le_refl _) new
    obtain ⟨oi, ei, ri⟩ := hit'
    refine ⟨.ref s.heap.objs.size, _, I1, rfl, ⟨_, c, rfl, I.hok.fresh (Nat.le_refl _), rfl, hx⟩, ⟨⟨.str ⟨#[c]⟩ tc, ?_⟩, ⟨oi, (sb.2 it (Ne.symm hne)).trans ei, ri⟩, hne⟩, fun b hb => ?_⟩
    · have e1 : k0 + ((i + 1 : Nat) : Int) = k0 + (i : Int) + 1 := by omega
      rw [e1]; exact he'
    · have hb' : b < s.heap.objs.size := by
        have e' : b = e ∨ b = it := by simpa using hb
        rcases e' with z | z
        · rw [z]; exact hel
        · rw [z]; exact hil
      rw [upd_ne (Nat.ne_of_lt hb')]
      exact (hf b hb).1
  done := by
    intro X hP hw hK hc i pins s σ H E I hf st hg
    subst hP hw hK
    obtain ⟨⟨old, he⟩, hit, hne⟩ := st
    obtain ⟨f0, f1, f2, f3, f4, f5⟩ := hf it (by simp)
    have hh : X.A.in1.handled = none := I.ok.hd hc
    have D : Draws X.prog X.w X.A.in1 it [it] x.cps.size _ _ := Draws.text hh it x t
    have hg' : i = x.cps.size := hg
    rw [hg'] at he hit
    exact wpAny_pyNext_enum_endD D he hit fun h' eb => ⟨rfl, I.turned (t' := s.toks) (fun b o hb q => eb b o hb q) f0 f1 f3 f4 f5⟩
  self := fun A i s Q E st h => let ⟨⟨_, he⟩, _⟩ := st; wpAny_pyIter_enum he h
def iEnumS (ta : TA) : TI := fun σ H R => ta σ H fun vs H1 => ∃ x : Str, vs = [.str x] ∧ R (Ites x 0) H1
def iEnumSK (ta tk : TA) : TI := fun σ H R => ta σ H fun vs H1 => tk σ H1 fun us H2 => ∃ (x : Str) (k0 : Int), vs = [.str x] ∧ us = [.int k0] ∧ -(2 ^ 63) ≤ k0 ∧ k0 < 2 ^ 63 ∧ R (Ites x k0) H2
section
variable {X : Cx} {e e2 : Expr} {ta tk : TA} {kpos : Pos} {p pos tpos : Pos} {elts : List Expr} {kk : Nat}
theorem fin_enumS {pins : List (Addr × Obj)} {σ : L2.St} {H : Hp} {s : Shared} {x : Str} {t : Tok} {k0 : Int} {R : It → Hp → Prop} {h' : Heap} (I : Inv X pins σ H s) (he : IsEnum h' (s.heap.objs.size + 1) s.heap.objs.size k0 .none) (hit : h'.IsStrIter s.heap.objs.size (strIterType x) x t 0)
    (hk : ∀ b o, s.heap.get? b = some o → h'.get? b = some o) (q : R (Ites x k0) H) : wpAny (model X.prog X.w) X.A (pyIter (.ref (s.heap.objs.size + 1))) (PIE X pins σ (.Tuple elts kk tpos) R) X.xe { s with heap := h' } := by
  refine wpAny_pyIter_enum he ?_
  have I2 : Inv X pins σ H { s with heap := h' } := I.kept (t' := s.toks) hk
  refine ⟨s.heap.objs.size + 1, [s.heap.objs.size + 1, s.heap.objs.size], _, _, H, rfl, I2, turn_enumS x t k0 (s.heap.objs.size + 1) s.heap.objs.size, ⟨⟨.none, ?_⟩, hit, Nat.succ_ne_self _⟩, fun b hb => ?_, q⟩
  · rw [show k0 + ((0 : Nat) : Int) = k0 by omega]; exact he
  have e' : b = s.heap.objs.size + 1 ∨ b = s.heap.objs.size := by simpa using hb
  have hle : s.heap.objs.size ≤ b := by
    rcases e' with z | z
    · rw [z]; exact Nat.le_add_right _ _
    · rw [z]; exact Nat.le_refl _
  exact I.fpOk hle (I.hok.fresh hle)
theorem pi_enumS (hg : Gl X "enumerate") (hm : X.mg "enumerate" = none) (ha : PA X [e] ta) (hs : starEach [e] X.env = [(false, eval e X.env)] := by rfl) :
    PI X (.Tuple elts kk tpos) (.Call (.Name "enumerate" p) [e] [] pos) (iEnumS ta) := by
  refine ⟨fun pins s σ H R I h => ?_⟩
  refine PyProof.Rows.Call_ (ld_blt I hg hm PyProof.Rows.boot_enumerate (PyProof.Rows.callWith_type1 (thn (ha.run pos pins s σ H _ I h) fun us s1 ⟨vs, H1, I1, r1, q1⟩ => ?_) hs rfl))
  obtain ⟨x, ex, q⟩ := q1
  subst ex
  cases r1 with
  | cons r rr =>
    cases rr
    obtain ⟨t, rfl⟩ := r
    exact call_enumerate_str fun h' he hit hsz hk => fin_enumS I1 he hit hk q
theorem callWith_typeK {M : Model} {A : Around} {E : Value → Shared → Prop} {s : Shared} {env : Env} {pos : Pos} {T : String} {e : Expr} {rest : List Expr} {kws : List Keyword} {Q : Value → Shared → Prop}
    (h : wpAny M A (spliced (backTo pos (starEach (e :: rest) env))) (fun vs s₁ => wpAny M A (evalAll ((backToKw pos (keywordEach kws env)).map (·.2)))
      (fun kvs s₂ => wpAny M A (call (.type T) vs (((backToKw pos (keywordEach kws env)).filterMap (·.1)).zip kvs)) Q E s₂) E s₁) E s)
    (he : backTo pos (starEach (e :: rest) env) = (false, eval e env) :: backTo pos (starEach rest env))
    (hplain : (backTo pos (starEach (e :: rest) env)).any (·.1) = false)
    (hall : (backToKw pos (keywordEach kws env)).all (·.1.isSome) = true)
    (hkw : (backToKw pos (keywordEach kws env)).any (·.1.isNone) = false) :
    wpAny M A (callWith pos (.type T) [] (backTo pos (starEach (e :: rest) env)) (backToKw pos (keywordEach kws env))) Q E s := by
  unfold callWith
  have h2 : wpAny M A (evalArgs (.type T) true (backTo pos (starEach (e :: rest) env)) (backToKw pos (keywordEach kws env))) (fun a s₁ => wpAny M A (call (.type T) ([] ++ a.pos) a.kw) Q E s₁) E s := by
    rw [he] at h ⊢
    exact PyProof.Rows.evalArgs_kwB hall h
  refine wpAny_bind (wpAny_holding (wpAny_mono h2 (fun a s₁ h₁ => wpAny_bind (wpAny_standAt ?_)) fun _ _ x => x))
  simp only [hplain, hkw, Bool.or_false]
  refine wpAny_bind (wpAny_pure ?_)
  exact wpAny_bind (wpAny_mono h₁ (fun r s₂ hr => wpAny_bind (wpAny_holding (wpAny_point (wpAny_pure hr)))) fun _ _ x => x)
theorem pi_enumSK (hg : Gl X "enumerate") (hm : X.mg "enumerate" = none) (ha : PA X [e] ta) (hk : PK X [⟨some "start", e2, kpos⟩] tk)
    (he : backTo pos (starEach [e] X.env) = (false, eval e X.env) :: backTo pos (starEach [] X.env) := by rfl) (hpl : (backTo pos (starEach [e] X.env)).any (·.1) = false := by rfl) :
    PI X (.Tuple elts kk tpos) (.Call (.Name "enumerate" p) [e] [⟨some "start", e2, kpos⟩] pos) (iEnumSK ta tk) := by
  refine ⟨fun pins s σ H R I h => ?_⟩
  refine wpAny_Call_Name_kw (ld_blt I hg hm PyProof.Rows.boot_enumerate ?_)
  refine callWith_typeK (thn (ha.run pos pins s σ H _ I h) fun us s1 ⟨vs, H1, I1, r1, q1⟩ => thn (hk.run pos pins s1 σ H1 _ I1 q1) fun ws s2 ⟨zs, H2, I2, r2, q2⟩ => ?_) he hpl rfl rfl
  obtain ⟨x, k0, ex, ek, h0, h1, q⟩ := q2
  subst ex
  subst ek
  cases r1 with
  | cons r rr =>
    cases rr
    obtain ⟨t, rfl⟩ := r
    cases r2 with
    | cons r' rr' =>
      cases rr'
      obtain ⟨t', rfl⟩ := r'
      refine enum_begins_start (begins_text x t) trivial h0 h1 fun h' he hit hsz hk => fin_enumS I2 he ⟨_, hit, rfl, rfl⟩ hk q
end

/-! ### C.m(..), m a staticmethod of the class at C -/
structure SMet (K : PySem.W.Frag) (C : Addr) (mc : Value) (m : Str) (p g : Addr) : Prop where
  at_ : PySem.W.findCls K (.ref C) mc m = some (.get (.builtin "staticmethod.__get__") (.ref p) .none (.ref C))
  rc : ∃ rest, PySem.W.recIn K p "staticmethod" = some (.ref g :: rest)
  kp : PySem.W.keepIn K (.ref g) = true
section
variable {X : Cx} {CX : CXT} {k : Nat} {C p g f : Addr} {fd : FuncData} {ps : List Str} {mc : Value} {sp : Sp} {E : XK} {o e : Expr} {es : List Expr} {m : Str} {pos apos : Pos} {ta : TE} {t : TA} {pl : Sem Bool}
def tSMeth (C : Addr) (sp : Sp) (E : XK) (ta : TE) (t : TA) : TE := fun σ H Q => ta σ H fun x H1 => x = .ref C ∧ t σ H1 fun vs H2 => sp (vs ++ []) H2 Q E
theorem getsm_ok {pins : List (Addr × Obj)} {σ : L2.St} {H : Hp} {s : Shared} {A : Around} {E : Value → Shared → Prop} {pl : Sem Bool} {Q : Value × List Value → Shared → Prop} (I : Inv X pins σ H s) (r : ClX.CRead X.K C mc) (c : SMet X.K C mc m p g)
    (h : ∀ s', Inv X pins σ H s' → Q (.ref g, []) s') : wpAny (model X.prog X.w) A (getMethod (.ref C) m pl) Q E s := by
  obtain ⟨rest, hp⟩ := c.rc
  refine PySem.W.method_cls I.kIn r.ga (PySem.W.cls_bind I.kIn r.rd c.at_ ?_)
  exact wpAny_call (PySem.W.sm_get (s := { s with toks := s.toks + 1 }) I.kIn hp (PySem.W.handed_on rfl (h _ (I.tok _))))
theorem pe_smeth (he : PE X o ta) (r : ClX.CRead X.K C mc) (c : SMet X.K C mc m p g) (F : FnOk X.prog X.w X.K X.mg X.base CX k g fd ps sp) (hr : Room k X.A) (hb : Binds X.K fd ps []) (hx : Passes CX X E) (ha : PA X (e :: es) t)
    (hst : starEach (e :: es) X.env = (false, eval e X.env) :: starEach es X.env := by rfl) (hpl : (backTo pos (starEach es X.env)).any (·.1) = false := by rfl)
    (ht : eval (.Call (.Attribute o m apos) (e :: es) [] pos) X.env = (do
      let ov ← eval o X.env
      standAt apos.atName
      let (fn, first) ← holding [ov] (getMethod ov m pl)
      callWith pos fn first (backTo pos (starEach (e :: es) X.env)) (backToKw pos (keywordEach [] X.env))) := by rfl) :
    PE X (.Call (.Attribute o m apos) (e :: es) [] pos) (tSMeth C sp E ta t) := by
  refine ⟨fun pins s σ H Q I h => ?_⟩
  refine PySem.W.methodCall_KW (pl := pl) (thn (he.run pins s σ H _ I h) fun u s1 ⟨x, H1, I1, rx, ex, q⟩ => ?_) ht
  subst ex
  obtain rfl : u = Value.ref C := rx
  refine getsm_ok I1 r c fun s2 I2 => ?_
  refine PySem.W.callWith_K (first := []) (h₀ := X.base) I2.ok.mod.kin c.kp (thn (ha.run pos pins s2 σ H1 _ I2 q) fun us s3 ⟨vs, H2, I3, rv, q2⟩ => ⟨I3.kIn, ?_⟩) hst hpl
  exact run_fn (us := us) (vs := vs) F hr hb .nil hx I3 rv q2
end
/-! ### len of an instance of a class with its own __len__ -/
structure LenOwn (K : PySem.W.Frag) (C f : Addr) : Prop where
  cl : Cls K C
  at_ : PySem.W.findIn K (.ref C) "__len__" = some (some (.ref f))
  fn : PySem.W.isFn K (.ref f) = true
section
variable {X : Cx} {k : Nat} {C f : Addr} {fd : FuncData} {ps : List Str} {sp : Sp}
def rLenOwn (C : Addr) (sp : Sp) : List V → Hp → VK → Prop := fun xs H Q => ∃ a dx fs, xs = [.ref a] ∧ H a = some (.ins C dx fs) ∧ sp [.ref a] H (fun y H' => ∃ n : Int, y = .int n ∧ 0 ≤ n ∧ n < 2 ^ 63 ∧ Q (.int n) H') E0
theorem call_lenOwn (lo : LenOwn X.K C f) (F : FnOk X.prog X.w X.K X.mg X.base CX0 k f fd ps sp) (hr : Room (k + 1) X.A) (hb : Binds X.K fd ps []) : CallR X (.builtin "len") (rLenOwn C sp) := by
  intro pins s σ H xs us Q I r h
  obtain ⟨a, dx, fs, rfl, ea, q⟩ := h
  obtain ⟨u, rfl, rx⟩ := vals1 r
  obtain rfl : u = Value.ref a := rx
  obtain ⟨mA, O, rr, _, _, _⟩ := ins_get I.hok ea
  obtain ⟨od, J, hl⟩ := O.look
  have r1 : Vals [V.ref a] [Value.ref a] := .cons rfl .nil
  have body : wpAny (model X.prog X.w) X.A.in1 (call (.ref f) [.ref a]) (EP X pins σ fun y H' => ∃ n : Int, y = .int n ∧ 0 ≤ n ∧ n < 2 ^ 63 ∧ Q (.int n) H') X.xe s := by
    have hlen : ([Value.ref a] ++ []).length = ps.length := by
      have := F.len _ _ _ _ q
      exact this
    refine wpAny_call (codeAny_mono (F.run X.A.in1 X.stack s H ⟨[.ref a], []⟩ ([.ref a] ++ []) [V.ref a] _ E0 hr.in1 I.env0.in1 (hb s [.ref a] I.kIn hlen) r1 q) fun fl s' hq => ?_)
    cases fl with
    | error e => exact pass0 pins σ H s e s' I hq
    | ok fl =>
      cases fl with
      | ret u => exact I.after hq
      | next => exact False.elim hq
      | brk => exact False.elim hq
      | cont => exact False.elim hq
  refine PySem.Calls.call_function_entry PySem.kind_len PySem.plain_len PySem.entry_len (PySem.args_len1 _) ?_
  unfold Builtin.«len»
  refine wpAny_bind (m := oneArg "len" _) (wpAny_pure ?_)
  refine wpAny_bind (m := callSpecial? (.ref a) (Str.ofString "__len__")) (PySem.W.special_fn I.kIn J lo.at_ (beq_iff_eq.mp lo.fn) (wpAny_mono body (fun v s1 hv => ?_) fun _ _ y => y))
  obtain ⟨y, H1, I1, ry, n, rfl, h0, h1, q1⟩ := hv
  obtain ⟨t, rfl⟩ := ry
  refine wpAny_bind (wpAny_holding (wpAny_pure (wpAny_bind (wpAny_letGo ?_))))
  show wpAny _ _ (if n < 0 then _ else _) _ _ _
  rw [if_neg (Int.not_lt.mpr h0)]
  show wpAny _ _ (if n ≥ 2 ^ 63 then _ else _) _ _ _
  rw [if_neg (Int.not_le.mpr h1)]
  exact wpAny_bind (wpAny_mkInt (wpAny_pure ⟨_, rfl, .int n, H1, I1.tok _, ⟨_, rfl⟩, q1⟩))
end

/-! ### a written dict with text keys, read by its address -/
def KGet (K : PySem.W.Frag) (a : Addr) (z : Str) (v : V) : Prop := ∃ u0, PySem.W.nsIn K a z = some (some u0) ∧ RelV v u0
def rIxK (K : PySem.W.Frag) (a : Addr) : R2 := fun x y H Q => ∃ z v, x = .ref a ∧ y = .str z ∧ KGet K a z v ∧ Q v H
theorem ix_k {X : Cx} {a : Addr} (D : ∃ es n, KDict X.K X.w a es n) : IxR X (rIxK X.K a) := by
  intro value slice pins s σ H x y v u Q I rx ry h hs
  obtain ⟨z, w, rfl, rfl, ⟨u0, e, r⟩, q⟩ := h
  obtain ⟨es, n, d⟩ := D
  exact ix_kdict value slice pins s σ H _ _ v u Q I rx ry ⟨a, z, w, rfl, rfl, ⟨es, n, u0, d.1, d.2, e, r⟩, q⟩ hs
/-! ### xs[-2::-1] -/
theorem rev2_bounds (n : Nat) : sliceBounds (some (-2)) none (some (-1)) n = (((n - 1 : Nat) : Int) - 1, -1, -1) := by
  show (max (-1) (min (if (-2 : Int) < 0 then -2 + (n : Int) else -2) ((n : Int) - 1)), (-1 : Int), (-1 : Int)) = _
  rw [if_pos (by decide)]
  have : max (-1) (min (-2 + (n : Int)) ((n : Int) - 1)) = ((n - 1 : Nat) : Int) - 1 := by omega
  rw [this]
theorem fm_congr {α β : Type} {f g : α → Option β} : ∀ {l : List α}, (∀ x ∈ l, f x = g x) → l.filterMap f = l.filterMap g
  | [], _ => rfl
  | x :: l, h => by rw [List.filterMap_cons, List.filterMap_cons, h x (.head _), fm_congr fun y hy => h y (.tail _ hy)]
theorem rev2_pick (items : Array Value) : slicePick items (some (-2)) none (some (-1)) = items.toList.dropLast.reverse.toArray := by
  unfold slicePick
  rw [rev2_bounds]
  show ((sliceRange (((items.size - 1 : Nat) : Int) - 1) (-1) (-1)).filterMap (items[·]?)).toArray = _
  rw [PySem.W.krv_sliceRange, PySem.W.krv_range, List.filterMap_reverse]
  have e : (List.range (items.size - 1)).filterMap (items[·]?) = items.toList.dropLast := by
    have h := PySem.W.krv_all items.pop
    rw [Array.size_pop, Array.toList_pop] at h
    rw [← h]
    refine fm_congr fun k hk => ?_
    have hk' := List.mem_range.mp hk
    rw [Array.getElem?_pop]
    simp [hk']
  rw [e]
def tRevL2 (K : PySem.W.Frag) (te : TE) : TE := fun σ H Q => te σ H fun x H1 => ∃ a xs, x = .ref a ∧ SqL K H1 a xs ∧ ∀ p, H1 p = none → Q (.ref p) (upd H1 p (.lst xs.dropLast.reverse))
open PySem.Spec PyProof.Rows in
theorem pe_revL2 {X : Cx} {e : Expr} {te : TE} {k k2 : Nat} {p1 p2 p3 p4 p5 pos : Pos} (he : PE X e te) :
    PE X (.Subscript e (.Slice (some (.UnaryOp .USub (.Constant (.int 2) k2 p4) p5)) none (some (.UnaryOp .USub (.Constant (.int 1) k p1) p2)) p3) pos) (tRevL2 X.K te) := by
  refine ⟨fun pins s σ H Q I h => ?_⟩
  refine PyProof.Rows.Subscript_ (thn (he.run pins s σ H _ I h) fun v s1 ⟨x, H1, I1, r1, q1⟩ => ?_)
  obtain ⟨a, xs, ex, hx, q⟩ := q1
  subst ex
  cases r1
  have hst : PO X (some (.UnaryOp .USub (.Constant (.int 1) k p1) p2)) (tPart (tUn (rU fun i => .int (-i)) (tC (.int 1)))) := po_some (pe_un un_neg pe_int)
  have hlo : PO X (some (.UnaryOp .USub (.Constant (.int 2) k2 p4) p5)) (tPart (tUn (rU fun i => .int (-i)) (tC (.int 2)))) := po_some (pe_un un_neg pe_int)
  refine wpAny_Slice (thn (hlo.run pins s1 σ H1 (fun o H2 => o = some (-2) ∧ H2 = H1) I1 ⟨2, rfl, -2, rfl, rfl, rfl⟩) fun vl s2 ⟨l, H2, I2, pl, el, e2⟩ => ?_)
  subst el e2
  refine thn (po_none.run pins s2 σ H2 (fun o H3 => o = none ∧ H3 = H2) I2 ⟨rfl, rfl⟩) fun vu s3 ⟨u, H3, I3, pu, eu, e3⟩ => ?_
  subst eu e3
  refine thn (hst.run pins s3 σ H3 (fun o H4 => o = some (-1) ∧ H4 = H3) I3 ⟨1, rfl, -1, rfl, rfl, rfl⟩) fun vs s4 ⟨o, H4, I4, ps, eo, e4⟩ => ?_
  subst eo e4
  have I5 : Inv X pins σ H4 { s4 with heap := s4.heap.push { cls := .type "slice", data := .fields #[vl, vu, vs] } } := I4.kept (t' := s4.toks) fun b ob q => Heap.get?_push_of_some _ q
  obtain ⟨its, r, ht, hz⟩ := I5.list hx
  have hlen := r.length
  show wpAny (model X.prog X.w) X.A (PyProof.Rows.subscriptTail e (.Slice (some (.UnaryOp .USub (.Constant (.int 2) k2 p4) p5)) none (some (.UnaryOp .USub (.Constant (.int 1) k p1) p2)) p3) (.ref a) (.ref s4.heap.objs.size)) (EP X pins σ Q) X.xe _
  refine tail_any (ops := [.ref a, .ref s4.heap.objs.size]) ht.isList.typeIs (PySem.slot_list_getitem.lookup) ?_ (by with_unfolding_all rfl)
  refine wpAny_getItem_list_slice ht.isList (Heap.IsSliceOf.new _ vl vu vs) pl pu ps (by decide) ?_ (by rw [List.size_toArray]; omega)
  rw [rev2_pick]
  refine ⟨.ref _, _, I5.laid (t' := s4.toks) (o := .lst xs.dropLast.reverse) (fun b ob q => Heap.get?_push_of_some _ q) (Nat.le_refl _) ?_, rfl, q _ (I5.hok.fresh (Nat.le_refl _))⟩
  have rd : Vals xs.dropLast its.dropLast := by
    exact r.dropLast
  exact ⟨by rw [List.length_reverse, List.length_dropLast]; exact Nat.le_trans (Nat.sub_le _ _) hz, _, 0, rd.reverse, Heap.get?_push_size _ rfl⟩

/-! ### more bundles -/
structure CalLen (P : Program) (w : World) (K : PySem.W.Frag) (mg : Str → Option Value) (base : Heap) (k : Nat) (C : Addr) (sp : Sp) : Prop where
  ex : ∃ f fd ps, LenOwn K C f ∧ FnOk P w K mg base CX0 k f fd ps sp ∧ Binds K fd ps []
structure CalD (P : Program) (w : World) (K : PySem.W.Frag) (mg : Str → Option Value) (base : Heap) (k : Nat) (x : Str) (ps : List Str) (dvs : List V) (sp : Sp) : Prop where
  ex : ∃ f fd ds, FnOk P w K mg base CX0 k f fd ps sp ∧ mg x = some (.ref f) ∧ PySem.W.keepIn K (.ref f) = true ∧ Binds K fd ps ds ∧ Vals dvs ds
structure CalS (P : Program) (w : World) (K : PySem.W.Frag) (mg : Str → Option Value) (base : Heap) (k : Nat) (C : Addr) (m : Str) (ps : List Str) (sp : Sp) : Prop where
  ex : ∃ mc p g fd, ClX.CRead K C mc ∧ SMet K C mc m p g ∧ FnOk P w K mg base CX0 k g fd ps sp ∧ Binds K fd ps []
section
variable {P : Program} {w : World} {K : PySem.W.Frag} {mg : Str → Option Value} {base : Heap} {j k : Nat} {x m : Str} {C : Addr} {ps : List Str} {dvs : List V} {sp : Sp}
theorem CalLen.mono (c : CalLen P w K mg base j C sp) (h : j ≤ k) : CalLen P w K mg base k C sp := by
  obtain ⟨f, fd, ps, a, F, b⟩ := c.ex
  exact ⟨f, fd, ps, a, F.mono h, b⟩
theorem CalD.mono (c : CalD P w K mg base j x ps dvs sp) (h : j ≤ k) : CalD P w K mg base k x ps dvs sp := by
  obtain ⟨f, fd, ds, F, b⟩ := c.ex
  exact ⟨f, fd, ds, F.mono h, b⟩
theorem CalS.mono (c : CalS P w K mg base j C m ps sp) (h : j ≤ k) : CalS P w K mg base k C m ps sp := by
  obtain ⟨mc, p, g, fd, a, b, F, d⟩ := c.ex
  exact ⟨mc, p, g, fd, a, b, F.mono h, d⟩
end
section
variable {X : Cx} {k : Nat} {x m : Str} {C : Addr} {ps : List Str} {dvs : List V} {sp : Sp} {p pos apos : Pos} {o e : Expr} {es : List Expr} {ta : TE} {t : TA}
theorem pe_lenC (c : CalLen X.prog X.w X.K X.mg X.base k C sp) (hr : Room (k + 1) X.A) (hg : Gl X "len") (hm : X.mg "len" = none) (ha : PA X [e] t)
    (he : starEach [e] X.env = (false, eval e X.env) :: starEach [] X.env := by rfl) : PE X (.Call (.Name "len" p) [e] [] pos) (tCB (rLenOwn C sp) t) := by
  obtain ⟨f, fd, ps, a, F, b⟩ := c.ex
  exact pe_callB (call_lenOwn a F hr b) hg hm boot_len ha (he := he)
theorem pe_callD (c : CalD X.prog X.w X.K X.mg X.base k x ps dvs sp) (hr : Room k X.A) (hg : Gl X x) (ha : PA X (e :: es) t) (hdb : (x == ("__debug__" : Str)) = false := by decide)
    (he : starEach (e :: es) X.env = (false, eval e X.env) :: starEach es X.env := by rfl) (hpl : (backTo pos (starEach es X.env)).any (·.1) = false := by rfl) : PE X (.Call (.Name x p) (e :: es) [] pos) (tCall sp dvs E0 t) := by
  obtain ⟨f, fd, ds, F, hm, hk, hb, hd⟩ := c.ex
  exact pe_call F hr hg hm hk hb hd pass0 ha hdb he hpl
theorem pe_smethC {pl : Sem Bool} (c : CalS X.prog X.w X.K X.mg X.base k C m ps sp) (hr : Room k X.A) (ho : PE X o ta) (ha : PA X (e :: es) t)
    (hst : starEach (e :: es) X.env = (false, eval e X.env) :: starEach es X.env := by rfl) (hpl : (backTo pos (starEach es X.env)).any (·.1) = false := by rfl)
    (ht : eval (.Call (.Attribute o m apos) (e :: es) [] pos) X.env = (do
      let ov ← eval o X.env
      standAt apos.atName
      let (fn, first) ← holding [ov] (getMethod ov m pl)
      callWith pos fn first (backTo pos (starEach (e :: es) X.env)) (backToKw pos (keywordEach [] X.env))) := by rfl) :
    PE X (.Call (.Attribute o m apos) (e :: es) [] pos) (tSMeth C sp E0 ta t) := by
  obtain ⟨mc, q, g, fd, a, b, F, d⟩ := c.ex
  exact pe_smeth ho a b F hr d pass0 ha hst hpl ht
end
/-! ### named readings -/
def mSplit : V → List V → Hp → VK → Prop := fun x xs H Q => ∃ a b, x = .str a ∧ xs = [.str b] ∧ (b.length == 0) = false ∧ a.length + 2 ≤ sizeLine ∧ rNewStrs (Txt.split a b) H Q
def mFind : V → List V → Hp → VK → Prop := fun x xs H Q => ∃ a b, x = .str a ∧ xs = [.str b] ∧ Q (.int (Txt.find a b)) H
def mCount : V → List V → Hp → VK → Prop := fun x xs H Q => ∃ a b, x = .str a ∧ xs = [.str b] ∧ Q (.int (Txt.count a b)) H
def bLenS : List V → Hp → VK → Prop := fun xs H Q => ∃ z : Str, xs = [.str z] ∧ z.length ≤ sizeLine ∧ Q (.int (z.length : Int)) H
theorem call_lenS {X : Cx} : CallR X (.builtin "len") bLenS := by
  intro pins s σ H xs us Q I r h
  obtain ⟨z, rfl, hz, q⟩ := h
  exact call_len pins s σ H [.str z] us Q I r ⟨.str z, z.length, rfl, ⟨hz, rfl⟩, q⟩
def bIntS : List V → Hp → VK → Prop := fun xs H Q => ∃ a n, xs = [.str a] ∧ PySem.intText? a = some n ∧ a.length ≤ 640 ∧ Q (.int n) H
/-! ### more steps -/
section
variable {D : Ends} {σ : L2.St} {H : Hp} {te tf : TE} {ta tb : TA} {v : V} {xs : List V} {Q : VK} {R : It → Hp → Prop} {K : PySem.W.Frag} {a p : Addr} {C : Addr} {sp : Sp} {E : XK}
theorem e_callD {dvs : List V} (h : ta σ H fun vs H1 => sp (vs ++ dvs) H1 Q E) : tCall sp dvs E ta σ H Q := h
theorem e_smeth (h : te σ H fun x H1 => x = .ref C ∧ ta σ H1 fun vs H2 => sp (vs ++ []) H2 Q E) : tSMeth C sp E te ta σ H Q := h
theorem i_enumS (h : ta σ H fun vs H1 => ∃ x : Str, vs = [.str x] ∧ R (Ites x 0) H1) : iEnumS ta σ H R := h
theorem i_enumSK (h : ta σ H fun vs H1 => tb σ H1 fun us H2 => ∃ (x : Str) (k0 : Int), vs = [.str x] ∧ us = [.int k0] ∧ -(2 ^ 63) ≤ k0 ∧ k0 < 2 ^ 63 ∧ R (Ites x k0) H2) : iEnumSK ta tb σ H R := h
theorem i_str (h : te σ H fun x H1 => ∃ z : Str, x = .str z ∧ R (Its z) H1) : iStr te σ H R := h
theorem e_revL (h : te σ H fun x H1 => ∃ a xs, x = .ref a ∧ SqL K H1 a xs ∧ ∀ p, H1 p = none → Q (.ref p) (upd H1 p (.lst xs.reverse))) : tRevL K te σ H Q := h
theorem e_revL2 (h : te σ H fun x H1 => ∃ a xs, x = .ref a ∧ SqL K H1 a xs ∧ ∀ p, H1 p = none → Q (.ref p) (upd H1 p (.lst xs.dropLast.reverse))) : tRevL2 K te σ H Q := h
theorem r_ixK {z : Str} (h : KGet K a z v) (q : Q v H) : rIxK K a (.ref a) (.str z) H Q := ⟨z, v, rfl, rfl, h, q⟩
theorem r_inS {c : Nat} {z : Str} (q : Q (.bl (decide (c ∈ z.cps.toList))) H) : rInS (.str ⟨#[c]⟩) (.str z) H Q := ⟨c, z, rfl, rfl, q⟩
theorem r_notInS {c : Nat} {z : Str} (q : Q (.bl (!decide (c ∈ z.cps.toList))) H) : rNotInS (.str ⟨#[c]⟩) (.str z) H Q := ⟨c, z, rfl, rfl, q⟩
theorem r_addS {x y : Str} (h : x.length + y.length ≤ sizeLine) (q : Q (.str (x ++ y)) H) : rAddS (.str x) (.str y) H Q := ⟨x, y, rfl, rfl, h, q⟩
theorem r_itemS {z : Str} {i : Int} {c : Nat} (h0 : 0 ≤ i) (h1 : i < (z.length : Int)) (hz : z.length ≤ sizeLine) (hc : z.cps[i.toNat]? = some c) (q : Q (.str ⟨#[c]⟩) H) : rItemS (.str z) (.int i) H Q := by
  refine ⟨z, i, c, rfl, rfl, h0, ?_, h1, hc, q⟩
  have : sizeLine = 16777216 := sizeLine_eq
  omega
theorem b_lenS {z : Str} (hz : z.length ≤ 100000) (q : Q (.int (z.length : Int)) H) : bLenS [.str z] H Q := ⟨z, rfl, Nat.le_trans hz (by decide), q⟩
theorem b_intS {a : Str} {n : Int} (h : PySem.intText? a = some n) (hl : a.length ≤ 640) (q : Q (.int n) H) : bIntS [.str a] H Q := ⟨a, n, rfl, h, hl, q⟩
theorem x_trI {P : Bool → Prop} {i : Int} (q : P (!decide (i = 0))) : ∃ k, TruV K (.int i) H k ∧ P k := ⟨_, rfl, q⟩
end
/-! ### sep.join(reversed(text)), sep empty -/
def tJoinRev (to te : TE) : TE := fun σ H Q => to σ H fun x H1 => x = .str "" ∧ te σ H1 fun y H2 => ∃ z : Str, y = .str z ∧ z.length ≤ 100000 ∧ Q (.str ⟨z.cps.toList.reverse.toArray⟩) H2

namespace Rvs
open PySem PySem.Spec PyProof.Rows
/-! ### facts of the type reversed -/
theorem slot_next : Slot "reversed" "__next__" "reversed.__next__" :=
  .of (owner := "reversed") (n := "__next__") (by rw [typeLookup_type, builtinLookup_eq_fast]; kernel_rfl) (by decide +kernel) (by decide +kernel) (by decide +kernel)
    (by first | exact .inl (by decide +kernel) | exact .inr (by decide +kernel)) (by rw [isSubtype_type]; kernel_rfl)
theorem entry_next : entryFor table "reversed.__next__" = some Builtin.«reversed.__next__» := entryFor_of_tree (by kernel_rfl)
theorem owner_rv : Manifest.owners.lookup (String.ofList ['d', 'e', 's', 'r', 'e', 'v', 'e', 'r'].reverse) = some Manifest.sig_reversed := by kernel_rfl
theorem args_next (a : Value) : argsOk "reversed.__next__" ⟨[a], []⟩ := by
  unfold argsOk; rw [signature?_of (id := "reversed.__next__") (n := ['_', '_', 't', 'x', 'e', 'n', '_', '_']) (o := ['d', 'e', 's', 'r', 'e', 'v', 'e', 'r']) (by kernel_rfl) owner_rv]; kernel_rfl
theorem slot_iter : Slot "reversed" "__iter__" "reversed.__iter__" :=
  .of (owner := "reversed") (n := "__iter__") (by rw [typeLookup_type, builtinLookup_eq_fast]; kernel_rfl) (by decide +kernel) (by decide +kernel) (by decide +kernel)
    (by first | exact .inl (by decide +kernel) | exact .inr (by decide +kernel)) (by rw [isSubtype_type]; kernel_rfl)
theorem args_iter (a : Value) : argsOk "reversed.__iter__" ⟨[a], []⟩ := by
  unfold argsOk; rw [signature?_of (id := "reversed.__iter__") (n := ['_', '_', 'r', 'e', 't', 'i', '_', '_']) (o := ['d', 'e', 's', 'r', 'e', 'v', 'e', 'r']) (by kernel_rfl) owner_rv]; kernel_rfl
theorem entry_iter : entryFor table "reversed.__iter__" = some Builtin.«dict_keyiterator.__iter__» :=
  entryFor_alias (id' := "dict_keyiterator.__iter__") (by kernel_rfl) (by first | rfl | decide +kernel | (unfold String.splitOn; simp +decide [String.splitOnAux])) (by decide +kernel) (by kernel_rfl)
theorem slot_hint : Slot "reversed" "__length_hint__" "reversed.__length_hint__" :=
  .of (owner := "reversed") (n := "__length_hint__") (by rw [typeLookup_type, builtinLookup_eq_fast]; kernel_rfl) (by decide +kernel) (by decide +kernel) (by decide +kernel)
    (by first | exact .inl (by decide +kernel) | exact .inr (by decide +kernel)) (by rw [isSubtype_type]; kernel_rfl)
theorem entry_hint : entryFor table "reversed.__length_hint__" = some Builtin.«reversed.__length_hint__» := entryFor_of_tree (by kernel_rfl)
theorem args_hint (a : Value) : argsOk "reversed.__length_hint__" ⟨[a], []⟩ := by
  unfold argsOk; rw [signature?_of (id := "reversed.__length_hint__") (n := ['_', '_', 't', 'n', 'i', 'h', '_', 'h', 't', 'g', 'n', 'e', 'l', '_', '_']) (o := ['d', 'e', 's', 'r', 'e', 'v', 'e', 'r']) (by kernel_rfl) owner_rv]; kernel_rfl
theorem slot_init : Slot "reversed" "__init__" "object.__init__" :=
  .of (owner := "object") (n := "__init__") (by rw [typeLookup_type, builtinLookup_eq_fast]; kernel_rfl) (by decide +kernel) (by decide +kernel) (by decide +kernel)
    (by first | exact .inl (by decide +kernel) | exact .inr (by decide +kernel)) (by rw [isSubtype_type]; kernel_rfl)
theorem nolen : typeLookup (.type "reversed") "__len__" = pure none := by rw [typeLookup_type, builtinLookup_eq_fast]; kernel_rfl
theorem called : TypeCalled "reversed" "reversed.__new__" "object.__init__" :=
  ⟨by decide +kernel, F.create_reversed, ⟨_, _, F.mro_reversed⟩, F.made_reversed, F.plain_reversed_new, F.sub_reversed_self, slot_init⟩
theorem str_norev : typeLookup (.type "str") "__reversed__" = pure none := by rw [typeLookup_type, builtinLookup_eq_fast]; kernel_rfl
abbrev IsRv (h : Heap) (m : Addr) (z : Str) (t : Tok) (i : Int) : Prop := h.get? m = some { cls := .type "reversed", dict := none, data := .fields #[.str z t, rawInt i], slots := #[] }
section
variable {prog : Program} {w : World} {A : Around} {E : Value → Shared → Prop} {s : Shared}
theorem new_rv (z : Str) (t : Tok) (hz : z.length ≤ sizeLine) : MeetsIn prog w (Builtin.«reversed.__new__» ⟨[.type "reversed", .str z t], []⟩)
    (fun A R s => R (.ok (.ret (.ref s.heap.objs.size))) { s with heap := s.heap.push { cls := .type "reversed", data := .fields #[.str z t, rawInt ((z.length : Int) - 1)] }, toks := s.toks + 1 + 1 }) :=
  .of_wp fun A R s h => by
    unfold Builtin.«reversed.__new__»
    refine wpAny_bind (wpAny_of_eq (newClass_reversed _) ?_)
    try dsimp only
    refine wpAny_bind (wpAny_of_eq (a := ()) (by first | rfl | kernel_rfl) ?_)
    refine wpAny_bind (wpAny_of_eq (a := ()) (by first | rfl | kernel_rfl) ?_)
    try dsimp only
    refine wpAny_bind (wpAny_specialOf (typeIs_str _ _ _) str_norev ?_)
    try dsimp only
    refine wpAny_bind ?_
    wp_delta
    refine wpAny_bind (wpAny_isInstance (T := "str") (b := false) (typeIs_str _ _ _) (by rw [isSubtype_type]; kernel_rfl) ?_)
    rw [if_neg Bool.false_ne_true]
    refine wpAny_bind (wpAny_specialOf (typeIs_str _ _ _) F.slot_str_getitem.lookup ?_)
    dsimp only
    rw [if_pos (by decide)]
    refine wpAny_pure ?_
    rw [if_neg (by decide)]
    have hl : sizeLine = 16777216 := sizeLine_eq
    refine wpAny_bind (len_str (by omega) ?_)
    refine wpAny_bind (m := asInt? _) (wpAny_pure ?_)
    dsimp only
    refine wpAny_bind (m := Builtin.SmallTypes.newRecord _ _) ?_
    show wpAny _ _ (newObj (.type "reversed") (.fields #[.str z t, rawInt ((z.length : Int) - 1)])) _ _ _
    refine wpAny_newObj_type ?_
    exact wpAny_pure ⟨_, rfl, h⟩
theorem call_rv {z : Str} {t : Tok} {Q : Value → Shared → Prop} (hz : z.length ≤ sizeLine)
    (h : ∀ h', IsRv h' s.heap.objs.size z t ((z.length : Int) - 1) → h'.objs.size = s.heap.objs.size + 1 → (∀ c o, s.heap.get? c = some o → h'.get? c = some o) → Q (.ref s.heap.objs.size) { s with heap := h', toks := s.toks + 1 + 1 }) :
    wpAny (model prog w) A (call (.type "reversed") [.str z t]) Q E s := by
  refine callType_newIn called (by decide) (F.typeCall_reversed_1 _) (F.newCall_reversed_1 _) (fun obj => F.args_object_init_2 obj _) F.entry_reversed_new (new_rv z t hz) ?_
  show _ ∧ _
  exact ⟨⟨_, Heap.get?_push_size _ rfl, rfl⟩, h _ (Heap.get?_push_size _ rfl) (Heap.size_push ..) fun c o e => Heap.get?_push_of_some _ e⟩
/-! ### drawn -/
theorem next_item {m : Addr} {z : Str} {t : Tok} {i c : Nat} {Q : Option Value → Shared → Prop} (hz : z.length ≤ sizeLine) (hit : IsRv s.heap m z t (i : Int)) (hx : z.cps[i]? = some c)
    (hQ : ∀ h', IsRv h' m z t ((i : Int) - 1) → Heap.SameBut m s.heap h' → ∀ tk u, s.toks ≤ tk → Q (some (.str ⟨#[c]⟩ u)) { s with heap := h', toks := tk }) : wpAny (model prog w) A (pyNext (.ref m)) Q E s := by
  have hT : s.TypeIs (.ref m) "reversed" := ⟨_, hit, rfl⟩
  have hl : sizeLine = 16777216 := sizeLine_eq
  have hi : i < z.length := by
    have := (Array.getElem?_eq_some_iff.mp hx).1
    exact this
  unfold pyNext
  refine wpAny_bind (wpAny_attempt (wpAny_callSpecial?_slot (name := Str.ofString "__next__") hT slot_next
    (wpAny_call_entry slot_next hT entry_next ?_ (args_next _))))
  unfold Builtin.«reversed.__next__»
  refine wpAny_bind (wpAny_of_eq (a := (Value.ref m, [])) rfl ?_)
  try dsimp only
  refine wpAny_bind (wpAny_field hit rfl (x := .str z t) rfl ?_)
  refine wpAny_bind (wpAny_field hit rfl (x := rawInt (i : Int)) rfl ?_)
  show wpAny _ _ (if (i : Int) < 0 then _ else _) _ _ s
  rw [if_neg (by omega)]
  refine wpAny_bind (wpAny_specialOf (typeIs_str _ _ _) F.slot_str_getitem.lookup ?_)
  rw [if_neg (by show ¬ ((some (Value.builtin "str.__getitem__")).isNone = true); exact Bool.false_ne_true)]
  refine wpAny_bind (wpAny_mkInt ?_)
  refine wpAny_bind (wpAny_attempt (P.getItem_str (c := c) (by
    have e1 : decide ((i : Int) < -(2 ^ 63 : Int)) = false := decide_eq_false (by omega)
    have e2 : decide ((i : Int) ≥ 2 ^ 63) = false := decide_eq_false (by omega)
    rw [e1, e2, Bool.or_false]) (by
      have : seqIndex? (i : Int) z.length = some i := by
        unfold seqIndex?
        simp
        omega
      rw [this]; exact hx) ?_))
  dsimp only
  refine wpAny_bind (wpAny_field hit rfl (x := rawInt (i : Int)) rfl ?_)
  show wpAny _ _ (setField (.ref m) 1 (rawInt ((i : Int) - 1)) >>= _) _ _ _
  refine wpAny_bind (wpAny_setField hit rfl (by simp) ?_)
  refine wpAny_pure ⟨_, rfl, wpAny_pure (hQ _ ?_ (Heap.SameBut.update ..) _ _ (by show s.toks ≤ s.toks + 1 + 1; omega))⟩
  exact Heap.get?_update_self _ hit rfl
theorem next_end {m : Addr} {z : Str} {t : Tok} {Q : Option Value → Shared → Prop} (hh : A.handled = none) (hit : IsRv s.heap m z t (-1))
    (hQ : ∀ h', Heap.ExtBut m s.heap h' → Q none { s with heap := h' }) : wpAny (model prog w) A (pyNext (.ref m)) Q E s := by
  have hT : s.TypeIs (.ref m) "reversed" := ⟨_, hit, rfl⟩
  unfold pyNext
  refine wpAny_bind (wpAny_attempt (wpAny_callSpecial?_slot (name := Str.ofString "__next__") hT slot_next
    (wpAny_call_entry slot_next hT entry_next ?_ (args_next _))))
  unfold Builtin.«reversed.__next__»
  refine wpAny_bind (wpAny_of_eq (a := (Value.ref m, [])) rfl ?_)
  try dsimp only
  refine wpAny_bind (wpAny_field hit rfl (x := .str z t) rfl ?_)
  refine wpAny_bind (wpAny_field hit rfl (x := rawInt (-1)) rfl ?_)
  show wpAny _ _ (if (-1 : Int) < 0 then _ else _) _ _ s
  rw [if_pos (by decide)]
  refine wpAny_bind (wpAny_rule ?_)
  refine wpAny_bind ?_
  wp_delta
  refine wpAny_bind (wpAny_setField hit rfl (by simp) ?_)
  have hit2 := Heap.get?_update_self (Obj.mapFields (·.setIfInBounds 1 (rawInt (-1)))) hit rfl
  refine wpAny_setField hit2 rfl (by simp [Obj.mapFields]) ?_
  generalize hH : ((s.heap.update m (Obj.mapFields (·.setIfInBounds 1 (rawInt (-1))))).update m (Obj.mapFields (·.setIfInBounds 0 .none))) = H2
  have hx : Heap.ExtBut m s.heap H2 := by
    rw [← hH]
    exact fun b o hb e => (Heap.get?_update_other _ _ (Ne.symm hb)).trans ((Heap.get?_update_other _ _ (Ne.symm hb)).trans e)
  show wpAny _ _ (Builtin.SmallTypes.stopIteration >>= _) _ _ _
  refine wpAny_bind ?_
  show wpAny _ _ (newExc (.type "StopIteration") [] >>= _) _ _ _
  refine wpAny_bind ?_
  simp only [newExc, newTuple]
  refine wpAny_bind (wpAny_newObj_type ?_ (by size_fits))
  refine wpAny_bind (m := firstArgMember _ _) (wpAny_of_eq (a := Value.none) (by first | rfl | (simp only [firstArgMember]; rfl)) ?_)
  refine wpAny_newObj_type ?_ (by size_fits)
  simp only [raiseNew]
  refine wpAny_bind (wpAny_handled ?_)
  first | rw [show A.in1.handled = none from hh] | rw [hh]
  refine wpAny_bind (wpAny_pure (wpAny_throw ?_))
  refine wpAny_bind (wpAny_isInstance (T := "StopIteration") (b := true) ⟨_, Heap.get?_push_size _ rfl, rfl⟩ isSubtype_stop ?_)
  exact wpAny_pure (hQ _ ((hx.push _).push _))
theorem rv_pyIter {m : Addr} {z : Str} {t : Tok} {i : Int} {Q : Value → Shared → Prop} (hm : IsRv s.heap m z t i) (h : Q (.ref m) s) : wpAny (model prog w) A (pyIter (.ref m)) Q E s := by
  have hT : s.TypeIs (.ref m) "reversed" := ⟨_, hm, rfl⟩
  refine wpAny_pyIter_slot hT slot_iter (wpAny_call_entry slot_iter hT entry_iter ?_ (args_iter _))
  show wpAny _ _ (ret (.ref m)) _ _ s
  exact wpAny_pure ⟨_, rfl, "reversed", _, hT, slot_next.lookup, h⟩
end
theorem walks_rv {prog : Program} {w : World} {A : Around} {m : Addr} {z : Str} {t : Tok} (hh : A.handled = none) (hz : z.length ≤ sizeLine) :
    WalksS prog w A m [m] [m] (fun a b => b = a) z.length (fun i v => ∃ c u, z.cps[z.length - 1 - i]? = some c ∧ v = .str ⟨#[c]⟩ u) (fun i s => IsRv s.heap m z t ((z.length : Int) - 1 - (i : Nat))) where
  sub := fun b hb => hb
  grefl := fun _ => rfl
  gtrans := fun _ _ _ h1 h2 => h2.trans h1
  frame := fun i s h' tk st _ hk => hk m (by simp) _ st
  item := fun i s Q E hi st hQ => by
    have e : (z.length : Int) - 1 - (i : Nat) = ((z.length - 1 - i : Nat) : Int) := by omega
    rw [e] at st
    have hlt : z.length - 1 - i < z.cps.size := by show z.length - 1 - i < z.length; omega
    refine next_item hz st (Array.getElem?_eq_getElem hlt) fun h' hit hs tk u htk => ?_
    have e2 : ((z.length - 1 - i : Nat) : Int) - 1 = (z.length : Int) - 1 - ((i + 1 : Nat) : Int) := by omega
    rw [e2] at hit
    exact hQ _ _ ⟨_, u, Array.getElem?_eq_getElem hlt, rfl⟩ hit ⟨fun b ob hb e => hs.extBut b ob (fun h => hb (by simp [h])) e, rfl, rfl, rfl, htk⟩
  done := fun s Q E st hQ => by
    have e : (z.length : Int) - 1 - (z.length : Nat) = -1 := by omega
    rw [e] at st
    exact next_end hh st fun h' hx => hQ _ ⟨fun b ob hb e => hx b ob (fun h => hb (by simp [h])) e, rfl, rfl, rfl, Nat.le_refl _⟩
  self := fun i s Q E st hQ => rv_pyIter st hQ
section
variable {prog : Program} {w : World} {A : Around} {E : Value → Shared → Prop} {s : Shared}
theorem hint_rv {m : Addr} {z : Str} {t : Tok} {Q : Bool → Shared → Prop} (hz : z.length ≤ sizeLine) (hit : IsRv s.heap m z t ((z.length : Int) - 1))
    (h : ∀ b tk, s.toks ≤ tk → Q b { s with toks := tk }) : wpAny (model prog w) A (Builtin.List.listLengthHint (.ref m)) Q E s := by
  have hT : s.TypeIs (.ref m) "reversed" := ⟨_, hit, rfl⟩
  have hl : sizeLine = 16777216 := sizeLine_eq
  unfold Builtin.List.listLengthHint
  refine wpAny_bind (wpAny_specialOf hT nolen ?_)
  show wpAny _ A (specialOf (Value.ref m) (Str.ofString "__length_hint__") >>= _) _ _ _
  refine wpAny_bind (wpAny_specialOf hT slot_hint.lookup ?_)
  (generalize hid : ("reversed.__length_hint__" : String) = id0; (fail_if_success (clear hid id0)); wp_delta; rw [show splitId id0 = some ("reversed", "__length_hint__") from by subst hid; decide +kernel]; subst hid)
  refine wpAny_bind (wpAny_isInstance (b := true) hT (by rw [isSubtype_type]; kernel_rfl) ?_)
  refine wpAny_ite_split (fun hab => absurd hab (by decide)) (fun _ => ?_)
  refine wpAny_ite_split (fun hab => absurd hab (by decide +kernel)) (fun _ => ?_)
  refine wpAny_bind (wpAny_rule ?_)
  refine wpAny_bind (wpAny_of_eq (slot_hint.bind _) ?_)
  dsimp only
  refine wpAny_bind (wpAny_attempt (wpAny_call_entry slot_hint hT entry_hint ?_ (args_hint _)))
  unfold Builtin.«reversed.__length_hint__»
  refine wpAny_bind (wpAny_of_eq (a := Value.ref m) rfl ?_)
  refine wpAny_bind (wpAny_field hit rfl (x := .str z t) rfl ?_)
  rw [if_neg (show ¬ ((Value.str z t == Value.none) = true) from Bool.false_ne_true)]
  refine wpAny_bind (len_str (by omega) ?_)
  refine wpAny_bind (m := asInt? _) (wpAny_pure ?_)
  dsimp only
  refine wpAny_bind (wpAny_field hit rfl (x := rawInt ((z.length : Int) - 1)) rfl ?_)
  show wpAny _ _ (if (z.length : Int) < (z.length : Int) - 1 + 1 then _ else _) _ _ _
  rw [if_neg (by omega)]
  refine wpAny_bind (m := mkInt _) (wpAny_mkInt ?_)
  refine wpAny_pure ⟨_, rfl, ?_⟩
  show wpAny _ _ (asInt? (.int _ _) >>= _) _ _ _
  refine wpAny_bind (m := asInt? _) (wpAny_pure ?_)
  dsimp only
  have ez : (z.length : Int) - 1 + 1 = z.length := by omega
  rw [ez]
  have h1 : Builtin.List.listFitsIndex (z.length : Int) = true := by unfold Builtin.List.listFitsIndex; simp; omega
  have h2 : Builtin.List.listTooLong ((z.length : Int).toNat) = false := by simp [Builtin.List.listTooLong]; omega
  rw [h1]
  refine wpAny_ite_split (fun hab => absurd hab (by decide)) (fun _ => ?_)
  refine wpAny_ite_split (fun hab => absurd hab (by omega)) (fun _ => ?_)
  refine wpAny_ite_split (fun hab => absurd hab (by rw [h2]; decide)) (fun _ => ?_)
  exact wpAny_pure (h _ _ (by show s.toks ≤ s.toks + 1 + 1 + 1; omega))
end
section
variable {prog : Program} {w : World} {A : Around} {E : Value → Shared → Prop} {s : Shared}
theorem collect_rv {m : Addr} {z : Str} {t : Tok} {Q : List Value → Shared → Prop} (hh : A.handled = none) (hz : z.length ≤ sizeLine) (hit : IsRv s.heap m z t ((z.length : Int) - 1))
    (hQ : ∀ s' acc, Moved [m] (fun a b => b = a) s s' → ItemsOf (fun i v => ∃ (c : Nat) (u : Tok), z.cps[z.length - 1 - i]? = some c ∧ v = Value.str ⟨#[c]⟩ u) acc z.length → Q acc.toList s') : wpAny (model prog w) A (collect (.ref m)) Q E s := by
  have W := walks_rv (prog := prog) (w := w) (A := A.in1) (m := m) (z := z) (t := t) hh hz
  have hml := Heap.lt_size hit
  have hSf : s.heap.objs.size ∉ [m] := fun hm => Nat.lt_irrefl _ ((List.mem_singleton.mp hm) ▸ hml)
  have hSI : s.heap.objs.size ≠ m := fun e => Nat.lt_irrefl _ (e ▸ hml)
  unfold collect
  refine wpAny_bind (wpAny_runValue (codeAny_builtin F.entry_proto_collect ?_))
  rw [Around.under_plainId F.plain_proto_collect _]
  show wpAny _ A.in1 (newList [] >>= fun l => again (.builtin "list.__iadd__" ⟨[l, .ref m], []⟩)) _ _ s
  refine wpAny_bind (wpAny_newObj_type ?_)
  refine wpAny_pure ⟨plainId_quiet F.plain_list_iadd _, codeAny_builtin F.entry_list_iadd ?_⟩
  rw [Around.under_plainId F.plain_list_iadd _]
  have hst₁ : IsRv (s.heap.push { cls := .type "list", data := .seq ([] : List Value).toArray }) m z t ((z.length : Int) - 1) := Heap.get?_push_of_some _ hit
  have hT₁ : ({ s with heap := s.heap.push { cls := .type "list", data := .seq ([] : List Value).toArray } } : Shared).TypeIs (.ref m) "reversed" := ⟨_, hst₁, rfl⟩
  show wpAny _ A.in1 (Builtin.List.listExtendWith (.ref s.heap.objs.size) (.ref m) (.ref s.heap.objs.size)) _ _ _
  unfold Builtin.List.listExtendWith
  refine wpAny_bind (wpAny_typeOf hT₁ ?_)
  have h1 : Builtin.List.listSameRef (.ref s.heap.objs.size) (.ref m) = false := by simp [Builtin.List.listSameRef, hSI]
  have h2 : (Value.type "reversed" == Value.type "list") = false := by decide
  have h3 : (Value.type "reversed" == Value.type "tuple") = false := by decide
  simp only [h1, h2, h3, Bool.or_false, Bool.false_eq_true, if_false]
  refine wpAny_bind (rv_pyIter hst₁ ?_)
  refine wpAny_bind (wpAny_holding (hint_rv hz hst₁ fun b tk htk => ?_))
  have key : ∀ (h : Heap) (c₁ tk : Nat), s.toks ≤ tk → IsRv h m z t ((z.length : Int) - 1) → (∀ b o, b ≠ s.heap.objs.size → (s.heap.push { cls := .type "list", data := .seq ([] : List Value).toArray }).get? b = some o → h.get? b = some o) →
      h.get? s.heap.objs.size = some { cls := .type "list", data := .seq #[] c₁ } →
      codeAny (model prog w) A (.builtin "list.extend.loop" ⟨[.ref s.heap.objs.size, .ref m, .ref s.heap.objs.size], []⟩)
        (fun r s' => match r with
          | .ok (.ret v) => wpAny (model prog w) A (match v with
            | .ref a => do
              match (← load a).data with
                | .seq xs _ => pure xs.toList
                | _ => unsupported "internal:collect"
            | _ => unsupported "internal:collect") Q E s'
          | .ok _ => False
          | .error e => E e s') { s with heap := h, toks := tk } := by
    intro h c₁ tk htk hit₁ hk hS₁
    have hit0 : IsRv h m z t ((z.length : Int) - 1 - ((0 : Nat) : Int)) := by
      have e0 : (z.length : Int) - 1 - ((0 : Nat) : Int) = (z.length : Int) - 1 := by omega
      rw [e0]; exact hit₁
    refine codeAny_extend_loopS W hz _ hSf _ z.length 0 ({ s with heap := h, toks := tk } : Shared) _ _ rfl (Nat.zero_le _) hit0 hS₁ (ItemsOf.nil _) fun s' acc' c' hm hS' hacc => ?_
    show wpAny _ A (load s.heap.objs.size >>= _) _ _ s'
    refine wpAny_bind (wpAny_load hS' ?_)
    refine wpAny_pure (hQ s' acc' (Moved.drop_new (o := { cls := .type "list", data := .seq ([] : List Value).toArray }) (tk := s.toks) (Moved.trans W.gtrans ((Moved.refl (G := fun a b => b = a) (s := ({ s with heap := s.heap.push { cls := .type "list", data := .seq ([] : List Value).toArray } } : Shared)) W.grefl).then_heap (tk := tk) (by exact htk) fun b o hb e => ?_) hm) (Nat.le_refl _)) hacc)
    exact hk b o (fun h => hb (h ▸ List.mem_cons_self)) e
  have hS₁ : (s.heap.push { cls := .type "list", data := .seq ([] : List Value).toArray }).get? s.heap.objs.size = some { cls := .type "list", data := .seq ([] : List Value).toArray } := Heap.get?_push_size _ rfl
  refine wpAny_ite_split (fun _ => ?_) (fun _ => ?_)
  · refine wpAny_bind (wpAny_rule ?_)
    refine wpAny_bind ?_
    show wpAny _ A.in1 (updateSeq s.heap.objs.size (·.push .none) >>= fun _ => updateSeq s.heap.objs.size (·.pop)) _ _ _
    refine wpAny_bind (wpAny_updateSeq hS₁ rfl ?_)
    have hS₂ := Heap.get?_update_self (Obj.mapSeq (·.push Value.none)) hS₁ rfl
    refine wpAny_updateSeq hS₂ rfl ?_
    have hS₃ := Heap.get?_update_self (Obj.mapSeq (·.pop)) hS₂ rfl
    have oth : ∀ b o, b ≠ s.heap.objs.size → (s.heap.push { cls := .type "list", data := .seq ([] : List Value).toArray }).get? b = some o →
        (((s.heap.push { cls := .type "list", data := .seq ([] : List Value).toArray }).update s.heap.objs.size (Obj.mapSeq (·.push Value.none))).update s.heap.objs.size (Obj.mapSeq (·.pop))).get? b = some o :=
      fun b o hb e => (Heap.get?_update_other _ _ (Ne.symm hb)).trans ((Heap.get?_update_other _ _ (Ne.symm hb)).trans e)
    exact wpAny_pure ⟨plainId_quiet F.plain_extend_loop _, key _ _ _ htk (oth _ _ (Ne.symm hSI) hst₁) oth hS₃⟩
  · exact wpAny_pure ⟨plainId_quiet F.plain_extend_loop _, key _ _ _ htk hst₁ (fun b o _ e => e) hS₁⟩
theorem ones_sum : ∀ l : List Nat, (l.map fun _ => 1).sum = l.length
  | [] => rfl
  | _ :: l => by rw [List.map_cons, List.sum_cons, ones_sum l, List.length_cons]; omega
theorem strs_of_get : ∀ {vs : List Value} {ys : List Str}, vs.length = ys.length → (∀ (j : Nat) (v : Value) (y : Str), vs[j]? = some v → ys[j]? = some y → ∃ u, v = Value.str y u) → StrsAre vs ys
  | [], [], _, _ => .nil
  | v :: vs, y :: ys, hl, h => by
    obtain ⟨u, rfl⟩ := h 0 v y rfl rfl
    exact .cons y u (strs_of_get (Nat.succ.inj hl) fun j a b ha hb => h (j + 1) a b ha hb)
  | [], _ :: _, hl, _ => absurd hl (by simp)
  | _ :: _, [], hl, _ => absurd hl (by simp)
theorem rv_strs (z : Str) (acc : Array Value) (h : ItemsOf (fun i v => ∃ (c : Nat) (u : Tok), z.cps[z.length - 1 - i]? = some c ∧ v = Value.str ⟨#[c]⟩ u) acc z.length) : StrsAre acc.toList (z.cps.toList.reverse.map fun c => (⟨#[c]⟩ : Str)) := by
  refine strs_of_get (by rw [Array.length_toList, h.1, List.length_map, List.length_reverse]; simp [Str.length]) fun j v y hv hy => ?_
  obtain ⟨c, u, hc, rfl⟩ := h.2 j v (by simpa using hv)
  have hj : j < z.length := by
    have := (List.getElem?_eq_some_iff.mp hv).1
    rw [Array.length_toList, h.1] at this
    exact this
  rw [List.getElem?_map, List.getElem?_reverse (by show j < z.cps.toList.length; simpa [Str.length] using hj)] at hy
  have e : z.cps.toList.length - 1 - j = z.length - 1 - j := by simp [Str.length]
  rw [e, Array.getElem?_toList, hc] at hy
  cases hy
  exact ⟨u, rfl⟩
theorem joinL_nil : ∀ L : List (List Nat), TL.joinL [] L = L.flatten
  | [] => rfl
  | [p] => by show p = [p].flatten; simp
  | p :: r :: s => by
    show p ++ ([] ++ TL.joinL [] (r :: s)) = _
    rw [List.nil_append, joinL_nil (r :: s), List.flatten_cons (L := r :: s)]
theorem rv_join (cs : List Nat) : Txt.join "" (cs.map fun c => (⟨#[c]⟩ : Str)) = ⟨cs.toArray⟩ := by
  have e : TL.tl (Txt.join "" (cs.map fun c => (⟨#[c]⟩ : Str))) = cs := by
    rw [TL.join_eq, TL.tl_join, show TL.tl ("" : Str) = [] by decide +kernel, joinL_nil, List.map_map]
    show (cs.map fun c => [c]).flatten = cs
    induction cs with
    | nil => rfl
    | cons c cs ih => rw [List.map_cons, List.flatten_cons, ih]; rfl
  generalize Txt.join "" (cs.map fun c => (⟨#[c]⟩ : Str)) = y at e
  obtain ⟨a⟩ := y
  have e' : a.toList = cs := e
  rw [← e']
theorem join_rv {m : Addr} {z : Str} {t t0 : Tok} {Q : Value → Shared → Prop} (hh : A.handled = none) (hz : z.length ≤ 100000) (hit : IsRv s.heap m z t ((z.length : Int) - 1))
    (hq : ∀ s', Moved [m] (fun a b => b = a) s s' → ∀ t' k, Q (.str ⟨z.cps.toList.reverse.toArray⟩ t') { s' with toks := k }) :
    wpAny (model prog w) A (call (.builtin "str.join") [.str "" t0, .ref m]) Q E s := by
  have hl : sizeLine = 16777216 := sizeLine_eq
  refine wpAny_call (codeAny_call_builtin F.slot_str_join.plain F.entry_str_join (F.slot_str_join.check _ _ _ _ _ _ _ _ (typeIs_str _ _ _) (F.args_str_join_2 _ _) ?_))
  rw [join_tree_other]
  refine wpAny_bind (wpAny_typeOf (T := "reversed") ⟨_, hit, rfl⟩ ?_)
  show wpAny _ A.in1 ((pyIter (.ref m)).tryCatch _ >>= fun it => collect it >>= fun items => joinTail "" items) _ _ s
  refine wpAny_bind (wpAny_tryCatch (rv_pyIter hit ?_))
  refine wpAny_bind (collect_rv hh (by omega) hit fun s' acc hm hacc => ?_)
  obtain ⟨l, hl2, ht⟩ := strsAre_values (rv_strs z acc hacc)
  rw [hl2]
  have hlen : ((z.cps.toList.reverse.map fun c => (⟨#[c]⟩ : Str)).map (·.length)).sum = z.length := by
    rw [List.map_map]
    have : ((fun y : Str => y.length) ∘ fun c => (⟨#[c]⟩ : Str)) = fun _ => 1 := rfl
    rw [this, ones_sum, List.length_reverse]
    simp [Str.length]
  have hok : ((z.cps.toList.reverse.map fun c => (⟨#[c]⟩ : Str)).map (·.length)).sum + (z.cps.toList.reverse.map fun c => (⟨#[c]⟩ : Str)).length * ("" : Str).length ≤ 16777216 := by
    rw [hlen]
    have : ("" : Str).length = 0 := by decide
    rw [this]
    omega
  have hj := rv_join z.cps.toList.reverse
  rw [← ht] at hok hj
  have hok' := joinOk_of hok
  unfold JoinOk at hok'
  rw [Bool.not_eq_true'] at hok'
  have g : Gives (joinTail "" (strValues l)) (joinMade "" l) := by
    have g0 := gives_joinTail "" l hok'
    cases l with
    | nil => exact g0
    | cons p r => cases r with
      | nil => exact g0
      | cons q r' => exact g0
  exact g prog w A (wants Q E) s' (post_join l ⟨joinFit_length hok', fun t' k => by rw [← ht] at *; first | exact hj ▸ hq s' hm t' k | (rw [hj]; exact hq s' hm t' k)⟩)
end
end Rvs
open PySem PySem.Spec PyProof.Rows L2
theorem pe_joinRev {X : Cx} {o e : Expr} {to te : TE} {apos pos p pos2 : Pos} (hc : X.calm = true) (hg : Gl X "reversed") (hm : X.mg "reversed" = none) (ho : PE X o to) (he : PE X e te)
    (hs1 : starEach [.Call (.Name "reversed" p) [e] [] pos2] X.env = [(false, eval (.Call (.Name "reversed" p) [e] [] pos2) X.env)] := by rfl)
    (hs : starEach [e] X.env = (false, eval e X.env) :: starEach [] X.env := by rfl)
    (hbase : attributeBase o "join" X.env (eval o X.env) = eval o X.env := by rfl) (hline : (apos.endLine == pos.line) = true := by rfl) :
    PE X (.Call (.Attribute o "join" apos) [.Call (.Name "reversed" p) [e] [] pos2] [] pos) (tJoinRev to te) := by
  refine ⟨fun pins s σ H Q I h => ?_⟩
  refine PySem.Call_method1 hbase hs1 hline (thn (ho.run pins s σ H _ I h) fun v s1 ⟨x, H1, I1, r1, ex, q1⟩ => ?_)
  subst ex
  obtain ⟨t, rfl⟩ := _root_.id r1
  refine ⟨"str", _, F.plainAttrs_str, F.slot_str_join, F.type_str_join, typeIs_str _ _ _, (fun _ e => nomatch e), Calls.callWith_builtin rfl (Calls.evalArgs_plain (Calls.spliced_cons ?_))⟩
  refine wpAny_Call_Name_kw (ld_blt I1 hg hm PyProof.Rows.boot_reversed ?_)
  refine PyProof.Rows.callWith_type1 ?_ hs rfl
  rw [hs]
  show wpAny _ _ (spliced ((false, eval e X.env) :: [])) _ _ s1
  refine Calls.spliced_cons (thn (he.run pins s1 σ H1 _ I1 q1) fun u s2 ⟨y, H2, I2, r2, z, ey, hz, q2⟩ => ?_)
  subst ey
  obtain ⟨tz, rfl⟩ := _root_.id r2
  have hsl : sizeLine = 16777216 := sizeLine_eq
  refine Calls.spliced_nil (Rvs.call_rv (by omega) fun h' hi hsz hk => Calls.spliced_nil ?_)
  refine Rvs.join_rv (I2.ok.hd hc) hz hi fun s' mv t' k => ?_
  refine ⟨.str _, H2, ?_, ⟨t', rfl⟩, q2⟩
  rw [Moved.eq_with mv]
  refine I2.kept (t' := k) fun b o eb => mv.heap b o (fun hm' => ?_) (hk _ _ eb)
  rw [List.mem_singleton.mp hm'] at eb
  exact absurd (Heap.lt_size eb) (Nat.lt_irrefl _)

/-! ### what a head tells: facts, defs at any address, tables with text keys, a Bool; the interpreter's statics are looked at too -/
abbrev AlZ : Type := (He.AlD × List (Option (List (Option (Str × Int))))) × Bool
def obsZK (fa : List He.Fa) (fn : List He5.DefA) (ts : List He.Tab) (ex : PySem.W.Frag → Bool) (K : PySem.W.Frag) : AlZ := ((He5.obsA fa fn K, ts.map fun t => He.dicW K (t.1 K)), ex K)
def valZ (fn : List He5.DefA) (ts : List He.Tab) (w : World) : AlZ := ((He5.valA fn, ts.map fun t => some (He.keysIn w.params t.2)), true)
def obsZ (n : Nat) (fa : List He.Fa) (fn : List He5.DefA) (ts : List He.Tab) (ex : PySem.W.Frag → Bool) (g : Addr → Option Obj) : AlZ := obsZK fa fn ts ex (He.frT g (He5.asA g n))
structure SaysZ (fa : List He.Fa) (fn : List He5.DefA) (ts : List He.Tab) (ex : PySem.W.Frag → Bool) (w : World) (K : PySem.W.Frag) : Prop where
  d : He5.SaysA fa fn K
  tabs : (ts.map fun t => He.dicW K (t.1 K)) = ts.map fun t => some (He.keysIn w.params t.2)
  more : ex K = true
theorem SaysZ.of_obs {fa : List He.Fa} {fn : List He5.DefA} {ts : List He.Tab} {ex : PySem.W.Frag → Bool} {w : World} {K : PySem.W.Frag} (e : obsZK fa fn ts ex K = valZ fn ts w) : SaysZ fa fn ts ex w K :=
  ⟨congrArg (fun z : AlZ => z.1.1) e, congrArg (fun z : AlZ => z.1.2) e, congrArg (fun z : AlZ => z.2) e⟩
def hookZ (n : Nat) (fa : List He.Fa) (fn : List He5.DefA) (ts : List He.Tab) (ex : PySem.W.Frag → Bool) : PySem.W.Hook where
  α := AlZ
  obs := fun s => obsZ n fa fn ts ex s.heap.get?
  val := fun w => valZ fn ts w
  says := fun w h => ∃ K : PySem.W.Frag, K.In h ∧ SaysZ fa fn ts ex w K
  of := fun _ _ e => ⟨_, He.frT_in, SaysZ.of_obs e⟩
  keeps := fun _ _ _ ⟨K, hK, c⟩ k => ⟨K, PySem.W.Frag.In.keeps hK k, c⟩
theorem obsZ_eq {n : Nat} {fa : List He.Fa} {fn : List He5.DefA} {ts : List He.Tab} {ex : PySem.W.Frag → Bool} {g : Addr → Option Obj} {s : Shared} (h : ∀ a, g a = s.heap.get? a) : obsZ n fa fn ts ex g = (hookZ n fa fn ts ex).obs s := by
  have e : g = s.heap.get? := funext h
  rw [e] <;> rfl
section
variable {fa : List He.Fa} {fn : List He5.DefA} {ts : List He.Tab} {ex : PySem.W.Frag → Bool} {w : World} {K : PySem.W.Frag}
theorem SaysZ.tab (c : SaysZ fa fn ts ex w K) (i : Nat) {t : He.Tab} (h : ts[i]? = some t := by rfl) : ∃ es n, KDict K w (t.1 K) es n := by
  have e2 : (ts.map fun t => He.dicW K (t.1 K))[i]? = (ts.map fun t => some (He.keysIn w.params t.2))[i]? := by rw [c.tabs]
  rw [List.getElem?_map, List.getElem?_map, h] at e2
  exact He.dicW_ok (Option.some.inj e2)
end
/-! ### a tuple of K at an address -/
def tupA (K : PySem.W.Frag) (a : Addr) (vs : List V) : Bool := match K.lookup a with
  | some ⟨.type c, _, .seq its _, _⟩ => decide (c = "tuple") && (decide (its.size ≤ sizeLine) && He.relAll vs its.toList)
  | _ => false
theorem tupA_ok {K : PySem.W.Frag} {a : Addr} {vs : List V} (h : tupA K a vs = true) (H : Hp) : SqT K H a vs := by
  unfold tupA at h
  split at h
  · rename_i c od its n sl q
    obtain ⟨h1, h2⟩ := He.ba h
    obtain ⟨h3, h4⟩ := He.ba h2
    exact .inr ⟨_, its, n, q, congrArg Value.type (of_decide_eq_true h1), rfl, of_decide_eq_true h3, He.relAll_ok h4⟩
  · cases h
/-! ### a class whose attributes are read plainly; its staticmethods; its own len -/
theorem cread_of {K : PySem.W.Frag} {C : Addr} (h0 : PySem.W.readsIn K C (.type "type") = true) : ClX.CRead K C (.type "type") := by
  refine ⟨h0, ?_⟩
  have h := h0
  unfold PySem.W.readsIn at h
  obtain ⟨h, _⟩ := He.ba h
  obtain ⟨h, _⟩ := He.ba h
  obtain ⟨h, h3⟩ := He.ba h
  obtain ⟨_, h2⟩ := He.ba h
  unfold PySem.W.specialIn
  rw [beq_iff_eq.mp h2, Option.bind_some]
  exact beq_iff_eq.mp h3
def smB (K : PySem.W.Frag) (C : Addr) (m : Str) : Bool := PySem.W.readsIn K C (.type "type") && He5.wrapB K C "staticmethod" "staticmethod.__get__" m
abbrev smAt (K : PySem.W.Frag) (C : Addr) (m : Str) : Addr := He5.wf K C "staticmethod" m
theorem smB_ok {P : Program} {w : World} {K : PySem.W.Frag} {mg : Str → Option Value} {base : Heap} {k : Nat} {C : Addr} {m : Str} {ps : List Str} {sp : Sp} {fd : FuncData} (h : smB K C m = true) (hk : PySem.W.keepIn K (.ref (smAt K C m)) = true)
    (F : FnOk P w K mg base CX0 k (smAt K C m) fd ps sp) (B : Binds K fd ps []) : CalS P w K mg base k C m ps sp := by
  obtain ⟨h1, h2⟩ := He.ba h
  obtain ⟨h3, h4⟩ := He5.wrapB_ok h2
  exact ⟨_, _, _, fd, cread_of h1, ⟨h3, h4, hk⟩, F, B⟩
theorem lenOwn_of {K : PySem.W.Frag} {x : Str} (cl : Cls K (He.ga K x)) (h : (He.Fa.meth x "__len__").ok K = true) : LenOwn K (He.ga K x) (He.ma K (He.ga K x) "__len__") := by
  obtain ⟨h1, h2⟩ := He.ba h
  obtain ⟨h3, h4⟩ := He.ba h2
  exact ⟨cl, He.eqO_ok h1, h3⟩
theorem fnOk_false {P : Program} {w : World} {K : PySem.W.Frag} {mg : Str → Option Value} {base : Heap} {k : Nat} {f : Addr} {fd : FuncData} {ps : List Str} {sp : Sp} (h : ∀ vs H Q E, ¬ sp vs H Q E) : FnOk P w K mg base CX0 k f fd ps sp :=
  ⟨fun vs H Q E z => absurd z (h vs H Q E), fun A outer s H args us vs Q E _ _ _ _ z => absurd z (h vs H Q E)⟩
theorem calD_of {P : Program} {w : World} {K : PySem.W.Frag} {mg : Str → Option Value} {base : Heap} {k n j : Nat} {x qual : Str} {params : Arguments} {body : List Stmt} {scope : Scope} {dvs : List V} {kws : List (Str × V)} {f : Addr} {fd : FuncData} {ps : List Str} {sp : Sp}
    (F : FunD K x qual params body scope dvs kws f fd) (ok : FnOk P w K mg base CX0 k f fd ps sp) (hm : mg x = some (.ref f)) (hd : dvs ≠ []) (hn : n + (dvs.length - j) = ps.length)
    (h : ∀ (T : Addr) (kV doc pm : Value) (an : Option Addr) (cdv ct : Value) (us its : List Value), us.length = n → its.length = dvs.length →
      ∃ k, bindArgs (PySem.W.fnOf x qual params body scope (.ref T) kV doc pm an cdv ct) ⟨us, []⟩ = seqItems? (.ref T) >>= k ∧ k (some its.toArray) = pure (ps.zip (us ++ its.drop j))) : CalD P w K mg base k x ps (dvs.drop j) sp := by
  obtain ⟨ds, hv, hb⟩ := F.binds1 (ps := ps) n j hd hn h
  exact ⟨f, fd, ds, ok, hm, F.kp, hb, hv⟩

/-! ### o.m(..) by one bundle -/
structure CalMt (P : Program) (w : World) (K : PySem.W.Frag) (mg : Str → Option Value) (base : Heap) (k : Nat) (C : Addr) (m : Str) (ps : List Str) (dvs : List V) (sp : Sp) : Prop where
  ex : ∃ f fd ds, Cls K C ∧ Meth K C m f ∧ FnOk P w K mg base CX0 k f fd ps sp ∧ Binds K fd ps ds ∧ Vals dvs ds
theorem CalMt.mono {P : Program} {w : World} {K : PySem.W.Frag} {mg : Str → Option Value} {base : Heap} {j k : Nat} {C : Addr} {m : Str} {ps : List Str} {dvs : List V} {sp : Sp} (c : CalMt P w K mg base j C m ps dvs sp) (h : j ≤ k) : CalMt P w K mg base k C m ps dvs sp := by
  obtain ⟨f, fd, ds, a, b, F, r⟩ := c.ex
  exact ⟨f, fd, ds, a, b, F.mono h, r⟩
section
variable {X : Cx} {k : Nat} {x m : Str} {C : Addr} {ps : List Str} {dvs : List V} {sp : Sp} {p pos apos : Pos} {o e : Expr} {es : List Expr} {ta : TE} {t : TA}
theorem pe_methC {pl : Sem Bool} (c : CalMt X.prog X.w X.K X.mg X.base k C m ps dvs sp) (hr : Room k X.A) (ho : PE X o ta) (ha : PA X (e :: es) t)
    (hst : starEach (e :: es) X.env = (false, eval e X.env) :: starEach es X.env := by rfl) (hpl : (backTo pos (starEach es X.env)).any (·.1) = false := by rfl)
    (ht : eval (.Call (.Attribute o m apos) (e :: es) [] pos) X.env = (do
      let ov ← eval o X.env
      standAt apos.atName
      let (f, first) ← holding [ov] (getMethod ov m pl)
      callWith pos f first (backTo pos (starEach (e :: es) X.env)) (backToKw pos (keywordEach [] X.env))) := by rfl) :
    PE X (.Call (.Attribute o m apos) (e :: es) [] pos) (tMeth C m sp dvs E0 ta t) := by
  obtain ⟨f, fd, ds, a, b, F, hb, hd⟩ := c.ex
  exact pe_meth ho a b F hr hb hd pass0 ha hst hpl ht
theorem pe_methC0 {pl : Sem Bool} (c : CalMt X.prog X.w X.K X.mg X.base k C m ps dvs sp) (hr : Room k X.A) (ho : PE X o ta)
    (ht : eval (.Call (.Attribute o m apos) [] [] pos) X.env = (do
      let ov ← eval o X.env
      standAt apos.atName
      let (f, first) ← holding [ov] (getMethod ov m pl)
      callWith pos f first (backTo pos (starEach [] X.env)) (backToKw pos (keywordEach [] X.env))) := by rfl) :
    PE X (.Call (.Attribute o m apos) [] [] pos) (tMeth C m sp dvs E0 ta tNil) := by
  obtain ⟨f, fd, ds, a, b, F, hb, hd⟩ := c.ex
  exact pe_meth0 ho a b F hr hb hd pass0 ht
end
theorem e_meth {C : Addr} {m : Str} {sp : Sp} {dvs : List V} {ta : TE} {t : TA} {σ : L2.St} {H : Hp} {Q : VK} (h : ta σ H fun x H1 => ∃ a dx fs, x = .ref a ∧ H1 a = some (.ins C dx fs) ∧ fs.lookup m = none ∧ t σ H1 fun vs H2 => sp (x :: (vs ++ dvs)) H2 Q E0) : tMeth C m sp dvs E0 ta t σ H Q := h
theorem g_unl {K : PySem.W.Frag} {n : Nat} {gs : TGs} {a : Addr} {xs : List V} {σ : L2.St} {H : Hp} {R : L2.St → Hp → Prop} (h : SqL K H a xs) (hl : xs.length = n) (q : gs xs σ H R) : gUnl K n gs (.ref a) σ H R := ⟨a, xs, rfl, h, hl, q⟩

def top (i : Nat) : Stmt := PySem.Challenge.pw_buriedsure_k52_whole_idle_letters_put_in.main.body.getD i (.Pass ⟨0, 0, 0, 0⟩)
abbrev s_BadRota___init__ : Stmt := inClass (top 1) 0
abbrev s_BadWorld___init__ : Stmt := inClass (top 2) 0
abbrev s_OutOf___init__ : Stmt := inClass (top 3) 0
abbrev s_TooMany___init__ : Stmt := inClass (top 4) 0
abbrev s_true_hands : Stmt := top 11
abbrev s_has_false_hand : Stmt := top 12
abbrev s_hands_at : Stmt := top 13
abbrev s_slots_with_true_hands : Stmt := top 14
abbrev s_slots_with_false_hand : Stmt := top 15
abbrev s_first_strange : Stmt := top 16
abbrev s_rota_fault : Stmt := top 17
abbrev s_letters_of_text : Stmt := top 18
abbrev s_text_of_letters : Stmt := top 19
abbrev s_check_length : Stmt := top 22
abbrev s_Rota___init__ : Stmt := inClass (top 27) 0
abbrev s_Rota_letter : Stmt := inClass (top 27) 1
abbrev s_Rota_hands : Stmt := inClass (top 27) 2
abbrev s_Rota_first : Stmt := inClass (top 27) 3
abbrev s_Rota_true_slots : Stmt := inClass (top 27) 4
abbrev s_Rota_false_slots : Stmt := inClass (top 27) 5
abbrev s_Rota___add__ : Stmt := inClass (top 27) 6
abbrev s_Rota___eq__ : Stmt := inClass (top 27) 7
abbrev s_Rota___len__ : Stmt := inClass (top 27) 8
abbrev s_time_of : Stmt := top 28
abbrev s_world_words : Stmt := top 29
abbrev s_World___init__ : Stmt := inClass (top 30) 0
abbrev s_World_of : Stmt := inClass (top 30) 1
abbrev s_World___eq__ : Stmt := inClass (top 30) 2
abbrev s_time_or_last : Stmt := top 32
abbrev s_ask_slot : Stmt := top 33
abbrev s_next_reach : Stmt := top 35
abbrev s_next_margin : Stmt := top 36
abbrev s_numbers_at_end : Stmt := top 37
abbrev s_false_slots_left : Stmt := top 38
abbrev s_numbers : Stmt := top 40
abbrev s_surplus : Stmt := top 41
abbrev s_gap : Stmt := top 43
abbrev s_rank : Stmt := top 44
abbrev s_lay_by : Stmt := top 45
abbrev s_is_covered : Stmt := top 46
abbrev s_uncovered : Stmt := top 47
abbrev s_start_row : Stmt := top 52
abbrev s_growths_of : Stmt := top 53
abbrev s_growths_of_both : Stmt := top 54
abbrev s_growths_at : Stmt := top 55
abbrev s_choices : Stmt := top 56
abbrev s_slot_height : Stmt := top 57
abbrev s_after : Stmt := top 58
abbrev s_is_wasted : Stmt := top 60
abbrev s_useful_choices : Stmt := top 61
abbrev s_next_stage : Stmt := top 62
abbrev s_search_stages : Stmt := top 63
abbrev s__holds : Stmt := top 65
abbrev s_is_fixed : Stmt := top 66
abbrev s_asked_time : Stmt := top 68
abbrev s_step_of : Stmt := top 71
abbrev s_running_sums : Stmt := top 72
abbrev s_lows_of : Stmt := top 73
abbrev s_highs_of : Stmt := top 74
abbrev s_gate_slots : Stmt := top 75
abbrev s_gates : Stmt := top 77
abbrev s__law_bag : Stmt := top 79
abbrev s__law_draw : Stmt := top 80
abbrev s__law_of : Stmt := top 81
abbrev s__law_like : Stmt := top 82
abbrev s__law_letters : Stmt := top 83
abbrev s__law_line : Stmt := top 84
abbrev s__law_text : Stmt := top 85
abbrev s__law_sums : Stmt := top 86
abbrev s__law_over : Stmt := top 87
abbrev s__law_gates_fast : Stmt := top 88
abbrev s__law_put_in : Stmt := top 89
abbrev s_law : Stmt := top 90
abbrev s__law_ofS : Stmt := top 81
abbrev s__law_like0 : Stmt := top 82
abbrev s__law_like1 : Stmt := top 82
abbrev s__law_like2 : Stmt := top 82
abbrev s__law_likeZ : Stmt := top 82
abbrev N_check_length : List Str := ["text"]
abbrev P_check_length : List Str := ["text"]
theorem sc_check_length : FnScope N_check_length P_check_length (defScope s_check_length) := ⟨rfl, rfl, rfl, by decide +kernel, rfl, by decide +kernel, by decide +kernel⟩
abbrev N_first_strange : List Str := ["text", "at", "char"]
abbrev P_first_strange : List Str := ["text"]
theorem sc_first_strange : FnScope N_first_strange P_first_strange (defScope s_first_strange) := ⟨rfl, rfl, rfl, by decide +kernel, rfl, by decide +kernel, by decide +kernel⟩
abbrev N_rota_fault : List Str := ["text"]
abbrev P_rota_fault : List Str := ["text"]
theorem sc_rota_fault : FnScope N_rota_fault P_rota_fault (defScope s_rota_fault) := ⟨rfl, rfl, rfl, by decide +kernel, rfl, by decide +kernel, by decide +kernel⟩
abbrev N_letters_of_text : List Str := ["text"]
abbrev P_letters_of_text : List Str := ["text"]
theorem sc_letters_of_text : FnScope N_letters_of_text P_letters_of_text (defScope s_letters_of_text) := ⟨rfl, rfl, rfl, by decide +kernel, rfl, by decide +kernel, by decide +kernel⟩
abbrev N_true_hands : List Str := ["letter"]
abbrev P_true_hands : List Str := ["letter"]
theorem sc_true_hands : FnScope N_true_hands P_true_hands (defScope s_true_hands) := ⟨rfl, rfl, rfl, by decide +kernel, rfl, by decide +kernel, by decide +kernel⟩
abbrev N_has_false_hand : List Str := ["letter"]
abbrev P_has_false_hand : List Str := ["letter"]
theorem sc_has_false_hand : FnScope N_has_false_hand P_has_false_hand (defScope s_has_false_hand) := ⟨rfl, rfl, rfl, by decide +kernel, rfl, by decide +kernel, by decide +kernel⟩
abbrev N_slots_with_true_hands : List Str := ["letters", "at", "letter"]
abbrev P_slots_with_true_hands : List Str := ["letters"]
theorem sc_slots_with_true_hands : FnScope N_slots_with_true_hands P_slots_with_true_hands (defScope s_slots_with_true_hands) := ⟨rfl, rfl, rfl, by decide +kernel, rfl, by decide +kernel, by decide +kernel⟩
abbrev N_slots_with_false_hand : List Str := ["letters", "at", "letter"]
abbrev P_slots_with_false_hand : List Str := ["letters"]
theorem sc_slots_with_false_hand : FnScope N_slots_with_false_hand P_slots_with_false_hand (defScope s_slots_with_false_hand) := ⟨rfl, rfl, rfl, by decide +kernel, rfl, by decide +kernel, by decide +kernel⟩
abbrev N_Rota___init__ : List Str := ["self", "text", "at", "letters"]
abbrev P_Rota___init__ : List Str := ["self", "text"]
theorem sc_Rota___init__ : FnScope N_Rota___init__ P_Rota___init__ (defScope s_Rota___init__) := ⟨rfl, rfl, rfl, by decide +kernel, rfl, by decide +kernel, by decide +kernel⟩
abbrev N_Rota___len__ : List Str := ["self"]
abbrev P_Rota___len__ : List Str := ["self"]
theorem sc_Rota___len__ : FnScope N_Rota___len__ P_Rota___len__ (defScope s_Rota___len__) := ⟨rfl, rfl, rfl, by decide +kernel, rfl, by decide +kernel, by decide +kernel⟩
abbrev N_Rota_true_slots : List Str := ["self"]
abbrev P_Rota_true_slots : List Str := ["self"]
theorem sc_Rota_true_slots : FnScope N_Rota_true_slots P_Rota_true_slots (defScope s_Rota_true_slots) := ⟨rfl, rfl, rfl, by decide +kernel, rfl, by decide +kernel, by decide +kernel⟩
abbrev N_Rota_false_slots : List Str := ["self"]
abbrev P_Rota_false_slots : List Str := ["self"]
theorem sc_Rota_false_slots : FnScope N_Rota_false_slots P_Rota_false_slots (defScope s_Rota_false_slots) := ⟨rfl, rfl, rfl, by decide +kernel, rfl, by decide +kernel, by decide +kernel⟩
abbrev N_world_words : List Str := ["text", "words"]
abbrev P_world_words : List Str := ["text"]
theorem sc_world_words : FnScope N_world_words P_world_words (defScope s_world_words) := ⟨rfl, rfl, rfl, by decide +kernel, rfl, by decide +kernel, by decide +kernel⟩
abbrev N_World___init__ : List Str := ["self", "text", "parts"]
abbrev P_World___init__ : List Str := ["self", "text"]
theorem sc_World___init__ : FnScope N_World___init__ P_World___init__ (defScope s_World___init__) := ⟨rfl, rfl, rfl, by decide +kernel, rfl, by decide +kernel, by decide +kernel⟩
abbrev N_World_of : List Str := ["kind", "late"]
abbrev P_World_of : List Str := ["kind", "late"]
theorem sc_World_of : FnScope N_World_of P_World_of (defScope s_World_of) := ⟨rfl, rfl, rfl, by decide +kernel, rfl, by decide +kernel, by decide +kernel⟩
abbrev N_time_or_last : List Str := ["rota", "time"]
abbrev P_time_or_last : List Str := ["rota", "time"]
theorem sc_time_or_last : FnScope N_time_or_last P_time_or_last (defScope s_time_or_last) := ⟨rfl, rfl, rfl, by decide +kernel, rfl, by decide +kernel, by decide +kernel⟩
abbrev N_ask_slot : List Str := ["slot", "time"]
abbrev P_ask_slot : List Str := ["slot", "time"]
theorem sc_ask_slot : FnScope N_ask_slot P_ask_slot (defScope s_ask_slot) := ⟨rfl, rfl, rfl, by decide +kernel, rfl, by decide +kernel, by decide +kernel⟩
abbrev N_next_reach : List Str := ["letter", "reach"]
abbrev P_next_reach : List Str := ["letter", "reach"]
theorem sc_next_reach : FnScope N_next_reach P_next_reach (defScope s_next_reach) := ⟨rfl, rfl, rfl, by decide +kernel, rfl, by decide +kernel, by decide +kernel⟩
abbrev N_next_margin : List Str := ["letter", "once", "reach", "margin"]
abbrev P_next_margin : List Str := ["letter", "once", "reach", "margin"]
theorem sc_next_margin : FnScope N_next_margin P_next_margin (defScope s_next_margin) := ⟨rfl, rfl, rfl, by decide +kernel, rfl, by decide +kernel, by decide +kernel⟩
abbrev N_numbers_at_end : List Str := ["letters", "once", "slot", "reach", "letter", "margin"]
abbrev P_numbers_at_end : List Str := ["letters", "once", "slot"]
theorem sc_numbers_at_end : FnScope N_numbers_at_end P_numbers_at_end (defScope s_numbers_at_end) := ⟨rfl, rfl, rfl, by decide +kernel, rfl, by decide +kernel, by decide +kernel⟩
abbrev N_numbers : List Str := ["rota", "kind", "slot", "world"]
abbrev P_numbers : List Str := ["rota", "kind", "slot"]
theorem sc_numbers : FnScope N_numbers P_numbers (defScope s_numbers) := ⟨rfl, rfl, rfl, by decide +kernel, rfl, by decide +kernel, by decide +kernel⟩
abbrev N_surplus : List Str := ["rota", "slot", "reach", "false_slots", "at", "true_slots"]
abbrev P_surplus : List Str := ["rota", "slot"]
theorem sc_surplus : FnScope N_surplus P_surplus (defScope s_surplus) := ⟨rfl, rfl, rfl, by decide +kernel, rfl, by decide +kernel, by decide +kernel⟩
abbrev N__holds : List Str := ["rota", "world", "slot", "time"]
abbrev P__holds : List Str := ["rota", "world", "slot", "time"]
theorem sc__holds : FnScope N__holds P__holds (defScope s__holds) := ⟨rfl, rfl, rfl, by decide +kernel, rfl, by decide +kernel, by decide +kernel⟩
abbrev N_is_fixed : List Str := ["rota", "world", "slot", "time", "last"]
abbrev P_is_fixed : List Str := ["rota", "world", "slot", "time"]
theorem sc_is_fixed : FnScope N_is_fixed P_is_fixed (defScope s_is_fixed) := ⟨rfl, rfl, rfl, by decide +kernel, rfl, by decide +kernel, by decide +kernel⟩
abbrev N_asked_time : List Str := ["rota", "time"]
abbrev P_asked_time : List Str := ["rota", "time"]
theorem sc_asked_time : FnScope N_asked_time P_asked_time (defScope s_asked_time) := ⟨rfl, rfl, rfl, by decide +kernel, rfl, by decide +kernel, by decide +kernel⟩
abbrev N_step_of : List Str := ["letter", "hands", "false", "gained", "lost"]
abbrev P_step_of : List Str := ["letter"]
theorem sc_step_of : FnScope N_step_of P_step_of (defScope s_step_of) := ⟨rfl, rfl, rfl, by decide +kernel, rfl, by decide +kernel, by decide +kernel⟩
abbrev N_running_sums : List Str := ["letters", "sums", "letter"]
abbrev P_running_sums : List Str := ["letters"]
theorem sc_running_sums : FnScope N_running_sums P_running_sums (defScope s_running_sums) := ⟨rfl, rfl, rfl, by decide +kernel, rfl, by decide +kernel, by decide +kernel⟩
abbrev N_lows_of : List Str := ["sums", "lows", "one"]
abbrev P_lows_of : List Str := ["sums"]
theorem sc_lows_of : FnScope N_lows_of P_lows_of (defScope s_lows_of) := ⟨rfl, rfl, rfl, by decide +kernel, rfl, by decide +kernel, by decide +kernel⟩
abbrev N_highs_of : List Str := ["sums", "highs", "one"]
abbrev P_highs_of : List Str := ["sums"]
theorem sc_highs_of : FnScope N_highs_of P_highs_of (defScope s_highs_of) := ⟨rfl, rfl, rfl, by decide +kernel, rfl, by decide +kernel, by decide +kernel⟩
abbrev N_gate_slots : List Str := ["letters", "sums", "lows", "highs", "found", "slot", "letter"]
abbrev P_gate_slots : List Str := ["letters"]
theorem sc_gate_slots : FnScope N_gate_slots P_gate_slots (defScope s_gate_slots) := ⟨rfl, rfl, rfl, by decide +kernel, rfl, by decide +kernel, by decide +kernel⟩
abbrev N_gates : List Str := ["rota", "time", "last"]
abbrev P_gates : List Str := ["rota", "time"]
theorem sc_gates : FnScope N_gates P_gates (defScope s_gates) := ⟨rfl, rfl, rfl, by decide +kernel, rfl, by decide +kernel, by decide +kernel⟩
abbrev N__law_bag : List Str := ["script", "mixed", "item"]
abbrev P__law_bag : List Str := ["script"]
theorem sc__law_bag : FnScope N__law_bag P__law_bag (defScope s__law_bag) := ⟨rfl, rfl, rfl, by decide +kernel, rfl, by decide +kernel, by decide +kernel⟩
abbrev N__law_draw : List Str := ["bag", "size", "item", "digit"]
abbrev P__law_draw : List Str := ["bag", "size"]
theorem sc__law_draw : FnScope N__law_draw P__law_draw (defScope s__law_draw) := ⟨rfl, rfl, rfl, by decide +kernel, rfl, by decide +kernel, by decide +kernel⟩
abbrev N__law_of : List Str := ["bag", "things"]
abbrev P__law_of : List Str := ["bag", "things"]
theorem sc__law_of : FnScope N__law_of P__law_of (defScope s__law_of) := ⟨rfl, rfl, rfl, by decide +kernel, rfl, by decide +kernel, by decide +kernel⟩
abbrev N__law_ofS : List Str := ["bag", "things"]
abbrev P__law_ofS : List Str := ["bag", "things"]
theorem sc__law_ofS : FnScope N__law_ofS P__law_ofS (defScope s__law_ofS) := ⟨rfl, rfl, rfl, by decide +kernel, rfl, by decide +kernel, by decide +kernel⟩
abbrev N__law_like0 : List Str := ["told", "due", "k"]
abbrev P__law_like0 : List Str := ["told", "due"]
theorem sc__law_like0 : FnScope N__law_like0 P__law_like0 (defScope s__law_like0) := ⟨rfl, rfl, rfl, by decide +kernel, rfl, by decide +kernel, by decide +kernel⟩
abbrev N__law_like1 : List Str := ["told", "due", "k"]
abbrev P__law_like1 : List Str := ["told", "due"]
theorem sc__law_like1 : FnScope N__law_like1 P__law_like1 (defScope s__law_like1) := ⟨rfl, rfl, rfl, by decide +kernel, rfl, by decide +kernel, by decide +kernel⟩
abbrev N__law_like2 : List Str := ["told", "due", "k"]
abbrev P__law_like2 : List Str := ["told", "due"]
theorem sc__law_like2 : FnScope N__law_like2 P__law_like2 (defScope s__law_like2) := ⟨rfl, rfl, rfl, by decide +kernel, rfl, by decide +kernel, by decide +kernel⟩
abbrev N__law_letters : List Str := ["bag", "size", "menu", "k"]
abbrev P__law_letters : List Str := ["bag", "size"]
theorem sc__law_letters : FnScope N__law_letters P__law_letters (defScope s__law_letters) := ⟨rfl, rfl, rfl, by decide +kernel, rfl, by decide +kernel, by decide +kernel⟩
abbrev N__law_line : List Str := ["bag", "least", "most", "size", "piece", "before"]
abbrev P__law_line : List Str := ["bag", "least", "most"]
theorem sc__law_line : FnScope N__law_line P__law_line (defScope s__law_line) := ⟨rfl, rfl, rfl, by decide +kernel, rfl, by decide +kernel, by decide +kernel⟩
abbrev N__law_text : List Str := ["line"]
abbrev P__law_text : List Str := ["line"]
theorem sc__law_text : FnScope N__law_text P__law_text (defScope s__law_text) := ⟨rfl, rfl, rfl, by decide +kernel, rfl, by decide +kernel, by decide +kernel⟩
abbrev N__law_sums : List Str := ["line", "mode", "reach", "margins", "found", "letter", "m", "held"]
abbrev P__law_sums : List Str := ["line", "mode"]
theorem sc__law_sums : FnScope N__law_sums P__law_sums (defScope s__law_sums) := ⟨rfl, rfl, rfl, by decide +kernel, rfl, by decide +kernel, by decide +kernel⟩
abbrev N__law_over : List Str := ["line", "low", "high", "found", "letter"]
abbrev P__law_over : List Str := ["line", "low", "high"]
theorem sc__law_over : FnScope N__law_over P__law_over (defScope s__law_over) := ⟨rfl, rfl, rfl, by decide +kernel, rfl, by decide +kernel, by decide +kernel⟩
abbrev N__law_gates_fast : List Str := ["line", "sums", "letter", "step", "behind", "item", "k", "found", "top", "spot"]
abbrev P__law_gates_fast : List Str := ["line"]
theorem sc__law_gates_fast : FnScope N__law_gates_fast P__law_gates_fast (defScope s__law_gates_fast) := ⟨rfl, rfl, rfl, by decide +kernel, rfl, by decide +kernel, by decide +kernel⟩
abbrev N__law_put_in : List Str := ["bag", "line", "found", "names", "k", "much", "j"]
abbrev P__law_put_in : List Str := ["bag", "line"]
theorem sc__law_put_in : FnScope N__law_put_in P__law_put_in (defScope s__law_put_in) := ⟨rfl, rfl, rfl, by decide +kernel, rfl, by decide +kernel, by decide +kernel⟩
abbrev N_law : List Str := ["script", "bag", "turn", "line", "letter", "wide", "names", "one", "two", "mode", "place", "row", "spot", "due", "news", "k", "verdict"]
abbrev P_law : List Str := ["script"]
theorem sc_law : FnScope N_law P_law (defScope s_law) := ⟨rfl, rfl, rfl, by decide +kernel, rfl, by decide +kernel, by decide +kernel⟩
abbrev tl (z : Str) : List Nat := z.cps.toList
def L6 : List Nat := [46, 104, 72, 97, 98, 66]
def okL (l : List Nat) : Prop := ∀ c ∈ l, c ∈ L6
def handsN (c : Nat) : Int := if c = 104 ∨ c = 98 then 1 else if c = 72 ∨ c = 66 then 2 else 0
def falseN (c : Nat) : Bool := decide (c = 97 ∨ c = 98 ∨ c = 66)
/-- what a letter adds to the balance -/
def stp (c : Nat) : Int := if c = 97 then 1 else if c = 104 ∨ c = 72 then -1 else 0
/-- the balance of the first i letters -/
def S (l : List Nat) (i : Nat) : Int := ((l.take i).map stp).sum
def psum (l : List Nat) : List Int := (List.range (l.length + 1)).map (S l)
def trs (l : List Nat) : Int := ((l.map fun c => if handsN c > 0 then (1 : Int) else 0)).sum
def fls (l : List Nat) : Int := ((l.map fun c => if falseN c then (1 : Int) else 0)).sum
/-- ys are the least of the beginnings of xs -/
structure Lows (xs ys : List Int) : Prop where
  len : ys.length = xs.length
  is : ∀ (i : Nat) (m : Int), ys[i]? = some m → (∃ j, j ≤ i ∧ xs[j]? = some m) ∧ ∀ (j : Nat) (x : Int), j ≤ i → xs[j]? = some x → m ≤ x
/-- .. the greatest of the ends -/
structure Highs (xs ys : List Int) : Prop where
  len : ys.length = xs.length
  is : ∀ (i : Nat) (m : Int), ys[i]? = some m → (∃ j, i ≤ j ∧ xs[j]? = some m) ∧ ∀ (j : Nat) (x : Int), i ≤ j → xs[j]? = some x → x ≤ m
/-- slot i + 1 is a gate -/
def Gate (l : List Nat) (i : Nat) : Prop := l[i]? = some 104 ∧ ∀ j k : Nat, j ≤ i → i < k → k ≤ l.length → S l k < S l j
open Classical in
noncomputable def gatesF (l : List Nat) : List Int := ((List.range l.length).filter fun i => decide (Gate l i)).map fun i : Nat => ((i : Nat) : Int) + 1
def seg (l : List Nat) (lo hi : Nat) : List Nat := (l.drop (lo - 1)).take (hi - (lo - 1))
def nr (c : Nat) (r : Int) : Int := if c = 97 then r + 1 else if c = 104 ∨ c = 72 then (if 0 > r - 1 then 0 else r - 1) else r
def nm (c : Nat) (once : Bool) (r m : Int) : Int :=
  if c = 97 then m + 1 else if c = 72 ∧ m = 0 then 0 else if c = 104 ∧ m = 0 ∧ 0 < r ∧ once = false then 0 else if c = 104 ∨ c = 72 then m - 1 else m
def rch (l : List Nat) : Int := l.foldl (fun r c => nr c r) 0
def nms (once : Bool) (l : List Nat) (p : Int × Int) : Int × Int := l.foldl (fun p c => (nr c p.1, nm c once p.1 p.2)) p
def numF (l : List Nat) (once : Bool) (s : Nat) : Int × Int := nms once (l.drop (s - 1)) (rch (l.take (s - 1)), rch (l.take (s - 1)))
def CR (K : PySem.W.Frag) : Addr := He.ga K "Rota"
def CWd (K : PySem.W.Frag) : Addr := He.ga K "World"
def WdAt (K : PySem.W.Frag) (H : Hp) (p : Addr) (k : Str) (n : Int) : Prop := ∃ dx fs, H p = some (.ins (CWd K) dx fs) ∧ fs.lookup ("kind" : Str) = some (.str k) ∧ fs.lookup ("late" : Str) = some (.int n)
def BagAt (a c : Addr) (H : Hp) : Prop := ∃ (cs : List Int) (i r m n : Int), H a = some (.lst [.ref c, .int i, .int r, .int m, .int n]) ∧ c ≠ a ∧ H c = some (.lst (cs.map V.int)) ∧ 0 ≤ i ∧ 0 ≤ r ∧ 0 ≤ m ∧ m < 2147483648
/-- a text that Rota takes -/
def RotaText (z : Str) : Prop := z = "-" ∨ (z ≠ "" ∧ okL (tl z))
def lettersOf (z : Str) : Str := if z = "-" then "" else z
def wtext (k : Bool) (d : Nat) : Str := Str.ofString ((if k then "once" else "many") ++ " " ++ toString d)
def ktext (k : Bool) : Str := if k then "once" else "many"
def sp_check_length (K : PySem.W.Frag) : Sp := fun vs H Q _ => ∃ z : Str, vs = [.str z] ∧ z.length ≤ 1000 ∧ Q .non H
def sp_first_strange (K : PySem.W.Frag) : Sp := fun vs H Q _ => ∃ z : Str, vs = [.str z] ∧ okL (tl z) ∧ ∀ H', Same H H' → Q .non H'
def sp_rota_fault (K : PySem.W.Frag) : Sp := fun vs H Q _ => ∃ z : Str, vs = [.str z] ∧ RotaText z ∧ ∀ H', Same H H' → Q .non H'
def sp_letters_of_text (K : PySem.W.Frag) : Sp := fun vs H Q _ => ∃ z : Str, vs = [.str z] ∧ Q (.str (lettersOf z)) H
/-- a Rota with these letters -/
def RtAt (K : PySem.W.Frag) (H : Hp) (p : Addr) (z : Str) : Prop := ∃ dx fs, H p = some (.ins (CR K) dx fs) ∧ (fs.lookup ("letters" : Str) = some (.str z) ∧ ∀ f : Str, ¬ f = ("letters" : Str) → ¬ f = ("text" : Str) → fs.lookup f = none)
def sp_Rota___init__ (K : PySem.W.Frag) : Sp := fun vs H Q _ => ∃ (p dx : Addr) (z : Str), vs = [.ref p, .str z] ∧ H p = some (.ins (CR K) dx []) ∧ RotaText z ∧ z.length ≤ 40 ∧ ∀ H', Sb p H H' → RtAt K H' p (lettersOf z) → Q .non H'
def sp_Rota___len__ (K : PySem.W.Frag) : Sp := fun vs H Q _ => ∃ p z, vs = [.ref p] ∧ RtAt K H p z ∧ z.length ≤ 40 ∧ Q (.int (z.length : Int)) H
def sp_world_words (K : PySem.W.Frag) : Sp := fun vs H Q _ => ∃ (k : Bool) (d : Nat), vs = [.str (wtext k d)] ∧ d ≤ 4 ∧ ∀ H' t, Same H H' → H' t = some (.tup [.str (ktext k), .int (d : Int)]) → Q (.ref t) H'
def sp_World___init__ (K : PySem.W.Frag) : Sp := fun vs H Q _ => ∃ (p dx : Addr) (k : Bool) (d : Nat), vs = [.ref p, .str (wtext k d)] ∧ d ≤ 4 ∧ H p = some (.ins (CWd K) dx []) ∧ ∀ H', Sb p H H' → WdAt K H' p (ktext k) (d : Int) → Q .non H'
def sp_World_of (K : PySem.W.Frag) : Sp := fun vs H Q _ => ∃ (k : Bool) (d : Nat), vs = [.str (ktext k), .int (d : Int)] ∧ d ≤ 4 ∧ ∀ H' p, Same H H' → WdAt K H' p (ktext k) (d : Int) → Q (.ref p) H'
def sp_asked_time (K : PySem.W.Frag) : Sp := fun vs H Q _ => ∃ p z t, vs = [.ref p, t] ∧ RtAt K H p z ∧ z.length ≤ 40 ∧ ((t = .non ∧ Q (.int (z.length : Int)) H) ∨ ∃ i : Int, t = .int i ∧ 0 ≤ i ∧ i ≤ (z.length : Int) ∧ Q (.int i) H)
def sp_step_of (K : PySem.W.Frag) : Sp := fun vs H Q _ => ∃ c : Nat, vs = [.str ⟨#[c]⟩] ∧ c ∈ L6 ∧ Q (.int (stp c)) H
def sp_running_sums (K : PySem.W.Frag) : Sp := fun vs H Q _ => ∃ z : Str, vs = [.str z] ∧ okL (tl z) ∧ z.length ≤ 1000 ∧ ∀ H' t, H t = none → Same H H' → H' t = some (.lst ((psum (tl z)).map V.int)) → Q (.ref t) H'
def sp_lows_of (K : PySem.W.Frag) : Sp := fun vs H Q _ => ∃ (s : Addr) (xs : List Int), vs = [.ref s] ∧ H s = some (.lst (xs.map V.int)) ∧ xs ≠ [] ∧ xs.length ≤ 2000 ∧ ∀ H' t ys, H t = none → Same H H' → H' t = some (.lst (ys.map V.int)) → Lows xs ys → Q (.ref t) H'
def sp_highs_of (K : PySem.W.Frag) : Sp := fun vs H Q _ => ∃ (s : Addr) (xs : List Int), vs = [.ref s] ∧ H s = some (.lst (xs.map V.int)) ∧ xs ≠ [] ∧ xs.length ≤ 2000 ∧ ∀ H' t ys, H t = none → Same H H' → H' t = some (.lst (ys.map V.int)) → Highs xs ys → Q (.ref t) H'
def sp_gate_slots (K : PySem.W.Frag) : Sp := fun vs H Q _ => ∃ z : Str, vs = [.str z] ∧ okL (tl z) ∧ z.length ≤ 1000 ∧ ∀ H' t, H t = none → Same H H' → H' t = some (.lst ((gatesF (tl z)).map V.int)) → Q (.ref t) H'
def sp_gates (K : PySem.W.Frag) : Sp := fun vs H Q _ => ∃ p z, vs = [.ref p, .non] ∧ RtAt K H p z ∧ okL (tl z) ∧ z.length ≤ 40 ∧ ∀ H' t, H t = none → Same H H' → H' t = some (.lst ((gatesF (tl z)).map V.int)) → Q (.ref t) H'
def sp_ask_slot (K : PySem.W.Frag) : Sp := fun vs H Q _ => ∃ i n : Int, vs = [.int i, .int n] ∧ 1 ≤ i ∧ i ≤ n + 1 ∧ Q .non H
def sp_next_reach (K : PySem.W.Frag) : Sp := fun vs H Q _ => ∃ (c : Nat) (r : Int), vs = [.str ⟨#[c]⟩, .int r] ∧ Q (.int (nr c r)) H
def sp_next_margin (K : PySem.W.Frag) : Sp := fun vs H Q _ => ∃ (c : Nat) (o : Bool) (r m : Int), vs = [.str ⟨#[c]⟩, .bl o, .int r, .int m] ∧ Q (.int (nm c o r m)) H
def sp_numbers_at_end (K : PySem.W.Frag) : Sp := fun vs H Q _ => ∃ (z : Str) (o : Bool) (s : Nat), vs = [.str z, .bl o, .int (s : Int)] ∧ 1 ≤ s ∧ s ≤ z.length + 1 ∧ z.length ≤ 1000 ∧ ∀ H' t, Same H H' → H' t = some (.tup [.int (numF (tl z) o s).1, .int (numF (tl z) o s).2]) → Q (.ref t) H'
def sp_numbers (K : PySem.W.Frag) : Sp := fun vs H Q _ => ∃ (p : Addr) (z : Str) (k : Bool) (s : Nat), vs = [.ref p, .str (ktext k), .int (s : Int)] ∧ RtAt K H p z ∧ z.length ≤ 40 ∧ 1 ≤ s ∧ s ≤ z.length + 1 ∧ ∀ H' t, Same H H' → H' t = some (.tup [.int (numF (tl z) k s).1, .int (numF (tl z) k s).2]) → Q (.ref t) H'
def sp__law_bag (K : PySem.W.Frag) : Sp := fun vs H Q _ => ∃ (s : Addr) (ns : List Int), vs = [.ref s] ∧ SqL K H s (ns.map V.int) ∧ ns.length ≤ 63 ∧ ∀ H' a c, H a = none → Same H H' → BagAt a c H' → Q (.ref a) H'
def sp__law_draw (K : PySem.W.Frag) : Sp := fun vs H Q _ => ∃ a c L, vs = [.ref a, .int L] ∧ BagAt a c H ∧ 0 < L ∧ L < 1073741824 ∧ ∀ H' d, Sb a H H' → BagAt a c H' → 0 ≤ d → d < L → Q (.int d) H'
def sp__law_of (K : PySem.W.Frag) : Sp := fun vs H Q _ => ∃ (a c t : Addr) (xs : List V), vs = [.ref a, .ref t] ∧ BagAt a c H ∧ t ≠ a ∧ H t = some (.lst xs) ∧ xs ≠ [] ∧ xs.length ≤ 1000 ∧ ∀ H' x, Sb a H H' → BagAt a c H' → x ∈ xs → Q x H'
def sp__law_ofS (K : PySem.W.Frag) : Sp := fun vs H Q _ => ∃ (a c : Addr) (z : Str), vs = [.ref a, .str z] ∧ BagAt a c H ∧ z.length ≠ 0 ∧ z.length ≤ 1000 ∧ ∀ H' d, Sb a H H' → BagAt a c H' → d ∈ tl z → Q (.str ⟨#[d]⟩) H'
def sp__law_likeZ (K : PySem.W.Frag) : Sp := fun _ _ _ _ => False
/-- told and due are alike -/
inductive Like (K : PySem.W.Frag) (H : Hp) : Nat → V → V → Prop where
  | int {n : Nat} (i : Int) : Like K H n (.int i) (.int i)
  | bl {n : Nat} (b : Bool) : Like K H n (.bl b) (.bl b)
  | str {n : Nat} (z : Str) : Like K H n (.str z) (.str z)
  | non {n : Nat} : Like K H n .non .non
  | lst {n : Nat} {a b : Addr} {xs ys : List V} (ha : H a = some (.lst xs)) (hb : H b = some (.lst ys)) (hl : xs.length = ys.length) (hz : xs.length ≤ 1000) (h : ∀ (i : Nat) (x y : V), xs[i]? = some x → ys[i]? = some y → Like K H n x y) : Like K H (n + 1) (.ref a) (.ref b)
  | tup {n : Nat} {a b : Addr} {xs ys : List V} (ha : H a = some (.tup xs)) (hb : H b = some (.tup ys)) (hl : xs.length = ys.length) (hz : xs.length ≤ 1000) (h : ∀ (i : Nat) (x y : V), xs[i]? = some x → ys[i]? = some y → Like K H n x y) : Like K H (n + 1) (.ref a) (.ref b)
def sp__law_like0 (K : PySem.W.Frag) : Sp := fun vs H Q _ => ∃ x y, vs = [x, y] ∧ Like K H 0 x y ∧ Q (.bl true) H
def sp__law_like1 (K : PySem.W.Frag) : Sp := fun vs H Q _ => ∃ x y, vs = [x, y] ∧ Like K H 1 x y ∧ Q (.bl true) H
def sp__law_like2 (K : PySem.W.Frag) : Sp := fun vs H Q _ => ∃ x y, vs = [x, y] ∧ Like K H 2 x y ∧ Q (.bl true) H
def sp__law_letters (K : PySem.W.Frag) : Sp := fun vs H Q _ => ∃ (a c : Addr) (n : Int), vs = [.ref a, .int n] ∧ BagAt a c H ∧ 0 ≤ n ∧ n ≤ 1000 ∧ ∀ H' z, Sb a H H' → BagAt a c H' → okL (tl z) → (z.length : Int) = n → Q (.str z) H'
def sp__law_line (K : PySem.W.Frag) : Sp := fun vs H Q _ => ∃ (a c : Addr) (l m : Int), vs = [.ref a, .int l, .int m] ∧ BagAt a c H ∧ 0 ≤ l ∧ l ≤ m ∧ m ≤ 100 ∧ ∀ H' z, Sb a H H' → BagAt a c H' → okL (tl z) → (z.length : Int) ≤ m → Q (.str z) H'
def sp__law_text (K : PySem.W.Frag) : Sp := fun vs H Q _ => ∃ z : Str, vs = [.str z] ∧ z.length ≤ 1000 ∧ Q (.str (if z.length = 0 then "-" else z)) H
def sp__law_gates_fast (K : PySem.W.Frag) : Sp := fun vs H Q _ => ∃ z : Str, vs = [.str z] ∧ z.length ≤ 1000 ∧ ∀ H' t, H t = none → Same H H' → H' t = some (.lst ((gatesF (tl z)).map V.int)) → Q (.ref t) H'
def sp_law (K : PySem.W.Frag) : Sp := fun vs H Q _ => ∃ (a : Addr) (ns : List Int), vs = [.ref a] ∧ SqL K H a (ns.map V.int) ∧ ns.length ≤ 63 ∧ ∀ H', Q (.bl true) H'
structure KF (K : PySem.W.Frag) : Prop where
  cR : Cls K (CR K)
  cW : Cls K (CWd K)
  naR : ∀ f : Str, f ∈ (["letters", "text"] : List Str) → NoAttr K (CR K) f
  naW : ∀ f : Str, f ∈ (["kind", "late", "text"] : List Str) → NoAttr K (CWd K) f
  hd : ∀ c, c ∈ L6 → ∃ a, KGet K (He.ga K "HANDS") ⟨#[c]⟩ (.ref a) ∧ ∀ H, SqT K H a [.int (handsN c), .bl (falseN c)]
  kinds : ∀ H, SqT K H (He.ga K "KINDS") [.str "many", .str "once"]
  lates : ∀ H, SqT K H (He.ga K "LATENESSES") [.str "0", .str "1", .str "2", .str "3", .str "4"]
  th : ∀ c, c ∈ L6 → KGet K (He.ga K "TRUE_HANDS") ⟨#[c]⟩ (.int (handsN c))
open Classical in
noncomputable def gatesUp (l : List Nat) (i : Nat) : List Int := ((List.range i).filter fun i => decide (Gate l i)).map fun i : Nat => ((i : Nat) : Int) + 1
def sp__law_over (K : PySem.W.Frag) : Sp := fun vs H Q _ => ∃ (z : Str) (lo hi : Nat), vs = [.str z, .int (lo : Int), .int (hi : Int)] ∧ z.length ≤ 1000 ∧ 1 ≤ lo ∧ lo ≤ hi + 1 ∧ hi ≤ z.length ∧ Q (.int (S (tl z) hi - S (tl z) (lo - 1))) H
/-- the margins of the slots 1 .. n + 1 behind the letters -/
def mrow (l : List Nat) (o : Bool) : List Int := (List.range (l.length + 1)).map fun s => (numF l o (s + 1)).2
def sp_time_or_last (K : PySem.W.Frag) : Sp := fun vs H Q _ => ∃ p z t, vs = [.ref p, t] ∧ RtAt K H p z ∧ z.length ≤ 40 ∧ ((t = .non ∧ Q (.int (z.length : Int)) H) ∨ ∃ i : Int, t = .int i ∧ 0 ≤ i ∧ i ≤ (z.length : Int) ∧ Q (.int i) H)
def sp__holds (K : PySem.W.Frag) : Sp := fun vs H Q _ => ∃ (p w : Addr) (z : Str) (k : Bool) (s n : Nat), vs = [.ref p, .ref w, .int (s : Int), .int (n : Int)] ∧ RtAt K H p z ∧ WdAt K H w (ktext k) 0 ∧ z.length ≤ 40 ∧ n ≤ z.length ∧ 1 ≤ s ∧ s ≤ n + 1 ∧ ∀ H', Same H H' → Q (.bl (decide ((numF ((tl z).take n) k s).2 < 0))) H'
def sp_is_fixed (K : PySem.W.Frag) : Sp := fun vs H Q _ => ∃ (p w : Addr) (z : Str) (k : Bool) (s n : Nat) (t : V), vs = [.ref p, .ref w, .int (s : Int), t] ∧ (t = .int (n : Int) ∨ t = .non ∧ n = z.length) ∧ RtAt K H p z ∧ WdAt K H w (ktext k) 0 ∧ z.length ≤ 40 ∧ n ≤ z.length ∧ 1 ≤ s ∧ s ≤ n + 1 ∧ ∀ H', Same H H' → Q (.bl (decide ((numF ((tl z).take n) k s).2 < 0))) H'
/-- a row of the law's own table: pairs of the reach and the margins -/
def PairsAt (H : Hp) (r : Addr) (l : List Nat) (k : Bool) : Prop := ∃ ts : List Addr, H r = some (.lst (ts.map V.ref)) ∧ ts.length = l.length + 1 ∧ ∀ (j : Nat) (t : Addr), ts[j]? = some t → H t = some (.tup [.int (rch l), .int (numF l k (j + 1)).2])
def SumsAt (H : Hp) (t : Addr) (l : List Nat) (k : Bool) : Prop := ∃ rs : List Addr, H t = some (.lst (rs.map V.ref)) ∧ rs.length = l.length + 1 ∧ ∀ (i : Nat) (r : Addr), rs[i]? = some r → PairsAt H r (l.take i) k
def sp__law_sums (K : PySem.W.Frag) : Sp := fun vs H Q _ => ∃ (z : Str) (k : Bool), vs = [.str z, .str (ktext k)] ∧ z.length ≤ 1000 ∧ ∀ H' t, H t = none → Same H H' → SumsAt H' t (tl z) k → Q (.ref t) H'
/-- the slots whose letters meet f -/
def slotsF (f : Nat → Bool) (l : List Nat) (i : Nat) : List Int := ((List.range i).filter fun i => (l[i]?.map f).getD false).map fun i : Nat => ((i : Nat) : Int) + 1
def hasT (c : Nat) : Bool := decide (handsN c > 0)
def sp_true_hands (K : PySem.W.Frag) : Sp := fun vs H Q _ => ∃ c : Nat, vs = [.str ⟨#[c]⟩] ∧ c ∈ L6 ∧ Q (.int (handsN c)) H
def sp_has_false_hand (K : PySem.W.Frag) : Sp := fun vs H Q _ => ∃ c : Nat, vs = [.str ⟨#[c]⟩] ∧ c ∈ L6 ∧ Q (.bl (falseN c)) H
def sp_slots_with_true_hands (K : PySem.W.Frag) : Sp := fun vs H Q _ => ∃ z : Str, vs = [.str z] ∧ okL (tl z) ∧ z.length ≤ 40 ∧ ∀ H' t, H t = none → Same H H' → H' t = some (.lst ((slotsF hasT (tl z) z.length).map V.int)) → Q (.ref t) H'
def sp_slots_with_false_hand (K : PySem.W.Frag) : Sp := fun vs H Q _ => ∃ z : Str, vs = [.str z] ∧ okL (tl z) ∧ z.length ≤ 40 ∧ ∀ H' t, H t = none → Same H H' → H' t = some (.lst ((slotsF falseN (tl z) z.length).map V.int)) → Q (.ref t) H'
def sp_Rota_true_slots (K : PySem.W.Frag) : Sp := fun vs H Q _ => ∃ (p : Addr) (z : Str), vs = [.ref p] ∧ RtAt K H p z ∧ okL (tl z) ∧ z.length ≤ 40 ∧ ∀ H' t, H t = none → Same H H' → H' t = some (.lst ((slotsF hasT (tl z) z.length).map V.int)) → Q (.ref t) H'
def sp_Rota_false_slots (K : PySem.W.Frag) : Sp := fun vs H Q _ => ∃ (p : Addr) (z : Str), vs = [.ref p] ∧ RtAt K H p z ∧ okL (tl z) ∧ z.length ≤ 40 ∧ ∀ H' t, H t = none → Same H H' → H' t = some (.lst ((slotsF falseN (tl z) z.length).map V.int)) → Q (.ref t) H'
/-- reach ahead of s, and the balance from s on -/
def surpF (l : List Nat) (s : Nat) : Int := rch (l.take (s - 1)) + (S l l.length - S l (s - 1))
def sp_surplus (K : PySem.W.Frag) : Sp := fun vs H Q _ => ∃ (p : Addr) (z : Str) (s : Nat), vs = [.ref p, .int (s : Int)] ∧ RtAt K H p z ∧ okL (tl z) ∧ z.length ≤ 40 ∧ 1 ≤ s ∧ s ≤ z.length + 1 ∧ ∀ H', Same H H' → Q (.int (surpF (tl z) s)) H'
/-- the letters that count -/
def fl (l : List Nat) : List Nat := l.filter fun c => decide (c = 97 ∨ c = 104 ∨ c = 72)
/-- F: the first k letters of l with idle ones among them; N: of which slot each is, or the next one -/
structure Put (l F N : List Nat) (k : Nat) : Prop where
  len : N.length = F.length
  ok : okL F
  full : fl F = fl (l.take k)
  hd : (N ++ [k + 1])[0]? = some 1
  each : ∀ (j v : Nat), N[j]? = some v → 1 ≤ v ∧ v ≤ k + 1 ∧ fl (F.take j) = fl (l.take (v - 1)) ∧
    (((N ++ [k + 1])[j + 1]? = some v ∧ ∃ c, F[j]? = some c ∧ c ≠ 104) ∨ ((N ++ [k + 1])[j + 1]? = some (v + 1) ∧ v ≤ k ∧ F[j]? = l[v - 1]?))
def nats (N : List Nat) : List V := N.map fun n => V.int ((n : Nat) : Int)
def sp__law_put_in (K : PySem.W.Frag) : Sp := fun vs H Q _ => ∃ (a c : Addr) (z : Str), vs = [.ref a, .str z] ∧ BagAt a c H ∧ okL (tl z) ∧ z.length ≤ 38 ∧ ∀ H' (t s : Addr) (y : Str) (N : List Nat), H t = none → H s = none → Sb a H H' → BagAt a c H' → H' t = some (.lst [.str y, .ref s]) → H' s = some (.lst (nats (N ++ [z.length + 1]))) → Put (tl z) (tl y) N z.length → y.length ≤ 39 → Q (.ref t) H'
def r_likeG (c : Sp) (K : PySem.W.Frag) : TS := (tSeq (tIfS (tB (tCB (rIsi K) (tCons (tVar 1) (tCons (tC (.ty "bool")) tNil)))) (tRet (tAndV (tCB (rIsi K) (tCons (tVar 0) (tCons (tC (.ty "bool")) tNil))) (tOp rEq (tVar 0) (tVar 1)))) tNext)
  (tSeq (tIfS (tB (tCB (rIsi K) (tCons (tVar 1) (tCons (tC (.ty "int")) tNil)))) (tRet (tAndV (tCB (rIsi K) (tCons (tVar 0) (tCons (tC (.ty "int")) tNil))) (tAndV (tNotV (tCB (rIsi K) (tCons (tVar 0) (tCons (tC (.ty "bool")) tNil)))) (tOp rEq (tVar 0) (tVar 1))))) tNext)
  (tSeq (tIfS (tB (tCB (rIsi K) (tCons (tVar 1) (tCons (tC (.ty "str")) tNil)))) (tRet (tAndV (tCB (rIsi K) (tCons (tVar 0) (tCons (tC (.ty "str")) tNil))) (tOp rEq (tVar 0) (tVar 1)))) tNext)
  (tSeq (tIfS (tOr (tB (tCB (rIsi K) (tCons (tVar 1) (tCons (tC (.ty "list")) tNil)))) (tB (tCB (rIsi K) (tCons (tVar 1) (tCons (tC (.ty "tuple")) tNil))))) (tSeq (tIfS (tOr (tTest (tOp rNe (tCB (rIsi K) (tCons (tVar 0) (tCons (tC (.ty "list")) tNil))) (tCB (rIsi K) (tCons (tVar 1) (tCons (tC (.ty "list")) tNil))))) (tTest (tOp rNe (tCB (rIsi K) (tCons (tVar 0) (tCons (tC (.ty "tuple")) tNil))) (tCB (rIsi K) (tCons (tVar 1) (tCons (tC (.ty "tuple")) tNil)))))) (tRet (tC (.bl false))) tNext)
  (tSeq (tIfS (tTest (tOp rNe (tCB (bLen K) (tCons (tVar 0) tNil)) (tCB (bLen K) (tCons (tVar 1) tNil)))) (tRet (tC (.bl false))) tNext)
  (tSeq (tFor (iRng1 (tCons (tCB (bLen K) (tCons (tVar 1) tNil)) tNil)) (gName 2)
   (tIfS (tNot (tB (tCall c [] E0 (tCons (tOp (rIx K) (tVar 0) (tVar 2)) (tCons (tOp (rIx K) (tVar 1) (tVar 2)) tNil))))) (tRet (tC (.bl false))) tNext))
  (tRet (tC (.bl true)))))) tNext)
  (tRet (tAndV (tOp rIsN0 (tVar 1) (tC .non)) (tOp rIsN0 (tVar 0) (tC .non))))))))
def r_check_length (K : PySem.W.Frag) : TS := (tIfS (tTest (tOp rGt0 (tCB bLenS (tCons (tVar 0) tNil)) (tC (.int 100000)))) tNever tNext)
def r_first_strange (K : PySem.W.Frag) : TS := (tSeq (tFor (iEnumS (tCons (tVar 0) tNil)) (gTup K 2 (gCons (gName 1) (gCons (gName 2) gNil)))
   (tIfS (tTest (tOp rNotInS (tVar 2) (tC (.str ".hHabB")))) (tRet (tVar 1)) tNext))
  (tRet (tC .non)))
def r_rota_fault (K : PySem.W.Frag) : TS := (tSeq (tIfS (tTest (tOp rEq (tVar 0) (tC (.str "-")))) (tRet (tC .non)) tNext)
  (tSeq (tIfS (tTest (tOp rEq (tVar 0) (tC (.str "")))) (tRet (tC (.int 0))) tNext)
  (tRet (tCall (sp_first_strange K) [] E0 (tCons (tVar 0) tNil)))))
def r_letters_of_text (K : PySem.W.Frag) : TS := (tSeq (tIfS (tTest (tOp rEq (tVar 0) (tC (.str "-")))) (tRet (tC (.str ""))) tNext)
  (tRet (tVar 0)))
def r_true_hands (K : PySem.W.Frag) : TS := (tRet (tOp (rIxK K (He.ga K "TRUE_HANDS")) (tC (.ref (He.ga K "TRUE_HANDS"))) (tVar 0)))
def r_has_false_hand (K : PySem.W.Frag) : TS := (tRet (tOp rInS (tVar 0) (tC (.str "abB"))))
def r_slots_with_true_hands (K : PySem.W.Frag) : TS := (tRet (tLc (iEnumS (tCons (tVar 0) tNil)) (gTup K 2 (gCons (gName 1) (gCons (gName 2) gNil))) (tTest (tOp rGt0 (tCall (sp_true_hands K) [] E0 (tCons (tVar 2) tNil)) (tC (.int 0)))) (tOp rPlus (tVar 1) (tC (.int 1))) [1, 2]))
def r_slots_with_false_hand (K : PySem.W.Frag) : TS := (tRet (tLc (iEnumS (tCons (tVar 0) tNil)) (gTup K 2 (gCons (gName 1) (gCons (gName 2) gNil))) (tB (tCall (sp_has_false_hand K) [] E0 (tCons (tVar 2) tNil))) (tOp rPlus (tVar 1) (tC (.int 1))) [1, 2]))
def r_Rota___init__ (K : PySem.W.Frag) : TS := (tSeq (tDrop (tCall (sp_check_length K) [] E0 (tCons (tVar 1) tNil)))
  (tSeq (tAsg (tCall (sp_rota_fault K) [] E0 (tCons (tVar 1) tNil)) (gName 2))
  (tSeq (tIfS (tTest (tOp rNotN0 (tVar 2) (tC .non))) tNever tNext)
  (tSeq (tAsg (tCall (sp_letters_of_text K) [] E0 (tCons (tVar 1) tNil)) (gName 3))
  (tSeq (tIfS (tTest (tOp rGt0 (tCB bLenS (tCons (tVar 3) tNil)) (tC (.int 40)))) tNever tNext)
  (tSeq (sFld K (tVar 0) (tVar 3) "letters")
  (sFld K (tVar 0) (tVar 1) "text")))))))
def r_Rota___len__ (K : PySem.W.Frag) : TS := (tRet (tCB bLenS (tCons (tFld K (tVar 0) "letters") tNil)))
def r_Rota_true_slots (K : PySem.W.Frag) : TS := (tRet (tCall (sp_slots_with_true_hands K) [] E0 (tCons (tFld K (tVar 0) "letters") tNil)))
def r_Rota_false_slots (K : PySem.W.Frag) : TS := (tRet (tCall (sp_slots_with_false_hand K) [] E0 (tCons (tFld K (tVar 0) "letters") tNil)))
def r_world_words (K : PySem.W.Frag) : TS := (tSeq (tAsg (tBM K "str" mSplit (tVar 0) (tCons (tC (.str " ")) tNil)) (gName 1))
  (tSeq (tIfS (tOr (tTest (tOp rNe (tCB (bLen K) (tCons (tVar 1) tNil)) (tC (.int 2)))) (tOr (tTest (tOp (rIn K true) (tOp (rIxL K) (tVar 1) (tC (.int 0))) (tC (.ref (He.ga K "KINDS"))))) (tTest (tOp (rIn K true) (tOp (rIxL K) (tVar 1) (tC (.int 1))) (tC (.ref (He.ga K "LATENESSES"))))))) (tRet (tC .non)) tNext)
  (tRet (tTup (tCons (tOp (rIxL K) (tVar 1) (tC (.int 0))) (tCons (tCB bIntS (tCons (tOp (rIxL K) (tVar 1) (tC (.int 1))) tNil)) tNil))))))
def r_World___init__ (K : PySem.W.Frag) : TS := (tSeq (tDrop (tCall (sp_check_length K) [] E0 (tCons (tVar 1) tNil)))
  (tSeq (tAsg (tCall (sp_world_words K) [] E0 (tCons (tVar 1) tNil)) (gName 2))
  (tSeq (tIfS (tTest (tOp rIsN0 (tVar 2) (tC .non))) tNever tNext)
  (tSeq (sFld K (tVar 0) (tOp (rIxT K) (tVar 2) (tC (.int 0))) "kind")
  (tSeq (sFld K (tVar 0) (tOp (rIxT K) (tVar 2) (tC (.int 1))) "late")
  (sFld K (tVar 0) (tVar 1) "text"))))))
def r_World_of (K : PySem.W.Frag) : TS := (tSeq (tIfS (tTest (tOp (rIn K true) (tVar 0) (tC (.ref (He.ga K "KINDS"))))) tNever tNext)
  (tSeq (tIfS (tOr (tTest (tOp rLt0 (tVar 1) (tC (.int 0)))) (tTest (tOp rGt0 (tVar 1) (tC (.int 4))))) tNever tNext)
  (tRet (tMake (He.ga K "World") (sp_World___init__ K) [] E0 (tCons (tJoin [(tFmt (tVar 0)), (tC (.str " ")), (tFmt (tVar 1))]) tNil)))))
def r_time_or_last (K : PySem.W.Frag) : TS := (tSeq (tIfS (tTest (tOp rIsN0 (tVar 1) (tC .non))) (tRet (tCB (rLenOwn (He.ga K "Rota") (sp_Rota___len__ K)) (tCons (tVar 0) tNil))) tNext)
  (tSeq (tIfS (tOr (tTest (tOp rLt0 (tVar 1) (tC (.int 0)))) (tTest (tOp rGt0 (tVar 1) (tCB (rLenOwn (He.ga K "Rota") (sp_Rota___len__ K)) (tCons (tVar 0) tNil))))) tNever tNext)
  (tRet (tVar 1))))
def r_ask_slot (K : PySem.W.Frag) : TS := (tIfS (tOr (tTest (tOp rLt0 (tVar 0) (tC (.int 1)))) (tTest (tOp rGt0 (tVar 0) (tOp rPlus (tVar 1) (tC (.int 1)))))) tNever tNext)
def r_next_reach (K : PySem.W.Frag) : TS := (tSeq (tIfS (tTest (tOp rEq (tVar 0) (tC (.str "a")))) (tRet (tOp rPlus (tVar 1) (tC (.int 1)))) tNext)
  (tSeq (tIfS (tOr (tTest (tOp rEq (tVar 0) (tC (.str "h")))) (tTest (tOp rEq (tVar 0) (tC (.str "H"))))) (tRet (tCB bMax2 (tCons (tOp rMinus (tVar 1) (tC (.int 1))) (tCons (tC (.int 0)) tNil)))) tNext)
  (tRet (tVar 1))))
def r_next_margin (K : PySem.W.Frag) : TS := (tSeq (tIfS (tTest (tOp rEq (tVar 0) (tC (.str "a")))) (tRet (tOp rPlus (tVar 3) (tC (.int 1)))) tNext)
  (tSeq (tIfS (tAnd (tTest (tOp rEq (tVar 0) (tC (.str "H")))) (tTest (tOp rEq (tVar 3) (tC (.int 0))))) (tRet (tC (.int 0))) tNext)
  (tSeq (tIfS (tAnd (tTest (tOp rEq (tVar 0) (tC (.str "h")))) (tAnd (tTest (tOp rEq (tVar 3) (tC (.int 0)))) (tAnd (tTest (tOp rGt0 (tVar 2) (tC (.int 0)))) (tNot (tTru K (tVar 1)))))) (tRet (tC (.int 0))) tNext)
  (tSeq (tIfS (tOr (tTest (tOp rEq (tVar 0) (tC (.str "h")))) (tTest (tOp rEq (tVar 0) (tC (.str "H"))))) (tRet (tOp rMinus (tVar 3) (tC (.int 1)))) tNext)
  (tRet (tVar 3))))))
def r_numbers_at_end (K : PySem.W.Frag) : TS := (tSeq (tAsg (tC (.int 0)) (gName 3))
  (tSeq (tFor (iStr (tSl rSlS (tVar 0) tNoPart (tPart (tOp rMinus (tVar 2) (tC (.int 1)))))) (gName 4)
   (tAsg (tCall (sp_next_reach K) [] E0 (tCons (tVar 4) (tCons (tVar 3) tNil))) (gName 3)))
  (tSeq (tAsg (tVar 3) (gName 5))
  (tSeq (tFor (iStr (tSl rSlS (tVar 0) (tPart (tOp rMinus (tVar 2) (tC (.int 1)))) tNoPart)) (gName 4)
   (tSeq (tAsg (tCall (sp_next_margin K) [] E0 (tCons (tVar 4) (tCons (tVar 1) (tCons (tVar 3) (tCons (tVar 5) tNil))))) (gName 5))
  (tAsg (tCall (sp_next_reach K) [] E0 (tCons (tVar 4) (tCons (tVar 3) tNil))) (gName 3))))
  (tRet (tTup (tCons (tVar 3) (tCons (tVar 5) tNil))))))))
def r_numbers (K : PySem.W.Frag) : TS := (tSeq (tAsg (tSMeth (He.ga K "World") (sp_World_of K) E0 (tC (.ref (He.ga K "World"))) (tCons (tVar 1) (tCons (tC (.int 0)) tNil))) (gName 3))
  (tSeq (tDrop (tCall (sp_ask_slot K) [] E0 (tCons (tVar 2) (tCons (tCB (rLenOwn (He.ga K "Rota") (sp_Rota___len__ K)) (tCons (tVar 0) tNil)) tNil))))
  (tRet (tCall (sp_numbers_at_end K) [] E0 (tCons (tFld K (tVar 0) "letters") (tCons (tOp rEq (tFld K (tVar 3) "kind") (tC (.str "once"))) (tCons (tVar 2) tNil)))))))
def r_surplus (K : PySem.W.Frag) : TS := (tSeq (tDrop (tCall (sp_ask_slot K) [] E0 (tCons (tVar 1) (tCons (tCB (rLenOwn (He.ga K "Rota") (sp_Rota___len__ K)) (tCons (tVar 0) tNil)) tNil))))
  (tSeq (tAsg (tOp (rIxT K) (tCall (sp_numbers_at_end K) [] E0 (tCons (tSl rSlS (tFld K (tVar 0) "letters") tNoPart (tPart (tOp rMinus (tVar 1) (tC (.int 1))))) (tCons (tC (.bl false)) (tCons (tVar 1) tNil)))) (tC (.int 0))) (gName 2))
  (tSeq (tAsg (tLc (iList K (tMeth (He.ga K "Rota") "false_slots" (sp_Rota_false_slots K) [] E0 (tVar 0) tNil)) (gName 4) (tTest (tOp rGe0 (tVar 4) (tVar 1))) (tVar 4) [4]) (gName 3))
  (tSeq (tAsg (tLc (iList K (tMeth (He.ga K "Rota") "true_slots" (sp_Rota_true_slots K) [] E0 (tVar 0) tNil)) (gName 4) (tTest (tOp rGe0 (tVar 4) (tVar 1))) (tVar 4) [4]) (gName 5))
  (tRet (tOp rMinus (tOp rPlus (tVar 2) (tCB (bLen K) (tCons (tVar 3) tNil))) (tCB (bLen K) (tCons (tVar 5) tNil))))))))
def r__holds (K : PySem.W.Frag) : TS := (tSeq (tIfS (tTest (tOp rEq (tFld K (tVar 1) "late") (tC (.int 0)))) (tRet (tOp rLt0 (tOp (rIxT K) (tCall (sp_numbers_at_end K) [] E0 (tCons (tSl rSlS (tFld K (tVar 0) "letters") tNoPart (tPart (tVar 3))) (tCons (tOp rEq (tFld K (tVar 1) "kind") (tC (.str "once"))) (tCons (tVar 2) tNil)))) (tC (.int 1))) (tC (.int 0)))) tNext)
  tNever)
def r_is_fixed (K : PySem.W.Frag) : TS := (tSeq (tAsg (tCall (sp_time_or_last K) [] E0 (tCons (tVar 0) (tCons (tVar 3) tNil))) (gName 4))
  (tSeq (tDrop (tCall (sp_ask_slot K) [] E0 (tCons (tVar 2) (tCons (tVar 4) tNil))))
  (tRet (tCall (sp__holds K) [] E0 (tCons (tVar 0) (tCons (tVar 1) (tCons (tVar 2) (tCons (tVar 4) tNil))))))))
def r_asked_time (K : PySem.W.Frag) : TS := (tSeq (tIfS (tTest (tOp rIsN0 (tVar 1) (tC .non))) (tRet (tCB (rLenOwn (He.ga K "Rota") (sp_Rota___len__ K)) (tCons (tVar 0) tNil))) tNext)
  (tSeq (tIfS (tOr (tTest (tOp rLt0 (tVar 1) (tC (.int 0)))) (tTest (tOp rGt0 (tVar 1) (tCB (rLenOwn (He.ga K "Rota") (sp_Rota___len__ K)) (tCons (tVar 0) tNil))))) tNever tNext)
  (tRet (tVar 1))))
def r_step_of (K : PySem.W.Frag) : TS := (tSeq (tAsg (tOp (rIxK K (He.ga K "HANDS")) (tC (.ref (He.ga K "HANDS"))) (tVar 0)) (gTup K 2 (gCons (gName 1) (gCons (gName 2) gNil))))
  (tSeq (tAsg (tIf (tTru K (tVar 2)) (tC (.int 1)) (tC (.int 0))) (gName 3))
  (tSeq (tAsg (tIf (tTest (tOp rGt0 (tVar 1) (tC (.int 0)))) (tC (.int 1)) (tC (.int 0))) (gName 4))
  (tRet (tOp rMinus (tVar 3) (tVar 4))))))
def r_running_sums (K : PySem.W.Frag) : TS := (tSeq (tAsg (tLst (tCons (tC (.int 0)) tNil)) (gName 1))
  (tSeq (tFor (iStr (tVar 0)) (gName 2)
   (tDrop (tBM K "list" rAppend (tVar 1) (tCons (tOp rPlus (tOp (rIxL K) (tVar 1) (tUn uNeg (tC (.int 1)))) (tCall (sp_step_of K) [] E0 (tCons (tVar 2) tNil))) tNil))))
  (tRet (tVar 1))))
def r_lows_of (K : PySem.W.Frag) : TS := (tSeq (tAsg (tLst (tCons (tOp (rIxL K) (tVar 0) (tC (.int 0))) tNil)) (gName 1))
  (tSeq (tFor (iList K (tSl (rSlL K) (tVar 0) (tPart (tC (.int 1))) tNoPart)) (gName 2)
   (tDrop (tBM K "list" rAppend (tVar 1) (tCons (tCB bMin2 (tCons (tOp (rIxL K) (tVar 1) (tUn uNeg (tC (.int 1)))) (tCons (tVar 2) tNil))) tNil))))
  (tRet (tVar 1))))
def r_highs_of (K : PySem.W.Frag) : TS := (tSeq (tAsg (tLst (tCons (tOp (rIxL K) (tVar 0) (tUn uNeg (tC (.int 1)))) tNil)) (gName 1))
  (tSeq (tFor (iList K (tRevL2 K (tVar 0))) (gName 2)
   (tDrop (tBM K "list" rAppend (tVar 1) (tCons (tCB bMax2 (tCons (tOp (rIxL K) (tVar 1) (tUn uNeg (tC (.int 1)))) (tCons (tVar 2) tNil))) tNil))))
  (tRet (tRevL K (tVar 1)))))
def r_gate_slots (K : PySem.W.Frag) : TS := (tSeq (tAsg (tCall (sp_running_sums K) [] E0 (tCons (tVar 0) tNil)) (gName 1))
  (tSeq (tAsg (tCall (sp_lows_of K) [] E0 (tCons (tVar 1) tNil)) (gName 2))
  (tSeq (tAsg (tCall (sp_highs_of K) [] E0 (tCons (tVar 1) tNil)) (gName 3))
  (tSeq (tAsg (tLst tNil) (gName 4))
  (tSeq (tFor (iEnumSK (tCons (tVar 0) tNil) (tCons (tC (.int 1)) tNil)) (gTup K 2 (gCons (gName 5) (gCons (gName 6) gNil)))
   (tIfS (tAnd (tTest (tOp rEq (tVar 6) (tC (.str "h")))) (tTest (tOp rLt0 (tOp (rIxL K) (tVar 3) (tVar 5)) (tOp (rIxL K) (tVar 2) (tOp rMinus (tVar 5) (tC (.int 1))))))) (tDrop (tBM K "list" rAppend (tVar 4) (tCons (tVar 5) tNil))) tNext))
  (tRet (tVar 4)))))))
def r_gates (K : PySem.W.Frag) : TS := (tSeq (tAsg (tCall (sp_asked_time K) [] E0 (tCons (tVar 0) (tCons (tVar 1) tNil))) (gName 2))
  (tRet (tCall (sp_gate_slots K) [] E0 (tCons (tSl rSlS (tFld K (tVar 0) "letters") tNoPart (tPart (tVar 2))) tNil))))
def r__law_bag (K : PySem.W.Frag) : TS := (tSeq (tAsg (tC (.int 16197)) (gName 1))
  (tSeq (tFor (iList K (tSl (rSlL K) (tVar 0) tNoPart (tPart (tC (.int 63))))) (gName 2)
   (tAsg (tOp rModP (tCB bInt (tCons (tOp rPlus (tOp rPlus (tOp rTimes (tVar 1) (tC (.int 69621))) (tOp rModP (tCB bInt (tCons (tVar 2) tNil)) (tC (.int 2147483587)))) (tC (.int 173))) tNil)) (tC (.int 2147483629))) (gName 1)))
  (tRet (tLst (tCons (tCB (bList K) (tCons (tSl (rSlL K) (tVar 0) tNoPart (tPart (tC (.int 63)))) tNil)) (tCons (tC (.int 0)) (tCons (tC (.int 0)) (tCons (tVar 1) (tCons (tC (.int 0)) tNil)))))))))
def r__law_draw (K : PySem.W.Frag) : TS := (tSeq (tAsg (tOp rPlus (tOp (rIxL K) (tVar 0) (tC (.int 4))) (tC (.int 1))) (gSub (tVar 0) (tC (.int 4)) rSetL))
  (C8.tCut (tIfS (tAnd (tTest (tOp rEq (tOp (rIxL K) (tVar 0) (tC (.int 2))) (tC (.int 0)))) (tTest (tOp rLt0 (tOp (rIxL K) (tVar 0) (tC (.int 1))) (tCB (bLen K) (tCons (tOp (rIxL K) (tVar 0) (tC (.int 0))) tNil))))) (tSeq (tAsg (tOp (rIxL K) (tOp (rIxL K) (tVar 0) (tC (.int 0))) (tOp (rIxL K) (tVar 0) (tC (.int 1)))) (gName 2))
  (tSeq (tAsg (tOp rPlus (tOp (rIxL K) (tVar 0) (tC (.int 1))) (tC (.int 1))) (gSub (tVar 0) (tC (.int 1)) rSetL))
  (tIfS (tTest (tOp rGe0 (tVar 2) (tOp rPow0 (tC (.int 10)) (tC (.int 18))))) (tAsg (tVar 2) (gSub (tVar 0) (tC (.int 2)) rSetL)) (tAsg (tOp rModP (tCB bInt (tCons (tOp rPlus (tOp rPlus (tOp rTimes (tOp (rIxL K) (tVar 0) (tC (.int 3))) (tC (.int 48271))) (tOp rTimes (tOp rModP (tCB bInt (tCons (tVar 2) tNil)) (tC (.int 2147483563))) (tC (.int 40014)))) (tC (.int 211))) tNil)) (tC (.int 2147483629))) (gSub (tVar 0) (tC (.int 3)) rSetL))))) tNext)
  (tSeq (tIfS (tTest (tOp rGt0 (tOp (rIxL K) (tVar 0) (tC (.int 2))) (tC (.int 0)))) (tSeq (tAsg (tOp rModP (tCB bInt (tCons (tOp (rIxL K) (tVar 0) (tC (.int 2))) tNil)) (tVar 1)) (gName 3))
  (tSeq (tAsg (tOp rFdivN (tOp (rIxL K) (tVar 0) (tC (.int 2))) (tVar 1)) (gSub (tVar 0) (tC (.int 2)) rSetL))
  (tRet (tVar 3)))) tNext)
  (tSeq (tAsg (tOp rModP (tCB bInt (tCons (tOp rPlus (tOp rPlus (tOp rPow0 (tOp (rIxL K) (tVar 0) (tC (.int 3))) (tC (.int 3))) (tOp rTimes (tOp (rIxL K) (tVar 0) (tC (.int 4))) (tC (.int 1299721)))) (tC (.int 90001))) tNil)) (tC (.int 2147483629))) (gSub (tVar 0) (tC (.int 3)) rSetL))
  (tRet (tOp rModP (tCB bInt (tCons (tOp rPlus (tOp rFdivN (tOp (rIxL K) (tVar 0) (tC (.int 3))) (tC (.int 89))) (tOp rTimes (tOp rModP (tCB bInt (tCons (tOp (rIxL K) (tVar 0) (tC (.int 3))) tNil)) (tC (.int 6857))) (tC (.int 71)))) tNil)) (tVar 1)))))))
def r__law_of (K : PySem.W.Frag) : TS := (tRet (tOp (rIxL K) (tVar 1) (tCall (sp__law_draw K) [] E0 (tCons (tVar 0) (tCons (tCB (bLen K) (tCons (tVar 1) tNil)) tNil)))))
def r__law_ofS (K : PySem.W.Frag) : TS := (tRet (tOp rItemS (tVar 1) (tCall (sp__law_draw K) [] E0 (tCons (tVar 0) (tCons (tCB bLenS (tCons (tVar 1) tNil)) tNil)))))
def r__law_like0 (K : PySem.W.Frag) : TS := (tSeq (tIfS (tB (tCB (rIsi K) (tCons (tVar 1) (tCons (tC (.ty "bool")) tNil)))) (tRet (tAndV (tCB (rIsi K) (tCons (tVar 0) (tCons (tC (.ty "bool")) tNil))) (tOp rEq (tVar 0) (tVar 1)))) tNext)
  (tSeq (tIfS (tB (tCB (rIsi K) (tCons (tVar 1) (tCons (tC (.ty "int")) tNil)))) (tRet (tAndV (tCB (rIsi K) (tCons (tVar 0) (tCons (tC (.ty "int")) tNil))) (tAndV (tNotV (tCB (rIsi K) (tCons (tVar 0) (tCons (tC (.ty "bool")) tNil)))) (tOp rEq (tVar 0) (tVar 1))))) tNext)
  (tSeq (tIfS (tB (tCB (rIsi K) (tCons (tVar 1) (tCons (tC (.ty "str")) tNil)))) (tRet (tAndV (tCB (rIsi K) (tCons (tVar 0) (tCons (tC (.ty "str")) tNil))) (tOp rEq (tVar 0) (tVar 1)))) tNext)
  (tSeq (tIfS (tOr (tB (tCB (rIsi K) (tCons (tVar 1) (tCons (tC (.ty "list")) tNil)))) (tB (tCB (rIsi K) (tCons (tVar 1) (tCons (tC (.ty "tuple")) tNil))))) (tSeq (tIfS (tOr (tTest (tOp rNe (tCB (rIsi K) (tCons (tVar 0) (tCons (tC (.ty "list")) tNil))) (tCB (rIsi K) (tCons (tVar 1) (tCons (tC (.ty "list")) tNil))))) (tTest (tOp rNe (tCB (rIsi K) (tCons (tVar 0) (tCons (tC (.ty "tuple")) tNil))) (tCB (rIsi K) (tCons (tVar 1) (tCons (tC (.ty "tuple")) tNil)))))) (tRet (tC (.bl false))) tNext)
  (tSeq (tIfS (tTest (tOp rNe (tCB (bLen K) (tCons (tVar 0) tNil)) (tCB (bLen K) (tCons (tVar 1) tNil)))) (tRet (tC (.bl false))) tNext)
  (tSeq (tFor (iRng1 (tCons (tCB (bLen K) (tCons (tVar 1) tNil)) tNil)) (gName 2)
   (tIfS (tNot (tB (tCall (sp__law_likeZ K) [] E0 (tCons (tOp (rIx K) (tVar 0) (tVar 2)) (tCons (tOp (rIx K) (tVar 1) (tVar 2)) tNil))))) (tRet (tC (.bl false))) tNext))
  (tRet (tC (.bl true)))))) tNext)
  (tRet (tAndV (tOp rIsN0 (tVar 1) (tC .non)) (tOp rIsN0 (tVar 0) (tC .non))))))))
def r__law_like1 (K : PySem.W.Frag) : TS := (tSeq (tIfS (tB (tCB (rIsi K) (tCons (tVar 1) (tCons (tC (.ty "bool")) tNil)))) (tRet (tAndV (tCB (rIsi K) (tCons (tVar 0) (tCons (tC (.ty "bool")) tNil))) (tOp rEq (tVar 0) (tVar 1)))) tNext)
  (tSeq (tIfS (tB (tCB (rIsi K) (tCons (tVar 1) (tCons (tC (.ty "int")) tNil)))) (tRet (tAndV (tCB (rIsi K) (tCons (tVar 0) (tCons (tC (.ty "int")) tNil))) (tAndV (tNotV (tCB (rIsi K) (tCons (tVar 0) (tCons (tC (.ty "bool")) tNil)))) (tOp rEq (tVar 0) (tVar 1))))) tNext)
  (tSeq (tIfS (tB (tCB (rIsi K) (tCons (tVar 1) (tCons (tC (.ty "str")) tNil)))) (tRet (tAndV (tCB (rIsi K) (tCons (tVar 0) (tCons (tC (.ty "str")) tNil))) (tOp rEq (tVar 0) (tVar 1)))) tNext)
  (tSeq (tIfS (tOr (tB (tCB (rIsi K) (tCons (tVar 1) (tCons (tC (.ty "list")) tNil)))) (tB (tCB (rIsi K) (tCons (tVar 1) (tCons (tC (.ty "tuple")) tNil))))) (tSeq (tIfS (tOr (tTest (tOp rNe (tCB (rIsi K) (tCons (tVar 0) (tCons (tC (.ty "list")) tNil))) (tCB (rIsi K) (tCons (tVar 1) (tCons (tC (.ty "list")) tNil))))) (tTest (tOp rNe (tCB (rIsi K) (tCons (tVar 0) (tCons (tC (.ty "tuple")) tNil))) (tCB (rIsi K) (tCons (tVar 1) (tCons (tC (.ty "tuple")) tNil)))))) (tRet (tC (.bl false))) tNext)
  (tSeq (tIfS (tTest (tOp rNe (tCB (bLen K) (tCons (tVar 0) tNil)) (tCB (bLen K) (tCons (tVar 1) tNil)))) (tRet (tC (.bl false))) tNext)
  (tSeq (tFor (iRng1 (tCons (tCB (bLen K) (tCons (tVar 1) tNil)) tNil)) (gName 2)
   (tIfS (tNot (tB (tCall (sp__law_like0 K) [] E0 (tCons (tOp (rIx K) (tVar 0) (tVar 2)) (tCons (tOp (rIx K) (tVar 1) (tVar 2)) tNil))))) (tRet (tC (.bl false))) tNext))
  (tRet (tC (.bl true)))))) tNext)
  (tRet (tAndV (tOp rIsN0 (tVar 1) (tC .non)) (tOp rIsN0 (tVar 0) (tC .non))))))))
def r__law_like2 (K : PySem.W.Frag) : TS := (tSeq (tIfS (tB (tCB (rIsi K) (tCons (tVar 1) (tCons (tC (.ty "bool")) tNil)))) (tRet (tAndV (tCB (rIsi K) (tCons (tVar 0) (tCons (tC (.ty "bool")) tNil))) (tOp rEq (tVar 0) (tVar 1)))) tNext)
  (tSeq (tIfS (tB (tCB (rIsi K) (tCons (tVar 1) (tCons (tC (.ty "int")) tNil)))) (tRet (tAndV (tCB (rIsi K) (tCons (tVar 0) (tCons (tC (.ty "int")) tNil))) (tAndV (tNotV (tCB (rIsi K) (tCons (tVar 0) (tCons (tC (.ty "bool")) tNil)))) (tOp rEq (tVar 0) (tVar 1))))) tNext)
  (tSeq (tIfS (tB (tCB (rIsi K) (tCons (tVar 1) (tCons (tC (.ty "str")) tNil)))) (tRet (tAndV (tCB (rIsi K) (tCons (tVar 0) (tCons (tC (.ty "str")) tNil))) (tOp rEq (tVar 0) (tVar 1)))) tNext)
  (tSeq (tIfS (tOr (tB (tCB (rIsi K) (tCons (tVar 1) (tCons (tC (.ty "list")) tNil)))) (tB (tCB (rIsi K) (tCons (tVar 1) (tCons (tC (.ty "tuple")) tNil))))) (tSeq (tIfS (tOr (tTest (tOp rNe (tCB (rIsi K) (tCons (tVar 0) (tCons (tC (.ty "list")) tNil))) (tCB (rIsi K) (tCons (tVar 1) (tCons (tC (.ty "list")) tNil))))) (tTest (tOp rNe (tCB (rIsi K) (tCons (tVar 0) (tCons (tC (.ty "tuple")) tNil))) (tCB (rIsi K) (tCons (tVar 1) (tCons (tC (.ty "tuple")) tNil)))))) (tRet (tC (.bl false))) tNext)
  (tSeq (tIfS (tTest (tOp rNe (tCB (bLen K) (tCons (tVar 0) tNil)) (tCB (bLen K) (tCons (tVar 1) tNil)))) (tRet (tC (.bl false))) tNext)
  (tSeq (tFor (iRng1 (tCons (tCB (bLen K) (tCons (tVar 1) tNil)) tNil)) (gName 2)
   (tIfS (tNot (tB (tCall (sp__law_like1 K) [] E0 (tCons (tOp (rIx K) (tVar 0) (tVar 2)) (tCons (tOp (rIx K) (tVar 1) (tVar 2)) tNil))))) (tRet (tC (.bl false))) tNext))
  (tRet (tC (.bl true)))))) tNext)
  (tRet (tAndV (tOp rIsN0 (tVar 1) (tC .non)) (tOp rIsN0 (tVar 0) (tC .non))))))))
def r__law_letters (K : PySem.W.Frag) : TS := (tSeq (tAsg (tCall (sp__law_of K) [] E0 (tCons (tVar 0) (tCons (tLst (tCons (tC (.str ".hHabB")) (tCons (tC (.str "hhhHa.")) (tCons (tC (.str "ha")) (tCons (tC (.str "aaHhb")) (tCons (tC (.str "hhhha")) (tCons (tC (.str "h.")) (tCons (tC (.str "hH")) (tCons (tC (.str "hHaa")) (tCons (tC (.str "bBh.a")) (tCons (tC (.str "...hHa")) tNil))))))))))) tNil))) (gName 2))
  (tRet (tBM K "str" (mJoin K) (tC (.str "")) (tCons (tLc (iRng1 (tCons (tVar 1) tNil)) (gName 3) tYes (tCall (sp__law_ofS K) [] E0 (tCons (tVar 0) (tCons (tVar 2) tNil))) [3]) tNil))))
def r__law_line (K : PySem.W.Frag) : TS := (tSeq (tAsg (tOp rPlus (tVar 1) (tCB bMax2 (tCons (tCall (sp__law_draw K) [] E0 (tCons (tVar 0) (tCons (tOp rPlus (tOp rMinus (tVar 2) (tVar 1)) (tC (.int 1))) tNil))) (tCons (tCall (sp__law_draw K) [] E0 (tCons (tVar 0) (tCons (tOp rPlus (tOp rMinus (tVar 2) (tVar 1)) (tC (.int 1))) tNil))) tNil)))) (gName 3))
  (tSeq (tIfS (tTru K (tCall (sp__law_draw K) [] E0 (tCons (tVar 0) (tCons (tC (.int 2)) tNil)))) (tRet (tCall (sp__law_letters K) [] E0 (tCons (tVar 0) (tCons (tVar 3) tNil)))) tNext)
  (tSeq (tAsg (tCall (sp__law_of K) [] E0 (tCons (tVar 0) (tCons (tLst (tCons (tC (.str "hah")) (tCons (tC (.str "Hh")) (tCons (tC (.str "aahhh")) (tCons (tC (.str "haHhhb.h")) (tCons (tC (.str "hhh.")) (tCons (tC (.str "hHh.")) (tCons (tC (.str "hhaH")) (tCons (tC (.str "hhaHaa")) (tCons (tC (.str "ahh")) (tCons (tC (.str "aHHh")) (tCons (tC (.str "hahahh")) (tCons (tC (.str "abhBh")) tNil))))))))))))) tNil))) (gName 4))
  (tSeq (tAsg (tCall (sp__law_letters K) [] E0 (tCons (tVar 0) (tCons (tCall (sp__law_draw K) [] E0 (tCons (tVar 0) (tCons (tOp rPlus (tVar 3) (tC (.int 1))) tNil))) tNil))) (gName 5))
  (tRet (tSl rSlS (tOp rAddS (tOp rAddS (tVar 5) (tVar 4)) (tCall (sp__law_letters K) [] E0 (tCons (tVar 0) (tCons (tVar 3) tNil)))) tNoPart (tPart (tVar 3))))))))
def r__law_text (K : PySem.W.Frag) : TS := (tRet (tIf (tTru K (tVar 0)) (tVar 0) (tC (.str "-"))))
def r__law_sums (K : PySem.W.Frag) : TS := (tSeq (tAsg (tC (.int 0)) (gName 2))
  (tSeq (tAsg (tLst tNil) (gName 3))
  (tSeq (tAsg (tLst (tCons (tLst (tCons (tTup (tCons (tC (.int 0)) (tCons (tC (.int 0)) tNil))) tNil)) tNil)) (gName 4))
  (tSeq (tFor (iStr (tVar 0)) (gName 5)
   (tSeq (tDrop (tBM K "list" rAppend (tVar 3) (tCons (tVar 2) tNil)))
  (C8.tCut (tIfS (tTest (tOp rEq (tVar 5) (tC (.str "a")))) (tSeq (tAsg (tLc (iList K (tVar 3)) (gName 6) tYes (tOp rPlus (tVar 6) (tC (.int 1))) [6]) (gName 3))
  (tAsg (tOp rPlus (tVar 2) (tC (.int 1))) (gName 2))) (tIfS (tOr (tTest (tOp rEq (tVar 5) (tC (.str "h")))) (tTest (tOp rEq (tVar 5) (tC (.str "H"))))) (tSeq (tAsg (tOrV (tOp rEq (tVar 5) (tC (.str "H"))) (tAndV (tOp rEq (tVar 1) (tC (.str "many"))) (tOp rGt0 (tVar 2) (tC (.int 0))))) (gName 7))
  (tSeq (tAsg (tLc (iList K (tVar 3)) (gName 6) tYes (tIf (tAnd (tTest (tOp rEq (tVar 6) (tC (.int 0)))) (tTru K (tVar 7))) (tC (.int 0)) (tOp rMinus (tVar 6) (tC (.int 1)))) [6]) (gName 3))
  (tAsg (tCB bMax2 (tCons (tC (.int 0)) (tCons (tOp rMinus (tVar 2) (tC (.int 1))) tNil))) (gName 2)))) tNext))
  (tDrop (tBM K "list" rAppend (tVar 4) (tCons (tOp rCat (tLc (iList K (tVar 3)) (gName 6) tYes (tTup (tCons (tVar 2) (tCons (tVar 6) tNil))) [6]) (tLst (tCons (tTup (tCons (tVar 2) (tCons (tVar 2) tNil))) tNil))) tNil))))))
  (tRet (tVar 4))))))
def r__law_over (K : PySem.W.Frag) : TS := (tSeq (tAsg (tC (.int 0)) (gName 3))
  (tSeq (tFor (iStr (tSl rSlS (tVar 0) (tPart (tOp rMinus (tVar 1) (tC (.int 1)))) (tPart (tVar 2)))) (gName 4)
   (tAsg (tOp rPlus (tVar 3) (tIf (tTest (tOp rEq (tVar 4) (tC (.str "a")))) (tC (.int 1)) (tIf (tOr (tTest (tOp rEq (tVar 4) (tC (.str "h")))) (tTest (tOp rEq (tVar 4) (tC (.str "H"))))) (tUn uNeg (tC (.int 1))) (tC (.int 0))))) (gName 3)))
  (tRet (tVar 3))))
def r__law_gates_fast (K : PySem.W.Frag) : TS := (tSeq (tAsg (tLst (tCons (tC (.int 0)) tNil)) (gName 1))
  (tSeq (tFor (iStr (tVar 0)) (gName 2)
   (tSeq (tAsg (tIf (tOr (tTest (tOp rEq (tVar 2) (tC (.str "h")))) (tTest (tOp rEq (tVar 2) (tC (.str "H"))))) (tC (.int 1)) (tIf (tTest (tOp rEq (tVar 2) (tC (.str "a")))) (tUn uNeg (tC (.int 1))) (tC (.int 0)))) (gName 3))
  (tDrop (tBM K "list" rAppend (tVar 1) (tCons (tOp rPlus (tOp (rIxL K) (tVar 1) (tOp rMinus (tCB (bLen K) (tCons (tVar 1) tNil)) (tC (.int 1)))) (tVar 3)) tNil)))))
  (tSeq (tAsg (tLc (iList K (tVar 1)) (gName 5) tYes (tVar 5) [5]) (gName 4))
  (tSeq (tFor (iRevR (tRg1 (tCB bLenS (tCons (tVar 0) tNil)))) (gName 6)
   (tAsg (tCB bMin2 (tCons (tOp (rIxL K) (tVar 4) (tVar 6)) (tCons (tOp (rIxL K) (tVar 4) (tOp rPlus (tVar 6) (tC (.int 1)))) tNil))) (gSub (tVar 4) (tVar 6) rSetL)))
  (tSeq (tAsg (tLst tNil) (gName 7))
  (tSeq (tAsg (tC (.int 0)) (gName 8))
  (tSeq (tFor (iRng2 (tCons (tC (.int 1)) (tCons (tOp rPlus (tCB bLenS (tCons (tVar 0) tNil)) (tC (.int 1))) tNil))) (gName 9)
   (tSeq (tAsg (tCB bMax2 (tCons (tVar 8) (tCons (tOp (rIxL K) (tVar 1) (tOp rMinus (tVar 9) (tC (.int 1)))) tNil))) (gName 8))
  (tIfS (tAnd (tTest (tOp rEq (tOp rItemS (tVar 0) (tOp rMinus (tVar 9) (tC (.int 1)))) (tC (.str "h")))) (tTest (tOp rGt0 (tOp (rIxL K) (tVar 4) (tVar 9)) (tVar 8)))) (tDrop (tBM K "list" rAppend (tVar 7) (tCons (tVar 9) tNil))) tNext)))
  (tRet (tVar 7)))))))))
def r__law_put_in (K : PySem.W.Frag) : TS := (tSeq (tAsg (tC (.str "")) (gName 2))
  (tSeq (tAsg (tLst tNil) (gName 3))
  (tSeq (tFor (iRng1 (tCons (tOp rPlus (tCB bLenS (tCons (tVar 1) tNil)) (tC (.int 1))) tNil)) (gName 4)
   (tSeq (tAsg (tCall (sp__law_of K) [] E0 (tCons (tVar 0) (tCons (tLst (tCons (tC (.int 0)) (tCons (tC (.int 1)) (tCons (tC (.int 0)) (tCons (tC (.int 2)) (tCons (tC (.int 0)) (tCons (tC (.int 3)) tNil))))))) tNil))) (gName 5))
  (C8.tCut (tFor (iRng1 (tCons (tVar 5) tNil)) (gName 6)
   (tIfS (tTest (tOp rLt0 (tCB bLenS (tCons (tVar 2) tNil)) (tOp rMinus (tC (.int 39)) (tCB bLenS (tCons (tVar 1) tNil))))) (tSeq (tAsg (tOp rAddS (tVar 2) (tCall (sp__law_ofS K) [] E0 (tCons (tVar 0) (tCons (tC (.str "b.B")) tNil)))) (gName 2))
  (tDrop (tBM K "list" rAppend (tVar 3) (tCons (tOp rPlus (tVar 4) (tC (.int 1))) tNil)))) tNext))
  (tIfS (tTest (tOp rLt0 (tVar 4) (tCB bLenS (tCons (tVar 1) tNil)))) (tSeq (tAsg (tOp rAddS (tVar 2) (tOp rItemS (tVar 1) (tVar 4))) (gName 2))
  (tDrop (tBM K "list" rAppend (tVar 3) (tCons (tOp rPlus (tVar 4) (tC (.int 1))) tNil)))) tNext))))
  (tRet (tLst (tCons (tVar 2) (tCons (tOp rCat (tVar 3) (tLst (tCons (tOp rPlus (tCB bLenS (tCons (tVar 1) tNil)) (tC (.int 1))) tNil))) tNil)))))))
def r_law (K : PySem.W.Frag) : TS := (tSeq (tAsg (tCall (sp__law_bag K) [] E0 (tCons (tVar 0) tNil)) (gName 1))
  (tSeq (tFor (iRng1 (tCons (tC (.int 2)) tNil)) (gName 2)
   (C8.tCut (tAsg (tCall (sp__law_line K) [] E0 (tCons (tVar 1) (tCons (tC (.int 0)) (tCons (tIf (tTest (tOp rEq (tCall (sp__law_draw K) [] E0 (tCons (tVar 1) (tCons (tC (.int 10)) tNil))) (tC (.int 9)))) (tC (.int 16)) (tC (.int 7))) tNil)))) (gName 3))
  (C8.tCut (tIfS (tTest (tOp rEq (tVar 2) (tC (.int 1)))) (tAsg (tBM K "str" (mJoin K) (tC (.str "")) (tCons (tLc (iStr (tVar 3)) (gName 4) tYes (tCall (sp__law_of K) [] E0 (tCons (tVar 1) (tCons (tLst (tCons (tC (.str "h")) (tCons (tVar 4) (tCons (tC (.str "h")) tNil)))) tNil))) [4]) tNil)) (gName 3)) tNext)
  (tSeq (tAsg (tCall (sp__law_put_in K) [] E0 (tCons (tVar 1) (tCons (tVar 3) tNil))) (gUnl K 2 (gCons (gName 5) (gCons (gName 6) gNil))))
  (tSeq (tAsg (tMake (He.ga K "Rota") (sp_Rota___init__ K) [] E0 (tCons (tCall (sp__law_text K) [] E0 (tCons (tVar 3) tNil)) tNil)) (gName 7))
  (tSeq (tAsg (tMake (He.ga K "Rota") (sp_Rota___init__ K) [] E0 (tCons (tCall (sp__law_text K) [] E0 (tCons (tVar 5) tNil)) tNil)) (gName 8))
  (tSeq (tAsg (tCall (sp__law_of K) [] E0 (tCons (tVar 1) (tCons (tLst (tCons (tC (.str "many")) (tCons (tC (.str "once")) tNil))) tNil))) (gName 9))
  (tSeq (tAsg (tMake (He.ga K "World") (sp_World___init__ K) [] E0 (tCons (tOp rAddS (tVar 9) (tC (.str " 0"))) tNil)) (gName 10))
  (tSeq (tAsg (tOp (rIxL K) (tCall (sp__law_sums K) [] E0 (tCons (tVar 3) (tCons (tVar 9) tNil))) (tCB bLenS (tCons (tVar 3) tNil))) (gName 11))
  (tSeq (tFor (iRng2 (tCons (tC (.int 1)) (tCons (tOp rPlus (tCB bLenS (tCons (tVar 3) tNil)) (tC (.int 2))) tNil))) (gName 12)
   (tSeq (tIfS (tNot (tB (tCall (sp__law_like1 K) [] E0 (tCons (tCall (sp_numbers K) [] E0 (tCons (tVar 7) (tCons (tVar 9) (tCons (tVar 12) tNil)))) (tCons (tOp (rIxL K) (tVar 11) (tOp rMinus (tVar 12) (tC (.int 1)))) tNil))))) (tRet (tC (.bl false))) tNext)
  (tIfS (tNot (tB (tCall (sp__law_like0 K) [] E0 (tCons (tCall (sp_surplus K) [] E0 (tCons (tVar 7) (tCons (tVar 12) tNil))) (tCons (tOp rPlus (tOp (rIxT K) (tOp (rIxL K) (tOp (rIxL K) (tCall (sp__law_sums K) [] E0 (tCons (tSl rSlS (tVar 3) tNoPart (tPart (tOp rMinus (tVar 12) (tC (.int 1))))) (tCons (tVar 9) tNil))) (tOp rMinus (tVar 12) (tC (.int 1)))) (tC (.int 0))) (tC (.int 0))) (tCall (sp__law_over K) [] E0 (tCons (tVar 3) (tCons (tVar 12) (tCons (tCB bLenS (tCons (tVar 3) tNil)) tNil))))) tNil))))) (tRet (tC (.bl false))) tNext)))
  (tSeq (tFor (iRng2 (tCons (tC (.int 1)) (tCons (tOp rPlus (tCB bLenS (tCons (tVar 5) tNil)) (tC (.int 2))) tNil))) (gName 12)
   (tSeq (tIfS (tNot (tB (tCall (sp__law_like1 K) [] E0 (tCons (tCall (sp_numbers K) [] E0 (tCons (tVar 8) (tCons (tVar 9) (tCons (tVar 12) tNil)))) (tCons (tOp (rIxL K) (tVar 11) (tOp rMinus (tOp (rIxL K) (tVar 6) (tOp rMinus (tVar 12) (tC (.int 1)))) (tC (.int 1)))) tNil))))) (tRet (tC (.bl false))) tNext)
  (tIfS (tTest (tOp rNe (tCall (sp_surplus K) [] E0 (tCons (tVar 8) (tCons (tVar 12) tNil))) (tCall (sp_surplus K) [] E0 (tCons (tVar 7) (tCons (tOp (rIxL K) (tVar 6) (tOp rMinus (tVar 12) (tC (.int 1)))) tNil))))) (tRet (tC (.bl false))) tNext)))
  (tSeq (tAsg (tCall (sp__law_gates_fast K) [] E0 (tCons (tVar 3) tNil)) (gName 13))
  (tSeq (tAsg (tLc (iRng1 (tCons (tCB bLenS (tCons (tVar 5) tNil)) tNil)) (gName 15) (tAnd (tTest (tOp (rIn K false) (tOp (rIxL K) (tVar 6) (tVar 15)) (tVar 13))) (tTest (tOp rNe (tOp (rIxL K) (tVar 6) (tVar 15)) (tOp (rIxL K) (tVar 6) (tOp rPlus (tVar 15) (tC (.int 1))))))) (tOp rPlus (tVar 15) (tC (.int 1))) [15]) (gName 14))
  (tSeq (tIfS (tNot (tB (tCall (sp__law_like2 K) [] E0 (tCons (tLst (tCons (tCall (sp_gates K) [.non] E0 (tCons (tVar 7) tNil)) (tCons (tCall (sp_gates K) [.non] E0 (tCons (tVar 8) tNil)) tNil))) (tCons (tLst (tCons (tVar 13) (tCons (tVar 14) tNil))) tNil))))) (tRet (tC (.bl false))) tNext)
  (tFor (iRng1 (tCons (tC (.int 3)) tNil)) (gName 15)
   (tSeq (tAsg (tOp rPlus (tC (.int 1)) (tCall (sp__law_draw K) [] E0 (tCons (tVar 1) (tCons (tOp rPlus (tCB bLenS (tCons (tVar 5) tNil)) (tC (.int 1))) tNil)))) (gName 12))
  (tSeq (tAsg (tOp rLt0 (tOp (rIxT K) (tOp (rIxL K) (tVar 11) (tOp rMinus (tOp (rIxL K) (tVar 6) (tOp rMinus (tVar 12) (tC (.int 1)))) (tC (.int 1)))) (tC (.int 1))) (tC (.int 0))) (gName 16))
  (tIfS (tNot (tB (tCall (sp__law_like1 K) [] E0 (tCons (tLst (tCons (tCall (sp_is_fixed K) [.non] E0 (tCons (tVar 8) (tCons (tVar 10) (tCons (tVar 12) tNil)))) (tCons (tCall (sp_is_fixed K) [.non] E0 (tCons (tVar 7) (tCons (tVar 10) (tCons (tOp (rIxL K) (tVar 6) (tOp rMinus (tVar 12) (tC (.int 1)))) tNil)))) tNil))) (tCons (tLst (tCons (tVar 16) (tCons (tVar 16) tNil))) tNil))))) (tRet (tC (.bl false))) tNext))))))))))))))))))
  (tRet (tC (.bl true)))))

/-! ### the head: facts by names, the run -/
def d_check_length : He5.DefA := ⟨fun K => He.ga K "check_length", "check_length", "check_length", defArgs s_check_length, defBody s_check_length, defScope s_check_length, [], []⟩
def d_first_strange : He5.DefA := ⟨fun K => He.ga K "first_strange", "first_strange", "first_strange", defArgs s_first_strange, defBody s_first_strange, defScope s_first_strange, [], []⟩
def d_rota_fault : He5.DefA := ⟨fun K => He.ga K "rota_fault", "rota_fault", "rota_fault", defArgs s_rota_fault, defBody s_rota_fault, defScope s_rota_fault, [], []⟩
def d_letters_of_text : He5.DefA := ⟨fun K => He.ga K "letters_of_text", "letters_of_text", "letters_of_text", defArgs s_letters_of_text, defBody s_letters_of_text, defScope s_letters_of_text, [], []⟩
def d_true_hands : He5.DefA := ⟨fun K => He.ga K "true_hands", "true_hands", "true_hands", defArgs s_true_hands, defBody s_true_hands, defScope s_true_hands, [], []⟩
def d_has_false_hand : He5.DefA := ⟨fun K => He.ga K "has_false_hand", "has_false_hand", "has_false_hand", defArgs s_has_false_hand, defBody s_has_false_hand, defScope s_has_false_hand, [], []⟩
def d_slots_with_true_hands : He5.DefA := ⟨fun K => He.ga K "slots_with_true_hands", "slots_with_true_hands", "slots_with_true_hands", defArgs s_slots_with_true_hands, defBody s_slots_with_true_hands, defScope s_slots_with_true_hands, [], []⟩
def d_slots_with_false_hand : He5.DefA := ⟨fun K => He.ga K "slots_with_false_hand", "slots_with_false_hand", "slots_with_false_hand", defArgs s_slots_with_false_hand, defBody s_slots_with_false_hand, defScope s_slots_with_false_hand, [], []⟩
def d_Rota___init__ : He5.DefA := ⟨fun K => He.ma K (He.ga K "Rota") "__init__", "__init__", "Rota.__init__", defArgs s_Rota___init__, defBody s_Rota___init__, defScope s_Rota___init__, [], []⟩
def d_Rota___len__ : He5.DefA := ⟨fun K => He.ma K (He.ga K "Rota") "__len__", "__len__", "Rota.__len__", defArgs s_Rota___len__, defBody s_Rota___len__, defScope s_Rota___len__, [], []⟩
def d_Rota_true_slots : He5.DefA := ⟨fun K => He.ma K (He.ga K "Rota") "true_slots", "true_slots", "Rota.true_slots", defArgs s_Rota_true_slots, defBody s_Rota_true_slots, defScope s_Rota_true_slots, [], []⟩
def d_Rota_false_slots : He5.DefA := ⟨fun K => He.ma K (He.ga K "Rota") "false_slots", "false_slots", "Rota.false_slots", defArgs s_Rota_false_slots, defBody s_Rota_false_slots, defScope s_Rota_false_slots, [], []⟩
def d_world_words : He5.DefA := ⟨fun K => He.ga K "world_words", "world_words", "world_words", defArgs s_world_words, defBody s_world_words, defScope s_world_words, [], []⟩
def d_World___init__ : He5.DefA := ⟨fun K => He.ma K (He.ga K "World") "__init__", "__init__", "World.__init__", defArgs s_World___init__, defBody s_World___init__, defScope s_World___init__, [], []⟩
def d_World_of : He5.DefA := ⟨fun K => smAt K (He.ga K "World") "of", "of", "World.of", defArgs s_World_of, defBody s_World_of, defScope s_World_of, [], []⟩
def d_time_or_last : He5.DefA := ⟨fun K => He.ga K "time_or_last", "time_or_last", "time_or_last", defArgs s_time_or_last, defBody s_time_or_last, defScope s_time_or_last, [], []⟩
def d_ask_slot : He5.DefA := ⟨fun K => He.ga K "ask_slot", "ask_slot", "ask_slot", defArgs s_ask_slot, defBody s_ask_slot, defScope s_ask_slot, [], []⟩
def d_next_reach : He5.DefA := ⟨fun K => He.ga K "next_reach", "next_reach", "next_reach", defArgs s_next_reach, defBody s_next_reach, defScope s_next_reach, [], []⟩
def d_next_margin : He5.DefA := ⟨fun K => He.ga K "next_margin", "next_margin", "next_margin", defArgs s_next_margin, defBody s_next_margin, defScope s_next_margin, [], []⟩
def d_numbers_at_end : He5.DefA := ⟨fun K => He.ga K "numbers_at_end", "numbers_at_end", "numbers_at_end", defArgs s_numbers_at_end, defBody s_numbers_at_end, defScope s_numbers_at_end, [], []⟩
def d_numbers : He5.DefA := ⟨fun K => He.ga K "numbers", "numbers", "numbers", defArgs s_numbers, defBody s_numbers, defScope s_numbers, [], []⟩
def d_surplus : He5.DefA := ⟨fun K => He.ga K "surplus", "surplus", "surplus", defArgs s_surplus, defBody s_surplus, defScope s_surplus, [], []⟩
def d__holds : He5.DefA := ⟨fun K => He.ga K "_holds", "_holds", "_holds", defArgs s__holds, defBody s__holds, defScope s__holds, [], []⟩
def d_is_fixed : He5.DefA := ⟨fun K => He.ga K "is_fixed", "is_fixed", "is_fixed", defArgs s_is_fixed, defBody s_is_fixed, defScope s_is_fixed, [.non], []⟩
def d_asked_time : He5.DefA := ⟨fun K => He.ga K "asked_time", "asked_time", "asked_time", defArgs s_asked_time, defBody s_asked_time, defScope s_asked_time, [], []⟩
def d_step_of : He5.DefA := ⟨fun K => He.ga K "step_of", "step_of", "step_of", defArgs s_step_of, defBody s_step_of, defScope s_step_of, [], []⟩
def d_running_sums : He5.DefA := ⟨fun K => He.ga K "running_sums", "running_sums", "running_sums", defArgs s_running_sums, defBody s_running_sums, defScope s_running_sums, [], []⟩
def d_lows_of : He5.DefA := ⟨fun K => He.ga K "lows_of", "lows_of", "lows_of", defArgs s_lows_of, defBody s_lows_of, defScope s_lows_of, [], []⟩
def d_highs_of : He5.DefA := ⟨fun K => He.ga K "highs_of", "highs_of", "highs_of", defArgs s_highs_of, defBody s_highs_of, defScope s_highs_of, [], []⟩
def d_gate_slots : He5.DefA := ⟨fun K => He.ga K "gate_slots", "gate_slots", "gate_slots", defArgs s_gate_slots, defBody s_gate_slots, defScope s_gate_slots, [], []⟩
def d_gates : He5.DefA := ⟨fun K => He.ga K "gates", "gates", "gates", defArgs s_gates, defBody s_gates, defScope s_gates, [.non], []⟩
def d__law_bag : He5.DefA := ⟨fun K => He.ga K "_law_bag", "_law_bag", "_law_bag", defArgs s__law_bag, defBody s__law_bag, defScope s__law_bag, [], []⟩
def d__law_draw : He5.DefA := ⟨fun K => He.ga K "_law_draw", "_law_draw", "_law_draw", defArgs s__law_draw, defBody s__law_draw, defScope s__law_draw, [], []⟩
def d__law_of : He5.DefA := ⟨fun K => He.ga K "_law_of", "_law_of", "_law_of", defArgs s__law_of, defBody s__law_of, defScope s__law_of, [], []⟩
def d__law_ofS : He5.DefA := ⟨fun K => He.ga K "_law_of", "_law_of", "_law_of", defArgs s__law_ofS, defBody s__law_ofS, defScope s__law_ofS, [], []⟩
def d__law_like0 : He5.DefA := ⟨fun K => He.ga K "_law_like", "_law_like", "_law_like", defArgs s__law_like0, defBody s__law_like0, defScope s__law_like0, [], []⟩
def d__law_like1 : He5.DefA := ⟨fun K => He.ga K "_law_like", "_law_like", "_law_like", defArgs s__law_like1, defBody s__law_like1, defScope s__law_like1, [], []⟩
def d__law_like2 : He5.DefA := ⟨fun K => He.ga K "_law_like", "_law_like", "_law_like", defArgs s__law_like2, defBody s__law_like2, defScope s__law_like2, [], []⟩
def d__law_letters : He5.DefA := ⟨fun K => He.ga K "_law_letters", "_law_letters", "_law_letters", defArgs s__law_letters, defBody s__law_letters, defScope s__law_letters, [], []⟩
def d__law_line : He5.DefA := ⟨fun K => He.ga K "_law_line", "_law_line", "_law_line", defArgs s__law_line, defBody s__law_line, defScope s__law_line, [], []⟩
def d__law_text : He5.DefA := ⟨fun K => He.ga K "_law_text", "_law_text", "_law_text", defArgs s__law_text, defBody s__law_text, defScope s__law_text, [], []⟩
def d__law_sums : He5.DefA := ⟨fun K => He.ga K "_law_sums", "_law_sums", "_law_sums", defArgs s__law_sums, defBody s__law_sums, defScope s__law_sums, [], []⟩
def d__law_over : He5.DefA := ⟨fun K => He.ga K "_law_over", "_law_over", "_law_over", defArgs s__law_over, defBody s__law_over, defScope s__law_over, [], []⟩
def d__law_gates_fast : He5.DefA := ⟨fun K => He.ga K "_law_gates_fast", "_law_gates_fast", "_law_gates_fast", defArgs s__law_gates_fast, defBody s__law_gates_fast, defScope s__law_gates_fast, [], []⟩
def d__law_put_in : He5.DefA := ⟨fun K => He.ga K "_law_put_in", "_law_put_in", "_law_put_in", defArgs s__law_put_in, defBody s__law_put_in, defScope s__law_put_in, [], []⟩
def d_law : He5.DefA := ⟨fun K => He.ga K "law", "law", "law", defArgs s_law, defBody s_law, defScope s_law, [], []⟩
def fn : List He5.DefA := [d_check_length, d_first_strange, d_rota_fault, d_letters_of_text, d_true_hands, d_has_false_hand, d_slots_with_true_hands, d_slots_with_false_hand, d_Rota___init__, d_Rota___len__, d_Rota_true_slots, d_Rota_false_slots, d_world_words, d_World___init__, d_World_of, d_time_or_last, d_ask_slot, d_next_reach, d_next_margin, d_numbers_at_end, d_numbers, d_surplus, d__holds, d_is_fixed, d_asked_time, d_step_of, d_running_sums, d_lows_of, d_highs_of, d_gate_slots, d_gates, d__law_bag, d__law_draw, d__law_of, d__law_ofS, d__law_like0, d__law_like1, d__law_like2, d__law_letters, d__law_line, d__law_text, d__law_sums, d__law_over, d__law_gates_fast, d__law_put_in, d_law]
def fa : List He.Fa := [.glo "check_length", .glo "first_strange", .glo "rota_fault", .glo "letters_of_text", .glo "true_hands", .glo "has_false_hand", .glo "slots_with_true_hands", .glo "slots_with_false_hand", .glo "world_words", .glo "time_or_last", .glo "ask_slot", .glo "next_reach", .glo "next_margin", .glo "numbers_at_end", .glo "numbers", .glo "surplus", .glo "_holds", .glo "is_fixed", .glo "asked_time", .glo "step_of", .glo "running_sums", .glo "lows_of", .glo "highs_of", .glo "gate_slots", .glo "gates", .glo "_law_bag", .glo "_law_draw", .glo "_law_of", .glo "_law_like", .glo "_law_letters", .glo "_law_line", .glo "_law_text", .glo "_law_sums", .glo "_law_over", .glo "_law_gates_fast", .glo "_law_put_in", .glo "law", .free "bool", .free "enumerate", .free "int", .free "isinstance", .free "len", .free "list", .free "max", .free "min", .free "range", .free "reversed", .free "str", .free "tuple", .str "EMPTY" "-", .str "FALSE_LETTERS" "abB", .str "LETTERS" ".hHabB", .int "MOST_CHARACTERS" 100000, .int "MOST_LATE" 4, .int "MOST_SLOTS" 40, .glo "HANDS", .glo "KINDS", .glo "LATENESSES", .glo "Rota", .glo "TRUE_HANDS", .glo "World", .mkr "Rota", .mkr "World", .cls "Rota", .meth "Rota" "__len__", .meth "Rota" "false_slots", .meth "Rota" "true_slots", .cls "World", .noat "Rota" "letters", .noat "Rota" "text", .noat "World" "kind", .noat "World" "late", .noat "World" "text"]
def ts : List He.Tab := [(fun K => He.ga K "HANDS", [".", "h", "H", "a", "b", "B"]), (fun K => He.ga K "TRUE_HANDS", [".", "h", "H", "a", "b", "B"])]
def hdB (K : PySem.W.Frag) : Bool := L6.all fun c => match PySem.W.nsIn K (He.ga K "HANDS") ⟨#[c]⟩ with
  | some (some (.ref a)) => tupA K a [.int (handsN c), .bl (falseN c)]
  | _ => false
theorem hdB_ok {K : PySem.W.Frag} (h : hdB K = true) {c : Nat} (hc : c ∈ L6) : ∃ a, KGet K (He.ga K "HANDS") ⟨#[c]⟩ (.ref a) ∧ ∀ H, SqT K H a [.int (handsN c), .bl (falseN c)] := by
  have h2 := List.all_eq_true.mp h c hc
  revert h2
  cases e : PySem.W.nsIn K (He.ga K "HANDS") ⟨#[c]⟩ with
  | none => exact fun h => by cases h
  | some r => cases r with
    | none => exact fun h => by cases h
    | some v => cases v with
      | ref a => exact fun h => ⟨a, ⟨_, e, rfl⟩, fun H => tupA_ok h H⟩
      | _ => exact fun h => by cases h
def thB (K : PySem.W.Frag) : Bool := L6.all fun c => match PySem.W.nsIn K (He.ga K "TRUE_HANDS") ⟨#[c]⟩ with
  | some (some (.int i _)) => decide (i = handsN c)
  | _ => false
theorem thB_ok {K : PySem.W.Frag} (h : thB K = true) {c : Nat} (hc : c ∈ L6) : KGet K (He.ga K "TRUE_HANDS") ⟨#[c]⟩ (.int (handsN c)) := by
  have h2 := List.all_eq_true.mp h c hc
  revert h2
  cases e : PySem.W.nsIn K (He.ga K "TRUE_HANDS") ⟨#[c]⟩ with
  | none => exact fun h => by cases h
  | some r => cases r with
    | none => exact fun h => by cases h
    | some v => cases v with
      | int i t => exact fun h => ⟨_, e, t, by rw [of_decide_eq_true h]⟩
      | _ => exact fun h => by cases h
def ex (K : PySem.W.Frag) : Bool := hdB K && (He.tupB K "KINDS" [.str "many", .str "once"] && (He.tupB K "LATENESSES" [.str "0", .str "1", .str "2", .str "3", .str "4"] && (thB K && smB K (He.ga K "World") "of")))
abbrev R : PySem.W.OpenRow := PySem.W.OpenLaw.row PySem.Challenge.rw_buriedsure_k52_whole_idle_letters_put_in
abbrev hk : PySem.W.Hook := hookZ 7 fa fn ts ex
def ob (s : PySem.W.SharedT) : AlZ := obsZ 7 fa fn ts ex (HandSHeadRun.getT s)
theorem ob_eq (s : PySem.W.SharedT) : ob s = hk.obs s.abs := obsZ_eq (HandSHeadRun.getT_eq s)
def loose : List Str := (["__name__", "BadRota", "BadWorld", "OutOf", "TooMany", "EMPTY", "LETTERS", "FALSE_LETTERS", "TRUE_HANDS", "MOST_SLOTS", "true_hands", "has_false_hand", "hands_at", "slots_with_true_hands", "slots_with_false_hand", "first_strange", "rota_fault", "letters_of_text", "text_of_letters", "MOST_CHARACTERS", "check_length", "KINDS", "MOST_LATE", "LATENESSES", "Rota", "time_of", "world_words", "World", "time_or_last", "ask_slot"] : List Str) ++ (["next_reach", "next_margin", "numbers_at_end", "false_slots_left", "numbers", "surplus", "gap", "rank", "lay_by", "is_covered", "uncovered", "STAY", "BY_TRUE", "BY_FALSE", "start_row", "growths_of", "growths_of_both", "growths_at", "choices", "slot_height", "after", "is_wasted", "useful_choices", "next_stage", "search_stages", "_holds", "is_fixed", "asked_time", "HANDS", "step_of"] : List Str) ++ (["running_sums", "lows_of", "highs_of", "gate_slots", "gates", "_law_bag", "_law_draw", "_law_of", "_law_like", "_law_letters", "_law_line", "_law_text", "_law_sums", "_law_over", "_law_gates_fast", "_law_put_in"] : List Str)
theorem ft_split (f : String → Bool) : (fun s => bif s == "special-get-raises" then f "special-get-raises" else f s) = f := funext fun s => by
  cases e : s == "special-get-raises" with
  | false => simp [e]
  | true => simp [eq_of_beq e]
theorem and3 {α β γ δ : Type} {o : Option α} {f : α → β} {g : α → γ} {h : α → δ} {a : β} {b : γ} {c : δ} (h1 : o.map f = some a) (h2 : o.map g = some b) (h3 : o.map h = some c) : o.map (fun s => (f s, g s, h s)) = some (a, b, c) := by
  cases o with
  | none => cases h1
  | some s =>
    cases h1
    cases h2
    cases h3
    rfl
abbrev wAt (b : Bool) (f : String → Bool) (w : World) : World := { w with params := { w.params with followText := fun s => bif s == "special-get-raises" then b else f s } }
abbrev qv : Program := PySem.W.view R.prog [90]
abbrev rN : Nat := 12000

theorem run1_false (f : String → Bool) (w : World) (os : OsState) : (HandSHeadRun.endF (HandSHeadRun.stepQ (HandSHeadRun.denQ HandSHeadRun.tabQ) R.prog (wAt false f w)) rN R.prog (wAt false f w) os).map (fun s => HandSHeadRun.looksF R.prog (PySem.W.boot_heap (wAt false f w).params) s.abs) = some true := by kernel_rfl

theorem run2_false (f : String → Bool) (w : World) (os : OsState) : (HandSHeadRun.endF (HandSHeadRun.stepQ (HandSHeadRun.denQ HandSHeadRun.tabQ) R.prog (wAt false f w)) rN R.prog (wAt false f w) os).map (fun s => HandSHeadRun.seenQ qv loose (importedModules R.prog.main.body) (fun s => PySem.W.xlAt qv [] s && PySem.W.recOk R.toRowW.records s) s.abs) = some (PySem.W.openGood qv loose) := by kernel_rfl

theorem run3_false (f : String → Bool) (w : World) (os : OsState) : (HandSHeadRun.endF (HandSHeadRun.stepQ (HandSHeadRun.denQ HandSHeadRun.tabQ) R.prog (wAt false f w)) rN R.prog (wAt false f w) os).map (fun s => ob s) = some (hk.val (wAt false f w)) := by kernel_rfl

theorem run1_true (f : String → Bool) (w : World) (os : OsState) : (HandSHeadRun.endF (HandSHeadRun.stepQ (HandSHeadRun.denQ HandSHeadRun.tabQ) R.prog (wAt true f w)) rN R.prog (wAt true f w) os).map (fun s => HandSHeadRun.looksF R.prog (PySem.W.boot_heap (wAt true f w).params) s.abs) = some true := by kernel_rfl

theorem run2_true (f : String → Bool) (w : World) (os : OsState) : (HandSHeadRun.endF (HandSHeadRun.stepQ (HandSHeadRun.denQ HandSHeadRun.tabQ) R.prog (wAt true f w)) rN R.prog (wAt true f w) os).map (fun s => HandSHeadRun.seenQ qv loose (importedModules R.prog.main.body) (fun s => PySem.W.xlAt qv [] s && PySem.W.recOk R.toRowW.records s) s.abs) = some (PySem.W.openGood qv loose) := by kernel_rfl

theorem run3_true (f : String → Bool) (w : World) (os : OsState) : (HandSHeadRun.endF (HandSHeadRun.stepQ (HandSHeadRun.denQ HandSHeadRun.tabQ) R.prog (wAt true f w)) rN R.prog (wAt true f w) os).map (fun s => ob s) = some (hk.val (wAt true f w)) := by kernel_rfl

theorem wAt_self (w : World) : wAt (w.params.followText "special-get-raises") w.params.followText w = w := by
  unfold wAt
  rw [ft_split]
theorem run_at (b : Bool) (f : String → Bool) (w : World) (os : OsState) : (HandSHeadRun.endF (HandSHeadRun.stepQ (HandSHeadRun.denQ HandSHeadRun.tabQ) R.prog (wAt b f w)) rN R.prog (wAt b f w) os).map (fun s => (HandSHeadRun.looksF R.prog (PySem.W.boot_heap (wAt b f w).params) s.abs, HandSHeadRun.seenQ qv loose (importedModules R.prog.main.body) (fun s => PySem.W.xlAt qv [] s && PySem.W.recOk R.toRowW.records s) s.abs, ob s)) = some (true, PySem.W.openGood qv loose, hk.val (wAt b f w)) := by
  cases b with
  | false => exact and3 (run1_false f w os) (run2_false f w os) (run3_false f w os)
  | true => exact and3 (run1_true f w os) (run2_true f w os) (run3_true f w os)
theorem run (w : World) : HandSHeadRun.RunEq R qv hk ob rN loose w := fun os => by
  have h := run_at (w.params.followText "special-get-raises") w.params.followText w os
  rw [wAt_self] at h
  exact h

/-! ### steps by hand names: acc_open one step, acc_peel steps, apart_at what stands at an address, apart_rest two addresses apart -/
theorem BagAt.some {a c : Addr} {H : Hp} (b : BagAt a c H) : ∃ xs, H a = some (.lst xs) := by obtain ⟨_, _, _, _, _, h, _⟩ := b; exact ⟨_, h⟩
theorem BagAt.mut {a c p : Addr} {H : Hp} {o : HO} (b : BagAt a c H) (n : a ≠ p) (m : c ≠ p) : BagAt a c (upd H p o) := by
  obtain ⟨cs, i, r, m, k, h, nc, hc, x⟩ := b
  exact ⟨cs, i, r, m, k, upd_at n h, nc, upd_at (by assumption) hc, x⟩
theorem BagAt.na {a c p : Addr} {H : Hp} (b : BagAt a c H) (n : H p = none) : a ≠ p := by obtain ⟨_, h⟩ := b.some; exact ne_of_none h n
theorem BagAt.nc {a c p : Addr} {H : Hp} (b : BagAt a c H) (n : H p = none) : c ≠ p := by
  obtain ⟨cs, i, r, m, k, h, nc, hc, x⟩ := b; exact ne_of_none hc n
theorem BagAt.new {a c p : Addr} {H : Hp} {o : HO} (b : BagAt a c H) (n : H p = none) : BagAt a c (upd H p o) := b.mut (b.na n) (b.nc n)
theorem ne_bag {a b c : Addr} {H : Hp} (g : BagAt a c H) (n : H b = none) : b ≠ a := (g.na n).symm
theorem ne_bagT {a b c : Addr} {H : Hp} {xs : List V} (g : BagAt a c H) (n : H b = some (.tup xs)) : b ≠ a := by obtain ⟨_, h⟩ := g.some; exact ne_tl n h
local macro_rules | `(tactic| apart_at) => `(tactic| first
  | assumption
  | exact upd_same
  | (refine upd_at ?n1 ?n2; (case n1 => apart_rest); (case n2 => apart_at))
  | exact same_at (by assumption) (by apart_at)
  | exact sb_at (by assumption) (by apart_rest) (by apart_at)
  | fail)
local macro_rules | `(tactic| apart_rest) => `(tactic| first
  | assumption
  | (apply Ne.symm; assumption)
  | (refine ne_bag ?_ ?_ <;> assumption)
  | exact ne_bagT (by assumption) (by apart_at)
  | exact ne_new (by assumption) (by apart_at)
  | exact ne_new' (by assumption) (by apart_at)
  | fail)
local macro_rules | `(tactic| acc_open) => `(tactic| first
  | with_reducible (first
  | refine s_seq ?_ | refine s_asg ?_ | refine s_ret ?_ | refine s_retN ?_ | refine s_drop ?_ | refine s_next ?_ | refine s_if ?_ | refine s_fld ?_ | refine e_fld ?_ | refine s_par ?_ | refine x_par ?_
  | refine g_name ?_ | refine g_cons ?_ | refine g_nil ?_ | refine g_sub ?_ | refine g_tup ?_ rfl ?_
  | refine e_var rfl ?_ | refine e_c ?_ | refine e_op ?_ | refine e_un ?_ | refine e_if ?_ | refine e_tup ?_ | refine e_lst ?_ | refine e_callD ?_ | refine e_smeth ?_ | refine e_cb ?_ | refine e_bm ?_ | refine e_bm0 ?_ | refine e_sl ?_
  | refine o_no ?_ | refine o_part ?_ | refine x_part ?_ | refine e_and ?_ | refine e_or ?_ | refine e_not ?_ | refine a_cons ?_ | refine a_nil ?_
  | refine t_test ?_ | refine t_b ?_ | refine t_and ?_ | refine t_or ?_ | refine t_not ?_ | refine t_tru ?_ | refine x_blE ?_
  | refine r_plus ?_ | refine r_minus ?_ | refine r_lt ?_ | refine r_le ?_ | refine r_gt ?_ | refine r_ge ?_ | refine r_eqI ?_ | refine r_eqB ?_ | refine r_eqS ?_ | refine r_neI ?_ | refine r_neB ?_ | refine r_neS ?_ | refine r_neg ?_
  | refine r_isNi ?_ | refine r_isNr ?_ | refine r_isNn ?_ | refine r_isNb ?_ | refine r_isNs ?_ | refine r_notNi ?_ | refine r_notNr ?_ | refine r_notNn ?_
  | refine b_int ?_ | refine x_ts ?_ | refine e_join ?_ | refine j_nil ?_ | refine j_cons ?_ | refine x_trB ?_
  | refine r_inS ?_ | refine r_notInS ?_ | refine t_yes ?_ | refine i_t ?_ | refine i_f ?_ | refine i_nt ?_ | refine i_nf ?_)
  | ((with_reducible refine' r_ixT ?k1 ?k0 ?k2 ?_); (case k1 => exact SqT.at (by assumption)); (case k0 => decide); (case k2 => rfl))
  | ((with_reducible refine' r_ixL ?k1 ?k0 ?k2 ?_); (case k1 => exact SqL.at (by assumption)); (case k0 => decide); (case k2 => rfl))
  | ((with_reducible refine' b_lenT ?k1 ?_); (case k1 => exact SqT.at (by assumption)))
  | ((with_reducible refine' b_lenL ?k1 ?_); (case k1 => exact SqL.at (by assumption)))
  | ((with_reducible refine' x_tl ?k1 ?_); (case k1 => exact SqL.at (by assumption)))
  | ((with_reducible refine' x_trT ?k1 ?_); (case k1 => exact SqT.at (by assumption)))
  | ((with_reducible refine' x_trL ?k1 ?_); (case k1 => exact SqL.at (by assumption)))
  | ((with_reducible refine' r_ixT ?k1 ?k0 ?k2 ?_); (case k1 => exact SqT.at (by apart_at)); (case k0 => decide); (case k2 => rfl))
  | ((with_reducible refine' r_ixL ?k1 ?k0 ?k2 ?_); (case k1 => exact SqL.at (by apart_at)); (case k0 => decide); (case k2 => rfl))
  | ((with_reducible refine' r_set ?k1 ?k0 ?k2 ?k3 ?_); (case k1 => apart_at); (case k0 => decide); (case k2 => rfl); (case k3 => exact Nat.le_of_ble_eq_true rfl))
  | ((with_reducible refine' b_lenT ?k1 ?_); (case k1 => exact SqT.at (by apart_at)))
  | ((with_reducible refine' b_lenL ?k1 ?_); (case k1 => exact SqL.at (by apart_at)))
  | ((with_reducible refine' x_tl ?k1 ?_); (case k1 => exact SqL.at (by apart_at)))
  | ((with_reducible refine' b_tupT ?k1 ?_); (case k1 => exact SqT.at (by apart_at)))
  | ((with_reducible refine' x_trT ?k1 ?_); (case k1 => exact SqT.at (by apart_at)))
  | ((with_reducible refine' x_trL ?k1 ?_); (case k1 => exact SqL.at (by apart_at))))
local macro_rules | `(tactic| acc_peel) => `(tactic| repeat' acc_open)
theorem len_check_length {K : PySem.W.Frag} {vs : List V} {H : Hp} {Q : VK} {E : XK} (h : sp_check_length K vs H Q E) : vs.length = P_check_length.length := by
  obtain ⟨z, rfl, _⟩ := h; rfl
theorem pure_check_length {K : PySem.W.Frag} (vs : List V) (H : Hp) (Q : VK) (E : XK) (h : sp_check_length K vs H Q E) : r_check_length K { nx := fun _ H' => Q .non H', rt := Q } (start N_check_length vs) H := by
  obtain ⟨z, rfl, hl, q⟩ := h
  unfold r_check_length
  acc_peel
  refine b_lenS (by omega) ?_
  acc_peel
  refine i_dec (fun z => absurd z (by omega)) (fun _ => ?_)
  acc_peel
  exact q
theorem tl_const : (".hHabB" : Str).cps.toList = L6 := by decide +kernel
theorem len_first_strange {K : PySem.W.Frag} {vs : List V} {H : Hp} {Q : VK} {E : XK} (h : sp_first_strange K vs H Q E) : vs.length = P_first_strange.length := by
  obtain ⟨z, rfl, _⟩ := h; rfl
theorem tl_get {z : Str} {i c : Nat} (h : z.cps[i]? = some c) : (tl z)[i]? = some c := by
  show z.cps.toList[i]? = some c
  rw [Array.getElem?_toList]; exact h
theorem tl_len (z : Str) : (tl z).length = z.length := by
  show z.cps.toList.length = z.cps.size
  rw [Array.length_toList]
theorem walk_enumS {x : Str} {k0 : Int} : Walk (Ites x k0) x.length (fun _ => True) (fun i H v H' => ∃ (T : Addr) (c : Nat), v = .ref T ∧ H T = none ∧ H' = upd H T (.tup [.int (k0 + (i : Nat)), .str ⟨#[c]⟩]) ∧ (tl x)[i]? = some c) :=
  ⟨fun _ _ hi _ => hi, fun _ _ => rfl, fun _ _ _ _ _ _ ⟨T, c, h1, h2, h3, h4⟩ => ⟨T, c, h1, h2, h3, tl_get h4⟩⟩
theorem walk_text {z : Str} : Walk (Its z) z.length (fun _ => True) (fun i H v H' => H = H' ∧ ∃ c, (tl z)[i]? = some c ∧ v = .str ⟨#[c]⟩) :=
  ⟨fun _ _ hi _ => hi, fun _ _ => Nat.le_refl _, fun _ _ _ _ _ _ ⟨h, c, e1, e2⟩ => ⟨h.symm, c, tl_get e1, e2⟩⟩
theorem pure_first_strange {K : PySem.W.Frag} (vs : List V) (H : Hp) (Q : VK) (E : XK) (h : sp_first_strange K vs H Q E) : r_first_strange K { nx := fun _ H' => Q .non H', rt := Q } (start N_first_strange vs) H := by
  obtain ⟨z, rfl, ok, q⟩ := h
  unfold r_first_strange
  acc_peel
  refine s_for ?_
  refine i_enumS ?_
  acc_peel
  refine ⟨z, rfl, for_it walk_enumS (fun i σ H' => Same H H' ∧ ∃ v1 v2 : Option V, σ = [some (.str z), v1, v2]) ⟨Same.refl H, none, none, rfl⟩ (fun _ _ _ _ _ => trivial) ?_ ?_⟩
  · rintro i x σ H1 H2 hi ⟨sm, v1, v2, rfl⟩ ⟨T, c, rfl, hT, rfl, hc⟩
    refine g_tup (SqT.at upd_same) rfl ?_
    acc_peel
    rw [tl_const, decide_eq_true (ok c (List.mem_of_getElem? hc))]
    acc_peel
    exact ⟨Same.new sm hT, _, _, rfl⟩
  · rintro σ H1 ⟨sm, v1, v2, rfl⟩
    acc_peel
    exact q _ sm
theorem len_rota_fault {K : PySem.W.Frag} {vs : List V} {H : Hp} {Q : VK} {E : XK} (h : sp_rota_fault K vs H Q E) : vs.length = P_rota_fault.length := by
  obtain ⟨z, rfl, _⟩ := h; rfl
theorem pure_rota_fault {K : PySem.W.Frag} (vs : List V) (H : Hp) (Q : VK) (E : XK) (h : sp_rota_fault K vs H Q E) : r_rota_fault K { nx := fun _ H' => Q .non H', rt := Q } (start N_rota_fault vs) H := by
  obtain ⟨z, rfl, hz, q⟩ := h
  unfold r_rota_fault
  acc_peel
  refine i_dec (fun _ => ?_) (fun n1 => ?_)
  · acc_peel
    exact q H (Same.refl H)
  acc_peel
  rcases hz with e | ⟨n2, ok⟩
  · exact absurd e n1
  refine i_dec (fun e => absurd e n2) (fun _ => ?_)
  acc_peel
  exact ⟨z, rfl, ok, fun H' sm => q H' sm⟩
theorem len_letters_of_text {K : PySem.W.Frag} {vs : List V} {H : Hp} {Q : VK} {E : XK} (h : sp_letters_of_text K vs H Q E) : vs.length = P_letters_of_text.length := by
  obtain ⟨z, rfl, _⟩ := h; rfl
theorem pure_letters_of_text {K : PySem.W.Frag} (vs : List V) (H : Hp) (Q : VK) (E : XK) (h : sp_letters_of_text K vs H Q E) : r_letters_of_text K { nx := fun _ H' => Q .non H', rt := Q } (start N_letters_of_text vs) H := by
  obtain ⟨z, rfl, q⟩ := h
  unfold r_letters_of_text
  unfold lettersOf at q
  acc_peel
  refine i_dec (fun e => ?_) (fun n1 => ?_)
  · acc_peel
    rw [if_pos e] at q
    exact q
  · acc_peel
    rw [if_neg n1] at q
    exact q
theorem lk_same {f : Str} {v : V} {fs : List (Str × V)} : (putF f v fs).lookup f = some v := by rw [lookup_putF, if_pos rfl]
theorem lk_ne {f g : Str} {v : V} {fs : List (Str × V)} {u : Option V} (n : ¬ g = f) (h : fs.lookup g = u) : (putF f v fs).lookup g = u := by rw [lookup_putF, if_neg n]; exact h
theorem pl {f : Str} {v : V} {fs : List (Str × V)} {n : Nat} (h : fs.length ≤ n) : (putF f v fs).length ≤ n + 1 := Nat.le_trans (length_putF f v fs) (Nat.succ_le_succ h)
theorem lt1000 {n : Nat} (h : n ≤ 500) : n < 1000 := Nat.lt_of_le_of_lt h (by decide)
theorem lettersOf_len {z : Str} {n : Nat} (h : z.length ≤ n) : (lettersOf z).length ≤ n := by
  unfold lettersOf
  by_cases e : z = "-"
  · rw [if_pos e]; exact Nat.zero_le _
  · rw [if_neg e]; exact h
theorem len_Rota___init__ {K : PySem.W.Frag} {vs : List V} {H : Hp} {Q : VK} {E : XK} (h : sp_Rota___init__ K vs H Q E) : vs.length = P_Rota___init__.length := by
  obtain ⟨p, dx, z, rfl, _⟩ := h; rfl
theorem pure_Rota___init__ {K : PySem.W.Frag} (F : KF K) (vs : List V) (H : Hp) (Q : VK) (E : XK) (h : sp_Rota___init__ K vs H Q E) : r_Rota___init__ K { nx := fun _ H' => Q .non H', rt := Q } (start N_Rota___init__ vs) H := by
  obtain ⟨p, dx, z, rfl, hp, hz, hl, q⟩ := h
  have hll := lettersOf_len hl
  unfold r_Rota___init__
  acc_peel
  refine ⟨z, rfl, by omega, ?_⟩
  acc_peel
  refine ⟨z, rfl, hz, fun H1 sm => ?_⟩
  have hp1 := sm _ _ hp
  acc_peel
  refine ⟨z, rfl, ?_⟩
  acc_peel
  refine b_lenS (by omega) ?_
  acc_peel
  refine i_dec (fun z => absurd z (by omega)) (fun _ => ?_)
  acc_peel
  refine ⟨p, _, dx, _, rfl, hp1, F.cR, F.naR _ (by simp), (by decide), ?_⟩
  acc_peel
  refine ⟨p, _, dx, _, rfl, upd_same, F.cR, F.naR _ (by simp), lt1000 (Nat.le_trans (pl (n := 0) (Nat.le_refl _)) (by decide)), ?_⟩
  rw [upd_upd]
  refine q _ (fun b o n e => by rw [upd_ne n]; exact sm _ _ e) ⟨dx, _, upd_same, lk_ne (by decide +kernel) lk_same, fun f n1 n2 => by rw [lookup_putF, if_neg n2, lookup_putF, if_neg n1]; rfl⟩
theorem len_Rota___len__ {K : PySem.W.Frag} {vs : List V} {H : Hp} {Q : VK} {E : XK} (h : sp_Rota___len__ K vs H Q E) : vs.length = P_Rota___len__.length := by
  obtain ⟨p, z, rfl, _⟩ := h; rfl
theorem pure_Rota___len__ {K : PySem.W.Frag} (F : KF K) (vs : List V) (H : Hp) (Q : VK) (E : XK) (h : sp_Rota___len__ K vs H Q E) : r_Rota___len__ K { nx := fun _ H' => Q .non H', rt := Q } (start N_Rota___len__ vs) H := by
  obtain ⟨p, z, rfl, ⟨dx, fs, hp, l1⟩, hl, q⟩ := h
  unfold r_Rota___len__
  acc_peel
  refine ⟨p, _, dx, fs, _, rfl, hp, F.cR, F.naR _ (by simp), l1.1, ?_⟩
  acc_peel
  refine b_lenS (by omega) ?_
  exact q
theorem RtAt.mono {K : PySem.W.Frag} {H H' : Hp} {p : Addr} {z : Str} (h : RtAt K H p z) (s : Same H H') : RtAt K H' p z := by
  obtain ⟨dx, fs, hp, l⟩ := h; exact ⟨dx, fs, s _ _ hp, l⟩
theorem RtAt.bag {K : PySem.W.Frag} {H H' : Hp} {a c p : Addr} {z : Str} (h : RtAt K H p z) (hb : BagAt a c H) (s : Sb a H H') : RtAt K H' p z := by
  obtain ⟨dx, fs, hp, l⟩ := h
  obtain ⟨xs, ha⟩ := hb.some
  exact ⟨dx, fs, s _ _ (ne_of hp ha (by intro z; cases z)) hp, l⟩
theorem len_asked_time {K : PySem.W.Frag} {vs : List V} {H : Hp} {Q : VK} {E : XK} (h : sp_asked_time K vs H Q E) : vs.length = P_asked_time.length := by
  obtain ⟨p, z, t, rfl, _⟩ := h; rfl
theorem b_lenRt {K : PySem.W.Frag} {H : Hp} {p : Addr} {z : Str} {Q : VK} (h : RtAt K H p z) (hl : z.length ≤ 40) (q : Q (.int (z.length : Int)) H) : rLenOwn (He.ga K "Rota") (sp_Rota___len__ K) [.ref p] H Q := by
  obtain ⟨dx, fs, hp, l⟩ := id h
  exact ⟨p, dx, fs, rfl, hp, p, z, rfl, h, hl, _, rfl, by omega, by omega, q⟩
theorem pure_asked_time {K : PySem.W.Frag} (vs : List V) (H : Hp) (Q : VK) (E : XK) (h : sp_asked_time K vs H Q E) : r_asked_time K { nx := fun _ H' => Q .non H', rt := Q } (start N_asked_time vs) H := by
  obtain ⟨p, z, t, rfl, hp, hl, q⟩ := h
  unfold r_asked_time
  rcases q with ⟨rfl, q⟩ | ⟨i, rfl, i0, i1, q⟩
  · acc_peel
    refine b_lenRt hp hl ?_
    exact q
  · acc_peel
    refine i_dec (fun z => absurd z (by omega)) (fun _ => ?_)
    acc_peel
    refine b_lenRt hp hl ?_
    acc_peel
    refine i_dec (fun z => absurd z (by omega)) (fun _ => ?_)
    acc_peel
    exact q
theorem len_ask_slot {K : PySem.W.Frag} {vs : List V} {H : Hp} {Q : VK} {E : XK} (h : sp_ask_slot K vs H Q E) : vs.length = P_ask_slot.length := by
  obtain ⟨i, n, rfl, _⟩ := h; rfl
theorem pure_ask_slot {K : PySem.W.Frag} (vs : List V) (H : Hp) (Q : VK) (E : XK) (h : sp_ask_slot K vs H Q E) : r_ask_slot K { nx := fun _ H' => Q .non H', rt := Q } (start N_ask_slot vs) H := by
  obtain ⟨i, n, rfl, i0, i1, q⟩ := h
  unfold r_ask_slot
  acc_peel
  refine i_dec (fun z => absurd z (by omega)) (fun _ => ?_)
  acc_peel
  refine i_dec (fun z => absurd z (by omega)) (fun _ => ?_)
  acc_peel
  exact q
theorem len_step_of {K : PySem.W.Frag} {vs : List V} {H : Hp} {Q : VK} {E : XK} (h : sp_step_of K vs H Q E) : vs.length = P_step_of.length := by
  obtain ⟨c, rfl, _⟩ := h; rfl
theorem L6_cases {c : Nat} (h : c ∈ L6) : c = 46 ∨ c = 104 ∨ c = 72 ∨ c = 97 ∨ c = 98 ∨ c = 66 := by simpa [L6] using h
theorem pure_step_of {K : PySem.W.Frag} (F : KF K) (vs : List V) (H : Hp) (Q : VK) (E : XK) (h : sp_step_of K vs H Q E) : r_step_of K { nx := fun _ H' => Q .non H', rt := Q } (start N_step_of vs) H := by
  obtain ⟨c, rfl, hc, q⟩ := h
  unfold r_step_of
  obtain ⟨a, ka, ta⟩ := F.hd c hc
  acc_peel
  refine r_ixK ka ?_
  refine g_tup (ta _) rfl ?_
  acc_peel
  rcases L6_cases hc with rfl | rfl | rfl | rfl | rfl | rfl <;> (
    first
      | (refine i_b (fun e => ?_) (fun e => absurd e (by decide)); acc_peel; refine i_dec (fun e => ?_) (fun e => absurd (by decide) e); acc_peel; exact q)
      | (refine i_b (fun e => ?_) (fun e => absurd e (by decide)); acc_peel; refine i_dec (fun e => absurd e (by decide)) (fun e => ?_); acc_peel; exact q)
      | (refine i_b (fun e => absurd e (by decide)) (fun e => ?_); acc_peel; refine i_dec (fun e => ?_) (fun e => absurd (by decide) e); acc_peel; exact q)
      | (refine i_b (fun e => absurd e (by decide)) (fun e => ?_); acc_peel; refine i_dec (fun e => absurd e (by decide)) (fun e => ?_); acc_peel; exact q))
theorem str1 (c d : Nat) (s : Str) (hs : s = ⟨#[d]⟩) : decide ((⟨#[c]⟩ : Str) = s) = decide (c = d) := by
  subst hs
  by_cases h : c = d
  · rw [h, decide_eq_true rfl, decide_eq_true rfl]
  · rw [decide_eq_false h, decide_eq_false]
    intro e
    have := congrArg (fun z : Str => z.cps.toList) e
    exact h (by simpa using this)
theorem e_a : ("a" : Str) = ⟨#[97]⟩ := by decide +kernel
theorem e_h : ("h" : Str) = ⟨#[104]⟩ := by decide +kernel
theorem e_H : ("H" : Str) = ⟨#[72]⟩ := by decide +kernel
theorem len_next_reach {K : PySem.W.Frag} {vs : List V} {H : Hp} {Q : VK} {E : XK} (h : sp_next_reach K vs H Q E) : vs.length = P_next_reach.length := by
  obtain ⟨c, r, rfl, _⟩ := h; rfl
theorem pure_next_reach {K : PySem.W.Frag} (vs : List V) (H : Hp) (Q : VK) (E : XK) (h : sp_next_reach K vs H Q E) : r_next_reach K { nx := fun _ H' => Q .non H', rt := Q } (start N_next_reach vs) H := by
  obtain ⟨c, r, rfl, q⟩ := h
  unfold r_next_reach
  unfold nr at q
  acc_peel
  rw [str1 c 97 _ e_a]
  refine i_dec (fun h => ?_) (fun h1 => ?_)
  · acc_peel
    rw [if_pos h] at q
    exact q
  acc_peel
  rw [if_neg h1] at q
  rw [str1 c 104 _ e_h]
  refine i_dec (fun h => ?_) (fun h2 => ?_)
  · acc_peel
    rw [if_pos (.inl h)] at q
    exact ⟨_, _, rfl, q⟩
  acc_peel
  rw [str1 c 72 _ e_H]
  refine i_dec (fun h => ?_) (fun h3 => ?_)
  · acc_peel
    rw [if_pos (.inr h)] at q
    exact ⟨_, _, rfl, q⟩
  acc_peel
  rw [if_neg (by rintro (z | z); exact h2 z; exact h3 z)] at q
  exact q
theorem len_next_margin {K : PySem.W.Frag} {vs : List V} {H : Hp} {Q : VK} {E : XK} (h : sp_next_margin K vs H Q E) : vs.length = P_next_margin.length := by
  obtain ⟨c, o, r, m, rfl, _⟩ := h; rfl
theorem pure_next_margin {K : PySem.W.Frag} (vs : List V) (H : Hp) (Q : VK) (E : XK) (h : sp_next_margin K vs H Q E) : r_next_margin K { nx := fun _ H' => Q .non H', rt := Q } (start N_next_margin vs) H := by
  obtain ⟨c, o, r, m, rfl, q⟩ := h
  unfold r_next_margin
  unfold nm at q
  acc_peel
  rw [str1 c 97 _ e_a]
  refine i_dec (fun h => ?_) (fun h1 => ?_)
  · acc_peel
    rw [if_pos h] at q
    exact q
  rw [if_neg h1] at q
  have tail2 : ∀ (n3 : ¬ (c = 104 ∧ m = 0 ∧ 0 < r ∧ o = false)), Q (.int (if c = 104 ∨ c = 72 then m - 1 else m)) H → (tSeq (tIfS (tOr (tTest (tOp rEq (tVar 0) (tC (.str "h")))) (tTest (tOp rEq (tVar 0) (tC (.str "H"))))) (tRet (tOp rMinus (tVar 3) (tC (.int 1)))) tNext)
      (tRet (tVar 3))) { nx := fun _ H' => Q .non H', rt := Q } [some (.str ⟨#[c]⟩), some (.bl o), some (.int r), some (.int m)] H := by
    intro _ q
    acc_peel
    rw [str1 c 104 _ e_h]
    refine i_dec (fun h => ?_) (fun h2 => ?_)
    · acc_peel
      rw [if_pos (.inl h)] at q
      exact q
    acc_peel
    rw [str1 c 72 _ e_H]
    refine i_dec (fun h => ?_) (fun h3 => ?_)
    · acc_peel
      rw [if_pos (.inr h)] at q
      exact q
    acc_peel
    rw [if_neg (by rintro (z | z); exact h2 z; exact h3 z)] at q
    exact q
  have tail1 : ∀ (n3 : ¬ (c = 72 ∧ m = 0)), Q (.int (if c = 104 ∧ m = 0 ∧ 0 < r ∧ o = false then 0 else if c = 104 ∨ c = 72 then m - 1 else m)) H →
      (tSeq (tIfS (tAnd (tTest (tOp rEq (tVar 0) (tC (.str "h")))) (tAnd (tTest (tOp rEq (tVar 3) (tC (.int 0)))) (tAnd (tTest (tOp rGt0 (tVar 2) (tC (.int 0)))) (tNot (tTru K (tVar 1)))))) (tRet (tC (.int 0))) tNext)
      (tSeq (tIfS (tOr (tTest (tOp rEq (tVar 0) (tC (.str "h")))) (tTest (tOp rEq (tVar 0) (tC (.str "H"))))) (tRet (tOp rMinus (tVar 3) (tC (.int 1)))) tNext)
      (tRet (tVar 3)))) { nx := fun _ H' => Q .non H', rt := Q } [some (.str ⟨#[c]⟩), some (.bl o), some (.int r), some (.int m)] H := by
    intro _ q
    refine s_seq (s_if (t_and ?_))
    acc_peel
    rw [str1 c 104 _ e_h]
    refine i_dec (fun h => ?_) (fun h2 => ?_)
    · acc_peel
      refine i_dec (fun hm => ?_) (fun hm => ?_)
      · acc_peel
        refine i_dec (fun hr => ?_) (fun hr => ?_)
        · acc_peel
          cases o with
          | false =>
            acc_peel
            rw [if_pos ⟨h, hm, hr, rfl⟩] at q
            exact q
          | true =>
            have n3 : ¬ (c = 104 ∧ m = 0 ∧ 0 < r ∧ true = false) := fun z => Bool.noConfusion z.2.2.2
            rw [if_neg n3] at q
            refine i_nt ?_
            exact tail2 n3 q
        · have n3 : ¬ (c = 104 ∧ m = 0 ∧ 0 < r ∧ o = false) := fun z => hr z.2.2.1
          rw [if_neg n3] at q
          refine i_f ?_
          exact tail2 n3 q
      · have n3 : ¬ (c = 104 ∧ m = 0 ∧ 0 < r ∧ o = false) := fun z => hm z.2.1
        rw [if_neg n3] at q
        refine i_f ?_
        exact tail2 n3 q
    · have n3 : ¬ (c = 104 ∧ m = 0 ∧ 0 < r ∧ o = false) := fun z => h2 z.1
      rw [if_neg n3] at q
      refine i_f ?_
      exact tail2 n3 q
  acc_peel
  rw [str1 c 72 _ e_H]
  refine i_dec (fun h => ?_) (fun h2 => ?_)
  · acc_peel
    refine i_dec (fun hm => ?_) (fun hm => ?_)
    · acc_peel
      rw [if_pos ⟨h, hm⟩] at q
      exact q
    · have n3 : ¬ (c = 72 ∧ m = 0) := fun z => hm z.2
      rw [if_neg n3] at q
      refine s_next ?_
      exact tail1 n3 q
  · have n3 : ¬ (c = 72 ∧ m = 0) := fun z => h2 z.1
    rw [if_neg n3] at q
    refine i_f (s_next ?_)
    exact tail1 n3 q
theorem S_succ {l : List Nat} {i c : Nat} (h : l[i]? = some c) : S l (i + 1) = S l i + stp c := by
  unfold S
  rw [List.take_succ, h, List.map_append, List.sum_append]
  show _ + (stp c + 0) = _
  omega
theorem psum_len (l : List Nat) : (psum l).length = l.length + 1 := by unfold psum; rw [List.length_map, List.length_range]
theorem psum_get {l : List Nat} {i : Nat} (h : i ≤ l.length) : (psum l)[i]? = some (S l i) := by
  unfold psum
  rw [List.getElem?_map, List.getElem?_range (by omega)]; rfl
theorem psum_of {l : List Nat} {i : Nat} {x : Int} (h : (psum l)[i]? = some x) : i ≤ l.length ∧ x = S l i := by
  have hi : i < (psum l).length := (List.getElem?_eq_some_iff.mp h).1
  rw [psum_len] at hi
  have := psum_get (l := l) (i := i) (by omega)
  rw [this] at h
  exact ⟨by omega, (Option.some.inj h).symm⟩
theorem range_snoc {f : Nat → Int} {n : Nat} : (List.range (n + 1)).map f = (List.range n).map f ++ [f n] := by rw [List.range_succ, List.map_append]; rfl
theorem ix_last {α : Type} {xs : List α} {v : α} (hx : xs[xs.length - 1]? = some v) : atI xs (-1) = some v := by
  have hl : 0 < xs.length := by
    have := (List.getElem?_eq_some_iff.mp hx).1; omega
  unfold atI ixN
  rw [if_neg (by decide), if_pos (by omega)]
  show xs[((-1 : Int) + (xs.length : Int)).toNat]? = _
  rw [show ((-1 : Int) + (xs.length : Int)).toNat = xs.length - 1 by omega]
  exact hx
theorem r_ixLast {K : PySem.W.Frag} {H : Hp} {Q : VK} {p : Addr} {xs : List V} {v : V} (h : SqL K H p xs) (hx : xs[xs.length - 1]? = some v) (q : Q v H) : rIxL K (.ref p) (.int (-1)) H Q := ⟨p, xs, -1, v, rfl, rfl, h, ix_last hx, q⟩
theorem last_map {zs : List Int} {z : Int} (h : zs[zs.length - 1]? = some z) : (zs.map V.int)[(zs.map V.int).length - 1]? = some (.int z) := by
  rw [List.length_map, List.getElem?_map, h]; rfl
theorem snoc_last {zs : List Int} {z : Int} : (zs ++ [z])[(zs ++ [z]).length - 1]? = some z := by
  rw [List.length_append, List.length_singleton, Nat.add_sub_cancel, List.getElem?_append_right (Nat.le_refl _), Nat.sub_self]; rfl
theorem map_snocI (zs : List Int) (z : Int) : (zs ++ [z]).map V.int = zs.map V.int ++ [V.int z] := by rw [List.map_append]; rfl
theorem len_running_sums {K : PySem.W.Frag} {vs : List V} {H : Hp} {Q : VK} {E : XK} (h : sp_running_sums K vs H Q E) : vs.length = P_running_sums.length := by
  obtain ⟨z, rfl, _⟩ := h; rfl
theorem pure_running_sums {K : PySem.W.Frag} (vs : List V) (H : Hp) (Q : VK) (E : XK) (h : sp_running_sums K vs H Q E) : r_running_sums K { nx := fun _ H' => Q .non H', rt := Q } (start N_running_sums vs) H := by
  obtain ⟨z, rfl, ok, hl, q⟩ := h
  unfold r_running_sums
  acc_peel
  refine ⟨sz (by show 1 ≤ 100000; decide), fun t ht => ?_⟩
  acc_peel
  refine s_for ?_
  refine i_str ?_
  acc_peel
  refine ⟨z, rfl, for_it walk_text (fun i σ H' => Same H H' ∧ H' t = some (.lst (((List.range (i + 1)).map (S (tl z))).map V.int)) ∧ ∃ v1 : Option V, σ = [some (.str z), some (.ref t), v1]) ⟨Same.new (Same.refl H) ht, upd_same, none, rfl⟩ (fun _ _ _ _ _ => trivial) ?_ ?_⟩
  · rintro i x σ H1 H2 hi ⟨sm, h1, v1, rfl⟩ ⟨rfl, c, hc, rfl⟩
    have hlast : ((List.range (i + 1)).map (S (tl z)))[((List.range (i + 1)).map (S (tl z))).length - 1]? = some (S (tl z) i) := by
      rw [range_snoc]; exact snoc_last
    acc_peel
    refine r_ixLast (SqL.at h1) (last_map hlast) ?_
    acc_peel
    refine ⟨c, rfl, ok c (List.mem_of_getElem? hc), ?_⟩
    acc_peel
    refine r_app h1 (szl (by rw [List.length_map, List.length_map, List.length_range]; omega)) ?_
    refine ⟨Same.mut sm ht, ?_, _, rfl⟩
    rw [upd_same, range_snoc (n := i + 1), map_snocI, S_succ hc]
  · rintro σ H1 ⟨sm, h1, v1, rfl⟩
    acc_peel
    refine q _ t ht sm ?_
    rw [h1]
    unfold psum
    rw [tl_len]
theorem cut_from (xs : List V) (k : Nat) : cutV xs (some (k : Int)) none = xs.drop k := by
  unfold cutV
  rw [HT.sIx_none, HT.sIx_nat]
  by_cases h : k ≤ xs.length
  · rw [Nat.min_eq_left h, List.take_of_length_le (by rw [List.length_drop]; exact Nat.le_refl _)]
  · rw [Nat.min_eq_right (by omega), List.drop_of_length_le (Nat.le_refl _), List.drop_of_length_le (by omega), List.take_nil]
theorem len_lows_of {K : PySem.W.Frag} {vs : List V} {H : Hp} {Q : VK} {E : XK} (h : sp_lows_of K vs H Q E) : vs.length = P_lows_of.length := by
  obtain ⟨s, xs, rfl, _⟩ := h; rfl
/-- one more least -/
theorem Lows.snoc {xs ys : List Int} {i : Nat} {x m m2 : Int} (h : Lows (xs.take (i + 1)) ys) (hx : xs[i + 1]? = some x) (hl : ys[ys.length - 1]? = some m) (h1 : m2 ≤ m) (h2 : m2 ≤ x) (h3 : m2 = m ∨ m2 = x) : Lows (xs.take (i + 2)) (ys ++ [m2]) := by
  have hi : i + 1 < xs.length := (List.getElem?_eq_some_iff.mp hx).1
  have yl : ys.length = i + 1 := by rw [h.len, List.length_take]; omega
  have tk : ∀ {n j : Nat}, j < n → (xs.take n)[j]? = xs[j]? := fun hj => List.getElem?_take_of_lt hj
  refine ⟨by rw [List.length_append, yl, List.length_take]; show i + 1 + 1 = _; omega, fun k v hv => ?_⟩
  by_cases hk : k < ys.length
  · rw [List.getElem?_append_left hk] at hv
    obtain ⟨⟨j, j1, j2⟩, g⟩ := h.is k v hv
    have hj : j < i + 1 := by omega
    rw [tk hj] at j2
    refine ⟨⟨j, j1, by rw [tk (by omega)]; exact j2⟩, fun j y j1 e => ?_⟩
    rw [tk (by omega)] at e
    exact g j y j1 (by rw [tk (by omega)]; exact e)
  · have hk2 : k = i + 1 := by
      have := (List.getElem?_eq_some_iff.mp hv).1
      rw [List.length_append, List.length_singleton] at this
      omega
    subst hk2
    rw [List.getElem?_append_right (by omega), show i + 1 - ys.length = 0 by omega] at hv
    have ev : m2 = v := Option.some.inj hv
    subst ev
    rw [yl] at hl
    obtain ⟨⟨j, j1, j2⟩, g⟩ := h.is i m hl
    refine ⟨?_, fun j y j1 e => ?_⟩
    · rcases h3 with e | e
      · rw [tk (by omega)] at j2
        exact ⟨j, by omega, by rw [tk (by omega), e]; exact j2⟩
      · exact ⟨i + 1, Nat.le_refl _, by rw [tk (by omega), e]; exact hx⟩
    · rw [tk (by omega)] at e
      by_cases hj : j ≤ i
      · have := g j y hj (by rw [tk (by omega)]; exact e)
        omega
      · have : j = i + 1 := by omega
        subst this
        rw [hx] at e
        have := Option.some.inj e
        omega
theorem pure_lows_of {K : PySem.W.Frag} (vs : List V) (H : Hp) (Q : VK) (E : XK) (h : sp_lows_of K vs H Q E) : r_lows_of K { nx := fun _ H' => Q .non H', rt := Q } (start N_lows_of vs) H := by
  obtain ⟨s, xs, rfl, hs, hne, hl, q⟩ := h
  have h0 : 0 < xs.length := List.length_pos_iff.mpr hne
  have hx0 := List.getElem?_eq_getElem h0
  generalize xs[0] = x0 at hx0
  unfold r_lows_of
  acc_peel
  refine r_ixL (SqL.at hs) (by decide) (by show (xs.map V.int)[0]? = _; rw [List.getElem?_map, hx0]; rfl) ?_
  acc_peel
  refine ⟨sz (by show 1 ≤ 100000; decide), fun t ht => ?_⟩
  have nst : s ≠ t := ne_of_none hs ht
  acc_peel
  refine s_for ?_
  refine i_list ?_
  acc_peel
  refine r_slL (SqL.at (upd_at nst hs)) (fun l hl0 => ?_)
  have hlH : H l = none := by
    have := hl0
    by_cases e : l = t
    · rw [e, upd_same] at this; cases this
    · rw [upd_ne e] at this; exact this
  have ntl : t ≠ l := fun e => by rw [← e, upd_same] at hl0; cases hl0
  rw [show cutV (xs.map V.int) (some 1) none = (xs.drop 1).map V.int from (cut_from _ 1).trans (List.map_drop ..).symm]
  refine ⟨l, rfl, ⟨_, SqL.at upd_same⟩, for_list (K := K) (a := l) (xs := (xs.drop 1).map V.int) (fun i σ H' => Same H H' ∧ H' l = some (.lst ((xs.drop 1).map V.int)) ∧ ∃ (ys : List Int) (v1 : Option V), H' t = some (.lst (ys.map V.int)) ∧ Lows (xs.take (i + 1)) ys ∧ σ = [some (.ref s), some (.ref t), v1])
    ⟨Same.new (Same.new (Same.refl H) ht) hl0, upd_same, [x0], none, upd_at ntl upd_same, ⟨by rw [List.length_take]; show 1 = _; omega, fun i m hm => ?_⟩, rfl⟩ (fun i σ H' _ h => SqL.at h.2.1) ?_ ?_⟩
  · cases i with
    | zero =>
      have : x0 = m := Option.some.inj hm
      subst this
      refine ⟨⟨0, Nat.le_refl _, by rw [List.getElem?_take_of_lt (by omega)]; exact hx0⟩, fun j x hj e => ?_⟩
      have : j = 0 := by omega
      subst this
      rw [List.getElem?_take_of_lt (by omega), hx0] at e
      exact Int.le_of_eq (Option.some.inj e)
    | succ i => cases hm
  · rintro i x σ H1 hx ⟨sm, h1, ys, v1, h2, lw, rfl⟩
    obtain ⟨n, rfl, hn⟩ := mapI_get hx
    have hn2 : xs[i + 1]? = some n := by rw [List.getElem?_drop] at hn; rw [Nat.add_comm]; exact hn
    have yl : ys.length = i + 1 := by
      have hi : i + 1 < xs.length := (List.getElem?_eq_some_iff.mp hn2).1
      rw [lw.len, List.length_take]; omega
    have hy := List.getElem?_eq_getElem (l := ys) (i := ys.length - 1) (by omega)
    generalize ys[ys.length - 1] = m at hy
    acc_peel
    refine r_ixLast (SqL.at h2) (last_map hy) ?_
    acc_peel
    refine x_min (fun m2 m21 m22 m23 => ?_)
    acc_peel
    refine r_app h2 (szl (by
      have hi : i + 1 < xs.length := (List.getElem?_eq_some_iff.mp hn2).1
      rw [List.length_map, yl]; omega)) ?_
    exact ⟨Same.mut sm ht, upd_at ntl.symm h1, ys ++ [m2], _, by rw [upd_same, map_snocI], lw.snoc hn2 hy m21 m22 m23, rfl⟩
  · rintro σ H1 ⟨sm, h1, ys, v1, h2, lw, rfl⟩
    acc_peel
    refine q H1 t ys ht sm h2 ?_
    rw [List.take_of_length_le (by rw [List.length_map, List.length_drop]; omega)] at lw
    exact lw
theorem Highs.cons {xs zs : List Int} {x m m2 : Int} (h : Highs xs zs) (hz : zs[0]? = some m) (h1 : m ≤ m2) (h2 : x ≤ m2) (h3 : m2 = m ∨ m2 = x) : Highs (x :: xs) (m2 :: zs) := by
  refine ⟨by rw [List.length_cons, List.length_cons, h.len], fun i v hv => ?_⟩
  cases i with
  | zero =>
    have : m2 = v := Option.some.inj hv
    subst this
    obtain ⟨⟨j, _, j2⟩, g⟩ := h.is 0 m hz
    refine ⟨?_, fun k y _ e => ?_⟩
    · rcases h3 with e | e
      · exact ⟨j + 1, Nat.zero_le _, by rw [List.getElem?_cons_succ, e]; exact j2⟩
      · exact ⟨0, Nat.le_refl _, by rw [e]; rfl⟩
    · cases k with
      | zero =>
        have := Option.some.inj e
        omega
      | succ k =>
        rw [List.getElem?_cons_succ] at e
        have := g k y (Nat.zero_le _) e
        omega
  | succ i =>
    rw [List.getElem?_cons_succ] at hv
    obtain ⟨⟨j, j1, j2⟩, g⟩ := h.is i v hv
    refine ⟨⟨j + 1, by omega, by rw [List.getElem?_cons_succ]; exact j2⟩, fun k y k1 e => ?_⟩
    cases k with
    | zero => omega
    | succ k =>
      rw [List.getElem?_cons_succ] at e
      exact g k y (by omega) e
theorem len_highs_of {K : PySem.W.Frag} {vs : List V} {H : Hp} {Q : VK} {E : XK} (h : sp_highs_of K vs H Q E) : vs.length = P_highs_of.length := by
  obtain ⟨s, xs, rfl, _⟩ := h; rfl
theorem pure_highs_of {K : PySem.W.Frag} (vs : List V) (H : Hp) (Q : VK) (E : XK) (h : sp_highs_of K vs H Q E) : r_highs_of K { nx := fun _ H' => Q .non H', rt := Q } (start N_highs_of vs) H := by
  obtain ⟨s, xs, rfl, hs, hne, hl, q⟩ := h
  have h0 : 0 < xs.length := List.length_pos_iff.mpr hne
  have hx0 := List.getElem?_eq_getElem (l := xs) (i := xs.length - 1) (by omega)
  have hd0 := List.drop_eq_getElem_cons (l := xs) (i := xs.length - 1) (by omega)
  rw [show xs.length - 1 + 1 = xs.length by omega, List.drop_of_length_le (Nat.le_refl _)] at hd0
  generalize xs[xs.length - 1] = x0 at hx0 hd0
  unfold r_highs_of
  acc_peel
  refine r_ixLast (SqL.at hs) (last_map hx0) ?_
  acc_peel
  refine ⟨sz (by show 1 ≤ 100000; decide), fun t ht => ?_⟩
  have nst : s ≠ t := ne_of_none hs ht
  acc_peel
  refine s_for ?_
  refine i_list ?_
  refine e_revL2 ?_
  acc_peel
  refine ⟨s, _, rfl, SqL.at (upd_at nst hs), fun l hl0 => ?_⟩
  have hlH : H l = none := by
    by_cases e : l = t
    · rw [e, upd_same] at hl0; cases hl0
    · rw [upd_ne e] at hl0; exact hl0
  have ntl : t ≠ l := fun e => by rw [← e, upd_same] at hl0; cases hl0
  have er : (xs.map V.int).dropLast.reverse = xs.dropLast.reverse.map V.int := by rw [List.map_reverse, List.map_dropLast]
  rw [er]
  refine ⟨l, rfl, ⟨_, SqL.at upd_same⟩, for_list (K := K) (a := l) (xs := xs.dropLast.reverse.map V.int) (fun i σ H' => Same H H' ∧ H' l = some (.lst (xs.dropLast.reverse.map V.int)) ∧ ∃ (ys : List Int) (v1 : Option V), H' t = some (.lst (ys.map V.int)) ∧ Highs (xs.drop (xs.length - 1 - i)) ys.reverse ∧ i < xs.length ∧ σ = [some (.ref s), some (.ref t), v1])
    ⟨Same.new (Same.new (Same.refl H) ht) hl0, upd_same, [x0], none, upd_at ntl upd_same, ?_, h0, rfl⟩ (fun i σ H' _ h => SqL.at h.2.1) ?_ ?_⟩
  · rw [Nat.sub_zero, hd0]
    refine ⟨rfl, fun i m hm => ?_⟩
    cases i with
    | zero =>
      have : x0 = m := Option.some.inj hm
      subst this
      refine ⟨⟨0, Nat.le_refl _, rfl⟩, fun j x _ e => ?_⟩
      cases j with
      | zero => exact Int.le_of_eq (Option.some.inj e).symm
      | succ j => cases e
    | succ i => cases hm
  · rintro i x σ H1 hx ⟨sm, h1, ys, v1, h2, hg, hi, rfl⟩
    obtain ⟨n, rfl, hn⟩ := mapI_get hx
    have hil : i < xs.length - 1 := by
      have := (List.getElem?_eq_some_iff.mp hn).1
      rw [List.length_reverse, List.length_dropLast] at this
      exact this
    have hn2 : xs[xs.length - 1 - (i + 1)]? = some n := by
      rw [List.getElem?_reverse (by rw [List.length_dropLast]; exact hil), List.length_dropLast, List.getElem?_dropLast] at hn
      rw [if_pos (by omega)] at hn
      rw [show xs.length - 1 - (i + 1) = xs.length - 1 - 1 - i by omega]
      exact hn
    have hd := List.drop_eq_getElem_cons (l := xs) (i := xs.length - 1 - (i + 1)) (by omega)
    have hxe : xs[xs.length - 1 - (i + 1)]'(by omega) = n := by
      have := List.getElem?_eq_getElem (l := xs) (i := xs.length - 1 - (i + 1)) (by omega)
      rw [this] at hn2
      exact Option.some.inj hn2
    rw [hxe, show xs.length - 1 - (i + 1) + 1 = xs.length - 1 - i by omega] at hd
    have yl : ys.length = i + 1 := by
      have := hg.len
      rw [List.length_reverse, List.length_drop] at this
      omega
    have hy := List.getElem?_eq_getElem (l := ys) (i := ys.length - 1) (by omega)
    generalize ys[ys.length - 1] = m at hy
    have hz : ys.reverse[0]? = some m := by rw [List.getElem?_reverse (by omega)]; exact hy
    acc_peel
    refine r_ixLast (SqL.at h2) (last_map hy) ?_
    acc_peel
    refine x_max (fun m2 m21 m22 m23 => ?_)
    acc_peel
    refine r_app h2 (szl (by rw [List.length_map, yl]; omega)) ?_
    refine ⟨Same.mut sm ht, upd_at ntl.symm h1, ys ++ [m2], _, by rw [upd_same, map_snocI], ?_, by omega, rfl⟩
    rw [hd, List.reverse_append]
    exact hg.cons hz m21 m22 m23
  · rintro σ H1 ⟨sm, h1, ys, v1, h2, hg, hi, rfl⟩
    acc_peel
    refine e_revL ?_
    acc_peel
    refine ⟨t, _, rfl, SqL.at h2, fun r hr => ?_⟩
    rw [← List.map_reverse]
    refine q _ r ys.reverse (sm.free hr) (Same.new sm hr) upd_same ?_
    have e0 : xs.length - 1 - (List.map V.int xs.dropLast.reverse).length = 0 := by rw [List.length_map, List.length_reverse, List.length_dropLast]; omega
    rw [e0, List.drop_zero] at hg
    exact hg
theorem r_ixLk {K : PySem.W.Frag} {H : Hp} {Q : VK} {p : Addr} {xs : List V} {i : Int} {k : Nat} {v : V} (h : SqL K H p xs) (e : i = (k : Int)) (hx : xs[k]? = some v) (q : Q v H) : rIxL K (.ref p) (.int i) H Q := by
  subst e
  exact r_ixL h (by omega) (by rw [Int.toNat_natCast]; exact hx) q
theorem mapI_at {zs : List Int} {i : Nat} {z : Int} (h : zs[i]? = some z) : (zs.map V.int)[i]? = some (.int z) := by rw [List.getElem?_map, h]; rfl
open Classical in
theorem gatesUp_yes {l : List Nat} {i : Nat} (h : Gate l i) : gatesUp l (i + 1) = gatesUp l i ++ [(i : Int) + 1] := by
  unfold gatesUp
  rw [List.range_succ, List.filter_append, List.map_append]
  congr 1
  rw [List.filter_cons_of_pos (p := fun i => decide (Gate l i)) (decide_eq_true h)]; rfl
open Classical in
theorem gatesUp_no {l : List Nat} {i : Nat} (h : ¬ Gate l i) : gatesUp l (i + 1) = gatesUp l i := by
  unfold gatesUp
  rw [List.range_succ, List.filter_append, List.map_append]
  rw [List.filter_cons_of_neg (p := fun i => decide (Gate l i)) (by rw [decide_eq_false h]; exact Bool.false_ne_true)]
  exact List.append_nil _
theorem gatesUp_len (l : List Nat) (i : Nat) : (gatesUp l i).length ≤ i := by
  unfold gatesUp
  rw [List.length_map]
  exact Nat.le_trans (List.length_filter_le ..) (by rw [List.length_range]; exact Nat.le_refl _)
theorem gate_iff {l : List Nat} {i : Nat} {a b : Int} {ls hs : List Int} (hi : i < l.length) (lw : Lows (psum l) ls) (hg : Highs (psum l) hs) (ha : hs[i + 1]? = some a) (hb : ls[i]? = some b) : Gate l i ↔ l[i]? = some 104 ∧ a < b := by
  obtain ⟨⟨k0, k1, k2⟩, gk⟩ := hg.is (i + 1) a ha
  obtain ⟨⟨j0, j1, j2⟩, gj⟩ := lw.is i b hb
  obtain ⟨k3, k4⟩ := psum_of k2
  obtain ⟨j3, j4⟩ := psum_of j2
  refine ⟨fun g => ⟨g.1, ?_⟩, fun ⟨h1, h2⟩ => ⟨h1, fun j k hj hk hn => ?_⟩⟩
  · have := g.2 j0 k0 j1 (by omega) k3
    omega
  · have z1 := gj j _ hj (psum_get (by omega))
    have z2 := gk k _ (by omega) (psum_get hn)
    omega
theorem len_gate_slots {K : PySem.W.Frag} {vs : List V} {H : Hp} {Q : VK} {E : XK} (h : sp_gate_slots K vs H Q E) : vs.length = P_gate_slots.length := by
  obtain ⟨z, rfl, _⟩ := h; rfl
theorem psum_ne (l : List Nat) : psum l ≠ [] := fun e => by have := psum_len l; rw [e] at this; cases this
theorem pure_gate_slots {K : PySem.W.Frag} (vs : List V) (H : Hp) (Q : VK) (E : XK) (h : sp_gate_slots K vs H Q E) : r_gate_slots K { nx := fun _ H' => Q .non H', rt := Q } (start N_gate_slots vs) H := by
  obtain ⟨z, rfl, ok, hl, q⟩ := h
  have tl1 := tl_len z
  unfold r_gate_slots
  acc_peel
  refine ⟨z, rfl, ok, hl, fun H1 s hs0 sm1 h1 => ?_⟩
  acc_peel
  refine ⟨s, psum (tl z), rfl, h1, psum_ne _, by rw [psum_len]; omega, fun H2 t ls ht sm2 h2 lw => ?_⟩
  acc_peel
  refine ⟨s, psum (tl z), rfl, sm2 _ _ h1, psum_ne _, by rw [psum_len]; omega, fun H3 u hs hu sm3 h3 hg => ?_⟩
  acc_peel
  refine ⟨sz (by show 0 ≤ 100000; decide), fun r hr => ?_⟩
  acc_peel
  have hrH : H r = none := ((sm1.trans sm2).trans sm3).free hr
  have h2' : upd H3 r (.lst []) t = some (.lst (ls.map V.int)) := upd_at (ne_of_none (sm3 _ _ h2) hr) (sm3 _ _ h2)
  have h3' : upd H3 r (.lst []) u = some (.lst (hs.map V.int)) := upd_at (ne_of_none h3 hr) h3
  have smr : Same H (upd H3 r (.lst [])) := Same.new ((sm1.trans sm2).trans sm3) hr
  have ntr : t ≠ r := ne_of_none (sm3 _ _ h2) hr
  have nur : u ≠ r := ne_of_none h3 hr
  refine s_for ?_
  refine i_enumSK ?_
  acc_peel
  refine ⟨z, 1, rfl, rfl, by decide, by decide, for_it walk_enumS (fun i σ H' => Same H H' ∧ H' t = some (.lst (ls.map V.int)) ∧ H' u = some (.lst (hs.map V.int)) ∧ H' r = some (.lst ((gatesUp (tl z) i).map V.int)) ∧ ∃ v1 v2 : Option V, σ = [some (.str z), some (.ref s), some (.ref t), some (.ref u), some (.ref r), v1, v2])
    ⟨smr, h2', h3', upd_same, none, none, rfl⟩ (fun _ _ _ _ _ => trivial) ?_ ?_⟩
  · rintro i x σ H4 H5 hi ⟨sm, g2, g3, g4, v1, v2, rfl⟩ ⟨T, c, rfl, hT, rfl, hc⟩
    have hit : i < (tl z).length := by omega
    have sm5 := Same.new (o := .tup [.int (1 + (i : Nat)), .str ⟨#[c]⟩]) sm hT
    have f2 : upd H4 T (.tup [.int (1 + (i : Nat)), .str ⟨#[c]⟩]) t = _ := upd_at (ne_of_none g2 hT) g2
    have f3 : upd H4 T (.tup [.int (1 + (i : Nat)), .str ⟨#[c]⟩]) u = _ := upd_at (ne_of_none g3 hT) g3
    have f4 : upd H4 T (.tup [.int (1 + (i : Nat)), .str ⟨#[c]⟩]) r = _ := upd_at (ne_of_none g4 hT) g4
    obtain ⟨a, ha⟩ : ∃ a, hs[i + 1]? = some a := ⟨_, List.getElem?_eq_getElem (by rw [hg.len, psum_len]; omega)⟩
    obtain ⟨b, hb⟩ : ∃ b, ls[i]? = some b := ⟨_, List.getElem?_eq_getElem (by rw [lw.len, psum_len]; omega)⟩
    have gi := gate_iff hit lw hg ha hb
    refine g_tup (SqT.at upd_same) rfl ?_
    acc_peel
    rw [str1 c 104 _ e_h]
    refine i_dec (fun hc4 => ?_) (fun hc4 => ?_)
    · acc_peel
      refine r_ixLk (SqL.at f3) (k := i + 1) (by omega) (mapI_at ha) ?_
      acc_peel
      refine r_ixLk (SqL.at f2) (k := i) (by omega) (mapI_at hb) ?_
      acc_peel
      refine i_dec (fun hab => ?_) (fun hab => ?_)
      · acc_peel
        refine r_app f4 (szl (by rw [List.length_map]; have := gatesUp_len (tl z) i; omega)) ?_
        refine ⟨Same.mut sm5 hrH, upd_at ntr f2, upd_at nur f3, ?_, _, _, rfl⟩
        rw [upd_same, gatesUp_yes (gi.mpr ⟨by rw [hc, hc4], hab⟩), map_snocI, Int.add_comm]
      · acc_peel
        refine ⟨sm5, f2, f3, ?_, _, _, rfl⟩
        rw [gatesUp_no (fun g => hab (gi.mp g).2)]
        exact f4
    · acc_peel
      refine ⟨sm5, f2, f3, ?_, _, _, rfl⟩
      rw [gatesUp_no (fun g => hc4 (by have := g.1; rw [hc] at this; exact Option.some.inj this))]
      exact f4
  · rintro σ H4 ⟨sm, g2, g3, g4, v1, v2, rfl⟩
    acc_peel
    refine q H4 r hrH sm ?_
    rw [g4, ← tl1]; rfl
theorem eqI (a b : Int) : eqV (.int a) (.int b) = decide (a = b) := by
  show (a == b) = _
  by_cases h : a = b
  · rw [h, decide_eq_true rfl]; exact beq_self_eq_true _
  · rw [decide_eq_false h]; exact beq_false_of_ne h
theorem flatI (ns : List Int) : (ns.map V.int).all flatV = true := by rw [List.all_map]; exact List.all_eq_true.mpr fun _ _ => rfl
theorem tl_cut (z : Str) (lo hi : Option Int) : tl (cutS z lo hi) = ((tl z).drop (HT.sIx z.length 0 lo)).take (HT.sIx z.length z.length hi - HT.sIx z.length 0 lo) := rfl
theorem tl_full {z : Str} : tl (cutS z none (some (z.length : Int))) = tl z := by
  rw [tl_cut, HT.sIx_none, HT.sIx_nat, Nat.min_self, List.drop_zero, Nat.sub_zero, List.take_of_length_le (by rw [tl_len]; exact Nat.le_refl _)]
theorem r_slS {z : Str} {lo hi : Option Int} {H : Hp} {Q : VK} (hz : z.length ≤ 100000) (q : Q (.str (cutS z lo hi)) H) : rSlS (.str z) lo hi H Q := ⟨z, rfl, Nat.le_trans hz (by decide), q⟩
theorem cut_eq {z : Str} : cutS z none (some (z.length : Int)) = z := TL.ext_tl tl_full
theorem len_gates {K : PySem.W.Frag} {vs : List V} {H : Hp} {Q : VK} {E : XK} (h : sp_gates K vs H Q E) : vs.length = P_gates.length := by
  obtain ⟨p, z, rfl, _⟩ := h; rfl
theorem pure_gates {K : PySem.W.Frag} (F : KF K) (vs : List V) (H : Hp) (Q : VK) (E : XK) (h : sp_gates K vs H Q E) : r_gates K { nx := fun _ H' => Q .non H', rt := Q } (start N_gates vs) H := by
  obtain ⟨p, z, rfl, hp, ok, hl, q⟩ := h
  obtain ⟨dx, fs, hp1, lk⟩ := id hp
  unfold r_gates
  acc_peel
  refine ⟨p, z, _, rfl, hp, hl, .inl ⟨rfl, ?_⟩⟩
  acc_peel
  refine ⟨p, _, dx, fs, _, rfl, hp1, F.cR, F.naR _ (by simp), lk.1, ?_⟩
  acc_peel
  refine r_slS (by omega) ?_
  rw [cut_eq]
  acc_peel
  exact ⟨z, rfl, ok, by omega, q⟩
theorem rch_succ {l : List Nat} {i c : Nat} (h : l[i]? = some c) : rch (l.take (i + 1)) = nr c (rch (l.take i)) := by
  unfold rch
  rw [List.take_succ, h, List.foldl_append]; rfl
theorem nms_succ {o : Bool} {l : List Nat} {i c : Nat} {p : Int × Int} (h : l[i]? = some c) : nms o (l.take (i + 1)) p = (nr c (nms o (l.take i) p).1, nm c o (nms o (l.take i) p).1 (nms o (l.take i) p).2) := by
  unfold nms
  rw [List.take_succ, h, List.foldl_append]; rfl
theorem tl_to {z : Str} {k : Nat} (h : k ≤ z.length) : tl (cutS z none (some (k : Int))) = (tl z).take k := by
  rw [tl_cut, HT.sIx_none, HT.sIx_nat, Nat.min_eq_left h, List.drop_zero, Nat.sub_zero]
theorem tl_from {z : Str} {k : Nat} (h : k ≤ z.length) : tl (cutS z (some (k : Int)) none) = (tl z).drop k := by
  rw [tl_cut, HT.sIx_none, HT.sIx_nat, Nat.min_eq_left h, List.take_of_length_le (by rw [List.length_drop, tl_len]; exact Nat.le_refl _)]
theorem len_numbers_at_end {K : PySem.W.Frag} {vs : List V} {H : Hp} {Q : VK} {E : XK} (h : sp_numbers_at_end K vs H Q E) : vs.length = P_numbers_at_end.length := by
  obtain ⟨z, o, s, rfl, _⟩ := h; rfl
theorem pure_numbers_at_end {K : PySem.W.Frag} (vs : List V) (H : Hp) (Q : VK) (E : XK) (h : sp_numbers_at_end K vs H Q E) : r_numbers_at_end K { nx := fun _ H' => Q .non H', rt := Q } (start N_numbers_at_end vs) H := by
  obtain ⟨z, o, s, rfl, s1, sn, hl, q⟩ := h
  have es : (s : Int) - 1 = ((s - 1 : Nat) : Int) := by omega
  have e1 := tl_to (z := z) (k := s - 1) (by omega)
  have e2 := tl_from (z := z) (k := s - 1) (by omega)
  have hm1 : (cutS z none (some ((s - 1 : Nat) : Int))).length = (tl (cutS z none (some ((s - 1 : Nat) : Int)))).length := (tl_len _).symm
  have hm2 : (cutS z (some ((s - 1 : Nat) : Int)) none).length = (tl (cutS z (some ((s - 1 : Nat) : Int)) none)).length := (tl_len _).symm
  unfold r_numbers_at_end
  acc_peel
  refine s_for ?_
  refine i_str ?_
  acc_peel
  rw [es]
  refine r_slS (by omega) ?_
  refine ⟨_, rfl, for_it walk_text (fun i σ H' => H = H' ∧ ∃ v1 v2 : Option V, σ = [some (.str z), some (.bl o), some (.int (s : Int)), some (.int (rch (((tl z).take (s - 1)).take i))), v1, v2]) ⟨rfl, none, none, rfl⟩ (fun _ _ _ _ _ => trivial) ?_ ?_⟩
  · rintro i x σ H1 H2 hi ⟨rfl, v1, v2, rfl⟩ ⟨rfl, c, hc, rfl⟩
    rw [e1] at hc
    acc_peel
    refine ⟨c, _, rfl, ?_⟩
    acc_peel
    rw [rch_succ hc]
    exact ⟨rfl, _, _, rfl⟩
  rintro σ H1 ⟨rfl, v1, v2, rfl⟩
  rw [List.take_of_length_le (by rw [hm1, e1]; exact Nat.le_refl _)]
  acc_peel
  refine s_for ?_
  refine i_str ?_
  acc_peel
  rw [es]
  refine r_slS (by omega) ?_
  generalize hr : rch ((tl z).take (s - 1)) = r0
  refine ⟨_, rfl, for_it walk_text (fun i σ H' => H = H' ∧ ∃ v1 : Option V, σ = [some (.str z), some (.bl o), some (.int (s : Int)), some (.int (nms o (((tl z).drop (s - 1)).take i) (r0, r0)).1), v1, some (.int (nms o (((tl z).drop (s - 1)).take i) (r0, r0)).2)]) ⟨rfl, v1, rfl⟩ (fun _ _ _ _ _ => trivial) ?_ ?_⟩
  · rintro i x σ H1 H2 hi ⟨rfl, v1, rfl⟩ ⟨rfl, c, hc, rfl⟩
    rw [e2] at hc
    acc_peel
    refine ⟨c, _, _, _, rfl, ?_⟩
    acc_peel
    refine ⟨c, _, rfl, ?_⟩
    acc_peel
    rw [nms_succ hc]
    exact ⟨rfl, _, rfl⟩
  · rintro σ H1 ⟨rfl, v1, rfl⟩
    rw [List.take_of_length_le (by rw [hm2, e2]; exact Nat.le_refl _)]
    acc_peel
    refine ⟨sz (by show 2 ≤ 100000; decide), fun t ht => ?_⟩
    refine q _ t (Same.new (Same.refl _) ht) ?_
    rw [upd_same]
    unfold numF
    rw [hr]
def dtext (d : Nat) : Str := Str.ofString (toString d)
theorem d_cases {d : Nat} (h : d ≤ 4) : d = 0 ∨ d = 1 ∨ d = 2 ∨ d = 3 ∨ d = 4 := by omega
theorem split_eq (k : Bool) {d : Nat} (h : d ≤ 4) : Txt.split (wtext k d) " " = [ktext k, dtext d] := by
  rcases d_cases h with rfl | rfl | rfl | rfl | rfl <;> cases k <;> decide +kernel
theorem wtext_len (k : Bool) {d : Nat} (h : d ≤ 4) : (wtext k d).length ≤ 10 := by
  rcases d_cases h with rfl | rfl | rfl | rfl | rfl <;> cases k <;> decide +kernel
theorem wtext_eq (k : Bool) {d : Nat} (h : d ≤ 4) : ((Str.empty ++ ktext k) ++ (" " : Str)) ++ Str.ofString (toString (d : Int)) = wtext k d := by
  rcases d_cases h with rfl | rfl | rfl | rfl | rfl <;> cases k <;> decide +kernel
theorem dtext_int {d : Nat} (h : d ≤ 4) : PySem.intText? (dtext d) = some (d : Int) := by
  rcases d_cases h with rfl | rfl | rfl | rfl | rfl <;> decide +kernel
theorem dtext_len {d : Nat} (h : d ≤ 4) : (dtext d).length ≤ 640 := by
  rcases d_cases h with rfl | rfl | rfl | rfl | rfl <;> decide +kernel
theorem dtext_in {d : Nat} (h : d ≤ 4) : inV (.str (dtext d)) [.str "0", .str "1", .str "2", .str "3", .str "4"] = true := by
  rcases d_cases h with rfl | rfl | rfl | rfl | rfl <;> decide +kernel
theorem ktext_in (k : Bool) : inV (.str (ktext k)) [.str "many", .str "once"] = true := by cases k <;> decide +kernel
theorem r_notIn {K : PySem.W.Frag} {H : Hp} {Q : VK} {p : Addr} {xs : List V} {z : Str} (h : SqT K H p xs) (hf : xs.all flatV = true) (hi : inV (.str z) xs = true) (q : Q (.bl false) H) : rIn K true (.str z) (.ref p) H Q := by
  refine ⟨p, xs, rfl, .inr h, rfl, hf, ?_⟩
  rw [hi]
  exact q
theorem len_world_words {K : PySem.W.Frag} {vs : List V} {H : Hp} {Q : VK} {E : XK} (h : sp_world_words K vs H Q E) : vs.length = P_world_words.length := by
  obtain ⟨k, d, rfl, _⟩ := h; rfl
theorem pure_world_words {K : PySem.W.Frag} (F : KF K) (vs : List V) (H : Hp) (Q : VK) (E : XK) (h : sp_world_words K vs H Q E) : r_world_words K { nx := fun _ H' => Q .non H', rt := Q } (start N_world_words vs) H := by
  obtain ⟨k, d, rfl, hd, q⟩ := h
  unfold r_world_words
  acc_peel
  refine ⟨_, _, rfl, rfl, by decide +kernel, sz (by have := wtext_len k hd; omega), ?_⟩
  rw [split_eq k hd]
  intro p hp
  have sm1 := Same.new (o := .lst [.str (ktext k), .str (dtext d)]) (Same.refl H) hp
  have h1 : upd H p (.lst (List.map V.str [ktext k, dtext d])) p = some (.lst [.str (ktext k), .str (dtext d)]) := upd_same
  acc_peel
  refine i_ndec (fun z => absurd rfl z) (fun _ => ?_)
  acc_peel
  refine r_notIn (F.kinds _) rfl (ktext_in k) ?_
  acc_peel
  refine r_notIn (F.lates _) rfl (dtext_in hd) ?_
  acc_peel
  refine b_intS (dtext_int hd) (dtext_len hd) ?_
  acc_peel
  refine ⟨sz (by show 2 ≤ 100000; decide), fun t ht => ?_⟩
  exact q _ t (Same.new sm1 ht) upd_same
theorem len_World___init__ {K : PySem.W.Frag} {vs : List V} {H : Hp} {Q : VK} {E : XK} (h : sp_World___init__ K vs H Q E) : vs.length = P_World___init__.length := by
  obtain ⟨p, dx, k, d, rfl, _⟩ := h; rfl
theorem pure_World___init__ {K : PySem.W.Frag} (F : KF K) (vs : List V) (H : Hp) (Q : VK) (E : XK) (h : sp_World___init__ K vs H Q E) : r_World___init__ K { nx := fun _ H' => Q .non H', rt := Q } (start N_World___init__ vs) H := by
  obtain ⟨p, dx, k, d, rfl, hd, hp, q⟩ := h
  have hw := wtext_len k hd
  unfold r_World___init__
  acc_peel
  refine ⟨_, rfl, by omega, ?_⟩
  acc_peel
  refine ⟨k, d, rfl, hd, fun H1 t sm ht => ?_⟩
  have hp1 := sm _ _ hp
  have ntp : t ≠ p := ne_of ht hp1 (by intro z; cases z)
  acc_peel
  refine ⟨p, _, dx, _, rfl, hp1, F.cW, F.naW _ (by simp), (by decide), ?_⟩
  acc_peel
  refine ⟨p, _, dx, _, rfl, upd_same, F.cW, F.naW _ (by simp), lt1000 (Nat.le_trans (pl (n := 0) (Nat.le_refl _)) (by decide)), ?_⟩
  rw [upd_upd]
  acc_peel
  refine ⟨p, _, dx, _, rfl, upd_same, F.cW, F.naW _ (by simp), lt1000 (Nat.le_trans (pl (pl (n := 0) (Nat.le_refl _))) (by decide)), ?_⟩
  rw [upd_upd]
  exact q _ (fun b o n e => by rw [upd_ne n]; exact sm _ _ e) ⟨dx, _, upd_same, lk_ne (by decide +kernel) (lk_ne (by decide +kernel) lk_same), lk_ne (by decide +kernel) lk_same⟩
theorem len_World_of {K : PySem.W.Frag} {vs : List V} {H : Hp} {Q : VK} {E : XK} (h : sp_World_of K vs H Q E) : vs.length = P_World_of.length := by
  obtain ⟨k, d, rfl, _⟩ := h; rfl
theorem ktext_len (k : Bool) : (ktext k).length = 4 := by cases k <;> decide +kernel
theorem str_app_len (x y : Str) : (x ++ y).length = x.length + y.length := by
  rw [TL.len_tl, TL.len_tl, TL.len_tl, TL.tl_append, List.length_append]
theorem pure_World_of {K : PySem.W.Frag} (F : KF K) (vs : List V) (H : Hp) (Q : VK) (E : XK) (h : sp_World_of K vs H Q E) : r_World_of K { nx := fun _ H' => Q .non H', rt := Q } (start N_World_of vs) H := by
  obtain ⟨k, d, rfl, hd, q⟩ := h
  have e0 : (Str.empty : Str).length = 0 := by decide
  have e1 : (Str.ofString " ").length = 1 := by decide
  have ek := ktext_len k
  have ew := wtext_len k hd
  unfold r_World_of
  acc_peel
  refine r_notIn (F.kinds _) rfl (ktext_in k) ?_
  acc_peel
  refine i_dec (fun z => absurd z (by omega)) (fun _ => ?_)
  acc_peel
  refine i_dec (fun z => absurd z (by omega)) (fun _ => ?_)
  acc_peel
  refine e_make ?_
  acc_peel
  refine e_fmtS ?_
  acc_peel
  refine .inl ⟨_, rfl, sz (by omega), ⟨_, rfl, sz (by rw [str_app_len]; omega), ?_⟩⟩
  acc_peel
  refine ⟨_, rfl, sz (by rw [str_app_len, str_app_len]; omega), ?_⟩
  acc_peel
  refine e_fmtS ?_
  acc_peel
  have lg : (d : Int).natAbs.log2 < 1920 := by
    rcases d_cases hd with rfl | rfl | rfl | rfl | rfl <;> decide
  have ewt := wtext_eq k hd
  refine .inr ⟨_, rfl, lg, ⟨_, rfl, ?_, ?_⟩⟩
  · show ((((Str.empty ++ ktext k) ++ (" " : Str)) ++ Str.ofString (toString (d : Int))) : Str).length ≤ _
    rw [ewt]; exact sz (by omega)
  show tJs [] ((((Str.empty ++ ktext k) ++ (" " : Str)) ++ Str.ofString (toString (d : Int))) : Str) _ _ _
  rw [ewt]
  acc_peel
  intro x dx hx hdx hne
  refine ⟨x, dx, k, d, rfl, hd, upd_same, fun H' sb wd => ⟨rfl, ?_⟩⟩
  refine q H' x (fun b o e => ?_) wd
  have n1 : b ≠ x := ne_of_none e hx
  exact sb b o n1 (upd_at n1 (upd_at (ne_of_none e hdx) e))
theorem len_numbers {K : PySem.W.Frag} {vs : List V} {H : Hp} {Q : VK} {E : XK} (h : sp_numbers K vs H Q E) : vs.length = P_numbers.length := by
  obtain ⟨p, z, k, s, rfl, _⟩ := h; rfl
theorem ktext_once (k : Bool) : decide (ktext k = ("once" : Str)) = k := by cases k <;> decide +kernel
theorem pure_numbers {K : PySem.W.Frag} (F : KF K) (vs : List V) (H : Hp) (Q : VK) (E : XK) (h : sp_numbers K vs H Q E) : r_numbers K { nx := fun _ H' => Q .non H', rt := Q } (start N_numbers vs) H := by
  obtain ⟨p, z, k, s, rfl, hp, hl, s1, sn, q⟩ := h
  unfold r_numbers
  acc_peel
  refine ⟨rfl, ?_⟩
  acc_peel
  refine ⟨k, 0, rfl, by decide, fun H1 w sm wd => ?_⟩
  have hp1 := hp.mono sm
  obtain ⟨dx, fs, hp2, lk⟩ := id hp1
  obtain ⟨dw, fw, hw, lw, _⟩ := wd
  acc_peel
  refine b_lenRt hp1 hl ?_
  acc_peel
  refine ⟨_, _, rfl, by omega, by omega, ?_⟩
  acc_peel
  refine ⟨p, _, dx, fs, _, rfl, hp2, F.cR, F.naR _ (by simp), lk.1, ?_⟩
  acc_peel
  refine ⟨w, _, dw, fw, _, rfl, hw, F.cW, F.naW _ (by simp), lw, ?_⟩
  acc_peel
  rw [ktext_once]
  exact ⟨z, k, s, rfl, s1, sn, by omega, fun H2 t sm2 ht => q H2 t (sm.trans sm2) ht⟩
theorem cut_map (ns : List Int) (lo hi : Option Int) : ∃ ms : List Int, cutV (ns.map V.int) lo hi = ms.map V.int ∧ ms.length ≤ ns.length := by
  unfold cutV
  rw [← List.map_drop, ← List.map_take]
  refine ⟨_, rfl, ?_⟩
  rw [List.length_take, List.length_drop]; omega
theorem len__law_bag {K : PySem.W.Frag} {vs : List V} {H : Hp} {Q : VK} {E : XK} (h : sp__law_bag K vs H Q E) : vs.length = P__law_bag.length := by
  obtain ⟨s, ns, rfl, _⟩ := h; rfl
theorem emod_range {x m : Int} (h : 0 < m) : 0 ≤ x % m ∧ x % m < m := ⟨Int.emod_nonneg _ (by omega), Int.emod_lt_of_pos _ h⟩
theorem pure__law_bag {K : PySem.W.Frag} (vs : List V) (H : Hp) (Q : VK) (E : XK) (h : sp__law_bag K vs H Q E) : r__law_bag K { nx := fun _ H' => Q .non H', rt := Q } (start N__law_bag vs) H := by
  obtain ⟨s, ns, rfl, hs, hl, q⟩ := h
  unfold r__law_bag
  acc_peel
  refine s_for ?_
  refine i_list ?_
  acc_peel
  refine r_slL hs (fun l hl0 => ?_)
  obtain ⟨ms, em, hms⟩ := cut_map ns none (some 63)
  rw [em]
  have sm0 : Same H (upd H l (.lst (ms.map V.int))) := Same.new (Same.refl H) hl0
  refine ⟨l, rfl, ⟨_, SqL.at upd_same⟩, for_list (K := K) (a := l) (xs := ms.map V.int) (fun i σ H' => upd H l (.lst (ms.map V.int)) = H' ∧ ∃ (b : Int) (v : Option V), σ = [some (.ref s), some (.int b), v] ∧ 0 ≤ b ∧ b < 2147483648)
    ⟨rfl, 16197, none, rfl, by decide, by decide⟩ (fun i σ H' _ h => by rw [← h.1]; exact SqL.at upd_same) ?_ ?_⟩
  · rintro i x σ H' hx ⟨rfl, b, v, rfl, b0, b1⟩
    obtain ⟨n, rfl, hn⟩ := mapI_get hx
    acc_peel
    refine r_times (Or.inr (by decide)) ?_
    acc_peel
    refine r_mod (by decide) ?_
    acc_peel
    refine r_mod (by decide) ?_
    acc_peel
    have e := emod_range (x := b * 69621 + n % 2147483587 + 173) (m := 2147483629) (by decide)
    exact ⟨rfl, _, _, rfl, e.1, by omega⟩
  · rintro σ H' ⟨rfl, b, v, rfl, b0, b1⟩
    acc_peel
    refine r_slL (SqL.mono hs sm0) (fun l2 hl2 => ?_)
    rw [em]
    acc_peel
    refine b_listL (SqL.at upd_same) (fun l3 hl3 => ?_)
    acc_peel
    refine ⟨sz (by show 5 ≤ 100000; decide), fun a ha => ?_⟩
    have n2 : l3 ≠ l2 := fun e => by rw [e, upd_same] at hl3; cases hl3
    have na3 : l3 ≠ a := fun e => by rw [← e, upd_same] at ha; cases ha
    have na2 : l2 ≠ a := fun e => by rw [← e, upd_ne n2.symm, upd_same] at ha; cases ha
    have nl2 : l ≠ l2 := fun e => by rw [← e, upd_same] at hl2; cases hl2
    have sm1 := Same.new (o := .lst (ms.map V.int)) sm0 hl2
    have sm2 := Same.new (o := .lst (ms.map V.int)) sm1 hl3
    refine q _ a l3 (sm2.free ha) (Same.new sm2 ha) ⟨ms, 0, 0, b, 0, upd_same, na3, upd_at na3 upd_same, by decide, by decide, b0, b1⟩
theorem len__law_draw {K : PySem.W.Frag} {vs : List V} {H : Hp} {Q : VK} {E : XK} (h : sp__law_draw K vs H Q E) : vs.length = P__law_draw.length := by
  obtain ⟨a, c, L, rfl, _⟩ := h; rfl
theorem pure__law_draw {K : PySem.W.Frag} (vs : List V) (H : Hp) (Q : VK) (E : XK) (h : sp__law_draw K vs H Q E) : r__law_draw K { nx := fun _ H' => Q .non H', rt := Q } (start N__law_draw vs) H := by
  obtain ⟨a, c, L, rfl, ⟨cs, i, r, m, n, ha, nc, hc, i0, r0, m0, m1⟩, L0, L1, q⟩ := h
  unfold r__law_draw
  acc_peel
  refine s_cut (fun σ H' => ∃ v : Option V, σ = [some (.ref a), some (.int L), v, none] ∧ Sb a H H' ∧ BagAt a c H') ?_ ?_
  · acc_peel
    refine i_dec (fun hr => ?_) (fun hr => ?_)
    · acc_peel
      rw [List.length_map]
      refine i_dec (fun hi => ?_) (fun hi => ?_)
      · acc_peel
        have hlt : i.toNat < cs.length := by omega
        refine r_ixL (SqL.at (upd_at nc hc)) i0 (v := V.int (cs[i.toNat]'hlt)) (by rw [List.getElem?_map, List.getElem?_eq_getElem hlt]; rfl) ?_
        generalize (cs[i.toNat]'hlt) = w
        acc_peel
        refine r_pow (by unfold CPow; decide) ?_
        acc_peel
        refine i_dec (fun hw => ?_) (fun hw => ?_)
        · acc_peel
          refine ⟨_, rfl, Sb.own (Sb.own (Sb.own (Sb.refl a H))), cs, i + 1, w, m, n + 1, upd_same, nc, by apart_at, by omega, ?_, m0, m1⟩
          exact Int.le_trans (by decide) hw
        · acc_peel
          refine r_times (Or.inr (by decide)) ?_
          acc_peel
          refine r_mod (by decide) ?_
          acc_peel
          refine r_times (Or.inr (by decide)) ?_
          acc_peel
          refine r_mod (by decide) ?_
          acc_peel
          have e := emod_range (x := m * 48271 + w % 2147483563 * 40014 + 211) (m := 2147483629) (by decide)
          exact ⟨_, rfl, Sb.own (Sb.own (Sb.own (Sb.refl a H))), cs, i + 1, r, _, n + 1, upd_same, nc, by apart_at, by omega, r0, e.1, by omega⟩
      · acc_peel
        exact ⟨_, rfl, Sb.own (Sb.refl a H), cs, i, r, m, n + 1, upd_same, nc, by apart_at, i0, r0, m0, m1⟩
    · acc_peel
      exact ⟨_, rfl, Sb.own (Sb.refl a H), cs, i, r, m, n + 1, upd_same, nc, by apart_at, i0, r0, m0, m1⟩
  clear hc ha m0 m1 i0 r0 nc
  clear cs i r m n
  rintro σ H1 ⟨v, rfl, sb, cs, i, r, m, n, ha, nc, hc, i0, r0, m0, m1⟩
  acc_peel
  refine i_dec (fun hr => ?_) (fun hr => ?_)
  · acc_peel
    refine r_mod L0 ?_
    acc_peel
    refine r_fdiv ⟨by omega, by omega⟩ ?_
    acc_peel
    have e := emod_range (x := r) (m := L) L0
    refine q _ _ (Sb.own sb) ⟨cs, i, r.fdiv L, m, n, upd_same, nc, by apart_at, i0, ?_, m0, m1⟩ e.1 e.2
    rw [Int.fdiv_eq_ediv_of_nonneg _ (by omega)]
    exact Int.ediv_nonneg r0 (by omega)
  acc_peel
  refine r_pow (by unfold CPow; exact ⟨by decide, by decide, by omega⟩) ?_
  acc_peel
  refine r_times (Or.inr (by decide)) ?_
  acc_peel
  refine r_mod (by decide) ?_
  acc_peel
  generalize hm : (m ^ (3 : Int).toNat + n * 1299721 + 90001) % 2147483629 = m2
  have e2 := emod_range (x := m ^ (3 : Int).toNat + n * 1299721 + 90001) (m := 2147483629) (by decide)
  rw [hm] at e2
  refine r_fdiv ⟨by decide, by decide⟩ ?_
  acc_peel
  refine r_mod (by decide) ?_
  acc_peel
  refine r_times (Or.inr (by decide)) ?_
  acc_peel
  refine r_mod L0 ?_
  have e := emod_range (x := m2.fdiv 89 + m2 % 6857 * 71) (m := L) L0
  exact q _ _ (Sb.own sb) ⟨cs, i, r, m2, n, upd_same, nc, by apart_at, i0, r0, e2.1, by omega⟩ e.1 e.2
theorem len__law_of {K : PySem.W.Frag} {vs : List V} {H : Hp} {Q : VK} {E : XK} (h : sp__law_of K vs H Q E) : vs.length = P__law_of.length := by
  obtain ⟨a, c, t, xs, rfl, _⟩ := h; rfl
theorem pure__law_of {K : PySem.W.Frag} (vs : List V) (H : Hp) (Q : VK) (E : XK) (h : sp__law_of K vs H Q E) : r__law_of K { nx := fun _ H' => Q .non H', rt := Q } (start N__law_of vs) H := by
  obtain ⟨a, c, t, xs, rfl, hb, nt, ht, hne, hl, q⟩ := h
  unfold r__law_of
  acc_peel
  have : xs.length ≠ 0 := fun e => hne (List.eq_nil_of_length_eq_zero e)
  refine ⟨a, c, _, rfl, hb, by omega, by omega, fun H1 d sb hb1 d0 d1 => ?_⟩
  acc_peel
  have hlt : d.toNat < xs.length := by omega
  refine r_ixL (SqL.at (sb _ _ nt ht)) d0 (List.getElem?_eq_getElem hlt) ?_
  exact q _ _ sb hb1 (List.getElem_mem hlt)
theorem len__law_ofS {K : PySem.W.Frag} {vs : List V} {H : Hp} {Q : VK} {E : XK} (h : sp__law_ofS K vs H Q E) : vs.length = P__law_ofS.length := by
  obtain ⟨a, c, z, rfl, _⟩ := h; rfl
theorem pure__law_ofS {K : PySem.W.Frag} (vs : List V) (H : Hp) (Q : VK) (E : XK) (h : sp__law_ofS K vs H Q E) : r__law_ofS K { nx := fun _ H' => Q .non H', rt := Q } (start N__law_ofS vs) H := by
  obtain ⟨a, c, z, rfl, hb, hne, hl, q⟩ := h
  unfold r__law_ofS
  acc_peel
  refine b_lenS (by omega) ?_
  acc_peel
  refine ⟨a, c, _, rfl, hb, by omega, by omega, fun H1 d sb hb1 d0 d1 => ?_⟩
  acc_peel
  have hlt : d.toNat < (tl z).length := by rw [tl_len]; omega
  have hc : z.cps[d.toNat]? = some ((tl z)[d.toNat]'hlt) := by rw [← Array.getElem?_toList]; exact List.getElem?_eq_getElem hlt
  refine r_itemS d0 d1 (sz (by omega)) hc ?_
  exact q _ _ sb hb1 (List.getElem_mem hlt)
abbrev DQ (Q : VK) : Ends := { nx := fun _ H' => Q .non H', rt := Q }
theorem r_ixA1 {K : PySem.W.Frag} {H : Hp} {Q : VK} {p : Addr} {xs : List V} {i : Int} {k : Nat} {v : V} (h : H p = some (.lst xs)) (e : i = (k : Int)) (hx : xs[k]? = some v) (q : Q v H) : rIx K (.ref p) (.int i) H Q := .inl (r_ixLk (SqL.at h) e hx q)
theorem r_ixA2 {K : PySem.W.Frag} {H : Hp} {Q : VK} {p : Addr} {xs : List V} {i : Int} {k : Nat} {v : V} (h : H p = some (.tup xs)) (e : i = (k : Int)) (hx : xs[k]? = some v) (q : Q v H) : rIx K (.ref p) (.int i) H Q := by
  subst e
  exact .inr (.inl (r_ixT (SqT.at h) (by omega) (by rw [Int.toNat_natCast]; exact hx) q))
theorem like_int {K : PySem.W.Frag} {c : Sp} {i : Int} {H : Hp} {Q : VK} (q : Q (.bl true) H) : r_likeG c K (DQ Q) (start N__law_like0 [.int i, .int i]) H := by
  unfold r_likeG
  acc_peel
  refine x_isi (ClsV.ty "bool") (TyX.base (TyOf.int i)) (d := false) rfl ?_
  acc_peel
  refine x_isi (ClsV.ty "int") (TyX.base (TyOf.int i)) (d := true) rfl ?_
  acc_peel
  refine x_isi (ClsV.ty "int") (TyX.base (TyOf.int i)) (d := true) rfl ?_
  acc_peel
  refine x_isi (ClsV.ty "bool") (TyX.base (TyOf.int i)) (d := false) rfl ?_
  acc_peel
  rw [decide_eq_true rfl]
  exact q
theorem like_lst {K : PySem.W.Frag} {c : Sp} {a b : Addr} {xs ys : List V} {H : Hp} {Q : VK} (ha : H a = some (.lst xs)) (hb : H b = some (.lst ys)) (hl : xs.length = ys.length) (hz : xs.length ≤ 1000)
    (hc : ∀ (i : Nat) (x y : V), xs[i]? = some x → ys[i]? = some y → ∀ Q : VK, Q (.bl true) H → c ([x, y] ++ []) H Q E0) (q : Q (.bl true) H) : r_likeG c K (DQ Q) (start N__law_like0 [.ref a, .ref b]) H := by
  unfold r_likeG
  acc_peel
  refine x_isi (ClsV.ty "bool") (TyX.base (TyOf.lst hb)) (d := false) rfl ?_
  acc_peel
  refine x_isi (ClsV.ty "int") (TyX.base (TyOf.lst hb)) (d := false) rfl ?_
  acc_peel
  refine x_isi (ClsV.ty "str") (TyX.base (TyOf.lst hb)) (d := false) rfl ?_
  acc_peel
  refine x_isi (ClsV.ty "list") (TyX.base (TyOf.lst hb)) (d := true) rfl ?_
  acc_peel
  refine x_isi (ClsV.ty "list") (TyX.base (TyOf.lst ha)) (d := true) rfl ?_
  acc_peel
  refine x_isi (ClsV.ty "list") (TyX.base (TyOf.lst hb)) (d := true) rfl ?_
  acc_peel
  refine i_ndec (fun z => absurd rfl z) (fun _ => ?_)
  acc_peel
  refine x_isi (ClsV.ty "tuple") (TyX.base (TyOf.lst ha)) (d := false) rfl ?_
  acc_peel
  refine x_isi (ClsV.ty "tuple") (TyX.base (TyOf.lst hb)) (d := false) rfl ?_
  acc_peel
  refine i_ndec (fun z => absurd rfl z) (fun _ => ?_)
  acc_peel
  refine i_ndec (fun z => absurd (by rw [hl]) z) (fun _ => ?_)
  acc_peel
  refine s_for ?_
  refine i_rng1 ?_
  acc_peel
  refine ⟨_, rfl, by omega, by omega, for_range (lo := 0) (n := ((ys.length : Int)).toNat) (fun i σ H' => H = H' ∧ ∃ v : Option V, σ = [some (.ref a), some (.ref b), v]) ⟨rfl, none, rfl⟩ ?_ ?_⟩
  · rintro i σ H1 hi ⟨rfl, v, rfl⟩
    have h1 : i < xs.length := by omega
    have h2 : i < ys.length := by omega
    acc_peel
    refine r_ixA1 ha (k := i) (by omega) (List.getElem?_eq_getElem h1) ?_
    acc_peel
    refine r_ixA1 hb (k := i) (by omega) (List.getElem?_eq_getElem h2) ?_
    acc_peel
    refine hc i _ _ (List.getElem?_eq_getElem h1) (List.getElem?_eq_getElem h2) _ ?_
    acc_peel
    exact ⟨rfl, _, rfl⟩
  · rintro σ H1 ⟨rfl, v, rfl⟩
    acc_peel
    exact q
theorem like_tup {K : PySem.W.Frag} {c : Sp} {a b : Addr} {xs ys : List V} {H : Hp} {Q : VK} (ha : H a = some (.tup xs)) (hb : H b = some (.tup ys)) (hl : xs.length = ys.length) (hz : xs.length ≤ 1000)
    (hc : ∀ (i : Nat) (x y : V), xs[i]? = some x → ys[i]? = some y → ∀ Q : VK, Q (.bl true) H → c ([x, y] ++ []) H Q E0) (q : Q (.bl true) H) : r_likeG c K (DQ Q) (start N__law_like0 [.ref a, .ref b]) H := by
  unfold r_likeG
  acc_peel
  refine x_isi (ClsV.ty "bool") (TyX.base (TyOf.tup hb)) (d := false) rfl ?_
  acc_peel
  refine x_isi (ClsV.ty "int") (TyX.base (TyOf.tup hb)) (d := false) rfl ?_
  acc_peel
  refine x_isi (ClsV.ty "str") (TyX.base (TyOf.tup hb)) (d := false) rfl ?_
  acc_peel
  refine x_isi (ClsV.ty "list") (TyX.base (TyOf.tup hb)) (d := false) rfl ?_
  acc_peel
  refine x_isi (ClsV.ty "tuple") (TyX.base (TyOf.tup hb)) (d := true) rfl ?_
  acc_peel
  refine x_isi (ClsV.ty "list") (TyX.base (TyOf.tup ha)) (d := false) rfl ?_
  acc_peel
  refine x_isi (ClsV.ty "list") (TyX.base (TyOf.tup hb)) (d := false) rfl ?_
  acc_peel
  refine i_ndec (fun z => absurd rfl z) (fun _ => ?_)
  acc_peel
  refine x_isi (ClsV.ty "tuple") (TyX.base (TyOf.tup ha)) (d := true) rfl ?_
  acc_peel
  refine x_isi (ClsV.ty "tuple") (TyX.base (TyOf.tup hb)) (d := true) rfl ?_
  acc_peel
  refine i_ndec (fun z => absurd rfl z) (fun _ => ?_)
  acc_peel
  refine i_ndec (fun z => absurd (by rw [hl]) z) (fun _ => ?_)
  acc_peel
  refine s_for ?_
  refine i_rng1 ?_
  acc_peel
  refine ⟨_, rfl, by omega, by omega, for_range (lo := 0) (n := ((ys.length : Int)).toNat) (fun i σ H' => H = H' ∧ ∃ v : Option V, σ = [some (.ref a), some (.ref b), v]) ⟨rfl, none, rfl⟩ ?_ ?_⟩
  · rintro i σ H1 hi ⟨rfl, v, rfl⟩
    have h1 : i < xs.length := by omega
    have h2 : i < ys.length := by omega
    acc_peel
    refine r_ixA2 ha (k := i) (by omega) (List.getElem?_eq_getElem h1) ?_
    acc_peel
    refine r_ixA2 hb (k := i) (by omega) (List.getElem?_eq_getElem h2) ?_
    acc_peel
    refine hc i _ _ (List.getElem?_eq_getElem h1) (List.getElem?_eq_getElem h2) _ ?_
    acc_peel
    exact ⟨rfl, _, rfl⟩
  · rintro σ H1 ⟨rfl, v, rfl⟩
    acc_peel
    exact q
theorem len__law_like0 {K : PySem.W.Frag} {vs : List V} {H : Hp} {Q : VK} {E : XK} (h : sp__law_like0 K vs H Q E) : vs.length = P__law_like0.length := by
  obtain ⟨x, y, rfl, _⟩ := h; rfl
theorem len__law_like1 {K : PySem.W.Frag} {vs : List V} {H : Hp} {Q : VK} {E : XK} (h : sp__law_like1 K vs H Q E) : vs.length = P__law_like1.length := by
  obtain ⟨x, y, rfl, _⟩ := h; rfl

theorem like_bl {K : PySem.W.Frag} {c : Sp} {b : Bool} {H : Hp} {Q : VK} (q : Q (.bl true) H) : r_likeG c K (DQ Q) (start N__law_like0 [.bl b, .bl b]) H := by
  unfold r_likeG
  acc_peel
  refine x_isi (ClsV.ty "bool") (TyX.base (TyOf.bl b)) (d := true) rfl ?_
  acc_peel
  refine x_isi (ClsV.ty "bool") (TyX.base (TyOf.bl b)) (d := true) rfl ?_
  acc_peel
  rw [decide_eq_true rfl]
  exact q
theorem like_non {K : PySem.W.Frag} {c : Sp} {H : Hp} {Q : VK} (q : Q (.bl true) H) : r_likeG c K (DQ Q) (start N__law_like0 [.non, .non]) H := by
  unfold r_likeG
  acc_peel
  refine x_isi (ClsV.ty "bool") (TyX.base TyOf.non) (d := false) rfl ?_
  acc_peel
  refine x_isi (ClsV.ty "int") (TyX.base TyOf.non) (d := false) rfl ?_
  acc_peel
  refine x_isi (ClsV.ty "str") (TyX.base TyOf.non) (d := false) rfl ?_
  acc_peel
  refine x_isi (ClsV.ty "list") (TyX.base TyOf.non) (d := false) rfl ?_
  acc_peel
  refine x_isi (ClsV.ty "tuple") (TyX.base TyOf.non) (d := false) rfl ?_
  acc_peel
  exact q
theorem like_str {K : PySem.W.Frag} {c : Sp} {z : Str} {H : Hp} {Q : VK} (q : Q (.bl true) H) : r_likeG c K (DQ Q) (start N__law_like0 [.str z, .str z]) H := by
  unfold r_likeG
  acc_peel
  refine x_isi (ClsV.ty "bool") (TyX.base (TyOf.str z)) (d := false) rfl ?_
  acc_peel
  refine x_isi (ClsV.ty "int") (TyX.base (TyOf.str z)) (d := false) rfl ?_
  acc_peel
  refine x_isi (ClsV.ty "str") (TyX.base (TyOf.str z)) (d := true) rfl ?_
  acc_peel
  refine x_isi (ClsV.ty "str") (TyX.base (TyOf.str z)) (d := true) rfl ?_
  acc_peel
  rw [decide_eq_true rfl]
  exact q
theorem like_any {K : PySem.W.Frag} {c : Sp} {n : Nat} {x y : V} {H : Hp} {Q : VK} (h : Like K H (n + 1) x y) (hc : ∀ (x y : V), Like K H n x y → ∀ Q : VK, Q (.bl true) H → c ([x, y] ++ []) H Q E0) (q : Q (.bl true) H) : r_likeG c K (DQ Q) (start N__law_like0 [x, y]) H := by
  cases h with
  | int i => exact like_int q
  | bl b => exact like_bl q
  | str z => exact like_str q
  | non => exact like_non q
  | lst ha hb hl hz h => exact like_lst ha hb hl hz (fun i x y hx hy => hc x y (h i x y hx hy)) q
  | tup ha hb hl hz h => exact like_tup ha hb hl hz (fun i x y hx hy => hc x y (h i x y hx hy)) q

theorem pure__law_like1 {K : PySem.W.Frag} (vs : List V) (H : Hp) (Q : VK) (E : XK) (h : sp__law_like1 K vs H Q E) : r__law_like1 K { nx := fun _ H' => Q .non H', rt := Q } (start N__law_like1 vs) H := by
  obtain ⟨x, y, rfl, h, q⟩ := h
  show r_likeG (sp__law_like0 K) K (DQ Q) (start N__law_like0 [x, y]) H
  exact like_any h (fun x y l Q q => ⟨x, y, rfl, l, q⟩) q
theorem len__law_like2 {K : PySem.W.Frag} {vs : List V} {H : Hp} {Q : VK} {E : XK} (h : sp__law_like2 K vs H Q E) : vs.length = P__law_like2.length := by
  obtain ⟨x, y, rfl, _⟩ := h; rfl
theorem pure__law_like2 {K : PySem.W.Frag} (vs : List V) (H : Hp) (Q : VK) (E : XK) (h : sp__law_like2 K vs H Q E) : r__law_like2 K { nx := fun _ H' => Q .non H', rt := Q } (start N__law_like2 vs) H := by
  obtain ⟨x, y, rfl, h, q⟩ := h
  show r_likeG (sp__law_like1 K) K (DQ Q) (start N__law_like0 [x, y]) H
  exact like_any h (fun x y l Q q => ⟨x, y, rfl, l, q⟩) q
theorem x_ofT {K : PySem.W.Frag} {zs : List Str} {a c p : Addr} {H : Hp} {Q : VK} {E : XK} {Pz : Str → Prop} (hb : BagAt a c H) (hp : H p = none) (hn : zs.length ≠ 0) (hl : zs.length ≤ 1000) (hz : ∀ z ∈ zs, Pz z)
    (q : ∀ H' z, Sb a H H' → BagAt a c H' → Pz z → Q (.str z) H') : sp__law_of K [.ref a, .ref p] (upd H p (.lst (zs.map V.str))) Q E := by
  refine ⟨a, c, p, _, rfl, hb.new hp, (hb.na hp).symm, upd_same, fun e => hn ?_, by rw [List.length_map]; exact hl, fun H' x sb hb' hx => ?_⟩
  · rw [List.map_eq_nil_iff.mp e]; rfl
  · obtain ⟨z, hd, rfl⟩ := List.mem_map.mp hx
    exact q H' z (fun b o n e => sb b o n (upd_at (ne_of_none e hp) e)) hb' (hz z hd)
theorem x_trS {K : PySem.W.Frag} {H : Hp} {P : Bool → Prop} {z : Str} (hz : z.length ≤ 100000) (q : P (!decide (z.length = 0))) : ∃ k, TruV K (.str z) H k ∧ P k := by
  refine ⟨_, ⟨Nat.le_trans hz (by decide), rfl⟩, ?_⟩
  have e : ((z.length : Int) != 0) = !decide (z.length = 0) := by
    by_cases h : z.length = 0
    · rw [h]; rfl
    · rw [decide_eq_false h]
      exact bne_iff_ne.mpr (by omega)
  rw [e]; exact q
theorem joinL_nil : ∀ L : List (List Nat), TL.joinL [] L = L.flatten
  | [] => rfl
  | [p] => by show p = [p].flatten; simp
  | p :: r :: s => by
    show p ++ ([] ++ TL.joinL [] (r :: s)) = _
    rw [List.nil_append, joinL_nil (r :: s), List.flatten_cons (L := r :: s)]
theorem tl_joined (ys : List Str) : tl (Txt.join "" ys) = (ys.map tl).flatten := by
  rw [TL.join_eq]
  show TL.tl _ = _
  rw [TL.tl_join, show TL.tl ("" : Str) = [] by decide +kernel, joinL_nil]
theorem join_ok {ys : List Str} (h : ∀ y ∈ ys, ∃ d, d ∈ L6 ∧ y = ⟨#[d]⟩) : okL (tl (Txt.join "" ys)) ∧ (Txt.join "" ys).length = ys.length := by
  rw [← tl_len, tl_joined]
  induction ys with
  | nil => exact ⟨(fun c hc => by cases hc), rfl⟩
  | cons y ys ih =>
    obtain ⟨d, hd, rfl⟩ := h y (.head _)
    obtain ⟨i1, i2⟩ := ih (fun z hz => h z (.tail _ hz))
    rw [List.map_cons, List.flatten_cons]
    refine ⟨fun c hc => ?_, ?_⟩
    · rcases List.mem_append.mp hc with z | z
      · have : c = d := by simpa using z
        rw [this]; exact hd
      · exact i1 c z
    · rw [List.length_append, i2]
      show 1 + ys.length = ys.length + 1
      omega
theorem sum_ones : ∀ {ys : List Str}, (∀ y ∈ ys, ∃ d, d ∈ L6 ∧ y = (⟨#[d]⟩ : Str)) → (ys.map (·.length)).sum = ys.length
  | [], _ => rfl
  | y :: ys, h => by
    obtain ⟨d, _, rfl⟩ := h y (.head _)
    rw [List.map_cons, List.sum_cons, sum_ones (fun z hz => h z (.tail _ hz))]
    show 1 + ys.length = ys.length + 1
    omega
instance (l : List Nat) : Decidable (okL l) := by unfold okL; infer_instance
theorem map_snocS (zs : List Str) (z : Str) : (zs ++ [z]).map V.str = zs.map V.str ++ [V.str z] := by rw [List.map_append]; rfl
theorem len__law_letters {K : PySem.W.Frag} {vs : List V} {H : Hp} {Q : VK} {E : XK} (h : sp__law_letters K vs H Q E) : vs.length = P__law_letters.length := by
  obtain ⟨a, c, n, rfl, _⟩ := h; rfl
theorem pure__law_letters {K : PySem.W.Frag} (vs : List V) (H : Hp) (Q : VK) (E : XK) (h : sp__law_letters K vs H Q E) : r__law_letters K { nx := fun _ H' => Q .non H', rt := Q } (start N__law_letters vs) H := by
  obtain ⟨a, c, n, rfl, hb, n0, n1, q⟩ := h
  unfold r__law_letters
  acc_peel
  refine ⟨sz (by show 10 ≤ 100000; decide), fun p0 hp0 => ?_⟩
  acc_peel
  refine x_ofT (zs := [".hHabB", "hhhHa.", "ha", "aaHhb", "hhhha", "h.", "hH", "hHaa", "bBh.a", "...hHa"]) (Pz := fun z => z.length ≠ 0 ∧ z.length ≤ 1000 ∧ okL (tl z)) hb hp0 (by decide) (by decide) (by decide +kernel) (fun H1 z sb1 hb1 hz => ?_)
  acc_peel
  refine e_lc ?_
  refine i_rng1 ?_
  acc_peel
  refine ⟨n, rfl, by omega, by omega, fun D hD => lc_range (lo := 0) (n := n.toNat) (fun i H' => Sb a H1 H' ∧ BagAt a c H' ∧ ∃ ys : List Str, H' D = some (.lst (ys.map V.str)) ∧ ys.length = i ∧ ∀ y ∈ ys, ∃ d, d ∈ L6 ∧ y = ⟨#[d]⟩)
    ⟨Sb.new (Sb.refl a H1) hD, hb1.new hD, [], upd_same, rfl, (fun _ h => nomatch h)⟩ ?_ ?_⟩
  · rintro i H2 hi ⟨sb2, hb2, ys, h2, el, hy⟩
    have nDa := hb1.na hD
    have nDc := hb1.nc hD
    refine g_name ⟨rfl, ?_⟩
    acc_peel
    refine ⟨a, c, z, rfl, hb2, hz.1, hz.2.1, fun H3 d sb3 hb3 hd => ?_⟩
    have h3 := sb3 _ _ nDa.symm h2
    refine ⟨_, h3, szl (by rw [List.length_map]; omega), Sb.mut (sb2.trans sb3) hD, hb3.mut nDa nDc, ys ++ [⟨#[d]⟩], by rw [upd_same, map_snocS], by rw [List.length_append, el]; rfl, fun y hy' => ?_⟩
    rcases List.mem_append.mp hy' with w | w
    · exact hy y w
    · exact ⟨d, hz.2.2 d hd, List.mem_singleton.mp w⟩
  · rintro H2 ⟨sb2, hb2, ys, h2, el, hy⟩
    acc_peel
    obtain ⟨o1, o2⟩ := join_ok hy
    refine ⟨_, D, ys, rfl, rfl, .inl (SqL.at h2), ?_, ?_⟩
    · rw [sum_ones hy, show (Str.ofString "").length = 0 by decide]
      omega
    · exact q H2 _ (sb1.trans sb2) hb2 o1 (by rw [o2, el]; omega)
theorem len__law_line {K : PySem.W.Frag} {vs : List V} {H : Hp} {Q : VK} {E : XK} (h : sp__law_line K vs H Q E) : vs.length = P__law_line.length := by
  obtain ⟨a, c, l, m, rfl, _⟩ := h; rfl
theorem okL_app {x y : List Nat} (hx : okL x) (hy : okL y) : okL (x ++ y) := fun c hc => by
  rcases List.mem_append.mp hc with z | z
  · exact hx c z
  · exact hy c z
theorem pure__law_line {K : PySem.W.Frag} (vs : List V) (H : Hp) (Q : VK) (E : XK) (h : sp__law_line K vs H Q E) : r__law_line K { nx := fun _ H' => Q .non H', rt := Q } (start N__law_line vs) H := by
  obtain ⟨a, c, l, m, rfl, hb, l0, lm, m1, q⟩ := h
  unfold r__law_line
  acc_peel
  refine ⟨a, c, _, rfl, hb, by omega, by omega, fun H1 d1 sb1 hb1 d10 d11 => ?_⟩
  acc_peel
  refine ⟨a, c, _, rfl, hb1, by omega, by omega, fun H2 d2 sb2 hb2 d20 d21 => ?_⟩
  acc_peel
  refine x_max (fun w w1 w2 w3 => ?_)
  acc_peel
  have sb12 := sb1.trans sb2
  generalize hsz : l + w = n
  have n0 : 0 ≤ n := by omega
  have n1 : n ≤ m := by omega
  refine ⟨a, c, _, rfl, hb2, by decide, by decide, fun H3 d3 sb3 hb3 d30 d31 => ?_⟩
  refine x_trI ?_
  refine i_ndec (fun _ => ?_) (fun _ => ?_)
  · acc_peel
    refine ⟨a, c, n, rfl, hb3, n0, by omega, fun H4 z sb4 hb4 ok hz => ?_⟩
    exact q H4 z ((sb12.trans sb3).trans sb4) hb4 ok (by omega)
  acc_peel
  refine ⟨sz (by show 12 ≤ 100000; decide), fun p0 hp0 => ?_⟩
  acc_peel
  refine x_ofT (zs := ["hah", "Hh", "aahhh", "haHhhb.h", "hhh.", "hHh.", "hhaH", "hhaHaa", "ahh", "aHHh", "hahahh", "abhBh"]) (Pz := fun z => z.length ≤ 100 ∧ okL (tl z)) hb3 hp0 (by decide) (by decide) (by decide +kernel) (fun H4 pc sb4 hb4 hpc => ?_)
  acc_peel
  refine ⟨a, c, _, rfl, hb4, by omega, by omega, fun H5 d5 sb5 hb5 d50 d51 => ?_⟩
  acc_peel
  refine ⟨a, c, d5, rfl, hb5, d50, by omega, fun H6 bf sb6 hb6 okb hbf => ?_⟩
  acc_peel
  refine r_addS (sz (by have := hpc.1; omega)) ?_
  acc_peel
  refine ⟨a, c, n, rfl, hb6, n0, by omega, fun H7 z sb7 hb7 ok hz => ?_⟩
  acc_peel
  refine r_addS (sz (by rw [str_app_len]; have := hpc.1; omega)) ?_
  acc_peel
  refine r_slS (by rw [str_app_len, str_app_len]; have := hpc.1; omega) ?_
  have oka : okL (tl ((bf ++ pc) ++ z)) := by
    show okL (TL.tl _)
    rw [TL.tl_append, TL.tl_append]
    exact okL_app (okL_app okb hpc.2) ok
  have hn : n = ((n.toNat : Nat) : Int) := by omega
  refine q H7 _ ((((((sb12.trans sb3).trans sb4).trans sb5).trans sb6).trans sb7)) hb7 ?_ ?_
  · rw [tl_cut]
    exact fun c hc => oka c (List.mem_of_mem_drop (List.mem_of_mem_take hc))
  · rw [hn, ← tl_len, tl_cut, HT.sIx_none, HT.sIx_nat, List.length_take]
    omega
theorem len__law_text {K : PySem.W.Frag} {vs : List V} {H : Hp} {Q : VK} {E : XK} (h : sp__law_text K vs H Q E) : vs.length = P__law_text.length := by
  obtain ⟨z, rfl, _⟩ := h; rfl
theorem pure__law_text {K : PySem.W.Frag} (vs : List V) (H : Hp) (Q : VK) (E : XK) (h : sp__law_text K vs H Q E) : r__law_text K { nx := fun _ H' => Q .non H', rt := Q } (start N__law_text vs) H := by
  obtain ⟨z, rfl, hl, q⟩ := h
  unfold r__law_text
  acc_peel
  refine x_trS (by omega) ?_
  refine i_ndec (fun h => ?_) (fun h => ?_)
  · acc_peel
    rw [if_neg h] at q
    exact q
  · acc_peel
    rw [if_pos h] at q
    exact q
theorem len__law_over {K : PySem.W.Frag} {vs : List V} {H : Hp} {Q : VK} {E : XK} (h : sp__law_over K vs H Q E) : vs.length = P__law_over.length := by
  obtain ⟨z, lo, hi, rfl, _⟩ := h; rfl
theorem stp_a {c : Nat} (h : c = 97) : stp c = 1 := if_pos h
theorem stp_h {c : Nat} (n : ¬ c = 97) (h : c = 104 ∨ c = 72) : stp c = -1 := by unfold stp; rw [if_neg n, if_pos h]
theorem stp_o {c : Nat} (n : ¬ c = 97) (h : ¬ (c = 104 ∨ c = 72)) : stp c = 0 := by unfold stp; rw [if_neg n, if_neg h]

theorem tl_seg {z : Str} {lo hi : Nat} (h1 : 1 ≤ lo) (h2 : lo ≤ hi + 1) (h3 : hi ≤ z.length) : tl (cutS z (some ((lo : Int) - 1)) (some (hi : Int))) = seg (tl z) lo hi := by
  rw [tl_cut, show (lo : Int) - 1 = ((lo - 1 : Nat) : Int) by omega, HT.sIx_nat, HT.sIx_nat, Nat.min_eq_left h3, Nat.min_eq_left (by omega)]; rfl

theorem pure__law_over {K : PySem.W.Frag} (vs : List V) (H : Hp) (Q : VK) (E : XK) (h : sp__law_over K vs H Q E) : r__law_over K { nx := fun _ H' => Q .non H', rt := Q } (start N__law_over vs) H := by
  obtain ⟨z, lo, hi, rfl, hl, l1, l2, l3, q⟩ := h
  have e := tl_seg l1 l2 l3
  have hlen : (cutS z (some ((lo : Int) - 1)) (some (hi : Int))).length = hi - (lo - 1) := by
    rw [← tl_len, e]; unfold seg; rw [List.length_take, List.length_drop, tl_len]; omega
  unfold r__law_over
  acc_peel
  refine s_for ?_
  refine i_str ?_
  acc_peel
  refine r_slS (by omega) ?_
  refine ⟨_, rfl, for_it walk_text (fun i σ H' => H = H' ∧ ∃ v1 : Option V, σ = [some (.str z), some (.int (lo : Int)), some (.int (hi : Int)), some (.int (S (tl z) (lo - 1 + i) - S (tl z) (lo - 1))), v1]) ⟨rfl, none, by rw [Nat.add_zero, Int.sub_self]; rfl⟩ (fun _ _ _ _ _ => trivial) ?_ ?_⟩
  · rintro i x σ H1 H2 hi ⟨rfl, v1, rfl⟩ ⟨rfl, c, hc, rfl⟩
    rw [e] at hc
    have hc2 : (tl z)[lo - 1 + i]? = some c := by
      unfold seg at hc
      rw [List.getElem?_take_of_lt (by omega), List.getElem?_drop] at hc
      exact hc
    have es := S_succ hc2
    acc_peel
    rw [str1 c 97 _ e_a]
    refine i_dec (fun h => ?_) (fun h1 => ?_)
    · acc_peel
      rw [stp_a h] at es
      exact ⟨rfl, _, by rw [← Nat.add_assoc, es]; show [_, _, _, some (V.int _), _] = _; rw [show S (tl z) (lo - 1 + i) - S (tl z) (lo - 1) + 1 = S (tl z) (lo - 1 + i) + 1 - S (tl z) (lo - 1) by omega]⟩
    acc_peel
    rw [str1 c 104 _ e_h]
    refine i_dec (fun h => ?_) (fun h2 => ?_)
    · acc_peel
      rw [stp_h h1 (.inl h)] at es
      exact ⟨rfl, _, by rw [← Nat.add_assoc, es]; show [_, _, _, some (V.int _), _] = _; rw [show S (tl z) (lo - 1 + i) - S (tl z) (lo - 1) + -1 = S (tl z) (lo - 1 + i) + -1 - S (tl z) (lo - 1) by omega]⟩
    acc_peel
    rw [str1 c 72 _ e_H]
    refine i_dec (fun h => ?_) (fun h3 => ?_)
    · acc_peel
      rw [stp_h h1 (.inr h)] at es
      exact ⟨rfl, _, by rw [← Nat.add_assoc, es]; show [_, _, _, some (V.int _), _] = _; rw [show S (tl z) (lo - 1 + i) - S (tl z) (lo - 1) + -1 = S (tl z) (lo - 1 + i) + -1 - S (tl z) (lo - 1) by omega]⟩
    · acc_peel
      rw [stp_o h1 (by rintro (z | z); exact h2 z; exact h3 z)] at es
      exact ⟨rfl, _, by rw [← Nat.add_assoc, es]; show [_, _, _, some (V.int _), _] = _; rw [show S (tl z) (lo - 1 + i) - S (tl z) (lo - 1) + 0 = S (tl z) (lo - 1 + i) + 0 - S (tl z) (lo - 1) by omega]⟩
  · rintro σ H1 ⟨rfl, v1, rfl⟩
    acc_peel
    rw [hlen, show lo - 1 + (hi - (lo - 1)) = hi by omega]
    exact q
/-- behind the turn i the list holds the least of the ends from n - i on -/
structure Beh (l : List Nat) (i : Nat) (bs : List Int) : Prop where
  len : bs.length = l.length + 1
  old : ∀ j : Nat, j + i < l.length → bs[j]? = some (-(S l j))
  new : ∀ (j : Nat) (v : Int), l.length ≤ j + i → bs[j]? = some v → (∃ k : Nat, j ≤ k ∧ k ≤ l.length ∧ v = -(S l k)) ∧ ∀ k : Nat, j ≤ k → k ≤ l.length → v ≤ -(S l k)
theorem Beh.start (l : List Nat) : Beh l 0 ((List.range (l.length + 1)).map fun j => -(S l j)) := by
  have g : ∀ j : Nat, j < l.length + 1 → ((List.range (l.length + 1)).map fun j => -(S l j))[j]? = some (-(S l j)) := fun j hj => by
    rw [List.getElem?_map, List.getElem?_range hj]; rfl
  refine ⟨by rw [List.length_map, List.length_range], fun j hj => g j (by omega), fun j v hj hv => ?_⟩
  have hl := (List.getElem?_eq_some_iff.mp hv).1
  rw [List.length_map, List.length_range] at hl
  have ej : j = l.length := by omega
  subst ej
  rw [g _ (by omega)] at hv
  have := Option.some.inj hv
  exact ⟨⟨l.length, Nat.le_refl _, Nat.le_refl _, this.symm⟩, fun k h1 h2 => by have : k = l.length := by omega
                                                                                rw [this]; omega⟩
theorem Beh.step {l : List Nat} {i j : Nat} {bs : List Int} {v m : Int} (b : Beh l i bs) (hj : j + i + 1 = l.length) (hv : bs[j + 1]? = some v) (h1 : m ≤ -(S l j)) (h2 : m ≤ v) (h3 : m = -(S l j) ∨ m = v) : Beh l (i + 1) (bs.set j m) := by
  obtain ⟨⟨k0, k1, k2, k3⟩, g⟩ := b.new (j + 1) v (by omega) hv
  have hjl : j < bs.length := by rw [b.len]; omega
  refine ⟨by rw [List.length_set, b.len], fun k hk => ?_, fun k w hk hw => ?_⟩
  · rw [List.getElem?_set_ne (by omega)]
    exact b.old k (by omega)
  · by_cases e : j = k
    · subst e
      rw [List.getElem?_set_self hjl] at hw
      have : m = w := Option.some.inj hw
      subst this
      refine ⟨?_, fun q q1 q2 => ?_⟩
      · rcases h3 with z | z
        · exact ⟨j, Nat.le_refl _, by omega, z⟩
        · exact ⟨k0, by omega, k2, by rw [z]; exact k3⟩
      · by_cases eq : q = j
        · rw [eq]; exact h1
        · exact Int.le_trans h2 (g q (by omega) q2)
    · rw [List.getElem?_set_ne e] at hw
      exact b.new k w (by omega) hw
/-- the greatest of the beginnings -/
structure Top (l : List Nat) (i : Nat) (t : Int) : Prop where
  pos : 0 ≤ t
  ge : ∀ j : Nat, j < i → -(S l j) ≤ t
  is : t = 0 ∨ ∃ j : Nat, j < i ∧ t = -(S l j)
theorem Top.step {l : List Nat} {i : Nat} {t m : Int} (h : Top l i t) (h1 : t ≤ m) (h2 : -(S l i) ≤ m) (h3 : m = t ∨ m = -(S l i)) : Top l (i + 1) m := by
  refine ⟨Int.le_trans h.pos h1, fun j hj => ?_, ?_⟩
  · by_cases e : j = i
    · rw [e]; exact h2
    · exact Int.le_trans (h.ge j (by omega)) h1
  · rcases h3 with z | z
    · rcases h.is with y | ⟨j, y1, y2⟩
      · exact .inl (by rw [z]; exact y)
      · exact .inr ⟨j, by omega, by rw [z]; exact y2⟩
    · exact .inr ⟨i, by omega, z⟩
theorem Top.at {l : List Nat} {i : Nat} {t : Int} (h : Top l (i + 1) t) : ∃ j : Nat, j ≤ i ∧ t = -(S l j) := by
  rcases h.is with y | ⟨j, y1, y2⟩
  · exact ⟨0, Nat.zero_le _, by rw [y]; rfl⟩
  · exact ⟨j, by omega, y2⟩
theorem gate_fast {l : List Nat} {i : Nat} {t b : Int} {bs : List Int} (hi : i < l.length) (ht : Top l (i + 1) t) (hb : Beh l l.length bs) (hv : bs[i + 1]? = some b) : Gate l i ↔ l[i]? = some 104 ∧ t < b := by
  obtain ⟨⟨k0, k1, k2, k3⟩, g⟩ := hb.new (i + 1) b (by omega) hv
  obtain ⟨j0, j1, j2⟩ := ht.at
  refine ⟨fun w => ⟨w.1, ?_⟩, fun ⟨h1, h2⟩ => ⟨h1, fun j k hj hk hn => ?_⟩⟩
  · have := w.2 j0 k0 j1 (by omega) k2
    omega
  · have z1 := ht.ge j (by omega)
    have z2 := g k (by omega) hn
    omega
theorem len__law_gates_fast {K : PySem.W.Frag} {vs : List V} {H : Hp} {Q : VK} {E : XK} (h : sp__law_gates_fast K vs H Q E) : vs.length = P__law_gates_fast.length := by
  obtain ⟨z, rfl, _⟩ := h; rfl
theorem i_revR {ta : TE} {σ : L2.St} {H : Hp} {R : It → Hp → Prop} (h : ta σ H fun x H1 => ∃ n : Int, x = .int n ∧ (-(2 ^ 62) ≤ (0 : Int) ∧ (0 : Int) < 2 ^ 62 ∧ -(2 ^ 62) ≤ n ∧ n < 2 ^ 62 ∧ R (Itc (0 + (((n - 0).toNat : Nat) : Int) - 1) (-1) (n - 0).toNat) H1)) : iRevR (tRg1 ta) σ H R := h
theorem step_val {i : Nat} {σ : L2.St} {H : Hp} {Q : VK} {c : Nat} (hσ : σ[i]? = some (some (.str ⟨#[c]⟩))) (q : Q (.int (-(stp c))) H) :
    tIf (tOr (tTest (tOp rEq (tVar i) (tC (.str "h")))) (tTest (tOp rEq (tVar i) (tC (.str "H"))))) (tC (.int 1)) (tIf (tTest (tOp rEq (tVar i) (tC (.str "a")))) (tUn uNeg (tC (.int 1))) (tC (.int 0))) σ H Q := by
  refine e_if (t_or (t_test (e_op (e_var hσ (e_c (r_eqS (x_blE ?_)))))))
  rw [str1 c 104 _ e_h]
  have n97 : ∀ h : c = 104 ∨ c = 72, ¬ c = 97 := by rintro (h | h) <;> omega
  refine i_dec (fun h => ?_) (fun h2 => ?_)
  · refine i_t (e_c ?_)
    rw [stp_h (n97 (.inl h)) (.inl h)] at q
    exact q
  refine t_test (e_op (e_var hσ (e_c (r_eqS (x_blE ?_)))))
  rw [str1 c 72 _ e_H]
  refine i_dec (fun h => ?_) (fun h3 => ?_)
  · refine e_c ?_
    rw [stp_h (n97 (.inr h)) (.inr h)] at q
    exact q
  refine e_if (t_test (e_op (e_var hσ (e_c (r_eqS (x_blE ?_))))))
  rw [str1 c 97 _ e_a]
  refine i_dec (fun h => ?_) (fun h1 => ?_)
  · refine e_un (e_c (r_neg ?_))
    rw [stp_a h] at q
    exact q
  · refine e_c ?_
    rw [stp_o h1 (by rintro (z | z); exact h2 z; exact h3 z)] at q
    exact q
theorem pure__law_gates_fast {K : PySem.W.Frag} (vs : List V) (H : Hp) (Q : VK) (E : XK) (h : sp__law_gates_fast K vs H Q E) : r__law_gates_fast K { nx := fun _ H' => Q .non H', rt := Q } (start N__law_gates_fast vs) H := by
  obtain ⟨z, rfl, hl, q⟩ := h
  have tl1 := tl_len z
  unfold r__law_gates_fast
  acc_peel
  refine ⟨sz (by show 1 ≤ 100000; decide), fun s hs => ?_⟩
  acc_peel
  refine s_for ?_
  refine i_str ?_
  acc_peel
  refine ⟨z, rfl, for_it walk_text (fun i σ H' => Same H H' ∧ H' s = some (.lst (((List.range (i + 1)).map fun j => -(S (tl z) j)).map V.int)) ∧ ∃ v1 v2 : Option V, σ = [some (.str z), some (.ref s), v1, v2, none, none, none, none, none, none]) ⟨Same.new (Same.refl H) hs, upd_same, none, none, rfl⟩ (fun _ _ _ _ _ => trivial) ?_ ?_⟩
  · rintro i x σ H1 H2 hi ⟨sm, h1, v1, v2, rfl⟩ ⟨rfl, c, hc, rfl⟩
    have es := S_succ hc
    have hlen : ((((List.range (i + 1)).map fun j => -(S (tl z) j)).map V.int).length : Int) - 1 = (i : Int) := by rw [List.length_map, List.length_map, List.length_range]; omega
    have hat : (((List.range (i + 1)).map fun j => -(S (tl z) j)).map V.int)[i]? = some (.int (-(S (tl z) i))) := by
      rw [List.getElem?_map, List.getElem?_map, List.getElem?_range (by omega)]; rfl
    refine g_name ?_
    refine s_seq (s_asg (step_val rfl ?_))
    acc_peel
    refine r_ixLk (SqL.at h1) hlen hat ?_
    acc_peel
    refine r_app h1 (szl (by rw [List.length_map, List.length_map, List.length_range]; omega)) ?_
    refine ⟨Same.mut sm hs, ?_, _, _, rfl⟩
    rw [upd_same, range_snoc (n := i + 1), map_snocI, es, Int.neg_add]
  rintro σ H1 ⟨sm1, h1, v1, v2, rfl⟩
  acc_peel
  generalize hS0 : (List.range (z.length + 1)).map (fun j => -(S (tl z) j)) = ns at h1
  have hns : Beh (tl z) 0 ns := by rw [← hS0, ← tl1]; exact Beh.start _
  have hnv : ∀ j : Nat, j ≤ z.length → ns[j]? = some (-(S (tl z) j)) := fun j hj => by
    rw [← hS0, List.getElem?_map, List.getElem?_range (by omega)]; rfl
  refine e_lc ?_
  refine i_list ?_
  acc_peel
  refine ⟨s, rfl, ⟨_, SqL.at h1⟩, fun D hD => lc_list (K := K) (a := s) (xs := ns.map V.int) (fun i H' => Same H1 H' ∧ H' D = some (.lst ((ns.take i).map V.int))) ⟨Same.new (Same.refl H1) hD, upd_same⟩ (fun i H' _ h => SqL.at (h.1 _ _ h1)) ?_ ?_⟩
  · rintro i x H2 hx ⟨sm, h2⟩
    obtain ⟨n, rfl, hn⟩ := mapI_get hx
    have hil : i < ns.length := (List.getElem?_eq_some_iff.mp hn).1
    have nl := hns.len
    refine g_name ⟨rfl, ?_⟩
    acc_peel
    refine ⟨_, h2, szl (by rw [List.length_map, List.length_take]; omega), Same.mut sm hD, ?_⟩
    rw [upd_same, List.take_succ, hn, List.map_append]; rfl
  rintro H2 ⟨sm2, h2⟩
  rw [List.length_map, List.take_of_length_le (Nat.le_refl _)] at h2
  have hDH : H D = none := sm1.free hD
  have h21 := sm2 _ _ h1
  have nsD : s ≠ D := ne_of_none h1 hD
  acc_peel
  refine s_for ?_
  refine i_revR ?_
  acc_peel
  refine b_lenS (by omega) ?_
  refine ⟨_, rfl, by decide, by decide, by omega, by omega, for_rangeC (lo := 0 + ((((z.length : Int) - 0).toNat : Nat) : Int) - 1) (c := -1) (n := ((z.length : Int) - 0).toNat) (fun i σ H' => Same H H' ∧ H' s = some (.lst (ns.map V.int)) ∧ ∃ (bs : List Int) (v5 v6 : Option V), H' D = some (.lst (bs.map V.int)) ∧ Beh (tl z) i bs ∧ σ = [some (.str z), some (.ref s), v1, v2, some (.ref D), v5, v6, none, none, none])
    ⟨sm1.trans sm2, h21, ns, none, none, h2, hns, rfl⟩ ?_ ?_⟩
  · rintro i σ H3 hi ⟨sm, g1, bs, v5, v6, g2, hb, rfl⟩
    have hk : 0 + ((((z.length : Int) - 0).toNat : Nat) : Int) - 1 + (i : Nat) * -1 = ((z.length - 1 - i : Nat) : Int) := by omega
    rw [hk]
    have bl := hb.len
    have hj : z.length - 1 - i + i + 1 = (tl z).length := by omega
    have ho := hb.old (z.length - 1 - i) (by omega)
    obtain ⟨v, hv⟩ : ∃ v, bs[z.length - 1 - i + 1]? = some v := ⟨_, List.getElem?_eq_getElem (by omega)⟩
    acc_peel
    refine r_ixLk (SqL.at g2) rfl (mapI_at ho) ?_
    acc_peel
    refine r_ixLk (SqL.at g2) (k := z.length - 1 - i + 1) (by omega) (mapI_at hv) ?_
    acc_peel
    refine x_min (fun m m1 m2 m3 => ?_)
    acc_peel
    refine r_set g2 (by omega) (Int.toNat_natCast _) (by rw [List.length_map]; omega) ?_
    refine ⟨Same.mut sm hDH, upd_at nsD g1, bs.set (z.length - 1 - i) m, _, _, ?_, hb.step hj hv m1 m2 m3, rfl⟩
    rw [upd_same, List.map_set]
  rintro σ H3 ⟨sm3, g1, bs, v5, v6, g2, hb, rfl⟩
  rw [show ((z.length : Int) - 0).toNat = (tl z).length by omega] at hb
  acc_peel
  refine ⟨sz (by show 0 ≤ 100000; decide), fun r hr => ?_⟩
  have hrH : H r = none := sm3.free hr
  have nsr : s ≠ r := ne_of_none g1 hr
  have nDr : D ≠ r := ne_of_none g2 hr
  acc_peel
  refine s_for ?_
  refine i_rng2 ?_
  acc_peel
  refine b_lenS (by omega) ?_
  acc_peel
  refine ⟨_, _, rfl, by omega, for_range (lo := 1) (n := ((z.length : Int) + 1 - 1).toNat) (fun i σ H' => Same H H' ∧ H' s = some (.lst (ns.map V.int)) ∧ H' D = some (.lst (bs.map V.int)) ∧ H' r = some (.lst ((gatesUp (tl z) i).map V.int)) ∧ ∃ (t : Int) (v9 : Option V), Top (tl z) i t ∧ σ = [some (.str z), some (.ref s), v1, v2, some (.ref D), v5, v6, some (.ref r), some (.int t), v9])
    ⟨Same.new sm3 hr, upd_at nsr g1, upd_at nDr g2, upd_same, 0, none, ⟨Int.le_refl _, fun j hj => absurd hj (Nat.not_lt_zero _), .inl rfl⟩, rfl⟩ ?_ ?_⟩
  · rintro i σ H4 hi ⟨sm, f1, f2, f3, t, v9, ht, rfl⟩
    have hil : i < z.length := by omega
    have hit : i < (tl z).length := by omega
    obtain ⟨c, hc⟩ : ∃ c, (tl z)[i]? = some c := ⟨_, List.getElem?_eq_getElem hit⟩
    have hcz : z.cps[i]? = some c := by rw [← Array.getElem?_toList]; exact hc
    obtain ⟨b, hbv⟩ : ∃ b, bs[i + 1]? = some b := ⟨_, List.getElem?_eq_getElem (by rw [hb.len]; omega)⟩
    acc_peel
    refine r_ixLk (SqL.at f1) (k := i) (by omega) (mapI_at (hnv i (by omega))) ?_
    acc_peel
    refine x_max (fun t2 t21 t22 t23 => ?_)
    have ht2 := ht.step t21 t22 t23
    have gi := gate_fast hit ht2 hb hbv
    acc_peel
    refine r_itemS (c := c) (by omega) (by omega) (sz (by omega)) (by rw [show (1 + (i : Int) - 1).toNat = i by omega]; exact hcz) ?_
    acc_peel
    rw [str1 c 104 _ e_h]
    refine i_dec (fun hc4 => ?_) (fun hc4 => ?_)
    · acc_peel
      refine r_ixLk (SqL.at f2) (k := i + 1) (by omega) (mapI_at hbv) ?_
      acc_peel
      refine i_dec (fun hab => ?_) (fun hab => ?_)
      · acc_peel
        refine r_app f3 (szl (by rw [List.length_map]; have := gatesUp_len (tl z) i; omega)) ?_
        refine ⟨Same.mut sm hrH, upd_at nsr f1, upd_at nDr f2, ?_, t2, _, ht2, rfl⟩
        rw [upd_same, gatesUp_yes (gi.mpr ⟨by rw [hc, hc4], hab⟩), map_snocI, Int.add_comm]
      · acc_peel
        refine ⟨sm, f1, f2, ?_, t2, _, ht2, rfl⟩
        rw [gatesUp_no (fun g => hab (gi.mp g).2)]
        exact f3
    · acc_peel
      refine ⟨sm, f1, f2, ?_, t2, _, ht2, rfl⟩
      rw [gatesUp_no (fun g => hc4 (by have := g.1; rw [hc] at this; exact Option.some.inj this))]
      exact f3
  · rintro σ H4 ⟨sm, f1, f2, f3, t, v9, ht, rfl⟩
    acc_peel
    refine q H4 r hrH sm ?_
    rw [f3, show ((z.length : Int) + 1 - 1).toNat = (tl z).length by omega]; rfl
theorem cnt_bal : ∀ {l : List Nat}, okL l → fls l - trs l = (l.map stp).sum
  | [], _ => rfl
  | c :: l, h => by
    have ih := cnt_bal (l := l) (fun d hd => h d (.tail _ hd))
    have hc : ((if falseN c then (1 : Int) else 0) - (if handsN c > 0 then (1 : Int) else 0)) = stp c := by
      rcases L6_cases (h c (.head _)) with rfl | rfl | rfl | rfl | rfl | rfl <;> decide
    show ((if falseN c then (1 : Int) else 0) + fls l) - ((if handsN c > 0 then (1 : Int) else 0) + trs l) = stp c + (l.map stp).sum
    omega
theorem S_add {l : List Nat} {a b : Nat} (h : a ≤ b) : S l b = S l a + (((l.drop a).take (b - a)).map stp).sum := by
  unfold S
  have e : l.take b = l.take a ++ (l.drop a).take (b - a) := by
    rw [← List.take_append_drop a (l.take b), List.take_take, List.drop_take, Nat.min_eq_left h]
  rw [e, List.map_append, List.sum_append]
theorem like_pair {K : PySem.W.Frag} {H : Hp} {a b : Addr} {i j : Int} (ha : H a = some (.tup [.int i, .int j])) (hb : H b = some (.tup [.int i, .int j])) : Like K H 1 (.ref a) (.ref b) := by
  refine .tup ha hb rfl (by show 2 ≤ 1000; decide) fun k x y hx hy => ?_
  match k, hx, hy with
  | 0, hx, hy => cases hx; cases hy; exact .int i
  | 1, hx, hy => cases hx; cases hy; exact .int j
theorem rch_inv (l : List Nat) : ∀ i : Nat, i ≤ l.length → (∃ j : Nat, j ≤ i ∧ rch (l.take i) = S l i - S l j) ∧ ∀ j : Nat, j ≤ i → S l i - S l j ≤ rch (l.take i)
  | 0, _ => ⟨⟨0, Nat.le_refl _, rfl⟩, fun j hj => by have : j = 0 := by omega
                                                     rw [this]; exact Int.le_refl _⟩
  | i + 1, h => by
    obtain ⟨⟨j0, j1, j2⟩, g⟩ := rch_inv l i (by omega)
    obtain ⟨c, hc⟩ : ∃ c, l[i]? = some c := ⟨_, List.getElem?_eq_getElem (by omega)⟩
    have g0 := g i (Nat.le_refl _)
    rw [rch_succ hc, S_succ hc]
    unfold nr
    by_cases h1 : c = 97
    · rw [if_pos h1, stp_a h1]
      refine ⟨⟨j0, by omega, by omega⟩, fun j hj => ?_⟩
      by_cases e : j = i + 1
      · rw [e, S_succ hc, stp_a h1]; omega
      · have := g j (by omega); omega
    rw [if_neg h1]
    by_cases h2 : c = 104 ∨ c = 72
    · rw [if_pos h2, stp_h h1 h2]
      by_cases h3 : 0 > rch (l.take i) - 1
      · rw [if_pos h3]
        refine ⟨⟨i + 1, Nat.le_refl _, by rw [S_succ hc, stp_h h1 h2]; omega⟩, fun j hj => ?_⟩
        by_cases e : j = i + 1
        · rw [e, S_succ hc, stp_h h1 h2]; omega
        · have := g j (by omega); omega
      · rw [if_neg h3]
        refine ⟨⟨j0, by omega, by omega⟩, fun j hj => ?_⟩
        by_cases e : j = i + 1
        · rw [e, S_succ hc, stp_h h1 h2]; omega
        · have := g j (by omega); omega
    · rw [if_neg h2, stp_o h1 h2]
      refine ⟨⟨j0, by omega, by omega⟩, fun j hj => ?_⟩
      by_cases e : j = i + 1
      · rw [e, S_succ hc, stp_o h1 h2]; omega
      · have := g j (by omega); omega
theorem num_end (l : List Nat) (o : Bool) : numF l o (l.length + 1) = (rch l, rch l) := by
  unfold numF
  rw [Nat.add_sub_cancel, List.drop_of_length_le (Nat.le_refl _), List.take_of_length_le (Nat.le_refl _)]; rfl
theorem text_ok {z : Str} (ok : okL (tl z)) (hl : z.length ≤ 40) : RotaText (if z.length = 0 then "-" else z) ∧ lettersOf (if z.length = 0 then "-" else z) = z ∧ (if z.length = 0 then ("-" : Str) else z).length ≤ 40 := by
  by_cases h : z.length = 0
  · rw [if_pos h]
    refine ⟨.inl rfl, ?_, by decide⟩
    have e : z = "" := TL.ext_tl (by
      have : (tl z).length = 0 := by rw [tl_len]; exact h
      rw [show TL.tl z = [] from List.length_eq_zero_iff.mp this]; decide +kernel)
    rw [e]; decide +kernel
  · rw [if_neg h]
    have n1 : z ≠ "" := fun e => h (by rw [e]; decide)
    have n2 : z ≠ "-" := fun e => by
      rw [e] at ok
      exact absurd (ok 45 (by decide +kernel)) (by decide)
    refine ⟨.inr ⟨n1, ok⟩, ?_, hl⟩
    unfold lettersOf
    rw [if_neg n2]
theorem x_rota {K : PySem.W.Frag} {H : Hp} {G : Addr → Hp → Prop} {E : XK} {z : Str} (hz : RotaText z) (hl : z.length ≤ 40) (q : ∀ H' p, Same H H' → RtAt K H' p (lettersOf z) → G p H') :
    ∀ x dx, H x = none → H dx = none → dx ≠ x → sp_Rota___init__ K (.ref x :: ([.str z] ++ [])) (upd (upd H dx (.own x)) x (.ins (He.ga K "Rota") dx [])) (fun v H2 => v = .non ∧ G x H2) E := by
  intro x dx hx hdx hne
  refine ⟨x, dx, z, rfl, upd_same, hz, hl, fun H' sb rt => ⟨rfl, q H' x (fun b o e => ?_) rt⟩⟩
  have n1 : b ≠ x := ne_of_none e hx
  exact sb b o n1 (upd_at n1 (upd_at (ne_of_none e hdx) e))
theorem like_ints {K : PySem.W.Frag} {H : Hp} {a b : Addr} {ns : List Int} (ha : H a = some (.lst (ns.map V.int))) (hb : H b = some (.lst (ns.map V.int))) (hl : ns.length ≤ 1000) : Like K H 1 (.ref a) (.ref b) := by
  refine .lst ha hb rfl (by rw [List.length_map]; exact hl) fun k x y hx hy => ?_
  rw [hx] at hy
  obtain ⟨n, rfl, _⟩ := mapI_get hx
  cases hy
  exact .int n
theorem gatesF_len (l : List Nat) : (gatesF l).length ≤ l.length := gatesUp_len l l.length
theorem BagAt.mono {a c : Addr} {H H' : Hp} (h : BagAt a c H) (s : Same H H') : BagAt a c H' := by
  obtain ⟨cs, i, r, m, k, h1, nc, h2, x⟩ := h
  exact ⟨cs, i, r, m, k, s _ _ h1, nc, s _ _ h2, x⟩
theorem len_law {K : PySem.W.Frag} {vs : List V} {H : Hp} {Q : VK} {E : XK} (h : sp_law K vs H Q E) : vs.length = P_law.length := by
  obtain ⟨a, ns, rfl, _⟩ := h; rfl

theorem pure__law_like0 {K : PySem.W.Frag} (vs : List V) (H : Hp) (Q : VK) (E : XK) (h : sp__law_like0 K vs H Q E) : r__law_like0 K { nx := fun _ H' => Q .non H', rt := Q } (start N__law_like0 vs) H := by
  obtain ⟨x, y, rfl, h, q⟩ := h
  show r_likeG (sp__law_likeZ K) K (DQ Q) (start N__law_like0 [x, y]) H
  cases h with
  | int i => exact like_int q
  | bl b => exact like_bl q
  | str z => exact like_str q
  | non => exact like_non q
theorem nms_fst (o : Bool) : ∀ (m : List Nat) (p : Int × Int), (nms o m p).1 = m.foldl (fun r c => nr c r) p.1
  | [], _ => rfl
  | c :: m, p => nms_fst o m (nr c p.1, nm c o p.1 p.2)
theorem numF_fst (l : List Nat) (o : Bool) (s : Nat) : (numF l o s).1 = rch l := by
  unfold numF
  rw [nms_fst]
  show List.foldl _ (rch (l.take (s - 1))) _ = _
  unfold rch
  rw [← List.foldl_append, List.take_append_drop]
theorem numF_succ {l : List Nat} {o : Bool} {s i c : Nat} (h1 : 1 ≤ s) (h : s ≤ i + 1) (hc : l[i]? = some c) : (numF (l.take (i + 1)) o s).2 = nm c o (rch (l.take i)) (numF (l.take i) o s).2 := by
  rw [← numF_fst (l.take i) o s]
  unfold numF
  rw [List.take_take, List.take_take, Nat.min_eq_left (by omega), Nat.min_eq_left (by omega), List.drop_take, List.drop_take, show i + 1 - (s - 1) = i - (s - 1) + 1 by omega]
  rw [nms_succ (l := l.drop (s - 1)) (i := i - (s - 1)) (c := c) (by rw [List.getElem?_drop, show s - 1 + (i - (s - 1)) = i by omega]; exact hc)]
theorem numF_new {l : List Nat} {o : Bool} {i : Nat} (hi : i ≤ l.length) : (numF (l.take i) o (i + 1)).2 = rch (l.take i) := by
  have e := num_end (l.take i) o
  rw [List.length_take, Nat.min_eq_left hi] at e
  rw [e]
theorem mrow_len (l : List Nat) (o : Bool) : (mrow l o).length = l.length + 1 := by unfold mrow; rw [List.length_map, List.length_range]
theorem mrow_at {l : List Nat} {o : Bool} {i : Nat} (h : i ≤ l.length) : (mrow l o)[i]? = some (numF l o (i + 1)).2 := by
  unfold mrow
  rw [List.getElem?_map, List.getElem?_range (by omega)]; rfl
theorem mrow_succ {l : List Nat} {o : Bool} {i c : Nat} (hc : l[i]? = some c) : mrow (l.take (i + 1)) o = (mrow (l.take i) o).map (fun m => nm c o (rch (l.take i)) m) ++ [rch (l.take (i + 1))] := by
  have hi := (List.getElem?_eq_some_iff.mp hc).1
  have e1 : (l.take (i + 1)).length = i + 1 := by rw [List.length_take]; omega
  have e2 : (l.take i).length = i := by rw [List.length_take]; omega
  unfold mrow
  rw [e1, e2, range_snoc (n := i + 1) (f := fun s => (numF (l.take (i + 1)) o (s + 1)).2), numF_new (by omega), List.map_map]
  congr 1
  refine List.map_congr_left fun s hs => ?_
  have := List.mem_range.mp hs
  exact numF_succ (by omega) (by omega) hc
theorem rch_nn (l : List Nat) {i : Nat} (h : i ≤ l.length) : 0 ≤ rch (l.take i) := by
  have := (rch_inv l i h).2 i (Nat.le_refl _)
  omega
theorem len_time_or_last {K : PySem.W.Frag} {vs : List V} {H : Hp} {Q : VK} {E : XK} (h : sp_time_or_last K vs H Q E) : vs.length = P_time_or_last.length := by
  obtain ⟨p, z, t, rfl, _⟩ := h; rfl
theorem pure_time_or_last {K : PySem.W.Frag} (vs : List V) (H : Hp) (Q : VK) (E : XK) (h : sp_time_or_last K vs H Q E) : r_time_or_last K { nx := fun _ H' => Q .non H', rt := Q } (start N_time_or_last vs) H := by
  obtain ⟨p, z, t, rfl, hp, hl, q⟩ := h
  unfold r_time_or_last
  rcases q with ⟨rfl, q⟩ | ⟨i, rfl, i0, i1, q⟩
  · acc_peel
    refine b_lenRt hp hl ?_
    exact q
  · acc_peel
    refine i_dec (fun z => absurd z (by omega)) (fun _ => ?_)
    acc_peel
    refine b_lenRt hp hl ?_
    acc_peel
    refine i_dec (fun z => absurd z (by omega)) (fun _ => ?_)
    acc_peel
    exact q
theorem mapR_get {ps : List Addr} {i : Nat} {x : V} (h : (ps.map V.ref)[i]? = some x) : ∃ p, x = V.ref p ∧ ps[i]? = some p := by
  rw [List.getElem?_map] at h
  cases e : ps[i]? with
  | none => rw [e] at h; cases h
  | some n => rw [e] at h; exact ⟨n, (Option.some.inj h).symm, rfl⟩
theorem map_snocR (ps : List Addr) (p : Addr) : (ps ++ [p]).map V.ref = ps.map V.ref ++ [V.ref p] := by rw [List.map_append]; rfl
theorem cut_to_len {z : Str} {n : Nat} (h : n ≤ z.length) : (cutS z none (some (n : Int))).length = n := by
  rw [← tl_len, tl_to h, List.length_take, tl_len]; omega
theorem len__holds {K : PySem.W.Frag} {vs : List V} {H : Hp} {Q : VK} {E : XK} (h : sp__holds K vs H Q E) : vs.length = P__holds.length := by
  obtain ⟨p, w, z, k, s, n, rfl, _⟩ := h; rfl
theorem pure__holds {K : PySem.W.Frag} (F : KF K) (vs : List V) (H : Hp) (Q : VK) (E : XK) (h : sp__holds K vs H Q E) : r__holds K { nx := fun _ H' => Q .non H', rt := Q } (start N__holds vs) H := by
  obtain ⟨p, w, z, k, s, n, rfl, ⟨dx, fs, hp, l1⟩, ⟨dw, fw, hw, lk, ll⟩, hl, hn, s1, s2, q⟩ := h
  have tl1 := tl_len z
  unfold r__holds
  acc_peel
  refine ⟨w, _, dw, fw, _, rfl, hw, F.cW, F.naW _ (by simp), ll, ?_⟩
  acc_peel
  refine i_dec (fun _ => ?_) (fun z => absurd rfl z)
  acc_peel
  refine ⟨p, _, dx, fs, _, rfl, hp, F.cR, F.naR _ (by simp), l1.1, ?_⟩
  acc_peel
  refine r_slS (by omega) ?_
  acc_peel
  refine ⟨w, _, dw, fw, _, rfl, hw, F.cW, F.naW _ (by simp), lk, ?_⟩
  acc_peel
  rw [ktext_once]
  have cl := cut_to_len hn
  refine ⟨_, k, s, rfl, s1, by omega, by omega, fun H1 t sm h1 => ?_⟩
  rw [tl_to hn] at h1
  acc_peel
  exact q H1 sm
theorem len_is_fixed {K : PySem.W.Frag} {vs : List V} {H : Hp} {Q : VK} {E : XK} (h : sp_is_fixed K vs H Q E) : vs.length = P_is_fixed.length := by
  obtain ⟨p, w, z, k, s, n, t, rfl, _⟩ := h; rfl
theorem pure_is_fixed {K : PySem.W.Frag} (vs : List V) (H : Hp) (Q : VK) (E : XK) (h : sp_is_fixed K vs H Q E) : r_is_fixed K { nx := fun _ H' => Q .non H', rt := Q } (start N_is_fixed vs) H := by
  obtain ⟨p, w, z, k, s, n, t, rfl, ht, hp, hw, hl, hn, s1, s2, q⟩ := h
  unfold r_is_fixed
  acc_peel
  refine ⟨p, z, _, rfl, hp, hl, ?_⟩
  have fin : (tSeq (tDrop (tCall (sp_ask_slot K) [] E0 (tCons (tVar 2) (tCons (tVar 4) tNil)))) (tRet (tCall (sp__holds K) [] E0 (tCons (tVar 0) (tCons (tVar 1) (tCons (tVar 2) (tCons (tVar 4) tNil)))))))
      { nx := fun _ H' => Q .non H', rt := Q } [some (.ref p), some (.ref w), some (.int (s : Int)), some t, some (.int (n : Int))] H := by
    acc_peel
    refine ⟨_, _, rfl, by omega, by omega, ?_⟩
    acc_peel
    exact ⟨p, w, z, k, s, n, rfl, hp, hw, hl, hn, s1, s2, q⟩
  rcases ht with rfl | ⟨rfl, hn2⟩
  · exact .inr ⟨(n : Int), rfl, by omega, by omega, fin⟩
  · subst hn2
    exact .inl ⟨rfl, fin⟩
theorem e_hlh {K : PySem.W.Frag} {i j b : Nat} {σ : L2.St} {H : Hp} {Q : VK} {z0 : Str} {a c : Addr} (hi : σ[i]? = some (some (.str z0))) (hb : ∀ v, ((wipe σ [j]).set j (some v))[b]? = some (some (.ref a))) (hj : ∀ v, ((wipe σ [j]).set j (some v))[j]? = some (some v))
    (hw : ∀ v, wipe ((wipe σ [j]).set j (some v)) [j] = wipe σ [j]) (bg : BagAt a c H) (ok0 : okL (tl z0)) (hl0 : z0.length ≤ 100) (q : ∀ H' z, Sb a H H' → BagAt a c H' → okL (tl z) → z.length = z0.length → Q (.str z) H') :
    tBM K "str" (mJoin K) (tC (.str "")) (tCons (tLc (iStr (tVar i)) (gName j) tYes (tCall (sp__law_of K) [] E0 (tCons (tVar b) (tCons (tLst (tCons (tC (.str "h")) (tCons (tVar j) (tCons (tC (.str "h")) tNil)))) tNil))) [j]) tNil) σ H Q := by
  refine e_bm (e_c (x_ts ?_))
  refine a_cons (e_lc ?_)
  refine i_str (e_var hi ⟨z0, rfl, fun D hD => lc_it walk_text (fun i H' => Sb a H H' ∧ BagAt a c H' ∧ ∃ ys : List Str, H' D = some (.lst (ys.map V.str)) ∧ ys.length = i ∧ ∀ y ∈ ys, ∃ d, d ∈ L6 ∧ y = ⟨#[d]⟩)
    ⟨Sb.new (Sb.refl a H) hD, bg.new hD, [], upd_same, rfl, (fun _ h => nomatch h)⟩ (fun _ _ _ _ => trivial) ?_ ?_⟩)
  · rintro k x H4 H5 hk ⟨sb4, hb4, ys, h4, el, hy⟩ ⟨rfl, e, he, rfl⟩
    have nDa := bg.na hD
    have nDc := bg.nc hD
    refine g_name ⟨hw _, ?_⟩
    refine t_yes (i_t ?_)
    refine e_callD (a_cons (e_var (hb _) (a_cons (e_lst ?_))))
    refine a_cons (e_c (a_cons (e_var (hj _) (a_cons (e_c (a_nil ?_))))))
    refine ⟨sz (by show 3 ≤ 100000; decide), fun p0 hp0 => ?_⟩
    refine a_nil ?_
    refine x_ofT (zs := ["h", ⟨#[e]⟩, "h"]) (Pz := fun y => ∃ d, d ∈ L6 ∧ y = ⟨#[d]⟩) hb4 hp0 (by show 3 ≠ 0; decide) (by show 3 ≤ 1000; decide) (fun y hy => ?_) (fun H6 w sb6 hb6 hw => ?_)
    · have hy' : y = "h" ∨ y = ⟨#[e]⟩ := by
        rcases List.mem_cons.mp hy with z | z
        · exact .inl z
        rcases List.mem_cons.mp z with z | z
        · exact .inr z
        · exact .inl (List.mem_singleton.mp z)
      rcases hy' with rfl | rfl
      · exact ⟨104, by decide, e_h⟩
      · exact ⟨e, ok0 e (List.mem_of_getElem? he), rfl⟩
    have h6 := sb6 _ _ nDa.symm h4
    refine ⟨_, h6, szl (by rw [List.length_map]; omega), Sb.mut (sb4.trans sb6) hD, hb6.mut nDa nDc, ys ++ [w], by rw [upd_same, map_snocS], by rw [List.length_append, el]; rfl, fun y hy' => ?_⟩
    rcases List.mem_append.mp hy' with u | u
    · exact hy y u
    · rw [List.mem_singleton.mp u]; exact hw
  · rintro H4 ⟨sb4, hb4, ys, h4, el, hy⟩
    obtain ⟨o1, o2⟩ := join_ok hy
    refine a_nil ⟨_, D, ys, rfl, rfl, .inl (SqL.at h4), ?_, ?_⟩
    · rw [sum_ones hy, show (Str.ofString "").length = 0 by decide]
      omega
    · exact q H4 _ sb4 hb4 o1 (by rw [o2, el])
theorem WdAt.mono {K : PySem.W.Frag} {H H' : Hp} {p : Addr} {k : Str} {n : Int} (h : WdAt K H p k n) (s : Same H H') : WdAt K H' p k n := by
  obtain ⟨dx, fs, h1, h2⟩ := h
  exact ⟨dx, fs, s _ _ h1, h2⟩
theorem WdAt.bag {K : PySem.W.Frag} {H H' : Hp} {a c p : Addr} {k : Str} {n : Int} (h : WdAt K H p k n) (hb : BagAt a c H) (s : Sb a H H') : WdAt K H' p k n := by
  obtain ⟨dx, fs, hp, l⟩ := h
  obtain ⟨xs, ha⟩ := hb.some
  exact ⟨dx, fs, s _ _ (ne_of hp ha (by intro z; cases z)) hp, l⟩
theorem x_world {K : PySem.W.Frag} {H : Hp} {G : Addr → Hp → Prop} {E : XK} {z : Str} {k : Bool} {d : Nat} (hz : z = wtext k d) (hd : d ≤ 4) (q : ∀ H' p, Same H H' → WdAt K H' p (ktext k) (d : Int) → G p H') :
    ∀ x dx, H x = none → H dx = none → dx ≠ x → sp_World___init__ K (.ref x :: ([.str z] ++ [])) (upd (upd H dx (.own x)) x (.ins (He.ga K "World") dx [])) (fun v H2 => v = .non ∧ G x H2) E := by
  intro x dx hx hdx hne
  subst hz
  refine ⟨x, dx, k, d, rfl, hd, upd_same, fun H' sb wd => ⟨rfl, q H' x (fun b o e => ?_) wd⟩⟩
  have n1 : b ≠ x := ne_of_none e hx
  exact sb b o n1 (upd_at n1 (upd_at (ne_of_none e hdx) e))
theorem slotsF_succ {f : Nat → Bool} {l : List Nat} {i c : Nat} (hc : l[i]? = some c) : slotsF f l (i + 1) = if f c = true then slotsF f l i ++ [(i : Int) + 1] else slotsF f l i := by
  unfold slotsF
  rw [List.range_succ, List.filter_append, List.map_append]
  by_cases h : f c = true
  · rw [if_pos h, List.filter_cons_of_pos (p := fun i => (l[i]?.map f).getD false) (by rw [hc]; exact h)]; rfl
  · rw [if_neg h, List.filter_cons_of_neg (p := fun i => (l[i]?.map f).getD false) (by rw [hc]; exact h)]
    exact List.append_nil _
theorem slotsF_len (f : Nat → Bool) (l : List Nat) (i : Nat) : (slotsF f l i).length ≤ i := by
  unfold slotsF
  rw [List.length_map]
  exact Nat.le_trans (List.length_filter_le ..) (by rw [List.length_range]; exact Nat.le_refl _)
def cntF (f : Nat → Bool) (l : List Nat) : Int := (l.map fun c => if f c then (1 : Int) else 0).sum
/-- how many of them are s or later -/
theorem slotsF_cnt {f : Nat → Bool} {l : List Nat} {s : Nat} (h1 : 1 ≤ s) : ∀ i : Nat, i ≤ l.length → (((slotsF f l i).filter fun x => decide ((s : Int) ≤ x)).length : Int) = cntF f ((l.take i).drop (s - 1)) := by
  intro i
  induction i with
  | zero => intro _; simp [slotsF, cntF]
  | succ i ih =>
    intro hi
    obtain ⟨c, hc⟩ : ∃ c, l[i]? = some c := ⟨_, List.getElem?_eq_getElem (by omega)⟩
    have z := ih (by omega)
    rw [slotsF_succ hc, List.take_succ, hc]
    show _ = cntF f ((l.take i ++ [c]).drop (s - 1))
    have el : (l.take i).length = i := by rw [List.length_take]; omega
    by_cases hs : s ≤ i + 1
    · rw [List.drop_append_of_le_length (by omega)]
      have e2 : cntF f ((l.take i).drop (s - 1) ++ [c]) = cntF f ((l.take i).drop (s - 1)) + if f c then (1 : Int) else 0 := by
        unfold cntF
        rw [List.map_append, List.sum_append]
        show _ + ((if f c then (1 : Int) else 0) + 0) = _
        rw [Int.add_zero]
      rw [e2, ← z]
      by_cases h : f c = true
      · rw [if_pos h, if_pos h, List.filter_append, List.length_append, List.filter_cons_of_pos (p := fun x : Int => decide ((s : Int) ≤ x)) (decide_eq_true (by omega))]
        show ((_ + 1 : Nat) : Int) = _
        omega
      · rw [if_neg h, if_neg h]
        omega
    · rw [List.drop_eq_nil_of_le (by omega)] at z
      rw [List.drop_eq_nil_of_le (by rw [List.length_append, el]; show i + 1 ≤ _; omega)]
      rw [← z]
      by_cases h : f c = true
      · rw [if_pos h, List.filter_append, List.length_append, List.filter_cons_of_neg (p := fun x : Int => decide ((s : Int) ≤ x)) (by rw [decide_eq_false (by omega)]; exact Bool.false_ne_true)]
        rfl
      · rw [if_neg h]
theorem cnt_fls (l : List Nat) : cntF falseN l = fls l := rfl
theorem cnt_trs (l : List Nat) : cntF hasT l = trs l := by
  unfold cntF trs hasT
  congr 1
  refine List.map_congr_left fun c _ => ?_
  by_cases h : handsN c > 0
  · rw [if_pos h, if_pos (decide_eq_true h)]
  · rw [if_neg h, if_neg (by rw [decide_eq_false h]; exact Bool.false_ne_true)]
theorem tl_L3 : (("abB" : Str)).cps.toList = [97, 98, 66] := by decide +kernel
theorem false_in {c : Nat} : decide (c ∈ [97, 98, 66]) = falseN c := by
  unfold falseN
  rw [decide_eq_decide]
  simp
theorem len_true_hands {K : PySem.W.Frag} {vs : List V} {H : Hp} {Q : VK} {E : XK} (h : sp_true_hands K vs H Q E) : vs.length = P_true_hands.length := by
  obtain ⟨c, rfl, _⟩ := h; rfl
theorem pure_true_hands {K : PySem.W.Frag} (F : KF K) (vs : List V) (H : Hp) (Q : VK) (E : XK) (h : sp_true_hands K vs H Q E) : r_true_hands K { nx := fun _ H' => Q .non H', rt := Q } (start N_true_hands vs) H := by
  obtain ⟨c, rfl, hc, q⟩ := h
  unfold r_true_hands
  acc_peel
  exact r_ixK (F.th c hc) q
theorem len_has_false_hand {K : PySem.W.Frag} {vs : List V} {H : Hp} {Q : VK} {E : XK} (h : sp_has_false_hand K vs H Q E) : vs.length = P_has_false_hand.length := by
  obtain ⟨c, rfl, _⟩ := h; rfl
theorem pure_has_false_hand {K : PySem.W.Frag} (vs : List V) (H : Hp) (Q : VK) (E : XK) (h : sp_has_false_hand K vs H Q E) : r_has_false_hand K { nx := fun _ H' => Q .non H', rt := Q } (start N_has_false_hand vs) H := by
  obtain ⟨c, rfl, hc, q⟩ := h
  unfold r_has_false_hand
  acc_peel
  rw [tl_L3, false_in]
  exact q
theorem len_slots_with_true_hands {K : PySem.W.Frag} {vs : List V} {H : Hp} {Q : VK} {E : XK} (h : sp_slots_with_true_hands K vs H Q E) : vs.length = P_slots_with_true_hands.length := by
  obtain ⟨z, rfl, _⟩ := h; rfl
theorem pure_slots_with_true_hands {K : PySem.W.Frag} (vs : List V) (H : Hp) (Q : VK) (E : XK) (h : sp_slots_with_true_hands K vs H Q E) : r_slots_with_true_hands K { nx := fun _ H' => Q .non H', rt := Q } (start N_slots_with_true_hands vs) H := by
  obtain ⟨z, rfl, ok, hl, q⟩ := h
  have tl1 := tl_len z
  unfold r_slots_with_true_hands
  acc_peel
  refine e_lc ?_
  refine i_enumS ?_
  acc_peel
  refine ⟨z, rfl, fun D hD => lc_it walk_enumS (fun i H' => Same H H' ∧ H' D = some (.lst ((slotsF hasT (tl z) i).map V.int))) ⟨Same.new (Same.refl H) hD, upd_same⟩ (fun _ _ _ _ => trivial) ?_ ?_⟩
  · rintro i x H1 H2 hi ⟨sm, h1⟩ ⟨T, c, rfl, hT, rfl, hc⟩
    have sm2 := Same.new (o := .tup [.int (0 + (i : Nat)), .str ⟨#[c]⟩]) sm hT
    have h2 : upd H1 T (.tup [.int (0 + (i : Nat)), .str ⟨#[c]⟩]) D = _ := upd_at (ne_of_none h1 hT) h1
    have sl := slotsF_len hasT (tl z) i
    have es := slotsF_succ (f := hasT) hc
    refine g_tup (SqT.at upd_same) rfl (g_cons (g_name (g_cons (g_name (g_nil ⟨rfl, ?_⟩)))))
    acc_peel
    refine ⟨c, rfl, ok c (List.mem_of_getElem? hc), ?_⟩
    acc_peel
    refine i_dec (fun h => ?_) (fun h => ?_)
    · acc_peel
      refine ⟨_, h2, szl (by rw [List.length_map]; omega), Same.mut sm2 hD, ?_⟩
      rw [upd_same, es, if_pos (show hasT c = true from decide_eq_true h), map_snocI, Int.zero_add]
    · refine ⟨sm2, ?_⟩
      rw [es, if_neg (show ¬ hasT c = true from by unfold hasT; rw [decide_eq_false h]; exact Bool.false_ne_true)]
      exact h2
  · rintro H1 ⟨sm, h1⟩
    exact q H1 D hD sm h1
theorem len_slots_with_false_hand {K : PySem.W.Frag} {vs : List V} {H : Hp} {Q : VK} {E : XK} (h : sp_slots_with_false_hand K vs H Q E) : vs.length = P_slots_with_false_hand.length := by
  obtain ⟨z, rfl, _⟩ := h; rfl
theorem pure_slots_with_false_hand {K : PySem.W.Frag} (vs : List V) (H : Hp) (Q : VK) (E : XK) (h : sp_slots_with_false_hand K vs H Q E) : r_slots_with_false_hand K { nx := fun _ H' => Q .non H', rt := Q } (start N_slots_with_false_hand vs) H := by
  obtain ⟨z, rfl, ok, hl, q⟩ := h
  have tl1 := tl_len z
  unfold r_slots_with_false_hand
  acc_peel
  refine e_lc ?_
  refine i_enumS ?_
  acc_peel
  refine ⟨z, rfl, fun D hD => lc_it walk_enumS (fun i H' => Same H H' ∧ H' D = some (.lst ((slotsF falseN (tl z) i).map V.int))) ⟨Same.new (Same.refl H) hD, upd_same⟩ (fun _ _ _ _ => trivial) ?_ ?_⟩
  · rintro i x H1 H2 hi ⟨sm, h1⟩ ⟨T, c, rfl, hT, rfl, hc⟩
    have sm2 := Same.new (o := .tup [.int (0 + (i : Nat)), .str ⟨#[c]⟩]) sm hT
    have h2 : upd H1 T (.tup [.int (0 + (i : Nat)), .str ⟨#[c]⟩]) D = _ := upd_at (ne_of_none h1 hT) h1
    have sl := slotsF_len falseN (tl z) i
    have es := slotsF_succ (f := falseN) hc
    refine g_tup (SqT.at upd_same) rfl (g_cons (g_name (g_cons (g_name (g_nil ⟨rfl, ?_⟩)))))
    acc_peel
    refine ⟨c, rfl, ok c (List.mem_of_getElem? hc), ?_⟩
    acc_peel
    refine i_b (fun h => ?_) (fun h => ?_)
    · acc_peel
      refine ⟨_, h2, szl (by rw [List.length_map]; omega), Same.mut sm2 hD, ?_⟩
      rw [upd_same, es, if_pos h, map_snocI, Int.zero_add]
    · refine ⟨sm2, ?_⟩
      rw [es, if_neg (by rw [h]; exact Bool.false_ne_true)]
      exact h2
  · rintro H1 ⟨sm, h1⟩
    exact q H1 D hD sm h1
theorem len_Rota_true_slots {K : PySem.W.Frag} {vs : List V} {H : Hp} {Q : VK} {E : XK} (h : sp_Rota_true_slots K vs H Q E) : vs.length = P_Rota_true_slots.length := by
  obtain ⟨p, z, rfl, _⟩ := h; rfl
theorem pure_Rota_true_slots {K : PySem.W.Frag} (F : KF K) (vs : List V) (H : Hp) (Q : VK) (E : XK) (h : sp_Rota_true_slots K vs H Q E) : r_Rota_true_slots K { nx := fun _ H' => Q .non H', rt := Q } (start N_Rota_true_slots vs) H := by
  obtain ⟨p, z, rfl, ⟨dx, fs, hp, l1⟩, ok, hl, q⟩ := h
  unfold r_Rota_true_slots
  acc_peel
  refine ⟨p, _, dx, fs, _, rfl, hp, F.cR, F.naR _ (by simp), l1.1, ?_⟩
  acc_peel
  exact ⟨z, rfl, ok, hl, q⟩
theorem len_Rota_false_slots {K : PySem.W.Frag} {vs : List V} {H : Hp} {Q : VK} {E : XK} (h : sp_Rota_false_slots K vs H Q E) : vs.length = P_Rota_false_slots.length := by
  obtain ⟨p, z, rfl, _⟩ := h; rfl
theorem pure_Rota_false_slots {K : PySem.W.Frag} (F : KF K) (vs : List V) (H : Hp) (Q : VK) (E : XK) (h : sp_Rota_false_slots K vs H Q E) : r_Rota_false_slots K { nx := fun _ H' => Q .non H', rt := Q } (start N_Rota_false_slots vs) H := by
  obtain ⟨p, z, rfl, ⟨dx, fs, hp, l1⟩, ok, hl, q⟩ := h
  unfold r_Rota_false_slots
  acc_peel
  refine ⟨p, _, dx, fs, _, rfl, hp, F.cR, F.naR _ (by simp), l1.1, ?_⟩
  acc_peel
  exact ⟨z, rfl, ok, hl, q⟩
theorem filt_snoc_yes {xs : List Int} {s x : Int} (h : s ≤ x) : (xs ++ [x]).filter (fun x => decide (s ≤ x)) = xs.filter (fun x => decide (s ≤ x)) ++ [x] := by
  rw [List.filter_append, List.filter_cons_of_pos (p := fun x : Int => decide (s ≤ x)) (decide_eq_true h)]; rfl
theorem filt_snoc_no {xs : List Int} {s x : Int} (h : ¬ s ≤ x) : (xs ++ [x]).filter (fun x => decide (s ≤ x)) = xs.filter (fun x => decide (s ≤ x)) := by
  rw [List.filter_append, List.filter_cons_of_neg (p := fun x : Int => decide (s ≤ x)) (by rw [decide_eq_false h]; exact Bool.false_ne_true), List.filter_nil, List.append_nil]
theorem take_snoc {α : Type} {xs : List α} {i : Nat} {x : α} (h : xs[i]? = some x) : xs.take (i + 1) = xs.take i ++ [x] := by rw [List.take_succ, h]; rfl
/-- [at for at in slots if at >= slot] -/
theorem e_late {K : PySem.W.Frag} {i j : Nat} {wi : TI} {σ : L2.St} {H : Hp} {Q : VK} {s : Int} {xs : List Int} (hx : xs.length ≤ 1000) (hs : ∀ v, ((wipe σ [j]).set j (some v))[i]? = some (some (.int s))) (hj : ∀ v, ((wipe σ [j]).set j (some v))[j]? = some (some v)) (hw : ∀ v, wipe ((wipe σ [j]).set j (some v)) [j] = wipe σ [j])
    (hwi : ∀ R : It → Hp → Prop, (∀ H1 a, Same H H1 → H1 a = some (.lst (xs.map V.int)) → R (Itl K a) H1) → wi σ H R) (q : ∀ H1 D, H D = none → Same H H1 → H1 D = some (.lst ((xs.filter fun x => decide (s ≤ x)).map V.int)) → Q (.ref D) H1) :
    tLc wi (gName j) (tTest (tOp rGe0 (tVar j) (tVar i))) (tVar j) [j] σ H Q := by
  refine e_lc (hwi _ fun H1 a sm1 h1 D hD => ?_)
  refine lc_list (K := K) (a := a) (xs := xs.map V.int) (fun k H' => Same H1 H' ∧ H' D = some (.lst (((xs.take k).filter fun x => decide (s ≤ x)).map V.int))) ⟨Same.new (Same.refl H1) hD, upd_same⟩ (fun k H' _ h => SqL.at (h.1 _ _ h1)) ?_ ?_
  · rintro k x H2 hx2 ⟨sm2, h2⟩
    obtain ⟨n, rfl, hn⟩ := mapI_get hx2
    have hk := (List.getElem?_eq_some_iff.mp hn).1
    have fl := List.length_filter_le (fun x => decide (s ≤ x)) (xs.take k)
    rw [List.length_take] at fl
    refine g_name ⟨hw _, ?_⟩
    refine t_test (e_op (e_var (hj _) (e_var (hs _) (r_ge (x_blE ?_)))))
    refine i_dec (fun h => ?_) (fun h => ?_)
    · refine e_var (hj _) ⟨_, h2, szl (by rw [List.length_map]; omega), Same.mut sm2 hD, ?_⟩
      rw [upd_same, take_snoc hn, filt_snoc_yes h, map_snocI]
    · refine ⟨sm2, ?_⟩
      rw [take_snoc hn, filt_snoc_no h]
      exact h2
  · rintro H2 ⟨sm2, h2⟩
    rw [List.length_map, List.take_of_length_le (Nat.le_refl _)] at h2
    exact q H2 D (sm1.free hD) (sm1.trans sm2) h2
theorem fls_drop {l : List Nat} {s : Nat} (ok : okL l) : fls (l.drop (s - 1)) - trs (l.drop (s - 1)) = ((l.drop (s - 1)).map stp).sum := cnt_bal fun c hc => ok c (List.mem_of_mem_drop hc)
theorem S_drop (l : List Nat) (k : Nat) (h : k ≤ l.length) : S l l.length - S l k = ((l.drop k).map stp).sum := by
  have := S_add (l := l) (a := k) (b := l.length) h
  rw [List.take_of_length_le (by rw [List.length_drop]; exact Nat.le_refl _)] at this
  omega
theorem len_surplus {K : PySem.W.Frag} {vs : List V} {H : Hp} {Q : VK} {E : XK} (h : sp_surplus K vs H Q E) : vs.length = P_surplus.length := by
  obtain ⟨p, z, s, rfl, _⟩ := h; rfl
theorem pure_surplus {K : PySem.W.Frag} (F : KF K) (vs : List V) (H : Hp) (Q : VK) (E : XK) (h : sp_surplus K vs H Q E) : r_surplus K { nx := fun _ H' => Q .non H', rt := Q } (start N_surplus vs) H := by
  obtain ⟨p, z, s, rfl, hp0, ok, hl, s1, s2, q⟩ := h
  obtain ⟨dx, fs, hp, l1⟩ := id hp0
  have tl1 := tl_len z
  unfold r_surplus
  acc_peel
  refine b_lenRt hp0 hl ?_
  acc_peel
  refine ⟨_, _, rfl, by omega, by omega, ?_⟩
  acc_peel
  refine ⟨p, _, dx, fs, _, rfl, hp, F.cR, F.naR _ (by simp), l1.1, ?_⟩
  acc_peel
  refine r_slS (by omega) ?_
  rw [show (s : Int) - 1 = ((s - 1 : Nat) : Int) by omega]
  have cl := cut_to_len (z := z) (n := s - 1) (by omega)
  acc_peel
  refine ⟨_, false, s, rfl, s1, by omega, by omega, fun H1 t sm1 h1 => ?_⟩
  rw [tl_to (by omega), numF_fst] at h1
  have p1 := hp0.mono sm1
  obtain ⟨dx1, fs1, hp1, l1, no1⟩ := id p1
  acc_peel
  have sl := slotsF_len falseN (tl z) z.length
  have sl2 := slotsF_len hasT (tl z) z.length
  refine e_late (K := K) (xs := slotsF falseN (tl z) z.length) (s := (s : Int)) (by omega) (fun _ => rfl) (fun _ => rfl) (fun _ => rfl) (fun R hR => ?_) (fun H2 D hD sm2 h2 => ?_)
  · refine i_list (e_meth (e_var rfl ⟨p, dx1, fs1, rfl, hp1, no1 _ (by decide +kernel) (by decide +kernel), a_nil ⟨p, z, rfl, p1, ok, hl, fun H2 t2 ht2 sm2 h2 => ?_⟩⟩))
    exact ⟨t2, rfl, ⟨_, SqL.at h2⟩, hR H2 t2 sm2 h2⟩
  have p2 := p1.mono sm2
  obtain ⟨dx2, fs2, hp2, l2, no2⟩ := id p2
  acc_peel
  refine e_late (K := K) (xs := slotsF hasT (tl z) z.length) (s := (s : Int)) (by omega) (fun _ => rfl) (fun _ => rfl) (fun _ => rfl) (fun R hR => ?_) (fun H3 D3 hD3 sm3 h3 => ?_)
  · refine i_list (e_meth (e_var rfl ⟨p, dx2, fs2, rfl, hp2, no2 _ (by decide +kernel) (by decide +kernel), a_nil ⟨p, z, rfl, p2, ok, hl, fun H3 t3 ht3 sm3 h3 => ?_⟩⟩))
    exact ⟨t3, rfl, ⟨_, SqL.at h3⟩, hR H3 t3 sm3 h3⟩
  have h23 := sm3 _ _ h2
  acc_peel
  have c1 := slotsF_cnt (f := falseN) (l := tl z) (s := s) s1 z.length (by omega)
  have c2 := slotsF_cnt (f := hasT) (l := tl z) (s := s) s1 z.length (by omega)
  rw [List.take_of_length_le (by omega)] at c1 c2
  rw [cnt_fls] at c1
  rw [cnt_trs] at c2
  have fd := fls_drop (s := s) ok
  have sd := S_drop (tl z) (s - 1) (by omega)
  rw [List.length_map, List.length_map, c1, c2]
  have e : rch ((tl z).take (s - 1)) + fls ((tl z).drop (s - 1)) - trs ((tl z).drop (s - 1)) = surpF (tl z) s := by
    unfold surpF
    rw [sd, ← fd]
    omega
  rw [e]
  exact q H3 ((sm1.trans sm2).trans sm3)
theorem PairsAt.mono {H H' : Hp} {r : Addr} {l : List Nat} {k : Bool} (h : PairsAt H r l k) (s : Same H H') : PairsAt H' r l k := by
  obtain ⟨ts, h1, h2, h3⟩ := h
  exact ⟨ts, s _ _ h1, h2, fun j t hj => s _ _ (h3 j t hj)⟩
theorem SumsAt.mono {H H' : Hp} {r : Addr} {l : List Nat} {k : Bool} (h : SumsAt H r l k) (s : Same H H') : SumsAt H' r l k := by
  obtain ⟨ts, h1, h2, h3⟩ := h
  exact ⟨ts, s _ _ h1, h2, fun j t hj => (h3 j t hj).mono s⟩
/-- a row is not the table that is written: its items are tuples, the table's are lists -/
theorem PairsAt.mut {H : Hp} {r t : Addr} {l : List Nat} {k : Bool} {rs : List Addr} {u : HO} (h : PairsAt H r l k) (ht : H t = some (.lst (rs.map V.ref))) (hr : ∀ (i : Nat) (x : Addr), rs[i]? = some x → ∃ l', PairsAt H x l' k) : PairsAt (upd H t u) r l k := by
  obtain ⟨ts, h1, h2, h3⟩ := h
  have n : r ≠ t := fun e => by
    rw [e, ht] at h1
    have e2 := HO.lst.inj (Option.some.inj h1)
    have l0 : 0 < ts.length := by omega
    have t0 := List.getElem?_eq_getElem l0
    have e3 : (ts.map V.ref)[0]? = some (V.ref ts[0]) := by rw [List.getElem?_map, t0]; rfl
    rw [← e2] at e3
    obtain ⟨x, e4, e5⟩ := mapR_get e3
    cases e4
    obtain ⟨l', ts', g1, _⟩ := hr 0 _ e5
    rw [h3 0 _ t0] at g1
    cases g1
  refine ⟨ts, upd_at n h1, h2, fun j x hj => upd_at (ne_tl (h3 j x hj) ht) (h3 j x hj)⟩
theorem len__law_sums {K : PySem.W.Frag} {vs : List V} {H : Hp} {Q : VK} {E : XK} (h : sp__law_sums K vs H Q E) : vs.length = P__law_sums.length := by
  obtain ⟨z, k, rfl, _⟩ := h; rfl
theorem nm_H {o : Bool} {r m : Int} : nm 72 o r m = if m = 0 then 0 else m - 1 := by
  unfold nm
  rw [if_neg (by decide)]
  by_cases h : m = 0
  · rw [if_pos ⟨rfl, h⟩, if_pos h]
  · rw [if_neg (fun w => h w.2), if_neg h, if_neg (fun w => h w.2.1), if_pos (.inr rfl)]
theorem nm_h {o : Bool} {r m : Int} : nm 104 o r m = if m = 0 ∧ (0 < r ∧ o = false) then 0 else m - 1 := by
  unfold nm
  rw [if_neg (by decide), if_neg (fun w => absurd w.1 (by decide))]
  by_cases h : m = 0 ∧ (0 < r ∧ o = false)
  · rw [if_pos ⟨rfl, h⟩, if_pos h]
  · rw [if_neg (fun w => h w.2), if_neg h, if_pos (.inl rfl)]
theorem nm_o {c : Nat} {o : Bool} {r m : Int} (h1 : ¬ c = 97) (h2 : ¬ c = 104) (h3 : ¬ c = 72) : nm c o r m = m := by
  unfold nm
  rw [if_neg h1, if_neg (fun w => h3 w.1), if_neg (fun w => h2 w.1), if_neg (by rintro (w | w); exact h2 w; exact h3 w)]
theorem nm_a {o : Bool} {r m : Int} : nm 97 o r m = m + 1 := by unfold nm; rw [if_pos rfl]
/-- one turn's new row -/
theorem x_pairs {K : PySem.W.Frag} {i j : Nat} {σ : L2.St} {H : Hp} {Q : VK} {r : Int} {xs : List Int} {a : Addr} (hx : xs.length ≤ 1000) (ha : H a = some (.lst (xs.map V.int))) (hi : ∀ v, ((wipe σ [j]).set j (some v))[i]? = some (some (.int r))) (hj : ∀ v, ((wipe σ [j]).set j (some v))[j]? = some (some v)) (hw : ∀ v, wipe ((wipe σ [j]).set j (some v)) [j] = wipe σ [j])
    {n : Nat} (hn : σ[n]? = some (some (.ref a))) (q : ∀ H1 D (ts : List Addr), H D = none → Same H H1 → H1 D = some (.lst (ts.map V.ref)) → ts.length = xs.length → (∀ (k : Nat) (t : Addr) (x : Int), ts[k]? = some t → xs[k]? = some x → H1 t = some (.tup [.int r, .int x])) → Q (.ref D) H1) :
    tLc (iList K (tVar n)) (gName j) tYes (tTup (tCons (tVar i) (tCons (tVar j) tNil))) [j] σ H Q := by
  refine e_lc (i_list (e_var hn ⟨a, rfl, ⟨_, SqL.at ha⟩, fun D hD => ?_⟩))
  refine lc_list (K := K) (a := a) (xs := xs.map V.int) (fun k H' => Same H H' ∧ ∃ ts : List Addr, H' D = some (.lst (ts.map V.ref)) ∧ ts.length = k ∧ ∀ (m : Nat) (t : Addr) (x : Int), ts[m]? = some t → xs[m]? = some x → H' t = some (.tup [.int r, .int x])) ⟨Same.new (Same.refl H) hD, [], upd_same, rfl, fun m t x h => nomatch h⟩ (fun k H' _ h => SqL.at (h.1 _ _ ha)) ?_ ?_
  · rintro k x H2 hx2 ⟨sm2, ts, h2, hl, ht⟩
    obtain ⟨v, rfl, hv⟩ := mapI_get hx2
    have hk := (List.getElem?_eq_some_iff.mp hv).1
    refine g_name ⟨hw _, ?_⟩
    refine t_yes (i_t (e_tup (a_cons (e_var (hi _) (a_cons (e_var (hj _) (a_nil ?_)))))))
    refine ⟨sz (by show 2 ≤ 100000; decide), fun p hp => ?_⟩
    have h3 : upd H2 p (.tup [.int r, .int v]) D = _ := upd_at (ne_of_none h2 hp) h2
    refine ⟨_, h3, szl (by rw [List.length_map]; omega), Same.mut (Same.new sm2 hp) hD, ts ++ [p], by rw [upd_same, map_snocR], by rw [List.length_append, hl]; rfl, fun m t x hm hxm => ?_⟩
    have nD : ∀ {b : Addr} {ys : List V}, H2 b = some (.tup ys) → b ≠ D := fun e => ne_tl e h2
    by_cases hml : m < ts.length
    · rw [List.getElem?_append_left hml] at hm
      have e := ht m t x hm hxm
      rw [upd_ne (nD e), upd_ne (ne_of_none e hp)]
      exact e
    · have em : m = k := by
        have := (List.getElem?_eq_some_iff.mp hm).1
        rw [List.length_append, List.length_singleton] at this
        omega
      subst em
      rw [List.getElem?_append_right (by omega), hl, Nat.sub_self] at hm
      have e1 : p = t := Option.some.inj hm
      rw [hv] at hxm
      have e2 := Option.some.inj hxm
      subst e1 e2
      have nDp : p ≠ D := fun e => by rw [e, h2] at hp; cases hp
      rw [upd_ne nDp, upd_same]
  · rintro H2 ⟨sm2, ts, h2, hl, ht⟩
    rw [List.length_map] at hl
    exact q H2 D ts hD sm2 h2 hl ht
/-- [f(m) for m in margins] -/
theorem x_mapI {K : PySem.W.Frag} {j : Nat} {te : TE} {f : Int → Int} {σ : L2.St} {H : Hp} {Q : VK} {xs : List Int} {a : Addr} (hx : xs.length ≤ 1000) (ha : H a = some (.lst (xs.map V.int))) {n : Nat} (hn : σ[n]? = some (some (.ref a))) (hw : ∀ v, wipe ((wipe σ [j]).set j (some v)) [j] = wipe σ [j])
    (he : ∀ (x : Int) (H : Hp) (Q : VK), Q (.int (f x)) H → te ((wipe σ [j]).set j (some (.int x))) H Q) (q : ∀ H1 D, H D = none → Same H H1 → H1 D = some (.lst ((xs.map f).map V.int)) → Q (.ref D) H1) : tLc (iList K (tVar n)) (gName j) tYes te [j] σ H Q := by
  refine e_lc (i_list (e_var hn ⟨a, rfl, ⟨_, SqL.at ha⟩, fun D hD => ?_⟩))
  refine lc_list (K := K) (a := a) (xs := xs.map V.int) (fun k H' => Same H H' ∧ H' D = some (.lst (((xs.take k).map f).map V.int))) ⟨Same.new (Same.refl H) hD, upd_same⟩ (fun k H' _ h => SqL.at (h.1 _ _ ha)) ?_ ?_
  · rintro k x H2 hx2 ⟨sm2, h2⟩
    obtain ⟨v, rfl, hv⟩ := mapI_get hx2
    have hk := (List.getElem?_eq_some_iff.mp hv).1
    refine g_name ⟨hw _, ?_⟩
    refine t_yes (i_t (he v _ _ ?_))
    refine ⟨_, h2, szl (by rw [List.length_map, List.length_map, List.length_take]; omega), Same.mut sm2 hD, ?_⟩
    rw [upd_same, take_snoc hv, List.map_append, List.map_append]
    rfl
  · rintro H2 ⟨sm2, h2⟩
    rw [List.length_map, List.take_of_length_le (Nat.le_refl _)] at h2
    exact q H2 D hD sm2 h2
theorem pure__law_sums {K : PySem.W.Frag} (vs : List V) (H : Hp) (Q : VK) (E : XK) (h : sp__law_sums K vs H Q E) : r__law_sums K { nx := fun _ H' => Q .non H', rt := Q } (start N__law_sums vs) H := by
  obtain ⟨z, k, rfl, hl, q⟩ := h
  have tl1 := tl_len z
  unfold r__law_sums
  acc_peel
  refine ⟨sz (by show 0 ≤ 100000; decide), fun m0 hm0 => ?_⟩
  acc_peel
  refine ⟨sz (by show 2 ≤ 100000; decide), fun t0 ht0 => ?_⟩
  acc_peel
  refine ⟨sz (by show 1 ≤ 100000; decide), fun r0 hr0 => ?_⟩
  acc_peel
  refine ⟨sz (by show 1 ≤ 100000; decide), fun t ht => ?_⟩
  have sm0 := Same.new (o := .lst [.ref r0]) (Same.new (o := .lst [.ref t0]) (Same.new (o := .tup [.int 0, .int 0]) (Same.new (o := .lst []) (Same.refl H) hm0) ht0) hr0) ht
  have htH : H t = none := (Same.new (o := .lst [.ref t0]) (Same.new (o := .tup [.int 0, .int 0]) (Same.new (o := .lst []) (Same.refl H) hm0) ht0) hr0).free ht
  have e1 : upd H m0 (.lst []) m0 = some (.lst []) := upd_same
  have e2 := upd_at (o := .tup [.int 0, .int 0]) (ne_of_none e1 ht0) e1
  have f2 : upd (upd H m0 (.lst [])) t0 (.tup [.int 0, .int 0]) t0 = _ := upd_same
  have e3 := upd_at (o := .lst [.ref t0]) (ne_of_none e2 hr0) e2
  have f3 := upd_at (o := .lst [.ref t0]) (ne_of_none f2 hr0) f2
  have g3 : upd (upd (upd H m0 (.lst [])) t0 (.tup [.int 0, .int 0])) r0 (.lst [.ref t0]) r0 = _ := upd_same
  have e4 := upd_at (o := .lst [.ref r0]) (ne_of_none e3 ht) e3
  have f4 := upd_at (o := .lst [.ref r0]) (ne_of_none f3 ht) f3
  have g4 := upd_at (o := .lst [.ref r0]) (ne_of_none g3 ht) g3
  have h4 : upd (upd (upd (upd H m0 (.lst [])) t0 (.tup [.int 0, .int 0])) r0 (.lst [.ref t0])) t (.lst [.ref r0]) t = _ := upd_same
  have nmt : m0 ≠ t := ne_of_none e3 ht
  have hmH : H m0 = none := hm0
  clear e1 e2 e3 f2 f3 g3
  generalize upd (upd (upd (upd H m0 (.lst [])) t0 (.tup [.int 0, .int 0])) r0 (.lst [.ref t0])) t (.lst [.ref r0]) = H0 at sm0 e4 f4 g4 h4 ⊢
  acc_peel
  refine s_for ?_
  refine i_str ?_
  acc_peel
  refine ⟨z, rfl, for_it walk_text (fun i σ H' => Same H H' ∧ ∃ (rs : List Addr) (m : Addr) (v5 v6 v7 : Option V), H' t = some (.lst (rs.map V.ref)) ∧ rs.length = i + 1 ∧ (∀ (j : Nat) (p : Addr), rs[j]? = some p → PairsAt H' p ((tl z).take j) k) ∧ H' m = some (.lst ((((mrow ((tl z).take i) k).take i).map V.int))) ∧ H m = none ∧ m ≠ t ∧
      (∀ (j : Nat) (p : Addr), rs[j]? = some p → p ≠ m) ∧ σ = [some (.str z), some (.str (ktext k)), some (.int (rch ((tl z).take i))), some (.ref m), some (.ref t), v5, v6, v7]) ⟨sm0, [r0], m0, none, none, none, h4, rfl, fun j p hj => ?_, e4, hmH, nmt, fun j p hj e => ?_, rfl⟩ (fun _ _ _ _ _ => trivial) ?_ ?_⟩
  · cases j with
    | zero => cases hj; exact ⟨[t0], g4, rfl, fun j t hj => by
        cases j with
        | zero => cases hj; exact f4
        | succ j => cases hj⟩
    | succ j => cases hj
  · cases j with
    | zero =>
      cases hj
      rw [e, e4] at g4
      cases g4
    | succ j => cases hj
  · rintro i x σ H1 H2 hi ⟨sm, rs, m, v5, v6, v7, h1, hrs, hrow, hm, hmH, nmt, npm, rfl⟩ ⟨rfl, c, hc, rfl⟩
    have hit : i < (tl z).length := by omega
    have eti : ((tl z).take i).length = i := by rw [List.length_take]; omega
    have ml := mrow_len ((tl z).take i) k
    rw [eti] at ml
    have nn := rch_nn (tl z) (i := i) (by omega)
    have em : (mrow ((tl z).take i) k).take i ++ [rch ((tl z).take i)] = mrow ((tl z).take i) k := by
      have e := mrow_at (l := (tl z).take i) (o := k) (i := i) (by omega)
      have e2 := num_end ((tl z).take i) k
      rw [eti] at e2
      rw [e2] at e
      rw [← take_snoc e, List.take_of_length_le (by omega)]
    acc_peel
    refine r_app hm (szl (by rw [List.length_map, List.length_take]; omega)) ?_
    rw [← map_snocI, em]
    have t1 : upd H1 m (.lst ((mrow ((tl z).take i) k).map V.int)) t = _ := upd_at nmt.symm h1
    have m1 : upd H1 m (.lst ((mrow ((tl z).take i) k).map V.int)) m = _ := upd_same
    have row1 : ∀ (j : Nat) (p : Addr), rs[j]? = some p → PairsAt (upd H1 m (.lst ((mrow ((tl z).take i) k).map V.int))) p ((tl z).take j) k := fun j p hj => by
      obtain ⟨ts, a1, a2, a3⟩ := hrow j p hj
      exact ⟨ts, upd_at (npm j p hj) a1, a2, fun j' t' hj' => upd_at (ne_tl (a3 j' t' hj') hm) (a3 j' t' hj')⟩
    have sm1 := Same.mut (o := .lst ((mrow ((tl z).take i) k).map V.int)) sm hmH
    generalize upd H1 m (.lst ((mrow ((tl z).take i) k).map V.int)) = H2 at t1 m1 row1 sm1 ⊢
    clear h1 hrow hm npm sm
    -- the margins behind the letter
    refine s_cut (fun σ H' => Same H2 H' ∧ ∃ (m2 : Addr) (v6 v7 : Option V), H' m2 = some (.lst (((mrow ((tl z).take i) k).map fun x => nm c k (rch ((tl z).take i)) x).map V.int)) ∧ H m2 = none ∧ m2 ≠ t ∧ (∀ (j : Nat) (p : Addr), rs[j]? = some p → p ≠ m2) ∧
      σ = [some (.str z), some (.str (ktext k)), some (.int (nr c (rch ((tl z).take i)))), some (.ref m2), some (.ref t), some (.str ⟨#[c]⟩), v6, v7]) ?_ ?_
    · have new : ∀ {H3 : Hp} {D : Addr}, H2 D = none → H D = none ∧ D ≠ t ∧ ∀ (j : Nat) (p : Addr), rs[j]? = some p → p ≠ D := fun {H3 D} hD => ⟨sm1.free hD, (ne_of_none t1 hD).symm, fun j p hj => by
        obtain ⟨ts, a1, _⟩ := row1 j p hj
        exact ne_of_none a1 hD⟩
      acc_peel
      rw [str1 c 97 _ e_a]
      refine i_dec (fun ha => ?_) (fun na => ?_)
      · subst ha
        acc_peel
        refine x_mapI (f := fun x => x + 1) (by omega) m1 rfl (fun _ => rfl) (fun x H Q hq => ?_) (fun H3 D hD sm3 h3 => ?_)
        · exact e_op (e_var rfl (e_c (r_plus hq)))
        obtain ⟨n1, n2, n3⟩ := new (H3 := H3) hD
        acc_peel
        refine ⟨sm3, D, v6, v7, ?_, n1, n2, n3, ?_⟩
        · rw [show (mrow ((tl z).take i) k).map (fun x => nm 97 k (rch ((tl z).take i)) x) = (mrow ((tl z).take i) k).map (fun x => x + 1) from List.map_congr_left fun x _ => nm_a]
          exact h3
        · rw [show nr 97 (rch ((tl z).take i)) = rch ((tl z).take i) + 1 from if_pos rfl]; rfl
      · acc_peel
        rw [str1 c 104 _ e_h]
        have fin : ∀ (f4 : Bool) (_ : ∀ x : Int, nm c k (rch ((tl z).take i)) x = if x = 0 ∧ f4 = true then 0 else x - 1) (_ : c = 104 ∨ c = 72),
            (tSeq (tAsg (tLc (iList K (tVar 3)) (gName 6) tYes (tIf (tAnd (tTest (tOp rEq (tVar 6) (tC (.int 0)))) (tTru K (tVar 7))) (tC (.int 0)) (tOp rMinus (tVar 6) (tC (.int 1)))) [6]) (gName 3))
              (tAsg (tCB bMax2 (tCons (tC (.int 0)) (tCons (tOp rMinus (tVar 2) (tC (.int 1))) tNil))) (gName 2)))
              { nx := fun σ H' => Same H2 H' ∧ ∃ (m2 : Addr) (v6 v7 : Option V), H' m2 = some (.lst (((mrow ((tl z).take i) k).map fun x => nm c k (rch ((tl z).take i)) x).map V.int)) ∧ H m2 = none ∧ m2 ≠ t ∧ (∀ (j : Nat) (p : Addr), rs[j]? = some p → p ≠ m2) ∧
                  σ = [some (.str z), some (.str (ktext k)), some (.int (nr c (rch ((tl z).take i)))), some (.ref m2), some (.ref t), some (.str ⟨#[c]⟩), v6, v7],
                rt := Q }
              [some (.str z), some (.str (ktext k)), some (.int (rch ((tl z).take i))), some (.ref m), some (.ref t), some (.str ⟨#[c]⟩), v6, some (.bl f4)] H2 := by
          intro f4 hf hc4
          refine s_seq (s_asg ?_)
          refine x_mapI (f := fun x => nm c k (rch ((tl z).take i)) x) (by omega) m1 rfl (fun _ => rfl) (fun x H Q hq => ?_) (fun H3 D hD sm3 h3 => ?_)
          · refine e_if (t_and (t_test (e_op (e_var rfl (e_c (r_eqI (x_blE ?_)))))))
            rw [hf] at hq
            refine i_dec (fun x0 => ?_) (fun x0 => ?_)
            · refine t_tru (e_var rfl (x_trB ?_))
              cases f4 with
              | true =>
                refine i_t (e_c ?_)
                rw [if_pos ⟨x0, rfl⟩] at hq
                exact hq
              | false =>
                refine i_f (e_op (e_var rfl (e_c (r_minus ?_))))
                rw [if_neg (fun w => Bool.noConfusion w.2)] at hq
                exact hq
            · refine i_f (e_op (e_var rfl (e_c (r_minus ?_))))
              rw [if_neg (fun w => x0 w.1)] at hq
              exact hq
          obtain ⟨n1, n2, n3⟩ := new (H3 := H3) hD
          acc_peel
          refine x_max (fun w w1 w2 w3 => ?_)
          acc_peel
          have ew : w = nr c (rch ((tl z).take i)) := by
            unfold nr
            rw [if_neg na, if_pos hc4]
            split <;> omega
          subst ew
          exact ⟨sm3, D, _, _, h3, n1, n2, n3, rfl⟩
        have e7 : ("H" : Str) = ⟨#[72]⟩ := e_H
        have em0 : decide (ktext k = ("many" : Str)) = !k := by cases k <;> decide +kernel
        refine i_dec (fun h4 => ?_) (fun n4 => ?_)
        · subst h4
          acc_peel
          rw [str1 104 72 _ e_H]
          acc_peel
          rw [show decide (104 = 72) = false from rfl]
          acc_peel
          rw [em0]
          cases k with
          | true =>
            acc_peel
            exact fin false (fun x => by rw [nm_h, if_neg (fun w => Bool.noConfusion w.2.2), if_neg (fun w => Bool.noConfusion w.2)]) (.inl rfl)
          | false =>
            acc_peel
            refine fin _ (fun x => ?_) (.inl rfl)
            rw [nm_h]
            by_cases h0 : x = 0 ∧ 0 < rch ((tl z).take i)
            · rw [if_pos ⟨h0.1, h0.2, rfl⟩, if_pos ⟨h0.1, decide_eq_true h0.2⟩]
            · rw [if_neg (fun w => h0 ⟨w.1, w.2.1⟩), if_neg (fun w => h0 ⟨w.1, of_decide_eq_true w.2⟩)]
        · acc_peel
          rw [str1 c 72 _ e_H]
          refine i_dec (fun h7 => ?_) (fun n7 => ?_)
          · subst h7
            acc_peel
            rw [str1 72 72 _ e_H]
            rw [show decide (72 = 72) = true from rfl]
            acc_peel
            refine fin true (fun x => ?_) (.inr rfl)
            rw [nm_H]
            by_cases h0 : x = 0
            · rw [if_pos h0, if_pos ⟨h0, rfl⟩]
            · rw [if_neg h0, if_neg (fun w => h0 w.1)]
          · acc_peel
            refine ⟨Same.refl H2, m, v6, v7, ?_, hmH, nmt, fun j p hj e => ?_, ?_⟩
            · rw [show (mrow ((tl z).take i) k).map (fun x => nm c k (rch ((tl z).take i)) x) = mrow ((tl z).take i) k from (List.map_congr_left (g := id) fun x _ => nm_o na n4 n7).trans (List.map_id _)]
              exact m1
            · obtain ⟨ts, a1, a2, a3⟩ := row1 j p hj
              rw [e, m1] at a1
              have e5 := HO.lst.inj (Option.some.inj a1)
              have e6 := mapI_at (mrow_at (l := (tl z).take i) (o := k) (Nat.zero_le _))
              rw [e5] at e6
              obtain ⟨p', e8, _⟩ := mapR_get e6
              cases e8
            · rw [show nr c (rch ((tl z).take i)) = rch ((tl z).take i) by unfold nr; rw [if_neg na, if_neg (by rintro (w | w); exact n4 w; exact n7 w)]]; rfl
    rintro σ H3 ⟨sm3, m2, w6, w7, hm2, hm2H, nm2t, npm2, rfl⟩
    have er := rch_succ hc
    rw [← er]
    have t3 := sm3 _ _ t1
    acc_peel
    refine x_pairs (K := K) (i := 2) (j := 6) (n := 3) (r := rch ((tl z).take (i + 1))) (by rw [List.length_map]; omega) hm2 (fun _ => rfl) (fun _ => rfl) (fun _ => rfl) rfl (fun H4 D ts hD sm4 h4 hts ht4 => ?_)
    rw [List.length_map, ml] at hts
    acc_peel
    refine ⟨sz (by show 2 ≤ 100000; decide), fun t5 ht5 => ?_⟩
    acc_peel
    have sm5 := Same.new (o := .tup [.int (rch ((tl z).take (i + 1))), .int (rch ((tl z).take (i + 1)))]) sm4 ht5
    have e5 : upd H4 t5 (.tup [.int (rch ((tl z).take (i + 1))), .int (rch ((tl z).take (i + 1)))]) t5 = _ := upd_same
    have ht5' : ∀ (j : Nat) (t : Addr) (x : Int), ts[j]? = some t → ((mrow ((tl z).take i) k).map fun x => nm c k (rch ((tl z).take i)) x)[j]? = some x → upd H4 t5 (.tup [.int (rch ((tl z).take (i + 1))), .int (rch ((tl z).take (i + 1)))]) t = some (.tup [.int (rch ((tl z).take (i + 1))), .int x]) := fun j t x a b => upd_at (ne_of_none (ht4 j t x a b) ht5) (ht4 j t x a b)
    have h5 := upd_at (o := .tup [.int (rch ((tl z).take (i + 1))), .int (rch ((tl z).take (i + 1)))]) (ne_of_none h4 ht5) h4
    generalize upd H4 t5 (.tup [.int (rch ((tl z).take (i + 1))), .int (rch ((tl z).take (i + 1)))]) = H5 at sm5 e5 ht5' h5 ⊢
    refine ⟨sz (by show 1 ≤ 100000; decide), fun u hu => ?_⟩
    refine r_cat (upd_at (ne_of_none h5 hu) h5) upd_same (sz (by rw [List.length_map]; show _ + 1 ≤ _; omega)) (fun r hr => ?_)
    have sm6 := Same.new (o := .lst (ts.map V.ref ++ [.ref t5])) (Same.new (o := .lst [.ref t5]) sm5 hu) hr
    have up : ∀ {b : Addr} {o : HO}, H5 b = some o → upd (upd H5 u (.lst [.ref t5])) r (.lst (ts.map V.ref ++ [.ref t5])) b = some o := fun {b o} e => upd_at (ne_of_none (upd_at (ne_of_none e hu) e) hr) (upd_at (ne_of_none e hu) e)
    have h6 : upd (upd H5 u (.lst [.ref t5])) r (.lst (ts.map V.ref ++ [.ref t5])) r = _ := upd_same
    have e6 := up e5
    have ht6 : ∀ (j : Nat) (t : Addr) (x : Int), ts[j]? = some t → ((mrow ((tl z).take i) k).map fun x => nm c k (rch ((tl z).take i)) x)[j]? = some x → upd (upd H5 u (.lst [.ref t5])) r (.lst (ts.map V.ref ++ [.ref t5])) t = some (.tup [.int (rch ((tl z).take (i + 1))), .int x]) := fun j t x a b => up (ht5' j t x a b)
    generalize upd (upd H5 u (.lst [.ref t5])) r (.lst (ts.map V.ref ++ [.ref t5])) = H6 at sm6 h6 e6 ht6 up ⊢
    clear ht5' ht4 hu hr
    have new6 : PairsAt H6 r ((tl z).take (i + 1)) k := by
      refine ⟨ts ++ [t5], by rw [h6, map_snocR], by rw [List.length_append, hts, List.length_take]; show _ + 1 = _; omega, fun j t' hj => ?_⟩
      by_cases hjl : j < ts.length
      · rw [List.getElem?_append_left hjl] at hj
        refine ht6 j t' _ hj ?_
        have e := mrow_at (l := (tl z).take (i + 1)) (o := k) (i := j) (by rw [List.length_take]; omega)
        rw [mrow_succ hc, List.getElem?_append_left (by rw [List.length_map, ml]; omega)] at e
        exact e
      · have ej : j = i + 1 := by
          have := (List.getElem?_eq_some_iff.mp hj).1
          rw [List.length_append, List.length_singleton] at this
          omega
        subst ej
        rw [List.getElem?_append_right (by omega), hts, Nat.sub_self] at hj
        have : t5 = t' := Option.some.inj hj
        subst this
        rw [numF_new (by omega)]
        exact e6
    have t6 := sm6 _ _ t3
    have smA := sm3.trans sm6
    have m6 := sm6 _ _ hm2
    refine a_nil ?_
    have rows6 : ∀ (j : Nat) (x : Addr), rs[j]? = some x → ∃ l', PairsAt H6 x l' k := fun j x hj => ⟨_, (row1 j x hj).mono smA⟩
    have nr6 : r ≠ t := fun e => by
      have a := (new6.mut (u := .lst []) t6 rows6)
      obtain ⟨ts', a1, a2, _⟩ := a
      rw [e, upd_same] at a1
      have e9 := HO.lst.inj (Option.some.inj a1)
      have l9 := congrArg List.length e9
      rw [List.length_map, a2] at l9
      cases l9
    refine r_app t6 (szl (by rw [List.length_map]; omega)) ?_
    have et1 : ((tl z).take (i + 1)).length = i + 1 := by rw [List.length_take]; omega
    refine ⟨Same.mut (sm1.trans smA) htH, rs ++ [r], m2, _, _, _, by rw [upd_same, map_snocR], by rw [List.length_append, hrs]; rfl, fun j p hj => ?_, ?_, hm2H, nm2t, fun j p hj => ?_, rfl⟩
    · by_cases hjl : j < rs.length
      · rw [List.getElem?_append_left hjl] at hj
        exact ((row1 j p hj).mono smA).mut t6 rows6
      · have ej : j = i + 1 := by
          have := (List.getElem?_eq_some_iff.mp hj).1
          rw [List.length_append, List.length_singleton] at this
          omega
        subst ej
        rw [List.getElem?_append_right (by omega), hrs, Nat.sub_self] at hj
        have : r = p := Option.some.inj hj
        subst this
        exact new6.mut t6 rows6
    · have e9 : (mrow ((tl z).take (i + 1)) k).take (i + 1) = (mrow ((tl z).take i) k).map fun x => nm c k (rch ((tl z).take i)) x := by
        rw [mrow_succ hc]
        exact List.take_left' (by rw [List.length_map, ml])
      rw [upd_ne nm2t, m6, e9]
    · by_cases hjl : j < rs.length
      · rw [List.getElem?_append_left hjl] at hj
        exact npm2 j p hj
      · have ej : j = i + 1 := by
          have := (List.getElem?_eq_some_iff.mp hj).1
          rw [List.length_append, List.length_singleton] at this
          omega
        subst ej
        rw [List.getElem?_append_right (by omega), hrs, Nat.sub_self] at hj
        have : r = p := Option.some.inj hj
        subst this
        intro e
        rw [e, m6] at h6
        have e9 := HO.lst.inj (Option.some.inj h6)
        have e10 : ((((mrow ((tl z).take i) k).map fun x => nm c k (rch ((tl z).take i)) x)).map V.int)[0]? = some (.int _) := mapI_at (List.getElem?_eq_getElem (by rw [List.length_map, ml]; omega))
        rw [e9, ← map_snocR] at e10
        obtain ⟨p', e11, _⟩ := mapR_get e10
        cases e11
  · rintro σ H1 ⟨sm, rs, m, v5, v6, v7, h1, hrs, hrow, hm, hmH, nmt, npm, rfl⟩
    acc_peel
    exact q H1 t htH sm ⟨rs, h1, by rw [hrs, tl1], hrow⟩

theorem fl_app (a b : List Nat) : fl (a ++ b) = fl a ++ fl b := List.filter_append ..
theorem fl_one (c : Nat) : fl [c] = if c = 97 ∨ c = 104 ∨ c = 72 then [c] else [] := by
  unfold fl
  by_cases h : c = 97 ∨ c = 104 ∨ c = 72
  · rw [if_pos h, List.filter_cons_of_pos (p := fun c => decide (c = 97 ∨ c = 104 ∨ c = 72)) (decide_eq_true h)]; rfl
  · rw [if_neg h, List.filter_cons_of_neg (p := fun c => decide (c = 97 ∨ c = 104 ∨ c = 72)) (by rw [decide_eq_false h]; exact Bool.false_ne_true)]; rfl
theorem nr_idle {c : Nat} {r : Int} (h : ¬ (c = 97 ∨ c = 104 ∨ c = 72)) : nr c r = r := by
  unfold nr; rw [if_neg (fun e => h (.inl e)), if_neg (fun e => h (.inr e))]
theorem nm_idle {c : Nat} {o : Bool} {r m : Int} (h : ¬ (c = 97 ∨ c = 104 ∨ c = 72)) : nm c o r m = m := nm_o (fun e => h (.inl e)) (fun e => h (.inr (.inl e))) (fun e => h (.inr (.inr e)))
theorem nms_fl (o : Bool) : ∀ (l : List Nat) (p : Int × Int), nms o l p = nms o (fl l) p
  | [], _ => rfl
  | c :: l, p => by
    by_cases h : c = 97 ∨ c = 104 ∨ c = 72
    · have e : fl (c :: l) = c :: fl l := List.filter_cons_of_pos (p := fun c => decide (c = 97 ∨ c = 104 ∨ c = 72)) (decide_eq_true h)
      rw [e]
      exact nms_fl o l _
    · have e : fl (c :: l) = fl l := List.filter_cons_of_neg (p := fun c => decide (c = 97 ∨ c = 104 ∨ c = 72)) (by rw [decide_eq_false h]; exact Bool.false_ne_true)
      rw [e]
      show nms o l (nr c p.1, nm c o p.1 p.2) = _
      rw [nr_idle h, nm_idle h]
      exact nms_fl o l p
theorem rch_fl (l : List Nat) : rch l = rch (fl l) := by
  have a := nms_fst false l (0, 0)
  have b := nms_fst false (fl l) (0, 0)
  rw [nms_fl] at a
  exact a.symm.trans b
theorem sum_fl : ∀ l : List Nat, (l.map stp).sum = ((fl l).map stp).sum
  | [] => rfl
  | c :: l => by
    by_cases h : c = 97 ∨ c = 104 ∨ c = 72
    · have e : fl (c :: l) = c :: fl l := List.filter_cons_of_pos (p := fun c => decide (c = 97 ∨ c = 104 ∨ c = 72)) (decide_eq_true h)
      rw [e, List.map_cons, List.map_cons, List.sum_cons, List.sum_cons, sum_fl l]
    · have e : fl (c :: l) = fl l := List.filter_cons_of_neg (p := fun c => decide (c = 97 ∨ c = 104 ∨ c = 72)) (by rw [decide_eq_false h]; exact Bool.false_ne_true)
      rw [e, List.map_cons, List.sum_cons, sum_fl l, stp_o (fun q => h (.inl q)) (fun q => h (.inr q))]
      omega
theorem S_fl (l : List Nat) (i : Nat) : S l i = ((fl (l.take i)).map stp).sum := sum_fl _
theorem Put.start (l : List Nat) : Put l [] [] 0 := ⟨rfl, (fun c h => by cases h), rfl, rfl, (fun j v h => by cases h)⟩
theorem ge_snoc {α : Type} {xs : List α} {x y : α} {j : Nat} (h : (xs ++ [x])[j]? = some y) : (j < xs.length ∧ xs[j]? = some y) ∨ (j = xs.length ∧ x = y) := by
  by_cases hj : j < xs.length
  · rw [List.getElem?_append_left hj] at h
    exact .inl ⟨hj, h⟩
  · have := (List.getElem?_eq_some_iff.mp h).1
    rw [List.length_append, List.length_singleton] at this
    have e : j = xs.length := by omega
    subst e
    rw [List.getElem?_append_right (Nat.le_refl _), Nat.sub_self] at h
    exact .inr ⟨rfl, Option.some.inj h⟩
theorem at_snoc {α : Type} {xs : List α} {x : α} : (xs ++ [x])[xs.length]? = some x := by
  rw [List.getElem?_append_right (Nat.le_refl _), Nat.sub_self]; rfl
theorem Put.idle {l F N : List Nat} {k c : Nat} (h : Put l F N k) (hc : c ∈ L6) (hi : ¬ (c = 97 ∨ c = 104 ∨ c = 72)) : Put l (F ++ [c]) (N ++ [k + 1]) k := by
  refine ⟨by rw [List.length_append, List.length_append, h.len]; rfl, fun d hd => ?_, ?_, ?_, fun j v hj => ?_⟩
  · rcases List.mem_append.mp hd with z | z
    · exact h.ok d z
    · rw [List.mem_singleton.mp z]; exact hc
  · rw [fl_app, fl_one, if_neg hi, List.append_nil]; exact h.full
  · rw [List.getElem?_append_left (by rw [List.length_append]; show 0 < _ + 1; omega)]
    exact h.hd
  · rcases ge_snoc hj with ⟨j1, j2⟩ | ⟨rfl, rfl⟩
    · obtain ⟨v1, v2, v3, v4⟩ := h.each j v j2
      have jF : j < F.length := by rw [← h.len]; exact j1
      refine ⟨v1, v2, by rw [List.take_append_of_le_length (by omega)]; exact v3, ?_⟩
      rw [List.getElem?_append_left (by rw [List.length_append]; show j + 1 < _ + 1; omega), List.getElem?_append_left jF]
      exact v4
    · refine ⟨by omega, Nat.le_refl _, by rw [h.len, List.take_left' rfl]; exact h.full, .inl ⟨?_, c, by rw [h.len]; exact at_snoc, fun e => hi (.inr (.inl e))⟩⟩
      rw [show N.length + 1 = (N ++ [k + 1]).length by rw [List.length_append]; rfl]
      exact at_snoc
theorem Put.old {l F N : List Nat} {k c : Nat} (h : Put l F N k) (hc : c ∈ L6) (hk : l[k]? = some c) : Put l (F ++ [c]) (N ++ [k + 1]) (k + 1) := by
  refine ⟨by rw [List.length_append, List.length_append, h.len]; rfl, fun d hd => ?_, ?_, ?_, fun j v hj => ?_⟩
  · rcases List.mem_append.mp hd with z | z
    · exact h.ok d z
    · rw [List.mem_singleton.mp z]; exact hc
  · rw [fl_app, h.full, take_snoc hk, fl_app]
  · rw [List.getElem?_append_left (by rw [List.length_append]; show 0 < _ + 1; omega)]
    exact h.hd
  · rcases ge_snoc hj with ⟨j1, j2⟩ | ⟨rfl, rfl⟩
    · obtain ⟨v1, v2, v3, v4⟩ := h.each j v j2
      have jF : j < F.length := by rw [← h.len]; exact j1
      refine ⟨v1, by omega, by rw [List.take_append_of_le_length (by omega)]; exact v3, ?_⟩
      rw [List.getElem?_append_left (by rw [List.length_append]; show j + 1 < _ + 1; omega), List.getElem?_append_left jF]
      exact v4.imp (fun w => w) fun w => ⟨w.1, by omega, w.2.2⟩
    · refine ⟨by omega, by omega, by rw [h.len, List.take_left' rfl]; exact h.full, .inr ⟨?_, Nat.le_refl _, by rw [h.len, at_snoc]; exact hk.symm⟩⟩
      rw [show N.length + 1 = (N ++ [k + 1]).length by rw [List.length_append]; rfl]
      exact at_snoc
/-- what the finished one says at each place, the last one too -/
theorem Put.at {l F N : List Nat} (h : Put l F N l.length) {j v : Nat} (hj : (N ++ [l.length + 1])[j]? = some v) : 1 ≤ v ∧ v ≤ l.length + 1 ∧ j ≤ F.length ∧ fl (F.take j) = fl (l.take (v - 1)) ∧ fl (F.drop j) = fl (l.drop (v - 1)) := by
  have key : 1 ≤ v ∧ v ≤ l.length + 1 ∧ j ≤ F.length ∧ fl (F.take j) = fl (l.take (v - 1)) := by
    rcases ge_snoc hj with ⟨j1, j2⟩ | ⟨rfl, rfl⟩
    · obtain ⟨v1, v2, v3, _⟩ := h.each j v j2
      exact ⟨v1, v2, by rw [← h.len]; omega, v3⟩
    · refine ⟨by omega, Nat.le_refl _, by rw [h.len]; exact Nat.le_refl _, ?_⟩
      rw [h.len, List.take_of_length_le (Nat.le_refl _)]
      exact h.full
  obtain ⟨k1, k2, k3, k4⟩ := key
  refine ⟨k1, k2, k3, k4, ?_⟩
  have e := h.full
  rw [List.take_of_length_le (Nat.le_refl _)] at e
  rw [← List.take_append_drop j F, ← List.take_append_drop (v - 1) l, fl_app, fl_app, k4] at e
  exact List.append_cancel_left e
theorem Put.num {l F N : List Nat} (h : Put l F N l.length) {j v : Nat} (hj : (N ++ [l.length + 1])[j]? = some v) (o : Bool) : numF F o (j + 1) = numF l o v := by
  obtain ⟨v1, v2, v3, v4, v5⟩ := h.at hj
  unfold numF
  rw [nms_fl, nms_fl o (l.drop _), rch_fl, rch_fl (l.take _), Nat.add_sub_cancel, v4, v5]
theorem Put.surp {l F N : List Nat} (h : Put l F N l.length) {j v : Nat} (hj : (N ++ [l.length + 1])[j]? = some v) : surpF F (j + 1) = surpF l v := by
  obtain ⟨v1, v2, v3, v4, v5⟩ := h.at hj
  unfold surpF
  rw [S_drop F _ (by omega), S_drop l _ (by omega), sum_fl (F.drop _), sum_fl (l.drop _), rch_fl, rch_fl (l.take _), Nat.add_sub_cancel, v4, v5]
theorem Put.rchs {l F N : List Nat} (h : Put l F N l.length) : rch F = rch l := by
  have e := h.full
  rw [List.take_of_length_le (Nat.le_refl _)] at e
  rw [rch_fl, e, ← rch_fl]
theorem Put.sum {l F N : List Nat} (h : Put l F N l.length) {j v : Nat} (hj : (N ++ [l.length + 1])[j]? = some v) : S F j = S l (v - 1) := by
  obtain ⟨v1, v2, v3, v4, v5⟩ := h.at hj
  rw [S_fl, S_fl, v4]
theorem Put.next {l F N : List Nat} {k : Nat} (h : Put l F N k) {j v w : Nat} (hj : N[j]? = some v) (hw : (N ++ [k + 1])[j + 1]? = some w) : w = v ∨ w = v + 1 := by
  obtain ⟨_, _, _, v4⟩ := h.each j v hj
  rcases v4 with ⟨a, _⟩ | ⟨a, _⟩
  · rw [hw] at a; exact .inl (Option.some.inj a)
  · rw [hw] at a; exact .inr (Option.some.inj a)
theorem Put.step {l F N : List Nat} {k : Nat} (h : Put l F N k) {j v w : Nat} (hj : (N ++ [k + 1])[j]? = some v) (hw : (N ++ [k + 1])[j + 1]? = some w) : w = v ∨ w = v + 1 := by
  rcases ge_snoc hj with ⟨_, j2⟩ | ⟨rfl, _⟩
  · exact h.next j2 hw
  · have := (List.getElem?_eq_some_iff.mp hw).1
    rw [List.length_append, List.length_singleton] at this
    omega
theorem Put.mono {l F N : List Nat} {k : Nat} (h : Put l F N k) {i v : Nat} (hi : (N ++ [k + 1])[i]? = some v) : ∀ (d w : Nat), (N ++ [k + 1])[i + d]? = some w → v ≤ w
  | 0, w, hw => by
    have hw' : (N ++ [k + 1])[i]? = some w := hw
    rw [hi] at hw'
    rw [Option.some.inj hw']
    exact Nat.le_refl _
  | d + 1, w, hw => by
    have hl := (List.getElem?_eq_some_iff.mp hw).1
    obtain ⟨u, hu⟩ : ∃ u, (N ++ [k + 1])[i + d]? = some u := ⟨_, List.getElem?_eq_getElem (by omega)⟩
    have a := h.mono hi d u hu
    rcases h.step hu (show (N ++ [k + 1])[i + d + 1]? = some w from hw) with e | e <;> omega
/-- each number between is there -/
theorem Put.hits {l F N : List Nat} {k : Nat} (h : Put l F N k) {i v : Nat} (hi : (N ++ [k + 1])[i]? = some v) : ∀ (d w : Nat), (N ++ [k + 1])[i + d]? = some w → ∀ m, v ≤ m → m ≤ w → ∃ j, i ≤ j ∧ j ≤ i + d ∧ (N ++ [k + 1])[j]? = some m
  | 0, w, hw, m, h1, h2 => by
    have e : v = w := by
      have hw' : (N ++ [k + 1])[i]? = some w := hw
      rw [hi] at hw'
      exact Option.some.inj hw'
    exact ⟨i, Nat.le_refl _, by omega, by rw [hi]; congr 1; omega⟩
  | d + 1, w, hw, m, h1, h2 => by
    have hl := (List.getElem?_eq_some_iff.mp hw).1
    obtain ⟨u, hu⟩ : ∃ u, (N ++ [k + 1])[i + d]? = some u := ⟨_, List.getElem?_eq_getElem (by omega)⟩
    by_cases hm : m ≤ u
    · obtain ⟨j, j1, j2, j3⟩ := h.hits hi d u hu m h1 hm
      exact ⟨j, j1, by omega, j3⟩
    · have e : m = w := by rcases h.step hu (show (N ++ [k + 1])[i + d + 1]? = some w from hw) with e | e <;> omega
      exact ⟨i + d + 1, by omega, by omega, by rw [e]; exact hw⟩
theorem Put.gate {l F N : List Nat} (h : Put l F N l.length) {k v w : Nat} (hk : N[k]? = some v) (hw : (N ++ [l.length + 1])[k + 1]? = some w) : Gate F k ↔ (v - 1 < l.length ∧ Gate l (v - 1)) ∧ v ≠ w := by
  have hk' : (N ++ [l.length + 1])[k]? = some v := by
    rw [List.getElem?_append_left (List.getElem?_eq_some_iff.mp hk).1]; exact hk
  have hkN := (List.getElem?_eq_some_iff.mp hk).1
  obtain ⟨v1, v2, _, v4⟩ := h.each k v hk
  have lenA : (N ++ [l.length + 1]).length = F.length + 1 := by rw [List.length_append, h.len]; rfl
  have lastA : (N ++ [l.length + 1])[F.length]? = some (l.length + 1) := by rw [← h.len]; exact at_snoc
  refine ⟨fun g => ?_, fun ⟨⟨g0, g⟩, hne⟩ => ?_⟩
  · rcases v4 with ⟨_, c, c1, c2⟩ | ⟨a1, a2, a3⟩
    · have := g.1
      rw [c1] at this
      exact absurd (Option.some.inj this) c2
    · have ew : w = v + 1 := by rw [hw] at a1; exact Option.some.inj a1
      subst ew
      have g1 := g.1
      rw [a3] at g1
      refine ⟨⟨(List.getElem?_eq_some_iff.mp g1).1, g1, fun a b ha hb hbn => ?_⟩, by omega⟩
      obtain ⟨i, i1, i2, i3⟩ := h.hits h.hd k v (by rw [Nat.zero_add]; exact hk') (a + 1) (by omega) (by omega)
      obtain ⟨j, j1, j2, j3⟩ := h.hits hw (F.length - (k + 1)) (l.length + 1) (by rw [show k + 1 + (F.length - (k + 1)) = F.length by rw [← h.len]; omega]; exact lastA) (b + 1) (by omega) (by omega)
      have e1 := h.sum i3
      have e2 := h.sum j3
      rw [Nat.add_sub_cancel] at e1 e2
      rw [← e1, ← e2]
      exact g.2 i j (by omega) (by omega) (by rw [← h.len] at j2 ⊢; omega)
  · rcases v4 with ⟨a1, _⟩ | ⟨a1, a2, a3⟩
    · rw [hw] at a1
      exact absurd (Option.some.inj a1).symm hne
    · have ew : w = v + 1 := by rw [hw] at a1; exact Option.some.inj a1
      subst ew
      refine ⟨by rw [a3]; exact g.1, fun i j hi hj hjF => ?_⟩
      obtain ⟨u, hu⟩ : ∃ u, (N ++ [l.length + 1])[i]? = some u := ⟨_, List.getElem?_eq_getElem (by omega)⟩
      obtain ⟨x, hx⟩ : ∃ x, (N ++ [l.length + 1])[j]? = some x := ⟨_, List.getElem?_eq_getElem (by omega)⟩
      have m1 := h.mono hu (k - i) v (by rw [show i + (k - i) = k by omega]; exact hk')
      have m2 := h.mono hw (j - (k + 1)) x (by rw [show k + 1 + (j - (k + 1)) = j by omega]; exact hx)
      rw [h.sum hu, h.sum hx]
      obtain ⟨x1, x2, _⟩ := h.at hx
      obtain ⟨u1, _⟩ := h.at hu
      exact g.2 (u - 1) (x - 1) (by omega) (by omega) (by omega)
theorem mem_gatesF {l : List Nat} {x : Int} : x ∈ gatesF l ↔ ∃ q : Nat, q < l.length ∧ Gate l q ∧ x = (q : Int) + 1 := by
  classical
  unfold gatesF
  rw [List.mem_map]
  refine ⟨fun ⟨q, hq, e⟩ => ?_, fun ⟨q, h1, h2, e⟩ => ⟨q, ?_, e.symm⟩⟩
  · obtain ⟨a, b⟩ := List.mem_filter.mp hq
    exact ⟨q, List.mem_range.mp a, of_decide_eq_true b, e.symm⟩
  · exact List.mem_filter.mpr ⟨List.mem_range.mpr h1, decide_eq_true h2⟩
theorem inV_int {x : Int} {xs : List Int} : inV (.int x) (xs.map V.int) = decide (x ∈ xs) := by
  unfold inV
  rw [List.any_map]
  have : ∀ ys : List Int, ys.any ((fun y => eqV y (.int x)) ∘ V.int) = decide (x ∈ ys) := by
    intro ys
    induction ys with
    | nil => rfl
    | cons y ys ih =>
      rw [List.any_cons, ih]
      show (eqV (.int y) (.int x) || _) = _
      rw [eqI]
      by_cases h : y = x
      · simp [h]
      · have h' : ¬ x = y := fun e => h e.symm
        simp [h, h']
  exact this xs

theorem x_ofI {K : PySem.W.Frag} {zs : List Int} {a c p : Addr} {H : Hp} {Q : VK} {E : XK} (hb : BagAt a c H) (hp : H p = none) (hn : zs.length ≠ 0) (hl : zs.length ≤ 1000)
    (q : ∀ H' z, Sb a H H' → BagAt a c H' → z ∈ zs → Q (.int z) H') : sp__law_of K [.ref a, .ref p] (upd H p (.lst (zs.map V.int))) Q E := by
  refine ⟨a, c, p, _, rfl, hb.new hp, (hb.na hp).symm, upd_same, fun e => hn ?_, by rw [List.length_map]; exact hl, fun H' x sb hb' hx => ?_⟩
  · rw [List.map_eq_nil_iff.mp e]; rfl
  · obtain ⟨z, hd, rfl⟩ := List.mem_map.mp hx
    exact q H' z (fun b o n e => sb b o n (upd_at (ne_of_none e hp) e)) hb' hd
theorem nats_snoc (N : List Nat) (n : Nat) : nats (N ++ [n]) = nats N ++ [V.int (n : Int)] := by unfold nats; rw [List.map_append]; rfl
theorem nats_len (N : List Nat) : (nats N).length = N.length := by unfold nats; rw [List.length_map]
theorem nats_at {N : List Nat} {j v : Nat} (h : N[j]? = some v) : (nats N)[j]? = some (.int (v : Int)) := by unfold nats; rw [List.getElem?_map, h]; rfl
theorem tl_bdB : tl ("b.B" : Str) = [98, 46, 66] := by decide +kernel
theorem len__law_put_in {K : PySem.W.Frag} {vs : List V} {H : Hp} {Q : VK} {E : XK} (h : sp__law_put_in K vs H Q E) : vs.length = P__law_put_in.length := by
  obtain ⟨a, c, z, rfl, _⟩ := h; rfl
theorem pure__law_put_in {K : PySem.W.Frag} (vs : List V) (H : Hp) (Q : VK) (E : XK) (h : sp__law_put_in K vs H Q E) : r__law_put_in K { nx := fun _ H' => Q .non H', rt := Q } (start N__law_put_in vs) H := by
  obtain ⟨a, c, z, rfl, hb, ok, hl, q⟩ := h
  have tl1 := tl_len z
  unfold r__law_put_in
  acc_peel
  refine ⟨sz (by show 0 ≤ 100000; decide), fun s hs => ?_⟩
  have nsa := (hb.na hs).symm
  have nas := hb.na hs
  have ncs := hb.nc hs
  acc_peel
  refine s_for ?_
  refine i_rng1 ?_
  acc_peel
  refine b_lenS (by omega) ?_
  acc_peel
  refine ⟨_, rfl, by omega, by omega, for_range (lo := 0) (n := ((z.length : Int) + 1).toNat) (fun i σ H' => Sb a H H' ∧ BagAt a c H' ∧ ∃ (y : Str) (N : List Nat) (v4 v5 v6 : Option V), H' s = some (.lst (nats N)) ∧ Put (tl z) (tl y) N (min i z.length) ∧ y.length + z.length ≤ 39 + min i z.length ∧
      σ = [some (.ref a), some (.str z), some (.str y), some (.ref s), v4, v5, v6]) ⟨Sb.new (Sb.refl a H) hs, hb.new hs, "", [], none, none, none, upd_same, by rw [Nat.zero_min]; exact Put.start _, by rw [Nat.zero_min]; show 0 + _ ≤ _; omega, rfl⟩ ?_ ?_⟩
  · rintro i σ H1 hi ⟨sb1, hb1, y, N, v4, v5, v6, h1, hput, hyl, rfl⟩
    have hiz : i ≤ z.length := by omega
    rw [Nat.min_eq_left hiz] at hput hyl
    rw [show (0 : Int) + (i : Int) = ((i : Nat) : Int) by omega]
    acc_peel
    refine ⟨sz (by show 6 ≤ 100000; decide), fun p0 hp0 => ?_⟩
    acc_peel
    refine x_ofI (zs := [0, 1, 0, 2, 0, 3]) hb1 hp0 (by decide) (by decide) (fun H2 x sb2 hb2 hx => ?_)
    have hx03 : 0 ≤ x ∧ x ≤ 3 := by
      have : x = 0 ∨ x = 1 ∨ x = 0 ∨ x = 2 ∨ x = 0 ∨ x = 3 := by simpa using hx
      omega
    have h2 := sb2 _ _ nsa h1
    acc_peel
    refine s_cut (fun σ H' => Sb a H H' ∧ BagAt a c H' ∧ ∃ (y : Str) (N : List Nat) (v6 : Option V), H' s = some (.lst (nats N)) ∧ Put (tl z) (tl y) N i ∧ y.length + z.length ≤ 39 + i ∧
      σ = [some (.ref a), some (.str z), some (.str y), some (.ref s), some (.int (i : Int)), some (.int x), v6]) ?_ ?_
    · refine s_for ?_
      refine i_rng1 ?_
      acc_peel
      refine ⟨_, rfl, by omega, by omega, for_range (lo := 0) (n := x.toNat) (fun j σ H' => Sb a H H' ∧ BagAt a c H' ∧ ∃ (y : Str) (N : List Nat) (v6 : Option V), H' s = some (.lst (nats N)) ∧ Put (tl z) (tl y) N i ∧ y.length + z.length ≤ 39 + i ∧
        σ = [some (.ref a), some (.str z), some (.str y), some (.ref s), some (.int (i : Int)), some (.int x), v6]) ⟨sb1.trans sb2, hb2, y, N, v6, h2, hput, hyl, rfl⟩ ?_ (fun σ H' h => h)⟩
      rintro j σ H3 hj ⟨sb3, hb3, y, N, w6, h3, hput, hyl, rfl⟩
      acc_peel
      refine b_lenS (by omega) ?_
      acc_peel
      refine b_lenS (by omega) ?_
      acc_peel
      refine i_dec (fun hlt => ?_) (fun hlt => ?_)
      · acc_peel
        refine ⟨a, c, _, rfl, hb3, by decide, by decide, fun H4 d sb4 hb4 hd => ?_⟩
        rw [tl_bdB] at hd
        have hd' : d = 98 ∨ d = 46 ∨ d = 66 := by simpa using hd
        refine r_addS (sz (by show _ + 1 ≤ _; omega)) ?_
        have h4 := sb4 _ _ nsa h3
        acc_peel
        refine r_app h4 (szl (by rw [nats_len, hput.len, tl_len]; omega)) ?_
        refine ⟨Sb.mut (sb3.trans sb4) hs, hb4.mut nas ncs, y ++ ⟨#[d]⟩, N ++ [i + 1], _, by rw [upd_same, nats_snoc]; rfl, ?_, ?_, rfl⟩
        · show Put (tl z) (TL.tl _) _ _
          rw [TL.tl_append]
          exact hput.idle (by rcases hd' with rfl | rfl | rfl <;> decide) (by rcases hd' with rfl | rfl | rfl <;> decide)
        · rw [str_app_len]; show _ + 1 + _ ≤ _; omega
      · acc_peel
        exact ⟨sb3, hb3, y, N, _, h3, hput, hyl, rfl⟩
    clear h2 hx hx03 hb2 sb2 h1 hb1 sb1 hput hyl hp0
    rintro σ H3 ⟨sb3, hb3, y, N, w6, h3, hput, hyl, rfl⟩
    acc_peel
    refine b_lenS (by omega) ?_
    acc_peel
    refine i_dec (fun hlt => ?_) (fun hlt => ?_)
    · have hil : i < z.length := by omega
      obtain ⟨d, hd⟩ : ∃ d, (tl z)[i]? = some d := ⟨_, List.getElem?_eq_getElem (by omega)⟩
      have hdz : z.cps[i]? = some d := by rw [← Array.getElem?_toList]; exact hd
      acc_peel
      refine r_itemS (c := d) (by omega) (by omega) (sz (by omega)) (by rw [Int.toNat_natCast]; exact hdz) ?_
      refine r_addS (sz (by show _ + 1 ≤ _; omega)) ?_
      acc_peel
      refine r_app h3 (szl (by rw [nats_len, hput.len, tl_len]; omega)) ?_
      rw [Nat.min_eq_left (show i + 1 ≤ z.length by omega)]
      refine ⟨Sb.mut sb3 hs, hb3.mut nas ncs, y ++ ⟨#[d]⟩, N ++ [i + 1], _, _, _, by rw [upd_same, nats_snoc]; rfl, ?_, ?_, rfl⟩
      · show Put (tl z) (TL.tl _) _ _
        rw [TL.tl_append]
        exact hput.old (ok d (List.mem_of_getElem? hd)) hd
      · rw [str_app_len]; show _ + 1 + _ ≤ _; omega
    · acc_peel
      have ei : i = z.length := by omega
      subst ei
      rw [Nat.min_eq_right (Nat.le_succ _)]
      exact ⟨sb3, hb3, y, N, _, _, _, h3, hput, hyl, rfl⟩
  · rintro σ H1 ⟨sb1, hb1, y, N, v4, v5, v6, h1, hput, hyl, rfl⟩
    rw [show ((z.length : Int) + 1).toNat = z.length + 1 by omega, Nat.min_eq_right (Nat.le_succ _)] at hput hyl
    acc_peel
    refine b_lenS (by omega) ?_
    acc_peel
    refine ⟨sz (by show 1 ≤ 100000; decide), fun u hu => ?_⟩
    refine r_cat (upd_at (ne_of_none h1 hu) h1) upd_same (sz (by rw [nats_len, hput.len, tl_len]; show _ + 1 ≤ _; omega)) (fun r hr => ?_)
    acc_peel
    refine ⟨sz (by show 2 ≤ 100000; decide), fun t ht => ?_⟩
    have sb2 := Sb.new (o := .lst [.int ((z.length : Int) + 1)]) sb1 hu
    have hb2 := hb1.new (o := .lst [.int ((z.length : Int) + 1)]) hu
    have nra := (hb2.na hr).symm
    have sb3 := Sb.new (o := .lst (nats N ++ [.int ((z.length : Int) + 1)])) sb2 hr
    have hb3 := hb2.new (o := .lst (nats N ++ [.int ((z.length : Int) + 1)])) hr
    have nta := (hb3.na ht).symm
    have er : upd (upd H1 u (.lst [.int ((z.length : Int) + 1)])) r (.lst (nats N ++ [.int ((z.length : Int) + 1)])) r = some (.lst (nats (N ++ [z.length + 1]))) := by rw [upd_same, nats_snoc]; rfl
    exact q _ t r y N (sb3.free nta ht) (sb2.free nra hr) (Sb.new sb3 ht) (hb3.new ht) upd_same (upd_at (ne_of_none er ht) er) hput (by omega)

theorem like_int_of {K : PySem.W.Frag} {H : Hp} {n : Nat} {i j : Int} (h : i = j) : Like K H n (.int i) (.int j) := by subst h; exact .int _
theorem like_tup_of {K : PySem.W.Frag} {H : Hp} {a b : Addr} {i j i' j' : Int} (ha : H a = some (.tup [.int i, .int j])) (hb : H b = some (.tup [.int i', .int j'])) (h1 : i = i') (h2 : j = j') : Like K H 1 (.ref a) (.ref b) := by
  subst h1 h2; exact like_pair ha hb
theorem PairsAt.bag {K : PySem.W.Frag} {H H' : Hp} {a c r : Addr} {l : List Nat} {k : Bool} (h : PairsAt H r l k) (hb : BagAt a c H) (s : Sb a H H') : PairsAt H' r l k := by
  obtain ⟨ts, h1, h2, h3⟩ := h
  obtain ⟨cs, i, x, m, n, ha, _⟩ := hb
  have nra : r ≠ a := fun e => by
    rw [e, ha] at h1
    have e2 := HO.lst.inj (Option.some.inj h1)
    have e3 : (ts.map V.ref)[1]? = some (.int i) := by rw [← e2]; rfl
    obtain ⟨p, e4, _⟩ := mapR_get e3
    cases e4
  exact ⟨ts, s _ _ nra h1, h2, fun j t hj => s _ _ (ne_tl (h3 j t hj) ha) (h3 j t hj)⟩
theorem PairsAt.at {H : Hp} {r : Addr} {l : List Nat} {k : Bool} (h : PairsAt H r l k) {j : Nat} (hj : j ≤ l.length) : ∃ (xs : List V) (t : Addr), H r = some (.lst xs) ∧ xs[j]? = some (.ref t) ∧ H t = some (.tup [.int (rch l), .int (numF l k (j + 1)).2]) := by
  obtain ⟨ts, h1, h2, h3⟩ := h
  have e := List.getElem?_eq_getElem (l := ts) (i := j) (by omega)
  exact ⟨_, _, h1, by rw [List.getElem?_map, e]; rfl, h3 j _ e⟩
theorem pure_law {K : PySem.W.Frag} (vs : List V) (H : Hp) (Q : VK) (E : XK) (h : sp_law K vs H Q E) : r_law K { nx := fun _ H' => Q .non H', rt := Q } (start N_law vs) H := by
  obtain ⟨sc, ns, rfl, hs, hl, q⟩ := h
  unfold r_law
  acc_peel
  refine ⟨sc, ns, rfl, hs, hl, fun H0 a c ha sm0 hb0 => ?_⟩
  clear sm0 ha
  acc_peel
  refine s_for ?_
  refine i_rng1 ?_
  acc_peel
  refine ⟨_, rfl, by decide, by decide, for_range (lo := 0) (n := (2 : Int).toNat) (fun i σ H' => ∃ v2 v3 v4 v5 v6 v7 v8 v9 v10 v11 v12 v13 v14 v15 v16 : Option V, σ = [some (.ref sc), some (.ref a), v2, v3, v4, v5, v6, v7, v8, v9, v10, v11, v12, v13, v14, v15, v16] ∧ BagAt a c H')
    ⟨none, none, none, none, none, none, none, none, none, none, none, none, none, none, none, rfl, hb0⟩ ?_ ?_⟩
  · rintro i σ H1 hi ⟨v2, v3, v4, v5, v6, v7, v8, v9, v10, v11, v12, v13, v14, v15, v16, rfl, hb1⟩
    refine g_name ?_
    refine s_cut (fun σ H' => ∃ z : Str, σ = [some (.ref sc), some (.ref a), some (.int (0 + (i : Int))), some (.str z), v4, v5, v6, v7, v8, v9, v10, v11, v12, v13, v14, v15, v16] ∧ BagAt a c H' ∧ okL (tl z) ∧ z.length ≤ 16) ?_ ?_
    · acc_peel
      refine ⟨a, c, _, rfl, hb1, by decide, by decide, fun H2 d sb2 hb2 d0 d1 => ?_⟩
      acc_peel
      refine i_dec (fun _ => ?_) (fun _ => ?_)
      · acc_peel
        refine ⟨a, c, _, _, rfl, hb2, by decide, by decide, by decide, fun H3 z sb3 hb3 ok hz => ?_⟩
        acc_peel
        exact ⟨z, rfl, hb3, ok, by omega⟩
      · acc_peel
        refine ⟨a, c, _, _, rfl, hb2, by decide, by decide, by decide, fun H3 z sb3 hb3 ok hz => ?_⟩
        acc_peel
        exact ⟨z, rfl, hb3, ok, by omega⟩
    clear hb1
    rintro σ H2 ⟨z, rfl, hb2, ok, hl0⟩
    refine s_cut (fun σ H' => ∃ (z : Str) (v4 : Option V), σ = [some (.ref sc), some (.ref a), some (.int (0 + (i : Int))), some (.str z), v4, v5, v6, v7, v8, v9, v10, v11, v12, v13, v14, v15, v16] ∧ BagAt a c H' ∧ okL (tl z) ∧ z.length ≤ 16) ?_ ?_
    · acc_peel
      refine i_dec (fun _ => ?_) (fun _ => ?_)
      · refine s_asg ?_
        refine e_hlh (z0 := z) (a := a) (c := c) rfl (fun _ => rfl) (fun _ => rfl) (fun _ => rfl) hb2 ok (by omega) (fun H5 y sb5 hb5 oky hy => ?_)
        acc_peel
        exact ⟨y, _, rfl, hb5, oky, by omega⟩
      · acc_peel
        exact ⟨z, _, rfl, hb2, ok, hl0⟩
    clear hb2 ok hl0
    clear z
    rintro σ H2 ⟨z, w4, rfl, hb2, ok, hl0⟩
    have tl1 := tl_len z
    acc_peel
    refine ⟨a, c, z, rfl, hb2, ok, by omega, fun H3 t s y N ht hs0 sb3 hb3 h3t h3s hput hyl => ?_⟩
    have nsa : s ≠ a := (hb2.na hs0).symm
    rw [← tl1] at h3s hput
    have tl2 := tl_len y
    refine g_unl (SqL.at h3t) rfl ?_
    clear sb3 hb2 ht hs0 h3t
    acc_peel
    refine e_make ?_
    acc_peel
    refine ⟨z, rfl, by omega, ?_⟩
    obtain ⟨rt1, rt2, rt3⟩ := text_ok ok (by omega)
    acc_peel
    refine x_rota rt1 rt3 (fun H4 p sm4 hp4 => ?_)
    rw [rt2] at hp4
    acc_peel
    refine e_make ?_
    acc_peel
    refine ⟨y, rfl, by omega, ?_⟩
    obtain ⟨ry1, ry2, ry3⟩ := text_ok hput.ok (by omega)
    acc_peel
    refine x_rota ry1 ry3 (fun H5 r sm5 hr5 => ?_)
    rw [ry2] at hr5
    have hp5 := hp4.mono sm5
    have hb5 := hb3.mono (sm4.trans sm5)
    have hs5 := (sm4.trans sm5) _ _ h3s
    clear hp4 sm4 sm5 hb3 h3s rt1 rt2 rt3 ry1 ry2 ry3
    acc_peel
    refine ⟨sz (by show 2 ≤ 100000; decide), fun p0 hp0 => ?_⟩
    acc_peel
    refine x_ofT (zs := ["many", "once"]) (Pz := fun w => ∃ k, w = ktext k) hb5 hp0 (by decide) (by decide) (fun w hw => ?_) (fun H6 md sb6 hb6 hmd => ?_)
    · rcases List.mem_cons.mp hw with e | e
      · exact ⟨false, e⟩
      · exact ⟨true, List.mem_singleton.mp e⟩
    obtain ⟨k, rfl⟩ := hmd
    have hp6 := hp5.bag hb5 sb6
    have hr6 := hr5.bag hb5 sb6
    have hs6 := sb6 _ _ nsa hs5
    clear hp5 hr5 hs5 hb5 sb6 hp0
    acc_peel
    refine e_make ?_
    acc_peel
    refine r_addS (sz (by rw [ktext_len]; decide)) ?_
    acc_peel
    refine x_world (k := k) (d := 0) (by cases k <;> decide +kernel) (by decide) (fun H7 w sm7 hw7 => ?_)
    acc_peel
    refine ⟨z, k, rfl, by omega, fun H8 u hu sm8 hsums => ?_⟩
    acc_peel
    refine b_lenS (by omega) ?_
    obtain ⟨rs, g1, g2, g3⟩ := hsums
    have grw := List.getElem?_eq_getElem (l := rs) (i := z.length) (by omega)
    generalize rs[z.length] = rw8 at grw
    have hrow := g3 _ _ grw
    rw [List.take_of_length_le (by omega)] at hrow
    refine r_ixLk (SqL.at g1) (k := z.length) rfl (by rw [List.getElem?_map, grw]; rfl) ?_
    have hp8 := hp6.mono (sm7.trans sm8)
    have hr8 := hr6.mono (sm7.trans sm8)
    have hs8 := (sm7.trans sm8) _ _ hs6
    have hw8 := hw7.mono sm8
    have hb8 := hb6.mono (sm7.trans sm8)
    clear hp6 hr6 hs6 hw7 hb6 g1 g2 g3 grw hu sm7 sm8
    acc_peel
    -- the first loop
    refine s_for ?_
    refine i_rng2 ?_
    acc_peel
    refine b_lenS (by omega) ?_
    acc_peel
    refine ⟨_, _, rfl, by omega, for_range (lo := 1) (n := ((z.length : Int) + 2 - 1).toNat) (fun i' σ H' => Same H8 H' ∧ ∃ v12 : Option V, σ = [some (.ref sc), some (.ref a), some (.int (0 + (i : Int))), some (.str z), w4, some (.str y), some (.ref s), some (.ref p), some (.ref r), some (.str (ktext k)), some (.ref w), some (.ref rw8), v12, v13, v14, v15, v16])
      ⟨Same.refl H8, _, rfl⟩ ?_ ?_⟩
    · rintro j σ H9 hj ⟨sm9, w12, rfl⟩
      rw [show (1 : Int) + (j : Int) = ((j + 1 : Nat) : Int) by omega]
      acc_peel
      refine ⟨p, z, k, j + 1, rfl, hp8.mono sm9, by omega, by omega, by omega, fun H10 t2 sm10 h10 => ?_⟩
      rw [numF_fst] at h10
      obtain ⟨xs, tt, e1, e2, e3⟩ := (hrow.mono (sm9.trans sm10)).at (j := j) (by omega)
      acc_peel
      refine r_ixLk (SqL.at e1) (k := j) (by omega) e2 ?_
      acc_peel
      refine ⟨_, _, rfl, like_tup_of h10 e3 rfl rfl, ?_⟩
      acc_peel
      have sm10' := sm9.trans sm10
      refine ⟨p, z, j + 1, rfl, hp8.mono sm10', ok, by omega, by omega, by omega, fun H11 sm11 => ?_⟩
      acc_peel
      rw [show ((j + 1 : Nat) : Int) - 1 = ((j : Nat) : Int) by omega]
      refine r_slS (by omega) ?_
      acc_peel
      refine ⟨_, k, rfl, by rw [cut_to_len (by omega)]; omega, fun H12 t3 ht3 sm12 hs12 => ?_⟩
      rw [tl_to (by omega)] at hs12
      obtain ⟨rs, g1, g2, g3⟩ := hs12
      rw [List.length_take] at g2
      have grw := List.getElem?_eq_getElem (l := rs) (i := j) (by omega)
      generalize rs[j] = rw9 at grw
      have hrow9 := g3 _ _ grw
      rw [List.take_take, Nat.min_self] at hrow9
      obtain ⟨xs9, tt9, f1, f2, f3⟩ := hrow9.at (j := 0) (Nat.zero_le _)
      acc_peel
      refine r_ixLk (SqL.at g1) (k := j) (by omega) (by rw [List.getElem?_map, grw]; rfl) ?_
      refine e_c ?_
      refine r_ixLk (SqL.at f1) (k := 0) rfl f2 ?_
      acc_peel
      refine b_lenS (by omega) ?_
      acc_peel
      refine ⟨z, j + 1, z.length, rfl, by omega, by omega, by omega, Nat.le_refl _, ?_⟩
      acc_peel
      refine ⟨_, _, rfl, like_int_of ?_, ?_⟩
      · unfold surpF
        rw [Nat.add_sub_cancel, tl1]
      acc_peel
      exact ⟨(sm10'.trans sm11).trans sm12, _, rfl⟩
    rintro σ H9 ⟨sm9, w12, rfl⟩
    have hp9 := hp8.mono sm9
    have hr9 := hr8.mono sm9
    have hs9 := sm9 _ _ hs8
    have hw9 := hw8.mono sm9
    have hb9 := hb8.mono sm9
    have hrow9 := hrow.mono sm9
    clear hp8 hr8 hs8 hw8 hb8 hrow sm9
    have lenA : (N ++ [(tl z).length + 1]).length = y.length + 1 := by rw [List.length_append, hput.len, tl2]; rfl
    acc_peel
    -- the second loop
    refine s_for ?_
    refine i_rng2 ?_
    acc_peel
    refine b_lenS (by omega) ?_
    acc_peel
    refine ⟨_, _, rfl, by omega, for_range (lo := 1) (n := ((y.length : Int) + 2 - 1).toNat) (fun i' σ H' => Same H9 H' ∧ ∃ v12 : Option V, σ = [some (.ref sc), some (.ref a), some (.int (0 + (i : Int))), some (.str z), w4, some (.str y), some (.ref s), some (.ref p), some (.ref r), some (.str (ktext k)), some (.ref w), some (.ref rw8), v12, v13, v14, v15, v16])
      ⟨Same.refl H9, _, rfl⟩ ?_ ?_⟩
    · rintro j σ H10 hj ⟨sm10, x12, rfl⟩
      rw [show (1 : Int) + (j : Int) = ((j + 1 : Nat) : Int) by omega]
      obtain ⟨v, hv⟩ : ∃ v, (N ++ [(tl z).length + 1])[j]? = some v := ⟨_, List.getElem?_eq_getElem (by omega)⟩
      obtain ⟨b1, b2, b3, _⟩ := hput.at hv
      acc_peel
      refine ⟨r, y, k, j + 1, rfl, hr9.mono sm10, by omega, by omega, by omega, fun H11 t2 sm11 h11 => ?_⟩
      rw [numF_fst, hput.rchs, hput.num hv] at h11
      have sm11' := sm10.trans sm11
      obtain ⟨xs, tt, e1, e2, e3⟩ := (hrow9.mono sm11').at (j := v - 1) (by omega)
      rw [show v - 1 + 1 = v by omega] at e3
      acc_peel
      refine r_ixLk (SqL.at (sm11' _ _ hs9)) (k := j) (by omega) (nats_at hv) ?_
      acc_peel
      refine r_ixLk (SqL.at e1) (k := v - 1) (by omega) e2 ?_
      acc_peel
      refine ⟨_, _, rfl, like_tup_of h11 e3 rfl rfl, ?_⟩
      acc_peel
      refine ⟨r, y, j + 1, rfl, hr9.mono sm11', hput.ok, by omega, by omega, by omega, fun H12 sm12 => ?_⟩
      have sm12' := sm11'.trans sm12
      acc_peel
      refine r_ixLk (SqL.at (sm12' _ _ hs9)) (k := j) (by omega) (nats_at hv) ?_
      acc_peel
      refine ⟨p, z, v, rfl, hp9.mono sm12', ok, by omega, by omega, by omega, fun H13 sm13 => ?_⟩
      rw [hput.surp hv]
      acc_peel
      refine i_ndec (fun z => absurd rfl z) (fun _ => ?_)
      acc_peel
      exact ⟨sm12'.trans sm13, _, rfl⟩
    rintro σ H10 ⟨sm10, x12, rfl⟩
    have hp10 := hp9.mono sm10
    have hr10 := hr9.mono sm10
    have hs10 := sm10 _ _ hs9
    have hw10 := hw9.mono sm10
    have hb10 := hb9.mono sm10
    have hrow10 := hrow9.mono sm10
    clear hp9 hr9 hs9 hw9 hb9 hrow9 sm10
    acc_peel
    refine ⟨z, rfl, by omega, fun H11 g hg sm11 h11 => ?_⟩
    acc_peel
    refine e_lc ?_
    refine i_rng1 ?_
    acc_peel
    refine b_lenS (by omega) ?_
    have hs11 := sm11 _ _ hs10
    refine ⟨_, rfl, by omega, by omega, fun D hD => lc_range (lo := 0) (n := (y.length : Int).toNat) (fun j H' => Same H11 H' ∧ H' D = some (.lst ((gatesUp (tl y) j).map V.int))) ⟨Same.new (Same.refl H11) hD, upd_same⟩ ?_ ?_⟩
    · rintro j H12 hj ⟨sm12, h12⟩
      rw [show (0 : Int) + (j : Int) = ((j : Nat) : Int) by omega]
      have hjN : j < N.length := by rw [hput.len, tl2]; omega
      obtain ⟨v, hv⟩ : ∃ v, N[j]? = some v := ⟨_, List.getElem?_eq_getElem hjN⟩
      have hv' : (N ++ [(tl z).length + 1])[j]? = some v := by rw [List.getElem?_append_left hjN]; exact hv
      obtain ⟨x, hx⟩ : ∃ x, (N ++ [(tl z).length + 1])[j + 1]? = some x := ⟨_, List.getElem?_eq_getElem (by omega)⟩
      obtain ⟨b1, b2, b3, _⟩ := hput.at hv'
      have hgate := hput.gate hv hx
      have hin : (v : Int) ∈ gatesF (tl z) ↔ v - 1 < (tl z).length ∧ Gate (tl z) (v - 1) := by
        rw [mem_gatesF]
        exact ⟨fun ⟨q, q1, q2, q3⟩ => by rw [show v - 1 = q by omega]; exact ⟨q1, q2⟩, fun ⟨q1, q2⟩ => ⟨v - 1, q1, q2, by omega⟩⟩
      have hs12 := sm12 _ _ hs11
      have h12g := sm12 _ _ h11
      have gl := gatesUp_len (tl y) j
      refine g_name ⟨rfl, ?_⟩
      acc_peel
      refine r_ixLk (SqL.at hs12) (k := j) rfl (nats_at hv') ?_
      acc_peel
      refine ⟨g, _, rfl, .inl (SqL.at h12g), rfl, flatI _, ?_⟩
      rw [if_neg Bool.false_ne_true, inV_int]
      acc_peel
      refine i_dec (fun h1 => ?_) (fun h1 => ?_)
      · acc_peel
        refine r_ixLk (SqL.at hs12) (k := j) rfl (nats_at hv') ?_
        acc_peel
        refine r_ixLk (SqL.at hs12) (k := j + 1) rfl (nats_at hx) ?_
        acc_peel
        refine i_ndec (fun hne => ?_) (fun he => ?_)
        · acc_peel
          refine ⟨_, h12, szl (by rw [List.length_map]; omega), Same.mut sm12 hD, ?_⟩
          rw [upd_same, gatesUp_yes (hgate.mpr ⟨hin.mp h1, fun e => hne (by rw [e])⟩), map_snocI]
        · refine ⟨sm12, ?_⟩
          rw [gatesUp_no (fun w => (hgate.mp w).2 (by omega))]
          exact h12
      · refine ⟨sm12, ?_⟩
        rw [gatesUp_no (fun w => h1 (hin.mpr (hgate.mp w).1))]
        exact h12
    rintro H12 ⟨sm12, h12⟩
    rw [Int.toNat_natCast, show gatesUp (tl y) y.length = gatesF (tl y) by rw [← tl2]; rfl] at h12
    have sm12' := sm11.trans sm12
    have g12 := sm12 _ _ h11
    acc_peel
    refine ⟨p, z, rfl, hp10.mono sm12', ok, by omega, fun H13 q1 hq1 sm13 h13 => ?_⟩
    acc_peel
    refine ⟨r, y, rfl, hr10.mono (sm12'.trans sm13), hput.ok, by omega, fun H14 q2 hq2 sm14 h14 => ?_⟩
    acc_peel
    have a13 := sm14 _ _ h13
    have ag := sm14 _ _ (sm13 _ _ g12)
    have aD := sm14 _ _ (sm13 _ _ h12)
    have sm14' := (sm12'.trans sm13).trans sm14
    refine ⟨sz (by show 2 ≤ 100000; decide), fun l1 hl1 => ?_⟩
    have sm15 := Same.new (o := .lst [.ref q1, .ref q2]) (Same.refl H14) hl1
    have e15 : upd H14 l1 (.lst [.ref q1, .ref q2]) l1 = some (.lst [.ref q1, .ref q2]) := upd_same
    generalize upd H14 l1 (.lst [.ref q1, .ref q2]) = H15 at sm15 e15 ⊢
    acc_peel
    refine ⟨sz (by show 2 ≤ 100000; decide), fun l2 hl2 => ?_⟩
    have sm16 := Same.new (o := .lst [.ref g, .ref D]) sm15 hl2
    have e16 : upd H15 l2 (.lst [.ref g, .ref D]) l2 = some (.lst [.ref g, .ref D]) := upd_same
    have d16 : upd H15 l2 (.lst [.ref g, .ref D]) l1 = _ := upd_at (ne_of_none e15 hl2) e15
    generalize upd H15 l2 (.lst [.ref g, .ref D]) = H16 at sm16 e16 d16 ⊢
    acc_peel
    have gz := gatesF_len (tl z)
    have gy := gatesF_len (tl y)
    refine ⟨_, _, rfl, .lst d16 e16 rfl (by show 2 ≤ 1000; decide) (fun j x x' hx hx' => ?_), ?_⟩
    · match j, hx, hx' with
      | 0, hx, hx' => cases hx; cases hx'; exact like_ints (sm16 _ _ a13) (sm16 _ _ ag) (by omega)
      | 1, hx, hx' => cases hx; cases hx'; exact like_ints (sm16 _ _ h14) (sm16 _ _ aD) (by omega)
    have smF := sm14'.trans sm16
    have hp16 := hp10.mono smF
    have hr16 := hr10.mono smF
    have hs16 := smF _ _ hs10
    have hw16 := hw10.mono smF
    have hb16 := hb10.mono smF
    have hrow16 := hrow10.mono smF
    clear hp10 hr10 hs10 hw10 hb10 hrow10 smF sm14' sm12' sm16 d16 e16 sm15 e15 a13 ag aD h14 h13 sm14 sm13 g12 h12 sm12 sm11 h11 hs11 hl1 hl2
    acc_peel
    -- the third loop
    dsimp only
    refine s_for ?_
    refine i_rng1 ?_
    acc_peel
    refine ⟨_, rfl, by decide, by decide, for_range (lo := 0) (n := (3 : Int).toNat) (fun i' σ H' => Sb a H16 H' ∧ BagAt a c H' ∧ ∃ v12 v15 v16 : Option V, σ = [some (.ref sc), some (.ref a), some (.int (0 + (i : Int))), some (.str z), w4, some (.str y), some (.ref s), some (.ref p), some (.ref r), some (.str (ktext k)), some (.ref w), some (.ref rw8), v12, some (.ref g), some (.ref D), v15, v16])
      ⟨Sb.refl a H16, hb16, _, _, _, rfl⟩ ?_ ?_⟩
    · rintro j σ H17 hj ⟨sb17, hb17, y12, y15, y16, rfl⟩
      acc_peel
      refine b_lenS (by omega) ?_
      acc_peel
      refine ⟨a, c, _, rfl, hb17, by omega, by omega, fun H18 d sb18 hb18 d0 d1 => ?_⟩
      obtain ⟨n, rfl⟩ : ∃ n : Nat, d = (n : Int) := ⟨d.toNat, by omega⟩
      refine r_plus ?_
      rw [show (1 : Int) + (n : Int) = ((n + 1 : Nat) : Int) by omega]
      have sbA := sb17.trans sb18
      have hp18 := hp16.bag hb16 sbA
      have hr18 := hr16.bag hb16 sbA
      have hs18 := sbA _ _ nsa hs16
      have hw18 := hw16.bag hb16 sbA
      have hrow18 := hrow16.bag (K := K) hb16 sbA
      obtain ⟨v, hv⟩ : ∃ v, (N ++ [(tl z).length + 1])[n]? = some v := ⟨_, List.getElem?_eq_getElem (by omega)⟩
      obtain ⟨b1, b2, b3, _⟩ := hput.at hv
      obtain ⟨xs, tt, e1, e2, e3⟩ := hrow18.at (j := v - 1) (by omega)
      rw [show v - 1 + 1 = v by omega] at e3
      acc_peel
      refine r_ixLk (SqL.at hs18) (k := n) (by omega) (nats_at hv) ?_
      acc_peel
      refine r_ixLk (SqL.at e1) (k := v - 1) (by omega) e2 ?_
      acc_peel
      refine ⟨r, w, y, k, n + 1, y.length, _, rfl, .inr ⟨rfl, rfl⟩, hr18, hw18, by omega, Nat.le_refl _, by omega, by omega, fun H19 sm19 => ?_⟩
      rw [List.take_of_length_le (by omega), hput.num hv]
      acc_peel
      refine r_ixLk (SqL.at (sm19 _ _ hs18)) (k := n) (by omega) (nats_at hv) ?_
      acc_peel
      refine ⟨p, w, z, k, v, z.length, _, rfl, .inr ⟨rfl, rfl⟩, hp18.mono sm19, hw18.mono sm19, by omega, Nat.le_refl _, by omega, by omega, fun H20 sm20 => ?_⟩
      rw [List.take_of_length_le (by omega)]
      acc_peel
      refine ⟨sz (by show 2 ≤ 100000; decide), fun m1 hm1 => ?_⟩
      acc_peel
      refine ⟨sz (by show 2 ≤ 100000; decide), fun m2 hm2 => ?_⟩
      acc_peel
      generalize decide ((numF (tl z) k v).2 < 0) = vd at hm2 ⊢
      have n12 : m1 ≠ m2 := fun e => by rw [← e, upd_same] at hm2; cases hm2
      refine ⟨_, _, rfl, .lst (upd_at n12 upd_same) upd_same rfl (by show 2 ≤ 1000; decide) (fun j x x' hx hx' => ?_), ?_⟩
      · match j, hx, hx' with
        | 0, hx, hx' => cases hx; cases hx'; exact .bl _
        | 1, hx, hx' => cases hx; cases hx'; exact .bl _
      acc_peel
      have sm22 := Same.new (o := .lst [.bl vd, .bl vd]) (Same.new (o := .lst [.bl vd, .bl vd]) (sm19.trans sm20) hm1) hm2
      exact ⟨sbA.trans (Same.sb sm22), hb18.mono sm22, _, _, _, rfl⟩
    · rintro σ H17 ⟨sb17, hb17, y12, y15, y16, rfl⟩
      acc_peel
      exact ⟨_, _, _, _, _, _, _, _, _, _, _, _, _, _, _, rfl, hb17⟩
  · rintro σ H1 ⟨v2, v3, v4, v5, v6, v7, v8, v9, v10, v11, v12, v13, v14, v15, v16, rfl, hb1⟩
    acc_peel
    exact q H1

/-! ### each def keeps its promise -/
structure Txt (w : World) (K : PySem.W.Frag) (mg : Str → Option Value) : Prop where
  n_bool : mg "bool" = none
  n_enumerate : mg "enumerate" = none
  n_int : mg "int" = none
  n_isinstance : mg "isinstance" = none
  n_len : mg "len" = none
  n_list : mg "list" = none
  n_max : mg "max" = none
  n_min : mg "min" = none
  n_range : mg "range" = none
  n_reversed : mg "reversed" = none
  n_str : mg "str" = none
  n_tuple : mg "tuple" = none
  i_EMPTY : ∃ t, mg "EMPTY" = some (.str "-" t)
  i_FALSE_LETTERS : ∃ t, mg "FALSE_LETTERS" = some (.str "abB" t)
  i_LETTERS : ∃ t, mg "LETTERS" = some (.str ".hHabB" t)
  i_MOST_CHARACTERS : ∃ t, mg "MOST_CHARACTERS" = some (.int 100000 t)
  i_MOST_LATE : ∃ t, mg "MOST_LATE" = some (.int 4 t)
  i_MOST_SLOTS : ∃ t, mg "MOST_SLOTS" = some (.int 40 t)
  c_HANDS : mg "HANDS" = some (.ref (He.ga K "HANDS"))
  c_KINDS : mg "KINDS" = some (.ref (He.ga K "KINDS"))
  c_LATENESSES : mg "LATENESSES" = some (.ref (He.ga K "LATENESSES"))
  c_TRUE_HANDS : mg "TRUE_HANDS" = some (.ref (He.ga K "TRUE_HANDS"))
  c_World : mg "World" = some (.ref (He.ga K "World"))
  kd_HANDS : ∃ es n, KDict K w (He.ga K "HANDS") es n
  kd_TRUE_HANDS : ∃ es n, KDict K w (He.ga K "TRUE_HANDS") es n
section
variable {P : Program} {w : World} {K : PySem.W.Frag} {mg : Str → Option Value} {base : Heap}
theorem ok_check_length {f : Addr} {fd : FuncData} {dvs : List V} {kws : List (Str × V)} (F : FunD K "check_length" "check_length" (defArgs s_check_length) (defBody s_check_length) (defScope s_check_length) dvs kws f fd) (T : Txt w K mg) : FnOk P w K mg base CX0 1 f fd P_check_length (sp_check_length K) := by
  refine F.ok sc_check_length (fun vs H Q E h => len_check_length h) (fun cdv A outer s H vs Q E hr h => ⟨r_check_length K, PSs.nox ?_, pure_check_length vs H Q E h⟩)
  exact (pss_one (ps_if (pt_cmpR op_gt (pe_callB call_lenS (by rfl) T.n_len boot_len (pa_cons (pv 0) pa_nil)) (pe_glob rfl T.i_MOST_CHARACTERS.choose_spec ⟨_, rfl⟩) (nomark _)) pss_never pss_nil))
theorem ok_first_strange {f : Addr} {fd : FuncData} {dvs : List V} {kws : List (Str × V)} (F : FunD K "first_strange" "first_strange" (defArgs s_first_strange) (defBody s_first_strange) (defScope s_first_strange) dvs kws f fd) (T : Txt w K mg) : FnOk P w K mg base CX0 1 f fd P_first_strange (sp_first_strange K) := by
  refine F.ok sc_first_strange (fun vs H Q E h => len_first_strange h) (fun cdv A outer s H vs Q E hr h => ⟨r_first_strange K, PSs.nox ?_, pure_first_strange vs H Q E h⟩)
  exact (pss_cons (ps_for PassesOwn.never rfl (pi_enumS (by rfl) T.n_enumerate (pa_cons (pv 0) pa_nil)) (pg_tup (by rfl) (pgs_cons (pg_name (i := 1) sc_first_strange.nd rfl (Or.inl rfl)) (pgs_cons (pg_name (i := 2) sc_first_strange.nd rfl (Or.inl rfl)) pgs_nil)))
   (pss_one (ps_if (pt_cmpR op_notInS (pv 2) (pe_glob rfl T.i_LETTERS.choose_spec ⟨_, rfl⟩) (by rfl)) (pss_one (ps_ret (pv 1))) pss_nil)))
  (pss_one (ps_ret pe_non)))
theorem ok_rota_fault {f : Addr} {fd : FuncData} {dvs : List V} {kws : List (Str × V)} (F : FunD K "rota_fault" "rota_fault" (defArgs s_rota_fault) (defBody s_rota_fault) (defScope s_rota_fault) dvs kws f fd) (T : Txt w K mg) (C_first_strange : Cal P w K mg base 1 "first_strange" P_first_strange (sp_first_strange K)) : FnOk P w K mg base CX0 2 f fd P_rota_fault (sp_rota_fault K) := by
  refine F.ok sc_rota_fault (fun vs H Q E h => len_rota_fault h) (fun cdv A outer s H vs Q E hr h => ⟨r_rota_fault K, PSs.nox ?_, pure_rota_fault vs H Q E h⟩)
  exact (pss_cons (ps_if (pt_cmpR op_eq (pv 0) (pe_glob rfl T.i_EMPTY.choose_spec ⟨_, rfl⟩) (nomark _)) (pss_one (ps_ret pe_non)) pss_nil)
  (pss_cons (ps_if (pt_cmpR op_eq (pv 0) pe_str (nomark _)) (pss_one (ps_ret pe_int)) pss_nil)
  (pss_one (ps_ret (pe_callC C_first_strange hr rfl (pa_cons (pv 0) pa_nil))))))
theorem ok_letters_of_text {f : Addr} {fd : FuncData} {dvs : List V} {kws : List (Str × V)} (F : FunD K "letters_of_text" "letters_of_text" (defArgs s_letters_of_text) (defBody s_letters_of_text) (defScope s_letters_of_text) dvs kws f fd) (T : Txt w K mg) : FnOk P w K mg base CX0 1 f fd P_letters_of_text (sp_letters_of_text K) := by
  refine F.ok sc_letters_of_text (fun vs H Q E h => len_letters_of_text h) (fun cdv A outer s H vs Q E hr h => ⟨r_letters_of_text K, PSs.nox ?_, pure_letters_of_text vs H Q E h⟩)
  exact (pss_cons (ps_if (pt_cmpR op_eq (pv 0) (pe_glob rfl T.i_EMPTY.choose_spec ⟨_, rfl⟩) (nomark _)) (pss_one (ps_ret pe_str)) pss_nil)
  (pss_one (ps_ret (pv 0))))
theorem ok_true_hands {f : Addr} {fd : FuncData} {dvs : List V} {kws : List (Str × V)} (F : FunD K "true_hands" "true_hands" (defArgs s_true_hands) (defBody s_true_hands) (defScope s_true_hands) dvs kws f fd) (T : Txt w K mg) (kf : KF K) : FnOk P w K mg base CX0 1 f fd P_true_hands (sp_true_hands K) := by
  refine F.ok sc_true_hands (fun vs H Q E h => len_true_hands h) (fun cdv A outer s H vs Q E hr h => ⟨r_true_hands K, PSs.nox ?_, pure_true_hands kf vs H Q E h⟩)
  exact (pss_one (ps_ret (pe_ix (ix_k T.kd_TRUE_HANDS) (pe_glob rfl T.c_TRUE_HANDS rfl) (pv 0) (fun _ _ => rfl))))
theorem ok_has_false_hand {f : Addr} {fd : FuncData} {dvs : List V} {kws : List (Str × V)} (F : FunD K "has_false_hand" "has_false_hand" (defArgs s_has_false_hand) (defBody s_has_false_hand) (defScope s_has_false_hand) dvs kws f fd) (T : Txt w K mg) : FnOk P w K mg base CX0 1 f fd P_has_false_hand (sp_has_false_hand K) := by
  refine F.ok sc_has_false_hand (fun vs H Q E h => len_has_false_hand h) (fun cdv A outer s H vs Q E hr h => ⟨r_has_false_hand K, PSs.nox ?_, pure_has_false_hand vs H Q E h⟩)
  exact (pss_one (ps_ret (pe_cmpR op_inS (pv 0) (pe_glob rfl T.i_FALSE_LETTERS.choose_spec ⟨_, rfl⟩) (by rfl))))
theorem ok_slots_with_true_hands {f : Addr} {fd : FuncData} {dvs : List V} {kws : List (Str × V)} (F : FunD K "slots_with_true_hands" "slots_with_true_hands" (defArgs s_slots_with_true_hands) (defBody s_slots_with_true_hands) (defScope s_slots_with_true_hands) dvs kws f fd) (T : Txt w K mg) (C_true_hands : Cal P w K mg base 1 "true_hands" P_true_hands (sp_true_hands K)) : FnOk P w K mg base CX0 2 f fd P_slots_with_true_hands (sp_slots_with_true_hands K) := by
  refine F.ok sc_slots_with_true_hands (fun vs H Q E h => len_slots_with_true_hands h) (fun cdv A outer s H vs Q E hr h => ⟨r_slots_with_true_hands K, PSs.nox ?_, pure_slots_with_true_hands vs H Q E h⟩)
  exact (pss_one (ps_ret (pe_lc (own := [("at", 1), ("letter", 2)]) (by rfl) sc_slots_with_true_hands.nd (pi_enumS (by rfl) T.n_enumerate (pa_cons (pv 0) pa_nil)) (blkOk_by (own := [("at", 1), ("letter", 2)]) (N := N_slots_with_true_hands) (sc := defScope s_slots_with_true_hands) (by decide +kernel))
     (fun _ _ _ _ _ => (pg_tup (by rfl) (pgs_cons (pg_name (i := 1) sc_slots_with_true_hands.nd rfl (Or.inl rfl)) (pgs_cons (pg_name (i := 2) sc_slots_with_true_hands.nd rfl (Or.inl rfl)) pgs_nil)))) (fun _ _ _ _ _ => (pts_one (pt_cmpR op_gt (pe_callC C_true_hands hr rfl (pa_cons (pv 2) pa_nil)) pe_int (nomark _)))) (fun _ _ _ _ _ => (pe_op op_add (pv 1) pe_int)))))
theorem ok_slots_with_false_hand {f : Addr} {fd : FuncData} {dvs : List V} {kws : List (Str × V)} (F : FunD K "slots_with_false_hand" "slots_with_false_hand" (defArgs s_slots_with_false_hand) (defBody s_slots_with_false_hand) (defScope s_slots_with_false_hand) dvs kws f fd) (T : Txt w K mg) (C_has_false_hand : Cal P w K mg base 1 "has_false_hand" P_has_false_hand (sp_has_false_hand K)) : FnOk P w K mg base CX0 2 f fd P_slots_with_false_hand (sp_slots_with_false_hand K) := by
  refine F.ok sc_slots_with_false_hand (fun vs H Q E h => len_slots_with_false_hand h) (fun cdv A outer s H vs Q E hr h => ⟨r_slots_with_false_hand K, PSs.nox ?_, pure_slots_with_false_hand vs H Q E h⟩)
  exact (pss_one (ps_ret (pe_lc (own := [("at", 1), ("letter", 2)]) (by rfl) sc_slots_with_false_hand.nd (pi_enumS (by rfl) T.n_enumerate (pa_cons (pv 0) pa_nil)) (blkOk_by (own := [("at", 1), ("letter", 2)]) (N := N_slots_with_false_hand) (sc := defScope s_slots_with_false_hand) (by decide +kernel))
     (fun _ _ _ _ _ => (pg_tup (by rfl) (pgs_cons (pg_name (i := 1) sc_slots_with_false_hand.nd rfl (Or.inl rfl)) (pgs_cons (pg_name (i := 2) sc_slots_with_false_hand.nd rfl (Or.inl rfl)) pgs_nil)))) (fun _ _ _ _ _ => (pts_one (pt_val (pe_callC C_has_false_hand hr rfl (pa_cons (pv 2) pa_nil))))) (fun _ _ _ _ _ => (pe_op op_add (pv 1) pe_int)))))
theorem ok_Rota___init__ {f : Addr} {fd : FuncData} {dvs : List V} {kws : List (Str × V)} (F : FunD K "__init__" "Rota.__init__" (defArgs s_Rota___init__) (defBody s_Rota___init__) (defScope s_Rota___init__) dvs kws f fd) (T : Txt w K mg) (kf : KF K) (C_check_length : Cal P w K mg base 2 "check_length" P_check_length (sp_check_length K)) (C_rota_fault : Cal P w K mg base 2 "rota_fault" P_rota_fault (sp_rota_fault K)) (C_letters_of_text : Cal P w K mg base 2 "letters_of_text" P_letters_of_text (sp_letters_of_text K)) : FnOk P w K mg base CX0 3 f fd P_Rota___init__ (sp_Rota___init__ K) := by
  refine F.ok sc_Rota___init__ (fun vs H Q E h => len_Rota___init__ h) (fun cdv A outer s H vs Q E hr h => ⟨r_Rota___init__ K, PSs.nox ?_, pure_Rota___init__ kf vs H Q E h⟩)
  exact (pss_cons (ps_expr (pe_callC C_check_length hr rfl (pa_cons (pv 1) pa_nil)))
  (pss_cons (ps_set (i := 2) sc_Rota___init__.nd rfl (Or.inl rfl) (pe_callC C_rota_fault hr rfl (pa_cons (pv 1) pa_nil)))
  (pss_cons (ps_if (pt_cmpR op_notN (pv 2) pe_non (nomark _)) pss_never pss_nil)
  (pss_cons (ps_set (i := 3) sc_Rota___init__.nd rfl (Or.inl rfl) (pe_callC C_letters_of_text hr rfl (pa_cons (pv 1) pa_nil)))
  (pss_cons (ps_if (pt_cmpR op_gt (pe_callB call_lenS (by rfl) T.n_len boot_len (pa_cons (pv 3) pa_nil)) (pe_glob rfl T.i_MOST_SLOTS.choose_spec ⟨_, rfl⟩) (nomark _)) pss_never pss_nil)
  (pss_cons (ps_fld (pv 0) (pv 3) rfl)
  (pss_one (ps_fld (pv 0) (pv 1) rfl))))))))
theorem ok_Rota___len__ {f : Addr} {fd : FuncData} {dvs : List V} {kws : List (Str × V)} (F : FunD K "__len__" "Rota.__len__" (defArgs s_Rota___len__) (defBody s_Rota___len__) (defScope s_Rota___len__) dvs kws f fd) (T : Txt w K mg) (kf : KF K) : FnOk P w K mg base CX0 1 f fd P_Rota___len__ (sp_Rota___len__ K) := by
  refine F.ok sc_Rota___len__ (fun vs H Q E h => len_Rota___len__ h) (fun cdv A outer s H vs Q E hr h => ⟨r_Rota___len__ K, PSs.nox ?_, pure_Rota___len__ kf vs H Q E h⟩)
  exact (pss_one (ps_ret (pe_callB call_lenS (by rfl) T.n_len boot_len (pa_cons (pe_fld (pv 0) rfl) pa_nil))))
theorem ok_Rota_true_slots {f : Addr} {fd : FuncData} {dvs : List V} {kws : List (Str × V)} (F : FunD K "true_slots" "Rota.true_slots" (defArgs s_Rota_true_slots) (defBody s_Rota_true_slots) (defScope s_Rota_true_slots) dvs kws f fd) (T : Txt w K mg) (kf : KF K) (C_slots_with_true_hands : Cal P w K mg base 2 "slots_with_true_hands" P_slots_with_true_hands (sp_slots_with_true_hands K)) : FnOk P w K mg base CX0 3 f fd P_Rota_true_slots (sp_Rota_true_slots K) := by
  refine F.ok sc_Rota_true_slots (fun vs H Q E h => len_Rota_true_slots h) (fun cdv A outer s H vs Q E hr h => ⟨r_Rota_true_slots K, PSs.nox ?_, pure_Rota_true_slots kf vs H Q E h⟩)
  exact (pss_one (ps_ret (pe_callC C_slots_with_true_hands hr rfl (pa_cons (pe_fld (pv 0) rfl) pa_nil))))
theorem ok_Rota_false_slots {f : Addr} {fd : FuncData} {dvs : List V} {kws : List (Str × V)} (F : FunD K "false_slots" "Rota.false_slots" (defArgs s_Rota_false_slots) (defBody s_Rota_false_slots) (defScope s_Rota_false_slots) dvs kws f fd) (T : Txt w K mg) (kf : KF K) (C_slots_with_false_hand : Cal P w K mg base 2 "slots_with_false_hand" P_slots_with_false_hand (sp_slots_with_false_hand K)) : FnOk P w K mg base CX0 3 f fd P_Rota_false_slots (sp_Rota_false_slots K) := by
  refine F.ok sc_Rota_false_slots (fun vs H Q E h => len_Rota_false_slots h) (fun cdv A outer s H vs Q E hr h => ⟨r_Rota_false_slots K, PSs.nox ?_, pure_Rota_false_slots kf vs H Q E h⟩)
  exact (pss_one (ps_ret (pe_callC C_slots_with_false_hand hr rfl (pa_cons (pe_fld (pv 0) rfl) pa_nil))))
theorem ok_world_words {f : Addr} {fd : FuncData} {dvs : List V} {kws : List (Str × V)} (F : FunD K "world_words" "world_words" (defArgs s_world_words) (defBody s_world_words) (defScope s_world_words) dvs kws f fd) (T : Txt w K mg) (kf : KF K) : FnOk P w K mg base CX0 1 f fd P_world_words (sp_world_words K) := by
  refine F.ok sc_world_words (fun vs H Q E h => len_world_words h) (fun cdv A outer s H vs Q E hr h => ⟨r_world_words K, PSs.nox ?_, pure_world_words kf vs H Q E h⟩)
  exact (pss_cons (ps_set (i := 1) sc_world_words.nd rfl (Or.inl rfl) (pe_bm PySem.F.plainAttrs_str PySem.F.slot_str_split PySem.F.type_str_split mt_split (pv 0) (pa_cons pe_str pa_nil)))
  (pss_cons (ps_if (PW.pt (pw_or (pt_cmpR op_ne (pe_callB call_len_seq (by rfl) T.n_len boot_len (pa_cons (pv 1) pa_nil)) pe_int (nomark _)) (pw_or (pt_cmpR op_notIn_seq (pe_ix ix_list (pv 1) pe_int (fun _ _ => rfl)) (pe_glob rfl T.c_KINDS rfl) (by rfl)) (pw_or1 (pt_cmpR op_notIn_seq (pe_ix ix_list (pv 1) pe_int (fun _ _ => rfl)) (pe_glob rfl T.c_LATENESSES rfl) (by rfl)))))) (pss_one (ps_ret pe_non)) pss_nil)
  (pss_one (ps_ret (pe_tup (pa_cons (pe_ix ix_list (pv 1) pe_int (fun _ _ => rfl)) (pa_cons (pe_callTy call_int_str (by rfl) T.n_int (by decide +kernel) (pa_cons (pe_ix ix_list (pv 1) pe_int (fun _ _ => rfl)) pa_nil)) pa_nil)))))))
theorem ok_World___init__ {f : Addr} {fd : FuncData} {dvs : List V} {kws : List (Str × V)} (F : FunD K "__init__" "World.__init__" (defArgs s_World___init__) (defBody s_World___init__) (defScope s_World___init__) dvs kws f fd) (T : Txt w K mg) (kf : KF K) (C_check_length : Cal P w K mg base 1 "check_length" P_check_length (sp_check_length K)) (C_world_words : Cal P w K mg base 1 "world_words" P_world_words (sp_world_words K)) : FnOk P w K mg base CX0 2 f fd P_World___init__ (sp_World___init__ K) := by
  refine F.ok sc_World___init__ (fun vs H Q E h => len_World___init__ h) (fun cdv A outer s H vs Q E hr h => ⟨r_World___init__ K, PSs.nox ?_, pure_World___init__ kf vs H Q E h⟩)
  exact (pss_cons (ps_expr (pe_callC C_check_length hr rfl (pa_cons (pv 1) pa_nil)))
  (pss_cons (ps_set (i := 2) sc_World___init__.nd rfl (Or.inl rfl) (pe_callC C_world_words hr rfl (pa_cons (pv 1) pa_nil)))
  (pss_cons (ps_if (pt_cmpR op_isN (pv 2) pe_non (nomark _)) pss_never pss_nil)
  (pss_cons (ps_fld (pv 0) (pe_ix ix_tup (pv 2) pe_int (fun _ _ => rfl)) rfl)
  (pss_cons (ps_fld (pv 0) (pe_ix ix_tup (pv 2) pe_int (fun _ _ => rfl)) rfl)
  (pss_one (ps_fld (pv 0) (pv 1) rfl)))))))
theorem ok_World_of {f : Addr} {fd : FuncData} {dvs : List V} {kws : List (Str × V)} (F : FunD K "of" "World.of" (defArgs s_World_of) (defBody s_World_of) (defScope s_World_of) dvs kws f fd) (T : Txt w K mg) (kf : KF K) (C_World : CalM P w K mg base 2 "World" (He.ga K "World") P_World___init__ (sp_World___init__ K)) : FnOk P w K mg base CX0 4 f fd P_World_of (sp_World_of K) := by
  refine F.ok sc_World_of (fun vs H Q E h => len_World_of h) (fun cdv A outer s H vs Q E hr h => ⟨r_World_of K, PSs.nox ?_, pure_World_of kf vs H Q E h⟩)
  exact (pss_cons (ps_if (pt_cmpR op_notIn_seq (pv 0) (pe_glob rfl T.c_KINDS rfl) (by rfl)) pss_never pss_nil)
  (pss_cons (ps_if (PW.pt (pw_or (pt_cmpR op_lt (pv 1) pe_int (nomark _)) (pw_or1 (pt_cmpR op_gt (pv 1) (pe_glob rfl T.i_MOST_LATE.choose_spec ⟨_, rfl⟩) (nomark _))))) pss_never pss_nil)
  (pss_one (ps_ret (pe_makeC C_World hr rfl (pa_cons (pe_joined (PJ.cons (pe_fmt (pv 0)) (PJ.cons pe_str (PJ.cons (pe_fmt (pv 1)) PJ.nil)))) pa_nil))))))
theorem ok_time_or_last {f : Addr} {fd : FuncData} {dvs : List V} {kws : List (Str × V)} (F : FunD K "time_or_last" "time_or_last" (defArgs s_time_or_last) (defBody s_time_or_last) (defScope s_time_or_last) dvs kws f fd) (T : Txt w K mg) (L_Rota : CalLen P w K mg base 1 (He.ga K "Rota") (sp_Rota___len__ K)) : FnOk P w K mg base CX0 3 f fd P_time_or_last (sp_time_or_last K) := by
  refine F.ok sc_time_or_last (fun vs H Q E h => len_time_or_last h) (fun cdv A outer s H vs Q E hr h => ⟨r_time_or_last K, PSs.nox ?_, pure_time_or_last vs H Q E h⟩)
  exact (pss_cons (ps_if (pt_cmpR op_isN (pv 1) pe_non (nomark _)) (pss_one (ps_ret (pe_lenC L_Rota hr (by rfl) T.n_len (pa_cons (pv 0) pa_nil)))) pss_nil)
  (pss_cons (ps_if (PW.pt (pw_or (pt_cmpR op_lt (pv 1) pe_int (nomark _)) (pw_or1 (pt_cmpR op_gt (pv 1) (pe_lenC L_Rota hr (by rfl) T.n_len (pa_cons (pv 0) pa_nil)) (nomark _))))) pss_never pss_nil)
  (pss_one (ps_ret (pv 1)))))
theorem ok_ask_slot {f : Addr} {fd : FuncData} {dvs : List V} {kws : List (Str × V)} (F : FunD K "ask_slot" "ask_slot" (defArgs s_ask_slot) (defBody s_ask_slot) (defScope s_ask_slot) dvs kws f fd) (T : Txt w K mg) : FnOk P w K mg base CX0 1 f fd P_ask_slot (sp_ask_slot K) := by
  refine F.ok sc_ask_slot (fun vs H Q E h => len_ask_slot h) (fun cdv A outer s H vs Q E hr h => ⟨r_ask_slot K, PSs.nox ?_, pure_ask_slot vs H Q E h⟩)
  exact (pss_one (ps_if (PW.pt (pw_or (pt_cmpR op_lt (pv 0) pe_int (nomark _)) (pw_or1 (pt_cmpR op_gt (pv 0) (pe_op op_add (pv 1) pe_int) (nomark _))))) pss_never pss_nil))
theorem ok_next_reach {f : Addr} {fd : FuncData} {dvs : List V} {kws : List (Str × V)} (F : FunD K "next_reach" "next_reach" (defArgs s_next_reach) (defBody s_next_reach) (defScope s_next_reach) dvs kws f fd) (T : Txt w K mg) : FnOk P w K mg base CX0 1 f fd P_next_reach (sp_next_reach K) := by
  refine F.ok sc_next_reach (fun vs H Q E h => len_next_reach h) (fun cdv A outer s H vs Q E hr h => ⟨r_next_reach K, PSs.nox ?_, pure_next_reach vs H Q E h⟩)
  exact (pss_cons (ps_if (pt_cmpR op_eq (pv 0) pe_str (nomark _)) (pss_one (ps_ret (pe_op op_add (pv 1) pe_int))) pss_nil)
  (pss_cons (ps_if (PW.pt (pw_or (pt_cmpR op_eq (pv 0) pe_str (nomark _)) (pw_or1 (pt_cmpR op_eq (pv 0) pe_str (nomark _))))) (pss_one (ps_ret (pe_callB (call_max2 rfl) (by rfl) T.n_max (by decide +kernel) (pa_cons (pe_op op_sub (pv 1) pe_int) (pa_cons pe_int pa_nil))))) pss_nil)
  (pss_one (ps_ret (pv 1)))))
theorem ok_next_margin {f : Addr} {fd : FuncData} {dvs : List V} {kws : List (Str × V)} (F : FunD K "next_margin" "next_margin" (defArgs s_next_margin) (defBody s_next_margin) (defScope s_next_margin) dvs kws f fd) (T : Txt w K mg) : FnOk P w K mg base CX0 1 f fd P_next_margin (sp_next_margin K) := by
  refine F.ok sc_next_margin (fun vs H Q E h => len_next_margin h) (fun cdv A outer s H vs Q E hr h => ⟨r_next_margin K, PSs.nox ?_, pure_next_margin vs H Q E h⟩)
  exact (pss_cons (ps_if (pt_cmpR op_eq (pv 0) pe_str (nomark _)) (pss_one (ps_ret (pe_op op_add (pv 3) pe_int))) pss_nil)
  (pss_cons (ps_if (PW.pt (pw_and (pt_cmpR op_eq (pv 0) pe_str (nomark _)) (pw_and1 (pt_cmpR op_eq (pv 3) pe_int (nomark _))))) (pss_one (ps_ret pe_int)) pss_nil)
  (pss_cons (ps_if (PW.pt (pw_and (pt_cmpR op_eq (pv 0) pe_str (nomark _)) (pw_and (pt_cmpR op_eq (pv 3) pe_int (nomark _)) (pw_and (pt_cmpR op_gt (pv 2) pe_int (nomark _)) (pw_and1 (pt_not (pt_truth (pv 1) (by intro _; rfl)))))))) (pss_one (ps_ret pe_int)) pss_nil)
  (pss_cons (ps_if (PW.pt (pw_or (pt_cmpR op_eq (pv 0) pe_str (nomark _)) (pw_or1 (pt_cmpR op_eq (pv 0) pe_str (nomark _))))) (pss_one (ps_ret (pe_op op_sub (pv 3) pe_int))) pss_nil)
  (pss_one (ps_ret (pv 3)))))))
theorem ok_numbers_at_end {f : Addr} {fd : FuncData} {dvs : List V} {kws : List (Str × V)} (F : FunD K "numbers_at_end" "numbers_at_end" (defArgs s_numbers_at_end) (defBody s_numbers_at_end) (defScope s_numbers_at_end) dvs kws f fd) (T : Txt w K mg) (C_next_reach : Cal P w K mg base 1 "next_reach" P_next_reach (sp_next_reach K)) (C_next_margin : Cal P w K mg base 1 "next_margin" P_next_margin (sp_next_margin K)) : FnOk P w K mg base CX0 2 f fd P_numbers_at_end (sp_numbers_at_end K) := by
  refine F.ok sc_numbers_at_end (fun vs H Q E h => len_numbers_at_end h) (fun cdv A outer s H vs Q E hr h => ⟨r_numbers_at_end K, PSs.nox ?_, pure_numbers_at_end vs H Q E h⟩)
  exact (pss_cons (ps_set (i := 3) sc_numbers_at_end.nd rfl (Or.inl rfl) pe_int)
  (pss_cons (ps_for PassesOwn.never rfl (pi_str (pe_slice sl_str (pv 0) po_none (po_some (pe_op op_sub (pv 2) pe_int)))) (pg_name (i := 4) sc_numbers_at_end.nd rfl (Or.inl rfl))
   (pss_one (ps_set (i := 3) sc_numbers_at_end.nd rfl (Or.inl rfl) (pe_callC C_next_reach hr rfl (pa_cons (pv 4) (pa_cons (pv 3) pa_nil))))))
  (pss_cons (ps_set (i := 5) sc_numbers_at_end.nd rfl (Or.inl rfl) (pv 3))
  (pss_cons (ps_for PassesOwn.never rfl (pi_str (pe_slice sl_str (pv 0) (po_some (pe_op op_sub (pv 2) pe_int)) po_none)) (pg_name (i := 4) sc_numbers_at_end.nd rfl (Or.inl rfl))
   (pss_cons (ps_set (i := 5) sc_numbers_at_end.nd rfl (Or.inl rfl) (pe_callC C_next_margin hr rfl (pa_cons (pv 4) (pa_cons (pv 1) (pa_cons (pv 3) (pa_cons (pv 5) pa_nil))))))
  (pss_one (ps_set (i := 3) sc_numbers_at_end.nd rfl (Or.inl rfl) (pe_callC C_next_reach hr rfl (pa_cons (pv 4) (pa_cons (pv 3) pa_nil)))))))
  (pss_one (ps_ret (pe_tup (pa_cons (pv 3) (pa_cons (pv 5) pa_nil)))))))))
theorem ok_numbers {f : Addr} {fd : FuncData} {dvs : List V} {kws : List (Str × V)} (F : FunD K "numbers" "numbers" (defArgs s_numbers) (defBody s_numbers) (defScope s_numbers) dvs kws f fd) (T : Txt w K mg) (kf : KF K) (S_World_of : CalS P w K mg base 4 (He.ga K "World") "of" P_World_of (sp_World_of K)) (C_ask_slot : Cal P w K mg base 4 "ask_slot" P_ask_slot (sp_ask_slot K)) (L_Rota : CalLen P w K mg base 3 (He.ga K "Rota") (sp_Rota___len__ K)) (C_numbers_at_end : Cal P w K mg base 4 "numbers_at_end" P_numbers_at_end (sp_numbers_at_end K)) : FnOk P w K mg base CX0 5 f fd P_numbers (sp_numbers K) := by
  refine F.ok sc_numbers (fun vs H Q E h => len_numbers h) (fun cdv A outer s H vs Q E hr h => ⟨r_numbers K, PSs.nox ?_, pure_numbers kf vs H Q E h⟩)
  exact (pss_cons (ps_set (i := 3) sc_numbers.nd rfl (Or.inl rfl) (pe_smethC S_World_of hr (pe_glob rfl T.c_World rfl) (pa_cons (pv 1) (pa_cons pe_int pa_nil))))
  (pss_cons (ps_expr (pe_callC C_ask_slot hr rfl (pa_cons (pv 2) (pa_cons (pe_lenC L_Rota hr (by rfl) T.n_len (pa_cons (pv 0) pa_nil)) pa_nil))))
  (pss_one (ps_ret (pe_callC C_numbers_at_end hr rfl (pa_cons (pe_fld (pv 0) rfl) (pa_cons (pe_cmpR op_eq (pe_fld (pv 3) rfl) pe_str (nomark _)) (pa_cons (pv 2) pa_nil))))))))
theorem ok_surplus {f : Addr} {fd : FuncData} {dvs : List V} {kws : List (Str × V)} (F : FunD K "surplus" "surplus" (defArgs s_surplus) (defBody s_surplus) (defScope s_surplus) dvs kws f fd) (T : Txt w K mg) (kf : KF K) (C_ask_slot : Cal P w K mg base 3 "ask_slot" P_ask_slot (sp_ask_slot K)) (L_Rota : CalLen P w K mg base 2 (He.ga K "Rota") (sp_Rota___len__ K)) (C_numbers_at_end : Cal P w K mg base 3 "numbers_at_end" P_numbers_at_end (sp_numbers_at_end K)) (T_Rota_false_slots : CalMt P w K mg base 3 (He.ga K "Rota") "false_slots" P_Rota_false_slots [] (sp_Rota_false_slots K)) (T_Rota_true_slots : CalMt P w K mg base 3 (He.ga K "Rota") "true_slots" P_Rota_true_slots [] (sp_Rota_true_slots K)) : FnOk P w K mg base CX0 4 f fd P_surplus (sp_surplus K) := by
  refine F.ok sc_surplus (fun vs H Q E h => len_surplus h) (fun cdv A outer s H vs Q E hr h => ⟨r_surplus K, PSs.nox ?_, pure_surplus kf vs H Q E h⟩)
  exact (pss_cons (ps_expr (pe_callC C_ask_slot hr rfl (pa_cons (pv 1) (pa_cons (pe_lenC L_Rota hr (by rfl) T.n_len (pa_cons (pv 0) pa_nil)) pa_nil))))
  (pss_cons (ps_set (i := 2) sc_surplus.nd rfl (Or.inl rfl) (pe_ix ix_tup (pe_callC C_numbers_at_end hr rfl (pa_cons (pe_slice sl_str (pe_fld (pv 0) rfl) po_none (po_some (pe_op op_sub (pv 1) pe_int))) (pa_cons pe_bl (pa_cons (pv 1) pa_nil)))) pe_int (fun _ _ => rfl)))
  (pss_cons (ps_setLc (i := 3) (own := [("at", 4)]) (by rfl) sc_surplus.nd rfl rfl (sw_true rfl rfl rfl (by decide +kernel)) (pi_list (pe_methC0 T_Rota_false_slots hr (pv 0))) (blkOk_by (own := [("at", 4)]) (N := N_surplus) (sc := defScope s_surplus) (by decide +kernel))
     (fun _ _ _ _ _ => (pg_name (i := 4) sc_surplus.nd rfl (Or.inl rfl))) (fun _ _ _ _ _ => (pts_one (pt_cmpR op_ge (pv 4) (pv 1) (nomark _)))) (fun _ _ _ _ _ => (pv 4)))
  (pss_cons (ps_setLc (i := 5) (own := [("at", 4)]) (by rfl) sc_surplus.nd rfl rfl (sw_true rfl rfl rfl (by decide +kernel)) (pi_list (pe_methC0 T_Rota_true_slots hr (pv 0))) (blkOk_by (own := [("at", 4)]) (N := N_surplus) (sc := defScope s_surplus) (by decide +kernel))
     (fun _ _ _ _ _ => (pg_name (i := 4) sc_surplus.nd rfl (Or.inl rfl))) (fun _ _ _ _ _ => (pts_one (pt_cmpR op_ge (pv 4) (pv 1) (nomark _)))) (fun _ _ _ _ _ => (pv 4)))
  (pss_one (ps_ret (pe_op op_sub (pe_op op_add (pv 2) (pe_callB call_len_seq (by rfl) T.n_len boot_len (pa_cons (pv 3) pa_nil))) (pe_callB call_len_seq (by rfl) T.n_len boot_len (pa_cons (pv 5) pa_nil)))))))))
theorem ok__holds {f : Addr} {fd : FuncData} {dvs : List V} {kws : List (Str × V)} (F : FunD K "_holds" "_holds" (defArgs s__holds) (defBody s__holds) (defScope s__holds) dvs kws f fd) (T : Txt w K mg) (kf : KF K) (C_numbers_at_end : Cal P w K mg base 2 "numbers_at_end" P_numbers_at_end (sp_numbers_at_end K)) : FnOk P w K mg base CX0 3 f fd P__holds (sp__holds K) := by
  refine F.ok sc__holds (fun vs H Q E h => len__holds h) (fun cdv A outer s H vs Q E hr h => ⟨r__holds K, PSs.nox ?_, pure__holds kf vs H Q E h⟩)
  exact (pss_cons (ps_if (pt_cmpR op_eq (pe_fld (pv 1) rfl) pe_int (nomark _)) (pss_one (ps_ret (pe_cmpR op_lt (pe_ix ix_tup (pe_callC C_numbers_at_end hr rfl (pa_cons (pe_slice sl_str (pe_fld (pv 0) rfl) po_none (po_some (pv 3))) (pa_cons (pe_cmpR op_eq (pe_fld (pv 1) rfl) pe_str (nomark _)) (pa_cons (pv 2) pa_nil)))) pe_int (fun _ _ => rfl)) pe_int (nomark _)))) pss_nil)
  pss_never)
theorem ok_is_fixed {f : Addr} {fd : FuncData} {dvs : List V} {kws : List (Str × V)} (F : FunD K "is_fixed" "is_fixed" (defArgs s_is_fixed) (defBody s_is_fixed) (defScope s_is_fixed) dvs kws f fd) (T : Txt w K mg) (C_time_or_last : Cal P w K mg base 3 "time_or_last" P_time_or_last (sp_time_or_last K)) (C_ask_slot : Cal P w K mg base 3 "ask_slot" P_ask_slot (sp_ask_slot K)) (C__holds : Cal P w K mg base 3 "_holds" P__holds (sp__holds K)) : FnOk P w K mg base CX0 4 f fd P_is_fixed (sp_is_fixed K) := by
  refine F.ok sc_is_fixed (fun vs H Q E h => len_is_fixed h) (fun cdv A outer s H vs Q E hr h => ⟨r_is_fixed K, PSs.nox ?_, pure_is_fixed vs H Q E h⟩)
  exact (pss_cons (ps_set (i := 4) sc_is_fixed.nd rfl (Or.inl rfl) (pe_callC C_time_or_last hr rfl (pa_cons (pv 0) (pa_cons (pv 3) pa_nil))))
  (pss_cons (ps_expr (pe_callC C_ask_slot hr rfl (pa_cons (pv 2) (pa_cons (pv 4) pa_nil))))
  (pss_one (ps_ret (pe_callC C__holds hr rfl (pa_cons (pv 0) (pa_cons (pv 1) (pa_cons (pv 2) (pa_cons (pv 4) pa_nil)))))))))
theorem ok_asked_time {f : Addr} {fd : FuncData} {dvs : List V} {kws : List (Str × V)} (F : FunD K "asked_time" "asked_time" (defArgs s_asked_time) (defBody s_asked_time) (defScope s_asked_time) dvs kws f fd) (T : Txt w K mg) (L_Rota : CalLen P w K mg base 1 (He.ga K "Rota") (sp_Rota___len__ K)) : FnOk P w K mg base CX0 3 f fd P_asked_time (sp_asked_time K) := by
  refine F.ok sc_asked_time (fun vs H Q E h => len_asked_time h) (fun cdv A outer s H vs Q E hr h => ⟨r_asked_time K, PSs.nox ?_, pure_asked_time vs H Q E h⟩)
  exact (pss_cons (ps_if (pt_cmpR op_isN (pv 1) pe_non (nomark _)) (pss_one (ps_ret (pe_lenC L_Rota hr (by rfl) T.n_len (pa_cons (pv 0) pa_nil)))) pss_nil)
  (pss_cons (ps_if (PW.pt (pw_or (pt_cmpR op_lt (pv 1) pe_int (nomark _)) (pw_or1 (pt_cmpR op_gt (pv 1) (pe_lenC L_Rota hr (by rfl) T.n_len (pa_cons (pv 0) pa_nil)) (nomark _))))) pss_never pss_nil)
  (pss_one (ps_ret (pv 1)))))
theorem ok_step_of {f : Addr} {fd : FuncData} {dvs : List V} {kws : List (Str × V)} (F : FunD K "step_of" "step_of" (defArgs s_step_of) (defBody s_step_of) (defScope s_step_of) dvs kws f fd) (T : Txt w K mg) (kf : KF K) : FnOk P w K mg base CX0 1 f fd P_step_of (sp_step_of K) := by
  refine F.ok sc_step_of (fun vs H Q E h => len_step_of h) (fun cdv A outer s H vs Q E hr h => ⟨r_step_of K, PSs.nox ?_, pure_step_of kf vs H Q E h⟩)
  exact (pss_cons (ps_asg (pe_ix (ix_k T.kd_HANDS) (pe_glob rfl T.c_HANDS rfl) (pv 0) (fun _ _ => rfl)) (pg_tup (by rfl) (pgs_cons (pg_name (i := 1) sc_step_of.nd rfl (Or.inl rfl)) (pgs_cons (pg_name (i := 2) sc_step_of.nd rfl (Or.inl rfl)) pgs_nil))))
  (pss_cons (ps_set (i := 3) sc_step_of.nd rfl (Or.inl rfl) (pe_ifExp (pt_truth (pv 2) (by intro _; rfl)) pe_int pe_int))
  (pss_cons (ps_set (i := 4) sc_step_of.nd rfl (Or.inl rfl) (pe_ifExp (pt_cmpR op_gt (pv 1) pe_int (nomark _)) pe_int pe_int))
  (pss_one (ps_ret (pe_op op_sub (pv 3) (pv 4)))))))
theorem ok_running_sums {f : Addr} {fd : FuncData} {dvs : List V} {kws : List (Str × V)} (F : FunD K "running_sums" "running_sums" (defArgs s_running_sums) (defBody s_running_sums) (defScope s_running_sums) dvs kws f fd) (T : Txt w K mg) (C_step_of : Cal P w K mg base 1 "step_of" P_step_of (sp_step_of K)) : FnOk P w K mg base CX0 2 f fd P_running_sums (sp_running_sums K) := by
  refine F.ok sc_running_sums (fun vs H Q E h => len_running_sums h) (fun cdv A outer s H vs Q E hr h => ⟨r_running_sums K, PSs.nox ?_, pure_running_sums vs H Q E h⟩)
  exact (pss_cons (ps_set (i := 1) sc_running_sums.nd rfl (Or.inl rfl) (pe_lst (pa_cons pe_int pa_nil)))
  (pss_cons (ps_for PassesOwn.never rfl (pi_str (pv 0)) (pg_name (i := 2) sc_running_sums.nd rfl (Or.inl rfl))
   (pss_one (ps_expr (pe_bm PySem.F.plainAttrs_list PySem.F.slot_list_append PySem.F.type_list_append mt_append (pv 1) (pa_cons (pe_op op_add (pe_ix ix_list (pv 1) (pe_un un_neg pe_int) (fun _ _ => rfl)) (pe_callC C_step_of hr rfl (pa_cons (pv 2) pa_nil))) pa_nil)))))
  (pss_one (ps_ret (pv 1)))))
theorem ok_lows_of {f : Addr} {fd : FuncData} {dvs : List V} {kws : List (Str × V)} (F : FunD K "lows_of" "lows_of" (defArgs s_lows_of) (defBody s_lows_of) (defScope s_lows_of) dvs kws f fd) (T : Txt w K mg) : FnOk P w K mg base CX0 1 f fd P_lows_of (sp_lows_of K) := by
  refine F.ok sc_lows_of (fun vs H Q E h => len_lows_of h) (fun cdv A outer s H vs Q E hr h => ⟨r_lows_of K, PSs.nox ?_, pure_lows_of vs H Q E h⟩)
  exact (pss_cons (ps_set (i := 1) sc_lows_of.nd rfl (Or.inl rfl) (pe_lst (pa_cons (pe_ix ix_list (pv 0) pe_int (fun _ _ => rfl)) pa_nil)))
  (pss_cons (ps_for PassesOwn.never rfl (pi_list (pe_slice sl_list (pv 0) (po_some pe_int) po_none)) (pg_name (i := 2) sc_lows_of.nd rfl (Or.inl rfl))
   (pss_one (ps_expr (pe_bm PySem.F.plainAttrs_list PySem.F.slot_list_append PySem.F.type_list_append mt_append (pv 1) (pa_cons (pe_callB (call_min2 rfl) (by rfl) T.n_min (by decide +kernel) (pa_cons (pe_ix ix_list (pv 1) (pe_un un_neg pe_int) (fun _ _ => rfl)) (pa_cons (pv 2) pa_nil))) pa_nil)))))
  (pss_one (ps_ret (pv 1)))))
theorem ok_highs_of {f : Addr} {fd : FuncData} {dvs : List V} {kws : List (Str × V)} (F : FunD K "highs_of" "highs_of" (defArgs s_highs_of) (defBody s_highs_of) (defScope s_highs_of) dvs kws f fd) (T : Txt w K mg) : FnOk P w K mg base CX0 1 f fd P_highs_of (sp_highs_of K) := by
  refine F.ok sc_highs_of (fun vs H Q E h => len_highs_of h) (fun cdv A outer s H vs Q E hr h => ⟨r_highs_of K, PSs.nox ?_, pure_highs_of vs H Q E h⟩)
  exact (pss_cons (ps_set (i := 1) sc_highs_of.nd rfl (Or.inl rfl) (pe_lst (pa_cons (pe_ix ix_list (pv 0) (pe_un un_neg pe_int) (fun _ _ => rfl)) pa_nil)))
  (pss_cons (ps_for PassesOwn.never rfl (pi_list (pe_revL2 (pv 0))) (pg_name (i := 2) sc_highs_of.nd rfl (Or.inl rfl))
   (pss_one (ps_expr (pe_bm PySem.F.plainAttrs_list PySem.F.slot_list_append PySem.F.type_list_append mt_append (pv 1) (pa_cons (pe_callB (call_max2 rfl) (by rfl) T.n_max (by decide +kernel) (pa_cons (pe_ix ix_list (pv 1) (pe_un un_neg pe_int) (fun _ _ => rfl)) (pa_cons (pv 2) pa_nil))) pa_nil)))))
  (pss_one (ps_ret (pe_revL (pv 1))))))
theorem ok_gate_slots {f : Addr} {fd : FuncData} {dvs : List V} {kws : List (Str × V)} (F : FunD K "gate_slots" "gate_slots" (defArgs s_gate_slots) (defBody s_gate_slots) (defScope s_gate_slots) dvs kws f fd) (T : Txt w K mg) (C_running_sums : Cal P w K mg base 2 "running_sums" P_running_sums (sp_running_sums K)) (C_lows_of : Cal P w K mg base 2 "lows_of" P_lows_of (sp_lows_of K)) (C_highs_of : Cal P w K mg base 2 "highs_of" P_highs_of (sp_highs_of K)) : FnOk P w K mg base CX0 3 f fd P_gate_slots (sp_gate_slots K) := by
  refine F.ok sc_gate_slots (fun vs H Q E h => len_gate_slots h) (fun cdv A outer s H vs Q E hr h => ⟨r_gate_slots K, PSs.nox ?_, pure_gate_slots vs H Q E h⟩)
  exact (pss_cons (ps_set (i := 1) sc_gate_slots.nd rfl (Or.inl rfl) (pe_callC C_running_sums hr rfl (pa_cons (pv 0) pa_nil)))
  (pss_cons (ps_set (i := 2) sc_gate_slots.nd rfl (Or.inl rfl) (pe_callC C_lows_of hr rfl (pa_cons (pv 1) pa_nil)))
  (pss_cons (ps_set (i := 3) sc_gate_slots.nd rfl (Or.inl rfl) (pe_callC C_highs_of hr rfl (pa_cons (pv 1) pa_nil)))
  (pss_cons (ps_set (i := 4) sc_gate_slots.nd rfl (Or.inl rfl) (pe_lst pa_nil))
  (pss_cons (ps_for PassesOwn.never rfl (pi_enumSK (by rfl) T.n_enumerate (pa_cons (pv 0) pa_nil) (pk_cons pe_int pk_nil)) (pg_tup (by rfl) (pgs_cons (pg_name (i := 5) sc_gate_slots.nd rfl (Or.inl rfl)) (pgs_cons (pg_name (i := 6) sc_gate_slots.nd rfl (Or.inl rfl)) pgs_nil)))
   (pss_one (ps_if (PW.pt (pw_and (pt_cmpR op_eq (pv 6) pe_str (nomark _)) (pw_and1 (pt_cmpR op_lt (pe_ix ix_list (pv 3) (pv 5) (fun _ _ => rfl)) (pe_ix ix_list (pv 2) (pe_op op_sub (pv 5) pe_int) (fun _ _ => rfl)) (nomark _))))) (pss_one (ps_expr (pe_bm PySem.F.plainAttrs_list PySem.F.slot_list_append PySem.F.type_list_append mt_append (pv 4) (pa_cons (pv 5) pa_nil)))) pss_nil)))
  (pss_one (ps_ret (pv 4))))))))
theorem ok_gates {f : Addr} {fd : FuncData} {dvs : List V} {kws : List (Str × V)} (F : FunD K "gates" "gates" (defArgs s_gates) (defBody s_gates) (defScope s_gates) dvs kws f fd) (T : Txt w K mg) (kf : KF K) (C_asked_time : Cal P w K mg base 3 "asked_time" P_asked_time (sp_asked_time K)) (C_gate_slots : Cal P w K mg base 3 "gate_slots" P_gate_slots (sp_gate_slots K)) : FnOk P w K mg base CX0 4 f fd P_gates (sp_gates K) := by
  refine F.ok sc_gates (fun vs H Q E h => len_gates h) (fun cdv A outer s H vs Q E hr h => ⟨r_gates K, PSs.nox ?_, pure_gates kf vs H Q E h⟩)
  exact (pss_cons (ps_set (i := 2) sc_gates.nd rfl (Or.inl rfl) (pe_callC C_asked_time hr rfl (pa_cons (pv 0) (pa_cons (pv 1) pa_nil))))
  (pss_one (ps_ret (pe_callC C_gate_slots hr rfl (pa_cons (pe_slice sl_str (pe_fld (pv 0) rfl) po_none (po_some (pv 2))) pa_nil)))))
theorem ok__law_bag {f : Addr} {fd : FuncData} {dvs : List V} {kws : List (Str × V)} (F : FunD K "_law_bag" "_law_bag" (defArgs s__law_bag) (defBody s__law_bag) (defScope s__law_bag) dvs kws f fd) (T : Txt w K mg) : FnOk P w K mg base CX0 1 f fd P__law_bag (sp__law_bag K) := by
  refine F.ok sc__law_bag (fun vs H Q E h => len__law_bag h) (fun cdv A outer s H vs Q E hr h => ⟨r__law_bag K, PSs.nox ?_, pure__law_bag vs H Q E h⟩)
  exact (pss_cons (ps_set (i := 1) sc__law_bag.nd rfl (Or.inl rfl) pe_int)
  (pss_cons (ps_for PassesOwn.never rfl (pi_list (pe_slice sl_list (pv 0) po_none (po_some pe_int))) (pg_name (i := 2) sc__law_bag.nd rfl (Or.inl rfl))
   (pss_one (ps_set (i := 1) sc__law_bag.nd rfl (Or.inl rfl) (pe_op op_mod (pe_callTy call_int1 (by rfl) T.n_int (by decide +kernel) (pa_cons (pe_op op_add (pe_op op_add (pe_op op_mul (pv 1) pe_int) (pe_op op_mod (pe_callTy call_int1 (by rfl) T.n_int (by decide +kernel) (pa_cons (pv 2) pa_nil)) pe_int)) pe_int) pa_nil)) pe_int))))
  (pss_one (ps_ret (pe_lst (pa_cons (pe_callTy call_list_of (by rfl) T.n_list (by decide +kernel) (pa_cons (pe_slice sl_list (pv 0) po_none (po_some pe_int)) pa_nil)) (pa_cons pe_int (pa_cons pe_int (pa_cons (pv 1) (pa_cons pe_int pa_nil))))))))))
theorem ok__law_draw {f : Addr} {fd : FuncData} {dvs : List V} {kws : List (Str × V)} (F : FunD K "_law_draw" "_law_draw" (defArgs s__law_draw) (defBody s__law_draw) (defScope s__law_draw) dvs kws f fd) (T : Txt w K mg) : FnOk P w K mg base CX0 1 f fd P__law_draw (sp__law_draw K) := by
  refine F.ok sc__law_draw (fun vs H Q E h => len__law_draw h) (fun cdv A outer s H vs Q E hr h => ⟨r__law_draw K, PSs.nox ?_, pure__law_draw vs H Q E h⟩)
  exact (pss_cons (ps_asg (pe_op op_add (pe_ix ix_list (pv 0) pe_int (fun _ _ => rfl)) pe_int) (pg_sub (pv 0) pe_int set_list))
  (C8.pss_cut (ps_if (PW.pt (pw_and (pt_cmpR op_eq (pe_ix ix_list (pv 0) pe_int (fun _ _ => rfl)) pe_int (nomark _)) (pw_and1 (pt_cmpR op_lt (pe_ix ix_list (pv 0) pe_int (fun _ _ => rfl)) (pe_callB call_len_seq (by rfl) T.n_len boot_len (pa_cons (pe_ix ix_list (pv 0) pe_int (fun _ _ => rfl)) pa_nil)) (nomark _))))) (pss_cons (ps_set (i := 2) sc__law_draw.nd rfl (Or.inl rfl) (pe_ix ix_list (pe_ix ix_list (pv 0) pe_int (fun _ _ => rfl)) (pe_ix ix_list (pv 0) pe_int (fun _ _ => rfl)) (fun _ _ => rfl)))
  (pss_cons (ps_asg (pe_op op_add (pe_ix ix_list (pv 0) pe_int (fun _ _ => rfl)) pe_int) (pg_sub (pv 0) pe_int set_list))
  (pss_one (ps_if (pt_cmpR op_ge (pv 2) (pe_op op_pow pe_int pe_int) (nomark _)) (pss_one (ps_asg (pv 2) (pg_sub (pv 0) pe_int set_list))) (pss_one (ps_asg (pe_op op_mod (pe_callTy call_int1 (by rfl) T.n_int (by decide +kernel) (pa_cons (pe_op op_add (pe_op op_add (pe_op op_mul (pe_ix ix_list (pv 0) pe_int (fun _ _ => rfl)) pe_int) (pe_op op_mul (pe_op op_mod (pe_callTy call_int1 (by rfl) T.n_int (by decide +kernel) (pa_cons (pv 2) pa_nil)) pe_int) pe_int)) pe_int) pa_nil)) pe_int) (pg_sub (pv 0) pe_int set_list))))))) pss_nil)
  (pss_cons (ps_if (pt_cmpR op_gt (pe_ix ix_list (pv 0) pe_int (fun _ _ => rfl)) pe_int (nomark _)) (pss_cons (ps_set (i := 3) sc__law_draw.nd rfl (Or.inl rfl) (pe_op op_mod (pe_callTy call_int1 (by rfl) T.n_int (by decide +kernel) (pa_cons (pe_ix ix_list (pv 0) pe_int (fun _ _ => rfl)) pa_nil)) (pv 1)))
  (pss_cons (ps_asg (pe_op op_fdivN (pe_ix ix_list (pv 0) pe_int (fun _ _ => rfl)) (pv 1)) (pg_sub (pv 0) pe_int set_list))
  (pss_one (ps_ret (pv 3))))) pss_nil)
  (pss_cons (ps_asg (pe_op op_mod (pe_callTy call_int1 (by rfl) T.n_int (by decide +kernel) (pa_cons (pe_op op_add (pe_op op_add (pe_op op_pow (pe_ix ix_list (pv 0) pe_int (fun _ _ => rfl)) pe_int) (pe_op op_mul (pe_ix ix_list (pv 0) pe_int (fun _ _ => rfl)) pe_int)) pe_int) pa_nil)) pe_int) (pg_sub (pv 0) pe_int set_list))
  (pss_one (ps_ret (pe_op op_mod (pe_callTy call_int1 (by rfl) T.n_int (by decide +kernel) (pa_cons (pe_op op_add (pe_op op_fdivN (pe_ix ix_list (pv 0) pe_int (fun _ _ => rfl)) pe_int) (pe_op op_mul (pe_op op_mod (pe_callTy call_int1 (by rfl) T.n_int (by decide +kernel) (pa_cons (pe_ix ix_list (pv 0) pe_int (fun _ _ => rfl)) pa_nil)) pe_int) pe_int)) pa_nil)) (pv 1))))))))
theorem ok__law_of {f : Addr} {fd : FuncData} {dvs : List V} {kws : List (Str × V)} (F : FunD K "_law_of" "_law_of" (defArgs s__law_of) (defBody s__law_of) (defScope s__law_of) dvs kws f fd) (T : Txt w K mg) (C__law_draw : Cal P w K mg base 1 "_law_draw" P__law_draw (sp__law_draw K)) : FnOk P w K mg base CX0 2 f fd P__law_of (sp__law_of K) := by
  refine F.ok sc__law_of (fun vs H Q E h => len__law_of h) (fun cdv A outer s H vs Q E hr h => ⟨r__law_of K, PSs.nox ?_, pure__law_of vs H Q E h⟩)
  exact (pss_one (ps_ret (pe_ix ix_list (pv 1) (pe_callC C__law_draw hr rfl (pa_cons (pv 0) (pa_cons (pe_callB call_len_seq (by rfl) T.n_len boot_len (pa_cons (pv 1) pa_nil)) pa_nil))) (fun _ _ => rfl))))
theorem ok__law_ofS {f : Addr} {fd : FuncData} {dvs : List V} {kws : List (Str × V)} (F : FunD K "_law_of" "_law_of" (defArgs s__law_ofS) (defBody s__law_ofS) (defScope s__law_ofS) dvs kws f fd) (T : Txt w K mg) (C__law_draw : Cal P w K mg base 1 "_law_draw" P__law_draw (sp__law_draw K)) : FnOk P w K mg base CX0 2 f fd P__law_ofS (sp__law_ofS K) := by
  refine F.ok sc__law_ofS (fun vs H Q E h => len__law_ofS h) (fun cdv A outer s H vs Q E hr h => ⟨r__law_ofS K, PSs.nox ?_, pure__law_ofS vs H Q E h⟩)
  exact (pss_one (ps_ret (pe_item_str (pv 1) (pe_callC C__law_draw hr rfl (pa_cons (pv 0) (pa_cons (pe_callB call_lenS (by rfl) T.n_len boot_len (pa_cons (pv 1) pa_nil)) pa_nil))) (fun _ _ => rfl))))
theorem ok__law_like0 {f : Addr} {fd : FuncData} {dvs : List V} {kws : List (Str × V)} (F : FunD K "_law_like" "_law_like" (defArgs s__law_like0) (defBody s__law_like0) (defScope s__law_like0) dvs kws f fd) (T : Txt w K mg) (C__law_likeZ : Cal P w K mg base 0 "_law_like" P__law_like0 (sp__law_likeZ K)) : FnOk P w K mg base CX0 1 f fd P__law_like0 (sp__law_like0 K) := by
  refine F.ok sc__law_like0 (fun vs H Q E h => len__law_like0 h) (fun cdv A outer s H vs Q E hr h => ⟨r__law_like0 K, PSs.nox ?_, pure__law_like0 vs H Q E h⟩)
  exact (pss_cons (ps_if (pt_val (pe_callB call_isi (by rfl) T.n_isinstance (by decide +kernel) (pa_cons (pv 1) (pa_cons (pe_bltn (by rfl) T.n_bool (by decide +kernel) rfl) pa_nil)))) (pss_one (ps_ret (pe_and (pe_callB call_isi (by rfl) T.n_isinstance (by decide +kernel) (pa_cons (pv 0) (pa_cons (pe_bltn (by rfl) T.n_bool (by decide +kernel) rfl) pa_nil))) (pe_one (pe_cmpR op_eq (pv 0) (pv 1) (nomark _)))))) pss_nil)
  (pss_cons (ps_if (pt_val (pe_callB call_isi (by rfl) T.n_isinstance (by decide +kernel) (pa_cons (pv 1) (pa_cons (pe_bltn (by rfl) T.n_int (by decide +kernel) rfl) pa_nil)))) (pss_one (ps_ret (pe_and (pe_callB call_isi (by rfl) T.n_isinstance (by decide +kernel) (pa_cons (pv 0) (pa_cons (pe_bltn (by rfl) T.n_int (by decide +kernel) rfl) pa_nil))) (pe_and (pe_not (pe_callB call_isi (by rfl) T.n_isinstance (by decide +kernel) (pa_cons (pv 0) (pa_cons (pe_bltn (by rfl) T.n_bool (by decide +kernel) rfl) pa_nil)))) (pe_one (pe_cmpR op_eq (pv 0) (pv 1) (nomark _))))))) pss_nil)
  (pss_cons (ps_if (pt_val (pe_callB call_isi (by rfl) T.n_isinstance (by decide +kernel) (pa_cons (pv 1) (pa_cons (pe_bltn (by rfl) T.n_str (by decide +kernel) rfl) pa_nil)))) (pss_one (ps_ret (pe_and (pe_callB call_isi (by rfl) T.n_isinstance (by decide +kernel) (pa_cons (pv 0) (pa_cons (pe_bltn (by rfl) T.n_str (by decide +kernel) rfl) pa_nil))) (pe_one (pe_cmpR op_eq (pv 0) (pv 1) (nomark _)))))) pss_nil)
  (pss_cons (ps_if (PW.pt (pw_or (pt_val (pe_callB call_isi (by rfl) T.n_isinstance (by decide +kernel) (pa_cons (pv 1) (pa_cons (pe_bltn (by rfl) T.n_list (by decide +kernel) rfl) pa_nil)))) (pw_or1 (pt_val (pe_callB call_isi (by rfl) T.n_isinstance (by decide +kernel) (pa_cons (pv 1) (pa_cons (pe_bltn (by rfl) T.n_tuple (by decide +kernel) rfl) pa_nil))))))) (pss_cons (ps_if (PW.pt (pw_or (pt_cmpR op_ne (pe_callB call_isi (by rfl) T.n_isinstance (by decide +kernel) (pa_cons (pv 0) (pa_cons (pe_bltn (by rfl) T.n_list (by decide +kernel) rfl) pa_nil))) (pe_callB call_isi (by rfl) T.n_isinstance (by decide +kernel) (pa_cons (pv 1) (pa_cons (pe_bltn (by rfl) T.n_list (by decide +kernel) rfl) pa_nil))) (nomark _)) (pw_or1 (pt_cmpR op_ne (pe_callB call_isi (by rfl) T.n_isinstance (by decide +kernel) (pa_cons (pv 0) (pa_cons (pe_bltn (by rfl) T.n_tuple (by decide +kernel) rfl) pa_nil))) (pe_callB call_isi (by rfl) T.n_isinstance (by decide +kernel) (pa_cons (pv 1) (pa_cons (pe_bltn (by rfl) T.n_tuple (by decide +kernel) rfl) pa_nil))) (nomark _))))) (pss_one (ps_ret pe_bl)) pss_nil)
  (pss_cons (ps_if (pt_cmpR op_ne (pe_callB call_len_seq (by rfl) T.n_len boot_len (pa_cons (pv 0) pa_nil)) (pe_callB call_len_seq (by rfl) T.n_len boot_len (pa_cons (pv 1) pa_nil)) (nomark _)) (pss_one (ps_ret pe_bl)) pss_nil)
  (pss_cons (ps_for PassesOwn.never rfl (pi_range1 (by rfl) T.n_range (pa_cons (pe_callB call_len_seq (by rfl) T.n_len boot_len (pa_cons (pv 1) pa_nil)) pa_nil)) (pg_name (i := 2) sc__law_like0.nd rfl (Or.inl rfl))
   (pss_one (ps_if (pt_not (pt_val (pe_callC C__law_likeZ hr rfl (pa_cons (pe_ix ix_seq (pv 0) (pv 2) (fun _ _ => rfl)) (pa_cons (pe_ix ix_seq (pv 1) (pv 2) (fun _ _ => rfl)) pa_nil))))) (pss_one (ps_ret pe_bl)) pss_nil)))
  (pss_one (ps_ret pe_bl))))) pss_nil)
  (pss_one (ps_ret (pe_and (pe_cmpR op_isN (pv 1) pe_non (nomark _)) (pe_one (pe_cmpR op_isN (pv 0) pe_non (nomark _))))))))))
theorem ok__law_like1 {f : Addr} {fd : FuncData} {dvs : List V} {kws : List (Str × V)} (F : FunD K "_law_like" "_law_like" (defArgs s__law_like1) (defBody s__law_like1) (defScope s__law_like1) dvs kws f fd) (T : Txt w K mg) (C__law_like0 : Cal P w K mg base 1 "_law_like" P__law_like0 (sp__law_like0 K)) : FnOk P w K mg base CX0 2 f fd P__law_like1 (sp__law_like1 K) := by
  refine F.ok sc__law_like1 (fun vs H Q E h => len__law_like1 h) (fun cdv A outer s H vs Q E hr h => ⟨r__law_like1 K, PSs.nox ?_, pure__law_like1 vs H Q E h⟩)
  exact (pss_cons (ps_if (pt_val (pe_callB call_isi (by rfl) T.n_isinstance (by decide +kernel) (pa_cons (pv 1) (pa_cons (pe_bltn (by rfl) T.n_bool (by decide +kernel) rfl) pa_nil)))) (pss_one (ps_ret (pe_and (pe_callB call_isi (by rfl) T.n_isinstance (by decide +kernel) (pa_cons (pv 0) (pa_cons (pe_bltn (by rfl) T.n_bool (by decide +kernel) rfl) pa_nil))) (pe_one (pe_cmpR op_eq (pv 0) (pv 1) (nomark _)))))) pss_nil)
  (pss_cons (ps_if (pt_val (pe_callB call_isi (by rfl) T.n_isinstance (by decide +kernel) (pa_cons (pv 1) (pa_cons (pe_bltn (by rfl) T.n_int (by decide +kernel) rfl) pa_nil)))) (pss_one (ps_ret (pe_and (pe_callB call_isi (by rfl) T.n_isinstance (by decide +kernel) (pa_cons (pv 0) (pa_cons (pe_bltn (by rfl) T.n_int (by decide +kernel) rfl) pa_nil))) (pe_and (pe_not (pe_callB call_isi (by rfl) T.n_isinstance (by decide +kernel) (pa_cons (pv 0) (pa_cons (pe_bltn (by rfl) T.n_bool (by decide +kernel) rfl) pa_nil)))) (pe_one (pe_cmpR op_eq (pv 0) (pv 1) (nomark _))))))) pss_nil)
  (pss_cons (ps_if (pt_val (pe_callB call_isi (by rfl) T.n_isinstance (by decide +kernel) (pa_cons (pv 1) (pa_cons (pe_bltn (by rfl) T.n_str (by decide +kernel) rfl) pa_nil)))) (pss_one (ps_ret (pe_and (pe_callB call_isi (by rfl) T.n_isinstance (by decide +kernel) (pa_cons (pv 0) (pa_cons (pe_bltn (by rfl) T.n_str (by decide +kernel) rfl) pa_nil))) (pe_one (pe_cmpR op_eq (pv 0) (pv 1) (nomark _)))))) pss_nil)
  (pss_cons (ps_if (PW.pt (pw_or (pt_val (pe_callB call_isi (by rfl) T.n_isinstance (by decide +kernel) (pa_cons (pv 1) (pa_cons (pe_bltn (by rfl) T.n_list (by decide +kernel) rfl) pa_nil)))) (pw_or1 (pt_val (pe_callB call_isi (by rfl) T.n_isinstance (by decide +kernel) (pa_cons (pv 1) (pa_cons (pe_bltn (by rfl) T.n_tuple (by decide +kernel) rfl) pa_nil))))))) (pss_cons (ps_if (PW.pt (pw_or (pt_cmpR op_ne (pe_callB call_isi (by rfl) T.n_isinstance (by decide +kernel) (pa_cons (pv 0) (pa_cons (pe_bltn (by rfl) T.n_list (by decide +kernel) rfl) pa_nil))) (pe_callB call_isi (by rfl) T.n_isinstance (by decide +kernel) (pa_cons (pv 1) (pa_cons (pe_bltn (by rfl) T.n_list (by decide +kernel) rfl) pa_nil))) (nomark _)) (pw_or1 (pt_cmpR op_ne (pe_callB call_isi (by rfl) T.n_isinstance (by decide +kernel) (pa_cons (pv 0) (pa_cons (pe_bltn (by rfl) T.n_tuple (by decide +kernel) rfl) pa_nil))) (pe_callB call_isi (by rfl) T.n_isinstance (by decide +kernel) (pa_cons (pv 1) (pa_cons (pe_bltn (by rfl) T.n_tuple (by decide +kernel) rfl) pa_nil))) (nomark _))))) (pss_one (ps_ret pe_bl)) pss_nil)
  (pss_cons (ps_if (pt_cmpR op_ne (pe_callB call_len_seq (by rfl) T.n_len boot_len (pa_cons (pv 0) pa_nil)) (pe_callB call_len_seq (by rfl) T.n_len boot_len (pa_cons (pv 1) pa_nil)) (nomark _)) (pss_one (ps_ret pe_bl)) pss_nil)
  (pss_cons (ps_for PassesOwn.never rfl (pi_range1 (by rfl) T.n_range (pa_cons (pe_callB call_len_seq (by rfl) T.n_len boot_len (pa_cons (pv 1) pa_nil)) pa_nil)) (pg_name (i := 2) sc__law_like1.nd rfl (Or.inl rfl))
   (pss_one (ps_if (pt_not (pt_val (pe_callC C__law_like0 hr rfl (pa_cons (pe_ix ix_seq (pv 0) (pv 2) (fun _ _ => rfl)) (pa_cons (pe_ix ix_seq (pv 1) (pv 2) (fun _ _ => rfl)) pa_nil))))) (pss_one (ps_ret pe_bl)) pss_nil)))
  (pss_one (ps_ret pe_bl))))) pss_nil)
  (pss_one (ps_ret (pe_and (pe_cmpR op_isN (pv 1) pe_non (nomark _)) (pe_one (pe_cmpR op_isN (pv 0) pe_non (nomark _))))))))))
theorem ok__law_like2 {f : Addr} {fd : FuncData} {dvs : List V} {kws : List (Str × V)} (F : FunD K "_law_like" "_law_like" (defArgs s__law_like2) (defBody s__law_like2) (defScope s__law_like2) dvs kws f fd) (T : Txt w K mg) (C__law_like1 : Cal P w K mg base 2 "_law_like" P__law_like1 (sp__law_like1 K)) : FnOk P w K mg base CX0 3 f fd P__law_like2 (sp__law_like2 K) := by
  refine F.ok sc__law_like2 (fun vs H Q E h => len__law_like2 h) (fun cdv A outer s H vs Q E hr h => ⟨r__law_like2 K, PSs.nox ?_, pure__law_like2 vs H Q E h⟩)
  exact (pss_cons (ps_if (pt_val (pe_callB call_isi (by rfl) T.n_isinstance (by decide +kernel) (pa_cons (pv 1) (pa_cons (pe_bltn (by rfl) T.n_bool (by decide +kernel) rfl) pa_nil)))) (pss_one (ps_ret (pe_and (pe_callB call_isi (by rfl) T.n_isinstance (by decide +kernel) (pa_cons (pv 0) (pa_cons (pe_bltn (by rfl) T.n_bool (by decide +kernel) rfl) pa_nil))) (pe_one (pe_cmpR op_eq (pv 0) (pv 1) (nomark _)))))) pss_nil)
  (pss_cons (ps_if (pt_val (pe_callB call_isi (by rfl) T.n_isinstance (by decide +kernel) (pa_cons (pv 1) (pa_cons (pe_bltn (by rfl) T.n_int (by decide +kernel) rfl) pa_nil)))) (pss_one (ps_ret (pe_and (pe_callB call_isi (by rfl) T.n_isinstance (by decide +kernel) (pa_cons (pv 0) (pa_cons (pe_bltn (by rfl) T.n_int (by decide +kernel) rfl) pa_nil))) (pe_and (pe_not (pe_callB call_isi (by rfl) T.n_isinstance (by decide +kernel) (pa_cons (pv 0) (pa_cons (pe_bltn (by rfl) T.n_bool (by decide +kernel) rfl) pa_nil)))) (pe_one (pe_cmpR op_eq (pv 0) (pv 1) (nomark _))))))) pss_nil)
  (pss_cons (ps_if (pt_val (pe_callB call_isi (by rfl) T.n_isinstance (by decide +kernel) (pa_cons (pv 1) (pa_cons (pe_bltn (by rfl) T.n_str (by decide +kernel) rfl) pa_nil)))) (pss_one (ps_ret (pe_and (pe_callB call_isi (by rfl) T.n_isinstance (by decide +kernel) (pa_cons (pv 0) (pa_cons (pe_bltn (by rfl) T.n_str (by decide +kernel) rfl) pa_nil))) (pe_one (pe_cmpR op_eq (pv 0) (pv 1) (nomark _)))))) pss_nil)
  (pss_cons (ps_if (PW.pt (pw_or (pt_val (pe_callB call_isi (by rfl) T.n_isinstance (by decide +kernel) (pa_cons (pv 1) (pa_cons (pe_bltn (by rfl) T.n_list (by decide +kernel) rfl) pa_nil)))) (pw_or1 (pt_val (pe_callB call_isi (by rfl) T.n_isinstance (by decide +kernel) (pa_cons (pv 1) (pa_cons (pe_bltn (by rfl) T.n_tuple (by decide +kernel) rfl) pa_nil))))))) (pss_cons (ps_if (PW.pt (pw_or (pt_cmpR op_ne (pe_callB call_isi (by rfl) T.n_isinstance (by decide +kernel) (pa_cons (pv 0) (pa_cons (pe_bltn (by rfl) T.n_list (by decide +kernel) rfl) pa_nil))) (pe_callB call_isi (by rfl) T.n_isinstance (by decide +kernel) (pa_cons (pv 1) (pa_cons (pe_bltn (by rfl) T.n_list (by decide +kernel) rfl) pa_nil))) (nomark _)) (pw_or1 (pt_cmpR op_ne (pe_callB call_isi (by rfl) T.n_isinstance (by decide +kernel) (pa_cons (pv 0) (pa_cons (pe_bltn (by rfl) T.n_tuple (by decide +kernel) rfl) pa_nil))) (pe_callB call_isi (by rfl) T.n_isinstance (by decide +kernel) (pa_cons (pv 1) (pa_cons (pe_bltn (by rfl) T.n_tuple (by decide +kernel) rfl) pa_nil))) (nomark _))))) (pss_one (ps_ret pe_bl)) pss_nil)
  (pss_cons (ps_if (pt_cmpR op_ne (pe_callB call_len_seq (by rfl) T.n_len boot_len (pa_cons (pv 0) pa_nil)) (pe_callB call_len_seq (by rfl) T.n_len boot_len (pa_cons (pv 1) pa_nil)) (nomark _)) (pss_one (ps_ret pe_bl)) pss_nil)
  (pss_cons (ps_for PassesOwn.never rfl (pi_range1 (by rfl) T.n_range (pa_cons (pe_callB call_len_seq (by rfl) T.n_len boot_len (pa_cons (pv 1) pa_nil)) pa_nil)) (pg_name (i := 2) sc__law_like2.nd rfl (Or.inl rfl))
   (pss_one (ps_if (pt_not (pt_val (pe_callC C__law_like1 hr rfl (pa_cons (pe_ix ix_seq (pv 0) (pv 2) (fun _ _ => rfl)) (pa_cons (pe_ix ix_seq (pv 1) (pv 2) (fun _ _ => rfl)) pa_nil))))) (pss_one (ps_ret pe_bl)) pss_nil)))
  (pss_one (ps_ret pe_bl))))) pss_nil)
  (pss_one (ps_ret (pe_and (pe_cmpR op_isN (pv 1) pe_non (nomark _)) (pe_one (pe_cmpR op_isN (pv 0) pe_non (nomark _))))))))))
theorem ok__law_letters {f : Addr} {fd : FuncData} {dvs : List V} {kws : List (Str × V)} (F : FunD K "_law_letters" "_law_letters" (defArgs s__law_letters) (defBody s__law_letters) (defScope s__law_letters) dvs kws f fd) (T : Txt w K mg) (C__law_of : Cal P w K mg base 2 "_law_of" P__law_of (sp__law_of K)) (C__law_ofS : Cal P w K mg base 2 "_law_of" P__law_ofS (sp__law_ofS K)) : FnOk P w K mg base CX0 3 f fd P__law_letters (sp__law_letters K) := by
  refine F.ok sc__law_letters (fun vs H Q E h => len__law_letters h) (fun cdv A outer s H vs Q E hr h => ⟨r__law_letters K, PSs.nox ?_, pure__law_letters vs H Q E h⟩)
  exact (pss_cons (ps_set (i := 2) sc__law_letters.nd rfl (Or.inr rfl) (pe_callC C__law_of hr rfl (pa_cons (pv 0) (pa_cons (pe_lst (pa_cons pe_str (pa_cons pe_str (pa_cons pe_str (pa_cons pe_str (pa_cons pe_str (pa_cons pe_str (pa_cons pe_str (pa_cons pe_str (pa_cons pe_str (pa_cons pe_str pa_nil))))))))))) pa_nil))))
  (pss_one (ps_ret (pe_bm PySem.F.plainAttrs_str PySem.F.slot_str_join PySem.F.type_str_join mt_join pe_str (pa_cons (pe_lc (own := [("k", 3)]) (by rfl) sc__law_letters.nd (pi_range1 (by rfl) T.n_range (pa_cons (pv 1) pa_nil)) (blkOk_by (own := [("k", 3)]) (N := N__law_letters) (sc := defScope s__law_letters) (by decide +kernel))
     (fun _ _ _ _ _ => (pg_name (i := 3) sc__law_letters.nd rfl (Or.inl rfl))) (fun _ _ _ _ _ => pts_nil) (fun _ _ _ _ _ => (pe_callC C__law_ofS hr rfl (pa_cons (pv 0) (pa_cons (pv 2) pa_nil))))) pa_nil)))))
theorem ok__law_line {f : Addr} {fd : FuncData} {dvs : List V} {kws : List (Str × V)} (F : FunD K "_law_line" "_law_line" (defArgs s__law_line) (defBody s__law_line) (defScope s__law_line) dvs kws f fd) (T : Txt w K mg) (C__law_draw : Cal P w K mg base 3 "_law_draw" P__law_draw (sp__law_draw K)) (C__law_letters : Cal P w K mg base 3 "_law_letters" P__law_letters (sp__law_letters K)) (C__law_of : Cal P w K mg base 3 "_law_of" P__law_of (sp__law_of K)) : FnOk P w K mg base CX0 4 f fd P__law_line (sp__law_line K) := by
  refine F.ok sc__law_line (fun vs H Q E h => len__law_line h) (fun cdv A outer s H vs Q E hr h => ⟨r__law_line K, PSs.nox ?_, pure__law_line vs H Q E h⟩)
  exact (pss_cons (ps_set (i := 3) sc__law_line.nd rfl (Or.inl rfl) (pe_op op_add (pv 1) (pe_callB (call_max2 rfl) (by rfl) T.n_max (by decide +kernel) (pa_cons (pe_callC C__law_draw hr rfl (pa_cons (pv 0) (pa_cons (pe_op op_add (pe_op op_sub (pv 2) (pv 1)) pe_int) pa_nil))) (pa_cons (pe_callC C__law_draw hr rfl (pa_cons (pv 0) (pa_cons (pe_op op_add (pe_op op_sub (pv 2) (pv 1)) pe_int) pa_nil))) pa_nil)))))
  (pss_cons (ps_if (pt_truth (pe_callC C__law_draw hr rfl (pa_cons (pv 0) (pa_cons pe_int pa_nil))) (by intro _; rfl)) (pss_one (ps_ret (pe_callC C__law_letters hr rfl (pa_cons (pv 0) (pa_cons (pv 3) pa_nil))))) pss_nil)
  (pss_cons (ps_set (i := 4) sc__law_line.nd rfl (Or.inl rfl) (pe_callC C__law_of hr rfl (pa_cons (pv 0) (pa_cons (pe_lst (pa_cons pe_str (pa_cons pe_str (pa_cons pe_str (pa_cons pe_str (pa_cons pe_str (pa_cons pe_str (pa_cons pe_str (pa_cons pe_str (pa_cons pe_str (pa_cons pe_str (pa_cons pe_str (pa_cons pe_str pa_nil))))))))))))) pa_nil))))
  (pss_cons (ps_set (i := 5) sc__law_line.nd rfl (Or.inl rfl) (pe_callC C__law_letters hr rfl (pa_cons (pv 0) (pa_cons (pe_callC C__law_draw hr rfl (pa_cons (pv 0) (pa_cons (pe_op op_add (pv 3) pe_int) pa_nil))) pa_nil))))
  (pss_one (ps_ret (pe_slice sl_str (pe_op op_add_str (pe_op op_add_str (pv 5) (pv 4)) (pe_callC C__law_letters hr rfl (pa_cons (pv 0) (pa_cons (pv 3) pa_nil)))) po_none (po_some (pv 3)))))))))
theorem ok__law_text {f : Addr} {fd : FuncData} {dvs : List V} {kws : List (Str × V)} (F : FunD K "_law_text" "_law_text" (defArgs s__law_text) (defBody s__law_text) (defScope s__law_text) dvs kws f fd) (T : Txt w K mg) : FnOk P w K mg base CX0 1 f fd P__law_text (sp__law_text K) := by
  refine F.ok sc__law_text (fun vs H Q E h => len__law_text h) (fun cdv A outer s H vs Q E hr h => ⟨r__law_text K, PSs.nox ?_, pure__law_text vs H Q E h⟩)
  exact (pss_one (ps_ret (pe_ifExp (pt_truth (pv 0) (by intro _; rfl)) (pv 0) pe_str)))
theorem ok__law_sums {f : Addr} {fd : FuncData} {dvs : List V} {kws : List (Str × V)} (F : FunD K "_law_sums" "_law_sums" (defArgs s__law_sums) (defBody s__law_sums) (defScope s__law_sums) dvs kws f fd) (T : Txt w K mg) : FnOk P w K mg base CX0 1 f fd P__law_sums (sp__law_sums K) := by
  refine F.ok sc__law_sums (fun vs H Q E h => len__law_sums h) (fun cdv A outer s H vs Q E hr h => ⟨r__law_sums K, PSs.nox ?_, pure__law_sums vs H Q E h⟩)
  exact (pss_cons (ps_set (i := 2) sc__law_sums.nd rfl (Or.inr rfl) pe_int)
  (pss_cons (ps_set (i := 3) sc__law_sums.nd rfl (Or.inl rfl) (pe_lst pa_nil))
  (pss_cons (ps_set (i := 4) sc__law_sums.nd rfl (Or.inl rfl) (pe_lst (pa_cons (pe_lst (pa_cons (pe_tup (pa_cons pe_int (pa_cons pe_int pa_nil))) pa_nil)) pa_nil)))
  (pss_cons (ps_for PassesOwn.never rfl (pi_str (pv 0)) (pg_name (i := 5) sc__law_sums.nd rfl (Or.inl rfl))
   (pss_cons (ps_expr (pe_bm PySem.F.plainAttrs_list PySem.F.slot_list_append PySem.F.type_list_append mt_append (pv 3) (pa_cons (pv 2) pa_nil)))
  (C8.pss_cut (ps_if (pt_cmpR op_eq (pv 5) pe_str (nomark _)) (pss_cons (ps_setLc (i := 3) (own := [("m", 6)]) (by rfl) sc__law_sums.nd rfl rfl (sw_true rfl rfl rfl (by decide +kernel)) (pi_list (pv 3)) (blkOk_by (own := [("m", 6)]) (N := N__law_sums) (sc := defScope s__law_sums) (by decide +kernel))
     (fun _ _ _ _ _ => (pg_name (i := 6) sc__law_sums.nd rfl (Or.inl rfl))) (fun _ _ _ _ _ => pts_nil) (fun _ _ _ _ _ => (pe_op op_add (pv 6) pe_int)))
  (pss_one (ps_set (i := 2) sc__law_sums.nd rfl (Or.inr rfl) (pe_op op_add (pv 2) pe_int)))) (pss_one (ps_if (PW.pt (pw_or (pt_cmpR op_eq (pv 5) pe_str (nomark _)) (pw_or1 (pt_cmpR op_eq (pv 5) pe_str (nomark _))))) (pss_cons (ps_set (i := 7) sc__law_sums.nd rfl (Or.inr rfl) (pe_or (pe_cmpR op_eq (pv 5) pe_str (nomark _)) (pe_one (pe_and (pe_cmpR op_eq (pv 1) pe_str (nomark _)) (pe_one (pe_cmpR op_gt (pv 2) pe_int (nomark _)))))))
  (pss_cons (ps_setLc (i := 3) (own := [("m", 6)]) (by rfl) sc__law_sums.nd rfl rfl (sw_true rfl rfl rfl (by decide +kernel)) (pi_list (pv 3)) (blkOk_by (own := [("m", 6)]) (N := N__law_sums) (sc := defScope s__law_sums) (by decide +kernel))
     (fun _ _ _ _ _ => (pg_name (i := 6) sc__law_sums.nd rfl (Or.inl rfl))) (fun _ _ _ _ _ => pts_nil) (fun _ _ _ _ _ => (pe_ifExp (PW.pt (pw_and (pt_cmpR op_eq (pv 6) pe_int (nomark _)) (pw_and1 (pt_truth (pv 7) (by intro _; rfl))))) pe_int (pe_op op_sub (pv 6) pe_int))))
  (pss_one (ps_set (i := 2) sc__law_sums.nd rfl (Or.inr rfl) (pe_callB (call_max2 rfl) (by rfl) T.n_max (by decide +kernel) (pa_cons pe_int (pa_cons (pe_op op_sub (pv 2) pe_int) pa_nil))))))) pss_nil)))
  (pss_one (ps_expr (pe_bm PySem.F.plainAttrs_list PySem.F.slot_list_append PySem.F.type_list_append mt_append (pv 4) (pa_cons (pe_op op_cat (pe_lc (own := [("m", 6)]) (by rfl) sc__law_sums.nd (pi_list (pv 3)) (blkOk_by (own := [("m", 6)]) (N := N__law_sums) (sc := defScope s__law_sums) (by decide +kernel))
     (fun _ _ _ _ _ => (pg_name (i := 6) sc__law_sums.nd rfl (Or.inl rfl))) (fun _ _ _ _ _ => pts_nil) (fun _ _ _ _ _ => (pe_tup (pa_cons (pv 2) (pa_cons (pv 6) pa_nil))))) (pe_lst (pa_cons (pe_tup (pa_cons (pv 2) (pa_cons (pv 2) pa_nil))) pa_nil))) pa_nil)))))))
  (pss_one (ps_ret (pv 4)))))))
theorem ok__law_over {f : Addr} {fd : FuncData} {dvs : List V} {kws : List (Str × V)} (F : FunD K "_law_over" "_law_over" (defArgs s__law_over) (defBody s__law_over) (defScope s__law_over) dvs kws f fd) (T : Txt w K mg) : FnOk P w K mg base CX0 1 f fd P__law_over (sp__law_over K) := by
  refine F.ok sc__law_over (fun vs H Q E h => len__law_over h) (fun cdv A outer s H vs Q E hr h => ⟨r__law_over K, PSs.nox ?_, pure__law_over vs H Q E h⟩)
  exact (pss_cons (ps_set (i := 3) sc__law_over.nd rfl (Or.inl rfl) pe_int)
  (pss_cons (ps_for PassesOwn.never rfl (pi_str (pe_slice sl_str (pv 0) (po_some (pe_op op_sub (pv 1) pe_int)) (po_some (pv 2)))) (pg_name (i := 4) sc__law_over.nd rfl (Or.inl rfl))
   (pss_one (ps_set (i := 3) sc__law_over.nd rfl (Or.inl rfl) (pe_op op_add (pv 3) (pe_ifExp (pt_cmpR op_eq (pv 4) pe_str (nomark _)) pe_int (pe_ifExp (PW.pt (pw_or (pt_cmpR op_eq (pv 4) pe_str (nomark _)) (pw_or1 (pt_cmpR op_eq (pv 4) pe_str (nomark _))))) (pe_un un_neg pe_int) pe_int))))))
  (pss_one (ps_ret (pv 3)))))
theorem ok__law_gates_fast {f : Addr} {fd : FuncData} {dvs : List V} {kws : List (Str × V)} (F : FunD K "_law_gates_fast" "_law_gates_fast" (defArgs s__law_gates_fast) (defBody s__law_gates_fast) (defScope s__law_gates_fast) dvs kws f fd) (T : Txt w K mg) : FnOk P w K mg base CX0 1 f fd P__law_gates_fast (sp__law_gates_fast K) := by
  refine F.ok sc__law_gates_fast (fun vs H Q E h => len__law_gates_fast h) (fun cdv A outer s H vs Q E hr h => ⟨r__law_gates_fast K, PSs.nox ?_, pure__law_gates_fast vs H Q E h⟩)
  exact (pss_cons (ps_set (i := 1) sc__law_gates_fast.nd rfl (Or.inl rfl) (pe_lst (pa_cons pe_int pa_nil)))
  (pss_cons (ps_for PassesOwn.never rfl (pi_str (pv 0)) (pg_name (i := 2) sc__law_gates_fast.nd rfl (Or.inl rfl))
   (pss_cons (ps_set (i := 3) sc__law_gates_fast.nd rfl (Or.inl rfl) (pe_ifExp (PW.pt (pw_or (pt_cmpR op_eq (pv 2) pe_str (nomark _)) (pw_or1 (pt_cmpR op_eq (pv 2) pe_str (nomark _))))) pe_int (pe_ifExp (pt_cmpR op_eq (pv 2) pe_str (nomark _)) (pe_un un_neg pe_int) pe_int)))
  (pss_one (ps_expr (pe_bm PySem.F.plainAttrs_list PySem.F.slot_list_append PySem.F.type_list_append mt_append (pv 1) (pa_cons (pe_op op_add (pe_ix ix_list (pv 1) (pe_op op_sub (pe_callB call_len_seq (by rfl) T.n_len boot_len (pa_cons (pv 1) pa_nil)) pe_int) (fun _ _ => rfl)) (pv 3)) pa_nil))))))
  (pss_cons (ps_setLc (i := 4) (own := [("item", 5)]) (by rfl) sc__law_gates_fast.nd rfl rfl (sw_true rfl rfl rfl (by decide +kernel)) (pi_list (pv 1)) (blkOk_by (own := [("item", 5)]) (N := N__law_gates_fast) (sc := defScope s__law_gates_fast) (by decide +kernel))
     (fun _ _ _ _ _ => (pg_name (i := 5) sc__law_gates_fast.nd rfl (Or.inl rfl))) (fun _ _ _ _ _ => pts_nil) (fun _ _ _ _ _ => (pv 5)))
  (pss_cons (ps_for PassesOwn.never rfl (pi_revR (by rfl) T.n_reversed (prg_1 (by rfl) T.n_range (pe_callB call_lenS (by rfl) T.n_len boot_len (pa_cons (pv 0) pa_nil)))) (pg_name (i := 6) sc__law_gates_fast.nd rfl (Or.inl rfl))
   (pss_one (ps_asg (pe_callB (call_min2 rfl) (by rfl) T.n_min (by decide +kernel) (pa_cons (pe_ix ix_list (pv 4) (pv 6) (fun _ _ => rfl)) (pa_cons (pe_ix ix_list (pv 4) (pe_op op_add (pv 6) pe_int) (fun _ _ => rfl)) pa_nil))) (pg_sub (pv 4) (pv 6) set_list))))
  (pss_cons (ps_set (i := 7) sc__law_gates_fast.nd rfl (Or.inl rfl) (pe_lst pa_nil))
  (pss_cons (ps_set (i := 8) sc__law_gates_fast.nd rfl (Or.inl rfl) pe_int)
  (pss_cons (ps_for PassesOwn.never rfl (pi_range2 (by rfl) T.n_range (pa_cons pe_int (pa_cons (pe_op op_add (pe_callB call_lenS (by rfl) T.n_len boot_len (pa_cons (pv 0) pa_nil)) pe_int) pa_nil))) (pg_name (i := 9) sc__law_gates_fast.nd rfl (Or.inl rfl))
   (pss_cons (ps_set (i := 8) sc__law_gates_fast.nd rfl (Or.inl rfl) (pe_callB (call_max2 rfl) (by rfl) T.n_max (by decide +kernel) (pa_cons (pv 8) (pa_cons (pe_ix ix_list (pv 1) (pe_op op_sub (pv 9) pe_int) (fun _ _ => rfl)) pa_nil))))
  (pss_one (ps_if (PW.pt (pw_and (pt_cmpR op_eq (pe_item_str (pv 0) (pe_op op_sub (pv 9) pe_int) (fun _ _ => rfl)) pe_str (nomark _)) (pw_and1 (pt_cmpR op_gt (pe_ix ix_list (pv 4) (pv 9) (fun _ _ => rfl)) (pv 8) (nomark _))))) (pss_one (ps_expr (pe_bm PySem.F.plainAttrs_list PySem.F.slot_list_append PySem.F.type_list_append mt_append (pv 7) (pa_cons (pv 9) pa_nil)))) pss_nil))))
  (pss_one (ps_ret (pv 7))))))))))
theorem ok__law_put_in {f : Addr} {fd : FuncData} {dvs : List V} {kws : List (Str × V)} (F : FunD K "_law_put_in" "_law_put_in" (defArgs s__law_put_in) (defBody s__law_put_in) (defScope s__law_put_in) dvs kws f fd) (T : Txt w K mg) (C__law_of : Cal P w K mg base 2 "_law_of" P__law_of (sp__law_of K)) (C__law_ofS : Cal P w K mg base 2 "_law_of" P__law_ofS (sp__law_ofS K)) : FnOk P w K mg base CX0 3 f fd P__law_put_in (sp__law_put_in K) := by
  refine F.ok sc__law_put_in (fun vs H Q E h => len__law_put_in h) (fun cdv A outer s H vs Q E hr h => ⟨r__law_put_in K, PSs.nox ?_, pure__law_put_in vs H Q E h⟩)
  exact (pss_cons (ps_set (i := 2) sc__law_put_in.nd rfl (Or.inl rfl) pe_str)
  (pss_cons (ps_set (i := 3) sc__law_put_in.nd rfl (Or.inl rfl) (pe_lst pa_nil))
  (pss_cons (ps_for PassesOwn.never rfl (pi_range1 (by rfl) T.n_range (pa_cons (pe_op op_add (pe_callB call_lenS (by rfl) T.n_len boot_len (pa_cons (pv 1) pa_nil)) pe_int) pa_nil)) (pg_name (i := 4) sc__law_put_in.nd rfl (Or.inl rfl))
   (pss_cons (ps_set (i := 5) sc__law_put_in.nd rfl (Or.inl rfl) (pe_callC C__law_of hr rfl (pa_cons (pv 0) (pa_cons (pe_lst (pa_cons pe_int (pa_cons pe_int (pa_cons pe_int (pa_cons pe_int (pa_cons pe_int (pa_cons pe_int pa_nil))))))) pa_nil))))
  (C8.pss_cut (ps_for PassesOwn.never rfl (pi_range1 (by rfl) T.n_range (pa_cons (pv 5) pa_nil)) (pg_name (i := 6) sc__law_put_in.nd rfl (Or.inl rfl))
   (pss_one (ps_if (pt_cmpR op_lt (pe_callB call_lenS (by rfl) T.n_len boot_len (pa_cons (pv 2) pa_nil)) (pe_op op_sub pe_int (pe_callB call_lenS (by rfl) T.n_len boot_len (pa_cons (pv 1) pa_nil))) (nomark _)) (pss_cons (ps_set (i := 2) sc__law_put_in.nd rfl (Or.inl rfl) (pe_op op_add_str (pv 2) (pe_callC C__law_ofS hr rfl (pa_cons (pv 0) (pa_cons pe_str pa_nil)))))
  (pss_one (ps_expr (pe_bm PySem.F.plainAttrs_list PySem.F.slot_list_append PySem.F.type_list_append mt_append (pv 3) (pa_cons (pe_op op_add (pv 4) pe_int) pa_nil))))) pss_nil)))
  (pss_one (ps_if (pt_cmpR op_lt (pv 4) (pe_callB call_lenS (by rfl) T.n_len boot_len (pa_cons (pv 1) pa_nil)) (nomark _)) (pss_cons (ps_set (i := 2) sc__law_put_in.nd rfl (Or.inl rfl) (pe_op op_add_str (pv 2) (pe_item_str (pv 1) (pv 4) (fun _ _ => rfl))))
  (pss_one (ps_expr (pe_bm PySem.F.plainAttrs_list PySem.F.slot_list_append PySem.F.type_list_append mt_append (pv 3) (pa_cons (pe_op op_add (pv 4) pe_int) pa_nil))))) pss_nil)))))
  (pss_one (ps_ret (pe_lst (pa_cons (pv 2) (pa_cons (pe_op op_cat (pv 3) (pe_lst (pa_cons (pe_op op_add (pe_callB call_lenS (by rfl) T.n_len boot_len (pa_cons (pv 1) pa_nil)) pe_int) pa_nil))) pa_nil))))))))
theorem ok_law {f : Addr} {fd : FuncData} {dvs : List V} {kws : List (Str × V)} (F : FunD K "law" "law" (defArgs s_law) (defBody s_law) (defScope s_law) dvs kws f fd) (T : Txt w K mg) (C__law_bag : Cal P w K mg base 5 "_law_bag" P__law_bag (sp__law_bag K)) (C__law_line : Cal P w K mg base 5 "_law_line" P__law_line (sp__law_line K)) (C__law_draw : Cal P w K mg base 5 "_law_draw" P__law_draw (sp__law_draw K)) (C__law_of : Cal P w K mg base 5 "_law_of" P__law_of (sp__law_of K)) (C__law_put_in : Cal P w K mg base 5 "_law_put_in" P__law_put_in (sp__law_put_in K)) (C__law_text : Cal P w K mg base 5 "_law_text" P__law_text (sp__law_text K)) (C_Rota : CalM P w K mg base 4 "Rota" (He.ga K "Rota") P_Rota___init__ (sp_Rota___init__ K)) (C_World : CalM P w K mg base 4 "World" (He.ga K "World") P_World___init__ (sp_World___init__ K)) (C__law_sums : Cal P w K mg base 5 "_law_sums" P__law_sums (sp__law_sums K)) (C__law_like1 : Cal P w K mg base 5 "_law_like" P__law_like1 (sp__law_like1 K)) (C_numbers : Cal P w K mg base 5 "numbers" P_numbers (sp_numbers K)) (C__law_like0 : Cal P w K mg base 5 "_law_like" P__law_like0 (sp__law_like0 K)) (C__law_over : Cal P w K mg base 5 "_law_over" P__law_over (sp__law_over K)) (C_surplus : Cal P w K mg base 5 "surplus" P_surplus (sp_surplus K)) (C__law_gates_fast : Cal P w K mg base 5 "_law_gates_fast" P__law_gates_fast (sp__law_gates_fast K)) (C__law_like2 : Cal P w K mg base 5 "_law_like" P__law_like2 (sp__law_like2 K)) (D_gates_1 : CalD P w K mg base 5 "gates" P_gates [.non] (sp_gates K)) (D_is_fixed_1 : CalD P w K mg base 5 "is_fixed" P_is_fixed [.non] (sp_is_fixed K)) : FnOk P w K mg base CX0 6 f fd P_law (sp_law K) := by
  refine F.ok sc_law (fun vs H Q E h => len_law h) (fun cdv A outer s H vs Q E hr h => ⟨r_law K, PSs.nox ?_, pure_law vs H Q E h⟩)
  exact (pss_cons (ps_set (i := 1) sc_law.nd rfl (Or.inr rfl) (pe_callC C__law_bag hr rfl (pa_cons (pv 0) pa_nil)))
  (pss_cons (ps_for PassesOwn.never rfl (pi_range1 (by rfl) T.n_range (pa_cons pe_int pa_nil)) (pg_name (i := 2) sc_law.nd rfl (Or.inl rfl))
   (C8.pss_cut (ps_set (i := 3) sc_law.nd rfl (Or.inl rfl) (pe_callC C__law_line hr rfl (pa_cons (pv 1) (pa_cons pe_int (pa_cons (pe_ifExp (pt_cmpR op_eq (pe_callC C__law_draw hr rfl (pa_cons (pv 1) (pa_cons pe_int pa_nil))) pe_int (nomark _)) pe_int pe_int) pa_nil)))))
  (C8.pss_cut (ps_if (pt_cmpR op_eq (pv 2) pe_int (nomark _)) (pss_one (ps_set (i := 3) sc_law.nd rfl (Or.inl rfl) (pe_bm PySem.F.plainAttrs_str PySem.F.slot_str_join PySem.F.type_str_join mt_join pe_str (pa_cons (pe_lc (own := [("letter", 4)]) (by rfl) sc_law.nd (pi_str (pv 3)) (blkOk_by (own := [("letter", 4)]) (N := N_law) (sc := defScope s_law) (by decide +kernel))
     (fun _ _ _ _ _ => (pg_name (i := 4) sc_law.nd rfl (Or.inl rfl))) (fun _ _ _ _ _ => pts_nil) (fun _ _ _ _ _ => (pe_callC C__law_of hr rfl (pa_cons (pv 1) (pa_cons (pe_lst (pa_cons pe_str (pa_cons (pv 4) (pa_cons pe_str pa_nil)))) pa_nil))))) pa_nil)))) pss_nil)
  (pss_cons (ps_asg (pe_callC C__law_put_in hr rfl (pa_cons (pv 1) (pa_cons (pv 3) pa_nil))) (pg_unl rfl (pgs_cons (pg_name (i := 5) sc_law.nd rfl (Or.inl rfl)) (pgs_cons (pg_name (i := 6) sc_law.nd rfl (Or.inr rfl)) pgs_nil))))
  (pss_cons (ps_set (i := 7) sc_law.nd rfl (Or.inl rfl) (pe_makeC C_Rota hr rfl (pa_cons (pe_callC C__law_text hr rfl (pa_cons (pv 3) pa_nil)) pa_nil)))
  (pss_cons (ps_set (i := 8) sc_law.nd rfl (Or.inl rfl) (pe_makeC C_Rota hr rfl (pa_cons (pe_callC C__law_text hr rfl (pa_cons (pv 5) pa_nil)) pa_nil)))
  (pss_cons (ps_set (i := 9) sc_law.nd rfl (Or.inl rfl) (pe_callC C__law_of hr rfl (pa_cons (pv 1) (pa_cons (pe_lst (pa_cons pe_str (pa_cons pe_str pa_nil))) pa_nil))))
  (pss_cons (ps_set (i := 10) sc_law.nd rfl (Or.inl rfl) (pe_makeC C_World hr rfl (pa_cons (pe_op op_add_str (pv 9) pe_str) pa_nil)))
  (pss_cons (ps_set (i := 11) sc_law.nd rfl (Or.inl rfl) (pe_ix ix_list (pe_callC C__law_sums hr rfl (pa_cons (pv 3) (pa_cons (pv 9) pa_nil))) (pe_callB call_lenS (by rfl) T.n_len boot_len (pa_cons (pv 3) pa_nil)) (fun _ _ => rfl)))
  (pss_cons (ps_for PassesOwn.never rfl (pi_range2 (by rfl) T.n_range (pa_cons pe_int (pa_cons (pe_op op_add (pe_callB call_lenS (by rfl) T.n_len boot_len (pa_cons (pv 3) pa_nil)) pe_int) pa_nil))) (pg_name (i := 12) sc_law.nd rfl (Or.inl rfl))
   (pss_cons (ps_if (pt_not (pt_val (pe_callC C__law_like1 hr rfl (pa_cons (pe_callC C_numbers hr rfl (pa_cons (pv 7) (pa_cons (pv 9) (pa_cons (pv 12) pa_nil)))) (pa_cons (pe_ix ix_list (pv 11) (pe_op op_sub (pv 12) pe_int) (fun _ _ => rfl)) pa_nil))))) (pss_one (ps_ret pe_bl)) pss_nil)
  (pss_one (ps_if (pt_not (pt_val (pe_callC C__law_like0 hr rfl (pa_cons (pe_callC C_surplus hr rfl (pa_cons (pv 7) (pa_cons (pv 12) pa_nil))) (pa_cons (pe_op op_add (pe_ix ix_tup (pe_ix ix_list (pe_ix ix_list (pe_callC C__law_sums hr rfl (pa_cons (pe_slice sl_str (pv 3) po_none (po_some (pe_op op_sub (pv 12) pe_int))) (pa_cons (pv 9) pa_nil))) (pe_op op_sub (pv 12) pe_int) (fun _ _ => rfl)) pe_int (fun _ _ => rfl)) pe_int (fun _ _ => rfl)) (pe_callC C__law_over hr rfl (pa_cons (pv 3) (pa_cons (pv 12) (pa_cons (pe_callB call_lenS (by rfl) T.n_len boot_len (pa_cons (pv 3) pa_nil)) pa_nil))))) pa_nil))))) (pss_one (ps_ret pe_bl)) pss_nil))))
  (pss_cons (ps_for PassesOwn.never rfl (pi_range2 (by rfl) T.n_range (pa_cons pe_int (pa_cons (pe_op op_add (pe_callB call_lenS (by rfl) T.n_len boot_len (pa_cons (pv 5) pa_nil)) pe_int) pa_nil))) (pg_name (i := 12) sc_law.nd rfl (Or.inl rfl))
   (pss_cons (ps_if (pt_not (pt_val (pe_callC C__law_like1 hr rfl (pa_cons (pe_callC C_numbers hr rfl (pa_cons (pv 8) (pa_cons (pv 9) (pa_cons (pv 12) pa_nil)))) (pa_cons (pe_ix ix_list (pv 11) (pe_op op_sub (pe_ix ix_list (pv 6) (pe_op op_sub (pv 12) pe_int) (fun _ _ => rfl)) pe_int) (fun _ _ => rfl)) pa_nil))))) (pss_one (ps_ret pe_bl)) pss_nil)
  (pss_one (ps_if (pt_cmpR op_ne (pe_callC C_surplus hr rfl (pa_cons (pv 8) (pa_cons (pv 12) pa_nil))) (pe_callC C_surplus hr rfl (pa_cons (pv 7) (pa_cons (pe_ix ix_list (pv 6) (pe_op op_sub (pv 12) pe_int) (fun _ _ => rfl)) pa_nil))) (nomark _)) (pss_one (ps_ret pe_bl)) pss_nil))))
  (pss_cons (ps_set (i := 13) sc_law.nd rfl (Or.inr rfl) (pe_callC C__law_gates_fast hr rfl (pa_cons (pv 3) pa_nil)))
  (pss_cons (ps_setLc (i := 14) (own := [("k", 15)]) (by rfl) sc_law.nd rfl rfl (sw_true rfl rfl rfl (by decide +kernel)) (pi_range1 (by rfl) T.n_range (pa_cons (pe_callB call_lenS (by rfl) T.n_len boot_len (pa_cons (pv 5) pa_nil)) pa_nil)) (blkOk_by (own := [("k", 15)]) (N := N_law) (sc := defScope s_law) (by decide +kernel))
     (fun _ _ _ _ _ => (pg_name (i := 15) sc_law.nd rfl (Or.inl rfl))) (fun _ _ _ _ _ => (pts_one (PW.pt (pw_and (pt_cmpR op_in_seq (pe_ix ix_list (pv 6) (pv 15) (fun _ _ => rfl)) (pv 13) (by rfl)) (pw_and1 (pt_cmpR op_ne (pe_ix ix_list (pv 6) (pv 15) (fun _ _ => rfl)) (pe_ix ix_list (pv 6) (pe_op op_add (pv 15) pe_int) (fun _ _ => rfl)) (nomark _))))))) (fun _ _ _ _ _ => (pe_op op_add (pv 15) pe_int)))
  (pss_cons (ps_if (pt_not (pt_val (pe_callC C__law_like2 hr rfl (pa_cons (pe_lst (pa_cons (pe_callD D_gates_1 hr rfl (pa_cons (pv 7) pa_nil)) (pa_cons (pe_callD D_gates_1 hr rfl (pa_cons (pv 8) pa_nil)) pa_nil))) (pa_cons (pe_lst (pa_cons (pv 13) (pa_cons (pv 14) pa_nil))) pa_nil))))) (pss_one (ps_ret pe_bl)) pss_nil)
  (pss_one (ps_for PassesOwn.never rfl (pi_range1 (by rfl) T.n_range (pa_cons pe_int pa_nil)) (pg_name (i := 15) sc_law.nd rfl (Or.inl rfl))
   (pss_cons (ps_set (i := 12) sc_law.nd rfl (Or.inl rfl) (pe_op op_add pe_int (pe_callC C__law_draw hr rfl (pa_cons (pv 1) (pa_cons (pe_op op_add (pe_callB call_lenS (by rfl) T.n_len boot_len (pa_cons (pv 5) pa_nil)) pe_int) pa_nil)))))
  (pss_cons (ps_set (i := 16) sc_law.nd rfl (Or.inl rfl) (pe_cmpR op_lt (pe_ix ix_tup (pe_ix ix_list (pv 11) (pe_op op_sub (pe_ix ix_list (pv 6) (pe_op op_sub (pv 12) pe_int) (fun _ _ => rfl)) pe_int) (fun _ _ => rfl)) pe_int (fun _ _ => rfl)) pe_int (nomark _)))
  (pss_one (ps_if (pt_not (pt_val (pe_callC C__law_like1 hr rfl (pa_cons (pe_lst (pa_cons (pe_callD D_is_fixed_1 hr rfl (pa_cons (pv 8) (pa_cons (pv 10) (pa_cons (pv 12) pa_nil)))) (pa_cons (pe_callD D_is_fixed_1 hr rfl (pa_cons (pv 7) (pa_cons (pv 10) (pa_cons (pe_ix ix_list (pv 6) (pe_op op_sub (pv 12) pe_int) (fun _ _ => rfl)) pa_nil)))) pa_nil))) (pa_cons (pe_lst (pa_cons (pv 16) (pa_cons (pv 16) pa_nil))) pa_nil))))) (pss_one (ps_ret pe_bl)) pss_nil))))))))))))))))))))
  (pss_one (ps_ret pe_bl))))
theorem mkCal {k : Nat} {x qual : Str} {params : Arguments} {body : List Stmt} {scope : Scope} {kws : List (Str × V)} {f : Addr} {fd : FuncData} {ps : List Str} {sp : Sp} (F : FunD K x qual params body scope [] kws f fd) (ok : FnOk P w K mg base CX0 k f fd ps sp) (hm : mg x = some (.ref f))
    (hb : ∀ (kV doc pm : Value) (an : Option Addr) (cdv ct : Value) (us : List Value), us.length = ps.length → bindArgs (PySem.W.fnOf x qual params body scope .none kV doc pm an cdv ct) ⟨us, []⟩ = pure (ps.zip us)) : Cal P w K mg base k x ps sp := ⟨f, fd, ok, hm, F.kp, F.bindsN hb⟩
end

theorem facts {P : Program} {w : World} {K : PySem.W.Frag} {h : Heap} {mg : Str → Option Value} {f : Addr} (X : K.In h) (G : h.Ns mainGlobals mg) (hfa : mg ("law" : Str) = some (.ref f)) (cc : SaysZ fa fn ts ex w K) :
    ∃ fd : FuncData, (∀ (s : Shared) (v : Value), BindsTo s fd ⟨[v], []⟩ [("script", v)]) ∧ ∀ base : Heap, K.In base → base.Ns mainGlobals mg → FnOk P w K mg base CX0 6 f fd P_law (sp_law K) := by
  have c := cc.d
  have hx := cc.more
  obtain ⟨fd_check_length, F_check_length⟩ := c.def_ 0 (d := d_check_length) rfl
  obtain ⟨fd_first_strange, F_first_strange⟩ := c.def_ 1 (d := d_first_strange) rfl
  obtain ⟨fd_rota_fault, F_rota_fault⟩ := c.def_ 2 (d := d_rota_fault) rfl
  obtain ⟨fd_letters_of_text, F_letters_of_text⟩ := c.def_ 3 (d := d_letters_of_text) rfl
  obtain ⟨fd_true_hands, F_true_hands⟩ := c.def_ 4 (d := d_true_hands) rfl
  obtain ⟨fd_has_false_hand, F_has_false_hand⟩ := c.def_ 5 (d := d_has_false_hand) rfl
  obtain ⟨fd_slots_with_true_hands, F_slots_with_true_hands⟩ := c.def_ 6 (d := d_slots_with_true_hands) rfl
  obtain ⟨fd_slots_with_false_hand, F_slots_with_false_hand⟩ := c.def_ 7 (d := d_slots_with_false_hand) rfl
  obtain ⟨fd_Rota___init__, F_Rota___init__⟩ := c.def_ 8 (d := d_Rota___init__) rfl
  obtain ⟨fd_Rota___len__, F_Rota___len__⟩ := c.def_ 9 (d := d_Rota___len__) rfl
  obtain ⟨fd_Rota_true_slots, F_Rota_true_slots⟩ := c.def_ 10 (d := d_Rota_true_slots) rfl
  obtain ⟨fd_Rota_false_slots, F_Rota_false_slots⟩ := c.def_ 11 (d := d_Rota_false_slots) rfl
  obtain ⟨fd_world_words, F_world_words⟩ := c.def_ 12 (d := d_world_words) rfl
  obtain ⟨fd_World___init__, F_World___init__⟩ := c.def_ 13 (d := d_World___init__) rfl
  obtain ⟨fd_World_of, F_World_of⟩ := c.def_ 14 (d := d_World_of) rfl
  obtain ⟨fd_time_or_last, F_time_or_last⟩ := c.def_ 15 (d := d_time_or_last) rfl
  obtain ⟨fd_ask_slot, F_ask_slot⟩ := c.def_ 16 (d := d_ask_slot) rfl
  obtain ⟨fd_next_reach, F_next_reach⟩ := c.def_ 17 (d := d_next_reach) rfl
  obtain ⟨fd_next_margin, F_next_margin⟩ := c.def_ 18 (d := d_next_margin) rfl
  obtain ⟨fd_numbers_at_end, F_numbers_at_end⟩ := c.def_ 19 (d := d_numbers_at_end) rfl
  obtain ⟨fd_numbers, F_numbers⟩ := c.def_ 20 (d := d_numbers) rfl
  obtain ⟨fd_surplus, F_surplus⟩ := c.def_ 21 (d := d_surplus) rfl
  obtain ⟨fd__holds, F__holds⟩ := c.def_ 22 (d := d__holds) rfl
  obtain ⟨fd_is_fixed, F_is_fixed⟩ := c.def_ 23 (d := d_is_fixed) rfl
  obtain ⟨fd_asked_time, F_asked_time⟩ := c.def_ 24 (d := d_asked_time) rfl
  obtain ⟨fd_step_of, F_step_of⟩ := c.def_ 25 (d := d_step_of) rfl
  obtain ⟨fd_running_sums, F_running_sums⟩ := c.def_ 26 (d := d_running_sums) rfl
  obtain ⟨fd_lows_of, F_lows_of⟩ := c.def_ 27 (d := d_lows_of) rfl
  obtain ⟨fd_highs_of, F_highs_of⟩ := c.def_ 28 (d := d_highs_of) rfl
  obtain ⟨fd_gate_slots, F_gate_slots⟩ := c.def_ 29 (d := d_gate_slots) rfl
  obtain ⟨fd_gates, F_gates⟩ := c.def_ 30 (d := d_gates) rfl
  obtain ⟨fd__law_bag, F__law_bag⟩ := c.def_ 31 (d := d__law_bag) rfl
  obtain ⟨fd__law_draw, F__law_draw⟩ := c.def_ 32 (d := d__law_draw) rfl
  obtain ⟨fd__law_of, F__law_of⟩ := c.def_ 33 (d := d__law_of) rfl
  obtain ⟨fd__law_ofS, F__law_ofS⟩ := c.def_ 34 (d := d__law_ofS) rfl
  obtain ⟨fd__law_like0, F__law_like0⟩ := c.def_ 35 (d := d__law_like0) rfl
  obtain ⟨fd__law_like1, F__law_like1⟩ := c.def_ 36 (d := d__law_like1) rfl
  obtain ⟨fd__law_like2, F__law_like2⟩ := c.def_ 37 (d := d__law_like2) rfl
  obtain ⟨fd__law_letters, F__law_letters⟩ := c.def_ 38 (d := d__law_letters) rfl
  obtain ⟨fd__law_line, F__law_line⟩ := c.def_ 39 (d := d__law_line) rfl
  obtain ⟨fd__law_text, F__law_text⟩ := c.def_ 40 (d := d__law_text) rfl
  obtain ⟨fd__law_sums, F__law_sums⟩ := c.def_ 41 (d := d__law_sums) rfl
  obtain ⟨fd__law_over, F__law_over⟩ := c.def_ 42 (d := d__law_over) rfl
  obtain ⟨fd__law_gates_fast, F__law_gates_fast⟩ := c.def_ 43 (d := d__law_gates_fast) rfl
  obtain ⟨fd__law_put_in, F__law_put_in⟩ := c.def_ 44 (d := d__law_put_in) rfl
  obtain ⟨fd_law, F_law⟩ := c.def_ 45 (d := d_law) rfl
  have e := hfa.symm.trans (He.glo_ok X G (c.fact 36 (f := .glo "law") rfl))
  cases e
  have b := FunD.bindsA (ps := P_law) F_law fun _ _ _ _ _ _ us hl => match us, hl with | [_], _ => rfl
  have T : Txt w K mg := ⟨He.free_ok X G (c.fact 37 (f := .free "bool") rfl), He.free_ok X G (c.fact 38 (f := .free "enumerate") rfl), He.free_ok X G (c.fact 39 (f := .free "int") rfl), He.free_ok X G (c.fact 40 (f := .free "isinstance") rfl), He.free_ok X G (c.fact 41 (f := .free "len") rfl), He.free_ok X G (c.fact 42 (f := .free "list") rfl), He.free_ok X G (c.fact 43 (f := .free "max") rfl), He.free_ok X G (c.fact 44 (f := .free "min") rfl), He.free_ok X G (c.fact 45 (f := .free "range") rfl), He.free_ok X G (c.fact 46 (f := .free "reversed") rfl), He.free_ok X G (c.fact 47 (f := .free "str") rfl), He.free_ok X G (c.fact 48 (f := .free "tuple") rfl), He.str_ok X G (c.fact 49 (f := .str "EMPTY" "-") rfl), He.str_ok X G (c.fact 50 (f := .str "FALSE_LETTERS" "abB") rfl), He.str_ok X G (c.fact 51 (f := .str "LETTERS" ".hHabB") rfl), He.int_ok X G (c.fact 52 (f := .int "MOST_CHARACTERS" 100000) rfl), He.int_ok X G (c.fact 53 (f := .int "MOST_LATE" 4) rfl), He.int_ok X G (c.fact 54 (f := .int "MOST_SLOTS" 40) rfl), He.glo_ok X G (c.fact 55 (f := .glo "HANDS") rfl), He.glo_ok X G (c.fact 56 (f := .glo "KINDS") rfl), He.glo_ok X G (c.fact 57 (f := .glo "LATENESSES") rfl), He.glo_ok X G (c.fact 59 (f := .glo "TRUE_HANDS") rfl), He.glo_ok X G (c.fact 60 (f := .glo "World") rfl), cc.tab 0 (t := (fun K => He.ga K "HANDS", [".", "h", "H", "a", "b", "B"])) rfl, cc.tab 1 (t := (fun K => He.ga K "TRUE_HANDS", [".", "h", "H", "a", "b", "B"])) rfl⟩
  have kf : KF K := by
    obtain ⟨x1, hx⟩ := He.ba hx
    obtain ⟨x2, hx⟩ := He.ba hx
    obtain ⟨x3, hx⟩ := He.ba hx
    obtain ⟨x5, _⟩ := He.ba hx
    refine ⟨He.cls_ok (c.fact 63 (f := .cls "Rota") rfl), He.cls_ok (c.fact 67 (f := .cls "World") rfl), fun f hf => ?_, fun f hf => ?_, fun c hc => hdB_ok x1 hc, fun H => He.tupB_ok x2 H, fun H => He.tupB_ok x3 H, fun c hc => thB_ok x5 hc⟩
    · simp only [List.mem_cons, List.not_mem_nil, or_false] at hf
      rcases hf with rfl | rfl
      · exact He.noat_ok (c.fact 68 (f := .noat "Rota" "letters") rfl)
      · exact He.noat_ok (c.fact 69 (f := .noat "Rota" "text") rfl)
    · simp only [List.mem_cons, List.not_mem_nil, or_false] at hf
      rcases hf with rfl | rfl | rfl
      · exact He.noat_ok (c.fact 70 (f := .noat "World" "kind") rfl)
      · exact He.noat_ok (c.fact 71 (f := .noat "World" "late") rfl)
      · exact He.noat_ok (c.fact 72 (f := .noat "World" "text") rfl)
  have x4 : smB K (He.ga K "World") "of" = true := (He.ba (He.ba (He.ba (He.ba hx).2).2).2).2
  refine ⟨fd_law, fun s v => b s [v] rfl, fun base _ _ => ?_⟩
  have C__law_likeZ : Cal P w K mg base 0 "_law_like" P__law_like0 (sp__law_likeZ K) := mkCal F__law_like0 (fnOk_false (fun _ _ _ _ z => z)) (He.glo_ok X G (c.fact 28 (f := .glo "_law_like") rfl)) fun _ _ _ _ _ _ us hl => match us, hl with | [_, _], _ => rfl
  have O_check_length := ok_check_length (P := P) (base := base) F_check_length T
  have C_check_length : Cal P w K mg base 1 "check_length" P_check_length (sp_check_length K) := mkCal F_check_length O_check_length (He.glo_ok X G (c.fact 0 (f := .glo "check_length") rfl)) fun _ _ _ _ _ _ us hl => match us, hl with | [_], _ => rfl
  have O_first_strange := ok_first_strange (P := P) (base := base) F_first_strange T
  have C_first_strange : Cal P w K mg base 1 "first_strange" P_first_strange (sp_first_strange K) := mkCal F_first_strange O_first_strange (He.glo_ok X G (c.fact 1 (f := .glo "first_strange") rfl)) fun _ _ _ _ _ _ us hl => match us, hl with | [_], _ => rfl
  have O_letters_of_text := ok_letters_of_text (P := P) (base := base) F_letters_of_text T
  have C_letters_of_text : Cal P w K mg base 1 "letters_of_text" P_letters_of_text (sp_letters_of_text K) := mkCal F_letters_of_text O_letters_of_text (He.glo_ok X G (c.fact 3 (f := .glo "letters_of_text") rfl)) fun _ _ _ _ _ _ us hl => match us, hl with | [_], _ => rfl
  have O_true_hands := ok_true_hands (P := P) (base := base) F_true_hands T kf
  have C_true_hands : Cal P w K mg base 1 "true_hands" P_true_hands (sp_true_hands K) := mkCal F_true_hands O_true_hands (He.glo_ok X G (c.fact 4 (f := .glo "true_hands") rfl)) fun _ _ _ _ _ _ us hl => match us, hl with | [_], _ => rfl
  have O_has_false_hand := ok_has_false_hand (P := P) (base := base) F_has_false_hand T
  have C_has_false_hand : Cal P w K mg base 1 "has_false_hand" P_has_false_hand (sp_has_false_hand K) := mkCal F_has_false_hand O_has_false_hand (He.glo_ok X G (c.fact 5 (f := .glo "has_false_hand") rfl)) fun _ _ _ _ _ _ us hl => match us, hl with | [_], _ => rfl
  have O_Rota___len__ := ok_Rota___len__ (P := P) (base := base) F_Rota___len__ T kf
  have B_Rota___len__ : Binds K fd_Rota___len__ P_Rota___len__ [] := F_Rota___len__.bindsN fun _ _ _ _ _ _ us hl => match us, hl with | [_], _ => rfl
  have L_Rota : CalLen P w K mg base 1 (He.ga K "Rota") (sp_Rota___len__ K) := ⟨_, fd_Rota___len__, P_Rota___len__, lenOwn_of (He.cls_ok (c.fact 63 (f := .cls "Rota") rfl)) (c.fact 64 (f := .meth "Rota" "__len__") rfl), O_Rota___len__, B_Rota___len__⟩
  have O_world_words := ok_world_words (P := P) (base := base) F_world_words T kf
  have C_world_words : Cal P w K mg base 1 "world_words" P_world_words (sp_world_words K) := mkCal F_world_words O_world_words (He.glo_ok X G (c.fact 8 (f := .glo "world_words") rfl)) fun _ _ _ _ _ _ us hl => match us, hl with | [_], _ => rfl
  have O_ask_slot := ok_ask_slot (P := P) (base := base) F_ask_slot T
  have C_ask_slot : Cal P w K mg base 1 "ask_slot" P_ask_slot (sp_ask_slot K) := mkCal F_ask_slot O_ask_slot (He.glo_ok X G (c.fact 10 (f := .glo "ask_slot") rfl)) fun _ _ _ _ _ _ us hl => match us, hl with | [_, _], _ => rfl
  have O_next_reach := ok_next_reach (P := P) (base := base) F_next_reach T
  have C_next_reach : Cal P w K mg base 1 "next_reach" P_next_reach (sp_next_reach K) := mkCal F_next_reach O_next_reach (He.glo_ok X G (c.fact 11 (f := .glo "next_reach") rfl)) fun _ _ _ _ _ _ us hl => match us, hl with | [_, _], _ => rfl
  have O_next_margin := ok_next_margin (P := P) (base := base) F_next_margin T
  have C_next_margin : Cal P w K mg base 1 "next_margin" P_next_margin (sp_next_margin K) := mkCal F_next_margin O_next_margin (He.glo_ok X G (c.fact 12 (f := .glo "next_margin") rfl)) fun _ _ _ _ _ _ us hl => match us, hl with | [_, _, _, _], _ => rfl
  have O_step_of := ok_step_of (P := P) (base := base) F_step_of T kf
  have C_step_of : Cal P w K mg base 1 "step_of" P_step_of (sp_step_of K) := mkCal F_step_of O_step_of (He.glo_ok X G (c.fact 19 (f := .glo "step_of") rfl)) fun _ _ _ _ _ _ us hl => match us, hl with | [_], _ => rfl
  have O_lows_of := ok_lows_of (P := P) (base := base) F_lows_of T
  have C_lows_of : Cal P w K mg base 1 "lows_of" P_lows_of (sp_lows_of K) := mkCal F_lows_of O_lows_of (He.glo_ok X G (c.fact 21 (f := .glo "lows_of") rfl)) fun _ _ _ _ _ _ us hl => match us, hl with | [_], _ => rfl
  have O_highs_of := ok_highs_of (P := P) (base := base) F_highs_of T
  have C_highs_of : Cal P w K mg base 1 "highs_of" P_highs_of (sp_highs_of K) := mkCal F_highs_of O_highs_of (He.glo_ok X G (c.fact 22 (f := .glo "highs_of") rfl)) fun _ _ _ _ _ _ us hl => match us, hl with | [_], _ => rfl
  have O__law_bag := ok__law_bag (P := P) (base := base) F__law_bag T
  have C__law_bag : Cal P w K mg base 1 "_law_bag" P__law_bag (sp__law_bag K) := mkCal F__law_bag O__law_bag (He.glo_ok X G (c.fact 25 (f := .glo "_law_bag") rfl)) fun _ _ _ _ _ _ us hl => match us, hl with | [_], _ => rfl
  have O__law_draw := ok__law_draw (P := P) (base := base) F__law_draw T
  have C__law_draw : Cal P w K mg base 1 "_law_draw" P__law_draw (sp__law_draw K) := mkCal F__law_draw O__law_draw (He.glo_ok X G (c.fact 26 (f := .glo "_law_draw") rfl)) fun _ _ _ _ _ _ us hl => match us, hl with | [_, _], _ => rfl
  have O__law_like0 := ok__law_like0 (P := P) (base := base) F__law_like0 T (C__law_likeZ.mono (by decide))
  have C__law_like0 : Cal P w K mg base 1 "_law_like" P__law_like0 (sp__law_like0 K) := mkCal F__law_like0 O__law_like0 (He.glo_ok X G (c.fact 28 (f := .glo "_law_like") rfl)) fun _ _ _ _ _ _ us hl => match us, hl with | [_, _], _ => rfl
  have O__law_text := ok__law_text (P := P) (base := base) F__law_text T
  have C__law_text : Cal P w K mg base 1 "_law_text" P__law_text (sp__law_text K) := mkCal F__law_text O__law_text (He.glo_ok X G (c.fact 31 (f := .glo "_law_text") rfl)) fun _ _ _ _ _ _ us hl => match us, hl with | [_], _ => rfl
  have O__law_sums := ok__law_sums (P := P) (base := base) F__law_sums T
  have C__law_sums : Cal P w K mg base 1 "_law_sums" P__law_sums (sp__law_sums K) := mkCal F__law_sums O__law_sums (He.glo_ok X G (c.fact 32 (f := .glo "_law_sums") rfl)) fun _ _ _ _ _ _ us hl => match us, hl with | [_, _], _ => rfl
  have O__law_over := ok__law_over (P := P) (base := base) F__law_over T
  have C__law_over : Cal P w K mg base 1 "_law_over" P__law_over (sp__law_over K) := mkCal F__law_over O__law_over (He.glo_ok X G (c.fact 33 (f := .glo "_law_over") rfl)) fun _ _ _ _ _ _ us hl => match us, hl with | [_, _, _], _ => rfl
  have O__law_gates_fast := ok__law_gates_fast (P := P) (base := base) F__law_gates_fast T
  have C__law_gates_fast : Cal P w K mg base 1 "_law_gates_fast" P__law_gates_fast (sp__law_gates_fast K) := mkCal F__law_gates_fast O__law_gates_fast (He.glo_ok X G (c.fact 34 (f := .glo "_law_gates_fast") rfl)) fun _ _ _ _ _ _ us hl => match us, hl with | [_], _ => rfl
  have O_rota_fault := ok_rota_fault (P := P) (base := base) F_rota_fault T (C_first_strange.mono (by decide))
  have C_rota_fault : Cal P w K mg base 2 "rota_fault" P_rota_fault (sp_rota_fault K) := mkCal F_rota_fault O_rota_fault (He.glo_ok X G (c.fact 2 (f := .glo "rota_fault") rfl)) fun _ _ _ _ _ _ us hl => match us, hl with | [_], _ => rfl
  have O_slots_with_true_hands := ok_slots_with_true_hands (P := P) (base := base) F_slots_with_true_hands T (C_true_hands.mono (by decide))
  have C_slots_with_true_hands : Cal P w K mg base 2 "slots_with_true_hands" P_slots_with_true_hands (sp_slots_with_true_hands K) := mkCal F_slots_with_true_hands O_slots_with_true_hands (He.glo_ok X G (c.fact 6 (f := .glo "slots_with_true_hands") rfl)) fun _ _ _ _ _ _ us hl => match us, hl with | [_], _ => rfl
  have O_slots_with_false_hand := ok_slots_with_false_hand (P := P) (base := base) F_slots_with_false_hand T (C_has_false_hand.mono (by decide))
  have C_slots_with_false_hand : Cal P w K mg base 2 "slots_with_false_hand" P_slots_with_false_hand (sp_slots_with_false_hand K) := mkCal F_slots_with_false_hand O_slots_with_false_hand (He.glo_ok X G (c.fact 7 (f := .glo "slots_with_false_hand") rfl)) fun _ _ _ _ _ _ us hl => match us, hl with | [_], _ => rfl
  have O_World___init__ := ok_World___init__ (P := P) (base := base) F_World___init__ T kf (C_check_length.mono (by decide)) (C_world_words.mono (by decide))
  have B_World___init__ : Binds K fd_World___init__ P_World___init__ [] := F_World___init__.bindsN fun _ _ _ _ _ _ us hl => match us, hl with | [_, _], _ => rfl
  have M_World : CalM P w K mg base 2 "World" (He.ga K "World") P_World___init__ (sp_World___init__ K) := ⟨_, fd_World___init__, He.mkr_ok (c.fact 62 (f := .mkr "World") rfl), O_World___init__, He.glo_ok X G (c.fact 60 (f := .glo "World") rfl), B_World___init__⟩
  have O_numbers_at_end := ok_numbers_at_end (P := P) (base := base) F_numbers_at_end T (C_next_reach.mono (by decide)) (C_next_margin.mono (by decide))
  have C_numbers_at_end : Cal P w K mg base 2 "numbers_at_end" P_numbers_at_end (sp_numbers_at_end K) := mkCal F_numbers_at_end O_numbers_at_end (He.glo_ok X G (c.fact 13 (f := .glo "numbers_at_end") rfl)) fun _ _ _ _ _ _ us hl => match us, hl with | [_, _, _], _ => rfl
  have O_running_sums := ok_running_sums (P := P) (base := base) F_running_sums T (C_step_of.mono (by decide))
  have C_running_sums : Cal P w K mg base 2 "running_sums" P_running_sums (sp_running_sums K) := mkCal F_running_sums O_running_sums (He.glo_ok X G (c.fact 20 (f := .glo "running_sums") rfl)) fun _ _ _ _ _ _ us hl => match us, hl with | [_], _ => rfl
  have O__law_of := ok__law_of (P := P) (base := base) F__law_of T (C__law_draw.mono (by decide))
  have C__law_of : Cal P w K mg base 2 "_law_of" P__law_of (sp__law_of K) := mkCal F__law_of O__law_of (He.glo_ok X G (c.fact 27 (f := .glo "_law_of") rfl)) fun _ _ _ _ _ _ us hl => match us, hl with | [_, _], _ => rfl
  have O__law_ofS := ok__law_ofS (P := P) (base := base) F__law_ofS T (C__law_draw.mono (by decide))
  have C__law_ofS : Cal P w K mg base 2 "_law_of" P__law_ofS (sp__law_ofS K) := mkCal F__law_ofS O__law_ofS (He.glo_ok X G (c.fact 27 (f := .glo "_law_of") rfl)) fun _ _ _ _ _ _ us hl => match us, hl with | [_, _], _ => rfl
  have O__law_like1 := ok__law_like1 (P := P) (base := base) F__law_like1 T (C__law_like0.mono (by decide))
  have C__law_like1 : Cal P w K mg base 2 "_law_like" P__law_like1 (sp__law_like1 K) := mkCal F__law_like1 O__law_like1 (He.glo_ok X G (c.fact 28 (f := .glo "_law_like") rfl)) fun _ _ _ _ _ _ us hl => match us, hl with | [_, _], _ => rfl
  have O_Rota___init__ := ok_Rota___init__ (P := P) (base := base) F_Rota___init__ T kf (C_check_length.mono (by decide)) (C_rota_fault.mono (by decide)) (C_letters_of_text.mono (by decide))
  have B_Rota___init__ : Binds K fd_Rota___init__ P_Rota___init__ [] := F_Rota___init__.bindsN fun _ _ _ _ _ _ us hl => match us, hl with | [_, _], _ => rfl
  have M_Rota : CalM P w K mg base 3 "Rota" (He.ga K "Rota") P_Rota___init__ (sp_Rota___init__ K) := ⟨_, fd_Rota___init__, He.mkr_ok (c.fact 61 (f := .mkr "Rota") rfl), O_Rota___init__, He.glo_ok X G (c.fact 58 (f := .glo "Rota") rfl), B_Rota___init__⟩
  have O_Rota_true_slots := ok_Rota_true_slots (P := P) (base := base) F_Rota_true_slots T kf (C_slots_with_true_hands.mono (by decide))
  have B_Rota_true_slots : Binds K fd_Rota_true_slots P_Rota_true_slots [] := F_Rota_true_slots.bindsN fun _ _ _ _ _ _ us hl => match us, hl with | [_], _ => rfl
  have T_Rota_true_slots : CalMt P w K mg base 3 (He.ga K "Rota") "true_slots" P_Rota_true_slots [] (sp_Rota_true_slots K) := ⟨_, fd_Rota_true_slots, [], He.cls_ok (c.fact 63 (f := .cls "Rota") rfl), He.meth_ok (c.fact 66 (f := .meth "Rota" "true_slots") rfl), O_Rota_true_slots, B_Rota_true_slots, .nil⟩
  have O_Rota_false_slots := ok_Rota_false_slots (P := P) (base := base) F_Rota_false_slots T kf (C_slots_with_false_hand.mono (by decide))
  have B_Rota_false_slots : Binds K fd_Rota_false_slots P_Rota_false_slots [] := F_Rota_false_slots.bindsN fun _ _ _ _ _ _ us hl => match us, hl with | [_], _ => rfl
  have T_Rota_false_slots : CalMt P w K mg base 3 (He.ga K "Rota") "false_slots" P_Rota_false_slots [] (sp_Rota_false_slots K) := ⟨_, fd_Rota_false_slots, [], He.cls_ok (c.fact 63 (f := .cls "Rota") rfl), He.meth_ok (c.fact 65 (f := .meth "Rota" "false_slots") rfl), O_Rota_false_slots, B_Rota_false_slots, .nil⟩
  have O_time_or_last := ok_time_or_last (P := P) (base := base) F_time_or_last T (L_Rota.mono (by decide))
  have C_time_or_last : Cal P w K mg base 3 "time_or_last" P_time_or_last (sp_time_or_last K) := mkCal F_time_or_last O_time_or_last (He.glo_ok X G (c.fact 9 (f := .glo "time_or_last") rfl)) fun _ _ _ _ _ _ us hl => match us, hl with | [_, _], _ => rfl
  have O__holds := ok__holds (P := P) (base := base) F__holds T kf (C_numbers_at_end.mono (by decide))
  have C__holds : Cal P w K mg base 3 "_holds" P__holds (sp__holds K) := mkCal F__holds O__holds (He.glo_ok X G (c.fact 16 (f := .glo "_holds") rfl)) fun _ _ _ _ _ _ us hl => match us, hl with | [_, _, _, _], _ => rfl
  have O_asked_time := ok_asked_time (P := P) (base := base) F_asked_time T (L_Rota.mono (by decide))
  have C_asked_time : Cal P w K mg base 3 "asked_time" P_asked_time (sp_asked_time K) := mkCal F_asked_time O_asked_time (He.glo_ok X G (c.fact 18 (f := .glo "asked_time") rfl)) fun _ _ _ _ _ _ us hl => match us, hl with | [_, _], _ => rfl
  have O_gate_slots := ok_gate_slots (P := P) (base := base) F_gate_slots T (C_running_sums.mono (by decide)) (C_lows_of.mono (by decide)) (C_highs_of.mono (by decide))
  have C_gate_slots : Cal P w K mg base 3 "gate_slots" P_gate_slots (sp_gate_slots K) := mkCal F_gate_slots O_gate_slots (He.glo_ok X G (c.fact 23 (f := .glo "gate_slots") rfl)) fun _ _ _ _ _ _ us hl => match us, hl with | [_], _ => rfl
  have O__law_like2 := ok__law_like2 (P := P) (base := base) F__law_like2 T (C__law_like1.mono (by decide))
  have C__law_like2 : Cal P w K mg base 3 "_law_like" P__law_like2 (sp__law_like2 K) := mkCal F__law_like2 O__law_like2 (He.glo_ok X G (c.fact 28 (f := .glo "_law_like") rfl)) fun _ _ _ _ _ _ us hl => match us, hl with | [_, _], _ => rfl
  have O__law_letters := ok__law_letters (P := P) (base := base) F__law_letters T (C__law_of.mono (by decide)) (C__law_ofS.mono (by decide))
  have C__law_letters : Cal P w K mg base 3 "_law_letters" P__law_letters (sp__law_letters K) := mkCal F__law_letters O__law_letters (He.glo_ok X G (c.fact 29 (f := .glo "_law_letters") rfl)) fun _ _ _ _ _ _ us hl => match us, hl with | [_, _], _ => rfl
  have O__law_put_in := ok__law_put_in (P := P) (base := base) F__law_put_in T (C__law_of.mono (by decide)) (C__law_ofS.mono (by decide))
  have C__law_put_in : Cal P w K mg base 3 "_law_put_in" P__law_put_in (sp__law_put_in K) := mkCal F__law_put_in O__law_put_in (He.glo_ok X G (c.fact 35 (f := .glo "_law_put_in") rfl)) fun _ _ _ _ _ _ us hl => match us, hl with | [_, _], _ => rfl
  have O_World_of := ok_World_of (P := P) (base := base) F_World_of T kf (M_World.mono (by decide))
  have B_World_of : Binds K fd_World_of P_World_of [] := F_World_of.bindsN fun _ _ _ _ _ _ us hl => match us, hl with | [_, _], _ => rfl
  have S_World_of : CalS P w K mg base 4 (He.ga K "World") "of" P_World_of (sp_World_of K) := smB_ok (x4) F_World_of.kp O_World_of B_World_of
  have O_surplus := ok_surplus (P := P) (base := base) F_surplus T kf (C_ask_slot.mono (by decide)) (L_Rota.mono (by decide)) (C_numbers_at_end.mono (by decide)) (T_Rota_false_slots.mono (by decide)) (T_Rota_true_slots.mono (by decide))
  have C_surplus : Cal P w K mg base 4 "surplus" P_surplus (sp_surplus K) := mkCal F_surplus O_surplus (He.glo_ok X G (c.fact 15 (f := .glo "surplus") rfl)) fun _ _ _ _ _ _ us hl => match us, hl with | [_, _], _ => rfl
  have O_is_fixed := ok_is_fixed (P := P) (base := base) F_is_fixed T (C_time_or_last.mono (by decide)) (C_ask_slot.mono (by decide)) (C__holds.mono (by decide))
  have D_is_fixed_1 : CalD P w K mg base 4 "is_fixed" P_is_fixed [.non] (sp_is_fixed K) := calD_of (n := 3) (j := 0) F_is_fixed O_is_fixed (He.glo_ok X G (c.fact 17 (f := .glo "is_fixed") rfl)) (by intro z; cases z) rfl fun _ _ _ _ _ _ _ us its hl hl2 => match us, its, hl, hl2 with | [_, _, _], [_], _, _ => ⟨_, rfl, rfl⟩
  have O_gates := ok_gates (P := P) (base := base) F_gates T kf (C_asked_time.mono (by decide)) (C_gate_slots.mono (by decide))
  have D_gates_1 : CalD P w K mg base 4 "gates" P_gates [.non] (sp_gates K) := calD_of (n := 1) (j := 0) F_gates O_gates (He.glo_ok X G (c.fact 24 (f := .glo "gates") rfl)) (by intro z; cases z) rfl fun _ _ _ _ _ _ _ us its hl hl2 => match us, its, hl, hl2 with | [_], [_], _, _ => ⟨_, rfl, rfl⟩
  have O__law_line := ok__law_line (P := P) (base := base) F__law_line T (C__law_draw.mono (by decide)) (C__law_letters.mono (by decide)) (C__law_of.mono (by decide))
  have C__law_line : Cal P w K mg base 4 "_law_line" P__law_line (sp__law_line K) := mkCal F__law_line O__law_line (He.glo_ok X G (c.fact 30 (f := .glo "_law_line") rfl)) fun _ _ _ _ _ _ us hl => match us, hl with | [_, _, _], _ => rfl
  have O_numbers := ok_numbers (P := P) (base := base) F_numbers T kf (S_World_of.mono (by decide)) (C_ask_slot.mono (by decide)) (L_Rota.mono (by decide)) (C_numbers_at_end.mono (by decide))
  have C_numbers : Cal P w K mg base 5 "numbers" P_numbers (sp_numbers K) := mkCal F_numbers O_numbers (He.glo_ok X G (c.fact 14 (f := .glo "numbers") rfl)) fun _ _ _ _ _ _ us hl => match us, hl with | [_, _, _], _ => rfl
  exact ok_law F_law T (C__law_bag.mono (by decide)) (C__law_line.mono (by decide)) (C__law_draw.mono (by decide)) (C__law_of.mono (by decide)) (C__law_put_in.mono (by decide)) (C__law_text.mono (by decide)) (M_Rota.mono (by decide)) (M_World.mono (by decide)) (C__law_sums.mono (by decide)) (C__law_like1.mono (by decide)) (C_numbers.mono (by decide)) (C__law_like0.mono (by decide)) (C__law_over.mono (by decide)) (C_surplus.mono (by decide)) (C__law_gates_fast.mono (by decide)) (C__law_like2.mono (by decide)) (D_gates_1.mono (by decide)) (D_is_fixed_1.mono (by decide))
end My
open PySem PySem.W PySem.Calls PyProof.Rows
theorem PySem.Challenge.cw_buriedsure_k52_whole_idle_letters_put_in_holds : PySem.Challenge.rw_buriedsure_k52_whole_idle_letters_put_in.Holds := by
  w_on; o_law
  refine HandSHeadRun.head_any (r := OpenLaw.row PySem.Challenge.rw_buriedsure_k52_whole_idle_letters_put_in) (q := view (OpenLaw.row PySem.Challenge.rw_buriedsure_k52_whole_idle_letters_put_in).prog [90]) (H := My.hk) (ob := My.ob) (M := 12000) (loose := My.loose) (d := HandSHeadRun.topDef (OpenLaw.row PySem.Challenge.rw_buriedsure_k52_whole_idle_letters_put_in).prog 90) (kwd := []) My.ob_eq
    (by kernel_rfl) (fun s => by kernel_rfl) My.run (by kernel_rfl) (by kernel_rfl) (by kernel_rfl) (by rfl) (by first | assumption | decide +kernel) (by decide +kernel) ⟨rfl, rfl, rfl, rfl, rfl, by decide +kernel⟩ ?hw ?hc
  case hw => w_witness2
  case hc =>
    refine L2.walk_ofE (l := PySem.Challenge.rw_buriedsure_k52_whole_idle_letters_put_in) (n := 63) (k := 6) (x := "script") (CX := L2.CX0) rfl (by decide) (by kernel_rfl) ⟨rfl, by decide, by decide⟩ ?F (fun _ _ _ _ z => z)
    intro w mg fa h Y G hmg0
    obtain ⟨K, KX, c⟩ := Y
    have hmg : mg ("law" : PySem.Str) = some (.ref fa) := by
      have e : (HandSHeadRun.topDef (OpenLaw.row PySem.Challenge.rw_buriedsure_k52_whole_idle_letters_put_in).prog 90).name = ("law" : PySem.Str) := by kernel_rfl
      rw [← e]
      exact hmg0
    obtain ⟨fd, hb, hF⟩ := My.facts (P := (PySem.Challenge.rw_buriedsure_k52_whole_idle_letters_put_in).prog) (w := w) KX G hmg c
    exact ⟨K, fd, My.sp_law K, KX, hb, fun H a ns hl _ hS => ⟨a, ns, rfl, hS, hl, fun _ => rfl⟩, hF⟩

