import PyProof.Rows.All
import Wide.All
import OpenK.AllK
import Wide.FinOn
import HandS.ForMost
import HandS.IsInst
import HandS.FStr
import HandS.Zip
import HandS.Walk
import HandS.Codes
import HandS.Defaults
import HandS.Head0
import HandS.Head1
import HandS.Head2
import HandS.HeadEnd
import HandS.HeadHook1
import HandS.HeadHook2
import HandS.HeadHook3
import HandS.HeadHook4
import PySem.Challenge.RW_buriedsure_k22_whole_covering
set_option Elab.async false
set_option maxRecDepth 100000
set_option maxHeartbeats 4000000
set_option linter.all false
namespace My
open PySem L2
/-! ### calls by one bundle -/
structure Cal (P : Program) (w : World) (K : PySem.W.Frag) (mg : Str → Option Value) (base : Heap) (k : Nat) (x : Str) (ps : List Str) (sp : Sp) : Prop where
  ex : ∃ f fd, FnOk P w K mg base CX0 k f fd ps sp ∧ mg x = some (.ref f) ∧ PySem.W.keepIn K (.ref f) = true ∧ Binds K fd ps []
structure CalM (P : Program) (w : World) (K : PySem.W.Frag) (mg : Str → Option Value) (base : Heap) (k : Nat) (x : Str) (C : Addr) (ps : List Str) (sp : Sp) : Prop where
  ex : ∃ f fd, Mk K C f ∧ FnOk P w K mg base CX0 k f fd ps sp ∧ mg x = some (.ref C) ∧ Binds K fd ps []
section
variable {X : Cx} {k : Nat} {x : Str} {C : Addr} {ps : List Str} {sp : Sp} {p pos : Pos} {e : Expr} {es : List Expr} {t : TA}
theorem pe_callC (c : Cal X.prog X.w X.K X.mg X.base k x ps sp) (hr : Room k X.A) (hg : Gl X x) (ha : PA X (e :: es) t) (hdb : (x == ("__debug__" : Str)) = false := by decide)
    (he : starEach (e :: es) X.env = (false, eval e X.env) :: starEach es X.env := by rfl) (hpl : (backTo pos (starEach es X.env)).any (·.1) = false := by rfl) : PE X (.Call (.Name x p) (e :: es) [] pos) (tCall sp [] E0 t) := by
  obtain ⟨f, fd, F, hm, hk, hb⟩ := c.ex
  exact pe_call F hr hg hm hk hb .nil pass0 ha hdb he hpl
theorem pe_callC0 (c : Cal X.prog X.w X.K X.mg X.base k x ps sp) (hr : Room k X.A) (hg : Gl X x) (hdb : (x == ("__debug__" : Str)) = false := by decide) : PE X (.Call (.Name x p) [] [] pos) (tCall sp [] E0 tNil) := by
  obtain ⟨f, fd, F, hm, hk, hb⟩ := c.ex
  exact pe_call0 F hr hg hm hk hb .nil pass0 hdb
theorem pe_makeC (c : CalM X.prog X.w X.K X.mg X.base k x C ps sp) (hr : Room (k + 1) X.A) (hg : Gl X x) (ha : PA X (e :: es) t) (hdb : (x == ("__debug__" : Str)) = false := by decide)
    (he : starEach (e :: es) X.env = (false, eval e X.env) :: starEach es X.env := by rfl) (hpl : (backTo pos (starEach es X.env)).any (·.1) = false := by rfl) : PE X (.Call (.Name x p) (e :: es) [] pos) (tMake C sp [] E0 t) := by
  obtain ⟨f, fd, M, F, hm, hb⟩ := c.ex
  exact pe_make M F hr hg hm hb .nil pass0 ha hdb he hpl
end
theorem Cal.mono {P : Program} {w : World} {K : PySem.W.Frag} {mg : Str → Option Value} {base : Heap} {j k : Nat} {x : Str} {ps : List Str} {sp : Sp} (c : Cal P w K mg base j x ps sp) (h : j ≤ k) : Cal P w K mg base k x ps sp := by
  obtain ⟨f, fd, F, a⟩ := c.ex
  exact ⟨f, fd, F.mono h, a⟩
theorem CalM.mono {P : Program} {w : World} {K : PySem.W.Frag} {mg : Str → Option Value} {base : Heap} {j k : Nat} {x : Str} {C : Addr} {ps : List Str} {sp : Sp} (c : CalM P w K mg base j x C ps sp) (h : j ≤ k) : CalM P w K mg base k x C ps sp := by
  obtain ⟨f, fd, M, F, a⟩ := c.ex
  exact ⟨f, fd, M, F.mono h, a⟩

/-! ### named operators -/
def rPlus : R2 := rI0 fun i j => .int (i + j)
def rMinus : R2 := rI0 fun i j => .int (i - j)
def rTimes : R2 := rI CMul fun i j => .int (i * j)
def rModP : R2 := rI (fun _ j => 0 < j) fun i j => .int (i % j)
def rFdivN : R2 := rI CDivN fun i j => .int (i.fdiv j)
def rPow0 : R2 := rI CPow fun i j => .int (i ^ j.toNat)
def rLt0 : R2 := rI0 fun i j => .bl (decide (i < j))
def rLe0 : R2 := rI0 fun i j => .bl (decide (i ≤ j))
def rGt0 : R2 := rI0 fun i j => .bl (decide (j < i))
def rGe0 : R2 := rI0 fun i j => .bl (decide (j ≤ i))
def rIsN0 : R2 := fun x y H Q => y = .non ∧ Q (.bl (decide (x = .non))) H
def rNotN0 : R2 := fun x y H Q => y = .non ∧ Q (.bl (!decide (x = .non))) H
def rAddS : R2 := fun x y H Q => ∃ i j, x = .str i ∧ y = .str j ∧ i.length + j.length ≤ sizeLine ∧ Q (.str (i ++ j)) H
def uNeg : V → Hp → VK → Prop := rU fun i => .int (-i)
def bInt : List V → Hp → VK → Prop := fun xs H Q => (∃ i, xs = [.int i] ∧ Q (.int i) H) ∨ ∃ k, xs = [.bl k] ∧ Q (.int (if k then 1 else 0)) H
def bMax2 : List V → Hp → VK → Prop := fun xs H Q => ∃ i j, xs = [.int i, .int j] ∧ Q (.int (if j > i then j else i)) H
def bMin2 : List V → Hp → VK → Prop := fun xs H Q => ∃ i j, xs = [.int i, .int j] ∧ Q (.int (if j < i then j else i)) H
def bAbs : List V → Hp → VK → Prop := fun xs H Q => ∃ i, xs = [.int i] ∧ Q (.int (if i < 0 then -i else i)) H
def bStr : List V → Hp → VK → Prop := fun xs H Q => ∃ i, xs = [.int i] ∧ i.natAbs.log2 < 1920 ∧ Q (.str (Str.ofString (toString i))) H
def bLen (K : PySem.W.Frag) : List V → Hp → VK → Prop := fun xs H Q => ∃ p ys, xs = [V.ref p] ∧ (SqL K H p ys ∨ SqT K H p ys) ∧ Q (.int (ys.length : Int)) H
def bList (K : PySem.W.Frag) : List V → Hp → VK → Prop := fun xs H Q => ∃ p ys, xs = [V.ref p] ∧ (SqL K H p ys ∨ SqT K H p ys) ∧ ∀ l, H l = none → Q (.ref l) (upd H l (.lst ys))
def bTuple (K : PySem.W.Frag) : List V → Hp → VK → Prop := fun xs H Q => ∃ p ys, xs = [V.ref p] ∧ ((SqL K H p ys ∧ ∀ l, H l = none → Q (.ref l) (upd H l (.tup ys))) ∨ SqT K H p ys ∧ Q (.ref p) H)
def mJoin (K : PySem.W.Frag) : V → List V → Hp → VK → Prop := fun x xs H Q => ∃ a p ys, x = .str a ∧ xs = [.ref p] ∧ (SqL K H p (ys.map V.str) ∨ SqT K H p (ys.map V.str)) ∧ (ys.map (·.length)).sum + ys.length * a.length ≤ 16777216 ∧ Q (.str (Txt.join a ys)) H
def tTru (K : PySem.W.Frag) (ta : TE) : TT := fun σ H Q => ta σ H fun x H' => ∃ k, TruV K x H' k ∧ Q k H'
def tJoin (ts : List TE) : TE := fun σ H Q => tJs ts Str.empty σ H fun out H1 => Q (.str out) H1
def rItemS : R2 := fun x y H Q => ∃ z i c, x = .str z ∧ y = .int i ∧ 0 ≤ i ∧ i < 2 ^ 63 ∧ i < (z.length : Int) ∧ z.cps[i.toNat]? = some c ∧ Q (.str { cps := #[c] }) H

/-! ### steps: statements -/
section
variable {t u : TS} {c ta tt : TT} {D : Ends} {σ : St} {H : Hp} {te tf : TE} {g : TG} {gs : TGs} {i j n : Nat} {x y v : V} {xs ys : List V} {Q : VK} {R : St → Hp → Prop} {K : PySem.W.Frag} {a b p l : Addr} {B : Bool → Hp → Prop} {LQ : List V → Hp → Prop} {tas tar : TA}
theorem s_seq (h : t { D with nx := u D } σ H) : tSeq t u D σ H := h
theorem s_cut (M : St → Hp → Prop) (h : t { D with nx := M } σ H) (k : ∀ σ' H', M σ' H' → u D σ' H') : C8.tCut t u D σ H := ⟨M, h, k⟩
theorem s_asg (h : te σ H fun x H1 => g x σ H1 D.nx) : tAsg te g D σ H := h
theorem s_ret (h : te σ H D.rt) : tRet te D σ H := h
theorem s_retN (h : D.rt .non H) : tRetN D σ H := h
theorem s_drop (h : te σ H fun _ H1 => D.nx σ H1) : tDrop te D σ H := h
theorem s_next (h : D.nx σ H) : tNext D σ H := h
theorem s_if (h : c σ H fun b H1 => if b = true then t D σ H1 else u D σ H1) : tIfS c t u D σ H := h
theorem s_par (h : tas σ H fun vs H1 => ∃ v w, vs = [v, w] ∧ D.nx ((σ.set i (some v)).set j (some w)) H1) : tPar i j tas D σ H := h
theorem s_brk (h : D.bk σ H) : tBreak D σ H := h
theorem s_cont (h : D.ct σ H) : tCont D σ H := h
theorem x_par {w : V} {P : V → V → Prop} (h : P v w) : ∃ v' w', [v, w] = [v', w'] ∧ P v' w' := ⟨v, w, rfl, h⟩
theorem g_name (h : R (σ.set i (some v)) H) : gName i v σ H R := h
theorem g_tup (h : SqT K H a xs) (hl : xs.length = n) (q : gs xs σ H R) : gTup K n gs (.ref a) σ H R := ⟨a, xs, rfl, h, hl, q⟩
theorem g_cons (h : g x σ H fun σ' H' => gs xs σ' H' R) : gCons g gs (x :: xs) σ H R := ⟨x, xs, rfl, h⟩
theorem g_nil (h : R σ H) : gNil [] σ H R := ⟨rfl, h⟩
theorem g_sub {to ti : TE} {ts : TSet} (h : to σ H fun o H1 => ti σ H1 fun i H2 => ts o i v H2 fun H3 => R σ H3) : gSub to ti ts v σ H R := h
/-! ### expressions -/
theorem e_var (h : σ[i]? = some (some v)) (q : Q v H) : tVar i σ H Q := ⟨v, h, q⟩
theorem e_c (q : Q v H) : tC v σ H Q := q
theorem e_op {r : R2} (h : te σ H fun x H1 => tf σ H1 fun y H2 => r x y H2 Q) : tOp r te tf σ H Q := h
theorem e_un {r : V → Hp → VK → Prop} (h : te σ H fun x H1 => r x H1 Q) : tUn r te σ H Q := h
theorem e_if (h : c σ H fun b H1 => if b = true then te σ H1 Q else tf σ H1 Q) : tIf c te tf σ H Q := h
theorem e_tup (h : tas σ H fun xs H1 => xs.length ≤ sizeLine ∧ ∀ p, H1 p = none → Q (.ref p) (upd H1 p (.tup xs))) : tTup tas σ H Q := h
theorem e_lst (h : tas σ H fun xs H1 => xs.length ≤ sizeLine ∧ ∀ p, H1 p = none → Q (.ref p) (upd H1 p (.lst xs))) : tLst tas σ H Q := h
theorem e_call {sp : Sp} {E : XK} (h : tas σ H fun vs H1 => sp (vs ++ []) H1 Q E) : tCall sp [] E tas σ H Q := h
theorem e_cb {r : List V → Hp → VK → Prop} (h : tas σ H fun vs H1 => r vs H1 Q) : tCB r tas σ H Q := h
theorem e_bm {T : String} {r : V → List V → Hp → VK → Prop} (h : te σ H fun x H1 => tyV K T x H1 ∧ tas σ H1 fun xs H2 => r x xs H2 Q) : tBM K T r te tas σ H Q := h
theorem e_bm0 {T : String} {r : V → List V → Hp → VK → Prop} (h : te σ H fun x H1 => tyV K T x H1 ∧ r x [] H1 Q) : tBM0 K T r te σ H Q := h
theorem e_sl {r : V → Option Int → Option Int → Hp → VK → Prop} {tl th : TO} (h : te σ H fun x H1 => tl σ H1 fun l H2 => th σ H2 fun u H3 => r x l u H3 Q) : tSl r te tl th σ H Q := h
theorem o_no {R : Option Int → Hp → Prop} (h : R none H) : tNoPart σ H R := h
theorem o_part {R : Option Int → Hp → Prop} (h : te σ H fun x H1 => ∃ i, x = .int i ∧ R (some i) H1) : tPart te σ H R := h
theorem x_part {P : Int → Prop} {i : Int} (h : P i) : ∃ i', V.int i = .int i' ∧ P i' := ⟨i, rfl, h⟩
theorem e_and (h : te σ H fun x H1 => ∃ c, x = .bl c ∧ if c = true then tf σ H1 Q else Q (.bl false) H1) : tAndV te tf σ H Q := h
theorem e_or (h : te σ H fun x H1 => ∃ c, x = .bl c ∧ if c = true then Q (.bl true) H1 else tf σ H1 Q) : tOrV te tf σ H Q := h
theorem e_not (h : te σ H fun x H1 => ∃ c, x = .bl c ∧ Q (.bl (!c)) H1) : tNotV te σ H Q := h
theorem e_fld {f : Str} (h : te σ H fun x H1 => ∃ a C dx fs v, x = .ref a ∧ H1 a = some (.ins C dx fs) ∧ Cls K C ∧ NoAttr K C f ∧ fs.lookup f = some v ∧ Q v H1) : tFld K te f σ H Q := h
theorem s_fld {f : Str} (h : tf σ H fun y H1 => te σ H1 fun x H2 => ∃ a C dx fs, x = .ref a ∧ H2 a = some (.ins C dx fs) ∧ Cls K C ∧ NoAttr K C f ∧ fs.length < 1000 ∧ D.nx σ (upd H2 a (.ins C dx (putF f y fs)))) : sFld K te tf f D σ H := h
theorem a_nil (q : LQ [] H) : tNil σ H LQ := q
theorem a_cons (h : te σ H fun x H1 => tas σ H1 fun xs H2 => LQ (x :: xs) H2) : tCons te tas σ H LQ := h
/-! ### tests -/
theorem t_test (h : te σ H fun x H' => ∃ k, x = .bl k ∧ B k H') : tTest te σ H B := h
theorem t_b (h : te σ H fun x H1 => ∃ c, x = .bl c ∧ B c H1) : tB te σ H B := h
theorem t_and (h : c σ H fun d H1 => if d = true then tt σ H1 B else B false H1) : tAnd c tt σ H B := h
theorem t_or (h : c σ H fun d H1 => if d = true then B true H1 else tt σ H1 B) : tOr c tt σ H B := h
theorem t_not (h : c σ H fun d H1 => B (!d) H1) : tNot c σ H B := h
theorem t_tru (h : te σ H fun x H' => ∃ k, TruV K x H' k ∧ B k H') : tTru K te σ H B := h
theorem x_bl {R : Bool → Hp → Prop} {k : Bool} (h : R k H) : ∃ k', V.bl k = .bl k' ∧ R k' H := ⟨k, rfl, h⟩
theorem x_blE {R : Bool → Prop} {k : Bool} (h : R k) : ∃ k', V.bl k = .bl k' ∧ R k' := ⟨k, rfl, h⟩
theorem x_trT {P : Bool → Prop} (h : SqT K H p xs) (q : P (!xs.isEmpty)) : ∃ k, TruV K (.ref p) H k ∧ P k := ⟨_, Or.inr (Or.inl ⟨xs, h, rfl⟩), q⟩
theorem x_trL {P : Bool → Prop} (h : SqL K H p xs) (q : P (!xs.isEmpty)) : ∃ k, TruV K (.ref p) H k ∧ P k := ⟨_, Or.inl ⟨xs, h, rfl⟩, q⟩
theorem x_trB {P : Bool → Prop} {d : Bool} (q : P d) : ∃ k, TruV K (.bl d) H k ∧ P k := ⟨_, rfl, q⟩
theorem i_dec {p : Prop} [Decidable p] {A B : Prop} (h1 : p → A) (h2 : ¬ p → B) : if decide p = true then A else B := by
  by_cases h : p
  · rw [if_pos (decide_eq_true h)]; exact h1 h
  · rw [if_neg (by rw [decide_eq_false h]; exact Bool.false_ne_true)]; exact h2 h
theorem i_ndec {p : Prop} [Decidable p] {A B : Prop} (h1 : ¬ p → A) (h2 : p → B) : if (!decide p) = true then A else B := by
  by_cases h : p
  · rw [decide_eq_true h, if_neg (by exact Bool.false_ne_true)]; exact h2 h
  · rw [decide_eq_false h, Bool.not_false, if_pos rfl]; exact h1 h
theorem i_t {A B : Prop} (h : A) : if true = true then A else B := by rw [if_pos rfl]; exact h
theorem i_f {A B : Prop} (h : B) : if false = true then A else B := by rw [if_neg Bool.false_ne_true]; exact h
theorem i_nt {A B : Prop} (h : B) : if (!true) = true then A else B := i_f h
theorem i_nf {A B : Prop} (h : A) : if (!false) = true then A else B := i_t h
theorem i_b {d : Bool} {A B : Prop} (h1 : d = true → A) (h2 : d = false → B) : if d = true then A else B := by
  cases d
  · exact i_f (h2 rfl)
  · exact i_t (h1 rfl)
/-! ### operators -/
theorem r_0 {g : Int → Int → V} {i j : Int} (q : Q (g i j) H) : rI0 g (.int i) (.int j) H Q := ⟨i, j, rfl, rfl, q⟩
theorem r_1 {C : Int → Int → Prop} {g : Int → Int → V} {i j : Int} (h : C i j) (q : Q (g i j) H) : rI C g (.int i) (.int j) H Q := ⟨i, j, rfl, rfl, h, q⟩
theorem r_plus {i j : Int} (q : Q (.int (i + j)) H) : rPlus (.int i) (.int j) H Q := r_0 q
theorem r_minus {i j : Int} (q : Q (.int (i - j)) H) : rMinus (.int i) (.int j) H Q := r_0 q
theorem r_times {i j : Int} (h : CMul i j) (q : Q (.int (i * j)) H) : rTimes (.int i) (.int j) H Q := r_1 h q
theorem r_mod {i j : Int} (h : 0 < j) (q : Q (.int (i % j)) H) : rModP (.int i) (.int j) H Q := r_1 h q
theorem r_fdiv {i j : Int} (h : CDivN i j) (q : Q (.int (i.fdiv j)) H) : rFdivN (.int i) (.int j) H Q := r_1 h q
theorem r_pow {i j : Int} (h : CPow i j) (q : Q (.int (i ^ j.toNat)) H) : rPow0 (.int i) (.int j) H Q := r_1 h q
theorem r_lt {i j : Int} (q : Q (.bl (decide (i < j))) H) : rLt0 (.int i) (.int j) H Q := r_0 q
theorem r_le {i j : Int} (q : Q (.bl (decide (i ≤ j))) H) : rLe0 (.int i) (.int j) H Q := r_0 q
theorem r_gt {i j : Int} (q : Q (.bl (decide (j < i))) H) : rGt0 (.int i) (.int j) H Q := r_0 q
theorem r_ge {i j : Int} (q : Q (.bl (decide (j ≤ i))) H) : rGe0 (.int i) (.int j) H Q := r_0 q
theorem dec_int {i j : Int} : decide (V.int i = V.int j) = decide (i = j) := by
  by_cases h : i = j
  · rw [decide_eq_true h, decide_eq_true (congrArg V.int h)]
  · rw [decide_eq_false h, decide_eq_false (fun e => h (V.int.inj e))]
theorem dec_bl {i j : Bool} : decide (V.bl i = V.bl j) = decide (i = j) := by
  by_cases h : i = j
  · rw [decide_eq_true h, decide_eq_true (congrArg V.bl h)]
  · rw [decide_eq_false h, decide_eq_false (fun e => h (V.bl.inj e))]
theorem dec_str {i j : Str} : decide (V.str i = V.str j) = decide (i = j) := by
  by_cases h : i = j
  · rw [decide_eq_true h, decide_eq_true (congrArg V.str h)]
  · rw [decide_eq_false h, decide_eq_false (fun e => h (V.str.inj e))]
theorem r_eqI {i j : Int} (q : Q (.bl (decide (i = j))) H) : rEq (.int i) (.int j) H Q := ⟨rfl, by rw [dec_int]; exact q⟩
theorem r_eqB {i j : Bool} (q : Q (.bl (decide (i = j))) H) : rEq (.bl i) (.bl j) H Q := ⟨rfl, by rw [dec_bl]; exact q⟩
theorem r_eqS {i j : Str} (q : Q (.bl (decide (i = j))) H) : rEq (.str i) (.str j) H Q := ⟨rfl, by rw [dec_str]; exact q⟩
theorem r_neI {i j : Int} (q : Q (.bl (!decide (i = j))) H) : rNe (.int i) (.int j) H Q := ⟨rfl, by rw [dec_int]; exact q⟩
theorem r_neB {i j : Bool} (q : Q (.bl (!decide (i = j))) H) : rNe (.bl i) (.bl j) H Q := ⟨rfl, by rw [dec_bl]; exact q⟩
theorem r_neS {i j : Str} (q : Q (.bl (!decide (i = j))) H) : rNe (.str i) (.str j) H Q := ⟨rfl, by rw [dec_str]; exact q⟩
theorem r_isNi {i : Int} (q : Q (.bl false) H) : rIsN0 (.int i) .non H Q := ⟨rfl, q⟩
theorem r_isNr (q : Q (.bl false) H) : rIsN0 (.ref a) .non H Q := ⟨rfl, q⟩
theorem r_isNs {z : Str} (q : Q (.bl false) H) : rIsN0 (.str z) .non H Q := ⟨rfl, q⟩
theorem r_isNb {d : Bool} (q : Q (.bl false) H) : rIsN0 (.bl d) .non H Q := ⟨rfl, q⟩
theorem r_isNn (q : Q (.bl true) H) : rIsN0 .non .non H Q := ⟨rfl, q⟩
theorem r_notNi {i : Int} (q : Q (.bl true) H) : rNotN0 (.int i) .non H Q := ⟨rfl, q⟩
theorem r_notNr (q : Q (.bl true) H) : rNotN0 (.ref a) .non H Q := ⟨rfl, q⟩
theorem r_notNn (q : Q (.bl false) H) : rNotN0 .non .non H Q := ⟨rfl, q⟩
theorem r_neg {i : Int} (q : Q (.int (-i)) H) : uNeg (.int i) H Q := ⟨i, rfl, q⟩
theorem atI_nn {α : Type} {xs : List α} {i : Int} {v : α} (h0 : 0 ≤ i) (ha : xs[i.toNat]? = some v) : atI xs i = some v := by
  obtain ⟨n, rfl⟩ := Int.eq_ofNat_of_zero_le h0
  exact atI_nat ha
theorem ixN_nn {i : Int} {n k : Nat} (h0 : 0 ≤ i) (hk : i.toNat = k) (h : k < n) : ixN n i = some k := by
  obtain ⟨m, rfl⟩ := Int.eq_ofNat_of_zero_le h0
  have : m = k := by rw [← hk]; rfl
  rw [this]
  unfold ixN
  rw [if_pos (Int.natCast_nonneg k), if_pos (by omega)]
  simp
theorem r_ixL {i : Int} (h : SqL K H p xs) (h0 : 0 ≤ i) (ha : xs[i.toNat]? = some v) (q : Q v H) : rIxL K (.ref p) (.int i) H Q := ⟨p, xs, i, v, rfl, rfl, h, atI_nn h0 ha, q⟩
theorem r_ixT {i : Int} (h : SqT K H p xs) (h0 : 0 ≤ i) (ha : xs[i.toNat]? = some v) (q : Q v H) : rIxT K (.ref p) (.int i) H Q := ⟨p, xs, i, v, rfl, rfl, h, atI_nn h0 ha, q⟩
theorem r_set {k : Int} (h : H p = some (.lst xs)) (h0 : 0 ≤ k) (hk : k.toNat = j) (hj : j < xs.length) {R : Hp → Prop} (q : R (upd H p (.lst (xs.set j v)))) : rSetL (.ref p) (.int k) v H R := ⟨p, xs, k, j, rfl, rfl, h, ixN_nn h0 hk hj, q⟩
theorem r_app (h : H p = some (.lst xs)) (hl : xs.length < sizeLine) (q : Q .non (upd H p (.lst (xs ++ [y])))) : rAppend (.ref p) [y] H Q := ⟨p, xs, y, rfl, rfl, h, hl, q⟩
theorem r_ext (h : H p = some (.lst xs)) (h2 : H b = some (.lst ys)) (hl : xs.length + ys.length ≤ sizeLine) (q : Q .non (upd H p (.lst (xs ++ ys)))) : rExtend (.ref p) [.ref b] H Q := ⟨p, b, xs, ys, rfl, rfl, h, h2, hl, q⟩
theorem r_popAt {i : Int} {k : Nat} (h : H p = some (.lst xs)) (h1 : -(2 ^ 63) ≤ i) (h2 : i < 2 ^ 63) (h3 : seqIndex? i xs.length = some k) (h4 : xs[k]? = some y) (q : Q y (upd H p (.lst (xs.eraseIdx k)))) : rPopAt (.ref p) [.int i] H Q := ⟨p, xs, i, k, y, rfl, rfl, h, h1, h2, h3, h4, q⟩
theorem r_cat (h : H p = some (.lst xs)) (h2 : H b = some (.lst ys)) (hl : xs.length + ys.length ≤ sizeLine) (q : ∀ l, H l = none → Q (.ref l) (upd H l (.lst (xs ++ ys)))) : rCat (.ref p) (.ref b) H Q := ⟨p, b, xs, ys, rfl, rfl, h, h2, hl, q⟩
theorem r_slL {lo hi : Option Int} (h : SqL K H p xs) (q : ∀ l, H l = none → Q (.ref l) (upd H l (.lst (cutV xs lo hi)))) : rSlL K (.ref p) lo hi H Q := ⟨p, xs, rfl, h, q⟩
theorem b_int {i : Int} (q : Q (.int i) H) : bInt [.int i] H Q := .inl ⟨i, rfl, q⟩
theorem b_max2 {i j : Int} (q : Q (.int (if j > i then j else i)) H) : bMax2 [.int i, .int j] H Q := ⟨i, j, rfl, q⟩
theorem b_min2 {i j : Int} (q : Q (.int (if j < i then j else i)) H) : bMin2 [.int i, .int j] H Q := ⟨i, j, rfl, q⟩
theorem b_str {i : Int} (h : i.natAbs.log2 < 1920) (q : Q (.str (Str.ofString (toString i))) H) : bStr [.int i] H Q := ⟨i, rfl, h, q⟩
theorem b_lenL (h : SqL K H p xs) (q : Q (.int (xs.length : Int)) H) : bLen K [.ref p] H Q := ⟨p, xs, rfl, .inl h, q⟩
theorem b_lenT (h : SqT K H p xs) (q : Q (.int (xs.length : Int)) H) : bLen K [.ref p] H Q := ⟨p, xs, rfl, .inr h, q⟩
theorem b_listL (h : SqL K H p xs) (q : ∀ l, H l = none → Q (.ref l) (upd H l (.lst xs))) : bList K [.ref p] H Q := ⟨p, xs, rfl, .inl h, q⟩
theorem b_tupL (h : SqL K H p xs) (q : ∀ l, H l = none → Q (.ref l) (upd H l (.tup xs))) : bTuple K [.ref p] H Q := ⟨p, xs, rfl, .inl ⟨h, q⟩⟩
theorem b_tupT (h : SqT K H p xs) (q : Q (.ref p) H) : bTuple K [.ref p] H Q := ⟨p, xs, rfl, .inr ⟨h, q⟩⟩
theorem ty_list (h : SqL K H p xs) : tyV K "list" (.ref p) H := .inl ⟨rfl, xs, h⟩
theorem ty_str {z : Str} : tyV K "str" (.str z) H := rfl
theorem x_tl {A : Prop} (h : SqL K H p xs) (q : A) : tyV K "list" (.ref p) H ∧ A := ⟨ty_list h, q⟩
theorem x_ts {z : Str} {A : Prop} (q : A) : tyV K "str" (.str z) H ∧ A := ⟨rfl, q⟩
theorem x_isi {x c : V} {t u : Value} {d : Bool} (hc : ClsV c u) (ht : TyX K H x t) (hk : PySem.W.kitOne K t u = some d) (q : Q (.bl d) H) : rIsi K [x, c] H Q := ⟨x, c, t, u, d, rfl, hc, ht, hk, q⟩
end
/-! ### frames -/
/-- all that was tracked stands as it was, but at a -/
def Sb (a : Addr) (H H' : Hp) : Prop := ∀ b o, b ≠ a → H b = some o → H' b = some o
theorem Sb.refl (a : Addr) (H : Hp) : Sb a H H := fun _ _ _ h => h
theorem Sb.trans {a : Addr} {H H1 H2 : Hp} (x : Sb a H H1) (y : Sb a H1 H2) : Sb a H H2 := fun b o n h => y b o n (x b o n h)
theorem Sb.new {a : Addr} {H H1 : Hp} {p : Addr} {o : HO} (x : Sb a H H1) (h : H1 p = none) : Sb a H (upd H1 p o) := fun b u n e => by
  rw [upd_ne (ne_of_none (x b u n e) h)]
  exact x b u n e
theorem Sb.mut {a : Addr} {H H1 : Hp} {p : Addr} {o : HO} (x : Sb a H H1) (h : H p = none) : Sb a H (upd H1 p o) := fun b u n e => by
  rw [upd_ne (ne_of_none e h)]
  exact x b u n e
theorem Sb.own {a : Addr} {H H1 : Hp} {o : HO} (x : Sb a H H1) : Sb a H (upd H1 a o) := fun b u n e => by
  rw [upd_ne n]
  exact x b u n e
theorem Sb.same {a : Addr} {H H1 : Hp} (x : Same H H1) : Sb a H H1 := fun b o _ h => x b o h
theorem Same.sb {a : Addr} {H H1 : Hp} (x : Same H H1) : Sb a H H1 := fun b o _ h => x b o h
theorem Same.new {H H1 : Hp} {p : Addr} {o : HO} (x : Same H H1) (h : H1 p = none) : Same H (upd H1 p o) := fun b u e => by
  rw [upd_ne (ne_of_none (x b u e) h)]
  exact x b u e
theorem Same.mut {H H1 : Hp} {p : Addr} {o : HO} (x : Same H H1) (h : H p = none) : Same H (upd H1 p o) := fun b u e => by
  rw [upd_ne (ne_of_none e h)]
  exact x b u e
theorem Sb.free {a : Addr} {H H' : Hp} (e : Sb a H H') {l : Addr} (n : l ≠ a) (h : H' l = none) : H l = none := by
  cases q : H l with
  | none => rfl
  | some o =>
    rw [e l o n q] at h
    cases h
theorem SqL.at {K : PySem.W.Frag} {H : Hp} {a : Addr} {xs : List V} (h : H a = some (.lst xs)) : SqL K H a xs := L2.SqL.of h
theorem SqT.at {K : PySem.W.Frag} {H : Hp} {a : Addr} {xs : List V} (h : H a = some (.tup xs)) : SqT K H a xs := L2.SqT.of h
/-! ### finding an index -/
theorem ixN_nat {n i : Nat} (h : i < n) : ixN n (i : Int) = some i := by
  unfold ixN
  first
    | (simp; omega)
    | (rw [if_pos (by omega)]; simp; omega)
theorem atI_at {α : Type} {xs : List α} {i : Nat} {v : α} (h : xs[i]? = some v) : atI xs (i : Int) = some v := by
  have hi : i < xs.length := (List.getElem?_eq_some_iff.mp h).1
  unfold atI
  rw [ixN_nat hi]
  exact h
/-! ### more steps -/
theorem upd_at {H : Hp} {p b : Addr} {o : HO} {u : Option HO} (n : b ≠ p) (h : H b = u) : upd H p o b = u := by rw [upd_ne n]; exact h
theorem sb_at {a b : Addr} {H H' : Hp} {o : HO} (s : Sb a H H') (n : b ≠ a) (h : H b = some o) : H' b = some o := s b o n h
theorem same_at {b : Addr} {H H' : Hp} {o : HO} (s : Same H H') (h : H b = some o) : H' b = some o := s b o h
theorem ne_new {H : Hp} {b p : Addr} {o : HO} (n : H p = none) (h : H b = some o) : b ≠ p := ne_of_none h n
theorem ne_new' {H : Hp} {b p : Addr} {o : HO} (n : H p = none) (h : H b = some o) : p ≠ b := (ne_of_none h n).symm
theorem ne_tl {H : Hp} {a b : Addr} {xs ys : List V} (h : H b = some (.tup xs)) (g : H a = some (.lst ys)) : b ≠ a := ne_of h g (by intro z; cases z)
theorem ne_lt {H : Hp} {a b : Addr} {xs ys : List V} (h : H b = some (.lst xs)) (g : H a = some (.tup ys)) : b ≠ a := ne_of h g (by intro z; cases z)
theorem SqL.mono {K : PySem.W.Frag} {H H' : Hp} {a : Addr} {xs : List V} (h : SqL K H a xs) (s : Same H H') : SqL K H' a xs := s.seq h
theorem s_for {wi : TI} {g : TG} {tb : TS} {D : Ends} {σ : L2.St} {H : Hp} (h : wi σ H fun J H1 => ∃ W : Nat → Nat → L2.St → Hp → Prop, (∃ m, W 0 m σ H1) ∧ ∀ i m σ H, W i m σ H →
  (J.stop i H ∧ D.nx σ H) ∨ (J.go i H ∧ ∃ N : L2.St → Hp → Prop, (∀ σ' H', N σ' H' → ∃ m', m' < m ∧ W (i + 1) m' σ' H') ∧ ∀ x H', J.yld i H x H' → g x σ H' fun σ2 H2 => tb { D with nx := N, ct := N, bk := D.nx } σ2 H2)) : tFor wi g tb D σ H := h
theorem i_tup {K : PySem.W.Frag} {te : TE} {σ : L2.St} {H : Hp} {R : It → Hp → Prop} (h : te σ H fun x H1 => ∃ a, x = .ref a ∧ (∃ xs, SqT K H1 a xs) ∧ R (Itt K a) H1) : iTup K te σ H R := h
theorem i_list {K : PySem.W.Frag} {te : TE} {σ : L2.St} {H : Hp} {R : It → Hp → Prop} (h : te σ H fun x H1 => ∃ a, x = .ref a ∧ (∃ xs, SqL K H1 a xs) ∧ R (Itl K a) H1) : iList K te σ H R := h
theorem i_rng1 {ta : TA} {σ : L2.St} {H : Hp} {R : It → Hp → Prop} (h : ta σ H fun vs H1 => ∃ j : Int, vs = [.int j] ∧ -(2 ^ 62) ≤ j ∧ j < 2 ^ 62 ∧ R (Itr 0 j.toNat) H1) : iRng1 ta σ H R := h
theorem i_rng2 {ta : TA} {σ : L2.St} {H : Hp} {R : It → Hp → Prop} (h : ta σ H fun vs H1 => ∃ i j : Int, vs = [.int i, .int j] ∧ (-(2 ^ 62) ≤ i ∧ i < 2 ^ 62 ∧ -(2 ^ 62) ≤ j ∧ j < 2 ^ 62) ∧ R (Itr i (j - i).toNat) H1) : iRng2 ta σ H R := h
theorem i_zip {K : PySem.W.Frag} {ta : TA} {σ : L2.St} {H : Hp} {R : It → Hp → Prop} (h : ta σ H fun vs H1 => ∃ a b xs ys, vs = [.ref a, .ref b] ∧ ((SqL K H1 a xs ∧ SqL K H1 b ys ∧ R (Itz K a b) H1) ∨ (SqT K H1 a xs ∧ SqT K H1 b ys ∧ R (RZ.ItzT K a b) H1))) : RZ.iZipA K ta σ H R := h
theorem e_join {ts : List TE} {σ : L2.St} {H : Hp} {Q : VK} (h : tJs ts Str.empty σ H fun out H1 => Q (.str out) H1) : tJoin ts σ H Q := h
theorem j_nil {acc : Str} {σ : L2.St} {H : Hp} {R : Str → Hp → Prop} (h : R acc H) : tJs [] acc σ H R := h
theorem j_cons {t : TE} {ts : List TE} {acc : Str} {σ : L2.St} {H : Hp} {R : Str → Hp → Prop} (h : t σ H fun x H1 => ∃ y : Str, x = .str y ∧ (acc ++ y).length ≤ sizeLine ∧ tJs ts (acc ++ y) σ H1 R) : tJs (t :: ts) acc σ H R := h
theorem mapI_get {ns : List Int} {i : Nat} {x : V} (h : (ns.map V.int)[i]? = some x) : ∃ n, x = V.int n ∧ ns[i]? = some n := by
  rw [List.getElem?_map] at h
  cases e : ns[i]? with
  | none => rw [e] at h; cases h
  | some n => rw [e] at h; exact ⟨n, (Option.some.inj h).symm, rfl⟩
theorem e_lc {wi : TI} {g : TG} {tt : TT} {te : TE} {vs : List Nat} {σ : L2.St} {H : Hp} {Q : VK} (h : wi σ H fun J H1 => ∀ D, H1 D = none → ∃ W : Nat → Nat → Hp → Prop, (∃ m, W 0 m (upd H1 D (.lst []))) ∧ ∀ i m H, W i m H →
  (J.stop i H ∧ Q (.ref D) H) ∨ (J.go i H ∧ ∃ Nx : Hp → Prop, (∀ H', Nx H' → ∃ m', m' < m ∧ W (i + 1) m' H') ∧ ∀ x H', J.yld i H x H' → g x (wipe σ vs) H' fun σ2 H2 => wipe σ2 vs = wipe σ vs ∧ tt σ2 H2 fun b H3 =>
    if b = true then te σ2 H3 fun y H4 => ∃ acc, H4 D = some (.lst acc) ∧ acc.length < sizeLine ∧ Nx (upd H4 D (.lst (acc ++ [y]))) else Nx H3)) : tLc wi g tt te vs σ H Q := h
theorem t_yes {σ : L2.St} {H : Hp} {B : Bool → Hp → Prop} (q : B true H) : tYes σ H B := q
theorem e_fmtS {te : TE} {σ : L2.St} {H : Hp} {Q : VK} (h : te σ H fun x H1 => (∃ y : Str, x = .str y ∧ y.length ≤ sizeLine ∧ Q (.str y) H1) ∨ ∃ i : Int, x = .int i ∧ i.natAbs.log2 < 1920 ∧ Q (.str (toString i)) H1) : tFmt te σ H Q := h
theorem sz {n : Nat} (h : n ≤ 100000) : n ≤ sizeLine := Nat.le_trans h (by decide)
theorem szl {n : Nat} (h : n ≤ 100000) : n < sizeLine := Nat.lt_of_le_of_lt h (by decide)
theorem walk_zipT {K : PySem.W.Frag} {a b : Addr} {xs ys : List V} {n : Nat} (hn : n = min xs.length ys.length) : Walk (RZ.ItzT K a b) n (fun H => SqT K H a xs ∧ SqT K H b ys) (YPair (fun i => xs[i]?) (fun i => ys[i]?)) := by
  subst hn
  refine ⟨fun i _ hi q => ?_, fun _ q => ⟨xs, ys, q.1, q.2, by omega⟩, fun i H v H' _ q y => ?_⟩
  · have h1 : i < xs.length := by omega
    have h2 : i < ys.length := by omega
    exact ⟨xs, ys, xs[i], ys[i], q.1, q.2, by simp [h1], by simp [h2]⟩
  · obtain ⟨T, x, z, h1, h2, h3, h4, h5⟩ := y
    exact ⟨T, x, z, h1, h2, h3, h4 xs q.1, h5 ys q.2⟩
theorem x_max {i j : Int} {H : Hp} {Q : VK} (q : ∀ m : Int, i ≤ m → j ≤ m → (m = i ∨ m = j) → Q (.int m) H) : bMax2 [.int i, .int j] H Q := by
  refine ⟨i, j, rfl, ?_⟩
  by_cases h : j > i
  · rw [if_pos h]; exact q j (by omega) (Int.le_refl _) (.inr rfl)
  · rw [if_neg h]; exact q i (Int.le_refl _) (by omega) (.inl rfl)
theorem x_min {i j : Int} {H : Hp} {Q : VK} (q : ∀ m : Int, m ≤ i → m ≤ j → (m = i ∨ m = j) → Q (.int m) H) : bMin2 [.int i, .int j] H Q := by
  refine ⟨i, j, rfl, ?_⟩
  by_cases h : j < i
  · rw [if_pos h]; exact q j (by omega) (Int.le_refl _) (.inr rfl)
  · rw [if_neg h]; exact q i (Int.le_refl _) (by omega) (.inl rfl)
theorem e_make {C : Addr} {sp : Sp} {E : XK} {t : TA} {σ : L2.St} {H : Hp} {Q : VK} (h : t σ H fun vs H1 => ∀ x dx, H1 x = none → H1 dx = none → dx ≠ x →
  sp (.ref x :: (vs ++ [])) (upd (upd H1 dx (.own x)) x (.ins C dx [])) (fun v H2 => v = .non ∧ Q (.ref x) H2) E) : tMake C sp [] E t σ H Q := h
theorem Same.mut2 {p : Addr} {H H' : Hp} (h : H p = none) (s : Sb p H H') : Same H H' := fun b o e => s b o (ne_of_none e h) e

/-! ### the text by places -/
def top (i : Nat) : Stmt := PySem.Challenge.pw_buriedsure_k22_whole_covering.main.body.getD i (.Pass ⟨0, 0, 0, 0⟩)
abbrev s_BadBook___init__ : Stmt := inClass (top 1) 0
abbrev s_heights_stand : Stmt := top 4
abbrev s_ends_text : Stmt := top 5
abbrev s_gap : Stmt := top 7
abbrev s_covering_gap : Stmt := top 8
abbrev s_ask_ends : Stmt := top 10
abbrev s_Standing___init__ : Stmt := inClass (top 11) 0
abbrev s_Standing___eq__ : Stmt := inClass (top 11) 1
abbrev s_Way___init__ : Stmt := inClass (top 12) 0
abbrev s_Way___eq__ : Stmt := inClass (top 12) 1
abbrev s_row_of : Stmt := top 13
abbrev s_covers : Stmt := top 14
abbrev s__law_bag : Stmt := top 16
abbrev s__law_draw : Stmt := top 17
abbrev s__law_of : Stmt := top 18
abbrev s__law_mixed : Stmt := top 19
abbrev s__law_int : Stmt := top 20
abbrev s__law_thing : Stmt := top 21
abbrev s__law_over : Stmt := top 22
abbrev s__law_over_ways : Stmt := top 23
abbrev s__law_pose : Stmt := top 24
abbrev s__law_near : Stmt := top 25
abbrev s__law_greater : Stmt := top 26
abbrev s__law_same : Stmt := top 27
abbrev s__law_pool : Stmt := top 28
abbrev s_law : Stmt := top 29
abbrev N_heights_stand : List Str := ["heights", "least", "height"]
abbrev P_heights_stand : List Str := ["heights"]
theorem sc_heights_stand : FnScope N_heights_stand P_heights_stand (defScope s_heights_stand) := ⟨rfl, rfl, rfl, by decide +kernel, rfl, by decide +kernel, by decide +kernel⟩
abbrev N_ends_text : List Str := ["heights", "count", "words", "height"]
abbrev P_ends_text : List Str := ["heights", "count"]
theorem sc_ends_text : FnScope N_ends_text P_ends_text (defScope s_ends_text) := ⟨rfl, rfl, rfl, by decide +kernel, rfl, by decide +kernel, by decide +kernel⟩
abbrev N_gap : List Str := ["heights", "others", "g", "height", "other"]
abbrev P_gap : List Str := ["heights", "others"]
theorem sc_gap : FnScope N_gap P_gap (defScope s_gap) := ⟨rfl, rfl, rfl, by decide +kernel, rfl, by decide +kernel, by decide +kernel⟩
abbrev N_covering_gap : List Str := ["one", "other", "g"]
abbrev P_covering_gap : List Str := ["one", "other"]
theorem sc_covering_gap : FnScope N_covering_gap P_covering_gap (defScope s_covering_gap) := ⟨rfl, rfl, rfl, by decide +kernel, rfl, by decide +kernel, by decide +kernel⟩
abbrev N_ask_ends : List Str := ["heights", "count"]
abbrev P_ask_ends : List Str := ["heights", "count"]
theorem sc_ask_ends : FnScope N_ask_ends P_ask_ends (defScope s_ask_ends) := ⟨rfl, rfl, rfl, by decide +kernel, rfl, by decide +kernel, by decide +kernel⟩
abbrev N_Standing___init__ : List Str := ["self", "together", "x", "y", "heights", "count", "word"]
abbrev P_Standing___init__ : List Str := ["self", "together", "x", "y", "heights", "count"]
theorem sc_Standing___init__ : FnScope N_Standing___init__ P_Standing___init__ (defScope s_Standing___init__) := ⟨rfl, rfl, rfl, by decide +kernel, rfl, by decide +kernel, by decide +kernel⟩
abbrev N_Way___init__ : List Str := ["self", "x", "heights", "count"]
abbrev P_Way___init__ : List Str := ["self", "x", "heights", "count"]
theorem sc_Way___init__ : FnScope N_Way___init__ P_Way___init__ (defScope s_Way___init__) := ⟨rfl, rfl, rfl, by decide +kernel, rfl, by decide +kernel, by decide +kernel⟩
abbrev N_row_of : List Str := ["member"]
abbrev P_row_of : List Str := ["member"]
theorem sc_row_of : FnScope N_row_of P_row_of (defScope s_row_of) := ⟨rfl, rfl, rfl, by decide +kernel, rfl, by decide +kernel, by decide +kernel⟩
abbrev N_covers : List Str := ["one", "other"]
abbrev P_covers : List Str := ["one", "other"]
theorem sc_covers : FnScope N_covers P_covers (defScope s_covers) := ⟨rfl, rfl, rfl, by decide +kernel, rfl, by decide +kernel, by decide +kernel⟩
abbrev N__law_bag : List Str := ["script", "blend", "cell"]
abbrev P__law_bag : List Str := ["script"]
theorem sc__law_bag : FnScope N__law_bag P__law_bag (defScope s__law_bag) := ⟨rfl, rfl, rfl, by decide +kernel, rfl, by decide +kernel, by decide +kernel⟩
abbrev N__law_draw : List Str := ["bag", "limit", "cell", "digit", "blend"]
abbrev P__law_draw : List Str := ["bag", "limit"]
theorem sc__law_draw : FnScope N__law_draw P__law_draw (defScope s__law_draw) := ⟨rfl, rfl, rfl, by decide +kernel, rfl, by decide +kernel, by decide +kernel⟩
abbrev N__law_of : List Str := ["bag", "things"]
abbrev P__law_of : List Str := ["bag", "things"]
theorem sc__law_of : FnScope N__law_of P__law_of (defScope s__law_of) := ⟨rfl, rfl, rfl, by decide +kernel, rfl, by decide +kernel, by decide +kernel⟩
abbrev N__law_mixed : List Str := ["bag", "things", "left", "told", "k"]
abbrev P__law_mixed : List Str := ["bag", "things"]
theorem sc__law_mixed : FnScope N__law_mixed P__law_mixed (defScope s__law_mixed) := ⟨rfl, rfl, rfl, by decide +kernel, rfl, by decide +kernel, by decide +kernel⟩
abbrev N__law_int : List Str := ["value"]
abbrev P__law_int : List Str := ["value"]
theorem sc__law_int : FnScope N__law_int P__law_int (defScope s__law_int) := ⟨rfl, rfl, rfl, by decide +kernel, rfl, by decide +kernel, by decide +kernel⟩
abbrev N__law_thing : List Str := ["pose"]
abbrev P__law_thing : List Str := ["pose"]
theorem sc__law_thing : FnScope N__law_thing P__law_thing (defScope s__law_thing) := ⟨rfl, rfl, rfl, by decide +kernel, rfl, by decide +kernel, by decide +kernel⟩
abbrev N__law_over : List Str := ["one", "two", "g", "high", "low"]
abbrev P__law_over : List Str := ["one", "two"]
theorem sc__law_over : FnScope N__law_over P__law_over (defScope s__law_over) := ⟨rfl, rfl, rfl, by decide +kernel, rfl, by decide +kernel, by decide +kernel⟩
abbrev N__law_over_ways : List Str := ["one", "two", "g", "high", "low"]
abbrev P__law_over_ways : List Str := ["one", "two"]
theorem sc__law_over_ways : FnScope N__law_over_ways P__law_over_ways (defScope s__law_over_ways) := ⟨rfl, rfl, rfl, by decide +kernel, rfl, by decide +kernel, by decide +kernel⟩
abbrev N__law_pose : List Str := ["bag", "lag", "wide", "joined", "far", "near", "tops", "last", "k"]
abbrev P__law_pose : List Str := ["bag", "lag", "wide"]
theorem sc__law_pose : FnScope N__law_pose P__law_pose (defScope s__law_pose) := ⟨rfl, rfl, rfl, by decide +kernel, rfl, by decide +kernel, by decide +kernel⟩
abbrev N__law_near : List Str := ["bag", "pose", "g", "joined", "far", "near", "tops", "cost", "high", "low", "told", "last", "top", "way", "count"]
abbrev P__law_near : List Str := ["bag", "pose", "g"]
theorem sc__law_near : FnScope N__law_near P__law_near (defScope s__law_near) := ⟨rfl, rfl, rfl, by decide +kernel, rfl, by decide +kernel, by decide +kernel⟩
abbrev N__law_greater : List Str := ["bag", "pose", "g", "joined", "far", "near", "tops", "cost", "low", "high", "told", "last", "top"]
abbrev P__law_greater : List Str := ["bag", "pose", "g"]
theorem sc__law_greater : FnScope N__law_greater P__law_greater (defScope s__law_greater) := ⟨rfl, rfl, rfl, by decide +kernel, rfl, by decide +kernel, by decide +kernel⟩
abbrev N__law_same : List Str := ["told", "due"]
abbrev P__law_same : List Str := ["told", "due"]
theorem sc__law_same : FnScope N__law_same P__law_same (defScope s__law_same) := ⟨rfl, rfl, rfl, by decide +kernel, rfl, by decide +kernel, by decide +kernel⟩
abbrev N__law_pool : List Str := ["bag", "poses", "things", "routes", "pose", "ways", "route", "a", "b"]
abbrev P__law_pool : List Str := ["bag", "poses"]
theorem sc__law_pool : FnScope N__law_pool P__law_pool (defScope s__law_pool) := ⟨rfl, rfl, rfl, by decide +kernel, rfl, by decide +kernel, by decide +kernel⟩
abbrev N_law : List Str := ["script", "bag", "turn", "pose", "g", "h", "over", "most", "poses", "k"]
abbrev P_law : List Str := ["script"]
theorem sc_law : FnScope N_law P_law (defScope s_law) := ⟨rfl, rfl, rfl, by decide +kernel, rfl, by decide +kernel, by decide +kernel⟩
/-! ### data -/
structure Pose where
  j : Int
  x : Int
  y : Int
  hs : List Int
  c : Int
structure Row where
  b : Bool
  x : Int
  y : Int
  hs : List Int
  c : Int
def asc : Int → List Int → Prop
  | _, [] => True
  | l, h :: t => l ≤ h ∧ asc h t
def Small (n : Int) : Prop := n.natAbs < 2 ^ 40
structure Good (p : Pose) : Prop where
  j01 : p.j = 0 ∨ p.j = 1
  yx : p.y ≤ p.x
  jx : p.j = 1 → p.x = p.y
  up : asc 0 p.hs
  len : p.hs.length ≤ 4
  c0 : 0 ≤ p.c
/-- all numbers lie within B -/
structure Fine (B : Int) (p : Pose) : Prop where
  lo : -B ≤ p.y
  hi : p.x ≤ B
  hh : ∀ h ∈ p.hs, h ≤ B
  cc : p.c ≤ B
def Pose.row (p : Pose) : Row := ⟨decide (p.j = 1), p.x, p.y, p.hs, p.c⟩
def wayRow (x : Int) (hs : List Int) (c : Int) : Row := ⟨true, x, x, hs, c⟩
def gapStep (g : Int) (p : Int × Int) : Int := if g < p.1 - p.2 then p.1 - p.2 else g
def gapF (hs ks : List Int) : Int := (hs.zip ks).foldl gapStep 0
def covF (a b : Row) : Option Int :=
  if a.b ≠ b.b ∨ a.hs.length ≠ b.hs.length ∨ b.c < a.c then none
  else if a.x < b.x + gapF a.hs b.hs ∨ a.y < b.y + gapF a.hs b.hs then none else some (gapF a.hs b.hs)
def optV : Option Int → V
  | none => .non
  | some i => .int i
abbrev TupI (H : Hp) (u : Addr) (hs : List Int) : Prop := H u = some (.tup (hs.map V.int))
def PoseAt (H : Hp) (t : Addr) (p : Pose) : Prop := ∃ u, H t = some (.tup [.int p.j, .int p.x, .int p.y, .ref u, .int p.c]) ∧ TupI H u p.hs
def RouteAt (H : Hp) (t : Addr) (p : Pose) : Prop := ∃ u, H t = some (.tup [.int p.x, .ref u, .int p.c]) ∧ TupI H u p.hs
def RowAt (H : Hp) (t : Addr) (r : Row) : Prop := ∃ u, H t = some (.tup [.bl r.b, .int r.x, .int r.y, .ref u, .int r.c]) ∧ TupI H u r.hs
def CS (K : PySem.W.Frag) : Addr := He.ga K "Standing"
def CW (K : PySem.W.Frag) : Addr := He.ga K "Way"
def StAt (K : PySem.W.Frag) (H : Hp) (p : Addr) (r : Row) : Prop := ∃ dx fs u, H p = some (.ins (CS K) dx fs) ∧ fs.lookup ("together" : Str) = some (.bl r.b) ∧ fs.lookup ("x" : Str) = some (.int r.x) ∧ fs.lookup ("y" : Str) = some (.int r.y) ∧
  fs.lookup ("heights" : Str) = some (.ref u) ∧ fs.lookup ("count" : Str) = some (.int r.c) ∧ TupI H u r.hs
def WyAt (K : PySem.W.Frag) (H : Hp) (p : Addr) (x : Int) (hs : List Int) (c : Int) : Prop := ∃ dx fs u, H p = some (.ins (CW K) dx fs) ∧ fs.lookup ("x" : Str) = some (.int x) ∧
  fs.lookup ("heights" : Str) = some (.ref u) ∧ fs.lookup ("count" : Str) = some (.int c) ∧ TupI H u hs
def MemAt (K : PySem.W.Frag) (H : Hp) (p : Addr) (r : Row) : Prop := StAt K H p r ∨ ∃ (x : Int) (hs : List Int) (c : Int), WyAt K H p x hs c ∧ r = wayRow x hs c
/-- what is drawn from stands at a -/
def BagAt (a c : Addr) (H : Hp) : Prop := ∃ (cs : List Int) (i r m n : Int), H a = some (.lst [.ref c, .int i, .int r, .int m, .int n]) ∧ c ≠ a ∧ H c = some (.lst (cs.map V.int)) ∧ 0 ≤ i ∧ 0 ≤ r ∧ 0 ≤ m ∧ m < 2147483648
/-! ### what is known of the classes -/
structure KF (K : PySem.W.Frag) : Prop where
  iS : C8.InsC K (CS K)
  iW : C8.InsC K (CW K)
  sw : PySem.W.kitOne K (.ref (CS K)) (.ref (CW K)) = some false
  naS : ∀ f : Str, f ∈ (["together", "x", "y", "heights", "count", "text"] : List Str) → NoAttr K (CS K) f
  naW : ∀ f : Str, f ∈ (["x", "heights", "count", "text"] : List Str) → NoAttr K (CW K) f
/-! ### promises -/
def sp_heights_stand (K : PySem.W.Frag) : Sp := fun vs H Q _ => ∃ (u : Addr) (hs : List Int), vs = [.ref u] ∧ TupI H u hs ∧ asc 0 hs ∧ hs.length ≤ 4 ∧ Q (.bl true) H
def sp_ends_text (K : PySem.W.Frag) : Sp := fun vs H Q _ => ∃ (u : Addr) (hs : List Int) (c : Int), vs = [.ref u, .int c] ∧ TupI H u hs ∧ hs.length ≤ 4 ∧ (∀ h ∈ hs, Small h) ∧ Small c ∧ ∀ H' z, Same H H' → z.length ≤ 1000 → Q (.str z) H'
def sp_gap (K : PySem.W.Frag) : Sp := fun vs H Q _ => ∃ (u w : Addr) (hs ks : List Int), vs = [.ref u, .ref w] ∧ TupI H u hs ∧ TupI H w ks ∧ hs.length = ks.length ∧ ∀ H', Same H H' → Q (.int (gapF hs ks)) H'
def sp_covering_gap (K : PySem.W.Frag) : Sp := fun vs H Q _ => ∃ s t a b, vs = [.ref s, .ref t] ∧ RowAt H s a ∧ RowAt H t b ∧ ∀ H', Same H H' → Q (optV (covF a b)) H'
def sp_ask_ends (K : PySem.W.Frag) : Sp := fun vs H Q _ => ∃ (u : Addr) (hs : List Int) (c : Int), vs = [.ref u, .int c] ∧ TupI H u hs ∧ asc 0 hs ∧ hs.length ≤ 4 ∧ 0 ≤ c ∧ Q .non H
def sp_Standing___init__ (K : PySem.W.Frag) : Sp := fun vs H Q _ => ∃ p dx u r, vs = [.ref p, .bl r.b, .int r.x, .int r.y, .ref u, .int r.c] ∧ H p = some (.ins (CS K) dx []) ∧ TupI H u r.hs ∧ r.y ≤ r.x ∧ (r.b = true → r.x = r.y) ∧
  asc 0 r.hs ∧ r.hs.length ≤ 4 ∧ 0 ≤ r.c ∧ (∀ h ∈ r.hs, Small h) ∧ Small r.c ∧ Small r.x ∧ Small r.y ∧ ∀ H', Sb p H H' → StAt K H' p r → Q .non H'
def sp_Way___init__ (K : PySem.W.Frag) : Sp := fun vs H Q _ => ∃ (p dx u : Addr) (x : Int) (hs : List Int) (c : Int), vs = [.ref p, .int x, .ref u, .int c] ∧ H p = some (.ins (CW K) dx []) ∧ TupI H u hs ∧
  asc 0 hs ∧ hs.length ≤ 4 ∧ 0 ≤ c ∧ (∀ h ∈ hs, Small h) ∧ Small c ∧ Small x ∧ ∀ H', Sb p H H' → WyAt K H' p x hs c → Q .non H'
def sp_row_of (K : PySem.W.Frag) : Sp := fun vs H Q _ => ∃ p r, vs = [.ref p] ∧ MemAt K H p r ∧ ∀ H' t, Same H H' → RowAt H' t r → Q (.ref t) H'
def sp_covers (K : PySem.W.Frag) : Sp := fun vs H Q _ => ∃ p q a b, vs = [.ref p, .ref q] ∧ MemAt K H p a ∧ MemAt K H q b ∧ ∀ H', Same H H' → Q (optV (covF a b)) H'
def sp__law_bag (K : PySem.W.Frag) : Sp := fun vs H Q _ => ∃ (s : Addr) (ns : List Int), vs = [.ref s] ∧ SqL K H s (ns.map V.int) ∧ ns.length ≤ 63 ∧ ∀ H' a c, H a = none → Same H H' → BagAt a c H' → Q (.ref a) H'
def sp__law_draw (K : PySem.W.Frag) : Sp := fun vs H Q _ => ∃ a c L, vs = [.ref a, .int L] ∧ BagAt a c H ∧ 0 < L ∧ L < 1073741824 ∧ ∀ H' d, Sb a H H' → BagAt a c H' → 0 ≤ d → d < L → Q (.int d) H'
def sp__law_of (K : PySem.W.Frag) : Sp := fun vs H Q _ => ∃ (a c t : Addr) (xs : List V), vs = [.ref a, .ref t] ∧ BagAt a c H ∧ t ≠ a ∧ H t = some (.lst xs) ∧ xs ≠ [] ∧ xs.length ≤ 1000 ∧ ∀ H' x, Sb a H H' → BagAt a c H' → x ∈ xs → Q x H'
def sp__law_mixed (K : PySem.W.Frag) : Sp := fun vs H Q _ => ∃ (a c t : Addr) (xs : List V), vs = [.ref a, .ref t] ∧ BagAt a c H ∧ t ≠ a ∧ H t = some (.lst xs) ∧ xs.length ≤ 1000 ∧ ∀ H' p ys, H p = none → Sb a H H' → BagAt a c H' → H' p = some (.lst ys) → ys.length = xs.length → (∀ y ∈ ys, y ∈ xs) → Q (.ref p) H'
def sp__law_int (K : PySem.W.Frag) : Sp := fun vs H Q _ => ∃ i, vs = [.int i] ∧ Q (.bl true) H
def sp__law_thing (K : PySem.W.Frag) : Sp := fun vs H Q _ => ∃ t p, vs = [.ref t] ∧ PoseAt H t p ∧ Good p ∧ Fine 1000000000000 p ∧ ∀ H' s, Same H H' → StAt K H' s p.row → Q (.ref s) H'
def overF (a b : Pose) : Option Int := covF a.row b.row
def sp__law_over (K : PySem.W.Frag) : Sp := fun vs H Q _ => ∃ s t a b, vs = [.ref s, .ref t] ∧ PoseAt H s a ∧ PoseAt H t b ∧ Good a ∧ Good b ∧ ∀ H', Same H H' → Q (optV (overF a b)) H'
def sp__law_over_ways (K : PySem.W.Frag) : Sp := fun vs H Q _ => ∃ s t a b, vs = [.ref s, .ref t] ∧ RouteAt H s a ∧ RouteAt H t b ∧ a.hs.length ≤ 1000 ∧ ∀ H', Same H H' → Q (optV (covF (wayRow a.x a.hs a.c) (wayRow b.x b.hs b.c))) H'
def sp__law_pose (K : PySem.W.Frag) : Sp := fun vs H Q _ => ∃ a c lag wide, vs = [.ref a, .int lag, .int wide] ∧ BagAt a c H ∧ 0 ≤ lag ∧ lag ≤ 4 ∧ 0 ≤ wide ∧ wide ≤ 100 ∧ ∀ H' t p, Sb a H H' → BagAt a c H' → PoseAt H' t p → Good p → Fine 1000 p → Q (.ref t) H'
def sp__law_near (K : PySem.W.Frag) : Sp := fun vs H Q _ => ∃ a c s p g B, vs = [.ref a, .ref s, .int g] ∧ BagAt a c H ∧ PoseAt H s p ∧ Good p ∧ Fine B p ∧ 0 ≤ B ∧ 0 ≤ g ∧ ∀ H' t q, Sb a H H' → BagAt a c H' → PoseAt H' t q → Good q → Fine (B + g + 10) q → Q (.ref t) H'
def sp__law_greater (K : PySem.W.Frag) : Sp := fun vs H Q _ => ∃ a c s p g B, vs = [.ref a, .ref s, .int g] ∧ BagAt a c H ∧ PoseAt H s p ∧ Good p ∧ Fine B p ∧ 0 ≤ B ∧ 0 ≤ g ∧ ∀ H' t q, Sb a H H' → BagAt a c H' → PoseAt H' t q → Good q → Fine (B + g + 10) q → overF q p ≠ none → Q (.ref t) H'
def sp__law_same (K : PySem.W.Frag) : Sp := fun vs H Q _ => ∃ a b, vs = [optV a, optV b] ∧ Q (.bl (decide (a = b))) H
def sp__law_pool (K : PySem.W.Frag) : Sp := fun vs H Q _ => ∃ (a s : Addr) (ts : List Addr), vs = [.ref a, .ref s] ∧ H s = some (.lst (ts.map V.ref)) ∧ ts.length ≤ 10 ∧ (∀ t ∈ ts, ∃ p, PoseAt H t p ∧ Good p ∧ Fine 1000000000000 p) ∧ ∀ H', Same H H' → Q (.bl true) H'
def sp_law (K : PySem.W.Frag) : Sp := fun vs H Q _ => ∃ (a : Addr) (ns : List Int), vs = [.ref a] ∧ SqL K H a (ns.map V.int) ∧ ns.length ≤ 63 ∧ ∀ H', Q (.bl true) H'
/-! ### readings -/
def r_heights_stand (K : PySem.W.Frag) : TS := (tSeq (tAsg (tC (.int 0)) (gName 1))
  (tSeq (tFor (iTup K (tVar 0)) (gName 2)
   (tSeq (tIfS (tTest (tOp rLt0 (tVar 2) (tVar 1))) (tRet (tC (.bl false))) tNext)
  (tAsg (tVar 2) (gName 1))))
  (tRet (tOp rLe0 (tCB (bLen K) (tCons (tVar 0) tNil)) (tC (.int 4))))))
def r_ends_text (K : PySem.W.Frag) : TS := (tSeq (tAsg (tLst (tCons (tC (.str "")) tNil)) (gName 2))
  (C8.tCut (tIfS (tTru K (tVar 0)) (tDrop (tBM K "list" rAppend (tVar 2) (tCons (tC (.str "heights")) tNil))) tNext)
  (tSeq (tDrop (tBM K "list" rExtend (tVar 2) (tCons (tLc (iTup K (tVar 0)) (gName 3) tYes (tCB bStr (tCons (tVar 3) tNil)) [3]) tNil)))
  (C8.tCut (tIfS (tTest (tOp rGt0 (tVar 1) (tC (.int 0)))) (tDrop (tBM K "list" rAppend (tVar 2) (tCons (tJoin [(tC (.str "count ")), (tFmt (tVar 1))]) tNil))) tNext)
  (tRet (tBM K "str" (mJoin K) (tC (.str " ")) (tCons (tVar 2) tNil)))))))
def r_gap (K : PySem.W.Frag) : TS := (tSeq (tAsg (tC (.int 0)) (gName 2))
  (tSeq (tFor (RZ.iZipA K (tCons (tVar 0) (tCons (tVar 1) tNil))) (gTup K 2 (gCons (gName 3) (gCons (gName 4) gNil)))
   (tIfS (tTest (tOp rGt0 (tOp rMinus (tVar 3) (tVar 4)) (tVar 2))) (tAsg (tOp rMinus (tVar 3) (tVar 4)) (gName 2)) tNext))
  (tRet (tVar 2))))
def r_covering_gap (K : PySem.W.Frag) : TS := (tSeq (tIfS (tOr (tTest (tOp rNe (tOp (rIxT K) (tVar 0) (tC (.int 0))) (tOp (rIxT K) (tVar 1) (tC (.int 0))))) (tOr (tTest (tOp rNe (tCB (bLen K) (tCons (tOp (rIxT K) (tVar 0) (tC (.int 3))) tNil)) (tCB (bLen K) (tCons (tOp (rIxT K) (tVar 1) (tC (.int 3))) tNil)))) (tTest (tOp rGt0 (tOp (rIxT K) (tVar 0) (tC (.int 4))) (tOp (rIxT K) (tVar 1) (tC (.int 4))))))) (tRet (tC .non)) tNext)
  (tSeq (tAsg (tCall (sp_gap K) [] E0 (tCons (tOp (rIxT K) (tVar 0) (tC (.int 3))) (tCons (tOp (rIxT K) (tVar 1) (tC (.int 3))) tNil))) (gName 2))
  (tSeq (tIfS (tOr (tTest (tOp rLt0 (tOp (rIxT K) (tVar 0) (tC (.int 1))) (tOp rPlus (tOp (rIxT K) (tVar 1) (tC (.int 1))) (tVar 2)))) (tTest (tOp rLt0 (tOp (rIxT K) (tVar 0) (tC (.int 2))) (tOp rPlus (tOp (rIxT K) (tVar 1) (tC (.int 2))) (tVar 2))))) (tRet (tC .non)) tNext)
  (tRet (tVar 2)))))
def r_ask_ends (K : PySem.W.Frag) : TS := (tSeq (tIfS (tNot (tB (tCall (sp_heights_stand K) [] E0 (tCons (tVar 0) tNil)))) tNever tNext)
  (tIfS (tTest (tOp rLt0 (tVar 1) (tC (.int 0)))) tNever tNext))
def r_Standing___init__ (K : PySem.W.Frag) : TS := (C8.tCut (tIfS (tOr (tTest (tOp rLt0 (tVar 2) (tVar 3))) (tAnd (tTru K (tVar 1)) (tTest (tOp rNe (tVar 2) (tVar 3))))) tNever tNext)
  (tSeq (tDrop (tCall (sp_ask_ends K) [] E0 (tCons (tVar 4) (tCons (tVar 5) tNil))))
  (tSeq (sFld K (tVar 0) (tVar 1) "together")
  (tSeq (sFld K (tVar 0) (tVar 2) "x")
  (tSeq (sFld K (tVar 0) (tVar 3) "y")
  (tSeq (sFld K (tVar 0) (tCB (bTuple K) (tCons (tVar 4) tNil)) "heights")
  (tSeq (sFld K (tVar 0) (tVar 5) "count")
  (C8.tCut (tAsg (tIf (tTru K (tVar 1)) (tC (.str "together")) (tC (.str "apart"))) (gName 6))
  (sFld K (tVar 0) (tJoin [(tFmt (tVar 6)), (tC (.str " ")), (tFmt (tVar 2)), (tC (.str " ")), (tFmt (tVar 3)), (tFmt (tCall (sp_ends_text K) [] E0 (tCons (tFld K (tVar 0) "heights") (tCons (tVar 5) tNil))))]) "text")))))))))
def r_Way___init__ (K : PySem.W.Frag) : TS := (tSeq (tDrop (tCall (sp_ask_ends K) [] E0 (tCons (tVar 2) (tCons (tVar 3) tNil))))
  (tSeq (sFld K (tVar 0) (tVar 1) "x")
  (tSeq (sFld K (tVar 0) (tCB (bTuple K) (tCons (tVar 2) tNil)) "heights")
  (tSeq (sFld K (tVar 0) (tVar 3) "count")
  (sFld K (tVar 0) (tJoin [(tC (.str "way ")), (tFmt (tVar 1)), (tFmt (tCall (sp_ends_text K) [] E0 (tCons (tFld K (tVar 0) "heights") (tCons (tVar 3) tNil))))]) "text")))))
def r_row_of (K : PySem.W.Frag) : TS := (tSeq (tIfS (tB (tCB (rIsi K) (tCons (tVar 0) (tCons (tC (.ref (He.ga K "Way"))) tNil)))) (tRet (tTup (tCons (tC (.bl true)) (tCons (tFld K (tVar 0) "x") (tCons (tFld K (tVar 0) "x") (tCons (tFld K (tVar 0) "heights") (tCons (tFld K (tVar 0) "count") tNil))))))) tNext)
  (tRet (tTup (tCons (tFld K (tVar 0) "together") (tCons (tFld K (tVar 0) "x") (tCons (tFld K (tVar 0) "y") (tCons (tFld K (tVar 0) "heights") (tCons (tFld K (tVar 0) "count") tNil))))))))
def r_covers (K : PySem.W.Frag) : TS := (tRet (tCall (sp_covering_gap K) [] E0 (tCons (tCall (sp_row_of K) [] E0 (tCons (tVar 0) tNil)) (tCons (tCall (sp_row_of K) [] E0 (tCons (tVar 1) tNil)) tNil))))
def r__law_bag (K : PySem.W.Frag) : TS := (tSeq (tAsg (tC (.int 902137)) (gName 1))
  (tSeq (tFor (iList K (tSl (rSlL K) (tVar 0) tNoPart (tPart (tC (.int 63))))) (gName 2)
   (tAsg (tOp rModP (tCB bInt (tCons (tOp rPlus (tOp rPlus (tOp rTimes (tVar 1) (tC (.int 69061))) (tOp rModP (tCB bInt (tCons (tVar 2) tNil)) (tC (.int 2147483587)))) (tC (.int 733))) tNil)) (tC (.int 2147483629))) (gName 1)))
  (tRet (tLst (tCons (tCB (bList K) (tCons (tSl (rSlL K) (tVar 0) tNoPart (tPart (tC (.int 63)))) tNil)) (tCons (tC (.int 0)) (tCons (tC (.int 0)) (tCons (tVar 1) (tCons (tC (.int 0)) tNil)))))))))
def r__law_draw (K : PySem.W.Frag) : TS := (tSeq (tAsg (tOp rPlus (tOp (rIxL K) (tVar 0) (tC (.int 4))) (tC (.int 1))) (gSub (tVar 0) (tC (.int 4)) rSetL))
  (C8.tCut (tIfS (tAnd (tTest (tOp rEq (tOp (rIxL K) (tVar 0) (tC (.int 2))) (tC (.int 0)))) (tTest (tOp rLt0 (tOp (rIxL K) (tVar 0) (tC (.int 1))) (tCB (bLen K) (tCons (tOp (rIxL K) (tVar 0) (tC (.int 0))) tNil))))) (tSeq (tAsg (tCB bInt (tCons (tOp (rIxL K) (tOp (rIxL K) (tVar 0) (tC (.int 0))) (tOp (rIxL K) (tVar 0) (tC (.int 1)))) tNil)) (gName 2))
  (tSeq (tAsg (tOp rPlus (tOp (rIxL K) (tVar 0) (tC (.int 1))) (tC (.int 1))) (gSub (tVar 0) (tC (.int 1)) rSetL))
  (tIfS (tTest (tOp rGe0 (tVar 2) (tOp rPow0 (tC (.int 10)) (tC (.int 18))))) (tAsg (tVar 2) (gSub (tVar 0) (tC (.int 2)) rSetL)) (tAsg (tOp rModP (tCB bInt (tCons (tOp rPlus (tOp rPlus (tOp rTimes (tOp (rIxL K) (tVar 0) (tC (.int 3))) (tC (.int 40493))) (tOp rTimes (tOp rModP (tCB bInt (tCons (tVar 2) tNil)) (tC (.int 2147483563))) (tC (.int 30011)))) (tC (.int 911))) tNil)) (tC (.int 2147483629))) (gSub (tVar 0) (tC (.int 3)) rSetL))))) tNext)
  (tSeq (tIfS (tTest (tOp rGt0 (tOp (rIxL K) (tVar 0) (tC (.int 2))) (tC (.int 0)))) (tSeq (tAsg (tOp rModP (tCB bInt (tCons (tOp (rIxL K) (tVar 0) (tC (.int 2))) tNil)) (tVar 1)) (gName 3))
  (tSeq (tAsg (tOp rFdivN (tOp (rIxL K) (tVar 0) (tC (.int 2))) (tVar 1)) (gSub (tVar 0) (tC (.int 2)) rSetL))
  (tRet (tVar 3)))) tNext)
  (tSeq (tAsg (tCB bInt (tCons (tOp (rIxL K) (tVar 0) (tC (.int 3))) tNil)) (gName 4))
  (tSeq (tAsg (tOp rModP (tCB bInt (tCons (tOp rPlus (tOp rPlus (tOp rPlus (tOp rPow0 (tVar 4) (tC (.int 3))) (tOp rTimes (tVar 4) (tC (.int 52057)))) (tOp rTimes (tOp (rIxL K) (tVar 0) (tC (.int 4))) (tC (.int 1300049)))) (tC (.int 70117))) tNil)) (tC (.int 2147483629))) (gSub (tVar 0) (tC (.int 3)) rSetL))
  (tRet (tOp rModP (tCB bInt (tCons (tOp rPlus (tOp rFdivN (tOp (rIxL K) (tVar 0) (tC (.int 3))) (tC (.int 97))) (tOp rTimes (tOp rModP (tCB bInt (tCons (tOp (rIxL K) (tVar 0) (tC (.int 3))) tNil)) (tC (.int 8191))) (tC (.int 61)))) tNil)) (tVar 1))))))))
def r__law_of (K : PySem.W.Frag) : TS := (tRet (tOp (rIxL K) (tVar 1) (tCall (sp__law_draw K) [] E0 (tCons (tVar 0) (tCons (tCB (bLen K) (tCons (tVar 1) tNil)) tNil)))))
def r__law_mixed (K : PySem.W.Frag) : TS := (tSeq (tPar 2 3 (tCons (tCB (bList K) (tCons (tVar 1) tNil)) (tCons (tLst tNil) tNil)))
  (tSeq (tFor (iRng1 (tCons (tCB (bLen K) (tCons (tVar 1) tNil)) tNil)) (gName 4)
   (tDrop (tBM K "list" rAppend (tVar 3) (tCons (tBM K "list" rPopAt (tVar 2) (tCons (tCall (sp__law_draw K) [] E0 (tCons (tVar 0) (tCons (tCB (bLen K) (tCons (tVar 2) tNil)) tNil))) tNil)) tNil))))
  (tRet (tVar 3))))
def r__law_int (K : PySem.W.Frag) : TS := (tRet (tAndV (tCB (rIsi K) (tCons (tVar 0) (tCons (tC (.ty "int")) tNil))) (tNotV (tCB (rIsi K) (tCons (tVar 0) (tCons (tC (.ty "bool")) tNil))))))
def r__law_thing (K : PySem.W.Frag) : TS := (tRet (tMake (He.ga K "Standing") (sp_Standing___init__ K) [] E0 (tCons (tOp rEq (tOp (rIxT K) (tVar 0) (tC (.int 0))) (tC (.int 1))) (tCons (tOp (rIxT K) (tVar 0) (tC (.int 1))) (tCons (tOp (rIxT K) (tVar 0) (tC (.int 2))) (tCons (tOp (rIxT K) (tVar 0) (tC (.int 3))) (tCons (tOp (rIxT K) (tVar 0) (tC (.int 4))) tNil)))))))
def r__law_over (K : PySem.W.Frag) : TS := (tSeq (tIfS (tOr (tTest (tOp rNe (tOp (rIxT K) (tVar 0) (tC (.int 0))) (tOp (rIxT K) (tVar 1) (tC (.int 0))))) (tOr (tTest (tOp rNe (tCB (bLen K) (tCons (tOp (rIxT K) (tVar 0) (tC (.int 3))) tNil)) (tCB (bLen K) (tCons (tOp (rIxT K) (tVar 1) (tC (.int 3))) tNil)))) (tTest (tOp rGt0 (tOp (rIxT K) (tVar 0) (tC (.int 4))) (tOp (rIxT K) (tVar 1) (tC (.int 4))))))) (tRet (tC .non)) tNext)
  (tSeq (tAsg (tCB (rMax K) (tCons (tOp rCat (tLst (tCons (tC (.int 0)) tNil)) (tLc (RZ.iZipA K (tCons (tOp (rIxT K) (tVar 0) (tC (.int 3))) (tCons (tOp (rIxT K) (tVar 1) (tC (.int 3))) tNil))) (gTup K 2 (gCons (gName 3) (gCons (gName 4) gNil))) tYes (tOp rMinus (tVar 3) (tVar 4)) [3, 4])) tNil)) (gName 2))
  (tRet (tIf (tAnd (tTest (tOp rGe0 (tOp (rIxT K) (tVar 0) (tC (.int 1))) (tOp rPlus (tOp (rIxT K) (tVar 1) (tC (.int 1))) (tVar 2)))) (tTest (tOp rGe0 (tOp (rIxT K) (tVar 0) (tC (.int 2))) (tOp rPlus (tOp (rIxT K) (tVar 1) (tC (.int 2))) (tVar 2))))) (tVar 2) (tC .non)))))
def r__law_over_ways (K : PySem.W.Frag) : TS := (tSeq (tIfS (tOr (tTest (tOp rNe (tCB (bLen K) (tCons (tOp (rIxT K) (tVar 0) (tC (.int 1))) tNil)) (tCB (bLen K) (tCons (tOp (rIxT K) (tVar 1) (tC (.int 1))) tNil)))) (tTest (tOp rGt0 (tOp (rIxT K) (tVar 0) (tC (.int 2))) (tOp (rIxT K) (tVar 1) (tC (.int 2)))))) (tRet (tC .non)) tNext)
  (tSeq (tAsg (tCB (rMax K) (tCons (tOp rCat (tLst (tCons (tC (.int 0)) tNil)) (tLc (RZ.iZipA K (tCons (tOp (rIxT K) (tVar 0) (tC (.int 1))) (tCons (tOp (rIxT K) (tVar 1) (tC (.int 1))) tNil))) (gTup K 2 (gCons (gName 3) (gCons (gName 4) gNil))) tYes (tOp rMinus (tVar 3) (tVar 4)) [3, 4])) tNil)) (gName 2))
  (tRet (tIf (tTest (tOp rGe0 (tOp (rIxT K) (tVar 0) (tC (.int 0))) (tOp rPlus (tOp (rIxT K) (tVar 1) (tC (.int 0))) (tVar 2)))) (tVar 2) (tC .non)))))
def r__law_pose (K : PySem.W.Frag) : TS := (tSeq (tPar 3 4 (tCons (tCall (sp__law_of K) [] E0 (tCons (tVar 0) (tCons (tLst (tCons (tC (.int 0)) (tCons (tC (.int 0)) (tCons (tC (.int 1)) tNil)))) tNil))) (tCons (tOp rMinus (tCall (sp__law_draw K) [] E0 (tCons (tVar 0) (tCons (tOp rPlus (tVar 2) (tC (.int 4))) tNil))) (tC (.int 3))) tNil)))
  (C8.tCut (tAsg (tIf (tTest (tOp rEq (tVar 3) (tC (.int 1)))) (tVar 4) (tOp rMinus (tVar 4) (tCall (sp__law_of K) [] E0 (tCons (tVar 0) (tCons (tLst (tCons (tC (.int 0)) (tCons (tC (.int 1)) (tCons (tC (.int 2)) (tCons (tC (.int 0)) (tCons (tC (.int 1)) (tCons (tC (.int 3)) tNil))))))) tNil))))) (gName 5))
  (tSeq (tPar 6 7 (tCons (tLst tNil) (tCons (tC (.int 0)) tNil)))
  (tSeq (tFor (iRng1 (tCons (tVar 1) tNil)) (gName 8)
   (tSeq (tAsg (tOp rPlus (tVar 7) (tCall (sp__law_of K) [] E0 (tCons (tVar 0) (tCons (tLst (tCons (tC (.int 0)) (tCons (tC (.int 1)) (tCons (tC (.int 0)) (tCons (tC (.int 2)) (tCons (tC (.int 0)) tNil)))))) tNil)))) (gName 7))
  (tDrop (tBM K "list" rAppend (tVar 6) (tCons (tVar 7) tNil)))))
  (tRet (tTup (tCons (tVar 3) (tCons (tVar 4) (tCons (tVar 5) (tCons (tCB (bTuple K) (tCons (tVar 6) tNil)) (tCons (tCall (sp__law_of K) [] E0 (tCons (tVar 0) (tCons (tLst (tCons (tC (.int 0)) (tCons (tC (.int 0)) (tCons (tC (.int 1)) (tCons (tC (.int 0)) (tCons (tC (.int 4)) tNil)))))) tNil))) tNil)))))))))))
def r__law_near (K : PySem.W.Frag) : TS := (tSeq (tAsg (tVar 1) (gTup K 5 (gCons (gName 3) (gCons (gName 4) (gCons (gName 5) (gCons (gName 6) (gCons (gName 7) gNil)))))))
  (C8.tCut (tIfS (tTest (tOp rEq (tCall (sp__law_draw K) [] E0 (tCons (tVar 0) (tCons (tC (.int 7)) tNil))) (tC (.int 0)))) (tAsg (tOp rMinus (tC (.int 1)) (tVar 3)) (gName 3)) tNext)
  (tSeq (tAsg (tOp rPlus (tOp rPlus (tVar 4) (tVar 2)) (tCall (sp__law_of K) [] E0 (tCons (tVar 0) (tCons (tLst (tCons (tC (.int 0)) (tCons (tC (.int 0)) (tCons (tC (.int 1)) (tCons (tUn uNeg (tC (.int 1))) (tCons (tC (.int 0)) (tCons (tC (.int 2)) tNil))))))) tNil)))) (gName 8))
  (C8.tCut (tAsg (tIf (tTest (tOp rEq (tVar 3) (tC (.int 1)))) (tVar 8) (tOp rPlus (tOp rPlus (tVar 5) (tVar 2)) (tCall (sp__law_of K) [] E0 (tCons (tVar 0) (tCons (tLst (tCons (tC (.int 0)) (tCons (tC (.int 0)) (tCons (tC (.int 1)) (tCons (tUn uNeg (tC (.int 1))) (tCons (tC (.int 0)) (tCons (tC (.int 2)) tNil))))))) tNil))))) (gName 9))
  (tSeq (tPar 10 11 (tCons (tLst tNil) (tCons (tC (.int 0)) tNil)))
  (tSeq (tFor (iTup K (tVar 6)) (gName 12)
   (tSeq (tAsg (tCB bMax2 (tCons (tVar 11) (tCons (tOp rPlus (tOp rPlus (tVar 12) (tVar 2)) (tCall (sp__law_of K) [] E0 (tCons (tVar 0) (tCons (tLst (tCons (tC (.int 0)) (tCons (tC (.int 0)) (tCons (tUn uNeg (tC (.int 1))) (tCons (tC (.int 1)) (tCons (tC (.int 0)) (tCons (tUn uNeg (tC (.int 2))) tNil))))))) tNil)))) tNil))) (gName 11))
  (tDrop (tBM K "list" rAppend (tVar 10) (tCons (tVar 11) tNil)))))
  (tSeq (tAsg (tCall (sp__law_draw K) [] E0 (tCons (tVar 0) (tCons (tC (.int 9)) tNil))) (gName 13))
  (C8.tCut (tIfS (tAnd (tTest (tOp rEq (tVar 13) (tC (.int 0)))) (tTru K (tVar 10))) (tAsg (tSl (rSlL K) (tVar 10) (tPart (tC (.int 1))) tNoPart) (gName 10)) tNext)
  (C8.tCut (tIfS (tAnd (tTest (tOp rEq (tVar 13) (tC (.int 1)))) (tTest (tOp rLt0 (tCB (bLen K) (tCons (tVar 10) tNil)) (tC (.int 4))))) (tAsg (tOp rCat (tLst (tCons (tC (.int 0)) tNil)) (tVar 10)) (gName 10)) tNext)
  (tSeq (tAsg (tCB bMax2 (tCons (tC (.int 0)) (tCons (tOp rPlus (tVar 7) (tCall (sp__law_of K) [] E0 (tCons (tVar 0) (tCons (tLst (tCons (tC (.int 0)) (tCons (tC (.int 0)) (tCons (tC (.int 1)) (tCons (tUn uNeg (tC (.int 1))) (tCons (tC (.int 0)) tNil)))))) tNil)))) tNil))) (gName 14))
  (tRet (tTup (tCons (tVar 3) (tCons (tCB bMax2 (tCons (tVar 8) (tCons (tVar 9) tNil))) (tCons (tCB bMin2 (tCons (tVar 8) (tCons (tVar 9) tNil))) (tCons (tCB (bTuple K) (tCons (tVar 10) tNil)) (tCons (tVar 14) tNil)))))))))))))))))
def r__law_greater (K : PySem.W.Frag) : TS := (tSeq (tAsg (tVar 1) (gTup K 5 (gCons (gName 3) (gCons (gName 4) (gCons (gName 5) (gCons (gName 6) (gCons (gName 7) gNil)))))))
  (tSeq (tAsg (tOp rPlus (tOp rPlus (tVar 5) (tVar 2)) (tCall (sp__law_of K) [] E0 (tCons (tVar 0) (tCons (tLst (tCons (tC (.int 0)) (tCons (tC (.int 0)) (tCons (tC (.int 1)) (tCons (tC (.int 0)) (tCons (tC (.int 2)) tNil)))))) tNil)))) (gName 8))
  (C8.tCut (tAsg (tIf (tTest (tOp rEq (tVar 3) (tC (.int 1)))) (tVar 8) (tCB bMax2 (tCons (tVar 8) (tCons (tOp rPlus (tOp rPlus (tVar 4) (tVar 2)) (tCall (sp__law_of K) [] E0 (tCons (tVar 0) (tCons (tLst (tCons (tC (.int 0)) (tCons (tC (.int 0)) (tCons (tC (.int 1)) (tCons (tC (.int 0)) tNil))))) tNil)))) tNil)))) (gName 9))
  (tSeq (tPar 10 11 (tCons (tLst tNil) (tCons (tC (.int 0)) tNil)))
  (tSeq (tFor (iTup K (tVar 6)) (gName 12)
   (tSeq (tAsg (tCB bMax2 (tCons (tVar 11) (tCons (tOp rMinus (tOp rPlus (tVar 12) (tVar 2)) (tCall (sp__law_of K) [] E0 (tCons (tVar 0) (tCons (tLst (tCons (tC (.int 0)) (tCons (tC (.int 0)) (tCons (tC (.int 1)) (tCons (tC (.int 0)) (tCons (tC (.int 3)) tNil)))))) tNil)))) tNil))) (gName 11))
  (tDrop (tBM K "list" rAppend (tVar 10) (tCons (tVar 11) tNil)))))
  (tRet (tTup (tCons (tVar 3) (tCons (tVar 9) (tCons (tVar 8) (tCons (tCB (bTuple K) (tCons (tVar 10) tNil)) (tCons (tCB bMax2 (tCons (tC (.int 0)) (tCons (tOp rMinus (tVar 7) (tCall (sp__law_draw K) [] E0 (tCons (tVar 0) (tCons (tC (.int 2)) tNil)))) tNil))) tNil))))))))))))
def r__law_same (K : PySem.W.Frag) : TS := (tSeq (tIfS (tOr (tTest (tOp rIsN0 (tVar 1) (tC .non))) (tTest (tOp rIsN0 (tVar 0) (tC .non)))) (tRet (tAndV (tOp rIsN0 (tVar 1) (tC .non)) (tOp rIsN0 (tVar 0) (tC .non)))) tNext)
  (tRet (tAndV (tCall (sp__law_int K) [] E0 (tCons (tVar 0) tNil)) (tOp rEq (tVar 0) (tVar 1)))))
def r__law_pool (K : PySem.W.Frag) : TS := (tSeq (tPar 2 3 (tCons (tLc (iList K (tVar 1)) (gName 4) tYes (tCall (sp__law_thing K) [] E0 (tCons (tVar 4) tNil)) [4]) (tCons (tLc (iList K (tVar 1)) (gName 4) tYes (tTup (tCons (tOp (rIxT K) (tVar 4) (tC (.int 1))) (tCons (tOp (rIxT K) (tVar 4) (tC (.int 3))) (tCons (tOp (rIxT K) (tVar 4) (tC (.int 4))) tNil)))) [4]) tNil)))
  (tSeq (tAsg (tLc (iList K (tVar 3)) (gName 6) tYes (tMake (He.ga K "Way") (sp_Way___init__ K) [] E0 (tCons (tOp (rIxT K) (tVar 6) (tC (.int 0))) (tCons (tOp (rIxT K) (tVar 6) (tC (.int 1))) (tCons (tOp (rIxT K) (tVar 6) (tC (.int 2))) tNil)))) [6]) (gName 5))
  (tSeq (tFor (iRng1 (tCons (tCB (bLen K) (tCons (tVar 1) tNil)) tNil)) (gName 7)
   (tSeq (tFor (iRng1 (tCons (tCB (bLen K) (tCons (tVar 1) tNil)) tNil)) (gName 8)
   (tSeq (tIfS (tNot (tB (tCall (sp__law_same K) [] E0 (tCons (tCall (sp_covers K) [] E0 (tCons (tOp (rIxL K) (tVar 2) (tVar 7)) (tCons (tOp (rIxL K) (tVar 2) (tVar 8)) tNil))) (tCons (tCall (sp__law_over K) [] E0 (tCons (tOp (rIxL K) (tVar 1) (tVar 7)) (tCons (tOp (rIxL K) (tVar 1) (tVar 8)) tNil))) tNil))))) (tRet (tC (.bl false))) tNext)
  (tIfS (tNot (tB (tCall (sp__law_same K) [] E0 (tCons (tCall (sp_covers K) [] E0 (tCons (tOp (rIxL K) (tVar 5) (tVar 7)) (tCons (tOp (rIxL K) (tVar 5) (tVar 8)) tNil))) (tCons (tCall (sp__law_over_ways K) [] E0 (tCons (tOp (rIxL K) (tVar 3) (tVar 7)) (tCons (tOp (rIxL K) (tVar 3) (tVar 8)) tNil))) tNil))))) (tRet (tC (.bl false))) tNext)))
  (tIfS (tTest (tOp rNe (tCall (sp_covers K) [] E0 (tCons (tOp (rIxL K) (tVar 2) (tVar 7)) (tCons (tCall (sp__law_thing K) [] E0 (tCons (tOp (rIxL K) (tVar 1) (tVar 7)) tNil)) tNil))) (tC (.int 0)))) (tRet (tC (.bl false))) tNext)))
  (tRet (tC (.bl true))))))
def r_law (K : PySem.W.Frag) : TS := (tSeq (tAsg (tCall (sp__law_bag K) [] E0 (tCons (tVar 0) tNil)) (gName 1))
  (tSeq (tFor (iRng1 (tCons (tC (.int 5)) tNil)) (gName 2)
   (tSeq (tAsg (tCall (sp__law_pose K) [] E0 (tCons (tVar 1) (tCons (tCall (sp__law_draw K) [] E0 (tCons (tVar 1) (tCons (tC (.int 5)) tNil))) (tCons (tC (.int 5)) tNil)))) (gName 3))
  (tSeq (tAsg (tTup (tCons (tCall (sp__law_of K) [] E0 (tCons (tVar 1) (tCons (tLst (tCons (tC (.int 0)) (tCons (tC (.int 1)) (tCons (tC (.int 2)) (tCons (tC (.int 0)) (tCons (tC (.int 3)) (tCons (tC (.int 7)) (tCons (tC (.int 5000)) tNil)))))))) tNil))) (tCons (tCall (sp__law_of K) [] E0 (tCons (tVar 1) (tCons (tLst (tCons (tC (.int 0)) (tCons (tC (.int 1)) (tCons (tC (.int 2)) (tCons (tC (.int 0)) (tCons (tC (.int 10000000)) tNil)))))) tNil))) tNil))) (gTup K 2 (gCons (gName 4) (gCons (gName 5) gNil))))
  (tSeq (tAsg (tCall (sp__law_greater K) [] E0 (tCons (tVar 1) (tCons (tVar 3) (tCons (tVar 4) tNil)))) (gName 6))
  (tSeq (tAsg (tCall (sp__law_greater K) [] E0 (tCons (tVar 1) (tCons (tVar 6) (tCons (tVar 5) tNil)))) (gName 7))
  (tSeq (tIfS (tOr (tTest (tOp rIsN0 (tCall (sp_covers K) [] E0 (tCons (tCall (sp__law_thing K) [] E0 (tCons (tVar 6) tNil)) (tCons (tCall (sp__law_thing K) [] E0 (tCons (tVar 3) tNil)) tNil))) (tC .non))) (tTest (tOp rIsN0 (tCall (sp_covers K) [] E0 (tCons (tCall (sp__law_thing K) [] E0 (tCons (tVar 7) tNil)) (tCons (tCall (sp__law_thing K) [] E0 (tCons (tVar 3) tNil)) tNil))) (tC .non)))) (tRet (tC (.bl false))) tNext)
  (tSeq (tAsg (tOp rCat (tLst (tCons (tVar 3) (tCons (tVar 6) (tCons (tVar 7) tNil)))) (tLc (iRng1 (tCons (tC (.int 3)) tNil)) (gName 9) tYes (tCall (sp__law_near K) [] E0 (tCons (tVar 1) (tCons (tVar 3) (tCons (tCall (sp__law_of K) [] E0 (tCons (tVar 1) (tCons (tLst (tCons (tC (.int 0)) (tCons (tC (.int 1)) (tCons (tC (.int 2)) (tCons (tVar 4) tNil))))) tNil))) tNil)))) [9])) (gName 8))
  (tIfS (tNot (tB (tCall (sp__law_pool K) [] E0 (tCons (tVar 1) (tCons (tCall (sp__law_mixed K) [] E0 (tCons (tVar 1) (tCons (tVar 8) tNil))) tNil))))) (tRet (tC (.bl false))) tNext))))))))
  (tRet (tC (.bl true)))))

/-! ### steps by hand names: acc_open one step, acc_peel steps, apart_at what stands at an address, apart_rest two addresses apart -/
theorem BagAt.some {a c : Addr} {H : Hp} (b : BagAt a c H) : ∃ xs, H a = some (.lst xs) := by obtain ⟨_, _, _, _, _, h, _⟩ := b; exact ⟨_, h⟩
theorem BagAt.mut {a c p : Addr} {H : Hp} {o : HO} (b : BagAt a c H) (n : a ≠ p) (m : c ≠ p) : BagAt a c (upd H p o) := by
  obtain ⟨cs, i, r, m, k, h, nc, hc, x⟩ := b
  exact ⟨cs, i, r, m, k, upd_at n h, nc, upd_at (by assumption) hc, x⟩
theorem BagAt.na {a c p : Addr} {H : Hp} (b : BagAt a c H) (n : H p = none) : a ≠ p := by obtain ⟨_, h⟩ := b.some; exact ne_of_none h n
theorem BagAt.nc {a c p : Addr} {H : Hp} (b : BagAt a c H) (n : H p = none) : c ≠ p := by
  obtain ⟨cs, i, r, m, k, h, nc, hc, x⟩ := b; exact ne_of_none hc n
theorem BagAt.new {a c p : Addr} {H : Hp} {o : HO} (b : BagAt a c H) (n : H p = none) : BagAt a c (upd H p o) := b.mut (b.na n) (b.nc n)
theorem ne_bag {a b c : Addr} {H : Hp} (g : BagAt a c H) (n : H b = none) : b ≠ a := (g.na n).symm
theorem ne_bagT {a b c : Addr} {H : Hp} {xs : List V} (g : BagAt a c H) (n : H b = some (.tup xs)) : b ≠ a := by obtain ⟨_, h⟩ := g.some; exact ne_tl n h
local macro_rules | `(tactic| apart_at) => `(tactic| first
  | assumption
  | exact upd_same
  | (refine upd_at ?n1 ?n2; (case n1 => apart_rest); (case n2 => apart_at))
  | exact same_at (by assumption) (by apart_at)
  | exact sb_at (by assumption) (by apart_rest) (by apart_at)
  | fail)
local macro_rules | `(tactic| apart_rest) => `(tactic| first
  | assumption
  | (apply Ne.symm; assumption)
  | (refine ne_bag ?_ ?_ <;> assumption)
  | exact ne_bagT (by assumption) (by apart_at)
  | exact ne_new (by assumption) (by apart_at)
  | exact ne_new' (by assumption) (by apart_at)
  | fail)
local macro_rules | `(tactic| acc_open) => `(tactic| first
  | with_reducible (first
  | refine s_seq ?_ | refine s_asg ?_ | refine s_ret ?_ | refine s_retN ?_ | refine s_drop ?_ | refine s_next ?_ | refine s_if ?_ | refine s_fld ?_ | refine e_fld ?_ | refine s_par ?_ | refine x_par ?_
  | refine g_name ?_ | refine g_cons ?_ | refine g_nil ?_ | refine g_sub ?_ | refine g_tup ?_ rfl ?_
  | refine e_var rfl ?_ | refine e_c ?_ | refine e_op ?_ | refine e_un ?_ | refine e_if ?_ | refine e_tup ?_ | refine e_lst ?_ | refine e_call ?_ | refine e_cb ?_ | refine e_bm ?_ | refine e_bm0 ?_ | refine e_sl ?_
  | refine o_no ?_ | refine o_part ?_ | refine x_part ?_ | refine e_and ?_ | refine e_or ?_ | refine e_not ?_ | refine a_cons ?_ | refine a_nil ?_
  | refine t_test ?_ | refine t_b ?_ | refine t_and ?_ | refine t_or ?_ | refine t_not ?_ | refine t_tru ?_ | refine x_blE ?_
  | refine r_plus ?_ | refine r_minus ?_ | refine r_lt ?_ | refine r_le ?_ | refine r_gt ?_ | refine r_ge ?_ | refine r_eqI ?_ | refine r_eqB ?_ | refine r_eqS ?_ | refine r_neI ?_ | refine r_neB ?_ | refine r_neS ?_ | refine r_neg ?_
  | refine r_isNi ?_ | refine r_isNr ?_ | refine r_isNn ?_ | refine r_isNb ?_ | refine r_isNs ?_ | refine r_notNi ?_ | refine r_notNr ?_ | refine r_notNn ?_
  | refine b_int ?_ | refine x_ts ?_ | refine e_join ?_ | refine j_nil ?_ | refine j_cons ?_ | refine x_trB ?_
  | refine i_t ?_ | refine i_f ?_ | refine i_nt ?_ | refine i_nf ?_)
  | ((with_reducible refine' r_ixT ?k1 ?k0 ?k2 ?_); (case k1 => exact SqT.at (by apart_at)); (case k0 => decide); (case k2 => rfl))
  | ((with_reducible refine' r_ixL ?k1 ?k0 ?k2 ?_); (case k1 => exact SqL.at (by apart_at)); (case k0 => decide); (case k2 => rfl))
  | ((with_reducible refine' r_set ?k1 ?k0 ?k2 ?k3 ?_); (case k1 => apart_at); (case k0 => decide); (case k2 => rfl); (case k3 => exact Nat.le_of_ble_eq_true rfl))
  | ((with_reducible refine' b_lenT ?k1 ?_); (case k1 => exact SqT.at (by apart_at)))
  | ((with_reducible refine' b_lenL ?k1 ?_); (case k1 => exact SqL.at (by apart_at)))
  | ((with_reducible refine' x_tl ?k1 ?_); (case k1 => exact SqL.at (by apart_at)))
  | ((with_reducible refine' b_tupT ?k1 ?_); (case k1 => exact SqT.at (by apart_at)))
  | ((with_reducible refine' x_trT ?k1 ?_); (case k1 => exact SqT.at (by apart_at)))
  | ((with_reducible refine' x_trL ?k1 ?_); (case k1 => exact SqL.at (by apart_at))))
local macro_rules | `(tactic| acc_peel) => `(tactic| repeat' acc_open)
theorem len_heights_stand {K : PySem.W.Frag} {vs : List V} {H : Hp} {Q : VK} {E : XK} (h : sp_heights_stand K vs H Q E) : vs.length = P_heights_stand.length := by
  obtain ⟨u, hs, rfl, _⟩ := h; rfl
theorem asc_get : ∀ {hs : List Int} {l : Int} {i : Nat} {v : Int}, asc l hs → hs[i]? = some v → l ≤ v
  | [], _, _, _, _, e => by simp at e
  | h :: t, l, 0, v, a, e => by
    have : h = v := by simpa using e
    rw [← this]; exact a.1
  | h :: t, l, i + 1, v, a, e => Int.le_trans a.1 (asc_get a.2 (by simpa using e))
theorem asc_next : ∀ {hs : List Int} {l : Int} {i : Nat} {v w : Int}, asc l hs → hs[i]? = some v → hs[i + 1]? = some w → v ≤ w
  | [], _, _, _, _, _, e, _ => by simp at e
  | h :: t, l, 0, v, w, a, e, f => by
    have : h = v := by simpa using e
    rw [← this]; exact asc_get (i := 0) a.2 (by simpa using f)
  | h :: t, l, i + 1, v, w, a, e, f => asc_next a.2 (by simpa using e) (by simpa using f)
theorem pure_heights_stand {K : PySem.W.Frag} (vs : List V) (H : Hp) (Q : VK) (E : XK) (h : sp_heights_stand K vs H Q E) : r_heights_stand K { nx := fun _ H' => Q .non H', rt := Q } (start N_heights_stand vs) H := by
  obtain ⟨u, hs, rfl, hu, ha, hl, q⟩ := h
  unfold r_heights_stand
  acc_peel
  have hT : SqT K H u (hs.map V.int) := SqT.at hu
  refine s_for ?_
  refine i_tup ?_
  acc_peel
  refine ⟨_, rfl, ⟨_, hT⟩, for_tup (K := K) (a := u) (xs := hs.map V.int) (fun i σ H' => H' = H ∧ ∃ (l : Int) (v : Option V), σ = [some (.ref u), some (.int l), v] ∧ ∀ w, hs[i]? = some w → l ≤ w)
    ⟨rfl, 0, none, rfl, fun w e => asc_get ha e⟩ (fun i σ H' _ h => by rw [h.1]; exact hT) ?_ ?_⟩
  · rintro i x σ H' hx ⟨rfl, l, v, rfl, hw⟩
    obtain ⟨n, rfl, hn⟩ := mapI_get hx
    acc_peel
    refine i_dec (fun hlt => ?_) (fun _ => ?_)
    · exact absurd (hw n hn) (by omega)
    · acc_peel
      exact ⟨rfl, n, _, rfl, fun w e => asc_next ha hn e⟩
  · rintro σ H' ⟨rfl, l, v, rfl, _⟩
    acc_peel
    rw [List.length_map, decide_eq_true (by omega)]
    exact q
/-! gap -/
theorem len_gap {K : PySem.W.Frag} {vs : List V} {H : Hp} {Q : VK} {E : XK} (h : sp_gap K vs H Q E) : vs.length = P_gap.length := by
  obtain ⟨u, w, hs, ks, rfl, _⟩ := h; rfl
theorem gap_take {hs ks : List Int} {i : Nat} {a b : Int} (h1 : hs[i]? = some a) (h2 : ks[i]? = some b) : ((hs.zip ks).take (i + 1)).foldl gapStep 0 = gapStep (((hs.zip ks).take i).foldl gapStep 0) (a, b) := by
  have e : (hs.zip ks)[i]? = some (a, b) := by
    rw [List.getElem?_zip_eq_some]; exact ⟨h1, h2⟩
  rw [List.take_succ, e, List.foldl_append]; rfl
theorem pure_gap {K : PySem.W.Frag} (vs : List V) (H : Hp) (Q : VK) (E : XK) (h : sp_gap K vs H Q E) : r_gap K { nx := fun _ H' => Q .non H', rt := Q } (start N_gap vs) H := by
  obtain ⟨u, w, hs, ks, rfl, hu, hw, hl, q⟩ := h
  unfold r_gap
  acc_peel
  have hT : SqT K H u (hs.map V.int) := SqT.at hu
  have hT2 : SqT K H w (ks.map V.int) := SqT.at hw
  refine s_for ?_
  refine i_zip ?_
  acc_peel
  refine ⟨_, _, _, _, rfl, Or.inr ⟨hT, hT2, RZ.for_zipT (K := K) (a := u) (b := w) (xs := hs.map V.int) (ys := ks.map V.int) (by rw [List.length_map, List.length_map]; exact hl)
    (fun i σ H' => Same H H' ∧ ∃ (v1 v2 : Option V), σ = [some (.ref u), some (.ref w), some (.int (((hs.zip ks).take i).foldl gapStep 0)), v1, v2])
    ⟨Same.refl H, none, none, rfl⟩ (fun i σ H' h => ⟨SqT.at (h.1 _ _ hu), SqT.at (h.1 _ _ hw)⟩) ?_ ?_⟩⟩
  · rintro i x y T σ H' hx hy ⟨sm, v1, v2, rfl⟩ hT0
    obtain ⟨a, rfl, ha⟩ := mapI_get hx
    obtain ⟨b, rfl, hb⟩ := mapI_get hy
    refine g_tup (SqT.at upd_same) rfl ?_
    acc_peel
    have e := gap_take ha hb
    refine i_dec (fun hlt => ?_) (fun hlt => ?_)
    · acc_peel
      refine ⟨Same.new sm hT0, some (.int a), some (.int b), ?_⟩
      rw [e]
      have : gapStep (((hs.zip ks).take i).foldl gapStep 0) (a, b) = a - b := if_pos hlt
      rw [this]; rfl
    · acc_peel
      refine ⟨Same.new sm hT0, some (.int a), some (.int b), ?_⟩
      rw [e]
      have : gapStep (((hs.zip ks).take i).foldl gapStep 0) (a, b) = ((hs.zip ks).take i).foldl gapStep 0 := if_neg hlt
      rw [this]; rfl
  · rintro σ H' ⟨sm, v1, v2, rfl⟩
    acc_peel
    have e : ((hs.zip ks).take (hs.map V.int).length).foldl gapStep 0 = gapF hs ks := by
      rw [List.take_of_length_le (by rw [List.length_zip, List.length_map]; omega)]; rfl
    rw [e]
    exact q H' sm
/-! covering_gap -/
theorem len_covering_gap {K : PySem.W.Frag} {vs : List V} {H : Hp} {Q : VK} {E : XK} (h : sp_covering_gap K vs H Q E) : vs.length = P_covering_gap.length := by
  obtain ⟨s, t, a, b, rfl, _⟩ := h; rfl
theorem pure_covering_gap {K : PySem.W.Frag} (vs : List V) (H : Hp) (Q : VK) (E : XK) (h : sp_covering_gap K vs H Q E) : r_covering_gap K { nx := fun _ H' => Q .non H', rt := Q } (start N_covering_gap vs) H := by
  obtain ⟨s, t, a, b, rfl, ⟨u, hs, hu⟩, ⟨w, ht, hw⟩, q⟩ := h
  unfold r_covering_gap
  acc_peel
  refine i_ndec (fun hne => ?_) (fun heq => ?_)
  · acc_peel
    have e : covF a b = none := if_pos (Or.inl hne)
    have := q H (Same.refl H)
    rw [e] at this
    exact this
  acc_peel
  refine i_ndec (fun hne => ?_) (fun hlen => ?_)
  · acc_peel
    have hl : ¬ a.hs.length = b.hs.length := fun z => hne (by rw [List.length_map, List.length_map, z])
    have e : covF a b = none := if_pos (Or.inr (Or.inl hl))
    have := q H (Same.refl H)
    rw [e] at this
    exact this
  have hl : a.hs.length = b.hs.length := by
    rw [List.length_map, List.length_map] at hlen; omega
  acc_peel
  refine i_dec (fun hc => ?_) (fun hc => ?_)
  · acc_peel
    have e : covF a b = none := if_pos (Or.inr (Or.inr hc))
    have := q H (Same.refl H)
    rw [e] at this
    exact this
  acc_peel
  have n1 : ¬ (a.b ≠ b.b ∨ a.hs.length ≠ b.hs.length ∨ b.c < a.c) := by
    rintro (z | z | z)
    · exact z heq
    · exact z hl
    · exact hc z
  refine ⟨u, w, _, _, rfl, hu, hw, hl, fun H1 sm => ?_⟩
  have hs1 := sm _ _ hs
  have ht1 := sm _ _ ht
  acc_peel
  refine i_dec (fun hx => ?_) (fun hx => ?_)
  · acc_peel
    have e : covF a b = none := by unfold covF; rw [if_neg n1, if_pos (Or.inl hx)]
    have := q H1 sm
    rw [e] at this
    exact this
  acc_peel
  refine i_dec (fun hy => ?_) (fun hy => ?_)
  · acc_peel
    have e : covF a b = none := by unfold covF; rw [if_neg n1, if_pos (Or.inr hy)]
    have := q H1 sm
    rw [e] at this
    exact this
  acc_peel
  have e : covF a b = some (gapF a.hs b.hs) := by
    unfold covF
    rw [if_neg n1, if_neg (by rintro (z | z); exact hx z; exact hy z)]
  have := q H1 sm
  rw [e] at this
  exact this
/-! ask_ends -/
theorem len_ask_ends {K : PySem.W.Frag} {vs : List V} {H : Hp} {Q : VK} {E : XK} (h : sp_ask_ends K vs H Q E) : vs.length = P_ask_ends.length := by
  obtain ⟨u, hs, c, rfl, _⟩ := h; rfl
theorem pure_ask_ends {K : PySem.W.Frag} (vs : List V) (H : Hp) (Q : VK) (E : XK) (h : sp_ask_ends K vs H Q E) : r_ask_ends K { nx := fun _ H' => Q .non H', rt := Q } (start N_ask_ends vs) H := by
  obtain ⟨u, hs, c, rfl, hu, ha, hl, hc, q⟩ := h
  unfold r_ask_ends
  acc_peel
  refine ⟨u, hs, rfl, hu, ha, hl, ?_⟩
  acc_peel
  refine i_dec (fun z => absurd z (by omega)) (fun _ => ?_)
  acc_peel
  exact q
/-! ends_text -/
theorem len_ends_text {K : PySem.W.Frag} {vs : List V} {H : Hp} {Q : VK} {E : XK} (h : sp_ends_text K vs H Q E) : vs.length = P_ends_text.length := by
  obtain ⟨u, hs, c, rfl, _⟩ := h; rfl
theorem txt_len {i : Int} (h : Small i) : (Str.ofString (toString i)).length ≤ 20 := by
  rw [PySem.ofString_length]
  have : i.natAbs < 10 ^ 19 := Nat.lt_trans h (by decide)
  exact PySem.int_text_length_le10 (k := 19) (by decide) this
theorem log_small {i : Int} (h : Small i) : i.natAbs.log2 < 1920 := by
  by_cases h0 : i.natAbs = 0
  · rw [h0]; decide
  · exact Nat.lt_trans ((Nat.log2_lt h0).mpr h) (by decide)
theorem str_app_len (x y : Str) : (x ++ y).length = x.length + y.length := by
  rw [TL.len_tl, TL.len_tl, TL.len_tl, TL.tl_append, List.length_append]
theorem join_len (a : Str) : ∀ ys : List Str, (Str.join a ys).length ≤ (ys.map (·.length)).sum + ys.length * a.length
  | [] => by show (0 : Nat) ≤ _; exact Nat.zero_le _
  | [x] => by show x.length ≤ _; simp
  | x :: z :: r => by
    have ih := join_len a (z :: r)
    show ((x ++ a) ++ Str.join a (z :: r)).length ≤ _
    rw [str_app_len, str_app_len]
    simp only [List.map_cons, List.sum_cons, List.length_cons] at ih ⊢
    have e : (r.length + 1 + 1) * a.length = (r.length + 1) * a.length + a.length := Nat.succ_mul _ _
    omega
theorem sum_le {b : Nat} : ∀ {ys : List Str}, (∀ y ∈ ys, y.length ≤ b) → (ys.map (·.length)).sum ≤ ys.length * b
  | [], _ => by simp
  | y :: ys, h => by
    have h1 := h y (List.mem_cons_self ..)
    have h2 := sum_le (ys := ys) fun z hz => h z (List.mem_cons_of_mem _ hz)
    simp only [List.map_cons, List.sum_cons, List.length_cons]
    have e : (ys.length + 1) * b = ys.length * b + b := Nat.succ_mul _ _
    omega
theorem map_str_get {ns : List Int} {f : Int → Str} : ∀ (i : Nat) (n : Int), ns[i]? = some n → (ns.take (i + 1)).map (fun h => V.str (f h)) = (ns.take i).map (fun h => V.str (f h)) ++ [V.str (f n)] := fun i n h => by
  rw [List.take_succ, h, List.map_append]; rfl
theorem map_snoc (zs : List Str) (z : Str) : (zs ++ [z]).map V.str = zs.map V.str ++ [V.str z] := by rw [List.map_append]; rfl
/-- words: texts of at most 40 signs -/
def Words (n : Nat) (zs : List Str) : Prop := zs.length ≤ n ∧ ∀ z ∈ zs, z.length ≤ 40
theorem Words.snoc {n : Nat} {zs : List Str} {z : Str} (h : Words n zs) (hz : z.length ≤ 40) : Words (n + 1) (zs ++ [z]) := by
  refine ⟨?_, fun y hy => ?_⟩
  · rw [List.length_append, List.length_singleton]; exact Nat.succ_le_succ h.1
  · rcases List.mem_append.mp hy with q | q
    · exact h.2 y q
    · rw [List.mem_singleton.mp q]; exact hz
theorem Words.mono {n m : Nat} {zs : List Str} (h : Words n zs) (e : n ≤ m) : Words m zs := ⟨Nat.le_trans h.1 e, h.2⟩
theorem pure_ends_text {K : PySem.W.Frag} (vs : List V) (H : Hp) (Q : VK) (E : XK) (h : sp_ends_text K vs H Q E) : r_ends_text K { nx := fun _ H' => Q .non H', rt := Q } (start N_ends_text vs) H := by
  obtain ⟨u, hs, c, rfl, hu, hl, hh, hc, q⟩ := h
  unfold r_ends_text
  acc_peel
  refine ⟨sz (by decide), fun p hp => ?_⟩
  acc_peel
  refine s_cut (fun σ H' => ∃ zs : List Str, σ = [some (.ref u), some (.int c), some (.ref p), none] ∧ Same H H' ∧ H' p = some (.lst (zs.map V.str)) ∧ Words 2 zs) ?_ ?_
  · acc_peel
    refine i_b (fun _ => ?_) (fun _ => ?_)
    · acc_peel
      refine r_app upd_same (szl (by decide)) ?_
      exact ⟨["", "heights"], rfl, Same.mut (Same.new (Same.refl H) hp) hp, upd_same, by decide, by decide⟩
    · acc_peel
      exact ⟨[""], rfl, Same.new (Same.refl H) hp, upd_same, by decide, by decide⟩
  rintro σ H1 ⟨zs, rfl, sm, h1, hz⟩
  acc_peel
  refine e_lc ?_
  refine i_tup ?_
  acc_peel
  have hu1 := sm _ _ hu
  refine ⟨_, rfl, ⟨_, SqT.at hu1⟩, fun D hD => lc_tup (K := K) (a := u) (xs := hs.map V.int) (fun i H' => Same H1 H' ∧ H' D = some (.lst ((hs.take i).map fun h => V.str (Str.ofString (toString h)))))
    ⟨Same.new (Same.refl H1) hD, upd_same⟩ (fun i H' _ h => SqT.at (h.1 _ _ hu1)) ?_ ?_⟩
  · rintro i x H' hx ⟨sm', hD'⟩
    obtain ⟨n, rfl, hn⟩ := mapI_get hx
    have sn := hh n (List.mem_of_getElem? hn)
    refine g_name ⟨rfl, ?_⟩
    refine t_yes ?_
    acc_peel
    refine b_str (log_small sn) ?_
    refine ⟨_, hD', szl ?_, Same.mut sm' hD, ?_⟩
    · rw [List.length_map]; exact Nat.le_trans (List.length_take_le' _ _) (Nat.le_trans hl (by decide))
    · rw [upd_same, map_str_get i n hn]
  rintro H2 ⟨sm2, hD2⟩
  rw [List.length_map, List.take_of_length_le (Nat.le_refl _)] at hD2
  acc_peel
  have e2 : (hs.map fun h => V.str (Str.ofString (toString h))) = (hs.map fun h => Str.ofString (toString h)).map V.str := by rw [List.map_map]; rfl
  rw [e2] at hD2
  have hz1 := hz.1
  have h12 := sm2 _ _ h1
  refine r_ext h12 hD2 (sz (by rw [List.length_map, List.length_map, List.length_map]; omega)) ?_
  acc_peel
  have np0 : H p = none := hp
  refine s_cut (fun σ H' => ∃ zs : List Str, σ = [some (.ref u), some (.int c), some (.ref p), none] ∧ Same H H' ∧ H' p = some (.lst (zs.map V.str)) ∧ Words 7 zs) ?_ ?_
  · have w6 : Words 6 (zs ++ hs.map fun h => Str.ofString (toString h)) := by
      refine ⟨?_, fun y hy => ?_⟩
      · rw [List.length_append, List.length_map]; omega
      · rcases List.mem_append.mp hy with q1 | q1
        · exact hz.2 y q1
        · obtain ⟨n, hn, rfl⟩ := List.mem_map.mp q1
          exact Nat.le_trans (txt_len (hh n hn)) (by decide)
    have sm3 : Same H (upd H2 p (.lst (zs.map V.str ++ (hs.map fun h => Str.ofString (toString h)).map V.str))) := Same.mut (sm.trans sm2) np0
    acc_peel
    refine i_dec (fun _ => ?_) (fun _ => ?_)
    · acc_peel
      refine ⟨_, rfl, sz ?_, ?_⟩
      · rw [str_app_len]; decide
      refine e_fmtS ?_
      acc_peel
      refine Or.inr ⟨c, rfl, log_small hc, ?_⟩
      have lc := txt_len hc
      refine ⟨_, rfl, sz ?_, ?_⟩
      · show (_ ++ Str.ofString (toString c)).length ≤ _
        rw [str_app_len, str_app_len]
        have : (Str.empty : Str).length = 0 := by decide
        have : (Str.ofString "count ").length = 6 := by decide
        omega
      acc_peel
      have h3 : upd H2 p (.lst (zs.map V.str ++ (hs.map fun h => Str.ofString (toString h)).map V.str)) p = some (.lst ((zs ++ hs.map fun h => Str.ofString (toString h)).map V.str)) := by rw [upd_same, List.map_append]
      refine r_app h3 (szl (by rw [List.length_map]; exact Nat.le_trans w6.1 (by decide))) ?_
      refine ⟨(zs ++ hs.map fun h => Str.ofString (toString h)) ++ [((Str.empty ++ Str.ofString "count ") ++ Str.ofString (toString c))], rfl, ?_, ?_, w6.snoc ?_⟩
      · rw [upd_upd]; exact Same.mut (sm.trans sm2) np0
      · rw [upd_same, map_snoc]
      · rw [str_app_len, str_app_len]
        have : (Str.empty : Str).length = 0 := by decide
        have : (Str.ofString "count ").length = 6 := by decide
        omega
    · acc_peel
      exact ⟨zs ++ hs.map fun h => Str.ofString (toString h), rfl, sm3, by rw [upd_same, List.map_append], w6.mono (by decide)⟩
  rintro σ H3 ⟨ws, rfl, sm3, h3, hw⟩
  acc_peel
  have s1 := sum_le hw.2
  have : ws.length ≤ 7 := hw.1
  have e1 : (Str.ofString " ").length = 1 := by decide
  have s2 : (ws.map (·.length)).sum + ws.length * (Str.ofString " ").length ≤ 1000 := by rw [e1]; omega
  refine ⟨_, p, ws, rfl, rfl, Or.inl (SqL.at h3), Nat.le_trans s2 (by decide), ?_⟩
  refine q H3 _ sm3 ?_
  rw [TL.join_eq]
  exact Nat.le_trans (join_len _ _) s2

/-! ### the classes -/
theorem lk_same {f : Str} {v : V} {fs : List (Str × V)} : (putF f v fs).lookup f = some v := by rw [lookup_putF, if_pos rfl]
theorem lk_ne {f g : Str} {v : V} {fs : List (Str × V)} {u : Option V} (n : ¬ g = f) (h : fs.lookup g = u) : (putF f v fs).lookup g = u := by rw [lookup_putF, if_neg n]; exact h
theorem pl {f : Str} {v : V} {fs : List (Str × V)} {n : Nat} (h : fs.length ≤ n) : (putF f v fs).length ≤ n + 1 := Nat.le_trans (length_putF f v fs) (Nat.succ_le_succ h)
theorem lt1000 {n : Nat} (h : n ≤ 500) : n < 1000 := Nat.lt_of_le_of_lt h (by decide)
theorem len_Standing___init__ {K : PySem.W.Frag} {vs : List V} {H : Hp} {Q : VK} {E : XK} (h : sp_Standing___init__ K vs H Q E) : vs.length = P_Standing___init__.length := by
  obtain ⟨p, dx, u, r, rfl, _⟩ := h; rfl
theorem pure_Standing___init__ {K : PySem.W.Frag} (F : KF K) (vs : List V) (H : Hp) (Q : VK) (E : XK) (h : sp_Standing___init__ K vs H Q E) : r_Standing___init__ K { nx := fun _ H' => Q .non H', rt := Q } (start N_Standing___init__ vs) H := by
  obtain ⟨p, dx, u, r, rfl, hp, hu, hyx, hj, ha, hl, hc, sh, sc, sx, sy, q⟩ := h
  unfold r_Standing___init__
  refine s_cut (fun σ H' => σ = [some (.ref p), some (.bl r.b), some (.int r.x), some (.int r.y), some (.ref u), some (.int r.c), none] ∧ H = H') ?_ ?_
  · acc_peel
    refine i_dec (fun z => absurd z (by omega)) (fun _ => ?_)
    acc_peel
    refine i_b (fun hb => ?_) (fun _ => ?_)
    · acc_peel
      refine i_ndec (fun z => absurd (hj hb) z) (fun _ => ?_)
      acc_peel
      exact ⟨rfl, rfl⟩
    · acc_peel
      exact ⟨rfl, rfl⟩
  rintro σ H' ⟨rfl, rfl⟩
  acc_peel
  refine ⟨u, _, _, rfl, hu, ha, hl, hc, ?_⟩
  acc_peel
  have nup : u ≠ p := ne_of hu hp (by intro z; cases z)
  refine ⟨p, _, dx, _, rfl, hp, F.iS.cl, F.naS _ (by simp), (by decide), ?_⟩
  acc_peel
  refine ⟨p, _, dx, _, rfl, upd_same, F.iS.cl, F.naS _ (by simp), lt1000 (Nat.le_trans (pl (n := 0) (Nat.le_refl _)) (by decide)), ?_⟩
  rw [upd_upd]
  acc_peel
  refine ⟨p, _, dx, _, rfl, upd_same, F.iS.cl, F.naS _ (by simp), lt1000 (Nat.le_trans (pl (pl (n := 0) (Nat.le_refl _))) (by decide)), ?_⟩
  rw [upd_upd]
  acc_peel
  refine ⟨p, _, dx, _, rfl, upd_same, F.iS.cl, F.naS _ (by simp), lt1000 (Nat.le_trans (pl (pl (pl (n := 0) (Nat.le_refl _)))) (by decide)), ?_⟩
  rw [upd_upd]
  acc_peel
  refine ⟨p, _, dx, _, rfl, upd_same, F.iS.cl, F.naS _ (by simp), lt1000 (Nat.le_trans (pl (pl (pl (pl (n := 0) (Nat.le_refl _))))) (by decide)), ?_⟩
  rw [upd_upd]
  refine s_cut (fun σ H' => ∃ wd : Str, σ = [some (.ref p), some (.bl r.b), some (.int r.x), some (.int r.y), some (.ref u), some (.int r.c), some (.str wd)] ∧ wd.length ≤ 20 ∧
    upd H p (.ins (CS K) dx (putF "count" (.int r.c) (putF "heights" (.ref u) (putF "y" (.int r.y) (putF "x" (.int r.x) (putF "together" (.bl r.b) [])))))) = H') ?_ ?_
  · acc_peel
    refine i_b (fun _ => ?_) (fun _ => ?_)
    · acc_peel
      exact ⟨_, rfl, by decide, rfl⟩
    · acc_peel
      exact ⟨_, rfl, by decide, rfl⟩
  rintro σ H' ⟨wd, rfl, hwd, rfl⟩
  have d1 : ¬ ("heights" : Str) = "count" := by decide +kernel
  generalize hf5 : (putF "count" (.int r.c) (putF "heights" (.ref u) (putF "y" (.int r.y) (putF "x" (.int r.x) (putF "together" (.bl r.b) []))))) = f5
  have lh : f5.lookup ("heights" : Str) = some (.ref u) := by rw [← hf5]; exact lk_ne d1 lk_same
  have e1 : (Str.ofString " ").length = 1 := by decide
  have e0 : (Str.empty : Str).length = 0 := by decide
  have ex := txt_len sx
  have ey := txt_len sy
  have hp1 : upd H p (.ins (CS K) dx f5) p = some (.ins (CS K) dx f5) := upd_same
  have hu1 : upd H p (.ins (CS K) dx f5) u = some (.tup (r.hs.map V.int)) := upd_at nup hu
  acc_peel
  refine e_fmtS ?_
  acc_peel
  refine Or.inl ⟨wd, rfl, sz (by omega), ?_⟩
  refine ⟨_, rfl, sz (by rw [str_app_len]; omega), ?_⟩
  acc_peel
  refine ⟨_, rfl, sz (by rw [str_app_len, str_app_len]; omega), ?_⟩
  acc_peel
  refine e_fmtS ?_
  acc_peel
  refine Or.inr ⟨_, rfl, log_small sx, ?_⟩
  refine ⟨_, rfl, sz ?_, ?_⟩
  · show (_ ++ Str.ofString (toString r.x)).length ≤ _
    rw [str_app_len, str_app_len, str_app_len]; omega
  acc_peel
  refine ⟨_, rfl, sz ?_, ?_⟩
  · show ((_ ++ Str.ofString (toString r.x)) ++ _).length ≤ _
    rw [str_app_len, str_app_len, str_app_len, str_app_len]; omega
  acc_peel
  refine e_fmtS ?_
  acc_peel
  refine Or.inr ⟨_, rfl, log_small sy, ?_⟩
  refine ⟨_, rfl, sz ?_, ?_⟩
  · show ((((_ ++ Str.ofString (toString r.x)) ++ _) ++ Str.ofString (toString r.y)) : Str).length ≤ _
    rw [str_app_len, str_app_len, str_app_len, str_app_len, str_app_len]; omega
  acc_peel
  refine e_fmtS ?_
  acc_peel
  refine ⟨p, _, dx, _, _, rfl, hp1, F.iS.cl, F.naS _ (by simp), lh, ?_⟩
  acc_peel
  refine ⟨u, r.hs, r.c, rfl, hu1, hl, sh, sc, fun H2 z sm hz => ?_⟩
  refine Or.inl ⟨z, rfl, sz (by omega), ?_⟩
  refine ⟨_, rfl, sz ?_, ?_⟩
  · show (((((_ ++ Str.ofString (toString r.x)) ++ _) ++ Str.ofString (toString r.y)) ++ z) : Str).length ≤ _
    rw [str_app_len, str_app_len, str_app_len, str_app_len, str_app_len, str_app_len]; omega
  acc_peel
  have l5 : f5.length ≤ 5 := by rw [← hf5]; exact pl (pl (pl (pl (pl (Nat.le_refl 0)))))
  refine ⟨p, _, dx, _, rfl, sm _ _ hp1, F.iS.cl, F.naS _ (by simp), lt1000 (Nat.le_trans l5 (by decide)), ?_⟩
  refine q _ (fun b o n e => by rw [upd_ne n]; exact sm _ _ (upd_at n e)) ?_
  have k1 : ∀ {g : Str} {v : V}, f5.lookup g = some v → ¬ g = "text" → ∀ {t : V}, (putF "text" t f5).lookup g = some v := fun h n _ => lk_ne n h
  refine ⟨dx, _, u, upd_same, k1 ?_ (by decide +kernel), k1 ?_ (by decide +kernel), k1 ?_ (by decide +kernel), k1 lh (by decide +kernel), k1 ?_ (by decide +kernel), ?_⟩
  · rw [← hf5]; exact lk_ne (by decide +kernel) (lk_ne (by decide +kernel) (lk_ne (by decide +kernel) (lk_ne (by decide +kernel) lk_same)))
  · rw [← hf5]; exact lk_ne (by decide +kernel) (lk_ne (by decide +kernel) (lk_ne (by decide +kernel) lk_same))
  · rw [← hf5]; exact lk_ne (by decide +kernel) (lk_ne (by decide +kernel) lk_same)
  · rw [← hf5]; exact lk_same
  · exact upd_at nup (sm _ _ hu1)
theorem len_Way___init__ {K : PySem.W.Frag} {vs : List V} {H : Hp} {Q : VK} {E : XK} (h : sp_Way___init__ K vs H Q E) : vs.length = P_Way___init__.length := by
  obtain ⟨p, dx, u, x, hs, c, rfl, _⟩ := h; rfl
theorem pure_Way___init__ {K : PySem.W.Frag} (F : KF K) (vs : List V) (H : Hp) (Q : VK) (E : XK) (h : sp_Way___init__ K vs H Q E) : r_Way___init__ K { nx := fun _ H' => Q .non H', rt := Q } (start N_Way___init__ vs) H := by
  obtain ⟨p, dx, u, x, hs, c, rfl, hp, hu, ha, hl, hc, sh, sc, sx, q⟩ := h
  unfold r_Way___init__
  acc_peel
  refine ⟨u, _, _, rfl, hu, ha, hl, hc, ?_⟩
  acc_peel
  have nup : u ≠ p := ne_of hu hp (by intro z; cases z)
  refine ⟨p, _, dx, _, rfl, hp, F.iW.cl, F.naW _ (by simp), (by decide), ?_⟩
  acc_peel
  refine ⟨p, _, dx, _, rfl, upd_same, F.iW.cl, F.naW _ (by simp), lt1000 (Nat.le_trans (pl (n := 0) (Nat.le_refl _)) (by decide)), ?_⟩
  rw [upd_upd]
  acc_peel
  refine ⟨p, _, dx, _, rfl, upd_same, F.iW.cl, F.naW _ (by simp), lt1000 (Nat.le_trans (pl (pl (n := 0) (Nat.le_refl _))) (by decide)), ?_⟩
  rw [upd_upd]
  have d1 : ¬ ("heights" : Str) = "count" := by decide +kernel
  generalize hf5 : (putF "count" (.int c) (putF "heights" (.ref u) (putF "x" (.int x) []))) = f5
  have lh : f5.lookup ("heights" : Str) = some (.ref u) := by rw [← hf5]; exact lk_ne d1 lk_same
  have e1 : (Str.ofString "way ").length = 4 := by decide
  have e0 : (Str.empty : Str).length = 0 := by decide
  have ex := txt_len sx
  have hp1 : upd H p (.ins (CW K) dx f5) p = some (.ins (CW K) dx f5) := upd_same
  have hu1 : upd H p (.ins (CW K) dx f5) u = some (.tup (hs.map V.int)) := upd_at nup hu
  acc_peel
  refine ⟨_, rfl, sz (by rw [str_app_len]; omega), ?_⟩
  acc_peel
  refine e_fmtS ?_
  acc_peel
  refine Or.inr ⟨_, rfl, log_small sx, ?_⟩
  refine ⟨_, rfl, sz ?_, ?_⟩
  · show (_ ++ Str.ofString (toString x)).length ≤ _
    rw [str_app_len, str_app_len]; omega
  acc_peel
  refine e_fmtS ?_
  acc_peel
  refine ⟨p, _, dx, _, _, rfl, hp1, F.iW.cl, F.naW _ (by simp), lh, ?_⟩
  acc_peel
  refine ⟨u, hs, c, rfl, hu1, hl, sh, sc, fun H2 z sm hz => ?_⟩
  refine Or.inl ⟨z, rfl, sz (by omega), ?_⟩
  refine ⟨_, rfl, sz ?_, ?_⟩
  · show ((_ ++ Str.ofString (toString x)) ++ z : Str).length ≤ _
    rw [str_app_len, str_app_len, str_app_len]; omega
  acc_peel
  have l5 : f5.length ≤ 3 := by rw [← hf5]; exact pl (pl (pl (Nat.le_refl 0)))
  refine ⟨p, _, dx, _, rfl, sm _ _ hp1, F.iW.cl, F.naW _ (by simp), lt1000 (Nat.le_trans l5 (by decide)), ?_⟩
  refine q _ (fun b o n e => by rw [upd_ne n]; exact sm _ _ (upd_at n e)) ?_
  have k1 : ∀ {g : Str} {v : V}, f5.lookup g = some v → ¬ g = "text" → ∀ {t : V}, (putF "text" t f5).lookup g = some v := fun h n _ => lk_ne n h
  refine ⟨dx, _, u, upd_same, k1 ?_ (by decide +kernel), k1 lh (by decide +kernel), k1 ?_ (by decide +kernel), ?_⟩
  · rw [← hf5]; exact lk_ne (by decide +kernel) (lk_ne (by decide +kernel) lk_same)
  · rw [← hf5]; exact lk_same
  · exact upd_at nup (sm _ _ hu1)
/-! row_of, covers -/
theorem len_row_of {K : PySem.W.Frag} {vs : List V} {H : Hp} {Q : VK} {E : XK} (h : sp_row_of K vs H Q E) : vs.length = P_row_of.length := by
  obtain ⟨p, r, rfl, _⟩ := h; rfl
theorem pure_row_of {K : PySem.W.Frag} (F : KF K) (vs : List V) (H : Hp) (Q : VK) (E : XK) (h : sp_row_of K vs H Q E) : r_row_of K { nx := fun _ H' => Q .non H', rt := Q } (start N_row_of vs) H := by
  obtain ⟨p, r, rfl, hm, q⟩ := h
  unfold r_row_of
  acc_peel
  rcases hm with ⟨dx, fs, u, hp, l1, l2, l3, l4, l5, hu⟩ | ⟨x, hs, c, ⟨dx, fs, u, hp, l2, l4, l5, hu⟩, rfl⟩
  · refine x_isi (ClsV.own _) (TyX.base (TyOf.ins hp F.iS.cl F.iS.ha F.iS.hn F.iS.htk F.iS.hm)) F.sw ?_
    acc_peel
    refine ⟨p, _, dx, _, _, rfl, hp, F.iS.cl, F.naS _ (by simp), l1, ?_⟩
    acc_peel
    refine ⟨p, _, dx, _, _, rfl, hp, F.iS.cl, F.naS _ (by simp), l2, ?_⟩
    acc_peel
    refine ⟨p, _, dx, _, _, rfl, hp, F.iS.cl, F.naS _ (by simp), l3, ?_⟩
    acc_peel
    refine ⟨p, _, dx, _, _, rfl, hp, F.iS.cl, F.naS _ (by simp), l4, ?_⟩
    acc_peel
    refine ⟨p, _, dx, _, _, rfl, hp, F.iS.cl, F.naS _ (by simp), l5, ?_⟩
    acc_peel
    refine ⟨sz (by show 5 ≤ 100000; decide), fun t ht => ?_⟩
    exact q _ t (Same.new (Same.refl H) ht) ⟨u, upd_same, upd_at (ne_of_none hu ht) hu⟩
  · refine x_isi (ClsV.own _) (TyX.base (TyOf.ins hp F.iW.cl F.iW.ha F.iW.hn F.iW.htk F.iW.hm)) F.iW.me ?_
    acc_peel
    refine ⟨p, _, dx, _, _, rfl, hp, F.iW.cl, F.naW _ (by simp), l2, ?_⟩
    acc_peel
    refine ⟨p, _, dx, _, _, rfl, hp, F.iW.cl, F.naW _ (by simp), l2, ?_⟩
    acc_peel
    refine ⟨p, _, dx, _, _, rfl, hp, F.iW.cl, F.naW _ (by simp), l4, ?_⟩
    acc_peel
    refine ⟨p, _, dx, _, _, rfl, hp, F.iW.cl, F.naW _ (by simp), l5, ?_⟩
    acc_peel
    refine ⟨sz (by show 5 ≤ 100000; decide), fun t ht => ?_⟩
    exact q _ t (Same.new (Same.refl H) ht) ⟨u, upd_same, upd_at (ne_of_none hu ht) hu⟩
theorem MemAt.mono {K : PySem.W.Frag} {H H' : Hp} {p : Addr} {r : Row} (h : MemAt K H p r) (s : Same H H') : MemAt K H' p r := by
  rcases h with ⟨dx, fs, u, hp, l1, l2, l3, l4, l5, hu⟩ | ⟨x, hs, c, ⟨dx, fs, u, hp, l2, l4, l5, hu⟩, e⟩
  · exact .inl ⟨dx, fs, u, s _ _ hp, l1, l2, l3, l4, l5, s _ _ hu⟩
  · exact .inr ⟨x, hs, c, ⟨dx, fs, u, s _ _ hp, l2, l4, l5, s _ _ hu⟩, e⟩
theorem RowAt.mono {H H' : Hp} {p : Addr} {r : Row} (h : RowAt H p r) (s : Same H H') : RowAt H' p r := by
  obtain ⟨u, h1, h2⟩ := h; exact ⟨u, s _ _ h1, s _ _ h2⟩
theorem len_covers {K : PySem.W.Frag} {vs : List V} {H : Hp} {Q : VK} {E : XK} (h : sp_covers K vs H Q E) : vs.length = P_covers.length := by
  obtain ⟨p, t, a, b, rfl, _⟩ := h; rfl
theorem pure_covers {K : PySem.W.Frag} (vs : List V) (H : Hp) (Q : VK) (E : XK) (h : sp_covers K vs H Q E) : r_covers K { nx := fun _ H' => Q .non H', rt := Q } (start N_covers vs) H := by
  obtain ⟨p, t, a, b, rfl, ha, hb, q⟩ := h
  unfold r_covers
  acc_peel
  refine ⟨p, a, rfl, ha, fun H1 s sm1 r1 => ?_⟩
  acc_peel
  refine ⟨t, b, rfl, hb.mono sm1, fun H2 w sm2 r2 => ?_⟩
  acc_peel
  exact ⟨s, w, a, b, rfl, r1.mono sm2, r2, fun H3 sm3 => q H3 ((sm1.trans sm2).trans sm3)⟩

/-! ### what is drawn -/
theorem cut_map (ns : List Int) (lo hi : Option Int) : ∃ ms : List Int, cutV (ns.map V.int) lo hi = ms.map V.int ∧ ms.length ≤ ns.length := by
  unfold cutV
  rw [← List.map_drop, ← List.map_take]
  refine ⟨_, rfl, ?_⟩
  rw [List.length_take, List.length_drop]; omega
theorem len__law_bag {K : PySem.W.Frag} {vs : List V} {H : Hp} {Q : VK} {E : XK} (h : sp__law_bag K vs H Q E) : vs.length = P__law_bag.length := by
  obtain ⟨s, ns, rfl, _⟩ := h; rfl
theorem emod_range {x m : Int} (h : 0 < m) : 0 ≤ x % m ∧ x % m < m := ⟨Int.emod_nonneg _ (by omega), Int.emod_lt_of_pos _ h⟩
theorem pure__law_bag {K : PySem.W.Frag} (vs : List V) (H : Hp) (Q : VK) (E : XK) (h : sp__law_bag K vs H Q E) : r__law_bag K { nx := fun _ H' => Q .non H', rt := Q } (start N__law_bag vs) H := by
  obtain ⟨s, ns, rfl, hs, hl, q⟩ := h
  unfold r__law_bag
  acc_peel
  refine s_for ?_
  refine i_list ?_
  acc_peel
  refine r_slL hs (fun l hl0 => ?_)
  obtain ⟨ms, em, hms⟩ := cut_map ns none (some 63)
  rw [em]
  have sm0 : Same H (upd H l (.lst (ms.map V.int))) := Same.new (Same.refl H) hl0
  refine ⟨l, rfl, ⟨_, SqL.at upd_same⟩, for_list (K := K) (a := l) (xs := ms.map V.int) (fun i σ H' => upd H l (.lst (ms.map V.int)) = H' ∧ ∃ (b : Int) (v : Option V), σ = [some (.ref s), some (.int b), v] ∧ 0 ≤ b ∧ b < 2147483648)
    ⟨rfl, 902137, none, rfl, by decide, by decide⟩ (fun i σ H' _ h => by rw [← h.1]; exact SqL.at upd_same) ?_ ?_⟩
  · rintro i x σ H' hx ⟨rfl, b, v, rfl, b0, b1⟩
    obtain ⟨n, rfl, hn⟩ := mapI_get hx
    acc_peel
    refine r_times (Or.inr (by decide)) ?_
    acc_peel
    refine r_mod (by decide) ?_
    acc_peel
    refine r_mod (by decide) ?_
    acc_peel
    have e := emod_range (x := b * 69061 + n % 2147483587 + 733) (m := 2147483629) (by decide)
    exact ⟨rfl, _, _, rfl, e.1, by omega⟩
  · rintro σ H' ⟨rfl, b, v, rfl, b0, b1⟩
    acc_peel
    refine r_slL (SqL.mono hs sm0) (fun l2 hl2 => ?_)
    rw [em]
    acc_peel
    refine b_listL (SqL.at upd_same) (fun l3 hl3 => ?_)
    acc_peel
    refine ⟨sz (by show 5 ≤ 100000; decide), fun a ha => ?_⟩
    have n2 : l3 ≠ l2 := fun e => by rw [e, upd_same] at hl3; cases hl3
    have na3 : l3 ≠ a := fun e => by rw [← e, upd_same] at ha; cases ha
    have na2 : l2 ≠ a := fun e => by rw [← e, upd_ne n2.symm, upd_same] at ha; cases ha
    have nl2 : l ≠ l2 := fun e => by rw [← e, upd_same] at hl2; cases hl2
    have sm1 := Same.new (o := .lst (ms.map V.int)) sm0 hl2
    have sm2 := Same.new (o := .lst (ms.map V.int)) sm1 hl3
    refine q _ a l3 (sm2.free ha) (Same.new sm2 ha) ⟨ms, 0, 0, b, 0, upd_same, na3, upd_at na3 upd_same, by decide, by decide, b0, b1⟩

theorem len__law_draw {K : PySem.W.Frag} {vs : List V} {H : Hp} {Q : VK} {E : XK} (h : sp__law_draw K vs H Q E) : vs.length = P__law_draw.length := by
  obtain ⟨a, c, L, rfl, _⟩ := h; rfl
theorem pure__law_draw {K : PySem.W.Frag} (vs : List V) (H : Hp) (Q : VK) (E : XK) (h : sp__law_draw K vs H Q E) : r__law_draw K { nx := fun _ H' => Q .non H', rt := Q } (start N__law_draw vs) H := by
  obtain ⟨a, c, L, rfl, ⟨cs, i, r, m, n, ha, nc, hc, i0, r0, m0, m1⟩, L0, L1, q⟩ := h
  unfold r__law_draw
  acc_peel
  refine s_cut (fun σ H' => ∃ v : Option V, σ = [some (.ref a), some (.int L), v, none, none] ∧ Sb a H H' ∧ BagAt a c H') ?_ ?_
  · acc_peel
    refine i_dec (fun hr => ?_) (fun hr => ?_)
    · acc_peel
      rw [List.length_map]
      refine i_dec (fun hi => ?_) (fun hi => ?_)
      · acc_peel
        have hlt : i.toNat < cs.length := by omega
        refine r_ixL (SqL.at (upd_at nc hc)) i0 (v := V.int (cs[i.toNat]'hlt)) (by rw [List.getElem?_map, List.getElem?_eq_getElem hlt]; rfl) ?_
        generalize (cs[i.toNat]'hlt) = w
        acc_peel
        refine r_pow (by unfold CPow; decide) ?_
        acc_peel
        refine i_dec (fun hw => ?_) (fun hw => ?_)
        · acc_peel
          refine ⟨_, rfl, Sb.own (Sb.own (Sb.own (Sb.refl a H))), cs, i + 1, w, m, n + 1, upd_same, nc, by apart_at, by omega, ?_, m0, m1⟩
          exact Int.le_trans (by decide) hw
        · acc_peel
          refine r_times (Or.inr (by decide)) ?_
          acc_peel
          refine r_mod (by decide) ?_
          acc_peel
          refine r_times (Or.inr (by decide)) ?_
          acc_peel
          refine r_mod (by decide) ?_
          acc_peel
          have e := emod_range (x := m * 40493 + w % 2147483563 * 30011 + 911) (m := 2147483629) (by decide)
          exact ⟨_, rfl, Sb.own (Sb.own (Sb.own (Sb.refl a H))), cs, i + 1, r, _, n + 1, upd_same, nc, by apart_at, by omega, r0, e.1, by omega⟩
      · acc_peel
        exact ⟨_, rfl, Sb.own (Sb.refl a H), cs, i, r, m, n + 1, upd_same, nc, by apart_at, i0, r0, m0, m1⟩
    · acc_peel
      exact ⟨_, rfl, Sb.own (Sb.refl a H), cs, i, r, m, n + 1, upd_same, nc, by apart_at, i0, r0, m0, m1⟩
  clear hc ha m0 m1 i0 r0 nc
  clear cs i r m n
  rintro σ H1 ⟨v, rfl, sb, cs, i, r, m, n, ha, nc, hc, i0, r0, m0, m1⟩
  acc_peel
  refine i_dec (fun hr => ?_) (fun hr => ?_)
  · acc_peel
    refine r_mod L0 ?_
    acc_peel
    refine r_fdiv ⟨by omega, by omega⟩ ?_
    acc_peel
    have e := emod_range (x := r) (m := L) L0
    refine q _ _ (Sb.own sb) ⟨cs, i, r.fdiv L, m, n, upd_same, nc, by apart_at, i0, ?_, m0, m1⟩ e.1 e.2
    rw [Int.fdiv_eq_ediv_of_nonneg _ (by omega)]
    exact Int.ediv_nonneg r0 (by omega)
  acc_peel
  refine r_pow (by unfold CPow; exact ⟨by decide, by decide, by omega⟩) ?_
  acc_peel
  refine r_times (Or.inr (by decide)) ?_
  acc_peel
  refine r_times (Or.inr (by decide)) ?_
  acc_peel
  refine r_mod (by decide) ?_
  acc_peel
  generalize hm : (m ^ (3 : Int).toNat + m * 52057 + n * 1300049 + 70117) % 2147483629 = m2
  have e2 := emod_range (x := m ^ (3 : Int).toNat + m * 52057 + n * 1300049 + 70117) (m := 2147483629) (by decide)
  rw [hm] at e2
  refine r_fdiv ⟨by decide, by decide⟩ ?_
  acc_peel
  refine r_mod (by decide) ?_
  acc_peel
  refine r_times (Or.inr (by decide)) ?_
  acc_peel
  refine r_mod L0 ?_
  have e := emod_range (x := m2.fdiv 97 + m2 % 8191 * 61) (m := L) L0
  exact q _ _ (Sb.own sb) ⟨cs, i, r, m2, n, upd_same, nc, by apart_at, i0, r0, e2.1, by omega⟩ e.1 e.2

theorem len__law_of {K : PySem.W.Frag} {vs : List V} {H : Hp} {Q : VK} {E : XK} (h : sp__law_of K vs H Q E) : vs.length = P__law_of.length := by
  obtain ⟨a, c, t, xs, rfl, _⟩ := h; rfl
theorem pure__law_of {K : PySem.W.Frag} (vs : List V) (H : Hp) (Q : VK) (E : XK) (h : sp__law_of K vs H Q E) : r__law_of K { nx := fun _ H' => Q .non H', rt := Q } (start N__law_of vs) H := by
  obtain ⟨a, c, t, xs, rfl, hb, nt, ht, hne, hl, q⟩ := h
  unfold r__law_of
  acc_peel
  have : xs.length ≠ 0 := fun e => hne (List.eq_nil_of_length_eq_zero e)
  refine ⟨a, c, _, rfl, hb, by omega, by omega, fun H1 d sb hb1 d0 d1 => ?_⟩
  acc_peel
  have hlt : d.toNat < xs.length := by omega
  refine r_ixL (SqL.at (sb _ _ nt ht)) d0 (List.getElem?_eq_getElem hlt) ?_
  exact q _ _ sb hb1 (List.getElem_mem hlt)
theorem len__law_mixed {K : PySem.W.Frag} {vs : List V} {H : Hp} {Q : VK} {E : XK} (h : sp__law_mixed K vs H Q E) : vs.length = P__law_mixed.length := by
  obtain ⟨a, c, t, xs, rfl, _⟩ := h; rfl
theorem pure__law_mixed {K : PySem.W.Frag} (vs : List V) (H : Hp) (Q : VK) (E : XK) (h : sp__law_mixed K vs H Q E) : r__law_mixed K { nx := fun _ H' => Q .non H', rt := Q } (start N__law_mixed vs) H := by
  obtain ⟨a, c, t, xs, rfl, hb, nt, ht, hl, q⟩ := h
  unfold r__law_mixed
  acc_peel
  refine b_listL (SqL.at ht) (fun l hl0 => ?_)
  acc_peel
  refine ⟨sz (by decide), fun p hp => ?_⟩
  have nlp : l ≠ p := fun e => by rw [← e, upd_same] at hp; cases hp
  have nla : l ≠ a := ne_bag hb hl0
  have hp0 : H p = none := (Same.new (Same.refl H) hl0).free hp
  have npa : p ≠ a := ne_bag hb hp0
  acc_peel
  refine s_for ?_
  refine i_rng1 ?_
  acc_peel
  have ntl : t ≠ l := ne_of_none ht hl0
  have ntp : t ≠ p := ne_of_none ht hp0
  have hs0 : Sb a H (upd (upd H l (.lst xs)) p (.lst [])) := Sb.new (Sb.new (Sb.refl a H) hl0) hp
  have hb0 : BagAt a c (upd (upd H l (.lst xs)) p (.lst [])) := BagAt.new (BagAt.new hb hl0) hp
  refine ⟨_, rfl, by omega, by omega, for_range (lo := 0) (n := (xs.length : Int).toNat) (fun i σ H' => ∃ (left told : List V) (v : Option V), σ = [some (.ref a), some (.ref t), some (.ref l), some (.ref p), v] ∧ Sb a H H' ∧ BagAt a c H' ∧ H' l = some (.lst left) ∧ H' p = some (.lst told) ∧
    left.length + i = xs.length ∧ told.length = i ∧ (∀ y ∈ left, y ∈ xs) ∧ (∀ y ∈ told, y ∈ xs)) ⟨xs, [], none, rfl, hs0, hb0, upd_at nlp upd_same, upd_same, rfl, rfl, fun _ h => h, fun _ h => by cases h⟩ ?_ ?_⟩
  · rintro i σ H1 hi ⟨left, told, v, rfl, sb, hb1, h1, h2, e1, e2, m1, m2⟩
    acc_peel
    refine ⟨a, c, _, rfl, hb1, by omega, by omega, fun H2 d sb2 hb2 d0 d1 => ?_⟩
    acc_peel
    have h1' := sb2 _ _ nla h1
    have h2' := sb2 _ _ npa h2
    have hlt : d.toNat < left.length := by omega
    have hk : seqIndex? d left.length = some d.toNat := (ixN_seq (ixN_nn d0 rfl hlt)).1
    refine r_popAt h1' (by omega) (by omega) hk (List.getElem?_eq_getElem hlt) ?_
    acc_peel
    refine r_app (upd_at nlp.symm h2') (szl (by omega)) ?_
    refine ⟨left.eraseIdx d.toNat, told ++ [left[d.toNat]], _, rfl, ?_, ?_, upd_at nlp upd_same, upd_same, ?_, ?_, ?_, ?_⟩
    · refine fun b o n e => ?_
      have := (sb.trans sb2) b o n e
      rw [upd_ne (ne_of_none e hp0), upd_ne (ne_of_none e hl0)]
      exact this
    · exact (hb2.mut (hb.na hl0) (hb.nc hl0)).mut (hb.na hp0) (hb.nc hp0)
    · rw [List.length_eraseIdx_of_lt hlt]; omega
    · rw [List.length_append]; exact congrArg (· + 1) e2
    · exact fun y hy => m1 y (List.mem_of_mem_eraseIdx hy)
    · intro y hy
      rcases List.mem_append.mp hy with h | h
      · exact m2 y h
      · rw [List.mem_singleton.mp h]; exact m1 _ (List.getElem_mem hlt)
  · rintro σ H1 ⟨left, told, v, rfl, sb, hb1, h1, h2, e1, e2, m1, m2⟩
    acc_peel
    exact q H1 p told hp0 sb hb1 h2 (by omega) m2

/-! ### the law's own reckoning -/
theorem len__law_int {K : PySem.W.Frag} {vs : List V} {H : Hp} {Q : VK} {E : XK} (h : sp__law_int K vs H Q E) : vs.length = P__law_int.length := by
  obtain ⟨i, rfl, _⟩ := h; rfl
theorem pure__law_int {K : PySem.W.Frag} (vs : List V) (H : Hp) (Q : VK) (E : XK) (h : sp__law_int K vs H Q E) : r__law_int K { nx := fun _ H' => Q .non H', rt := Q } (start N__law_int vs) H := by
  obtain ⟨i, rfl, q⟩ := h
  unfold r__law_int
  acc_peel
  refine x_isi (ClsV.ty "int") (TyX.base (TyOf.int i)) rfl ?_
  acc_peel
  refine x_isi (ClsV.ty "bool") (TyX.base (TyOf.int i)) (d := false) rfl ?_
  acc_peel
  exact q
theorem len__law_thing {K : PySem.W.Frag} {vs : List V} {H : Hp} {Q : VK} {E : XK} (h : sp__law_thing K vs H Q E) : vs.length = P__law_thing.length := by
  obtain ⟨t, p, rfl, _⟩ := h; rfl
theorem asc_nonneg : ∀ {hs : List Int} {l : Int}, asc l hs → ∀ h ∈ hs, l ≤ h
  | _ :: _, _, a, _, .head _ => a.1
  | _ :: _, _, a, _, .tail _ m => Int.le_trans a.1 (asc_nonneg a.2 _ m)
theorem small_of {n B : Int} (h0 : -B ≤ n) (h1 : n ≤ B) (hB : B ≤ 1000000000000) : Small n := by unfold Small; omega
theorem pure__law_thing {K : PySem.W.Frag} (vs : List V) (H : Hp) (Q : VK) (E : XK) (h : sp__law_thing K vs H Q E) : r__law_thing K { nx := fun _ H' => Q .non H', rt := Q } (start N__law_thing vs) H := by
  obtain ⟨t, p, rfl, ⟨u, ht, hu⟩, g, f, q⟩ := h
  unfold r__law_thing
  acc_peel
  refine e_make ?_
  acc_peel
  intro x dx hx hdx hne
  have nux : u ≠ x := ne_of_none hu hx
  have nud : u ≠ dx := ne_of_none hu hdx
  refine ⟨x, dx, u, p.row, rfl, upd_same, upd_at nux (upd_at nud hu), g.yx, fun z => g.jx (of_decide_eq_true z), g.up, g.len, g.c0, fun h hh => ?_, ?_, ?_, ?_, fun H' sb st => ⟨rfl, ?_⟩⟩
  · exact small_of (by have := asc_nonneg g.up h hh; omega) (f.hh h hh) (Int.le_refl _)
  · exact small_of (by have := g.c0; show _ ≤ p.c; omega) f.cc (Int.le_refl _)
  · exact small_of (by have := f.lo; have := g.yx; show _ ≤ p.x; omega) f.hi (Int.le_refl _)
  · exact small_of f.lo (by have := f.hi; have := g.yx; show p.y ≤ _; omega) (Int.le_refl _)
  · refine q H' x (fun b o e => ?_) st
    have n1 : b ≠ x := ne_of_none e hx
    exact sb b o n1 (upd_at n1 (upd_at (ne_of_none e hdx) e))
/-- the greatest of 0 and the differences -/
theorem fold_gap : ∀ (l : List (Int × Int)) (g : Int), (l.foldl gapStep g = g ∨ ∃ p ∈ l, l.foldl gapStep g = p.1 - p.2) ∧ g ≤ l.foldl gapStep g ∧ ∀ p ∈ l, p.1 - p.2 ≤ l.foldl gapStep g
  | [], g => ⟨.inl rfl, Int.le_refl _, fun _ h => nomatch h⟩
  | p :: l, g => by
    obtain ⟨h1, h2, h3⟩ := fold_gap l (gapStep g p)
    have e : (p :: l).foldl gapStep g = l.foldl gapStep (gapStep g p) := rfl
    have s : (gapStep g p = g ∨ gapStep g p = p.1 - p.2) ∧ g ≤ gapStep g p ∧ p.1 - p.2 ≤ gapStep g p := by
      unfold gapStep
      by_cases h : g < p.1 - p.2
      · rw [if_pos h]; exact ⟨.inr rfl, by omega, by omega⟩
      · rw [if_neg h]; exact ⟨.inl rfl, by omega, by omega⟩
    rw [e]
    refine ⟨?_, by omega, fun q hq => ?_⟩
    · rcases h1 with h1 | ⟨q, hq, h1⟩
      · rcases s.1 with z | z
        · exact .inl (h1.trans z)
        · exact .inr ⟨p, .head _, h1.trans z⟩
      · exact .inr ⟨q, .tail _ hq, h1⟩
    · cases hq with
      | head => omega
      | tail _ hq => exact h3 q hq
theorem gap_max {hs ks : List Int} {m : Int} (hm : m ∈ (0 :: (hs.zip ks).map fun p => p.1 - p.2)) (hg : ∀ y, y ∈ (0 :: (hs.zip ks).map fun p => p.1 - p.2) → y ≤ m) : m = gapF hs ks := by
  obtain ⟨h1, h2, h3⟩ := fold_gap (hs.zip ks) 0
  have : gapF hs ks ≤ m := by
    rcases h1 with z | ⟨p, hp, z⟩
    · show List.foldl gapStep 0 (hs.zip ks) ≤ m
      rw [z]; exact hg 0 (.head _)
    · show List.foldl gapStep 0 (hs.zip ks) ≤ m
      rw [z]; exact hg _ (.tail _ (List.mem_map.mpr ⟨p, hp, rfl⟩))
  have : m ≤ gapF hs ks := by
    rcases List.mem_cons.mp hm with z | z
    · rw [z]; exact h2
    · obtain ⟨p, hp, e⟩ := List.mem_map.mp z
      rw [← e]; exact h3 p hp
  omega
theorem zip_take {hs ks : List Int} {i : Nat} {a b : Int} (h1 : hs[i]? = some a) (h2 : ks[i]? = some b) : ((hs.zip ks).take (i + 1)).map (fun p => V.int (p.1 - p.2)) = ((hs.zip ks).take i).map (fun p => V.int (p.1 - p.2)) ++ [V.int (a - b)] := by
  have e : (hs.zip ks)[i]? = some (a, b) := by
    rw [List.getElem?_zip_eq_some]; exact ⟨h1, h2⟩
  rw [List.take_succ, e, List.map_append]; rfl
theorem e_gapmax {K : PySem.W.Frag} {te1 te2 : TE} {o0 o1 o2 o3 o4 : Option V} {H : Hp} {Q : VK} {u w : Addr} {hs ks : List Int} (hu : TupI H u hs) (hw : TupI H w ks) (hl : hs.length = ks.length) (hle : hs.length ≤ 1000)
    (h1 : ∀ H' R, Same H H' → R (.ref u) H' → te1 [o0, o1, o2, o3, o4] H' R) (h2 : ∀ H' R, Same H H' → R (.ref w) H' → te2 [o0, o1, o2, o3, o4] H' R) (q : ∀ H', Same H H' → Q (.int (gapF hs ks)) H') :
    tCB (rMax K) (tCons (tOp rCat (tLst (tCons (tC (.int 0)) tNil)) (tLc (RZ.iZipA K (tCons te1 (tCons te2 tNil))) (gTup K 2 (gCons (gName 3) (gCons (gName 4) gNil))) tYes (tOp rMinus (tVar 3) (tVar 4)) [3, 4])) tNil) [o0, o1, o2, o3, o4] H Q := by
  acc_peel
  refine ⟨sz (by show 1 ≤ 100000; decide), fun l hl0 => ?_⟩
  have sm0 : Same H (upd H l (.lst [.int 0])) := Same.new (Same.refl H) hl0
  refine e_lc ?_
  refine i_zip ?_
  refine a_cons ?_
  refine h1 _ _ sm0 ?_
  refine a_cons ?_
  refine h2 _ _ sm0 ?_
  acc_peel
  have hu1 := sm0 _ _ hu
  have hw1 := sm0 _ _ hw
  refine ⟨u, w, _, _, rfl, Or.inr ⟨SqT.at hu1, SqT.at hw1, fun D hD => lc_it (walk_zipT (n := hs.length) (xs := hs.map V.int) (ys := ks.map V.int) (by rw [List.length_map, List.length_map]; omega))
    (fun i H' => Same (upd H l (.lst [.int 0])) H' ∧ H' D = some (.lst (((hs.zip ks).take i).map fun p => V.int (p.1 - p.2)))) ⟨Same.new (Same.refl _) hD, upd_same⟩ (fun i H' _ h => ⟨SqT.at (h.1 _ _ hu1), SqT.at (h.1 _ _ hw1)⟩) ?_ ?_⟩⟩
  · rintro i x H1 H2 hi ⟨sm, hD1⟩ ⟨T, x1, x2, rfl, hT, rfl, e1, e2⟩
    obtain ⟨a, rfl, ha⟩ := mapI_get e1
    obtain ⟨b, rfl, hb⟩ := mapI_get e2
    refine g_tup (SqT.at upd_same) rfl ?_
    acc_peel
    refine ⟨rfl, ?_⟩
    refine t_yes ?_
    acc_peel
    refine ⟨_, upd_at (ne_of_none hD1 hT) hD1, szl ?_, Same.mut (Same.new sm hT) hD, ?_⟩
    · rw [List.length_map]; exact Nat.le_trans (List.length_take_le' _ _) (by rw [List.length_zip]; omega)
    · rw [upd_same, zip_take ha hb]
  · rintro H1 ⟨sm, hD1⟩
    refine r_cat (sm _ _ upd_same) hD1 (sz ?_) ?_
    · rw [List.length_map, List.length_take, List.length_zip]; show 1 + _ ≤ _; omega
    intro l2 hl2
    acc_peel
    refine ⟨l2, 0 :: (hs.zip ks).map (fun p => p.1 - p.2), rfl, SqL.at ?_, by simp, fun m hm hg => ?_⟩
    · rw [upd_same, List.take_of_length_le (by rw [List.length_zip]; omega), List.map_cons, List.map_map]; rfl
    · rw [gap_max hm hg]
      exact q _ (Same.new (sm0.trans sm) hl2)

theorem len__law_over {K : PySem.W.Frag} {vs : List V} {H : Hp} {Q : VK} {E : XK} (h : sp__law_over K vs H Q E) : vs.length = P__law_over.length := by
  obtain ⟨s, t, a, b, rfl, _⟩ := h; rfl
theorem row_b {a b : Pose} (ga : Good a) (gb : Good b) : a.row.b = b.row.b ↔ a.j = b.j := by
  show decide (a.j = 1) = decide (b.j = 1) ↔ _
  rcases ga.j01 with x | x <;> rcases gb.j01 with y | y <;> rw [x, y] <;> decide
theorem cov_none {a b : Row} (h : a.b ≠ b.b ∨ a.hs.length ≠ b.hs.length ∨ b.c < a.c) : covF a b = none := if_pos h
theorem cov_short {a b : Row} (h : ¬ (a.b ≠ b.b ∨ a.hs.length ≠ b.hs.length ∨ b.c < a.c)) (g : a.x < b.x + gapF a.hs b.hs ∨ a.y < b.y + gapF a.hs b.hs) : covF a b = none := by
  unfold covF; rw [if_neg h, if_pos g]
theorem cov_some {a b : Row} (h : ¬ (a.b ≠ b.b ∨ a.hs.length ≠ b.hs.length ∨ b.c < a.c)) (g : ¬ (a.x < b.x + gapF a.hs b.hs ∨ a.y < b.y + gapF a.hs b.hs)) : covF a b = some (gapF a.hs b.hs) := by
  unfold covF; rw [if_neg h, if_neg g]
theorem give {Q : VK} {o p : Option Int} {H : Hp} (q : Q (optV o) H) (e : o = p) : Q (optV p) H := e ▸ q
theorem pure__law_over {K : PySem.W.Frag} (vs : List V) (H : Hp) (Q : VK) (E : XK) (h : sp__law_over K vs H Q E) : r__law_over K { nx := fun _ H' => Q .non H', rt := Q } (start N__law_over vs) H := by
  obtain ⟨s, t, a, b, rfl, ⟨u, hs, hu⟩, ⟨w, ht, hw⟩, ga, gb, q⟩ := h
  unfold r__law_over
  acc_peel
  refine i_ndec (fun hj => ?_) (fun hj => ?_)
  · acc_peel
    exact give (q H (Same.refl H)) (cov_none (.inl fun z => hj ((row_b ga gb).mp z)))
  acc_peel
  rw [List.length_map, List.length_map]
  refine i_ndec (fun hl => ?_) (fun hl => ?_)
  · acc_peel
    exact give (q H (Same.refl H)) (cov_none (.inr (.inl fun z => hl (by rw [show a.hs.length = b.hs.length from z]))))
  acc_peel
  refine i_dec (fun hc => ?_) (fun hc => ?_)
  · acc_peel
    exact give (q H (Same.refl H)) (cov_none (.inr (.inr hc)))
  have hl' : a.hs.length = b.hs.length := by omega
  have n1 : ¬ (a.row.b ≠ b.row.b ∨ a.row.hs.length ≠ b.row.hs.length ∨ b.row.c < a.row.c) := by
    rintro (z | z | z)
    · exact z ((row_b ga gb).mpr hj)
    · exact z hl'
    · exact hc z
  acc_peel
  refine e_gapmax hu hw hl' (Nat.le_trans ga.len (by decide)) (fun H' R sm r => ?_) (fun H' R sm r => ?_) (fun H1 sm => ?_)
  · have hs1 := sm _ _ hs
    acc_peel
    exact r
  · have ht1 := sm _ _ ht
    acc_peel
    exact r
  have hs1 := sm _ _ hs
  have ht1 := sm _ _ ht
  acc_peel
  refine i_dec (fun hx => ?_) (fun hx => ?_)
  · acc_peel
    refine i_dec (fun hy => ?_) (fun hy => ?_)
    · acc_peel
      exact give (q H1 sm) (cov_some n1 (by rintro (z | z); exact absurd hx (Int.not_le.mpr z); exact absurd hy (Int.not_le.mpr z)))
    · acc_peel
      exact give (q H1 sm) (cov_short n1 (.inr (Int.not_le.mp hy)))
  · acc_peel
    exact give (q H1 sm) (cov_short n1 (.inl (Int.not_le.mp hx)))
theorem len__law_over_ways {K : PySem.W.Frag} {vs : List V} {H : Hp} {Q : VK} {E : XK} (h : sp__law_over_ways K vs H Q E) : vs.length = P__law_over_ways.length := by
  obtain ⟨s, t, a, b, rfl, _⟩ := h; rfl
theorem pure__law_over_ways {K : PySem.W.Frag} (vs : List V) (H : Hp) (Q : VK) (E : XK) (h : sp__law_over_ways K vs H Q E) : r__law_over_ways K { nx := fun _ H' => Q .non H', rt := Q } (start N__law_over_ways vs) H := by
  obtain ⟨s, t, a, b, rfl, ⟨u, hs, hu⟩, ⟨w, ht, hw⟩, hle, q⟩ := h
  unfold r__law_over_ways
  acc_peel
  rw [List.length_map, List.length_map]
  refine i_ndec (fun hl => ?_) (fun hl => ?_)
  · acc_peel
    exact give (q H (Same.refl H)) (cov_none (.inr (.inl fun z => hl (by rw [show a.hs.length = b.hs.length from z]))))
  acc_peel
  refine i_dec (fun hc => ?_) (fun hc => ?_)
  · acc_peel
    exact give (q H (Same.refl H)) (cov_none (.inr (.inr hc)))
  have hl' : a.hs.length = b.hs.length := by omega
  have n1 : ¬ ((wayRow a.x a.hs a.c).b ≠ (wayRow b.x b.hs b.c).b ∨ (wayRow a.x a.hs a.c).hs.length ≠ (wayRow b.x b.hs b.c).hs.length ∨ (wayRow b.x b.hs b.c).c < (wayRow a.x a.hs a.c).c) := by
    rintro (z | z | z)
    · exact z rfl
    · exact z hl'
    · exact hc z
  acc_peel
  refine e_gapmax hu hw hl' hle (fun H' R sm r => ?_) (fun H' R sm r => ?_) (fun H1 sm => ?_)
  · have hs1 := sm _ _ hs
    acc_peel
    exact r
  · have ht1 := sm _ _ ht
    acc_peel
    exact r
  have hs1 := sm _ _ hs
  have ht1 := sm _ _ ht
  acc_peel
  refine i_dec (fun hx => ?_) (fun hx => ?_)
  · acc_peel
    exact give (q H1 sm) (cov_some n1 (by rintro (z | z) <;> exact absurd hx (Int.not_le.mpr z)))
  · acc_peel
    exact give (q H1 sm) (cov_short n1 (.inl (Int.not_le.mp hx)))
theorem len__law_same {K : PySem.W.Frag} {vs : List V} {H : Hp} {Q : VK} {E : XK} (h : sp__law_same K vs H Q E) : vs.length = P__law_same.length := by
  obtain ⟨a, b, rfl, _⟩ := h; rfl
theorem pure__law_same {K : PySem.W.Frag} (vs : List V) (H : Hp) (Q : VK) (E : XK) (h : sp__law_same K vs H Q E) : r__law_same K { nx := fun _ H' => Q .non H', rt := Q } (start N__law_same vs) H := by
  obtain ⟨a, b, rfl, q⟩ := h
  unfold r__law_same
  cases b with
  | none =>
    cases a with
    | none =>
      have q' : Q (.bl true) H := q
      show tSeq _ _ _ (start N__law_same [.non, .non]) H
      acc_peel
      exact q'
    | some i =>
      have q' : Q (.bl false) H := q
      show tSeq _ _ _ (start N__law_same [.int i, .non]) H
      acc_peel
      exact q'
  | some j =>
    cases a with
    | none =>
      have q' : Q (.bl false) H := q
      show tSeq _ _ _ (start N__law_same [.non, .int j]) H
      acc_peel
      exact q'
    | some i =>
      show tSeq _ _ _ (start N__law_same [.int i, .int j]) H
      acc_peel
      refine ⟨i, rfl, ?_⟩
      acc_peel
      rw [show decide (i = j) = decide (some i = some j) by simp]
      exact q

/-! ### what is drawn: poses -/
theorem x_of {K : PySem.W.Frag} {ns : List Int} {a c p : Addr} {H : Hp} {Q : VK} {E : XK} {lo hi : Int} (hb : BagAt a c H) (hp : H p = none) (hn : ns.length ≠ 0) (hl : ns.length ≤ 1000) (hbd : ∀ d ∈ ns, lo ≤ d ∧ d ≤ hi)
    (q : ∀ H' d, Sb a H H' → BagAt a c H' → lo ≤ d → d ≤ hi → Q (.int d) H') : sp__law_of K [.ref a, .ref p] (upd H p (.lst (ns.map V.int))) Q E := by
  refine ⟨a, c, p, _, rfl, hb.new hp, (hb.na hp).symm, upd_same, fun e => hn ?_, by rw [List.length_map]; exact hl, fun H' x sb hb' hx => ?_⟩
  · rw [List.map_eq_nil_iff.mp e]; rfl
  · obtain ⟨d, hd, rfl⟩ := List.mem_map.mp hx
    exact q H' d (fun b o n e => sb b o n (upd_at (ne_of_none e hp) e)) hb' (hbd d hd).1 (hbd d hd).2
theorem asc_snoc : ∀ {ts : List Int} {l x : Int}, asc l ts → (∀ t ∈ ts, t ≤ x) → l ≤ x → asc l (ts ++ [x])
  | [], _, _, _, _, h => ⟨h, trivial⟩
  | t :: _, _, _, a, m, _ => ⟨a.1, asc_snoc a.2 (fun y hy => m y (.tail _ hy)) (m t (.head _))⟩
theorem map_snocI (zs : List Int) (z : Int) : (zs ++ [z]).map V.int = zs.map V.int ++ [V.int z] := by rw [List.map_append]; rfl
theorem len__law_pose {K : PySem.W.Frag} {vs : List V} {H : Hp} {Q : VK} {E : XK} (h : sp__law_pose K vs H Q E) : vs.length = P__law_pose.length := by
  obtain ⟨a, c, lag, wide, rfl, _⟩ := h; rfl
theorem pure__law_pose {K : PySem.W.Frag} (vs : List V) (H : Hp) (Q : VK) (E : XK) (h : sp__law_pose K vs H Q E) : r__law_pose K { nx := fun _ H' => Q .non H', rt := Q } (start N__law_pose vs) H := by
  obtain ⟨a, c, lag, wide, rfl, hb, g0, g4, w0, w1, q⟩ := h
  unfold r__law_pose
  acc_peel
  refine ⟨sz (by decide), fun p0 hp0 => ?_⟩
  acc_peel
  refine x_of (ns := [0, 0, 1]) (lo := 0) (hi := 1) hb hp0 (by decide) (by decide) (by decide) (fun H1 j sb1 hb1 j0 j1 => ?_)
  acc_peel
  refine ⟨a, c, _, rfl, hb1, by omega, by omega, fun H2 d sb2 hb2 d0 d1 => ?_⟩
  acc_peel
  have sb12 := sb1.trans sb2
  refine s_cut (fun σ H' => ∃ far near : Int, σ = [some (.ref a), some (.int lag), some (.int wide), some (.int j), some (.int far), some (.int near), none, none, none] ∧ Sb a H H' ∧ BagAt a c H' ∧ -6 ≤ near ∧ near ≤ far ∧ far ≤ 100 ∧ (j = 1 → far = near)) ?_ ?_
  · acc_peel
    refine i_dec (fun hj => ?_) (fun hj => ?_)
    · acc_peel
      exact ⟨_, _, rfl, sb12, hb2, by omega, Int.le_refl _, by omega, fun _ => rfl⟩
    · acc_peel
      refine ⟨sz (by decide), fun p1 hp1 => ?_⟩
      acc_peel
      refine x_of (ns := [0, 1, 2, 0, 1, 3]) (lo := 0) (hi := 3) hb2 hp1 (by decide) (by decide) (by decide) (fun H3 e sb3 hb3 e0 e1 => ?_)
      acc_peel
      exact ⟨_, _, rfl, sb12.trans sb3, hb3, by omega, by omega, by omega, fun z => absurd z hj⟩
  clear hb1 hb2 d0 d1 sb1 sb2 sb12
  rintro σ H3 ⟨far, near, rfl, sb3, hb3, n0, n1, f1, hj⟩
  acc_peel
  refine ⟨sz (by decide), fun p hp => ?_⟩
  have hpH : H p = none := sb3.free (hb3.na hp).symm hp
  acc_peel
  refine s_for ?_
  refine i_rng1 ?_
  acc_peel
  have npa := hb3.na hp
  refine ⟨_, rfl, by omega, by omega, for_range (lo := 0) (n := lag.toNat) (fun i σ H' => ∃ (ts : List Int) (last : Int) (v : Option V), σ = [some (.ref a), some (.int lag), some (.int wide), some (.int j), some (.int far), some (.int near), some (.ref p), some (.int last), v] ∧
    Sb a H H' ∧ BagAt a c H' ∧ H' p = some (.lst (ts.map V.int)) ∧ ts.length = i ∧ asc 0 ts ∧ (∀ t ∈ ts, t ≤ last) ∧ 0 ≤ last ∧ last ≤ 2 * i) ⟨[], 0, none, rfl, Sb.new sb3 hp, hb3.new hp, upd_same, rfl, trivial, (fun _ h => nomatch h), by decide, by decide⟩ ?_ ?_⟩
  · rintro i σ H4 hi ⟨ts, last, v, rfl, sb4, hb4, h4, el, up, le, l0, l2⟩
    acc_peel
    refine ⟨sz (by decide), fun p1 hp1 => ?_⟩
    acc_peel
    refine x_of (ns := [0, 1, 0, 2, 0]) (lo := 0) (hi := 2) hb4 hp1 (by decide) (by decide) (by decide) (fun H5 e sb5 hb5 e0 e1 => ?_)
    have h5 := sb5 _ _ npa.symm h4
    acc_peel
    refine r_app h5 (szl (by rw [List.length_map]; omega)) ?_
    refine ⟨ts ++ [last + e], last + e, _, rfl, Sb.mut (sb4.trans sb5) hpH, hb5.mut npa (hb3.nc hp), by rw [upd_same, map_snocI], by rw [List.length_append, el]; rfl, asc_snoc up (fun t ht => by have := le t ht; omega) (by omega), fun t ht => ?_, by omega, by omega⟩
    rcases List.mem_append.mp ht with z | z
    · have := le t z; omega
    · rw [List.mem_singleton.mp z]; exact Int.le_refl _
  · rintro σ H4 ⟨ts, last, v, rfl, sb4, hb4, h4, el, up, le, l0, l2⟩
    acc_peel
    refine b_tupL (SqL.at h4) (fun u hu => ?_)
    acc_peel
    have hb5 := hb4.new (o := .tup (ts.map V.int)) hu
    refine ⟨sz (by decide), fun p1 hp1 => ?_⟩
    acc_peel
    refine x_of (ns := [0, 0, 1, 0, 4]) (lo := 0) (hi := 4) hb5 hp1 (by decide) (by decide) (by decide) (fun H6 e sb6 hb6 e0 e1 => ?_)
    acc_peel
    refine ⟨sz (by show 5 ≤ 100000; decide), fun t ht => ?_⟩
    have hu6 : H6 u = some (.tup (ts.map V.int)) := sb6 _ _ (hb4.na hu).symm upd_same
    refine q _ t ⟨j, far, near, ts, e⟩ (Sb.new ((Sb.new sb4 hu).trans sb6) ht) (hb6.new ht) ⟨u, upd_same, upd_at (ne_of_none hu6 ht) hu6⟩ ⟨by show j = 0 ∨ j = 1; omega, n1, hj, up, by show ts.length ≤ 4; omega, e0⟩ ⟨by show -1000 ≤ near; omega, by show far ≤ 1000; omega, fun h hh => ?_, by show e ≤ 1000; omega⟩
    have := le h hh
    omega

theorem asc_drop : ∀ {ts : List Int} {l : Int} (x : Nat), asc l ts → (∀ t ∈ ts, l ≤ t) → asc l (ts.drop x)
  | _, _, 0, a, _ => a
  | [], _, _ + 1, _, _ => trivial
  | t :: ts, l, x + 1, a, m => asc_drop (ts := ts) x (by
      cases ts with
      | nil => trivial
      | cons y ys => exact ⟨Int.le_trans a.1 a.2.1, a.2.2⟩) (fun y hy => m y (.tail _ hy))
theorem asc_take : ∀ {ts : List Int} {l : Int} (x : Nat), asc l ts → asc l (ts.take x)
  | _, _, 0, _ => by rw [List.take_zero]; trivial
  | [], _, _ + 1, _ => trivial
  | _ :: _, _, x + 1, a => ⟨a.1, asc_take x a.2⟩
theorem cut_asc {ts : List Int} {lo hi : Option Int} (a : asc 0 ts) : ∃ ms : List Int, cutV (ts.map V.int) lo hi = ms.map V.int ∧ ms.length ≤ ts.length ∧ asc 0 ms ∧ ∀ m ∈ ms, m ∈ ts := by
  unfold cutV
  rw [← List.map_drop, ← List.map_take]
  refine ⟨_, rfl, ?_, asc_take _ (asc_drop _ a (asc_nonneg a)), fun m hm => List.mem_of_mem_drop (List.mem_of_mem_take hm)⟩
  rw [List.length_take, List.length_drop]; omega
theorem len__law_near {K : PySem.W.Frag} {vs : List V} {H : Hp} {Q : VK} {E : XK} (h : sp__law_near K vs H Q E) : vs.length = P__law_near.length := by
  obtain ⟨a, c, s, p, g, B, rfl, _⟩ := h; rfl
theorem pure__law_near {K : PySem.W.Frag} (vs : List V) (H : Hp) (Q : VK) (E : XK) (h : sp__law_near K vs H Q E) : r__law_near K { nx := fun _ H' => Q .non H', rt := Q } (start N__law_near vs) H := by
  obtain ⟨a, c, s, p, g, B, rfl, hb, ⟨u, hs, hu⟩, gp, fp, B0, g0, q⟩ := h
  have nua : u ≠ a := ne_bagT hb hu
  have flo := fp.lo
  have fhi := fp.hi
  have fcc := fp.cc
  have gyx := gp.yx
  have gc0 := gp.c0
  have glen := gp.len
  unfold r__law_near
  acc_peel
  refine g_tup (SqT.at hs) rfl ?_
  acc_peel
  refine s_cut (fun σ H' => ∃ j : Int, σ = [some (.ref a), some (.ref s), some (.int g), some (.int j), some (.int p.x), some (.int p.y), some (.ref u), some (.int p.c), none, none, none, none, none, none, none] ∧ Sb a H H' ∧ BagAt a c H' ∧ (j = 0 ∨ j = 1)) ?_ ?_
  · acc_peel
    refine ⟨a, c, _, rfl, hb, by decide, by decide, fun H1 d sb hb1 d0 d1 => ?_⟩
    acc_peel
    refine i_dec (fun _ => ?_) (fun _ => ?_)
    · acc_peel
      exact ⟨_, rfl, sb, hb1, by have := gp.j01; omega⟩
    · acc_peel
      exact ⟨_, rfl, sb, hb1, gp.j01⟩
  rintro σ H1 ⟨j, rfl, sb1, hb1, j01⟩
  acc_peel
  refine ⟨sz (by decide), fun p0 hp0 => ?_⟩
  acc_peel
  refine x_of (ns := [0, 0, 1, -1, 0, 2]) (lo := -1) (hi := 2) hb1 hp0 (by decide) (by decide) (by decide) (fun H2 d1 sb2 hb2 d10 d11 => ?_)
  have sb12 := sb1.trans sb2
  acc_peel
  refine s_cut (fun σ H' => ∃ low : Int, σ = [some (.ref a), some (.ref s), some (.int g), some (.int j), some (.int p.x), some (.int p.y), some (.ref u), some (.int p.c), some (.int (p.x + g + d1)), some (.int low), none, none, none, none, none] ∧ Sb a H H' ∧ BagAt a c H' ∧ -B - 1 ≤ low ∧ low ≤ B + g + 2 ∧ (j = 1 → low = p.x + g + d1)) ?_ ?_
  · acc_peel
    refine i_dec (fun hj => ?_) (fun hj => ?_)
    · acc_peel
      exact ⟨_, rfl, sb12, hb2, by omega, by omega, fun _ => rfl⟩
    · acc_peel
      refine ⟨sz (by decide), fun p1 hp1 => ?_⟩
      acc_peel
      refine x_of (ns := [0, 0, 1, -1, 0, 2]) (lo := -1) (hi := 2) hb2 hp1 (by decide) (by decide) (by decide) (fun H3 d3 sb3 hb3 d30 d31 => ?_)
      acc_peel
      exact ⟨_, rfl, sb12.trans sb3, hb3, by omega, by omega, fun z => absurd z hj⟩
  generalize hhigh : p.x + g + d1 = high
  have hi0 : -B - 1 ≤ high := by omega
  have hi1 : high ≤ B + g + 2 := by omega
  clear hhigh sb12 hb2 hp0 sb2
  clear d10 d11
  clear H2 p0
  rintro σ H3 ⟨low, rfl, sb3, hb3, lo0, lo1, hjl⟩
  acc_peel
  refine ⟨sz (by decide), fun t ht => ?_⟩
  have htH : H t = none := sb3.free (hb3.na ht).symm ht
  have nta := hb3.na ht
  have ntc := hb3.nc ht
  acc_peel
  refine s_for ?_
  refine i_tup ?_
  acc_peel
  have nut : u ≠ t := ne_of_none hu htH
  have hu3 := sb3 _ _ nua hu
  have sb3' : Sb a H (upd H3 t (.lst [])) := Sb.new sb3 ht
  refine ⟨u, rfl, ⟨_, SqT.at (sb3' _ _ nua hu)⟩, for_tup (K := K) (a := u) (xs := p.hs.map V.int) (fun i σ H' => ∃ (ts : List Int) (last : Int) (v : Option V), σ = [some (.ref a), some (.ref s), some (.int g), some (.int j), some (.int p.x), some (.int p.y), some (.ref u), some (.int p.c), some (.int high), some (.int low), some (.ref t), some (.int last), v, none, none] ∧
    Sb a H H' ∧ BagAt a c H' ∧ H' t = some (.lst (ts.map V.int)) ∧ ts.length = i ∧ asc 0 ts ∧ (∀ t ∈ ts, t ≤ last) ∧ 0 ≤ last ∧ last ≤ B + g + 1) ⟨[], 0, none, rfl, sb3', hb3.new ht, upd_same, rfl, trivial, (fun _ h => nomatch h), by decide, by omega⟩ (fun i σ H' _ h => ?_) ?_ ?_⟩
  · obtain ⟨_, _, _, _, sb, _⟩ := h
    exact SqT.at (sb _ _ nua hu)
  · rintro i x σ H4 hx ⟨ts, last, v, rfl, sb4, hb4, h4, el, up, le, l0, l2⟩
    obtain ⟨n, rfl, hn⟩ := mapI_get hx
    have hn1 := fp.hh n (List.mem_of_getElem? hn)
    acc_peel
    refine ⟨sz (by decide), fun p1 hp1 => ?_⟩
    acc_peel
    refine x_of (ns := [0, 0, -1, 1, 0, -2]) (lo := -2) (hi := 1) hb4 hp1 (by decide) (by decide) (by decide) (fun H5 e sb5 hb5 e0 e1 => ?_)
    have h5 := sb5 _ _ nta.symm h4
    acc_peel
    refine x_max (fun m m1 m2 m3 => ?_)
    acc_peel
    have hi4 : i < 4 := by have := (List.getElem?_eq_some_iff.mp hn).1; omega
    refine r_app h5 (szl (by rw [List.length_map]; omega)) ?_
    refine ⟨ts ++ [m], m, _, rfl, Sb.mut (sb4.trans sb5) htH, hb5.mut nta ntc, by rw [upd_same, map_snocI], by rw [List.length_append, el]; rfl, asc_snoc up (fun t ht => by have := le t ht; omega) (by omega), fun t ht => ?_, by omega, by omega⟩
    rcases List.mem_append.mp ht with z | z
    · have := le t z; omega
    · rw [List.mem_singleton.mp z]; exact Int.le_refl _
  rintro σ H4 ⟨ts, last, v, rfl, sb4, hb4, h4, el, up, le, l0, l2⟩
  rw [List.length_map] at el
  have le' : ∀ h ∈ ts, h ≤ B + g + 1 := fun h hh => Int.le_trans (le h hh) l2
  clear sb3' hu3 ht sb3 hb3 sb1 hb1
  acc_peel
  refine ⟨a, c, _, rfl, hb4, by decide, by decide, fun H5 w sb5 hb5 w0 w1 => ?_⟩
  have h5 := sb5 _ _ nta.symm h4
  acc_peel
  have sb45 := sb4.trans sb5
  refine s_cut (fun σ H' => ∃ (t : Addr) (ts : List Int), σ = [some (.ref a), some (.ref s), some (.int g), some (.int j), some (.int p.x), some (.int p.y), some (.ref u), some (.int p.c), some (.int high), some (.int low), some (.ref t), some (.int last), v, some (.int w), none] ∧ Sb a H H' ∧ BagAt a c H' ∧ H' t = some (.lst (ts.map V.int)) ∧ t ≠ a ∧ ts.length ≤ 4 ∧ asc 0 ts ∧ (∀ t ∈ ts, t ≤ B + g + 1)) ?_ ?_
  · acc_peel
    refine i_dec (fun _ => ?_) (fun _ => ?_)
    · acc_peel
      refine i_b (fun _ => ?_) (fun _ => ?_)
      · acc_peel
        refine r_slL (SqL.at h5) (fun l hl => ?_)
        obtain ⟨ms, em, ml, ma, mm⟩ := cut_asc (lo := some 1) (hi := none) up
        rw [em]
        acc_peel
        exact ⟨l, ms, rfl, Sb.new sb45 hl, hb5.new hl, upd_same, (hb5.na hl).symm, by omega, ma, fun h hh => le' h (mm h hh)⟩
      · acc_peel
        exact ⟨t, ts, rfl, sb45, hb5, h5, nta.symm, by omega, up, le'⟩
    · acc_peel
      exact ⟨t, ts, rfl, sb45, hb5, h5, nta.symm, by omega, up, le'⟩
  clear h4 el up le le' sb5 h5 hb4 htH ntc nut hb5 sb45
  clear nta sb4
  clear ts t
  rintro σ H6 ⟨t, ts, rfl, sb6, hb6, h6, nta, el, up, le⟩
  refine s_cut (fun σ H' => ∃ (t : Addr) (ts : List Int), σ = [some (.ref a), some (.ref s), some (.int g), some (.int j), some (.int p.x), some (.int p.y), some (.ref u), some (.int p.c), some (.int high), some (.int low), some (.ref t), some (.int last), v, some (.int w), none] ∧ Sb a H H' ∧ BagAt a c H' ∧ H' t = some (.lst (ts.map V.int)) ∧ t ≠ a ∧ ts.length ≤ 4 ∧ asc 0 ts ∧ (∀ t ∈ ts, t ≤ B + g + 1)) ?_ ?_
  · acc_peel
    refine i_dec (fun _ => ?_) (fun _ => ?_)
    · acc_peel
      rw [List.length_map]
      refine i_dec (fun hl4 => ?_) (fun _ => ?_)
      · acc_peel
        refine ⟨sz (by decide), fun l hl => ?_⟩
        have ntl : t ≠ l := ne_of_none h6 hl
        acc_peel
        refine r_cat (xs := [.int 0]) upd_same (upd_at ntl h6) (sz (by rw [List.length_map]; show 1 + _ ≤ _; omega)) (fun l2 hl2 => ?_)
        acc_peel
        have hb7 := hb6.new (o := .lst [.int 0]) hl
        exact ⟨l2, 0 :: ts, rfl, Sb.new (Sb.new sb6 hl) hl2, hb7.new hl2, upd_same, (hb7.na hl2).symm, by show ts.length + 1 ≤ 4; omega, ⟨Int.le_refl _, up⟩, fun h hh => by
          rcases List.mem_cons.mp hh with z | z
          · omega
          · exact le h z⟩
      · acc_peel
        exact ⟨t, ts, rfl, sb6, hb6, h6, nta, el, up, le⟩
    · acc_peel
      exact ⟨t, ts, rfl, sb6, hb6, h6, nta, el, up, le⟩
  clear h6 el up le hb6 sb6
  clear nta
  clear ts t
  rintro σ H7 ⟨t, ts, rfl, sb7, hb7, h7, nta, el, up, le⟩
  acc_peel
  refine ⟨sz (by decide), fun p1 hp1 => ?_⟩
  acc_peel
  refine x_of (ns := [0, 0, 1, -1, 0]) (lo := -1) (hi := 1) hb7 hp1 (by decide) (by decide) (by decide) (fun H8 e sb8 hb8 e0 e1 => ?_)
  have h8 := sb8 _ _ nta h7
  have sb78 := sb7.trans sb8
  acc_peel
  refine x_max (fun cnt c1 c2 c3 => ?_)
  acc_peel
  refine x_max (fun hx x1 x2 x3 => ?_)
  acc_peel
  refine x_min (fun hn n1 n2 n3 => ?_)
  acc_peel
  refine b_tupL (SqL.at h8) (fun l hl => ?_)
  acc_peel
  refine ⟨sz (by show 5 ≤ 100000; decide), fun r hr => ?_⟩
  have hb9 := hb8.new (o := .tup (ts.map V.int)) hl
  refine q _ r ⟨j, hx, hn, ts, cnt⟩ (Sb.new (Sb.new sb78 hl) hr) (hb9.new hr) ⟨l, upd_same, upd_at (ne_of_none upd_same hr) upd_same⟩ ⟨j01, by show hn ≤ hx; omega, fun z => by have := hjl z; show hx = hn; omega, up, el, c1⟩ ⟨by show -(B + g + 10) ≤ hn; omega, by show hx ≤ B + g + 10; omega, fun h hh => ?_, by show cnt ≤ B + g + 10; omega⟩
  have := le h hh
  omega

theorem gap_le {hs ks : List Int} {g : Int} (g0 : 0 ≤ g) (h : ∀ (k : Nat) (x y : Int), hs[k]? = some x → ks[k]? = some y → x ≤ y + g) : gapF hs ks ≤ g := by
  obtain ⟨h1, _, _⟩ := fold_gap (hs.zip ks) 0
  show List.foldl gapStep 0 (hs.zip ks) ≤ g
  rcases h1 with z | ⟨p, hp, z⟩
  · rw [z]; exact g0
  · rw [z]
    obtain ⟨k, hk⟩ := List.mem_iff_getElem?.mp hp
    rw [List.getElem?_zip_eq_some] at hk
    have := h k _ _ hk.1 hk.2
    omega
theorem gap_ge {hs ks : List Int} : (0 ≤ gapF hs ks) ∧ ∀ (k : Nat) (x y : Int), hs[k]? = some x → ks[k]? = some y → x ≤ y + gapF hs ks := by
  obtain ⟨_, h2, h3⟩ := fold_gap (hs.zip ks) 0
  refine ⟨h2, fun k x y hx hy => ?_⟩
  have : (x, y) ∈ hs.zip ks := List.mem_iff_getElem?.mpr ⟨k, by rw [List.getElem?_zip_eq_some]; exact ⟨hx, hy⟩⟩
  have := h3 _ this
  show x ≤ y + List.foldl gapStep 0 (hs.zip ks)
  omega
theorem cov_iff {a b : Row} : covF a b ≠ none ↔ a.b = b.b ∧ a.hs.length = b.hs.length ∧ a.c ≤ b.c ∧ b.x + gapF a.hs b.hs ≤ a.x ∧ b.y + gapF a.hs b.hs ≤ a.y := by
  by_cases h : a.b ≠ b.b ∨ a.hs.length ≠ b.hs.length ∨ b.c < a.c
  · rw [cov_none h]
    refine ⟨fun z => absurd rfl z, fun ⟨h1, h2, h3, _⟩ => ?_⟩
    rcases h with z | z | z
    · exact absurd h1 z
    · exact absurd h2 z
    · exact absurd h3 (Int.not_le.mpr z)
  · have e1 : a.b = b.b := Decidable.byContradiction fun z => h (.inl z)
    have e2 : a.hs.length = b.hs.length := Decidable.byContradiction fun z => h (.inr (.inl z))
    have e3 : a.c ≤ b.c := Int.not_lt.mp fun z => h (.inr (.inr z))
    by_cases g : a.x < b.x + gapF a.hs b.hs ∨ a.y < b.y + gapF a.hs b.hs
    · rw [cov_short h g]
      refine ⟨fun z => absurd rfl z, fun ⟨_, _, _, h4, h5⟩ => ?_⟩
      rcases g with z | z
      · exact absurd h4 (Int.not_le.mpr z)
      · exact absurd h5 (Int.not_le.mpr z)
    · rw [cov_some h g]
      exact ⟨fun _ => ⟨e1, e2, e3, Int.not_lt.mp fun z => g (.inl z), Int.not_lt.mp fun z => g (.inr z)⟩, fun _ z => nomatch z⟩
theorem cov_trans {a b c : Row} (h1 : covF a b ≠ none) (h2 : covF b c ≠ none) : covF a c ≠ none := by
  obtain ⟨a1, a2, a3, a4, a5⟩ := cov_iff.mp h1
  obtain ⟨b1, b2, b3, b4, b5⟩ := cov_iff.mp h2
  have ga := gap_ge (hs := a.hs) (ks := b.hs)
  have gb := gap_ge (hs := b.hs) (ks := c.hs)
  have : gapF a.hs c.hs ≤ gapF a.hs b.hs + gapF b.hs c.hs := by
    refine gap_le (by have := ga.1; have := gb.1; omega) (fun k x y hx hy => ?_)
    have hk : k < b.hs.length := by have := (List.getElem?_eq_some_iff.mp hx).1; omega
    have z1 := ga.2 k x _ hx (List.getElem?_eq_getElem hk)
    have z2 := gb.2 k _ y (List.getElem?_eq_getElem hk) hy
    omega
  exact cov_iff.mpr ⟨a1.trans b1, a2.trans b2, Int.le_trans a3 b3, by omega, by omega⟩
theorem cov_self (a : Row) : covF a a = some 0 := by
  have e : gapF a.hs a.hs = 0 := by
    have h1 : gapF a.hs a.hs ≤ 0 := gap_le (Int.le_refl _) (fun k x y hx hy => by rw [hx] at hy; have := Option.some.inj hy; omega)
    have h2 := (gap_ge (hs := a.hs) (ks := a.hs)).1
    omega
  rw [cov_some (a := a) (b := a), e]
  · rintro (z | z | z)
    · exact z rfl
    · exact z rfl
    · exact absurd z (Int.lt_irrefl _)
  · rw [e]; rintro (z | z) <;> omega
theorem len__law_greater {K : PySem.W.Frag} {vs : List V} {H : Hp} {Q : VK} {E : XK} (h : sp__law_greater K vs H Q E) : vs.length = P__law_greater.length := by
  obtain ⟨a, c, s, p, g, B, rfl, _⟩ := h; rfl
theorem pure__law_greater {K : PySem.W.Frag} (vs : List V) (H : Hp) (Q : VK) (E : XK) (h : sp__law_greater K vs H Q E) : r__law_greater K { nx := fun _ H' => Q .non H', rt := Q } (start N__law_greater vs) H := by
  obtain ⟨a, c, s, p, g, B, rfl, hb, ⟨u, hs, hu⟩, gp, fp, B0, g0, q⟩ := h
  have nua : u ≠ a := ne_bagT hb hu
  have flo := fp.lo
  have fhi := fp.hi
  have fcc := fp.cc
  have gyx := gp.yx
  have gc0 := gp.c0
  have glen := gp.len
  unfold r__law_greater
  acc_peel
  refine g_tup (SqT.at hs) rfl ?_
  acc_peel
  refine ⟨sz (by decide), fun p0 hp0 => ?_⟩
  acc_peel
  refine x_of (ns := [0, 0, 1, 0, 2]) (lo := 0) (hi := 2) hb hp0 (by decide) (by decide) (by decide) (fun H2 d1 sb2 hb2 d10 d11 => ?_)
  acc_peel
  generalize hlow : p.y + g + d1 = low
  have lo0 : p.y + g ≤ low := by omega
  have lo1 : low ≤ p.x + g + 2 := by omega
  clear hlow
  refine s_cut (fun σ H' => ∃ high : Int, σ = [some (.ref a), some (.ref s), some (.int g), some (.int p.j), some (.int p.x), some (.int p.y), some (.ref u), some (.int p.c), some (.int low), some (.int high), none, none, none] ∧ Sb a H H' ∧ BagAt a c H' ∧ low ≤ high ∧ high ≤ B + g + 2 ∧ (p.j = 1 → high = low) ∧ p.x + g ≤ high) ?_ ?_
  · acc_peel
    refine i_dec (fun hj => ?_) (fun hj => ?_)
    · acc_peel
      have := gp.jx hj
      exact ⟨_, rfl, sb2, hb2, Int.le_refl _, by omega, fun _ => rfl, by omega⟩
    · acc_peel
      refine ⟨sz (by decide), fun p1 hp1 => ?_⟩
      acc_peel
      refine x_of (ns := [0, 0, 1, 0]) (lo := 0) (hi := 1) hb2 hp1 (by decide) (by decide) (by decide) (fun H3 d3 sb3 hb3 d30 d31 => ?_)
      acc_peel
      refine x_max (fun m m1 m2 m3 => ?_)
      acc_peel
      exact ⟨_, rfl, sb2.trans sb3, hb3, by omega, by omega, fun z => absurd z hj, by omega⟩
  clear hb2 hp0 sb2
  clear d10 d11
  clear H2 p0
  rintro σ H3 ⟨high, rfl, sb3, hb3, hi0, hi1, hjl, hi2⟩
  acc_peel
  refine ⟨sz (by decide), fun t ht => ?_⟩
  have htH : H t = none := sb3.free (hb3.na ht).symm ht
  have nta := hb3.na ht
  have ntc := hb3.nc ht
  acc_peel
  refine s_for ?_
  refine i_tup ?_
  acc_peel
  have sb3' : Sb a H (upd H3 t (.lst [])) := Sb.new sb3 ht
  refine ⟨u, rfl, ⟨_, SqT.at (sb3' _ _ nua hu)⟩, for_tup (K := K) (a := u) (xs := p.hs.map V.int) (fun i σ H' => ∃ (ts : List Int) (last : Int) (v : Option V), σ = [some (.ref a), some (.ref s), some (.int g), some (.int p.j), some (.int p.x), some (.int p.y), some (.ref u), some (.int p.c), some (.int low), some (.int high), some (.ref t), some (.int last), v] ∧
    Sb a H H' ∧ BagAt a c H' ∧ H' t = some (.lst (ts.map V.int)) ∧ ts.length = i ∧ asc 0 ts ∧ (∀ t ∈ ts, t ≤ last) ∧ 0 ≤ last ∧ last ≤ B + g ∧ (∀ w, p.hs[i]? = some w → last ≤ w + g) ∧ ∀ (k : Nat) (x y : Int), ts[k]? = some x → p.hs[k]? = some y → x ≤ y + g)
    ⟨[], 0, none, rfl, sb3', hb3.new ht, upd_same, rfl, trivial, (fun _ h => nomatch h), by decide, by omega, fun w hw => by have := asc_get gp.up hw; omega, (fun k x y h => nomatch h)⟩ (fun i σ H' _ h => ?_) ?_ ?_⟩
  · obtain ⟨_, _, _, _, sb, _⟩ := h
    exact SqT.at (sb _ _ nua hu)
  · rintro i x σ H4 hx ⟨ts, last, v, rfl, sb4, hb4, h4, el, up, le, l0, l2, lw, lk⟩
    obtain ⟨n, rfl, hn⟩ := mapI_get hx
    have hn1 := fp.hh n (List.mem_of_getElem? hn)
    have hn2 := lw n hn
    acc_peel
    refine ⟨sz (by decide), fun p1 hp1 => ?_⟩
    acc_peel
    refine x_of (ns := [0, 0, 1, 0, 3]) (lo := 0) (hi := 3) hb4 hp1 (by decide) (by decide) (by decide) (fun H5 e sb5 hb5 e0 e1 => ?_)
    have h5 := sb5 _ _ nta.symm h4
    acc_peel
    refine x_max (fun m m1 m2 m3 => ?_)
    acc_peel
    have hi4 : i < 4 := by have := (List.getElem?_eq_some_iff.mp hn).1; omega
    refine r_app h5 (szl (by rw [List.length_map]; omega)) ?_
    refine ⟨ts ++ [m], m, _, rfl, Sb.mut (sb4.trans sb5) htH, hb5.mut nta ntc, by rw [upd_same, map_snocI], by rw [List.length_append, el]; rfl, asc_snoc up (fun t ht => by have := le t ht; omega) (by omega), fun t ht => ?_, by omega, by omega, fun w hw => ?_, fun k x y hx hy => ?_⟩
    · rcases List.mem_append.mp ht with z | z
      · have := le t z; omega
      · rw [List.mem_singleton.mp z]; exact Int.le_refl _
    · have := asc_next gp.up hn hw; omega
    · by_cases hk : k < ts.length
      · rw [List.getElem?_append_left hk] at hx; exact lk k x y hx hy
      · rw [List.getElem?_append_right (by omega)] at hx
        have hk2 := (List.getElem?_eq_some_iff.mp hx).1
        have hk3 : k - ts.length = 0 := by rw [List.length_singleton] at hk2; omega
        rw [hk3] at hx
        have hx' : m = x := Option.some.inj hx
        have hki : k = i := by omega
        rw [hki, hn] at hy
        have := Option.some.inj hy
        omega
  rintro σ H4 ⟨ts, last, v, rfl, sb4, hb4, h4, el, up, le, l0, l2, lw, lk⟩
  rw [List.length_map] at el
  acc_peel
  refine b_tupL (SqL.at h4) (fun l hl => ?_)
  have hb5 := hb4.new (o := .tup (ts.map V.int)) hl
  acc_peel
  refine ⟨a, c, _, rfl, hb5, by decide, by decide, fun H6 e sb6 hb6 e0 e1 => ?_⟩
  acc_peel
  refine x_max (fun cnt c1 c2 c3 => ?_)
  acc_peel
  refine ⟨sz (by show 5 ≤ 100000; decide), fun r hr => ?_⟩
  have hl6 : H6 l = some (.tup (ts.map V.int)) := sb6 _ _ (hb4.na hl).symm upd_same
  refine q _ r ⟨p.j, high, low, ts, cnt⟩ (Sb.new ((Sb.new sb4 hl).trans sb6) hr) (hb6.new hr) ⟨l, upd_same, upd_at (ne_of_none hl6 hr) hl6⟩ ⟨gp.j01, hi0, hjl, up, by show ts.length ≤ 4; omega, c1⟩ ⟨by show -(B + g + 10) ≤ low; omega, by show high ≤ B + g + 10; omega, fun h hh => ?_, by show cnt ≤ B + g + 10; omega⟩ ?_
  · have := le h hh
    omega
  · have hg : gapF ts p.hs ≤ g := gap_le g0 lk
    exact cov_iff.mpr ⟨rfl, el, by show cnt ≤ p.c; omega, by show p.x + gapF ts p.hs ≤ high; omega, by show p.y + gapF ts p.hs ≤ low; omega⟩

/-! ### the pool -/
theorem StAt.sb {K : PySem.W.Frag} {H H' : Hp} {D p : Addr} {r : Row} {xs : List V} (h : StAt K H p r) (hD : H D = some (.lst xs)) (s : Sb D H H') : StAt K H' p r := by
  obtain ⟨dx, fs, u, hp, l1, l2, l3, l4, l5, hu⟩ := h
  exact ⟨dx, fs, u, s _ _ (ne_of hp hD (by intro z; cases z)) hp, l1, l2, l3, l4, l5, s _ _ (ne_of hu hD (by intro z; cases z)) hu⟩
theorem WyAt.sb {K : PySem.W.Frag} {H H' : Hp} {D p : Addr} {x : Int} {hs : List Int} {c : Int} {xs : List V} (h : WyAt K H p x hs c) (hD : H D = some (.lst xs)) (s : Sb D H H') : WyAt K H' p x hs c := by
  obtain ⟨dx, fs, u, hp, l2, l4, l5, hu⟩ := h
  exact ⟨dx, fs, u, s _ _ (ne_of hp hD (by intro z; cases z)) hp, l2, l4, l5, s _ _ (ne_of hu hD (by intro z; cases z)) hu⟩
theorem RouteAt.sb {H H' : Hp} {D t : Addr} {p : Pose} {xs : List V} (h : RouteAt H t p) (hD : H D = some (.lst xs)) (s : Sb D H H') : RouteAt H' t p := by
  obtain ⟨u, h1, h2⟩ := h
  exact ⟨u, s _ _ (ne_tl h1 hD) h1, s _ _ (ne_tl h2 hD) h2⟩
theorem PoseAt.sb {H H' : Hp} {D t : Addr} {p : Pose} {xs : List V} (h : PoseAt H t p) (hD : H D = some (.lst xs)) (s : Sb D H H') : PoseAt H' t p := by
  obtain ⟨u, h1, h2⟩ := h
  exact ⟨u, s _ _ (ne_tl h1 hD) h1, s _ _ (ne_tl h2 hD) h2⟩
theorem PoseAt.mono {H H' : Hp} {t : Addr} {p : Pose} (h : PoseAt H t p) (s : Same H H') : PoseAt H' t p := by
  obtain ⟨u, h1, h2⟩ := h; exact ⟨u, s _ _ h1, s _ _ h2⟩
theorem RouteAt.mono {H H' : Hp} {t : Addr} {p : Pose} (h : RouteAt H t p) (s : Same H H') : RouteAt H' t p := by
  obtain ⟨u, h1, h2⟩ := h; exact ⟨u, s _ _ h1, s _ _ h2⟩
theorem StAt.mono {K : PySem.W.Frag} {H H' : Hp} {p : Addr} {r : Row} (h : StAt K H p r) (s : Same H H') : StAt K H' p r := by
  obtain ⟨dx, fs, u, hp, l1, l2, l3, l4, l5, hu⟩ := h
  exact ⟨dx, fs, u, s _ _ hp, l1, l2, l3, l4, l5, s _ _ hu⟩
theorem WyAt.mono {K : PySem.W.Frag} {H H' : Hp} {p : Addr} {x : Int} {hs : List Int} {c : Int} (h : WyAt K H p x hs c) (s : Same H H') : WyAt K H' p x hs c := by
  obtain ⟨dx, fs, u, hp, l2, l4, l5, hu⟩ := h
  exact ⟨dx, fs, u, s _ _ hp, l2, l4, l5, s _ _ hu⟩
/-- the first n of xs are to those of ts as R says -/
structure Pw (R : Addr → Addr → Prop) (xs ts : List Addr) (n : Nat) : Prop where
  len : xs.length = n
  rel : ∀ (k : Nat) (x t : Addr), xs[k]? = some x → ts[k]? = some t → R x t
theorem Pw.nil {R : Addr → Addr → Prop} {ts : List Addr} : Pw R [] ts 0 := ⟨rfl, fun k x t h => nomatch h⟩
theorem Pw.snoc {R : Addr → Addr → Prop} {xs ts : List Addr} {n : Nat} {x t : Addr} (h : Pw R xs ts n) (ht : ts[n]? = some t) (r : R x t) : Pw R (xs ++ [x]) ts (n + 1) := by
  refine ⟨by rw [List.length_append, h.len]; rfl, fun k y w hy hw => ?_⟩
  have el := h.len
  by_cases hk : k < xs.length
  · rw [List.getElem?_append_left hk] at hy; exact h.rel k y w hy hw
  · rw [List.getElem?_append_right (by omega)] at hy
    have hk2 := (List.getElem?_eq_some_iff.mp hy).1
    have hk3 : k - xs.length = 0 := by rw [List.length_singleton] at hk2; omega
    rw [hk3] at hy
    have e1 : x = y := Option.some.inj hy
    have hki : k = n := by omega
    rw [hki, ht] at hw
    rw [← e1, ← Option.some.inj hw]
    exact r
theorem Pw.mono {R S : Addr → Addr → Prop} {xs ts : List Addr} {n : Nat} (h : Pw R xs ts n) (m : ∀ x t, R x t → S x t) : Pw S xs ts n := ⟨h.len, fun k x t hx ht => m x t (h.rel k x t hx ht)⟩
theorem Pw.get {R : Addr → Addr → Prop} {xs ts : List Addr} {n i : Nat} {t : Addr} (h : Pw R xs ts n) (hi : i < n) (ht : ts[i]? = some t) : ∃ x, xs[i]? = some x ∧ R x t := by
  have hl : i < xs.length := by rw [h.len]; exact hi
  exact ⟨_, List.getElem?_eq_getElem hl, h.rel i _ t (List.getElem?_eq_getElem hl) ht⟩
theorem mapR_get {ns : List Addr} {i : Nat} {x : V} (h : (ns.map V.ref)[i]? = some x) : ∃ n, x = V.ref n ∧ ns[i]? = some n := by
  rw [List.getElem?_map] at h
  cases e : ns[i]? with
  | none => rw [e] at h; cases h
  | some n => rw [e] at h; exact ⟨n, (Option.some.inj h).symm, rfl⟩
theorem map_snocR (zs : List Addr) (z : Addr) : (zs ++ [z]).map V.ref = zs.map V.ref ++ [V.ref z] := by rw [List.map_append]; rfl
theorem getR {xs : List Addr} {i : Nat} {s : Addr} (h : xs[i]? = some s) : (xs.map V.ref)[((0 : Int) + (i : Int)).toNat]? = some (.ref s) := by
  have : ((0 : Int) + (i : Int)).toNat = i := by omega
  rw [this, List.getElem?_map, h]; rfl
theorem pick_all {H : Hp} {ts : List Addr} {B : Int} (hp : ∀ t ∈ ts, ∃ p, PoseAt H t p ∧ Good p ∧ Fine B p) : ∃ f : Addr → Pose, ∀ t ∈ ts, PoseAt H t (f t) ∧ Good (f t) ∧ Fine B (f t) := by
  refine ⟨fun t => if h : t ∈ ts then (hp t h).choose else ⟨0, 0, 0, [], 0⟩, fun t ht => ?_⟩
  have e : (if h : t ∈ ts then (hp t h).choose else (⟨0, 0, 0, [], 0⟩ : Pose)) = (hp t ht).choose := dif_pos ht
  show PoseAt H t (if h : t ∈ ts then (hp t h).choose else (⟨0, 0, 0, [], 0⟩ : Pose)) ∧ Good (if h : t ∈ ts then (hp t h).choose else (⟨0, 0, 0, [], 0⟩ : Pose)) ∧ Fine B (if h : t ∈ ts then (hp t h).choose else (⟨0, 0, 0, [], 0⟩ : Pose))
  rw [e]
  exact (hp t ht).choose_spec
theorem len__law_pool {K : PySem.W.Frag} {vs : List V} {H : Hp} {Q : VK} {E : XK} (h : sp__law_pool K vs H Q E) : vs.length = P__law_pool.length := by
  obtain ⟨a, s, ts, rfl, _⟩ := h; rfl
theorem lst_ne_sb {H H' : Hp} {D b : Addr} {o : HO} (s : Sb D H H') (n : b ≠ D) (h : H b = some o) : H' b = some o := s b o n h
theorem pure__law_pool {K : PySem.W.Frag} (vs : List V) (H : Hp) (Q : VK) (E : XK) (h : sp__law_pool K vs H Q E) : r__law_pool K { nx := fun _ H' => Q .non H', rt := Q } (start N__law_pool vs) H := by
  obtain ⟨a, s, ts, rfl, hs, hl, hp, q⟩ := h
  obtain ⟨f, hf⟩ : ∃ f : Addr → Pose, ∀ t ∈ ts, PoseAt H t (f t) ∧ Good (f t) ∧ Fine 1000000000000 (f t) :=
    pick_all hp
  clear hp
  unfold r__law_pool
  acc_peel
  -- the things
  refine e_lc ?_
  refine i_list ?_
  acc_peel
  refine ⟨s, rfl, ⟨_, SqL.at hs⟩, fun D hD => lc_list (K := K) (a := s) (xs := ts.map V.ref) (fun i H' => Same H H' ∧ ∃ xs : List Addr, H' D = some (.lst (xs.map V.ref)) ∧ Pw (fun x t => StAt K H' x (f t).row) xs ts i)
    ⟨Same.new (Same.refl H) hD, [], upd_same, Pw.nil⟩ (fun i H' _ h => SqL.at (h.1 _ _ hs)) ?_ ?_⟩
  · rintro i x H1 hx ⟨sm, xs, h1, pw⟩
    obtain ⟨t, rfl, ht⟩ := mapR_get hx
    obtain ⟨p1, p2, p3⟩ := hf t (List.mem_of_getElem? ht)
    refine g_name ⟨rfl, ?_⟩
    refine t_yes ?_
    acc_peel
    refine ⟨t, f t, rfl, p1.mono sm, p2, p3, fun H2 z sm2 st => ?_⟩
    have hi : i < 10 := by have := (List.getElem?_eq_some_iff.mp ht).1; omega
    have hD2 := sm2 _ _ h1
    refine ⟨_, hD2, szl (by rw [List.length_map, pw.len]; omega), Same.mut (sm.trans sm2) hD, xs ++ [z], by rw [upd_same, map_snocR], ?_⟩
    have sb2 : Sb D H2 (upd H2 D (.lst (xs.map V.ref ++ [V.ref z]))) := Sb.own (Sb.refl D H2)
    exact (pw.mono fun x t r => (r.mono sm2).sb hD2 sb2).snoc ht (st.sb hD2 sb2)
  rintro H1 ⟨sm1, xs, h1, pw1⟩
  rw [List.length_map] at pw1
  acc_peel
  -- the routes
  refine e_lc ?_
  refine i_list ?_
  acc_peel
  have hs1 := sm1 _ _ hs
  refine ⟨s, rfl, ⟨_, SqL.at hs1⟩, fun D2 hD2 => lc_list (K := K) (a := s) (xs := ts.map V.ref) (fun i H' => Same H1 H' ∧ ∃ ys : List Addr, H' D2 = some (.lst (ys.map V.ref)) ∧ Pw (fun x t => RouteAt H' x (f t)) ys ts i)
    ⟨Same.new (Same.refl H1) hD2, [], upd_same, Pw.nil⟩ (fun i H' _ h => SqL.at (h.1 _ _ hs1)) ?_ ?_⟩
  · rintro i x H2 hx ⟨sm, ys, h2, pw⟩
    obtain ⟨t, rfl, ht⟩ := mapR_get hx
    obtain ⟨p1, p2, p3⟩ := hf t (List.mem_of_getElem? ht)
    obtain ⟨u, e1, e2⟩ := p1.mono (sm1.trans sm)
    refine g_name ⟨rfl, ?_⟩
    refine t_yes ?_
    acc_peel
    refine ⟨sz (by show 3 ≤ 100000; decide), fun z hz => ?_⟩
    have hi : i < 10 := by have := (List.getElem?_eq_some_iff.mp ht).1; omega
    have nDz : D2 ≠ z := ne_of_none h2 hz
    have sm2 : Same H2 (upd H2 z (.tup [.int (f t).x, .ref u, .int (f t).c])) := Same.new (Same.refl H2) hz
    have hD3 := sm2 _ _ h2
    refine ⟨_, hD3, szl (by rw [List.length_map, pw.len]; omega), Same.mut (sm.trans sm2) hD2, ys ++ [z], by rw [upd_same, map_snocR], ?_⟩
    have sb2 : Sb D2 (upd H2 z (.tup [.int (f t).x, .ref u, .int (f t).c])) (upd (upd H2 z (.tup [.int (f t).x, .ref u, .int (f t).c])) D2 (.lst (ys.map V.ref ++ [V.ref z]))) := Sb.own (Sb.refl D2 _)
    have rz : RouteAt (upd H2 z (.tup [.int (f t).x, .ref u, .int (f t).c])) z (f t) := ⟨u, upd_same, sm2 _ _ e2⟩
    exact (pw.mono fun x t r => (r.mono sm2).sb hD3 sb2).snoc ht (rz.sb hD3 sb2)
  rintro H2 ⟨sm2, ys, h2, pw2⟩
  rw [List.length_map] at pw2
  acc_peel
  -- the ways
  refine e_lc ?_
  refine i_list ?_
  acc_peel
  refine ⟨D2, rfl, ⟨_, SqL.at h2⟩, fun D3 hD3 => lc_list (K := K) (a := D2) (xs := ys.map V.ref) (fun i H' => Same H2 H' ∧ ∃ zs : List Addr, H' D3 = some (.lst (zs.map V.ref)) ∧ Pw (fun x t => WyAt K H' x (f t).x (f t).hs (f t).c) zs ts i)
    ⟨Same.new (Same.refl H2) hD3, [], upd_same, Pw.nil⟩ (fun i H' _ h => SqL.at (h.1 _ _ h2)) ?_ ?_⟩
  · rintro i x H3 hx ⟨sm, zs, h3, pw⟩
    obtain ⟨r, rfl, hr⟩ := mapR_get hx
    have hil : i < ts.length := by have := (List.getElem?_eq_some_iff.mp hr).1; have := pw2.len; omega
    have ht := List.getElem?_eq_getElem hil
    generalize ts[i] = t at ht
    obtain ⟨p1, p2, p3⟩ := hf t (List.mem_of_getElem? ht)
    obtain ⟨u, e1, e2⟩ := (pw2.rel i r t hr ht).mono sm
    refine g_name ⟨rfl, ?_⟩
    refine t_yes ?_
    acc_peel
    refine e_make ?_
    acc_peel
    intro w dx hw hdx hne
    have nuw : u ≠ w := ne_of_none e2 hw
    have nud : u ≠ dx := ne_of_none e2 hdx
    have fl := p3.lo
    have gy := p2.yx
    refine ⟨w, dx, u, (f t).x, (f t).hs, (f t).c, rfl, upd_same, upd_at nuw (upd_at nud e2), p2.up, p2.len, p2.c0, fun h hh => ?_, ?_, ?_, fun H4 sb wy => ⟨rfl, ?_⟩⟩
    · exact small_of (by have := asc_nonneg p2.up h hh; omega) (p3.hh h hh) (Int.le_refl _)
    · exact small_of (by have := p2.c0; omega) p3.cc (Int.le_refl _)
    · exact small_of (by omega) p3.hi (Int.le_refl _)
    have sm3 : Same H3 H4 := fun b o e => by
      have n1 : b ≠ w := ne_of_none e hw
      exact sb b o n1 (upd_at n1 (upd_at (ne_of_none e hdx) e))
    have hD4 := sm3 _ _ h3
    refine ⟨_, hD4, szl (by rw [List.length_map, pw.len]; omega), Same.mut (sm.trans sm3) hD3, zs ++ [w], by rw [upd_same, map_snocR], ?_⟩
    have sb2 : Sb D3 H4 (upd H4 D3 (.lst (zs.map V.ref ++ [V.ref w]))) := Sb.own (Sb.refl D3 _)
    exact (pw.mono fun x t r => (r.mono sm3).sb hD4 sb2).snoc ht (wy.sb hD4 sb2)
  rintro H3 ⟨sm3, zs, h3, pw3⟩
  rw [List.length_map, pw2.len] at pw3
  acc_peel
  -- all is laid: H3
  have sm13 : Same H H3 := (sm1.trans sm2).trans sm3
  have sm12 : Same H1 H3 := sm2.trans sm3
  have k1 := sm12 _ _ h1
  have k2 := sm3 _ _ h2
  have ks := sm13 _ _ hs
  replace pw1 := pw1.mono fun x t (r : StAt K H1 x (f t).row) => r.mono sm12
  replace pw2 := pw2.mono fun x t (r : RouteAt H2 x (f t)) => r.mono sm3
  replace hf : ∀ t ∈ ts, PoseAt H3 t (f t) ∧ Good (f t) ∧ Fine 1000000000000 (f t) := fun t ht => ⟨(hf t ht).1.mono sm13, (hf t ht).2⟩
  refine s_for ?_
  refine i_rng1 ?_
  acc_peel
  rw [List.length_map]
  refine ⟨_, rfl, by omega, by omega, for_range (lo := 0) (n := (ts.length : Int).toNat) (fun i σ H' => ∃ va vb : Option V, σ = [some (.ref a), some (.ref s), some (.ref D), some (.ref D2), none, some (.ref D3), none, va, vb] ∧ Same H3 H') ⟨none, none, rfl, Same.refl H3⟩ ?_ ?_⟩
  · rintro i σ H4 hi ⟨va, vb, rfl, sm4⟩
    have hil : i < ts.length := by omega
    have ht := List.getElem?_eq_getElem hil
    generalize ts[i] = t at ht
    obtain ⟨p1, p2, p3⟩ := hf t (List.mem_of_getElem? ht)
    obtain ⟨x1, hx1, st1⟩ := pw1.get hil ht
    obtain ⟨y1, hy1, rt1⟩ := pw2.get hil ht
    obtain ⟨z1, hz1, wt1⟩ := pw3.get hil ht
    acc_peel
    refine s_for ?_
    refine i_rng1 ?_
    acc_peel
    rw [List.length_map]
    refine ⟨_, rfl, by omega, by omega, for_range (lo := 0) (n := (ts.length : Int).toNat) (fun j σ H' => ∃ vb : Option V, σ = [some (.ref a), some (.ref s), some (.ref D), some (.ref D2), none, some (.ref D3), none, some (.int (0 + (i : Int))), vb] ∧ Same H3 H') ⟨vb, rfl, sm4⟩ ?_ ?_⟩
    · rintro j σ H5 hj ⟨vb, rfl, sm5⟩
      have hjl : j < ts.length := by omega
      have ht2 := List.getElem?_eq_getElem hjl
      generalize ts[j] = t2 at ht2
      obtain ⟨q1, q2, q3⟩ := hf t2 (List.mem_of_getElem? ht2)
      obtain ⟨x2, hx2, st2⟩ := pw1.get hjl ht2
      obtain ⟨y2, hy2, rt2⟩ := pw2.get hjl ht2
      obtain ⟨z2, hz2, wt2⟩ := pw3.get hjl ht2
      acc_peel
      refine r_ixL (SqL.at (sm5 _ _ k1)) (by omega) (getR hx1) ?_
      acc_peel
      refine r_ixL (SqL.at (sm5 _ _ k1)) (by omega) (getR hx2) ?_
      acc_peel
      refine ⟨x1, x2, (f t).row, (f t2).row, rfl, .inl (st1.mono sm5), .inl (st2.mono sm5), fun H6 sm6 => ?_⟩
      have sm36 := sm5.trans sm6
      acc_peel
      refine r_ixL (SqL.at (sm36 _ _ ks)) (by omega) (getR ht) ?_
      acc_peel
      refine r_ixL (SqL.at (sm36 _ _ ks)) (by omega) (getR ht2) ?_
      acc_peel
      refine ⟨t, t2, f t, f t2, rfl, p1.mono sm36, q1.mono sm36, p2, q2, fun H7 sm7 => ?_⟩
      have sm37 := sm36.trans sm7
      acc_peel
      refine ⟨_, _, rfl, ?_⟩
      rw [decide_eq_true (show covF (f t).row (f t2).row = overF (f t) (f t2) from rfl)]
      acc_peel
      refine r_ixL (SqL.at (sm37 _ _ h3)) (by omega) (getR hz1) ?_
      acc_peel
      refine r_ixL (SqL.at (sm37 _ _ h3)) (by omega) (getR hz2) ?_
      acc_peel
      refine ⟨z1, z2, _, _, rfl, .inr ⟨_, _, _, wt1.mono sm37, rfl⟩, .inr ⟨_, _, _, wt2.mono sm37, rfl⟩, fun H8 sm8 => ?_⟩
      have sm38 := sm37.trans sm8
      acc_peel
      refine r_ixL (SqL.at (sm38 _ _ k2)) (by omega) (getR hy1) ?_
      acc_peel
      refine r_ixL (SqL.at (sm38 _ _ k2)) (by omega) (getR hy2) ?_
      acc_peel
      refine ⟨y1, y2, f t, f t2, rfl, rt1.mono sm38, rt2.mono sm38, Nat.le_trans p2.len (by decide), fun H9 sm9 => ?_⟩
      acc_peel
      refine ⟨_, _, rfl, ?_⟩
      rw [decide_eq_true rfl]
      acc_peel
      exact ⟨_, rfl, sm38.trans sm9⟩
    · rintro σ H5 ⟨vb, rfl, sm5⟩
      acc_peel
      refine r_ixL (SqL.at (sm5 _ _ k1)) (by omega) (getR hx1) ?_
      acc_peel
      refine r_ixL (SqL.at (sm5 _ _ ks)) (by omega) (getR ht) ?_
      acc_peel
      refine ⟨t, f t, rfl, p1.mono sm5, p2, p3, fun H6 w sm6 stw => ?_⟩
      have sm36 := sm5.trans sm6
      acc_peel
      refine ⟨x1, w, (f t).row, (f t).row, rfl, .inl (st1.mono sm36), .inl stw, fun H7 sm7 => ?_⟩
      rw [cov_self]
      acc_peel
      show rNe (.int 0) (.int 0) _ _
      acc_peel
      refine i_ndec (fun z => absurd rfl z) (fun _ => ?_)
      acc_peel
      exact ⟨_, _, rfl, sm36.trans sm7⟩
  · rintro σ H4 ⟨va, vb, rfl, sm4⟩
    acc_peel
    exact q H4 (sm13.trans sm4)

/-! ### the law -/
theorem BagAt.mono {a c : Addr} {H H' : Hp} (h : BagAt a c H) (s : Same H H') : BagAt a c H' := by
  obtain ⟨cs, i, r, m, k, h1, nc, h2, x⟩ := h
  exact ⟨cs, i, r, m, k, s _ _ h1, nc, s _ _ h2, x⟩
theorem Fine.mono {B C : Int} {p : Pose} (f : Fine B p) (h : B ≤ C) : Fine C p := by
  obtain ⟨h1, h2, h3, h4⟩ := f
  exact ⟨by omega, by omega, fun x hx => Int.le_trans (h3 x hx) h, by omega⟩
theorem as_refs {P : Addr → Prop} : ∀ {ys : List V}, (∀ y ∈ ys, ∃ t, y = V.ref t ∧ P t) → ∃ ts : List Addr, ys = ts.map V.ref ∧ ∀ t ∈ ts, P t
  | [], _ => ⟨[], rfl, fun _ h => nomatch h⟩
  | y :: ys, h => by
    obtain ⟨t, rfl, pt⟩ := h y (.head _)
    obtain ⟨ts, rfl, pts⟩ := as_refs (fun z hz => h z (.tail _ hz))
    refine ⟨t :: ts, rfl, fun x hx => ?_⟩
    rcases List.mem_cons.mp hx with e | e
    · rw [e]; exact pt
    · exact pts x e
def Fit (H : Hp) (t : Addr) : Prop := ∃ p, PoseAt H t p ∧ Good p ∧ Fine 1000000000000 p
theorem Fit.sb {H H' : Hp} {D t : Addr} {xs : List V} (h : Fit H t) (hD : H D = some (.lst xs)) (s : Sb D H H') : Fit H' t := by
  obtain ⟨p, h1, h2⟩ := h; exact ⟨p, h1.sb hD s, h2⟩
theorem Fit.mono {H H' : Hp} {t : Addr} (h : Fit H t) (s : Same H H') : Fit H' t := by
  obtain ⟨p, h1, h2⟩ := h; exact ⟨p, h1.mono s, h2⟩
theorem PoseAt.bag {H H' : Hp} {a c t : Addr} {p : Pose} (h : PoseAt H t p) (hb : BagAt a c H) (s : Sb a H H') : PoseAt H' t p := by
  obtain ⟨_, hD⟩ := hb.some; exact h.sb hD s
theorem Fit.bag {H H' : Hp} {a c t : Addr} (h : Fit H t) (hb : BagAt a c H) (s : Sb a H H') : Fit H' t := by
  obtain ⟨_, hD⟩ := hb.some; exact h.sb hD s
theorem len_law {K : PySem.W.Frag} {vs : List V} {H : Hp} {Q : VK} {E : XK} (h : sp_law K vs H Q E) : vs.length = P_law.length := by
  obtain ⟨a, ns, rfl, _⟩ := h; rfl
theorem pure_law {K : PySem.W.Frag} (vs : List V) (H : Hp) (Q : VK) (E : XK) (h : sp_law K vs H Q E) : r_law K { nx := fun _ H' => Q .non H', rt := Q } (start N_law vs) H := by
  obtain ⟨sc, ns, rfl, hs, hl, q⟩ := h
  unfold r_law
  acc_peel
  refine ⟨sc, ns, rfl, hs, hl, fun H0 a c _ _ hb0 => ?_⟩
  acc_peel
  refine s_for ?_
  refine i_rng1 ?_
  acc_peel
  refine ⟨_, rfl, by decide, by decide, for_range (lo := 0) (n := (5 : Int).toNat) (fun i σ H' => ∃ v2 v3 v4 v5 v6 v7 v8 v9 : Option V, σ = [some (.ref sc), some (.ref a), v2, v3, v4, v5, v6, v7, v8, v9] ∧ BagAt a c H') ⟨none, none, none, none, none, none, none, none, rfl, hb0⟩ ?_ ?_⟩
  · rintro i σ H1 hi ⟨v2, v3, v4, v5, v6, v7, v8, v9, rfl, hb1⟩
    acc_peel
    refine ⟨a, c, _, rfl, hb1, by decide, by decide, fun H2 d sb2 hb2 d0 d1 => ?_⟩
    acc_peel
    refine ⟨a, c, d, 5, rfl, hb2, d0, by omega, by decide, by decide, fun H3 t p sb3 hb3 tp gp fp => ?_⟩
    acc_peel
    refine ⟨sz (by decide), fun p1 hp1 => ?_⟩
    acc_peel
    refine x_of (ns := [0, 1, 2, 0, 3, 7, 5000]) (lo := 0) (hi := 5000) hb3 hp1 (by decide) (by decide) (by decide) (fun H4 g sb4 hb4 g0 g1 => ?_)
    acc_peel
    refine ⟨sz (by decide), fun p2 hp2 => ?_⟩
    acc_peel
    refine x_of (ns := [0, 1, 2, 0, 10000000]) (lo := 0) (hi := 10000000) hb4 hp2 (by decide) (by decide) (by decide) (fun H5' h sb5 hb5' h0 h1 => ?_)
    have tp5' := (tp.bag hb3 sb4).bag hb4 sb5
    acc_peel
    refine ⟨sz (by show 2 ≤ 100000; decide), fun pT hT => ?_⟩
    refine g_tup (SqT.at upd_same) rfl ?_
    have hb5 := hb5'.new (o := .tup [.int g, .int h]) hT
    have tp5 := tp5'.mono (Same.new (o := .tup [.int g, .int h]) (Same.refl _) hT)
    acc_peel
    refine ⟨a, c, t, p, g, 1000, rfl, hb5, tp5, gp, fp, by decide, g0, fun H6 t2 p2 sb6 hb6 tp2 gp2 fp2 ov2 => ?_⟩
    have tp6 := tp5.bag hb5 sb6
    acc_peel
    refine ⟨a, c, t2, p2, h, 1000 + g + 10, rfl, hb6, tp2, gp2, fp2, by omega, h0, fun H7 t3 p3 sb7 hb7 tp3 gp3 fp3 ov3 => ?_⟩
    have tp7 := tp6.bag hb6 sb7
    have tp27 := tp2.bag hb6 sb7
    have f1 : Fine 1000000000000 p := fp.mono (by decide)
    have f2 : Fine 1000000000000 p2 := fp2.mono (by omega)
    have f3 : Fine 1000000000000 p3 := fp3.mono (by omega)
    acc_peel
    refine ⟨t2, p2, rfl, tp27, gp2, f2, fun H8 s2 sm8 st2 => ?_⟩
    acc_peel
    refine ⟨t, p, rfl, tp7.mono sm8, gp, f1, fun H9 s1 sm9 st1 => ?_⟩
    acc_peel
    refine ⟨s2, s1, _, _, rfl, .inl (st2.mono sm9), .inl st1, fun H10 sm10 => ?_⟩
    have o2 : ∃ k, covF p2.row p.row = some k := Option.ne_none_iff_exists'.mp ov2
    obtain ⟨k2, e2⟩ := o2
    rw [e2]
    acc_peel
    show rIsN0 (.int k2) .non _ _
    acc_peel
    have sm7 := (sm8.trans sm9).trans sm10
    refine ⟨t3, p3, rfl, tp3.mono sm7, gp3, f3, fun H11 s3 sm11 st3 => ?_⟩
    acc_peel
    refine ⟨t, p, rfl, tp7.mono (sm7.trans sm11), gp, f1, fun H12 s4 sm12 st4 => ?_⟩
    acc_peel
    refine ⟨s3, s4, _, _, rfl, .inl (st3.mono sm12), .inl st4, fun H13 sm13 => ?_⟩
    have o3 : ∃ k, covF p3.row p.row = some k := Option.ne_none_iff_exists'.mp (cov_trans ov3 ov2)
    obtain ⟨k3, e3⟩ := o3
    rw [e3]
    acc_peel
    show rIsN0 (.int k3) .non _ _
    acc_peel
    have smA := ((sm7.trans sm11).trans sm12).trans sm13
    have hb13 := hb7.mono smA
    have a1 := tp7.mono smA
    have a2 := tp27.mono smA
    have a3 := tp3.mono smA
    clear sm8 sm9 sm10 sm11 sm12 sm13 st1 st2 st3 st4 sm7 smA e2 e3
    refine ⟨sz (by show 3 ≤ 100000; decide), fun l hl0 => ?_⟩
    have hbL := hb13.new (o := .lst [.ref t, .ref t2, .ref t3]) hl0
    have smL : Same H13 (upd H13 l (.lst [.ref t, .ref t2, .ref t3])) := Same.new (Same.refl _) hl0
    have nla := hb13.na hl0
    have nlc := hb13.nc hl0
    acc_peel
    refine e_lc ?_
    refine i_rng1 ?_
    acc_peel
    refine ⟨_, rfl, by decide, by decide, fun D hD => lc_range (lo := 0) (n := (3 : Int).toNat) (fun i H' => BagAt a c H' ∧ Sb a (upd H13 l (.lst [.ref t, .ref t2, .ref t3])) H' ∧ ∃ xs : List Addr, H' D = some (.lst (xs.map V.ref)) ∧ xs.length = i ∧ ∀ x ∈ xs, Fit H' x)
      ⟨hbL.new hD, Sb.new (Sb.refl _ _) hD, [], upd_same, rfl, (fun _ h => nomatch h)⟩ ?_ ?_⟩
    · rintro k H14 hk ⟨hb14, sb14, xs, hD14, el, fx⟩
      have nDa := hbL.na hD
      have nDc := hbL.nc hD
      refine g_name ⟨rfl, ?_⟩
      refine t_yes ?_
      acc_peel
      refine ⟨sz (by show 4 ≤ 100000; decide), fun p3 hp3 => ?_⟩
      acc_peel
      refine x_of (ns := [0, 1, 2, g]) (lo := 0) (hi := 5000) hb14 hp3 (by show 4 ≠ 0; decide) (by show 4 ≤ 1000; decide) (fun d hd => ?_) (fun H15 w sb15 hb15 w0 w1 => ?_)
      · have hd' : d = 0 ∨ d = 1 ∨ d = 2 ∨ d = g := by simpa using hd
        omega
      have tp15 := ((a1.mono smL).bag hbL sb14).bag hb14 sb15
      acc_peel
      refine ⟨a, c, t, p, w, 1000, rfl, hb15, tp15, gp, fp, by decide, w0, fun H16 t4 p4 sb16 hb16 tp4 gp4 fp4 => ?_⟩
      have hD15 := sb15 _ _ nDa.symm hD14
      have hD16 := sb16 _ _ nDa.symm hD15
      refine ⟨_, hD16, szl (by rw [List.length_map]; omega), hb16.mut nDa nDc, Sb.mut ((sb14.trans sb15).trans sb16) hD, xs ++ [t4], by rw [upd_same, map_snocR], by rw [List.length_append, el]; rfl, fun x hx => ?_⟩
      have sbD : Sb D H16 (upd H16 D (.lst (xs.map V.ref ++ [V.ref t4]))) := Sb.own (Sb.refl D _)
      rcases List.mem_append.mp hx with z | z
      · exact (((fx x z).bag hb14 sb15).bag hb15 sb16).sb hD16 sbD
      · rw [List.mem_singleton.mp z]
        exact ⟨p4, tp4.sb hD16 sbD, gp4, fp4.mono (by omega)⟩
    · rintro H14 ⟨hb14, sb14, xs, hD14, el, fx⟩
      have nDa := hbL.na hD
      have el' : xs.length = 3 := el
      have hl14 : H14 l = some (.lst ([t, t2, t3].map V.ref)) := sb14 _ _ nla.symm upd_same
      refine r_cat hl14 hD14 (sz (by rw [List.length_map, List.length_map, el']; show 6 ≤ 100000; decide)) (fun m hm => ?_)
      rw [← List.map_append]
      have hb15 := hb14.new (o := .lst (([t, t2, t3] ++ xs).map V.ref)) hm
      have sm15 : Same H14 (upd H14 m (.lst (([t, t2, t3] ++ xs).map V.ref))) := Same.new (Same.refl _) hm
      have b1 := (a1.mono smL).bag hbL sb14
      have b2 := (a2.mono smL).bag hbL sb14
      have b3 := (a3.mono smL).bag hbL sb14
      have all : ∀ y ∈ [t, t2, t3] ++ xs, Fit (upd H14 m (.lst (([t, t2, t3] ++ xs).map V.ref))) y := fun y hy => by
        refine Fit.mono ?_ sm15
        rcases List.mem_append.mp hy with z | z
        · have z' : y = t ∨ y = t2 ∨ y = t3 := by simpa using z
          rcases z' with rfl | rfl | rfl
          · exact ⟨p, b1, gp, f1⟩
          · exact ⟨p2, b2, gp2, f2⟩
          · exact ⟨p3, b3, gp3, f3⟩
        · exact fx y z
      have e6 : (([t, t2, t3] ++ xs).map V.ref).length = 6 := by rw [List.length_map, List.length_append, el']; rfl
      generalize hu : ([t, t2, t3] ++ xs) = us at all hb15 sm15 e6
      acc_peel
      refine ⟨a, c, m, us.map V.ref, rfl, hb15, (hb14.na hm).symm, upd_same, by rw [e6]; decide, fun H16 r ys hr sb16 hb16 hr16 ly my => ?_⟩
      obtain ⟨ts, rfl, fts⟩ := as_refs (P := Fit H16) (ys := ys) (fun y hy => by
        obtain ⟨t', ht', rfl⟩ := List.mem_map.mp (my y hy)
        exact ⟨t', rfl, (all t' ht').bag hb15 sb16⟩)
      acc_peel
      refine ⟨a, r, ts, rfl, hr16, by rw [List.length_map, e6] at ly; omega, fts, fun H17 sm17 => ?_⟩
      acc_peel
      exact ⟨_, _, _, _, _, _, _, _, rfl, hb16.mono sm17⟩
  · rintro σ H1 ⟨v2, v3, v4, v5, v6, v7, v8, v9, rfl, hb1⟩
    acc_peel
    exact q H1

/-! ### each def keeps its promise -/
structure Txt (K : PySem.W.Frag) (mg : Str → Option Value) : Prop where
  n_bool : mg "bool" = none
  n_int : mg "int" = none
  n_isinstance : mg "isinstance" = none
  n_len : mg "len" = none
  n_list : mg "list" = none
  n_max : mg "max" = none
  n_min : mg "min" = none
  n_range : mg "range" = none
  n_str : mg "str" = none
  n_tuple : mg "tuple" = none
  n_zip : mg "zip" = none
  i_MOST_HEIGHTS : ∃ t, mg "MOST_HEIGHTS" = some (.int 4 t)
  c_Way : mg "Way" = some (.ref (He.ga K "Way"))
section
variable {P : Program} {w : World} {K : PySem.W.Frag} {mg : Str → Option Value} {base : Heap}
theorem ok_heights_stand {f : Addr} {fd : FuncData} {dvs : List V} {kws : List (Str × V)} (F : FunD K "heights_stand" "heights_stand" (defArgs s_heights_stand) (defBody s_heights_stand) (defScope s_heights_stand) dvs kws f fd) (T : Txt K mg) : FnOk P w K mg base CX0 1 f fd P_heights_stand (sp_heights_stand K) := by
  refine F.ok sc_heights_stand (fun vs H Q E h => len_heights_stand h) (fun cdv A outer s H vs Q E hr h => ⟨r_heights_stand K, PSs.nox ?_, pure_heights_stand vs H Q E h⟩)
  exact (pss_cons (ps_set (i := 1) sc_heights_stand.nd rfl (Or.inl rfl) pe_int)
  (pss_cons (ps_for PassesOwn.never rfl (pi_tup (pv 0)) (pg_name (i := 2) sc_heights_stand.nd rfl (Or.inl rfl))
   (pss_cons (ps_if (pt_cmpR op_lt (pv 2) (pv 1) (nomark _)) (pss_one (ps_ret pe_bl)) pss_nil)
  (pss_one (ps_set (i := 1) sc_heights_stand.nd rfl (Or.inl rfl) (pv 2)))))
  (pss_one (ps_ret (pe_cmpR op_le (pe_callB call_len_seq (by rfl) T.n_len boot_len (pa_cons (pv 0) pa_nil)) (pe_glob rfl T.i_MOST_HEIGHTS.choose_spec ⟨_, rfl⟩) (nomark _))))))
theorem ok_ends_text {f : Addr} {fd : FuncData} {dvs : List V} {kws : List (Str × V)} (F : FunD K "ends_text" "ends_text" (defArgs s_ends_text) (defBody s_ends_text) (defScope s_ends_text) dvs kws f fd) (T : Txt K mg) : FnOk P w K mg base CX0 1 f fd P_ends_text (sp_ends_text K) := by
  refine F.ok sc_ends_text (fun vs H Q E h => len_ends_text h) (fun cdv A outer s H vs Q E hr h => ⟨r_ends_text K, PSs.nox ?_, pure_ends_text vs H Q E h⟩)
  exact (pss_cons (ps_set (i := 2) sc_ends_text.nd rfl (Or.inl rfl) (pe_lst (pa_cons pe_str pa_nil)))
  (C8.pss_cut (ps_if (pt_truth (pv 0) (by intro _; rfl)) (pss_one (ps_expr (pe_bm PySem.F.plainAttrs_list PySem.F.slot_list_append PySem.F.type_list_append mt_append (pv 2) (pa_cons pe_str pa_nil)))) pss_nil)
  (pss_cons (ps_expr (pe_bm PySem.F.plainAttrs_list PySem.F.slot_list_extend PySem.F.type_list_extend mt_extend (pv 2) (pa_cons (pe_lc (own := [("height", 3)]) (by rfl) sc_ends_text.nd (pi_tup (pv 0)) (blkOk_by (own := [("height", 3)]) (N := N_ends_text) (sc := defScope s_ends_text) (by decide +kernel))
     (fun _ _ _ _ _ => (pg_name (i := 3) sc_ends_text.nd rfl (Or.inl rfl))) (fun _ _ _ _ _ => pts_nil) (fun _ _ _ _ _ => (pe_callTy call_str_int (by rfl) T.n_str (by decide +kernel) (pa_cons (pv 3) pa_nil)))) pa_nil)))
  (C8.pss_cut (ps_if (pt_cmpR op_gt (pv 1) pe_int (nomark _)) (pss_one (ps_expr (pe_bm PySem.F.plainAttrs_list PySem.F.slot_list_append PySem.F.type_list_append mt_append (pv 2) (pa_cons (pe_joined (PJ.cons pe_str (PJ.cons (pe_fmt (pv 1)) PJ.nil))) pa_nil)))) pss_nil)
  (pss_one (ps_ret (pe_bm PySem.F.plainAttrs_str PySem.F.slot_str_join PySem.F.type_str_join mt_join pe_str (pa_cons (pv 2) pa_nil))))))))
theorem ok_gap {f : Addr} {fd : FuncData} {dvs : List V} {kws : List (Str × V)} (F : FunD K "gap" "gap" (defArgs s_gap) (defBody s_gap) (defScope s_gap) dvs kws f fd) (T : Txt K mg) : FnOk P w K mg base CX0 1 f fd P_gap (sp_gap K) := by
  refine F.ok sc_gap (fun vs H Q E h => len_gap h) (fun cdv A outer s H vs Q E hr h => ⟨r_gap K, PSs.nox ?_, pure_gap vs H Q E h⟩)
  exact (pss_cons (ps_set (i := 2) sc_gap.nd rfl (Or.inl rfl) pe_int)
  (pss_cons (ps_for PassesOwn.never rfl (RZ.pi_zipA (by rfl) T.n_zip (pa_cons (pv 0) (pa_cons (pv 1) pa_nil))) (pg_tup (by rfl) (pgs_cons (pg_name (i := 3) sc_gap.nd rfl (Or.inl rfl)) (pgs_cons (pg_name (i := 4) sc_gap.nd rfl (Or.inl rfl)) pgs_nil)))
   (pss_one (ps_if (pt_cmpR op_gt (pe_op op_sub (pv 3) (pv 4)) (pv 2) (nomark _)) (pss_one (ps_set (i := 2) sc_gap.nd rfl (Or.inl rfl) (pe_op op_sub (pv 3) (pv 4)))) pss_nil)))
  (pss_one (ps_ret (pv 2)))))
theorem ok_covering_gap {f : Addr} {fd : FuncData} {dvs : List V} {kws : List (Str × V)} (F : FunD K "covering_gap" "covering_gap" (defArgs s_covering_gap) (defBody s_covering_gap) (defScope s_covering_gap) dvs kws f fd) (T : Txt K mg) (C_gap : Cal P w K mg base 1 "gap" P_gap (sp_gap K)) : FnOk P w K mg base CX0 2 f fd P_covering_gap (sp_covering_gap K) := by
  refine F.ok sc_covering_gap (fun vs H Q E h => len_covering_gap h) (fun cdv A outer s H vs Q E hr h => ⟨r_covering_gap K, PSs.nox ?_, pure_covering_gap vs H Q E h⟩)
  exact (pss_cons (ps_if (PW.pt (pw_or (pt_cmpR op_ne (pe_ix ix_tup (pv 0) pe_int (fun _ _ => rfl)) (pe_ix ix_tup (pv 1) pe_int (fun _ _ => rfl)) (nomark _)) (pw_or (pt_cmpR op_ne (pe_callB call_len_seq (by rfl) T.n_len boot_len (pa_cons (pe_ix ix_tup (pv 0) pe_int (fun _ _ => rfl)) pa_nil)) (pe_callB call_len_seq (by rfl) T.n_len boot_len (pa_cons (pe_ix ix_tup (pv 1) pe_int (fun _ _ => rfl)) pa_nil)) (nomark _)) (pw_or1 (pt_cmpR op_gt (pe_ix ix_tup (pv 0) pe_int (fun _ _ => rfl)) (pe_ix ix_tup (pv 1) pe_int (fun _ _ => rfl)) (nomark _)))))) (pss_one (ps_ret pe_non)) pss_nil)
  (pss_cons (ps_set (i := 2) sc_covering_gap.nd rfl (Or.inl rfl) (pe_callC C_gap hr rfl (pa_cons (pe_ix ix_tup (pv 0) pe_int (fun _ _ => rfl)) (pa_cons (pe_ix ix_tup (pv 1) pe_int (fun _ _ => rfl)) pa_nil))))
  (pss_cons (ps_if (PW.pt (pw_or (pt_cmpR op_lt (pe_ix ix_tup (pv 0) pe_int (fun _ _ => rfl)) (pe_op op_add (pe_ix ix_tup (pv 1) pe_int (fun _ _ => rfl)) (pv 2)) (nomark _)) (pw_or1 (pt_cmpR op_lt (pe_ix ix_tup (pv 0) pe_int (fun _ _ => rfl)) (pe_op op_add (pe_ix ix_tup (pv 1) pe_int (fun _ _ => rfl)) (pv 2)) (nomark _))))) (pss_one (ps_ret pe_non)) pss_nil)
  (pss_one (ps_ret (pv 2))))))
theorem ok_ask_ends {f : Addr} {fd : FuncData} {dvs : List V} {kws : List (Str × V)} (F : FunD K "ask_ends" "ask_ends" (defArgs s_ask_ends) (defBody s_ask_ends) (defScope s_ask_ends) dvs kws f fd) (T : Txt K mg) (C_heights_stand : Cal P w K mg base 1 "heights_stand" P_heights_stand (sp_heights_stand K)) : FnOk P w K mg base CX0 2 f fd P_ask_ends (sp_ask_ends K) := by
  refine F.ok sc_ask_ends (fun vs H Q E h => len_ask_ends h) (fun cdv A outer s H vs Q E hr h => ⟨r_ask_ends K, PSs.nox ?_, pure_ask_ends vs H Q E h⟩)
  exact (pss_cons (ps_if (pt_not (pt_val (pe_callC C_heights_stand hr rfl (pa_cons (pv 0) pa_nil)))) pss_never pss_nil)
  (pss_one (ps_if (pt_cmpR op_lt (pv 1) pe_int (nomark _)) pss_never pss_nil)))
theorem ok_Standing___init__ {f : Addr} {fd : FuncData} {dvs : List V} {kws : List (Str × V)} (F : FunD K "__init__" "Standing.__init__" (defArgs s_Standing___init__) (defBody s_Standing___init__) (defScope s_Standing___init__) dvs kws f fd) (T : Txt K mg) (kf : KF K) (C_ask_ends : Cal P w K mg base 2 "ask_ends" P_ask_ends (sp_ask_ends K)) (C_ends_text : Cal P w K mg base 2 "ends_text" P_ends_text (sp_ends_text K)) : FnOk P w K mg base CX0 3 f fd P_Standing___init__ (sp_Standing___init__ K) := by
  refine F.ok sc_Standing___init__ (fun vs H Q E h => len_Standing___init__ h) (fun cdv A outer s H vs Q E hr h => ⟨r_Standing___init__ K, PSs.nox ?_, pure_Standing___init__ kf vs H Q E h⟩)
  exact (C8.pss_cut (ps_if (PW.pt (pw_or (pt_cmpR op_lt (pv 2) (pv 3) (nomark _)) (pw_or1 (PW.pt (pw_and (pt_truth (pv 1) (by intro _; rfl)) (pw_and1 (pt_cmpR op_ne (pv 2) (pv 3) (nomark _)))))))) pss_never pss_nil)
  (pss_cons (ps_expr (pe_callC C_ask_ends hr rfl (pa_cons (pv 4) (pa_cons (pv 5) pa_nil))))
  (pss_cons (ps_fld (pv 0) (pv 1) rfl)
  (pss_cons (ps_fld (pv 0) (pv 2) rfl)
  (pss_cons (ps_fld (pv 0) (pv 3) rfl)
  (pss_cons (ps_fld (pv 0) (pe_callTy call_tuple_of (by rfl) T.n_tuple (by decide +kernel) (pa_cons (pv 4) pa_nil)) rfl)
  (pss_cons (ps_fld (pv 0) (pv 5) rfl)
  (C8.pss_cut (ps_set (i := 6) sc_Standing___init__.nd rfl (Or.inl rfl) (pe_ifExp (pt_truth (pv 1) (by intro _; rfl)) pe_str pe_str))
  (pss_one (ps_fld (pv 0) (pe_joined (PJ.cons (pe_fmt (pv 6)) (PJ.cons pe_str (PJ.cons (pe_fmt (pv 2)) (PJ.cons pe_str (PJ.cons (pe_fmt (pv 3)) (PJ.cons (pe_fmt (pe_callC C_ends_text hr rfl (pa_cons (pe_fld (pv 0) rfl) (pa_cons (pv 5) pa_nil)))) PJ.nil))))))) rfl))))))))))
theorem ok_Way___init__ {f : Addr} {fd : FuncData} {dvs : List V} {kws : List (Str × V)} (F : FunD K "__init__" "Way.__init__" (defArgs s_Way___init__) (defBody s_Way___init__) (defScope s_Way___init__) dvs kws f fd) (T : Txt K mg) (kf : KF K) (C_ask_ends : Cal P w K mg base 2 "ask_ends" P_ask_ends (sp_ask_ends K)) (C_ends_text : Cal P w K mg base 2 "ends_text" P_ends_text (sp_ends_text K)) : FnOk P w K mg base CX0 3 f fd P_Way___init__ (sp_Way___init__ K) := by
  refine F.ok sc_Way___init__ (fun vs H Q E h => len_Way___init__ h) (fun cdv A outer s H vs Q E hr h => ⟨r_Way___init__ K, PSs.nox ?_, pure_Way___init__ kf vs H Q E h⟩)
  exact (pss_cons (ps_expr (pe_callC C_ask_ends hr rfl (pa_cons (pv 2) (pa_cons (pv 3) pa_nil))))
  (pss_cons (ps_fld (pv 0) (pv 1) rfl)
  (pss_cons (ps_fld (pv 0) (pe_callTy call_tuple_of (by rfl) T.n_tuple (by decide +kernel) (pa_cons (pv 2) pa_nil)) rfl)
  (pss_cons (ps_fld (pv 0) (pv 3) rfl)
  (pss_one (ps_fld (pv 0) (pe_joined (PJ.cons pe_str (PJ.cons (pe_fmt (pv 1)) (PJ.cons (pe_fmt (pe_callC C_ends_text hr rfl (pa_cons (pe_fld (pv 0) rfl) (pa_cons (pv 3) pa_nil)))) PJ.nil)))) rfl))))))
theorem ok_row_of {f : Addr} {fd : FuncData} {dvs : List V} {kws : List (Str × V)} (F : FunD K "row_of" "row_of" (defArgs s_row_of) (defBody s_row_of) (defScope s_row_of) dvs kws f fd) (T : Txt K mg) (kf : KF K) : FnOk P w K mg base CX0 1 f fd P_row_of (sp_row_of K) := by
  refine F.ok sc_row_of (fun vs H Q E h => len_row_of h) (fun cdv A outer s H vs Q E hr h => ⟨r_row_of K, PSs.nox ?_, pure_row_of kf vs H Q E h⟩)
  exact (pss_cons (ps_if (pt_val (pe_callB call_isi (by rfl) T.n_isinstance (by decide +kernel) (pa_cons (pv 0) (pa_cons (pe_glob rfl T.c_Way rfl) pa_nil)))) (pss_one (ps_ret (pe_tup (pa_cons pe_bl (pa_cons (pe_fld (pv 0) rfl) (pa_cons (pe_fld (pv 0) rfl) (pa_cons (pe_fld (pv 0) rfl) (pa_cons (pe_fld (pv 0) rfl) pa_nil)))))))) pss_nil)
  (pss_one (ps_ret (pe_tup (pa_cons (pe_fld (pv 0) rfl) (pa_cons (pe_fld (pv 0) rfl) (pa_cons (pe_fld (pv 0) rfl) (pa_cons (pe_fld (pv 0) rfl) (pa_cons (pe_fld (pv 0) rfl) pa_nil)))))))))
theorem ok_covers {f : Addr} {fd : FuncData} {dvs : List V} {kws : List (Str × V)} (F : FunD K "covers" "covers" (defArgs s_covers) (defBody s_covers) (defScope s_covers) dvs kws f fd) (T : Txt K mg) (C_covering_gap : Cal P w K mg base 2 "covering_gap" P_covering_gap (sp_covering_gap K)) (C_row_of : Cal P w K mg base 2 "row_of" P_row_of (sp_row_of K)) : FnOk P w K mg base CX0 3 f fd P_covers (sp_covers K) := by
  refine F.ok sc_covers (fun vs H Q E h => len_covers h) (fun cdv A outer s H vs Q E hr h => ⟨r_covers K, PSs.nox ?_, pure_covers vs H Q E h⟩)
  exact (pss_one (ps_ret (pe_callC C_covering_gap hr rfl (pa_cons (pe_callC C_row_of hr rfl (pa_cons (pv 0) pa_nil)) (pa_cons (pe_callC C_row_of hr rfl (pa_cons (pv 1) pa_nil)) pa_nil)))))
theorem ok__law_bag {f : Addr} {fd : FuncData} {dvs : List V} {kws : List (Str × V)} (F : FunD K "_law_bag" "_law_bag" (defArgs s__law_bag) (defBody s__law_bag) (defScope s__law_bag) dvs kws f fd) (T : Txt K mg) : FnOk P w K mg base CX0 1 f fd P__law_bag (sp__law_bag K) := by
  refine F.ok sc__law_bag (fun vs H Q E h => len__law_bag h) (fun cdv A outer s H vs Q E hr h => ⟨r__law_bag K, PSs.nox ?_, pure__law_bag vs H Q E h⟩)
  exact (pss_cons (ps_set (i := 1) sc__law_bag.nd rfl (Or.inl rfl) pe_int)
  (pss_cons (ps_for PassesOwn.never rfl (pi_list (pe_slice sl_list (pv 0) po_none (po_some pe_int))) (pg_name (i := 2) sc__law_bag.nd rfl (Or.inl rfl))
   (pss_one (ps_set (i := 1) sc__law_bag.nd rfl (Or.inl rfl) (pe_op op_mod (pe_callTy call_int1 (by rfl) T.n_int (by decide +kernel) (pa_cons (pe_op op_add (pe_op op_add (pe_op op_mul (pv 1) pe_int) (pe_op op_mod (pe_callTy call_int1 (by rfl) T.n_int (by decide +kernel) (pa_cons (pv 2) pa_nil)) pe_int)) pe_int) pa_nil)) pe_int))))
  (pss_one (ps_ret (pe_lst (pa_cons (pe_callTy call_list_of (by rfl) T.n_list (by decide +kernel) (pa_cons (pe_slice sl_list (pv 0) po_none (po_some pe_int)) pa_nil)) (pa_cons pe_int (pa_cons pe_int (pa_cons (pv 1) (pa_cons pe_int pa_nil))))))))))
theorem ok__law_draw {f : Addr} {fd : FuncData} {dvs : List V} {kws : List (Str × V)} (F : FunD K "_law_draw" "_law_draw" (defArgs s__law_draw) (defBody s__law_draw) (defScope s__law_draw) dvs kws f fd) (T : Txt K mg) : FnOk P w K mg base CX0 1 f fd P__law_draw (sp__law_draw K) := by
  refine F.ok sc__law_draw (fun vs H Q E h => len__law_draw h) (fun cdv A outer s H vs Q E hr h => ⟨r__law_draw K, PSs.nox ?_, pure__law_draw vs H Q E h⟩)
  exact (pss_cons (ps_asg (pe_op op_add (pe_ix ix_list (pv 0) pe_int (fun _ _ => rfl)) pe_int) (pg_sub (pv 0) pe_int set_list))
  (C8.pss_cut (ps_if (PW.pt (pw_and (pt_cmpR op_eq (pe_ix ix_list (pv 0) pe_int (fun _ _ => rfl)) pe_int (nomark _)) (pw_and1 (pt_cmpR op_lt (pe_ix ix_list (pv 0) pe_int (fun _ _ => rfl)) (pe_callB call_len_seq (by rfl) T.n_len boot_len (pa_cons (pe_ix ix_list (pv 0) pe_int (fun _ _ => rfl)) pa_nil)) (nomark _))))) (pss_cons (ps_set (i := 2) sc__law_draw.nd rfl (Or.inl rfl) (pe_callTy call_int1 (by rfl) T.n_int (by decide +kernel) (pa_cons (pe_ix ix_list (pe_ix ix_list (pv 0) pe_int (fun _ _ => rfl)) (pe_ix ix_list (pv 0) pe_int (fun _ _ => rfl)) (fun _ _ => rfl)) pa_nil)))
  (pss_cons (ps_asg (pe_op op_add (pe_ix ix_list (pv 0) pe_int (fun _ _ => rfl)) pe_int) (pg_sub (pv 0) pe_int set_list))
  (pss_one (ps_if (pt_cmpR op_ge (pv 2) (pe_op op_pow pe_int pe_int) (nomark _)) (pss_one (ps_asg (pv 2) (pg_sub (pv 0) pe_int set_list))) (pss_one (ps_asg (pe_op op_mod (pe_callTy call_int1 (by rfl) T.n_int (by decide +kernel) (pa_cons (pe_op op_add (pe_op op_add (pe_op op_mul (pe_ix ix_list (pv 0) pe_int (fun _ _ => rfl)) pe_int) (pe_op op_mul (pe_op op_mod (pe_callTy call_int1 (by rfl) T.n_int (by decide +kernel) (pa_cons (pv 2) pa_nil)) pe_int) pe_int)) pe_int) pa_nil)) pe_int) (pg_sub (pv 0) pe_int set_list))))))) pss_nil)
  (pss_cons (ps_if (pt_cmpR op_gt (pe_ix ix_list (pv 0) pe_int (fun _ _ => rfl)) pe_int (nomark _)) (pss_cons (ps_set (i := 3) sc__law_draw.nd rfl (Or.inl rfl) (pe_op op_mod (pe_callTy call_int1 (by rfl) T.n_int (by decide +kernel) (pa_cons (pe_ix ix_list (pv 0) pe_int (fun _ _ => rfl)) pa_nil)) (pv 1)))
  (pss_cons (ps_asg (pe_op op_fdivN (pe_ix ix_list (pv 0) pe_int (fun _ _ => rfl)) (pv 1)) (pg_sub (pv 0) pe_int set_list))
  (pss_one (ps_ret (pv 3))))) pss_nil)
  (pss_cons (ps_set (i := 4) sc__law_draw.nd rfl (Or.inl rfl) (pe_callTy call_int1 (by rfl) T.n_int (by decide +kernel) (pa_cons (pe_ix ix_list (pv 0) pe_int (fun _ _ => rfl)) pa_nil)))
  (pss_cons (ps_asg (pe_op op_mod (pe_callTy call_int1 (by rfl) T.n_int (by decide +kernel) (pa_cons (pe_op op_add (pe_op op_add (pe_op op_add (pe_op op_pow (pv 4) pe_int) (pe_op op_mul (pv 4) pe_int)) (pe_op op_mul (pe_ix ix_list (pv 0) pe_int (fun _ _ => rfl)) pe_int)) pe_int) pa_nil)) pe_int) (pg_sub (pv 0) pe_int set_list))
  (pss_one (ps_ret (pe_op op_mod (pe_callTy call_int1 (by rfl) T.n_int (by decide +kernel) (pa_cons (pe_op op_add (pe_op op_fdivN (pe_ix ix_list (pv 0) pe_int (fun _ _ => rfl)) pe_int) (pe_op op_mul (pe_op op_mod (pe_callTy call_int1 (by rfl) T.n_int (by decide +kernel) (pa_cons (pe_ix ix_list (pv 0) pe_int (fun _ _ => rfl)) pa_nil)) pe_int) pe_int)) pa_nil)) (pv 1)))))))))
theorem ok__law_of {f : Addr} {fd : FuncData} {dvs : List V} {kws : List (Str × V)} (F : FunD K "_law_of" "_law_of" (defArgs s__law_of) (defBody s__law_of) (defScope s__law_of) dvs kws f fd) (T : Txt K mg) (C__law_draw : Cal P w K mg base 1 "_law_draw" P__law_draw (sp__law_draw K)) : FnOk P w K mg base CX0 2 f fd P__law_of (sp__law_of K) := by
  refine F.ok sc__law_of (fun vs H Q E h => len__law_of h) (fun cdv A outer s H vs Q E hr h => ⟨r__law_of K, PSs.nox ?_, pure__law_of vs H Q E h⟩)
  exact (pss_one (ps_ret (pe_ix ix_list (pv 1) (pe_callC C__law_draw hr rfl (pa_cons (pv 0) (pa_cons (pe_callB call_len_seq (by rfl) T.n_len boot_len (pa_cons (pv 1) pa_nil)) pa_nil))) (fun _ _ => rfl))))
theorem ok__law_mixed {f : Addr} {fd : FuncData} {dvs : List V} {kws : List (Str × V)} (F : FunD K "_law_mixed" "_law_mixed" (defArgs s__law_mixed) (defBody s__law_mixed) (defScope s__law_mixed) dvs kws f fd) (T : Txt K mg) (C__law_draw : Cal P w K mg base 1 "_law_draw" P__law_draw (sp__law_draw K)) : FnOk P w K mg base CX0 2 f fd P__law_mixed (sp__law_mixed K) := by
  refine F.ok sc__law_mixed (fun vs H Q E h => len__law_mixed h) (fun cdv A outer s H vs Q E hr h => ⟨r__law_mixed K, PSs.nox ?_, pure__law_mixed vs H Q E h⟩)
  exact (pss_cons (ps_par (i := 2) (j := 3) (by rfl) sc__law_mixed.nd rfl rfl (by decide) rfl rfl (pa_cons (pe_callTy call_list_of (by rfl) T.n_list (by decide +kernel) (pa_cons (pv 1) pa_nil)) (pa_cons (pe_lst pa_nil) pa_nil)) (by rfl))
  (pss_cons (ps_for PassesOwn.never rfl (pi_range1 (by rfl) T.n_range (pa_cons (pe_callB call_len_seq (by rfl) T.n_len boot_len (pa_cons (pv 1) pa_nil)) pa_nil)) (pg_name (i := 4) sc__law_mixed.nd rfl (Or.inl rfl))
   (pss_one (ps_expr (pe_bm PySem.F.plainAttrs_list PySem.F.slot_list_append PySem.F.type_list_append mt_append (pv 3) (pa_cons (pe_bm PySem.F.plainAttrs_list PySem.F.slot_list_pop PySem.F.type_list_pop mt_popAt (pv 2) (pa_cons (pe_callC C__law_draw hr rfl (pa_cons (pv 0) (pa_cons (pe_callB call_len_seq (by rfl) T.n_len boot_len (pa_cons (pv 2) pa_nil)) pa_nil))) pa_nil)) pa_nil)))))
  (pss_one (ps_ret (pv 3)))))
theorem ok__law_int {f : Addr} {fd : FuncData} {dvs : List V} {kws : List (Str × V)} (F : FunD K "_law_int" "_law_int" (defArgs s__law_int) (defBody s__law_int) (defScope s__law_int) dvs kws f fd) (T : Txt K mg) : FnOk P w K mg base CX0 1 f fd P__law_int (sp__law_int K) := by
  refine F.ok sc__law_int (fun vs H Q E h => len__law_int h) (fun cdv A outer s H vs Q E hr h => ⟨r__law_int K, PSs.nox ?_, pure__law_int vs H Q E h⟩)
  exact (pss_one (ps_ret (pe_and (pe_callB call_isi (by rfl) T.n_isinstance (by decide +kernel) (pa_cons (pv 0) (pa_cons (pe_bltn (by rfl) T.n_int (by decide +kernel) rfl) pa_nil))) (pe_one (pe_not (pe_callB call_isi (by rfl) T.n_isinstance (by decide +kernel) (pa_cons (pv 0) (pa_cons (pe_bltn (by rfl) T.n_bool (by decide +kernel) rfl) pa_nil))))))))
theorem ok__law_thing {f : Addr} {fd : FuncData} {dvs : List V} {kws : List (Str × V)} (F : FunD K "_law_thing" "_law_thing" (defArgs s__law_thing) (defBody s__law_thing) (defScope s__law_thing) dvs kws f fd) (T : Txt K mg) (C_Standing : CalM P w K mg base 3 "Standing" (He.ga K "Standing") P_Standing___init__ (sp_Standing___init__ K)) : FnOk P w K mg base CX0 5 f fd P__law_thing (sp__law_thing K) := by
  refine F.ok sc__law_thing (fun vs H Q E h => len__law_thing h) (fun cdv A outer s H vs Q E hr h => ⟨r__law_thing K, PSs.nox ?_, pure__law_thing vs H Q E h⟩)
  exact (pss_one (ps_ret (pe_makeC C_Standing hr rfl (pa_cons (pe_cmpR op_eq (pe_ix ix_tup (pv 0) pe_int (fun _ _ => rfl)) pe_int (nomark _)) (pa_cons (pe_ix ix_tup (pv 0) pe_int (fun _ _ => rfl)) (pa_cons (pe_ix ix_tup (pv 0) pe_int (fun _ _ => rfl)) (pa_cons (pe_ix ix_tup (pv 0) pe_int (fun _ _ => rfl)) (pa_cons (pe_ix ix_tup (pv 0) pe_int (fun _ _ => rfl)) pa_nil))))))))
theorem ok__law_over {f : Addr} {fd : FuncData} {dvs : List V} {kws : List (Str × V)} (F : FunD K "_law_over" "_law_over" (defArgs s__law_over) (defBody s__law_over) (defScope s__law_over) dvs kws f fd) (T : Txt K mg) : FnOk P w K mg base CX0 1 f fd P__law_over (sp__law_over K) := by
  refine F.ok sc__law_over (fun vs H Q E h => len__law_over h) (fun cdv A outer s H vs Q E hr h => ⟨r__law_over K, PSs.nox ?_, pure__law_over vs H Q E h⟩)
  exact (pss_cons (ps_if (PW.pt (pw_or (pt_cmpR op_ne (pe_ix ix_tup (pv 0) pe_int (fun _ _ => rfl)) (pe_ix ix_tup (pv 1) pe_int (fun _ _ => rfl)) (nomark _)) (pw_or (pt_cmpR op_ne (pe_callB call_len_seq (by rfl) T.n_len boot_len (pa_cons (pe_ix ix_tup (pv 0) pe_int (fun _ _ => rfl)) pa_nil)) (pe_callB call_len_seq (by rfl) T.n_len boot_len (pa_cons (pe_ix ix_tup (pv 1) pe_int (fun _ _ => rfl)) pa_nil)) (nomark _)) (pw_or1 (pt_cmpR op_gt (pe_ix ix_tup (pv 0) pe_int (fun _ _ => rfl)) (pe_ix ix_tup (pv 1) pe_int (fun _ _ => rfl)) (nomark _)))))) (pss_one (ps_ret pe_non)) pss_nil)
  (pss_cons (ps_set (i := 2) sc__law_over.nd rfl (Or.inl rfl) (pe_callB (cr_max rfl) (by rfl) T.n_max (by decide +kernel) (pa_cons (pe_op op_cat (pe_lst (pa_cons pe_int pa_nil)) (pe_lc (own := [("high", 3), ("low", 4)]) (by rfl) sc__law_over.nd (RZ.pi_zipA (by rfl) T.n_zip (pa_cons (pe_ix ix_tup (pv 0) pe_int (fun _ _ => rfl)) (pa_cons (pe_ix ix_tup (pv 1) pe_int (fun _ _ => rfl)) pa_nil))) (blkOk_by (own := [("high", 3), ("low", 4)]) (N := N__law_over) (sc := defScope s__law_over) (by decide +kernel))
     (fun _ _ _ _ _ => (pg_tup (by rfl) (pgs_cons (pg_name (i := 3) sc__law_over.nd rfl (Or.inl rfl)) (pgs_cons (pg_name (i := 4) sc__law_over.nd rfl (Or.inl rfl)) pgs_nil)))) (fun _ _ _ _ _ => pts_nil) (fun _ _ _ _ _ => (pe_op op_sub (pv 3) (pv 4))))) pa_nil)))
  (pss_one (ps_ret (pe_ifExp (PW.pt (pw_and (pt_cmpR op_ge (pe_ix ix_tup (pv 0) pe_int (fun _ _ => rfl)) (pe_op op_add (pe_ix ix_tup (pv 1) pe_int (fun _ _ => rfl)) (pv 2)) (nomark _)) (pw_and1 (pt_cmpR op_ge (pe_ix ix_tup (pv 0) pe_int (fun _ _ => rfl)) (pe_op op_add (pe_ix ix_tup (pv 1) pe_int (fun _ _ => rfl)) (pv 2)) (nomark _))))) (pv 2) pe_non)))))
theorem ok__law_over_ways {f : Addr} {fd : FuncData} {dvs : List V} {kws : List (Str × V)} (F : FunD K "_law_over_ways" "_law_over_ways" (defArgs s__law_over_ways) (defBody s__law_over_ways) (defScope s__law_over_ways) dvs kws f fd) (T : Txt K mg) : FnOk P w K mg base CX0 1 f fd P__law_over_ways (sp__law_over_ways K) := by
  refine F.ok sc__law_over_ways (fun vs H Q E h => len__law_over_ways h) (fun cdv A outer s H vs Q E hr h => ⟨r__law_over_ways K, PSs.nox ?_, pure__law_over_ways vs H Q E h⟩)
  exact (pss_cons (ps_if (PW.pt (pw_or (pt_cmpR op_ne (pe_callB call_len_seq (by rfl) T.n_len boot_len (pa_cons (pe_ix ix_tup (pv 0) pe_int (fun _ _ => rfl)) pa_nil)) (pe_callB call_len_seq (by rfl) T.n_len boot_len (pa_cons (pe_ix ix_tup (pv 1) pe_int (fun _ _ => rfl)) pa_nil)) (nomark _)) (pw_or1 (pt_cmpR op_gt (pe_ix ix_tup (pv 0) pe_int (fun _ _ => rfl)) (pe_ix ix_tup (pv 1) pe_int (fun _ _ => rfl)) (nomark _))))) (pss_one (ps_ret pe_non)) pss_nil)
  (pss_cons (ps_set (i := 2) sc__law_over_ways.nd rfl (Or.inl rfl) (pe_callB (cr_max rfl) (by rfl) T.n_max (by decide +kernel) (pa_cons (pe_op op_cat (pe_lst (pa_cons pe_int pa_nil)) (pe_lc (own := [("high", 3), ("low", 4)]) (by rfl) sc__law_over_ways.nd (RZ.pi_zipA (by rfl) T.n_zip (pa_cons (pe_ix ix_tup (pv 0) pe_int (fun _ _ => rfl)) (pa_cons (pe_ix ix_tup (pv 1) pe_int (fun _ _ => rfl)) pa_nil))) (blkOk_by (own := [("high", 3), ("low", 4)]) (N := N__law_over_ways) (sc := defScope s__law_over_ways) (by decide +kernel))
     (fun _ _ _ _ _ => (pg_tup (by rfl) (pgs_cons (pg_name (i := 3) sc__law_over_ways.nd rfl (Or.inl rfl)) (pgs_cons (pg_name (i := 4) sc__law_over_ways.nd rfl (Or.inl rfl)) pgs_nil)))) (fun _ _ _ _ _ => pts_nil) (fun _ _ _ _ _ => (pe_op op_sub (pv 3) (pv 4))))) pa_nil)))
  (pss_one (ps_ret (pe_ifExp (pt_cmpR op_ge (pe_ix ix_tup (pv 0) pe_int (fun _ _ => rfl)) (pe_op op_add (pe_ix ix_tup (pv 1) pe_int (fun _ _ => rfl)) (pv 2)) (nomark _)) (pv 2) pe_non)))))
theorem ok__law_pose {f : Addr} {fd : FuncData} {dvs : List V} {kws : List (Str × V)} (F : FunD K "_law_pose" "_law_pose" (defArgs s__law_pose) (defBody s__law_pose) (defScope s__law_pose) dvs kws f fd) (T : Txt K mg) (C__law_draw : Cal P w K mg base 2 "_law_draw" P__law_draw (sp__law_draw K)) (C__law_of : Cal P w K mg base 2 "_law_of" P__law_of (sp__law_of K)) : FnOk P w K mg base CX0 3 f fd P__law_pose (sp__law_pose K) := by
  refine F.ok sc__law_pose (fun vs H Q E h => len__law_pose h) (fun cdv A outer s H vs Q E hr h => ⟨r__law_pose K, PSs.nox ?_, pure__law_pose vs H Q E h⟩)
  exact (pss_cons (ps_par (i := 3) (j := 4) (by rfl) sc__law_pose.nd rfl rfl (by decide) rfl rfl (pa_cons (pe_callC C__law_of hr rfl (pa_cons (pv 0) (pa_cons (pe_lst (pa_cons pe_int (pa_cons pe_int (pa_cons pe_int pa_nil)))) pa_nil))) (pa_cons (pe_op op_sub (pe_callC C__law_draw hr rfl (pa_cons (pv 0) (pa_cons (pe_op op_add (pv 2) pe_int) pa_nil))) pe_int) pa_nil)) (by rfl))
  (C8.pss_cut (ps_set (i := 5) sc__law_pose.nd rfl (Or.inl rfl) (pe_ifExp (pt_cmpR op_eq (pv 3) pe_int (nomark _)) (pv 4) (pe_op op_sub (pv 4) (pe_callC C__law_of hr rfl (pa_cons (pv 0) (pa_cons (pe_lst (pa_cons pe_int (pa_cons pe_int (pa_cons pe_int (pa_cons pe_int (pa_cons pe_int (pa_cons pe_int pa_nil))))))) pa_nil))))))
  (pss_cons (ps_par (i := 6) (j := 7) (by rfl) sc__law_pose.nd rfl rfl (by decide) rfl rfl (pa_cons (pe_lst pa_nil) (pa_cons pe_int pa_nil)) (by rfl))
  (pss_cons (ps_for PassesOwn.never rfl (pi_range1 (by rfl) T.n_range (pa_cons (pv 1) pa_nil)) (pg_name (i := 8) sc__law_pose.nd rfl (Or.inl rfl))
   (pss_cons (ps_set (i := 7) sc__law_pose.nd rfl (Or.inl rfl) (pe_op op_add (pv 7) (pe_callC C__law_of hr rfl (pa_cons (pv 0) (pa_cons (pe_lst (pa_cons pe_int (pa_cons pe_int (pa_cons pe_int (pa_cons pe_int (pa_cons pe_int pa_nil)))))) pa_nil)))))
  (pss_one (ps_expr (pe_bm PySem.F.plainAttrs_list PySem.F.slot_list_append PySem.F.type_list_append mt_append (pv 6) (pa_cons (pv 7) pa_nil))))))
  (pss_one (ps_ret (pe_tup (pa_cons (pv 3) (pa_cons (pv 4) (pa_cons (pv 5) (pa_cons (pe_callTy call_tuple_of (by rfl) T.n_tuple (by decide +kernel) (pa_cons (pv 6) pa_nil)) (pa_cons (pe_callC C__law_of hr rfl (pa_cons (pv 0) (pa_cons (pe_lst (pa_cons pe_int (pa_cons pe_int (pa_cons pe_int (pa_cons pe_int (pa_cons pe_int pa_nil)))))) pa_nil))) pa_nil))))))))))))
theorem ok__law_near {f : Addr} {fd : FuncData} {dvs : List V} {kws : List (Str × V)} (F : FunD K "_law_near" "_law_near" (defArgs s__law_near) (defBody s__law_near) (defScope s__law_near) dvs kws f fd) (T : Txt K mg) (C__law_draw : Cal P w K mg base 2 "_law_draw" P__law_draw (sp__law_draw K)) (C__law_of : Cal P w K mg base 2 "_law_of" P__law_of (sp__law_of K)) : FnOk P w K mg base CX0 3 f fd P__law_near (sp__law_near K) := by
  refine F.ok sc__law_near (fun vs H Q E h => len__law_near h) (fun cdv A outer s H vs Q E hr h => ⟨r__law_near K, PSs.nox ?_, pure__law_near vs H Q E h⟩)
  exact (pss_cons (ps_asg (pv 1) (pg_tup (by rfl) (pgs_cons (pg_name (i := 3) sc__law_near.nd rfl (Or.inl rfl)) (pgs_cons (pg_name (i := 4) sc__law_near.nd rfl (Or.inl rfl)) (pgs_cons (pg_name (i := 5) sc__law_near.nd rfl (Or.inl rfl)) (pgs_cons (pg_name (i := 6) sc__law_near.nd rfl (Or.inl rfl)) (pgs_cons (pg_name (i := 7) sc__law_near.nd rfl (Or.inl rfl)) pgs_nil)))))))
  (C8.pss_cut (ps_if (pt_cmpR op_eq (pe_callC C__law_draw hr rfl (pa_cons (pv 0) (pa_cons pe_int pa_nil))) pe_int (nomark _)) (pss_one (ps_set (i := 3) sc__law_near.nd rfl (Or.inl rfl) (pe_op op_sub pe_int (pv 3)))) pss_nil)
  (pss_cons (ps_set (i := 8) sc__law_near.nd rfl (Or.inl rfl) (pe_op op_add (pe_op op_add (pv 4) (pv 2)) (pe_callC C__law_of hr rfl (pa_cons (pv 0) (pa_cons (pe_lst (pa_cons pe_int (pa_cons pe_int (pa_cons pe_int (pa_cons (pe_un un_neg pe_int) (pa_cons pe_int (pa_cons pe_int pa_nil))))))) pa_nil)))))
  (C8.pss_cut (ps_set (i := 9) sc__law_near.nd rfl (Or.inl rfl) (pe_ifExp (pt_cmpR op_eq (pv 3) pe_int (nomark _)) (pv 8) (pe_op op_add (pe_op op_add (pv 5) (pv 2)) (pe_callC C__law_of hr rfl (pa_cons (pv 0) (pa_cons (pe_lst (pa_cons pe_int (pa_cons pe_int (pa_cons pe_int (pa_cons (pe_un un_neg pe_int) (pa_cons pe_int (pa_cons pe_int pa_nil))))))) pa_nil))))))
  (pss_cons (ps_par (i := 10) (j := 11) (by rfl) sc__law_near.nd rfl rfl (by decide) rfl rfl (pa_cons (pe_lst pa_nil) (pa_cons pe_int pa_nil)) (by rfl))
  (pss_cons (ps_for PassesOwn.never rfl (pi_tup (pv 6)) (pg_name (i := 12) sc__law_near.nd rfl (Or.inl rfl))
   (pss_cons (ps_set (i := 11) sc__law_near.nd rfl (Or.inl rfl) (pe_callB (call_max2 rfl) (by rfl) T.n_max (by decide +kernel) (pa_cons (pv 11) (pa_cons (pe_op op_add (pe_op op_add (pv 12) (pv 2)) (pe_callC C__law_of hr rfl (pa_cons (pv 0) (pa_cons (pe_lst (pa_cons pe_int (pa_cons pe_int (pa_cons (pe_un un_neg pe_int) (pa_cons pe_int (pa_cons pe_int (pa_cons (pe_un un_neg pe_int) pa_nil))))))) pa_nil)))) pa_nil))))
  (pss_one (ps_expr (pe_bm PySem.F.plainAttrs_list PySem.F.slot_list_append PySem.F.type_list_append mt_append (pv 10) (pa_cons (pv 11) pa_nil))))))
  (pss_cons (ps_set (i := 13) sc__law_near.nd rfl (Or.inl rfl) (pe_callC C__law_draw hr rfl (pa_cons (pv 0) (pa_cons pe_int pa_nil))))
  (C8.pss_cut (ps_if (PW.pt (pw_and (pt_cmpR op_eq (pv 13) pe_int (nomark _)) (pw_and1 (pt_truth (pv 10) (by intro _; rfl))))) (pss_one (ps_set (i := 10) sc__law_near.nd rfl (Or.inl rfl) (pe_slice sl_list (pv 10) (po_some pe_int) po_none))) pss_nil)
  (C8.pss_cut (ps_if (PW.pt (pw_and (pt_cmpR op_eq (pv 13) pe_int (nomark _)) (pw_and1 (pt_cmpR op_lt (pe_callB call_len_seq (by rfl) T.n_len boot_len (pa_cons (pv 10) pa_nil)) pe_int (nomark _))))) (pss_one (ps_set (i := 10) sc__law_near.nd rfl (Or.inl rfl) (pe_op op_cat (pe_lst (pa_cons pe_int pa_nil)) (pv 10)))) pss_nil)
  (pss_cons (ps_set (i := 14) sc__law_near.nd rfl (Or.inl rfl) (pe_callB (call_max2 rfl) (by rfl) T.n_max (by decide +kernel) (pa_cons pe_int (pa_cons (pe_op op_add (pv 7) (pe_callC C__law_of hr rfl (pa_cons (pv 0) (pa_cons (pe_lst (pa_cons pe_int (pa_cons pe_int (pa_cons pe_int (pa_cons (pe_un un_neg pe_int) (pa_cons pe_int pa_nil)))))) pa_nil)))) pa_nil))))
  (pss_one (ps_ret (pe_tup (pa_cons (pv 3) (pa_cons (pe_callB (call_max2 rfl) (by rfl) T.n_max (by decide +kernel) (pa_cons (pv 8) (pa_cons (pv 9) pa_nil))) (pa_cons (pe_callB (call_min2 rfl) (by rfl) T.n_min (by decide +kernel) (pa_cons (pv 8) (pa_cons (pv 9) pa_nil))) (pa_cons (pe_callTy call_tuple_of (by rfl) T.n_tuple (by decide +kernel) (pa_cons (pv 10) pa_nil)) (pa_cons (pv 14) pa_nil))))))))))))))))))
theorem ok__law_greater {f : Addr} {fd : FuncData} {dvs : List V} {kws : List (Str × V)} (F : FunD K "_law_greater" "_law_greater" (defArgs s__law_greater) (defBody s__law_greater) (defScope s__law_greater) dvs kws f fd) (T : Txt K mg) (C__law_of : Cal P w K mg base 2 "_law_of" P__law_of (sp__law_of K)) (C__law_draw : Cal P w K mg base 2 "_law_draw" P__law_draw (sp__law_draw K)) : FnOk P w K mg base CX0 3 f fd P__law_greater (sp__law_greater K) := by
  refine F.ok sc__law_greater (fun vs H Q E h => len__law_greater h) (fun cdv A outer s H vs Q E hr h => ⟨r__law_greater K, PSs.nox ?_, pure__law_greater vs H Q E h⟩)
  exact (pss_cons (ps_asg (pv 1) (pg_tup (by rfl) (pgs_cons (pg_name (i := 3) sc__law_greater.nd rfl (Or.inl rfl)) (pgs_cons (pg_name (i := 4) sc__law_greater.nd rfl (Or.inl rfl)) (pgs_cons (pg_name (i := 5) sc__law_greater.nd rfl (Or.inl rfl)) (pgs_cons (pg_name (i := 6) sc__law_greater.nd rfl (Or.inl rfl)) (pgs_cons (pg_name (i := 7) sc__law_greater.nd rfl (Or.inl rfl)) pgs_nil)))))))
  (pss_cons (ps_set (i := 8) sc__law_greater.nd rfl (Or.inl rfl) (pe_op op_add (pe_op op_add (pv 5) (pv 2)) (pe_callC C__law_of hr rfl (pa_cons (pv 0) (pa_cons (pe_lst (pa_cons pe_int (pa_cons pe_int (pa_cons pe_int (pa_cons pe_int (pa_cons pe_int pa_nil)))))) pa_nil)))))
  (C8.pss_cut (ps_set (i := 9) sc__law_greater.nd rfl (Or.inl rfl) (pe_ifExp (pt_cmpR op_eq (pv 3) pe_int (nomark _)) (pv 8) (pe_callB (call_max2 rfl) (by rfl) T.n_max (by decide +kernel) (pa_cons (pv 8) (pa_cons (pe_op op_add (pe_op op_add (pv 4) (pv 2)) (pe_callC C__law_of hr rfl (pa_cons (pv 0) (pa_cons (pe_lst (pa_cons pe_int (pa_cons pe_int (pa_cons pe_int (pa_cons pe_int pa_nil))))) pa_nil)))) pa_nil)))))
  (pss_cons (ps_par (i := 10) (j := 11) (by rfl) sc__law_greater.nd rfl rfl (by decide) rfl rfl (pa_cons (pe_lst pa_nil) (pa_cons pe_int pa_nil)) (by rfl))
  (pss_cons (ps_for PassesOwn.never rfl (pi_tup (pv 6)) (pg_name (i := 12) sc__law_greater.nd rfl (Or.inl rfl))
   (pss_cons (ps_set (i := 11) sc__law_greater.nd rfl (Or.inl rfl) (pe_callB (call_max2 rfl) (by rfl) T.n_max (by decide +kernel) (pa_cons (pv 11) (pa_cons (pe_op op_sub (pe_op op_add (pv 12) (pv 2)) (pe_callC C__law_of hr rfl (pa_cons (pv 0) (pa_cons (pe_lst (pa_cons pe_int (pa_cons pe_int (pa_cons pe_int (pa_cons pe_int (pa_cons pe_int pa_nil)))))) pa_nil)))) pa_nil))))
  (pss_one (ps_expr (pe_bm PySem.F.plainAttrs_list PySem.F.slot_list_append PySem.F.type_list_append mt_append (pv 10) (pa_cons (pv 11) pa_nil))))))
  (pss_one (ps_ret (pe_tup (pa_cons (pv 3) (pa_cons (pv 9) (pa_cons (pv 8) (pa_cons (pe_callTy call_tuple_of (by rfl) T.n_tuple (by decide +kernel) (pa_cons (pv 10) pa_nil)) (pa_cons (pe_callB (call_max2 rfl) (by rfl) T.n_max (by decide +kernel) (pa_cons pe_int (pa_cons (pe_op op_sub (pv 7) (pe_callC C__law_draw hr rfl (pa_cons (pv 0) (pa_cons pe_int pa_nil)))) pa_nil))) pa_nil)))))))))))))
theorem ok__law_same {f : Addr} {fd : FuncData} {dvs : List V} {kws : List (Str × V)} (F : FunD K "_law_same" "_law_same" (defArgs s__law_same) (defBody s__law_same) (defScope s__law_same) dvs kws f fd) (T : Txt K mg) (C__law_int : Cal P w K mg base 1 "_law_int" P__law_int (sp__law_int K)) : FnOk P w K mg base CX0 2 f fd P__law_same (sp__law_same K) := by
  refine F.ok sc__law_same (fun vs H Q E h => len__law_same h) (fun cdv A outer s H vs Q E hr h => ⟨r__law_same K, PSs.nox ?_, pure__law_same vs H Q E h⟩)
  exact (pss_cons (ps_if (PW.pt (pw_or (pt_cmpR op_isN (pv 1) pe_non (nomark _)) (pw_or1 (pt_cmpR op_isN (pv 0) pe_non (nomark _))))) (pss_one (ps_ret (pe_and (pe_cmpR op_isN (pv 1) pe_non (nomark _)) (pe_one (pe_cmpR op_isN (pv 0) pe_non (nomark _)))))) pss_nil)
  (pss_one (ps_ret (pe_and (pe_callC C__law_int hr rfl (pa_cons (pv 0) pa_nil)) (pe_one (pe_cmpR op_eq (pv 0) (pv 1) (nomark _)))))))
theorem ok__law_pool {f : Addr} {fd : FuncData} {dvs : List V} {kws : List (Str × V)} (F : FunD K "_law_pool" "_law_pool" (defArgs s__law_pool) (defBody s__law_pool) (defScope s__law_pool) dvs kws f fd) (T : Txt K mg) (C__law_thing : Cal P w K mg base 5 "_law_thing" P__law_thing (sp__law_thing K)) (C_Way : CalM P w K mg base 4 "Way" (He.ga K "Way") P_Way___init__ (sp_Way___init__ K)) (C__law_same : Cal P w K mg base 5 "_law_same" P__law_same (sp__law_same K)) (C__law_over : Cal P w K mg base 5 "_law_over" P__law_over (sp__law_over K)) (C_covers : Cal P w K mg base 5 "covers" P_covers (sp_covers K)) (C__law_over_ways : Cal P w K mg base 5 "_law_over_ways" P__law_over_ways (sp__law_over_ways K)) : FnOk P w K mg base CX0 6 f fd P__law_pool (sp__law_pool K) := by
  refine F.ok sc__law_pool (fun vs H Q E h => len__law_pool h) (fun cdv A outer s H vs Q E hr h => ⟨r__law_pool K, PSs.nox ?_, pure__law_pool vs H Q E h⟩)
  exact (pss_cons (ps_par (i := 2) (j := 3) (by rfl) sc__law_pool.nd rfl rfl (by decide) rfl rfl (pa_cons (pe_lc (own := [("pose", 4)]) (by rfl) sc__law_pool.nd (pi_list (pv 1)) (blkOk_by (own := [("pose", 4)]) (N := N__law_pool) (sc := defScope s__law_pool) (by decide +kernel))
     (fun _ _ _ _ _ => (pg_name (i := 4) sc__law_pool.nd rfl (Or.inl rfl))) (fun _ _ _ _ _ => pts_nil) (fun _ _ _ _ _ => (pe_callC C__law_thing hr rfl (pa_cons (pv 4) pa_nil)))) (pa_cons (pe_lc (own := [("pose", 4)]) (by rfl) sc__law_pool.nd (pi_list (pv 1)) (blkOk_by (own := [("pose", 4)]) (N := N__law_pool) (sc := defScope s__law_pool) (by decide +kernel))
     (fun _ _ _ _ _ => (pg_name (i := 4) sc__law_pool.nd rfl (Or.inl rfl))) (fun _ _ _ _ _ => pts_nil) (fun _ _ _ _ _ => (pe_tup (pa_cons (pe_ix ix_tup (pv 4) pe_int (fun _ _ => rfl)) (pa_cons (pe_ix ix_tup (pv 4) pe_int (fun _ _ => rfl)) (pa_cons (pe_ix ix_tup (pv 4) pe_int (fun _ _ => rfl)) pa_nil)))))) pa_nil)) (by rfl))
  (pss_cons (ps_setLc (i := 5) (own := [("route", 6)]) (by rfl) sc__law_pool.nd rfl rfl (sw_true rfl rfl rfl (by decide +kernel)) (pi_list (pv 3)) (blkOk_by (own := [("route", 6)]) (N := N__law_pool) (sc := defScope s__law_pool) (by decide +kernel))
     (fun _ _ _ _ _ => (pg_name (i := 6) sc__law_pool.nd rfl (Or.inl rfl))) (fun _ _ _ _ _ => pts_nil) (fun _ _ _ _ _ => (pe_makeC C_Way hr rfl (pa_cons (pe_ix ix_tup (pv 6) pe_int (fun _ _ => rfl)) (pa_cons (pe_ix ix_tup (pv 6) pe_int (fun _ _ => rfl)) (pa_cons (pe_ix ix_tup (pv 6) pe_int (fun _ _ => rfl)) pa_nil))))))
  (pss_cons (ps_for PassesOwn.never rfl (pi_range1 (by rfl) T.n_range (pa_cons (pe_callB call_len_seq (by rfl) T.n_len boot_len (pa_cons (pv 1) pa_nil)) pa_nil)) (pg_name (i := 7) sc__law_pool.nd rfl (Or.inl rfl))
   (pss_cons (ps_for PassesOwn.never rfl (pi_range1 (by rfl) T.n_range (pa_cons (pe_callB call_len_seq (by rfl) T.n_len boot_len (pa_cons (pv 1) pa_nil)) pa_nil)) (pg_name (i := 8) sc__law_pool.nd rfl (Or.inl rfl))
   (pss_cons (ps_if (pt_not (pt_val (pe_callC C__law_same hr rfl (pa_cons (pe_callC C_covers hr rfl (pa_cons (pe_ix ix_list (pv 2) (pv 7) (fun _ _ => rfl)) (pa_cons (pe_ix ix_list (pv 2) (pv 8) (fun _ _ => rfl)) pa_nil))) (pa_cons (pe_callC C__law_over hr rfl (pa_cons (pe_ix ix_list (pv 1) (pv 7) (fun _ _ => rfl)) (pa_cons (pe_ix ix_list (pv 1) (pv 8) (fun _ _ => rfl)) pa_nil))) pa_nil))))) (pss_one (ps_ret pe_bl)) pss_nil)
  (pss_one (ps_if (pt_not (pt_val (pe_callC C__law_same hr rfl (pa_cons (pe_callC C_covers hr rfl (pa_cons (pe_ix ix_list (pv 5) (pv 7) (fun _ _ => rfl)) (pa_cons (pe_ix ix_list (pv 5) (pv 8) (fun _ _ => rfl)) pa_nil))) (pa_cons (pe_callC C__law_over_ways hr rfl (pa_cons (pe_ix ix_list (pv 3) (pv 7) (fun _ _ => rfl)) (pa_cons (pe_ix ix_list (pv 3) (pv 8) (fun _ _ => rfl)) pa_nil))) pa_nil))))) (pss_one (ps_ret pe_bl)) pss_nil))))
  (pss_one (ps_if (pt_cmpR op_ne (pe_callC C_covers hr rfl (pa_cons (pe_ix ix_list (pv 2) (pv 7) (fun _ _ => rfl)) (pa_cons (pe_callC C__law_thing hr rfl (pa_cons (pe_ix ix_list (pv 1) (pv 7) (fun _ _ => rfl)) pa_nil)) pa_nil))) pe_int (nomark _)) (pss_one (ps_ret pe_bl)) pss_nil))))
  (pss_one (ps_ret pe_bl)))))
theorem ok_law {f : Addr} {fd : FuncData} {dvs : List V} {kws : List (Str × V)} (F : FunD K "law" "law" (defArgs s_law) (defBody s_law) (defScope s_law) dvs kws f fd) (T : Txt K mg) (C__law_bag : Cal P w K mg base 6 "_law_bag" P__law_bag (sp__law_bag K)) (C__law_pose : Cal P w K mg base 6 "_law_pose" P__law_pose (sp__law_pose K)) (C__law_draw : Cal P w K mg base 6 "_law_draw" P__law_draw (sp__law_draw K)) (C__law_of : Cal P w K mg base 6 "_law_of" P__law_of (sp__law_of K)) (C__law_greater : Cal P w K mg base 6 "_law_greater" P__law_greater (sp__law_greater K)) (C_covers : Cal P w K mg base 6 "covers" P_covers (sp_covers K)) (C__law_thing : Cal P w K mg base 6 "_law_thing" P__law_thing (sp__law_thing K)) (C__law_near : Cal P w K mg base 6 "_law_near" P__law_near (sp__law_near K)) (C__law_pool : Cal P w K mg base 6 "_law_pool" P__law_pool (sp__law_pool K)) (C__law_mixed : Cal P w K mg base 6 "_law_mixed" P__law_mixed (sp__law_mixed K)) : FnOk P w K mg base CX0 7 f fd P_law (sp_law K) := by
  refine F.ok sc_law (fun vs H Q E h => len_law h) (fun cdv A outer s H vs Q E hr h => ⟨r_law K, PSs.nox ?_, pure_law vs H Q E h⟩)
  exact (pss_cons (ps_set (i := 1) sc_law.nd rfl (Or.inr rfl) (pe_callC C__law_bag hr rfl (pa_cons (pv 0) pa_nil)))
  (pss_cons (ps_for PassesOwn.never rfl (pi_range1 (by rfl) T.n_range (pa_cons pe_int pa_nil)) (pg_name (i := 2) sc_law.nd rfl (Or.inl rfl))
   (pss_cons (ps_set (i := 3) sc_law.nd rfl (Or.inr rfl) (pe_callC C__law_pose hr rfl (pa_cons (pv 1) (pa_cons (pe_callC C__law_draw hr rfl (pa_cons (pv 1) (pa_cons pe_int pa_nil))) (pa_cons pe_int pa_nil)))))
  (pss_cons (ps_asg (pe_tup (pa_cons (pe_callC C__law_of hr rfl (pa_cons (pv 1) (pa_cons (pe_lst (pa_cons pe_int (pa_cons pe_int (pa_cons pe_int (pa_cons pe_int (pa_cons pe_int (pa_cons pe_int (pa_cons pe_int pa_nil)))))))) pa_nil))) (pa_cons (pe_callC C__law_of hr rfl (pa_cons (pv 1) (pa_cons (pe_lst (pa_cons pe_int (pa_cons pe_int (pa_cons pe_int (pa_cons pe_int (pa_cons pe_int pa_nil)))))) pa_nil))) pa_nil))) (pg_tup (by rfl) (pgs_cons (pg_name (i := 4) sc_law.nd rfl (Or.inr rfl)) (pgs_cons (pg_name (i := 5) sc_law.nd rfl (Or.inl rfl)) pgs_nil))))
  (pss_cons (ps_set (i := 6) sc_law.nd rfl (Or.inl rfl) (pe_callC C__law_greater hr rfl (pa_cons (pv 1) (pa_cons (pv 3) (pa_cons (pv 4) pa_nil)))))
  (pss_cons (ps_set (i := 7) sc_law.nd rfl (Or.inl rfl) (pe_callC C__law_greater hr rfl (pa_cons (pv 1) (pa_cons (pv 6) (pa_cons (pv 5) pa_nil)))))
  (pss_cons (ps_if (PW.pt (pw_or (pt_cmpR op_isN (pe_callC C_covers hr rfl (pa_cons (pe_callC C__law_thing hr rfl (pa_cons (pv 6) pa_nil)) (pa_cons (pe_callC C__law_thing hr rfl (pa_cons (pv 3) pa_nil)) pa_nil))) pe_non (nomark _)) (pw_or1 (pt_cmpR op_isN (pe_callC C_covers hr rfl (pa_cons (pe_callC C__law_thing hr rfl (pa_cons (pv 7) pa_nil)) (pa_cons (pe_callC C__law_thing hr rfl (pa_cons (pv 3) pa_nil)) pa_nil))) pe_non (nomark _))))) (pss_one (ps_ret pe_bl)) pss_nil)
  (pss_cons (ps_set (i := 8) sc_law.nd rfl (Or.inl rfl) (pe_op op_cat (pe_lst (pa_cons (pv 3) (pa_cons (pv 6) (pa_cons (pv 7) pa_nil)))) (pe_lc (own := [("k", 9)]) (by rfl) sc_law.nd (pi_range1 (by rfl) T.n_range (pa_cons pe_int pa_nil)) (blkOk_by (own := [("k", 9)]) (N := N_law) (sc := defScope s_law) (by decide +kernel))
     (fun _ _ _ _ _ => (pg_name (i := 9) sc_law.nd rfl (Or.inl rfl))) (fun _ _ _ _ _ => pts_nil) (fun _ _ _ _ _ => (pe_callC C__law_near hr rfl (pa_cons (pv 1) (pa_cons (pv 3) (pa_cons (pe_callC C__law_of hr rfl (pa_cons (pv 1) (pa_cons (pe_lst (pa_cons pe_int (pa_cons pe_int (pa_cons pe_int (pa_cons (pv 4) pa_nil))))) pa_nil))) pa_nil))))))))
  (pss_one (ps_if (pt_not (pt_val (pe_callC C__law_pool hr rfl (pa_cons (pv 1) (pa_cons (pe_callC C__law_mixed hr rfl (pa_cons (pv 1) (pa_cons (pv 8) pa_nil))) pa_nil))))) (pss_one (ps_ret pe_bl)) pss_nil)))))))))
  (pss_one (ps_ret pe_bl))))
theorem mkCal {k : Nat} {x qual : Str} {params : Arguments} {body : List Stmt} {scope : Scope} {kws : List (Str × V)} {f : Addr} {fd : FuncData} {ps : List Str} {sp : Sp} (F : FunD K x qual params body scope [] kws f fd) (ok : FnOk P w K mg base CX0 k f fd ps sp) (hm : mg x = some (.ref f))
    (hb : ∀ (kV doc pm : Value) (an : Option Addr) (cdv ct : Value) (us : List Value), us.length = ps.length → bindArgs (PySem.W.fnOf x qual params body scope .none kV doc pm an cdv ct) ⟨us, []⟩ = pure (ps.zip us)) : Cal P w K mg base k x ps sp := ⟨f, fd, ok, hm, F.kp, F.bindsN hb⟩
end
/-! ### the head: facts by names, the run -/
def d_heights_stand : He.DefD := ⟨("heights_stand", none), "heights_stand", "heights_stand", defArgs s_heights_stand, defBody s_heights_stand, defScope s_heights_stand, [], []⟩
def d_ends_text : He.DefD := ⟨("ends_text", none), "ends_text", "ends_text", defArgs s_ends_text, defBody s_ends_text, defScope s_ends_text, [], []⟩
def d_gap : He.DefD := ⟨("gap", none), "gap", "gap", defArgs s_gap, defBody s_gap, defScope s_gap, [], []⟩
def d_covering_gap : He.DefD := ⟨("covering_gap", none), "covering_gap", "covering_gap", defArgs s_covering_gap, defBody s_covering_gap, defScope s_covering_gap, [], []⟩
def d_ask_ends : He.DefD := ⟨("ask_ends", none), "ask_ends", "ask_ends", defArgs s_ask_ends, defBody s_ask_ends, defScope s_ask_ends, [], []⟩
def d_Standing___init__ : He.DefD := ⟨("Standing", some "__init__"), "__init__", "Standing.__init__", defArgs s_Standing___init__, defBody s_Standing___init__, defScope s_Standing___init__, [.adr (He.dflAt ("Standing", some "__init__") 0), .int 0], []⟩
def d_Way___init__ : He.DefD := ⟨("Way", some "__init__"), "__init__", "Way.__init__", defArgs s_Way___init__, defBody s_Way___init__, defScope s_Way___init__, [.adr (He.dflAt ("Way", some "__init__") 0), .int 0], []⟩
def d_row_of : He.DefD := ⟨("row_of", none), "row_of", "row_of", defArgs s_row_of, defBody s_row_of, defScope s_row_of, [], []⟩
def d_covers : He.DefD := ⟨("covers", none), "covers", "covers", defArgs s_covers, defBody s_covers, defScope s_covers, [], []⟩
def d__law_bag : He.DefD := ⟨("_law_bag", none), "_law_bag", "_law_bag", defArgs s__law_bag, defBody s__law_bag, defScope s__law_bag, [], []⟩
def d__law_draw : He.DefD := ⟨("_law_draw", none), "_law_draw", "_law_draw", defArgs s__law_draw, defBody s__law_draw, defScope s__law_draw, [], []⟩
def d__law_of : He.DefD := ⟨("_law_of", none), "_law_of", "_law_of", defArgs s__law_of, defBody s__law_of, defScope s__law_of, [], []⟩
def d__law_mixed : He.DefD := ⟨("_law_mixed", none), "_law_mixed", "_law_mixed", defArgs s__law_mixed, defBody s__law_mixed, defScope s__law_mixed, [], []⟩
def d__law_int : He.DefD := ⟨("_law_int", none), "_law_int", "_law_int", defArgs s__law_int, defBody s__law_int, defScope s__law_int, [], []⟩
def d__law_thing : He.DefD := ⟨("_law_thing", none), "_law_thing", "_law_thing", defArgs s__law_thing, defBody s__law_thing, defScope s__law_thing, [], []⟩
def d__law_over : He.DefD := ⟨("_law_over", none), "_law_over", "_law_over", defArgs s__law_over, defBody s__law_over, defScope s__law_over, [], []⟩
def d__law_over_ways : He.DefD := ⟨("_law_over_ways", none), "_law_over_ways", "_law_over_ways", defArgs s__law_over_ways, defBody s__law_over_ways, defScope s__law_over_ways, [], []⟩
def d__law_pose : He.DefD := ⟨("_law_pose", none), "_law_pose", "_law_pose", defArgs s__law_pose, defBody s__law_pose, defScope s__law_pose, [], []⟩
def d__law_near : He.DefD := ⟨("_law_near", none), "_law_near", "_law_near", defArgs s__law_near, defBody s__law_near, defScope s__law_near, [], []⟩
def d__law_greater : He.DefD := ⟨("_law_greater", none), "_law_greater", "_law_greater", defArgs s__law_greater, defBody s__law_greater, defScope s__law_greater, [], []⟩
def d__law_same : He.DefD := ⟨("_law_same", none), "_law_same", "_law_same", defArgs s__law_same, defBody s__law_same, defScope s__law_same, [], []⟩
def d__law_pool : He.DefD := ⟨("_law_pool", none), "_law_pool", "_law_pool", defArgs s__law_pool, defBody s__law_pool, defScope s__law_pool, [], []⟩
def d_law : He.DefD := ⟨("law", none), "law", "law", defArgs s_law, defBody s_law, defScope s_law, [], []⟩
def fn : List He.DefD := [d_heights_stand, d_ends_text, d_gap, d_covering_gap, d_ask_ends, d_Standing___init__, d_Way___init__, d_row_of, d_covers, d__law_bag, d__law_draw, d__law_of, d__law_mixed, d__law_int, d__law_thing, d__law_over, d__law_over_ways, d__law_pose, d__law_near, d__law_greater, d__law_same, d__law_pool, d_law]
def fa : List He.Fa := [.glo "heights_stand", .glo "ends_text", .glo "gap", .glo "covering_gap", .glo "ask_ends", .glo "row_of", .glo "covers", .glo "_law_bag", .glo "_law_draw", .glo "_law_of", .glo "_law_mixed", .glo "_law_int", .glo "_law_thing", .glo "_law_over", .glo "_law_over_ways", .glo "_law_pose", .glo "_law_near", .glo "_law_greater", .glo "_law_same", .glo "_law_pool", .glo "law", .free "bool", .free "int", .free "isinstance", .free "len", .free "list", .free "max", .free "min", .free "range", .free "str", .free "tuple", .free "zip", .int "MOST_HEIGHTS" 4, .glo "Standing", .glo "Way", .mkr "Standing", .mkr "Way", .cls "Standing", .cls "Way", .noat "Standing" "together", .noat "Standing" "x", .noat "Standing" "y", .noat "Standing" "heights", .noat "Standing" "count", .noat "Standing" "text", .noat "Way" "x", .noat "Way" "heights", .noat "Way" "count", .noat "Way" "text"]
def insB (K : PySem.W.Frag) (x : Str) : Bool := He.eqO (PySem.W.findIn K (.ref (He.ga K x)) "__class__") (some (some (.builtin "object.__class__"))) && (He.eqO (PySem.W.specialIn K (.builtin "object.__class__") "__get__") (some (some (.builtin "getset_descriptor.__get__"))) &&
  (decide (PySem.W.takesIn K (.builtin "object.__class__") = some true) && (decide (PySem.W.mroIn K (He.ga K x) (.type "object") = some true) && decide (PySem.W.kitOne K (.ref (He.ga K x)) (.ref (He.ga K x)) = some true))))
theorem insB_ok {K : PySem.W.Frag} {x : Str} (cl : Cls K (He.ga K x)) (h : insB K x = true) : C8.InsC K (He.ga K x) := by
  obtain ⟨h1, h⟩ := He.ba h
  obtain ⟨h2, h⟩ := He.ba h
  obtain ⟨h3, h⟩ := He.ba h
  obtain ⟨h4, h5⟩ := He.ba h
  exact ⟨cl, He.eqO_ok h1, He.eqO_ok h2, of_decide_eq_true h3, of_decide_eq_true h4, of_decide_eq_true h5⟩
def ex (K : PySem.W.Frag) : Bool := insB K "Standing" && (insB K "Way" && decide (PySem.W.kitOne K (.ref (He.ga K "Standing")) (.ref (He.ga K "Way")) = some false))
abbrev R : PySem.W.OpenRow := PySem.W.OpenLaw.row PySem.Challenge.rw_buriedsure_k22_whole_covering
abbrev hk : PySem.W.Hook := He.hookX 6 fa fn [] [] ex
def ob (s : PySem.W.SharedT) : He.AlX := He.obsX 6 fa fn [] [] ex (HandSHeadRun.getT s)
theorem ob_eq (s : PySem.W.SharedT) : ob s = hk.obs s.abs := He.obsX_eq (HandSHeadRun.getT_eq s)
def loose : List Str := ["__name__", "BadBook", "MOST_HEIGHTS", "heights_stand", "ends_text", "gap", "covering_gap", "ask_ends", "Standing", "Way", "row_of", "covers", "_law_bag", "_law_draw", "_law_of", "_law_mixed", "_law_int", "_law_thing", "_law_over", "_law_over_ways", "_law_pose", "_law_near", "_law_greater", "_law_same", "_law_pool"]
theorem run (w : World) : HandSHeadRun.RunEq R (PySem.W.view R.prog [29]) hk ob 4000 loose w := by
  intro os
  kernel_rfl
theorem facts {P : Program} {w : World} {K : PySem.W.Frag} {h : Heap} {mg : Str → Option Value} {f : Addr} (X : K.In h) (G : h.Ns mainGlobals mg) (hfa : mg ("law" : Str) = some (.ref f)) (c : He.SaysD fa fn K) (hx : ex K = true) :
    ∃ fd : FuncData, (∀ (s : Shared) (v : Value), BindsTo s fd ⟨[v], []⟩ [("script", v)]) ∧ ∀ base : Heap, K.In base → base.Ns mainGlobals mg → FnOk P w K mg base CX0 7 f fd P_law (sp_law K) := by
  obtain ⟨fd_heights_stand, F_heights_stand⟩ := c.def_ 0 (d := d_heights_stand) rfl
  obtain ⟨fd_ends_text, F_ends_text⟩ := c.def_ 1 (d := d_ends_text) rfl
  obtain ⟨fd_gap, F_gap⟩ := c.def_ 2 (d := d_gap) rfl
  obtain ⟨fd_covering_gap, F_covering_gap⟩ := c.def_ 3 (d := d_covering_gap) rfl
  obtain ⟨fd_ask_ends, F_ask_ends⟩ := c.def_ 4 (d := d_ask_ends) rfl
  obtain ⟨fd_Standing___init__, F_Standing___init__⟩ := c.def_ 5 (d := d_Standing___init__) rfl
  obtain ⟨fd_Way___init__, F_Way___init__⟩ := c.def_ 6 (d := d_Way___init__) rfl
  obtain ⟨fd_row_of, F_row_of⟩ := c.def_ 7 (d := d_row_of) rfl
  obtain ⟨fd_covers, F_covers⟩ := c.def_ 8 (d := d_covers) rfl
  obtain ⟨fd__law_bag, F__law_bag⟩ := c.def_ 9 (d := d__law_bag) rfl
  obtain ⟨fd__law_draw, F__law_draw⟩ := c.def_ 10 (d := d__law_draw) rfl
  obtain ⟨fd__law_of, F__law_of⟩ := c.def_ 11 (d := d__law_of) rfl
  obtain ⟨fd__law_mixed, F__law_mixed⟩ := c.def_ 12 (d := d__law_mixed) rfl
  obtain ⟨fd__law_int, F__law_int⟩ := c.def_ 13 (d := d__law_int) rfl
  obtain ⟨fd__law_thing, F__law_thing⟩ := c.def_ 14 (d := d__law_thing) rfl
  obtain ⟨fd__law_over, F__law_over⟩ := c.def_ 15 (d := d__law_over) rfl
  obtain ⟨fd__law_over_ways, F__law_over_ways⟩ := c.def_ 16 (d := d__law_over_ways) rfl
  obtain ⟨fd__law_pose, F__law_pose⟩ := c.def_ 17 (d := d__law_pose) rfl
  obtain ⟨fd__law_near, F__law_near⟩ := c.def_ 18 (d := d__law_near) rfl
  obtain ⟨fd__law_greater, F__law_greater⟩ := c.def_ 19 (d := d__law_greater) rfl
  obtain ⟨fd__law_same, F__law_same⟩ := c.def_ 20 (d := d__law_same) rfl
  obtain ⟨fd__law_pool, F__law_pool⟩ := c.def_ 21 (d := d__law_pool) rfl
  obtain ⟨fd, F_law⟩ := c.def_ 22 (d := d_law) rfl
  have e := hfa.symm.trans (He.glo_ok X G (c.fact 20 (f := .glo "law") rfl))
  cases e
  have b := FunD.bindsA (ps := P_law) F_law fun _ _ _ _ _ _ us hl => match us, hl with | [_], _ => rfl
  have T : Txt K mg := ⟨He.free_ok X G (c.fact 21 (f := .free "bool") rfl), He.free_ok X G (c.fact 22 (f := .free "int") rfl), He.free_ok X G (c.fact 23 (f := .free "isinstance") rfl), He.free_ok X G (c.fact 24 (f := .free "len") rfl), He.free_ok X G (c.fact 25 (f := .free "list") rfl), He.free_ok X G (c.fact 26 (f := .free "max") rfl), He.free_ok X G (c.fact 27 (f := .free "min") rfl), He.free_ok X G (c.fact 28 (f := .free "range") rfl), He.free_ok X G (c.fact 29 (f := .free "str") rfl), He.free_ok X G (c.fact 30 (f := .free "tuple") rfl), He.free_ok X G (c.fact 31 (f := .free "zip") rfl), He.int_ok X G (c.fact 32 (f := .int "MOST_HEIGHTS" 4) rfl), He.glo_ok X G (c.fact 34 (f := .glo "Way") rfl)⟩
  have kf : KF K := by
    obtain ⟨x1, hx⟩ := He.ba hx
    obtain ⟨x2, x3⟩ := He.ba hx
    refine ⟨insB_ok (He.cls_ok (c.fact 37 (f := .cls "Standing") rfl)) x1, insB_ok (He.cls_ok (c.fact 38 (f := .cls "Way") rfl)) x2, of_decide_eq_true x3, fun f hf => ?_, fun f hf => ?_⟩
    · simp only [List.mem_cons, List.not_mem_nil, or_false] at hf
      rcases hf with rfl | rfl | rfl | rfl | rfl | rfl
      · exact He.noat_ok (c.fact 39 (f := .noat "Standing" "together") rfl)
      · exact He.noat_ok (c.fact 40 (f := .noat "Standing" "x") rfl)
      · exact He.noat_ok (c.fact 41 (f := .noat "Standing" "y") rfl)
      · exact He.noat_ok (c.fact 42 (f := .noat "Standing" "heights") rfl)
      · exact He.noat_ok (c.fact 43 (f := .noat "Standing" "count") rfl)
      · exact He.noat_ok (c.fact 44 (f := .noat "Standing" "text") rfl)
    · simp only [List.mem_cons, List.not_mem_nil, or_false] at hf
      rcases hf with rfl | rfl | rfl | rfl
      · exact He.noat_ok (c.fact 45 (f := .noat "Way" "x") rfl)
      · exact He.noat_ok (c.fact 46 (f := .noat "Way" "heights") rfl)
      · exact He.noat_ok (c.fact 47 (f := .noat "Way" "count") rfl)
      · exact He.noat_ok (c.fact 48 (f := .noat "Way" "text") rfl)
  refine ⟨fd, fun s v => b s [v] rfl, fun base _ _ => ?_⟩
  have C_heights_stand : Cal P w K mg base 1 "heights_stand" P_heights_stand (sp_heights_stand K) := mkCal F_heights_stand (ok_heights_stand F_heights_stand T) (He.glo_ok X G (c.fact 0 (f := .glo "heights_stand") rfl)) fun _ _ _ _ _ _ us hl => match us, hl with | [_], _ => rfl
  have C_ends_text : Cal P w K mg base 1 "ends_text" P_ends_text (sp_ends_text K) := mkCal F_ends_text (ok_ends_text F_ends_text T) (He.glo_ok X G (c.fact 1 (f := .glo "ends_text") rfl)) fun _ _ _ _ _ _ us hl => match us, hl with | [_, _], _ => rfl
  have C_gap : Cal P w K mg base 1 "gap" P_gap (sp_gap K) := mkCal F_gap (ok_gap F_gap T) (He.glo_ok X G (c.fact 2 (f := .glo "gap") rfl)) fun _ _ _ _ _ _ us hl => match us, hl with | [_, _], _ => rfl
  have C_row_of : Cal P w K mg base 1 "row_of" P_row_of (sp_row_of K) := mkCal F_row_of (ok_row_of F_row_of T kf) (He.glo_ok X G (c.fact 5 (f := .glo "row_of") rfl)) fun _ _ _ _ _ _ us hl => match us, hl with | [_], _ => rfl
  have C__law_bag : Cal P w K mg base 1 "_law_bag" P__law_bag (sp__law_bag K) := mkCal F__law_bag (ok__law_bag F__law_bag T) (He.glo_ok X G (c.fact 7 (f := .glo "_law_bag") rfl)) fun _ _ _ _ _ _ us hl => match us, hl with | [_], _ => rfl
  have C__law_draw : Cal P w K mg base 1 "_law_draw" P__law_draw (sp__law_draw K) := mkCal F__law_draw (ok__law_draw F__law_draw T) (He.glo_ok X G (c.fact 8 (f := .glo "_law_draw") rfl)) fun _ _ _ _ _ _ us hl => match us, hl with | [_, _], _ => rfl
  have C__law_int : Cal P w K mg base 1 "_law_int" P__law_int (sp__law_int K) := mkCal F__law_int (ok__law_int F__law_int T) (He.glo_ok X G (c.fact 11 (f := .glo "_law_int") rfl)) fun _ _ _ _ _ _ us hl => match us, hl with | [_], _ => rfl
  have C__law_over : Cal P w K mg base 1 "_law_over" P__law_over (sp__law_over K) := mkCal F__law_over (ok__law_over F__law_over T) (He.glo_ok X G (c.fact 13 (f := .glo "_law_over") rfl)) fun _ _ _ _ _ _ us hl => match us, hl with | [_, _], _ => rfl
  have C__law_over_ways : Cal P w K mg base 1 "_law_over_ways" P__law_over_ways (sp__law_over_ways K) := mkCal F__law_over_ways (ok__law_over_ways F__law_over_ways T) (He.glo_ok X G (c.fact 14 (f := .glo "_law_over_ways") rfl)) fun _ _ _ _ _ _ us hl => match us, hl with | [_, _], _ => rfl
  have C_covering_gap : Cal P w K mg base 2 "covering_gap" P_covering_gap (sp_covering_gap K) := mkCal F_covering_gap (ok_covering_gap F_covering_gap T (C_gap.mono (by decide))) (He.glo_ok X G (c.fact 3 (f := .glo "covering_gap") rfl)) fun _ _ _ _ _ _ us hl => match us, hl with | [_, _], _ => rfl
  have C_ask_ends : Cal P w K mg base 2 "ask_ends" P_ask_ends (sp_ask_ends K) := mkCal F_ask_ends (ok_ask_ends F_ask_ends T (C_heights_stand.mono (by decide))) (He.glo_ok X G (c.fact 4 (f := .glo "ask_ends") rfl)) fun _ _ _ _ _ _ us hl => match us, hl with | [_, _], _ => rfl
  have C__law_of : Cal P w K mg base 2 "_law_of" P__law_of (sp__law_of K) := mkCal F__law_of (ok__law_of F__law_of T (C__law_draw.mono (by decide))) (He.glo_ok X G (c.fact 9 (f := .glo "_law_of") rfl)) fun _ _ _ _ _ _ us hl => match us, hl with | [_, _], _ => rfl
  have C__law_mixed : Cal P w K mg base 2 "_law_mixed" P__law_mixed (sp__law_mixed K) := mkCal F__law_mixed (ok__law_mixed F__law_mixed T (C__law_draw.mono (by decide))) (He.glo_ok X G (c.fact 10 (f := .glo "_law_mixed") rfl)) fun _ _ _ _ _ _ us hl => match us, hl with | [_, _], _ => rfl
  have C__law_same : Cal P w K mg base 2 "_law_same" P__law_same (sp__law_same K) := mkCal F__law_same (ok__law_same F__law_same T (C__law_int.mono (by decide))) (He.glo_ok X G (c.fact 18 (f := .glo "_law_same") rfl)) fun _ _ _ _ _ _ us hl => match us, hl with | [_, _], _ => rfl
  have B_Standing___init__ : Binds K fd_Standing___init__ P_Standing___init__ [] := by
    obtain ⟨ds, hv, hb⟩ := F_Standing___init__.binds1 (ps := P_Standing___init__) 6 2 (by intro z; cases z) rfl fun _ _ _ _ _ _ _ us its hl hl2 => match us, its, hl, hl2 with | [_, _, _, _, _, _], [_, _], _, _ => ⟨_, rfl, rfl⟩
    cases hv
    exact hb
  have M_Standing : CalM P w K mg base 3 "Standing" (He.ga K "Standing") P_Standing___init__ (sp_Standing___init__ K) := ⟨_, fd_Standing___init__, He.mkr_ok (c.fact 35 (f := .mkr "Standing") rfl), ok_Standing___init__ F_Standing___init__ T kf (C_ask_ends.mono (by decide)) (C_ends_text.mono (by decide)), He.glo_ok X G (c.fact 33 (f := .glo "Standing") rfl), B_Standing___init__⟩
  have B_Way___init__ : Binds K fd_Way___init__ P_Way___init__ [] := by
    obtain ⟨ds, hv, hb⟩ := F_Way___init__.binds1 (ps := P_Way___init__) 4 2 (by intro z; cases z) rfl fun _ _ _ _ _ _ _ us its hl hl2 => match us, its, hl, hl2 with | [_, _, _, _], [_, _], _, _ => ⟨_, rfl, rfl⟩
    cases hv
    exact hb
  have M_Way : CalM P w K mg base 3 "Way" (He.ga K "Way") P_Way___init__ (sp_Way___init__ K) := ⟨_, fd_Way___init__, He.mkr_ok (c.fact 36 (f := .mkr "Way") rfl), ok_Way___init__ F_Way___init__ T kf (C_ask_ends.mono (by decide)) (C_ends_text.mono (by decide)), He.glo_ok X G (c.fact 34 (f := .glo "Way") rfl), B_Way___init__⟩
  have C_covers : Cal P w K mg base 3 "covers" P_covers (sp_covers K) := mkCal F_covers (ok_covers F_covers T (C_covering_gap.mono (by decide)) (C_row_of.mono (by decide))) (He.glo_ok X G (c.fact 6 (f := .glo "covers") rfl)) fun _ _ _ _ _ _ us hl => match us, hl with | [_, _], _ => rfl
  have C__law_pose : Cal P w K mg base 3 "_law_pose" P__law_pose (sp__law_pose K) := mkCal F__law_pose (ok__law_pose F__law_pose T (C__law_draw.mono (by decide)) (C__law_of.mono (by decide))) (He.glo_ok X G (c.fact 15 (f := .glo "_law_pose") rfl)) fun _ _ _ _ _ _ us hl => match us, hl with | [_, _, _], _ => rfl
  have C__law_near : Cal P w K mg base 3 "_law_near" P__law_near (sp__law_near K) := mkCal F__law_near (ok__law_near F__law_near T (C__law_draw.mono (by decide)) (C__law_of.mono (by decide))) (He.glo_ok X G (c.fact 16 (f := .glo "_law_near") rfl)) fun _ _ _ _ _ _ us hl => match us, hl with | [_, _, _], _ => rfl
  have C__law_greater : Cal P w K mg base 3 "_law_greater" P__law_greater (sp__law_greater K) := mkCal F__law_greater (ok__law_greater F__law_greater T (C__law_of.mono (by decide)) (C__law_draw.mono (by decide))) (He.glo_ok X G (c.fact 17 (f := .glo "_law_greater") rfl)) fun _ _ _ _ _ _ us hl => match us, hl with | [_, _, _], _ => rfl
  have C__law_thing : Cal P w K mg base 5 "_law_thing" P__law_thing (sp__law_thing K) := mkCal F__law_thing (ok__law_thing F__law_thing T (M_Standing.mono (by decide))) (He.glo_ok X G (c.fact 12 (f := .glo "_law_thing") rfl)) fun _ _ _ _ _ _ us hl => match us, hl with | [_], _ => rfl
  have C__law_pool : Cal P w K mg base 6 "_law_pool" P__law_pool (sp__law_pool K) := mkCal F__law_pool (ok__law_pool F__law_pool T (C__law_thing.mono (by decide)) (M_Way.mono (by decide)) (C__law_same.mono (by decide)) (C__law_over.mono (by decide)) (C_covers.mono (by decide)) (C__law_over_ways.mono (by decide))) (He.glo_ok X G (c.fact 19 (f := .glo "_law_pool") rfl)) fun _ _ _ _ _ _ us hl => match us, hl with | [_, _], _ => rfl
  exact ok_law F_law T (C__law_bag.mono (by decide)) (C__law_pose.mono (by decide)) (C__law_draw.mono (by decide)) (C__law_of.mono (by decide)) (C__law_greater.mono (by decide)) (C_covers.mono (by decide)) (C__law_thing.mono (by decide)) (C__law_near.mono (by decide)) (C__law_pool.mono (by decide)) (C__law_mixed.mono (by decide))
end My
open PySem PySem.W PySem.Calls PyProof.Rows
theorem PySem.Challenge.cw_buriedsure_k22_whole_covering_holds : PySem.Challenge.rw_buriedsure_k22_whole_covering.Holds := by
  w_on; o_law
  refine HandSHeadRun.head_any (r := OpenLaw.row PySem.Challenge.rw_buriedsure_k22_whole_covering) (q := view (OpenLaw.row PySem.Challenge.rw_buriedsure_k22_whole_covering).prog [29]) (H := My.hk) (ob := My.ob) (M := 4000) (loose := My.loose) (d := HandSHeadRun.topDef (OpenLaw.row PySem.Challenge.rw_buriedsure_k22_whole_covering).prog 29) (kwd := []) My.ob_eq
    (by kernel_rfl) (fun s => by kernel_rfl) My.run (by kernel_rfl) (by kernel_rfl) (by kernel_rfl) (by rfl) (by first | assumption | decide +kernel) (by decide +kernel) ⟨rfl, rfl, rfl, rfl, rfl, by decide +kernel⟩ ?hw ?hc
  case hw => w_witness2
  case hc =>
    refine L2.walk_ofE (l := PySem.Challenge.rw_buriedsure_k22_whole_covering) (n := 63) (k := 7) (x := "script") (CX := L2.CX0) rfl (by decide) (by kernel_rfl) ⟨rfl, by decide, by decide⟩ ?F (fun _ _ _ _ z => z)
    intro w mg fa h Y G hmg0
    obtain ⟨K, KX, c⟩ := Y
    have hmg : mg ("law" : PySem.Str) = some (.ref fa) := by
      have e : (HandSHeadRun.topDef (OpenLaw.row PySem.Challenge.rw_buriedsure_k22_whole_covering).prog 29).name = ("law" : PySem.Str) := by kernel_rfl
      rw [← e]
      exact hmg0
    obtain ⟨fd, hb, hF⟩ := My.facts (P := (PySem.Challenge.rw_buriedsure_k22_whole_covering).prog) (w := w) KX G hmg c.t.d c.more
    exact ⟨K, fd, My.sp_law K, KX, hb, fun H a ns hl _ hS => ⟨a, ns, rfl, hS, hl, fun _ => rfl⟩, hF⟩

