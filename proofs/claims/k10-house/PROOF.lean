import PyProof.Rows.All
import Wide.All
import OpenK.AllK
import Wide.FinOn
import HandS.ForMost
import HandS.IsInst
import HandS.Evl
import HandS.Walk
import KE.SortData
import KE.KDictCopyH
import KE.KDictOf
import KE.KDictSum
import HandS.Conv
import HandS.Finally
import HandS.DictTup
import HandS.TupLen
import HandS.Zip
import KE.GoesEnum
import KE.GoesMore
import KE.KeyNested
import KE.KDictKeyed
import PySem.Challenge.RW_manydoors_k10_houses_handle
set_option Elab.async false
set_option linter.all false
set_option maxRecDepth 100000
set_option maxHeartbeats 1000000
namespace Lw
open PySem L2

/-! ### frames: what a piece of code leaves as it was -/
structure Fr (l : List Addr) (H H' : Hp) : Prop where
  keep : ∀ a o, H a = some o → a ∉ l → H' a = some o
  tup : ∀ a xs, H a = some (.tup xs) → H' a = some (.tup xs)
theorem Fr.refl {l : List Addr} {H : Hp} : Fr l H H := ⟨fun _ _ h _ => h, fun _ _ h => h⟩
theorem Fr.mono {l m : List Addr} {H H' : Hp} (f : Fr l H H') (h : ∀ a, a ∈ l → a ∈ m) : Fr m H H' := ⟨fun a o e n => f.keep a o e fun q => n (h a q), f.tup⟩
theorem Fr.of0 {m : List Addr} {H H' : Hp} (f : Fr [] H H') : Fr m H H' := f.mono fun _ q => nomatch q
theorem Fr.new {H : Hp} {p : Addr} {o : HO} (h : H p = none) : Fr [] H (upd H p o) := ⟨fun a u e _ => by rw [upd_ne (ne_of_none e h)]; exact e, fun a u e => by rw [upd_ne (ne_of_none e h)]; exact e⟩
def notTup : HO → Prop
  | .tup _ => False
  | _ => True
theorem Fr.put {H : Hp} {p : Addr} {o u : HO} (h : H p = some u) (hu : notTup u) : Fr [p] H (upd H p o) := by
  refine ⟨fun a v e n => ?_, fun a v e => ?_⟩
  · rw [upd_ne fun q => n (List.mem_singleton.mpr q)]; exact e
  · by_cases q : a = p
    · subst q; rw [h] at e; cases e; exact hu.elim
    · rw [upd_ne q]; exact e
theorem Fr.trans {l m : List Addr} {H H1 H2 : Hp} (f : Fr l H H1) (g : Fr m H1 H2) : Fr (l ++ m) H H2 :=
  ⟨fun a o e n => g.keep a o (f.keep a o e fun q => n (List.mem_append_left _ q)) fun q => n (List.mem_append_right _ q), fun a xs e => g.tup a xs (f.tup a xs e)⟩
theorem Fr.transL {l : List Addr} {H H1 H2 : Hp} (f : Fr l H H1) (g : Fr l H1 H2) : Fr l H H2 := (f.trans g).mono fun _ q => (List.mem_append.mp q).elim id id
theorem Fr.then0 {l : List Addr} {H H1 H2 : Hp} (f : Fr l H H1) (g : Fr [] H1 H2) : Fr l H H2 := f.transL g.of0
theorem Fr.pre0 {l : List Addr} {H H1 H2 : Hp} (f : Fr [] H H1) (g : Fr l H1 H2) : Fr l H H2 := f.of0.transL g
theorem Fr.pre0' {l : List Addr} {H H1 H2 : Hp} (g : Fr l H1 H2) (f : Fr [] H H1) : Fr l H H2 := f.pre0 g
/-- an address that was not tracked may be written -/
theorem Fr.drop {l : List Addr} {p : Addr} {H H' : Hp} (f : Fr (p :: l) H H') (h : H p = none) : Fr l H H' :=
  ⟨fun a o e n => f.keep a o e fun q => (List.mem_cons.mp q).elim (fun z => by rw [z, h] at e; cases e) n, f.tup⟩
theorem Fr.free {H H' : Hp} {p : Addr} (f : Fr [] H H') (h : H' p = none) : H p = none := by
  cases q : H p with
  | none => rfl
  | some o => rw [f.keep p o q (by simp)] at h; cases h
theorem Fr.freeL {l : List Addr} {H H' : Hp} {p : Addr} (f : Fr l H H') (h : H' p = none) (n : p ∉ l) : H p = none := by
  cases q : H p with
  | none => rfl
  | some o => rw [f.keep p o q n] at h; cases h
/-- new objects may change -/
theorem Fr.own {l m : List Addr} {H H' H2 : Hp} (f : Fr l H H') (g : Fr m H' H2) (n : ∀ a, a ∈ m → a ∈ l ∨ H a = none) : Fr l H H2 :=
  ⟨fun a o e na => g.keep a o (f.keep a o e na) fun q => (n a q).elim na (fun z => by rw [z] at e; cases e), fun a xs e => g.tup a xs (f.tup a xs e)⟩
theorem Fr.own1 {l : List Addr} {p : Addr} {H H' H2 : Hp} (f : Fr l H H') (g : Fr [p] H' H2) (n : H p = none) : Fr l H H2 := f.own g fun a q => .inr (by rw [List.mem_singleton.mp q]; exact n)
theorem frn0 {l : List Addr} {H : Hp} : ∀ a, a ∈ ([] : List Addr) → a ∈ l ∨ H a = none := fun _ q => nomatch q
theorem frn1 {p : Addr} {l m : List Addr} {H : Hp} (h : p ∈ l ∨ H p = none) (t : ∀ a, a ∈ m → a ∈ l ∨ H a = none) : ∀ a, a ∈ p :: m → a ∈ l ∨ H a = none := fun a q => (List.mem_cons.mp q).elim (fun e => e ▸ h) (t a)
theorem nin0 {a : Addr} : a ∉ ([] : List Addr) := by simp
theorem nin1 {a b : Addr} {l : List Addr} (h : a ≠ b) (t : a ∉ l) : a ∉ b :: l := by simp [h, t]
theorem Fr.tupAt {l : List Addr} {H H' : Hp} {a : Addr} {xs : List V} (f : Fr l H H') (h : H a = some (.tup xs)) : H' a = some (.tup xs) := f.tup a xs h
theorem Fr.at0 {H H' : Hp} {a : Addr} {o : HO} (f : Fr [] H H') (h : H a = some o) : H' a = some o := f.keep a o h nin0
theorem Fr.at {l : List Addr} {H H' : Hp} {a : Addr} {o : HO} (f : Fr l H H') (h : H a = some o) (n : a ∉ l) : H' a = some o := f.keep a o h n
theorem Fr.sql {K : PySem.W.Frag} {l : List Addr} {H H' : Hp} {a : Addr} {xs : List V} (f : Fr l H H') (h : SqL K H a xs) (n : a ∉ l) : SqL K H' a xs := by
  rcases h with (h | ⟨o, h⟩) | h
  · exact .inl (.inl (f.keep _ _ h n))
  · exact .inl (.inr ⟨o, f.keep _ _ h n⟩)
  · exact .inr h

/-! ### operators by name -/
def oAdd : R2 := rI0 fun i j => .int (i + j)
def oSub : R2 := rI0 fun i j => .int (i - j)
def oMul : R2 := rI CMul fun i j => .int (i * j)
def oMod : R2 := rI (fun _ j => 0 < j) fun i j => .int (i % j)
def oDiv : R2 := rI CDiv fun i j => .int (i / j)
def oPow : R2 := rI CPow fun i j => .int (i ^ j.toNat)
def cLt : R2 := rI0 fun i j => .bl (decide (i < j))
def cLe : R2 := rI0 fun i j => .bl (decide (i ≤ j))
def cGt : R2 := rI0 fun i j => .bl (decide (j < i))
def cGe : R2 := rI0 fun i j => .bl (decide (j ≤ i))
section
variable {X : Cx}
theorem o_add : OpR X (binaryOp .Add) oAdd := op_add
theorem o_sub : OpR X (binaryOp .Sub) oSub := op_sub
theorem o_mul : OpR X (binaryOp .Mult) oMul := op_mul
theorem o_mod : OpR X (binaryOp .Mod) oMod := op_mod
theorem o_div : OpR X (binaryOp .FloorDiv) oDiv := op_fdiv
theorem o_pow : OpR X (binaryOp .Pow) oPow := op_pow
theorem c_lt : OpR X (compareOp .Lt) cLt := op_lt
theorem c_le : OpR X (compareOp .LtE) cLe := op_le
theorem c_gt : OpR X (compareOp .Gt) cGt := op_gt
theorem c_ge : OpR X (compareOp .GtE) cGe := op_ge
/-- len -/
def rLenSq (K : PySem.W.Frag) : List V → Hp → VK → Prop := fun xs H Q => ∃ p ys, xs = [.ref p] ∧ (SqL K H p ys ∨ SqT K H p ys) ∧ Q (.int ys.length) H
def rLenStr : List V → Hp → VK → Prop := fun xs H Q => ∃ z, xs = [.str z] ∧ z.length ≤ sizeLine ∧ Q (.int z.length) H
theorem b_len : CallR X (.builtin "len") (rLenSq X.K) := call_len_seq
theorem b_lenS : CallR X (.builtin "len") rLenStr := call_len_str
/-- list(..), tuple(..) -/
def rListOf (K : PySem.W.Frag) : List V → Hp → VK → Prop := fun xs H Q => ∃ p ys, xs = [.ref p] ∧ (SqL K H p ys ∨ SqT K H p ys) ∧ ∀ l, H l = none → Q (.ref l) (upd H l (.lst ys))
def rTupOf (K : PySem.W.Frag) : List V → Hp → VK → Prop := fun xs H Q => ∃ p ys, xs = [.ref p] ∧ ((SqL K H p ys ∧ ∀ l, H l = none → Q (.ref l) (upd H l (.tup ys))) ∨ (SqT K H p ys ∧ Q (.ref p) H))
theorem b_list : CallR X (.type "list") (rListOf X.K) := call_list_of
theorem b_tuple : CallR X (.type "tuple") (rTupOf X.K) := call_tuple_of
def rMax2 : List V → Hp → VK → Prop := fun xs H Q => ∃ i j, xs = [.int i, .int j] ∧ Q (.int (if j > i then j else i)) H
def rMin2 : List V → Hp → VK → Prop := fun xs H Q => ∃ i j, xs = [.int i, .int j] ∧ Q (.int (if j < i then j else i)) H
theorem b_max2 (hc : X.calm = true) : CallR X (.builtin "max") rMax2 := call_max2 hc
theorem b_min2 (hc : X.calm = true) : CallR X (.builtin "min") rMin2 := call_min2 hc
def rIsNon : R2 := fun x y H Q => y = .non ∧ Q (.bl (decide (x = .non))) H
def rIsNotNon : R2 := fun x y H Q => y = .non ∧ Q (.bl (!decide (x = .non))) H
theorem c_isN : OpR X (compareOp .Is) rIsNon := op_isN
theorem c_notN : OpR X (compareOp .IsNot) rIsNotNon := op_notN
/-- a value's truth, as a test -/
def tTr (K : PySem.W.Frag) (ta : TE) : TT := fun σ H Q => ta σ H fun x H' => ∃ k, TruV K x H' k ∧ Q k H'
theorem pt_tr {a : Expr} {ta : TE} (ha : PE X a ta) (he : ∀ whole, isTrue a X.env whole = (do let v ← whole; standAt a.pos; holding [v] (truthy v))) : PT X a (tTr X.K ta) := pt_truth ha he

/-! ### calls -/
def tCl (sp : Sp) (t : TA) : TE := fun σ H Q => t σ H fun vs H1 => sp vs H1 Q E0
def rMt (C : Addr) (m : Str) (x : V) (H : Hp) (p : Prop) : Prop := ∃ a dx fs, x = .ref a ∧ H a = some (.ins C dx fs) ∧ fs.lookup m = none ∧ p
def tMt (C : Addr) (m : Str) (sp : Sp) (ta : TE) (t : TA) : TE := fun σ H Q => ta σ H fun x H1 => rMt C m x H1 (t σ H1 fun vs H2 => sp (x :: vs) H2 Q E0)
def tMk (C : Addr) (sp : Sp) (t : TA) : TE := fun σ H Q => t σ H fun vs H1 => ∀ x dx, H1 x = none → H1 dx = none → dx ≠ x →
  sp (.ref x :: vs) (upd (upd H1 dx (.own x)) x (.ins C dx [])) (fun v H2 => v = .non ∧ Q (.ref x) H2) E0
/-- a def of the text, to be called by its name -/
structure Cal (P : Program) (w : World) (K : PySem.W.Frag) (mg : Str → Option Value) (base : Heap) (x : Str) (k : Nat) (ps : List Str) (sp : Sp) : Prop where
  ex : ∃ f fd, FnOk P w K mg base CX0 k f fd ps sp ∧ mg x = some (.ref f) ∧ PySem.W.keepIn K (.ref f) = true ∧ Binds K fd ps []
/-- a method of the class at C -/
structure CalM (P : Program) (w : World) (K : PySem.W.Frag) (mg : Str → Option Value) (base : Heap) (C : Addr) (m : Str) (k : Nat) (ps : List Str) (sp : Sp) : Prop where
  ex : ∃ f fd, FnOk P w K mg base CX0 k f fd ps sp ∧ Meth K C m f ∧ Binds K fd ps []
/-- a class, to be called by its name -/
structure CalC (P : Program) (w : World) (K : PySem.W.Frag) (mg : Str → Option Value) (base : Heap) (x : Str) (C : Addr) (k : Nat) (ps : List Str) (sp : Sp) : Prop where
  ex : ∃ f fd, FnOk P w K mg base CX0 k f fd ps sp ∧ Mk K C f ∧ mg x = some (.ref C) ∧ Binds K fd ps []
variable {k : Nat} {ps : List Str} {sp : Sp} {x m : Str} {p pos apos : Pos} {e o : Expr} {es : List Expr} {ta : TE} {t : TA} {C : Addr}
theorem tcl_eq {E : XK} : (tCall sp [] E0 t) = tCl sp t := by
  funext σ H Q
  show (t σ H fun vs H1 => sp (vs ++ []) H1 Q E0) = (t σ H fun vs H1 => sp vs H1 Q E0)
  simp only [List.append_nil]
theorem pe_cl (c : Cal X.prog X.w X.K X.mg X.base x k ps sp) (hr : Room k X.A) (hg : Gl X x) (ha : PA X (e :: es) t) (hdb : (x == ("__debug__" : Str)) = false := by decide)
    (he : starEach (e :: es) X.env = (false, eval e X.env) :: starEach es X.env := by rfl) (hpl : (backTo pos (starEach es X.env)).any (·.1) = false := by rfl) : PE X (.Call (.Name x p) (e :: es) [] pos) (tCl sp t) := by
  obtain ⟨f, fd, F, hm, hk, hb⟩ := c.ex
  rw [← tcl_eq (E := E0)]
  exact pe_call F hr hg hm hk hb .nil pass0 ha hdb he hpl
theorem pe_cl0 (c : Cal X.prog X.w X.K X.mg X.base x k ps sp) (hr : Room k X.A) (hg : Gl X x) (hdb : (x == ("__debug__" : Str)) = false := by decide) : PE X (.Call (.Name x p) [] [] pos) (tCl sp tNil) := by
  obtain ⟨f, fd, F, hm, hk, hb⟩ := c.ex
  rw [← tcl_eq (E := E0)]
  exact pe_call0 F hr hg hm hk hb .nil pass0 hdb
theorem tmt_eq : (tMeth C m sp [] E0 ta t) = tMt C m sp ta t := by
  funext σ H Q
  show (ta σ H fun x H1 => ∃ a dx fs, x = .ref a ∧ H1 a = some (.ins C dx fs) ∧ fs.lookup m = none ∧ t σ H1 fun vs H2 => sp (x :: (vs ++ [])) H2 Q E0) = _
  simp only [List.append_nil]
  rfl
theorem tmk_eq : (tMake C sp [] E0 t) = tMk C sp t := by
  funext σ H Q
  show (t σ H fun vs H1 => ∀ x dx, H1 x = none → H1 dx = none → dx ≠ x → sp (.ref x :: (vs ++ [])) (upd (upd H1 dx (.own x)) x (.ins C dx [])) (fun v H2 => v = .non ∧ Q (.ref x) H2) E0) = _
  simp only [List.append_nil]
  rfl
theorem pe_mt {pl : Sem Bool} (he : PE X o ta) (c : Cls X.K C) (cm : CalM X.prog X.w X.K X.mg X.base C m k ps sp) (hr : Room k X.A) (ha : PA X (e :: es) t)
    (hst : starEach (e :: es) X.env = (false, eval e X.env) :: starEach es X.env := by rfl) (hpl : (backTo pos (starEach es X.env)).any (·.1) = false := by rfl)
    (ht : eval (.Call (.Attribute o m apos) (e :: es) [] pos) X.env = (do
      let ov ← eval o X.env
      standAt apos.atName
      let (f, first) ← holding [ov] (getMethod ov m pl)
      callWith pos f first (backTo pos (starEach (e :: es) X.env)) (backToKw pos (keywordEach [] X.env))) := by rfl) :
    PE X (.Call (.Attribute o m apos) (e :: es) [] pos) (tMt C m sp ta t) := by
  obtain ⟨f, fd, F, hm, hb⟩ := cm.ex
  rw [← tmt_eq]
  exact pe_meth (pl := pl) he c hm F hr hb .nil pass0 ha hst hpl ht
theorem pe_mt0 {pl : Sem Bool} (he : PE X o ta) (c : Cls X.K C) (cm : CalM X.prog X.w X.K X.mg X.base C m k ps sp) (hr : Room k X.A)
    (ht : eval (.Call (.Attribute o m apos) [] [] pos) X.env = (do
      let ov ← eval o X.env
      standAt apos.atName
      let (f, first) ← holding [ov] (getMethod ov m pl)
      callWith pos f first (backTo pos (starEach [] X.env)) (backToKw pos (keywordEach [] X.env))) := by rfl) :
    PE X (.Call (.Attribute o m apos) [] [] pos) (tMt C m sp ta tNil) := by
  obtain ⟨f, fd, F, hm, hb⟩ := cm.ex
  rw [← tmt_eq]
  exact pe_meth0 (pl := pl) he c hm F hr hb .nil pass0 ht
theorem pe_mk (cm : CalC X.prog X.w X.K X.mg X.base x C k ps sp) (hr : Room (k + 1) X.A) (hg : Gl X x) (ha : PA X (e :: es) t) (hdb : (x == ("__debug__" : Str)) = false := by decide)
    (he : starEach (e :: es) X.env = (false, eval e X.env) :: starEach es X.env := by rfl) (hpl : (backTo pos (starEach es X.env)).any (·.1) = false := by rfl) :
    PE X (.Call (.Name x p) (e :: es) [] pos) (tMk C sp t) := by
  obtain ⟨f, fd, F, hM, hm, hb⟩ := cm.ex
  rw [← tmk_eq]
  exact pe_make hM F hr hg hm hb .nil pass0 ha hdb he hpl
theorem pe_mk0 (cm : CalC X.prog X.w X.K X.mg X.base x C k ps sp) (hr : Room (k + 1) X.A) (hg : Gl X x) (hdb : (x == ("__debug__" : Str)) = false := by decide) :
    PE X (.Call (.Name x p) [] [] pos) (tMk C sp tNil) := by
  obtain ⟨f, fd, F, hM, hm, hb⟩ := cm.ex
  rw [← tmk_eq]
  exact pe_make0 hM F hr hg hm hb .nil pass0 hdb
end

/-! ### readings, one step each -/
section
variable {K : PySem.W.Frag} {σ : L2.St} {H H' : Hp} {Q : VK} {D : Ends} {i : Nat} {v x y : V} {ta tb te tc : TE} {r : R2} {t u : TS} {c d : TT} {as tr : TA} {g : TG} {a b : Int} {p C dx : Addr} {QB : Bool → Hp → Prop} {QL : List V → Hp → Prop}
theorem g_seq (h : t { D with nx := u D } σ H) : tSeq t u D σ H := h
theorem g_cut (M : L2.St → Hp → Prop) (h : t { D with nx := M } σ H) (k : ∀ σ' H', M σ' H' → u D σ' H') : Evl.tCut t u D σ H := ⟨M, h, k⟩
theorem g_next (h : D.nx σ H) : tNext D σ H := h
theorem g_brk (h : D.bk σ H) : tBreak D σ H := h
theorem g_cont (h : D.ct σ H) : tCont D σ H := h
theorem g_asg (h : te σ H (fun v H' => g v σ H' D.nx)) : tAsg te g D σ H := h
theorem g_name {QS : L2.St → Hp → Prop} (h : QS (σ.set i (some v)) H) : gName i v σ H QS := h
theorem g_ret (h : te σ H D.rt) : tRet te D σ H := h
theorem g_retN (h : D.rt .non H) : tRetN D σ H := h
theorem g_drop (h : te σ H (fun _ H' => D.nx σ H')) : tDrop te D σ H := h
theorem g_ifs (h : c σ H (fun b H' => if b = true then t D σ H' else u D σ H')) : tIfS c t u D σ H := h
theorem g_aug {ti : TIp} (hx : σ[i]? = some (some x)) (h : te σ H (fun y H1 => ti x y H1 fun z H2 => D.nx (σ.set i (some z)) H2)) : tAug i te ti D σ H := ⟨x, hx, h⟩
theorem g_ipI {f : Int → Int → Int} (h : Q (.int (f a b)) H) : ipI f (.int a) (.int b) H Q := ⟨a, b, rfl, rfl, h⟩
theorem g_var (hx : σ[i]? = some (some v)) (h : Q v H) : tVar i σ H Q := ⟨v, hx, h⟩
theorem g_c (h : Q v H) : tC v σ H Q := h
theorem g_op (h : ta σ H (fun x H1 => tb σ H1 fun y H2 => r x y H2 Q)) : tOp r ta tb σ H Q := h
theorem g_add (h : Q (.int (a + b)) H) : oAdd (.int a) (.int b) H Q := ⟨a, b, rfl, rfl, h⟩
theorem g_sub (h : Q (.int (a - b)) H) : oSub (.int a) (.int b) H Q := ⟨a, b, rfl, rfl, h⟩
theorem g_mul (hc : CMul a b) (h : Q (.int (a * b)) H) : oMul (.int a) (.int b) H Q := ⟨a, b, rfl, rfl, hc, h⟩
theorem g_mod (hc : 0 < b) (h : Q (.int (a % b)) H) : oMod (.int a) (.int b) H Q := ⟨a, b, rfl, rfl, hc, h⟩
theorem g_div (hc : CDiv a b) (h : Q (.int (a / b)) H) : oDiv (.int a) (.int b) H Q := ⟨a, b, rfl, rfl, hc, h⟩
theorem g_pow (hc : CPow a b) (h : Q (.int (a ^ b.toNat)) H) : oPow (.int a) (.int b) H Q := ⟨a, b, rfl, rfl, hc, h⟩
theorem g_lt (h : Q (.bl (decide (a < b))) H) : cLt (.int a) (.int b) H Q := ⟨a, b, rfl, rfl, h⟩
theorem g_le (h : Q (.bl (decide (a ≤ b))) H) : cLe (.int a) (.int b) H Q := ⟨a, b, rfl, rfl, h⟩
theorem g_gt (h : Q (.bl (decide (b < a))) H) : cGt (.int a) (.int b) H Q := ⟨a, b, rfl, rfl, h⟩
theorem g_ge (h : Q (.bl (decide (b ≤ a))) H) : cGe (.int a) (.int b) H Q := ⟨a, b, rfl, rfl, h⟩
theorem g_eqI (h : Q (.bl (decide (a = b))) H) : rEq (.int a) (.int b) H Q := ⟨rfl, by rw [show decide (V.int a = V.int b) = decide (a = b) from by simp]; exact h⟩
theorem g_neI (h : Q (.bl (!decide (a = b))) H) : rNe (.int a) (.int b) H Q := ⟨rfl, by rw [show decide (V.int a = V.int b) = decide (a = b) from by simp]; exact h⟩
theorem g_eqS {a b : Str} (h : Q (.bl (decide (a = b))) H) : rEq (.str a) (.str b) H Q := ⟨rfl, by rw [show decide (V.str a = V.str b) = decide (a = b) from by simp]; exact h⟩
theorem g_neS {a b : Str} (h : Q (.bl (!decide (a = b))) H) : rNe (.str a) (.str b) H Q := ⟨rfl, by rw [show decide (V.str a = V.str b) = decide (a = b) from by simp]; exact h⟩
theorem g_eqB {a b : Bool} (h : Q (.bl (decide (a = b))) H) : rEq (.bl a) (.bl b) H Q := ⟨rfl, by rw [show decide (V.bl a = V.bl b) = decide (a = b) from by simp]; exact h⟩
theorem g_isN (h : Q (.bl (decide (x = .non))) H) : rIsNon x .non H Q := ⟨rfl, h⟩
theorem g_notN (h : Q (.bl (!decide (x = .non))) H) : rIsNotNon x .non H Q := ⟨rfl, h⟩
theorem g_test (h : te σ H (fun x H' => ∃ k, x = .bl k ∧ QB k H')) : tTest te σ H QB := h
theorem g_tb (h : te σ H (fun x H' => ∃ k, x = .bl k ∧ QB k H')) : tB te σ H QB := h
theorem g_bl {k : Bool} {P : Bool → Prop} (h : P k) : ∃ k', V.bl k = V.bl k' ∧ P k' := ⟨k, rfl, h⟩
theorem g_and (h : c σ H (fun b H1 => if b = true then d σ H1 QB else QB false H1)) : tAnd c d σ H QB := h
theorem g_or (h : c σ H (fun b H1 => if b = true then QB true H1 else d σ H1 QB)) : tOr c d σ H QB := h
theorem g_not (h : c σ H (fun b H1 => QB (!b) H1)) : tNot c σ H QB := h
theorem g_andV (h : ta σ H (fun x H1 => ∃ c, x = .bl c ∧ if c = true then tb σ H1 Q else Q (.bl false) H1)) : tAndV ta tb σ H Q := h
theorem g_orV (h : ta σ H (fun x H1 => ∃ c, x = .bl c ∧ if c = true then Q (.bl true) H1 else tb σ H1 Q)) : tOrV ta tb σ H Q := h
theorem g_notV (h : ta σ H (fun x H1 => ∃ c, x = .bl c ∧ Q (.bl (!c)) H1)) : tNotV ta σ H Q := h
theorem g_ifE (h : c σ H (fun b H1 => if b = true then ta σ H1 Q else tb σ H1 Q)) : tIf c ta tb σ H Q := h
theorem g_ite {P : Prop} [Decidable P] {A B : Prop} (h1 : P → A) (h2 : ¬ P → B) : if decide P = true then A else B := by
  by_cases h : P
  · rw [if_pos (decide_eq_true h)]; exact h1 h
  · rw [if_neg (by simp [h])]; exact h2 h
theorem g_iteN {P : Prop} [Decidable P] {A B : Prop} (h1 : ¬ P → A) (h2 : P → B) : if (!decide P) = true then A else B := by
  by_cases h : P
  · rw [if_neg (by simp [h])]; exact h2 h
  · rw [if_pos (by simp [h])]; exact h1 h
theorem g_iteB {k : Bool} {A B : Prop} (h1 : k = true → A) (h2 : k = false → B) : if k = true then A else B := by
  cases k with
  | true => rw [if_pos rfl]; exact h1 rfl
  | false => rw [if_neg Bool.false_ne_true]; exact h2 rfl
theorem g_iteNB {k : Bool} {A B : Prop} (h1 : k = false → A) (h2 : k = true → B) : if (!k) = true then A else B := by
  cases k with
  | true => rw [if_neg (by decide)]; exact h2 rfl
  | false => rw [if_pos (by decide)]; exact h1 rfl
theorem g_iteT {A B : Prop} (h : A) : if true = true then A else B := by rw [if_pos rfl]; exact h
theorem g_iteF {A B : Prop} (h : B) : if false = true then A else B := by rw [if_neg Bool.false_ne_true]; exact h
theorem g_iteNT {A B : Prop} (h : B) : if (!true) = true then A else B := by rw [if_neg (by decide)]; exact h
theorem g_iteNF {A B : Prop} (h : A) : if (!false) = true then A else B := by rw [if_pos (by decide)]; exact h
theorem g_nil (h : QL [] H) : tNil σ H QL := h
theorem g_cons (h : te σ H (fun x H1 => as σ H1 fun xs H2 => QL (x :: xs) H2)) : tCons te as σ H QL := h
theorem g_cb {rr : List V → Hp → VK → Prop} (h : as σ H (fun vs H1 => rr vs H1 Q)) : tCB rr as σ H Q := h
theorem g_cl {sp : Sp} (h : as σ H (fun vs H1 => sp vs H1 Q E0)) : tCl sp as σ H Q := h
/-- a new tuple, a new list -/
def rNewT (vs : List V) (H : Hp) (Q : VK) : Prop := vs.length ≤ sizeLine ∧ ∀ p, H p = none → Q (.ref p) (upd H p (.tup vs))
def rNewL (vs : List V) (H : Hp) (Q : VK) : Prop := vs.length ≤ sizeLine ∧ ∀ p, H p = none → Q (.ref p) (upd H p (.lst vs))
theorem g_tup (h : as σ H (fun vs H1 => rNewT vs H1 Q)) : tTup as σ H Q := h
theorem g_lst (h : as σ H (fun vs H1 => rNewL vs H1 Q)) : tLst as σ H Q := h
theorem g_newT {vs : List V} (hl : vs.length ≤ sizeLine) (h : ∀ p H', H p = none → Fr [] H H' → H' p = some (.tup vs) → Q (.ref p) H') : rNewT vs H Q := ⟨hl, fun p hp => h p _ hp (Fr.new hp) upd_same⟩
theorem g_newL {vs : List V} (hl : vs.length ≤ sizeLine) (h : ∀ p H', H p = none → Fr [] H H' → H' p = some (.lst vs) → Q (.ref p) H') : rNewL vs H Q := ⟨hl, fun p hp => h p _ hp (Fr.new hp) upd_same⟩
theorem g_ixL {xs : List V} {k : Int} (h : SqL K H p xs) (ha : atI xs k = some v) (q : Q v H) : rIxL K (.ref p) (.int k) H Q := ⟨p, xs, k, v, rfl, rfl, h, ha, q⟩
theorem g_ixT {xs : List V} {k : Int} (h : SqT K H p xs) (ha : atI xs k = some v) (q : Q v H) : rIxT K (.ref p) (.int k) H Q := ⟨p, xs, k, v, rfl, rfl, h, ha, q⟩
theorem g_lenL {xs : List V} (h : SqL K H p xs) (q : Q (.int xs.length) H) : rLenSq K [.ref p] H Q := ⟨p, xs, rfl, .inl h, q⟩
theorem g_lenT {xs : List V} (h : SqT K H p xs) (q : Q (.int xs.length) H) : rLenSq K [.ref p] H Q := ⟨p, xs, rfl, .inr h, q⟩
theorem g_listL {xs : List V} (h : SqL K H p xs) (q : ∀ l H', H l = none → Fr [] H H' → H' l = some (.lst xs) → Q (.ref l) H') : rListOf K [.ref p] H Q := ⟨p, xs, rfl, .inl h, fun l hl => q l _ hl (Fr.new hl) upd_same⟩
theorem g_listT {xs : List V} (h : SqT K H p xs) (q : ∀ l H', H l = none → Fr [] H H' → H' l = some (.lst xs) → Q (.ref l) H') : rListOf K [.ref p] H Q := ⟨p, xs, rfl, .inr h, fun l hl => q l _ hl (Fr.new hl) upd_same⟩
theorem g_tupL {xs : List V} (h : SqL K H p xs) (q : ∀ l H', H l = none → Fr [] H H' → H' l = some (.tup xs) → Q (.ref l) H') : rTupOf K [.ref p] H Q := ⟨p, xs, rfl, .inl ⟨h, fun l hl => q l _ hl (Fr.new hl) upd_same⟩⟩
theorem g_max2 (q : Q (.int (if b > a then b else a)) H) : rMax2 [.int a, .int b] H Q := ⟨a, b, rfl, q⟩
theorem g_min2 (q : Q (.int (if b < a then b else a)) H) : rMin2 [.int a, .int b] H Q := ⟨a, b, rfl, q⟩
def rBM (K : PySem.W.Frag) (T : String) (x : V) (H : Hp) (P : Prop) : Prop := tyV K T x H ∧ P
theorem g_bm {T : String} {rr : V → List V → Hp → VK → Prop} (h : te σ H (fun x H1 => rBM K T x H1 (as σ H1 fun xs H2 => rr x xs H2 Q))) : tBM K T rr te as σ H Q := h
theorem g_bm0 {T : String} {rr : V → List V → Hp → VK → Prop} (h : te σ H (fun x H1 => rBM K T x H1 (rr x [] H1 Q))) : tBM0 K T rr te σ H Q := h
theorem g_bmL {xs : List V} {P : Prop} (h : H p = some (.lst xs)) (q : P) : rBM K "list" (.ref p) H P := ⟨.inl ⟨rfl, xs, SqL.of h⟩, q⟩
theorem g_append {xs : List V} (h : H p = some (.lst xs)) (hl : xs.length < sizeLine) (q : ∀ H', Fr [p] H H' → H' p = some (.lst (xs ++ [y])) → Q .non H') : rAppend (.ref p) [y] H Q := ⟨p, xs, y, rfl, rfl, h, hl, q _ (Fr.put h trivial) upd_same⟩
theorem g_clear {xs : List V} (h : H p = some (.lst xs)) (q : ∀ H', Fr [p] H H' → H' p = some (.lst []) → Q .non H') : rClear (.ref p) [] H Q := ⟨p, xs, rfl, rfl, h, q _ (Fr.put h trivial) upd_same⟩
theorem g_sub1 {to ti : TE} {ts : TSet} {QS : L2.St → Hp → Prop} (h : to σ H (fun o H1 => ti σ H1 fun i H2 => ts o i v H2 fun H3 => QS σ H3)) : gSub to ti ts v σ H QS := h
theorem g_setL {xs : List V} {k : Int} {j : Nat} {P : Hp → Prop} (h : H p = some (.lst xs)) (hj : ixN xs.length k = some j) (q : ∀ H', Fr [p] H H' → H' p = some (.lst (xs.set j v)) → P H') : rSetL (.ref p) (.int k) v H P := ⟨p, xs, k, j, rfl, rfl, h, hj, q _ (Fr.put h trivial) upd_same⟩
/-- attributes -/
def rFld (K : PySem.W.Frag) (f : Str) (x : V) (H : Hp) (Q : VK) : Prop := ∃ a C dx fs v, x = .ref a ∧ H a = some (.ins C dx fs) ∧ Cls K C ∧ NoAttr K C f ∧ fs.lookup f = some v ∧ Q v H
theorem g_fld {f : Str} (h : ta σ H (fun x H1 => rFld K f x H1 Q)) : tFld K ta f σ H Q := h
theorem g_rfld {f : Str} {fs : List (Str × V)} (h : H p = some (.ins C dx fs)) (c : Cls K C) (n : NoAttr K C f) (l : fs.lookup f = some v) (q : Q v H) : rFld K f (.ref p) H Q := ⟨p, C, dx, fs, v, rfl, h, c, n, l, q⟩
def rFldS (K : PySem.W.Frag) (f : Str) (x v : V) (H : Hp) (P : Hp → Prop) : Prop := ∃ a C dx fs, x = .ref a ∧ H a = some (.ins C dx fs) ∧ Cls K C ∧ NoAttr K C f ∧ fs.length < 1000 ∧ P (upd H a (.ins C dx (putF f v fs)))
theorem g_sfld {f : Str} (h : tb σ H (fun y H1 => ta σ H1 fun x H2 => rFldS K f x y H2 fun H3 => D.nx σ H3)) : sFld K ta tb f D σ H := h
theorem g_rflds {f : Str} {fs gs : List (Str × V)} {P : Hp → Prop} (h : H p = some (.ins C dx fs)) (c : Cls K C) (n : NoAttr K C f) (hl : fs.length < 1000) (e : putF f v fs = gs) (q : ∀ H', Fr [p] H H' → H' p = some (.ins C dx gs) → P H') : rFldS K f (.ref p) v H P :=
  ⟨p, C, dx, fs, rfl, h, c, n, hl, q _ (Fr.put h trivial) (by rw [e]; exact upd_same)⟩
def rFldA (K : PySem.W.Frag) (f : Str) (tv : TE) (rd : V → V → Hp → VK → Prop) (x : V) (σ : L2.St) (H : Hp) (D : Ends) : Prop := ∃ a C dx fs v, x = .ref a ∧ H a = some (.ins C dx fs) ∧ Cls K C ∧ NoAttr K C f ∧ fs.lookup f = some v ∧
  tv σ H fun y H2 => rd v y H2 fun z H3 => ∃ dx' fs', H3 a = some (.ins C dx' fs') ∧ fs'.length < 1000 ∧ D.nx σ (upd H3 a (.ins C dx' (putF f z fs')))
theorem g_flda {f : Str} {rd : V → V → Hp → VK → Prop} (h : ta σ H (fun x H1 => rFldA K f tb rd x σ H1 D)) : sFldAug K ta tb rd f D σ H := h
def rFldB (a C : Addr) (f : Str) (z : V) (H3 : Hp) (P : Hp → Prop) : Prop := ∃ dx' fs', H3 a = some (.ins C dx' fs') ∧ fs'.length < 1000 ∧ P (upd H3 a (.ins C dx' (putF f z fs')))
theorem g_rflda {f : Str} {fs : List (Str × V)} {rd : V → V → Hp → VK → Prop} (h : H p = some (.ins C dx fs)) (c : Cls K C) (n : NoAttr K C f) (l : fs.lookup f = some v) (q : tb σ H fun y H2 => rd v y H2 fun z H3 => rFldB p C f z H3 fun H4 => D.nx σ H4) : rFldA K f tb rd (.ref p) σ H D :=
  ⟨p, C, dx, fs, v, rfl, h, c, n, l, q⟩
theorem g_rfldb {f : Str} {fs gs : List (Str × V)} {P : Hp → Prop} (h : H p = some (.ins C dx fs)) (hl : fs.length < 1000) (e : putF f v fs = gs) (q : ∀ H', Fr [p] H H' → H' p = some (.ins C dx gs) → P H') : rFldB p C f v H P :=
  ⟨dx, fs, h, hl, q _ (Fr.put h trivial) (by rw [e]; exact upd_same)⟩
theorem g_rAdd (h : Q (.int (a + b)) H) : rAdd (.int a) (.int b) H Q := ⟨a, b, rfl, rfl, h⟩
theorem g_rSub (h : Q (.int (a - b)) H) : rSub (.int a) (.int b) H Q := ⟨a, b, rfl, rfl, h⟩
theorem g_mt {m : Str} {sp : Sp} (h : ta σ H (fun x H1 => rMt C m x H1 (as σ H1 fun vs H2 => sp (x :: vs) H2 Q E0))) : tMt C m sp ta as σ H Q := h
theorem g_rmt {m : Str} {fs : List (Str × V)} {P : Prop} (h : H p = some (.ins C dx fs)) (l : fs.lookup m = none) (q : P) : rMt C m (.ref p) H P := ⟨p, dx, fs, rfl, h, l, q⟩
def rMk (C : Addr) (sp : Sp) (vs : List V) (H1 : Hp) (Q : VK) : Prop := ∀ x dx, H1 x = none → H1 dx = none → dx ≠ x →
  sp (.ref x :: vs) (upd (upd H1 dx (.own x)) x (.ins C dx [])) (fun v H2 => v = .non ∧ Q (.ref x) H2) E0
theorem g_mk {sp : Sp} (h : as σ H (fun vs H1 => rMk C sp vs H1 Q)) : tMk C sp as σ H Q := h
theorem g_rmk {sp : Sp} {vs : List V} (k : ∀ x dx H2, H x = none → H dx = none → dx ≠ x → Fr [] H H2 → H2 x = some (.ins C dx []) → H2 dx = some (.own x) → sp (.ref x :: vs) H2 (fun v H3 => v = .non ∧ Q (.ref x) H3) E0) : rMk C sp vs H Q := by
  intro x dx nx nd ne
  refine k x dx _ nx nd ne ?_ upd_same (by rw [upd_ne ne]; exact upd_same)
  have f1 : Fr [] H (upd H dx (.own x)) := Fr.new nd
  exact f1.then0 (Fr.new (by rw [upd_ne ne.symm]; exact nx))
end

/-! ### isinstance against a built-in class -/
theorem kb_NoneType_list : kitB "NoneType" "list" = some false := by decide +kernel
theorem kb_NoneType_tuple : kitB "NoneType" "tuple" = some false := by decide +kernel
theorem kb_NoneType_bool : kitB "NoneType" "bool" = some false := by decide +kernel
theorem kb_NoneType_int : kitB "NoneType" "int" = some false := by decide +kernel
theorem kb_NoneType_str : kitB "NoneType" "str" = some false := by decide +kernel
theorem kb_NoneType_dict : kitB "NoneType" "dict" = some false := by decide +kernel
theorem kb_bool_list : kitB "bool" "list" = some false := by decide +kernel
theorem kb_bool_tuple : kitB "bool" "tuple" = some false := by decide +kernel
theorem kb_bool_bool : kitB "bool" "bool" = some true := by decide +kernel
theorem kb_bool_int : kitB "bool" "int" = some true := by decide +kernel
theorem kb_bool_str : kitB "bool" "str" = some false := by decide +kernel
theorem kb_bool_dict : kitB "bool" "dict" = some false := by decide +kernel
theorem kb_int_list : kitB "int" "list" = some false := by decide +kernel
theorem kb_int_tuple : kitB "int" "tuple" = some false := by decide +kernel
theorem kb_int_bool : kitB "int" "bool" = some false := by decide +kernel
theorem kb_int_int : kitB "int" "int" = some true := by decide +kernel
theorem kb_int_str : kitB "int" "str" = some false := by decide +kernel
theorem kb_int_dict : kitB "int" "dict" = some false := by decide +kernel
theorem kb_str_list : kitB "str" "list" = some false := by decide +kernel
theorem kb_str_tuple : kitB "str" "tuple" = some false := by decide +kernel
theorem kb_str_bool : kitB "str" "bool" = some false := by decide +kernel
theorem kb_str_int : kitB "str" "int" = some false := by decide +kernel
theorem kb_str_str : kitB "str" "str" = some true := by decide +kernel
theorem kb_str_dict : kitB "str" "dict" = some false := by decide +kernel
theorem kb_list_list : kitB "list" "list" = some true := by decide +kernel
theorem kb_list_tuple : kitB "list" "tuple" = some false := by decide +kernel
theorem kb_list_bool : kitB "list" "bool" = some false := by decide +kernel
theorem kb_list_int : kitB "list" "int" = some false := by decide +kernel
theorem kb_list_str : kitB "list" "str" = some false := by decide +kernel
theorem kb_list_dict : kitB "list" "dict" = some false := by decide +kernel
theorem kb_tuple_list : kitB "tuple" "list" = some false := by decide +kernel
theorem kb_tuple_tuple : kitB "tuple" "tuple" = some true := by decide +kernel
theorem kb_tuple_bool : kitB "tuple" "bool" = some false := by decide +kernel
theorem kb_tuple_int : kitB "tuple" "int" = some false := by decide +kernel
theorem kb_tuple_str : kitB "tuple" "str" = some false := by decide +kernel
theorem kb_tuple_dict : kitB "tuple" "dict" = some false := by decide +kernel
theorem kb_dict_list : kitB "dict" "list" = some false := by decide +kernel
theorem kb_dict_tuple : kitB "dict" "tuple" = some false := by decide +kernel
theorem kb_dict_bool : kitB "dict" "bool" = some false := by decide +kernel
theorem kb_dict_int : kitB "dict" "int" = some false := by decide +kernel
theorem kb_dict_str : kitB "dict" "str" = some false := by decide +kernel
theorem kb_dict_dict : kitB "dict" "dict" = some true := by decide +kernel

theorem g_isi {K : PySem.W.Frag} {H : Hp} {Q : VK} {x : V} {a b : String} {r : Bool} (ty : TyX K H x (.type a)) (h : kitB a b = some r) (q : Q (.bl r) H) : rIsi K [x, .ty b] H Q := ⟨x, .ty b, .type a, .type b, r, rfl, .ty b, ty, kit_ty h, q⟩
/-! ### immutable and other data -/
mutual
inductive Da (H : Hp) : V → PyData → Prop
  | non : Da H .non .none
  | bl (b : Bool) : Da H (.bl b) (.bool b)
  | int (i : Int) : Da H (.int i) (.int i)
  | str (x : Str) : Da H (.str x) (.str x)
  | lst {a : Addr} {xs : List V} {ds : List PyData} : H a = some (.lst xs) → xs.length ≤ 1000000 → DaL H xs ds → Da H (.ref a) (.list ds)
  | tup {a : Addr} {xs : List V} {ds : List PyData} : H a = some (.tup xs) → xs.length ≤ 1000000 → DaL H xs ds → Da H (.ref a) (.tuple ds)
inductive DaL (H : Hp) : List V → List PyData → Prop
  | nil : DaL H [] []
  | cons {v : V} {vs : List V} {d : PyData} {ds : List PyData} : Da H v d → DaL H vs ds → DaL H (v :: vs) (d :: ds)
end
/-! how deep -/
mutual
def dp : PyData → Nat
  | .list ds => dpL ds + 1
  | .tuple ds => dpL ds + 1
  | _ => 0
def dpL : List PyData → Nat
  | [] => 0
  | d :: ds => max (dp d) (dpL ds)
end
/-! no list within -/
mutual
def imm : PyData → Bool
  | .list _ => false
  | .tuple ds => immL ds
  | _ => true
def immL : List PyData → Bool
  | [] => true
  | d :: ds => imm d && immL ds
end
theorem DaL.len {H : Hp} : ∀ {vs : List V} {ds : List PyData}, DaL H vs ds → vs.length = ds.length
  | _, _, .nil => rfl
  | _, _, .cons _ t => by rw [List.length_cons, List.length_cons, DaL.len t]
theorem DaL.get {H : Hp} : ∀ {vs : List V} {ds : List PyData} {i : Nat} {v : V}, DaL H vs ds → vs[i]? = some v → ∃ d, ds[i]? = some d ∧ Da H v d
  | _, _, _, _, .nil, e => by simp at e
  | _, _, 0, _, .cons r _, e => by simp at e; subst e; exact ⟨_, rfl, r⟩
  | _, _, i + 1, v, .cons _ t, e => by
    obtain ⟨u, h1, h2⟩ := DaL.get (i := i) (v := v) t (by simpa using e)
    exact ⟨u, by simpa using h1, h2⟩
theorem DaL.get' {H : Hp} : ∀ {vs : List V} {ds : List PyData} {i : Nat} {d : PyData}, DaL H vs ds → ds[i]? = some d → ∃ v, vs[i]? = some v ∧ Da H v d
  | _, _, _, _, .nil, e => by simp at e
  | _, _, 0, _, .cons r _, e => by simp at e; subst e; exact ⟨_, rfl, r⟩
  | _, _, i + 1, v, .cons _ t, e => by
    obtain ⟨u, h1, h2⟩ := DaL.get' (i := i) (d := v) t (by simpa using e)
    exact ⟨u, by simpa using h1, h2⟩
theorem DaL.append {H : Hp} : ∀ {vs ws : List V} {ds es : List PyData}, DaL H vs ds → DaL H ws es → DaL H (vs ++ ws) (ds ++ es)
  | _, _, _, _, .nil, s => s
  | _, _, _, _, .cons r t, s => .cons r (DaL.append t s)
theorem dpL_get : ∀ {ds : List PyData} {i : Nat} {d : PyData}, ds[i]? = some d → dp d ≤ dpL ds
  | [], _, _, e => by simp at e
  | a :: r, 0, d, e => by simp at e; subst e; exact Nat.le_max_left _ _
  | a :: r, i + 1, d, e => Nat.le_trans (dpL_get (ds := r) (i := i) (by simpa using e)) (Nat.le_max_right _ _)
mutual
theorem Da.fr {l : List Addr} {H H' : Hp} (f : Fr l H H') : ∀ (d : PyData) (v : V), Da H v d → imm d = true → Da H' v d
  | .none, _, h, _ => by cases h; exact .non
  | .bool b, _, h, _ => by cases h; exact .bl b
  | .int i, _, h, _ => by cases h; exact .int i
  | .str x, _, h, _ => by cases h; exact .str x
  | .list ds, _, _, i => by simp [imm] at i
  | .tuple ds, _, h, i => by
    cases h with
    | tup e z r => exact .tup (f.tup _ _ e) z (DaL.fr f ds _ r (by simpa [imm] using i))
  | .dict _, _, h, _ => by cases h
theorem DaL.fr {l : List Addr} {H H' : Hp} (f : Fr l H H') : ∀ (ds : List PyData) (vs : List V), DaL H vs ds → immL ds = true → DaL H' vs ds
  | [], _, h, _ => by cases h; exact .nil
  | d :: ds, _, h, i => by
    simp only [immL, Bool.and_eq_true] at i
    cases h with
    | cons r t => exact .cons (Da.fr f d _ r i.1) (DaL.fr f ds _ t i.2)
end
mutual
theorem Da.dp {K : PySem.W.Frag} {H : Hp} : ∀ (d : PyData) (v : V), Da H v d → Dp K H v d
  | .none, _, h => by cases h; exact .non
  | .bool b, _, h => by cases h; exact .bl b
  | .int i, _, h => by cases h; exact .int i
  | .str x, _, h => by cases h; exact .str x
  | .list ds, _, h => by
    cases h with
    | lst e _ r => exact .lst (SqL.of e) (DaL.dp ds _ r)
  | .tuple ds, _, h => by
    cases h with
    | tup e _ r => exact .tup (SqT.of e) (DaL.dp ds _ r)
  | .dict _, _, h => by cases h
theorem DaL.dp {K : PySem.W.Frag} {H : Hp} : ∀ (ds : List PyData) (vs : List V), DaL H vs ds → DpAll K H vs ds
  | [], _, h => by cases h; exact .nil
  | d :: ds, _, h => by
    cases h with
    | cons r t => exact .cons (Da.dp d _ r) (DaL.dp ds _ t)
end
theorem Da.frL {l : List Addr} {H H' : Hp} (f : Fr l H H') {d : PyData} {v : V} (h : Da H v d) (i : imm d = true) : Da H' v d := Da.fr f d v h i
theorem DaL.frL {l : List Addr} {H H' : Hp} (f : Fr l H H') {ds : List PyData} {vs : List V} (h : DaL H vs ds) (i : immL ds = true) : DaL H' vs ds := DaL.fr f ds vs h i
theorem immL_append : ∀ {ds es : List PyData}, immL (ds ++ es) = (immL ds && immL es)
  | [], _ => by simp [immL]
  | d :: ds, es => by simp [immL, immL_append (ds := ds), Bool.and_assoc]
theorem dpL_append : ∀ {ds es : List PyData}, dpL (ds ++ es) = max (dpL ds) (dpL es)
  | [], _ => by simp [dpL]
  | d :: ds, es => by simp [dpL, dpL_append (ds := ds), Nat.max_assoc]

/-! ### loops and comprehensions -/
section
variable {K : PySem.W.Frag} {σ : L2.St} {H H' : Hp} {Q : VK} {D : Ends} {te tl : TE} {tt : TT} {tb : TS} {g : TG} {wi : TI} {ta : TA} {a b : Addr} {xs ys : List V} {vs : List Nat} {J : It}
def ForGo (J : It) (g : TG) (tb : TS) (D : Ends) (σ : L2.St) (H1 : Hp) : Prop := ∃ W : Nat → Nat → L2.St → Hp → Prop, (∃ m, W 0 m σ H1) ∧ ∀ i m σ H, W i m σ H →
  (J.stop i H ∧ D.nx σ H) ∨ (J.go i H ∧ ∃ N : L2.St → Hp → Prop, (∀ σ' H', N σ' H' → ∃ m', m' < m ∧ W (i + 1) m' σ' H') ∧ ∀ x H', J.yld i H x H' → g x σ H' fun σ2 H2 => tb { D with nx := N, ct := N, bk := D.nx } σ2 H2)
theorem g_for (h : wi σ H (fun J H1 => ForGo J g tb D σ H1)) : tFor wi g tb D σ H := h
def LcGo (J : It) (g : TG) (tt : TT) (te : TE) (vs : List Nat) (σ : L2.St) (Q : VK) (H1 : Hp) : Prop := ∀ D, H1 D = none → ∃ W : Nat → Nat → Hp → Prop, (∃ m, W 0 m (upd H1 D (.lst []))) ∧ ∀ i m H, W i m H →
  (J.stop i H ∧ Q (.ref D) H) ∨ (J.go i H ∧ ∃ Nx : Hp → Prop, (∀ H', Nx H' → ∃ m', m' < m ∧ W (i + 1) m' H') ∧ ∀ x H', J.yld i H x H' → g x (wipe σ vs) H' fun σ2 H2 => wipe σ2 vs = wipe σ vs ∧ tt σ2 H2 fun b H3 =>
    if b = true then te σ2 H3 fun y H4 => ∃ acc, H4 D = some (.lst acc) ∧ acc.length < sizeLine ∧ Nx (upd H4 D (.lst (acc ++ [y]))) else Nx H3)
theorem g_lc (h : wi σ H (fun J H1 => LcGo J g tt te vs σ Q H1)) : tLc wi g tt te vs σ H Q := h
variable {R : It → Hp → Prop}
def rItL (K : PySem.W.Frag) (x : V) (H : Hp) (R : It → Hp → Prop) : Prop := ∃ a, x = .ref a ∧ (∃ xs, SqL K H a xs) ∧ R (Itl K a) H
def rItT (K : PySem.W.Frag) (x : V) (H : Hp) (R : It → Hp → Prop) : Prop := ∃ a, x = .ref a ∧ (∃ xs, SqT K H a xs) ∧ R (Itt K a) H
theorem g_iL (h : tl σ H (fun x H1 => rItL K x H1 R)) : iList K tl σ H R := h
theorem g_iT (h : tl σ H (fun x H1 => rItT K x H1 R)) : iTup K tl σ H R := h
theorem g_riL (hS : SqL K H a xs) (h : R (Itl K a) H) : rItL K (.ref a) H R := ⟨a, rfl, ⟨xs, hS⟩, h⟩
theorem g_riT (hS : SqT K H a xs) (h : R (Itt K a) H) : rItT K (.ref a) H R := ⟨a, rfl, ⟨xs, hS⟩, h⟩
def rIt1 (vs : List V) (H : Hp) (R : It → Hp → Prop) : Prop := ∃ j : Int, vs = [.int j] ∧ -(2 ^ 62) ≤ j ∧ j < 2 ^ 62 ∧ R (Itr 0 j.toNat) H
def rIt2 (vs : List V) (H : Hp) (R : It → Hp → Prop) : Prop := ∃ i j : Int, vs = [.int i, .int j] ∧ (-(2 ^ 62) ≤ i ∧ i < 2 ^ 62 ∧ -(2 ^ 62) ≤ j ∧ j < 2 ^ 62) ∧ R (Itr i (j - i).toNat) H
theorem g_i1 (h : ta σ H (fun vs H1 => rIt1 vs H1 R)) : iRng1 ta σ H R := h
theorem g_i2 (h : ta σ H (fun vs H1 => rIt2 vs H1 R)) : iRng2 ta σ H R := h
theorem g_ri1 {j : Int} (h1 : -(2 ^ 62) ≤ j ∧ j < 2 ^ 62) (h : R (Itr 0 j.toNat) H) : rIt1 [.int j] H R := ⟨j, rfl, h1.1, h1.2, h⟩
theorem g_ri2 {i j : Int} (h1 : -(2 ^ 62) ≤ i ∧ i < 2 ^ 62 ∧ -(2 ^ 62) ≤ j ∧ j < 2 ^ 62) (h : R (Itr i (j - i).toNat) H) : rIt2 [.int i, .int j] H R := ⟨i, j, rfl, h1, h⟩
/-- for over a list that stands -/
theorem f_list (Pv : Nat → L2.St → Hp → Prop) (h0 : Pv 0 σ H) (hl : ∀ i σ H, i ≤ xs.length → Pv i σ H → SqL K H a xs)
    (hs : ∀ i x σ H, xs[i]? = some x → Pv i σ H → g x σ H fun σ2 H2 => tb { D with nx := Pv (i + 1), ct := Pv (i + 1), bk := D.nx } σ2 H2) (hd : ∀ σ H, Pv xs.length σ H → D.nx σ H) : ForGo (Itl K a) g tb D σ H := for_list Pv h0 hl hs hd
theorem f_tup (Pv : Nat → L2.St → Hp → Prop) (h0 : Pv 0 σ H) (hl : ∀ i σ H, i ≤ xs.length → Pv i σ H → SqT K H a xs)
    (hs : ∀ i x σ H, xs[i]? = some x → Pv i σ H → g x σ H fun σ2 H2 => tb { D with nx := Pv (i + 1), ct := Pv (i + 1), bk := D.nx } σ2 H2) (hd : ∀ σ H, Pv xs.length σ H → D.nx σ H) : ForGo (Itt K a) g tb D σ H := for_tup Pv h0 hl hs hd
theorem f_range {lo : Int} {n : Nat} (Pv : Nat → L2.St → Hp → Prop) (h0 : Pv 0 σ H)
    (hs : ∀ i σ H, i < n → Pv i σ H → g (.int (lo + i)) σ H fun σ2 H2 => tb { D with nx := Pv (i + 1), ct := Pv (i + 1), bk := D.nx } σ2 H2) (hd : ∀ σ H, Pv n σ H → D.nx σ H) : ForGo (Itr lo n) g tb D σ H := for_range Pv h0 hs hd
/-! a comprehension: what its turn is to reach -/
def lcY (Dl : Addr) (Pv : Nat → List V → Hp → Prop) (i : Nat) (y : V) (H4 : Hp) : Prop := ∃ acc, H4 Dl = some (.lst acc) ∧ acc.length < sizeLine ∧ ∃ acc', upd H4 Dl (.lst (acc ++ [y])) Dl = some (.lst acc') ∧ Pv (i + 1) acc' (upd H4 Dl (.lst (acc ++ [y])))
def lcN (Dl : Addr) (Pv : Nat → List V → Hp → Prop) (i : Nat) (H3 : Hp) : Prop := ∃ acc, H3 Dl = some (.lst acc) ∧ Pv (i + 1) acc H3
theorem lcY_of {Dl : Addr} {Pv : Nat → List V → Hp → Prop} {i : Nat} {y : V} {acc : List V} (h : H Dl = some (.lst acc)) (hl : acc.length < sizeLine) (k : ∀ H5, Fr [Dl] H H5 → H5 Dl = some (.lst (acc ++ [y])) → Pv (i + 1) (acc ++ [y]) H5) : lcY Dl Pv i y H :=
  ⟨acc, h, hl, _, upd_same, k _ (Fr.put h trivial) upd_same⟩
theorem lcN_of {Dl : Addr} {Pv : Nat → List V → Hp → Prop} {i : Nat} {acc : List V} (h : H Dl = some (.lst acc)) (k : Pv (i + 1) acc H) : lcN Dl Pv i H := ⟨acc, h, k⟩
abbrev lcStep (g : TG) (tt : TT) (te : TE) (vs : List Nat) (σ : L2.St) (Dl : Addr) (Pv : Nat → List V → Hp → Prop) (i : Nat) (x : V) (H' : Hp) : Prop :=
  g x (wipe σ vs) H' fun σ2 H2 => wipe σ2 vs = wipe σ vs ∧ tt σ2 H2 fun b H3 => if b = true then te σ2 H3 fun y H4 => lcY Dl Pv i y H4 else lcN Dl Pv i H3
theorem l_list (k : ∀ Dl H0, H Dl = none → Fr [] H H0 → H0 Dl = some (.lst []) → ∃ Pv : Nat → List V → Hp → Prop, Pv 0 [] H0 ∧ (∀ i acc H', Pv i acc H' → SqL K H' a xs) ∧
    (∀ i x acc H', xs[i]? = some x → H' Dl = some (.lst acc) → Pv i acc H' → lcStep g tt te vs σ Dl Pv i x H') ∧ (∀ acc H', H' Dl = some (.lst acc) → Pv xs.length acc H' → Q (.ref Dl) H')) : LcGo (Itl K a) g tt te vs σ Q H := by
  intro Dl hD
  obtain ⟨Pv, p0, pl, ps, pd⟩ := k Dl _ hD (Fr.new hD) upd_same
  exact lc_list (fun i H' => ∃ acc, H' Dl = some (.lst acc) ∧ Pv i acc H') ⟨[], upd_same, p0⟩ (fun i H' _ ⟨acc, _, p⟩ => pl i acc H' p) (fun i x H' hx ⟨acc, hd, p⟩ => ps i x acc H' hx hd p) (fun H' ⟨acc, hd, p⟩ => pd acc H' hd p)
theorem l_tup (k : ∀ Dl H0, H Dl = none → Fr [] H H0 → H0 Dl = some (.lst []) → ∃ Pv : Nat → List V → Hp → Prop, Pv 0 [] H0 ∧ (∀ i acc H', Pv i acc H' → SqT K H' a xs) ∧
    (∀ i x acc H', xs[i]? = some x → H' Dl = some (.lst acc) → Pv i acc H' → lcStep g tt te vs σ Dl Pv i x H') ∧ (∀ acc H', H' Dl = some (.lst acc) → Pv xs.length acc H' → Q (.ref Dl) H')) : LcGo (Itt K a) g tt te vs σ Q H := by
  intro Dl hD
  obtain ⟨Pv, p0, pl, ps, pd⟩ := k Dl _ hD (Fr.new hD) upd_same
  exact lc_tup (fun i H' => ∃ acc, H' Dl = some (.lst acc) ∧ Pv i acc H') ⟨[], upd_same, p0⟩ (fun i H' _ ⟨acc, _, p⟩ => pl i acc H' p) (fun i x H' hx ⟨acc, hd, p⟩ => ps i x acc H' hx hd p) (fun H' ⟨acc, hd, p⟩ => pd acc H' hd p)
theorem l_range {lo : Int} {n : Nat} (k : ∀ Dl H0, H Dl = none → Fr [] H H0 → H0 Dl = some (.lst []) → ∃ Pv : Nat → List V → Hp → Prop, Pv 0 [] H0 ∧
    (∀ i acc H', i < n → H' Dl = some (.lst acc) → Pv i acc H' → lcStep g tt te vs σ Dl Pv i (.int (lo + i)) H') ∧ (∀ acc H', H' Dl = some (.lst acc) → Pv n acc H' → Q (.ref Dl) H')) : LcGo (Itr lo n) g tt te vs σ Q H := by
  intro Dl hD
  obtain ⟨Pv, p0, ps, pd⟩ := k Dl _ hD (Fr.new hD) upd_same
  exact lc_range (fun i H' => ∃ acc, H' Dl = some (.lst acc) ∧ Pv i acc H') ⟨[], upd_same, p0⟩ (fun i H' hi ⟨acc, hd, p⟩ => ps i acc H' hi hd p) (fun H' ⟨acc, hd, p⟩ => pd acc H' hd p)
theorem g_and2 {A B : Prop} (a : A) (b : B) : A ∧ B := ⟨a, b⟩
theorem g_yes {QB : Bool → Hp → Prop} (h : QB true H) : tYes σ H QB := h
/-- a name's slot, ahead of a known one -/
theorem g_tr {x : V} {k : Bool} {QB : Bool → Hp → Prop} (h : TruV K x H k) (q : QB k H) : ∃ k, TruV K x H k ∧ QB k H := ⟨k, h, q⟩
theorem g_ttr {QB : Bool → Hp → Prop} (h : te σ H (fun x H' => ∃ k, TruV K x H' k ∧ QB k H')) : tTr K te σ H QB := h
end
theorem szM {n : Nat} (h : n ≤ 1000000) : n < sizeLine := Nat.lt_of_le_of_lt h (by decide)
theorem szL {n : Nat} (h : n ≤ 1000000) : n ≤ sizeLine := Nat.le_of_lt (szM h)
theorem getI {ns : List Int} {i : Nat} {x : V} (h : (ns.map V.int)[i]? = some x) : ∃ n, x = .int n ∧ ns[i]? = some n ∧ n ∈ ns := by
  rw [List.getElem?_map] at h
  cases e : ns[i]? with
  | none => rw [e] at h; cases h
  | some n => rw [e] at h; exact ⟨n, (Option.some.inj h).symm, rfl, List.mem_of_getElem? e⟩
theorem atI_of {α : Type} {xs : List α} {z : Int} (h0 : 0 ≤ z) (h : z < xs.length) : ∃ v, atI xs z = some v ∧ xs[z.toNat]? = some v := by
  have hk : z.toNat < xs.length := by omega
  have e : ((z.toNat : Nat) : Int) = z := by omega
  have q : xs[z.toNat]? = some xs[z.toNat] := List.getElem?_eq_getElem hk
  have w := atI_nat q
  rw [e] at w
  exact ⟨_, w, q⟩
theorem atI_mem {α : Type} {xs : List α} {z : Int} (h0 : 0 ≤ z) (h : z < xs.length) : ∃ v, atI xs z = some v ∧ v ∈ xs := by
  obtain ⟨v, a, b⟩ := atI_of h0 h
  exact ⟨v, a, List.mem_of_getElem? b⟩
theorem take_more {α : Type} : ∀ {l : List α} {i : Nat} {x : α}, l[i]? = some x → l.take (i + 1) = l.take i ++ [x]
  | [], i, x, h => by simp at h
  | a :: l, 0, x, h => by
    have e : a = x := Option.some.inj h
    subst e
    rfl
  | a :: l, i + 1, x, h => by
    have ih := take_more (l := l) (i := i) (x := x) h
    show a :: l.take (i + 1) = a :: l.take i ++ [x]
    rw [ih]
    rfl
theorem filter_more {α : Type} {l : List α} {i : Nat} {x : α} {f : α → Bool} (h : l[i]? = some x) : (l.take (i + 1)).filter f = (l.take i).filter f ++ (if f x = true then [x] else []) := by
  rw [take_more h, List.filter_append]
  congr 1
  by_cases q : f x = true
  · simp [q]
  · simp [q]
theorem Da.tup1 {H : Hp} {v : V} {ds : List PyData} (h : Da H v (.tuple ds)) : ∃ a xs, v = .ref a ∧ H a = some (.tup xs) ∧ xs.length ≤ 1000000 ∧ DaL H xs ds := by
  cases h with
  | tup e z r => exact ⟨_, _, rfl, e, z, r⟩
theorem Da.lst1 {H : Hp} {v : V} {ds : List PyData} (h : Da H v (.list ds)) : ∃ a xs, v = .ref a ∧ H a = some (.lst xs) ∧ xs.length ≤ 1000000 ∧ DaL H xs ds := by
  cases h with
  | lst e z r => exact ⟨_, _, rfl, e, z, r⟩
theorem DaL.two {H : Hp} {xs : List V} {d e : PyData} (h : DaL H xs [d, e]) : ∃ x y, xs = [x, y] ∧ Da H x d ∧ Da H y e := by
  cases h with
  | cons a t => cases t with
    | cons b u => cases u; exact ⟨_, _, rfl, a, b⟩
theorem DaL.three {H : Hp} {xs : List V} {d e f : PyData} (h : DaL H xs [d, e, f]) : ∃ x y z, xs = [x, y, z] ∧ Da H x d ∧ Da H y e ∧ Da H z f := by
  cases h with
  | cons a t => cases t with
    | cons b u => cases u with
      | cons c u => cases u; exact ⟨_, _, _, rfl, a, b, c⟩
theorem Da.int1 {H : Hp} {v : V} {i : Int} (h : Da H v (.int i)) : v = .int i := by cases h; rfl
theorem Da.str1 {H : Hp} {v : V} {i : Str} (h : Da H v (.str i)) : v = .str i := by cases h; rfl
theorem Da.bl1 {H : Hp} {v : V} {i : Bool} (h : Da H v (.bool i)) : v = .bl i := by cases h; rfl
theorem Da.non1 {H : Hp} {v : V} (h : Da H v .none) : v = .non := by cases h; rfl
theorem DaL.one' {H : Hp} {v : V} {d : PyData} (h : Da H v d) : DaL H [v] [d] := .cons h .nil
theorem immL_get : ∀ {ds : List PyData} {i : Nat} {d : PyData}, immL ds = true → ds[i]? = some d → imm d = true
  | [], _, _, _, e => by simp at e
  | a :: r, 0, d, h, e => by simp at e; subst e; simp [immL] at h; exact h.1
  | a :: r, i + 1, d, h, e => by simp [immL] at h; exact immL_get (ds := r) (i := i) h.2 (by simpa using e)
theorem immL_of : ∀ {ds : List PyData}, (∀ d ∈ ds, imm d = true) → immL ds = true
  | [], _ => rfl
  | a :: r, h => by simp [immL, h a List.mem_cons_self, immL_of (ds := r) fun d hd => h d (List.mem_cons_of_mem _ hd)]
theorem imm_of : ∀ {ds : List PyData}, immL ds = true → ∀ d ∈ ds, imm d = true
  | [], _, d, hd => by cases hd
  | a :: r, h, d, hd => by
    simp only [immL, Bool.and_eq_true] at h
    rcases List.mem_cons.mp hd with e | e
    · rw [e]; exact h.1
    · exact imm_of h.2 d e
theorem dpL_mem : ∀ {ds : List PyData} {d : PyData}, d ∈ ds → dp d ≤ dpL ds
  | [], _, h => by cases h
  | a :: r, d, h => by
    rcases List.mem_cons.mp h with e | e
    · rw [e]; exact Nat.le_max_left _ _
    · exact Nat.le_trans (dpL_mem e) (Nat.le_max_right _ _)
theorem dpL_le {n : Nat} : ∀ {ds : List PyData}, (∀ d ∈ ds, dp d ≤ n) → dpL ds ≤ n
  | [], _ => Nat.zero_le _
  | a :: r, h => Nat.max_le.mpr ⟨h a List.mem_cons_self, dpL_le fun d hd => h d (List.mem_cons_of_mem _ hd)⟩
theorem DaL.ints {H : Hp} : ∀ {xs : List V} {r : List Int}, DaL H xs (r.map .int) → xs = r.map V.int
  | [], [], _ => rfl
  | x :: xs, n :: r, h => by
    cases h with
    | cons a t => rw [a.int1, DaL.ints t]; rfl
  | [], _ :: _, h => by cases h
  | _ :: _, [], h => by cases h
theorem DaL.ofInts {H : Hp} : ∀ (r : List Int), DaL H (r.map V.int) (r.map .int)
  | [] => .nil
  | n :: r => .cons (.int n) (DaL.ofInts r)
theorem DaL.set {H : Hp} : ∀ {vs : List V} {ds : List PyData} {i : Nat} {v : V} {d : PyData}, DaL H vs ds → Da H v d → DaL H (vs.set i v) (ds.set i d)
  | _, _, _, _, _, .nil, _ => .nil
  | _, _, 0, _, _, .cons _ t, q => .cons q t
  | _, _, i + 1, _, _, .cons r t, q => .cons r (DaL.set (i := i) t q)
/-! slices, pop at -/
section
variable {K : PySem.W.Frag} {σ : L2.St} {H H' : Hp} {Q : VK} {te : TE} {tl th : TO} {p : Addr} {xs : List V} {lo hi : Option Int}
theorem g_sl {r : V → Option Int → Option Int → Hp → VK → Prop} (h : te σ H fun x H1 => tl σ H1 fun l H2 => th σ H2 fun u H3 => r x l u H3 Q) : tSl r te tl th σ H Q := h
theorem g_noP {QO : Option Int → Hp → Prop} (h : QO none H) : tNoPart σ H QO := h
def rPart (x : V) (H : Hp) (QO : Option Int → Hp → Prop) : Prop := ∃ i, x = .int i ∧ QO (some i) H
theorem g_part {QO : Option Int → Hp → Prop} (h : te σ H fun x H1 => rPart x H1 QO) : tPart te σ H QO := h
theorem g_rpart {i : Int} {QO : Option Int → Hp → Prop} (h : QO (some i) H) : rPart (.int i) H QO := ⟨i, rfl, h⟩
theorem g_slL (h : SqL K H p xs) (q : ∀ l H', H l = none → Fr [] H H' → H' l = some (.lst (cutV xs lo hi)) → Q (.ref l) H') : rSlL K (.ref p) lo hi H Q := ⟨p, xs, rfl, h, fun l hl => q l _ hl (Fr.new hl) upd_same⟩
theorem g_popAt {i : Int} {y : V} (h : H p = some (.lst xs)) (hl : xs.length ≤ 1000000) (h0 : 0 ≤ i) (hy : xs[i.toNat]? = some y) (q : ∀ H', Fr [p] H H' → H' p = some (.lst (xs.eraseIdx i.toNat)) → Q y H') : rPopAt (.ref p) [.int i] H Q := by
  have hlt := (List.getElem?_eq_some_iff.mp hy).1
  refine ⟨p, xs, i, i.toNat, y, rfl, rfl, h, by omega, by omega, ?_, hy, q _ (Fr.put h trivial) upd_same⟩
  refine (ixN_seq (i := i) ?_).1
  unfold ixN
  rw [if_pos h0, if_pos (by omega)]
end
theorem cut_take {xs : List V} {n : Nat} (h : n ≤ xs.length) : cutV xs none (some (n : Int)) = xs.take n := by
  unfold cutV
  rw [HT.sIx_none, HT.sIx_nat, Nat.min_eq_left h, Nat.sub_zero, List.drop_zero]
theorem DaL.take {H : Hp} : ∀ {xs : List V} {ds : List PyData} (n : Nat), DaL H xs ds → DaL H (xs.take n) (ds.take n)
  | _, _, 0, _ => .nil
  | _, _, n + 1, .nil => .nil
  | _, _, n + 1, .cons a t => .cons a (DaL.take n t)
theorem DaL.erase {H : Hp} : ∀ {xs : List V} {ds : List PyData} (n : Nat), DaL H xs ds → DaL H (xs.eraseIdx n) (ds.eraseIdx n)
  | _, _, _, .nil => .nil
  | _, _, 0, .cons _ t => t
  | _, _, n + 1, .cons a t => .cons a (DaL.erase n t)
/-- a statement that is never reached -/
def tDead : TS := fun _ _ _ => False
theorem ps_dead {X : Cx} {st : Stmt} : PS X st tDead := ⟨fun _ _ _ _ _ _ h => h.elim⟩
end Lw

namespace Lw
open PySem L2
/-! ### tables: plain lists of keys and values -/
section
variable {κ α : Type} [DecidableEq κ]
def lk (m : List (κ × α)) (k : κ) : Option α := (m.find? fun e => decide (e.1 = k)).map (·.2)
def pt (m : List (κ × α)) (k : κ) (v : α) : List (κ × α) := if (m.any fun e => decide (e.1 = k)) = true then m.map (fun e => if e.1 = k then (e.1, v) else e) else m ++ [(k, v)]
def dr (m : List (κ × α)) (k : κ) : List (κ × α) := m.filter fun e => decide (e.1 ≠ k)
/-- a table as the layer's pairs -/
def enD {κ' : Type} (f : κ → κ') (g : α → V) (m : List (κ × α)) : List (κ' × V) := m.map fun e => (f e.1, g e.2)
variable {κ' : Type} [DecidableEq κ'] {f : κ → κ'} {g : α → V}
theorem enD_dec (inj : ∀ a b, f a = f b → a = b) (a b : κ) : decide (f a = f b) = decide (a = b) := by
  by_cases h : a = b
  · subst h; simp
  · rw [decide_eq_false h, decide_eq_false fun q => h (inj _ _ q)]
theorem enD_val (inj : ∀ a b, f a = f b → a = b) (m : List (κ × α)) (k : κ) : valV (enD f g m) (f k) = (lk m k).map g := by
  induction m with
  | nil => rfl
  | cons e r ih =>
    by_cases h : e.1 = k
    · have h1 : valV (enD f g (e :: r)) (f k) = some (g e.2) := valV_pos (p := (f e.1, g e.2)) (by rw [h])
      rw [h1]; simp [lk, List.find?_cons, h]
    · have h1 : valV (enD f g (e :: r)) (f k) = valV (enD f g r) (f k) := valV_neg (p := (f e.1, g e.2)) (fun q => h (inj _ _ q))
      rw [h1, ih]; simp [lk, List.find?_cons, h]
theorem enD_any (inj : ∀ a b, f a = f b → a = b) (m : List (κ × α)) (k : κ) : ((enD f g m).any fun e => decide (e.1 = f k)) = m.any fun e => decide (e.1 = k) := by
  induction m with
  | nil => rfl
  | cons e r ih =>
    show (decide (f e.1 = f k) || (enD f g r).any fun e => decide (e.1 = f k)) = _
    rw [ih, enD_dec inj]
    rfl
theorem enD_put (inj : ∀ a b, f a = f b → a = b) (m : List (κ × α)) (k : κ) (v : α) : putK (enD f g m) (f k) (g v) = enD f g (pt m k v) := by
  unfold putK pt
  rw [enD_any inj]
  by_cases h : (m.any fun e => decide (e.1 = k)) = true
  · rw [if_pos h, if_pos h]
    unfold enD
    rw [List.map_map, List.map_map]
    refine List.map_congr_left fun e _ => ?_
    show (if f e.1 = f k then (f e.1, g v) else (f e.1, g e.2)) = _
    by_cases q : e.1 = k
    · simp [q]
    · rw [if_neg fun z => q (inj _ _ z)]; simp [q]
  · rw [if_neg h, if_neg h]
    unfold enD
    rw [List.map_append]
    rfl
theorem enD_drop (inj : ∀ a b, f a = f b → a = b) (m : List (κ × α)) (k : κ) : dropK (enD f g m) (f k) = enD f g (dr m k) := by
  unfold dropK dr enD
  rw [List.filter_map]
  congr 1
  refine List.filter_congr fun e _ => ?_
  show decide (f e.1 ≠ f k) = decide (e.1 ≠ k)
  by_cases h : e.1 = k
  · simp [h]
  · have : f e.1 ≠ f k := fun q => h (inj _ _ q)
    simp [h, this]
theorem enD_len (m : List (κ × α)) : (enD f g m).length = m.length := by unfold enD; rw [List.length_map]
theorem enD_get {m : List (κ × α)} {i : Nat} {k : κ'} {v : V} (h : (enD f g m)[i]? = some (k, v)) : ∃ e, m[i]? = some e ∧ k = f e.1 ∧ v = g e.2 := by
  unfold enD at h
  rw [List.getElem?_map] at h
  cases q : m[i]? with
  | none => rw [q] at h; cases h
  | some e => rw [q] at h; cases h; exact ⟨e, rfl, rfl, rfl⟩
theorem lk_pt (m : List (κ × α)) (k j : κ) (v : α) : lk (pt m k v) j = if j = k then some v else lk m j := by
  have h := enD_put (f := fun k : κ => k) (g := fun _ : α => V.non) (fun _ _ q => q) m k v
  unfold pt
  induction m with
  | nil =>
    by_cases e : j = k
    · simp [lk, e]
    · have : ¬ k = j := fun q => e q.symm
      simp [lk, e, this]
  | cons e r ih =>
    by_cases hk : e.1 = k
    · have ha : ((e :: r).any fun e => decide (e.1 = k)) = true := by simp [hk]
      rw [if_pos ha]
      by_cases hj : j = k
      · rw [if_pos hj]; simp [lk, List.find?_cons, hk, hj]
      · rw [if_neg hj]
        have hk2 : ¬ k = j := fun q => hj q.symm
        have : ∀ r : List (κ × α), lk (r.map fun e => if e.1 = k then (e.1, v) else e) j = lk r j := by
          intro r
          induction r with
          | nil => rfl
          | cons a t ih2 =>
            by_cases ha : a.1 = k
            · have h1 : ¬ a.1 = j := fun q => hj (q.symm.trans ha)
              simp only [List.map_cons, lk, List.find?_cons, if_pos ha, decide_eq_false h1]
              exact ih2
            · by_cases h1 : a.1 = j
              · simp only [List.map_cons, lk, List.find?_cons, if_neg ha, decide_eq_true h1]
              · simp only [List.map_cons, lk, List.find?_cons, if_neg ha, decide_eq_false h1]
                exact ih2
        exact this (e :: r)
    · have ha : ((e :: r).any fun e => decide (e.1 = k)) = r.any fun e => decide (e.1 = k) := by simp [hk]
      rw [ha]
      have ih' := ih (enD_put (f := fun k : κ => k) (g := fun _ : α => V.non) (fun _ _ q => q) r k v)
      by_cases hb : (r.any fun e => decide (e.1 = k)) = true
      · rw [if_pos hb] at ih' ⊢
        by_cases h1 : e.1 = j
        · have h2 : ¬ j = k := fun q => hk (h1.trans q)
          simp [lk, List.find?_cons, hk, h1, h2]
        · simp only [List.map_cons, if_neg hk, lk, List.find?_cons, decide_eq_false h1] at ih' ⊢
          exact ih'
      · rw [if_neg hb] at ih' ⊢
        by_cases h1 : e.1 = j
        · have h2 : ¬ j = k := fun q => hk (h1.trans q)
          simp [lk, List.find?_cons, h1, h2]
        · simp only [List.cons_append, lk, List.find?_cons, decide_eq_false h1] at ih' ⊢
          exact ih'
end
/-! ### readings of dicts -/
section
variable {K : PySem.W.Frag} {σ : L2.St} {H H' : Hp} {Q : VK} {D : Ends} {td ty te tv tx : TE} {tt : TT} {tb t : TS} {g : TG} {a b d q : Addr} {o : Obj} {kvs : List (List Key × V)} {k : List Key} {v x y z : V} {vs : List Nat} {R : It → Hp → Prop} {as : TA}
/-- may be read as a dict with tuple keys -/
abbrev RdT (H : Hp) (a : Addr) (kvs : List (List Key × V)) : Prop := Rd H a (.dT kvs)
def rDG (x y : V) (H : Hp) (Q : VK) : Prop := ∃ a v, x = .ref a ∧ DGet H a y (some v) ∧ Q v H
theorem g_dget (h : td σ H fun x H1 => ty σ H1 fun y H2 => rDG x y H2 Q) : tDGet td ty σ H Q := h
theorem g_rdg (h : Rd H a (.dT kvs)) (e : H b = some (.tup (k.map kV))) (l : valV kvs k = some v) (c : Q v H) : rDG (.ref a) (.ref b) H Q := ⟨a, v, rfl, .inr ⟨kvs, k, b, h, rfl, e, l.symm⟩, c⟩
def rDI (y x : V) (H : Hp) (Q : VK) : Prop := ∃ a o, x = .ref a ∧ DGet H a y o ∧ Q (.bl o.isSome) H
def rDNI (y x : V) (H : Hp) (Q : VK) : Prop := ∃ a o, x = .ref a ∧ DGet H a y o ∧ Q (.bl (!o.isSome)) H
theorem g_din (h : ty σ H fun y H1 => td σ H1 fun x H2 => rDI y x H2 Q) : tDIn ty td σ H Q := h
theorem g_dnin (h : ty σ H fun y H1 => td σ H1 fun x H2 => rDNI y x H2 Q) : tDNotIn ty td σ H Q := h
theorem g_rdi (h : Rd H a (.dT kvs)) (e : H b = some (.tup (k.map kV))) (c : Q (.bl (valV kvs k).isSome) H) : rDI (.ref b) (.ref a) H Q := ⟨a, _, rfl, .inr ⟨kvs, k, b, h, rfl, e, rfl⟩, c⟩
theorem g_rdni (h : Rd H a (.dT kvs)) (e : H b = some (.tup (k.map kV))) (c : Q (.bl (!(valV kvs k).isSome)) H) : rDNI (.ref b) (.ref a) H Q := ⟨a, _, rfl, .inr ⟨kvs, k, b, h, rfl, e, rfl⟩, c⟩
def rDP (x y v : V) (H : Hp) (P : Hp → Prop) : Prop := ∃ a H4, x = .ref a ∧ DPut H a y v H4 ∧ P H4
theorem g_dput (h : tv σ H fun v H1 => td σ H1 fun x H2 => ty σ H2 fun y H3 => rDP x y v H3 fun H4 => D.nx σ H4) : sDPut td ty tv D σ H := h
theorem g_rdp {P : Hp → Prop} (h : H a = some (.dT kvs)) (e : H b = some (.tup (k.map kV))) (hl : kvs.length < sizeLine) (c : ∀ H', Fr [a] H H' → H' a = some (.dT (putK kvs k v)) → P H') : rDP (.ref a) (.ref b) v H P :=
  ⟨a, _, rfl, .inr ⟨kvs, k, b, h, rfl, e, hl, rfl⟩, c _ (Fr.put h trivial) upd_same⟩
def rDG2 (x : V) (H : Hp) (P : Addr → Prop) : Prop := ∃ a, x = .ref a ∧ IsD H a ∧ P a
def rDO (a : Addr) (y z : V) (H : Hp) (Q : VK) : Prop := ∃ o, DGet H a y o ∧ Q (o.getD z) H
theorem g_dget2 (h : td σ H fun x H1 => rDG2 x H1 fun a => ty σ H1 fun y H2 => tx σ H2 fun z H3 => rDO a y z H3 Q) : tDGet2 td ty tx σ H Q := h
theorem g_dget1 (h : td σ H fun x H1 => rDG2 x H1 fun a => ty σ H1 fun y H2 => rDO a y .non H2 Q) : tDGet1 td ty σ H Q := h
theorem g_rdg2 {P : Addr → Prop} (h : Rd H a (.dT kvs)) (c : P a) : rDG2 (.ref a) H P := ⟨a, rfl, .inr ⟨kvs, h⟩, c⟩
theorem g_dgo (h : Rd H a (.dT kvs)) (e : H b = some (.tup (k.map kV))) (c : Q (((valV kvs k)).getD z) H) : rDO a (.ref b) z H Q := ⟨_, .inr ⟨kvs, k, b, h, rfl, e, rfl⟩, c⟩
theorem g_dnew (c : ∀ p H', H p = none → Fr [] H H' → H' p = some (.dT []) → Q (.ref p) H') : tDNewT σ H Q := fun p hp => c p _ hp (Fr.new hp) upd_same
theorem g_dnewK (c : ∀ p H', H p = none → Fr [] H H' → H' p = some (.dK []) → Q (.ref p) H') : tDNewK σ H Q := fun p hp => c p _ hp (Fr.new hp) upd_same
/-! a walk over a dict, which is locked meanwhile -/
def rUl (d : Addr) (od : Obj) (u : HO) (H : Hp) (P : Hp → Prop) : Prop := H d = some (.frz od u) ∧ P (upd H d u)
theorem g_unl {u : HO} {P : Hp → Prop} (h : H d = some (.frz o u)) (c : ∀ H', Fr [d] H H' → H' d = some u → P H') : rUl d o u H P := ⟨h, c _ (Fr.put h trivial) upd_same⟩
theorem g_lock {u : HO} (h : H d = some u) (m : Mut (some u)) (nt : notTup u) (c : ∀ od H0, Fr [d] H H0 → H0 d = some (.frz od u) → t ⟨fun σ' H' => rUl d od u H' fun H2 => D.nx σ' H2, fun v H' => rUl d od u H' fun H2 => D.rt v H2,
    fun σ' H' => rUl d od u H' fun H2 => D.bk σ' H2, fun σ' H' => rUl d od u H' fun H2 => D.ct σ' H2⟩ σ H0) : tLock t D σ H := ⟨d, u, h, m, fun od => c od _ (Fr.put h nt) upd_same⟩
theorem g_lockE {u : HO} (h : H d = some u) (m : Mut (some u)) (nt : notTup u) (c : ∀ od H0, Fr [d] H H0 → H0 d = some (.frz od u) → te σ H0 fun v H' => rUl d od u H' fun H2 => Q v H2) : tLockE te σ H Q := ⟨d, u, h, m, fun od => c od _ (Fr.put h nt) upd_same⟩
def rKy (x : V) (H : Hp) (R : It → Hp → Prop) : Prop := ∃ d o, x = .ref d ∧ ((∃ kvs, H d = some (.frz o (.dK kvs)) ∧ R (Itk d o kvs) H) ∨ ∃ kvs, H d = some (.frz o (.dT kvs)) ∧ R (Itkt d o kvs) H)
theorem g_iK (h : td σ H fun x H1 => rKy x H1 R) : iKeys td σ H R := h
theorem g_rkt (h : H d = some (.frz o (.dT kvs))) (c : R (Itkt d o kvs) H) : rKy (.ref d) H R := ⟨d, o, rfl, .inr ⟨kvs, h, c⟩⟩
theorem f_keysT (Pv : Nat → L2.St → Hp → Prop) (h0 : Pv 0 σ H) (hl : ∀ i σ H, i ≤ kvs.length → Pv i σ H → H d = some (.frz o (.dT kvs)))
    (hs : ∀ i k v q σ H, kvs[i]? = some (k, v) → H q = some (.tup (k.map kV)) → Pv i σ H → g (.ref q) σ H fun σ2 H2 => tb { D with nx := Pv (i + 1), ct := Pv (i + 1), bk := D.nx } σ2 H2) (hd : ∀ σ H, Pv kvs.length σ H → D.nx σ H) : ForGo (Itkt d o kvs) g tb D σ H :=
  for_it walk_keysT Pv h0 hl (fun i x σ H H' hi p y => by obtain ⟨rfl, k, v, q, h1, rfl, h3⟩ := y; exact hs i k v q σ _ h1 h3 p) hd
theorem l_keysT (c : ∀ Dl H0, H Dl = none → Fr [] H H0 → H0 Dl = some (.lst []) → ∃ Pv : Nat → List V → Hp → Prop, Pv 0 [] H0 ∧ (∀ i acc H', Pv i acc H' → H' d = some (.frz o (.dT kvs))) ∧
    (∀ i k v q acc H', kvs[i]? = some (k, v) → H' q = some (.tup (k.map kV)) → H' Dl = some (.lst acc) → Pv i acc H' → lcStep g tt te vs σ Dl Pv i (.ref q) H') ∧ (∀ acc H', H' Dl = some (.lst acc) → Pv kvs.length acc H' → Q (.ref Dl) H')) : LcGo (Itkt d o kvs) g tt te vs σ Q H := by
  intro Dl hD
  obtain ⟨Pv, p0, pl, ps, pd⟩ := c Dl _ hD (Fr.new hD) upd_same
  exact lc_it walk_keysT (fun i H' => ∃ acc, H' Dl = some (.lst acc) ∧ Pv i acc H') ⟨[], upd_same, p0⟩ (fun i H' _ ⟨acc, _, p⟩ => pl i acc H' p) (fun i x H1 H' hi ⟨acc, hd, p⟩ y => by obtain ⟨rfl, k, v, q, h1, rfl, h3⟩ := y; exact ps i k v q acc _ h1 h3 hd p) (fun H' ⟨acc, hd, p⟩ => pd acc H' hd p)
/-! targets that are tuples -/
def rGt (K : PySem.W.Frag) (n : Nat) (t : TGs) (v : V) (σ : L2.St) (H : Hp) (P : L2.St → Hp → Prop) : Prop := ∃ a xs, v = .ref a ∧ SqT K H a xs ∧ xs.length = n ∧ t xs σ H P
theorem g_gtup {n : Nat} {t : TGs} {P : L2.St → Hp → Prop} {xs : List V} (h : SqT K H a xs) (hl : xs.length = n) (c : t xs σ H P) : gTup K n t (.ref a) σ H P := ⟨a, xs, rfl, h, hl, c⟩
theorem g_gcons {t : TG} {u : TGs} {P : L2.St → Hp → Prop} {r : List V} (c : t v σ H fun σ' H' => u r σ' H' P) : gCons t u (v :: r) σ H P := ⟨v, r, rfl, c⟩
theorem g_gnil {P : L2.St → Hp → Prop} (c : P σ H) : gNil [] σ H P := ⟨rfl, c⟩
/-! enumerate, zip: a new pair a turn -/
def rEn (K : PySem.W.Frag) (vs : List V) (H : Hp) (R : It → Hp → Prop) : Prop := ∃ a xs, vs = [.ref a] ∧ SqL K H a xs ∧ R (Ite K a) H
theorem g_iE (h : as σ H fun vs H1 => rEn K vs H1 R) : iEnum K as σ H R := h
theorem g_ren {xs : List V} (h : SqL K H a xs) (c : R (Ite K a) H) : rEn K [.ref a] H R := ⟨a, xs, rfl, h, c⟩
theorem f_enum {xs : List V} (Pv : Nat → L2.St → Hp → Prop) (h0 : Pv 0 σ H) (hl : ∀ i σ H, i ≤ xs.length → Pv i σ H → SqL K H a xs)
    (hs : ∀ i x T σ H H', xs[i]? = some x → Pv i σ H → H T = none → Fr [] H H' → H' T = some (.tup [.int (i : Nat), x]) → g (.ref T) σ H' fun σ2 H2 => tb { D with nx := Pv (i + 1), ct := Pv (i + 1), bk := D.nx } σ2 H2) (hd : ∀ σ H, Pv xs.length σ H → D.nx σ H) : ForGo (Ite K a) g tb D σ H :=
  for_it walk_enum Pv h0 hl (fun i x σ H H' hi p y => by
    obtain ⟨T, u, w, rfl, h2, rfl, h4, h5⟩ := y
    cases h4
    exact hs i w T σ H _ h5 p h2 (Fr.new h2) upd_same) hd
def rZp (K : PySem.W.Frag) (vs : List V) (H : Hp) (R : It → Hp → Prop) : Prop := ∃ a b xs ys, vs = [.ref a, .ref b] ∧ SqL K H a xs ∧ SqL K H b ys ∧ R (Itz K a b) H
theorem g_iZ (h : as σ H fun vs H1 => rZp K vs H1 R) : iZip K as σ H R := h
theorem g_rzp {xs ys : List V} (h : SqL K H a xs) (h2 : SqL K H b ys) (c : R (Itz K a b) H) : rZp K [.ref a, .ref b] H R := ⟨a, b, xs, ys, rfl, h, h2, c⟩
theorem f_zip {xs ys : List V} {n : Nat} (hn : n = min xs.length ys.length) (Pv : Nat → L2.St → Hp → Prop) (h0 : Pv 0 σ H) (hl : ∀ i σ H, i ≤ n → Pv i σ H → SqL K H a xs ∧ SqL K H b ys)
    (hs : ∀ i x y T σ H H', xs[i]? = some x → ys[i]? = some y → Pv i σ H → H T = none → Fr [] H H' → H' T = some (.tup [x, y]) → g (.ref T) σ H' fun σ2 H2 => tb { D with nx := Pv (i + 1), ct := Pv (i + 1), bk := D.nx } σ2 H2) (hd : ∀ σ H, Pv n σ H → D.nx σ H) : ForGo (Itz K a b) g tb D σ H :=
  for_it (walk_zip hn) Pv h0 hl (fun i x σ H H' hi p y => by
    obtain ⟨T, u, w, rfl, h2, rfl, h4, h5⟩ := y
    exact hs i u w T σ H _ h4 h5 p h2 (Fr.new h2) upd_same) hd
/-- sum, min of a list of ints -/
theorem g_sum {ns : List Int} (h : SqL K H a (ns.map V.int)) (c : Q (.int ns.sum) H) : rSum K [.ref a] H Q := ⟨a, ns, rfl, h, c⟩
theorem g_all {bs : List Bool} (h : SqL K H a (bs.map V.bl)) (c : Q (.bl (bs.all id)) H) : rAll K [.ref a] H Q := ⟨a, bs, rfl, h, c⟩
theorem g_any {bs : List Bool} (h : SqL K H a (bs.map V.bl)) (c : Q (.bl (bs.any id)) H) : rAny K [.ref a] H Q := ⟨a, bs, rfl, h, c⟩
theorem g_catT {xs ys : List V} (h : SqT K H a xs) (h2 : SqT K H b ys) (hne : xs ≠ []) (hl : xs.length + ys.length ≤ sizeLine) (c1 : ys = [] → Q (.ref a) H) (c2 : ys ≠ [] → ∀ p H', H p = none → Fr [] H H' → H' p = some (.tup (xs ++ ys)) → Q (.ref p) H') : rCatT K (.ref a) (.ref b) H Q :=
  ⟨a, b, xs, ys, rfl, rfl, h, h2, hne, hl, c1, fun e p hp => c2 e p _ hp (Fr.new hp) upd_same⟩
theorem g_cat {xs ys : List V} (h : H a = some (.lst xs)) (h2 : H b = some (.lst ys)) (hl : xs.length + ys.length ≤ sizeLine) (c : ∀ p H', H p = none → Fr [] H H' → H' p = some (.lst (xs ++ ys)) → Q (.ref p) H') : rCat (.ref a) (.ref b) H Q :=
  ⟨a, b, xs, ys, rfl, rfl, h, h2, hl, fun p hp => c p _ hp (Fr.new hp) upd_same⟩
end
/-! ### sorted of data -/
section
open PySem.W in
/-- sorted(xs), xs a list that reads as data of one shape: a new list of the same values in their order -/
def rSortD (K : PySem.W.Frag) : List V → Hp → VK → Prop := fun vs H Q => ∃ (a : Addr) (bs : List (V × PyData)), vs = [V.ref a] ∧ SqL K H a (bs.map (·.1)) ∧ (∀ b ∈ bs, Da H b.1 b.2) ∧ AllAlike (bs.map (·.2)) ∧ Sortable (bs.map (·.2)) ∧ (∀ b ∈ bs, b.2.depth ≤ 60) ∧
  ∀ p, H p = none → Q (.ref p) (upd H p (.lst ((bs.mergeSort (dataLe false (·.2))).map (·.1))))
variable {X : Cx}
open PySem.W in
theorem eachV {s : Shared} {H : Hp} {pins : List (Addr × Obj)} {σ : L2.St} (I : Inv X pins σ H s) : ∀ (bs : List (V × PyData)) (us : List Value), Vals (bs.map (·.1)) us → (∀ b ∈ bs, Da H b.1 b.2) → EachIs (fun u (b : V × PyData) => RelV b.1 u) us bs ∧ EachIs (fun u (b : V × PyData) => ∃ as, PySem.Reads s.heap u b.2 as) us bs
  | [], us, r, _ => by cases r; exact ⟨.nil, .nil⟩
  | b :: bs, us, r, h => by
    cases r with
    | cons r1 r2 =>
      obtain ⟨e1, e2⟩ := eachV I bs _ r2 fun c hc => h c (List.mem_cons_of_mem _ hc)
      exact ⟨.cons r1 e1, .cons (Dp.reads I _ _ _ (Da.dp (K := X.K) _ _ (h b List.mem_cons_self)) r1) e2⟩
open PySem.W in
theorem eachB : ∀ {us : List Value} {bs : List (V × PyData)}, EachIs (fun u (b : V × PyData) => RelV b.1 u) us bs → Vals (bs.map (·.1)) us
  | _, _, .nil => .nil
  | _, _, .cons r t => .cons r (eachB t)
open PySem.W in
theorem b_sortD (hu : X.A.units + 64 < cLine) : CallR X (.builtin "sorted") (rSortD X.K) := by
  intro pins s σ H vs us Q I r h
  obtain ⟨a, bs, rfl, hs, hd, ha, hk, hdp, q⟩ := h
  obtain ⟨its, rv, hl, hz⟩ := I.list hs
  obtain ⟨u, rfl, ru⟩ := vals1 r
  obtain rfl : u = Value.ref a := ru
  obtain ⟨e1, e2⟩ := eachV I bs its rv hd
  rw [List.length_map] at hz
  refine sorted_data (enc := fun b : V × PyData => b.2) hl.isList e1 e2 ha hk hz (fun b hb => ?_) fun out ho eo => ?_
  · have := hdp b hb
    show X.A.units + 2 + b.2.depth < cLine
    omega
  · obtain ⟨ep, he'⟩ := PyProof.Rows.sortedAll_at s.heap its out.toArray
    have vo := eachB eo
    have hlen : ((bs.mergeSort (dataLe false fun b : V × PyData => b.2)).map (·.1)).length ≤ sizeLine := by rw [List.length_map, List.length_mergeSort]; exact hz
    exact ⟨.ref _, upd H (s.heap.objs.size + 1) (.lst _), I.laid (t' := s.toks) (fun _ _ => PyProof.Rows.sortedAll_old) (Nat.le_succ _) ⟨hlen, out, ep, vo, he'⟩, rfl, q _ (I.hok.fresh (Nat.le_succ _))⟩
open PySem.W in
theorem g_sortD {K : PySem.W.Frag} {H : Hp} {Q : VK} {a : Addr} {bs : List (V × PyData)} (hs : SqL K H a (bs.map (·.1))) (hd : ∀ b ∈ bs, Da H b.1 b.2) (ha : AllAlike (bs.map (·.2))) (hk : Sortable (bs.map (·.2))) (hdp : ∀ b ∈ bs, b.2.depth ≤ 60)
    (c : ∀ p H', H p = none → Fr [] H H' → H' p = some (.lst ((bs.mergeSort (dataLe false (·.2))).map (·.1))) → Q (.ref p) H') : rSortD K [.ref a] H Q := ⟨a, bs, rfl, hs, hd, ha, hk, hdp, fun p hp => c p _ hp (Fr.new hp) upd_same⟩
/-- the sorted data -/
def srt (ds : List PyData) : List PyData := ds.mergeSort (PySem.W.dataLe false id)
end
/-! ### d.clear() of a dict with tuple keys -/
section
variable {X : Cx}
def rDClearT : V → List V → Hp → VK → Prop := fun x vs H Q => ∃ (a : Addr) (kvs : List (List Key × V)), x = .ref a ∧ vs = [] ∧ H a = some (.dT kvs) ∧ Q .non (upd H a (.dT []))
theorem mtd_clearT : MtR X "dict.clear" rDClearT := by
  intro pins s σ H x vs v us Q I rx rv h
  obtain ⟨a, kvs, rfl, rfl, e, q⟩ := h
  obtain rfl : v = Value.ref a := rx
  cases rv
  obtain ⟨z, hd, xs, rel, o, es, ep, ho, hx, hdat, hes, _⟩ := dt_of I.hok e
  have raw : s.heap.DictRaw a es ep := ⟨o, ho, hx, hdat⟩
  have hsz : es.size ≤ sizeLine := by
    have e1 := congrArg List.length hes
    rw [Array.length_toList, List.length_map] at e1
    rw [e1, ← Paired.length rel]
    exact z
  refine call_meetsIn PySem.F.slot_dict_clear raw.typeIs PySem.F.entry_dict_clear (PySem.F.args_dict_clear_1 _) (meets_dict_clear_raw a) ⟨es, ep, raw, hsz, fun h' raw' hs => ?_⟩
  obtain ⟨o', ho', hx', hdat'⟩ := raw'
  exact ⟨.non, _, d_write (t' := s.toks) (ob := .dT []) I (by rw [e]; exact True.intro) hs ⟨o', ho'⟩ ⟨Nat.zero_le _, hd, [], .nil, o', #[], ep + 1, ho', hx', hdat', rfl, List.nodup_nil⟩, rfl, q⟩
theorem pe_dclearT {o : Expr} {to : TE} {apos cpos : Pos} (ho : PE X o to) (hbase : attributeBase o "clear" X.env (eval o X.env) = eval o X.env := by rfl) (hline : (apos.endLine == cpos.line) = true := by rfl) : PE X (.Call (.Attribute o "clear" apos) [] [] cpos) (tBM0 X.K "dict" rDClearT to) :=
  pe_bm0 PySem.F.plainAttrs_dict PySem.F.slot_dict_clear PySem.F.type_dict_clear mtd_clearT ho hbase hline
theorem g_bmT {K : PySem.W.Frag} {H : Hp} {a : Addr} {kvs : List (List Key × V)} {P : Prop} (h : H a = some (.dT kvs)) (q : P) : rBM K "dict" (.ref a) H P := ⟨.inr (.inr (.inl ⟨rfl, .inr ⟨kvs, h⟩⟩)), q⟩
theorem g_clearT {H : Hp} {a : Addr} {kvs : List (List Key × V)} {Q : VK} (h : H a = some (.dT kvs)) (q : ∀ H', Fr [a] H H' → H' a = some (.dT []) → Q .non H') : rDClearT (.ref a) [] H Q := ⟨a, kvs, rfl, rfl, h, q _ (Fr.put h trivial) upd_same⟩
end
/-! ### list(range(a, b)) -/
section
variable {σ : L2.St} {H : Hp} {Q : VK} {ta tb : TE} {a b : Int}
def rLRg (x y : V) (H : Hp) (Q : VK) : Prop := ∃ i j, x = .int i ∧ y = .int j ∧ RgOk i j ∧ ∀ q, H q = none → Q (.ref q) (upd H q (.lst (rgV i j)))
theorem g_lstRg (h : ta σ H fun x H1 => tb σ H1 fun y H2 => rLRg x y H2 Q) : tLstRg (tRg2 ta tb) σ H Q := h
theorem g_rlrg (ok : RgOk a b) (c : ∀ p H', H p = none → Fr [] H H' → H' p = some (.lst (rgV a b)) → Q (.ref p) H') : rLRg (.int a) (.int b) H Q := ⟨a, b, rfl, rfl, ok, fun p hp => c p _ hp (Fr.new hp) upd_same⟩
end
/-! ### what sorted gives, as data -/
section
open PySem.W
theorem dle_total {β : Type} (k : β → PyData) : TotalLe (dataLe false k) := sortLe_total _ false _
theorem srt_perm (ds : List PyData) : (srt ds).Perm ds := List.mergeSort_perm ds _
theorem srt_srt (ds : List PyData) : srt (srt ds) = srt ds := List.mergeSort_of_pairwise (sort_pairwise (dle_total id) ds)
theorem srt_map {β : Type} (f : β → PyData) (l : List β) : (l.mergeSort (dataLe false f)).map f = srt (l.map f) := sort_maps f fun _ _ _ _ => rfl
theorem DaL.zip {H : Hp} : ∀ {xs : List V} {ds : List PyData}, DaL H xs ds → (xs.zip ds).map (·.1) = xs ∧ (xs.zip ds).map (·.2) = ds ∧ ∀ b ∈ xs.zip ds, Da H b.1 b.2
  | _, _, .nil => ⟨rfl, rfl, fun _ h => nomatch h⟩
  | _, _, .cons a t => by
    obtain ⟨h1, h2, h3⟩ := DaL.zip t
    refine ⟨by simp [h1], by simp [h2], fun b hb => ?_⟩
    rcases List.mem_cons.mp hb with e | e
    · rw [e]; exact a
    · exact h3 b e
theorem DaL.ofBs {H : Hp} : ∀ {bs : List (V × PyData)}, (∀ b ∈ bs, Da H b.1 b.2) → DaL H (bs.map (·.1)) (bs.map (·.2))
  | [], _ => .nil
  | b :: bs, h => .cons (h b List.mem_cons_self) (DaL.ofBs fun c hc => h c (List.mem_cons_of_mem _ hc))
theorem g_srt {K : PySem.W.Frag} {H : Hp} {Q : VK} {a : Addr} {xs : List V} {ds : List PyData} (hs : SqL K H a xs) (hd : DaL H xs ds) (ha : AllAlike ds) (hk : Sortable ds) (hdp : ∀ d ∈ ds, d.depth ≤ 60)
    (c : ∀ p H' ys, H p = none → Fr [] H H' → H' p = some (.lst ys) → DaL H ys (srt ds) → Q (.ref p) H') : rSortD K [.ref a] H Q := by
  obtain ⟨z1, z2, z3⟩ := hd.zip
  refine g_sortD (bs := xs.zip ds) (by rw [z1]; exact hs) z3 (by rw [z2]; exact ha) (by rw [z2]; exact hk) (fun b hb => hdp b.2 (by rw [← z2]; exact List.mem_map.mpr ⟨b, hb, rfl⟩)) fun p H' hp f e => ?_
  refine c p H' _ hp f e ?_
  have q := DaL.ofBs (H := H) (bs := (xs.zip ds).mergeSort (dataLe false (·.2))) fun b hb => z3 b ((List.mergeSort_perm _ _).mem_iff.mp hb)
  rw [srt_map (fun b : V × PyData => b.2), z2] at q
  exact q
theorem alike_len : ∀ (n : Nat) (xs ys : List Int), alikeAll (xs.map .int) (ys.map .int) = true := fun _ => alike_ints
end
/-! ### chains, min, in, options -/
abbrev tChainT (r r' : R2) (ta tb tc : TE) : TT := tTest (tChain r r' ta tb tc)
section
variable {K : PySem.W.Frag} {σ : L2.St} {H : Hp} {Q : VK} {ta tb tc : TE} {r r' : R2} {y : V} {k : Bool} {p : Addr} {ns : List Int} {m : Int}
def rCh (r' : R2) (tc : TE) (y : V) (σ : L2.St) (Q : VK) (z : V) (H3 : Hp) : Prop := ∃ k, z = .bl k ∧ (if k = true then tc σ H3 fun w' H4 => r' y w' H4 Q else Q (.bl false) H3)
theorem g_chain (h : ta σ H fun x H1 => tb σ H1 fun y H2 => r x y H2 fun z H3 => rCh r' tc y σ Q z H3) : tChain r r' ta tb tc σ H Q := h
theorem g_rch (h : if k = true then tc σ H fun w' H4 => r' y w' H4 Q else Q (.bl false) H) : rCh r' tc y σ Q (.bl k) H := ⟨k, rfl, h⟩
theorem g_min (h : SqL K H p (ns.map V.int)) (hl : 0 < ns.length) (q : ∀ m, m ∈ ns → (∀ y, y ∈ ns → m ≤ y) → Q (.int m) H) : rMin K [.ref p] H Q := ⟨p, ns, rfl, h, hl, q⟩
theorem inI : inV (.int m) (ns.map V.int) = decide (m ∈ ns) := by
  unfold inV
  induction ns with
  | nil => rfl
  | cons a t ih =>
    rw [List.map_cons, List.any_cons, ih]
    show ((a == m) || decide (m ∈ t)) = _
    by_cases h : a = m
    · simp [h]
    · have h2 : ¬ m = a := fun z => h z.symm
      simp [h, h2]
theorem flatI : (ns.map V.int).all flatV = true := List.all_eq_true.mpr fun x hx => by obtain ⟨n, _, rfl⟩ := List.mem_map.mp hx; rfl
theorem g_ninI (h : SqL K H p (ns.map V.int)) (q : Q (.bl (!decide (m ∈ ns))) H) : rIn K true (.int m) (.ref p) H Q := ⟨p, _, rfl, .inl h, rfl, flatI, by rw [inI]; exact q⟩
theorem g_neB {a b : Bool} (h : Q (.bl (!decide (a = b))) H) : rNe (.bl a) (.bl b) H Q := ⟨rfl, by rw [show decide (V.bl a = V.bl b) = decide (a = b) from by simp]; exact h⟩
end
/-- a number, or none -/
def optV : Option Int → V
  | none => .non
  | some r => .int r
def optD : Option Int → PyData
  | none => .none
  | some r => .int r
section
variable {H : Hp} {Q : VK} {o : Option Int} {r : Int}
theorem g_isO (h : Q (.bl (decide (o = none))) H) : rIsNon (optV o) .non H Q := g_isN (by cases o <;> simpa [optV] using h)
theorem g_notO (h : Q (.bl (!decide (o = none))) H) : rIsNotNon (optV o) .non H Q := g_notN (by cases o <;> simpa [optV] using h)
theorem g_eqO (h : Q (.bl (decide (o = some r))) H) : rEq (optV o) (.int r) H Q := by
  cases o with
  | none => exact ⟨rfl, by simpa [optV] using h⟩
  | some q => exact g_eqI (by simpa using h)
theorem DaL.opts : ∀ {R : List (Option Int)}, DaL H (R.map optV) (R.map optD)
  | [] => .nil
  | none :: R => .cons .non DaL.opts
  | some r :: R => .cons (.int r) DaL.opts
theorem imm_opts {R : List (Option Int)} : immL (R.map optD) = true := immL_of fun d hd => by obtain ⟨o, _, rfl⟩ := List.mem_map.mp hd; cases o <;> rfl
theorem dp_opts {R : List (Option Int)} : dpL (R.map optD) ≤ 1 := dpL_le fun d hd => by obtain ⟨o, _, rfl⟩ := List.mem_map.mp hd; cases o <;> exact Nat.zero_le _
end
end Lw

namespace Lw
open PySem L2 PySem.W PySem.Calls PyProof.Rows PySem.Spec
/-! ### more of dicts with tuple keys: len, dict(d), sorted(d), d.pop(k) -/
section
variable {X : Cx}
theorem raw_of {P : Program} {w : World} {h : Heap} {a : Addr} {xs : List (List Key × Addr × Value)} (m : h.DictOfH (tupleKind (mixKind P w)) a xs) : ∃ es ep, h.DictRaw a es ep ∧ es.size = xs.length ∧ ∀ (i : Nat) (hi : i < es.size), ∃ x, xs[i]? = some x ∧ es[i].key = .ref x.2.1 := by
  obtain ⟨o, es, ep, h1, h2, h3, h4, h5, h6⟩ := m
  have hs : es.size = xs.length := by
    have e := congrArg List.length h4
    rw [Array.length_toList, List.length_map] at e
    exact e
  refine ⟨es, ep, ⟨o, h1, h2, h3⟩, hs, fun i hi => ?_⟩
  have e : es.toList[i]? = (xs.map _)[i]? := congrArg (fun l => l[i]?) h4
  rw [List.getElem?_map, List.getElem?_eq_getElem (by rw [Array.length_toList]; exact hi)] at e
  have hx : xs[i]? = some (xs[i]'(by omega)) := List.getElem?_eq_getElem (by omega)
  rw [hx] at e
  refine ⟨_, hx, ?_⟩
  have e2 := Option.some.inj e
  rw [Array.getElem_toList] at e2
  rw [e2]; rfl
/-- len(d) -/
theorem g_lenDT {H : Hp} {Q : VK} {a : Addr} {kvs : List (List Key × V)} (h : H a = some (.dT kvs)) (q : Q (.int kvs.length) H) : rLenT [.ref a] H Q := ⟨a, kvs, rfl, h, q⟩
/-- d.pop(k), k there -/
def rPopT1 : V → List V → Hp → VK → Prop := fun x xs H Q => ∃ (a b : Addr) (kvs : List (List Key × V)) (k : List Key) (v : V), x = .ref a ∧ xs = [.ref b] ∧ H a = some (.dT kvs) ∧ H b = some (.tup (k.map kV)) ∧ valV kvs k = some v ∧ Q v (upd H a (.dT (dropK kvs k)))
theorem mt_popT1 (hu : X.A.units + 1 < cLine) : MtR X "dict.pop" rPopT1 := by
  intro pins s σ H x xs v us Q I rx rxs h
  obtain ⟨a, b, kvs, k, v0, rfl, rfl, ha, hb, hv, q⟩ := h
  cases rx
  obtain ⟨u1, rfl, r1⟩ := vals1 rxs
  cases r1
  obtain ⟨z, hd, xs', rel, dd⟩ := dt_of I.hok ha
  have hz : xs'.length ≤ sizeLine := by rw [← Paired.length rel]; exact z
  have r := rel.val k
  rw [hv] at r
  obtain ⟨p, hp⟩ : ∃ p, atKey xs' k = some p := by
    cases e : atKey xs' k with
    | none => rw [e] at r; exact (show False from r).elim
    | some p => exact ⟨p, rfl⟩
  rw [hp] at r
  have rv : RelV v0 p.2 := r
  refine call_pop_heap (hsz := hz) (.inl rfl) (PySem.F.args_dict_pop_2 _ _) (tupleKind_room_in1 hu) (key_of I.hok hb) hd dd hp fun h' dd' hs => ?_
  obtain ⟨o, es, ep, hq, h2, h3, h4, _, h5⟩ := dd'
  have I2 : Inv X pins σ (upd H a (.dT (dropK kvs k))) { s with heap := h', toks := s.toks + (tupleKind (mixKind X.prog X.w)).draws k } :=
    d_write I (by rw [ha]; exact True.intro) hs ⟨o, hq⟩ ⟨Nat.le_trans (dropK_le kvs k) z, hd, _, (L2.DX.KT_drop k rel).keeps (fun c ys ec => (by rw [upd_ne (ne_of ec ha (fun z => nomatch z))]; exact ec)), o, es, ep, hq, h2, h3, h4, h5⟩
  show EP X pins σ Q p.2 _
  exact ⟨v0, _, I2, rv, q⟩
/-- dict(d): a copy; the keys' hashes differ -/
def rDictT (P : Program) (w : World) : List V → Hp → VK → Prop := fun vs H Q => ∃ (a : Addr) (kvs : List (List Key × V)), vs = [.ref a] ∧ H a = some (.dT kvs) ∧ (kvs.map fun e => (tupleKind (mixKind P w)).hash e.1).Nodup ∧ ∀ p, H p = none → Q (.ref p) (upd H p (.dT kvs))
theorem b_dictT (hu : X.A.units + 8 < cLine) : CallR X (.type "dict") (rDictT X.prog X.w) := by
  intro pins s σ H vs us Q I r h
  obtain ⟨a, kvs, rfl, ha, hh, q⟩ := h
  obtain ⟨u, rfl, ru⟩ := vals1 r
  obtain rfl : u = Value.ref a := ru
  obtain ⟨z, hoS, xs, rel, ho⟩ := dt_of I.hok ha
  have hz : xs.length ≤ sizeLine := by rw [← Paired.length rel]; exact z
  have hm : (s.heap.objs.size == sysModules) = false := beq_eq_false_iff_ne.mpr (Nat.ne_of_gt I.big)
  refine callType_codes (Q₁ := fun obj s₁ => obj = .ref s.heap.objs.size ∧ s₁ = { s with heap := s.heap.push { cls := .type "dict", data := .dict #[] } }) F.kt_called_dict (F.kt_typeCall_dict_1 _) F.entry_dict_init (kt_code_dict_new _ ⟨rfl, rfl⟩) ?_
  rintro obj s₁ ⟨rfl, rfl⟩
  have hnew : (s.heap.push { cls := .type "dict", data := .dict #[] }).DictOfH (tupleKind (mixKind X.prog X.w)) s.heap.objs.size [] := Heap.DictOfH.new s.heap
  have ho' : (s.heap.push { cls := .type "dict", data := .dict #[] }).DictOfH (tupleKind (mixKind X.prog X.w)) a xs := by
    obtain ⟨o, es, ep, h1, h2, h3, h4, h5, h6⟩ := id ho
    exact ⟨o, es, ep, Heap.get?_push_of_some _ h1, h2, h3, h4, fun x hx => by obtain ⟨o2, its, n, g1, g2, g3, g4⟩ := h5 x hx; exact ⟨o2, its, n, Heap.get?_push_of_some _ g1, g2, g3, g4⟩, h6⟩
  have hdo : s.heap.objs.size ≠ a := by
    obtain ⟨_, _, _, hg, _⟩ := ho
    exact fun e => absurd (Heap.lt_size hg) (by rw [e]; exact Nat.lt_irrefl _)
  refine ⟨hnew.typeIs, F.args_dict_init_2 _ _, ?_⟩
  unfold Builtin.«dict.__init__»
  refine wpAny_bind ?_
  unfold Builtin.Dict.selfAndRest
  refine wpAny_bind (wpAny_notOrdered_dict hnew.typeIs ?_)
  show wpAny _ _ (pure (s.heap.objs.size, [Value.ref a])) _ _ _
  refine wpAny_pure ?_
  show wpAny _ _ (Builtin.Dict.updateFrom "dict.__init__" s.heap.objs.size (.ref a) [] .none) _ _ _
  unfold Builtin.Dict.updateFrom
  refine wpAny_bind (wpAny_typeOf ho'.typeIs ?_)
  rw [if_neg (by decide)]
  refine wpAny_bind ?_
  unfold Builtin.Dict.merge
  refine wpAny_bind ?_
  unfold Builtin.Dict.readDirectly
  refine wpAny_bind (wpAny_isInstance ho'.typeIs isSubtype_dict_dict ?_)
  simp only [Bool.not_true, Bool.false_eq_true, if_false]
  refine wpAny_bind (wpAny_specialOf ho'.typeIs F.slot_dict_iter.lookup (wpAny_pure ?_))
  simp only [beq_self_eq_true, if_true]
  refine wpAny_bind (wpAny_pure ?_)
  have hty : ∀ x ∈ xs, Shared.TypeIs { s with heap := s.heap.push { cls := .type "dict", data := .dict #[] } } (.ref x.2.1) "tuple" := fun x hx => by
    obtain ⟨o, es, ep, h1, h2, h3, h4, h5, h6⟩ := id ho'
    obtain ⟨o2, its, n, g1, g2, g3, g4⟩ := h5 x hx
    exact ⟨o2, g1, g2⟩
  have hap : (xs.map fun x => (tupleKind (mixKind X.prog X.w)).hash x.1).Nodup := by
    have e : (xs.map fun x => (tupleKind (mixKind X.prog X.w)).hash x.1) = kvs.map fun e => (tupleKind (mixKind X.prog X.w)).hash e.1 := by
      clear hty ho' ho hnew hz z hh ha q
      induction rel with
      | nil => rfl
      | cons h _ ih => rw [List.map_cons, List.map_cons, ih, h.1]
    rw [e]; exact hh
  have hn : (xs.map (·.1)).Nodup := ho.nodup
  refine wpAny_mergeDict_heap (hsz := by simpa using hz) ?room hdo hoS hnew ho' (.inr ⟨hty, hap⟩) fun h' hd' _ hs' => ?_
  case room => exact (show X.A.units + 1 + 1 < cLine by omega)
  show wpAny _ _ (Builtin.Dict.addKeywords s.heap.objs.size [] >>= _) _ _ _
  rw [storedAllH_nil_of_nodup xs hn] at hd'
  refine wpAny_bind (wpAny_pure (wpAny_pure ⟨rfl, ?_⟩))
  obtain ⟨o, es, ep, h1, h2, h3, h4, h5, h6⟩ := hd'
  exact ⟨.ref s.heap.objs.size, upd H s.heap.objs.size (.dT kvs), I.laid (t' := s.toks) (fun b u e => (hs'.2 b (Nat.ne_of_lt (Heap.lt_size e))).trans (Heap.get?_push_of_some _ e)) (Nat.le_refl _)
    ⟨z, hm, xs, rel.keeps (fun c ys ec => by rw [upd_ne (ne_of_none ec (I.hok.fresh (Nat.le_refl _)))]; exact ec), o, es, ep, h1, h2, h3, h4, h6⟩, rfl, q _ (I.hok.fresh (Nat.le_refl _))⟩
/-- sorted(d): the keys, all tuples of ints, in their order -/
def intsD (c : List Int) : PyData := .tuple (c.map .int)
def rSortedDT : List V → Hp → VK → Prop := fun vs H Q => ∃ (a : Addr) (kvs : List (List Key × V)) (cs : List (List Int)), vs = [.ref a] ∧ H a = some (.dT kvs) ∧ kvs.map (·.1) = cs.map (fun c => c.map Sum.inl) ∧ AllAlike (cs.map intsD) ∧ Sortable (cs.map intsD) ∧ (∀ c ∈ cs, (intsD c).depth ≤ 60 ∧ c.length ≤ 1000000) ∧
  ∀ p ys, H p = none → DaL H ys (srt (cs.map intsD)) → Q (.ref p) (upd H p (.lst ys))
theorem reads_ints {h : Heap} : ∀ {ns : List Int} {us : List Value}, Vals (ns.map V.int) us → PySem.ReadsAll h us (ns.map .int) []
  | [], _, .nil => .nil
  | n :: ns, u :: us, h => by
    cases h with
    | cons r t =>
      obtain ⟨tk, rfl⟩ := r
      exact .cons (as := []) (bs := []) (.int n tk) (reads_ints t)
theorem each_idx {α β : Type} {R : α → β → Prop} : ∀ {us : List α} {bs : List β}, us.length = bs.length → (∀ (i : Nat) u b, us[i]? = some u → bs[i]? = some b → R u b) → EachIs R us bs
  | [], [], _, _ => .nil
  | u :: us, b :: bs, hl, h => .cons (h 0 u b rfl rfl) (each_idx (by simpa using hl) fun i x y hx hy => h (i + 1) x y (by simpa using hx) (by simpa using hy))
  | [], _ :: _, hl, _ => by simp at hl
  | _ :: _, [], hl, _ => by simp at hl
theorem each_refs {γ : Type} : ∀ {us : List Value} {bs : List (Addr × γ)}, EachIs (fun u (b : Addr × γ) => u = .ref b.1) us bs → Vals (bs.map fun b => V.ref b.1) us
  | _, _, .nil => .nil
  | _, _, .cons r t => .cons r (each_refs t)
theorem da_refs {γ : Type} {H : Hp} {f : γ → PyData} : ∀ {bs : List (Addr × γ)}, (∀ b ∈ bs, Da H (.ref b.1) (f b.2)) → DaL H (bs.map fun b => V.ref b.1) (bs.map fun b => f b.2)
  | [], _ => .nil
  | b :: bs, h => .cons (h b List.mem_cons_self) (da_refs fun c hc => h c (List.mem_cons_of_mem _ hc))
theorem b_sortedDT (hcalm : X.calm = true) (hu : X.A.units + 64 < cLine) : CallR X (.builtin "sorted") rSortedDT := by
  intro pins s σ H vs us Q I r h
  obtain ⟨a, kvs, cs, rfl, ha, hks, hal, hsrt, hdp, q⟩ := h
  obtain ⟨u, rfl, ru⟩ := vals1 r
  obtain rfl : u = Value.ref a := ru
  obtain ⟨z, lo, xs, rel, dd⟩ := dt_of I.hok ha
  obtain ⟨es, ep, raw, hes, hkey⟩ := raw_of dd
  have hl : kvs.length = xs.length := Paired.length rel
  have hcl : cs.length = kvs.length := by have e := congrArg List.length hks; rw [List.length_map, List.length_map] at e; exact e.symm
  have hz : es.size ≤ sizeLine := by rw [hes, ← hl]; exact z
  -- the keys, each with its address
  have hat : ∀ (i : Nat) (x : List Key × Addr × Value) (c : List Int), xs[i]? = some x → cs[i]? = some c → H x.2.1 = some (.tup (c.map V.int)) := fun i x c hx hc => by
    obtain ⟨y, hy, e1, e2, _⟩ := L2.DX.pget rel hx
    have e3 : (kvs.map (·.1))[i]? = (cs.map fun c => c.map Sum.inl)[i]? := by rw [hks]
    rw [List.getElem?_map, List.getElem?_map, hy, hc] at e3
    have e4 : y.1 = c.map Sum.inl := Option.some.inj e3
    rw [e4, List.map_map] at e2
    exact e2
  refine Calls.call_function_entry PyProof.Rows.kind_sorted PyProof.Rows.plain_sorted PyProof.Rows.entry_sorted (PyProof.Rows.args_sorted1 _) ?_
  unfold Builtin.«sorted»
  refine wpAny_bind (m := checkCount "sorted" 1 1 _) (wpAny_pure ?_)
  refine wpAny_bind (PySem.W.kdu_collect (A := X.A.in1) (KdlSrc.rawDict lo) (I.ok.hd hcalm) raw hz fun h' tk acc hk hacc => ?_)
  have I1 : Inv X pins σ H { s with heap := h', toks := tk } := I.kept hk
  let bs : List (Addr × List Int) := (xs.map fun x => x.2.1).zip cs
  have hbl : bs.length = cs.length := by
    show ((xs.map fun x => x.2.1).zip cs).length = _
    rw [List.length_zip, List.length_map]; omega
  have hb2 : bs.map (fun b => b.2) = cs := List.map_snd_zip (by rw [List.length_map]; omega)
  have hbe : bs.map (fun b => intsD b.2) = cs.map intsD := by rw [← hb2, List.map_map]; rfl
  have hbat : ∀ b ∈ bs, H b.1 = some (.tup (b.2.map V.int)) := fun b hb => by
    obtain ⟨i, hi⟩ := List.mem_iff_getElem?.mp hb
    obtain ⟨h1, h2⟩ := List.getElem?_zip_eq_some.mp hi
    rw [List.getElem?_map] at h1
    cases e : xs[i]? with
    | none => rw [e] at h1; cases h1
    | some x =>
      rw [e] at h1
      have := Option.some.inj h1
      rw [← this]
      exact hat i x b.2 e h2
  have hbd : ∀ b ∈ bs, b.2 ∈ cs := fun b hb => by rw [← hb2]; exact List.mem_map.mpr ⟨b, hb, rfl⟩
  have hal' : acc.toList.length = bs.length := by rw [Array.length_toList, hacc.1, hbl]; omega
  have E1 : EachIs (fun u (b : Addr × List Int) => u = .ref b.1) acc.toList bs := each_idx hal' fun i u b hu hb => by
    obtain ⟨hi, hv⟩ := hacc.2 i u (by rw [← Array.getElem?_toList]; exact hu)
    obtain ⟨x, hx, hk2⟩ := hkey i hi
    obtain ⟨h1, h2⟩ := List.getElem?_zip_eq_some.mp hb
    rw [List.getElem?_map, hx] at h1
    rw [hv, hk2, ← Option.some.inj h1]
  have hpl : acc.toList.length ≤ sizeLine := by rw [hal', hbl, hcl]; exact z
  refine wpAny_bind (wpAny_newList ?_ hpl)
  have hoL : (h'.push (seqObj "list" acc.toList.toArray 0)).get? h'.objs.size = some (seqObj "list" acc.toList.toArray 0) := Heap.get?_push_size _ rfl
  have E2 : EachIs (fun v (b : Addr × List Int) => ∃ as, PySem.Reads (h'.push (seqObj "list" acc.toList.toArray 0)) v (intsD b.2) as ∧ h'.objs.size ∉ as) acc.toList bs := each_idx hal' fun i u b hu hb => by
    have hm := List.mem_of_getElem? hb
    obtain ⟨_, its, r, o, g1, g2, n, g3⟩ := (show ObjOk X.prog X.w H h' b.1 (.tup (b.2.map V.int)) from I1.hok b.1 _ (hbat b hm))
    have hu2 : u = .ref b.1 := by
      obtain ⟨hi, hv⟩ := hacc.2 i u (by rw [← Array.getElem?_toList]; exact hu)
      obtain ⟨x, hx, hk2⟩ := hkey i hi
      obtain ⟨h1, h2⟩ := List.getElem?_zip_eq_some.mp hb
      rw [List.getElem?_map, hx] at h1
      rw [hv, hk2, ← Option.some.inj h1]
    rw [hu2]
    exact ⟨[], .tuple (Heap.get?_push_of_some _ g1) g2 g3 (by simpa using reads_ints r), by simp⟩
  show wpAny _ _ _ _ _ { s with heap := h'.push (seqObj "list" acc.toList.toArray 0), toks := tk }
  refine wpAny_bind (wpAny_holding (list_sort_data (s := { s with heap := h'.push (seqObj "list" acc.toList.toArray 0), toks := tk }) (enc := fun b : Addr × List Int => intsD b.2) hoL E1 E2 (by rw [hbe]; exact hal) (by rw [hbe]; exact hsrt) (by rw [hbl, hcl]; exact z) (fun b hb => ?_) fun out ho eo => ?_))
  · have := (hdp b.2 (hbd b hb)).1
    show X.A.units + 1 + 1 + (intsD b.2).depth < cLine
    omega
  obtain ⟨e', he'⟩ := PyProof.Rows.sortedHeap_at (vs := acc.toList) (out := out.toArray) hoL
  have hys : DaL H ((bs.mergeSort (dataLe false fun b : Addr × List Int => intsD b.2)).map fun b => V.ref b.1) (srt (cs.map intsD)) := by
    rw [← hbe, ← srt_map (fun b : Addr × List Int => intsD b.2) bs]
    refine da_refs fun b hb => ?_
    have hm := (List.mergeSort_perm _ _).mem_iff.mp hb
    exact .tup (hbat b hm) (by rw [List.length_map]; exact (hdp b.2 (hbd b hm)).2) (DaL.ofInts b.2)
  have hlen : ((bs.mergeSort (dataLe false fun b : Addr × List Int => intsD b.2)).map fun b => V.ref b.1).length ≤ sizeLine := by
    rw [List.length_map, List.length_mergeSort, hbl, hcl]; exact z
  refine wpAny_pure ⟨_, rfl, .ref h'.objs.size, upd H h'.objs.size (.lst _), I1.laid (t' := tk) (fun b u e => ?_) (Nat.le_refl _)
    (show ObjOk X.prog X.w _ _ _ (.lst _) from ⟨hlen, out, e', each_refs eo, he'⟩), rfl, q _ _ (I1.hok.fresh (Nat.le_refl _)) hys⟩
  have hb : b < h'.objs.size := Heap.lt_size e
  rw [PyProof.Rows.sortedHeap_old (Nat.ne_of_lt hb) (by rw [size_push']; exact Nat.lt_succ_of_lt hb)]
  exact Heap.get?_push_of_some _ e
end
/-! ### the hashes of small pairs differ -/
def hp (a b : Int) : Int := reduceHash (Builtin.Tuple.tupleHashOf [hashInt a, hashInt b])
theorem pair_hash (P : Program) (w : World) (a b : Int) : (tupleKind (mixKind P w)).hash [.inl a, .inl b] = hp a b := by
  show reduceHash (Builtin.Tuple.tupleHashOf [keyH w (.inl a), keyH w (.inl b)]) = _
  unfold hp keyH
  rfl
theorem hp_nd : ((List.range 104).map fun i => hp ((i / 26 : Nat) : Int) ((i % 26 : Nat) : Int)).Nodup := by decide +kernel
theorem hp_inj {a b c d : Nat} (ha : a < 4) (hb : b < 26) (hc : c < 4) (hd : d < 26) (e : hp a b = hp c d) : a = c ∧ b = d := by
  have pw := List.pairwise_iff_getElem.mp hp_nd
  have key : ∀ i j : Nat, i < j → j < 104 → hp ((i / 26 : Nat) : Int) ((i % 26 : Nat) : Int) ≠ hp ((j / 26 : Nat) : Int) ((j % 26 : Nat) : Int) := fun i j hij hj => by
    have h := pw i j (by rw [List.length_map, List.length_range]; omega) (by rw [List.length_map, List.length_range]; omega) hij
    rw [List.getElem_map, List.getElem_map, List.getElem_range, List.getElem_range] at h
    exact h
  have e1 : (26 * a + b) / 26 = a := by omega
  have e2 : (26 * a + b) % 26 = b := by omega
  have e3 : (26 * c + d) / 26 = c := by omega
  have e4 : (26 * c + d) % 26 = d := by omega
  rcases Nat.lt_trichotomy (26 * a + b) (26 * c + d) with h | h | h
  · have := key _ _ h (by omega)
    rw [e1, e2, e3, e4] at this
    exact absurd e this
  · omega
  · have := key _ _ h (by omega)
    rw [e1, e2, e3, e4] at this
    exact absurd e.symm this
theorem map_keys {f : List Key → Int} {g : Int × Int → Int} (hf : ∀ c : Int × Int, f [Sum.inl c.1, Sum.inl c.2] = g c) : ∀ {kvs : List (List Key × V)} {cs : List (Int × Int)}, kvs.map (·.1) = cs.map (fun c => [Sum.inl c.1, Sum.inl c.2]) → (kvs.map fun e => f e.1) = cs.map g
  | [], [], _ => rfl
  | e :: kvs, c :: cs, h => by
    rw [List.map_cons, List.map_cons] at h
    injection h with h1 h2
    rw [List.map_cons, List.map_cons, map_keys hf h2, h1, hf]
  | [], _ :: _, h => by cases h
  | _ :: _, [], h => by cases h
/-- dict(d) where the keys are pairs of ints -/
def rDictC : List V → Hp → VK → Prop := fun vs H Q => ∃ (a : Addr) (kvs : List (List Key × V)) (cs : List (Int × Int)), vs = [.ref a] ∧ H a = some (.dT kvs) ∧ kvs.map (·.1) = cs.map (fun c => [Sum.inl c.1, Sum.inl c.2]) ∧ (cs.map fun c => hp c.1 c.2).Nodup ∧ ∀ p, H p = none → Q (.ref p) (upd H p (.dT kvs))
theorem b_dictC {X : Cx} (hu : X.A.units + 8 < cLine) : CallR X (.type "dict") rDictC := by
  intro pins s σ H vs us Q I r h
  obtain ⟨a, kvs, cs, rfl, ha, hk, hh, q⟩ := h
  refine b_dictT hu pins s σ H _ us Q I r ⟨a, kvs, rfl, ha, ?_, q⟩
  have e := map_keys (f := (tupleKind (mixKind X.prog X.w)).hash) (g := fun c => hp c.1 c.2) (fun c => pair_hash _ _ c.1 c.2) hk
  rw [e]; exact hh
theorem g_dictC {H : Hp} {Q : VK} {a : Addr} {kvs : List (List Key × V)} (cs : List (Int × Int)) (h : H a = some (.dT kvs)) (hk : kvs.map (·.1) = cs.map (fun c => [Sum.inl c.1, Sum.inl c.2])) (hn : (cs.map fun c => hp c.1 c.2).Nodup) (q : ∀ p H', H p = none → Fr [] H H' → H' p = some (.dT kvs) → Q (.ref p) H') : rDictC [.ref a] H Q :=
  ⟨a, kvs, cs, rfl, h, hk, hn, fun p e => q p _ e (Fr.new e) upd_same⟩
theorem g_sortedDT {H : Hp} {Q : VK} {a : Addr} {kvs : List (List Key × V)} (cs : List (List Int)) (h : H a = some (.dT kvs)) (hk : kvs.map (·.1) = cs.map (fun c => c.map Sum.inl)) (ha : AllAlike (cs.map intsD)) (hs : Sortable (cs.map intsD)) (hd : ∀ c ∈ cs, (intsD c).depth ≤ 60 ∧ c.length ≤ 1000000)
    (q : ∀ p H' ys, H p = none → Fr [] H H' → H' p = some (.lst ys) → DaL H' ys (srt (cs.map intsD)) → Q (.ref p) H') : rSortedDT [.ref a] H Q :=
  ⟨a, kvs, cs, rfl, h, hk, ha, hs, hd, fun p ys e d => q p _ ys e (Fr.new e) upd_same (DaL.frL (Fr.new e) d (immL_of fun d hd => by
    obtain ⟨c, _, rfl⟩ := List.mem_map.mp ((srt_perm _).mem_iff.mp hd)
    exact immL_of fun d hd => by obtain ⟨n, _, rfl⟩ := List.mem_map.mp hd; rfl))⟩
theorem g_popT {H : Hp} {Q : VK} {a b : Addr} {kvs : List (List Key × V)} {k : List Key} {d : V} (h : H a = some (.dT kvs)) (hb : H b = some (.tup (k.map kV))) (q1 : ∀ v H', valV kvs k = some v → Fr [a] H H' → H' a = some (.dT (dropK kvs k)) → Q v H') (q2 : valV kvs k = none → Q d H) : L2.DX.rPopT (.ref a) [.ref b, d] H Q :=
  ⟨a, kvs, k, b, d, rfl, rfl, h, hb, fun v e => q1 v _ e (Fr.put h trivial) upd_same, q2⟩
theorem g_popT1 {H : Hp} {Q : VK} {a b : Addr} {kvs : List (List Key × V)} {k : List Key} {v : V} (h : H a = some (.dT kvs)) (hb : H b = some (.tup (k.map kV))) (hv : valV kvs k = some v) (q : ∀ H', Fr [a] H H' → H' a = some (.dT (dropK kvs k)) → Q v H') : rPopT1 (.ref a) [.ref b] H Q :=
  ⟨a, b, kvs, k, v, rfl, rfl, h, hb, hv, q _ (Fr.put h trivial) upd_same⟩
/-- a place that was changed and is as it was -/
theorem Fr.back {p : Addr} {u : HO} {H H' : Hp} (f : Fr [p] H H') (h : H p = some u) (h' : H' p = some u) : Fr [] H H' := ⟨fun a o e _ => by
  by_cases q : a = p
  · subst q; rw [h] at e; cases e; exact h'
  · exact f.at e (nin1 q nin0), f.tup⟩
/-- d[k] -= x -/
def rDA (a : Addr) (y : V) (v : V) (tv : TE) (rd : V → V → Hp → VK → Prop) (σ : L2.St) (H : Hp) (P : Hp → Prop) : Prop := tv σ H fun y2 H3 => rd v y2 H3 fun z H4 => ∃ H5, DPut H4 a y z H5 ∧ P H5
def rDA0 (x y : V) (tv : TE) (rd : V → V → Hp → VK → Prop) (σ : L2.St) (H : Hp) (P : Hp → Prop) : Prop := ∃ a v, x = .ref a ∧ DGet H a y (some v) ∧ rDA a y v tv rd σ H P
theorem g_daug {td ty tv : TE} {rd : V → V → Hp → VK → Prop} {D : Ends} {σ : L2.St} {H : Hp} (h : td σ H fun x H1 => ty σ H1 fun y H2 => rDA0 x y tv rd σ H2 fun H5 => D.nx σ H5) : sDAug td ty tv rd D σ H := h
theorem g_rda0 {a b : Addr} {kvs : List (List Key × V)} {k : List Key} {v : V} {tv : TE} {rd : V → V → Hp → VK → Prop} {σ : L2.St} {H : Hp} {P : Hp → Prop} (h : H a = some (.dT kvs)) (hb : H b = some (.tup (k.map kV))) (hv : valV kvs k = some v) (q : rDA a (.ref b) v tv rd σ H P) : rDA0 (.ref a) (.ref b) tv rd σ H P :=
  ⟨a, v, rfl, .inr ⟨kvs, k, b, .inl h, rfl, hb, hv.symm⟩, q⟩
theorem g_rdput {a b : Addr} {kvs : List (List Key × V)} {k : List Key} {v : V} {H : Hp} {P : Hp → Prop} (h : H a = some (.dT kvs)) (e : H b = some (.tup (k.map kV))) (hl : kvs.length < sizeLine) (c : ∀ H', Fr [a] H H' → H' a = some (.dT (putK kvs k v)) → P H') : ∃ H5, DPut H a (.ref b) v H5 ∧ P H5 :=
  ⟨_, .inr ⟨kvs, k, b, h, rfl, e, hl, rfl⟩, c _ (Fr.put h trivial) upd_same⟩
theorem un1 {u c : Nat} (h : u + 64 < c) : u + 1 < c := by omega
theorem un8 {u c : Nat} (h : u + 64 < c) : u + 8 < c := by omega
end Lw

namespace Lw
open PySem L2
/-! ### lists of data that does not change -/
def LsAt (H : Hp) (a : Addr) (ds : List PyData) : Prop := immL ds = true ∧ ∃ vs, H a = some (.lst vs) ∧ DaL H vs ds
theorem LsAt.fr {l : List Addr} {H H' : Hp} {a : Addr} {ds : List PyData} (h : LsAt H a ds) (f : Fr l H H') (n : a ∉ l) : LsAt H' a ds := by
  obtain ⟨i, vs, e, d⟩ := h
  exact ⟨i, vs, f.at e n, DaL.frL f d i⟩
theorem LsAt.of {H : Hp} {a : Addr} {vs : List V} {ds : List PyData} (e : H a = some (.lst vs)) (d : DaL H vs ds) (i : immL ds = true) : LsAt H a ds := ⟨i, vs, e, d⟩
theorem LsAt.nil {H : Hp} {a : Addr} (e : H a = some (.lst [])) : LsAt H a [] := ⟨rfl, [], e, .nil⟩
theorem LsAt.da {H : Hp} {a : Addr} {ds : List PyData} (h : LsAt H a ds) (hl : ds.length ≤ 1000000) : Da H (.ref a) (.list ds) := by
  obtain ⟨i, vs, e, d⟩ := h
  exact .lst e (by rw [d.len]; exact hl) d
/-- behind an append -/
theorem LsAt.snoc {H H' : Hp} {a : Addr} {vs : List V} {ds : List PyData} {v : V} {d : PyData} (r : DaL H vs ds) (i : immL ds = true) (dv : Da H v d) (id : imm d = true) (f : Fr [a] H H') (e : H' a = some (.lst (vs ++ [v]))) : LsAt H' a (ds ++ [d]) := by
  refine ⟨by rw [immL_append, i]; simp [immL, id], _, e, ?_⟩
  exact (DaL.frL f r i).append (.one' (Da.frL f dv id))
theorem immL_map {α : Type} {f : α → PyData} (h : ∀ x, imm (f x) = true) (l : List α) : immL (l.map f) = true := immL_of fun d hd => by obtain ⟨x, _, rfl⟩ := List.mem_map.mp hd; exact h x
/-! ### dicts from ints to data that does not change -/
abbrev DkR (H : Hp) : List (Key × V) → List (Int × PyData) → Prop := Paired fun p e => p.1 = Sum.inl e.1 ∧ Da H p.2 e.2 ∧ imm e.2 = true
def DkAt (H : Hp) (a : Addr) (m : List (Int × PyData)) : Prop := ∃ kvs, H a = some (.dK kvs) ∧ DkR H kvs m
theorem DkR.fr {l : List Addr} {H H' : Hp} {kvs : List (Key × V)} {m : List (Int × PyData)} (r : DkR H kvs m) (f : Fr l H H') : DkR H' kvs m := Paired.mapP r fun p q z => ⟨z.1, Da.frL f z.2.1 z.2.2, z.2.2⟩
theorem DkAt.fr {l : List Addr} {H H' : Hp} {a : Addr} {m : List (Int × PyData)} (h : DkAt H a m) (f : Fr l H H') (n : a ∉ l) : DkAt H' a m := by
  obtain ⟨kvs, e, r⟩ := h
  exact ⟨kvs, f.at e n, r.fr f⟩
theorem DkAt.nil {H : Hp} {a : Addr} (e : H a = some (.dK [])) : DkAt H a [] := ⟨[], e, .nil⟩
theorem DkR.len {H : Hp} {kvs : List (Key × V)} {m : List (Int × PyData)} (r : DkR H kvs m) : kvs.length = m.length := Paired.length r
theorem DkR.val {H : Hp} {kvs : List (Key × V)} {m : List (Int × PyData)} (r : DkR H kvs m) (k : Int) : (lk m k = none → valV kvs (.inl k) = none) ∧ ∀ d, lk m k = some d → ∃ v, valV kvs (.inl k) = some v ∧ Da H v d ∧ imm d = true := by
  induction r with
  | nil => exact ⟨fun _ => rfl, fun d h => by cases h⟩
  | @cons p q ps qs h t ih =>
    obtain ⟨h1, h2, h3⟩ := h
    by_cases e : q.1 = k
    · have c : lk (q :: qs) k = some q.2 := by simp [lk, List.find?_cons, e]
      rw [c, valV_pos (by rw [h1, e])]
      exact ⟨fun z => (by cases z), fun d z => (by cases z; exact ⟨_, rfl, h2, h3⟩)⟩
    · have c : lk (q :: qs) k = lk qs k := by simp [lk, List.find?_cons, e]
      rw [c, valV_neg (fun z => e (by rw [h1] at z; exact Sum.inl.inj z))]
      exact ih
theorem DkR.isS {H : Hp} {kvs : List (Key × V)} {m : List (Int × PyData)} (r : DkR H kvs m) (k : Int) : (valV kvs (.inl k)).isSome = (lk m k).isSome := by
  obtain ⟨h1, h2⟩ := r.val k
  cases e : lk m k with
  | none => rw [h1 e]; rfl
  | some d => obtain ⟨v, hv, _⟩ := h2 d e; rw [hv]; rfl
theorem lk_any2 {κ α : Type} [DecidableEq κ] (m : List (κ × α)) (k : κ) : (m.any fun e => decide (e.1 = k)) = (lk m k).isSome := by
  induction m with
  | nil => rfl
  | cons e r ih =>
    by_cases h : e.1 = k
    · simp [lk, List.find?_cons, h]
    · have c : lk (e :: r) k = lk r k := by simp [lk, List.find?_cons, h]
      rw [c, ← ih]; simp [h]
theorem DkR.put {H : Hp} {kvs : List (Key × V)} {m : List (Int × PyData)} (r : DkR H kvs m) (k : Int) {v : V} {d : PyData} (dv : Da H v d) (id : imm d = true) : DkR H (putK kvs (.inl k) v) (pt m k d) := by
  have e : (kvs.any fun kv => decide (kv.1 = Sum.inl k)) = (m.any fun e => decide (e.1 = k)) := by rw [valV_any, r.isS, lk_any2]
  unfold putK pt
  rw [e]
  by_cases q : (m.any fun e => decide (e.1 = k)) = true
  · rw [if_pos q, if_pos q]
    clear q e
    induction r with
    | nil => exact .nil
    | @cons p q ps qs h t ih =>
      rw [List.map_cons, List.map_cons]
      refine .cons ?_ ih
      obtain ⟨h1, h2, h3⟩ := h
      by_cases e : q.1 = k
      · rw [if_pos (by rw [h1, e]), if_pos e]; exact ⟨h1, dv, id⟩
      · rw [if_neg (fun z => e (by rw [h1] at z; exact Sum.inl.inj z)), if_neg e]; exact ⟨h1, h2, h3⟩
  · rw [if_neg q, if_neg q]; exact Paired.snoc r ⟨rfl, dv, id⟩
theorem DkR.drop {H : Hp} {kvs : List (Key × V)} {m : List (Int × PyData)} (r : DkR H kvs m) (k : Int) : DkR H (dropK kvs (.inl k)) (dr m k) := by
  unfold dropK dr
  induction r with
  | nil => exact .nil
  | @cons p q ps qs h t ih =>
    obtain ⟨h1, h2, h3⟩ := h
    by_cases e : q.1 = k
    · have a : decide (p.1 ≠ (Sum.inl k : Key)) = false := by rw [h1, e]; simp
      have b : decide (q.1 ≠ k) = false := by simp [e]
      simp only [List.filter_cons, a, b]; exact ih
    · have a : decide (p.1 ≠ (Sum.inl k : Key)) = true := by rw [h1]; exact decide_eq_true fun z => e (Sum.inl.inj z)
      have b : decide (q.1 ≠ k) = true := decide_eq_true e
      simp only [List.filter_cons, a, b]; exact .cons ⟨h1, h2, h3⟩ ih
theorem DkR.get {H : Hp} {kvs : List (Key × V)} {m : List (Int × PyData)} (r : DkR H kvs m) : ∀ {i : Nat} {k : Key} {v : V}, kvs[i]? = some (k, v) → ∃ e, m[i]? = some e ∧ k = Sum.inl e.1 ∧ Da H v e.2 := by
  induction r with
  | nil => intro i k v h; simp at h
  | @cons p q ps qs h t ih =>
    intro i k v hi
    cases i with
    | zero => simp at hi; subst hi; exact ⟨q, rfl, h.1, h.2.1⟩
    | succ i => obtain ⟨e, h1, h2⟩ := ih (i := i) (by simpa using hi); exact ⟨e, by simpa using h1, h2⟩
/-! ### readings of dicts whose keys are ints and texts -/
section
variable {K : PySem.W.Frag} {σ : L2.St} {H H' : Hp} {Q : VK} {D : Ends} {td ty te tv tx : TE} {tt : TT} {tb t : TS} {g : TG} {a b d q : Addr} {o : Obj} {kvs : List (Key × V)} {k : Key} {v x y z : V} {vs : List Nat} {R : It → Hp → Prop} {as : TA}
theorem g_rdgK (k : Key) (h : Rd H a (.dK kvs)) (l : valV kvs k = some v) (c : Q v H) : rDG (.ref a) (kV k) H Q := ⟨a, v, rfl, .inl ⟨kvs, k, h, rfl, l.symm⟩, c⟩
theorem g_rdgI {i : Int} (h : Rd H a (.dK kvs)) (l : valV kvs (.inl i) = some v) (c : Q v H) : rDG (.ref a) (.int i) H Q := g_rdgK (.inl i) h l c
theorem g_rdgS {s : Str} (h : Rd H a (.dK kvs)) (l : valV kvs (.inr s) = some v) (c : Q v H) : rDG (.ref a) (.str s) H Q := g_rdgK (.inr s) h l c
theorem g_rdiI {i : Int} (h : Rd H a (.dK kvs)) (c : Q (.bl (valV kvs (.inl i)).isSome) H) : rDI (.int i) (.ref a) H Q := ⟨a, _, rfl, .inl ⟨kvs, .inl i, h, rfl, rfl⟩, c⟩
theorem g_rdniI {i : Int} (h : Rd H a (.dK kvs)) (c : Q (.bl (!(valV kvs (.inl i)).isSome)) H) : rDNI (.int i) (.ref a) H Q := ⟨a, _, rfl, .inl ⟨kvs, .inl i, h, rfl, rfl⟩, c⟩
theorem g_rdpI {i : Int} {P : Hp → Prop} (h : H a = some (.dK kvs)) (hl : kvs.length < sizeLine) (c : ∀ H', Fr [a] H H' → H' a = some (.dK (putK kvs (.inl i) v)) → P H') : rDP (.ref a) (.int i) v H P :=
  ⟨a, _, rfl, .inl ⟨kvs, .inl i, h, rfl, hl, rfl⟩, c _ (Fr.put h trivial) upd_same⟩
theorem g_rdpS {s : Str} {gs : List (Key × V)} {P : Hp → Prop} (h : H a = some (.dK kvs)) (hl : kvs.length < sizeLine) (e : putK kvs (.inr s) v = gs) (c : ∀ H', Fr [a] H H' → H' a = some (.dK gs) → P H') : rDP (.ref a) (.str s) v H P :=
  ⟨a, _, rfl, .inl ⟨kvs, .inr s, h, rfl, hl, rfl⟩, c _ (Fr.put h trivial) (by rw [e]; exact upd_same)⟩
theorem g_rdg2K {P : Addr → Prop} (h : Rd H a (.dK kvs)) (c : P a) : rDG2 (.ref a) H P := ⟨a, rfl, .inl ⟨kvs, h⟩, c⟩
theorem g_dgoI {i : Int} (h : Rd H a (.dK kvs)) (c : Q ((valV kvs (.inl i)).getD z) H) : rDO a (.int i) z H Q := ⟨_, .inl ⟨kvs, .inl i, h, rfl, rfl⟩, c⟩
theorem g_rkk (h : H d = some (.frz o (.dK kvs))) (c : R (Itk d o kvs) H) : rKy (.ref d) H R := ⟨d, o, rfl, .inl ⟨kvs, h, c⟩⟩
theorem f_keysK (Pv : Nat → L2.St → Hp → Prop) (h0 : Pv 0 σ H) (hl : ∀ i σ H, i ≤ kvs.length → Pv i σ H → H d = some (.frz o (.dK kvs)))
    (hs : ∀ i k v σ H, kvs[i]? = some (k, v) → Pv i σ H → g (kV k) σ H fun σ2 H2 => tb { D with nx := Pv (i + 1), ct := Pv (i + 1), bk := D.nx } σ2 H2) (hd : ∀ σ H, Pv kvs.length σ H → D.nx σ H) : ForGo (Itk d o kvs) g tb D σ H :=
  for_it walk_keys Pv h0 hl (fun i x σ H H' hi p y => by obtain ⟨rfl, k, v, h1, rfl⟩ := y; exact hs i k v σ _ h1 p) hd
theorem l_keysK (c : ∀ Dl H0, H Dl = none → Fr [] H H0 → H0 Dl = some (.lst []) → ∃ Pv : Nat → List V → Hp → Prop, Pv 0 [] H0 ∧ (∀ i acc H', Pv i acc H' → H' d = some (.frz o (.dK kvs))) ∧
    (∀ i k v acc H', kvs[i]? = some (k, v) → H' Dl = some (.lst acc) → Pv i acc H' → lcStep g tt te vs σ Dl Pv i (kV k) H') ∧ (∀ acc H', H' Dl = some (.lst acc) → Pv kvs.length acc H' → Q (.ref Dl) H')) : LcGo (Itk d o kvs) g tt te vs σ Q H := by
  intro Dl hD
  obtain ⟨Pv, p0, pl, ps, pd⟩ := c Dl _ hD (Fr.new hD) upd_same
  exact lc_it walk_keys (fun i H' => ∃ acc, H' Dl = some (.lst acc) ∧ Pv i acc H') ⟨[], upd_same, p0⟩ (fun i H' _ ⟨acc, _, p⟩ => pl i acc H' p) (fun i x H1 H' hi ⟨acc, hd, p⟩ y => by obtain ⟨rfl, k, v, h1, rfl⟩ := y; exact ps i k v acc _ h1 hd p) (fun H' ⟨acc, hd, p⟩ => pd acc H' hd p)
def rPopI (a : Addr) (y : V) (H : Hp) (Q : VK) : Prop := ∃ kvs k v, H a = some (.dK kvs) ∧ y = kV k ∧ valV kvs k = some v ∧ Q v (upd H a (.dK (dropK kvs k)))
theorem g_dpop1 (h : td σ H fun x H1 => rDG2 x H1 fun a => ty σ H1 fun y H2 => rPopI a y H2 Q) : tDPop1 td ty σ H Q := h
theorem g_rpopI {i : Int} (h : H a = some (.dK kvs)) (l : valV kvs (.inl i) = some v) (c : ∀ H', Fr [a] H H' → H' a = some (.dK (dropK kvs (.inl i))) → Q v H') : rPopI a (.int i) H Q := ⟨kvs, .inl i, v, h, rfl, l, c _ (Fr.put h trivial) upd_same⟩
theorem g_unlK {u : HO} (h : H d = some (.frz o u)) {P : Hp → Prop} (c : ∀ H', Fr [d] H H' → H' d = some u → P H') : rUl d o u H P := g_unl h c
end
/-- len of a dict -/
def rLenD : List V → Hp → VK → Prop := fun xs H Q => ∃ a kvs, xs = [V.ref a] ∧ H a = some (.dK kvs) ∧ Q (.int kvs.length) H
theorem b_lenD {X : Cx} : CallR X (.builtin "len") rLenD := call_lenD
theorem g_lenDK {H : Hp} {Q : VK} {a : Addr} {kvs : List (Key × V)} (h : H a = some (.dK kvs)) (q : Q (.int kvs.length) H) : rLenD [.ref a] H Q := ⟨a, kvs, rfl, h, q⟩
/-! displays -/
section
variable {σ : L2.St} {H : Hp} {Q : VK} {trs : List (TE × TE)} {tk tv : TE}
def rDs (p : Addr) (ps : List (V × V)) (H2 : Hp) (Q : VK) : Prop := H2 p = some (.dK []) ∧ ∃ kvs : List (Key × V), ps = kvs.map (fun kv => (kV kv.1, kv.2)) ∧ kvs.length ≤ 15 ∧ Q (.ref p) (upd H2 p (.dK (mergeK [] kvs)))
theorem g_disp (h : ∀ p H0, H p = none → Fr [] H H0 → H0 p = some (.dK []) → tPairs trs σ H0 fun ps H2 => rDs p ps H2 Q) : tDisp trs σ H Q := fun p hp => h p _ hp (Fr.new hp) upd_same
theorem g_pcons {QP : List (V × V) → Hp → Prop} {r : List (TE × TE)} (h : tk σ H fun x H1 => tv σ H1 fun y H2 => tPairs r σ H2 fun ps H3 => QP ((x, y) :: ps) H3) : tPairs ((tk, tv) :: r) σ H QP := h
theorem g_pnil {QP : List (V × V) → Hp → Prop} (h : QP [] H) : tPairs [] σ H QP := h
theorem g_rds {p : Addr} {ps : List (V × V)} (kvs : List (Key × V)) (h : H p = some (.dK [])) (e : ps = kvs.map (fun kv => (kV kv.1, kv.2))) (hl : kvs.length ≤ 15) (m : mergeK [] kvs = kvs) (q : ∀ H3, Fr [p] H H3 → H3 p = some (.dK kvs) → Q (.ref p) H3) : rDs p ps H Q :=
  ⟨h, kvs, e, hl, q _ (Fr.put h trivial) (by rw [m]; exact upd_same)⟩
end
/-! ### zip -/
section
variable {K : PySem.W.Frag} {σ : L2.St} {H H' : Hp} {D : Ends} {tb : TS} {g : TG} {a b : Addr} {R : It → Hp → Prop} {as : TA}
def rZA (K : PySem.W.Frag) (vs : List V) (H : Hp) (R : It → Hp → Prop) : Prop := ∃ a b xs ys, vs = [.ref a, .ref b] ∧ ((SqL K H a xs ∧ SqL K H b ys ∧ R (Itz K a b) H) ∨ (SqT K H a xs ∧ SqT K H b ys ∧ R (RZ.ItzT K a b) H))
theorem g_iZA (h : as σ H fun vs H1 => rZA K vs H1 R) : RZ.iZipA K as σ H R := h
theorem g_rzaT {xs ys : List V} (h : SqT K H a xs) (h2 : SqT K H b ys) (c : R (RZ.ItzT K a b) H) : rZA K [.ref a, .ref b] H R := ⟨a, b, xs, ys, rfl, .inr ⟨h, h2, c⟩⟩
theorem g_rzaL {xs ys : List V} (h : SqL K H a xs) (h2 : SqL K H b ys) (c : R (Itz K a b) H) : rZA K [.ref a, .ref b] H R := ⟨a, b, xs, ys, rfl, .inl ⟨h, h2, c⟩⟩
theorem f_zipT {xs ys : List V} (hl : xs.length = ys.length) (Pv : Nat → L2.St → Hp → Prop) (h0 : Pv 0 σ H) (hq : ∀ i σ H, Pv i σ H → SqT K H a xs ∧ SqT K H b ys)
    (hs : ∀ i x y T σ H H', xs[i]? = some x → ys[i]? = some y → Pv i σ H → H T = none → Fr [] H H' → H' T = some (.tup [x, y]) → g (.ref T) σ H' fun σ2 H2 => tb { D with nx := Pv (i + 1), ct := Pv (i + 1), bk := D.nx } σ2 H2) (hd : ∀ σ H, Pv xs.length σ H → D.nx σ H) : ForGo (RZ.ItzT K a b) g tb D σ H :=
  RZ.for_zipT hl Pv h0 hq (fun i x y T σ H h1 h2 p hT => hs i x y T σ H _ h1 h2 p hT (Fr.new hT) upd_same) hd
end
/-! ### what one owns -/
def AL (H : Hp) (l : List Addr) : Prop := l.Nodup ∧ ∀ a ∈ l, ∃ o, H a = some o
theorem AL.fr0 {H H' : Hp} {l : List Addr} (s : AL H l) (f : Fr [] H H') : AL H' l := ⟨s.1, fun a h => by obtain ⟨o, e⟩ := s.2 a h; exact ⟨o, f.at0 e⟩⟩
theorem AL.new {H H' : Hp} {l : List Addr} {p : Addr} {o : HO} (s : AL H l) (f : Fr [] H H') (n : H p = none) (e : H' p = some o) : AL H' (p :: l) :=
  ⟨List.nodup_cons.mpr ⟨fun q => by (obtain ⟨o, e⟩ := s.2 p q; rw [n] at e; cases e), s.1⟩, fun a h => (List.mem_cons.mp h).elim (fun q => q ▸ ⟨o, e⟩) ((s.fr0 f).2 a)⟩
theorem AL.nin {H : Hp} {l : List Addr} {p : Addr} (s : AL H l) (n : H p = none) : p ∉ l := fun q => by obtain ⟨o, e⟩ := s.2 p q; rw [n] at e; cases e
/-- one part has changed, and may have taken new places -/
theorem AL.part {H H' : Hp} {os os' rest : List Addr} (s : AL H (os ++ rest)) (f : Fr os H H') (s' : AL H' os') (n : ∀ a ∈ os', a ∈ os ∨ H a = none) : AL H' (os' ++ rest) := by
  obtain ⟨n0, al⟩ := s
  have n1 := List.nodup_append.mp n0
  refine ⟨List.nodup_append.mpr ⟨s'.1, n1.2.1, fun a ha b hb e => ?_⟩, fun a ha => ?_⟩
  · subst e
    rcases n a ha with h | h
    · exact n1.2.2 a h a hb rfl
    · obtain ⟨o, e⟩ := al a (List.mem_append_right _ hb); rw [h] at e; cases e
  · rcases List.mem_append.mp ha with h | h
    · exact s'.2 a h
    · obtain ⟨o, e⟩ := al a (List.mem_append_right _ h)
      exact ⟨o, f.at e fun q => n1.2.2 a q a h rfl⟩
theorem AL.perm {H : Hp} {l m : List Addr} (s : AL H l) (p : l.Perm m) : AL H m := ⟨p.nodup_iff.mp s.1, fun a h => s.2 a (p.mem_iff.mpr h)⟩
theorem AL.apart {H : Hp} {os rest : List Addr} (s : AL H (os ++ rest)) {a : Addr} (h : a ∈ rest) : a ∉ os := fun q => (List.nodup_append.mp s.1).2.2 a q a h rfl
theorem AL.left {H : Hp} {os rest : List Addr} (s : AL H (os ++ rest)) : AL H os := ⟨(List.nodup_append.mp s.1).1, fun a h => s.2 a (List.mem_append_left _ h)⟩
theorem AL.right {H : Hp} {os rest : List Addr} (s : AL H (os ++ rest)) : AL H rest := ⟨(List.nodup_append.mp s.1).2.1, fun a h => s.2 a (List.mem_append_right _ h)⟩
end Lw

namespace Lw
open PySem PySem.Spec PyProof.Rows L2
/-! ### enumerate(tuple) -/
set_option maxHeartbeats 4000000 in
theorem meets_enumT {v : Value} {o : Obj} {H : Heap → Prop} (B : Begins v o H) :
    Meets (Builtin.«enumerate.__new__» ⟨[.type "enumerate", v], []⟩) (fun _ R s => H s.heap ∧
      R (.ok (.ret (.ref (s.heap.push o).objs.size))) { s with heap := (s.heap.push o).push { cls := .type "enumerate", data := .fields #[.none, .bool false, .ref s.heap.objs.size, rawInt 0, .none, .none] } }) :=
  .of_wp fun prog w A R s h => by
    obtain ⟨hp, g, d, tk, os⟩ := s; obtain ⟨h1, h⟩ := h
    have hsub := sub_enumerate
    have q1 : ∀ {A' : Around} {E : Value → Shared → Prop} {Q : Value → Shared → Prop}, Q (.ref hp.objs.size) ⟨hp.push o, g, d, tk, os⟩ → wpAny (model prog w) A' (pyIter v) Q E ⟨hp, g, d, tk, os⟩ :=
      fun q => B.iter prog w _ _ ⟨hp, g, d, tk, os⟩ _ h1 q
    wp_walk using q1
    refine wpAny_stack_any fun st => wpAny_pure ?_
    split
    · rename_i c _ _ _ _ _
      cases (c == Value.type "enumerate")
      · wp_walk using q1
        exact ⟨_, rfl, h⟩
      · wp_walk using q1
        exact ⟨_, rfl, h⟩
    · wp_walk using q1
      exact ⟨_, rfl, h⟩
theorem enum_begins1 {prog : Program} {w : World} {A : Around} {E : Value → Shared → Prop} {s : Shared} {v : Value} {o : Obj} {H : Heap → Prop} {Q : Value → Shared → Prop} (B : Begins v o H) (h1 : H s.heap)
    (h : ∀ h', IsEnum h' (s.heap.objs.size + 1) s.heap.objs.size 0 .none → h'.get? s.heap.objs.size = some o → h'.objs.size = s.heap.objs.size + 2 →
      (∀ b o, s.heap.get? b = some o → h'.get? b = some o) → Q (.ref (s.heap.objs.size + 1)) { s with heap := h' }) :
    wpAny (model prog w) A (call (.type "enumerate") [v]) Q E s := by
  refine callType_new F.called_enumerate (by decide) (F.typeCall_enumerate_1 _) (F.newCall_enumerate_1 _) (fun obj => F.args_object_init_2 obj _) F.entry_enumerate_new
    (meets_enumT B) ⟨h1, ?_⟩
  have hz : (s.heap.push o).objs.size = s.heap.objs.size + 1 := Heap.size_push ..
  show _ ∧ _
  rw [hz]
  have he : IsEnum ((s.heap.push o).push { cls := .type "enumerate", data := .fields #[.none, .bool false, .ref s.heap.objs.size, rawInt 0, .none, .none] }) (s.heap.objs.size + 1) s.heap.objs.size 0 .none := by
    have := Heap.get?_push_size (s.heap.push o) (o := { cls := .type "enumerate", data := .fields #[.none, .bool false, .ref s.heap.objs.size, rawInt 0, .none, .none] }) rfl
    rw [hz] at this; exact this
  refine ⟨⟨_, he, rfl⟩, h _ he (Heap.get?_push_of_some _ (Heap.get?_push_size _ B.free)) (by rw [Heap.size_push, hz]) fun b o x => Heap.get?_push_of_some _ (Heap.get?_push_of_some _ x)⟩
/-- the tuple at a as it stands at each turn, each item in a new pair -/
def IteT (K : PySem.W.Frag) (a : Addr) : It :=
  ⟨fun i H => ∃ (xs : List V) (x : V), SqT K H a xs ∧ xs[i]? = some x, fun i H v H' => ∃ T x, v = .ref T ∧ H T = none ∧ H' = upd H T (.tup [.int (i : Nat), x]) ∧ ∀ xs, SqT K H a xs → xs[i]? = some x, fun i H => ∃ xs : List V, SqT K H a xs ∧ xs.length ≤ i⟩
theorem turn_enumT {P : Program} {w : World} {K : PySem.W.Frag} {elts : List Expr} {kk : Nat} {tpos : Pos} (a e it : Addr) :
    Turn P w K (.Tuple elts kk tpos) (IteT K a) [e, it] e (fun i h => (∃ old, IsEnum h e it ((i : Nat) : Int) old) ∧ h.IsTupleIter it a i ∧ e ≠ it) where
  mem := by simp
  obj := fun i h st b hb => by
    obtain ⟨⟨old, he⟩, ⟨o, ho, hc, hd⟩, _⟩ := st
    have e' : b = e ∨ b = it := by simpa using hb
    rcases e' with z | z
    · rw [z]; exact ⟨_, he, fun v q => nomatch q⟩
    · rw [z]; exact ⟨o, ho, fun v q => by rw [hd] at q; cases q⟩
  keep := fun i h h' st k => let ⟨⟨old, he⟩, hi, hne⟩ := st; ⟨⟨old, k e (by simp) _ he⟩, hi.at fun o q => k it (by simp) o q, hne⟩
  item := by
    intro X hP hw hK hc i pins s σ H E I hf st hg
    subst hP hw hK
    obtain ⟨⟨old, he⟩, hit, hne⟩ := st
    obtain ⟨xs, x, hq, hx⟩ := hg
    obtain ⟨its, rv, p, hz⟩ := I.tuple hq
    obtain ⟨u, hu, ru⟩ := rv.get hx
    have hel : e < s.heap.objs.size := Heap.lt_size he
    have hil : it < s.heap.objs.size := by obtain ⟨_, q, _⟩ := hit; exact Heap.lt_size q
    have hai : a ≠ it := fun z => by
      obtain ⟨o, h1, h2, n, h3⟩ := p
      obtain ⟨o', g1, g2, g3⟩ := hit
      rw [z] at h1; rw [h1] at g1; cases g1; rw [h3] at g3; cases g3
    have hae : a ≠ e := fun z => by
      obtain ⟨o, h1, h2, n, h3⟩ := p
      rw [z] at h1; cases Option.some.inj (h1.symm.trans he); cases h3
    have D := Draws.tuple (prog := X.prog) (w := X.w) (A := X.A.in1) (I.ok.hd hc) it a hai its.toArray
    have hi : i < its.toArray.size := by
      have := (List.getElem?_eq_some_iff.mp hu).1
      simpa using this
    refine wpAny_pyNext_enum_itemD D he ⟨hit, p⟩ hi hne (by simp [hne, Ne.symm hae]) fun y h' tk hy ho hst' hT hsz hk => ?_
    have hyu : y = u := by
      have hu' : its.toArray[i]? = some u := by simpa using hu
      rw [hu'] at hy; exact (Option.some.inj hy).symm
    subst hyu
    refine ⟨_, rfl, wpAny_letOwnedTupleGo_enum (s := { s with heap := h', toks := tk + 1 }) ho fun h'' he' sb => ?_⟩
    have hT2 : h''.get? s.heap.objs.size = some { cls := .type "tuple", data := .seq #[.int i tk, y] } := (sb.2 _ (Nat.ne_of_gt hel)).trans hT
    have new : ObjOk X.prog X.w (upd H s.heap.objs.size (.tup [.int (i : Nat), x])) h'' s.heap.objs.size (.tup [.int (i : Nat), x]) :=
      ⟨by show 2 ≤ sizeLine; decide, [.int i tk, y], .cons ⟨_, rfl⟩ (.cons ru .nil), ⟨_, hT2, rfl, _, rfl⟩⟩
    have I1 : Inv X pins σ (upd H s.heap.objs.size (.tup [.int (i : Nat), x])) { s with heap := h'', toks := tk + 1 } :=
      I.turnedNew (ch := [e, it]) (fun b ob hb q => (sb.2 b (fun z => hb (by simp [z]))).trans (hk b ob (fun z => hb (by simp [z])) (fun z => hb (by simp [z])) q)) hf (Nat.le_refl _) new
    refine ⟨.ref s.heap.objs.size, _, I1, rfl, ⟨_, x, rfl, I.hok.fresh (Nat.le_refl _), rfl, fun ys hy => by rw [I.tuple_inj hy hq]; exact hx⟩, ⟨⟨y, ?_⟩, hst'.1.at fun o q => (sb.2 it (Ne.symm hne)).trans q, hne⟩, fun b hb => ?_⟩
    · have e1 : ((i + 1 : Nat) : Int) = (i : Int) + 1 := by omega
      rw [e1]; exact he'
    · have hb' : b < s.heap.objs.size := by
        have e' : b = e ∨ b = it := by simpa using hb
        rcases e' with z | z
        · rw [z]; exact hel
        · rw [z]; exact hil
      rw [upd_ne (Nat.ne_of_lt hb')]
      exact (hf b hb).1
  done := by
    intro X hP hw hK hc i pins s σ H E I hf st hg
    subst hP hw hK
    obtain ⟨⟨old, he⟩, hit, hne⟩ := st
    obtain ⟨xs, hq, hx⟩ := hg
    obtain ⟨its, rv, p, hz⟩ := I.tuple hq
    obtain ⟨f0, f1, f2, f3, f4, f5⟩ := hf it (by simp)
    have hl := rv.length
    have hai : a ≠ it := fun z => by
      obtain ⟨o, h1, h2, n, h3⟩ := p
      obtain ⟨o', g1, g2, g3⟩ := hit
      rw [z] at h1; rw [h1] at g1; cases g1; rw [h3] at g3; cases g3
    have hT : s.TypeIs (.ref e) "enumerate" := ⟨_, he, rfl⟩
    unfold pyNext
    refine wpAny_bind (wpAny_attempt (wpAny_callSpecial?_slot (name := Str.ofString "__next__") hT F.slot_enumerate_next
      (wpAny_call_entry F.slot_enumerate_next hT F.entry_enumerate_next ?_ (F.args_enumerate_next_1 _))))
    show wpAny _ _ (field (.ref e) 2 >>= _) _ _ _
    refine wpAny_bind (wpAny_field he rfl (x := .ref it) rfl ?_)
    refine wpAny_bind (wpAny_nextOf_tuple_end (items := its.toArray) (show X.A.in1.handled = none from I.ok.hd hc) hit p (by simp; omega) fun h' x he' hx' => ?_)
    obtain ⟨o, ho, hcl⟩ := hx'
    refine wpAny_bind (wpAny_isInstance (T := "StopIteration") (b := true) ⟨o, ho, hcl⟩ isSubtype_stop ?_)
    exact wpAny_pure ⟨rfl, I.turned (t' := s.toks) (fun b o hb q => he' b o hb q) f0 f1 f3 f4 f5⟩
  self := fun A i s Q E st h => let ⟨⟨_, he⟩, _⟩ := st; wpAny_pyIter_enum he h
def iEnumT (K : PySem.W.Frag) (ta : TA) : TI := fun σ H R => ta σ H fun vs H1 => ∃ a xs, vs = [.ref a] ∧ SqT K H1 a xs ∧ R (IteT K a) H1
theorem pi_enumT {X : Cx} {e : Expr} {ta : TA} {p pos tpos : Pos} {elts : List Expr} {kk : Nat} (hg : Gl X "enumerate") (hm : X.mg "enumerate" = none) (ha : PA X [e] ta) (hs : starEach [e] X.env = [(false, eval e X.env)] := by rfl) :
    PI X (.Tuple elts kk tpos) (.Call (.Name "enumerate" p) [e] [] pos) (iEnumT X.K ta) := by
  refine ⟨fun pins s σ H R I h => ?_⟩
  refine Call_ (ld_blt I hg hm boot_enumerate (PyProof.Rows.callWith_type1 (thn (ha.run pos pins s σ H _ I h) fun us s1 ⟨vs, H1, I1, r1, q1⟩ => ?_) hs rfl))
  obtain ⟨a, xs, ex, hq, q⟩ := q1
  subst ex
  cases r1 with
  | cons r rr =>
    cases rr
    cases r
    obtain ⟨its, rv, p', hz⟩ := I1.tuple hq
    refine enum_begins1 (begins_tuple a its.toArray) p' fun h' he hit hsz hk => wpAny_pyIter_enum he ?_
    have I2 : Inv X pins σ H1 { s1 with heap := h' } := I1.kept (t' := s1.toks) hk
    refine ⟨s1.heap.objs.size + 1, [s1.heap.objs.size + 1, s1.heap.objs.size], _, _, H1, rfl, I2, turn_enumT a (s1.heap.objs.size + 1) s1.heap.objs.size, ⟨⟨.none, he⟩, ⟨_, hit, rfl, rfl⟩, Nat.succ_ne_self _⟩, fun b hb => ?_, q⟩
    have e' : b = s1.heap.objs.size + 1 ∨ b = s1.heap.objs.size := by simpa using hb
    have hle : s1.heap.objs.size ≤ b := by
      rcases e' with z | z
      · rw [z]; exact Nat.le_add_right _ _
      · rw [z]; exact Nat.le_refl _
    exact I1.fpOk hle (I1.hok.fresh hle)
section
variable {K : PySem.W.Frag} {σ : L2.St} {H : Hp} {D : Ends} {tb : TS} {g : TG} {a : Addr} {R : It → Hp → Prop} {as : TA}
def rEnT (K : PySem.W.Frag) (vs : List V) (H : Hp) (R : It → Hp → Prop) : Prop := ∃ a xs, vs = [.ref a] ∧ SqT K H a xs ∧ R (IteT K a) H
theorem g_iET (h : as σ H fun vs H1 => rEnT K vs H1 R) : iEnumT K as σ H R := h
theorem g_renT {xs : List V} (h : SqT K H a xs) (c : R (IteT K a) H) : rEnT K [.ref a] H R := ⟨a, xs, rfl, h, c⟩
theorem f_enumT {xs : List V} (Pv : Nat → L2.St → Hp → Prop) (h0 : Pv 0 σ H) (hl : ∀ i σ H, i ≤ xs.length → Pv i σ H → SqT K H a xs)
    (hs : ∀ i x T σ H H', xs[i]? = some x → Pv i σ H → H T = none → Fr [] H H' → H' T = some (.tup [.int (i : Nat), x]) → g (.ref T) σ H' fun σ2 H2 => tb { D with nx := Pv (i + 1), ct := Pv (i + 1), bk := D.nx } σ2 H2) (hd : ∀ σ H, Pv xs.length σ H → D.nx σ H) : ForGo (IteT K a) g tb D σ H := by
  refine ⟨fun i m σ H => m = xs.length - i ∧ i ≤ xs.length ∧ Pv i σ H, ⟨xs.length, rfl, Nat.zero_le _, h0⟩, ?_⟩
  rintro i m σ H ⟨rfl, hi, p⟩
  have qx := hl i σ H hi p
  by_cases hlt : i < xs.length
  · have hx : xs[i]? = some xs[i] := List.getElem?_eq_getElem hlt
    refine .inr ⟨⟨xs, _, qx, hx⟩, Pv (i + 1), fun σ' H' p' => ⟨xs.length - (i + 1), by omega, rfl, hlt, p'⟩, fun v H' y => ?_⟩
    obtain ⟨T, x', rfl, hT, rfl, f1⟩ := y
    exact hs i x' T σ H _ (f1 xs qx) p hT (Fr.new hT) upd_same
  · have e : i = xs.length := by omega
    subst e
    exact .inl ⟨⟨xs, qx, Nat.le_refl _⟩, hd σ H p⟩
/-! small words -/
variable {Q : VK} {te : TE} {x : V}
def rIntB : List V → Hp → VK → Prop := fun xs H Q => ∃ k, xs = [.bl k] ∧ Q (.int (if k then 1 else 0)) H
theorem b_intB {X : Cx} : CallR X (.type "int") rIntB := fun pins s σ H xs us Q I r h => call_int1 pins s σ H xs us Q I r (.inr h)
theorem g_intB {k : Bool} (h : Q (.int (if k then 1 else 0)) H) : rIntB [.bl k] H Q := ⟨k, rfl, h⟩
theorem g_slT {xs : List V} {lo hi : Option Int} (h : SqT K H a xs) (n : ¬ (HT.sIx xs.length 0 lo = 0 ∧ HT.sIx xs.length xs.length hi = xs.length)) (q : ∀ l H', H l = none → Fr [] H H' → H' l = some (.tup (cutV xs lo hi)) → Q (.ref l) H') : rSlT K (.ref a) lo hi H Q :=
  ⟨a, xs, rfl, h, n, fun l hl => q l _ hl (Fr.new hl) upd_same⟩
theorem cut_tail {x : V} {xs : List V} : cutV (x :: xs) (some 1) none = xs := by
  unfold cutV
  rw [HT.sIx_none, show (some (1 : Int)) = some (((1 : Nat) : Int)) from rfl, HT.sIx_nat, List.length_cons, Nat.min_eq_left (Nat.succ_le_succ (Nat.zero_le _)), List.drop_one, List.tail_cons]
  exact List.take_of_length_le (by omega)
theorem g_sl1 {x : V} {xs : List V} (h : SqT K H a (x :: xs)) (q : ∀ l H', H l = none → Fr [] H H' → H' l = some (.tup xs) → Q (.ref l) H') : rSlT K (.ref a) (some 1) none H Q := by
  refine g_slT h (fun z => ?_) fun l H' n f e => q l H' n f (by rw [cut_tail] at e; exact e)
  have z1 := z.1
  rw [show (some (1 : Int)) = some (((1 : Nat) : Int)) from rfl, HT.sIx_nat, List.length_cons, Nat.min_eq_left (Nat.succ_le_succ (Nat.zero_le _))] at z1
  exact absurd z1 (by decide)
theorem g_un {r : V → Hp → VK → Prop} (h : te σ H fun x H1 => r x H1 Q) : tUn r te σ H Q := h
abbrev rNeg : V → Hp → VK → Prop := rU fun i => .int (-i)
theorem g_neg {i : Int} (h : Q (.int (-i)) H) : rNeg (.int i) H Q := ⟨i, rfl, h⟩
theorem g_trC {P : Bool → Prop} {x : V} {xs : List V} (h : SqL K H a (x :: xs)) (q : P true) : ∃ k, TruV K (.ref a) H k ∧ P k := ⟨true, .inl ⟨x :: xs, h, rfl⟩, q⟩
theorem g_trN {P : Bool → Prop} (h : SqL K H a []) (q : P false) : ∃ k, TruV K (.ref a) H k ∧ P k := ⟨false, .inl ⟨[], h, rfl⟩, q⟩
end
end Lw

namespace Lw
open PySem L2
/-! ### dicts whose keys are nested tuples of ints -/
mutual
def nkOk : NestedKey → Bool
  | .num _ => true
  | .tup ks => nkOks ks
  | .none => false
  | .text _ => false
def nkOks : List NestedKey → Bool
  | [] => true
  | k :: ks => nkOk k && nkOks ks
end
mutual
def nkH : NestedKey → Int
  | .num i => hashInt i
  | .tup ks => reduceHash (Builtin.Tuple.tupleHashOf (nkHs ks))
  | .none => 0
  | .text _ => 0
def nkHs : List NestedKey → List Int
  | [] => []
  | k :: ks => nkH k :: nkHs ks
end
mutual
theorem nkH_eq (w : World) : ∀ k : NestedKey, nkOk k = true → nkH k = k.hash w
  | .num i, _ => rfl
  | .tup ks, h => by
    show reduceHash (Builtin.Tuple.tupleHashOf (nkHs ks)) = reduceHash (Builtin.Tuple.tupleHashOf (NestedKey.hashes w ks))
    rw [nkHs_eq w ks (by simpa [nkOk] using h)]
  | .none, h => by simp [nkOk] at h
  | .text _, h => by simp [nkOk] at h
theorem nkHs_eq (w : World) : ∀ ks : List NestedKey, nkOks ks = true → nkHs ks = NestedKey.hashes w ks
  | [], _ => rfl
  | k :: ks, h => by
    simp only [nkOks, Bool.and_eq_true] at h
    show nkH k :: nkHs ks = NestedKey.hash w k :: NestedKey.hashes w ks
    rw [nkH_eq w k h.1, nkHs_eq w ks h.2]
end
mutual
theorem imm_nk : ∀ k : NestedKey, imm k.data = true
  | .num _ => rfl
  | .none => rfl
  | .text _ => rfl
  | .tup ks => imm_nks ks
theorem imm_nks : ∀ ks : List NestedKey, immL (NestedKey.datas ks) = true
  | [] => rfl
  | k :: ks => by
    show (imm k.data && immL (NestedKey.datas ks)) = true
    rw [imm_nk k, imm_nks ks]; rfl
end
section
variable {X : Cx} {pins : List (Addr × Obj)} {σ : L2.St} {H : Hp} {s : Shared}
mutual
theorem nk_is (I : Inv X pins σ H s) : ∀ (k : NestedKey) (v : V) (u : Value), nkOk k = true → Da H v k.data → RelV v u → NestedIs s.heap k u
  | .num i, v, u, _, h, r => by
    cases h.int1
    obtain ⟨tk, rfl⟩ := r
    exact .int i tk
  | .tup ks, v, u, ok, h, r => by
    obtain ⟨a, xs, rfl, e, _, q⟩ := Da.tup1 (ds := NestedKey.datas ks) h
    obtain rfl : u = Value.ref a := r
    obtain ⟨_, its, rr, o, g1, g2, n, g3⟩ := (show ObjOk X.prog X.w H s.heap a (.tup xs) from I.hok a _ e)
    exact .tup g1 g2 g3 (nks_is I ks xs its.toArray.toList (by simpa [nkOk] using ok) q (by simpa using rr))
  | .none, _, _, ok, _, _ => by simp [nkOk] at ok
  | .text _, _, _, ok, _, _ => by simp [nkOk] at ok
theorem nks_is (I : Inv X pins σ H s) : ∀ (ks : List NestedKey) (vs : List V) (us : List Value), nkOks ks = true → DaL H vs (NestedKey.datas ks) → Vals vs us → NestedAll s.heap ks us
  | [], _, _, _, h, r => by
    cases h
    cases r
    exact .nil
  | k :: ks, _, _, ok, h, r => by
    simp only [nkOks, Bool.and_eq_true] at ok
    cases h with
    | cons h1 h2 => cases r with
      | cons r1 r2 => exact .cons (nk_is I k _ _ ok.1 h1 r1) (nks_is I ks _ _ ok.2 h2 r2)
end
end
def nkE (x : NestedKey × Addr × Value) : DictEntry := ⟨nkH x.1, .ref x.2.1, x.2.2⟩
def nkObj (a : Addr) (xs : List (NestedKey × Addr × Value)) : HO := .ext fun h => ∃ o es ep, h.get? a = some o ∧ o.ExactDict ∧ o.data = .dict es ep ∧ es.toList = xs.map nkE
abbrev NKey (H : Hp) (b : Addr) (k : NestedKey) : Prop := nkOk k = true ∧ k.depth ≤ 8 ∧ Da H (.ref b) k.data
abbrev NT (H : Hp) : List (NestedKey × V) → List (NestedKey × Addr × Value) → Prop := Paired fun p q => p.1 = q.1 ∧ NKey H q.2.1 p.1 ∧ RelV p.2 q.2.2
/-- at a stands a dict of these keys and values -/
def NkAt (H : Hp) (a : Addr) (kvs : List (NestedKey × V)) : Prop := kvs.length ≤ sizeLine ∧ (a == sysModules) = false ∧ ∃ xs, H a = some (nkObj a xs) ∧ NT H kvs xs ∧ (xs.map (·.1)).Nodup
theorem NT.fr {l : List Addr} {H H' : Hp} {kvs : List (NestedKey × V)} {xs : List (NestedKey × Addr × Value)} (r : NT H kvs xs) (f : Fr l H H') : NT H' kvs xs :=
  Paired.mapP r fun p q z => ⟨z.1, ⟨z.2.1.1, z.2.1.2.1, Da.frL f z.2.1.2.2 (imm_nk _)⟩, z.2.2⟩
theorem NkAt.fr {l : List Addr} {H H' : Hp} {a : Addr} {kvs : List (NestedKey × V)} (h : NkAt H a kvs) (f : Fr l H H') (n : a ∉ l) : NkAt H' a kvs := by
  obtain ⟨h1, h2, xs, h3, h4, h5⟩ := h
  exact ⟨h1, h2, xs, f.at h3 n, h4.fr f, h5⟩
theorem NT.val {H : Hp} {kvs : List (NestedKey × V)} {xs : List (NestedKey × Addr × Value)} (r : NT H kvs xs) (k : NestedKey) : RelO (lk kvs k) ((atKey xs k).map (·.2)) := by
  induction r with
  | nil => exact True.intro
  | @cons p q ps qs h t ih =>
    obtain ⟨h1, _, h2⟩ := h
    by_cases e : p.1 = k
    · have e' : q.1 = k := h1.symm.trans e
      have b : atKey (q :: qs) k = some q.2 := by simp [atKey, List.find?_cons, e']
      have c : lk (p :: ps) k = some p.2 := by simp [lk, List.find?_cons, e]
      rw [c, b]; exact h2
    · have e' : ¬ q.1 = k := fun z => e (h1.trans z)
      have b : atKey (q :: qs) k = atKey qs k := by simp [atKey, List.find?_cons, e']
      have c : lk (p :: ps) k = lk ps k := by simp [lk, List.find?_cons, e]
      rw [c, b]; exact ih
theorem lk_any {κ α : Type} [DecidableEq κ] (m : List (κ × α)) (k : κ) : (m.any fun e => decide (e.1 = k)) = (lk m k).isSome := by
  induction m with
  | nil => rfl
  | cons e r ih =>
    by_cases h : e.1 = k
    · simp [lk, List.find?_cons, h]
    · have c : lk (e :: r) k = lk r k := by simp [lk, List.find?_cons, h]
      rw [c, ← ih]; simp [h]
theorem NT.put {H : Hp} {kvs : List (NestedKey × V)} {xs : List (NestedKey × Addr × Value)} (r : NT H kvs xs) (k : NestedKey) {b : Addr} {y : V} {u : Value} (hb : NKey H b k) (ry : RelV y u) : NT H (pt kvs k y) (storedH xs k b u) := by
  have e : (kvs.any fun kv => decide (kv.1 = k)) = (atKey xs k).isSome := by
    rw [lk_any, (r.val k).isSome_eq, Option.isSome_map]
  unfold pt storedH
  rw [e]
  by_cases q : (atKey xs k).isSome = true
  · rw [if_pos q, if_pos q]
    clear q e
    induction r with
    | nil => exact .nil
    | @cons p q ps qs h t ih =>
      rw [List.map_cons, List.map_cons]
      refine .cons ?_ ih
      obtain ⟨h1, h2, h3⟩ := h
      unfold putAt
      by_cases e : p.1 = k
      · rw [if_pos e, if_pos (h1.symm.trans e)]; exact ⟨h1, h2, ry⟩
      · rw [if_neg e, if_neg (fun z => e (h1.trans z))]; exact ⟨h1, h2, h3⟩
  · rw [if_neg q, if_neg q]; exact Paired.snoc r ⟨rfl, hb, ry⟩
section
variable {X : Cx} {pins : List (Addr × Obj)} {σ : L2.St} {H : Hp} {s : Shared} {a b : Addr} {kvs : List (NestedKey × V)} {k : NestedKey} {A : Around} {E : Value → Shared → Prop} {v : V} {r : Value}
theorem nk_key (I : Inv X pins σ H s) (h : NKey H b k) : (nestedKind X.prog X.w).is s.heap k b := ⟨nk_is I k _ _ h.1 h.2.2 rfl, h.2.1⟩
theorem nk_entry {xs : List (NestedKey × Addr × Value)} (r : NT H kvs xs) (P : Program) (w : World) : xs.map nkE = xs.map (entryOfKey (nestedKind P w)) := by
  induction r with
  | nil => rfl
  | @cons p q ps qs h t ih =>
    obtain ⟨h1, h2, h3⟩ := h
    rw [List.map_cons, List.map_cons, ih]
    show (⟨nkH q.1, .ref q.2.1, q.2.2⟩ : DictEntry) :: _ = (⟨q.1.hash w, .ref q.2.1, q.2.2⟩ : DictEntry) :: _
    rw [← h1, nkH_eq w _ h2.1]
theorem nk_of (I : Inv X pins σ H s) (h : NkAt H a kvs) : ∃ xs, H a = some (nkObj a xs) ∧ NT H kvs xs ∧ s.heap.DictOfH (nestedKind X.prog X.w) a xs := by
  obtain ⟨h1, h2, xs, h3, h4, h5⟩ := h
  obtain ⟨⟨o, es, ep, g1, g2, g3, g4⟩, _, _⟩ := (show ObjOk X.prog X.w H s.heap a (nkObj a xs) from I.hok a _ h3)
  refine ⟨xs, h3, h4, o, es, ep, g1, g2, g3, by rw [g4, nk_entry h4 X.prog X.w], fun x hx => ?_, h5⟩
  have all : ∀ {l : List (NestedKey × V)} {m : List (NestedKey × Addr × Value)}, NT H l m → ∀ x ∈ m, (nestedKind X.prog X.w).is s.heap x.1 x.2.1 := by
    intro l m q
    induction q with
    | nil => intro x hx; exact nomatch hx
    | @cons p q ps qs hq t ih =>
      intro x hx
      rcases List.mem_cons.mp hx with e | hx
      · subst e
        have := nk_key I hq.2.1
        rw [hq.1] at this
        exact this
      · exact ih x hx
  exact all h4 x hx
/-- what the dict at a holds at the key y -/
def NGet (H : Hp) (a : Addr) (y : V) (o : Option V) : Prop := ∃ kvs k b, NkAt H a kvs ∧ y = .ref b ∧ NKey H b k ∧ o = lk kvs k
theorem nk_typeIs (I : Inv X pins σ H s) (h : NkAt H a kvs) : s.TypeIs (.ref a) "dict" ∧ (∀ b, Value.ref a = .ref b → ∃ ob, s.heap.get? b = some ob ∧ ob.dict = none) := by
  obtain ⟨xs, _, _, dd⟩ := nk_of I h
  refine ⟨dd.typeIs, fun b q => ?_⟩
  cases q
  obtain ⟨ob, _, _, h1, h2, _⟩ := dd
  exact ⟨ob, h1, h2.2.1⟩
theorem n_getItem {y : V} {u : Value} {Q : Value → Shared → Prop} (hu : A.units + 64 < cLine) (I : Inv X pins σ H s) (g : NGet H a y (some v)) (ry : RelV y u) (h : ∀ w' s', Inv X pins σ H s' → RelV v w' → Q w' s') :
    wpAny (model X.prog X.w) A (getItem (.ref a) u) Q E s := by
  obtain ⟨kvs, k, b, e, rfl, ek, l⟩ := g
  cases (show u = Value.ref b from ry)
  obtain ⟨xs, _, rel, dd⟩ := nk_of I e
  obtain ⟨w', hw, rw'⟩ := RelO.some_of (v := v) (o := (atKey xs k).map (·.2)) (by rw [l]; exact rel.val k)
  obtain ⟨p, hp, hp2⟩ := Option.map_eq_some_iff.mp hw
  refine wpAny_getItem_heap (show (nestedKind X.prog X.w).room A.in1 from (by show A.units + 1 + 8 < cLine; omega)) (nk_key I ek) dd hp ?_
  rw [hp2]
  exact h w' _ (I.tok _) rw'
theorem n_in {y : V} {o : Option V} {u : Value} {Q : Value → Shared → Prop} (hu : A.units + 64 < cLine) (I : Inv X pins σ H s) (g : NGet H a y o) (ry : RelV y u) (h : ∀ s', Inv X pins σ H s' → Q (.bool o.isSome) s') :
    wpAny (model X.prog X.w) A (compareOp .In u (.ref a)) Q E s := by
  obtain ⟨kvs, k, b, e, rfl, ek, l⟩ := g
  cases (show u = Value.ref b from ry)
  obtain ⟨xs, _, rel, dd⟩ := nk_of I e
  refine wpAny_in_heap (show (nestedKind X.prog X.w).room A.in1 from (by show A.units + 1 + 8 < cLine; omega)) (nk_key I ek) e.2.1 dd ?_
  have q := (rel.val k).isSome_eq
  rw [Option.isSome_map] at q
  rw [← q, ← l]
  exact h _ (I.tok _)
theorem n_notIn {y : V} {o : Option V} {u : Value} {Q : Value → Shared → Prop} (hu : A.units + 64 < cLine) (I : Inv X pins σ H s) (g : NGet H a y o) (ry : RelV y u) (h : ∀ s', Inv X pins σ H s' → Q (.bool (!o.isSome)) s') :
    wpAny (model X.prog X.w) A (compareOp .NotIn u (.ref a)) Q E s := by
  obtain ⟨kvs, k, b, e, rfl, ek, l⟩ := g
  cases (show u = Value.ref b from ry)
  obtain ⟨xs, _, rel, dd⟩ := nk_of I e
  refine PyProof.Rows.wpAny_notIn_heap (show (nestedKind X.prog X.w).room A.in1 from (by show A.units + 1 + 8 < cLine; omega)) (nk_key I ek) e.2.1 dd ?_
  have q := (rel.val k).isSome_eq
  rw [Option.isSome_map] at q
  rw [← q, ← l]
  exact h _ (I.tok _)
theorem n_get2 {y d : V} {o : Option V} {u : Value} {Q : Value → Shared → Prop} (hu : A.units + 64 < cLine) (I : Inv X pins σ H s) (g : NGet H a y o) (ry : RelV y u) (rd : RelV d r) (h : ∀ w' s', Inv X pins σ H s' → RelV (o.getD d) w' → Q w' s') :
    wpAny (model X.prog X.w) A (call (.builtin "dict.get") [.ref a, u, r]) Q E s := by
  obtain ⟨kvs, k, b, e, rfl, ek, l⟩ := g
  cases (show u = Value.ref b from ry)
  obtain ⟨xs, _, rel, dd⟩ := nk_of I e
  refine call_meetsIn PySem.F.slot_dict_get dd.typeIs PySem.F.entry_dict_get (PySem.F.args_dict_get_3 _ _ _) (meetsH_dict_get_default (nestedKind X.prog X.w) a b e.2.1 r) ⟨?_, k, xs, nk_key I ek, dd, h _ _ (I.tok _) ?_⟩
  · show A.units + 1 + 8 < cLine
    omega
  · rw [l]
    exact (rel.val k).getD rd
def NPut (H : Hp) (a : Addr) (y v : V) (P : Hp → Prop) : Prop := ∃ kvs k b, NkAt H a kvs ∧ y = .ref b ∧ NKey H b k ∧ kvs.length < sizeLine ∧ ∀ H', Fr [a] H H' → NkAt H' a (pt kvs k v) → P H'
theorem pt_le {κ α : Type} [DecidableEq κ] (m : List (κ × α)) (k : κ) (v : α) : (pt m k v).length ≤ m.length + 1 := by
  unfold pt
  split
  · rw [List.length_map]; omega
  · rw [List.length_append]; exact Nat.le_refl _
theorem n_setItem {y : V} {u : Value} {P : Hp → Prop} {Q : Unit → Shared → Prop} (hu : A.units + 64 < cLine) (I : Inv X pins σ H s) (g : NPut H a y v P) (ry : RelV y u) (rv : RelV v r) (h : ∀ s' H', Inv X pins σ H' s' → P H' → Q () s') :
    wpAny (model X.prog X.w) A (setItem (.ref a) u r) Q E s := by
  obtain ⟨kvs, k, b, e, rfl, ek, hl, p⟩ := g
  cases (show u = Value.ref b from ry)
  obtain ⟨xs, ex, rel, dd⟩ := nk_of I e
  have hz : xs.length ≤ sizeLine := by rw [← Paired.length rel]; exact e.1
  refine wpAny_setItem_heap (hsz := hz) (show (nestedKind X.prog X.w).room A.in1 from (by show A.units + 1 + 8 < cLine; omega)) (nk_key I ek) dd fun h' dd' hs => ?_
  obtain ⟨q, es, ep, hq, h2, h3, h4, _, h5⟩ := dd'
  have rel' := rel.put k ek rv
  have nk : Fr [a] H (upd H a (nkObj a (storedH xs k b r))) := Fr.put ex trivial
  refine h _ (upd H a (nkObj a (storedH xs k b r))) ?_ (p _ nk ⟨Nat.le_trans (pt_le _ _ _) hl, e.2.1, _, upd_same, rel'.fr nk, h5⟩)
  refine d_write I (by rw [ex]; exact True.intro) hs ⟨q, hq⟩ ⟨⟨q, es, ep, hq, h2, h3, by rw [h4, nk_entry rel' X.prog X.w]⟩, ⟨q, hq⟩, fun h1 h2 ⟨o, es, ep, g1, g2⟩ k => ⟨o, es, ep, k _ g1, g2⟩⟩
end
/-! the readings -/
def tNGet (td ty : TE) : TE := fun σ H Q => td σ H fun x H1 => ty σ H1 fun y H2 => ∃ a v, x = .ref a ∧ NGet H2 a y (some v) ∧ Q v H2
def tNIn (ty td : TE) : TE := fun σ H Q => ty σ H fun y H1 => td σ H1 fun x H2 => ∃ a o, x = .ref a ∧ NGet H2 a y o ∧ Q (.bl o.isSome) H2
def tNNotIn (ty td : TE) : TE := fun σ H Q => ty σ H fun y H1 => td σ H1 fun x H2 => ∃ a o, x = .ref a ∧ NGet H2 a y o ∧ Q (.bl (!o.isSome)) H2
def tNGet2 (td ty tx : TE) : TE := fun σ H Q => td σ H fun x H1 => ∃ a, x = .ref a ∧ (∃ kvs, NkAt H1 a kvs) ∧ ty σ H1 fun y H2 => tx σ H2 fun z H3 => ∃ o, NGet H3 a y o ∧ Q (o.getD z) H3
def sNPut (td ty tv : TE) : TS := fun D σ H => tv σ H fun v H1 => td σ H1 fun x H2 => ty σ H2 fun y H3 => ∃ a, x = .ref a ∧ NPut H3 a y v fun H4 => D.nx σ H4
def tNNew : TE := fun _ H Q => ∀ p, H p = none → (∀ H', Fr [] H H' → NkAt H' p [] → Q (.ref p) H')
section
variable {X : Cx} {td ty tx tv : TE} {o i e f value : Expr} {pos pos' cpos apos : Pos}

theorem pe_nget (hu : X.A.units + 64 < cLine) (ho : PE X o td) (hi : PE X i ty) (hs : NoSl i) : PE X (.Subscript o i pos) (tNGet td ty) := by
  refine ⟨fun pins s σ H Q I h => ?_⟩
  refine subD_of PySem.F.slot_dict_getitem.lookup hs (thn (ho.run pins s σ H _ I h) fun u s1 ⟨x, H1, I1, rx, q1⟩ => thn (hi.run pins s1 σ H1 _ I1 q1) fun iv s2 ⟨y, H2, I2, ry, a, v, ex, g, q2⟩ => ?_)
  subst ex
  obtain rfl : u = Value.ref a := rx
  exact ⟨(let ⟨kvs, k, b, e, _⟩ := g; (nk_typeIs I2 e).1), n_getItem hu I2 g ry fun w' s3 I3 rw' => ⟨v, H2, I3, rw', q2⟩⟩
theorem pc_nin (hu : X.A.units + 64 < cLine) (hi : PE X i ty) (ho : PE X o td) : PC X .In i o (tNIn ty td) := by
  refine ⟨fun pins s σ H Q I h => ?_⟩
  refine thn (hi.run pins s σ H _ I h) fun iv s1 ⟨y, H1, I1, ry, q1⟩ => thn (ho.run pins s1 σ H1 _ I1 q1) fun u s2 ⟨x, H2, I2, rx, a, ov, ex, g, q2⟩ => ?_
  subst ex
  obtain rfl : u = Value.ref a := rx
  exact n_in hu I2 g ry fun s3 I3 => ⟨.bl ov.isSome, H2, I3, rfl, q2⟩
theorem pc_nnotin (hu : X.A.units + 64 < cLine) (hi : PE X i ty) (ho : PE X o td) : PC X .NotIn i o (tNNotIn ty td) := by
  refine ⟨fun pins s σ H Q I h => ?_⟩
  refine thn (hi.run pins s σ H _ I h) fun iv s1 ⟨y, H1, I1, ry, q1⟩ => thn (ho.run pins s1 σ H1 _ I1 q1) fun u s2 ⟨x, H2, I2, rx, a, ov, ex, g, q2⟩ => ?_
  subst ex
  obtain rfl : u = Value.ref a := rx
  exact n_notIn hu I2 g ry fun s3 I3 => ⟨.bl (!ov.isSome), H2, I3, rfl, q2⟩
theorem ps_nput (hu : X.A.units + 64 < cLine) (ho : PE X o td) (hi : PE X i ty) (hv : PE X value tv) (hs : swapsWith value (some (.Subscript o i pos')) pos.line X.env = pure false) :
    PS X (.Assign [.Subscript o i pos'] value pos) (sNPut td ty tv) := by
  refine ⟨fun pins s σ H D I h => ?_⟩
  refine wpAny_Assign_Subscript (thn (hv.run pins s σ H _ I h) fun r s1 ⟨v, H1, I1, rv, q1⟩ => thn (ho.run pins s1 σ H1 _ I1 q1) fun u s2 ⟨x, H2, I2, rx, q2⟩ => thn (hi.run pins s2 σ H2 _ I2 q2) fun iv s3 ⟨y, H3, I3, ry, a, ex, g⟩ => ?_) hs
  subst ex
  obtain rfl : u = Value.ref a := rx
  exact n_setItem hu I3 g ry rv fun s4 H4 I4 q3 => ⟨σ, H4, I4, q3⟩
theorem pe_nget2 (hu : X.A.units + 64 < cLine) (ho : PE X o td) (he : PE X e ty) (hf : PE X f tx) (m : M2 X o "get" apos e f cpos) : PE X (.Call (.Attribute o "get" apos) [e, f] [] cpos) (tNGet2 td ty tx) := by
  refine ⟨fun pins s σ H Q I h => ?_⟩
  refine wpAny_Call_method m.base m.few m.line PySem.F.plainAttrs_dict PySem.F.slot_dict_get PySem.F.type_dict_get (thn (ho.run pins s σ H _ I h) fun u s1 ⟨x, H1, I1, rx, a, ex, ⟨kvs, d⟩, q1⟩ => ?_)
  subst ex
  obtain rfl : u = Value.ref a := rx
  obtain ⟨t1, t2⟩ := nk_typeIs I1 d
  refine ⟨t1, t2, ?_⟩
  rw [m.trees]
  refine Calls.callWith_builtin rfl (Calls.evalArgs_plain (Calls.spliced_cons (thn (he.run pins s1 σ H1 _ I1 q1) fun iv s2 ⟨y, H2, I2, ry, q2⟩ =>
    Calls.spliced_cons (thn (hf.run pins s2 σ H2 _ I2 q2) fun fv s3 ⟨z, H3, I3, rz, ov, g, q3⟩ => Calls.spliced_nil ?_))))
  exact n_get2 hu I3 g ry rz fun w' s4 I4 rw' => ⟨_, H3, I4, rw', q3⟩
theorem pe_nnew : PE X (.Dict [] [] pos) tNNew := ⟨fun pins s σ H Q I h => by
  have e0 : ObjOk X.prog X.w (upd H s.heap.objs.size (nkObj s.heap.objs.size [])) (s.heap.push { cls := .type "dict", data := .dict #[] }) s.heap.objs.size (nkObj s.heap.objs.size []) :=
    ⟨⟨_, #[], 0, Heap.get?_push_size _ rfl, ⟨rfl, rfl, rfl⟩, rfl, rfl⟩, ⟨_, Heap.get?_push_size _ rfl⟩, fun h1 h2 ⟨o, es, ep, g1, g2⟩ k => ⟨o, es, ep, k _ g1, g2⟩⟩
  have np := I.hok.fresh (Nat.le_refl s.heap.objs.size)
  exact wpAny_Dict_empty ⟨.ref s.heap.objs.size, _, I.laid (a := s.heap.objs.size) (o := nkObj s.heap.objs.size []) (t' := s.toks) (fun _ _ q => Heap.get?_push_of_some _ q) (Nat.le_refl _) e0, rfl,
    h _ np _ (Fr.new np) ⟨Nat.zero_le _, beq_eq_false_iff_ne.mpr (Ne.symm (Nat.ne_of_lt I.big)), [], upd_same, .nil, List.nodup_nil⟩⟩⟩
end
section
variable {σ : L2.St} {H : Hp} {Q : VK} {D : Ends} {td ty tv tx : TE} {a b : Addr} {kvs : List (NestedKey × V)} {k : NestedKey} {v z : V}
def rNG (x y : V) (H : Hp) (Q : VK) : Prop := ∃ a v, x = .ref a ∧ NGet H a y (some v) ∧ Q v H
theorem g_nget (h : td σ H fun x H1 => ty σ H1 fun y H2 => rNG x y H2 Q) : tNGet td ty σ H Q := h
theorem g_rng (k : NestedKey) (h : NkAt H a kvs) (e : NKey H b k) (l : lk kvs k = some v) (c : Q v H) : rNG (.ref a) (.ref b) H Q := ⟨a, v, rfl, ⟨kvs, k, b, h, rfl, e, l.symm⟩, c⟩
def rNI (y x : V) (H : Hp) (Q : VK) : Prop := ∃ a o, x = .ref a ∧ NGet H a y o ∧ Q (.bl o.isSome) H
def rNNI (y x : V) (H : Hp) (Q : VK) : Prop := ∃ a o, x = .ref a ∧ NGet H a y o ∧ Q (.bl (!o.isSome)) H
theorem g_nin (h : ty σ H fun y H1 => td σ H1 fun x H2 => rNI y x H2 Q) : tNIn ty td σ H Q := h
theorem g_nnin (h : ty σ H fun y H1 => td σ H1 fun x H2 => rNNI y x H2 Q) : tNNotIn ty td σ H Q := h
theorem g_rni (k : NestedKey) (h : NkAt H a kvs) (e : NKey H b k) (c : Q (.bl (lk kvs k).isSome) H) : rNI (.ref b) (.ref a) H Q := ⟨a, _, rfl, ⟨kvs, k, b, h, rfl, e, rfl⟩, c⟩
theorem g_rnni (k : NestedKey) (h : NkAt H a kvs) (e : NKey H b k) (c : Q (.bl (!(lk kvs k).isSome)) H) : rNNI (.ref b) (.ref a) H Q := ⟨a, _, rfl, ⟨kvs, k, b, h, rfl, e, rfl⟩, c⟩
def rNG2 (x : V) (H : Hp) (P : Addr → Prop) : Prop := ∃ a, x = .ref a ∧ (∃ kvs, NkAt H a kvs) ∧ P a
def rNO (a : Addr) (y z : V) (H : Hp) (Q : VK) : Prop := ∃ o, NGet H a y o ∧ Q (o.getD z) H
theorem g_nget2 (h : td σ H fun x H1 => rNG2 x H1 fun a => ty σ H1 fun y H2 => tx σ H2 fun z H3 => rNO a y z H3 Q) : tNGet2 td ty tx σ H Q := h
theorem g_rng2 {P : Addr → Prop} (h : NkAt H a kvs) (c : P a) : rNG2 (.ref a) H P := ⟨a, rfl, ⟨kvs, h⟩, c⟩
theorem g_ngo (k : NestedKey) (h : NkAt H a kvs) (e : NKey H b k) (c : Q ((lk kvs k).getD z) H) : rNO a (.ref b) z H Q := ⟨_, ⟨kvs, k, b, h, rfl, e, rfl⟩, c⟩
def rNP (x y v : V) (H : Hp) (P : Hp → Prop) : Prop := ∃ a, x = .ref a ∧ NPut H a y v P
theorem g_nput (h : tv σ H fun v H1 => td σ H1 fun x H2 => ty σ H2 fun y H3 => rNP x y v H3 fun H4 => D.nx σ H4) : sNPut td ty tv D σ H := h
theorem g_rnp {P : Hp → Prop} (k : NestedKey) (h : NkAt H a kvs) (e : NKey H b k) (hl : kvs.length < sizeLine) (c : ∀ H', Fr [a] H H' → NkAt H' a (pt kvs k v) → P H') : rNP (.ref a) (.ref b) v H P := ⟨a, rfl, kvs, k, b, h, rfl, e, hl, c⟩
theorem g_nnew (c : ∀ p H', H p = none → Fr [] H H' → NkAt H' p [] → Q (.ref p) H') : tNNew σ H Q := fun p hp H' f n => c p H' hp f n
/-- a pair of a number and a pair -/
def nk12 (s : Int) (c : Int × Int) : NestedKey := .tup [.num s, .tup [.num c.1, .num c.2]]
theorem nk12_key {H : Hp} {b c : Addr} {s : Int} {x : Int × Int} (h : H b = some (.tup [.int s, .ref c])) (g : H c = some (.tup [.int x.1, .int x.2])) : NKey H b (nk12 s x) := by
  refine ⟨rfl, by simp [nk12, NestedKey.depth, NestedKey.depthAll], ?_⟩
  exact .tup h (Nat.le_of_ble_eq_true rfl) (.cons (.int _) (.one' (.tup g (Nat.le_of_ble_eq_true rfl) (.cons (.int _) (.one' (.int _))))))
theorem nk12_inj {s t : Int} {c d : Int × Int} (h : nk12 s c = nk12 t d) : s = t ∧ c = d := by
  unfold nk12 at h
  injection h with h
  injection h with h1 h2
  injection h1 with h1
  injection h2 with h2 _
  injection h2 with h2
  injection h2 with h2 h3
  injection h2 with h2
  injection h3 with h3 _
  injection h3 with h3
  exact ⟨h1, Prod.ext h2 h3⟩
end
end Lw

namespace Toy
open PySem L2 Lw

/-! ### the steps as one word each -/
local macro_rules | `(tactic| walk_at "ne") => `(tactic| first
  | assumption | exact Ne.symm (by assumption)
  | ((refine' ne_of_none ?h (by assumption)); (first | (case h => walk_at "fact") | fail))
  | ((refine' Ne.symm (ne_of_none ?h (by assumption))); (first | (case h => walk_at "fact") | fail))
  | walk_at "ne2")
local macro_rules | `(tactic| walk_at "nin") => `(tactic| first | exact nin0 | (refine nin1 ?_ ?_; walk_at "ne"; walk_at "nin") | assumption)
local macro_rules | `(tactic| walk_at "fact") => `(tactic| first
  | assumption
  | ((refine' Fr.tupAt (by assumption) ?h); (first | (case h => walk_at "fact") | fail))
  | ((refine' Fr.at0 (by assumption) ?h); (first | (case h => walk_at "fact") | fail))
  | ((refine' Fr.at (by assumption) ?h ?k); (first | (case h => walk_at "fact") | fail); (first | (case k => walk_at "nin") | fail)))
local macro_rules | `(tactic| walk_at "none") => `(tactic| first
  | assumption
  | ((refine' Fr.freeL (by assumption) ?h ?k); (first | (case h => walk_at "none") | fail); (first | (case k => walk_at "nin") | fail)))
local macro_rules | `(tactic| walk_at "mem") => `(tactic| first
  | assumption | exact List.mem_cons_self
  | (refine List.mem_cons_of_mem _ ?_; walk_at "mem"))
local macro_rules | `(tactic| walk_at "frn") => `(tactic| first
  | exact frn0
  | (refine frn1 ?_ ?_; (first | exact Or.inl (by walk_at "mem") | exact Or.inr (by walk_at "none")); walk_at "frn"))
local macro_rules | `(tactic| walk_at "fr") => `(tactic| first
  | assumption
  | exact Fr.refl
  | ((refine' Fr.own ?h (by assumption) ?k); (first | (case h => walk_at "fr") | fail); (first | (case k => walk_at "frn") | fail))
  | (refine Fr.of0 ?_; walk_at "fr"))
local macro_rules | `(tactic| walk_at "sz") => `(tactic| first | exact szM (by omega) | exact szM (by simp only [List.length_map, List.length_append, List.length_cons, List.length_nil]; omega))
local macro_rules | `(tactic| walk_at "sql") => `(tactic| first
  | assumption
  | exact SqL.of (by walk_at "fact")
  | ((refine' Fr.sql (by assumption) ?h ?k); (first | (case h => walk_at "sql") | fail); (first | (case k => walk_at "nin") | fail)))
local macro_rules | `(tactic| walk_at "sqt") => `(tactic| first
  | assumption
  | exact SqT.of (by walk_at "fact"))
local macro_rules | `(tactic| walk_at "ty") => `(tactic| first
  | assumption
  | exact TyX.base TyOf.non
  | exact TyX.base (TyOf.int _)
  | exact TyX.base (TyOf.bl _)
  | exact TyX.base (TyOf.str _)
  | exact TyX.base (TyOf.lst (by walk_at "fact"))
  | exact TyX.base (TyOf.tup (by walk_at "fact"))
  | exact TyX.base (TyOf.dK (by walk_at "fact"))
  | exact TyX.base (TyOf.dT (by walk_at "fact")))
local macro_rules | `(tactic| walk_at "kb") => `(tactic| first | exact kb_NoneType_list | exact kb_NoneType_tuple | exact kb_NoneType_bool | exact kb_NoneType_int | exact kb_NoneType_str | exact kb_NoneType_dict | exact kb_bool_list | exact kb_bool_tuple | exact kb_bool_bool | exact kb_bool_int | exact kb_bool_str | exact kb_bool_dict | exact kb_int_list | exact kb_int_tuple | exact kb_int_bool | exact kb_int_int | exact kb_int_str | exact kb_int_dict | exact kb_str_list | exact kb_str_tuple | exact kb_str_bool | exact kb_str_int | exact kb_str_str | exact kb_str_dict | exact kb_list_list | exact kb_list_tuple | exact kb_list_bool | exact kb_list_int | exact kb_list_str | exact kb_list_dict | exact kb_tuple_list | exact kb_tuple_tuple | exact kb_tuple_bool | exact kb_tuple_int | exact kb_tuple_str | exact kb_tuple_dict | exact kb_dict_list | exact kb_dict_tuple | exact kb_dict_bool | exact kb_dict_int | exact kb_dict_str | exact kb_dict_dict)
local macro_rules | `(tactic| walk_at "new") => `(tactic| intro _ _ _ _ _)
local macro_rules | `(tactic| walk_at "go1") => `(tactic| first
  | with_reducible refine g_seq ?_
  | with_reducible refine g_asg ?_
  | with_reducible refine g_name ?_
  | with_reducible refine g_drop ?_
  | with_reducible refine g_ret ?_
  | with_reducible refine g_for ?_
  | with_reducible refine g_lc ?_
  | with_reducible refine g_iL ?_
  | with_reducible refine g_iT ?_
  | with_reducible refine g_i1 ?_
  | with_reducible refine g_i2 ?_
  | with_reducible refine g_yes ?_
  | with_reducible refine g_ttr ?_
  | ((with_reducible refine' g_riL ?h ?_); (first | (case h => walk_at "sql") | fail))
  | ((with_reducible refine' g_riT ?h ?_); (first | (case h => walk_at "sqt") | fail))
  | ((with_reducible refine' g_ri1 ?h ?_); (first | (case h => (first | exact ⟨by decide, by decide⟩ | exact ⟨by omega, by omega⟩ | exact ⟨by simp only [List.length_map]; omega, by simp only [List.length_map]; omega⟩)) | fail))
  | ((with_reducible refine' g_ri2 ?h ?_); (first | (case h => (first | exact ⟨by decide, by decide, by decide, by decide⟩ | exact ⟨by omega, by omega, by omega, by omega⟩)) | fail))
  | with_reducible refine g_retN ?_
  | with_reducible refine g_next ?_
  | with_reducible refine g_cont ?_
  | with_reducible refine g_brk ?_
  | with_reducible refine g_ifs ?_
  | with_reducible refine g_test ?_
  | with_reducible refine g_tb ?_
  | with_reducible refine g_and ?_
  | with_reducible refine g_or ?_
  | with_reducible refine g_not ?_
  | with_reducible refine g_andV ?_
  | with_reducible refine g_orV ?_
  | with_reducible refine g_notV ?_
  | with_reducible refine g_ifE ?_
  | ((with_reducible refine' g_var ?h ?_); (first | (case h => exact rfl) | fail))
  | with_reducible refine g_c ?_
  | with_reducible refine g_op ?_
  | with_reducible refine g_cb ?_
  | with_reducible refine g_cl ?_
  | with_reducible refine g_nil ?_
  | with_reducible refine g_cons ?_
  | with_reducible refine g_tup ?_
  | with_reducible refine g_lst ?_
  | with_reducible refine g_fld ?_
  | with_reducible refine g_sfld ?_
  | with_reducible refine g_sub1 ?_
  | with_reducible refine g_flda ?_
  | with_reducible refine g_rAdd ?_
  | with_reducible refine g_rSub ?_
  | ((with_reducible refine' g_rfldb ?h ?l ?e ?_); (first | (case h => walk_at "fact") | fail); (first | (case l => exact Nat.le_of_ble_eq_true rfl) | fail); (first | (case e => exact rfl) | fail); intro _ _ _)
  | with_reducible refine g_mt ?_
  | with_reducible refine g_mk ?_
  | ((with_reducible refine g_rmk ?_); intro _ _ _ _ _ _ _ _ _)
  | with_reducible refine g_bm ?_
  | with_reducible refine g_bm0 ?_
  | with_reducible refine g_bl ?_
  | with_reducible refine g_add ?_
  | with_reducible refine g_sub ?_
  | with_reducible refine g_lt ?_
  | with_reducible refine g_le ?_
  | with_reducible refine g_gt ?_
  | with_reducible refine g_ge ?_
  | with_reducible refine g_eqI ?_
  | with_reducible refine g_neI ?_
  | with_reducible refine g_eqS ?_
  | with_reducible refine g_neS ?_
  | with_reducible refine g_eqB ?_
  | with_reducible refine g_isN ?_
  | with_reducible refine g_notN ?_
  | with_reducible refine g_max2 ?_
  | with_reducible refine g_min2 ?_
  | with_reducible refine g_ipI ?_
  | with_reducible refine g_iteT ?_
  | with_reducible refine g_iteF ?_
  | with_reducible refine g_iteNT ?_
  | with_reducible refine g_iteNF ?_
  | ((with_reducible refine' g_aug ?h ?_); (first | (case h => exact rfl) | fail))
  | ((with_reducible refine' g_mod ?h ?_); (first | (case h => (first | decide | omega | assumption | (simp only [List.length_map]; omega))) | fail))
  | ((with_reducible refine' g_div ?h ?_); (first | (case h => (first | exact ⟨by decide, by decide⟩ | assumption)) | fail))
  | ((with_reducible refine' g_pow ?h ?_); (first | (case h => (first | exact ⟨by decide, by decide, by decide⟩ | assumption)) | fail))
  | ((with_reducible refine' g_mul ?h ?_); (first | (case h => (first | exact Or.inr ⟨by decide, by decide⟩ | exact Or.inl ⟨by decide, by decide⟩ | exact Or.inr ⟨by omega, by omega⟩ | exact Or.inl ⟨by omega, by omega⟩ | assumption)) | fail))
  | ((with_reducible refine' g_newT ?h ?_); (first | (case h => exact Nat.le_of_ble_eq_true rfl) | fail); walk_at "new")
  | ((with_reducible refine' g_newL ?h ?_); (first | (case h => exact Nat.le_of_ble_eq_true rfl) | fail); walk_at "new")
  | ((with_reducible refine' g_lenL ?h ?_); (first | (case h => walk_at "sql") | fail))
  | ((with_reducible refine' g_lenT ?h ?_); (first | (case h => walk_at "sqt") | fail))
  | ((with_reducible refine' g_ixL ?h ?k ?_); (first | (case h => walk_at "sql") | fail); (first | (case k => exact rfl) | fail))
  | ((with_reducible refine' g_ixT ?h ?k ?_); (first | (case h => walk_at "sqt") | fail); (first | (case k => exact rfl) | fail))
  | ((with_reducible refine' g_listL ?h ?_); (first | (case h => walk_at "sql") | fail); walk_at "new")
  | ((with_reducible refine' g_listT ?h ?_); (first | (case h => walk_at "sqt") | fail); walk_at "new")
  | ((with_reducible refine' g_tupL ?h ?_); (first | (case h => walk_at "sql") | fail); walk_at "new")
  | ((with_reducible refine' g_bmL ?h ?_); (first | (case h => walk_at "fact") | fail))
  | ((with_reducible refine' g_isi ?h ?k ?_); (first | (case h => walk_at "ty") | fail); (first | (case k => walk_at "kb") | fail))
  | ((with_reducible refine' g_append ?h ?l ?_); (first | (case h => walk_at "fact") | fail); (first | (case l => walk_at "sz") | fail); intro _ _ _)
  | ((with_reducible refine' g_rmt ?h ?l ?_); (first | (case h => walk_at "fact") | fail); (first | (case l => exact rfl) | fail))
  | with_reducible refine g_sl ?_
  | with_reducible refine g_noP ?_
  | with_reducible refine g_part ?_
  | with_reducible refine g_rpart ?_
  | ((with_reducible refine' g_slL ?h ?_); (first | (case h => walk_at "sql") | fail); walk_at "new")
  | walk_at "go2"
  | walk_at "go3"
  | walk_at "go4"
  | walk_at "own")
local macro_rules | `(tactic| walk_at "go") => `(tactic| repeat walk_at "go1")
local macro_rules | `(tactic| walk_at "rdt") => `(tactic| first
  | exact Or.inl (by walk_at "fact")
  | exact Or.inr ⟨_, by walk_at "fact"⟩)
local macro_rules | `(tactic| walk_at "go2") => `(tactic| first
  | with_reducible refine g_dget ?_
  | with_reducible refine g_din ?_
  | with_reducible refine g_dnin ?_
  | with_reducible refine g_dput ?_
  | with_reducible refine g_dget2 ?_
  | with_reducible refine g_dget1 ?_
  | with_reducible refine g_iK ?_
  | with_reducible refine g_iE ?_
  | with_reducible refine g_iZ ?_
  | with_reducible refine g_gcons ?_
  | with_reducible refine g_chain ?_
  | with_reducible refine g_rch ?_
  | with_reducible refine g_isO ?_
  | with_reducible refine g_notO ?_
  | with_reducible refine g_eqO ?_
  | with_reducible refine g_neB ?_
  | ((with_reducible refine' g_ninI ?h ?_); (first | (case h => walk_at "sql") | fail))
  | with_reducible refine g_gnil ?_
  | with_reducible refine g_lstRg ?_
  | ((with_reducible refine' g_gtup ?h ?l ?_); (first | (case h => walk_at "sqt") | fail); (first | (case l => exact rfl) | fail))
  | ((with_reducible refine g_dnew ?_); walk_at "new")
  | ((with_reducible refine g_dnewK ?_); walk_at "new")
  | ((with_reducible refine' g_unl ?h ?_); (first | (case h => walk_at "fact") | fail); intro _ _ _)
  | ((with_reducible refine' g_rdg2 ?h ?_); (first | (case h => walk_at "rdt") | fail))
  | ((with_reducible refine' g_rkt ?h ?_); (first | (case h => walk_at "fact") | fail))
  | ((with_reducible refine' g_ren ?h ?_); (first | (case h => walk_at "sql") | fail))
  | ((with_reducible refine' g_rzp ?h ?k ?_); (first | (case h => walk_at "sql") | fail); (first | (case k => walk_at "sql") | fail))
  | ((with_reducible refine' g_bmT ?h ?_); (first | (case h => walk_at "fact") | fail))
  | ((with_reducible refine' g_clearT ?h ?_); (first | (case h => walk_at "fact") | fail); intro _ _ _)
  | ((with_reducible refine' g_rlrg ?h ?_); (first | (case h => exact RgOk.of_le (by omega) (by omega) (by omega) (by omega)) | fail); walk_at "new"))
local macro_rules | `(tactic| walk_at "go4") => `(tactic| first
  | with_reducible refine g_iET ?_
  | with_reducible refine g_iZA ?_
  | with_reducible refine g_pcons ?_
  | with_reducible refine g_pnil ?_
  | ((with_reducible refine g_disp ?_); walk_at "new")
  | with_reducible refine g_nget ?_
  | with_reducible refine g_nin ?_
  | with_reducible refine g_nnin ?_
  | with_reducible refine g_nget2 ?_
  | with_reducible refine g_nput ?_
  | with_reducible refine g_dpop1 ?_
  | with_reducible refine g_un ?_
  | with_reducible refine g_neg ?_
  | with_reducible refine g_intB ?_
  | with_reducible refine g_daug ?_
  | ((with_reducible refine g_nnew ?_); intro _ _ _ _ _)
  | ((with_reducible refine' g_renT ?h ?_); (first | (case h => walk_at "sqt") | fail))
  | ((with_reducible refine' g_rzaT ?h ?k ?_); (first | (case h => walk_at "sqt") | fail); (first | (case k => walk_at "sqt") | fail))
  | ((with_reducible refine' g_rdg2K ?h ?_); (first | (case h => walk_at "rdt") | fail))
  | ((with_reducible refine' g_rdgS ?h ?l ?_); (first | (case h => walk_at "rdt") | fail); (first | (case l => exact rfl) | fail))
  | ((with_reducible refine' g_rdpS ?h ?l ?e ?_); (first | (case h => walk_at "fact") | fail); (first | (case l => exact Nat.le_of_ble_eq_true rfl) | fail); (first | (case e => exact rfl) | fail); intro _ _ _)
  | ((with_reducible refine' g_rkk ?h ?_); (first | (case h => walk_at "fact") | fail))
  | ((with_reducible refine' g_sl1 ?h ?_); (first | (case h => walk_at "sqt") | fail); walk_at "new"))

def top (i : Nat) : Stmt := PySem.Challenge.pw_manydoors_k10_houses_handle.main.body.getD i (.Pass ⟨0, 0, 0, 0⟩)
abbrev s_House_init : Stmt := inClass (top 1) 0
abbrev s_House_bodies : Stmt := inClass (top 1) 1
abbrev s_House_cells : Stmt := inClass (top 1) 3
abbrev s_House_look : Stmt := inClass (top 1) 4
abbrev s_House_decide : Stmt := inClass (top 1) 6
abbrev s_House_closed : Stmt := inClass (top 1) 5
abbrev s_House_handle : Stmt := inClass (top 1) 2
abbrev s_House_give : Stmt := inClass (top 1) 7
abbrev s_House_want : Stmt := inClass (top 1) 8
abbrev s_Lmixed : Stmt := top 3
abbrev s_Lnumbers : Stmt := top 4
abbrev s_Ldraw : Stmt := top 5
abbrev s_Lequal : Stmt := top 6
abbrev s_Lall_equal : Stmt := top 7
abbrev s_Lsetup : Stmt := top 8
abbrev s_Lstay : Stmt := top 9
abbrev s_Lparty : Stmt := top 10
abbrev s_Lneeds : Stmt := top 11
abbrev s_Lhouse : Stmt := top 12
abbrev s_Llook : Stmt := top 13
abbrev s_Ldecide : Stmt := top 14
abbrev s_Lhouse_handles : Stmt := top 15
abbrev s_Lsame_stock : Stmt := top 16
abbrev s_Lsame_house : Stmt := top 17
abbrev s_Lsame_out : Stmt := top 18
abbrev s_Llack : Stmt := top 19
abbrev s_Lclosed : Stmt := top 20
abbrev s_Lgiven : Stmt := top 21
abbrev s_Lthing : Stmt := top 22
abbrev s_law : Stmt := top 23
/-- where the classes stand -/
structure Ad where
  House : Addr
structure Txt (K : PySem.W.Frag) (mg : Str → Option Value) (A : Ad) : Prop where
  b_enumerate : mg "enumerate" = none
  b_range : mg "range" = none
  b_tuple : mg "tuple" = none
  b_all : mg "all" = none
  b_zip : mg "zip" = none
  b_min : mg "min" = none
  b_len : mg "len" = none
  b_isinstance : mg "isinstance" = none
  b_list : mg "list" = none
  b_bool : mg "bool" = none
  b_int : mg "int" = none
  b_str : mg "str" = none
  b_sorted : mg "sorted" = none
  b_dict : mg "dict" = none
  cl_House : Cls K A.House
  no_House_sellers : NoAttr K A.House "sellers"
  no_House_stock : NoAttr K A.House "stock"
  no_House_books : NoAttr K A.House "books"
  no_House_queue : NoAttr K A.House "queue"
  no_House_round : NoAttr K A.House "round"
  no_House_counts : NoAttr K A.House "counts"
  no_House_outgoing : NoAttr K A.House "outgoing"
def F_House (sellers : Int) (stock : Addr) (books : Addr) (queue : Addr) (round : V) (counts : Addr) (outgoing : Addr) : List (Str × V) := [("sellers", .int sellers), ("stock", .ref stock), ("books", .ref books), ("queue", .ref queue), ("round", round), ("counts", .ref counts), ("outgoing", .ref outgoing)]
def spLaw (K : PySem.W.Frag) : Sp := fun vs H Q _ => ∃ x0, vs = [x0] ∧ ∃ (a : Addr) (ns : List Int), x0 = .ref a ∧ SqL K H a (ns.map V.int) ∧ ns.length ≤ 63 ∧ ∀ H', Q (.bl true) H'
local macro_rules | `(tactic| walk_at "own") => `(tactic| first
  | ((with_reducible refine' g_rfld (f := "sellers") (C := Ad.House _) ?h (Txt.cl_House (by assumption)) (Txt.no_House_sellers (by assumption)) ?l ?_); (case h => walk_at "fact"); (case l => exact rfl))
  | ((with_reducible refine' g_rflds (f := "sellers") (C := Ad.House _) ?h (Txt.cl_House (by assumption)) (Txt.no_House_sellers (by assumption)) ?l ?e ?_); (case h => walk_at "fact"); (case l => exact Nat.le_of_ble_eq_true rfl); (case e => exact rfl); intro _ _ _)
  | ((with_reducible refine' g_rflda (f := "sellers") (C := Ad.House _) ?h (Txt.cl_House (by assumption)) (Txt.no_House_sellers (by assumption)) ?l ?_); (case h => walk_at "fact"); (case l => exact rfl))
  | ((with_reducible refine' g_rfld (f := "stock") (C := Ad.House _) ?h (Txt.cl_House (by assumption)) (Txt.no_House_stock (by assumption)) ?l ?_); (case h => walk_at "fact"); (case l => exact rfl))
  | ((with_reducible refine' g_rflds (f := "stock") (C := Ad.House _) ?h (Txt.cl_House (by assumption)) (Txt.no_House_stock (by assumption)) ?l ?e ?_); (case h => walk_at "fact"); (case l => exact Nat.le_of_ble_eq_true rfl); (case e => exact rfl); intro _ _ _)
  | ((with_reducible refine' g_rflda (f := "stock") (C := Ad.House _) ?h (Txt.cl_House (by assumption)) (Txt.no_House_stock (by assumption)) ?l ?_); (case h => walk_at "fact"); (case l => exact rfl))
  | ((with_reducible refine' g_rfld (f := "books") (C := Ad.House _) ?h (Txt.cl_House (by assumption)) (Txt.no_House_books (by assumption)) ?l ?_); (case h => walk_at "fact"); (case l => exact rfl))
  | ((with_reducible refine' g_rflds (f := "books") (C := Ad.House _) ?h (Txt.cl_House (by assumption)) (Txt.no_House_books (by assumption)) ?l ?e ?_); (case h => walk_at "fact"); (case l => exact Nat.le_of_ble_eq_true rfl); (case e => exact rfl); intro _ _ _)
  | ((with_reducible refine' g_rflda (f := "books") (C := Ad.House _) ?h (Txt.cl_House (by assumption)) (Txt.no_House_books (by assumption)) ?l ?_); (case h => walk_at "fact"); (case l => exact rfl))
  | ((with_reducible refine' g_rfld (f := "queue") (C := Ad.House _) ?h (Txt.cl_House (by assumption)) (Txt.no_House_queue (by assumption)) ?l ?_); (case h => walk_at "fact"); (case l => exact rfl))
  | ((with_reducible refine' g_rflds (f := "queue") (C := Ad.House _) ?h (Txt.cl_House (by assumption)) (Txt.no_House_queue (by assumption)) ?l ?e ?_); (case h => walk_at "fact"); (case l => exact Nat.le_of_ble_eq_true rfl); (case e => exact rfl); intro _ _ _)
  | ((with_reducible refine' g_rflda (f := "queue") (C := Ad.House _) ?h (Txt.cl_House (by assumption)) (Txt.no_House_queue (by assumption)) ?l ?_); (case h => walk_at "fact"); (case l => exact rfl))
  | ((with_reducible refine' g_rfld (f := "round") (C := Ad.House _) ?h (Txt.cl_House (by assumption)) (Txt.no_House_round (by assumption)) ?l ?_); (case h => walk_at "fact"); (case l => exact rfl))
  | ((with_reducible refine' g_rflds (f := "round") (C := Ad.House _) ?h (Txt.cl_House (by assumption)) (Txt.no_House_round (by assumption)) ?l ?e ?_); (case h => walk_at "fact"); (case l => exact Nat.le_of_ble_eq_true rfl); (case e => exact rfl); intro _ _ _)
  | ((with_reducible refine' g_rflda (f := "round") (C := Ad.House _) ?h (Txt.cl_House (by assumption)) (Txt.no_House_round (by assumption)) ?l ?_); (case h => walk_at "fact"); (case l => exact rfl))
  | ((with_reducible refine' g_rfld (f := "counts") (C := Ad.House _) ?h (Txt.cl_House (by assumption)) (Txt.no_House_counts (by assumption)) ?l ?_); (case h => walk_at "fact"); (case l => exact rfl))
  | ((with_reducible refine' g_rflds (f := "counts") (C := Ad.House _) ?h (Txt.cl_House (by assumption)) (Txt.no_House_counts (by assumption)) ?l ?e ?_); (case h => walk_at "fact"); (case l => exact Nat.le_of_ble_eq_true rfl); (case e => exact rfl); intro _ _ _)
  | ((with_reducible refine' g_rflda (f := "counts") (C := Ad.House _) ?h (Txt.cl_House (by assumption)) (Txt.no_House_counts (by assumption)) ?l ?_); (case h => walk_at "fact"); (case l => exact rfl))
  | ((with_reducible refine' g_rfld (f := "outgoing") (C := Ad.House _) ?h (Txt.cl_House (by assumption)) (Txt.no_House_outgoing (by assumption)) ?l ?_); (case h => walk_at "fact"); (case l => exact rfl))
  | ((with_reducible refine' g_rflds (f := "outgoing") (C := Ad.House _) ?h (Txt.cl_House (by assumption)) (Txt.no_House_outgoing (by assumption)) ?l ?e ?_); (case h => walk_at "fact"); (case l => exact Nat.le_of_ble_eq_true rfl); (case e => exact rfl); intro _ _ _)
  | ((with_reducible refine' g_rflda (f := "outgoing") (C := Ad.House _) ?h (Txt.cl_House (by assumption)) (Txt.no_House_outgoing (by assumption)) ?l ?_); (case h => walk_at "fact"); (case l => exact rfl)))
section
variable {P : Program} {w : World} {K : PySem.W.Frag} {mg : Str → Option Value} {base : Heap} {A : Ad}
def P_Lmixed (K : PySem.W.Frag) (A : Ad) (x0 x1 : V) (H : Hp) (Q : VK) : Prop := ∃ a b : Int, x0 = .int a ∧ x1 = .int b ∧ ∀ n : Int, 0 ≤ n → n < 2147483647 → Q (.int n) H
def sp_Lmixed (K : PySem.W.Frag) (A : Ad) : Sp := fun vs H Q _ => ∃ x0 x1, vs = [x0, x1] ∧ P_Lmixed K A x0 x1 H Q
theorem c_Lmixed {K : PySem.W.Frag} {A : Ad} {x0 x1 : V} {H : Hp} {Q : VK} {E : XK} (h : P_Lmixed K A x0 x1 H Q) : sp_Lmixed K A [x0, x1] H Q E := ⟨_, _, rfl, h⟩
theorem sc_Lmixed : FnScope ["_law_number", "_law_k", "_law_step"] ["_law_number", "_law_k"] (defScope s_Lmixed) := ⟨rfl, rfl, rfl, by decide +kernel, rfl, by decide +kernel, by decide +kernel⟩
def t_Lmixed (K : PySem.W.Frag) (A : Ad) : TS :=
  (tSeq (tAsg (tOp oMod (tOp oAdd (tOp oAdd (tOp oMul (tVar 0) (tC (.int 48271))) (tOp oMul (tVar 1) (tC (.int 69621)))) (tC (.int 12345))) (tC (.int 2147483647))) (gName 2))
    (tRet (tOp oMod (tOp oAdd (tOp oMul (tVar 2) (tOp oAdd (tOp oDiv (tVar 2) (tC (.int 65536))) (tC (.int 3)))) (tVar 1)) (tC (.int 2147483647)))))
theorem pu_Lmixed (T : Txt K mg A) {x0 x1 : V} {H : Hp} {Q : VK} (h : P_Lmixed K A x0 x1 H Q) : t_Lmixed K A { nx := fun _ H' => Q .non H', rt := Q } [some x0, some x1, none] H := by
  obtain ⟨a, b, rfl, rfl, k⟩ := h
  unfold t_Lmixed
  walk_at "go"
  exact k _ (Int.emod_nonneg _ (by decide)) (Int.emod_lt_of_pos _ (by decide))
theorem ok_Lmixed {f : Addr} {fd : FuncData} (F : Fun K "_law_mixed" "_law_mixed" s_Lmixed f fd) (T : Txt K mg A)  : FnOk P w K mg base CX0 (1) f fd ["_law_number", "_law_k"] (sp_Lmixed K A) := by
  refine F.ok sc_Lmixed (fun vs H Q E h => ?_) (fun cdv Ar outer s H vs Q E hr h => ⟨t_Lmixed K A, ?_, ?_⟩)
  · obtain ⟨x0, x1, rfl, _⟩ := h
    rfl
  · have hu := hu_of hr
    exact (pss_cons (ps_set (i := 2) sc_Lmixed.nd rfl (Or.inl rfl) (pe_op o_mod (pe_op o_add (pe_op o_add (pe_op o_mul (pv 0) pe_int) (pe_op o_mul (pv 1) pe_int)) pe_int) pe_int))
    (pss_one (ps_ret (pe_op o_mod (pe_op o_add (pe_op o_mul (pv 2) (pe_op o_add (pe_op o_div (pv 2) pe_int) pe_int)) (pv 1)) pe_int))))
  · obtain ⟨x0, x1, rfl, h⟩ := h
    exact pu_Lmixed T h
def Sml (ms : List Int) : Prop := ∀ m ∈ ms, 0 ≤ m ∧ m < 1000000
theorem Sml.snoc {ms : List Int} (h : Sml ms) (z : Int) : Sml (ms ++ [z % 1000000]) := fun m hm => by
  rcases List.mem_append.mp hm with q | q
  · exact h m q
  · rw [List.mem_singleton.mp q]; exact ⟨Int.emod_nonneg _ (by decide), Int.emod_lt_of_pos _ (by decide)⟩
def P_Lnumbers (K : PySem.W.Frag) (A : Ad) (x0 : V) (H : Hp) (Q : VK) : Prop := ∃ (a : Addr) (ns : List Int), x0 = .ref a ∧ SqL K H a (ns.map V.int) ∧ ns.length ≤ 63 ∧
  ∀ (l : Addr) (ms : List Int) (H' : Hp), H l = none → Fr [] H H' → H' l = some (.lst (ms.map V.int)) → Sml ms → ms.length ≤ 10000 → Q (.ref l) H'
def sp_Lnumbers (K : PySem.W.Frag) (A : Ad) : Sp := fun vs H Q _ => ∃ x0, vs = [x0] ∧ P_Lnumbers K A x0 H Q
theorem c_Lnumbers {K : PySem.W.Frag} {A : Ad} {x0 : V} {H : Hp} {Q : VK} {E : XK} (h : P_Lnumbers K A x0 H Q) : sp_Lnumbers K A [x0] H Q E := ⟨_, rfl, h⟩
theorem sc_Lnumbers : FnScope ["_law_script", "_law_numbers_here", "_law_cell", "_law_rest", "_law_k"] ["_law_script"] (defScope s_Lnumbers) := ⟨rfl, rfl, rfl, by decide +kernel, rfl, by decide +kernel, by decide +kernel⟩
def t_Lnumbers (K : PySem.W.Frag) (A : Ad) : TS :=
  (tSeq (tAsg (tLst tNil) (gName 1))
    (tSeq (tFor (iList K (tVar 0)) (gName 2) (tIfS (tTest (tOp cGe (tVar 2) (tOp oPow (tC (.int 10)) (tC (.int 18))))) (tSeq (tAsg (tVar 2) (gName 3))
    (tFor (iRng1 (tCons (tC (.int 60)) tNil)) (gName 4) (tIfS (tTest (tOp cGt (tVar 3) (tC (.int 0)))) (tSeq (tDrop (tBM K "list" rAppend (tVar 1) (tCons (tOp oMod (tVar 3) (tC (.int 1000000))) tNil)))
    (tAsg (tOp oDiv (tVar 3) (tC (.int 1000000))) (gName 3))) tNext))) (tSeq (tDrop (tBM K "list" rAppend (tVar 1) (tCons (tOp oMod (tVar 2) (tC (.int 1000000))) tNil)))
    (tFor (iRng1 (tCons (tC (.int 5)) tNil)) (gName 4) (tDrop (tBM K "list" rAppend (tVar 1) (tCons (tOp oMod (tCl (sp_Lmixed K A) (tCons (tCl (sp_Lmixed K A) (tCons (tOp oMod (tVar 2) (tC (.int 2147483647))) (tCons (tVar 4) tNil))) (tCons (tOp oAdd (tVar 4) (tC (.int 7))) tNil))) (tC (.int 1000000))) tNil)))))))
    (tRet (tVar 1))))
theorem pu_Lnumbers (T : Txt K mg A) {x0 : V} {H : Hp} {Q : VK} (h : P_Lnumbers K A x0 H Q) : t_Lnumbers K A { nx := fun _ H' => Q .non H', rt := Q } [some x0, none, none, none, none] H := by
  obtain ⟨a, ns, rfl, hS, hl, k⟩ := h
  unfold t_Lnumbers
  walk_at "go"
  rename_i l H0 nl f0 e0
  refine f_list (xs := ns.map V.int) (fun i σ H' => ∃ (ms : List Int) (v1 v2 v3 : Option V), σ = [some (.ref a), some (.ref l), v1, v2, v3] ∧ Fr [] H H' ∧ H' l = some (.lst (ms.map V.int)) ∧ Sml ms ∧ ms.length ≤ 60 * i)
    ⟨[], none, none, none, rfl, f0, e0, fun _ q => (nomatch q), Nat.zero_le _⟩ ?_ ?_ ?_
  · rintro i σ H' _ ⟨ms, v1, v2, v3, rfl, f, e, s, hm⟩
    exact f.sql hS nin0
  · rintro i x σ H1 hx ⟨ms, v1, v2, v3, rfl, f1, e1, s1, hm⟩
    obtain ⟨n, rfl, hn, hmem⟩ := getI hx
    have hi : i < 63 := Nat.lt_of_lt_of_le ((List.getElem?_eq_some_iff.mp hn).1) hl
    walk_at "go"
    refine g_ite (fun c => ?_) (fun c => ?_)
    · walk_at "go"
      refine f_range (lo := 0) (n := 60) (fun j σ H' => ∃ (ms : List Int) (r : Int) (v3 : Option V), σ = [some (.ref a), some (.ref l), some (.int n), some (.int r), v3] ∧ Fr [] H H' ∧ H' l = some (.lst (ms.map V.int)) ∧ Sml ms ∧ ms.length ≤ 60 * i + j)
        ⟨ms, n, v3, rfl, f1, e1, s1, by omega⟩ ?_ ?_
      · rintro j σ H2 hj ⟨ms2, r, v3, rfl, f2, e2, s2, hm2⟩
        walk_at "go"
        refine g_ite (fun c => ?_) (fun c => ?_)
        · walk_at "go"
          rename_i H3 f3 e3
          exact ⟨ms2 ++ [r % 1000000], _, _, rfl, f2.own1 f3 nl, by rw [e3, List.map_append] <;> rfl, s2.snoc r, by rw [List.length_append]; exact Nat.add_le_add_right hm2 1⟩
        · walk_at "go"
          exact ⟨ms2, _, _, rfl, f2, e2, s2, by omega⟩
      · rintro σ H2 ⟨ms2, r, v3, rfl, f2, e2, s2, hm2⟩
        exact ⟨ms2, _, _, _, rfl, f2, e2, s2, by omega⟩
    · walk_at "go"
      rename_i H3 f3 e3
      refine f_range (lo := 0) (n := 5) (fun j σ H' => ∃ (ms : List Int) (v2 v3 : Option V), σ = [some (.ref a), some (.ref l), some (.int n), v2, v3] ∧ Fr [] H H' ∧ H' l = some (.lst (ms.map V.int)) ∧ Sml ms ∧ ms.length ≤ 60 * i + 1 + j)
        ⟨ms ++ [n % 1000000], v2, v3, rfl, f1.own1 f3 nl, by rw [e3, List.map_append] <;> rfl, s1.snoc n, by rw [List.length_append]; exact Nat.add_le_add_right hm 1⟩ ?_ ?_
      · rintro j σ H4 hj ⟨ms2, v2, v3, rfl, f4, e4, s4, hm4⟩
        walk_at "go"
        refine c_Lmixed ⟨_, _, rfl, rfl, fun z _ _ => ?_⟩
        walk_at "go"
        refine c_Lmixed ⟨_, _, rfl, rfl, fun z2 _ _ => ?_⟩
        walk_at "go"
        rename_i H5 f5 e5
        exact ⟨ms2 ++ [z2 % 1000000], _, _, rfl, f4.own1 f5 nl, by rw [e5, List.map_append] <;> rfl, s4.snoc z2, by rw [List.length_append]; exact Nat.add_le_add_right hm4 1⟩
      · rintro σ H4 ⟨ms2, v2, v3, rfl, f4, e4, s4, hm4⟩
        exact ⟨ms2, _, _, _, rfl, f4, e4, s4, by omega⟩
  · rintro σ H1 ⟨ms, v1, v2, v3, rfl, f1, e1, s1, hm⟩
    walk_at "go"
    rw [List.length_map] at hm
    exact k l ms H1 nl f1 e1 s1 (by omega)
theorem ok_Lnumbers {f : Addr} {fd : FuncData} (F : Fun K "_law_numbers" "_law_numbers" s_Lnumbers f fd) (T : Txt K mg A) (c_Lmixed : Cal P w K mg base "_law_mixed" 1 ["_law_number", "_law_k"] (sp_Lmixed K A)) : FnOk P w K mg base CX0 (2) f fd ["_law_script"] (sp_Lnumbers K A) := by
  refine F.ok sc_Lnumbers (fun vs H Q E h => ?_) (fun cdv Ar outer s H vs Q E hr h => ⟨t_Lnumbers K A, ?_, ?_⟩)
  · obtain ⟨x0, rfl, _⟩ := h
    rfl
  · have hu := hu_of hr
    exact (pss_cons (ps_set (i := 1) sc_Lnumbers.nd rfl (Or.inl rfl) (pe_lst pa_nil))
    (pss_cons (ps_for PassesOwn.never rfl (pi_list (pv 0)) (pg_name (i := 2) sc_Lnumbers.nd rfl (Or.inl rfl)) (pss_one (ps_if (pt_cmpR c_ge (pv 2) (pe_op o_pow pe_int pe_int) (nomark _)) (pss_cons (ps_set (i := 3) sc_Lnumbers.nd rfl (Or.inl rfl) (pv 2))
    (pss_one (ps_for PassesOwn.never rfl (pi_range1 rfl T.b_range (pa_cons pe_int pa_nil)) (pg_name (i := 4) sc_Lnumbers.nd rfl (Or.inl rfl)) (pss_one (ps_if (pt_cmpR c_gt (pv 3) pe_int (nomark _)) (pss_cons (ps_expr (pe_bm PySem.F.plainAttrs_list PySem.F.slot_list_append PySem.F.type_list_append mt_append (pv 1) (pa_cons (pe_op o_mod (pv 3) pe_int) pa_nil)))
    (pss_one (ps_set (i := 3) sc_Lnumbers.nd rfl (Or.inl rfl) (pe_op o_div (pv 3) pe_int)))) pss_nil))))) (pss_cons (ps_expr (pe_bm PySem.F.plainAttrs_list PySem.F.slot_list_append PySem.F.type_list_append mt_append (pv 1) (pa_cons (pe_op o_mod (pv 2) pe_int) pa_nil)))
    (pss_one (ps_for PassesOwn.never rfl (pi_range1 rfl T.b_range (pa_cons pe_int pa_nil)) (pg_name (i := 4) sc_Lnumbers.nd rfl (Or.inl rfl)) (pss_one (ps_expr (pe_bm PySem.F.plainAttrs_list PySem.F.slot_list_append PySem.F.type_list_append mt_append (pv 1) (pa_cons (pe_op o_mod (pe_cl c_Lmixed (hr.mono (by first | decide | omega)) (by rfl) (pa_cons (pe_cl c_Lmixed (hr.mono (by first | decide | omega)) (by rfl) (pa_cons (pe_op o_mod (pv 2) pe_int) (pa_cons (pv 4) pa_nil))) (pa_cons (pe_op o_add (pv 4) pe_int) pa_nil))) pe_int) pa_nil))))))))))
    (pss_one (ps_ret (pv 1)))))
  · obtain ⟨x0, rfl, h⟩ := h
    exact pu_Lnumbers T h
/-- the draws: a list of the numbers' list and a place -/
def Draws (H : Hp) (d l : Addr) : Prop := ∃ (ms : List Int) (k : Int), H d = some (.lst [.ref l, .int k]) ∧ H l = some (.lst (ms.map V.int)) ∧ Sml ms ∧ ms.length ≤ 10000 ∧ 0 ≤ k
theorem Draws.fr {H H' : Hp} {d l : Addr} {m : List Addr} (h : Draws H d l) (f : Fr m H H') (n1 : d ∉ m) (n2 : l ∉ m) : Draws H' d l := by
  obtain ⟨ms, k, h1, h2, h3⟩ := h
  exact ⟨ms, k, f.at h1 n1, f.at h2 n2, h3⟩
def P_Ldraw (K : PySem.W.Frag) (A : Ad) (x0 : V) (H : Hp) (Q : VK) : Prop := ∃ (d l : Addr), x0 = .ref d ∧ Draws H d l ∧
  ∀ (n : Int) (H' : Hp), 0 ≤ n → n < 1000000 → Fr [d] H H' → Draws H' d l → Q (.int n) H'
def sp_Ldraw (K : PySem.W.Frag) (A : Ad) : Sp := fun vs H Q _ => ∃ x0, vs = [x0] ∧ P_Ldraw K A x0 H Q
theorem c_Ldraw {K : PySem.W.Frag} {A : Ad} {x0 : V} {H : Hp} {Q : VK} {E : XK} (h : P_Ldraw K A x0 H Q) : sp_Ldraw K A [x0] H Q E := ⟨_, rfl, h⟩
theorem sc_Ldraw : FnScope ["_law_draws", "_law_at", "_law_first"] ["_law_draws"] (defScope s_Ldraw) := ⟨rfl, rfl, rfl, by decide +kernel, rfl, by decide +kernel, by decide +kernel⟩
def t_Ldraw (K : PySem.W.Frag) (A : Ad) : TS :=
  (tSeq (tAsg (tOp (rIxL K) (tVar 0) (tC (.int 1))) (gName 1))
    (tSeq (tAsg (tOp oAdd (tVar 1) (tC (.int 1))) (gSub (tVar 0) (tC (.int 1)) rSetL))
    (tSeq (tIfS (tTest (tOp cLt (tVar 1) (tCB (rLenSq K) (tCons (tOp (rIxL K) (tVar 0) (tC (.int 0))) tNil)))) (tRet (tOp (rIxL K) (tOp (rIxL K) (tVar 0) (tC (.int 0))) (tVar 1))) tNext)
    (tSeq (tAsg (tOp oAdd (tC (.int 1)) (tVar 1)) (gName 2))
    (tSeq (tIfS (tTest (tOp cGt (tCB (rLenSq K) (tCons (tOp (rIxL K) (tVar 0) (tC (.int 0))) tNil)) (tC (.int 0)))) (tAsg (tOp oAdd (tVar 2) (tOp oMul (tC (.int 1009)) (tOp (rIxL K) (tOp (rIxL K) (tVar 0) (tC (.int 0))) (tC (.int 0))))) (gName 2)) tNext)
    (tRet (tOp oMod (tCl (sp_Lmixed K A) (tCons (tCl (sp_Lmixed K A) (tCons (tVar 2) (tCons (tVar 1) tNil))) (tCons (tC (.int 5)) tNil))) (tC (.int 1000000)))))))))
theorem pu_Ldraw (T : Txt K mg A) {x0 : V} {H : Hp} {Q : VK} (h : P_Ldraw K A x0 H Q) : t_Ldraw K A { nx := fun _ H' => Q .non H', rt := Q } [some x0, none, none] H := by
  obtain ⟨d, l, rfl, ⟨ms, k, hd, hL, sm, hlen, hk⟩, q⟩ := h
  unfold t_Ldraw
  walk_at "go"
  refine g_setL hd (j := 1) rfl fun H1 f1 e1 => ?_
  have nld : l ≠ d := fun z => by
    subst z
    rw [hd] at hL
    have e := congrArg List.length (HO.lst.inj (Option.some.inj hL))
    cases ms with
    | nil => cases e
    | cons a r => cases HO.lst.inj (Option.some.inj hL)
  have hL1 : H1 l = some (.lst (ms.map V.int)) := f1.at hL (nin1 nld nin0)
  have D1 : Draws H1 d l := ⟨ms, k + 1, e1, hL1, sm, hlen, by omega⟩
  have e1' : H1 d = some (.lst [.ref l, .int (k + 1)]) := e1
  walk_at "go"
  rw [List.length_map]
  refine g_ite (fun c => ?_) (fun c => ?_)
  · walk_at "go"
    obtain ⟨v, hv, hv2⟩ := atI_of (xs := ms.map V.int) hk (by rw [List.length_map]; exact c)
    obtain ⟨n, rfl, _, hmem⟩ := getI hv2
    refine g_ixL (SqL.of hL1) hv ?_
    exact q n H1 (sm n hmem).1 (sm n hmem).2 f1 D1
  · have fin : ∀ n : Int, Q (.int (n % 1000000)) H1 := fun n => q _ H1 (Int.emod_nonneg _ (by decide)) (Int.emod_lt_of_pos _ (by decide)) f1 D1
    walk_at "go"
    rw [List.length_map]
    refine g_ite (fun c2 => ?_) (fun c2 => ?_)
    · walk_at "go"
      obtain ⟨v, hv, hv2⟩ := atI_of (xs := ms.map V.int) (z := 0) (Int.le_refl _) (by rw [List.length_map]; exact c2)
      obtain ⟨n, rfl, _, hmem⟩ := getI hv2
      refine g_ixL (SqL.of hL1) hv ?_
      walk_at "go"
      refine c_Lmixed ⟨_, _, rfl, rfl, fun z _ _ => ?_⟩
      walk_at "go"
      refine c_Lmixed ⟨_, _, rfl, rfl, fun z2 _ _ => ?_⟩
      walk_at "go"
      exact fin z2
    · walk_at "go"
      refine c_Lmixed ⟨_, _, rfl, rfl, fun z _ _ => ?_⟩
      walk_at "go"
      refine c_Lmixed ⟨_, _, rfl, rfl, fun z2 _ _ => ?_⟩
      walk_at "go"
      exact fin z2
theorem ok_Ldraw {f : Addr} {fd : FuncData} (F : Fun K "_law_draw" "_law_draw" s_Ldraw f fd) (T : Txt K mg A) (c_Lmixed : Cal P w K mg base "_law_mixed" 1 ["_law_number", "_law_k"] (sp_Lmixed K A)) : FnOk P w K mg base CX0 (2) f fd ["_law_draws"] (sp_Ldraw K A) := by
  refine F.ok sc_Ldraw (fun vs H Q E h => ?_) (fun cdv Ar outer s H vs Q E hr h => ⟨t_Ldraw K A, ?_, ?_⟩)
  · obtain ⟨x0, rfl, _⟩ := h
    rfl
  · have hu := hu_of hr
    exact (pss_cons (ps_set (i := 1) sc_Ldraw.nd rfl (Or.inl rfl) (pe_ix ix_list (pv 0) pe_int (fun _ _ => rfl)))
    (pss_cons (ps_asg (pe_op o_add (pv 1) pe_int) (pg_sub (pv 0) pe_int set_list))
    (pss_cons (ps_if (pt_cmpR c_lt (pv 1) (pe_callB b_len (by rfl) T.b_len (by decide +kernel) (pa_cons (pe_ix ix_list (pv 0) pe_int (fun _ _ => rfl)) pa_nil)) (nomark _)) (pss_one (ps_ret (pe_ix ix_list (pe_ix ix_list (pv 0) pe_int (fun _ _ => rfl)) (pv 1) (fun _ _ => rfl)))) pss_nil)
    (pss_cons (ps_set (i := 2) sc_Ldraw.nd rfl (Or.inl rfl) (pe_op o_add pe_int (pv 1)))
    (pss_cons (ps_if (pt_cmpR c_gt (pe_callB b_len (by rfl) T.b_len (by decide +kernel) (pa_cons (pe_ix ix_list (pv 0) pe_int (fun _ _ => rfl)) pa_nil)) pe_int (nomark _)) (pss_one (ps_set (i := 2) sc_Ldraw.nd rfl (Or.inl rfl) (pe_op o_add (pv 2) (pe_op o_mul pe_int (pe_ix ix_list (pe_ix ix_list (pv 0) pe_int (fun _ _ => rfl)) pe_int (fun _ _ => rfl)))))) pss_nil)
    (pss_one (ps_ret (pe_op o_mod (pe_cl c_Lmixed (hr.mono (by first | decide | omega)) (by rfl) (pa_cons (pe_cl c_Lmixed (hr.mono (by first | decide | omega)) (by rfl) (pa_cons (pv 2) (pa_cons (pv 1) pa_nil))) (pa_cons pe_int pa_nil))) pe_int))))))))
  · obtain ⟨x0, rfl, h⟩ := h
    exact pu_Ldraw T h
theorem Draws.new1 {H : Hp} {d l p : Addr} (h : Draws H d l) (e : H p = none) : d ≠ p := by
  obtain ⟨ms, k, h1, h2, _⟩ := h
  exact ne_of_none h1 e
theorem Draws.new2 {H : Hp} {d l p : Addr} (h : Draws H d l) (e : H p = none) : l ≠ p := by
  obtain ⟨ms, k, h1, h2, _⟩ := h
  exact ne_of_none h2 e
theorem Draws.ne {H : Hp} {d l p C dx : Addr} {fs : List (Str × V)} (h : Draws H d l) (e : H p = some (.ins C dx fs)) : d ≠ p ∧ l ≠ p := by
  obtain ⟨ms, k, h1, h2, _⟩ := h
  exact ⟨ne_of h1 e (by intro z; cases z), ne_of h2 e (by intro z; cases z)⟩
theorem Draws.ne' {H : Hp} {d l p : Addr} {xs : List V} (h : Draws H d l) (e : H p = some (.lst xs)) (n : xs.length ≠ 2) : d ≠ p := by
  obtain ⟨ms, k, h1, h2, _⟩ := h
  exact ne_of h1 e (by intro z; cases z; exact n rfl)
local macro_rules | `(tactic| walk_at "drw") => `(tactic| first
  | assumption
  | ((refine' Draws.fr ?h (by assumption) ?k ?l); (first | (case h => walk_at "drw") | fail); (first | (case k => walk_at "nin") | fail); (first | (case l => walk_at "nin") | fail)))
local macro_rules | `(tactic| walk_at "ne2") => `(tactic| first
  | exact Draws.new1 (by walk_at "drw") (by assumption) | exact Draws.new2 (by walk_at "drw") (by assumption)
  | exact Ne.symm (Draws.new1 (by walk_at "drw") (by assumption)) | exact Ne.symm (Draws.new2 (by walk_at "drw") (by assumption)))
local macro_rules | `(tactic| walk_at "go3") => `(tactic| ((with_reducible show sp_Ldraw _ _ _ _ _ _); refine' c_Ldraw ⟨_, _, rfl, ?D, ?_⟩; (first | (case D => walk_at "drw") | fail); intro _ _ _ _ _ _))


/-! ### _law_equal, _law_all_equal: what reads as one datum is found equal -/
def SeqD (H : Hp) (x : V) (ds : List PyData) : Prop := ∃ (a : Addr) (xs : List V), x = .ref a ∧ (H a = some (.lst xs) ∨ H a = some (.tup xs)) ∧ xs.length ≤ 1000000 ∧ DaL H xs ds
def P_Lequal (K : PySem.W.Frag) (A : Ad) (m : Nat) (x0 x1 : V) (H : Hp) (Q : VK) : Prop := ∃ d : PyData, Da H x0 d ∧ Da H x1 d ∧ dp d ≤ m ∧ Q (.bl true) H
def P_Lall_equal (K : PySem.W.Frag) (A : Ad) (m : Nat) (x0 x1 : V) (H : Hp) (Q : VK) : Prop := ∃ ds : List PyData, SeqD H x0 ds ∧ SeqD H x1 ds ∧ dpL ds + 1 ≤ m ∧ Q (.bl true) H
def sp_Lequal (K : PySem.W.Frag) (A : Ad) (m : Nat) : Sp := fun vs H Q _ => ∃ x0 x1, vs = [x0, x1] ∧ P_Lequal K A m x0 x1 H Q
theorem c_Lequal {K : PySem.W.Frag} {A : Ad} {m : Nat} {x0 x1 : V} {H : Hp} {Q : VK} {E : XK} (h : P_Lequal K A m x0 x1 H Q) : sp_Lequal K A m [x0, x1] H Q E := ⟨_, _, rfl, h⟩
def sp_Lall_equal (K : PySem.W.Frag) (A : Ad) (m : Nat) : Sp := fun vs H Q _ => ∃ x0 x1, vs = [x0, x1] ∧ P_Lall_equal K A m x0 x1 H Q
theorem c_Lall_equal {K : PySem.W.Frag} {A : Ad} {m : Nat} {x0 x1 : V} {H : Hp} {Q : VK} {E : XK} (h : P_Lall_equal K A m x0 x1 H Q) : sp_Lall_equal K A m [x0, x1] H Q E := ⟨_, _, rfl, h⟩
theorem sc_Lequal : FnScope ["_law_actual", "_law_due"] ["_law_actual", "_law_due"] (defScope s_Lequal) := ⟨rfl, rfl, rfl, by decide +kernel, rfl, by decide +kernel, by decide +kernel⟩
def t_Lequal (K : PySem.W.Frag) (A : Ad) (m : Nat) : TS :=
  (tSeq (tIfS (tB (tCB (rIsi K) (tCons (tVar 1) (tCons (tC (.ty "list")) tNil)))) (tSeq (tIfS (tOr (tNot (tB (tCB (rIsi K) (tCons (tVar 0) (tCons (tC (.ty "list")) tNil))))) (tTest (tOp rNe (tCB (rLenSq K) (tCons (tVar 0) tNil)) (tCB (rLenSq K) (tCons (tVar 1) tNil))))) (tRet (tC (.bl false))) tNext)
    (tRet (tCl (sp_Lall_equal K A m) (tCons (tVar 0) (tCons (tVar 1) tNil))))) tNext)
    (tSeq (tIfS (tB (tCB (rIsi K) (tCons (tVar 1) (tCons (tC (.ty "tuple")) tNil)))) (tSeq (tIfS (tOr (tNot (tB (tCB (rIsi K) (tCons (tVar 0) (tCons (tC (.ty "tuple")) tNil))))) (tTest (tOp rNe (tCB (rLenSq K) (tCons (tVar 0) tNil)) (tCB (rLenSq K) (tCons (tVar 1) tNil))))) (tRet (tC (.bl false))) tNext)
    (tRet (tCl (sp_Lall_equal K A m) (tCons (tVar 0) (tCons (tVar 1) tNil))))) tNext)
    (tSeq (tIfS (tB (tCB (rIsi K) (tCons (tVar 1) (tCons (tC (.ty "bool")) tNil)))) (tRet (tAndV (tCB (rIsi K) (tCons (tVar 0) (tCons (tC (.ty "bool")) tNil))) (tOp rEq (tVar 0) (tVar 1)))) tNext)
    (tSeq (tIfS (tB (tCB (rIsi K) (tCons (tVar 1) (tCons (tC (.ty "int")) tNil)))) (tRet (tAndV (tCB (rIsi K) (tCons (tVar 0) (tCons (tC (.ty "int")) tNil))) (tAndV (tNotV (tCB (rIsi K) (tCons (tVar 0) (tCons (tC (.ty "bool")) tNil)))) (tOp rEq (tVar 0) (tVar 1))))) tNext)
    (tSeq (tIfS (tB (tCB (rIsi K) (tCons (tVar 1) (tCons (tC (.ty "str")) tNil)))) (tRet (tAndV (tCB (rIsi K) (tCons (tVar 0) (tCons (tC (.ty "str")) tNil))) (tOp rEq (tVar 0) (tVar 1)))) tNext)
    (tRet (tOp rIsNon (tVar 0) (tC .non))))))))
theorem pu_Lequal (T : Txt K mg A) {m : Nat} {x0 x1 : V} {H : Hp} {Q : VK} (h : P_Lequal K A m x0 x1 H Q) : t_Lequal K A m { nx := fun _ H' => Q .non H', rt := Q } [some x0, some x1] H := by
  obtain ⟨d, h0, h1, hm, q⟩ := h
  unfold t_Lequal
  cases h0 with
  | non =>
    cases h1
    walk_at "go"
    exact q
  | bl b =>
    cases h1
    walk_at "go"
    simpa using q
  | int i =>
    cases h1
    walk_at "go"
    simpa using q
  | str z =>
    cases h1
    walk_at "go"
    simpa using q
  | lst e0 z0 r0 =>
    cases h1 with
    | lst e1 z1 r1 =>
      walk_at "go"
      refine g_iteN (fun c => absurd (by rw [r0.len, r1.len]) c) (fun c => ?_)
      walk_at "go"
      refine c_Lall_equal ⟨_, ⟨_, _, rfl, .inl e0, z0, r0⟩, ⟨_, _, rfl, .inl e1, z1, r1⟩, ?_, q⟩
      simpa [dp] using hm
  | tup e0 z0 r0 =>
    cases h1 with
    | tup e1 z1 r1 =>
      walk_at "go"
      refine g_iteN (fun c => absurd (by rw [r0.len, r1.len]) c) (fun c => ?_)
      walk_at "go"
      refine c_Lall_equal ⟨_, ⟨_, _, rfl, .inr e0, z0, r0⟩, ⟨_, _, rfl, .inr e1, z1, r1⟩, ?_, q⟩
      simpa [dp] using hm
theorem ok_Lequal {f : Addr} {fd : FuncData} (F : Fun K "_law_equal" "_law_equal" s_Lequal f fd) (T : Txt K mg A) {m : Nat} (c_Lall_equal : Cal P w K mg base "_law_all_equal" (2 * m) ["_law_actual", "_law_due"] (sp_Lall_equal K A m)) : FnOk P w K mg base CX0 (2 * m + 1) f fd ["_law_actual", "_law_due"] (sp_Lequal K A m) := by
  refine F.ok sc_Lequal (fun vs H Q E h => ?_) (fun cdv Ar outer s H vs Q E hr h => ⟨t_Lequal K A m, ?_, ?_⟩)
  · obtain ⟨x0, x1, rfl, _⟩ := h
    rfl
  · have hu := hu_of hr
    exact (pss_cons (ps_if (pt_val (pe_callB call_isi (by rfl) T.b_isinstance (by decide +kernel) (pa_cons (pv 1) (pa_cons (pe_bltn (by rfl) T.b_list (by decide +kernel) (v := .ty "list") rfl) pa_nil)))) (pss_cons (ps_if (PW.pt (pw_or (pt_not (pt_val (pe_callB call_isi (by rfl) T.b_isinstance (by decide +kernel) (pa_cons (pv 0) (pa_cons (pe_bltn (by rfl) T.b_list (by decide +kernel) (v := .ty "list") rfl) pa_nil))))) (pw_or1 (pt_cmpR op_ne (pe_callB b_len (by rfl) T.b_len (by decide +kernel) (pa_cons (pv 0) pa_nil)) (pe_callB b_len (by rfl) T.b_len (by decide +kernel) (pa_cons (pv 1) pa_nil)) (nomark _))))) (pss_one (ps_ret pe_bl)) pss_nil)
    (pss_one (ps_ret (pe_cl c_Lall_equal (hr.mono (by first | decide | omega)) (by rfl) (pa_cons (pv 0) (pa_cons (pv 1) pa_nil)))))) pss_nil)
    (pss_cons (ps_if (pt_val (pe_callB call_isi (by rfl) T.b_isinstance (by decide +kernel) (pa_cons (pv 1) (pa_cons (pe_bltn (by rfl) T.b_tuple (by decide +kernel) (v := .ty "tuple") rfl) pa_nil)))) (pss_cons (ps_if (PW.pt (pw_or (pt_not (pt_val (pe_callB call_isi (by rfl) T.b_isinstance (by decide +kernel) (pa_cons (pv 0) (pa_cons (pe_bltn (by rfl) T.b_tuple (by decide +kernel) (v := .ty "tuple") rfl) pa_nil))))) (pw_or1 (pt_cmpR op_ne (pe_callB b_len (by rfl) T.b_len (by decide +kernel) (pa_cons (pv 0) pa_nil)) (pe_callB b_len (by rfl) T.b_len (by decide +kernel) (pa_cons (pv 1) pa_nil)) (nomark _))))) (pss_one (ps_ret pe_bl)) pss_nil)
    (pss_one (ps_ret (pe_cl c_Lall_equal (hr.mono (by first | decide | omega)) (by rfl) (pa_cons (pv 0) (pa_cons (pv 1) pa_nil)))))) pss_nil)
    (pss_cons (ps_if (pt_val (pe_callB call_isi (by rfl) T.b_isinstance (by decide +kernel) (pa_cons (pv 1) (pa_cons (pe_bltn (by rfl) T.b_bool (by decide +kernel) (v := .ty "bool") rfl) pa_nil)))) (pss_one (ps_ret (pe_and (pe_callB call_isi (by rfl) T.b_isinstance (by decide +kernel) (pa_cons (pv 0) (pa_cons (pe_bltn (by rfl) T.b_bool (by decide +kernel) (v := .ty "bool") rfl) pa_nil))) (pe_one (pe_cmpR op_eq (pv 0) (pv 1) (nomark _)))))) pss_nil)
    (pss_cons (ps_if (pt_val (pe_callB call_isi (by rfl) T.b_isinstance (by decide +kernel) (pa_cons (pv 1) (pa_cons (pe_bltn (by rfl) T.b_int (by decide +kernel) (v := .ty "int") rfl) pa_nil)))) (pss_one (ps_ret (pe_and (pe_callB call_isi (by rfl) T.b_isinstance (by decide +kernel) (pa_cons (pv 0) (pa_cons (pe_bltn (by rfl) T.b_int (by decide +kernel) (v := .ty "int") rfl) pa_nil))) (pe_and (pe_not (pe_callB call_isi (by rfl) T.b_isinstance (by decide +kernel) (pa_cons (pv 0) (pa_cons (pe_bltn (by rfl) T.b_bool (by decide +kernel) (v := .ty "bool") rfl) pa_nil)))) (pe_one (pe_cmpR op_eq (pv 0) (pv 1) (nomark _))))))) pss_nil)
    (pss_cons (ps_if (pt_val (pe_callB call_isi (by rfl) T.b_isinstance (by decide +kernel) (pa_cons (pv 1) (pa_cons (pe_bltn (by rfl) T.b_str (by decide +kernel) (v := .ty "str") rfl) pa_nil)))) (pss_one (ps_ret (pe_and (pe_callB call_isi (by rfl) T.b_isinstance (by decide +kernel) (pa_cons (pv 0) (pa_cons (pe_bltn (by rfl) T.b_str (by decide +kernel) (v := .ty "str") rfl) pa_nil))) (pe_one (pe_cmpR op_eq (pv 0) (pv 1) (nomark _)))))) pss_nil)
    (pss_one (ps_ret (pe_cmpR c_isN (pv 0) pe_non (nomark _)))))))))
  · obtain ⟨x0, x1, rfl, h⟩ := h
    exact pu_Lequal T h
theorem sc_Lall_equal : FnScope ["_law_actual", "_law_due", "_law_k"] ["_law_actual", "_law_due"] (defScope s_Lall_equal) := ⟨rfl, rfl, rfl, by decide +kernel, rfl, by decide +kernel, by decide +kernel⟩
def t_Lall_equal (K : PySem.W.Frag) (A : Ad) (m : Nat) : TS :=
  (tSeq (tFor (iRng1 (tCons (tCB (rLenSq K) (tCons (tVar 1) tNil)) tNil)) (gName 2) (tIfS (tNot (tB (tCl (sp_Lequal K A m) (tCons (tOp (rIx K) (tVar 0) (tVar 2)) (tCons (tOp (rIx K) (tVar 1) (tVar 2)) tNil))))) (tRet (tC (.bl false))) tNext))
    (tRet (tC (.bl true))))
theorem g_lenS {xs : List V} {H : Hp} {Q : VK} {p : Addr} (h : H p = some (.lst xs) ∨ H p = some (.tup xs)) (q : Q (.int xs.length) H) : rLenSq K [.ref p] H Q := h.elim (fun e => g_lenL (SqL.of e) q) (fun e => g_lenT (SqT.of e) q)
theorem g_ixS {xs : List V} {H : Hp} {Q : VK} {p : Addr} {i : Int} {v : V} (h : H p = some (.lst xs) ∨ H p = some (.tup xs)) (ha : atI xs i = some v) (q : Q v H) : rIx K (.ref p) (.int i) H Q :=
  h.elim (fun e => .inl (g_ixL (SqL.of e) ha q)) (fun e => .inr (.inl (g_ixT (SqT.of e) ha q)))
theorem pu_Lall_equal (T : Txt K mg A) {m : Nat} {x0 x1 : V} {H : Hp} {Q : VK} (h : P_Lall_equal K A (m + 1) x0 x1 H Q) : t_Lall_equal K A m { nx := fun _ H' => Q .non H', rt := Q } [some x0, some x1, none] H := by
  obtain ⟨ds, ⟨a, xs, rfl, ha, hz, ra⟩, ⟨b, ys, rfl, hb, hy, rb⟩, hm, q⟩ := h
  unfold t_Lall_equal
  walk_at "go"
  refine g_lenS hb ?_
  walk_at "go"
  have hl := ra.len
  have hk := rb.len
  refine f_range (lo := 0) (fun i σ H' => (∃ v, σ = [some (.ref a), some (.ref b), v]) ∧ H' = H) ⟨⟨_, rfl⟩, rfl⟩ ?_ ?_
  · rintro i σ H' hi ⟨⟨v, rfl⟩, rfl⟩
    have hi2 : i < xs.length := by omega
    have hi3 : i < ys.length := by omega
    obtain ⟨d, hd, dd⟩ := ra.get (List.getElem?_eq_getElem hi2)
    obtain ⟨d', hd', dd'⟩ := rb.get (List.getElem?_eq_getElem hi3)
    rw [hd] at hd'
    cases hd'
    walk_at "go"
    refine g_ixS ha (v := xs[i]) (by rw [Int.zero_add]; exact atI_nat (List.getElem?_eq_getElem hi2)) ?_
    walk_at "go"
    refine g_ixS hb (v := ys[i]) (by rw [Int.zero_add]; exact atI_nat (List.getElem?_eq_getElem hi3)) ?_
    walk_at "go"
    refine c_Lequal ⟨d, dd, dd', ?_, ?_⟩
    · have := dpL_get hd
      omega
    · walk_at "go"
      exact ⟨⟨_, rfl⟩, rfl⟩
  · rintro σ H' ⟨⟨v, rfl⟩, rfl⟩
    walk_at "go"
    exact q
theorem ok_Lall_equal {f : Addr} {fd : FuncData} (F : Fun K "_law_all_equal" "_law_all_equal" s_Lall_equal f fd) (T : Txt K mg A) {m : Nat} (c_Lequal : Cal P w K mg base "_law_equal" (2 * m + 1) ["_law_actual", "_law_due"] (sp_Lequal K A m)) : FnOk P w K mg base CX0 (2 * m + 2) f fd ["_law_actual", "_law_due"] (sp_Lall_equal K A (m + 1)) := by
  refine F.ok sc_Lall_equal (fun vs H Q E h => ?_) (fun cdv Ar outer s H vs Q E hr h => ⟨t_Lall_equal K A m, ?_, ?_⟩)
  · obtain ⟨x0, x1, rfl, _⟩ := h
    rfl
  · have hu := hu_of hr
    exact (pss_cons (ps_for PassesOwn.never rfl (pi_range1 rfl T.b_range (pa_cons (pe_callB b_len (by rfl) T.b_len (by decide +kernel) (pa_cons (pv 1) pa_nil)) pa_nil)) (pg_name (i := 2) sc_Lall_equal.nd rfl (Or.inl rfl)) (pss_one (ps_if (pt_not (pt_val (pe_cl c_Lequal (hr.mono (by first | decide | omega)) (by rfl) (pa_cons (pe_ix ix_seq (pv 0) (pv 2) (fun _ _ => rfl)) (pa_cons (pe_ix ix_seq (pv 1) (pv 2) (fun _ _ => rfl)) pa_nil))))) (pss_one (ps_ret pe_bl)) pss_nil)))
    (pss_one (ps_ret pe_bl)))
  · obtain ⟨x0, x1, rfl, h⟩ := h
    exact pu_Lall_equal T h
theorem eq_all {fE fA : Addr} {fdE fdA : FuncData} (FE : Fun K "_law_equal" "_law_equal" s_Lequal fE fdE) (T : Txt K mg A) (hE : mg "_law_equal" = some (.ref fE)) (bE : Binds K fdE ["_law_actual", "_law_due"] [])
    (FA : Fun K "_law_all_equal" "_law_all_equal" s_Lall_equal fA fdA) (hA : mg "_law_all_equal" = some (.ref fA)) (bA : Binds K fdA ["_law_actual", "_law_due"] []) :
    ∀ m : Nat, Cal P w K mg base "_law_all_equal" (2 * m) ["_law_actual", "_law_due"] (sp_Lall_equal K A m)
  | 0 => by
    have no : ∀ vs H Q E, ¬ sp_Lall_equal K A 0 vs H Q E := fun vs H Q E h => by
      obtain ⟨x0, x1, _, ds, _, _, hm, _⟩ := h
      omega
    exact ⟨fA, fdA, ⟨fun vs H Q E h => absurd h (no vs H Q E), fun A outer s H args us vs Q E _ _ _ _ h => absurd h (no vs H Q E)⟩, hA, FA.kp, bA⟩
  | m + 1 => ⟨fA, fdA, ok_Lall_equal FA T ⟨fE, fdE, ok_Lequal FE T (eq_all FE T hE bE FA hA bA m), hE, FE.kp, bE⟩, hA, FA.kp, bA⟩
theorem eq_one {fE fA : Addr} {fdE fdA : FuncData} (FE : Fun K "_law_equal" "_law_equal" s_Lequal fE fdE) (T : Txt K mg A) (hE : mg "_law_equal" = some (.ref fE)) (bE : Binds K fdE ["_law_actual", "_law_due"] [])
    (FA : Fun K "_law_all_equal" "_law_all_equal" s_Lall_equal fA fdA) (hA : mg "_law_all_equal" = some (.ref fA)) (bA : Binds K fdA ["_law_actual", "_law_due"] []) (m : Nat) :
    Cal P w K mg base "_law_equal" (2 * m + 1) ["_law_actual", "_law_due"] (sp_Lequal K A m) := ⟨fE, fdE, ok_Lequal FE T (eq_all FE T hE bE FA hA bA m), hE, FE.kp, bE⟩

/-! ### setups, stays and parties as data -/
structure Setup where
  rooms : List Int
  nights : Int
  sellers : Int
  prices : List (List Int)
  share : Int
def rowD (r : List Int) : PyData := .tuple (r.map .int)
def setupD (S : Setup) : PyData := .tuple [rowD S.rooms, .int S.nights, .int S.sellers, .tuple (S.prices.map rowD), .int S.share]
structure SetupOk (S : Setup) : Prop where
  k1 : 1 ≤ S.rooms.length
  k3 : S.rooms.length ≤ 3
  rm : ∀ z ∈ S.rooms, 0 ≤ z ∧ z ≤ 4
  n1 : 1 ≤ S.nights
  n2 : S.nights ≤ 12
  s1 : 1 ≤ S.sellers
  s2 : S.sellers ≤ 4
  pl : S.prices.length = S.rooms.length
  pn : ∀ r ∈ S.prices, r.length = S.nights.toNat ∧ ∀ z ∈ r, 0 ≤ z ∧ z ≤ 1000000
  h1 : 0 ≤ S.share
  h2 : S.share ≤ 100
theorem imm_row (r : List Int) : imm (rowD r) = true := immL_of fun d hd => by obtain ⟨n, _, rfl⟩ := List.mem_map.mp hd; rfl
theorem imm_setup (S : Setup) : imm (setupD S) = true := by
  have h : immL (S.prices.map rowD) = true := immL_of fun d hd => by obtain ⟨r, _, rfl⟩ := List.mem_map.mp hd; exact imm_row r
  simp [setupD, imm, immL, h, imm_row]
/-- the parts of a setup in the heap -/
structure SetAt (H : Hp) (x : V) (S : Setup) (s r p : Addr) (ps : List V) : Prop where
  e : x = .ref s
  t : H s = some (.tup [.ref r, .int S.nights, .int S.sellers, .ref p, .int S.share])
  r : H r = some (.tup (S.rooms.map V.int))
  p : H p = some (.tup ps)
  ps : DaL H ps (S.prices.map rowD)
theorem SetAt.of {H : Hp} {x : V} {S : Setup} (h : Da H x (setupD S)) : ∃ s r p ps, SetAt H x S s r p ps := by
  obtain ⟨s, xs, rfl, e, _, q⟩ := h.tup1
  cases q with
  | cons a q => cases q with
    | cons b q => cases q with
      | cons c q => cases q with
        | cons d q => cases q with
          | cons f q =>
            cases q
            obtain ⟨r, rs, rfl, er, _, qr⟩ := a.tup1
            obtain ⟨p, ps, rfl, ep, _, qp⟩ := d.tup1
            cases b.int1
            cases c.int1
            cases f.int1
            rw [DaL.ints qr] at er
            exact ⟨s, r, p, ps, rfl, e, er, ep, qp⟩
theorem SetAt.row {H : Hp} {x : V} {S : Setup} {s r p : Addr} {ps : List V} (h : SetAt H x S s r p ps) {k : Nat} {row : List Int} (e : S.prices[k]? = some row) : ∃ a, ps[k]? = some (.ref a) ∧ H a = some (.tup (row.map V.int)) := by
  obtain ⟨v, hv, dv⟩ := h.ps.get' (i := k) (d := rowD row) (by rw [List.getElem?_map, e]; rfl)
  obtain ⟨a, xs, rfl, ea, _, q⟩ := dv.tup1
  rw [DaL.ints q] at ea
  exact ⟨a, hv, ea⟩
/-- a stay: kind, first, end -/
abbrev Stay := Int × Int × Int
def stayD (s : Stay) : PyData := .tuple [.int s.1, .int s.2.1, .int s.2.2]
def partyD (ss : List Stay) : PyData := .tuple (ss.map stayD)
def StayOk (S : Setup) (s : Stay) : Prop := 0 ≤ s.1 ∧ s.1 < S.rooms.length ∧ 0 ≤ s.2.1 ∧ s.2.1 < s.2.2 ∧ s.2.2 ≤ S.nights
theorem imm_stay (s : Stay) : imm (stayD s) = true := rfl
theorem imm_stays (ss : List Stay) : immL (ss.map stayD) = true := immL_of fun d hd => by obtain ⟨n, _, rfl⟩ := List.mem_map.mp hd; rfl
theorem imm_party (ss : List Stay) : imm (partyD ss) = true := imm_stays ss
theorem stay_at {H : Hp} {v : V} {s : Stay} (h : Da H v (stayD s)) : ∃ a, v = .ref a ∧ H a = some (.tup [.int s.1, .int s.2.1, .int s.2.2]) := by
  obtain ⟨a, xs, rfl, e, _, q⟩ := h.tup1
  obtain ⟨x, y, z, rfl, dx, dy, dz⟩ := q.three
  cases dx.int1
  cases dy.int1
  cases dz.int1
  exact ⟨a, rfl, e⟩
theorem stays_get {H : Hp} {xs : List V} {ss : List Stay} {i : Nat} {x : V} (h : DaL H xs (ss.map stayD)) (e : xs[i]? = some x) : ∃ s a, ss[i]? = some s ∧ x = .ref a ∧ H a = some (.tup [.int s.1, .int s.2.1, .int s.2.2]) ∧ Da H x (stayD s) := by
  obtain ⟨d, hd, dd⟩ := h.get e
  rw [List.getElem?_map] at hd
  cases q : ss[i]? with
  | none => rw [q] at hd; cases hd
  | some s =>
    rw [q] at hd
    cases hd
    obtain ⟨a, rfl, ea⟩ := stay_at dd
    exact ⟨s, a, rfl, rfl, ea, dd⟩

/-! ### setups, stays and parties are drawn -/
def P_Lsetup (K : PySem.W.Frag) (A : Ad) (x0 : V) (H : Hp) (Q : VK) : Prop := ∃ (d l : Addr), x0 = .ref d ∧ Draws H d l ∧
  ∀ (v : V) (S : Setup) (H' : Hp), SetupOk S → Da H' v (setupD S) → Fr [d] H H' → Draws H' d l → Q v H'
def sp_Lsetup (K : PySem.W.Frag) (A : Ad) : Sp := fun vs H Q _ => ∃ x0, vs = [x0] ∧ P_Lsetup K A x0 H Q
theorem c_Lsetup {K : PySem.W.Frag} {A : Ad} {x0 : V} {H : Hp} {Q : VK} {E : XK} (h : P_Lsetup K A x0 H Q) : sp_Lsetup K A [x0] H Q E := ⟨_, rfl, h⟩
theorem sc_Lsetup : FnScope ["_law_draws", "_law_rooms", "_law_nights", "_law_prices", "_law_k", "_law_t"] ["_law_draws"] (defScope s_Lsetup) := ⟨rfl, rfl, rfl, by decide +kernel, rfl, by decide +kernel, by decide +kernel⟩
def t_Lsetup (K : PySem.W.Frag) (A : Ad) : TS :=
  (tSeq (tAsg (tCB (rTupOf K) (tCons (tLc (iRng1 (tCons (tOp oAdd (tC (.int 1)) (tOp oMod (tCl (sp_Ldraw K A) (tCons (tVar 0) tNil)) (tC (.int 3)))) tNil)) (gName 4) tYes (tOp oMod (tCl (sp_Ldraw K A) (tCons (tVar 0) tNil)) (tC (.int 5))) [4]) tNil)) (gName 1))
    (tSeq (tAsg (tOp oAdd (tC (.int 1)) (tOp oMod (tCl (sp_Ldraw K A) (tCons (tVar 0) tNil)) (tC (.int 12)))) (gName 2))
    (tSeq (tAsg (tLst tNil) (gName 3))
    (tSeq (tFor (iRng1 (tCons (tCB (rLenSq K) (tCons (tVar 1) tNil)) tNil)) (gName 4) (tDrop (tBM K "list" rAppend (tVar 3) (tCons (tCB (rTupOf K) (tCons (tLc (iRng1 (tCons (tVar 2) tNil)) (gName 5) tYes (tOp (rIxL K) (tLst (tCons (tOp oMod (tCl (sp_Ldraw K A) (tCons (tVar 0) tNil)) (tC (.int 200))) (tCons (tC (.int 0)) (tCons (tOp oPow (tC (.int 10)) (tC (.int 6))) (tCons (tOp oMod (tCl (sp_Ldraw K A) (tCons (tVar 0) tNil)) (tC (.int 1000001))) tNil))))) (tOp oMod (tCl (sp_Ldraw K A) (tCons (tVar 0) tNil)) (tC (.int 4)))) [5]) tNil)) tNil))))
    (tRet (tTup (tCons (tVar 1) (tCons (tVar 2) (tCons (tOp oAdd (tC (.int 1)) (tOp oMod (tCl (sp_Ldraw K A) (tCons (tVar 0) tNil)) (tC (.int 4)))) (tCons (tCB (rTupOf K) (tCons (tVar 3) tNil)) (tCons (tOp (rIxL K) (tLst (tCons (tOp oMod (tCl (sp_Ldraw K A) (tCons (tVar 0) tNil)) (tC (.int 101))) (tCons (tC (.int 0)) (tCons (tC (.int 100)) tNil)))) (tOp oMod (tCl (sp_Ldraw K A) (tCons (tVar 0) tNil)) (tC (.int 3)))) tNil)))))))))))
theorem pu_Lsetup (T : Txt K mg A) {x0 : V} {H : Hp} {Q : VK} (h : P_Lsetup K A x0 H Q) : t_Lsetup K A { nx := fun _ H' => Q .non H', rt := Q } [some x0, none, none, none, none, none] H := by
  obtain ⟨d, l, rfl, D0, k⟩ := h
  unfold t_Lsetup
  walk_at "go"
  rename_i z H1 z0 z1 f1 D1
  refine l_range (lo := 0) (n := (1 + z % 3).toNat) fun Dl H2 nD f2 e2 => ⟨fun i acc H' => ∃ r : List Int, acc = r.map V.int ∧ r.length = i ∧ (∀ y ∈ r, 0 ≤ y ∧ y ≤ 4) ∧ Fr [d] H1 H' ∧ Draws H' d l, ⟨[], rfl, rfl, fun _ q => (nomatch q), f2.of0, D1.fr f2 nin0 nin0⟩, fun i acc H' hi ha ⟨r, e, hr, hm, f, D⟩ => ?_, fun acc H' ha ⟨r, e, hr, hm, f, D⟩ => ?_⟩
  · walk_at "go"
    refine ⟨rfl, ?_⟩
    walk_at "go"
    rename_i y H3 y0 y1 f3 D3
    have nd : Dl ≠ d := (D1.new1 nD).symm
    have nl : Dl ≠ l := (D1.new2 nD).symm
    refine lcY_of (f3.at ha (nin1 nd nin0)) (by rw [e]; walk_at "sz") fun H5 f5 e5 => ⟨r ++ [y % 5], by rw [e, List.map_append]; rfl, by rw [List.length_append, hr]; rfl, fun q hq => ?_, ?_, D3.fr f5 (nin1 nd.symm nin0) (nin1 nl.symm nin0)⟩
    · rcases List.mem_append.mp hq with h | h
      · exact hm q h
      · rw [List.mem_singleton.mp h]; omega
    · exact (f.transL f3).own1 f5 nD
  · subst e
    walk_at "go"
    rename_i rt H3 n3 f3 e3 w H4 w0 w1 f4 D4 pl H5 n5 f5 e5
    have nd : d ≠ pl := D4.new1 n5
    have nl : l ≠ pl := D4.new2 n5
    have er : H5 rt = some (.tup (r.map V.int)) := by walk_at "fact"
    have D5 : Draws H5 d l := D4.fr f5 nin0 nin0
    have npl : H pl = none := by walk_at "none"
    have F5 : Fr [d] H H5 := by walk_at "fr"
    rw [List.length_map]
    clear f1 D1 nD f2 e2 f D ha n3 f3 e3 f4 D4 f5 n5
    have hrl : r.length ≤ 3 ∧ 1 ≤ r.length := by omega
    refine f_range (lo := 0) (n := r.length) (fun i σ H' => ∃ (v4 v5 : Option V) (rows : List (List Int)) (xs : List V), σ = [some (.ref d), some (.ref rt), some (.int (1 + w % 12)), some (.ref pl), v4, v5] ∧ Fr [d] H H' ∧ Draws H' d l ∧ H' rt = some (.tup (r.map V.int)) ∧
      H' pl = some (.lst xs) ∧ DaL H' xs (rows.map rowD) ∧ rows.length = i ∧ ∀ q ∈ rows, q.length = (1 + w % 12).toNat ∧ ∀ y ∈ q, 0 ≤ y ∧ y ≤ 1000000)
      ⟨_, _, [], [], rfl, F5, D5, er, e5, .nil, rfl, fun _ q => (nomatch q)⟩ ?_ ?_
    · rintro i σ H6 hi ⟨v4, v5, rows, xs, rfl, f6, D6, er6, ep6, dr, hri, hq⟩
      have hxl : xs.length ≤ 10 := by rw [dr.len, List.length_map]; omega
      walk_at "go"
      refine l_range (lo := 0) (n := (1 + w % 12).toNat) fun Dl H7 nD f7 e7 => ⟨fun j acc H' => ∃ q : List Int, acc = q.map V.int ∧ q.length = j ∧ (∀ y ∈ q, 0 ≤ y ∧ y ≤ 1000000) ∧ Fr [d] H6 H' ∧ Draws H' d l, ⟨[], rfl, rfl, fun _ q => (nomatch q), f7.of0, D6.fr f7 nin0 nin0⟩, fun j acc H' hj ha ⟨q, e, hr, hm, f, D⟩ => ?_, fun acc H' ha ⟨q, e, hql, hm, f, D⟩ => ?_⟩
      · walk_at "go"
        refine ⟨rfl, ?_⟩
        walk_at "go"
        rename_i y1 H8 y10 y11 f8 D8 y2 H9 y20 y21 f9 D9 t H10 n10 f10 e10 y3 H11 y30 y31 f11 D11
        have hnd : Dl ≠ d := (D6.new1 nD).symm
        have hnl : Dl ≠ l := (D6.new2 nD).symm
        have htd : t ≠ d := (D9.new1 n10).symm
        obtain ⟨v, hv, hmem⟩ := atI_mem (xs := [V.int (y1 % 200), V.int 0, V.int (10 ^ Int.toNat 6), V.int (y2 % 1000001)]) (z := y3 % 4) (by omega) (by show y3 % 4 < 4; omega)
        obtain ⟨y, rfl, hy⟩ : ∃ y, v = .int y ∧ 0 ≤ y ∧ y ≤ 1000000 := by
          rcases List.mem_cons.mp hmem with h | hmem
          · exact ⟨_, h, by omega, by omega⟩
          rcases List.mem_cons.mp hmem with h | hmem
          · exact ⟨_, h, by omega, by omega⟩
          rcases List.mem_cons.mp hmem with h | hmem
          · exact ⟨_, h, by decide, by decide⟩
          · exact ⟨_, List.mem_singleton.mp hmem, by omega, by omega⟩
        refine g_ixL (SqL.of (f11.at e10 (nin1 htd nin0))) hv ?_
        have hD : H11 Dl = some (.lst acc) := f11.at (f10.at0 (f9.at (f8.at ha (nin1 hnd nin0)) (nin1 hnd nin0))) (nin1 hnd nin0)
        refine lcY_of hD (by rw [e]; walk_at "sz") fun H12 f12 e12 => ⟨q ++ [y], by rw [e, List.map_append]; rfl, by rw [List.length_append, hr]; rfl, fun z hz => ?_, ?_, D11.fr f12 (nin1 hnd.symm nin0) (nin1 hnl.symm nin0)⟩
        · rcases List.mem_append.mp hz with h | h
          · exact hm z h
          · rw [List.mem_singleton.mp h]; exact hy
        · exact ((((f.transL f8).transL f9).then0 f10).transL f11).own1 f12 nD
      · subst e
        have hpd : pl ≠ d := nd.symm
        have ep7 : H' pl = some (.lst xs) := f.at ep6 (nin1 hpd nin0)
        have hql2 : q.length ≤ 12 := by omega
        walk_at "go"
        rename_i t H8 n8 f8 e8 H9 f9 e9
        exact ⟨_, _, rows ++ [q], _, rfl, ((f6.transL f).then0 f8).own1 f9 npl, (D.fr f8 nin0 nin0).fr f9 (nin1 nd nin0) (nin1 nl nin0), f9.tup _ _ (f8.tup _ _ (f.tup _ _ er6)), e9,
          by rw [List.map_append]; exact (DaL.frL f9 (DaL.frL f8 (DaL.frL f dr (immL_of fun d hd => by obtain ⟨r, _, rfl⟩ := List.mem_map.mp hd; exact imm_row r)) (immL_of fun d hd => by obtain ⟨r, _, rfl⟩ := List.mem_map.mp hd; exact imm_row r)) (immL_of fun d hd => by obtain ⟨r, _, rfl⟩ := List.mem_map.mp hd; exact imm_row r)).append (.one' (.tup (f9.tup _ _ e8) (by rw [List.length_map]; omega) (.ofInts q))),
          by rw [List.length_append, hri]; rfl, fun z hz => (List.mem_append.mp hz).elim (hq z) fun h => by rw [List.mem_singleton.mp h]; exact ⟨hql, hm⟩⟩
    · rintro σ H6 ⟨v4, v5, rows, xs, rfl, f6, D6, er6, ep6, dr, hri, hq⟩
      have hxl : xs.length ≤ 10 := by rw [dr.len, List.length_map]; omega
      have hpd : pl ≠ d := nd.symm
      walk_at "go"
      rename_i m H7 m0 m1 f7 D7 pt H8 n8 f8 e8 y1 H9 y10 y11 f9 D9 t H10 n10 f10 e10 y2 H11 y20 y21 f11 D11
      have htd : t ≠ d := (D9.new1 n10).symm
      obtain ⟨v, hv, hmem⟩ := atI_mem (xs := [V.int (y1 % 101), V.int 0, V.int 100]) (z := y2 % 3) (by omega) (by show y2 % 3 < 3; omega)
      obtain ⟨y, rfl, hy⟩ : ∃ y, v = .int y ∧ 0 ≤ y ∧ y ≤ 100 := by
        rcases List.mem_cons.mp hmem with h | hmem
        · exact ⟨_, h, by omega, by omega⟩
        rcases List.mem_cons.mp hmem with h | hmem
        · exact ⟨_, h, by omega, by omega⟩
        · exact ⟨_, List.mem_singleton.mp hmem, by decide, by decide⟩
      refine g_ixL (SqL.of (f11.at e10 (nin1 htd nin0))) hv ?_
      walk_at "go"
      rename_i st H12 n12 f12 e12
      have ir : immL (rows.map rowD) = true := immL_of fun d hd => by obtain ⟨r, _, rfl⟩ := List.mem_map.mp hd; exact imm_row r
      have F : Fr [d] H6 H12 := by walk_at "fr"
      refine k _ ⟨r, 1 + w % 12, 1 + m % 4, rows, y⟩ H12 ⟨hrl.2, hrl.1, hm, by show 1 ≤ 1 + w % 12; omega, by show 1 + w % 12 ≤ 12; omega, by show 1 ≤ 1 + m % 4; omega, by show 1 + m % 4 ≤ 4; omega, hri, hq, hy.1, hy.2⟩ (.tup e12 (Nat.le_of_ble_eq_true rfl) ?_) (f6.transL F) (D11.fr f12 nin0 nin0)
      exact .cons (.tup (F.tup _ _ er6) (by rw [List.length_map]; omega) (.ofInts r)) (.cons (.int _) (.cons (.int _) (.cons (.tup (f12.tup _ _ (f11.tup _ _ (f10.tup _ _ (f9.tup _ _ e8)))) (by omega) (DaL.frL F dr ir)) (.one' (.int _)))))
theorem ok_Lsetup {f : Addr} {fd : FuncData} (F : Fun K "_law_setup" "_law_setup" s_Lsetup f fd) (T : Txt K mg A) (c_Ldraw : Cal P w K mg base "_law_draw" 2 ["_law_draws"] (sp_Ldraw K A)) : FnOk P w K mg base CX0 (3) f fd ["_law_draws"] (sp_Lsetup K A) := by
  refine F.ok sc_Lsetup (fun vs H Q E h => ?_) (fun cdv Ar outer s H vs Q E hr h => ⟨t_Lsetup K A, ?_, ?_⟩)
  · obtain ⟨x0, rfl, _⟩ := h
    rfl
  · have hu := hu_of hr
    exact (pss_cons (ps_set (i := 1) sc_Lsetup.nd rfl (Or.inl rfl) (pe_callTy b_tuple (by rfl) T.b_tuple (by decide +kernel) (pa_cons (pe_lc (own := [("_law_k", 4)]) (g := (gName 4)) (tt := tYes) rfl sc_Lsetup.nd (pi_range1 rfl T.b_range (pa_cons (pe_op o_add pe_int (pe_op o_mod (pe_cl c_Ldraw (hr.mono (by first | decide | omega)) (by rfl) (pa_cons (pv 0) pa_nil)) pe_int)) pa_nil)) (blkOk_by (N := ["_law_draws", "_law_rooms", "_law_nights", "_law_prices", "_law_k", "_law_t"]) (sc := defScope s_Lsetup) (own := [("_law_k", 4)]) (by decide +kernel)) (fun _ _ _ _ _ => (pg_name (i := 4) sc_Lsetup.nd rfl (Or.inl rfl))) (fun _ _ _ _ _ => pts_nil) (fun _ _ _ _ _ => (pe_op o_mod (pe_cl c_Ldraw (hr.mono (by first | decide | omega)) (by rfl) (pa_cons (pv 0) pa_nil)) pe_int))) pa_nil)))
    (pss_cons (ps_set (i := 2) sc_Lsetup.nd rfl (Or.inl rfl) (pe_op o_add pe_int (pe_op o_mod (pe_cl c_Ldraw (hr.mono (by first | decide | omega)) (by rfl) (pa_cons (pv 0) pa_nil)) pe_int)))
    (pss_cons (ps_set (i := 3) sc_Lsetup.nd rfl (Or.inl rfl) (pe_lst pa_nil))
    (pss_cons (ps_for PassesOwn.never rfl (pi_range1 rfl T.b_range (pa_cons (pe_callB b_len (by rfl) T.b_len (by decide +kernel) (pa_cons (pv 1) pa_nil)) pa_nil)) (pg_name (i := 4) sc_Lsetup.nd rfl (Or.inl rfl)) (pss_one (ps_expr (pe_bm PySem.F.plainAttrs_list PySem.F.slot_list_append PySem.F.type_list_append mt_append (pv 3) (pa_cons (pe_callTy b_tuple (by rfl) T.b_tuple (by decide +kernel) (pa_cons (pe_lc (own := [("_law_t", 5)]) (g := (gName 5)) (tt := tYes) rfl sc_Lsetup.nd (pi_range1 rfl T.b_range (pa_cons (pv 2) pa_nil)) (blkOk_by (N := ["_law_draws", "_law_rooms", "_law_nights", "_law_prices", "_law_k", "_law_t"]) (sc := defScope s_Lsetup) (own := [("_law_t", 5)]) (by decide +kernel)) (fun _ _ _ _ _ => (pg_name (i := 5) sc_Lsetup.nd rfl (Or.inl rfl))) (fun _ _ _ _ _ => pts_nil) (fun _ _ _ _ _ => (pe_ix ix_list (pe_lst (pa_cons (pe_op o_mod (pe_cl c_Ldraw (hr.mono (by first | decide | omega)) (by rfl) (pa_cons (pv 0) pa_nil)) pe_int) (pa_cons pe_int (pa_cons (pe_op o_pow pe_int pe_int) (pa_cons (pe_op o_mod (pe_cl c_Ldraw (hr.mono (by first | decide | omega)) (by rfl) (pa_cons (pv 0) pa_nil)) pe_int) pa_nil))))) (pe_op o_mod (pe_cl c_Ldraw (hr.mono (by first | decide | omega)) (by rfl) (pa_cons (pv 0) pa_nil)) pe_int) (fun _ _ => rfl)))) pa_nil)) pa_nil)))))
    (pss_one (ps_ret (pe_tup (pa_cons (pv 1) (pa_cons (pv 2) (pa_cons (pe_op o_add pe_int (pe_op o_mod (pe_cl c_Ldraw (hr.mono (by first | decide | omega)) (by rfl) (pa_cons (pv 0) pa_nil)) pe_int)) (pa_cons (pe_callTy b_tuple (by rfl) T.b_tuple (by decide +kernel) (pa_cons (pv 3) pa_nil)) (pa_cons (pe_ix ix_list (pe_lst (pa_cons (pe_op o_mod (pe_cl c_Ldraw (hr.mono (by first | decide | omega)) (by rfl) (pa_cons (pv 0) pa_nil)) pe_int) (pa_cons pe_int (pa_cons pe_int pa_nil)))) (pe_op o_mod (pe_cl c_Ldraw (hr.mono (by first | decide | omega)) (by rfl) (pa_cons (pv 0) pa_nil)) pe_int) (fun _ _ => rfl)) pa_nil))))))))))))
  · obtain ⟨x0, rfl, h⟩ := h
    exact pu_Lsetup T h
def P_Lstay (K : PySem.W.Frag) (A : Ad) (x0 x1 : V) (H : Hp) (Q : VK) : Prop := ∃ (d l : Addr) (S : Setup), x0 = .ref d ∧ Draws H d l ∧ SetupOk S ∧ Da H x1 (setupD S) ∧
  ∀ (v : V) (s : Stay) (H' : Hp), StayOk S s → Da H' v (stayD s) → Fr [d] H H' → Draws H' d l → Q v H'
def sp_Lstay (K : PySem.W.Frag) (A : Ad) : Sp := fun vs H Q _ => ∃ x0 x1, vs = [x0, x1] ∧ P_Lstay K A x0 x1 H Q
theorem c_Lstay {K : PySem.W.Frag} {A : Ad} {x0 x1 : V} {H : Hp} {Q : VK} {E : XK} (h : P_Lstay K A x0 x1 H Q) : sp_Lstay K A [x0, x1] H Q E := ⟨_, _, rfl, h⟩
theorem sc_Lstay : FnScope ["_law_draws", "_law_setup_here", "_law_first", "_law_most"] ["_law_draws", "_law_setup_here"] (defScope s_Lstay) := ⟨rfl, rfl, rfl, by decide +kernel, rfl, by decide +kernel, by decide +kernel⟩
def t_Lstay (K : PySem.W.Frag) (A : Ad) : TS :=
  (tSeq (tAsg (tOp oMod (tCl (sp_Ldraw K A) (tCons (tVar 0) tNil)) (tOp (rIxT K) (tVar 1) (tC (.int 1)))) (gName 2))
    (tSeq (tAsg (tOp oSub (tOp (rIxT K) (tVar 1) (tC (.int 1))) (tVar 2)) (gName 3))
    (tRet (tTup (tCons (tOp oMod (tCl (sp_Ldraw K A) (tCons (tVar 0) tNil)) (tCB (rLenSq K) (tCons (tOp (rIxT K) (tVar 1) (tC (.int 0))) tNil))) (tCons (tVar 2) (tCons (tOp oAdd (tOp oAdd (tVar 2) (tC (.int 1))) (tOp oMod (tCl (sp_Ldraw K A) (tCons (tVar 0) tNil)) (tOp (rIxL K) (tLst (tCons (tVar 3) (tCons (tCB rMin2 (tCons (tVar 3) (tCons (tC (.int 3)) tNil))) tNil))) (tOp oMod (tCl (sp_Ldraw K A) (tCons (tVar 0) tNil)) (tC (.int 2)))))) tNil)))))))
theorem pu_Lstay (T : Txt K mg A) {x0 x1 : V} {H : Hp} {Q : VK} (h : P_Lstay K A x0 x1 H Q) : t_Lstay K A { nx := fun _ H' => Q .non H', rt := Q } [some x0, some x1, none, none] H := by
  obtain ⟨d, l, S, rfl, D0, ok, dS, k⟩ := h
  obtain ⟨s, r, p, ps, sa⟩ := SetAt.of dS
  cases sa.e
  have e0 := sa.t
  have er := sa.r
  have hn := ok.n1
  have hk := ok.k1
  unfold t_Lstay
  walk_at "go"
  rename_i y1 H1 y10 y11 f1 D1 y2 H2 y20 y21 f2 D2 y3 H3 y30 y31 f3 D3 t H4 n4 f4 e4 y4 H5 y40 y41 f5 D5
  have htd : t ≠ d := (D3.new1 n4).symm
  have b0 := Int.emod_nonneg y1 (show S.nights ≠ 0 by omega)
  have b1 := Int.emod_lt_of_pos y1 (show 0 < S.nights by omega)
  have g0 := Int.emod_nonneg y2 (show ((S.rooms.length : Nat) : Int) ≠ 0 by omega)
  have g1 := Int.emod_lt_of_pos y2 (show 0 < ((S.rooms.length : Nat) : Int) by omega)
  obtain ⟨v, hv, hmem⟩ := atI_mem (xs := [V.int (S.nights - y1 % S.nights), V.int (if (3 : Int) < S.nights - y1 % S.nights then 3 else S.nights - y1 % S.nights)]) (z := y4 % 2) (by omega) (by show y4 % 2 < 2; omega)
  obtain ⟨y, rfl, hy⟩ : ∃ y, v = .int y ∧ 0 < y ∧ y ≤ S.nights - y1 % S.nights := by
    rcases List.mem_cons.mp hmem with h | hmem
    · exact ⟨_, h, by omega, by omega⟩
    · exact ⟨_, List.mem_singleton.mp hmem, by split <;> omega, by split <;> omega⟩
  refine g_ixL (SqL.of (f5.at e4 (nin1 htd nin0))) hv ?_
  obtain ⟨hy0, hy1⟩ := hy
  walk_at "go"
  rename_i st H6 n6 f6 e6
  have k0 := Int.emod_nonneg y3 (show y ≠ 0 by omega)
  have k1 := Int.emod_lt_of_pos y3 hy0
  rw [List.length_map] at e6
  exact k _ (y2 % (S.rooms.length : Int), y1 % S.nights, y1 % S.nights + 1 + y3 % y) H6 ⟨g0, g1, b0, by show y1 % S.nights < y1 % S.nights + 1 + y3 % y; omega, by show y1 % S.nights + 1 + y3 % y ≤ S.nights; omega⟩
    (.tup e6 (Nat.le_of_ble_eq_true rfl) (.cons (.int _) (.cons (.int _) (.one' (.int _))))) (by walk_at "fr") (D5.fr f6 nin0 nin0)
theorem ok_Lstay {f : Addr} {fd : FuncData} (F : Fun K "_law_stay" "_law_stay" s_Lstay f fd) (T : Txt K mg A) (c_Ldraw : Cal P w K mg base "_law_draw" 2 ["_law_draws"] (sp_Ldraw K A)) : FnOk P w K mg base CX0 (3) f fd ["_law_draws", "_law_setup_here"] (sp_Lstay K A) := by
  refine F.ok sc_Lstay (fun vs H Q E h => ?_) (fun cdv Ar outer s H vs Q E hr h => ⟨t_Lstay K A, ?_, ?_⟩)
  · obtain ⟨x0, x1, rfl, _⟩ := h
    rfl
  · have hu := hu_of hr
    exact (pss_cons (ps_set (i := 2) sc_Lstay.nd rfl (Or.inl rfl) (pe_op o_mod (pe_cl c_Ldraw (hr.mono (by first | decide | omega)) (by rfl) (pa_cons (pv 0) pa_nil)) (pe_ix ix_tup (pv 1) pe_int (fun _ _ => rfl))))
    (pss_cons (ps_set (i := 3) sc_Lstay.nd rfl (Or.inl rfl) (pe_op o_sub (pe_ix ix_tup (pv 1) pe_int (fun _ _ => rfl)) (pv 2)))
    (pss_one (ps_ret (pe_tup (pa_cons (pe_op o_mod (pe_cl c_Ldraw (hr.mono (by first | decide | omega)) (by rfl) (pa_cons (pv 0) pa_nil)) (pe_callB b_len (by rfl) T.b_len (by decide +kernel) (pa_cons (pe_ix ix_tup (pv 1) pe_int (fun _ _ => rfl)) pa_nil))) (pa_cons (pv 2) (pa_cons (pe_op o_add (pe_op o_add (pv 2) pe_int) (pe_op o_mod (pe_cl c_Ldraw (hr.mono (by first | decide | omega)) (by rfl) (pa_cons (pv 0) pa_nil)) (pe_ix ix_list (pe_lst (pa_cons (pv 3) (pa_cons (pe_callB (b_min2 rfl) (by rfl) T.b_min (by decide +kernel) (pa_cons (pv 3) (pa_cons pe_int pa_nil))) pa_nil))) (pe_op o_mod (pe_cl c_Ldraw (hr.mono (by first | decide | omega)) (by rfl) (pa_cons (pv 0) pa_nil)) pe_int) (fun _ _ => rfl)))) pa_nil))))))))
  · obtain ⟨x0, x1, rfl, h⟩ := h
    exact pu_Lstay T h
theorem stays_alike (ss : List Stay) : PySem.W.AllAlike (ss.map stayD) := fun d hd d' hd' => by
  obtain ⟨s, _, rfl⟩ := List.mem_map.mp hd
  obtain ⟨s', _, rfl⟩ := List.mem_map.mp hd'
  rfl
theorem stays_sortable (ss : List Stay) : PySem.W.Sortable (ss.map stayD) := .inl fun d hd => by
  obtain ⟨s, _, rfl⟩ := List.mem_map.mp hd
  exact ⟨_, _, rfl⟩
theorem stays_depth (ss : List Stay) : ∀ d ∈ ss.map stayD, d.depth ≤ 60 := fun d hd => by
  obtain ⟨s, _, rfl⟩ := List.mem_map.mp hd
  simp [stayD, PyData.depth, PyData.depthAll]
/-- stays in their order -/
def ssrt (ss : List Stay) : List Stay := ss.mergeSort (PySem.W.dataLe false stayD)
theorem ssrt_map (ss : List Stay) : (ssrt ss).map stayD = srt (ss.map stayD) := srt_map stayD ss
theorem ssrt_perm (ss : List Stay) : (ssrt ss).Perm ss := List.mergeSort_perm ss _
theorem ssrt_ssrt (ss : List Stay) : ssrt (ssrt ss) = ssrt ss := List.mergeSort_of_pairwise (PySem.W.sort_pairwise (dle_total stayD) ss)
/-- a party of the setup -/
structure PartyOk (S : Setup) (ss : List Stay) : Prop where
  l1 : 1 ≤ ss.length
  l4 : ss.length ≤ 4
  ok : ∀ s ∈ ss, StayOk S s
  so : ssrt ss = ss

def P_Lparty (K : PySem.W.Frag) (A : Ad) (x0 x1 : V) (H : Hp) (Q : VK) : Prop := ∃ (d l : Addr) (S : Setup), x0 = .ref d ∧ Draws H d l ∧ SetupOk S ∧ Da H x1 (setupD S) ∧
  ∀ (v : V) (ss : List Stay) (H' : Hp), PartyOk S ss → Da H' v (partyD ss) → Fr [d] H H' → Draws H' d l → Q v H'
def sp_Lparty (K : PySem.W.Frag) (A : Ad) : Sp := fun vs H Q _ => ∃ x0 x1, vs = [x0, x1] ∧ P_Lparty K A x0 x1 H Q
theorem c_Lparty {K : PySem.W.Frag} {A : Ad} {x0 x1 : V} {H : Hp} {Q : VK} {E : XK} (h : P_Lparty K A x0 x1 H Q) : sp_Lparty K A [x0, x1] H Q E := ⟨_, _, rfl, h⟩
theorem sc_Lparty : FnScope ["_law_draws", "_law_setup_here", "_law_many", "_law_stays", "_law_k"] ["_law_draws", "_law_setup_here"] (defScope s_Lparty) := ⟨rfl, rfl, rfl, by decide +kernel, rfl, by decide +kernel, by decide +kernel⟩
def t_Lparty (K : PySem.W.Frag) (A : Ad) : TS :=
  (tSeq (tAsg (tOp (rIxL K) (tLst (tCons (tC (.int 1)) (tCons (tC (.int 1)) (tCons (tC (.int 1)) (tCons (tC (.int 2)) (tCons (tC (.int 2)) (tCons (tC (.int 3)) (tCons (tC (.int 4)) tNil)))))))) (tOp oMod (tCl (sp_Ldraw K A) (tCons (tVar 0) tNil)) (tC (.int 7)))) (gName 2))
    (tSeq (tAsg (tLc (iRng1 (tCons (tVar 2) tNil)) (gName 4) tYes (tCl (sp_Lstay K A) (tCons (tVar 0) (tCons (tVar 1) tNil))) [4]) (gName 3))
    (Evl.tCut (tIfS (tAnd (tTest (tOp cGt (tVar 2) (tC (.int 1)))) (tTest (tOp rEq (tOp oMod (tCl (sp_Ldraw K A) (tCons (tVar 0) tNil)) (tC (.int 4))) (tC (.int 0))))) (tAsg (tOp (rIxL K) (tVar 3) (tC (.int 0))) (gSub (tVar 3) (tC (.int 1)) rSetL)) tNext)
    (tRet (tCB (rTupOf K) (tCons (tCB (rSortD K) (tCons (tVar 3) tNil)) tNil))))))
theorem pu_Lparty (T : Txt K mg A) {x0 x1 : V} {H : Hp} {Q : VK} (h : P_Lparty K A x0 x1 H Q) : t_Lparty K A { nx := fun _ H' => Q .non H', rt := Q } [some x0, some x1, none, none, none] H := by
  obtain ⟨d, l, S, rfl, D0, ok, dS, k⟩ := h
  unfold t_Lparty
  walk_at "go"
  rename_i t H1 n1 f1 e1 y H2 y0 y1 f2 D2
  have htd : t ≠ d := ((D0.fr f1 nin0 nin0).ne' e1 (by decide)).symm
  obtain ⟨v, hv, hmem⟩ := atI_mem (xs := [V.int 1, V.int 1, V.int 1, V.int 2, V.int 2, V.int 3, V.int 4]) (z := y % 7) (by omega) (by show y % 7 < 7; omega)
  obtain ⟨m, rfl, hm1, hm4⟩ : ∃ m, v = .int m ∧ 1 ≤ m ∧ m ≤ 4 := by
    simp only [List.mem_cons, List.not_mem_nil, or_false] at hmem
    rcases hmem with h | h | h | h | h | h | h <;> exact ⟨_, h, by decide, by decide⟩
  refine g_ixL (SqL.of (f2.at e1 (nin1 htd nin0))) hv ?_
  have F2 : Fr [d] H H2 := f2.pre0' f1
  have dS2 := Da.frL F2 dS (imm_setup S)
  walk_at "go"
  refine l_range (lo := 0) (n := m.toNat) fun Dl H3 nD f3 e3 => ⟨fun i acc H' => ∃ ss : List Stay, DaL H' acc (ss.map stayD) ∧ ss.length = i ∧ (∀ s ∈ ss, StayOk S s) ∧ Fr [d] H2 H' ∧ Draws H' d l, ⟨[], .nil, rfl, fun _ q => (nomatch q), f3.of0, D2.fr f3 nin0 nin0⟩, fun i acc H' hi ha ⟨ss, ds, hs, hk, f, D⟩ => ?_, fun acc H' ha ⟨ss, ds, hs, hk, f, D⟩ => ?_⟩
  · walk_at "go"
    refine ⟨rfl, ?_⟩
    walk_at "go"
    refine c_Lstay ⟨d, l, S, rfl, D, ok, Da.frL f dS2 (imm_setup S), fun v s H4 so dv f4 D4 => ?_⟩
    have hnd : Dl ≠ d := (D2.new1 nD).symm
    have hnl : Dl ≠ l := (D2.new2 nD).symm
    have hac : acc.length ≤ 100 := by rw [ds.len, List.length_map]; omega
    refine lcY_of (f4.at ha (nin1 hnd nin0)) (by walk_at "sz") fun H5 f5 e5 => ⟨ss ++ [s], ?_, by rw [List.length_append, hs]; rfl, fun z hz => ?_, (f.transL f4).own1 f5 nD, D4.fr f5 (nin1 hnd.symm nin0) (nin1 hnl.symm nin0)⟩
    · rw [List.map_append]
      exact (DaL.frL f5 (DaL.frL f4 ds (imm_stays ss)) (imm_stays ss)).append (.one' (Da.frL f5 dv rfl))
    · rcases List.mem_append.mp hz with h | h
      · exact hk z h
      · rw [List.mem_singleton.mp h]; exact so
  · have hnd : Dl ≠ d := (D2.new1 nD).symm
    have hnl : Dl ≠ l := (D2.new2 nD).symm
    have nDH : H Dl = none := F2.freeL nD (nin1 hnd nin0)
    have hac : acc.length = ss.length := by rw [ds.len, List.length_map]
    walk_at "go"
    refine g_cut (fun σ H' => ∃ (v4 : Option V) (acc : List V) (ss : List Stay), σ = [some (.ref d), some x1, some (.int m), some (.ref Dl), v4] ∧ H' Dl = some (.lst acc) ∧ DaL H' acc (ss.map stayD) ∧ 1 ≤ ss.length ∧ ss.length ≤ 4 ∧ (∀ s ∈ ss, StayOk S s) ∧ Fr [d] H H' ∧ Draws H' d l) ?_ ?_
    · walk_at "go"
      refine g_ite (fun c => ?_) (fun c => ?_)
      · walk_at "go"
        rename_i z H4 z0 z1 f4 D4
        refine g_ite (fun c2 => ?_) (fun c2 => ?_)
        · obtain ⟨w, hw, hw2⟩ := atI_of (xs := acc) (z := 0) (Int.le_refl _) (by omega)
          obtain ⟨s, a, hs0, rfl, _, da⟩ := stays_get ds hw2
          have ha4 : H4 Dl = some (.lst acc) := f4.at ha (nin1 hnd nin0)
          walk_at "go"
          refine g_ixL (SqL.of ha4) hw ?_
          walk_at "go"
          refine g_setL ha4 (j := 1) (by unfold ixN; rw [if_pos (by decide), if_pos (by omega)]; rfl) fun H5 f5 e5 => ?_
          walk_at "go"
          refine ⟨_, _, ss.set 1 s, rfl, e5, ?_, by rw [List.length_set]; omega, by rw [List.length_set]; omega, fun z hz => ?_, ((F2.transL f).transL f4).own1 f5 nDH, D4.fr f5 (nin1 hnd.symm nin0) (nin1 hnl.symm nin0)⟩
          · rw [List.map_set]
            exact (DaL.frL f5 (DaL.frL f4 ds (imm_stays ss)) (imm_stays ss)).set (Da.frL f5 (Da.frL f4 da rfl) rfl)
          · rcases List.mem_or_eq_of_mem_set hz with h | h
            · exact hk z h
            · rw [h]; exact hk s (List.mem_of_getElem? hs0)
        · walk_at "go"
          exact ⟨_, _, ss, rfl, f4.at ha (nin1 hnd nin0), DaL.frL f4 ds (imm_stays ss), by omega, by omega, hk, (F2.transL f).transL f4, D4⟩
      · walk_at "go"
        exact ⟨_, _, ss, rfl, ha, ds, by omega, by omega, hk, F2.transL f, D⟩
    · rintro σ H4 ⟨v4, acc, ss, rfl, ha, ds, h1, h4, hk, F4, D4⟩
      walk_at "go"
      refine g_srt (SqL.of ha) ds (stays_alike ss) (stays_sortable ss) (stays_depth ss) fun p H5 ys n5 f5 e5 dy => ?_
      rw [← ssrt_map] at dy
      have dy5 := DaL.frL f5 dy (imm_stays _)
      have hy : ys.length = ss.length := by rw [dy.len, List.length_map, (ssrt_perm ss).length_eq]
      walk_at "go"
      rename_i q H6 n6 f6 e6
      exact k _ (ssrt ss) H6 ⟨by rw [(ssrt_perm ss).length_eq]; exact h1, by rw [(ssrt_perm ss).length_eq]; exact h4, fun s hs => hk s ((ssrt_perm ss).mem_iff.mp hs), ssrt_ssrt ss⟩ (.tup e6 (by omega) (DaL.frL f6 dy5 (imm_stays _))) ((F4.then0 f5).then0 f6) ((D4.fr f5 nin0 nin0).fr f6 nin0 nin0)
theorem ok_Lparty {f : Addr} {fd : FuncData} (F : Fun K "_law_party" "_law_party" s_Lparty f fd) (T : Txt K mg A) (c_Lstay : Cal P w K mg base "_law_stay" 3 ["_law_draws", "_law_setup_here"] (sp_Lstay K A)) (c_Ldraw : Cal P w K mg base "_law_draw" 2 ["_law_draws"] (sp_Ldraw K A)) : FnOk P w K mg base CX0 (4) f fd ["_law_draws", "_law_setup_here"] (sp_Lparty K A) := by
  refine F.ok sc_Lparty (fun vs H Q E h => ?_) (fun cdv Ar outer s H vs Q E hr h => ⟨t_Lparty K A, ?_, ?_⟩)
  · obtain ⟨x0, x1, rfl, _⟩ := h
    rfl
  · have hu := hu_of hr
    exact (pss_cons (ps_set (i := 2) sc_Lparty.nd rfl (Or.inl rfl) (pe_ix ix_list (pe_lst (pa_cons pe_int (pa_cons pe_int (pa_cons pe_int (pa_cons pe_int (pa_cons pe_int (pa_cons pe_int (pa_cons pe_int pa_nil)))))))) (pe_op o_mod (pe_cl c_Ldraw (hr.mono (by first | decide | omega)) (by rfl) (pa_cons (pv 0) pa_nil)) pe_int) (fun _ _ => rfl)))
    (pss_cons (ps_setLc (i := 3) (own := [("_law_k", 4)]) (g := (gName 4)) (tt := tYes) rfl sc_Lparty.nd rfl rfl (sw_true rfl rfl rfl (by decide +kernel)) (pi_range1 rfl T.b_range (pa_cons (pv 2) pa_nil)) (blkOk_by (N := ["_law_draws", "_law_setup_here", "_law_many", "_law_stays", "_law_k"]) (sc := defScope s_Lparty) (own := [("_law_k", 4)]) (by decide +kernel)) (fun _ _ _ _ _ => (pg_name (i := 4) sc_Lparty.nd rfl (Or.inl rfl))) (fun _ _ _ _ _ => pts_nil) (fun _ _ _ _ _ => (pe_cl c_Lstay (hr.mono (by first | decide | omega)) (by rfl) (pa_cons (pv 0) (pa_cons (pv 1) pa_nil)))))
    (Evl.pss_cut (ps_if (PW.pt (pw_and (pt_cmpR c_gt (pv 2) pe_int (nomark _)) (pw_and1 (pt_cmpR op_eq (pe_op o_mod (pe_cl c_Ldraw (hr.mono (by first | decide | omega)) (by rfl) (pa_cons (pv 0) pa_nil)) pe_int) pe_int (nomark _))))) (pss_one (ps_asg (pe_ix ix_list (pv 3) pe_int (fun _ _ => rfl)) (pg_sub (pv 3) pe_int set_list))) pss_nil)
    (pss_one (ps_ret (pe_callTy b_tuple (by rfl) T.b_tuple (by decide +kernel) (pa_cons (pe_callB (b_sortD hr.units) (by rfl) T.b_sorted (by decide +kernel) (pa_cons (pv 3) pa_nil)) pa_nil)))))))
  · obtain ⟨x0, x1, rfl, h⟩ := h
    exact pu_Lparty T h

/-! ### cells and needs -/
abbrev Cell := Int × Int
def ck (c : Cell) : List Key := [.inl c.1, .inl c.2]
theorem ck_inj : ∀ a b : Cell, ck a = ck b → a = b := fun a b h => by
  obtain ⟨a1, a2⟩ := a
  obtain ⟨b1, b2⟩ := b
  unfold ck at h
  simp only [List.cons.injEq, Sum.inl.injEq, and_true] at h
  rw [h.1, h.2]
/-- a dict from cells to numbers -/
abbrev cD (m : List (Cell × Int)) : List (List Key × V) := enD ck V.int m
def cellsOf (s : Stay) : List Cell := (List.range (s.2.2 - s.2.1).toNat).map fun i => (s.1, s.2.1 + (i : Nat))
def bump (m : List (Cell × Int)) (c : Cell) : List (Cell × Int) := pt m c ((lk m c).getD 0 + 1)
def needsL (ss : List Stay) : List (Cell × Int) := (ss.flatMap cellsOf).foldl bump []
theorem pt_len {κ α : Type} [DecidableEq κ] (m : List (κ × α)) (k : κ) (v : α) : (pt m k v).length ≤ m.length + 1 := by
  unfold pt
  split
  · rw [List.length_map]; omega
  · rw [List.length_append]; simp
theorem fold_len : ∀ (cs : List Cell) (m : List (Cell × Int)), (cs.foldl bump m).length ≤ m.length + cs.length
  | [], _ => Nat.le_refl _
  | c :: cs, m => by
    have h := fold_len cs (bump m c)
    have h2 : (bump m c).length ≤ m.length + 1 := pt_len m c _
    show (cs.foldl bump (bump m c)).length ≤ m.length + (cs.length + 1)
    omega
theorem val_cell (m : List (Cell × Int)) (c : Cell) : valV (cD m) (ck c) = (lk m c).map V.int := enD_val ck_inj m c
theorem put_cell (m : List (Cell × Int)) (c : Cell) (v : Int) : putK (cD m) (ck c) (.int v) = cD (pt m c v) := enD_put ck_inj m c v
theorem cellsOf_len (s : Stay) : (cellsOf s).length = (s.2.2 - s.2.1).toNat := by unfold cellsOf; rw [List.length_map, List.length_range]
theorem flat_len : ∀ (ss : List Stay) (n : Nat), (∀ s ∈ ss, (s.2.2 - s.2.1).toNat ≤ n) → (ss.flatMap cellsOf).length ≤ n * ss.length
  | [], _, _ => by simp
  | s :: ss, n, h => by
    have h1 := flat_len ss n fun z hz => h z (List.mem_cons_of_mem _ hz)
    have h2 := h s List.mem_cons_self
    rw [List.flatMap_cons, List.length_append, cellsOf_len, List.length_cons, Nat.mul_succ]
    omega
/-- the keys differ -/
def Nd {κ α : Type} (m : List (κ × α)) : Prop := (m.map (·.1)).Nodup
/-! sums over needs -/
theorem pt_keys {κ α : Type} [DecidableEq κ] (m : List (κ × α)) (k : κ) (v : α) : (pt m k v).map (·.1) = if k ∈ m.map (·.1) then m.map (·.1) else m.map (·.1) ++ [k] := by
  have h : (m.any fun e => decide (e.1 = k)) = decide (k ∈ m.map (·.1)) := by
    induction m with
    | nil => simp
    | cons e r ih =>
      rw [List.any_cons, ih]
      by_cases q : e.1 = k
      · simp [q]
      · have q2 : ¬ k = e.1 := fun z => q z.symm
        simp [q, q2]
  unfold pt
  rw [h]
  by_cases q : k ∈ m.map (·.1)
  · rw [if_pos (decide_eq_true q), if_pos q, List.map_map]
    refine List.map_congr_left fun e _ => ?_
    show (if e.1 = k then (e.1, v) else e).1 = e.1
    split <;> rfl
  · rw [if_neg (by simpa using q), if_neg q, List.map_append]
    rfl
theorem Nd.pt {κ α : Type} [DecidableEq κ] {m : List (κ × α)} (h : Nd m) (k : κ) (v : α) : Nd (pt m k v) := by
  unfold Nd
  rw [pt_keys]
  split
  · exact h
  · rename_i q
    exact List.nodup_append.mpr ⟨h, by simp, fun a ha b hb => by rw [List.mem_singleton.mp hb]; exact fun z => q (z ▸ ha)⟩
theorem lk_none {κ α : Type} [DecidableEq κ] : ∀ {m : List (κ × α)} {k : κ}, k ∉ m.map (·.1) → lk m k = none
  | [], _, _ => rfl
  | e :: r, k, h => by
    have h1 : ¬ e.1 = k := fun z => h (by simp [z])
    have h2 : k ∉ r.map (·.1) := fun z => h (by simp [z])
    have := lk_none (m := r) h2
    simp only [lk, List.find?_cons, decide_eq_false h1]
    exact this
theorem lk_mem {κ α : Type} [DecidableEq κ] : ∀ {m : List (κ × α)} {e : κ × α}, Nd m → e ∈ m → lk m e.1 = some e.2
  | a :: r, e, h, he => by
    have h : (a.1 :: r.map (·.1)).Nodup := h
    obtain ⟨h1, h2⟩ := List.nodup_cons.mp h
    rcases List.mem_cons.mp he with q | q
    · subst q; simp [lk, List.find?_cons]
    · have hne : ¬ a.1 = e.1 := fun z => h1 (z ▸ List.mem_map.mpr ⟨e, q, rfl⟩)
      have := lk_mem (m := r) h2 q
      simp only [lk, List.find?_cons, decide_eq_false hne]
      exact this
theorem lk_some {κ α : Type} [DecidableEq κ] : ∀ {m : List (κ × α)} {k : κ} {v : α}, lk m k = some v → (k, v) ∈ m
  | e :: r, k, v, h => by
    by_cases q : e.1 = k
    · simp [lk, List.find?_cons, q] at h
      rw [← h, ← q]; exact List.mem_cons_self
    · simp only [lk, List.find?_cons, decide_eq_false q] at h
      exact List.mem_cons_of_mem _ (lk_some (m := r) h)
/-- the sum over a table of cells, each number weighed -/
def sumW (p : Cell → Int) (m : List (Cell × Int)) : Int := (m.map fun e => p e.1 * e.2).sum
theorem sumW_map {p : Cell → Int} {c : Cell} {n k : Int} : ∀ {m : List (Cell × Int)}, Nd m → lk m c = some n → sumW p (m.map fun e => if e.1 = c then (e.1, k) else e) = sumW p m + p c * (k - n)
  | e :: r, h, hl => by
    have h : (e.1 :: r.map (·.1)).Nodup := h
    obtain ⟨h1, h2⟩ := List.nodup_cons.mp h
    by_cases q : e.1 = c
    · have hn : e.2 = n := by simpa [lk, List.find?_cons, q] using hl
      have hr : r.map (fun e => if e.1 = c then (e.1, k) else e) = r := by
        refine (List.map_congr_left fun e' he' => ?_).trans (List.map_id r)
        have : ¬ e'.1 = c := fun z => h1 (by rw [q, ← z]; exact List.mem_map.mpr ⟨e', he', rfl⟩)
        rw [if_neg this]; rfl
      show sumW p ((if e.1 = c then (e.1, k) else e) :: r.map fun e => if e.1 = c then (e.1, k) else e) = _
      rw [if_pos q, hr]
      simp only [sumW, List.map_cons, List.sum_cons, q, ← hn, Int.mul_sub]
      omega
    · have hl2 : lk r c = some n := by simpa [lk, List.find?_cons, q] using hl
      have ih := sumW_map (p := p) (c := c) (n := n) (k := k) h2 hl2
      show sumW p ((if e.1 = c then (e.1, k) else e) :: r.map fun e => if e.1 = c then (e.1, k) else e) = _
      rw [if_neg q]
      simp only [sumW, List.map_cons, List.sum_cons] at ih ⊢
      rw [ih]
      omega
theorem sumW_bump (p : Cell → Int) {m : List (Cell × Int)} (h : Nd m) (c : Cell) : sumW p (bump m c) = sumW p m + p c := by
  unfold bump pt
  by_cases q : (m.any fun e => decide (e.1 = c)) = true
  · rw [if_pos q]
    cases hl : lk m c with
    | none =>
      exfalso
      obtain ⟨e, he, hc⟩ := List.any_eq_true.mp q
      have := lk_mem h he
      rw [of_decide_eq_true hc, hl] at this
      cases this
    | some n =>
      rw [sumW_map h hl]
      show _ + p c * (n + 1 - n) = _
      rw [show n + 1 - n = 1 by omega, Int.mul_one]
  · rw [if_neg q]
    have hl : lk m c = none := by
      cases hl : lk m c with
      | none => rfl
      | some n =>
        have := lk_some hl
        exact absurd (List.any_eq_true.mpr ⟨_, this, by simp⟩) q
    rw [hl]
    simp [sumW]
theorem Nd.bump {m : List (Cell × Int)} (h : Nd m) (c : Cell) : Nd (bump m c) := h.pt c _
theorem fold_nd : ∀ (cs : List Cell) {m : List (Cell × Int)}, Nd m → Nd (cs.foldl bump m)
  | [], _, h => h
  | c :: cs, _, h => fold_nd cs (h.bump c)
theorem fold_sum (p : Cell → Int) : ∀ (cs : List Cell) {m : List (Cell × Int)}, Nd m → sumW p (cs.foldl bump m) = sumW p m + (cs.map p).sum
  | [], m, _ => by simp
  | c :: cs, m, h => by
    show sumW p (cs.foldl bump (bump m c)) = _
    rw [fold_sum p cs (h.bump c), sumW_bump p h, List.map_cons, List.sum_cons]
    omega
theorem needs_nd (ss : List Stay) : Nd (needsL ss) := fold_nd _ List.nodup_nil
theorem needs_sum (p : Cell → Int) (ss : List Stay) : sumW p (needsL ss) = ((ss.flatMap cellsOf).map p).sum := by
  unfold needsL
  rw [fold_sum p (m := []) _ List.nodup_nil]
  simp [sumW]
theorem bump_keys {m : List (Cell × Int)} {c x : Cell} (h : x ∈ (bump m c).map (·.1)) : x ∈ m.map (·.1) ∨ x = c := by
  unfold bump at h
  rw [pt_keys] at h
  split at h
  · exact .inl h
  · rcases List.mem_append.mp h with q | q
    · exact .inl q
    · exact .inr (List.mem_singleton.mp q)
theorem fold_keys : ∀ (cs : List Cell) {m : List (Cell × Int)} {x : Cell}, x ∈ (cs.foldl bump m).map (·.1) → x ∈ m.map (·.1) ∨ x ∈ cs
  | [], _, _, h => .inl h
  | c :: cs, m, x, h => by
    rcases fold_keys cs h with q | q
    · rcases bump_keys q with q | q
      · exact .inl q
      · exact .inr (q ▸ List.mem_cons_self)
    · exact .inr (List.mem_cons_of_mem _ q)
theorem needs_keys {ss : List Stay} {e : Cell × Int} (h : e ∈ needsL ss) : ∃ s ∈ ss, e.1 ∈ cellsOf s := by
  rcases fold_keys _ (List.mem_map.mpr ⟨e, h, rfl⟩) with q | q
  · cases q
  · exact List.mem_flatMap.mp q
theorem cell_in {s : Stay} {c : Cell} (h : c ∈ cellsOf s) : c.1 = s.1 ∧ s.2.1 ≤ c.2 ∧ c.2 < s.2.2 := by
  unfold cellsOf at h
  obtain ⟨i, hi, rfl⟩ := List.mem_map.mp h
  have := List.mem_range.mp hi
  exact ⟨rfl, by show s.2.1 ≤ s.2.1 + (i : Int); omega, by show s.2.1 + (i : Int) < s.2.2; omega⟩

def SmallSt (ss : List Stay) : Prop := ∀ s ∈ ss, 0 ≤ s.2.1 ∧ s.2.1 ≤ 1000 ∧ 0 ≤ s.2.2 ∧ s.2.2 ≤ 1000
theorem foldn (cs : List Cell) (c : Cell) (m : List (Cell × Int)) : (cs ++ [c]).foldl bump m = bump (cs.foldl bump m) c := by rw [List.foldl_append]; rfl
theorem SmallSt.of {S : Setup} {ss : List Stay} (ok : SetupOk S) (h : ∀ s ∈ ss, StayOk S s) : SmallSt ss := fun s hs => by
  obtain ⟨_, _, h1, h2, h3⟩ := h s hs
  have := ok.n2
  exact ⟨h1, by omega, by omega, by omega⟩
theorem cell_ok {S : Setup} (ok : SetupOk S) {ss : List Stay} (h : ∀ s ∈ ss, StayOk S s) {e : Cell × Int} (he : e ∈ needsL ss) : 0 ≤ e.1.1 ∧ e.1.1 < S.rooms.length ∧ 0 ≤ e.1.2 ∧ e.1.2 < S.nights := by
  obtain ⟨s, hs, hc⟩ := needs_keys he
  obtain ⟨h1, h2, h3⟩ := cell_in hc
  obtain ⟨k0, k1, k2, k3, k4⟩ := h s hs
  rw [h1]
  exact ⟨k0, k1, by omega, by omega⟩
theorem cD_get {m : List (Cell × Int)} {i : Nat} {k : List Key} {v : V} (h : (cD m)[i]? = some (k, v)) : ∃ e, m[i]? = some e ∧ k = ck e.1 ∧ v = .int e.2 := enD_get h

def P_Lneeds (K : PySem.W.Frag) (A : Ad) (x0 : V) (H : Hp) (Q : VK) : Prop := ∃ (a : Addr) (xs : List V) (ss : List Stay), x0 = .ref a ∧ H a = some (.tup xs) ∧ DaL H xs (ss.map stayD) ∧ SmallSt ss ∧ ss.length ≤ 100 ∧
  ∀ (p : Addr) (H' : Hp), H p = none → Fr [] H H' → H' p = some (.dT (cD (needsL ss))) → Q (.ref p) H'
def sp_Lneeds (K : PySem.W.Frag) (A : Ad) : Sp := fun vs H Q _ => ∃ x0, vs = [x0] ∧ P_Lneeds K A x0 H Q
theorem c_Lneeds {K : PySem.W.Frag} {A : Ad} {x0 : V} {H : Hp} {Q : VK} {E : XK} (h : P_Lneeds K A x0 H Q) : sp_Lneeds K A [x0] H Q E := ⟨_, rfl, h⟩
theorem sc_Lneeds : FnScope ["_law_party_here", "_law_needs_here", "_law_kind", "_law_first", "_law_end", "_law_night"] ["_law_party_here"] (defScope s_Lneeds) := ⟨rfl, rfl, rfl, by decide +kernel, rfl, by decide +kernel, by decide +kernel⟩
def t_Lneeds (K : PySem.W.Frag) (A : Ad) : TS :=
  (tSeq (tAsg tDNewT (gName 1))
    (tSeq (tFor (iTup K (tVar 0)) (gTup K 3 (gCons (gName 2) (gCons (gName 3) (gCons (gName 4) gNil)))) (tFor (iRng2 (tCons (tVar 3) (tCons (tVar 4) tNil))) (gName 5) (sDPut (tVar 1) (tTup (tCons (tVar 2) (tCons (tVar 5) tNil))) (tOp oAdd (tDGet2 (tVar 1) (tTup (tCons (tVar 2) (tCons (tVar 5) tNil))) (tC (.int 0))) (tC (.int 1))))))
    (tRet (tVar 1))))
theorem pu_Lneeds (T : Txt K mg A) {x0 : V} {H : Hp} {Q : VK} (h : P_Lneeds K A x0 H Q) : t_Lneeds K A { nx := fun _ H' => Q .non H', rt := Q } [some x0, none, none, none, none, none] H := by
  obtain ⟨a, xs, ss, rfl, e, ds, sm, hss, k⟩ := h
  unfold t_Lneeds
  walk_at "go"
  rename_i p H0 n0 f0 e0
  refine f_tup (xs := xs) (fun i σ H' => (∃ v2 v3 v4 v5, σ = [some (.ref a), some (.ref p), v2, v3, v4, v5]) ∧ Fr [] H H' ∧ H' p = some (.dT (cD (needsL (ss.take i))))) ⟨⟨_, _, _, _, rfl⟩, f0, e0⟩ ?_ ?_ ?_
  · rintro i σ H' _ ⟨_, f, _⟩
    exact SqT.of (f.tup _ _ e)
  · rintro i x σ H1 hx ⟨⟨v2, v3, v4, v5, rfl⟩, f1, e1⟩
    obtain ⟨s, b, hs, rfl, eb, _⟩ := stays_get ds hx
    have hmem := List.mem_of_getElem? hs
    obtain ⟨b0, b1, b2, b3⟩ := sm s hmem
    have hlen : (cellsOf s).length = (s.2.2 - s.2.1).toNat := cellsOf_len s
    have eb1 := f1.tup _ _ eb
    walk_at "go"
    refine f_range (lo := s.2.1) (n := (s.2.2 - s.2.1).toNat) (fun j σ H' => (∃ v5, σ = [some (.ref a), some (.ref p), some (.int s.1), some (.int s.2.1), some (.int s.2.2), v5]) ∧ Fr [] H H' ∧ H' p = some (.dT (cD (((ss.take i).flatMap cellsOf ++ (cellsOf s).take j).foldl bump []))))
      ⟨⟨_, rfl⟩, f1, by rw [List.take_zero, List.append_nil]; exact e1⟩ ?_ ?_
    · rintro j σ H3 hj ⟨⟨v5, rfl⟩, f3, e3⟩
      have hc : (cellsOf s)[j]? = some (s.1, s.2.1 + (j : Nat)) := by
        unfold cellsOf
        rw [List.getElem?_map, List.getElem?_range hj]
        rfl
      walk_at "go"
      rename_i t H4 n4 f4 e4
      have e34 := f4.at0 e3
      walk_at "go"
      refine g_dgo (k := ck (s.1, s.2.1 + (j : Nat))) (.inl e34) e4 ?_
      rw [val_cell]
      have hv : ((lk (((ss.take i).flatMap cellsOf ++ (cellsOf s).take j).foldl bump []) (s.1, s.2.1 + (j : Nat))).map V.int).getD (.int 0) = .int ((lk (((ss.take i).flatMap cellsOf ++ (cellsOf s).take j).foldl bump []) (s.1, s.2.1 + (j : Nat))).getD 0) := by
        cases lk (((ss.take i).flatMap cellsOf ++ (cellsOf s).take j).foldl bump []) (s.1, s.2.1 + (j : Nat)) <;> rfl
      rw [hv]
      walk_at "go"
      rename_i t2 H5 n5 f5 e5
      have e35 := f5.at0 e34
      have hL : (cD (((ss.take i).flatMap cellsOf ++ (cellsOf s).take j).foldl bump [])).length < sizeLine := by
        rw [enD_len]
        have h1 := fold_len ((ss.take i).flatMap cellsOf ++ (cellsOf s).take j) []
        have h2 := flat_len (ss.take i) 1000 fun z hz => by obtain ⟨c0, c1, c2, c3⟩ := sm z (List.mem_of_mem_take hz); omega
        rw [List.length_append, List.length_take] at h1
        have h3 : (ss.take i).length ≤ 100 := by rw [List.length_take]; omega
        have h4 : 1000 * (ss.take i).length ≤ 1000 * 100 := Nat.mul_le_mul_left _ h3
        exact szM (by simp only [List.length_nil] at h1; omega)
      refine g_rdp (k := ck (s.1, s.2.1 + (j : Nat))) e35 e5 hL fun H6 f6 e6 => ?_
      walk_at "go"
      refine ⟨⟨_, rfl⟩, ((f3.then0 f4).then0 f5).own1 f6 n0, ?_⟩
      rw [e6, put_cell, take_more hc, ← List.append_assoc, foldn]
      rfl
    · rintro σ H3 ⟨⟨v5, rfl⟩, f3, e3⟩
      refine ⟨⟨_, _, _, _, rfl⟩, f3, ?_⟩
      rw [← hlen, List.take_length] at e3
      rw [e3]
      unfold needsL
      rw [take_more hs, List.flatMap_append]
      simp
  · rintro σ H1 ⟨⟨v2, v3, v4, v5, rfl⟩, f1, e1⟩
    have hl : xs.length = ss.length := by rw [ds.len, List.length_map]
    rw [hl, List.take_length] at e1
    walk_at "go"
    exact k p H1 n0 f1 e1
theorem ok_Lneeds {f : Addr} {fd : FuncData} (F : Fun K "_law_needs" "_law_needs" s_Lneeds f fd) (T : Txt K mg A)  : FnOk P w K mg base CX0 (1) f fd ["_law_party_here"] (sp_Lneeds K A) := by
  refine F.ok sc_Lneeds (fun vs H Q E h => ?_) (fun cdv Ar outer s H vs Q E hr h => ⟨t_Lneeds K A, ?_, ?_⟩)
  · obtain ⟨x0, rfl, _⟩ := h
    rfl
  · have hu := hu_of hr
    exact (pss_cons (ps_set (i := 1) sc_Lneeds.nd rfl (Or.inl rfl) pe_dnewT)
    (pss_cons (ps_for PassesOwn.never rfl (pi_tup (pv 0)) (pg_tup rfl (pgs_cons (pg_name (i := 2) sc_Lneeds.nd rfl (Or.inl rfl)) (pgs_cons (pg_name (i := 3) sc_Lneeds.nd rfl (Or.inl rfl)) (pgs_cons (pg_name (i := 4) sc_Lneeds.nd rfl (Or.inl rfl)) pgs_nil)))) (pss_one (ps_for PassesOwn.never rfl (pi_range2 rfl T.b_range (pa_cons (pv 3) (pa_cons (pv 4) pa_nil))) (pg_name (i := 5) sc_Lneeds.nd rfl (Or.inl rfl)) (pss_one (ps_dput hu (pv 1) (pe_tup (pa_cons (pv 2) (pa_cons (pv 5) pa_nil))) (pe_op o_add (pe_dget2 hu (pv 1) (pe_tup (pa_cons (pv 2) (pa_cons (pv 5) pa_nil))) pe_int ⟨rfl, rfl, rfl, rfl⟩) pe_int) rfl)))))
    (pss_one (ps_ret (pv 1)))))
  · obtain ⟨x0, rfl, h⟩ := h
    exact pu_Lneeds T h

/-! ### plain books: tables of parties -/
abbrev Pty := Addr × List Stay
abbrev pD (m : List (Cell × Pty)) : List (List Key × V) := enD ck (fun x : Pty => V.ref x.1) m
def nd (p : List Stay) (c : Cell) : Int := (lk (needsL p) c).getD 0
def tot (m : List (Cell × Pty)) (c : Cell) : Int := (m.map fun e => nd e.2.2 c).sum
def rmC (S : Setup) (c : Cell) : Int := S.rooms.getD c.1.toNat 0
def fitb (S : Setup) (m : List (Cell × Pty)) (p : List Stay) : Bool := (needsL p).all fun e => decide (e.2 + tot m e.1 ≤ rmC S e.1)
theorem sum_perm {l1 l2 : List Int} (h : l1.Perm l2) : l1.sum = l2.sum := by
  induction h with
  | nil => rfl
  | cons x _ ih => rw [List.sum_cons, List.sum_cons, ih]
  | swap x y l => rw [List.sum_cons, List.sum_cons, List.sum_cons, List.sum_cons]; omega
  | trans _ _ h1 h2 => exact h1.trans h2
theorem tot_perm {m1 m2 : List (Cell × Pty)} (h : m1.Perm m2) (c : Cell) : tot m1 c = tot m2 c := sum_perm (h.map _)
theorem tot_cons (e : Cell × Pty) (m : List (Cell × Pty)) (c : Cell) : tot (e :: m) c = nd e.2.2 c + tot m c := by unfold tot; rw [List.map_cons, List.sum_cons]
theorem tot_snoc (e : Cell × Pty) (m : List (Cell × Pty)) (c : Cell) : tot (m ++ [e]) c = tot m c + nd e.2.2 c := by
  unfold tot; rw [List.map_append, List.sum_append]; simp
section
variable {κ α : Type} [DecidableEq κ]
theorem Nd.perm {m1 m2 : List (κ × α)} (n : Nd m1) (h : m1.Perm m2) : Nd m2 := by
  unfold Nd at n ⊢
  exact (h.map (fun e : κ × α => e.1)).nodup_iff.mp n
theorem lk_perm {m1 m2 : List (κ × α)} (h : m1.Perm m2) (n : Nd m1) (k : κ) : lk m1 k = lk m2 k := by
  by_cases q : k ∈ m1.map (·.1)
  · obtain ⟨e, he, rfl⟩ := List.mem_map.mp q
    rw [lk_mem n he, lk_mem (n.perm h) (h.mem_iff.mp he)]
  · rw [lk_none q, lk_none fun z => q ((h.map (fun e : κ × α => e.1)).mem_iff.mpr z)]
theorem dr_perm {m1 m2 : List (κ × α)} (h : m1.Perm m2) (k : κ) : (dr m1 k).Perm (dr m2 k) := h.filter _
theorem dr_nd {m : List (κ × α)} (n : Nd m) (k : κ) : Nd (dr m k) := by
  unfold Nd dr
  exact List.Pairwise.sublist (List.Sublist.map _ List.filter_sublist) n
theorem dr_not {m : List (κ × α)} {k : κ} : k ∉ (dr m k).map (·.1) := fun q => by
  obtain ⟨e, he, z⟩ := List.mem_map.mp q
  exact (of_decide_eq_true (List.mem_filter.mp he).2) z
theorem pt_new {m : List (κ × α)} {k : κ} {v : α} (h : k ∉ m.map (·.1)) : pt m k v = m ++ [(k, v)] := by
  unfold pt
  rw [if_neg]
  intro q
  obtain ⟨e, he, z⟩ := List.any_eq_true.mp q
  exact h (List.mem_map.mpr ⟨e, he, of_decide_eq_true z⟩)
theorem pt_mid {A B : List (κ × α)} {k : κ} {w v : α} (h : Nd (A ++ (k, w) :: B)) : pt (A ++ (k, w) :: B) k v = A ++ (k, v) :: B := by
  unfold Nd at h
  rw [List.map_append, List.map_cons, List.nodup_append] at h
  obtain ⟨_, h2, h3⟩ := h
  have hB := (List.nodup_cons.mp h2).1
  have hA : k ∉ A.map (·.1) := fun z => h3 k z k List.mem_cons_self rfl
  have same : ∀ {L : List (κ × α)}, k ∉ L.map (·.1) → (L.map fun e => if e.1 = k then (e.1, v) else e) = L := fun {L} hL => by
    refine (List.map_congr_left fun e he => ?_).trans (List.map_id L)
    rw [if_neg fun z => hL (List.mem_map.mpr ⟨e, he, z⟩)]; rfl
  unfold pt
  rw [if_pos (by simp), List.map_append, List.map_cons, same hA, same hB, if_pos rfl]
theorem mem_split {m : List (κ × α)} {k : κ} {w : α} (h : lk m k = some w) : ∃ A B, m = A ++ (k, w) :: B := List.append_of_mem (lk_some h)
theorem dr_mid {A B : List (κ × α)} {k : κ} {w : α} (h : Nd (A ++ (k, w) :: B)) : dr (A ++ (k, w) :: B) k = A ++ B := by
  unfold Nd at h
  rw [List.map_append, List.map_cons, List.nodup_append] at h
  obtain ⟨_, h2, h3⟩ := h
  have hB := (List.nodup_cons.mp h2).1
  have hA : k ∉ A.map (·.1) := fun z => h3 k z k List.mem_cons_self rfl
  have same : ∀ {L : List (κ × α)}, k ∉ L.map (·.1) → (L.filter fun e => decide (e.1 ≠ k)) = L := fun {L} hL => List.filter_eq_self.mpr fun e he => decide_eq_true fun z => hL (List.mem_map.mpr ⟨e, he, z⟩)
  unfold dr
  rw [List.filter_append, List.filter_cons, same hA, same hB]
  simp
theorem pt_perm {m : List (κ × α)} {k : κ} {w : α} (n : Nd m) (h : lk m k = some w) (v : α) : (pt m k v).Perm (dr m k ++ [(k, v)]) := by
  obtain ⟨A, B, rfl⟩ := mem_split h
  rw [pt_mid n, dr_mid n]
  exact (List.perm_middle).trans (List.perm_append_comm (l₁ := [(k, v)]) (l₂ := A ++ B))
theorem dr_back {m : List (κ × α)} {k : κ} {w : α} (n : Nd m) (h : lk m k = some w) : m.Perm (dr m k ++ [(k, w)]) := by
  obtain ⟨A, B, rfl⟩ := mem_split h
  rw [dr_mid n]
  exact (List.perm_middle).trans (List.perm_append_comm (l₁ := [(k, w)]) (l₂ := A ++ B))
theorem dr_none {m : List (κ × α)} {k : κ} (h : lk m k = none) : dr m k = m := List.filter_eq_self.mpr fun e he => decide_eq_true fun z => by
  have : k ∈ m.map (·.1) := List.mem_map.mpr ⟨e, he, z⟩
  unfold lk at h
  rw [Option.map_eq_none_iff, List.find?_eq_none] at h
  exact h e he (decide_eq_true z)
end
theorem lk_not {κ α : Type} [DecidableEq κ] {m : List (κ × α)} {k : κ} (h : lk m k = none) : k ∉ m.map (·.1) := fun q => by
  obtain ⟨e, he, z⟩ := List.mem_map.mp q
  unfold lk at h
  rw [Option.map_eq_none_iff, List.find?_eq_none] at h
  exact h e he (decide_eq_true z)
theorem rmC_at {S : Setup} {k n : Int} (h0 : 0 ≤ k) (h1 : k < S.rooms.length) : atI (S.rooms.map V.int) k = some (.int (rmC S (k, n))) := by
  have hk : k.toNat < S.rooms.length := by omega
  have e : (S.rooms.map V.int)[k.toNat]? = some (.int (rmC S (k, n))) := by
    unfold rmC
    rw [List.getElem?_map, List.getElem?_eq_getElem hk, List.getD_eq_getElem?_getD, List.getElem?_eq_getElem hk]; rfl
  have := atI_nat e
  rw [show ((k.toNat : Nat) : Int) = k by omega] at this
  exact this
/-! the law's table of all needs -/
def addT (T q : List (Cell × Int)) : List (Cell × Int) := q.foldl (fun T e => pt T e.1 ((lk T e.1).getD 0 + e.2)) T
theorem lk_cons {κ α : Type} [DecidableEq κ] (e : κ × α) (r : List (κ × α)) (c : κ) : lk (e :: r) c = if e.1 = c then some e.2 else lk r c := by
  unfold lk
  by_cases h : e.1 = c
  · simp [List.find?_cons, h]
  · simp [List.find?_cons, h]
theorem lk_addT (c : Cell) : ∀ (q T : List (Cell × Int)), Nd q → (lk (addT T q) c).getD 0 = (lk T c).getD 0 + (lk q c).getD 0
  | [], T, _ => by show (lk T c).getD 0 = (lk T c).getD 0 + 0; omega
  | e :: r, T, n => by
    have n1 := List.nodup_cons.mp (show (e.1 :: r.map (·.1)).Nodup from n)
    have ih := lk_addT c r (pt T e.1 ((lk T e.1).getD 0 + e.2)) n1.2
    show (lk (addT (pt T e.1 ((lk T e.1).getD 0 + e.2)) r) c).getD 0 = _
    rw [ih, lk_pt, lk_cons]
    by_cases h : c = e.1
    · have h2 : lk r e.1 = none := lk_none n1.1
      subst h
      rw [if_pos rfl, if_pos rfl, h2]
      show (lk T e.1).getD 0 + e.2 + 0 = (lk T e.1).getD 0 + e.2
      omega
    · rw [if_neg h, if_neg fun z => h z.symm]
theorem addT_nd : ∀ (q : List (Cell × Int)) {T : List (Cell × Int)}, Nd T → Nd (addT T q)
  | [], _, h => h
  | e :: r, _, h => addT_nd r (h.pt e.1 _)
theorem addT_keys {c : Cell} : ∀ (q : List (Cell × Int)) {T : List (Cell × Int)}, (c ∈ (addT T q).map (·.1) ↔ c ∈ T.map (·.1) ∨ c ∈ q.map (·.1))
  | [], T => by show c ∈ T.map (·.1) ↔ _; simp
  | e :: r, T => by
    show c ∈ (addT (pt T e.1 ((lk T e.1).getD 0 + e.2)) r).map (·.1) ↔ _
    rw [addT_keys r, pt_keys, List.map_cons, List.mem_cons]
    split
    · rename_i h
      constructor
      · rintro (a | a)
        · exact .inl a
        · exact .inr (.inr a)
      · rintro (a | a | a)
        · exact .inl a
        · exact .inl (a ▸ h)
        · exact .inr a
    · rw [List.mem_append, List.mem_singleton]
      constructor
      · rintro ((a | a) | a)
        · exact .inl a
        · exact .inr (.inl a)
        · exact .inr (.inr a)
      · rintro (a | a | a)
        · exact .inl (.inl a)
        · exact .inl (.inr a)
        · exact .inr a
def allT (m : List (Cell × Pty)) (p : List Stay) : List (Cell × Int) := m.foldl (fun T e => addT T (needsL e.2.2)) (needsL p)
theorem allT_snoc (m : List (Cell × Pty)) (e : Cell × Pty) (p : List Stay) : allT (m ++ [e]) p = addT (allT m p) (needsL e.2.2) := by unfold allT; rw [List.foldl_append]; rfl
theorem allT_of (p : List Stay) : ∀ (m : List (Cell × Pty)) (T : List (Cell × Int)), Nd T → Nd (m.foldl (fun T e => addT T (needsL e.2.2)) T) ∧ (∀ c, (lk (m.foldl (fun T e => addT T (needsL e.2.2)) T) c).getD 0 = (lk T c).getD 0 + tot m c) ∧ ∀ c, c ∈ T.map (·.1) → c ∈ (m.foldl (fun T e => addT T (needsL e.2.2)) T).map (·.1)
  | [], T, n => ⟨n, fun c => by show (lk T c).getD 0 = (lk T c).getD 0 + 0; omega, fun _ h => h⟩
  | e :: m, T, n => by
    obtain ⟨h1, h2, h3⟩ := allT_of p m (addT T (needsL e.2.2)) (addT_nd _ n)
    refine ⟨h1, fun c => ?_, fun c hc => h3 c ((addT_keys _).mpr (.inl hc))⟩
    show (lk (m.foldl (fun T e => addT T (needsL e.2.2)) (addT T (needsL e.2.2))) c).getD 0 = _
    rw [h2 c, lk_addT c _ _ (needs_nd _), tot_cons]
    unfold nd
    omega
/-- the law's test is the book's -/
theorem fit_same {S : Setup} {m : List (Cell × Pty)} {p : List Stay} (hI : ∀ c, tot m c ≤ rmC S c) : ((allT m p).all fun e => decide (e.2 ≤ rmC S e.1)) = fitb S m p := by
  obtain ⟨h1, h2, h3⟩ := allT_of p m (needsL p) (needs_nd p)
  rw [Bool.eq_iff_iff]
  unfold fitb
  rw [List.all_eq_true, List.all_eq_true]
  have val : ∀ e ∈ allT m p, e.2 = nd p e.1 + tot m e.1 := fun e he => by
    have := h2 e.1
    rw [show lk (m.foldl (fun T e => addT T (needsL e.2.2)) (needsL p)) e.1 = some e.2 from lk_mem h1 he] at this
    exact this
  constructor
  · intro h e he
    obtain ⟨e', he', hk⟩ := List.mem_map.mp (h3 e.1 (List.mem_map.mpr ⟨e, he, rfl⟩))
    have a := of_decide_eq_true (h e' he')
    rw [val e' he', hk] at a
    have b : nd p e.1 = e.2 := by unfold nd; rw [lk_mem (needs_nd p) he]; rfl
    rw [b] at a
    exact decide_eq_true a
  · intro h e he
    rw [val e he]
    refine decide_eq_true ?_
    by_cases q : e.1 ∈ (needsL p).map (·.1)
    · obtain ⟨e', he', hk⟩ := List.mem_map.mp q
      have a := of_decide_eq_true (h e' he')
      have b : nd p e'.1 = e'.2 := by unfold nd; rw [lk_mem (needs_nd p) he']; rfl
      rw [← b, hk] at a
      exact a
    · have b : nd p e.1 = 0 := by unfold nd; rw [lk_none q]; rfl
      rw [b, Int.zero_add]; exact hI e.1
/-- what fits keeps the bound -/
theorem fit_keeps {S : Setup} {m : List (Cell × Pty)} {p : List Stay} {k : Cell} {a : Addr} (hI : ∀ c, tot m c ≤ rmC S c) (hf : fitb S m p = true) : ∀ c, tot (m ++ [(k, (a, p))]) c ≤ rmC S c := fun c => by
  rw [tot_snoc]
  show tot m c + nd p c ≤ _
  unfold fitb at hf
  rw [List.all_eq_true] at hf
  by_cases q : c ∈ (needsL p).map (·.1)
  · obtain ⟨e, he, hk⟩ := List.mem_map.mp q
    have a := of_decide_eq_true (hf e he)
    have b : nd p e.1 = e.2 := by unfold nd; rw [lk_mem (needs_nd p) he]; rfl
    rw [← hk, b]; omega
  · have b : nd p c = 0 := by unfold nd; rw [lk_none q]; rfl
    have := hI c
    omega
theorem nd_pos (p : List Stay) (c : Cell) : 0 ≤ nd p c := by
  unfold nd
  have key : ∀ (cs : List Cell) (m : List (Cell × Int)), (∀ c, 0 ≤ (lk m c).getD 0) → ∀ c, 0 ≤ (lk (cs.foldl bump m) c).getD 0 := by
    intro cs
    induction cs with
    | nil => intro m h c; exact h c
    | cons a r ih =>
      intro m h c
      refine ih (bump m a) (fun c => ?_) c
      unfold bump
      rw [lk_pt]
      split
      · have := h a; show 0 ≤ (lk m a).getD 0 + 1; omega
      · exact h c
  exact key _ [] (fun c => Int.le_refl _) c
theorem tot_dr {m : List (Cell × Pty)} (n : Nd m) (k : Cell) (c : Cell) : tot (dr m k) c ≤ tot m c := by
  cases h : lk m k with
  | none => rw [dr_none h]; exact Int.le_refl _
  | some w =>
    rw [tot_perm (dr_back n h) c, tot_snoc]
    have := nd_pos w.2 c
    show tot (dr m k) c ≤ tot (dr m k) c + nd w.2 c
    omega
theorem fitb_perm {S : Setup} {m1 m2 : List (Cell × Pty)} (h : m1.Perm m2) (p : List Stay) : fitb S m1 p = fitb S m2 p := by
  unfold fitb
  congr 1
  funext e
  rw [tot_perm h e.1]

/-! ### cells, tables of numbers -/
def CellOk (S : Setup) (c : Cell) : Prop := 0 ≤ c.1 ∧ c.1 < S.rooms.length ∧ 0 ≤ c.2 ∧ c.2 < S.nights
def rowC (N : Nat) (k : Nat) : List Cell := (List.range N).map fun t : Nat => ((k : Int), (t : Int))
def cellsK (N k : Nat) : List Cell := (List.range k).flatMap (rowC N)
def cellsAll (S : Setup) : List Cell := cellsK S.nights.toNat S.rooms.length
theorem mem_row {N k : Nat} {c : Cell} : c ∈ rowC N k ↔ c.1 = k ∧ 0 ≤ c.2 ∧ c.2 < N := by
  unfold rowC
  rw [List.mem_map]
  constructor
  · rintro ⟨t, ht, rfl⟩
    have := List.mem_range.mp ht
    exact ⟨rfl, by show (0 : Int) ≤ (t : Int); omega, by show (t : Int) < (N : Int); omega⟩
  · rintro ⟨h1, h2, h3⟩
    exact ⟨c.2.toNat, List.mem_range.mpr (by omega), Prod.ext h1.symm (by show ((c.2.toNat : Nat) : Int) = c.2; omega)⟩
theorem mem_cellsK {N k : Nat} {c : Cell} : c ∈ cellsK N k ↔ 0 ≤ c.1 ∧ c.1 < k ∧ 0 ≤ c.2 ∧ c.2 < N := by
  unfold cellsK
  rw [List.mem_flatMap]
  constructor
  · rintro ⟨i, hi, h⟩
    have h1 := List.mem_range.mp hi
    obtain ⟨a, b, c'⟩ := mem_row.mp h
    exact ⟨by omega, by omega, b, c'⟩
  · rintro ⟨h1, h2, h3, h4⟩
    exact ⟨c.1.toNat, List.mem_range.mpr (by omega), mem_row.mpr ⟨by omega, h3, h4⟩⟩
theorem cellsK_succ (N k : Nat) : cellsK N (k + 1) = cellsK N k ++ rowC N k := by
  unfold cellsK
  rw [List.range_succ, List.flatMap_append]; simp
theorem rowC_succ (N k : Nat) : rowC (N + 1) k = rowC N k ++ [((k : Int), (N : Int))] := by
  unfold rowC
  rw [List.range_succ, List.map_append]; rfl
theorem row_nd (k : Nat) : ∀ N : Nat, (rowC N k).Nodup
  | 0 => List.nodup_nil
  | N + 1 => by
    rw [rowC_succ]
    refine List.nodup_append.mpr ⟨row_nd k N, by simp, fun a ha b hb e => ?_⟩
    rw [List.mem_singleton.mp hb] at e
    subst e
    have := (mem_row.mp ha).2.2
    exact absurd this (by show ¬ (N : Int) < (N : Int); omega)
theorem cellsK_nd (N : Nat) : ∀ k : Nat, (cellsK N k).Nodup
  | 0 => List.nodup_nil
  | k + 1 => by
    rw [cellsK_succ]
    refine List.nodup_append.mpr ⟨cellsK_nd N k, row_nd k N, fun a ha b hb e => ?_⟩
    subst e
    have h1 := (mem_cellsK.mp ha).2.1
    have h2 := (mem_row.mp hb).1
    omega
theorem mem_cells {S : Setup} {c : Cell} (hn : 1 ≤ S.nights) : c ∈ cellsAll S ↔ CellOk S c := by
  unfold cellsAll CellOk
  rw [mem_cellsK]
  constructor
  · rintro ⟨a, b, c', d⟩; exact ⟨a, b, c', by omega⟩
  · rintro ⟨a, b, c', d⟩; exact ⟨a, b, c', by omega⟩
theorem cells_len (S : Setup) : (cellsAll S).length = S.rooms.length * S.nights.toNat := by
  have key : ∀ (N k : Nat), (cellsK N k).length = k * N := by
    intro N k
    induction k with
    | zero => simp [cellsK]
    | succ k ih => rw [cellsK_succ, List.length_append, ih]; unfold rowC; rw [List.length_map, List.length_range, Nat.succ_mul]
  exact key _ _
def fset (f : Cell → Int) (c : Cell) (v : Int) : Cell → Int := fun x => if x = c then v else f x
theorem fset_same {f : Cell → Int} {c : Cell} {v : Int} : fset f c v c = v := by unfold fset; rw [if_pos rfl]
theorem fset_ne {f : Cell → Int} {c x : Cell} {v : Int} (h : x ≠ c) : fset f c v x = f x := by unfold fset; rw [if_neg h]
def tabF (cs : List Cell) (f : Cell → Int) : List (Cell × Int) := cs.map fun c => (c, f c)
abbrev stT (S : Setup) (f : Cell → Int) : List (Cell × Int) := tabF (cellsAll S) f
theorem tab_keys (cs : List Cell) (f : Cell → Int) : (tabF cs f).map (·.1) = cs := by
  unfold tabF; rw [List.map_map]; exact (List.map_congr_left fun _ _ => rfl).trans (List.map_id cs)
theorem tab_nd {cs : List Cell} (h : cs.Nodup) (f : Cell → Int) : Nd (tabF cs f) := by unfold Nd; rw [tab_keys]; exact h
theorem lk_tab {cs : List Cell} (n : cs.Nodup) {f : Cell → Int} {c : Cell} (h : c ∈ cs) : lk (tabF cs f) c = some (f c) := lk_mem (e := (c, f c)) (tab_nd n f) (List.mem_map.mpr ⟨c, h, rfl⟩)
theorem pt_tab {cs : List Cell} {f : Cell → Int} {c : Cell} {v : Int} (h : c ∈ cs) : pt (tabF cs f) c v = tabF cs (fset f c v) := by
  unfold pt
  have a : ((tabF cs f).any fun e => decide (e.1 = c)) = true := List.any_eq_true.mpr ⟨(c, f c), List.mem_map.mpr ⟨c, h, rfl⟩, by simp⟩
  rw [if_pos a]
  unfold tabF
  rw [List.map_map]
  refine List.map_congr_left fun x _ => ?_
  show (if x = c then (x, v) else (x, f x)) = (x, fset f c v x)
  unfold fset
  by_cases q : x = c
  · rw [if_pos q, if_pos q]
  · rw [if_neg q, if_neg q]
theorem cells_nd (S : Setup) : (cellsAll S).Nodup := cellsK_nd _ _
theorem st_get {S : Setup} (so : SetupOk S) {f : Cell → Int} {c : Cell} (h : CellOk S c) : valV (cD (stT S f)) (ck c) = some (.int (f c)) := by
  rw [val_cell, lk_tab (cells_nd S) ((mem_cells so.n1).mpr h)]; rfl
theorem st_put {S : Setup} (so : SetupOk S) {f : Cell → Int} {c : Cell} {v : Int} (h : CellOk S c) : putK (cD (stT S f)) (ck c) (.int v) = cD (stT S (fset f c v)) := by
  rw [put_cell, pt_tab ((mem_cells so.n1).mpr h)]
theorem st_len {S : Setup} (so : SetupOk S) (f : Cell → Int) : (cD (stT S f)).length ≤ 36 := by
  rw [enD_len]
  unfold stT tabF
  rw [List.length_map, cells_len]
  have h1 := so.k3
  have h2 := so.n2
  have h3 : S.nights.toNat ≤ 12 := by omega
  exact Nat.le_trans (Nat.mul_le_mul h1 h3) (by decide)
theorem st_lt {S : Setup} (so : SetupOk S) (f : Cell → Int) : (cD (stT S f)).length < sizeLine := szM (Nat.le_trans (st_len so f) (by decide))
/-! ### rows, bodies -/
abbrev Lack := List (Cell × Int)
abbrev Ask := Int × Int × Lack
inductive Row
  | sold (n : Int) (p : List Stay) (a b : Int)
  | cancelled (n a b : Int)
  | changed (n : Int) (p : List Stay) (a b c d : Int)
inductive UpB
  | ask (n : Int) (l : Lack)
  | closed (cs : List Int)
  | back (c : Cell)
  | entry (r : Row)
inductive DnB
  | give (c : Cell)
  | close (cs : List Cell)
  | opn (cs : List Int) (an : Option (Int × Bool))
  | want (c : Cell)
def cellD (c : Cell) : PyData := .tuple [.int c.1, .int c.2]
def lackD (l : Lack) : PyData := .tuple (l.map fun e => .tuple [cellD e.1, .int e.2])
def cellsD (l : List Cell) : PyData := .tuple (l.map cellD)
def askD (a : Ask) : PyData := .tuple [.int a.1, .int a.2.1, lackD a.2.2]
def roundD : Option Ask → PyData
  | none => .none
  | some a => askD a
def ansD : Option (Int × Bool) → PyData
  | none => .none
  | some a => .tuple [.int a.1, .bool a.2]
def rowB : Row → PyData
  | .sold n p a b => .tuple [.str "sold", .int n, partyD p, .int a, .int b]
  | .cancelled n a b => .tuple [.str "cancelled", .int n, .int a, .int b]
  | .changed n p a b c d => .tuple [.str "changed", .int n, partyD p, .int a, .int b, .int c, .int d]
def upD : UpB → PyData
  | .ask n l => .tuple [.str "ask", .int n, lackD l]
  | .closed cs => .tuple [.str "closed", rowD cs]
  | .back c => .tuple [.str "back", .int c.1, .int c.2]
  | .entry r => .tuple [.str "entry", rowB r]
def dnD : DnB → PyData
  | .give c => .tuple [.str "give", .int c.1, .int c.2]
  | .close cs => .tuple [.str "close", cellsD cs]
  | .opn cs an => .tuple [.str "open", rowD cs, ansD an]
  | .want c => .tuple [.str "want", .int c.1, .int c.2]
def outD (e : Int × DnB) : PyData := .tuple [.int e.1, dnD e.2]
theorem imm_cell (c : Cell) : imm (cellD c) = true := rfl
theorem imm_lack (l : Lack) : imm (lackD l) = true := immL_map (fun _ => rfl) l
theorem imm_cells (l : List Cell) : imm (cellsD l) = true := immL_map imm_cell l
theorem imm_ask (a : Ask) : imm (askD a) = true := by
  show (true && (true && (imm (lackD a.2.2) && true))) = true
  rw [imm_lack]; rfl
theorem imm_round (r : Option Ask) : imm (roundD r) = true := by
  cases r with
  | none => rfl
  | some a => exact imm_ask a
theorem imm_ans (a : Option (Int × Bool)) : imm (ansD a) = true := by cases a <;> rfl
theorem imm_rowB (r : Row) : imm (rowB r) = true := by
  cases r with
  | sold n p a b =>
    show (true && (true && (imm (partyD p) && true))) = true
    rw [imm_party]; rfl
  | cancelled n a b => rfl
  | changed n p a b c d =>
    show (true && (true && (imm (partyD p) && true))) = true
    rw [imm_party]; rfl
theorem imm_up (b : UpB) : imm (upD b) = true := by
  cases b with
  | ask n l =>
    show (true && (true && (imm (lackD l) && true))) = true
    rw [imm_lack]; rfl
  | closed cs =>
    show (true && (imm (rowD cs) && true)) = true
    rw [imm_row]; rfl
  | back c => rfl
  | entry r =>
    show (true && (imm (rowB r) && true)) = true
    rw [imm_rowB]; rfl
theorem imm_dn (b : DnB) : imm (dnD b) = true := by
  cases b with
  | give c => rfl
  | close cs =>
    show (true && (imm (cellsD cs) && true)) = true
    rw [imm_cells]; rfl
  | opn cs an =>
    show (true && (imm (rowD cs) && (imm (ansD an) && true))) = true
    rw [imm_row, imm_ans]; rfl
  | want c => rfl
theorem imm_out (e : Int × DnB) : imm (outD e) = true := by
  show (true && (imm (dnD e.2) && true)) = true
  rw [imm_dn]; rfl
/-! the tuples in the heap -/
theorem cell_at {H : Hp} {v : V} {c : Cell} (h : Da H v (cellD c)) : ∃ a, v = .ref a ∧ H a = some (.tup [.int c.1, .int c.2]) := by
  obtain ⟨a, xs, rfl, e, _, q⟩ := h.tup1
  obtain ⟨x, y, rfl, dx, dy⟩ := q.two
  cases dx.int1
  cases dy.int1
  exact ⟨a, rfl, e⟩
theorem lack_get {H : Hp} {xs : List V} {l : Lack} {i : Nat} {x : V} (h : DaL H xs (l.map fun e => .tuple [cellD e.1, .int e.2])) (hx : xs[i]? = some x) : ∃ e b c, l[i]? = some e ∧ x = .ref b ∧ H b = some (.tup [.ref c, .int e.2]) ∧ H c = some (.tup [.int e.1.1, .int e.1.2]) := by
  obtain ⟨d, hd, dd⟩ := h.get hx
  rw [List.getElem?_map] at hd
  cases q : l[i]? with
  | none => rw [q] at hd; cases hd
  | some e =>
    rw [q] at hd
    cases hd
    obtain ⟨b, ys, rfl, eb, _, r⟩ := dd.tup1
    obtain ⟨u, v, rfl, du, dv⟩ := r.two
    obtain ⟨c, rfl, ec⟩ := cell_at du
    cases dv.int1
    exact ⟨e, b, c, rfl, rfl, eb, ec⟩
theorem cells_get {H : Hp} {xs : List V} {l : List Cell} {i : Nat} {x : V} (h : DaL H xs (l.map cellD)) (hx : xs[i]? = some x) : ∃ c a, l[i]? = some c ∧ x = .ref a ∧ H a = some (.tup [.int c.1, .int c.2]) := by
  obtain ⟨d, hd, dd⟩ := h.get hx
  rw [List.getElem?_map] at hd
  cases q : l[i]? with
  | none => rw [q] at hd; cases hd
  | some c =>
    rw [q] at hd
    cases hd
    obtain ⟨a, rfl, ea⟩ := cell_at dd
    exact ⟨c, a, rfl, rfl, ea⟩
theorem ask_at {H : Hp} {v : V} {a : Ask} (h : Da H v (askD a)) : ∃ p l xs, v = .ref p ∧ H p = some (.tup [.int a.1, .int a.2.1, .ref l]) ∧ H l = some (.tup xs) ∧ DaL H xs (a.2.2.map fun e => .tuple [cellD e.1, .int e.2]) := by
  obtain ⟨p, ys, rfl, e, _, q⟩ := h.tup1
  obtain ⟨x, y, z, rfl, dx, dy, dz⟩ := q.three
  cases dx.int1
  cases dy.int1
  obtain ⟨l, xs, rfl, el, _, r⟩ := Da.tup1 dz
  exact ⟨p, l, xs, rfl, e, el, r⟩
theorem ints_at {H : Hp} {v : V} {r : List Int} (h : Da H v (rowD r)) : ∃ p, v = .ref p ∧ H p = some (.tup (r.map V.int)) := by
  obtain ⟨p, xs, rfl, e, _, q⟩ := h.tup1
  rw [DaL.ints q] at e
  exact ⟨p, rfl, e⟩

/-! ### the house as plain data -/
structure HM where
  st : Cell → Int
  bk : List (List Row)
  qu : List Ask
  rd : Option Ask
  ct : List (Int × List Int)
  out : List (Int × DnB)
abbrev lackC (a : Ask) : List Cell := a.2.2.map (·.1)
def LackOk (S : Setup) (l : Lack) : Prop := (∀ e ∈ l, CellOk S e.1) ∧ l.length ≤ 36
def closeL (n : Nat) (a : Ask) : List (Int × DnB) := (List.range n).map fun s : Nat => ((s : Int), DnB.close (lackC a))
def HM.look (n : Nat) (M : HM) : HM :=
  match M.rd, M.qu with
  | none, a :: q => { M with rd := some a, qu := q, ct := [], out := M.out ++ closeL n a }
  | _, _ => M
/-- more in each cell -/
def addZ (f : Cell → Int) (l : List (Cell × Int)) : Cell → Int := l.foldl (fun f e => fset f e.1 (f e.1 + e.2)) f
def subZ (f : Cell → Int) (l : List (Cell × Int)) : Cell → Int := l.foldl (fun f e => fset f e.1 (f e.1 - e.2)) f
/-- what one seller gets back -/
def minI (a b : Int) : Int := if b < a then b else a
def backZ : (Cell → Int) → List (Cell × Int) → List Int × (Cell → Int)
  | f, [] => ([], f)
  | f, e :: r => let z := backZ (fset f e.1 (f e.1 - minI e.2 (f e.1))) r; (minI e.2 (f e.1) :: z.1, z.2)
def opensZ (a : Ask) (g : Bool) (ct : List (Int × List Int)) (f : Cell → Int) : Nat → (Cell → Int) × List (Int × DnB)
  | 0 => (f, [])
  | s + 1 => let z := opensZ a g ct f s; let b := backZ z.1 ((lackC a).zip ((lk ct (s : Int)).getD [])); (b.2, z.2 ++ [((s : Int), DnB.opn b.1 (if (s : Int) = a.1 then some (a.2.1, g) else none))])
def grantZ (f : Cell → Int) (l : Lack) : Bool := l.all fun e => decide (e.2 ≤ f e.1)
def HM.decide (n : Nat) (M : HM) : HM :=
  match M.rd with
  | none => M
  | some a =>
    let g := grantZ M.st a.2.2
    let z := opensZ a g M.ct (if g = true then subZ M.st a.2.2 else M.st) n
    HM.look n { M with st := z.1, out := M.out ++ z.2, rd := none }
def HM.closed (n : Nat) (s : Int) (cs : List Int) (M : HM) : HM :=
  match M.rd with
  | none => M
  | some a =>
    let M1 : HM := { M with st := addZ M.st ((lackC a).zip cs), ct := pt M.ct s cs }
    if M1.ct.length = n then M1.decide n else M1
def HM.handle (n : Nat) (s : Int) (b : UpB) (M : HM) : HM :=
  match b with
  | .ask k l => HM.look n { M with qu := M.qu ++ [(s, k, l)] }
  | .closed cs => M.closed n s cs
  | .back c => { M with st := fset M.st c (M.st c + 1) }
  | .entry r => { M with bk := M.bk.set s.toNat (M.bk.getD s.toNat [] ++ [r]) }
/-- a house in order -/
structure HM.Ok (S : Setup) (M : HM) : Prop where
  qk : ∀ a ∈ M.qu, LackOk S a.2.2
  rk : ∀ a, M.rd = some a → LackOk S a.2.2
  cl : ∀ a, M.rd = some a → ∀ e ∈ M.ct, e.2.length = a.2.2.length
  ck : ∀ e ∈ M.ct, 0 ≤ e.1 ∧ e.1 < S.sellers
  cn : Nd M.ct
  bl : M.bk.length = S.sellers.toNat
theorem look_ok {S : Setup} {n : Nat} {M : HM} (h : M.Ok S) : (HM.look n M).Ok S := by
  unfold HM.look
  split
  · rename_i a q h1 h2
    refine ⟨fun x hx => h.qk x (by rw [h2]; exact List.mem_cons_of_mem _ hx), fun x hx => ?_, fun _ _ e he => (nomatch he), fun e he => (nomatch he), List.nodup_nil, h.bl⟩
    rw [← Option.some.inj hx]
    exact h.qk a (by rw [h2]; exact List.mem_cons_self)
  · exact h
theorem decide_ok {S : Setup} {n : Nat} {M : HM} (h : M.Ok S) : (HM.decide n M).Ok S := by
  unfold HM.decide
  split
  · exact h
  · exact look_ok ⟨h.qk, fun x hx => (by cases hx), fun x hx => (by cases hx), h.ck, h.cn, h.bl⟩
theorem pt_mem {κ α : Type} [DecidableEq κ] {m : List (κ × α)} {k : κ} {v : α} {e : κ × α} (h : e ∈ pt m k v) : e ∈ m ∨ e = (k, v) := by
  unfold pt at h
  split at h
  · obtain ⟨x, hx, rfl⟩ := List.mem_map.mp h
    by_cases q : x.1 = k
    · rw [if_pos q]; exact .inr (by rw [q])
    · rw [if_neg q]; exact .inl hx
  · rcases List.mem_append.mp h with q | q
    · exact .inl q
    · exact .inr (List.mem_singleton.mp q)
theorem closed_ok {S : Setup} {n : Nat} {M : HM} {s : Int} {cs : List Int} (h : M.Ok S) (hs : 0 ≤ s ∧ s < S.sellers) (hc : ∀ a, M.rd = some a → cs.length = a.2.2.length) : (HM.closed n s cs M).Ok S := by
  unfold HM.closed
  split
  · exact h
  · rename_i a ha
    have h1 : HM.Ok S { M with st := addZ M.st ((lackC a).zip cs), ct := pt M.ct s cs } := by
      refine ⟨h.qk, h.rk, fun x hx e he => ?_, fun e he => ?_, h.cn.pt _ _, h.bl⟩
      · rcases pt_mem he with q | q
        · exact h.cl x hx e q
        · rw [q]; exact hc x hx
      · rcases pt_mem he with q | q
        · exact h.ck e q
        · rw [q]; exact hs
    show HM.Ok S (if _ then _ else _)
    split
    · exact decide_ok h1
    · exact h1
def UpOk (S : Setup) (M : HM) : UpB → Prop
  | .ask _ l => LackOk S l
  | .closed cs => ∃ a, M.rd = some a ∧ cs.length = a.2.2.length
  | .back c => CellOk S c
  | .entry _ => True
theorem handle_ok {S : Setup} {n : Nat} {M : HM} {s : Int} {b : UpB} (h : M.Ok S) (hs : 0 ≤ s ∧ s < S.sellers) (hb : UpOk S M b) : (HM.handle n s b M).Ok S := by
  cases b with
  | ask k l =>
    refine look_ok ⟨fun x hx => ?_, h.rk, h.cl, h.ck, h.cn, h.bl⟩
    rcases List.mem_append.mp hx with q | q
    · exact h.qk x q
    · rw [List.mem_singleton.mp q]; exact hb
  | closed cs =>
    obtain ⟨a, h1, h2⟩ := hb
    exact closed_ok h hs fun x hx => by rw [h1] at hx; cases hx; exact h2
  | back c => exact ⟨h.qk, h.rk, h.cl, h.ck, h.cn, h.bl⟩
  | entry r => exact ⟨h.qk, h.rk, h.cl, h.ck, h.cn, by show (M.bk.set _ _).length = _; rw [List.length_set]; exact h.bl⟩
/-! all sellers have sent their counts -/
theorem full_mem {n : Nat} : ∀ (m : List (Int × List Int)), Nd m → (∀ e ∈ m, 0 ≤ e.1 ∧ e.1 < n) → m.length = n → ∀ s : Nat, s < n → ∃ cs, lk m (s : Int) = some cs := by
  intro m hn hk hl s hs
  cases h : lk m (s : Int) with
  | some cs => exact ⟨cs, rfl⟩
  | none =>
    exfalso
    have nk := lk_not h
    -- the keys, and s, are n + 1 different numbers below n
    have key : ∀ (n : Nat) (l : List Int), l.Nodup → (∀ x ∈ l, 0 ≤ x ∧ x < n) → l.length ≤ n := by
      intro n
      induction n with
      | zero =>
        intro l _ hl
        cases l with
        | nil => exact Nat.le_refl _
        | cons a r => have := hl a List.mem_cons_self; omega
      | succ n ih =>
        intro l nd hl
        have h1 := ih (l.filter fun x => decide (x ≠ (n : Int))) (List.Pairwise.sublist List.filter_sublist nd) fun x hx => by
          obtain ⟨hx, hq⟩ := List.mem_filter.mp hx
          have := hl x hx
          have hq := of_decide_eq_true hq
          omega
        have h2 : l.length ≤ (l.filter fun x => decide (x ≠ (n : Int))).length + 1 := by
          clear h1 hl ih
          induction l with
          | nil => exact Nat.zero_le _
          | cons a r ih =>
            have nd' := List.nodup_cons.mp nd
            by_cases q : a = (n : Int)
            · have e : (r.filter fun x => decide (x ≠ (n : Int))) = r := List.filter_eq_self.mpr fun x hx => decide_eq_true fun z => nd'.1 (by rw [q, ← z]; exact hx)
              rw [List.filter_cons_of_neg (by simp [q]), e]; exact Nat.le_refl _
            · rw [List.filter_cons_of_pos (by simp [q])]
              have := ih nd'.2
              simp only [List.length_cons]; omega
        omega
    have nl : (m.map fun e : Int × List Int => e.1).Nodup := hn
    have := key n ((s : Int) :: m.map fun e : Int × List Int => e.1) (List.nodup_cons.mpr ⟨nk, nl⟩) fun x hx => by
      rcases List.mem_cons.mp hx with q | q
      · rw [q]; omega
      · obtain ⟨e, he, rfl⟩ := List.mem_map.mp q; exact hk e he
    rw [List.length_cons, List.length_map] at this
    omega
theorem closed_some {M : HM} {a : Ask} {n : Nat} {s : Int} {cs : List Int} (hr : M.rd = some a) : HM.closed n s cs M = if (pt M.ct s cs).length = n then HM.decide n { M with st := addZ M.st ((lackC a).zip cs), ct := pt M.ct s cs } else { M with st := addZ M.st ((lackC a).zip cs), ct := pt M.ct s cs } := by
  unfold HM.closed; rw [hr]
theorem decide_some {M : HM} {a : Ask} {n : Nat} (hr : M.rd = some a) : HM.decide n M = HM.look n { M with st := (opensZ a (grantZ M.st a.2.2) M.ct (if grantZ M.st a.2.2 = true then subZ M.st a.2.2 else M.st) n).1, out := M.out ++ (opensZ a (grantZ M.st a.2.2) M.ct (if grantZ M.st a.2.2 = true then subZ M.st a.2.2 else M.st) n).2, rd := none } := by
  unfold HM.decide; rw [hr]
theorem cutG {G R : Prop} (h : G → R) (g : G) : R := h g
theorem cutH {T : Hp → Prop} {R : Prop} {H : Hp} (h : (∀ H', Fr [] H H' → T H') → R) (g : ∀ H', Fr [] H H' → T H') : R := h g

/-! ### the house in the heap -/
structure HP where
  p : Addr
  st : Addr
  bk : Addr
  qu : Addr
  ct : Addr
  out : Addr
  bs : List Addr
def HP.os (h : HP) : List Addr := h.p :: h.st :: h.bk :: h.qu :: h.ct :: h.out :: h.bs
abbrev BksAt (H : Hp) (bs : List Addr) (m : List (List Row)) : Prop := Paired (fun b r => LsAt H b (r.map rowB)) bs m
theorem BksAt.fr {l : List Addr} {H H' : Hp} {bs : List Addr} {m : List (List Row)} (h : BksAt H bs m) (f : Fr l H H') (n : ∀ b ∈ bs, b ∉ l) : BksAt H' bs m := by
  induction h with
  | nil => exact .nil
  | cons r t ih => exact .cons (r.fr f (n _ List.mem_cons_self)) (ih fun b hb => n b (List.mem_cons_of_mem _ hb))
structure HCore (H : Hp) (S : Setup) (h : HP) (rdv : V) (M : HM) : Prop where
  st : H h.st = some (.dT (cD (stT S M.st)))
  bk : H h.bk = some (.lst (h.bs.map V.ref))
  bs : BksAt H h.bs M.bk
  qu : LsAt H h.qu (M.qu.map askD)
  rd : Da H rdv (roundD M.rd)
  ct : DkAt H h.ct (M.ct.map fun e => (e.1, rowD e.2))
  out : LsAt H h.out (M.out.map outD)
theorem HCore.fr {l : List Addr} {H H' : Hp} {S : Setup} {h : HP} {rdv : V} {M : HM} (c : HCore H S h rdv M) (f : Fr l H H') (n : ∀ a ∈ h.st :: h.bk :: h.qu :: h.ct :: h.out :: h.bs, a ∉ l) : HCore H' S h rdv M :=
  ⟨f.at c.st (n _ (by simp)), f.at c.bk (n _ (by simp)), c.bs.fr f fun b hb => n b (by simp [hb]), c.qu.fr f (n _ (by simp)), Da.frL f c.rd (imm_round _), c.ct.fr f (n _ (by simp)), c.out.fr f (n _ (by simp))⟩
/-- the places differ -/
structure HNd (h : HP) : Prop where
  n1 : h.st ≠ h.bk
  n2 : h.st ≠ h.qu
  n3 : h.st ≠ h.ct
  n4 : h.st ≠ h.out
  n5 : h.bk ≠ h.qu
  n6 : h.bk ≠ h.ct
  n7 : h.bk ≠ h.out
  n8 : h.qu ≠ h.ct
  n9 : h.qu ≠ h.out
  n10 : h.ct ≠ h.out
  p1 : h.p ≠ h.st
  p2 : h.p ≠ h.bk
  p3 : h.p ≠ h.qu
  p4 : h.p ≠ h.ct
  p5 : h.p ≠ h.out
  b0 : h.p ∉ h.bs
  b1 : h.st ∉ h.bs
  b2 : h.bk ∉ h.bs
  b3 : h.qu ∉ h.bs
  b4 : h.ct ∉ h.bs
  b5 : h.out ∉ h.bs
  bn : h.bs.Nodup
theorem HNd.of {h : HP} (n : h.os.Nodup) : HNd h := by
  unfold HP.os at n
  simp only [List.nodup_cons, List.mem_cons, not_or] at n
  obtain ⟨⟨a1, a2, a3, a4, a5, a6⟩, ⟨b1, b2, b3, b4, b5⟩, ⟨c1, c2, c3, c4⟩, ⟨d1, d2, d3⟩, ⟨e1, e2⟩, f1, g⟩ := n
  exact ⟨b1, b2, b3, b4, c1, c2, c3, d1, d2, e1, a1, a2, a3, a4, a5, a6, b5, c4, d3, e2, f1, g⟩
theorem nin_bs {bs : List Addr} {a : Addr} (n : a ∉ bs) : ∀ b ∈ bs, b ∉ [a] := fun b hb q => n (by rw [← List.mem_singleton.mp q]; exact hb)
theorem HCore.wst {H H' : Hp} {S : Setup} {h : HP} {rdv : V} {M : HM} {g : Cell → Int} (c : HCore H S h rdv M) (n : HNd h) (f : Fr [h.st] H H') (e : H' h.st = some (.dT (cD (stT S g)))) : HCore H' S h rdv { M with st := g } :=
  ⟨e, f.at c.bk (nin1 n.n1.symm nin0), c.bs.fr f (nin_bs n.b1), c.qu.fr f (nin1 n.n2.symm nin0), Da.frL f c.rd (imm_round _), c.ct.fr f (nin1 n.n3.symm nin0), c.out.fr f (nin1 n.n4.symm nin0)⟩
theorem HCore.wqu {H H' : Hp} {S : Setup} {h : HP} {rdv : V} {M : HM} {q : List Ask} (c : HCore H S h rdv M) (n : HNd h) (f : Fr [h.qu] H H') (e : LsAt H' h.qu (q.map askD)) : HCore H' S h rdv { M with qu := q } :=
  ⟨f.at c.st (nin1 n.n2 nin0), f.at c.bk (nin1 n.n5 nin0), c.bs.fr f (nin_bs n.b3), e, Da.frL f c.rd (imm_round _), c.ct.fr f (nin1 n.n8.symm nin0), c.out.fr f (nin1 n.n9.symm nin0)⟩
theorem HCore.wct {H H' : Hp} {S : Setup} {h : HP} {rdv : V} {M : HM} {q : List (Int × List Int)} (c : HCore H S h rdv M) (n : HNd h) (f : Fr [h.ct] H H') (e : DkAt H' h.ct (q.map fun e => (e.1, rowD e.2))) : HCore H' S h rdv { M with ct := q } :=
  ⟨f.at c.st (nin1 n.n3 nin0), f.at c.bk (nin1 n.n6 nin0), c.bs.fr f (nin_bs n.b4), c.qu.fr f (nin1 n.n8 nin0), Da.frL f c.rd (imm_round _), e, c.out.fr f (nin1 n.n10.symm nin0)⟩
theorem HCore.wout {H H' : Hp} {S : Setup} {h : HP} {rdv : V} {M : HM} {q : List (Int × DnB)} (c : HCore H S h rdv M) (n : HNd h) (f : Fr [h.out] H H') (e : LsAt H' h.out (q.map outD)) : HCore H' S h rdv { M with out := q } :=
  ⟨f.at c.st (nin1 n.n4 nin0), f.at c.bk (nin1 n.n7 nin0), c.bs.fr f (nin_bs n.b5), c.qu.fr f (nin1 n.n9 nin0), Da.frL f c.rd (imm_round _), c.ct.fr f (nin1 n.n10 nin0), e⟩
theorem Paired.nth {α β : Type} {F : α → β → Prop} : ∀ {l : List α} {m : List β} {i : Nat} {a : α}, Paired F l m → l[i]? = some a → ∃ b, m[i]? = some b ∧ F a b
  | _, _, _, _, .nil, e => by simp at e
  | _, _, 0, _, .cons r _, e => by simp at e; subst e; exact ⟨_, rfl, r⟩
  | _, _, i + 1, a, .cons _ t, e => by
    obtain ⟨b, h1, h2⟩ := Paired.nth (i := i) (a := a) t (by simpa using e)
    exact ⟨b, by simpa using h1, h2⟩
theorem BksAt.put {H H' : Hp} : ∀ {bs : List Addr} {m : List (List Row)} {i : Nat} {b : Addr} {r : List Row}, BksAt H bs m → bs.Nodup → bs[i]? = some b → Fr [b] H H' → LsAt H' b (r.map rowB) → BksAt H' bs (m.set i r)
  | _, _, _, _, _, .nil, _, e, _, _ => by simp at e
  | _, _, 0, _, _, .cons _ t, nd, e, f, l => by
    simp at e; subst e
    exact .cons l (BksAt.fr t f (nin_bs (List.nodup_cons.mp nd).1))
  | _, _, i + 1, b, r, .cons (a := x) (l₁ := xs) h t, nd, e, f, l => by
    have e' : xs[i]? = some b := by simpa using e
    have nb : x ≠ b := fun z => (List.nodup_cons.mp nd).1 (z ▸ List.mem_of_getElem? e')
    exact .cons (h.fr f (nin1 nb nin0)) (BksAt.put (i := i) t (List.nodup_cons.mp nd).2 e' f l)
theorem HCore.wbs {H H' : Hp} {S : Setup} {h : HP} {rdv : V} {M : HM} {i : Nat} {b : Addr} {r : List Row} (c : HCore H S h rdv M) (n : HNd h) (hb : h.bs[i]? = some b) (f : Fr [b] H H') (e : LsAt H' b (r.map rowB)) : HCore H' S h rdv { M with bk := M.bk.set i r } := by
  have mb : b ∈ h.bs := List.mem_of_getElem? hb
  have ne : ∀ {a : Addr}, a ∉ h.bs → a ≠ b := fun q z => q (z ▸ mb)
  exact ⟨f.at c.st (nin1 (ne n.b1) nin0), f.at c.bk (nin1 (ne n.b2) nin0), c.bs.put n.bn hb f e, c.qu.fr f (nin1 (ne n.b3) nin0), Da.frL f c.rd (imm_round _), c.ct.fr f (nin1 (ne n.b4) nin0), c.out.fr f (nin1 (ne n.b5) nin0)⟩
/-- the stock: d[c] op= v -/
def rStP (st cd : Addr) (z : V) (H : Hp) (P : Hp → Prop) : Prop := ∃ H5, DPut H st (.ref cd) z H5 ∧ P H5
theorem g_stA {S : Setup} (so : SetupOk S) {st cd : Addr} {c : Cell} {g : Cell → Int} {tv : TE} {rd : V → V → Hp → VK → Prop} {σ : L2.St} {H : Hp} {P : Hp → Prop} (ok : CellOk S c) (h : H st = some (.dT (cD (stT S g)))) (hc : H cd = some (.tup [.int c.1, .int c.2]))
    (q : tv σ H fun y2 H3 => rd (.int (g c)) y2 H3 fun z H4 => rStP st cd z H4 P) : rDA0 (.ref st) (.ref cd) tv rd σ H P := g_rda0 (k := ck c) h hc (st_get so ok) q
theorem g_stP {S : Setup} (so : SetupOk S) {st cd : Addr} {c : Cell} {g : Cell → Int} {v : Int} {H : Hp} {P : Hp → Prop} (ok : CellOk S c) (h : H st = some (.dT (cD (stT S g)))) (hc : H cd = some (.tup [.int c.1, .int c.2]))
    (q : ∀ H', Fr [st] H H' → H' st = some (.dT (cD (stT S (fset g c v)))) → P H') : rStP st cd (.int v) H P :=
  g_rdput (k := ck c) h hc (st_lt so g) fun H' f e => q H' f (by rw [e, st_put so ok])
theorem g_stG {S : Setup} (so : SetupOk S) {st cd : Addr} {c : Cell} {g : Cell → Int} {H : Hp} {Q : VK} (ok : CellOk S c) (h : H st = some (.dT (cD (stT S g)))) (hc : H cd = some (.tup [.int c.1, .int c.2])) (q : Q (.int (g c)) H) : rDG (.ref st) (.ref cd) H Q :=
  g_rdg (k := ck c) (.inl h) hc (st_get so ok) q
theorem g_stD {S : Setup} (so : SetupOk S) {st cd : Addr} {c : Cell} {g : Cell → Int} {v : Int} {H : Hp} {P : Hp → Prop} (ok : CellOk S c) (h : H st = some (.dT (cD (stT S g)))) (hc : H cd = some (.tup [.int c.1, .int c.2]))
    (q : ∀ H', Fr [st] H H' → H' st = some (.dT (cD (stT S (fset g c v)))) → P H') : rDP (.ref st) (.ref cd) (.int v) H P :=
  g_rdp (k := ck c) h hc (st_lt so g) fun H' f e => q H' f (by rw [e, st_put so ok])
/-- filling a table of all cells -/
theorem tab_snoc (cs : List Cell) (c : Cell) (f : Cell → Int) : tabF (cs ++ [c]) f = tabF cs f ++ [(c, f c)] := by unfold tabF; rw [List.map_append]; rfl
theorem tab_put {cs : List Cell} {c : Cell} (f : Cell → Int) (h : c ∉ cs) : putK (cD (tabF cs f)) (ck c) (.int (f c)) = cD (tabF (cs ++ [c]) f) := by
  rw [put_cell, pt_new (by rw [tab_keys]; exact h), tab_snoc]
theorem new_cell {N i j : Nat} : ((i : Int), (j : Int)) ∉ cellsK N i ++ rowC j i := fun q => by
  rcases List.mem_append.mp q with h | h
  · have := (mem_cellsK.mp h).2.1
    exact absurd this (by show ¬ (i : Int) < (i : Int); omega)
  · have := (mem_row.mp h).2.2
    exact absurd this (by show ¬ (j : Int) < (j : Int); omega)
def HouseAt (A : Ad) (H : Hp) (h : HP) (S : Setup) (M : HM) : Prop := (∃ dx rdv, H h.p = some (.ins A.House dx (F_House S.sellers h.st h.bk h.qu rdv h.ct h.out)) ∧ HCore H S h rdv M) ∧ AL H h.os
theorem HouseAt.fr {A : Ad} {l : List Addr} {H H' : Hp} {h : HP} {S : Setup} {M : HM} (x : HouseAt A H h S M) (f : Fr l H H') (n : ∀ a ∈ h.os, a ∉ l) : HouseAt A H' h S M := by
  obtain ⟨⟨dx, rdv, e, c⟩, al⟩ := x
  exact ⟨⟨dx, rdv, f.at e (n _ (by simp [HP.os])), c.fr f fun a ha => n a (by unfold HP.os; exact List.mem_cons_of_mem _ ha)⟩, al.1, fun a ha => by obtain ⟨o, q⟩ := al.2 a ha; exact ⟨o, f.at q (n a ha)⟩⟩
/-- behind a method of the house -/
def HRes (A : Ad) (H : Hp) (h : HP) (S : Setup) (M : HM) (Q : Hp → Prop) : Prop := ∀ (h' : HP) (H' : Hp), h'.p = h.p → Fr h.os H H' → (∀ a ∈ h'.os, a ∈ h.os ∨ H a = none) → HouseAt A H' h' S M → Q H'
def HM.start (S : Setup) : HM := ⟨rmC S, List.replicate S.sellers.toNat [], [], none, [], []⟩
theorem HM.start_ok {S : Setup} : (HM.start S).Ok S := ⟨fun _ h => (nomatch h), fun _ h => (by cases h), fun _ h => (by cases h), fun _ h => (nomatch h), List.nodup_nil, List.length_replicate⟩
def P_House_init (K : PySem.W.Frag) (A : Ad) (x0 x1 : V) (H : Hp) (Q : VK) : Prop := ∃ (p dx : Addr) (S : Setup), x0 = .ref p ∧ H p = some (.ins A.House dx []) ∧ Da H x1 (setupD S) ∧ SetupOk S ∧
  ∀ (h : HP) (H' : Hp), h.p = p → Fr [p] H H' → (∀ a ∈ h.os, a = p ∨ H a = none) → HouseAt A H' h S (HM.start S) → Q .non H'
def sp_House_init (K : PySem.W.Frag) (A : Ad) : Sp := fun vs H Q _ => ∃ x0 x1, vs = [x0, x1] ∧ P_House_init K A x0 x1 H Q
theorem c_House_init {K : PySem.W.Frag} {A : Ad} {x0 x1 : V} {H : Hp} {Q : VK} {E : XK} (h : P_House_init K A x0 x1 H Q) : sp_House_init K A [x0, x1] H Q E := ⟨_, _, rfl, h⟩
theorem sc_House_init : FnScope ["self", "setup", "kind", "many", "night", "_"] ["self", "setup"] (defScope s_House_init) := ⟨rfl, rfl, rfl, by decide +kernel, rfl, by decide +kernel, by decide +kernel⟩
def t_House_init (K : PySem.W.Frag) (A : Ad) : TS :=
  (tSeq (sFld K (tVar 0) (tOp (rIxT K) (tVar 1) (tC (.int 2))) "sellers")
    (tSeq (sFld K (tVar 0) tDNewT "stock")
    (tSeq (tFor (iEnumT K (tCons (tOp (rIxT K) (tVar 1) (tC (.int 0))) tNil)) (gTup K 2 (gCons (gName 2) (gCons (gName 3) gNil))) (tFor (iRng1 (tCons (tOp (rIxT K) (tVar 1) (tC (.int 1))) tNil)) (gName 4) (sDPut (tFld K (tVar 0) "stock") (tTup (tCons (tVar 2) (tCons (tVar 4) tNil))) (tVar 3))))
    (tSeq (sFld K (tVar 0) (tLc (iRng1 (tCons (tOp (rIxT K) (tVar 1) (tC (.int 2))) tNil)) (gName 5) tYes (tLst tNil) [5]) "books")
    (tSeq (sFld K (tVar 0) (tLst tNil) "queue")
    (tSeq (sFld K (tVar 0) (tC .non) "round")
    (tSeq (sFld K (tVar 0) tDNewK "counts")
    (sFld K (tVar 0) (tLst tNil) "outgoing"))))))))
theorem pu_House_init (T : Txt K mg A) {x0 x1 : V} {H : Hp} {Q : VK} (h : P_House_init K A x0 x1 H Q) : t_House_init K A { nx := fun _ H' => Q .non H', rt := Q } [some x0, some x1, none, none, none, none] H := by
  obtain ⟨p, dx, S, rfl, hp, dS, so, k⟩ := h
  obtain ⟨s, r, pp, prs, sa⟩ := SetAt.of dS
  cases sa.e
  have e0 := sa.t
  have er := sa.r
  have hn := so.n1
  have hn2 := so.n2
  have hs1 := so.s1
  have hs2 := so.s2
  have hk := so.k1
  unfold t_House_init
  walk_at "go"
  rename_i H1 f1 e1 st H2 n2 f2 e2 H3 f3 e3
  have nsp : st ≠ p := (ne_of_none e1 n2).symm
  have e23 := f3.at e2 (nin1 nsp nin0)
  have F3 : Fr [p] H H3 := (f1.then0 f2).transL f3
  have er3 := F3.tup _ _ er
  have e03 := F3.tup _ _ e0
  have nst : H st = none := f1.freeL n2 (nin1 nsp nin0)
  refine f_enumT (xs := S.rooms.map V.int) (fun i σ H' => (∃ v2 v3 v4 v5, σ = [some (.ref p), some (.ref s), v2, v3, v4, v5]) ∧ Fr [st] H3 H' ∧ H' st = some (.dT (cD (tabF (cellsK S.nights.toNat i) (rmC S))))) ⟨⟨_, _, _, _, rfl⟩, Fr.refl, e23⟩ (fun i σ H' _ ⟨_, f, _⟩ => SqT.of (f.tup _ _ er3)) ?_ ?_
  · rintro i x t σ H4 H5 hx ⟨⟨v2, v3, v4, v5, rfl⟩, f4, e4⟩ nt f5 e5
    obtain ⟨z, rfl, hz, _⟩ := getI hx
    have hi := (List.getElem?_eq_some_iff.mp hz).1
    have e45 := f5.at0 e4
    have rz : rmC S ((i : Int), 0) = z := by unfold rmC; rw [List.getD_eq_getElem?_getD]; show (S.rooms[((i : Nat) : Int).toNat]?).getD 0 = z; rw [Int.toNat_natCast, hz]; rfl
    have ep5 := f5.at0 (f4.at e3 (nin1 nsp.symm nin0))
    have e05 := f5.tup _ _ (f4.tup _ _ e03)
    walk_at "go"
    refine f_range (lo := 0) (n := S.nights.toNat) (fun j σ H' => (∃ v4 v5, σ = [some (.ref p), some (.ref s), some (.int (i : Nat)), some (.int z), v4, v5]) ∧ Fr [st] H5 H' ∧ H' st = some (.dT (cD (tabF (cellsK S.nights.toNat i ++ rowC j i) (rmC S))))) ⟨⟨_, _, rfl⟩, Fr.refl, by rw [show rowC 0 i = [] from rfl, List.append_nil]; exact e45⟩ ?_ ?_
    · rintro j σ H6 hj ⟨⟨v4, v5, rfl⟩, f6, e6⟩
      have ep6 := f6.at ep5 (nin1 nsp.symm nin0)
      have hl6 : (cD (tabF (cellsK S.nights.toNat i ++ rowC j i) (rmC S))).length ≤ 100000 := by
        rw [enD_len]; unfold tabF; rw [List.length_map, List.length_append]
        have h1 : (cellsK S.nights.toNat i).length ≤ 3 * 12 := by
          have key : ∀ (N k : Nat), (cellsK N k).length = k * N := by
            intro N k
            induction k with
            | zero => simp [cellsK]
            | succ k ih => rw [cellsK_succ, List.length_append, ih]; unfold rowC; rw [List.length_map, List.length_range, Nat.succ_mul]
          rw [key]
          exact Nat.mul_le_mul (by have := so.k3; omega) (by omega)
        have h2 : (rowC j i).length = j := by unfold rowC; rw [List.length_map, List.length_range]
        omega
      walk_at "go"
      rename_i q H7 n7 f7 e7
      rw [Int.zero_add] at e7
      have ep7 := f7.at0 ep6
      walk_at "go"
      refine g_rdp (k := ck ((i : Int), (j : Int))) (f7.at0 e6) e7 (szM (by omega)) fun H8 f8 e8 => ?_
      walk_at "go"
      refine ⟨⟨_, _, rfl⟩, (f6.then0 f7).transL f8, ?_⟩
      rw [e8, ← rz]
      have : rmC S ((i : Int), 0) = rmC S ((i : Int), (j : Int)) := rfl
      rw [this, tab_put (rmC S) new_cell, List.append_assoc, ← rowC_succ]
    · rintro σ H6 ⟨⟨v4, v5, rfl⟩, f6, e6⟩
      refine ⟨⟨_, _, _, _, rfl⟩, (f4.then0 f5).transL f6, ?_⟩
      rw [e6, ← cellsK_succ]
  · rintro σ H4 ⟨⟨v2, v3, v4, v5, rfl⟩, f4, e4⟩
    rw [List.length_map] at e4
    have ep4 := f4.at e3 (nin1 nsp.symm nin0)
    have e04 := f4.tup _ _ e03
    have al4 : AL H4 [st, p] := ⟨List.nodup_cons.mpr ⟨nin1 nsp nin0, by simp⟩, fun a ha => by
      rcases List.mem_cons.mp ha with q | q
      · rw [q]; exact ⟨_, e4⟩
      · rw [List.mem_singleton.mp q]; exact ⟨_, ep4⟩⟩
    have F4 : Fr [p] H H4 := F3.own1 f4 nst
    have fr4 : ∀ a ∈ [st, p], a = p ∨ H a = none := fun a ha => by
      rcases List.mem_cons.mp ha with q | q
      · rw [q]; exact .inr nst
      · exact .inl (List.mem_singleton.mp q)
    clear e1 e2 e23 e3 f1 f2 f3 F3 er3 e03 n2 f4
    walk_at "go"
    refine l_range (lo := 0) (n := (S.sellers).toNat) fun Dl H5 nD f5 e5 => ⟨fun i acc H' => ∃ bs : List Addr, acc = bs.map V.ref ∧ BksAt H' bs (List.replicate i []) ∧ Fr [] H4 H' ∧ AL H' (bs ++ [Dl, st, p]) ∧ ∀ b ∈ bs, H4 b = none, ⟨[], rfl, .nil, f5, al4.new f5 nD e5, fun _ h => (nomatch h)⟩, fun i acc H' hi ha ⟨bs, ea, hb, f, al, fr⟩ => ?_, fun acc H' ha ⟨bs, ea, hb, f, al, fr⟩ => ?_⟩
    · walk_at "go"
      refine ⟨rfl, ?_⟩
      walk_at "go"
      rename_i q H6 n6 f6 e6
      have hal : acc.length ≤ 100 := by rw [ea, List.length_map, Paired.length hb, List.length_replicate]; omega
      refine lcY_of (f6.at0 ha) (szM (by omega)) fun H7 f7 e7 => ⟨bs ++ [q], by rw [ea, List.map_append]; rfl, ?_, (f.then0 f6).own1 f7 nD, ?_, fun b hb' => ?_⟩
      · have nq : q ≠ Dl := (ne_of_none ha n6).symm
        have nDb : ∀ b ∈ bs, b ∉ [Dl] := fun b hb' z => (List.nodup_append.mp al.1).2.2 b hb' Dl (by simp) (List.mem_singleton.mp z)
        rw [List.replicate_succ']
        exact Paired.snoc (BksAt.fr (BksAt.fr hb f6 fun b _ => nin0) f7 nDb) (LsAt.nil (f7.at e6 (nin1 nq nin0)))
      · have a1 := al.new f6 n6 e6
        have a2 : AL H7 (q :: (bs ++ [Dl, st, p])) := ⟨a1.1, fun a ha' => by
          by_cases z : a = Dl
          · rw [z]; exact ⟨_, e7⟩
          · obtain ⟨o, eo⟩ := a1.2 a ha'; exact ⟨o, f7.at eo (nin1 z nin0)⟩⟩
        refine a2.perm ?_
        rw [List.append_assoc]
        exact (List.perm_middle).symm
      · rcases List.mem_append.mp hb' with z | z
        · exact fr b z
        · rw [List.mem_singleton.mp z]; exact f.free n6
    · have hp5 := f.at0 ep4
      walk_at "go"
      rename_i H6 f6 e6 qu H7 n7 f7 e7 H8 f8 e8 H9 f9 e9 ct H10 n10 f10 e10 H11 f11 e11 out H12 n12 f12 e12 H13 f13 e13
      have up : ∀ {l : List Addr} {H1 H2 : Hp} {e : HO}, AL H1 l → Fr [p] H1 H2 → H2 p = some e → AL H2 l := fun s f e => ⟨s.1, fun a ha => by
        by_cases z : a = p
        · rw [z]; exact ⟨_, e⟩
        · obtain ⟨o, eo⟩ := s.2 a ha; exact ⟨o, f.at eo (nin1 z nin0)⟩⟩
      have a6 := up al f6 e6
      have a7 := a6.new f7 n7 e7
      have a9 := up (up a7 f8 e8) f9 e9
      have a10 := a9.new f10 n10 e10
      have a11 := up a10 f11 e11
      have a12 := a11.new f12 n12 e12
      have a13 := up a12 f13 e13
      have F : Fr [p] H' H13 := ((((((f6.then0 f7).transL f8).transL f9).then0 f10).transL f11).then0 f12).transL f13
      have aos : AL H13 (HP.os ⟨p, st, Dl, qu, ct, out, bs⟩) := by
        refine a13.perm ?_
        show ([out, ct, qu] ++ (bs ++ [Dl, st, p])).Perm ([p, st, Dl, qu, ct, out] ++ bs)
        refine (List.Perm.append_left [out, ct, qu] (List.perm_append_comm (l₁ := bs) (l₂ := [Dl, st, p]))).trans ?_
        rw [← List.append_assoc]
        exact (List.reverse_perm [p, st, Dl, qu, ct, out]).append_right bs
      have nd := HNd.of aos.1
      have qf : ∀ {a : Addr}, H4 a = none → a ≠ p → H a = none := fun z np => F4.freeL z (nin1 np nin0)
      have nqu : H' qu = none := f6.freeL n7 (nin1 nd.p3.symm nin0)
      have nct : H' ct = none := (((f6.then0 f7).transL f8).transL f9).freeL n10 (nin1 nd.p4.symm nin0)
      have nout : H' out = none := (((((f6.then0 f7).transL f8).transL f9).then0 f10).transL f11).freeL n12 (nin1 nd.p5.symm nin0)
      rw [ea] at ha
      refine k ⟨p, st, Dl, qu, ct, out, bs⟩ H13 rfl ((F4.then0 f).transL F) (fun a ha' => ?_) ⟨⟨dx, .non, e13, ?_⟩, aos⟩
      · have ha' : a = p ∨ a = st ∨ a = Dl ∨ a = qu ∨ a = ct ∨ a = out ∨ a ∈ bs := by simpa [HP.os] using ha'
        rcases ha' with z | z | z | z | z | z | z
        · exact .inl z
        · rw [z]; exact .inr nst
        · rw [z]; exact .inr (qf nD nd.p2.symm)
        · rw [z]; exact .inr (qf (f.free nqu) nd.p3.symm)
        · rw [z]; exact .inr (qf (f.free nct) nd.p4.symm)
        · rw [z]; exact .inr (qf (f.free nout) nd.p5.symm)
        · exact .inr (qf (fr a z) fun w => nd.b0 (by rw [← w]; exact z))
      · refine ⟨F.at (f.at0 e4) (nin1 nd.p1.symm nin0), F.at ha (nin1 nd.p2.symm nin0), BksAt.fr hb F (nin_bs nd.b0), ?_, .non, ?_, ?_⟩
        · exact LsAt.nil (f13.at (f12.at0 (f11.at (f10.at0 (f9.at (f8.at e7 (nin1 nd.p3.symm nin0)) (nin1 nd.p3.symm nin0))) (nin1 nd.p3.symm nin0))) (nin1 nd.p3.symm nin0))
        · exact DkAt.nil (f13.at (f12.at0 (f11.at e10 (nin1 nd.p4.symm nin0))) (nin1 nd.p4.symm nin0))
        · exact LsAt.nil (f13.at e12 (nin1 nd.p5.symm nin0))
theorem ok_House_init {f : Addr} {fd : FuncData} (F : Fun K "__init__" "House.__init__" s_House_init f fd) (T : Txt K mg A)  : FnOk P w K mg base CX0 (1) f fd ["self", "setup"] (sp_House_init K A) := by
  refine F.ok sc_House_init (fun vs H Q E h => ?_) (fun cdv Ar outer s H vs Q E hr h => ⟨t_House_init K A, ?_, ?_⟩)
  · obtain ⟨x0, x1, rfl, _⟩ := h
    rfl
  · have hu := hu_of hr
    exact (pss_cons (ps_fld (pv 0) (pe_ix ix_tup (pv 1) pe_int (fun _ _ => rfl)) rfl)
    (pss_cons (ps_fld (pv 0) pe_dnewT rfl)
    (pss_cons (ps_for PassesOwn.never rfl (pi_enumT (by rfl) T.b_enumerate (pa_cons (pe_ix ix_tup (pv 1) pe_int (fun _ _ => rfl)) pa_nil)) (pg_tup rfl (pgs_cons (pg_name (i := 2) sc_House_init.nd rfl (Or.inl rfl)) (pgs_cons (pg_name (i := 3) sc_House_init.nd rfl (Or.inl rfl)) pgs_nil))) (pss_one (ps_for PassesOwn.never rfl (pi_range1 rfl T.b_range (pa_cons (pe_ix ix_tup (pv 1) pe_int (fun _ _ => rfl)) pa_nil)) (pg_name (i := 4) sc_House_init.nd rfl (Or.inl rfl)) (pss_one (ps_dput hu (pe_fld (pv 0) rfl) (pe_tup (pa_cons (pv 2) (pa_cons (pv 4) pa_nil))) (pv 3) rfl)))))
    (pss_cons (ps_fld (pv 0) (pe_lc (own := [("_", 5)]) (g := (gName 5)) (tt := tYes) rfl sc_House_init.nd (pi_range1 rfl T.b_range (pa_cons (pe_ix ix_tup (pv 1) pe_int (fun _ _ => rfl)) pa_nil)) (blkOk_by (N := ["self", "setup", "kind", "many", "night", "_"]) (sc := defScope s_House_init) (own := [("_", 5)]) (by decide +kernel)) (fun _ _ _ _ _ => (pg_name (i := 5) sc_House_init.nd rfl (Or.inl rfl))) (fun _ _ _ _ _ => pts_nil) (fun _ _ _ _ _ => (pe_lst pa_nil))) rfl)
    (pss_cons (ps_fld (pv 0) (pe_lst pa_nil) rfl)
    (pss_cons (ps_fld (pv 0) pe_non rfl)
    (pss_cons (ps_fld (pv 0) pe_dnewK rfl)
    (pss_one (ps_fld (pv 0) (pe_lst pa_nil) rfl)))))))))
  · obtain ⟨x0, x1, rfl, h⟩ := h
    exact pu_House_init T h
def P_House_bodies (K : PySem.W.Frag) (A : Ad) (x0 : V) (H : Hp) (Q : VK) : Prop := ∃ (h : HP) (S : Setup) (M : HM), x0 = .ref h.p ∧ HouseAt A H h S M ∧
  ∀ (o : Addr) (H' : Hp), H o = none → Fr [h.p] H H' → HouseAt A H' { h with out := o } S { M with out := [] } → LsAt H' h.out (M.out.map outD) → Q (.ref h.out) H'
def sp_House_bodies (K : PySem.W.Frag) (A : Ad) : Sp := fun vs H Q _ => ∃ x0, vs = [x0] ∧ P_House_bodies K A x0 H Q
theorem c_House_bodies {K : PySem.W.Frag} {A : Ad} {x0 : V} {H : Hp} {Q : VK} {E : XK} (h : P_House_bodies K A x0 H Q) : sp_House_bodies K A [x0] H Q E := ⟨_, rfl, h⟩
theorem sc_House_bodies : FnScope ["self", "found"] ["self"] (defScope s_House_bodies) := ⟨rfl, rfl, rfl, by decide +kernel, rfl, by decide +kernel, by decide +kernel⟩
def t_House_bodies (K : PySem.W.Frag) (A : Ad) : TS :=
  (tSeq (tAsg (tFld K (tVar 0) "outgoing") (gName 1))
    (tSeq (sFld K (tVar 0) (tLst tNil) "outgoing")
    (tRet (tVar 1))))
theorem pu_House_bodies (T : Txt K mg A) {x0 : V} {H : Hp} {Q : VK} (h : P_House_bodies K A x0 H Q) : t_House_bodies K A { nx := fun _ H' => Q .non H', rt := Q } [some x0, none] H := by
  obtain ⟨h, S, M, rfl, ⟨⟨dx, rdv, e, c⟩, al⟩, k⟩ := h
  have nd := HNd.of al.1
  unfold t_House_bodies
  walk_at "go"
  rename_i o H1 n1 f1 e1 H2 f2 e2
  have a1 := al.new f1 n1 e1
  have no : o ∉ h.os := (List.nodup_cons.mp a1.1).1
  have np : ∀ {a : Addr}, a ≠ h.p → a ∉ [h.p] := fun q => nin1 q nin0
  have nop : o ≠ h.p := fun z => no (by rw [z]; simp [HP.os])
  have F : Fr [h.p] H H2 := f2.pre0' f1
  refine k o H2 n1 F ⟨⟨dx, rdv, e2, ?_⟩, ?_⟩ (c.out.fr F (np nd.p5.symm))
  · exact ⟨F.at c.st (np nd.p1.symm), F.at c.bk (np nd.p2.symm), c.bs.fr F (nin_bs nd.b0), c.qu.fr F (np nd.p3.symm), Da.frL F c.rd (imm_round _), c.ct.fr F (np nd.p4.symm), LsAt.nil (f2.at e1 (np nop))⟩
  · have s2 : AL H2 (o :: h.os) := ⟨a1.1, fun a ha => by
      by_cases z : a = h.p
      · rw [z]; exact ⟨_, e2⟩
      · obtain ⟨u, eu⟩ := a1.2 a ha; exact ⟨u, f2.at eu (np z)⟩⟩
    have p1 : (o :: h.os).Perm (h.out :: (h.p :: h.st :: h.bk :: h.qu :: h.ct :: o :: h.bs)) := by
      unfold HP.os
      refine (List.perm_middle (l₁ := [o, h.p, h.st, h.bk, h.qu, h.ct]) (l₂ := h.bs) (a := h.out)).trans ?_
      exact List.Perm.cons _ (List.perm_middle (l₁ := [h.p, h.st, h.bk, h.qu, h.ct]) (l₂ := h.bs) (a := o)).symm
    have s3 := s2.perm p1
    exact ⟨(List.nodup_cons.mp s3.1).2, fun a ha => s3.2 a (List.mem_cons_of_mem _ ha)⟩
theorem ok_House_bodies {f : Addr} {fd : FuncData} (F : Fun K "bodies" "House.bodies" s_House_bodies f fd) (T : Txt K mg A)  : FnOk P w K mg base CX0 (1) f fd ["self"] (sp_House_bodies K A) := by
  refine F.ok sc_House_bodies (fun vs H Q E h => ?_) (fun cdv Ar outer s H vs Q E hr h => ⟨t_House_bodies K A, ?_, ?_⟩)
  · obtain ⟨x0, rfl, _⟩ := h
    rfl
  · have hu := hu_of hr
    exact (pss_cons (ps_set (i := 1) sc_House_bodies.nd rfl (Or.inl rfl) (pe_fld (pv 0) rfl))
    (pss_cons (ps_fld (pv 0) (pe_lst pa_nil) rfl)
    (pss_one (ps_ret (pv 1)))))
  · obtain ⟨x0, rfl, h⟩ := h
    exact pu_House_bodies T h
def P_House_cells (K : PySem.W.Frag) (A : Ad) (x0 : V) (H : Hp) (Q : VK) : Prop := ∃ (h : HP) (S : Setup) (M : HM) (a : Ask), x0 = .ref h.p ∧ HouseAt A H h S M ∧ M.rd = some a ∧ a.2.2.length ≤ 1000 ∧
  ∀ (t : Addr) (xs : List V) (H' : Hp), Fr [] H H' → H' t = some (.tup xs) → DaL H' xs ((lackC a).map cellD) → Q (.ref t) H'
def sp_House_cells (K : PySem.W.Frag) (A : Ad) : Sp := fun vs H Q _ => ∃ x0, vs = [x0] ∧ P_House_cells K A x0 H Q
theorem c_House_cells {K : PySem.W.Frag} {A : Ad} {x0 : V} {H : Hp} {Q : VK} {E : XK} (h : P_House_cells K A x0 H Q) : sp_House_cells K A [x0] H Q E := ⟨_, rfl, h⟩
theorem sc_House_cells : FnScope ["self", "cell", "_"] ["self"] (defScope s_House_cells) := ⟨rfl, rfl, rfl, by decide +kernel, rfl, by decide +kernel, by decide +kernel⟩
def t_House_cells (K : PySem.W.Frag) (A : Ad) : TS :=
  (tRet (tCB (rTupOf K) (tCons (tLc (iTup K (tOp (rIxT K) (tFld K (tVar 0) "round") (tC (.int 2)))) (gTup K 2 (gCons (gName 1) (gCons (gName 2) gNil))) tYes (tVar 1) [1, 2]) tNil)))
theorem pu_House_cells (T : Txt K mg A) {x0 : V} {H : Hp} {Q : VK} (h : P_House_cells K A x0 H Q) : t_House_cells K A { nx := fun _ H' => Q .non H', rt := Q } [some x0, none, none] H := by
  obtain ⟨h, S, M, a, rfl, ⟨⟨dx, rdv, e, c⟩, al⟩, hr, hl, k⟩ := h
  have drd := c.rd
  rw [hr] at drd
  obtain ⟨p, l, xs, rfl, ep, el, dxs⟩ := ask_at drd
  unfold t_House_cells
  walk_at "go"
  refine l_tup (xs := xs) fun Dl H1 nD f1 e1 => ⟨fun i acc H' => DaL H' acc (((lackC a).take i).map cellD) ∧ Fr [] H H', ⟨.nil, f1⟩, fun i acc H' q => SqT.of (q.2.tup _ _ el), fun i x acc H' hx ha ⟨da, f⟩ => ?_, fun acc H' ha ⟨da, f⟩ => ?_⟩
  · obtain ⟨y, b, cc, hy, rfl, eb, ec⟩ := lack_get (DaL.frL f dxs (immL_map (fun _ => rfl) _)) hx
    have hy2 : (lackC a)[i]? = some y.1 := by rw [List.getElem?_map, hy]; rfl
    have hac : acc.length ≤ 1000 := by rw [da.len, List.length_map, List.length_take, List.length_map]; omega
    walk_at "go"
    refine ⟨rfl, ?_⟩
    walk_at "go"
    refine lcY_of ha (szM (by omega)) fun H2 f2 e2 => ⟨?_, f.own1 f2 nD⟩
    rw [take_more hy2, List.map_append]
    exact (DaL.frL f2 da (immL_map imm_cell _)).append (.one' (.tup (f2.tup _ _ ec) (Nat.le_of_ble_eq_true rfl) (.cons (.int _) (.one' (.int _)))))
  · have hxl : xs.length = a.2.2.length := by rw [dxs.len, List.length_map]
    have ht : (lackC a).take xs.length = lackC a := List.take_of_length_le (by rw [List.length_map, hxl]; exact Nat.le_refl _)
    rw [ht] at da
    walk_at "go"
    rename_i t H2 n2 f2 e2
    exact k t acc H2 (f.then0 f2) e2 (DaL.frL f2 da (immL_map imm_cell _))
theorem ok_House_cells {f : Addr} {fd : FuncData} (F : Fun K "cells" "House.cells" s_House_cells f fd) (T : Txt K mg A)  : FnOk P w K mg base CX0 (1) f fd ["self"] (sp_House_cells K A) := by
  refine F.ok sc_House_cells (fun vs H Q E h => ?_) (fun cdv Ar outer s H vs Q E hr h => ⟨t_House_cells K A, ?_, ?_⟩)
  · obtain ⟨x0, rfl, _⟩ := h
    rfl
  · have hu := hu_of hr
    exact (pss_one (ps_ret (pe_callTy b_tuple (by rfl) T.b_tuple (by decide +kernel) (pa_cons (pe_lc (own := [("cell", 1), ("_", 2)]) (g := (gTup K 2 (gCons (gName 1) (gCons (gName 2) gNil)))) (tt := tYes) rfl sc_House_cells.nd (pi_tup (pe_ix ix_tup (pe_fld (pv 0) rfl) pe_int (fun _ _ => rfl))) (blkOk_by (N := ["self", "cell", "_"]) (sc := defScope s_House_cells) (own := [("cell", 1), ("_", 2)]) (by decide +kernel)) (fun _ _ _ _ _ => (pg_tup rfl (pgs_cons (pg_name (i := 1) sc_House_cells.nd rfl (Or.inl rfl)) (pgs_cons (pg_name (i := 2) sc_House_cells.nd rfl (Or.inl rfl)) pgs_nil)))) (fun _ _ _ _ _ => pts_nil) (fun _ _ _ _ _ => (pv 1))) pa_nil))))
  · obtain ⟨x0, rfl, h⟩ := h
    exact pu_House_cells T h

/-! ### the house's work -/
theorem take_range {α : Type} (f : Nat → α) (n i : Nat) (hi : i < n) : ((List.range n).map f).take (i + 1) = ((List.range n).map f).take i ++ [f i] := by
  refine take_more ?_
  rw [List.getElem?_map, List.getElem?_range hi]; rfl
theorem closeD {H : Hp} {c t s : Addr} {xs : List V} {i : Nat} {a : Ask} (et : H t = some (.tup xs)) (dt : DaL H xs ((lackC a).map cellD)) (es : H s = some (.tup [.str "close", .ref t])) (ec : H c = some (.tup [.int (i : Nat), .ref s])) (hl : a.2.2.length ≤ 1000) : Da H (.ref c) (outD ((i : Int), DnB.close (lackC a))) := by
  refine .tup ec (Nat.le_of_ble_eq_true rfl) (.cons (.int _) (.one' (.tup es (Nat.le_of_ble_eq_true rfl) (.cons (.str _) (.one' (.tup et ?_ dt))))))
  rw [dt.len, List.length_map, List.length_map]; omega
def P_House_look (K : PySem.W.Frag) (A : Ad) (x0 : V) (H : Hp) (Q : VK) : Prop := ∃ (h : HP) (S : Setup) (M : HM), x0 = .ref h.p ∧ HouseAt A H h S M ∧ SetupOk S ∧ M.Ok S ∧ M.out.length ≤ 100000 ∧ M.qu.length ≤ 100000 ∧ HRes A H h S (M.look S.sellers.toNat) fun H' => Q .non H'
def sp_House_look (K : PySem.W.Frag) (A : Ad) : Sp := fun vs H Q _ => ∃ x0, vs = [x0] ∧ P_House_look K A x0 H Q
theorem c_House_look {K : PySem.W.Frag} {A : Ad} {x0 : V} {H : Hp} {Q : VK} {E : XK} (h : P_House_look K A x0 H Q) : sp_House_look K A [x0] H Q E := ⟨_, rfl, h⟩
theorem sc_House_look : FnScope ["self", "seller"] ["self"] (defScope s_House_look) := ⟨rfl, rfl, rfl, by decide +kernel, rfl, by decide +kernel, by decide +kernel⟩
def t_House_look (K : PySem.W.Frag) (A : Ad) : TS :=
  (tIfS (tAnd (tTest (tOp rIsNon (tFld K (tVar 0) "round") (tC .non))) (tTr K (tFld K (tVar 0) "queue"))) (tSeq (sFld K (tVar 0) (tBM K "list" rPopAt (tFld K (tVar 0) "queue") (tCons (tC (.int 0)) tNil)) "round")
    (tSeq (sFld K (tVar 0) tDNewK "counts")
    (tFor (iRng1 (tCons (tFld K (tVar 0) "sellers") tNil)) (gName 1) (tDrop (tBM K "list" rAppend (tFld K (tVar 0) "outgoing") (tCons (tTup (tCons (tVar 1) (tCons (tTup (tCons (tC (.str "close")) (tCons (tMt A.House "cells" (sp_House_cells K A) (tVar 0) tNil) tNil))) tNil))) tNil)))))) tNext)
theorem pu_House_look (T : Txt K mg A) {x0 : V} {H : Hp} {Q : VK} (h : P_House_look K A x0 H Q) : t_House_look K A { nx := fun _ H' => Q .non H', rt := Q } [some x0, none] H := by
  obtain ⟨h, S, M, rfl, ⟨⟨dx, rdv, e, c⟩, al⟩, so, mo, hol, hql, k⟩ := h
  have nd := HNd.of al.1
  have cq := c.qu
  have hs1 := so.s1
  have hs2 := so.s2
  unfold t_House_look
  have e' : H h.p = some (.ins A.House dx [("sellers", .int S.sellers), ("stock", .ref h.st), ("books", .ref h.bk), ("queue", .ref h.qu), ("round", rdv), ("counts", .ref h.ct), ("outgoing", .ref h.out)]) := e
  walk_at "go"
  have same : M.look S.sellers.toNat = M → Q .non H := fun z => k h H rfl Fr.refl (fun a ha => .inl ha) (by rw [z]; exact ⟨⟨dx, rdv, e, c⟩, al⟩)
  refine g_ite (fun hr => ?_) (fun hr => ?_)
  · have hrn : M.rd = none := by
      cases q : M.rd with
      | none => rfl
      | some a =>
        have := c.rd
        rw [q, hr] at this
        cases this
    obtain ⟨iq, vs, eq, dq⟩ := id cq
    walk_at "go"
    cases hq : M.qu with
    | nil =>
      rw [hq] at dq
      cases dq
      refine g_trN (SqL.of eq) ?_
      walk_at "go"
      exact same (by unfold HM.look; rw [hrn, hq])
    | cons a q =>
      have hlk : M.look S.sellers.toNat = { M with rd := some a, qu := q, ct := [], out := M.out ++ closeL S.sellers.toNat a } := by unfold HM.look; rw [hrn, hq]
      rw [hq] at dq
      cases dq with
      | @cons v vs d ds dv dvs =>
      have hvl : (v :: vs).length ≤ 1000000 := by
        have := dvs.len
        rw [List.length_map] at this
        rw [hq, List.length_cons] at hql
        rw [List.length_cons]; omega
      refine g_trC (SqL.of eq) ?_
      walk_at "go"
      refine g_popAt (i := 0) eq hvl (Int.le_refl _) rfl fun H1 f1 e1 => ?_
      have ep1 := f1.at e' (nin1 nd.p3 nin0)
      walk_at "go"
      rename_i H2 f2 e2 ct H3 n3 f3 e3 H4 f4 e4
      have nct : H ct = none := by
        refine f1.freeL (f2.freeL n3 ?_) ?_
        · exact nin1 (ne_of_none e2 n3).symm nin0
        · exact nin1 (fun z => by rw [z] at n3; rw [f2.at e1 (nin1 nd.p3.symm nin0)] at n3; cases n3) nin0
      have nc : ∀ a ∈ h.os, a ≠ ct := fun a ha z => by obtain ⟨o, q⟩ := al.2 a ha; rw [z, nct] at q; cases q
      have ncp := nc h.p (by simp [HP.os])
      have nco := nc h.out (by simp [HP.os])
      -- the state ahead of the letters
      have F4 : Fr [h.qu, h.p] H H4 := ((f1.mono (by simp)).transL ((f2.mono (by simp) : Fr [h.qu, h.p] H1 H2))).then0 f3 |>.transL (f4.mono (by simp))
      have dv4 := Da.frL F4 dv (imm_ask a)
      have c4 : HCore H4 S { h with ct := ct } v { M with rd := some a, qu := q, ct := [] } := by
        refine ⟨F4.at c.st (nin1 nd.n2 (nin1 nd.p1.symm nin0)), F4.at c.bk (nin1 nd.n5 (nin1 nd.p2.symm nin0)), c.bs.fr F4 (fun b hb => nin1 (fun z => nd.b3 (z ▸ hb)) (nin1 (fun z => nd.b0 (z ▸ hb)) nin0)), ?_, dv4, DkAt.nil (f4.at e3 (nin1 ncp.symm nin0)), c.out.fr F4 (nin1 nd.n9.symm (nin1 nd.p5.symm nin0))⟩
        have iqq : immL (q.map askD) = true := immL_map imm_ask q
        exact ⟨iqq, vs, f4.at (f3.at0 (f2.at e1 (nin1 nd.p3.symm nin0))) (nin1 nd.p3.symm nin0), DaL.frL F4 dvs iqq⟩
      have al4 : AL H4 (HP.os { h with ct := ct }) := by
        have s1 : AL H1 h.os := ⟨al.1, fun a ha => by
          by_cases z : a = h.qu
          · rw [z]; exact ⟨_, e1⟩
          · obtain ⟨o, q⟩ := al.2 a ha; exact ⟨o, f1.at q (nin1 z nin0)⟩⟩
        have s2 : AL H2 h.os := ⟨al.1, fun a ha => by
          by_cases z : a = h.p
          · rw [z]; exact ⟨_, e2⟩
          · obtain ⟨o, q⟩ := s1.2 a ha; exact ⟨o, f2.at q (nin1 z nin0)⟩⟩
        have s3 := s2.new f3 n3 e3
        have s4 : AL H4 (ct :: h.os) := ⟨s3.1, fun a ha => by
          by_cases z : a = h.p
          · rw [z]; exact ⟨_, e4⟩
          · obtain ⟨o, q⟩ := s3.2 a ha; exact ⟨o, f4.at q (nin1 z nin0)⟩⟩
        have p1 : (ct :: h.os).Perm (h.ct :: (h.p :: h.st :: h.bk :: h.qu :: ct :: h.out :: h.bs)) := by
          unfold HP.os
          refine (List.perm_middle (l₁ := [ct, h.p, h.st, h.bk, h.qu]) (l₂ := h.out :: h.bs) (a := h.ct)).trans ?_
          exact List.Perm.cons _ (List.perm_middle (l₁ := [h.p, h.st, h.bk, h.qu]) (l₂ := h.out :: h.bs) (a := ct)).symm
        have s5 := s4.perm p1
        exact ⟨(List.nodup_cons.mp s5.1).2, fun a ha => s5.2 a (List.mem_cons_of_mem _ ha)⟩
      have nd4 := HNd.of al4.1
      have e4' : H4 h.p = some (.ins A.House dx (F_House S.sellers h.st h.bk h.qu v ct h.out)) := e4
      have hal : a.2.2.length ≤ 36 := (mo.qk a (by rw [hq]; exact List.mem_cons_self)).2
      have own4 : ∀ x ∈ HP.os { h with ct := ct }, x ∈ h.os ∨ H x = none := fun x hx => by
        have hx' : x = h.p ∨ x = h.st ∨ x = h.bk ∨ x = h.qu ∨ x = ct ∨ x = h.out ∨ x ∈ h.bs := by simpa [HP.os] using hx
        rcases hx' with z | z | z | z | z | z | z
        · exact .inl (by rw [z]; simp [HP.os])
        · exact .inl (by rw [z]; simp [HP.os])
        · exact .inl (by rw [z]; simp [HP.os])
        · exact .inl (by rw [z]; simp [HP.os])
        · exact .inr (by rw [z]; exact nct)
        · exact .inl (by rw [z]; simp [HP.os])
        · exact .inl (by simp [HP.os, z])
      have F4' : Fr h.os H H4 := F4.mono fun x hx => by
        rcases List.mem_cons.mp hx with z | z
        · rw [z]; simp [HP.os]
        · rw [List.mem_singleton.mp z]; simp [HP.os]
      have hos : h.out ∈ h.os := by simp [HP.os]
      clear F4 e1 e2 e3 e4 f1 f2 f3 f4 n3 ep1 dvs dv eq cq c e e'
      walk_at "go"
      refine f_range (lo := 0) (n := S.sellers.toNat) (fun i σ H' => (∃ v1, σ = [some (.ref h.p), v1]) ∧ Fr [h.out] H4 H' ∧ LsAt H' h.out ((M.out ++ (closeL S.sellers.toNat a).take i).map outD)) ⟨⟨_, rfl⟩, Fr.refl, by rw [List.take_zero, List.append_nil]; exact c4.out⟩ ?_ ?_
      · rintro i σ H5 hi ⟨⟨v1, rfl⟩, f5, o5⟩
        obtain ⟨io, os, eo, dox⟩ := id o5
        have hosl : os.length ≤ 200000 := by
          rw [dox.len, List.length_map, List.length_append, List.length_take]
          unfold closeL
          rw [List.length_map, List.length_range]; omega
        have e5 := f5.at e4' (nin1 nd4.p5 nin0)
        have c5 : HouseAt A H5 { h with ct := ct } S { M with rd := some a, qu := q, ct := [], out := M.out ++ (closeL S.sellers.toNat a).take i } := ⟨⟨dx, v, e5, c4.wout nd4 f5 o5⟩, al4.1, fun x hx => by
          by_cases z : x = h.out
          · rw [z]; exact ⟨_, eo⟩
          · obtain ⟨o, q⟩ := al4.2 x hx; exact ⟨o, f5.at q (nin1 z nin0)⟩⟩
        walk_at "go"
        refine c_House_cells ⟨{ h with ct := ct }, S, { M with rd := some a, qu := q, ct := [], out := M.out ++ (closeL S.sellers.toNat a).take i }, a, rfl, c5, rfl, by omega, fun t ts H6 f6 et dt => ?_⟩
        have eo6 := f6.at0 eo
        walk_at "go"
        rename_i s H7 n7 f7 e7 cc H8 n8 f8 e8 H9 f9 e9
        refine ⟨⟨_, rfl⟩, (((f5.then0 f6).then0 f7).then0 f8).transL f9, ?_⟩
        have ic : imm (outD ((i : Int), DnB.close (lackC a))) = true := imm_out _
        rw [show (closeL S.sellers.toNat a).take (i + 1) = (closeL S.sellers.toNat a).take i ++ [((i : Int), DnB.close (lackC a))] from take_range _ _ _ hi, ← List.append_assoc, List.map_append]
        rw [Int.zero_add] at e8
        exact LsAt.snoc (DaL.frL f8 (DaL.frL f7 (DaL.frL f6 dox io) io) io) io (closeD (f8.tup _ _ (f7.tup _ _ et)) (DaL.frL f8 (DaL.frL f7 dt (immL_map imm_cell _)) (immL_map imm_cell _)) (f8.tup _ _ e7) e8 (by omega)) ic f9 e9
      · rintro σ H5 ⟨⟨v1, rfl⟩, f5, o5⟩
        have ht : (closeL S.sellers.toNat a).take S.sellers.toNat = closeL S.sellers.toNat a := List.take_of_length_le (by unfold closeL; rw [List.length_map, List.length_range]; exact Nat.le_refl _)
        rw [ht] at o5
        walk_at "go"
        refine k { h with ct := ct } H5 rfl (F4'.transL (f5.mono fun x hx => by rw [List.mem_singleton.mp hx]; exact hos)) own4 ?_
        rw [hlk]
        refine ⟨⟨dx, v, f5.at e4' (nin1 nd4.p5 nin0), c4.wout nd4 f5 o5⟩, al4.1, fun x hx => ?_⟩
        by_cases z : x = h.out
        · obtain ⟨_, os, eo, _⟩ := o5; rw [z]; exact ⟨_, eo⟩
        · obtain ⟨o, q⟩ := al4.2 x hx; exact ⟨o, f5.at q (nin1 z nin0)⟩
  · walk_at "go"
    exact same (by
      unfold HM.look
      cases q : M.rd with
      | none => exact absurd (by have := c.rd; rw [q] at this; cases this; rfl) hr
      | some a => rfl)
theorem ok_House_look {f : Addr} {fd : FuncData} (F : Fun K "look" "House.look" s_House_look f fd) (T : Txt K mg A) (c_House_cells : CalM P w K mg base A.House "cells" 1 ["self"] (sp_House_cells K A)) : FnOk P w K mg base CX0 (2) f fd ["self"] (sp_House_look K A) := by
  refine F.ok sc_House_look (fun vs H Q E h => ?_) (fun cdv Ar outer s H vs Q E hr h => ⟨t_House_look K A, ?_, ?_⟩)
  · obtain ⟨x0, rfl, _⟩ := h
    rfl
  · have hu := hu_of hr
    exact (pss_one (ps_if (PW.pt (pw_and (pt_cmpR c_isN (pe_fld (pv 0) rfl) pe_non (nomark _)) (pw_and1 (pt_tr (pe_fld (pv 0) rfl) (by intro _; rfl))))) (pss_cons (ps_fld (pv 0) (pe_bm PySem.F.plainAttrs_list PySem.F.slot_list_pop PySem.F.type_list_pop mt_popAt (pe_fld (pv 0) rfl) (pa_cons pe_int pa_nil)) rfl)
    (pss_cons (ps_fld (pv 0) pe_dnewK rfl)
    (pss_one (ps_for PassesOwn.never rfl (pi_range1 rfl T.b_range (pa_cons (pe_fld (pv 0) rfl) pa_nil)) (pg_name (i := 1) sc_House_look.nd rfl (Or.inl rfl)) (pss_one (ps_expr (pe_bm PySem.F.plainAttrs_list PySem.F.slot_list_append PySem.F.type_list_append mt_append (pe_fld (pv 0) rfl) (pa_cons (pe_tup (pa_cons (pv 1) (pa_cons (pe_tup (pa_cons pe_str (pa_cons (pe_mt0 (pv 0) T.cl_House c_House_cells (hr.mono (by first | decide | omega))) pa_nil))) pa_nil))) pa_nil)))))))) pss_nil))
  · obtain ⟨x0, rfl, h⟩ := h
    exact pu_House_look T h

theorem HRes.pre {A : Ad} {H H5 : Hp} {h : HP} {S : Setup} {M : HM} {Q : Hp → Prop} (k : HRes A H h S M Q) (F : Fr h.os H H5) : HRes A H5 h S M Q := fun h' H' e f own at' =>
  k h' H' e (F.transL f) (fun a ha => (own a ha).elim .inl fun z => by
    by_cases q : a ∈ h.os
    · exact .inl q
    · exact .inr (F.freeL z q)) at'
theorem subZ_snoc (f : Cell → Int) (l : List (Cell × Int)) (e : Cell × Int) : subZ f (l ++ [e]) = fset (subZ f l) e.1 (subZ f l e.1 - e.2) := by unfold subZ; rw [List.foldl_append]; rfl
theorem addZ_snoc (f : Cell → Int) (l : List (Cell × Int)) (e : Cell × Int) : addZ f (l ++ [e]) = fset (addZ f l) e.1 (addZ f l e.1 + e.2) := by unfold addZ; rw [List.foldl_append]; rfl
theorem backZ_snoc : ∀ (l : List (Cell × Int)) (f : Cell → Int) (e : Cell × Int), backZ f (l ++ [e]) = ((backZ f l).1 ++ [minI e.2 ((backZ f l).2 e.1)], fset (backZ f l).2 e.1 ((backZ f l).2 e.1 - minI e.2 ((backZ f l).2 e.1)))
  | [], f, e => rfl
  | x :: l, f, e => by
    show backZ f (x :: (l ++ [e])) = _
    unfold backZ
    rw [backZ_snoc l]
    rfl
theorem backZ_len : ∀ (l : List (Cell × Int)) (f : Cell → Int), (backZ f l).1.length = l.length
  | [], _ => rfl
  | x :: l, f => by unfold backZ; show _ + 1 = _ + 1; rw [backZ_len l]
theorem grant_map (f : Cell → Int) (l : Lack) : ((l.map fun e => decide (e.2 ≤ f e.1)).all id) = grantZ f l := by
  unfold grantZ
  rw [List.all_map]; rfl
theorem zip_get {α β : Type} {l : List α} {m : List β} {i : Nat} {a : α} {b : β} (h1 : l[i]? = some a) (h2 : m[i]? = some b) : (l.zip m)[i]? = some (a, b) := List.getElem?_zip_eq_some.mpr ⟨h1, h2⟩
theorem openD {H : Hp} {c t s : Addr} {i : Nat} {b : List Int} {an : V} {ans : Option (Int × Bool)} (et : H t = some (.tup (b.map V.int))) (hb : b.length ≤ 1000) (da : Da H an (ansD ans)) (es : H s = some (.tup [.str "open", .ref t, an])) (ec : H c = some (.tup [.int (i : Nat), .ref s])) : Da H (.ref c) (outD ((i : Int), DnB.opn b ans)) :=
  .tup ec (Nat.le_of_ble_eq_true rfl) (.cons (.int _) (.one' (.tup es (Nat.le_of_ble_eq_true rfl) (.cons (.str _) (.cons (.tup et (by rw [List.length_map]; omega) (.ofInts b)) (.one' da))))))
theorem al_put {H H' : Hp} {l : List Addr} {p : Addr} {o : HO} (s : AL H l) (f : Fr [p] H H') (e : H' p = some o) : AL H' l := ⟨s.1, fun a ha => by
  by_cases z : a = p
  · rw [z]; exact ⟨_, e⟩
  · obtain ⟨u, q⟩ := s.2 a ha; exact ⟨u, f.at q (nin1 z nin0)⟩⟩
theorem opensZ_len (a : Ask) (g : Bool) (ct : List (Int × List Int)) (f : Cell → Int) : ∀ n, (opensZ a g ct f n).2.length = n
  | 0 => rfl
  | n + 1 => by
    simp only [opensZ, List.length_append, opensZ_len a g ct f n, List.length_cons, List.length_nil]
def P_House_decide (K : PySem.W.Frag) (A : Ad) (x0 : V) (H : Hp) (Q : VK) : Prop := ∃ (h : HP) (S : Setup) (M : HM) (a : Ask), x0 = .ref h.p ∧ HouseAt A H h S M ∧ SetupOk S ∧ M.Ok S ∧ M.rd = some a ∧ M.ct.length = S.sellers.toNat ∧ M.out.length ≤ 50000 ∧ M.qu.length ≤ 50000 ∧ HRes A H h S (M.decide S.sellers.toNat) fun H' => Q .non H'
def sp_House_decide (K : PySem.W.Frag) (A : Ad) : Sp := fun vs H Q _ => ∃ x0, vs = [x0] ∧ P_House_decide K A x0 H Q
theorem c_House_decide {K : PySem.W.Frag} {A : Ad} {x0 : V} {H : Hp} {Q : VK} {E : XK} (h : P_House_decide K A x0 H Q) : sp_House_decide K A [x0] H Q E := ⟨_, rfl, h⟩
theorem sc_House_decide : FnScope ["self", "asker", "number", "lack", "granted", "cell", "many", "seller", "back", "answer"] ["self"] (defScope s_House_decide) := ⟨rfl, rfl, rfl, by decide +kernel, rfl, by decide +kernel, by decide +kernel⟩
def t_House_decide (K : PySem.W.Frag) (A : Ad) : TS :=
  (tSeq (tAsg (tFld K (tVar 0) "round") (gTup K 3 (gCons (gName 1) (gCons (gName 2) (gCons (gName 3) gNil)))))
    (tSeq (tAsg (tCB (rAll K) (tCons (tLc (iTup K (tVar 3)) (gTup K 2 (gCons (gName 5) (gCons (gName 6) gNil))) tYes (tOp cGe (tDGet (tFld K (tVar 0) "stock") (tVar 5)) (tVar 6)) [5, 6]) tNil)) (gName 4))
    (Evl.tCut (tIfS (tB (tVar 4)) (tFor (iTup K (tVar 3)) (gTup K 2 (gCons (gName 5) (gCons (gName 6) gNil))) (sDAug (tFld K (tVar 0) "stock") (tVar 5) (tVar 6) rSub)) tNext)
    (tSeq (tFor (iRng1 (tCons (tFld K (tVar 0) "sellers") tNil)) (gName 7) (tSeq (tAsg (tLst tNil) (gName 8))
    (tSeq (tFor (RZ.iZipA K (tCons (tMt A.House "cells" (sp_House_cells K A) (tVar 0) tNil) (tCons (tDGet (tFld K (tVar 0) "counts") (tVar 7)) tNil))) (gTup K 2 (gCons (gName 5) (gCons (gName 6) gNil))) (tSeq (tDrop (tBM K "list" rAppend (tVar 8) (tCons (tCB rMin2 (tCons (tVar 6) (tCons (tDGet (tFld K (tVar 0) "stock") (tVar 5)) tNil))) tNil)))
    (sDAug (tFld K (tVar 0) "stock") (tVar 5) (tOp (rIxL K) (tVar 8) (tUn rNeg (tC (.int 1)))) rSub)))
    (Evl.tCut (tAsg (tIf (tTest (tOp rEq (tVar 7) (tVar 1))) (tTup (tCons (tVar 2) (tCons (tVar 4) tNil))) (tC .non)) (gName 9))
    (tDrop (tBM K "list" rAppend (tFld K (tVar 0) "outgoing") (tCons (tTup (tCons (tVar 7) (tCons (tTup (tCons (tC (.str "open")) (tCons (tCB (rTupOf K) (tCons (tVar 8) tNil)) (tCons (tVar 9) tNil)))) tNil))) tNil)))))))
    (tSeq (sFld K (tVar 0) (tC .non) "round")
    (tDrop (tMt A.House "look" (sp_House_look K A) (tVar 0) tNil)))))))
theorem pu_House_decide (T : Txt K mg A) {x0 : V} {H : Hp} {Q : VK} (h : P_House_decide K A x0 H Q) : t_House_decide K A { nx := fun _ H' => Q .non H', rt := Q } [some x0, none, none, none, none, none, none, none, none, none] H := by
  obtain ⟨h, S, M, a, rfl, ⟨⟨dx, rdv, e, c⟩, al⟩, so, mo, hr, hct, hol, hql, k⟩ := h
  have nd := HNd.of al.1
  have hs1 := so.s1
  have hs2 := so.s2
  have drd := c.rd
  rw [hr] at drd
  obtain ⟨p0, l0, xs, rfl, ep0, el0, dxs⟩ := ask_at drd
  obtain ⟨hlk, hll⟩ := mo.rk a hr
  have il : immL (a.2.2.map fun e => (PyData.tuple [cellD e.1, .int e.2])) = true := immL_map (fun _ => rfl) _
  have hxl : xs.length = a.2.2.length := by rw [dxs.len, List.length_map]
  have hcl : (lackC a).length = a.2.2.length := by rw [List.length_map]
  have hdec : M.decide S.sellers.toNat = HM.look S.sellers.toNat { M with st := (opensZ a (grantZ M.st a.2.2) M.ct (if grantZ M.st a.2.2 = true then subZ M.st a.2.2 else M.st) S.sellers.toNat).1, out := M.out ++ (opensZ a (grantZ M.st a.2.2) M.ct (if grantZ M.st a.2.2 = true then subZ M.st a.2.2 else M.st) S.sellers.toNat).2, rd := none } := by
    unfold HM.decide; rw [hr]
  rw [hdec] at k
  unfold t_House_decide
  have e' : H h.p = some (.ins A.House dx [("sellers", .int S.sellers), ("stock", .ref h.st), ("books", .ref h.bk), ("queue", .ref h.qu), ("round", .ref p0), ("counts", .ref h.ct), ("outgoing", .ref h.out)]) := e
  walk_at "go"
  refine l_tup (xs := xs) fun Dl H1 nD f1 e1 => ⟨fun i acc H' => acc = ((a.2.2.take i).map fun e => decide (e.2 ≤ M.st e.1)).map V.bl ∧ Fr [] H H', ⟨rfl, f1⟩, fun i acc H' q => SqT.of (q.2.tup _ _ el0), fun i x acc H' hx ha ⟨da, f⟩ => ?_, fun acc H' ha ⟨da, f⟩ => ?_⟩
  · obtain ⟨y, b, cc, hy, rfl, eb, ec⟩ := lack_get (DaL.frL f dxs il) hx
    have hac : acc.length ≤ 1000 := by rw [da, List.length_map, List.length_map, List.length_take]; omega
    have hyk := hlk y (List.mem_of_getElem? hy)
    have e1' := f.at0 e'
    walk_at "go"
    refine ⟨rfl, ?_⟩
    walk_at "go"
    refine g_stG so hyk (f.at0 c.st) ec ?_
    walk_at "go"
    refine lcY_of ha (szM (by omega)) fun H2 f2 e2 => ⟨?_, f.own1 f2 nD⟩
    rw [take_more hy, List.map_append, List.map_append, da]; rfl
  · have ht : a.2.2.take xs.length = a.2.2 := List.take_of_length_le (by rw [hxl]; exact Nat.le_refl _)
    rw [ht] at da
    rw [da] at ha
    walk_at "go"
    refine g_all (SqL.of ha) ?_
    rw [grant_map]
    have e2' := f.at0 e'
    have el2 := f.tup _ _ el0
    have dxs2 := DaL.frL f dxs il
    have c2 := c.fr f fun _ _ => nin0
    have al2 := al.fr0 f
    have k2 := k.pre f.of0
    clear k e' el0 dxs c al e ep0 drd f1 e1 nD ha da f
    generalize hg : grantZ M.st a.2.2 = g at *
    generalize hz : (if g = true then subZ M.st a.2.2 else M.st) = z0 at *
    walk_at "go"
    refine g_cut (fun σ H3 => (∃ v5 v6, σ = [some (.ref h.p), some (.int a.1), some (.int a.2.1), some (.ref l0), some (.bl g), v5, v6, none, none, none]) ∧ Fr [h.st] H' H3 ∧ H3 h.st = some (.dT (cD (stT S z0)))) ?_ ?_
    · cases hgc : g with
      | false =>
        subst hgc
        walk_at "go"
        have : z0 = M.st := by rw [← hz]; rfl
        exact ⟨⟨_, _, rfl⟩, Fr.refl, by rw [this]; exact c2.st⟩
      | true =>
        subst hgc
        have hz' : z0 = subZ M.st a.2.2 := by rw [← hz]; rfl
        walk_at "go"
        refine f_tup (xs := xs) (fun i σ H3 => (∃ v5 v6, σ = [some (.ref h.p), some (.int a.1), some (.int a.2.1), some (.ref l0), some (.bl true), v5, v6, none, none, none]) ∧ Fr [h.st] H' H3 ∧ H3 h.st = some (.dT (cD (stT S (subZ M.st (a.2.2.take i)))))) ⟨⟨_, _, rfl⟩, Fr.refl, c2.st⟩ (fun i σ H3 _ ⟨_, f, _⟩ => SqT.of (f.tup _ _ el2)) ?_ ?_
        · rintro i x σ H3 hx ⟨⟨v5, v6, rfl⟩, f3, s3⟩
          obtain ⟨y, b, cc, hy, rfl, eb, ec⟩ := lack_get (DaL.frL f3 dxs2 il) hx
          have hyk := hlk y (List.mem_of_getElem? hy)
          have ep3 := f3.at e2' (nin1 nd.p1 nin0)
          walk_at "go"
          refine g_stA so hyk s3 ec ?_
          walk_at "go"
          refine g_stP so hyk s3 ec fun H4 f4 e4 => ?_
          refine ⟨⟨_, _, rfl⟩, f3.transL f4, ?_⟩
          rw [e4, take_more hy, subZ_snoc]
        · rintro σ H3 ⟨⟨v5, v6, rfl⟩, f3, s3⟩
          have ht : a.2.2.take xs.length = a.2.2 := List.take_of_length_le (by rw [hxl]; exact Nat.le_refl _)
          rw [ht, ← hz'] at s3
          exact ⟨⟨_, _, rfl⟩, f3, s3⟩
    · rintro σ H3 ⟨⟨v5, v6, rfl⟩, f3, e3⟩
      have c3 : HCore H3 S h (.ref p0) { M with st := z0 } := c2.wst nd f3 e3
      have al3 := al_put al2 f3 e3
      have ep3 := f3.at e2' (nin1 nd.p1 nin0)
      have k3 := k2.pre (f3.mono fun x hx => by rw [List.mem_singleton.mp hx]; simp [HP.os])
      clear k2 c2 al2 e2' f3 el2 dxs2
      walk_at "go"
      refine f_range (lo := 0) (n := S.sellers.toNat) (fun i σ H' => (∃ v5 v6 v7 v8 v9, σ = [some (.ref h.p), some (.int a.1), some (.int a.2.1), some (.ref l0), some (.bl g), v5, v6, v7, v8, v9]) ∧ Fr [h.st, h.out] H3 H' ∧ H' h.st = some (.dT (cD (stT S (opensZ a g M.ct z0 i).1))) ∧ LsAt H' h.out ((M.out ++ (opensZ a g M.ct z0 i).2).map outD))
        ⟨⟨_, _, _, _, _, rfl⟩, Fr.refl, e3, by show LsAt H3 h.out ((M.out ++ []).map outD); rw [List.append_nil]; exact c3.out⟩ ?_ ?_
      · rintro i σ H4 hi ⟨⟨v5, v6, v7, v8, v9, rfl⟩, f4, s4, o4⟩
        obtain ⟨cs, hcs⟩ := full_mem M.ct mo.cn (fun e he => by have := mo.ck e he; omega) hct i hi
        have hcsl : cs.length = a.2.2.length := mo.cl a hr ((i : Int), cs) (lk_some hcs)
        generalize hZ : opensZ a g M.ct z0 i = Z at *
        have hZl : Z.2.length = i := by rw [← hZ]; exact opensZ_len a g M.ct z0 i
        have ep4 := f4.at ep3 (nin1 nd.p1 (nin1 nd.p5 nin0))
        have n2 : ∀ {x : Addr}, x ≠ h.st → x ≠ h.out → x ∉ [h.st, h.out] := fun q r => nin1 q (nin1 r nin0)
        have c4 : HCore H4 S h (.ref p0) { M with st := Z.1, out := M.out ++ Z.2 } := ⟨s4, f4.at c3.bk (n2 nd.n1.symm nd.n7), c3.bs.fr f4 (fun b hb => n2 (fun z => nd.b1 (z ▸ hb)) (fun z => nd.b5 (z ▸ hb))), c3.qu.fr f4 (n2 nd.n2.symm nd.n9), Da.frL f4 c3.rd (imm_round _), c3.ct.fr f4 (n2 nd.n3.symm nd.n10), o4⟩
        have al4 : AL H4 h.os := ⟨al3.1, fun x hx => by
          by_cases z : x = h.st
          · rw [z]; exact ⟨_, s4⟩
          · by_cases z2 : x = h.out
            · obtain ⟨_, os, eo, _⟩ := o4; rw [z2]; exact ⟨_, eo⟩
            · obtain ⟨u, q⟩ := al3.2 x hx; exact ⟨u, f4.at q (n2 z z2)⟩⟩
        have e4' : H4 h.p = some (.ins A.House dx (F_House S.sellers h.st h.bk h.qu (.ref p0) h.ct h.out)) := ep4
        walk_at "go"
        rename_i bl H5 n5 f5 e5
        have al5 := (al4.new f5 n5 e5)
        have nbl : bl ∉ h.os := (List.nodup_cons.mp al5.1).1
        have nbs : bl ≠ h.st := fun z => nbl (by rw [z]; simp [HP.os])
        have nbo : bl ≠ h.out := fun z => nbl (by rw [z]; simp [HP.os])
        have nbp : bl ≠ h.p := fun z => nbl (by rw [z]; simp [HP.os])
        have nbc : bl ≠ h.ct := fun z => nbl (by rw [z]; simp [HP.os])
        refine c_House_cells ⟨h, S, { M with st := Z.1, out := M.out ++ Z.2 }, a, rfl, ⟨⟨dx, .ref p0, f5.at0 e4', c4.fr f5 fun _ _ => nin0⟩, al4.fr0 f5⟩, hr, by omega, fun t ts H6 f6 et dt => ?_⟩
        have ep6 := f6.at0 (f5.at0 ep4)
        have eb6 := f6.at0 e5
        have htl : ts.length = a.2.2.length := by rw [dt.len, List.length_map, hcl]
        obtain ⟨kvs, ek, rk⟩ := c4.ct.fr (f5.then0 f6) (fun q => nomatch q)
        obtain ⟨cv, hcv, dcv, _⟩ := (rk.val (i : Int)).2 (rowD cs) (lk_mem (e := ((i : Int), rowD cs)) (by
          show ((M.ct.map fun e => (e.1, rowD e.2)).map fun e => e.1).Nodup
          rw [List.map_map]
          exact mo.cn) (List.mem_map.mpr ⟨((i : Int), cs), lk_some hcs, rfl⟩))
        obtain ⟨cp, rfl, ecp⟩ := ints_at dcv
        walk_at "go"
        rw [Int.zero_add]
        refine g_rdgI (.inl ek) hcv ?_
        walk_at "go"
        have s6 := f6.at0 (f5.at0 s4)
        refine f_zipT (xs := ts) (ys := cs.map V.int) (by rw [List.length_map, htl, hcsl]) (fun j σ H' => (∃ v5 v6, σ = [some (.ref h.p), some (.int a.1), some (.int a.2.1), some (.ref l0), some (.bl g), v5, v6, some (.int (i : Nat)), some (.ref bl), v9]) ∧ Fr [h.st, bl] H6 H' ∧ H' h.st = some (.dT (cD (stT S (backZ Z.1 (((lackC a).zip cs).take j)).2))) ∧ H' bl = some (.lst ((backZ Z.1 (((lackC a).zip cs).take j)).1.map V.int)))
          ⟨⟨_, _, rfl⟩, Fr.refl, s6, eb6⟩ (fun j σ H' ⟨_, f, _, _⟩ => ⟨SqT.of (f.tup _ _ et), SqT.of (f.tup _ _ ecp)⟩) ?_ ?_
        · rintro j x y T σ H7 H8 hx hy ⟨⟨v5, v6, rfl⟩, f7, s7, b7⟩ nT f8 e8
          obtain ⟨w, ca, hw, rfl, eca⟩ := cells_get (DaL.frL f8 (DaL.frL f7 dt (immL_map imm_cell _)) (immL_map imm_cell _)) hx
          obtain ⟨m, rfl, hm, _⟩ := getI hy
          have hwk : CellOk S w := by
            obtain ⟨e, he, z⟩ := List.mem_map.mp (List.mem_of_getElem? hw)
            rw [← z]; exact hlk e he
          have hzip := zip_get hw hm
          have hj : j < cs.length := (List.getElem?_eq_some_iff.mp hm).1
          have ep8 := f8.at0 (f7.at ep6 (nin1 nd.p1 (nin1 nbp.symm nin0)))
          have s8 := f8.at0 s7
          have b8 := f8.at0 b7
          rw [take_more hzip, backZ_snoc]
          have hbz : (backZ Z.1 (((lackC a).zip cs).take j)).1.length ≤ 100 := by
            rw [backZ_len, List.length_take]; omega
          generalize hB : backZ Z.1 (((lackC a).zip cs).take j) = B at *
          walk_at "go"
          refine g_stG so hwk s8 eca ?_
          walk_at "go"
          rename_i H9 f9 e9
          have hmin : (if B.2 w < m then B.2 w else m) = minI m (B.2 w) := rfl
          rw [hmin] at e9
          have s9 := f9.at s8 (nin1 nbs.symm nin0)
          have ep9 := f9.at ep8 (nin1 nbp.symm nin0)
          have eca9 := f9.tup _ _ eca
          walk_at "go"
          refine g_stA so hwk s9 eca9 ?_
          refine g_op (g_var rfl (g_un (g_c (g_neg ?_))))
          refine g_ixL (SqL.of e9) (v := .int (minI m (B.2 w))) (atI_last _ _) ?_
          walk_at "go"
          refine g_stP so hwk s9 eca9 fun H10 f10 e10 => ?_
          refine ⟨⟨_, _, rfl⟩, ?_, e10, ?_⟩
          · exact ((f7.then0 f8).transL (f9.mono fun x hx => by rw [List.mem_singleton.mp hx]; simp)).transL (f10.mono fun x hx => by rw [List.mem_singleton.mp hx]; simp)
          · rw [f10.at e9 (nin1 nbs nin0), List.map_append]; rfl
        · rintro σ H7 ⟨⟨v5, v6, rfl⟩, f7, s7, b7⟩
          have hfull : ((lackC a).zip cs).take ts.length = (lackC a).zip cs := List.take_of_length_le (by rw [List.length_zip, hcl, htl, hcsl]; omega)
          rw [hfull] at s7 b7
          have hbz : (backZ Z.1 ((lackC a).zip cs)).1.length ≤ 100 := by rw [backZ_len, List.length_zip, hcl]; omega
          have hstep : opensZ a g M.ct z0 (i + 1) = ((backZ Z.1 ((lackC a).zip cs)).2, Z.2 ++ [((i : Int), DnB.opn (backZ Z.1 ((lackC a).zip cs)).1 (if (i : Int) = a.1 then some (a.2.1, g) else none))]) := by
            show (let z := opensZ a g M.ct z0 i; let b := backZ z.1 ((lackC a).zip ((lk M.ct (i : Int)).getD [])); (b.2, z.2 ++ [((i : Int), DnB.opn b.1 (if (i : Int) = a.1 then some (a.2.1, g) else none))])) = _
            rw [hZ, hcs]; rfl
          rw [hstep]
          generalize backZ Z.1 ((lackC a).zip cs) = B at *
          have ep7 := f7.at ep6 (nin1 nd.p1 (nin1 nbp.symm nin0))
          have o7 : LsAt H7 h.out ((M.out ++ Z.2).map outD) := (o4.fr (f5.then0 f6) (fun q => nomatch q)).fr f7 (nin1 nd.n4.symm (nin1 nbo.symm nin0))
          obtain ⟨io, os, eo, dox⟩ := id o7
          have hosl : os.length ≤ 60000 := by
            rw [dox.len, List.length_map, List.length_append]; omega
          have F7 : Fr [h.st, h.out] H3 H7 := (f4.then0 (f5.then0 f6)).own f7 fun x hx => by
            rcases List.mem_cons.mp hx with q | q
            · exact .inl (by rw [q]; simp)
            · rw [List.mem_singleton.mp q]; exact .inr (f4.freeL n5 (n2 nbs nbo))
          refine g_cut (fun σ H8 => ∃ an ans, σ = [some (.ref h.p), some (.int a.1), some (.int a.2.1), some (.ref l0), some (.bl g), v5, v6, some (.int (i : Nat)), some (.ref bl), some an] ∧ Fr [] H7 H8 ∧ Da H8 an (ansD ans) ∧ (if (i : Int) = a.1 then some (a.2.1, g) else none) = ans) ?_ ?_
          · walk_at "go"
            refine g_ite (fun q => ?_) (fun q => ?_)
            · walk_at "go"
              rename_i an H8 n8 f8 e8
              exact ⟨.ref an, some (a.2.1, g), rfl, f8, .tup e8 (Nat.le_of_ble_eq_true rfl) (.cons (.int _) (.one' (.bl _))), if_pos q⟩
            · walk_at "go"
              exact ⟨.non, none, rfl, Fr.refl, .non, if_neg q⟩
          · rintro σ H8 ⟨an, ans, rfl, f8, dan, hans⟩
            have ep8 := f8.at0 ep7
            have b8 := f8.at0 b7
            have eo8 := f8.at0 eo
            walk_at "go"
            rename_i tb H9 n9 f9 e9 s H10 n10 f10 e10 cc H11 n11 f11 e11 H12 f12 e12
            have F11 : Fr [] H7 H11 := ((f8.then0 f9).then0 f10).then0 f11
            refine ⟨⟨_, _, _, _, _, rfl⟩, (F7.then0 F11).transL (f12.mono fun x hx => by rw [List.mem_singleton.mp hx]; simp), f12.at (F11.at0 s7) (nin1 nd.n4 nin0), ?_⟩
            rw [← List.append_assoc, List.map_append, hans]
            have ic : imm (outD ((i : Int), DnB.opn B.1 ans)) = true := imm_out _
            exact LsAt.snoc (DaL.frL F11 dox io) io (openD (f11.tup _ _ (f10.tup _ _ e9)) (by omega) (Da.frL ((f9.then0 f10).then0 f11) dan (imm_ans _)) (f11.tup _ _ e10) e11) ic f12 e12
      · rintro σ H4 ⟨⟨v5, v6, v7, v8, v9, rfl⟩, f4, s4, o4⟩
        have n2 : ∀ {x : Addr}, x ≠ h.st → x ≠ h.out → x ∉ [h.st, h.out] := fun q r => nin1 q (nin1 r nin0)
        have hZl : (opensZ a g M.ct z0 S.sellers.toNat).2.length = S.sellers.toNat := opensZ_len a g M.ct z0 _
        generalize hZ : opensZ a g M.ct z0 S.sellers.toNat = Z at *
        have ep4 := f4.at ep3 (nin1 nd.p1 (nin1 nd.p5 nin0))
        walk_at "go"
        rename_i H5 f5 e5
        have e5' : H5 h.p = some (.ins A.House dx (F_House S.sellers h.st h.bk h.qu .non h.ct h.out)) := e5
        have np : ∀ {x : Addr}, x ≠ h.p → x ∉ [h.p] := fun q => nin1 q nin0
        have c5 : HCore H5 S h .non { M with st := Z.1, out := M.out ++ Z.2, rd := none } := by
          refine ⟨f5.at s4 (np nd.p1.symm), f5.at (f4.at c3.bk (n2 nd.n1.symm nd.n7)) (np nd.p2.symm), BksAt.fr (BksAt.fr c3.bs f4 (fun b hb => n2 (fun z => nd.b1 (z ▸ hb)) (fun z => nd.b5 (z ▸ hb)))) f5 (nin_bs nd.b0), (c3.qu.fr f4 (n2 nd.n2.symm nd.n9)).fr f5 (np nd.p3.symm), .non, (c3.ct.fr f4 (n2 nd.n3.symm nd.n10)).fr f5 (np nd.p4.symm), o4.fr f5 (np nd.p5.symm)⟩
        have F5 : Fr h.os H3 H5 := (f4.mono fun x hx => by
          rcases List.mem_cons.mp hx with q | q
          · rw [q]; simp [HP.os]
          · rw [List.mem_singleton.mp q]; simp [HP.os]).transL (f5.mono fun x hx => by rw [List.mem_singleton.mp hx]; simp [HP.os])
        have al5 : AL H5 h.os := ⟨al3.1, fun x hx => by
          by_cases z : x = h.st
          · rw [z]; exact ⟨_, c5.st⟩
          · by_cases z2 : x = h.out
            · obtain ⟨_, os, eo, _⟩ := c5.out; rw [z2]; exact ⟨_, eo⟩
            · by_cases z3 : x = h.p
              · rw [z3]; exact ⟨_, e5⟩
              · obtain ⟨u, q⟩ := al3.2 x hx; exact ⟨u, f5.at (f4.at q (n2 z z2)) (np z3)⟩⟩
        walk_at "go"
        refine c_House_look ⟨h, S, { M with st := Z.1, out := M.out ++ Z.2, rd := none }, rfl, ⟨⟨dx, .non, e5', c5⟩, al5⟩, so, ⟨mo.qk, fun x hx => (by cases hx), fun x hx => (by cases hx), mo.ck, mo.cn, mo.bl⟩, ?_, by show M.qu.length ≤ _; omega, ?_⟩
        · show (M.out ++ Z.2).length ≤ _
          rw [List.length_append]; omega
        · intro h' H' hp f own at'
          exact k3.pre F5 h' H' hp f own at'
theorem ok_House_decide {f : Addr} {fd : FuncData} (F : Fun K "decide" "House.decide" s_House_decide f fd) (T : Txt K mg A) (c_House_look : CalM P w K mg base A.House "look" 2 ["self"] (sp_House_look K A)) (c_House_cells : CalM P w K mg base A.House "cells" 1 ["self"] (sp_House_cells K A)) : FnOk P w K mg base CX0 (3) f fd ["self"] (sp_House_decide K A) := by
  refine F.ok sc_House_decide (fun vs H Q E h => ?_) (fun cdv Ar outer s H vs Q E hr h => ⟨t_House_decide K A, ?_, ?_⟩)
  · obtain ⟨x0, rfl, _⟩ := h
    rfl
  · have hu := hu_of hr
    exact (pss_cons (ps_asg (pe_fld (pv 0) rfl) (pg_tup rfl (pgs_cons (pg_name (i := 1) sc_House_decide.nd rfl (Or.inl rfl)) (pgs_cons (pg_name (i := 2) sc_House_decide.nd rfl (Or.inl rfl)) (pgs_cons (pg_name (i := 3) sc_House_decide.nd rfl (Or.inl rfl)) pgs_nil)))))
    (pss_cons (ps_set (i := 4) sc_House_decide.nd rfl (Or.inl rfl) (pe_callB (cr_all rfl) (by rfl) T.b_all (by decide +kernel) (pa_cons (pe_lc (own := [("cell", 5), ("many", 6)]) (g := (gTup K 2 (gCons (gName 5) (gCons (gName 6) gNil)))) (tt := tYes) rfl sc_House_decide.nd (pi_tup (pv 3)) (blkOk_by (N := ["self", "asker", "number", "lack", "granted", "cell", "many", "seller", "back", "answer"]) (sc := defScope s_House_decide) (own := [("cell", 5), ("many", 6)]) (by decide +kernel)) (fun _ _ _ _ _ => (pg_tup rfl (pgs_cons (pg_name (i := 5) sc_House_decide.nd rfl (Or.inl rfl)) (pgs_cons (pg_name (i := 6) sc_House_decide.nd rfl (Or.inl rfl)) pgs_nil)))) (fun _ _ _ _ _ => pts_nil) (fun _ _ _ _ _ => (pe_cmpR c_ge (pe_dget hu (pe_fld (pv 0) rfl) (pv 5) (fun _ _ => rfl)) (pv 6) (nomark _)))) pa_nil)))
    (Evl.pss_cut (ps_if (pt_val (pv 4)) (pss_one (ps_for PassesOwn.never rfl (pi_tup (pv 3)) (pg_tup rfl (pgs_cons (pg_name (i := 5) sc_House_decide.nd rfl (Or.inl rfl)) (pgs_cons (pg_name (i := 6) sc_House_decide.nd rfl (Or.inl rfl)) pgs_nil))) (pss_one (ps_daug hu (pe_fld (pv 0) rfl) (pv 5) (pv 6) in_sub (fun _ _ _ => rfl))))) pss_nil)
    (pss_cons (ps_for PassesOwn.never rfl (pi_range1 rfl T.b_range (pa_cons (pe_fld (pv 0) rfl) pa_nil)) (pg_name (i := 7) sc_House_decide.nd rfl (Or.inl rfl)) (pss_cons (ps_set (i := 8) sc_House_decide.nd rfl (Or.inl rfl) (pe_lst pa_nil))
    (pss_cons (ps_for PassesOwn.never rfl (RZ.pi_zipA (by rfl) T.b_zip (pa_cons (pe_mt0 (pv 0) T.cl_House c_House_cells (hr.mono (by first | decide | omega))) (pa_cons (pe_dget hu (pe_fld (pv 0) rfl) (pv 7) (fun _ _ => rfl)) pa_nil))) (pg_tup rfl (pgs_cons (pg_name (i := 5) sc_House_decide.nd rfl (Or.inl rfl)) (pgs_cons (pg_name (i := 6) sc_House_decide.nd rfl (Or.inl rfl)) pgs_nil))) (pss_cons (ps_expr (pe_bm PySem.F.plainAttrs_list PySem.F.slot_list_append PySem.F.type_list_append mt_append (pv 8) (pa_cons (pe_callB (b_min2 rfl) (by rfl) T.b_min (by decide +kernel) (pa_cons (pv 6) (pa_cons (pe_dget hu (pe_fld (pv 0) rfl) (pv 5) (fun _ _ => rfl)) pa_nil))) pa_nil)))
    (pss_one (ps_daug hu (pe_fld (pv 0) rfl) (pv 5) (pe_ix ix_list (pv 8) (pe_un un_neg pe_int) (fun _ _ => rfl)) in_sub (fun _ _ _ => rfl)))))
    (Evl.pss_cut (ps_set (i := 9) sc_House_decide.nd rfl (Or.inl rfl) (pe_ifExp (pt_cmpR op_eq (pv 7) (pv 1) (nomark _)) (pe_tup (pa_cons (pv 2) (pa_cons (pv 4) pa_nil))) pe_non))
    (pss_one (ps_expr (pe_bm PySem.F.plainAttrs_list PySem.F.slot_list_append PySem.F.type_list_append mt_append (pe_fld (pv 0) rfl) (pa_cons (pe_tup (pa_cons (pv 7) (pa_cons (pe_tup (pa_cons pe_str (pa_cons (pe_callTy b_tuple (by rfl) T.b_tuple (by decide +kernel) (pa_cons (pv 8) pa_nil)) (pa_cons (pv 9) pa_nil)))) pa_nil))) pa_nil))))))))
    (pss_cons (ps_fld (pv 0) pe_non rfl)
    (pss_one (ps_expr (pe_mt0 (pv 0) T.cl_House c_House_look (hr.mono (by first | decide | omega))))))))))
  · obtain ⟨x0, rfl, h⟩ := h
    exact pu_House_decide T h

def HM.gives (c : Cell) (M : HM) : Bool := M.rd.isNone && Decidable.decide (0 < M.st c)
def HM.give (s : Int) (c : Cell) (M : HM) : HM := if M.gives c = true then { M with st := fset M.st c (M.st c - 1), out := M.out ++ [(s, DnB.give c)] } else M
def HM.want (s : Int) (c : Cell) (M : HM) : HM := { M with out := M.out ++ [(s, DnB.want c)] }
theorem HouseAt.res {A : Ad} {H H' : Hp} {h : HP} {S : Setup} {M' : HM} {dx : Addr} {rdv : V} {Q : Hp → Prop} {p : Addr} {o : HO} (al : AL H h.os) (k : HRes A H h S M' Q) (f : Fr [p] H H') (hp : p ∈ h.os) (e : H' p = some o) (e' : H' h.p = some (.ins A.House dx (F_House S.sellers h.st h.bk h.qu rdv h.ct h.out))) (c : HCore H' S h rdv M') : Q H' :=
  k h H' rfl (f.mono fun x hx => by rw [List.mem_singleton.mp hx]; exact hp) (fun a ha => .inl ha) ⟨⟨dx, rdv, e', c⟩, al_put al f e⟩
def P_House_closed (K : PySem.W.Frag) (A : Ad) (x0 x1 x2 : V) (H : Hp) (Q : VK) : Prop := ∃ (h : HP) (S : Setup) (M : HM) (a : Ask) (s : Int) (cs : List Int), x0 = .ref h.p ∧ x1 = .int s ∧ Da H x2 (rowD cs) ∧ HouseAt A H h S M ∧ SetupOk S ∧ M.Ok S ∧ M.rd = some a ∧ cs.length = a.2.2.length ∧ 0 ≤ s ∧ s < S.sellers ∧ M.out.length ≤ 50000 ∧ M.qu.length ≤ 50000 ∧ HRes A H h S (M.closed S.sellers.toNat s cs) fun H' => Q .non H'
def sp_House_closed (K : PySem.W.Frag) (A : Ad) : Sp := fun vs H Q _ => ∃ x0 x1 x2, vs = [x0, x1, x2] ∧ P_House_closed K A x0 x1 x2 H Q
theorem c_House_closed {K : PySem.W.Frag} {A : Ad} {x0 x1 x2 : V} {H : Hp} {Q : VK} {E : XK} (h : P_House_closed K A x0 x1 x2 H Q) : sp_House_closed K A [x0, x1, x2] H Q E := ⟨_, _, _, rfl, h⟩
theorem sc_House_closed : FnScope ["self", "seller", "counts", "cell", "many"] ["self", "seller", "counts"] (defScope s_House_closed) := ⟨rfl, rfl, rfl, by decide +kernel, rfl, by decide +kernel, by decide +kernel⟩
def t_House_closed (K : PySem.W.Frag) (A : Ad) : TS :=
  (tSeq (tFor (RZ.iZipA K (tCons (tMt A.House "cells" (sp_House_cells K A) (tVar 0) tNil) (tCons (tVar 2) tNil))) (gTup K 2 (gCons (gName 3) (gCons (gName 4) gNil))) (sDAug (tFld K (tVar 0) "stock") (tVar 3) (tVar 4) rAdd))
    (tSeq (sDPut (tFld K (tVar 0) "counts") (tVar 1) (tVar 2))
    (tIfS (tTest (tOp rEq (tCB rLenD (tCons (tFld K (tVar 0) "counts") tNil)) (tFld K (tVar 0) "sellers"))) (tDrop (tMt A.House "decide" (sp_House_decide K A) (tVar 0) tNil)) tNext)))
theorem pu_House_closed (T : Txt K mg A) {x0 x1 x2 : V} {H : Hp} {Q : VK} (h : P_House_closed K A x0 x1 x2 H Q) : t_House_closed K A { nx := fun _ H' => Q .non H', rt := Q } [some x0, some x1, some x2, none, none] H := by
  obtain ⟨h, S, M, a, s, cs, rfl, rfl, dcs, ⟨⟨dx, rdv, e, c⟩, al⟩, so, mo, hr, hcl, hs0, hs1, hol, hql, k⟩ := h
  have nd := HNd.of al.1
  have hss1 := so.s1
  have hss2 := so.s2
  obtain ⟨cp, rfl, ecp⟩ := ints_at dcs
  obtain ⟨hlk, hll⟩ := mo.rk a hr
  have hcl2 : (lackC a).length = a.2.2.length := by rw [List.length_map]
  unfold t_House_closed
  walk_at "go"
  refine c_House_cells ⟨h, S, M, a, rfl, ⟨⟨dx, rdv, e, c⟩, al⟩, hr, by omega, fun t ts H1 f1 et dt => ?_⟩
  have htl : ts.length = a.2.2.length := by rw [dt.len, List.length_map, hcl2]
  have e1 := f1.at0 e
  have e1' : H1 h.p = some (.ins A.House dx [("sellers", .int S.sellers), ("stock", .ref h.st), ("books", .ref h.bk), ("queue", .ref h.qu), ("round", rdv), ("counts", .ref h.ct), ("outgoing", .ref h.out)]) := e1
  have c1 := c.fr f1 fun _ _ => nin0
  have al1 := al.fr0 f1
  have k1 := k.pre f1.of0
  have ecp1 := f1.tup _ _ ecp
  have dcs1 := Da.frL f1 dcs (imm_row cs)
  clear k e c al ecp dcs f1 e1
  walk_at "go"
  refine f_zipT (xs := ts) (ys := cs.map V.int) (by rw [List.length_map, htl, hcl]) (fun j σ H' => (∃ v3 v4, σ = [some (.ref h.p), some (.int s), some (.ref cp), v3, v4]) ∧ Fr [h.st] H1 H' ∧ H' h.st = some (.dT (cD (stT S (addZ M.st (((lackC a).zip cs).take j)))))) ⟨⟨_, _, rfl⟩, Fr.refl, c1.st⟩ (fun j σ H' ⟨_, f, _⟩ => ⟨SqT.of (f.tup _ _ et), SqT.of (f.tup _ _ ecp1)⟩) ?_ ?_
  · rintro j x y T σ H2 H3 hx hy ⟨⟨v3, v4, rfl⟩, f2, s2⟩ nT f3 e3
    obtain ⟨w, ca, hw, rfl, eca⟩ := cells_get (DaL.frL f3 (DaL.frL f2 dt (immL_map imm_cell _)) (immL_map imm_cell _)) hx
    obtain ⟨m, rfl, hm, _⟩ := getI hy
    have hwk : CellOk S w := by
      obtain ⟨e, he, z⟩ := List.mem_map.mp (List.mem_of_getElem? hw)
      rw [← z]; exact hlk e he
    have hzip := zip_get hw hm
    have s3 := f3.at0 s2
    have ep3 := f3.at0 (f2.at e1' (nin1 nd.p1 nin0))
    rw [take_more hzip, addZ_snoc]
    generalize addZ M.st (((lackC a).zip cs).take j) = g at *
    walk_at "go"
    refine g_stA so hwk s3 eca ?_
    walk_at "go"
    refine g_stP so hwk s3 eca fun H4 f4 e4 => ?_
    exact ⟨⟨_, _, rfl⟩, (f2.then0 f3).transL f4, e4⟩
  · rintro σ H2 ⟨⟨v3, v4, rfl⟩, f2, s2⟩
    have hfull : ((lackC a).zip cs).take ts.length = (lackC a).zip cs := List.take_of_length_le (by rw [List.length_zip, hcl2, htl, hcl]; omega)
    rw [hfull] at s2
    have c2 : HCore H2 S h rdv { M with st := addZ M.st ((lackC a).zip cs) } := c1.wst nd f2 s2
    have e2 := f2.at e1' (nin1 nd.p1 nin0)
    have al2 := al_put al1 f2 s2
    have k2 := k1.pre (f2.mono fun x hx => by rw [List.mem_singleton.mp hx]; simp [HP.os])
    have dcs2 := Da.frL f2 dcs1 (imm_row cs)
    clear k1 c1 al1 e1' f2 s2 dcs1
    obtain ⟨kvs, ek, rk⟩ := id c2.ct
    have hctl : M.ct.length ≤ 1000000 := by
      have h1 := c2.ct
      obtain ⟨kvs', ek', rk'⟩ := h1
      -- at most all sellers
      have : ∀ (n : Nat) (l : List Int), l.Nodup → (∀ x ∈ l, 0 ≤ x ∧ x < n) → l.length ≤ n := by
        intro n
        induction n with
        | zero =>
          intro l _ hl
          cases l with
          | nil => exact Nat.le_refl _
          | cons a r => have := hl a List.mem_cons_self; omega
        | succ n ih =>
          intro l nd hl
          have h1 := ih (l.filter fun x => decide (x ≠ (n : Int))) (List.Pairwise.sublist List.filter_sublist nd) fun x hx => by
            obtain ⟨hx, hq⟩ := List.mem_filter.mp hx
            have := hl x hx
            have hq := of_decide_eq_true hq
            omega
          have h2 : l.length ≤ (l.filter fun x => decide (x ≠ (n : Int))).length + 1 := by
            clear h1 hl ih
            induction l with
            | nil => exact Nat.zero_le _
            | cons a r ih =>
              have nd' := List.nodup_cons.mp nd
              by_cases q : a = (n : Int)
              · have e : (r.filter fun x => decide (x ≠ (n : Int))) = r := List.filter_eq_self.mpr fun x hx => decide_eq_true fun z => nd'.1 (by rw [q, ← z]; exact hx)
                rw [List.filter_cons_of_neg (by simp [q]), e]; exact Nat.le_refl _
              · rw [List.filter_cons_of_pos (by simp [q])]
                have := ih nd'.2
                simp only [List.length_cons]; omega
          omega
      have nl : (M.ct.map fun e : Int × List Int => e.1).Nodup := mo.cn
      have := this S.sellers.toNat _ nl fun x hx => by
        obtain ⟨e, he, rfl⟩ := List.mem_map.mp hx
        have := mo.ck e he; omega
      rw [List.length_map] at this
      omega
    have hkl : kvs.length = M.ct.length := by rw [rk.len, List.length_map]
    walk_at "go"
    refine g_rdpI ek (szM (by omega)) fun H3 f3 e3 => ?_
    have hpt : pt (M.ct.map fun e => (e.1, rowD e.2)) s (rowD cs) = (pt M.ct s cs).map fun e => (e.1, rowD e.2) := by
      unfold pt
      have ha : ((M.ct.map fun e => (e.1, rowD e.2)).any fun e => decide (e.1 = s)) = M.ct.any fun e => decide (e.1 = s) := by rw [List.any_map]; rfl
      rw [ha]
      split
      · rw [List.map_map, List.map_map]
        refine List.map_congr_left fun x _ => ?_
        show (if x.1 = s then (x.1, rowD cs) else (x.1, rowD x.2)) = _
        by_cases q : x.1 = s
        · simp [q]
        · simp [q]
      · rw [List.map_append]; rfl
    have ct3 : DkAt H3 h.ct ((pt M.ct s cs).map fun e => (e.1, rowD e.2)) := by
      refine ⟨_, e3, ?_⟩
      rw [← hpt]
      exact (rk.fr f3).put s (Da.frL f3 dcs2 (imm_row cs)) (imm_row cs)
    have c3 : HCore H3 S h rdv { M with st := addZ M.st ((lackC a).zip cs), ct := pt M.ct s cs } := c2.wct nd f3 ct3
    have ep3 := f3.at e2 (nin1 nd.p4 nin0)
    have al3 := al_put al2 f3 e3
    have k3 := k2.pre (f3.mono fun x hx => by rw [List.mem_singleton.mp hx]; simp [HP.os])
    have hcm : M.closed S.sellers.toNat s cs = if (pt M.ct s cs).length = S.sellers.toNat then HM.decide S.sellers.toNat { M with st := addZ M.st ((lackC a).zip cs), ct := pt M.ct s cs } else { M with st := addZ M.st ((lackC a).zip cs), ct := pt M.ct s cs } := by
      unfold HM.closed; rw [hr]
    rw [hcm] at k3
    have mo3 : HM.Ok S { M with st := addZ M.st ((lackC a).zip cs), ct := pt M.ct s cs } := by
      refine ⟨mo.qk, mo.rk, fun x hx e he => ?_, fun e he => ?_, mo.cn.pt _ _, mo.bl⟩
      · rcases pt_mem he with q | q
        · exact mo.cl x hx e q
        · rw [q]; rw [hr] at hx; cases hx; exact hcl
      · rcases pt_mem he with q | q
        · exact mo.ck e q
        · rw [q]; exact ⟨hs0, hs1⟩
    clear k2 c2 al2 e2 hpt hcm ek rk f3
    obtain ⟨kvs3, ek3, rk3⟩ := id ct3
    walk_at "go"
    refine g_lenDK ek3 ?_
    walk_at "go"
    have hl3 : kvs3.length = (pt M.ct s cs).length := by rw [rk3.len, List.length_map]
    refine g_ite (fun q => ?_) (fun q => ?_)
    · have q' : (pt M.ct s cs).length = S.sellers.toNat := by omega
      rw [if_pos q'] at k3
      walk_at "go"
      exact c_House_decide ⟨h, S, { M with st := addZ M.st ((lackC a).zip cs), ct := pt M.ct s cs }, a, rfl, ⟨⟨dx, rdv, ep3, c3⟩, al3⟩, so, mo3, hr, q', hol, hql, k3⟩
    · have q' : ¬ (pt M.ct s cs).length = S.sellers.toNat := by omega
      rw [if_neg q'] at k3
      walk_at "go"
      exact k3 h H3 rfl Fr.refl (fun a ha => .inl ha) ⟨⟨dx, rdv, ep3, c3⟩, al3⟩
theorem ok_House_closed {f : Addr} {fd : FuncData} (F : Fun K "closed" "House.closed" s_House_closed f fd) (T : Txt K mg A) (c_House_cells : CalM P w K mg base A.House "cells" 1 ["self"] (sp_House_cells K A)) (c_House_decide : CalM P w K mg base A.House "decide" 3 ["self"] (sp_House_decide K A)) : FnOk P w K mg base CX0 (4) f fd ["self", "seller", "counts"] (sp_House_closed K A) := by
  refine F.ok sc_House_closed (fun vs H Q E h => ?_) (fun cdv Ar outer s H vs Q E hr h => ⟨t_House_closed K A, ?_, ?_⟩)
  · obtain ⟨x0, x1, x2, rfl, _⟩ := h
    rfl
  · have hu := hu_of hr
    exact (pss_cons (ps_for PassesOwn.never rfl (RZ.pi_zipA (by rfl) T.b_zip (pa_cons (pe_mt0 (pv 0) T.cl_House c_House_cells (hr.mono (by first | decide | omega))) (pa_cons (pv 2) pa_nil))) (pg_tup rfl (pgs_cons (pg_name (i := 3) sc_House_closed.nd rfl (Or.inl rfl)) (pgs_cons (pg_name (i := 4) sc_House_closed.nd rfl (Or.inl rfl)) pgs_nil))) (pss_one (ps_daug hu (pe_fld (pv 0) rfl) (pv 3) (pv 4) in_add (fun _ _ _ => rfl))))
    (pss_cons (ps_dput hu (pe_fld (pv 0) rfl) (pv 1) (pv 2) rfl)
    (pss_one (ps_if (pt_cmpR op_eq (pe_callB b_lenD (by rfl) T.b_len (by decide +kernel) (pa_cons (pe_fld (pv 0) rfl) pa_nil)) (pe_fld (pv 0) rfl) (nomark _)) (pss_one (ps_expr (pe_mt0 (pv 0) T.cl_House c_House_decide (hr.mono (by first | decide | omega))))) pss_nil))))
  · obtain ⟨x0, x1, x2, rfl, h⟩ := h
    exact pu_House_closed T h
def P_House_handle (K : PySem.W.Frag) (A : Ad) (x0 x1 x2 : V) (H : Hp) (Q : VK) : Prop := ∃ (h : HP) (S : Setup) (M : HM) (s : Int) (b : UpB), x0 = .ref h.p ∧ x1 = .int s ∧ Da H x2 (upD b) ∧ HouseAt A H h S M ∧ SetupOk S ∧ M.Ok S ∧ UpOk S M b ∧ 0 ≤ s ∧ s < S.sellers ∧ M.out.length ≤ 40000 ∧ M.qu.length ≤ 40000 ∧ (∀ r ∈ M.bk, r.length ≤ 40000) ∧ HRes A H h S (M.handle S.sellers.toNat s b) fun H' => Q .non H'
theorem DaL.four {H : Hp} {xs : List V} {d e f g : PyData} (h : DaL H xs [d, e, f, g]) : ∃ x y z w, xs = [x, y, z, w] ∧ Da H x d ∧ Da H y e ∧ Da H z f ∧ Da H w g := by
  cases h with
  | cons a t => cases t with
    | cons b u => cases u with
      | cons c u => cases u with
        | cons d u => cases u; exact ⟨_, _, _, _, rfl, a, b, c, d⟩
def sp_House_handle (K : PySem.W.Frag) (A : Ad) : Sp := fun vs H Q _ => ∃ x0 x1 x2, vs = [x0, x1, x2] ∧ P_House_handle K A x0 x1 x2 H Q
theorem c_House_handle {K : PySem.W.Frag} {A : Ad} {x0 x1 x2 : V} {H : Hp} {Q : VK} {E : XK} (h : P_House_handle K A x0 x1 x2 H Q) : sp_House_handle K A [x0, x1, x2] H Q E := ⟨_, _, _, rfl, h⟩
theorem sc_House_handle : FnScope ["self", "seller", "body", "word"] ["self", "seller", "body"] (defScope s_House_handle) := ⟨rfl, rfl, rfl, by decide +kernel, rfl, by decide +kernel, by decide +kernel⟩
def t_House_handle (K : PySem.W.Frag) (A : Ad) : TS :=
  (tSeq (tAsg (tOp (rIxT K) (tVar 2) (tC (.int 0))) (gName 3))
    (tIfS (tTest (tOp rEq (tVar 3) (tC (.str "ask")))) (tSeq (tDrop (tBM K "list" rAppend (tFld K (tVar 0) "queue") (tCons (tOp (rCatT K) (tTup (tCons (tVar 1) tNil)) (tSl (rSlT K) (tVar 2) (tPart (tC (.int 1))) tNoPart)) tNil)))
    (tDrop (tMt A.House "look" (sp_House_look K A) (tVar 0) tNil))) (tIfS (tTest (tOp rEq (tVar 3) (tC (.str "closed")))) (tDrop (tMt A.House "closed" (sp_House_closed K A) (tVar 0) (tCons (tVar 1) (tCons (tOp (rIxT K) (tVar 2) (tC (.int 1))) tNil)))) (tIfS (tTest (tOp rEq (tVar 3) (tC (.str "back")))) (sDAug (tFld K (tVar 0) "stock") (tTup (tCons (tOp (rIxT K) (tVar 2) (tC (.int 1))) (tCons (tOp (rIxT K) (tVar 2) (tC (.int 2))) tNil))) (tC (.int 1)) rAdd) (tDrop (tBM K "list" rAppend (tOp (rIxL K) (tFld K (tVar 0) "books") (tVar 1)) (tCons (tOp (rIxT K) (tVar 2) (tC (.int 1))) tNil)))))))
theorem pu_House_handle (T : Txt K mg A) {x0 x1 x2 : V} {H : Hp} {Q : VK} (h : P_House_handle K A x0 x1 x2 H Q) : t_House_handle K A { nx := fun _ H' => Q .non H', rt := Q } [some x0, some x1, some x2, none] H := by
  obtain ⟨h, S, M, s, b, rfl, rfl, db, ⟨⟨dx, rdv, e, c⟩, al⟩, so, mo, hb, hs0, hs1, hol, hql, hbl, k⟩ := h
  have nd := HNd.of al.1
  have hss1 := so.s1
  have hss2 := so.s2
  unfold t_House_handle
  cases b with
  | ask n l =>
    obtain ⟨p, ys, rfl, ep, _, q⟩ := db.tup1
    obtain ⟨x, y, z, rfl, dx', dy, dz⟩ := q.three
    cases dx'.str1
    cases dy.int1
    have e' : H h.p = some (.ins A.House dx [("sellers", .int S.sellers), ("stock", .ref h.st), ("books", .ref h.bk), ("queue", .ref h.qu), ("round", rdv), ("counts", .ref h.ct), ("outgoing", .ref h.out)]) := e
    obtain ⟨iq, qs, eq, dq⟩ := id c.qu
    have hqsl : qs.length ≤ 50000 := by rw [dq.len, List.length_map]; omega
    walk_at "go"
    refine g_ite (fun q => ?_) (fun q => absurd rfl q)
    walk_at "go"
    rename_i t1 H1 n1 f1 e1 t2 H2 n2 f2 e2
    refine g_catT (xs := [.int s]) (ys := [.int n, z]) (SqT.of (f2.tup _ _ e1)) (SqT.of e2) (by simp) (Nat.le_of_ble_eq_true rfl) (fun q => by cases q) fun _ t3 H3 n3 f3 e3 => ?_
    have F3 : Fr [] H H3 := (f1.then0 f2).then0 f3
    have eq3 := F3.at0 eq
    walk_at "go"
    rename_i H4 f4 e4
    have da : Da H3 (.ref t3) (askD (s, n, l)) := .tup e3 (Nat.le_of_ble_eq_true rfl) (.cons (.int _) (.cons (.int _) (.one' (Da.frL F3 dz (imm_lack l)))))
    have c3 := c.fr F3 fun _ _ => nin0
    have q4 : LsAt H4 h.qu ((M.qu ++ [(s, n, l)]).map askD) := by
      rw [List.map_append]
      exact LsAt.snoc (DaL.frL F3 dq iq) iq da (imm_ask _) f4 e4
    have c4 : HCore H4 S h rdv { M with qu := M.qu ++ [(s, n, l)] } := c3.wqu nd f4 q4
    have ep4 := f4.at (F3.at0 e') (nin1 nd.p3 nin0)
    have al4 := al_put (al.fr0 F3) f4 e4
    walk_at "go"
    refine c_House_look ⟨h, S, { M with qu := M.qu ++ [(s, n, l)] }, rfl, ⟨⟨dx, rdv, ep4, c4⟩, al4⟩, so, ⟨fun x hx => ?_, mo.rk, mo.cl, mo.ck, mo.cn, mo.bl⟩, by show M.out.length ≤ _; omega, ?_, ?_⟩
    · rcases List.mem_append.mp hx with q | q
      · exact mo.qk x q
      · rw [List.mem_singleton.mp q]; exact hb
    · show (M.qu ++ _).length ≤ _
      rw [List.length_append]; show M.qu.length + 1 ≤ _; omega
    · exact k.pre (F3.of0.transL (f4.mono fun x hx => by rw [List.mem_singleton.mp hx]; simp [HP.os]))
  | closed cs =>
    obtain ⟨p, ys, rfl, ep, _, q⟩ := db.tup1
    obtain ⟨x, y, rfl, dx', dy⟩ := q.two
    cases dx'.str1
    obtain ⟨a, hr, hcl⟩ := hb
    walk_at "go"
    refine g_ite (fun q => absurd q (by decide)) (fun _ => ?_)
    walk_at "go"
    refine g_ite (fun q => ?_) (fun q => absurd rfl q)
    walk_at "go"
    exact c_House_closed ⟨h, S, M, a, s, cs, rfl, rfl, dy, ⟨⟨dx, rdv, e, c⟩, al⟩, so, mo, hr, hcl, hs0, hs1, by omega, by omega, k⟩
  | back w =>
    obtain ⟨p, ys, rfl, ep, _, q⟩ := db.tup1
    obtain ⟨x, y, z, rfl, dx', dy, dz⟩ := q.three
    cases dx'.str1
    cases dy.int1
    cases dz.int1
    have hw : CellOk S w := hb
    have e' : H h.p = some (.ins A.House dx [("sellers", .int S.sellers), ("stock", .ref h.st), ("books", .ref h.bk), ("queue", .ref h.qu), ("round", rdv), ("counts", .ref h.ct), ("outgoing", .ref h.out)]) := e
    walk_at "go"
    refine g_ite (fun q => absurd q (by decide)) (fun _ => ?_)
    walk_at "go"
    refine g_ite (fun q => absurd q (by decide)) (fun _ => ?_)
    walk_at "go"
    refine g_ite (fun q => ?_) (fun q => absurd rfl q)
    walk_at "go"
    rename_i t H1 n1 f1 e1
    have c1 := c.fr f1 fun _ _ => nin0
    refine g_stA so hw c1.st e1 ?_
    walk_at "go"
    refine g_stP so hw c1.st e1 fun H2 f2 e2 => ?_
    exact HouseAt.res (al.fr0 f1) (k.pre f1.of0) f2 (by simp [HP.os]) e2 (f2.at (f1.at0 e') (nin1 nd.p1 nin0)) (c1.wst nd f2 e2)
  | entry r =>
    obtain ⟨p, ys, rfl, ep, _, q⟩ := db.tup1
    obtain ⟨x, y, rfl, dx', dy⟩ := q.two
    cases dx'.str1
    have e' : H h.p = some (.ins A.House dx [("sellers", .int S.sellers), ("stock", .ref h.st), ("books", .ref h.bk), ("queue", .ref h.qu), ("round", rdv), ("counts", .ref h.ct), ("outgoing", .ref h.out)]) := e
    have hbsl : h.bs.length = S.sellers.toNat := (Paired.length c.bs).trans mo.bl
    have hsl : s.toNat < h.bs.length := by omega
    obtain ⟨bb, hbb⟩ : ∃ bb, h.bs[s.toNat]? = some bb := ⟨_, List.getElem?_eq_getElem hsl⟩
    obtain ⟨rows, hrows, lb⟩ := Paired.nth c.bs hbb
    obtain ⟨ib, vb, eb, dvb⟩ := id lb
    have hvl : vb.length ≤ 50000 := by
      rw [dvb.len, List.length_map]
      have := hbl rows (List.mem_of_getElem? hrows); omega
    have ixb : atI (h.bs.map V.ref) s = some (.ref bb) := by
      have := atI_nat (j := s.toNat) (show (h.bs.map V.ref)[s.toNat]? = some (.ref bb) by rw [List.getElem?_map, hbb]; rfl)
      rw [show ((s.toNat : Nat) : Int) = s by omega] at this
      exact this
    walk_at "go"
    refine g_ite (fun q => absurd q (by decide)) (fun _ => ?_)
    walk_at "go"
    refine g_ite (fun q => absurd q (by decide)) (fun _ => ?_)
    walk_at "go"
    refine g_ite (fun q => absurd q (by decide)) (fun _ => ?_)
    walk_at "go"
    refine g_ixL (SqL.of c.bk) ixb ?_
    walk_at "go"
    rename_i H1 f1 e1
    have hgd : M.bk.getD s.toNat [] = rows := by rw [List.getD_eq_getElem?_getD, hrows]; rfl
    have l1 : LsAt H1 bb ((rows ++ [r]).map rowB) := by
      rw [List.map_append]
      exact LsAt.snoc dvb ib dy (imm_rowB r) f1 e1
    have c1 := c.wbs nd hbb f1 l1
    have kk : M.handle S.sellers.toNat s (.entry r) = { M with bk := M.bk.set s.toNat (rows ++ [r]) } := by
      show ({ M with bk := M.bk.set s.toNat (M.bk.getD s.toNat [] ++ [r]) } : HM) = _
      rw [hgd]
    rw [kk] at k
    exact HouseAt.res al k f1 (by simp [HP.os, List.mem_of_getElem? hbb]) e1 (f1.at e' (nin1 (fun z => nd.b0 (by rw [z]; exact List.mem_of_getElem? hbb)) nin0)) c1
theorem ok_House_handle {f : Addr} {fd : FuncData} (F : Fun K "handle" "House.handle" s_House_handle f fd) (T : Txt K mg A) (c_House_look : CalM P w K mg base A.House "look" 2 ["self"] (sp_House_look K A)) (c_House_closed : CalM P w K mg base A.House "closed" 4 ["self", "seller", "counts"] (sp_House_closed K A)) : FnOk P w K mg base CX0 (5) f fd ["self", "seller", "body"] (sp_House_handle K A) := by
  refine F.ok sc_House_handle (fun vs H Q E h => ?_) (fun cdv Ar outer s H vs Q E hr h => ⟨t_House_handle K A, ?_, ?_⟩)
  · obtain ⟨x0, x1, x2, rfl, _⟩ := h
    rfl
  · have hu := hu_of hr
    exact (pss_cons (ps_set (i := 3) sc_House_handle.nd rfl (Or.inl rfl) (pe_ix ix_tup (pv 2) pe_int (fun _ _ => rfl)))
    (pss_one (ps_if (pt_cmpR op_eq (pv 3) pe_str (nomark _)) (pss_cons (ps_expr (pe_bm PySem.F.plainAttrs_list PySem.F.slot_list_append PySem.F.type_list_append mt_append (pe_fld (pv 0) rfl) (pa_cons (pe_op op_catT (pe_tup (pa_cons (pv 1) pa_nil)) (pe_slice sl_tup (pv 2) (po_some pe_int) po_none)) pa_nil)))
    (pss_one (ps_expr (pe_mt0 (pv 0) T.cl_House c_House_look (hr.mono (by first | decide | omega)))))) (pss_one (ps_if (pt_cmpR op_eq (pv 3) pe_str (nomark _)) (pss_one (ps_expr (pe_mt (pv 0) T.cl_House c_House_closed (hr.mono (by first | decide | omega)) (pa_cons (pv 1) (pa_cons (pe_ix ix_tup (pv 2) pe_int (fun _ _ => rfl)) pa_nil))))) (pss_one (ps_if (pt_cmpR op_eq (pv 3) pe_str (nomark _)) (pss_one (ps_daug hu (pe_fld (pv 0) rfl) (pe_tup (pa_cons (pe_ix ix_tup (pv 2) pe_int (fun _ _ => rfl)) (pa_cons (pe_ix ix_tup (pv 2) pe_int (fun _ _ => rfl)) pa_nil))) pe_int in_add (fun _ _ _ => rfl))) (pss_one (ps_expr (pe_bm PySem.F.plainAttrs_list PySem.F.slot_list_append PySem.F.type_list_append mt_append (pe_ix ix_list (pe_fld (pv 0) rfl) (pv 1) (fun _ _ => rfl)) (pa_cons (pe_ix ix_tup (pv 2) pe_int (fun _ _ => rfl)) pa_nil)))))))))))
  · obtain ⟨x0, x1, x2, rfl, h⟩ := h
    exact pu_House_handle T h
def P_House_give (K : PySem.W.Frag) (A : Ad) (x0 x1 x2 x3 : V) (H : Hp) (Q : VK) : Prop := ∃ (h : HP) (S : Setup) (M : HM) (s : Int) (w : Cell), x0 = .ref h.p ∧ x1 = .int s ∧ x2 = .int w.1 ∧ x3 = .int w.2 ∧ HouseAt A H h S M ∧ SetupOk S ∧ CellOk S w ∧ M.out.length ≤ 50000 ∧ HRes A H h S (M.give s w) fun H' => Q (.bl (M.gives w)) H'
theorem giveD {H : Hp} {c s : Addr} {t : Int} {w : Cell} (es : H s = some (.tup [.str "give", .int w.1, .int w.2])) (ec : H c = some (.tup [.int t, .ref s])) : Da H (.ref c) (outD (t, DnB.give w)) :=
  .tup ec (Nat.le_of_ble_eq_true rfl) (.cons (.int _) (.one' (.tup es (Nat.le_of_ble_eq_true rfl) (.cons (.str _) (.cons (.int _) (.one' (.int _)))))))
theorem wantD {H : Hp} {c s : Addr} {t : Int} {w : Cell} (es : H s = some (.tup [.str "want", .int w.1, .int w.2])) (ec : H c = some (.tup [.int t, .ref s])) : Da H (.ref c) (outD (t, DnB.want w)) :=
  .tup ec (Nat.le_of_ble_eq_true rfl) (.cons (.int _) (.one' (.tup es (Nat.le_of_ble_eq_true rfl) (.cons (.str _) (.cons (.int _) (.one' (.int _)))))))
def sp_House_give (K : PySem.W.Frag) (A : Ad) : Sp := fun vs H Q _ => ∃ x0 x1 x2 x3, vs = [x0, x1, x2, x3] ∧ P_House_give K A x0 x1 x2 x3 H Q
theorem c_House_give {K : PySem.W.Frag} {A : Ad} {x0 x1 x2 x3 : V} {H : Hp} {Q : VK} {E : XK} (h : P_House_give K A x0 x1 x2 x3 H Q) : sp_House_give K A [x0, x1, x2, x3] H Q E := ⟨_, _, _, _, rfl, h⟩
theorem sc_House_give : FnScope ["self", "seller", "kind", "night"] ["self", "seller", "kind", "night"] (defScope s_House_give) := ⟨rfl, rfl, rfl, by decide +kernel, rfl, by decide +kernel, by decide +kernel⟩
def t_House_give (K : PySem.W.Frag) (A : Ad) : TS :=
  (tSeq (tIfS (tOr (tTest (tOp rIsNotNon (tFld K (tVar 0) "round") (tC .non))) (tTest (tOp cLt (tDGet (tFld K (tVar 0) "stock") (tTup (tCons (tVar 2) (tCons (tVar 3) tNil)))) (tC (.int 1))))) (tRet (tC (.bl false))) tNext)
    (tSeq (sDAug (tFld K (tVar 0) "stock") (tTup (tCons (tVar 2) (tCons (tVar 3) tNil))) (tC (.int 1)) rSub)
    (tSeq (tDrop (tBM K "list" rAppend (tFld K (tVar 0) "outgoing") (tCons (tTup (tCons (tVar 1) (tCons (tTup (tCons (tC (.str "give")) (tCons (tVar 2) (tCons (tVar 3) tNil)))) tNil))) tNil)))
    (tRet (tC (.bl true))))))
theorem pu_House_give (T : Txt K mg A) {x0 x1 x2 x3 : V} {H : Hp} {Q : VK} (h : P_House_give K A x0 x1 x2 x3 H Q) : t_House_give K A { nx := fun _ H' => Q .non H', rt := Q } [some x0, some x1, some x2, some x3] H := by
  obtain ⟨h, S, M, s, w, rfl, rfl, rfl, rfl, ⟨⟨dx, rdv, e, c⟩, al⟩, so, hw, hol, k⟩ := h
  have nd := HNd.of al.1
  have e' : H h.p = some (.ins A.House dx [("sellers", .int S.sellers), ("stock", .ref h.st), ("books", .ref h.bk), ("queue", .ref h.qu), ("round", rdv), ("counts", .ref h.ct), ("outgoing", .ref h.out)]) := e
  unfold t_House_give
  walk_at "go"
  refine g_iteN (fun hr => ?_) (fun hr => ?_)
  · have hrs : M.rd.isNone = false := by
      cases q : M.rd with
      | none => exact absurd (by have := c.rd; rw [q] at this; cases this; rfl) hr
      | some a => rfl
    have hg : M.gives w = false := by unfold HM.gives; rw [hrs]; rfl
    rw [hg] at k
    walk_at "go"
    exact k h H rfl Fr.refl (fun a ha => .inl ha) (by unfold HM.give; rw [hg]; exact ⟨⟨dx, rdv, e, c⟩, al⟩)
  · have hrn : M.rd = none := by
      cases q : M.rd with
      | none => rfl
      | some a => have := c.rd; rw [q, hr] at this; cases this
    walk_at "go"
    rename_i t H1 n1 f1 e1
    have c1 := c.fr f1 fun _ _ => nin0
    refine g_stG so hw c1.st e1 ?_
    walk_at "go"
    refine g_ite (fun hq => ?_) (fun hq => ?_)
    · have hg : M.gives w = false := by unfold HM.gives; rw [hrn, decide_eq_false (by omega)]; rfl
      rw [hg] at k
      walk_at "go"
      exact k h H1 rfl f1.of0 (fun a ha => .inl ha) (by unfold HM.give; rw [hg]; exact ⟨⟨dx, rdv, f1.at0 e, c1⟩, al.fr0 f1⟩)
    · have hg : M.gives w = true := by unfold HM.gives; rw [hrn, decide_eq_true (by omega)]; rfl
      have hgm : M.give s w = { M with st := fset M.st w (M.st w - 1), out := M.out ++ [(s, DnB.give w)] } := by unfold HM.give; rw [if_pos hg]
      rw [hg, hgm] at k
      walk_at "go"
      rename_i t2 H2 n2 f2 e2
      have c2 := c1.fr f2 fun _ _ => nin0
      refine g_stA so hw c2.st e2 ?_
      walk_at "go"
      refine g_stP so hw c2.st e2 fun H3 f3 e3 => ?_
      have c3 := c2.wst nd f3 e3
      have ep3 := f3.at (f2.at0 (f1.at0 e')) (nin1 nd.p1 nin0)
      have al3 := al_put ((al.fr0 f1).fr0 f2) f3 e3
      have k3 := k.pre ((f1.then0 f2).of0.transL (f3.mono fun x hx => by rw [List.mem_singleton.mp hx]; simp [HP.os] : Fr h.os H2 H3))
      obtain ⟨io, os, eo, dox⟩ := id c3.out
      have hosl : os.length ≤ 60000 := by have z : os.length = (M.out.map outD).length := dox.len; rw [z, List.length_map]; omega
      clear k c c1 c2 f1 f2 f3
      walk_at "go"
      rename_i s1 H4 n4 f4 e4 c4 H5 n5 f5 e5 H6 f6 e6
      have F5 : Fr [] H3 H5 := f4.then0 f5
      have c5 := c3.fr F5 fun _ _ => nin0
      have o6 : LsAt H6 h.out ((M.out ++ [(s, DnB.give w)]).map outD) := by
        rw [List.map_append]
        exact LsAt.snoc (DaL.frL F5 dox io) io (giveD (f5.tup _ _ e4) e5) (imm_out _) f6 e6
      exact HouseAt.res (al3.fr0 F5) (k3.pre F5.of0) f6 (by simp [HP.os]) e6 (f6.at (F5.at0 ep3) (nin1 nd.p5 nin0)) (c5.wout nd f6 o6)
theorem ok_House_give {f : Addr} {fd : FuncData} (F : Fun K "give" "House.give" s_House_give f fd) (T : Txt K mg A)  : FnOk P w K mg base CX0 (1) f fd ["self", "seller", "kind", "night"] (sp_House_give K A) := by
  refine F.ok sc_House_give (fun vs H Q E h => ?_) (fun cdv Ar outer s H vs Q E hr h => ⟨t_House_give K A, ?_, ?_⟩)
  · obtain ⟨x0, x1, x2, x3, rfl, _⟩ := h
    rfl
  · have hu := hu_of hr
    exact (pss_cons (ps_if (PW.pt (pw_or (pt_cmpR c_notN (pe_fld (pv 0) rfl) pe_non (nomark _)) (pw_or1 (pt_cmpR c_lt (pe_dget hu (pe_fld (pv 0) rfl) (pe_tup (pa_cons (pv 2) (pa_cons (pv 3) pa_nil))) (fun _ _ => rfl)) pe_int (nomark _))))) (pss_one (ps_ret pe_bl)) pss_nil)
    (pss_cons (ps_daug hu (pe_fld (pv 0) rfl) (pe_tup (pa_cons (pv 2) (pa_cons (pv 3) pa_nil))) pe_int in_sub (fun _ _ _ => rfl))
    (pss_cons (ps_expr (pe_bm PySem.F.plainAttrs_list PySem.F.slot_list_append PySem.F.type_list_append mt_append (pe_fld (pv 0) rfl) (pa_cons (pe_tup (pa_cons (pv 1) (pa_cons (pe_tup (pa_cons pe_str (pa_cons (pv 2) (pa_cons (pv 3) pa_nil)))) pa_nil))) pa_nil)))
    (pss_one (ps_ret pe_bl)))))
  · obtain ⟨x0, x1, x2, x3, rfl, h⟩ := h
    exact pu_House_give T h
def P_House_want (K : PySem.W.Frag) (A : Ad) (x0 x1 x2 x3 : V) (H : Hp) (Q : VK) : Prop := ∃ (h : HP) (S : Setup) (M : HM) (s : Int) (w : Cell), x0 = .ref h.p ∧ x1 = .int s ∧ x2 = .int w.1 ∧ x3 = .int w.2 ∧ HouseAt A H h S M ∧ M.out.length ≤ 50000 ∧ HRes A H h S (M.want s w) fun H' => Q .non H'
def sp_House_want (K : PySem.W.Frag) (A : Ad) : Sp := fun vs H Q _ => ∃ x0 x1 x2 x3, vs = [x0, x1, x2, x3] ∧ P_House_want K A x0 x1 x2 x3 H Q
theorem c_House_want {K : PySem.W.Frag} {A : Ad} {x0 x1 x2 x3 : V} {H : Hp} {Q : VK} {E : XK} (h : P_House_want K A x0 x1 x2 x3 H Q) : sp_House_want K A [x0, x1, x2, x3] H Q E := ⟨_, _, _, _, rfl, h⟩
theorem sc_House_want : FnScope ["self", "seller", "kind", "night"] ["self", "seller", "kind", "night"] (defScope s_House_want) := ⟨rfl, rfl, rfl, by decide +kernel, rfl, by decide +kernel, by decide +kernel⟩
def t_House_want (K : PySem.W.Frag) (A : Ad) : TS :=
  (tDrop (tBM K "list" rAppend (tFld K (tVar 0) "outgoing") (tCons (tTup (tCons (tVar 1) (tCons (tTup (tCons (tC (.str "want")) (tCons (tVar 2) (tCons (tVar 3) tNil)))) tNil))) tNil)))
theorem pu_House_want (T : Txt K mg A) {x0 x1 x2 x3 : V} {H : Hp} {Q : VK} (h : P_House_want K A x0 x1 x2 x3 H Q) : t_House_want K A { nx := fun _ H' => Q .non H', rt := Q } [some x0, some x1, some x2, some x3] H := by
  obtain ⟨h, S, M, s, w, rfl, rfl, rfl, rfl, ⟨⟨dx, rdv, e, c⟩, al⟩, hol, k⟩ := h
  have nd := HNd.of al.1
  have e' : H h.p = some (.ins A.House dx [("sellers", .int S.sellers), ("stock", .ref h.st), ("books", .ref h.bk), ("queue", .ref h.qu), ("round", rdv), ("counts", .ref h.ct), ("outgoing", .ref h.out)]) := e
  obtain ⟨io, os, eo, dox⟩ := id c.out
  have hosl : os.length ≤ 60000 := by rw [dox.len, List.length_map]; omega
  unfold t_House_want
  walk_at "go"
  rename_i s1 H4 n4 f4 e4 c4 H5 n5 f5 e5 H6 f6 e6
  have F5 : Fr [] H H5 := f4.then0 f5
  have c5 := c.fr F5 fun _ _ => nin0
  have o6 : LsAt H6 h.out ((M.out ++ [(s, DnB.want w)]).map outD) := by
    rw [List.map_append]
    exact LsAt.snoc (DaL.frL F5 dox io) io (wantD (f5.tup _ _ e4) e5) (imm_out _) f6 e6
  exact HouseAt.res (al.fr0 F5) (k.pre F5.of0) f6 (by simp [HP.os]) e6 (f6.at (F5.at0 e') (nin1 nd.p5 nin0)) (c5.wout nd f6 o6)
theorem ok_House_want {f : Addr} {fd : FuncData} (F : Fun K "want" "House.want" s_House_want f fd) (T : Txt K mg A)  : FnOk P w K mg base CX0 (1) f fd ["self", "seller", "kind", "night"] (sp_House_want K A) := by
  refine F.ok sc_House_want (fun vs H Q E h => ?_) (fun cdv Ar outer s H vs Q E hr h => ⟨t_House_want K A, ?_, ?_⟩)
  · obtain ⟨x0, x1, x2, x3, rfl, _⟩ := h
    rfl
  · have hu := hu_of hr
    exact (pss_one (ps_expr (pe_bm PySem.F.plainAttrs_list PySem.F.slot_list_append PySem.F.type_list_append mt_append (pe_fld (pv 0) rfl) (pa_cons (pe_tup (pa_cons (pv 1) (pa_cons (pe_tup (pa_cons pe_str (pa_cons (pv 2) (pa_cons (pv 3) pa_nil)))) pa_nil))) pa_nil))))
  · obtain ⟨x0, x1, x2, x3, rfl, h⟩ := h
    exact pu_House_want T h

/-! ### the law's own house -/
def F_LM (h : HP) (rdv : V) : List (Key × V) := [(.inr "stock", .ref h.st), (.inr "books", .ref h.bk), (.inr "queue", .ref h.qu), (.inr "round", rdv), (.inr "counts", .ref h.ct), (.inr "out", .ref h.out)]
def LawAt (H : Hp) (h : HP) (S : Setup) (M : HM) : Prop := (∃ rdv, H h.p = some (.dK (F_LM h rdv)) ∧ HCore H S h rdv M) ∧ AL H h.os
theorem LawAt.fr {l : List Addr} {H H' : Hp} {h : HP} {S : Setup} {M : HM} (x : LawAt H h S M) (f : Fr l H H') (n : ∀ a ∈ h.os, a ∉ l) : LawAt H' h S M := by
  obtain ⟨⟨rdv, e, c⟩, al⟩ := x
  exact ⟨⟨rdv, f.at e (n _ (by simp [HP.os])), c.fr f fun a ha => n a (by unfold HP.os; exact List.mem_cons_of_mem _ ha)⟩, al.1, fun a ha => by obtain ⟨o, q⟩ := al.2 a ha; exact ⟨o, f.at q (n a ha)⟩⟩
def LRes (H : Hp) (h : HP) (S : Setup) (M : HM) (Q : Hp → Prop) : Prop := ∀ (h' : HP) (H' : Hp), h'.p = h.p → Fr h.os H H' → (∀ a ∈ h'.os, a ∈ h.os ∨ H a = none) → LawAt H' h' S M → Q H'
theorem LRes.pre {H H5 : Hp} {h : HP} {S : Setup} {M : HM} {Q : Hp → Prop} (k : LRes H h S M Q) (F : Fr h.os H H5) : LRes H5 h S M Q := fun h' H' e f own at' =>
  k h' H' e (F.transL f) (fun a ha => (own a ha).elim .inl fun z => by
    by_cases q : a ∈ h.os
    · exact .inl q
    · exact .inr (F.freeL z q)) at'
theorem LawAt.res {H H' : Hp} {h : HP} {S : Setup} {M' : HM} {rdv : V} {Q : Hp → Prop} {p : Addr} {o : HO} (al : AL H h.os) (k : LRes H h S M' Q) (f : Fr [p] H H') (hp : p ∈ h.os) (e : H' p = some o) (e' : H' h.p = some (.dK (F_LM h rdv))) (c : HCore H' S h rdv M') : Q H' :=
  k h H' rfl (f.mono fun x hx => by rw [List.mem_singleton.mp hx]; exact hp) (fun a ha => .inl ha) ⟨⟨rdv, e', c⟩, al_put al f e⟩
def P_Lhouse (K : PySem.W.Frag) (A : Ad) (x0 : V) (H : Hp) (Q : VK) : Prop := ∃ S : Setup, Da H x0 (setupD S) ∧ SetupOk S ∧ ∀ (h : HP) (H' : Hp), Fr [] H H' → (∀ a ∈ h.os, H a = none) → LawAt H' h S (HM.start S) → Q (.ref h.p) H'
def sp_Lhouse (K : PySem.W.Frag) (A : Ad) : Sp := fun vs H Q _ => ∃ x0, vs = [x0] ∧ P_Lhouse K A x0 H Q
theorem c_Lhouse {K : PySem.W.Frag} {A : Ad} {x0 : V} {H : Hp} {Q : VK} {E : XK} (h : P_Lhouse K A x0 H Q) : sp_Lhouse K A [x0] H Q E := ⟨_, rfl, h⟩
theorem sc_Lhouse : FnScope ["_law_setup_here", "_law_stock", "_law_kind", "_law_night", "_law_s"] ["_law_setup_here"] (defScope s_Lhouse) := ⟨rfl, rfl, rfl, by decide +kernel, rfl, by decide +kernel, by decide +kernel⟩
def t_Lhouse (K : PySem.W.Frag) (A : Ad) : TS :=
  (tSeq (tAsg tDNewT (gName 1))
    (tSeq (tFor (iRng1 (tCons (tCB (rLenSq K) (tCons (tOp (rIxT K) (tVar 0) (tC (.int 0))) tNil)) tNil)) (gName 2) (tFor (iRng1 (tCons (tOp (rIxT K) (tVar 0) (tC (.int 1))) tNil)) (gName 3) (sDPut (tVar 1) (tTup (tCons (tVar 2) (tCons (tVar 3) tNil))) (tOp (rIxT K) (tOp (rIxT K) (tVar 0) (tC (.int 0))) (tVar 2)))))
    (tRet (tDisp (((tC (.str "stock")), (tVar 1)) :: (((tC (.str "books")), (tLc (iRng1 (tCons (tOp (rIxT K) (tVar 0) (tC (.int 2))) tNil)) (gName 4) tYes (tLst tNil) [4])) :: (((tC (.str "queue")), (tLst tNil)) :: (((tC (.str "round")), (tC .non)) :: (((tC (.str "counts")), tDNewK) :: (((tC (.str "out")), (tLst tNil)) :: []))))))))))
theorem pu_Lhouse (T : Txt K mg A) {x0 : V} {H : Hp} {Q : VK} (h : P_Lhouse K A x0 H Q) : t_Lhouse K A { nx := fun _ H' => Q .non H', rt := Q } [some x0, none, none, none, none] H := by
  obtain ⟨S, dS, so, k⟩ := h
  obtain ⟨s, r, pp, prs, sa⟩ := SetAt.of dS
  cases sa.e
  have e0 := sa.t
  have er := sa.r
  have hn := so.n1
  have hn2 := so.n2
  have hs1 := so.s1
  have hs2 := so.s2
  have hk := so.k1
  have hk3 := so.k3
  unfold t_Lhouse
  walk_at "go"
  rename_i st H1 n1 f1 e1
  have er1 := f1.tup _ _ er
  have e01 := f1.tup _ _ e0
  rw [List.length_map]
  refine f_range (lo := 0) (n := S.rooms.length) (fun i σ H' => (∃ v2 v3 v4, σ = [some (.ref s), some (.ref st), v2, v3, v4]) ∧ Fr [st] H1 H' ∧ H' st = some (.dT (cD (tabF (cellsK S.nights.toNat i) (rmC S))))) ⟨⟨_, _, _, rfl⟩, Fr.refl, e1⟩ ?_ ?_
  · rintro i σ H2 hi ⟨⟨v2, v3, v4, rfl⟩, f2, e2⟩
    have e02 := f2.tup _ _ e01
    walk_at "go"
    refine f_range (lo := 0) (n := S.nights.toNat) (fun j σ H' => (∃ v3 v4, σ = [some (.ref s), some (.ref st), some (.int (0 + (i : Int))), v3, v4]) ∧ Fr [st] H2 H' ∧ H' st = some (.dT (cD (tabF (cellsK S.nights.toNat i ++ rowC j i) (rmC S))))) ⟨⟨_, _, rfl⟩, Fr.refl, by rw [show rowC 0 i = [] from rfl, List.append_nil]; exact e2⟩ ?_ ?_
    · rintro j σ H3 hj ⟨⟨v3, v4, rfl⟩, f3, e3⟩
      have hl3 : (cD (tabF (cellsK S.nights.toNat i ++ rowC j i) (rmC S))).length ≤ 100000 := by
        rw [enD_len]; unfold tabF; rw [List.length_map, List.length_append]
        have h1 : (cellsK S.nights.toNat i).length ≤ 3 * 12 := by
          have key : ∀ (N k : Nat), (cellsK N k).length = k * N := by
            intro N k
            induction k with
            | zero => simp [cellsK]
            | succ k ih => rw [cellsK_succ, List.length_append, ih]; unfold rowC; rw [List.length_map, List.length_range, Nat.succ_mul]
          rw [key]
          exact Nat.mul_le_mul (by omega) (by omega)
        have h2 : (rowC j i).length = j := by unfold rowC; rw [List.length_map, List.length_range]
        omega
      have e03 := f3.tup _ _ e02
      have er3 := f3.tup _ _ (f2.tup _ _ er1)
      walk_at "go"
      refine g_ixT (SqT.of er3) (rmC_at (n := (j : Int)) (by omega) (by omega)) ?_
      walk_at "go"
      rename_i q H4 n4 f4 e4
      rw [Int.zero_add, Int.zero_add] at e4
      refine g_rdp (k := ck ((i : Int), (j : Int))) (f4.at0 e3) e4 (szM (by omega)) fun H5 f5 e5 => ?_
      walk_at "go"
      refine ⟨⟨_, _, rfl⟩, (f3.then0 f4).transL f5, ?_⟩
      rw [e5, Int.zero_add, tab_put (rmC S) new_cell, List.append_assoc, ← rowC_succ]
    · rintro σ H3 ⟨⟨v3, v4, rfl⟩, f3, e3⟩
      refine ⟨⟨_, _, _, rfl⟩, f2.transL f3, ?_⟩
      rw [e3, ← cellsK_succ]
  · rintro σ H2 ⟨⟨v2, v3, v4, rfl⟩, f2, e2⟩
    have e02 := f2.tup _ _ e01
    have F2 : Fr [] H H2 := f1.own1 f2 n1
    have al2 : AL H2 [st] := ⟨by simp, fun a ha => by rw [List.mem_singleton.mp ha]; exact ⟨_, e2⟩⟩
    walk_at "go"
    rename_i p H3 n3 f3 e3
    have al3 := al2.new f3 n3 e3
    have e03 := f3.tup _ _ e02
    have hps : p ≠ st := (ne_of_none e2 n3).symm
    refine l_range (lo := 0) (n := (S.sellers).toNat) fun Dl H5 nD f5 e5 => ⟨fun i acc H' => ∃ bs : List Addr, acc = bs.map V.ref ∧ BksAt H' bs (List.replicate i []) ∧ Fr [] H3 H' ∧ AL H' (bs ++ [Dl, p, st]) ∧ ∀ b ∈ bs, H3 b = none, ⟨[], rfl, .nil, f5, al3.new f5 nD e5, fun _ h => (nomatch h)⟩, fun i acc H' hi ha ⟨bs, ea, hb, f, al, fr⟩ => ?_, fun acc H' ha ⟨bs, ea, hb, f, al, fr⟩ => ?_⟩
    · walk_at "go"
      refine ⟨rfl, ?_⟩
      walk_at "go"
      rename_i q H6 n6 f6 e6
      have hal : acc.length ≤ 100 := by rw [ea, List.length_map, Paired.length hb, List.length_replicate]; omega
      refine lcY_of (f6.at0 ha) (szM (by omega)) fun H7 f7 e7 => ⟨bs ++ [q], by rw [ea, List.map_append]; rfl, ?_, (f.then0 f6).own1 f7 nD, ?_, fun b hb' => ?_⟩
      · have nq : q ≠ Dl := (ne_of_none ha n6).symm
        have nDb : ∀ b ∈ bs, b ∉ [Dl] := fun b hb' z => (List.nodup_append.mp al.1).2.2 b hb' Dl (by simp) (List.mem_singleton.mp z)
        rw [List.replicate_succ']
        exact Paired.snoc (BksAt.fr (BksAt.fr hb f6 fun b _ => nin0) f7 nDb) (LsAt.nil (f7.at e6 (nin1 nq nin0)))
      · have a1 := al.new f6 n6 e6
        have a2 : AL H7 (q :: (bs ++ [Dl, p, st])) := al_put a1 f7 e7
        refine a2.perm ?_
        rw [List.append_assoc]
        exact (List.perm_middle).symm
      · rcases List.mem_append.mp hb' with z | z
        · exact fr b z
        · rw [List.mem_singleton.mp z]; exact f.free n6
    · walk_at "go"
      rename_i qu H7 n7 f7 e7 ct H10 n10 f10 e10 out H12 n12 f12 e12
      have a7 := al.new f7 n7 e7
      have a10 := a7.new f10 n10 e10
      have a12 := a10.new f12 n12 e12
      have F12 : Fr [] H' H12 := (f7.then0 f10).then0 f12
      have ep12 := F12.at0 (f.at0 e3)
      refine g_rds (F_LM ⟨p, st, Dl, qu, ct, out, bs⟩ .non) ep12 rfl (Nat.le_of_ble_eq_true rfl) rfl fun H13 f13 e13 => ?_
      walk_at "go"
      have a13 := al_put a12 f13 e13
      have aos : AL H13 (HP.os ⟨p, st, Dl, qu, ct, out, bs⟩) := by
        refine a13.perm ?_
        show ([out, ct, qu] ++ (bs ++ [Dl, p, st])).Perm ([p, st, Dl, qu, ct, out] ++ bs)
        refine (List.Perm.append_left [out, ct, qu] (List.perm_append_comm (l₁ := bs) (l₂ := [Dl, p, st]))).trans ?_
        rw [← List.append_assoc]
        refine List.Perm.append_right bs ?_
        exact (List.reverse_perm [st, p, Dl, qu, ct, out]).trans (List.Perm.swap p st _)
      have nd := HNd.of aos.1
      rw [ea] at ha
      refine k ⟨p, st, Dl, qu, ct, out, bs⟩ H13 ((F2.then0 f3).then0 f |>.then0 F12 |>.own1 f13 (F2.free n3)) (fun a ha' => ?_) ⟨⟨.non, e13, ?_⟩, aos⟩
      · have ha' : a = p ∨ a = st ∨ a = Dl ∨ a = qu ∨ a = ct ∨ a = out ∨ a ∈ bs := by simpa [HP.os] using ha'
        have F3' := F2.then0 f3
        have F4' := F3'.then0 f
        rcases ha' with z | z | z | z | z | z | z
        · rw [z]; exact F2.free n3
        · rw [z]; exact n1
        · rw [z]; exact F3'.free nD
        · rw [z]; exact F4'.free n7
        · rw [z]; exact (F4'.then0 f7).free n10
        · rw [z]; exact ((F4'.then0 f7).then0 f10).free n12
        · exact F3'.free (fr a z)
      · have np : ∀ {x : Addr}, x ≠ p → x ∉ [p] := fun q => nin1 q nin0
        refine ⟨f13.at (F12.at0 (f.at0 (f3.at0 e2))) (np nd.p1.symm), f13.at (F12.at0 ha) (np nd.p2.symm), BksAt.fr (BksAt.fr hb F12 fun _ _ => nin0) f13 (nin_bs nd.b0), ?_, .non, ?_, ?_⟩
        · exact LsAt.nil (f13.at ((f10.then0 f12).at0 e7) (np nd.p3.symm))
        · exact DkAt.nil (f13.at (f12.at0 e10) (np nd.p4.symm))
        · exact LsAt.nil (f13.at e12 (np nd.p5.symm))
theorem ok_Lhouse {f : Addr} {fd : FuncData} (F : Fun K "_law_house" "_law_house" s_Lhouse f fd) (T : Txt K mg A)  : FnOk P w K mg base CX0 (1) f fd ["_law_setup_here"] (sp_Lhouse K A) := by
  refine F.ok sc_Lhouse (fun vs H Q E h => ?_) (fun cdv Ar outer s H vs Q E hr h => ⟨t_Lhouse K A, ?_, ?_⟩)
  · obtain ⟨x0, rfl, _⟩ := h
    rfl
  · have hu := hu_of hr
    exact (pss_cons (ps_set (i := 1) sc_Lhouse.nd rfl (Or.inl rfl) pe_dnewT)
    (pss_cons (ps_for PassesOwn.never rfl (pi_range1 rfl T.b_range (pa_cons (pe_callB b_len (by rfl) T.b_len (by decide +kernel) (pa_cons (pe_ix ix_tup (pv 0) pe_int (fun _ _ => rfl)) pa_nil)) pa_nil)) (pg_name (i := 2) sc_Lhouse.nd rfl (Or.inl rfl)) (pss_one (ps_for PassesOwn.never rfl (pi_range1 rfl T.b_range (pa_cons (pe_ix ix_tup (pv 0) pe_int (fun _ _ => rfl)) pa_nil)) (pg_name (i := 3) sc_Lhouse.nd rfl (Or.inl rfl)) (pss_one (ps_dput hu (pv 1) (pe_tup (pa_cons (pv 2) (pa_cons (pv 3) pa_nil))) (pe_ix ix_tup (pe_ix ix_tup (pv 0) pe_int (fun _ _ => rfl)) (pv 2) (fun _ _ => rfl)) rfl)))))
    (pss_one (ps_ret (pe_disp (pps_cons pe_str (pv 1) (pps_cons pe_str (pe_lc (own := [("_law_s", 4)]) (g := (gName 4)) (tt := tYes) rfl sc_Lhouse.nd (pi_range1 rfl T.b_range (pa_cons (pe_ix ix_tup (pv 0) pe_int (fun _ _ => rfl)) pa_nil)) (blkOk_by (N := ["_law_setup_here", "_law_stock", "_law_kind", "_law_night", "_law_s"]) (sc := defScope s_Lhouse) (own := [("_law_s", 4)]) (by decide +kernel)) (fun _ _ _ _ _ => (pg_name (i := 4) sc_Lhouse.nd rfl (Or.inl rfl))) (fun _ _ _ _ _ => pts_nil) (fun _ _ _ _ _ => (pe_lst pa_nil))) (pps_cons pe_str (pe_lst pa_nil) (pps_cons pe_str pe_non (pps_cons pe_str pe_dnewK (pps_cons pe_str (pe_lst pa_nil) pps_nil)))))) (by rfl) (by rfl) (fun z => by cases z) (by decide))))))
  · obtain ⟨x0, rfl, h⟩ := h
    exact pu_Lhouse T h

theorem lmr {h : HP} {rdv : V} : valV (F_LM h rdv) (.inr "round") = some rdv := rfl
theorem round_none {H : Hp} {rdv : V} {r : Option Ask} (d : Da H rdv (roundD r)) : (rdv = .non ↔ r = none) := by
  cases r with
  | none => cases d; exact ⟨fun _ => rfl, fun _ => rfl⟩
  | some a => obtain ⟨p, l, xs, rfl, _⟩ := ask_at d; exact ⟨fun z => (by cases z), fun z => (by cases z)⟩
def P_Llook (K : PySem.W.Frag) (A : Ad) (x0 x1 : V) (H : Hp) (Q : VK) : Prop := ∃ (h : HP) (S : Setup) (M : HM), Da H x0 (setupD S) ∧ x1 = .ref h.p ∧ LawAt H h S M ∧ SetupOk S ∧ M.Ok S ∧ M.out.length ≤ 100000 ∧ M.qu.length ≤ 100000 ∧ LRes H h S (M.look S.sellers.toNat) fun H' => Q .non H'
def sp_Llook (K : PySem.W.Frag) (A : Ad) : Sp := fun vs H Q _ => ∃ x0 x1, vs = [x0, x1] ∧ P_Llook K A x0 x1 H Q
theorem c_Llook {K : PySem.W.Frag} {A : Ad} {x0 x1 : V} {H : Hp} {Q : VK} {E : XK} (h : P_Llook K A x0 x1 H Q) : sp_Llook K A [x0, x1] H Q E := ⟨_, _, rfl, h⟩
theorem sc_Llook : FnScope ["_law_setup_here", "_law_model", "_law_s", "_law_pair"] ["_law_setup_here", "_law_model"] (defScope s_Llook) := ⟨rfl, rfl, rfl, by decide +kernel, rfl, by decide +kernel, by decide +kernel⟩
def t_Llook (K : PySem.W.Frag) (A : Ad) : TS :=
  (tIfS (tAnd (tTest (tOp rIsNon (tDGet (tVar 1) (tC (.str "round"))) (tC .non))) (tTest (tOp cGt (tCB (rLenSq K) (tCons (tDGet (tVar 1) (tC (.str "queue"))) tNil)) (tC (.int 0))))) (tSeq (sDPut (tVar 1) (tC (.str "round")) (tBM K "list" rPopAt (tDGet (tVar 1) (tC (.str "queue"))) (tCons (tC (.int 0)) tNil)))
    (tSeq (sDPut (tVar 1) (tC (.str "counts")) tDNewK)
    (tFor (iRng1 (tCons (tOp (rIxT K) (tVar 0) (tC (.int 2))) tNil)) (gName 2) (tDrop (tBM K "list" rAppend (tDGet (tVar 1) (tC (.str "out"))) (tCons (tTup (tCons (tVar 2) (tCons (tTup (tCons (tC (.str "close")) (tCons (tCB (rTupOf K) (tCons (tLc (iTup K (tOp (rIxT K) (tDGet (tVar 1) (tC (.str "round"))) (tC (.int 2)))) (gName 3) tYes (tOp (rIxT K) (tVar 3) (tC (.int 0))) [3]) tNil)) tNil))) tNil))) tNil)))))) tNext)
theorem pu_Llook (T : Txt K mg A) {x0 x1 : V} {H : Hp} {Q : VK} (h : P_Llook K A x0 x1 H Q) : t_Llook K A { nx := fun _ H' => Q .non H', rt := Q } [some x0, some x1, none, none] H := by
  obtain ⟨h, S, M, dS, rfl, ⟨⟨rdv, e, c⟩, al⟩, so, mo, hol, hql, k⟩ := h
  obtain ⟨s, r, pp, prs, sa⟩ := SetAt.of dS
  cases sa.e
  have e0 := sa.t
  have nd := HNd.of al.1
  have cq := c.qu
  have hs1 := so.s1
  have hs2 := so.s2
  unfold t_Llook
  walk_at "go"
  have same : M.look S.sellers.toNat = M → Q .non H := fun z => k h H rfl Fr.refl (fun a ha => .inl ha) (by rw [z]; exact ⟨⟨rdv, e, c⟩, al⟩)
  refine g_ite (fun hr => ?_) (fun hr => ?_)
  · have hrn : M.rd = none := (round_none c.rd).mp hr
    obtain ⟨iq, vs, eq, dq⟩ := id cq
    walk_at "go"
    cases hq : M.qu with
    | nil =>
      rw [hq] at dq
      cases dq
      refine g_ite (fun z => absurd z (by decide)) (fun _ => ?_)
      walk_at "go"
      exact same (by unfold HM.look; rw [hrn, hq])
    | cons a q =>
      have hlk : M.look S.sellers.toNat = { M with rd := some a, qu := q, ct := [], out := M.out ++ closeL S.sellers.toNat a } := by unfold HM.look; rw [hrn, hq]
      rw [hq] at dq
      cases dq with
      | @cons v vs d ds dv dvs =>
      have hvl : (v :: vs).length ≤ 1000000 := by
        have := dvs.len
        rw [List.length_map] at this
        rw [hq, List.length_cons] at hql
        rw [List.length_cons]; omega
      refine g_ite (fun _ => ?_) (fun z => absurd (show (0 : Int) < (((v :: vs).length : Nat) : Int) by rw [List.length_cons]; omega) z)
      walk_at "go"
      refine g_popAt (i := 0) eq hvl (Int.le_refl _) rfl fun H1 f1 e1 => ?_
      have ep1 := f1.at e (nin1 nd.p3 nin0)
      walk_at "go"
      rename_i H2 f2 e2' ct H3 n3 f3 e3 H4 f4 e4'
      have e2 : H2 h.p = some (.dK (F_LM h v)) := e2'
      have e4 : H4 h.p = some (.dK (F_LM { h with ct := ct } v)) := e4'
      clear e2' e4'
      have nct : H ct = none := by
        refine f1.freeL (f2.freeL n3 ?_) ?_
        · exact nin1 (ne_of_none e2 n3).symm nin0
        · exact nin1 (fun z => by rw [z] at n3; rw [f2.at e1 (nin1 nd.p3.symm nin0)] at n3; cases n3) nin0
      have nc : ∀ a ∈ h.os, a ≠ ct := fun a ha z => by obtain ⟨o, q⟩ := al.2 a ha; rw [z, nct] at q; cases q
      have ncp := nc h.p (by simp [HP.os])
      have nco := nc h.out (by simp [HP.os])
      have F4 : Fr [h.qu, h.p] H H4 := ((f1.mono (by simp)).transL ((f2.mono (by simp) : Fr [h.qu, h.p] H1 H2))).then0 f3 |>.transL (f4.mono (by simp))
      have dv4 := Da.frL F4 dv (imm_ask a)
      have c4 : HCore H4 S { h with ct := ct } v { M with rd := some a, qu := q, ct := [] } := by
        refine ⟨F4.at c.st (nin1 nd.n2 (nin1 nd.p1.symm nin0)), F4.at c.bk (nin1 nd.n5 (nin1 nd.p2.symm nin0)), c.bs.fr F4 (fun b hb => nin1 (fun z => nd.b3 (z ▸ hb)) (nin1 (fun z => nd.b0 (z ▸ hb)) nin0)), ?_, dv4, DkAt.nil (f4.at e3 (nin1 ncp.symm nin0)), c.out.fr F4 (nin1 nd.n9.symm (nin1 nd.p5.symm nin0))⟩
        have iqq : immL (q.map askD) = true := immL_map imm_ask q
        exact ⟨iqq, vs, f4.at (f3.at0 (f2.at e1 (nin1 nd.p3.symm nin0))) (nin1 nd.p3.symm nin0), DaL.frL F4 dvs iqq⟩
      have al4 : AL H4 (HP.os { h with ct := ct }) := by
        have s4 : AL H4 (ct :: h.os) := al_put ((al_put (al_put al f1 e1) f2 e2).new f3 n3 e3) f4 e4
        have p1 : (ct :: h.os).Perm (h.ct :: (h.p :: h.st :: h.bk :: h.qu :: ct :: h.out :: h.bs)) := by
          unfold HP.os
          refine (List.perm_middle (l₁ := [ct, h.p, h.st, h.bk, h.qu]) (l₂ := h.out :: h.bs) (a := h.ct)).trans ?_
          exact List.Perm.cons _ (List.perm_middle (l₁ := [h.p, h.st, h.bk, h.qu]) (l₂ := h.out :: h.bs) (a := ct)).symm
        have s5 := s4.perm p1
        exact ⟨(List.nodup_cons.mp s5.1).2, fun a ha => s5.2 a (List.mem_cons_of_mem _ ha)⟩
      have nd4 := HNd.of al4.1
      have hal : a.2.2.length ≤ 36 := (mo.qk a (by rw [hq]; exact List.mem_cons_self)).2
      have own4 : ∀ x ∈ HP.os { h with ct := ct }, x ∈ h.os ∨ H x = none := fun x hx => by
        have hx' : x = h.p ∨ x = h.st ∨ x = h.bk ∨ x = h.qu ∨ x = ct ∨ x = h.out ∨ x ∈ h.bs := by simpa [HP.os] using hx
        rcases hx' with z | z | z | z | z | z | z
        · exact .inl (by rw [z]; simp [HP.os])
        · exact .inl (by rw [z]; simp [HP.os])
        · exact .inl (by rw [z]; simp [HP.os])
        · exact .inl (by rw [z]; simp [HP.os])
        · exact .inr (by rw [z]; exact nct)
        · exact .inl (by rw [z]; simp [HP.os])
        · exact .inl (by simp [HP.os, z])
      have F4' : Fr h.os H H4 := F4.mono fun x hx => by
        rcases List.mem_cons.mp hx with z | z
        · rw [z]; simp [HP.os]
        · rw [List.mem_singleton.mp z]; simp [HP.os]
      have hos : h.out ∈ h.os := by simp [HP.os]
      have e04 := F4.tup _ _ e0
      obtain ⟨p9, l9, xs9, rfl, ep9, el9, dx9⟩ := ask_at dv4
      clear F4 e1 e2 e3 f1 f2 f3 f4 n3 ep1 dvs dv eq cq c e e0 dS sa
      walk_at "go"
      refine f_range (lo := 0) (n := S.sellers.toNat) (fun i σ H' => (∃ v2 v3, σ = [some (.ref s), some (.ref h.p), v2, v3]) ∧ Fr [h.out] H4 H' ∧ LsAt H' h.out ((M.out ++ (closeL S.sellers.toNat a).take i).map outD)) ⟨⟨_, _, rfl⟩, Fr.refl, by rw [List.take_zero, List.append_nil]; exact c4.out⟩ ?_ ?_
      · rintro i σ H5 hi ⟨⟨v2, v3, rfl⟩, f5, o5⟩
        obtain ⟨io, os, eo, dox⟩ := id o5
        have hosl : os.length ≤ 200000 := by
          rw [dox.len, List.length_map, List.length_append, List.length_take]
          unfold closeL
          rw [List.length_map, List.length_range]; omega
        have e5 := f5.at e4 (nin1 nd4.p5 nin0)
        have el5 := f5.tup _ _ el9
        have ep5 := f5.tup _ _ ep9
        have il : immL (a.2.2.map fun e => (PyData.tuple [cellD e.1, .int e.2])) = true := immL_map (fun _ => rfl) _
        have dx5 := DaL.frL f5 dx9 il
        walk_at "go"
        refine l_tup (xs := xs9) fun Dl H6 nD f6 e6 => ⟨fun j acc H' => DaL H' acc (((lackC a).take j).map cellD) ∧ Fr [] H5 H', ⟨.nil, f6⟩, fun j acc H' q => SqT.of (q.2.tup _ _ el5), fun j x acc H' hx ha ⟨da, f⟩ => ?_, fun acc H' ha ⟨da, f⟩ => ?_⟩
        · obtain ⟨y, b, cc, hy, rfl, eb, ec⟩ := lack_get (DaL.frL f dx5 il) hx
          have hy2 : (lackC a)[j]? = some y.1 := by rw [List.getElem?_map, hy]; rfl
          have hac : acc.length ≤ 1000 := by rw [da.len, List.length_map, List.length_take, List.length_map]; omega
          walk_at "go"
          refine ⟨rfl, ?_⟩
          walk_at "go"
          refine lcY_of ha (szM (by omega)) fun H7 f7 e7 => ⟨?_, f.own1 f7 nD⟩
          rw [take_more hy2, List.map_append]
          exact (DaL.frL f7 da (immL_map imm_cell _)).append (.one' (.tup (f7.tup _ _ ec) (Nat.le_of_ble_eq_true rfl) (.cons (.int _) (.one' (.int _)))))
        · have hxl : xs9.length = a.2.2.length := by rw [dx9.len, List.length_map]
          have ht : (lackC a).take xs9.length = lackC a := List.take_of_length_le (by rw [List.length_map, hxl]; exact Nat.le_refl _)
          rw [ht] at da
          have eo6 := f.at0 eo
          walk_at "go"
          rename_i t H7 n7 f7 e7 s7 H8 n8 f8 e8 cc H9 n9 f9 e9 H10 f10 e10
          have F9 : Fr [] H5 H9 := ((f.then0 f7).then0 f8).then0 f9
          refine ⟨⟨_, _, rfl⟩, (f5.then0 F9).transL f10, ?_⟩
          have ic : imm (outD ((i : Int), DnB.close (lackC a))) = true := imm_out _
          rw [show (closeL S.sellers.toNat a).take (i + 1) = (closeL S.sellers.toNat a).take i ++ [((i : Int), DnB.close (lackC a))] from take_range _ _ _ hi, ← List.append_assoc, List.map_append]
          rw [Int.zero_add] at e9
          have imc : immL ((lackC a).map cellD) = true := immL_map imm_cell _
          exact LsAt.snoc (DaL.frL F9 dox io) io (closeD (f9.tup _ _ (f8.tup _ _ e7)) (DaL.frL f9 (DaL.frL f8 (DaL.frL f7 da imc) imc) imc) (f9.tup _ _ e8) e9 (by omega)) ic f10 e10
      · rintro σ H5 ⟨⟨v2, v3, rfl⟩, f5, o5⟩
        have ht : (closeL S.sellers.toNat a).take S.sellers.toNat = closeL S.sellers.toNat a := List.take_of_length_le (by unfold closeL; rw [List.length_map, List.length_range]; exact Nat.le_refl _)
        rw [ht] at o5
        walk_at "go"
        refine k { h with ct := ct } H5 rfl (F4'.transL (f5.mono fun x hx => by rw [List.mem_singleton.mp hx]; exact hos)) own4 ?_
        rw [hlk]
        obtain ⟨_, os, eo, _⟩ := id o5
        exact ⟨⟨.ref p9, f5.at e4 (nin1 nd4.p5 nin0), c4.wout nd4 f5 o5⟩, al_put al4 f5 eo⟩
  · walk_at "go"
    exact same (by
      unfold HM.look
      cases q : M.rd with
      | none => exact absurd ((round_none c.rd).mpr q) hr
      | some a => rfl)
theorem ok_Llook {f : Addr} {fd : FuncData} (F : Fun K "_law_look" "_law_look" s_Llook f fd) (T : Txt K mg A)  : FnOk P w K mg base CX0 (1) f fd ["_law_setup_here", "_law_model"] (sp_Llook K A) := by
  refine F.ok sc_Llook (fun vs H Q E h => ?_) (fun cdv Ar outer s H vs Q E hr h => ⟨t_Llook K A, ?_, ?_⟩)
  · obtain ⟨x0, x1, rfl, _⟩ := h
    rfl
  · have hu := hu_of hr
    exact (pss_one (ps_if (PW.pt (pw_and (pt_cmpR c_isN (pe_dget hu (pv 1) pe_str (fun _ _ => rfl)) pe_non (nomark _)) (pw_and1 (pt_cmpR c_gt (pe_callB b_len (by rfl) T.b_len (by decide +kernel) (pa_cons (pe_dget hu (pv 1) pe_str (fun _ _ => rfl)) pa_nil)) pe_int (nomark _))))) (pss_cons (ps_dput hu (pv 1) pe_str (pe_bm PySem.F.plainAttrs_list PySem.F.slot_list_pop PySem.F.type_list_pop mt_popAt (pe_dget hu (pv 1) pe_str (fun _ _ => rfl)) (pa_cons pe_int pa_nil)) rfl)
    (pss_cons (ps_dput hu (pv 1) pe_str pe_dnewK rfl)
    (pss_one (ps_for PassesOwn.never rfl (pi_range1 rfl T.b_range (pa_cons (pe_ix ix_tup (pv 0) pe_int (fun _ _ => rfl)) pa_nil)) (pg_name (i := 2) sc_Llook.nd rfl (Or.inl rfl)) (pss_one (ps_expr (pe_bm PySem.F.plainAttrs_list PySem.F.slot_list_append PySem.F.type_list_append mt_append (pe_dget hu (pv 1) pe_str (fun _ _ => rfl)) (pa_cons (pe_tup (pa_cons (pv 2) (pa_cons (pe_tup (pa_cons pe_str (pa_cons (pe_callTy b_tuple (by rfl) T.b_tuple (by decide +kernel) (pa_cons (pe_lc (own := [("_law_pair", 3)]) (g := (gName 3)) (tt := tYes) rfl sc_Llook.nd (pi_tup (pe_ix ix_tup (pe_dget hu (pv 1) pe_str (fun _ _ => rfl)) pe_int (fun _ _ => rfl))) (blkOk_by (N := ["_law_setup_here", "_law_model", "_law_s", "_law_pair"]) (sc := defScope s_Llook) (own := [("_law_pair", 3)]) (by decide +kernel)) (fun _ _ _ _ _ => (pg_name (i := 3) sc_Llook.nd rfl (Or.inl rfl))) (fun _ _ _ _ _ => pts_nil) (fun _ _ _ _ _ => (pe_ix ix_tup (pv 3) pe_int (fun _ _ => rfl)))) pa_nil)) pa_nil))) pa_nil))) pa_nil)))))))) pss_nil))
  · obtain ⟨x0, x1, rfl, h⟩ := h
    exact pu_Llook T h
theorem grant_len (f : Cell → Int) (l : Lack) : Decidable.decide ((((l.filter fun e => Decidable.decide (f e.1 < e.2)).length : Nat) : Int) = 0) = grantZ f l := by
  unfold grantZ
  rw [Bool.eq_iff_iff, decide_eq_true_eq, List.all_eq_true]
  constructor
  · intro h e he
    have h0 : (l.filter fun e => Decidable.decide (f e.1 < e.2)) = [] := List.eq_nil_of_length_eq_zero (by omega)
    have := List.filter_eq_nil_iff.mp h0 e he
    simp at this
    exact decide_eq_true this
  · intro h
    have h0 : (l.filter fun e => Decidable.decide (f e.1 < e.2)) = [] := List.filter_eq_nil_iff.mpr fun e he => by
      have := of_decide_eq_true (h e he)
      simp; omega
    rw [h0]; rfl
def lawSub (g : Bool) (f : Cell → Int) (l : Lack) : Cell → Int := l.foldl (fun f e => fset f e.1 (f e.1 - e.2 * (if g then 1 else 0))) f
theorem lawSub_snoc (g : Bool) (f : Cell → Int) (l : Lack) (e : Cell × Int) : lawSub g f (l ++ [e]) = fset (lawSub g f l) e.1 (lawSub g f l e.1 - e.2 * (if g then 1 else 0)) := by unfold lawSub; rw [List.foldl_append]; rfl
theorem fset_id (f : Cell → Int) (c : Cell) : fset f c (f c) = f := by
  funext x; unfold fset
  by_cases h : x = c
  · rw [if_pos h, h]
  · rw [if_neg h]
theorem lawSub_eq (g : Bool) : ∀ (l : Lack) (f : Cell → Int), lawSub g f l = if g = true then subZ f l else f
  | [], f => by cases g <;> rfl
  | e :: l, f => by
    show lawSub g (fset f e.1 (f e.1 - e.2 * (if g then 1 else 0))) l = _
    rw [lawSub_eq g l]
    cases g with
    | true =>
      show (if true = true then subZ (fset f e.1 (f e.1 - e.2 * 1)) l else _) = (if true = true then subZ (fset f e.1 (f e.1 - e.2)) l else _)
      rw [Int.mul_one]; rfl
    | false =>
      show (if false = true then _ else fset f e.1 (f e.1 - e.2 * 0)) = (if false = true then _ else f)
      rw [Int.mul_zero, Int.sub_zero, fset_id]; rfl
def LackB (l : Lack) : Prop := ∀ e ∈ l, -1000000 ≤ e.2 ∧ e.2 ≤ 1000000
def P_Ldecide (K : PySem.W.Frag) (A : Ad) (x0 x1 : V) (H : Hp) (Q : VK) : Prop := ∃ (h : HP) (S : Setup) (M : HM) (a : Ask), Da H x0 (setupD S) ∧ x1 = .ref h.p ∧ LawAt H h S M ∧ SetupOk S ∧ M.Ok S ∧ M.rd = some a ∧ M.ct.length = S.sellers.toNat ∧ M.out.length ≤ 50000 ∧ M.qu.length ≤ 50000 ∧ LRes H h S (M.decide S.sellers.toNat) fun H' => Q .non H'
def sp_Ldecide (K : PySem.W.Frag) (A : Ad) : Sp := fun vs H Q _ => ∃ x0 x1, vs = [x0, x1] ∧ P_Ldecide K A x0 x1 H Q
theorem c_Ldecide {K : PySem.W.Frag} {A : Ad} {x0 x1 : V} {H : Hp} {Q : VK} {E : XK} (h : P_Ldecide K A x0 x1 H Q) : sp_Ldecide K A [x0, x1] H Q E := ⟨_, _, rfl, h⟩
theorem sc_Ldecide : FnScope ["_law_setup_here", "_law_model", "_law_seller", "_law_number", "_law_lack_here", "_law_stock", "_law_granted", "_law_pair", "_law_s", "_law_counts", "_law_k", "_law_cell", "_law_back", "_law_answer"] ["_law_setup_here", "_law_model"] (defScope s_Ldecide) := ⟨rfl, rfl, rfl, by decide +kernel, rfl, by decide +kernel, by decide +kernel⟩
def t_Ldecide (K : PySem.W.Frag) (A : Ad) : TS :=
  (tSeq (tAsg (tDGet (tVar 1) (tC (.str "round"))) (gTup K 3 (gCons (gName 2) (gCons (gName 3) (gCons (gName 4) gNil)))))
    (tSeq (tAsg (tDGet (tVar 1) (tC (.str "stock"))) (gName 5))
    (tSeq (tAsg (tOp rEq (tCB (rLenSq K) (tCons (tLc (iTup K (tVar 4)) (gName 7) (tTest (tOp cLt (tDGet (tVar 5) (tOp (rIxT K) (tVar 7) (tC (.int 0)))) (tOp (rIxT K) (tVar 7) (tC (.int 1))))) (tVar 7) [7]) tNil)) (tC (.int 0))) (gName 6))
    (tSeq (tFor (iTup K (tVar 4)) (gName 7) (sDPut (tVar 5) (tOp (rIxT K) (tVar 7) (tC (.int 0))) (tOp oSub (tDGet (tVar 5) (tOp (rIxT K) (tVar 7) (tC (.int 0)))) (tOp oMul (tOp (rIxT K) (tVar 7) (tC (.int 1))) (tCB rIntB (tCons (tVar 6) tNil))))))
    (tSeq (tFor (iRng1 (tCons (tOp (rIxT K) (tVar 0) (tC (.int 2))) tNil)) (gName 8) (tSeq (tAsg (tLst tNil) (gName 9))
    (tSeq (tFor (iRng1 (tCons (tCB (rLenSq K) (tCons (tVar 4) tNil)) tNil)) (gName 10) (tSeq (tAsg (tOp (rIxT K) (tOp (rIxT K) (tVar 4) (tVar 10)) (tC (.int 0))) (gName 11))
    (tSeq (tAsg (tCB rMin2 (tCons (tOp (rIxT K) (tDGet (tDGet (tVar 1) (tC (.str "counts"))) (tVar 8)) (tVar 10)) (tCons (tDGet (tVar 5) (tVar 11)) tNil))) (gName 12))
    (tSeq (sDPut (tVar 5) (tVar 11) (tOp oSub (tDGet (tVar 5) (tVar 11)) (tVar 12)))
    (tDrop (tBM K "list" rAppend (tVar 9) (tCons (tVar 12) tNil)))))))
    (tSeq (tAsg (tC .non) (gName 13))
    (Evl.tCut (tIfS (tTest (tOp rEq (tVar 8) (tVar 2))) (tAsg (tTup (tCons (tVar 3) (tCons (tVar 6) tNil))) (gName 13)) tNext)
    (tDrop (tBM K "list" rAppend (tDGet (tVar 1) (tC (.str "out"))) (tCons (tTup (tCons (tVar 8) (tCons (tTup (tCons (tC (.str "open")) (tCons (tCB (rTupOf K) (tCons (tVar 9) tNil)) (tCons (tVar 13) tNil)))) tNil))) tNil))))))))
    (tSeq (sDPut (tVar 1) (tC (.str "round")) (tC .non))
    (tDrop (tCl (sp_Llook K A) (tCons (tVar 0) (tCons (tVar 1) tNil))))))))))
theorem pu_Ldecide (T : Txt K mg A) {x0 x1 : V} {H : Hp} {Q : VK} (h : P_Ldecide K A x0 x1 H Q) : t_Ldecide K A { nx := fun _ H' => Q .non H', rt := Q } [some x0, some x1, none, none, none, none, none, none, none, none, none, none, none, none] H := by
  obtain ⟨h, S, M, a, dS, rfl, ⟨⟨rdv, e, c⟩, al⟩, so, mo, hr, hct, hol, hql, k⟩ := h
  obtain ⟨s, r, pp, prs, sa⟩ := SetAt.of dS
  cases sa.e
  have e0 := sa.t
  have nd := HNd.of al.1
  have hs1 := so.s1
  have hs2 := so.s2
  have drd := c.rd
  rw [hr] at drd
  obtain ⟨p0, l0, xs, rfl, ep0, el0, dxs⟩ := ask_at drd
  obtain ⟨hlk, hll⟩ := mo.rk a hr
  have il : immL (a.2.2.map fun e => (PyData.tuple [cellD e.1, .int e.2])) = true := immL_map (fun _ => rfl) _
  have hxl : xs.length = a.2.2.length := by rw [dxs.len, List.length_map]
  have hcl : (lackC a).length = a.2.2.length := by rw [List.length_map]
  have hdec : M.decide S.sellers.toNat = HM.look S.sellers.toNat { M with st := (opensZ a (grantZ M.st a.2.2) M.ct (if grantZ M.st a.2.2 = true then subZ M.st a.2.2 else M.st) S.sellers.toNat).1, out := M.out ++ (opensZ a (grantZ M.st a.2.2) M.ct (if grantZ M.st a.2.2 = true then subZ M.st a.2.2 else M.st) S.sellers.toNat).2, rd := none } := by
    unfold HM.decide; rw [hr]
  rw [hdec] at k
  unfold t_Ldecide
  walk_at "go"
  refine l_tup (xs := xs) fun Dl H1 nD f1 e1 => ⟨fun i acc H' => acc.length = ((a.2.2.take i).filter fun e => Decidable.decide (M.st e.1 < e.2)).length ∧ Fr [] H H', ⟨rfl, f1⟩, fun i acc H' q => SqT.of (q.2.tup _ _ el0), fun i x acc H' hx ha ⟨da, f⟩ => ?_, fun acc H' ha ⟨da, f⟩ => ?_⟩
  · obtain ⟨y, b, cc, hy, rfl, eb, ec⟩ := lack_get (DaL.frL f dxs il) hx
    have hac : acc.length ≤ 1000 := by
      rw [da]
      refine Nat.le_trans (List.length_filter_le _ _) ?_
      rw [List.length_take]; omega
    have hyk := hlk y (List.mem_of_getElem? hy)
    have fm := filter_more (f := fun e : Cell × Int => Decidable.decide (M.st e.1 < e.2)) hy
    have st' := f.at0 c.st
    walk_at "go"
    refine ⟨rfl, ?_⟩
    walk_at "go"
    refine g_stG so hyk st' ec ?_
    walk_at "go"
    refine g_ite (fun q => ?_) (fun q => ?_)
    · walk_at "go"
      refine lcY_of ha (szM (by omega)) fun H2 f2 e2 => ⟨?_, f.own1 f2 nD⟩
      rw [fm, if_pos (decide_eq_true q), List.length_append, List.length_append, da]; rfl
    · walk_at "go"
      refine lcN_of ha ⟨?_, f⟩
      rw [fm, if_neg (by rw [decide_eq_false q]; decide), List.append_nil]; exact da
  · have ht : a.2.2.take xs.length = a.2.2 := List.take_of_length_le (by rw [hxl]; exact Nat.le_refl _)
    rw [ht] at da
    walk_at "go"
    rw [da, grant_len]
    have e2' := f.at0 e
    have el2 := f.tup _ _ el0
    have dxs2 := DaL.frL f dxs il
    have c2 := c.fr f fun _ _ => nin0
    have al2 := al.fr0 f
    have k2 := k.pre f.of0
    have e02 := f.tup _ _ e0
    have dS2 := Da.frL f dS (imm_setup S)
    clear k el0 dxs c al e ep0 drd f1 e1 nD ha da f e0 dS sa
    generalize hg : grantZ M.st a.2.2 = g at *
    rw [← lawSub_eq g] at k2
    refine f_tup (xs := xs) (fun i σ H3 => (∃ v7, σ = [some (.ref s), some (.ref h.p), some (.int a.1), some (.int a.2.1), some (.ref l0), some (.ref h.st), some (.bl g), v7, none, none, none, none, none, none]) ∧ Fr [h.st] H' H3 ∧ H3 h.st = some (.dT (cD (stT S (lawSub g M.st (a.2.2.take i)))))) ⟨⟨_, rfl⟩, Fr.refl, c2.st⟩ (fun i σ H3 _ ⟨_, f, _⟩ => SqT.of (f.tup _ _ el2)) ?_ ?_
    · rintro i x σ H3 hx ⟨⟨v7, rfl⟩, f3, s3⟩
      obtain ⟨y, b, cc, hy, rfl, eb, ec⟩ := lack_get (DaL.frL f3 dxs2 il) hx
      have hyk := hlk y (List.mem_of_getElem? hy)
      walk_at "go"
      refine g_stG so hyk s3 ec ?_
      walk_at "go"
      refine g_stD so hyk s3 ec fun H4 f4 e4 => ?_
      walk_at "go"
      refine ⟨⟨_, rfl⟩, f3.transL f4, ?_⟩
      rw [e4, take_more hy, lawSub_snoc]
    · rintro σ H3 ⟨⟨v7, rfl⟩, f3, s3⟩
      have ht : a.2.2.take xs.length = a.2.2 := List.take_of_length_le (by rw [hxl]; exact Nat.le_refl _)
      rw [ht] at s3
      generalize lawSub g M.st a.2.2 = z0 at *
      have c3 : HCore H3 S h (.ref p0) { M with st := z0 } := c2.wst nd f3 s3
      have al3 := al_put al2 f3 s3
      have ep3 := f3.at e2' (nin1 nd.p1 nin0)
      have k3 := k2.pre (f3.mono fun x hx => by rw [List.mem_singleton.mp hx]; simp [HP.os])
      have e03 := f3.tup _ _ e02
      have el3 := f3.tup _ _ el2
      have dxs3 := DaL.frL f3 dxs2 il
      have dS3 := Da.frL f3 dS2 (imm_setup S)
      clear k2 c2 al2 e2' f3 el2 dxs2 e02 dS2
      walk_at "go"
      refine f_range (lo := 0) (n := S.sellers.toNat) (fun i σ H' => (∃ v7 v8 v9 v10 v11 v12 v13, σ = [some (.ref s), some (.ref h.p), some (.int a.1), some (.int a.2.1), some (.ref l0), some (.ref h.st), some (.bl g), v7, v8, v9, v10, v11, v12, v13]) ∧ Fr [h.st, h.out] H3 H' ∧ H' h.st = some (.dT (cD (stT S (opensZ a g M.ct z0 i).1))) ∧ LsAt H' h.out ((M.out ++ (opensZ a g M.ct z0 i).2).map outD))
        ⟨⟨_, _, _, _, _, _, _, rfl⟩, Fr.refl, s3, by show LsAt H3 h.out ((M.out ++ []).map outD); rw [List.append_nil]; exact c3.out⟩ ?_ ?_
      · rintro i σ H4 hi ⟨⟨v7, v8, v9, v10, v11, v12, v13, rfl⟩, f4, s4, o4⟩
        obtain ⟨cs, hcs⟩ := full_mem M.ct mo.cn (fun e he => by have := mo.ck e he; omega) hct i hi
        have hcsl : cs.length = a.2.2.length := mo.cl a hr ((i : Int), cs) (lk_some hcs)
        generalize hZ : opensZ a g M.ct z0 i = Z at *
        have hZl : Z.2.length = i := by rw [← hZ]; exact opensZ_len a g M.ct z0 i
        have ep4 := f4.at ep3 (nin1 nd.p1 (nin1 nd.p5 nin0))
        have n2 : ∀ {x : Addr}, x ≠ h.st → x ≠ h.out → x ∉ [h.st, h.out] := fun q r => nin1 q (nin1 r nin0)
        have ct4 := c3.ct.fr f4 (n2 nd.n3.symm nd.n10)
        have al4 : AL H4 h.os := ⟨al3.1, fun x hx => by
          by_cases z : x = h.st
          · rw [z]; exact ⟨_, s4⟩
          · by_cases z2 : x = h.out
            · obtain ⟨_, os, eo, _⟩ := o4; rw [z2]; exact ⟨_, eo⟩
            · obtain ⟨u, q⟩ := al3.2 x hx; exact ⟨u, f4.at q (n2 z z2)⟩⟩
        have el4 := f4.tup _ _ el3
        have dxs4 := DaL.frL f4 dxs3 il
        walk_at "go"
        rename_i bl H5 n5 f5 e5
        have al5 := (al4.new f5 n5 e5)
        have nbl : bl ∉ h.os := (List.nodup_cons.mp al5.1).1
        have nbs : bl ≠ h.st := fun z => nbl (by rw [z]; simp [HP.os])
        have nbo : bl ≠ h.out := fun z => nbl (by rw [z]; simp [HP.os])
        have nbp : bl ≠ h.p := fun z => nbl (by rw [z]; simp [HP.os])
        have nbc : bl ≠ h.ct := fun z => nbl (by rw [z]; simp [HP.os])
        have ep5 := f5.at0 ep4
        have el5 := f5.tup _ _ el4
        have dxs5 := DaL.frL f5 dxs4 il
        obtain ⟨kvs, ek, rk⟩ := ct4.fr f5 (fun q => nomatch q)
        obtain ⟨cv, hcv, dcv, _⟩ := (rk.val (i : Int)).2 (rowD cs) (lk_mem (e := ((i : Int), rowD cs)) (by
          show ((M.ct.map fun e => (e.1, rowD e.2)).map fun e => e.1).Nodup
          rw [List.map_map]
          exact mo.cn) (List.mem_map.mpr ⟨((i : Int), cs), lk_some hcs, rfl⟩))
        obtain ⟨cp, rfl, ecp⟩ := ints_at dcv
        have s5 := f5.at0 s4
        rw [Int.zero_add]
        walk_at "go"
        refine f_range (lo := 0) (n := xs.length) (fun j σ H' => (∃ v10 v11 v12, σ = [some (.ref s), some (.ref h.p), some (.int a.1), some (.int a.2.1), some (.ref l0), some (.ref h.st), some (.bl g), v7, some (.int (i : Nat)), some (.ref bl), v10, v11, v12, v13]) ∧ Fr [h.st, bl] H5 H' ∧ H' h.st = some (.dT (cD (stT S (backZ Z.1 (((lackC a).zip cs).take j)).2))) ∧ H' bl = some (.lst ((backZ Z.1 (((lackC a).zip cs).take j)).1.map V.int)))
          ⟨⟨_, _, _, rfl⟩, Fr.refl, s5, e5⟩ ?_ ?_
        · rintro j σ H7 hj ⟨⟨v10, v11, v12, rfl⟩, f7, s7, b7⟩
          have hj1 : j < a.2.2.length := by omega
          have hx : xs[j]? = some xs[j] := List.getElem?_eq_getElem hj
          obtain ⟨y, b, ca, hy, hxe, eb, eca⟩ := lack_get (DaL.frL f7 dxs5 il) hx
          have hw : (lackC a)[j]? = some y.1 := by rw [List.getElem?_map, hy]; rfl
          have hm : cs[j]? = some cs[j] := List.getElem?_eq_getElem (by omega)
          have hwk := hlk y (List.mem_of_getElem? hy)
          have hzip := zip_get hw hm
          have ep8 := f7.at ep5 (nin1 nd.p1 (nin1 nbp.symm nin0))
          have ek8 := f7.at ek (nin1 nd.n3.symm (nin1 nbc.symm nin0))
          have ecp8 := f7.tup _ _ ecp
          have el8 := f7.tup _ _ el5
          rw [take_more hzip, backZ_snoc]
          have hbz : (backZ Z.1 (((lackC a).zip cs).take j)).1.length ≤ 100 := by
            rw [backZ_len, List.length_take]; omega
          generalize hB : backZ Z.1 (((lackC a).zip cs).take j) = B at *
          have hix : atI xs (0 + (j : Int)) = some (.ref b) := by rw [Int.zero_add]; exact atI_nat (by rw [hx, hxe])
          have him : atI (cs.map V.int) (0 + (j : Int)) = some (.int cs[j]) := by rw [Int.zero_add]; exact atI_nat (by rw [List.getElem?_map, hm]; rfl)
          generalize cs[j] = m at *
          walk_at "go"
          refine g_ixT (SqT.of el8) hix ?_
          walk_at "go"
          refine g_rdgI (.inl ek8) hcv ?_
          walk_at "go"
          refine g_ixT (SqT.of ecp8) him ?_
          walk_at "go"
          refine g_stG so hwk s7 eca ?_
          walk_at "go"
          refine g_stG so hwk s7 eca ?_
          walk_at "go"
          refine g_stD so hwk s7 eca fun H8 f8 e8 => ?_
          have b8 := f8.at b7 (nin1 nbs nin0)
          walk_at "go"
          rename_i H9 f9 e9
          have hmin : (if B.2 y.1 < m then B.2 y.1 else m) = minI m (B.2 y.1) := rfl
          rw [hmin] at e8 e9
          refine ⟨⟨_, _, _, rfl⟩, (f7.transL (f8.mono fun x hx => by rw [List.mem_singleton.mp hx]; simp)).transL (f9.mono fun x hx => by rw [List.mem_singleton.mp hx]; simp), f9.at e8 (nin1 nbs.symm nin0), ?_⟩
          rw [e9, List.map_append]; rfl
        · rintro σ H7 ⟨⟨v10, v11, v12, rfl⟩, f7, s7, b7⟩
          have hfull : ((lackC a).zip cs).take xs.length = (lackC a).zip cs := List.take_of_length_le (by rw [List.length_zip, hcl, hxl, hcsl]; omega)
          rw [hfull] at s7 b7
          have hbz : (backZ Z.1 ((lackC a).zip cs)).1.length ≤ 100 := by rw [backZ_len, List.length_zip, hcl]; omega
          have hstep : opensZ a g M.ct z0 (i + 1) = ((backZ Z.1 ((lackC a).zip cs)).2, Z.2 ++ [((i : Int), DnB.opn (backZ Z.1 ((lackC a).zip cs)).1 (if (i : Int) = a.1 then some (a.2.1, g) else none))]) := by
            show (let z := opensZ a g M.ct z0 i; let b := backZ z.1 ((lackC a).zip ((lk M.ct (i : Int)).getD [])); (b.2, z.2 ++ [((i : Int), DnB.opn b.1 (if (i : Int) = a.1 then some (a.2.1, g) else none))])) = _
            rw [hZ, hcs]; rfl
          rw [hstep]
          generalize backZ Z.1 ((lackC a).zip cs) = B at *
          have ep7 := f7.at ep5 (nin1 nd.p1 (nin1 nbp.symm nin0))
          have o7 : LsAt H7 h.out ((M.out ++ Z.2).map outD) := (o4.fr f5 (fun q => nomatch q)).fr f7 (nin1 nd.n4.symm (nin1 nbo.symm nin0))
          obtain ⟨io, os, eo, dox⟩ := id o7
          have hosl : os.length ≤ 60000 := by
            rw [dox.len, List.length_map, List.length_append]; omega
          have F7 : Fr [h.st, h.out] H3 H7 := (f4.then0 f5).own f7 fun x hx => by
            rcases List.mem_cons.mp hx with q | q
            · exact .inl (by rw [q]; simp)
            · rw [List.mem_singleton.mp q]; exact .inr (f4.freeL n5 (n2 nbs nbo))
          walk_at "go"
          refine g_cut (fun σ H8 => ∃ an ans, σ = [some (.ref s), some (.ref h.p), some (.int a.1), some (.int a.2.1), some (.ref l0), some (.ref h.st), some (.bl g), v7, some (.int (i : Nat)), some (.ref bl), v10, v11, v12, some an] ∧ Fr [] H7 H8 ∧ Da H8 an (ansD ans) ∧ (if (i : Int) = a.1 then some (a.2.1, g) else none) = ans) ?_ ?_
          · walk_at "go"
            refine g_ite (fun q => ?_) (fun q => ?_)
            · walk_at "go"
              rename_i an H8 n8 f8 e8
              exact ⟨.ref an, some (a.2.1, g), rfl, f8, .tup e8 (Nat.le_of_ble_eq_true rfl) (.cons (.int _) (.one' (.bl _))), if_pos q⟩
            · walk_at "go"
              exact ⟨.non, none, rfl, Fr.refl, .non, if_neg q⟩
          · rintro σ H8 ⟨an, ans, rfl, f8, dan, hans⟩
            have ep8 := f8.at0 ep7
            have b8 := f8.at0 b7
            have eo8 := f8.at0 eo
            walk_at "go"
            rename_i tb H9 n9 f9 e9 s9 H10 n10 f10 e10 cc H11 n11 f11 e11 H12 f12 e12
            have F11 : Fr [] H7 H11 := ((f8.then0 f9).then0 f10).then0 f11
            refine ⟨⟨_, _, _, _, _, _, _, rfl⟩, (F7.then0 F11).transL (f12.mono fun x hx => by rw [List.mem_singleton.mp hx]; simp), f12.at (F11.at0 s7) (nin1 nd.n4 nin0), ?_⟩
            rw [← List.append_assoc, List.map_append, hans]
            have ic : imm (outD ((i : Int), DnB.opn B.1 ans)) = true := imm_out _
            exact LsAt.snoc (DaL.frL F11 dox io) io (openD (f11.tup _ _ (f10.tup _ _ e9)) (by omega) (Da.frL ((f9.then0 f10).then0 f11) dan (imm_ans _)) (f11.tup _ _ e10) e11) ic f12 e12
      · rintro σ H4 ⟨⟨v7, v8, v9, v10, v11, v12, v13, rfl⟩, f4, s4, o4⟩
        have n2 : ∀ {x : Addr}, x ≠ h.st → x ≠ h.out → x ∉ [h.st, h.out] := fun q r => nin1 q (nin1 r nin0)
        have hZl : (opensZ a g M.ct z0 S.sellers.toNat).2.length = S.sellers.toNat := opensZ_len a g M.ct z0 _
        generalize hZ : opensZ a g M.ct z0 S.sellers.toNat = Z at *
        have ep4 := f4.at ep3 (nin1 nd.p1 (nin1 nd.p5 nin0))
        walk_at "go"
        rename_i H5 f5 e5'
        have e5 : H5 h.p = some (.dK (F_LM h .non)) := e5'
        have np : ∀ {x : Addr}, x ≠ h.p → x ∉ [h.p] := fun q => nin1 q nin0
        have c5 : HCore H5 S h .non { M with st := Z.1, out := M.out ++ Z.2, rd := none } := by
          refine ⟨f5.at s4 (np nd.p1.symm), f5.at (f4.at c3.bk (n2 nd.n1.symm nd.n7)) (np nd.p2.symm), BksAt.fr (BksAt.fr c3.bs f4 (fun b hb => n2 (fun z => nd.b1 (z ▸ hb)) (fun z => nd.b5 (z ▸ hb)))) f5 (nin_bs nd.b0), (c3.qu.fr f4 (n2 nd.n2.symm nd.n9)).fr f5 (np nd.p3.symm), .non, (c3.ct.fr f4 (n2 nd.n3.symm nd.n10)).fr f5 (np nd.p4.symm), o4.fr f5 (np nd.p5.symm)⟩
        have F5 : Fr h.os H3 H5 := (f4.mono fun x hx => by
          rcases List.mem_cons.mp hx with q | q
          · rw [q]; simp [HP.os]
          · rw [List.mem_singleton.mp q]; simp [HP.os]).transL (f5.mono fun x hx => by rw [List.mem_singleton.mp hx]; simp [HP.os])
        have al5 : AL H5 h.os := ⟨al3.1, fun x hx => by
          by_cases z : x = h.st
          · rw [z]; exact ⟨_, c5.st⟩
          · by_cases z2 : x = h.out
            · obtain ⟨_, os, eo, _⟩ := c5.out; rw [z2]; exact ⟨_, eo⟩
            · by_cases z3 : x = h.p
              · rw [z3]; exact ⟨_, e5⟩
              · obtain ⟨u, q⟩ := al3.2 x hx; exact ⟨u, f5.at (f4.at q (n2 z z2)) (np z3)⟩⟩
        walk_at "go"
        refine c_Llook ⟨h, S, { M with st := Z.1, out := M.out ++ Z.2, rd := none }, Da.frL F5 dS3 (imm_setup S), rfl, ⟨⟨.non, e5, c5⟩, al5⟩, so, ⟨mo.qk, fun x hx => (by cases hx), fun x hx => (by cases hx), mo.ck, mo.cn, mo.bl⟩, ?_, by show M.qu.length ≤ _; omega, ?_⟩
        · show (M.out ++ Z.2).length ≤ _
          rw [List.length_append]; omega
        · exact k3.pre F5
theorem ok_Ldecide {f : Addr} {fd : FuncData} (F : Fun K "_law_decide" "_law_decide" s_Ldecide f fd) (T : Txt K mg A) (c_Llook : Cal P w K mg base "_law_look" 1 ["_law_setup_here", "_law_model"] (sp_Llook K A)) : FnOk P w K mg base CX0 (2) f fd ["_law_setup_here", "_law_model"] (sp_Ldecide K A) := by
  refine F.ok sc_Ldecide (fun vs H Q E h => ?_) (fun cdv Ar outer s H vs Q E hr h => ⟨t_Ldecide K A, ?_, ?_⟩)
  · obtain ⟨x0, x1, rfl, _⟩ := h
    rfl
  · have hu := hu_of hr
    exact (pss_cons (ps_asg (pe_dget hu (pv 1) pe_str (fun _ _ => rfl)) (pg_tup rfl (pgs_cons (pg_name (i := 2) sc_Ldecide.nd rfl (Or.inl rfl)) (pgs_cons (pg_name (i := 3) sc_Ldecide.nd rfl (Or.inl rfl)) (pgs_cons (pg_name (i := 4) sc_Ldecide.nd rfl (Or.inl rfl)) pgs_nil)))))
    (pss_cons (ps_set (i := 5) sc_Ldecide.nd rfl (Or.inr rfl) (pe_dget hu (pv 1) pe_str (fun _ _ => rfl)))
    (pss_cons (ps_set (i := 6) sc_Ldecide.nd rfl (Or.inl rfl) (pe_cmpR op_eq (pe_callB b_len (by rfl) T.b_len (by decide +kernel) (pa_cons (pe_lc (own := [("_law_pair", 7)]) (g := (gName 7)) (tt := (tTest (tOp cLt (tDGet (tVar 5) (tOp (rIxT K) (tVar 7) (tC (.int 0)))) (tOp (rIxT K) (tVar 7) (tC (.int 1)))))) rfl sc_Ldecide.nd (pi_tup (pv 4)) (blkOk_by (N := ["_law_setup_here", "_law_model", "_law_seller", "_law_number", "_law_lack_here", "_law_stock", "_law_granted", "_law_pair", "_law_s", "_law_counts", "_law_k", "_law_cell", "_law_back", "_law_answer"]) (sc := defScope s_Ldecide) (own := [("_law_pair", 7)]) (by decide +kernel)) (fun _ _ _ _ _ => (pg_name (i := 7) sc_Ldecide.nd rfl (Or.inl rfl))) (fun _ _ _ _ _ => (pts_one (pt_cmpR c_lt (pe_dget hu (pv 5) (pe_ix ix_tup (pv 7) pe_int (fun _ _ => rfl)) (fun _ _ => rfl)) (pe_ix ix_tup (pv 7) pe_int (fun _ _ => rfl)) (nomark _)))) (fun _ _ _ _ _ => (pv 7))) pa_nil)) pe_int (nomark _)))
    (pss_cons (ps_for PassesOwn.never rfl (pi_tup (pv 4)) (pg_name (i := 7) sc_Ldecide.nd rfl (Or.inl rfl)) (pss_one (ps_dput hu (pv 5) (pe_ix ix_tup (pv 7) pe_int (fun _ _ => rfl)) (pe_op o_sub (pe_dget hu (pv 5) (pe_ix ix_tup (pv 7) pe_int (fun _ _ => rfl)) (fun _ _ => rfl)) (pe_op o_mul (pe_ix ix_tup (pv 7) pe_int (fun _ _ => rfl)) (pe_callTy b_intB (by rfl) T.b_int (by decide +kernel) (pa_cons (pv 6) pa_nil)))) rfl)))
    (pss_cons (ps_for PassesOwn.never rfl (pi_range1 rfl T.b_range (pa_cons (pe_ix ix_tup (pv 0) pe_int (fun _ _ => rfl)) pa_nil)) (pg_name (i := 8) sc_Ldecide.nd rfl (Or.inl rfl)) (pss_cons (ps_set (i := 9) sc_Ldecide.nd rfl (Or.inl rfl) (pe_lst pa_nil))
    (pss_cons (ps_for PassesOwn.never rfl (pi_range1 rfl T.b_range (pa_cons (pe_callB b_len (by rfl) T.b_len (by decide +kernel) (pa_cons (pv 4) pa_nil)) pa_nil)) (pg_name (i := 10) sc_Ldecide.nd rfl (Or.inl rfl)) (pss_cons (ps_set (i := 11) sc_Ldecide.nd rfl (Or.inl rfl) (pe_ix ix_tup (pe_ix ix_tup (pv 4) (pv 10) (fun _ _ => rfl)) pe_int (fun _ _ => rfl)))
    (pss_cons (ps_set (i := 12) sc_Ldecide.nd rfl (Or.inl rfl) (pe_callB (b_min2 rfl) (by rfl) T.b_min (by decide +kernel) (pa_cons (pe_ix ix_tup (pe_dget hu (pe_dget hu (pv 1) pe_str (fun _ _ => rfl)) (pv 8) (fun _ _ => rfl)) (pv 10) (fun _ _ => rfl)) (pa_cons (pe_dget hu (pv 5) (pv 11) (fun _ _ => rfl)) pa_nil))))
    (pss_cons (ps_dput hu (pv 5) (pv 11) (pe_op o_sub (pe_dget hu (pv 5) (pv 11) (fun _ _ => rfl)) (pv 12)) rfl)
    (pss_one (ps_expr (pe_bm PySem.F.plainAttrs_list PySem.F.slot_list_append PySem.F.type_list_append mt_append (pv 9) (pa_cons (pv 12) pa_nil))))))))
    (pss_cons (ps_set (i := 13) sc_Ldecide.nd rfl (Or.inl rfl) pe_non)
    (Evl.pss_cut (ps_if (pt_cmpR op_eq (pv 8) (pv 2) (nomark _)) (pss_one (ps_set (i := 13) sc_Ldecide.nd rfl (Or.inl rfl) (pe_tup (pa_cons (pv 3) (pa_cons (pv 6) pa_nil))))) pss_nil)
    (pss_one (ps_expr (pe_bm PySem.F.plainAttrs_list PySem.F.slot_list_append PySem.F.type_list_append mt_append (pe_dget hu (pv 1) pe_str (fun _ _ => rfl)) (pa_cons (pe_tup (pa_cons (pv 8) (pa_cons (pe_tup (pa_cons pe_str (pa_cons (pe_callTy b_tuple (by rfl) T.b_tuple (by decide +kernel) (pa_cons (pv 9) pa_nil)) (pa_cons (pv 13) pa_nil)))) pa_nil))) pa_nil)))))))))
    (pss_cons (ps_dput hu (pv 1) pe_str pe_non rfl)
    (pss_one (ps_expr (pe_cl c_Llook (hr.mono (by first | decide | omega)) (by rfl) (pa_cons (pv 0) (pa_cons (pv 1) pa_nil)))))))))))
  · obtain ⟨x0, x1, rfl, h⟩ := h
    exact pu_Ldecide T h

theorem ct_len {S : Setup} {M : HM} (mo : M.Ok S) : M.ct.length ≤ S.sellers.toNat := by
  have h := List.Nodup.length_le_of_subset (l₁ := M.ct.map fun e : Int × List Int => e.1) (l₂ := (List.range S.sellers.toNat).map fun i : Nat => (i : Int)) (show (M.ct.map fun e : Int × List Int => e.1).Nodup from mo.cn) fun x hx => by
    obtain ⟨e, he, rfl⟩ := List.mem_map.mp hx
    have := mo.ck e he
    exact List.mem_map.mpr ⟨e.1.toNat, List.mem_range.mpr (by omega), by show ((e.1.toNat : Nat) : Int) = e.1; omega⟩
  rw [List.length_map, List.length_map, List.length_range] at h
  exact h
theorem pt_rowD (m : List (Int × List Int)) (s : Int) (cs : List Int) : pt (m.map fun e => (e.1, rowD e.2)) s (rowD cs) = (pt m s cs).map fun e => (e.1, rowD e.2) := by
  unfold pt
  have ha : ((m.map fun e => (e.1, rowD e.2)).any fun e => decide (e.1 = s)) = m.any fun e => decide (e.1 = s) := by rw [List.any_map]; rfl
  rw [ha]
  split
  · rw [List.map_map, List.map_map]
    refine List.map_congr_left fun x _ => ?_
    show (if x.1 = s then (x.1, rowD cs) else (x.1, rowD x.2)) = _
    by_cases q : x.1 = s
    · simp [q]
    · simp [q]
  · rw [List.map_append]; rfl
def P_Lhouse_handles (K : PySem.W.Frag) (A : Ad) (x0 x1 x2 x3 : V) (H : Hp) (Q : VK) : Prop := ∃ (h : HP) (S : Setup) (M : HM) (s : Int) (b : UpB), Da H x0 (setupD S) ∧ x1 = .ref h.p ∧ x2 = .int s ∧ Da H x3 (upD b) ∧ LawAt H h S M ∧ SetupOk S ∧ M.Ok S ∧ UpOk S M b ∧ 0 ≤ s ∧ s < S.sellers ∧ M.out.length ≤ 40000 ∧ M.qu.length ≤ 40000 ∧ (∀ r ∈ M.bk, r.length ≤ 40000) ∧ LRes H h S (M.handle S.sellers.toNat s b) fun H' => Q .non H'
def sp_Lhouse_handles (K : PySem.W.Frag) (A : Ad) : Sp := fun vs H Q _ => ∃ x0 x1 x2 x3, vs = [x0, x1, x2, x3] ∧ P_Lhouse_handles K A x0 x1 x2 x3 H Q
theorem c_Lhouse_handles {K : PySem.W.Frag} {A : Ad} {x0 x1 x2 x3 : V} {H : Hp} {Q : VK} {E : XK} (h : P_Lhouse_handles K A x0 x1 x2 x3 H Q) : sp_Lhouse_handles K A [x0, x1, x2, x3] H Q E := ⟨_, _, _, _, rfl, h⟩
theorem sc_Lhouse_handles : FnScope ["_law_setup_here", "_law_model", "_law_s", "_law_body", "_law_stock", "_law_lack_here", "_law_k"] ["_law_setup_here", "_law_model", "_law_s", "_law_body"] (defScope s_Lhouse_handles) := ⟨rfl, rfl, rfl, by decide +kernel, rfl, by decide +kernel, by decide +kernel⟩
def t_Lhouse_handles (K : PySem.W.Frag) (A : Ad) : TS :=
  (tSeq (tAsg (tDGet (tVar 1) (tC (.str "stock"))) (gName 4))
    (tIfS (tTest (tOp rEq (tOp (rIxT K) (tVar 3) (tC (.int 0))) (tC (.str "ask")))) (tSeq (tDrop (tBM K "list" rAppend (tDGet (tVar 1) (tC (.str "queue"))) (tCons (tOp (rCatT K) (tTup (tCons (tVar 2) tNil)) (tSl (rSlT K) (tVar 3) (tPart (tC (.int 1))) tNoPart)) tNil)))
    (tDrop (tCl (sp_Llook K A) (tCons (tVar 0) (tCons (tVar 1) tNil))))) (tIfS (tTest (tOp rEq (tOp (rIxT K) (tVar 3) (tC (.int 0))) (tC (.str "closed")))) (tSeq (tAsg (tOp (rIxT K) (tDGet (tVar 1) (tC (.str "round"))) (tC (.int 2))) (gName 5))
    (tSeq (tFor (iRng1 (tCons (tCB (rLenSq K) (tCons (tVar 5) tNil)) tNil)) (gName 6) (sDPut (tVar 4) (tOp (rIxT K) (tOp (rIxT K) (tVar 5) (tVar 6)) (tC (.int 0))) (tOp oAdd (tDGet (tVar 4) (tOp (rIxT K) (tOp (rIxT K) (tVar 5) (tVar 6)) (tC (.int 0)))) (tOp (rIxT K) (tOp (rIxT K) (tVar 3) (tC (.int 1))) (tVar 6)))))
    (tSeq (sDPut (tDGet (tVar 1) (tC (.str "counts"))) (tVar 2) (tOp (rIxT K) (tVar 3) (tC (.int 1))))
    (tIfS (tTest (tOp rEq (tCB rLenD (tCons (tDGet (tVar 1) (tC (.str "counts"))) tNil)) (tOp (rIxT K) (tVar 0) (tC (.int 2))))) (tDrop (tCl (sp_Ldecide K A) (tCons (tVar 0) (tCons (tVar 1) tNil)))) tNext)))) (tIfS (tTest (tOp rEq (tOp (rIxT K) (tVar 3) (tC (.int 0))) (tC (.str "back")))) (sDPut (tVar 4) (tSl (rSlT K) (tVar 3) (tPart (tC (.int 1))) tNoPart) (tOp oAdd (tDGet (tVar 4) (tSl (rSlT K) (tVar 3) (tPart (tC (.int 1))) tNoPart)) (tC (.int 1)))) (tDrop (tBM K "list" rAppend (tOp (rIxL K) (tDGet (tVar 1) (tC (.str "books"))) (tVar 2)) (tCons (tOp (rIxT K) (tVar 3) (tC (.int 1))) tNil)))))))
theorem pu_Lhouse_handles (T : Txt K mg A) {x0 x1 x2 x3 : V} {H : Hp} {Q : VK} (h : P_Lhouse_handles K A x0 x1 x2 x3 H Q) : t_Lhouse_handles K A { nx := fun _ H' => Q .non H', rt := Q } [some x0, some x1, some x2, some x3, none, none, none] H := by
  obtain ⟨h, S, M, s, b, dS, rfl, rfl, db, ⟨⟨rdv, e, c⟩, al⟩, so, mo, hb, hs0, hs1, hol, hql, hbl, k⟩ := h
  obtain ⟨sp, r, pp, prs, sa⟩ := SetAt.of dS
  cases sa.e
  have e0 := sa.t
  have nd := HNd.of al.1
  have hss1 := so.s1
  have hss2 := so.s2
  unfold t_Lhouse_handles
  cases b with
  | ask n l =>
    obtain ⟨p, ys, rfl, ep, _, q⟩ := db.tup1
    obtain ⟨x, y, z, rfl, dx', dy, dz⟩ := q.three
    cases dx'.str1
    cases dy.int1
    obtain ⟨iq, qs, eq, dq⟩ := id c.qu
    have hqsl : qs.length ≤ 50000 := by rw [dq.len, List.length_map]; omega
    walk_at "go"
    refine g_ite (fun q => ?_) (fun q => absurd rfl q)
    walk_at "go"
    rename_i t1 H1 n1 f1 e1 t2 H2 n2 f2 e2
    refine g_catT (xs := [.int s]) (ys := [.int n, z]) (SqT.of (f2.tup _ _ e1)) (SqT.of e2) (by simp) (Nat.le_of_ble_eq_true rfl) (fun q => by cases q) fun _ t3 H3 n3 f3 e3 => ?_
    have F3 : Fr [] H H3 := (f1.then0 f2).then0 f3
    have eq3 := F3.at0 eq
    walk_at "go"
    rename_i H4 f4 e4
    have da : Da H3 (.ref t3) (askD (s, n, l)) := .tup e3 (Nat.le_of_ble_eq_true rfl) (.cons (.int _) (.cons (.int _) (.one' (Da.frL F3 dz (imm_lack l)))))
    have c3 := c.fr F3 fun _ _ => nin0
    have q4 : LsAt H4 h.qu ((M.qu ++ [(s, n, l)]).map askD) := by
      rw [List.map_append]
      exact LsAt.snoc (DaL.frL F3 dq iq) iq da (imm_ask _) f4 e4
    have c4 : HCore H4 S h rdv { M with qu := M.qu ++ [(s, n, l)] } := c3.wqu nd f4 q4
    have ep4 := f4.at (F3.at0 e) (nin1 nd.p3 nin0)
    have al4 := al_put (al.fr0 F3) f4 e4
    walk_at "go"
    refine c_Llook ⟨h, S, { M with qu := M.qu ++ [(s, n, l)] }, Da.frL f4 (Da.frL F3 dS (imm_setup S)) (imm_setup S), rfl, ⟨⟨rdv, ep4, c4⟩, al4⟩, so, ⟨fun x hx => ?_, mo.rk, mo.cl, mo.ck, mo.cn, mo.bl⟩, by show M.out.length ≤ _; omega, ?_, ?_⟩
    · rcases List.mem_append.mp hx with q | q
      · exact mo.qk x q
      · rw [List.mem_singleton.mp q]; exact hb
    · show (M.qu ++ _).length ≤ _
      rw [List.length_append]; show M.qu.length + 1 ≤ _; omega
    · exact k.pre (F3.of0.transL (f4.mono fun x hx => by rw [List.mem_singleton.mp hx]; simp [HP.os]))
  | closed cs =>
    obtain ⟨p, ys, rfl, ep, _, q⟩ := db.tup1
    obtain ⟨x, y, rfl, dx', dy⟩ := q.two
    cases dx'.str1
    obtain ⟨cp, rfl, ecp⟩ := ints_at dy
    obtain ⟨a, hr, hcl⟩ := hb
    have drd := c.rd
    rw [hr] at drd
    obtain ⟨p0, l0, xs, rfl, ep0, el0, dxs⟩ := ask_at drd
    obtain ⟨hlk, hll⟩ := mo.rk a hr
    have il : immL (a.2.2.map fun e => (PyData.tuple [cellD e.1, .int e.2])) = true := immL_map (fun _ => rfl) _
    have hxl : xs.length = a.2.2.length := by rw [dxs.len, List.length_map]
    have hcl2 : (lackC a).length = a.2.2.length := by rw [List.length_map]
    walk_at "go"
    refine g_ite (fun q => absurd q (by decide)) (fun _ => ?_)
    walk_at "go"
    refine g_ite (fun q => ?_) (fun q => absurd rfl q)
    walk_at "go"
    refine f_range (lo := 0) (n := xs.length) (fun j σ H' => (∃ v6, σ = [some (.ref sp), some (.ref h.p), some (.int s), some (.ref p), some (.ref h.st), some (.ref l0), v6]) ∧ Fr [h.st] H H' ∧ H' h.st = some (.dT (cD (stT S (addZ M.st (((lackC a).zip cs).take j)))))) ⟨⟨_, rfl⟩, Fr.refl, c.st⟩ ?_ ?_
    · rintro j σ H2 hj ⟨⟨v6, rfl⟩, f2, s2⟩
      have hj1 : j < a.2.2.length := by omega
      have hx : xs[j]? = some xs[j] := List.getElem?_eq_getElem hj
      obtain ⟨y, b, ca, hy, hxe, eb, eca⟩ := lack_get (DaL.frL f2 dxs il) hx
      have hw : (lackC a)[j]? = some y.1 := by rw [List.getElem?_map, hy]; rfl
      have hm : cs[j]? = some cs[j] := List.getElem?_eq_getElem (by omega)
      have hwk := hlk y (List.mem_of_getElem? hy)
      have hzip := zip_get hw hm
      have el2 := f2.tup _ _ el0
      have ecp2 := f2.tup _ _ ecp
      have epp2 := f2.tup _ _ ep
      have hix : atI xs (0 + (j : Int)) = some (.ref b) := by rw [Int.zero_add]; exact atI_nat (by rw [hx, hxe])
      have him : atI (cs.map V.int) (0 + (j : Int)) = some (.int cs[j]) := by rw [Int.zero_add]; exact atI_nat (by rw [List.getElem?_map, hm]; rfl)
      rw [take_more hzip, addZ_snoc]
      generalize addZ M.st (((lackC a).zip cs).take j) = g at *
      generalize cs[j] = m at *
      walk_at "go"
      refine g_ixT (SqT.of el2) hix ?_
      walk_at "go"
      refine g_stG so hwk s2 eca ?_
      walk_at "go"
      refine g_ixT (SqT.of ecp2) him ?_
      walk_at "go"
      refine g_ixT (SqT.of el2) hix ?_
      walk_at "go"
      refine g_stD so hwk s2 eca fun H4 f4 e4 => ?_
      walk_at "go"
      exact ⟨⟨_, rfl⟩, f2.transL f4, e4⟩
    · rintro σ H2 ⟨⟨v6, rfl⟩, f2, s2⟩
      have hfull : ((lackC a).zip cs).take xs.length = (lackC a).zip cs := List.take_of_length_le (by rw [List.length_zip, hcl2, hxl, hcl]; omega)
      rw [hfull] at s2
      have c2 : HCore H2 S h (.ref p0) { M with st := addZ M.st ((lackC a).zip cs) } := c.wst nd f2 s2
      have e2 := f2.at e (nin1 nd.p1 nin0)
      have al2 := al_put al f2 s2
      have k2 := k.pre (f2.mono fun x hx => by rw [List.mem_singleton.mp hx]; simp [HP.os])
      have ecp2 := f2.tup _ _ ecp
      have ep2 := f2.tup _ _ ep
      have e02 := f2.tup _ _ e0
      have dS2 := Da.frL f2 dS (imm_setup S)
      clear k c al e f2 s2 ecp ep e0 dS sa db dy q
      obtain ⟨kvs, ek, rk⟩ := id c2.ct
      have hctl := ct_len mo
      have hkl : kvs.length = M.ct.length := by rw [rk.len, List.length_map]
      walk_at "go"
      refine g_rdpI ek (szM (by omega)) fun H3 f3 e3 => ?_
      have ct3 : DkAt H3 h.ct ((pt M.ct s cs).map fun e => (e.1, rowD e.2)) := by
        refine ⟨_, e3, ?_⟩
        rw [← pt_rowD]
        exact (rk.fr f3).put s (.tup (f3.tup _ _ ecp2) (by rw [List.length_map]; omega) (.ofInts cs)) (imm_row cs)
      have c3 : HCore H3 S h (.ref p0) { M with st := addZ M.st ((lackC a).zip cs), ct := pt M.ct s cs } := c2.wct nd f3 ct3
      have ep3 := f3.at e2 (nin1 nd.p4 nin0)
      have al3 := al_put al2 f3 e3
      have k3 := k2.pre (f3.mono fun x hx => by rw [List.mem_singleton.mp hx]; simp [HP.os])
      have hcm : M.handle S.sellers.toNat s (.closed cs) = if (pt M.ct s cs).length = S.sellers.toNat then HM.decide S.sellers.toNat { M with st := addZ M.st ((lackC a).zip cs), ct := pt M.ct s cs } else { M with st := addZ M.st ((lackC a).zip cs), ct := pt M.ct s cs } := by
        show HM.closed _ _ _ _ = _
        unfold HM.closed; rw [hr]
      rw [hcm] at k3
      have mo3 : HM.Ok S { M with st := addZ M.st ((lackC a).zip cs), ct := pt M.ct s cs } := by
        refine ⟨mo.qk, mo.rk, fun x hx e he => ?_, fun e he => ?_, mo.cn.pt _ _, mo.bl⟩
        · rcases pt_mem he with q | q
          · exact mo.cl x hx e q
          · rw [q]; rw [hr] at hx; cases hx; exact hcl
        · rcases pt_mem he with q | q
          · exact mo.ck e q
          · rw [q]; exact ⟨hs0, hs1⟩
      have e03 := f3.tup _ _ e02
      have dS3 := Da.frL f3 dS2 (imm_setup S)
      clear k2 c2 al2 e2 hcm ek rk f3
      obtain ⟨kvs3, ek3, rk3⟩ := id ct3
      walk_at "go"
      refine g_lenDK ek3 ?_
      walk_at "go"
      have hl3 : kvs3.length = (pt M.ct s cs).length := by rw [rk3.len, List.length_map]
      refine g_ite (fun q => ?_) (fun q => ?_)
      · have q' : (pt M.ct s cs).length = S.sellers.toNat := by omega
        rw [if_pos q'] at k3
        walk_at "go"
        exact c_Ldecide ⟨h, S, { M with st := addZ M.st ((lackC a).zip cs), ct := pt M.ct s cs }, a, dS3, rfl, ⟨⟨.ref p0, ep3, c3⟩, al3⟩, so, mo3, hr, q', by show M.out.length ≤ _; omega, by show M.qu.length ≤ _; omega, k3⟩
      · have q' : ¬ (pt M.ct s cs).length = S.sellers.toNat := by omega
        rw [if_neg q'] at k3
        walk_at "go"
        exact k3 h H3 rfl Fr.refl (fun a ha => .inl ha) ⟨⟨.ref p0, ep3, c3⟩, al3⟩
  | back w =>
    obtain ⟨p, ys, rfl, ep, _, q⟩ := db.tup1
    obtain ⟨x, y, z, rfl, dx', dy, dz⟩ := q.three
    cases dx'.str1
    cases dy.int1
    cases dz.int1
    have hw : CellOk S w := hb
    walk_at "go"
    refine g_ite (fun q => absurd q (by decide)) (fun _ => ?_)
    walk_at "go"
    refine g_ite (fun q => absurd q (by decide)) (fun _ => ?_)
    walk_at "go"
    refine g_ite (fun q => ?_) (fun q => absurd rfl q)
    walk_at "go"
    rename_i t H1 n1 f1 e1
    have c1 := c.fr f1 fun _ _ => nin0
    refine g_stG so hw c1.st e1 ?_
    walk_at "go"
    rename_i t2 H2 n2 f2 e2
    have c2 := c1.fr f2 fun _ _ => nin0
    refine g_stD so hw c2.st e2 fun H3 f3 e3 => ?_
    walk_at "go"
    exact LawAt.res (al.fr0 (f1.then0 f2)) (k.pre (f1.then0 f2).of0) f3 (by simp [HP.os]) e3 (f3.at (f2.at0 (f1.at0 e)) (nin1 nd.p1 nin0)) (c2.wst nd f3 e3)
  | entry r =>
    obtain ⟨p, ys, rfl, ep, _, q⟩ := db.tup1
    obtain ⟨x, y, rfl, dx', dy⟩ := q.two
    cases dx'.str1
    have hbsl : h.bs.length = S.sellers.toNat := (Paired.length c.bs).trans mo.bl
    have hsl : s.toNat < h.bs.length := by omega
    obtain ⟨bb, hbb⟩ : ∃ bb, h.bs[s.toNat]? = some bb := ⟨_, List.getElem?_eq_getElem hsl⟩
    obtain ⟨rows, hrows, lb⟩ := Paired.nth c.bs hbb
    obtain ⟨ib, vb, eb, dvb⟩ := id lb
    have hvl : vb.length ≤ 50000 := by
      rw [dvb.len, List.length_map]
      have := hbl rows (List.mem_of_getElem? hrows); omega
    have ixb : atI (h.bs.map V.ref) s = some (.ref bb) := by
      have := atI_nat (j := s.toNat) (show (h.bs.map V.ref)[s.toNat]? = some (.ref bb) by rw [List.getElem?_map, hbb]; rfl)
      rw [show ((s.toNat : Nat) : Int) = s by omega] at this
      exact this
    have ebk := c.bk
    walk_at "go"
    refine g_ite (fun q => absurd q (by decide)) (fun _ => ?_)
    walk_at "go"
    refine g_ite (fun q => absurd q (by decide)) (fun _ => ?_)
    walk_at "go"
    refine g_ite (fun q => absurd q (by decide)) (fun _ => ?_)
    walk_at "go"
    refine g_ixL (SqL.of c.bk) ixb ?_
    walk_at "go"
    rename_i H1 f1 e1
    have hgd : M.bk.getD s.toNat [] = rows := by rw [List.getD_eq_getElem?_getD, hrows]; rfl
    have l1 : LsAt H1 bb ((rows ++ [r]).map rowB) := by
      rw [List.map_append]
      exact LsAt.snoc dvb ib dy (imm_rowB r) f1 e1
    have c1 := c.wbs nd hbb f1 l1
    have kk : M.handle S.sellers.toNat s (.entry r) = { M with bk := M.bk.set s.toNat (rows ++ [r]) } := by
      show ({ M with bk := M.bk.set s.toNat (M.bk.getD s.toNat [] ++ [r]) } : HM) = _
      rw [hgd]
    rw [kk] at k
    exact LawAt.res al k f1 (by simp [HP.os, List.mem_of_getElem? hbb]) e1 (f1.at e (nin1 (fun z => nd.b0 (by rw [z]; exact List.mem_of_getElem? hbb)) nin0)) c1
theorem ok_Lhouse_handles {f : Addr} {fd : FuncData} (F : Fun K "_law_house_handles" "_law_house_handles" s_Lhouse_handles f fd) (T : Txt K mg A) (c_Llook : Cal P w K mg base "_law_look" 1 ["_law_setup_here", "_law_model"] (sp_Llook K A)) (c_Ldecide : Cal P w K mg base "_law_decide" 2 ["_law_setup_here", "_law_model"] (sp_Ldecide K A)) : FnOk P w K mg base CX0 (3) f fd ["_law_setup_here", "_law_model", "_law_s", "_law_body"] (sp_Lhouse_handles K A) := by
  refine F.ok sc_Lhouse_handles (fun vs H Q E h => ?_) (fun cdv Ar outer s H vs Q E hr h => ⟨t_Lhouse_handles K A, ?_, ?_⟩)
  · obtain ⟨x0, x1, x2, x3, rfl, _⟩ := h
    rfl
  · have hu := hu_of hr
    exact (pss_cons (ps_set (i := 4) sc_Lhouse_handles.nd rfl (Or.inl rfl) (pe_dget hu (pv 1) pe_str (fun _ _ => rfl)))
    (pss_one (ps_if (pt_cmpR op_eq (pe_ix ix_tup (pv 3) pe_int (fun _ _ => rfl)) pe_str (nomark _)) (pss_cons (ps_expr (pe_bm PySem.F.plainAttrs_list PySem.F.slot_list_append PySem.F.type_list_append mt_append (pe_dget hu (pv 1) pe_str (fun _ _ => rfl)) (pa_cons (pe_op op_catT (pe_tup (pa_cons (pv 2) pa_nil)) (pe_slice sl_tup (pv 3) (po_some pe_int) po_none)) pa_nil)))
    (pss_one (ps_expr (pe_cl c_Llook (hr.mono (by first | decide | omega)) (by rfl) (pa_cons (pv 0) (pa_cons (pv 1) pa_nil)))))) (pss_one (ps_if (pt_cmpR op_eq (pe_ix ix_tup (pv 3) pe_int (fun _ _ => rfl)) pe_str (nomark _)) (pss_cons (ps_set (i := 5) sc_Lhouse_handles.nd rfl (Or.inl rfl) (pe_ix ix_tup (pe_dget hu (pv 1) pe_str (fun _ _ => rfl)) pe_int (fun _ _ => rfl)))
    (pss_cons (ps_for PassesOwn.never rfl (pi_range1 rfl T.b_range (pa_cons (pe_callB b_len (by rfl) T.b_len (by decide +kernel) (pa_cons (pv 5) pa_nil)) pa_nil)) (pg_name (i := 6) sc_Lhouse_handles.nd rfl (Or.inl rfl)) (pss_one (ps_dput hu (pv 4) (pe_ix ix_tup (pe_ix ix_tup (pv 5) (pv 6) (fun _ _ => rfl)) pe_int (fun _ _ => rfl)) (pe_op o_add (pe_dget hu (pv 4) (pe_ix ix_tup (pe_ix ix_tup (pv 5) (pv 6) (fun _ _ => rfl)) pe_int (fun _ _ => rfl)) (fun _ _ => rfl)) (pe_ix ix_tup (pe_ix ix_tup (pv 3) pe_int (fun _ _ => rfl)) (pv 6) (fun _ _ => rfl))) rfl)))
    (pss_cons (ps_dput hu (pe_dget hu (pv 1) pe_str (fun _ _ => rfl)) (pv 2) (pe_ix ix_tup (pv 3) pe_int (fun _ _ => rfl)) rfl)
    (pss_one (ps_if (pt_cmpR op_eq (pe_callB b_lenD (by rfl) T.b_len (by decide +kernel) (pa_cons (pe_dget hu (pv 1) pe_str (fun _ _ => rfl)) pa_nil)) (pe_ix ix_tup (pv 0) pe_int (fun _ _ => rfl)) (nomark _)) (pss_one (ps_expr (pe_cl c_Ldecide (hr.mono (by first | decide | omega)) (by rfl) (pa_cons (pv 0) (pa_cons (pv 1) pa_nil))))) pss_nil))))) (pss_one (ps_if (pt_cmpR op_eq (pe_ix ix_tup (pv 3) pe_int (fun _ _ => rfl)) pe_str (nomark _)) (pss_one (ps_dput hu (pv 4) (pe_slice sl_tup (pv 3) (po_some pe_int) po_none) (pe_op o_add (pe_dget hu (pv 4) (pe_slice sl_tup (pv 3) (po_some pe_int) po_none) (fun _ _ => rfl)) pe_int) rfl)) (pss_one (ps_expr (pe_bm PySem.F.plainAttrs_list PySem.F.slot_list_append PySem.F.type_list_append mt_append (pe_ix ix_list (pe_dget hu (pv 1) pe_str (fun _ _ => rfl)) (pv 2) (fun _ _ => rfl)) (pa_cons (pe_ix ix_tup (pv 3) pe_int (fun _ _ => rfl)) pa_nil)))))))))))
  · obtain ⟨x0, x1, x2, x3, rfl, h⟩ := h
    exact pu_Lhouse_handles T h
/-! ### the two houses are alike -/
def P_Lsame_stock (K : PySem.W.Frag) (A : Ad) (x0 x1 : V) (H : Hp) (Q : VK) : Prop := ∃ (a b : Addr) (m : List (Cell × Int)), x0 = .ref a ∧ x1 = .ref b ∧ H a = some (.dT (cD m)) ∧ H b = some (.dT (cD m)) ∧ a ≠ b ∧ Nd m ∧ ∀ H', Fr [] H H' → Q (.bl true) H'
def sp_Lsame_stock (K : PySem.W.Frag) (A : Ad) : Sp := fun vs H Q _ => ∃ x0 x1, vs = [x0, x1] ∧ P_Lsame_stock K A x0 x1 H Q
theorem c_Lsame_stock {K : PySem.W.Frag} {A : Ad} {x0 x1 : V} {H : Hp} {Q : VK} {E : XK} (h : P_Lsame_stock K A x0 x1 H Q) : sp_Lsame_stock K A [x0, x1] H Q E := ⟨_, _, rfl, h⟩
theorem sc_Lsame_stock : FnScope ["_law_told", "_law_stock", "_law_one"] ["_law_told", "_law_stock"] (defScope s_Lsame_stock) := ⟨rfl, rfl, rfl, by decide +kernel, rfl, by decide +kernel, by decide +kernel⟩
def t_Lsame_stock (K : PySem.W.Frag) (A : Ad) : TS :=
  (tSeq (tIfS (tOr (tNot (tB (tCB (rIsi K) (tCons (tVar 0) (tCons (tC (.ty "dict")) tNil))))) (tTest (tOp rNe (tCB rLenT (tCons (tVar 0) tNil)) (tCB rLenT (tCons (tVar 1) tNil))))) (tRet (tC (.bl false))) tNext)
    (tSeq (tLock (tFor (iKeys (tVar 1)) (gName 2) (tIfS (tNot (tB (tCl (sp_Lequal K A 12) (tCons (tDGet1 (tVar 0) (tVar 2)) (tCons (tDGet (tVar 1) (tVar 2)) tNil))))) (tRet (tC (.bl false))) tNext)))
    (tRet (tC (.bl true)))))
theorem pu_Lsame_stock (T : Txt K mg A) {x0 x1 : V} {H : Hp} {Q : VK} (h : P_Lsame_stock K A x0 x1 H Q) : t_Lsame_stock K A { nx := fun _ H' => Q .non H', rt := Q } [some x0, some x1, none] H := by
  obtain ⟨a, b, m, rfl, rfl, ea, eb, nab, nm, k⟩ := h
  unfold t_Lsame_stock
  walk_at "go"
  refine g_lenDT ea ?_
  walk_at "go"
  refine g_lenDT eb ?_
  walk_at "go"
  refine g_iteN (fun q => absurd rfl q) (fun _ => ?_)
  walk_at "go"
  refine g_lock eb trivial trivial fun od H2 f2 e2 => ?_
  have ea2 := f2.at ea (nin1 nab nin0)
  walk_at "go"
  refine f_keysT (kvs := cD m) (fun i σ H' => (∃ v2, σ = [some (.ref a), some (.ref b), v2]) ∧ Fr [] H2 H') ⟨⟨_, rfl⟩, Fr.refl⟩ (fun i σ H' _ ⟨_, f⟩ => f.at0 e2) ?_ ?_
  · rintro i kk v q σ H3 hi hq ⟨⟨v2, rfl⟩, f3⟩
    obtain ⟨e, he, rfl, rfl⟩ := cD_get hi
    have hv : valV (cD m) (ck e.1) = some (.int e.2) := by rw [val_cell, lk_mem nm (List.mem_of_getElem? he)]; rfl
    have ea3 := f3.at0 ea2
    walk_at "go"
    refine g_dgo (k := ck e.1) (.inl ea3) hq ?_
    rw [hv]
    walk_at "go"
    refine g_rdg (k := ck e.1) (v := .int e.2) (.inr ⟨_, f3.at0 e2⟩) hq hv ?_
    walk_at "go"
    refine c_Lequal ⟨.int e.2, .int _, .int _, by simp [dp], ?_⟩
    walk_at "go"
    exact ⟨⟨_, rfl⟩, f3⟩
  · rintro σ H3 ⟨⟨v2, rfl⟩, f3⟩
    refine g_unl (f3.at0 e2) fun H4 f4 e4 => ?_
    walk_at "go"
    exact k H4 (((f2.then0 f3).transL f4).back eb e4)
theorem ok_Lsame_stock {f : Addr} {fd : FuncData} (F : Fun K "_law_same_stock" "_law_same_stock" s_Lsame_stock f fd) (T : Txt K mg A) (c_Lequal : Cal P w K mg base "_law_equal" 25 ["_law_actual", "_law_due"] (sp_Lequal K A 12)) : FnOk P w K mg base CX0 (26) f fd ["_law_told", "_law_stock"] (sp_Lsame_stock K A) := by
  refine F.ok sc_Lsame_stock (fun vs H Q E h => ?_) (fun cdv Ar outer s H vs Q E hr h => ⟨t_Lsame_stock K A, ?_, ?_⟩)
  · obtain ⟨x0, x1, rfl, _⟩ := h
    rfl
  · have hu := hu_of hr
    exact (pss_cons (ps_if (PW.pt (pw_or (pt_not (pt_val (pe_callB call_isi (by rfl) T.b_isinstance (by decide +kernel) (pa_cons (pv 0) (pa_cons (pe_bltn (by rfl) T.b_dict (by decide +kernel) (v := .ty "dict") rfl) pa_nil))))) (pw_or1 (pt_cmpR op_ne (pe_callB call_len_dT (by rfl) T.b_len (by decide +kernel) (pa_cons (pv 0) pa_nil)) (pe_callB call_len_dT (by rfl) T.b_len (by decide +kernel) (pa_cons (pv 1) pa_nil)) (nomark _))))) (pss_one (ps_ret pe_bl)) pss_nil)
    (pss_cons (ps_lock (ps_for PassesOwn.never rfl (pi_keys (pv 1)) (pg_name (i := 2) sc_Lsame_stock.nd rfl (Or.inl rfl)) (pss_one (ps_if (pt_not (pt_val (pe_cl c_Lequal (hr.mono (by first | decide | omega)) (by rfl) (pa_cons (pe_dget1 hu (pv 0) (pv 2) ⟨rfl, rfl, rfl, rfl⟩) (pa_cons (pe_dget hu (pv 1) (pv 2) (fun _ _ => rfl)) pa_nil))))) (pss_one (ps_ret pe_bl)) pss_nil))))
    (pss_one (ps_ret pe_bl))))
  · obtain ⟨x0, x1, rfl, h⟩ := h
    exact pu_Lsame_stock T h
theorem dp_lack (l : Lack) : dpL (l.map fun e => (PyData.tuple [cellD e.1, .int e.2])) ≤ 2 := dpL_le fun d hd => by
  obtain ⟨e, _, rfl⟩ := List.mem_map.mp hd
  simp [cellD, dp, dpL]
theorem dp_ask (a : Ask) : dp (askD a) ≤ 5 := by
  have := dp_lack a.2.2
  simp only [askD, lackD, dp, dpL]; omega
theorem dp_party (p : List Stay) : dp (partyD p) ≤ 4 := by
  have : dpL (p.map stayD) ≤ 3 := dpL_le fun d hd => by obtain ⟨s, _, rfl⟩ := List.mem_map.mp hd; simp [stayD, dp, dpL]
  simp only [partyD, dp]; omega
theorem dp_rowB (r : Row) : dp (rowB r) ≤ 6 := by
  cases r with
  | sold n p a b => have := dp_party p; simp only [rowB, dp, dpL]; omega
  | cancelled n a b => simp [rowB, dp, dpL]
  | changed n p a b c d => have := dp_party p; simp only [rowB, dp, dpL]; omega
theorem dp_ints (r : List Int) : dp (rowD r) ≤ 1 := by
  have : dpL (r.map PyData.int) ≤ 0 := dpL_le fun d hd => by obtain ⟨s, _, rfl⟩ := List.mem_map.mp hd; simp [dp]
  simp only [rowD, dp]; omega
theorem dp_cells (l : List Cell) : dp (cellsD l) ≤ 2 := by
  have : dpL (l.map cellD) ≤ 1 := dpL_le fun d hd => by obtain ⟨s, _, rfl⟩ := List.mem_map.mp hd; simp [cellD, dp, dpL]
  simp only [cellsD, dp]; omega
theorem dp_dn (b : DnB) : dp (dnD b) ≤ 4 := by
  cases b with
  | give c => simp [dnD, dp, dpL]
  | close cs => have := dp_cells cs; simp only [dnD, dp, dpL]; omega
  | opn cs an =>
    have := dp_ints cs
    cases an with
    | none => simp only [dnD, ansD, dp, dpL]; omega
    | some a => simp only [dnD, ansD, dp, dpL]; omega
  | want c => simp [dnD, dp, dpL]
theorem dp_out (e : Int × DnB) : dp (outD e) ≤ 5 := by
  have := dp_dn e.2
  simp only [outD, dp, dpL]; omega
theorem dpL_map {α : Type} {f : α → PyData} {n : Nat} (h : ∀ x, dp (f x) ≤ n) (l : List α) : dpL (l.map f) ≤ n := dpL_le fun d hd => by obtain ⟨x, _, rfl⟩ := List.mem_map.mp hd; exact h x
def bksD (m : List (List Row)) : List PyData := m.map fun r => .list (r.map rowB)
theorem bks_da {H : Hp} {bs : List Addr} {m : List (List Row)} (h : BksAt H bs m) (hl : ∀ r ∈ m, r.length ≤ 1000000) : DaL H (bs.map V.ref) (bksD m) := by
  unfold bksD
  induction h with
  | nil => exact .nil
  | cons r t ih => exact .cons (r.da (by rw [List.length_map]; exact hl _ List.mem_cons_self)) (ih fun x hx => hl x (List.mem_cons_of_mem _ hx))
def P_Lsame_house (K : PySem.W.Frag) (A : Ad) (x0 x1 : V) (H : Hp) (Q : VK) : Prop := ∃ (h g : HP) (S : Setup) (M : HM), x0 = .ref h.p ∧ x1 = .ref g.p ∧ HouseAt A H h S M ∧ LawAt H g S M ∧ h.st ≠ g.st ∧ SetupOk S ∧ M.Ok S ∧ M.qu.length ≤ 40000 ∧ (∀ r ∈ M.bk, r.length ≤ 40000) ∧ ∀ H', Fr [] H H' → Q (.bl true) H'
def sp_Lsame_house (K : PySem.W.Frag) (A : Ad) : Sp := fun vs H Q _ => ∃ x0 x1, vs = [x0, x1] ∧ P_Lsame_house K A x0 x1 H Q
theorem c_Lsame_house {K : PySem.W.Frag} {A : Ad} {x0 x1 : V} {H : Hp} {Q : VK} {E : XK} (h : P_Lsame_house K A x0 x1 H Q) : sp_Lsame_house K A [x0, x1] H Q E := ⟨_, _, rfl, h⟩
theorem sc_Lsame_house : FnScope ["_law_house_here", "_law_model", "_law_book"] ["_law_house_here", "_law_model"] (defScope s_Lsame_house) := ⟨rfl, rfl, rfl, by decide +kernel, rfl, by decide +kernel, by decide +kernel⟩
def t_Lsame_house (K : PySem.W.Frag) (A : Ad) : TS :=
  (tSeq (tIfS (tOr (tNot (tB (tCl (sp_Lsame_stock K A) (tCons (tFld K (tVar 0) "stock") (tCons (tDGet (tVar 1) (tC (.str "stock"))) tNil))))) (tNot (tB (tCl (sp_Lequal K A 12) (tCons (tFld K (tVar 0) "round") (tCons (tDGet (tVar 1) (tC (.str "round"))) tNil)))))) (tRet (tC (.bl false))) tNext)
    (tSeq (tIfS (tNot (tB (tCl (sp_Lequal K A 12) (tCons (tLst (tCons (tCB (rListOf K) (tCons (tFld K (tVar 0) "queue") tNil)) (tCons (tLc (iList K (tFld K (tVar 0) "books")) (gName 2) tYes (tCB (rListOf K) (tCons (tVar 2) tNil)) [2]) tNil))) (tCons (tLst (tCons (tDGet (tVar 1) (tC (.str "queue"))) (tCons (tDGet (tVar 1) (tC (.str "books"))) tNil))) tNil))))) (tRet (tC (.bl false))) tNext)
    (tRet (tC (.bl true)))))
theorem pu_Lsame_house (T : Txt K mg A) {x0 x1 : V} {H : Hp} {Q : VK} (h : P_Lsame_house K A x0 x1 H Q) : t_Lsame_house K A { nx := fun _ H' => Q .non H', rt := Q } [some x0, some x1, none] H := by
  obtain ⟨h, g, S, M, rfl, rfl, ⟨⟨dx, rdv, e, c⟩, al⟩, ⟨⟨rdv2, e2, c2⟩, al2⟩, nst, so, mo, hql, hbl, k⟩ := h
  have e' : H h.p = some (.ins A.House dx [("sellers", .int S.sellers), ("stock", .ref h.st), ("books", .ref h.bk), ("queue", .ref h.qu), ("round", rdv), ("counts", .ref h.ct), ("outgoing", .ref h.out)]) := e
  have hss2 := so.s2
  have hbsl : h.bs.length = S.sellers.toNat := (Paired.length c.bs).trans mo.bl
  have hgsl : g.bs.length = S.sellers.toNat := (Paired.length c2.bs).trans mo.bl
  unfold t_Lsame_house
  walk_at "go"
  refine c_Lsame_stock ⟨h.st, g.st, stT S M.st, rfl, rfl, c.st, c2.st, nst, tab_nd (cells_nd S) M.st, fun H1 f1 => ?_⟩
  have c1 := c.fr f1 fun _ _ => nin0
  have c21 := c2.fr f1 fun _ _ => nin0
  have e1 := f1.at0 e'
  have e21 := f1.at0 e2
  walk_at "go"
  refine c_Lequal ⟨roundD M.rd, c1.rd, c21.rd, ?_, ?_⟩
  · cases M.rd with
    | none => simp [roundD, dp]
    | some a => have := dp_ask a; show dp (askD a) ≤ 12; omega
  obtain ⟨iq, qs, eq, dq⟩ := id c1.qu
  have hqsl : qs.length ≤ 50000 := by rw [dq.len, List.length_map]; omega
  have ebk := c1.bk
  walk_at "go"
  rename_i q1 H2 n2 f2 e3
  have ebk2 := f2.at0 ebk
  have bs2 := BksAt.fr c1.bs f2 fun _ _ => nin0
  refine l_list (xs := h.bs.map V.ref) fun Dl H3 nD f3 e4 => ⟨fun i acc H' => DaL H' acc ((bksD M.bk).take i) ∧ Fr [] H2 H', ⟨.nil, f3⟩, fun i acc H' q => SqL.of (q.2.at0 ebk2), fun i x acc H' hx ha ⟨da, f⟩ => ?_, fun acc H' ha ⟨da, f⟩ => ?_⟩
  · rw [List.getElem?_map] at hx
    cases hb : h.bs[i]? with
    | none => rw [hb] at hx; cases hx
    | some b =>
      rw [hb] at hx
      cases hx
      obtain ⟨rows, hr, lb⟩ := Paired.nth bs2 hb
      obtain ⟨ib, vb, eb, dvb⟩ := lb.fr f nin0
      have hvl : vb.length ≤ 50000 := by
        rw [dvb.len, List.length_map]
        have := hbl rows (List.mem_of_getElem? hr); omega
      have hac : acc.length ≤ 1000 := by
        have hi := (List.getElem?_eq_some_iff.mp hb).1
        rw [da.len, List.length_take]; omega
      walk_at "go"
      refine ⟨rfl, ?_⟩
      walk_at "go"
      rename_i q2 H4 n4 f4 e5
      refine lcY_of (f4.at0 ha) (szM (by omega)) fun H5 f5 e6 => ⟨?_, (f.then0 f4).own1 f5 nD⟩
      have hr2 : (bksD M.bk)[i]? = some (.list (rows.map rowB)) := by unfold bksD; rw [List.getElem?_map, hr]; rfl
      rw [take_more hr2]
      -- the lists made so far are not immutable data: they stand untouched
      have keep : ∀ {vs : List V} {ds : List PyData}, DaL H' vs ds → (∀ d ∈ ds, ∃ r : List Row, d = .list (r.map rowB)) → (∀ v ∈ vs, v ≠ .ref Dl) → DaL H5 vs ds := by
        intro vs
        induction vs with
        | nil => intro ds h _ _; cases h; exact .nil
        | cons v vs ih =>
          intro ds h hd hv
          cases h with
          | @cons _ _ d ds dv dvs =>
          refine .cons ?_ (ih dvs (fun d hd' => hd d (List.mem_cons_of_mem _ hd')) fun v hv' => hv v (List.mem_cons_of_mem _ hv'))
          obtain ⟨r, rfl⟩ := hd d List.mem_cons_self
          obtain ⟨a, xs, rfl, ea, hl, dx⟩ := dv.lst1
          have na : a ≠ Dl := fun z => hv _ List.mem_cons_self (by rw [z])
          have ir : immL (r.map rowB) = true := immL_map imm_rowB r
          exact .lst (f5.at (f4.at0 ea) (nin1 na nin0)) hl (DaL.frL f5 (DaL.frL f4 dx ir) ir)
      have nq : q2 ≠ Dl := (ne_of_none ha n4).symm
      refine (keep da (fun d hd => ?_) fun v hv z => ?_).append (.one' (.lst (f5.at e5 (nin1 nq nin0)) (by omega) (DaL.frL f5 (DaL.frL f4 dvb ib) ib)))
      · obtain ⟨r, _, rfl⟩ := List.mem_map.mp (List.mem_of_mem_take hd)
        exact ⟨r, rfl⟩
      · -- the list itself is none of its items
        subst z
        obtain ⟨j, hj⟩ := List.mem_iff_getElem?.mp hv
        obtain ⟨d, hd, dd⟩ := da.get hj
        obtain ⟨r, _, rfl⟩ := List.mem_map.mp (List.mem_of_mem_take (List.mem_of_getElem? hd))
        obtain ⟨a, xs, ea, el, _, dx⟩ := dd.lst1
        cases ea
        rw [ha] at el
        cases el
        obtain ⟨d2, hd2, dd2⟩ := dx.get hj
        obtain ⟨r2, _, rfl⟩ := List.mem_map.mp (List.mem_of_getElem? hd2)
        cases r2 with
        | sold => obtain ⟨a, xs, ea, el, _⟩ := dd2.tup1; cases ea; rw [ha] at el; cases el
        | cancelled => obtain ⟨a, xs, ea, el, _⟩ := dd2.tup1; cases ea; rw [ha] at el; cases el
        | changed => obtain ⟨a, xs, ea, el, _⟩ := dd2.tup1; cases ea; rw [ha] at el; cases el
  · have ht : (bksD M.bk).take (h.bs.map V.ref).length = bksD M.bk := List.take_of_length_le (by unfold bksD; rw [List.length_map, List.length_map, hbsl, mo.bl]; exact Nat.le_refl _)
    rw [ht] at da
    have hal : acc.length ≤ 1000 := by rw [da.len]; unfold bksD; rw [List.length_map, mo.bl]; omega
    walk_at "go"
    rename_i w H6 n6 f6 e6 w2 H7 n7 f7 e7
    have F7 : Fr [] H2 H7 := (f.then0 f6).then0 f7
    have c7 := c21.fr (f2.then0 F7) fun _ _ => nin0
    -- data that stands stays while nothing that stood is written
    have stay : ∀ {Ha Hb : Hp}, Fr [] Ha Hb → ∀ {vs : List V} {rs : List (List Row)}, DaL Ha vs (bksD rs) → DaL Hb vs (bksD rs) := by
      intro Ha Hb fab vs
      induction vs with
      | nil => intro rs h; cases rs with
        | nil => exact .nil
        | cons r rs => cases h
      | cons v vs ih =>
        intro rs h
        cases rs with
        | nil => cases h
        | cons r rs =>
          cases h with
          | cons dv dvs =>
            refine .cons ?_ (ih dvs)
            obtain ⟨a, xs, rfl, ea, hl, dx⟩ := Da.lst1 dv
            exact .lst (fab.at0 ea) hl (DaL.frL fab dx (immL_map imm_rowB r))
    have d1 : Da H7 (.ref w) (.list [.list (M.qu.map askD), .list (bksD M.bk)]) :=
      .lst (f7.at0 e6) (Nat.le_of_ble_eq_true rfl) (.cons (.lst (F7.at0 e3) (by omega) (DaL.frL F7 (DaL.frL f2 dq iq) iq)) (.one' (.lst ((f6.then0 f7).at0 ha) (by omega) (stay (f6.then0 f7) da))))
    have d2 : Da H7 (.ref w2) (.list [.list (M.qu.map askD), .list (bksD M.bk)]) :=
      .lst e7 (Nat.le_of_ble_eq_true rfl) (.cons (c7.qu.da (by rw [List.length_map]; omega)) (.one' (.lst c7.bk (by rw [List.length_map]; omega) (bks_da c7.bs fun r hr => by have := hbl r hr; omega))))
    have hdp : dp (.list [.list (M.qu.map askD), .list (bksD M.bk)]) ≤ 12 := by
      have h1 := dpL_map dp_ask M.qu
      have h2 : dpL (bksD M.bk) ≤ 7 := dpL_le fun d hd => by
        obtain ⟨r, _, rfl⟩ := List.mem_map.mp hd
        have := dpL_map dp_rowB r
        simp only [dp]; omega
      simp only [dp, dpL]; omega
    refine c_Lequal ⟨_, d1, d2, hdp, ?_⟩
    walk_at "go"
    exact k H7 ((f1.then0 f2).then0 F7)
theorem ok_Lsame_house {f : Addr} {fd : FuncData} (F : Fun K "_law_same_house" "_law_same_house" s_Lsame_house f fd) (T : Txt K mg A) (c_Lequal : Cal P w K mg base "_law_equal" 25 ["_law_actual", "_law_due"] (sp_Lequal K A 12)) (c_Lsame_stock : Cal P w K mg base "_law_same_stock" 26 ["_law_told", "_law_stock"] (sp_Lsame_stock K A)) : FnOk P w K mg base CX0 (27) f fd ["_law_house_here", "_law_model"] (sp_Lsame_house K A) := by
  refine F.ok sc_Lsame_house (fun vs H Q E h => ?_) (fun cdv Ar outer s H vs Q E hr h => ⟨t_Lsame_house K A, ?_, ?_⟩)
  · obtain ⟨x0, x1, rfl, _⟩ := h
    rfl
  · have hu := hu_of hr
    exact (pss_cons (ps_if (PW.pt (pw_or (pt_not (pt_val (pe_cl c_Lsame_stock (hr.mono (by first | decide | omega)) (by rfl) (pa_cons (pe_fld (pv 0) rfl) (pa_cons (pe_dget hu (pv 1) pe_str (fun _ _ => rfl)) pa_nil))))) (pw_or1 (pt_not (pt_val (pe_cl c_Lequal (hr.mono (by first | decide | omega)) (by rfl) (pa_cons (pe_fld (pv 0) rfl) (pa_cons (pe_dget hu (pv 1) pe_str (fun _ _ => rfl)) pa_nil)))))))) (pss_one (ps_ret pe_bl)) pss_nil)
    (pss_cons (ps_if (pt_not (pt_val (pe_cl c_Lequal (hr.mono (by first | decide | omega)) (by rfl) (pa_cons (pe_lst (pa_cons (pe_callTy b_list (by rfl) T.b_list (by decide +kernel) (pa_cons (pe_fld (pv 0) rfl) pa_nil)) (pa_cons (pe_lc (own := [("_law_book", 2)]) (g := (gName 2)) (tt := tYes) rfl sc_Lsame_house.nd (pi_list (pe_fld (pv 0) rfl)) (blkOk_by (N := ["_law_house_here", "_law_model", "_law_book"]) (sc := defScope s_Lsame_house) (own := [("_law_book", 2)]) (by decide +kernel)) (fun _ _ _ _ _ => (pg_name (i := 2) sc_Lsame_house.nd rfl (Or.inl rfl))) (fun _ _ _ _ _ => pts_nil) (fun _ _ _ _ _ => (pe_callTy b_list (by rfl) T.b_list (by decide +kernel) (pa_cons (pv 2) pa_nil)))) pa_nil))) (pa_cons (pe_lst (pa_cons (pe_dget hu (pv 1) pe_str (fun _ _ => rfl)) (pa_cons (pe_dget hu (pv 1) pe_str (fun _ _ => rfl)) pa_nil))) pa_nil))))) (pss_one (ps_ret pe_bl)) pss_nil)
    (pss_one (ps_ret pe_bl))))
  · obtain ⟨x0, x1, rfl, h⟩ := h
    exact pu_Lsame_house T h
def P_Lsame_out (K : PySem.W.Frag) (A : Ad) (x0 x1 : V) (H : Hp) (Q : VK) : Prop := ∃ (h g : HP) (S : Setup) (M : HM) (rest : List Addr), x0 = .ref h.p ∧ x1 = .ref g.p ∧ HouseAt A H h S M ∧ LawAt H g S M ∧ AL H (h.os ++ (g.os ++ rest)) ∧ M.out.length ≤ 50000 ∧
  ∀ (h' : HP) (H' : Hp), h'.p = h.p → Fr (h.os ++ g.os) H H' → AL H' (h'.os ++ (g.os ++ rest)) → HouseAt A H' h' S { M with out := [] } → LawAt H' g S { M with out := [] } → Q (.bl true) H'
def sp_Lsame_out (K : PySem.W.Frag) (A : Ad) : Sp := fun vs H Q _ => ∃ x0 x1, vs = [x0, x1] ∧ P_Lsame_out K A x0 x1 H Q
theorem c_Lsame_out {K : PySem.W.Frag} {A : Ad} {x0 x1 : V} {H : Hp} {Q : VK} {E : XK} (h : P_Lsame_out K A x0 x1 H Q) : sp_Lsame_out K A [x0, x1] H Q E := ⟨_, _, rfl, h⟩
theorem sc_Lsame_out : FnScope ["_law_house_here", "_law_model", "_law_due"] ["_law_house_here", "_law_model"] (defScope s_Lsame_out) := ⟨rfl, rfl, rfl, by decide +kernel, rfl, by decide +kernel, by decide +kernel⟩
def t_Lsame_out (K : PySem.W.Frag) (A : Ad) : TS :=
  (tSeq (tAsg (tCB (rListOf K) (tCons (tDGet (tVar 1) (tC (.str "out"))) tNil)) (gName 2))
    (tSeq (tDrop (tBM0 K "list" rClear (tDGet (tVar 1) (tC (.str "out")))))
    (tRet (tCl (sp_Lequal K A 12) (tCons (tMt A.House "bodies" (sp_House_bodies K A) (tVar 0) tNil) (tCons (tVar 2) tNil))))))
theorem pu_Lsame_out (T : Txt K mg A) {x0 x1 : V} {H : Hp} {Q : VK} (h : P_Lsame_out K A x0 x1 H Q) : t_Lsame_out K A { nx := fun _ H' => Q .non H', rt := Q } [some x0, some x1, none] H := by
  obtain ⟨h, g, S, M, rest, rfl, rfl, ho, ⟨⟨rdv2, e2, c2⟩, al2⟩, al, hol, k⟩ := h
  have ng := HNd.of al2.1
  obtain ⟨io, os, eo, dox⟩ := id c2.out
  have hosl : os.length ≤ 60000 := by rw [dox.len, List.length_map]; omega
  unfold t_Lsame_out
  walk_at "go"
  rename_i due H1 n1 f1 e1
  have eo1 := f1.at0 eo
  walk_at "go"
  refine g_clear eo1 fun H2 f2 e3 => ?_
  have F2 : Fr [g.out] H H2 := f2.pre0' f1
  have apart : ∀ a ∈ h.os, a ∉ g.os := fun a ha hg => (List.nodup_append.mp al.1).2.2 a ha a (List.mem_append_left _ hg) rfl
  have gout : g.out ∈ g.os := by simp [HP.os]
  have gp : g.p ∈ g.os := by simp [HP.os]
  have ho2 : HouseAt A H2 h S M := ho.fr F2 fun a ha => nin1 (fun z => apart a ha (z ▸ gout)) nin0
  have ndue : due ∉ h.os ++ (g.os ++ rest) := al.nin n1
  have nd1 : due ≠ g.out := fun z => ndue (by rw [z]; exact List.mem_append_right _ (List.mem_append_left _ gout))
  have la2 : LawAt H2 g S { M with out := [] } := by
    have c2' := c2.fr f1 fun _ _ => nin0
    exact ⟨⟨rdv2, f2.at (f1.at0 e2) (nin1 ng.p5 nin0), c2'.wout ng f2 (LsAt.nil e3)⟩, al_put (al2.fr0 f1) f2 e3⟩
  have al2' : AL H2 (h.os ++ (g.os ++ rest)) := al_put (al.fr0 f1) f2 e3
  have ed2 := f2.at e1 (nin1 nd1 nin0)
  walk_at "go"
  obtain ⟨⟨dxh, rdh, eh, ch⟩, alh⟩ := id ho2
  refine g_rmt eh rfl ?_
  walk_at "go"
  refine c_House_bodies ⟨h, S, M, rfl, ho2, fun o H3 n3 f3 ho3 lo3 => ?_⟩
  walk_at "go"
  have hp : h.p ∈ h.os := by simp [HP.os]
  have ndp : due ≠ h.p := fun z => ndue (by rw [z]; exact List.mem_append_left _ hp)
  have i1 : Da H3 (.ref h.out) (.list (M.out.map outD)) := lo3.da (by rw [List.length_map]; omega)
  have i2 : Da H3 (.ref due) (.list (M.out.map outD)) := .lst (f3.at ed2 (nin1 ndp nin0)) (by omega) (DaL.frL f3 (DaL.frL F2 dox io) io)
  have hdp : dp (.list (M.out.map outD)) ≤ 12 := by
    have := dpL_map dp_out M.out
    simp only [dp]; omega
  refine c_Lequal ⟨_, i1, i2, hdp, ?_⟩
  have al3 := al2'.part (os' := HP.os { h with out := o }) (f3.mono fun x hx => by rw [List.mem_singleton.mp hx]; exact hp) ho3.2 fun a ha => by
    have ha' : a = h.p ∨ a = h.st ∨ a = h.bk ∨ a = h.qu ∨ a = h.ct ∨ a = o ∨ a ∈ h.bs := by simpa [HP.os] using ha
    rcases ha' with z | z | z | z | z | z | z
    · exact .inl (by rw [z]; simp [HP.os])
    · exact .inl (by rw [z]; simp [HP.os])
    · exact .inl (by rw [z]; simp [HP.os])
    · exact .inl (by rw [z]; simp [HP.os])
    · exact .inl (by rw [z]; simp [HP.os])
    · exact .inr (by rw [z]; exact n3)
    · exact .inl (by simp [HP.os, z])
  refine k { h with out := o } H3 rfl ((F2.mono fun x hx => by rw [List.mem_singleton.mp hx]; exact List.mem_append_right _ gout).transL (f3.mono fun x hx => by rw [List.mem_singleton.mp hx]; exact List.mem_append_left _ hp)) al3 ho3 ?_
  exact la2.fr f3 fun a ha => nin1 (fun z => apart h.p hp (z ▸ ha)) nin0
theorem ok_Lsame_out {f : Addr} {fd : FuncData} (F : Fun K "_law_same_out" "_law_same_out" s_Lsame_out f fd) (T : Txt K mg A) (c_Lequal : Cal P w K mg base "_law_equal" 25 ["_law_actual", "_law_due"] (sp_Lequal K A 12)) (c_House_bodies : CalM P w K mg base A.House "bodies" 1 ["self"] (sp_House_bodies K A)) : FnOk P w K mg base CX0 (26) f fd ["_law_house_here", "_law_model"] (sp_Lsame_out K A) := by
  refine F.ok sc_Lsame_out (fun vs H Q E h => ?_) (fun cdv Ar outer s H vs Q E hr h => ⟨t_Lsame_out K A, ?_, ?_⟩)
  · obtain ⟨x0, x1, rfl, _⟩ := h
    rfl
  · have hu := hu_of hr
    exact (pss_cons (ps_set (i := 2) sc_Lsame_out.nd rfl (Or.inl rfl) (pe_callTy b_list (by rfl) T.b_list (by decide +kernel) (pa_cons (pe_dget hu (pv 1) pe_str (fun _ _ => rfl)) pa_nil)))
    (pss_cons (ps_expr (pe_bm0 PySem.F.plainAttrs_list PySem.F.slot_list_clear PySem.F.type_list_clear mt_clear (pe_dget hu (pv 1) pe_str (fun _ _ => rfl))))
    (pss_one (ps_ret (pe_cl c_Lequal (hr.mono (by first | decide | omega)) (by rfl) (pa_cons (pe_mt0 (pv 0) T.cl_House c_House_bodies (hr.mono (by first | decide | omega))) (pa_cons (pv 2) pa_nil)))))))
  · obtain ⟨x0, x1, rfl, h⟩ := h
    exact pu_Lsame_out T h

/-! ### lacks are drawn -/
def csN (m : List (Cell × Int)) : List (List Int) := m.map fun e => [e.1.1, e.1.2]
theorem csN_keys (m : List (Cell × Int)) : (cD m).map (·.1) = (csN m).map fun c => c.map Sum.inl := by
  show (m.map fun e => (ck e.1, V.int e.2)).map (·.1) = _
  unfold csN
  rw [List.map_map, List.map_map]; rfl
theorem csN_alike (m : List (Cell × Int)) : PySem.W.AllAlike ((csN m).map intsD) := fun d hd d' hd' => by
  obtain ⟨c, hc, rfl⟩ := List.mem_map.mp hd
  obtain ⟨c', hc', rfl⟩ := List.mem_map.mp hd'
  obtain ⟨e, _, rfl⟩ := List.mem_map.mp hc
  obtain ⟨e', _, rfl⟩ := List.mem_map.mp hc'
  rfl
theorem csN_sortable (m : List (Cell × Int)) : PySem.W.Sortable ((csN m).map intsD) := .inl fun d hd => by
  obtain ⟨c, hc, rfl⟩ := List.mem_map.mp hd
  obtain ⟨e, _, rfl⟩ := List.mem_map.mp hc
  exact ⟨_, _, rfl⟩
theorem csN_small (m : List (Cell × Int)) : ∀ c ∈ csN m, (intsD c).depth ≤ 60 ∧ c.length ≤ 1000000 := fun c hc => by
  obtain ⟨e, _, rfl⟩ := List.mem_map.mp hc
  simp [intsD, PyData.depth, PyData.depthAll]
theorem csN_get {m : List (Cell × Int)} {H : Hp} {ys : List V} (dy : DaL H ys (srt ((csN m).map intsD))) {z : Nat} {v : V} (h : ys[z]? = some v) : ∃ (t : Addr) (e : Cell × Int), e ∈ m ∧ v = .ref t ∧ H t = some (.tup [.int e.1.1, .int e.1.2]) := by
  obtain ⟨d, hd, dd⟩ := dy.get h
  obtain ⟨c, hc, rfl⟩ := List.mem_map.mp ((srt_perm _).mem_iff.mp (List.mem_of_getElem? hd))
  obtain ⟨e, he, rfl⟩ := List.mem_map.mp hc
  obtain ⟨t, xs, rfl, et, _, q⟩ := dd.tup1
  obtain ⟨x, y, rfl, dx, dy⟩ := q.two
  cases dx.int1
  cases dy.int1
  exact ⟨t, e, he, rfl, et⟩
theorem imm_csN (m : List (Cell × Int)) : immL (srt ((csN m).map intsD)) = true := immL_of fun d hd => by
  obtain ⟨c, _, rfl⟩ := List.mem_map.mp ((srt_perm _).mem_iff.mp hd)
  exact immL_map (fun _ => rfl) c
theorem needs_le {S : Setup} (so : SetupOk S) {ss : List Stay} (ok : ∀ s ∈ ss, StayOk S s) : (needsL ss).length ≤ 36 := by
  have h := List.Nodup.length_le_of_subset (l₁ := (needsL ss).map fun e : Cell × Int => e.1) (l₂ := cellsAll S) (needs_nd ss) fun c hc => by
    obtain ⟨e, he, rfl⟩ := List.mem_map.mp hc
    exact (mem_cells so.n1).mpr (cell_ok so ok he)
  rw [List.length_map, cells_len] at h
  have h1 := so.k3
  have h2 := so.n2
  exact Nat.le_trans h (Nat.le_trans (Nat.mul_le_mul h1 (show S.nights.toNat ≤ 12 by omega)) (by decide))
def P_Llack (K : PySem.W.Frag) (A : Ad) (x0 x1 : V) (H : Hp) (Q : VK) : Prop := ∃ (d l : Addr) (S : Setup), x0 = .ref d ∧ Draws H d l ∧ SetupOk S ∧ Da H x1 (setupD S) ∧
  ∀ (v : V) (k : Lack) (H' : Hp), LackOk S k → Da H' v (lackD k) → Fr [d] H H' → Draws H' d l → Q v H'
def sp_Llack (K : PySem.W.Frag) (A : Ad) : Sp := fun vs H Q _ => ∃ x0 x1, vs = [x0, x1] ∧ P_Llack K A x0 x1 H Q
theorem c_Llack {K : PySem.W.Frag} {A : Ad} {x0 x1 : V} {H : Hp} {Q : VK} {E : XK} (h : P_Llack K A x0 x1 H Q) : sp_Llack K A [x0, x1] H Q E := ⟨_, _, rfl, h⟩
theorem sc_Llack : FnScope ["_law_draws", "_law_setup_here", "_law_needs_here", "_law_cell"] ["_law_draws", "_law_setup_here"] (defScope s_Llack) := ⟨rfl, rfl, rfl, by decide +kernel, rfl, by decide +kernel, by decide +kernel⟩
def t_Llack (K : PySem.W.Frag) (A : Ad) : TS :=
  (tSeq (tAsg (tCl (sp_Lneeds K A) (tCons (tCl (sp_Lparty K A) (tCons (tVar 0) (tCons (tVar 1) tNil))) tNil)) (gName 2))
    (tRet (tCB (rTupOf K) (tCons (tLc (iList K (tCB rSortedDT (tCons (tVar 2) tNil))) (gName 3) tYes (tTup (tCons (tVar 3) (tCons (tDGet (tVar 2) (tVar 3)) tNil))) [3]) tNil))))
theorem pu_Llack (T : Txt K mg A) {x0 x1 : V} {H : Hp} {Q : VK} (h : P_Llack K A x0 x1 H Q) : t_Llack K A { nx := fun _ H' => Q .non H', rt := Q } [some x0, some x1, none, none] H := by
  obtain ⟨d, l, S, rfl, D0, so, dS, k⟩ := h
  unfold t_Llack
  walk_at "go"
  refine c_Lparty ⟨d, l, S, rfl, D0, so, dS, fun pv ps H1 po dp1 f1 D1 => ?_⟩
  obtain ⟨pa, xs, rfl, ep, _, dxs⟩ := id dp1.tup1
  walk_at "go"
  refine c_Lneeds ⟨pa, xs, ps, rfl, ep, dxs, SmallSt.of so po.ok, Nat.le_trans po.l4 (by decide), fun nt H2 n2 f2 e2 => ?_⟩
  have D2 := D1.fr f2 nin0 nin0
  have hnl := needs_le so po.ok
  walk_at "go"
  refine g_sortedDT (csN (needsL ps)) e2 (csN_keys _) (csN_alike _) (csN_sortable _) (csN_small _) fun p H3 ys n3 f3 e3 dy => ?_
  have hyl : ys.length = (needsL ps).length := by rw [dy.len, (srt_perm _).length_eq, List.length_map]; unfold csN; rw [List.length_map]
  have e23 := f3.at0 e2
  walk_at "go"
  refine l_list (xs := ys) fun Dl H4 nD f4 e4 => ⟨fun i acc H' => ∃ lk : Lack, lk.length = i ∧ (∀ e ∈ lk, CellOk S e.1) ∧ DaL H' acc (lk.map fun e => .tuple [cellD e.1, .int e.2]) ∧ Fr [] H3 H', ⟨[], rfl, fun _ q => (nomatch q), .nil, f4⟩, fun i acc H' ⟨_, _, _, _, f⟩ => SqL.of (f.at0 e3), fun i x acc H' hx ha ⟨lk, hl, ho, da, f⟩ => ?_, fun acc H' ha ⟨lk, hl, ho, da, f⟩ => ?_⟩
  · obtain ⟨t, e, he, rfl, et⟩ := csN_get (DaL.frL f dy (imm_csN _)) hx
    have hi := (List.getElem?_eq_some_iff.mp hx).1
    have hac : acc.length ≤ 100 := by rw [da.len, List.length_map]; omega
    have e2' := f.at0 e23
    walk_at "go"
    refine ⟨rfl, ?_⟩
    walk_at "go"
    refine g_rdg (k := ck e.1) (v := .int e.2) (.inl e2') et (by rw [val_cell, lk_mem (needs_nd ps) he]; rfl) ?_
    walk_at "go"
    rename_i q H5 n5 f5 e5
    refine lcY_of (f5.at0 ha) (szM (by omega)) fun H6 f6 e6 => ⟨lk ++ [e], by rw [List.length_append, hl]; rfl, fun x hx' => ?_, ?_, (f.then0 f5).own1 f6 nD⟩
    · rcases List.mem_append.mp hx' with q | q
      · exact ho x q
      · rw [List.mem_singleton.mp q]; exact cell_ok so po.ok he
    · rw [List.map_append]
      have il : immL (lk.map fun e => (PyData.tuple [cellD e.1, .int e.2])) = true := immL_map (fun _ => rfl) _
      exact (DaL.frL f6 (DaL.frL f5 da il) il).append (.one' (.tup (f6.tup _ _ e5) (Nat.le_of_ble_eq_true rfl) (.cons (.tup (f6.tup _ _ (f5.tup _ _ et)) (Nat.le_of_ble_eq_true rfl) (.cons (.int _) (.one' (.int _)))) (.one' (.int _)))))
  · have hac : acc.length ≤ 100 := by rw [da.len, List.length_map]; omega
    walk_at "go"
    rename_i t H5 n5 f5 e5
    have il : immL (lk.map fun e => (PyData.tuple [cellD e.1, .int e.2])) = true := immL_map (fun _ => rfl) _
    have F : Fr [] H1 H5 := ((f2.then0 f3).then0 f).then0 f5
    exact k _ lk H5 ⟨ho, by omega⟩ (.tup e5 (by omega) (DaL.frL f5 da il)) (f1.then0 F) (D1.fr F nin0 nin0)
theorem ok_Llack {f : Addr} {fd : FuncData} (F : Fun K "_law_lack" "_law_lack" s_Llack f fd) (T : Txt K mg A) (c_Lneeds : Cal P w K mg base "_law_needs" 1 ["_law_party_here"] (sp_Lneeds K A)) (c_Lparty : Cal P w K mg base "_law_party" 4 ["_law_draws", "_law_setup_here"] (sp_Lparty K A)) : FnOk P w K mg base CX0 (5) f fd ["_law_draws", "_law_setup_here"] (sp_Llack K A) := by
  refine F.ok sc_Llack (fun vs H Q E h => ?_) (fun cdv Ar outer s H vs Q E hr h => ⟨t_Llack K A, ?_, ?_⟩)
  · obtain ⟨x0, x1, rfl, _⟩ := h
    rfl
  · have hu := hu_of hr
    exact (pss_cons (ps_set (i := 2) sc_Llack.nd rfl (Or.inr rfl) (pe_cl c_Lneeds (hr.mono (by first | decide | omega)) (by rfl) (pa_cons (pe_cl c_Lparty (hr.mono (by first | decide | omega)) (by rfl) (pa_cons (pv 0) (pa_cons (pv 1) pa_nil))) pa_nil)))
    (pss_one (ps_ret (pe_callTy b_tuple (by rfl) T.b_tuple (by decide +kernel) (pa_cons (pe_lc (own := [("_law_cell", 3)]) (g := (gName 3)) (tt := tYes) rfl sc_Llack.nd (pi_list (pe_callB (b_sortedDT rfl hr.units) (by rfl) T.b_sorted (by decide +kernel) (pa_cons (pv 2) pa_nil))) (blkOk_by (N := ["_law_draws", "_law_setup_here", "_law_needs_here", "_law_cell"]) (sc := defScope s_Llack) (own := [("_law_cell", 3)]) (by decide +kernel)) (fun _ _ _ _ _ => (pg_name (i := 3) sc_Llack.nd rfl (Or.inl rfl))) (fun _ _ _ _ _ => pts_nil) (fun _ _ _ _ _ => (pe_tup (pa_cons (pv 3) (pa_cons (pe_dget hu (pv 2) (pv 3) (fun _ _ => rfl)) pa_nil))))) pa_nil)))))
  · obtain ⟨x0, x1, rfl, h⟩ := h
    exact pu_Llack T h
/-! ### what the sellers hold -/
def HeldAt (H : Hp) (a : Addr) (N : Nat) : Prop := ∃ kvs, NkAt H a kvs ∧ (∀ e ∈ kvs, ∃ z : Int, e.2 = V.int z) ∧ kvs.length ≤ N
theorem HeldAt.fr {l : List Addr} {H H' : Hp} {a : Addr} {N : Nat} (h : HeldAt H a N) (f : Fr l H H') (n : a ∉ l) : HeldAt H' a N := by
  obtain ⟨kvs, h1, h2, h3⟩ := h
  exact ⟨kvs, h1.fr f n, h2, h3⟩
theorem held_get {kvs : List (NestedKey × V)} (h : ∀ e ∈ kvs, ∃ z : Int, e.2 = V.int z) (k : NestedKey) : ∃ z : Int, (lk kvs k).getD (.int 0) = .int z ∧ (z ≠ 0 → lk kvs k = some (.int z)) := by
  cases q : lk kvs k with
  | none => exact ⟨0, rfl, fun z => absurd rfl z⟩
  | some v =>
    obtain ⟨z, e⟩ := h _ (lk_some q)
    have e' : v = .int z := e
    exact ⟨z, by rw [e']; rfl, fun _ => by rw [e']⟩
theorem held_put {H : Hp} {a : Addr} {kvs : List (NestedKey × V)} {k : NestedKey} {z : Int} {N : Nat} (n : NkAt H a (pt kvs k (.int z))) (h : ∀ e ∈ kvs, ∃ z : Int, e.2 = V.int z) (hl : kvs.length ≤ N) : HeldAt H a (N + 1) :=
  ⟨_, n, fun e he => (pt_mem he).elim (h e) fun q => ⟨z, by rw [q]⟩, Nat.le_trans (pt_len _ _ _) (Nat.succ_le_succ hl)⟩
theorem some_left {S : Setup} {M : HM} (mo : M.Ok S) (h : M.ct.length < S.sellers.toNat) : ∃ x : Nat, x < S.sellers.toNat ∧ lk M.ct (x : Int) = none := by
  refine Classical.byContradiction fun no => ?_
  have hall : ∀ x : Nat, x < S.sellers.toNat → (x : Int) ∈ M.ct.map fun e : Int × List Int => e.1 := fun x hx => by
    cases q : lk M.ct (x : Int) with
    | none => exact absurd ⟨x, hx, q⟩ no
    | some v => exact List.mem_map.mpr ⟨_, lk_some q, rfl⟩
  have nd : ((List.range S.sellers.toNat).map fun i : Nat => (i : Int)).Nodup := by
    refine List.Pairwise.map _ (fun a b (q : a ≠ b) z => q (Int.ofNat.inj z)) List.nodup_range
  have := List.Nodup.length_le_of_subset nd fun x hx => by
    obtain ⟨i, hi, rfl⟩ := List.mem_map.mp hx
    exact hall i (List.mem_range.mp hi)
  rw [List.length_map, List.length_map, List.length_range] at this
  omega
def P_Lclosed (K : PySem.W.Frag) (A : Ad) (x0 x1 x2 x3 : V) (H : Hp) (Q : VK) : Prop := ∃ (d l hd : Addr) (g : HP) (S : Setup) (M : HM) (a : Ask) (N : Nat), x0 = .ref d ∧ x2 = .ref g.p ∧ x3 = .ref hd ∧ Draws H d l ∧ SetupOk S ∧ Da H x1 (setupD S) ∧ LawAt H g S M ∧ M.Ok S ∧ M.rd = some a ∧ M.ct.length < S.sellers.toNat ∧ HeldAt H hd N ∧ N ≤ 900000 ∧ AL H (g.os ++ [hd, d, l]) ∧
  ∀ (p b : Addr) (s : Int) (cs : List Int) (H' : Hp), H p = none → Fr [d, hd] H H' → Draws H' d l → HeldAt H' hd (N + 36) → H' p = some (.lst [.int s, .ref b]) → Da H' (.ref b) (upD (.closed cs)) → cs.length = a.2.2.length → 0 ≤ s → s < S.sellers → Q (.ref p) H'
def sp_Lclosed (K : PySem.W.Frag) (A : Ad) : Sp := fun vs H Q _ => ∃ x0 x1 x2 x3, vs = [x0, x1, x2, x3] ∧ P_Lclosed K A x0 x1 x2 x3 H Q
theorem c_Lclosed {K : PySem.W.Frag} {A : Ad} {x0 x1 x2 x3 : V} {H : Hp} {Q : VK} {E : XK} (h : P_Lclosed K A x0 x1 x2 x3 H Q) : sp_Lclosed K A [x0, x1, x2, x3] H Q E := ⟨_, _, _, _, rfl, h⟩
theorem sc_Lclosed : FnScope ["_law_draws", "_law_setup_here", "_law_model", "_law_held", "_law_left", "_law_s", "_law_counts", "_law_pair", "_law_x"] ["_law_draws", "_law_setup_here", "_law_model", "_law_held"] (defScope s_Lclosed) := ⟨rfl, rfl, rfl, by decide +kernel, rfl, by decide +kernel, by decide +kernel⟩
def t_Lclosed (K : PySem.W.Frag) (A : Ad) : TS :=
  (tSeq (tAsg (tLc (iRng1 (tCons (tOp (rIxT K) (tVar 1) (tC (.int 2))) tNil)) (gName 8) (tB (tDNotIn (tVar 8) (tDGet (tVar 2) (tC (.str "counts"))))) (tVar 8) [8]) (gName 4))
    (tSeq (tAsg (tOp (rIxL K) (tVar 4) (tOp oMod (tCl (sp_Ldraw K A) (tCons (tVar 0) tNil)) (tCB (rLenSq K) (tCons (tVar 4) tNil)))) (gName 5))
    (tSeq (tAsg (tLst tNil) (gName 6))
    (tSeq (tFor (iTup K (tOp (rIxT K) (tDGet (tVar 2) (tC (.str "round"))) (tC (.int 2)))) (gName 7) (tSeq (tDrop (tBM K "list" rAppend (tVar 6) (tCons (tNGet2 (tVar 3) (tTup (tCons (tVar 5) (tCons (tOp (rIxT K) (tVar 7) (tC (.int 0))) tNil))) (tC (.int 0))) tNil)))
    (sNPut (tVar 3) (tTup (tCons (tVar 5) (tCons (tOp (rIxT K) (tVar 7) (tC (.int 0))) tNil))) (tC (.int 0)))))
    (tRet (tLst (tCons (tVar 5) (tCons (tTup (tCons (tC (.str "closed")) (tCons (tCB (rTupOf K) (tCons (tVar 6) tNil)) tNil))) tNil))))))))
theorem pu_Lclosed (T : Txt K mg A) {x0 x1 x2 x3 : V} {H : Hp} {Q : VK} (h : P_Lclosed K A x0 x1 x2 x3 H Q) : t_Lclosed K A { nx := fun _ H' => Q .non H', rt := Q } [some x0, some x1, some x2, some x3, none, none, none, none, none] H := by
  obtain ⟨d, l, hd, g, S, M, a, N, rfl, rfl, rfl, D0, so, dS, ⟨⟨rdv, e, c⟩, al0⟩, mo, hr, hlt, he, hN, al, k⟩ := h
  obtain ⟨sp, r, pp, prs, sa⟩ := SetAt.of dS
  cases sa.e
  have e0 := sa.t
  have ng := HNd.of al0.1
  have hs1 := so.s1
  have hs2 := so.s2
  have drd := c.rd
  rw [hr] at drd
  obtain ⟨p0, l0, xs, rfl, ep0, el0, dxs⟩ := ask_at drd
  obtain ⟨hlk, hll⟩ := mo.rk a hr
  have il : immL (a.2.2.map fun e => (PyData.tuple [cellD e.1, .int e.2])) = true := immL_map (fun _ => rfl) _
  have hxl : xs.length = a.2.2.length := by rw [dxs.len, List.length_map]
  obtain ⟨kvs, ek, rk⟩ := id c.ct
  have nodup := al.1
  have ndg : ∀ x ∈ g.os, x ∉ [d, hd] := fun x hx => by
    have h3 := (List.nodup_append.mp nodup).2.2 x hx
    exact nin1 (h3 d (by simp)) (nin1 (h3 hd (by simp)) nin0)
  have hdd : hd ≠ d ∧ hd ≠ l ∧ d ≠ l := by
    have := (List.nodup_append.mp nodup).2.1
    simp only [List.nodup_cons, List.mem_cons, not_or, List.not_mem_nil, not_false_eq_true, and_true, List.nodup_nil] at this
    exact ⟨this.1.1, this.1.2, this.2⟩
  unfold t_Lclosed
  walk_at "go"
  refine l_range (lo := 0) (n := S.sellers.toNat) fun Dl H1 nD f1 e1 => ⟨fun i acc H' => ∃ zs : List Int, acc = zs.map V.int ∧ (∀ z ∈ zs, 0 ≤ z ∧ z < S.sellers) ∧ ((∃ x : Nat, x < i ∧ lk M.ct (x : Int) = none) → zs ≠ []) ∧ zs.length ≤ i ∧ Fr [] H H', ⟨[], rfl, fun _ q => (nomatch q), fun ⟨x, hx, _⟩ => absurd hx (Nat.not_lt_zero _), Nat.le_refl _, f1⟩, fun i acc H' hi ha ⟨zs, ea, hz, hne, hl, f⟩ => ?_, fun acc H' ha ⟨zs, ea, hz, hne, hl, f⟩ => ?_⟩
  · have eg := f.at0 e
    have ek' := f.at0 ek
    walk_at "go"
    refine ⟨rfl, ?_⟩
    walk_at "go"
    refine g_rdniI (.inl ek') ?_
    rw [(rk.fr f).isS]
    have hlm : (lk (M.ct.map fun e => (e.1, rowD e.2)) (0 + (i : Int))).isSome = (lk M.ct (i : Int)).isSome := by
      rw [Int.zero_add, ← lk_any2, ← lk_any2, List.any_map]; rfl
    rw [hlm]
    cases q : lk M.ct (i : Int) with
    | none =>
      walk_at "go"
      refine g_iteT ?_
      walk_at "go"
      have hal : acc.length ≤ 100 := by rw [ea, List.length_map]; omega
      refine lcY_of ha (szM (by omega)) fun H2 f2 e2 => ⟨zs ++ [(i : Int)], by rw [ea, List.map_append, Int.zero_add]; rfl, fun z hz' => ?_, fun _ => by simp, by rw [List.length_append]; exact Nat.succ_le_succ hl, f.own1 f2 nD⟩
      rcases List.mem_append.mp hz' with w | w
      · exact hz z w
      · rw [List.mem_singleton.mp w]; omega
    | some v =>
      walk_at "go"
      refine g_iteF ?_
      walk_at "go"
      refine lcN_of ha ⟨zs, ea, hz, fun ⟨x, hx, hn⟩ => ?_, by omega, f⟩
      rcases Nat.lt_succ_iff_lt_or_eq.mp hx with w | w
      · exact hne ⟨x, w, hn⟩
      · rw [w, q] at hn; cases hn
  · have hne' := hne (some_left mo hlt)
    have hpos : 0 < zs.length := List.length_pos_iff.mpr hne'
    have D1 := D0.fr f nin0 nin0
    have eg := f.at0 e
    rw [ea] at ha
    walk_at "go"
    rename_i y H2 y0 y1 f2 D2
    have nDd : Dl ≠ d := (D0.new1 nD).symm
    have ha2 := f2.at ha (nin1 nDd nin0)
    have hpos' : (0 : Int) < ((zs.map V.int).length : Nat) := by rw [List.length_map]; omega
    walk_at "go"
    have m0 := Int.emod_nonneg y (show (((zs.map V.int).length : Nat) : Int) ≠ 0 by omega)
    have m1 := Int.emod_lt_of_pos y hpos'
    obtain ⟨v, hv, hv2⟩ := atI_of (xs := zs.map V.int) m0 m1
    obtain ⟨s, rfl, hs, hsm⟩ := getI hv2
    refine g_ixL (SqL.of ha2) hv ?_
    have hsr := hz s hsm
    have F2 : Fr [d] H H2 := f2.pre0' f
    have gd : ∀ x ∈ g.os, x ∉ [d] := fun x hx => nin1 (fun z => ndg x hx (by rw [z]; simp)) nin0
    have eg2 := F2.at e (gd _ (by simp [HP.os]))
    have el2 := F2.tup _ _ el0
    have ep2 := F2.tup _ _ ep0
    have dxs2 := DaL.frL F2 dxs il
    have he2 : HeldAt H2 hd N := he.fr F2 (nin1 hdd.1 nin0)
    clear eg ha ha2 hv hv2 f nD f1 e1 hne hz hl ea
    walk_at "go"
    rename_i cl H3 n3 f3 e3
    have eg3 := f3.at0 eg2
    have el3 := f3.tup _ _ el2
    have ep3 := f3.tup _ _ ep2
    have dxs3 := DaL.frL f3 dxs2 il
    have he3 := he2.fr f3 nin0
    have D3 := D2.fr f3 nin0 nin0
    have nch : cl ≠ hd := fun z => by
      obtain ⟨kv, ⟨_, _, xs', q, _⟩, _⟩ := he2
      rw [z, q] at n3; cases n3
    have ncd : cl ≠ d := (D2.new1 n3).symm
    have ncl : cl ≠ l := (D2.new2 n3).symm
    have nclH : H cl = none := F2.freeL n3 (nin1 ncd nin0)
    walk_at "go"
    refine f_tup (xs := xs) (fun i σ H' => (∃ v7, σ = [some (.ref d), some (.ref sp), some (.ref g.p), some (.ref hd), some (.ref Dl), some (.int s), some (.ref cl), v7, none]) ∧ Fr [cl, hd] H3 H' ∧ HeldAt H' hd (N + i) ∧ ∃ cs : List Int, H' cl = some (.lst (cs.map V.int)) ∧ cs.length = i) ⟨⟨_, rfl⟩, Fr.refl, he3, [], e3, rfl⟩ (fun i σ H' _ ⟨_, f, _⟩ => SqT.of (f.tup _ _ el3)) ?_ ?_
    · rintro i x σ H4 hx ⟨⟨v7, rfl⟩, f4, ⟨kv4, hk4, hz4, hl4⟩, cs, ec4, hcl4⟩
      obtain ⟨y, b, cc, hy, rfl, eb, ec⟩ := lack_get (DaL.frL f4 dxs3 il) hx
      have hi := (List.getElem?_eq_some_iff.mp hx).1
      walk_at "go"
      refine g_rng2 hk4 ?_
      walk_at "go"
      rename_i t H5 n5 f5 e5
      have hk5 := hk4.fr f5 nin0
      refine g_ngo (nk12 s y.1) hk5 (nk12_key e5 (f5.tup _ _ ec)) ?_
      obtain ⟨z, hz, _⟩ := held_get hz4 (nk12 s y.1)
      rw [hz]
      have ec5 := f5.at0 ec4
      have hcl5 : cs.length ≤ 100 := by omega
      walk_at "go"
      rename_i H6 f6 e6 t2 H7 n7 f7 e7
      have hk6 := hk5.fr f6 (nin1 nch.symm nin0)
      have ec6 := f6.tup _ _ (f5.tup _ _ ec)
      have hk7 := hk6.fr f7 nin0
      refine g_rnp (nk12 s y.1) hk7 (nk12_key e7 (f7.tup _ _ ec6)) (szM (by omega)) fun H8 f8 hk8 => ?_
      walk_at "go"
      refine ⟨⟨_, rfl⟩, ?_, held_put hk8 hz4 hl4, cs ++ [z], ?_, by rw [List.length_append, hcl4]; rfl⟩
      · exact (((f4.then0 f5).transL (f6.mono fun x hx => by rw [List.mem_singleton.mp hx]; simp)).then0 f7).transL (f8.mono fun x hx => by rw [List.mem_singleton.mp hx]; simp)
      · rw [f8.at (f7.at0 e6) (nin1 nch nin0), List.map_append]; rfl
    · rintro σ H4 ⟨⟨v7, rfl⟩, f4, he4, cs, ec4, hcl4⟩
      have hcl5 : cs.length ≤ 100 := by omega
      have hml : (cs.map V.int).length ≤ 100 := by rw [List.length_map]; exact hcl5
      walk_at "go"
      rename_i tc H5 n5 f5 e5 b H6 n6 f6 e6 p H7 n7 f7 e7
      have F7 : Fr [] H4 H7 := (f5.then0 f6).then0 f7
      have F34 : Fr [d, hd] H H4 := ((F2.mono (fun x hx => by rw [List.mem_singleton.mp hx]; simp) : Fr [d, hd] H H2).then0 f3).own f4 fun x hx => by
        rcases List.mem_cons.mp hx with q | q
        · rw [q]; exact .inr nclH
        · rw [List.mem_singleton.mp q]; exact .inl (by simp)
      have D4 : Draws H4 d l := D3.fr f4 (nin1 ncd.symm (nin1 hdd.1.symm nin0)) (nin1 ncl.symm (nin1 hdd.2.1.symm nin0))
      have he7 : HeldAt H7 hd (N + 36) := by
        obtain ⟨kv, h1, h2, h3⟩ := he4.fr F7 nin0
        exact ⟨kv, h1, h2, by omega⟩
      have npH : H p = none := by
        have q6 : H4 p = none := (f5.then0 f6).free n7
        refine F34.freeL q6 (nin1 (fun z => ?_) (nin1 (fun z => ?_) nin0))
        · exact D4.new1 q6 z.symm
        · obtain ⟨kv, ⟨_, _, xs', q, _⟩, _⟩ := he4; rw [z, q] at q6; cases q6
      refine k p b s cs H7 npH (F34.then0 F7) (D4.fr F7 nin0 nin0) he7 e7 (.tup (f7.tup _ _ e6) (Nat.le_of_ble_eq_true rfl) (.cons (.str _) (.one' (.tup ((f6.then0 f7).tup _ _ e5) (by omega) (.ofInts cs))))) (by omega) hsr.1 hsr.2
theorem ok_Lclosed {f : Addr} {fd : FuncData} (F : Fun K "_law_closed" "_law_closed" s_Lclosed f fd) (T : Txt K mg A) (c_Ldraw : Cal P w K mg base "_law_draw" 2 ["_law_draws"] (sp_Ldraw K A)) : FnOk P w K mg base CX0 (3) f fd ["_law_draws", "_law_setup_here", "_law_model", "_law_held"] (sp_Lclosed K A) := by
  refine F.ok sc_Lclosed (fun vs H Q E h => ?_) (fun cdv Ar outer s H vs Q E hr h => ⟨t_Lclosed K A, ?_, ?_⟩)
  · obtain ⟨x0, x1, x2, x3, rfl, _⟩ := h
    rfl
  · have hu := hu_of hr
    exact (pss_cons (ps_setLc (i := 4) (own := [("_law_x", 8)]) (g := (gName 8)) (tt := (tB (tDNotIn (tVar 8) (tDGet (tVar 2) (tC (.str "counts")))))) rfl sc_Lclosed.nd rfl rfl (sw_true rfl rfl rfl (by decide +kernel)) (pi_range1 rfl T.b_range (pa_cons (pe_ix ix_tup (pv 1) pe_int (fun _ _ => rfl)) pa_nil)) (blkOk_by (N := ["_law_draws", "_law_setup_here", "_law_model", "_law_held", "_law_left", "_law_s", "_law_counts", "_law_pair", "_law_x"]) (sc := defScope s_Lclosed) (own := [("_law_x", 8)]) (by decide +kernel)) (fun _ _ _ _ _ => (pg_name (i := 8) sc_Lclosed.nd rfl (Or.inl rfl))) (fun _ _ _ _ _ => (pts_one (pt_cmp (pc_dnotin hu (pv 8) (pe_dget hu (pv 2) pe_str (fun _ _ => rfl))) rfl))) (fun _ _ _ _ _ => (pv 8)))
    (pss_cons (ps_set (i := 5) sc_Lclosed.nd rfl (Or.inl rfl) (pe_ix ix_list (pv 4) (pe_op o_mod (pe_cl c_Ldraw (hr.mono (by first | decide | omega)) (by rfl) (pa_cons (pv 0) pa_nil)) (pe_callB b_len (by rfl) T.b_len (by decide +kernel) (pa_cons (pv 4) pa_nil))) (fun _ _ => rfl)))
    (pss_cons (ps_set (i := 6) sc_Lclosed.nd rfl (Or.inl rfl) (pe_lst pa_nil))
    (pss_cons (ps_for PassesOwn.never rfl (pi_tup (pe_ix ix_tup (pe_dget hu (pv 2) pe_str (fun _ _ => rfl)) pe_int (fun _ _ => rfl))) (pg_name (i := 7) sc_Lclosed.nd rfl (Or.inl rfl)) (pss_cons (ps_expr (pe_bm PySem.F.plainAttrs_list PySem.F.slot_list_append PySem.F.type_list_append mt_append (pv 6) (pa_cons (pe_nget2 hr.units (pv 3) (pe_tup (pa_cons (pv 5) (pa_cons (pe_ix ix_tup (pv 7) pe_int (fun _ _ => rfl)) pa_nil))) pe_int ⟨rfl, rfl, rfl, rfl⟩) pa_nil)))
    (pss_one (ps_nput hr.units (pv 3) (pe_tup (pa_cons (pv 5) (pa_cons (pe_ix ix_tup (pv 7) pe_int (fun _ _ => rfl)) pa_nil))) pe_int rfl))))
    (pss_one (ps_ret (pe_lst (pa_cons (pv 5) (pa_cons (pe_tup (pa_cons pe_str (pa_cons (pe_callTy b_tuple (by rfl) T.b_tuple (by decide +kernel) (pa_cons (pv 6) pa_nil)) pa_nil))) pa_nil)))))))))
  · obtain ⟨x0, x1, x2, x3, rfl, h⟩ := h
    exact pu_Lclosed T h

theorem cut_drop {xs : List V} {n : Nat} (h : n ≤ xs.length) : cutV xs (some (n : Int)) none = xs.drop n := by
  unfold cutV
  rw [HT.sIx_none, HT.sIx_nat, Nat.min_eq_left h]
  exact List.take_of_length_le (by rw [List.length_drop]; omega)
/-- a house and the law's own, alike; what the sellers hold -/
structure KS (A : Ad) (H : Hp) (S : Setup) (d l : Addr) (h g : HP) (hd : Addr) (M : HM) (N : Nat) : Prop where
  D : Draws H d l
  ho : HouseAt A H h S M
  la : LawAt H g S M
  he : HeldAt H hd N
  al : AL H (h.os ++ (g.os ++ [hd, d, l]))
  mo : M.Ok S
  lt : M.rd ≠ none → M.ct.length < S.sellers.toNat
  b1 : M.out.length ≤ N
  b2 : M.qu.length ≤ N
  b3 : ∀ r ∈ M.bk, r.length ≤ N
structure KNe (h g : HP) (hd d l : Addr) : Prop where
  hg : ∀ a ∈ h.os, a ∉ g.os
  hx : ∀ a ∈ h.os, a ≠ hd ∧ a ≠ d ∧ a ≠ l
  gx : ∀ a ∈ g.os, a ≠ hd ∧ a ≠ d ∧ a ≠ l
  x1 : hd ≠ d
  x2 : hd ≠ l
  x3 : d ≠ l
theorem KNe.of {H : Hp} {h g : HP} {hd d l : Addr} (al : AL H (h.os ++ (g.os ++ [hd, d, l]))) : KNe h g hd d l := by
  have n0 := al.1
  have n1 := (List.nodup_append.mp n0).2.2
  have n2 := List.nodup_append.mp (List.nodup_append.mp n0).2.1
  have n3 := n2.2.1
  simp only [List.nodup_cons, List.mem_cons, not_or, List.not_mem_nil, not_false_eq_true, and_true, List.nodup_nil] at n3
  exact ⟨fun a ha hb => n1 a ha a (List.mem_append_left _ hb) rfl, fun a ha => ⟨n1 a ha hd (by simp), n1 a ha d (by simp), n1 a ha l (by simp)⟩, fun a ha => ⟨n2.2.2 a ha hd (by simp), n2.2.2 a ha d (by simp), n2.2.2 a ha l (by simp)⟩, n3.1.1, n3.1.2, n3.2⟩
theorem KNe.nin {h g : HP} {hd d l : Addr} (n : KNe h g hd d l) {a : Addr} (ha : a ∈ h.os) : a ∉ [hd, d, l] := nin1 (n.hx a ha).1 (nin1 (n.hx a ha).2.1 (nin1 (n.hx a ha).2.2 nin0))
theorem KNe.ning {h g : HP} {hd d l : Addr} (n : KNe h g hd d l) {a : Addr} (ha : a ∈ g.os) : a ∉ [hd, d, l] := nin1 (n.gx a ha).1 (nin1 (n.gx a ha).2.1 (nin1 (n.gx a ha).2.2 nin0))
abbrev allK (h g : HP) (hd d l : Addr) : List Addr := h.os ++ (g.os ++ [hd, d, l])
/-- the house has worked -/
theorem KS.house {A : Ad} {H H' : Hp} {S : Setup} {d l : Addr} {h g h' : HP} {hd : Addr} {M M' : HM} {N : Nat} (s : KS A H S d l h g hd M N) (f : Fr h.os H H') (own : ∀ a ∈ h'.os, a ∈ h.os ∨ H a = none) (at' : HouseAt A H' h' S M') :
    Draws H' d l ∧ LawAt H' g S M ∧ HeldAt H' hd N ∧ AL H' (h'.os ++ (g.os ++ [hd, d, l])) := by
  have n := KNe.of s.al
  exact ⟨s.D.fr f (fun q => (n.hx d q).2.1 rfl) (fun q => (n.hx l q).2.2 rfl), s.la.fr f fun a ha q => n.hg a q ha, s.he.fr f fun q => (n.hx hd q).1 rfl, s.al.part f at'.2 own⟩
theorem AL.mid {H H' : Hp} {as os os' rest : List Addr} (s : AL H (as ++ (os ++ rest))) (f : Fr os H H') (s' : AL H' os') (n : ∀ a ∈ os', a ∈ os ∨ H a = none) : AL H' (as ++ (os' ++ rest)) := by
  have p1 : (as ++ (os ++ rest)).Perm (os ++ (as ++ rest)) := by
    rw [← List.append_assoc, ← List.append_assoc]
    exact (List.perm_append_comm (l₁ := as) (l₂ := os)).append_right rest
  have p2 : (os' ++ (as ++ rest)).Perm (as ++ (os' ++ rest)) := by
    rw [← List.append_assoc, ← List.append_assoc]
    exact (List.perm_append_comm (l₁ := os') (l₂ := as)).append_right rest
  exact ((s.perm p1).part f s' n).perm p2
theorem give_bounds {M : HM} {s : Int} {w : Cell} : (M.give s w).out.length ≤ M.out.length + 1 ∧ (M.give s w).qu = M.qu ∧ (M.give s w).bk = M.bk ∧ (M.give s w).rd = M.rd ∧ (M.give s w).ct = M.ct := by
  unfold HM.give
  split
  · exact ⟨by simp, rfl, rfl, rfl, rfl⟩
  · exact ⟨Nat.le_succ _, rfl, rfl, rfl, rfl⟩
theorem give_ok {S : Setup} {M : HM} {s : Int} {w : Cell} (m : M.Ok S) : (M.give s w).Ok S := by
  obtain ⟨_, e1, e2, e3, e4⟩ := give_bounds (M := M) (s := s) (w := w)
  exact ⟨by rw [e1]; exact m.qk, by rw [e3]; exact m.rk, by rw [e3, e4]; exact m.cl, by rw [e4]; exact m.ck, by rw [e4]; exact m.cn, by rw [e2]; exact m.bl⟩
def KRes (A : Ad) (H : Hp) (S : Setup) (d l : Addr) (h g : HP) (hd : Addr) (N : Nat) (Q : Hp → Prop) : Prop := ∀ (h' g' : HP) (M' : HM) (H' : Hp), h'.p = h.p → g'.p = g.p → (∃ m, Fr m H H') → KS A H' S d l h' g' hd M' N → Q H'
def P_Lgiven (K : PySem.W.Frag) (A : Ad) (x0 x1 x2 x3 x4 : V) (H : Hp) (Q : VK) : Prop := ∃ (h g : HP) (S : Setup) (M : HM) (N : Nat) (s : Int) (w : Cell) (cp hd d l : Addr), x0 = .ref h.p ∧ x1 = .ref g.p ∧ x2 = .int s ∧ x3 = .ref cp ∧ x4 = .ref hd ∧ H cp = some (.tup [.int w.1, .int w.2]) ∧ SetupOk S ∧ CellOk S w ∧ KS A H S d l h g hd M N ∧ N ≤ 30000 ∧ KRes A H S d l h g hd (N + 1) fun H' => Q (.bl true) H'
def sp_Lgiven (K : PySem.W.Frag) (A : Ad) : Sp := fun vs H Q _ => ∃ x0 x1 x2 x3 x4, vs = [x0, x1, x2, x3, x4] ∧ P_Lgiven K A x0 x1 x2 x3 x4 H Q
theorem c_Lgiven {K : PySem.W.Frag} {A : Ad} {x0 x1 x2 x3 x4 : V} {H : Hp} {Q : VK} {E : XK} (h : P_Lgiven K A x0 x1 x2 x3 x4 H Q) : sp_Lgiven K A [x0, x1, x2, x3, x4] H Q E := ⟨_, _, _, _, _, rfl, h⟩
theorem sc_Lgiven : FnScope ["_law_house_here", "_law_model", "_law_s", "_law_cell", "_law_held", "_law_due"] ["_law_house_here", "_law_model", "_law_s", "_law_cell", "_law_held"] (defScope s_Lgiven) := ⟨rfl, rfl, rfl, by decide +kernel, rfl, by decide +kernel, by decide +kernel⟩
def t_Lgiven (K : PySem.W.Frag) (A : Ad) : TS :=
  (Evl.tCut (tAsg (tAndV (tOp rIsNon (tDGet (tVar 1) (tC (.str "round"))) (tC .non)) (tOp cGt (tDGet (tDGet (tVar 1) (tC (.str "stock"))) (tVar 3)) (tC (.int 0)))) (gName 5))
    (tSeq (tIfS (tNot (tB (tCl (sp_Lequal K A 12) (tCons (tMt A.House "give" (sp_House_give K A) (tVar 0) (tCons (tVar 2) (tCons (tOp (rIxT K) (tVar 3) (tC (.int 0))) (tCons (tOp (rIxT K) (tVar 3) (tC (.int 1))) tNil)))) (tCons (tVar 5) tNil))))) (tRet (tC (.bl false))) tNext)
    (tSeq (tIfS (tB (tVar 5)) (tSeq (sDPut (tDGet (tVar 1) (tC (.str "stock"))) (tVar 3) (tOp oSub (tDGet (tDGet (tVar 1) (tC (.str "stock"))) (tVar 3)) (tC (.int 1))))
    (tSeq (tDrop (tBM K "list" rAppend (tDGet (tVar 1) (tC (.str "out"))) (tCons (tTup (tCons (tVar 2) (tCons (tOp (rCatT K) (tTup (tCons (tC (.str "give")) tNil)) (tVar 3)) tNil))) tNil)))
    (sNPut (tVar 4) (tTup (tCons (tVar 2) (tCons (tVar 3) tNil))) (tOp oAdd (tNGet2 (tVar 4) (tTup (tCons (tVar 2) (tCons (tVar 3) tNil))) (tC (.int 0))) (tC (.int 1)))))) tNext)
    (tRet (tC (.bl true))))))
theorem pu_Lgiven (T : Txt K mg A) {x0 x1 x2 x3 x4 : V} {H : Hp} {Q : VK} (h : P_Lgiven K A x0 x1 x2 x3 x4 H Q) : t_Lgiven K A { nx := fun _ H' => Q .non H', rt := Q } [some x0, some x1, some x2, some x3, some x4, none] H := by
  obtain ⟨h, g, S, M, N, s, w, cp, hd, d, l, rfl, rfl, rfl, rfl, rfl, ecp, so, hw, ks, hN, k⟩ := h
  obtain ⟨⟨rdv, eg, cg⟩, alg⟩ := id ks.la
  have ng := HNd.of alg.1
  have kn := KNe.of ks.al
  have hb1 := ks.b1
  unfold t_Lgiven
  walk_at "go"
  refine g_cut (fun σ H' => σ = [some (.ref h.p), some (.ref g.p), some (.int s), some (.ref cp), some (.ref hd), some (.bl (M.gives w))] ∧ H' = H) ?_ ?_
  · walk_at "go"
    refine g_ite (fun hr => ?_) (fun hr => ?_)
    · have hrn : M.rd = none := (round_none cg.rd).mp hr
      walk_at "go"
      refine g_stG so hw cg.st ecp ?_
      walk_at "go"
      refine ⟨?_, rfl⟩
      have : M.gives w = Decidable.decide (0 < M.st w) := by unfold HM.gives; rw [hrn]; rfl
      rw [this]; rfl
    · have hrs : M.rd.isNone = false := by
        cases q : M.rd with
        | none => exact absurd ((round_none cg.rd).mpr q) hr
        | some a => rfl
      walk_at "go"
      refine ⟨?_, rfl⟩
      have : M.gives w = false := by unfold HM.gives; rw [hrs]; rfl
      rw [this]; rfl
  · rintro σ H' ⟨rfl, rfl⟩
    obtain ⟨⟨dx, rdh, eh, ch⟩, alh⟩ := id ks.ho
    walk_at "go"
    refine c_House_give ⟨h, S, M, s, w, rfl, rfl, rfl, rfl, ks.ho, so, hw, by omega, fun h' H1 hp f1 own1 ho1 => ?_⟩
    obtain ⟨D1, la1, he1, al1⟩ := ks.house f1 own1 ho1
    have ecp1 := f1.tup _ _ ecp
    walk_at "go"
    refine c_Lequal ⟨.bool (M.gives w), .bl _, .bl _, by simp [dp], ?_⟩
    obtain ⟨gb, gq, gk, gr, gc⟩ := give_bounds (M := M) (s := s) (w := w)
    walk_at "go"
    cases hg : M.gives w with
    | false =>
      have hgm : M.give s w = M := by unfold HM.give; rw [hg]; rfl
      rw [hgm] at ho1
      obtain ⟨kv, q1, q2, q3⟩ := he1
      walk_at "go"
      exact k h' g M H1 hp rfl ⟨_, f1⟩ ⟨D1, ho1, la1, ⟨kv, q1, q2, by omega⟩, al1, ks.mo, ks.lt, by omega, by have := ks.b2; omega, fun r hr => by have := ks.b3 r hr; omega⟩
    | true =>
      have hgm : M.give s w = { M with st := fset M.st w (M.st w - 1), out := M.out ++ [(s, DnB.give w)] } := by unfold HM.give; rw [if_pos hg]
      rw [hgm] at ho1
      have kn1 := KNe.of al1
      have gnin : ∀ a ∈ g.os, a ∉ h'.os := fun a ha q => kn1.hg a q ha
      obtain ⟨⟨rdv1, eg1, cg1⟩, alg1⟩ := id la1
      walk_at "go"
      refine g_stG so hw cg1.st ecp1 ?_
      walk_at "go"
      refine g_stD so hw cg1.st ecp1 fun H2 f2 e2 => ?_
      have cg2 := cg1.wst ng f2 e2
      have eg2 := f2.at eg1 (nin1 ng.p1 nin0)
      obtain ⟨io, os, eo, dox⟩ := id cg2.out
      have hosl : os.length ≤ 60000 := by have z : os.length = (M.out.map outD).length := dox.len; rw [z, List.length_map]; omega
      have ecp2 := f2.tup _ _ ecp1
      have gst : g.st ∈ g.os := by simp [HP.os]
      have gou : g.out ∈ g.os := by simp [HP.os]
      have he2 := he1.fr f2 (nin1 (fun z => (kn.gx _ gst).1 z.symm) nin0)
      have D2 := D1.fr f2 (nin1 (fun z => (kn.gx _ gst).2.1 z.symm) nin0) (nin1 (fun z => (kn.gx _ gst).2.2 z.symm) nin0)
      walk_at "go"
      rename_i t1 H3 n3 f3 e3
      refine g_catT (xs := [.str "give"]) (ys := [.int w.1, .int w.2]) (SqT.of e3) (SqT.of (f3.tup _ _ ecp2)) (by simp) (Nat.le_of_ble_eq_true rfl) (fun q => by cases q) fun _ t2 H4 n4 f4 e4 => ?_
      walk_at "go"
      rename_i t3 H5 n5 f5 e5 H6 f6 e6
      have F5 : Fr [] H2 H5 := (f3.then0 f4).then0 f5
      have o6 : LsAt H6 g.out ((M.out ++ [(s, DnB.give w)]).map outD) := by
        rw [List.map_append]
        exact LsAt.snoc (DaL.frL F5 dox io) io (giveD (f5.tup _ _ e4) e5) (imm_out _) f6 e6
      have cg6 := (cg2.fr F5 fun _ _ => nin0).wout ng f6 o6
      have eg6 := f6.at (F5.at0 eg2) (nin1 ng.p5 nin0)
      have alg6 : AL H6 g.os := al_put ((al_put alg1 f2 e2).fr0 F5) f6 e6
      have la6 : LawAt H6 g S { M with st := fset M.st w (M.st w - 1), out := M.out ++ [(s, DnB.give w)] } := ⟨⟨rdv1, eg6, cg6⟩, alg6⟩
      have he6 := (he2.fr F5 nin0).fr f6 (nin1 (fun z => (kn.gx _ gou).1 z.symm) nin0)
      have D6 := (D2.fr F5 nin0 nin0).fr f6 (nin1 (fun z => (kn.gx _ gou).2.1 z.symm) nin0) (nin1 (fun z => (kn.gx _ gou).2.2 z.symm) nin0)
      have F6 : Fr g.os H1 H6 := ((f2.mono fun x hx => by rw [List.mem_singleton.mp hx]; exact gst).then0 F5).transL (f6.mono fun x hx => by rw [List.mem_singleton.mp hx]; exact gou)
      have al6 := AL.mid al1 F6 alg6 fun a ha => .inl ha
      have ho6 := ho1.fr F6 fun a ha q => gnin a q ha
      have ecp6 := F6.tup _ _ ecp1
      clear dox eo cg2 cg6 f2 f3 f4 f5 f6 F5 o6
      obtain ⟨kv, hk, hz, hl⟩ := he6
      refine g_rng2 hk ?_
      walk_at "go"
      rename_i t5 H8 n8 f8 e8
      have hk8 := hk.fr f8 nin0
      refine g_ngo (nk12 s w) hk8 (nk12_key e8 (f8.tup _ _ ecp6)) ?_
      obtain ⟨z, hz', _⟩ := held_get hz (nk12 s w)
      rw [hz']
      walk_at "go"
      rename_i t6 H9 n9 f9 e9
      have hk9 := hk8.fr f9 nin0
      refine g_rnp (nk12 s w) hk9 (nk12_key e9 (f9.tup _ _ (f8.tup _ _ ecp6))) (szM (by omega)) fun H10 f10 hk10 => ?_
      walk_at "go"
      have F9 : Fr [] H6 H9 := f8.then0 f9
      have hdn : ∀ a ∈ h'.os, a ∉ [hd] := fun a ha => nin1 (kn1.hx a ha).1 nin0
      have hdg : ∀ a ∈ g.os, a ∉ [hd] := fun a ha => nin1 (kn1.gx a ha).1 nin0
      have al10 : AL H10 (h'.os ++ (g.os ++ [hd, d, l])) := by
        obtain ⟨_, _, xs', q, _⟩ := id hk10
        exact al_put (al6.fr0 F9) f10 q
      refine k h' g _ H10 hp rfl ⟨_, ((f1.mono fun x hx => List.mem_append_left [hd] (List.mem_append_left g.os hx)).transL (F6.mono fun x hx => List.mem_append_left [hd] (List.mem_append_right h.os hx)) |>.then0 F9).transL (f10.mono fun x hx => List.mem_append_right _ hx)⟩
        ⟨(D6.fr F9 nin0 nin0).fr f10 (nin1 kn.x1.symm nin0) (nin1 kn.x2.symm nin0), (ho6.fr F9 fun _ _ => nin0).fr f10 hdn, (la6.fr F9 fun _ _ => nin0).fr f10 hdg, held_put hk10 hz hl, al10, ?_, ks.lt, ?_, ?_, ?_⟩
      · have := give_ok (s := s) (w := w) ks.mo; rw [hgm] at this; exact this
      · rw [hgm] at gb; have : (M.out ++ [(s, DnB.give w)]).length ≤ M.out.length + 1 := gb; show (M.out ++ [(s, DnB.give w)]).length ≤ N + 1; omega
      · have := ks.b2; show M.qu.length ≤ N + 1; omega
      · intro r hr; have := ks.b3 r hr; omega
theorem ok_Lgiven {f : Addr} {fd : FuncData} (F : Fun K "_law_given" "_law_given" s_Lgiven f fd) (T : Txt K mg A) (c_Lequal : Cal P w K mg base "_law_equal" 25 ["_law_actual", "_law_due"] (sp_Lequal K A 12)) (c_House_give : CalM P w K mg base A.House "give" 1 ["self", "seller", "kind", "night"] (sp_House_give K A)) : FnOk P w K mg base CX0 (26) f fd ["_law_house_here", "_law_model", "_law_s", "_law_cell", "_law_held"] (sp_Lgiven K A) := by
  refine F.ok sc_Lgiven (fun vs H Q E h => ?_) (fun cdv Ar outer s H vs Q E hr h => ⟨t_Lgiven K A, ?_, ?_⟩)
  · obtain ⟨x0, x1, x2, x3, x4, rfl, _⟩ := h
    rfl
  · have hu := hu_of hr
    exact (Evl.pss_cut (ps_set (i := 5) sc_Lgiven.nd rfl (Or.inl rfl) (pe_and (pe_cmpR c_isN (pe_dget hu (pv 1) pe_str (fun _ _ => rfl)) pe_non (nomark _)) (pe_one (pe_cmpR c_gt (pe_dget hu (pe_dget hu (pv 1) pe_str (fun _ _ => rfl)) (pv 3) (fun _ _ => rfl)) pe_int (nomark _)))))
    (pss_cons (ps_if (pt_not (pt_val (pe_cl c_Lequal (hr.mono (by first | decide | omega)) (by rfl) (pa_cons (pe_mt (pv 0) T.cl_House c_House_give (hr.mono (by first | decide | omega)) (pa_cons (pv 2) (pa_cons (pe_ix ix_tup (pv 3) pe_int (fun _ _ => rfl)) (pa_cons (pe_ix ix_tup (pv 3) pe_int (fun _ _ => rfl)) pa_nil)))) (pa_cons (pv 5) pa_nil))))) (pss_one (ps_ret pe_bl)) pss_nil)
    (pss_cons (ps_if (pt_val (pv 5)) (pss_cons (ps_dput hu (pe_dget hu (pv 1) pe_str (fun _ _ => rfl)) (pv 3) (pe_op o_sub (pe_dget hu (pe_dget hu (pv 1) pe_str (fun _ _ => rfl)) (pv 3) (fun _ _ => rfl)) pe_int) rfl)
    (pss_cons (ps_expr (pe_bm PySem.F.plainAttrs_list PySem.F.slot_list_append PySem.F.type_list_append mt_append (pe_dget hu (pv 1) pe_str (fun _ _ => rfl)) (pa_cons (pe_tup (pa_cons (pv 2) (pa_cons (pe_op op_catT (pe_tup (pa_cons pe_str pa_nil)) (pv 3)) pa_nil))) pa_nil)))
    (pss_one (ps_nput hr.units (pv 4) (pe_tup (pa_cons (pv 2) (pa_cons (pv 3) pa_nil))) (pe_op o_add (pe_nget2 hr.units (pv 4) (pe_tup (pa_cons (pv 2) (pa_cons (pv 3) pa_nil))) pe_int ⟨rfl, rfl, rfl, rfl⟩) pe_int) rfl)))) pss_nil)
    (pss_one (ps_ret pe_bl)))))
  · obtain ⟨x0, x1, x2, x3, x4, rfl, h⟩ := h
    exact pu_Lgiven T h

theorem look_out (n : Nat) (M : HM) : ∃ es, (HM.look n M).out = M.out ++ es ∧ es.length ≤ n ∧ ∀ e ∈ es, ∃ cs, e.2 = DnB.close cs := by
  unfold HM.look
  split
  · rename_i a q h1 h2
    refine ⟨closeL n a, rfl, by unfold closeL; rw [List.length_map, List.length_range]; exact Nat.le_refl _, fun e he => ?_⟩
    obtain ⟨s, _, rfl⟩ := List.mem_map.mp he
    exact ⟨_, rfl⟩
  · exact ⟨[], by simp, Nat.zero_le _, fun _ h => nomatch h⟩
def OutOk (r : Option Ask) (es : List (Int × DnB)) : Prop := ∀ e ∈ es, ∀ cs an, e.2 = DnB.opn cs an → ∃ a, r = some a ∧ cs.length = a.2.2.length
theorem opensZ_out (a : Ask) (g : Bool) (ct : List (Int × List Int)) (f : Cell → Int) (hc : ∀ e ∈ ct, e.2.length = a.2.2.length) : ∀ n, (∀ s : Nat, s < n → ∃ cs, lk ct (s : Int) = some cs) → OutOk (some a) (opensZ a g ct f n).2
  | 0, _ => fun _ h => nomatch h
  | n + 1, h => by
    intro e he cs an hq
    unfold opensZ at he
    rcases List.mem_append.mp he with q | q
    · exact opensZ_out a g ct f hc n (fun s hs => h s (by omega)) e q cs an hq
    · rw [List.mem_singleton.mp q] at hq
      obtain ⟨c0, hc0⟩ := h n (Nat.lt_succ_self n)
      injection hq with h1 h2
      refine ⟨a, rfl, ?_⟩
      rw [← h1, backZ_len, List.length_zip, List.length_map, hc0]
      have := hc ((n : Int), c0) (lk_some hc0)
      show min a.2.2.length c0.length = _
      have e2 : c0.length = a.2.2.length := this
      omega
theorem decide_out {S : Setup} {M : HM} {a : Ask} (mo : M.Ok S) (hr : M.rd = some a) (hf : M.ct.length = S.sellers.toNat) : ∃ es, (HM.decide S.sellers.toNat M).out = M.out ++ es ∧ es.length ≤ 2 * S.sellers.toNat ∧ OutOk (some a) es := by
  have hdec : M.decide S.sellers.toNat = HM.look S.sellers.toNat { M with st := (opensZ a (grantZ M.st a.2.2) M.ct (if grantZ M.st a.2.2 = true then subZ M.st a.2.2 else M.st) S.sellers.toNat).1, out := M.out ++ (opensZ a (grantZ M.st a.2.2) M.ct (if grantZ M.st a.2.2 = true then subZ M.st a.2.2 else M.st) S.sellers.toNat).2, rd := none } := by
    unfold HM.decide; rw [hr]
  rw [hdec]
  generalize hz : (if grantZ M.st a.2.2 = true then subZ M.st a.2.2 else M.st) = z0
  obtain ⟨es, h1, h2, h3⟩ := look_out S.sellers.toNat { M with st := (opensZ a (grantZ M.st a.2.2) M.ct z0 S.sellers.toNat).1, out := M.out ++ (opensZ a (grantZ M.st a.2.2) M.ct z0 S.sellers.toNat).2, rd := none }
  refine ⟨(opensZ a (grantZ M.st a.2.2) M.ct z0 S.sellers.toNat).2 ++ es, by rw [h1]; show (M.out ++ _) ++ es = _; rw [List.append_assoc], ?_, fun e he cs an hq => ?_⟩
  · rw [List.length_append, opensZ_len]; omega
  · rcases List.mem_append.mp he with q | q
    · exact opensZ_out a _ M.ct z0 (mo.cl a hr) S.sellers.toNat (fun s hs => full_mem M.ct mo.cn (fun e he => by have := mo.ck e he; omega) hf s hs) e q cs an hq
    · obtain ⟨c, hc⟩ := h3 e q; rw [hc] at hq; cases hq
theorem handle_out {S : Setup} {M : HM} {s : Int} {b : UpB} (mo : M.Ok S) (hs : 0 ≤ s ∧ s < S.sellers) (hb : UpOk S M b) : ∃ es, (M.handle S.sellers.toNat s b).out = M.out ++ es ∧ es.length ≤ 2 * S.sellers.toNat ∧ OutOk M.rd es := by
  cases b with
  | ask k l =>
    obtain ⟨es, h1, h2, h3⟩ := look_out S.sellers.toNat { M with qu := M.qu ++ [(s, k, l)] }
    exact ⟨es, h1, by omega, fun e he cs an hq => by obtain ⟨c, hc⟩ := h3 e he; rw [hc] at hq; cases hq⟩
  | closed cs =>
    obtain ⟨a, hr, hl⟩ := hb
    show ∃ es, (HM.closed S.sellers.toNat s cs M).out = _ ∧ _
    rw [closed_some hr]
    by_cases q : (pt M.ct s cs).length = S.sellers.toNat
    · rw [if_pos q]
      have mo3 : HM.Ok S { M with st := addZ M.st ((lackC a).zip cs), ct := pt M.ct s cs } := by
        refine ⟨mo.qk, mo.rk, fun x hx e he => ?_, fun e he => ?_, mo.cn.pt _ _, mo.bl⟩
        · rcases pt_mem he with q | q
          · exact mo.cl x hx e q
          · rw [q]; rw [hr] at hx; cases hx; exact hl
        · rcases pt_mem he with q | q
          · exact mo.ck e q
          · rw [q]; exact hs
      obtain ⟨es, h1, h2, h3⟩ := decide_out (M := { M with st := addZ M.st ((lackC a).zip cs), ct := pt M.ct s cs }) mo3 hr q
      exact ⟨es, h1, h2, by rw [hr]; exact h3⟩
    · rw [if_neg q]
      exact ⟨[], by simp, Nat.zero_le _, fun _ h => nomatch h⟩
  | back c => exact ⟨[], by show M.out = _; simp, Nat.zero_le _, fun _ h => nomatch h⟩
  | entry r => exact ⟨[], by show M.out = _; simp, Nat.zero_le _, fun _ h => nomatch h⟩
theorem look_lt {n : Nat} {M : HM} (hn : 1 ≤ n) (h : M.rd ≠ none → M.ct.length < n) : (HM.look n M).rd ≠ none → (HM.look n M).ct.length < n := by
  unfold HM.look
  split
  · intro _; show 0 < n; omega
  · exact h
theorem handle_lt {S : Setup} {M : HM} {s : Int} {b : UpB} (so : SetupOk S) (mo : M.Ok S) (hs : 0 ≤ s ∧ s < S.sellers) (hb : UpOk S M b) (h : M.rd ≠ none → M.ct.length < S.sellers.toNat) : (M.handle S.sellers.toNat s b).rd ≠ none → (M.handle S.sellers.toNat s b).ct.length < S.sellers.toNat := by
  have hs1 := so.s1
  cases b with
  | ask k l => exact look_lt (by omega) h
  | closed cs =>
    obtain ⟨a, hr, hl⟩ := hb
    show (HM.closed _ _ _ _).rd ≠ none → (HM.closed _ _ _ _).ct.length < _
    rw [closed_some hr]
    by_cases q : (pt M.ct s cs).length = S.sellers.toNat
    · rw [if_pos q, decide_some (M := { M with st := addZ M.st ((lackC a).zip cs), ct := pt M.ct s cs }) hr]
      exact look_lt (by omega) (fun z => absurd rfl z)
    · rw [if_neg q]
      intro _
      have mo3 : HM.Ok S { M with st := addZ M.st ((lackC a).zip cs), ct := pt M.ct s cs } := by
        refine ⟨mo.qk, mo.rk, fun x hx e he => ?_, fun e he => ?_, mo.cn.pt _ _, mo.bl⟩
        · rcases pt_mem he with q | q
          · exact mo.cl x hx e q
          · rw [q]; rw [hr] at hx; cases hx; exact hl
        · rcases pt_mem he with q | q
          · exact mo.ck e q
          · rw [q]; exact hs
      have : (pt M.ct s cs).length ≤ S.sellers.toNat := ct_len mo3
      show (pt M.ct s cs).length < _
      omega
  | back c => exact h
  | entry r => exact h
theorem look_qu {n : Nat} {M : HM} : (HM.look n M).qu.length ≤ M.qu.length ∧ (HM.look n M).bk = M.bk := by
  unfold HM.look
  split
  · rename_i a q h1 h2; exact ⟨by rw [h2]; simp, rfl⟩
  · exact ⟨Nat.le_refl _, rfl⟩
theorem handle_qu {n : Nat} {M : HM} {s : Int} {b : UpB} {B : Nat} (hq : M.qu.length ≤ B) (hb : ∀ r ∈ M.bk, r.length ≤ B) : (M.handle n s b).qu.length ≤ B + 1 ∧ ∀ r ∈ (M.handle n s b).bk, r.length ≤ B + 1 := by
  cases b with
  | ask k l =>
    obtain ⟨h1, h2⟩ := look_qu (n := n) (M := { M with qu := M.qu ++ [(s, k, l)] })
    refine ⟨Nat.le_trans h1 ?_, fun r hr => ?_⟩
    · show (M.qu ++ _).length ≤ _; rw [List.length_append]; show M.qu.length + 1 ≤ _; omega
    · have hr' : r ∈ M.bk := by rw [← show (M.handle n s (.ask k l)).bk = M.bk from h2]; exact hr
      have := hb r hr'; omega
  | closed cs =>
    have key : (HM.closed n s cs M).qu.length ≤ M.qu.length ∧ (HM.closed n s cs M).bk = M.bk := by
      unfold HM.closed
      split
      · exact ⟨Nat.le_refl _, rfl⟩
      · rename_i a ha
        show (if (pt M.ct s cs).length = n then _ else _ : HM).qu.length ≤ _ ∧ (if (pt M.ct s cs).length = n then _ else _ : HM).bk = _
        split
        · unfold HM.decide
          split
          · exact ⟨Nat.le_refl _, rfl⟩
          · obtain ⟨h1, h2⟩ := look_qu (n := n) (M := { M with st := (opensZ _ _ _ _ n).1, ct := pt M.ct s cs, out := M.out ++ (opensZ _ _ _ _ n).2, rd := none })
            exact ⟨h1, h2⟩
        · exact ⟨Nat.le_refl _, rfl⟩
    refine ⟨?_, fun r hr => ?_⟩
    · have := key.1; show (HM.closed n s cs M).qu.length ≤ _; omega
    · have hr' : r ∈ M.bk := by rw [← key.2]; exact hr
      have := hb r hr'; omega
  | back c => exact ⟨by show M.qu.length ≤ _; omega, fun r hr => by have := hb r hr; omega⟩
  | entry r0 =>
    refine ⟨by show M.qu.length ≤ _; omega, fun r hr => ?_⟩
    have hr' : r ∈ M.bk.set s.toNat (M.bk.getD s.toNat [] ++ [r0]) := hr
    rcases List.mem_or_eq_of_mem_set hr' with q | q
    · have := hb r q; omega
    · rw [q, List.length_append, List.getD_eq_getElem?_getD]
      cases w : M.bk[s.toNat]? with
      | none => show 0 + 1 ≤ _; omega
      | some x => have := hb x (List.mem_of_getElem? w); show x.length + 1 ≤ _; omega
theorem KS.mono {A : Ad} {H : Hp} {S : Setup} {d l : Addr} {h g : HP} {hd : Addr} {M : HM} {N N' : Nat} (s : KS A H S d l h g hd M N) (n : N ≤ N') : KS A H S d l h g hd M N' := by
  obtain ⟨kv, q1, q2, q3⟩ := s.he
  exact ⟨s.D, s.ho, s.la, ⟨kv, q1, q2, by omega⟩, s.al, s.mo, s.lt, Nat.le_trans s.b1 n, Nat.le_trans s.b2 n, fun r hr => Nat.le_trans (s.b3 r hr) n⟩
theorem DaL.drop {H : Hp} : ∀ {xs : List V} {ds : List PyData} (n : Nat), DaL H xs ds → DaL H (xs.drop n) (ds.drop n)
  | _, _, 0, h => h
  | _, _, n + 1, .nil => .nil
  | _, _, n + 1, .cons _ t => DaL.drop n t
/-- the draws and what is held have changed alone -/
theorem KS.dh {A : Ad} {H H' : Hp} {S : Setup} {d l : Addr} {h g : HP} {hd : Addr} {M : HM} {N N' : Nat} (s : KS A H S d l h g hd M N) (f : Fr [d, hd] H H') (D : Draws H' d l) (he : HeldAt H' hd N') (n : N ≤ N') : KS A H' S d l h g hd M N' := by
  have k := KNe.of s.al
  have hn : ∀ a ∈ h.os, a ∉ [d, hd] := fun a ha => nin1 (k.hx a ha).2.1 (nin1 (k.hx a ha).1 nin0)
  have gn : ∀ a ∈ g.os, a ∉ [d, hd] := fun a ha => nin1 (k.gx a ha).2.1 (nin1 (k.gx a ha).1 nin0)
  have ho := s.ho.fr f hn
  have la := s.la.fr f gn
  refine ⟨D, ho, la, he, ⟨s.al.1, fun a ha => ?_⟩, s.mo, s.lt, Nat.le_trans s.b1 n, Nat.le_trans s.b2 n, fun r hr => Nat.le_trans (s.b3 r hr) n⟩
  rcases List.mem_append.mp ha with q | q
  · exact ho.2.2 a q
  · rcases List.mem_append.mp q with w | w
    · exact la.2.2 a w
    · rcases List.mem_cons.mp w with z | z
      · obtain ⟨_, ⟨_, _, _, e, _⟩, _⟩ := he; rw [z]; exact ⟨_, e⟩
      · obtain ⟨ms, kk, h1, h2, _⟩ := D
        rcases List.mem_cons.mp z with z | z
        · rw [z]; exact ⟨_, h1⟩
        · rw [List.mem_singleton.mp z]; exact ⟨_, h2⟩
def P_Lthing (K : PySem.W.Frag) (A : Ad) (x0 x1 x2 x3 x4 : V) (H : Hp) (Q : VK) : Prop := ∃ (h g : HP) (S : Setup) (M : HM) (N : Nat) (hd d l : Addr), x0 = .ref d ∧ x2 = .ref h.p ∧ x3 = .ref g.p ∧ x4 = .ref hd ∧ SetupOk S ∧ Da H x1 (setupD S) ∧ KS A H S d l h g hd M N ∧ N ≤ 30000 ∧ KRes A H S d l h g hd (N + 400) fun H' => Q (.bl true) H'
def ThMid (S : Setup) (M : HM) (N : Nat) (d l sp hd cp : Addr) (h g : HP) (pick : Int) (H9 : Hp) : L2.St → Hp → Prop := fun σ H' => ∃ (s : Int) (b : UpB) (bv : V) (v9 : Option V), σ = [some (.ref d), some (.ref sp), some (.ref h.p), some (.ref g.p), some (.ref hd), some (.int s), some (.ref cp), some (.int pick), some bv, v9, none, none, none, none, none] ∧
    Da H' bv (upD b) ∧ UpOk S M b ∧ 0 ≤ s ∧ s < S.sellers ∧ Fr [d, hd] H9 H' ∧ Draws H' d l ∧ HeldAt H' hd (N + 37)
def sp_Lthing (K : PySem.W.Frag) (A : Ad) : Sp := fun vs H Q _ => ∃ x0 x1 x2 x3 x4, vs = [x0, x1, x2, x3, x4] ∧ P_Lthing K A x0 x1 x2 x3 x4 H Q
theorem c_Lthing {K : PySem.W.Frag} {A : Ad} {x0 x1 x2 x3 x4 : V} {H : Hp} {Q : VK} {E : XK} (h : P_Lthing K A x0 x1 x2 x3 x4 H Q) : sp_Lthing K A [x0, x1, x2, x3, x4] H Q E := ⟨_, _, _, _, _, rfl, h⟩
theorem sc_Lthing : FnScope ["_law_draws", "_law_setup_here", "_law_house_here", "_law_model", "_law_held", "_law_s", "_law_cell", "_law_pick", "_law_body", "_law_closed_here", "_law_sent", "_law_before", "_law_seller", "_law_letter", "_law_k"] ["_law_draws", "_law_setup_here", "_law_house_here", "_law_model", "_law_held"] (defScope s_Lthing) := ⟨rfl, rfl, rfl, by decide +kernel, rfl, by decide +kernel, by decide +kernel⟩
def t_Lthing3 (K : PySem.W.Frag) (A : Ad) : TS :=
  (tIfS (tTest (tOp rEq (tVar 7) (tC (.int 8)))) (tSeq (tDrop (tMt A.House "want" (sp_House_want K A) (tVar 2) (tCons (tVar 5) (tCons (tOp (rIxT K) (tVar 6) (tC (.int 0))) (tCons (tOp (rIxT K) (tVar 6) (tC (.int 1))) tNil)))))
    (tSeq (tDrop (tBM K "list" rAppend (tDGet (tVar 3) (tC (.str "out"))) (tCons (tTup (tCons (tVar 5) (tCons (tOp (rCatT K) (tTup (tCons (tC (.str "want")) tNil)) (tVar 6)) tNil))) tNil)))
    (tRet (tC (.bl true))))) tNext)
def t_Lthing2 (K : PySem.W.Frag) (A : Ad) : TS :=
  (tIfS (tTest (tOp cLt (tVar 7) (tC (.int 8)))) (tRet (tCl (sp_Lgiven K A) (tCons (tVar 2) (tCons (tVar 3) (tCons (tVar 5) (tCons (tVar 6) (tCons (tVar 4) tNil))))))) (tIfS (tAnd (tTest (tOp rEq (tVar 7) (tC (.int 8)))) (tAnd (tTest (tOp cGt (tNGet2 (tVar 4) (tTup (tCons (tVar 5) (tCons (tVar 6) tNil))) (tC (.int 0))) (tC (.int 0)))) (tOr (tTest (tOp rIsNon (tDGet (tVar 3) (tC (.str "round"))) (tC .non))) (tB (tDNotIn (tVar 5) (tDGet (tVar 3) (tC (.str "counts")))))))) (tSeq (sNPut (tVar 4) (tTup (tCons (tVar 5) (tCons (tVar 6) tNil))) (tOp oSub (tNGet (tVar 4) (tTup (tCons (tVar 5) (tCons (tVar 6) tNil)))) (tC (.int 1))))
    (tAsg (tOp (rCatT K) (tTup (tCons (tC (.str "back")) tNil)) (tVar 6)) (gName 8))) (t_Lthing3 K A)))
def t_Lthing (K : PySem.W.Frag) (A : Ad) : TS :=
  (tSeq (tAsg (tOp oMod (tCl (sp_Ldraw K A) (tCons (tVar 0) tNil)) (tOp (rIxT K) (tVar 1) (tC (.int 2)))) (gName 5))
    (tSeq (tAsg (tTup (tCons (tOp oMod (tCl (sp_Ldraw K A) (tCons (tVar 0) tNil)) (tCB (rLenSq K) (tCons (tOp (rIxT K) (tVar 1) (tC (.int 0))) tNil))) (tCons (tOp oMod (tCl (sp_Ldraw K A) (tCons (tVar 0) tNil)) (tOp (rIxT K) (tVar 1) (tC (.int 1)))) tNil))) (gName 6))
    (tSeq (tAsg (tOp oMod (tCl (sp_Ldraw K A) (tCons (tVar 0) tNil)) (tC (.int 10))) (gName 7))
    (tSeq (tAsg (tTup (tCons (tC (.str "entry")) (tCons (tTup (tCons (tC (.str "cancelled")) (tCons (tOp oMod (tCl (sp_Ldraw K A) (tCons (tVar 0) tNil)) (tC (.int 9))) (tCons (tC (.int 5)) (tCons (tOp oMod (tCl (sp_Ldraw K A) (tCons (tVar 0) tNil)) (tC (.int 6))) tNil))))) tNil))) (gName 8))
    (Evl.tCut (tIfS (tTest (tOp cLt (tVar 7) (tC (.int 2)))) (tAsg (tTup (tCons (tC (.str "ask")) (tCons (tOp oMod (tCl (sp_Ldraw K A) (tCons (tVar 0) tNil)) (tC (.int 9))) (tCons (tCl (sp_Llack K A) (tCons (tVar 0) (tCons (tVar 1) tNil))) tNil)))) (gName 8)) (tIfS (tAnd (tTest (tOp cLt (tVar 7) (tC (.int 6)))) (tTest (tOp rIsNotNon (tDGet (tVar 3) (tC (.str "round"))) (tC .non)))) (tSeq (tAsg (tCl (sp_Lclosed K A) (tCons (tVar 0) (tCons (tVar 1) (tCons (tVar 3) (tCons (tVar 4) tNil))))) (gName 9))
    (tSeq (tAsg (tOp (rIxL K) (tVar 9) (tC (.int 0))) (gName 5))
    (tAsg (tOp (rIxL K) (tVar 9) (tC (.int 1))) (gName 8)))) (t_Lthing2 K A)))
    (tSeq (tAsg (tCB (rLenSq K) (tCons (tDGet (tVar 3) (tC (.str "out"))) tNil)) (gName 10))
    (tSeq (tAsg (tDGet (tVar 3) (tC (.str "round"))) (gName 11))
    (tSeq (tDrop (tMt A.House "handle" (sp_House_handle K A) (tVar 2) (tCons (tVar 5) (tCons (tVar 8) tNil))))
    (tSeq (tDrop (tCl (sp_Lhouse_handles K A) (tCons (tVar 1) (tCons (tVar 3) (tCons (tVar 5) (tCons (tVar 8) tNil))))))
    (tSeq (tFor (iList K (tSl (rSlL K) (tDGet (tVar 3) (tC (.str "out"))) (tPart (tVar 10)) tNoPart)) (gTup K 2 (gCons (gName 12) (gCons (gName 13) gNil))) (tIfS (tTest (tOp rEq (tOp (rIxT K) (tVar 13) (tC (.int 0))) (tC (.str "open")))) (tFor (iRng1 (tCons (tCB (rLenSq K) (tCons (tOp (rIxT K) (tVar 11) (tC (.int 2))) tNil)) tNil)) (gName 14) (sNPut (tVar 4) (tTup (tCons (tVar 12) (tCons (tOp (rIxT K) (tOp (rIxT K) (tOp (rIxT K) (tVar 11) (tC (.int 2))) (tVar 14)) (tC (.int 0))) tNil))) (tOp (rIxT K) (tOp (rIxT K) (tVar 13) (tC (.int 1))) (tVar 14)))) tNext))
    (tRet (tC (.bl true)))))))))))))
theorem pu_Lthing (T : Txt K mg A) {x0 x1 x2 x3 x4 : V} {H : Hp} {Q : VK} (h : P_Lthing K A x0 x1 x2 x3 x4 H Q) : t_Lthing K A { nx := fun _ H' => Q .non H', rt := Q } [some x0, some x1, some x2, some x3, some x4, none, none, none, none, none, none, none, none, none, none] H := by
  obtain ⟨h, g, S, M, N, hd, d, l, rfl, rfl, rfl, rfl, so, dS, ks, hN, k⟩ := h
  obtain ⟨sp, r, pp, prs, sa⟩ := SetAt.of dS
  cases sa.e
  have e0 := sa.t
  have er := sa.r
  have kn := KNe.of ks.al
  have hn1 := so.n1
  have hk1 := so.k1
  have hs1 := so.s1
  have hs2 := so.s2
  have D0 := ks.D
  have nhd : hd ≠ d ∧ hd ≠ l := ⟨kn.x1, kn.x2⟩
  unfold t_Lthing
  walk_at "go"
  rename_i y1 H1 y10 y11 f1 D1 y2 H2 y20 y21 f2 D2 y3 H3 y30 y31 f3 D3 cp H4 n4 f4 e4 y5 H5 y50 y51 f5 D5 y6 H6 y60 y61 f6 D6 y7 H7 y70 y71 f7 D7 rt H8 n8 f8 e8 bt H9 n9 f9 e9
  have F4 : Fr [d] H H4 := ((f1.transL f2).transL f3).then0 f4
  have F9 : Fr [d] H H9 := ((((F4.transL f5).transL f6).transL f7).then0 f8).then0 f9
  have D9 := (D7.fr f8 nin0 nin0).fr f9 nin0 nin0
  have he9 := ks.he.fr F9 (nin1 nhd.1 nin0)
  have ks9 := ks.dh (F9.mono fun x hx => by rw [List.mem_singleton.mp hx]; simp) D9 he9 (Nat.le_refl _)
  have s0 := Int.emod_nonneg y1 (show S.sellers ≠ 0 by omega)
  have s1 := Int.emod_lt_of_pos y1 (show 0 < S.sellers by omega)
  rw [List.length_map] at e4
  have k0 := Int.emod_nonneg y2 (show ((S.rooms.length : Nat) : Int) ≠ 0 by omega)
  have k1 := Int.emod_lt_of_pos y2 (show 0 < ((S.rooms.length : Nat) : Int) by omega)
  have n0 := Int.emod_nonneg y3 (show S.nights ≠ 0 by omega)
  have n1 := Int.emod_lt_of_pos y3 (show 0 < S.nights by omega)
  have hw : CellOk S (y2 % (S.rooms.length : Int), y3 % S.nights) := ⟨k0, k1, n0, n1⟩
  have e4' : H4 cp = some (.tup [.int (y2 % (S.rooms.length : Int), y3 % S.nights).1, .int (y2 % (S.rooms.length : Int), y3 % S.nights).2]) := e4
  generalize (y2 % (S.rooms.length : Int), y3 % S.nights) = w at *
  have ecp : H9 cp = some (.tup [.int w.1, .int w.2]) := f9.tup _ _ (f8.tup _ _ (f7.tup _ _ (f6.tup _ _ (f5.tup _ _ e4'))))
  have db9 : Da H9 (.ref bt) (upD (.entry (.cancelled (y6 % 9) 5 (y7 % 6)))) := .tup e9 (Nat.le_of_ble_eq_true rfl) (.cons (.str _) (.one' (.tup (f9.tup _ _ e8) (Nat.le_of_ble_eq_true rfl) (.cons (.str _) (.cons (.int _) (.cons (.int _) (.one' (.int _))))))))
  have dS9 := Da.frL F9 dS (imm_setup S)
  have e09 := F9.tup _ _ e0
  have k9 : KRes A H9 S d l h g hd (N + 400) fun H' => Q (.bl true) H' := fun h' g' M' H' a b ⟨m, f⟩ s => k h' g' M' H' a b ⟨_, F9.trans f⟩ s
  generalize y1 % S.sellers = sv at *
  generalize y5 % 10 = pick at *
  clear k ks D0 D1 D2 D3 D5 D6 D7 f1 f2 f3 f4 f5 f6 f7 f8 f9 F4 F9 e4 e4' n4 n8 n9 e8 e9 k0 k1 n0 n1 dS e0 er sa y10 y11 y20 y21 y30 y31 y50 y51 y60 y61 y70 y71
  obtain ⟨⟨rdv, eg, cg⟩, alg⟩ := id ks9.la
  refine g_cut (ThMid S M N d l sp hd cp h g pick H9) ?_ ?_
  · have he37 : HeldAt H9 hd (N + 37) := by obtain ⟨kv, q1, q2, q3⟩ := he9; exact ⟨kv, q1, q2, by omega⟩
    have idle : ∃ (s : Int) (b : UpB) (bv : V) (v9 : Option V), [some (V.ref d), some (.ref sp), some (.ref h.p), some (.ref g.p), some (.ref hd), some (.int sv), some (.ref cp), some (.int pick), some (.ref bt), none, none, none, none, none, none] = [some (.ref d), some (.ref sp), some (.ref h.p), some (.ref g.p), some (.ref hd), some (.int s), some (.ref cp), some (.int pick), some bv, v9, none, none, none, none, none] ∧
        Da H9 bv (upD b) ∧ UpOk S M b ∧ 0 ≤ s ∧ s < S.sellers ∧ Fr [d, hd] H9 H9 ∧ Draws H9 d l ∧ HeldAt H9 hd (N + 37) := ⟨sv, _, _, _, rfl, db9, trivial, s0, s1, Fr.refl, D9, he37⟩
    walk_at "go"
    refine g_ite (fun c1 => ?_) (fun c1 => ?_)
    · walk_at "go"
      rename_i z H10 z0 z1 f10 D10
      refine c_Llack ⟨d, l, S, rfl, D10, so, Da.frL f10 dS9 (imm_setup S), fun v lk H11 lo dl f11 D11 => ?_⟩
      walk_at "go"
      rename_i b H12 n12 f12 e12
      have F12 : Fr [d] H9 H12 := (f10.transL f11).then0 f12
      exact ⟨sv, .ask (z % 9) lk, .ref b, _, rfl, .tup e12 (Nat.le_of_ble_eq_true rfl) (.cons (.str _) (.cons (.int _) (.one' (Da.frL f12 dl (imm_lack lk))))), lo, s0, s1, F12.mono fun x hx => by rw [List.mem_singleton.mp hx]; simp, D11.fr f12 nin0 nin0, he37.fr F12 (nin1 nhd.1 nin0)⟩
    · walk_at "go"
      have rest : t_Lthing2 K A { nx := ThMid S M N d l sp hd cp h g pick H9, rt := Q } [some (.ref d), some (.ref sp), some (.ref h.p), some (.ref g.p), some (.ref hd), some (.int sv), some (.ref cp), some (.int pick), some (.ref bt), none, none, none, none, none, none] H9 := by
        have rest3 : ∀ H10, Fr [] H9 H10 → t_Lthing3 K A { nx := ThMid S M N d l sp hd cp h g pick H9, rt := Q } [some (.ref d), some (.ref sp), some (.ref h.p), some (.ref g.p), some (.ref hd), some (.int sv), some (.ref cp), some (.int pick), some (.ref bt), none, none, none, none, none, none] H10 := by
          intro H10 f10
          have ks10 : KS A H10 S d l h g hd M N := ks9.dh f10.of0 (D9.fr f10 nin0 nin0) (he9.fr f10 nin0) (Nat.le_refl _)
          have ecp10 := f10.tup _ _ ecp
          unfold t_Lthing3
          walk_at "go"
          refine g_ite (fun c3 => ?_) (fun c3 => ?_)
          · have hb1 := ks10.b1
            obtain ⟨⟨dx, rdh, eh, ch⟩, alh⟩ := id ks10.ho
            walk_at "go"
            refine c_House_want ⟨h, S, M, sv, w, rfl, rfl, rfl, rfl, ks10.ho, by omega, fun h' H11 hp f11 own11 ho11 => ?_⟩
            obtain ⟨D11, la11, he11, al11⟩ := ks10.house f11 own11 ho11
            have kn11 := KNe.of al11
            obtain ⟨⟨rdv1, eg1, cg1⟩, alg1⟩ := id la11
            have ng := HNd.of alg1.1
            have ecp11 := f11.tup _ _ ecp10
            obtain ⟨io, os, eo, dox⟩ := id cg1.out
            have hosl : os.length ≤ 60000 := by rw [dox.len, List.length_map]; omega
            walk_at "go"
            rename_i t1 H12 n12 f12 e12
            refine g_catT (xs := [.str "want"]) (ys := [.int w.1, .int w.2]) (SqT.of e12) (SqT.of (f12.tup _ _ ecp11)) (by simp) (Nat.le_of_ble_eq_true rfl) (fun q => by cases q) fun _ t2 H13 n13 f13 e13 => ?_
            walk_at "go"
            rename_i t3 H14 n14 f14 e14 H15 f15 e15
            have F14 : Fr [] H11 H14 := (f12.then0 f13).then0 f14
            have gou : g.out ∈ g.os := by simp [HP.os]
            have o15 : LsAt H15 g.out ((M.out ++ [(sv, DnB.want w)]).map outD) := by
              rw [List.map_append]
              exact LsAt.snoc (DaL.frL F14 dox io) io (wantD (f14.tup _ _ e13) e14) (imm_out _) f15 e15
            have cg15 := (cg1.fr F14 fun _ _ => nin0).wout ng f15 o15
            have eg15 := f15.at (F14.at0 eg1) (nin1 ng.p5 nin0)
            have alg15 : AL H15 g.os := al_put (alg1.fr0 F14) f15 e15
            have F15 : Fr g.os H11 H15 := F14.of0.transL (f15.mono fun x hx => by rw [List.mem_singleton.mp hx]; exact gou)
            have gn : ∀ {a : Addr}, a ∈ h'.os → a ∉ [g.out] := fun ha => nin1 (fun z => kn11.hg _ ha (z ▸ gou)) nin0
            refine k9 h' g (M.want sv w) H15 hp rfl ⟨h.os ++ g.os, ((f10.of0 : Fr (h.os ++ g.os) H9 H10).transL (f11.mono fun x hx => List.mem_append_left _ hx)).transL (F15.mono fun x hx => List.mem_append_right _ hx)⟩ ⟨?_, ?_, ⟨⟨rdv1, eg15, cg15⟩, alg15⟩, ?_, AL.mid al11 F15 alg15 fun a ha => .inl ha, ?_, ks10.lt, ?_, ?_, ?_⟩
            · exact (D11.fr F14 nin0 nin0).fr f15 (nin1 (fun z => (kn11.gx _ gou).2.1 z.symm) nin0) (nin1 (fun z => (kn11.gx _ gou).2.2 z.symm) nin0)
            · exact (ho11.fr F14 fun _ _ => nin0).fr f15 fun a ha => gn ha
            · obtain ⟨kv, q1, q2, q3⟩ := (he11.fr F14 nin0).fr f15 (nin1 (fun z => (kn11.gx _ gou).1 z.symm) nin0)
              exact ⟨kv, q1, q2, by omega⟩
            · have m := ks10.mo; exact ⟨m.qk, m.rk, m.cl, m.ck, m.cn, m.bl⟩
            · show (M.out ++ _).length ≤ _; rw [List.length_append]; show M.out.length + 1 ≤ _; omega
            · have := ks10.b2; show M.qu.length ≤ _; omega
            · intro r hr; have := ks10.b3 r hr; omega
          · walk_at "go"
            exact ⟨sv, _, _, _, rfl, Da.frL f10 db9 (imm_up _), trivial, s0, s1, f10.of0, D9.fr f10 nin0 nin0, he37.fr f10 nin0⟩
        unfold t_Lthing2
        walk_at "go"
        refine g_ite (fun c2 => ?_) (fun c2 => ?_)
        · walk_at "go"
          refine c_Lgiven ⟨h, g, S, M, N, sv, w, cp, hd, d, l, rfl, rfl, rfl, rfl, rfl, ecp, so, hw, ks9, hN, fun h' g' M' H' a b c s => ?_⟩
          exact k9 h' g' M' H' a b c (s.mono (by omega))
        · walk_at "go"
          refine g_ite (fun c3 => ?_) (fun c3 => ?_)
          · obtain ⟨kv, hk, hz, hl⟩ := id he9
            walk_at "go"
            refine g_rng2 hk ?_
            walk_at "go"
            rename_i t H10 n10 f10 e10
            have hk10 := hk.fr f10 nin0
            have kk10 : NKey H10 t (nk12 sv w) := nk12_key e10 (f10.tup _ _ ecp)
            refine g_ngo (nk12 sv w) hk10 kk10 ?_
            obtain ⟨z, hz1, hz2⟩ := held_get hz (nk12 sv w)
            rw [hz1]
            walk_at "go"
            refine g_ite (fun c4 => ?_) (fun c4 => ?_)
            · have hv := hz2 (by omega)
              have back : ∀ H11, Fr [] H10 H11 → tSeq (sNPut (tVar 4) (tTup (tCons (tVar 5) (tCons (tVar 6) tNil))) (tOp oSub (tNGet (tVar 4) (tTup (tCons (tVar 5) (tCons (tVar 6) tNil)))) (tC (.int 1))))
                  (tAsg (tOp (rCatT K) (tTup (tCons (tC (.str "back")) tNil)) (tVar 6)) (gName 8)) { nx := ThMid S M N d l sp hd cp h g pick H9, rt := Q } [some (.ref d), some (.ref sp), some (.ref h.p), some (.ref g.p), some (.ref hd), some (.int sv), some (.ref cp), some (.int pick), some (.ref bt), none, none, none, none, none, none] H11 := by
                intro H11 f11
                have hk11 := hk10.fr f11 nin0
                have ecp11 := (f10.then0 f11).tup _ _ ecp
                walk_at "go"
                rename_i t1 H12 n12 f12 e12
                have hk12 := hk11.fr f12 nin0
                refine g_rng (nk12 sv w) hk12 (nk12_key e12 (f12.tup _ _ ecp11)) hv ?_
                walk_at "go"
                rename_i t2 H13 n13 f13 e13
                have hk13 := hk12.fr f13 nin0
                refine g_rnp (nk12 sv w) hk13 (nk12_key e13 (f13.tup _ _ (f12.tup _ _ ecp11))) (szM (by omega)) fun H14 f14 hk14 => ?_
                have ecp14 := f14.tup _ _ (f13.tup _ _ (f12.tup _ _ ecp11))
                walk_at "go"
                rename_i t3 H15 n15 f15 e15
                refine g_catT (xs := [.str "back"]) (ys := [.int w.1, .int w.2]) (SqT.of e15) (SqT.of (f15.tup _ _ ecp14)) (by simp) (Nat.le_of_ble_eq_true rfl) (fun q => by cases q) fun _ t4 H16 n16 f16 e16 => ?_
                walk_at "go"
                have F13 : Fr [] H9 H13 := ((f10.then0 f11).then0 f12).then0 f13
                have F16 : Fr [hd] H9 H16 := ((f14.pre0' F13).then0 f15).then0 f16
                refine ⟨sv, .back w, .ref t4, _, rfl, .tup e16 (Nat.le_of_ble_eq_true rfl) (.cons (.str _) (.cons (.int _) (.one' (.int _)))), hw, s0, s1, F16.mono fun x hx => by rw [List.mem_singleton.mp hx]; simp, D9.fr F16 (nin1 nhd.1.symm nin0) (nin1 nhd.2.symm nin0), ?_⟩
                obtain ⟨kv', q1, q2, q3⟩ := (held_put hk14 hz hl).fr (f15.then0 f16) nin0
                exact ⟨kv', q1, q2, by omega⟩
              have eg10 := f10.at0 eg
              walk_at "go"
              refine g_ite (fun c5 => ?_) (fun c5 => ?_)
              · refine g_iteT ?_
                exact back H10 Fr.refl
              · obtain ⟨kvs, ek, rk⟩ := cg.ct.fr f10 nin0
                walk_at "go"
                refine g_rdniI (.inl ek) ?_
                walk_at "go"
                refine g_iteNB (fun c6 => ?_) (fun c6 => ?_)
                · exact back H10 Fr.refl
                · exact rest3 H10 f10
            · walk_at "go"
              exact rest3 H10 f10
          · walk_at "go"
            exact rest3 H9 Fr.refl
      refine g_ite (fun c2 => ?_) (fun c2 => ?_)
      · walk_at "go"
        refine g_iteN (fun c3 => ?_) (fun c3 => ?_)
        · obtain ⟨a, hr⟩ : ∃ a, M.rd = some a := by
            cases q : M.rd with
            | none => exact absurd ((round_none cg.rd).mpr q) c3
            | some a => exact ⟨a, rfl⟩
          walk_at "go"
          refine c_Lclosed ⟨d, l, hd, g, S, M, a, N, rfl, rfl, rfl, D9, so, dS9, ks9.la, ks9.mo, hr, ks9.lt (by rw [hr]; simp), he9, by omega, ks9.al.right, fun p b s cs H10 n10 f10 D10 he10 e10 db hcl hs0 hs1' => ?_⟩
          walk_at "go"
          exact ⟨s, .closed cs, .ref b, _, rfl, db, ⟨a, hr, hcl⟩, hs0, hs1', f10, D10, by obtain ⟨kv, q1, q2, q3⟩ := he10; exact ⟨kv, q1, q2, by omega⟩⟩
        · exact rest
      · walk_at "go"
        exact rest
  · rintro σ H10 ⟨s, b, bv, v9, rfl, db, ub, hs0, hs1', f10, D10, he10⟩
    have ks10 := ks9.dh f10 D10 he10 (by omega)
    have dS10 := Da.frL f10 dS9 (imm_setup S)
    have e010 := f10.tup _ _ e09
    have k10 : KRes A H10 S d l h g hd (N + 400) fun H' => Q (.bl true) H' := fun h' g' M' H' a b ⟨m, f⟩ s => k9 h' g' M' H' a b ⟨_, f10.trans f⟩ s
    have hb1 := ks10.b1
    have hb2 := ks10.b2
    clear k9 ks9 he9 db9 dS9 e09 cg eg alg D9 f10 ecp
    obtain ⟨⟨rdv0, eg, cg⟩, alg⟩ := id ks10.la
    have ng := HNd.of alg.1
    obtain ⟨io, os, eo, dox⟩ := id cg.out
    have hol : os.length = M.out.length := by rw [dox.len, List.length_map]
    obtain ⟨⟨dx, rdh, eh, ch⟩, alh⟩ := id ks10.ho
    obtain ⟨es, ho1, ho2, ho3⟩ := handle_out ks10.mo ⟨hs0, hs1'⟩ ub
    have hlt := handle_lt so ks10.mo ⟨hs0, hs1'⟩ ub ks10.lt
    obtain ⟨hq1, hq2⟩ := handle_qu (n := S.sellers.toNat) (s := s) (b := b) ks10.b2 ks10.b3
    have hok := handle_ok (n := S.sellers.toNat) ks10.mo ⟨hs0, hs1'⟩ ub
    have rdd := cg.rd
    walk_at "go"
    refine c_House_handle ⟨h, S, M, s, b, rfl, rfl, db, ks10.ho, so, ks10.mo, ub, hs0, hs1', by omega, by omega, fun r hr => by have := ks10.b3 r hr; omega, fun h' H11 hp f11 own11 ho11 => ?_⟩
    obtain ⟨D11, la11, he11, al11⟩ := ks10.house f11 own11 ho11
    have kn11 := KNe.of al11
    walk_at "go"
    refine c_Lhouse_handles ⟨g, S, M, s, b, Da.frL f11 dS10 (imm_setup S), rfl, rfl, Da.frL f11 db (imm_up b), la11, so, ks10.mo, ub, hs0, hs1', by omega, by omega, fun r hr => by have := ks10.b3 r hr; omega, fun g' H12 gp f12 own12 la12 => ?_⟩
    generalize hM' : M.handle S.sellers.toNat s b = M' at *
    have al12 := AL.mid al11 f12 la12.2 own12
    have kn12 := KNe.of al12
    have ho12 := ho11.fr f12 fun a ha => kn11.hg a ha
    have he12 := he11.fr f12 fun q => (kn11.gx _ q).1 rfl
    have D12 := D11.fr f12 (fun q => (kn11.gx _ q).2.1 rfl) (fun q => (kn11.gx _ q).2.2 rfl)
    have F12 : Fr (h.os ++ g.os) H10 H12 := f11.trans f12
    obtain ⟨⟨rdv1, eg1, cg1⟩, alg1⟩ := id la12
    rw [gp] at eg1
    obtain ⟨io2, os2, eo2, dox2⟩ := id cg1.out
    have hol2 : os2.length = M'.out.length := by rw [dox2.len, List.length_map]
    have hxm : M'.out.length = M.out.length + es.length := by rw [ho1, List.length_append]
    have rdd12 := Da.frL F12 rdd (imm_round _)
    clear ho11 he11 D11 la11 al11 kn11 eh ch alh eg cg alg rdd eo dox f11 f12 own11 own12
    walk_at "go"
    rename_i p H13 n13 f13 e13
    rw [hol, cut_drop (by omega)] at e13
    have dp13 : DaL H13 (os2.drop M.out.length) (es.map outD) := by
      have h1 := DaL.drop M.out.length (DaL.frL f13 dox2 io2)
      rw [ho1, List.map_append, List.drop_left' (by rw [List.length_map])] at h1
      exact h1
    have hel : (os2.drop M.out.length).length = es.length := by rw [List.length_drop]; omega
    have ks13 : KS A H13 S d l h' g' hd M' (N + 50) := by
      refine ⟨D12.fr f13 nin0 nin0, ho12.fr f13 fun _ _ => nin0, la12.fr f13 fun _ _ => nin0, ?_, al12.fr0 f13, hok, hlt, by omega, by omega, fun r hr => by have := hq2 r hr; omega⟩
      obtain ⟨kv, q1, q2, q3⟩ := he12.fr f13 nin0
      exact ⟨kv, q1, q2, by omega⟩
    have k13 : KRes A H13 S d l h' g' hd (N + 400) fun H' => Q (.bl true) H' := fun h2 g2 M2 H2 a b ⟨m, f⟩ s => k10 h2 g2 M2 H2 (a.trans hp) (b.trans gp) ⟨_, (F12.then0 f13).trans f⟩ s
    have rd13 := Da.frL f13 rdd12 (imm_round _)
    have kn13 := KNe.of ks13.al
    have npd : p ∉ h'.os ++ (g'.os ++ [hd, d, l]) := al12.nin n13
    have nphd : p ≠ hd := fun z => npd (by rw [z]; simp)
    clear k10 he12 D12 la12 ho12 dox2 eo2 cg1 eg1 alg1 f13 n13 rdd12 F12 al12 kn12 io io2
    refine f_list (xs := os2.drop M.out.length) (fun i σ H' => (∃ v12 v13 v14, σ = [some (.ref d), some (.ref sp), some (.ref h.p), some (.ref g.p), some (.ref hd), some (.int s), some (.ref cp), some (.int pick), some bv, v9, some (.int os.length), some rdv0, v12, v13, v14]) ∧ Fr [hd] H13 H' ∧ HeldAt H' hd (N + 50 + 36 * i)) ⟨⟨_, _, _, rfl⟩, Fr.refl, ks13.he⟩ (fun i σ H' _ ⟨_, f, _⟩ => SqL.of (f.at e13 (nin1 nphd nin0))) ?_ ?_
    · rintro i x σ H14 hx ⟨⟨v12, v13, v14, rfl⟩, f14, he14⟩
      have hi := (List.getElem?_eq_some_iff.mp hx).1
      obtain ⟨dd, hd1, hd2⟩ := (DaL.frL f14 dp13 (immL_map imm_out es)).get hx
      rw [List.getElem?_map] at hd1
      cases hes : es[i]? with
      | none => rw [hes] at hd1; cases hd1
      | some e =>
        rw [hes] at hd1
        cases hd1
        obtain ⟨c, ys, rfl, ec, _, q⟩ := hd2.tup1
        obtain ⟨u, v, rfl, du, dv⟩ := q.two
        cases du.int1
        have hok3 := ho3 e (List.mem_of_getElem? hes)
        have up : HeldAt H14 hd (N + 50 + 36 * (i + 1)) := by obtain ⟨kv, q1, q2, q3⟩ := he14; exact ⟨kv, q1, q2, by omega⟩
        walk_at "go"
        cases hb : e.2 with
        | give w =>
          rw [hb] at dv
          obtain ⟨c2, ys2, rfl, ec2, _, q2⟩ := dv.tup1
          obtain ⟨a1, a2, a3, rfl, d1, d2, d3⟩ := q2.three
          cases d1.str1
          walk_at "go"
          refine g_ite (fun z => absurd z (by decide)) (fun _ => ?_)
          walk_at "go"
          exact ⟨⟨_, _, _, rfl⟩, f14, up⟩
        | want w =>
          rw [hb] at dv
          obtain ⟨c2, ys2, rfl, ec2, _, q2⟩ := dv.tup1
          obtain ⟨a1, a2, a3, rfl, d1, d2, d3⟩ := q2.three
          cases d1.str1
          walk_at "go"
          refine g_ite (fun z => absurd z (by decide)) (fun _ => ?_)
          walk_at "go"
          exact ⟨⟨_, _, _, rfl⟩, f14, up⟩
        | close cs =>
          rw [hb] at dv
          obtain ⟨c2, ys2, rfl, ec2, _, q2⟩ := dv.tup1
          obtain ⟨a1, a2, rfl, d1, d2⟩ := q2.two
          cases d1.str1
          walk_at "go"
          refine g_ite (fun z => absurd z (by decide)) (fun _ => ?_)
          walk_at "go"
          exact ⟨⟨_, _, _, rfl⟩, f14, up⟩
        | opn cs an =>
          rw [hb] at dv
          obtain ⟨c2, ys2, rfl, ec2, _, q2⟩ := dv.tup1
          obtain ⟨a1, a2, a3, rfl, d1, d2, d3⟩ := q2.three
          cases d1.str1
          obtain ⟨cq, rfl, ecq⟩ := ints_at d2
          obtain ⟨a, hra, hcsl⟩ := hok3 cs an hb
          have rd14 := Da.frL f14 rd13 (imm_round _)
          rw [hra] at rd14
          obtain ⟨p0, l0, xs, rfl, ep0, el0, dxs⟩ := ask_at rd14
          have hxl : xs.length = a.2.2.length := by rw [dxs.len, List.length_map]
          have ha36 := (ks10.mo.rk a hra).2
          have il : immL (a.2.2.map fun e => (PyData.tuple [cellD e.1, .int e.2])) = true := immL_map (fun _ => rfl) _
          walk_at "go"
          refine g_ite (fun _ => ?_) (fun z => absurd rfl z)
          walk_at "go"
          refine f_range (lo := 0) (n := xs.length) (fun j σ H' => (∃ v14, σ = [some (.ref d), some (.ref sp), some (.ref h.p), some (.ref g.p), some (.ref hd), some (.int s), some (.ref cp), some (.int pick), some bv, v9, some (.int os.length), some (.ref p0), some (.int e.1), some (.ref c2), v14]) ∧ Fr [hd] H14 H' ∧ HeldAt H' hd (N + 50 + 36 * i + j)) ⟨⟨_, rfl⟩, Fr.refl, he14⟩ ?_ ?_
          · rintro j σ H15 hj ⟨⟨v14, rfl⟩, f15, ⟨kv, hk, hz, hl⟩⟩
            have hx2 : xs[j]? = some xs[j] := List.getElem?_eq_getElem hj
            obtain ⟨y, b2, ca, hy, hxe, eb, eca⟩ := lack_get (DaL.frL f15 dxs il) hx2
            have hm : cs[j]? = some cs[j] := List.getElem?_eq_getElem (by omega)
            have hix : atI xs (0 + (j : Int)) = some (.ref b2) := by rw [Int.zero_add]; exact atI_nat (by rw [hx2, hxe])
            have him : atI (cs.map V.int) (0 + (j : Int)) = some (.int cs[j]) := by rw [Int.zero_add]; exact atI_nat (by rw [List.getElem?_map, hm]; rfl)
            have ec215 := f15.tup _ _ ec2
            have ecq15 := f15.tup _ _ ecq
            have ep15 := f15.tup _ _ ep0
            have el15 := f15.tup _ _ el0
            generalize cs[j] = m at *
            walk_at "go"
            refine g_ixT (SqT.of ecq15) him ?_
            walk_at "go"
            refine g_ixT (SqT.of el15) hix ?_
            walk_at "go"
            rename_i t H16 n16 f16 e16
            have hk16 := hk.fr f16 nin0
            refine g_rnp (nk12 e.1 y.1) hk16 (nk12_key e16 (f16.tup _ _ eca)) (szM (by omega)) fun H17 f17 hk17 => ?_
            walk_at "go"
            exact ⟨⟨_, rfl⟩, (f15.then0 f16).transL f17, held_put hk17 hz hl⟩
          · rintro σ H15 ⟨⟨v14, rfl⟩, f15, ⟨kv, hk, hz, hl⟩⟩
            exact ⟨⟨_, _, _, rfl⟩, f14.transL f15, kv, hk, hz, by omega⟩
    · rintro σ H14 ⟨⟨v12, v13, v14, rfl⟩, f14, he14⟩
      walk_at "go"
      have he14' : HeldAt H14 hd (N + 400) := by obtain ⟨kv, q1, q2, q3⟩ := he14; exact ⟨kv, q1, q2, by omega⟩
      refine k13 h' g' M' H14 rfl rfl ⟨_, f14⟩ (ks13.dh (f14.mono fun x hx => by rw [List.mem_singleton.mp hx]; simp) (ks13.D.fr f14 (nin1 kn13.x1.symm nin0) (nin1 kn13.x2.symm nin0)) he14' (by omega))
theorem ok_Lthing {f : Addr} {fd : FuncData} (F : Fun K "_law_thing" "_law_thing" s_Lthing f fd) (T : Txt K mg A) (c_House_handle : CalM P w K mg base A.House "handle" 5 ["self", "seller", "body"] (sp_House_handle K A)) (c_Lhouse_handles : Cal P w K mg base "_law_house_handles" 3 ["_law_setup_here", "_law_model", "_law_s", "_law_body"] (sp_Lhouse_handles K A)) (c_Ldraw : Cal P w K mg base "_law_draw" 2 ["_law_draws"] (sp_Ldraw K A)) (c_Llack : Cal P w K mg base "_law_lack" 5 ["_law_draws", "_law_setup_here"] (sp_Llack K A)) (c_Lclosed : Cal P w K mg base "_law_closed" 3 ["_law_draws", "_law_setup_here", "_law_model", "_law_held"] (sp_Lclosed K A)) (c_Lgiven : Cal P w K mg base "_law_given" 26 ["_law_house_here", "_law_model", "_law_s", "_law_cell", "_law_held"] (sp_Lgiven K A)) (c_House_want : CalM P w K mg base A.House "want" 1 ["self", "seller", "kind", "night"] (sp_House_want K A)) : FnOk P w K mg base CX0 (27) f fd ["_law_draws", "_law_setup_here", "_law_house_here", "_law_model", "_law_held"] (sp_Lthing K A) := by
  refine F.ok sc_Lthing (fun vs H Q E h => ?_) (fun cdv Ar outer s H vs Q E hr h => ⟨t_Lthing K A, ?_, ?_⟩)
  · obtain ⟨x0, x1, x2, x3, x4, rfl, _⟩ := h
    rfl
  · have hu := hu_of hr
    exact (pss_cons (ps_set (i := 5) sc_Lthing.nd rfl (Or.inl rfl) (pe_op o_mod (pe_cl c_Ldraw (hr.mono (by first | decide | omega)) (by rfl) (pa_cons (pv 0) pa_nil)) (pe_ix ix_tup (pv 1) pe_int (fun _ _ => rfl))))
    (pss_cons (ps_set (i := 6) sc_Lthing.nd rfl (Or.inl rfl) (pe_tup (pa_cons (pe_op o_mod (pe_cl c_Ldraw (hr.mono (by first | decide | omega)) (by rfl) (pa_cons (pv 0) pa_nil)) (pe_callB b_len (by rfl) T.b_len (by decide +kernel) (pa_cons (pe_ix ix_tup (pv 1) pe_int (fun _ _ => rfl)) pa_nil))) (pa_cons (pe_op o_mod (pe_cl c_Ldraw (hr.mono (by first | decide | omega)) (by rfl) (pa_cons (pv 0) pa_nil)) (pe_ix ix_tup (pv 1) pe_int (fun _ _ => rfl))) pa_nil))))
    (pss_cons (ps_set (i := 7) sc_Lthing.nd rfl (Or.inl rfl) (pe_op o_mod (pe_cl c_Ldraw (hr.mono (by first | decide | omega)) (by rfl) (pa_cons (pv 0) pa_nil)) pe_int))
    (pss_cons (ps_set (i := 8) sc_Lthing.nd rfl (Or.inl rfl) (pe_tup (pa_cons pe_str (pa_cons (pe_tup (pa_cons pe_str (pa_cons (pe_op o_mod (pe_cl c_Ldraw (hr.mono (by first | decide | omega)) (by rfl) (pa_cons (pv 0) pa_nil)) pe_int) (pa_cons pe_int (pa_cons (pe_op o_mod (pe_cl c_Ldraw (hr.mono (by first | decide | omega)) (by rfl) (pa_cons (pv 0) pa_nil)) pe_int) pa_nil))))) pa_nil))))
    (Evl.pss_cut (ps_if (pt_cmpR c_lt (pv 7) pe_int (nomark _)) (pss_one (ps_set (i := 8) sc_Lthing.nd rfl (Or.inl rfl) (pe_tup (pa_cons pe_str (pa_cons (pe_op o_mod (pe_cl c_Ldraw (hr.mono (by first | decide | omega)) (by rfl) (pa_cons (pv 0) pa_nil)) pe_int) (pa_cons (pe_cl c_Llack (hr.mono (by first | decide | omega)) (by rfl) (pa_cons (pv 0) (pa_cons (pv 1) pa_nil))) pa_nil)))))) (pss_one (ps_if (PW.pt (pw_and (pt_cmpR c_lt (pv 7) pe_int (nomark _)) (pw_and1 (pt_cmpR c_notN (pe_dget hu (pv 3) pe_str (fun _ _ => rfl)) pe_non (nomark _))))) (pss_cons (ps_set (i := 9) sc_Lthing.nd rfl (Or.inl rfl) (pe_cl c_Lclosed (hr.mono (by first | decide | omega)) (by rfl) (pa_cons (pv 0) (pa_cons (pv 1) (pa_cons (pv 3) (pa_cons (pv 4) pa_nil))))))
    (pss_cons (ps_set (i := 5) sc_Lthing.nd rfl (Or.inl rfl) (pe_ix ix_list (pv 9) pe_int (fun _ _ => rfl)))
    (pss_one (ps_set (i := 8) sc_Lthing.nd rfl (Or.inl rfl) (pe_ix ix_list (pv 9) pe_int (fun _ _ => rfl)))))) (pss_one (ps_if (pt_cmpR c_lt (pv 7) pe_int (nomark _)) (pss_one (ps_ret (pe_cl c_Lgiven (hr.mono (by first | decide | omega)) (by rfl) (pa_cons (pv 2) (pa_cons (pv 3) (pa_cons (pv 5) (pa_cons (pv 6) (pa_cons (pv 4) pa_nil)))))))) (pss_one (ps_if (PW.pt (pw_and (pt_cmpR op_eq (pv 7) pe_int (nomark _)) (pw_and (pt_cmpR c_gt (pe_nget2 hr.units (pv 4) (pe_tup (pa_cons (pv 5) (pa_cons (pv 6) pa_nil))) pe_int ⟨rfl, rfl, rfl, rfl⟩) pe_int (nomark _)) (pw_and1 (PW.pt (pw_or (pt_cmpR c_isN (pe_dget hu (pv 3) pe_str (fun _ _ => rfl)) pe_non (nomark _)) (pw_or1 (pt_cmp (pc_dnotin hu (pv 5) (pe_dget hu (pv 3) pe_str (fun _ _ => rfl))) rfl)))))))) (pss_cons (ps_nput hr.units (pv 4) (pe_tup (pa_cons (pv 5) (pa_cons (pv 6) pa_nil))) (pe_op o_sub (pe_nget hr.units (pv 4) (pe_tup (pa_cons (pv 5) (pa_cons (pv 6) pa_nil))) (fun _ _ => rfl)) pe_int) rfl)
    (pss_one (ps_set (i := 8) sc_Lthing.nd rfl (Or.inl rfl) (pe_op op_catT (pe_tup (pa_cons pe_str pa_nil)) (pv 6))))) (pss_one (ps_if (pt_cmpR op_eq (pv 7) pe_int (nomark _)) (pss_cons (ps_expr (pe_mt (pv 2) T.cl_House c_House_want (hr.mono (by first | decide | omega)) (pa_cons (pv 5) (pa_cons (pe_ix ix_tup (pv 6) pe_int (fun _ _ => rfl)) (pa_cons (pe_ix ix_tup (pv 6) pe_int (fun _ _ => rfl)) pa_nil)))))
    (pss_cons (ps_expr (pe_bm PySem.F.plainAttrs_list PySem.F.slot_list_append PySem.F.type_list_append mt_append (pe_dget hu (pv 3) pe_str (fun _ _ => rfl)) (pa_cons (pe_tup (pa_cons (pv 5) (pa_cons (pe_op op_catT (pe_tup (pa_cons pe_str pa_nil)) (pv 6)) pa_nil))) pa_nil)))
    (pss_one (ps_ret pe_bl)))) pss_nil)))))))))
    (pss_cons (ps_set (i := 10) sc_Lthing.nd rfl (Or.inl rfl) (pe_callB b_len (by rfl) T.b_len (by decide +kernel) (pa_cons (pe_dget hu (pv 3) pe_str (fun _ _ => rfl)) pa_nil)))
    (pss_cons (ps_set (i := 11) sc_Lthing.nd rfl (Or.inl rfl) (pe_dget hu (pv 3) pe_str (fun _ _ => rfl)))
    (pss_cons (ps_expr (pe_mt (pv 2) T.cl_House c_House_handle (hr.mono (by first | decide | omega)) (pa_cons (pv 5) (pa_cons (pv 8) pa_nil))))
    (pss_cons (ps_expr (pe_cl c_Lhouse_handles (hr.mono (by first | decide | omega)) (by rfl) (pa_cons (pv 1) (pa_cons (pv 3) (pa_cons (pv 5) (pa_cons (pv 8) pa_nil))))))
    (pss_cons (ps_for PassesOwn.never rfl (pi_list (pe_slice sl_list (pe_dget hu (pv 3) pe_str (fun _ _ => rfl)) (po_some (pv 10)) po_none)) (pg_tup rfl (pgs_cons (pg_name (i := 12) sc_Lthing.nd rfl (Or.inl rfl)) (pgs_cons (pg_name (i := 13) sc_Lthing.nd rfl (Or.inl rfl)) pgs_nil))) (pss_one (ps_if (pt_cmpR op_eq (pe_ix ix_tup (pv 13) pe_int (fun _ _ => rfl)) pe_str (nomark _)) (pss_one (ps_for PassesOwn.never rfl (pi_range1 rfl T.b_range (pa_cons (pe_callB b_len (by rfl) T.b_len (by decide +kernel) (pa_cons (pe_ix ix_tup (pv 11) pe_int (fun _ _ => rfl)) pa_nil)) pa_nil)) (pg_name (i := 14) sc_Lthing.nd rfl (Or.inl rfl)) (pss_one (ps_nput hr.units (pv 4) (pe_tup (pa_cons (pv 12) (pa_cons (pe_ix ix_tup (pe_ix ix_tup (pe_ix ix_tup (pv 11) pe_int (fun _ _ => rfl)) (pv 14) (fun _ _ => rfl)) pe_int (fun _ _ => rfl)) pa_nil))) (pe_ix ix_tup (pe_ix ix_tup (pv 13) pe_int (fun _ _ => rfl)) (pv 14) (fun _ _ => rfl)) rfl)))) pss_nil)))
    (pss_one (ps_ret pe_bl))))))))))))
  · obtain ⟨x0, x1, x2, x3, x4, rfl, h⟩ := h
    exact pu_Lthing T h

def P_law (K : PySem.W.Frag) (A : Ad) (x0 : V) (H : Hp) (Q : VK) : Prop := ∃ (a : Addr) (ns : List Int), x0 = .ref a ∧ SqL K H a (ns.map V.int) ∧ ns.length ≤ 63 ∧ ∀ H', Q (.bl true) H'
theorem KS.empty {A : Ad} {H H' : Hp} {S : Setup} {d l : Addr} {h h' g : HP} {hd : Addr} {M : HM} {N : Nat} (s : KS A H S d l h g hd M N) (f : Fr (h.os ++ g.os) H H') (al : AL H' (h'.os ++ (g.os ++ [hd, d, l]))) (ho : HouseAt A H' h' S { M with out := [] }) (la : LawAt H' g S { M with out := [] }) : KS A H' S d l h' g hd { M with out := [] } N := by
  have n := KNe.of s.al
  have nn : ∀ {a : Addr}, (∀ x ∈ h.os, x ≠ a) → (∀ x ∈ g.os, x ≠ a) → a ∉ h.os ++ g.os := fun q r z => (List.mem_append.mp z).elim (fun w => q _ w rfl) (fun w => r _ w rfl)
  exact ⟨s.D.fr f (nn (fun x hx => (n.hx x hx).2.1) fun x hx => (n.gx x hx).2.1) (nn (fun x hx => (n.hx x hx).2.2) fun x hx => (n.gx x hx).2.2), ho, la, s.he.fr f (nn (fun x hx => (n.hx x hx).1) fun x hx => (n.gx x hx).1), al, ⟨s.mo.qk, s.mo.rk, s.mo.cl, s.mo.ck, s.mo.cn, s.mo.bl⟩, s.lt, Nat.zero_le _, s.b2, s.b3⟩
theorem KS.same {A : Ad} {H H' : Hp} {S : Setup} {d l : Addr} {h g : HP} {hd : Addr} {M : HM} {N : Nat} (s : KS A H S d l h g hd M N) (f : Fr [] H H') : KS A H' S d l h g hd M N :=
  s.dh f.of0 (s.D.fr f nin0 nin0) (s.he.fr f nin0) (Nat.le_refl _)
theorem KS.draw {A : Ad} {H H' : Hp} {S : Setup} {d l : Addr} {h g : HP} {hd : Addr} {M : HM} {N : Nat} (s : KS A H S d l h g hd M N) (f : Fr [d] H H') (D : Draws H' d l) : KS A H' S d l h g hd M N :=
  s.dh (f.mono fun x hx => by rw [List.mem_singleton.mp hx]; simp) D (s.he.fr f (nin1 (KNe.of s.al).x1 nin0)) (Nat.le_refl _)
theorem KS.st {A : Ad} {H : Hp} {S : Setup} {d l : Addr} {h g : HP} {hd : Addr} {M : HM} {N : Nat} (s : KS A H S d l h g hd M N) : h.st ≠ g.st := fun z => (KNe.of s.al).hg h.st (by simp [HP.os]) (by rw [z]; simp [HP.os])
def sp_law (K : PySem.W.Frag) (A : Ad) : Sp := fun vs H Q _ => ∃ x0, vs = [x0] ∧ P_law K A x0 H Q
theorem c_law {K : PySem.W.Frag} {A : Ad} {x0 : V} {H : Hp} {Q : VK} {E : XK} (h : P_law K A x0 H Q) : sp_law K A [x0] H Q E := ⟨_, rfl, h⟩
theorem sc_law : FnScope ["_law_script", "_law_draws", "_law_setup_here", "_law_house_here", "_law_model", "_law_held", "_law_k"] ["_law_script"] (defScope s_law) := ⟨rfl, rfl, rfl, by decide +kernel, rfl, by decide +kernel, by decide +kernel⟩
def t_law (K : PySem.W.Frag) (A : Ad) : TS :=
  (tSeq (tAsg (tLst (tCons (tCl (sp_Lnumbers K A) (tCons (tVar 0) tNil)) (tCons (tC (.int 0)) tNil))) (gName 1))
    (tSeq (tAsg (tCl (sp_Lsetup K A) (tCons (tVar 1) tNil)) (gName 2))
    (tSeq (tAsg (tMk A.House (sp_House_init K A) (tCons (tVar 2) tNil)) (gName 3))
    (tSeq (tAsg (tCl (sp_Lhouse K A) (tCons (tVar 2) tNil)) (gName 4))
    (tSeq (tAsg tNNew (gName 5))
    (tSeq (tFor (iRng1 (tCons (tOp oMod (tCl (sp_Ldraw K A) (tCons (tVar 1) tNil)) (tC (.int 41))) tNil)) (gName 6) (tSeq (tIfS (tOr (tNot (tB (tCl (sp_Lthing K A) (tCons (tVar 1) (tCons (tVar 2) (tCons (tVar 3) (tCons (tVar 4) (tCons (tVar 5) tNil)))))))) (tNot (tB (tCl (sp_Lsame_house K A) (tCons (tVar 3) (tCons (tVar 4) tNil)))))) (tRet (tC (.bl false))) tNext)
    (tIfS (tAnd (tTest (tOp rEq (tOp oMod (tCl (sp_Ldraw K A) (tCons (tVar 1) tNil)) (tC (.int 2))) (tC (.int 0)))) (tNot (tB (tCl (sp_Lsame_out K A) (tCons (tVar 3) (tCons (tVar 4) tNil)))))) (tRet (tC (.bl false))) tNext)))
    (tRet (tAndV (tCl (sp_Lsame_out K A) (tCons (tVar 3) (tCons (tVar 4) tNil))) (tCl (sp_Lequal K A 12) (tCons (tMt A.House "bodies" (sp_House_bodies K A) (tVar 3) tNil) (tCons (tLst tNil) tNil)))))))))))
theorem pu_law (T : Txt K mg A) {x0 : V} {H : Hp} {Q : VK} (h : P_law K A x0 H Q) : t_law K A { nx := fun _ H' => Q .non H', rt := Q } [some x0, none, none, none, none, none, none] H := by
  obtain ⟨a, ns, rfl, hS, hl, k⟩ := h
  unfold t_law
  walk_at "go"
  refine c_Lnumbers ⟨a, ns, rfl, hS, hl, fun nl ms H1 n1 f1 e1 sm hm => ?_⟩
  walk_at "go"
  rename_i d H2 n2 f2 e2
  have D2 : Draws H2 d nl := ⟨ms, 0, e2, f2.at0 e1, sm, hm, Int.le_refl _⟩
  have ndl : d ≠ nl := (ne_of_none e1 n2).symm
  refine c_Lsetup ⟨d, nl, rfl, D2, fun sv S H3 so dS f3 D3 => ?_⟩
  clear hS f1 f2 f3 e1 e2 D2 n1 n2 sm hm
  walk_at "go"
  rename_i hp dx H4 n4 nd4 ne4 f4 e4 ed4
  refine c_House_init ⟨hp, dx, S, rfl, e4, Da.frL f4 dS (imm_setup S), so, fun h H5 hph f5 own5 ho5 => ⟨rfl, ?_⟩⟩
  have F5 : Fr [] H3 H5 := f4.own1 f5 n4
  have D5 := D3.fr F5 nin0 nin0
  have own53 : ∀ x ∈ h.os, H3 x = none := fun x hx => (own5 x hx).elim (fun z => by rw [z]; exact n4) (fun z => f4.free z)
  have al5 : AL H5 (h.os ++ [d, nl]) := by
    obtain ⟨ms, kk, q1, q2, _⟩ := id D3
    have b3 : AL H3 ([] ++ [d, nl]) := ⟨by simp [ndl], fun x hx => by
      rcases List.mem_cons.mp hx with z | z
      · rw [z]; exact ⟨_, q1⟩
      · rw [List.mem_singleton.mp z]; exact ⟨_, q2⟩⟩
    exact b3.part F5 ho5.2 fun x hx => .inr (own53 x hx)
  have dS5 := Da.frL F5 dS (imm_setup S)
  clear own5 f4 f5 e4 ed4 ne4 nd4 n4 dS D3
  walk_at "go"
  refine c_Lhouse ⟨S, dS5, so, fun g H6 f6 own6 la6 => ?_⟩
  have al6 : AL H6 (h.os ++ (g.os ++ [d, nl])) := AL.mid (os := []) al5 f6 la6.2 fun x hx => .inr (own6 x hx)
  have dS6 := Da.frL f6 dS5 (imm_setup S)
  have D6 := D5.fr f6 nin0 nin0
  have ho6 := ho5.fr f6 fun _ _ => nin0
  walk_at "go"
  rename_i hd H7 n7 f7 hk7 z H8 z0 z1 f8 D8
  have al7 : AL H7 (h.os ++ (g.os ++ [hd, d, nl])) := by
    obtain ⟨_, _, xs, q, _⟩ := id hk7
    refine (al6.new f7 n7 q).perm ?_
    have p1 : (hd :: (h.os ++ (g.os ++ [d, nl]))).Perm ((h.os ++ g.os) ++ hd :: [d, nl]) := by
      rw [← List.append_assoc]
      exact (List.perm_middle).symm
    rw [List.append_assoc] at p1
    exact p1
  have ks7 : KS A H7 S d nl h g hd (HM.start S) 0 := ⟨D6.fr f7 nin0 nin0, ho6.fr f7 fun _ _ => nin0, la6.fr f7 fun _ _ => nin0, ⟨[], hk7, fun _ h => (nomatch h), Nat.le_refl _⟩, al7, HM.start_ok, fun z => absurd rfl z, Nat.le_refl _, Nat.le_refl _, fun r hr => by
    have := List.eq_of_mem_replicate (show r ∈ List.replicate S.sellers.toNat [] from hr)
    rw [this]; exact Nat.le_refl _⟩
  have dS7 := Da.frL f7 dS6 (imm_setup S)
  clear f6 f7 n7 hk7 al6 al7 D5 D6 ho5 ho6 la6 own6 dS5 dS6 al5 own53 F5
  have ks8 := ks7.draw f8 D8
  have dS8 := Da.frL f8 dS7 (imm_setup S)
  clear ks7 dS7 f8 D8
  refine f_range (lo := 0) (n := (z % 41).toNat) (fun i σ H' => ∃ (h g : HP) (M : HM) (v6 : Option V), σ = [some (.ref a), some (.ref d), some sv, some (.ref h.p), some (.ref g.p), some (.ref hd), v6] ∧ h.p = hp ∧ KS A H' S d nl h g hd M (400 * i) ∧ Da H' sv (setupD S)) ⟨h, g, _, none, by rw [hph]; rfl, hph, ks8, dS8⟩ ?_ ?_
  · clear ks8 dS8 hph
    rintro i σ H1 hi ⟨h, g, M, v6, rfl, hph, ks, dS⟩
    have hi41 : i ≤ 40 := by omega
    walk_at "go"
    refine c_Lthing ⟨h, g, S, M, 400 * i, hd, d, nl, rfl, rfl, rfl, rfl, so, dS, ks, by omega, fun h' g' M' H2 e1 e2 ⟨m, f2⟩ ks2 => ?_⟩
    have dS2 := Da.frL f2 dS (imm_setup S)
    walk_at "go"
    refine c_Lsame_house ⟨h', g', S, M', by rw [e1], by rw [e2], ks2.ho, ks2.la, ks2.st, so, ks2.mo, by have := ks2.b2; omega, fun r hr => by have := ks2.b3 r hr; omega, fun H3 f3 => ?_⟩
    have ks3 := ks2.same f3
    have dS3 := Da.frL f3 dS2 (imm_setup S)
    have D3 := ks3.D
    walk_at "go"
    rename_i y H4 y0 y1 f4 D4
    have ks4 := ks3.draw f4 D4
    have dS4 := Da.frL f4 dS3 (imm_setup S)
    refine g_ite (fun c => ?_) (fun c => ?_)
    · walk_at "go"
      refine c_Lsame_out ⟨h', g', S, M', [hd, d, nl], by rw [e1], by rw [e2], ks4.ho, ks4.la, ks4.al, by have := ks4.b1; omega, fun h2 H5 q f5 al5 ho5 la5 => ?_⟩
      walk_at "go"
      exact ⟨h2, g', { M' with out := [] }, _, by rw [q, e1, e2]; rfl, by rw [q, e1, hph], (ks4.empty f5 al5 ho5 la5).mono (by omega), Da.frL f5 dS4 (imm_setup S)⟩
    · walk_at "go"
      exact ⟨h', g', M', _, by rw [e1, e2]; rfl, by rw [e1, hph], ks4.mono (by omega), dS4⟩
  · clear ks8 dS8 hph
    rintro σ H1 ⟨h, g, M, v6, rfl, hph, ks, dS⟩
    have hb1 := ks.b1
    walk_at "go"
    refine c_Lsame_out ⟨h, g, S, M, [hd, d, nl], rfl, rfl, ks.ho, ks.la, ks.al, by omega, fun h2 H5 q f5 al5 ho5 la5 => ?_⟩
    obtain ⟨⟨dx2, rdh, eh, ch⟩, alh⟩ := id ho5
    walk_at "go"
    refine g_rmt (by rw [← q]; exact eh) rfl ?_
    walk_at "go"
    refine c_House_bodies ⟨h2, S, { M with out := [] }, by rw [q], ho5, fun o H6 n6 f6 ho6 lo6 => ?_⟩
    walk_at "go"
    rename_i e H7 n7 f7 e7
    refine c_Lequal ⟨.list [], (lo6.fr f7 nin0).da (Nat.zero_le _), .lst e7 (Nat.zero_le _) .nil, by simp [dp, dpL], ?_⟩
    exact k _
theorem ok_law {f : Addr} {fd : FuncData} (F : Fun K "law" "law" s_law f fd) (T : Txt K mg A) (c_Lsetup : Cal P w K mg base "_law_setup" 3 ["_law_draws"] (sp_Lsetup K A)) (c_House_init : CalC P w K mg base "House" A.House 1 ["self", "setup"] (sp_House_init K A)) (c_Lhouse : Cal P w K mg base "_law_house" 1 ["_law_setup_here"] (sp_Lhouse K A)) (c_Lnumbers : Cal P w K mg base "_law_numbers" 2 ["_law_script"] (sp_Lnumbers K A)) (c_Lsame_out : Cal P w K mg base "_law_same_out" 26 ["_law_house_here", "_law_model"] (sp_Lsame_out K A)) (c_Lequal : Cal P w K mg base "_law_equal" 25 ["_law_actual", "_law_due"] (sp_Lequal K A 12)) (c_Ldraw : Cal P w K mg base "_law_draw" 2 ["_law_draws"] (sp_Ldraw K A)) (c_House_bodies : CalM P w K mg base A.House "bodies" 1 ["self"] (sp_House_bodies K A)) (c_Lthing : Cal P w K mg base "_law_thing" 27 ["_law_draws", "_law_setup_here", "_law_house_here", "_law_model", "_law_held"] (sp_Lthing K A)) (c_Lsame_house : Cal P w K mg base "_law_same_house" 27 ["_law_house_here", "_law_model"] (sp_Lsame_house K A)) : FnOk P w K mg base CX0 (28) f fd ["_law_script"] (sp_law K A) := by
  refine F.ok sc_law (fun vs H Q E h => ?_) (fun cdv Ar outer s H vs Q E hr h => ⟨t_law K A, ?_, ?_⟩)
  · obtain ⟨x0, rfl, _⟩ := h
    rfl
  · have hu := hu_of hr
    exact (pss_cons (ps_set (i := 1) sc_law.nd rfl (Or.inl rfl) (pe_lst (pa_cons (pe_cl c_Lnumbers (hr.mono (by first | decide | omega)) (by rfl) (pa_cons (pv 0) pa_nil)) (pa_cons pe_int pa_nil))))
    (pss_cons (ps_set (i := 2) sc_law.nd rfl (Or.inl rfl) (pe_cl c_Lsetup (hr.mono (by first | decide | omega)) (by rfl) (pa_cons (pv 1) pa_nil)))
    (pss_cons (ps_set (i := 3) sc_law.nd rfl (Or.inl rfl) (pe_mk c_House_init (hr.mono (by first | decide | omega)) (by rfl) (pa_cons (pv 2) pa_nil)))
    (pss_cons (ps_set (i := 4) sc_law.nd rfl (Or.inl rfl) (pe_cl c_Lhouse (hr.mono (by first | decide | omega)) (by rfl) (pa_cons (pv 2) pa_nil)))
    (pss_cons (ps_set (i := 5) sc_law.nd rfl (Or.inl rfl) pe_nnew)
    (pss_cons (ps_for PassesOwn.never rfl (pi_range1 rfl T.b_range (pa_cons (pe_op o_mod (pe_cl c_Ldraw (hr.mono (by first | decide | omega)) (by rfl) (pa_cons (pv 1) pa_nil)) pe_int) pa_nil)) (pg_name (i := 6) sc_law.nd rfl (Or.inl rfl)) (pss_cons (ps_if (PW.pt (pw_or (pt_not (pt_val (pe_cl c_Lthing (hr.mono (by first | decide | omega)) (by rfl) (pa_cons (pv 1) (pa_cons (pv 2) (pa_cons (pv 3) (pa_cons (pv 4) (pa_cons (pv 5) pa_nil)))))))) (pw_or1 (pt_not (pt_val (pe_cl c_Lsame_house (hr.mono (by first | decide | omega)) (by rfl) (pa_cons (pv 3) (pa_cons (pv 4) pa_nil)))))))) (pss_one (ps_ret pe_bl)) pss_nil)
    (pss_one (ps_if (PW.pt (pw_and (pt_cmpR op_eq (pe_op o_mod (pe_cl c_Ldraw (hr.mono (by first | decide | omega)) (by rfl) (pa_cons (pv 1) pa_nil)) pe_int) pe_int (nomark _)) (pw_and1 (pt_not (pt_val (pe_cl c_Lsame_out (hr.mono (by first | decide | omega)) (by rfl) (pa_cons (pv 3) (pa_cons (pv 4) pa_nil)))))))) (pss_one (ps_ret pe_bl)) pss_nil))))
    (pss_one (ps_ret (pe_and (pe_cl c_Lsame_out (hr.mono (by first | decide | omega)) (by rfl) (pa_cons (pv 3) (pa_cons (pv 4) pa_nil))) (pe_one (pe_cl c_Lequal (hr.mono (by first | decide | omega)) (by rfl) (pa_cons (pe_mt0 (pv 3) T.cl_House c_House_bodies (hr.mono (by first | decide | omega))) (pa_cons (pe_lst pa_nil) pa_nil)))))))))))))
  · obtain ⟨x0, rfl, h⟩ := h
    exact pu_law T h
end
/-! ### what the top has written -/
theorem all_mk {l : PySem.W.OpenLaw} {w : World} {K : PySem.W.Frag} {h : Heap} {mg : Str → Option Value} {fa : Addr} (X : K.In h) (G : h.Ns mainGlobals mg) (hfa : mg "law" = some (.ref fa))
    {f1 : Addr} {od1 an1 : Option Addr} {sl1 : Array (Option Value)} {oc1 kV1 dc1 pm1 cd1 ct1 : Value}
    {f2 : Addr} {od2 an2 : Option Addr} {sl2 : Array (Option Value)} {oc2 kV2 dc2 pm2 cd2 ct2 : Value}
    {f3 : Addr} {od3 an3 : Option Addr} {sl3 : Array (Option Value)} {oc3 kV3 dc3 pm3 cd3 ct3 : Value}
    {f4 : Addr} {od4 an4 : Option Addr} {sl4 : Array (Option Value)} {oc4 kV4 dc4 pm4 cd4 ct4 : Value}
    {f5 : Addr} {od5 an5 : Option Addr} {sl5 : Array (Option Value)} {oc5 kV5 dc5 pm5 cd5 ct5 : Value}
    {f6 : Addr} {od6 an6 : Option Addr} {sl6 : Array (Option Value)} {oc6 kV6 dc6 pm6 cd6 ct6 : Value}
    {f7 : Addr} {od7 an7 : Option Addr} {sl7 : Array (Option Value)} {oc7 kV7 dc7 pm7 cd7 ct7 : Value}
    {f8 : Addr} {od8 an8 : Option Addr} {sl8 : Array (Option Value)} {oc8 kV8 dc8 pm8 cd8 ct8 : Value}
    {f9 : Addr} {od9 an9 : Option Addr} {sl9 : Array (Option Value)} {oc9 kV9 dc9 pm9 cd9 ct9 : Value}
    {f10 : Addr} {od10 an10 : Option Addr} {sl10 : Array (Option Value)} {oc10 kV10 dc10 pm10 cd10 ct10 : Value}
    {f11 : Addr} {od11 an11 : Option Addr} {sl11 : Array (Option Value)} {oc11 kV11 dc11 pm11 cd11 ct11 : Value}
    {f12 : Addr} {od12 an12 : Option Addr} {sl12 : Array (Option Value)} {oc12 kV12 dc12 pm12 cd12 ct12 : Value}
    {f13 : Addr} {od13 an13 : Option Addr} {sl13 : Array (Option Value)} {oc13 kV13 dc13 pm13 cd13 ct13 : Value}
    {f14 : Addr} {od14 an14 : Option Addr} {sl14 : Array (Option Value)} {oc14 kV14 dc14 pm14 cd14 ct14 : Value}
    {f15 : Addr} {od15 an15 : Option Addr} {sl15 : Array (Option Value)} {oc15 kV15 dc15 pm15 cd15 ct15 : Value}
    {f16 : Addr} {od16 an16 : Option Addr} {sl16 : Array (Option Value)} {oc16 kV16 dc16 pm16 cd16 ct16 : Value}
    {f17 : Addr} {od17 an17 : Option Addr} {sl17 : Array (Option Value)} {oc17 kV17 dc17 pm17 cd17 ct17 : Value}
    {f18 : Addr} {od18 an18 : Option Addr} {sl18 : Array (Option Value)} {oc18 kV18 dc18 pm18 cd18 ct18 : Value}
    {f19 : Addr} {od19 an19 : Option Addr} {sl19 : Array (Option Value)} {oc19 kV19 dc19 pm19 cd19 ct19 : Value}
    {f20 : Addr} {od20 an20 : Option Addr} {sl20 : Array (Option Value)} {oc20 kV20 dc20 pm20 cd20 ct20 : Value}
    {f21 : Addr} {od21 an21 : Option Addr} {sl21 : Array (Option Value)} {oc21 kV21 dc21 pm21 cd21 ct21 : Value}
    {f22 : Addr} {od22 an22 : Option Addr} {sl22 : Array (Option Value)} {oc22 kV22 dc22 pm22 cd22 ct22 : Value}
    {f23 : Addr} {od23 an23 : Option Addr} {sl23 : Array (Option Value)} {oc23 kV23 dc23 pm23 cd23 ct23 : Value}
    {f24 : Addr} {od24 an24 : Option Addr} {sl24 : Array (Option Value)} {oc24 kV24 dc24 pm24 cd24 ct24 : Value}
    {f25 : Addr} {od25 an25 : Option Addr} {sl25 : Array (Option Value)} {oc25 kV25 dc25 pm25 cd25 ct25 : Value}
    {f26 : Addr} {od26 an26 : Option Addr} {sl26 : Array (Option Value)} {oc26 kV26 dc26 pm26 cd26 ct26 : Value}
    {f27 : Addr} {od27 an27 : Option Addr} {sl27 : Array (Option Value)} {oc27 kV27 dc27 pm27 cd27 ct27 : Value}
    {f28 : Addr} {od28 an28 : Option Addr} {sl28 : Array (Option Value)} {oc28 kV28 dc28 pm28 cd28 ct28 : Value}
    {f29 : Addr} {od29 an29 : Option Addr} {sl29 : Array (Option Value)} {oc29 kV29 dc29 pm29 cd29 ct29 : Value}
    {f30 : Addr} {od30 an30 : Option Addr} {sl30 : Array (Option Value)} {oc30 kV30 dc30 pm30 cd30 ct30 : Value}
    {C_House : Addr}
    (aC_House : PySem.W.nsIn K mainGlobals "House" = some (some (.ref C_House)))
    (a1 : PySem.W.findIn K (.ref C_House) "__init__" = some (some (.ref f1)))
    (i1 : PySem.W.isFn K (.ref f1) = true)
    (l1 : K.lookup f1 = some ⟨oc1, od1, .func (PySem.W.fnOf "__init__" "House.__init__" (defArgs s_House_init) (defBody s_House_init) (defScope s_House_init) .none kV1 dc1 pm1 an1 cd1 ct1), sl1⟩)
    (c1 : PySem.W.codeIn K cd1 "House.__init__" = true)
    (k1 : PySem.W.keepIn K (.ref f1) = true)
    (a2 : PySem.W.findIn K (.ref C_House) "bodies" = some (some (.ref f2)))
    (i2 : PySem.W.isFn K (.ref f2) = true)
    (l2 : K.lookup f2 = some ⟨oc2, od2, .func (PySem.W.fnOf "bodies" "House.bodies" (defArgs s_House_bodies) (defBody s_House_bodies) (defScope s_House_bodies) .none kV2 dc2 pm2 an2 cd2 ct2), sl2⟩)
    (c2 : PySem.W.codeIn K cd2 "House.bodies" = true)
    (k2 : PySem.W.keepIn K (.ref f2) = true)
    (a3 : PySem.W.findIn K (.ref C_House) "cells" = some (some (.ref f3)))
    (i3 : PySem.W.isFn K (.ref f3) = true)
    (l3 : K.lookup f3 = some ⟨oc3, od3, .func (PySem.W.fnOf "cells" "House.cells" (defArgs s_House_cells) (defBody s_House_cells) (defScope s_House_cells) .none kV3 dc3 pm3 an3 cd3 ct3), sl3⟩)
    (c3 : PySem.W.codeIn K cd3 "House.cells" = true)
    (k3 : PySem.W.keepIn K (.ref f3) = true)
    (a4 : PySem.W.findIn K (.ref C_House) "look" = some (some (.ref f4)))
    (i4 : PySem.W.isFn K (.ref f4) = true)
    (l4 : K.lookup f4 = some ⟨oc4, od4, .func (PySem.W.fnOf "look" "House.look" (defArgs s_House_look) (defBody s_House_look) (defScope s_House_look) .none kV4 dc4 pm4 an4 cd4 ct4), sl4⟩)
    (c4 : PySem.W.codeIn K cd4 "House.look" = true)
    (k4 : PySem.W.keepIn K (.ref f4) = true)
    (a5 : PySem.W.findIn K (.ref C_House) "decide" = some (some (.ref f5)))
    (i5 : PySem.W.isFn K (.ref f5) = true)
    (l5 : K.lookup f5 = some ⟨oc5, od5, .func (PySem.W.fnOf "decide" "House.decide" (defArgs s_House_decide) (defBody s_House_decide) (defScope s_House_decide) .none kV5 dc5 pm5 an5 cd5 ct5), sl5⟩)
    (c5 : PySem.W.codeIn K cd5 "House.decide" = true)
    (k5 : PySem.W.keepIn K (.ref f5) = true)
    (a6 : PySem.W.findIn K (.ref C_House) "closed" = some (some (.ref f6)))
    (i6 : PySem.W.isFn K (.ref f6) = true)
    (l6 : K.lookup f6 = some ⟨oc6, od6, .func (PySem.W.fnOf "closed" "House.closed" (defArgs s_House_closed) (defBody s_House_closed) (defScope s_House_closed) .none kV6 dc6 pm6 an6 cd6 ct6), sl6⟩)
    (c6 : PySem.W.codeIn K cd6 "House.closed" = true)
    (k6 : PySem.W.keepIn K (.ref f6) = true)
    (a7 : PySem.W.findIn K (.ref C_House) "handle" = some (some (.ref f7)))
    (i7 : PySem.W.isFn K (.ref f7) = true)
    (l7 : K.lookup f7 = some ⟨oc7, od7, .func (PySem.W.fnOf "handle" "House.handle" (defArgs s_House_handle) (defBody s_House_handle) (defScope s_House_handle) .none kV7 dc7 pm7 an7 cd7 ct7), sl7⟩)
    (c7 : PySem.W.codeIn K cd7 "House.handle" = true)
    (k7 : PySem.W.keepIn K (.ref f7) = true)
    (a8 : PySem.W.findIn K (.ref C_House) "give" = some (some (.ref f8)))
    (i8 : PySem.W.isFn K (.ref f8) = true)
    (l8 : K.lookup f8 = some ⟨oc8, od8, .func (PySem.W.fnOf "give" "House.give" (defArgs s_House_give) (defBody s_House_give) (defScope s_House_give) .none kV8 dc8 pm8 an8 cd8 ct8), sl8⟩)
    (c8 : PySem.W.codeIn K cd8 "House.give" = true)
    (k8 : PySem.W.keepIn K (.ref f8) = true)
    (a9 : PySem.W.findIn K (.ref C_House) "want" = some (some (.ref f9)))
    (i9 : PySem.W.isFn K (.ref f9) = true)
    (l9 : K.lookup f9 = some ⟨oc9, od9, .func (PySem.W.fnOf "want" "House.want" (defArgs s_House_want) (defBody s_House_want) (defScope s_House_want) .none kV9 dc9 pm9 an9 cd9 ct9), sl9⟩)
    (c9 : PySem.W.codeIn K cd9 "House.want" = true)
    (k9 : PySem.W.keepIn K (.ref f9) = true)
    (a10 : PySem.W.nsIn K mainGlobals "_law_mixed" = some (some (.ref f10)))
    (l10 : K.lookup f10 = some ⟨oc10, od10, .func (PySem.W.fnOf "_law_mixed" "_law_mixed" (defArgs s_Lmixed) (defBody s_Lmixed) (defScope s_Lmixed) .none kV10 dc10 pm10 an10 cd10 ct10), sl10⟩)
    (c10 : PySem.W.codeIn K cd10 "_law_mixed" = true)
    (k10 : PySem.W.keepIn K (.ref f10) = true)
    (a11 : PySem.W.nsIn K mainGlobals "_law_numbers" = some (some (.ref f11)))
    (l11 : K.lookup f11 = some ⟨oc11, od11, .func (PySem.W.fnOf "_law_numbers" "_law_numbers" (defArgs s_Lnumbers) (defBody s_Lnumbers) (defScope s_Lnumbers) .none kV11 dc11 pm11 an11 cd11 ct11), sl11⟩)
    (c11 : PySem.W.codeIn K cd11 "_law_numbers" = true)
    (k11 : PySem.W.keepIn K (.ref f11) = true)
    (a12 : PySem.W.nsIn K mainGlobals "_law_draw" = some (some (.ref f12)))
    (l12 : K.lookup f12 = some ⟨oc12, od12, .func (PySem.W.fnOf "_law_draw" "_law_draw" (defArgs s_Ldraw) (defBody s_Ldraw) (defScope s_Ldraw) .none kV12 dc12 pm12 an12 cd12 ct12), sl12⟩)
    (c12 : PySem.W.codeIn K cd12 "_law_draw" = true)
    (k12 : PySem.W.keepIn K (.ref f12) = true)
    (a13 : PySem.W.nsIn K mainGlobals "_law_equal" = some (some (.ref f13)))
    (l13 : K.lookup f13 = some ⟨oc13, od13, .func (PySem.W.fnOf "_law_equal" "_law_equal" (defArgs s_Lequal) (defBody s_Lequal) (defScope s_Lequal) .none kV13 dc13 pm13 an13 cd13 ct13), sl13⟩)
    (c13 : PySem.W.codeIn K cd13 "_law_equal" = true)
    (k13 : PySem.W.keepIn K (.ref f13) = true)
    (a14 : PySem.W.nsIn K mainGlobals "_law_all_equal" = some (some (.ref f14)))
    (l14 : K.lookup f14 = some ⟨oc14, od14, .func (PySem.W.fnOf "_law_all_equal" "_law_all_equal" (defArgs s_Lall_equal) (defBody s_Lall_equal) (defScope s_Lall_equal) .none kV14 dc14 pm14 an14 cd14 ct14), sl14⟩)
    (c14 : PySem.W.codeIn K cd14 "_law_all_equal" = true)
    (k14 : PySem.W.keepIn K (.ref f14) = true)
    (a15 : PySem.W.nsIn K mainGlobals "_law_setup" = some (some (.ref f15)))
    (l15 : K.lookup f15 = some ⟨oc15, od15, .func (PySem.W.fnOf "_law_setup" "_law_setup" (defArgs s_Lsetup) (defBody s_Lsetup) (defScope s_Lsetup) .none kV15 dc15 pm15 an15 cd15 ct15), sl15⟩)
    (c15 : PySem.W.codeIn K cd15 "_law_setup" = true)
    (k15 : PySem.W.keepIn K (.ref f15) = true)
    (a16 : PySem.W.nsIn K mainGlobals "_law_stay" = some (some (.ref f16)))
    (l16 : K.lookup f16 = some ⟨oc16, od16, .func (PySem.W.fnOf "_law_stay" "_law_stay" (defArgs s_Lstay) (defBody s_Lstay) (defScope s_Lstay) .none kV16 dc16 pm16 an16 cd16 ct16), sl16⟩)
    (c16 : PySem.W.codeIn K cd16 "_law_stay" = true)
    (k16 : PySem.W.keepIn K (.ref f16) = true)
    (a17 : PySem.W.nsIn K mainGlobals "_law_party" = some (some (.ref f17)))
    (l17 : K.lookup f17 = some ⟨oc17, od17, .func (PySem.W.fnOf "_law_party" "_law_party" (defArgs s_Lparty) (defBody s_Lparty) (defScope s_Lparty) .none kV17 dc17 pm17 an17 cd17 ct17), sl17⟩)
    (c17 : PySem.W.codeIn K cd17 "_law_party" = true)
    (k17 : PySem.W.keepIn K (.ref f17) = true)
    (a18 : PySem.W.nsIn K mainGlobals "_law_needs" = some (some (.ref f18)))
    (l18 : K.lookup f18 = some ⟨oc18, od18, .func (PySem.W.fnOf "_law_needs" "_law_needs" (defArgs s_Lneeds) (defBody s_Lneeds) (defScope s_Lneeds) .none kV18 dc18 pm18 an18 cd18 ct18), sl18⟩)
    (c18 : PySem.W.codeIn K cd18 "_law_needs" = true)
    (k18 : PySem.W.keepIn K (.ref f18) = true)
    (a19 : PySem.W.nsIn K mainGlobals "_law_house" = some (some (.ref f19)))
    (l19 : K.lookup f19 = some ⟨oc19, od19, .func (PySem.W.fnOf "_law_house" "_law_house" (defArgs s_Lhouse) (defBody s_Lhouse) (defScope s_Lhouse) .none kV19 dc19 pm19 an19 cd19 ct19), sl19⟩)
    (c19 : PySem.W.codeIn K cd19 "_law_house" = true)
    (k19 : PySem.W.keepIn K (.ref f19) = true)
    (a20 : PySem.W.nsIn K mainGlobals "_law_look" = some (some (.ref f20)))
    (l20 : K.lookup f20 = some ⟨oc20, od20, .func (PySem.W.fnOf "_law_look" "_law_look" (defArgs s_Llook) (defBody s_Llook) (defScope s_Llook) .none kV20 dc20 pm20 an20 cd20 ct20), sl20⟩)
    (c20 : PySem.W.codeIn K cd20 "_law_look" = true)
    (k20 : PySem.W.keepIn K (.ref f20) = true)
    (a21 : PySem.W.nsIn K mainGlobals "_law_decide" = some (some (.ref f21)))
    (l21 : K.lookup f21 = some ⟨oc21, od21, .func (PySem.W.fnOf "_law_decide" "_law_decide" (defArgs s_Ldecide) (defBody s_Ldecide) (defScope s_Ldecide) .none kV21 dc21 pm21 an21 cd21 ct21), sl21⟩)
    (c21 : PySem.W.codeIn K cd21 "_law_decide" = true)
    (k21 : PySem.W.keepIn K (.ref f21) = true)
    (a22 : PySem.W.nsIn K mainGlobals "_law_house_handles" = some (some (.ref f22)))
    (l22 : K.lookup f22 = some ⟨oc22, od22, .func (PySem.W.fnOf "_law_house_handles" "_law_house_handles" (defArgs s_Lhouse_handles) (defBody s_Lhouse_handles) (defScope s_Lhouse_handles) .none kV22 dc22 pm22 an22 cd22 ct22), sl22⟩)
    (c22 : PySem.W.codeIn K cd22 "_law_house_handles" = true)
    (k22 : PySem.W.keepIn K (.ref f22) = true)
    (a23 : PySem.W.nsIn K mainGlobals "_law_same_stock" = some (some (.ref f23)))
    (l23 : K.lookup f23 = some ⟨oc23, od23, .func (PySem.W.fnOf "_law_same_stock" "_law_same_stock" (defArgs s_Lsame_stock) (defBody s_Lsame_stock) (defScope s_Lsame_stock) .none kV23 dc23 pm23 an23 cd23 ct23), sl23⟩)
    (c23 : PySem.W.codeIn K cd23 "_law_same_stock" = true)
    (k23 : PySem.W.keepIn K (.ref f23) = true)
    (a24 : PySem.W.nsIn K mainGlobals "_law_same_house" = some (some (.ref f24)))
    (l24 : K.lookup f24 = some ⟨oc24, od24, .func (PySem.W.fnOf "_law_same_house" "_law_same_house" (defArgs s_Lsame_house) (defBody s_Lsame_house) (defScope s_Lsame_house) .none kV24 dc24 pm24 an24 cd24 ct24), sl24⟩)
    (c24 : PySem.W.codeIn K cd24 "_law_same_house" = true)
    (k24 : PySem.W.keepIn K (.ref f24) = true)
    (a25 : PySem.W.nsIn K mainGlobals "_law_same_out" = some (some (.ref f25)))
    (l25 : K.lookup f25 = some ⟨oc25, od25, .func (PySem.W.fnOf "_law_same_out" "_law_same_out" (defArgs s_Lsame_out) (defBody s_Lsame_out) (defScope s_Lsame_out) .none kV25 dc25 pm25 an25 cd25 ct25), sl25⟩)
    (c25 : PySem.W.codeIn K cd25 "_law_same_out" = true)
    (k25 : PySem.W.keepIn K (.ref f25) = true)
    (a26 : PySem.W.nsIn K mainGlobals "_law_lack" = some (some (.ref f26)))
    (l26 : K.lookup f26 = some ⟨oc26, od26, .func (PySem.W.fnOf "_law_lack" "_law_lack" (defArgs s_Llack) (defBody s_Llack) (defScope s_Llack) .none kV26 dc26 pm26 an26 cd26 ct26), sl26⟩)
    (c26 : PySem.W.codeIn K cd26 "_law_lack" = true)
    (k26 : PySem.W.keepIn K (.ref f26) = true)
    (a27 : PySem.W.nsIn K mainGlobals "_law_closed" = some (some (.ref f27)))
    (l27 : K.lookup f27 = some ⟨oc27, od27, .func (PySem.W.fnOf "_law_closed" "_law_closed" (defArgs s_Lclosed) (defBody s_Lclosed) (defScope s_Lclosed) .none kV27 dc27 pm27 an27 cd27 ct27), sl27⟩)
    (c27 : PySem.W.codeIn K cd27 "_law_closed" = true)
    (k27 : PySem.W.keepIn K (.ref f27) = true)
    (a28 : PySem.W.nsIn K mainGlobals "_law_given" = some (some (.ref f28)))
    (l28 : K.lookup f28 = some ⟨oc28, od28, .func (PySem.W.fnOf "_law_given" "_law_given" (defArgs s_Lgiven) (defBody s_Lgiven) (defScope s_Lgiven) .none kV28 dc28 pm28 an28 cd28 ct28), sl28⟩)
    (c28 : PySem.W.codeIn K cd28 "_law_given" = true)
    (k28 : PySem.W.keepIn K (.ref f28) = true)
    (a29 : PySem.W.nsIn K mainGlobals "_law_thing" = some (some (.ref f29)))
    (l29 : K.lookup f29 = some ⟨oc29, od29, .func (PySem.W.fnOf "_law_thing" "_law_thing" (defArgs s_Lthing) (defBody s_Lthing) (defScope s_Lthing) .none kV29 dc29 pm29 an29 cd29 ct29), sl29⟩)
    (c29 : PySem.W.codeIn K cd29 "_law_thing" = true)
    (k29 : PySem.W.keepIn K (.ref f29) = true)
    (a30 : PySem.W.nsIn K mainGlobals "law" = some (some (.ref f30)))
    (l30 : K.lookup f30 = some ⟨oc30, od30, .func (PySem.W.fnOf "law" "law" (defArgs s_law) (defBody s_law) (defScope s_law) .none kV30 dc30 pm30 an30 cd30 ct30), sl30⟩)
    (c30 : PySem.W.codeIn K cd30 "law" = true)
    (k30 : PySem.W.keepIn K (.ref f30) = true)
    (pg_House : PySem.W.plainGet K C_House Str.empty = true)
    (hd_House : PySem.W.hasDictIn K C_House = true)
    (po_House : PySem.W.plainOver K C_House = true)
    (sa_House : PySem.W.findIn K (.ref C_House) "__setattr__" = some (some (.builtin "object.__setattr__")))
    (mk_House : PySem.W.makesIn K C_House = true)
    (kc_House : PySem.W.keepIn K (.ref C_House) = true)
    (no_House_sellers : PySem.W.findIn K (.ref C_House) "sellers" = some none)
    (no_House_stock : PySem.W.findIn K (.ref C_House) "stock" = some none)
    (no_House_books : PySem.W.findIn K (.ref C_House) "books" = some none)
    (no_House_queue : PySem.W.findIn K (.ref C_House) "queue" = some none)
    (no_House_round : PySem.W.findIn K (.ref C_House) "round" = some none)
    (no_House_counts : PySem.W.findIn K (.ref C_House) "counts" = some none)
    (no_House_outgoing : PySem.W.findIn K (.ref C_House) "outgoing" = some none)
    (z_enumerate : PySem.W.nsIn K mainGlobals "enumerate" = some none)
    (z_range : PySem.W.nsIn K mainGlobals "range" = some none)
    (z_tuple : PySem.W.nsIn K mainGlobals "tuple" = some none)
    (z_all : PySem.W.nsIn K mainGlobals "all" = some none)
    (z_zip : PySem.W.nsIn K mainGlobals "zip" = some none)
    (z_min : PySem.W.nsIn K mainGlobals "min" = some none)
    (z_len : PySem.W.nsIn K mainGlobals "len" = some none)
    (z_isinstance : PySem.W.nsIn K mainGlobals "isinstance" = some none)
    (z_list : PySem.W.nsIn K mainGlobals "list" = some none)
    (z_bool : PySem.W.nsIn K mainGlobals "bool" = some none)
    (z_int : PySem.W.nsIn K mainGlobals "int" = some none)
    (z_str : PySem.W.nsIn K mainGlobals "str" = some none)
    (z_sorted : PySem.W.nsIn K mainGlobals "sorted" = some none)
    (z_dict : PySem.W.nsIn K mainGlobals "dict" = some none)
    : ∃ fd : FuncData, (∀ (s : Shared) (v : Value), BindsTo s fd ⟨[v], []⟩ [("_law_script", v)]) ∧ ∀ base : Heap, K.In base → base.Ns mainGlobals mg → FnOk l.prog w K mg base CX0 28 fa fd ["_law_script"] (spLaw K) := by
  have e := hfa.symm.trans (PySem.W.mg_of X G a30)
  cases e
  let A : Ad := ⟨C_House⟩
  have T : Txt K mg A := { b_enumerate := PySem.W.mg_none_of X G z_enumerate, b_range := PySem.W.mg_none_of X G z_range, b_tuple := PySem.W.mg_none_of X G z_tuple, b_all := PySem.W.mg_none_of X G z_all, b_zip := PySem.W.mg_none_of X G z_zip, b_min := PySem.W.mg_none_of X G z_min, b_len := PySem.W.mg_none_of X G z_len, b_isinstance := PySem.W.mg_none_of X G z_isinstance, b_list := PySem.W.mg_none_of X G z_list, b_bool := PySem.W.mg_none_of X G z_bool, b_int := PySem.W.mg_none_of X G z_int, b_str := PySem.W.mg_none_of X G z_str, b_sorted := PySem.W.mg_none_of X G z_sorted, b_dict := PySem.W.mg_none_of X G z_dict, cl_House := ⟨pg_House, hd_House, po_House, sa_House⟩, no_House_sellers := no_House_sellers, no_House_stock := no_House_stock, no_House_books := no_House_books, no_House_queue := no_House_queue, no_House_round := no_House_round, no_House_counts := no_House_counts, no_House_outgoing := no_House_outgoing }
  have F1 := fun_mk (st := s_House_init) l1 c1 k1
  have b1 := F1.binds (ps := ["self", "setup"]) fun _ _ _ _ _ _ us hl => match us, hl with | [_, _], _ => rfl
  have F2 := fun_mk (st := s_House_bodies) l2 c2 k2
  have b2 := F2.binds (ps := ["self"]) fun _ _ _ _ _ _ us hl => match us, hl with | [_], _ => rfl
  have F3 := fun_mk (st := s_House_cells) l3 c3 k3
  have b3 := F3.binds (ps := ["self"]) fun _ _ _ _ _ _ us hl => match us, hl with | [_], _ => rfl
  have F4 := fun_mk (st := s_House_look) l4 c4 k4
  have b4 := F4.binds (ps := ["self"]) fun _ _ _ _ _ _ us hl => match us, hl with | [_], _ => rfl
  have F5 := fun_mk (st := s_House_decide) l5 c5 k5
  have b5 := F5.binds (ps := ["self"]) fun _ _ _ _ _ _ us hl => match us, hl with | [_], _ => rfl
  have F6 := fun_mk (st := s_House_closed) l6 c6 k6
  have b6 := F6.binds (ps := ["self", "seller", "counts"]) fun _ _ _ _ _ _ us hl => match us, hl with | [_, _, _], _ => rfl
  have F7 := fun_mk (st := s_House_handle) l7 c7 k7
  have b7 := F7.binds (ps := ["self", "seller", "body"]) fun _ _ _ _ _ _ us hl => match us, hl with | [_, _, _], _ => rfl
  have F8 := fun_mk (st := s_House_give) l8 c8 k8
  have b8 := F8.binds (ps := ["self", "seller", "kind", "night"]) fun _ _ _ _ _ _ us hl => match us, hl with | [_, _, _, _], _ => rfl
  have F9 := fun_mk (st := s_House_want) l9 c9 k9
  have b9 := F9.binds (ps := ["self", "seller", "kind", "night"]) fun _ _ _ _ _ _ us hl => match us, hl with | [_, _, _, _], _ => rfl
  have F10 := fun_mk (st := s_Lmixed) l10 c10 k10
  have b10 := F10.binds (ps := ["_law_number", "_law_k"]) fun _ _ _ _ _ _ us hl => match us, hl with | [_, _], _ => rfl
  have F11 := fun_mk (st := s_Lnumbers) l11 c11 k11
  have b11 := F11.binds (ps := ["_law_script"]) fun _ _ _ _ _ _ us hl => match us, hl with | [_], _ => rfl
  have F12 := fun_mk (st := s_Ldraw) l12 c12 k12
  have b12 := F12.binds (ps := ["_law_draws"]) fun _ _ _ _ _ _ us hl => match us, hl with | [_], _ => rfl
  have F13 := fun_mk (st := s_Lequal) l13 c13 k13
  have b13 := F13.binds (ps := ["_law_actual", "_law_due"]) fun _ _ _ _ _ _ us hl => match us, hl with | [_, _], _ => rfl
  have F14 := fun_mk (st := s_Lall_equal) l14 c14 k14
  have b14 := F14.binds (ps := ["_law_actual", "_law_due"]) fun _ _ _ _ _ _ us hl => match us, hl with | [_, _], _ => rfl
  have F15 := fun_mk (st := s_Lsetup) l15 c15 k15
  have b15 := F15.binds (ps := ["_law_draws"]) fun _ _ _ _ _ _ us hl => match us, hl with | [_], _ => rfl
  have F16 := fun_mk (st := s_Lstay) l16 c16 k16
  have b16 := F16.binds (ps := ["_law_draws", "_law_setup_here"]) fun _ _ _ _ _ _ us hl => match us, hl with | [_, _], _ => rfl
  have F17 := fun_mk (st := s_Lparty) l17 c17 k17
  have b17 := F17.binds (ps := ["_law_draws", "_law_setup_here"]) fun _ _ _ _ _ _ us hl => match us, hl with | [_, _], _ => rfl
  have F18 := fun_mk (st := s_Lneeds) l18 c18 k18
  have b18 := F18.binds (ps := ["_law_party_here"]) fun _ _ _ _ _ _ us hl => match us, hl with | [_], _ => rfl
  have F19 := fun_mk (st := s_Lhouse) l19 c19 k19
  have b19 := F19.binds (ps := ["_law_setup_here"]) fun _ _ _ _ _ _ us hl => match us, hl with | [_], _ => rfl
  have F20 := fun_mk (st := s_Llook) l20 c20 k20
  have b20 := F20.binds (ps := ["_law_setup_here", "_law_model"]) fun _ _ _ _ _ _ us hl => match us, hl with | [_, _], _ => rfl
  have F21 := fun_mk (st := s_Ldecide) l21 c21 k21
  have b21 := F21.binds (ps := ["_law_setup_here", "_law_model"]) fun _ _ _ _ _ _ us hl => match us, hl with | [_, _], _ => rfl
  have F22 := fun_mk (st := s_Lhouse_handles) l22 c22 k22
  have b22 := F22.binds (ps := ["_law_setup_here", "_law_model", "_law_s", "_law_body"]) fun _ _ _ _ _ _ us hl => match us, hl with | [_, _, _, _], _ => rfl
  have F23 := fun_mk (st := s_Lsame_stock) l23 c23 k23
  have b23 := F23.binds (ps := ["_law_told", "_law_stock"]) fun _ _ _ _ _ _ us hl => match us, hl with | [_, _], _ => rfl
  have F24 := fun_mk (st := s_Lsame_house) l24 c24 k24
  have b24 := F24.binds (ps := ["_law_house_here", "_law_model"]) fun _ _ _ _ _ _ us hl => match us, hl with | [_, _], _ => rfl
  have F25 := fun_mk (st := s_Lsame_out) l25 c25 k25
  have b25 := F25.binds (ps := ["_law_house_here", "_law_model"]) fun _ _ _ _ _ _ us hl => match us, hl with | [_, _], _ => rfl
  have F26 := fun_mk (st := s_Llack) l26 c26 k26
  have b26 := F26.binds (ps := ["_law_draws", "_law_setup_here"]) fun _ _ _ _ _ _ us hl => match us, hl with | [_, _], _ => rfl
  have F27 := fun_mk (st := s_Lclosed) l27 c27 k27
  have b27 := F27.binds (ps := ["_law_draws", "_law_setup_here", "_law_model", "_law_held"]) fun _ _ _ _ _ _ us hl => match us, hl with | [_, _, _, _], _ => rfl
  have F28 := fun_mk (st := s_Lgiven) l28 c28 k28
  have b28 := F28.binds (ps := ["_law_house_here", "_law_model", "_law_s", "_law_cell", "_law_held"]) fun _ _ _ _ _ _ us hl => match us, hl with | [_, _, _, _, _], _ => rfl
  have F29 := fun_mk (st := s_Lthing) l29 c29 k29
  have b29 := F29.binds (ps := ["_law_draws", "_law_setup_here", "_law_house_here", "_law_model", "_law_held"]) fun _ _ _ _ _ _ us hl => match us, hl with | [_, _, _, _, _], _ => rfl
  have F30 := fun_mk (st := s_law) l30 c30 k30
  have b30 := F30.binds (ps := ["_law_script"]) fun _ _ _ _ _ _ us hl => match us, hl with | [_], _ => rfl
  refine ⟨PySem.W.fnOf "law" "law" (defArgs s_law) (defBody s_law) (defScope s_law) .none kV30 dc30 pm30 an30 cd30 ct30, fun s v => .of_eq rfl, fun base _ _ => ?_⟩
  have o_House_init := ok_House_init (P := l.prog) (w := w) (base := base) F1 T 
  have e_House_init : CalC l.prog w K mg base "House" A.House 1 ["self", "setup"] (sp_House_init K A) := ⟨⟨_, _, o_House_init, ⟨mk_House, a1, i1, kc_House⟩, PySem.W.mg_of X G aC_House, b1⟩⟩
  have o_House_bodies := ok_House_bodies (P := l.prog) (w := w) (base := base) F2 T 
  have e_House_bodies : CalM l.prog w K mg base A.House "bodies" 1 ["self"] (sp_House_bodies K A) := ⟨⟨_, _, o_House_bodies, ⟨a2, i2, k2⟩, b2⟩⟩
  have o_House_cells := ok_House_cells (P := l.prog) (w := w) (base := base) F3 T 
  have e_House_cells : CalM l.prog w K mg base A.House "cells" 1 ["self"] (sp_House_cells K A) := ⟨⟨_, _, o_House_cells, ⟨a3, i3, k3⟩, b3⟩⟩
  have o_House_look := ok_House_look (P := l.prog) (w := w) (base := base) F4 T e_House_cells
  have e_House_look : CalM l.prog w K mg base A.House "look" 2 ["self"] (sp_House_look K A) := ⟨⟨_, _, o_House_look, ⟨a4, i4, k4⟩, b4⟩⟩
  have o_House_decide := ok_House_decide (P := l.prog) (w := w) (base := base) F5 T e_House_look e_House_cells
  have e_House_decide : CalM l.prog w K mg base A.House "decide" 3 ["self"] (sp_House_decide K A) := ⟨⟨_, _, o_House_decide, ⟨a5, i5, k5⟩, b5⟩⟩
  have o_House_closed := ok_House_closed (P := l.prog) (w := w) (base := base) F6 T e_House_cells e_House_decide
  have e_House_closed : CalM l.prog w K mg base A.House "closed" 4 ["self", "seller", "counts"] (sp_House_closed K A) := ⟨⟨_, _, o_House_closed, ⟨a6, i6, k6⟩, b6⟩⟩
  have o_House_handle := ok_House_handle (P := l.prog) (w := w) (base := base) F7 T e_House_look e_House_closed
  have e_House_handle : CalM l.prog w K mg base A.House "handle" 5 ["self", "seller", "body"] (sp_House_handle K A) := ⟨⟨_, _, o_House_handle, ⟨a7, i7, k7⟩, b7⟩⟩
  have o_House_give := ok_House_give (P := l.prog) (w := w) (base := base) F8 T 
  have e_House_give : CalM l.prog w K mg base A.House "give" 1 ["self", "seller", "kind", "night"] (sp_House_give K A) := ⟨⟨_, _, o_House_give, ⟨a8, i8, k8⟩, b8⟩⟩
  have o_House_want := ok_House_want (P := l.prog) (w := w) (base := base) F9 T 
  have e_House_want : CalM l.prog w K mg base A.House "want" 1 ["self", "seller", "kind", "night"] (sp_House_want K A) := ⟨⟨_, _, o_House_want, ⟨a9, i9, k9⟩, b9⟩⟩
  have o_Lmixed := ok_Lmixed (P := l.prog) (w := w) (base := base) F10 T 
  have e_Lmixed : Cal l.prog w K mg base "_law_mixed" 1 ["_law_number", "_law_k"] (sp_Lmixed K A) := ⟨⟨_, _, o_Lmixed, PySem.W.mg_of X G a10, k10, b10⟩⟩
  have o_Lnumbers := ok_Lnumbers (P := l.prog) (w := w) (base := base) F11 T e_Lmixed
  have e_Lnumbers : Cal l.prog w K mg base "_law_numbers" 2 ["_law_script"] (sp_Lnumbers K A) := ⟨⟨_, _, o_Lnumbers, PySem.W.mg_of X G a11, k11, b11⟩⟩
  have o_Ldraw := ok_Ldraw (P := l.prog) (w := w) (base := base) F12 T e_Lmixed
  have e_Ldraw : Cal l.prog w K mg base "_law_draw" 2 ["_law_draws"] (sp_Ldraw K A) := ⟨⟨_, _, o_Ldraw, PySem.W.mg_of X G a12, k12, b12⟩⟩
  have e_Lequal : Cal l.prog w K mg base "_law_equal" 25 ["_law_actual", "_law_due"] (sp_Lequal K A 12) := eq_one (P := l.prog) (w := w) (base := base) F13 T (PySem.W.mg_of X G a13) b13 F14 (PySem.W.mg_of X G a14) b14 12
  have e_Lall_equal : Cal l.prog w K mg base "_law_all_equal" 24 ["_law_actual", "_law_due"] (sp_Lall_equal K A 12) := eq_all (P := l.prog) (w := w) (base := base) F13 T (PySem.W.mg_of X G a13) b13 F14 (PySem.W.mg_of X G a14) b14 12
  have o_Lsetup := ok_Lsetup (P := l.prog) (w := w) (base := base) F15 T e_Ldraw
  have e_Lsetup : Cal l.prog w K mg base "_law_setup" 3 ["_law_draws"] (sp_Lsetup K A) := ⟨⟨_, _, o_Lsetup, PySem.W.mg_of X G a15, k15, b15⟩⟩
  have o_Lstay := ok_Lstay (P := l.prog) (w := w) (base := base) F16 T e_Ldraw
  have e_Lstay : Cal l.prog w K mg base "_law_stay" 3 ["_law_draws", "_law_setup_here"] (sp_Lstay K A) := ⟨⟨_, _, o_Lstay, PySem.W.mg_of X G a16, k16, b16⟩⟩
  have o_Lparty := ok_Lparty (P := l.prog) (w := w) (base := base) F17 T e_Lstay e_Ldraw
  have e_Lparty : Cal l.prog w K mg base "_law_party" 4 ["_law_draws", "_law_setup_here"] (sp_Lparty K A) := ⟨⟨_, _, o_Lparty, PySem.W.mg_of X G a17, k17, b17⟩⟩
  have o_Lneeds := ok_Lneeds (P := l.prog) (w := w) (base := base) F18 T 
  have e_Lneeds : Cal l.prog w K mg base "_law_needs" 1 ["_law_party_here"] (sp_Lneeds K A) := ⟨⟨_, _, o_Lneeds, PySem.W.mg_of X G a18, k18, b18⟩⟩
  have o_Lhouse := ok_Lhouse (P := l.prog) (w := w) (base := base) F19 T 
  have e_Lhouse : Cal l.prog w K mg base "_law_house" 1 ["_law_setup_here"] (sp_Lhouse K A) := ⟨⟨_, _, o_Lhouse, PySem.W.mg_of X G a19, k19, b19⟩⟩
  have o_Llook := ok_Llook (P := l.prog) (w := w) (base := base) F20 T 
  have e_Llook : Cal l.prog w K mg base "_law_look" 1 ["_law_setup_here", "_law_model"] (sp_Llook K A) := ⟨⟨_, _, o_Llook, PySem.W.mg_of X G a20, k20, b20⟩⟩
  have o_Ldecide := ok_Ldecide (P := l.prog) (w := w) (base := base) F21 T e_Llook
  have e_Ldecide : Cal l.prog w K mg base "_law_decide" 2 ["_law_setup_here", "_law_model"] (sp_Ldecide K A) := ⟨⟨_, _, o_Ldecide, PySem.W.mg_of X G a21, k21, b21⟩⟩
  have o_Lhouse_handles := ok_Lhouse_handles (P := l.prog) (w := w) (base := base) F22 T e_Llook e_Ldecide
  have e_Lhouse_handles : Cal l.prog w K mg base "_law_house_handles" 3 ["_law_setup_here", "_law_model", "_law_s", "_law_body"] (sp_Lhouse_handles K A) := ⟨⟨_, _, o_Lhouse_handles, PySem.W.mg_of X G a22, k22, b22⟩⟩
  have o_Lsame_stock := ok_Lsame_stock (P := l.prog) (w := w) (base := base) F23 T e_Lequal
  have e_Lsame_stock : Cal l.prog w K mg base "_law_same_stock" 26 ["_law_told", "_law_stock"] (sp_Lsame_stock K A) := ⟨⟨_, _, o_Lsame_stock, PySem.W.mg_of X G a23, k23, b23⟩⟩
  have o_Lsame_house := ok_Lsame_house (P := l.prog) (w := w) (base := base) F24 T e_Lequal e_Lsame_stock
  have e_Lsame_house : Cal l.prog w K mg base "_law_same_house" 27 ["_law_house_here", "_law_model"] (sp_Lsame_house K A) := ⟨⟨_, _, o_Lsame_house, PySem.W.mg_of X G a24, k24, b24⟩⟩
  have o_Lsame_out := ok_Lsame_out (P := l.prog) (w := w) (base := base) F25 T e_Lequal e_House_bodies
  have e_Lsame_out : Cal l.prog w K mg base "_law_same_out" 26 ["_law_house_here", "_law_model"] (sp_Lsame_out K A) := ⟨⟨_, _, o_Lsame_out, PySem.W.mg_of X G a25, k25, b25⟩⟩
  have o_Llack := ok_Llack (P := l.prog) (w := w) (base := base) F26 T e_Lneeds e_Lparty
  have e_Llack : Cal l.prog w K mg base "_law_lack" 5 ["_law_draws", "_law_setup_here"] (sp_Llack K A) := ⟨⟨_, _, o_Llack, PySem.W.mg_of X G a26, k26, b26⟩⟩
  have o_Lclosed := ok_Lclosed (P := l.prog) (w := w) (base := base) F27 T e_Ldraw
  have e_Lclosed : Cal l.prog w K mg base "_law_closed" 3 ["_law_draws", "_law_setup_here", "_law_model", "_law_held"] (sp_Lclosed K A) := ⟨⟨_, _, o_Lclosed, PySem.W.mg_of X G a27, k27, b27⟩⟩
  have o_Lgiven := ok_Lgiven (P := l.prog) (w := w) (base := base) F28 T e_Lequal e_House_give
  have e_Lgiven : Cal l.prog w K mg base "_law_given" 26 ["_law_house_here", "_law_model", "_law_s", "_law_cell", "_law_held"] (sp_Lgiven K A) := ⟨⟨_, _, o_Lgiven, PySem.W.mg_of X G a28, k28, b28⟩⟩
  have o_Lthing := ok_Lthing (P := l.prog) (w := w) (base := base) F29 T e_House_handle e_Lhouse_handles e_Ldraw e_Llack e_Lclosed e_Lgiven e_House_want
  have e_Lthing : Cal l.prog w K mg base "_law_thing" 27 ["_law_draws", "_law_setup_here", "_law_house_here", "_law_model", "_law_held"] (sp_Lthing K A) := ⟨⟨_, _, o_Lthing, PySem.W.mg_of X G a29, k29, b29⟩⟩
  exact (ok_law F30 T e_Lsetup e_House_init e_Lhouse e_Lnumbers e_Lsame_out e_Lequal e_Ldraw e_House_bodies e_Lthing e_Lsame_house).imp fun vs H Q E h => h
theorem walk {l : PySem.W.OpenLaw} {q : Program} {loose : List Str} {XP : (Str → Option Value) → Heap → Prop} {YP : World → Heap → Prop} {d : DefRec} {K : Params → PySem.W.Frag} (hn : l.most = some 63) (hdf : d.params.defaults = [])
    (hY : ∀ (w : World) (h : Heap), YP w h → (K w.params).In h)
    (F : ∀ (w : World) (mg : Str → Option Value) (fa : Addr) (h : Heap), (K w.params).In h → h.Ns mainGlobals mg → mg d.name = some (.ref fa) →
      ∃ fd : FuncData, (∀ (s : Shared) (u : Value), BindsTo s fd ⟨[u], []⟩ [("_law_script", u)]) ∧ ∀ base : Heap, (K w.params).In base → base.Ns mainGlobals mg → FnOk l.prog w (K w.params) mg base CX0 28 fa fd ["_law_script"] (spLaw (K w.params))) :
    PySem.W.WalkO q loose XP YP l.row.toRowW d [] (fun f vs => PySem.call f vs) :=
  L2.walk_of (n := 63) (k := 28) (x := "_law_script") (CX := fun _ => CX0) (sp := fun w => spLaw (K w.params)) hn (by decide) hdf ⟨rfl, by decide, by decide⟩ hY F (fun _ _ a ns hl _ hS => ⟨_, rfl, a, ns, rfl, hS, hl, fun _ => rfl⟩) fun _ _ _ _ _ z => z
end Toy
open PySem PySem.W PyProof.Rows in
set_option maxRecDepth 100000 in
set_option maxHeartbeats 0 in
theorem PySem.Challenge.cw_manydoors_k10_houses_handle_holds : PySem.Challenge.rw_manydoors_k10_houses_handle.Holds := by
  w_on; o_law; k_head; (case hw => w_witness2)
  k_fill
  refine Toy.walk (l := PySem.Challenge.rw_manydoors_k10_houses_handle) rfl rfl (fun w h Y => PySem.W.kIn_of Y) ?F
  case F =>
    intro w mg fa h KX G hmg
    refine' Toy.all_mk KX G hmg ?aC_House ?a1 ?i1 ?l1 ?c1 ?k1 ?a2 ?i2 ?l2 ?c2 ?k2 ?a3 ?i3 ?l3 ?c3 ?k3 ?a4 ?i4 ?l4 ?c4 ?k4 ?a5 ?i5 ?l5 ?c5 ?k5 ?a6 ?i6 ?l6 ?c6 ?k6 ?a7 ?i7 ?l7 ?c7 ?k7 ?a8 ?i8 ?l8 ?c8 ?k8 ?a9 ?i9 ?l9 ?c9 ?k9 ?a10 ?l10 ?c10 ?k10 ?a11 ?l11 ?c11 ?k11 ?a12 ?l12 ?c12 ?k12 ?a13 ?l13 ?c13 ?k13 ?a14 ?l14 ?c14 ?k14 ?a15 ?l15 ?c15 ?k15 ?a16 ?l16 ?c16 ?k16 ?a17 ?l17 ?c17 ?k17 ?a18 ?l18 ?c18 ?k18 ?a19 ?l19 ?c19 ?k19 ?a20 ?l20 ?c20 ?k20 ?a21 ?l21 ?c21 ?k21 ?a22 ?l22 ?c22 ?k22 ?a23 ?l23 ?c23 ?k23 ?a24 ?l24 ?c24 ?k24 ?a25 ?l25 ?c25 ?k25 ?a26 ?l26 ?c26 ?k26 ?a27 ?l27 ?c27 ?k27 ?a28 ?l28 ?c28 ?k28 ?a29 ?l29 ?c29 ?k29 ?a30 ?l30 ?c30 ?k30 ?pg_House ?hd_House ?po_House ?sa_House ?mk_House ?kc_House ?no_House_sellers ?no_House_stock ?no_House_books ?no_House_queue ?no_House_round ?no_House_counts ?no_House_outgoing ?z_enumerate ?z_range ?z_tuple ?z_all ?z_zip ?z_min ?z_len ?z_isinstance ?z_list ?z_bool ?z_int ?z_str ?z_sorted ?z_dict
    (case aC_House => k_is)
    (case a1 => k_is)
    (case i1 => k_is)
    (case l1 => k_is)
    (case c1 => k_is)
    (case k1 => k_is)
    (case a2 => k_is)
    (case i2 => k_is)
    (case l2 => k_is)
    (case c2 => k_is)
    (case k2 => k_is)
    (case a3 => k_is)
    (case i3 => k_is)
    (case l3 => k_is)
    (case c3 => k_is)
    (case k3 => k_is)
    (case a4 => k_is)
    (case i4 => k_is)
    (case l4 => k_is)
    (case c4 => k_is)
    (case k4 => k_is)
    (case a5 => k_is)
    (case i5 => k_is)
    (case l5 => k_is)
    (case c5 => k_is)
    (case k5 => k_is)
    (case a6 => k_is)
    (case i6 => k_is)
    (case l6 => k_is)
    (case c6 => k_is)
    (case k6 => k_is)
    (case a7 => k_is)
    (case i7 => k_is)
    (case l7 => k_is)
    (case c7 => k_is)
    (case k7 => k_is)
    (case a8 => k_is)
    (case i8 => k_is)
    (case l8 => k_is)
    (case c8 => k_is)
    (case k8 => k_is)
    (case a9 => k_is)
    (case i9 => k_is)
    (case l9 => k_is)
    (case c9 => k_is)
    (case k9 => k_is)
    (case a10 => k_is)
    (case l10 => k_is)
    (case c10 => k_is)
    (case k10 => k_is)
    (case a11 => k_is)
    (case l11 => k_is)
    (case c11 => k_is)
    (case k11 => k_is)
    (case a12 => k_is)
    (case l12 => k_is)
    (case c12 => k_is)
    (case k12 => k_is)
    (case a13 => k_is)
    (case l13 => k_is)
    (case c13 => k_is)
    (case k13 => k_is)
    (case a14 => k_is)
    (case l14 => k_is)
    (case c14 => k_is)
    (case k14 => k_is)
    (case a15 => k_is)
    (case l15 => k_is)
    (case c15 => k_is)
    (case k15 => k_is)
    (case a16 => k_is)
    (case l16 => k_is)
    (case c16 => k_is)
    (case k16 => k_is)
    (case a17 => k_is)
    (case l17 => k_is)
    (case c17 => k_is)
    (case k17 => k_is)
    (case a18 => k_is)
    (case l18 => k_is)
    (case c18 => k_is)
    (case k18 => k_is)
    (case a19 => k_is)
    (case l19 => k_is)
    (case c19 => k_is)
    (case k19 => k_is)
    (case a20 => k_is)
    (case l20 => k_is)
    (case c20 => k_is)
    (case k20 => k_is)
    (case a21 => k_is)
    (case l21 => k_is)
    (case c21 => k_is)
    (case k21 => k_is)
    (case a22 => k_is)
    (case l22 => k_is)
    (case c22 => k_is)
    (case k22 => k_is)
    (case a23 => k_is)
    (case l23 => k_is)
    (case c23 => k_is)
    (case k23 => k_is)
    (case a24 => k_is)
    (case l24 => k_is)
    (case c24 => k_is)
    (case k24 => k_is)
    (case a25 => k_is)
    (case l25 => k_is)
    (case c25 => k_is)
    (case k25 => k_is)
    (case a26 => k_is)
    (case l26 => k_is)
    (case c26 => k_is)
    (case k26 => k_is)
    (case a27 => k_is)
    (case l27 => k_is)
    (case c27 => k_is)
    (case k27 => k_is)
    (case a28 => k_is)
    (case l28 => k_is)
    (case c28 => k_is)
    (case k28 => k_is)
    (case a29 => k_is)
    (case l29 => k_is)
    (case c29 => k_is)
    (case k29 => k_is)
    (case a30 => k_is)
    (case l30 => k_is)
    (case c30 => k_is)
    (case k30 => k_is)
    (case pg_House => k_is)
    (case hd_House => k_is)
    (case po_House => k_is)
    (case sa_House => k_is)
    (case mk_House => k_is)
    (case kc_House => k_is)
    (case no_House_sellers => k_is)
    (case no_House_stock => k_is)
    (case no_House_books => k_is)
    (case no_House_queue => k_is)
    (case no_House_round => k_is)
    (case no_House_counts => k_is)
    (case no_House_outgoing => k_is)
    (case z_enumerate => k_is)
    (case z_range => k_is)
    (case z_tuple => k_is)
    (case z_all => k_is)
    (case z_zip => k_is)
    (case z_min => k_is)
    (case z_len => k_is)
    (case z_isinstance => k_is)
    (case z_list => k_is)
    (case z_bool => k_is)
    (case z_int => k_is)
    (case z_str => k_is)
    (case z_sorted => k_is)
    (case z_dict => k_is)
#print axioms PySem.Challenge.cw_manydoors_k10_houses_handle_holds


