import PyProof.Rows.All
import Wide.All
import OpenK.AllK
import Wide.FinOn
import HandS.ForMost
import HandS.IsInst
import HandS.Evl
import HandS.Walk
import HandS.More
import KE.SortData
import KE.KDictCopyH
import KE.KDictOf
import KE.KDictSum
import HandS.Conv
import HandS.Finally
import HandS.DictTup
import HandS.TupLen
import HandS.Zip
import KE.GoesEnum
import KE.GoesMore
import HandS.Deep
import HandS.TupAny
import KE.KDictDisplayH
import PySem.Challenge.RW_manydoors_k09_sellers_ask_and_handle
set_option Elab.async false
set_option linter.all false
set_option maxRecDepth 100000
set_option maxHeartbeats 1000000
namespace Lw
open PySem L2

/-! ### frames: what a piece of code leaves as it was -/
structure Fr (l : List Addr) (H H' : Hp) : Prop where
  keep : ∀ a o, H a = some o → a ∉ l → H' a = some o
  tup : ∀ a xs, H a = some (.tup xs) → H' a = some (.tup xs)
theorem Fr.refl {l : List Addr} {H : Hp} : Fr l H H := ⟨fun _ _ h _ => h, fun _ _ h => h⟩
theorem Fr.mono {l m : List Addr} {H H' : Hp} (f : Fr l H H') (h : ∀ a, a ∈ l → a ∈ m) : Fr m H H' := ⟨fun a o e n => f.keep a o e fun q => n (h a q), f.tup⟩
theorem Fr.of0 {m : List Addr} {H H' : Hp} (f : Fr [] H H') : Fr m H H' := f.mono fun _ q => nomatch q
theorem Fr.new {H : Hp} {p : Addr} {o : HO} (h : H p = none) : Fr [] H (upd H p o) := ⟨fun a u e _ => by rw [upd_ne (ne_of_none e h)]; exact e, fun a u e => by rw [upd_ne (ne_of_none e h)]; exact e⟩
def notTup : HO → Prop
  | .tup _ => False
  | _ => True
theorem Fr.put {H : Hp} {p : Addr} {o u : HO} (h : H p = some u) (hu : notTup u) : Fr [p] H (upd H p o) := by
  refine ⟨fun a v e n => ?_, fun a v e => ?_⟩
  · rw [upd_ne fun q => n (List.mem_singleton.mpr q)]; exact e
  · by_cases q : a = p
    · subst q; rw [h] at e; cases e; exact hu.elim
    · rw [upd_ne q]; exact e
theorem Fr.trans {l m : List Addr} {H H1 H2 : Hp} (f : Fr l H H1) (g : Fr m H1 H2) : Fr (l ++ m) H H2 :=
  ⟨fun a o e n => g.keep a o (f.keep a o e fun q => n (List.mem_append_left _ q)) fun q => n (List.mem_append_right _ q), fun a xs e => g.tup a xs (f.tup a xs e)⟩
theorem Fr.transL {l : List Addr} {H H1 H2 : Hp} (f : Fr l H H1) (g : Fr l H1 H2) : Fr l H H2 := (f.trans g).mono fun _ q => (List.mem_append.mp q).elim id id
theorem Fr.then0 {l : List Addr} {H H1 H2 : Hp} (f : Fr l H H1) (g : Fr [] H1 H2) : Fr l H H2 := f.transL g.of0
theorem Fr.pre0 {l : List Addr} {H H1 H2 : Hp} (f : Fr [] H H1) (g : Fr l H1 H2) : Fr l H H2 := f.of0.transL g
theorem Fr.pre0' {l : List Addr} {H H1 H2 : Hp} (g : Fr l H1 H2) (f : Fr [] H H1) : Fr l H H2 := f.pre0 g
/-- an address that was not tracked may be written -/
theorem Fr.drop {l : List Addr} {p : Addr} {H H' : Hp} (f : Fr (p :: l) H H') (h : H p = none) : Fr l H H' :=
  ⟨fun a o e n => f.keep a o e fun q => (List.mem_cons.mp q).elim (fun z => by rw [z, h] at e; cases e) n, f.tup⟩
theorem Fr.free {H H' : Hp} {p : Addr} (f : Fr [] H H') (h : H' p = none) : H p = none := by
  cases q : H p with
  | none => rfl
  | some o => rw [f.keep p o q (by simp)] at h; cases h
theorem Fr.freeL {l : List Addr} {H H' : Hp} {p : Addr} (f : Fr l H H') (h : H' p = none) (n : p ∉ l) : H p = none := by
  cases q : H p with
  | none => rfl
  | some o => rw [f.keep p o q n] at h; cases h
/-- new objects may change -/
theorem Fr.own {l m : List Addr} {H H' H2 : Hp} (f : Fr l H H') (g : Fr m H' H2) (n : ∀ a, a ∈ m → a ∈ l ∨ H a = none) : Fr l H H2 :=
  ⟨fun a o e na => g.keep a o (f.keep a o e na) fun q => (n a q).elim na (fun z => by rw [z] at e; cases e), fun a xs e => g.tup a xs (f.tup a xs e)⟩
theorem Fr.own1 {l : List Addr} {p : Addr} {H H' H2 : Hp} (f : Fr l H H') (g : Fr [p] H' H2) (n : H p = none) : Fr l H H2 := f.own g fun a q => .inr (by rw [List.mem_singleton.mp q]; exact n)
theorem frn0 {l : List Addr} {H : Hp} : ∀ a, a ∈ ([] : List Addr) → a ∈ l ∨ H a = none := fun _ q => nomatch q
theorem frn1 {p : Addr} {l m : List Addr} {H : Hp} (h : p ∈ l ∨ H p = none) (t : ∀ a, a ∈ m → a ∈ l ∨ H a = none) : ∀ a, a ∈ p :: m → a ∈ l ∨ H a = none := fun a q => (List.mem_cons.mp q).elim (fun e => e ▸ h) (t a)
theorem nin0 {a : Addr} : a ∉ ([] : List Addr) := by simp
theorem nin1 {a b : Addr} {l : List Addr} (h : a ≠ b) (t : a ∉ l) : a ∉ b :: l := by simp [h, t]
theorem Fr.tupAt {l : List Addr} {H H' : Hp} {a : Addr} {xs : List V} (f : Fr l H H') (h : H a = some (.tup xs)) : H' a = some (.tup xs) := f.tup a xs h
theorem Fr.at0 {H H' : Hp} {a : Addr} {o : HO} (f : Fr [] H H') (h : H a = some o) : H' a = some o := f.keep a o h nin0
theorem Fr.at {l : List Addr} {H H' : Hp} {a : Addr} {o : HO} (f : Fr l H H') (h : H a = some o) (n : a ∉ l) : H' a = some o := f.keep a o h n
theorem Fr.sql {K : PySem.W.Frag} {l : List Addr} {H H' : Hp} {a : Addr} {xs : List V} (f : Fr l H H') (h : SqL K H a xs) (n : a ∉ l) : SqL K H' a xs := by
  rcases h with (h | ⟨o, h⟩) | h
  · exact .inl (.inl (f.keep _ _ h n))
  · exact .inl (.inr ⟨o, f.keep _ _ h n⟩)
  · exact .inr h

/-! ### operators by name -/
def oAdd : R2 := rI0 fun i j => .int (i + j)
def oSub : R2 := rI0 fun i j => .int (i - j)
def oMul : R2 := rI CMul fun i j => .int (i * j)
def oMod : R2 := rI (fun _ j => 0 < j) fun i j => .int (i % j)
def oDiv : R2 := rI CDiv fun i j => .int (i / j)
def oPow : R2 := rI CPow fun i j => .int (i ^ j.toNat)
def cLt : R2 := rI0 fun i j => .bl (decide (i < j))
def cLe : R2 := rI0 fun i j => .bl (decide (i ≤ j))
def cGt : R2 := rI0 fun i j => .bl (decide (j < i))
def cGe : R2 := rI0 fun i j => .bl (decide (j ≤ i))
section
variable {X : Cx}
theorem o_add : OpR X (binaryOp .Add) oAdd := op_add
theorem o_sub : OpR X (binaryOp .Sub) oSub := op_sub
theorem o_mul : OpR X (binaryOp .Mult) oMul := op_mul
theorem o_mod : OpR X (binaryOp .Mod) oMod := op_mod
theorem o_div : OpR X (binaryOp .FloorDiv) oDiv := op_fdiv
theorem o_pow : OpR X (binaryOp .Pow) oPow := op_pow
theorem c_lt : OpR X (compareOp .Lt) cLt := op_lt
theorem c_le : OpR X (compareOp .LtE) cLe := op_le
theorem c_gt : OpR X (compareOp .Gt) cGt := op_gt
theorem c_ge : OpR X (compareOp .GtE) cGe := op_ge
/-- len -/
def rLenSq (K : PySem.W.Frag) : List V → Hp → VK → Prop := fun xs H Q => ∃ p ys, xs = [.ref p] ∧ (SqL K H p ys ∨ SqT K H p ys) ∧ Q (.int ys.length) H
def rLenStr : List V → Hp → VK → Prop := fun xs H Q => ∃ z, xs = [.str z] ∧ z.length ≤ sizeLine ∧ Q (.int z.length) H
theorem b_len : CallR X (.builtin "len") (rLenSq X.K) := call_len_seq
theorem b_lenS : CallR X (.builtin "len") rLenStr := call_len_str
/-- list(..), tuple(..) -/
def rListOf (K : PySem.W.Frag) : List V → Hp → VK → Prop := fun xs H Q => ∃ p ys, xs = [.ref p] ∧ (SqL K H p ys ∨ SqT K H p ys) ∧ ∀ l, H l = none → Q (.ref l) (upd H l (.lst ys))
def rTupOf (K : PySem.W.Frag) : List V → Hp → VK → Prop := fun xs H Q => ∃ p ys, xs = [.ref p] ∧ ((SqL K H p ys ∧ ∀ l, H l = none → Q (.ref l) (upd H l (.tup ys))) ∨ (SqT K H p ys ∧ Q (.ref p) H))
theorem b_list : CallR X (.type "list") (rListOf X.K) := call_list_of
theorem b_tuple : CallR X (.type "tuple") (rTupOf X.K) := call_tuple_of
def rMax2 : List V → Hp → VK → Prop := fun xs H Q => ∃ i j, xs = [.int i, .int j] ∧ Q (.int (if j > i then j else i)) H
def rMin2 : List V → Hp → VK → Prop := fun xs H Q => ∃ i j, xs = [.int i, .int j] ∧ Q (.int (if j < i then j else i)) H
theorem b_max2 (hc : X.calm = true) : CallR X (.builtin "max") rMax2 := call_max2 hc
theorem b_min2 (hc : X.calm = true) : CallR X (.builtin "min") rMin2 := call_min2 hc
def rIsNon : R2 := fun x y H Q => y = .non ∧ Q (.bl (decide (x = .non))) H
def rIsNotNon : R2 := fun x y H Q => y = .non ∧ Q (.bl (!decide (x = .non))) H
theorem c_isN : OpR X (compareOp .Is) rIsNon := op_isN
theorem c_notN : OpR X (compareOp .IsNot) rIsNotNon := op_notN
/-- a value's truth, as a test -/
def tTr (K : PySem.W.Frag) (ta : TE) : TT := fun σ H Q => ta σ H fun x H' => ∃ k, TruV K x H' k ∧ Q k H'
theorem pt_tr {a : Expr} {ta : TE} (ha : PE X a ta) (he : ∀ whole, isTrue a X.env whole = (do let v ← whole; standAt a.pos; holding [v] (truthy v))) : PT X a (tTr X.K ta) := pt_truth ha he

/-! ### calls -/
def tCl (sp : Sp) (t : TA) : TE := fun σ H Q => t σ H fun vs H1 => sp vs H1 Q E0
def rMt (C : Addr) (m : Str) (x : V) (H : Hp) (p : Prop) : Prop := ∃ a dx fs, x = .ref a ∧ H a = some (.ins C dx fs) ∧ fs.lookup m = none ∧ p
def tMt (C : Addr) (m : Str) (sp : Sp) (ta : TE) (t : TA) : TE := fun σ H Q => ta σ H fun x H1 => rMt C m x H1 (t σ H1 fun vs H2 => sp (x :: vs) H2 Q E0)
def tMk (C : Addr) (sp : Sp) (t : TA) : TE := fun σ H Q => t σ H fun vs H1 => ∀ x dx, H1 x = none → H1 dx = none → dx ≠ x →
  sp (.ref x :: vs) (upd (upd H1 dx (.own x)) x (.ins C dx [])) (fun v H2 => v = .non ∧ Q (.ref x) H2) E0
/-- a def of the text, to be called by its name -/
structure Cal (P : Program) (w : World) (K : PySem.W.Frag) (mg : Str → Option Value) (base : Heap) (x : Str) (k : Nat) (ps : List Str) (sp : Sp) : Prop where
  ex : ∃ f fd, FnOk P w K mg base CX0 k f fd ps sp ∧ mg x = some (.ref f) ∧ PySem.W.keepIn K (.ref f) = true ∧ Binds K fd ps []
/-- a method of the class at C -/
structure CalM (P : Program) (w : World) (K : PySem.W.Frag) (mg : Str → Option Value) (base : Heap) (C : Addr) (m : Str) (k : Nat) (ps : List Str) (sp : Sp) : Prop where
  ex : ∃ f fd, FnOk P w K mg base CX0 k f fd ps sp ∧ Meth K C m f ∧ Binds K fd ps []
/-- a class, to be called by its name -/
structure CalC (P : Program) (w : World) (K : PySem.W.Frag) (mg : Str → Option Value) (base : Heap) (x : Str) (C : Addr) (k : Nat) (ps : List Str) (sp : Sp) : Prop where
  ex : ∃ f fd, FnOk P w K mg base CX0 k f fd ps sp ∧ Mk K C f ∧ mg x = some (.ref C) ∧ Binds K fd ps []
variable {k : Nat} {ps : List Str} {sp : Sp} {x m : Str} {p pos apos : Pos} {e o : Expr} {es : List Expr} {ta : TE} {t : TA} {C : Addr}
theorem tcl_eq {E : XK} : (tCall sp [] E0 t) = tCl sp t := by
  funext σ H Q
  show (t σ H fun vs H1 => sp (vs ++ []) H1 Q E0) = (t σ H fun vs H1 => sp vs H1 Q E0)
  simp only [List.append_nil]
theorem pe_cl (c : Cal X.prog X.w X.K X.mg X.base x k ps sp) (hr : Room k X.A) (hg : Gl X x) (ha : PA X (e :: es) t) (hdb : (x == ("__debug__" : Str)) = false := by decide)
    (he : starEach (e :: es) X.env = (false, eval e X.env) :: starEach es X.env := by rfl) (hpl : (backTo pos (starEach es X.env)).any (·.1) = false := by rfl) : PE X (.Call (.Name x p) (e :: es) [] pos) (tCl sp t) := by
  obtain ⟨f, fd, F, hm, hk, hb⟩ := c.ex
  rw [← tcl_eq (E := E0)]
  exact pe_call F hr hg hm hk hb .nil pass0 ha hdb he hpl
theorem pe_cl0 (c : Cal X.prog X.w X.K X.mg X.base x k ps sp) (hr : Room k X.A) (hg : Gl X x) (hdb : (x == ("__debug__" : Str)) = false := by decide) : PE X (.Call (.Name x p) [] [] pos) (tCl sp tNil) := by
  obtain ⟨f, fd, F, hm, hk, hb⟩ := c.ex
  rw [← tcl_eq (E := E0)]
  exact pe_call0 F hr hg hm hk hb .nil pass0 hdb
theorem tmt_eq : (tMeth C m sp [] E0 ta t) = tMt C m sp ta t := by
  funext σ H Q
  show (ta σ H fun x H1 => ∃ a dx fs, x = .ref a ∧ H1 a = some (.ins C dx fs) ∧ fs.lookup m = none ∧ t σ H1 fun vs H2 => sp (x :: (vs ++ [])) H2 Q E0) = _
  simp only [List.append_nil]
  rfl
theorem tmk_eq : (tMake C sp [] E0 t) = tMk C sp t := by
  funext σ H Q
  show (t σ H fun vs H1 => ∀ x dx, H1 x = none → H1 dx = none → dx ≠ x → sp (.ref x :: (vs ++ [])) (upd (upd H1 dx (.own x)) x (.ins C dx [])) (fun v H2 => v = .non ∧ Q (.ref x) H2) E0) = _
  simp only [List.append_nil]
  rfl
theorem pe_mt {pl : Sem Bool} (he : PE X o ta) (c : Cls X.K C) (cm : CalM X.prog X.w X.K X.mg X.base C m k ps sp) (hr : Room k X.A) (ha : PA X (e :: es) t)
    (hst : starEach (e :: es) X.env = (false, eval e X.env) :: starEach es X.env := by rfl) (hpl : (backTo pos (starEach es X.env)).any (·.1) = false := by rfl)
    (ht : eval (.Call (.Attribute o m apos) (e :: es) [] pos) X.env = (do
      let ov ← eval o X.env
      standAt apos.atName
      let (f, first) ← holding [ov] (getMethod ov m pl)
      callWith pos f first (backTo pos (starEach (e :: es) X.env)) (backToKw pos (keywordEach [] X.env))) := by rfl) :
    PE X (.Call (.Attribute o m apos) (e :: es) [] pos) (tMt C m sp ta t) := by
  obtain ⟨f, fd, F, hm, hb⟩ := cm.ex
  rw [← tmt_eq]
  exact pe_meth (pl := pl) he c hm F hr hb .nil pass0 ha hst hpl ht
theorem pe_mt0 {pl : Sem Bool} (he : PE X o ta) (c : Cls X.K C) (cm : CalM X.prog X.w X.K X.mg X.base C m k ps sp) (hr : Room k X.A)
    (ht : eval (.Call (.Attribute o m apos) [] [] pos) X.env = (do
      let ov ← eval o X.env
      standAt apos.atName
      let (f, first) ← holding [ov] (getMethod ov m pl)
      callWith pos f first (backTo pos (starEach [] X.env)) (backToKw pos (keywordEach [] X.env))) := by rfl) :
    PE X (.Call (.Attribute o m apos) [] [] pos) (tMt C m sp ta tNil) := by
  obtain ⟨f, fd, F, hm, hb⟩ := cm.ex
  rw [← tmt_eq]
  exact pe_meth0 (pl := pl) he c hm F hr hb .nil pass0 ht
theorem pe_mk (cm : CalC X.prog X.w X.K X.mg X.base x C k ps sp) (hr : Room (k + 1) X.A) (hg : Gl X x) (ha : PA X (e :: es) t) (hdb : (x == ("__debug__" : Str)) = false := by decide)
    (he : starEach (e :: es) X.env = (false, eval e X.env) :: starEach es X.env := by rfl) (hpl : (backTo pos (starEach es X.env)).any (·.1) = false := by rfl) :
    PE X (.Call (.Name x p) (e :: es) [] pos) (tMk C sp t) := by
  obtain ⟨f, fd, F, hM, hm, hb⟩ := cm.ex
  rw [← tmk_eq]
  exact pe_make hM F hr hg hm hb .nil pass0 ha hdb he hpl
theorem pe_mk0 (cm : CalC X.prog X.w X.K X.mg X.base x C k ps sp) (hr : Room (k + 1) X.A) (hg : Gl X x) (hdb : (x == ("__debug__" : Str)) = false := by decide) :
    PE X (.Call (.Name x p) [] [] pos) (tMk C sp tNil) := by
  obtain ⟨f, fd, F, hM, hm, hb⟩ := cm.ex
  rw [← tmk_eq]
  exact pe_make0 hM F hr hg hm hb .nil pass0 hdb
end

/-! ### readings, one step each -/
section
variable {K : PySem.W.Frag} {σ : L2.St} {H H' : Hp} {Q : VK} {D : Ends} {i : Nat} {v x y : V} {ta tb te tc : TE} {r : R2} {t u : TS} {c d : TT} {as tr : TA} {g : TG} {a b : Int} {p C dx : Addr} {QB : Bool → Hp → Prop} {QL : List V → Hp → Prop}
theorem g_seq (h : t { D with nx := u D } σ H) : tSeq t u D σ H := h
theorem g_cut (M : L2.St → Hp → Prop) (h : t { D with nx := M } σ H) (k : ∀ σ' H', M σ' H' → u D σ' H') : Evl.tCut t u D σ H := ⟨M, h, k⟩
theorem g_next (h : D.nx σ H) : tNext D σ H := h
theorem g_brk (h : D.bk σ H) : tBreak D σ H := h
theorem g_cont (h : D.ct σ H) : tCont D σ H := h
theorem g_asg (h : te σ H (fun v H' => g v σ H' D.nx)) : tAsg te g D σ H := h
theorem g_name {QS : L2.St → Hp → Prop} (h : QS (σ.set i (some v)) H) : gName i v σ H QS := h
theorem g_ret (h : te σ H D.rt) : tRet te D σ H := h
theorem g_retN (h : D.rt .non H) : tRetN D σ H := h
theorem g_drop (h : te σ H (fun _ H' => D.nx σ H')) : tDrop te D σ H := h
theorem g_ifs (h : c σ H (fun b H' => if b = true then t D σ H' else u D σ H')) : tIfS c t u D σ H := h
theorem g_aug {ti : TIp} (hx : σ[i]? = some (some x)) (h : te σ H (fun y H1 => ti x y H1 fun z H2 => D.nx (σ.set i (some z)) H2)) : tAug i te ti D σ H := ⟨x, hx, h⟩
theorem g_ipI {f : Int → Int → Int} (h : Q (.int (f a b)) H) : ipI f (.int a) (.int b) H Q := ⟨a, b, rfl, rfl, h⟩
theorem g_var (hx : σ[i]? = some (some v)) (h : Q v H) : tVar i σ H Q := ⟨v, hx, h⟩
theorem g_c (h : Q v H) : tC v σ H Q := h
theorem g_op (h : ta σ H (fun x H1 => tb σ H1 fun y H2 => r x y H2 Q)) : tOp r ta tb σ H Q := h
theorem g_add (h : Q (.int (a + b)) H) : oAdd (.int a) (.int b) H Q := ⟨a, b, rfl, rfl, h⟩
theorem g_sub (h : Q (.int (a - b)) H) : oSub (.int a) (.int b) H Q := ⟨a, b, rfl, rfl, h⟩
theorem g_mul (hc : CMul a b) (h : Q (.int (a * b)) H) : oMul (.int a) (.int b) H Q := ⟨a, b, rfl, rfl, hc, h⟩
theorem g_mod (hc : 0 < b) (h : Q (.int (a % b)) H) : oMod (.int a) (.int b) H Q := ⟨a, b, rfl, rfl, hc, h⟩
theorem g_div (hc : CDiv a b) (h : Q (.int (a / b)) H) : oDiv (.int a) (.int b) H Q := ⟨a, b, rfl, rfl, hc, h⟩
theorem g_pow (hc : CPow a b) (h : Q (.int (a ^ b.toNat)) H) : oPow (.int a) (.int b) H Q := ⟨a, b, rfl, rfl, hc, h⟩
theorem g_lt (h : Q (.bl (decide (a < b))) H) : cLt (.int a) (.int b) H Q := ⟨a, b, rfl, rfl, h⟩
theorem g_le (h : Q (.bl (decide (a ≤ b))) H) : cLe (.int a) (.int b) H Q := ⟨a, b, rfl, rfl, h⟩
theorem g_gt (h : Q (.bl (decide (b < a))) H) : cGt (.int a) (.int b) H Q := ⟨a, b, rfl, rfl, h⟩
theorem g_ge (h : Q (.bl (decide (b ≤ a))) H) : cGe (.int a) (.int b) H Q := ⟨a, b, rfl, rfl, h⟩
theorem g_eqI (h : Q (.bl (decide (a = b))) H) : rEq (.int a) (.int b) H Q := ⟨rfl, by rw [show decide (V.int a = V.int b) = decide (a = b) from by simp]; exact h⟩
theorem g_neI (h : Q (.bl (!decide (a = b))) H) : rNe (.int a) (.int b) H Q := ⟨rfl, by rw [show decide (V.int a = V.int b) = decide (a = b) from by simp]; exact h⟩
theorem g_eqS {a b : Str} (h : Q (.bl (decide (a = b))) H) : rEq (.str a) (.str b) H Q := ⟨rfl, by rw [show decide (V.str a = V.str b) = decide (a = b) from by simp]; exact h⟩
theorem g_neS {a b : Str} (h : Q (.bl (!decide (a = b))) H) : rNe (.str a) (.str b) H Q := ⟨rfl, by rw [show decide (V.str a = V.str b) = decide (a = b) from by simp]; exact h⟩
theorem g_eqB {a b : Bool} (h : Q (.bl (decide (a = b))) H) : rEq (.bl a) (.bl b) H Q := ⟨rfl, by rw [show decide (V.bl a = V.bl b) = decide (a = b) from by simp]; exact h⟩
theorem g_isN (h : Q (.bl (decide (x = .non))) H) : rIsNon x .non H Q := ⟨rfl, h⟩
theorem g_notN (h : Q (.bl (!decide (x = .non))) H) : rIsNotNon x .non H Q := ⟨rfl, h⟩
theorem g_test (h : te σ H (fun x H' => ∃ k, x = .bl k ∧ QB k H')) : tTest te σ H QB := h
theorem g_tb (h : te σ H (fun x H' => ∃ k, x = .bl k ∧ QB k H')) : tB te σ H QB := h
theorem g_bl {k : Bool} {P : Bool → Prop} (h : P k) : ∃ k', V.bl k = V.bl k' ∧ P k' := ⟨k, rfl, h⟩
theorem g_and (h : c σ H (fun b H1 => if b = true then d σ H1 QB else QB false H1)) : tAnd c d σ H QB := h
theorem g_or (h : c σ H (fun b H1 => if b = true then QB true H1 else d σ H1 QB)) : tOr c d σ H QB := h
theorem g_not (h : c σ H (fun b H1 => QB (!b) H1)) : tNot c σ H QB := h
theorem g_andV (h : ta σ H (fun x H1 => ∃ c, x = .bl c ∧ if c = true then tb σ H1 Q else Q (.bl false) H1)) : tAndV ta tb σ H Q := h
theorem g_orV (h : ta σ H (fun x H1 => ∃ c, x = .bl c ∧ if c = true then Q (.bl true) H1 else tb σ H1 Q)) : tOrV ta tb σ H Q := h
theorem g_notV (h : ta σ H (fun x H1 => ∃ c, x = .bl c ∧ Q (.bl (!c)) H1)) : tNotV ta σ H Q := h
theorem g_ifE (h : c σ H (fun b H1 => if b = true then ta σ H1 Q else tb σ H1 Q)) : tIf c ta tb σ H Q := h
theorem g_ite {P : Prop} [Decidable P] {A B : Prop} (h1 : P → A) (h2 : ¬ P → B) : if decide P = true then A else B := by
  by_cases h : P
  · rw [if_pos (decide_eq_true h)]; exact h1 h
  · rw [if_neg (by simp [h])]; exact h2 h
theorem g_iteN {P : Prop} [Decidable P] {A B : Prop} (h1 : ¬ P → A) (h2 : P → B) : if (!decide P) = true then A else B := by
  by_cases h : P
  · rw [if_neg (by simp [h])]; exact h2 h
  · rw [if_pos (by simp [h])]; exact h1 h
theorem g_iteB {k : Bool} {A B : Prop} (h1 : k = true → A) (h2 : k = false → B) : if k = true then A else B := by
  cases k with
  | true => rw [if_pos rfl]; exact h1 rfl
  | false => rw [if_neg Bool.false_ne_true]; exact h2 rfl
theorem g_iteNB {k : Bool} {A B : Prop} (h1 : k = false → A) (h2 : k = true → B) : if (!k) = true then A else B := by
  cases k with
  | true => rw [if_neg (by decide)]; exact h2 rfl
  | false => rw [if_pos (by decide)]; exact h1 rfl
theorem g_iteT {A B : Prop} (h : A) : if true = true then A else B := by rw [if_pos rfl]; exact h
theorem g_iteF {A B : Prop} (h : B) : if false = true then A else B := by rw [if_neg Bool.false_ne_true]; exact h
theorem g_iteNT {A B : Prop} (h : B) : if (!true) = true then A else B := by rw [if_neg (by decide)]; exact h
theorem g_iteNF {A B : Prop} (h : A) : if (!false) = true then A else B := by rw [if_pos (by decide)]; exact h
theorem g_nil (h : QL [] H) : tNil σ H QL := h
theorem g_cons (h : te σ H (fun x H1 => as σ H1 fun xs H2 => QL (x :: xs) H2)) : tCons te as σ H QL := h
theorem g_cb {rr : List V → Hp → VK → Prop} (h : as σ H (fun vs H1 => rr vs H1 Q)) : tCB rr as σ H Q := h
theorem g_cl {sp : Sp} (h : as σ H (fun vs H1 => sp vs H1 Q E0)) : tCl sp as σ H Q := h
/-- a new tuple, a new list -/
def rNewT (vs : List V) (H : Hp) (Q : VK) : Prop := vs.length ≤ sizeLine ∧ ∀ p, H p = none → Q (.ref p) (upd H p (.tup vs))
def rNewL (vs : List V) (H : Hp) (Q : VK) : Prop := vs.length ≤ sizeLine ∧ ∀ p, H p = none → Q (.ref p) (upd H p (.lst vs))
theorem g_tup (h : as σ H (fun vs H1 => rNewT vs H1 Q)) : tTup as σ H Q := h
theorem g_lst (h : as σ H (fun vs H1 => rNewL vs H1 Q)) : tLst as σ H Q := h
theorem g_newT {vs : List V} (hl : vs.length ≤ sizeLine) (h : ∀ p H', H p = none → Fr [] H H' → H' p = some (.tup vs) → Q (.ref p) H') : rNewT vs H Q := ⟨hl, fun p hp => h p _ hp (Fr.new hp) upd_same⟩
theorem g_newL {vs : List V} (hl : vs.length ≤ sizeLine) (h : ∀ p H', H p = none → Fr [] H H' → H' p = some (.lst vs) → Q (.ref p) H') : rNewL vs H Q := ⟨hl, fun p hp => h p _ hp (Fr.new hp) upd_same⟩
theorem g_ixL {xs : List V} {k : Int} (h : SqL K H p xs) (ha : atI xs k = some v) (q : Q v H) : rIxL K (.ref p) (.int k) H Q := ⟨p, xs, k, v, rfl, rfl, h, ha, q⟩
theorem g_ixT {xs : List V} {k : Int} (h : SqT K H p xs) (ha : atI xs k = some v) (q : Q v H) : rIxT K (.ref p) (.int k) H Q := ⟨p, xs, k, v, rfl, rfl, h, ha, q⟩
theorem g_lenL {xs : List V} (h : SqL K H p xs) (q : Q (.int xs.length) H) : rLenSq K [.ref p] H Q := ⟨p, xs, rfl, .inl h, q⟩
theorem g_lenT {xs : List V} (h : SqT K H p xs) (q : Q (.int xs.length) H) : rLenSq K [.ref p] H Q := ⟨p, xs, rfl, .inr h, q⟩
theorem g_listL {xs : List V} (h : SqL K H p xs) (q : ∀ l H', H l = none → Fr [] H H' → H' l = some (.lst xs) → Q (.ref l) H') : rListOf K [.ref p] H Q := ⟨p, xs, rfl, .inl h, fun l hl => q l _ hl (Fr.new hl) upd_same⟩
theorem g_listT {xs : List V} (h : SqT K H p xs) (q : ∀ l H', H l = none → Fr [] H H' → H' l = some (.lst xs) → Q (.ref l) H') : rListOf K [.ref p] H Q := ⟨p, xs, rfl, .inr h, fun l hl => q l _ hl (Fr.new hl) upd_same⟩
theorem g_tupL {xs : List V} (h : SqL K H p xs) (q : ∀ l H', H l = none → Fr [] H H' → H' l = some (.tup xs) → Q (.ref l) H') : rTupOf K [.ref p] H Q := ⟨p, xs, rfl, .inl ⟨h, fun l hl => q l _ hl (Fr.new hl) upd_same⟩⟩
theorem g_max2 (q : Q (.int (if b > a then b else a)) H) : rMax2 [.int a, .int b] H Q := ⟨a, b, rfl, q⟩
theorem g_min2 (q : Q (.int (if b < a then b else a)) H) : rMin2 [.int a, .int b] H Q := ⟨a, b, rfl, q⟩
def rBM (K : PySem.W.Frag) (T : String) (x : V) (H : Hp) (P : Prop) : Prop := tyV K T x H ∧ P
theorem g_bm {T : String} {rr : V → List V → Hp → VK → Prop} (h : te σ H (fun x H1 => rBM K T x H1 (as σ H1 fun xs H2 => rr x xs H2 Q))) : tBM K T rr te as σ H Q := h
theorem g_bm0 {T : String} {rr : V → List V → Hp → VK → Prop} (h : te σ H (fun x H1 => rBM K T x H1 (rr x [] H1 Q))) : tBM0 K T rr te σ H Q := h
theorem g_bmL {xs : List V} {P : Prop} (h : H p = some (.lst xs)) (q : P) : rBM K "list" (.ref p) H P := ⟨.inl ⟨rfl, xs, SqL.of h⟩, q⟩
theorem g_append {xs : List V} (h : H p = some (.lst xs)) (hl : xs.length < sizeLine) (q : ∀ H', Fr [p] H H' → H' p = some (.lst (xs ++ [y])) → Q .non H') : rAppend (.ref p) [y] H Q := ⟨p, xs, y, rfl, rfl, h, hl, q _ (Fr.put h trivial) upd_same⟩
theorem g_clear {xs : List V} (h : H p = some (.lst xs)) (q : ∀ H', Fr [p] H H' → H' p = some (.lst []) → Q .non H') : rClear (.ref p) [] H Q := ⟨p, xs, rfl, rfl, h, q _ (Fr.put h trivial) upd_same⟩
theorem g_sub1 {to ti : TE} {ts : TSet} {QS : L2.St → Hp → Prop} (h : to σ H (fun o H1 => ti σ H1 fun i H2 => ts o i v H2 fun H3 => QS σ H3)) : gSub to ti ts v σ H QS := h
theorem g_setL {xs : List V} {k : Int} {j : Nat} {P : Hp → Prop} (h : H p = some (.lst xs)) (hj : ixN xs.length k = some j) (q : ∀ H', Fr [p] H H' → H' p = some (.lst (xs.set j v)) → P H') : rSetL (.ref p) (.int k) v H P := ⟨p, xs, k, j, rfl, rfl, h, hj, q _ (Fr.put h trivial) upd_same⟩
/-- attributes -/
def rFld (K : PySem.W.Frag) (f : Str) (x : V) (H : Hp) (Q : VK) : Prop := ∃ a C dx fs v, x = .ref a ∧ H a = some (.ins C dx fs) ∧ Cls K C ∧ NoAttr K C f ∧ fs.lookup f = some v ∧ Q v H
theorem g_fld {f : Str} (h : ta σ H (fun x H1 => rFld K f x H1 Q)) : tFld K ta f σ H Q := h
theorem g_rfld {f : Str} {fs : List (Str × V)} (h : H p = some (.ins C dx fs)) (c : Cls K C) (n : NoAttr K C f) (l : fs.lookup f = some v) (q : Q v H) : rFld K f (.ref p) H Q := ⟨p, C, dx, fs, v, rfl, h, c, n, l, q⟩
def rFldS (K : PySem.W.Frag) (f : Str) (x v : V) (H : Hp) (P : Hp → Prop) : Prop := ∃ a C dx fs, x = .ref a ∧ H a = some (.ins C dx fs) ∧ Cls K C ∧ NoAttr K C f ∧ fs.length < 1000 ∧ P (upd H a (.ins C dx (putF f v fs)))
theorem g_sfld {f : Str} (h : tb σ H (fun y H1 => ta σ H1 fun x H2 => rFldS K f x y H2 fun H3 => D.nx σ H3)) : sFld K ta tb f D σ H := h
theorem g_rflds {f : Str} {fs gs : List (Str × V)} {P : Hp → Prop} (h : H p = some (.ins C dx fs)) (c : Cls K C) (n : NoAttr K C f) (hl : fs.length < 1000) (e : putF f v fs = gs) (q : ∀ H', Fr [p] H H' → H' p = some (.ins C dx gs) → P H') : rFldS K f (.ref p) v H P :=
  ⟨p, C, dx, fs, rfl, h, c, n, hl, q _ (Fr.put h trivial) (by rw [e]; exact upd_same)⟩
def rFldA (K : PySem.W.Frag) (f : Str) (tv : TE) (rd : V → V → Hp → VK → Prop) (x : V) (σ : L2.St) (H : Hp) (D : Ends) : Prop := ∃ a C dx fs v, x = .ref a ∧ H a = some (.ins C dx fs) ∧ Cls K C ∧ NoAttr K C f ∧ fs.lookup f = some v ∧
  tv σ H fun y H2 => rd v y H2 fun z H3 => ∃ dx' fs', H3 a = some (.ins C dx' fs') ∧ fs'.length < 1000 ∧ D.nx σ (upd H3 a (.ins C dx' (putF f z fs')))
theorem g_flda {f : Str} {rd : V → V → Hp → VK → Prop} (h : ta σ H (fun x H1 => rFldA K f tb rd x σ H1 D)) : sFldAug K ta tb rd f D σ H := h
def rFldB (a C : Addr) (f : Str) (z : V) (H3 : Hp) (P : Hp → Prop) : Prop := ∃ dx' fs', H3 a = some (.ins C dx' fs') ∧ fs'.length < 1000 ∧ P (upd H3 a (.ins C dx' (putF f z fs')))
theorem g_rflda {f : Str} {fs : List (Str × V)} {rd : V → V → Hp → VK → Prop} (h : H p = some (.ins C dx fs)) (c : Cls K C) (n : NoAttr K C f) (l : fs.lookup f = some v) (q : tb σ H fun y H2 => rd v y H2 fun z H3 => rFldB p C f z H3 fun H4 => D.nx σ H4) : rFldA K f tb rd (.ref p) σ H D :=
  ⟨p, C, dx, fs, v, rfl, h, c, n, l, q⟩
theorem g_rfldb {f : Str} {fs gs : List (Str × V)} {P : Hp → Prop} (h : H p = some (.ins C dx fs)) (hl : fs.length < 1000) (e : putF f v fs = gs) (q : ∀ H', Fr [p] H H' → H' p = some (.ins C dx gs) → P H') : rFldB p C f v H P :=
  ⟨dx, fs, h, hl, q _ (Fr.put h trivial) (by rw [e]; exact upd_same)⟩
theorem g_rAdd (h : Q (.int (a + b)) H) : rAdd (.int a) (.int b) H Q := ⟨a, b, rfl, rfl, h⟩
theorem g_rSub (h : Q (.int (a - b)) H) : rSub (.int a) (.int b) H Q := ⟨a, b, rfl, rfl, h⟩
theorem g_mt {m : Str} {sp : Sp} (h : ta σ H (fun x H1 => rMt C m x H1 (as σ H1 fun vs H2 => sp (x :: vs) H2 Q E0))) : tMt C m sp ta as σ H Q := h
theorem g_rmt {m : Str} {fs : List (Str × V)} {P : Prop} (h : H p = some (.ins C dx fs)) (l : fs.lookup m = none) (q : P) : rMt C m (.ref p) H P := ⟨p, dx, fs, rfl, h, l, q⟩
def rMk (C : Addr) (sp : Sp) (vs : List V) (H1 : Hp) (Q : VK) : Prop := ∀ x dx, H1 x = none → H1 dx = none → dx ≠ x →
  sp (.ref x :: vs) (upd (upd H1 dx (.own x)) x (.ins C dx [])) (fun v H2 => v = .non ∧ Q (.ref x) H2) E0
theorem g_mk {sp : Sp} (h : as σ H (fun vs H1 => rMk C sp vs H1 Q)) : tMk C sp as σ H Q := h
theorem g_rmk {sp : Sp} {vs : List V} (k : ∀ x dx H2, H x = none → H dx = none → dx ≠ x → Fr [] H H2 → H2 x = some (.ins C dx []) → H2 dx = some (.own x) → sp (.ref x :: vs) H2 (fun v H3 => v = .non ∧ Q (.ref x) H3) E0) : rMk C sp vs H Q := by
  intro x dx nx nd ne
  refine k x dx _ nx nd ne ?_ upd_same (by rw [upd_ne ne]; exact upd_same)
  have f1 : Fr [] H (upd H dx (.own x)) := Fr.new nd
  exact f1.then0 (Fr.new (by rw [upd_ne ne.symm]; exact nx))
end

/-! ### isinstance against a built-in class -/
theorem kb_NoneType_list : kitB "NoneType" "list" = some false := by decide +kernel
theorem kb_NoneType_tuple : kitB "NoneType" "tuple" = some false := by decide +kernel
theorem kb_NoneType_bool : kitB "NoneType" "bool" = some false := by decide +kernel
theorem kb_NoneType_int : kitB "NoneType" "int" = some false := by decide +kernel
theorem kb_NoneType_str : kitB "NoneType" "str" = some false := by decide +kernel
theorem kb_NoneType_dict : kitB "NoneType" "dict" = some false := by decide +kernel
theorem kb_bool_list : kitB "bool" "list" = some false := by decide +kernel
theorem kb_bool_tuple : kitB "bool" "tuple" = some false := by decide +kernel
theorem kb_bool_bool : kitB "bool" "bool" = some true := by decide +kernel
theorem kb_bool_int : kitB "bool" "int" = some true := by decide +kernel
theorem kb_bool_str : kitB "bool" "str" = some false := by decide +kernel
theorem kb_bool_dict : kitB "bool" "dict" = some false := by decide +kernel
theorem kb_int_list : kitB "int" "list" = some false := by decide +kernel
theorem kb_int_tuple : kitB "int" "tuple" = some false := by decide +kernel
theorem kb_int_bool : kitB "int" "bool" = some false := by decide +kernel
theorem kb_int_int : kitB "int" "int" = some true := by decide +kernel
theorem kb_int_str : kitB "int" "str" = some false := by decide +kernel
theorem kb_int_dict : kitB "int" "dict" = some false := by decide +kernel
theorem kb_str_list : kitB "str" "list" = some false := by decide +kernel
theorem kb_str_tuple : kitB "str" "tuple" = some false := by decide +kernel
theorem kb_str_bool : kitB "str" "bool" = some false := by decide +kernel
theorem kb_str_int : kitB "str" "int" = some false := by decide +kernel
theorem kb_str_str : kitB "str" "str" = some true := by decide +kernel
theorem kb_str_dict : kitB "str" "dict" = some false := by decide +kernel
theorem kb_list_list : kitB "list" "list" = some true := by decide +kernel
theorem kb_list_tuple : kitB "list" "tuple" = some false := by decide +kernel
theorem kb_list_bool : kitB "list" "bool" = some false := by decide +kernel
theorem kb_list_int : kitB "list" "int" = some false := by decide +kernel
theorem kb_list_str : kitB "list" "str" = some false := by decide +kernel
theorem kb_list_dict : kitB "list" "dict" = some false := by decide +kernel
theorem kb_tuple_list : kitB "tuple" "list" = some false := by decide +kernel
theorem kb_tuple_tuple : kitB "tuple" "tuple" = some true := by decide +kernel
theorem kb_tuple_bool : kitB "tuple" "bool" = some false := by decide +kernel
theorem kb_tuple_int : kitB "tuple" "int" = some false := by decide +kernel
theorem kb_tuple_str : kitB "tuple" "str" = some false := by decide +kernel
theorem kb_tuple_dict : kitB "tuple" "dict" = some false := by decide +kernel
theorem kb_dict_list : kitB "dict" "list" = some false := by decide +kernel
theorem kb_dict_tuple : kitB "dict" "tuple" = some false := by decide +kernel
theorem kb_dict_bool : kitB "dict" "bool" = some false := by decide +kernel
theorem kb_dict_int : kitB "dict" "int" = some false := by decide +kernel
theorem kb_dict_str : kitB "dict" "str" = some false := by decide +kernel
theorem kb_dict_dict : kitB "dict" "dict" = some true := by decide +kernel

theorem g_isi {K : PySem.W.Frag} {H : Hp} {Q : VK} {x : V} {a b : String} {r : Bool} (ty : TyX K H x (.type a)) (h : kitB a b = some r) (q : Q (.bl r) H) : rIsi K [x, .ty b] H Q := ⟨x, .ty b, .type a, .type b, r, rfl, .ty b, ty, kit_ty h, q⟩
/-! ### immutable and other data -/
mutual
inductive Da (H : Hp) : V → PyData → Prop
  | non : Da H .non .none
  | bl (b : Bool) : Da H (.bl b) (.bool b)
  | int (i : Int) : Da H (.int i) (.int i)
  | str (x : Str) : Da H (.str x) (.str x)
  | lst {a : Addr} {xs : List V} {ds : List PyData} : H a = some (.lst xs) → xs.length ≤ 1000000 → DaL H xs ds → Da H (.ref a) (.list ds)
  | tup {a : Addr} {xs : List V} {ds : List PyData} : H a = some (.tup xs) → xs.length ≤ 1000000 → DaL H xs ds → Da H (.ref a) (.tuple ds)
inductive DaL (H : Hp) : List V → List PyData → Prop
  | nil : DaL H [] []
  | cons {v : V} {vs : List V} {d : PyData} {ds : List PyData} : Da H v d → DaL H vs ds → DaL H (v :: vs) (d :: ds)
end
/-! how deep -/
mutual
def dp : PyData → Nat
  | .list ds => dpL ds + 1
  | .tuple ds => dpL ds + 1
  | _ => 0
def dpL : List PyData → Nat
  | [] => 0
  | d :: ds => max (dp d) (dpL ds)
end
/-! no list within -/
mutual
def imm : PyData → Bool
  | .list _ => false
  | .tuple ds => immL ds
  | _ => true
def immL : List PyData → Bool
  | [] => true
  | d :: ds => imm d && immL ds
end
theorem DaL.len {H : Hp} : ∀ {vs : List V} {ds : List PyData}, DaL H vs ds → vs.length = ds.length
  | _, _, .nil => rfl
  | _, _, .cons _ t => by rw [List.length_cons, List.length_cons, DaL.len t]
theorem DaL.get {H : Hp} : ∀ {vs : List V} {ds : List PyData} {i : Nat} {v : V}, DaL H vs ds → vs[i]? = some v → ∃ d, ds[i]? = some d ∧ Da H v d
  | _, _, _, _, .nil, e => by simp at e
  | _, _, 0, _, .cons r _, e => by simp at e; subst e; exact ⟨_, rfl, r⟩
  | _, _, i + 1, v, .cons _ t, e => by
    obtain ⟨u, h1, h2⟩ := DaL.get (i := i) (v := v) t (by simpa using e)
    exact ⟨u, by simpa using h1, h2⟩
theorem DaL.get' {H : Hp} : ∀ {vs : List V} {ds : List PyData} {i : Nat} {d : PyData}, DaL H vs ds → ds[i]? = some d → ∃ v, vs[i]? = some v ∧ Da H v d
  | _, _, _, _, .nil, e => by simp at e
  | _, _, 0, _, .cons r _, e => by simp at e; subst e; exact ⟨_, rfl, r⟩
  | _, _, i + 1, v, .cons _ t, e => by
    obtain ⟨u, h1, h2⟩ := DaL.get' (i := i) (d := v) t (by simpa using e)
    exact ⟨u, by simpa using h1, h2⟩
theorem DaL.append {H : Hp} : ∀ {vs ws : List V} {ds es : List PyData}, DaL H vs ds → DaL H ws es → DaL H (vs ++ ws) (ds ++ es)
  | _, _, _, _, .nil, s => s
  | _, _, _, _, .cons r t, s => .cons r (DaL.append t s)
theorem dpL_get : ∀ {ds : List PyData} {i : Nat} {d : PyData}, ds[i]? = some d → dp d ≤ dpL ds
  | [], _, _, e => by simp at e
  | a :: r, 0, d, e => by simp at e; subst e; exact Nat.le_max_left _ _
  | a :: r, i + 1, d, e => Nat.le_trans (dpL_get (ds := r) (i := i) (by simpa using e)) (Nat.le_max_right _ _)
mutual
theorem Da.fr {l : List Addr} {H H' : Hp} (f : Fr l H H') : ∀ (d : PyData) (v : V), Da H v d → imm d = true → Da H' v d
  | .none, _, h, _ => by cases h; exact .non
  | .bool b, _, h, _ => by cases h; exact .bl b
  | .int i, _, h, _ => by cases h; exact .int i
  | .str x, _, h, _ => by cases h; exact .str x
  | .list ds, _, _, i => by simp [imm] at i
  | .tuple ds, _, h, i => by
    cases h with
    | tup e z r => exact .tup (f.tup _ _ e) z (DaL.fr f ds _ r (by simpa [imm] using i))
  | .dict _, _, h, _ => by cases h
theorem DaL.fr {l : List Addr} {H H' : Hp} (f : Fr l H H') : ∀ (ds : List PyData) (vs : List V), DaL H vs ds → immL ds = true → DaL H' vs ds
  | [], _, h, _ => by cases h; exact .nil
  | d :: ds, _, h, i => by
    simp only [immL, Bool.and_eq_true] at i
    cases h with
    | cons r t => exact .cons (Da.fr f d _ r i.1) (DaL.fr f ds _ t i.2)
end
mutual
theorem Da.dp {K : PySem.W.Frag} {H : Hp} : ∀ (d : PyData) (v : V), Da H v d → Dp K H v d
  | .none, _, h => by cases h; exact .non
  | .bool b, _, h => by cases h; exact .bl b
  | .int i, _, h => by cases h; exact .int i
  | .str x, _, h => by cases h; exact .str x
  | .list ds, _, h => by
    cases h with
    | lst e _ r => exact .lst (SqL.of e) (DaL.dp ds _ r)
  | .tuple ds, _, h => by
    cases h with
    | tup e _ r => exact .tup (SqT.of e) (DaL.dp ds _ r)
  | .dict _, _, h => by cases h
theorem DaL.dp {K : PySem.W.Frag} {H : Hp} : ∀ (ds : List PyData) (vs : List V), DaL H vs ds → DpAll K H vs ds
  | [], _, h => by cases h; exact .nil
  | d :: ds, _, h => by
    cases h with
    | cons r t => exact .cons (Da.dp d _ r) (DaL.dp ds _ t)
end
theorem Da.frL {l : List Addr} {H H' : Hp} (f : Fr l H H') {d : PyData} {v : V} (h : Da H v d) (i : imm d = true) : Da H' v d := Da.fr f d v h i
theorem DaL.frL {l : List Addr} {H H' : Hp} (f : Fr l H H') {ds : List PyData} {vs : List V} (h : DaL H vs ds) (i : immL ds = true) : DaL H' vs ds := DaL.fr f ds vs h i
theorem immL_append : ∀ {ds es : List PyData}, immL (ds ++ es) = (immL ds && immL es)
  | [], _ => by simp [immL]
  | d :: ds, es => by simp [immL, immL_append (ds := ds), Bool.and_assoc]
theorem dpL_append : ∀ {ds es : List PyData}, dpL (ds ++ es) = max (dpL ds) (dpL es)
  | [], _ => by simp [dpL]
  | d :: ds, es => by simp [dpL, dpL_append (ds := ds), Nat.max_assoc]

/-! ### loops and comprehensions -/
section
variable {K : PySem.W.Frag} {σ : L2.St} {H H' : Hp} {Q : VK} {D : Ends} {te tl : TE} {tt : TT} {tb : TS} {g : TG} {wi : TI} {ta : TA} {a b : Addr} {xs ys : List V} {vs : List Nat} {J : It}
def ForGo (J : It) (g : TG) (tb : TS) (D : Ends) (σ : L2.St) (H1 : Hp) : Prop := ∃ W : Nat → Nat → L2.St → Hp → Prop, (∃ m, W 0 m σ H1) ∧ ∀ i m σ H, W i m σ H →
  (J.stop i H ∧ D.nx σ H) ∨ (J.go i H ∧ ∃ N : L2.St → Hp → Prop, (∀ σ' H', N σ' H' → ∃ m', m' < m ∧ W (i + 1) m' σ' H') ∧ ∀ x H', J.yld i H x H' → g x σ H' fun σ2 H2 => tb { D with nx := N, ct := N, bk := D.nx } σ2 H2)
theorem g_for (h : wi σ H (fun J H1 => ForGo J g tb D σ H1)) : tFor wi g tb D σ H := h
def LcGo (J : It) (g : TG) (tt : TT) (te : TE) (vs : List Nat) (σ : L2.St) (Q : VK) (H1 : Hp) : Prop := ∀ D, H1 D = none → ∃ W : Nat → Nat → Hp → Prop, (∃ m, W 0 m (upd H1 D (.lst []))) ∧ ∀ i m H, W i m H →
  (J.stop i H ∧ Q (.ref D) H) ∨ (J.go i H ∧ ∃ Nx : Hp → Prop, (∀ H', Nx H' → ∃ m', m' < m ∧ W (i + 1) m' H') ∧ ∀ x H', J.yld i H x H' → g x (wipe σ vs) H' fun σ2 H2 => wipe σ2 vs = wipe σ vs ∧ tt σ2 H2 fun b H3 =>
    if b = true then te σ2 H3 fun y H4 => ∃ acc, H4 D = some (.lst acc) ∧ acc.length < sizeLine ∧ Nx (upd H4 D (.lst (acc ++ [y]))) else Nx H3)
theorem g_lc (h : wi σ H (fun J H1 => LcGo J g tt te vs σ Q H1)) : tLc wi g tt te vs σ H Q := h
variable {R : It → Hp → Prop}
def rItL (K : PySem.W.Frag) (x : V) (H : Hp) (R : It → Hp → Prop) : Prop := ∃ a, x = .ref a ∧ (∃ xs, SqL K H a xs) ∧ R (Itl K a) H
def rItT (K : PySem.W.Frag) (x : V) (H : Hp) (R : It → Hp → Prop) : Prop := ∃ a, x = .ref a ∧ (∃ xs, SqT K H a xs) ∧ R (Itt K a) H
theorem g_iL (h : tl σ H (fun x H1 => rItL K x H1 R)) : iList K tl σ H R := h
theorem g_iT (h : tl σ H (fun x H1 => rItT K x H1 R)) : iTup K tl σ H R := h
theorem g_riL (hS : SqL K H a xs) (h : R (Itl K a) H) : rItL K (.ref a) H R := ⟨a, rfl, ⟨xs, hS⟩, h⟩
theorem g_riT (hS : SqT K H a xs) (h : R (Itt K a) H) : rItT K (.ref a) H R := ⟨a, rfl, ⟨xs, hS⟩, h⟩
def rIt1 (vs : List V) (H : Hp) (R : It → Hp → Prop) : Prop := ∃ j : Int, vs = [.int j] ∧ -(2 ^ 62) ≤ j ∧ j < 2 ^ 62 ∧ R (Itr 0 j.toNat) H
def rIt2 (vs : List V) (H : Hp) (R : It → Hp → Prop) : Prop := ∃ i j : Int, vs = [.int i, .int j] ∧ (-(2 ^ 62) ≤ i ∧ i < 2 ^ 62 ∧ -(2 ^ 62) ≤ j ∧ j < 2 ^ 62) ∧ R (Itr i (j - i).toNat) H
theorem g_i1 (h : ta σ H (fun vs H1 => rIt1 vs H1 R)) : iRng1 ta σ H R := h
theorem g_i2 (h : ta σ H (fun vs H1 => rIt2 vs H1 R)) : iRng2 ta σ H R := h
theorem g_ri1 {j : Int} (h1 : -(2 ^ 62) ≤ j ∧ j < 2 ^ 62) (h : R (Itr 0 j.toNat) H) : rIt1 [.int j] H R := ⟨j, rfl, h1.1, h1.2, h⟩
theorem g_ri2 {i j : Int} (h1 : -(2 ^ 62) ≤ i ∧ i < 2 ^ 62 ∧ -(2 ^ 62) ≤ j ∧ j < 2 ^ 62) (h : R (Itr i (j - i).toNat) H) : rIt2 [.int i, .int j] H R := ⟨i, j, rfl, h1, h⟩
/-- for over a list that stands -/
theorem f_list (Pv : Nat → L2.St → Hp → Prop) (h0 : Pv 0 σ H) (hl : ∀ i σ H, i ≤ xs.length → Pv i σ H → SqL K H a xs)
    (hs : ∀ i x σ H, xs[i]? = some x → Pv i σ H → g x σ H fun σ2 H2 => tb { D with nx := Pv (i + 1), ct := Pv (i + 1), bk := D.nx } σ2 H2) (hd : ∀ σ H, Pv xs.length σ H → D.nx σ H) : ForGo (Itl K a) g tb D σ H := for_list Pv h0 hl hs hd
theorem f_tup (Pv : Nat → L2.St → Hp → Prop) (h0 : Pv 0 σ H) (hl : ∀ i σ H, i ≤ xs.length → Pv i σ H → SqT K H a xs)
    (hs : ∀ i x σ H, xs[i]? = some x → Pv i σ H → g x σ H fun σ2 H2 => tb { D with nx := Pv (i + 1), ct := Pv (i + 1), bk := D.nx } σ2 H2) (hd : ∀ σ H, Pv xs.length σ H → D.nx σ H) : ForGo (Itt K a) g tb D σ H := for_tup Pv h0 hl hs hd
theorem f_range {lo : Int} {n : Nat} (Pv : Nat → L2.St → Hp → Prop) (h0 : Pv 0 σ H)
    (hs : ∀ i σ H, i < n → Pv i σ H → g (.int (lo + i)) σ H fun σ2 H2 => tb { D with nx := Pv (i + 1), ct := Pv (i + 1), bk := D.nx } σ2 H2) (hd : ∀ σ H, Pv n σ H → D.nx σ H) : ForGo (Itr lo n) g tb D σ H := for_range Pv h0 hs hd
/-! a comprehension: what its turn is to reach -/
def lcY (Dl : Addr) (Pv : Nat → List V → Hp → Prop) (i : Nat) (y : V) (H4 : Hp) : Prop := ∃ acc, H4 Dl = some (.lst acc) ∧ acc.length < sizeLine ∧ ∃ acc', upd H4 Dl (.lst (acc ++ [y])) Dl = some (.lst acc') ∧ Pv (i + 1) acc' (upd H4 Dl (.lst (acc ++ [y])))
def lcN (Dl : Addr) (Pv : Nat → List V → Hp → Prop) (i : Nat) (H3 : Hp) : Prop := ∃ acc, H3 Dl = some (.lst acc) ∧ Pv (i + 1) acc H3
theorem lcY_of {Dl : Addr} {Pv : Nat → List V → Hp → Prop} {i : Nat} {y : V} {acc : List V} (h : H Dl = some (.lst acc)) (hl : acc.length < sizeLine) (k : ∀ H5, Fr [Dl] H H5 → H5 Dl = some (.lst (acc ++ [y])) → Pv (i + 1) (acc ++ [y]) H5) : lcY Dl Pv i y H :=
  ⟨acc, h, hl, _, upd_same, k _ (Fr.put h trivial) upd_same⟩
theorem lcN_of {Dl : Addr} {Pv : Nat → List V → Hp → Prop} {i : Nat} {acc : List V} (h : H Dl = some (.lst acc)) (k : Pv (i + 1) acc H) : lcN Dl Pv i H := ⟨acc, h, k⟩
abbrev lcStep (g : TG) (tt : TT) (te : TE) (vs : List Nat) (σ : L2.St) (Dl : Addr) (Pv : Nat → List V → Hp → Prop) (i : Nat) (x : V) (H' : Hp) : Prop :=
  g x (wipe σ vs) H' fun σ2 H2 => wipe σ2 vs = wipe σ vs ∧ tt σ2 H2 fun b H3 => if b = true then te σ2 H3 fun y H4 => lcY Dl Pv i y H4 else lcN Dl Pv i H3
theorem l_list (k : ∀ Dl H0, H Dl = none → Fr [] H H0 → H0 Dl = some (.lst []) → ∃ Pv : Nat → List V → Hp → Prop, Pv 0 [] H0 ∧ (∀ i acc H', Pv i acc H' → SqL K H' a xs) ∧
    (∀ i x acc H', xs[i]? = some x → H' Dl = some (.lst acc) → Pv i acc H' → lcStep g tt te vs σ Dl Pv i x H') ∧ (∀ acc H', H' Dl = some (.lst acc) → Pv xs.length acc H' → Q (.ref Dl) H')) : LcGo (Itl K a) g tt te vs σ Q H := by
  intro Dl hD
  obtain ⟨Pv, p0, pl, ps, pd⟩ := k Dl _ hD (Fr.new hD) upd_same
  exact lc_list (fun i H' => ∃ acc, H' Dl = some (.lst acc) ∧ Pv i acc H') ⟨[], upd_same, p0⟩ (fun i H' _ ⟨acc, _, p⟩ => pl i acc H' p) (fun i x H' hx ⟨acc, hd, p⟩ => ps i x acc H' hx hd p) (fun H' ⟨acc, hd, p⟩ => pd acc H' hd p)
theorem l_tup (k : ∀ Dl H0, H Dl = none → Fr [] H H0 → H0 Dl = some (.lst []) → ∃ Pv : Nat → List V → Hp → Prop, Pv 0 [] H0 ∧ (∀ i acc H', Pv i acc H' → SqT K H' a xs) ∧
    (∀ i x acc H', xs[i]? = some x → H' Dl = some (.lst acc) → Pv i acc H' → lcStep g tt te vs σ Dl Pv i x H') ∧ (∀ acc H', H' Dl = some (.lst acc) → Pv xs.length acc H' → Q (.ref Dl) H')) : LcGo (Itt K a) g tt te vs σ Q H := by
  intro Dl hD
  obtain ⟨Pv, p0, pl, ps, pd⟩ := k Dl _ hD (Fr.new hD) upd_same
  exact lc_tup (fun i H' => ∃ acc, H' Dl = some (.lst acc) ∧ Pv i acc H') ⟨[], upd_same, p0⟩ (fun i H' _ ⟨acc, _, p⟩ => pl i acc H' p) (fun i x H' hx ⟨acc, hd, p⟩ => ps i x acc H' hx hd p) (fun H' ⟨acc, hd, p⟩ => pd acc H' hd p)
theorem l_range {lo : Int} {n : Nat} (k : ∀ Dl H0, H Dl = none → Fr [] H H0 → H0 Dl = some (.lst []) → ∃ Pv : Nat → List V → Hp → Prop, Pv 0 [] H0 ∧
    (∀ i acc H', i < n → H' Dl = some (.lst acc) → Pv i acc H' → lcStep g tt te vs σ Dl Pv i (.int (lo + i)) H') ∧ (∀ acc H', H' Dl = some (.lst acc) → Pv n acc H' → Q (.ref Dl) H')) : LcGo (Itr lo n) g tt te vs σ Q H := by
  intro Dl hD
  obtain ⟨Pv, p0, ps, pd⟩ := k Dl _ hD (Fr.new hD) upd_same
  exact lc_range (fun i H' => ∃ acc, H' Dl = some (.lst acc) ∧ Pv i acc H') ⟨[], upd_same, p0⟩ (fun i H' hi ⟨acc, hd, p⟩ => ps i acc H' hi hd p) (fun H' ⟨acc, hd, p⟩ => pd acc H' hd p)
theorem g_and2 {A B : Prop} (a : A) (b : B) : A ∧ B := ⟨a, b⟩
theorem g_yes {QB : Bool → Hp → Prop} (h : QB true H) : tYes σ H QB := h
/-- a name's slot, ahead of a known one -/
theorem g_tr {x : V} {k : Bool} {QB : Bool → Hp → Prop} (h : TruV K x H k) (q : QB k H) : ∃ k, TruV K x H k ∧ QB k H := ⟨k, h, q⟩
theorem g_ttr {QB : Bool → Hp → Prop} (h : te σ H (fun x H' => ∃ k, TruV K x H' k ∧ QB k H')) : tTr K te σ H QB := h
end
theorem szM {n : Nat} (h : n ≤ 1000000) : n < sizeLine := Nat.lt_of_le_of_lt h (by decide)
theorem szL {n : Nat} (h : n ≤ 1000000) : n ≤ sizeLine := Nat.le_of_lt (szM h)
theorem getI {ns : List Int} {i : Nat} {x : V} (h : (ns.map V.int)[i]? = some x) : ∃ n, x = .int n ∧ ns[i]? = some n ∧ n ∈ ns := by
  rw [List.getElem?_map] at h
  cases e : ns[i]? with
  | none => rw [e] at h; cases h
  | some n => rw [e] at h; exact ⟨n, (Option.some.inj h).symm, rfl, List.mem_of_getElem? e⟩
theorem atI_of {α : Type} {xs : List α} {z : Int} (h0 : 0 ≤ z) (h : z < xs.length) : ∃ v, atI xs z = some v ∧ xs[z.toNat]? = some v := by
  have hk : z.toNat < xs.length := by omega
  have e : ((z.toNat : Nat) : Int) = z := by omega
  have q : xs[z.toNat]? = some xs[z.toNat] := List.getElem?_eq_getElem hk
  have w := atI_nat q
  rw [e] at w
  exact ⟨_, w, q⟩
theorem atI_mem {α : Type} {xs : List α} {z : Int} (h0 : 0 ≤ z) (h : z < xs.length) : ∃ v, atI xs z = some v ∧ v ∈ xs := by
  obtain ⟨v, a, b⟩ := atI_of h0 h
  exact ⟨v, a, List.mem_of_getElem? b⟩
theorem take_more {α : Type} : ∀ {l : List α} {i : Nat} {x : α}, l[i]? = some x → l.take (i + 1) = l.take i ++ [x]
  | [], i, x, h => by simp at h
  | a :: l, 0, x, h => by
    have e : a = x := Option.some.inj h
    subst e
    rfl
  | a :: l, i + 1, x, h => by
    have ih := take_more (l := l) (i := i) (x := x) h
    show a :: l.take (i + 1) = a :: l.take i ++ [x]
    rw [ih]
    rfl
theorem filter_more {α : Type} {l : List α} {i : Nat} {x : α} {f : α → Bool} (h : l[i]? = some x) : (l.take (i + 1)).filter f = (l.take i).filter f ++ (if f x = true then [x] else []) := by
  rw [take_more h, List.filter_append]
  congr 1
  by_cases q : f x = true
  · simp [q]
  · simp [q]
theorem Da.tup1 {H : Hp} {v : V} {ds : List PyData} (h : Da H v (.tuple ds)) : ∃ a xs, v = .ref a ∧ H a = some (.tup xs) ∧ xs.length ≤ 1000000 ∧ DaL H xs ds := by
  cases h with
  | tup e z r => exact ⟨_, _, rfl, e, z, r⟩
theorem Da.lst1 {H : Hp} {v : V} {ds : List PyData} (h : Da H v (.list ds)) : ∃ a xs, v = .ref a ∧ H a = some (.lst xs) ∧ xs.length ≤ 1000000 ∧ DaL H xs ds := by
  cases h with
  | lst e z r => exact ⟨_, _, rfl, e, z, r⟩
theorem DaL.two {H : Hp} {xs : List V} {d e : PyData} (h : DaL H xs [d, e]) : ∃ x y, xs = [x, y] ∧ Da H x d ∧ Da H y e := by
  cases h with
  | cons a t => cases t with
    | cons b u => cases u; exact ⟨_, _, rfl, a, b⟩
theorem DaL.three {H : Hp} {xs : List V} {d e f : PyData} (h : DaL H xs [d, e, f]) : ∃ x y z, xs = [x, y, z] ∧ Da H x d ∧ Da H y e ∧ Da H z f := by
  cases h with
  | cons a t => cases t with
    | cons b u => cases u with
      | cons c u => cases u; exact ⟨_, _, _, rfl, a, b, c⟩
theorem Da.int1 {H : Hp} {v : V} {i : Int} (h : Da H v (.int i)) : v = .int i := by cases h; rfl
theorem Da.str1 {H : Hp} {v : V} {i : Str} (h : Da H v (.str i)) : v = .str i := by cases h; rfl
theorem Da.bl1 {H : Hp} {v : V} {i : Bool} (h : Da H v (.bool i)) : v = .bl i := by cases h; rfl
theorem Da.non1 {H : Hp} {v : V} (h : Da H v .none) : v = .non := by cases h; rfl
theorem DaL.one' {H : Hp} {v : V} {d : PyData} (h : Da H v d) : DaL H [v] [d] := .cons h .nil
theorem immL_get : ∀ {ds : List PyData} {i : Nat} {d : PyData}, immL ds = true → ds[i]? = some d → imm d = true
  | [], _, _, _, e => by simp at e
  | a :: r, 0, d, h, e => by simp at e; subst e; simp [immL] at h; exact h.1
  | a :: r, i + 1, d, h, e => by simp [immL] at h; exact immL_get (ds := r) (i := i) h.2 (by simpa using e)
theorem immL_of : ∀ {ds : List PyData}, (∀ d ∈ ds, imm d = true) → immL ds = true
  | [], _ => rfl
  | a :: r, h => by simp [immL, h a List.mem_cons_self, immL_of (ds := r) fun d hd => h d (List.mem_cons_of_mem _ hd)]
theorem imm_of : ∀ {ds : List PyData}, immL ds = true → ∀ d ∈ ds, imm d = true
  | [], _, d, hd => by cases hd
  | a :: r, h, d, hd => by
    simp only [immL, Bool.and_eq_true] at h
    rcases List.mem_cons.mp hd with e | e
    · rw [e]; exact h.1
    · exact imm_of h.2 d e
theorem dpL_mem : ∀ {ds : List PyData} {d : PyData}, d ∈ ds → dp d ≤ dpL ds
  | [], _, h => by cases h
  | a :: r, d, h => by
    rcases List.mem_cons.mp h with e | e
    · rw [e]; exact Nat.le_max_left _ _
    · exact Nat.le_trans (dpL_mem e) (Nat.le_max_right _ _)
theorem dpL_le {n : Nat} : ∀ {ds : List PyData}, (∀ d ∈ ds, dp d ≤ n) → dpL ds ≤ n
  | [], _ => Nat.zero_le _
  | a :: r, h => Nat.max_le.mpr ⟨h a List.mem_cons_self, dpL_le fun d hd => h d (List.mem_cons_of_mem _ hd)⟩
theorem DaL.ints {H : Hp} : ∀ {xs : List V} {r : List Int}, DaL H xs (r.map .int) → xs = r.map V.int
  | [], [], _ => rfl
  | x :: xs, n :: r, h => by
    cases h with
    | cons a t => rw [a.int1, DaL.ints t]; rfl
  | [], _ :: _, h => by cases h
  | _ :: _, [], h => by cases h
theorem DaL.ofInts {H : Hp} : ∀ (r : List Int), DaL H (r.map V.int) (r.map .int)
  | [] => .nil
  | n :: r => .cons (.int n) (DaL.ofInts r)
theorem DaL.set {H : Hp} : ∀ {vs : List V} {ds : List PyData} {i : Nat} {v : V} {d : PyData}, DaL H vs ds → Da H v d → DaL H (vs.set i v) (ds.set i d)
  | _, _, _, _, _, .nil, _ => .nil
  | _, _, 0, _, _, .cons _ t, q => .cons q t
  | _, _, i + 1, _, _, .cons r t, q => .cons r (DaL.set (i := i) t q)
/-! slices, pop at -/
section
variable {K : PySem.W.Frag} {σ : L2.St} {H H' : Hp} {Q : VK} {te : TE} {tl th : TO} {p : Addr} {xs : List V} {lo hi : Option Int}
theorem g_sl {r : V → Option Int → Option Int → Hp → VK → Prop} (h : te σ H fun x H1 => tl σ H1 fun l H2 => th σ H2 fun u H3 => r x l u H3 Q) : tSl r te tl th σ H Q := h
theorem g_noP {QO : Option Int → Hp → Prop} (h : QO none H) : tNoPart σ H QO := h
def rPart (x : V) (H : Hp) (QO : Option Int → Hp → Prop) : Prop := ∃ i, x = .int i ∧ QO (some i) H
theorem g_part {QO : Option Int → Hp → Prop} (h : te σ H fun x H1 => rPart x H1 QO) : tPart te σ H QO := h
theorem g_rpart {i : Int} {QO : Option Int → Hp → Prop} (h : QO (some i) H) : rPart (.int i) H QO := ⟨i, rfl, h⟩
theorem g_slL (h : SqL K H p xs) (q : ∀ l H', H l = none → Fr [] H H' → H' l = some (.lst (cutV xs lo hi)) → Q (.ref l) H') : rSlL K (.ref p) lo hi H Q := ⟨p, xs, rfl, h, fun l hl => q l _ hl (Fr.new hl) upd_same⟩
theorem g_popAt {i : Int} {y : V} (h : H p = some (.lst xs)) (hl : xs.length ≤ 1000000) (h0 : 0 ≤ i) (hy : xs[i.toNat]? = some y) (q : ∀ H', Fr [p] H H' → H' p = some (.lst (xs.eraseIdx i.toNat)) → Q y H') : rPopAt (.ref p) [.int i] H Q := by
  have hlt := (List.getElem?_eq_some_iff.mp hy).1
  refine ⟨p, xs, i, i.toNat, y, rfl, rfl, h, by omega, by omega, ?_, hy, q _ (Fr.put h trivial) upd_same⟩
  refine (ixN_seq (i := i) ?_).1
  unfold ixN
  rw [if_pos h0, if_pos (by omega)]
end
theorem cut_take {xs : List V} {n : Nat} (h : n ≤ xs.length) : cutV xs none (some (n : Int)) = xs.take n := by
  unfold cutV
  rw [HT.sIx_none, HT.sIx_nat, Nat.min_eq_left h, Nat.sub_zero, List.drop_zero]
theorem DaL.take {H : Hp} : ∀ {xs : List V} {ds : List PyData} (n : Nat), DaL H xs ds → DaL H (xs.take n) (ds.take n)
  | _, _, 0, _ => .nil
  | _, _, n + 1, .nil => .nil
  | _, _, n + 1, .cons a t => .cons a (DaL.take n t)
theorem DaL.erase {H : Hp} : ∀ {xs : List V} {ds : List PyData} (n : Nat), DaL H xs ds → DaL H (xs.eraseIdx n) (ds.eraseIdx n)
  | _, _, _, .nil => .nil
  | _, _, 0, .cons _ t => t
  | _, _, n + 1, .cons a t => .cons a (DaL.erase n t)
/-- a statement that is never reached -/
def tDead : TS := fun _ _ _ => False
theorem ps_dead {X : Cx} {st : Stmt} : PS X st tDead := ⟨fun _ _ _ _ _ _ h => h.elim⟩
end Lw

namespace Lw
open PySem L2
/-! ### tables: plain lists of keys and values -/
section
variable {κ α : Type} [DecidableEq κ]
def lk (m : List (κ × α)) (k : κ) : Option α := (m.find? fun e => decide (e.1 = k)).map (·.2)
def pt (m : List (κ × α)) (k : κ) (v : α) : List (κ × α) := if (m.any fun e => decide (e.1 = k)) = true then m.map (fun e => if e.1 = k then (e.1, v) else e) else m ++ [(k, v)]
def dr (m : List (κ × α)) (k : κ) : List (κ × α) := m.filter fun e => decide (e.1 ≠ k)
/-- a table as the layer's pairs -/
def enD {κ' : Type} (f : κ → κ') (g : α → V) (m : List (κ × α)) : List (κ' × V) := m.map fun e => (f e.1, g e.2)
variable {κ' : Type} [DecidableEq κ'] {f : κ → κ'} {g : α → V}
theorem enD_dec (inj : ∀ a b, f a = f b → a = b) (a b : κ) : decide (f a = f b) = decide (a = b) := by
  by_cases h : a = b
  · subst h; simp
  · rw [decide_eq_false h, decide_eq_false fun q => h (inj _ _ q)]
theorem enD_val (inj : ∀ a b, f a = f b → a = b) (m : List (κ × α)) (k : κ) : valV (enD f g m) (f k) = (lk m k).map g := by
  induction m with
  | nil => rfl
  | cons e r ih =>
    by_cases h : e.1 = k
    · have h1 : valV (enD f g (e :: r)) (f k) = some (g e.2) := valV_pos (p := (f e.1, g e.2)) (by rw [h])
      rw [h1]; simp [lk, List.find?_cons, h]
    · have h1 : valV (enD f g (e :: r)) (f k) = valV (enD f g r) (f k) := valV_neg (p := (f e.1, g e.2)) (fun q => h (inj _ _ q))
      rw [h1, ih]; simp [lk, List.find?_cons, h]
theorem enD_any (inj : ∀ a b, f a = f b → a = b) (m : List (κ × α)) (k : κ) : ((enD f g m).any fun e => decide (e.1 = f k)) = m.any fun e => decide (e.1 = k) := by
  induction m with
  | nil => rfl
  | cons e r ih =>
    show (decide (f e.1 = f k) || (enD f g r).any fun e => decide (e.1 = f k)) = _
    rw [ih, enD_dec inj]
    rfl
theorem enD_put (inj : ∀ a b, f a = f b → a = b) (m : List (κ × α)) (k : κ) (v : α) : putK (enD f g m) (f k) (g v) = enD f g (pt m k v) := by
  unfold putK pt
  rw [enD_any inj]
  by_cases h : (m.any fun e => decide (e.1 = k)) = true
  · rw [if_pos h, if_pos h]
    unfold enD
    rw [List.map_map, List.map_map]
    refine List.map_congr_left fun e _ => ?_
    show (if f e.1 = f k then (f e.1, g v) else (f e.1, g e.2)) = _
    by_cases q : e.1 = k
    · simp [q]
    · rw [if_neg fun z => q (inj _ _ z)]; simp [q]
  · rw [if_neg h, if_neg h]
    unfold enD
    rw [List.map_append]
    rfl
theorem enD_drop (inj : ∀ a b, f a = f b → a = b) (m : List (κ × α)) (k : κ) : dropK (enD f g m) (f k) = enD f g (dr m k) := by
  unfold dropK dr enD
  rw [List.filter_map]
  congr 1
  refine List.filter_congr fun e _ => ?_
  show decide (f e.1 ≠ f k) = decide (e.1 ≠ k)
  by_cases h : e.1 = k
  · simp [h]
  · have : f e.1 ≠ f k := fun q => h (inj _ _ q)
    simp [h, this]
theorem enD_len (m : List (κ × α)) : (enD f g m).length = m.length := by unfold enD; rw [List.length_map]
theorem enD_get {m : List (κ × α)} {i : Nat} {k : κ'} {v : V} (h : (enD f g m)[i]? = some (k, v)) : ∃ e, m[i]? = some e ∧ k = f e.1 ∧ v = g e.2 := by
  unfold enD at h
  rw [List.getElem?_map] at h
  cases q : m[i]? with
  | none => rw [q] at h; cases h
  | some e => rw [q] at h; cases h; exact ⟨e, rfl, rfl, rfl⟩
theorem lk_pt (m : List (κ × α)) (k j : κ) (v : α) : lk (pt m k v) j = if j = k then some v else lk m j := by
  have h := enD_put (f := fun k : κ => k) (g := fun _ : α => V.non) (fun _ _ q => q) m k v
  unfold pt
  induction m with
  | nil =>
    by_cases e : j = k
    · simp [lk, e]
    · have : ¬ k = j := fun q => e q.symm
      simp [lk, e, this]
  | cons e r ih =>
    by_cases hk : e.1 = k
    · have ha : ((e :: r).any fun e => decide (e.1 = k)) = true := by simp [hk]
      rw [if_pos ha]
      by_cases hj : j = k
      · rw [if_pos hj]; simp [lk, List.find?_cons, hk, hj]
      · rw [if_neg hj]
        have hk2 : ¬ k = j := fun q => hj q.symm
        have : ∀ r : List (κ × α), lk (r.map fun e => if e.1 = k then (e.1, v) else e) j = lk r j := by
          intro r
          induction r with
          | nil => rfl
          | cons a t ih2 =>
            by_cases ha : a.1 = k
            · have h1 : ¬ a.1 = j := fun q => hj (q.symm.trans ha)
              simp only [List.map_cons, lk, List.find?_cons, if_pos ha, decide_eq_false h1]
              exact ih2
            · by_cases h1 : a.1 = j
              · simp only [List.map_cons, lk, List.find?_cons, if_neg ha, decide_eq_true h1]
              · simp only [List.map_cons, lk, List.find?_cons, if_neg ha, decide_eq_false h1]
                exact ih2
        exact this (e :: r)
    · have ha : ((e :: r).any fun e => decide (e.1 = k)) = r.any fun e => decide (e.1 = k) := by simp [hk]
      rw [ha]
      have ih' := ih (enD_put (f := fun k : κ => k) (g := fun _ : α => V.non) (fun _ _ q => q) r k v)
      by_cases hb : (r.any fun e => decide (e.1 = k)) = true
      · rw [if_pos hb] at ih' ⊢
        by_cases h1 : e.1 = j
        · have h2 : ¬ j = k := fun q => hk (h1.trans q)
          simp [lk, List.find?_cons, hk, h1, h2]
        · simp only [List.map_cons, if_neg hk, lk, List.find?_cons, decide_eq_false h1] at ih' ⊢
          exact ih'
      · rw [if_neg hb] at ih' ⊢
        by_cases h1 : e.1 = j
        · have h2 : ¬ j = k := fun q => hk (h1.trans q)
          simp [lk, List.find?_cons, h1, h2]
        · simp only [List.cons_append, lk, List.find?_cons, decide_eq_false h1] at ih' ⊢
          exact ih'
end
/-! ### readings of dicts -/
section
variable {K : PySem.W.Frag} {σ : L2.St} {H H' : Hp} {Q : VK} {D : Ends} {td ty te tv tx : TE} {tt : TT} {tb t : TS} {g : TG} {a b d q : Addr} {o : Obj} {kvs : List (List Key × V)} {k : List Key} {v x y z : V} {vs : List Nat} {R : It → Hp → Prop} {as : TA}
/-- may be read as a dict with tuple keys -/
abbrev RdT (H : Hp) (a : Addr) (kvs : List (List Key × V)) : Prop := Rd H a (.dT kvs)
def rDG (x y : V) (H : Hp) (Q : VK) : Prop := ∃ a v, x = .ref a ∧ DGet H a y (some v) ∧ Q v H
theorem g_dget (h : td σ H fun x H1 => ty σ H1 fun y H2 => rDG x y H2 Q) : tDGet td ty σ H Q := h
theorem g_rdg (h : Rd H a (.dT kvs)) (e : H b = some (.tup (k.map kV))) (l : valV kvs k = some v) (c : Q v H) : rDG (.ref a) (.ref b) H Q := ⟨a, v, rfl, .inr ⟨kvs, k, b, h, rfl, e, l.symm⟩, c⟩
def rDI (y x : V) (H : Hp) (Q : VK) : Prop := ∃ a o, x = .ref a ∧ DGet H a y o ∧ Q (.bl o.isSome) H
def rDNI (y x : V) (H : Hp) (Q : VK) : Prop := ∃ a o, x = .ref a ∧ DGet H a y o ∧ Q (.bl (!o.isSome)) H
theorem g_din (h : ty σ H fun y H1 => td σ H1 fun x H2 => rDI y x H2 Q) : tDIn ty td σ H Q := h
theorem g_dnin (h : ty σ H fun y H1 => td σ H1 fun x H2 => rDNI y x H2 Q) : tDNotIn ty td σ H Q := h
theorem g_rdi (h : Rd H a (.dT kvs)) (e : H b = some (.tup (k.map kV))) (c : Q (.bl (valV kvs k).isSome) H) : rDI (.ref b) (.ref a) H Q := ⟨a, _, rfl, .inr ⟨kvs, k, b, h, rfl, e, rfl⟩, c⟩
theorem g_rdni (h : Rd H a (.dT kvs)) (e : H b = some (.tup (k.map kV))) (c : Q (.bl (!(valV kvs k).isSome)) H) : rDNI (.ref b) (.ref a) H Q := ⟨a, _, rfl, .inr ⟨kvs, k, b, h, rfl, e, rfl⟩, c⟩
def rDP (x y v : V) (H : Hp) (P : Hp → Prop) : Prop := ∃ a H4, x = .ref a ∧ DPut H a y v H4 ∧ P H4
theorem g_dput (h : tv σ H fun v H1 => td σ H1 fun x H2 => ty σ H2 fun y H3 => rDP x y v H3 fun H4 => D.nx σ H4) : sDPut td ty tv D σ H := h
theorem g_rdp {P : Hp → Prop} (h : H a = some (.dT kvs)) (e : H b = some (.tup (k.map kV))) (hl : kvs.length < sizeLine) (c : ∀ H', Fr [a] H H' → H' a = some (.dT (putK kvs k v)) → P H') : rDP (.ref a) (.ref b) v H P :=
  ⟨a, _, rfl, .inr ⟨kvs, k, b, h, rfl, e, hl, rfl⟩, c _ (Fr.put h trivial) upd_same⟩
def rDG2 (x : V) (H : Hp) (P : Addr → Prop) : Prop := ∃ a, x = .ref a ∧ IsD H a ∧ P a
def rDO (a : Addr) (y z : V) (H : Hp) (Q : VK) : Prop := ∃ o, DGet H a y o ∧ Q (o.getD z) H
theorem g_dget2 (h : td σ H fun x H1 => rDG2 x H1 fun a => ty σ H1 fun y H2 => tx σ H2 fun z H3 => rDO a y z H3 Q) : tDGet2 td ty tx σ H Q := h
theorem g_dget1 (h : td σ H fun x H1 => rDG2 x H1 fun a => ty σ H1 fun y H2 => rDO a y .non H2 Q) : tDGet1 td ty σ H Q := h
theorem g_rdg2 {P : Addr → Prop} (h : Rd H a (.dT kvs)) (c : P a) : rDG2 (.ref a) H P := ⟨a, rfl, .inr ⟨kvs, h⟩, c⟩
theorem g_dgo (h : Rd H a (.dT kvs)) (e : H b = some (.tup (k.map kV))) (c : Q (((valV kvs k)).getD z) H) : rDO a (.ref b) z H Q := ⟨_, .inr ⟨kvs, k, b, h, rfl, e, rfl⟩, c⟩
theorem g_dnew (c : ∀ p H', H p = none → Fr [] H H' → H' p = some (.dT []) → Q (.ref p) H') : tDNewT σ H Q := fun p hp => c p _ hp (Fr.new hp) upd_same
theorem g_dnewK (c : ∀ p H', H p = none → Fr [] H H' → H' p = some (.dK []) → Q (.ref p) H') : tDNewK σ H Q := fun p hp => c p _ hp (Fr.new hp) upd_same
/-! a walk over a dict, which is locked meanwhile -/
def rUl (d : Addr) (od : Obj) (u : HO) (H : Hp) (P : Hp → Prop) : Prop := H d = some (.frz od u) ∧ P (upd H d u)
theorem g_unl {u : HO} {P : Hp → Prop} (h : H d = some (.frz o u)) (c : ∀ H', Fr [d] H H' → H' d = some u → P H') : rUl d o u H P := ⟨h, c _ (Fr.put h trivial) upd_same⟩
theorem g_lock {u : HO} (h : H d = some u) (m : Mut (some u)) (nt : notTup u) (c : ∀ od H0, Fr [d] H H0 → H0 d = some (.frz od u) → t ⟨fun σ' H' => rUl d od u H' fun H2 => D.nx σ' H2, fun v H' => rUl d od u H' fun H2 => D.rt v H2,
    fun σ' H' => rUl d od u H' fun H2 => D.bk σ' H2, fun σ' H' => rUl d od u H' fun H2 => D.ct σ' H2⟩ σ H0) : tLock t D σ H := ⟨d, u, h, m, fun od => c od _ (Fr.put h nt) upd_same⟩
theorem g_lockE {u : HO} (h : H d = some u) (m : Mut (some u)) (nt : notTup u) (c : ∀ od H0, Fr [d] H H0 → H0 d = some (.frz od u) → te σ H0 fun v H' => rUl d od u H' fun H2 => Q v H2) : tLockE te σ H Q := ⟨d, u, h, m, fun od => c od _ (Fr.put h nt) upd_same⟩
def rKy (x : V) (H : Hp) (R : It → Hp → Prop) : Prop := ∃ d o, x = .ref d ∧ ((∃ kvs, H d = some (.frz o (.dK kvs)) ∧ R (Itk d o kvs) H) ∨ ∃ kvs, H d = some (.frz o (.dT kvs)) ∧ R (Itkt d o kvs) H)
theorem g_iK (h : td σ H fun x H1 => rKy x H1 R) : iKeys td σ H R := h
theorem g_rkt (h : H d = some (.frz o (.dT kvs))) (c : R (Itkt d o kvs) H) : rKy (.ref d) H R := ⟨d, o, rfl, .inr ⟨kvs, h, c⟩⟩
theorem f_keysT (Pv : Nat → L2.St → Hp → Prop) (h0 : Pv 0 σ H) (hl : ∀ i σ H, i ≤ kvs.length → Pv i σ H → H d = some (.frz o (.dT kvs)))
    (hs : ∀ i k v q σ H, kvs[i]? = some (k, v) → H q = some (.tup (k.map kV)) → Pv i σ H → g (.ref q) σ H fun σ2 H2 => tb { D with nx := Pv (i + 1), ct := Pv (i + 1), bk := D.nx } σ2 H2) (hd : ∀ σ H, Pv kvs.length σ H → D.nx σ H) : ForGo (Itkt d o kvs) g tb D σ H :=
  for_it walk_keysT Pv h0 hl (fun i x σ H H' hi p y => by obtain ⟨rfl, k, v, q, h1, rfl, h3⟩ := y; exact hs i k v q σ _ h1 h3 p) hd
theorem l_keysT (c : ∀ Dl H0, H Dl = none → Fr [] H H0 → H0 Dl = some (.lst []) → ∃ Pv : Nat → List V → Hp → Prop, Pv 0 [] H0 ∧ (∀ i acc H', Pv i acc H' → H' d = some (.frz o (.dT kvs))) ∧
    (∀ i k v q acc H', kvs[i]? = some (k, v) → H' q = some (.tup (k.map kV)) → H' Dl = some (.lst acc) → Pv i acc H' → lcStep g tt te vs σ Dl Pv i (.ref q) H') ∧ (∀ acc H', H' Dl = some (.lst acc) → Pv kvs.length acc H' → Q (.ref Dl) H')) : LcGo (Itkt d o kvs) g tt te vs σ Q H := by
  intro Dl hD
  obtain ⟨Pv, p0, pl, ps, pd⟩ := c Dl _ hD (Fr.new hD) upd_same
  exact lc_it walk_keysT (fun i H' => ∃ acc, H' Dl = some (.lst acc) ∧ Pv i acc H') ⟨[], upd_same, p0⟩ (fun i H' _ ⟨acc, _, p⟩ => pl i acc H' p) (fun i x H1 H' hi ⟨acc, hd, p⟩ y => by obtain ⟨rfl, k, v, q, h1, rfl, h3⟩ := y; exact ps i k v q acc _ h1 h3 hd p) (fun H' ⟨acc, hd, p⟩ => pd acc H' hd p)
/-! targets that are tuples -/
def rGt (K : PySem.W.Frag) (n : Nat) (t : TGs) (v : V) (σ : L2.St) (H : Hp) (P : L2.St → Hp → Prop) : Prop := ∃ a xs, v = .ref a ∧ SqT K H a xs ∧ xs.length = n ∧ t xs σ H P
theorem g_gtup {n : Nat} {t : TGs} {P : L2.St → Hp → Prop} {xs : List V} (h : SqT K H a xs) (hl : xs.length = n) (c : t xs σ H P) : gTup K n t (.ref a) σ H P := ⟨a, xs, rfl, h, hl, c⟩
theorem g_gcons {t : TG} {u : TGs} {P : L2.St → Hp → Prop} {r : List V} (c : t v σ H fun σ' H' => u r σ' H' P) : gCons t u (v :: r) σ H P := ⟨v, r, rfl, c⟩
theorem g_gnil {P : L2.St → Hp → Prop} (c : P σ H) : gNil [] σ H P := ⟨rfl, c⟩
/-! enumerate, zip: a new pair a turn -/
def rEn (K : PySem.W.Frag) (vs : List V) (H : Hp) (R : It → Hp → Prop) : Prop := ∃ a xs, vs = [.ref a] ∧ SqL K H a xs ∧ R (Ite K a) H
theorem g_iE (h : as σ H fun vs H1 => rEn K vs H1 R) : iEnum K as σ H R := h
theorem g_ren {xs : List V} (h : SqL K H a xs) (c : R (Ite K a) H) : rEn K [.ref a] H R := ⟨a, xs, rfl, h, c⟩
theorem f_enum {xs : List V} (Pv : Nat → L2.St → Hp → Prop) (h0 : Pv 0 σ H) (hl : ∀ i σ H, i ≤ xs.length → Pv i σ H → SqL K H a xs)
    (hs : ∀ i x T σ H H', xs[i]? = some x → Pv i σ H → H T = none → Fr [] H H' → H' T = some (.tup [.int (i : Nat), x]) → g (.ref T) σ H' fun σ2 H2 => tb { D with nx := Pv (i + 1), ct := Pv (i + 1), bk := D.nx } σ2 H2) (hd : ∀ σ H, Pv xs.length σ H → D.nx σ H) : ForGo (Ite K a) g tb D σ H :=
  for_it walk_enum Pv h0 hl (fun i x σ H H' hi p y => by
    obtain ⟨T, u, w, rfl, h2, rfl, h4, h5⟩ := y
    cases h4
    exact hs i w T σ H _ h5 p h2 (Fr.new h2) upd_same) hd
def rZp (K : PySem.W.Frag) (vs : List V) (H : Hp) (R : It → Hp → Prop) : Prop := ∃ a b xs ys, vs = [.ref a, .ref b] ∧ SqL K H a xs ∧ SqL K H b ys ∧ R (Itz K a b) H
theorem g_iZ (h : as σ H fun vs H1 => rZp K vs H1 R) : iZip K as σ H R := h
theorem g_rzp {xs ys : List V} (h : SqL K H a xs) (h2 : SqL K H b ys) (c : R (Itz K a b) H) : rZp K [.ref a, .ref b] H R := ⟨a, b, xs, ys, rfl, h, h2, c⟩
theorem f_zip {xs ys : List V} {n : Nat} (hn : n = min xs.length ys.length) (Pv : Nat → L2.St → Hp → Prop) (h0 : Pv 0 σ H) (hl : ∀ i σ H, i ≤ n → Pv i σ H → SqL K H a xs ∧ SqL K H b ys)
    (hs : ∀ i x y T σ H H', xs[i]? = some x → ys[i]? = some y → Pv i σ H → H T = none → Fr [] H H' → H' T = some (.tup [x, y]) → g (.ref T) σ H' fun σ2 H2 => tb { D with nx := Pv (i + 1), ct := Pv (i + 1), bk := D.nx } σ2 H2) (hd : ∀ σ H, Pv n σ H → D.nx σ H) : ForGo (Itz K a b) g tb D σ H :=
  for_it (walk_zip hn) Pv h0 hl (fun i x σ H H' hi p y => by
    obtain ⟨T, u, w, rfl, h2, rfl, h4, h5⟩ := y
    exact hs i u w T σ H _ h4 h5 p h2 (Fr.new h2) upd_same) hd
/-- sum, min of a list of ints -/
theorem g_sum {ns : List Int} (h : SqL K H a (ns.map V.int)) (c : Q (.int ns.sum) H) : rSum K [.ref a] H Q := ⟨a, ns, rfl, h, c⟩
theorem g_all {bs : List Bool} (h : SqL K H a (bs.map V.bl)) (c : Q (.bl (bs.all id)) H) : rAll K [.ref a] H Q := ⟨a, bs, rfl, h, c⟩
theorem g_any {bs : List Bool} (h : SqL K H a (bs.map V.bl)) (c : Q (.bl (bs.any id)) H) : rAny K [.ref a] H Q := ⟨a, bs, rfl, h, c⟩
theorem g_catT {xs ys : List V} (h : SqT K H a xs) (h2 : SqT K H b ys) (hne : xs ≠ []) (hl : xs.length + ys.length ≤ sizeLine) (c1 : ys = [] → Q (.ref a) H) (c2 : ys ≠ [] → ∀ p H', H p = none → Fr [] H H' → H' p = some (.tup (xs ++ ys)) → Q (.ref p) H') : rCatT K (.ref a) (.ref b) H Q :=
  ⟨a, b, xs, ys, rfl, rfl, h, h2, hne, hl, c1, fun e p hp => c2 e p _ hp (Fr.new hp) upd_same⟩
theorem g_cat {xs ys : List V} (h : H a = some (.lst xs)) (h2 : H b = some (.lst ys)) (hl : xs.length + ys.length ≤ sizeLine) (c : ∀ p H', H p = none → Fr [] H H' → H' p = some (.lst (xs ++ ys)) → Q (.ref p) H') : rCat (.ref a) (.ref b) H Q :=
  ⟨a, b, xs, ys, rfl, rfl, h, h2, hl, fun p hp => c p _ hp (Fr.new hp) upd_same⟩
end
/-! ### sorted of data -/
section
open PySem.W in
/-- sorted(xs), xs a list that reads as data of one shape: a new list of the same values in their order -/
def rSortD (K : PySem.W.Frag) : List V → Hp → VK → Prop := fun vs H Q => ∃ (a : Addr) (bs : List (V × PyData)), vs = [V.ref a] ∧ SqL K H a (bs.map (·.1)) ∧ (∀ b ∈ bs, Da H b.1 b.2) ∧ AllAlike (bs.map (·.2)) ∧ Sortable (bs.map (·.2)) ∧ (∀ b ∈ bs, b.2.depth ≤ 60) ∧
  ∀ p, H p = none → Q (.ref p) (upd H p (.lst ((bs.mergeSort (dataLe false (·.2))).map (·.1))))
variable {X : Cx}
open PySem.W in
theorem eachV {s : Shared} {H : Hp} {pins : List (Addr × Obj)} {σ : L2.St} (I : Inv X pins σ H s) : ∀ (bs : List (V × PyData)) (us : List Value), Vals (bs.map (·.1)) us → (∀ b ∈ bs, Da H b.1 b.2) → EachIs (fun u (b : V × PyData) => RelV b.1 u) us bs ∧ EachIs (fun u (b : V × PyData) => ∃ as, PySem.Reads s.heap u b.2 as) us bs
  | [], us, r, _ => by cases r; exact ⟨.nil, .nil⟩
  | b :: bs, us, r, h => by
    cases r with
    | cons r1 r2 =>
      obtain ⟨e1, e2⟩ := eachV I bs _ r2 fun c hc => h c (List.mem_cons_of_mem _ hc)
      exact ⟨.cons r1 e1, .cons (Dp.reads I _ _ _ (Da.dp (K := X.K) _ _ (h b List.mem_cons_self)) r1) e2⟩
open PySem.W in
theorem eachB : ∀ {us : List Value} {bs : List (V × PyData)}, EachIs (fun u (b : V × PyData) => RelV b.1 u) us bs → Vals (bs.map (·.1)) us
  | _, _, .nil => .nil
  | _, _, .cons r t => .cons r (eachB t)
open PySem.W in
theorem b_sortD (hu : X.A.units + 64 < cLine) : CallR X (.builtin "sorted") (rSortD X.K) := by
  intro pins s σ H vs us Q I r h
  obtain ⟨a, bs, rfl, hs, hd, ha, hk, hdp, q⟩ := h
  obtain ⟨its, rv, hl, hz⟩ := I.list hs
  obtain ⟨u, rfl, ru⟩ := vals1 r
  obtain rfl : u = Value.ref a := ru
  obtain ⟨e1, e2⟩ := eachV I bs its rv hd
  rw [List.length_map] at hz
  refine sorted_data (enc := fun b : V × PyData => b.2) hl.isList e1 e2 ha hk hz (fun b hb => ?_) fun out ho eo => ?_
  · have := hdp b hb
    show X.A.units + 2 + b.2.depth < cLine
    omega
  · obtain ⟨ep, he'⟩ := PyProof.Rows.sortedAll_at s.heap its out.toArray
    have vo := eachB eo
    have hlen : ((bs.mergeSort (dataLe false fun b : V × PyData => b.2)).map (·.1)).length ≤ sizeLine := by rw [List.length_map, List.length_mergeSort]; exact hz
    exact ⟨.ref _, upd H (s.heap.objs.size + 1) (.lst _), I.laid (t' := s.toks) (fun _ _ => PyProof.Rows.sortedAll_old) (Nat.le_succ _) ⟨hlen, out, ep, vo, he'⟩, rfl, q _ (I.hok.fresh (Nat.le_succ _))⟩
open PySem.W in
theorem g_sortD {K : PySem.W.Frag} {H : Hp} {Q : VK} {a : Addr} {bs : List (V × PyData)} (hs : SqL K H a (bs.map (·.1))) (hd : ∀ b ∈ bs, Da H b.1 b.2) (ha : AllAlike (bs.map (·.2))) (hk : Sortable (bs.map (·.2))) (hdp : ∀ b ∈ bs, b.2.depth ≤ 60)
    (c : ∀ p H', H p = none → Fr [] H H' → H' p = some (.lst ((bs.mergeSort (dataLe false (·.2))).map (·.1))) → Q (.ref p) H') : rSortD K [.ref a] H Q := ⟨a, bs, rfl, hs, hd, ha, hk, hdp, fun p hp => c p _ hp (Fr.new hp) upd_same⟩
/-- the sorted data -/
def srt (ds : List PyData) : List PyData := ds.mergeSort (PySem.W.dataLe false id)
end
/-! ### d.clear() of a dict with tuple keys -/
section
variable {X : Cx}
def rDClearT : V → List V → Hp → VK → Prop := fun x vs H Q => ∃ (a : Addr) (kvs : List (List Key × V)), x = .ref a ∧ vs = [] ∧ H a = some (.dT kvs) ∧ Q .non (upd H a (.dT []))
theorem mtd_clearT : MtR X "dict.clear" rDClearT := by
  intro pins s σ H x vs v us Q I rx rv h
  obtain ⟨a, kvs, rfl, rfl, e, q⟩ := h
  obtain rfl : v = Value.ref a := rx
  cases rv
  obtain ⟨z, hd, xs, rel, o, es, ep, ho, hx, hdat, hes, _⟩ := dt_of I.hok e
  have raw : s.heap.DictRaw a es ep := ⟨o, ho, hx, hdat⟩
  have hsz : es.size ≤ sizeLine := by
    have e1 := congrArg List.length hes
    rw [Array.length_toList, List.length_map] at e1
    rw [e1, ← Paired.length rel]
    exact z
  refine call_meetsIn PySem.F.slot_dict_clear raw.typeIs PySem.F.entry_dict_clear (PySem.F.args_dict_clear_1 _) (meets_dict_clear_raw a) ⟨es, ep, raw, hsz, fun h' raw' hs => ?_⟩
  obtain ⟨o', ho', hx', hdat'⟩ := raw'
  exact ⟨.non, _, d_write (t' := s.toks) (ob := .dT []) I (by rw [e]; exact True.intro) hs ⟨o', ho'⟩ ⟨Nat.zero_le _, hd, [], .nil, o', #[], ep + 1, ho', hx', hdat', rfl, List.nodup_nil⟩, rfl, q⟩
theorem pe_dclearT {o : Expr} {to : TE} {apos cpos : Pos} (ho : PE X o to) (hbase : attributeBase o "clear" X.env (eval o X.env) = eval o X.env := by rfl) (hline : (apos.endLine == cpos.line) = true := by rfl) : PE X (.Call (.Attribute o "clear" apos) [] [] cpos) (tBM0 X.K "dict" rDClearT to) :=
  pe_bm0 PySem.F.plainAttrs_dict PySem.F.slot_dict_clear PySem.F.type_dict_clear mtd_clearT ho hbase hline
theorem g_bmT {K : PySem.W.Frag} {H : Hp} {a : Addr} {kvs : List (List Key × V)} {P : Prop} (h : H a = some (.dT kvs)) (q : P) : rBM K "dict" (.ref a) H P := ⟨.inr (.inr (.inl ⟨rfl, .inr ⟨kvs, h⟩⟩)), q⟩
theorem g_clearT {H : Hp} {a : Addr} {kvs : List (List Key × V)} {Q : VK} (h : H a = some (.dT kvs)) (q : ∀ H', Fr [a] H H' → H' a = some (.dT []) → Q .non H') : rDClearT (.ref a) [] H Q := ⟨a, kvs, rfl, rfl, h, q _ (Fr.put h trivial) upd_same⟩
end
/-! ### list(range(a, b)) -/
section
variable {σ : L2.St} {H : Hp} {Q : VK} {ta tb : TE} {a b : Int}
def rLRg (x y : V) (H : Hp) (Q : VK) : Prop := ∃ i j, x = .int i ∧ y = .int j ∧ RgOk i j ∧ ∀ q, H q = none → Q (.ref q) (upd H q (.lst (rgV i j)))
theorem g_lstRg (h : ta σ H fun x H1 => tb σ H1 fun y H2 => rLRg x y H2 Q) : tLstRg (tRg2 ta tb) σ H Q := h
theorem g_rlrg (ok : RgOk a b) (c : ∀ p H', H p = none → Fr [] H H' → H' p = some (.lst (rgV a b)) → Q (.ref p) H') : rLRg (.int a) (.int b) H Q := ⟨a, b, rfl, rfl, ok, fun p hp => c p _ hp (Fr.new hp) upd_same⟩
end
/-! ### what sorted gives, as data -/
section
open PySem.W
theorem dle_total {β : Type} (k : β → PyData) : TotalLe (dataLe false k) := sortLe_total _ false _
theorem srt_perm (ds : List PyData) : (srt ds).Perm ds := List.mergeSort_perm ds _
theorem srt_srt (ds : List PyData) : srt (srt ds) = srt ds := List.mergeSort_of_pairwise (sort_pairwise (dle_total id) ds)
theorem srt_map {β : Type} (f : β → PyData) (l : List β) : (l.mergeSort (dataLe false f)).map f = srt (l.map f) := sort_maps f fun _ _ _ _ => rfl
theorem DaL.zip {H : Hp} : ∀ {xs : List V} {ds : List PyData}, DaL H xs ds → (xs.zip ds).map (·.1) = xs ∧ (xs.zip ds).map (·.2) = ds ∧ ∀ b ∈ xs.zip ds, Da H b.1 b.2
  | _, _, .nil => ⟨rfl, rfl, fun _ h => nomatch h⟩
  | _, _, .cons a t => by
    obtain ⟨h1, h2, h3⟩ := DaL.zip t
    refine ⟨by simp [h1], by simp [h2], fun b hb => ?_⟩
    rcases List.mem_cons.mp hb with e | e
    · rw [e]; exact a
    · exact h3 b e
theorem DaL.ofBs {H : Hp} : ∀ {bs : List (V × PyData)}, (∀ b ∈ bs, Da H b.1 b.2) → DaL H (bs.map (·.1)) (bs.map (·.2))
  | [], _ => .nil
  | b :: bs, h => .cons (h b List.mem_cons_self) (DaL.ofBs fun c hc => h c (List.mem_cons_of_mem _ hc))
theorem g_srt {K : PySem.W.Frag} {H : Hp} {Q : VK} {a : Addr} {xs : List V} {ds : List PyData} (hs : SqL K H a xs) (hd : DaL H xs ds) (ha : AllAlike ds) (hk : Sortable ds) (hdp : ∀ d ∈ ds, d.depth ≤ 60)
    (c : ∀ p H' ys, H p = none → Fr [] H H' → H' p = some (.lst ys) → DaL H ys (srt ds) → Q (.ref p) H') : rSortD K [.ref a] H Q := by
  obtain ⟨z1, z2, z3⟩ := hd.zip
  refine g_sortD (bs := xs.zip ds) (by rw [z1]; exact hs) z3 (by rw [z2]; exact ha) (by rw [z2]; exact hk) (fun b hb => hdp b.2 (by rw [← z2]; exact List.mem_map.mpr ⟨b, hb, rfl⟩)) fun p H' hp f e => ?_
  refine c p H' _ hp f e ?_
  have q := DaL.ofBs (H := H) (bs := (xs.zip ds).mergeSort (dataLe false (·.2))) fun b hb => z3 b ((List.mergeSort_perm _ _).mem_iff.mp hb)
  rw [srt_map (fun b : V × PyData => b.2), z2] at q
  exact q
theorem alike_len : ∀ (n : Nat) (xs ys : List Int), alikeAll (xs.map .int) (ys.map .int) = true := fun _ => alike_ints
end
/-! ### chains, min, in, options -/
abbrev tChainT (r r' : R2) (ta tb tc : TE) : TT := tTest (tChain r r' ta tb tc)
section
variable {K : PySem.W.Frag} {σ : L2.St} {H : Hp} {Q : VK} {ta tb tc : TE} {r r' : R2} {y : V} {k : Bool} {p : Addr} {ns : List Int} {m : Int}
def rCh (r' : R2) (tc : TE) (y : V) (σ : L2.St) (Q : VK) (z : V) (H3 : Hp) : Prop := ∃ k, z = .bl k ∧ (if k = true then tc σ H3 fun w' H4 => r' y w' H4 Q else Q (.bl false) H3)
theorem g_chain (h : ta σ H fun x H1 => tb σ H1 fun y H2 => r x y H2 fun z H3 => rCh r' tc y σ Q z H3) : tChain r r' ta tb tc σ H Q := h
theorem g_rch (h : if k = true then tc σ H fun w' H4 => r' y w' H4 Q else Q (.bl false) H) : rCh r' tc y σ Q (.bl k) H := ⟨k, rfl, h⟩
theorem g_min (h : SqL K H p (ns.map V.int)) (hl : 0 < ns.length) (q : ∀ m, m ∈ ns → (∀ y, y ∈ ns → m ≤ y) → Q (.int m) H) : rMin K [.ref p] H Q := ⟨p, ns, rfl, h, hl, q⟩
theorem inI : inV (.int m) (ns.map V.int) = decide (m ∈ ns) := by
  unfold inV
  induction ns with
  | nil => rfl
  | cons a t ih =>
    rw [List.map_cons, List.any_cons, ih]
    show ((a == m) || decide (m ∈ t)) = _
    by_cases h : a = m
    · simp [h]
    · have h2 : ¬ m = a := fun z => h z.symm
      simp [h, h2]
theorem flatI : (ns.map V.int).all flatV = true := List.all_eq_true.mpr fun x hx => by obtain ⟨n, _, rfl⟩ := List.mem_map.mp hx; rfl
theorem g_ninI (h : SqL K H p (ns.map V.int)) (q : Q (.bl (!decide (m ∈ ns))) H) : rIn K true (.int m) (.ref p) H Q := ⟨p, _, rfl, .inl h, rfl, flatI, by rw [inI]; exact q⟩
theorem g_neB {a b : Bool} (h : Q (.bl (!decide (a = b))) H) : rNe (.bl a) (.bl b) H Q := ⟨rfl, by rw [show decide (V.bl a = V.bl b) = decide (a = b) from by simp]; exact h⟩
end
/-- a number, or none -/
def optV : Option Int → V
  | none => .non
  | some r => .int r
def optD : Option Int → PyData
  | none => .none
  | some r => .int r
section
variable {H : Hp} {Q : VK} {o : Option Int} {r : Int}
theorem g_isO (h : Q (.bl (decide (o = none))) H) : rIsNon (optV o) .non H Q := g_isN (by cases o <;> simpa [optV] using h)
theorem g_notO (h : Q (.bl (!decide (o = none))) H) : rIsNotNon (optV o) .non H Q := g_notN (by cases o <;> simpa [optV] using h)
theorem g_eqO (h : Q (.bl (decide (o = some r))) H) : rEq (optV o) (.int r) H Q := by
  cases o with
  | none => exact ⟨rfl, by simpa [optV] using h⟩
  | some q => exact g_eqI (by simpa using h)
theorem DaL.opts : ∀ {R : List (Option Int)}, DaL H (R.map optV) (R.map optD)
  | [] => .nil
  | none :: R => .cons .non DaL.opts
  | some r :: R => .cons (.int r) DaL.opts
theorem imm_opts {R : List (Option Int)} : immL (R.map optD) = true := immL_of fun d hd => by obtain ⟨o, _, rfl⟩ := List.mem_map.mp hd; cases o <;> rfl
theorem dp_opts {R : List (Option Int)} : dpL (R.map optD) ≤ 1 := dpL_le fun d hd => by obtain ⟨o, _, rfl⟩ := List.mem_map.mp hd; cases o <;> exact Nat.zero_le _
end
end Lw

namespace Lw
open PySem L2 PySem.W PySem.Calls PyProof.Rows PySem.Spec
/-! ### more of dicts with tuple keys: len, dict(d), sorted(d), d.pop(k) -/
section
variable {X : Cx}
theorem raw_of {P : Program} {w : World} {h : Heap} {a : Addr} {xs : List (List Key × Addr × Value)} (m : h.DictOfH (tupleKind (mixKind P w)) a xs) : ∃ es ep, h.DictRaw a es ep ∧ es.size = xs.length ∧ ∀ (i : Nat) (hi : i < es.size), ∃ x, xs[i]? = some x ∧ es[i].key = .ref x.2.1 := by
  obtain ⟨o, es, ep, h1, h2, h3, h4, h5, h6⟩ := m
  have hs : es.size = xs.length := by
    have e := congrArg List.length h4
    rw [Array.length_toList, List.length_map] at e
    exact e
  refine ⟨es, ep, ⟨o, h1, h2, h3⟩, hs, fun i hi => ?_⟩
  have e : es.toList[i]? = (xs.map _)[i]? := congrArg (fun l => l[i]?) h4
  rw [List.getElem?_map, List.getElem?_eq_getElem (by rw [Array.length_toList]; exact hi)] at e
  have hx : xs[i]? = some (xs[i]'(by omega)) := List.getElem?_eq_getElem (by omega)
  rw [hx] at e
  refine ⟨_, hx, ?_⟩
  have e2 := Option.some.inj e
  rw [Array.getElem_toList] at e2
  rw [e2]; rfl
/-- len(d) -/
theorem g_lenDT {H : Hp} {Q : VK} {a : Addr} {kvs : List (List Key × V)} (h : H a = some (.dT kvs)) (q : Q (.int kvs.length) H) : rLenT [.ref a] H Q := ⟨a, kvs, rfl, h, q⟩
/-- d.pop(k), k there -/
def rPopT1 : V → List V → Hp → VK → Prop := fun x xs H Q => ∃ (a b : Addr) (kvs : List (List Key × V)) (k : List Key) (v : V), x = .ref a ∧ xs = [.ref b] ∧ H a = some (.dT kvs) ∧ H b = some (.tup (k.map kV)) ∧ valV kvs k = some v ∧ Q v (upd H a (.dT (dropK kvs k)))
theorem mt_popT1 (hu : X.A.units + 1 < cLine) : MtR X "dict.pop" rPopT1 := by
  intro pins s σ H x xs v us Q I rx rxs h
  obtain ⟨a, b, kvs, k, v0, rfl, rfl, ha, hb, hv, q⟩ := h
  cases rx
  obtain ⟨u1, rfl, r1⟩ := vals1 rxs
  cases r1
  obtain ⟨z, hd, xs', rel, dd⟩ := dt_of I.hok ha
  have hz : xs'.length ≤ sizeLine := by rw [← Paired.length rel]; exact z
  have r := rel.val k
  rw [hv] at r
  obtain ⟨p, hp⟩ : ∃ p, atKey xs' k = some p := by
    cases e : atKey xs' k with
    | none => rw [e] at r; exact (show False from r).elim
    | some p => exact ⟨p, rfl⟩
  rw [hp] at r
  have rv : RelV v0 p.2 := r
  refine call_pop_heap (hsz := hz) (.inl rfl) (PySem.F.args_dict_pop_2 _ _) (tupleKind_room_in1 hu) (key_of I.hok hb) hd dd hp fun h' dd' hs => ?_
  obtain ⟨o, es, ep, hq, h2, h3, h4, _, h5⟩ := dd'
  have I2 : Inv X pins σ (upd H a (.dT (dropK kvs k))) { s with heap := h', toks := s.toks + (tupleKind (mixKind X.prog X.w)).draws k } :=
    d_write I (by rw [ha]; exact True.intro) hs ⟨o, hq⟩ ⟨Nat.le_trans (dropK_le kvs k) z, hd, _, (L2.DX.KT_drop k rel).keeps (fun c ys ec => (by rw [upd_ne (ne_of ec ha (fun z => nomatch z))]; exact ec)), o, es, ep, hq, h2, h3, h4, h5⟩
  show EP X pins σ Q p.2 _
  exact ⟨v0, _, I2, rv, q⟩
/-- dict(d): a copy; the keys' hashes differ -/
def rDictT (P : Program) (w : World) : List V → Hp → VK → Prop := fun vs H Q => ∃ (a : Addr) (kvs : List (List Key × V)), vs = [.ref a] ∧ H a = some (.dT kvs) ∧ (kvs.map fun e => (tupleKind (mixKind P w)).hash e.1).Nodup ∧ ∀ p, H p = none → Q (.ref p) (upd H p (.dT kvs))
theorem b_dictT (hu : X.A.units + 8 < cLine) : CallR X (.type "dict") (rDictT X.prog X.w) := by
  intro pins s σ H vs us Q I r h
  obtain ⟨a, kvs, rfl, ha, hh, q⟩ := h
  obtain ⟨u, rfl, ru⟩ := vals1 r
  obtain rfl : u = Value.ref a := ru
  obtain ⟨z, hoS, xs, rel, ho⟩ := dt_of I.hok ha
  have hz : xs.length ≤ sizeLine := by rw [← Paired.length rel]; exact z
  have hm : (s.heap.objs.size == sysModules) = false := beq_eq_false_iff_ne.mpr (Nat.ne_of_gt I.big)
  refine callType_codes (Q₁ := fun obj s₁ => obj = .ref s.heap.objs.size ∧ s₁ = { s with heap := s.heap.push { cls := .type "dict", data := .dict #[] } }) F.kt_called_dict (F.kt_typeCall_dict_1 _) F.entry_dict_init (kt_code_dict_new _ ⟨rfl, rfl⟩) ?_
  rintro obj s₁ ⟨rfl, rfl⟩
  have hnew : (s.heap.push { cls := .type "dict", data := .dict #[] }).DictOfH (tupleKind (mixKind X.prog X.w)) s.heap.objs.size [] := Heap.DictOfH.new s.heap
  have ho' : (s.heap.push { cls := .type "dict", data := .dict #[] }).DictOfH (tupleKind (mixKind X.prog X.w)) a xs := by
    obtain ⟨o, es, ep, h1, h2, h3, h4, h5, h6⟩ := id ho
    exact ⟨o, es, ep, Heap.get?_push_of_some _ h1, h2, h3, h4, fun x hx => by obtain ⟨o2, its, n, g1, g2, g3, g4⟩ := h5 x hx; exact ⟨o2, its, n, Heap.get?_push_of_some _ g1, g2, g3, g4⟩, h6⟩
  have hdo : s.heap.objs.size ≠ a := by
    obtain ⟨_, _, _, hg, _⟩ := ho
    exact fun e => absurd (Heap.lt_size hg) (by rw [e]; exact Nat.lt_irrefl _)
  refine ⟨hnew.typeIs, F.args_dict_init_2 _ _, ?_⟩
  unfold Builtin.«dict.__init__»
  refine wpAny_bind ?_
  unfold Builtin.Dict.selfAndRest
  refine wpAny_bind (wpAny_notOrdered_dict hnew.typeIs ?_)
  show wpAny _ _ (pure (s.heap.objs.size, [Value.ref a])) _ _ _
  refine wpAny_pure ?_
  show wpAny _ _ (Builtin.Dict.updateFrom "dict.__init__" s.heap.objs.size (.ref a) [] .none) _ _ _
  unfold Builtin.Dict.updateFrom
  refine wpAny_bind (wpAny_typeOf ho'.typeIs ?_)
  rw [if_neg (by decide)]
  refine wpAny_bind ?_
  unfold Builtin.Dict.merge
  refine wpAny_bind ?_
  unfold Builtin.Dict.readDirectly
  refine wpAny_bind (wpAny_isInstance ho'.typeIs isSubtype_dict_dict ?_)
  simp only [Bool.not_true, Bool.false_eq_true, if_false]
  refine wpAny_bind (wpAny_specialOf ho'.typeIs F.slot_dict_iter.lookup (wpAny_pure ?_))
  simp only [beq_self_eq_true, if_true]
  refine wpAny_bind (wpAny_pure ?_)
  have hty : ∀ x ∈ xs, Shared.TypeIs { s with heap := s.heap.push { cls := .type "dict", data := .dict #[] } } (.ref x.2.1) "tuple" := fun x hx => by
    obtain ⟨o, es, ep, h1, h2, h3, h4, h5, h6⟩ := id ho'
    obtain ⟨o2, its, n, g1, g2, g3, g4⟩ := h5 x hx
    exact ⟨o2, g1, g2⟩
  have hap : (xs.map fun x => (tupleKind (mixKind X.prog X.w)).hash x.1).Nodup := by
    have e : (xs.map fun x => (tupleKind (mixKind X.prog X.w)).hash x.1) = kvs.map fun e => (tupleKind (mixKind X.prog X.w)).hash e.1 := by
      clear hty ho' ho hnew hz z hh ha q
      induction rel with
      | nil => rfl
      | cons h _ ih => rw [List.map_cons, List.map_cons, ih, h.1]
    rw [e]; exact hh
  have hn : (xs.map (·.1)).Nodup := ho.nodup
  refine wpAny_mergeDict_heap (hsz := by simpa using hz) ?room hdo hoS hnew ho' (.inr ⟨hty, hap⟩) fun h' hd' _ hs' => ?_
  case room => exact (show X.A.units + 1 + 1 < cLine by omega)
  show wpAny _ _ (Builtin.Dict.addKeywords s.heap.objs.size [] >>= _) _ _ _
  rw [storedAllH_nil_of_nodup xs hn] at hd'
  refine wpAny_bind (wpAny_pure (wpAny_pure ⟨rfl, ?_⟩))
  obtain ⟨o, es, ep, h1, h2, h3, h4, h5, h6⟩ := hd'
  exact ⟨.ref s.heap.objs.size, upd H s.heap.objs.size (.dT kvs), I.laid (t' := s.toks) (fun b u e => (hs'.2 b (Nat.ne_of_lt (Heap.lt_size e))).trans (Heap.get?_push_of_some _ e)) (Nat.le_refl _)
    ⟨z, hm, xs, rel.keeps (fun c ys ec => by rw [upd_ne (ne_of_none ec (I.hok.fresh (Nat.le_refl _)))]; exact ec), o, es, ep, h1, h2, h3, h4, h6⟩, rfl, q _ (I.hok.fresh (Nat.le_refl _))⟩
/-- sorted(d): the keys, all tuples of ints, in their order -/
def intsD (c : List Int) : PyData := .tuple (c.map .int)
def rSortedDT : List V → Hp → VK → Prop := fun vs H Q => ∃ (a : Addr) (kvs : List (List Key × V)) (cs : List (List Int)), vs = [.ref a] ∧ H a = some (.dT kvs) ∧ kvs.map (·.1) = cs.map (fun c => c.map Sum.inl) ∧ AllAlike (cs.map intsD) ∧ Sortable (cs.map intsD) ∧ (∀ c ∈ cs, (intsD c).depth ≤ 60 ∧ c.length ≤ 1000000) ∧
  ∀ p ys, H p = none → DaL H ys (srt (cs.map intsD)) → Q (.ref p) (upd H p (.lst ys))
theorem reads_ints {h : Heap} : ∀ {ns : List Int} {us : List Value}, Vals (ns.map V.int) us → PySem.ReadsAll h us (ns.map .int) []
  | [], _, .nil => .nil
  | n :: ns, u :: us, h => by
    cases h with
    | cons r t =>
      obtain ⟨tk, rfl⟩ := r
      exact .cons (as := []) (bs := []) (.int n tk) (reads_ints t)
theorem each_idx {α β : Type} {R : α → β → Prop} : ∀ {us : List α} {bs : List β}, us.length = bs.length → (∀ (i : Nat) u b, us[i]? = some u → bs[i]? = some b → R u b) → EachIs R us bs
  | [], [], _, _ => .nil
  | u :: us, b :: bs, hl, h => .cons (h 0 u b rfl rfl) (each_idx (by simpa using hl) fun i x y hx hy => h (i + 1) x y (by simpa using hx) (by simpa using hy))
  | [], _ :: _, hl, _ => by simp at hl
  | _ :: _, [], hl, _ => by simp at hl
theorem each_refs {γ : Type} : ∀ {us : List Value} {bs : List (Addr × γ)}, EachIs (fun u (b : Addr × γ) => u = .ref b.1) us bs → Vals (bs.map fun b => V.ref b.1) us
  | _, _, .nil => .nil
  | _, _, .cons r t => .cons r (each_refs t)
theorem da_refs {γ : Type} {H : Hp} {f : γ → PyData} : ∀ {bs : List (Addr × γ)}, (∀ b ∈ bs, Da H (.ref b.1) (f b.2)) → DaL H (bs.map fun b => V.ref b.1) (bs.map fun b => f b.2)
  | [], _ => .nil
  | b :: bs, h => .cons (h b List.mem_cons_self) (da_refs fun c hc => h c (List.mem_cons_of_mem _ hc))
theorem b_sortedDT (hcalm : X.calm = true) (hu : X.A.units + 64 < cLine) : CallR X (.builtin "sorted") rSortedDT := by
  intro pins s σ H vs us Q I r h
  obtain ⟨a, kvs, cs, rfl, ha, hks, hal, hsrt, hdp, q⟩ := h
  obtain ⟨u, rfl, ru⟩ := vals1 r
  obtain rfl : u = Value.ref a := ru
  obtain ⟨z, lo, xs, rel, dd⟩ := dt_of I.hok ha
  obtain ⟨es, ep, raw, hes, hkey⟩ := raw_of dd
  have hl : kvs.length = xs.length := Paired.length rel
  have hcl : cs.length = kvs.length := by have e := congrArg List.length hks; rw [List.length_map, List.length_map] at e; exact e.symm
  have hz : es.size ≤ sizeLine := by rw [hes, ← hl]; exact z
  -- the keys, each with its address
  have hat : ∀ (i : Nat) (x : List Key × Addr × Value) (c : List Int), xs[i]? = some x → cs[i]? = some c → H x.2.1 = some (.tup (c.map V.int)) := fun i x c hx hc => by
    obtain ⟨y, hy, e1, e2, _⟩ := L2.DX.pget rel hx
    have e3 : (kvs.map (·.1))[i]? = (cs.map fun c => c.map Sum.inl)[i]? := by rw [hks]
    rw [List.getElem?_map, List.getElem?_map, hy, hc] at e3
    have e4 : y.1 = c.map Sum.inl := Option.some.inj e3
    rw [e4, List.map_map] at e2
    exact e2
  refine Calls.call_function_entry PyProof.Rows.kind_sorted PyProof.Rows.plain_sorted PyProof.Rows.entry_sorted (PyProof.Rows.args_sorted1 _) ?_
  unfold Builtin.«sorted»
  refine wpAny_bind (m := checkCount "sorted" 1 1 _) (wpAny_pure ?_)
  refine wpAny_bind (PySem.W.kdu_collect (A := X.A.in1) (KdlSrc.rawDict lo) (I.ok.hd hcalm) raw hz fun h' tk acc hk hacc => ?_)
  have I1 : Inv X pins σ H { s with heap := h', toks := tk } := I.kept hk
  let bs : List (Addr × List Int) := (xs.map fun x => x.2.1).zip cs
  have hbl : bs.length = cs.length := by
    show ((xs.map fun x => x.2.1).zip cs).length = _
    rw [List.length_zip, List.length_map]; omega
  have hb2 : bs.map (fun b => b.2) = cs := List.map_snd_zip (by rw [List.length_map]; omega)
  have hbe : bs.map (fun b => intsD b.2) = cs.map intsD := by rw [← hb2, List.map_map]; rfl
  have hbat : ∀ b ∈ bs, H b.1 = some (.tup (b.2.map V.int)) := fun b hb => by
    obtain ⟨i, hi⟩ := List.mem_iff_getElem?.mp hb
    obtain ⟨h1, h2⟩ := List.getElem?_zip_eq_some.mp hi
    rw [List.getElem?_map] at h1
    cases e : xs[i]? with
    | none => rw [e] at h1; cases h1
    | some x =>
      rw [e] at h1
      have := Option.some.inj h1
      rw [← this]
      exact hat i x b.2 e h2
  have hbd : ∀ b ∈ bs, b.2 ∈ cs := fun b hb => by rw [← hb2]; exact List.mem_map.mpr ⟨b, hb, rfl⟩
  have hal' : acc.toList.length = bs.length := by rw [Array.length_toList, hacc.1, hbl]; omega
  have E1 : EachIs (fun u (b : Addr × List Int) => u = .ref b.1) acc.toList bs := each_idx hal' fun i u b hu hb => by
    obtain ⟨hi, hv⟩ := hacc.2 i u (by rw [← Array.getElem?_toList]; exact hu)
    obtain ⟨x, hx, hk2⟩ := hkey i hi
    obtain ⟨h1, h2⟩ := List.getElem?_zip_eq_some.mp hb
    rw [List.getElem?_map, hx] at h1
    rw [hv, hk2, ← Option.some.inj h1]
  have hpl : acc.toList.length ≤ sizeLine := by rw [hal', hbl, hcl]; exact z
  refine wpAny_bind (wpAny_newList ?_ hpl)
  have hoL : (h'.push (seqObj "list" acc.toList.toArray 0)).get? h'.objs.size = some (seqObj "list" acc.toList.toArray 0) := Heap.get?_push_size _ rfl
  have E2 : EachIs (fun v (b : Addr × List Int) => ∃ as, PySem.Reads (h'.push (seqObj "list" acc.toList.toArray 0)) v (intsD b.2) as ∧ h'.objs.size ∉ as) acc.toList bs := each_idx hal' fun i u b hu hb => by
    have hm := List.mem_of_getElem? hb
    obtain ⟨_, its, r, o, g1, g2, n, g3⟩ := (show ObjOk X.prog X.w H h' b.1 (.tup (b.2.map V.int)) from I1.hok b.1 _ (hbat b hm))
    have hu2 : u = .ref b.1 := by
      obtain ⟨hi, hv⟩ := hacc.2 i u (by rw [← Array.getElem?_toList]; exact hu)
      obtain ⟨x, hx, hk2⟩ := hkey i hi
      obtain ⟨h1, h2⟩ := List.getElem?_zip_eq_some.mp hb
      rw [List.getElem?_map, hx] at h1
      rw [hv, hk2, ← Option.some.inj h1]
    rw [hu2]
    exact ⟨[], .tuple (Heap.get?_push_of_some _ g1) g2 g3 (by simpa using reads_ints r), by simp⟩
  show wpAny _ _ _ _ _ { s with heap := h'.push (seqObj "list" acc.toList.toArray 0), toks := tk }
  refine wpAny_bind (wpAny_holding (list_sort_data (s := { s with heap := h'.push (seqObj "list" acc.toList.toArray 0), toks := tk }) (enc := fun b : Addr × List Int => intsD b.2) hoL E1 E2 (by rw [hbe]; exact hal) (by rw [hbe]; exact hsrt) (by rw [hbl, hcl]; exact z) (fun b hb => ?_) fun out ho eo => ?_))
  · have := (hdp b.2 (hbd b hb)).1
    show X.A.units + 1 + 1 + (intsD b.2).depth < cLine
    omega
  obtain ⟨e', he'⟩ := PyProof.Rows.sortedHeap_at (vs := acc.toList) (out := out.toArray) hoL
  have hys : DaL H ((bs.mergeSort (dataLe false fun b : Addr × List Int => intsD b.2)).map fun b => V.ref b.1) (srt (cs.map intsD)) := by
    rw [← hbe, ← srt_map (fun b : Addr × List Int => intsD b.2) bs]
    refine da_refs fun b hb => ?_
    have hm := (List.mergeSort_perm _ _).mem_iff.mp hb
    exact .tup (hbat b hm) (by rw [List.length_map]; exact (hdp b.2 (hbd b hm)).2) (DaL.ofInts b.2)
  have hlen : ((bs.mergeSort (dataLe false fun b : Addr × List Int => intsD b.2)).map fun b => V.ref b.1).length ≤ sizeLine := by
    rw [List.length_map, List.length_mergeSort, hbl, hcl]; exact z
  refine wpAny_pure ⟨_, rfl, .ref h'.objs.size, upd H h'.objs.size (.lst _), I1.laid (t' := tk) (fun b u e => ?_) (Nat.le_refl _)
    (show ObjOk X.prog X.w _ _ _ (.lst _) from ⟨hlen, out, e', each_refs eo, he'⟩), rfl, q _ _ (I1.hok.fresh (Nat.le_refl _)) hys⟩
  have hb : b < h'.objs.size := Heap.lt_size e
  rw [PyProof.Rows.sortedHeap_old (Nat.ne_of_lt hb) (by rw [size_push']; exact Nat.lt_succ_of_lt hb)]
  exact Heap.get?_push_of_some _ e
end
/-! ### the hashes of small pairs differ -/
def hp (a b : Int) : Int := reduceHash (Builtin.Tuple.tupleHashOf [hashInt a, hashInt b])
theorem pair_hash (P : Program) (w : World) (a b : Int) : (tupleKind (mixKind P w)).hash [.inl a, .inl b] = hp a b := by
  show reduceHash (Builtin.Tuple.tupleHashOf [keyH w (.inl a), keyH w (.inl b)]) = _
  unfold hp keyH
  rfl
theorem hp_nd : ((List.range 104).map fun i => hp ((i / 26 : Nat) : Int) ((i % 26 : Nat) : Int)).Nodup := by decide +kernel
theorem hp_inj {a b c d : Nat} (ha : a < 4) (hb : b < 26) (hc : c < 4) (hd : d < 26) (e : hp a b = hp c d) : a = c ∧ b = d := by
  have pw := List.pairwise_iff_getElem.mp hp_nd
  have key : ∀ i j : Nat, i < j → j < 104 → hp ((i / 26 : Nat) : Int) ((i % 26 : Nat) : Int) ≠ hp ((j / 26 : Nat) : Int) ((j % 26 : Nat) : Int) := fun i j hij hj => by
    have h := pw i j (by rw [List.length_map, List.length_range]; omega) (by rw [List.length_map, List.length_range]; omega) hij
    rw [List.getElem_map, List.getElem_map, List.getElem_range, List.getElem_range] at h
    exact h
  have e1 : (26 * a + b) / 26 = a := by omega
  have e2 : (26 * a + b) % 26 = b := by omega
  have e3 : (26 * c + d) / 26 = c := by omega
  have e4 : (26 * c + d) % 26 = d := by omega
  rcases Nat.lt_trichotomy (26 * a + b) (26 * c + d) with h | h | h
  · have := key _ _ h (by omega)
    rw [e1, e2, e3, e4] at this
    exact absurd e this
  · omega
  · have := key _ _ h (by omega)
    rw [e1, e2, e3, e4] at this
    exact absurd e.symm this
theorem map_keys {f : List Key → Int} {g : Int × Int → Int} (hf : ∀ c : Int × Int, f [Sum.inl c.1, Sum.inl c.2] = g c) : ∀ {kvs : List (List Key × V)} {cs : List (Int × Int)}, kvs.map (·.1) = cs.map (fun c => [Sum.inl c.1, Sum.inl c.2]) → (kvs.map fun e => f e.1) = cs.map g
  | [], [], _ => rfl
  | e :: kvs, c :: cs, h => by
    rw [List.map_cons, List.map_cons] at h
    injection h with h1 h2
    rw [List.map_cons, List.map_cons, map_keys hf h2, h1, hf]
  | [], _ :: _, h => by cases h
  | _ :: _, [], h => by cases h
/-- dict(d) where the keys are pairs of ints -/
def rDictC : List V → Hp → VK → Prop := fun vs H Q => ∃ (a : Addr) (kvs : List (List Key × V)) (cs : List (Int × Int)), vs = [.ref a] ∧ H a = some (.dT kvs) ∧ kvs.map (·.1) = cs.map (fun c => [Sum.inl c.1, Sum.inl c.2]) ∧ (cs.map fun c => hp c.1 c.2).Nodup ∧ ∀ p, H p = none → Q (.ref p) (upd H p (.dT kvs))
theorem b_dictC {X : Cx} (hu : X.A.units + 8 < cLine) : CallR X (.type "dict") rDictC := by
  intro pins s σ H vs us Q I r h
  obtain ⟨a, kvs, cs, rfl, ha, hk, hh, q⟩ := h
  refine b_dictT hu pins s σ H _ us Q I r ⟨a, kvs, rfl, ha, ?_, q⟩
  have e := map_keys (f := (tupleKind (mixKind X.prog X.w)).hash) (g := fun c => hp c.1 c.2) (fun c => pair_hash _ _ c.1 c.2) hk
  rw [e]; exact hh
theorem g_dictC {H : Hp} {Q : VK} {a : Addr} {kvs : List (List Key × V)} (cs : List (Int × Int)) (h : H a = some (.dT kvs)) (hk : kvs.map (·.1) = cs.map (fun c => [Sum.inl c.1, Sum.inl c.2])) (hn : (cs.map fun c => hp c.1 c.2).Nodup) (q : ∀ p H', H p = none → Fr [] H H' → H' p = some (.dT kvs) → Q (.ref p) H') : rDictC [.ref a] H Q :=
  ⟨a, kvs, cs, rfl, h, hk, hn, fun p e => q p _ e (Fr.new e) upd_same⟩
theorem g_sortedDT {H : Hp} {Q : VK} {a : Addr} {kvs : List (List Key × V)} (cs : List (List Int)) (h : H a = some (.dT kvs)) (hk : kvs.map (·.1) = cs.map (fun c => c.map Sum.inl)) (ha : AllAlike (cs.map intsD)) (hs : Sortable (cs.map intsD)) (hd : ∀ c ∈ cs, (intsD c).depth ≤ 60 ∧ c.length ≤ 1000000)
    (q : ∀ p H' ys, H p = none → Fr [] H H' → H' p = some (.lst ys) → DaL H' ys (srt (cs.map intsD)) → Q (.ref p) H') : rSortedDT [.ref a] H Q :=
  ⟨a, kvs, cs, rfl, h, hk, ha, hs, hd, fun p ys e d => q p _ ys e (Fr.new e) upd_same (DaL.frL (Fr.new e) d (immL_of fun d hd => by
    obtain ⟨c, _, rfl⟩ := List.mem_map.mp ((srt_perm _).mem_iff.mp hd)
    exact immL_of fun d hd => by obtain ⟨n, _, rfl⟩ := List.mem_map.mp hd; rfl))⟩
theorem g_popT {H : Hp} {Q : VK} {a b : Addr} {kvs : List (List Key × V)} {k : List Key} {d : V} (h : H a = some (.dT kvs)) (hb : H b = some (.tup (k.map kV))) (q1 : ∀ v H', valV kvs k = some v → Fr [a] H H' → H' a = some (.dT (dropK kvs k)) → Q v H') (q2 : valV kvs k = none → Q d H) : L2.DX.rPopT (.ref a) [.ref b, d] H Q :=
  ⟨a, kvs, k, b, d, rfl, rfl, h, hb, fun v e => q1 v _ e (Fr.put h trivial) upd_same, q2⟩
theorem g_popT1 {H : Hp} {Q : VK} {a b : Addr} {kvs : List (List Key × V)} {k : List Key} {v : V} (h : H a = some (.dT kvs)) (hb : H b = some (.tup (k.map kV))) (hv : valV kvs k = some v) (q : ∀ H', Fr [a] H H' → H' a = some (.dT (dropK kvs k)) → Q v H') : rPopT1 (.ref a) [.ref b] H Q :=
  ⟨a, b, kvs, k, v, rfl, rfl, h, hb, hv, q _ (Fr.put h trivial) upd_same⟩
/-- a place that was changed and is as it was -/
theorem Fr.back {p : Addr} {u : HO} {H H' : Hp} (f : Fr [p] H H') (h : H p = some u) (h' : H' p = some u) : Fr [] H H' := ⟨fun a o e _ => by
  by_cases q : a = p
  · subst q; rw [h] at e; cases e; exact h'
  · exact f.at e (nin1 q nin0), f.tup⟩
/-- d[k] -= x -/
def rDA (a : Addr) (y : V) (v : V) (tv : TE) (rd : V → V → Hp → VK → Prop) (σ : L2.St) (H : Hp) (P : Hp → Prop) : Prop := tv σ H fun y2 H3 => rd v y2 H3 fun z H4 => ∃ H5, DPut H4 a y z H5 ∧ P H5
def rDA0 (x y : V) (tv : TE) (rd : V → V → Hp → VK → Prop) (σ : L2.St) (H : Hp) (P : Hp → Prop) : Prop := ∃ a v, x = .ref a ∧ DGet H a y (some v) ∧ rDA a y v tv rd σ H P
theorem g_daug {td ty tv : TE} {rd : V → V → Hp → VK → Prop} {D : Ends} {σ : L2.St} {H : Hp} (h : td σ H fun x H1 => ty σ H1 fun y H2 => rDA0 x y tv rd σ H2 fun H5 => D.nx σ H5) : sDAug td ty tv rd D σ H := h
theorem g_rda0 {a b : Addr} {kvs : List (List Key × V)} {k : List Key} {v : V} {tv : TE} {rd : V → V → Hp → VK → Prop} {σ : L2.St} {H : Hp} {P : Hp → Prop} (h : H a = some (.dT kvs)) (hb : H b = some (.tup (k.map kV))) (hv : valV kvs k = some v) (q : rDA a (.ref b) v tv rd σ H P) : rDA0 (.ref a) (.ref b) tv rd σ H P :=
  ⟨a, v, rfl, .inr ⟨kvs, k, b, .inl h, rfl, hb, hv.symm⟩, q⟩
theorem g_rdput {a b : Addr} {kvs : List (List Key × V)} {k : List Key} {v : V} {H : Hp} {P : Hp → Prop} (h : H a = some (.dT kvs)) (e : H b = some (.tup (k.map kV))) (hl : kvs.length < sizeLine) (c : ∀ H', Fr [a] H H' → H' a = some (.dT (putK kvs k v)) → P H') : ∃ H5, DPut H a (.ref b) v H5 ∧ P H5 :=
  ⟨_, .inr ⟨kvs, k, b, h, rfl, e, hl, rfl⟩, c _ (Fr.put h trivial) upd_same⟩
theorem un1 {u c : Nat} (h : u + 64 < c) : u + 1 < c := by omega
theorem un8 {u c : Nat} (h : u + 64 < c) : u + 8 < c := by omega
end Lw

namespace Lw
open PySem L2
/-! ### lists of data that does not change -/
def LsAt (H : Hp) (a : Addr) (ds : List PyData) : Prop := immL ds = true ∧ ∃ vs, H a = some (.lst vs) ∧ DaL H vs ds
theorem LsAt.fr {l : List Addr} {H H' : Hp} {a : Addr} {ds : List PyData} (h : LsAt H a ds) (f : Fr l H H') (n : a ∉ l) : LsAt H' a ds := by
  obtain ⟨i, vs, e, d⟩ := h
  exact ⟨i, vs, f.at e n, DaL.frL f d i⟩
theorem LsAt.of {H : Hp} {a : Addr} {vs : List V} {ds : List PyData} (e : H a = some (.lst vs)) (d : DaL H vs ds) (i : immL ds = true) : LsAt H a ds := ⟨i, vs, e, d⟩
theorem LsAt.nil {H : Hp} {a : Addr} (e : H a = some (.lst [])) : LsAt H a [] := ⟨rfl, [], e, .nil⟩
theorem LsAt.da {H : Hp} {a : Addr} {ds : List PyData} (h : LsAt H a ds) (hl : ds.length ≤ 1000000) : Da H (.ref a) (.list ds) := by
  obtain ⟨i, vs, e, d⟩ := h
  exact .lst e (by rw [d.len]; exact hl) d
/-- behind an append -/
theorem LsAt.snoc {H H' : Hp} {a : Addr} {vs : List V} {ds : List PyData} {v : V} {d : PyData} (r : DaL H vs ds) (i : immL ds = true) (dv : Da H v d) (id : imm d = true) (f : Fr [a] H H') (e : H' a = some (.lst (vs ++ [v]))) : LsAt H' a (ds ++ [d]) := by
  refine ⟨by rw [immL_append, i]; simp [immL, id], _, e, ?_⟩
  exact (DaL.frL f r i).append (.one' (Da.frL f dv id))
theorem immL_map {α : Type} {f : α → PyData} (h : ∀ x, imm (f x) = true) (l : List α) : immL (l.map f) = true := immL_of fun d hd => by obtain ⟨x, _, rfl⟩ := List.mem_map.mp hd; exact h x
/-! ### dicts from ints to data that does not change -/
abbrev DkR (H : Hp) : List (Key × V) → List (Int × PyData) → Prop := Paired fun p e => p.1 = Sum.inl e.1 ∧ Da H p.2 e.2 ∧ imm e.2 = true
def DkAt (H : Hp) (a : Addr) (m : List (Int × PyData)) : Prop := ∃ kvs, H a = some (.dK kvs) ∧ DkR H kvs m
theorem DkR.fr {l : List Addr} {H H' : Hp} {kvs : List (Key × V)} {m : List (Int × PyData)} (r : DkR H kvs m) (f : Fr l H H') : DkR H' kvs m := Paired.mapP r fun p q z => ⟨z.1, Da.frL f z.2.1 z.2.2, z.2.2⟩
theorem DkAt.fr {l : List Addr} {H H' : Hp} {a : Addr} {m : List (Int × PyData)} (h : DkAt H a m) (f : Fr l H H') (n : a ∉ l) : DkAt H' a m := by
  obtain ⟨kvs, e, r⟩ := h
  exact ⟨kvs, f.at e n, r.fr f⟩
theorem DkAt.nil {H : Hp} {a : Addr} (e : H a = some (.dK [])) : DkAt H a [] := ⟨[], e, .nil⟩
theorem DkR.len {H : Hp} {kvs : List (Key × V)} {m : List (Int × PyData)} (r : DkR H kvs m) : kvs.length = m.length := Paired.length r
theorem DkR.val {H : Hp} {kvs : List (Key × V)} {m : List (Int × PyData)} (r : DkR H kvs m) (k : Int) : (lk m k = none → valV kvs (.inl k) = none) ∧ ∀ d, lk m k = some d → ∃ v, valV kvs (.inl k) = some v ∧ Da H v d ∧ imm d = true := by
  induction r with
  | nil => exact ⟨fun _ => rfl, fun d h => by cases h⟩
  | @cons p q ps qs h t ih =>
    obtain ⟨h1, h2, h3⟩ := h
    by_cases e : q.1 = k
    · have c : lk (q :: qs) k = some q.2 := by simp [lk, List.find?_cons, e]
      rw [c, valV_pos (by rw [h1, e])]
      exact ⟨fun z => (by cases z), fun d z => (by cases z; exact ⟨_, rfl, h2, h3⟩)⟩
    · have c : lk (q :: qs) k = lk qs k := by simp [lk, List.find?_cons, e]
      rw [c, valV_neg (fun z => e (by rw [h1] at z; exact Sum.inl.inj z))]
      exact ih
theorem DkR.isS {H : Hp} {kvs : List (Key × V)} {m : List (Int × PyData)} (r : DkR H kvs m) (k : Int) : (valV kvs (.inl k)).isSome = (lk m k).isSome := by
  obtain ⟨h1, h2⟩ := r.val k
  cases e : lk m k with
  | none => rw [h1 e]; rfl
  | some d => obtain ⟨v, hv, _⟩ := h2 d e; rw [hv]; rfl
theorem lk_any2 {κ α : Type} [DecidableEq κ] (m : List (κ × α)) (k : κ) : (m.any fun e => decide (e.1 = k)) = (lk m k).isSome := by
  induction m with
  | nil => rfl
  | cons e r ih =>
    by_cases h : e.1 = k
    · simp [lk, List.find?_cons, h]
    · have c : lk (e :: r) k = lk r k := by simp [lk, List.find?_cons, h]
      rw [c, ← ih]; simp [h]
theorem DkR.put {H : Hp} {kvs : List (Key × V)} {m : List (Int × PyData)} (r : DkR H kvs m) (k : Int) {v : V} {d : PyData} (dv : Da H v d) (id : imm d = true) : DkR H (putK kvs (.inl k) v) (pt m k d) := by
  have e : (kvs.any fun kv => decide (kv.1 = Sum.inl k)) = (m.any fun e => decide (e.1 = k)) := by rw [valV_any, r.isS, lk_any2]
  unfold putK pt
  rw [e]
  by_cases q : (m.any fun e => decide (e.1 = k)) = true
  · rw [if_pos q, if_pos q]
    clear q e
    induction r with
    | nil => exact .nil
    | @cons p q ps qs h t ih =>
      rw [List.map_cons, List.map_cons]
      refine .cons ?_ ih
      obtain ⟨h1, h2, h3⟩ := h
      by_cases e : q.1 = k
      · rw [if_pos (by rw [h1, e]), if_pos e]; exact ⟨h1, dv, id⟩
      · rw [if_neg (fun z => e (by rw [h1] at z; exact Sum.inl.inj z)), if_neg e]; exact ⟨h1, h2, h3⟩
  · rw [if_neg q, if_neg q]; exact Paired.snoc r ⟨rfl, dv, id⟩
theorem DkR.drop {H : Hp} {kvs : List (Key × V)} {m : List (Int × PyData)} (r : DkR H kvs m) (k : Int) : DkR H (dropK kvs (.inl k)) (dr m k) := by
  unfold dropK dr
  induction r with
  | nil => exact .nil
  | @cons p q ps qs h t ih =>
    obtain ⟨h1, h2, h3⟩ := h
    by_cases e : q.1 = k
    · have a : decide (p.1 ≠ (Sum.inl k : Key)) = false := by rw [h1, e]; simp
      have b : decide (q.1 ≠ k) = false := by simp [e]
      simp only [List.filter_cons, a, b]; exact ih
    · have a : decide (p.1 ≠ (Sum.inl k : Key)) = true := by rw [h1]; exact decide_eq_true fun z => e (Sum.inl.inj z)
      have b : decide (q.1 ≠ k) = true := decide_eq_true e
      simp only [List.filter_cons, a, b]; exact .cons ⟨h1, h2, h3⟩ ih
theorem DkR.get {H : Hp} {kvs : List (Key × V)} {m : List (Int × PyData)} (r : DkR H kvs m) : ∀ {i : Nat} {k : Key} {v : V}, kvs[i]? = some (k, v) → ∃ e, m[i]? = some e ∧ k = Sum.inl e.1 ∧ Da H v e.2 := by
  induction r with
  | nil => intro i k v h; simp at h
  | @cons p q ps qs h t ih =>
    intro i k v hi
    cases i with
    | zero => simp at hi; subst hi; exact ⟨q, rfl, h.1, h.2.1⟩
    | succ i => obtain ⟨e, h1, h2⟩ := ih (i := i) (by simpa using hi); exact ⟨e, by simpa using h1, h2⟩
/-! ### readings of dicts whose keys are ints and texts -/
section
variable {K : PySem.W.Frag} {σ : L2.St} {H H' : Hp} {Q : VK} {D : Ends} {td ty te tv tx : TE} {tt : TT} {tb t : TS} {g : TG} {a b d q : Addr} {o : Obj} {kvs : List (Key × V)} {k : Key} {v x y z : V} {vs : List Nat} {R : It → Hp → Prop} {as : TA}
theorem g_rdgK (k : Key) (h : Rd H a (.dK kvs)) (l : valV kvs k = some v) (c : Q v H) : rDG (.ref a) (kV k) H Q := ⟨a, v, rfl, .inl ⟨kvs, k, h, rfl, l.symm⟩, c⟩
theorem g_rdgI {i : Int} (h : Rd H a (.dK kvs)) (l : valV kvs (.inl i) = some v) (c : Q v H) : rDG (.ref a) (.int i) H Q := g_rdgK (.inl i) h l c
theorem g_rdgS {s : Str} (h : Rd H a (.dK kvs)) (l : valV kvs (.inr s) = some v) (c : Q v H) : rDG (.ref a) (.str s) H Q := g_rdgK (.inr s) h l c
theorem g_rdiI {i : Int} (h : Rd H a (.dK kvs)) (c : Q (.bl (valV kvs (.inl i)).isSome) H) : rDI (.int i) (.ref a) H Q := ⟨a, _, rfl, .inl ⟨kvs, .inl i, h, rfl, rfl⟩, c⟩
theorem g_rdniI {i : Int} (h : Rd H a (.dK kvs)) (c : Q (.bl (!(valV kvs (.inl i)).isSome)) H) : rDNI (.int i) (.ref a) H Q := ⟨a, _, rfl, .inl ⟨kvs, .inl i, h, rfl, rfl⟩, c⟩
theorem g_rdpI {i : Int} {P : Hp → Prop} (h : H a = some (.dK kvs)) (hl : kvs.length < sizeLine) (c : ∀ H', Fr [a] H H' → H' a = some (.dK (putK kvs (.inl i) v)) → P H') : rDP (.ref a) (.int i) v H P :=
  ⟨a, _, rfl, .inl ⟨kvs, .inl i, h, rfl, hl, rfl⟩, c _ (Fr.put h trivial) upd_same⟩
theorem g_rdpS {s : Str} {gs : List (Key × V)} {P : Hp → Prop} (h : H a = some (.dK kvs)) (hl : kvs.length < sizeLine) (e : putK kvs (.inr s) v = gs) (c : ∀ H', Fr [a] H H' → H' a = some (.dK gs) → P H') : rDP (.ref a) (.str s) v H P :=
  ⟨a, _, rfl, .inl ⟨kvs, .inr s, h, rfl, hl, rfl⟩, c _ (Fr.put h trivial) (by rw [e]; exact upd_same)⟩
theorem g_rdg2K {P : Addr → Prop} (h : Rd H a (.dK kvs)) (c : P a) : rDG2 (.ref a) H P := ⟨a, rfl, .inl ⟨kvs, h⟩, c⟩
theorem g_dgoI {i : Int} (h : Rd H a (.dK kvs)) (c : Q ((valV kvs (.inl i)).getD z) H) : rDO a (.int i) z H Q := ⟨_, .inl ⟨kvs, .inl i, h, rfl, rfl⟩, c⟩
theorem g_rkk (h : H d = some (.frz o (.dK kvs))) (c : R (Itk d o kvs) H) : rKy (.ref d) H R := ⟨d, o, rfl, .inl ⟨kvs, h, c⟩⟩
theorem f_keysK (Pv : Nat → L2.St → Hp → Prop) (h0 : Pv 0 σ H) (hl : ∀ i σ H, i ≤ kvs.length → Pv i σ H → H d = some (.frz o (.dK kvs)))
    (hs : ∀ i k v σ H, kvs[i]? = some (k, v) → Pv i σ H → g (kV k) σ H fun σ2 H2 => tb { D with nx := Pv (i + 1), ct := Pv (i + 1), bk := D.nx } σ2 H2) (hd : ∀ σ H, Pv kvs.length σ H → D.nx σ H) : ForGo (Itk d o kvs) g tb D σ H :=
  for_it walk_keys Pv h0 hl (fun i x σ H H' hi p y => by obtain ⟨rfl, k, v, h1, rfl⟩ := y; exact hs i k v σ _ h1 p) hd
theorem l_keysK (c : ∀ Dl H0, H Dl = none → Fr [] H H0 → H0 Dl = some (.lst []) → ∃ Pv : Nat → List V → Hp → Prop, Pv 0 [] H0 ∧ (∀ i acc H', Pv i acc H' → H' d = some (.frz o (.dK kvs))) ∧
    (∀ i k v acc H', kvs[i]? = some (k, v) → H' Dl = some (.lst acc) → Pv i acc H' → lcStep g tt te vs σ Dl Pv i (kV k) H') ∧ (∀ acc H', H' Dl = some (.lst acc) → Pv kvs.length acc H' → Q (.ref Dl) H')) : LcGo (Itk d o kvs) g tt te vs σ Q H := by
  intro Dl hD
  obtain ⟨Pv, p0, pl, ps, pd⟩ := c Dl _ hD (Fr.new hD) upd_same
  exact lc_it walk_keys (fun i H' => ∃ acc, H' Dl = some (.lst acc) ∧ Pv i acc H') ⟨[], upd_same, p0⟩ (fun i H' _ ⟨acc, _, p⟩ => pl i acc H' p) (fun i x H1 H' hi ⟨acc, hd, p⟩ y => by obtain ⟨rfl, k, v, h1, rfl⟩ := y; exact ps i k v acc _ h1 hd p) (fun H' ⟨acc, hd, p⟩ => pd acc H' hd p)
def rPopI (a : Addr) (y : V) (H : Hp) (Q : VK) : Prop := ∃ kvs k v, H a = some (.dK kvs) ∧ y = kV k ∧ valV kvs k = some v ∧ Q v (upd H a (.dK (dropK kvs k)))
theorem g_dpop1 (h : td σ H fun x H1 => rDG2 x H1 fun a => ty σ H1 fun y H2 => rPopI a y H2 Q) : tDPop1 td ty σ H Q := h
theorem g_rpopI {i : Int} (h : H a = some (.dK kvs)) (l : valV kvs (.inl i) = some v) (c : ∀ H', Fr [a] H H' → H' a = some (.dK (dropK kvs (.inl i))) → Q v H') : rPopI a (.int i) H Q := ⟨kvs, .inl i, v, h, rfl, l, c _ (Fr.put h trivial) upd_same⟩
theorem g_unlK {u : HO} (h : H d = some (.frz o u)) {P : Hp → Prop} (c : ∀ H', Fr [d] H H' → H' d = some u → P H') : rUl d o u H P := g_unl h c
end
/-- len of a dict -/
def rLenD : List V → Hp → VK → Prop := fun xs H Q => ∃ a kvs, xs = [V.ref a] ∧ H a = some (.dK kvs) ∧ Q (.int kvs.length) H
theorem b_lenD {X : Cx} : CallR X (.builtin "len") rLenD := call_lenD
theorem g_lenDK {H : Hp} {Q : VK} {a : Addr} {kvs : List (Key × V)} (h : H a = some (.dK kvs)) (q : Q (.int kvs.length) H) : rLenD [.ref a] H Q := ⟨a, kvs, rfl, h, q⟩
/-! displays -/
section
variable {σ : L2.St} {H : Hp} {Q : VK} {trs : List (TE × TE)} {tk tv : TE}
def rDs (p : Addr) (ps : List (V × V)) (H2 : Hp) (Q : VK) : Prop := H2 p = some (.dK []) ∧ ∃ kvs : List (Key × V), ps = kvs.map (fun kv => (kV kv.1, kv.2)) ∧ kvs.length ≤ 15 ∧ Q (.ref p) (upd H2 p (.dK (mergeK [] kvs)))
theorem g_disp (h : ∀ p H0, H p = none → Fr [] H H0 → H0 p = some (.dK []) → tPairs trs σ H0 fun ps H2 => rDs p ps H2 Q) : tDisp trs σ H Q := fun p hp => h p _ hp (Fr.new hp) upd_same
theorem g_pcons {QP : List (V × V) → Hp → Prop} {r : List (TE × TE)} (h : tk σ H fun x H1 => tv σ H1 fun y H2 => tPairs r σ H2 fun ps H3 => QP ((x, y) :: ps) H3) : tPairs ((tk, tv) :: r) σ H QP := h
theorem g_pnil {QP : List (V × V) → Hp → Prop} (h : QP [] H) : tPairs [] σ H QP := h
theorem g_rds {p : Addr} {ps : List (V × V)} (kvs : List (Key × V)) (h : H p = some (.dK [])) (e : ps = kvs.map (fun kv => (kV kv.1, kv.2))) (hl : kvs.length ≤ 15) (m : mergeK [] kvs = kvs) (q : ∀ H3, Fr [p] H H3 → H3 p = some (.dK kvs) → Q (.ref p) H3) : rDs p ps H Q :=
  ⟨h, kvs, e, hl, q _ (Fr.put h trivial) (by rw [m]; exact upd_same)⟩
end
/-! ### zip -/
section
variable {K : PySem.W.Frag} {σ : L2.St} {H H' : Hp} {D : Ends} {tb : TS} {g : TG} {a b : Addr} {R : It → Hp → Prop} {as : TA}
def rZA (K : PySem.W.Frag) (vs : List V) (H : Hp) (R : It → Hp → Prop) : Prop := ∃ a b xs ys, vs = [.ref a, .ref b] ∧ ((SqL K H a xs ∧ SqL K H b ys ∧ R (Itz K a b) H) ∨ (SqT K H a xs ∧ SqT K H b ys ∧ R (RZ.ItzT K a b) H))
theorem g_iZA (h : as σ H fun vs H1 => rZA K vs H1 R) : RZ.iZipA K as σ H R := h
theorem g_rzaT {xs ys : List V} (h : SqT K H a xs) (h2 : SqT K H b ys) (c : R (RZ.ItzT K a b) H) : rZA K [.ref a, .ref b] H R := ⟨a, b, xs, ys, rfl, .inr ⟨h, h2, c⟩⟩
theorem g_rzaL {xs ys : List V} (h : SqL K H a xs) (h2 : SqL K H b ys) (c : R (Itz K a b) H) : rZA K [.ref a, .ref b] H R := ⟨a, b, xs, ys, rfl, .inl ⟨h, h2, c⟩⟩
theorem f_zipT {xs ys : List V} (hl : xs.length = ys.length) (Pv : Nat → L2.St → Hp → Prop) (h0 : Pv 0 σ H) (hq : ∀ i σ H, Pv i σ H → SqT K H a xs ∧ SqT K H b ys)
    (hs : ∀ i x y T σ H H', xs[i]? = some x → ys[i]? = some y → Pv i σ H → H T = none → Fr [] H H' → H' T = some (.tup [x, y]) → g (.ref T) σ H' fun σ2 H2 => tb { D with nx := Pv (i + 1), ct := Pv (i + 1), bk := D.nx } σ2 H2) (hd : ∀ σ H, Pv xs.length σ H → D.nx σ H) : ForGo (RZ.ItzT K a b) g tb D σ H :=
  RZ.for_zipT hl Pv h0 hq (fun i x y T σ H h1 h2 p hT => hs i x y T σ H _ h1 h2 p hT (Fr.new hT) upd_same) hd
end
/-! ### what one owns -/
def AL (H : Hp) (l : List Addr) : Prop := l.Nodup ∧ ∀ a ∈ l, ∃ o, H a = some o
theorem AL.fr0 {H H' : Hp} {l : List Addr} (s : AL H l) (f : Fr [] H H') : AL H' l := ⟨s.1, fun a h => by obtain ⟨o, e⟩ := s.2 a h; exact ⟨o, f.at0 e⟩⟩
theorem AL.new {H H' : Hp} {l : List Addr} {p : Addr} {o : HO} (s : AL H l) (f : Fr [] H H') (n : H p = none) (e : H' p = some o) : AL H' (p :: l) :=
  ⟨List.nodup_cons.mpr ⟨fun q => by (obtain ⟨o, e⟩ := s.2 p q; rw [n] at e; cases e), s.1⟩, fun a h => (List.mem_cons.mp h).elim (fun q => q ▸ ⟨o, e⟩) ((s.fr0 f).2 a)⟩
theorem AL.nin {H : Hp} {l : List Addr} {p : Addr} (s : AL H l) (n : H p = none) : p ∉ l := fun q => by obtain ⟨o, e⟩ := s.2 p q; rw [n] at e; cases e
/-- one part has changed, and may have taken new places -/
theorem AL.part {H H' : Hp} {os os' rest : List Addr} (s : AL H (os ++ rest)) (f : Fr os H H') (s' : AL H' os') (n : ∀ a ∈ os', a ∈ os ∨ H a = none) : AL H' (os' ++ rest) := by
  obtain ⟨n0, al⟩ := s
  have n1 := List.nodup_append.mp n0
  refine ⟨List.nodup_append.mpr ⟨s'.1, n1.2.1, fun a ha b hb e => ?_⟩, fun a ha => ?_⟩
  · subst e
    rcases n a ha with h | h
    · exact n1.2.2 a h a hb rfl
    · obtain ⟨o, e⟩ := al a (List.mem_append_right _ hb); rw [h] at e; cases e
  · rcases List.mem_append.mp ha with h | h
    · exact s'.2 a h
    · obtain ⟨o, e⟩ := al a (List.mem_append_right _ h)
      exact ⟨o, f.at e fun q => n1.2.2 a q a h rfl⟩
theorem AL.perm {H : Hp} {l m : List Addr} (s : AL H l) (p : l.Perm m) : AL H m := ⟨p.nodup_iff.mp s.1, fun a h => s.2 a (p.mem_iff.mpr h)⟩
theorem AL.apart {H : Hp} {os rest : List Addr} (s : AL H (os ++ rest)) {a : Addr} (h : a ∈ rest) : a ∉ os := fun q => (List.nodup_append.mp s.1).2.2 a q a h rfl
theorem AL.left {H : Hp} {os rest : List Addr} (s : AL H (os ++ rest)) : AL H os := ⟨(List.nodup_append.mp s.1).1, fun a h => s.2 a (List.mem_append_left _ h)⟩
theorem AL.right {H : Hp} {os rest : List Addr} (s : AL H (os ++ rest)) : AL H rest := ⟨(List.nodup_append.mp s.1).2.1, fun a h => s.2 a (List.mem_append_right _ h)⟩
end Lw

namespace Lw
open PySem PySem.Spec PyProof.Rows L2
/-! ### enumerate(tuple) -/
set_option maxHeartbeats 4000000 in
theorem meets_enumT {v : Value} {o : Obj} {H : Heap → Prop} (B : Begins v o H) :
    Meets (Builtin.«enumerate.__new__» ⟨[.type "enumerate", v], []⟩) (fun _ R s => H s.heap ∧
      R (.ok (.ret (.ref (s.heap.push o).objs.size))) { s with heap := (s.heap.push o).push { cls := .type "enumerate", data := .fields #[.none, .bool false, .ref s.heap.objs.size, rawInt 0, .none, .none] } }) :=
  .of_wp fun prog w A R s h => by
    obtain ⟨hp, g, d, tk, os⟩ := s; obtain ⟨h1, h⟩ := h
    have hsub := sub_enumerate
    have q1 : ∀ {A' : Around} {E : Value → Shared → Prop} {Q : Value → Shared → Prop}, Q (.ref hp.objs.size) ⟨hp.push o, g, d, tk, os⟩ → wpAny (model prog w) A' (pyIter v) Q E ⟨hp, g, d, tk, os⟩ :=
      fun q => B.iter prog w _ _ ⟨hp, g, d, tk, os⟩ _ h1 q
    wp_walk using q1
    refine wpAny_stack_any fun st => wpAny_pure ?_
    split
    · rename_i c _ _ _ _ _
      cases (c == Value.type "enumerate")
      · wp_walk using q1
        exact ⟨_, rfl, h⟩
      · wp_walk using q1
        exact ⟨_, rfl, h⟩
    · wp_walk using q1
      exact ⟨_, rfl, h⟩
theorem enum_begins1 {prog : Program} {w : World} {A : Around} {E : Value → Shared → Prop} {s : Shared} {v : Value} {o : Obj} {H : Heap → Prop} {Q : Value → Shared → Prop} (B : Begins v o H) (h1 : H s.heap)
    (h : ∀ h', IsEnum h' (s.heap.objs.size + 1) s.heap.objs.size 0 .none → h'.get? s.heap.objs.size = some o → h'.objs.size = s.heap.objs.size + 2 →
      (∀ b o, s.heap.get? b = some o → h'.get? b = some o) → Q (.ref (s.heap.objs.size + 1)) { s with heap := h' }) :
    wpAny (model prog w) A (call (.type "enumerate") [v]) Q E s := by
  refine callType_new F.called_enumerate (by decide) (F.typeCall_enumerate_1 _) (F.newCall_enumerate_1 _) (fun obj => F.args_object_init_2 obj _) F.entry_enumerate_new
    (meets_enumT B) ⟨h1, ?_⟩
  have hz : (s.heap.push o).objs.size = s.heap.objs.size + 1 := Heap.size_push ..
  show _ ∧ _
  rw [hz]
  have he : IsEnum ((s.heap.push o).push { cls := .type "enumerate", data := .fields #[.none, .bool false, .ref s.heap.objs.size, rawInt 0, .none, .none] }) (s.heap.objs.size + 1) s.heap.objs.size 0 .none := by
    have := Heap.get?_push_size (s.heap.push o) (o := { cls := .type "enumerate", data := .fields #[.none, .bool false, .ref s.heap.objs.size, rawInt 0, .none, .none] }) rfl
    rw [hz] at this; exact this
  refine ⟨⟨_, he, rfl⟩, h _ he (Heap.get?_push_of_some _ (Heap.get?_push_size _ B.free)) (by rw [Heap.size_push, hz]) fun b o x => Heap.get?_push_of_some _ (Heap.get?_push_of_some _ x)⟩
/-- the tuple at a as it stands at each turn, each item in a new pair -/
def IteT (K : PySem.W.Frag) (a : Addr) : It :=
  ⟨fun i H => ∃ (xs : List V) (x : V), SqT K H a xs ∧ xs[i]? = some x, fun i H v H' => ∃ T x, v = .ref T ∧ H T = none ∧ H' = upd H T (.tup [.int (i : Nat), x]) ∧ ∀ xs, SqT K H a xs → xs[i]? = some x, fun i H => ∃ xs : List V, SqT K H a xs ∧ xs.length ≤ i⟩
theorem turn_enumT {P : Program} {w : World} {K : PySem.W.Frag} {elts : List Expr} {kk : Nat} {tpos : Pos} (a e it : Addr) :
    Turn P w K (.Tuple elts kk tpos) (IteT K a) [e, it] e (fun i h => (∃ old, IsEnum h e it ((i : Nat) : Int) old) ∧ h.IsTupleIter it a i ∧ e ≠ it) where
  mem := by simp
  obj := fun i h st b hb => by
    obtain ⟨⟨old, he⟩, ⟨o, ho, hc, hd⟩, _⟩ := st
    have e' : b = e ∨ b = it := by simpa using hb
    rcases e' with z | z
    · rw [z]; exact ⟨_, he, fun v q => nomatch q⟩
    · rw [z]; exact ⟨o, ho, fun v q => by rw [hd] at q; cases q⟩
  keep := fun i h h' st k => let ⟨⟨old, he⟩, hi, hne⟩ := st; ⟨⟨old, k e (by simp) _ he⟩, hi.at fun o q => k it (by simp) o q, hne⟩
  item := by
    intro X hP hw hK hc i pins s σ H E I hf st hg
    subst hP hw hK
    obtain ⟨⟨old, he⟩, hit, hne⟩ := st
    obtain ⟨xs, x, hq, hx⟩ := hg
    obtain ⟨its, rv, p, hz⟩ := I.tuple hq
    obtain ⟨u, hu, ru⟩ := rv.get hx
    have hel : e < s.heap.objs.size := Heap.lt_size he
    have hil : it < s.heap.objs.size := by obtain ⟨_, q, _⟩ := hit; exact Heap.lt_size q
    have hai : a ≠ it := fun z => by
      obtain ⟨o, h1, h2, n, h3⟩ := p
      obtain ⟨o', g1, g2, g3⟩ := hit
      rw [z] at h1; rw [h1] at g1; cases g1; rw [h3] at g3; cases g3
    have hae : a ≠ e := fun z => by
      obtain ⟨o, h1, h2, n, h3⟩ := p
      rw [z] at h1; cases Option.some.inj (h1.symm.trans he); cases h3
    have D := Draws.tuple (prog := X.prog) (w := X.w) (A := X.A.in1) (I.ok.hd hc) it a hai its.toArray
    have hi : i < its.toArray.size := by
      have := (List.getElem?_eq_some_iff.mp hu).1
      simpa using this
    refine wpAny_pyNext_enum_itemD D he ⟨hit, p⟩ hi hne (by simp [hne, Ne.symm hae]) fun y h' tk hy ho hst' hT hsz hk => ?_
    have hyu : y = u := by
      have hu' : its.toArray[i]? = some u := by simpa using hu
      rw [hu'] at hy; exact (Option.some.inj hy).symm
    subst hyu
    refine ⟨_, rfl, wpAny_letOwnedTupleGo_enum (s := { s with heap := h', toks := tk + 1 }) ho fun h'' he' sb => ?_⟩
    have hT2 : h''.get? s.heap.objs.size = some { cls := .type "tuple", data := .seq #[.int i tk, y] } := (sb.2 _ (Nat.ne_of_gt hel)).trans hT
    have new : ObjOk X.prog X.w (upd H s.heap.objs.size (.tup [.int (i : Nat), x])) h'' s.heap.objs.size (.tup [.int (i : Nat), x]) :=
      ⟨by show 2 ≤ sizeLine; decide, [.int i tk, y], .cons ⟨_, rfl⟩ (.cons ru .nil), ⟨_, hT2, rfl, _, rfl⟩⟩
    have I1 : Inv X pins σ (upd H s.heap.objs.size (.tup [.int (i : Nat), x])) { s with heap := h'', toks := tk + 1 } :=
      I.turnedNew (ch := [e, it]) (fun b ob hb q => (sb.2 b (fun z => hb (by simp [z]))).trans (hk b ob (fun z => hb (by simp [z])) (fun z => hb (by simp [z])) q)) hf (Nat.le_refl _) new
    refine ⟨.ref s.heap.objs.size, _, I1, rfl, ⟨_, x, rfl, I.hok.fresh (Nat.le_refl _), rfl, fun ys hy => by rw [I.tuple_inj hy hq]; exact hx⟩, ⟨⟨y, ?_⟩, hst'.1.at fun o q => (sb.2 it (Ne.symm hne)).trans q, hne⟩, fun b hb => ?_⟩
    · have e1 : ((i + 1 : Nat) : Int) = (i : Int) + 1 := by omega
      rw [e1]; exact he'
    · have hb' : b < s.heap.objs.size := by
        have e' : b = e ∨ b = it := by simpa using hb
        rcases e' with z | z
        · rw [z]; exact hel
        · rw [z]; exact hil
      rw [upd_ne (Nat.ne_of_lt hb')]
      exact (hf b hb).1
  done := by
    intro X hP hw hK hc i pins s σ H E I hf st hg
    subst hP hw hK
    obtain ⟨⟨old, he⟩, hit, hne⟩ := st
    obtain ⟨xs, hq, hx⟩ := hg
    obtain ⟨its, rv, p, hz⟩ := I.tuple hq
    obtain ⟨f0, f1, f2, f3, f4, f5⟩ := hf it (by simp)
    have hl := rv.length
    have hai : a ≠ it := fun z => by
      obtain ⟨o, h1, h2, n, h3⟩ := p
      obtain ⟨o', g1, g2, g3⟩ := hit
      rw [z] at h1; rw [h1] at g1; cases g1; rw [h3] at g3; cases g3
    have hT : s.TypeIs (.ref e) "enumerate" := ⟨_, he, rfl⟩
    unfold pyNext
    refine wpAny_bind (wpAny_attempt (wpAny_callSpecial?_slot (name := Str.ofString "__next__") hT F.slot_enumerate_next
      (wpAny_call_entry F.slot_enumerate_next hT F.entry_enumerate_next ?_ (F.args_enumerate_next_1 _))))
    show wpAny _ _ (field (.ref e) 2 >>= _) _ _ _
    refine wpAny_bind (wpAny_field he rfl (x := .ref it) rfl ?_)
    refine wpAny_bind (wpAny_nextOf_tuple_end (items := its.toArray) (show X.A.in1.handled = none from I.ok.hd hc) hit p (by simp; omega) fun h' x he' hx' => ?_)
    obtain ⟨o, ho, hcl⟩ := hx'
    refine wpAny_bind (wpAny_isInstance (T := "StopIteration") (b := true) ⟨o, ho, hcl⟩ isSubtype_stop ?_)
    exact wpAny_pure ⟨rfl, I.turned (t' := s.toks) (fun b o hb q => he' b o hb q) f0 f1 f3 f4 f5⟩
  self := fun A i s Q E st h => let ⟨⟨_, he⟩, _⟩ := st; wpAny_pyIter_enum he h
def iEnumT (K : PySem.W.Frag) (ta : TA) : TI := fun σ H R => ta σ H fun vs H1 => ∃ a xs, vs = [.ref a] ∧ SqT K H1 a xs ∧ R (IteT K a) H1
theorem pi_enumT {X : Cx} {e : Expr} {ta : TA} {p pos tpos : Pos} {elts : List Expr} {kk : Nat} (hg : Gl X "enumerate") (hm : X.mg "enumerate" = none) (ha : PA X [e] ta) (hs : starEach [e] X.env = [(false, eval e X.env)] := by rfl) :
    PI X (.Tuple elts kk tpos) (.Call (.Name "enumerate" p) [e] [] pos) (iEnumT X.K ta) := by
  refine ⟨fun pins s σ H R I h => ?_⟩
  refine Call_ (ld_blt I hg hm boot_enumerate (PyProof.Rows.callWith_type1 (thn (ha.run pos pins s σ H _ I h) fun us s1 ⟨vs, H1, I1, r1, q1⟩ => ?_) hs rfl))
  obtain ⟨a, xs, ex, hq, q⟩ := q1
  subst ex
  cases r1 with
  | cons r rr =>
    cases rr
    cases r
    obtain ⟨its, rv, p', hz⟩ := I1.tuple hq
    refine enum_begins1 (begins_tuple a its.toArray) p' fun h' he hit hsz hk => wpAny_pyIter_enum he ?_
    have I2 : Inv X pins σ H1 { s1 with heap := h' } := I1.kept (t' := s1.toks) hk
    refine ⟨s1.heap.objs.size + 1, [s1.heap.objs.size + 1, s1.heap.objs.size], _, _, H1, rfl, I2, turn_enumT a (s1.heap.objs.size + 1) s1.heap.objs.size, ⟨⟨.none, he⟩, ⟨_, hit, rfl, rfl⟩, Nat.succ_ne_self _⟩, fun b hb => ?_, q⟩
    have e' : b = s1.heap.objs.size + 1 ∨ b = s1.heap.objs.size := by simpa using hb
    have hle : s1.heap.objs.size ≤ b := by
      rcases e' with z | z
      · rw [z]; exact Nat.le_add_right _ _
      · rw [z]; exact Nat.le_refl _
    exact I1.fpOk hle (I1.hok.fresh hle)
section
variable {K : PySem.W.Frag} {σ : L2.St} {H : Hp} {D : Ends} {tb : TS} {g : TG} {a : Addr} {R : It → Hp → Prop} {as : TA}
def rEnT (K : PySem.W.Frag) (vs : List V) (H : Hp) (R : It → Hp → Prop) : Prop := ∃ a xs, vs = [.ref a] ∧ SqT K H a xs ∧ R (IteT K a) H
theorem g_iET (h : as σ H fun vs H1 => rEnT K vs H1 R) : iEnumT K as σ H R := h
theorem g_renT {xs : List V} (h : SqT K H a xs) (c : R (IteT K a) H) : rEnT K [.ref a] H R := ⟨a, xs, rfl, h, c⟩
theorem f_enumT {xs : List V} (Pv : Nat → L2.St → Hp → Prop) (h0 : Pv 0 σ H) (hl : ∀ i σ H, i ≤ xs.length → Pv i σ H → SqT K H a xs)
    (hs : ∀ i x T σ H H', xs[i]? = some x → Pv i σ H → H T = none → Fr [] H H' → H' T = some (.tup [.int (i : Nat), x]) → g (.ref T) σ H' fun σ2 H2 => tb { D with nx := Pv (i + 1), ct := Pv (i + 1), bk := D.nx } σ2 H2) (hd : ∀ σ H, Pv xs.length σ H → D.nx σ H) : ForGo (IteT K a) g tb D σ H := by
  refine ⟨fun i m σ H => m = xs.length - i ∧ i ≤ xs.length ∧ Pv i σ H, ⟨xs.length, rfl, Nat.zero_le _, h0⟩, ?_⟩
  rintro i m σ H ⟨rfl, hi, p⟩
  have qx := hl i σ H hi p
  by_cases hlt : i < xs.length
  · have hx : xs[i]? = some xs[i] := List.getElem?_eq_getElem hlt
    refine .inr ⟨⟨xs, _, qx, hx⟩, Pv (i + 1), fun σ' H' p' => ⟨xs.length - (i + 1), by omega, rfl, hlt, p'⟩, fun v H' y => ?_⟩
    obtain ⟨T, x', rfl, hT, rfl, f1⟩ := y
    exact hs i x' T σ H _ (f1 xs qx) p hT (Fr.new hT) upd_same
  · have e : i = xs.length := by omega
    subst e
    exact .inl ⟨⟨xs, qx, Nat.le_refl _⟩, hd σ H p⟩
/-! small words -/
variable {Q : VK} {te : TE} {x : V}
def rIntB : List V → Hp → VK → Prop := fun xs H Q => ∃ k, xs = [.bl k] ∧ Q (.int (if k then 1 else 0)) H
theorem b_intB {X : Cx} : CallR X (.type "int") rIntB := fun pins s σ H xs us Q I r h => call_int1 pins s σ H xs us Q I r (.inr h)
theorem g_intB {k : Bool} (h : Q (.int (if k then 1 else 0)) H) : rIntB [.bl k] H Q := ⟨k, rfl, h⟩
theorem g_slT {xs : List V} {lo hi : Option Int} (h : SqT K H a xs) (n : ¬ (HT.sIx xs.length 0 lo = 0 ∧ HT.sIx xs.length xs.length hi = xs.length)) (q : ∀ l H', H l = none → Fr [] H H' → H' l = some (.tup (cutV xs lo hi)) → Q (.ref l) H') : rSlT K (.ref a) lo hi H Q :=
  ⟨a, xs, rfl, h, n, fun l hl => q l _ hl (Fr.new hl) upd_same⟩
theorem cut_tail {x : V} {xs : List V} : cutV (x :: xs) (some 1) none = xs := by
  unfold cutV
  rw [HT.sIx_none, show (some (1 : Int)) = some (((1 : Nat) : Int)) from rfl, HT.sIx_nat, List.length_cons, Nat.min_eq_left (Nat.succ_le_succ (Nat.zero_le _)), List.drop_one, List.tail_cons]
  exact List.take_of_length_le (by omega)
theorem g_sl1 {x : V} {xs : List V} (h : SqT K H a (x :: xs)) (q : ∀ l H', H l = none → Fr [] H H' → H' l = some (.tup xs) → Q (.ref l) H') : rSlT K (.ref a) (some 1) none H Q := by
  refine g_slT h (fun z => ?_) fun l H' n f e => q l H' n f (by rw [cut_tail] at e; exact e)
  have z1 := z.1
  rw [show (some (1 : Int)) = some (((1 : Nat) : Int)) from rfl, HT.sIx_nat, List.length_cons, Nat.min_eq_left (Nat.succ_le_succ (Nat.zero_le _))] at z1
  exact absurd z1 (by decide)
theorem g_un {r : V → Hp → VK → Prop} (h : te σ H fun x H1 => r x H1 Q) : tUn r te σ H Q := h
abbrev rNeg : V → Hp → VK → Prop := rU fun i => .int (-i)
theorem g_neg {i : Int} (h : Q (.int (-i)) H) : rNeg (.int i) H Q := ⟨i, rfl, h⟩
theorem g_trC {P : Bool → Prop} {x : V} {xs : List V} (h : SqL K H a (x :: xs)) (q : P true) : ∃ k, TruV K (.ref a) H k ∧ P k := ⟨true, .inl ⟨x :: xs, h, rfl⟩, q⟩
theorem g_trN {P : Bool → Prop} (h : SqL K H a []) (q : P false) : ∃ k, TruV K (.ref a) H k ∧ P k := ⟨false, .inl ⟨[], h, rfl⟩, q⟩
end
end Lw

namespace Lw
open PySem PySem.Spec PyProof.Rows L2
/-! ### x in a tuple of data -/
section
variable {X : Cx} {K : PySem.W.Frag} {H : Hp} {Q : VK} {x y : V} {d e : PyData} {ds : List PyData}
def rInDT (K : PySem.W.Frag) : R2 := fun x y H Q => ∃ d ds, Dp K H x d ∧ Dp K H y (.tuple ds) ∧ d.canLay0 = true ∧ PyData.canLayAll0 ds = true ∧ d.depth ≤ 60 ∧ Q (.bl (ds.any fun z => PyData.eqv z d)) H
theorem op_inDT (hu : X.A.units + 64 < cLine) : OpR X (compareOp .In) (rInDT X.K) := by
  intro pins s σ H x y v u Q I rx ry h
  obtain ⟨d, ds, hd, he, sd, se, sz, q⟩ := h
  obtain ⟨as, r1⟩ := Dp.reads I d x v hd rx
  obtain ⟨bs, r2⟩ := Dp.reads I (.tuple ds) y u he ry
  have h2 : min (PyData.depthAll ds) d.depth ≤ d.depth := Nat.min_le_right _ _
  exact SeqAt.in_tuple_reads r2 r1 se sd (by omega) ⟨.bl _, H, I, rfl, q⟩
theorem g_inDT (dx : Da H x d) (dy : Da H y (.tuple ds)) (s1 : d.canLay0 = true) (s2 : PyData.canLayAll0 ds = true) (hz : d.depth ≤ 60) (q : Q (.bl (ds.any fun z => PyData.eqv z d)) H) : rInDT K x y H Q :=
  ⟨d, ds, Da.dp _ _ dx, Da.dp _ _ dy, s1, s2, hz, q⟩
theorem g_eqDD (dx : Da H x d) (dy : Da H y e) (s1 : SeqAt.shaped d = true) (s2 : SeqAt.shaped e = true) (q : Q (.bl (PyData.eqv d e)) H) : rEqD K x y H Q := ⟨d, e, Da.dp _ _ dx, Da.dp _ _ dy, s1, s2, q⟩
/-! ### slices that may be whole -/
theorem g_slA {a : Addr} {xs : List V} {lo hi : Option Int} (h : SqT K H a xs) (q1 : HT.sIx xs.length 0 lo = 0 ∧ HT.sIx xs.length xs.length hi = xs.length → Q (.ref a) H)
    (q2 : ¬ (HT.sIx xs.length 0 lo = 0 ∧ HT.sIx xs.length xs.length hi = xs.length) → ∀ l H', H l = none → Fr [] H H' → H' l = some (.tup (cutV xs lo hi)) → Q (.ref l) H') : rSlA K (.ref a) lo hi H Q :=
  ⟨a, xs, rfl, h, q1, fun n l hl => q2 n l _ hl (Fr.new hl) upd_same⟩
/-! ### list of a dict with tuple keys -/
def rListDT : List V → Hp → VK → Prop := fun xs H Q => ∃ d kvs, xs = [V.ref d] ∧ Rd H d (.dT kvs) ∧ ∀ p bs, H p = none → IsKeys H kvs bs → Q (.ref p) (upd H p (.lst (bs.map V.ref)))
theorem b_listDT (hc : X.calm = true) : CallR X (.type "list") rListDT := call_list_dT hc
theorem g_listDT {a : Addr} {kvs : List (List Key × V)} (h : H a = some (.dT kvs)) (q : ∀ p bs H', H p = none → Fr [] H H' → IsKeys H kvs bs → H' p = some (.lst (bs.map V.ref)) → Q (.ref p) H') : rListDT [.ref a] H Q :=
  ⟨a, kvs, rfl, .inl h, fun p bs n k => q p bs _ n (Fr.new n) k upd_same⟩
end
/-! l.extend(m) -/
theorem g_extend {H : Hp} {Q : VK} {l b : Addr} {xs zs : List V} (h : H l = some (.lst xs)) (h2 : H b = some (.lst zs)) (hl : xs.length + zs.length ≤ sizeLine) (q : ∀ H', Fr [l] H H' → H' l = some (.lst (xs ++ zs)) → Q .non H') : rExtend (.ref l) [.ref b] H Q :=
  ⟨l, b, xs, zs, rfl, rfl, h, h2, hl, q _ (Fr.put h trivial) upd_same⟩
/-! frames -/
theorem Fr.in1 {l : List Addr} {a : Addr} {H H' : Hp} (f : Fr [a] H H') (h : a ∈ l) : Fr l H H' := f.mono fun x hx => by rw [List.mem_singleton.mp hx]; exact h
theorem Fr.in2 {l : List Addr} {a b : Addr} {H H' : Hp} (f : Fr [a, b] H H') (h : a ∈ l) (h2 : b ∈ l) : Fr l H H' := f.mono fun x hx => by
  rcases List.mem_cons.mp hx with q | q
  · rw [q]; exact h
  · rw [List.mem_singleton.mp q]; exact h2
theorem Fr.back1 {l : List Addr} {p : Addr} {u : HO} {H H' : Hp} (f : Fr (p :: l) H H') (h : H p = some u) (h' : H' p = some u) : Fr l H H' := ⟨fun a o e n => by
  by_cases z : a = p
  · rw [z] at e ⊢; rw [h] at e; cases e; exact h'
  · exact f.keep a o e (nin1 z n), f.tup⟩
end Lw

namespace Lw
open PySem PySem.Spec PyProof.Rows L2
/-! ### {t: v}, t a tuple -/
def tDispT1 (tk tv : TE) : TE := fun σ H Q => ∀ p, H p = none → tk σ (upd H p (.dT [])) fun x H1 => tv σ H1 fun y H2 => H2 p = some (.dT []) ∧ ∃ (b : Addr) (k : List Key), x = .ref b ∧ H2 b = some (.tup (k.map kV)) ∧ Q (.ref p) (upd H2 p (.dT [(k, y)]))
theorem pe_dispT1 {X : Cx} {k v : Expr} {pos : Pos} {tk tv : TE} (hu : X.A.units + 1 < cLine) (hk : PE X k tk) (hv : PE X v tv) : PE X (.Dict [some k] [v] pos) (tDispT1 tk tv) := by
  refine ⟨fun pins s σ H Q I q => ?_⟩
  have hn := I.hok.fresh (Nat.le_refl s.heap.objs.size)
  have I1 := I.laid (a := s.heap.objs.size) (o := .dT []) (h' := s.heap.push { cls := .type "dict", data := .dict #[] }) (t' := s.toks) (fun _ _ q => Heap.get?_push_of_some _ q) (Nat.le_refl _) (dt_empty s.heap I.big)
  rw [arm_eval_Dict, zip_pairTrees [some k] [v] X.env pos rfl rfl, dictDisplay_pairs _ (by simp [pairTrees]) (by simp [pairTrees])]
  refine wpAny_bind (wpAny_standAt (wpAny_bind (wpAny_subDictH (knd := tupleKind (mixKind X.prog X.w)) (Q := fun d s' => wpAny (model X.prog X.w) X.A (pure (Value.ref d)) _ X.xe s') (show (tupleKind (mixKind X.prog X.w)).room X.A from Nat.lt_of_le_of_lt (Nat.le_succ _) hu) (by simp [pairTrees]) ?_)))
  refine pairTrees_cons_walk (thn (hk.run pins _ σ _ _ I1 (q _ hn)) fun u s1 ⟨x, H1, I2, rx, q1⟩ => thn (hv.run pins s1 σ H1 _ I2 q1) fun w2 s2 ⟨y, H2, I3, ry, e, b, kk, ex, eb, q2⟩ => pairTrees_nil_walk ?_)
  subst ex
  obtain rfl : u = Value.ref b := rx
  obtain ⟨z, hd, xs, rel, dd⟩ := dt_of I3.hok e
  cases rel
  refine ⟨[(kk, b, w2)], ⟨rfl, rfl, key_of I3.hok eb, True.intro⟩, dd, fun h' tk' dd' hs => wpAny_pure ⟨.ref s.heap.objs.size, _, ?_, rfl, q2⟩⟩
  obtain ⟨qo, es, ep, hq, h2, h3, h4, _, h5⟩ := dd'
  have r0 : KT H2 [(kk, y)] (storedH [] kk b w2) := KT.put (kvs := []) .nil kk eb ry
  refine d_write I3 (by rw [e]; exact True.intro) hs ⟨qo, hq⟩ ⟨Nat.le_of_ble_eq_true rfl, hd, _, r0.keeps fun c ys ec => ?_, qo, es, ep, hq, h2, h3, h4, h5⟩
  rw [upd_ne (ne_of ec e (fun z => nomatch z))]
  exact ec
section
variable {σ : L2.St} {H : Hp} {Q : VK} {tk tv : TE}
def rDs1 (p : Addr) (x y : V) (H2 : Hp) (Q : VK) : Prop := H2 p = some (.dT []) ∧ ∃ (b : Addr) (k : List Key), x = .ref b ∧ H2 b = some (.tup (k.map kV)) ∧ Q (.ref p) (upd H2 p (.dT [(k, y)]))
theorem g_dispT1 (h : ∀ p H0, H p = none → Fr [] H H0 → H0 p = some (.dT []) → tk σ H0 fun x H1 => tv σ H1 fun y H2 => rDs1 p x y H2 Q) : tDispT1 tk tv σ H Q := fun p hp => h p _ hp (Fr.new hp) upd_same
theorem g_rds1 {p b : Addr} {y : V} (k : List Key) (h : H p = some (.dT [])) (e : H b = some (.tup (k.map kV))) (q : ∀ H3, Fr [p] H H3 → H3 p = some (.dT [(k, y)]) → Q (.ref p) H3) : rDs1 p (.ref b) y H Q := ⟨h, b, k, rfl, e, q _ (Fr.put h trivial) upd_same⟩
end
/-! ### a new dict that is only walked: it is locked for good -/
def tFreeze (td : TE) : TE := fun σ H Q => td σ H fun x H1 => ∃ d u, x = .ref d ∧ H1 d = some u ∧ Mut (some u) ∧ ∀ od, Q x (upd H1 d (.frz od u))
theorem pe_freeze {X : Cx} {e : Expr} {td : TE} (h : PE X e td) : PE X e (tFreeze td) := by
  refine ⟨fun pins s σ H Q I hw => ?_⟩
  refine thn (h.run pins s σ _ _ I hw) fun v s1 ⟨x, H1, I1, r, d, u, ex, hd, mu, q⟩ => ?_
  obtain ⟨od, I2⟩ := I1.lock hd mu
  exact ⟨x, _, I2, r, q od⟩
def rFrz (x : V) (H : Hp) (Q : VK) : Prop := ∃ d u, x = V.ref d ∧ H d = some u ∧ Mut (some u) ∧ ∀ od, Q x (upd H d (.frz od u))
theorem g_freeze {td : TE} {σ : L2.St} {H : Hp} {Q : VK} (h : td σ H fun x H1 => rFrz x H1 Q) : tFreeze td σ H Q := h
theorem g_rfrz {d : Addr} {u : HO} {H : Hp} {Q : VK} (h : H d = some u) (m : Mut (some u)) (nt : notTup u) (c : ∀ od H', Fr [d] H H' → H' d = some (.frz od u) → Q (.ref d) H') : rFrz (.ref d) H Q := ⟨d, u, rfl, h, m, fun od => c od _ (Fr.put h nt) upd_same⟩
end Lw

namespace Lw
open PySem PySem.W PySem.Calls PyProof.Rows L2
/-! ### sorted of tuples with whole numbers at their heads, each head of one tuple alone -/
structure Heads (ds : List PyData) : Prop where
  tup : ∀ d, d ∈ ds → ∃ (k : Int) (r : List PyData), d = .tuple (.int k :: r)
  one : ∀ (k : Int) (r r' : List PyData), PyData.tuple (.int k :: r) ∈ ds → PyData.tuple (.int k :: r') ∈ ds → r = r'
  self : ∀ d, d ∈ ds → alike d d = true
theorem heads_unique {h : Heap} {ds : List PyData} (hh : Heads ds) {v : Value} {d d' : PyData} {as bs : List Addr} (hd : d ∈ ds) (hd' : d' ∈ ds) (r : Reads h v d as) (r' : Reads h v d' bs) : d = d' := by
  obtain ⟨k, x, rfl⟩ := hh.tup d hd
  obtain ⟨k', x', rfl⟩ := hh.tup d' hd'
  cases r with
  | @tuple l o xs n _ _ h1 h2 h3 h4 =>
    cases r' with
    | @tuple _ o' xs' n' _ _ k1 k2 k3 k4 =>
      rw [h1] at k1
      cases k1
      rw [h3] at k3
      cases k3
      cases q : xs.toList with
      | nil => rw [q] at h4; cases h4
      | cons f fr =>
        rw [q] at h4 k4
        cases h4 with
        | cons a1 a2 =>
          cases k4 with
          | cons b1 b2 =>
            have e : k = k' := by cases a1; cases b1; rfl
            subst e
            rw [hh.one k x x' hd hd']
theorem headKind_some {h : Heap} {ds : List PyData} (hh : Heads ds) {v : Value} {d : PyData} {as : List Addr} (hd : d ∈ ds) (r : Reads h v d as) : (dataKind h ds).keyOf v = some (keyToks d) := by
  have q : ∃ d, d ∈ ds ∧ ∃ as, Reads h v d as := ⟨d, hd, as, r⟩
  have e : (dataKind h ds).keyOf v = some (keyToks q.choose) := by
    show (open Classical in if q : ∃ d, d ∈ ds ∧ ∃ as, Reads h v d as then some (keyToks q.choose) else none) = _
    rw [dif_pos q]
  obtain ⟨h1, as', h2⟩ := q.choose_spec
  rw [e, heads_unique hh h1 hd h2 r]
section
variable {prog : Program} {w : World} {A : Around} {s : Shared}
theorem katLex_heads {b fin : Bool} {Q : Bool → Shared → Prop} {k k' : Int} {r r' : List PyData} {vs ws : List Value} {as bs : List Addr} (hk : k ≠ k') (ra : ReadsAll s.heap vs (.int k :: r) as) (rb : ReadsAll s.heap ws (.int k' :: r') bs)
    (hu : A.units < cLine) (hq : Q (lexLt itemOrd (keyToksAll (.int k :: r)) (keyToksAll (.int k' :: r'))) s) : KatLex prog w A b fin Q (vs.zip ws) 0 s := by
  have hx : PyData.eqv (.int k) (.int k') = false := by simp [PyData.eqv, hk]
  have h1 : alike (.int k) (.int k') = true := by simp [alike]
  have hu' : A.units + min (PyData.int k).depth (PyData.int k').depth < cLine := by simpa [PyData.depth] using hu
  cases ra with
  | cons a1 a2 =>
    cases rb with
    | cons b1 b2 =>
      rw [List.zip_cons_cons]
      refine kat_cons (eqAt_alike (.int k) (.int k') A s _ _ _ _ a1 b1 h1 hu' prog w _ _ ?_)
      rw [dataLt_all_no h1 hx] at hq
      rw [hx]
      exact kat_no (oneLt_alike (fun _ t => by simp) a1 b1 h1 (by simp) hu' hq)
theorem SortsAt.heads {vs : List Value} {ds : List PyData} (e : EachIs (fun v d => ∃ as, Reads s.heap v d as) vs ds) (hh : Heads ds) (hu : ∀ d, d ∈ ds → A.units + d.depth < cLine) : SortsAt prog w A s (dataKind s.heap ds) vs := by
  have room : ∀ {d d' : PyData}, d ∈ ds → A.units + min d.depth d'.depth < cLine := fun {d d'} hd => Nat.lt_of_le_of_lt (Nat.add_le_add_left (Nat.min_le_left _ _) _) (hu d hd)
  have ht : ∀ d, d ∈ ds → ∃ x r, d = PyData.tuple (x :: r) := fun d hd => by obtain ⟨k, r, e⟩ := hh.tup d hd; exact ⟨_, _, e⟩
  refine ⟨fun v hv => ?_, ?_⟩
  · obtain ⟨d, hd, as, r⟩ := e.left v hv
    exact ⟨_, headKind_some hh hd r⟩
  · refine ⟨tuples' (dataType (.int 0) != Value.type "tuple"), ?_, fun h2 E Q hq => ?_⟩
    · intro E x y a b Q ha hb hq
      obtain ⟨d, as, hd, ra, rfl⟩ := dataKind_inv ha
      obtain ⟨d', as', hd', rb, rfl⟩ := dataKind_inv hb
      have hroom := room (d' := d') hd
      have hself := hh.self d hd
      obtain ⟨k1, r1, rfl⟩ := hh.tup d hd
      obtain ⟨k2, r2, rfl⟩ := hh.tup d' hd'
      have hq' : Q (dataLt (.tuple (.int k1 :: r1)) (.tuple (.int k2 :: r2))) s := hq
      rw [dataLt_tuple] at hq'
      cases ra with
      | @tuple l o xs n _ _ h1 h2 h3 h4 =>
        cases rb with
        | @tuple l' o' xs' n' _ _ k1' k2' k3' k4' =>
          have n1 : xs.size = (PyData.int k1 :: r1).length := by simpa using SeqAt.ReadsAll.length _ _ _ h4
          have n2 : xs'.size = (PyData.int k2 :: r2).length := by simpa using SeqAt.ReadsAll.length _ _ _ k4'
          by_cases hk : k1 = k2
          · subst hk
            have e0 := hh.one k1 r1 r2 hd hd'
            subst e0
            refine kat_lt h1 h3 k1' k3' (katLex_alike (.int k1 :: r1) (.int k1 :: r1) 0 _ _ _ _ h4 k4' (by simpa [alike] using hself) (by have q := SeqAt.room_in hroom; omega) (fun hb _ x r t ex => ?_) (by rw [n1, n2]) hq')
            obtain ⟨rfl, rfl⟩ := List.cons.inj ex
            exact fun q => by cases q
          · refine kat_lt h1 h3 k1' k3' (katLex_heads hk h4 k4' ?_ hq')
            have q := SeqAt.room_in hroom
            omega
    · obtain ⟨fs, t1, t2, t3⟩ := each_katTups e ht
      refine kat_kind (T := dataType (.int 0)) t1 (by omega) (fun f hf => ?_) (beq_self_eq_true _) hq
      obtain ⟨x, r, as, m1, m2⟩ := t3 f hf
      obtain ⟨k, r', ek⟩ := hh.tup _ m1
      injection ek with ek
      injection ek with ek1 ek2
      have hx : dataType x = dataType (.int 0) := by rw [ek1]; rfl
      rw [← hx]
      exact looks_reads m2
theorem each_keysH {h : Heap} {ds : List PyData} (hh : Heads ds) {vs : List Value} (e : EachIs (fun v d => ∃ as, Reads h v d as) vs ds) : EachIs (fun v d => (dataKind h ds).keyOf v = some (keyToks d)) vs ds :=
  (each_mem e).mono fun _ _ ⟨⟨_, r⟩, hd⟩ => headKind_some hh hd r
variable {E : Value → Shared → Prop} {β : Type} {vs : List Value} {bs : List β} {enc : β → PyData} {R : Value → β → Prop}
theorem sorted_heads {l : Addr} {Q : Value → Shared → Prop} (hl : s.heap.IsList l vs.toArray) (e : EachIs R vs bs) (er : EachIs (fun v b => ∃ as, Reads s.heap v (enc b) as) vs bs) (hh : Heads (bs.map enc)) (hL : bs.length ≤ sizeLine)
    (hu : ∀ b, b ∈ bs → A.units + 2 + (enc b).depth < cLine) (h : ∀ out, out.length = bs.length → EachIs R out (bs.mergeSort (dataLe false enc)) → Q (.ref (s.heap.objs.size + 1)) { s with heap := sortedAll s.heap vs (List.toArray out) }) :
    wpAny (model prog w) A (call (.builtin "sorted") [.ref l]) Q E s := by
  have er' : EachIs (fun v b => ∃ as, Reads (sortingHeap (copyHeap s.heap vs) (s.heap.objs.size + 1) vs) v (enc b) as) vs bs := er.mono fun _ _ ⟨as, r⟩ => ⟨as, PyProof.Rows.Reads.keeps (fun _ _ => sorting_copy_old) r⟩
  have em := each_map (R := fun v d => ∃ as, Reads (sortingHeap (copyHeap s.heap vs) (s.heap.objs.size + 1) vs) v d as) enc er'
  exact sorted_vals hl (SortsAt.heads (s := { s with heap := sortingHeap (copyHeap s.heap vs) (s.heap.objs.size + 1) vs }) em hh (bound_map hu)) (by rw [e.length]; exact hL)
    (h _ (by rw [sortVals_length false rfl]; exact e.length) (sortVals_each (κ := dataKind (sortingHeap (copyHeap s.heap vs) (s.heap.objs.size + 1) vs) (bs.map enc)) (fun b => keyToks (enc b)) e (each_of_map enc (each_keysH hh em))))
end
def rSortH (K : PySem.W.Frag) : List V → Hp → VK → Prop := fun vs H Q => ∃ (a : Addr) (bs : List (V × PyData)), vs = [V.ref a] ∧ SqL K H a (bs.map (·.1)) ∧ (∀ b ∈ bs, Da H b.1 b.2) ∧ Heads (bs.map (·.2)) ∧ (∀ b ∈ bs, b.2.depth ≤ 60) ∧
  ∀ p, H p = none → Q (.ref p) (upd H p (.lst ((bs.mergeSort (dataLe false (·.2))).map (·.1))))
theorem b_sortH {X : Cx} (hu : X.A.units + 64 < cLine) : CallR X (.builtin "sorted") (rSortH X.K) := by
  intro pins s σ H vs us Q I r h
  obtain ⟨a, bs, rfl, hs, hd, ha, hdp, q⟩ := h
  obtain ⟨its, rv, hl, hz⟩ := I.list hs
  obtain ⟨u, rfl, ru⟩ := vals1 r
  obtain rfl : u = Value.ref a := ru
  obtain ⟨e1, e2⟩ := eachV I bs its rv hd
  rw [List.length_map] at hz
  refine sorted_heads (enc := fun b : V × PyData => b.2) hl.isList e1 e2 ha hz (fun b hb => ?_) fun out ho eo => ?_
  · have := hdp b hb
    show X.A.units + 2 + b.2.depth < cLine
    omega
  · obtain ⟨ep, he'⟩ := PyProof.Rows.sortedAll_at s.heap its out.toArray
    have vo := eachB eo
    have hlen : ((bs.mergeSort (dataLe false fun b : V × PyData => b.2)).map (·.1)).length ≤ sizeLine := by rw [List.length_map, List.length_mergeSort]; exact hz
    exact ⟨.ref _, upd H (s.heap.objs.size + 1) (.lst _), I.laid (t' := s.toks) (fun _ _ => PyProof.Rows.sortedAll_old) (Nat.le_succ _) ⟨hlen, out, ep, vo, he'⟩, rfl, q _ (I.hok.fresh (Nat.le_succ _))⟩
theorem g_srtH {K : PySem.W.Frag} {H : Hp} {Q : VK} {a : Addr} {xs : List V} {ds : List PyData} (hs : SqL K H a xs) (hd : DaL H xs ds) (hh : Heads ds) (hdp : ∀ d ∈ ds, d.depth ≤ 60)
    (c : ∀ p H' ys, H p = none → Fr [] H H' → H' p = some (.lst ys) → DaL H ys (srt ds) → Q (.ref p) H') : rSortH K [.ref a] H Q := by
  obtain ⟨z1, z2, z3⟩ := hd.zip
  refine ⟨a, xs.zip ds, rfl, by rw [z1]; exact hs, z3, by rw [z2]; exact hh, fun b hb => hdp b.2 (by rw [← z2]; exact List.mem_map.mpr ⟨b, hb, rfl⟩), fun p hp => ?_⟩
  refine c p _ _ hp (Fr.new hp) upd_same ?_
  have q := DaL.ofBs (H := H) (bs := (xs.zip ds).mergeSort (dataLe false (·.2))) fun b hb => z3 b ((List.mergeSort_perm _ _).mem_iff.mp hb)
  rw [srt_map (fun b : V × PyData => b.2), z2] at q
  exact q
end Lw

namespace Lw
open PySem PySem.Spec PyProof.Rows L2
/-! ### sorted(d) of a dict with few whole numbers as keys -/
def rSortedDI : List V → Hp → VK → Prop := fun xs H Q => ∃ (a : Addr) (kvs : List (Key × V)) (ks : List Int), xs = [V.ref a] ∧ Rd H a (.dK kvs) ∧ kvs.map (·.1) = ks.map Sum.inl ∧ ks.length < 64 ∧
    ∀ (ys : List Int) (p : Addr), ys.Perm ks → ys.Pairwise (· ≤ ·) → H p = none → Q (.ref p) (upd H p (.lst (ys.map V.int)))
theorem b_sortedDI {X : Cx} (hc : X.calm = true) : CallR X (.builtin "sorted") rSortedDI := call_sortedDI hc
theorem g_sortedDI {H : Hp} {Q : VK} {a : Addr} {kvs : List (Key × V)} {ks : List Int} (h : Rd H a (.dK kvs)) (e : kvs.map (·.1) = ks.map Sum.inl) (h64 : ks.length < 64)
    (q : ∀ (ys : List Int) (p : Addr) (H' : Hp), ys.Perm ks → ys.Pairwise (· ≤ ·) → H p = none → Fr [] H H' → H' p = some (.lst (ys.map V.int)) → Q (.ref p) H') : rSortedDI [.ref a] H Q :=
  ⟨a, kvs, ks, rfl, h, e, h64, fun ys p h1 h2 hp => q ys p _ h1 h2 hp (Fr.new hp) upd_same⟩
theorem DkR.keys {H : Hp} {kvs : List (Key × V)} {m : List (Int × PyData)} (r : DkR H kvs m) : kvs.map (·.1) = (m.map (·.1)).map Sum.inl := by
  induction r with
  | nil => rfl
  | cons h _ ih => rw [List.map_cons, List.map_cons, List.map_cons, ih, h.1]
end Lw

namespace Toy
open PySem L2 Lw

/-! ### the steps as one word each -/
local macro_rules | `(tactic| walk_at "ne") => `(tactic| first
  | assumption | exact Ne.symm (by assumption)
  | ((refine' ne_of_none ?h (by assumption)); (first | (case h => walk_at "fact") | fail))
  | ((refine' Ne.symm (ne_of_none ?h (by assumption))); (first | (case h => walk_at "fact") | fail))
  | walk_at "ne2")
local macro_rules | `(tactic| walk_at "nin") => `(tactic| first | exact nin0 | (refine nin1 ?_ ?_; walk_at "ne"; walk_at "nin") | assumption)
local macro_rules | `(tactic| walk_at "fact") => `(tactic| first
  | assumption
  | ((refine' Fr.tupAt (by assumption) ?h); (first | (case h => walk_at "fact") | fail))
  | ((refine' Fr.at0 (by assumption) ?h); (first | (case h => walk_at "fact") | fail))
  | ((refine' Fr.at (by assumption) ?h ?k); (first | (case h => walk_at "fact") | fail); (first | (case k => walk_at "nin") | fail)))
local macro_rules | `(tactic| walk_at "none") => `(tactic| first
  | assumption
  | ((refine' Fr.freeL (by assumption) ?h ?k); (first | (case h => walk_at "none") | fail); (first | (case k => walk_at "nin") | fail)))
local macro_rules | `(tactic| walk_at "mem") => `(tactic| first
  | assumption | exact List.mem_cons_self
  | (refine List.mem_cons_of_mem _ ?_; walk_at "mem"))
local macro_rules | `(tactic| walk_at "frn") => `(tactic| first
  | exact frn0
  | (refine frn1 ?_ ?_; (first | exact Or.inl (by walk_at "mem") | exact Or.inr (by walk_at "none")); walk_at "frn"))
local macro_rules | `(tactic| walk_at "fr") => `(tactic| first
  | assumption
  | exact Fr.refl
  | ((refine' Fr.own ?h (by assumption) ?k); (first | (case h => walk_at "fr") | fail); (first | (case k => walk_at "frn") | fail))
  | (refine Fr.of0 ?_; walk_at "fr"))
local macro_rules | `(tactic| walk_at "sz") => `(tactic| first | exact szM (by omega) | exact szM (by simp only [List.length_map, List.length_append, List.length_cons, List.length_nil]; omega))
local macro_rules | `(tactic| walk_at "sql") => `(tactic| first
  | assumption
  | exact SqL.of (by walk_at "fact")
  | ((refine' Fr.sql (by assumption) ?h ?k); (first | (case h => walk_at "sql") | fail); (first | (case k => walk_at "nin") | fail)))
local macro_rules | `(tactic| walk_at "sqt") => `(tactic| first
  | assumption
  | exact SqT.of (by walk_at "fact"))
local macro_rules | `(tactic| walk_at "ty") => `(tactic| first
  | assumption
  | exact TyX.base TyOf.non
  | exact TyX.base (TyOf.int _)
  | exact TyX.base (TyOf.bl _)
  | exact TyX.base (TyOf.str _)
  | exact TyX.base (TyOf.lst (by walk_at "fact"))
  | exact TyX.base (TyOf.tup (by walk_at "fact"))
  | exact TyX.base (TyOf.dK (by walk_at "fact"))
  | exact TyX.base (TyOf.dT (by walk_at "fact")))
local macro_rules | `(tactic| walk_at "kb") => `(tactic| first | exact kb_NoneType_list | exact kb_NoneType_tuple | exact kb_NoneType_bool | exact kb_NoneType_int | exact kb_NoneType_str | exact kb_NoneType_dict | exact kb_bool_list | exact kb_bool_tuple | exact kb_bool_bool | exact kb_bool_int | exact kb_bool_str | exact kb_bool_dict | exact kb_int_list | exact kb_int_tuple | exact kb_int_bool | exact kb_int_int | exact kb_int_str | exact kb_int_dict | exact kb_str_list | exact kb_str_tuple | exact kb_str_bool | exact kb_str_int | exact kb_str_str | exact kb_str_dict | exact kb_list_list | exact kb_list_tuple | exact kb_list_bool | exact kb_list_int | exact kb_list_str | exact kb_list_dict | exact kb_tuple_list | exact kb_tuple_tuple | exact kb_tuple_bool | exact kb_tuple_int | exact kb_tuple_str | exact kb_tuple_dict | exact kb_dict_list | exact kb_dict_tuple | exact kb_dict_bool | exact kb_dict_int | exact kb_dict_str | exact kb_dict_dict)
local macro_rules | `(tactic| walk_at "new") => `(tactic| intro _ _ _ _ _)
local macro_rules | `(tactic| walk_at "go1") => `(tactic| first
  | with_reducible refine g_seq ?_
  | with_reducible refine g_asg ?_
  | with_reducible refine g_name ?_
  | with_reducible refine g_drop ?_
  | with_reducible refine g_ret ?_
  | with_reducible refine g_for ?_
  | with_reducible refine g_lc ?_
  | with_reducible refine g_iL ?_
  | with_reducible refine g_iT ?_
  | with_reducible refine g_i1 ?_
  | with_reducible refine g_i2 ?_
  | with_reducible refine g_yes ?_
  | with_reducible refine g_ttr ?_
  | ((with_reducible refine' g_riL ?h ?_); (first | (case h => walk_at "sql") | fail))
  | ((with_reducible refine' g_riT ?h ?_); (first | (case h => walk_at "sqt") | fail))
  | ((with_reducible refine' g_ri1 ?h ?_); (first | (case h => (first | exact ⟨by decide, by decide⟩ | exact ⟨by omega, by omega⟩ | exact ⟨by simp only [List.length_map]; omega, by simp only [List.length_map]; omega⟩)) | fail))
  | ((with_reducible refine' g_ri2 ?h ?_); (first | (case h => (first | exact ⟨by decide, by decide, by decide, by decide⟩ | exact ⟨by omega, by omega, by omega, by omega⟩)) | fail))
  | with_reducible refine g_retN ?_
  | with_reducible refine g_next ?_
  | with_reducible refine g_cont ?_
  | with_reducible refine g_brk ?_
  | with_reducible refine g_ifs ?_
  | with_reducible refine g_test ?_
  | with_reducible refine g_tb ?_
  | with_reducible refine g_and ?_
  | with_reducible refine g_or ?_
  | with_reducible refine g_not ?_
  | with_reducible refine g_andV ?_
  | with_reducible refine g_orV ?_
  | with_reducible refine g_notV ?_
  | with_reducible refine g_ifE ?_
  | ((with_reducible refine' g_var ?h ?_); (first | (case h => exact rfl) | fail))
  | with_reducible refine g_c ?_
  | with_reducible refine g_op ?_
  | with_reducible refine g_cb ?_
  | with_reducible refine g_cl ?_
  | with_reducible refine g_nil ?_
  | with_reducible refine g_cons ?_
  | with_reducible refine g_tup ?_
  | with_reducible refine g_lst ?_
  | with_reducible refine g_fld ?_
  | with_reducible refine g_sfld ?_
  | with_reducible refine g_sub1 ?_
  | with_reducible refine g_flda ?_
  | with_reducible refine g_rAdd ?_
  | with_reducible refine g_rSub ?_
  | ((with_reducible refine' g_rfldb ?h ?l ?e ?_); (first | (case h => walk_at "fact") | fail); (first | (case l => exact Nat.le_of_ble_eq_true rfl) | fail); (first | (case e => exact rfl) | fail); intro _ _ _)
  | with_reducible refine g_mt ?_
  | with_reducible refine g_mk ?_
  | ((with_reducible refine g_rmk ?_); intro _ _ _ _ _ _ _ _ _)
  | with_reducible refine g_bm ?_
  | with_reducible refine g_bm0 ?_
  | with_reducible refine g_bl ?_
  | with_reducible refine g_add ?_
  | with_reducible refine g_sub ?_
  | with_reducible refine g_lt ?_
  | with_reducible refine g_le ?_
  | with_reducible refine g_gt ?_
  | with_reducible refine g_ge ?_
  | with_reducible refine g_eqI ?_
  | with_reducible refine g_neI ?_
  | with_reducible refine g_eqS ?_
  | with_reducible refine g_neS ?_
  | with_reducible refine g_eqB ?_
  | with_reducible refine g_isN ?_
  | with_reducible refine g_notN ?_
  | with_reducible refine g_max2 ?_
  | with_reducible refine g_min2 ?_
  | with_reducible refine g_ipI ?_
  | with_reducible refine g_iteT ?_
  | with_reducible refine g_iteF ?_
  | with_reducible refine g_iteNT ?_
  | with_reducible refine g_iteNF ?_
  | ((with_reducible refine' g_aug ?h ?_); (first | (case h => exact rfl) | fail))
  | ((with_reducible refine' g_mod ?h ?_); (first | (case h => (first | decide | omega | assumption | (simp only [List.length_map]; omega))) | fail))
  | ((with_reducible refine' g_div ?h ?_); (first | (case h => (first | exact ⟨by decide, by decide⟩ | assumption)) | fail))
  | ((with_reducible refine' g_pow ?h ?_); (first | (case h => (first | exact ⟨by decide, by decide, by decide⟩ | assumption)) | fail))
  | ((with_reducible refine' g_mul ?h ?_); (first | (case h => (first | exact Or.inr ⟨by decide, by decide⟩ | exact Or.inl ⟨by decide, by decide⟩ | exact Or.inr ⟨by omega, by omega⟩ | exact Or.inl ⟨by omega, by omega⟩ | assumption)) | fail))
  | ((with_reducible refine' g_newT ?h ?_); (first | (case h => exact Nat.le_of_ble_eq_true rfl) | fail); walk_at "new")
  | ((with_reducible refine' g_newL ?h ?_); (first | (case h => exact Nat.le_of_ble_eq_true rfl) | fail); walk_at "new")
  | ((with_reducible refine' g_lenL ?h ?_); (first | (case h => walk_at "sql") | fail))
  | ((with_reducible refine' g_lenT ?h ?_); (first | (case h => walk_at "sqt") | fail))
  | ((with_reducible refine' g_ixL ?h ?k ?_); (first | (case h => walk_at "sql") | fail); (first | (case k => exact rfl) | fail))
  | ((with_reducible refine' g_ixT ?h ?k ?_); (first | (case h => walk_at "sqt") | fail); (first | (case k => exact rfl) | fail))
  | ((with_reducible refine' g_listL ?h ?_); (first | (case h => walk_at "sql") | fail); walk_at "new")
  | ((with_reducible refine' g_listT ?h ?_); (first | (case h => walk_at "sqt") | fail); walk_at "new")
  | ((with_reducible refine' g_tupL ?h ?_); (first | (case h => walk_at "sql") | fail); walk_at "new")
  | ((with_reducible refine' g_bmL ?h ?_); (first | (case h => walk_at "fact") | fail))
  | ((with_reducible refine' g_isi ?h ?k ?_); (first | (case h => walk_at "ty") | fail); (first | (case k => walk_at "kb") | fail))
  | ((with_reducible refine' g_append ?h ?l ?_); (first | (case h => walk_at "fact") | fail); (first | (case l => walk_at "sz") | fail); intro _ _ _)
  | ((with_reducible refine' g_rmt ?h ?l ?_); (first | (case h => walk_at "fact") | fail); (first | (case l => exact rfl) | fail))
  | with_reducible refine g_sl ?_
  | with_reducible refine g_noP ?_
  | with_reducible refine g_part ?_
  | with_reducible refine g_rpart ?_
  | ((with_reducible refine' g_slL ?h ?_); (first | (case h => walk_at "sql") | fail); walk_at "new")
  | walk_at "go2"
  | walk_at "go3"
  | walk_at "go4"
  | walk_at "own")
local macro_rules | `(tactic| walk_at "go") => `(tactic| repeat walk_at "go1")
local macro_rules | `(tactic| walk_at "rdt") => `(tactic| first
  | exact Or.inl (by walk_at "fact")
  | exact Or.inr ⟨_, by walk_at "fact"⟩)
local macro_rules | `(tactic| walk_at "go2") => `(tactic| first
  | with_reducible refine g_dget ?_
  | with_reducible refine g_din ?_
  | with_reducible refine g_dnin ?_
  | with_reducible refine g_dput ?_
  | with_reducible refine g_dget2 ?_
  | with_reducible refine g_dget1 ?_
  | with_reducible refine g_iK ?_
  | with_reducible refine g_iE ?_
  | with_reducible refine g_iZ ?_
  | with_reducible refine g_gcons ?_
  | with_reducible refine g_chain ?_
  | with_reducible refine g_rch ?_
  | with_reducible refine g_isO ?_
  | with_reducible refine g_notO ?_
  | with_reducible refine g_eqO ?_
  | with_reducible refine g_neB ?_
  | ((with_reducible refine' g_ninI ?h ?_); (first | (case h => walk_at "sql") | fail))
  | with_reducible refine g_gnil ?_
  | with_reducible refine g_lstRg ?_
  | ((with_reducible refine' g_gtup ?h ?l ?_); (first | (case h => walk_at "sqt") | fail); (first | (case l => exact rfl) | fail))
  | ((with_reducible refine g_dnew ?_); walk_at "new")
  | ((with_reducible refine g_dnewK ?_); walk_at "new")
  | ((with_reducible refine' g_unl ?h ?_); (first | (case h => walk_at "fact") | fail); intro _ _ _)
  | ((with_reducible refine' g_rdg2 ?h ?_); (first | (case h => walk_at "rdt") | fail))
  | ((with_reducible refine' g_rkt ?h ?_); (first | (case h => walk_at "fact") | fail))
  | ((with_reducible refine' g_ren ?h ?_); (first | (case h => walk_at "sql") | fail))
  | ((with_reducible refine' g_rzp ?h ?k ?_); (first | (case h => walk_at "sql") | fail); (first | (case k => walk_at "sql") | fail))
  | ((with_reducible refine' g_bmT ?h ?_); (first | (case h => walk_at "fact") | fail))
  | ((with_reducible refine' g_clearT ?h ?_); (first | (case h => walk_at "fact") | fail); intro _ _ _)
  | ((with_reducible refine' g_rlrg ?h ?_); (first | (case h => exact RgOk.of_le (by omega) (by omega) (by omega) (by omega)) | fail); walk_at "new"))
local macro_rules | `(tactic| walk_at "go4") => `(tactic| first
  | with_reducible refine g_iET ?_
  | with_reducible refine g_iZA ?_
  | with_reducible refine g_pcons ?_
  | with_reducible refine g_pnil ?_
  | ((with_reducible refine g_disp ?_); walk_at "new")
  | ((with_reducible refine g_dispT1 ?_); walk_at "new")
  | with_reducible refine g_nget ?_
  | with_reducible refine g_nin ?_
  | with_reducible refine g_nnin ?_
  | with_reducible refine g_nget2 ?_
  | with_reducible refine g_nput ?_
  | with_reducible refine g_dpop1 ?_
  | with_reducible refine g_un ?_
  | with_reducible refine g_freeze ?_
  | with_reducible refine g_neg ?_
  | with_reducible refine g_intB ?_
  | with_reducible refine g_daug ?_
  | ((with_reducible refine g_nnew ?_); intro _ _ _ _ _)
  | ((with_reducible refine' g_renT ?h ?_); (first | (case h => walk_at "sqt") | fail))
  | ((with_reducible refine' g_rzaT ?h ?k ?_); (first | (case h => walk_at "sqt") | fail); (first | (case k => walk_at "sqt") | fail))
  | ((with_reducible refine' g_rdg2K ?h ?_); (first | (case h => walk_at "rdt") | fail))
  | ((with_reducible refine' g_rdgS ?h ?l ?_); (first | (case h => walk_at "rdt") | fail); (first | (case l => exact rfl) | fail))
  | ((with_reducible refine' g_rdpS ?h ?l ?e ?_); (first | (case h => walk_at "fact") | fail); (first | (case l => exact Nat.le_of_ble_eq_true rfl) | fail); (first | (case e => exact rfl) | fail); intro _ _ _)
  | ((with_reducible refine' g_rkk ?h ?_); (first | (case h => walk_at "fact") | fail))
  | ((with_reducible refine' g_sl1 ?h ?_); (first | (case h => walk_at "sqt") | fail); walk_at "new"))

def top (i : Nat) : Stmt := PySem.Challenge.pw_manydoors_k09_sellers_ask_and_handle.main.body.getD i (.Pass ⟨0, 0, 0, 0⟩)
abbrev s_nights_of : Stmt := top 1
abbrev s_needs_of : Stmt := top 2
abbrev s_price_of : Stmt := top 3
abbrev s_kept_of : Stmt := top 4
abbrev s_Seller_init : Stmt := inClass (top 6) 0
abbrev s_Seller_bodies : Stmt := inClass (top 6) 1
abbrev s_Seller_answers : Stmt := inClass (top 6) 2
abbrev s_Seller_voucher : Stmt := inClass (top 6) 4
abbrev s_Seller_must_wait : Stmt := inClass (top 6) 5
abbrev s_Seller_lack : Stmt := inClass (top 6) 6
abbrev s_Seller_add : Stmt := inClass (top 6) 8
abbrev s_Seller_prices : Stmt := inClass (top 6) 11
abbrev s_Seller_write : Stmt := inClass (top 6) 12
abbrev s_Seller_cancel : Stmt := inClass (top 6) 9
abbrev s_Seller_keep : Stmt := inClass (top 6) 10
abbrev s_Seller_do : Stmt := inClass (top 6) 7
abbrev s_Seller_ask : Stmt := inClass (top 6) 3
abbrev s_Seller_close : Stmt := inClass (top 6) 14
abbrev s_Seller_reopen : Stmt := inClass (top 6) 15
abbrev s_Seller_handle : Stmt := inClass (top 6) 13
abbrev s_Lmixed : Stmt := top 8
abbrev s_Lnumbers : Stmt := top 9
abbrev s_Ldraw : Stmt := top 10
abbrev s_Lequal : Stmt := top 11
abbrev s_Lall_equal : Stmt := top 12
abbrev s_Lsetup : Stmt := top 13
abbrev s_Lstay : Stmt := top 14
abbrev s_Lparty : Stmt := top 15
abbrev s_Lneeds : Stmt := top 16
abbrev s_Lprice : Stmt := top 17
abbrev s_Lkept : Stmt := top 18
abbrev s_Lseller : Stmt := top 19
abbrev s_Lrow : Stmt := top 20
abbrev s_Ladd : Stmt := top 21
abbrev s_Lless : Stmt := top 22
abbrev s_Lsold : Stmt := top 23
abbrev s_Lchanged : Stmt := top 24
abbrev s_Lmust_wait : Stmt := top 25
abbrev s_Llack : Stmt := top 26
abbrev s_Ldo : Stmt := top 27
abbrev s_Lask : Stmt := top 28
abbrev s_Lgranted : Stmt := top 29
abbrev s_Lopened : Stmt := top 30
abbrev s_Lhandle : Stmt := top 31
abbrev s_Ldeed : Stmt := top 32
abbrev s_Lsame_free : Stmt := top 33
abbrev s_Lsame_rows : Stmt := top 34
abbrev s_Lsame_seller : Stmt := top 35
abbrev s_Lsame_out : Stmt := top 36
abbrev s_Lcells : Stmt := top 37
abbrev s_Lclosing : Stmt := top 38
abbrev s_Lbody : Stmt := top 39
abbrev s_law : Stmt := top 40
/-- where the classes stand -/
structure Ad where
  Seller : Addr
structure Txt (K : PySem.W.Frag) (mg : Str → Option Value) (A : Ad) : Prop where
  b_list : mg "list" = none
  b_range : mg "range" = none
  b_sum : mg "sum" = none
  b_len : mg "len" = none
  b_any : mg "any" = none
  b_sorted : mg "sorted" = none
  b_max : mg "max" = none
  b_all : mg "all" = none
  b_tuple : mg "tuple" = none
  b_zip : mg "zip" = none
  b_isinstance : mg "isinstance" = none
  b_bool : mg "bool" = none
  b_int : mg "int" = none
  b_str : mg "str" = none
  b_min : mg "min" = none
  b_dict : mg "dict" = none
  cl_Seller : Cls K A.Seller
  no_Seller_setup : NoAttr K A.Seller "setup"
  no_Seller_number : NoAttr K A.Seller "number"
  no_Seller_free : NoAttr K A.Seller "free"
  no_Seller_vouchers : NoAttr K A.Seller "vouchers"
  no_Seller_book : NoAttr K A.Seller "book"
  no_Seller_closing : NoAttr K A.Seller "closing"
  no_Seller_asked : NoAttr K A.Seller "asked"
  no_Seller_waiting : NoAttr K A.Seller "waiting"
  no_Seller_count : NoAttr K A.Seller "count"
  no_Seller_outgoing : NoAttr K A.Seller "outgoing"
  no_Seller_told : NoAttr K A.Seller "told"
def F_Seller (setup : V) (number : Int) (free : Addr) (vouchers : Addr) (book : Addr) (closing : V) (asked : Addr) (waiting : Addr) (count : Int) (outgoing : Addr) (told : Addr) : List (Str × V) := [("setup", setup), ("number", .int number), ("free", .ref free), ("vouchers", .ref vouchers), ("book", .ref book), ("closing", closing), ("asked", .ref asked), ("waiting", .ref waiting), ("count", .int count), ("outgoing", .ref outgoing), ("told", .ref told)]
def spLaw (K : PySem.W.Frag) : Sp := fun vs H Q _ => ∃ x0, vs = [x0] ∧ ∃ (a : Addr) (ns : List Int), x0 = .ref a ∧ SqL K H a (ns.map V.int) ∧ ns.length ≤ 63 ∧ ∀ H', Q (.bl true) H'
local macro_rules | `(tactic| walk_at "own") => `(tactic| first
  | ((with_reducible refine' g_rfld (f := "setup") (C := Ad.Seller _) ?h (Txt.cl_Seller (by assumption)) (Txt.no_Seller_setup (by assumption)) ?l ?_); (case h => walk_at "fact"); (case l => exact rfl))
  | ((with_reducible refine' g_rflds (f := "setup") (C := Ad.Seller _) ?h (Txt.cl_Seller (by assumption)) (Txt.no_Seller_setup (by assumption)) ?l ?e ?_); (case h => walk_at "fact"); (case l => exact Nat.le_of_ble_eq_true rfl); (case e => exact rfl); intro _ _ _)
  | ((with_reducible refine' g_rflda (f := "setup") (C := Ad.Seller _) ?h (Txt.cl_Seller (by assumption)) (Txt.no_Seller_setup (by assumption)) ?l ?_); (case h => walk_at "fact"); (case l => exact rfl))
  | ((with_reducible refine' g_rfld (f := "number") (C := Ad.Seller _) ?h (Txt.cl_Seller (by assumption)) (Txt.no_Seller_number (by assumption)) ?l ?_); (case h => walk_at "fact"); (case l => exact rfl))
  | ((with_reducible refine' g_rflds (f := "number") (C := Ad.Seller _) ?h (Txt.cl_Seller (by assumption)) (Txt.no_Seller_number (by assumption)) ?l ?e ?_); (case h => walk_at "fact"); (case l => exact Nat.le_of_ble_eq_true rfl); (case e => exact rfl); intro _ _ _)
  | ((with_reducible refine' g_rflda (f := "number") (C := Ad.Seller _) ?h (Txt.cl_Seller (by assumption)) (Txt.no_Seller_number (by assumption)) ?l ?_); (case h => walk_at "fact"); (case l => exact rfl))
  | ((with_reducible refine' g_rfld (f := "free") (C := Ad.Seller _) ?h (Txt.cl_Seller (by assumption)) (Txt.no_Seller_free (by assumption)) ?l ?_); (case h => walk_at "fact"); (case l => exact rfl))
  | ((with_reducible refine' g_rflds (f := "free") (C := Ad.Seller _) ?h (Txt.cl_Seller (by assumption)) (Txt.no_Seller_free (by assumption)) ?l ?e ?_); (case h => walk_at "fact"); (case l => exact Nat.le_of_ble_eq_true rfl); (case e => exact rfl); intro _ _ _)
  | ((with_reducible refine' g_rflda (f := "free") (C := Ad.Seller _) ?h (Txt.cl_Seller (by assumption)) (Txt.no_Seller_free (by assumption)) ?l ?_); (case h => walk_at "fact"); (case l => exact rfl))
  | ((with_reducible refine' g_rfld (f := "vouchers") (C := Ad.Seller _) ?h (Txt.cl_Seller (by assumption)) (Txt.no_Seller_vouchers (by assumption)) ?l ?_); (case h => walk_at "fact"); (case l => exact rfl))
  | ((with_reducible refine' g_rflds (f := "vouchers") (C := Ad.Seller _) ?h (Txt.cl_Seller (by assumption)) (Txt.no_Seller_vouchers (by assumption)) ?l ?e ?_); (case h => walk_at "fact"); (case l => exact Nat.le_of_ble_eq_true rfl); (case e => exact rfl); intro _ _ _)
  | ((with_reducible refine' g_rflda (f := "vouchers") (C := Ad.Seller _) ?h (Txt.cl_Seller (by assumption)) (Txt.no_Seller_vouchers (by assumption)) ?l ?_); (case h => walk_at "fact"); (case l => exact rfl))
  | ((with_reducible refine' g_rfld (f := "book") (C := Ad.Seller _) ?h (Txt.cl_Seller (by assumption)) (Txt.no_Seller_book (by assumption)) ?l ?_); (case h => walk_at "fact"); (case l => exact rfl))
  | ((with_reducible refine' g_rflds (f := "book") (C := Ad.Seller _) ?h (Txt.cl_Seller (by assumption)) (Txt.no_Seller_book (by assumption)) ?l ?e ?_); (case h => walk_at "fact"); (case l => exact Nat.le_of_ble_eq_true rfl); (case e => exact rfl); intro _ _ _)
  | ((with_reducible refine' g_rflda (f := "book") (C := Ad.Seller _) ?h (Txt.cl_Seller (by assumption)) (Txt.no_Seller_book (by assumption)) ?l ?_); (case h => walk_at "fact"); (case l => exact rfl))
  | ((with_reducible refine' g_rfld (f := "closing") (C := Ad.Seller _) ?h (Txt.cl_Seller (by assumption)) (Txt.no_Seller_closing (by assumption)) ?l ?_); (case h => walk_at "fact"); (case l => exact rfl))
  | ((with_reducible refine' g_rflds (f := "closing") (C := Ad.Seller _) ?h (Txt.cl_Seller (by assumption)) (Txt.no_Seller_closing (by assumption)) ?l ?e ?_); (case h => walk_at "fact"); (case l => exact Nat.le_of_ble_eq_true rfl); (case e => exact rfl); intro _ _ _)
  | ((with_reducible refine' g_rflda (f := "closing") (C := Ad.Seller _) ?h (Txt.cl_Seller (by assumption)) (Txt.no_Seller_closing (by assumption)) ?l ?_); (case h => walk_at "fact"); (case l => exact rfl))
  | ((with_reducible refine' g_rfld (f := "asked") (C := Ad.Seller _) ?h (Txt.cl_Seller (by assumption)) (Txt.no_Seller_asked (by assumption)) ?l ?_); (case h => walk_at "fact"); (case l => exact rfl))
  | ((with_reducible refine' g_rflds (f := "asked") (C := Ad.Seller _) ?h (Txt.cl_Seller (by assumption)) (Txt.no_Seller_asked (by assumption)) ?l ?e ?_); (case h => walk_at "fact"); (case l => exact Nat.le_of_ble_eq_true rfl); (case e => exact rfl); intro _ _ _)
  | ((with_reducible refine' g_rflda (f := "asked") (C := Ad.Seller _) ?h (Txt.cl_Seller (by assumption)) (Txt.no_Seller_asked (by assumption)) ?l ?_); (case h => walk_at "fact"); (case l => exact rfl))
  | ((with_reducible refine' g_rfld (f := "waiting") (C := Ad.Seller _) ?h (Txt.cl_Seller (by assumption)) (Txt.no_Seller_waiting (by assumption)) ?l ?_); (case h => walk_at "fact"); (case l => exact rfl))
  | ((with_reducible refine' g_rflds (f := "waiting") (C := Ad.Seller _) ?h (Txt.cl_Seller (by assumption)) (Txt.no_Seller_waiting (by assumption)) ?l ?e ?_); (case h => walk_at "fact"); (case l => exact Nat.le_of_ble_eq_true rfl); (case e => exact rfl); intro _ _ _)
  | ((with_reducible refine' g_rflda (f := "waiting") (C := Ad.Seller _) ?h (Txt.cl_Seller (by assumption)) (Txt.no_Seller_waiting (by assumption)) ?l ?_); (case h => walk_at "fact"); (case l => exact rfl))
  | ((with_reducible refine' g_rfld (f := "count") (C := Ad.Seller _) ?h (Txt.cl_Seller (by assumption)) (Txt.no_Seller_count (by assumption)) ?l ?_); (case h => walk_at "fact"); (case l => exact rfl))
  | ((with_reducible refine' g_rflds (f := "count") (C := Ad.Seller _) ?h (Txt.cl_Seller (by assumption)) (Txt.no_Seller_count (by assumption)) ?l ?e ?_); (case h => walk_at "fact"); (case l => exact Nat.le_of_ble_eq_true rfl); (case e => exact rfl); intro _ _ _)
  | ((with_reducible refine' g_rflda (f := "count") (C := Ad.Seller _) ?h (Txt.cl_Seller (by assumption)) (Txt.no_Seller_count (by assumption)) ?l ?_); (case h => walk_at "fact"); (case l => exact rfl))
  | ((with_reducible refine' g_rfld (f := "outgoing") (C := Ad.Seller _) ?h (Txt.cl_Seller (by assumption)) (Txt.no_Seller_outgoing (by assumption)) ?l ?_); (case h => walk_at "fact"); (case l => exact rfl))
  | ((with_reducible refine' g_rflds (f := "outgoing") (C := Ad.Seller _) ?h (Txt.cl_Seller (by assumption)) (Txt.no_Seller_outgoing (by assumption)) ?l ?e ?_); (case h => walk_at "fact"); (case l => exact Nat.le_of_ble_eq_true rfl); (case e => exact rfl); intro _ _ _)
  | ((with_reducible refine' g_rflda (f := "outgoing") (C := Ad.Seller _) ?h (Txt.cl_Seller (by assumption)) (Txt.no_Seller_outgoing (by assumption)) ?l ?_); (case h => walk_at "fact"); (case l => exact rfl))
  | ((with_reducible refine' g_rfld (f := "told") (C := Ad.Seller _) ?h (Txt.cl_Seller (by assumption)) (Txt.no_Seller_told (by assumption)) ?l ?_); (case h => walk_at "fact"); (case l => exact rfl))
  | ((with_reducible refine' g_rflds (f := "told") (C := Ad.Seller _) ?h (Txt.cl_Seller (by assumption)) (Txt.no_Seller_told (by assumption)) ?l ?e ?_); (case h => walk_at "fact"); (case l => exact Nat.le_of_ble_eq_true rfl); (case e => exact rfl); intro _ _ _)
  | ((with_reducible refine' g_rflda (f := "told") (C := Ad.Seller _) ?h (Txt.cl_Seller (by assumption)) (Txt.no_Seller_told (by assumption)) ?l ?_); (case h => walk_at "fact"); (case l => exact rfl)))
section
variable {P : Program} {w : World} {K : PySem.W.Frag} {mg : Str → Option Value} {base : Heap} {A : Ad}
def P_Lmixed (K : PySem.W.Frag) (A : Ad) (x0 x1 : V) (H : Hp) (Q : VK) : Prop := ∃ a b : Int, x0 = .int a ∧ x1 = .int b ∧ ∀ n : Int, 0 ≤ n → n < 2147483647 → Q (.int n) H
def sp_Lmixed (K : PySem.W.Frag) (A : Ad) : Sp := fun vs H Q _ => ∃ x0 x1, vs = [x0, x1] ∧ P_Lmixed K A x0 x1 H Q
theorem c_Lmixed {K : PySem.W.Frag} {A : Ad} {x0 x1 : V} {H : Hp} {Q : VK} {E : XK} (h : P_Lmixed K A x0 x1 H Q) : sp_Lmixed K A [x0, x1] H Q E := ⟨_, _, rfl, h⟩
theorem sc_Lmixed : FnScope ["_law_number", "_law_k", "_law_step"] ["_law_number", "_law_k"] (defScope s_Lmixed) := ⟨rfl, rfl, rfl, by decide +kernel, rfl, by decide +kernel, by decide +kernel⟩
def t_Lmixed (K : PySem.W.Frag) (A : Ad) : TS :=
  (tSeq (tAsg (tOp oMod (tOp oAdd (tOp oAdd (tOp oMul (tVar 0) (tC (.int 48271))) (tOp oMul (tVar 1) (tC (.int 69621)))) (tC (.int 12345))) (tC (.int 2147483647))) (gName 2))
    (tRet (tOp oMod (tOp oAdd (tOp oMul (tVar 2) (tOp oAdd (tOp oDiv (tVar 2) (tC (.int 65536))) (tC (.int 3)))) (tVar 1)) (tC (.int 2147483647)))))
theorem pu_Lmixed (T : Txt K mg A) {x0 x1 : V} {H : Hp} {Q : VK} (h : P_Lmixed K A x0 x1 H Q) : t_Lmixed K A { nx := fun _ H' => Q .non H', rt := Q } [some x0, some x1, none] H := by
  obtain ⟨a, b, rfl, rfl, k⟩ := h
  unfold t_Lmixed
  walk_at "go"
  exact k _ (Int.emod_nonneg _ (by decide)) (Int.emod_lt_of_pos _ (by decide))
theorem ok_Lmixed {f : Addr} {fd : FuncData} (F : Fun K "_law_mixed" "_law_mixed" s_Lmixed f fd) (T : Txt K mg A)  : FnOk P w K mg base CX0 (1) f fd ["_law_number", "_law_k"] (sp_Lmixed K A) := by
  refine F.ok sc_Lmixed (fun vs H Q E h => ?_) (fun cdv Ar outer s H vs Q E hr h => ⟨t_Lmixed K A, ?_, ?_⟩)
  · obtain ⟨x0, x1, rfl, _⟩ := h
    rfl
  · have hu := hu_of hr
    exact (pss_cons (ps_set (i := 2) sc_Lmixed.nd rfl (Or.inl rfl) (pe_op o_mod (pe_op o_add (pe_op o_add (pe_op o_mul (pv 0) pe_int) (pe_op o_mul (pv 1) pe_int)) pe_int) pe_int))
    (pss_one (ps_ret (pe_op o_mod (pe_op o_add (pe_op o_mul (pv 2) (pe_op o_add (pe_op o_div (pv 2) pe_int) pe_int)) (pv 1)) pe_int))))
  · obtain ⟨x0, x1, rfl, h⟩ := h
    exact pu_Lmixed T h
def Sml (ms : List Int) : Prop := ∀ m ∈ ms, 0 ≤ m ∧ m < 1000000
theorem Sml.snoc {ms : List Int} (h : Sml ms) (z : Int) : Sml (ms ++ [z % 1000000]) := fun m hm => by
  rcases List.mem_append.mp hm with q | q
  · exact h m q
  · rw [List.mem_singleton.mp q]; exact ⟨Int.emod_nonneg _ (by decide), Int.emod_lt_of_pos _ (by decide)⟩
def P_Lnumbers (K : PySem.W.Frag) (A : Ad) (x0 : V) (H : Hp) (Q : VK) : Prop := ∃ (a : Addr) (ns : List Int), x0 = .ref a ∧ SqL K H a (ns.map V.int) ∧ ns.length ≤ 63 ∧
  ∀ (l : Addr) (ms : List Int) (H' : Hp), H l = none → Fr [] H H' → H' l = some (.lst (ms.map V.int)) → Sml ms → ms.length ≤ 10000 → Q (.ref l) H'
def sp_Lnumbers (K : PySem.W.Frag) (A : Ad) : Sp := fun vs H Q _ => ∃ x0, vs = [x0] ∧ P_Lnumbers K A x0 H Q
theorem c_Lnumbers {K : PySem.W.Frag} {A : Ad} {x0 : V} {H : Hp} {Q : VK} {E : XK} (h : P_Lnumbers K A x0 H Q) : sp_Lnumbers K A [x0] H Q E := ⟨_, rfl, h⟩
theorem sc_Lnumbers : FnScope ["_law_script", "_law_numbers_here", "_law_cell", "_law_rest", "_law_k"] ["_law_script"] (defScope s_Lnumbers) := ⟨rfl, rfl, rfl, by decide +kernel, rfl, by decide +kernel, by decide +kernel⟩
def t_Lnumbers (K : PySem.W.Frag) (A : Ad) : TS :=
  (tSeq (tAsg (tLst tNil) (gName 1))
    (tSeq (tFor (iList K (tVar 0)) (gName 2) (tIfS (tTest (tOp cGe (tVar 2) (tOp oPow (tC (.int 10)) (tC (.int 18))))) (tSeq (tAsg (tVar 2) (gName 3))
    (tFor (iRng1 (tCons (tC (.int 60)) tNil)) (gName 4) (tIfS (tTest (tOp cGt (tVar 3) (tC (.int 0)))) (tSeq (tDrop (tBM K "list" rAppend (tVar 1) (tCons (tOp oMod (tVar 3) (tC (.int 1000000))) tNil)))
    (tAsg (tOp oDiv (tVar 3) (tC (.int 1000000))) (gName 3))) tNext))) (tSeq (tDrop (tBM K "list" rAppend (tVar 1) (tCons (tOp oMod (tVar 2) (tC (.int 1000000))) tNil)))
    (tFor (iRng1 (tCons (tC (.int 5)) tNil)) (gName 4) (tDrop (tBM K "list" rAppend (tVar 1) (tCons (tOp oMod (tCl (sp_Lmixed K A) (tCons (tCl (sp_Lmixed K A) (tCons (tOp oMod (tVar 2) (tC (.int 2147483647))) (tCons (tVar 4) tNil))) (tCons (tOp oAdd (tVar 4) (tC (.int 7))) tNil))) (tC (.int 1000000))) tNil)))))))
    (tRet (tVar 1))))
theorem pu_Lnumbers (T : Txt K mg A) {x0 : V} {H : Hp} {Q : VK} (h : P_Lnumbers K A x0 H Q) : t_Lnumbers K A { nx := fun _ H' => Q .non H', rt := Q } [some x0, none, none, none, none] H := by
  obtain ⟨a, ns, rfl, hS, hl, k⟩ := h
  unfold t_Lnumbers
  walk_at "go"
  rename_i l H0 nl f0 e0
  refine f_list (xs := ns.map V.int) (fun i σ H' => ∃ (ms : List Int) (v1 v2 v3 : Option V), σ = [some (.ref a), some (.ref l), v1, v2, v3] ∧ Fr [] H H' ∧ H' l = some (.lst (ms.map V.int)) ∧ Sml ms ∧ ms.length ≤ 60 * i)
    ⟨[], none, none, none, rfl, f0, e0, fun _ q => (nomatch q), Nat.zero_le _⟩ ?_ ?_ ?_
  · rintro i σ H' _ ⟨ms, v1, v2, v3, rfl, f, e, s, hm⟩
    exact f.sql hS nin0
  · rintro i x σ H1 hx ⟨ms, v1, v2, v3, rfl, f1, e1, s1, hm⟩
    obtain ⟨n, rfl, hn, hmem⟩ := getI hx
    have hi : i < 63 := Nat.lt_of_lt_of_le ((List.getElem?_eq_some_iff.mp hn).1) hl
    walk_at "go"
    refine g_ite (fun c => ?_) (fun c => ?_)
    · walk_at "go"
      refine f_range (lo := 0) (n := 60) (fun j σ H' => ∃ (ms : List Int) (r : Int) (v3 : Option V), σ = [some (.ref a), some (.ref l), some (.int n), some (.int r), v3] ∧ Fr [] H H' ∧ H' l = some (.lst (ms.map V.int)) ∧ Sml ms ∧ ms.length ≤ 60 * i + j)
        ⟨ms, n, v3, rfl, f1, e1, s1, by omega⟩ ?_ ?_
      · rintro j σ H2 hj ⟨ms2, r, v3, rfl, f2, e2, s2, hm2⟩
        walk_at "go"
        refine g_ite (fun c => ?_) (fun c => ?_)
        · walk_at "go"
          rename_i H3 f3 e3
          exact ⟨ms2 ++ [r % 1000000], _, _, rfl, f2.own1 f3 nl, by rw [e3, List.map_append] <;> rfl, s2.snoc r, by rw [List.length_append]; exact Nat.add_le_add_right hm2 1⟩
        · walk_at "go"
          exact ⟨ms2, _, _, rfl, f2, e2, s2, by omega⟩
      · rintro σ H2 ⟨ms2, r, v3, rfl, f2, e2, s2, hm2⟩
        exact ⟨ms2, _, _, _, rfl, f2, e2, s2, by omega⟩
    · walk_at "go"
      rename_i H3 f3 e3
      refine f_range (lo := 0) (n := 5) (fun j σ H' => ∃ (ms : List Int) (v2 v3 : Option V), σ = [some (.ref a), some (.ref l), some (.int n), v2, v3] ∧ Fr [] H H' ∧ H' l = some (.lst (ms.map V.int)) ∧ Sml ms ∧ ms.length ≤ 60 * i + 1 + j)
        ⟨ms ++ [n % 1000000], v2, v3, rfl, f1.own1 f3 nl, by rw [e3, List.map_append] <;> rfl, s1.snoc n, by rw [List.length_append]; exact Nat.add_le_add_right hm 1⟩ ?_ ?_
      · rintro j σ H4 hj ⟨ms2, v2, v3, rfl, f4, e4, s4, hm4⟩
        walk_at "go"
        refine c_Lmixed ⟨_, _, rfl, rfl, fun z _ _ => ?_⟩
        walk_at "go"
        refine c_Lmixed ⟨_, _, rfl, rfl, fun z2 _ _ => ?_⟩
        walk_at "go"
        rename_i H5 f5 e5
        exact ⟨ms2 ++ [z2 % 1000000], _, _, rfl, f4.own1 f5 nl, by rw [e5, List.map_append] <;> rfl, s4.snoc z2, by rw [List.length_append]; exact Nat.add_le_add_right hm4 1⟩
      · rintro σ H4 ⟨ms2, v2, v3, rfl, f4, e4, s4, hm4⟩
        exact ⟨ms2, _, _, _, rfl, f4, e4, s4, by omega⟩
  · rintro σ H1 ⟨ms, v1, v2, v3, rfl, f1, e1, s1, hm⟩
    walk_at "go"
    rw [List.length_map] at hm
    exact k l ms H1 nl f1 e1 s1 (by omega)
theorem ok_Lnumbers {f : Addr} {fd : FuncData} (F : Fun K "_law_numbers" "_law_numbers" s_Lnumbers f fd) (T : Txt K mg A) (c_Lmixed : Cal P w K mg base "_law_mixed" 1 ["_law_number", "_law_k"] (sp_Lmixed K A)) : FnOk P w K mg base CX0 (2) f fd ["_law_script"] (sp_Lnumbers K A) := by
  refine F.ok sc_Lnumbers (fun vs H Q E h => ?_) (fun cdv Ar outer s H vs Q E hr h => ⟨t_Lnumbers K A, ?_, ?_⟩)
  · obtain ⟨x0, rfl, _⟩ := h
    rfl
  · have hu := hu_of hr
    exact (pss_cons (ps_set (i := 1) sc_Lnumbers.nd rfl (Or.inl rfl) (pe_lst pa_nil))
    (pss_cons (ps_for PassesOwn.never rfl (pi_list (pv 0)) (pg_name (i := 2) sc_Lnumbers.nd rfl (Or.inl rfl)) (pss_one (ps_if (pt_cmpR c_ge (pv 2) (pe_op o_pow pe_int pe_int) (nomark _)) (pss_cons (ps_set (i := 3) sc_Lnumbers.nd rfl (Or.inl rfl) (pv 2))
    (pss_one (ps_for PassesOwn.never rfl (pi_range1 rfl T.b_range (pa_cons pe_int pa_nil)) (pg_name (i := 4) sc_Lnumbers.nd rfl (Or.inl rfl)) (pss_one (ps_if (pt_cmpR c_gt (pv 3) pe_int (nomark _)) (pss_cons (ps_expr (pe_bm PySem.F.plainAttrs_list PySem.F.slot_list_append PySem.F.type_list_append mt_append (pv 1) (pa_cons (pe_op o_mod (pv 3) pe_int) pa_nil)))
    (pss_one (ps_set (i := 3) sc_Lnumbers.nd rfl (Or.inl rfl) (pe_op o_div (pv 3) pe_int)))) pss_nil))))) (pss_cons (ps_expr (pe_bm PySem.F.plainAttrs_list PySem.F.slot_list_append PySem.F.type_list_append mt_append (pv 1) (pa_cons (pe_op o_mod (pv 2) pe_int) pa_nil)))
    (pss_one (ps_for PassesOwn.never rfl (pi_range1 rfl T.b_range (pa_cons pe_int pa_nil)) (pg_name (i := 4) sc_Lnumbers.nd rfl (Or.inl rfl)) (pss_one (ps_expr (pe_bm PySem.F.plainAttrs_list PySem.F.slot_list_append PySem.F.type_list_append mt_append (pv 1) (pa_cons (pe_op o_mod (pe_cl c_Lmixed (hr.mono (by first | decide | omega)) (by rfl) (pa_cons (pe_cl c_Lmixed (hr.mono (by first | decide | omega)) (by rfl) (pa_cons (pe_op o_mod (pv 2) pe_int) (pa_cons (pv 4) pa_nil))) (pa_cons (pe_op o_add (pv 4) pe_int) pa_nil))) pe_int) pa_nil))))))))))
    (pss_one (ps_ret (pv 1)))))
  · obtain ⟨x0, rfl, h⟩ := h
    exact pu_Lnumbers T h
/-- the draws: a list of the numbers' list and a place -/
def Draws (H : Hp) (d l : Addr) : Prop := ∃ (ms : List Int) (k : Int), H d = some (.lst [.ref l, .int k]) ∧ H l = some (.lst (ms.map V.int)) ∧ Sml ms ∧ ms.length ≤ 10000 ∧ 0 ≤ k
theorem Draws.fr {H H' : Hp} {d l : Addr} {m : List Addr} (h : Draws H d l) (f : Fr m H H') (n1 : d ∉ m) (n2 : l ∉ m) : Draws H' d l := by
  obtain ⟨ms, k, h1, h2, h3⟩ := h
  exact ⟨ms, k, f.at h1 n1, f.at h2 n2, h3⟩
def P_Ldraw (K : PySem.W.Frag) (A : Ad) (x0 : V) (H : Hp) (Q : VK) : Prop := ∃ (d l : Addr), x0 = .ref d ∧ Draws H d l ∧
  ∀ (n : Int) (H' : Hp), 0 ≤ n → n < 1000000 → Fr [d] H H' → Draws H' d l → Q (.int n) H'
def sp_Ldraw (K : PySem.W.Frag) (A : Ad) : Sp := fun vs H Q _ => ∃ x0, vs = [x0] ∧ P_Ldraw K A x0 H Q
theorem c_Ldraw {K : PySem.W.Frag} {A : Ad} {x0 : V} {H : Hp} {Q : VK} {E : XK} (h : P_Ldraw K A x0 H Q) : sp_Ldraw K A [x0] H Q E := ⟨_, rfl, h⟩
theorem sc_Ldraw : FnScope ["_law_draws", "_law_at", "_law_first"] ["_law_draws"] (defScope s_Ldraw) := ⟨rfl, rfl, rfl, by decide +kernel, rfl, by decide +kernel, by decide +kernel⟩
def t_Ldraw (K : PySem.W.Frag) (A : Ad) : TS :=
  (tSeq (tAsg (tOp (rIxL K) (tVar 0) (tC (.int 1))) (gName 1))
    (tSeq (tAsg (tOp oAdd (tVar 1) (tC (.int 1))) (gSub (tVar 0) (tC (.int 1)) rSetL))
    (tSeq (tIfS (tTest (tOp cLt (tVar 1) (tCB (rLenSq K) (tCons (tOp (rIxL K) (tVar 0) (tC (.int 0))) tNil)))) (tRet (tOp (rIxL K) (tOp (rIxL K) (tVar 0) (tC (.int 0))) (tVar 1))) tNext)
    (tSeq (tAsg (tOp oAdd (tC (.int 1)) (tVar 1)) (gName 2))
    (tSeq (tIfS (tTest (tOp cGt (tCB (rLenSq K) (tCons (tOp (rIxL K) (tVar 0) (tC (.int 0))) tNil)) (tC (.int 0)))) (tAsg (tOp oAdd (tVar 2) (tOp oMul (tC (.int 1009)) (tOp (rIxL K) (tOp (rIxL K) (tVar 0) (tC (.int 0))) (tC (.int 0))))) (gName 2)) tNext)
    (tRet (tOp oMod (tCl (sp_Lmixed K A) (tCons (tCl (sp_Lmixed K A) (tCons (tVar 2) (tCons (tVar 1) tNil))) (tCons (tC (.int 5)) tNil))) (tC (.int 1000000)))))))))
theorem pu_Ldraw (T : Txt K mg A) {x0 : V} {H : Hp} {Q : VK} (h : P_Ldraw K A x0 H Q) : t_Ldraw K A { nx := fun _ H' => Q .non H', rt := Q } [some x0, none, none] H := by
  obtain ⟨d, l, rfl, ⟨ms, k, hd, hL, sm, hlen, hk⟩, q⟩ := h
  unfold t_Ldraw
  walk_at "go"
  refine g_setL hd (j := 1) rfl fun H1 f1 e1 => ?_
  have nld : l ≠ d := fun z => by
    subst z
    rw [hd] at hL
    have e := congrArg List.length (HO.lst.inj (Option.some.inj hL))
    cases ms with
    | nil => cases e
    | cons a r => cases HO.lst.inj (Option.some.inj hL)
  have hL1 : H1 l = some (.lst (ms.map V.int)) := f1.at hL (nin1 nld nin0)
  have D1 : Draws H1 d l := ⟨ms, k + 1, e1, hL1, sm, hlen, by omega⟩
  have e1' : H1 d = some (.lst [.ref l, .int (k + 1)]) := e1
  walk_at "go"
  rw [List.length_map]
  refine g_ite (fun c => ?_) (fun c => ?_)
  · walk_at "go"
    obtain ⟨v, hv, hv2⟩ := atI_of (xs := ms.map V.int) hk (by rw [List.length_map]; exact c)
    obtain ⟨n, rfl, _, hmem⟩ := getI hv2
    refine g_ixL (SqL.of hL1) hv ?_
    exact q n H1 (sm n hmem).1 (sm n hmem).2 f1 D1
  · have fin : ∀ n : Int, Q (.int (n % 1000000)) H1 := fun n => q _ H1 (Int.emod_nonneg _ (by decide)) (Int.emod_lt_of_pos _ (by decide)) f1 D1
    walk_at "go"
    rw [List.length_map]
    refine g_ite (fun c2 => ?_) (fun c2 => ?_)
    · walk_at "go"
      obtain ⟨v, hv, hv2⟩ := atI_of (xs := ms.map V.int) (z := 0) (Int.le_refl _) (by rw [List.length_map]; exact c2)
      obtain ⟨n, rfl, _, hmem⟩ := getI hv2
      refine g_ixL (SqL.of hL1) hv ?_
      walk_at "go"
      refine c_Lmixed ⟨_, _, rfl, rfl, fun z _ _ => ?_⟩
      walk_at "go"
      refine c_Lmixed ⟨_, _, rfl, rfl, fun z2 _ _ => ?_⟩
      walk_at "go"
      exact fin z2
    · walk_at "go"
      refine c_Lmixed ⟨_, _, rfl, rfl, fun z _ _ => ?_⟩
      walk_at "go"
      refine c_Lmixed ⟨_, _, rfl, rfl, fun z2 _ _ => ?_⟩
      walk_at "go"
      exact fin z2
theorem ok_Ldraw {f : Addr} {fd : FuncData} (F : Fun K "_law_draw" "_law_draw" s_Ldraw f fd) (T : Txt K mg A) (c_Lmixed : Cal P w K mg base "_law_mixed" 1 ["_law_number", "_law_k"] (sp_Lmixed K A)) : FnOk P w K mg base CX0 (2) f fd ["_law_draws"] (sp_Ldraw K A) := by
  refine F.ok sc_Ldraw (fun vs H Q E h => ?_) (fun cdv Ar outer s H vs Q E hr h => ⟨t_Ldraw K A, ?_, ?_⟩)
  · obtain ⟨x0, rfl, _⟩ := h
    rfl
  · have hu := hu_of hr
    exact (pss_cons (ps_set (i := 1) sc_Ldraw.nd rfl (Or.inl rfl) (pe_ix ix_list (pv 0) pe_int (fun _ _ => rfl)))
    (pss_cons (ps_asg (pe_op o_add (pv 1) pe_int) (pg_sub (pv 0) pe_int set_list))
    (pss_cons (ps_if (pt_cmpR c_lt (pv 1) (pe_callB b_len (by rfl) T.b_len (by decide +kernel) (pa_cons (pe_ix ix_list (pv 0) pe_int (fun _ _ => rfl)) pa_nil)) (nomark _)) (pss_one (ps_ret (pe_ix ix_list (pe_ix ix_list (pv 0) pe_int (fun _ _ => rfl)) (pv 1) (fun _ _ => rfl)))) pss_nil)
    (pss_cons (ps_set (i := 2) sc_Ldraw.nd rfl (Or.inl rfl) (pe_op o_add pe_int (pv 1)))
    (pss_cons (ps_if (pt_cmpR c_gt (pe_callB b_len (by rfl) T.b_len (by decide +kernel) (pa_cons (pe_ix ix_list (pv 0) pe_int (fun _ _ => rfl)) pa_nil)) pe_int (nomark _)) (pss_one (ps_set (i := 2) sc_Ldraw.nd rfl (Or.inl rfl) (pe_op o_add (pv 2) (pe_op o_mul pe_int (pe_ix ix_list (pe_ix ix_list (pv 0) pe_int (fun _ _ => rfl)) pe_int (fun _ _ => rfl)))))) pss_nil)
    (pss_one (ps_ret (pe_op o_mod (pe_cl c_Lmixed (hr.mono (by first | decide | omega)) (by rfl) (pa_cons (pe_cl c_Lmixed (hr.mono (by first | decide | omega)) (by rfl) (pa_cons (pv 2) (pa_cons (pv 1) pa_nil))) (pa_cons pe_int pa_nil))) pe_int))))))))
  · obtain ⟨x0, rfl, h⟩ := h
    exact pu_Ldraw T h
theorem Draws.new1 {H : Hp} {d l p : Addr} (h : Draws H d l) (e : H p = none) : d ≠ p := by
  obtain ⟨ms, k, h1, h2, _⟩ := h
  exact ne_of_none h1 e
theorem Draws.new2 {H : Hp} {d l p : Addr} (h : Draws H d l) (e : H p = none) : l ≠ p := by
  obtain ⟨ms, k, h1, h2, _⟩ := h
  exact ne_of_none h2 e
theorem Draws.ne {H : Hp} {d l p C dx : Addr} {fs : List (Str × V)} (h : Draws H d l) (e : H p = some (.ins C dx fs)) : d ≠ p ∧ l ≠ p := by
  obtain ⟨ms, k, h1, h2, _⟩ := h
  exact ⟨ne_of h1 e (by intro z; cases z), ne_of h2 e (by intro z; cases z)⟩
theorem Draws.ne' {H : Hp} {d l p : Addr} {xs : List V} (h : Draws H d l) (e : H p = some (.lst xs)) (n : xs.length ≠ 2) : d ≠ p := by
  obtain ⟨ms, k, h1, h2, _⟩ := h
  exact ne_of h1 e (by intro z; cases z; exact n rfl)
local macro_rules | `(tactic| walk_at "drw") => `(tactic| first
  | assumption
  | ((refine' Draws.fr ?h (by assumption) ?k ?l); (first | (case h => walk_at "drw") | fail); (first | (case k => walk_at "nin") | fail); (first | (case l => walk_at "nin") | fail)))
local macro_rules | `(tactic| walk_at "ne2") => `(tactic| first
  | exact Draws.new1 (by walk_at "drw") (by assumption) | exact Draws.new2 (by walk_at "drw") (by assumption)
  | exact Ne.symm (Draws.new1 (by walk_at "drw") (by assumption)) | exact Ne.symm (Draws.new2 (by walk_at "drw") (by assumption)))
local macro_rules | `(tactic| walk_at "go3") => `(tactic| ((with_reducible show sp_Ldraw _ _ _ _ _ _); refine' c_Ldraw ⟨_, _, rfl, ?D, ?_⟩; (first | (case D => walk_at "drw") | fail); intro _ _ _ _ _ _))


/-! ### _law_equal, _law_all_equal: what reads as one datum is found equal -/
def SeqD (H : Hp) (x : V) (ds : List PyData) : Prop := ∃ (a : Addr) (xs : List V), x = .ref a ∧ (H a = some (.lst xs) ∨ H a = some (.tup xs)) ∧ xs.length ≤ 1000000 ∧ DaL H xs ds
def P_Lequal (K : PySem.W.Frag) (A : Ad) (m : Nat) (x0 x1 : V) (H : Hp) (Q : VK) : Prop := ∃ d : PyData, Da H x0 d ∧ Da H x1 d ∧ dp d ≤ m ∧ Q (.bl true) H
def P_Lall_equal (K : PySem.W.Frag) (A : Ad) (m : Nat) (x0 x1 : V) (H : Hp) (Q : VK) : Prop := ∃ ds : List PyData, SeqD H x0 ds ∧ SeqD H x1 ds ∧ dpL ds + 1 ≤ m ∧ Q (.bl true) H
def sp_Lequal (K : PySem.W.Frag) (A : Ad) (m : Nat) : Sp := fun vs H Q _ => ∃ x0 x1, vs = [x0, x1] ∧ P_Lequal K A m x0 x1 H Q
theorem c_Lequal {K : PySem.W.Frag} {A : Ad} {m : Nat} {x0 x1 : V} {H : Hp} {Q : VK} {E : XK} (h : P_Lequal K A m x0 x1 H Q) : sp_Lequal K A m [x0, x1] H Q E := ⟨_, _, rfl, h⟩
def sp_Lall_equal (K : PySem.W.Frag) (A : Ad) (m : Nat) : Sp := fun vs H Q _ => ∃ x0 x1, vs = [x0, x1] ∧ P_Lall_equal K A m x0 x1 H Q
theorem c_Lall_equal {K : PySem.W.Frag} {A : Ad} {m : Nat} {x0 x1 : V} {H : Hp} {Q : VK} {E : XK} (h : P_Lall_equal K A m x0 x1 H Q) : sp_Lall_equal K A m [x0, x1] H Q E := ⟨_, _, rfl, h⟩
theorem sc_Lequal : FnScope ["_law_actual", "_law_due"] ["_law_actual", "_law_due"] (defScope s_Lequal) := ⟨rfl, rfl, rfl, by decide +kernel, rfl, by decide +kernel, by decide +kernel⟩
def t_Lequal (K : PySem.W.Frag) (A : Ad) (m : Nat) : TS :=
  (tSeq (tIfS (tB (tCB (rIsi K) (tCons (tVar 1) (tCons (tC (.ty "list")) tNil)))) (tSeq (tIfS (tOr (tNot (tB (tCB (rIsi K) (tCons (tVar 0) (tCons (tC (.ty "list")) tNil))))) (tTest (tOp rNe (tCB (rLenSq K) (tCons (tVar 0) tNil)) (tCB (rLenSq K) (tCons (tVar 1) tNil))))) (tRet (tC (.bl false))) tNext)
    (tRet (tCl (sp_Lall_equal K A m) (tCons (tVar 0) (tCons (tVar 1) tNil))))) tNext)
    (tSeq (tIfS (tB (tCB (rIsi K) (tCons (tVar 1) (tCons (tC (.ty "tuple")) tNil)))) (tSeq (tIfS (tOr (tNot (tB (tCB (rIsi K) (tCons (tVar 0) (tCons (tC (.ty "tuple")) tNil))))) (tTest (tOp rNe (tCB (rLenSq K) (tCons (tVar 0) tNil)) (tCB (rLenSq K) (tCons (tVar 1) tNil))))) (tRet (tC (.bl false))) tNext)
    (tRet (tCl (sp_Lall_equal K A m) (tCons (tVar 0) (tCons (tVar 1) tNil))))) tNext)
    (tSeq (tIfS (tB (tCB (rIsi K) (tCons (tVar 1) (tCons (tC (.ty "bool")) tNil)))) (tRet (tAndV (tCB (rIsi K) (tCons (tVar 0) (tCons (tC (.ty "bool")) tNil))) (tOp rEq (tVar 0) (tVar 1)))) tNext)
    (tSeq (tIfS (tB (tCB (rIsi K) (tCons (tVar 1) (tCons (tC (.ty "int")) tNil)))) (tRet (tAndV (tCB (rIsi K) (tCons (tVar 0) (tCons (tC (.ty "int")) tNil))) (tAndV (tNotV (tCB (rIsi K) (tCons (tVar 0) (tCons (tC (.ty "bool")) tNil)))) (tOp rEq (tVar 0) (tVar 1))))) tNext)
    (tSeq (tIfS (tB (tCB (rIsi K) (tCons (tVar 1) (tCons (tC (.ty "str")) tNil)))) (tRet (tAndV (tCB (rIsi K) (tCons (tVar 0) (tCons (tC (.ty "str")) tNil))) (tOp rEq (tVar 0) (tVar 1)))) tNext)
    (tRet (tOp rIsNon (tVar 0) (tC .non))))))))
theorem pu_Lequal (T : Txt K mg A) {m : Nat} {x0 x1 : V} {H : Hp} {Q : VK} (h : P_Lequal K A m x0 x1 H Q) : t_Lequal K A m { nx := fun _ H' => Q .non H', rt := Q } [some x0, some x1] H := by
  obtain ⟨d, h0, h1, hm, q⟩ := h
  unfold t_Lequal
  cases h0 with
  | non =>
    cases h1
    walk_at "go"
    exact q
  | bl b =>
    cases h1
    walk_at "go"
    simpa using q
  | int i =>
    cases h1
    walk_at "go"
    simpa using q
  | str z =>
    cases h1
    walk_at "go"
    simpa using q
  | lst e0 z0 r0 =>
    cases h1 with
    | lst e1 z1 r1 =>
      walk_at "go"
      refine g_iteN (fun c => absurd (by rw [r0.len, r1.len]) c) (fun c => ?_)
      walk_at "go"
      refine c_Lall_equal ⟨_, ⟨_, _, rfl, .inl e0, z0, r0⟩, ⟨_, _, rfl, .inl e1, z1, r1⟩, ?_, q⟩
      simpa [dp] using hm
  | tup e0 z0 r0 =>
    cases h1 with
    | tup e1 z1 r1 =>
      walk_at "go"
      refine g_iteN (fun c => absurd (by rw [r0.len, r1.len]) c) (fun c => ?_)
      walk_at "go"
      refine c_Lall_equal ⟨_, ⟨_, _, rfl, .inr e0, z0, r0⟩, ⟨_, _, rfl, .inr e1, z1, r1⟩, ?_, q⟩
      simpa [dp] using hm
theorem ok_Lequal {f : Addr} {fd : FuncData} (F : Fun K "_law_equal" "_law_equal" s_Lequal f fd) (T : Txt K mg A) {m : Nat} (c_Lall_equal : Cal P w K mg base "_law_all_equal" (2 * m) ["_law_actual", "_law_due"] (sp_Lall_equal K A m)) : FnOk P w K mg base CX0 (2 * m + 1) f fd ["_law_actual", "_law_due"] (sp_Lequal K A m) := by
  refine F.ok sc_Lequal (fun vs H Q E h => ?_) (fun cdv Ar outer s H vs Q E hr h => ⟨t_Lequal K A m, ?_, ?_⟩)
  · obtain ⟨x0, x1, rfl, _⟩ := h
    rfl
  · have hu := hu_of hr
    exact (pss_cons (ps_if (pt_val (pe_callB call_isi (by rfl) T.b_isinstance (by decide +kernel) (pa_cons (pv 1) (pa_cons (pe_bltn (by rfl) T.b_list (by decide +kernel) (v := .ty "list") rfl) pa_nil)))) (pss_cons (ps_if (PW.pt (pw_or (pt_not (pt_val (pe_callB call_isi (by rfl) T.b_isinstance (by decide +kernel) (pa_cons (pv 0) (pa_cons (pe_bltn (by rfl) T.b_list (by decide +kernel) (v := .ty "list") rfl) pa_nil))))) (pw_or1 (pt_cmpR op_ne (pe_callB b_len (by rfl) T.b_len (by decide +kernel) (pa_cons (pv 0) pa_nil)) (pe_callB b_len (by rfl) T.b_len (by decide +kernel) (pa_cons (pv 1) pa_nil)) (nomark _))))) (pss_one (ps_ret pe_bl)) pss_nil)
    (pss_one (ps_ret (pe_cl c_Lall_equal (hr.mono (by first | decide | omega)) (by rfl) (pa_cons (pv 0) (pa_cons (pv 1) pa_nil)))))) pss_nil)
    (pss_cons (ps_if (pt_val (pe_callB call_isi (by rfl) T.b_isinstance (by decide +kernel) (pa_cons (pv 1) (pa_cons (pe_bltn (by rfl) T.b_tuple (by decide +kernel) (v := .ty "tuple") rfl) pa_nil)))) (pss_cons (ps_if (PW.pt (pw_or (pt_not (pt_val (pe_callB call_isi (by rfl) T.b_isinstance (by decide +kernel) (pa_cons (pv 0) (pa_cons (pe_bltn (by rfl) T.b_tuple (by decide +kernel) (v := .ty "tuple") rfl) pa_nil))))) (pw_or1 (pt_cmpR op_ne (pe_callB b_len (by rfl) T.b_len (by decide +kernel) (pa_cons (pv 0) pa_nil)) (pe_callB b_len (by rfl) T.b_len (by decide +kernel) (pa_cons (pv 1) pa_nil)) (nomark _))))) (pss_one (ps_ret pe_bl)) pss_nil)
    (pss_one (ps_ret (pe_cl c_Lall_equal (hr.mono (by first | decide | omega)) (by rfl) (pa_cons (pv 0) (pa_cons (pv 1) pa_nil)))))) pss_nil)
    (pss_cons (ps_if (pt_val (pe_callB call_isi (by rfl) T.b_isinstance (by decide +kernel) (pa_cons (pv 1) (pa_cons (pe_bltn (by rfl) T.b_bool (by decide +kernel) (v := .ty "bool") rfl) pa_nil)))) (pss_one (ps_ret (pe_and (pe_callB call_isi (by rfl) T.b_isinstance (by decide +kernel) (pa_cons (pv 0) (pa_cons (pe_bltn (by rfl) T.b_bool (by decide +kernel) (v := .ty "bool") rfl) pa_nil))) (pe_one (pe_cmpR op_eq (pv 0) (pv 1) (nomark _)))))) pss_nil)
    (pss_cons (ps_if (pt_val (pe_callB call_isi (by rfl) T.b_isinstance (by decide +kernel) (pa_cons (pv 1) (pa_cons (pe_bltn (by rfl) T.b_int (by decide +kernel) (v := .ty "int") rfl) pa_nil)))) (pss_one (ps_ret (pe_and (pe_callB call_isi (by rfl) T.b_isinstance (by decide +kernel) (pa_cons (pv 0) (pa_cons (pe_bltn (by rfl) T.b_int (by decide +kernel) (v := .ty "int") rfl) pa_nil))) (pe_and (pe_not (pe_callB call_isi (by rfl) T.b_isinstance (by decide +kernel) (pa_cons (pv 0) (pa_cons (pe_bltn (by rfl) T.b_bool (by decide +kernel) (v := .ty "bool") rfl) pa_nil)))) (pe_one (pe_cmpR op_eq (pv 0) (pv 1) (nomark _))))))) pss_nil)
    (pss_cons (ps_if (pt_val (pe_callB call_isi (by rfl) T.b_isinstance (by decide +kernel) (pa_cons (pv 1) (pa_cons (pe_bltn (by rfl) T.b_str (by decide +kernel) (v := .ty "str") rfl) pa_nil)))) (pss_one (ps_ret (pe_and (pe_callB call_isi (by rfl) T.b_isinstance (by decide +kernel) (pa_cons (pv 0) (pa_cons (pe_bltn (by rfl) T.b_str (by decide +kernel) (v := .ty "str") rfl) pa_nil))) (pe_one (pe_cmpR op_eq (pv 0) (pv 1) (nomark _)))))) pss_nil)
    (pss_one (ps_ret (pe_cmpR c_isN (pv 0) pe_non (nomark _)))))))))
  · obtain ⟨x0, x1, rfl, h⟩ := h
    exact pu_Lequal T h
theorem sc_Lall_equal : FnScope ["_law_actual", "_law_due", "_law_k"] ["_law_actual", "_law_due"] (defScope s_Lall_equal) := ⟨rfl, rfl, rfl, by decide +kernel, rfl, by decide +kernel, by decide +kernel⟩
def t_Lall_equal (K : PySem.W.Frag) (A : Ad) (m : Nat) : TS :=
  (tSeq (tFor (iRng1 (tCons (tCB (rLenSq K) (tCons (tVar 1) tNil)) tNil)) (gName 2) (tIfS (tNot (tB (tCl (sp_Lequal K A m) (tCons (tOp (rIx K) (tVar 0) (tVar 2)) (tCons (tOp (rIx K) (tVar 1) (tVar 2)) tNil))))) (tRet (tC (.bl false))) tNext))
    (tRet (tC (.bl true))))
theorem g_lenS {xs : List V} {H : Hp} {Q : VK} {p : Addr} (h : H p = some (.lst xs) ∨ H p = some (.tup xs)) (q : Q (.int xs.length) H) : rLenSq K [.ref p] H Q := h.elim (fun e => g_lenL (SqL.of e) q) (fun e => g_lenT (SqT.of e) q)
theorem g_ixS {xs : List V} {H : Hp} {Q : VK} {p : Addr} {i : Int} {v : V} (h : H p = some (.lst xs) ∨ H p = some (.tup xs)) (ha : atI xs i = some v) (q : Q v H) : rIx K (.ref p) (.int i) H Q :=
  h.elim (fun e => .inl (g_ixL (SqL.of e) ha q)) (fun e => .inr (.inl (g_ixT (SqT.of e) ha q)))
theorem pu_Lall_equal (T : Txt K mg A) {m : Nat} {x0 x1 : V} {H : Hp} {Q : VK} (h : P_Lall_equal K A (m + 1) x0 x1 H Q) : t_Lall_equal K A m { nx := fun _ H' => Q .non H', rt := Q } [some x0, some x1, none] H := by
  obtain ⟨ds, ⟨a, xs, rfl, ha, hz, ra⟩, ⟨b, ys, rfl, hb, hy, rb⟩, hm, q⟩ := h
  unfold t_Lall_equal
  walk_at "go"
  refine g_lenS hb ?_
  walk_at "go"
  have hl := ra.len
  have hk := rb.len
  refine f_range (lo := 0) (fun i σ H' => (∃ v, σ = [some (.ref a), some (.ref b), v]) ∧ H' = H) ⟨⟨_, rfl⟩, rfl⟩ ?_ ?_
  · rintro i σ H' hi ⟨⟨v, rfl⟩, rfl⟩
    have hi2 : i < xs.length := by omega
    have hi3 : i < ys.length := by omega
    obtain ⟨d, hd, dd⟩ := ra.get (List.getElem?_eq_getElem hi2)
    obtain ⟨d', hd', dd'⟩ := rb.get (List.getElem?_eq_getElem hi3)
    rw [hd] at hd'
    cases hd'
    walk_at "go"
    refine g_ixS ha (v := xs[i]) (by rw [Int.zero_add]; exact atI_nat (List.getElem?_eq_getElem hi2)) ?_
    walk_at "go"
    refine g_ixS hb (v := ys[i]) (by rw [Int.zero_add]; exact atI_nat (List.getElem?_eq_getElem hi3)) ?_
    walk_at "go"
    refine c_Lequal ⟨d, dd, dd', ?_, ?_⟩
    · have := dpL_get hd
      omega
    · walk_at "go"
      exact ⟨⟨_, rfl⟩, rfl⟩
  · rintro σ H' ⟨⟨v, rfl⟩, rfl⟩
    walk_at "go"
    exact q
theorem ok_Lall_equal {f : Addr} {fd : FuncData} (F : Fun K "_law_all_equal" "_law_all_equal" s_Lall_equal f fd) (T : Txt K mg A) {m : Nat} (c_Lequal : Cal P w K mg base "_law_equal" (2 * m + 1) ["_law_actual", "_law_due"] (sp_Lequal K A m)) : FnOk P w K mg base CX0 (2 * m + 2) f fd ["_law_actual", "_law_due"] (sp_Lall_equal K A (m + 1)) := by
  refine F.ok sc_Lall_equal (fun vs H Q E h => ?_) (fun cdv Ar outer s H vs Q E hr h => ⟨t_Lall_equal K A m, ?_, ?_⟩)
  · obtain ⟨x0, x1, rfl, _⟩ := h
    rfl
  · have hu := hu_of hr
    exact (pss_cons (ps_for PassesOwn.never rfl (pi_range1 rfl T.b_range (pa_cons (pe_callB b_len (by rfl) T.b_len (by decide +kernel) (pa_cons (pv 1) pa_nil)) pa_nil)) (pg_name (i := 2) sc_Lall_equal.nd rfl (Or.inl rfl)) (pss_one (ps_if (pt_not (pt_val (pe_cl c_Lequal (hr.mono (by first | decide | omega)) (by rfl) (pa_cons (pe_ix ix_seq (pv 0) (pv 2) (fun _ _ => rfl)) (pa_cons (pe_ix ix_seq (pv 1) (pv 2) (fun _ _ => rfl)) pa_nil))))) (pss_one (ps_ret pe_bl)) pss_nil)))
    (pss_one (ps_ret pe_bl)))
  · obtain ⟨x0, x1, rfl, h⟩ := h
    exact pu_Lall_equal T h
theorem eq_all {fE fA : Addr} {fdE fdA : FuncData} (FE : Fun K "_law_equal" "_law_equal" s_Lequal fE fdE) (T : Txt K mg A) (hE : mg "_law_equal" = some (.ref fE)) (bE : Binds K fdE ["_law_actual", "_law_due"] [])
    (FA : Fun K "_law_all_equal" "_law_all_equal" s_Lall_equal fA fdA) (hA : mg "_law_all_equal" = some (.ref fA)) (bA : Binds K fdA ["_law_actual", "_law_due"] []) :
    ∀ m : Nat, Cal P w K mg base "_law_all_equal" (2 * m) ["_law_actual", "_law_due"] (sp_Lall_equal K A m)
  | 0 => by
    have no : ∀ vs H Q E, ¬ sp_Lall_equal K A 0 vs H Q E := fun vs H Q E h => by
      obtain ⟨x0, x1, _, ds, _, _, hm, _⟩ := h
      omega
    exact ⟨fA, fdA, ⟨fun vs H Q E h => absurd h (no vs H Q E), fun A outer s H args us vs Q E _ _ _ _ h => absurd h (no vs H Q E)⟩, hA, FA.kp, bA⟩
  | m + 1 => ⟨fA, fdA, ok_Lall_equal FA T ⟨fE, fdE, ok_Lequal FE T (eq_all FE T hE bE FA hA bA m), hE, FE.kp, bE⟩, hA, FA.kp, bA⟩
theorem eq_one {fE fA : Addr} {fdE fdA : FuncData} (FE : Fun K "_law_equal" "_law_equal" s_Lequal fE fdE) (T : Txt K mg A) (hE : mg "_law_equal" = some (.ref fE)) (bE : Binds K fdE ["_law_actual", "_law_due"] [])
    (FA : Fun K "_law_all_equal" "_law_all_equal" s_Lall_equal fA fdA) (hA : mg "_law_all_equal" = some (.ref fA)) (bA : Binds K fdA ["_law_actual", "_law_due"] []) (m : Nat) :
    Cal P w K mg base "_law_equal" (2 * m + 1) ["_law_actual", "_law_due"] (sp_Lequal K A m) := ⟨fE, fdE, ok_Lequal FE T (eq_all FE T hE bE FA hA bA m), hE, FE.kp, bE⟩

/-! ### setups, stays and parties as data -/
structure Setup where
  rooms : List Int
  nights : Int
  sellers : Int
  prices : List (List Int)
  share : Int
def rowD (r : List Int) : PyData := .tuple (r.map .int)
def setupD (S : Setup) : PyData := .tuple [rowD S.rooms, .int S.nights, .int S.sellers, .tuple (S.prices.map rowD), .int S.share]
structure SetupOk (S : Setup) : Prop where
  k1 : 1 ≤ S.rooms.length
  k3 : S.rooms.length ≤ 3
  rm : ∀ z ∈ S.rooms, 0 ≤ z ∧ z ≤ 4
  n1 : 1 ≤ S.nights
  n2 : S.nights ≤ 12
  s1 : 1 ≤ S.sellers
  s2 : S.sellers ≤ 4
  pl : S.prices.length = S.rooms.length
  pn : ∀ r ∈ S.prices, r.length = S.nights.toNat ∧ ∀ z ∈ r, 0 ≤ z ∧ z ≤ 1000000
  h1 : 0 ≤ S.share
  h2 : S.share ≤ 100
theorem imm_row (r : List Int) : imm (rowD r) = true := immL_of fun d hd => by obtain ⟨n, _, rfl⟩ := List.mem_map.mp hd; rfl
theorem imm_setup (S : Setup) : imm (setupD S) = true := by
  have h : immL (S.prices.map rowD) = true := immL_of fun d hd => by obtain ⟨r, _, rfl⟩ := List.mem_map.mp hd; exact imm_row r
  simp [setupD, imm, immL, h, imm_row]
/-- the parts of a setup in the heap -/
structure SetAt (H : Hp) (x : V) (S : Setup) (s r p : Addr) (ps : List V) : Prop where
  e : x = .ref s
  t : H s = some (.tup [.ref r, .int S.nights, .int S.sellers, .ref p, .int S.share])
  r : H r = some (.tup (S.rooms.map V.int))
  p : H p = some (.tup ps)
  ps : DaL H ps (S.prices.map rowD)
theorem SetAt.of {H : Hp} {x : V} {S : Setup} (h : Da H x (setupD S)) : ∃ s r p ps, SetAt H x S s r p ps := by
  obtain ⟨s, xs, rfl, e, _, q⟩ := h.tup1
  cases q with
  | cons a q => cases q with
    | cons b q => cases q with
      | cons c q => cases q with
        | cons d q => cases q with
          | cons f q =>
            cases q
            obtain ⟨r, rs, rfl, er, _, qr⟩ := a.tup1
            obtain ⟨p, ps, rfl, ep, _, qp⟩ := d.tup1
            cases b.int1
            cases c.int1
            cases f.int1
            rw [DaL.ints qr] at er
            exact ⟨s, r, p, ps, rfl, e, er, ep, qp⟩
theorem SetAt.row {H : Hp} {x : V} {S : Setup} {s r p : Addr} {ps : List V} (h : SetAt H x S s r p ps) {k : Nat} {row : List Int} (e : S.prices[k]? = some row) : ∃ a, ps[k]? = some (.ref a) ∧ H a = some (.tup (row.map V.int)) := by
  obtain ⟨v, hv, dv⟩ := h.ps.get' (i := k) (d := rowD row) (by rw [List.getElem?_map, e]; rfl)
  obtain ⟨a, xs, rfl, ea, _, q⟩ := dv.tup1
  rw [DaL.ints q] at ea
  exact ⟨a, hv, ea⟩
/-- a stay: kind, first, end -/
abbrev Stay := Int × Int × Int
def stayD (s : Stay) : PyData := .tuple [.int s.1, .int s.2.1, .int s.2.2]
def partyD (ss : List Stay) : PyData := .tuple (ss.map stayD)
def StayOk (S : Setup) (s : Stay) : Prop := 0 ≤ s.1 ∧ s.1 < S.rooms.length ∧ 0 ≤ s.2.1 ∧ s.2.1 < s.2.2 ∧ s.2.2 ≤ S.nights
theorem imm_stay (s : Stay) : imm (stayD s) = true := rfl
theorem imm_stays (ss : List Stay) : immL (ss.map stayD) = true := immL_of fun d hd => by obtain ⟨n, _, rfl⟩ := List.mem_map.mp hd; rfl
theorem imm_party (ss : List Stay) : imm (partyD ss) = true := imm_stays ss
theorem stay_at {H : Hp} {v : V} {s : Stay} (h : Da H v (stayD s)) : ∃ a, v = .ref a ∧ H a = some (.tup [.int s.1, .int s.2.1, .int s.2.2]) := by
  obtain ⟨a, xs, rfl, e, _, q⟩ := h.tup1
  obtain ⟨x, y, z, rfl, dx, dy, dz⟩ := q.three
  cases dx.int1
  cases dy.int1
  cases dz.int1
  exact ⟨a, rfl, e⟩
theorem stays_get {H : Hp} {xs : List V} {ss : List Stay} {i : Nat} {x : V} (h : DaL H xs (ss.map stayD)) (e : xs[i]? = some x) : ∃ s a, ss[i]? = some s ∧ x = .ref a ∧ H a = some (.tup [.int s.1, .int s.2.1, .int s.2.2]) ∧ Da H x (stayD s) := by
  obtain ⟨d, hd, dd⟩ := h.get e
  rw [List.getElem?_map] at hd
  cases q : ss[i]? with
  | none => rw [q] at hd; cases hd
  | some s =>
    rw [q] at hd
    cases hd
    obtain ⟨a, rfl, ea⟩ := stay_at dd
    exact ⟨s, a, rfl, rfl, ea, dd⟩

/-! ### setups, stays and parties are drawn -/
def P_Lsetup (K : PySem.W.Frag) (A : Ad) (x0 : V) (H : Hp) (Q : VK) : Prop := ∃ (d l : Addr), x0 = .ref d ∧ Draws H d l ∧
  ∀ (v : V) (S : Setup) (H' : Hp), SetupOk S → Da H' v (setupD S) → Fr [d] H H' → Draws H' d l → Q v H'
def sp_Lsetup (K : PySem.W.Frag) (A : Ad) : Sp := fun vs H Q _ => ∃ x0, vs = [x0] ∧ P_Lsetup K A x0 H Q
theorem c_Lsetup {K : PySem.W.Frag} {A : Ad} {x0 : V} {H : Hp} {Q : VK} {E : XK} (h : P_Lsetup K A x0 H Q) : sp_Lsetup K A [x0] H Q E := ⟨_, rfl, h⟩
theorem sc_Lsetup : FnScope ["_law_draws", "_law_rooms", "_law_nights", "_law_prices", "_law_k", "_law_t"] ["_law_draws"] (defScope s_Lsetup) := ⟨rfl, rfl, rfl, by decide +kernel, rfl, by decide +kernel, by decide +kernel⟩
def t_Lsetup (K : PySem.W.Frag) (A : Ad) : TS :=
  (tSeq (tAsg (tCB (rTupOf K) (tCons (tLc (iRng1 (tCons (tOp oAdd (tC (.int 1)) (tOp oMod (tCl (sp_Ldraw K A) (tCons (tVar 0) tNil)) (tC (.int 3)))) tNil)) (gName 4) tYes (tOp oMod (tCl (sp_Ldraw K A) (tCons (tVar 0) tNil)) (tC (.int 5))) [4]) tNil)) (gName 1))
    (tSeq (tAsg (tOp oAdd (tC (.int 1)) (tOp oMod (tCl (sp_Ldraw K A) (tCons (tVar 0) tNil)) (tC (.int 12)))) (gName 2))
    (tSeq (tAsg (tLst tNil) (gName 3))
    (tSeq (tFor (iRng1 (tCons (tCB (rLenSq K) (tCons (tVar 1) tNil)) tNil)) (gName 4) (tDrop (tBM K "list" rAppend (tVar 3) (tCons (tCB (rTupOf K) (tCons (tLc (iRng1 (tCons (tVar 2) tNil)) (gName 5) tYes (tOp (rIxL K) (tLst (tCons (tOp oMod (tCl (sp_Ldraw K A) (tCons (tVar 0) tNil)) (tC (.int 200))) (tCons (tC (.int 0)) (tCons (tOp oPow (tC (.int 10)) (tC (.int 6))) (tCons (tOp oMod (tCl (sp_Ldraw K A) (tCons (tVar 0) tNil)) (tC (.int 1000001))) tNil))))) (tOp oMod (tCl (sp_Ldraw K A) (tCons (tVar 0) tNil)) (tC (.int 4)))) [5]) tNil)) tNil))))
    (tRet (tTup (tCons (tVar 1) (tCons (tVar 2) (tCons (tOp oAdd (tC (.int 1)) (tOp oMod (tCl (sp_Ldraw K A) (tCons (tVar 0) tNil)) (tC (.int 4)))) (tCons (tCB (rTupOf K) (tCons (tVar 3) tNil)) (tCons (tOp (rIxL K) (tLst (tCons (tOp oMod (tCl (sp_Ldraw K A) (tCons (tVar 0) tNil)) (tC (.int 101))) (tCons (tC (.int 0)) (tCons (tC (.int 100)) tNil)))) (tOp oMod (tCl (sp_Ldraw K A) (tCons (tVar 0) tNil)) (tC (.int 3)))) tNil)))))))))))
theorem pu_Lsetup (T : Txt K mg A) {x0 : V} {H : Hp} {Q : VK} (h : P_Lsetup K A x0 H Q) : t_Lsetup K A { nx := fun _ H' => Q .non H', rt := Q } [some x0, none, none, none, none, none] H := by
  obtain ⟨d, l, rfl, D0, k⟩ := h
  unfold t_Lsetup
  walk_at "go"
  rename_i z H1 z0 z1 f1 D1
  refine l_range (lo := 0) (n := (1 + z % 3).toNat) fun Dl H2 nD f2 e2 => ⟨fun i acc H' => ∃ r : List Int, acc = r.map V.int ∧ r.length = i ∧ (∀ y ∈ r, 0 ≤ y ∧ y ≤ 4) ∧ Fr [d] H1 H' ∧ Draws H' d l, ⟨[], rfl, rfl, fun _ q => (nomatch q), f2.of0, D1.fr f2 nin0 nin0⟩, fun i acc H' hi ha ⟨r, e, hr, hm, f, D⟩ => ?_, fun acc H' ha ⟨r, e, hr, hm, f, D⟩ => ?_⟩
  · walk_at "go"
    refine ⟨rfl, ?_⟩
    walk_at "go"
    rename_i y H3 y0 y1 f3 D3
    have nd : Dl ≠ d := (D1.new1 nD).symm
    have nl : Dl ≠ l := (D1.new2 nD).symm
    refine lcY_of (f3.at ha (nin1 nd nin0)) (by rw [e]; walk_at "sz") fun H5 f5 e5 => ⟨r ++ [y % 5], by rw [e, List.map_append]; rfl, by rw [List.length_append, hr]; rfl, fun q hq => ?_, ?_, D3.fr f5 (nin1 nd.symm nin0) (nin1 nl.symm nin0)⟩
    · rcases List.mem_append.mp hq with h | h
      · exact hm q h
      · rw [List.mem_singleton.mp h]; omega
    · exact (f.transL f3).own1 f5 nD
  · subst e
    walk_at "go"
    rename_i rt H3 n3 f3 e3 w H4 w0 w1 f4 D4 pl H5 n5 f5 e5
    have nd : d ≠ pl := D4.new1 n5
    have nl : l ≠ pl := D4.new2 n5
    have er : H5 rt = some (.tup (r.map V.int)) := by walk_at "fact"
    have D5 : Draws H5 d l := D4.fr f5 nin0 nin0
    have npl : H pl = none := by walk_at "none"
    have F5 : Fr [d] H H5 := by walk_at "fr"
    rw [List.length_map]
    clear f1 D1 nD f2 e2 f D ha n3 f3 e3 f4 D4 f5 n5
    have hrl : r.length ≤ 3 ∧ 1 ≤ r.length := by omega
    refine f_range (lo := 0) (n := r.length) (fun i σ H' => ∃ (v4 v5 : Option V) (rows : List (List Int)) (xs : List V), σ = [some (.ref d), some (.ref rt), some (.int (1 + w % 12)), some (.ref pl), v4, v5] ∧ Fr [d] H H' ∧ Draws H' d l ∧ H' rt = some (.tup (r.map V.int)) ∧
      H' pl = some (.lst xs) ∧ DaL H' xs (rows.map rowD) ∧ rows.length = i ∧ ∀ q ∈ rows, q.length = (1 + w % 12).toNat ∧ ∀ y ∈ q, 0 ≤ y ∧ y ≤ 1000000)
      ⟨_, _, [], [], rfl, F5, D5, er, e5, .nil, rfl, fun _ q => (nomatch q)⟩ ?_ ?_
    · rintro i σ H6 hi ⟨v4, v5, rows, xs, rfl, f6, D6, er6, ep6, dr, hri, hq⟩
      have hxl : xs.length ≤ 10 := by rw [dr.len, List.length_map]; omega
      walk_at "go"
      refine l_range (lo := 0) (n := (1 + w % 12).toNat) fun Dl H7 nD f7 e7 => ⟨fun j acc H' => ∃ q : List Int, acc = q.map V.int ∧ q.length = j ∧ (∀ y ∈ q, 0 ≤ y ∧ y ≤ 1000000) ∧ Fr [d] H6 H' ∧ Draws H' d l, ⟨[], rfl, rfl, fun _ q => (nomatch q), f7.of0, D6.fr f7 nin0 nin0⟩, fun j acc H' hj ha ⟨q, e, hr, hm, f, D⟩ => ?_, fun acc H' ha ⟨q, e, hql, hm, f, D⟩ => ?_⟩
      · walk_at "go"
        refine ⟨rfl, ?_⟩
        walk_at "go"
        rename_i y1 H8 y10 y11 f8 D8 y2 H9 y20 y21 f9 D9 t H10 n10 f10 e10 y3 H11 y30 y31 f11 D11
        have hnd : Dl ≠ d := (D6.new1 nD).symm
        have hnl : Dl ≠ l := (D6.new2 nD).symm
        have htd : t ≠ d := (D9.new1 n10).symm
        obtain ⟨v, hv, hmem⟩ := atI_mem (xs := [V.int (y1 % 200), V.int 0, V.int (10 ^ Int.toNat 6), V.int (y2 % 1000001)]) (z := y3 % 4) (by omega) (by show y3 % 4 < 4; omega)
        obtain ⟨y, rfl, hy⟩ : ∃ y, v = .int y ∧ 0 ≤ y ∧ y ≤ 1000000 := by
          rcases List.mem_cons.mp hmem with h | hmem
          · exact ⟨_, h, by omega, by omega⟩
          rcases List.mem_cons.mp hmem with h | hmem
          · exact ⟨_, h, by omega, by omega⟩
          rcases List.mem_cons.mp hmem with h | hmem
          · exact ⟨_, h, by decide, by decide⟩
          · exact ⟨_, List.mem_singleton.mp hmem, by omega, by omega⟩
        refine g_ixL (SqL.of (f11.at e10 (nin1 htd nin0))) hv ?_
        have hD : H11 Dl = some (.lst acc) := f11.at (f10.at0 (f9.at (f8.at ha (nin1 hnd nin0)) (nin1 hnd nin0))) (nin1 hnd nin0)
        refine lcY_of hD (by rw [e]; walk_at "sz") fun H12 f12 e12 => ⟨q ++ [y], by rw [e, List.map_append]; rfl, by rw [List.length_append, hr]; rfl, fun z hz => ?_, ?_, D11.fr f12 (nin1 hnd.symm nin0) (nin1 hnl.symm nin0)⟩
        · rcases List.mem_append.mp hz with h | h
          · exact hm z h
          · rw [List.mem_singleton.mp h]; exact hy
        · exact ((((f.transL f8).transL f9).then0 f10).transL f11).own1 f12 nD
      · subst e
        have hpd : pl ≠ d := nd.symm
        have ep7 : H' pl = some (.lst xs) := f.at ep6 (nin1 hpd nin0)
        have hql2 : q.length ≤ 12 := by omega
        walk_at "go"
        rename_i t H8 n8 f8 e8 H9 f9 e9
        exact ⟨_, _, rows ++ [q], _, rfl, ((f6.transL f).then0 f8).own1 f9 npl, (D.fr f8 nin0 nin0).fr f9 (nin1 nd nin0) (nin1 nl nin0), f9.tup _ _ (f8.tup _ _ (f.tup _ _ er6)), e9,
          by rw [List.map_append]; exact (DaL.frL f9 (DaL.frL f8 (DaL.frL f dr (immL_of fun d hd => by obtain ⟨r, _, rfl⟩ := List.mem_map.mp hd; exact imm_row r)) (immL_of fun d hd => by obtain ⟨r, _, rfl⟩ := List.mem_map.mp hd; exact imm_row r)) (immL_of fun d hd => by obtain ⟨r, _, rfl⟩ := List.mem_map.mp hd; exact imm_row r)).append (.one' (.tup (f9.tup _ _ e8) (by rw [List.length_map]; omega) (.ofInts q))),
          by rw [List.length_append, hri]; rfl, fun z hz => (List.mem_append.mp hz).elim (hq z) fun h => by rw [List.mem_singleton.mp h]; exact ⟨hql, hm⟩⟩
    · rintro σ H6 ⟨v4, v5, rows, xs, rfl, f6, D6, er6, ep6, dr, hri, hq⟩
      have hxl : xs.length ≤ 10 := by rw [dr.len, List.length_map]; omega
      have hpd : pl ≠ d := nd.symm
      walk_at "go"
      rename_i m H7 m0 m1 f7 D7 pt H8 n8 f8 e8 y1 H9 y10 y11 f9 D9 t H10 n10 f10 e10 y2 H11 y20 y21 f11 D11
      have htd : t ≠ d := (D9.new1 n10).symm
      obtain ⟨v, hv, hmem⟩ := atI_mem (xs := [V.int (y1 % 101), V.int 0, V.int 100]) (z := y2 % 3) (by omega) (by show y2 % 3 < 3; omega)
      obtain ⟨y, rfl, hy⟩ : ∃ y, v = .int y ∧ 0 ≤ y ∧ y ≤ 100 := by
        rcases List.mem_cons.mp hmem with h | hmem
        · exact ⟨_, h, by omega, by omega⟩
        rcases List.mem_cons.mp hmem with h | hmem
        · exact ⟨_, h, by omega, by omega⟩
        · exact ⟨_, List.mem_singleton.mp hmem, by decide, by decide⟩
      refine g_ixL (SqL.of (f11.at e10 (nin1 htd nin0))) hv ?_
      walk_at "go"
      rename_i st H12 n12 f12 e12
      have ir : immL (rows.map rowD) = true := immL_of fun d hd => by obtain ⟨r, _, rfl⟩ := List.mem_map.mp hd; exact imm_row r
      have F : Fr [d] H6 H12 := by walk_at "fr"
      refine k _ ⟨r, 1 + w % 12, 1 + m % 4, rows, y⟩ H12 ⟨hrl.2, hrl.1, hm, by show 1 ≤ 1 + w % 12; omega, by show 1 + w % 12 ≤ 12; omega, by show 1 ≤ 1 + m % 4; omega, by show 1 + m % 4 ≤ 4; omega, hri, hq, hy.1, hy.2⟩ (.tup e12 (Nat.le_of_ble_eq_true rfl) ?_) (f6.transL F) (D11.fr f12 nin0 nin0)
      exact .cons (.tup (F.tup _ _ er6) (by rw [List.length_map]; omega) (.ofInts r)) (.cons (.int _) (.cons (.int _) (.cons (.tup (f12.tup _ _ (f11.tup _ _ (f10.tup _ _ (f9.tup _ _ e8)))) (by omega) (DaL.frL F dr ir)) (.one' (.int _)))))
theorem ok_Lsetup {f : Addr} {fd : FuncData} (F : Fun K "_law_setup" "_law_setup" s_Lsetup f fd) (T : Txt K mg A) (c_Ldraw : Cal P w K mg base "_law_draw" 2 ["_law_draws"] (sp_Ldraw K A)) : FnOk P w K mg base CX0 (3) f fd ["_law_draws"] (sp_Lsetup K A) := by
  refine F.ok sc_Lsetup (fun vs H Q E h => ?_) (fun cdv Ar outer s H vs Q E hr h => ⟨t_Lsetup K A, ?_, ?_⟩)
  · obtain ⟨x0, rfl, _⟩ := h
    rfl
  · have hu := hu_of hr
    exact (pss_cons (ps_set (i := 1) sc_Lsetup.nd rfl (Or.inl rfl) (pe_callTy b_tuple (by rfl) T.b_tuple (by decide +kernel) (pa_cons (pe_lc (own := [("_law_k", 4)]) (g := (gName 4)) (tt := tYes) rfl sc_Lsetup.nd (pi_range1 rfl T.b_range (pa_cons (pe_op o_add pe_int (pe_op o_mod (pe_cl c_Ldraw (hr.mono (by first | decide | omega)) (by rfl) (pa_cons (pv 0) pa_nil)) pe_int)) pa_nil)) (blkOk_by (N := ["_law_draws", "_law_rooms", "_law_nights", "_law_prices", "_law_k", "_law_t"]) (sc := defScope s_Lsetup) (own := [("_law_k", 4)]) (by decide +kernel)) (fun _ _ _ _ _ => (pg_name (i := 4) sc_Lsetup.nd rfl (Or.inl rfl))) (fun _ _ _ _ _ => pts_nil) (fun _ _ _ _ _ => (pe_op o_mod (pe_cl c_Ldraw (hr.mono (by first | decide | omega)) (by rfl) (pa_cons (pv 0) pa_nil)) pe_int))) pa_nil)))
    (pss_cons (ps_set (i := 2) sc_Lsetup.nd rfl (Or.inl rfl) (pe_op o_add pe_int (pe_op o_mod (pe_cl c_Ldraw (hr.mono (by first | decide | omega)) (by rfl) (pa_cons (pv 0) pa_nil)) pe_int)))
    (pss_cons (ps_set (i := 3) sc_Lsetup.nd rfl (Or.inl rfl) (pe_lst pa_nil))
    (pss_cons (ps_for PassesOwn.never rfl (pi_range1 rfl T.b_range (pa_cons (pe_callB b_len (by rfl) T.b_len (by decide +kernel) (pa_cons (pv 1) pa_nil)) pa_nil)) (pg_name (i := 4) sc_Lsetup.nd rfl (Or.inl rfl)) (pss_one (ps_expr (pe_bm PySem.F.plainAttrs_list PySem.F.slot_list_append PySem.F.type_list_append mt_append (pv 3) (pa_cons (pe_callTy b_tuple (by rfl) T.b_tuple (by decide +kernel) (pa_cons (pe_lc (own := [("_law_t", 5)]) (g := (gName 5)) (tt := tYes) rfl sc_Lsetup.nd (pi_range1 rfl T.b_range (pa_cons (pv 2) pa_nil)) (blkOk_by (N := ["_law_draws", "_law_rooms", "_law_nights", "_law_prices", "_law_k", "_law_t"]) (sc := defScope s_Lsetup) (own := [("_law_t", 5)]) (by decide +kernel)) (fun _ _ _ _ _ => (pg_name (i := 5) sc_Lsetup.nd rfl (Or.inl rfl))) (fun _ _ _ _ _ => pts_nil) (fun _ _ _ _ _ => (pe_ix ix_list (pe_lst (pa_cons (pe_op o_mod (pe_cl c_Ldraw (hr.mono (by first | decide | omega)) (by rfl) (pa_cons (pv 0) pa_nil)) pe_int) (pa_cons pe_int (pa_cons (pe_op o_pow pe_int pe_int) (pa_cons (pe_op o_mod (pe_cl c_Ldraw (hr.mono (by first | decide | omega)) (by rfl) (pa_cons (pv 0) pa_nil)) pe_int) pa_nil))))) (pe_op o_mod (pe_cl c_Ldraw (hr.mono (by first | decide | omega)) (by rfl) (pa_cons (pv 0) pa_nil)) pe_int) (fun _ _ => rfl)))) pa_nil)) pa_nil)))))
    (pss_one (ps_ret (pe_tup (pa_cons (pv 1) (pa_cons (pv 2) (pa_cons (pe_op o_add pe_int (pe_op o_mod (pe_cl c_Ldraw (hr.mono (by first | decide | omega)) (by rfl) (pa_cons (pv 0) pa_nil)) pe_int)) (pa_cons (pe_callTy b_tuple (by rfl) T.b_tuple (by decide +kernel) (pa_cons (pv 3) pa_nil)) (pa_cons (pe_ix ix_list (pe_lst (pa_cons (pe_op o_mod (pe_cl c_Ldraw (hr.mono (by first | decide | omega)) (by rfl) (pa_cons (pv 0) pa_nil)) pe_int) (pa_cons pe_int (pa_cons pe_int pa_nil)))) (pe_op o_mod (pe_cl c_Ldraw (hr.mono (by first | decide | omega)) (by rfl) (pa_cons (pv 0) pa_nil)) pe_int) (fun _ _ => rfl)) pa_nil))))))))))))
  · obtain ⟨x0, rfl, h⟩ := h
    exact pu_Lsetup T h
def P_Lstay (K : PySem.W.Frag) (A : Ad) (x0 x1 : V) (H : Hp) (Q : VK) : Prop := ∃ (d l : Addr) (S : Setup), x0 = .ref d ∧ Draws H d l ∧ SetupOk S ∧ Da H x1 (setupD S) ∧
  ∀ (v : V) (s : Stay) (H' : Hp), StayOk S s → Da H' v (stayD s) → Fr [d] H H' → Draws H' d l → Q v H'
def sp_Lstay (K : PySem.W.Frag) (A : Ad) : Sp := fun vs H Q _ => ∃ x0 x1, vs = [x0, x1] ∧ P_Lstay K A x0 x1 H Q
theorem c_Lstay {K : PySem.W.Frag} {A : Ad} {x0 x1 : V} {H : Hp} {Q : VK} {E : XK} (h : P_Lstay K A x0 x1 H Q) : sp_Lstay K A [x0, x1] H Q E := ⟨_, _, rfl, h⟩
theorem sc_Lstay : FnScope ["_law_draws", "_law_setup_here", "_law_first", "_law_most"] ["_law_draws", "_law_setup_here"] (defScope s_Lstay) := ⟨rfl, rfl, rfl, by decide +kernel, rfl, by decide +kernel, by decide +kernel⟩
def t_Lstay (K : PySem.W.Frag) (A : Ad) : TS :=
  (tSeq (tAsg (tOp oMod (tCl (sp_Ldraw K A) (tCons (tVar 0) tNil)) (tOp (rIxT K) (tVar 1) (tC (.int 1)))) (gName 2))
    (tSeq (tAsg (tOp oSub (tOp (rIxT K) (tVar 1) (tC (.int 1))) (tVar 2)) (gName 3))
    (tRet (tTup (tCons (tOp oMod (tCl (sp_Ldraw K A) (tCons (tVar 0) tNil)) (tCB (rLenSq K) (tCons (tOp (rIxT K) (tVar 1) (tC (.int 0))) tNil))) (tCons (tVar 2) (tCons (tOp oAdd (tOp oAdd (tVar 2) (tC (.int 1))) (tOp oMod (tCl (sp_Ldraw K A) (tCons (tVar 0) tNil)) (tOp (rIxL K) (tLst (tCons (tVar 3) (tCons (tCB rMin2 (tCons (tVar 3) (tCons (tC (.int 3)) tNil))) tNil))) (tOp oMod (tCl (sp_Ldraw K A) (tCons (tVar 0) tNil)) (tC (.int 2)))))) tNil)))))))
theorem pu_Lstay (T : Txt K mg A) {x0 x1 : V} {H : Hp} {Q : VK} (h : P_Lstay K A x0 x1 H Q) : t_Lstay K A { nx := fun _ H' => Q .non H', rt := Q } [some x0, some x1, none, none] H := by
  obtain ⟨d, l, S, rfl, D0, ok, dS, k⟩ := h
  obtain ⟨s, r, p, ps, sa⟩ := SetAt.of dS
  cases sa.e
  have e0 := sa.t
  have er := sa.r
  have hn := ok.n1
  have hk := ok.k1
  unfold t_Lstay
  walk_at "go"
  rename_i y1 H1 y10 y11 f1 D1 y2 H2 y20 y21 f2 D2 y3 H3 y30 y31 f3 D3 t H4 n4 f4 e4 y4 H5 y40 y41 f5 D5
  have htd : t ≠ d := (D3.new1 n4).symm
  have b0 := Int.emod_nonneg y1 (show S.nights ≠ 0 by omega)
  have b1 := Int.emod_lt_of_pos y1 (show 0 < S.nights by omega)
  have g0 := Int.emod_nonneg y2 (show ((S.rooms.length : Nat) : Int) ≠ 0 by omega)
  have g1 := Int.emod_lt_of_pos y2 (show 0 < ((S.rooms.length : Nat) : Int) by omega)
  obtain ⟨v, hv, hmem⟩ := atI_mem (xs := [V.int (S.nights - y1 % S.nights), V.int (if (3 : Int) < S.nights - y1 % S.nights then 3 else S.nights - y1 % S.nights)]) (z := y4 % 2) (by omega) (by show y4 % 2 < 2; omega)
  obtain ⟨y, rfl, hy⟩ : ∃ y, v = .int y ∧ 0 < y ∧ y ≤ S.nights - y1 % S.nights := by
    rcases List.mem_cons.mp hmem with h | hmem
    · exact ⟨_, h, by omega, by omega⟩
    · exact ⟨_, List.mem_singleton.mp hmem, by split <;> omega, by split <;> omega⟩
  refine g_ixL (SqL.of (f5.at e4 (nin1 htd nin0))) hv ?_
  obtain ⟨hy0, hy1⟩ := hy
  walk_at "go"
  rename_i st H6 n6 f6 e6
  have k0 := Int.emod_nonneg y3 (show y ≠ 0 by omega)
  have k1 := Int.emod_lt_of_pos y3 hy0
  rw [List.length_map] at e6
  exact k _ (y2 % (S.rooms.length : Int), y1 % S.nights, y1 % S.nights + 1 + y3 % y) H6 ⟨g0, g1, b0, by show y1 % S.nights < y1 % S.nights + 1 + y3 % y; omega, by show y1 % S.nights + 1 + y3 % y ≤ S.nights; omega⟩
    (.tup e6 (Nat.le_of_ble_eq_true rfl) (.cons (.int _) (.cons (.int _) (.one' (.int _))))) (by walk_at "fr") (D5.fr f6 nin0 nin0)
theorem ok_Lstay {f : Addr} {fd : FuncData} (F : Fun K "_law_stay" "_law_stay" s_Lstay f fd) (T : Txt K mg A) (c_Ldraw : Cal P w K mg base "_law_draw" 2 ["_law_draws"] (sp_Ldraw K A)) : FnOk P w K mg base CX0 (3) f fd ["_law_draws", "_law_setup_here"] (sp_Lstay K A) := by
  refine F.ok sc_Lstay (fun vs H Q E h => ?_) (fun cdv Ar outer s H vs Q E hr h => ⟨t_Lstay K A, ?_, ?_⟩)
  · obtain ⟨x0, x1, rfl, _⟩ := h
    rfl
  · have hu := hu_of hr
    exact (pss_cons (ps_set (i := 2) sc_Lstay.nd rfl (Or.inl rfl) (pe_op o_mod (pe_cl c_Ldraw (hr.mono (by first | decide | omega)) (by rfl) (pa_cons (pv 0) pa_nil)) (pe_ix ix_tup (pv 1) pe_int (fun _ _ => rfl))))
    (pss_cons (ps_set (i := 3) sc_Lstay.nd rfl (Or.inl rfl) (pe_op o_sub (pe_ix ix_tup (pv 1) pe_int (fun _ _ => rfl)) (pv 2)))
    (pss_one (ps_ret (pe_tup (pa_cons (pe_op o_mod (pe_cl c_Ldraw (hr.mono (by first | decide | omega)) (by rfl) (pa_cons (pv 0) pa_nil)) (pe_callB b_len (by rfl) T.b_len (by decide +kernel) (pa_cons (pe_ix ix_tup (pv 1) pe_int (fun _ _ => rfl)) pa_nil))) (pa_cons (pv 2) (pa_cons (pe_op o_add (pe_op o_add (pv 2) pe_int) (pe_op o_mod (pe_cl c_Ldraw (hr.mono (by first | decide | omega)) (by rfl) (pa_cons (pv 0) pa_nil)) (pe_ix ix_list (pe_lst (pa_cons (pv 3) (pa_cons (pe_callB (b_min2 rfl) (by rfl) T.b_min (by decide +kernel) (pa_cons (pv 3) (pa_cons pe_int pa_nil))) pa_nil))) (pe_op o_mod (pe_cl c_Ldraw (hr.mono (by first | decide | omega)) (by rfl) (pa_cons (pv 0) pa_nil)) pe_int) (fun _ _ => rfl)))) pa_nil))))))))
  · obtain ⟨x0, x1, rfl, h⟩ := h
    exact pu_Lstay T h
theorem stays_alike (ss : List Stay) : PySem.W.AllAlike (ss.map stayD) := fun d hd d' hd' => by
  obtain ⟨s, _, rfl⟩ := List.mem_map.mp hd
  obtain ⟨s', _, rfl⟩ := List.mem_map.mp hd'
  rfl
theorem stays_sortable (ss : List Stay) : PySem.W.Sortable (ss.map stayD) := .inl fun d hd => by
  obtain ⟨s, _, rfl⟩ := List.mem_map.mp hd
  exact ⟨_, _, rfl⟩
theorem stays_depth (ss : List Stay) : ∀ d ∈ ss.map stayD, d.depth ≤ 60 := fun d hd => by
  obtain ⟨s, _, rfl⟩ := List.mem_map.mp hd
  simp [stayD, PyData.depth, PyData.depthAll]
/-- stays in their order -/
def ssrt (ss : List Stay) : List Stay := ss.mergeSort (PySem.W.dataLe false stayD)
theorem ssrt_map (ss : List Stay) : (ssrt ss).map stayD = srt (ss.map stayD) := srt_map stayD ss
theorem ssrt_perm (ss : List Stay) : (ssrt ss).Perm ss := List.mergeSort_perm ss _
theorem ssrt_ssrt (ss : List Stay) : ssrt (ssrt ss) = ssrt ss := List.mergeSort_of_pairwise (PySem.W.sort_pairwise (dle_total stayD) ss)
/-- a party of the setup -/
structure PartyOk (S : Setup) (ss : List Stay) : Prop where
  l1 : 1 ≤ ss.length
  l4 : ss.length ≤ 4
  ok : ∀ s ∈ ss, StayOk S s
  so : ssrt ss = ss

def P_Lparty (K : PySem.W.Frag) (A : Ad) (x0 x1 : V) (H : Hp) (Q : VK) : Prop := ∃ (d l : Addr) (S : Setup), x0 = .ref d ∧ Draws H d l ∧ SetupOk S ∧ Da H x1 (setupD S) ∧
  ∀ (v : V) (ss : List Stay) (H' : Hp), PartyOk S ss → Da H' v (partyD ss) → Fr [d] H H' → Draws H' d l → Q v H'
def sp_Lparty (K : PySem.W.Frag) (A : Ad) : Sp := fun vs H Q _ => ∃ x0 x1, vs = [x0, x1] ∧ P_Lparty K A x0 x1 H Q
theorem c_Lparty {K : PySem.W.Frag} {A : Ad} {x0 x1 : V} {H : Hp} {Q : VK} {E : XK} (h : P_Lparty K A x0 x1 H Q) : sp_Lparty K A [x0, x1] H Q E := ⟨_, _, rfl, h⟩
theorem sc_Lparty : FnScope ["_law_draws", "_law_setup_here", "_law_many", "_law_stays", "_law_k"] ["_law_draws", "_law_setup_here"] (defScope s_Lparty) := ⟨rfl, rfl, rfl, by decide +kernel, rfl, by decide +kernel, by decide +kernel⟩
def t_Lparty (K : PySem.W.Frag) (A : Ad) : TS :=
  (tSeq (tAsg (tOp (rIxL K) (tLst (tCons (tC (.int 1)) (tCons (tC (.int 1)) (tCons (tC (.int 1)) (tCons (tC (.int 2)) (tCons (tC (.int 2)) (tCons (tC (.int 3)) (tCons (tC (.int 4)) tNil)))))))) (tOp oMod (tCl (sp_Ldraw K A) (tCons (tVar 0) tNil)) (tC (.int 7)))) (gName 2))
    (tSeq (tAsg (tLc (iRng1 (tCons (tVar 2) tNil)) (gName 4) tYes (tCl (sp_Lstay K A) (tCons (tVar 0) (tCons (tVar 1) tNil))) [4]) (gName 3))
    (Evl.tCut (tIfS (tAnd (tTest (tOp cGt (tVar 2) (tC (.int 1)))) (tTest (tOp rEq (tOp oMod (tCl (sp_Ldraw K A) (tCons (tVar 0) tNil)) (tC (.int 4))) (tC (.int 0))))) (tAsg (tOp (rIxL K) (tVar 3) (tC (.int 0))) (gSub (tVar 3) (tC (.int 1)) rSetL)) tNext)
    (tRet (tCB (rTupOf K) (tCons (tCB (rSortD K) (tCons (tVar 3) tNil)) tNil))))))
theorem pu_Lparty (T : Txt K mg A) {x0 x1 : V} {H : Hp} {Q : VK} (h : P_Lparty K A x0 x1 H Q) : t_Lparty K A { nx := fun _ H' => Q .non H', rt := Q } [some x0, some x1, none, none, none] H := by
  obtain ⟨d, l, S, rfl, D0, ok, dS, k⟩ := h
  unfold t_Lparty
  walk_at "go"
  rename_i t H1 n1 f1 e1 y H2 y0 y1 f2 D2
  have htd : t ≠ d := ((D0.fr f1 nin0 nin0).ne' e1 (by decide)).symm
  obtain ⟨v, hv, hmem⟩ := atI_mem (xs := [V.int 1, V.int 1, V.int 1, V.int 2, V.int 2, V.int 3, V.int 4]) (z := y % 7) (by omega) (by show y % 7 < 7; omega)
  obtain ⟨m, rfl, hm1, hm4⟩ : ∃ m, v = .int m ∧ 1 ≤ m ∧ m ≤ 4 := by
    simp only [List.mem_cons, List.not_mem_nil, or_false] at hmem
    rcases hmem with h | h | h | h | h | h | h <;> exact ⟨_, h, by decide, by decide⟩
  refine g_ixL (SqL.of (f2.at e1 (nin1 htd nin0))) hv ?_
  have F2 : Fr [d] H H2 := f2.pre0' f1
  have dS2 := Da.frL F2 dS (imm_setup S)
  walk_at "go"
  refine l_range (lo := 0) (n := m.toNat) fun Dl H3 nD f3 e3 => ⟨fun i acc H' => ∃ ss : List Stay, DaL H' acc (ss.map stayD) ∧ ss.length = i ∧ (∀ s ∈ ss, StayOk S s) ∧ Fr [d] H2 H' ∧ Draws H' d l, ⟨[], .nil, rfl, fun _ q => (nomatch q), f3.of0, D2.fr f3 nin0 nin0⟩, fun i acc H' hi ha ⟨ss, ds, hs, hk, f, D⟩ => ?_, fun acc H' ha ⟨ss, ds, hs, hk, f, D⟩ => ?_⟩
  · walk_at "go"
    refine ⟨rfl, ?_⟩
    walk_at "go"
    refine c_Lstay ⟨d, l, S, rfl, D, ok, Da.frL f dS2 (imm_setup S), fun v s H4 so dv f4 D4 => ?_⟩
    have hnd : Dl ≠ d := (D2.new1 nD).symm
    have hnl : Dl ≠ l := (D2.new2 nD).symm
    have hac : acc.length ≤ 100 := by rw [ds.len, List.length_map]; omega
    refine lcY_of (f4.at ha (nin1 hnd nin0)) (by walk_at "sz") fun H5 f5 e5 => ⟨ss ++ [s], ?_, by rw [List.length_append, hs]; rfl, fun z hz => ?_, (f.transL f4).own1 f5 nD, D4.fr f5 (nin1 hnd.symm nin0) (nin1 hnl.symm nin0)⟩
    · rw [List.map_append]
      exact (DaL.frL f5 (DaL.frL f4 ds (imm_stays ss)) (imm_stays ss)).append (.one' (Da.frL f5 dv rfl))
    · rcases List.mem_append.mp hz with h | h
      · exact hk z h
      · rw [List.mem_singleton.mp h]; exact so
  · have hnd : Dl ≠ d := (D2.new1 nD).symm
    have hnl : Dl ≠ l := (D2.new2 nD).symm
    have nDH : H Dl = none := F2.freeL nD (nin1 hnd nin0)
    have hac : acc.length = ss.length := by rw [ds.len, List.length_map]
    walk_at "go"
    refine g_cut (fun σ H' => ∃ (v4 : Option V) (acc : List V) (ss : List Stay), σ = [some (.ref d), some x1, some (.int m), some (.ref Dl), v4] ∧ H' Dl = some (.lst acc) ∧ DaL H' acc (ss.map stayD) ∧ 1 ≤ ss.length ∧ ss.length ≤ 4 ∧ (∀ s ∈ ss, StayOk S s) ∧ Fr [d] H H' ∧ Draws H' d l) ?_ ?_
    · walk_at "go"
      refine g_ite (fun c => ?_) (fun c => ?_)
      · walk_at "go"
        rename_i z H4 z0 z1 f4 D4
        refine g_ite (fun c2 => ?_) (fun c2 => ?_)
        · obtain ⟨w, hw, hw2⟩ := atI_of (xs := acc) (z := 0) (Int.le_refl _) (by omega)
          obtain ⟨s, a, hs0, rfl, _, da⟩ := stays_get ds hw2
          have ha4 : H4 Dl = some (.lst acc) := f4.at ha (nin1 hnd nin0)
          walk_at "go"
          refine g_ixL (SqL.of ha4) hw ?_
          walk_at "go"
          refine g_setL ha4 (j := 1) (by unfold ixN; rw [if_pos (by decide), if_pos (by omega)]; rfl) fun H5 f5 e5 => ?_
          walk_at "go"
          refine ⟨_, _, ss.set 1 s, rfl, e5, ?_, by rw [List.length_set]; omega, by rw [List.length_set]; omega, fun z hz => ?_, ((F2.transL f).transL f4).own1 f5 nDH, D4.fr f5 (nin1 hnd.symm nin0) (nin1 hnl.symm nin0)⟩
          · rw [List.map_set]
            exact (DaL.frL f5 (DaL.frL f4 ds (imm_stays ss)) (imm_stays ss)).set (Da.frL f5 (Da.frL f4 da rfl) rfl)
          · rcases List.mem_or_eq_of_mem_set hz with h | h
            · exact hk z h
            · rw [h]; exact hk s (List.mem_of_getElem? hs0)
        · walk_at "go"
          exact ⟨_, _, ss, rfl, f4.at ha (nin1 hnd nin0), DaL.frL f4 ds (imm_stays ss), by omega, by omega, hk, (F2.transL f).transL f4, D4⟩
      · walk_at "go"
        exact ⟨_, _, ss, rfl, ha, ds, by omega, by omega, hk, F2.transL f, D⟩
    · rintro σ H4 ⟨v4, acc, ss, rfl, ha, ds, h1, h4, hk, F4, D4⟩
      walk_at "go"
      refine g_srt (SqL.of ha) ds (stays_alike ss) (stays_sortable ss) (stays_depth ss) fun p H5 ys n5 f5 e5 dy => ?_
      rw [← ssrt_map] at dy
      have dy5 := DaL.frL f5 dy (imm_stays _)
      have hy : ys.length = ss.length := by rw [dy.len, List.length_map, (ssrt_perm ss).length_eq]
      walk_at "go"
      rename_i q H6 n6 f6 e6
      exact k _ (ssrt ss) H6 ⟨by rw [(ssrt_perm ss).length_eq]; exact h1, by rw [(ssrt_perm ss).length_eq]; exact h4, fun s hs => hk s ((ssrt_perm ss).mem_iff.mp hs), ssrt_ssrt ss⟩ (.tup e6 (by omega) (DaL.frL f6 dy5 (imm_stays _))) ((F4.then0 f5).then0 f6) ((D4.fr f5 nin0 nin0).fr f6 nin0 nin0)
theorem ok_Lparty {f : Addr} {fd : FuncData} (F : Fun K "_law_party" "_law_party" s_Lparty f fd) (T : Txt K mg A) (c_Lstay : Cal P w K mg base "_law_stay" 3 ["_law_draws", "_law_setup_here"] (sp_Lstay K A)) (c_Ldraw : Cal P w K mg base "_law_draw" 2 ["_law_draws"] (sp_Ldraw K A)) : FnOk P w K mg base CX0 (4) f fd ["_law_draws", "_law_setup_here"] (sp_Lparty K A) := by
  refine F.ok sc_Lparty (fun vs H Q E h => ?_) (fun cdv Ar outer s H vs Q E hr h => ⟨t_Lparty K A, ?_, ?_⟩)
  · obtain ⟨x0, x1, rfl, _⟩ := h
    rfl
  · have hu := hu_of hr
    exact (pss_cons (ps_set (i := 2) sc_Lparty.nd rfl (Or.inl rfl) (pe_ix ix_list (pe_lst (pa_cons pe_int (pa_cons pe_int (pa_cons pe_int (pa_cons pe_int (pa_cons pe_int (pa_cons pe_int (pa_cons pe_int pa_nil)))))))) (pe_op o_mod (pe_cl c_Ldraw (hr.mono (by first | decide | omega)) (by rfl) (pa_cons (pv 0) pa_nil)) pe_int) (fun _ _ => rfl)))
    (pss_cons (ps_setLc (i := 3) (own := [("_law_k", 4)]) (g := (gName 4)) (tt := tYes) rfl sc_Lparty.nd rfl rfl (sw_true rfl rfl rfl (by decide +kernel)) (pi_range1 rfl T.b_range (pa_cons (pv 2) pa_nil)) (blkOk_by (N := ["_law_draws", "_law_setup_here", "_law_many", "_law_stays", "_law_k"]) (sc := defScope s_Lparty) (own := [("_law_k", 4)]) (by decide +kernel)) (fun _ _ _ _ _ => (pg_name (i := 4) sc_Lparty.nd rfl (Or.inl rfl))) (fun _ _ _ _ _ => pts_nil) (fun _ _ _ _ _ => (pe_cl c_Lstay (hr.mono (by first | decide | omega)) (by rfl) (pa_cons (pv 0) (pa_cons (pv 1) pa_nil)))))
    (Evl.pss_cut (ps_if (PW.pt (pw_and (pt_cmpR c_gt (pv 2) pe_int (nomark _)) (pw_and1 (pt_cmpR op_eq (pe_op o_mod (pe_cl c_Ldraw (hr.mono (by first | decide | omega)) (by rfl) (pa_cons (pv 0) pa_nil)) pe_int) pe_int (nomark _))))) (pss_one (ps_asg (pe_ix ix_list (pv 3) pe_int (fun _ _ => rfl)) (pg_sub (pv 3) pe_int set_list))) pss_nil)
    (pss_one (ps_ret (pe_callTy b_tuple (by rfl) T.b_tuple (by decide +kernel) (pa_cons (pe_callB (b_sortD hr.units) (by rfl) T.b_sorted (by decide +kernel) (pa_cons (pv 3) pa_nil)) pa_nil)))))))
  · obtain ⟨x0, x1, rfl, h⟩ := h
    exact pu_Lparty T h

/-! ### cells and needs -/
abbrev Cell := Int × Int
def ck (c : Cell) : List Key := [.inl c.1, .inl c.2]
theorem ck_inj : ∀ a b : Cell, ck a = ck b → a = b := fun a b h => by
  obtain ⟨a1, a2⟩ := a
  obtain ⟨b1, b2⟩ := b
  unfold ck at h
  simp only [List.cons.injEq, Sum.inl.injEq, and_true] at h
  rw [h.1, h.2]
/-- a dict from cells to numbers -/
abbrev cD (m : List (Cell × Int)) : List (List Key × V) := enD ck V.int m
def cellsOf (s : Stay) : List Cell := (List.range (s.2.2 - s.2.1).toNat).map fun i => (s.1, s.2.1 + (i : Nat))
def bump (m : List (Cell × Int)) (c : Cell) : List (Cell × Int) := pt m c ((lk m c).getD 0 + 1)
def needsL (ss : List Stay) : List (Cell × Int) := (ss.flatMap cellsOf).foldl bump []
theorem pt_len {κ α : Type} [DecidableEq κ] (m : List (κ × α)) (k : κ) (v : α) : (pt m k v).length ≤ m.length + 1 := by
  unfold pt
  split
  · rw [List.length_map]; omega
  · rw [List.length_append]; simp
theorem fold_len : ∀ (cs : List Cell) (m : List (Cell × Int)), (cs.foldl bump m).length ≤ m.length + cs.length
  | [], _ => Nat.le_refl _
  | c :: cs, m => by
    have h := fold_len cs (bump m c)
    have h2 : (bump m c).length ≤ m.length + 1 := pt_len m c _
    show (cs.foldl bump (bump m c)).length ≤ m.length + (cs.length + 1)
    omega
theorem val_cell (m : List (Cell × Int)) (c : Cell) : valV (cD m) (ck c) = (lk m c).map V.int := enD_val ck_inj m c
theorem put_cell (m : List (Cell × Int)) (c : Cell) (v : Int) : putK (cD m) (ck c) (.int v) = cD (pt m c v) := enD_put ck_inj m c v
theorem cellsOf_len (s : Stay) : (cellsOf s).length = (s.2.2 - s.2.1).toNat := by unfold cellsOf; rw [List.length_map, List.length_range]
theorem flat_len : ∀ (ss : List Stay) (n : Nat), (∀ s ∈ ss, (s.2.2 - s.2.1).toNat ≤ n) → (ss.flatMap cellsOf).length ≤ n * ss.length
  | [], _, _ => by simp
  | s :: ss, n, h => by
    have h1 := flat_len ss n fun z hz => h z (List.mem_cons_of_mem _ hz)
    have h2 := h s List.mem_cons_self
    rw [List.flatMap_cons, List.length_append, cellsOf_len, List.length_cons, Nat.mul_succ]
    omega
/-- the keys differ -/
def Nd {κ α : Type} (m : List (κ × α)) : Prop := (m.map (·.1)).Nodup
/-! sums over needs -/
theorem pt_keys {κ α : Type} [DecidableEq κ] (m : List (κ × α)) (k : κ) (v : α) : (pt m k v).map (·.1) = if k ∈ m.map (·.1) then m.map (·.1) else m.map (·.1) ++ [k] := by
  have h : (m.any fun e => decide (e.1 = k)) = decide (k ∈ m.map (·.1)) := by
    induction m with
    | nil => simp
    | cons e r ih =>
      rw [List.any_cons, ih]
      by_cases q : e.1 = k
      · simp [q]
      · have q2 : ¬ k = e.1 := fun z => q z.symm
        simp [q, q2]
  unfold pt
  rw [h]
  by_cases q : k ∈ m.map (·.1)
  · rw [if_pos (decide_eq_true q), if_pos q, List.map_map]
    refine List.map_congr_left fun e _ => ?_
    show (if e.1 = k then (e.1, v) else e).1 = e.1
    split <;> rfl
  · rw [if_neg (by simpa using q), if_neg q, List.map_append]
    rfl
theorem Nd.pt {κ α : Type} [DecidableEq κ] {m : List (κ × α)} (h : Nd m) (k : κ) (v : α) : Nd (pt m k v) := by
  unfold Nd
  rw [pt_keys]
  split
  · exact h
  · rename_i q
    exact List.nodup_append.mpr ⟨h, by simp, fun a ha b hb => by rw [List.mem_singleton.mp hb]; exact fun z => q (z ▸ ha)⟩
theorem lk_none {κ α : Type} [DecidableEq κ] : ∀ {m : List (κ × α)} {k : κ}, k ∉ m.map (·.1) → lk m k = none
  | [], _, _ => rfl
  | e :: r, k, h => by
    have h1 : ¬ e.1 = k := fun z => h (by simp [z])
    have h2 : k ∉ r.map (·.1) := fun z => h (by simp [z])
    have := lk_none (m := r) h2
    simp only [lk, List.find?_cons, decide_eq_false h1]
    exact this
theorem lk_mem {κ α : Type} [DecidableEq κ] : ∀ {m : List (κ × α)} {e : κ × α}, Nd m → e ∈ m → lk m e.1 = some e.2
  | a :: r, e, h, he => by
    have h : (a.1 :: r.map (·.1)).Nodup := h
    obtain ⟨h1, h2⟩ := List.nodup_cons.mp h
    rcases List.mem_cons.mp he with q | q
    · subst q; simp [lk, List.find?_cons]
    · have hne : ¬ a.1 = e.1 := fun z => h1 (z ▸ List.mem_map.mpr ⟨e, q, rfl⟩)
      have := lk_mem (m := r) h2 q
      simp only [lk, List.find?_cons, decide_eq_false hne]
      exact this
theorem lk_some {κ α : Type} [DecidableEq κ] : ∀ {m : List (κ × α)} {k : κ} {v : α}, lk m k = some v → (k, v) ∈ m
  | e :: r, k, v, h => by
    by_cases q : e.1 = k
    · simp [lk, List.find?_cons, q] at h
      rw [← h, ← q]; exact List.mem_cons_self
    · simp only [lk, List.find?_cons, decide_eq_false q] at h
      exact List.mem_cons_of_mem _ (lk_some (m := r) h)
/-- the sum over a table of cells, each number weighed -/
def sumW (p : Cell → Int) (m : List (Cell × Int)) : Int := (m.map fun e => p e.1 * e.2).sum
theorem sumW_map {p : Cell → Int} {c : Cell} {n k : Int} : ∀ {m : List (Cell × Int)}, Nd m → lk m c = some n → sumW p (m.map fun e => if e.1 = c then (e.1, k) else e) = sumW p m + p c * (k - n)
  | e :: r, h, hl => by
    have h : (e.1 :: r.map (·.1)).Nodup := h
    obtain ⟨h1, h2⟩ := List.nodup_cons.mp h
    by_cases q : e.1 = c
    · have hn : e.2 = n := by simpa [lk, List.find?_cons, q] using hl
      have hr : r.map (fun e => if e.1 = c then (e.1, k) else e) = r := by
        refine (List.map_congr_left fun e' he' => ?_).trans (List.map_id r)
        have : ¬ e'.1 = c := fun z => h1 (by rw [q, ← z]; exact List.mem_map.mpr ⟨e', he', rfl⟩)
        rw [if_neg this]; rfl
      show sumW p ((if e.1 = c then (e.1, k) else e) :: r.map fun e => if e.1 = c then (e.1, k) else e) = _
      rw [if_pos q, hr]
      simp only [sumW, List.map_cons, List.sum_cons, q, ← hn, Int.mul_sub]
      omega
    · have hl2 : lk r c = some n := by simpa [lk, List.find?_cons, q] using hl
      have ih := sumW_map (p := p) (c := c) (n := n) (k := k) h2 hl2
      show sumW p ((if e.1 = c then (e.1, k) else e) :: r.map fun e => if e.1 = c then (e.1, k) else e) = _
      rw [if_neg q]
      simp only [sumW, List.map_cons, List.sum_cons] at ih ⊢
      rw [ih]
      omega
theorem sumW_bump (p : Cell → Int) {m : List (Cell × Int)} (h : Nd m) (c : Cell) : sumW p (bump m c) = sumW p m + p c := by
  unfold bump pt
  by_cases q : (m.any fun e => decide (e.1 = c)) = true
  · rw [if_pos q]
    cases hl : lk m c with
    | none =>
      exfalso
      obtain ⟨e, he, hc⟩ := List.any_eq_true.mp q
      have := lk_mem h he
      rw [of_decide_eq_true hc, hl] at this
      cases this
    | some n =>
      rw [sumW_map h hl]
      show _ + p c * (n + 1 - n) = _
      rw [show n + 1 - n = 1 by omega, Int.mul_one]
  · rw [if_neg q]
    have hl : lk m c = none := by
      cases hl : lk m c with
      | none => rfl
      | some n =>
        have := lk_some hl
        exact absurd (List.any_eq_true.mpr ⟨_, this, by simp⟩) q
    rw [hl]
    simp [sumW]
theorem Nd.bump {m : List (Cell × Int)} (h : Nd m) (c : Cell) : Nd (bump m c) := h.pt c _
theorem fold_nd : ∀ (cs : List Cell) {m : List (Cell × Int)}, Nd m → Nd (cs.foldl bump m)
  | [], _, h => h
  | c :: cs, _, h => fold_nd cs (h.bump c)
theorem fold_sum (p : Cell → Int) : ∀ (cs : List Cell) {m : List (Cell × Int)}, Nd m → sumW p (cs.foldl bump m) = sumW p m + (cs.map p).sum
  | [], m, _ => by simp
  | c :: cs, m, h => by
    show sumW p (cs.foldl bump (bump m c)) = _
    rw [fold_sum p cs (h.bump c), sumW_bump p h, List.map_cons, List.sum_cons]
    omega
theorem needs_nd (ss : List Stay) : Nd (needsL ss) := fold_nd _ List.nodup_nil
theorem needs_sum (p : Cell → Int) (ss : List Stay) : sumW p (needsL ss) = ((ss.flatMap cellsOf).map p).sum := by
  unfold needsL
  rw [fold_sum p (m := []) _ List.nodup_nil]
  simp [sumW]
theorem bump_keys {m : List (Cell × Int)} {c x : Cell} (h : x ∈ (bump m c).map (·.1)) : x ∈ m.map (·.1) ∨ x = c := by
  unfold bump at h
  rw [pt_keys] at h
  split at h
  · exact .inl h
  · rcases List.mem_append.mp h with q | q
    · exact .inl q
    · exact .inr (List.mem_singleton.mp q)
theorem fold_keys : ∀ (cs : List Cell) {m : List (Cell × Int)} {x : Cell}, x ∈ (cs.foldl bump m).map (·.1) → x ∈ m.map (·.1) ∨ x ∈ cs
  | [], _, _, h => .inl h
  | c :: cs, m, x, h => by
    rcases fold_keys cs h with q | q
    · rcases bump_keys q with q | q
      · exact .inl q
      · exact .inr (q ▸ List.mem_cons_self)
    · exact .inr (List.mem_cons_of_mem _ q)
theorem needs_keys {ss : List Stay} {e : Cell × Int} (h : e ∈ needsL ss) : ∃ s ∈ ss, e.1 ∈ cellsOf s := by
  rcases fold_keys _ (List.mem_map.mpr ⟨e, h, rfl⟩) with q | q
  · cases q
  · exact List.mem_flatMap.mp q
theorem cell_in {s : Stay} {c : Cell} (h : c ∈ cellsOf s) : c.1 = s.1 ∧ s.2.1 ≤ c.2 ∧ c.2 < s.2.2 := by
  unfold cellsOf at h
  obtain ⟨i, hi, rfl⟩ := List.mem_map.mp h
  have := List.mem_range.mp hi
  exact ⟨rfl, by show s.2.1 ≤ s.2.1 + (i : Int); omega, by show s.2.1 + (i : Int) < s.2.2; omega⟩

def SmallSt (ss : List Stay) : Prop := ∀ s ∈ ss, 0 ≤ s.2.1 ∧ s.2.1 ≤ 1000 ∧ 0 ≤ s.2.2 ∧ s.2.2 ≤ 1000
theorem foldn (cs : List Cell) (c : Cell) (m : List (Cell × Int)) : (cs ++ [c]).foldl bump m = bump (cs.foldl bump m) c := by rw [List.foldl_append]; rfl
theorem SmallSt.of {S : Setup} {ss : List Stay} (ok : SetupOk S) (h : ∀ s ∈ ss, StayOk S s) : SmallSt ss := fun s hs => by
  obtain ⟨_, _, h1, h2, h3⟩ := h s hs
  have := ok.n2
  exact ⟨h1, by omega, by omega, by omega⟩
theorem cell_ok {S : Setup} (ok : SetupOk S) {ss : List Stay} (h : ∀ s ∈ ss, StayOk S s) {e : Cell × Int} (he : e ∈ needsL ss) : 0 ≤ e.1.1 ∧ e.1.1 < S.rooms.length ∧ 0 ≤ e.1.2 ∧ e.1.2 < S.nights := by
  obtain ⟨s, hs, hc⟩ := needs_keys he
  obtain ⟨h1, h2, h3⟩ := cell_in hc
  obtain ⟨k0, k1, k2, k3, k4⟩ := h s hs
  rw [h1]
  exact ⟨k0, k1, by omega, by omega⟩
theorem cD_get {m : List (Cell × Int)} {i : Nat} {k : List Key} {v : V} (h : (cD m)[i]? = some (k, v)) : ∃ e, m[i]? = some e ∧ k = ck e.1 ∧ v = .int e.2 := enD_get h

def P_nights_of (K : PySem.W.Frag) (A : Ad) (x0 : V) (H : Hp) (Q : VK) : Prop := ∃ (a : Addr) (s : Stay), x0 = .ref a ∧ H a = some (.tup [.int s.1, .int s.2.1, .int s.2.2]) ∧ 0 ≤ s.2.1 ∧ s.2.1 ≤ 10000 ∧ 0 ≤ s.2.2 ∧ s.2.2 ≤ 10000 ∧
  ∀ (p : Addr) (H' : Hp), H p = none → Fr [] H H' → H' p = some (.lst ((List.range (s.2.2 - s.2.1).toNat).map fun i => V.int (s.2.1 + (i : Nat)))) → Q (.ref p) H'
def sp_nights_of (K : PySem.W.Frag) (A : Ad) : Sp := fun vs H Q _ => ∃ x0, vs = [x0] ∧ P_nights_of K A x0 H Q
theorem c_nights_of {K : PySem.W.Frag} {A : Ad} {x0 : V} {H : Hp} {Q : VK} {E : XK} (h : P_nights_of K A x0 H Q) : sp_nights_of K A [x0] H Q E := ⟨_, rfl, h⟩
theorem sc_nights_of : FnScope ["stay"] ["stay"] (defScope s_nights_of) := ⟨rfl, rfl, rfl, by decide +kernel, rfl, by decide +kernel, by decide +kernel⟩
def t_nights_of (K : PySem.W.Frag) (A : Ad) : TS :=
  (tRet (tLstRg (tRg2 (tOp (rIxT K) (tVar 0) (tC (.int 1))) (tOp (rIxT K) (tVar 0) (tC (.int 2))))))
theorem pu_nights_of (T : Txt K mg A) {x0 : V} {H : Hp} {Q : VK} (h : P_nights_of K A x0 H Q) : t_nights_of K A { nx := fun _ H' => Q .non H', rt := Q } [some x0] H := by
  obtain ⟨a, s, rfl, e, b0, b1, b2, b3, k⟩ := h
  unfold t_nights_of
  walk_at "go"
  rename_i p H1 n1 f1 e1
  exact k p H1 n1 f1 e1
theorem ok_nights_of {f : Addr} {fd : FuncData} (F : Fun K "nights_of" "nights_of" s_nights_of f fd) (T : Txt K mg A)  : FnOk P w K mg base CX0 (1) f fd ["stay"] (sp_nights_of K A) := by
  refine F.ok sc_nights_of (fun vs H Q E h => ?_) (fun cdv Ar outer s H vs Q E hr h => ⟨t_nights_of K A, ?_, ?_⟩)
  · obtain ⟨x0, rfl, _⟩ := h
    rfl
  · have hu := hu_of hr
    exact (pss_one (ps_ret (pe_listRg rfl (by rfl) T.b_list (prg_2 (by rfl) T.b_range (pe_ix ix_tup (pv 0) pe_int (fun _ _ => rfl)) (pe_ix ix_tup (pv 0) pe_int (fun _ _ => rfl))))))
  · obtain ⟨x0, rfl, h⟩ := h
    exact pu_nights_of T h

/-- stays whose nights are small -/
def P_needs_of (K : PySem.W.Frag) (A : Ad) (x0 : V) (H : Hp) (Q : VK) : Prop := ∃ (a : Addr) (xs : List V) (ss : List Stay), x0 = .ref a ∧ H a = some (.tup xs) ∧ DaL H xs (ss.map stayD) ∧ SmallSt ss ∧ ss.length ≤ 100 ∧
  ∀ (p : Addr) (H' : Hp), H p = none → Fr [] H H' → H' p = some (.dT (cD (needsL ss))) → Q (.ref p) H'
def sp_needs_of (K : PySem.W.Frag) (A : Ad) : Sp := fun vs H Q _ => ∃ x0, vs = [x0] ∧ P_needs_of K A x0 H Q
theorem c_needs_of {K : PySem.W.Frag} {A : Ad} {x0 : V} {H : Hp} {Q : VK} {E : XK} (h : P_needs_of K A x0 H Q) : sp_needs_of K A [x0] H Q E := ⟨_, rfl, h⟩
theorem sc_needs_of : FnScope ["party", "needs", "stay", "night", "cell"] ["party"] (defScope s_needs_of) := ⟨rfl, rfl, rfl, by decide +kernel, rfl, by decide +kernel, by decide +kernel⟩
def t_needs_of (K : PySem.W.Frag) (A : Ad) : TS :=
  (tSeq (tAsg tDNewT (gName 1))
    (tSeq (tFor (iTup K (tVar 0)) (gName 2) (tFor (iList K (tCl (sp_nights_of K A) (tCons (tVar 2) tNil))) (gName 3) (tSeq (tAsg (tTup (tCons (tOp (rIxT K) (tVar 2) (tC (.int 0))) (tCons (tVar 3) tNil))) (gName 4))
    (sDPut (tVar 1) (tVar 4) (tOp oAdd (tDGet2 (tVar 1) (tVar 4) (tC (.int 0))) (tC (.int 1)))))))
    (tRet (tVar 1))))
theorem pu_needs_of (T : Txt K mg A) {x0 : V} {H : Hp} {Q : VK} (h : P_needs_of K A x0 H Q) : t_needs_of K A { nx := fun _ H' => Q .non H', rt := Q } [some x0, none, none, none, none] H := by
  obtain ⟨a, xs, ss, rfl, e, ds, sm, hss, k⟩ := h
  unfold t_needs_of
  walk_at "go"
  rename_i p H0 n0 f0 e0
  refine f_tup (xs := xs) (fun i σ H' => (∃ v2 v3 v4, σ = [some (.ref a), some (.ref p), v2, v3, v4]) ∧ Fr [] H H' ∧ H' p = some (.dT (cD (needsL (ss.take i))))) ⟨⟨_, _, _, rfl⟩, f0, e0⟩ ?_ ?_ ?_
  · rintro i σ H' _ ⟨_, f, _⟩
    exact SqT.of (f.tup _ _ e)
  · rintro i x σ H1 hx ⟨⟨v2, v3, v4, rfl⟩, f1, e1⟩
    obtain ⟨s, b, hs, rfl, eb, _⟩ := stays_get ds hx
    have hmem := List.mem_of_getElem? hs
    obtain ⟨b0, b1, b2, b3⟩ := sm s hmem
    have hlen : (cellsOf s).length = (s.2.2 - s.2.1).toNat := cellsOf_len s
    walk_at "go"
    refine c_nights_of ⟨b, s, rfl, f1.tup _ _ eb, b0, by omega, b2, by omega, fun q H2 n2 f2 e2 => ?_⟩
    walk_at "go"
    have npq : p ≠ q := ne_of_none e1 n2
    refine f_list (xs := (List.range (s.2.2 - s.2.1).toNat).map fun i => V.int (s.2.1 + (i : Nat))) (fun j σ H' => (∃ v3 v4, σ = [some (.ref a), some (.ref p), some (.ref b), v3, v4]) ∧ Fr [] H H' ∧ Fr [p] H2 H' ∧ H' p = some (.dT (cD (((ss.take i).flatMap cellsOf ++ (cellsOf s).take j).foldl bump []))))
      ⟨⟨_, _, rfl⟩, f1.then0 f2, Fr.refl, by rw [List.take_zero, List.append_nil]; exact f2.at0 e1⟩ ?_ ?_ ?_
    · rintro j σ H' _ ⟨_, _, f, _⟩
      exact SqL.of (f.at e2 (nin1 npq.symm nin0))
    · rintro j y σ H3 hy ⟨⟨v3, v4, rfl⟩, f3, g3, e3⟩
      rw [List.getElem?_map] at hy
      have hj : j < (s.2.2 - s.2.1).toNat := by
        have := List.getElem?_eq_some_iff.mp (show ((List.range (s.2.2 - s.2.1).toNat).map fun i => V.int (s.2.1 + (i : Nat)))[j]? = some y by rw [List.getElem?_map]; exact hy)
        have h1 := this.1
        rw [List.length_map, List.length_range] at h1
        exact h1
      rw [List.getElem?_range hj] at hy
      cases hy
      have hc : (cellsOf s)[j]? = some (s.1, s.2.1 + (j : Nat)) := by
        unfold cellsOf
        rw [List.getElem?_map, List.getElem?_range hj]
        rfl
      have eb3 := f3.tup _ _ eb
      walk_at "go"
      rename_i t H4 n4 f4 e4
      have e34 := f4.at0 e3
      walk_at "go"
      refine g_dgo (k := ck (s.1, s.2.1 + (j : Nat))) (.inl e34) e4 ?_
      rw [val_cell]
      have hv : ((lk (((ss.take i).flatMap cellsOf ++ (cellsOf s).take j).foldl bump []) (s.1, s.2.1 + (j : Nat))).map V.int).getD (.int 0) = .int ((lk (((ss.take i).flatMap cellsOf ++ (cellsOf s).take j).foldl bump []) (s.1, s.2.1 + (j : Nat))).getD 0) := by
        cases lk (((ss.take i).flatMap cellsOf ++ (cellsOf s).take j).foldl bump []) (s.1, s.2.1 + (j : Nat)) <;> rfl
      rw [hv]
      walk_at "go"
      have hL : (cD (((ss.take i).flatMap cellsOf ++ (cellsOf s).take j).foldl bump [])).length < sizeLine := by
        rw [enD_len]
        have h1 := fold_len ((ss.take i).flatMap cellsOf ++ (cellsOf s).take j) []
        have h2 := flat_len (ss.take i) 1000 fun z hz => by obtain ⟨c0, c1, c2, c3⟩ := sm z (List.mem_of_mem_take hz); omega
        rw [List.length_append, List.length_take] at h1
        have h3 : (ss.take i).length ≤ 100 := by rw [List.length_take]; omega
        have h4 : 1000 * (ss.take i).length ≤ 1000 * 100 := Nat.mul_le_mul_left _ h3
        exact szM (by simp only [List.length_nil] at h1; omega)
      refine g_rdp (k := ck (s.1, s.2.1 + (j : Nat))) e34 e4 hL fun H5 f5 e5 => ?_
      walk_at "go"
      refine ⟨⟨_, _, rfl⟩, (f3.then0 f4).own1 f5 n0, (g3.then0 f4).transL f5, ?_⟩
      rw [e5, put_cell, take_more hc, ← List.append_assoc, foldn]
      rfl
    · rintro σ H3 ⟨⟨v3, v4, rfl⟩, f3, g3, e3⟩
      refine ⟨⟨_, _, _, rfl⟩, f3, ?_⟩
      rw [List.length_map, List.length_range, ← hlen, List.take_length] at e3
      rw [e3]
      unfold needsL
      rw [take_more hs, List.flatMap_append]
      simp
  · rintro σ H1 ⟨⟨v2, v3, v4, rfl⟩, f1, e1⟩
    have hl : xs.length = ss.length := by rw [ds.len, List.length_map]
    rw [hl, List.take_length] at e1
    walk_at "go"
    exact k p H1 n0 f1 e1
theorem ok_needs_of {f : Addr} {fd : FuncData} (F : Fun K "needs_of" "needs_of" s_needs_of f fd) (T : Txt K mg A) (c_nights_of : Cal P w K mg base "nights_of" 1 ["stay"] (sp_nights_of K A)) : FnOk P w K mg base CX0 (2) f fd ["party"] (sp_needs_of K A) := by
  refine F.ok sc_needs_of (fun vs H Q E h => ?_) (fun cdv Ar outer s H vs Q E hr h => ⟨t_needs_of K A, ?_, ?_⟩)
  · obtain ⟨x0, rfl, _⟩ := h
    rfl
  · have hu := hu_of hr
    exact (pss_cons (ps_set (i := 1) sc_needs_of.nd rfl (Or.inl rfl) pe_dnewT)
    (pss_cons (ps_for PassesOwn.never rfl (pi_tup (pv 0)) (pg_name (i := 2) sc_needs_of.nd rfl (Or.inl rfl)) (pss_one (ps_for PassesOwn.never rfl (pi_list (pe_cl c_nights_of (hr.mono (by first | decide | omega)) (by rfl) (pa_cons (pv 2) pa_nil))) (pg_name (i := 3) sc_needs_of.nd rfl (Or.inl rfl)) (pss_cons (ps_set (i := 4) sc_needs_of.nd rfl (Or.inl rfl) (pe_tup (pa_cons (pe_ix ix_tup (pv 2) pe_int (fun _ _ => rfl)) (pa_cons (pv 3) pa_nil))))
    (pss_one (ps_dput hu (pv 1) (pv 4) (pe_op o_add (pe_dget2 hu (pv 1) (pv 4) pe_int ⟨rfl, rfl, rfl, rfl⟩) pe_int) rfl))))))
    (pss_one (ps_ret (pv 1)))))
  · obtain ⟨x0, rfl, h⟩ := h
    exact pu_needs_of T h

def P_Lneeds (K : PySem.W.Frag) (A : Ad) (x0 : V) (H : Hp) (Q : VK) : Prop := ∃ (a : Addr) (xs : List V) (ss : List Stay), x0 = .ref a ∧ H a = some (.tup xs) ∧ DaL H xs (ss.map stayD) ∧ SmallSt ss ∧ ss.length ≤ 100 ∧
  ∀ (p : Addr) (H' : Hp), H p = none → Fr [] H H' → H' p = some (.dT (cD (needsL ss))) → Q (.ref p) H'
def sp_Lneeds (K : PySem.W.Frag) (A : Ad) : Sp := fun vs H Q _ => ∃ x0, vs = [x0] ∧ P_Lneeds K A x0 H Q
theorem c_Lneeds {K : PySem.W.Frag} {A : Ad} {x0 : V} {H : Hp} {Q : VK} {E : XK} (h : P_Lneeds K A x0 H Q) : sp_Lneeds K A [x0] H Q E := ⟨_, rfl, h⟩
theorem sc_Lneeds : FnScope ["_law_party_here", "_law_needs_here", "_law_kind", "_law_first", "_law_end", "_law_night"] ["_law_party_here"] (defScope s_Lneeds) := ⟨rfl, rfl, rfl, by decide +kernel, rfl, by decide +kernel, by decide +kernel⟩
def t_Lneeds (K : PySem.W.Frag) (A : Ad) : TS :=
  (tSeq (tAsg tDNewT (gName 1))
    (tSeq (tFor (iTup K (tVar 0)) (gTup K 3 (gCons (gName 2) (gCons (gName 3) (gCons (gName 4) gNil)))) (tFor (iRng2 (tCons (tVar 3) (tCons (tVar 4) tNil))) (gName 5) (sDPut (tVar 1) (tTup (tCons (tVar 2) (tCons (tVar 5) tNil))) (tOp oAdd (tDGet2 (tVar 1) (tTup (tCons (tVar 2) (tCons (tVar 5) tNil))) (tC (.int 0))) (tC (.int 1))))))
    (tRet (tVar 1))))
theorem pu_Lneeds (T : Txt K mg A) {x0 : V} {H : Hp} {Q : VK} (h : P_Lneeds K A x0 H Q) : t_Lneeds K A { nx := fun _ H' => Q .non H', rt := Q } [some x0, none, none, none, none, none] H := by
  obtain ⟨a, xs, ss, rfl, e, ds, sm, hss, k⟩ := h
  unfold t_Lneeds
  walk_at "go"
  rename_i p H0 n0 f0 e0
  refine f_tup (xs := xs) (fun i σ H' => (∃ v2 v3 v4 v5, σ = [some (.ref a), some (.ref p), v2, v3, v4, v5]) ∧ Fr [] H H' ∧ H' p = some (.dT (cD (needsL (ss.take i))))) ⟨⟨_, _, _, _, rfl⟩, f0, e0⟩ ?_ ?_ ?_
  · rintro i σ H' _ ⟨_, f, _⟩
    exact SqT.of (f.tup _ _ e)
  · rintro i x σ H1 hx ⟨⟨v2, v3, v4, v5, rfl⟩, f1, e1⟩
    obtain ⟨s, b, hs, rfl, eb, _⟩ := stays_get ds hx
    have hmem := List.mem_of_getElem? hs
    obtain ⟨b0, b1, b2, b3⟩ := sm s hmem
    have hlen : (cellsOf s).length = (s.2.2 - s.2.1).toNat := cellsOf_len s
    have eb1 := f1.tup _ _ eb
    walk_at "go"
    refine f_range (lo := s.2.1) (n := (s.2.2 - s.2.1).toNat) (fun j σ H' => (∃ v5, σ = [some (.ref a), some (.ref p), some (.int s.1), some (.int s.2.1), some (.int s.2.2), v5]) ∧ Fr [] H H' ∧ H' p = some (.dT (cD (((ss.take i).flatMap cellsOf ++ (cellsOf s).take j).foldl bump []))))
      ⟨⟨_, rfl⟩, f1, by rw [List.take_zero, List.append_nil]; exact e1⟩ ?_ ?_
    · rintro j σ H3 hj ⟨⟨v5, rfl⟩, f3, e3⟩
      have hc : (cellsOf s)[j]? = some (s.1, s.2.1 + (j : Nat)) := by
        unfold cellsOf
        rw [List.getElem?_map, List.getElem?_range hj]
        rfl
      walk_at "go"
      rename_i t H4 n4 f4 e4
      have e34 := f4.at0 e3
      walk_at "go"
      refine g_dgo (k := ck (s.1, s.2.1 + (j : Nat))) (.inl e34) e4 ?_
      rw [val_cell]
      have hv : ((lk (((ss.take i).flatMap cellsOf ++ (cellsOf s).take j).foldl bump []) (s.1, s.2.1 + (j : Nat))).map V.int).getD (.int 0) = .int ((lk (((ss.take i).flatMap cellsOf ++ (cellsOf s).take j).foldl bump []) (s.1, s.2.1 + (j : Nat))).getD 0) := by
        cases lk (((ss.take i).flatMap cellsOf ++ (cellsOf s).take j).foldl bump []) (s.1, s.2.1 + (j : Nat)) <;> rfl
      rw [hv]
      walk_at "go"
      rename_i t2 H5 n5 f5 e5
      have e35 := f5.at0 e34
      have hL : (cD (((ss.take i).flatMap cellsOf ++ (cellsOf s).take j).foldl bump [])).length < sizeLine := by
        rw [enD_len]
        have h1 := fold_len ((ss.take i).flatMap cellsOf ++ (cellsOf s).take j) []
        have h2 := flat_len (ss.take i) 1000 fun z hz => by obtain ⟨c0, c1, c2, c3⟩ := sm z (List.mem_of_mem_take hz); omega
        rw [List.length_append, List.length_take] at h1
        have h3 : (ss.take i).length ≤ 100 := by rw [List.length_take]; omega
        have h4 : 1000 * (ss.take i).length ≤ 1000 * 100 := Nat.mul_le_mul_left _ h3
        exact szM (by simp only [List.length_nil] at h1; omega)
      refine g_rdp (k := ck (s.1, s.2.1 + (j : Nat))) e35 e5 hL fun H6 f6 e6 => ?_
      walk_at "go"
      refine ⟨⟨_, rfl⟩, ((f3.then0 f4).then0 f5).own1 f6 n0, ?_⟩
      rw [e6, put_cell, take_more hc, ← List.append_assoc, foldn]
      rfl
    · rintro σ H3 ⟨⟨v5, rfl⟩, f3, e3⟩
      refine ⟨⟨_, _, _, _, rfl⟩, f3, ?_⟩
      rw [← hlen, List.take_length] at e3
      rw [e3]
      unfold needsL
      rw [take_more hs, List.flatMap_append]
      simp
  · rintro σ H1 ⟨⟨v2, v3, v4, v5, rfl⟩, f1, e1⟩
    have hl : xs.length = ss.length := by rw [ds.len, List.length_map]
    rw [hl, List.take_length] at e1
    walk_at "go"
    exact k p H1 n0 f1 e1
theorem ok_Lneeds {f : Addr} {fd : FuncData} (F : Fun K "_law_needs" "_law_needs" s_Lneeds f fd) (T : Txt K mg A)  : FnOk P w K mg base CX0 (1) f fd ["_law_party_here"] (sp_Lneeds K A) := by
  refine F.ok sc_Lneeds (fun vs H Q E h => ?_) (fun cdv Ar outer s H vs Q E hr h => ⟨t_Lneeds K A, ?_, ?_⟩)
  · obtain ⟨x0, rfl, _⟩ := h
    rfl
  · have hu := hu_of hr
    exact (pss_cons (ps_set (i := 1) sc_Lneeds.nd rfl (Or.inl rfl) pe_dnewT)
    (pss_cons (ps_for PassesOwn.never rfl (pi_tup (pv 0)) (pg_tup rfl (pgs_cons (pg_name (i := 2) sc_Lneeds.nd rfl (Or.inl rfl)) (pgs_cons (pg_name (i := 3) sc_Lneeds.nd rfl (Or.inl rfl)) (pgs_cons (pg_name (i := 4) sc_Lneeds.nd rfl (Or.inl rfl)) pgs_nil)))) (pss_one (ps_for PassesOwn.never rfl (pi_range2 rfl T.b_range (pa_cons (pv 3) (pa_cons (pv 4) pa_nil))) (pg_name (i := 5) sc_Lneeds.nd rfl (Or.inl rfl)) (pss_one (ps_dput hu (pv 1) (pe_tup (pa_cons (pv 2) (pa_cons (pv 5) pa_nil))) (pe_op o_add (pe_dget2 hu (pv 1) (pe_tup (pa_cons (pv 2) (pa_cons (pv 5) pa_nil))) pe_int ⟨rfl, rfl, rfl, rfl⟩) pe_int) rfl)))))
    (pss_one (ps_ret (pv 1)))))
  · obtain ⟨x0, rfl, h⟩ := h
    exact pu_Lneeds T h

def prc (S : Setup) (c : Cell) : Int := ((S.prices.getD c.1.toNat []).getD c.2.toNat 0)
theorem prc_at {S : Setup} (ok : SetupOk S) {H : Hp} {x : V} {s r p : Addr} {ps : List V} (h : SetAt H x S s r p ps) {c : Cell} (h0 : 0 ≤ c.1) (h1 : c.1 < S.rooms.length) (h2 : 0 ≤ c.2) (h3 : c.2 < S.nights) :
    ∃ (a : Addr) (row : List Int), atI ps c.1 = some (.ref a) ∧ H a = some (.tup (row.map V.int)) ∧ atI (row.map V.int) c.2 = some (.int (prc S c)) ∧ 0 ≤ prc S c ∧ prc S c ≤ 1000000 := by
  have e1 : c.1 = ((c.1.toNat : Nat) : Int) := by omega
  have e2 : c.2 = ((c.2.toNat : Nat) : Int) := by omega
  have hp := ok.pl
  have hk : c.1.toNat < S.prices.length := by omega
  have hr : S.prices[c.1.toNat]? = some S.prices[c.1.toNat] := List.getElem?_eq_getElem hk
  obtain ⟨a, ha, ea⟩ := h.row hr
  obtain ⟨hl, hb⟩ := ok.pn _ (List.getElem_mem hk)
  have ht : c.2.toNat < (S.prices[c.1.toNat]).length := by omega
  have hv : prc S c = (S.prices[c.1.toNat])[c.2.toNat] := by
    unfold prc
    simp [List.getD_eq_getElem?_getD, hr, List.getElem?_eq_getElem ht]
  refine ⟨a, S.prices[c.1.toNat], by rw [e1]; exact atI_nat ha, ea, ?_, ?_⟩
  · rw [e2]
    refine atI_nat ?_
    rw [List.getElem?_map, List.getElem?_eq_getElem ht, hv]
    rfl
  · rw [hv]
    exact hb _ (List.getElem_mem ht)
def priceS (S : Setup) (ss : List Stay) : Int := ((ss.flatMap cellsOf).map (prc S)).sum
def keptS (S : Setup) (ss : List Stay) : Int := ((ss.flatMap cellsOf).map fun c => prc S c * S.share / 100).sum
def P_price_of (K : PySem.W.Frag) (A : Ad) (x0 x1 : V) (H : Hp) (Q : VK) : Prop := ∃ (S : Setup) (a : Addr) (xs : List V) (ss : List Stay), SetupOk S ∧ Da H x0 (setupD S) ∧ x1 = .ref a ∧ H a = some (.tup xs) ∧ DaL H xs (ss.map stayD) ∧ (∀ s ∈ ss, StayOk S s) ∧ ss.length ≤ 100 ∧
  ∀ H', Fr [] H H' → Q (.int (priceS S ss)) H'
def sp_price_of (K : PySem.W.Frag) (A : Ad) : Sp := fun vs H Q _ => ∃ x0 x1, vs = [x0, x1] ∧ P_price_of K A x0 x1 H Q
theorem c_price_of {K : PySem.W.Frag} {A : Ad} {x0 x1 : V} {H : Hp} {Q : VK} {E : XK} (h : P_price_of K A x0 x1 H Q) : sp_price_of K A [x0, x1] H Q E := ⟨_, _, rfl, h⟩
theorem sc_price_of : FnScope ["setup", "party", "needs", "cell"] ["setup", "party"] (defScope s_price_of) := ⟨rfl, rfl, rfl, by decide +kernel, rfl, by decide +kernel, by decide +kernel⟩
def t_price_of (K : PySem.W.Frag) (A : Ad) : TS :=
  (tSeq (tAsg (tCl (sp_needs_of K A) (tCons (tVar 1) tNil)) (gName 2))
    (tRet (tCB (rSum K) (tCons (tLockE (tLc (iKeys (tVar 2)) (gName 3) tYes (tOp oMul (tOp (rIxT K) (tOp (rIxT K) (tOp (rIxT K) (tVar 0) (tC (.int 3))) (tOp (rIxT K) (tVar 3) (tC (.int 0)))) (tOp (rIxT K) (tVar 3) (tC (.int 1)))) (tDGet (tVar 2) (tVar 3))) [3])) tNil))))
theorem pu_price_of (T : Txt K mg A) {x0 x1 : V} {H : Hp} {Q : VK} (h : P_price_of K A x0 x1 H Q) : t_price_of K A { nx := fun _ H' => Q .non H', rt := Q } [some x0, some x1, none, none] H := by
  obtain ⟨S, a, xs, ss, ok, dS, rfl, ex, ds, hk, hss, k⟩ := h
  unfold t_price_of
  walk_at "go"
  refine c_needs_of ⟨a, xs, ss, rfl, ex, ds, SmallSt.of ok hk, hss, fun p H1 n1 f1 e1 => ?_⟩
  obtain ⟨s, r, pr, ps, sa⟩ := SetAt.of (Da.frL f1 dS (imm_setup S))
  cases sa.e
  walk_at "go"
  refine g_lockE e1 trivial trivial fun od H2 f2 e2 => ?_
  have es2 := f2.tup _ _ sa.t
  have ep2 := f2.tup _ _ sa.p
  walk_at "go"
  refine l_keysT (kvs := cD (needsL ss)) fun Dl H3 nD f3 e3 => ⟨fun i acc H' => acc = ((needsL ss).take i).map (fun e => V.int (prc S e.1 * e.2)) ∧ Fr [] H2 H' ∧ H' p = some (.frz od (.dT (cD (needsL ss)))), ⟨rfl, f3, f3.at0 e2⟩, fun i acc H' h => h.2.2, fun i kk v q acc H' hi hq ha ⟨ea, f, ed⟩ => ?_, fun acc H' ha ⟨ea, f, ed⟩ => ?_⟩
  · obtain ⟨e, he, rfl, rfl⟩ := cD_get hi
    have hmem := List.mem_of_getElem? he
    obtain ⟨c0, c1, c2, c3⟩ := cell_ok ok hk hmem
    obtain ⟨b, row, h1, h2, h3, h4, h5⟩ := prc_at ok sa c0 c1 c2 c3
    have hq2 : H' q = some (.tup [.int e.1.1, .int e.1.2]) := hq
    have h2' := f.tup _ _ (f2.tup _ _ h2)
    have es3 := f.tup _ _ es2
    have ep3 := f.tup _ _ ep2
    walk_at "go"
    refine ⟨rfl, ?_⟩
    walk_at "go"
    refine g_ixT (SqT.of ep3) h1 ?_
    walk_at "go"
    refine g_ixT (SqT.of h2') h3 ?_
    walk_at "go"
    refine g_rdg (k := ck e.1) (v := .int e.2) (.inr ⟨_, ed⟩) hq (by rw [val_cell, lk_mem (needs_nd ss) hmem]; rfl) ?_
    walk_at "go"
    have hlen : acc.length ≤ 100000 := by
      rw [ea, List.length_map, List.length_take]
      have h6 := fold_len (ss.flatMap cellsOf) []
      have h7 := flat_len ss 1000 fun z hz => by obtain ⟨q0, q1, q2, q3⟩ := SmallSt.of ok hk z hz; omega
      have h8 : 1000 * ss.length ≤ 1000 * 100 := Nat.mul_le_mul_left _ hss
      have h9 : (needsL ss).length ≤ 0 + (ss.flatMap cellsOf).length := h6
      omega
    refine lcY_of ha (by walk_at "sz") fun H5 f5 e5 => ⟨?_, f.own1 f5 nD, f5.at ed (nin1 (ne_of ed ha (by intro z; cases z)) nin0)⟩
    rw [take_more he, List.map_append, ea]
    rfl
  · refine g_unl ed fun H4 f4 e4 => ?_
    rw [enD_len, List.take_length] at ea
    have ha4 : H4 Dl = some (.lst acc) := f4.at ha (nin1 (ne_of ha ed (by intro z; cases z)) nin0)
    walk_at "go"
    rw [ea] at ha4
    refine g_sum (ns := (needsL ss).map fun e => prc S e.1 * e.2) (SqL.of (by rw [ha4, List.map_map]; rfl)) ?_
    have hs : ((needsL ss).map fun e => prc S e.1 * e.2).sum = priceS S ss := needs_sum (prc S) ss
    rw [hs]
    exact k H4 (((f1.own1 f2 n1).then0 f).own1 f4 n1)
theorem ok_price_of {f : Addr} {fd : FuncData} (F : Fun K "price_of" "price_of" s_price_of f fd) (T : Txt K mg A) (c_needs_of : Cal P w K mg base "needs_of" 2 ["party"] (sp_needs_of K A)) : FnOk P w K mg base CX0 (3) f fd ["setup", "party"] (sp_price_of K A) := by
  refine F.ok sc_price_of (fun vs H Q E h => ?_) (fun cdv Ar outer s H vs Q E hr h => ⟨t_price_of K A, ?_, ?_⟩)
  · obtain ⟨x0, x1, rfl, _⟩ := h
    rfl
  · have hu := hu_of hr
    exact (pss_cons (ps_set (i := 2) sc_price_of.nd rfl (Or.inr rfl) (pe_cl c_needs_of (hr.mono (by first | decide | omega)) (by rfl) (pa_cons (pv 1) pa_nil)))
    (pss_one (ps_ret (pe_callB (cr_sum rfl) (by rfl) T.b_sum (by decide +kernel) (pa_cons (pe_lock (pe_lc (own := [("cell", 3)]) (g := (gName 3)) (tt := tYes) rfl sc_price_of.nd (pi_keys (pv 2)) (blkOk_by (N := ["setup", "party", "needs", "cell"]) (sc := defScope s_price_of) (own := [("cell", 3)]) (by decide +kernel)) (fun _ _ _ _ _ => (pg_name (i := 3) sc_price_of.nd rfl (Or.inl rfl))) (fun _ _ _ _ _ => pts_nil) (fun _ _ _ _ _ => (pe_op o_mul (pe_ix ix_tup (pe_ix ix_tup (pe_ix ix_tup (pv 0) pe_int (fun _ _ => rfl)) (pe_ix ix_tup (pv 3) pe_int (fun _ _ => rfl)) (fun _ _ => rfl)) (pe_ix ix_tup (pv 3) pe_int (fun _ _ => rfl)) (fun _ _ => rfl)) (pe_dget hu (pv 2) (pv 3) (fun _ _ => rfl)))))) pa_nil)))))
  · obtain ⟨x0, x1, rfl, h⟩ := h
    exact pu_price_of T h


def P_kept_of (K : PySem.W.Frag) (A : Ad) (x0 x1 : V) (H : Hp) (Q : VK) : Prop := ∃ (S : Setup) (a : Addr) (xs : List V) (ss : List Stay), SetupOk S ∧ Da H x0 (setupD S) ∧ x1 = .ref a ∧ H a = some (.tup xs) ∧ DaL H xs (ss.map stayD) ∧ (∀ s ∈ ss, StayOk S s) ∧ ss.length ≤ 100 ∧
  ∀ H', Fr [] H H' → Q (.int (keptS S ss)) H'
def sp_kept_of (K : PySem.W.Frag) (A : Ad) : Sp := fun vs H Q _ => ∃ x0 x1, vs = [x0, x1] ∧ P_kept_of K A x0 x1 H Q
theorem c_kept_of {K : PySem.W.Frag} {A : Ad} {x0 x1 : V} {H : Hp} {Q : VK} {E : XK} (h : P_kept_of K A x0 x1 H Q) : sp_kept_of K A [x0, x1] H Q E := ⟨_, _, rfl, h⟩
theorem sc_kept_of : FnScope ["setup", "party", "needs", "total", "kind", "night"] ["setup", "party"] (defScope s_kept_of) := ⟨rfl, rfl, rfl, by decide +kernel, rfl, by decide +kernel, by decide +kernel⟩
def t_kept_of (K : PySem.W.Frag) (A : Ad) : TS :=
  (tSeq (tAsg (tCl (sp_needs_of K A) (tCons (tVar 1) tNil)) (gName 2))
    (tSeq (tAsg (tC (.int 0)) (gName 3))
    (tSeq (tLock (tFor (iKeys (tVar 2)) (gTup K 2 (gCons (gName 4) (gCons (gName 5) gNil))) (tAug 3 (tOp oMul (tOp oDiv (tOp oMul (tOp (rIxT K) (tOp (rIxT K) (tOp (rIxT K) (tVar 0) (tC (.int 3))) (tVar 4)) (tVar 5)) (tOp (rIxT K) (tVar 0) (tC (.int 4)))) (tC (.int 100))) (tDGet (tVar 2) (tTup (tCons (tVar 4) (tCons (tVar 5) tNil))))) (ipI fun i j => i + j))))
    (tRet (tVar 3)))))
theorem pu_kept_of (T : Txt K mg A) {x0 x1 : V} {H : Hp} {Q : VK} (h : P_kept_of K A x0 x1 H Q) : t_kept_of K A { nx := fun _ H' => Q .non H', rt := Q } [some x0, some x1, none, none, none, none] H := by
  obtain ⟨S, a, xs, ss, ok, dS, rfl, ex, ds, hk, hss, k⟩ := h
  unfold t_kept_of
  walk_at "go"
  refine c_needs_of ⟨a, xs, ss, rfl, ex, ds, SmallSt.of ok hk, hss, fun p H1 n1 f1 e1 => ?_⟩
  obtain ⟨s, r, pr, ps, sa⟩ := SetAt.of (Da.frL f1 dS (imm_setup S))
  cases sa.e
  walk_at "go"
  refine g_lock e1 trivial trivial fun od H2 f2 e2 => ?_
  have es2 := f2.tup _ _ sa.t
  have ep2 := f2.tup _ _ sa.p
  walk_at "go"
  refine f_keysT (kvs := cD (needsL ss)) (fun i σ H' => ∃ v4 v5, σ = [some (.ref s), some (.ref a), some (.ref p), some (.int (((needsL ss).take i).map fun e => prc S e.1 * S.share / 100 * e.2).sum), v4, v5] ∧ Fr [] H2 H') ⟨_, _, rfl, Fr.refl⟩ ?_ ?_ ?_
  · rintro i σ H' _ ⟨_, _, _, f⟩
    exact f.at0 e2
  · rintro i kk v q σ H3 hi hq ⟨v4, v5, rfl, f3⟩
    obtain ⟨e, he, rfl, rfl⟩ := cD_get hi
    have hmem := List.mem_of_getElem? he
    obtain ⟨c0, c1, c2, c3⟩ := cell_ok ok hk hmem
    obtain ⟨b, row, h1, h2, h3, h4, h5⟩ := prc_at ok sa c0 c1 c2 c3
    have hq2 : H3 q = some (.tup [.int e.1.1, .int e.1.2]) := hq
    have h2' := f3.tup _ _ (f2.tup _ _ h2)
    have es3 := f3.tup _ _ es2
    have ep3 := f3.tup _ _ ep2
    walk_at "go"
    refine g_ixT (SqT.of ep3) h1 ?_
    walk_at "go"
    refine g_ixT (SqT.of h2') h3 ?_
    have hs0 := ok.h1
    have hs1 := ok.h2
    have hm : 0 ≤ prc S e.1 * S.share ∧ prc S e.1 * S.share ≤ 1000000 * 100 := ⟨Int.mul_nonneg h4 hs0, Int.mul_le_mul h5 hs1 hs0 (by decide)⟩
    generalize hz : prc S e.1 * S.share = z at hm
    have hz1 : 0 ≤ z / 100 ∧ z / 100 ≤ 1000000 := by omega
    walk_at "go"
    rw [hz]
    walk_at "go"
    rename_i t H4 n4 f4 e4
    have e24 := f4.at0 (f3.at0 e2)
    refine g_rdg (k := ck e.1) (v := .int e.2) (.inr ⟨_, e24⟩) e4 (by rw [val_cell, lk_mem (needs_nd ss) hmem]; rfl) ?_
    generalize hz2 : z / 100 = z2 at hz1
    walk_at "go"
    refine ⟨some (.int e.1.1), some (.int e.1.2), ?_, f3.then0 f4⟩
    rw [take_more he, List.map_append, List.sum_append]
    simp only [List.map_cons, List.map_nil, List.sum_cons, List.sum_nil, hz, hz2, Int.add_zero]
    rfl
  · rintro σ H3 ⟨v4, v5, rfl, f3⟩
    rw [enD_len, List.take_length]
    walk_at "go"
    rename_i H4 f4 e4
    have hs : ((needsL ss).map fun e => prc S e.1 * S.share / 100 * e.2).sum = keptS S ss := needs_sum (fun c => prc S c * S.share / 100) ss
    rw [hs]
    exact k H4 (((f1.own1 f2 n1).then0 f3).own1 f4 n1)
theorem ok_kept_of {f : Addr} {fd : FuncData} (F : Fun K "kept_of" "kept_of" s_kept_of f fd) (T : Txt K mg A) (c_needs_of : Cal P w K mg base "needs_of" 2 ["party"] (sp_needs_of K A)) : FnOk P w K mg base CX0 (3) f fd ["setup", "party"] (sp_kept_of K A) := by
  refine F.ok sc_kept_of (fun vs H Q E h => ?_) (fun cdv Ar outer s H vs Q E hr h => ⟨t_kept_of K A, ?_, ?_⟩)
  · obtain ⟨x0, x1, rfl, _⟩ := h
    rfl
  · have hu := hu_of hr
    exact (pss_cons (ps_set (i := 2) sc_kept_of.nd rfl (Or.inl rfl) (pe_cl c_needs_of (hr.mono (by first | decide | omega)) (by rfl) (pa_cons (pv 1) pa_nil)))
    (pss_cons (ps_set (i := 3) sc_kept_of.nd rfl (Or.inl rfl) pe_int)
    (pss_cons (ps_lock (ps_for PassesOwn.never rfl (pi_keys (pv 2)) (pg_tup rfl (pgs_cons (pg_name (i := 4) sc_kept_of.nd rfl (Or.inl rfl)) (pgs_cons (pg_name (i := 5) sc_kept_of.nd rfl (Or.inl rfl)) pgs_nil))) (pss_one (ps_aug (i := 3) sc_kept_of.nd rfl (Or.inl rfl) (pe_op o_mul (pe_op o_div (pe_op o_mul (pe_ix ix_tup (pe_ix ix_tup (pe_ix ix_tup (pv 0) pe_int (fun _ _ => rfl)) (pv 4) (fun _ _ => rfl)) (pv 5) (fun _ _ => rfl)) (pe_ix ix_tup (pv 0) pe_int (fun _ _ => rfl))) pe_int) (pe_dget hu (pv 2) (pe_tup (pa_cons (pv 4) (pa_cons (pv 5) pa_nil))) (fun _ _ => rfl))) ip_add))))
    (pss_one (ps_ret (pv 3))))))
  · obtain ⟨x0, x1, rfl, h⟩ := h
    exact pu_kept_of T h

theorem flat_sum (p : Cell → Int) : ∀ ss : List Stay, (ss.map fun s => ((cellsOf s).map p).sum).sum = ((ss.flatMap cellsOf).map p).sum
  | [] => rfl
  | s :: ss => by
    rw [List.map_cons, List.sum_cons, flat_sum p ss, List.flatMap_cons, List.map_append, List.sum_append]
def P_Lprice (K : PySem.W.Frag) (A : Ad) (x0 x1 : V) (H : Hp) (Q : VK) : Prop := ∃ (S : Setup) (a : Addr) (xs : List V) (ss : List Stay), SetupOk S ∧ Da H x0 (setupD S) ∧ x1 = .ref a ∧ H a = some (.tup xs) ∧ DaL H xs (ss.map stayD) ∧ (∀ s ∈ ss, StayOk S s) ∧ ss.length ≤ 100 ∧
  ∀ H', Fr [] H H' → Q (.int (priceS S ss)) H'
def sp_Lprice (K : PySem.W.Frag) (A : Ad) : Sp := fun vs H Q _ => ∃ x0 x1, vs = [x0, x1] ∧ P_Lprice K A x0 x1 H Q
theorem c_Lprice {K : PySem.W.Frag} {A : Ad} {x0 x1 : V} {H : Hp} {Q : VK} {E : XK} (h : P_Lprice K A x0 x1 H Q) : sp_Lprice K A [x0, x1] H Q E := ⟨_, _, rfl, h⟩
theorem sc_Lprice : FnScope ["_law_setup_here", "_law_party_here", "_law_stay_here", "_law_t"] ["_law_setup_here", "_law_party_here"] (defScope s_Lprice) := ⟨rfl, rfl, rfl, by decide +kernel, rfl, by decide +kernel, by decide +kernel⟩
def t_Lprice (K : PySem.W.Frag) (A : Ad) : TS :=
  (tRet (tCB (rSum K) (tCons (tLc (iTup K (tVar 1)) (gName 2) tYes (tCB (rSum K) (tCons (tLc (iRng2 (tCons (tOp (rIxT K) (tVar 2) (tC (.int 1))) (tCons (tOp (rIxT K) (tVar 2) (tC (.int 2))) tNil))) (gName 3) tYes (tOp (rIxT K) (tOp (rIxT K) (tOp (rIxT K) (tVar 0) (tC (.int 3))) (tOp (rIxT K) (tVar 2) (tC (.int 0)))) (tVar 3)) [3]) tNil)) [2]) tNil)))
theorem pu_Lprice (T : Txt K mg A) {x0 x1 : V} {H : Hp} {Q : VK} (h : P_Lprice K A x0 x1 H Q) : t_Lprice K A { nx := fun _ H' => Q .non H', rt := Q } [some x0, some x1, none, none] H := by
  obtain ⟨S, a, xs, ss, ok, dS, rfl, ex, ds, hk, hss, k⟩ := h
  obtain ⟨s, r, pr, ps, sa⟩ := SetAt.of dS
  cases sa.e
  have hxl : xs.length = ss.length := by rw [ds.len, List.length_map]
  unfold t_Lprice
  walk_at "go"
  refine l_tup (xs := xs) fun Dl H1 nD f1 e1 => ⟨fun i acc H' => acc = (ss.take i).map (fun s => V.int (((cellsOf s).map (prc S)).sum)) ∧ Fr [] H H', ⟨rfl, f1⟩, fun i acc H' h => SqT.of (h.2.tup _ _ ex), fun i x acc H' hx ha ⟨ea, f⟩ => ?_, fun acc H' ha ⟨ea, f⟩ => ?_⟩
  · obtain ⟨st, b, hs, rfl, eb, _⟩ := stays_get ds hx
    obtain ⟨k0, k1, k2, k3, k4⟩ := hk st (List.mem_of_getElem? hs)
    have hn2 := ok.n2
    have eb' := f.tup _ _ eb
    have hac : acc.length ≤ 100 := by rw [ea, List.length_map, List.length_take]; omega
    walk_at "go"
    refine ⟨rfl, ?_⟩
    walk_at "go"
    refine l_range (lo := st.2.1) (n := (st.2.2 - st.2.1).toNat) fun Dl2 H2 nD2 f2 e2 => ⟨fun j acc2 H2' => acc2 = ((cellsOf st).take j).map (fun c => V.int ((prc S) c)) ∧ Fr [] H' H2', ⟨rfl, f2⟩, fun j acc2 H3 hj ha2 ⟨ea2, f3⟩ => ?_, fun acc2 H3 ha2 ⟨ea2, f3⟩ => ?_⟩
    · have hc : (cellsOf st)[j]? = some (st.1, st.2.1 + (j : Nat)) := by
        unfold cellsOf
        rw [List.getElem?_map, List.getElem?_range hj]
        rfl
      obtain ⟨b2, row, h1, h2, h3, h4, h5⟩ := prc_at ok sa (c := (st.1, st.2.1 + (j : Nat))) k0 k1 (by show 0 ≤ st.2.1 + (j : Int); omega) (by show st.2.1 + (j : Int) < S.nights; omega)
      have h2' := f3.tup _ _ (f.tup _ _ h2)
      have es3 := f3.tup _ _ (f.tup _ _ sa.t)
      have ep3 := f3.tup _ _ (f.tup _ _ sa.p)
      have eb3 := f3.tup _ _ eb'
      have hac2 : acc2.length ≤ 100 := by rw [ea2, List.length_map, List.length_take]; omega
      have hs0 := ok.h1
      have hs1 := ok.h2
      walk_at "go"
      refine ⟨rfl, ?_⟩
      walk_at "go"
      refine g_ixT (SqT.of ep3) h1 ?_
      walk_at "go"
      refine g_ixT (SqT.of h2') h3 ?_
      walk_at "go"
      refine lcY_of ha2 (by walk_at "sz") fun H5 f5 e5 => ⟨?_, f3.own1 f5 nD2⟩
      rw [take_more hc, List.map_append, ea2]
      rfl
    · rw [show (st.2.2 - st.2.1).toNat = (cellsOf st).length from (cellsOf_len st).symm, List.take_length] at ea2
      walk_at "go"
      rw [ea2] at ha2
      refine g_sum (ns := (cellsOf st).map (prc S)) (SqL.of (by rw [ha2, List.map_map]; rfl)) ?_
      refine lcY_of (f3.at0 ha) (by walk_at "sz") fun H5 f5 e5 => ⟨?_, (f.then0 f3).own1 f5 nD⟩
      rw [take_more hs, List.map_append, ea]
      rfl
  · rw [hxl, List.take_length] at ea
    walk_at "go"
    rw [ea] at ha
    refine g_sum (ns := ss.map fun s => ((cellsOf s).map (prc S)).sum) (SqL.of (by rw [ha, List.map_map]; rfl)) ?_
    have hs : (ss.map fun s => ((cellsOf s).map (prc S)).sum).sum = priceS S ss := flat_sum (prc S) ss
    rw [hs]
    exact k H' f
theorem ok_Lprice {f : Addr} {fd : FuncData} (F : Fun K "_law_price" "_law_price" s_Lprice f fd) (T : Txt K mg A)  : FnOk P w K mg base CX0 (1) f fd ["_law_setup_here", "_law_party_here"] (sp_Lprice K A) := by
  refine F.ok sc_Lprice (fun vs H Q E h => ?_) (fun cdv Ar outer s H vs Q E hr h => ⟨t_Lprice K A, ?_, ?_⟩)
  · obtain ⟨x0, x1, rfl, _⟩ := h
    rfl
  · have hu := hu_of hr
    exact (pss_one (ps_ret (pe_callB (cr_sum rfl) (by rfl) T.b_sum (by decide +kernel) (pa_cons (pe_lc (own := [("_law_stay_here", 2)]) (g := (gName 2)) (tt := tYes) rfl sc_Lprice.nd (pi_tup (pv 1)) (blkOk_by (N := ["_law_setup_here", "_law_party_here", "_law_stay_here", "_law_t"]) (sc := defScope s_Lprice) (own := [("_law_stay_here", 2)]) (by decide +kernel)) (fun _ _ _ _ _ => (pg_name (i := 2) sc_Lprice.nd rfl (Or.inr rfl))) (fun _ _ _ _ _ => pts_nil) (fun _ _ _ _ _ => (pe_callB (cr_sum rfl) (by rfl) T.b_sum (by decide +kernel) (pa_cons (pe_lc (own := [("_law_t", 3)]) (g := (gName 3)) (tt := tYes) rfl sc_Lprice.nd (pi_range2 rfl T.b_range (pa_cons (pe_ix ix_tup (pv 2) pe_int (fun _ _ => rfl)) (pa_cons (pe_ix ix_tup (pv 2) pe_int (fun _ _ => rfl)) pa_nil))) (blkOk_by (N := ["_law_setup_here", "_law_party_here", "_law_stay_here", "_law_t"]) (sc := ({ kind := PySem.ScopeKind.function, names := [ (PySem.Str.ofString ".0", PySem.NameKind.local), (PySem.Str.ofString "_law_stay_here", PySem.NameKind.cell), (PySem.Str.ofString "sum", PySem.NameKind.globalImplicit), (PySem.Str.ofString "range", PySem.NameKind.globalImplicit), (PySem.Str.ofString "_law_setup_here", PySem.NameKind.cell)], isGenerator := false, isCoroutine := false, more := [] : PySem.Scope })) (own := [("_law_t", 3)]) (by decide +kernel)) (fun _ _ _ _ _ => (pg_name (i := 3) sc_Lprice.nd rfl (Or.inl rfl))) (fun _ _ _ _ _ => pts_nil) (fun _ _ _ _ _ => (pe_ix ix_tup (pe_ix ix_tup (pe_ix ix_tup (pv 0) pe_int (fun _ _ => rfl)) (pe_ix ix_tup (pv 2) pe_int (fun _ _ => rfl)) (fun _ _ => rfl)) (pv 3) (fun _ _ => rfl)))) pa_nil)))) pa_nil))))
  · obtain ⟨x0, x1, rfl, h⟩ := h
    exact pu_Lprice T h
def P_Lkept (K : PySem.W.Frag) (A : Ad) (x0 x1 : V) (H : Hp) (Q : VK) : Prop := ∃ (S : Setup) (a : Addr) (xs : List V) (ss : List Stay), SetupOk S ∧ Da H x0 (setupD S) ∧ x1 = .ref a ∧ H a = some (.tup xs) ∧ DaL H xs (ss.map stayD) ∧ (∀ s ∈ ss, StayOk S s) ∧ ss.length ≤ 100 ∧
  ∀ H', Fr [] H H' → Q (.int (keptS S ss)) H'
def sp_Lkept (K : PySem.W.Frag) (A : Ad) : Sp := fun vs H Q _ => ∃ x0 x1, vs = [x0, x1] ∧ P_Lkept K A x0 x1 H Q
theorem c_Lkept {K : PySem.W.Frag} {A : Ad} {x0 x1 : V} {H : Hp} {Q : VK} {E : XK} (h : P_Lkept K A x0 x1 H Q) : sp_Lkept K A [x0, x1] H Q E := ⟨_, _, rfl, h⟩
theorem sc_Lkept : FnScope ["_law_setup_here", "_law_party_here", "_law_stay_here", "_law_t"] ["_law_setup_here", "_law_party_here"] (defScope s_Lkept) := ⟨rfl, rfl, rfl, by decide +kernel, rfl, by decide +kernel, by decide +kernel⟩
def t_Lkept (K : PySem.W.Frag) (A : Ad) : TS :=
  (tRet (tCB (rSum K) (tCons (tLc (iTup K (tVar 1)) (gName 2) tYes (tCB (rSum K) (tCons (tLc (iRng2 (tCons (tOp (rIxT K) (tVar 2) (tC (.int 1))) (tCons (tOp (rIxT K) (tVar 2) (tC (.int 2))) tNil))) (gName 3) tYes (tOp oDiv (tOp oMul (tOp (rIxT K) (tOp (rIxT K) (tOp (rIxT K) (tVar 0) (tC (.int 3))) (tOp (rIxT K) (tVar 2) (tC (.int 0)))) (tVar 3)) (tOp (rIxT K) (tVar 0) (tC (.int 4)))) (tC (.int 100))) [3]) tNil)) [2]) tNil)))
theorem pu_Lkept (T : Txt K mg A) {x0 x1 : V} {H : Hp} {Q : VK} (h : P_Lkept K A x0 x1 H Q) : t_Lkept K A { nx := fun _ H' => Q .non H', rt := Q } [some x0, some x1, none, none] H := by
  obtain ⟨S, a, xs, ss, ok, dS, rfl, ex, ds, hk, hss, k⟩ := h
  obtain ⟨s, r, pr, ps, sa⟩ := SetAt.of dS
  cases sa.e
  have hxl : xs.length = ss.length := by rw [ds.len, List.length_map]
  unfold t_Lkept
  walk_at "go"
  refine l_tup (xs := xs) fun Dl H1 nD f1 e1 => ⟨fun i acc H' => acc = (ss.take i).map (fun s => V.int (((cellsOf s).map (fun c => prc S c * S.share / 100)).sum)) ∧ Fr [] H H', ⟨rfl, f1⟩, fun i acc H' h => SqT.of (h.2.tup _ _ ex), fun i x acc H' hx ha ⟨ea, f⟩ => ?_, fun acc H' ha ⟨ea, f⟩ => ?_⟩
  · obtain ⟨st, b, hs, rfl, eb, _⟩ := stays_get ds hx
    obtain ⟨k0, k1, k2, k3, k4⟩ := hk st (List.mem_of_getElem? hs)
    have hn2 := ok.n2
    have eb' := f.tup _ _ eb
    have hac : acc.length ≤ 100 := by rw [ea, List.length_map, List.length_take]; omega
    walk_at "go"
    refine ⟨rfl, ?_⟩
    walk_at "go"
    refine l_range (lo := st.2.1) (n := (st.2.2 - st.2.1).toNat) fun Dl2 H2 nD2 f2 e2 => ⟨fun j acc2 H2' => acc2 = ((cellsOf st).take j).map (fun c => V.int ((fun c => prc S c * S.share / 100) c)) ∧ Fr [] H' H2', ⟨rfl, f2⟩, fun j acc2 H3 hj ha2 ⟨ea2, f3⟩ => ?_, fun acc2 H3 ha2 ⟨ea2, f3⟩ => ?_⟩
    · have hc : (cellsOf st)[j]? = some (st.1, st.2.1 + (j : Nat)) := by
        unfold cellsOf
        rw [List.getElem?_map, List.getElem?_range hj]
        rfl
      obtain ⟨b2, row, h1, h2, h3, h4, h5⟩ := prc_at ok sa (c := (st.1, st.2.1 + (j : Nat))) k0 k1 (by show 0 ≤ st.2.1 + (j : Int); omega) (by show st.2.1 + (j : Int) < S.nights; omega)
      have h2' := f3.tup _ _ (f.tup _ _ h2)
      have es3 := f3.tup _ _ (f.tup _ _ sa.t)
      have ep3 := f3.tup _ _ (f.tup _ _ sa.p)
      have eb3 := f3.tup _ _ eb'
      have hac2 : acc2.length ≤ 100 := by rw [ea2, List.length_map, List.length_take]; omega
      have hs0 := ok.h1
      have hs1 := ok.h2
      walk_at "go"
      refine ⟨rfl, ?_⟩
      walk_at "go"
      refine g_ixT (SqT.of ep3) h1 ?_
      walk_at "go"
      refine g_ixT (SqT.of h2') h3 ?_
      have hm : 0 ≤ prc S (st.1, st.2.1 + (j : Nat)) * S.share ∧ prc S (st.1, st.2.1 + (j : Nat)) * S.share ≤ 1000000 * 100 := ⟨Int.mul_nonneg h4 hs0, Int.mul_le_mul h5 hs1 hs0 (by decide)⟩
      walk_at "go"
      refine lcY_of ha2 (by walk_at "sz") fun H5 f5 e5 => ⟨?_, f3.own1 f5 nD2⟩
      rw [take_more hc, List.map_append, ea2]
      rfl
    · rw [show (st.2.2 - st.2.1).toNat = (cellsOf st).length from (cellsOf_len st).symm, List.take_length] at ea2
      walk_at "go"
      rw [ea2] at ha2
      refine g_sum (ns := (cellsOf st).map (fun c => prc S c * S.share / 100)) (SqL.of (by rw [ha2, List.map_map]; rfl)) ?_
      refine lcY_of (f3.at0 ha) (by walk_at "sz") fun H5 f5 e5 => ⟨?_, (f.then0 f3).own1 f5 nD⟩
      rw [take_more hs, List.map_append, ea]
      rfl
  · rw [hxl, List.take_length] at ea
    walk_at "go"
    rw [ea] at ha
    refine g_sum (ns := ss.map fun s => ((cellsOf s).map (fun c => prc S c * S.share / 100)).sum) (SqL.of (by rw [ha, List.map_map]; rfl)) ?_
    have hs : (ss.map fun s => ((cellsOf s).map (fun c => prc S c * S.share / 100)).sum).sum = keptS S ss := flat_sum (fun c => prc S c * S.share / 100) ss
    rw [hs]
    exact k H' f
theorem ok_Lkept {f : Addr} {fd : FuncData} (F : Fun K "_law_kept" "_law_kept" s_Lkept f fd) (T : Txt K mg A)  : FnOk P w K mg base CX0 (1) f fd ["_law_setup_here", "_law_party_here"] (sp_Lkept K A) := by
  refine F.ok sc_Lkept (fun vs H Q E h => ?_) (fun cdv Ar outer s H vs Q E hr h => ⟨t_Lkept K A, ?_, ?_⟩)
  · obtain ⟨x0, x1, rfl, _⟩ := h
    rfl
  · have hu := hu_of hr
    exact (pss_one (ps_ret (pe_callB (cr_sum rfl) (by rfl) T.b_sum (by decide +kernel) (pa_cons (pe_lc (own := [("_law_stay_here", 2)]) (g := (gName 2)) (tt := tYes) rfl sc_Lkept.nd (pi_tup (pv 1)) (blkOk_by (N := ["_law_setup_here", "_law_party_here", "_law_stay_here", "_law_t"]) (sc := defScope s_Lkept) (own := [("_law_stay_here", 2)]) (by decide +kernel)) (fun _ _ _ _ _ => (pg_name (i := 2) sc_Lkept.nd rfl (Or.inr rfl))) (fun _ _ _ _ _ => pts_nil) (fun _ _ _ _ _ => (pe_callB (cr_sum rfl) (by rfl) T.b_sum (by decide +kernel) (pa_cons (pe_lc (own := [("_law_t", 3)]) (g := (gName 3)) (tt := tYes) rfl sc_Lkept.nd (pi_range2 rfl T.b_range (pa_cons (pe_ix ix_tup (pv 2) pe_int (fun _ _ => rfl)) (pa_cons (pe_ix ix_tup (pv 2) pe_int (fun _ _ => rfl)) pa_nil))) (blkOk_by (N := ["_law_setup_here", "_law_party_here", "_law_stay_here", "_law_t"]) (sc := ({ kind := PySem.ScopeKind.function, names := [ (PySem.Str.ofString ".0", PySem.NameKind.local), (PySem.Str.ofString "_law_stay_here", PySem.NameKind.cell), (PySem.Str.ofString "sum", PySem.NameKind.globalImplicit), (PySem.Str.ofString "range", PySem.NameKind.globalImplicit), (PySem.Str.ofString "_law_setup_here", PySem.NameKind.cell)], isGenerator := false, isCoroutine := false, more := [] : PySem.Scope })) (own := [("_law_t", 3)]) (by decide +kernel)) (fun _ _ _ _ _ => (pg_name (i := 3) sc_Lkept.nd rfl (Or.inl rfl))) (fun _ _ _ _ _ => pts_nil) (fun _ _ _ _ _ => (pe_op o_div (pe_op o_mul (pe_ix ix_tup (pe_ix ix_tup (pe_ix ix_tup (pv 0) pe_int (fun _ _ => rfl)) (pe_ix ix_tup (pv 2) pe_int (fun _ _ => rfl)) (fun _ _ => rfl)) (pv 3) (fun _ _ => rfl)) (pe_ix ix_tup (pv 0) pe_int (fun _ _ => rfl))) pe_int))) pa_nil)))) pa_nil))))
  · obtain ⟨x0, x1, rfl, h⟩ := h
    exact pu_Lkept T h

/-! ### plain books: tables of parties -/
abbrev Pty := Addr × List Stay
abbrev pD (m : List (Cell × Pty)) : List (List Key × V) := enD ck (fun x : Pty => V.ref x.1) m
def nd (p : List Stay) (c : Cell) : Int := (lk (needsL p) c).getD 0
def tot (m : List (Cell × Pty)) (c : Cell) : Int := (m.map fun e => nd e.2.2 c).sum
def rmC (S : Setup) (c : Cell) : Int := S.rooms.getD c.1.toNat 0
def fitb (S : Setup) (m : List (Cell × Pty)) (p : List Stay) : Bool := (needsL p).all fun e => decide (e.2 + tot m e.1 ≤ rmC S e.1)
theorem sum_perm {l1 l2 : List Int} (h : l1.Perm l2) : l1.sum = l2.sum := by
  induction h with
  | nil => rfl
  | cons x _ ih => rw [List.sum_cons, List.sum_cons, ih]
  | swap x y l => rw [List.sum_cons, List.sum_cons, List.sum_cons, List.sum_cons]; omega
  | trans _ _ h1 h2 => exact h1.trans h2
theorem tot_perm {m1 m2 : List (Cell × Pty)} (h : m1.Perm m2) (c : Cell) : tot m1 c = tot m2 c := sum_perm (h.map _)
theorem tot_cons (e : Cell × Pty) (m : List (Cell × Pty)) (c : Cell) : tot (e :: m) c = nd e.2.2 c + tot m c := by unfold tot; rw [List.map_cons, List.sum_cons]
theorem tot_snoc (e : Cell × Pty) (m : List (Cell × Pty)) (c : Cell) : tot (m ++ [e]) c = tot m c + nd e.2.2 c := by
  unfold tot; rw [List.map_append, List.sum_append]; simp
section
variable {κ α : Type} [DecidableEq κ]
theorem Nd.perm {m1 m2 : List (κ × α)} (n : Nd m1) (h : m1.Perm m2) : Nd m2 := by
  unfold Nd at n ⊢
  exact (h.map (fun e : κ × α => e.1)).nodup_iff.mp n
theorem lk_perm {m1 m2 : List (κ × α)} (h : m1.Perm m2) (n : Nd m1) (k : κ) : lk m1 k = lk m2 k := by
  by_cases q : k ∈ m1.map (·.1)
  · obtain ⟨e, he, rfl⟩ := List.mem_map.mp q
    rw [lk_mem n he, lk_mem (n.perm h) (h.mem_iff.mp he)]
  · rw [lk_none q, lk_none fun z => q ((h.map (fun e : κ × α => e.1)).mem_iff.mpr z)]
theorem dr_perm {m1 m2 : List (κ × α)} (h : m1.Perm m2) (k : κ) : (dr m1 k).Perm (dr m2 k) := h.filter _
theorem dr_nd {m : List (κ × α)} (n : Nd m) (k : κ) : Nd (dr m k) := by
  unfold Nd dr
  exact List.Pairwise.sublist (List.Sublist.map _ List.filter_sublist) n
theorem dr_not {m : List (κ × α)} {k : κ} : k ∉ (dr m k).map (·.1) := fun q => by
  obtain ⟨e, he, z⟩ := List.mem_map.mp q
  exact (of_decide_eq_true (List.mem_filter.mp he).2) z
theorem pt_new {m : List (κ × α)} {k : κ} {v : α} (h : k ∉ m.map (·.1)) : pt m k v = m ++ [(k, v)] := by
  unfold pt
  rw [if_neg]
  intro q
  obtain ⟨e, he, z⟩ := List.any_eq_true.mp q
  exact h (List.mem_map.mpr ⟨e, he, of_decide_eq_true z⟩)
theorem pt_mid {A B : List (κ × α)} {k : κ} {w v : α} (h : Nd (A ++ (k, w) :: B)) : pt (A ++ (k, w) :: B) k v = A ++ (k, v) :: B := by
  unfold Nd at h
  rw [List.map_append, List.map_cons, List.nodup_append] at h
  obtain ⟨_, h2, h3⟩ := h
  have hB := (List.nodup_cons.mp h2).1
  have hA : k ∉ A.map (·.1) := fun z => h3 k z k List.mem_cons_self rfl
  have same : ∀ {L : List (κ × α)}, k ∉ L.map (·.1) → (L.map fun e => if e.1 = k then (e.1, v) else e) = L := fun {L} hL => by
    refine (List.map_congr_left fun e he => ?_).trans (List.map_id L)
    rw [if_neg fun z => hL (List.mem_map.mpr ⟨e, he, z⟩)]; rfl
  unfold pt
  rw [if_pos (by simp), List.map_append, List.map_cons, same hA, same hB, if_pos rfl]
theorem mem_split {m : List (κ × α)} {k : κ} {w : α} (h : lk m k = some w) : ∃ A B, m = A ++ (k, w) :: B := List.append_of_mem (lk_some h)
theorem dr_mid {A B : List (κ × α)} {k : κ} {w : α} (h : Nd (A ++ (k, w) :: B)) : dr (A ++ (k, w) :: B) k = A ++ B := by
  unfold Nd at h
  rw [List.map_append, List.map_cons, List.nodup_append] at h
  obtain ⟨_, h2, h3⟩ := h
  have hB := (List.nodup_cons.mp h2).1
  have hA : k ∉ A.map (·.1) := fun z => h3 k z k List.mem_cons_self rfl
  have same : ∀ {L : List (κ × α)}, k ∉ L.map (·.1) → (L.filter fun e => decide (e.1 ≠ k)) = L := fun {L} hL => List.filter_eq_self.mpr fun e he => decide_eq_true fun z => hL (List.mem_map.mpr ⟨e, he, z⟩)
  unfold dr
  rw [List.filter_append, List.filter_cons, same hA, same hB]
  simp
theorem pt_perm {m : List (κ × α)} {k : κ} {w : α} (n : Nd m) (h : lk m k = some w) (v : α) : (pt m k v).Perm (dr m k ++ [(k, v)]) := by
  obtain ⟨A, B, rfl⟩ := mem_split h
  rw [pt_mid n, dr_mid n]
  exact (List.perm_middle).trans (List.perm_append_comm (l₁ := [(k, v)]) (l₂ := A ++ B))
theorem dr_back {m : List (κ × α)} {k : κ} {w : α} (n : Nd m) (h : lk m k = some w) : m.Perm (dr m k ++ [(k, w)]) := by
  obtain ⟨A, B, rfl⟩ := mem_split h
  rw [dr_mid n]
  exact (List.perm_middle).trans (List.perm_append_comm (l₁ := [(k, w)]) (l₂ := A ++ B))
theorem dr_none {m : List (κ × α)} {k : κ} (h : lk m k = none) : dr m k = m := List.filter_eq_self.mpr fun e he => decide_eq_true fun z => by
  have : k ∈ m.map (·.1) := List.mem_map.mpr ⟨e, he, z⟩
  unfold lk at h
  rw [Option.map_eq_none_iff, List.find?_eq_none] at h
  exact h e he (decide_eq_true z)
end
theorem lk_not {κ α : Type} [DecidableEq κ] {m : List (κ × α)} {k : κ} (h : lk m k = none) : k ∉ m.map (·.1) := fun q => by
  obtain ⟨e, he, z⟩ := List.mem_map.mp q
  unfold lk at h
  rw [Option.map_eq_none_iff, List.find?_eq_none] at h
  exact h e he (decide_eq_true z)
theorem rmC_at {S : Setup} {k n : Int} (h0 : 0 ≤ k) (h1 : k < S.rooms.length) : atI (S.rooms.map V.int) k = some (.int (rmC S (k, n))) := by
  have hk : k.toNat < S.rooms.length := by omega
  have e : (S.rooms.map V.int)[k.toNat]? = some (.int (rmC S (k, n))) := by
    unfold rmC
    rw [List.getElem?_map, List.getElem?_eq_getElem hk, List.getD_eq_getElem?_getD, List.getElem?_eq_getElem hk]; rfl
  have := atI_nat e
  rw [show ((k.toNat : Nat) : Int) = k by omega] at this
  exact this
/-! the law's table of all needs -/
def addT (T q : List (Cell × Int)) : List (Cell × Int) := q.foldl (fun T e => pt T e.1 ((lk T e.1).getD 0 + e.2)) T
theorem lk_cons {κ α : Type} [DecidableEq κ] (e : κ × α) (r : List (κ × α)) (c : κ) : lk (e :: r) c = if e.1 = c then some e.2 else lk r c := by
  unfold lk
  by_cases h : e.1 = c
  · simp [List.find?_cons, h]
  · simp [List.find?_cons, h]
theorem lk_addT (c : Cell) : ∀ (q T : List (Cell × Int)), Nd q → (lk (addT T q) c).getD 0 = (lk T c).getD 0 + (lk q c).getD 0
  | [], T, _ => by show (lk T c).getD 0 = (lk T c).getD 0 + 0; omega
  | e :: r, T, n => by
    have n1 := List.nodup_cons.mp (show (e.1 :: r.map (·.1)).Nodup from n)
    have ih := lk_addT c r (pt T e.1 ((lk T e.1).getD 0 + e.2)) n1.2
    show (lk (addT (pt T e.1 ((lk T e.1).getD 0 + e.2)) r) c).getD 0 = _
    rw [ih, lk_pt, lk_cons]
    by_cases h : c = e.1
    · have h2 : lk r e.1 = none := lk_none n1.1
      subst h
      rw [if_pos rfl, if_pos rfl, h2]
      show (lk T e.1).getD 0 + e.2 + 0 = (lk T e.1).getD 0 + e.2
      omega
    · rw [if_neg h, if_neg fun z => h z.symm]
theorem addT_nd : ∀ (q : List (Cell × Int)) {T : List (Cell × Int)}, Nd T → Nd (addT T q)
  | [], _, h => h
  | e :: r, _, h => addT_nd r (h.pt e.1 _)
theorem addT_keys {c : Cell} : ∀ (q : List (Cell × Int)) {T : List (Cell × Int)}, (c ∈ (addT T q).map (·.1) ↔ c ∈ T.map (·.1) ∨ c ∈ q.map (·.1))
  | [], T => by show c ∈ T.map (·.1) ↔ _; simp
  | e :: r, T => by
    show c ∈ (addT (pt T e.1 ((lk T e.1).getD 0 + e.2)) r).map (·.1) ↔ _
    rw [addT_keys r, pt_keys, List.map_cons, List.mem_cons]
    split
    · rename_i h
      constructor
      · rintro (a | a)
        · exact .inl a
        · exact .inr (.inr a)
      · rintro (a | a | a)
        · exact .inl a
        · exact .inl (a ▸ h)
        · exact .inr a
    · rw [List.mem_append, List.mem_singleton]
      constructor
      · rintro ((a | a) | a)
        · exact .inl a
        · exact .inr (.inl a)
        · exact .inr (.inr a)
      · rintro (a | a | a)
        · exact .inl (.inl a)
        · exact .inl (.inr a)
        · exact .inr a
def allT (m : List (Cell × Pty)) (p : List Stay) : List (Cell × Int) := m.foldl (fun T e => addT T (needsL e.2.2)) (needsL p)
theorem allT_snoc (m : List (Cell × Pty)) (e : Cell × Pty) (p : List Stay) : allT (m ++ [e]) p = addT (allT m p) (needsL e.2.2) := by unfold allT; rw [List.foldl_append]; rfl
theorem allT_of (p : List Stay) : ∀ (m : List (Cell × Pty)) (T : List (Cell × Int)), Nd T → Nd (m.foldl (fun T e => addT T (needsL e.2.2)) T) ∧ (∀ c, (lk (m.foldl (fun T e => addT T (needsL e.2.2)) T) c).getD 0 = (lk T c).getD 0 + tot m c) ∧ ∀ c, c ∈ T.map (·.1) → c ∈ (m.foldl (fun T e => addT T (needsL e.2.2)) T).map (·.1)
  | [], T, n => ⟨n, fun c => by show (lk T c).getD 0 = (lk T c).getD 0 + 0; omega, fun _ h => h⟩
  | e :: m, T, n => by
    obtain ⟨h1, h2, h3⟩ := allT_of p m (addT T (needsL e.2.2)) (addT_nd _ n)
    refine ⟨h1, fun c => ?_, fun c hc => h3 c ((addT_keys _).mpr (.inl hc))⟩
    show (lk (m.foldl (fun T e => addT T (needsL e.2.2)) (addT T (needsL e.2.2))) c).getD 0 = _
    rw [h2 c, lk_addT c _ _ (needs_nd _), tot_cons]
    unfold nd
    omega
/-- the law's test is the book's -/
theorem fit_same {S : Setup} {m : List (Cell × Pty)} {p : List Stay} (hI : ∀ c, tot m c ≤ rmC S c) : ((allT m p).all fun e => decide (e.2 ≤ rmC S e.1)) = fitb S m p := by
  obtain ⟨h1, h2, h3⟩ := allT_of p m (needsL p) (needs_nd p)
  rw [Bool.eq_iff_iff]
  unfold fitb
  rw [List.all_eq_true, List.all_eq_true]
  have val : ∀ e ∈ allT m p, e.2 = nd p e.1 + tot m e.1 := fun e he => by
    have := h2 e.1
    rw [show lk (m.foldl (fun T e => addT T (needsL e.2.2)) (needsL p)) e.1 = some e.2 from lk_mem h1 he] at this
    exact this
  constructor
  · intro h e he
    obtain ⟨e', he', hk⟩ := List.mem_map.mp (h3 e.1 (List.mem_map.mpr ⟨e, he, rfl⟩))
    have a := of_decide_eq_true (h e' he')
    rw [val e' he', hk] at a
    have b : nd p e.1 = e.2 := by unfold nd; rw [lk_mem (needs_nd p) he]; rfl
    rw [b] at a
    exact decide_eq_true a
  · intro h e he
    rw [val e he]
    refine decide_eq_true ?_
    by_cases q : e.1 ∈ (needsL p).map (·.1)
    · obtain ⟨e', he', hk⟩ := List.mem_map.mp q
      have a := of_decide_eq_true (h e' he')
      have b : nd p e'.1 = e'.2 := by unfold nd; rw [lk_mem (needs_nd p) he']; rfl
      rw [← b, hk] at a
      exact a
    · have b : nd p e.1 = 0 := by unfold nd; rw [lk_none q]; rfl
      rw [b, Int.zero_add]; exact hI e.1
/-- what fits keeps the bound -/
theorem fit_keeps {S : Setup} {m : List (Cell × Pty)} {p : List Stay} {k : Cell} {a : Addr} (hI : ∀ c, tot m c ≤ rmC S c) (hf : fitb S m p = true) : ∀ c, tot (m ++ [(k, (a, p))]) c ≤ rmC S c := fun c => by
  rw [tot_snoc]
  show tot m c + nd p c ≤ _
  unfold fitb at hf
  rw [List.all_eq_true] at hf
  by_cases q : c ∈ (needsL p).map (·.1)
  · obtain ⟨e, he, hk⟩ := List.mem_map.mp q
    have a := of_decide_eq_true (hf e he)
    have b : nd p e.1 = e.2 := by unfold nd; rw [lk_mem (needs_nd p) he]; rfl
    rw [← hk, b]; omega
  · have b : nd p c = 0 := by unfold nd; rw [lk_none q]; rfl
    have := hI c
    omega
theorem nd_pos (p : List Stay) (c : Cell) : 0 ≤ nd p c := by
  unfold nd
  have key : ∀ (cs : List Cell) (m : List (Cell × Int)), (∀ c, 0 ≤ (lk m c).getD 0) → ∀ c, 0 ≤ (lk (cs.foldl bump m) c).getD 0 := by
    intro cs
    induction cs with
    | nil => intro m h c; exact h c
    | cons a r ih =>
      intro m h c
      refine ih (bump m a) (fun c => ?_) c
      unfold bump
      rw [lk_pt]
      split
      · have := h a; show 0 ≤ (lk m a).getD 0 + 1; omega
      · exact h c
  exact key _ [] (fun c => Int.le_refl _) c
theorem tot_dr {m : List (Cell × Pty)} (n : Nd m) (k : Cell) (c : Cell) : tot (dr m k) c ≤ tot m c := by
  cases h : lk m k with
  | none => rw [dr_none h]; exact Int.le_refl _
  | some w =>
    rw [tot_perm (dr_back n h) c, tot_snoc]
    have := nd_pos w.2 c
    show tot (dr m k) c ≤ tot (dr m k) c + nd w.2 c
    omega
theorem fitb_perm {S : Setup} {m1 m2 : List (Cell × Pty)} (h : m1.Perm m2) (p : List Stay) : fitb S m1 p = fitb S m2 p := by
  unfold fitb
  congr 1
  funext e
  rw [tot_perm h e.1]

/-! ### cells, tables of numbers -/
def CellOk (S : Setup) (c : Cell) : Prop := 0 ≤ c.1 ∧ c.1 < S.rooms.length ∧ 0 ≤ c.2 ∧ c.2 < S.nights
def rowC (N : Nat) (k : Nat) : List Cell := (List.range N).map fun t : Nat => ((k : Int), (t : Int))
def cellsK (N k : Nat) : List Cell := (List.range k).flatMap (rowC N)
def cellsAll (S : Setup) : List Cell := cellsK S.nights.toNat S.rooms.length
theorem mem_row {N k : Nat} {c : Cell} : c ∈ rowC N k ↔ c.1 = k ∧ 0 ≤ c.2 ∧ c.2 < N := by
  unfold rowC
  rw [List.mem_map]
  constructor
  · rintro ⟨t, ht, rfl⟩
    have := List.mem_range.mp ht
    exact ⟨rfl, by show (0 : Int) ≤ (t : Int); omega, by show (t : Int) < (N : Int); omega⟩
  · rintro ⟨h1, h2, h3⟩
    exact ⟨c.2.toNat, List.mem_range.mpr (by omega), Prod.ext h1.symm (by show ((c.2.toNat : Nat) : Int) = c.2; omega)⟩
theorem mem_cellsK {N k : Nat} {c : Cell} : c ∈ cellsK N k ↔ 0 ≤ c.1 ∧ c.1 < k ∧ 0 ≤ c.2 ∧ c.2 < N := by
  unfold cellsK
  rw [List.mem_flatMap]
  constructor
  · rintro ⟨i, hi, h⟩
    have h1 := List.mem_range.mp hi
    obtain ⟨a, b, c'⟩ := mem_row.mp h
    exact ⟨by omega, by omega, b, c'⟩
  · rintro ⟨h1, h2, h3, h4⟩
    exact ⟨c.1.toNat, List.mem_range.mpr (by omega), mem_row.mpr ⟨by omega, h3, h4⟩⟩
theorem cellsK_succ (N k : Nat) : cellsK N (k + 1) = cellsK N k ++ rowC N k := by
  unfold cellsK
  rw [List.range_succ, List.flatMap_append]; simp
theorem rowC_succ (N k : Nat) : rowC (N + 1) k = rowC N k ++ [((k : Int), (N : Int))] := by
  unfold rowC
  rw [List.range_succ, List.map_append]; rfl
theorem row_nd (k : Nat) : ∀ N : Nat, (rowC N k).Nodup
  | 0 => List.nodup_nil
  | N + 1 => by
    rw [rowC_succ]
    refine List.nodup_append.mpr ⟨row_nd k N, by simp, fun a ha b hb e => ?_⟩
    rw [List.mem_singleton.mp hb] at e
    subst e
    have := (mem_row.mp ha).2.2
    exact absurd this (by show ¬ (N : Int) < (N : Int); omega)
theorem cellsK_nd (N : Nat) : ∀ k : Nat, (cellsK N k).Nodup
  | 0 => List.nodup_nil
  | k + 1 => by
    rw [cellsK_succ]
    refine List.nodup_append.mpr ⟨cellsK_nd N k, row_nd k N, fun a ha b hb e => ?_⟩
    subst e
    have h1 := (mem_cellsK.mp ha).2.1
    have h2 := (mem_row.mp hb).1
    omega
theorem mem_cells {S : Setup} {c : Cell} (hn : 1 ≤ S.nights) : c ∈ cellsAll S ↔ CellOk S c := by
  unfold cellsAll CellOk
  rw [mem_cellsK]
  constructor
  · rintro ⟨a, b, c', d⟩; exact ⟨a, b, c', by omega⟩
  · rintro ⟨a, b, c', d⟩; exact ⟨a, b, c', by omega⟩
theorem cells_len (S : Setup) : (cellsAll S).length = S.rooms.length * S.nights.toNat := by
  have key : ∀ (N k : Nat), (cellsK N k).length = k * N := by
    intro N k
    induction k with
    | zero => simp [cellsK]
    | succ k ih => rw [cellsK_succ, List.length_append, ih]; unfold rowC; rw [List.length_map, List.length_range, Nat.succ_mul]
  exact key _ _
def fset (f : Cell → Int) (c : Cell) (v : Int) : Cell → Int := fun x => if x = c then v else f x
theorem fset_same {f : Cell → Int} {c : Cell} {v : Int} : fset f c v c = v := by unfold fset; rw [if_pos rfl]
theorem fset_ne {f : Cell → Int} {c x : Cell} {v : Int} (h : x ≠ c) : fset f c v x = f x := by unfold fset; rw [if_neg h]
def tabF (cs : List Cell) (f : Cell → Int) : List (Cell × Int) := cs.map fun c => (c, f c)
abbrev stT (S : Setup) (f : Cell → Int) : List (Cell × Int) := tabF (cellsAll S) f
theorem tab_keys (cs : List Cell) (f : Cell → Int) : (tabF cs f).map (·.1) = cs := by
  unfold tabF; rw [List.map_map]; exact (List.map_congr_left fun _ _ => rfl).trans (List.map_id cs)
theorem tab_nd {cs : List Cell} (h : cs.Nodup) (f : Cell → Int) : Nd (tabF cs f) := by unfold Nd; rw [tab_keys]; exact h
theorem lk_tab {cs : List Cell} (n : cs.Nodup) {f : Cell → Int} {c : Cell} (h : c ∈ cs) : lk (tabF cs f) c = some (f c) := lk_mem (e := (c, f c)) (tab_nd n f) (List.mem_map.mpr ⟨c, h, rfl⟩)
theorem pt_tab {cs : List Cell} {f : Cell → Int} {c : Cell} {v : Int} (h : c ∈ cs) : pt (tabF cs f) c v = tabF cs (fset f c v) := by
  unfold pt
  have a : ((tabF cs f).any fun e => decide (e.1 = c)) = true := List.any_eq_true.mpr ⟨(c, f c), List.mem_map.mpr ⟨c, h, rfl⟩, by simp⟩
  rw [if_pos a]
  unfold tabF
  rw [List.map_map]
  refine List.map_congr_left fun x _ => ?_
  show (if x = c then (x, v) else (x, f x)) = (x, fset f c v x)
  unfold fset
  by_cases q : x = c
  · rw [if_pos q, if_pos q]
  · rw [if_neg q, if_neg q]
theorem cells_nd (S : Setup) : (cellsAll S).Nodup := cellsK_nd _ _
theorem st_get {S : Setup} (so : SetupOk S) {f : Cell → Int} {c : Cell} (h : CellOk S c) : valV (cD (stT S f)) (ck c) = some (.int (f c)) := by
  rw [val_cell, lk_tab (cells_nd S) ((mem_cells so.n1).mpr h)]; rfl
theorem st_put {S : Setup} (so : SetupOk S) {f : Cell → Int} {c : Cell} {v : Int} (h : CellOk S c) : putK (cD (stT S f)) (ck c) (.int v) = cD (stT S (fset f c v)) := by
  rw [put_cell, pt_tab ((mem_cells so.n1).mpr h)]
theorem st_len {S : Setup} (so : SetupOk S) (f : Cell → Int) : (cD (stT S f)).length ≤ 36 := by
  rw [enD_len]
  unfold stT tabF
  rw [List.length_map, cells_len]
  have h1 := so.k3
  have h2 := so.n2
  have h3 : S.nights.toNat ≤ 12 := by omega
  exact Nat.le_trans (Nat.mul_le_mul h1 h3) (by decide)
theorem st_lt {S : Setup} (so : SetupOk S) (f : Cell → Int) : (cD (stT S f)).length < sizeLine := szM (Nat.le_trans (st_len so f) (by decide))
/-! ### rows, bodies -/
abbrev Lack := List (Cell × Int)
abbrev Ask := Int × Int × Lack
inductive Row
  | sold (n : Int) (p : List Stay) (a b : Int)
  | cancelled (n a b : Int)
  | changed (n : Int) (p : List Stay) (a b c d : Int)
inductive UpB
  | ask (n : Int) (l : Lack)
  | closed (cs : List Int)
  | back (c : Cell)
  | entry (r : Row)
inductive DnB
  | give (c : Cell)
  | close (cs : List Cell)
  | opn (cs : List Int) (an : Option (Int × Bool))
  | want (c : Cell)
def cellD (c : Cell) : PyData := .tuple [.int c.1, .int c.2]
def lackD (l : Lack) : PyData := .tuple (l.map fun e => .tuple [cellD e.1, .int e.2])
def cellsD (l : List Cell) : PyData := .tuple (l.map cellD)
def askD (a : Ask) : PyData := .tuple [.int a.1, .int a.2.1, lackD a.2.2]
def roundD : Option Ask → PyData
  | none => .none
  | some a => askD a
def ansD : Option (Int × Bool) → PyData
  | none => .none
  | some a => .tuple [.int a.1, .bool a.2]
def rowB : Row → PyData
  | .sold n p a b => .tuple [.str "sold", .int n, partyD p, .int a, .int b]
  | .cancelled n a b => .tuple [.str "cancelled", .int n, .int a, .int b]
  | .changed n p a b c d => .tuple [.str "changed", .int n, partyD p, .int a, .int b, .int c, .int d]
def upD : UpB → PyData
  | .ask n l => .tuple [.str "ask", .int n, lackD l]
  | .closed cs => .tuple [.str "closed", rowD cs]
  | .back c => .tuple [.str "back", .int c.1, .int c.2]
  | .entry r => .tuple [.str "entry", rowB r]
def dnD : DnB → PyData
  | .give c => .tuple [.str "give", .int c.1, .int c.2]
  | .close cs => .tuple [.str "close", cellsD cs]
  | .opn cs an => .tuple [.str "open", rowD cs, ansD an]
  | .want c => .tuple [.str "want", .int c.1, .int c.2]
def outD (e : Int × DnB) : PyData := .tuple [.int e.1, dnD e.2]
theorem imm_cell (c : Cell) : imm (cellD c) = true := rfl
theorem imm_lack (l : Lack) : imm (lackD l) = true := immL_map (fun _ => rfl) l
theorem imm_cells (l : List Cell) : imm (cellsD l) = true := immL_map imm_cell l
theorem imm_ask (a : Ask) : imm (askD a) = true := by
  show (true && (true && (imm (lackD a.2.2) && true))) = true
  rw [imm_lack]; rfl
theorem imm_round (r : Option Ask) : imm (roundD r) = true := by
  cases r with
  | none => rfl
  | some a => exact imm_ask a
theorem imm_ans (a : Option (Int × Bool)) : imm (ansD a) = true := by cases a <;> rfl
theorem imm_rowB (r : Row) : imm (rowB r) = true := by
  cases r with
  | sold n p a b =>
    show (true && (true && (imm (partyD p) && true))) = true
    rw [imm_party]; rfl
  | cancelled n a b => rfl
  | changed n p a b c d =>
    show (true && (true && (imm (partyD p) && true))) = true
    rw [imm_party]; rfl
theorem imm_up (b : UpB) : imm (upD b) = true := by
  cases b with
  | ask n l =>
    show (true && (true && (imm (lackD l) && true))) = true
    rw [imm_lack]; rfl
  | closed cs =>
    show (true && (imm (rowD cs) && true)) = true
    rw [imm_row]; rfl
  | back c => rfl
  | entry r =>
    show (true && (imm (rowB r) && true)) = true
    rw [imm_rowB]; rfl
theorem imm_dn (b : DnB) : imm (dnD b) = true := by
  cases b with
  | give c => rfl
  | close cs =>
    show (true && (imm (cellsD cs) && true)) = true
    rw [imm_cells]; rfl
  | opn cs an =>
    show (true && (imm (rowD cs) && (imm (ansD an) && true))) = true
    rw [imm_row, imm_ans]; rfl
  | want c => rfl
theorem imm_out (e : Int × DnB) : imm (outD e) = true := by
  show (true && (imm (dnD e.2) && true)) = true
  rw [imm_dn]; rfl
/-! the tuples in the heap -/
theorem cell_at {H : Hp} {v : V} {c : Cell} (h : Da H v (cellD c)) : ∃ a, v = .ref a ∧ H a = some (.tup [.int c.1, .int c.2]) := by
  obtain ⟨a, xs, rfl, e, _, q⟩ := h.tup1
  obtain ⟨x, y, rfl, dx, dy⟩ := q.two
  cases dx.int1
  cases dy.int1
  exact ⟨a, rfl, e⟩
theorem lack_get {H : Hp} {xs : List V} {l : Lack} {i : Nat} {x : V} (h : DaL H xs (l.map fun e => .tuple [cellD e.1, .int e.2])) (hx : xs[i]? = some x) : ∃ e b c, l[i]? = some e ∧ x = .ref b ∧ H b = some (.tup [.ref c, .int e.2]) ∧ H c = some (.tup [.int e.1.1, .int e.1.2]) := by
  obtain ⟨d, hd, dd⟩ := h.get hx
  rw [List.getElem?_map] at hd
  cases q : l[i]? with
  | none => rw [q] at hd; cases hd
  | some e =>
    rw [q] at hd
    cases hd
    obtain ⟨b, ys, rfl, eb, _, r⟩ := dd.tup1
    obtain ⟨u, v, rfl, du, dv⟩ := r.two
    obtain ⟨c, rfl, ec⟩ := cell_at du
    cases dv.int1
    exact ⟨e, b, c, rfl, rfl, eb, ec⟩
theorem cells_get {H : Hp} {xs : List V} {l : List Cell} {i : Nat} {x : V} (h : DaL H xs (l.map cellD)) (hx : xs[i]? = some x) : ∃ c a, l[i]? = some c ∧ x = .ref a ∧ H a = some (.tup [.int c.1, .int c.2]) := by
  obtain ⟨d, hd, dd⟩ := h.get hx
  rw [List.getElem?_map] at hd
  cases q : l[i]? with
  | none => rw [q] at hd; cases hd
  | some c =>
    rw [q] at hd
    cases hd
    obtain ⟨a, rfl, ea⟩ := cell_at dd
    exact ⟨c, a, rfl, rfl, ea⟩
theorem ask_at {H : Hp} {v : V} {a : Ask} (h : Da H v (askD a)) : ∃ p l xs, v = .ref p ∧ H p = some (.tup [.int a.1, .int a.2.1, .ref l]) ∧ H l = some (.tup xs) ∧ DaL H xs (a.2.2.map fun e => .tuple [cellD e.1, .int e.2]) := by
  obtain ⟨p, ys, rfl, e, _, q⟩ := h.tup1
  obtain ⟨x, y, z, rfl, dx, dy, dz⟩ := q.three
  cases dx.int1
  cases dy.int1
  obtain ⟨l, xs, rfl, el, _, r⟩ := Da.tup1 dz
  exact ⟨p, l, xs, rfl, e, el, r⟩
theorem ints_at {H : Hp} {v : V} {r : List Int} (h : Da H v (rowD r)) : ∃ p, v = .ref p ∧ H p = some (.tup (r.map V.int)) := by
  obtain ⟨p, xs, rfl, e, _, q⟩ := h.tup1
  rw [DaL.ints q] at e
  exact ⟨p, rfl, e⟩

/-! ### the house as plain data -/
structure HM where
  st : Cell → Int
  bk : List (List Row)
  qu : List Ask
  rd : Option Ask
  ct : List (Int × List Int)
  out : List (Int × DnB)
abbrev lackC (a : Ask) : List Cell := a.2.2.map (·.1)
def LackOk (S : Setup) (l : Lack) : Prop := (∀ e ∈ l, CellOk S e.1) ∧ l.length ≤ 36
def closeL (n : Nat) (a : Ask) : List (Int × DnB) := (List.range n).map fun s : Nat => ((s : Int), DnB.close (lackC a))
def HM.look (n : Nat) (M : HM) : HM :=
  match M.rd, M.qu with
  | none, a :: q => { M with rd := some a, qu := q, ct := [], out := M.out ++ closeL n a }
  | _, _ => M
/-- more in each cell -/
def addZ (f : Cell → Int) (l : List (Cell × Int)) : Cell → Int := l.foldl (fun f e => fset f e.1 (f e.1 + e.2)) f
def subZ (f : Cell → Int) (l : List (Cell × Int)) : Cell → Int := l.foldl (fun f e => fset f e.1 (f e.1 - e.2)) f
/-- what one seller gets back -/
def minI (a b : Int) : Int := if b < a then b else a
def backZ : (Cell → Int) → List (Cell × Int) → List Int × (Cell → Int)
  | f, [] => ([], f)
  | f, e :: r => let z := backZ (fset f e.1 (f e.1 - minI e.2 (f e.1))) r; (minI e.2 (f e.1) :: z.1, z.2)
def opensZ (a : Ask) (g : Bool) (ct : List (Int × List Int)) (f : Cell → Int) : Nat → (Cell → Int) × List (Int × DnB)
  | 0 => (f, [])
  | s + 1 => let z := opensZ a g ct f s; let b := backZ z.1 ((lackC a).zip ((lk ct (s : Int)).getD [])); (b.2, z.2 ++ [((s : Int), DnB.opn b.1 (if (s : Int) = a.1 then some (a.2.1, g) else none))])
def grantZ (f : Cell → Int) (l : Lack) : Bool := l.all fun e => decide (e.2 ≤ f e.1)
def HM.decide (n : Nat) (M : HM) : HM :=
  match M.rd with
  | none => M
  | some a =>
    let g := grantZ M.st a.2.2
    let z := opensZ a g M.ct (if g = true then subZ M.st a.2.2 else M.st) n
    HM.look n { M with st := z.1, out := M.out ++ z.2, rd := none }
def HM.closed (n : Nat) (s : Int) (cs : List Int) (M : HM) : HM :=
  match M.rd with
  | none => M
  | some a =>
    let M1 : HM := { M with st := addZ M.st ((lackC a).zip cs), ct := pt M.ct s cs }
    if M1.ct.length = n then M1.decide n else M1
def HM.handle (n : Nat) (s : Int) (b : UpB) (M : HM) : HM :=
  match b with
  | .ask k l => HM.look n { M with qu := M.qu ++ [(s, k, l)] }
  | .closed cs => M.closed n s cs
  | .back c => { M with st := fset M.st c (M.st c + 1) }
  | .entry r => { M with bk := M.bk.set s.toNat (M.bk.getD s.toNat [] ++ [r]) }
/-- a house in order -/
structure HM.Ok (S : Setup) (M : HM) : Prop where
  qk : ∀ a ∈ M.qu, LackOk S a.2.2
  rk : ∀ a, M.rd = some a → LackOk S a.2.2
  cl : ∀ a, M.rd = some a → ∀ e ∈ M.ct, e.2.length = a.2.2.length
  ck : ∀ e ∈ M.ct, 0 ≤ e.1 ∧ e.1 < S.sellers
  cn : Nd M.ct
  bl : M.bk.length = S.sellers.toNat
theorem look_ok {S : Setup} {n : Nat} {M : HM} (h : M.Ok S) : (HM.look n M).Ok S := by
  unfold HM.look
  split
  · rename_i a q h1 h2
    refine ⟨fun x hx => h.qk x (by rw [h2]; exact List.mem_cons_of_mem _ hx), fun x hx => ?_, fun _ _ e he => (nomatch he), fun e he => (nomatch he), List.nodup_nil, h.bl⟩
    rw [← Option.some.inj hx]
    exact h.qk a (by rw [h2]; exact List.mem_cons_self)
  · exact h
theorem decide_ok {S : Setup} {n : Nat} {M : HM} (h : M.Ok S) : (HM.decide n M).Ok S := by
  unfold HM.decide
  split
  · exact h
  · exact look_ok ⟨h.qk, fun x hx => (by cases hx), fun x hx => (by cases hx), h.ck, h.cn, h.bl⟩
theorem pt_mem {κ α : Type} [DecidableEq κ] {m : List (κ × α)} {k : κ} {v : α} {e : κ × α} (h : e ∈ pt m k v) : e ∈ m ∨ e = (k, v) := by
  unfold pt at h
  split at h
  · obtain ⟨x, hx, rfl⟩ := List.mem_map.mp h
    by_cases q : x.1 = k
    · rw [if_pos q]; exact .inr (by rw [q])
    · rw [if_neg q]; exact .inl hx
  · rcases List.mem_append.mp h with q | q
    · exact .inl q
    · exact .inr (List.mem_singleton.mp q)
theorem closed_ok {S : Setup} {n : Nat} {M : HM} {s : Int} {cs : List Int} (h : M.Ok S) (hs : 0 ≤ s ∧ s < S.sellers) (hc : ∀ a, M.rd = some a → cs.length = a.2.2.length) : (HM.closed n s cs M).Ok S := by
  unfold HM.closed
  split
  · exact h
  · rename_i a ha
    have h1 : HM.Ok S { M with st := addZ M.st ((lackC a).zip cs), ct := pt M.ct s cs } := by
      refine ⟨h.qk, h.rk, fun x hx e he => ?_, fun e he => ?_, h.cn.pt _ _, h.bl⟩
      · rcases pt_mem he with q | q
        · exact h.cl x hx e q
        · rw [q]; exact hc x hx
      · rcases pt_mem he with q | q
        · exact h.ck e q
        · rw [q]; exact hs
    show HM.Ok S (if _ then _ else _)
    split
    · exact decide_ok h1
    · exact h1
def UpOk (S : Setup) (M : HM) : UpB → Prop
  | .ask _ l => LackOk S l
  | .closed cs => ∃ a, M.rd = some a ∧ cs.length = a.2.2.length
  | .back c => CellOk S c
  | .entry _ => True
theorem handle_ok {S : Setup} {n : Nat} {M : HM} {s : Int} {b : UpB} (h : M.Ok S) (hs : 0 ≤ s ∧ s < S.sellers) (hb : UpOk S M b) : (HM.handle n s b M).Ok S := by
  cases b with
  | ask k l =>
    refine look_ok ⟨fun x hx => ?_, h.rk, h.cl, h.ck, h.cn, h.bl⟩
    rcases List.mem_append.mp hx with q | q
    · exact h.qk x q
    · rw [List.mem_singleton.mp q]; exact hb
  | closed cs =>
    obtain ⟨a, h1, h2⟩ := hb
    exact closed_ok h hs fun x hx => by rw [h1] at hx; cases hx; exact h2
  | back c => exact ⟨h.qk, h.rk, h.cl, h.ck, h.cn, h.bl⟩
  | entry r => exact ⟨h.qk, h.rk, h.cl, h.ck, h.cn, by show (M.bk.set _ _).length = _; rw [List.length_set]; exact h.bl⟩
/-! all sellers have sent their counts -/
theorem full_mem {n : Nat} : ∀ (m : List (Int × List Int)), Nd m → (∀ e ∈ m, 0 ≤ e.1 ∧ e.1 < n) → m.length = n → ∀ s : Nat, s < n → ∃ cs, lk m (s : Int) = some cs := by
  intro m hn hk hl s hs
  cases h : lk m (s : Int) with
  | some cs => exact ⟨cs, rfl⟩
  | none =>
    exfalso
    have nk := lk_not h
    -- the keys, and s, are n + 1 different numbers below n
    have key : ∀ (n : Nat) (l : List Int), l.Nodup → (∀ x ∈ l, 0 ≤ x ∧ x < n) → l.length ≤ n := by
      intro n
      induction n with
      | zero =>
        intro l _ hl
        cases l with
        | nil => exact Nat.le_refl _
        | cons a r => have := hl a List.mem_cons_self; omega
      | succ n ih =>
        intro l nd hl
        have h1 := ih (l.filter fun x => decide (x ≠ (n : Int))) (List.Pairwise.sublist List.filter_sublist nd) fun x hx => by
          obtain ⟨hx, hq⟩ := List.mem_filter.mp hx
          have := hl x hx
          have hq := of_decide_eq_true hq
          omega
        have h2 : l.length ≤ (l.filter fun x => decide (x ≠ (n : Int))).length + 1 := by
          clear h1 hl ih
          induction l with
          | nil => exact Nat.zero_le _
          | cons a r ih =>
            have nd' := List.nodup_cons.mp nd
            by_cases q : a = (n : Int)
            · have e : (r.filter fun x => decide (x ≠ (n : Int))) = r := List.filter_eq_self.mpr fun x hx => decide_eq_true fun z => nd'.1 (by rw [q, ← z]; exact hx)
              rw [List.filter_cons_of_neg (by simp [q]), e]; exact Nat.le_refl _
            · rw [List.filter_cons_of_pos (by simp [q])]
              have := ih nd'.2
              simp only [List.length_cons]; omega
        omega
    have nl : (m.map fun e : Int × List Int => e.1).Nodup := hn
    have := key n ((s : Int) :: m.map fun e : Int × List Int => e.1) (List.nodup_cons.mpr ⟨nk, nl⟩) fun x hx => by
      rcases List.mem_cons.mp hx with q | q
      · rw [q]; omega
      · obtain ⟨e, he, rfl⟩ := List.mem_map.mp q; exact hk e he
    rw [List.length_cons, List.length_map] at this
    omega
theorem closed_some {M : HM} {a : Ask} {n : Nat} {s : Int} {cs : List Int} (hr : M.rd = some a) : HM.closed n s cs M = if (pt M.ct s cs).length = n then HM.decide n { M with st := addZ M.st ((lackC a).zip cs), ct := pt M.ct s cs } else { M with st := addZ M.st ((lackC a).zip cs), ct := pt M.ct s cs } := by
  unfold HM.closed; rw [hr]
theorem decide_some {M : HM} {a : Ask} {n : Nat} (hr : M.rd = some a) : HM.decide n M = HM.look n { M with st := (opensZ a (grantZ M.st a.2.2) M.ct (if grantZ M.st a.2.2 = true then subZ M.st a.2.2 else M.st) n).1, out := M.out ++ (opensZ a (grantZ M.st a.2.2) M.ct (if grantZ M.st a.2.2 = true then subZ M.st a.2.2 else M.st) n).2, rd := none } := by
  unfold HM.decide; rw [hr]
theorem cutG {G R : Prop} (h : G → R) (g : G) : R := h g
theorem cutH {T : Hp → Prop} {R : Prop} {H : Hp} (h : (∀ H', Fr [] H H' → T H') → R) (g : ∀ H', Fr [] H H' → T H') : R := h g

/-! ### deeds, a seller as plain data -/
inductive Deed
  | wish (p : List Stay)
  | cancel (k : Int)
  | change (k : Int) (p : List Stay)
def deedD : Deed → PyData
  | .wish p => .tuple [.str "wish", partyD p]
  | .cancel k => .tuple [.str "cancel", .int k]
  | .change k p => .tuple [.str "change", .int k, partyD p]
def Deed.party : Deed → List Stay
  | .wish p => p
  | .cancel _ => []
  | .change _ p => p
structure SM where
  fr : Cell → Int
  vo : List (Int × List Stay)
  bk : List Row
  cl : Option (List Cell)
  ask : List (Int × Deed)
  wt : List (Int × Deed)
  n : Int
  out : List UpB
  told : List (Int × Bool)
def voD (m : List (Int × List Stay)) : List (Int × PyData) := m.map fun e => (e.1, partyD e.2)
def askT (m : List (Int × Deed)) : List (Int × PyData) := m.map fun e => (e.1, deedD e.2)
def wtD (e : Int × Deed) : PyData := .tuple [.int e.1, deedD e.2]
def tellD (e : Int × Bool) : PyData := .tuple [.int e.1, .bool e.2]
def closD : Option (List Cell) → PyData
  | none => .none
  | some cs => cellsD cs
theorem imm_deed (d : Deed) : imm (deedD d) = true := by
  cases d with
  | wish p =>
    show (true && (imm (partyD p) && true)) = true
    rw [imm_party]; rfl
  | cancel k => rfl
  | change k p =>
    show (true && (true && (imm (partyD p) && true))) = true
    rw [imm_party]; rfl
theorem imm_wt (e : Int × Deed) : imm (wtD e) = true := by
  show (true && (imm (deedD e.2) && true)) = true
  rw [imm_deed]; rfl
theorem imm_tell (e : Int × Bool) : imm (tellD e) = true := rfl
theorem imm_clos (c : Option (List Cell)) : imm (closD c) = true := by
  cases c with
  | none => rfl
  | some cs => exact imm_cells cs
/-- the party that a deed's voucher has -/
def SM.old (M : SM) : Deed → List Stay
  | .wish _ => []
  | .cancel k => (lk M.vo k).getD []
  | .change k _ => (lk M.vo k).getD []
def isCh (k : Int) : Deed → Bool
  | .change j _ => decide (j = k)
  | _ => false
def SM.pend (M : SM) (k : Int) : Bool := M.ask.any fun e => isCh k e.2
def cellsN (p : List Stay) : List Cell := (needsL p).map (·.1)
def SM.shut (M : SM) (cs : List Cell) : Bool :=
  match M.cl with
  | none => false
  | some l => cs.any fun c => decide (c ∈ l)
def SM.waits (M : SM) (d : Deed) : Bool :=
  (match d with
    | .wish _ => false
    | .cancel k => M.pend k
    | .change k _ => M.pend k) || M.shut (cellsN d.party ++ cellsN (M.old d))
/-- cells in their order -/
def scell (l : List Cell) : List Cell := l.mergeSort (PySem.W.dataLe false cellD)
theorem scell_perm (l : List Cell) : (scell l).Perm l := List.mergeSort_perm l _
theorem scell_map (l : List Cell) : (scell l).map cellD = srt (l.map cellD) := srt_map cellD l
def lackC1 (p o : List Stay) (c : Cell) : Option (Cell × Int) := if nd o c < nd p c then some (c, nd p c - nd o c) else none
/-- what is lacking, in the order of the cells -/
def lackL (p o : List Stay) : Lack := (scell (cellsN p)).filterMap (lackC1 p o)
def SM.row (r : Row) (M : SM) : SM := { M with bk := M.bk ++ [r], out := M.out ++ [.entry r] }
def soldR (S : Setup) (n : Int) (p : List Stay) : Row := .sold n p (priceS S p) (keptS S p)
def canR (S : Setup) (n : Int) (p : List Stay) : Row := .cancelled n (priceS S p) (keptS S p)
def chgR (S : Setup) (n : Int) (p o : List Stay) : Row := .changed n p (priceS S p) (keptS S p) (priceS S o) (keptS S o)
def SM.tell (n : Int) (g : Bool) (M : SM) : SM := { M with told := M.told ++ [(n, g)] }
/-- a party is kept -/
def SM.keep (S : Setup) (n : Int) (d : Deed) (M : SM) : SM :=
  match d with
  | .wish p => SM.row (soldR S n p) { M with vo := pt M.vo n p }
  | .change k p => SM.row (chgR S k p ((lk M.vo k).getD [])) { M with vo := pt M.vo k p }
  | .cancel _ => M
/-- there are free nights enough -/
def SM.has (M : SM) (l : Lack) : Bool := l.all fun e => decide (e.2 ≤ M.fr e.1)
def SM.deal (S : Setup) (n : Int) (d : Deed) (p o : List Stay) (M : SM) : SM :=
  if M.has (lackL p o) = true then SM.tell n true (SM.keep S n d { M with fr := fun c => M.fr c - nd p c + nd o c })
  else { M with ask := pt M.ask n d, out := M.out ++ [.ask n (lackL p o)] }
def SM.doit (S : Setup) (n : Int) (d : Deed) (M : SM) : SM :=
  match d with
  | .wish p => M.deal S n d p []
  | .cancel k =>
    match lk M.vo k with
    | none => M.tell n false
    | some o => SM.tell n true (SM.row (canR S k o) { M with fr := fun c => M.fr c + nd o c, vo := dr M.vo k })
  | .change k p =>
    match lk M.vo k with
    | none => M.tell n false
    | some o => M.deal S n d p o
def SM.asked (S : Setup) (d : Deed) (M : SM) : SM :=
  let M1 : SM := { M with n := M.n + 1 }
  if M.waits d = true then { M1 with wt := M.wt ++ [(M.n, d)] } else M1.doit S M.n d
/-- a deed that was asked of the house is answered -/
def SM.answered (S : Setup) (n : Int) (g : Bool) (M : SM) : SM :=
  match lk M.ask n with
  | none => M
  | some d =>
    let M1 : SM := { M with ask := dr M.ask n }
    SM.tell n g (if g = true then SM.keep S n d { M1 with fr := fun c => M1.fr c + max 0 (nd (M1.old d) c - nd d.party c) } else M1)
def SM.again (S : Setup) (M : SM) (e : Int × Deed) : SM := if M.waits e.2 = true then { M with wt := M.wt ++ [e] } else M.doit S e.1 e.2
def SM.reopen (S : Setup) (cs : List Int) (an : Option (Int × Bool)) (M : SM) : SM :=
  let M1 : SM := { M with fr := addZ M.fr ((M.cl.getD []).zip cs), cl := none }
  let M2 := match an with
    | none => M1
    | some a => M1.answered S a.1 a.2
  M2.wt.foldl (SM.again S) { M2 with wt := [] }
def SM.close (cs : List Cell) (M : SM) : SM := { M with fr := fun c => if c ∈ cs then 0 else M.fr c, cl := some cs, out := M.out ++ [.closed (cs.map M.fr)] }
def SM.handle (S : Setup) (b : DnB) (M : SM) : SM :=
  match b with
  | .give c => { M with fr := fset M.fr c (M.fr c + 1) }
  | .close cs => M.close cs
  | .opn cs an => M.reopen S cs an
  | .want c => if 0 < M.fr c then { M with fr := fset M.fr c (M.fr c - 1), out := M.out ++ [.back c] } else M
/-- parties and deeds of the setup -/
def PtyOk (S : Setup) (p : List Stay) : Prop := (∀ s ∈ p, StayOk S s) ∧ p.length ≤ 4
def DeedOk (S : Setup) : Deed → Prop
  | .wish p => PtyOk S p
  | .cancel _ => True
  | .change _ p => PtyOk S p
theorem PtyOk.nil {S : Setup} : PtyOk S [] := ⟨fun _ h => (nomatch h), Nat.zero_le _⟩
theorem DeedOk.party {S : Setup} {d : Deed} (h : DeedOk S d) : PtyOk S d.party := by
  cases d with
  | wish p => exact h
  | cancel k => exact PtyOk.nil
  | change k p => exact h
/-- what is asked of the house -/
def AskOk (vo : List (Int × List Stay)) : Deed → Prop
  | .wish _ => True
  | .cancel _ => False
  | .change k _ => (lk vo k).isSome = true
structure SM.Ok (S : Setup) (M : SM) : Prop where
  vk : ∀ e ∈ M.vo, PtyOk S e.2
  vn : Nd M.vo
  ak : ∀ e ∈ M.ask, DeedOk S e.2
  an : Nd M.ask
  ac : ∀ e ∈ M.ask, AskOk M.vo e.2
  wk : ∀ e ∈ M.wt, DeedOk S e.2
  ck : ∀ cs, M.cl = some cs → (∀ c ∈ cs, CellOk S c) ∧ cs.length ≤ 36
theorem SM.Ok.old {S : Setup} {M : SM} (m : M.Ok S) (d : Deed) : PtyOk S (M.old d) := by
  have key : ∀ k, PtyOk S ((lk M.vo k).getD []) := fun k => by
    cases h : lk M.vo k with
    | none => exact PtyOk.nil
    | some p => exact m.vk _ (lk_some h)
  cases d with
  | wish p => exact PtyOk.nil
  | cancel k => exact key k
  | change k p => exact key k
theorem lk_pt_some {κ α : Type} [DecidableEq κ] {m : List (κ × α)} {k j : κ} {v : α} (h : (lk m k).isSome = true) : (lk (pt m j v) k).isSome = true := by
  rw [lk_pt]; split
  · rfl
  · exact h
theorem AskOk.pt {vo : List (Int × List Stay)} {d : Deed} (h : AskOk vo d) (n : Int) (p : List Stay) : AskOk (pt vo n p) d := by
  cases d with
  | wish _ => exact h
  | cancel _ => exact h
  | change k _ => exact lk_pt_some h
theorem keep_ok {S : Setup} {M : SM} {n : Int} {d : Deed} (m : M.Ok S) (hd : DeedOk S d) : (M.keep S n d).Ok S := by
  have key : ∀ (k : Int) (p : List Stay), PtyOk S p → ∀ e ∈ pt M.vo k p, PtyOk S e.2 := fun k p hp e he => by
    rcases pt_mem he with q | q
    · exact m.vk e q
    · rw [q]; exact hp
  cases d with
  | wish p => exact ⟨key n p hd, m.vn.pt _ _, m.ak, m.an, fun e he => (m.ac e he).pt _ _, m.wk, m.ck⟩
  | cancel k => exact m
  | change k p => exact ⟨key k p hd, m.vn.pt _ _, m.ak, m.an, fun e he => (m.ac e he).pt _ _, m.wk, m.ck⟩
theorem deal_ok {S : Setup} {M : SM} {n : Int} {d : Deed} {p o : List Stay} (m : M.Ok S) (hd : DeedOk S d) (ha : AskOk M.vo d) : (M.deal S n d p o).Ok S := by
  unfold SM.deal
  split
  · have h := keep_ok (n := n) (d := d) (M := { M with fr := fun c => M.fr c - nd p c + nd o c }) ⟨m.vk, m.vn, m.ak, m.an, m.ac, m.wk, m.ck⟩ hd
    exact ⟨h.vk, h.vn, h.ak, h.an, h.ac, h.wk, h.ck⟩
  · refine ⟨m.vk, m.vn, fun e he => ?_, m.an.pt _ _, fun e he => ?_, m.wk, m.ck⟩
    · rcases pt_mem he with q | q
      · exact m.ak e q
      · rw [q]; exact hd
    · rcases pt_mem he with q | q
      · exact m.ac e q
      · rw [q]; exact ha
theorem lk_dr_ne {κ α : Type} [DecidableEq κ] {m : List (κ × α)} {k j : κ} (h : j ≠ k) : lk (dr m k) j = lk m j := by
  induction m with
  | nil => rfl
  | cons e r ih =>
    unfold dr
    by_cases q : e.1 = k
    · have a : decide (e.1 ≠ k) = false := by simp [q]
      have b : lk (e :: r) j = lk r j := by rw [lk_cons, if_neg fun z => h (z.symm.trans q)]
      simp only [List.filter_cons, a]; rw [b]; exact ih
    · have a : decide (e.1 ≠ k) = true := decide_eq_true q
      simp only [List.filter_cons, a, if_true]
      rw [lk_cons, lk_cons]
      split
      · rfl
      · exact ih
/-- the deed does not cancel what a change is asked for -/
def SM.clear (M : SM) : Deed → Prop
  | .wish _ => True
  | .cancel k => M.pend k = false
  | .change k _ => M.pend k = false
theorem SM.clear_of {M : SM} {d : Deed} (h : M.waits d = false) : M.clear d := by
  unfold SM.waits at h
  cases d with
  | wish p => trivial
  | cancel k => exact (Bool.or_eq_false_iff.mp h).1
  | change k p => exact (Bool.or_eq_false_iff.mp h).1
theorem doit_ok {S : Setup} {M : SM} {n : Int} {d : Deed} (m : M.Ok S) (hd : DeedOk S d) (hc : M.clear d) : (M.doit S n d).Ok S := by
  cases d with
  | wish p => exact deal_ok m hd trivial
  | cancel k =>
    show SM.Ok S (match lk M.vo k with | none => _ | some o => _)
    cases h : lk M.vo k with
    | none => exact ⟨m.vk, m.vn, m.ak, m.an, m.ac, m.wk, m.ck⟩
    | some o =>
      refine ⟨fun e he => m.vk e (List.mem_filter.mp he).1, dr_nd m.vn k, m.ak, m.an, fun e he => ?_, m.wk, m.ck⟩
      have h1 := m.ac e he
      cases q : e.2 with
      | wish _ => trivial
      | cancel _ => rw [q] at h1; exact h1
      | change j p =>
        rw [q] at h1
        have hj : j ≠ k := fun z => by
          have hp : M.pend k = false := hc
          unfold SM.pend at hp
          have := List.any_eq_false.mp hp e he
          rw [q] at this
          exact this (decide_eq_true z)
        show (lk (dr M.vo k) j).isSome = true
        rw [lk_dr_ne hj]; exact h1
  | change k p =>
    show SM.Ok S (match lk M.vo k with | none => _ | some o => _)
    cases h : lk M.vo k with
    | none => exact ⟨m.vk, m.vn, m.ak, m.an, m.ac, m.wk, m.ck⟩
    | some o => exact deal_ok m hd (by show (lk M.vo k).isSome = true; rw [h]; rfl)
theorem asked_ok {S : Setup} {M : SM} {d : Deed} (m : M.Ok S) (hd : DeedOk S d) : (M.asked S d).Ok S := by
  unfold SM.asked
  by_cases h : M.waits d = true
  · show SM.Ok S (if M.waits d = true then _ else _)
    rw [if_pos h]
    refine ⟨m.vk, m.vn, m.ak, m.an, m.ac, fun e he => ?_, m.ck⟩
    rcases List.mem_append.mp he with q | q
    · exact m.wk e q
    · rw [List.mem_singleton.mp q]; exact hd
  · show SM.Ok S (if M.waits d = true then _ else _)
    rw [if_neg h]
    have hc := SM.clear_of (M := M) (d := d) (by simpa using h)
    exact doit_ok (M := { M with n := M.n + 1 }) ⟨m.vk, m.vn, m.ak, m.an, m.ac, m.wk, m.ck⟩ hd (by cases d <;> exact hc)
theorem again_ok {S : Setup} {M : SM} {e : Int × Deed} (m : M.Ok S) (hd : DeedOk S e.2) : (M.again S e).Ok S := by
  unfold SM.again
  by_cases h : M.waits e.2 = true
  · rw [if_pos h]
    refine ⟨m.vk, m.vn, m.ak, m.an, m.ac, fun x hx => ?_, m.ck⟩
    rcases List.mem_append.mp hx with q | q
    · exact m.wk x q
    · rw [List.mem_singleton.mp q]; exact hd
  · rw [if_neg h]
    exact doit_ok m hd (SM.clear_of (by simpa using h))
theorem agains_ok {S : Setup} : ∀ (l : List (Int × Deed)) {M : SM}, M.Ok S → (∀ e ∈ l, DeedOk S e.2) → (l.foldl (SM.again S) M).Ok S
  | [], _, m, _ => m
  | e :: l, _, m, h => agains_ok l (again_ok m (h e List.mem_cons_self)) fun x hx => h x (List.mem_cons_of_mem _ hx)
theorem answered_ok {S : Setup} {M : SM} {n : Int} {g : Bool} (m : M.Ok S) : (M.answered S n g).Ok S := by
  unfold SM.answered
  cases h : lk M.ask n with
  | none => exact m
  | some d =>
    have hd := m.ak _ (lk_some h)
    have m1 : SM.Ok S { M with ask := dr M.ask n } := ⟨m.vk, m.vn, fun e he => m.ak e (List.mem_filter.mp he).1, dr_nd m.an n, fun e he => m.ac e (List.mem_filter.mp he).1, m.wk, m.ck⟩
    cases g with
    | false => exact ⟨m1.vk, m1.vn, m1.ak, m1.an, m1.ac, m1.wk, m1.ck⟩
    | true =>
      have k := keep_ok (n := n) (d := d) (M := { M with ask := dr M.ask n, fr := fun c => M.fr c + max 0 (nd (SM.old { M with ask := dr M.ask n } d) c - nd d.party c) }) ⟨m1.vk, m1.vn, m1.ak, m1.an, m1.ac, m1.wk, m1.ck⟩ hd
      exact ⟨k.vk, k.vn, k.ak, k.an, k.ac, k.wk, k.ck⟩
theorem reopen_ok {S : Setup} {M : SM} {cs : List Int} {an : Option (Int × Bool)} (m : M.Ok S) : (M.reopen S cs an).Ok S := by
  unfold SM.reopen
  have m1 : SM.Ok S { M with fr := addZ M.fr ((M.cl.getD []).zip cs), cl := none } := ⟨m.vk, m.vn, m.ak, m.an, m.ac, m.wk, fun _ h => (by cases h)⟩
  cases an with
  | none => exact agains_ok _ ⟨m1.vk, m1.vn, m1.ak, m1.an, m1.ac, fun _ h => (nomatch h), m1.ck⟩ m1.wk
  | some a =>
    have m2 := answered_ok (n := a.1) (g := a.2) m1
    exact agains_ok _ ⟨m2.vk, m2.vn, m2.ak, m2.an, m2.ac, fun _ h => (nomatch h), m2.ck⟩ m2.wk
def DnOk (S : Setup) (M : SM) : DnB → Prop
  | .give c => CellOk S c
  | .want c => CellOk S c
  | .close cs => (∀ c ∈ cs, CellOk S c) ∧ cs.length ≤ 36
  | .opn cs an => (∃ l, M.cl = some l ∧ cs.length = l.length) ∧ ∀ a, an = some a → (lk M.ask a.1).isSome = true
theorem shandle_ok {S : Setup} {M : SM} {b : DnB} (m : M.Ok S) (hb : DnOk S M b) : (M.handle S b).Ok S := by
  cases b with
  | give c => exact ⟨m.vk, m.vn, m.ak, m.an, m.ac, m.wk, m.ck⟩
  | close cs => exact ⟨m.vk, m.vn, m.ak, m.an, m.ac, m.wk, fun x hx => by cases hx; exact hb⟩
  | opn cs an => exact reopen_ok m
  | want c =>
    show SM.Ok S (if 0 < M.fr c then _ else _)
    split
    · exact ⟨m.vk, m.vn, m.ak, m.an, m.ac, m.wk, m.ck⟩
    · exact m

structure SP where
  p : Addr
  fr : Addr
  vo : Addr
  bk : Addr
  ask : Addr
  wt : Addr
  out : Addr
  told : Addr
def SP.os (s : SP) : List Addr := [s.p, s.fr, s.vo, s.bk, s.ask, s.wt, s.out, s.told]
structure SPNd (s : SP) : Prop where
  p_fr : s.p ≠ s.fr
  p_vo : s.p ≠ s.vo
  p_bk : s.p ≠ s.bk
  p_ask : s.p ≠ s.ask
  p_wt : s.p ≠ s.wt
  p_out : s.p ≠ s.out
  p_told : s.p ≠ s.told
  fr_vo : s.fr ≠ s.vo
  fr_bk : s.fr ≠ s.bk
  fr_ask : s.fr ≠ s.ask
  fr_wt : s.fr ≠ s.wt
  fr_out : s.fr ≠ s.out
  fr_told : s.fr ≠ s.told
  vo_bk : s.vo ≠ s.bk
  vo_ask : s.vo ≠ s.ask
  vo_wt : s.vo ≠ s.wt
  vo_out : s.vo ≠ s.out
  vo_told : s.vo ≠ s.told
  bk_ask : s.bk ≠ s.ask
  bk_wt : s.bk ≠ s.wt
  bk_out : s.bk ≠ s.out
  bk_told : s.bk ≠ s.told
  ask_wt : s.ask ≠ s.wt
  ask_out : s.ask ≠ s.out
  ask_told : s.ask ≠ s.told
  wt_out : s.wt ≠ s.out
  wt_told : s.wt ≠ s.told
  out_told : s.out ≠ s.told
theorem SPNd.of {s : SP} (n : s.os.Nodup) : SPNd s := by
  unfold SP.os at n
  simp only [List.nodup_cons, List.mem_cons, List.not_mem_nil, or_false, not_or, not_false_eq_true, and_true, List.nodup_nil] at n
  obtain ⟨⟨p_fr, p_vo, p_bk, p_ask, p_wt, p_out, p_told⟩, ⟨fr_vo, fr_bk, fr_ask, fr_wt, fr_out, fr_told⟩, ⟨vo_bk, vo_ask, vo_wt, vo_out, vo_told⟩, ⟨bk_ask, bk_wt, bk_out, bk_told⟩, ⟨ask_wt, ask_out, ask_told⟩, ⟨wt_out, wt_told⟩, out_told⟩ := n
  exact ⟨p_fr, p_vo, p_bk, p_ask, p_wt, p_out, p_told, fr_vo, fr_bk, fr_ask, fr_wt, fr_out, fr_told, vo_bk, vo_ask, vo_wt, vo_out, vo_told, bk_ask, bk_wt, bk_out, bk_told, ask_wt, ask_out, ask_told, wt_out, wt_told, out_told⟩
structure SCore (H : Hp) (S : Setup) (s : SP) (clv : V) (M : SM) : Prop where
  fr : H s.fr = some (.dT (cD (stT S M.fr)))
  vo : DkAt H s.vo (voD M.vo)
  bk : LsAt H s.bk ((M.bk).map rowB)
  ask : DkAt H s.ask (askT M.ask)
  wt : LsAt H s.wt ((M.wt).map wtD)
  out : LsAt H s.out ((M.out).map upD)
  told : LsAt H s.told ((M.told).map tellD)
  clv : Da H clv (closD M.cl)
theorem SCore.frm {l : List Addr} {H H' : Hp} {S : Setup} {s : SP} {clv : V} {M : SM} (c : SCore H S s clv M) (f : Fr l H H') (n : ∀ a ∈ s.os, a ∉ l) : SCore H' S s clv M :=
  ⟨f.at c.fr (n _ (by simp [SP.os])), c.vo.fr f (n _ (by simp [SP.os])), c.bk.fr f (n _ (by simp [SP.os])), c.ask.fr f (n _ (by simp [SP.os])), c.wt.fr f (n _ (by simp [SP.os])), c.out.fr f (n _ (by simp [SP.os])), c.told.fr f (n _ (by simp [SP.os])), Da.frL f c.clv (imm_clos _)⟩
theorem SCore.w_fr {H H' : Hp} {S : Setup} {s : SP} {clv : V} {M : SM} {v : Cell → Int} (c : SCore H S s clv M) (n : SPNd s) (f : Fr [s.fr] H H') (e : H' s.fr = some (.dT (cD (stT S v)))) : SCore H' S s clv { M with fr := v } :=
  ⟨e, c.vo.fr f (nin1 n.fr_vo.symm nin0), c.bk.fr f (nin1 n.fr_bk.symm nin0), c.ask.fr f (nin1 n.fr_ask.symm nin0), c.wt.fr f (nin1 n.fr_wt.symm nin0), c.out.fr f (nin1 n.fr_out.symm nin0), c.told.fr f (nin1 n.fr_told.symm nin0), Da.frL f c.clv (imm_clos _)⟩
theorem SCore.w_vo {H H' : Hp} {S : Setup} {s : SP} {clv : V} {M : SM} {v : List (Int × List Stay)} (c : SCore H S s clv M) (n : SPNd s) (f : Fr [s.vo] H H') (e : DkAt H' s.vo (voD v)) : SCore H' S s clv { M with vo := v } :=
  ⟨f.at c.fr (nin1 n.fr_vo nin0), e, c.bk.fr f (nin1 n.vo_bk.symm nin0), c.ask.fr f (nin1 n.vo_ask.symm nin0), c.wt.fr f (nin1 n.vo_wt.symm nin0), c.out.fr f (nin1 n.vo_out.symm nin0), c.told.fr f (nin1 n.vo_told.symm nin0), Da.frL f c.clv (imm_clos _)⟩
theorem SCore.w_bk {H H' : Hp} {S : Setup} {s : SP} {clv : V} {M : SM} {v : List Row} (c : SCore H S s clv M) (n : SPNd s) (f : Fr [s.bk] H H') (e : LsAt H' s.bk ((v).map rowB)) : SCore H' S s clv { M with bk := v } :=
  ⟨f.at c.fr (nin1 n.fr_bk nin0), c.vo.fr f (nin1 n.vo_bk nin0), e, c.ask.fr f (nin1 n.bk_ask.symm nin0), c.wt.fr f (nin1 n.bk_wt.symm nin0), c.out.fr f (nin1 n.bk_out.symm nin0), c.told.fr f (nin1 n.bk_told.symm nin0), Da.frL f c.clv (imm_clos _)⟩
theorem SCore.w_ask {H H' : Hp} {S : Setup} {s : SP} {clv : V} {M : SM} {v : List (Int × Deed)} (c : SCore H S s clv M) (n : SPNd s) (f : Fr [s.ask] H H') (e : DkAt H' s.ask (askT v)) : SCore H' S s clv { M with ask := v } :=
  ⟨f.at c.fr (nin1 n.fr_ask nin0), c.vo.fr f (nin1 n.vo_ask nin0), c.bk.fr f (nin1 n.bk_ask nin0), e, c.wt.fr f (nin1 n.ask_wt.symm nin0), c.out.fr f (nin1 n.ask_out.symm nin0), c.told.fr f (nin1 n.ask_told.symm nin0), Da.frL f c.clv (imm_clos _)⟩
theorem SCore.w_wt {H H' : Hp} {S : Setup} {s : SP} {clv : V} {M : SM} {v : List (Int × Deed)} (c : SCore H S s clv M) (n : SPNd s) (f : Fr [s.wt] H H') (e : LsAt H' s.wt ((v).map wtD)) : SCore H' S s clv { M with wt := v } :=
  ⟨f.at c.fr (nin1 n.fr_wt nin0), c.vo.fr f (nin1 n.vo_wt nin0), c.bk.fr f (nin1 n.bk_wt nin0), c.ask.fr f (nin1 n.ask_wt nin0), e, c.out.fr f (nin1 n.wt_out.symm nin0), c.told.fr f (nin1 n.wt_told.symm nin0), Da.frL f c.clv (imm_clos _)⟩
theorem SCore.w_out {H H' : Hp} {S : Setup} {s : SP} {clv : V} {M : SM} {v : List UpB} (c : SCore H S s clv M) (n : SPNd s) (f : Fr [s.out] H H') (e : LsAt H' s.out ((v).map upD)) : SCore H' S s clv { M with out := v } :=
  ⟨f.at c.fr (nin1 n.fr_out nin0), c.vo.fr f (nin1 n.vo_out nin0), c.bk.fr f (nin1 n.bk_out nin0), c.ask.fr f (nin1 n.ask_out nin0), c.wt.fr f (nin1 n.wt_out nin0), e, c.told.fr f (nin1 n.out_told.symm nin0), Da.frL f c.clv (imm_clos _)⟩
theorem SCore.w_told {H H' : Hp} {S : Setup} {s : SP} {clv : V} {M : SM} {v : List (Int × Bool)} (c : SCore H S s clv M) (n : SPNd s) (f : Fr [s.told] H H') (e : LsAt H' s.told ((v).map tellD)) : SCore H' S s clv { M with told := v } :=
  ⟨f.at c.fr (nin1 n.fr_told nin0), c.vo.fr f (nin1 n.vo_told nin0), c.bk.fr f (nin1 n.bk_told nin0), c.ask.fr f (nin1 n.ask_told nin0), c.wt.fr f (nin1 n.wt_told nin0), c.out.fr f (nin1 n.out_told nin0), e, Da.frL f c.clv (imm_clos _)⟩
theorem SCore.w_p {H H' : Hp} {S : Setup} {s : SP} {clv : V} {M : SM} (c : SCore H S s clv M) (n : SPNd s) (f : Fr [s.p] H H') : SCore H' S s clv M :=
  ⟨f.at c.fr (nin1 n.p_fr.symm nin0), c.vo.fr f (nin1 n.p_vo.symm nin0), c.bk.fr f (nin1 n.p_bk.symm nin0), c.ask.fr f (nin1 n.p_ask.symm nin0), c.wt.fr f (nin1 n.p_wt.symm nin0), c.out.fr f (nin1 n.p_out.symm nin0), c.told.fr f (nin1 n.p_told.symm nin0), Da.frL f c.clv (imm_clos _)⟩

/-- the stock: d[c] op= v -/
def rStP (st cd : Addr) (z : V) (H : Hp) (P : Hp → Prop) : Prop := ∃ H5, DPut H st (.ref cd) z H5 ∧ P H5
theorem g_stA {S : Setup} (so : SetupOk S) {st cd : Addr} {c : Cell} {g : Cell → Int} {tv : TE} {rd : V → V → Hp → VK → Prop} {σ : L2.St} {H : Hp} {P : Hp → Prop} (ok : CellOk S c) (h : H st = some (.dT (cD (stT S g)))) (hc : H cd = some (.tup [.int c.1, .int c.2]))
    (q : tv σ H fun y2 H3 => rd (.int (g c)) y2 H3 fun z H4 => rStP st cd z H4 P) : rDA0 (.ref st) (.ref cd) tv rd σ H P := g_rda0 (k := ck c) h hc (st_get so ok) q
theorem g_stP {S : Setup} (so : SetupOk S) {st cd : Addr} {c : Cell} {g : Cell → Int} {v : Int} {H : Hp} {P : Hp → Prop} (ok : CellOk S c) (h : H st = some (.dT (cD (stT S g)))) (hc : H cd = some (.tup [.int c.1, .int c.2]))
    (q : ∀ H', Fr [st] H H' → H' st = some (.dT (cD (stT S (fset g c v)))) → P H') : rStP st cd (.int v) H P :=
  g_rdput (k := ck c) h hc (st_lt so g) fun H' f e => q H' f (by rw [e, st_put so ok])
theorem g_stG {S : Setup} (so : SetupOk S) {st cd : Addr} {c : Cell} {g : Cell → Int} {H : Hp} {Q : VK} (ok : CellOk S c) (h : H st = some (.dT (cD (stT S g)))) (hc : H cd = some (.tup [.int c.1, .int c.2])) (q : Q (.int (g c)) H) : rDG (.ref st) (.ref cd) H Q :=
  g_rdg (k := ck c) (.inl h) hc (st_get so ok) q
theorem g_stD {S : Setup} (so : SetupOk S) {st cd : Addr} {c : Cell} {g : Cell → Int} {v : Int} {H : Hp} {P : Hp → Prop} (ok : CellOk S c) (h : H st = some (.dT (cD (stT S g)))) (hc : H cd = some (.tup [.int c.1, .int c.2]))
    (q : ∀ H', Fr [st] H H' → H' st = some (.dT (cD (stT S (fset g c v)))) → P H') : rDP (.ref st) (.ref cd) (.int v) H P :=
  g_rdp (k := ck c) h hc (st_lt so g) fun H' f e => q H' f (by rw [e, st_put so ok])
/-- filling a table of all cells -/
theorem tab_snoc (cs : List Cell) (c : Cell) (f : Cell → Int) : tabF (cs ++ [c]) f = tabF cs f ++ [(c, f c)] := by unfold tabF; rw [List.map_append]; rfl
theorem tab_put {cs : List Cell} {c : Cell} (f : Cell → Int) (h : c ∉ cs) : putK (cD (tabF cs f)) (ck c) (.int (f c)) = cD (tabF (cs ++ [c]) f) := by
  rw [put_cell, pt_new (by rw [tab_keys]; exact h), tab_snoc]
theorem new_cell {N i j : Nat} : ((i : Int), (j : Int)) ∉ cellsK N i ++ rowC j i := fun q => by
  rcases List.mem_append.mp q with h | h
  · have := (mem_cellsK.mp h).2.1
    exact absurd this (by show ¬ (i : Int) < (i : Int); omega)
  · have := (mem_row.mp h).2.2
    exact absurd this (by show ¬ (j : Int) < (j : Int); omega)

/-! ### tables whose values are mapped -/
theorem lk_mp {α β : Type} (f : α → β) (m : List (Int × α)) (k : Int) : lk (m.map fun e => (e.1, f e.2)) k = (lk m k).map f := by
  induction m with
  | nil => rfl
  | cons e r ih =>
    rw [List.map_cons, lk_cons, lk_cons]
    by_cases h : e.1 = k
    · rw [if_pos h, if_pos h]; rfl
    · rw [if_neg h, if_neg h]; exact ih
theorem pt_mp {α β : Type} (f : α → β) (m : List (Int × α)) (k : Int) (v : α) : pt (m.map fun e => (e.1, f e.2)) k (f v) = (pt m k v).map fun e => (e.1, f e.2) := by
  have ha : ((m.map fun e => (e.1, f e.2)).any fun e => decide (e.1 = k)) = m.any fun e => decide (e.1 = k) := by rw [List.any_map]; rfl
  unfold pt
  rw [ha]
  split
  · rw [List.map_map, List.map_map]
    refine List.map_congr_left fun e _ => ?_
    show (if e.1 = k then (e.1, f v) else (e.1, f e.2)) = (fun e : Int × α => (e.1, f e.2)) (if e.1 = k then (e.1, v) else e)
    split <;> rfl
  · rw [List.map_append]; rfl
theorem dr_mp {α β : Type} (f : α → β) (m : List (Int × α)) (k : Int) : dr (m.map fun e => (e.1, f e.2)) k = (dr m k).map fun e => (e.1, f e.2) := by
  unfold dr
  rw [List.filter_map]; rfl
theorem DkR.look {α : Type} {f : α → PyData} {H : Hp} {kvs : List (Key × V)} {m : List (Int × α)} (r : DkR H kvs (m.map fun e => (e.1, f e.2))) (k : Int) :
    (lk m k = none ∧ valV kvs (.inl k) = none) ∨ ∃ v x, lk m k = some x ∧ valV kvs (.inl k) = some v ∧ Da H v (f x) := by
  obtain ⟨h1, h2⟩ := r.val k
  rw [lk_mp] at h1
  cases q : lk m k with
  | none => exact .inl ⟨rfl, h1 (by rw [q]; rfl)⟩
  | some x =>
    obtain ⟨v, e, d, _⟩ := h2 (f x) (by rw [lk_mp, q]; rfl)
    exact .inr ⟨v, x, rfl, e, d⟩

/-! ### the seller in the heap -/
def SellerAt (A : Ad) (H : Hp) (s : SP) (S : Setup) (num : Int) (M : SM) : Prop := (∃ dx sv clv, H s.p = some (.ins A.Seller dx (F_Seller sv num s.fr s.vo s.bk clv s.ask s.wt M.n s.out s.told)) ∧ Da H sv (setupD S) ∧ SCore H S s clv M) ∧ AL H s.os
theorem SellerAt.frm {A : Ad} {l : List Addr} {H H' : Hp} {s : SP} {S : Setup} {num : Int} {M : SM} (x : SellerAt A H s S num M) (f : Fr l H H') (n : ∀ a ∈ s.os, a ∉ l) : SellerAt A H' s S num M := by
  obtain ⟨⟨dx, sv, clv, e, d, c⟩, al⟩ := x
  exact ⟨⟨dx, sv, clv, f.at e (n _ (by simp [SP.os])), Da.frL f d (imm_setup S), c.frm f n⟩, al.1, fun a ha => by obtain ⟨o, q⟩ := al.2 a ha; exact ⟨o, f.at q (n a ha)⟩⟩
theorem SellerAt.f0 {A : Ad} {H H' : Hp} {s : SP} {S : Setup} {num : Int} {M : SM} (x : SellerAt A H s S num M) (f : Fr [] H H') : SellerAt A H' s S num M := x.frm f fun _ _ => nin0
theorem SellerAt.nd {A : Ad} {H : Hp} {s : SP} {S : Setup} {num : Int} {M : SM} (x : SellerAt A H s S num M) : SPNd s := SPNd.of x.2.1
/-- one place has been written -/
theorem SellerAt.up {A : Ad} {H H' : Hp} {s : SP} {S : Setup} {num : Int} {M M' : SM} {X : Addr} {u : HO} (x : SellerAt A H s S num M) (hp : s.p ≠ X) (f : Fr [X] H H') (e : H' X = some u) (c : ∀ clv, SCore H S s clv M → SCore H' S s clv M') (hn : M'.n = M.n) : SellerAt A H' s S num M' := by
  obtain ⟨⟨dx, sv, clv, ep, d, c0⟩, al⟩ := x
  refine ⟨⟨dx, sv, clv, by rw [hn]; exact f.at ep (nin1 hp nin0), Da.frL f d (imm_setup S), c clv c0⟩, al.1, fun a ha => ?_⟩
  by_cases z : a = X
  · rw [z]; exact ⟨_, e⟩
  · obtain ⟨o, q⟩ := al.2 a ha; exact ⟨o, f.at q (nin1 z nin0)⟩
section
variable {A : Ad} {H H' : Hp} {s : SP} {S : Setup} {num : Int} {M : SM}
theorem SellerAt.w_fr {v : Cell → Int} (x : SellerAt A H s S num M) (f : Fr [s.fr] H H') (e : H' s.fr = some (.dT (cD (stT S v)))) : SellerAt A H' s S num { M with fr := v } := x.up x.nd.p_fr f e (fun _ c => c.w_fr x.nd f e) rfl
theorem SellerAt.w_vo {v : List (Int × List Stay)} (x : SellerAt A H s S num M) (f : Fr [s.vo] H H') (e : DkAt H' s.vo (voD v)) : SellerAt A H' s S num { M with vo := v } := by
  obtain ⟨kvs, e1, _⟩ := id e
  exact x.up x.nd.p_vo f e1 (fun _ c => c.w_vo x.nd f e) rfl
theorem SellerAt.w_bk {v : List Row} (x : SellerAt A H s S num M) (f : Fr [s.bk] H H') (e : LsAt H' s.bk (v.map rowB)) : SellerAt A H' s S num { M with bk := v } := by
  obtain ⟨_, vs, e1, _⟩ := id e
  exact x.up x.nd.p_bk f e1 (fun _ c => c.w_bk x.nd f e) rfl
theorem SellerAt.w_ask {v : List (Int × Deed)} (x : SellerAt A H s S num M) (f : Fr [s.ask] H H') (e : DkAt H' s.ask (askT v)) : SellerAt A H' s S num { M with ask := v } := by
  obtain ⟨kvs, e1, _⟩ := id e
  exact x.up x.nd.p_ask f e1 (fun _ c => c.w_ask x.nd f e) rfl
theorem SellerAt.w_wt {v : List (Int × Deed)} (x : SellerAt A H s S num M) (f : Fr [s.wt] H H') (e : LsAt H' s.wt (v.map wtD)) : SellerAt A H' s S num { M with wt := v } := by
  obtain ⟨_, vs, e1, _⟩ := id e
  exact x.up x.nd.p_wt f e1 (fun _ c => c.w_wt x.nd f e) rfl
theorem SellerAt.w_out {v : List UpB} (x : SellerAt A H s S num M) (f : Fr [s.out] H H') (e : LsAt H' s.out (v.map upD)) : SellerAt A H' s S num { M with out := v } := by
  obtain ⟨_, vs, e1, _⟩ := id e
  exact x.up x.nd.p_out f e1 (fun _ c => c.w_out x.nd f e) rfl
theorem SellerAt.w_told {v : List (Int × Bool)} (x : SellerAt A H s S num M) (f : Fr [s.told] H H') (e : LsAt H' s.told (v.map tellD)) : SellerAt A H' s S num { M with told := v } := by
  obtain ⟨_, vs, e1, _⟩ := id e
  exact x.up x.nd.p_told f e1 (fun _ c => c.w_told x.nd f e) rfl
end
/-- behind a method that takes no new place -/
def SStep (A : Ad) (H : Hp) (s : SP) (S : Setup) (num : Int) (M : SM) (Q : Hp → Prop) : Prop := ∀ H' : Hp, Fr s.os H H' → SellerAt A H' s S num M → Q H'
theorem SStep.pre {A : Ad} {H H1 : Hp} {s : SP} {S : Setup} {num : Int} {M : SM} {Q : Hp → Prop} (k : SStep A H s S num M Q) (f : Fr s.os H H1) : SStep A H1 s S num M Q := fun H' f' x => k H' (f.transL f') x
def SM.start : SM := ⟨fun _ => 0, [], [], none, [], [], 0, [], []⟩
theorem SM.start_ok {S : Setup} : SM.start.Ok S := ⟨fun _ h => (nomatch h), List.nodup_nil, fun _ h => (nomatch h), List.nodup_nil, fun _ h => (nomatch h), fun _ h => (nomatch h), fun _ h => (by cases h)⟩
def P_Seller_init (K : PySem.W.Frag) (A : Ad) (x0 x1 x2 : V) (H : Hp) (Q : VK) : Prop := ∃ (p dx : Addr) (S : Setup) (num : Int), x0 = .ref p ∧ H p = some (.ins A.Seller dx []) ∧ Da H x1 (setupD S) ∧ x2 = .int num ∧ SetupOk S ∧
  ∀ (s : SP) (H' : Hp), s.p = p → Fr [p] H H' → (∀ a ∈ s.os, a = p ∨ H a = none) → SellerAt A H' s S num SM.start → Q .non H'
def sp_Seller_init (K : PySem.W.Frag) (A : Ad) : Sp := fun vs H Q _ => ∃ x0 x1 x2, vs = [x0, x1, x2] ∧ P_Seller_init K A x0 x1 x2 H Q
theorem c_Seller_init {K : PySem.W.Frag} {A : Ad} {x0 x1 x2 : V} {H : Hp} {Q : VK} {E : XK} (h : P_Seller_init K A x0 x1 x2 H Q) : sp_Seller_init K A [x0, x1, x2] H Q E := ⟨_, _, _, rfl, h⟩
theorem sc_Seller_init : FnScope ["self", "setup", "number", "kind", "night"] ["self", "setup", "number"] (defScope s_Seller_init) := ⟨rfl, rfl, rfl, by decide +kernel, rfl, by decide +kernel, by decide +kernel⟩
def t_Seller_init (K : PySem.W.Frag) (A : Ad) : TS :=
  (tSeq (sFld K (tVar 0) (tVar 1) "setup")
    (tSeq (sFld K (tVar 0) (tVar 2) "number")
    (tSeq (sFld K (tVar 0) tDNewT "free")
    (tSeq (tFor (iRng1 (tCons (tCB (rLenSq K) (tCons (tOp (rIxT K) (tVar 1) (tC (.int 0))) tNil)) tNil)) (gName 3) (tFor (iRng1 (tCons (tOp (rIxT K) (tVar 1) (tC (.int 1))) tNil)) (gName 4) (sDPut (tFld K (tVar 0) "free") (tTup (tCons (tVar 3) (tCons (tVar 4) tNil))) (tC (.int 0)))))
    (tSeq (sFld K (tVar 0) tDNewK "vouchers")
    (tSeq (sFld K (tVar 0) (tLst tNil) "book")
    (tSeq (sFld K (tVar 0) (tC .non) "closing")
    (tSeq (sFld K (tVar 0) tDNewK "asked")
    (tSeq (sFld K (tVar 0) (tLst tNil) "waiting")
    (tSeq (sFld K (tVar 0) (tC (.int 0)) "count")
    (tSeq (sFld K (tVar 0) (tLst tNil) "outgoing")
    (sFld K (tVar 0) (tLst tNil) "told"))))))))))))
theorem pu_Seller_init (T : Txt K mg A) {x0 x1 x2 : V} {H : Hp} {Q : VK} (h : P_Seller_init K A x0 x1 x2 H Q) : t_Seller_init K A { nx := fun _ H' => Q .non H', rt := Q } [some x0, some x1, some x2, none, none] H := by
  obtain ⟨p, dx, S, num, rfl, hp, dS, rfl, so, k⟩ := h
  obtain ⟨s, r, pp, prs, sa⟩ := SetAt.of dS
  cases sa.e
  have e0 := sa.t
  have er := sa.r
  have hn := so.n1
  have hn2 := so.n2
  have hk := so.k1
  unfold t_Seller_init
  walk_at "go"
  rename_i H1 f1 e1 H2 f2 e2 st H3 n3 f3 e3 H4 f4 e4
  have nsp : st ≠ p := (ne_of_none e2 n3).symm
  have e34 := f4.at e3 (nin1 nsp nin0)
  have F4 : Fr [p] H H4 := ((f1.transL f2).then0 f3).transL f4
  have er4 := F4.tup _ _ er
  have e04 := F4.tup _ _ e0
  have nst : H st = none := f1.freeL (f2.freeL n3 (nin1 nsp nin0)) (nin1 nsp nin0)
  have rl : (S.rooms.map V.int).length = S.rooms.length := List.length_map _
  have hk3 := so.k3
  rw [rl]
  refine g_ri1 ⟨by omega, by omega⟩ ?_
  rw [Int.toNat_natCast]
  refine f_range (lo := 0) (n := S.rooms.length) (fun i σ H' => (∃ v3 v4, σ = [some (.ref p), some (.ref s), some (.int num), v3, v4]) ∧ Fr [st] H4 H' ∧ H' st = some (.dT (cD (tabF (cellsK S.nights.toNat i) fun _ => 0)))) ⟨⟨_, _, rfl⟩, Fr.refl, e34⟩ ?_ ?_
  · rintro i σ H5 hi ⟨⟨v3, v4, rfl⟩, f5, e5⟩
    have ep5 := f5.at e4 (nin1 nsp.symm nin0)
    have e05 := f5.tup _ _ e04
    walk_at "go"
    simp only [Int.zero_add]
    refine f_range (lo := 0) (n := S.nights.toNat) (fun j σ H' => (∃ v4, σ = [some (.ref p), some (.ref s), some (.int num), some (.int (i : Nat)), v4]) ∧ Fr [st] H5 H' ∧ H' st = some (.dT (cD (tabF (cellsK S.nights.toNat i ++ rowC j i) fun _ => 0)))) ⟨⟨_, rfl⟩, Fr.refl, by rw [show rowC 0 i = [] from rfl, List.append_nil]; exact e5⟩ ?_ ?_
    · rintro j σ H6 hj ⟨⟨v4, rfl⟩, f6, e6⟩
      have ep6 := f6.at ep5 (nin1 nsp.symm nin0)
      have hl6 : (cD (tabF (cellsK S.nights.toNat i ++ rowC j i) fun _ => 0)).length ≤ 100000 := by
        rw [enD_len]; unfold tabF; rw [List.length_map, List.length_append]
        have h1 : (cellsK S.nights.toNat i).length ≤ 3 * 12 := by
          have key : ∀ (N k : Nat), (cellsK N k).length = k * N := by
            intro N k
            induction k with
            | zero => simp [cellsK]
            | succ k ih => rw [cellsK_succ, List.length_append, ih]; unfold rowC; rw [List.length_map, List.length_range, Nat.succ_mul]
          rw [key]
          exact Nat.mul_le_mul (by have := so.k3; omega) (by omega)
        have h2 : (rowC j i).length = j := by unfold rowC; rw [List.length_map, List.length_range]
        omega
      walk_at "go"
      rename_i q H7 n7 f7 e7
      rw [Int.zero_add] at e7
      have ep7 := f7.at0 ep6
      walk_at "go"
      refine g_rdp (k := ck ((i : Int), (j : Int))) (f7.at0 e6) e7 (szM (by omega)) fun H8 f8 e8 => ?_
      refine ⟨⟨_, rfl⟩, (f6.then0 f7).transL f8, ?_⟩
      rw [e8]
      have := tab_put (fun _ => 0) (new_cell (N := S.nights.toNat) (i := i) (j := j))
      rw [this, List.append_assoc, ← rowC_succ]
    · rintro σ H6 ⟨⟨v4, rfl⟩, f6, e6⟩
      refine ⟨⟨_, _, rfl⟩, f5.transL f6, ?_⟩
      rw [e6, ← cellsK_succ]
  · rintro σ H5 ⟨⟨v3, v4, rfl⟩, f5, e5⟩
    have ep5 := f5.at e4 (nin1 nsp.symm nin0)
    have al5 : AL H5 [st, p] := ⟨List.nodup_cons.mpr ⟨nin1 nsp nin0, by simp⟩, fun a ha => by
      rcases List.mem_cons.mp ha with q | q
      · rw [q]; exact ⟨_, e5⟩
      · rw [List.mem_singleton.mp q]; exact ⟨_, ep5⟩⟩
    have F5 : Fr [p] H H5 := F4.own1 f5 nst
    clear e1 e2 e34 e3 f1 f2 f3 f4 F4 er4 e04 n3 f5 rl
    walk_at "go"
    rename_i vo H6 n6 f6 e6 H7 f7 e7 bk H8 n8 f8 e8 H9 f9 e9 H10 f10 e10 ak H11 n11 f11 e11 H12 f12 e12 wt H13 n13 f13 e13 H14 f14 e14 H15 f15 e15 ou H16 n16 f16 e16 H17 f17 e17 td H18 n18 f18 e18 H19 f19 e19
    have up : ∀ {Ha Hb : Hp} {l : List Addr} {u : HO}, AL Ha l → Fr [p] Ha Hb → Hb p = some u → AL Hb l := fun x f e => ⟨x.1, fun a ha => by
      by_cases z : a = p
      · rw [z]; exact ⟨_, e⟩
      · obtain ⟨o, q⟩ := x.2 a ha; exact ⟨o, f.at q (nin1 z nin0)⟩⟩
    have a7 := up (al5.new f6 n6 e6) f7 e7
    have a10 := up (up (a7.new f8 n8 e8) f9 e9) f10 e10
    have a12 := up (a10.new f11 n11 e11) f12 e12
    have a15 := up (up (a12.new f13 n13 e13) f14 e14) f15 e15
    have a17 := up (a15.new f16 n16 e16) f17 e17
    have a19 := up (a17.new f18 n18 e18) f19 e19
    have aos : AL H19 (SP.os ⟨p, st, vo, bk, ak, wt, ou, td⟩) := a19.perm (List.reverse_perm [p, st, vo, bk, ak, wt, ou, td])
    have nd := SPNd.of aos.1
    have F7 : Fr [p] H H7 := (F5.then0 f6).transL f7
    have F10 : Fr [p] H H10 := ((F7.then0 f8).transL f9).transL f10
    have F12 : Fr [p] H H12 := (F10.then0 f11).transL f12
    have F15 : Fr [p] H H15 := ((F12.then0 f13).transL f14).transL f15
    have F17 : Fr [p] H H17 := (F15.then0 f16).transL f17
    have F19 : Fr [p] H H19 := (F17.then0 f18).transL f19
    have G17 : Fr [p] H16 H19 := (f17.then0 f18).transL f19
    have G15 : Fr [p] H13 H19 := ((f14.transL f15).then0 f16).transL G17
    have G12 : Fr [p] H11 H19 := (f12.then0 f13).transL G15
    have G9 : Fr [p] H8 H19 := ((f9.transL f10).then0 f11).transL G12
    have G7 : Fr [p] H6 H19 := (f7.then0 f8).transL G9
    have np : ∀ {a : Addr}, a ≠ p → a ∉ [p] := fun q => nin1 q nin0
    refine k ⟨p, st, vo, bk, ak, wt, ou, td⟩ H19 rfl F19 (fun a ha => ?_) ⟨⟨dx, .ref s, .non, e19, Da.frL F19 dS (imm_setup S), ⟨(f6.pre0 G7).at e5 (np nd.p_fr.symm), ?_, ?_, ?_, ?_, ?_, ?_, .non⟩⟩, aos⟩
    · have ha' : a = p ∨ a = st ∨ a = vo ∨ a = bk ∨ a = ak ∨ a = wt ∨ a = ou ∨ a = td := by simpa [SP.os] using ha
      rcases ha' with z | z | z | z | z | z | z | z
      · exact .inl z
      · rw [z]; exact .inr nst
      · rw [z]; exact .inr (F5.freeL n6 (np nd.p_vo.symm))
      · rw [z]; exact .inr (F7.freeL n8 (np nd.p_bk.symm))
      · rw [z]; exact .inr (F10.freeL n11 (np nd.p_ask.symm))
      · rw [z]; exact .inr (F12.freeL n13 (np nd.p_wt.symm))
      · rw [z]; exact .inr (F15.freeL n16 (np nd.p_out.symm))
      · rw [z]; exact .inr (F17.freeL n18 (np nd.p_told.symm))
    · exact DkAt.nil (G7.at e6 (np nd.p_vo.symm))
    · exact LsAt.nil (G9.at e8 (np nd.p_bk.symm))
    · exact DkAt.nil (G12.at e11 (np nd.p_ask.symm))
    · exact LsAt.nil (G15.at e13 (np nd.p_wt.symm))
    · exact LsAt.nil (G17.at e16 (np nd.p_out.symm))
    · exact LsAt.nil (f19.at e18 (np nd.p_told.symm))
theorem ok_Seller_init {f : Addr} {fd : FuncData} (F : Fun K "__init__" "Seller.__init__" s_Seller_init f fd) (T : Txt K mg A)  : FnOk P w K mg base CX0 (1) f fd ["self", "setup", "number"] (sp_Seller_init K A) := by
  refine F.ok sc_Seller_init (fun vs H Q E h => ?_) (fun cdv Ar outer s H vs Q E hr h => ⟨t_Seller_init K A, ?_, ?_⟩)
  · obtain ⟨x0, x1, x2, rfl, _⟩ := h
    rfl
  · have hu := hu_of hr
    exact (pss_cons (ps_fld (pv 0) (pv 1) rfl)
    (pss_cons (ps_fld (pv 0) (pv 2) rfl)
    (pss_cons (ps_fld (pv 0) pe_dnewT rfl)
    (pss_cons (ps_for PassesOwn.never rfl (pi_range1 rfl T.b_range (pa_cons (pe_callB b_len (by rfl) T.b_len (by decide +kernel) (pa_cons (pe_ix ix_tup (pv 1) pe_int (fun _ _ => rfl)) pa_nil)) pa_nil)) (pg_name (i := 3) sc_Seller_init.nd rfl (Or.inl rfl)) (pss_one (ps_for PassesOwn.never rfl (pi_range1 rfl T.b_range (pa_cons (pe_ix ix_tup (pv 1) pe_int (fun _ _ => rfl)) pa_nil)) (pg_name (i := 4) sc_Seller_init.nd rfl (Or.inl rfl)) (pss_one (ps_dput hu (pe_fld (pv 0) rfl) (pe_tup (pa_cons (pv 3) (pa_cons (pv 4) pa_nil))) pe_int rfl)))))
    (pss_cons (ps_fld (pv 0) pe_dnewK rfl)
    (pss_cons (ps_fld (pv 0) (pe_lst pa_nil) rfl)
    (pss_cons (ps_fld (pv 0) pe_non rfl)
    (pss_cons (ps_fld (pv 0) pe_dnewK rfl)
    (pss_cons (ps_fld (pv 0) (pe_lst pa_nil) rfl)
    (pss_cons (ps_fld (pv 0) pe_int rfl)
    (pss_cons (ps_fld (pv 0) (pe_lst pa_nil) rfl)
    (pss_one (ps_fld (pv 0) (pe_lst pa_nil) rfl)))))))))))))
  · obtain ⟨x0, x1, x2, rfl, h⟩ := h
    exact pu_Seller_init T h
def P_Seller_bodies (K : PySem.W.Frag) (A : Ad) (x0 : V) (H : Hp) (Q : VK) : Prop := ∃ (s : SP) (S : Setup) (num : Int) (M : SM), x0 = .ref s.p ∧ SellerAt A H s S num M ∧
  ∀ (o : Addr) (H' : Hp), H o = none → Fr [s.p] H H' → SellerAt A H' { s with out := o } S num { M with out := [] } → LsAt H' s.out (M.out.map upD) → Q (.ref s.out) H'
def sp_Seller_bodies (K : PySem.W.Frag) (A : Ad) : Sp := fun vs H Q _ => ∃ x0, vs = [x0] ∧ P_Seller_bodies K A x0 H Q
theorem c_Seller_bodies {K : PySem.W.Frag} {A : Ad} {x0 : V} {H : Hp} {Q : VK} {E : XK} (h : P_Seller_bodies K A x0 H Q) : sp_Seller_bodies K A [x0] H Q E := ⟨_, rfl, h⟩
theorem sc_Seller_bodies : FnScope ["self", "found"] ["self"] (defScope s_Seller_bodies) := ⟨rfl, rfl, rfl, by decide +kernel, rfl, by decide +kernel, by decide +kernel⟩
def t_Seller_bodies (K : PySem.W.Frag) (A : Ad) : TS :=
  (tSeq (tAsg (tFld K (tVar 0) "outgoing") (gName 1))
    (tSeq (sFld K (tVar 0) (tLst tNil) "outgoing")
    (tRet (tVar 1))))
theorem pu_Seller_bodies (T : Txt K mg A) {x0 : V} {H : Hp} {Q : VK} (h : P_Seller_bodies K A x0 H Q) : t_Seller_bodies K A { nx := fun _ H' => Q .non H', rt := Q } [some x0, none] H := by
  obtain ⟨s, S, num, M, rfl, x, k⟩ := h
  have nd := x.nd
  obtain ⟨⟨dx, sv, clv, e, dS, c⟩, al⟩ := x
  unfold t_Seller_bodies
  walk_at "go"
  rename_i o H1 n1 f1 e1 H2 f2 e2
  have a1 := al.new f1 n1 e1
  have no : o ∉ s.os := (List.nodup_cons.mp a1.1).1
  have np : ∀ {a : Addr}, a ≠ s.p → a ∉ [s.p] := fun q => nin1 q nin0
  have nop : o ≠ s.p := fun z => no (by rw [z]; simp [SP.os])
  have F : Fr [s.p] H H2 := f2.pre0' f1
  refine k o H2 n1 F ⟨⟨dx, sv, clv, e2, Da.frL F dS (imm_setup S), ⟨F.at c.fr (np nd.p_fr.symm), c.vo.fr F (np nd.p_vo.symm), c.bk.fr F (np nd.p_bk.symm), c.ask.fr F (np nd.p_ask.symm), c.wt.fr F (np nd.p_wt.symm), LsAt.nil (f2.at e1 (np nop)), c.told.fr F (np nd.p_told.symm), Da.frL F c.clv (imm_clos _)⟩⟩, ?_⟩ (c.out.fr F (np nd.p_out.symm))
  have s2 : AL H2 (o :: s.os) := ⟨a1.1, fun a ha => by
    by_cases z : a = s.p
    · rw [z]; exact ⟨_, e2⟩
    · obtain ⟨u, eu⟩ := a1.2 a ha; exact ⟨u, f2.at eu (np z)⟩⟩
  have p1 : (o :: s.os).Perm (s.out :: [s.p, s.fr, s.vo, s.bk, s.ask, s.wt, o, s.told]) := by
    unfold SP.os
    refine (List.perm_middle (l₁ := [o, s.p, s.fr, s.vo, s.bk, s.ask, s.wt]) (l₂ := [s.told]) (a := s.out)).trans ?_
    exact List.Perm.cons _ (List.perm_middle (l₁ := [s.p, s.fr, s.vo, s.bk, s.ask, s.wt]) (l₂ := [s.told]) (a := o)).symm
  have s3 := s2.perm p1
  exact ⟨(List.nodup_cons.mp s3.1).2, fun a ha => s3.2 a (List.mem_cons_of_mem _ ha)⟩
theorem ok_Seller_bodies {f : Addr} {fd : FuncData} (F : Fun K "bodies" "Seller.bodies" s_Seller_bodies f fd) (T : Txt K mg A)  : FnOk P w K mg base CX0 (1) f fd ["self"] (sp_Seller_bodies K A) := by
  refine F.ok sc_Seller_bodies (fun vs H Q E h => ?_) (fun cdv Ar outer s H vs Q E hr h => ⟨t_Seller_bodies K A, ?_, ?_⟩)
  · obtain ⟨x0, rfl, _⟩ := h
    rfl
  · have hu := hu_of hr
    exact (pss_cons (ps_set (i := 1) sc_Seller_bodies.nd rfl (Or.inl rfl) (pe_fld (pv 0) rfl))
    (pss_cons (ps_fld (pv 0) (pe_lst pa_nil) rfl)
    (pss_one (ps_ret (pv 1)))))
  · obtain ⟨x0, rfl, h⟩ := h
    exact pu_Seller_bodies T h
def P_Seller_answers (K : PySem.W.Frag) (A : Ad) (x0 : V) (H : Hp) (Q : VK) : Prop := ∃ (s : SP) (S : Setup) (num : Int) (M : SM), x0 = .ref s.p ∧ SellerAt A H s S num M ∧
  ∀ (o : Addr) (H' : Hp), H o = none → Fr [s.p] H H' → SellerAt A H' { s with told := o } S num { M with told := [] } → LsAt H' s.told (M.told.map tellD) → Q (.ref s.told) H'
def sp_Seller_answers (K : PySem.W.Frag) (A : Ad) : Sp := fun vs H Q _ => ∃ x0, vs = [x0] ∧ P_Seller_answers K A x0 H Q
theorem c_Seller_answers {K : PySem.W.Frag} {A : Ad} {x0 : V} {H : Hp} {Q : VK} {E : XK} (h : P_Seller_answers K A x0 H Q) : sp_Seller_answers K A [x0] H Q E := ⟨_, rfl, h⟩
theorem sc_Seller_answers : FnScope ["self", "found"] ["self"] (defScope s_Seller_answers) := ⟨rfl, rfl, rfl, by decide +kernel, rfl, by decide +kernel, by decide +kernel⟩
def t_Seller_answers (K : PySem.W.Frag) (A : Ad) : TS :=
  (tSeq (tAsg (tFld K (tVar 0) "told") (gName 1))
    (tSeq (sFld K (tVar 0) (tLst tNil) "told")
    (tRet (tVar 1))))
theorem pu_Seller_answers (T : Txt K mg A) {x0 : V} {H : Hp} {Q : VK} (h : P_Seller_answers K A x0 H Q) : t_Seller_answers K A { nx := fun _ H' => Q .non H', rt := Q } [some x0, none] H := by
  obtain ⟨s, S, num, M, rfl, x, k⟩ := h
  have nd := x.nd
  obtain ⟨⟨dx, sv, clv, e, dS, c⟩, al⟩ := x
  unfold t_Seller_answers
  walk_at "go"
  rename_i o H1 n1 f1 e1 H2 f2 e2
  have a1 := al.new f1 n1 e1
  have no : o ∉ s.os := (List.nodup_cons.mp a1.1).1
  have np : ∀ {a : Addr}, a ≠ s.p → a ∉ [s.p] := fun q => nin1 q nin0
  have nop : o ≠ s.p := fun z => no (by rw [z]; simp [SP.os])
  have F : Fr [s.p] H H2 := f2.pre0' f1
  refine k o H2 n1 F ⟨⟨dx, sv, clv, e2, Da.frL F dS (imm_setup S), ⟨F.at c.fr (np nd.p_fr.symm), c.vo.fr F (np nd.p_vo.symm), c.bk.fr F (np nd.p_bk.symm), c.ask.fr F (np nd.p_ask.symm), c.wt.fr F (np nd.p_wt.symm), c.out.fr F (np nd.p_out.symm), LsAt.nil (f2.at e1 (np nop)), Da.frL F c.clv (imm_clos _)⟩⟩, ?_⟩ (c.told.fr F (np nd.p_told.symm))
  have s2 : AL H2 (o :: s.os) := ⟨a1.1, fun a ha => by
    by_cases z : a = s.p
    · rw [z]; exact ⟨_, e2⟩
    · obtain ⟨u, eu⟩ := a1.2 a ha; exact ⟨u, f2.at eu (np z)⟩⟩
  have p1 : (o :: s.os).Perm (s.told :: [s.p, s.fr, s.vo, s.bk, s.ask, s.wt, s.out, o]) := by
    unfold SP.os
    refine (List.perm_middle (l₁ := [o, s.p, s.fr, s.vo, s.bk, s.ask, s.wt, s.out]) (l₂ := []) (a := s.told)).trans ?_
    exact List.Perm.cons _ (List.perm_middle (l₁ := [s.p, s.fr, s.vo, s.bk, s.ask, s.wt, s.out]) (l₂ := []) (a := o)).symm
  have s3 := s2.perm p1
  exact ⟨(List.nodup_cons.mp s3.1).2, fun a ha => s3.2 a (List.mem_cons_of_mem _ ha)⟩
theorem ok_Seller_answers {f : Addr} {fd : FuncData} (F : Fun K "answers" "Seller.answers" s_Seller_answers f fd) (T : Txt K mg A)  : FnOk P w K mg base CX0 (1) f fd ["self"] (sp_Seller_answers K A) := by
  refine F.ok sc_Seller_answers (fun vs H Q E h => ?_) (fun cdv Ar outer s H vs Q E hr h => ⟨t_Seller_answers K A, ?_, ?_⟩)
  · obtain ⟨x0, rfl, _⟩ := h
    rfl
  · have hu := hu_of hr
    exact (pss_cons (ps_set (i := 1) sc_Seller_answers.nd rfl (Or.inl rfl) (pe_fld (pv 0) rfl))
    (pss_cons (ps_fld (pv 0) (pe_lst pa_nil) rfl)
    (pss_one (ps_ret (pv 1)))))
  · obtain ⟨x0, rfl, h⟩ := h
    exact pu_Seller_answers T h
def P_Seller_voucher (K : PySem.W.Frag) (A : Ad) (x0 x1 : V) (H : Hp) (Q : VK) : Prop := ∃ (s : SP) (S : Setup) (num : Int) (M : SM) (d : Deed), x0 = .ref s.p ∧ SellerAt A H s S num M ∧ Da H x1 (deedD d) ∧
  ∀ (v : V) (H' : Hp), Fr [] H H' → Da H' v (partyD (M.old d)) → Q v H'
def sp_Seller_voucher (K : PySem.W.Frag) (A : Ad) : Sp := fun vs H Q _ => ∃ x0 x1, vs = [x0, x1] ∧ P_Seller_voucher K A x0 x1 H Q
theorem c_Seller_voucher {K : PySem.W.Frag} {A : Ad} {x0 x1 : V} {H : Hp} {Q : VK} {E : XK} (h : P_Seller_voucher K A x0 x1 H Q) : sp_Seller_voucher K A [x0, x1] H Q E := ⟨_, _, rfl, h⟩
theorem sc_Seller_voucher : FnScope ["self", "deed"] ["self", "deed"] (defScope s_Seller_voucher) := ⟨rfl, rfl, rfl, by decide +kernel, rfl, by decide +kernel, by decide +kernel⟩
def t_Seller_voucher (K : PySem.W.Frag) (A : Ad) : TS :=
  (tRet (tIf (tTest (tOp rEq (tOp (rIxT K) (tVar 1) (tC (.int 0))) (tC (.str "wish")))) (tTup tNil) (tDGet2 (tFld K (tVar 0) "vouchers") (tOp (rIxT K) (tVar 1) (tC (.int 1))) (tTup tNil))))
theorem pu_Seller_voucher (T : Txt K mg A) {x0 x1 : V} {H : Hp} {Q : VK} (h : P_Seller_voucher K A x0 x1 H Q) : t_Seller_voucher K A { nx := fun _ H' => Q .non H', rt := Q } [some x0, some x1] H := by
  obtain ⟨s, S, num, M, d, rfl, x, dd, k⟩ := h
  have nd := x.nd
  obtain ⟨⟨dx, sv, clv, e, dS, c⟩, al⟩ := x
  obtain ⟨kvs, ev, rv⟩ := c.vo
  obtain ⟨a, xs, rfl, ea, _, q⟩ : ∃ a xs, x1 = .ref a ∧ H a = some (.tup xs) ∧ xs.length ≤ 1000000 ∧ DaL H xs (match d with | .wish p => [.str "wish", partyD p] | .cancel k => [.str "cancel", .int k] | .change k p => [.str "change", .int k, partyD p]) := by
    cases d <;> exact dd.tup1
  unfold t_Seller_voucher
  cases d with
  | wish p =>
    obtain ⟨x, y, rfl, d1, d2⟩ := q.two
    cases d1.str1
    walk_at "go"
    refine g_ite (fun _ => ?_) (fun z => absurd rfl z)
    walk_at "go"
    rename_i t H1 n1 f1 e1
    exact k _ H1 f1 (.tup e1 (Nat.zero_le _) .nil)
  | cancel kk =>
    obtain ⟨x, y, rfl, d1, d2⟩ := q.two
    cases d1.str1
    cases d2.int1
    walk_at "go"
    refine g_ite (fun z => absurd z (by decide)) (fun _ => ?_)
    walk_at "go"
    rename_i t H1 n1 f1 e1
    refine g_dgoI (.inl (f1.at0 ev)) ?_
    rcases DkR.look rv kk with ⟨h1, h2⟩ | ⟨v, p, h1, h2, h3⟩
    · rw [h2]; exact k _ H1 f1 (by show Da H1 (.ref t) (partyD ((lk M.vo kk).getD [])); rw [h1]; exact .tup e1 (Nat.zero_le _) .nil)
    · rw [h2]; exact k _ H1 f1 (by show Da H1 v (partyD ((lk M.vo kk).getD [])); rw [h1]; exact Da.frL f1 h3 (imm_party _))
  | change kk p =>
    obtain ⟨x, y, z, rfl, d1, d2, d3⟩ := q.three
    cases d1.str1
    cases d2.int1
    walk_at "go"
    refine g_ite (fun z => absurd z (by decide)) (fun _ => ?_)
    walk_at "go"
    rename_i t H1 n1 f1 e1
    refine g_dgoI (.inl (f1.at0 ev)) ?_
    rcases DkR.look rv kk with ⟨h1, h2⟩ | ⟨v, p, h1, h2, h3⟩
    · rw [h2]; exact k _ H1 f1 (by show Da H1 (.ref t) (partyD ((lk M.vo kk).getD [])); rw [h1]; exact .tup e1 (Nat.zero_le _) .nil)
    · rw [h2]; exact k _ H1 f1 (by show Da H1 v (partyD ((lk M.vo kk).getD [])); rw [h1]; exact Da.frL f1 h3 (imm_party _))
theorem ok_Seller_voucher {f : Addr} {fd : FuncData} (F : Fun K "voucher" "Seller.voucher" s_Seller_voucher f fd) (T : Txt K mg A)  : FnOk P w K mg base CX0 (1) f fd ["self", "deed"] (sp_Seller_voucher K A) := by
  refine F.ok sc_Seller_voucher (fun vs H Q E h => ?_) (fun cdv Ar outer s H vs Q E hr h => ⟨t_Seller_voucher K A, ?_, ?_⟩)
  · obtain ⟨x0, x1, rfl, _⟩ := h
    rfl
  · have hu := hu_of hr
    exact (pss_one (ps_ret (pe_ifExp (pt_cmpR op_eq (pe_ix ix_tup (pv 1) pe_int (fun _ _ => rfl)) pe_str (nomark _)) (pe_tup pa_nil) (pe_dget2 hu (pe_fld (pv 0) rfl) (pe_ix ix_tup (pv 1) pe_int (fun _ _ => rfl)) (pe_tup pa_nil) ⟨rfl, rfl, rfl, rfl⟩))))
  · obtain ⟨x0, x1, rfl, h⟩ := h
    exact pu_Seller_voucher T h

def csN (m : List (Cell × Int)) : List (List Int) := m.map fun e => [e.1.1, e.1.2]
theorem csN_keys (m : List (Cell × Int)) : (cD m).map (·.1) = (csN m).map fun c => c.map Sum.inl := by
  show (m.map fun e => (ck e.1, V.int e.2)).map (·.1) = _
  unfold csN
  rw [List.map_map, List.map_map]; rfl
theorem csN_alike (m : List (Cell × Int)) : PySem.W.AllAlike ((csN m).map intsD) := fun d hd d' hd' => by
  obtain ⟨c, hc, rfl⟩ := List.mem_map.mp hd
  obtain ⟨c', hc', rfl⟩ := List.mem_map.mp hd'
  obtain ⟨e, _, rfl⟩ := List.mem_map.mp hc
  obtain ⟨e', _, rfl⟩ := List.mem_map.mp hc'
  rfl
theorem csN_sortable (m : List (Cell × Int)) : PySem.W.Sortable ((csN m).map intsD) := .inl fun d hd => by
  obtain ⟨c, hc, rfl⟩ := List.mem_map.mp hd
  obtain ⟨e, _, rfl⟩ := List.mem_map.mp hc
  exact ⟨_, _, rfl⟩
theorem csN_small (m : List (Cell × Int)) : ∀ c ∈ csN m, (intsD c).depth ≤ 60 ∧ c.length ≤ 1000000 := fun c hc => by
  obtain ⟨e, _, rfl⟩ := List.mem_map.mp hc
  simp [intsD, PyData.depth, PyData.depthAll]
theorem csN_get {m : List (Cell × Int)} {H : Hp} {ys : List V} (dy : DaL H ys (srt ((csN m).map intsD))) {z : Nat} {v : V} (h : ys[z]? = some v) : ∃ (t : Addr) (e : Cell × Int), e ∈ m ∧ v = .ref t ∧ H t = some (.tup [.int e.1.1, .int e.1.2]) := by
  obtain ⟨d, hd, dd⟩ := dy.get h
  obtain ⟨c, hc, rfl⟩ := List.mem_map.mp ((srt_perm _).mem_iff.mp (List.mem_of_getElem? hd))
  obtain ⟨e, he, rfl⟩ := List.mem_map.mp hc
  obtain ⟨t, xs, rfl, et, _, q⟩ := dd.tup1
  obtain ⟨x, y, rfl, dx, dy⟩ := q.two
  cases dx.int1
  cases dy.int1
  exact ⟨t, e, he, rfl, et⟩
theorem imm_csN (m : List (Cell × Int)) : immL (srt ((csN m).map intsD)) = true := immL_of fun d hd => by
  obtain ⟨c, _, rfl⟩ := List.mem_map.mp ((srt_perm _).mem_iff.mp hd)
  exact immL_map (fun _ => rfl) c
theorem needs_le {S : Setup} (so : SetupOk S) {ss : List Stay} (ok : ∀ s ∈ ss, StayOk S s) : (needsL ss).length ≤ 36 := by
  have h := List.Nodup.length_le_of_subset (l₁ := (needsL ss).map fun e : Cell × Int => e.1) (l₂ := cellsAll S) (needs_nd ss) fun c hc => by
    obtain ⟨e, he, rfl⟩ := List.mem_map.mp hc
    exact (mem_cells so.n1).mpr (cell_ok so ok he)
  rw [List.length_map, cells_len] at h
  have h1 := so.k3
  have h2 := so.n2
  exact Nat.le_trans h (Nat.le_trans (Nat.mul_le_mul h1 (show S.nights.toNat ≤ 12 by omega)) (by decide))

/-! ### a deed's head -/
def headD : Deed → PyData
  | .wish p => .tuple [.str "wish", partyD p]
  | .cancel k => .tuple [.str "cancel", .int k]
  | .change k _ => .tuple [.str "change", .int k]
theorem lay_stays : ∀ p : List Stay, PyData.canLayAll0 (p.map stayD) = true ∧ PyData.depthAll (p.map stayD) ≤ 1
  | [] => ⟨by simp [PyData.canLayAll0], by simp [PyData.depthAll]⟩
  | s :: p => by
    obtain ⟨h1, h2⟩ := lay_stays p
    refine ⟨?_, ?_⟩
    · simp [PyData.canLayAll0, PyData.canLay0, stayD, h1]
    · simp only [List.map_cons, PyData.depthAll, stayD, PyData.depth]; omega
theorem lay_party (p : List Stay) : (partyD p).canLay0 = true ∧ (partyD p).depth ≤ 2 := by
  obtain ⟨h1, h2⟩ := lay_stays p
  refine ⟨?_, ?_⟩
  · show PyData.canLay0 (.tuple _) = true
    simp only [PyData.canLay0]; exact h1
  · show PyData.depth (.tuple _) ≤ 2
    simp only [PyData.depth]; omega
theorem head_shaped (d : Deed) : SeqAt.shaped (headD d) = true := by
  cases d with
  | wish p =>
    obtain ⟨h1, h2⟩ := lay_party p
    show (_ && _) = true
    rw [Bool.and_eq_true]
    refine ⟨by simp [headD, PyData.canLay0, PyData.canLayAll0, h1]; decide +kernel, decide_eq_true ?_⟩
    simp only [headD, PyData.depth, PyData.depthAll]; omega
  | cancel k => simp [SeqAt.shaped, headD, PyData.canLay0, PyData.canLayAll0, PyData.depth, PyData.depthAll]; decide +kernel
  | change k p => simp [SeqAt.shaped, headD, PyData.canLay0, PyData.canLayAll0, PyData.depth, PyData.depthAll]; decide +kernel
theorem imm_head (d : Deed) : imm (headD d) = true := by
  cases d with
  | wish p => show (true && (imm (partyD p) && true)) = true; rw [imm_party]; rfl
  | cancel k => rfl
  | change k p => rfl
theorem int_beq (a b : Int) : (a == b) = decide (a = b) := by
  by_cases h : a = b <;> simp [h]
theorem head_eqv (d : Deed) (k : Int) : PyData.eqv (headD d) (.tuple [.str "change", .int k]) = isCh k d := by
  have h1 : ((Str.ofString "wish") == (Str.ofString "change")) = false := by decide
  have h2 : ((Str.ofString "cancel") == (Str.ofString "change")) = false := by decide
  cases d with
  | wish p =>
    simp only [headD, PyData.eqv, PyData.eqvAll, isCh]
    rw [h1, Bool.false_and]
  | cancel j =>
    simp only [headD, PyData.eqv, PyData.eqvAll, isCh]
    rw [h2, Bool.false_and]
  | change j p => simp [headD, PyData.eqv, PyData.eqvAll, isCh, int_beq]
theorem g_slD {K : PySem.W.Frag} {H : Hp} {Q : VK} {v : V} {d : Deed} (dv : Da H v (deedD d)) (k : ∀ w H', Fr [] H H' → Da H' w (headD d) → Q w H') : rSlA K v none (some 2) H Q := by
  cases d with
  | wish p =>
    obtain ⟨a, xs, rfl, ea, _, q⟩ := dv.tup1
    obtain ⟨x, y, rfl, d1, d2⟩ := q.two
    exact g_slA (SqT.of ea) (fun _ => k _ H Fr.refl dv) fun n => absurd (show HT.sIx 2 0 none = 0 ∧ HT.sIx 2 2 (some 2) = 2 by decide) n
  | cancel j =>
    obtain ⟨a, xs, rfl, ea, _, q⟩ := dv.tup1
    obtain ⟨x, y, rfl, d1, d2⟩ := q.two
    exact g_slA (SqT.of ea) (fun _ => k _ H Fr.refl dv) fun n => absurd (show HT.sIx 2 0 none = 0 ∧ HT.sIx 2 2 (some 2) = 2 by decide) n
  | change j p =>
    obtain ⟨a, xs, rfl, ea, _, q⟩ := dv.tup1
    obtain ⟨x, y, z, rfl, d1, d2, d3⟩ := q.three
    refine g_slA (SqT.of ea) (fun n => absurd n (show ¬ (HT.sIx 3 0 none = 0 ∧ HT.sIx 3 3 (some 2) = 3) by decide)) fun _ l H' n f e => k _ H' f ?_
    have e' : H' l = some (.tup [x, y]) := e
    cases d1.str1
    cases d2.int1
    exact .tup e' (Nat.le_of_ble_eq_true rfl) (.cons (.str _) (.one' (.int _)))
/-! cells in a list, in a tuple -/
theorem cell_eqv (a b : Cell) : PyData.eqv (cellD a) (cellD b) = decide (a = b) := by
  obtain ⟨a1, a2⟩ := a
  obtain ⟨b1, b2⟩ := b
  simp only [cellD, PyData.eqv, PyData.eqvAll, int_beq, Bool.and_true, Prod.mk.injEq]
  rw [Bool.decide_and]
theorem cells_any (cs : List Cell) (c : Cell) : ((cs.map cellD).any fun z => PyData.eqv z (cellD c)) = decide (c ∈ cs) := by
  induction cs with
  | nil => rfl
  | cons x cs ih =>
    rw [List.map_cons, List.any_cons, ih, cell_eqv]
    by_cases h : x = c
    · simp [h]
    · simp [h, Ne.symm h]
theorem lay_cells : ∀ cs : List Cell, PyData.canLayAll0 (cs.map cellD) = true
  | [] => by simp [PyData.canLayAll0]
  | c :: cs => by simp [PyData.canLayAll0, cellD, PyData.canLay0, lay_cells cs]
theorem g_inC {K : PySem.W.Frag} {H : Hp} {Q : VK} {x y : V} {c : Cell} {cs : List Cell} (dx : Da H x (cellD c)) (dy : Da H y (cellsD cs)) (q : Q (.bl (decide (c ∈ cs))) H) : rInDT K x y H Q :=
  g_inDT dx dy (by simp [cellD, PyData.canLay0, PyData.canLayAll0]) (lay_cells cs) (by simp [cellD, PyData.depth, PyData.depthAll]) (by rw [cells_any]; exact q)
theorem keys_cells {H : Hp} : ∀ {m : List (Cell × Int)} {bs : List Addr}, IsKeys H (cD m) bs → DaL H (bs.map V.ref) ((m.map (·.1)).map cellD)
  | [], _, h => by cases h; exact .nil
  | e :: m, _, h => by
    cases h with
    | cons h1 h2 => exact .cons (.tup h1 (Nat.le_of_ble_eq_true rfl) (.cons (.int _) (.one' (.int _)))) (keys_cells h2)
def SM.pd (M : SM) : Deed → Bool
  | .wish _ => false
  | .cancel k => M.pend k
  | .change k _ => M.pend k
theorem waits_def (M : SM) (d : Deed) : M.waits d = (M.pd d || M.shut (cellsN d.party ++ cellsN (M.old d))) := by cases d <;> rfl
theorem party_tup {H : Hp} {v : V} {p : List Stay} (h : Da H v (partyD p)) : ∃ a xs, v = .ref a ∧ H a = some (.tup xs) ∧ DaL H xs (p.map stayD) := by
  obtain ⟨a, xs, e, ea, _, q⟩ := h.tup1
  exact ⟨a, xs, e, ea, q⟩
def deedL : Deed → List PyData
  | .wish p => [.str "wish", partyD p]
  | .cancel k => [.str "cancel", .int k]
  | .change k p => [.str "change", .int k, partyD p]
theorem deed_tup {H : Hp} {v : V} {d : Deed} (h : Da H v (deedD d)) : ∃ a xs, v = .ref a ∧ H a = some (.tup xs) ∧ DaL H xs (deedL d) := by
  cases d <;> (obtain ⟨a, xs, e, ea, _, q⟩ := h.tup1; exact ⟨a, xs, e, ea, q⟩)
def nameOf : Deed → Option Int
  | .wish _ => none
  | .cancel k => some k
  | .change k _ => some k
theorem pd_named {M : SM} {d : Deed} {k : Int} (h : nameOf d = some k) : M.pd d = M.pend k := by
  cases d with
  | wish p => cases h
  | cancel j => cases h; rfl
  | change j p => cases h; rfl
theorem old_named {M : SM} {d : Deed} {k : Int} (h : nameOf d = some k) : M.old d = (lk M.vo k).getD [] := by
  cases d with
  | wish p => cases h
  | cancel j => cases h; rfl
  | change j p => cases h; rfl
theorem deed_sort {H : Hp} {xs : List V} {d : Deed} (q : DaL H xs (deedL d)) : (∃ y p, d = .wish p ∧ xs = [.str "wish", y] ∧ Da H y (partyD p)) ∨ ∃ w kk rest, xs = .str w :: .int kk :: rest ∧ w ≠ "wish" ∧ nameOf d = some kk := by
  cases d with
  | wish p =>
    obtain ⟨x, y, rfl, d1, d2⟩ := q.two
    cases d1.str1
    exact .inl ⟨y, p, rfl, rfl, d2⟩
  | cancel k =>
    obtain ⟨x, y, rfl, d1, d2⟩ := q.two
    cases d1.str1
    cases d2.int1
    exact .inr ⟨_, _, _, rfl, by decide, rfl⟩
  | change k p =>
    obtain ⟨x, y, z, rfl, d1, d2, d3⟩ := q.three
    cases d1.str1
    cases d2.int1
    exact .inr ⟨_, _, _, rfl, by decide, rfl⟩
def P_Seller_must_wait (K : PySem.W.Frag) (A : Ad) (x0 x1 : V) (H : Hp) (Q : VK) : Prop := ∃ (s : SP) (S : Setup) (num : Int) (M : SM) (d : Deed), x0 = .ref s.p ∧ SellerAt A H s S num M ∧ Da H x1 (deedD d) ∧ SetupOk S ∧ M.Ok S ∧ DeedOk S d ∧
  ∀ H' : Hp, Fr [] H H' → Q (.bl (M.waits d)) H'
def sp_Seller_must_wait (K : PySem.W.Frag) (A : Ad) : Sp := fun vs H Q _ => ∃ x0 x1, vs = [x0, x1] ∧ P_Seller_must_wait K A x0 x1 H Q
theorem c_Seller_must_wait {K : PySem.W.Frag} {A : Ad} {x0 x1 : V} {H : Hp} {Q : VK} {E : XK} (h : P_Seller_must_wait K A x0 x1 H Q) : sp_Seller_must_wait K A [x0, x1] H Q E := ⟨_, _, rfl, h⟩
theorem sc_Seller_must_wait : FnScope ["self", "deed", "number", "party", "cells", "cell"] ["self", "deed"] (defScope s_Seller_must_wait) := ⟨rfl, rfl, rfl, by decide +kernel, rfl, by decide +kernel, by decide +kernel⟩
def t_Seller_must_wait (K : PySem.W.Frag) (A : Ad) : TS :=
  (Evl.tCut (tIfS (tTest (tOp rNe (tOp (rIxT K) (tVar 1) (tC (.int 0))) (tC (.str "wish")))) (tLock (tFor (iKeys (tFld K (tVar 0) "asked")) (gName 2) (tIfS (tTest (tOp (rEqD K) (tSl (rSlA K) (tDGet (tFld K (tVar 0) "asked") (tVar 2)) tNoPart (tPart (tC (.int 2)))) (tTup (tCons (tC (.str "change")) (tCons (tOp (rIxT K) (tVar 1) (tC (.int 1))) tNil))))) (tRet (tC (.bl true))) tNext))) tNext)
    (tSeq (tIfS (tTest (tOp rIsNon (tFld K (tVar 0) "closing") (tC .non))) (tRet (tC (.bl false))) tNext)
    (Evl.tCut (tAsg (tIf (tTest (tOp rEq (tOp (rIxT K) (tVar 1) (tC (.int 0))) (tC (.str "cancel")))) (tTup tNil) (tOp (rIxT K) (tVar 1) (tUn rNeg (tC (.int 1))))) (gName 3))
    (tSeq (tAsg (tOp rCat (tCB rListDT (tCons (tCl (sp_needs_of K A) (tCons (tVar 3) tNil)) tNil)) (tCB rListDT (tCons (tCl (sp_needs_of K A) (tCons (tMt A.Seller "voucher" (sp_Seller_voucher K A) (tVar 0) (tCons (tVar 1) tNil)) tNil)) tNil))) (gName 4))
    (tRet (tCB (rAny K) (tCons (tLc (iList K (tVar 4)) (gName 5) tYes (tOp (rInDT K) (tVar 5) (tFld K (tVar 0) "closing")) [5]) tNil)))))))
theorem pu_Seller_must_wait (T : Txt K mg A) {x0 x1 : V} {H : Hp} {Q : VK} (h : P_Seller_must_wait K A x0 x1 H Q) : t_Seller_must_wait K A { nx := fun _ H' => Q .non H', rt := Q } [some x0, some x1, none, none, none, none] H := by
  obtain ⟨s, S, num, M, d, rfl, x, dd, so, mo, dok, k⟩ := h
  have nd := x.nd
  have x' := x
  obtain ⟨⟨dx, sv, clv, e, dS, c⟩, al⟩ := x'
  obtain ⟨kvs, ek, rk⟩ := c.ask
  obtain ⟨a, xs, rfl, ea, q⟩ := deed_tup dd
  unfold t_Seller_must_wait
  refine g_cut (fun σ H' => (∃ v2, σ = [some (.ref s.p), some (.ref a), v2, none, none, none]) ∧ Fr [] H H' ∧ M.pd d = false) ?_ ?_
  · rcases deed_sort q with ⟨y, p, rfl, rfl, _⟩ | ⟨w, kk, rest, rfl, hw, hn⟩
    · walk_at "go"
      refine g_iteN (fun z => absurd rfl z) (fun _ => ?_)
      walk_at "go"
      exact ⟨⟨_, rfl⟩, Fr.refl, rfl⟩
    · have at0 : atI (.str w :: .int kk :: rest) 0 = some (V.str w) := atI_nat (show (V.str w :: V.int kk :: rest)[0]? = some _ from rfl)
      have at1 : atI (.str w :: .int kk :: rest) 1 = some (V.int kk) := atI_nat (show (V.str w :: V.int kk :: rest)[1]? = some _ from rfl)
      walk_at "go"
      refine g_ixT (SqT.of ea) at0 ?_
      walk_at "go"
      refine g_iteN (fun _ => ?_) (fun z => absurd z hw)
      refine g_lock ek trivial trivial fun od H1 f1 e1 => ?_
      have ep1 := f1.at e (nin1 nd.p_ask nin0)
      have ea1 := f1.tup _ _ ea
      walk_at "go"
      have hpd := pd_named (M := M) hn
      refine f_keysK (kvs := kvs) (fun i σ H' => (∃ v2, σ = [some (.ref s.p), some (.ref a), v2, none, none, none]) ∧ Fr [] H1 H' ∧ (M.ask.take i).any (fun e => isCh kk e.2) = false) ⟨⟨_, rfl⟩, Fr.refl, rfl⟩ (fun i σ H' _ ⟨_, f, _⟩ => f.at0 e1) ?_ ?_
      · rintro i key v σ H2 hi ⟨⟨v2, rfl⟩, f2, hno⟩
        obtain ⟨y, hy, rfl, _⟩ := DkR.get rk hi
        have ⟨z, hz, hyz⟩ : ∃ z, M.ask[i]? = some z ∧ (z.1, deedD z.2) = y := by
          unfold askT at hy
          rw [List.getElem?_map] at hy
          cases q : M.ask[i]? with
          | none => rw [q] at hy; cases hy
          | some z => rw [q] at hy; exact ⟨z, rfl, Option.some.inj hy⟩
        subst hyz
        have hl : lk M.ask z.1 = some z.2 := lk_mem mo.an (List.mem_of_getElem? hz)
        rcases DkR.look rk z.1 with ⟨h1, _⟩ | ⟨dv, zz, h1, h2, h3⟩
        · rw [hl] at h1; cases h1
        rw [hl] at h1
        cases h1
        have ep2 := f2.at0 ep1
        have ea2 := f2.tup _ _ ea1
        have ek2 := f2.at0 e1
        have dz2 := Da.frL (f1.then0 f2) h3 (imm_deed z.2)
        walk_at "go"
        refine g_rdgI (.inr ⟨_, ek2⟩) h2 ?_
        walk_at "go"
        refine g_slD dz2 fun w2 H3 f3 dw => ?_
        have ea3 := f3.tup _ _ ea2
        walk_at "go"
        refine g_ixT (SqT.of ea3) at1 ?_
        walk_at "go"
        rename_i t H4 n4 f4 e4
        refine g_eqDD (Da.frL f4 dw (imm_head _)) (.tup e4 (Nat.le_of_ble_eq_true rfl) (.cons (.str _) (.one' (.int _)))) (head_shaped _) (head_shaped (.change kk [])) ?_
        rw [head_eqv]
        walk_at "go"
        have tk : (M.ask.take (i + 1)).any (fun e => isCh kk e.2) = isCh kk z.2 := by rw [take_more hz, List.any_append, hno]; simp
        refine g_iteB (fun hch => ?_) (fun hch => ?_)
        · walk_at "go"
          rename_i H5 f5 e5
          have F : Fr [] H H5 := ((((f1.then0 f2).then0 f3).then0 f4).transL f5).back ek e5
          have hw : M.waits d = true := by
            rw [waits_def, hpd]
            have : M.pend kk = true := List.any_eq_true.mpr ⟨z, List.mem_of_getElem? hz, hch⟩
            rw [this]; rfl
          have := k H5 F
          rw [hw] at this
          exact this
        · walk_at "go"
          exact ⟨⟨_, rfl⟩, (f2.then0 f3).then0 f4, by rw [tk]; exact hch⟩
      · rintro σ H2 ⟨⟨v2, rfl⟩, f2, hno⟩
        have hkl : kvs.length = M.ask.length := by rw [rk.len]; unfold askT; rw [List.length_map]
        rw [hkl, List.take_length] at hno
        refine g_unlK (f2.at0 e1) fun H5 f5 e5 => ?_
        exact ⟨⟨_, rfl⟩, ((f1.then0 f2).transL f5).back ek e5, hpd.trans hno⟩
  · rintro σ H1 ⟨⟨v2, rfl⟩, f1, hp⟩
    have c1 := c.frm f1 fun _ _ => nin0
    have e1 := f1.at0 e
    have dc1 := c1.clv
    cases hc : M.cl with
    | none =>
      rw [hc] at dc1
      cases dc1
      walk_at "go"
      refine g_ite (fun _ => ?_) (fun z => absurd rfl z)
      walk_at "go"
      have hw : M.waits d = false := by rw [waits_def, hp]; unfold SM.shut; rw [hc]; rfl
      have := k H1 f1
      rw [hw] at this
      exact this
    | some cl =>
      rw [hc] at dc1
      have dcl := dc1
      obtain ⟨b, cs, rfl, eb, _, qb⟩ := dc1.tup1
      walk_at "go"
      refine g_ite (fun z => by cases z) (fun _ => ?_)
      walk_at "go"
      refine g_cut (fun σ H' => (∃ pv, σ = [some (.ref s.p), some (.ref a), v2, some pv, none, none] ∧ Da H' pv (partyD d.party)) ∧ Fr [] H1 H') ?_ ?_
      · have ea1 := f1.tup _ _ ea
        have q1 := DaL.frL f1 q (by cases d with
          | wish p => show (true && (imm (partyD p) && true)) = true; rw [imm_party]; rfl
          | cancel k => rfl
          | change k p => show (true && (true && (imm (partyD p) && true))) = true; rw [imm_party]; rfl)
        cases d with
        | wish p =>
          obtain ⟨x, y, rfl, d1, d2⟩ := q1.two
          cases d1.str1
          walk_at "go"
          refine g_ite (fun z => absurd z (by decide)) (fun _ => ?_)
          walk_at "go"
          exact ⟨⟨_, rfl, d2⟩, Fr.refl⟩
        | cancel kk =>
          obtain ⟨x, y, rfl, d1, d2⟩ := q1.two
          cases d1.str1
          walk_at "go"
          refine g_ite (fun _ => ?_) (fun z => absurd rfl z)
          walk_at "go"
          rename_i t H2 n2 f2 e2
          exact ⟨⟨_, rfl, .tup e2 (Nat.zero_le _) .nil⟩, f2⟩
        | change kk p =>
          obtain ⟨x, y, z, rfl, d1, d2, d3⟩ := q1.three
          cases d1.str1
          walk_at "go"
          refine g_ite (fun z => absurd z (by decide)) (fun _ => ?_)
          walk_at "go"
          exact ⟨⟨_, rfl, d3⟩, Fr.refl⟩
      · rintro σ H2 ⟨⟨pv, rfl, dp⟩, f2⟩
        obtain ⟨pa, ps, rfl, ep, dps⟩ := party_tup dp
        have hpo := dok.party
        have hoo := mo.old d
        have e2 := f2.at0 e1
        walk_at "go"
        refine c_needs_of ⟨pa, ps, d.party, rfl, ep, dps, SmallSt.of so hpo.1, Nat.le_trans hpo.2 (by decide), fun nq H3 n3 f3 e3 => ?_⟩
        walk_at "go"
        refine g_listDT e3 fun l1 bs1 H4 n4 f4 k4 e4 => ?_
        have F4 : Fr [] H H4 := ((f1.then0 f2).then0 f3).then0 f4
        have dc1 := keys_cells k4
        walk_at "go"
        refine c_Seller_voucher ⟨s, S, num, M, d, rfl, x.f0 F4, Da.frL F4 dd (imm_deed d), fun ov H5 f5 dv => ?_⟩
        obtain ⟨oa, os, rfl, eo, dos⟩ := party_tup dv
        walk_at "go"
        refine c_needs_of ⟨oa, os, M.old d, rfl, eo, dos, SmallSt.of so hoo.1, Nat.le_trans hoo.2 (by decide), fun nq2 H6 n6 f6 e6 => ?_⟩
        walk_at "go"
        refine g_listDT e6 fun l2 bs2 H7 n7 f7 k7 e7 => ?_
        have dc2 := keys_cells k7
        have F47 : Fr [] H4 H7 := (f5.then0 f6).then0 f7
        walk_at "go"
        have hl1 : (bs1.map V.ref).length ≤ 36 := by rw [dc1.len, List.length_map, List.length_map]; exact needs_le so hpo.1
        have hl2 : (bs2.map V.ref).length ≤ 36 := by rw [dc2.len, List.length_map, List.length_map]; exact needs_le so hoo.1
        refine g_cat (F47.at0 e4) e7 (Nat.le_of_lt (szM (by omega))) fun cl0 H8 n8 f8 e8 => ?_
        have i1 : ∀ m : List (Cell × Int), immL ((m.map (·.1)).map cellD) = true := fun m => immL_map imm_cell _
        have dcs : DaL H8 (bs1.map V.ref ++ bs2.map V.ref) ((cellsN d.party ++ cellsN (M.old d)).map cellD) := by
          rw [List.map_append]
          exact (DaL.frL ((f4.then0 F47).then0 f8) dc1 (i1 _)).append (DaL.frL (f7.then0 f8) dc2 (i1 _))
        have F8 : Fr [] H1 H8 := ((((f2.then0 f3).then0 f4).then0 F47).then0 f8)
        have e8p := F8.at0 e1
        have dcl8 := Da.frL F8 dcl (imm_cells cl)
        clear e2 F47 f3 f4 f5 f6 f7 f8 e3 e4 e6 e7 dc1 dc2 k4 k7 dos dps dv dp n3 n4 n6 n7 n8 F4 ep eo
        walk_at "go"
        refine l_list (xs := bs1.map V.ref ++ bs2.map V.ref) fun Dl H9 nD f9 e9 => ⟨fun i acc H' => acc = (((cellsN d.party ++ cellsN (M.old d)).take i).map fun c => decide (c ∈ cl)).map V.bl ∧ Fr [] H8 H', ⟨rfl, f9⟩, fun i acc H' q => SqL.of (q.2.at0 e8), fun i x acc H' hx ha ⟨ea', f⟩ => ?_, fun acc H' ha ⟨ea', f⟩ => ?_⟩
        · obtain ⟨cc, ca, hcc, rfl, eca⟩ := cells_get (DaL.frL f dcs (immL_map imm_cell _)) hx
          have ep' := f.at0 e8p
          walk_at "go"
          refine ⟨rfl, ?_⟩
          walk_at "go"
          refine g_inC (.tup eca (Nat.le_of_ble_eq_true rfl) (.cons (.int _) (.one' (.int _)))) (Da.frL f dcl8 (imm_cells cl)) ?_
          have hal : acc.length ≤ 100 := by rw [ea', List.length_map, List.length_map, List.length_take, ← List.length_map (f := cellD), ← dcs.len, List.length_append]; omega
          refine lcY_of ha (szM (by omega)) fun H2 f2 e2 => ⟨?_, f.own1 f2 nD⟩
          rw [ea', take_more hcc, List.map_append, List.map_append]; rfl
        · have hl : (bs1.map V.ref ++ bs2.map V.ref).length = (cellsN d.party ++ cellsN (M.old d)).length := by rw [dcs.len, List.length_map]
          rw [hl, List.take_length] at ea'
          rw [ea'] at ha
          walk_at "go"
          refine g_any (SqL.of ha) ?_
          have hw : M.waits d = (((cellsN d.party ++ cellsN (M.old d)).map fun c => decide (c ∈ cl)).any id) := by
            rw [waits_def, hp, Bool.false_or, List.any_map]; unfold SM.shut; rw [hc]; rfl
          have := k H' (f1.then0 (F8.then0 f))
          rw [hw] at this
          exact this
theorem ok_Seller_must_wait {f : Addr} {fd : FuncData} (F : Fun K "must_wait" "Seller.must_wait" s_Seller_must_wait f fd) (T : Txt K mg A) (c_needs_of : Cal P w K mg base "needs_of" 2 ["party"] (sp_needs_of K A)) (c_Seller_voucher : CalM P w K mg base A.Seller "voucher" 1 ["self", "deed"] (sp_Seller_voucher K A)) : FnOk P w K mg base CX0 (3) f fd ["self", "deed"] (sp_Seller_must_wait K A) := by
  refine F.ok sc_Seller_must_wait (fun vs H Q E h => ?_) (fun cdv Ar outer s H vs Q E hr h => ⟨t_Seller_must_wait K A, ?_, ?_⟩)
  · obtain ⟨x0, x1, rfl, _⟩ := h
    rfl
  · have hu := hu_of hr
    exact (Evl.pss_cut (ps_if (pt_cmpR op_ne (pe_ix ix_tup (pv 1) pe_int (fun _ _ => rfl)) pe_str (nomark _)) (pss_one (ps_lock (ps_for PassesOwn.never rfl (pi_keys (pe_fld (pv 0) rfl)) (pg_name (i := 2) sc_Seller_must_wait.nd rfl (Or.inl rfl)) (pss_one (ps_if (pt_cmpR (op_eqD hr.units) (pe_slice sl_tupA (pe_dget hu (pe_fld (pv 0) rfl) (pv 2) (fun _ _ => rfl)) po_none (po_some pe_int)) (pe_tup (pa_cons pe_str (pa_cons (pe_ix ix_tup (pv 1) pe_int (fun _ _ => rfl)) pa_nil))) (nomark _)) (pss_one (ps_ret pe_bl)) pss_nil))))) pss_nil)
    (pss_cons (ps_if (pt_cmpR c_isN (pe_fld (pv 0) rfl) pe_non (nomark _)) (pss_one (ps_ret pe_bl)) pss_nil)
    (Evl.pss_cut (ps_set (i := 3) sc_Seller_must_wait.nd rfl (Or.inl rfl) (pe_ifExp (pt_cmpR op_eq (pe_ix ix_tup (pv 1) pe_int (fun _ _ => rfl)) pe_str (nomark _)) (pe_tup pa_nil) (pe_ix ix_tup (pv 1) (pe_un un_neg pe_int) (fun _ _ => rfl))))
    (pss_cons (ps_set (i := 4) sc_Seller_must_wait.nd rfl (Or.inl rfl) (pe_op op_cat (pe_callTy (b_listDT rfl) (by rfl) T.b_list (by decide +kernel) (pa_cons (pe_cl c_needs_of (hr.mono (by first | decide | omega)) (by rfl) (pa_cons (pv 3) pa_nil)) pa_nil)) (pe_callTy (b_listDT rfl) (by rfl) T.b_list (by decide +kernel) (pa_cons (pe_cl c_needs_of (hr.mono (by first | decide | omega)) (by rfl) (pa_cons (pe_mt (pv 0) T.cl_Seller c_Seller_voucher (hr.mono (by first | decide | omega)) (pa_cons (pv 1) pa_nil)) pa_nil)) pa_nil))))
    (pss_one (ps_ret (pe_callB (cr_any rfl) (by rfl) T.b_any (by decide +kernel) (pa_cons (pe_lc (own := [("cell", 5)]) (g := (gName 5)) (tt := tYes) rfl sc_Seller_must_wait.nd (pi_list (pv 4)) (blkOk_by (N := ["self", "deed", "number", "party", "cells", "cell"]) (sc := defScope s_Seller_must_wait) (own := [("cell", 5)]) (by decide +kernel)) (fun _ _ _ _ _ => (pg_name (i := 5) sc_Seller_must_wait.nd rfl (Or.inl rfl))) (fun _ _ _ _ _ => pts_nil) (fun _ _ _ _ _ => (pe_cmpR (op_inDT hr.units) (pv 5) (pe_fld (pv 0) rfl) rfl))) pa_nil))))))))
  · obtain ⟨x0, x1, rfl, h⟩ := h
    exact pu_Seller_must_wait T h

/-! ### how much a seller keeps -/
structure SM.Sz (b : Nat) (M : SM) : Prop where
  bk : M.bk.length + M.wt.length ≤ b
  out : M.out.length + M.wt.length ≤ b
  told : M.told.length + M.wt.length ≤ b
  vo : M.vo.length + M.wt.length ≤ b
  ask : M.ask.length + M.wt.length ≤ b
theorem pt_len1 {κ α : Type} [DecidableEq κ] (m : List (κ × α)) (k : κ) (v : α) : (pt m k v).length ≤ m.length + 1 := by
  unfold pt
  split
  · rw [List.length_map]; exact Nat.le_succ _
  · rw [List.length_append]; exact Nat.le_refl _
theorem dr_len1 {κ α : Type} [DecidableEq κ] (m : List (κ × α)) (k : κ) : (dr m k).length ≤ m.length := List.length_filter_le ..
theorem SM.Sz.mono {b c : Nat} {M : SM} (s : M.Sz b) (h : b ≤ c) : M.Sz c := ⟨Nat.le_trans s.bk h, Nat.le_trans s.out h, Nat.le_trans s.told h, Nat.le_trans s.vo h, Nat.le_trans s.ask h⟩
theorem doit_sz {S : Setup} {b : Nat} {M : SM} {n : Int} {d : Deed} (s : M.Sz b) : (M.doit S n d).Sz (b + 1) := by
  obtain ⟨h1, h2, h3, h4, h5⟩ := s
  have deal : ∀ p o, (M.deal S n d p o).Sz (b + 1) := fun p o => by
    unfold SM.deal
    split
    · cases d with
      | wish q =>
        have := pt_len1 M.vo n q
        exact ⟨by simp [SM.tell, SM.keep, SM.row]; omega, by simp [SM.tell, SM.keep, SM.row]; omega, by simp [SM.tell, SM.keep, SM.row]; omega, by simp [SM.tell, SM.keep, SM.row]; omega, by simp [SM.tell, SM.keep, SM.row]; omega⟩
      | cancel k => exact ⟨by simp [SM.tell, SM.keep]; omega, by simp [SM.tell, SM.keep]; omega, by simp [SM.tell, SM.keep]; omega, by simp [SM.tell, SM.keep]; omega, by simp [SM.tell, SM.keep]; omega⟩
      | change k q =>
        have := pt_len1 M.vo k q
        exact ⟨by simp [SM.tell, SM.keep, SM.row]; omega, by simp [SM.tell, SM.keep, SM.row]; omega, by simp [SM.tell, SM.keep, SM.row]; omega, by simp [SM.tell, SM.keep, SM.row]; omega, by simp [SM.tell, SM.keep, SM.row]; omega⟩
    · have := pt_len1 M.ask n d
      exact ⟨by simp; omega, by simp; omega, by simp; omega, by simp; omega, by simp; omega⟩
  have tl : (M.tell n false).Sz (b + 1) := ⟨by simp [SM.tell]; omega, by simp [SM.tell]; omega, by simp [SM.tell]; omega, by simp [SM.tell]; omega, by simp [SM.tell]; omega⟩
  cases d with
  | wish p => exact deal p []
  | cancel k =>
    show SM.Sz (b + 1) (match lk M.vo k with | none => _ | some o => _)
    cases lk M.vo k with
    | none => exact tl
    | some o =>
      have := dr_len1 M.vo k
      exact ⟨by simp [SM.tell, SM.row]; omega, by simp [SM.tell, SM.row]; omega, by simp [SM.tell, SM.row]; omega, by simp [SM.tell, SM.row]; omega, by simp [SM.tell, SM.row]; omega⟩
  | change k p =>
    show SM.Sz (b + 1) (match lk M.vo k with | none => _ | some o => _)
    cases lk M.vo k with
    | none => exact tl
    | some o => exact deal p o
theorem again_sz {S : Setup} {b : Nat} {M : SM} {e : Int × Deed} (s : M.Sz b) : (M.again S e).Sz (b + 1) := by
  unfold SM.again
  split
  · obtain ⟨h1, h2, h3, h4, h5⟩ := s
    exact ⟨by simp; omega, by simp; omega, by simp; omega, by simp; omega, by simp; omega⟩
  · exact doit_sz s
theorem agains_sz {S : Setup} : ∀ (l : List (Int × Deed)) {b : Nat} {M : SM}, M.Sz b → (l.foldl (SM.again S) M).Sz (b + l.length)
  | [], _, _, s => s
  | e :: l, b, _, s => by
    have := agains_sz (S := S) l (again_sz (S := S) (e := e) s)
    rw [List.length_cons, show b + (l.length + 1) = b + 1 + l.length by omega]
    exact this
theorem asked_sz {S : Setup} {b : Nat} {M : SM} {d : Deed} (s : M.Sz b) : (M.asked S d).Sz (b + 1) := by
  unfold SM.asked
  show SM.Sz (b + 1) (if M.waits d = true then _ else _)
  split
  · obtain ⟨h1, h2, h3, h4, h5⟩ := s
    exact ⟨by simp; omega, by simp; omega, by simp; omega, by simp; omega, by simp; omega⟩
  · exact doit_sz (M := { M with n := M.n + 1 }) ⟨s.bk, s.out, s.told, s.vo, s.ask⟩
theorem answered_sz {S : Setup} {b : Nat} {M : SM} {n : Int} {g : Bool} (s : M.Sz b) : (M.answered S n g).Sz (b + 1) := by
  unfold SM.answered
  cases lk M.ask n with
  | none => exact s.mono (Nat.le_succ _)
  | some d =>
    obtain ⟨h1, h2, h3, h4, h5⟩ := s
    have := dr_len1 M.ask n
    cases g with
    | false => exact ⟨by simp [SM.tell]; omega, by simp [SM.tell]; omega, by simp [SM.tell]; omega, by simp [SM.tell]; omega, by simp [SM.tell]; omega⟩
    | true =>
      cases d with
      | wish q =>
        have := pt_len1 M.vo n q
        exact ⟨by simp [SM.tell, SM.keep, SM.row]; omega, by simp [SM.tell, SM.keep, SM.row]; omega, by simp [SM.tell, SM.keep, SM.row]; omega, by simp [SM.tell, SM.keep, SM.row]; omega, by simp [SM.tell, SM.keep, SM.row]; omega⟩
      | cancel k => exact ⟨by simp [SM.tell, SM.keep]; omega, by simp [SM.tell, SM.keep]; omega, by simp [SM.tell, SM.keep]; omega, by simp [SM.tell, SM.keep]; omega, by simp [SM.tell, SM.keep]; omega⟩
      | change k q =>
        have := pt_len1 M.vo k q
        exact ⟨by simp [SM.tell, SM.keep, SM.row]; omega, by simp [SM.tell, SM.keep, SM.row]; omega, by simp [SM.tell, SM.keep, SM.row]; omega, by simp [SM.tell, SM.keep, SM.row]; omega, by simp [SM.tell, SM.keep, SM.row]; omega⟩
theorem reopen_sz {S : Setup} {b : Nat} {M : SM} {cs : List Int} {an : Option (Int × Bool)} (s : M.Sz b) : (M.reopen S cs an).Sz (b + 1) := by
  have go : ∀ {M2 : SM}, M2.Sz (b + 1) → (M2.wt.foldl (SM.again S) { M2 with wt := [] }).Sz (b + 1) := fun {M2} z => by
    obtain ⟨h1, h2, h3, h4, h5⟩ := z
    have hb : b + 1 - M2.wt.length + M2.wt.length = b + 1 := by omega
    have := agains_sz (S := S) M2.wt (b := b + 1 - M2.wt.length) (M := { M2 with wt := [] }) ⟨by simp; omega, by simp; omega, by simp; omega, by simp; omega, by simp; omega⟩
    rw [hb] at this
    exact this
  unfold SM.reopen
  have s1 : SM.Sz b { M with fr := addZ M.fr ((M.cl.getD []).zip cs), cl := none } := ⟨s.bk, s.out, s.told, s.vo, s.ask⟩
  cases an with
  | none => exact go (s1.mono (Nat.le_succ _))
  | some a => exact go (answered_sz s1)
theorem shandle_sz {S : Setup} {b : Nat} {M : SM} {x : DnB} (s : M.Sz b) : (M.handle S x).Sz (b + 1) := by
  cases x with
  | give c => exact ⟨Nat.le_succ_of_le s.bk, Nat.le_succ_of_le s.out, Nat.le_succ_of_le s.told, Nat.le_succ_of_le s.vo, Nat.le_succ_of_le s.ask⟩
  | close cs =>
    obtain ⟨h1, h2, h3, h4, h5⟩ := s
    exact ⟨by simp [SM.handle, SM.close]; omega, by simp [SM.handle, SM.close]; omega, by simp [SM.handle, SM.close]; omega, by simp [SM.handle, SM.close]; omega, by simp [SM.handle, SM.close]; omega⟩
  | opn cs an => exact reopen_sz s
  | want c =>
    show SM.Sz (b + 1) (if 0 < M.fr c then _ else _)
    split
    · obtain ⟨h1, h2, h3, h4, h5⟩ := s
      exact ⟨by simp; omega, by simp; omega, by simp; omega, by simp; omega, by simp; omega⟩
    · exact s.mono (Nat.le_succ _)

theorem csN_cells (m : List (Cell × Int)) : (csN m).map intsD = (m.map (·.1)).map cellD := by
  unfold csN
  rw [List.map_map, List.map_map]; rfl
theorem val_nd {p : List Stay} {c : Cell} : ((valV (cD (needsL p)) (ck c)).getD (.int 0)) = .int (nd p c) := by
  rw [val_cell]
  unfold nd
  cases lk (needsL p) c <;> rfl
theorem val_nd1 {p : List Stay} {c : Cell} (h : c ∈ cellsN p) : valV (cD (needsL p)) (ck c) = some (.int (nd p c)) := by
  obtain ⟨e, he, rfl⟩ := List.mem_map.mp h
  have h1 := lk_mem (needs_nd p) he
  rw [val_cell, h1]
  unfold nd
  rw [h1]; rfl
theorem scell_nd (p : List Stay) : (scell (cellsN p)).Nodup := (scell_perm _).nodup_iff.mpr (needs_nd p)
theorem lack_keys {p o : List Stay} {l : List Cell} {e : Cell × Int} (h : e ∈ l.filterMap (lackC1 p o)) : e.1 ∈ l := by
  obtain ⟨c, hc, q⟩ := List.mem_filterMap.mp h
  unfold lackC1 at q
  split at q
  · cases q; exact hc
  · cases q
theorem lack_nd (p o : List Stay) : ∀ {l : List Cell}, l.Nodup → Nd (l.filterMap (lackC1 p o))
  | [], _ => List.nodup_nil
  | c :: l, h => by
    obtain ⟨h1, h2⟩ := List.nodup_cons.mp h
    have ih := lack_nd p o h2
    rw [List.filterMap_cons]
    cases q : lackC1 p o c with
    | none => exact ih
    | some e =>
      have : e.1 = c := by
        unfold lackC1 at q
        split at q
        · cases q; rfl
        · cases q
      refine List.nodup_cons.mpr ⟨fun z => ?_, ih⟩
      obtain ⟨e', he', z'⟩ := List.mem_map.mp z
      have z2 : e'.1 = e.1 := z'
      exact h1 (by rw [← this, ← z2]; exact lack_keys he')
theorem lackL_ok {S : Setup} (so : SetupOk S) {p o : List Stay} (hp : PtyOk S p) : ∀ e ∈ lackL p o, CellOk S e.1 := fun e he => by
  obtain ⟨x, hx, z⟩ := List.mem_map.mp ((scell_perm _).mem_iff.mp (lack_keys he))
  rw [← z]; exact cell_ok so hp.1 hx
theorem lackL_len {S : Setup} (so : SetupOk S) {p o : List Stay} (hp : PtyOk S p) : (lackL p o).length ≤ 36 := by
  refine Nat.le_trans (List.length_filterMap_le _ _) ?_
  rw [(scell_perm _).length_eq]
  unfold cellsN
  rw [List.length_map]
  exact needs_le so hp.1
def P_Seller_lack (K : PySem.W.Frag) (A : Ad) (x0 x1 : V) (H : Hp) (Q : VK) : Prop := ∃ (s : SP) (S : Setup) (num : Int) (M : SM) (d : Deed), x0 = .ref s.p ∧ SellerAt A H s S num M ∧ Da H x1 (deedD d) ∧ SetupOk S ∧ M.Ok S ∧ DeedOk S d ∧ (∀ k, d ≠ .cancel k) ∧
  ∀ (p : Addr) (H' : Hp), H p = none → Fr [] H H' → H' p = some (.dT (cD (lackL d.party (M.old d)))) → Q (.ref p) H'
def sp_Seller_lack (K : PySem.W.Frag) (A : Ad) : Sp := fun vs H Q _ => ∃ x0 x1, vs = [x0, x1] ∧ P_Seller_lack K A x0 x1 H Q
theorem c_Seller_lack {K : PySem.W.Frag} {A : Ad} {x0 x1 : V} {H : Hp} {Q : VK} {E : XK} (h : P_Seller_lack K A x0 x1 H Q) : sp_Seller_lack K A [x0, x1] H Q E := ⟨_, _, rfl, h⟩
theorem sc_Seller_lack : FnScope ["self", "deed", "needs", "old", "lack", "cell"] ["self", "deed"] (defScope s_Seller_lack) := ⟨rfl, rfl, rfl, by decide +kernel, rfl, by decide +kernel, by decide +kernel⟩
def t_Seller_lack (K : PySem.W.Frag) (A : Ad) : TS :=
  (tSeq (tAsg (tCl (sp_needs_of K A) (tCons (tOp (rIxT K) (tVar 1) (tUn rNeg (tC (.int 1)))) tNil)) (gName 2))
    (tSeq (tAsg (tCl (sp_needs_of K A) (tCons (tMt A.Seller "voucher" (sp_Seller_voucher K A) (tVar 0) (tCons (tVar 1) tNil)) tNil)) (gName 3))
    (tSeq (tAsg tDNewT (gName 4))
    (tSeq (tFor (iList K (tCB rSortedDT (tCons (tVar 2) tNil))) (gName 5) (tIfS (tTest (tOp cGt (tDGet (tVar 2) (tVar 5)) (tDGet2 (tVar 3) (tVar 5) (tC (.int 0))))) (sDPut (tVar 4) (tVar 5) (tOp oSub (tDGet (tVar 2) (tVar 5)) (tDGet2 (tVar 3) (tVar 5) (tC (.int 0))))) tNext))
    (tRet (tVar 4))))))
theorem pu_Seller_lack (T : Txt K mg A) {x0 x1 : V} {H : Hp} {Q : VK} (h : P_Seller_lack K A x0 x1 H Q) : t_Seller_lack K A { nx := fun _ H' => Q .non H', rt := Q } [some x0, some x1, none, none, none, none] H := by
  obtain ⟨s, S, num, M, d, rfl, x, dd, so, mo, dok, nc, k⟩ := h
  obtain ⟨a, xs, rfl, ea, q⟩ := deed_tup dd
  have ⟨pv, hl, dpv⟩ : ∃ pv, atI xs (-1) = some pv ∧ Da H pv (partyD d.party) := by
    cases d with
    | wish p => obtain ⟨x, y, rfl, d1, d2⟩ := q.two; exact ⟨y, rfl, d2⟩
    | cancel kk => exact absurd rfl (nc kk)
    | change kk p => obtain ⟨x, y, z, rfl, d1, d2, d3⟩ := q.three; exact ⟨z, rfl, d3⟩
  obtain ⟨pa, ps, rfl, ep, dps⟩ := party_tup dpv
  have hpo := dok.party
  have hoo := mo.old d
  obtain ⟨⟨dx, sv, clv, e, dS, c⟩, al⟩ := id x
  unfold t_Seller_lack
  walk_at "go"
  refine g_ixT (SqT.of ea) hl ?_
  walk_at "go"
  refine c_needs_of ⟨pa, ps, d.party, rfl, ep, dps, SmallSt.of so hpo.1, Nat.le_trans hpo.2 (by decide), fun nq H1 n1 f1 e1 => ?_⟩
  have ep1 := f1.at0 e
  walk_at "go"
  refine c_Seller_voucher ⟨s, S, num, M, d, rfl, x.f0 f1, Da.frL f1 dd (imm_deed d), fun ov H2 f2 dv => ?_⟩
  obtain ⟨oa, os, rfl, eo, dos⟩ := party_tup dv
  walk_at "go"
  refine c_needs_of ⟨oa, os, M.old d, rfl, eo, dos, SmallSt.of so hoo.1, Nat.le_trans hoo.2 (by decide), fun nq2 H3 n3 f3 e3 => ?_⟩
  walk_at "go"
  rename_i lq H4 n4 f4 e4
  have en4 := f4.at0 ((f2.then0 f3).at0 e1)
  have eo4 := f4.at0 e3
  refine g_sortedDT (csN (needsL d.party)) en4 (csN_keys _) (csN_alike _) (csN_sortable _) (csN_small _) fun sl H5 ys n5 f5 e5 dy => ?_
  have dy : DaL H5 ys ((scell (cellsN d.party)).map cellD) := by rw [csN_cells, ← scell_map] at dy; exact dy
  have en5 := f5.at0 en4
  have eo5 := f5.at0 eo4
  have el5 := f5.at0 e4
  have nlq : H lq = none := f1.free (f2.free (f3.free n4))
  have F5 : Fr [] H H5 := (((f1.then0 f2).then0 f3).then0 f4).then0 f5
  have nnl : nq ≠ lq := ne_of_none ((f2.then0 f3).at0 e1) n4
  have nol : nq2 ≠ lq := ne_of_none e3 n4
  have nsl : sl ≠ lq := fun z => by rw [z, e4] at n5; cases n5
  clear f1 f2 f3 f4 f5 e1 e3 e4 en4 eo4 n1 n3 n4 n5 dos dv eo
  walk_at "go"
  refine f_list (xs := ys) (fun i σ H' => (∃ v5, σ = [some (.ref s.p), some (.ref a), some (.ref nq), some (.ref nq2), some (.ref lq), v5]) ∧ Fr [lq] H5 H' ∧ H' lq = some (.dT (cD (((scell (cellsN d.party)).take i).filterMap (lackC1 d.party (M.old d)))))) ⟨⟨_, rfl⟩, Fr.refl, el5⟩ (fun i σ H' _ ⟨_, f, _⟩ => SqL.of (f.at e5 (nin1 nsl nin0))) ?_ ?_
  · rintro i y σ H6 hy ⟨⟨v5, rfl⟩, f6, e6⟩
    obtain ⟨cc, ca, hcc, rfl, eca⟩ := cells_get (DaL.frL f6 dy (immL_map imm_cell _)) hy
    have en6 := f6.at en5 (nin1 nnl nin0)
    have eo6 := f6.at eo5 (nin1 nol nin0)
    have hcm : cc ∈ cellsN d.party := (scell_perm _).mem_iff.mp (List.mem_of_getElem? hcc)
    have tk := take_more hcc
    walk_at "go"
    refine g_rdg (k := ck cc) (.inl en6) eca (val_nd1 hcm) ?_
    walk_at "go"
    refine g_dgo (k := ck cc) (.inl eo6) eca ?_
    rw [val_nd]
    walk_at "go"
    refine g_ite (fun hlt => ?_) (fun hlt => ?_)
    · walk_at "go"
      refine g_rdg (k := ck cc) (.inl en6) eca (val_nd1 hcm) ?_
      walk_at "go"
      refine g_dgo (k := ck cc) (.inl eo6) eca ?_
      rw [val_nd]
      walk_at "go"
      refine g_rdp (k := ck cc) e6 eca (szM ?_) fun H7 f7 e7 => ?_
      · rw [enD_len]
        refine Nat.le_trans (List.length_filterMap_le _ _) (Nat.le_trans (List.length_take_le' _ _) ?_)
        rw [(scell_perm _).length_eq]
        unfold cellsN
        rw [List.length_map]
        exact Nat.le_trans (needs_le so hpo.1) (by decide)
      walk_at "go"
      refine ⟨⟨_, rfl⟩, f6.transL f7, ?_⟩
      have ni : cc ∉ (scell (cellsN d.party)).take i := by
        have := (scell_nd d.party).sublist (List.take_sublist (i + 1) _)
        rw [tk] at this
        exact fun z => (List.nodup_append.mp this).2.2 cc z cc (by simp) rfl
      have hc1 : lackC1 d.party (M.old d) cc = some (cc, nd d.party cc - nd (M.old d) cc) := by unfold lackC1; rw [if_pos hlt]
      rw [e7, put_cell, pt_new (fun z => by obtain ⟨e', he', z'⟩ := List.mem_map.mp z; have z2 : e'.1 = cc := z'; exact ni (by rw [← z2]; exact lack_keys he')), tk, List.filterMap_append, List.filterMap_cons, hc1]
      rfl
    · walk_at "go"
      refine ⟨⟨_, rfl⟩, f6, ?_⟩
      have hc1 : lackC1 d.party (M.old d) cc = none := by unfold lackC1; rw [if_neg hlt]
      rw [e6, tk, List.filterMap_append, List.filterMap_cons, hc1, List.filterMap_nil, List.append_nil]
  · rintro σ H6 ⟨⟨v5, rfl⟩, f6, e6⟩
    have hl : ys.length = (scell (cellsN d.party)).length := by rw [dy.len, List.length_map]
    rw [hl, List.take_length] at e6
    walk_at "go"
    exact k lq H6 nlq (F5.own1 f6 nlq) e6
theorem ok_Seller_lack {f : Addr} {fd : FuncData} (F : Fun K "lack" "Seller.lack" s_Seller_lack f fd) (T : Txt K mg A) (c_needs_of : Cal P w K mg base "needs_of" 2 ["party"] (sp_needs_of K A)) (c_Seller_voucher : CalM P w K mg base A.Seller "voucher" 1 ["self", "deed"] (sp_Seller_voucher K A)) : FnOk P w K mg base CX0 (3) f fd ["self", "deed"] (sp_Seller_lack K A) := by
  refine F.ok sc_Seller_lack (fun vs H Q E h => ?_) (fun cdv Ar outer s H vs Q E hr h => ⟨t_Seller_lack K A, ?_, ?_⟩)
  · obtain ⟨x0, x1, rfl, _⟩ := h
    rfl
  · have hu := hu_of hr
    exact (pss_cons (ps_set (i := 2) sc_Seller_lack.nd rfl (Or.inl rfl) (pe_cl c_needs_of (hr.mono (by first | decide | omega)) (by rfl) (pa_cons (pe_ix ix_tup (pv 1) (pe_un un_neg pe_int) (fun _ _ => rfl)) pa_nil)))
    (pss_cons (ps_set (i := 3) sc_Seller_lack.nd rfl (Or.inl rfl) (pe_cl c_needs_of (hr.mono (by first | decide | omega)) (by rfl) (pa_cons (pe_mt (pv 0) T.cl_Seller c_Seller_voucher (hr.mono (by first | decide | omega)) (pa_cons (pv 1) pa_nil)) pa_nil)))
    (pss_cons (ps_set (i := 4) sc_Seller_lack.nd rfl (Or.inl rfl) pe_dnewT)
    (pss_cons (ps_for PassesOwn.never rfl (pi_list (pe_callB (b_sortedDT rfl hr.units) (by rfl) T.b_sorted (by decide +kernel) (pa_cons (pv 2) pa_nil))) (pg_name (i := 5) sc_Seller_lack.nd rfl (Or.inl rfl)) (pss_one (ps_if (pt_cmpR c_gt (pe_dget hu (pv 2) (pv 5) (fun _ _ => rfl)) (pe_dget2 hu (pv 3) (pv 5) pe_int ⟨rfl, rfl, rfl, rfl⟩) (nomark _)) (pss_one (ps_dput hu (pv 4) (pv 5) (pe_op o_sub (pe_dget hu (pv 2) (pv 5) (fun _ _ => rfl)) (pe_dget2 hu (pv 3) (pv 5) pe_int ⟨rfl, rfl, rfl, rfl⟩)) rfl)) pss_nil)))
    (pss_one (ps_ret (pv 4)))))))
  · obtain ⟨x0, x1, rfl, h⟩ := h
    exact pu_Seller_lack T h
def addM (f : Cell → Int) (z : Int) (m : List (Cell × Int)) : Cell → Int := fun c => f c + z * (lk m c).getD 0
theorem addM_nil (f : Cell → Int) (z : Int) : addM f z [] = f := funext fun c => by unfold addM; show f c + z * 0 = f c; rw [Int.mul_zero, Int.add_zero]
theorem lk_app {κ α : Type} [DecidableEq κ] (m : List (κ × α)) (e : κ × α) (c : κ) : lk (m ++ [e]) c = match lk m c with | some v => some v | none => if e.1 = c then some e.2 else none := by
  induction m with
  | nil => rw [List.nil_append, lk_cons]; rfl
  | cons x m ih =>
    rw [List.cons_append, lk_cons, lk_cons, ih]
    split <;> rfl
theorem addM_snoc (f : Cell → Int) (z : Int) {m : List (Cell × Int)} {e : Cell × Int} (h : e.1 ∉ m.map (·.1)) : fset (addM f z m) e.1 (addM f z m e.1 + z * e.2) = addM f z (m ++ [e]) := funext fun c => by
  have h0 := lk_none h
  unfold fset addM
  rw [lk_app]
  by_cases q : c = e.1
  · subst q; rw [if_pos rfl, h0]; simp
  · rw [if_neg q]
    cases lk m c with
    | some v => rfl
    | none => simp [Ne.symm q]
def P_Seller_add (K : PySem.W.Frag) (A : Ad) (x0 x1 x2 : V) (H : Hp) (Q : VK) : Prop := ∃ (s : SP) (S : Setup) (num : Int) (M : SM) (n : Addr) (m : List (Cell × Int)) (z : Int), x0 = .ref s.p ∧ SellerAt A H s S num M ∧ x1 = .ref n ∧ x2 = .int z ∧ H n = some (.dT (cD m)) ∧ n ∉ s.os ∧ SetupOk S ∧ Nd m ∧ (∀ e ∈ m, CellOk S e.1) ∧ (-1 ≤ z ∧ z ≤ 1) ∧
  ∀ H' : Hp, Fr [s.fr] H H' → SellerAt A H' s S num { M with fr := addM M.fr z m } → Q .non H'
def sp_Seller_add (K : PySem.W.Frag) (A : Ad) : Sp := fun vs H Q _ => ∃ x0 x1 x2, vs = [x0, x1, x2] ∧ P_Seller_add K A x0 x1 x2 H Q
theorem c_Seller_add {K : PySem.W.Frag} {A : Ad} {x0 x1 x2 : V} {H : Hp} {Q : VK} {E : XK} (h : P_Seller_add K A x0 x1 x2 H Q) : sp_Seller_add K A [x0, x1, x2] H Q E := ⟨_, _, _, rfl, h⟩
theorem sc_Seller_add : FnScope ["self", "needs", "many", "cell"] ["self", "needs", "many"] (defScope s_Seller_add) := ⟨rfl, rfl, rfl, by decide +kernel, rfl, by decide +kernel, by decide +kernel⟩
def t_Seller_add (K : PySem.W.Frag) (A : Ad) : TS :=
  (tLock (tFor (iKeys (tVar 1)) (gName 3) (sDAug (tFld K (tVar 0) "free") (tVar 3) (tOp oMul (tVar 2) (tDGet (tVar 1) (tVar 3))) rAdd)))
theorem pu_Seller_add (T : Txt K mg A) {x0 x1 x2 : V} {H : Hp} {Q : VK} (h : P_Seller_add K A x0 x1 x2 H Q) : t_Seller_add K A { nx := fun _ H' => Q .non H', rt := Q } [some x0, some x1, some x2, none] H := by
  obtain ⟨s, S, num, M, n, m, z, rfl, x, rfl, rfl, en, nn, so, mn, mk, ⟨hz1, hz2⟩, k⟩ := h
  have nd := x.nd
  have nnp : s.p ≠ n := fun q => nn (by rw [← q]; simp [SP.os])
  have nnf : s.fr ≠ n := fun q => nn (by rw [← q]; simp [SP.os])
  obtain ⟨⟨dx, sv, clv, e, dS, c⟩, al⟩ := id x
  unfold t_Seller_add
  refine g_lock en trivial trivial fun od H1 f1 e1 => ?_
  have ep1 := f1.at e (nin1 nnp nin0)
  have ef1 := f1.at c.fr (nin1 nnf nin0)
  walk_at "go"
  refine f_keysT (kvs := cD m) (fun i σ H' => (∃ v3, σ = [some (.ref s.p), some (.ref n), some (.int z), v3]) ∧ Fr [s.fr] H1 H' ∧ H' s.fr = some (.dT (cD (stT S (addM M.fr z (m.take i)))))) ⟨⟨_, rfl⟩, Fr.refl, by rw [List.take_zero, addM_nil]; exact ef1⟩ (fun i σ H' _ ⟨_, f, _⟩ => f.at e1 (nin1 nnf.symm nin0)) ?_ ?_
  · rintro i kk v q σ H2 hi hq ⟨⟨v3, rfl⟩, f2, e2⟩
    obtain ⟨y, hy, rfl, rfl⟩ := cD_get hi
    have hyk := mk y (List.mem_of_getElem? hy)
    have ep2 := f2.at ep1 (nin1 nd.p_fr nin0)
    have en2 := f2.at e1 (nin1 nnf.symm nin0)
    have hyl : lk m y.1 = some y.2 := lk_mem mn (List.mem_of_getElem? hy)
    walk_at "go"
    refine g_stA so hyk e2 hq ?_
    walk_at "go"
    refine g_rdg (k := ck y.1) (.inr ⟨_, en2⟩) hq (v := .int y.2) (by rw [val_cell, hyl]; rfl) ?_
    walk_at "go"
    refine g_stP so hyk e2 hq fun H3 f3 e3 => ?_
    have tk := take_more hy
    have ni : y.1 ∉ (m.take i).map (·.1) := fun w => by
      have h1 : ((m.take (i + 1)).map (·.1)).Nodup := mn.sublist ((List.take_sublist (i + 1) m).map _)
      rw [tk, List.map_append] at h1
      exact (List.nodup_append.mp h1).2.2 _ w _ (List.mem_singleton.mpr rfl) rfl
    refine ⟨⟨_, rfl⟩, f2.transL f3, ?_⟩
    rw [e3, tk, ← addM_snoc M.fr z ni]
  · rintro σ H2 ⟨⟨v3, rfl⟩, f2, e2⟩
    have hl : (cD m).length = m.length := enD_len _
    rw [hl, List.take_length] at e2
    walk_at "go"
    rename_i H3 f3 e3
    have F : Fr [s.fr] H H3 := Fr.back1 (((f1.mono (by simp) : Fr [n, s.fr] H H1).transL (f2.mono (by simp))).transL (f3.mono (by simp))) en e3
    exact k H3 F (x.w_fr F (f3.at e2 (nin1 nnf nin0)))
theorem ok_Seller_add {f : Addr} {fd : FuncData} (F : Fun K "add" "Seller.add" s_Seller_add f fd) (T : Txt K mg A)  : FnOk P w K mg base CX0 (1) f fd ["self", "needs", "many"] (sp_Seller_add K A) := by
  refine F.ok sc_Seller_add (fun vs H Q E h => ?_) (fun cdv Ar outer s H vs Q E hr h => ⟨t_Seller_add K A, ?_, ?_⟩)
  · obtain ⟨x0, x1, x2, rfl, _⟩ := h
    rfl
  · have hu := hu_of hr
    exact (pss_one (ps_lock (ps_for PassesOwn.never rfl (pi_keys (pv 1)) (pg_name (i := 3) sc_Seller_add.nd rfl (Or.inl rfl)) (pss_one (ps_daug hu (pe_fld (pv 0) rfl) (pv 3) (pe_op o_mul (pv 2) (pe_dget hu (pv 1) (pv 3) (fun _ _ => rfl))) in_add (fun _ _ _ => rfl))))))
  · obtain ⟨x0, x1, x2, rfl, h⟩ := h
    exact pu_Seller_add T h
def P_Seller_prices (K : PySem.W.Frag) (A : Ad) (x0 x1 : V) (H : Hp) (Q : VK) : Prop := ∃ (s : SP) (S : Setup) (num : Int) (M : SM) (p : List Stay), x0 = .ref s.p ∧ SellerAt A H s S num M ∧ Da H x1 (partyD p) ∧ SetupOk S ∧ PtyOk S p ∧
  ∀ (t : Addr) (H' : Hp), Fr [] H H' → H' t = some (.tup [.int (priceS S p), .int (keptS S p)]) → Q (.ref t) H'
def sp_Seller_prices (K : PySem.W.Frag) (A : Ad) : Sp := fun vs H Q _ => ∃ x0 x1, vs = [x0, x1] ∧ P_Seller_prices K A x0 x1 H Q
theorem c_Seller_prices {K : PySem.W.Frag} {A : Ad} {x0 x1 : V} {H : Hp} {Q : VK} {E : XK} (h : P_Seller_prices K A x0 x1 H Q) : sp_Seller_prices K A [x0, x1] H Q E := ⟨_, _, rfl, h⟩
theorem sc_Seller_prices : FnScope ["self", "party"] ["self", "party"] (defScope s_Seller_prices) := ⟨rfl, rfl, rfl, by decide +kernel, rfl, by decide +kernel, by decide +kernel⟩
def t_Seller_prices (K : PySem.W.Frag) (A : Ad) : TS :=
  (tRet (tTup (tCons (tCl (sp_price_of K A) (tCons (tFld K (tVar 0) "setup") (tCons (tVar 1) tNil))) (tCons (tCl (sp_kept_of K A) (tCons (tFld K (tVar 0) "setup") (tCons (tVar 1) tNil))) tNil))))
theorem pu_Seller_prices (T : Txt K mg A) {x0 x1 : V} {H : Hp} {Q : VK} (h : P_Seller_prices K A x0 x1 H Q) : t_Seller_prices K A { nx := fun _ H' => Q .non H', rt := Q } [some x0, some x1] H := by
  obtain ⟨s, S, num, M, p, rfl, x, dp, so, po, k⟩ := h
  obtain ⟨⟨dx, sv, clv, e, dS, c⟩, al⟩ := id x
  obtain ⟨a, xs, rfl, ea, dxs⟩ := party_tup dp
  unfold t_Seller_prices
  walk_at "go"
  refine c_price_of ⟨S, a, xs, p, so, dS, rfl, ea, dxs, po.1, Nat.le_trans po.2 (by decide), fun H1 f1 => ?_⟩
  have e1 := f1.at0 e
  have ip : immL (p.map stayD) = true := imm_party p
  walk_at "go"
  refine c_kept_of ⟨S, a, xs, p, so, Da.frL f1 dS (imm_setup S), rfl, f1.tup _ _ ea, DaL.frL f1 dxs ip, po.1, Nat.le_trans po.2 (by decide), fun H2 f2 => ?_⟩
  walk_at "go"
  rename_i t H3 n3 f3 e3
  exact k t H3 ((f1.then0 f2).then0 f3) e3
theorem ok_Seller_prices {f : Addr} {fd : FuncData} (F : Fun K "prices" "Seller.prices" s_Seller_prices f fd) (T : Txt K mg A) (c_price_of : Cal P w K mg base "price_of" 3 ["setup", "party"] (sp_price_of K A)) (c_kept_of : Cal P w K mg base "kept_of" 3 ["setup", "party"] (sp_kept_of K A)) : FnOk P w K mg base CX0 (4) f fd ["self", "party"] (sp_Seller_prices K A) := by
  refine F.ok sc_Seller_prices (fun vs H Q E h => ?_) (fun cdv Ar outer s H vs Q E hr h => ⟨t_Seller_prices K A, ?_, ?_⟩)
  · obtain ⟨x0, x1, rfl, _⟩ := h
    rfl
  · have hu := hu_of hr
    exact (pss_one (ps_ret (pe_tup (pa_cons (pe_cl c_price_of (hr.mono (by first | decide | omega)) (by rfl) (pa_cons (pe_fld (pv 0) rfl) (pa_cons (pv 1) pa_nil))) (pa_cons (pe_cl c_kept_of (hr.mono (by first | decide | omega)) (by rfl) (pa_cons (pe_fld (pv 0) rfl) (pa_cons (pv 1) pa_nil))) pa_nil)))))
  · obtain ⟨x0, x1, rfl, h⟩ := h
    exact pu_Seller_prices T h
def P_Seller_write (K : PySem.W.Frag) (A : Ad) (x0 x1 : V) (H : Hp) (Q : VK) : Prop := ∃ (s : SP) (S : Setup) (num : Int) (M : SM) (r : Row), x0 = .ref s.p ∧ SellerAt A H s S num M ∧ Da H x1 (rowB r) ∧ M.Sz 100000 ∧
  ∀ H' : Hp, Fr [s.bk, s.out] H H' → SellerAt A H' s S num (M.row r) → Q .non H'
def sp_Seller_write (K : PySem.W.Frag) (A : Ad) : Sp := fun vs H Q _ => ∃ x0 x1, vs = [x0, x1] ∧ P_Seller_write K A x0 x1 H Q
theorem c_Seller_write {K : PySem.W.Frag} {A : Ad} {x0 x1 : V} {H : Hp} {Q : VK} {E : XK} (h : P_Seller_write K A x0 x1 H Q) : sp_Seller_write K A [x0, x1] H Q E := ⟨_, _, rfl, h⟩
theorem sc_Seller_write : FnScope ["self", "row"] ["self", "row"] (defScope s_Seller_write) := ⟨rfl, rfl, rfl, by decide +kernel, rfl, by decide +kernel, by decide +kernel⟩
def t_Seller_write (K : PySem.W.Frag) (A : Ad) : TS :=
  (tSeq (tDrop (tBM K "list" rAppend (tFld K (tVar 0) "book") (tCons (tVar 1) tNil)))
    (tDrop (tBM K "list" rAppend (tFld K (tVar 0) "outgoing") (tCons (tTup (tCons (tC (.str "entry")) (tCons (tVar 1) tNil))) tNil))))
theorem pu_Seller_write (T : Txt K mg A) {x0 x1 : V} {H : Hp} {Q : VK} (h : P_Seller_write K A x0 x1 H Q) : t_Seller_write K A { nx := fun _ H' => Q .non H', rt := Q } [some x0, some x1] H := by
  obtain ⟨s, S, num, M, r, rfl, x, dr, sz, k⟩ := h
  have nd := x.nd
  obtain ⟨⟨dx, sv, clv, e, dS, c⟩, al⟩ := id x
  obtain ⟨ib, bs, eb, db⟩ := c.bk
  obtain ⟨io, os, eo, dox⟩ := c.out
  have hb : bs.length ≤ 200000 := by rw [db.len, List.length_map]; have := sz.bk; omega
  have ho : os.length ≤ 200000 := by rw [dox.len, List.length_map]; have := sz.out; omega
  unfold t_Seller_write
  walk_at "go"
  rename_i H1 f1 e1
  have ep1 := f1.at e (nin1 nd.p_bk nin0)
  have eo1 := f1.at eo (nin1 nd.bk_out.symm nin0)
  have x1' := x.w_bk (v := M.bk ++ [r]) f1 (by rw [List.map_append]; exact LsAt.snoc db ib dr (imm_rowB r) f1 e1)
  have dr1 := Da.frL f1 dr (imm_rowB r)
  walk_at "go"
  rename_i t H2 n2 f2 e2 H3 f3 e3
  refine k H3 (((f1.mono (by simp) : Fr [s.bk, s.out] H H1).then0 f2).transL (f3.mono (by simp))) ?_
  refine (x1'.f0 f2).w_out (v := M.out ++ [.entry r]) f3 ?_
  rw [List.map_append]
  exact LsAt.snoc (DaL.frL f2 (DaL.frL f1 dox io) io) io (.tup e2 (Nat.le_of_ble_eq_true rfl) (.cons (.str _) (.one' (Da.frL f2 dr1 (imm_rowB r))))) (imm_up _) f3 e3
theorem ok_Seller_write {f : Addr} {fd : FuncData} (F : Fun K "write" "Seller.write" s_Seller_write f fd) (T : Txt K mg A)  : FnOk P w K mg base CX0 (1) f fd ["self", "row"] (sp_Seller_write K A) := by
  refine F.ok sc_Seller_write (fun vs H Q E h => ?_) (fun cdv Ar outer s H vs Q E hr h => ⟨t_Seller_write K A, ?_, ?_⟩)
  · obtain ⟨x0, x1, rfl, _⟩ := h
    rfl
  · have hu := hu_of hr
    exact (pss_cons (ps_expr (pe_bm PySem.F.plainAttrs_list PySem.F.slot_list_append PySem.F.type_list_append mt_append (pe_fld (pv 0) rfl) (pa_cons (pv 1) pa_nil)))
    (pss_one (ps_expr (pe_bm PySem.F.plainAttrs_list PySem.F.slot_list_append PySem.F.type_list_append mt_append (pe_fld (pv 0) rfl) (pa_cons (pe_tup (pa_cons pe_str (pa_cons (pv 1) pa_nil))) pa_nil)))))
  · obtain ⟨x0, x1, rfl, h⟩ := h
    exact pu_Seller_write T h

theorem SP.m_p (s : SP) : s.p ∈ s.os := by simp [SP.os]
theorem SP.m_fr (s : SP) : s.fr ∈ s.os := by simp [SP.os]
theorem SP.m_vo (s : SP) : s.vo ∈ s.os := by simp [SP.os]
theorem SP.m_bk (s : SP) : s.bk ∈ s.os := by simp [SP.os]
theorem SP.m_ask (s : SP) : s.ask ∈ s.os := by simp [SP.os]
theorem SP.m_wt (s : SP) : s.wt ∈ s.os := by simp [SP.os]
theorem SP.m_out (s : SP) : s.out ∈ s.os := by simp [SP.os]
theorem SP.m_told (s : SP) : s.told ∈ s.os := by simp [SP.os]
theorem addM_needs (f : Cell → Int) (p : List Stay) : addM f 1 (needsL p) = fun c => f c + nd p c := funext fun c => by unfold addM nd; rw [Int.one_mul]
theorem needs_cells {S : Setup} (so : SetupOk S) {p : List Stay} (hp : PtyOk S p) : ∀ e ∈ needsL p, CellOk S e.1 := fun e he => cell_ok so hp.1 he
theorem vo_len {H : Hp} {kvs : List (Key × V)} {m : List (Int × List Stay)} (r : DkR H kvs (voD m)) : kvs.length = m.length := by rw [r.len]; unfold voD; rw [List.length_map]
theorem SellerAt.parts {A : Ad} {H : Hp} {s : SP} {S : Setup} {num : Int} {M : SM} (x : SellerAt A H s S num M) : ∃ dx sv clv, H s.p = some (.ins A.Seller dx (F_Seller sv num s.fr s.vo s.bk clv s.ask s.wt M.n s.out s.told)) ∧ Da H sv (setupD S) ∧ SCore H S s clv M := x.1
theorem SellerAt.nin {A : Ad} {H : Hp} {s : SP} {S : Setup} {num : Int} {M : SM} (x : SellerAt A H s S num M) {a : Addr} (n : H a = none) : a ∉ s.os := x.2.nin n
def P_Seller_cancel (K : PySem.W.Frag) (A : Ad) (x0 x1 x2 : V) (H : Hp) (Q : VK) : Prop := ∃ (s : SP) (S : Setup) (num : Int) (M : SM) (n k : Int) (o : List Stay), x0 = .ref s.p ∧ SellerAt A H s S num M ∧ x1 = .int n ∧ x2 = .int k ∧ lk M.vo k = some o ∧ SetupOk S ∧ M.Ok S ∧ M.Sz 99000 ∧
  SStep A H s S num (SM.tell n true (SM.row (canR S k o) { M with fr := fun c => M.fr c + nd o c, vo := dr M.vo k })) (fun H' => Q .non H')
def sp_Seller_cancel (K : PySem.W.Frag) (A : Ad) : Sp := fun vs H Q _ => ∃ x0 x1 x2, vs = [x0, x1, x2] ∧ P_Seller_cancel K A x0 x1 x2 H Q
theorem c_Seller_cancel {K : PySem.W.Frag} {A : Ad} {x0 x1 x2 : V} {H : Hp} {Q : VK} {E : XK} (h : P_Seller_cancel K A x0 x1 x2 H Q) : sp_Seller_cancel K A [x0, x1, x2] H Q E := ⟨_, _, _, rfl, h⟩
theorem sc_Seller_cancel : FnScope ["self", "number", "voucher", "party"] ["self", "number", "voucher"] (defScope s_Seller_cancel) := ⟨rfl, rfl, rfl, by decide +kernel, rfl, by decide +kernel, by decide +kernel⟩
def t_Seller_cancel (K : PySem.W.Frag) (A : Ad) : TS :=
  (tSeq (tAsg (tDPop1 (tFld K (tVar 0) "vouchers") (tVar 2)) (gName 3))
    (tSeq (tDrop (tMt A.Seller "add" (sp_Seller_add K A) (tVar 0) (tCons (tCl (sp_needs_of K A) (tCons (tVar 3) tNil)) (tCons (tC (.int 1)) tNil))))
    (tSeq (tDrop (tMt A.Seller "write" (sp_Seller_write K A) (tVar 0) (tCons (tOp (rCatT K) (tTup (tCons (tC (.str "cancelled")) (tCons (tVar 2) tNil))) (tMt A.Seller "prices" (sp_Seller_prices K A) (tVar 0) (tCons (tVar 3) tNil))) tNil)))
    (tDrop (tBM K "list" rAppend (tFld K (tVar 0) "told") (tCons (tTup (tCons (tVar 1) (tCons (tC (.bl true)) tNil))) tNil))))))
theorem pu_Seller_cancel (T : Txt K mg A) {x0 x1 x2 : V} {H : Hp} {Q : VK} (h : P_Seller_cancel K A x0 x1 x2 H Q) : t_Seller_cancel K A { nx := fun _ H' => Q .non H', rt := Q } [some x0, some x1, some x2, none] H := by
  obtain ⟨s, S, num, M, n, k, o, rfl, x, rfl, rfl, ho, so, mo, sz, kk⟩ := h
  have nd0 := x.nd
  obtain ⟨dx, sv, clv, e, dS, c⟩ := x.parts
  obtain ⟨kvs, ev, rv⟩ := c.vo
  have hoo : PtyOk S o := mo.vk _ (lk_some ho)
  rcases DkR.look rv k with ⟨h1, _⟩ | ⟨pv, z, h1, h2, h3⟩
  · rw [ho] at h1; cases h1
  rw [ho] at h1
  cases h1
  unfold t_Seller_cancel
  walk_at "go"
  refine g_rpopI ev h2 fun H1 f1 e1 => ?_
  have x1 := x.w_vo (v := dr M.vo k) f1 ⟨_, e1, by unfold voD; rw [← dr_mp]; exact (rv.fr f1).drop k⟩
  have dp1 := Da.frL f1 h3 (imm_party o)
  obtain ⟨pa, ps, rfl, ep, dps⟩ := party_tup dp1
  obtain ⟨dx1, sv1, clv1, e1p, _, _⟩ := x1.parts
  walk_at "go"
  refine c_needs_of ⟨pa, ps, o, rfl, ep, dps, SmallSt.of so hoo.1, Nat.le_trans hoo.2 (by decide), fun nq H2 n2 f2 e2 => ?_⟩
  walk_at "go"
  refine c_Seller_add ⟨s, S, num, _, nq, needsL o, 1, rfl, x1.f0 f2, rfl, rfl, e2, x1.nin n2, so, needs_nd o, needs_cells so hoo, ⟨by decide, by decide⟩, fun H3 f3 x3 => ?_⟩
  obtain ⟨dx3, sv3, clv3, e3p, _, _⟩ := x3.parts
  have dp3 := Da.frL f3 (Da.frL f2 dp1 (imm_party o)) (imm_party o)
  walk_at "go"
  rename_i t H4 n4 f4 e4
  have e4p := f4.at0 e3p
  walk_at "go"
  refine c_Seller_prices ⟨s, S, num, _, o, rfl, x3.f0 f4, Da.frL f4 dp3 (imm_party o), so, hoo, fun t2 H5 f5 e5 => ?_⟩
  refine g_catT (SqT.of (f5.at0 e4)) (SqT.of e5) (by simp) (Nat.le_of_ble_eq_true rfl) (fun z => by cases z) (fun _ t3 H6 n6 f6 e6 => ?_)
  have x6 := ((x3.f0 f4).f0 f5).f0 f6
  obtain ⟨dx6, sv6, clv6, e6p, _, _⟩ := x6.parts
  walk_at "go"
  have hvl := dr_len1 M.vo k
  refine c_Seller_write ⟨s, S, num, _, canR S k o, rfl, x6, .tup e6 (Nat.le_of_ble_eq_true rfl) (.cons (.str _) (.cons (.int _) (.cons (.int _) (.one' (.int _))))), ⟨Nat.le_trans sz.bk (by decide), Nat.le_trans sz.out (by decide), Nat.le_trans sz.told (by decide), by have := sz.vo; show (dr M.vo k).length + M.wt.length ≤ _; omega, Nat.le_trans sz.ask (by decide)⟩, fun H7 f7 x7 => ?_⟩
  obtain ⟨dx7, sv7, clv7, e7p, _, c7⟩ := x7.parts
  obtain ⟨it, ts, et, dt⟩ := c7.told
  have htl : ts.length ≤ 200000 := by rw [dt.len, List.length_map]; have := sz.told; show M.told.length ≤ _; omega
  walk_at "go"
  rename_i t8 H8 n8 f8 e8 H9 f9 e9
  have x9 := (x7.f0 f8).w_told (v := M.told ++ [(n, true)]) f9 (by rw [List.map_append]; exact LsAt.snoc (DaL.frL f8 dt it) it (.tup e8 (Nat.le_of_ble_eq_true rfl) (.cons (.int _) (.one' (.bl _)))) rfl f9 e9)
  refine kk H9 ?_ ?_
  · exact (((((((((f1.in1 s.m_vo).then0 f2).transL (f3.in1 s.m_fr)).then0 f4).then0 f5).then0 f6).transL (f7.in2 s.m_bk s.m_out)).then0 f8).transL (f9.in1 s.m_told))
  · have h := x9
    rw [addM_needs] at h
    exact h
theorem ok_Seller_cancel {f : Addr} {fd : FuncData} (F : Fun K "cancel" "Seller.cancel" s_Seller_cancel f fd) (T : Txt K mg A) (c_Seller_add : CalM P w K mg base A.Seller "add" 1 ["self", "needs", "many"] (sp_Seller_add K A)) (c_Seller_write : CalM P w K mg base A.Seller "write" 1 ["self", "row"] (sp_Seller_write K A)) (c_needs_of : Cal P w K mg base "needs_of" 2 ["party"] (sp_needs_of K A)) (c_Seller_prices : CalM P w K mg base A.Seller "prices" 4 ["self", "party"] (sp_Seller_prices K A)) : FnOk P w K mg base CX0 (5) f fd ["self", "number", "voucher"] (sp_Seller_cancel K A) := by
  refine F.ok sc_Seller_cancel (fun vs H Q E h => ?_) (fun cdv Ar outer s H vs Q E hr h => ⟨t_Seller_cancel K A, ?_, ?_⟩)
  · obtain ⟨x0, x1, x2, rfl, _⟩ := h
    rfl
  · have hu := hu_of hr
    exact (pss_cons (ps_set (i := 3) sc_Seller_cancel.nd rfl (Or.inl rfl) (pe_dpop1 (pe_fld (pv 0) rfl) (pv 2) ⟨rfl, rfl, rfl, rfl⟩))
    (pss_cons (ps_expr (pe_mt (pv 0) T.cl_Seller c_Seller_add (hr.mono (by first | decide | omega)) (pa_cons (pe_cl c_needs_of (hr.mono (by first | decide | omega)) (by rfl) (pa_cons (pv 3) pa_nil)) (pa_cons pe_int pa_nil))))
    (pss_cons (ps_expr (pe_mt (pv 0) T.cl_Seller c_Seller_write (hr.mono (by first | decide | omega)) (pa_cons (pe_op op_catT (pe_tup (pa_cons pe_str (pa_cons (pv 2) pa_nil))) (pe_mt (pv 0) T.cl_Seller c_Seller_prices (hr.mono (by first | decide | omega)) (pa_cons (pv 3) pa_nil))) pa_nil)))
    (pss_one (ps_expr (pe_bm PySem.F.plainAttrs_list PySem.F.slot_list_append PySem.F.type_list_append mt_append (pe_fld (pv 0) rfl) (pa_cons (pe_tup (pa_cons (pv 1) (pa_cons pe_bl pa_nil))) pa_nil)))))))
  · obtain ⟨x0, x1, x2, rfl, h⟩ := h
    exact pu_Seller_cancel T h
def spM (f : Cell → Int) (p : List Stay) (m : List (Cell × Int)) : Cell → Int := fun c => f c + match lk m c with
  | some v => max 0 (v - nd p c)
  | none => 0
theorem spM_nil (f : Cell → Int) (p : List Stay) : spM f p [] = f := funext fun c => by show f c + 0 = f c; omega
theorem spM_snoc (f : Cell → Int) (p : List Stay) {m : List (Cell × Int)} {e : Cell × Int} (h : e.1 ∉ m.map (·.1)) : fset (spM f p m) e.1 (spM f p m e.1 + max 0 (e.2 - nd p e.1)) = spM f p (m ++ [e]) := funext fun c => by
  have h0 := lk_none h
  unfold fset spM
  rw [lk_app]
  by_cases q : c = e.1
  · subst q; rw [if_pos rfl, h0]; simp
  · rw [if_neg q]
    cases lk m c with
    | some v => rfl
    | none => simp [Ne.symm q]
theorem spM_needs (f : Cell → Int) (p o : List Stay) : spM f p (needsL o) = fun c => f c + max 0 (nd o c - nd p c) := funext fun c => by
  unfold spM
  have h := nd_pos p c
  have e : nd o c = (lk (needsL o) c).getD 0 := rfl
  cases q : lk (needsL o) c with
  | some v => rw [e, q]; rfl
  | none =>
    rw [e, q]
    show f c + 0 = f c + max 0 (0 - nd p c)
    omega
/-- the state behind a keeping -/
def SM.kept (S : Setup) (n : Int) (d : Deed) (M : SM) : SM := SM.keep S n d { M with fr := fun c => M.fr c + max 0 (nd (M.old d) c - nd d.party c) }
def P_Seller_keep (K : PySem.W.Frag) (A : Ad) (x0 x1 x2 : V) (H : Hp) (Q : VK) : Prop := ∃ (s : SP) (S : Setup) (num : Int) (M : SM) (n : Int) (d : Deed), x0 = .ref s.p ∧ SellerAt A H s S num M ∧ x1 = .int n ∧ Da H x2 (deedD d) ∧ SetupOk S ∧ M.Ok S ∧ DeedOk S d ∧ AskOk M.vo d ∧ M.Sz 99000 ∧
  SStep A H s S num (M.kept S n d) (fun H' => Q .non H')
def sp_Seller_keep (K : PySem.W.Frag) (A : Ad) : Sp := fun vs H Q _ => ∃ x0 x1 x2, vs = [x0, x1, x2] ∧ P_Seller_keep K A x0 x1 x2 H Q
theorem c_Seller_keep {K : PySem.W.Frag} {A : Ad} {x0 x1 x2 : V} {H : Hp} {Q : VK} {E : XK} (h : P_Seller_keep K A x0 x1 x2 H Q) : sp_Seller_keep K A [x0, x1, x2] H Q E := ⟨_, _, _, rfl, h⟩
theorem sc_Seller_keep : FnScope ["self", "number", "deed", "party", "old", "needs", "spare", "cell"] ["self", "number", "deed"] (defScope s_Seller_keep) := ⟨rfl, rfl, rfl, by decide +kernel, rfl, by decide +kernel, by decide +kernel⟩
def t_Seller_keep (K : PySem.W.Frag) (A : Ad) : TS :=
  (tSeq (tAsg (tOp (rIxT K) (tVar 2) (tUn rNeg (tC (.int 1)))) (gName 3))
    (tSeq (tIfS (tTest (tOp rEq (tOp (rIxT K) (tVar 2) (tC (.int 0))) (tC (.str "wish")))) (tSeq (sDPut (tFld K (tVar 0) "vouchers") (tVar 1) (tVar 3))
    (tSeq (tDrop (tMt A.Seller "write" (sp_Seller_write K A) (tVar 0) (tCons (tOp (rCatT K) (tTup (tCons (tC (.str "sold")) (tCons (tVar 1) (tCons (tVar 3) tNil)))) (tMt A.Seller "prices" (sp_Seller_prices K A) (tVar 0) (tCons (tVar 3) tNil))) tNil)))
    tRetN)) tNext)
    (tSeq (tAsg (tDGet (tFld K (tVar 0) "vouchers") (tOp (rIxT K) (tVar 2) (tC (.int 1)))) (gName 4))
    (tSeq (tAsg (tCl (sp_needs_of K A) (tCons (tVar 3) tNil)) (gName 5))
    (tSeq (tAsg (tCl (sp_needs_of K A) (tCons (tVar 4) tNil)) (gName 6))
    (tSeq (tLock (tFor (iKeys (tVar 6)) (gName 7) (sDAug (tFld K (tVar 0) "free") (tVar 7) (tCB rMax2 (tCons (tC (.int 0)) (tCons (tOp oSub (tDGet (tVar 6) (tVar 7)) (tDGet2 (tVar 5) (tVar 7) (tC (.int 0)))) tNil))) rAdd)))
    (tSeq (sDPut (tFld K (tVar 0) "vouchers") (tOp (rIxT K) (tVar 2) (tC (.int 1))) (tVar 3))
    (tDrop (tMt A.Seller "write" (sp_Seller_write K A) (tVar 0) (tCons (tOp (rCatT K) (tOp (rCatT K) (tTup (tCons (tC (.str "changed")) (tCons (tOp (rIxT K) (tVar 2) (tC (.int 1))) (tCons (tVar 3) tNil)))) (tMt A.Seller "prices" (sp_Seller_prices K A) (tVar 0) (tCons (tVar 3) tNil))) (tMt A.Seller "prices" (sp_Seller_prices K A) (tVar 0) (tCons (tVar 4) tNil))) tNil))))))))))
theorem pu_Seller_keep (T : Txt K mg A) {x0 x1 x2 : V} {H : Hp} {Q : VK} (h : P_Seller_keep K A x0 x1 x2 H Q) : t_Seller_keep K A { nx := fun _ H' => Q .non H', rt := Q } [some x0, some x1, some x2, none, none, none, none, none] H := by
  obtain ⟨s, S, num, M, n, d, rfl, x, rfl, dd, so, mo, dok, ak, sz, kk⟩ := h
  have nd0 := x.nd
  obtain ⟨dx, sv, clv, e, dS, c⟩ := x.parts
  obtain ⟨kvs, ev, rv⟩ := c.vo
  have hvl : kvs.length ≤ 200000 := by rw [vo_len rv]; have := sz.vo; omega
  obtain ⟨a, xs, rfl, ea, q⟩ := deed_tup dd
  unfold t_Seller_keep
  cases d with
  | cancel k => exact absurd ak id
  | wish p =>
    obtain ⟨w, y, rfl, d1, d2⟩ := q.two
    cases d1.str1
    have hpo : PtyOk S p := dok
    walk_at "go"
    refine g_ite (fun _ => ?_) (fun z => absurd rfl z)
    walk_at "go"
    refine g_rdpI ev (szM (by omega)) fun H1 f1 e1 => ?_
    have x1 := x.w_vo (v := pt M.vo n p) f1 ⟨_, e1, by unfold voD; rw [← pt_mp]; exact (rv.fr f1).put n (Da.frL f1 d2 (imm_party p)) (imm_party p)⟩
    have dp1 := Da.frL f1 d2 (imm_party p)
    obtain ⟨dx1, sv1, clv1, e1p, _, _⟩ := x1.parts
    walk_at "go"
    rename_i t H4 n4 f4 e4
    have e4p := f4.at0 e1p
    walk_at "go"
    refine c_Seller_prices ⟨s, S, num, _, p, rfl, x1.f0 f4, Da.frL f4 dp1 (imm_party p), so, hpo, fun t2 H5 f5 e5 => ?_⟩
    refine g_catT (SqT.of (f5.at0 e4)) (SqT.of e5) (by simp) (Nat.le_of_ble_eq_true rfl) (fun z => by cases z) (fun _ t3 H6 n6 f6 e6 => ?_)
    have x6 := ((x1.f0 f4).f0 f5).f0 f6
    obtain ⟨dx6, sv6, clv6, e6p, _, _⟩ := x6.parts
    have dp6 := Da.frL ((f4.then0 f5).then0 f6) dp1 (imm_party p)
    walk_at "go"
    have hpl := pt_len1 M.vo n p
    refine c_Seller_write ⟨s, S, num, _, soldR S n p, rfl, x6, .tup e6 (Nat.le_of_ble_eq_true rfl) (.cons (.str _) (.cons (.int _) (.cons dp6 (.cons (.int _) (.one' (.int _)))))), ⟨Nat.le_trans sz.bk (by decide), Nat.le_trans sz.out (by decide), Nat.le_trans sz.told (by decide), by have := sz.vo; show (pt M.vo n p).length + M.wt.length ≤ _; omega, Nat.le_trans sz.ask (by decide)⟩, fun H7 f7 x7 => ?_⟩
    walk_at "go"
    refine kk H7 ?_ ?_
    · exact (((f1.in1 s.m_vo).then0 f4).then0 f5).then0 f6 |>.transL (f7.in2 s.m_bk s.m_out)
    · have hz : (fun c => M.fr c + max 0 (nd (M.old (.wish p)) c - nd (Deed.wish p).party c)) = M.fr := funext fun c => by
        have h := nd_pos p c
        show M.fr c + max 0 (0 - nd p c) = M.fr c
        omega
      unfold SM.kept
      rw [hz]
      exact x7
  | change k p =>
    obtain ⟨w, y, z, rfl, d1, d2, d3⟩ := q.three
    cases d1.str1
    cases d2.int1
    have hpo : PtyOk S p := dok
    walk_at "go"
    refine g_ite (fun z => absurd z (by decide)) (fun _ => ?_)
    walk_at "go"
    have hso : (lk M.vo k).isSome = true := ak
    rcases DkR.look rv k with ⟨h1, _⟩ | ⟨pv, o, h1, h2, h3⟩
    · rw [h1] at hso; cases hso
    have hoo : PtyOk S o := mo.vk _ (lk_some h1)
    refine g_rdgI (.inl ev) h2 ?_
    obtain ⟨pa, ps, rfl, ep, dps⟩ := party_tup d3
    obtain ⟨oa, os, rfl, eo, dos⟩ := party_tup h3
    walk_at "go"
    refine c_needs_of ⟨pa, ps, p, rfl, ep, dps, SmallSt.of so hpo.1, Nat.le_trans hpo.2 (by decide), fun nq H1 n1 f1 e1 => ?_⟩
    walk_at "go"
    refine c_needs_of ⟨oa, os, o, rfl, f1.tup _ _ eo, DaL.frL f1 dos (imm_party o), SmallSt.of so hoo.1, Nat.le_trans hoo.2 (by decide), fun sq H2 n2 f2 e2 => ?_⟩
    have x2 := (x.f0 f1).f0 f2
    obtain ⟨dx2, sv2, clv2, e2p, _, c2⟩ := x2.parts
    have en2 := f2.at0 e1
    have F2 : Fr [] H H2 := f1.then0 f2
    have ns : sq ∉ s.os := (x.f0 f1).nin n2
    have nsf : s.fr ≠ sq := fun q => ns (by rw [← q]; exact s.m_fr)
    have nsp : s.p ≠ sq := fun q => ns (by rw [← q]; exact s.m_p)
    have nnq : nq ∉ s.os := x.nin n1
    have nqf : nq ≠ s.fr := fun q => nnq (by rw [q]; exact s.m_fr)
    have nqs : nq ≠ sq := ne_of_none e1 n2
    refine g_lock e2 trivial trivial fun od H3 f3 e3 => ?_
    have ep3 := f3.at e2p (nin1 nsp nin0)
    have ef3 := f3.at c2.fr (nin1 nsf nin0)
    have en3 := f3.at en2 (nin1 nqs nin0)
    walk_at "go"
    refine f_keysT (kvs := cD (needsL o)) (fun i σ H' => (∃ v7, σ = [some (.ref s.p), some (.int n), some (.ref a), some (.ref pa), some (.ref oa), some (.ref nq), some (.ref sq), v7]) ∧ Fr [s.fr] H3 H' ∧ H' s.fr = some (.dT (cD (stT S (spM M.fr p ((needsL o).take i)))))) ⟨⟨_, rfl⟩, Fr.refl, by rw [List.take_zero, spM_nil]; exact ef3⟩ (fun i σ H' _ ⟨_, f, _⟩ => f.at e3 (nin1 nsf.symm nin0)) ?_ ?_
    · rintro i ke v q σ H4 hi hq ⟨⟨v7, rfl⟩, f4, e4⟩
      obtain ⟨y, hy, rfl, rfl⟩ := cD_get hi
      have hyk := needs_cells so hoo y (List.mem_of_getElem? hy)
      have ep4 := f4.at ep3 (nin1 nd0.p_fr nin0)
      have es4 := f4.at e3 (nin1 nsf.symm nin0)
      have en4 := f4.at en3 (nin1 nqf nin0)
      have hyl : lk (needsL o) y.1 = some y.2 := lk_mem (needs_nd o) (List.mem_of_getElem? hy)
      walk_at "go"
      refine g_stA so hyk e4 hq ?_
      walk_at "go"
      refine g_rdg (k := ck y.1) (.inr ⟨_, es4⟩) hq (v := .int y.2) (by rw [val_cell, hyl]; rfl) ?_
      walk_at "go"
      refine g_dgo (k := ck y.1) (.inl en4) hq ?_
      rw [val_nd]
      walk_at "go"
      have hmx : (if y.2 - nd p y.1 > 0 then y.2 - nd p y.1 else 0) = max 0 (y.2 - nd p y.1) := by
        split <;> omega
      rw [hmx]
      refine g_stP so hyk e4 hq fun H5 f5 e5 => ?_
      have tk := take_more hy
      have ni : y.1 ∉ ((needsL o).take i).map (·.1) := fun w => by
        have h1 : (((needsL o).take (i + 1)).map (·.1)).Nodup := (needs_nd o).sublist ((List.take_sublist (i + 1) (needsL o)).map _)
        rw [tk, List.map_append] at h1
        exact (List.nodup_append.mp h1).2.2 _ w _ (List.mem_singleton.mpr rfl) rfl
      refine ⟨⟨_, rfl⟩, f4.transL f5, ?_⟩
      rw [e5, tk, ← spM_snoc M.fr p ni]
    · rintro σ H4 ⟨⟨v7, rfl⟩, f4, e4⟩
      have hl : (cD (needsL o)).length = (needsL o).length := enD_len _
      rw [hl, List.take_length, spM_needs] at e4
      refine g_unlK (f4.at e3 (nin1 nsf.symm nin0)) fun H5 f5 e5 => ?_
      have F5 : Fr [s.fr] H2 H5 := Fr.back1 (((f3.mono (by simp) : Fr [sq, s.fr] H2 H3).transL (f4.mono (by simp))).transL (f5.mono (by simp))) e2 e5
      have x5 := x2.w_fr F5 (f5.at e4 (nin1 nsf nin0))
      obtain ⟨dx5, sv5, clv5, e5p, _, c5⟩ := x5.parts
      have G5 : Fr [s.fr] H H5 := F5.pre0' F2
      have ea5 := G5.tup _ _ ea
      have ev5 := G5.at ev (nin1 nd0.fr_vo.symm nin0)
      have rv5 := rv.fr G5
      have dn5 := Da.frL G5 d3 (imm_party p)
      have do5 := Da.frL G5 h3 (imm_party o)
      clear f1 f2 f3 f4 f5 e1 e2 e3 e4 e5 en2 en3 ep3 ef3 F2 e2p c2 x2 n1 n2
      walk_at "go"
      refine g_rdpI ev5 (szM (by omega)) fun H6 f6 e6 => ?_
      have x6 := x5.w_vo (v := pt M.vo k p) f6 ⟨_, e6, by unfold voD; rw [← pt_mp]; exact (rv5.fr f6).put k (Da.frL f6 dn5 (imm_party p)) (imm_party p)⟩
      have dn6 := Da.frL f6 dn5 (imm_party p)
      have do6 := Da.frL f6 do5 (imm_party o)
      have ea6 := f6.tup _ _ ea5
      obtain ⟨dx6, sv6, clv6, e6p, _, _⟩ := x6.parts
      walk_at "go"
      rename_i t H7 n7 f7 e7
      have e7p := f7.at0 e6p
      walk_at "go"
      refine c_Seller_prices ⟨s, S, num, _, p, rfl, x6.f0 f7, Da.frL f7 dn6 (imm_party p), so, hpo, fun t2 H8 f8 e8 => ?_⟩
      refine g_catT (SqT.of (f8.at0 e7)) (SqT.of e8) (by simp) (Nat.le_of_ble_eq_true rfl) (fun z => by cases z) (fun _ t3 H9 n9 f9 e9 => ?_)
      have F9 := (f7.then0 f8).then0 f9
      have x9 := x6.f0 F9
      obtain ⟨dx9, sv9, clv9, e9p, _, _⟩ := x9.parts
      walk_at "go"
      refine c_Seller_prices ⟨s, S, num, _, o, rfl, x9, Da.frL F9 do6 (imm_party o), so, hoo, fun t4 H10 f10 e10 => ?_⟩
      refine g_catT (SqT.of (f10.at0 e9)) (SqT.of e10) (by simp) (Nat.le_of_ble_eq_true rfl) (fun z => by cases z) (fun _ t5 H11 n11 f11 e11 => ?_)
      have F11 := (F9.then0 f10).then0 f11
      have x11 := x6.f0 F11
      obtain ⟨dx11, sv11, clv11, e11p, _, _⟩ := x11.parts
      walk_at "go"
      have hpl := pt_len1 M.vo k p
      refine c_Seller_write ⟨s, S, num, _, chgR S k p o, rfl, x11, .tup e11 (Nat.le_of_ble_eq_true rfl) (.cons (.str _) (.cons (.int _) (.cons (Da.frL F11 dn6 (imm_party p)) (.cons (.int _) (.cons (.int _) (.cons (.int _) (.one' (.int _)))))))), ⟨Nat.le_trans sz.bk (by decide), Nat.le_trans sz.out (by decide), Nat.le_trans sz.told (by decide), by have := sz.vo; show (pt M.vo k p).length + M.wt.length ≤ _; omega, Nat.le_trans sz.ask (by decide)⟩, fun H12 f12 x12 => ?_⟩
      walk_at "go"
      refine kk H12 ?_ ?_
      · exact (((G5.in1 s.m_fr).transL (f6.in1 s.m_vo)).then0 F11).transL (f12.in2 s.m_bk s.m_out)
      · have hz : SM.kept S n (.change k p) M = SM.row (chgR S k p o) { M with fr := fun c => M.fr c + max 0 (nd o c - nd p c), vo := pt M.vo k p } := by
          show SM.row (chgR S k p ((lk M.vo k).getD [])) { M with fr := fun c => M.fr c + max 0 (nd ((lk M.vo k).getD []) c - nd p c), vo := pt M.vo k p } = _
          rw [h1]; rfl
        rw [hz]
        exact x12
theorem ok_Seller_keep {f : Addr} {fd : FuncData} (F : Fun K "keep" "Seller.keep" s_Seller_keep f fd) (T : Txt K mg A) (c_needs_of : Cal P w K mg base "needs_of" 2 ["party"] (sp_needs_of K A)) (c_Seller_write : CalM P w K mg base A.Seller "write" 1 ["self", "row"] (sp_Seller_write K A)) (c_Seller_prices : CalM P w K mg base A.Seller "prices" 4 ["self", "party"] (sp_Seller_prices K A)) : FnOk P w K mg base CX0 (5) f fd ["self", "number", "deed"] (sp_Seller_keep K A) := by
  refine F.ok sc_Seller_keep (fun vs H Q E h => ?_) (fun cdv Ar outer s H vs Q E hr h => ⟨t_Seller_keep K A, ?_, ?_⟩)
  · obtain ⟨x0, x1, x2, rfl, _⟩ := h
    rfl
  · have hu := hu_of hr
    exact (pss_cons (ps_set (i := 3) sc_Seller_keep.nd rfl (Or.inl rfl) (pe_ix ix_tup (pv 2) (pe_un un_neg pe_int) (fun _ _ => rfl)))
    (pss_cons (ps_if (pt_cmpR op_eq (pe_ix ix_tup (pv 2) pe_int (fun _ _ => rfl)) pe_str (nomark _)) (pss_cons (ps_dput hu (pe_fld (pv 0) rfl) (pv 1) (pv 3) rfl)
    (pss_cons (ps_expr (pe_mt (pv 0) T.cl_Seller c_Seller_write (hr.mono (by first | decide | omega)) (pa_cons (pe_op op_catT (pe_tup (pa_cons pe_str (pa_cons (pv 1) (pa_cons (pv 3) pa_nil)))) (pe_mt (pv 0) T.cl_Seller c_Seller_prices (hr.mono (by first | decide | omega)) (pa_cons (pv 3) pa_nil))) pa_nil)))
    (pss_one ps_retN))) pss_nil)
    (pss_cons (ps_set (i := 4) sc_Seller_keep.nd rfl (Or.inl rfl) (pe_dget hu (pe_fld (pv 0) rfl) (pe_ix ix_tup (pv 2) pe_int (fun _ _ => rfl)) (fun _ _ => rfl)))
    (pss_cons (ps_set (i := 5) sc_Seller_keep.nd rfl (Or.inl rfl) (pe_cl c_needs_of (hr.mono (by first | decide | omega)) (by rfl) (pa_cons (pv 3) pa_nil)))
    (pss_cons (ps_set (i := 6) sc_Seller_keep.nd rfl (Or.inl rfl) (pe_cl c_needs_of (hr.mono (by first | decide | omega)) (by rfl) (pa_cons (pv 4) pa_nil)))
    (pss_cons (ps_lock (ps_for PassesOwn.never rfl (pi_keys (pv 6)) (pg_name (i := 7) sc_Seller_keep.nd rfl (Or.inl rfl)) (pss_one (ps_daug hu (pe_fld (pv 0) rfl) (pv 7) (pe_callB (b_max2 rfl) (by rfl) T.b_max (by decide +kernel) (pa_cons pe_int (pa_cons (pe_op o_sub (pe_dget hu (pv 6) (pv 7) (fun _ _ => rfl)) (pe_dget2 hu (pv 5) (pv 7) pe_int ⟨rfl, rfl, rfl, rfl⟩)) pa_nil))) in_add (fun _ _ _ => rfl)))))
    (pss_cons (ps_dput hu (pe_fld (pv 0) rfl) (pe_ix ix_tup (pv 2) pe_int (fun _ _ => rfl)) (pv 3) rfl)
    (pss_one (ps_expr (pe_mt (pv 0) T.cl_Seller c_Seller_write (hr.mono (by first | decide | omega)) (pa_cons (pe_op op_catT (pe_op op_catT (pe_tup (pa_cons pe_str (pa_cons (pe_ix ix_tup (pv 2) pe_int (fun _ _ => rfl)) (pa_cons (pv 3) pa_nil)))) (pe_mt (pv 0) T.cl_Seller c_Seller_prices (hr.mono (by first | decide | omega)) (pa_cons (pv 3) pa_nil))) (pe_mt (pv 0) T.cl_Seller c_Seller_prices (hr.mono (by first | decide | omega)) (pa_cons (pv 4) pa_nil))) pa_nil)))))))))))
  · obtain ⟨x0, x1, x2, rfl, h⟩ := h
    exact pu_Seller_keep T h

theorem lackN (p o : List Stay) (c : Cell) : lackC1 p o c = none ∨ lackC1 p o c = some (c, nd p c - nd o c) := by
  unfold lackC1; split
  · exact .inr rfl
  · exact .inl rfl
theorem lk_filterMap (p o : List Stay) (c : Cell) : ∀ {l : List Cell}, (c ∈ l ∨ nd p c ≤ nd o c) → (lk (l.filterMap (lackC1 p o)) c).getD 0 = max 0 (nd p c - nd o c)
  | [], h => by
    have h : nd p c ≤ nd o c := h.resolve_left (fun z => nomatch z)
    show (0 : Int) = _
    omega
  | x :: l, h => by
    rw [List.filterMap_cons]
    by_cases q : x = c
    · subst q
      unfold lackC1
      by_cases r : nd o x < nd p x
      · rw [if_pos r]
        show (lk ((x, nd p x - nd o x) :: _) x).getD 0 = _
        rw [lk_cons, if_pos rfl]
        show nd p x - nd o x = _
        omega
      · rw [if_neg r]
        exact lk_filterMap p o x (.inr (by omega))
    · have h' : c ∈ l ∨ nd p c ≤ nd o c := h.imp (fun z => (List.mem_cons.mp z).resolve_left fun w => q w.symm) id
      rcases lackN p o x with e | e
      · rw [e]; exact lk_filterMap p o c h'
      · rw [e]
        show (lk ((x, _) :: _) c).getD 0 = _
        rw [lk_cons, if_neg q]
        exact lk_filterMap p o c h'
theorem lk_lack (p o : List Stay) (c : Cell) : (lk (lackL p o) c).getD 0 = max 0 (nd p c - nd o c) := by
  refine lk_filterMap p o c ?_
  by_cases h : c ∈ cellsN p
  · exact .inl ((scell_perm _).mem_iff.mpr h)
  · refine .inr ?_
    have : nd p c = 0 := by unfold nd; rw [lk_none h]; rfl
    rw [this]; exact nd_pos o c
theorem addM_lack (f : Cell → Int) (p o : List Stay) : (fun c => addM f (-1) (lackL p o) c + max 0 (nd o c - nd p c)) = fun c => f c - nd p c + nd o c := funext fun c => by
  unfold addM
  rw [lk_lack]
  omega
theorem tell_at {A : Ad} {H H1 H2 : Hp} {s : SP} {S : Setup} {num : Int} {M : SM} {t : Addr} {n : Int} {g : Bool} {ts : List V} (x : SellerAt A H s S num M) (dt : DaL H ts (M.told.map tellD)) (f1 : Fr [] H H1) (e1 : H1 t = some (.tup [.int n, .bl g])) (f2 : Fr [s.told] H1 H2) (e2 : H2 s.told = some (.lst (ts ++ [.ref t]))) : SellerAt A H2 s S num (SM.tell n g M) := by
  have it : immL (M.told.map tellD) = true := immL_map imm_tell _
  refine (x.f0 f1).w_told (v := M.told ++ [(n, g)]) f2 ?_
  rw [List.map_append]
  exact LsAt.snoc (DaL.frL f1 dt it) it (.tup e1 (Nat.le_of_ble_eq_true rfl) (.cons (.int _) (.one' (.bl _)))) rfl f2 e2
theorem doit_none {S : Setup} {M : SM} {n k : Int} {d : Deed} (h : nameOf d = some k) (e : lk M.vo k = none) : M.doit S n d = M.tell n false := by
  cases d with
  | wish p => cases h
  | cancel j =>
    cases h
    show (match lk M.vo _ with | none => _ | some o => _) = _
    rw [e]
  | change j p =>
    cases h
    show (match lk M.vo _ with | none => _ | some o => _) = _
    rw [e]
def P_Seller_do (K : PySem.W.Frag) (A : Ad) (x0 x1 x2 : V) (H : Hp) (Q : VK) : Prop := ∃ (s : SP) (S : Setup) (num : Int) (M : SM) (n : Int) (d : Deed), x0 = .ref s.p ∧ SellerAt A H s S num M ∧ x1 = .int n ∧ Da H x2 (deedD d) ∧ SetupOk S ∧ M.Ok S ∧ DeedOk S d ∧ M.Sz 98000 ∧
  SStep A H s S num (M.doit S n d) (fun H' => Q .non H')
def sp_Seller_do (K : PySem.W.Frag) (A : Ad) : Sp := fun vs H Q _ => ∃ x0 x1 x2, vs = [x0, x1, x2] ∧ P_Seller_do K A x0 x1 x2 H Q
theorem c_Seller_do {K : PySem.W.Frag} {A : Ad} {x0 x1 x2 : V} {H : Hp} {Q : VK} {E : XK} (h : P_Seller_do K A x0 x1 x2 H Q) : sp_Seller_do K A [x0, x1, x2] H Q E := ⟨_, _, _, rfl, h⟩
theorem sc_Seller_do : FnScope ["self", "number", "deed", "lack", "cell"] ["self", "number", "deed"] (defScope s_Seller_do) := ⟨rfl, rfl, rfl, by decide +kernel, rfl, by decide +kernel, by decide +kernel⟩
def t_Seller_do (K : PySem.W.Frag) (A : Ad) : TS :=
  (Evl.tCut (tIfS (tAnd (tTest (tOp rNe (tOp (rIxT K) (tVar 2) (tC (.int 0))) (tC (.str "wish")))) (tB (tDNotIn (tOp (rIxT K) (tVar 2) (tC (.int 1))) (tFld K (tVar 0) "vouchers")))) (tSeq (tDrop (tBM K "list" rAppend (tFld K (tVar 0) "told") (tCons (tTup (tCons (tVar 1) (tCons (tC (.bl false)) tNil))) tNil)))
    tRetN) tNext)
    (Evl.tCut (tIfS (tTest (tOp rEq (tOp (rIxT K) (tVar 2) (tC (.int 0))) (tC (.str "cancel")))) (tSeq (tDrop (tMt A.Seller "cancel" (sp_Seller_cancel K A) (tVar 0) (tCons (tVar 1) (tCons (tOp (rIxT K) (tVar 2) (tC (.int 1))) tNil))))
    tRetN) tNext)
    (tSeq (tAsg (tMt A.Seller "lack" (sp_Seller_lack K A) (tVar 0) (tCons (tVar 2) tNil)) (gName 3))
    (tIfS (tB (tCB (rAll K) (tCons (tLockE (tLc (iKeys (tVar 3)) (gName 4) tYes (tOp cGe (tDGet (tFld K (tVar 0) "free") (tVar 4)) (tDGet (tVar 3) (tVar 4))) [4])) tNil))) (tSeq (tDrop (tMt A.Seller "add" (sp_Seller_add K A) (tVar 0) (tCons (tVar 3) (tCons (tUn rNeg (tC (.int 1))) tNil))))
    (tSeq (tDrop (tMt A.Seller "keep" (sp_Seller_keep K A) (tVar 0) (tCons (tVar 1) (tCons (tVar 2) tNil))))
    (tDrop (tBM K "list" rAppend (tFld K (tVar 0) "told") (tCons (tTup (tCons (tVar 1) (tCons (tC (.bl true)) tNil))) tNil))))) (tSeq (sDPut (tFld K (tVar 0) "asked") (tVar 1) (tVar 2))
    (tDrop (tBM K "list" rAppend (tFld K (tVar 0) "outgoing") (tCons (tTup (tCons (tC (.str "ask")) (tCons (tVar 1) (tCons (tCB (rTupOf K) (tCons (tLockE (tLc (iKeys (tVar 3)) (gName 4) tYes (tTup (tCons (tVar 4) (tCons (tDGet (tVar 3) (tVar 4)) tNil))) [4])) tNil)) tNil)))) tNil))))))))
theorem pu_Seller_do (T : Txt K mg A) {x0 x1 x2 : V} {H : Hp} {Q : VK} (h : P_Seller_do K A x0 x1 x2 H Q) : t_Seller_do K A { nx := fun _ H' => Q .non H', rt := Q } [some x0, some x1, some x2, none, none] H := by
  obtain ⟨s, S, num, M, n, d, rfl, x, rfl, dd, so, mo, dok, sz, kk⟩ := h
  have nd0 := x.nd
  obtain ⟨dx, sv, clv, e, dS, c⟩ := x.parts
  obtain ⟨kvs, ev, rv⟩ := c.vo
  obtain ⟨it, ts, et, dt⟩ := c.told
  have htl : ts.length ≤ 200000 := by rw [dt.len, List.length_map]; have := sz.told; omega
  obtain ⟨a, xs, rfl, ea, q⟩ := deed_tup dd
  unfold t_Seller_do
  refine g_cut (fun σ H' => σ = [some (.ref s.p), some (.int n), some (.ref a), none, none] ∧ H' = H ∧ ∀ k, nameOf d = some k → (lk M.vo k).isSome = true) ?_ ?_
  · rcases deed_sort q with ⟨y, p, rfl, rfl, _⟩ | ⟨w, k, rest, rfl, hw, hn⟩
    · walk_at "go"
      refine g_iteN (fun z => absurd rfl z) (fun _ => ?_)
      walk_at "go"
      exact ⟨rfl, rfl, fun k z => (by cases z)⟩
    · have at0 : atI (.str w :: .int k :: rest) 0 = some (V.str w) := atI_nat (show (V.str w :: V.int k :: rest)[0]? = some _ from rfl)
      have at1 : atI (.str w :: .int k :: rest) 1 = some (V.int k) := atI_nat (show (V.str w :: V.int k :: rest)[1]? = some _ from rfl)
      walk_at "go"
      refine g_ixT (SqT.of ea) at0 ?_
      walk_at "go"
      refine g_iteN (fun _ => ?_) (fun z => absurd z hw)
      walk_at "go"
      refine g_ixT (SqT.of ea) at1 ?_
      walk_at "go"
      refine g_rdniI (.inl ev) ?_
      rcases DkR.look rv k with ⟨h1, h2⟩ | ⟨pv, o, h1, h2, h3⟩
      · rw [h2, show (none : Option V).isSome = false from rfl]
        walk_at "go"
        rename_i t H1 n1 f1 e1 H2 f2 e2
        refine kk H2 ((f2.in1 s.m_told).pre0' f1) ?_
        rw [doit_none hn h1]
        exact tell_at x dt f1 e1 f2 e2
      · rw [h2]
        walk_at "go"
        exact ⟨rfl, rfl, fun j z => by rw [hn] at z; cases z; rw [h1]; rfl⟩
  · rintro σ H1 ⟨rfl, rfl, hv⟩
    refine g_cut (fun σ H' => σ = [some (.ref s.p), some (.int n), some (.ref a), none, none] ∧ H' = H1 ∧ (∀ k, d ≠ .cancel k) ∧ AskOk M.vo d ∧ M.doit S n d = M.deal S n d d.party (M.old d)) ?_ ?_
    · cases d with
      | wish p =>
        obtain ⟨w, y, rfl, d1, d2⟩ := q.two
        cases d1.str1
        walk_at "go"
        refine g_ite (fun z => absurd z (by decide)) (fun _ => ?_)
        walk_at "go"
        exact ⟨rfl, rfl, fun k z => (by cases z), trivial, rfl⟩
      | cancel k =>
        obtain ⟨w, y, rfl, d1, d2⟩ := q.two
        cases d1.str1
        cases d2.int1
        walk_at "go"
        refine g_ite (fun _ => ?_) (fun z => absurd rfl z)
        walk_at "go"
        have hs := hv k rfl
        cases h : lk M.vo k with
        | none => rw [h] at hs; cases hs
        | some o =>
          refine c_Seller_cancel ⟨s, S, num, M, n, k, o, rfl, x, rfl, rfl, h, so, mo, sz.mono (by decide), fun H4 f4 x4 => ?_⟩
          walk_at "go"
          refine kk H4 f4 ?_
          have hd : M.doit S n (.cancel k) = SM.tell n true (SM.row (canR S k o) { M with fr := fun c => M.fr c + nd o c, vo := dr M.vo k }) := by
            show (match lk M.vo k with | none => _ | some o => _) = _
            rw [h]
          rw [hd]
          exact x4
      | change k p =>
        obtain ⟨w, y, z, rfl, d1, d2, d3⟩ := q.three
        cases d1.str1
        cases d2.int1
        walk_at "go"
        refine g_ite (fun z => absurd z (by decide)) (fun _ => ?_)
        walk_at "go"
        have hs := hv k rfl
        refine ⟨rfl, rfl, fun k z => (by cases z), hs, ?_⟩
        show (match lk M.vo k with | none => _ | some o => _) = _
        have ho : M.old (.change k p) = (lk M.vo k).getD [] := rfl
        rw [ho]
        cases h : lk M.vo k with
        | none => rw [h] at hs; cases hs
        | some o => rfl
    · rintro σ H2 ⟨rfl, rfl, nc, ak, hd⟩
      walk_at "go"
      refine c_Seller_lack ⟨s, S, num, M, d, rfl, x, dd, so, mo, dok, nc, fun lq H3 n3 f3 e3 => ?_⟩
      have hpo := dok.party
      have hlk := lackL_ok so (p := d.party) (o := M.old d) hpo
      have hln := lackL_len so (p := d.party) (o := M.old d) hpo
      have hnd : Nd (lackL d.party (M.old d)) := lack_nd _ _ (scell_nd _)
      have nl : lq ∉ s.os := x.nin n3
      have nlp : s.p ≠ lq := fun q => nl (by rw [← q]; exact s.m_p)
      have nlf : s.fr ≠ lq := fun q => nl (by rw [← q]; exact s.m_fr)
      have x3 := x.f0 f3
      obtain ⟨dx3, sv3, clv3, e3p, _, c3⟩ := x3.parts
      refine g_lockE e3 trivial trivial fun od H4 f4 e4 => ?_
      have e4p := f4.at e3p (nin1 nlp nin0)
      have e4f := f4.at c3.fr (nin1 nlf nin0)
      have dd4 := Da.frL (f4.pre0' f3) dd (imm_deed d)
      walk_at "go"
      refine l_keysT (kvs := cD (lackL d.party (M.old d))) fun Dl H5 nD f5 e5 => ⟨fun i acc H' => acc = (((lackL d.party (M.old d)).take i).map fun e => decide (e.2 ≤ M.fr e.1)).map V.bl ∧ Fr [] H4 H', ⟨rfl, f5⟩, fun i acc H' h => h.2.at0 e4, fun i ke v q acc H' hi hq ha ⟨ea', f⟩ => ?_, fun acc H' ha ⟨ea', f⟩ => ?_⟩
      · obtain ⟨y, hy, rfl, rfl⟩ := cD_get hi
        have hyl : lk (lackL d.party (M.old d)) y.1 = some y.2 := lk_mem hnd (List.mem_of_getElem? hy)
        have hyk := hlk y (List.mem_of_getElem? hy)
        have ep' := f.at0 e4p
        have ef' := f.at0 e4f
        have el' := f.at0 e4
        walk_at "go"
        refine ⟨rfl, ?_⟩
        walk_at "go"
        refine g_stG so hyk ef' hq ?_
        walk_at "go"
        refine g_rdg (k := ck y.1) (.inr ⟨_, el'⟩) hq (v := .int y.2) (by rw [val_cell, hyl]; rfl) ?_
        walk_at "go"
        have hal : acc.length ≤ 100 := by rw [ea', List.length_map, List.length_map, List.length_take]; omega
        refine lcY_of ha (szM (by omega)) fun H6 f6 e6 => ⟨?_, f.own1 f6 nD⟩
        rw [ea', take_more hy, List.map_append, List.map_append]; rfl
      · have hl : (cD (lackL d.party (M.old d))).length = (lackL d.party (M.old d)).length := enD_len _
        rw [hl, List.take_length] at ea'
        rw [ea'] at ha
        walk_at "go"
        rename_i H6 f6 e6
        have F6 : Fr [] H3 H6 := ((f4.then0 f).transL f6).back e3 e6
        have hd6 := f6.at ha (nin1 (fun z => by rw [z, e4] at nD; cases nD) nin0)
        have x6 := x3.f0 F6
        have dd6 := Da.frL (F6.pre0' f3) dd (imm_deed d)
        obtain ⟨dx6, sv6, clv6, e6p, _, c6⟩ := x6.parts
        clear f4 f6 e4 e4p e4f dd4 f nD
        refine g_all (SqL.of hd6) ?_
        have hall : (((lackL d.party (M.old d)).map fun e => decide (e.2 ≤ M.fr e.1)).all id) = M.has (lackL d.party (M.old d)) := by rw [List.all_map]; rfl
        rw [hall]
        walk_at "go"
        refine g_iteB (fun hh => ?_) (fun hh => ?_)
        · walk_at "go"
          refine c_Seller_add ⟨s, S, num, M, lq, lackL d.party (M.old d), -1, rfl, x6, rfl, rfl, e6, nl, so, hnd, hlk, ⟨by decide, by decide⟩, fun H7 f7 x7 => ?_⟩
          have dd7 := Da.frL f7 dd6 (imm_deed d)
          obtain ⟨dx7, sv7, clv7, e7p, _, c7⟩ := x7.parts
          walk_at "go"
          refine c_Seller_keep ⟨s, S, num, _, n, d, rfl, x7, rfl, dd7, so, ⟨mo.vk, mo.vn, mo.ak, mo.an, mo.ac, mo.wk, mo.ck⟩, dok, ak, ⟨Nat.le_trans sz.bk (by decide), Nat.le_trans sz.out (by decide), Nat.le_trans sz.told (by decide), Nat.le_trans sz.vo (by decide), Nat.le_trans sz.ask (by decide)⟩, fun H8 f8 x8 => ?_⟩
          obtain ⟨dx8, sv8, clv8, e8p, _, c8⟩ := x8.parts
          obtain ⟨it8, ts8, et8, dt8⟩ := c8.told
          have hd1 : SM.kept S n d { M with fr := addM M.fr (-1) (lackL d.party (M.old d)) } = SM.keep S n d { M with fr := fun c => M.fr c - nd d.party c + nd (M.old d) c } := by
            unfold SM.kept
            have h0 : SM.old { M with fr := addM M.fr (-1) (lackL d.party (M.old d)) } d = M.old d := by cases d <;> rfl
            rw [h0, addM_lack]
          have htl8 : ts8.length ≤ 200000 := by
            rw [dt8.len, List.length_map, hd1]
            have h0 : (SM.keep S n d { M with fr := fun c => M.fr c - nd d.party c + nd (M.old d) c }).told = M.told := by cases d <;> rfl
            rw [h0]; have := sz.told; omega
          walk_at "go"
          rename_i t H9 n9 f9 e9 H10 f10 e10
          refine kk H10 ((((Fr.of0 (F6.pre0' f3)).transL (f7.in1 s.m_fr)).transL f8).then0 f9 |>.transL (f10.in1 s.m_told)) ?_
          have x10 := tell_at x8 dt8 f9 e9 f10 e10
          rw [hd1] at x10
          rw [hd]
          unfold SM.deal
          rw [if_pos hh]
          exact x10
        · walk_at "go"
          obtain ⟨akv, eak, rak⟩ := c6.ask
          have hakl : akv.length ≤ 200000 := by rw [rak.len]; unfold askT; rw [List.length_map]; have := sz.ask; omega
          refine g_rdpI eak (szM (by omega)) fun H7 f7 e7 => ?_
          have x7 := x6.w_ask (v := pt M.ask n d) f7 ⟨_, e7, by unfold askT; rw [← pt_mp]; exact (rak.fr f7).put n (Da.frL f7 dd6 (imm_deed d)) (imm_deed d)⟩
          obtain ⟨dx7, sv7, clv7, e7p, _, c7⟩ := x7.parts
          have e7l := f7.at e6 (nin1 (fun q => nl (by rw [q]; exact s.m_ask)) nin0)
          obtain ⟨io, os, eo, dox⟩ := c7.out
          have hol : os.length ≤ 200000 := by rw [dox.len, List.length_map]; have := sz.out; show M.out.length ≤ _; omega
          walk_at "go"
          refine g_lockE e7l trivial trivial fun od2 H8 f8 e8 => ?_
          walk_at "go"
          refine l_keysT (kvs := cD (lackL d.party (M.old d))) fun D2 H9 n9 f9 e9 => ⟨fun i acc H' => DaL H' acc (((lackL d.party (M.old d)).take i).map fun e => .tuple [cellD e.1, .int e.2]) ∧ Fr [] H8 H', ⟨.nil, f9⟩, fun i acc H' h => h.2.at0 e8, fun i ke v q acc H' hi hq ha ⟨da, f⟩ => ?_, fun acc H' ha ⟨da, f⟩ => ?_⟩
          · obtain ⟨y, hy, rfl, rfl⟩ := cD_get hi
            have hyl : lk (lackL d.party (M.old d)) y.1 = some y.2 := lk_mem hnd (List.mem_of_getElem? hy)
            have el' := f.at0 e8
            walk_at "go"
            refine ⟨rfl, ?_⟩
            walk_at "go"
            refine g_rdg (k := ck y.1) (.inr ⟨_, el'⟩) hq (v := .int y.2) (by rw [val_cell, hyl]; rfl) ?_
            walk_at "go"
            rename_i t2 H10 n10 f10 e10
            have ilk : ∀ l : List (Cell × Int), immL (l.map fun e => PyData.tuple [cellD e.1, .int e.2]) = true := fun l => immL_map (fun _ => rfl) l
            have hal : acc.length ≤ 100 := by rw [da.len, List.length_map, List.length_take]; omega
            refine lcY_of (f10.at0 ha) (szM (by omega)) fun H11 f11 e11 => ⟨?_, (f.then0 f10).own1 f11 n9⟩
            rw [take_more hy, List.map_append]
            refine (DaL.frL f11 (DaL.frL f10 da (ilk _)) (ilk _)).append (.one' (.tup (f11.tup _ _ e10) (Nat.le_of_ble_eq_true rfl) (.cons (.tup (f11.tup _ _ (f10.tup _ _ hq)) (Nat.le_of_ble_eq_true rfl) (.cons (.int _) (.one' (.int _)))) (.one' (.int _)))))
          · rw [hl, List.take_length] at da
            walk_at "go"
            rename_i H10 f10 e10 l H11 n11 f11 e11 t H12 n12 f12 e12
            have ilk : immL ((lackL d.party (M.old d)).map fun e => PyData.tuple [cellD e.1, .int e.2]) = true := immL_map (fun _ => rfl) _
            have F10 : Fr [] H7 H10 := ((f8.then0 f).transL f10).back e7l e10
            have F12 : Fr [] H7 H12 := (F10.then0 f11).then0 f12
            have da12 := DaL.frL ((f10.then0 f11).then0 f12) da ilk
            have hac : acc.length ≤ 1000000 := by rw [da.len, List.length_map]; omega
            refine g_append (F12.at0 eo) (szM (by omega)) fun H13 f13 e13 => ?_
            have x13 := (x7.f0 F12).w_out (v := M.out ++ [.ask n (lackL d.party (M.old d))]) f13 (by
              rw [List.map_append]
              exact LsAt.snoc (DaL.frL F12 dox io) io (.tup e12 (Nat.le_of_ble_eq_true rfl) (.cons (.str _) (.cons (.int _) (.one' (.tup (f12.tup _ _ e11) hac da12))))) (imm_up _) f13 e13)
            walk_at "go"
            refine kk H13 (((Fr.of0 (F6.pre0' f3)).transL (f7.in1 s.m_ask)).then0 F12 |>.transL (f13.in1 s.m_out)) ?_
            rw [hd]
            unfold SM.deal
            rw [if_neg (by rw [hh]; decide)]
            exact x13
theorem ok_Seller_do {f : Addr} {fd : FuncData} (F : Fun K "do" "Seller.do" s_Seller_do f fd) (T : Txt K mg A) (c_Seller_lack : CalM P w K mg base A.Seller "lack" 3 ["self", "deed"] (sp_Seller_lack K A)) (c_Seller_cancel : CalM P w K mg base A.Seller "cancel" 5 ["self", "number", "voucher"] (sp_Seller_cancel K A)) (c_Seller_add : CalM P w K mg base A.Seller "add" 1 ["self", "needs", "many"] (sp_Seller_add K A)) (c_Seller_keep : CalM P w K mg base A.Seller "keep" 5 ["self", "number", "deed"] (sp_Seller_keep K A)) : FnOk P w K mg base CX0 (6) f fd ["self", "number", "deed"] (sp_Seller_do K A) := by
  refine F.ok sc_Seller_do (fun vs H Q E h => ?_) (fun cdv Ar outer s H vs Q E hr h => ⟨t_Seller_do K A, ?_, ?_⟩)
  · obtain ⟨x0, x1, x2, rfl, _⟩ := h
    rfl
  · have hu := hu_of hr
    exact (Evl.pss_cut (ps_if (PW.pt (pw_and (pt_cmpR op_ne (pe_ix ix_tup (pv 2) pe_int (fun _ _ => rfl)) pe_str (nomark _)) (pw_and1 (pt_cmp (pc_dnotin hu (pe_ix ix_tup (pv 2) pe_int (fun _ _ => rfl)) (pe_fld (pv 0) rfl)) rfl)))) (pss_cons (ps_expr (pe_bm PySem.F.plainAttrs_list PySem.F.slot_list_append PySem.F.type_list_append mt_append (pe_fld (pv 0) rfl) (pa_cons (pe_tup (pa_cons (pv 1) (pa_cons pe_bl pa_nil))) pa_nil)))
    (pss_one ps_retN)) pss_nil)
    (Evl.pss_cut (ps_if (pt_cmpR op_eq (pe_ix ix_tup (pv 2) pe_int (fun _ _ => rfl)) pe_str (nomark _)) (pss_cons (ps_expr (pe_mt (pv 0) T.cl_Seller c_Seller_cancel (hr.mono (by first | decide | omega)) (pa_cons (pv 1) (pa_cons (pe_ix ix_tup (pv 2) pe_int (fun _ _ => rfl)) pa_nil))))
    (pss_one ps_retN)) pss_nil)
    (pss_cons (ps_set (i := 3) sc_Seller_do.nd rfl (Or.inr rfl) (pe_mt (pv 0) T.cl_Seller c_Seller_lack (hr.mono (by first | decide | omega)) (pa_cons (pv 2) pa_nil)))
    (pss_one (ps_if (pt_val (pe_callB (cr_all rfl) (by rfl) T.b_all (by decide +kernel) (pa_cons (pe_lock (pe_lc (own := [("cell", 4)]) (g := (gName 4)) (tt := tYes) rfl sc_Seller_do.nd (pi_keys (pv 3)) (blkOk_by (N := ["self", "number", "deed", "lack", "cell"]) (sc := defScope s_Seller_do) (own := [("cell", 4)]) (by decide +kernel)) (fun _ _ _ _ _ => (pg_name (i := 4) sc_Seller_do.nd rfl (Or.inl rfl))) (fun _ _ _ _ _ => pts_nil) (fun _ _ _ _ _ => (pe_cmpR c_ge (pe_dget hu (pe_fld (pv 0) rfl) (pv 4) (fun _ _ => rfl)) (pe_dget hu (pv 3) (pv 4) (fun _ _ => rfl)) (nomark _))))) pa_nil))) (pss_cons (ps_expr (pe_mt (pv 0) T.cl_Seller c_Seller_add (hr.mono (by first | decide | omega)) (pa_cons (pv 3) (pa_cons (pe_un un_neg pe_int) pa_nil))))
    (pss_cons (ps_expr (pe_mt (pv 0) T.cl_Seller c_Seller_keep (hr.mono (by first | decide | omega)) (pa_cons (pv 1) (pa_cons (pv 2) pa_nil))))
    (pss_one (ps_expr (pe_bm PySem.F.plainAttrs_list PySem.F.slot_list_append PySem.F.type_list_append mt_append (pe_fld (pv 0) rfl) (pa_cons (pe_tup (pa_cons (pv 1) (pa_cons pe_bl pa_nil))) pa_nil)))))) (pss_cons (ps_dput hu (pe_fld (pv 0) rfl) (pv 1) (pv 2) rfl)
    (pss_one (ps_expr (pe_bm PySem.F.plainAttrs_list PySem.F.slot_list_append PySem.F.type_list_append mt_append (pe_fld (pv 0) rfl) (pa_cons (pe_tup (pa_cons pe_str (pa_cons (pv 1) (pa_cons (pe_callTy b_tuple (by rfl) T.b_tuple (by decide +kernel) (pa_cons (pe_lock (pe_lc (own := [("cell", 4)]) (g := (gName 4)) (tt := tYes) rfl sc_Seller_do.nd (pi_keys (pv 3)) (blkOk_by (N := ["self", "number", "deed", "lack", "cell"]) (sc := defScope s_Seller_do) (own := [("cell", 4)]) (by decide +kernel)) (fun _ _ _ _ _ => (pg_name (i := 4) sc_Seller_do.nd rfl (Or.inl rfl))) (fun _ _ _ _ _ => pts_nil) (fun _ _ _ _ _ => (pe_tup (pa_cons (pv 4) (pa_cons (pe_dget hu (pv 3) (pv 4) (fun _ _ => rfl)) pa_nil)))))) pa_nil)) pa_nil)))) pa_nil))))))))))
  · obtain ⟨x0, x1, x2, rfl, h⟩ := h
    exact pu_Seller_do T h

theorem SellerAt.w_p {A : Ad} {H H' : Hp} {s : SP} {S : Setup} {num : Int} {M : SM} {dx : Addr} {sv clv : V} {n' : Int} {c' : Option (List Cell)} (x : SellerAt A H s S num M) (f : Fr [s.p] H H')
    (e : H' s.p = some (.ins A.Seller dx (F_Seller sv num s.fr s.vo s.bk clv s.ask s.wt n' s.out s.told))) (dS : Da H sv (setupD S)) (dc : Da H' clv (closD c')) : SellerAt A H' s S num { M with n := n', cl := c' } := by
  have nd := x.nd
  obtain ⟨⟨dx0, sv0, clv0, e0, d0, c0⟩, al⟩ := x
  have c := c0.w_p nd f
  refine ⟨⟨dx, sv, clv, e, Da.frL f dS (imm_setup S), ⟨c.fr, c.vo, c.bk, c.ask, c.wt, c.out, c.told, dc⟩⟩, al.1, fun a ha => ?_⟩
  by_cases z : a = s.p
  · rw [z]; exact ⟨_, e⟩
  · obtain ⟨o, q⟩ := al.2 a ha; exact ⟨o, f.at q (nin1 z nin0)⟩
theorem wait_at {A : Ad} {H H1 H2 : Hp} {s : SP} {S : Setup} {num : Int} {M : SM} {t : Addr} {n : Int} {d : Deed} {v : V} {ts : List V} (x : SellerAt A H s S num M) (dt : DaL H ts (M.wt.map wtD)) (f1 : Fr [] H H1) (e1 : H1 t = some (.tup [.int n, v])) (dv : Da H v (deedD d)) (f2 : Fr [s.wt] H1 H2) (e2 : H2 s.wt = some (.lst (ts ++ [.ref t]))) : SellerAt A H2 s S num { M with wt := M.wt ++ [(n, d)] } := by
  have it : immL (M.wt.map wtD) = true := immL_map imm_wt _
  refine (x.f0 f1).w_wt (v := M.wt ++ [(n, d)]) f2 ?_
  rw [List.map_append]
  exact LsAt.snoc (DaL.frL f1 dt it) it (.tup e1 (Nat.le_of_ble_eq_true rfl) (.cons (.int _) (.one' (Da.frL f1 dv (imm_deed d))))) (imm_wt (n, d)) f2 e2
def P_Seller_ask (K : PySem.W.Frag) (A : Ad) (x0 x1 : V) (H : Hp) (Q : VK) : Prop := ∃ (s : SP) (S : Setup) (num : Int) (M : SM) (d : Deed), x0 = .ref s.p ∧ SellerAt A H s S num M ∧ Da H x1 (deedD d) ∧ SetupOk S ∧ M.Ok S ∧ DeedOk S d ∧ M.Sz 98000 ∧ (-1000000 ≤ M.n ∧ M.n ≤ 1000000) ∧
  SStep A H s S num (M.asked S d) (fun H' => Q (.int M.n) H')
def sp_Seller_ask (K : PySem.W.Frag) (A : Ad) : Sp := fun vs H Q _ => ∃ x0 x1, vs = [x0, x1] ∧ P_Seller_ask K A x0 x1 H Q
theorem c_Seller_ask {K : PySem.W.Frag} {A : Ad} {x0 x1 : V} {H : Hp} {Q : VK} {E : XK} (h : P_Seller_ask K A x0 x1 H Q) : sp_Seller_ask K A [x0, x1] H Q E := ⟨_, _, rfl, h⟩
theorem sc_Seller_ask : FnScope ["self", "deed", "number"] ["self", "deed"] (defScope s_Seller_ask) := ⟨rfl, rfl, rfl, by decide +kernel, rfl, by decide +kernel, by decide +kernel⟩
def t_Seller_ask (K : PySem.W.Frag) (A : Ad) : TS :=
  (tSeq (tAsg (tFld K (tVar 0) "count") (gName 2))
    (tSeq (sFldAug K (tVar 0) (tC (.int 1)) rAdd "count")
    (tSeq (tIfS (tB (tMt A.Seller "must_wait" (sp_Seller_must_wait K A) (tVar 0) (tCons (tVar 1) tNil))) (tDrop (tBM K "list" rAppend (tFld K (tVar 0) "waiting") (tCons (tTup (tCons (tVar 2) (tCons (tVar 1) tNil))) tNil))) (tDrop (tMt A.Seller "do" (sp_Seller_do K A) (tVar 0) (tCons (tVar 2) (tCons (tVar 1) tNil)))))
    (tRet (tVar 2)))))
theorem pu_Seller_ask (T : Txt K mg A) {x0 x1 : V} {H : Hp} {Q : VK} (h : P_Seller_ask K A x0 x1 H Q) : t_Seller_ask K A { nx := fun _ H' => Q .non H', rt := Q } [some x0, some x1, none] H := by
  obtain ⟨s, S, num, M, d, rfl, x, dd, so, mo, dok, sz, ⟨hn1, hn2⟩, kk⟩ := h
  have nd0 := x.nd
  obtain ⟨dx, sv, clv, e, dS, c⟩ := x.parts
  unfold t_Seller_ask
  walk_at "go"
  rename_i H1 f1 e1
  have x1' := x.w_p (n' := M.n + 1) (c' := M.cl) f1 e1 dS (Da.frL f1 c.clv (imm_clos _))
  have x1 : SellerAt A H1 s S num { M with n := M.n + 1 } := x1'
  have mo1 : SM.Ok S { M with n := M.n + 1 } := ⟨mo.vk, mo.vn, mo.ak, mo.an, mo.ac, mo.wk, mo.ck⟩
  have sz1 : SM.Sz 98000 { M with n := M.n + 1 } := ⟨sz.bk, sz.out, sz.told, sz.vo, sz.ask⟩
  have hw1 : SM.waits { M with n := M.n + 1 } d = M.waits d := by cases d <;> rfl
  have dd1 := Da.frL f1 dd (imm_deed d)
  obtain ⟨dx1, sv1, clv1, e1p, _, c1⟩ := x1.parts
  have e1p : H1 s.p = some (.ins A.Seller dx1 (F_Seller sv1 num s.fr s.vo s.bk clv1 s.ask s.wt (M.n + 1) s.out s.told)) := e1p
  clear e1 c
  walk_at "go"
  refine c_Seller_must_wait ⟨s, S, num, _, d, rfl, x1, dd1, so, mo1, dok, fun H2 f2 => ?_⟩
  have x2 := x1.f0 f2
  have dd2 := Da.frL f2 dd1 (imm_deed d)
  obtain ⟨dx2, sv2, clv2, e2p, _, c2⟩ := x2.parts
  have e2p : H2 s.p = some (.ins A.Seller dx2 (F_Seller sv2 num s.fr s.vo s.bk clv2 s.ask s.wt (M.n + 1) s.out s.told)) := e2p
  obtain ⟨iw, ws, ew, dw⟩ := c2.wt
  have hwl : ws.length ≤ 200000 := by rw [dw.len, List.length_map]; have := sz.bk; show M.wt.length ≤ _; omega
  have F2 : Fr s.os H H2 := (f1.in1 s.m_p).then0 f2
  rw [hw1]
  walk_at "go"
  refine g_iteB (fun hh => ?_) (fun hh => ?_)
  · walk_at "go"
    rename_i t H3 n3 f3 e3 H4 f4 e4
    have hd : M.asked S d = { M with n := M.n + 1, wt := M.wt ++ [(M.n, d)] } := if_pos hh
    refine kk H4 ((F2.then0 f3).transL (f4.in1 s.m_wt)) ?_
    rw [hd]
    exact wait_at x2 dw f3 e3 dd2 f4 e4
  · walk_at "go"
    refine c_Seller_do ⟨s, S, num, _, M.n, d, rfl, x2, rfl, dd2, so, mo1, dok, sz1, fun H5 f5 x5 => ?_⟩
    have hd : M.asked S d = SM.doit S M.n d { M with n := M.n + 1 } := if_neg (by rw [hh]; decide)
    walk_at "go"
    refine kk H5 (F2.transL f5) ?_
    rw [hd]
    exact x5
theorem ok_Seller_ask {f : Addr} {fd : FuncData} (F : Fun K "ask" "Seller.ask" s_Seller_ask f fd) (T : Txt K mg A) (c_Seller_must_wait : CalM P w K mg base A.Seller "must_wait" 3 ["self", "deed"] (sp_Seller_must_wait K A)) (c_Seller_do : CalM P w K mg base A.Seller "do" 6 ["self", "number", "deed"] (sp_Seller_do K A)) : FnOk P w K mg base CX0 (7) f fd ["self", "deed"] (sp_Seller_ask K A) := by
  refine F.ok sc_Seller_ask (fun vs H Q E h => ?_) (fun cdv Ar outer s H vs Q E hr h => ⟨t_Seller_ask K A, ?_, ?_⟩)
  · obtain ⟨x0, x1, rfl, _⟩ := h
    rfl
  · have hu := hu_of hr
    exact (pss_cons (ps_set (i := 2) sc_Seller_ask.nd rfl (Or.inl rfl) (pe_fld (pv 0) rfl))
    (pss_cons (ps_fldaug (pv 0) pe_int in_add)
    (pss_cons (ps_if (pt_val (pe_mt (pv 0) T.cl_Seller c_Seller_must_wait (hr.mono (by first | decide | omega)) (pa_cons (pv 1) pa_nil))) (pss_one (ps_expr (pe_bm PySem.F.plainAttrs_list PySem.F.slot_list_append PySem.F.type_list_append mt_append (pe_fld (pv 0) rfl) (pa_cons (pe_tup (pa_cons (pv 2) (pa_cons (pv 1) pa_nil))) pa_nil)))) (pss_one (ps_expr (pe_mt (pv 0) T.cl_Seller c_Seller_do (hr.mono (by first | decide | omega)) (pa_cons (pv 2) (pa_cons (pv 1) pa_nil))))))
    (pss_one (ps_ret (pv 2))))))
  · obtain ⟨x0, x1, rfl, h⟩ := h
    exact pu_Seller_ask T h
def clM (f : Cell → Int) (l : List Cell) : Cell → Int := fun c => if c ∈ l then 0 else f c
theorem clM_nil (f : Cell → Int) : clM f [] = f := funext fun c => by unfold clM; rw [if_neg (fun h => nomatch h)]
theorem clM_snoc (f : Cell → Int) (l : List Cell) (c : Cell) : fset (clM f l) c 0 = clM f (l ++ [c]) := funext fun x => by
  unfold fset clM
  by_cases h : x = c
  · rw [if_pos h, if_pos (by rw [h]; simp)]
  · rw [if_neg h]
    by_cases q : x ∈ l
    · rw [if_pos q, if_pos (by simp [q])]
    · rw [if_neg q, if_neg (by simp [q, h])]
def P_Seller_close (K : PySem.W.Frag) (A : Ad) (x0 x1 : V) (H : Hp) (Q : VK) : Prop := ∃ (s : SP) (S : Setup) (num : Int) (M : SM) (cs : List Cell), x0 = .ref s.p ∧ SellerAt A H s S num M ∧ Da H x1 (cellsD cs) ∧ SetupOk S ∧ (∀ c ∈ cs, CellOk S c) ∧ cs.length ≤ 36 ∧ M.Sz 98000 ∧
  SStep A H s S num (M.close cs) (fun H' => Q .non H')
def sp_Seller_close (K : PySem.W.Frag) (A : Ad) : Sp := fun vs H Q _ => ∃ x0 x1, vs = [x0, x1] ∧ P_Seller_close K A x0 x1 H Q
theorem c_Seller_close {K : PySem.W.Frag} {A : Ad} {x0 x1 : V} {H : Hp} {Q : VK} {E : XK} (h : P_Seller_close K A x0 x1 H Q) : sp_Seller_close K A [x0, x1] H Q E := ⟨_, _, rfl, h⟩
theorem sc_Seller_close : FnScope ["self", "cells", "counts", "cell"] ["self", "cells"] (defScope s_Seller_close) := ⟨rfl, rfl, rfl, by decide +kernel, rfl, by decide +kernel, by decide +kernel⟩
def t_Seller_close (K : PySem.W.Frag) (A : Ad) : TS :=
  (tSeq (tAsg (tCB (rTupOf K) (tCons (tLc (iTup K (tVar 1)) (gName 3) tYes (tDGet (tFld K (tVar 0) "free") (tVar 3)) [3]) tNil)) (gName 2))
    (tSeq (tFor (iTup K (tVar 1)) (gName 3) (sDPut (tFld K (tVar 0) "free") (tVar 3) (tC (.int 0))))
    (tSeq (sFld K (tVar 0) (tVar 1) "closing")
    (tDrop (tBM K "list" rAppend (tFld K (tVar 0) "outgoing") (tCons (tTup (tCons (tC (.str "closed")) (tCons (tVar 2) tNil))) tNil))))))
theorem pu_Seller_close (T : Txt K mg A) {x0 x1 : V} {H : Hp} {Q : VK} (h : P_Seller_close K A x0 x1 H Q) : t_Seller_close K A { nx := fun _ H' => Q .non H', rt := Q } [some x0, some x1, none, none] H := by
  obtain ⟨s, S, num, M, cs, rfl, x, dc, so, ck0, hcl, sz, kk⟩ := h
  have nd0 := x.nd
  obtain ⟨dx, sv, clv, e, dS, c⟩ := x.parts
  obtain ⟨a, xs, rfl, ea, _, dxs⟩ := dc.tup1
  have hxl : xs.length = cs.length := by rw [dxs.len, List.length_map]
  have ic : immL (cs.map cellD) = true := immL_map imm_cell _
  unfold t_Seller_close
  walk_at "go"
  refine l_tup (xs := xs) fun Dl H1 nD f1 e1 => ⟨fun i acc H' => acc = ((cs.take i).map M.fr).map V.int ∧ Fr [] H H', ⟨rfl, f1⟩, fun i acc H' q => SqT.of (q.2.tup _ _ ea), fun i y acc H' hy ha ⟨ea', f⟩ => ?_, fun acc H' ha ⟨ea', f⟩ => ?_⟩
  · obtain ⟨cc, ca, hcc, rfl, eca⟩ := cells_get (DaL.frL f dxs ic) hy
    have hck := ck0 cc (List.mem_of_getElem? hcc)
    have ep' := f.at0 e
    have ef' := f.at0 c.fr
    walk_at "go"
    refine ⟨rfl, ?_⟩
    walk_at "go"
    refine g_stG so hck ef' eca ?_
    have hal : acc.length ≤ 100 := by rw [ea', List.length_map, List.length_map, List.length_take]; omega
    refine lcY_of ha (szM (by omega)) fun H2 f2 e2 => ⟨?_, f.own1 f2 nD⟩
    rw [ea', take_more hcc, List.map_append, List.map_append]; rfl
  · rw [hxl, List.take_length] at ea'
    walk_at "go"
    rename_i t H2 n2 f2 e2
    have F2 : Fr [] H H2 := f.then0 f2
    have ep2 := F2.at0 e
    have ef2 := F2.at0 c.fr
    have ea2 := F2.tup _ _ ea
    have dxs2 := DaL.frL F2 dxs ic
    clear e1 f1 f2 f ha nD
    walk_at "go"
    refine f_tup (xs := xs) (fun i σ H' => (∃ v3, σ = [some (.ref s.p), some (.ref a), some (.ref t), v3]) ∧ Fr [s.fr] H2 H' ∧ H' s.fr = some (.dT (cD (stT S (clM M.fr (cs.take i)))))) ⟨⟨_, rfl⟩, Fr.refl, by rw [List.take_zero, clM_nil]; exact ef2⟩ (fun i σ H' _ ⟨_, f, _⟩ => SqT.of (f.tup _ _ ea2)) ?_ ?_
    · rintro i y σ H3 hy ⟨⟨v3, rfl⟩, f3, e3⟩
      obtain ⟨cc, ca, hcc, rfl, eca⟩ := cells_get (DaL.frL f3 dxs2 ic) hy
      have hck := ck0 cc (List.mem_of_getElem? hcc)
      have ep3 := f3.at ep2 (nin1 nd0.p_fr nin0)
      walk_at "go"
      refine g_stD so hck e3 eca fun H4 f4 e4 => ?_
      refine ⟨⟨_, rfl⟩, f3.transL f4, ?_⟩
      rw [e4, take_more hcc, clM_snoc]
    · rintro σ H3 ⟨⟨v3, rfl⟩, f3, e3⟩
      rw [hxl, List.take_length] at e3
      have x3 := (x.f0 F2).w_fr f3 e3
      obtain ⟨dx3, sv3, clv3, e3p, dS3, c3⟩ := x3.parts
      have da3 : Da H3 (.ref a) (cellsD cs) := Da.frL (f3.pre0' F2) dc (imm_cells cs)
      have et3 := f3.tup _ _ e2
      have G3 : Fr [s.fr] H H3 := f3.pre0' F2
      clear e ep2 ef2 f3 e3 F2
      walk_at "go"
      rename_i H4 f4 e4
      have x4 := x3.w_p (n' := M.n) (c' := some cs) f4 e4 dS3 (Da.frL f4 da3 (imm_cells cs))
      obtain ⟨io, os, eo, dox⟩ := c3.out
      have hol : os.length ≤ 200000 := by rw [dox.len, List.length_map]; have := sz.out; show M.out.length ≤ _; omega
      have eo4 := f4.at eo (nin1 nd0.p_out.symm nin0)
      walk_at "go"
      rename_i t5 H5 n5 f5 e5 H6 f6 e6
      have dts : Da H5 (.ref t) (rowD (cs.map M.fr)) := by
        have h := f5.tup _ _ (f4.tup _ _ et3)
        rw [ea'] at h
        exact .tup h (by rw [List.length_map, List.length_map]; omega) (DaL.ofInts _)
      refine kk H6 ((((G3.in1 s.m_fr).transL (f4.in1 s.m_p)).then0 f5).transL (f6.in1 s.m_out)) ?_
      refine (x4.f0 f5).w_out (v := M.out ++ [.closed (cs.map M.fr)]) f6 ?_
      rw [List.map_append]
      exact LsAt.snoc (DaL.frL f5 (DaL.frL f4 dox io) io) io (.tup e5 (Nat.le_of_ble_eq_true rfl) (.cons (.str _) (.one' dts))) (imm_up _) f6 e6
theorem ok_Seller_close {f : Addr} {fd : FuncData} (F : Fun K "close" "Seller.close" s_Seller_close f fd) (T : Txt K mg A)  : FnOk P w K mg base CX0 (1) f fd ["self", "cells"] (sp_Seller_close K A) := by
  refine F.ok sc_Seller_close (fun vs H Q E h => ?_) (fun cdv Ar outer s H vs Q E hr h => ⟨t_Seller_close K A, ?_, ?_⟩)
  · obtain ⟨x0, x1, rfl, _⟩ := h
    rfl
  · have hu := hu_of hr
    exact (pss_cons (ps_set (i := 2) sc_Seller_close.nd rfl (Or.inl rfl) (pe_callTy b_tuple (by rfl) T.b_tuple (by decide +kernel) (pa_cons (pe_lc (own := [("cell", 3)]) (g := (gName 3)) (tt := tYes) rfl sc_Seller_close.nd (pi_tup (pv 1)) (blkOk_by (N := ["self", "cells", "counts", "cell"]) (sc := defScope s_Seller_close) (own := [("cell", 3)]) (by decide +kernel)) (fun _ _ _ _ _ => (pg_name (i := 3) sc_Seller_close.nd rfl (Or.inl rfl))) (fun _ _ _ _ _ => pts_nil) (fun _ _ _ _ _ => (pe_dget hu (pe_fld (pv 0) rfl) (pv 3) (fun _ _ => rfl)))) pa_nil)))
    (pss_cons (ps_for PassesOwn.never rfl (pi_tup (pv 1)) (pg_name (i := 3) sc_Seller_close.nd rfl (Or.inl rfl)) (pss_one (ps_dput hu (pe_fld (pv 0) rfl) (pv 3) pe_int rfl)))
    (pss_cons (ps_fld (pv 0) (pv 1) rfl)
    (pss_one (ps_expr (pe_bm PySem.F.plainAttrs_list PySem.F.slot_list_append PySem.F.type_list_append mt_append (pe_fld (pv 0) rfl) (pa_cons (pe_tup (pa_cons pe_str (pa_cons (pv 2) pa_nil))) pa_nil)))))))
  · obtain ⟨x0, x1, rfl, h⟩ := h
    exact pu_Seller_close T h

theorem subZ_snoc (f : Cell → Int) (l : List (Cell × Int)) (e : Cell × Int) : subZ f (l ++ [e]) = fset (subZ f l) e.1 (subZ f l e.1 - e.2) := by unfold subZ; rw [List.foldl_append]; rfl
theorem addZ_snoc (f : Cell → Int) (l : List (Cell × Int)) (e : Cell × Int) : addZ f (l ++ [e]) = fset (addZ f l) e.1 (addZ f l e.1 + e.2) := by unfold addZ; rw [List.foldl_append]; rfl
theorem zip_get {α β : Type} {l : List α} {m : List β} {i : Nat} {a : α} {b : β} (h1 : l[i]? = some a) (h2 : m[i]? = some b) : (l.zip m)[i]? = some (a, b) := List.getElem?_zip_eq_some.mpr ⟨h1, h2⟩
theorem al_put {H H' : Hp} {l : List Addr} {p : Addr} {o : HO} (s : AL H l) (f : Fr [p] H H') (e : H' p = some o) : AL H' l := ⟨s.1, fun a ha => by
  by_cases z : a = p
  · rw [z]; exact ⟨_, e⟩
  · obtain ⟨u, q⟩ := s.2 a ha; exact ⟨u, f.at q (nin1 z nin0)⟩⟩

/-- behind an answer -/
def SM.ans (S : Setup) (an : Option (Int × Bool)) (M : SM) : SM := match an with
  | none => M
  | some a => M.answered S a.1 a.2
theorem reopen_def (S : Setup) (cs : List Int) (an : Option (Int × Bool)) (M : SM) : M.reopen S cs an = ((SM.ans S an { M with fr := addZ M.fr ((M.cl.getD []).zip cs), cl := none }).wt.foldl (SM.again S) { (SM.ans S an { M with fr := addZ M.fr ((M.cl.getD []).zip cs), cl := none }) with wt := [] }) := by cases an <;> rfl
theorem ans_ok {S : Setup} {an : Option (Int × Bool)} {M : SM} (m : M.Ok S) : (SM.ans S an M).Ok S := by
  cases an with
  | none => exact m
  | some a => exact answered_ok m
theorem ans_sz {S : Setup} {an : Option (Int × Bool)} {b : Nat} {M : SM} (m : M.Sz b) : (SM.ans S an M).Sz (b + 1) := by
  cases an with
  | none => exact m.mono (Nat.le_succ _)
  | some a => exact answered_sz m
theorem again_n {S : Setup} {M : SM} {e : Int × Deed} : (M.again S e).n = M.n := by
  unfold SM.again
  split
  · rfl
  · have deal : ∀ p o, (M.deal S e.1 e.2 p o).n = M.n := fun p o => by
      unfold SM.deal; split
      · cases e.2 <;> rfl
      · rfl
    cases h : e.2 with
    | wish p => rw [← h]; have := deal p []; rw [h] at this ⊢; exact this
    | cancel k =>
      show (match lk M.vo k with | none => M.tell e.1 false | some o => _ : SM).n = _
      cases lk M.vo k <;> rfl
    | change k p =>
      show (match lk M.vo k with | none => M.tell e.1 false | some o => M.deal S e.1 (.change k p) p o : SM).n = _
      cases lk M.vo k with
      | none => rfl
      | some o => have := deal p o; rw [h] at this; exact this
def P_Seller_reopen (K : PySem.W.Frag) (A : Ad) (x0 x1 x2 : V) (H : Hp) (Q : VK) : Prop := ∃ (s : SP) (S : Setup) (num : Int) (M : SM) (cs : List Int) (an : Option (Int × Bool)) (l : List Cell), x0 = .ref s.p ∧ SellerAt A H s S num M ∧ Da H x1 (rowD cs) ∧ Da H x2 (ansD an) ∧ SetupOk S ∧ M.Ok S ∧ M.Sz 1000 ∧ M.cl = some l ∧ cs.length = l.length ∧ (∀ a, an = some a → (lk M.ask a.1).isSome = true) ∧
  ∀ (o : Addr) (H' : Hp), H o = none → Fr s.os H H' → SellerAt A H' { s with wt := o } S num (M.reopen S cs an) → Q .non H'
def sp_Seller_reopen (K : PySem.W.Frag) (A : Ad) : Sp := fun vs H Q _ => ∃ x0 x1 x2, vs = [x0, x1, x2] ∧ P_Seller_reopen K A x0 x1 x2 H Q
theorem c_Seller_reopen {K : PySem.W.Frag} {A : Ad} {x0 x1 x2 : V} {H : Hp} {Q : VK} {E : XK} (h : P_Seller_reopen K A x0 x1 x2 H Q) : sp_Seller_reopen K A [x0, x1, x2] H Q E := ⟨_, _, _, rfl, h⟩
theorem sc_Seller_reopen : FnScope ["self", "counts", "answer", "cell", "many", "number", "granted", "deed", "waiting"] ["self", "counts", "answer"] (defScope s_Seller_reopen) := ⟨rfl, rfl, rfl, by decide +kernel, rfl, by decide +kernel, by decide +kernel⟩
def t_Seller_reopen (K : PySem.W.Frag) (A : Ad) : TS :=
  (tSeq (tFor (RZ.iZipA K (tCons (tFld K (tVar 0) "closing") (tCons (tVar 1) tNil))) (gTup K 2 (gCons (gName 3) (gCons (gName 4) gNil))) (sDAug (tFld K (tVar 0) "free") (tVar 3) (tVar 4) rAdd))
    (tSeq (sFld K (tVar 0) (tC .non) "closing")
    (Evl.tCut (tIfS (tTest (tOp rIsNotNon (tVar 2) (tC .non))) (tSeq (tAsg (tVar 2) (gTup K 2 (gCons (gName 5) (gCons (gName 6) gNil))))
    (tSeq (tAsg (tDPop1 (tFld K (tVar 0) "asked") (tVar 5)) (gName 7))
    (Evl.tCut (tIfS (tTr K (tVar 6)) (tDrop (tMt A.Seller "keep" (sp_Seller_keep K A) (tVar 0) (tCons (tVar 5) (tCons (tVar 7) tNil)))) tNext)
    (tDrop (tBM K "list" rAppend (tFld K (tVar 0) "told") (tCons (tTup (tCons (tVar 5) (tCons (tVar 6) tNil))) tNil)))))) tNext)
    (tSeq (tAsg (tFld K (tVar 0) "waiting") (gName 8))
    (tSeq (sFld K (tVar 0) (tLst tNil) "waiting")
    (tFor (iList K (tVar 8)) (gTup K 2 (gCons (gName 5) (gCons (gName 7) gNil))) (tIfS (tB (tMt A.Seller "must_wait" (sp_Seller_must_wait K A) (tVar 0) (tCons (tVar 7) tNil))) (tDrop (tBM K "list" rAppend (tFld K (tVar 0) "waiting") (tCons (tTup (tCons (tVar 5) (tCons (tVar 7) tNil))) tNil))) (tDrop (tMt A.Seller "do" (sp_Seller_do K A) (tVar 0) (tCons (tVar 5) (tCons (tVar 7) tNil)))))))))))
theorem pu_Seller_reopen (T : Txt K mg A) {x0 x1 x2 : V} {H : Hp} {Q : VK} (h : P_Seller_reopen K A x0 x1 x2 H Q) : t_Seller_reopen K A { nx := fun _ H' => Q .non H', rt := Q } [some x0, some x1, some x2, none, none, none, none, none, none] H := by
  obtain ⟨s, S, num, M, cs, an, l, rfl, x, dcs, dan, so, mo, sz, hcl, hl, han, kk⟩ := h
  have nd0 := x.nd
  obtain ⟨dx, sv, clv, e, dS, c⟩ := x.parts
  have dcl := c.clv
  rw [hcl] at dcl
  obtain ⟨hlk, hll⟩ := mo.ck l hcl
  obtain ⟨b, ts, rfl, eb, _, dts⟩ := dcl.tup1
  obtain ⟨cp, rfl, ecp⟩ := ints_at dcs
  have htl : ts.length = l.length := by rw [dts.len, List.length_map]
  have ic : immL (l.map cellD) = true := immL_map imm_cell _
  unfold t_Seller_reopen
  walk_at "go"
  refine f_zipT (xs := ts) (ys := cs.map V.int) (by rw [List.length_map, htl, hl]) (fun j σ H' => (∃ v3 v4, σ = [some (.ref s.p), some (.ref cp), some x2, v3, v4, none, none, none, none]) ∧ Fr [s.fr] H H' ∧ H' s.fr = some (.dT (cD (stT S (addZ M.fr ((l.zip cs).take j)))))) ⟨⟨_, _, rfl⟩, Fr.refl, c.fr⟩ (fun j σ H' ⟨_, f, _⟩ => ⟨SqT.of (f.tup _ _ eb), SqT.of (f.tup _ _ ecp)⟩) ?_ ?_
  · rintro j x y T σ H2 H3 hx hy ⟨⟨v3, v4, rfl⟩, f2, s2⟩ nT f3 e3
    obtain ⟨w, ca, hw, rfl, eca⟩ := cells_get (DaL.frL f3 (DaL.frL f2 dts ic) ic) hx
    obtain ⟨m, rfl, hm, _⟩ := getI hy
    have hwk := hlk w (List.mem_of_getElem? hw)
    have hzip := zip_get hw hm
    have s3 := f3.at0 s2
    have ep3 := f3.at0 (f2.at e (nin1 nd0.p_fr nin0))
    rw [take_more hzip, addZ_snoc]
    generalize addZ M.fr ((l.zip cs).take j) = g at *
    walk_at "go"
    refine g_stA so hwk s3 eca ?_
    walk_at "go"
    refine g_stP so hwk s3 eca fun H4 f4 e4 => ?_
    exact ⟨⟨_, _, rfl⟩, (f2.then0 f3).transL f4, e4⟩
  · rintro σ H2 ⟨⟨v3, v4, rfl⟩, f2, s2⟩
    have hfull : (l.zip cs).take ts.length = l.zip cs := List.take_of_length_le (by rw [List.length_zip, htl, hl]; omega)
    rw [hfull] at s2
    have x2' := x.w_fr f2 s2
    have e2 := f2.at e (nin1 nd0.p_fr nin0)
    have dan2 := Da.frL f2 dan (imm_ans an)
    walk_at "go"
    rename_i H3 f3 e3
    have x3 := x2'.w_p (n' := M.n) (c' := none) f3 e3 (Da.frL f2 dS (imm_setup S)) .non
    have dan3 := Da.frL f3 dan2 (imm_ans an)
    have F3 : Fr s.os H H3 := (f2.in1 s.m_fr).transL (f3.in1 s.m_p)
    have mo1 : SM.Ok S { M with fr := addZ M.fr (l.zip cs), cl := none } := ⟨mo.vk, mo.vn, mo.ak, mo.an, mo.ac, mo.wk, fun _ h => (by cases h)⟩
    have sz1 : SM.Sz 1000 { M with fr := addZ M.fr (l.zip cs), cl := none } := ⟨sz.bk, sz.out, sz.told, sz.vo, sz.ask⟩
    have hre := reopen_def S cs an M
    rw [hcl] at hre
    have han1 : ∀ a, an = some a → (lk (SM.ask { M with fr := addZ M.fr (l.zip cs), cl := none }) a.1).isSome = true := han
    have hre1 : M.reopen S cs an = ((SM.ans S an { M with fr := addZ M.fr (l.zip cs), cl := none }).wt.foldl (SM.again S) { (SM.ans S an { M with fr := addZ M.fr (l.zip cs), cl := none }) with wt := [] }) := hre
    rw [hre1] at kk
    have x3 : SellerAt A H3 s S num { M with fr := addZ M.fr (l.zip cs), cl := none } := x3
    clear hre hre1 han x2' x e e2 e3 f2 f3 s2 dan dan2 dcs dcl dts c dS hcl hfull eb ecp mo sz hlk hll
    generalize hM1 : { M with fr := addZ M.fr (l.zip cs), cl := none } = M1 at *
    refine g_cut (fun σ H' => (∃ v3 v4 v5 v6 v7, σ = [some (.ref s.p), some (.ref cp), some x2, v3, v4, v5, v6, v7, none]) ∧ Fr s.os H3 H' ∧ SellerAt A H' s S num (SM.ans S an M1)) ?_ ?_
    · cases an with
      | none =>
        cases dan3
        walk_at "go"
        refine g_iteN (fun z => absurd rfl z) (fun _ => ?_)
        walk_at "go"
        exact ⟨⟨_, _, _, _, _, rfl⟩, Fr.refl, x3⟩
      | some a =>
        obtain ⟨t, ws, rfl, et, _, qt⟩ := Da.tup1 dan3
        obtain ⟨y, z, rfl, d1, d2⟩ := qt.two
        cases d1.int1
        have hz : z = .bl a.2 := by cases d2; rfl
        subst hz
        have hs := han1 a rfl
        obtain ⟨dx3, sv3, clv3, e3p, _, c3⟩ := x3.parts
        obtain ⟨akv, eak, rak⟩ := c3.ask
        rcases DkR.look rak a.1 with ⟨h1, _⟩ | ⟨dv, d, h1, h2, h3⟩
        · rw [h1] at hs; cases hs
        have hdk := mo1.ak _ (lk_some h1)
        have hac := mo1.ac _ (lk_some h1)
        walk_at "go"
        refine g_iteN (fun _ => ?_) (fun z => by cases z)
        walk_at "go"
        refine g_rpopI eak h2 fun H4 f4 e4 => ?_
        have x4 := x3.w_ask (v := dr M1.ask a.1) f4 ⟨_, e4, by unfold askT; rw [← dr_mp]; exact (rak.fr f4).drop a.1⟩
        have dd4 := Da.frL f4 h3 (imm_deed d)
        have mo4 : SM.Ok S { M1 with ask := dr M1.ask a.1 } := ⟨mo1.vk, mo1.vn, fun e he => mo1.ak e (List.mem_filter.mp he).1, dr_nd mo1.an _, fun e he => mo1.ac e (List.mem_filter.mp he).1, mo1.wk, mo1.ck⟩
        have hdl := dr_len1 M1.ask a.1
        have sz4 : SM.Sz 1000 { M1 with ask := dr M1.ask a.1 } := ⟨sz1.bk, sz1.out, sz1.told, sz1.vo, by have := sz1.ask; show (dr M1.ask a.1).length + M1.wt.length ≤ _; omega⟩
        have hans : SM.ans S (some a) M1 = SM.tell a.1 a.2 (if a.2 = true then SM.kept S a.1 d { M1 with ask := dr M1.ask a.1 } else { M1 with ask := dr M1.ask a.1 }) := by
          show M1.answered S a.1 a.2 = _
          unfold SM.answered
          rw [h1]; rfl
        rw [hans]
        have hac2 : AskOk (SM.vo { M1 with ask := dr M1.ask a.1 }) d := hac
        have ht : (if a.2 = true then SM.kept S a.1 d { M1 with ask := dr M1.ask a.1 } else { M1 with ask := dr M1.ask a.1 }).told = M1.told := by
          split
          · cases d <;> rfl
          · rfl
        have htl := sz1.told
        generalize hM2 : { M1 with ask := dr M1.ask a.1 } = M2 at *
        walk_at "go"
        refine g_cut (fun σ H' => σ = [some (.ref s.p), some (.ref cp), some (.ref t), v3, v4, some (.int a.1), some (.bl a.2), some dv, none] ∧ Fr s.os H4 H' ∧ SellerAt A H' s S num (if a.2 = true then SM.kept S a.1 d M2 else M2)) ?_ ?_
        · obtain ⟨dx4, sv4, clv4, e4p, _, c4⟩ := x4.parts
          walk_at "go"
          refine ⟨a.2, (show TruV K (.bl a.2) H4 a.2 from rfl), ?_⟩
          refine g_iteB (fun hg => ?_) (fun hg => ?_)
          · walk_at "go"
            refine c_Seller_keep ⟨s, S, num, M2, a.1, d, rfl, x4, rfl, dd4, so, mo4, hdk, hac2, sz4.mono (by decide), fun H5 f5 x5 => ?_⟩
            walk_at "go"
            exact ⟨rfl, f5, by rw [if_pos hg]; exact x5⟩
          · walk_at "go"
            exact ⟨rfl, Fr.refl, by rw [if_neg (by rw [hg]; decide)]; exact x4⟩
        · rintro σ H5 ⟨rfl, f5, x5⟩
          obtain ⟨dx5, sv5, clv5, e5p, _, c5⟩ := x5.parts
          obtain ⟨it, us, eu, du⟩ := c5.told
          have hul : us.length ≤ 200000 := by rw [du.len, List.length_map, ht]; omega
          walk_at "go"
          rename_i t6 H6 n6 f6 e6 H7 f7 e7
          exact ⟨⟨_, _, _, _, _, rfl⟩, (((f4.in1 s.m_ask).transL f5).then0 f6).transL (f7.in1 s.m_told), tell_at x5 du f6 e6 f7 e7⟩
    · rintro σ H4 ⟨⟨v3, v4, v5, v6, v7, rfl⟩, f4, x4⟩
      have mo4 := ans_ok (an := an) mo1
      have sz4 := ans_sz (S := S) (an := an) sz1
      generalize SM.ans S an M1 = M4 at *
      obtain ⟨dx4, sv4, clv4, e4p, dS4, c4⟩ := x4.parts
      obtain ⟨iw, ws, ew, dw⟩ := c4.wt
      have al4 := x4.2
      have nd4 := x4.nd
      walk_at "go"
      rename_i o H5 n5 f5 e5 H6 f6 e6
      have np : ∀ {a : Addr}, a ≠ s.p → a ∉ [s.p] := fun q => nin1 q nin0
      have no : o ∉ s.os := x4.nin n5
      have nos : ∀ a ∈ s.os, a ≠ o := fun a ha z => no (by rw [← z]; exact ha)
      have nop : o ≠ s.p := (nos _ s.m_p).symm
      have F : Fr [s.p] H4 H6 := f6.pre0' f5
      have a5 := al4.new f5 n5 e5
      have x6 : SellerAt A H6 { s with wt := o } S num { M4 with wt := [] } := by
        refine ⟨⟨dx4, sv4, clv4, e6, Da.frL F dS4 (imm_setup S), ⟨F.at c4.fr (np nd4.p_fr.symm), c4.vo.fr F (np nd4.p_vo.symm), c4.bk.fr F (np nd4.p_bk.symm), c4.ask.fr F (np nd4.p_ask.symm), LsAt.nil (f6.at e5 (np nop)), c4.out.fr F (np nd4.p_out.symm), c4.told.fr F (np nd4.p_told.symm), Da.frL F c4.clv (imm_clos _)⟩⟩, ?_⟩
        have s2 : AL H6 (o :: s.os) := ⟨a5.1, fun a ha => by
          by_cases z : a = s.p
          · rw [z]; exact ⟨_, e6⟩
          · obtain ⟨u, eu⟩ := a5.2 a ha; exact ⟨u, f6.at eu (np z)⟩⟩
        have p1 : (o :: s.os).Perm (s.wt :: [s.p, s.fr, s.vo, s.bk, s.ask, o, s.out, s.told]) := by
          unfold SP.os
          refine (List.perm_middle (l₁ := [o, s.p, s.fr, s.vo, s.bk, s.ask]) (l₂ := [s.out, s.told]) (a := s.wt)).trans ?_
          exact List.Perm.cons _ (List.perm_middle (l₁ := [s.p, s.fr, s.vo, s.bk, s.ask]) (l₂ := [s.out, s.told]) (a := o)).symm
        have s3 := s2.perm p1
        exact ⟨(List.nodup_cons.mp s3.1).2, fun a ha => s3.2 a (List.mem_cons_of_mem _ ha)⟩
      have hos' : ∀ a ∈ SP.os { s with wt := o }, a ∈ s.os ∨ a = o := fun a ha => by
        have ha' : a = s.p ∨ a = s.fr ∨ a = s.vo ∨ a = s.bk ∨ a = s.ask ∨ a = o ∨ a = s.out ∨ a = s.told := by simpa [SP.os] using ha
        rcases ha' with z | z | z | z | z | z | z | z
        · exact .inl (by rw [z]; exact s.m_p)
        · exact .inl (by rw [z]; exact s.m_fr)
        · exact .inl (by rw [z]; exact s.m_vo)
        · exact .inl (by rw [z]; exact s.m_bk)
        · exact .inl (by rw [z]; exact s.m_ask)
        · exact .inr z
        · exact .inl (by rw [z]; exact s.m_out)
        · exact .inl (by rw [z]; exact s.m_told)
      have nwt : s.wt ∉ SP.os { s with wt := o } := by
        have h1 := nos s.wt s.m_wt
        unfold SP.os
        simp only [List.mem_cons, List.not_mem_nil, or_false, not_or]
        exact ⟨nd4.p_wt.symm, nd4.fr_wt.symm, nd4.vo_wt.symm, nd4.bk_wt.symm, nd4.ask_wt.symm, h1, nd4.wt_out, nd4.wt_told⟩
      have ew6 := F.at ew (np nd4.p_wt.symm)
      have dw6 := DaL.frL F dw iw
      have F4 : Fr s.os H H4 := F3.transL f4
      have no0 : H o = none := F4.freeL n5 no
      have F6 : Fr s.os H H6 := F4.transL (F.in1 s.m_p)
      have mo6 : SM.Ok S { M4 with wt := [] } := ⟨mo4.vk, mo4.vn, mo4.ak, mo4.an, mo4.ac, fun _ h => (nomatch h), mo4.ck⟩
      have hwl : M4.wt.length ≤ 1001 := by have := sz4.bk; omega
      have sz6 : SM.Sz 1001 { M4 with wt := [] } := ⟨by have := sz4.bk; show M4.bk.length + 0 ≤ _; omega, by have := sz4.out; show M4.out.length + 0 ≤ _; omega, by have := sz4.told; show M4.told.length + 0 ≤ _; omega, by have := sz4.vo; show M4.vo.length + 0 ≤ _; omega, by have := sz4.ask; show M4.ask.length + 0 ≤ _; omega⟩
      have hwk := mo4.wk
      have hwsl : ws.length = M4.wt.length := by rw [dw.len, List.length_map]
      clear e6 e5 f5 f6 F c4 e4p ew dw al4 a5 f4 F3 x3 mo4 sz4 mo1 sz1 han1
      refine g_riL (SqL.of ew6) ?_
      refine f_list (xs := ws) (fun i σ H' => (∃ v5 v6 v7, σ = [some (.ref s.p), some (.ref cp), some x2, v3, v4, v5, v6, v7, some (.ref s.wt)]) ∧ Fr (SP.os { s with wt := o }) H6 H' ∧ SellerAt A H' { s with wt := o } S num ((M4.wt.take i).foldl (SM.again S) { M4 with wt := [] })) ⟨⟨_, _, _, rfl⟩, Fr.refl, x6⟩ (fun i σ H' _ ⟨_, f, _⟩ => SqL.of (f.at ew6 nwt)) ?_ ?_
      · rintro i y σ H7 hy ⟨⟨v5, v6, v7, rfl⟩, f7, x7⟩
        have moi := agains_ok (S := S) (M4.wt.take i) mo6 (fun e he => hwk e (List.mem_of_mem_take he))
        have szi := (agains_sz (S := S) (M4.wt.take i) sz6).mono (show 1001 + (M4.wt.take i).length ≤ 3000 by rw [List.length_take]; omega)
        obtain ⟨z, hz, dz⟩ := (DaL.frL f7 dw6 iw).get hy
        rw [List.getElem?_map] at hz
        have ⟨ei, hei, hez⟩ : ∃ ei, M4.wt[i]? = some ei ∧ wtD ei = z := by
          cases q : M4.wt[i]? with
          | none => rw [q] at hz; cases hz
          | some ei => rw [q] at hz; exact ⟨ei, rfl, Option.some.inj hz⟩
        subst hez
        have hek := hwk ei (List.mem_of_getElem? hei)
        rw [take_more hei, List.foldl_append]
        generalize (M4.wt.take i).foldl (SM.again S) { M4 with wt := [] } = Mi at *
        obtain ⟨t, us, rfl, et, _, qt⟩ := Da.tup1 dz
        obtain ⟨u1, u2, rfl, d1, d2⟩ := qt.two
        cases d1.int1
        obtain ⟨dx7, sv7, clv7, e7p, _, c7⟩ := x7.parts
        obtain ⟨iw7, ws7, ew7, dw7⟩ := c7.wt
        have hwl7 : ws7.length ≤ 200000 := by rw [dw7.len, List.length_map]; have := szi.bk; omega
        walk_at "go"
        refine c_Seller_must_wait ⟨{ s with wt := o }, S, num, Mi, ei.2, rfl, x7, d2, so, moi, hek, fun H8 f8 => ?_⟩
        have x8 := x7.f0 f8
        have d8 := Da.frL f8 d2 (imm_deed _)
        obtain ⟨dx8, sv8, clv8, e8p, _, _⟩ := x8.parts
        have ew8 := f8.at0 ew7
        have dw8 := DaL.frL f8 dw7 iw7
        walk_at "go"
        refine g_iteB (fun hh => ?_) (fun hh => ?_)
        · walk_at "go"
          rename_i t9 H9 n9 f9 e9 H10 f10 e10
          have hd : SM.again S Mi ei = { Mi with wt := Mi.wt ++ [ei] } := if_pos hh
          refine ⟨⟨_, _, _, rfl⟩, ((f7.then0 f8).then0 f9).transL (f10.in1 (SP.m_wt _)), ?_⟩
          show SellerAt A H10 _ S num (SM.again S Mi ei)
          rw [hd]
          exact wait_at x8 dw8 f9 e9 d8 f10 e10
        · walk_at "go"
          refine c_Seller_do ⟨{ s with wt := o }, S, num, Mi, ei.1, ei.2, rfl, x8, rfl, d8, so, moi, hek, szi.mono (by decide), fun H9 f9 x9 => ?_⟩
          have hd : SM.again S Mi ei = Mi.doit S ei.1 ei.2 := if_neg (by rw [hh]; decide)
          walk_at "go"
          refine ⟨⟨_, _, _, rfl⟩, (f7.then0 f8).transL f9, ?_⟩
          show SellerAt A H9 _ S num (SM.again S Mi ei)
          rw [hd]
          exact x9
      · rintro σ H7 ⟨⟨v5, v6, v7, rfl⟩, f7, x7⟩
        rw [hwsl, List.take_length] at x7
        exact kk o H7 no0 (F6.own f7 fun a ha => (hos' a ha).imp id fun q => by rw [q]; exact no0) x7
theorem ok_Seller_reopen {f : Addr} {fd : FuncData} (F : Fun K "reopen" "Seller.reopen" s_Seller_reopen f fd) (T : Txt K mg A) (c_Seller_must_wait : CalM P w K mg base A.Seller "must_wait" 3 ["self", "deed"] (sp_Seller_must_wait K A)) (c_Seller_keep : CalM P w K mg base A.Seller "keep" 5 ["self", "number", "deed"] (sp_Seller_keep K A)) (c_Seller_do : CalM P w K mg base A.Seller "do" 6 ["self", "number", "deed"] (sp_Seller_do K A)) : FnOk P w K mg base CX0 (7) f fd ["self", "counts", "answer"] (sp_Seller_reopen K A) := by
  refine F.ok sc_Seller_reopen (fun vs H Q E h => ?_) (fun cdv Ar outer s H vs Q E hr h => ⟨t_Seller_reopen K A, ?_, ?_⟩)
  · obtain ⟨x0, x1, x2, rfl, _⟩ := h
    rfl
  · have hu := hu_of hr
    exact (pss_cons (ps_for PassesOwn.never rfl (RZ.pi_zipA (by rfl) T.b_zip (pa_cons (pe_fld (pv 0) rfl) (pa_cons (pv 1) pa_nil))) (pg_tup rfl (pgs_cons (pg_name (i := 3) sc_Seller_reopen.nd rfl (Or.inl rfl)) (pgs_cons (pg_name (i := 4) sc_Seller_reopen.nd rfl (Or.inl rfl)) pgs_nil))) (pss_one (ps_daug hu (pe_fld (pv 0) rfl) (pv 3) (pv 4) in_add (fun _ _ _ => rfl))))
    (pss_cons (ps_fld (pv 0) pe_non rfl)
    (Evl.pss_cut (ps_if (pt_cmpR c_notN (pv 2) pe_non (nomark _)) (pss_cons (ps_asg (pv 2) (pg_tup rfl (pgs_cons (pg_name (i := 5) sc_Seller_reopen.nd rfl (Or.inl rfl)) (pgs_cons (pg_name (i := 6) sc_Seller_reopen.nd rfl (Or.inl rfl)) pgs_nil))))
    (pss_cons (ps_set (i := 7) sc_Seller_reopen.nd rfl (Or.inl rfl) (pe_dpop1 (pe_fld (pv 0) rfl) (pv 5) ⟨rfl, rfl, rfl, rfl⟩))
    (Evl.pss_cut (ps_if (pt_tr (pv 6) (by intro _; rfl)) (pss_one (ps_expr (pe_mt (pv 0) T.cl_Seller c_Seller_keep (hr.mono (by first | decide | omega)) (pa_cons (pv 5) (pa_cons (pv 7) pa_nil))))) pss_nil)
    (pss_one (ps_expr (pe_bm PySem.F.plainAttrs_list PySem.F.slot_list_append PySem.F.type_list_append mt_append (pe_fld (pv 0) rfl) (pa_cons (pe_tup (pa_cons (pv 5) (pa_cons (pv 6) pa_nil))) pa_nil))))))) pss_nil)
    (pss_cons (ps_set (i := 8) sc_Seller_reopen.nd rfl (Or.inl rfl) (pe_fld (pv 0) rfl))
    (pss_cons (ps_fld (pv 0) (pe_lst pa_nil) rfl)
    (pss_one (ps_for PassesOwn.never rfl (pi_list (pv 8)) (pg_tup rfl (pgs_cons (pg_name (i := 5) sc_Seller_reopen.nd rfl (Or.inl rfl)) (pgs_cons (pg_name (i := 7) sc_Seller_reopen.nd rfl (Or.inl rfl)) pgs_nil))) (pss_one (ps_if (pt_val (pe_mt (pv 0) T.cl_Seller c_Seller_must_wait (hr.mono (by first | decide | omega)) (pa_cons (pv 7) pa_nil))) (pss_one (ps_expr (pe_bm PySem.F.plainAttrs_list PySem.F.slot_list_append PySem.F.type_list_append mt_append (pe_fld (pv 0) rfl) (pa_cons (pe_tup (pa_cons (pv 5) (pa_cons (pv 7) pa_nil))) pa_nil)))) (pss_one (ps_expr (pe_mt (pv 0) T.cl_Seller c_Seller_do (hr.mono (by first | decide | omega)) (pa_cons (pv 5) (pa_cons (pv 7) pa_nil))))))))))))))
  · obtain ⟨x0, x1, x2, rfl, h⟩ := h
    exact pu_Seller_reopen T h

/-- behind a method of the seller -/
def SRes (A : Ad) (H : Hp) (s : SP) (S : Setup) (num : Int) (M : SM) (Q : Hp → Prop) : Prop := ∀ (s' : SP) (H' : Hp), s'.p = s.p → Fr s.os H H' → (∀ a ∈ s'.os, a ∈ s.os ∨ H a = none) → SellerAt A H' s' S num M → Q H'
def P_Seller_handle (K : PySem.W.Frag) (A : Ad) (x0 x1 : V) (H : Hp) (Q : VK) : Prop := ∃ (s : SP) (S : Setup) (num : Int) (M : SM) (b : DnB), x0 = .ref s.p ∧ SellerAt A H s S num M ∧ Da H x1 (dnD b) ∧ SetupOk S ∧ M.Ok S ∧ DnOk S M b ∧ M.Sz 1000 ∧
  SRes A H s S num (M.handle S b) (fun H' => Q .non H')
def sp_Seller_handle (K : PySem.W.Frag) (A : Ad) : Sp := fun vs H Q _ => ∃ x0 x1, vs = [x0, x1] ∧ P_Seller_handle K A x0 x1 H Q
theorem c_Seller_handle {K : PySem.W.Frag} {A : Ad} {x0 x1 : V} {H : Hp} {Q : VK} {E : XK} (h : P_Seller_handle K A x0 x1 H Q) : sp_Seller_handle K A [x0, x1] H Q E := ⟨_, _, rfl, h⟩
theorem sc_Seller_handle : FnScope ["self", "body", "word"] ["self", "body"] (defScope s_Seller_handle) := ⟨rfl, rfl, rfl, by decide +kernel, rfl, by decide +kernel, by decide +kernel⟩
def t_Seller_handle (K : PySem.W.Frag) (A : Ad) : TS :=
  (tSeq (tAsg (tOp (rIxT K) (tVar 1) (tC (.int 0))) (gName 2))
    (tIfS (tTest (tOp rEq (tVar 2) (tC (.str "give")))) (sDAug (tFld K (tVar 0) "free") (tSl (rSlT K) (tVar 1) (tPart (tC (.int 1))) tNoPart) (tC (.int 1)) rAdd) (tIfS (tTest (tOp rEq (tVar 2) (tC (.str "close")))) (tDrop (tMt A.Seller "close" (sp_Seller_close K A) (tVar 0) (tCons (tOp (rIxT K) (tVar 1) (tC (.int 1))) tNil))) (tIfS (tTest (tOp rEq (tVar 2) (tC (.str "open")))) (tDrop (tMt A.Seller "reopen" (sp_Seller_reopen K A) (tVar 0) (tCons (tOp (rIxT K) (tVar 1) (tC (.int 1))) (tCons (tOp (rIxT K) (tVar 1) (tC (.int 2))) tNil)))) (tIfS (tAnd (tTest (tOp rEq (tVar 2) (tC (.str "want")))) (tTest (tOp cGt (tDGet (tFld K (tVar 0) "free") (tSl (rSlT K) (tVar 1) (tPart (tC (.int 1))) tNoPart)) (tC (.int 0))))) (tSeq (sDAug (tFld K (tVar 0) "free") (tSl (rSlT K) (tVar 1) (tPart (tC (.int 1))) tNoPart) (tC (.int 1)) rSub)
    (tDrop (tBM K "list" rAppend (tFld K (tVar 0) "outgoing") (tCons (tOp (rCatT K) (tTup (tCons (tC (.str "back")) tNil)) (tSl (rSlT K) (tVar 1) (tPart (tC (.int 1))) tNoPart)) tNil)))) tNext)))))
theorem pu_Seller_handle (T : Txt K mg A) {x0 x1 : V} {H : Hp} {Q : VK} (h : P_Seller_handle K A x0 x1 H Q) : t_Seller_handle K A { nx := fun _ H' => Q .non H', rt := Q } [some x0, some x1, none] H := by
  obtain ⟨s, S, num, M, b, rfl, x, db, so, mo, bok, sz, kk⟩ := h
  have nd0 := x.nd
  obtain ⟨dx, sv, clv, e, dS, c⟩ := x.parts
  have k0 : ∀ H' : Hp, Fr s.os H H' → SellerAt A H' s S num (M.handle S b) → Q .non H' := fun H' f z => kk s H' rfl f (fun a ha => .inl ha) z
  unfold t_Seller_handle
  cases b with
  | give w =>
    obtain ⟨a, xs, rfl, ea, _, q⟩ := Da.tup1 db
    obtain ⟨u1, u2, u3, rfl, d1, d2, d3⟩ := q.three
    cases d1.str1
    cases d2.int1
    cases d3.int1
    have hw : CellOk S w := bok
    walk_at "go"
    refine g_ite (fun _ => ?_) (fun z => absurd rfl z)
    walk_at "go"
    rename_i t H1 n1 f1 e1
    refine g_stA so hw (f1.at0 c.fr) e1 ?_
    walk_at "go"
    refine g_stP so hw (f1.at0 c.fr) e1 fun H2 f2 e2 => ?_
    walk_at "go"
    exact k0 H2 ((f2.in1 s.m_fr).pre0' f1) ((x.f0 f1).w_fr f2 e2)
  | close cs =>
    obtain ⟨a, xs, rfl, ea, _, q⟩ := Da.tup1 db
    obtain ⟨u1, u2, rfl, d1, d2⟩ := q.two
    cases d1.str1
    walk_at "go"
    refine g_ite (fun z => absurd z (by decide)) (fun _ => ?_)
    walk_at "go"
    refine g_ite (fun _ => ?_) (fun z => absurd rfl z)
    walk_at "go"
    refine c_Seller_close ⟨s, S, num, M, cs, rfl, x, d2, so, bok.1, bok.2, sz.mono (by decide), fun H1 f1 x1 => ?_⟩
    walk_at "go"
    exact k0 H1 f1 x1
  | opn cs an =>
    obtain ⟨a, xs, rfl, ea, _, q⟩ := Da.tup1 db
    obtain ⟨u1, u2, u3, rfl, d1, d2, d3⟩ := q.three
    cases d1.str1
    obtain ⟨⟨l, hcl, hl⟩, han⟩ := bok
    walk_at "go"
    refine g_ite (fun z => absurd z (by decide)) (fun _ => ?_)
    walk_at "go"
    refine g_ite (fun z => absurd z (by decide)) (fun _ => ?_)
    walk_at "go"
    refine g_ite (fun _ => ?_) (fun z => absurd rfl z)
    walk_at "go"
    refine c_Seller_reopen ⟨s, S, num, M, cs, an, l, rfl, x, d2, d3, so, mo, sz, hcl, hl, han, fun o H1 n1 f1 x1 => ?_⟩
    walk_at "go"
    refine kk { s with wt := o } H1 rfl f1 (fun a ha => ?_) x1
    have ha' : a = s.p ∨ a = s.fr ∨ a = s.vo ∨ a = s.bk ∨ a = s.ask ∨ a = o ∨ a = s.out ∨ a = s.told := by simpa [SP.os] using ha
    rcases ha' with z | z | z | z | z | z | z | z
    · exact .inl (by rw [z]; exact s.m_p)
    · exact .inl (by rw [z]; exact s.m_fr)
    · exact .inl (by rw [z]; exact s.m_vo)
    · exact .inl (by rw [z]; exact s.m_bk)
    · exact .inl (by rw [z]; exact s.m_ask)
    · exact .inr (by rw [z]; exact n1)
    · exact .inl (by rw [z]; exact s.m_out)
    · exact .inl (by rw [z]; exact s.m_told)
  | want w =>
    obtain ⟨a, xs, rfl, ea, _, q⟩ := Da.tup1 db
    obtain ⟨u1, u2, u3, rfl, d1, d2, d3⟩ := q.three
    cases d1.str1
    cases d2.int1
    cases d3.int1
    have hw : CellOk S w := bok
    walk_at "go"
    refine g_ite (fun z => absurd z (by decide)) (fun _ => ?_)
    walk_at "go"
    refine g_ite (fun z => absurd z (by decide)) (fun _ => ?_)
    walk_at "go"
    refine g_ite (fun z => absurd z (by decide)) (fun _ => ?_)
    walk_at "go"
    refine g_ite (fun _ => ?_) (fun z => absurd rfl z)
    walk_at "go"
    rename_i t H1 n1 f1 e1
    have x1 := x.f0 f1
    have ef1 := f1.at0 c.fr
    have ep1 := f1.at0 e
    have ea1 := f1.tup _ _ ea
    refine g_stG so hw ef1 e1 ?_
    walk_at "go"
    refine g_ite (fun hp => ?_) (fun hp => ?_)
    · walk_at "go"
      rename_i t2 H2 n2 f2 e2
      have ef2 := f2.at0 ef1
      refine g_stA so hw ef2 e2 ?_
      walk_at "go"
      refine g_stP so hw ef2 e2 fun H3 f3 e3 => ?_
      have x3 := (x1.f0 f2).w_fr f3 e3
      have ea3 := f3.tup _ _ (f2.tup _ _ ea1)
      obtain ⟨dx3, sv3, clv3, e3p, _, c3⟩ := x3.parts
      obtain ⟨io, os, eo, dox⟩ := c3.out
      have hol : os.length ≤ 200000 := by rw [dox.len, List.length_map]; have := sz.out; show M.out.length ≤ _; omega
      have F3 : Fr s.os H H3 := ((f3.in1 s.m_fr).pre0' f2).pre0' f1
      clear e1 e2 e3 f1 f2 f3 ef1 ef2 ep1 n1 n2
      walk_at "go"
      rename_i t4 H4 n4 f4 e4 t5 H5 n5 f5 e5
      refine g_catT (SqT.of (f5.at0 e4)) (SqT.of e5) (by simp) (Nat.le_of_ble_eq_true rfl) (fun z => by cases z) (fun _ t6 H6 n6 f6 e6 => ?_)
      have F6 : Fr [] H3 H6 := (f4.then0 f5).then0 f6
      walk_at "go"
      rename_i H7 f7 e7
      refine k0 H7 ((F3.then0 F6).transL (f7.in1 s.m_out)) ?_
      have hd : M.handle S (.want w) = { M with fr := fset M.fr w (M.fr w - 1), out := M.out ++ [.back w] } := if_pos hp
      rw [hd]
      refine (x3.f0 F6).w_out (v := M.out ++ [.back w]) f7 ?_
      rw [List.map_append]
      exact LsAt.snoc (DaL.frL F6 dox io) io (.tup e6 (Nat.le_of_ble_eq_true rfl) (.cons (.str _) (.cons (.int _) (.one' (.int _))))) (imm_up (.back w)) f7 e7
    · walk_at "go"
      refine k0 H1 f1.of0 ?_
      have hd : M.handle S (.want w) = M := if_neg hp
      rw [hd]; exact x1
theorem ok_Seller_handle {f : Addr} {fd : FuncData} (F : Fun K "handle" "Seller.handle" s_Seller_handle f fd) (T : Txt K mg A) (c_Seller_close : CalM P w K mg base A.Seller "close" 1 ["self", "cells"] (sp_Seller_close K A)) (c_Seller_reopen : CalM P w K mg base A.Seller "reopen" 7 ["self", "counts", "answer"] (sp_Seller_reopen K A)) : FnOk P w K mg base CX0 (8) f fd ["self", "body"] (sp_Seller_handle K A) := by
  refine F.ok sc_Seller_handle (fun vs H Q E h => ?_) (fun cdv Ar outer s H vs Q E hr h => ⟨t_Seller_handle K A, ?_, ?_⟩)
  · obtain ⟨x0, x1, rfl, _⟩ := h
    rfl
  · have hu := hu_of hr
    exact (pss_cons (ps_set (i := 2) sc_Seller_handle.nd rfl (Or.inl rfl) (pe_ix ix_tup (pv 1) pe_int (fun _ _ => rfl)))
    (pss_one (ps_if (pt_cmpR op_eq (pv 2) pe_str (nomark _)) (pss_one (ps_daug hu (pe_fld (pv 0) rfl) (pe_slice sl_tup (pv 1) (po_some pe_int) po_none) pe_int in_add (fun _ _ _ => rfl))) (pss_one (ps_if (pt_cmpR op_eq (pv 2) pe_str (nomark _)) (pss_one (ps_expr (pe_mt (pv 0) T.cl_Seller c_Seller_close (hr.mono (by first | decide | omega)) (pa_cons (pe_ix ix_tup (pv 1) pe_int (fun _ _ => rfl)) pa_nil)))) (pss_one (ps_if (pt_cmpR op_eq (pv 2) pe_str (nomark _)) (pss_one (ps_expr (pe_mt (pv 0) T.cl_Seller c_Seller_reopen (hr.mono (by first | decide | omega)) (pa_cons (pe_ix ix_tup (pv 1) pe_int (fun _ _ => rfl)) (pa_cons (pe_ix ix_tup (pv 1) pe_int (fun _ _ => rfl)) pa_nil))))) (pss_one (ps_if (PW.pt (pw_and (pt_cmpR op_eq (pv 2) pe_str (nomark _)) (pw_and1 (pt_cmpR c_gt (pe_dget hu (pe_fld (pv 0) rfl) (pe_slice sl_tup (pv 1) (po_some pe_int) po_none) (fun _ _ => rfl)) pe_int (nomark _))))) (pss_cons (ps_daug hu (pe_fld (pv 0) rfl) (pe_slice sl_tup (pv 1) (po_some pe_int) po_none) pe_int in_sub (fun _ _ _ => rfl))
    (pss_one (ps_expr (pe_bm PySem.F.plainAttrs_list PySem.F.slot_list_append PySem.F.type_list_append mt_append (pe_fld (pv 0) rfl) (pa_cons (pe_op op_catT (pe_tup (pa_cons pe_str pa_nil)) (pe_slice sl_tup (pv 1) (po_some pe_int) po_none)) pa_nil))))) pss_nil)))))))))
  · obtain ⟨x0, x1, rfl, h⟩ := h
    exact pu_Seller_handle T h

/-! ### the law's own seller -/
def FreeAt (H : Hp) (a : Addr) (S : Setup) (f : Cell → Int) : Prop := ∃ m : List (Cell × Int), H a = some (.dT (cD m)) ∧ Nd m ∧ (∀ e ∈ m, CellOk S e.1) ∧ ∀ c, (lk m c).getD 0 = f c
theorem FreeAt.fr {l : List Addr} {H H' : Hp} {a : Addr} {S : Setup} {g : Cell → Int} (h : FreeAt H a S g) (f : Fr l H H') (n : a ∉ l) : FreeAt H' a S g := by
  obtain ⟨m, e, h1, h2, h3⟩ := h
  exact ⟨m, f.at e n, h1, h2, h3⟩
theorem free_len {S : Setup} (so : SetupOk S) {m : List (Cell × Int)} (n : Nd m) (h : ∀ e ∈ m, CellOk S e.1) : (cD m).length ≤ 36 := by
  rw [enD_len]
  have h1 := List.Nodup.length_le_of_subset (l₁ := m.map fun e : Cell × Int => e.1) (l₂ := cellsAll S) n fun c hc => by
    obtain ⟨e, he, rfl⟩ := List.mem_map.mp hc
    exact (mem_cells so.n1).mpr (h e he)
  rw [List.length_map, cells_len] at h1
  have h3 := so.k3
  have h2 := so.n2
  exact Nat.le_trans h1 (Nat.le_trans (Nat.mul_le_mul h3 (show S.nights.toNat ≤ 12 by omega)) (by decide))
theorem g_frG {S : Setup} {a cd : Addr} {c : Cell} {g : Cell → Int} {H : Hp} {Q : VK} (h : FreeAt H a S g) (hc : H cd = some (.tup [.int c.1, .int c.2])) (q : Q (.int (g c)) H) : rDO a (.ref cd) (.int 0) H Q := by
  obtain ⟨m, e, h1, h2, h3⟩ := h
  refine g_dgo (k := ck c) (.inl e) hc ?_
  have : (valV (cD m) (ck c)).getD (.int 0) = .int (g c) := by
    rw [val_cell, ← h3 c]
    cases lk m c <;> rfl
  rw [this]; exact q
theorem g_frI {S : Setup} {a : Addr} {g : Cell → Int} {H : Hp} {P : Addr → Prop} (h : FreeAt H a S g) (q : P a) : rDG2 (.ref a) H P := by
  obtain ⟨m, e, _⟩ := h
  exact ⟨a, rfl, .inr ⟨cD m, .inl e⟩, q⟩
theorem FreeAt.put {S : Setup} {a : Addr} {c : Cell} {g : Cell → Int} {v : Int} {H H' : Hp} {m : List (Cell × Int)} (ok : CellOk S c) (h1 : Nd m) (h2 : ∀ e ∈ m, CellOk S e.1) (h3 : ∀ c, (lk m c).getD 0 = g c) (e : H' a = some (.dT (putK (cD m) (ck c) (.int v)))) : FreeAt H' a S (fset g c v) := by
  refine ⟨pt m c v, by rw [e, put_cell], h1.pt _ _, fun x hx => ?_, fun x => ?_⟩
  · rcases pt_mem hx with q | q
    · exact h2 x q
    · rw [q]; exact ok
  · rw [lk_pt]
    unfold fset
    by_cases q : x = c
    · rw [if_pos q, if_pos q]; rfl
    · rw [if_neg q, if_neg q]; exact h3 x
theorem g_frD {S : Setup} (so : SetupOk S) {a cd : Addr} {c : Cell} {g : Cell → Int} {v : Int} {H : Hp} {P : Hp → Prop} (ok : CellOk S c) (h : FreeAt H a S g) (hc : H cd = some (.tup [.int c.1, .int c.2]))
    (q : ∀ H', Fr [a] H H' → FreeAt H' a S (fset g c v) → P H') : rDP (.ref a) (.ref cd) (.int v) H P := by
  obtain ⟨m, e, h1, h2, h3⟩ := h
  exact g_rdp (k := ck c) e hc (szM (Nat.le_trans (free_len so h1 h2) (by decide))) fun H' f e' => q H' f (FreeAt.put (H := H) ok h1 h2 h3 e')

structure LCore (H : Hp) (S : Setup) (s : SP) (clv : V) (M : SM) : Prop where
  fr : FreeAt H s.fr S M.fr
  vo : DkAt H s.vo (voD M.vo)
  bk : LsAt H s.bk ((M.bk).map rowB)
  ask : DkAt H s.ask (askT M.ask)
  wt : LsAt H s.wt ((M.wt).map wtD)
  out : LsAt H s.out ((M.out).map upD)
  told : LsAt H s.told ((M.told).map tellD)
  clv : Da H clv (closD M.cl)
theorem LCore.frm {l : List Addr} {H H' : Hp} {S : Setup} {s : SP} {clv : V} {M : SM} (c : LCore H S s clv M) (f : Fr l H H') (n : ∀ a ∈ s.os, a ∉ l) : LCore H' S s clv M :=
  ⟨c.fr.fr f (n _ (by simp [SP.os])), c.vo.fr f (n _ (by simp [SP.os])), c.bk.fr f (n _ (by simp [SP.os])), c.ask.fr f (n _ (by simp [SP.os])), c.wt.fr f (n _ (by simp [SP.os])), c.out.fr f (n _ (by simp [SP.os])), c.told.fr f (n _ (by simp [SP.os])), Da.frL f c.clv (imm_clos _)⟩
theorem LCore.w_fr {H H' : Hp} {S : Setup} {s : SP} {clv : V} {M : SM} {v : Cell → Int} (c : LCore H S s clv M) (n : SPNd s) (f : Fr [s.fr] H H') (e : FreeAt H' s.fr S v) : LCore H' S s clv { M with fr := v } :=
  ⟨e, c.vo.fr f (nin1 n.fr_vo.symm nin0), c.bk.fr f (nin1 n.fr_bk.symm nin0), c.ask.fr f (nin1 n.fr_ask.symm nin0), c.wt.fr f (nin1 n.fr_wt.symm nin0), c.out.fr f (nin1 n.fr_out.symm nin0), c.told.fr f (nin1 n.fr_told.symm nin0), Da.frL f c.clv (imm_clos _)⟩
theorem LCore.w_vo {H H' : Hp} {S : Setup} {s : SP} {clv : V} {M : SM} {v : List (Int × List Stay)} (c : LCore H S s clv M) (n : SPNd s) (f : Fr [s.vo] H H') (e : DkAt H' s.vo (voD v)) : LCore H' S s clv { M with vo := v } :=
  ⟨c.fr.fr f (nin1 n.fr_vo nin0), e, c.bk.fr f (nin1 n.vo_bk.symm nin0), c.ask.fr f (nin1 n.vo_ask.symm nin0), c.wt.fr f (nin1 n.vo_wt.symm nin0), c.out.fr f (nin1 n.vo_out.symm nin0), c.told.fr f (nin1 n.vo_told.symm nin0), Da.frL f c.clv (imm_clos _)⟩
theorem LCore.w_bk {H H' : Hp} {S : Setup} {s : SP} {clv : V} {M : SM} {v : List Row} (c : LCore H S s clv M) (n : SPNd s) (f : Fr [s.bk] H H') (e : LsAt H' s.bk ((v).map rowB)) : LCore H' S s clv { M with bk := v } :=
  ⟨c.fr.fr f (nin1 n.fr_bk nin0), c.vo.fr f (nin1 n.vo_bk nin0), e, c.ask.fr f (nin1 n.bk_ask.symm nin0), c.wt.fr f (nin1 n.bk_wt.symm nin0), c.out.fr f (nin1 n.bk_out.symm nin0), c.told.fr f (nin1 n.bk_told.symm nin0), Da.frL f c.clv (imm_clos _)⟩
theorem LCore.w_ask {H H' : Hp} {S : Setup} {s : SP} {clv : V} {M : SM} {v : List (Int × Deed)} (c : LCore H S s clv M) (n : SPNd s) (f : Fr [s.ask] H H') (e : DkAt H' s.ask (askT v)) : LCore H' S s clv { M with ask := v } :=
  ⟨c.fr.fr f (nin1 n.fr_ask nin0), c.vo.fr f (nin1 n.vo_ask nin0), c.bk.fr f (nin1 n.bk_ask nin0), e, c.wt.fr f (nin1 n.ask_wt.symm nin0), c.out.fr f (nin1 n.ask_out.symm nin0), c.told.fr f (nin1 n.ask_told.symm nin0), Da.frL f c.clv (imm_clos _)⟩
theorem LCore.w_wt {H H' : Hp} {S : Setup} {s : SP} {clv : V} {M : SM} {v : List (Int × Deed)} (c : LCore H S s clv M) (n : SPNd s) (f : Fr [s.wt] H H') (e : LsAt H' s.wt ((v).map wtD)) : LCore H' S s clv { M with wt := v } :=
  ⟨c.fr.fr f (nin1 n.fr_wt nin0), c.vo.fr f (nin1 n.vo_wt nin0), c.bk.fr f (nin1 n.bk_wt nin0), c.ask.fr f (nin1 n.ask_wt nin0), e, c.out.fr f (nin1 n.wt_out.symm nin0), c.told.fr f (nin1 n.wt_told.symm nin0), Da.frL f c.clv (imm_clos _)⟩
theorem LCore.w_out {H H' : Hp} {S : Setup} {s : SP} {clv : V} {M : SM} {v : List UpB} (c : LCore H S s clv M) (n : SPNd s) (f : Fr [s.out] H H') (e : LsAt H' s.out ((v).map upD)) : LCore H' S s clv { M with out := v } :=
  ⟨c.fr.fr f (nin1 n.fr_out nin0), c.vo.fr f (nin1 n.vo_out nin0), c.bk.fr f (nin1 n.bk_out nin0), c.ask.fr f (nin1 n.ask_out nin0), c.wt.fr f (nin1 n.wt_out nin0), e, c.told.fr f (nin1 n.out_told.symm nin0), Da.frL f c.clv (imm_clos _)⟩
theorem LCore.w_told {H H' : Hp} {S : Setup} {s : SP} {clv : V} {M : SM} {v : List (Int × Bool)} (c : LCore H S s clv M) (n : SPNd s) (f : Fr [s.told] H H') (e : LsAt H' s.told ((v).map tellD)) : LCore H' S s clv { M with told := v } :=
  ⟨c.fr.fr f (nin1 n.fr_told nin0), c.vo.fr f (nin1 n.vo_told nin0), c.bk.fr f (nin1 n.bk_told nin0), c.ask.fr f (nin1 n.ask_told nin0), c.wt.fr f (nin1 n.wt_told nin0), c.out.fr f (nin1 n.out_told nin0), e, Da.frL f c.clv (imm_clos _)⟩
theorem LCore.w_p {H H' : Hp} {S : Setup} {s : SP} {clv : V} {M : SM} (c : LCore H S s clv M) (n : SPNd s) (f : Fr [s.p] H H') : LCore H' S s clv M :=
  ⟨c.fr.fr f (nin1 n.p_fr.symm nin0), c.vo.fr f (nin1 n.p_vo.symm nin0), c.bk.fr f (nin1 n.p_bk.symm nin0), c.ask.fr f (nin1 n.p_ask.symm nin0), c.wt.fr f (nin1 n.p_wt.symm nin0), c.out.fr f (nin1 n.p_out.symm nin0), c.told.fr f (nin1 n.p_told.symm nin0), Da.frL f c.clv (imm_clos _)⟩

abbrev mdK (s : SP) (clv : V) (n : Int) : List (Key × V) := [(.inr "free", .ref s.fr), (.inr "vouchers", .ref s.vo), (.inr "book", .ref s.bk), (.inr "closing", clv), (.inr "waiting", .ref s.wt), (.inr "asked", .int n), (.inr "asks", .ref s.ask), (.inr "out", .ref s.out), (.inr "told", .ref s.told)]
def LAt (H : Hp) (s : SP) (S : Setup) (M : SM) : Prop := (∃ clv, H s.p = some (.dK (mdK s clv M.n)) ∧ LCore H S s clv M) ∧ AL H s.os
theorem LAt.frm {l : List Addr} {H H' : Hp} {s : SP} {S : Setup} {M : SM} (x : LAt H s S M) (f : Fr l H H') (n : ∀ a ∈ s.os, a ∉ l) : LAt H' s S M := by
  obtain ⟨⟨clv, e, c⟩, al⟩ := x
  exact ⟨⟨clv, f.at e (n _ s.m_p), c.frm f n⟩, al.1, fun a ha => by obtain ⟨o, q⟩ := al.2 a ha; exact ⟨o, f.at q (n a ha)⟩⟩
theorem LAt.f0 {H H' : Hp} {s : SP} {S : Setup} {M : SM} (x : LAt H s S M) (f : Fr [] H H') : LAt H' s S M := x.frm f fun _ _ => nin0
theorem LAt.nd {H : Hp} {s : SP} {S : Setup} {M : SM} (x : LAt H s S M) : SPNd s := SPNd.of x.2.1
theorem LAt.parts {H : Hp} {s : SP} {S : Setup} {M : SM} (x : LAt H s S M) : ∃ clv, H s.p = some (.dK (mdK s clv M.n)) ∧ LCore H S s clv M := x.1
theorem LAt.nin {H : Hp} {s : SP} {S : Setup} {M : SM} (x : LAt H s S M) {a : Addr} (n : H a = none) : a ∉ s.os := x.2.nin n
theorem LAt.up {H H' : Hp} {s : SP} {S : Setup} {M M' : SM} {X : Addr} {u : HO} (x : LAt H s S M) (hp : s.p ≠ X) (f : Fr [X] H H') (e : H' X = some u) (c : ∀ clv, LCore H S s clv M → LCore H' S s clv M') (hn : M'.n = M.n) : LAt H' s S M' := by
  obtain ⟨⟨clv, ep, c0⟩, al⟩ := x
  refine ⟨⟨clv, by rw [hn]; exact f.at ep (nin1 hp nin0), c clv c0⟩, al.1, fun a ha => ?_⟩
  by_cases z : a = X
  · rw [z]; exact ⟨_, e⟩
  · obtain ⟨o, q⟩ := al.2 a ha; exact ⟨o, f.at q (nin1 z nin0)⟩
section
variable {H H' : Hp} {s : SP} {S : Setup} {M : SM}
theorem LAt.w_fr {v : Cell → Int} (x : LAt H s S M) (f : Fr [s.fr] H H') (e : FreeAt H' s.fr S v) : LAt H' s S { M with fr := v } := by
  obtain ⟨m, e1, _⟩ := id e
  exact x.up x.nd.p_fr f e1 (fun _ c => c.w_fr x.nd f e) rfl
theorem LAt.w_vo {v : List (Int × List Stay)} (x : LAt H s S M) (f : Fr [s.vo] H H') (e : DkAt H' s.vo (voD v)) : LAt H' s S { M with vo := v } := by
  obtain ⟨kvs, e1, _⟩ := id e
  exact x.up x.nd.p_vo f e1 (fun _ c => c.w_vo x.nd f e) rfl
theorem LAt.w_bk {v : List Row} (x : LAt H s S M) (f : Fr [s.bk] H H') (e : LsAt H' s.bk (v.map rowB)) : LAt H' s S { M with bk := v } := by
  obtain ⟨_, vs, e1, _⟩ := id e
  exact x.up x.nd.p_bk f e1 (fun _ c => c.w_bk x.nd f e) rfl
theorem LAt.w_ask {v : List (Int × Deed)} (x : LAt H s S M) (f : Fr [s.ask] H H') (e : DkAt H' s.ask (askT v)) : LAt H' s S { M with ask := v } := by
  obtain ⟨kvs, e1, _⟩ := id e
  exact x.up x.nd.p_ask f e1 (fun _ c => c.w_ask x.nd f e) rfl
theorem LAt.w_wt {v : List (Int × Deed)} (x : LAt H s S M) (f : Fr [s.wt] H H') (e : LsAt H' s.wt (v.map wtD)) : LAt H' s S { M with wt := v } := by
  obtain ⟨_, vs, e1, _⟩ := id e
  exact x.up x.nd.p_wt f e1 (fun _ c => c.w_wt x.nd f e) rfl
theorem LAt.w_out {v : List UpB} (x : LAt H s S M) (f : Fr [s.out] H H') (e : LsAt H' s.out (v.map upD)) : LAt H' s S { M with out := v } := by
  obtain ⟨_, vs, e1, _⟩ := id e
  exact x.up x.nd.p_out f e1 (fun _ c => c.w_out x.nd f e) rfl
theorem LAt.w_told {v : List (Int × Bool)} (x : LAt H s S M) (f : Fr [s.told] H H') (e : LsAt H' s.told (v.map tellD)) : LAt H' s S { M with told := v } := by
  obtain ⟨_, vs, e1, _⟩ := id e
  exact x.up x.nd.p_told f e1 (fun _ c => c.w_told x.nd f e) rfl
theorem LAt.w_p {clv : V} {n' : Int} {c' : Option (List Cell)} (x : LAt H s S M) (f : Fr [s.p] H H') (e : H' s.p = some (.dK (mdK s clv n'))) (dc : Da H' clv (closD c')) : LAt H' s S { M with n := n', cl := c' } := by
  have nd := x.nd
  obtain ⟨⟨clv0, e0, c0⟩, al⟩ := x
  have c := c0.w_p nd f
  refine ⟨⟨clv, e, ⟨c.fr, c.vo, c.bk, c.ask, c.wt, c.out, c.told, dc⟩⟩, al.1, fun a ha => ?_⟩
  by_cases z : a = s.p
  · rw [z]; exact ⟨_, e⟩
  · obtain ⟨o, q⟩ := al.2 a ha; exact ⟨o, f.at q (nin1 z nin0)⟩
end
def LStep (H : Hp) (s : SP) (S : Setup) (M : SM) (Q : Hp → Prop) : Prop := ∀ H' : Hp, Fr s.os H H' → LAt H' s S M → Q H'
def P_Lseller (K : PySem.W.Frag) (A : Ad) (x0 : V) (H : Hp) (Q : VK) : Prop := ∃ S : Setup, ∀ (s : SP) (H' : Hp), Fr [] H H' → (∀ a ∈ s.os, H a = none) → LAt H' s S SM.start → Q (.ref s.p) H'
def sp_Lseller (K : PySem.W.Frag) (A : Ad) : Sp := fun vs H Q _ => ∃ x0, vs = [x0] ∧ P_Lseller K A x0 H Q
theorem c_Lseller {K : PySem.W.Frag} {A : Ad} {x0 : V} {H : Hp} {Q : VK} {E : XK} (h : P_Lseller K A x0 H Q) : sp_Lseller K A [x0] H Q E := ⟨_, rfl, h⟩
theorem sc_Lseller : FnScope ["_law_number"] ["_law_number"] (defScope s_Lseller) := ⟨rfl, rfl, rfl, by decide +kernel, rfl, by decide +kernel, by decide +kernel⟩
def t_Lseller (K : PySem.W.Frag) (A : Ad) : TS :=
  (tRet (tDisp (((tC (.str "free")), tDNewT) :: (((tC (.str "vouchers")), tDNewK) :: (((tC (.str "book")), (tLst tNil)) :: (((tC (.str "closing")), (tC .non)) :: (((tC (.str "waiting")), (tLst tNil)) :: (((tC (.str "asked")), (tC (.int 0))) :: (((tC (.str "asks")), tDNewK) :: (((tC (.str "out")), (tLst tNil)) :: (((tC (.str "told")), (tLst tNil)) :: [])))))))))))
theorem pu_Lseller (T : Txt K mg A) {x0 : V} {H : Hp} {Q : VK} (h : P_Lseller K A x0 H Q) : t_Lseller K A { nx := fun _ H' => Q .non H', rt := Q } [some x0] H := by
  obtain ⟨S, h⟩ := h
  unfold t_Lseller
  walk_at "go"
  rename_i p H0 n0 f0 e0 fr H1 n1 f1 e1 vo H2 n2 f2 e2 bk H3 n3 f3 e3 wt H4 n4 f4 e4 ak H5 n5 f5 e5 ou H6 n6 f6 e6 td H7 n7 f7 e7
  have g6 : Fr [] H6 H7 := f7
  have g5 : Fr [] H5 H7 := f6.then0 g6
  have g4 : Fr [] H4 H7 := f5.then0 g5
  have g3 : Fr [] H3 H7 := f4.then0 g4
  have g2 : Fr [] H2 H7 := f3.then0 g3
  have g1 : Fr [] H1 H7 := f2.then0 g2
  have g0 : Fr [] H0 H7 := f1.then0 g1
  have a0 : AL H0 [p] := ⟨by simp, fun a ha => by rw [List.mem_singleton.mp ha]; exact ⟨_, e0⟩⟩
  have a7 := (((((((a0.new f1 n1 e1).new f2 n2 e2).new f3 n3 e3).new f4 n4 e4).new f5 n5 e5).new f6 n6 e6).new f7 n7 e7)
  refine g_rds (mdK ⟨p, fr, vo, bk, ak, wt, ou, td⟩ .non 0) (g0.at0 e0) rfl (Nat.le_of_ble_eq_true rfl) rfl fun H8 f8 e8 => ?_
  have aos : AL H8 (SP.os ⟨p, fr, vo, bk, ak, wt, ou, td⟩) := by
    have h8 : AL H8 [td, ou, ak, wt, bk, vo, fr, p] := ⟨a7.1, fun a ha => by
      by_cases z : a = p
      · rw [z]; exact ⟨_, e8⟩
      · obtain ⟨o, q⟩ := a7.2 a ha; exact ⟨o, f8.at q (nin1 z nin0)⟩⟩
    refine h8.perm ?_
    have h1 : ([td, ou, ak, wt, bk, vo, fr, p] : List Addr).Perm [p, fr, vo, bk, wt, ak, ou, td] := List.reverse_perm [p, fr, vo, bk, wt, ak, ou, td]
    exact h1.trans (.cons _ (.cons _ (.cons _ (.cons _ (.swap _ _ _)))))
  have nd := SPNd.of aos.1
  have np : ∀ {a : Addr}, a ≠ p → a ∉ [p] := fun q => nin1 q nin0
  refine h ⟨p, fr, vo, bk, ak, wt, ou, td⟩ H8 (((f0.then0 g0).own1 f8 n0)) (fun a ha => ?_) ⟨⟨.non, e8, ?_⟩, aos⟩
  · have ha' : a = p ∨ a = fr ∨ a = vo ∨ a = bk ∨ a = ak ∨ a = wt ∨ a = ou ∨ a = td := by simpa [SP.os] using ha
    have k1 := f0
    have k2 := k1.then0 f1
    have k3 := k2.then0 f2
    have k4 := k3.then0 f3
    have k5 := k4.then0 f4
    have k6 := k5.then0 f5
    have k7 := k6.then0 f6
    rcases ha' with z | z | z | z | z | z | z | z
    · rw [z]; exact n0
    · rw [z]; exact k1.free n1
    · rw [z]; exact k2.free n2
    · rw [z]; exact k3.free n3
    · rw [z]; exact k5.free n5
    · rw [z]; exact k4.free n4
    · rw [z]; exact k6.free n6
    · rw [z]; exact k7.free n7
  · exact ⟨⟨[], f8.at (g1.at0 e1) (np nd.p_fr.symm), List.nodup_nil, fun _ h => (nomatch h), fun _ => rfl⟩, DkAt.nil (f8.at (g2.at0 e2) (np nd.p_vo.symm)), LsAt.nil (f8.at (g3.at0 e3) (np nd.p_bk.symm)), DkAt.nil (f8.at (g5.at0 e5) (np nd.p_ask.symm)), LsAt.nil (f8.at (g4.at0 e4) (np nd.p_wt.symm)), LsAt.nil (f8.at (g6.at0 e6) (np nd.p_out.symm)), LsAt.nil (f8.at e7 (np nd.p_told.symm)), .non⟩
theorem ok_Lseller {f : Addr} {fd : FuncData} (F : Fun K "_law_seller" "_law_seller" s_Lseller f fd) (T : Txt K mg A)  : FnOk P w K mg base CX0 (1) f fd ["_law_number"] (sp_Lseller K A) := by
  refine F.ok sc_Lseller (fun vs H Q E h => ?_) (fun cdv Ar outer s H vs Q E hr h => ⟨t_Lseller K A, ?_, ?_⟩)
  · obtain ⟨x0, rfl, _⟩ := h
    rfl
  · have hu := hu_of hr
    exact (pss_one (ps_ret (pe_disp (pps_cons pe_str pe_dnewT (pps_cons pe_str pe_dnewK (pps_cons pe_str (pe_lst pa_nil) (pps_cons pe_str pe_non (pps_cons pe_str (pe_lst pa_nil) (pps_cons pe_str pe_int (pps_cons pe_str pe_dnewK (pps_cons pe_str (pe_lst pa_nil) (pps_cons pe_str (pe_lst pa_nil) pps_nil))))))))) (by rfl) (by rfl) (fun z => by cases z) (by decide))))
  · obtain ⟨x0, rfl, h⟩ := h
    exact pu_Lseller T h
def P_Lrow (K : PySem.W.Frag) (A : Ad) (x0 x1 : V) (H : Hp) (Q : VK) : Prop := ∃ (s : SP) (S : Setup) (M : SM) (r : Row), x0 = .ref s.p ∧ LAt H s S M ∧ Da H x1 (rowB r) ∧ M.Sz 100000 ∧
  ∀ H' : Hp, Fr [s.bk, s.out] H H' → LAt H' s S (M.row r) → Q .non H'
def sp_Lrow (K : PySem.W.Frag) (A : Ad) : Sp := fun vs H Q _ => ∃ x0 x1, vs = [x0, x1] ∧ P_Lrow K A x0 x1 H Q
theorem c_Lrow {K : PySem.W.Frag} {A : Ad} {x0 x1 : V} {H : Hp} {Q : VK} {E : XK} (h : P_Lrow K A x0 x1 H Q) : sp_Lrow K A [x0, x1] H Q E := ⟨_, _, rfl, h⟩
theorem sc_Lrow : FnScope ["_law_model", "_law_row_here"] ["_law_model", "_law_row_here"] (defScope s_Lrow) := ⟨rfl, rfl, rfl, by decide +kernel, rfl, by decide +kernel, by decide +kernel⟩
def t_Lrow (K : PySem.W.Frag) (A : Ad) : TS :=
  (tSeq (tDrop (tBM K "list" rAppend (tDGet (tVar 0) (tC (.str "book"))) (tCons (tVar 1) tNil)))
    (tDrop (tBM K "list" rAppend (tDGet (tVar 0) (tC (.str "out"))) (tCons (tTup (tCons (tC (.str "entry")) (tCons (tVar 1) tNil))) tNil))))
theorem pu_Lrow (T : Txt K mg A) {x0 x1 : V} {H : Hp} {Q : VK} (h : P_Lrow K A x0 x1 H Q) : t_Lrow K A { nx := fun _ H' => Q .non H', rt := Q } [some x0, some x1] H := by
  obtain ⟨s, S, M, r, rfl, x, dr, sz, k⟩ := h
  have nd := x.nd
  obtain ⟨clv, e, c⟩ := x.parts
  obtain ⟨ib, bs, eb, db⟩ := c.bk
  obtain ⟨io, os, eo, dox⟩ := c.out
  have hb : bs.length ≤ 200000 := by rw [db.len, List.length_map]; have := sz.bk; omega
  have ho : os.length ≤ 200000 := by rw [dox.len, List.length_map]; have := sz.out; omega
  unfold t_Lrow
  walk_at "go"
  rename_i H1 f1 e1
  have ep1 := f1.at e (nin1 nd.p_bk nin0)
  have eo1 := f1.at eo (nin1 nd.bk_out.symm nin0)
  have x1' := x.w_bk (v := M.bk ++ [r]) f1 (by rw [List.map_append]; exact LsAt.snoc db ib dr (imm_rowB r) f1 e1)
  have dr1 := Da.frL f1 dr (imm_rowB r)
  walk_at "go"
  rename_i t H2 n2 f2 e2 H3 f3 e3
  refine k H3 (((f1.mono (by simp) : Fr [s.bk, s.out] H H1).then0 f2).transL (f3.mono (by simp))) ?_
  refine (x1'.f0 f2).w_out (v := M.out ++ [.entry r]) f3 ?_
  rw [List.map_append]
  exact LsAt.snoc (DaL.frL f2 (DaL.frL f1 dox io) io) io (.tup e2 (Nat.le_of_ble_eq_true rfl) (.cons (.str _) (.one' (Da.frL f2 dr1 (imm_rowB r))))) (imm_up _) f3 e3
theorem ok_Lrow {f : Addr} {fd : FuncData} (F : Fun K "_law_row" "_law_row" s_Lrow f fd) (T : Txt K mg A)  : FnOk P w K mg base CX0 (1) f fd ["_law_model", "_law_row_here"] (sp_Lrow K A) := by
  refine F.ok sc_Lrow (fun vs H Q E h => ?_) (fun cdv Ar outer s H vs Q E hr h => ⟨t_Lrow K A, ?_, ?_⟩)
  · obtain ⟨x0, x1, rfl, _⟩ := h
    rfl
  · have hu := hu_of hr
    exact (pss_cons (ps_expr (pe_bm PySem.F.plainAttrs_list PySem.F.slot_list_append PySem.F.type_list_append mt_append (pe_dget hu (pv 0) pe_str (fun _ _ => rfl)) (pa_cons (pv 1) pa_nil)))
    (pss_one (ps_expr (pe_bm PySem.F.plainAttrs_list PySem.F.slot_list_append PySem.F.type_list_append mt_append (pe_dget hu (pv 0) pe_str (fun _ _ => rfl)) (pa_cons (pe_tup (pa_cons pe_str (pa_cons (pv 1) pa_nil))) pa_nil)))))
  · obtain ⟨x0, x1, rfl, h⟩ := h
    exact pu_Lrow T h
def P_Ladd (K : PySem.W.Frag) (A : Ad) (x0 x1 x2 : V) (H : Hp) (Q : VK) : Prop := ∃ (s : SP) (S : Setup) (M : SM) (n : Addr) (m : List (Cell × Int)) (z : Int), x0 = .ref s.p ∧ LAt H s S M ∧ x1 = .ref n ∧ x2 = .int z ∧ H n = some (.dT (cD m)) ∧ n ∉ s.os ∧ SetupOk S ∧ Nd m ∧ (∀ e ∈ m, CellOk S e.1) ∧ (-1 ≤ z ∧ z ≤ 1) ∧
  ∀ H' : Hp, Fr [s.fr] H H' → LAt H' s S { M with fr := addM M.fr z m } → Q .non H'
def sp_Ladd (K : PySem.W.Frag) (A : Ad) : Sp := fun vs H Q _ => ∃ x0 x1 x2, vs = [x0, x1, x2] ∧ P_Ladd K A x0 x1 x2 H Q
theorem c_Ladd {K : PySem.W.Frag} {A : Ad} {x0 x1 x2 : V} {H : Hp} {Q : VK} {E : XK} (h : P_Ladd K A x0 x1 x2 H Q) : sp_Ladd K A [x0, x1, x2] H Q E := ⟨_, _, _, rfl, h⟩
theorem sc_Ladd : FnScope ["_law_model", "_law_needs_here", "_law_many", "_law_free", "_law_cell"] ["_law_model", "_law_needs_here", "_law_many"] (defScope s_Ladd) := ⟨rfl, rfl, rfl, by decide +kernel, rfl, by decide +kernel, by decide +kernel⟩
def t_Ladd (K : PySem.W.Frag) (A : Ad) : TS :=
  (tSeq (tAsg (tDGet (tVar 0) (tC (.str "free"))) (gName 3))
    (tLock (tFor (iKeys (tVar 1)) (gName 4) (sDPut (tVar 3) (tVar 4) (tOp oAdd (tDGet2 (tVar 3) (tVar 4) (tC (.int 0))) (tOp oMul (tVar 2) (tDGet (tVar 1) (tVar 4))))))))
theorem pu_Ladd (T : Txt K mg A) {x0 x1 x2 : V} {H : Hp} {Q : VK} (h : P_Ladd K A x0 x1 x2 H Q) : t_Ladd K A { nx := fun _ H' => Q .non H', rt := Q } [some x0, some x1, some x2, none, none] H := by
  obtain ⟨s, S, M, n, m, z, rfl, x, rfl, rfl, en, nn, so, mn, mk, ⟨hz1, hz2⟩, k⟩ := h
  have nd := x.nd
  have nnp : s.p ≠ n := fun q => nn (by rw [← q]; exact s.m_p)
  have nnf : s.fr ≠ n := fun q => nn (by rw [← q]; exact s.m_fr)
  obtain ⟨clv, e, c⟩ := x.parts
  unfold t_Ladd
  walk_at "go"
  refine g_lock en trivial trivial fun od H1 f1 e1 => ?_
  have ef1 := c.fr.fr f1 (nin1 nnf nin0)
  walk_at "go"
  refine f_keysT (kvs := cD m) (fun i σ H' => (∃ v4, σ = [some (.ref s.p), some (.ref n), some (.int z), some (.ref s.fr), v4]) ∧ Fr [s.fr] H1 H' ∧ FreeAt H' s.fr S (addM M.fr z (m.take i))) ⟨⟨_, rfl⟩, Fr.refl, by rw [List.take_zero, addM_nil]; exact ef1⟩ (fun i σ H' _ ⟨_, f, _⟩ => f.at e1 (nin1 nnf.symm nin0)) ?_ ?_
  · rintro i kk v q σ H2 hi hq ⟨⟨v4, rfl⟩, f2, e2⟩
    obtain ⟨y, hy, rfl, rfl⟩ := cD_get hi
    have hyk := mk y (List.mem_of_getElem? hy)
    have en2 := f2.at e1 (nin1 nnf.symm nin0)
    have hyl : lk m y.1 = some y.2 := lk_mem mn (List.mem_of_getElem? hy)
    walk_at "go"
    refine g_frI e2 ?_
    walk_at "go"
    refine g_frG e2 hq ?_
    walk_at "go"
    refine g_rdg (k := ck y.1) (.inr ⟨_, en2⟩) hq (v := .int y.2) (by rw [val_cell, hyl]; rfl) ?_
    walk_at "go"
    refine g_frD so hyk e2 hq fun H3 f3 e3 => ?_
    have tk := take_more hy
    have ni : y.1 ∉ (m.take i).map (·.1) := fun w => by
      have h1 : ((m.take (i + 1)).map (·.1)).Nodup := mn.sublist ((List.take_sublist (i + 1) m).map _)
      rw [tk, List.map_append] at h1
      exact (List.nodup_append.mp h1).2.2 _ w _ (List.mem_singleton.mpr rfl) rfl
    refine ⟨⟨_, rfl⟩, f2.transL f3, ?_⟩
    rw [tk, ← addM_snoc M.fr z ni]
    exact e3
  · rintro σ H2 ⟨⟨v4, rfl⟩, f2, e2⟩
    have hl : (cD m).length = m.length := enD_len _
    rw [hl, List.take_length] at e2
    walk_at "go"
    rename_i H3 f3 e3
    have F : Fr [s.fr] H H3 := Fr.back1 (((f1.mono (by simp) : Fr [n, s.fr] H H1).transL (f2.mono (by simp))).transL (f3.mono (by simp))) en e3
    exact k H3 F (x.w_fr F (e2.fr f3 (nin1 nnf nin0)))
theorem ok_Ladd {f : Addr} {fd : FuncData} (F : Fun K "_law_add" "_law_add" s_Ladd f fd) (T : Txt K mg A)  : FnOk P w K mg base CX0 (1) f fd ["_law_model", "_law_needs_here", "_law_many"] (sp_Ladd K A) := by
  refine F.ok sc_Ladd (fun vs H Q E h => ?_) (fun cdv Ar outer s H vs Q E hr h => ⟨t_Ladd K A, ?_, ?_⟩)
  · obtain ⟨x0, x1, x2, rfl, _⟩ := h
    rfl
  · have hu := hu_of hr
    exact (pss_cons (ps_set (i := 3) sc_Ladd.nd rfl (Or.inl rfl) (pe_dget hu (pv 0) pe_str (fun _ _ => rfl)))
    (pss_one (ps_lock (ps_for PassesOwn.never rfl (pi_keys (pv 1)) (pg_name (i := 4) sc_Ladd.nd rfl (Or.inl rfl)) (pss_one (ps_dput hu (pv 3) (pv 4) (pe_op o_add (pe_dget2 hu (pv 3) (pv 4) pe_int ⟨rfl, rfl, rfl, rfl⟩) (pe_op o_mul (pv 2) (pe_dget hu (pv 1) (pv 4) (fun _ _ => rfl)))) rfl))))))
  · obtain ⟨x0, x1, x2, rfl, h⟩ := h
    exact pu_Ladd T h

def lackU (p o : List Stay) : List (Cell × Int) := (cellsN p).filterMap (lackC1 p o)
theorem lackU_nd (p o : List Stay) : Nd (lackU p o) := lack_nd p o (needs_nd p)
theorem lackU_ok {S : Setup} (so : SetupOk S) {p o : List Stay} (hp : PtyOk S p) : ∀ e ∈ lackU p o, CellOk S e.1 := fun e he => by
  obtain ⟨x, hx, z⟩ := List.mem_map.mp (lack_keys he)
  rw [← z]; exact cell_ok so hp.1 hx
theorem lackU_len {S : Setup} (so : SetupOk S) {p o : List Stay} (hp : PtyOk S p) : (lackU p o).length ≤ 36 := by
  refine Nat.le_trans (List.length_filterMap_le _ _) ?_
  unfold cellsN
  rw [List.length_map]
  exact needs_le so hp.1
theorem lk_lackU (p o : List Stay) (c : Cell) : (lk (lackU p o) c).getD 0 = max 0 (nd p c - nd o c) := by
  refine lk_filterMap p o c ?_
  by_cases h : c ∈ cellsN p
  · exact .inl h
  · refine .inr ?_
    have : nd p c = 0 := by unfold nd; rw [lk_none h]; rfl
    rw [this]; exact nd_pos o c
def P_Lless (K : PySem.W.Frag) (A : Ad) (x0 x1 : V) (H : Hp) (Q : VK) : Prop := ∃ (a b : Addr) (S : Setup) (p o : List Stay), x0 = .ref a ∧ x1 = .ref b ∧ a ≠ b ∧ H a = some (.dT (cD (needsL p))) ∧ H b = some (.dT (cD (needsL o))) ∧ SetupOk S ∧ PtyOk S p ∧
  ∀ (q : Addr) (H' : Hp), H q = none → Fr [] H H' → H' q = some (.dT (cD (lackU p o))) → Q (.ref q) H'
def sp_Lless (K : PySem.W.Frag) (A : Ad) : Sp := fun vs H Q _ => ∃ x0 x1, vs = [x0, x1] ∧ P_Lless K A x0 x1 H Q
theorem c_Lless {K : PySem.W.Frag} {A : Ad} {x0 x1 : V} {H : Hp} {Q : VK} {E : XK} (h : P_Lless K A x0 x1 H Q) : sp_Lless K A [x0, x1] H Q E := ⟨_, _, rfl, h⟩
theorem sc_Lless : FnScope ["_law_first", "_law_second", "_law_rest", "_law_cell"] ["_law_first", "_law_second"] (defScope s_Lless) := ⟨rfl, rfl, rfl, by decide +kernel, rfl, by decide +kernel, by decide +kernel⟩
def t_Lless (K : PySem.W.Frag) (A : Ad) : TS :=
  (tSeq (tAsg tDNewT (gName 2))
    (tSeq (tLock (tFor (iKeys (tVar 0)) (gName 3) (tIfS (tTest (tOp cGt (tDGet (tVar 0) (tVar 3)) (tDGet2 (tVar 1) (tVar 3) (tC (.int 0))))) (sDPut (tVar 2) (tVar 3) (tOp oSub (tDGet (tVar 0) (tVar 3)) (tDGet2 (tVar 1) (tVar 3) (tC (.int 0))))) tNext)))
    (tRet (tVar 2))))
theorem pu_Lless (T : Txt K mg A) {x0 x1 : V} {H : Hp} {Q : VK} (h : P_Lless K A x0 x1 H Q) : t_Lless K A { nx := fun _ H' => Q .non H', rt := Q } [some x0, some x1, none, none] H := by
  obtain ⟨a, b, S, p, o, rfl, rfl, hab, ea, eb, so, hp, k⟩ := h
  unfold t_Lless
  walk_at "go"
  rename_i lq H1 n1 f1 e1
  have nla : lq ≠ a := (ne_of_none ea n1).symm
  have nlb : lq ≠ b := (ne_of_none eb n1).symm
  have ea1 := f1.at0 ea
  refine g_lock ea1 trivial trivial fun od H2 f2 e2 => ?_
  have el2 := f2.at e1 (nin1 nla nin0)
  have eb2 := f2.at (f1.at0 eb) (nin1 hab.symm nin0)
  walk_at "go"
  refine f_keysT (kvs := cD (needsL p)) (fun i σ H' => (∃ v3, σ = [some (.ref a), some (.ref b), some (.ref lq), v3]) ∧ Fr [lq] H2 H' ∧ H' lq = some (.dT (cD (((cellsN p).take i).filterMap (lackC1 p o))))) ⟨⟨_, rfl⟩, Fr.refl, el2⟩ (fun i σ H' _ ⟨_, f, _⟩ => f.at e2 (nin1 nla.symm nin0)) ?_ ?_
  · rintro i kk v q σ H3 hi hq ⟨⟨v3, rfl⟩, f3, e3⟩
    obtain ⟨y, hy, rfl, rfl⟩ := cD_get hi
    have hcy : (cellsN p)[i]? = some y.1 := by unfold cellsN; rw [List.getElem?_map, hy]; rfl
    have hcm : y.1 ∈ cellsN p := List.mem_of_getElem? hcy
    have ea3 := f3.at e2 (nin1 nla.symm nin0)
    have eb3 := f3.at eb2 (nin1 nlb.symm nin0)
    have tk := take_more hcy
    walk_at "go"
    refine g_rdg (k := ck y.1) (.inr ⟨_, ea3⟩) hq (val_nd1 hcm) ?_
    walk_at "go"
    refine g_dgo (k := ck y.1) (.inl eb3) hq ?_
    rw [val_nd]
    walk_at "go"
    refine g_ite (fun hlt => ?_) (fun hlt => ?_)
    · walk_at "go"
      refine g_rdg (k := ck y.1) (.inr ⟨_, ea3⟩) hq (val_nd1 hcm) ?_
      walk_at "go"
      refine g_dgo (k := ck y.1) (.inl eb3) hq ?_
      rw [val_nd]
      walk_at "go"
      refine g_rdp (k := ck y.1) e3 hq (szM ?_) fun H4 f4 e4 => ?_
      · rw [enD_len]
        refine Nat.le_trans (List.length_filterMap_le _ _) (Nat.le_trans (List.length_take_le' _ _) ?_)
        unfold cellsN
        rw [List.length_map]
        exact Nat.le_trans (needs_le so hp.1) (by decide)
      refine ⟨⟨_, rfl⟩, f3.transL f4, ?_⟩
      have ni : y.1 ∉ (cellsN p).take i := by
        have := (show (cellsN p).Nodup from needs_nd p).sublist (List.take_sublist (i + 1) _)
        rw [tk] at this
        exact fun z => (List.nodup_append.mp this).2.2 y.1 z y.1 (by simp) rfl
      have hc1 : lackC1 p o y.1 = some (y.1, nd p y.1 - nd o y.1) := by unfold lackC1; rw [if_pos hlt]
      rw [e4, put_cell, pt_new (fun z => by obtain ⟨e', he', z'⟩ := List.mem_map.mp z; have z2 : e'.1 = y.1 := z'; exact ni (by rw [← z2]; exact lack_keys he')), tk, List.filterMap_append, List.filterMap_cons, hc1]
      rfl
    · walk_at "go"
      refine ⟨⟨_, rfl⟩, f3, ?_⟩
      have hc1 : lackC1 p o y.1 = none := by unfold lackC1; rw [if_neg hlt]
      rw [e3, tk, List.filterMap_append, List.filterMap_cons, hc1, List.filterMap_nil, List.append_nil]
  · rintro σ H3 ⟨⟨v3, rfl⟩, f3, e3⟩
    have hl : (cD (needsL p)).length = (cellsN p).length := by unfold cellsN; rw [enD_len, List.length_map]
    rw [hl, List.take_length] at e3
    walk_at "go"
    rename_i H4 f4 e4
    have F : Fr [lq] H1 H4 := Fr.back1 (((f2.mono (by simp) : Fr [a, lq] H1 H2).transL (f3.mono (by simp))).transL (f4.mono (by simp))) ea1 e4
    exact k lq H4 n1 (f1.own1 F n1) (f4.at e3 (nin1 nla nin0))
theorem ok_Lless {f : Addr} {fd : FuncData} (F : Fun K "_law_less" "_law_less" s_Lless f fd) (T : Txt K mg A)  : FnOk P w K mg base CX0 (1) f fd ["_law_first", "_law_second"] (sp_Lless K A) := by
  refine F.ok sc_Lless (fun vs H Q E h => ?_) (fun cdv Ar outer s H vs Q E hr h => ⟨t_Lless K A, ?_, ?_⟩)
  · obtain ⟨x0, x1, rfl, _⟩ := h
    rfl
  · have hu := hu_of hr
    exact (pss_cons (ps_set (i := 2) sc_Lless.nd rfl (Or.inl rfl) pe_dnewT)
    (pss_cons (ps_lock (ps_for PassesOwn.never rfl (pi_keys (pv 0)) (pg_name (i := 3) sc_Lless.nd rfl (Or.inl rfl)) (pss_one (ps_if (pt_cmpR c_gt (pe_dget hu (pv 0) (pv 3) (fun _ _ => rfl)) (pe_dget2 hu (pv 1) (pv 3) pe_int ⟨rfl, rfl, rfl, rfl⟩) (nomark _)) (pss_one (ps_dput hu (pv 2) (pv 3) (pe_op o_sub (pe_dget hu (pv 0) (pv 3) (fun _ _ => rfl)) (pe_dget2 hu (pv 1) (pv 3) pe_int ⟨rfl, rfl, rfl, rfl⟩)) rfl)) pss_nil))))
    (pss_one (ps_ret (pv 2)))))
  · obtain ⟨x0, x1, rfl, h⟩ := h
    exact pu_Lless T h
def P_Lsold (K : PySem.W.Frag) (A : Ad) (x0 x1 x2 x3 : V) (H : Hp) (Q : VK) : Prop := ∃ (s : SP) (S : Setup) (M : SM) (n : Int) (p : List Stay), Da H x0 (setupD S) ∧ x1 = .ref s.p ∧ LAt H s S M ∧ x2 = .int n ∧ Da H x3 (partyD p) ∧ SetupOk S ∧ PtyOk S p ∧ M.Sz 99000 ∧
  LStep H s S (SM.row (soldR S n p) { M with vo := pt M.vo n p }) (fun H' => Q .non H')
def sp_Lsold (K : PySem.W.Frag) (A : Ad) : Sp := fun vs H Q _ => ∃ x0 x1 x2 x3, vs = [x0, x1, x2, x3] ∧ P_Lsold K A x0 x1 x2 x3 H Q
theorem c_Lsold {K : PySem.W.Frag} {A : Ad} {x0 x1 x2 x3 : V} {H : Hp} {Q : VK} {E : XK} (h : P_Lsold K A x0 x1 x2 x3 H Q) : sp_Lsold K A [x0, x1, x2, x3] H Q E := ⟨_, _, _, _, rfl, h⟩
theorem sc_Lsold : FnScope ["_law_setup_here", "_law_model", "_law_number", "_law_party_here"] ["_law_setup_here", "_law_model", "_law_number", "_law_party_here"] (defScope s_Lsold) := ⟨rfl, rfl, rfl, by decide +kernel, rfl, by decide +kernel, by decide +kernel⟩
def t_Lsold (K : PySem.W.Frag) (A : Ad) : TS :=
  (tSeq (sDPut (tDGet (tVar 1) (tC (.str "vouchers"))) (tVar 2) (tVar 3))
    (tDrop (tCl (sp_Lrow K A) (tCons (tVar 1) (tCons (tTup (tCons (tC (.str "sold")) (tCons (tVar 2) (tCons (tVar 3) (tCons (tCl (sp_Lprice K A) (tCons (tVar 0) (tCons (tVar 3) tNil))) (tCons (tCl (sp_Lkept K A) (tCons (tVar 0) (tCons (tVar 3) tNil))) tNil)))))) tNil)))))
theorem pu_Lsold (T : Txt K mg A) {x0 x1 x2 x3 : V} {H : Hp} {Q : VK} (h : P_Lsold K A x0 x1 x2 x3 H Q) : t_Lsold K A { nx := fun _ H' => Q .non H', rt := Q } [some x0, some x1, some x2, some x3] H := by
  obtain ⟨s, S, M, n, p, dS, rfl, x, rfl, dp, so, hp, sz, kk⟩ := h
  have nd0 := x.nd
  obtain ⟨clv, e, c⟩ := x.parts
  obtain ⟨kvs, ev, rv⟩ := c.vo
  have hvl : kvs.length ≤ 200000 := by rw [vo_len rv]; have := sz.vo; omega
  have ip : immL (p.map stayD) = true := imm_party p
  unfold t_Lsold
  walk_at "go"
  refine g_rdpI ev (szM (by omega)) fun H1 f1 e1 => ?_
  have x1' := x.w_vo (v := pt M.vo n p) f1 ⟨_, e1, by unfold voD; rw [← pt_mp]; exact (rv.fr f1).put n (Da.frL f1 dp (imm_party p)) (imm_party p)⟩
  have dp1 := Da.frL f1 dp (imm_party p)
  have dS1 := Da.frL f1 dS (imm_setup S)
  obtain ⟨pa, ps, rfl, ep, dps⟩ := party_tup dp1
  walk_at "go"
  refine c_Lprice ⟨S, pa, ps, p, so, dS1, rfl, ep, dps, hp.1, Nat.le_trans hp.2 (by decide), fun H2 f2 => ?_⟩
  walk_at "go"
  refine c_Lkept ⟨S, pa, ps, p, so, Da.frL f2 dS1 (imm_setup S), rfl, f2.tup _ _ ep, DaL.frL f2 dps ip, hp.1, Nat.le_trans hp.2 (by decide), fun H3 f3 => ?_⟩
  walk_at "go"
  rename_i t H4 n4 f4 e4
  have F4 : Fr [] H1 H4 := (f2.then0 f3).then0 f4
  have hpl := pt_len1 M.vo n p
  refine c_Lrow ⟨s, S, _, soldR S n p, rfl, x1'.f0 F4, .tup e4 (Nat.le_of_ble_eq_true rfl) (.cons (.str _) (.cons (.int _) (.cons (Da.frL F4 dp1 (imm_party p)) (.cons (.int _) (.one' (.int _)))))), ⟨Nat.le_trans sz.bk (by decide), Nat.le_trans sz.out (by decide), Nat.le_trans sz.told (by decide), by have := sz.vo; show (pt M.vo n p).length + M.wt.length ≤ _; omega, Nat.le_trans sz.ask (by decide)⟩, fun H5 f5 x5 => ?_⟩
  walk_at "go"
  exact kk H5 (((f1.in1 s.m_vo).then0 F4).transL (f5.in2 s.m_bk s.m_out)) x5
theorem ok_Lsold {f : Addr} {fd : FuncData} (F : Fun K "_law_sold" "_law_sold" s_Lsold f fd) (T : Txt K mg A) (c_Lrow : Cal P w K mg base "_law_row" 1 ["_law_model", "_law_row_here"] (sp_Lrow K A)) (c_Lprice : Cal P w K mg base "_law_price" 1 ["_law_setup_here", "_law_party_here"] (sp_Lprice K A)) (c_Lkept : Cal P w K mg base "_law_kept" 1 ["_law_setup_here", "_law_party_here"] (sp_Lkept K A)) : FnOk P w K mg base CX0 (2) f fd ["_law_setup_here", "_law_model", "_law_number", "_law_party_here"] (sp_Lsold K A) := by
  refine F.ok sc_Lsold (fun vs H Q E h => ?_) (fun cdv Ar outer s H vs Q E hr h => ⟨t_Lsold K A, ?_, ?_⟩)
  · obtain ⟨x0, x1, x2, x3, rfl, _⟩ := h
    rfl
  · have hu := hu_of hr
    exact (pss_cons (ps_dput hu (pe_dget hu (pv 1) pe_str (fun _ _ => rfl)) (pv 2) (pv 3) rfl)
    (pss_one (ps_expr (pe_cl c_Lrow (hr.mono (by first | decide | omega)) (by rfl) (pa_cons (pv 1) (pa_cons (pe_tup (pa_cons pe_str (pa_cons (pv 2) (pa_cons (pv 3) (pa_cons (pe_cl c_Lprice (hr.mono (by first | decide | omega)) (by rfl) (pa_cons (pv 0) (pa_cons (pv 3) pa_nil))) (pa_cons (pe_cl c_Lkept (hr.mono (by first | decide | omega)) (by rfl) (pa_cons (pv 0) (pa_cons (pv 3) pa_nil))) pa_nil)))))) pa_nil))))))
  · obtain ⟨x0, x1, x2, x3, rfl, h⟩ := h
    exact pu_Lsold T h
def P_Lchanged (K : PySem.W.Frag) (A : Ad) (x0 x1 x2 x3 : V) (H : Hp) (Q : VK) : Prop := ∃ (s : SP) (S : Setup) (M : SM) (k : Int) (p o : List Stay), Da H x0 (setupD S) ∧ x1 = .ref s.p ∧ LAt H s S M ∧ x2 = .int k ∧ Da H x3 (partyD p) ∧ SetupOk S ∧ PtyOk S p ∧ lk M.vo k = some o ∧ PtyOk S o ∧ M.Sz 99000 ∧
  LStep H s S (SM.row (chgR S k p o) { M with vo := pt M.vo k p }) (fun H' => Q .non H')
def sp_Lchanged (K : PySem.W.Frag) (A : Ad) : Sp := fun vs H Q _ => ∃ x0 x1 x2 x3, vs = [x0, x1, x2, x3] ∧ P_Lchanged K A x0 x1 x2 x3 H Q
theorem c_Lchanged {K : PySem.W.Frag} {A : Ad} {x0 x1 x2 x3 : V} {H : Hp} {Q : VK} {E : XK} (h : P_Lchanged K A x0 x1 x2 x3 H Q) : sp_Lchanged K A [x0, x1, x2, x3] H Q E := ⟨_, _, _, _, rfl, h⟩
theorem sc_Lchanged : FnScope ["_law_setup_here", "_law_model", "_law_voucher", "_law_party_here", "_law_old", "_law_new"] ["_law_setup_here", "_law_model", "_law_voucher", "_law_party_here"] (defScope s_Lchanged) := ⟨rfl, rfl, rfl, by decide +kernel, rfl, by decide +kernel, by decide +kernel⟩
def t_Lchanged (K : PySem.W.Frag) (A : Ad) : TS :=
  (tSeq (tAsg (tDGet (tDGet (tVar 1) (tC (.str "vouchers"))) (tVar 2)) (gName 4))
    (tSeq (sDPut (tDGet (tVar 1) (tC (.str "vouchers"))) (tVar 2) (tVar 3))
    (tSeq (tAsg (tTup (tCons (tCl (sp_Lprice K A) (tCons (tVar 0) (tCons (tVar 3) tNil))) (tCons (tCl (sp_Lkept K A) (tCons (tVar 0) (tCons (tVar 3) tNil))) tNil))) (gName 5))
    (tDrop (tCl (sp_Lrow K A) (tCons (tVar 1) (tCons (tOp (rCatT K) (tOp (rCatT K) (tTup (tCons (tC (.str "changed")) (tCons (tVar 2) (tCons (tVar 3) tNil)))) (tVar 5)) (tTup (tCons (tCl (sp_Lprice K A) (tCons (tVar 0) (tCons (tVar 4) tNil))) (tCons (tCl (sp_Lkept K A) (tCons (tVar 0) (tCons (tVar 4) tNil))) tNil)))) tNil)))))))
theorem pu_Lchanged (T : Txt K mg A) {x0 x1 x2 x3 : V} {H : Hp} {Q : VK} (h : P_Lchanged K A x0 x1 x2 x3 H Q) : t_Lchanged K A { nx := fun _ H' => Q .non H', rt := Q } [some x0, some x1, some x2, some x3, none, none] H := by
  obtain ⟨s, S, M, k, p, o, dS, rfl, x, rfl, dp, so, hp, ho, hoo, sz, kk⟩ := h
  have nd0 := x.nd
  obtain ⟨clv, e, c⟩ := x.parts
  obtain ⟨kvs, ev, rv⟩ := c.vo
  have hvl : kvs.length ≤ 200000 := by rw [vo_len rv]; have := sz.vo; omega
  rcases DkR.look rv k with ⟨h1, _⟩ | ⟨ov, z, h1, h2, h3⟩
  · rw [ho] at h1; cases h1
  rw [ho] at h1
  cases h1
  have ip : ∀ q : List Stay, immL (q.map stayD) = true := fun q => imm_party q
  unfold t_Lchanged
  walk_at "go"
  refine g_rdgI (.inl ev) h2 ?_
  walk_at "go"
  refine g_rdpI ev (szM (by omega)) fun H1 f1 e1 => ?_
  have x1' := x.w_vo (v := pt M.vo k p) f1 ⟨_, e1, by unfold voD; rw [← pt_mp]; exact (rv.fr f1).put k (Da.frL f1 dp (imm_party p)) (imm_party p)⟩
  have dp1 := Da.frL f1 dp (imm_party p)
  have do1 := Da.frL f1 h3 (imm_party o)
  have dS1 := Da.frL f1 dS (imm_setup S)
  obtain ⟨pa, ps, rfl, ep, dps⟩ := party_tup dp1
  obtain ⟨oa, os, rfl, eo, dos⟩ := party_tup do1
  walk_at "go"
  refine c_Lprice ⟨S, pa, ps, p, so, dS1, rfl, ep, dps, hp.1, Nat.le_trans hp.2 (by decide), fun H2 f2 => ?_⟩
  walk_at "go"
  refine c_Lkept ⟨S, pa, ps, p, so, Da.frL f2 dS1 (imm_setup S), rfl, f2.tup _ _ ep, DaL.frL f2 dps (ip p), hp.1, Nat.le_trans hp.2 (by decide), fun H3 f3 => ?_⟩
  walk_at "go"
  rename_i t4 H4 n4 f4 e4 t5 H5 n5 f5 e5
  refine g_catT (SqT.of e5) (SqT.of (f5.at0 e4)) (by simp) (Nat.le_of_ble_eq_true rfl) (fun z => by cases z) (fun _ t6 H6 n6 f6 e6 => ?_)
  have F6 : Fr [] H1 H6 := (((f2.then0 f3).then0 f4).then0 f5).then0 f6
  have eo6 := F6.tup _ _ eo
  have dos6 := DaL.frL F6 dos (ip o)
  have dS6 := Da.frL F6 dS1 (imm_setup S)
  walk_at "go"
  refine c_Lprice ⟨S, oa, os, o, so, dS6, rfl, eo6, dos6, hoo.1, Nat.le_trans hoo.2 (by decide), fun H7 f7 => ?_⟩
  walk_at "go"
  refine c_Lkept ⟨S, oa, os, o, so, Da.frL f7 dS6 (imm_setup S), rfl, f7.tup _ _ eo6, DaL.frL f7 dos6 (ip o), hoo.1, Nat.le_trans hoo.2 (by decide), fun H8 f8 => ?_⟩
  walk_at "go"
  rename_i t9 H9 n9 f9 e9
  refine g_catT (SqT.of (f9.at0 (f8.at0 (f7.at0 e6)))) (SqT.of e9) (by simp) (Nat.le_of_ble_eq_true rfl) (fun z => by cases z) (fun _ t10 H10 n10 f10 e10 => ?_)
  have F10 : Fr [] H1 H10 := (((F6.then0 f7).then0 f8).then0 f9).then0 f10
  walk_at "go"
  have hpl := pt_len1 M.vo k p
  refine c_Lrow ⟨s, S, _, chgR S k p o, rfl, x1'.f0 F10, .tup e10 (Nat.le_of_ble_eq_true rfl) (.cons (.str _) (.cons (.int _) (.cons (Da.frL F10 dp1 (imm_party p)) (.cons (.int _) (.cons (.int _) (.cons (.int _) (.one' (.int _)))))))), ⟨Nat.le_trans sz.bk (by decide), Nat.le_trans sz.out (by decide), Nat.le_trans sz.told (by decide), by have := sz.vo; show (pt M.vo k p).length + M.wt.length ≤ _; omega, Nat.le_trans sz.ask (by decide)⟩, fun H11 f11 x11 => ?_⟩
  walk_at "go"
  exact kk H11 (((f1.in1 s.m_vo).then0 F10).transL (f11.in2 s.m_bk s.m_out)) x11
theorem ok_Lchanged {f : Addr} {fd : FuncData} (F : Fun K "_law_changed" "_law_changed" s_Lchanged f fd) (T : Txt K mg A) (c_Lrow : Cal P w K mg base "_law_row" 1 ["_law_model", "_law_row_here"] (sp_Lrow K A)) (c_Lprice : Cal P w K mg base "_law_price" 1 ["_law_setup_here", "_law_party_here"] (sp_Lprice K A)) (c_Lkept : Cal P w K mg base "_law_kept" 1 ["_law_setup_here", "_law_party_here"] (sp_Lkept K A)) : FnOk P w K mg base CX0 (2) f fd ["_law_setup_here", "_law_model", "_law_voucher", "_law_party_here"] (sp_Lchanged K A) := by
  refine F.ok sc_Lchanged (fun vs H Q E h => ?_) (fun cdv Ar outer s H vs Q E hr h => ⟨t_Lchanged K A, ?_, ?_⟩)
  · obtain ⟨x0, x1, x2, x3, rfl, _⟩ := h
    rfl
  · have hu := hu_of hr
    exact (pss_cons (ps_set (i := 4) sc_Lchanged.nd rfl (Or.inl rfl) (pe_dget hu (pe_dget hu (pv 1) pe_str (fun _ _ => rfl)) (pv 2) (fun _ _ => rfl)))
    (pss_cons (ps_dput hu (pe_dget hu (pv 1) pe_str (fun _ _ => rfl)) (pv 2) (pv 3) rfl)
    (pss_cons (ps_set (i := 5) sc_Lchanged.nd rfl (Or.inl rfl) (pe_tup (pa_cons (pe_cl c_Lprice (hr.mono (by first | decide | omega)) (by rfl) (pa_cons (pv 0) (pa_cons (pv 3) pa_nil))) (pa_cons (pe_cl c_Lkept (hr.mono (by first | decide | omega)) (by rfl) (pa_cons (pv 0) (pa_cons (pv 3) pa_nil))) pa_nil))))
    (pss_one (ps_expr (pe_cl c_Lrow (hr.mono (by first | decide | omega)) (by rfl) (pa_cons (pv 1) (pa_cons (pe_op op_catT (pe_op op_catT (pe_tup (pa_cons pe_str (pa_cons (pv 2) (pa_cons (pv 3) pa_nil)))) (pv 5)) (pe_tup (pa_cons (pe_cl c_Lprice (hr.mono (by first | decide | omega)) (by rfl) (pa_cons (pv 0) (pa_cons (pv 4) pa_nil))) (pa_cons (pe_cl c_Lkept (hr.mono (by first | decide | omega)) (by rfl) (pa_cons (pv 0) (pa_cons (pv 4) pa_nil))) pa_nil)))) pa_nil))))))))
  · obtain ⟨x0, x1, x2, x3, rfl, h⟩ := h
    exact pu_Lchanged T h
theorem needs_pos (p : List Stay) : ∀ e ∈ needsL p, 0 < e.2 := by
  have key : ∀ (cs : List Cell) (m : List (Cell × Int)), (∀ e ∈ m, 0 < e.2) → ∀ e ∈ cs.foldl bump m, 0 < e.2 := by
    intro cs
    induction cs with
    | nil => intro m h; exact h
    | cons c cs ih =>
      intro m h
      refine ih (bump m c) fun e he => ?_
      unfold bump at he
      rcases pt_mem he with q | q
      · exact h e q
      · rw [q]
        show 0 < (lk m c).getD 0 + 1
        cases w : lk m c with
        | none => decide
        | some v =>
          have h2 := h _ (lk_some w)
          show 0 < v + 1
          have h2 : 0 < v := h2
          omega
  exact key _ [] fun _ h => nomatch h
theorem filterMap_id {α : Type} {f : α → Option α} : ∀ {l : List α}, (∀ e ∈ l, f e = some e) → l.filterMap f = l
  | [], _ => rfl
  | x :: l, h => by rw [List.filterMap_cons, h x List.mem_cons_self]; show x :: _ = _; rw [filterMap_id fun e he => h e (List.mem_cons_of_mem _ he)]
theorem needs_lackU (p : List Stay) : lackU p [] = needsL p := by
  have hpos : ∀ e ∈ needsL p, 0 < e.2 := needs_pos p
  unfold lackU cellsN
  rw [List.filterMap_map]
  have : ∀ e ∈ needsL p, ((lackC1 p []) ∘ fun x : Cell × Int => x.1) e = some e := fun e he => by
    show lackC1 p [] e.1 = some e
    have h1 : nd p e.1 = e.2 := by unfold nd; rw [lk_mem (needs_nd p) he]; rfl
    have h0 : nd [] e.1 = 0 := rfl
    unfold lackC1
    rw [h1, h0, if_pos (hpos e he)]
    show some (e.1, e.2 - 0) = some e
    rw [Int.sub_zero]
  exact filterMap_id this
def P_Llack (K : PySem.W.Frag) (A : Ad) (x0 x1 : V) (H : Hp) (Q : VK) : Prop := ∃ (s : SP) (S : Setup) (M : SM) (d : Deed), x0 = .ref s.p ∧ LAt H s S M ∧ Da H x1 (deedD d) ∧ SetupOk S ∧ DeedOk S d ∧ PtyOk S (M.old d) ∧ AskOk M.vo d ∧
  ∀ (p : Addr) (H' : Hp), H p = none → Fr [] H H' → H' p = some (.dT (cD (lackU d.party (M.old d)))) → Q (.ref p) H'
def sp_Llack (K : PySem.W.Frag) (A : Ad) : Sp := fun vs H Q _ => ∃ x0 x1, vs = [x0, x1] ∧ P_Llack K A x0 x1 H Q
theorem c_Llack {K : PySem.W.Frag} {A : Ad} {x0 x1 : V} {H : Hp} {Q : VK} {E : XK} (h : P_Llack K A x0 x1 H Q) : sp_Llack K A [x0, x1] H Q E := ⟨_, _, rfl, h⟩
theorem sc_Llack : FnScope ["_law_model", "_law_deed_here", "_law_needs_here"] ["_law_model", "_law_deed_here"] (defScope s_Llack) := ⟨rfl, rfl, rfl, by decide +kernel, rfl, by decide +kernel, by decide +kernel⟩
def t_Llack (K : PySem.W.Frag) (A : Ad) : TS :=
  (tSeq (tAsg (tCl (sp_Lneeds K A) (tCons (tOp (rIxT K) (tVar 1) (tOp oSub (tCB (rLenSq K) (tCons (tVar 1) tNil)) (tC (.int 1)))) tNil)) (gName 2))
    (tSeq (tIfS (tTest (tOp rEq (tOp (rIxT K) (tVar 1) (tC (.int 0))) (tC (.str "wish")))) (tRet (tVar 2)) tNext)
    (tRet (tCl (sp_Lless K A) (tCons (tVar 2) (tCons (tCl (sp_Lneeds K A) (tCons (tDGet (tDGet (tVar 0) (tC (.str "vouchers"))) (tOp (rIxT K) (tVar 1) (tC (.int 1)))) tNil)) tNil))))))
theorem pu_Llack (T : Txt K mg A) {x0 x1 : V} {H : Hp} {Q : VK} (h : P_Llack K A x0 x1 H Q) : t_Llack K A { nx := fun _ H' => Q .non H', rt := Q } [some x0, some x1, none] H := by
  obtain ⟨s, S, M, d, rfl, x, dd, so, dok, hoo, ak, k⟩ := h
  obtain ⟨clv, e, c⟩ := x.parts
  obtain ⟨kvs, ev, rv⟩ := c.vo
  obtain ⟨a, xs, rfl, ea, q⟩ := deed_tup dd
  unfold t_Llack
  cases d with
  | cancel kk => exact absurd ak id
  | wish p =>
    obtain ⟨y, z, rfl, d1, d2⟩ := q.two
    cases d1.str1
    obtain ⟨pa, ps, rfl, ep, dps⟩ := party_tup d2
    have hpo : PtyOk S p := dok
    walk_at "go"
    refine c_Lneeds ⟨pa, ps, p, rfl, ep, dps, SmallSt.of so hpo.1, Nat.le_trans hpo.2 (by decide), fun nq H1 n1 f1 e1 => ?_⟩
    have ea1 := f1.tup _ _ ea
    walk_at "go"
    refine g_ite (fun _ => ?_) (fun z => absurd rfl z)
    walk_at "go"
    exact k nq H1 n1 f1 (by show H1 nq = some (.dT (cD (lackU p []))); rw [needs_lackU]; exact e1)
  | change kk p =>
    obtain ⟨y, z, w, rfl, d1, d2, d3⟩ := q.three
    cases d1.str1
    cases d2.int1
    obtain ⟨pa, ps, rfl, ep, dps⟩ := party_tup d3
    have hpo : PtyOk S p := dok
    have hs : (lk M.vo kk).isSome = true := ak
    rcases DkR.look rv kk with ⟨h1, _⟩ | ⟨ov, o, h1, h2, h3⟩
    · rw [h1] at hs; cases hs
    have ho : M.old (.change kk p) = o := by show (lk M.vo kk).getD [] = o; rw [h1]; rfl
    rw [ho] at hoo k
    walk_at "go"
    refine c_Lneeds ⟨pa, ps, p, rfl, ep, dps, SmallSt.of so hpo.1, Nat.le_trans hpo.2 (by decide), fun nq H1 n1 f1 e1 => ?_⟩
    have ea1 := f1.tup _ _ ea
    have eD1 := f1.at0 e
    walk_at "go"
    refine g_ite (fun z => absurd z (by decide)) (fun _ => ?_)
    walk_at "go"
    refine g_rdgI (.inl (f1.at0 ev)) h2 ?_
    obtain ⟨oa, os, rfl, eo, dos⟩ := party_tup (Da.frL f1 h3 (imm_party o))
    walk_at "go"
    refine c_Lneeds ⟨oa, os, o, rfl, eo, dos, SmallSt.of so hoo.1, Nat.le_trans hoo.2 (by decide), fun nq2 H2 n2 f2 e2 => ?_⟩
    walk_at "go"
    refine c_Lless ⟨nq, nq2, S, p, o, rfl, rfl, ne_of_none e1 n2, f2.at0 e1, e2, so, hpo, fun lq H3 n3 f3 e3 => ?_⟩
    walk_at "go"
    exact k lq H3 (f1.free (f2.free n3)) ((f1.then0 f2).then0 f3) e3
theorem ok_Llack {f : Addr} {fd : FuncData} (F : Fun K "_law_lack" "_law_lack" s_Llack f fd) (T : Txt K mg A) (c_Lneeds : Cal P w K mg base "_law_needs" 1 ["_law_party_here"] (sp_Lneeds K A)) (c_Lless : Cal P w K mg base "_law_less" 1 ["_law_first", "_law_second"] (sp_Lless K A)) : FnOk P w K mg base CX0 (2) f fd ["_law_model", "_law_deed_here"] (sp_Llack K A) := by
  refine F.ok sc_Llack (fun vs H Q E h => ?_) (fun cdv Ar outer s H vs Q E hr h => ⟨t_Llack K A, ?_, ?_⟩)
  · obtain ⟨x0, x1, rfl, _⟩ := h
    rfl
  · have hu := hu_of hr
    exact (pss_cons (ps_set (i := 2) sc_Llack.nd rfl (Or.inl rfl) (pe_cl c_Lneeds (hr.mono (by first | decide | omega)) (by rfl) (pa_cons (pe_ix ix_tup (pv 1) (pe_op o_sub (pe_callB b_len (by rfl) T.b_len (by decide +kernel) (pa_cons (pv 1) pa_nil)) pe_int) (fun _ _ => rfl)) pa_nil)))
    (pss_cons (ps_if (pt_cmpR op_eq (pe_ix ix_tup (pv 1) pe_int (fun _ _ => rfl)) pe_str (nomark _)) (pss_one (ps_ret (pv 2))) pss_nil)
    (pss_one (ps_ret (pe_cl c_Lless (hr.mono (by first | decide | omega)) (by rfl) (pa_cons (pv 2) (pa_cons (pe_cl c_Lneeds (hr.mono (by first | decide | omega)) (by rfl) (pa_cons (pe_dget hu (pe_dget hu (pv 0) pe_str (fun _ _ => rfl)) (pe_ix ix_tup (pv 1) pe_int (fun _ _ => rfl)) (fun _ _ => rfl)) pa_nil)) pa_nil)))))))
  · obtain ⟨x0, x1, rfl, h⟩ := h
    exact pu_Llack T h

def P_Lmust_wait (K : PySem.W.Frag) (A : Ad) (x0 x1 : V) (H : Hp) (Q : VK) : Prop := ∃ (s : SP) (S : Setup) (M : SM) (d : Deed), x0 = .ref s.p ∧ LAt H s S M ∧ Da H x1 (deedD d) ∧ SetupOk S ∧ M.Ok S ∧ DeedOk S d ∧
  ∀ H' : Hp, Fr [] H H' → Q (.bl (M.waits d)) H'
def sp_Lmust_wait (K : PySem.W.Frag) (A : Ad) : Sp := fun vs H Q _ => ∃ x0 x1, vs = [x0, x1] ∧ P_Lmust_wait K A x0 x1 H Q
theorem c_Lmust_wait {K : PySem.W.Frag} {A : Ad} {x0 x1 : V} {H : Hp} {Q : VK} {E : XK} (h : P_Lmust_wait K A x0 x1 H Q) : sp_Lmust_wait K A [x0, x1] H Q E := ⟨_, _, rfl, h⟩
theorem sc_Lmust_wait : FnScope ["_law_model", "_law_deed_here", "_law_cells_here", "_law_number", "_law_cell"] ["_law_model", "_law_deed_here"] (defScope s_Lmust_wait) := ⟨rfl, rfl, rfl, by decide +kernel, rfl, by decide +kernel, by decide +kernel⟩
def t_Lmust_wait (K : PySem.W.Frag) (A : Ad) : TS :=
  (tSeq (tAsg (tLst tNil) (gName 2))
    (Evl.tCut (tIfS (tTest (tOp rNe (tOp (rIxT K) (tVar 1) (tC (.int 0))) (tC (.str "cancel")))) (tDrop (tBM K "list" rExtend (tVar 2) (tCons (tLc (iKeys (tFreeze (tCl (sp_Lneeds K A) (tCons (tOp (rIxT K) (tVar 1) (tOp oSub (tCB (rLenSq K) (tCons (tVar 1) tNil)) (tC (.int 1)))) tNil)))) (gName 4) tYes (tVar 4) [4]) tNil))) tNext)
    (Evl.tCut (tIfS (tTest (tOp rNe (tOp (rIxT K) (tVar 1) (tC (.int 0))) (tC (.str "wish")))) (tSeq (tLock (tFor (iKeys (tDGet (tVar 0) (tC (.str "asks")))) (gName 3) (tIfS (tAnd (tTest (tOp rEq (tOp (rIxT K) (tDGet (tDGet (tVar 0) (tC (.str "asks"))) (tVar 3)) (tC (.int 0))) (tC (.str "change")))) (tTest (tOp rEq (tOp (rIxT K) (tDGet (tDGet (tVar 0) (tC (.str "asks"))) (tVar 3)) (tC (.int 1))) (tOp (rIxT K) (tVar 1) (tC (.int 1)))))) (tRet (tC (.bl true))) tNext)))
    (tIfS (tB (tDIn (tOp (rIxT K) (tVar 1) (tC (.int 1))) (tDGet (tVar 0) (tC (.str "vouchers"))))) (tDrop (tBM K "list" rExtend (tVar 2) (tCons (tLc (iKeys (tFreeze (tCl (sp_Lneeds K A) (tCons (tDGet (tDGet (tVar 0) (tC (.str "vouchers"))) (tOp (rIxT K) (tVar 1) (tC (.int 1)))) tNil)))) (gName 4) tYes (tVar 4) [4]) tNil))) tNext)) tNext)
    (tRet (tAndV (tOp rIsNotNon (tDGet (tVar 0) (tC (.str "closing"))) (tC .non)) (tOp cGt (tCB (rLenSq K) (tCons (tLc (iList K (tVar 2)) (gName 4) (tTest (tOp (rInDT K) (tVar 4) (tDGet (tVar 0) (tC (.str "closing"))))) (tVar 4) [4]) tNil)) (tC (.int 0))))))))
theorem pu_Lmust_wait (T : Txt K mg A) {x0 x1 : V} {H : Hp} {Q : VK} (h : P_Lmust_wait K A x0 x1 H Q) : t_Lmust_wait K A { nx := fun _ H' => Q .non H', rt := Q } [some x0, some x1, none, none, none] H := by
  obtain ⟨s, S, M, d, rfl, x, dd, so, mo, dok, k⟩ := h
  have nd := x.nd
  obtain ⟨clv, e, c⟩ := x.parts
  obtain ⟨kvs, ek, rk⟩ := c.ask
  obtain ⟨vkv, ev, rv⟩ := c.vo
  obtain ⟨a, xs, rfl, ea, q⟩ := deed_tup dd
  have hpo := dok.party
  have hoo := mo.old d
  unfold t_Lmust_wait
  walk_at "go"
  rename_i cl0 H0 n0 f0 e0
  have ea0 := f0.tup _ _ ea
  have e0p := f0.at0 e
  have idl : immL (deedL d) = true := by
    cases d with
    | wish p => show (true && (imm (partyD p) && true)) = true; rw [imm_party]; rfl
    | cancel k => rfl
    | change k p => show (true && (true && (imm (partyD p) && true))) = true; rw [imm_party]; rfl
  have q0 := DaL.frL f0 q idl
  have nlx : ∀ {b : Addr}, b ∈ s.os → b ≠ cl0 := fun {b} hb z => x.nin n0 (by rw [← z]; exact hb)
  refine g_cut (fun σ H' => (∃ v3 v4, σ = [some (.ref s.p), some (.ref a), some (.ref cl0), v3, v4]) ∧ Fr [cl0] H0 H' ∧ ∃ vs, H' cl0 = some (.lst vs) ∧ DaL H' vs ((cellsN d.party).map cellD)) ?_ ?_
  · have hd : d.party = [] ∧ (∃ kk, d = .cancel kk) ∨ ∃ w rest pv, xs = .str w :: rest ∧ w ≠ "cancel" ∧ atI xs ((xs.length : Int) - 1) = some pv ∧ Da H0 pv (partyD d.party) := by
      cases d with
      | wish p => obtain ⟨y, z, rfl, d1, d2⟩ := q0.two; cases d1.str1; exact .inr ⟨_, _, z, rfl, by decide, rfl, d2⟩
      | cancel kk => exact .inl ⟨rfl, kk, rfl⟩
      | change kk p => obtain ⟨y, z, w, rfl, d1, d2, d3⟩ := q0.three; cases d1.str1; exact .inr ⟨_, _, w, rfl, by decide, rfl, d3⟩
    rcases hd with ⟨hpn, kk, rfl⟩ | ⟨w, rest, pv, rfl, hw, hat, dpv⟩
    · obtain ⟨y, z, rfl, d1, d2⟩ := q0.two
      cases d1.str1
      walk_at "go"
      refine g_iteN (fun z => absurd rfl z) (fun _ => ?_)
      walk_at "go"
      exact ⟨⟨_, _, rfl⟩, Fr.refl, [], e0, .nil⟩
    · have at0 : atI (.str w :: rest) 0 = some (V.str w) := atI_nat (show (V.str w :: rest)[0]? = some _ from rfl)
      obtain ⟨pa, ps, rfl, ep, dps⟩ := party_tup dpv
      walk_at "go"
      refine g_ixT (SqT.of ea0) at0 ?_
      walk_at "go"
      refine g_iteN (fun _ => ?_) (fun z => absurd z hw)
      walk_at "go"
      refine g_ixT (SqT.of ea0) hat ?_
      walk_at "go"
      refine c_Lneeds ⟨pa, ps, d.party, rfl, ep, dps, SmallSt.of so hpo.1, Nat.le_trans hpo.2 (by decide), fun nq H1 n1 f1 e1 => ?_⟩
      refine g_rfrz e1 trivial trivial fun od H2 f2 e2 => ?_
      walk_at "go"
      refine l_keysT (kvs := cD (needsL d.party)) fun Dl H3 nD f3 e3 => ⟨fun i acc H' => DaL H' acc (((cellsN d.party).take i).map cellD) ∧ Fr [] H2 H', ⟨.nil, f3⟩, fun i acc H' h => h.2.at0 e2, fun i ke v q acc H' hi hq ha ⟨da, f⟩ => ?_, fun acc H' ha ⟨da, f⟩ => ?_⟩
      · obtain ⟨y, hy, rfl, rfl⟩ := cD_get hi
        have hcy : (cellsN d.party)[i]? = some y.1 := by unfold cellsN; rw [List.getElem?_map, hy]; rfl
        walk_at "go"
        refine ⟨rfl, ?_⟩
        walk_at "go"
        have hal : acc.length ≤ 100 := by rw [da.len, List.length_map, List.length_take]; have := needs_le so hpo.1; unfold cellsN; rw [List.length_map]; omega
        refine lcY_of ha (szM (by omega)) fun H4 f4 e4 => ⟨?_, f.own1 f4 nD⟩
        rw [take_more hcy, List.map_append]
        exact (DaL.frL f4 da (immL_map imm_cell _)).append (.one' (.tup (f4.tup _ _ hq) (Nat.le_of_ble_eq_true rfl) (.cons (.int _) (.one' (.int _)))))
      · have hl : (cD (needsL d.party)).length = (cellsN d.party).length := by unfold cellsN; rw [enD_len, List.length_map]
        rw [hl, List.take_length] at da
        have hal : acc.length ≤ 36 := by rw [da.len, List.length_map, ← hl, enD_len]; exact needs_le so hpo.1
        have nq0 : nq ≠ cl0 := (ne_of_none e0 n1).symm
        have F : Fr [nq] H0 H' := (f2.pre0' f1).then0 f
        walk_at "go"
        refine g_extend (xs := []) (F.at e0 (nin1 nq0.symm nin0)) ha (Nat.le_of_lt (szM (by simp; omega))) fun H4 f4 e4 => ?_
        walk_at "go"
        refine ⟨⟨_, _, rfl⟩, ((F.drop n1).mono (fun _ h => nomatch h)).transL f4, acc, e4, DaL.frL f4 da (immL_map imm_cell _)⟩
  · rintro σ H1 ⟨⟨v3, v4, rfl⟩, f1, vs, e1, dvs⟩
    have F1 : Fr [] H H1 := f0.own1 f1 n0
    have q1 := DaL.frL F1 q idl
    have ea1 := F1.tup _ _ ea
    have ep1 := F1.at0 e
    have ek1 := F1.at0 ek
    have rk1 := rk.fr F1
    have ev1 := F1.at0 ev
    have rv1 := rv.fr F1
    have c1 := c.frm F1 fun _ _ => nin0
    have np0 : s.p ≠ cl0 := nlx s.m_p
    have f1' := f1
    clear q0 q ea e0p ea0 f1 e0
    refine g_cut (fun σ H' => (∃ v3 v4, σ = [some (.ref s.p), some (.ref a), some (.ref cl0), v3, v4]) ∧ Fr [cl0] H1 H' ∧ M.pd d = false ∧ ∃ vs, H' cl0 = some (.lst vs) ∧ DaL H' vs ((cellsN d.party ++ cellsN (M.old d)).map cellD)) ?_ ?_
    · rcases deed_sort q1 with ⟨y, p, rfl, rfl, _⟩ | ⟨w, kk, rest, rfl, hw, hn⟩
      · walk_at "go"
        refine g_iteN (fun z => absurd rfl z) (fun _ => ?_)
        walk_at "go"
        exact ⟨⟨_, _, rfl⟩, Fr.refl, rfl, vs, e1, by show DaL H1 vs ((cellsN p ++ []).map cellD); rw [List.append_nil]; exact dvs⟩
      · have at0 : atI (.str w :: .int kk :: rest) 0 = some (V.str w) := atI_nat (show (V.str w :: V.int kk :: rest)[0]? = some _ from rfl)
        have at1 : atI (.str w :: .int kk :: rest) 1 = some (V.int kk) := atI_nat (show (V.str w :: V.int kk :: rest)[1]? = some _ from rfl)
        have hpd := pd_named (M := M) hn
        have hold := old_named (M := M) hn
        walk_at "go"
        refine g_ixT (SqT.of ea1) at0 ?_
        walk_at "go"
        refine g_iteN (fun _ => ?_) (fun z => absurd z hw)
        walk_at "go"
        refine g_lock ek1 trivial trivial fun od H2 f2 e2 => ?_
        have ep2 := f2.at ep1 (nin1 nd.p_ask nin0)
        have ea2 := f2.tup _ _ ea1
        walk_at "go"
        refine f_keysK (kvs := kvs) (fun i σ H' => (∃ v3, σ = [some (.ref s.p), some (.ref a), some (.ref cl0), v3, v4]) ∧ Fr [] H2 H' ∧ (M.ask.take i).any (fun e => isCh kk e.2) = false) ⟨⟨_, rfl⟩, Fr.refl, rfl⟩ (fun i σ H' _ ⟨_, f, _⟩ => f.at0 e2) ?_ ?_
        · rintro i key v σ H3 hi ⟨⟨v3, rfl⟩, f3, hno⟩
          obtain ⟨y, hy, rfl, _⟩ := DkR.get rk1 hi
          have ⟨z, hz, hyz⟩ : ∃ z, M.ask[i]? = some z ∧ (z.1, deedD z.2) = y := by
            unfold askT at hy
            rw [List.getElem?_map] at hy
            cases q : M.ask[i]? with
            | none => rw [q] at hy; cases hy
            | some z => rw [q] at hy; exact ⟨z, rfl, Option.some.inj hy⟩
          subst hyz
          have hl : lk M.ask z.1 = some z.2 := lk_mem mo.an (List.mem_of_getElem? hz)
          rcases DkR.look rk1 z.1 with ⟨h1, _⟩ | ⟨dv, zz, h1, h2, h3⟩
          · rw [hl] at h1; cases h1
          rw [hl] at h1
          cases h1
          have ep3 := f3.at0 ep2
          have ea3 := f3.tup _ _ ea2
          have ek3 := f3.at0 e2
          have dz3 := Da.frL (f2.then0 f3) h3 (imm_deed z.2)
          have tk : (M.ask.take (i + 1)).any (fun e => isCh kk e.2) = isCh kk z.2 := by rw [take_more hz, List.any_append, hno]; simp
          have fin : isCh kk z.2 = true → M.waits d = true := fun hch => by
            rw [waits_def, hpd]
            have : M.pend kk = true := List.any_eq_true.mpr ⟨z, List.mem_of_getElem? hz, hch⟩
            rw [this]; rfl
          generalize z.2 = zd at *
          walk_at "go"
          refine g_rdgI (.inr ⟨_, ek3⟩) h2 ?_
          cases zd with
          | wish p =>
            obtain ⟨b, us, rfl, eb, _, qb⟩ := Da.tup1 dz3
            obtain ⟨u1, u2, rfl, d1, d2⟩ := qb.two
            cases d1.str1
            walk_at "go"
            refine g_ite (fun z => absurd z (by decide)) (fun _ => ?_)
            walk_at "go"
            exact ⟨⟨_, rfl⟩, f3, by rw [tk]; rfl⟩
          | cancel j =>
            obtain ⟨b, us, rfl, eb, _, qb⟩ := Da.tup1 dz3
            obtain ⟨u1, u2, rfl, d1, d2⟩ := qb.two
            cases d1.str1
            walk_at "go"
            refine g_ite (fun z => absurd z (by decide)) (fun _ => ?_)
            walk_at "go"
            exact ⟨⟨_, rfl⟩, f3, by rw [tk]; rfl⟩
          | change j p =>
            obtain ⟨b, us, rfl, eb, _, qb⟩ := Da.tup1 dz3
            obtain ⟨u1, u2, u3, rfl, d1, d2, d3⟩ := qb.three
            cases d1.str1
            cases d2.int1
            walk_at "go"
            refine g_ite (fun _ => ?_) (fun z => absurd rfl z)
            walk_at "go"
            refine g_rdgI (.inr ⟨_, ek3⟩) h2 ?_
            walk_at "go"
            refine g_ixT (SqT.of ea3) at1 ?_
            walk_at "go"
            refine g_ite (fun hj => ?_) (fun hj => ?_)
            · walk_at "go"
              rename_i H5 f5 e5
              have F : Fr [] H1 H5 := ((f2.then0 f3).transL f5).back ek1 e5
              have := k H5 (F1.then0 F)
              rw [fin (decide_eq_true hj)] at this
              exact this
            · walk_at "go"
              exact ⟨⟨_, rfl⟩, f3, by rw [tk]; exact decide_eq_false hj⟩
        · rintro σ H3 ⟨⟨v3, rfl⟩, f3, hno⟩
          have hkl : kvs.length = M.ask.length := by rw [rk.len]; unfold askT; rw [List.length_map]
          rw [hkl, List.take_length] at hno
          refine g_unlK (f3.at0 e2) fun H5 f5 e5 => ?_
          have F5 : Fr [] H1 H5 := ((f2.then0 f3).transL f5).back ek1 e5
          have ep5 := F5.at0 ep1
          have ea5 := F5.tup _ _ ea1
          have ev5 := F5.at0 ev1
          have e15 := F5.at0 e1
          have dvs5 := DaL.frL F5 dvs (immL_map imm_cell _)
          walk_at "go"
          refine g_ixT (SqT.of ea5) at1 ?_
          walk_at "go"
          have rv5 := rv1.fr F5
          have hpf : M.pd d = false := hpd.trans hno
          show rDI (.int kk) (.ref s.vo) H5 _
          refine g_rdiI (.inl ev5) ?_
          rcases DkR.look rv5 kk with ⟨h1, h2⟩ | ⟨ov, o, h1, h2, h3⟩
          · have ho : M.old d = [] := by rw [hold, h1]; rfl
            rw [h2, show (none : Option V).isSome = false from rfl]
            walk_at "go"
            exact ⟨⟨_, _, rfl⟩, F5.of0, hpf, vs, e15, by rw [ho]; show DaL H5 vs ((cellsN d.party ++ []).map cellD); rw [List.append_nil]; exact dvs5⟩
          · have ho : M.old d = o := by rw [hold, h1]; rfl
            rw [ho] at hoo
            rw [h2, show (some ov : Option V).isSome = true from rfl, ho]
            obtain ⟨oa, os, rfl, eo, dos⟩ := party_tup h3
            walk_at "go"
            refine g_ixT (SqT.of ea5) at1 ?_
            show rDG (.ref s.vo) (.int kk) H5 _
            refine g_rdgI (.inl ev5) h2 ?_
            walk_at "go"
            refine c_Lneeds ⟨oa, os, o, rfl, eo, dos, SmallSt.of so hoo.1, Nat.le_trans hoo.2 (by decide), fun nq H6 n6 f6 e6 => ?_⟩
            refine g_rfrz e6 trivial trivial fun od2 H7 f7 e7 => ?_
            walk_at "go"
            refine l_keysT (kvs := cD (needsL o)) fun Dl H8 nD f8 e8 => ⟨fun i acc H' => DaL H' acc (((cellsN o).take i).map cellD) ∧ Fr [] H7 H', ⟨.nil, f8⟩, fun i acc H' h => h.2.at0 e7, fun i ke v q acc H' hi hq ha ⟨da, f⟩ => ?_, fun acc H' ha ⟨da, f⟩ => ?_⟩
            · obtain ⟨y, hy, rfl, rfl⟩ := cD_get hi
              have hcy : (cellsN o)[i]? = some y.1 := by unfold cellsN; rw [List.getElem?_map, hy]; rfl
              walk_at "go"
              refine ⟨rfl, ?_⟩
              walk_at "go"
              have hal : acc.length ≤ 100 := by rw [da.len, List.length_map, List.length_take]; have := needs_le so hoo.1; unfold cellsN; rw [List.length_map]; omega
              refine lcY_of ha (szM (by omega)) fun H9 f9 e9 => ⟨?_, f.own1 f9 nD⟩
              rw [take_more hcy, List.map_append]
              exact (DaL.frL f9 da (immL_map imm_cell _)).append (.one' (.tup (f9.tup _ _ hq) (Nat.le_of_ble_eq_true rfl) (.cons (.int _) (.one' (.int _)))))
            · have hl : (cD (needsL o)).length = (cellsN o).length := by unfold cellsN; rw [enD_len, List.length_map]
              rw [hl, List.take_length] at da
              have hal : acc.length ≤ 36 := by rw [da.len, List.length_map, ← hl, enD_len]; exact needs_le so hoo.1
              have hvl : vs.length ≤ 36 := by rw [dvs.len, List.length_map]; unfold cellsN; rw [List.length_map]; exact needs_le so hpo.1
              have nq0 : nq ≠ cl0 := (ne_of_none e15 n6).symm
              have F : Fr [nq] H5 H' := (f7.pre0' f6).then0 f
              have Fd : Fr [] H5 H' := F.drop n6
              walk_at "go"
              refine g_extend (F.at e15 (nin1 nq0.symm nin0)) ha (Nat.le_of_lt (szM (by omega))) fun H9 f9 e9 => ?_
              walk_at "go"
              refine ⟨⟨_, _, rfl⟩, (F5.then0 Fd).of0.transL f9, hpf, vs ++ acc, e9, ?_⟩
              rw [List.map_append]
              exact (DaL.frL (f9.pre0' Fd) dvs5 (immL_map imm_cell _)).append (DaL.frL f9 da (immL_map imm_cell _))
    · rintro σ H2 ⟨⟨v3, v4, rfl⟩, f2, hp, ws, e2, dws⟩
      have e2p := f2.at ep1 (nin1 np0 nin0)
      have dc2 : Da H2 clv (closD M.cl) := Da.frL f2 c1.clv (imm_clos _)
      have hwl : ws.length = (cellsN d.party ++ cellsN (M.old d)).length := by rw [dws.len, List.length_map]
      have F2 : Fr [] H H2 := f0.own1 (f1'.transL f2) n0
      cases hc : M.cl with
      | none =>
        rw [hc] at dc2
        cases dc2
        walk_at "go"
        refine g_iteN (P := V.non = V.non) (fun z => absurd rfl z) (fun _ => ?_)
        have hw : M.waits d = false := by rw [waits_def, hp]; unfold SM.shut; rw [hc]; rfl
        have := k H2 F2
        rw [hw] at this
        exact this
      | some cl =>
        rw [hc] at dc2
        have dcl := dc2
        obtain ⟨b, cs, rfl, eb, _, qb⟩ := dc2.tup1
        walk_at "go"
        refine g_iteN (P := V.ref b = V.non) (fun _ => ?_) (fun z => by cases z)
        walk_at "go"
        refine l_list (xs := ws) fun Dl H3 nD f3 e3 => ⟨fun i acc H' => acc.length = (((cellsN d.party ++ cellsN (M.old d)).take i).filter fun c => decide (c ∈ cl)).length ∧ Fr [] H2 H', ⟨rfl, f3⟩, fun i acc H' q => SqL.of (q.2.at0 e2), fun i x acc H' hx ha ⟨ea', f⟩ => ?_, fun acc H' ha ⟨ea', f⟩ => ?_⟩
        · obtain ⟨cc, ca, hcc, rfl, eca⟩ := cells_get (DaL.frL f dws (immL_map imm_cell _)) hx
          have ep' := f.at0 e2p
          have hal : acc.length ≤ 100 := by
            rw [ea']
            refine Nat.le_trans (List.length_filter_le _ _) (Nat.le_trans (List.length_take_le' _ _) ?_)
            rw [List.length_append]
            have h1 := needs_le so hpo.1
            have h2 := needs_le so hoo.1
            unfold cellsN
            rw [List.length_map, List.length_map]; omega
          have tk := take_more hcc
          walk_at "go"
          refine ⟨rfl, ?_⟩
          walk_at "go"
          refine g_inC (.tup eca (Nat.le_of_ble_eq_true rfl) (.cons (.int _) (.one' (.int _)))) (Da.frL f dcl (imm_cells cl)) ?_
          walk_at "go"
          refine g_ite (fun hin => ?_) (fun hin => ?_)
          · walk_at "go"
            refine lcY_of ha (szM (by omega)) fun H4 f4 e4 => ⟨?_, f.own1 f4 nD⟩
            rw [tk, List.filter_append, List.length_append, List.length_append, ea', List.filter_cons, if_pos (decide_eq_true hin)]; rfl
          · refine lcN_of ha ⟨?_, f⟩
            rw [tk, List.filter_append, List.length_append, ea', List.filter_cons, if_neg (by rw [decide_eq_false hin]; decide)]; rfl
        · rw [hwl, List.take_length] at ea'
          walk_at "go"
          have hw : M.waits d = decide ((0 : Int) < (acc.length : Int)) := by
            rw [waits_def, hp, Bool.false_or]
            unfold SM.shut
            rw [hc]
            show (List.any _ fun c => decide (c ∈ cl)) = _
            rw [ea']
            generalize cellsN d.party ++ cellsN (M.old d) = C
            by_cases h : C.any (fun c => decide (c ∈ cl)) = true
            · rw [h]
              obtain ⟨w, hw1, hw2⟩ := List.any_eq_true.mp h
              have : 0 < (C.filter fun c => decide (c ∈ cl)).length := List.length_pos_of_mem (List.mem_filter.mpr ⟨hw1, hw2⟩)
              exact (decide_eq_true (by omega)).symm
            · have hf : C.any (fun c => decide (c ∈ cl)) = false := by simpa using h
              rw [hf]
              have : (C.filter fun c => decide (c ∈ cl)) = [] := List.filter_eq_nil_iff.mpr fun w hw1 hw2 => h (List.any_eq_true.mpr ⟨w, hw1, hw2⟩)
              rw [this]; rfl
          have := k H' (F2.then0 f)
          rw [hw] at this
          exact this
theorem ok_Lmust_wait {f : Addr} {fd : FuncData} (F : Fun K "_law_must_wait" "_law_must_wait" s_Lmust_wait f fd) (T : Txt K mg A) (c_Lneeds : Cal P w K mg base "_law_needs" 1 ["_law_party_here"] (sp_Lneeds K A)) : FnOk P w K mg base CX0 (2) f fd ["_law_model", "_law_deed_here"] (sp_Lmust_wait K A) := by
  refine F.ok sc_Lmust_wait (fun vs H Q E h => ?_) (fun cdv Ar outer s H vs Q E hr h => ⟨t_Lmust_wait K A, ?_, ?_⟩)
  · obtain ⟨x0, x1, rfl, _⟩ := h
    rfl
  · have hu := hu_of hr
    exact (pss_cons (ps_set (i := 2) sc_Lmust_wait.nd rfl (Or.inl rfl) (pe_lst pa_nil))
    (Evl.pss_cut (ps_if (pt_cmpR op_ne (pe_ix ix_tup (pv 1) pe_int (fun _ _ => rfl)) pe_str (nomark _)) (pss_one (ps_expr (pe_bm PySem.F.plainAttrs_list PySem.F.slot_list_extend PySem.F.type_list_extend mt_extend (pv 2) (pa_cons (pe_lc (own := [("_law_cell", 4)]) (g := (gName 4)) (tt := tYes) rfl sc_Lmust_wait.nd (pi_keys (pe_freeze (pe_cl c_Lneeds (hr.mono (by first | decide | omega)) (by rfl) (pa_cons (pe_ix ix_tup (pv 1) (pe_op o_sub (pe_callB b_len (by rfl) T.b_len (by decide +kernel) (pa_cons (pv 1) pa_nil)) pe_int) (fun _ _ => rfl)) pa_nil)))) (blkOk_by (N := ["_law_model", "_law_deed_here", "_law_cells_here", "_law_number", "_law_cell"]) (sc := defScope s_Lmust_wait) (own := [("_law_cell", 4)]) (by decide +kernel)) (fun _ _ _ _ _ => (pg_name (i := 4) sc_Lmust_wait.nd rfl (Or.inl rfl))) (fun _ _ _ _ _ => pts_nil) (fun _ _ _ _ _ => (pv 4))) pa_nil)))) pss_nil)
    (Evl.pss_cut (ps_if (pt_cmpR op_ne (pe_ix ix_tup (pv 1) pe_int (fun _ _ => rfl)) pe_str (nomark _)) (pss_cons (ps_lock (ps_for PassesOwn.never rfl (pi_keys (pe_dget hu (pv 0) pe_str (fun _ _ => rfl))) (pg_name (i := 3) sc_Lmust_wait.nd rfl (Or.inl rfl)) (pss_one (ps_if (PW.pt (pw_and (pt_cmpR op_eq (pe_ix ix_tup (pe_dget hu (pe_dget hu (pv 0) pe_str (fun _ _ => rfl)) (pv 3) (fun _ _ => rfl)) pe_int (fun _ _ => rfl)) pe_str (nomark _)) (pw_and1 (pt_cmpR op_eq (pe_ix ix_tup (pe_dget hu (pe_dget hu (pv 0) pe_str (fun _ _ => rfl)) (pv 3) (fun _ _ => rfl)) pe_int (fun _ _ => rfl)) (pe_ix ix_tup (pv 1) pe_int (fun _ _ => rfl)) (nomark _))))) (pss_one (ps_ret pe_bl)) pss_nil))))
    (pss_one (ps_if (pt_cmp (pc_din hu (pe_ix ix_tup (pv 1) pe_int (fun _ _ => rfl)) (pe_dget hu (pv 0) pe_str (fun _ _ => rfl))) rfl) (pss_one (ps_expr (pe_bm PySem.F.plainAttrs_list PySem.F.slot_list_extend PySem.F.type_list_extend mt_extend (pv 2) (pa_cons (pe_lc (own := [("_law_cell", 4)]) (g := (gName 4)) (tt := tYes) rfl sc_Lmust_wait.nd (pi_keys (pe_freeze (pe_cl c_Lneeds (hr.mono (by first | decide | omega)) (by rfl) (pa_cons (pe_dget hu (pe_dget hu (pv 0) pe_str (fun _ _ => rfl)) (pe_ix ix_tup (pv 1) pe_int (fun _ _ => rfl)) (fun _ _ => rfl)) pa_nil)))) (blkOk_by (N := ["_law_model", "_law_deed_here", "_law_cells_here", "_law_number", "_law_cell"]) (sc := defScope s_Lmust_wait) (own := [("_law_cell", 4)]) (by decide +kernel)) (fun _ _ _ _ _ => (pg_name (i := 4) sc_Lmust_wait.nd rfl (Or.inl rfl))) (fun _ _ _ _ _ => pts_nil) (fun _ _ _ _ _ => (pv 4))) pa_nil)))) pss_nil))) pss_nil)
    (pss_one (ps_ret (pe_and (pe_cmpR c_notN (pe_dget hu (pv 0) pe_str (fun _ _ => rfl)) pe_non (nomark _)) (pe_one (pe_cmpR c_gt (pe_callB b_len (by rfl) T.b_len (by decide +kernel) (pa_cons (pe_lc (own := [("_law_cell", 4)]) (g := (gName 4)) (tt := (tTest (tOp (rInDT K) (tVar 4) (tDGet (tVar 0) (tC (.str "closing")))))) rfl sc_Lmust_wait.nd (pi_list (pv 2)) (blkOk_by (N := ["_law_model", "_law_deed_here", "_law_cells_here", "_law_number", "_law_cell"]) (sc := defScope s_Lmust_wait) (own := [("_law_cell", 4)]) (by decide +kernel)) (fun _ _ _ _ _ => (pg_name (i := 4) sc_Lmust_wait.nd rfl (Or.inl rfl))) (fun _ _ _ _ _ => (pts_one (pt_cmpR (op_inDT hr.units) (pv 4) (pe_dget hu (pv 0) pe_str (fun _ _ => rfl)) rfl))) (fun _ _ _ _ _ => (pv 4))) pa_nil)) pe_int (nomark _)))))))))
  · obtain ⟨x0, x1, rfl, h⟩ := h
    exact pu_Lmust_wait T h

/-! ### the cells of a lack, sorted -/
theorem srt_eq {ds es : List PyData} (h : ds.Perm es) (anti : ∀ a b, a ∈ ds → b ∈ ds → PySem.W.dataLe false id a b = true → PySem.W.dataLe false id b a = true → a = b) : srt ds = srt es :=
  List.Perm.eq_of_pairwise (le := fun a b => PySem.W.dataLe false id a b = true) (fun a b ha hb => anti a b ((srt_perm ds).mem_iff.mp ha) (h.mem_iff.mpr ((srt_perm es).mem_iff.mp hb))) (PySem.W.sort_pairwise (dle_total id) ds) (PySem.W.sort_pairwise (dle_total id) es) ((srt_perm ds).trans (h.trans (srt_perm es).symm))
theorem cell_anti (a b : Cell) (h1 : PySem.W.dataLe false id (cellD a) (cellD b) = true) (h2 : PySem.W.dataLe false id (cellD b) (cellD a) = true) : a = b := by
  have d1 : PySem.W.dataLt (cellD b) (cellD a) = false := by simpa [PySem.W.dataLe_eq] using h1
  have d2 : PySem.W.dataLt (cellD a) (cellD b) = false := by simpa [PySem.W.dataLe_eq] using h2
  unfold cellD at d1 d2
  rw [PySem.W.dataLt_ii, decide_eq_false_iff_not] at d1 d2
  exact Prod.ext (by omega) (by omega)
theorem cellD_inj {a b : Cell} (h : cellD a = cellD b) : a = b := by
  simp [cellD] at h
  exact Prod.ext h.1 h.2
theorem scell_sorted (l : List Cell) : (scell l).Pairwise fun a b => PySem.W.dataLe false id (cellD a) (cellD b) = true := by
  have h := PySem.W.sort_pairwise (dle_total id) (l.map cellD)
  have e : srt (l.map cellD) = (scell l).map cellD := (scell_map l).symm
  have h2 : (srt (l.map cellD)).Pairwise fun a b => PySem.W.dataLe false id a b = true := h
  rw [e] at h2
  exact List.pairwise_map.mp h2
theorem scell_perm_eq {l m : List Cell} (hs : l.Pairwise fun a b => PySem.W.dataLe false id (cellD a) (cellD b) = true) (h : l.Perm m) : scell m = l :=
  List.Perm.eq_of_pairwise (le := fun a b => PySem.W.dataLe false id (cellD a) (cellD b) = true) (fun a b _ _ => cell_anti a b) (scell_sorted m) hs ((scell_perm m).trans h.symm)
theorem scell_filter (l : List Cell) (P : Cell → Bool) : scell (l.filter P) = (scell l).filter P := scell_perm_eq ((scell_sorted l).filter P) ((scell_perm l).filter P)
theorem lackC_filter (p o : List Stay) : ∀ l : List Cell, l.filterMap (lackC1 p o) = (l.filter fun c => decide (nd o c < nd p c)).map fun c => (c, nd p c - nd o c)
  | [] => rfl
  | c :: l => by
    rw [List.filterMap_cons, List.filter_cons]
    by_cases h : nd o c < nd p c
    · have e : lackC1 p o c = some (c, nd p c - nd o c) := if_pos h
      rw [e, if_pos (decide_eq_true h), List.map_cons, lackC_filter p o l]
    · have e : lackC1 p o c = none := if_neg h
      rw [e, if_neg (by rw [decide_eq_false h]; decide), lackC_filter p o l]
theorem lackU_keys (p o : List Stay) : (lackU p o).map (·.1) = (cellsN p).filter fun c => decide (nd o c < nd p c) := by
  unfold lackU
  rw [lackC_filter, List.map_map]
  exact (List.map_congr_left fun _ _ => rfl).trans (List.map_id _)
theorem lackL_sorted (p o : List Stay) : lackL p o = (scell ((lackU p o).map (·.1))).map fun c => (c, nd p c - nd o c) := by
  rw [lackU_keys, scell_filter]
  exact lackC_filter p o _
theorem lackU_perm (p o : List Stay) : (lackU p o).Perm (lackL p o) := ((scell_perm (cellsN p)).filterMap (lackC1 p o)).symm
theorem has_perm (M : SM) (p o : List Stay) : M.has (lackU p o) = M.has (lackL p o) := by
  unfold SM.has
  exact (lackU_perm p o).all_eq

theorem addM_neg (f : Cell → Int) (p : List Stay) : addM f (-1) (needsL p) = fun c => f c - nd p c := funext fun c => by unfold addM nd; omega
theorem ltell_at {H H1 H2 : Hp} {s : SP} {S : Setup} {M : SM} {t : Addr} {n : Int} {g : Bool} {ts : List V} (x : LAt H s S M) (dt : DaL H ts (M.told.map tellD)) (f1 : Fr [] H H1) (e1 : H1 t = some (.tup [.int n, .bl g])) (f2 : Fr [s.told] H1 H2) (e2 : H2 s.told = some (.lst (ts ++ [.ref t]))) : LAt H2 s S (SM.tell n g M) := by
  have it : immL (M.told.map tellD) = true := immL_map imm_tell _
  refine (x.f0 f1).w_told (v := M.told ++ [(n, g)]) f2 ?_
  rw [List.map_append]
  exact LsAt.snoc (DaL.frL f1 dt it) it (.tup e1 (Nat.le_of_ble_eq_true rfl) (.cons (.int _) (.one' (.bl _)))) rfl f2 e2
def P_Ldo (K : PySem.W.Frag) (A : Ad) (x0 x1 x2 x3 : V) (H : Hp) (Q : VK) : Prop := ∃ (s : SP) (S : Setup) (M : SM) (n : Int) (d : Deed), Da H x0 (setupD S) ∧ x1 = .ref s.p ∧ LAt H s S M ∧ x2 = .int n ∧ Da H x3 (deedD d) ∧ SetupOk S ∧ M.Ok S ∧ DeedOk S d ∧ M.Sz 98000 ∧
  LStep H s S (M.doit S n d) (fun H' => Q .non H')
def sp_Ldo (K : PySem.W.Frag) (A : Ad) : Sp := fun vs H Q _ => ∃ x0 x1 x2 x3, vs = [x0, x1, x2, x3] ∧ P_Ldo K A x0 x1 x2 x3 H Q
theorem c_Ldo {K : PySem.W.Frag} {A : Ad} {x0 x1 x2 x3 : V} {H : Hp} {Q : VK} {E : XK} (h : P_Ldo K A x0 x1 x2 x3 H Q) : sp_Ldo K A [x0, x1, x2, x3] H Q E := ⟨_, _, _, _, rfl, h⟩
theorem sc_Ldo : FnScope ["_law_setup_here", "_law_model", "_law_number", "_law_deed_here", "_law_party_here", "_law_lack_here", "_law_cell"] ["_law_setup_here", "_law_model", "_law_number", "_law_deed_here"] (defScope s_Ldo) := ⟨rfl, rfl, rfl, by decide +kernel, rfl, by decide +kernel, by decide +kernel⟩
def t_Ldo (K : PySem.W.Frag) (A : Ad) : TS :=
  (Evl.tCut (tIfS (tAnd (tTest (tOp rNe (tOp (rIxT K) (tVar 3) (tC (.int 0))) (tC (.str "wish")))) (tB (tDNotIn (tOp (rIxT K) (tVar 3) (tC (.int 1))) (tDGet (tVar 1) (tC (.str "vouchers")))))) (tSeq (tDrop (tBM K "list" rAppend (tDGet (tVar 1) (tC (.str "told"))) (tCons (tTup (tCons (tVar 2) (tCons (tC (.bl false)) tNil))) tNil)))
    tRetN) tNext)
    (Evl.tCut (tIfS (tTest (tOp rEq (tOp (rIxT K) (tVar 3) (tC (.int 0))) (tC (.str "cancel")))) (tSeq (tAsg (tDPop1 (tDGet (tVar 1) (tC (.str "vouchers"))) (tOp (rIxT K) (tVar 3) (tC (.int 1)))) (gName 4))
    (tSeq (tDrop (tCl (sp_Ladd K A) (tCons (tVar 1) (tCons (tCl (sp_Lneeds K A) (tCons (tVar 4) tNil)) (tCons (tC (.int 1)) tNil)))))
    (tSeq (tDrop (tCl (sp_Lrow K A) (tCons (tVar 1) (tCons (tTup (tCons (tC (.str "cancelled")) (tCons (tOp (rIxT K) (tVar 3) (tC (.int 1))) (tCons (tCl (sp_Lprice K A) (tCons (tVar 0) (tCons (tVar 4) tNil))) (tCons (tCl (sp_Lkept K A) (tCons (tVar 0) (tCons (tVar 4) tNil))) tNil))))) tNil))))
    (tSeq (tDrop (tBM K "list" rAppend (tDGet (tVar 1) (tC (.str "told"))) (tCons (tTup (tCons (tVar 2) (tCons (tC (.bl true)) tNil))) tNil)))
    tRetN)))) tNext)
    (tSeq (tAsg (tCl (sp_Llack K A) (tCons (tVar 1) (tCons (tVar 3) tNil))) (gName 5))
    (tSeq (tIfS (tTest (tOp cGt (tCB (rLenSq K) (tCons (tLockE (tLc (iKeys (tVar 5)) (gName 6) (tTest (tOp cLt (tDGet2 (tDGet (tVar 1) (tC (.str "free"))) (tVar 6) (tC (.int 0))) (tDGet (tVar 5) (tVar 6)))) (tVar 6) [6])) tNil)) (tC (.int 0)))) (tSeq (sDPut (tDGet (tVar 1) (tC (.str "asks"))) (tVar 2) (tVar 3))
    (tSeq (tDrop (tBM K "list" rAppend (tDGet (tVar 1) (tC (.str "out"))) (tCons (tTup (tCons (tC (.str "ask")) (tCons (tVar 2) (tCons (tCB (rTupOf K) (tCons (tLc (iList K (tCB rSortedDT (tCons (tVar 5) tNil))) (gName 6) tYes (tTup (tCons (tVar 6) (tCons (tDGet (tVar 5) (tVar 6)) tNil))) [6]) tNil)) tNil)))) tNil)))
    tRetN)) tNext)
    (tSeq (tDrop (tCl (sp_Ladd K A) (tCons (tVar 1) (tCons (tCl (sp_Lneeds K A) (tCons (tOp (rIxT K) (tVar 3) (tOp oSub (tCB (rLenSq K) (tCons (tVar 3) tNil)) (tC (.int 1)))) tNil)) (tCons (tUn rNeg (tC (.int 1))) tNil)))))
    (tSeq (tIfS (tTest (tOp rEq (tOp (rIxT K) (tVar 3) (tC (.int 0))) (tC (.str "wish")))) (tDrop (tCl (sp_Lsold K A) (tCons (tVar 0) (tCons (tVar 1) (tCons (tVar 2) (tCons (tOp (rIxT K) (tVar 3) (tC (.int 1))) tNil)))))) (tSeq (tDrop (tCl (sp_Ladd K A) (tCons (tVar 1) (tCons (tCl (sp_Lneeds K A) (tCons (tDGet (tDGet (tVar 1) (tC (.str "vouchers"))) (tOp (rIxT K) (tVar 3) (tC (.int 1)))) tNil)) (tCons (tC (.int 1)) tNil)))))
    (tDrop (tCl (sp_Lchanged K A) (tCons (tVar 0) (tCons (tVar 1) (tCons (tOp (rIxT K) (tVar 3) (tC (.int 1))) (tCons (tOp (rIxT K) (tVar 3) (tC (.int 2))) tNil))))))))
    (tDrop (tBM K "list" rAppend (tDGet (tVar 1) (tC (.str "told"))) (tCons (tTup (tCons (tVar 2) (tCons (tC (.bl true)) tNil))) tNil)))))))))
theorem pu_Ldo (T : Txt K mg A) {x0 x1 x2 x3 : V} {H : Hp} {Q : VK} (h : P_Ldo K A x0 x1 x2 x3 H Q) : t_Ldo K A { nx := fun _ H' => Q .non H', rt := Q } [some x0, some x1, some x2, some x3, none, none, none] H := by
  obtain ⟨s, S, M, n, d, dS, rfl, x, rfl, dd, so, mo, dok, sz, kk⟩ := h
  have nd0 := x.nd
  obtain ⟨clv, e, c⟩ := x.parts
  obtain ⟨kvs, ev, rv⟩ := c.vo
  obtain ⟨it, ts, et, dt⟩ := c.told
  have htl : ts.length ≤ 200000 := by rw [dt.len, List.length_map]; have := sz.told; omega
  obtain ⟨a, xs, rfl, ea, q⟩ := deed_tup dd
  unfold t_Ldo
  refine g_cut (fun σ H' => (∃ v4 v5 v6, σ = [some x0, some (.ref s.p), some (.int n), some (.ref a), v4, v5, v6]) ∧ H' = H ∧ ∀ k, nameOf d = some k → (lk M.vo k).isSome = true) ?_ ?_
  · rcases deed_sort q with ⟨y, p, rfl, rfl, _⟩ | ⟨w, k, rest, rfl, hw, hn⟩
    · walk_at "go"
      refine g_iteN (fun z => absurd rfl z) (fun _ => ?_)
      walk_at "go"
      exact ⟨⟨_, _, _, rfl⟩, rfl, fun k z => (by cases z)⟩
    · have at0 : atI (.str w :: .int k :: rest) 0 = some (V.str w) := atI_nat (show (V.str w :: V.int k :: rest)[0]? = some _ from rfl)
      have at1 : atI (.str w :: .int k :: rest) 1 = some (V.int k) := atI_nat (show (V.str w :: V.int k :: rest)[1]? = some _ from rfl)
      walk_at "go"
      refine g_ixT (SqT.of ea) at0 ?_
      walk_at "go"
      refine g_iteN (fun _ => ?_) (fun z => absurd z hw)
      walk_at "go"
      refine g_ixT (SqT.of ea) at1 ?_
      walk_at "go"
      show rDNI (.int k) (.ref s.vo) H _
      refine g_rdniI (.inl ev) ?_
      rcases DkR.look rv k with ⟨h1, h2⟩ | ⟨pv, o, h1, h2, h3⟩
      · rw [h2, show (none : Option V).isSome = false from rfl]
        walk_at "go"
        rename_i t H1 n1 f1 e1 H2 f2 e2
        refine kk H2 ((f2.in1 s.m_told).pre0' f1) ?_
        rw [doit_none hn h1]
        exact ltell_at x dt f1 e1 f2 e2
      · rw [h2, show (some pv : Option V).isSome = true from rfl]
        walk_at "go"
        exact ⟨⟨_, _, _, rfl⟩, rfl, fun j z => by rw [hn] at z; cases z; rw [h1]; rfl⟩
  · rintro σ H1 ⟨⟨v4, v5, v6, rfl⟩, rfl, hv⟩
    refine g_cut (fun σ H' => (∃ v4 v5 v6, σ = [some x0, some (.ref s.p), some (.int n), some (.ref a), v4, v5, v6]) ∧ H' = H1 ∧ (∀ k, d ≠ .cancel k) ∧ AskOk M.vo d ∧ M.doit S n d = M.deal S n d d.party (M.old d)) ?_ ?_
    · cases d with
      | wish p =>
        obtain ⟨w, y, rfl, d1, d2⟩ := q.two
        cases d1.str1
        walk_at "go"
        refine g_ite (fun z => absurd z (by decide)) (fun _ => ?_)
        walk_at "go"
        exact ⟨⟨_, _, _, rfl⟩, rfl, fun k z => (by cases z), trivial, rfl⟩
      | cancel k =>
        obtain ⟨w, y, rfl, d1, d2⟩ := q.two
        cases d1.str1
        cases d2.int1
        have hs := hv k rfl
        rcases DkR.look rv k with ⟨h1, _⟩ | ⟨pv, o, h1, h2, h3⟩
        · rw [h1] at hs; cases hs
        have hoo : PtyOk S o := mo.vk _ (lk_some h1)
        walk_at "go"
        refine g_ite (fun _ => ?_) (fun z => absurd rfl z)
        walk_at "go"
        refine g_rpopI ev h2 fun H2 f2 e2 => ?_
        have x2 := x.w_vo (v := dr M.vo k) f2 ⟨_, e2, by unfold voD; rw [← dr_mp]; exact (rv.fr f2).drop k⟩
        have dp2 := Da.frL f2 h3 (imm_party o)
        have dS2 := Da.frL f2 dS (imm_setup S)
        have ea2 := f2.tup _ _ ea
        obtain ⟨pa, ps, rfl, ep, dps⟩ := party_tup dp2
        have ip : immL (o.map stayD) = true := imm_party o
        obtain ⟨clv2, e2p, _⟩ := x2.parts
        walk_at "go"
        refine c_Lneeds ⟨pa, ps, o, rfl, ep, dps, SmallSt.of so hoo.1, Nat.le_trans hoo.2 (by decide), fun nq H3 n3 f3 e3 => ?_⟩
        walk_at "go"
        refine c_Ladd ⟨s, S, _, nq, needsL o, 1, rfl, x2.f0 f3, rfl, rfl, e3, x2.nin n3, so, needs_nd o, needs_cells so hoo, ⟨by decide, by decide⟩, fun H4 f4 x4 => ?_⟩
        have dp4 := DaL.frL (f4.pre0' f3) dps ip
        have ep4 := f4.tup _ _ (f3.tup _ _ ep)
        have dS4 := Da.frL (f4.pre0' f3) dS2 (imm_setup S)
        have ea4 := f4.tup _ _ (f3.tup _ _ ea2)
        obtain ⟨clv4, e4p, _⟩ := x4.parts
        walk_at "go"
        refine c_Lprice ⟨S, pa, ps, o, so, dS4, rfl, ep4, dp4, hoo.1, Nat.le_trans hoo.2 (by decide), fun H5 f5 => ?_⟩
        walk_at "go"
        refine c_Lkept ⟨S, pa, ps, o, so, Da.frL f5 dS4 (imm_setup S), rfl, f5.tup _ _ ep4, DaL.frL f5 dp4 ip, hoo.1, Nat.le_trans hoo.2 (by decide), fun H6 f6 => ?_⟩
        walk_at "go"
        rename_i t H7 n7 f7 e7
        have F7 : Fr [] H4 H7 := (f5.then0 f6).then0 f7
        have hvl := dr_len1 M.vo k
        refine c_Lrow ⟨s, S, _, canR S k o, rfl, x4.f0 F7, .tup e7 (Nat.le_of_ble_eq_true rfl) (.cons (.str _) (.cons (.int _) (.cons (.int _) (.one' (.int _))))), ⟨Nat.le_trans sz.bk (by decide), Nat.le_trans sz.out (by decide), Nat.le_trans sz.told (by decide), by have := sz.vo; show (dr M.vo k).length + M.wt.length ≤ _; omega, Nat.le_trans sz.ask (by decide)⟩, fun H8 f8 x8 => ?_⟩
        obtain ⟨clv8, e8p, c8⟩ := x8.parts
        obtain ⟨it8, ts8, et8, dt8⟩ := c8.told
        have htl8 : ts8.length ≤ 200000 := by rw [dt8.len, List.length_map]; have := sz.told; show M.told.length ≤ _; omega
        walk_at "go"
        rename_i t9 H9 n9 f9 e9 H10 f10 e10
        refine kk H10 (((((f2.in1 s.m_vo).then0 f3).transL (f4.in1 s.m_fr)).then0 F7).transL (f8.in2 s.m_bk s.m_out) |>.then0 f9 |>.transL (f10.in1 s.m_told)) ?_
        have hd : M.doit S n (.cancel k) = SM.tell n true (SM.row (canR S k o) { M with fr := fun c => M.fr c + nd o c, vo := dr M.vo k }) := by
          show (match lk M.vo k with | none => _ | some o => _) = _
          rw [h1]
        rw [hd]
        have x10 := ltell_at x8 dt8 f9 e9 f10 e10
        rw [addM_needs] at x10
        exact x10
      | change k p =>
        obtain ⟨w, y, z, rfl, d1, d2, d3⟩ := q.three
        cases d1.str1
        cases d2.int1
        walk_at "go"
        refine g_ite (fun z => absurd z (by decide)) (fun _ => ?_)
        walk_at "go"
        have hs := hv k rfl
        refine ⟨⟨_, _, _, rfl⟩, rfl, fun k z => (by cases z), hs, ?_⟩
        show (match lk M.vo k with | none => _ | some o => _) = _
        have ho : M.old (.change k p) = (lk M.vo k).getD [] := rfl
        rw [ho]
        cases h : lk M.vo k with
        | none => rw [h] at hs; cases hs
        | some o => rfl
    · rintro σ H2 ⟨⟨v4, v5, v6, rfl⟩, rfl, nc, ak, hd⟩
      have hpo := dok.party
      have hoo := mo.old d
      walk_at "go"
      refine c_Llack ⟨s, S, M, d, rfl, x, dd, so, dok, hoo, ak, fun lq H3 n3 f3 e3 => ?_⟩
      have hlk := lackU_ok so (p := d.party) (o := M.old d) hpo
      have hln := lackU_len so (p := d.party) (o := M.old d) hpo
      have hnd : Nd (lackU d.party (M.old d)) := lackU_nd _ _
      have nl : lq ∉ s.os := x.nin n3
      have nlp : s.p ≠ lq := fun q => nl (by rw [← q]; exact s.m_p)
      have nlf : s.fr ≠ lq := fun q => nl (by rw [← q]; exact s.m_fr)
      have x3 := x.f0 f3
      obtain ⟨clv3, e3p, c3⟩ := x3.parts
      walk_at "go"
      refine g_lockE e3 trivial trivial fun od H4 f4 e4 => ?_
      have e4p := f4.at e3p (nin1 nlp nin0)
      have e4f := c3.fr.fr f4 (nin1 nlf nin0)
      walk_at "go"
      refine l_keysT (kvs := cD (lackU d.party (M.old d))) fun Dl H5 nD f5 e5 => ⟨fun i acc H' => acc.length = (((lackU d.party (M.old d)).take i).filter fun e => decide (M.fr e.1 < e.2)).length ∧ Fr [] H4 H', ⟨rfl, f5⟩, fun i acc H' h => h.2.at0 e4, fun i ke v q acc H' hi hq ha ⟨ea', f⟩ => ?_, fun acc H' ha ⟨ea', f⟩ => ?_⟩
      · obtain ⟨y, hy, rfl, rfl⟩ := cD_get hi
        have hyl : lk (lackU d.party (M.old d)) y.1 = some y.2 := lk_mem hnd (List.mem_of_getElem? hy)
        have ep' := f.at0 e4p
        have ef' := e4f.fr f nin0
        have el' := f.at0 e4
        have hal : acc.length ≤ 100 := by
          rw [ea']
          exact Nat.le_trans (List.length_filter_le _ _) (Nat.le_trans (List.length_take_le' _ _) (Nat.le_trans hln (by decide)))
        have tk := take_more hy
        walk_at "go"
        refine ⟨rfl, ?_⟩
        walk_at "go"
        refine g_frI ef' ?_
        walk_at "go"
        refine g_frG ef' hq ?_
        walk_at "go"
        refine g_rdg (k := ck y.1) (.inr ⟨_, el'⟩) hq (v := .int y.2) (by rw [val_cell, hyl]; rfl) ?_
        walk_at "go"
        refine g_ite (fun hin => ?_) (fun hin => ?_)
        · walk_at "go"
          refine lcY_of ha (szM (by omega)) fun H6 f6 e6 => ⟨?_, f.own1 f6 nD⟩
          rw [tk, List.filter_append, List.length_append, List.length_append, ea', List.filter_cons, if_pos (decide_eq_true hin)]; rfl
        · refine lcN_of ha ⟨?_, f⟩
          rw [tk, List.filter_append, List.length_append, ea', List.filter_cons, if_neg (by rw [decide_eq_false hin]; decide)]; rfl
      · have hl : (cD (lackU d.party (M.old d))).length = (lackU d.party (M.old d)).length := enD_len _
        rw [hl, List.take_length] at ea'
        walk_at "go"
        rename_i H6 f6 e6
        have F6 : Fr [] H3 H6 := ((f4.then0 f).transL f6).back e3 e6
        have x6 := x3.f0 F6
        have G6 : Fr [] H2 H6 := f3.then0 F6
        have dd6 := Da.frL G6 dd (imm_deed d)
        have dS6 := Da.frL G6 dS (imm_setup S)
        have ea6 := G6.tup _ _ ea
        have idl : immL (deedL d) = true := by
          cases d with
          | wish p => show (true && (imm (partyD p) && true)) = true; rw [imm_party]; rfl
          | cancel k => rfl
          | change k p => show (true && (true && (imm (partyD p) && true))) = true; rw [imm_party]; rfl
        have q6 := DaL.frL G6 q idl
        obtain ⟨clv6, e6p, c6⟩ := x6.parts
        have hhas : 0 < (acc.length : Int) ↔ M.has (lackL d.party (M.old d)) = false := by
          rw [← has_perm, ea']
          unfold SM.has
          generalize lackU d.party (M.old d) = U
          constructor
          · intro h
            have h : 0 < (U.filter fun e => decide (M.fr e.1 < e.2)).length := by omega
            obtain ⟨e, he⟩ := List.exists_mem_of_length_pos h
            obtain ⟨he1, he2⟩ := List.mem_filter.mp he
            have he2 := of_decide_eq_true he2
            exact List.all_eq_false.mpr ⟨e, he1, by simp; omega⟩
          · intro h
            obtain ⟨e, he1, he2⟩ := List.all_eq_false.mp h
            have he2 : M.fr e.1 < e.2 := by simp at he2; omega
            have := List.length_pos_of_mem (List.mem_filter (p := fun e : Cell × Int => decide (M.fr e.1 < e.2)).mpr ⟨he1, decide_eq_true he2⟩)
            omega
        clear f4 f6 e4 e4p e4f f nD
        refine g_ite (fun hpos => ?_) (fun hpos => ?_)
        · have hno := hhas.mp hpos
          obtain ⟨akv, eak, rak⟩ := c6.ask
          have hakl : akv.length ≤ 200000 := by rw [rak.len]; unfold askT; rw [List.length_map]; have := sz.ask; omega
          walk_at "go"
          refine g_rdpI eak (szM (by omega)) fun H7 f7 e7 => ?_
          have x7 := x6.w_ask (v := pt M.ask n d) f7 ⟨_, e7, by unfold askT; rw [← pt_mp]; exact (rak.fr f7).put n (Da.frL f7 dd6 (imm_deed d)) (imm_deed d)⟩
          obtain ⟨clv7, e7p, c7⟩ := x7.parts
          have e7l := f7.at e6 (nin1 (fun q => nl (by rw [q]; exact s.m_ask)) nin0)
          obtain ⟨io, os, eo, dox⟩ := c7.out
          have hol : os.length ≤ 200000 := by rw [dox.len, List.length_map]; have := sz.out; show M.out.length ≤ _; omega
          walk_at "go"
          refine g_sortedDT (csN (lackU d.party (M.old d))) e7l (csN_keys _) (csN_alike _) (csN_sortable _) (csN_small _) fun sl H8 ys n8 f8 e8 dy => ?_
          have dy : DaL H8 ys ((scell ((lackU d.party (M.old d)).map (·.1))).map cellD) := by rw [csN_cells, ← scell_map] at dy; exact dy
          have hLS := lackL_sorted d.party (M.old d)
          have hyl : ys.length = (lackL d.party (M.old d)).length := by rw [dy.len, hLS, List.length_map, List.length_map]
          have hLl := lackL_len so (p := d.party) (o := M.old d) hpo
          have e8l := f8.at0 e7l
          walk_at "go"
          refine l_list (xs := ys) fun Dl H9 n9 f9 e9 => ⟨fun i acc H' => DaL H' acc (((lackL d.party (M.old d)).take i).map fun e => .tuple [cellD e.1, .int e.2]) ∧ Fr [] H8 H', ⟨.nil, f9⟩, fun i acc H' q => SqL.of (q.2.at0 e8), fun i y acc H' hy ha ⟨da, f⟩ => ?_, fun acc H' ha ⟨da, f⟩ => ?_⟩
          · obtain ⟨cc, ca, hcc, rfl, eca⟩ := cells_get (DaL.frL f dy (immL_map imm_cell _)) hy
            have hLi : (lackL d.party (M.old d))[i]? = some (cc, nd d.party cc - nd (M.old d) cc) := by rw [hLS, List.getElem?_map, hcc]; rfl
            have hlv : lk (lackU d.party (M.old d)) cc = some (nd d.party cc - nd (M.old d) cc) := lk_mem hnd ((lackU_perm _ _).mem_iff.mpr (List.mem_of_getElem? hLi))
            have el' := f.at0 e8l
            walk_at "go"
            refine ⟨rfl, ?_⟩
            walk_at "go"
            refine g_rdg (k := ck cc) (.inl el') eca (v := .int (nd d.party cc - nd (M.old d) cc)) (by rw [val_cell, hlv]; rfl) ?_
            walk_at "go"
            rename_i t2 H10 n10 f10 e10
            have ilk : ∀ l : List (Cell × Int), immL (l.map fun e => PyData.tuple [cellD e.1, .int e.2]) = true := fun l => immL_map (fun _ => rfl) l
            have hal : acc.length ≤ 100 := by rw [da.len, List.length_map, List.length_take]; omega
            refine lcY_of (f10.at0 ha) (szM (by omega)) fun H11 f11 e11 => ⟨?_, (f.then0 f10).own1 f11 n9⟩
            rw [take_more hLi, List.map_append]
            refine (DaL.frL f11 (DaL.frL f10 da (ilk _)) (ilk _)).append (.one' (.tup (f11.tup _ _ e10) (Nat.le_of_ble_eq_true rfl) (.cons (.tup (f11.tup _ _ (f10.tup _ _ eca)) (Nat.le_of_ble_eq_true rfl) (.cons (.int _) (.one' (.int _)))) (.one' (.int _)))))
          · rw [hyl, List.take_length] at da
            have hac : acc.length ≤ 1000000 := by rw [da.len, List.length_map]; omega
            walk_at "go"
            rename_i l H12 n12 f12 e12 t13 H13 n13 f13 e13 H14 f14 e14
            have ilk : immL ((lackL d.party (M.old d)).map fun e => PyData.tuple [cellD e.1, .int e.2]) = true := immL_map (fun _ => rfl) _
            have F13 : Fr [] H7 H13 := ((f8.then0 f).then0 f12).then0 f13
            have da13 := DaL.frL (f12.then0 f13) da ilk
            have x14 := (x7.f0 F13).w_out (v := M.out ++ [.ask n (lackL d.party (M.old d))]) f14 (by
              rw [List.map_append]
              exact LsAt.snoc (DaL.frL F13 dox io) io (.tup e13 (Nat.le_of_ble_eq_true rfl) (.cons (.str _) (.cons (.int _) (.one' (.tup (f13.tup _ _ e12) hac da13))))) (imm_up (.ask n (lackL d.party (M.old d)))) f14 e14)
            refine kk H14 (((Fr.of0 G6).transL (f7.in1 s.m_ask)).then0 F13 |>.transL (f14.in1 s.m_out)) ?_
            rw [hd]
            unfold SM.deal
            rw [if_neg (by rw [hno]; decide)]
            exact x14
        · have hyes : M.has (lackL d.party (M.old d)) = true := by
            cases h : M.has (lackL d.party (M.old d)) with
            | true => rfl
            | false => exact absurd (hhas.mpr h) hpos
          have hdl : M.doit S n d = SM.tell n true (SM.keep S n d { M with fr := fun c => M.fr c - nd d.party c + nd (M.old d) c }) := by rw [hd]; unfold SM.deal; rw [if_pos hyes]
          clear hhas hpos hyes hd ea' e6
          cases d with
          | cancel j => exact absurd rfl (nc j)
          | wish p =>
            obtain ⟨w, y, rfl, d1, d2⟩ := q6.two
            cases d1.str1
            have d2c := d2
            obtain ⟨pa, ps, rfl, ep, dps⟩ := party_tup d2
            have hpp : PtyOk S p := hpo
            walk_at "go"
            refine c_Lneeds ⟨pa, ps, p, rfl, ep, dps, SmallSt.of so hpp.1, Nat.le_trans hpp.2 (by decide), fun nq H7 n7 f7 e7 => ?_⟩
            walk_at "go"
            refine c_Ladd ⟨s, S, M, nq, needsL p, -1, rfl, x6.f0 f7, rfl, rfl, e7, x6.nin n7, so, needs_nd p, needs_cells so hpp, ⟨by decide, by decide⟩, fun H8 f8 x8 => ?_⟩
            have F8 : Fr s.os H6 H8 := (f8.in1 s.m_fr).pre0' f7
            have dS8 := Da.frL F8 dS6 (imm_setup S)
            have ea8 := F8.tup _ _ ea6
            have d28 := Da.frL F8 d2c (imm_party p)
            rw [addM_neg] at x8
            walk_at "go"
            refine g_ite (fun _ => ?_) (fun z => absurd rfl z)
            walk_at "go"
            refine c_Lsold ⟨s, S, _, n, p, dS8, rfl, x8, rfl, d28, so, hpp, ⟨Nat.le_trans sz.bk (by decide), Nat.le_trans sz.out (by decide), Nat.le_trans sz.told (by decide), Nat.le_trans sz.vo (by decide), Nat.le_trans sz.ask (by decide)⟩, fun H9 f9 x9 => ?_⟩
            obtain ⟨clv9, e9p, c9⟩ := x9.parts
            obtain ⟨it9, ts9, et9, dt9⟩ := c9.told
            have htl9 : ts9.length ≤ 200000 := by rw [dt9.len, List.length_map]; have := sz.told; show M.told.length ≤ _; omega
            walk_at "go"
            rename_i t10 H10 n10 f10 e10 H11 f11 e11
            refine kk H11 ((((Fr.of0 G6).transL F8).transL f9).then0 f10 |>.transL (f11.in1 s.m_told)) ?_
            have x11 := ltell_at x9 dt9 f10 e10 f11 e11
            rw [hdl]
            have hfr : (fun c => M.fr c - nd (Deed.wish p).party c + nd (M.old (.wish p)) c) = fun c => M.fr c - nd p c := funext fun c => by
              show M.fr c - nd p c + 0 = _; omega
            rw [hfr]
            exact x11
          | change k p =>
            obtain ⟨w, y, z, rfl, d1, d2, d3⟩ := q6.three
            cases d1.str1
            cases d2.int1
            have d3c := d3
            obtain ⟨pa, ps, rfl, ep, dps⟩ := party_tup d3
            have hpp : PtyOk S p := hpo
            walk_at "go"
            refine c_Lneeds ⟨pa, ps, p, rfl, ep, dps, SmallSt.of so hpp.1, Nat.le_trans hpp.2 (by decide), fun nq H7 n7 f7 e7 => ?_⟩
            walk_at "go"
            refine c_Ladd ⟨s, S, M, nq, needsL p, -1, rfl, x6.f0 f7, rfl, rfl, e7, x6.nin n7, so, needs_nd p, needs_cells so hpp, ⟨by decide, by decide⟩, fun H8 f8 x8 => ?_⟩
            have F8 : Fr s.os H6 H8 := (f8.in1 s.m_fr).pre0' f7
            have dS8 := Da.frL F8 dS6 (imm_setup S)
            have ea8 := F8.tup _ _ ea6
            have d38 := Da.frL F8 d3c (imm_party p)
            rw [addM_neg] at x8
            obtain ⟨clv8, e8p, c8⟩ := x8.parts
            obtain ⟨kvs8, ev8, rv8⟩ := c8.vo
            have hs : (lk M.vo k).isSome = true := ak
            rcases DkR.look rv8 k with ⟨h1, _⟩ | ⟨ov, o, h1, h2, h3⟩
            · have h1 : lk M.vo k = none := h1; rw [h1] at hs; cases hs
            have h1 : lk M.vo k = some o := h1
            have ho : M.old (.change k p) = o := by show (lk M.vo k).getD [] = o; rw [h1]; rfl
            rw [ho] at hoo hdl
            walk_at "go"
            refine g_ite (fun z => absurd z (by decide)) (fun _ => ?_)
            walk_at "go"
            refine g_rdgI (.inl ev8) h2 ?_
            obtain ⟨oa, os, rfl, eo, dos⟩ := party_tup h3
            walk_at "go"
            refine c_Lneeds ⟨oa, os, o, rfl, eo, dos, SmallSt.of so hoo.1, Nat.le_trans hoo.2 (by decide), fun nq2 H9 n9 f9 e9 => ?_⟩
            walk_at "go"
            refine c_Ladd ⟨s, S, _, nq2, needsL o, 1, rfl, x8.f0 f9, rfl, rfl, e9, x8.nin n9, so, needs_nd o, needs_cells so hoo, ⟨by decide, by decide⟩, fun H10 f10 x10 => ?_⟩
            rw [addM_needs] at x10
            have F10 : Fr s.os H8 H10 := (f10.in1 s.m_fr).pre0' f9
            have ea10 := F10.tup _ _ ea8
            walk_at "go"
            refine c_Lchanged ⟨s, S, _, k, p, o, Da.frL F10 dS8 (imm_setup S), rfl, x10, rfl, Da.frL F10 d38 (imm_party p), so, hpp, h1, hoo, ⟨Nat.le_trans sz.bk (by decide), Nat.le_trans sz.out (by decide), Nat.le_trans sz.told (by decide), Nat.le_trans sz.vo (by decide), Nat.le_trans sz.ask (by decide)⟩, fun H11 f11 x11 => ?_⟩
            obtain ⟨clv11, e11p, c11⟩ := x11.parts
            obtain ⟨it11, ts11, et11, dt11⟩ := c11.told
            have htl11 : ts11.length ≤ 200000 := by rw [dt11.len, List.length_map]; have := sz.told; show M.told.length ≤ _; omega
            walk_at "go"
            rename_i t12 H12 n12 f12 e12 H13 f13 e13
            refine kk H13 (((((Fr.of0 G6).transL F8).transL F10).transL f11).then0 f12 |>.transL (f13.in1 s.m_told)) ?_
            have x13 := ltell_at x11 dt11 f12 e12 f13 e13
            rw [hdl]
            show LAt H13 s S (SM.tell n true (SM.row (chgR S k p ((lk M.vo k).getD [])) _))
            rw [h1]
            exact x13
theorem ok_Ldo {f : Addr} {fd : FuncData} (F : Fun K "_law_do" "_law_do" s_Ldo f fd) (T : Txt K mg A) (c_Llack : Cal P w K mg base "_law_lack" 2 ["_law_model", "_law_deed_here"] (sp_Llack K A)) (c_Ladd : Cal P w K mg base "_law_add" 1 ["_law_model", "_law_needs_here", "_law_many"] (sp_Ladd K A)) (c_Lrow : Cal P w K mg base "_law_row" 1 ["_law_model", "_law_row_here"] (sp_Lrow K A)) (c_Lneeds : Cal P w K mg base "_law_needs" 1 ["_law_party_here"] (sp_Lneeds K A)) (c_Lsold : Cal P w K mg base "_law_sold" 2 ["_law_setup_here", "_law_model", "_law_number", "_law_party_here"] (sp_Lsold K A)) (c_Lchanged : Cal P w K mg base "_law_changed" 2 ["_law_setup_here", "_law_model", "_law_voucher", "_law_party_here"] (sp_Lchanged K A)) (c_Lprice : Cal P w K mg base "_law_price" 1 ["_law_setup_here", "_law_party_here"] (sp_Lprice K A)) (c_Lkept : Cal P w K mg base "_law_kept" 1 ["_law_setup_here", "_law_party_here"] (sp_Lkept K A)) : FnOk P w K mg base CX0 (3) f fd ["_law_setup_here", "_law_model", "_law_number", "_law_deed_here"] (sp_Ldo K A) := by
  refine F.ok sc_Ldo (fun vs H Q E h => ?_) (fun cdv Ar outer s H vs Q E hr h => ⟨t_Ldo K A, ?_, ?_⟩)
  · obtain ⟨x0, x1, x2, x3, rfl, _⟩ := h
    rfl
  · have hu := hu_of hr
    exact (Evl.pss_cut (ps_if (PW.pt (pw_and (pt_cmpR op_ne (pe_ix ix_tup (pv 3) pe_int (fun _ _ => rfl)) pe_str (nomark _)) (pw_and1 (pt_cmp (pc_dnotin hu (pe_ix ix_tup (pv 3) pe_int (fun _ _ => rfl)) (pe_dget hu (pv 1) pe_str (fun _ _ => rfl))) rfl)))) (pss_cons (ps_expr (pe_bm PySem.F.plainAttrs_list PySem.F.slot_list_append PySem.F.type_list_append mt_append (pe_dget hu (pv 1) pe_str (fun _ _ => rfl)) (pa_cons (pe_tup (pa_cons (pv 2) (pa_cons pe_bl pa_nil))) pa_nil)))
    (pss_one ps_retN)) pss_nil)
    (Evl.pss_cut (ps_if (pt_cmpR op_eq (pe_ix ix_tup (pv 3) pe_int (fun _ _ => rfl)) pe_str (nomark _)) (pss_cons (ps_set (i := 4) sc_Ldo.nd rfl (Or.inl rfl) (pe_dpop1 (pe_dget hu (pv 1) pe_str (fun _ _ => rfl)) (pe_ix ix_tup (pv 3) pe_int (fun _ _ => rfl)) ⟨rfl, rfl, rfl, rfl⟩))
    (pss_cons (ps_expr (pe_cl c_Ladd (hr.mono (by first | decide | omega)) (by rfl) (pa_cons (pv 1) (pa_cons (pe_cl c_Lneeds (hr.mono (by first | decide | omega)) (by rfl) (pa_cons (pv 4) pa_nil)) (pa_cons pe_int pa_nil)))))
    (pss_cons (ps_expr (pe_cl c_Lrow (hr.mono (by first | decide | omega)) (by rfl) (pa_cons (pv 1) (pa_cons (pe_tup (pa_cons pe_str (pa_cons (pe_ix ix_tup (pv 3) pe_int (fun _ _ => rfl)) (pa_cons (pe_cl c_Lprice (hr.mono (by first | decide | omega)) (by rfl) (pa_cons (pv 0) (pa_cons (pv 4) pa_nil))) (pa_cons (pe_cl c_Lkept (hr.mono (by first | decide | omega)) (by rfl) (pa_cons (pv 0) (pa_cons (pv 4) pa_nil))) pa_nil))))) pa_nil))))
    (pss_cons (ps_expr (pe_bm PySem.F.plainAttrs_list PySem.F.slot_list_append PySem.F.type_list_append mt_append (pe_dget hu (pv 1) pe_str (fun _ _ => rfl)) (pa_cons (pe_tup (pa_cons (pv 2) (pa_cons pe_bl pa_nil))) pa_nil)))
    (pss_one ps_retN))))) pss_nil)
    (pss_cons (ps_set (i := 5) sc_Ldo.nd rfl (Or.inr rfl) (pe_cl c_Llack (hr.mono (by first | decide | omega)) (by rfl) (pa_cons (pv 1) (pa_cons (pv 3) pa_nil))))
    (pss_cons (ps_if (pt_cmpR c_gt (pe_callB b_len (by rfl) T.b_len (by decide +kernel) (pa_cons (pe_lock (pe_lc (own := [("_law_cell", 6)]) (g := (gName 6)) (tt := (tTest (tOp cLt (tDGet2 (tDGet (tVar 1) (tC (.str "free"))) (tVar 6) (tC (.int 0))) (tDGet (tVar 5) (tVar 6))))) rfl sc_Ldo.nd (pi_keys (pv 5)) (blkOk_by (N := ["_law_setup_here", "_law_model", "_law_number", "_law_deed_here", "_law_party_here", "_law_lack_here", "_law_cell"]) (sc := defScope s_Ldo) (own := [("_law_cell", 6)]) (by decide +kernel)) (fun _ _ _ _ _ => (pg_name (i := 6) sc_Ldo.nd rfl (Or.inl rfl))) (fun _ _ _ _ _ => (pts_one (pt_cmpR c_lt (pe_dget2 hu (pe_dget hu (pv 1) pe_str (fun _ _ => rfl)) (pv 6) pe_int ⟨rfl, rfl, rfl, rfl⟩) (pe_dget hu (pv 5) (pv 6) (fun _ _ => rfl)) (nomark _)))) (fun _ _ _ _ _ => (pv 6)))) pa_nil)) pe_int (nomark _)) (pss_cons (ps_dput hu (pe_dget hu (pv 1) pe_str (fun _ _ => rfl)) (pv 2) (pv 3) rfl)
    (pss_cons (ps_expr (pe_bm PySem.F.plainAttrs_list PySem.F.slot_list_append PySem.F.type_list_append mt_append (pe_dget hu (pv 1) pe_str (fun _ _ => rfl)) (pa_cons (pe_tup (pa_cons pe_str (pa_cons (pv 2) (pa_cons (pe_callTy b_tuple (by rfl) T.b_tuple (by decide +kernel) (pa_cons (pe_lc (own := [("_law_cell", 6)]) (g := (gName 6)) (tt := tYes) rfl sc_Ldo.nd (pi_list (pe_callB (b_sortedDT rfl hr.units) (by rfl) T.b_sorted (by decide +kernel) (pa_cons (pv 5) pa_nil))) (blkOk_by (N := ["_law_setup_here", "_law_model", "_law_number", "_law_deed_here", "_law_party_here", "_law_lack_here", "_law_cell"]) (sc := defScope s_Ldo) (own := [("_law_cell", 6)]) (by decide +kernel)) (fun _ _ _ _ _ => (pg_name (i := 6) sc_Ldo.nd rfl (Or.inl rfl))) (fun _ _ _ _ _ => pts_nil) (fun _ _ _ _ _ => (pe_tup (pa_cons (pv 6) (pa_cons (pe_dget hu (pv 5) (pv 6) (fun _ _ => rfl)) pa_nil))))) pa_nil)) pa_nil)))) pa_nil)))
    (pss_one ps_retN))) pss_nil)
    (pss_cons (ps_expr (pe_cl c_Ladd (hr.mono (by first | decide | omega)) (by rfl) (pa_cons (pv 1) (pa_cons (pe_cl c_Lneeds (hr.mono (by first | decide | omega)) (by rfl) (pa_cons (pe_ix ix_tup (pv 3) (pe_op o_sub (pe_callB b_len (by rfl) T.b_len (by decide +kernel) (pa_cons (pv 3) pa_nil)) pe_int) (fun _ _ => rfl)) pa_nil)) (pa_cons (pe_un un_neg pe_int) pa_nil)))))
    (pss_cons (ps_if (pt_cmpR op_eq (pe_ix ix_tup (pv 3) pe_int (fun _ _ => rfl)) pe_str (nomark _)) (pss_one (ps_expr (pe_cl c_Lsold (hr.mono (by first | decide | omega)) (by rfl) (pa_cons (pv 0) (pa_cons (pv 1) (pa_cons (pv 2) (pa_cons (pe_ix ix_tup (pv 3) pe_int (fun _ _ => rfl)) pa_nil))))))) (pss_cons (ps_expr (pe_cl c_Ladd (hr.mono (by first | decide | omega)) (by rfl) (pa_cons (pv 1) (pa_cons (pe_cl c_Lneeds (hr.mono (by first | decide | omega)) (by rfl) (pa_cons (pe_dget hu (pe_dget hu (pv 1) pe_str (fun _ _ => rfl)) (pe_ix ix_tup (pv 3) pe_int (fun _ _ => rfl)) (fun _ _ => rfl)) pa_nil)) (pa_cons pe_int pa_nil)))))
    (pss_one (ps_expr (pe_cl c_Lchanged (hr.mono (by first | decide | omega)) (by rfl) (pa_cons (pv 0) (pa_cons (pv 1) (pa_cons (pe_ix ix_tup (pv 3) pe_int (fun _ _ => rfl)) (pa_cons (pe_ix ix_tup (pv 3) pe_int (fun _ _ => rfl)) pa_nil)))))))))
    (pss_one (ps_expr (pe_bm PySem.F.plainAttrs_list PySem.F.slot_list_append PySem.F.type_list_append mt_append (pe_dget hu (pv 1) pe_str (fun _ _ => rfl)) (pa_cons (pe_tup (pa_cons (pv 2) (pa_cons pe_bl pa_nil))) pa_nil))))))))))
  · obtain ⟨x0, x1, x2, x3, rfl, h⟩ := h
    exact pu_Ldo T h

theorem lwait_at {H H1 H2 : Hp} {s : SP} {S : Setup} {M : SM} {t : Addr} {n : Int} {d : Deed} {v : V} {ts : List V} (x : LAt H s S M) (dt : DaL H ts (M.wt.map wtD)) (f1 : Fr [] H H1) (e1 : H1 t = some (.tup [.int n, v])) (dv : Da H v (deedD d)) (f2 : Fr [s.wt] H1 H2) (e2 : H2 s.wt = some (.lst (ts ++ [.ref t]))) : LAt H2 s S { M with wt := M.wt ++ [(n, d)] } := by
  have it : immL (M.wt.map wtD) = true := immL_map imm_wt _
  refine (x.f0 f1).w_wt (v := M.wt ++ [(n, d)]) f2 ?_
  rw [List.map_append]
  exact LsAt.snoc (DaL.frL f1 dt it) it (.tup e1 (Nat.le_of_ble_eq_true rfl) (.cons (.int _) (.one' (Da.frL f1 dv (imm_deed d))))) (imm_wt (n, d)) f2 e2
def P_Lask (K : PySem.W.Frag) (A : Ad) (x0 x1 x2 : V) (H : Hp) (Q : VK) : Prop := ∃ (s : SP) (S : Setup) (M : SM) (d : Deed), Da H x0 (setupD S) ∧ x1 = .ref s.p ∧ LAt H s S M ∧ Da H x2 (deedD d) ∧ SetupOk S ∧ M.Ok S ∧ DeedOk S d ∧ M.Sz 98000 ∧
  LStep H s S (M.asked S d) (fun H' => Q (.int M.n) H')
def sp_Lask (K : PySem.W.Frag) (A : Ad) : Sp := fun vs H Q _ => ∃ x0 x1 x2, vs = [x0, x1, x2] ∧ P_Lask K A x0 x1 x2 H Q
theorem c_Lask {K : PySem.W.Frag} {A : Ad} {x0 x1 x2 : V} {H : Hp} {Q : VK} {E : XK} (h : P_Lask K A x0 x1 x2 H Q) : sp_Lask K A [x0, x1, x2] H Q E := ⟨_, _, _, rfl, h⟩
theorem sc_Lask : FnScope ["_law_setup_here", "_law_model", "_law_deed_here", "_law_number"] ["_law_setup_here", "_law_model", "_law_deed_here"] (defScope s_Lask) := ⟨rfl, rfl, rfl, by decide +kernel, rfl, by decide +kernel, by decide +kernel⟩
def t_Lask (K : PySem.W.Frag) (A : Ad) : TS :=
  (tSeq (tAsg (tDGet (tVar 1) (tC (.str "asked"))) (gName 3))
    (tSeq (sDPut (tVar 1) (tC (.str "asked")) (tOp oAdd (tVar 3) (tC (.int 1))))
    (tSeq (tIfS (tB (tCl (sp_Lmust_wait K A) (tCons (tVar 1) (tCons (tVar 2) tNil)))) (tDrop (tBM K "list" rAppend (tDGet (tVar 1) (tC (.str "waiting"))) (tCons (tTup (tCons (tVar 3) (tCons (tVar 2) tNil))) tNil))) (tDrop (tCl (sp_Ldo K A) (tCons (tVar 0) (tCons (tVar 1) (tCons (tVar 3) (tCons (tVar 2) tNil)))))))
    (tRet (tVar 3)))))
theorem pu_Lask (T : Txt K mg A) {x0 x1 x2 : V} {H : Hp} {Q : VK} (h : P_Lask K A x0 x1 x2 H Q) : t_Lask K A { nx := fun _ H' => Q .non H', rt := Q } [some x0, some x1, some x2, none] H := by
  obtain ⟨s, S, M, d, dS, rfl, x, dd, so, mo, dok, sz, kk⟩ := h
  obtain ⟨clv, e, c⟩ := x.parts
  unfold t_Lask
  walk_at "go"
  rename_i H1 f1 e1
  have x1' := x.w_p (clv := clv) (n' := M.n + 1) (c' := M.cl) f1 e1 (Da.frL f1 c.clv (imm_clos _))
  have x1 : LAt H1 s S { M with n := M.n + 1 } := x1'
  have mo1 : SM.Ok S { M with n := M.n + 1 } := ⟨mo.vk, mo.vn, mo.ak, mo.an, mo.ac, mo.wk, mo.ck⟩
  have sz1 : SM.Sz 98000 { M with n := M.n + 1 } := ⟨sz.bk, sz.out, sz.told, sz.vo, sz.ask⟩
  have hw1 : SM.waits { M with n := M.n + 1 } d = M.waits d := by cases d <;> rfl
  have dd1 := Da.frL f1 dd (imm_deed d)
  have dS1 := Da.frL f1 dS (imm_setup S)
  clear e1 c x1' e
  walk_at "go"
  refine c_Lmust_wait ⟨s, S, _, d, rfl, x1, dd1, so, mo1, dok, fun H2 f2 => ?_⟩
  have x2 := x1.f0 f2
  have dd2 := Da.frL f2 dd1 (imm_deed d)
  have dS2 := Da.frL f2 dS1 (imm_setup S)
  obtain ⟨clv2, e2p, c2⟩ := x2.parts
  obtain ⟨iw, ws, ew, dw⟩ := c2.wt
  have hwl : ws.length ≤ 200000 := by rw [dw.len, List.length_map]; have := sz.bk; show M.wt.length ≤ _; omega
  have F2 : Fr s.os H H2 := (f1.in1 s.m_p).then0 f2
  rw [hw1]
  walk_at "go"
  refine g_iteB (fun hh => ?_) (fun hh => ?_)
  · walk_at "go"
    rename_i t H3 n3 f3 e3 H4 f4 e4
    have hd : M.asked S d = { M with n := M.n + 1, wt := M.wt ++ [(M.n, d)] } := if_pos hh
    refine kk H4 ((F2.then0 f3).transL (f4.in1 s.m_wt)) ?_
    rw [hd]
    exact lwait_at x2 dw f3 e3 dd2 f4 e4
  · walk_at "go"
    refine c_Ldo ⟨s, S, _, M.n, d, dS2, rfl, x2, rfl, dd2, so, mo1, dok, sz1, fun H5 f5 x5 => ?_⟩
    have hd : M.asked S d = SM.doit S M.n d { M with n := M.n + 1 } := if_neg (by rw [hh]; decide)
    walk_at "go"
    refine kk H5 (F2.transL f5) ?_
    rw [hd]
    exact x5
theorem ok_Lask {f : Addr} {fd : FuncData} (F : Fun K "_law_ask" "_law_ask" s_Lask f fd) (T : Txt K mg A) (c_Lmust_wait : Cal P w K mg base "_law_must_wait" 2 ["_law_model", "_law_deed_here"] (sp_Lmust_wait K A)) (c_Ldo : Cal P w K mg base "_law_do" 3 ["_law_setup_here", "_law_model", "_law_number", "_law_deed_here"] (sp_Ldo K A)) : FnOk P w K mg base CX0 (4) f fd ["_law_setup_here", "_law_model", "_law_deed_here"] (sp_Lask K A) := by
  refine F.ok sc_Lask (fun vs H Q E h => ?_) (fun cdv Ar outer s H vs Q E hr h => ⟨t_Lask K A, ?_, ?_⟩)
  · obtain ⟨x0, x1, x2, rfl, _⟩ := h
    rfl
  · have hu := hu_of hr
    exact (pss_cons (ps_set (i := 3) sc_Lask.nd rfl (Or.inl rfl) (pe_dget hu (pv 1) pe_str (fun _ _ => rfl)))
    (pss_cons (ps_dput hu (pv 1) pe_str (pe_op o_add (pv 3) pe_int) rfl)
    (pss_cons (ps_if (pt_val (pe_cl c_Lmust_wait (hr.mono (by first | decide | omega)) (by rfl) (pa_cons (pv 1) (pa_cons (pv 2) pa_nil)))) (pss_one (ps_expr (pe_bm PySem.F.plainAttrs_list PySem.F.slot_list_append PySem.F.type_list_append mt_append (pe_dget hu (pv 1) pe_str (fun _ _ => rfl)) (pa_cons (pe_tup (pa_cons (pv 3) (pa_cons (pv 2) pa_nil))) pa_nil)))) (pss_one (ps_expr (pe_cl c_Ldo (hr.mono (by first | decide | omega)) (by rfl) (pa_cons (pv 0) (pa_cons (pv 1) (pa_cons (pv 3) (pa_cons (pv 2) pa_nil))))))))
    (pss_one (ps_ret (pv 3))))))
  · obtain ⟨x0, x1, x2, rfl, h⟩ := h
    exact pu_Lask T h
theorem addM_lackU (f : Cell → Int) (p o : List Stay) : addM f 1 (lackU p o) = fun c => f c + max 0 (nd p c - nd o c) := funext fun c => by unfold addM; rw [lk_lackU, Int.one_mul]
def P_Lgranted (K : PySem.W.Frag) (A : Ad) (x0 x1 x2 x3 : V) (H : Hp) (Q : VK) : Prop := ∃ (s : SP) (S : Setup) (M : SM) (n : Int) (d : Deed), Da H x0 (setupD S) ∧ x1 = .ref s.p ∧ LAt H s S M ∧ x2 = .int n ∧ Da H x3 (deedD d) ∧ SetupOk S ∧ M.Ok S ∧ DeedOk S d ∧ AskOk M.vo d ∧ M.Sz 98000 ∧
  LStep H s S (M.kept S n d) (fun H' => Q .non H')
def sp_Lgranted (K : PySem.W.Frag) (A : Ad) : Sp := fun vs H Q _ => ∃ x0 x1 x2 x3, vs = [x0, x1, x2, x3] ∧ P_Lgranted K A x0 x1 x2 x3 H Q
theorem c_Lgranted {K : PySem.W.Frag} {A : Ad} {x0 x1 x2 x3 : V} {H : Hp} {Q : VK} {E : XK} (h : P_Lgranted K A x0 x1 x2 x3 H Q) : sp_Lgranted K A [x0, x1, x2, x3] H Q E := ⟨_, _, _, _, rfl, h⟩
theorem sc_Lgranted : FnScope ["_law_setup_here", "_law_model", "_law_number", "_law_deed_here", "_law_old"] ["_law_setup_here", "_law_model", "_law_number", "_law_deed_here"] (defScope s_Lgranted) := ⟨rfl, rfl, rfl, by decide +kernel, rfl, by decide +kernel, by decide +kernel⟩
def t_Lgranted (K : PySem.W.Frag) (A : Ad) : TS :=
  (tIfS (tTest (tOp rEq (tOp (rIxT K) (tVar 3) (tC (.int 0))) (tC (.str "wish")))) (tDrop (tCl (sp_Lsold K A) (tCons (tVar 0) (tCons (tVar 1) (tCons (tVar 2) (tCons (tOp (rIxT K) (tVar 3) (tC (.int 1))) tNil)))))) (tSeq (tAsg (tCl (sp_Lneeds K A) (tCons (tDGet (tDGet (tVar 1) (tC (.str "vouchers"))) (tOp (rIxT K) (tVar 3) (tC (.int 1)))) tNil)) (gName 4))
    (tSeq (tDrop (tCl (sp_Ladd K A) (tCons (tVar 1) (tCons (tCl (sp_Lless K A) (tCons (tVar 4) (tCons (tCl (sp_Lneeds K A) (tCons (tOp (rIxT K) (tVar 3) (tC (.int 2))) tNil)) tNil))) (tCons (tC (.int 1)) tNil)))))
    (tDrop (tCl (sp_Lchanged K A) (tCons (tVar 0) (tCons (tVar 1) (tCons (tOp (rIxT K) (tVar 3) (tC (.int 1))) (tCons (tOp (rIxT K) (tVar 3) (tC (.int 2))) tNil)))))))))
theorem pu_Lgranted (T : Txt K mg A) {x0 x1 x2 x3 : V} {H : Hp} {Q : VK} (h : P_Lgranted K A x0 x1 x2 x3 H Q) : t_Lgranted K A { nx := fun _ H' => Q .non H', rt := Q } [some x0, some x1, some x2, some x3, none] H := by
  obtain ⟨s, S, M, n, d, dS, rfl, x, rfl, dd, so, mo, dok, ak, sz, kk⟩ := h
  obtain ⟨clv, e, c⟩ := x.parts
  obtain ⟨kvs, ev, rv⟩ := c.vo
  obtain ⟨a, xs, rfl, ea, q⟩ := deed_tup dd
  have hoo := mo.old d
  unfold t_Lgranted
  cases d with
  | cancel k => exact absurd ak id
  | wish p =>
    obtain ⟨w, y, rfl, d1, d2⟩ := q.two
    cases d1.str1
    walk_at "go"
    refine g_ite (fun _ => ?_) (fun z => absurd rfl z)
    walk_at "go"
    refine c_Lsold ⟨s, S, M, n, p, dS, rfl, x, rfl, d2, so, dok, sz.mono (by decide), fun H1 f1 x1 => ?_⟩
    walk_at "go"
    refine kk H1 f1 ?_
    unfold SM.kept
    have hfr : (fun c => M.fr c + max 0 (nd (M.old (.wish p)) c - nd (Deed.wish p).party c)) = M.fr := funext fun c => by
      have h1 := nd_pos p c
      show M.fr c + max 0 (0 - nd p c) = M.fr c
      omega
    rw [hfr]
    exact x1
  | change k p =>
    obtain ⟨w, y, z, rfl, d1, d2, d3⟩ := q.three
    cases d1.str1
    cases d2.int1
    have d3c := d3
    obtain ⟨pa, ps, rfl, ep, dps⟩ := party_tup d3
    have hpp : PtyOk S p := dok
    have hs : (lk M.vo k).isSome = true := ak
    rcases DkR.look rv k with ⟨h1, _⟩ | ⟨ov, o, h1, h2, h3⟩
    · rw [h1] at hs; cases hs
    have ho : M.old (.change k p) = o := by show (lk M.vo k).getD [] = o; rw [h1]; rfl
    rw [ho] at hoo
    obtain ⟨oa, os, rfl, eo, dos⟩ := party_tup h3
    walk_at "go"
    refine g_ite (fun z => absurd z (by decide)) (fun _ => ?_)
    walk_at "go"
    refine g_rdgI (.inl ev) h2 ?_
    walk_at "go"
    refine c_Lneeds ⟨oa, os, o, rfl, eo, dos, SmallSt.of so hoo.1, Nat.le_trans hoo.2 (by decide), fun nq H1 n1 f1 e1 => ?_⟩
    have ea1 := f1.tup _ _ ea
    have ep1 := f1.tup _ _ ep
    have dps1 := DaL.frL f1 dps (imm_party p)
    walk_at "go"
    refine c_Lneeds ⟨pa, ps, p, rfl, ep1, dps1, SmallSt.of so hpp.1, Nat.le_trans hpp.2 (by decide), fun nq2 H2 n2 f2 e2 => ?_⟩
    walk_at "go"
    refine c_Lless ⟨nq, nq2, S, o, p, rfl, rfl, ne_of_none e1 n2, f2.at0 e1, e2, so, hoo, fun lq H3 n3 f3 e3 => ?_⟩
    have F3 : Fr [] H H3 := (f1.then0 f2).then0 f3
    have x3 := x.f0 F3
    walk_at "go"
    refine c_Ladd ⟨s, S, M, lq, lackU o p, 1, rfl, x3, rfl, rfl, e3, fun hz => (x.nin ((f1.then0 f2).free n3)) hz, so, lackU_nd o p, lackU_ok so hoo, ⟨by decide, by decide⟩, fun H4 f4 x4 => ?_⟩
    rw [addM_lackU] at x4
    have F4 : Fr s.os H H4 := (f4.in1 s.m_fr).pre0' F3
    have ea4 := F4.tup _ _ ea
    walk_at "go"
    refine c_Lchanged ⟨s, S, _, k, p, o, Da.frL F4 dS (imm_setup S), rfl, x4, rfl, Da.frL F4 d3c (imm_party p), so, hpp, h1, hoo, ⟨Nat.le_trans sz.bk (by decide), Nat.le_trans sz.out (by decide), Nat.le_trans sz.told (by decide), Nat.le_trans sz.vo (by decide), Nat.le_trans sz.ask (by decide)⟩, fun H5 f5 x5 => ?_⟩
    walk_at "go"
    refine kk H5 (F4.transL f5) ?_
    unfold SM.kept
    rw [ho]
    show LAt H5 s S (SM.row (chgR S k p ((lk M.vo k).getD [])) _)
    rw [h1]
    exact x5
theorem ok_Lgranted {f : Addr} {fd : FuncData} (F : Fun K "_law_granted" "_law_granted" s_Lgranted f fd) (T : Txt K mg A) (c_Lsold : Cal P w K mg base "_law_sold" 2 ["_law_setup_here", "_law_model", "_law_number", "_law_party_here"] (sp_Lsold K A)) (c_Lneeds : Cal P w K mg base "_law_needs" 1 ["_law_party_here"] (sp_Lneeds K A)) (c_Ladd : Cal P w K mg base "_law_add" 1 ["_law_model", "_law_needs_here", "_law_many"] (sp_Ladd K A)) (c_Lchanged : Cal P w K mg base "_law_changed" 2 ["_law_setup_here", "_law_model", "_law_voucher", "_law_party_here"] (sp_Lchanged K A)) (c_Lless : Cal P w K mg base "_law_less" 1 ["_law_first", "_law_second"] (sp_Lless K A)) : FnOk P w K mg base CX0 (3) f fd ["_law_setup_here", "_law_model", "_law_number", "_law_deed_here"] (sp_Lgranted K A) := by
  refine F.ok sc_Lgranted (fun vs H Q E h => ?_) (fun cdv Ar outer s H vs Q E hr h => ⟨t_Lgranted K A, ?_, ?_⟩)
  · obtain ⟨x0, x1, x2, x3, rfl, _⟩ := h
    rfl
  · have hu := hu_of hr
    exact (pss_one (ps_if (pt_cmpR op_eq (pe_ix ix_tup (pv 3) pe_int (fun _ _ => rfl)) pe_str (nomark _)) (pss_one (ps_expr (pe_cl c_Lsold (hr.mono (by first | decide | omega)) (by rfl) (pa_cons (pv 0) (pa_cons (pv 1) (pa_cons (pv 2) (pa_cons (pe_ix ix_tup (pv 3) pe_int (fun _ _ => rfl)) pa_nil))))))) (pss_cons (ps_set (i := 4) sc_Lgranted.nd rfl (Or.inl rfl) (pe_cl c_Lneeds (hr.mono (by first | decide | omega)) (by rfl) (pa_cons (pe_dget hu (pe_dget hu (pv 1) pe_str (fun _ _ => rfl)) (pe_ix ix_tup (pv 3) pe_int (fun _ _ => rfl)) (fun _ _ => rfl)) pa_nil)))
    (pss_cons (ps_expr (pe_cl c_Ladd (hr.mono (by first | decide | omega)) (by rfl) (pa_cons (pv 1) (pa_cons (pe_cl c_Lless (hr.mono (by first | decide | omega)) (by rfl) (pa_cons (pv 4) (pa_cons (pe_cl c_Lneeds (hr.mono (by first | decide | omega)) (by rfl) (pa_cons (pe_ix ix_tup (pv 3) pe_int (fun _ _ => rfl)) pa_nil)) pa_nil))) (pa_cons pe_int pa_nil)))))
    (pss_one (ps_expr (pe_cl c_Lchanged (hr.mono (by first | decide | omega)) (by rfl) (pa_cons (pv 0) (pa_cons (pv 1) (pa_cons (pe_ix ix_tup (pv 3) pe_int (fun _ _ => rfl)) (pa_cons (pe_ix ix_tup (pv 3) pe_int (fun _ _ => rfl)) pa_nil)))))))))))
  · obtain ⟨x0, x1, x2, x3, rfl, h⟩ := h
    exact pu_Lgranted T h

theorem addM_one (f : Cell → Int) (c : Cell) (z : Int) : addM f 1 [(c, z)] = fset f c (f c + z) := funext fun x => by
  unfold addM fset
  rw [lk_cons]
  by_cases h : c = x
  · rw [if_pos h, if_pos h.symm, h]; show f x + 1 * z = _; rw [Int.one_mul]
  · rw [if_neg h, if_neg fun q => h q.symm]; show f x + 1 * 0 = _; omega
theorem lans_def {S : Setup} {M : SM} {a : Int × Bool} {d : Deed} (h : lk M.ask a.1 = some d) : SM.ans S (some a) M = SM.tell a.1 a.2 (if a.2 = true then SM.kept S a.1 d { M with ask := dr M.ask a.1 } else { M with ask := dr M.ask a.1 }) := by
  show M.answered S a.1 a.2 = _
  unfold SM.answered
  rw [h]; rfl
theorem ans_at {H : Hp} {v : V} {a : Int × Bool} (h : Da H v (ansD (some a))) : ∃ t, v = .ref t ∧ H t = some (.tup [.int a.1, .bl a.2]) := by
  obtain ⟨t, xs, rfl, e, _, q⟩ := Da.tup1 h
  obtain ⟨x, y, rfl, d1, d2⟩ := q.two
  cases d1.int1
  cases d2.bl1
  exact ⟨t, rfl, e⟩
def P_Lopened (K : PySem.W.Frag) (A : Ad) (x0 x1 x2 : V) (H : Hp) (Q : VK) : Prop := ∃ (s : SP) (S : Setup) (M : SM) (cs : List Int) (an : Option (Int × Bool)) (l : List Cell), Da H x0 (setupD S) ∧ x1 = .ref s.p ∧ LAt H s S M ∧ Da H x2 (dnD (.opn cs an)) ∧ SetupOk S ∧ M.Ok S ∧ M.Sz 1000 ∧ M.cl = some l ∧ cs.length = l.length ∧ (∀ a, an = some a → (lk M.ask a.1).isSome = true) ∧
  LStep H s S (M.reopen S cs an) (fun H' => Q .non H')
def sp_Lopened (K : PySem.W.Frag) (A : Ad) : Sp := fun vs H Q _ => ∃ x0 x1 x2, vs = [x0, x1, x2] ∧ P_Lopened K A x0 x1 x2 H Q
theorem c_Lopened {K : PySem.W.Frag} {A : Ad} {x0 x1 x2 : V} {H : Hp} {Q : VK} {E : XK} (h : P_Lopened K A x0 x1 x2 H Q) : sp_Lopened K A [x0, x1, x2] H Q E := ⟨_, _, _, rfl, h⟩
theorem sc_Lopened : FnScope ["_law_setup_here", "_law_model", "_law_body_here", "_law_k", "_law_deed_here", "_law_waiting", "_law_number"] ["_law_setup_here", "_law_model", "_law_body_here"] (defScope s_Lopened) := ⟨rfl, rfl, rfl, by decide +kernel, rfl, by decide +kernel, by decide +kernel⟩
def t_Lopened (K : PySem.W.Frag) (A : Ad) : TS :=
  (tSeq (tFor (iRng1 (tCons (tCB (rLenSq K) (tCons (tDGet (tVar 1) (tC (.str "closing"))) tNil)) tNil)) (gName 3) (tDrop (tCl (sp_Ladd K A) (tCons (tVar 1) (tCons (tDispT1 (tOp (rIxT K) (tDGet (tVar 1) (tC (.str "closing"))) (tVar 3)) (tOp (rIxT K) (tOp (rIxT K) (tVar 2) (tC (.int 1))) (tVar 3))) (tCons (tC (.int 1)) tNil))))))
    (tSeq (sDPut (tVar 1) (tC (.str "closing")) (tC .non))
    (Evl.tCut (tIfS (tTest (tOp rIsNotNon (tOp (rIxT K) (tVar 2) (tC (.int 2))) (tC .non))) (tSeq (tAsg (tDPop1 (tDGet (tVar 1) (tC (.str "asks"))) (tOp (rIxT K) (tOp (rIxT K) (tVar 2) (tC (.int 2))) (tC (.int 0)))) (gName 4))
    (Evl.tCut (tIfS (tTr K (tOp (rIxT K) (tOp (rIxT K) (tVar 2) (tC (.int 2))) (tC (.int 1)))) (tDrop (tCl (sp_Lgranted K A) (tCons (tVar 0) (tCons (tVar 1) (tCons (tOp (rIxT K) (tOp (rIxT K) (tVar 2) (tC (.int 2))) (tC (.int 0))) (tCons (tVar 4) tNil)))))) tNext)
    (tDrop (tBM K "list" rAppend (tDGet (tVar 1) (tC (.str "told"))) (tCons (tOp (rIxT K) (tVar 2) (tC (.int 2))) tNil))))) tNext)
    (tSeq (tAsg (tCB (rListOf K) (tCons (tDGet (tVar 1) (tC (.str "waiting"))) tNil)) (gName 5))
    (tSeq (tDrop (tBM0 K "list" rClear (tDGet (tVar 1) (tC (.str "waiting")))))
    (tFor (iList K (tVar 5)) (gTup K 2 (gCons (gName 6) (gCons (gName 4) gNil))) (tIfS (tB (tCl (sp_Lmust_wait K A) (tCons (tVar 1) (tCons (tVar 4) tNil)))) (tDrop (tBM K "list" rAppend (tDGet (tVar 1) (tC (.str "waiting"))) (tCons (tTup (tCons (tVar 6) (tCons (tVar 4) tNil))) tNil))) (tDrop (tCl (sp_Ldo K A) (tCons (tVar 0) (tCons (tVar 1) (tCons (tVar 6) (tCons (tVar 4) tNil)))))))))))))
theorem pu_Lopened (T : Txt K mg A) {x0 x1 x2 : V} {H : Hp} {Q : VK} (h : P_Lopened K A x0 x1 x2 H Q) : t_Lopened K A { nx := fun _ H' => Q .non H', rt := Q } [some x0, some x1, some x2, none, none, none, none] H := by
  obtain ⟨s, S, M, cs, an, l, dS, rfl, x, db, so, mo, sz, hcl, hl, han, kk⟩ := h
  have nd0 := x.nd
  obtain ⟨clv, e, c⟩ := x.parts
  have dcl := c.clv
  rw [hcl] at dcl
  obtain ⟨hlk, hll⟩ := mo.ck l hcl
  obtain ⟨b, ts, rfl, eb, _, dts⟩ := dcl.tup1
  obtain ⟨bp, bs, rfl, ebp, _, qb⟩ := Da.tup1 db
  obtain ⟨u1, u2, u3, rfl, b1, b2, b3⟩ := qb.three
  cases b1.str1
  obtain ⟨cp, rfl, ecp⟩ := ints_at b2
  have htl : ts.length = l.length := by rw [dts.len, List.length_map]
  have htl2 : ts.length ≤ 36 := by omega
  have ic : immL (l.map cellD) = true := immL_map imm_cell _
  unfold t_Lopened
  rw [reopen_def, hcl] at kk
  have hget : ((some l : Option (List Cell)).getD []) = l := rfl
  rw [hget] at kk
  clear b1 db qb b2 dcl
  walk_at "go"
  refine f_range (lo := 0) (n := ts.length) (fun i σ H' => (∃ v3, σ = [some x0, some (.ref s.p), some (.ref bp), v3, none, none, none]) ∧ Fr [s.fr] H H' ∧ LAt H' s S { M with fr := addZ M.fr ((l.zip cs).take i) }) ⟨⟨_, rfl⟩, Fr.refl, x⟩ ?_ ?_
  · rintro i σ H1 hi ⟨⟨v3, rfl⟩, f1, x1⟩
    have hti : ts[i]? = some ts[i] := List.getElem?_eq_getElem hi
    obtain ⟨w, ca, hw, hca, eca⟩ := cells_get dts hti
    have hm : cs[i]? = some cs[i] := List.getElem?_eq_getElem (by omega)
    have hix : atI ts (0 + (i : Int)) = some (.ref ca) := by rw [Int.zero_add]; exact atI_nat (by rw [hti, hca])
    have him : atI (cs.map V.int) (0 + (i : Int)) = some (.int cs[i]) := by rw [Int.zero_add]; exact atI_nat (by rw [List.getElem?_map, hm]; rfl)
    have hzip := zip_get hw hm
    have hwk := hlk w (List.mem_of_getElem? hw)
    rw [take_more hzip, addZ_snoc]
    have mo1 : SM.Ok S { M with fr := addZ M.fr ((l.zip cs).take i) } := ⟨mo.vk, mo.vn, mo.ak, mo.an, mo.ac, mo.wk, mo.ck⟩
    generalize addZ M.fr ((l.zip cs).take i) = g at *
    generalize cs[i] = m at *
    have e1 := f1.at e (nin1 nd0.p_fr nin0)
    have eb1 := f1.tup _ _ eb
    have ebp1 := f1.tup _ _ ebp
    have ecp1 := f1.tup _ _ ecp
    have eca1 := f1.tup _ _ eca
    walk_at "go"
    rename_i q H2 nq f2 e2
    refine g_ixT (SqT.of (f2.tup _ _ eb1)) hix ?_
    walk_at "go"
    refine g_ixT (SqT.of (f2.tup _ _ ecp1)) him ?_
    refine g_rds1 (ck w) e2 (f2.tup _ _ eca1) fun H3 f3 e3 => ?_
    have F3 : Fr [] H1 H3 := f2.own1 f3 nq
    have x3 := x1.f0 F3
    walk_at "go"
    refine c_Ladd ⟨s, S, _, q, [(w, m)], 1, rfl, x3, rfl, rfl, e3, x1.nin nq, so, by show ([w] : List Cell).Nodup; simp, fun y hy => by rw [List.mem_singleton.mp hy]; exact hwk, ⟨by decide, by decide⟩, fun H4 f4 x4 => ?_⟩
    walk_at "go"
    rw [addM_one] at x4
    exact ⟨⟨_, rfl⟩, (f1.then0 F3).transL f4, x4⟩
  · rintro σ H2 ⟨⟨v3, rfl⟩, f2, x2⟩
    have hfull : (l.zip cs).take ts.length = l.zip cs := List.take_of_length_le (by rw [List.length_zip, htl, hl]; omega)
    rw [hfull] at x2
    have e2 := f2.at e (nin1 nd0.p_fr nin0)
    have b32 := Da.frL f2 b3 (imm_ans an)
    have dS2 := Da.frL f2 dS (imm_setup S)
    have ebp2 := f2.tup _ _ ebp
    clear e eb ebp dts ecp b3 dS
    walk_at "go"
    rename_i H3 f3 e3
    have x3 := x2.w_p (clv := .non) (n' := M.n) (c' := none) f3 e3 .non
    have b33 := Da.frL f3 b32 (imm_ans an)
    have dS3 := Da.frL f3 dS2 (imm_setup S)
    have ebp3 := f3.tup _ _ ebp2
    have F3 : Fr s.os H H3 := (f2.in1 s.m_fr).transL (f3.in1 s.m_p)
    have mo1 : SM.Ok S { M with fr := addZ M.fr (l.zip cs), cl := none } := ⟨mo.vk, mo.vn, mo.ak, mo.an, mo.ac, mo.wk, fun _ h => (by cases h)⟩
    have sz1 : SM.Sz 1000 { M with fr := addZ M.fr (l.zip cs), cl := none } := ⟨sz.bk, sz.out, sz.told, sz.vo, sz.ask⟩
    have han1 : ∀ a, an = some a → (lk (SM.ask { M with fr := addZ M.fr (l.zip cs), cl := none }) a.1).isSome = true := han
    have x3 : LAt H3 s S { M with fr := addZ M.fr (l.zip cs), cl := none } := x3
    generalize { M with fr := addZ M.fr (l.zip cs), cl := none } = M1 at *
    clear e3 f2 f3 e2 x2 b32 dS2 ebp2 x c mo sz han hfull
    refine g_cut (fun σ H' => (∃ v3 v4 v5 v6, σ = [some x0, some (.ref s.p), some (.ref bp), v3, v4, v5, v6]) ∧ Fr s.os H3 H' ∧ LAt H' s S (SM.ans S an M1)) ?_ ?_
    · cases an with
      | none =>
        cases b33
        walk_at "go"
        refine g_iteN (P := V.non = V.non) (fun z => absurd rfl z) (fun _ => ?_)
        walk_at "go"
        exact ⟨⟨_, _, _, _, rfl⟩, Fr.refl, x3⟩
      | some a =>
        obtain ⟨t, rfl, et⟩ := ans_at b33
        have hs := han1 a rfl
        obtain ⟨clv3, e3p, c3⟩ := x3.parts
        obtain ⟨akv, eak, rak⟩ := c3.ask
        rcases DkR.look rak a.1 with ⟨h1, _⟩ | ⟨dv, d, h1, h2, h3⟩
        · rw [h1] at hs; cases hs
        have hdk := mo1.ak _ (lk_some h1)
        have hac := mo1.ac _ (lk_some h1)
        walk_at "go"
        refine g_iteN (P := V.ref t = V.non) (fun _ => ?_) (fun z => by cases z)
        walk_at "go"
        refine g_rpopI eak h2 fun H4 f4 e4 => ?_
        have x4 := x3.w_ask (v := dr M1.ask a.1) f4 ⟨_, e4, by unfold askT; rw [← dr_mp]; exact (rak.fr f4).drop a.1⟩
        have dd4 := Da.frL f4 h3 (imm_deed d)
        have dS4 := Da.frL f4 dS3 (imm_setup S)
        have et4 := f4.tup _ _ et
        have ebp4 := f4.tup _ _ ebp3
        have mo4 : SM.Ok S { M1 with ask := dr M1.ask a.1 } := ⟨mo1.vk, mo1.vn, fun e he => mo1.ak e (List.mem_filter.mp he).1, dr_nd mo1.an _, fun e he => mo1.ac e (List.mem_filter.mp he).1, mo1.wk, mo1.ck⟩
        have hdl := dr_len1 M1.ask a.1
        have sz4 : SM.Sz 1000 { M1 with ask := dr M1.ask a.1 } := ⟨sz1.bk, sz1.out, sz1.told, sz1.vo, by have := sz1.ask; show (dr M1.ask a.1).length + M1.wt.length ≤ _; omega⟩
        rw [lans_def h1]
        have hac2 : AskOk (SM.vo { M1 with ask := dr M1.ask a.1 }) d := hac
        have ht : (if a.2 = true then SM.kept S a.1 d { M1 with ask := dr M1.ask a.1 } else { M1 with ask := dr M1.ask a.1 }).told = M1.told := by
          split
          · cases d <;> rfl
          · rfl
        have htl := sz1.told
        generalize { M1 with ask := dr M1.ask a.1 } = M2 at *
        clear e4 eak rak h2 h3 c3 e3p x3 mo1 sz1
        refine g_cut (fun σ H' => σ = [some x0, some (.ref s.p), some (.ref bp), v3, some dv, none, none] ∧ Fr s.os H4 H' ∧ LAt H' s S (if a.2 = true then SM.kept S a.1 d M2 else M2)) ?_ ?_
        · walk_at "go"
          refine ⟨a.2, (show TruV K (.bl a.2) H4 a.2 from rfl), ?_⟩
          refine g_iteB (fun hg => ?_) (fun hg => ?_)
          · walk_at "go"
            refine c_Lgranted ⟨s, S, M2, a.1, d, dS4, rfl, x4, rfl, dd4, so, mo4, hdk, hac2, sz4.mono (by decide), fun H5 f5 x5 => ?_⟩
            walk_at "go"
            exact ⟨rfl, f5, by rw [if_pos hg]; exact x5⟩
          · walk_at "go"
            exact ⟨rfl, Fr.refl, by rw [if_neg (by rw [hg]; decide)]; exact x4⟩
        · rintro σ H5 ⟨rfl, f5, x5⟩
          obtain ⟨clv5, e5p, c5⟩ := x5.parts
          obtain ⟨it, us, eu, du⟩ := c5.told
          have hul : us.length ≤ 200000 := by rw [du.len, List.length_map, ht]; omega
          have et5 := f5.tup _ _ et4
          have ebp5 := f5.tup _ _ ebp4
          walk_at "go"
          rename_i H7 f7 e7
          exact ⟨⟨_, _, _, _, rfl⟩, (((f4.in1 s.m_ask).transL f5)).transL (f7.in1 s.m_told), ltell_at x5 du Fr.refl et5 f7 e7⟩
    · rintro σ H4 ⟨⟨v3, v4, v5, v6, rfl⟩, f4, x4⟩
      have mo4 := ans_ok (an := an) mo1
      have sz4 := ans_sz (S := S) (an := an) sz1
      have dS4 := Da.frL f4 dS3 (imm_setup S)
      have F4 : Fr s.os H H4 := F3.transL f4
      clear f4 F3 x3 mo1 sz1 han1 b33 ebp3 dS3
      generalize SM.ans S an M1 = M4 at *
      obtain ⟨clv4, e4p, c4⟩ := x4.parts
      obtain ⟨iw, ws, ew, dw⟩ := c4.wt
      have hwl : M4.wt.length ≤ 1001 := by have := sz4.bk; omega
      have hwsl : ws.length = M4.wt.length := by rw [dw.len, List.length_map]
      walk_at "go"
      rename_i o H5 n5 f5 e5
      have no : o ∉ s.os := x4.nin n5
      have nos : ∀ a ∈ s.os, a ≠ o := fun a ha z => no (by rw [← z]; exact ha)
      refine g_clear (f5.at0 ew) fun H6 f6 e6 => ?_
      have now : o ≠ s.wt := (nos _ s.m_wt).symm
      have e56 := f6.at e5 (nin1 now nin0)
      have x6 : LAt H6 s S { M4 with wt := [] } := (x4.f0 f5).w_wt (v := []) f6 (LsAt.nil e6)
      have dw6 := DaL.frL (f6.pre0' f5) dw iw
      have dS6 := Da.frL (f6.pre0' f5) dS4 (imm_setup S)
      have F6 : Fr s.os H H6 := (F4.then0 f5).transL (f6.in1 s.m_wt)
      have no0 : H o = none := F4.freeL n5 no
      have mo6 : SM.Ok S { M4 with wt := [] } := ⟨mo4.vk, mo4.vn, mo4.ak, mo4.an, mo4.ac, fun _ h => (nomatch h), mo4.ck⟩
      have sz6 : SM.Sz 1001 { M4 with wt := [] } := ⟨by have := sz4.bk; show M4.bk.length + 0 ≤ _; omega, by have := sz4.out; show M4.out.length + 0 ≤ _; omega, by have := sz4.told; show M4.told.length + 0 ≤ _; omega, by have := sz4.vo; show M4.vo.length + 0 ≤ _; omega, by have := sz4.ask; show M4.ask.length + 0 ≤ _; omega⟩
      have hwk := mo4.wk
      clear e6 e5 f5 f6 c4 e4p ew dw mo4 sz4 x4 F4 dS4
      walk_at "go"
      refine f_list (xs := ws) (fun i σ H' => (∃ v4 v6, σ = [some x0, some (.ref s.p), some (.ref bp), v3, v4, some (.ref o), v6]) ∧ Fr s.os H6 H' ∧ LAt H' s S ((M4.wt.take i).foldl (SM.again S) { M4 with wt := [] })) ⟨⟨_, _, rfl⟩, Fr.refl, x6⟩ (fun i σ H' _ ⟨_, f, _⟩ => SqL.of (f.at e56 no)) ?_ ?_
      · rintro i y σ H7 hy ⟨⟨v4, v6, rfl⟩, f7, x7⟩
        have moi := agains_ok (S := S) (M4.wt.take i) mo6 (fun e he => hwk e (List.mem_of_mem_take he))
        have szi := (agains_sz (S := S) (M4.wt.take i) sz6).mono (show 1001 + (M4.wt.take i).length ≤ 3000 by rw [List.length_take]; omega)
        obtain ⟨z, hz, dz⟩ := (DaL.frL f7 dw6 iw).get hy
        rw [List.getElem?_map] at hz
        have ⟨ei, hei, hez⟩ : ∃ ei, M4.wt[i]? = some ei ∧ wtD ei = z := by
          cases q : M4.wt[i]? with
          | none => rw [q] at hz; cases hz
          | some ei => rw [q] at hz; exact ⟨ei, rfl, Option.some.inj hz⟩
        subst hez
        have hek := hwk ei (List.mem_of_getElem? hei)
        rw [take_more hei, List.foldl_append]
        generalize (M4.wt.take i).foldl (SM.again S) { M4 with wt := [] } = Mi at *
        obtain ⟨t, us, rfl, et, _, qt⟩ := Da.tup1 dz
        obtain ⟨u1, u2, rfl, d1, d2⟩ := qt.two
        cases d1.int1
        have dS7 := Da.frL f7 dS6 (imm_setup S)
        walk_at "go"
        refine c_Lmust_wait ⟨s, S, Mi, ei.2, rfl, x7, d2, so, moi, hek, fun H8 f8 => ?_⟩
        have x8 := x7.f0 f8
        have d8 := Da.frL f8 d2 (imm_deed _)
        have dS8 := Da.frL f8 dS7 (imm_setup S)
        obtain ⟨clv8, e8p, c8⟩ := x8.parts
        obtain ⟨iw8, ws8, ew8, dw8⟩ := c8.wt
        have hwl8 : ws8.length ≤ 200000 := by rw [dw8.len, List.length_map]; have := szi.bk; omega
        walk_at "go"
        refine g_iteB (fun hh => ?_) (fun hh => ?_)
        · walk_at "go"
          rename_i t9 H9 n9 f9 e9 H10 f10 e10
          have hd : SM.again S Mi ei = { Mi with wt := Mi.wt ++ [ei] } := if_pos hh
          refine ⟨⟨_, _, rfl⟩, ((f7.then0 f8).then0 f9).transL (f10.in1 s.m_wt), ?_⟩
          show LAt H10 s S (SM.again S Mi ei)
          rw [hd]
          exact lwait_at x8 dw8 f9 e9 d8 f10 e10
        · walk_at "go"
          refine c_Ldo ⟨s, S, Mi, ei.1, ei.2, dS8, rfl, x8, rfl, d8, so, moi, hek, szi.mono (by decide), fun H9 f9 x9 => ?_⟩
          have hd : SM.again S Mi ei = Mi.doit S ei.1 ei.2 := if_neg (by rw [hh]; decide)
          walk_at "go"
          refine ⟨⟨_, _, rfl⟩, (f7.then0 f8).transL f9, ?_⟩
          show LAt H9 s S (SM.again S Mi ei)
          rw [hd]
          exact x9
      · rintro σ H7 ⟨⟨v4, v6, rfl⟩, f7, x7⟩
        rw [hwsl, List.take_length] at x7
        walk_at "go"
        exact kk H7 (F6.transL f7) x7
theorem ok_Lopened {f : Addr} {fd : FuncData} (F : Fun K "_law_opened" "_law_opened" s_Lopened f fd) (T : Txt K mg A) (c_Ladd : Cal P w K mg base "_law_add" 1 ["_law_model", "_law_needs_here", "_law_many"] (sp_Ladd K A)) (c_Lmust_wait : Cal P w K mg base "_law_must_wait" 2 ["_law_model", "_law_deed_here"] (sp_Lmust_wait K A)) (c_Lgranted : Cal P w K mg base "_law_granted" 3 ["_law_setup_here", "_law_model", "_law_number", "_law_deed_here"] (sp_Lgranted K A)) (c_Ldo : Cal P w K mg base "_law_do" 3 ["_law_setup_here", "_law_model", "_law_number", "_law_deed_here"] (sp_Ldo K A)) : FnOk P w K mg base CX0 (4) f fd ["_law_setup_here", "_law_model", "_law_body_here"] (sp_Lopened K A) := by
  refine F.ok sc_Lopened (fun vs H Q E h => ?_) (fun cdv Ar outer s H vs Q E hr h => ⟨t_Lopened K A, ?_, ?_⟩)
  · obtain ⟨x0, x1, x2, rfl, _⟩ := h
    rfl
  · have hu := hu_of hr
    exact (pss_cons (ps_for PassesOwn.never rfl (pi_range1 rfl T.b_range (pa_cons (pe_callB b_len (by rfl) T.b_len (by decide +kernel) (pa_cons (pe_dget hu (pv 1) pe_str (fun _ _ => rfl)) pa_nil)) pa_nil)) (pg_name (i := 3) sc_Lopened.nd rfl (Or.inl rfl)) (pss_one (ps_expr (pe_cl c_Ladd (hr.mono (by first | decide | omega)) (by rfl) (pa_cons (pv 1) (pa_cons (pe_dispT1 hu (pe_ix ix_tup (pe_dget hu (pv 1) pe_str (fun _ _ => rfl)) (pv 3) (fun _ _ => rfl)) (pe_ix ix_tup (pe_ix ix_tup (pv 2) pe_int (fun _ _ => rfl)) (pv 3) (fun _ _ => rfl))) (pa_cons pe_int pa_nil)))))))
    (pss_cons (ps_dput hu (pv 1) pe_str pe_non rfl)
    (Evl.pss_cut (ps_if (pt_cmpR c_notN (pe_ix ix_tup (pv 2) pe_int (fun _ _ => rfl)) pe_non (nomark _)) (pss_cons (ps_set (i := 4) sc_Lopened.nd rfl (Or.inl rfl) (pe_dpop1 (pe_dget hu (pv 1) pe_str (fun _ _ => rfl)) (pe_ix ix_tup (pe_ix ix_tup (pv 2) pe_int (fun _ _ => rfl)) pe_int (fun _ _ => rfl)) ⟨rfl, rfl, rfl, rfl⟩))
    (Evl.pss_cut (ps_if (pt_tr (pe_ix ix_tup (pe_ix ix_tup (pv 2) pe_int (fun _ _ => rfl)) pe_int (fun _ _ => rfl)) (by intro _; rfl)) (pss_one (ps_expr (pe_cl c_Lgranted (hr.mono (by first | decide | omega)) (by rfl) (pa_cons (pv 0) (pa_cons (pv 1) (pa_cons (pe_ix ix_tup (pe_ix ix_tup (pv 2) pe_int (fun _ _ => rfl)) pe_int (fun _ _ => rfl)) (pa_cons (pv 4) pa_nil))))))) pss_nil)
    (pss_one (ps_expr (pe_bm PySem.F.plainAttrs_list PySem.F.slot_list_append PySem.F.type_list_append mt_append (pe_dget hu (pv 1) pe_str (fun _ _ => rfl)) (pa_cons (pe_ix ix_tup (pv 2) pe_int (fun _ _ => rfl)) pa_nil)))))) pss_nil)
    (pss_cons (ps_set (i := 5) sc_Lopened.nd rfl (Or.inl rfl) (pe_callTy b_list (by rfl) T.b_list (by decide +kernel) (pa_cons (pe_dget hu (pv 1) pe_str (fun _ _ => rfl)) pa_nil)))
    (pss_cons (ps_expr (pe_bm0 PySem.F.plainAttrs_list PySem.F.slot_list_clear PySem.F.type_list_clear mt_clear (pe_dget hu (pv 1) pe_str (fun _ _ => rfl))))
    (pss_one (ps_for PassesOwn.never rfl (pi_list (pv 5)) (pg_tup rfl (pgs_cons (pg_name (i := 6) sc_Lopened.nd rfl (Or.inl rfl)) (pgs_cons (pg_name (i := 4) sc_Lopened.nd rfl (Or.inl rfl)) pgs_nil))) (pss_one (ps_if (pt_val (pe_cl c_Lmust_wait (hr.mono (by first | decide | omega)) (by rfl) (pa_cons (pv 1) (pa_cons (pv 4) pa_nil)))) (pss_one (ps_expr (pe_bm PySem.F.plainAttrs_list PySem.F.slot_list_append PySem.F.type_list_append mt_append (pe_dget hu (pv 1) pe_str (fun _ _ => rfl)) (pa_cons (pe_tup (pa_cons (pv 6) (pa_cons (pv 4) pa_nil))) pa_nil)))) (pss_one (ps_expr (pe_cl c_Ldo (hr.mono (by first | decide | omega)) (by rfl) (pa_cons (pv 0) (pa_cons (pv 1) (pa_cons (pv 6) (pa_cons (pv 4) pa_nil))))))))))))))))
  · obtain ⟨x0, x1, x2, rfl, h⟩ := h
    exact pu_Lopened T h

def P_Lhandle (K : PySem.W.Frag) (A : Ad) (x0 x1 x2 : V) (H : Hp) (Q : VK) : Prop := ∃ (s : SP) (S : Setup) (M : SM) (b : DnB), Da H x0 (setupD S) ∧ x1 = .ref s.p ∧ LAt H s S M ∧ Da H x2 (dnD b) ∧ SetupOk S ∧ M.Ok S ∧ DnOk S M b ∧ M.Sz 1000 ∧
  LStep H s S (M.handle S b) (fun H' => Q .non H')
def sp_Lhandle (K : PySem.W.Frag) (A : Ad) : Sp := fun vs H Q _ => ∃ x0 x1 x2, vs = [x0, x1, x2] ∧ P_Lhandle K A x0 x1 x2 H Q
theorem c_Lhandle {K : PySem.W.Frag} {A : Ad} {x0 x1 x2 : V} {H : Hp} {Q : VK} {E : XK} (h : P_Lhandle K A x0 x1 x2 H Q) : sp_Lhandle K A [x0, x1, x2] H Q E := ⟨_, _, _, rfl, h⟩
theorem sc_Lhandle : FnScope ["_law_setup_here", "_law_model", "_law_body_here", "_law_free", "_law_cell"] ["_law_setup_here", "_law_model", "_law_body_here"] (defScope s_Lhandle) := ⟨rfl, rfl, rfl, by decide +kernel, rfl, by decide +kernel, by decide +kernel⟩
def t_Lhandle (K : PySem.W.Frag) (A : Ad) : TS :=
  (tSeq (tAsg (tDGet (tVar 1) (tC (.str "free"))) (gName 3))
    (tIfS (tTest (tOp rEq (tOp (rIxT K) (tVar 2) (tC (.int 0))) (tC (.str "give")))) (sDPut (tVar 3) (tSl (rSlT K) (tVar 2) (tPart (tC (.int 1))) tNoPart) (tOp oAdd (tDGet2 (tVar 3) (tSl (rSlT K) (tVar 2) (tPart (tC (.int 1))) tNoPart) (tC (.int 0))) (tC (.int 1)))) (tIfS (tTest (tOp rEq (tOp (rIxT K) (tVar 2) (tC (.int 0))) (tC (.str "close")))) (tSeq (sDPut (tVar 1) (tC (.str "closing")) (tOp (rIxT K) (tVar 2) (tC (.int 1))))
    (tSeq (tDrop (tBM K "list" rAppend (tDGet (tVar 1) (tC (.str "out"))) (tCons (tTup (tCons (tC (.str "closed")) (tCons (tCB (rTupOf K) (tCons (tLc (iTup K (tOp (rIxT K) (tVar 2) (tC (.int 1)))) (gName 4) tYes (tDGet2 (tVar 3) (tVar 4) (tC (.int 0))) [4]) tNil)) tNil))) tNil)))
    (tFor (iTup K (tOp (rIxT K) (tVar 2) (tC (.int 1)))) (gName 4) (sDPut (tVar 3) (tVar 4) (tC (.int 0)))))) (tIfS (tTest (tOp rEq (tOp (rIxT K) (tVar 2) (tC (.int 0))) (tC (.str "open")))) (tDrop (tCl (sp_Lopened K A) (tCons (tVar 0) (tCons (tVar 1) (tCons (tVar 2) tNil))))) (tIfS (tTest (tOp cGt (tDGet2 (tVar 3) (tSl (rSlT K) (tVar 2) (tPart (tC (.int 1))) tNoPart) (tC (.int 0))) (tC (.int 0)))) (tSeq (sDPut (tVar 3) (tSl (rSlT K) (tVar 2) (tPart (tC (.int 1))) tNoPart) (tOp oSub (tDGet2 (tVar 3) (tSl (rSlT K) (tVar 2) (tPart (tC (.int 1))) tNoPart) (tC (.int 0))) (tC (.int 1))))
    (tDrop (tBM K "list" rAppend (tDGet (tVar 1) (tC (.str "out"))) (tCons (tOp (rCatT K) (tTup (tCons (tC (.str "back")) tNil)) (tSl (rSlT K) (tVar 2) (tPart (tC (.int 1))) tNoPart)) tNil)))) tNext)))))
theorem pu_Lhandle (T : Txt K mg A) {x0 x1 x2 : V} {H : Hp} {Q : VK} (h : P_Lhandle K A x0 x1 x2 H Q) : t_Lhandle K A { nx := fun _ H' => Q .non H', rt := Q } [some x0, some x1, some x2, none, none] H := by
  obtain ⟨s, S, M, b, dS, rfl, x, db, so, mo, bok, sz, kk⟩ := h
  have nd0 := x.nd
  obtain ⟨clv, e, c⟩ := x.parts
  unfold t_Lhandle
  cases b with
  | give w =>
    obtain ⟨a, xs, rfl, ea, _, q⟩ := Da.tup1 db
    obtain ⟨u1, u2, u3, rfl, d1, d2, d3⟩ := q.three
    cases d1.str1
    cases d2.int1
    cases d3.int1
    have hw : CellOk S w := bok
    walk_at "go"
    refine g_ite (fun _ => ?_) (fun z => absurd rfl z)
    walk_at "go"
    refine g_frI c.fr ?_
    walk_at "go"
    rename_i t H1 n1 f1 e1
    have ef1 := c.fr.fr f1 nin0
    have ea1 := f1.tup _ _ ea
    refine g_frG ef1 e1 ?_
    walk_at "go"
    rename_i t2 H2 n2 f2 e2
    have ef2 := ef1.fr f2 nin0
    refine g_frD so hw ef2 e2 fun H3 f3 e3 => ?_
    walk_at "go"
    exact kk H3 ((f3.in1 s.m_fr).pre0' (f1.then0 f2)) ((x.f0 (f1.then0 f2)).w_fr f3 e3)
  | close cs =>
    obtain ⟨hck, hcl⟩ := bok
    obtain ⟨a, xs, rfl, ea, _, q⟩ := Da.tup1 db
    obtain ⟨u1, u2, rfl, d1, d2⟩ := q.two
    cases d1.str1
    have ic : immL (cs.map cellD) = true := immL_map imm_cell _
    walk_at "go"
    refine g_ite (fun z => absurd z (by decide)) (fun _ => ?_)
    walk_at "go"
    refine g_ite (fun _ => ?_) (fun z => absurd rfl z)
    walk_at "go"
    rename_i H1 f1 e1
    have x1 := x.w_p (clv := u2) (n' := M.n) (c' := some cs) f1 e1 (Da.frL f1 d2 (imm_cells cs))
    have d21 := Da.frL f1 d2 (imm_cells cs)
    have ea1 := f1.tup _ _ ea
    clear e1
    obtain ⟨cp, ys, rfl, ecp, _, dys⟩ := d21.tup1
    have hyl : ys.length = cs.length := by rw [dys.len, List.length_map]
    obtain ⟨clv1, e1p, c1⟩ := x1.parts
    show rBM K "list" (.ref s.out) H1 _
    obtain ⟨io, os, eo, dox⟩ := c1.out
    have hol : os.length ≤ 200000 := by rw [dox.len, List.length_map]; have := sz.out; show M.out.length ≤ _; omega
    walk_at "go"
    refine l_tup (xs := ys) fun Dl H2 nD f2 e2 => ⟨fun i acc H' => acc = ((cs.take i).map M.fr).map V.int ∧ Fr [] H1 H', ⟨rfl, f2⟩, fun i acc H' q => SqT.of (q.2.tup _ _ ecp), fun i y acc H' hy ha ⟨ea', f⟩ => ?_, fun acc H' ha ⟨ea', f⟩ => ?_⟩
    · obtain ⟨cc, ca, hcc, rfl, eca⟩ := cells_get (DaL.frL f dys ic) hy
      have ef' := c1.fr.fr f nin0
      walk_at "go"
      refine ⟨rfl, ?_⟩
      walk_at "go"
      refine g_frI ef' ?_
      walk_at "go"
      refine g_frG ef' eca ?_
      have hal : acc.length ≤ 100 := by rw [ea', List.length_map, List.length_map, List.length_take]; omega
      refine lcY_of ha (szM (by omega)) fun H3 f3 e3 => ⟨?_, f.own1 f3 nD⟩
      rw [ea', take_more hcc, List.map_append, List.map_append]; rfl
    · rw [hyl, List.take_length] at ea'
      have eo' := f.at0 eo
      walk_at "go"
      rename_i t3 H3 n3 f3 e3 t4 H4 n4 f4 e4
      have F4 : Fr [] H1 H4 := (f.then0 f3).then0 f4
      refine g_append (p := s.out) (F4.at0 eo) (szM (by omega)) fun H5 f5 e5 => ?_
      have dts : Da H4 (.ref t3) (rowD (cs.map M.fr)) := by
        have h := f4.tup _ _ e3
        rw [ea'] at h
        exact .tup h (by rw [List.length_map, List.length_map]; omega) (DaL.ofInts _)
      have x5 := (x1.f0 F4).w_out (v := M.out ++ [.closed (cs.map M.fr)]) f5 (by
        rw [List.map_append]
        exact LsAt.snoc (DaL.frL F4 dox io) io (.tup e4 (Nat.le_of_ble_eq_true rfl) (.cons (.str _) (.one' dts))) (imm_up (.closed (cs.map M.fr))) f5 e5)
      have G5 : Fr s.os H H5 := ((f1.in1 s.m_p).then0 F4).transL (f5.in1 s.m_out)
      have F5 : Fr [s.out] H1 H5 := f5.pre0' F4
      have ea5 := F5.tup _ _ ea1
      have ecp5 := F5.tup _ _ ecp
      have dys5 := DaL.frL F5 dys ic
      obtain ⟨clv5, e5p, c5⟩ := x5.parts
      have ef5 : FreeAt H5 s.fr S M.fr := c5.fr
      clear e5 f5 e4 f4 e3 f3 f ha ea' nD e2 f2 c5 eo' eo dox
      walk_at "go"
      refine f_tup (xs := ys) (fun i σ H' => (∃ v4, σ = [some x0, some (.ref s.p), some (.ref a), some (.ref s.fr), v4]) ∧ Fr [s.fr] H5 H' ∧ FreeAt H' s.fr S (clM M.fr (cs.take i))) ⟨⟨_, rfl⟩, Fr.refl, by rw [List.take_zero, clM_nil]; exact ef5⟩ (fun i σ H' _ ⟨_, f, _⟩ => SqT.of (f.tup _ _ ecp5)) ?_ ?_
      · rintro i y σ H6 hy ⟨⟨v4, rfl⟩, f6, e6⟩
        obtain ⟨cc, ca, hcc, rfl, eca⟩ := cells_get (DaL.frL f6 dys5 ic) hy
        walk_at "go"
        refine g_frD so (hck cc (List.mem_of_getElem? hcc)) e6 eca fun H7 f7 e7 => ?_
        refine ⟨⟨_, rfl⟩, f6.transL f7, ?_⟩
        rw [take_more hcc, ← clM_snoc]
        exact e7
      · rintro σ H6 ⟨⟨v4, rfl⟩, f6, e6⟩
        rw [hyl, List.take_length] at e6
        walk_at "go"
        exact kk H6 (G5.transL (f6.in1 s.m_fr)) (x5.w_fr f6 e6)
  | opn cs an =>
    have db0 := db
    obtain ⟨a, xs, rfl, ea, _, q⟩ := Da.tup1 db
    obtain ⟨u1, u2, u3, rfl, d1, d2, d3⟩ := q.three
    cases d1.str1
    obtain ⟨⟨l, hcl, hl⟩, han⟩ := bok
    walk_at "go"
    refine g_ite (fun z => absurd z (by decide)) (fun _ => ?_)
    walk_at "go"
    refine g_ite (fun z => absurd z (by decide)) (fun _ => ?_)
    walk_at "go"
    refine g_ite (fun _ => ?_) (fun z => absurd rfl z)
    walk_at "go"
    refine c_Lopened ⟨s, S, M, cs, an, l, dS, rfl, x, db0, so, mo, sz, hcl, hl, han, fun H1 f1 x1 => ?_⟩
    walk_at "go"
    exact kk H1 f1 x1
  | want w =>
    obtain ⟨a, xs, rfl, ea, _, q⟩ := Da.tup1 db
    obtain ⟨u1, u2, u3, rfl, d1, d2, d3⟩ := q.three
    cases d1.str1
    cases d2.int1
    cases d3.int1
    have hw : CellOk S w := bok
    walk_at "go"
    refine g_ite (fun z => absurd z (by decide)) (fun _ => ?_)
    walk_at "go"
    refine g_ite (fun z => absurd z (by decide)) (fun _ => ?_)
    walk_at "go"
    refine g_ite (fun z => absurd z (by decide)) (fun _ => ?_)
    walk_at "go"
    refine g_frI c.fr ?_
    walk_at "go"
    rename_i t H1 n1 f1 e1
    have x1 := x.f0 f1
    have ef1 := c.fr.fr f1 nin0
    have ep1 := f1.at0 e
    have ea1 := f1.tup _ _ ea
    refine g_frG ef1 e1 ?_
    walk_at "go"
    refine g_ite (fun hp => ?_) (fun hp => ?_)
    · walk_at "go"
      refine g_frI ef1 ?_
      walk_at "go"
      rename_i t2 H2 n2 f2 e2
      have ef2 := ef1.fr f2 nin0
      refine g_frG ef2 e2 ?_
      walk_at "go"
      rename_i t3 H3 n3 f3 e3
      have ef3 := ef2.fr f3 nin0
      refine g_frD so hw ef3 e3 fun H4 f4 e4 => ?_
      have F3 : Fr [] H H3 := (f1.then0 f2).then0 f3
      have x4 := (x.f0 F3).w_fr f4 e4
      have ea4 := f4.tup _ _ (F3.tup _ _ ea)
      obtain ⟨clv4, e4p, c4⟩ := x4.parts
      obtain ⟨io, os, eo, dox⟩ := c4.out
      have hol : os.length ≤ 200000 := by rw [dox.len, List.length_map]; have := sz.out; show M.out.length ≤ _; omega
      have F4 : Fr s.os H H4 := (f4.in1 s.m_fr).pre0' F3
      clear e1 e2 e3 f1 f2 f3 ef1 ef2 ep1 n1 n2 f4 e4
      walk_at "go"
      rename_i t5 H5 n5 f5 e5 t6 H6 n6 f6 e6
      refine g_catT (SqT.of (f6.at0 e5)) (SqT.of e6) (by simp) (Nat.le_of_ble_eq_true rfl) (fun z => by cases z) (fun _ t7 H7 n7 f7 e7 => ?_)
      have F7 : Fr [] H4 H7 := (f5.then0 f6).then0 f7
      walk_at "go"
      rename_i H8 f8 e8
      refine kk H8 ((F4.then0 F7).transL (f8.in1 s.m_out)) ?_
      have hd : M.handle S (.want w) = { M with fr := fset M.fr w (M.fr w - 1), out := M.out ++ [.back w] } := if_pos hp
      rw [hd]
      refine (x4.f0 F7).w_out (v := M.out ++ [.back w]) f8 ?_
      rw [List.map_append]
      exact LsAt.snoc (DaL.frL F7 dox io) io (.tup e7 (Nat.le_of_ble_eq_true rfl) (.cons (.str _) (.cons (.int _) (.one' (.int _))))) (imm_up (.back w)) f8 e8
    · walk_at "go"
      refine kk H1 f1.of0 ?_
      have hd : M.handle S (.want w) = M := if_neg hp
      rw [hd]; exact x1
theorem ok_Lhandle {f : Addr} {fd : FuncData} (F : Fun K "_law_handle" "_law_handle" s_Lhandle f fd) (T : Txt K mg A) (c_Lopened : Cal P w K mg base "_law_opened" 4 ["_law_setup_here", "_law_model", "_law_body_here"] (sp_Lopened K A)) : FnOk P w K mg base CX0 (5) f fd ["_law_setup_here", "_law_model", "_law_body_here"] (sp_Lhandle K A) := by
  refine F.ok sc_Lhandle (fun vs H Q E h => ?_) (fun cdv Ar outer s H vs Q E hr h => ⟨t_Lhandle K A, ?_, ?_⟩)
  · obtain ⟨x0, x1, x2, rfl, _⟩ := h
    rfl
  · have hu := hu_of hr
    exact (pss_cons (ps_set (i := 3) sc_Lhandle.nd rfl (Or.inr rfl) (pe_dget hu (pv 1) pe_str (fun _ _ => rfl)))
    (pss_one (ps_if (pt_cmpR op_eq (pe_ix ix_tup (pv 2) pe_int (fun _ _ => rfl)) pe_str (nomark _)) (pss_one (ps_dput hu (pv 3) (pe_slice sl_tup (pv 2) (po_some pe_int) po_none) (pe_op o_add (pe_dget2 hu (pv 3) (pe_slice sl_tup (pv 2) (po_some pe_int) po_none) pe_int ⟨rfl, rfl, rfl, rfl⟩) pe_int) rfl)) (pss_one (ps_if (pt_cmpR op_eq (pe_ix ix_tup (pv 2) pe_int (fun _ _ => rfl)) pe_str (nomark _)) (pss_cons (ps_dput hu (pv 1) pe_str (pe_ix ix_tup (pv 2) pe_int (fun _ _ => rfl)) rfl)
    (pss_cons (ps_expr (pe_bm PySem.F.plainAttrs_list PySem.F.slot_list_append PySem.F.type_list_append mt_append (pe_dget hu (pv 1) pe_str (fun _ _ => rfl)) (pa_cons (pe_tup (pa_cons pe_str (pa_cons (pe_callTy b_tuple (by rfl) T.b_tuple (by decide +kernel) (pa_cons (pe_lc (own := [("_law_cell", 4)]) (g := (gName 4)) (tt := tYes) rfl sc_Lhandle.nd (pi_tup (pe_ix ix_tup (pv 2) pe_int (fun _ _ => rfl))) (blkOk_by (N := ["_law_setup_here", "_law_model", "_law_body_here", "_law_free", "_law_cell"]) (sc := defScope s_Lhandle) (own := [("_law_cell", 4)]) (by decide +kernel)) (fun _ _ _ _ _ => (pg_name (i := 4) sc_Lhandle.nd rfl (Or.inl rfl))) (fun _ _ _ _ _ => pts_nil) (fun _ _ _ _ _ => (pe_dget2 hu (pv 3) (pv 4) pe_int ⟨rfl, rfl, rfl, rfl⟩))) pa_nil)) pa_nil))) pa_nil)))
    (pss_one (ps_for PassesOwn.never rfl (pi_tup (pe_ix ix_tup (pv 2) pe_int (fun _ _ => rfl))) (pg_name (i := 4) sc_Lhandle.nd rfl (Or.inl rfl)) (pss_one (ps_dput hu (pv 3) (pv 4) pe_int rfl)))))) (pss_one (ps_if (pt_cmpR op_eq (pe_ix ix_tup (pv 2) pe_int (fun _ _ => rfl)) pe_str (nomark _)) (pss_one (ps_expr (pe_cl c_Lopened (hr.mono (by first | decide | omega)) (by rfl) (pa_cons (pv 0) (pa_cons (pv 1) (pa_cons (pv 2) pa_nil)))))) (pss_one (ps_if (pt_cmpR c_gt (pe_dget2 hu (pv 3) (pe_slice sl_tup (pv 2) (po_some pe_int) po_none) pe_int ⟨rfl, rfl, rfl, rfl⟩) pe_int (nomark _)) (pss_cons (ps_dput hu (pv 3) (pe_slice sl_tup (pv 2) (po_some pe_int) po_none) (pe_op o_sub (pe_dget2 hu (pv 3) (pe_slice sl_tup (pv 2) (po_some pe_int) po_none) pe_int ⟨rfl, rfl, rfl, rfl⟩) pe_int) rfl)
    (pss_one (ps_expr (pe_bm PySem.F.plainAttrs_list PySem.F.slot_list_append PySem.F.type_list_append mt_append (pe_dget hu (pv 1) pe_str (fun _ _ => rfl)) (pa_cons (pe_op op_catT (pe_tup (pa_cons pe_str pa_nil)) (pe_slice sl_tup (pv 2) (po_some pe_int) po_none)) pa_nil))))) pss_nil)))))))))
  · obtain ⟨x0, x1, x2, rfl, h⟩ := h
    exact pu_Lhandle T h

def P_Ldeed (K : PySem.W.Frag) (A : Ad) (x0 x1 x2 : V) (H : Hp) (Q : VK) : Prop := ∃ (d l : Addr) (S : Setup) (n : Int), x0 = .ref d ∧ Draws H d l ∧ SetupOk S ∧ Da H x1 (setupD S) ∧ x2 = .int n ∧
  ∀ (v : V) (e : Deed) (H' : Hp), DeedOk S e → Da H' v (deedD e) → Fr [d] H H' → Draws H' d l → Q v H'
def sp_Ldeed (K : PySem.W.Frag) (A : Ad) : Sp := fun vs H Q _ => ∃ x0 x1 x2, vs = [x0, x1, x2] ∧ P_Ldeed K A x0 x1 x2 H Q
theorem c_Ldeed {K : PySem.W.Frag} {A : Ad} {x0 x1 x2 : V} {H : Hp} {Q : VK} {E : XK} (h : P_Ldeed K A x0 x1 x2 H Q) : sp_Ldeed K A [x0, x1, x2] H Q E := ⟨_, _, _, rfl, h⟩
theorem sc_Ldeed : FnScope ["_law_draws", "_law_setup_here", "_law_number", "_law_pick", "_law_named"] ["_law_draws", "_law_setup_here", "_law_number"] (defScope s_Ldeed) := ⟨rfl, rfl, rfl, by decide +kernel, rfl, by decide +kernel, by decide +kernel⟩
def t_Ldeed (K : PySem.W.Frag) (A : Ad) : TS :=
  (tSeq (tAsg (tOp oMod (tCl (sp_Ldraw K A) (tCons (tVar 0) tNil)) (tC (.int 5))) (gName 3))
    (tSeq (tIfS (tAnd (tTest (tOp cGt (tVar 2) (tC (.int 0)))) (tTest (tOp cLt (tVar 3) (tC (.int 2))))) (tSeq (tAsg (tOp oMod (tCl (sp_Ldraw K A) (tCons (tVar 0) tNil)) (tVar 2)) (gName 4))
    (tRet (tOp (rIxL K) (tLst (tCons (tTup (tCons (tC (.str "cancel")) (tCons (tVar 4) tNil))) (tCons (tTup (tCons (tC (.str "change")) (tCons (tVar 4) (tCons (tCl (sp_Lparty K A) (tCons (tVar 0) (tCons (tVar 1) tNil))) tNil)))) tNil))) (tVar 3)))) tNext)
    (tRet (tTup (tCons (tC (.str "wish")) (tCons (tCl (sp_Lparty K A) (tCons (tVar 0) (tCons (tVar 1) tNil))) tNil))))))
theorem pu_Ldeed (T : Txt K mg A) {x0 x1 x2 : V} {H : Hp} {Q : VK} (h : P_Ldeed K A x0 x1 x2 H Q) : t_Ldeed K A { nx := fun _ H' => Q .non H', rt := Q } [some x0, some x1, some x2, none, none] H := by
  obtain ⟨d, l, S, n, rfl, D0, so, dS, rfl, k⟩ := h
  unfold t_Ldeed
  have wish : ∀ (H1 : Hp), Draws H1 d l → Fr [d] H H1 → sp_Lparty K A [.ref d, x1] H1 (fun x H2 => rNewT [.str "wish", x] H2 Q) E0 := by
    intro H1 D1 f1
    have dS1 := Da.frL f1 dS (imm_setup S)
    refine c_Lparty ⟨d, l, S, rfl, D1, so, dS1, fun pv ps H2 po dp2 f2 D2 => ?_⟩
    walk_at "go"
    rename_i t H3 n3 f3 e3
    exact k _ (.wish ps) H3 ⟨po.ok, po.l4⟩ (.tup e3 (Nat.le_of_ble_eq_true rfl) (.cons (.str _) (.one' (Da.frL f3 dp2 (imm_party ps))))) ((f1.transL f2).then0 f3) (D2.fr f3 nin0 nin0)
  walk_at "go"
  rename_i y H1 y0 y1 f1 D1
  refine g_ite (fun c1 => ?_) (fun c1 => ?_)
  · walk_at "go"
    refine g_ite (fun c2 => ?_) (fun c2 => ?_)
    · walk_at "go"
      rename_i z H2 z0 z1 f2 D2 t1 H3 n3 f3 e3
      have F3 : Fr [d] H H3 := (f1.transL f2).then0 f3
      have D3 := D2.fr f3 nin0 nin0
      refine c_Lparty ⟨d, l, S, rfl, D3, so, Da.frL F3 dS (imm_setup S), fun pv ps H4 po dp4 f4 D4 => ?_⟩
      have e4 := f4.tup _ _ e3
      walk_at "go"
      rename_i t2 H5 n5 f5 e5 tl H6 n6 f6 e6
      have F6 : Fr [d] H H6 := (((F3.transL f4).then0 f5).then0 f6)
      have D6 := (D4.fr f5 nin0 nin0).fr f6 nin0 nin0
      have hy : y % 5 = 0 ∨ y % 5 = 1 := by omega
      rcases hy with hy | hy
      · refine g_ixL (SqL.of e6) (v := .ref t1) (by rw [hy]; rfl) ?_
        exact k _ (.cancel (z % n)) H6 trivial (.tup (f6.tup _ _ (f5.tup _ _ e4)) (Nat.le_of_ble_eq_true rfl) (.cons (.str _) (.one' (.int _)))) F6 D6
      · refine g_ixL (SqL.of e6) (v := .ref t2) (by rw [hy]; rfl) ?_
        exact k _ (.change (z % n) ps) H6 ⟨po.ok, po.l4⟩ (.tup (f6.tup _ _ e5) (Nat.le_of_ble_eq_true rfl) (.cons (.str _) (.cons (.int _) (.one' (Da.frL f6 (Da.frL f5 dp4 (imm_party ps)) (imm_party ps)))))) F6 D6
    · walk_at "go"
      exact wish H1 D1 f1
  · walk_at "go"
    exact wish H1 D1 f1
theorem ok_Ldeed {f : Addr} {fd : FuncData} (F : Fun K "_law_deed" "_law_deed" s_Ldeed f fd) (T : Txt K mg A) (c_Ldraw : Cal P w K mg base "_law_draw" 2 ["_law_draws"] (sp_Ldraw K A)) (c_Lparty : Cal P w K mg base "_law_party" 4 ["_law_draws", "_law_setup_here"] (sp_Lparty K A)) : FnOk P w K mg base CX0 (5) f fd ["_law_draws", "_law_setup_here", "_law_number"] (sp_Ldeed K A) := by
  refine F.ok sc_Ldeed (fun vs H Q E h => ?_) (fun cdv Ar outer s H vs Q E hr h => ⟨t_Ldeed K A, ?_, ?_⟩)
  · obtain ⟨x0, x1, x2, rfl, _⟩ := h
    rfl
  · have hu := hu_of hr
    exact (pss_cons (ps_set (i := 3) sc_Ldeed.nd rfl (Or.inl rfl) (pe_op o_mod (pe_cl c_Ldraw (hr.mono (by first | decide | omega)) (by rfl) (pa_cons (pv 0) pa_nil)) pe_int))
    (pss_cons (ps_if (PW.pt (pw_and (pt_cmpR c_gt (pv 2) pe_int (nomark _)) (pw_and1 (pt_cmpR c_lt (pv 3) pe_int (nomark _))))) (pss_cons (ps_set (i := 4) sc_Ldeed.nd rfl (Or.inl rfl) (pe_op o_mod (pe_cl c_Ldraw (hr.mono (by first | decide | omega)) (by rfl) (pa_cons (pv 0) pa_nil)) (pv 2)))
    (pss_one (ps_ret (pe_ix ix_list (pe_lst (pa_cons (pe_tup (pa_cons pe_str (pa_cons (pv 4) pa_nil))) (pa_cons (pe_tup (pa_cons pe_str (pa_cons (pv 4) (pa_cons (pe_cl c_Lparty (hr.mono (by first | decide | omega)) (by rfl) (pa_cons (pv 0) (pa_cons (pv 1) pa_nil))) pa_nil)))) pa_nil))) (pv 3) (fun _ _ => rfl))))) pss_nil)
    (pss_one (ps_ret (pe_tup (pa_cons pe_str (pa_cons (pe_cl c_Lparty (hr.mono (by first | decide | omega)) (by rfl) (pa_cons (pv 0) (pa_cons (pv 1) pa_nil))) pa_nil)))))))
  · obtain ⟨x0, x1, x2, rfl, h⟩ := h
    exact pu_Ldeed T h
def P_Lsame_free (K : PySem.W.Frag) (A : Ad) (x0 x1 x2 : V) (H : Hp) (Q : VK) : Prop := ∃ (a b : Addr) (S : Setup) (f : Cell → Int), x1 = .ref a ∧ H a = some (.dT (cD (stT S f))) ∧ x2 = .ref b ∧ FreeAt H b S f ∧ Da H x0 (setupD S) ∧ SetupOk S ∧ ∀ H', Fr [] H H' → Q (.bl true) H'
def sp_Lsame_free (K : PySem.W.Frag) (A : Ad) : Sp := fun vs H Q _ => ∃ x0 x1 x2, vs = [x0, x1, x2] ∧ P_Lsame_free K A x0 x1 x2 H Q
theorem c_Lsame_free {K : PySem.W.Frag} {A : Ad} {x0 x1 x2 : V} {H : Hp} {Q : VK} {E : XK} (h : P_Lsame_free K A x0 x1 x2 H Q) : sp_Lsame_free K A [x0, x1, x2] H Q E := ⟨_, _, _, rfl, h⟩
theorem sc_Lsame_free : FnScope ["_law_setup_here", "_law_told", "_law_free", "_law_kind", "_law_night"] ["_law_setup_here", "_law_told", "_law_free"] (defScope s_Lsame_free) := ⟨rfl, rfl, rfl, by decide +kernel, rfl, by decide +kernel, by decide +kernel⟩
def t_Lsame_free (K : PySem.W.Frag) (A : Ad) : TS :=
  (tSeq (tIfS (tOr (tNot (tB (tCB (rIsi K) (tCons (tVar 1) (tCons (tC (.ty "dict")) tNil))))) (tTest (tOp rNe (tCB rLenT (tCons (tVar 1) tNil)) (tOp oMul (tCB (rLenSq K) (tCons (tOp (rIxT K) (tVar 0) (tC (.int 0))) tNil)) (tOp (rIxT K) (tVar 0) (tC (.int 1))))))) (tRet (tC (.bl false))) tNext)
    (tSeq (tFor (iRng1 (tCons (tCB (rLenSq K) (tCons (tOp (rIxT K) (tVar 0) (tC (.int 0))) tNil)) tNil)) (gName 3) (tFor (iRng1 (tCons (tOp (rIxT K) (tVar 0) (tC (.int 1))) tNil)) (gName 4) (tIfS (tNot (tB (tCl (sp_Lequal K A 12) (tCons (tDGet1 (tVar 1) (tTup (tCons (tVar 3) (tCons (tVar 4) tNil)))) (tCons (tDGet2 (tVar 2) (tTup (tCons (tVar 3) (tCons (tVar 4) tNil))) (tC (.int 0))) tNil))))) (tRet (tC (.bl false))) tNext)))
    (tRet (tC (.bl true)))))
theorem pu_Lsame_free (T : Txt K mg A) {x0 x1 x2 : V} {H : Hp} {Q : VK} (h : P_Lsame_free K A x0 x1 x2 H Q) : t_Lsame_free K A { nx := fun _ H' => Q .non H', rt := Q } [some x0, some x1, some x2, none, none] H := by
  obtain ⟨a, b, S, f, rfl, ea, rfl, fb, dS, so, k⟩ := h
  obtain ⟨sp, r, pp, prs, sa⟩ := SetAt.of dS
  cases sa.e
  have e0 := sa.t
  have er := sa.r
  have hn1 := so.n1
  have hn2 := so.n2
  have hk1 := so.k1
  have hk3 := so.k3
  have hlen : (cD (stT S f)).length = S.rooms.length * S.nights.toNat := by
    rw [enD_len]; unfold stT tabF; rw [List.length_map, cells_len]
  have hz : ((cD (stT S f)).length : Int) = ((S.rooms.map V.int).length : Int) * S.nights := by
    rw [hlen, List.length_map]
    have : ((S.nights.toNat : Nat) : Int) = S.nights := by omega
    rw [Int.natCast_mul, this]
  unfold t_Lsame_free
  walk_at "go"
  refine g_lenDT ea ?_
  walk_at "go"
  rw [hz]
  refine g_iteN (fun z => absurd rfl z) (fun _ => ?_)
  walk_at "go"
  refine f_range (lo := 0) (n := (S.rooms.map V.int).length) (fun i σ H' => (∃ v3 v4, σ = [some (.ref sp), some (.ref a), some (.ref b), v3, v4]) ∧ Fr [] H H') ⟨⟨_, _, rfl⟩, Fr.refl⟩ ?_ ?_
  · rintro i σ H1 hi ⟨⟨v3, v4, rfl⟩, f1⟩
    rw [List.length_map] at hi
    have e01 := f1.at0 e0
    walk_at "go"
    refine f_range (lo := 0) (n := S.nights.toNat) (fun j σ H' => (∃ v4, σ = [some (.ref sp), some (.ref a), some (.ref b), some (.int (0 + (i : Int))), v4]) ∧ Fr [] H H') ⟨⟨_, rfl⟩, f1⟩ ?_ ?_
    · rintro j σ H2 hj ⟨⟨v4, rfl⟩, f2⟩
      have hw : CellOk S (0 + (i : Int), 0 + (j : Int)) := ⟨by show (0:Int) ≤ 0 + (i : Int); omega, by show (0:Int) + (i : Int) < _; omega, by show (0:Int) ≤ 0 + (j : Int); omega, by show (0:Int) + (j : Int) < _; omega⟩
      have ea2 := f2.at0 ea
      have fb2 := fb.fr f2 nin0
      walk_at "go"
      rename_i t H3 n3 f3 e3
      obtain ⟨w, hwe⟩ : ∃ w : Cell, w = (0 + (i : Int), 0 + (j : Int)) := ⟨_, rfl⟩
      have e3 : H3 t = some (.tup [.int w.1, .int w.2]) := by rw [hwe]; exact e3
      rw [← hwe] at hw
      refine g_dgo (k := ck w) (.inl (f3.at0 ea2)) e3 ?_
      rw [st_get so hw]
      have fb3 := fb2.fr f3 nin0
      walk_at "go"
      refine g_frI fb3 ?_
      walk_at "go"
      rename_i t4 H4 n4 f4 e4
      have e4 : H4 t4 = some (.tup [.int w.1, .int w.2]) := by rw [hwe]; exact e4
      refine g_frG (fb3.fr f4 nin0) e4 ?_
      walk_at "go"
      refine c_Lequal ⟨.int (f w), .int _, .int _, by simp [dp], ?_⟩
      walk_at "go"
      exact ⟨⟨_, rfl⟩, f2.then0 (f3.then0 f4)⟩
    · rintro σ H2 ⟨⟨v4, rfl⟩, f2⟩
      exact ⟨⟨_, _, rfl⟩, f2⟩
  · rintro σ H1 ⟨⟨v3, v4, rfl⟩, f1⟩
    walk_at "go"
    exact k H1 f1
theorem ok_Lsame_free {f : Addr} {fd : FuncData} (F : Fun K "_law_same_free" "_law_same_free" s_Lsame_free f fd) (T : Txt K mg A) (c_Lequal : Cal P w K mg base "_law_equal" 25 ["_law_actual", "_law_due"] (sp_Lequal K A 12)) : FnOk P w K mg base CX0 (26) f fd ["_law_setup_here", "_law_told", "_law_free"] (sp_Lsame_free K A) := by
  refine F.ok sc_Lsame_free (fun vs H Q E h => ?_) (fun cdv Ar outer s H vs Q E hr h => ⟨t_Lsame_free K A, ?_, ?_⟩)
  · obtain ⟨x0, x1, x2, rfl, _⟩ := h
    rfl
  · have hu := hu_of hr
    exact (pss_cons (ps_if (PW.pt (pw_or (pt_not (pt_val (pe_callB call_isi (by rfl) T.b_isinstance (by decide +kernel) (pa_cons (pv 1) (pa_cons (pe_bltn (by rfl) T.b_dict (by decide +kernel) (v := .ty "dict") rfl) pa_nil))))) (pw_or1 (pt_cmpR op_ne (pe_callB call_len_dT (by rfl) T.b_len (by decide +kernel) (pa_cons (pv 1) pa_nil)) (pe_op o_mul (pe_callB b_len (by rfl) T.b_len (by decide +kernel) (pa_cons (pe_ix ix_tup (pv 0) pe_int (fun _ _ => rfl)) pa_nil)) (pe_ix ix_tup (pv 0) pe_int (fun _ _ => rfl))) (nomark _))))) (pss_one (ps_ret pe_bl)) pss_nil)
    (pss_cons (ps_for PassesOwn.never rfl (pi_range1 rfl T.b_range (pa_cons (pe_callB b_len (by rfl) T.b_len (by decide +kernel) (pa_cons (pe_ix ix_tup (pv 0) pe_int (fun _ _ => rfl)) pa_nil)) pa_nil)) (pg_name (i := 3) sc_Lsame_free.nd rfl (Or.inl rfl)) (pss_one (ps_for PassesOwn.never rfl (pi_range1 rfl T.b_range (pa_cons (pe_ix ix_tup (pv 0) pe_int (fun _ _ => rfl)) pa_nil)) (pg_name (i := 4) sc_Lsame_free.nd rfl (Or.inl rfl)) (pss_one (ps_if (pt_not (pt_val (pe_cl c_Lequal (hr.mono (by first | decide | omega)) (by rfl) (pa_cons (pe_dget1 hu (pv 1) (pe_tup (pa_cons (pv 3) (pa_cons (pv 4) pa_nil))) ⟨rfl, rfl, rfl, rfl⟩) (pa_cons (pe_dget2 hu (pv 2) (pe_tup (pa_cons (pv 3) (pa_cons (pv 4) pa_nil))) pe_int ⟨rfl, rfl, rfl, rfl⟩) pa_nil))))) (pss_one (ps_ret pe_bl)) pss_nil)))))
    (pss_one (ps_ret pe_bl))))
  · obtain ⟨x0, x1, x2, rfl, h⟩ := h
    exact pu_Lsame_free T h

/-! ### two dicts alike -/
def prD (e : Int × PyData) : PyData := .tuple [.int e.1, e.2]
structure RowsOk (m : List (Int × PyData)) : Prop where
  nd : Nd m
  im : ∀ e ∈ m, imm e.2 = true
  al : ∀ e ∈ m, PySem.W.alike e.2 e.2 = true
  dd : ∀ e ∈ m, e.2.depth ≤ 50
  dq : ∀ e ∈ m, dp e.2 ≤ 8
  ln : m.length ≤ 200000
theorem RowsOk.heads {m : List (Int × PyData)} (h : RowsOk m) : Heads (m.map prD) := by
  refine ⟨fun d hd => ?_, fun k r r' h1 h2 => ?_, fun d hd => ?_⟩
  · obtain ⟨e, _, rfl⟩ := List.mem_map.mp hd
    exact ⟨_, _, rfl⟩
  · obtain ⟨e, he, q⟩ := List.mem_map.mp h1
    obtain ⟨e', he', q'⟩ := List.mem_map.mp h2
    simp [prD] at q q'
    have l1 := lk_mem h.nd he
    have l2 := lk_mem h.nd he'
    rw [q.1] at l1
    rw [q'.1, l1] at l2
    rw [← q.2, ← q'.2, Option.some.inj l2]
  · obtain ⟨e, he, rfl⟩ := List.mem_map.mp hd
    simp [prD, PySem.W.alike, PySem.W.alikeAll, h.al e he]
theorem RowsOk.depth {m : List (Int × PyData)} (h : RowsOk m) : ∀ d ∈ m.map prD, d.depth ≤ 60 := fun d hd => by
  obtain ⟨e, he, rfl⟩ := List.mem_map.mp hd
  have := h.dd e he
  simp [prD, PyData.depth, PyData.depthAll]; omega
theorem RowsOk.dp {m : List (Int × PyData)} (h : RowsOk m) : dp (.list (srt (m.map prD))) ≤ 12 := by
  have : dpL (srt (m.map prD)) ≤ 9 := dpL_le fun d hd => by
    obtain ⟨e, he, rfl⟩ := List.mem_map.mp ((srt_perm _).mem_iff.mp hd)
    have := h.dq e he
    simp [prD, Lw.dp, dpL]; omega
  simp only [Lw.dp]; omega
theorem RowsOk.imm {m : List (Int × PyData)} (h : RowsOk m) : immL (m.map prD) = true := immL_of fun d hd => by
  obtain ⟨e, he, rfl⟩ := List.mem_map.mp hd
  show (true && (Lw.imm e.2 && true)) = true
  rw [h.im e he]; rfl
theorem imm_takeP {m : List (Int × PyData)} (h : RowsOk m) (i : Nat) : immL ((m.take i).map prD) = true := immL_of fun d hd => by
  obtain ⟨e, he, rfl⟩ := List.mem_map.mp hd
  show (true && (imm e.2 && true)) = true
  rw [h.im e (List.mem_of_mem_take he)]; rfl
def P_Lsame_rows (K : PySem.W.Frag) (A : Ad) (x0 x1 : V) (H : Hp) (Q : VK) : Prop := ∃ (a b : Addr) (m : List (Int × PyData)), x0 = .ref a ∧ x1 = .ref b ∧ a ≠ b ∧ DkAt H a m ∧ DkAt H b m ∧ RowsOk m ∧ ∀ H', Fr [] H H' → Q (.bl true) H'
def sp_Lsame_rows (K : PySem.W.Frag) (A : Ad) : Sp := fun vs H Q _ => ∃ x0 x1, vs = [x0, x1] ∧ P_Lsame_rows K A x0 x1 H Q
theorem c_Lsame_rows {K : PySem.W.Frag} {A : Ad} {x0 x1 : V} {H : Hp} {Q : VK} {E : XK} (h : P_Lsame_rows K A x0 x1 H Q) : sp_Lsame_rows K A [x0, x1] H Q E := ⟨_, _, rfl, h⟩
theorem sc_Lsame_rows : FnScope ["_law_told", "_law_due", "_law_number"] ["_law_told", "_law_due"] (defScope s_Lsame_rows) := ⟨rfl, rfl, rfl, by decide +kernel, rfl, by decide +kernel, by decide +kernel⟩
def t_Lsame_rows (K : PySem.W.Frag) (A : Ad) : TS :=
  (tSeq (tIfS (tNot (tB (tCB (rIsi K) (tCons (tVar 0) (tCons (tC (.ty "dict")) tNil))))) (tRet (tC (.bl false))) tNext)
    (tRet (tCl (sp_Lequal K A 12) (tCons (tCB (rSortH K) (tCons (tLockE (tLc (iKeys (tVar 0)) (gName 2) tYes (tTup (tCons (tVar 2) (tCons (tDGet (tVar 0) (tVar 2)) tNil))) [2])) tNil)) (tCons (tCB (rSortH K) (tCons (tLockE (tLc (iKeys (tVar 1)) (gName 2) tYes (tTup (tCons (tVar 2) (tCons (tDGet (tVar 1) (tVar 2)) tNil))) [2])) tNil)) tNil)))))
theorem pu_Lsame_rows (T : Txt K mg A) {x0 x1 : V} {H : Hp} {Q : VK} (h : P_Lsame_rows K A x0 x1 H Q) : t_Lsame_rows K A { nx := fun _ H' => Q .non H', rt := Q } [some x0, some x1, none] H := by
  obtain ⟨a, b, m, rfl, rfl, hab, ⟨kvs, ea, ra⟩, ⟨kws, eb, rb⟩, mo, k⟩ := h
  have hlen := mo.ln
  unfold t_Lsame_rows
  walk_at "go"
  refine g_lockE ea trivial trivial fun od H1 f1 e1 => ?_
  have ra1 := ra.fr f1
  have eb1 := f1.at eb (nin1 hab.symm nin0)
  walk_at "go"
  refine l_keysK (kvs := kvs) fun Dl H2 nD f2 e2 => ⟨fun i acc H' => DaL H' acc ((m.take i).map prD) ∧ Fr [] H1 H', ⟨.nil, f2⟩, fun i acc H' q => q.2.at0 e1, fun i key v acc H' hi ha ⟨da, f⟩ => ?_, fun acc H' ha ⟨da, f⟩ => ?_⟩
  · obtain ⟨y, hy, rfl, dv⟩ := (ra1.fr f).get hi
    have e1' := f.at0 e1
    have hl : lk m y.1 = some y.2 := lk_mem mo.nd (List.mem_of_getElem? hy)
    obtain ⟨w, hw, dw, iw⟩ := ((ra1.fr f).val y.1).2 _ hl
    walk_at "go"
    refine ⟨rfl, ?_⟩
    walk_at "go"
    refine g_rdgI (.inr ⟨_, e1'⟩) hw ?_
    walk_at "go"
    rename_i t H3 n3 f3 e3
    have hal : acc.length ≤ 200000 := by rw [da.len, List.length_map, List.length_take]; omega
    refine lcY_of (f3.at0 ha) (szM (by omega)) fun H4 f4 e4 => ⟨?_, (f.then0 f3).own1 f4 nD⟩
    rw [take_more hy, List.map_append]
    exact (DaL.frL f4 (DaL.frL f3 da (imm_takeP mo i)) (imm_takeP mo i)).append (.one' (.tup (f4.tup _ _ e3) (Nat.le_of_ble_eq_true rfl) (.cons (.int _) (.one' (Da.frL f4 (Da.frL f3 dw iw) iw)))))
  · rw [ra.len, List.take_length] at da
    walk_at "go"
    rename_i H3 f3 e3
    have nDa : Dl ≠ a := fun z => by rw [z, e1] at nD; cases nD
    have F3 : Fr [] H H3 := ((f1.then0 f).transL f3).back ea e3
    have ha3 := f3.at ha (nin1 nDa nin0)
    have da3 := DaL.frL f3 da mo.imm
    refine g_srtH (SqL.of ha3) da3 mo.heads mo.depth fun p1 H4 ys n4 f4 e4 dy => ?_
    have F4 : Fr [] H H4 := F3.then0 f4
    have rb4 := rb.fr F4
    have eb4 := F4.at0 eb
    have hyl : ys.length = m.length := by rw [dy.len, (srt_perm _).length_eq, List.length_map]
    have iS : immL (srt (m.map prD)) = true := immL_of fun d hd => imm_of mo.imm d ((srt_perm _).mem_iff.mp hd)
    have dy4 := DaL.frL f4 dy iS
    clear e1 e2 f1 f2 f3 f e3 ha da ha3 da3 ra1 eb1 nD
    walk_at "go"
    refine g_lockE eb4 trivial trivial fun od H5 f5 e5 => ?_
    have rb5 := rb4.fr f5
    have npb : p1 ≠ b := (ne_of_none (F3.at0 eb) n4).symm
    walk_at "go"
    refine l_keysK (kvs := kws) fun D2 H6 n6 f6 e6 => ⟨fun i acc H' => DaL H' acc ((m.take i).map prD) ∧ Fr [] H5 H', ⟨.nil, f6⟩, fun i acc H' q => q.2.at0 e5, fun i key v acc H' hi ha ⟨da, f⟩ => ?_, fun acc H' ha ⟨da, f⟩ => ?_⟩
    · obtain ⟨y, hy, rfl, dv⟩ := (rb5.fr f).get hi
      have e5' := f.at0 e5
      have hl : lk m y.1 = some y.2 := lk_mem mo.nd (List.mem_of_getElem? hy)
      obtain ⟨w, hw, dw, iw⟩ := ((rb5.fr f).val y.1).2 _ hl
      walk_at "go"
      refine ⟨rfl, ?_⟩
      walk_at "go"
      refine g_rdgI (.inr ⟨_, e5'⟩) hw ?_
      walk_at "go"
      rename_i t H7 n7 f7 e7
      have hal : acc.length ≤ 200000 := by rw [da.len, List.length_map, List.length_take]; omega
      refine lcY_of (f7.at0 ha) (szM (by omega)) fun H8 f8 e8 => ⟨?_, (f.then0 f7).own1 f8 n6⟩
      rw [take_more hy, List.map_append]
      exact (DaL.frL f8 (DaL.frL f7 da (imm_takeP mo i)) (imm_takeP mo i)).append (.one' (.tup (f8.tup _ _ e7) (Nat.le_of_ble_eq_true rfl) (.cons (.int _) (.one' (Da.frL f8 (Da.frL f7 dw iw) iw)))))
    · rw [rb.len, List.take_length] at da
      walk_at "go"
      rename_i H7 f7 e7
      have nDb : D2 ≠ b := fun z => by rw [z, e5] at n6; cases n6
      have F7 : Fr [] H4 H7 := ((f5.then0 f).transL f7).back eb4 e7
      have ha7 := f7.at ha (nin1 nDb nin0)
      have da7 := DaL.frL f7 da mo.imm
      refine g_srtH (SqL.of ha7) da7 mo.heads mo.depth fun p2 H8 zs n8 f8 e8 dz => ?_
      have hzl : zs.length = m.length := by rw [dz.len, (srt_perm _).length_eq, List.length_map]
      walk_at "go"
      have F8 : Fr [] H4 H8 := F7.then0 f8
      refine c_Lequal ⟨.list (srt (m.map prD)), .lst (F8.at0 e4) (by omega) (DaL.frL F8 dy4 iS), .lst e8 (by omega) (DaL.frL f8 dz iS), mo.dp, ?_⟩
      exact k H8 (F4.then0 F8)
theorem ok_Lsame_rows {f : Addr} {fd : FuncData} (F : Fun K "_law_same_rows" "_law_same_rows" s_Lsame_rows f fd) (T : Txt K mg A) (c_Lequal : Cal P w K mg base "_law_equal" 25 ["_law_actual", "_law_due"] (sp_Lequal K A 12)) : FnOk P w K mg base CX0 (26) f fd ["_law_told", "_law_due"] (sp_Lsame_rows K A) := by
  refine F.ok sc_Lsame_rows (fun vs H Q E h => ?_) (fun cdv Ar outer s H vs Q E hr h => ⟨t_Lsame_rows K A, ?_, ?_⟩)
  · obtain ⟨x0, x1, rfl, _⟩ := h
    rfl
  · have hu := hu_of hr
    exact (pss_cons (ps_if (pt_not (pt_val (pe_callB call_isi (by rfl) T.b_isinstance (by decide +kernel) (pa_cons (pv 0) (pa_cons (pe_bltn (by rfl) T.b_dict (by decide +kernel) (v := .ty "dict") rfl) pa_nil))))) (pss_one (ps_ret pe_bl)) pss_nil)
    (pss_one (ps_ret (pe_cl c_Lequal (hr.mono (by first | decide | omega)) (by rfl) (pa_cons (pe_callB (b_sortH hr.units) (by rfl) T.b_sorted (by decide +kernel) (pa_cons (pe_lock (pe_lc (own := [("_law_number", 2)]) (g := (gName 2)) (tt := tYes) rfl sc_Lsame_rows.nd (pi_keys (pv 0)) (blkOk_by (N := ["_law_told", "_law_due", "_law_number"]) (sc := defScope s_Lsame_rows) (own := [("_law_number", 2)]) (by decide +kernel)) (fun _ _ _ _ _ => (pg_name (i := 2) sc_Lsame_rows.nd rfl (Or.inl rfl))) (fun _ _ _ _ _ => pts_nil) (fun _ _ _ _ _ => (pe_tup (pa_cons (pv 2) (pa_cons (pe_dget hu (pv 0) (pv 2) (fun _ _ => rfl)) pa_nil)))))) pa_nil)) (pa_cons (pe_callB (b_sortH hr.units) (by rfl) T.b_sorted (by decide +kernel) (pa_cons (pe_lock (pe_lc (own := [("_law_number", 2)]) (g := (gName 2)) (tt := tYes) rfl sc_Lsame_rows.nd (pi_keys (pv 1)) (blkOk_by (N := ["_law_told", "_law_due", "_law_number"]) (sc := defScope s_Lsame_rows) (own := [("_law_number", 2)]) (by decide +kernel)) (fun _ _ _ _ _ => (pg_name (i := 2) sc_Lsame_rows.nd rfl (Or.inl rfl))) (fun _ _ _ _ _ => pts_nil) (fun _ _ _ _ _ => (pe_tup (pa_cons (pv 2) (pa_cons (pe_dget hu (pv 1) (pv 2) (fun _ _ => rfl)) pa_nil)))))) pa_nil)) pa_nil))))))
  · obtain ⟨x0, x1, rfl, h⟩ := h
    exact pu_Lsame_rows T h

theorem alike_stays : ∀ p q : List Stay, PySem.W.alikeAll (p.map stayD) (q.map stayD) = true
  | [], _ => by simp [PySem.W.alikeAll]
  | _ :: _, [] => by simp [PySem.W.alikeAll]
  | s :: p, t :: q => by simp [PySem.W.alikeAll, PySem.W.alike, stayD, alike_stays p q]
theorem alike_party (p q : List Stay) : PySem.W.alike (partyD p) (partyD q) = true := by
  show PySem.W.alike (.tuple _) (.tuple _) = true
  simp only [PySem.W.alike]; exact alike_stays p q
theorem dpL_map {α : Type} {f : α → PyData} {n : Nat} (h : ∀ x, dp (f x) ≤ n) (l : List α) : dpL (l.map f) ≤ n := dpL_le fun d hd => by obtain ⟨x, _, rfl⟩ := List.mem_map.mp hd; exact h x
theorem dp_party (p : List Stay) : dp (partyD p) ≤ 4 := by
  have : dpL (p.map stayD) ≤ 3 := dpL_le fun d hd => by obtain ⟨s, _, rfl⟩ := List.mem_map.mp hd; simp [stayD, dp, dpL]
  simp only [partyD, dp]; omega
theorem dp_rowB (r : Row) : dp (rowB r) ≤ 6 := by
  cases r with
  | sold n p a b => have := dp_party p; simp only [rowB, dp, dpL]; omega
  | cancelled n a b => simp [rowB, dp, dpL]
  | changed n p a b c d => have := dp_party p; simp only [rowB, dp, dpL]; omega
theorem dp_deed (d : Deed) : dp (deedD d) ≤ 5 := by
  cases d with
  | wish p => have := dp_party p; simp only [deedD, dp, dpL]; omega
  | cancel k => simp [deedD, dp, dpL]
  | change k p => have := dp_party p; simp only [deedD, dp, dpL]; omega
theorem dp_wt (e : Int × Deed) : dp (wtD e) ≤ 6 := by have := dp_deed e.2; simp only [wtD, dp, dpL]; omega
theorem dp_tell (e : Int × Bool) : dp (tellD e) ≤ 1 := by simp [tellD, dp, dpL]
theorem dp_cells (l : List Cell) : dp (cellsD l) ≤ 2 := by
  have : dpL (l.map cellD) ≤ 1 := dpL_le fun d hd => by obtain ⟨s, _, rfl⟩ := List.mem_map.mp hd; simp [cellD, dp, dpL]
  simp only [cellsD, dp]; omega
theorem dp_ints (r : List Int) : dp (rowD r) ≤ 1 := by
  have : dpL (r.map PyData.int) ≤ 0 := dpL_le fun d hd => by obtain ⟨s, _, rfl⟩ := List.mem_map.mp hd; simp [dp]
  simp only [rowD, dp]; omega
theorem dp_lack (l : Lack) : dpL (l.map fun e => (PyData.tuple [cellD e.1, .int e.2])) ≤ 2 := dpL_le fun d hd => by
  obtain ⟨e, _, rfl⟩ := List.mem_map.mp hd
  simp [cellD, dp, dpL]
theorem dp_up (b : UpB) : dp (upD b) ≤ 7 := by
  cases b with
  | ask n l => have := dp_lack l; simp only [upD, lackD, dp, dpL]; omega
  | closed cs => have := dp_ints cs; simp only [upD, dp, dpL]; omega
  | back c => simp [upD, dp, dpL]
  | entry r => have := dp_rowB r; simp only [upD, dp, dpL]; omega
theorem depth_party (p : List Stay) : (partyD p).depth ≤ 2 := (lay_party p).2
theorem rows_vo {S : Setup} {M : SM} {b : Nat} (mo : M.Ok S) (sz : M.Sz b) (hb : b ≤ 200000) : RowsOk (voD M.vo) := by
  have key : ∀ e ∈ voD M.vo, ∃ p, e.2 = partyD p := fun e he => by obtain ⟨x, _, rfl⟩ := List.mem_map.mp he; exact ⟨_, rfl⟩
  refine ⟨?_, fun e he => ?_, fun e he => ?_, fun e he => ?_, fun e he => ?_, ?_⟩
  · have h : (M.vo.map (·.1)).Nodup := mo.vn
    show ((M.vo.map fun e => (e.1, partyD e.2)).map (·.1)).Nodup
    rw [List.map_map]; exact h
  · obtain ⟨p, q⟩ := key e he; rw [q]; exact imm_party p
  · obtain ⟨p, q⟩ := key e he; rw [q]; exact alike_party p p
  · obtain ⟨p, q⟩ := key e he; rw [q]; have := depth_party p; omega
  · obtain ⟨p, q⟩ := key e he; rw [q]; have := dp_party p; omega
  · unfold voD; rw [List.length_map]; have := sz.vo; omega
theorem rows_ask {S : Setup} {M : SM} {b : Nat} (mo : M.Ok S) (sz : M.Sz b) (hb : b ≤ 200000) : RowsOk (askT M.ask) := by
  have key : ∀ e ∈ askT M.ask, ∃ p, e.2 = deedD p := fun e he => by obtain ⟨x, _, rfl⟩ := List.mem_map.mp he; exact ⟨_, rfl⟩
  refine ⟨?_, fun e he => ?_, fun e he => ?_, fun e he => ?_, fun e he => ?_, ?_⟩
  · have h : (M.ask.map (·.1)).Nodup := mo.an
    show ((M.ask.map fun e => (e.1, deedD e.2)).map (·.1)).Nodup
    rw [List.map_map]; exact h
  · obtain ⟨p, q⟩ := key e he; rw [q]; exact imm_deed p
  · obtain ⟨p, q⟩ := key e he; rw [q]
    cases p with
    | wish p => simp [deedD, PySem.W.alike, PySem.W.alikeAll, alike_party]
    | cancel k => simp [deedD, PySem.W.alike, PySem.W.alikeAll]
    | change k p => simp [deedD, PySem.W.alike, PySem.W.alikeAll, alike_party]
  · obtain ⟨p, q⟩ := key e he; rw [q]
    cases p with
    | wish p => have := depth_party p; simp only [deedD, PyData.depth, PyData.depthAll]; omega
    | cancel k => simp [deedD, PyData.depth, PyData.depthAll]
    | change k p => have := depth_party p; simp only [deedD, PyData.depth, PyData.depthAll]; omega
  · obtain ⟨p, q⟩ := key e he; rw [q]; have := dp_deed p; omega
  · unfold askT; rw [List.length_map]; have := sz.ask; omega
def P_Lsame_seller (K : PySem.W.Frag) (A : Ad) (x0 x1 x2 : V) (H : Hp) (Q : VK) : Prop := ∃ (s t : SP) (S : Setup) (num : Int) (M : SM), Da H x0 (setupD S) ∧ x1 = .ref s.p ∧ x2 = .ref t.p ∧ SellerAt A H s S num M ∧ LAt H t S M ∧ (∀ a ∈ s.os, a ∉ t.os) ∧ SetupOk S ∧ M.Ok S ∧ M.Sz 50000 ∧ ∀ H', Fr [] H H' → Q (.bl true) H'
def sp_Lsame_seller (K : PySem.W.Frag) (A : Ad) : Sp := fun vs H Q _ => ∃ x0 x1 x2, vs = [x0, x1, x2] ∧ P_Lsame_seller K A x0 x1 x2 H Q
theorem c_Lsame_seller {K : PySem.W.Frag} {A : Ad} {x0 x1 x2 : V} {H : Hp} {Q : VK} {E : XK} (h : P_Lsame_seller K A x0 x1 x2 H Q) : sp_Lsame_seller K A [x0, x1, x2] H Q E := ⟨_, _, _, rfl, h⟩
theorem sc_Lsame_seller : FnScope ["_law_setup_here", "_law_seller_here", "_law_model"] ["_law_setup_here", "_law_seller_here", "_law_model"] (defScope s_Lsame_seller) := ⟨rfl, rfl, rfl, by decide +kernel, rfl, by decide +kernel, by decide +kernel⟩
def t_Lsame_seller (K : PySem.W.Frag) (A : Ad) : TS :=
  (tSeq (tIfS (tOr (tNot (tB (tCl (sp_Lsame_free K A) (tCons (tVar 0) (tCons (tFld K (tVar 1) "free") (tCons (tDGet (tVar 2) (tC (.str "free"))) tNil)))))) (tNot (tB (tCl (sp_Lsame_rows K A) (tCons (tFld K (tVar 1) "vouchers") (tCons (tDGet (tVar 2) (tC (.str "vouchers"))) tNil)))))) (tRet (tC (.bl false))) tNext)
    (tSeq (tIfS (tNot (tB (tCl (sp_Lequal K A 12) (tCons (tLst (tCons (tCB (rListOf K) (tCons (tFld K (tVar 1) "book") tNil)) (tCons (tCB (rListOf K) (tCons (tFld K (tVar 1) "waiting") tNil)) tNil))) (tCons (tLst (tCons (tDGet (tVar 2) (tC (.str "book"))) (tCons (tDGet (tVar 2) (tC (.str "waiting"))) tNil))) tNil))))) (tRet (tC (.bl false))) tNext)
    (tRet (tAndV (tCl (sp_Lequal K A 12) (tCons (tFld K (tVar 1) "closing") (tCons (tDGet (tVar 2) (tC (.str "closing"))) tNil))) (tCl (sp_Lsame_rows K A) (tCons (tFld K (tVar 1) "asked") (tCons (tDGet (tVar 2) (tC (.str "asks"))) tNil)))))))
theorem pu_Lsame_seller (T : Txt K mg A) {x0 x1 x2 : V} {H : Hp} {Q : VK} (h : P_Lsame_seller K A x0 x1 x2 H Q) : t_Lsame_seller K A { nx := fun _ H' => Q .non H', rt := Q } [some x0, some x1, some x2] H := by
  obtain ⟨s, t, S, num, M, dS, rfl, rfl, x, y, ap, so, mo, sz, k⟩ := h
  obtain ⟨dx, sv, clv, e, _, c⟩ := x.parts
  obtain ⟨clw, e2, c2⟩ := y.parts
  have nvo : s.vo ≠ t.vo := fun z => ap s.vo s.m_vo (by rw [z]; exact t.m_vo)
  have nak : s.ask ≠ t.ask := fun z => ap s.ask s.m_ask (by rw [z]; exact t.m_ask)
  have hbk := sz.bk
  unfold t_Lsame_seller
  walk_at "go"
  refine c_Lsame_free ⟨s.fr, t.fr, S, M.fr, rfl, c.fr, rfl, c2.fr, dS, so, fun H1 f1 => ?_⟩
  have e1 := f1.at0 e
  have e21 := f1.at0 e2
  have c1 := c.frm f1 fun _ _ => nin0
  have c21 := c2.frm f1 fun _ _ => nin0
  walk_at "go"
  refine c_Lsame_rows ⟨s.vo, t.vo, voD M.vo, rfl, rfl, nvo, c1.vo, c21.vo, rows_vo mo sz (by decide), fun H2 f2 => ?_⟩
  have e12 := f2.at0 e1
  have e22 := f2.at0 e21
  obtain ⟨ib, bs, eb, db⟩ := c1.bk.fr f2 nin0
  obtain ⟨iw, ws, ew, dw⟩ := c1.wt.fr f2 nin0
  have hbl : bs.length ≤ 100000 := by rw [db.len, List.length_map]; omega
  have hwl : ws.length ≤ 100000 := by rw [dw.len, List.length_map]; omega
  walk_at "go"
  rename_i t1 H3 n3 f3 e3 t2 H4 n4 f4 e4 t5 H5 n5 f5 e5 t6 H6 n6 f6 e6
  have F3 : Fr [] H2 H6 := (((f3.then0 f4).then0 f5).then0 f6)
  have c26 := c21.frm (f2.then0 F3) fun _ _ => nin0
  have c16 := c1.frm (f2.then0 F3) fun _ _ => nin0
  have d1 : Da H6 (.ref t5) (.list [.list (M.bk.map rowB), .list (M.wt.map wtD)]) :=
    .lst (f6.at0 e5) (Nat.le_of_ble_eq_true rfl) (.cons (.lst (((f4.then0 f5).then0 f6).at0 e3) (by omega) (DaL.frL F3 db ib)) (.one' (.lst ((f5.then0 f6).at0 e4) (by omega) (DaL.frL F3 dw iw))))
  have d2 : Da H6 (.ref t6) (.list [.list (M.bk.map rowB), .list (M.wt.map wtD)]) :=
    .lst e6 (Nat.le_of_ble_eq_true rfl) (.cons (c26.bk.da (by rw [List.length_map]; omega)) (.one' (c26.wt.da (by rw [List.length_map]; omega))))
  have hdp : dp (.list [.list (M.bk.map rowB), .list (M.wt.map wtD)]) ≤ 12 := by
    have h1 := dpL_map dp_rowB M.bk
    have h2 := dpL_map dp_wt M.wt
    simp only [dp, dpL]; omega
  refine c_Lequal ⟨_, d1, d2, hdp, ?_⟩
  have e16 := F3.at0 e12
  have e26 := F3.at0 e22
  clear e3 e4 e5 e6 d1 d2
  walk_at "go"
  refine c_Lequal ⟨closD M.cl, c16.clv, c26.clv, ?_, ?_⟩
  · cases M.cl with
    | none => simp [closD, dp]
    | some l => have := dp_cells l; show dp (cellsD l) ≤ 12; omega
  walk_at "go"
  refine c_Lsame_rows ⟨s.ask, t.ask, askT M.ask, rfl, rfl, nak, c16.ask, c26.ask, rows_ask mo sz (by decide), fun H7 f7 => ?_⟩
  exact k H7 (((f1.then0 f2).then0 F3).then0 f7)
theorem ok_Lsame_seller {f : Addr} {fd : FuncData} (F : Fun K "_law_same_seller" "_law_same_seller" s_Lsame_seller f fd) (T : Txt K mg A) (c_Lequal : Cal P w K mg base "_law_equal" 25 ["_law_actual", "_law_due"] (sp_Lequal K A 12)) (c_Lsame_rows : Cal P w K mg base "_law_same_rows" 26 ["_law_told", "_law_due"] (sp_Lsame_rows K A)) (c_Lsame_free : Cal P w K mg base "_law_same_free" 26 ["_law_setup_here", "_law_told", "_law_free"] (sp_Lsame_free K A)) : FnOk P w K mg base CX0 (27) f fd ["_law_setup_here", "_law_seller_here", "_law_model"] (sp_Lsame_seller K A) := by
  refine F.ok sc_Lsame_seller (fun vs H Q E h => ?_) (fun cdv Ar outer s H vs Q E hr h => ⟨t_Lsame_seller K A, ?_, ?_⟩)
  · obtain ⟨x0, x1, x2, rfl, _⟩ := h
    rfl
  · have hu := hu_of hr
    exact (pss_cons (ps_if (PW.pt (pw_or (pt_not (pt_val (pe_cl c_Lsame_free (hr.mono (by first | decide | omega)) (by rfl) (pa_cons (pv 0) (pa_cons (pe_fld (pv 1) rfl) (pa_cons (pe_dget hu (pv 2) pe_str (fun _ _ => rfl)) pa_nil)))))) (pw_or1 (pt_not (pt_val (pe_cl c_Lsame_rows (hr.mono (by first | decide | omega)) (by rfl) (pa_cons (pe_fld (pv 1) rfl) (pa_cons (pe_dget hu (pv 2) pe_str (fun _ _ => rfl)) pa_nil)))))))) (pss_one (ps_ret pe_bl)) pss_nil)
    (pss_cons (ps_if (pt_not (pt_val (pe_cl c_Lequal (hr.mono (by first | decide | omega)) (by rfl) (pa_cons (pe_lst (pa_cons (pe_callTy b_list (by rfl) T.b_list (by decide +kernel) (pa_cons (pe_fld (pv 1) rfl) pa_nil)) (pa_cons (pe_callTy b_list (by rfl) T.b_list (by decide +kernel) (pa_cons (pe_fld (pv 1) rfl) pa_nil)) pa_nil))) (pa_cons (pe_lst (pa_cons (pe_dget hu (pv 2) pe_str (fun _ _ => rfl)) (pa_cons (pe_dget hu (pv 2) pe_str (fun _ _ => rfl)) pa_nil))) pa_nil))))) (pss_one (ps_ret pe_bl)) pss_nil)
    (pss_one (ps_ret (pe_and (pe_cl c_Lequal (hr.mono (by first | decide | omega)) (by rfl) (pa_cons (pe_fld (pv 1) rfl) (pa_cons (pe_dget hu (pv 2) pe_str (fun _ _ => rfl)) pa_nil))) (pe_one (pe_cl c_Lsame_rows (hr.mono (by first | decide | omega)) (by rfl) (pa_cons (pe_fld (pv 1) rfl) (pa_cons (pe_dget hu (pv 2) pe_str (fun _ _ => rfl)) pa_nil)))))))))
  · obtain ⟨x0, x1, x2, rfl, h⟩ := h
    exact pu_Lsame_seller T h

def SM.said (pick : Int) (M : SM) : SM := if pick = 0 then { M with out := [] } else if pick = 1 then { M with told := [] } else { M with out := [], told := [] }
theorem said_ok {S : Setup} {M : SM} {pick : Int} (m : M.Ok S) : (M.said pick).Ok S := by
  unfold SM.said
  split
  · exact ⟨m.vk, m.vn, m.ak, m.an, m.ac, m.wk, m.ck⟩
  · split
    · exact ⟨m.vk, m.vn, m.ak, m.an, m.ac, m.wk, m.ck⟩
    · exact ⟨m.vk, m.vn, m.ak, m.an, m.ac, m.wk, m.ck⟩
theorem said_sz {b : Nat} {M : SM} {pick : Int} (s : M.Sz b) : (M.said pick).Sz b := by
  have h0 : M.wt.length ≤ b := by have := s.bk; omega
  unfold SM.said
  split
  · exact ⟨s.bk, by show 0 + M.wt.length ≤ b; omega, s.told, s.vo, s.ask⟩
  · split
    · exact ⟨s.bk, s.out, by show 0 + M.wt.length ≤ b; omega, s.vo, s.ask⟩
    · exact ⟨s.bk, by show 0 + M.wt.length ≤ b; omega, by show 0 + M.wt.length ≤ b; omega, s.vo, s.ask⟩
theorem os_out {s : SP} {o : Addr} : ∀ a ∈ SP.os { s with out := o }, a ∈ s.os ∨ a = o := fun a ha => by
  have ha' : a = s.p ∨ a = s.fr ∨ a = s.vo ∨ a = s.bk ∨ a = s.ask ∨ a = s.wt ∨ a = o ∨ a = s.told := by simpa [SP.os] using ha
  rcases ha' with z | z | z | z | z | z | z | z
  · exact .inl (by rw [z]; exact s.m_p)
  · exact .inl (by rw [z]; exact s.m_fr)
  · exact .inl (by rw [z]; exact s.m_vo)
  · exact .inl (by rw [z]; exact s.m_bk)
  · exact .inl (by rw [z]; exact s.m_ask)
  · exact .inl (by rw [z]; exact s.m_wt)
  · exact .inr z
  · exact .inl (by rw [z]; exact s.m_told)
theorem os_told {s : SP} {o : Addr} : ∀ a ∈ SP.os { s with told := o }, a ∈ s.os ∨ a = o := fun a ha => by
  have ha' : a = s.p ∨ a = s.fr ∨ a = s.vo ∨ a = s.bk ∨ a = s.ask ∨ a = s.wt ∨ a = s.out ∨ a = o := by simpa [SP.os] using ha
  rcases ha' with z | z | z | z | z | z | z | z
  · exact .inl (by rw [z]; exact s.m_p)
  · exact .inl (by rw [z]; exact s.m_fr)
  · exact .inl (by rw [z]; exact s.m_vo)
  · exact .inl (by rw [z]; exact s.m_bk)
  · exact .inl (by rw [z]; exact s.m_ask)
  · exact .inl (by rw [z]; exact s.m_wt)
  · exact .inl (by rw [z]; exact s.m_out)
  · exact .inr z
def P_Lsame_out (K : PySem.W.Frag) (A : Ad) (x0 x1 x2 : V) (H : Hp) (Q : VK) : Prop := ∃ (s t : SP) (S : Setup) (num : Int) (M : SM) (rest : List Addr) (pick : Int), x0 = .ref s.p ∧ x1 = .ref t.p ∧ x2 = .int pick ∧ SellerAt A H s S num M ∧ LAt H t S M ∧ AL H (s.os ++ (t.os ++ rest)) ∧ M.Sz 50000 ∧
  ∀ (s' : SP) (H' : Hp), s'.p = s.p → Fr (s.os ++ t.os) H H' → AL H' (s'.os ++ (t.os ++ rest)) → SellerAt A H' s' S num (M.said pick) → LAt H' t S (M.said pick) → Q (.bl true) H'
def sp_Lsame_out (K : PySem.W.Frag) (A : Ad) : Sp := fun vs H Q _ => ∃ x0 x1 x2, vs = [x0, x1, x2] ∧ P_Lsame_out K A x0 x1 x2 H Q
theorem c_Lsame_out {K : PySem.W.Frag} {A : Ad} {x0 x1 x2 : V} {H : Hp} {Q : VK} {E : XK} (h : P_Lsame_out K A x0 x1 x2 H Q) : sp_Lsame_out K A [x0, x1, x2] H Q E := ⟨_, _, _, rfl, h⟩
theorem sc_Lsame_out : FnScope ["_law_seller_here", "_law_model", "_law_pick", "_law_due", "_law_told"] ["_law_seller_here", "_law_model", "_law_pick"] (defScope s_Lsame_out) := ⟨rfl, rfl, rfl, by decide +kernel, rfl, by decide +kernel, by decide +kernel⟩
def t_Lsame_out (K : PySem.W.Frag) (A : Ad) : TS :=
  (tSeq (tAsg (tLst (tCons (tCB (rListOf K) (tCons (tDGet (tVar 1) (tC (.str "out"))) tNil)) (tCons (tCB (rListOf K) (tCons (tDGet (tVar 1) (tC (.str "told"))) tNil)) tNil))) (gName 3))
    (tSeq (tIfS (tTest (tOp rEq (tVar 2) (tC (.int 0)))) (tSeq (tDrop (tBM0 K "list" rClear (tDGet (tVar 1) (tC (.str "out")))))
    (tRet (tCl (sp_Lequal K A 12) (tCons (tMt A.Seller "bodies" (sp_Seller_bodies K A) (tVar 0) tNil) (tCons (tOp (rIxL K) (tVar 3) (tC (.int 0))) tNil))))) tNext)
    (tSeq (tDrop (tBM0 K "list" rClear (tDGet (tVar 1) (tC (.str "told")))))
    (tSeq (tIfS (tTest (tOp rEq (tVar 2) (tC (.int 1)))) (tRet (tCl (sp_Lequal K A 12) (tCons (tMt A.Seller "answers" (sp_Seller_answers K A) (tVar 0) tNil) (tCons (tOp (rIxL K) (tVar 3) (tC (.int 1))) tNil)))) tNext)
    (tSeq (tDrop (tBM0 K "list" rClear (tDGet (tVar 1) (tC (.str "out")))))
    (tSeq (tAsg (tMt A.Seller "answers" (sp_Seller_answers K A) (tVar 0) tNil) (gName 4))
    (tRet (tCl (sp_Lequal K A 12) (tCons (tLst (tCons (tMt A.Seller "bodies" (sp_Seller_bodies K A) (tVar 0) tNil) (tCons (tVar 4) tNil))) (tCons (tVar 3) tNil))))))))))
theorem pu_Lsame_out (T : Txt K mg A) {x0 x1 x2 : V} {H : Hp} {Q : VK} (h : P_Lsame_out K A x0 x1 x2 H Q) : t_Lsame_out K A { nx := fun _ H' => Q .non H', rt := Q } [some x0, some x1, some x2, none, none] H := by
  obtain ⟨s, t, S, num, M, rest, pick, rfl, rfl, rfl, x, y, al, sz, k⟩ := h
  obtain ⟨clw, e2, c2⟩ := y.parts
  have ndt := y.nd
  obtain ⟨io, os, eo, dox⟩ := id c2.out
  obtain ⟨it, ts, et, dtx⟩ := id c2.told
  have hol : os.length ≤ 60000 := by rw [dox.len, List.length_map]; have := sz.out; omega
  have htl : ts.length ≤ 60000 := by rw [dtx.len, List.length_map]; have := sz.told; omega
  have hml : M.out.length ≤ 50000 := by have := sz.out; omega
  have hmt : M.told.length ≤ 50000 := by have := sz.told; omega
  have apart : ∀ a ∈ s.os, a ∉ t.os := fun a ha hg => (List.nodup_append.mp al.1).2.2 a ha a (List.mem_append_left _ hg) rfl
  have d1 : dp (.list (M.out.map upD)) ≤ 12 := by have := dpL_map dp_up M.out; simp only [dp]; omega
  have d2 : dp (.list (M.told.map tellD)) ≤ 12 := by have := dpL_map dp_tell M.told; simp only [dp]; omega
  have d3 : dp (.list [.list (M.out.map upD), .list (M.told.map tellD)]) ≤ 12 := by
    have h1 := dpL_map dp_up M.out
    have h2 := dpL_map dp_tell M.told
    simp only [dp, dpL]; omega
  unfold t_Lsame_out
  walk_at "go"
  rename_i q1 H1 n1 f1 e1 q2 H2 n2 f2 e3 dq H3 n3 f3 e4
  have F3 : Fr [] H H3 := (f1.then0 f2).then0 f3
  have x3 := x.f0 F3
  have y3 := y.f0 F3
  have al3 := al.fr0 F3
  have dox3 := DaL.frL F3 dox io
  have dtx3 := DaL.frL F3 dtx it
  have eo3 := F3.at0 eo
  have et3 := F3.at0 et
  have eq1 := (f2.then0 f3).at0 e1
  have eq2 := f3.at0 e3
  have nin1' : q1 ∉ s.os ++ (t.os ++ rest) := al.nin n1
  have nin2' : q2 ∉ s.os ++ (t.os ++ rest) := al.nin (f1.free n2)
  have ninq : dq ∉ s.os ++ (t.os ++ rest) := al.nin ((f1.then0 f2).free n3)
  have oft : ∀ {a : Addr}, a ∈ t.os → a ∈ s.os ++ (t.os ++ rest) := fun h => List.mem_append_right _ (List.mem_append_left _ h)
  have ofs : ∀ {a : Addr}, a ∈ s.os → a ∈ s.os ++ (t.os ++ rest) := fun h => List.mem_append_left _ h
  have ne1 : ∀ {a : Addr}, a ∈ s.os ++ (t.os ++ rest) → q1 ≠ a := fun h z => nin1' (by rw [z]; exact h)
  have ne2 : ∀ {a : Addr}, a ∈ s.os ++ (t.os ++ rest) → q2 ≠ a := fun h z => nin2' (by rw [z]; exact h)
  have neq : ∀ {a : Addr}, a ∈ s.os ++ (t.os ++ rest) → dq ≠ a := fun h z => ninq (by rw [z]; exact h)
  obtain ⟨clw3, e23, c23⟩ := y3.parts
  clear e1 e3 e2 c2 n1 n2 n3 nin1' nin2' ninq
  refine g_ite (fun hp => ?_) (fun hp => ?_)
  · walk_at "go"
    refine g_clear eo3 fun H4 f4 e5 => ?_
    have x4 := x3.frm f4 fun a ha => nin1 (fun z => apart a ha (by rw [z]; exact t.m_out)) nin0
    have y4 : LAt H4 t S { M with out := [] } := y3.w_out (v := []) f4 (LsAt.nil e5)
    have al4 := al_put al3 f4 e5
    have ed4 := f4.at e4 (nin1 (neq (oft t.m_out)) nin0)
    have e14 := f4.at eq1 (nin1 (ne1 (oft t.m_out)) nin0)
    obtain ⟨dx, sv, clv, es4, _, c4⟩ := x4.parts
    walk_at "go"
    refine c_Seller_bodies ⟨s, S, num, M, rfl, x4, fun o H5 n5 f5 x5 lo5 => ?_⟩
    have ed5 := f5.at ed4 (nin1 (neq (ofs s.m_p)) nin0)
    walk_at "go"
    refine c_Lequal ⟨_, lo5.da (by rw [List.length_map]; omega), .lst (f5.at e14 (nin1 (ne1 (ofs s.m_p)) nin0)) (by omega) (DaL.frL (f5.in1 (List.mem_singleton.mpr rfl)) (DaL.frL f4 dox3 io) io), d1, ?_⟩
    have hsd : M.said pick = { M with out := [] } := if_pos hp
    have al5 := al4.part (os' := SP.os { s with out := o }) (f5.in1 s.m_p) x5.2 fun a ha => (os_out a ha).imp id fun z => by rw [z]; exact n5
    refine k { s with out := o } H5 rfl (((Fr.of0 F3).transL (f4.in1 (List.mem_append_right _ t.m_out))).transL (f5.in1 (List.mem_append_left _ s.m_p))) al5 (by rw [hsd]; exact x5) (by rw [hsd]; exact y4.frm f5 fun a ha => nin1 (fun z => apart s.p s.m_p (by rw [← z]; exact ha)) nin0)
  · walk_at "go"
    refine g_clear et3 fun H4 f4 e5 => ?_
    have x4 := x3.frm f4 fun a ha => nin1 (fun z => apart a ha (by rw [z]; exact t.m_told)) nin0
    have y4 : LAt H4 t S { M with told := [] } := y3.w_told (v := []) f4 (LsAt.nil e5)
    have al4 := al_put al3 f4 e5
    have ed4 := f4.at e4 (nin1 (neq (oft t.m_told)) nin0)
    have e14 := f4.at eq1 (nin1 (ne1 (oft t.m_told)) nin0)
    have e24 := f4.at eq2 (nin1 (ne2 (oft t.m_told)) nin0)
    obtain ⟨dx, sv, clv, es4, _, c4⟩ := x4.parts
    obtain ⟨clw4, et4, c4t⟩ := y4.parts
    have eo4 := f4.at eo3 (nin1 ndt.out_told nin0)
    have apo : ∀ a ∈ SP.os s, a ≠ t.out := fun a ha z => apart a ha (by rw [z]; exact t.m_out)
    walk_at "go"
    refine g_ite (fun hq => ?_) (fun hq => ?_)
    · walk_at "go"
      refine c_Seller_answers ⟨s, S, num, M, rfl, x4, fun o H5 n5 f5 x5 lo5 => ?_⟩
      have ed5 := f5.at ed4 (nin1 (neq (ofs s.m_p)) nin0)
      walk_at "go"
      refine c_Lequal ⟨_, lo5.da (by rw [List.length_map]; omega), .lst (f5.at e24 (nin1 (ne2 (ofs s.m_p)) nin0)) (by omega) (DaL.frL (f5.in1 (List.mem_singleton.mpr rfl)) (DaL.frL f4 dtx3 it) it), d2, ?_⟩
      have hsd : M.said pick = { M with told := [] } := (if_neg hp).trans (if_pos hq)
      have al5 := al4.part (os' := SP.os { s with told := o }) (f5.in1 s.m_p) x5.2 fun a ha => (os_told a ha).imp id fun z => by rw [z]; exact n5
      refine k { s with told := o } H5 rfl (((Fr.of0 F3).transL (f4.in1 (List.mem_append_right _ t.m_told))).transL (f5.in1 (List.mem_append_left _ s.m_p))) al5 (by rw [hsd]; exact x5) (by rw [hsd]; exact y4.frm f5 fun a ha => nin1 (fun z => apart s.p s.m_p (by rw [← z]; exact ha)) nin0)
    · walk_at "go"
      refine g_clear eo4 fun H5 f5 e6 => ?_
      have x5 := x4.frm f5 fun a ha => nin1 (apo a ha) nin0
      have y5 : LAt H5 t S { M with out := [], told := [] } := y4.w_out (v := []) f5 (LsAt.nil e6)
      have al5 := al_put al4 f5 e6
      have ed5 := f5.at ed4 (nin1 (neq (oft t.m_out)) nin0)
      have e15 := f5.at e14 (nin1 (ne1 (oft t.m_out)) nin0)
      have e25 := f5.at e24 (nin1 (ne2 (oft t.m_out)) nin0)
      obtain ⟨dx5, sv5, clv5, es5, _, c5⟩ := x5.parts
      walk_at "go"
      refine c_Seller_answers ⟨s, S, num, M, rfl, x5, fun o H6 n6 f6 x6 lo6 => ?_⟩
      have al6 := al5.part (os' := SP.os { s with told := o }) (f6.in1 s.m_p) x6.2 fun a ha => (os_told a ha).imp id fun z => by rw [z]; exact n6
      obtain ⟨dx6, sv6, clv6, es6, _, c6⟩ := x6.parts
      walk_at "go"
      refine c_Seller_bodies ⟨{ s with told := o }, S, num, { M with told := [] }, rfl, x6, fun o2 H7 n7 f7 x7 lo7 => ?_⟩
      have al7 := al6.part (os' := SP.os { s with told := o, out := o2 }) (f7.in1 (SP.m_p { s with told := o })) x7.2 fun a ha => (os_out (s := { s with told := o }) a ha).imp id fun z => by rw [z]; exact n7
      walk_at "go"
      rename_i L H8 n8 f8 e8
      have ix : immL (M.out.map upD) = true := immL_map imm_up _
      have lo67 : LsAt H7 s.told (M.told.map tellD) := lo6.fr f7 (nin1 x.nd.p_told.symm nin0)
      have F57 : Fr [s.p] H5 H7 := f6.transL f7
      have i1 : Da H8 (.ref L) (.list [.list (M.out.map upD), .list (M.told.map tellD)]) := .lst e8 (Nat.le_of_ble_eq_true rfl) (.cons ((lo7.fr f8 nin0).da (by rw [List.length_map]; show M.out.length ≤ _; omega)) (.one' ((lo67.fr f8 nin0).da (by rw [List.length_map]; omega))))
      have i2 : Da H8 (.ref dq) (.list [.list (M.out.map upD), .list (M.told.map tellD)]) := by
        have g1 := F57.then0 f8
        refine .lst (g1.at ed5 (nin1 (neq (ofs s.m_p)) nin0)) (Nat.le_of_ble_eq_true rfl) (.cons (.lst (g1.at e15 (nin1 (ne1 (ofs s.m_p)) nin0)) (by omega) (DaL.frL (f4.trans (f5.trans g1)) dox3 io)) (.one' (.lst (g1.at e25 (nin1 (ne2 (ofs s.m_p)) nin0)) (by omega) (DaL.frL (f4.trans (f5.trans g1)) dtx3 it))))
      refine c_Lequal ⟨_, i1, i2, d3, ?_⟩
      have hsd : M.said pick = { M with out := [], told := [] } := (if_neg hp).trans (if_neg hq)
      have G5 : Fr (s.os ++ t.os) H H5 := ((Fr.of0 F3).transL (f4.in1 (List.mem_append_right _ t.m_told))).transL (f5.in1 (List.mem_append_right _ t.m_out))
      refine k { s with told := o, out := o2 } H8 rfl ((G5.transL (F57.in1 (List.mem_append_left _ s.m_p))).then0 f8) (al7.fr0 f8) (by rw [hsd]; exact x7.f0 f8) (by rw [hsd]; exact (y5.frm F57 fun a ha => nin1 (fun z => apart s.p s.m_p (by rw [← z]; exact ha)) nin0).f0 f8)
theorem ok_Lsame_out {f : Addr} {fd : FuncData} (F : Fun K "_law_same_out" "_law_same_out" s_Lsame_out f fd) (T : Txt K mg A) (c_Seller_answers : CalM P w K mg base A.Seller "answers" 1 ["self"] (sp_Seller_answers K A)) (c_Lequal : Cal P w K mg base "_law_equal" 25 ["_law_actual", "_law_due"] (sp_Lequal K A 12)) (c_Seller_bodies : CalM P w K mg base A.Seller "bodies" 1 ["self"] (sp_Seller_bodies K A)) : FnOk P w K mg base CX0 (26) f fd ["_law_seller_here", "_law_model", "_law_pick"] (sp_Lsame_out K A) := by
  refine F.ok sc_Lsame_out (fun vs H Q E h => ?_) (fun cdv Ar outer s H vs Q E hr h => ⟨t_Lsame_out K A, ?_, ?_⟩)
  · obtain ⟨x0, x1, x2, rfl, _⟩ := h
    rfl
  · have hu := hu_of hr
    exact (pss_cons (ps_set (i := 3) sc_Lsame_out.nd rfl (Or.inl rfl) (pe_lst (pa_cons (pe_callTy b_list (by rfl) T.b_list (by decide +kernel) (pa_cons (pe_dget hu (pv 1) pe_str (fun _ _ => rfl)) pa_nil)) (pa_cons (pe_callTy b_list (by rfl) T.b_list (by decide +kernel) (pa_cons (pe_dget hu (pv 1) pe_str (fun _ _ => rfl)) pa_nil)) pa_nil))))
    (pss_cons (ps_if (pt_cmpR op_eq (pv 2) pe_int (nomark _)) (pss_cons (ps_expr (pe_bm0 PySem.F.plainAttrs_list PySem.F.slot_list_clear PySem.F.type_list_clear mt_clear (pe_dget hu (pv 1) pe_str (fun _ _ => rfl))))
    (pss_one (ps_ret (pe_cl c_Lequal (hr.mono (by first | decide | omega)) (by rfl) (pa_cons (pe_mt0 (pv 0) T.cl_Seller c_Seller_bodies (hr.mono (by first | decide | omega))) (pa_cons (pe_ix ix_list (pv 3) pe_int (fun _ _ => rfl)) pa_nil)))))) pss_nil)
    (pss_cons (ps_expr (pe_bm0 PySem.F.plainAttrs_list PySem.F.slot_list_clear PySem.F.type_list_clear mt_clear (pe_dget hu (pv 1) pe_str (fun _ _ => rfl))))
    (pss_cons (ps_if (pt_cmpR op_eq (pv 2) pe_int (nomark _)) (pss_one (ps_ret (pe_cl c_Lequal (hr.mono (by first | decide | omega)) (by rfl) (pa_cons (pe_mt0 (pv 0) T.cl_Seller c_Seller_answers (hr.mono (by first | decide | omega))) (pa_cons (pe_ix ix_list (pv 3) pe_int (fun _ _ => rfl)) pa_nil))))) pss_nil)
    (pss_cons (ps_expr (pe_bm0 PySem.F.plainAttrs_list PySem.F.slot_list_clear PySem.F.type_list_clear mt_clear (pe_dget hu (pv 1) pe_str (fun _ _ => rfl))))
    (pss_cons (ps_set (i := 4) sc_Lsame_out.nd rfl (Or.inl rfl) (pe_mt0 (pv 0) T.cl_Seller c_Seller_answers (hr.mono (by first | decide | omega))))
    (pss_one (ps_ret (pe_cl c_Lequal (hr.mono (by first | decide | omega)) (by rfl) (pa_cons (pe_lst (pa_cons (pe_mt0 (pv 0) T.cl_Seller c_Seller_bodies (hr.mono (by first | decide | omega))) (pa_cons (pv 4) pa_nil))) (pa_cons (pv 3) pa_nil)))))))))))
  · obtain ⟨x0, x1, x2, rfl, h⟩ := h
    exact pu_Lsame_out T h

def lcells (M : SM) (d : Deed) : List Cell := scell ((lackU d.party (M.old d)).map (·.1))
theorem lcells_ok {S : Setup} (so : SetupOk S) {M : SM} {d : Deed} (hd : DeedOk S d) : (∀ c ∈ lcells M d, CellOk S c) ∧ (lcells M d).length ≤ 36 := by
  refine ⟨fun c hc => ?_, ?_⟩
  · obtain ⟨e, he, rfl⟩ := List.mem_map.mp ((scell_perm _).mem_iff.mp hc)
    exact lackU_ok so hd.party e he
  · unfold lcells
    rw [(scell_perm _).length_eq, List.length_map]; exact lackU_len so hd.party
theorem cells_shaped (cs : List Cell) : SeqAt.shaped (cellsD cs) = true := by
  have h1 := lay_cells cs
  have h2 : PyData.depthAll (cs.map cellD) ≤ 1 := by
    induction cs with
    | nil => simp [PyData.depthAll]
    | cons c cs ih =>
      have := ih (by simp [PyData.canLayAll0] at h1; exact h1.2)
      simp [PyData.depthAll, cellD, PyData.depth]; omega
  show (_ && _) = true
  rw [Bool.and_eq_true]
  refine ⟨by show PyData.canLay0 (.tuple _) = true; simp only [PyData.canLay0]; exact h1, decide_eq_true ?_⟩
  show (PyData.tuple _).depth ≤ _
  simp only [PyData.depth]; omega
def P_Lcells (K : PySem.W.Frag) (A : Ad) (x0 x1 : V) (H : Hp) (Q : VK) : Prop := ∃ (t : SP) (S : Setup) (M : SM) (n : Int) (d : Deed), x0 = .ref t.p ∧ LAt H t S M ∧ x1 = .int n ∧ lk M.ask n = some d ∧ SetupOk S ∧ M.Ok S ∧
  ∀ (v : V) (H' : Hp), Fr [] H H' → Da H' v (cellsD (lcells M d)) → Q v H'
def sp_Lcells (K : PySem.W.Frag) (A : Ad) : Sp := fun vs H Q _ => ∃ x0 x1, vs = [x0, x1] ∧ P_Lcells K A x0 x1 H Q
theorem c_Lcells {K : PySem.W.Frag} {A : Ad} {x0 x1 : V} {H : Hp} {Q : VK} {E : XK} (h : P_Lcells K A x0 x1 H Q) : sp_Lcells K A [x0, x1] H Q E := ⟨_, _, rfl, h⟩
theorem sc_Lcells : FnScope ["_law_model", "_law_number"] ["_law_model", "_law_number"] (defScope s_Lcells) := ⟨rfl, rfl, rfl, by decide +kernel, rfl, by decide +kernel, by decide +kernel⟩
def t_Lcells (K : PySem.W.Frag) (A : Ad) : TS :=
  (tRet (tCB (rTupOf K) (tCons (tCB rSortedDT (tCons (tCl (sp_Llack K A) (tCons (tVar 0) (tCons (tDGet (tDGet (tVar 0) (tC (.str "asks"))) (tVar 1)) tNil))) tNil)) tNil)))
theorem pu_Lcells (T : Txt K mg A) {x0 x1 : V} {H : Hp} {Q : VK} (h : P_Lcells K A x0 x1 H Q) : t_Lcells K A { nx := fun _ H' => Q .non H', rt := Q } [some x0, some x1] H := by
  obtain ⟨t, S, M, n, d, rfl, y, rfl, hl, so, mo, k⟩ := h
  obtain ⟨clw, e, c⟩ := y.parts
  obtain ⟨akv, eak, rak⟩ := c.ask
  rcases DkR.look rak n with ⟨h1, _⟩ | ⟨dv, d', h1, h2, h3⟩
  · rw [hl] at h1; cases h1
  rw [hl] at h1
  cases h1
  have hdk := mo.ak _ (lk_some hl)
  have hac := mo.ac _ (lk_some hl)
  have hcl := (lcells_ok so (M := M) hdk).2
  unfold t_Lcells
  walk_at "go"
  refine g_rdgI (.inl eak) h2 ?_
  walk_at "go"
  refine c_Llack ⟨t, S, M, d, rfl, y, h3, so, hdk, mo.old d, hac, fun p H1 n1 f1 e1 => ?_⟩
  walk_at "go"
  refine g_sortedDT (csN (lackU d.party (M.old d))) e1 (csN_keys _) (csN_alike _) (csN_sortable _) (csN_small _) fun sl H2 ys n2 f2 e2 dy => ?_
  have dz : DaL H2 ys ((lcells M d).map cellD) := by rw [csN_cells, ← scell_map] at dy; exact dy
  have hyl : ys.length ≤ 36 := by rw [dz.len, List.length_map]; exact hcl
  clear dy
  walk_at "go"
  rename_i q H3 n3 f3 e3
  exact k _ H3 ((f1.then0 f2).then0 f3) (.tup e3 (by omega) (DaL.frL f3 dz (immL_map imm_cell _)))
theorem ok_Lcells {f : Addr} {fd : FuncData} (F : Fun K "_law_cells" "_law_cells" s_Lcells f fd) (T : Txt K mg A) (c_Llack : Cal P w K mg base "_law_lack" 2 ["_law_model", "_law_deed_here"] (sp_Llack K A)) : FnOk P w K mg base CX0 (3) f fd ["_law_model", "_law_number"] (sp_Lcells K A) := by
  refine F.ok sc_Lcells (fun vs H Q E h => ?_) (fun cdv Ar outer s H vs Q E hr h => ⟨t_Lcells K A, ?_, ?_⟩)
  · obtain ⟨x0, x1, rfl, _⟩ := h
    rfl
  · have hu := hu_of hr
    exact (pss_one (ps_ret (pe_callTy b_tuple (by rfl) T.b_tuple (by decide +kernel) (pa_cons (pe_callB (b_sortedDT rfl hr.units) (by rfl) T.b_sorted (by decide +kernel) (pa_cons (pe_cl c_Llack (hr.mono (by first | decide | omega)) (by rfl) (pa_cons (pv 0) (pa_cons (pe_dget hu (pe_dget hu (pv 0) pe_str (fun _ _ => rfl)) (pv 1) (fun _ _ => rfl)) pa_nil))) pa_nil)) pa_nil))))
  · obtain ⟨x0, x1, rfl, h⟩ := h
    exact pu_Lcells T h
theorem ask_key {M : SM} {n : Int} (h : n ∈ (askT M.ask).map fun e : Int × PyData => e.1) : ∃ d, lk M.ask n = some d := by
  obtain ⟨e, he, rfl⟩ := List.mem_map.mp h
  obtain ⟨x, hx, rfl⟩ := List.mem_map.mp he
  cases q : lk M.ask x.1 with
  | some d => exact ⟨d, rfl⟩
  | none =>
    have := lk_any2 M.ask x.1
    rw [q] at this
    have h2 : (M.ask.any fun e => decide (e.1 = x.1)) = true := List.any_eq_true.mpr ⟨x, hx, decide_eq_true rfl⟩
    rw [h2] at this; cases this
def P_Lclosing (K : PySem.W.Frag) (A : Ad) (x0 x1 x2 : V) (H : Hp) (Q : VK) : Prop := ∃ (d l : Addr) (t : SP) (S : Setup) (M : SM), x0 = .ref d ∧ Draws H d l ∧ Da H x1 (setupD S) ∧ x2 = .ref t.p ∧ LAt H t S M ∧ (∀ a ∈ t.os, a ≠ d) ∧ SetupOk S ∧ M.Ok S ∧ M.ask.length < 64 ∧
  ∀ (v : V) (cs : List Cell) (H' : Hp), (∀ c ∈ cs, CellOk S c) → cs.length ≤ 36 → Da H' v (cellsD cs) → Fr [d] H H' → Draws H' d l → Q v H'
def sp_Lclosing (K : PySem.W.Frag) (A : Ad) : Sp := fun vs H Q _ => ∃ x0 x1 x2, vs = [x0, x1, x2] ∧ P_Lclosing K A x0 x1 x2 H Q
theorem c_Lclosing {K : PySem.W.Frag} {A : Ad} {x0 x1 x2 : V} {H : Hp} {Q : VK} {E : XK} (h : P_Lclosing K A x0 x1 x2 H Q) : sp_Lclosing K A [x0, x1, x2] H Q E := ⟨_, _, _, rfl, h⟩
theorem sc_Lclosing : FnScope ["_law_draws", "_law_setup_here", "_law_model", "_law_asked"] ["_law_draws", "_law_setup_here", "_law_model"] (defScope s_Lclosing) := ⟨rfl, rfl, rfl, by decide +kernel, rfl, by decide +kernel, by decide +kernel⟩
def t_Lclosing (K : PySem.W.Frag) (A : Ad) : TS :=
  (tSeq (tAsg (tCB rSortedDI (tCons (tDGet (tVar 2) (tC (.str "asks"))) tNil)) (gName 3))
    (tSeq (tIfS (tAnd (tTest (tOp cGt (tCB (rLenSq K) (tCons (tVar 3) tNil)) (tC (.int 0)))) (tTest (tOp cGt (tOp oMod (tCl (sp_Ldraw K A) (tCons (tVar 0) tNil)) (tC (.int 4))) (tC (.int 0))))) (tRet (tCl (sp_Lcells K A) (tCons (tVar 2) (tCons (tOp (rIxL K) (tVar 3) (tOp oMod (tCl (sp_Ldraw K A) (tCons (tVar 0) tNil)) (tCB (rLenSq K) (tCons (tVar 3) tNil)))) tNil)))) tNext)
    (tRet (tCB (rTupOf K) (tCons (tCB rSortedDT (tCons (tCl (sp_Lneeds K A) (tCons (tCl (sp_Lparty K A) (tCons (tVar 0) (tCons (tVar 1) tNil))) tNil)) tNil)) tNil)))))
theorem pu_Lclosing (T : Txt K mg A) {x0 x1 x2 : V} {H : Hp} {Q : VK} (h : P_Lclosing K A x0 x1 x2 H Q) : t_Lclosing K A { nx := fun _ H' => Q .non H', rt := Q } [some x0, some x1, some x2, none] H := by
  obtain ⟨d, l, t, S, M, rfl, D0, dS, rfl, y, nd, so, mo, h64, k⟩ := h
  obtain ⟨clw, e, c⟩ := y.parts
  obtain ⟨akv, eak, rak⟩ := c.ask
  unfold t_Lclosing
  walk_at "go"
  refine g_sortedDI (.inl eak) rak.keys (by unfold askT; rw [List.length_map, List.length_map]; exact h64) fun ys p H1 hp _ n1 f1 e1 => ?_
  have hyl : ys.length < 64 := by rw [hp.length_eq]; unfold askT; rw [List.length_map, List.length_map]; exact h64
  have D1 := D0.fr f1 nin0 nin0
  have rest : ∀ (H2 : Hp), Draws H2 d l → Fr [d] H H2 → sp_Lparty K A [.ref d, x1] H2 (fun v H3 => sp_Lneeds K A [v] H3 (fun v H4 => rSortedDT [v] H4 fun v H5 => rTupOf K [v] H5 Q) E0) E0 := by
    intro H2 D2 F2
    refine c_Lparty ⟨d, l, S, rfl, D2, so, Da.frL F2 dS (imm_setup S), fun pv ps H3 po dp3 f3 D3 => ?_⟩
    obtain ⟨pa, xs, rfl, ep, dxs⟩ := party_tup dp3
    refine c_Lneeds ⟨pa, xs, ps, rfl, ep, dxs, SmallSt.of so po.ok, Nat.le_trans po.l4 (by decide), fun nt H4 n4 f4 e4 => ?_⟩
    refine g_sortedDT (csN (needsL ps)) e4 (csN_keys _) (csN_alike _) (csN_sortable _) (csN_small _) fun sl H5 zs n5 f5 e5 dz => ?_
    have hnl := needs_le so po.ok
    have dz' : DaL H5 zs ((scell ((needsL ps).map (·.1))).map cellD) := by rw [csN_cells, ← scell_map] at dz; exact dz
    have hzl : zs.length ≤ 36 := by rw [dz'.len, List.length_map, (scell_perm _).length_eq, List.length_map]; exact hnl
    refine g_tupL (SqL.of e5) fun q H6 n6 f6 e6 => ?_
    have F : Fr [d] H H6 := (((F2.transL f3).then0 f4).then0 f5).then0 f6
    refine k _ (scell ((needsL ps).map (·.1))) H6 (fun c hc => ?_) (by rw [(scell_perm _).length_eq, List.length_map]; exact hnl) (.tup e6 (by omega) (DaL.frL f6 dz' (immL_map imm_cell _))) F (((D3.fr f4 nin0 nin0).fr f5 nin0 nin0).fr f6 nin0 nin0)
    obtain ⟨e, he, rfl⟩ := List.mem_map.mp ((scell_perm _).mem_iff.mp hc)
    exact cell_ok so po.ok he
  walk_at "go"
  refine g_ite (fun c1 => ?_) (fun c1 => ?_)
  · rw [List.length_map] at c1
    walk_at "go"
    rename_i z H2 z0 z1 f2 D2
    have npd : p ≠ d := (D0.new1 n1).symm
    have e2 := f2.at e1 (nin1 npd nin0)
    refine g_ite (fun c2 => ?_) (fun c2 => ?_)
    · walk_at "go"
      rename_i w H3 w0 w1 f3 D3
      have e3 := f3.at e2 (nin1 npd nin0)
      walk_at "go"
      have hpos : (0 : Int) < ((ys.map V.int).length : Nat) := by rw [List.length_map]; omega
      have m0 := Int.emod_nonneg w (show (((ys.map V.int).length : Nat) : Int) ≠ 0 by omega)
      have m1 := Int.emod_lt_of_pos w hpos
      obtain ⟨v, hv, hv2⟩ := atI_of (xs := ys.map V.int) m0 m1
      obtain ⟨n, rfl, hs, hsm⟩ := getI hv2
      obtain ⟨dd, hdd⟩ := ask_key (hp.mem_iff.mp hsm)
      refine g_ixL (SqL.of e3) hv ?_
      have F3 : Fr [d] H H3 := (f2.pre0' f1).transL f3
      walk_at "go"
      refine c_Lcells ⟨t, S, M, n, dd, rfl, y.frm F3 fun a ha => nin1 (nd a ha) nin0, rfl, hdd, so, mo, fun v H4 f4 dv => ?_⟩
      have hok := lcells_ok so (M := M) (mo.ak _ (lk_some hdd))
      exact k v _ H4 hok.1 hok.2 dv (F3.then0 f4) (D3.fr f4 nin0 nin0)
    · walk_at "go"
      exact rest H2 D2 (f2.pre0' f1)
  · walk_at "go"
    exact rest H1 D1 f1.of0
theorem ok_Lclosing {f : Addr} {fd : FuncData} (F : Fun K "_law_closing" "_law_closing" s_Lclosing f fd) (T : Txt K mg A) (c_Lcells : Cal P w K mg base "_law_cells" 3 ["_law_model", "_law_number"] (sp_Lcells K A)) (c_Lneeds : Cal P w K mg base "_law_needs" 1 ["_law_party_here"] (sp_Lneeds K A)) (c_Ldraw : Cal P w K mg base "_law_draw" 2 ["_law_draws"] (sp_Ldraw K A)) (c_Lparty : Cal P w K mg base "_law_party" 4 ["_law_draws", "_law_setup_here"] (sp_Lparty K A)) : FnOk P w K mg base CX0 (5) f fd ["_law_draws", "_law_setup_here", "_law_model"] (sp_Lclosing K A) := by
  refine F.ok sc_Lclosing (fun vs H Q E h => ?_) (fun cdv Ar outer s H vs Q E hr h => ⟨t_Lclosing K A, ?_, ?_⟩)
  · obtain ⟨x0, x1, x2, rfl, _⟩ := h
    rfl
  · have hu := hu_of hr
    exact (pss_cons (ps_set (i := 3) sc_Lclosing.nd rfl (Or.inl rfl) (pe_callB (b_sortedDI rfl) (by rfl) T.b_sorted (by decide +kernel) (pa_cons (pe_dget hu (pv 2) pe_str (fun _ _ => rfl)) pa_nil)))
    (pss_cons (ps_if (PW.pt (pw_and (pt_cmpR c_gt (pe_callB b_len (by rfl) T.b_len (by decide +kernel) (pa_cons (pv 3) pa_nil)) pe_int (nomark _)) (pw_and1 (pt_cmpR c_gt (pe_op o_mod (pe_cl c_Ldraw (hr.mono (by first | decide | omega)) (by rfl) (pa_cons (pv 0) pa_nil)) pe_int) pe_int (nomark _))))) (pss_one (ps_ret (pe_cl c_Lcells (hr.mono (by first | decide | omega)) (by rfl) (pa_cons (pv 2) (pa_cons (pe_ix ix_list (pv 3) (pe_op o_mod (pe_cl c_Ldraw (hr.mono (by first | decide | omega)) (by rfl) (pa_cons (pv 0) pa_nil)) (pe_callB b_len (by rfl) T.b_len (by decide +kernel) (pa_cons (pv 3) pa_nil))) (fun _ _ => rfl)) pa_nil))))) pss_nil)
    (pss_one (ps_ret (pe_callTy b_tuple (by rfl) T.b_tuple (by decide +kernel) (pa_cons (pe_callB (b_sortedDT rfl hr.units) (by rfl) T.b_sorted (by decide +kernel) (pa_cons (pe_cl c_Lneeds (hr.mono (by first | decide | omega)) (by rfl) (pa_cons (pe_cl c_Lparty (hr.mono (by first | decide | omega)) (by rfl) (pa_cons (pv 0) (pa_cons (pv 1) pa_nil))) pa_nil)) pa_nil)) pa_nil))))))
  · obtain ⟨x0, x1, x2, rfl, h⟩ := h
    exact pu_Lclosing T h

def P_Lbody (K : PySem.W.Frag) (A : Ad) (x0 x1 x2 : V) (H : Hp) (Q : VK) : Prop := ∃ (d l : Addr) (t : SP) (S : Setup) (M : SM), x0 = .ref d ∧ Draws H d l ∧ Da H x1 (setupD S) ∧ x2 = .ref t.p ∧ LAt H t S M ∧ (∀ a ∈ t.os, a ≠ d) ∧ SetupOk S ∧ M.Ok S ∧ M.ask.length < 64 ∧
  ∀ (v : V) (b : DnB) (H' : Hp), DnOk S M b → Da H' v (dnD b) → Fr [d] H H' → Draws H' d l → Q v H'
def sp_Lbody (K : PySem.W.Frag) (A : Ad) : Sp := fun vs H Q _ => ∃ x0 x1 x2, vs = [x0, x1, x2] ∧ P_Lbody K A x0 x1 x2 H Q
theorem c_Lbody {K : PySem.W.Frag} {A : Ad} {x0 x1 x2 : V} {H : Hp} {Q : VK} {E : XK} (h : P_Lbody K A x0 x1 x2 H Q) : sp_Lbody K A [x0, x1, x2] H Q E := ⟨_, _, _, rfl, h⟩
theorem sc_Lbody : FnScope ["_law_draws", "_law_setup_here", "_law_model", "_law_pick", "_law_kind", "_law_night", "_law_answer", "_law_number", "_law_cell"] ["_law_draws", "_law_setup_here", "_law_model"] (defScope s_Lbody) := ⟨rfl, rfl, rfl, by decide +kernel, rfl, by decide +kernel, by decide +kernel⟩
def t_Lbody (K : PySem.W.Frag) (A : Ad) : TS :=
  (tSeq (tAsg (tOp oMod (tCl (sp_Ldraw K A) (tCons (tVar 0) tNil)) (tC (.int 6))) (gName 3))
    (tSeq (tAsg (tOp oMod (tCl (sp_Ldraw K A) (tCons (tVar 0) tNil)) (tCB (rLenSq K) (tCons (tOp (rIxT K) (tVar 1) (tC (.int 0))) tNil))) (gName 4))
    (tSeq (tAsg (tOp oMod (tCl (sp_Ldraw K A) (tCons (tVar 0) tNil)) (tOp (rIxT K) (tVar 1) (tC (.int 1)))) (gName 5))
    (Evl.tCut (tIfS (tOr (tTest (tOp rEq (tVar 3) (tC (.int 0)))) (tAnd (tTest (tOp cLt (tVar 3) (tC (.int 4)))) (tTest (tOp rIsNotNon (tDGet (tVar 2) (tC (.str "closing"))) (tC .non))))) (tRet (tTup (tCons (tC (.str "want")) (tCons (tVar 4) (tCons (tVar 5) tNil))))) tNext)
    (Evl.tCut (tIfS (tTest (tOp cLt (tVar 3) (tC (.int 4)))) (tRet (tTup (tCons (tC (.str "give")) (tCons (tVar 4) (tCons (tVar 5) tNil))))) tNext)
    (tSeq (tIfS (tTest (tOp rIsNon (tDGet (tVar 2) (tC (.str "closing"))) (tC .non))) (tRet (tTup (tCons (tC (.str "close")) (tCons (tCl (sp_Lclosing K A) (tCons (tVar 0) (tCons (tVar 1) (tCons (tVar 2) tNil)))) tNil)))) tNext)
    (tSeq (tAsg (tC .non) (gName 6))
    (tSeq (tFor (iList K (tCB rSortedDI (tCons (tDGet (tVar 2) (tC (.str "asks"))) tNil))) (gName 7) (tIfS (tAnd (tTest (tOp rIsNon (tVar 6) (tC .non))) (tTest (tOp (rEqD K) (tCl (sp_Lcells K A) (tCons (tVar 2) (tCons (tVar 7) tNil))) (tDGet (tVar 2) (tC (.str "closing")))))) (tAsg (tTup (tCons (tVar 7) (tCons (tOp rEq (tOp oMod (tCl (sp_Ldraw K A) (tCons (tVar 0) tNil)) (tC (.int 2))) (tC (.int 0))) tNil))) (gName 6)) tNext))
    (tRet (tTup (tCons (tC (.str "open")) (tCons (tCB (rTupOf K) (tCons (tLc (iTup K (tDGet (tVar 2) (tC (.str "closing")))) (gName 8) tYes (tOp oMod (tCl (sp_Ldraw K A) (tCons (tVar 0) tNil)) (tC (.int 3))) [8]) tNil)) (tCons (tVar 6) tNil)))))))))))))
theorem pu_Lbody (T : Txt K mg A) {x0 x1 x2 : V} {H : Hp} {Q : VK} (h : P_Lbody K A x0 x1 x2 H Q) : t_Lbody K A { nx := fun _ H' => Q .non H', rt := Q } [some x0, some x1, some x2, none, none, none, none, none, none] H := by
  obtain ⟨d, l, t, S, M, rfl, D0, dS, rfl, y, nd, so, mo, h64, k⟩ := h
  obtain ⟨sp, r, pp, prs, sa⟩ := SetAt.of dS
  cases sa.e
  have e0 := sa.t
  have er := sa.r
  have hn1 := so.n1
  have hk1 := so.k1
  unfold t_Lbody
  walk_at "go"
  rename_i y1 H1 y10 y11 f1 D1 y2 H2 y20 y21 f2 D2 y3 H3 y30 y31 f3 D3
  have F3 : Fr [d] H H3 := (f1.transL f2).transL f3
  have k0 := Int.emod_nonneg y2 (show ((S.rooms.length : Nat) : Int) ≠ 0 by omega)
  have k1 := Int.emod_lt_of_pos y2 (show 0 < ((S.rooms.length : Nat) : Int) by omega)
  have n0 := Int.emod_nonneg y3 (show S.nights ≠ 0 by omega)
  have n1 := Int.emod_lt_of_pos y3 (show 0 < S.nights by omega)
  have hw : CellOk S (y2 % (S.rooms.length : Int), y3 % S.nights) := ⟨k0, k1, n0, n1⟩
  have y33 := y.frm F3 fun a ha => nin1 (nd a ha) nin0
  have dS3 := Da.frL F3 dS (imm_setup S)
  have hlen : ((S.rooms.map V.int).length : Int) = (S.rooms.length : Int) := by rw [List.length_map]
  rw [hlen]
  obtain ⟨w, hwe⟩ : ∃ w : Cell, w = (y2 % (S.rooms.length : Int), y3 % S.nights) := ⟨_, rfl⟩
  have hw1 : y2 % (S.rooms.length : Int) = w.1 := by rw [hwe]
  have hw2 : y3 % S.nights = w.2 := by rw [hwe]
  rw [hw1, hw2]
  rw [← hwe] at hw
  have k3 : ∀ (v : V) (b : DnB) (H' : Hp), DnOk S M b → Da H' v (dnD b) → Fr [d] H3 H' → Draws H' d l → Q v H' := fun v b H' a b' f D => k v b H' a b' (F3.transL f) D
  clear k k0 k1 n0 n1 hw1 hw2 hwe y y10 y11 y20 y21 y30 y31 f1 f2 f3 D0 D1 D2 e0 er sa dS F3
  obtain ⟨clw, e, c⟩ := y33.parts
  have hcl := c.clv
  have want : ∀ (p : Addr) (H' : Hp), Fr [] H3 H' → H' p = some (.tup [.str "want", .int w.1, .int w.2]) → Q (.ref p) H' := fun p H' f q => k3 _ (.want w) H' hw (.tup q (Nat.le_of_ble_eq_true rfl) (.cons (.str _) (.cons (.int _) (.one' (.int _))))) f.of0 (D3.fr f nin0 nin0)
  have give : ∀ (p : Addr) (H' : Hp), Fr [] H3 H' → H' p = some (.tup [.str "give", .int w.1, .int w.2]) → Q (.ref p) H' := fun p H' f q => k3 _ (.give w) H' hw (.tup q (Nat.le_of_ble_eq_true rfl) (.cons (.str _) (.cons (.int _) (.one' (.int _))))) f.of0 (D3.fr f nin0 nin0)
  refine g_cut (fun σ H' => σ = [some (.ref d), some (.ref sp), some (.ref t.p), some (.int (y1 % 6)), some (.int w.1), some (.int w.2), none, none, none] ∧ H' = H3 ∧ (y1 % 6 < 4 → M.cl = none)) ?_ ?_
  · walk_at "go"
    refine g_ite (fun c1 => ?_) (fun c1 => ?_)
    · walk_at "go"
      rename_i p H4 n4 f4 e4
      exact want p H4 f4 e4
    · walk_at "go"
      refine g_ite (fun c2 => ?_) (fun c2 => ?_)
      · walk_at "go"
        cases hc : M.cl with
        | none =>
          rw [hc] at hcl
          cases hcl
          refine g_iteN (P := V.non = V.non) (fun z => absurd rfl z) (fun _ => ?_)
          walk_at "go"
          exact ⟨rfl, rfl, fun _ => rfl⟩
        | some cl =>
          rw [hc] at hcl
          obtain ⟨b, cs, rfl, eb, _, qb⟩ := hcl.tup1
          refine g_iteN (P := V.ref b = V.non) (fun _ => ?_) (fun z => by cases z)
          walk_at "go"
          rename_i p H4 n4 f4 e4
          exact want p H4 f4 e4
      · walk_at "go"
        exact ⟨rfl, rfl, fun z => absurd z c2⟩
  · rintro σ H4 ⟨rfl, rfl, hlt⟩
    refine g_cut (fun σ H' => σ = [some (.ref d), some (.ref sp), some (.ref t.p), some (.int (y1 % 6)), some (.int w.1), some (.int w.2), none, none, none] ∧ H' = H4) ?_ ?_
    · walk_at "go"
      refine g_ite (fun c1 => ?_) (fun c1 => ?_)
      · walk_at "go"
        rename_i p H5 n5 f5 e5
        exact give p H5 f5 e5
      · walk_at "go"
        exact ⟨rfl, rfl⟩
    · rintro σ H5 ⟨rfl, rfl⟩
      clear want give
      cases hc : M.cl with
      | none =>
        rw [hc] at hcl
        cases hcl
        walk_at "go"
        refine g_ite (P := V.non = V.non) (fun _ => ?_) (fun z => absurd rfl z)
        walk_at "go"
        refine c_Lclosing ⟨d, l, t, S, M, rfl, D3, dS3, rfl, y33, nd, so, mo, h64, fun v cs H6 h1 h2 dv f6 D6 => ?_⟩
        walk_at "go"
        rename_i p H7 n7 f7 e7
        exact k3 _ (.close cs) H7 ⟨h1, h2⟩ (.tup e7 (Nat.le_of_ble_eq_true rfl) (.cons (.str _) (.one' (Da.frL f7 dv (imm_cells cs))))) (f6.then0 f7) (D6.fr f7 nin0 nin0)
      | some cl =>
        rw [hc] at hcl
        obtain ⟨b, cs, rfl, eb, _, qb⟩ := id hcl.tup1
        obtain ⟨hck, hcl36⟩ := mo.ck cl hc
        have hcsl : cs.length = cl.length := by rw [qb.len, List.length_map]
        obtain ⟨akv, eak, rak⟩ := c.ask
        walk_at "go"
        refine g_ite (P := V.ref b = V.non) (fun z => by cases z) (fun _ => ?_)
        walk_at "go"
        refine g_sortedDI (.inl eak) rak.keys (by unfold askT; rw [List.length_map, List.length_map]; exact h64) fun ys p H6 hp _ n6 f6 e6 => ?_
        have npd : p ≠ d := (D3.new1 n6).symm
        have D6 := D3.fr f6 nin0 nin0
        have y6 := y33.f0 f6
        walk_at "go"
        refine f_list (xs := ys.map V.int) (fun i σ H' => (∃ (v6 : V) (v7 : Option V) (an : Option (Int × Bool)), σ = [some (.ref d), some (.ref sp), some (.ref t.p), some (.int (y1 % 6)), some (.int w.1), some (.int w.2), some v6, v7, none] ∧ Da H' v6 (ansD an) ∧ ∀ a, an = some a → (lk M.ask a.1).isSome = true) ∧ Fr [d] H6 H' ∧ Draws H' d l) ⟨⟨.non, _, none, rfl, .non, fun _ z => (by cases z)⟩, Fr.refl, D6⟩ (fun i σ H' _ ⟨_, f, _⟩ => SqL.of (f.at e6 (nin1 npd nin0))) ?_ ?_
        · rintro i x σ H7 hx ⟨⟨v6, v7, an, rfl, dan, han⟩, f7, D7⟩
          obtain ⟨n, rfl, hn, hnm⟩ := getI hx
          obtain ⟨dd, hdd⟩ := ask_key (hp.mem_iff.mp hnm)
          have y7 := y6.frm f7 fun a ha => nin1 (nd a ha) nin0
          cases an with
          | some a =>
            obtain ⟨ta, rfl, eta⟩ := ans_at dan
            walk_at "go"
            refine g_ite (P := V.ref ta = V.non) (fun z => by cases z) (fun _ => ?_)
            walk_at "go"
            exact ⟨⟨_, _, some a, rfl, dan, han⟩, f7, D7⟩
          | none =>
            cases dan
            walk_at "go"
            refine g_ite (P := V.non = V.non) (fun _ => ?_) (fun z => absurd rfl z)
            walk_at "go"
            refine c_Lcells ⟨t, S, M, n, dd, rfl, y7, rfl, hdd, so, mo, fun v H8 f8 dv => ?_⟩
            have D8 := D7.fr f8 nin0 nin0
            have y8 := y7.f0 f8
            obtain ⟨clw8, e8, c8⟩ := y8.parts
            have hcl8 := c8.clv
            rw [hc] at hcl8
            walk_at "go"
            refine g_eqDD dv hcl8 (cells_shaped _) (cells_shaped cl) ?_
            walk_at "go"
            refine g_iteB (fun hh => ?_) (fun hh => ?_)
            · walk_at "go"
              rename_i z H9 z0 z1 f9 D9 ta H10 n10 f10 e10
              exact ⟨⟨_, _, some (n, decide (z % 2 = 0)), rfl, .tup e10 (Nat.le_of_ble_eq_true rfl) (.cons (.int _) (.one' (.bl _))), fun a q => by cases q; rw [hdd]; rfl⟩, (((f7.then0 f8).transL f9).then0 f10), D9.fr f10 nin0 nin0⟩
            · walk_at "go"
              exact ⟨⟨_, _, none, rfl, .non, fun a q => by cases q⟩, f7.then0 f8, D8⟩
        · rintro σ H7 ⟨⟨v6, v7, an, rfl, dan, han⟩, f7, D7⟩
          have y7 := y6.frm f7 fun a ha => nin1 (nd a ha) nin0
          obtain ⟨clw7, e7, c7⟩ := y7.parts
          have hcl7 := c7.clv
          rw [hc] at hcl7
          obtain ⟨b7, cs7, rfl, eb7, _, qb7⟩ := id hcl7.tup1
          have hcs7 : cs7.length = cl.length := by rw [qb7.len, List.length_map]
          have F7 : Fr [d] H5 H7 := f7.pre0' f6
          clear e6 eak e hcl c
          walk_at "go"
          refine l_tup (xs := cs7) fun Dl H8 nD f8 e8 => ⟨fun i acc H' => (∃ zs : List Int, acc = zs.map V.int ∧ zs.length = i) ∧ Fr [d] H7 H' ∧ Draws H' d l, ⟨⟨[], rfl, rfl⟩, f8.of0, D7.fr f8 nin0 nin0⟩, fun i acc H' q => SqT.of (q.2.1.tup _ _ eb7), fun i x acc H' hx ha ⟨⟨zs, ea', hz⟩, f, D⟩ => ?_, fun acc H' ha ⟨⟨zs, ea', hz⟩, f, D⟩ => ?_⟩
          · have hi := (List.getElem?_eq_some_iff.mp hx).1
            have nDd : Dl ≠ d := fun q => by rw [q] at nD; exact absurd rfl (D7.new1 nD)
            have nDl : Dl ≠ l := fun q => by rw [q] at nD; exact absurd rfl (D7.new2 nD)
            walk_at "go"
            refine ⟨rfl, ?_⟩
            walk_at "go"
            rename_i z H9 z0 z1 f9 D9
            have hal : acc.length ≤ 100 := by rw [ea', List.length_map]; omega
            refine lcY_of (f9.at ha (nin1 nDd nin0)) (szM (by omega)) fun H10 f10 e10 => ⟨⟨zs ++ [z % 3], by rw [ea', List.map_append]; rfl, by rw [List.length_append, hz]; rfl⟩, (f.transL f9).own1 f10 nD, D9.fr f10 (nin1 nDd.symm nin0) (nin1 nDl.symm nin0)⟩
          · have hal : acc.length ≤ 100 := by rw [ea', List.length_map]; omega
            walk_at "go"
            rename_i t9 H9 n9 f9 e9 t10 H10 n10 f10 e10
            have hdz : Da H10 (.ref t9) (rowD zs) := by
              have h := f10.tup _ _ e9
              rw [ea'] at h
              exact .tup h (by rw [List.length_map]; omega) (DaL.ofInts _)
            refine k3 _ (.opn zs an) H10 ⟨⟨cl, hc, by omega⟩, han⟩ (.tup e10 (Nat.le_of_ble_eq_true rfl) (.cons (.str _) (.cons hdz (.one' (Da.frL f10 (Da.frL f9 (Da.frL f dan (imm_ans an)) (imm_ans an)) (imm_ans an)))))) (((F7.transL f).then0 f9).then0 f10) ((D.fr f9 nin0 nin0).fr f10 nin0 nin0)
theorem ok_Lbody {f : Addr} {fd : FuncData} (F : Fun K "_law_body" "_law_body" s_Lbody f fd) (T : Txt K mg A) (c_Ldraw : Cal P w K mg base "_law_draw" 2 ["_law_draws"] (sp_Ldraw K A)) (c_Lclosing : Cal P w K mg base "_law_closing" 5 ["_law_draws", "_law_setup_here", "_law_model"] (sp_Lclosing K A)) (c_Lcells : Cal P w K mg base "_law_cells" 3 ["_law_model", "_law_number"] (sp_Lcells K A)) : FnOk P w K mg base CX0 (6) f fd ["_law_draws", "_law_setup_here", "_law_model"] (sp_Lbody K A) := by
  refine F.ok sc_Lbody (fun vs H Q E h => ?_) (fun cdv Ar outer s H vs Q E hr h => ⟨t_Lbody K A, ?_, ?_⟩)
  · obtain ⟨x0, x1, x2, rfl, _⟩ := h
    rfl
  · have hu := hu_of hr
    exact (pss_cons (ps_set (i := 3) sc_Lbody.nd rfl (Or.inl rfl) (pe_op o_mod (pe_cl c_Ldraw (hr.mono (by first | decide | omega)) (by rfl) (pa_cons (pv 0) pa_nil)) pe_int))
    (pss_cons (ps_set (i := 4) sc_Lbody.nd rfl (Or.inl rfl) (pe_op o_mod (pe_cl c_Ldraw (hr.mono (by first | decide | omega)) (by rfl) (pa_cons (pv 0) pa_nil)) (pe_callB b_len (by rfl) T.b_len (by decide +kernel) (pa_cons (pe_ix ix_tup (pv 1) pe_int (fun _ _ => rfl)) pa_nil))))
    (pss_cons (ps_set (i := 5) sc_Lbody.nd rfl (Or.inl rfl) (pe_op o_mod (pe_cl c_Ldraw (hr.mono (by first | decide | omega)) (by rfl) (pa_cons (pv 0) pa_nil)) (pe_ix ix_tup (pv 1) pe_int (fun _ _ => rfl))))
    (Evl.pss_cut (ps_if (PW.pt (pw_or (pt_cmpR op_eq (pv 3) pe_int (nomark _)) (pw_or1 (PW.pt (pw_and (pt_cmpR c_lt (pv 3) pe_int (nomark _)) (pw_and1 (pt_cmpR c_notN (pe_dget hu (pv 2) pe_str (fun _ _ => rfl)) pe_non (nomark _)))))))) (pss_one (ps_ret (pe_tup (pa_cons pe_str (pa_cons (pv 4) (pa_cons (pv 5) pa_nil)))))) pss_nil)
    (Evl.pss_cut (ps_if (pt_cmpR c_lt (pv 3) pe_int (nomark _)) (pss_one (ps_ret (pe_tup (pa_cons pe_str (pa_cons (pv 4) (pa_cons (pv 5) pa_nil)))))) pss_nil)
    (pss_cons (ps_if (pt_cmpR c_isN (pe_dget hu (pv 2) pe_str (fun _ _ => rfl)) pe_non (nomark _)) (pss_one (ps_ret (pe_tup (pa_cons pe_str (pa_cons (pe_cl c_Lclosing (hr.mono (by first | decide | omega)) (by rfl) (pa_cons (pv 0) (pa_cons (pv 1) (pa_cons (pv 2) pa_nil)))) pa_nil))))) pss_nil)
    (pss_cons (ps_set (i := 6) sc_Lbody.nd rfl (Or.inl rfl) pe_non)
    (pss_cons (ps_for PassesOwn.never rfl (pi_list (pe_callB (b_sortedDI rfl) (by rfl) T.b_sorted (by decide +kernel) (pa_cons (pe_dget hu (pv 2) pe_str (fun _ _ => rfl)) pa_nil))) (pg_name (i := 7) sc_Lbody.nd rfl (Or.inl rfl)) (pss_one (ps_if (PW.pt (pw_and (pt_cmpR c_isN (pv 6) pe_non (nomark _)) (pw_and1 (pt_cmpR (op_eqD hr.units) (pe_cl c_Lcells (hr.mono (by first | decide | omega)) (by rfl) (pa_cons (pv 2) (pa_cons (pv 7) pa_nil))) (pe_dget hu (pv 2) pe_str (fun _ _ => rfl)) (nomark _))))) (pss_one (ps_set (i := 6) sc_Lbody.nd rfl (Or.inl rfl) (pe_tup (pa_cons (pv 7) (pa_cons (pe_cmpR op_eq (pe_op o_mod (pe_cl c_Ldraw (hr.mono (by first | decide | omega)) (by rfl) (pa_cons (pv 0) pa_nil)) pe_int) pe_int (nomark _)) pa_nil))))) pss_nil)))
    (pss_one (ps_ret (pe_tup (pa_cons pe_str (pa_cons (pe_callTy b_tuple (by rfl) T.b_tuple (by decide +kernel) (pa_cons (pe_lc (own := [("_law_cell", 8)]) (g := (gName 8)) (tt := tYes) rfl sc_Lbody.nd (pi_tup (pe_dget hu (pv 2) pe_str (fun _ _ => rfl))) (blkOk_by (N := ["_law_draws", "_law_setup_here", "_law_model", "_law_pick", "_law_kind", "_law_night", "_law_answer", "_law_number", "_law_cell"]) (sc := defScope s_Lbody) (own := [("_law_cell", 8)]) (by decide +kernel)) (fun _ _ _ _ _ => (pg_name (i := 8) sc_Lbody.nd rfl (Or.inl rfl))) (fun _ _ _ _ _ => pts_nil) (fun _ _ _ _ _ => (pe_op o_mod (pe_cl c_Ldraw (hr.mono (by first | decide | omega)) (by rfl) (pa_cons (pv 0) pa_nil)) pe_int))) pa_nil)) (pa_cons (pv 6) pa_nil))))))))))))))
  · obtain ⟨x0, x1, x2, rfl, h⟩ := h
    exact pu_Lbody T h

theorem doit_n {S : Setup} {M : SM} {n : Int} {d : Deed} : (M.doit S n d).n = M.n := by
  have deal : ∀ p o, (M.deal S n d p o).n = M.n := fun p o => by
    unfold SM.deal; split
    · cases d <;> rfl
    · rfl
  cases h : d with
  | wish p => have := deal p []; rw [h] at this; exact this
  | cancel k =>
    show (match lk M.vo k with | none => M.tell n false | some o => _ : SM).n = _
    cases lk M.vo k <;> rfl
  | change k p =>
    show (match lk M.vo k with | none => M.tell n false | some o => M.deal S n (.change k p) p o : SM).n = _
    cases lk M.vo k with
    | none => rfl
    | some o => have := deal p o; rw [h] at this; exact this
theorem asked_n {S : Setup} {M : SM} {d : Deed} : (M.asked S d).n = M.n + 1 := by
  unfold SM.asked
  show (if M.waits d = true then _ else _ : SM).n = _
  split
  · rfl
  · exact doit_n
theorem agains_n {S : Setup} : ∀ (l : List (Int × Deed)) (M : SM), (l.foldl (SM.again S) M).n = M.n
  | [], _ => rfl
  | e :: l, M => (agains_n l (M.again S e)).trans again_n
theorem ans_n {S : Setup} {an : Option (Int × Bool)} {M : SM} : (SM.ans S an M).n = M.n := by
  cases an with
  | none => rfl
  | some a =>
    show (M.answered S a.1 a.2).n = M.n
    unfold SM.answered
    cases lk M.ask a.1 with
    | none => rfl
    | some d =>
      cases a.2 with
      | false => rfl
      | true => cases d <;> rfl
theorem shandle_n {S : Setup} {M : SM} {b : DnB} : (M.handle S b).n = M.n := by
  cases b with
  | give c => rfl
  | close cs => rfl
  | opn cs an => show (M.reopen S cs an).n = M.n; rw [reopen_def, agains_n]; exact ans_n
  | want c => show (if 0 < M.fr c then _ else _ : SM).n = _; split <;> rfl
theorem said_n {M : SM} {k : Int} : (M.said k).n = M.n := by
  unfold SM.said
  split
  · rfl
  · split <;> rfl
theorem AL.mid {H H' : Hp} {as os os' rest : List Addr} (s : AL H (as ++ (os ++ rest))) (f : Fr os H H') (s' : AL H' os') (n : ∀ a ∈ os', a ∈ os ∨ H a = none) : AL H' (as ++ (os' ++ rest)) := by
  have p1 : (as ++ (os ++ rest)).Perm (os ++ (as ++ rest)) := by
    rw [← List.append_assoc, ← List.append_assoc]
    exact (List.perm_append_comm (l₁ := as) (l₂ := os)).append_right rest
  have p2 : (os' ++ (as ++ rest)).Perm (as ++ (os' ++ rest)) := by
    rw [← List.append_assoc, ← List.append_assoc]
    exact (List.perm_append_comm (l₁ := os') (l₂ := as)).append_right rest
  exact ((s.perm p1).part f s' n).perm p2
structure KS (A : Ad) (H : Hp) (S : Setup) (d l : Addr) (s t : SP) (num : Int) (M : SM) (N : Nat) : Prop where
  D : Draws H d l
  se : SellerAt A H s S num M
  la : LAt H t S M
  al : AL H (s.os ++ (t.os ++ [d, l]))
  mo : M.Ok S
  sz : M.Sz N
  n1 : 0 ≤ M.n
  n2 : M.n ≤ N
structure KNe (s t : SP) (d l : Addr) : Prop where
  st : ∀ a ∈ s.os, a ∉ t.os
  sx : ∀ a ∈ s.os, a ≠ d ∧ a ≠ l
  tx : ∀ a ∈ t.os, a ≠ d ∧ a ≠ l
  x3 : d ≠ l
theorem KNe.of {H : Hp} {s t : SP} {d l : Addr} (al : AL H (s.os ++ (t.os ++ [d, l]))) : KNe s t d l := by
  have n0 := al.1
  have n1 := (List.nodup_append.mp n0).2.2
  have n2 := List.nodup_append.mp (List.nodup_append.mp n0).2.1
  have n3 := n2.2.1
  simp only [List.nodup_cons, List.mem_cons, not_or, List.not_mem_nil, not_false_eq_true, and_true, List.nodup_nil] at n3
  exact ⟨fun a ha hb => n1 a ha a (List.mem_append_left _ hb) rfl, fun a ha => ⟨n1 a ha d (by simp), n1 a ha l (by simp)⟩, fun a ha => ⟨n2.2.2 a ha d (by simp), n2.2.2 a ha l (by simp)⟩, n3⟩
theorem AL.draws {H : Hp} {s t : SP} {d l : Addr} {A : Ad} {S : Setup} {num : Int} {M M' : SM} (nd : (s.os ++ (t.os ++ [d, l])).Nodup) (D : Draws H d l) (se : SellerAt A H s S num M) (la : LAt H t S M') : AL H (s.os ++ (t.os ++ [d, l])) := by
  refine ⟨nd, fun a ha => ?_⟩
  rcases List.mem_append.mp ha with q | q
  · exact se.2.2 a q
  · rcases List.mem_append.mp q with w | w
    · exact la.2.2 a w
    · obtain ⟨ms, kk, h1, h2, _⟩ := D
      rcases List.mem_cons.mp w with z | z
      · rw [z]; exact ⟨_, h1⟩
      · rw [List.mem_singleton.mp z]; exact ⟨_, h2⟩
theorem KS.draw {A : Ad} {H H' : Hp} {S : Setup} {d l : Addr} {s t : SP} {num : Int} {M : SM} {N : Nat} (k : KS A H S d l s t num M N) (f : Fr [d] H H') (D : Draws H' d l) : KS A H' S d l s t num M N := by
  have n := KNe.of k.al
  have se := k.se.frm f fun a ha => nin1 (n.sx a ha).1 nin0
  have la := k.la.frm f fun a ha => nin1 (n.tx a ha).1 nin0
  exact ⟨D, se, la, AL.draws k.al.1 D se la, k.mo, k.sz, k.n1, k.n2⟩
theorem KS.same {A : Ad} {H H' : Hp} {S : Setup} {d l : Addr} {s t : SP} {num : Int} {M : SM} {N : Nat} (k : KS A H S d l s t num M N) (f : Fr [] H H') : KS A H' S d l s t num M N := k.draw f.of0 (k.D.fr f nin0 nin0)
theorem KS.sell {A : Ad} {H H' : Hp} {S : Setup} {d l : Addr} {s s' t : SP} {num : Int} {M M' : SM} {N : Nat} (k : KS A H S d l s t num M N) (f : Fr s.os H H') (own : ∀ a ∈ s'.os, a ∈ s.os ∨ H a = none) (x : SellerAt A H' s' S num M') :
    Draws H' d l ∧ LAt H' t S M ∧ AL H' (s'.os ++ (t.os ++ [d, l])) := by
  have n := KNe.of k.al
  exact ⟨k.D.fr f (fun q => (n.sx _ q).1 rfl) (fun q => (n.sx _ q).2 rfl), k.la.frm f fun a ha q => n.st a q ha, k.al.part f x.2 own⟩
theorem KS.of {A : Ad} {H H' : Hp} {S : Setup} {d l : Addr} {s t : SP} {num : Int} {M' : SM} {N : Nat} (D : Draws H d l) (x : SellerAt A H s S num M') (al : AL H (s.os ++ (t.os ++ [d, l]))) (f : Fr t.os H H') (y : LAt H' t S M') (mo : M'.Ok S) (sz : M'.Sz N) (n1 : 0 ≤ M'.n) (n2 : M'.n ≤ N) :
    KS A H' S d l s t num M' N := by
  have n := KNe.of al
  have D' := D.fr f (fun q => (n.tx _ q).1 rfl) (fun q => (n.tx _ q).2 rfl)
  have x' := x.frm f fun a ha q => n.st a ha q
  exact ⟨D', x', y, AL.draws al.1 D' x' y, mo, sz, n1, n2⟩
theorem KS.mono {A : Ad} {H : Hp} {S : Setup} {d l : Addr} {s t : SP} {num : Int} {M : SM} {N N' : Nat} (k : KS A H S d l s t num M N) (h : N ≤ N') : KS A H S d l s t num M N' := ⟨k.D, k.se, k.la, k.al, k.mo, k.sz.mono h, k.n1, by have := k.n2; omega⟩
def P_law (K : PySem.W.Frag) (A : Ad) (x0 : V) (H : Hp) (Q : VK) : Prop := ∃ (a : Addr) (ns : List Int), x0 = .ref a ∧ SqL K H a (ns.map V.int) ∧ ns.length ≤ 63 ∧ ∀ H', Q (.bl true) H'
def sp_law (K : PySem.W.Frag) (A : Ad) : Sp := fun vs H Q _ => ∃ x0, vs = [x0] ∧ P_law K A x0 H Q
theorem c_law {K : PySem.W.Frag} {A : Ad} {x0 : V} {H : Hp} {Q : VK} {E : XK} (h : P_law K A x0 H Q) : sp_law K A [x0] H Q E := ⟨_, rfl, h⟩
theorem sc_law : FnScope ["_law_script", "_law_draws", "_law_setup_here", "_law_number", "_law_seller_here", "_law_model", "_law_k", "_law_deed_here", "_law_body_here"] ["_law_script"] (defScope s_law) := ⟨rfl, rfl, rfl, by decide +kernel, rfl, by decide +kernel, by decide +kernel⟩
def t_law (K : PySem.W.Frag) (A : Ad) : TS :=
  (tSeq (tAsg (tLst (tCons (tCl (sp_Lnumbers K A) (tCons (tVar 0) tNil)) (tCons (tC (.int 0)) tNil))) (gName 1))
    (tSeq (tAsg (tCl (sp_Lsetup K A) (tCons (tVar 1) tNil)) (gName 2))
    (tSeq (tAsg (tOp oMod (tCl (sp_Ldraw K A) (tCons (tVar 1) tNil)) (tOp (rIxT K) (tVar 2) (tC (.int 2)))) (gName 3))
    (tSeq (tAsg (tMk A.Seller (sp_Seller_init K A) (tCons (tVar 2) (tCons (tVar 3) tNil))) (gName 4))
    (tSeq (tAsg (tCl (sp_Lseller K A) (tCons (tVar 3) tNil)) (gName 5))
    (tSeq (tFor (iRng1 (tCons (tOp oMod (tCl (sp_Ldraw K A) (tCons (tVar 1) tNil)) (tC (.int 41))) tNil)) (gName 6) (Evl.tCut (tIfS (tTest (tOp rEq (tOp oMod (tCl (sp_Ldraw K A) (tCons (tVar 1) tNil)) (tC (.int 2))) (tC (.int 0)))) (tSeq (tAsg (tCl (sp_Ldeed K A) (tCons (tVar 1) (tCons (tVar 2) (tCons (tDGet (tVar 5) (tC (.str "asked"))) tNil)))) (gName 7))
    (tIfS (tNot (tB (tCl (sp_Lequal K A 12) (tCons (tMt A.Seller "ask" (sp_Seller_ask K A) (tVar 4) (tCons (tVar 7) tNil)) (tCons (tCl (sp_Lask K A) (tCons (tVar 2) (tCons (tVar 5) (tCons (tVar 7) tNil)))) tNil))))) (tRet (tC (.bl false))) tNext)) (tSeq (tAsg (tCl (sp_Lbody K A) (tCons (tVar 1) (tCons (tVar 2) (tCons (tVar 5) tNil)))) (gName 8))
    (tSeq (tDrop (tMt A.Seller "handle" (sp_Seller_handle K A) (tVar 4) (tCons (tVar 8) tNil)))
    (tDrop (tCl (sp_Lhandle K A) (tCons (tVar 2) (tCons (tVar 5) (tCons (tVar 8) tNil))))))))
    (tSeq (tIfS (tNot (tB (tCl (sp_Lsame_seller K A) (tCons (tVar 2) (tCons (tVar 4) (tCons (tVar 5) tNil)))))) (tRet (tC (.bl false))) tNext)
    (tIfS (tAnd (tTest (tOp rEq (tOp oMod (tCl (sp_Ldraw K A) (tCons (tVar 1) tNil)) (tC (.int 2))) (tC (.int 0)))) (tNot (tB (tCl (sp_Lsame_out K A) (tCons (tVar 4) (tCons (tVar 5) (tCons (tOp oMod (tCl (sp_Ldraw K A) (tCons (tVar 1) tNil)) (tC (.int 3))) tNil))))))) (tRet (tC (.bl false))) tNext))))
    (tRet (tAndV (tCl (sp_Lsame_out K A) (tCons (tVar 4) (tCons (tVar 5) (tCons (tC (.int 2)) tNil)))) (tCl (sp_Lequal K A 12) (tCons (tLst (tCons (tMt A.Seller "bodies" (sp_Seller_bodies K A) (tVar 4) tNil) (tCons (tMt A.Seller "answers" (sp_Seller_answers K A) (tVar 4) tNil) tNil))) (tCons (tLst (tCons (tLst tNil) (tCons (tLst tNil) tNil))) tNil)))))))))))
theorem pu_law (T : Txt K mg A) {x0 : V} {H : Hp} {Q : VK} (h : P_law K A x0 H Q) : t_law K A { nx := fun _ H' => Q .non H', rt := Q } [some x0, none, none, none, none, none, none, none, none] H := by
  obtain ⟨a, ns, rfl, hS, hl, k⟩ := h
  unfold t_law
  walk_at "go"
  refine c_Lnumbers ⟨a, ns, rfl, hS, hl, fun nl ms H1 n1 f1 e1 sm hm => ?_⟩
  walk_at "go"
  rename_i d H2 n2 f2 e2
  have D2 : Draws H2 d nl := ⟨ms, 0, e2, f2.at0 e1, sm, hm, Int.le_refl _⟩
  have ndl : d ≠ nl := (ne_of_none e1 n2).symm
  refine c_Lsetup ⟨d, nl, rfl, D2, fun sv S H3 so dS f3 D3 => ?_⟩
  clear hS f1 f2 f3 e1 e2 D2 n1 n2 sm hm
  obtain ⟨sp, r, pp, prs, sa⟩ := SetAt.of dS
  cases sa.e
  have e0 := sa.t
  have hs1 := so.s1
  walk_at "go"
  rename_i y H4 y0 y1 f4 D4 hp dx H5 n5 nd5 ne5 f5 e5 ed5
  have dS5 := Da.frL (f4.then0 f5) dS (imm_setup S)
  refine c_Seller_init ⟨hp, dx, S, y % S.sellers, rfl, e5, dS5, rfl, so, fun s H6 hph f6 own6 x6 => ⟨rfl, ?_⟩⟩
  have F6 : Fr [] H4 H6 := f5.own1 f6 n5
  have D6 := D4.fr F6 nin0 nin0
  have own64 : ∀ x ∈ s.os, H4 x = none := fun x hx => (own6 x hx).elim (fun z => by rw [z]; exact n5) (fun z => f5.free z)
  have al6 : AL H6 (s.os ++ [d, nl]) := by
    obtain ⟨ms, kk, q1, q2, _⟩ := id D4
    have b3 : AL H4 ([] ++ [d, nl]) := ⟨by simp [ndl], fun x hx => by
      rcases List.mem_cons.mp hx with z | z
      · rw [z]; exact ⟨_, q1⟩
      · rw [List.mem_singleton.mp z]; exact ⟨_, q2⟩⟩
    exact b3.part F6 x6.2 fun x hx => .inr (own64 x hx)
  have dS6 := Da.frL f6 dS5 (imm_setup S)
  clear own6 f5 f6 e5 ed5 ne5 nd5 n5 dS D4 D3 dS5 e0 sa f4
  walk_at "go"
  refine c_Lseller ⟨S, fun t H7 f7 own7 y7 => ?_⟩
  have al7 : AL H7 (s.os ++ (t.os ++ [d, nl])) := AL.mid (os := []) al6 f7 y7.2 fun x hx => .inr (own7 x hx)
  have ks7 : KS A H7 S d nl s t (y % S.sellers) SM.start 0 := ⟨D6.fr f7 nin0 nin0, x6.f0 f7, y7, al7, SM.start_ok, ⟨Nat.le_refl _, Nat.le_refl _, Nat.le_refl _, Nat.le_refl _, Nat.le_refl _⟩, Int.le_refl _, Int.le_refl _⟩
  have dS7 := Da.frL f7 dS6 (imm_setup S)
  have D7 := ks7.D
  clear f7 al6 al7 D6 x6 y7 own7 dS6 own64 F6
  walk_at "go"
  rename_i z H8 z0 z1 f8 D8
  have ks8 := ks7.draw f8 D8
  have dS8 := Da.frL f8 dS7 (imm_setup S)
  generalize y % S.sellers = num at *
  clear ks7 dS7 f8 D8 D7 y0 y1
  refine f_range (lo := 0) (n := (z % 41).toNat) (fun i σ H' => ∃ (s : SP) (M : SM) (v6 v7 v8 : Option V), σ = [some (.ref a), some (.ref d), some (.ref sp), some (.int num), some (.ref s.p), some (.ref t.p), v6, v7, v8] ∧ s.p = hp ∧ KS A H' S d nl s t num M i ∧ Da H' (.ref sp) (setupD S)) ⟨s, _, none, none, none, by rw [hph]; rfl, hph, ks8, dS8⟩ ?_ ?_
  · clear ks8 dS8 hph
    rintro i σ H1 hi ⟨s, M, v6, v7, v8, rfl, hph, ks, dS⟩
    have hi41 : i ≤ 40 := by omega
    have hk1 := ks.n1
    have hk2 := ks.n2
    refine g_cut (fun σ H' => ∃ (s : SP) (M : SM) (v6 v7 v8 : Option V), σ = [some (.ref a), some (.ref d), some (.ref sp), some (.int num), some (.ref s.p), some (.ref t.p), v6, v7, v8] ∧ s.p = hp ∧ KS A H' S d nl s t num M (i + 1) ∧ Da H' (.ref sp) (setupD S)) ?_ ?_
    · have D1 := ks.D
      walk_at "go"
      rename_i y H2 y0 y1 f2 D2
      have ks2 := ks.draw f2 D2
      have dS2 := Da.frL f2 dS (imm_setup S)
      clear ks dS D1 f2
      obtain ⟨clv, e2, c2⟩ := ks2.la.parts
      refine g_ite (fun c => ?_) (fun c => ?_)
      · walk_at "go"
        refine c_Ldeed ⟨d, nl, S, M.n, rfl, D2, so, dS2, rfl, fun v dd H3 dok dv f3 D3 => ?_⟩
        have ks3 := ks2.draw f3 D3
        have dS3 := Da.frL f3 dS2 (imm_setup S)
        obtain ⟨dx3, sv3, clv3, e3, _, _⟩ := ks3.se.parts
        walk_at "go"
        refine c_Seller_ask ⟨s, S, num, M, dd, rfl, ks3.se, dv, so, ks3.mo, dok, ks3.sz.mono (by omega), ⟨by omega, by omega⟩, fun H4 f4 x4 => ?_⟩
        obtain ⟨D4, y4, al4⟩ := ks3.sell f4 (fun a ha => .inl ha) x4
        walk_at "go"
        refine c_Lask ⟨t, S, M, dd, Da.frL f4 dS3 (imm_setup S), rfl, y4, Da.frL f4 dv (imm_deed dd), so, ks3.mo, dok, ks3.sz.mono (by omega), fun H5 f5 y5 => ?_⟩
        have ks5 : KS A H5 S d nl s t num (M.asked S dd) (i + 1) := KS.of D4 x4 al4 f5 y5 (asked_ok ks3.mo dok) (asked_sz ks3.sz) (by rw [asked_n]; omega) (by rw [asked_n]; omega)
        walk_at "go"
        refine c_Lequal ⟨.int M.n, .int _, .int _, by simp [dp], ?_⟩
        walk_at "go"
        exact ⟨s, _, _, _, _, rfl, hph, ks5, Da.frL f5 (Da.frL f4 dS3 (imm_setup S)) (imm_setup S)⟩
      · walk_at "go"
        have kn := KNe.of ks2.al
        refine c_Lbody ⟨d, nl, t, S, M, rfl, D2, dS2, rfl, ks2.la, fun a ha => (kn.tx a ha).1, so, ks2.mo, by have := ks2.sz.ask; omega, fun v b H3 bok dv f3 D3 => ?_⟩
        have ks3 := ks2.draw f3 D3
        have dS3 := Da.frL f3 dS2 (imm_setup S)
        obtain ⟨dx3, sv3, clv3, e3, _, _⟩ := ks3.se.parts
        walk_at "go"
        refine c_Seller_handle ⟨s, S, num, M, b, rfl, ks3.se, dv, so, ks3.mo, bok, ks3.sz.mono (by omega), fun s' H4 hp' f4 own4 x4 => ?_⟩
        obtain ⟨D4, y4, al4⟩ := ks3.sell f4 own4 x4
        walk_at "go"
        refine c_Lhandle ⟨t, S, M, b, Da.frL f4 dS3 (imm_setup S), rfl, y4, Da.frL f4 dv (imm_dn b), so, ks3.mo, bok, ks3.sz.mono (by omega), fun H5 f5 y5 => ?_⟩
        have ks5 : KS A H5 S d nl s' t num (M.handle S b) (i + 1) := KS.of D4 x4 al4 f5 y5 (shandle_ok ks3.mo bok) (shandle_sz ks3.sz) (by rw [shandle_n]; omega) (by rw [shandle_n]; omega)
        walk_at "go"
        exact ⟨s', _, _, _, _, by rw [hp']; rfl, hp'.trans hph, ks5, Da.frL f5 (Da.frL f4 dS3 (imm_setup S)) (imm_setup S)⟩
    · clear ks dS hk1 hk2 hph
      rintro σ H2 ⟨s, M, v6, v7, v8, rfl, hph, ks, dS⟩
      have kn := KNe.of ks.al
      walk_at "go"
      refine c_Lsame_seller ⟨s, t, S, num, M, dS, rfl, rfl, ks.se, ks.la, kn.st, so, ks.mo, ks.sz.mono (by omega), fun H3 f3 => ?_⟩
      have ks3 := ks.same f3
      have dS3 := Da.frL f3 dS (imm_setup S)
      have D3 := ks3.D
      walk_at "go"
      rename_i y H4 y0 y1 f4 D4
      have ks4 := ks3.draw f4 D4
      have dS4 := Da.frL f4 dS3 (imm_setup S)
      refine g_ite (fun c => ?_) (fun c => ?_)
      · walk_at "go"
        rename_i w H5 w0 w1 f5 D5
        have ks5 := ks4.draw f5 D5
        have dS5 := Da.frL f5 dS4 (imm_setup S)
        refine c_Lsame_out ⟨s, t, S, num, M, [d, nl], w % 3, rfl, rfl, rfl, ks5.se, ks5.la, ks5.al, ks5.sz.mono (by omega), fun s' H6 hp' f6 al6 x6 y6 => ?_⟩
        have kn5 := KNe.of ks5.al
        have nn : ∀ {a : Addr}, (∀ x ∈ s.os, x ≠ a) → (∀ x ∈ t.os, x ≠ a) → a ∉ s.os ++ t.os := fun q r z => (List.mem_append.mp z).elim (fun w => q _ w rfl) (fun w => r _ w rfl)
        have D6 := D5.fr f6 (nn (fun x hx => (kn5.sx x hx).1) fun x hx => (kn5.tx x hx).1) (nn (fun x hx => (kn5.sx x hx).2) fun x hx => (kn5.tx x hx).2)
        walk_at "go"
        exact ⟨s', M.said (w % 3), _, _, _, by first | (rw [hp']; rfl) | rw [hp'], hp'.trans hph, ⟨D6, x6, y6, al6, said_ok ks5.mo, said_sz ks5.sz, by rw [said_n]; exact ks5.n1, by rw [said_n]; exact ks5.n2⟩, Da.frL f6 dS5 (imm_setup S)⟩
      · walk_at "go"
        exact ⟨s, M, _, _, _, rfl, hph, ks4, dS4⟩
  · clear ks8 dS8 hph
    rintro σ H1 ⟨s, M, v6, v7, v8, rfl, hph, ks, dS⟩
    have kn := KNe.of ks.al
    have hi41 : (z % 41).toNat ≤ 40 := by omega
    walk_at "go"
    refine c_Lsame_out ⟨s, t, S, num, M, [d, nl], 2, rfl, rfl, rfl, ks.se, ks.la, ks.al, ks.sz.mono (by omega), fun s' H6 hp' f6 al6 x6 y6 => ?_⟩
    have hsd : M.said 2 = { M with out := [], told := [] } := rfl
    rw [hsd] at x6
    obtain ⟨dx6, sv6, clv6, e6, _, _⟩ := x6.parts
    rw [hp'] at e6
    walk_at "go"
    refine c_Seller_bodies ⟨s', S, num, _, by rw [hp'], x6, fun o H7 n7 f7 x7 lo7 => ?_⟩
    obtain ⟨dx7, sv7, clv7, e7, _, _⟩ := x7.parts
    rw [show SP.p { s' with out := o } = s.p from hp'] at e7
    walk_at "go"
    refine c_Seller_answers ⟨{ s' with out := o }, S, num, _, by rw [← hp'], x7, fun o2 H8 n8 f8 x8 lo8 => ?_⟩
    have lo78 := lo7.fr f8 (nin1 x6.nd.p_out.symm nin0)
    walk_at "go"
    rename_i a1 H9 n9 f9 e9 a2 H10 n10 f10 e10 a3 H11 n11 f11 e11 a4 H12 n12 f12 e12
    have F12 : Fr [] H8 H12 := ((f9.then0 f10).then0 f11).then0 f12
    have i1 : Da H12 (.ref a1) (.list [.list [], .list []]) := .lst (((f10.then0 f11).then0 f12).at0 e9) (Nat.le_of_ble_eq_true rfl) (.cons ((lo78.fr F12 nin0).da (Nat.zero_le _)) (.one' ((lo8.fr F12 nin0).da (Nat.zero_le _))))
    have i2 : Da H12 (.ref a4) (.list [.list [], .list []]) := .lst e12 (Nat.le_of_ble_eq_true rfl) (.cons (.lst ((f11.then0 f12).at0 e10) (Nat.zero_le _) .nil) (.one' (.lst (f12.at0 e11) (Nat.zero_le _) .nil)))
    refine c_Lequal ⟨_, i1, i2, by simp [dp, dpL], ?_⟩
    exact k _
theorem ok_law {f : Addr} {fd : FuncData} (F : Fun K "law" "law" s_law f fd) (T : Txt K mg A) (c_Lsetup : Cal P w K mg base "_law_setup" 3 ["_law_draws"] (sp_Lsetup K A)) (c_Seller_init : CalC P w K mg base "Seller" A.Seller 1 ["self", "setup", "number"] (sp_Seller_init K A)) (c_Lseller : Cal P w K mg base "_law_seller" 1 ["_law_number"] (sp_Lseller K A)) (c_Lnumbers : Cal P w K mg base "_law_numbers" 2 ["_law_script"] (sp_Lnumbers K A)) (c_Ldraw : Cal P w K mg base "_law_draw" 2 ["_law_draws"] (sp_Ldraw K A)) (c_Lsame_out : Cal P w K mg base "_law_same_out" 26 ["_law_seller_here", "_law_model", "_law_pick"] (sp_Lsame_out K A)) (c_Lequal : Cal P w K mg base "_law_equal" 25 ["_law_actual", "_law_due"] (sp_Lequal K A 12)) (c_Ldeed : Cal P w K mg base "_law_deed" 5 ["_law_draws", "_law_setup_here", "_law_number"] (sp_Ldeed K A)) (c_Lbody : Cal P w K mg base "_law_body" 6 ["_law_draws", "_law_setup_here", "_law_model"] (sp_Lbody K A)) (c_Seller_handle : CalM P w K mg base A.Seller "handle" 8 ["self", "body"] (sp_Seller_handle K A)) (c_Lhandle : Cal P w K mg base "_law_handle" 5 ["_law_setup_here", "_law_model", "_law_body_here"] (sp_Lhandle K A)) (c_Lsame_seller : Cal P w K mg base "_law_same_seller" 27 ["_law_setup_here", "_law_seller_here", "_law_model"] (sp_Lsame_seller K A)) (c_Seller_bodies : CalM P w K mg base A.Seller "bodies" 1 ["self"] (sp_Seller_bodies K A)) (c_Seller_answers : CalM P w K mg base A.Seller "answers" 1 ["self"] (sp_Seller_answers K A)) (c_Seller_ask : CalM P w K mg base A.Seller "ask" 7 ["self", "deed"] (sp_Seller_ask K A)) (c_Lask : Cal P w K mg base "_law_ask" 4 ["_law_setup_here", "_law_model", "_law_deed_here"] (sp_Lask K A)) : FnOk P w K mg base CX0 (28) f fd ["_law_script"] (sp_law K A) := by
  refine F.ok sc_law (fun vs H Q E h => ?_) (fun cdv Ar outer s H vs Q E hr h => ⟨t_law K A, ?_, ?_⟩)
  · obtain ⟨x0, rfl, _⟩ := h
    rfl
  · have hu := hu_of hr
    exact (pss_cons (ps_set (i := 1) sc_law.nd rfl (Or.inl rfl) (pe_lst (pa_cons (pe_cl c_Lnumbers (hr.mono (by first | decide | omega)) (by rfl) (pa_cons (pv 0) pa_nil)) (pa_cons pe_int pa_nil))))
    (pss_cons (ps_set (i := 2) sc_law.nd rfl (Or.inl rfl) (pe_cl c_Lsetup (hr.mono (by first | decide | omega)) (by rfl) (pa_cons (pv 1) pa_nil)))
    (pss_cons (ps_set (i := 3) sc_law.nd rfl (Or.inl rfl) (pe_op o_mod (pe_cl c_Ldraw (hr.mono (by first | decide | omega)) (by rfl) (pa_cons (pv 1) pa_nil)) (pe_ix ix_tup (pv 2) pe_int (fun _ _ => rfl))))
    (pss_cons (ps_set (i := 4) sc_law.nd rfl (Or.inl rfl) (pe_mk c_Seller_init (hr.mono (by first | decide | omega)) (by rfl) (pa_cons (pv 2) (pa_cons (pv 3) pa_nil))))
    (pss_cons (ps_set (i := 5) sc_law.nd rfl (Or.inl rfl) (pe_cl c_Lseller (hr.mono (by first | decide | omega)) (by rfl) (pa_cons (pv 3) pa_nil)))
    (pss_cons (ps_for PassesOwn.never rfl (pi_range1 rfl T.b_range (pa_cons (pe_op o_mod (pe_cl c_Ldraw (hr.mono (by first | decide | omega)) (by rfl) (pa_cons (pv 1) pa_nil)) pe_int) pa_nil)) (pg_name (i := 6) sc_law.nd rfl (Or.inl rfl)) (Evl.pss_cut (ps_if (pt_cmpR op_eq (pe_op o_mod (pe_cl c_Ldraw (hr.mono (by first | decide | omega)) (by rfl) (pa_cons (pv 1) pa_nil)) pe_int) pe_int (nomark _)) (pss_cons (ps_set (i := 7) sc_law.nd rfl (Or.inl rfl) (pe_cl c_Ldeed (hr.mono (by first | decide | omega)) (by rfl) (pa_cons (pv 1) (pa_cons (pv 2) (pa_cons (pe_dget hu (pv 5) pe_str (fun _ _ => rfl)) pa_nil)))))
    (pss_one (ps_if (pt_not (pt_val (pe_cl c_Lequal (hr.mono (by first | decide | omega)) (by rfl) (pa_cons (pe_mt (pv 4) T.cl_Seller c_Seller_ask (hr.mono (by first | decide | omega)) (pa_cons (pv 7) pa_nil)) (pa_cons (pe_cl c_Lask (hr.mono (by first | decide | omega)) (by rfl) (pa_cons (pv 2) (pa_cons (pv 5) (pa_cons (pv 7) pa_nil)))) pa_nil))))) (pss_one (ps_ret pe_bl)) pss_nil))) (pss_cons (ps_set (i := 8) sc_law.nd rfl (Or.inl rfl) (pe_cl c_Lbody (hr.mono (by first | decide | omega)) (by rfl) (pa_cons (pv 1) (pa_cons (pv 2) (pa_cons (pv 5) pa_nil)))))
    (pss_cons (ps_expr (pe_mt (pv 4) T.cl_Seller c_Seller_handle (hr.mono (by first | decide | omega)) (pa_cons (pv 8) pa_nil)))
    (pss_one (ps_expr (pe_cl c_Lhandle (hr.mono (by first | decide | omega)) (by rfl) (pa_cons (pv 2) (pa_cons (pv 5) (pa_cons (pv 8) pa_nil)))))))))
    (pss_cons (ps_if (pt_not (pt_val (pe_cl c_Lsame_seller (hr.mono (by first | decide | omega)) (by rfl) (pa_cons (pv 2) (pa_cons (pv 4) (pa_cons (pv 5) pa_nil)))))) (pss_one (ps_ret pe_bl)) pss_nil)
    (pss_one (ps_if (PW.pt (pw_and (pt_cmpR op_eq (pe_op o_mod (pe_cl c_Ldraw (hr.mono (by first | decide | omega)) (by rfl) (pa_cons (pv 1) pa_nil)) pe_int) pe_int (nomark _)) (pw_and1 (pt_not (pt_val (pe_cl c_Lsame_out (hr.mono (by first | decide | omega)) (by rfl) (pa_cons (pv 4) (pa_cons (pv 5) (pa_cons (pe_op o_mod (pe_cl c_Ldraw (hr.mono (by first | decide | omega)) (by rfl) (pa_cons (pv 1) pa_nil)) pe_int) pa_nil))))))))) (pss_one (ps_ret pe_bl)) pss_nil)))))
    (pss_one (ps_ret (pe_and (pe_cl c_Lsame_out (hr.mono (by first | decide | omega)) (by rfl) (pa_cons (pv 4) (pa_cons (pv 5) (pa_cons pe_int pa_nil)))) (pe_one (pe_cl c_Lequal (hr.mono (by first | decide | omega)) (by rfl) (pa_cons (pe_lst (pa_cons (pe_mt0 (pv 4) T.cl_Seller c_Seller_bodies (hr.mono (by first | decide | omega))) (pa_cons (pe_mt0 (pv 4) T.cl_Seller c_Seller_answers (hr.mono (by first | decide | omega))) pa_nil))) (pa_cons (pe_lst (pa_cons (pe_lst pa_nil) (pa_cons (pe_lst pa_nil) pa_nil))) pa_nil)))))))))))))
  · obtain ⟨x0, rfl, h⟩ := h
    exact pu_law T h

end
/-! ### what the top has written -/
theorem all_mk {l : PySem.W.OpenLaw} {w : World} {K : PySem.W.Frag} {h : Heap} {mg : Str → Option Value} {fa : Addr} (X : K.In h) (G : h.Ns mainGlobals mg) (hfa : mg "law" = some (.ref fa))
    {f1 : Addr} {od1 an1 : Option Addr} {sl1 : Array (Option Value)} {oc1 kV1 dc1 pm1 cd1 ct1 : Value}
    {f2 : Addr} {od2 an2 : Option Addr} {sl2 : Array (Option Value)} {oc2 kV2 dc2 pm2 cd2 ct2 : Value}
    {f3 : Addr} {od3 an3 : Option Addr} {sl3 : Array (Option Value)} {oc3 kV3 dc3 pm3 cd3 ct3 : Value}
    {f4 : Addr} {od4 an4 : Option Addr} {sl4 : Array (Option Value)} {oc4 kV4 dc4 pm4 cd4 ct4 : Value}
    {f5 : Addr} {od5 an5 : Option Addr} {sl5 : Array (Option Value)} {oc5 kV5 dc5 pm5 cd5 ct5 : Value}
    {f6 : Addr} {od6 an6 : Option Addr} {sl6 : Array (Option Value)} {oc6 kV6 dc6 pm6 cd6 ct6 : Value}
    {f7 : Addr} {od7 an7 : Option Addr} {sl7 : Array (Option Value)} {oc7 kV7 dc7 pm7 cd7 ct7 : Value}
    {f8 : Addr} {od8 an8 : Option Addr} {sl8 : Array (Option Value)} {oc8 kV8 dc8 pm8 cd8 ct8 : Value}
    {f9 : Addr} {od9 an9 : Option Addr} {sl9 : Array (Option Value)} {oc9 kV9 dc9 pm9 cd9 ct9 : Value}
    {f10 : Addr} {od10 an10 : Option Addr} {sl10 : Array (Option Value)} {oc10 kV10 dc10 pm10 cd10 ct10 : Value}
    {f11 : Addr} {od11 an11 : Option Addr} {sl11 : Array (Option Value)} {oc11 kV11 dc11 pm11 cd11 ct11 : Value}
    {f12 : Addr} {od12 an12 : Option Addr} {sl12 : Array (Option Value)} {oc12 kV12 dc12 pm12 cd12 ct12 : Value}
    {f13 : Addr} {od13 an13 : Option Addr} {sl13 : Array (Option Value)} {oc13 kV13 dc13 pm13 cd13 ct13 : Value}
    {f14 : Addr} {od14 an14 : Option Addr} {sl14 : Array (Option Value)} {oc14 kV14 dc14 pm14 cd14 ct14 : Value}
    {f15 : Addr} {od15 an15 : Option Addr} {sl15 : Array (Option Value)} {oc15 kV15 dc15 pm15 cd15 ct15 : Value}
    {f16 : Addr} {od16 an16 : Option Addr} {sl16 : Array (Option Value)} {oc16 kV16 dc16 pm16 cd16 ct16 : Value}
    {f17 : Addr} {od17 an17 : Option Addr} {sl17 : Array (Option Value)} {oc17 kV17 dc17 pm17 cd17 ct17 : Value}
    {f18 : Addr} {od18 an18 : Option Addr} {sl18 : Array (Option Value)} {oc18 kV18 dc18 pm18 cd18 ct18 : Value}
    {f19 : Addr} {od19 an19 : Option Addr} {sl19 : Array (Option Value)} {oc19 kV19 dc19 pm19 cd19 ct19 : Value}
    {f20 : Addr} {od20 an20 : Option Addr} {sl20 : Array (Option Value)} {oc20 kV20 dc20 pm20 cd20 ct20 : Value}
    {f21 : Addr} {od21 an21 : Option Addr} {sl21 : Array (Option Value)} {oc21 kV21 dc21 pm21 cd21 ct21 : Value}
    {f22 : Addr} {od22 an22 : Option Addr} {sl22 : Array (Option Value)} {oc22 kV22 dc22 pm22 cd22 ct22 : Value}
    {f23 : Addr} {od23 an23 : Option Addr} {sl23 : Array (Option Value)} {oc23 kV23 dc23 pm23 cd23 ct23 : Value}
    {f24 : Addr} {od24 an24 : Option Addr} {sl24 : Array (Option Value)} {oc24 kV24 dc24 pm24 cd24 ct24 : Value}
    {f25 : Addr} {od25 an25 : Option Addr} {sl25 : Array (Option Value)} {oc25 kV25 dc25 pm25 cd25 ct25 : Value}
    {f26 : Addr} {od26 an26 : Option Addr} {sl26 : Array (Option Value)} {oc26 kV26 dc26 pm26 cd26 ct26 : Value}
    {f27 : Addr} {od27 an27 : Option Addr} {sl27 : Array (Option Value)} {oc27 kV27 dc27 pm27 cd27 ct27 : Value}
    {f28 : Addr} {od28 an28 : Option Addr} {sl28 : Array (Option Value)} {oc28 kV28 dc28 pm28 cd28 ct28 : Value}
    {f29 : Addr} {od29 an29 : Option Addr} {sl29 : Array (Option Value)} {oc29 kV29 dc29 pm29 cd29 ct29 : Value}
    {f30 : Addr} {od30 an30 : Option Addr} {sl30 : Array (Option Value)} {oc30 kV30 dc30 pm30 cd30 ct30 : Value}
    {f31 : Addr} {od31 an31 : Option Addr} {sl31 : Array (Option Value)} {oc31 kV31 dc31 pm31 cd31 ct31 : Value}
    {f32 : Addr} {od32 an32 : Option Addr} {sl32 : Array (Option Value)} {oc32 kV32 dc32 pm32 cd32 ct32 : Value}
    {f33 : Addr} {od33 an33 : Option Addr} {sl33 : Array (Option Value)} {oc33 kV33 dc33 pm33 cd33 ct33 : Value}
    {f34 : Addr} {od34 an34 : Option Addr} {sl34 : Array (Option Value)} {oc34 kV34 dc34 pm34 cd34 ct34 : Value}
    {f35 : Addr} {od35 an35 : Option Addr} {sl35 : Array (Option Value)} {oc35 kV35 dc35 pm35 cd35 ct35 : Value}
    {f36 : Addr} {od36 an36 : Option Addr} {sl36 : Array (Option Value)} {oc36 kV36 dc36 pm36 cd36 ct36 : Value}
    {f37 : Addr} {od37 an37 : Option Addr} {sl37 : Array (Option Value)} {oc37 kV37 dc37 pm37 cd37 ct37 : Value}
    {f38 : Addr} {od38 an38 : Option Addr} {sl38 : Array (Option Value)} {oc38 kV38 dc38 pm38 cd38 ct38 : Value}
    {f39 : Addr} {od39 an39 : Option Addr} {sl39 : Array (Option Value)} {oc39 kV39 dc39 pm39 cd39 ct39 : Value}
    {f40 : Addr} {od40 an40 : Option Addr} {sl40 : Array (Option Value)} {oc40 kV40 dc40 pm40 cd40 ct40 : Value}
    {f41 : Addr} {od41 an41 : Option Addr} {sl41 : Array (Option Value)} {oc41 kV41 dc41 pm41 cd41 ct41 : Value}
    {f42 : Addr} {od42 an42 : Option Addr} {sl42 : Array (Option Value)} {oc42 kV42 dc42 pm42 cd42 ct42 : Value}
    {f43 : Addr} {od43 an43 : Option Addr} {sl43 : Array (Option Value)} {oc43 kV43 dc43 pm43 cd43 ct43 : Value}
    {f44 : Addr} {od44 an44 : Option Addr} {sl44 : Array (Option Value)} {oc44 kV44 dc44 pm44 cd44 ct44 : Value}
    {f45 : Addr} {od45 an45 : Option Addr} {sl45 : Array (Option Value)} {oc45 kV45 dc45 pm45 cd45 ct45 : Value}
    {f46 : Addr} {od46 an46 : Option Addr} {sl46 : Array (Option Value)} {oc46 kV46 dc46 pm46 cd46 ct46 : Value}
    {f47 : Addr} {od47 an47 : Option Addr} {sl47 : Array (Option Value)} {oc47 kV47 dc47 pm47 cd47 ct47 : Value}
    {f48 : Addr} {od48 an48 : Option Addr} {sl48 : Array (Option Value)} {oc48 kV48 dc48 pm48 cd48 ct48 : Value}
    {f49 : Addr} {od49 an49 : Option Addr} {sl49 : Array (Option Value)} {oc49 kV49 dc49 pm49 cd49 ct49 : Value}
    {f50 : Addr} {od50 an50 : Option Addr} {sl50 : Array (Option Value)} {oc50 kV50 dc50 pm50 cd50 ct50 : Value}
    {f51 : Addr} {od51 an51 : Option Addr} {sl51 : Array (Option Value)} {oc51 kV51 dc51 pm51 cd51 ct51 : Value}
    {f52 : Addr} {od52 an52 : Option Addr} {sl52 : Array (Option Value)} {oc52 kV52 dc52 pm52 cd52 ct52 : Value}
    {f53 : Addr} {od53 an53 : Option Addr} {sl53 : Array (Option Value)} {oc53 kV53 dc53 pm53 cd53 ct53 : Value}
    {C_Seller : Addr}
    (aC_Seller : PySem.W.nsIn K mainGlobals "Seller" = some (some (.ref C_Seller)))
    (a1 : PySem.W.nsIn K mainGlobals "nights_of" = some (some (.ref f1)))
    (l1 : K.lookup f1 = some ⟨oc1, od1, .func (PySem.W.fnOf "nights_of" "nights_of" (defArgs s_nights_of) (defBody s_nights_of) (defScope s_nights_of) .none kV1 dc1 pm1 an1 cd1 ct1), sl1⟩)
    (c1 : PySem.W.codeIn K cd1 "nights_of" = true)
    (k1 : PySem.W.keepIn K (.ref f1) = true)
    (a2 : PySem.W.nsIn K mainGlobals "needs_of" = some (some (.ref f2)))
    (l2 : K.lookup f2 = some ⟨oc2, od2, .func (PySem.W.fnOf "needs_of" "needs_of" (defArgs s_needs_of) (defBody s_needs_of) (defScope s_needs_of) .none kV2 dc2 pm2 an2 cd2 ct2), sl2⟩)
    (c2 : PySem.W.codeIn K cd2 "needs_of" = true)
    (k2 : PySem.W.keepIn K (.ref f2) = true)
    (a3 : PySem.W.nsIn K mainGlobals "price_of" = some (some (.ref f3)))
    (l3 : K.lookup f3 = some ⟨oc3, od3, .func (PySem.W.fnOf "price_of" "price_of" (defArgs s_price_of) (defBody s_price_of) (defScope s_price_of) .none kV3 dc3 pm3 an3 cd3 ct3), sl3⟩)
    (c3 : PySem.W.codeIn K cd3 "price_of" = true)
    (k3 : PySem.W.keepIn K (.ref f3) = true)
    (a4 : PySem.W.nsIn K mainGlobals "kept_of" = some (some (.ref f4)))
    (l4 : K.lookup f4 = some ⟨oc4, od4, .func (PySem.W.fnOf "kept_of" "kept_of" (defArgs s_kept_of) (defBody s_kept_of) (defScope s_kept_of) .none kV4 dc4 pm4 an4 cd4 ct4), sl4⟩)
    (c4 : PySem.W.codeIn K cd4 "kept_of" = true)
    (k4 : PySem.W.keepIn K (.ref f4) = true)
    (a5 : PySem.W.findIn K (.ref C_Seller) "__init__" = some (some (.ref f5)))
    (i5 : PySem.W.isFn K (.ref f5) = true)
    (l5 : K.lookup f5 = some ⟨oc5, od5, .func (PySem.W.fnOf "__init__" "Seller.__init__" (defArgs s_Seller_init) (defBody s_Seller_init) (defScope s_Seller_init) .none kV5 dc5 pm5 an5 cd5 ct5), sl5⟩)
    (c5 : PySem.W.codeIn K cd5 "Seller.__init__" = true)
    (k5 : PySem.W.keepIn K (.ref f5) = true)
    (a6 : PySem.W.findIn K (.ref C_Seller) "bodies" = some (some (.ref f6)))
    (i6 : PySem.W.isFn K (.ref f6) = true)
    (l6 : K.lookup f6 = some ⟨oc6, od6, .func (PySem.W.fnOf "bodies" "Seller.bodies" (defArgs s_Seller_bodies) (defBody s_Seller_bodies) (defScope s_Seller_bodies) .none kV6 dc6 pm6 an6 cd6 ct6), sl6⟩)
    (c6 : PySem.W.codeIn K cd6 "Seller.bodies" = true)
    (k6 : PySem.W.keepIn K (.ref f6) = true)
    (a7 : PySem.W.findIn K (.ref C_Seller) "answers" = some (some (.ref f7)))
    (i7 : PySem.W.isFn K (.ref f7) = true)
    (l7 : K.lookup f7 = some ⟨oc7, od7, .func (PySem.W.fnOf "answers" "Seller.answers" (defArgs s_Seller_answers) (defBody s_Seller_answers) (defScope s_Seller_answers) .none kV7 dc7 pm7 an7 cd7 ct7), sl7⟩)
    (c7 : PySem.W.codeIn K cd7 "Seller.answers" = true)
    (k7 : PySem.W.keepIn K (.ref f7) = true)
    (a8 : PySem.W.findIn K (.ref C_Seller) "voucher" = some (some (.ref f8)))
    (i8 : PySem.W.isFn K (.ref f8) = true)
    (l8 : K.lookup f8 = some ⟨oc8, od8, .func (PySem.W.fnOf "voucher" "Seller.voucher" (defArgs s_Seller_voucher) (defBody s_Seller_voucher) (defScope s_Seller_voucher) .none kV8 dc8 pm8 an8 cd8 ct8), sl8⟩)
    (c8 : PySem.W.codeIn K cd8 "Seller.voucher" = true)
    (k8 : PySem.W.keepIn K (.ref f8) = true)
    (a9 : PySem.W.findIn K (.ref C_Seller) "must_wait" = some (some (.ref f9)))
    (i9 : PySem.W.isFn K (.ref f9) = true)
    (l9 : K.lookup f9 = some ⟨oc9, od9, .func (PySem.W.fnOf "must_wait" "Seller.must_wait" (defArgs s_Seller_must_wait) (defBody s_Seller_must_wait) (defScope s_Seller_must_wait) .none kV9 dc9 pm9 an9 cd9 ct9), sl9⟩)
    (c9 : PySem.W.codeIn K cd9 "Seller.must_wait" = true)
    (k9 : PySem.W.keepIn K (.ref f9) = true)
    (a10 : PySem.W.findIn K (.ref C_Seller) "lack" = some (some (.ref f10)))
    (i10 : PySem.W.isFn K (.ref f10) = true)
    (l10 : K.lookup f10 = some ⟨oc10, od10, .func (PySem.W.fnOf "lack" "Seller.lack" (defArgs s_Seller_lack) (defBody s_Seller_lack) (defScope s_Seller_lack) .none kV10 dc10 pm10 an10 cd10 ct10), sl10⟩)
    (c10 : PySem.W.codeIn K cd10 "Seller.lack" = true)
    (k10 : PySem.W.keepIn K (.ref f10) = true)
    (a11 : PySem.W.findIn K (.ref C_Seller) "add" = some (some (.ref f11)))
    (i11 : PySem.W.isFn K (.ref f11) = true)
    (l11 : K.lookup f11 = some ⟨oc11, od11, .func (PySem.W.fnOf "add" "Seller.add" (defArgs s_Seller_add) (defBody s_Seller_add) (defScope s_Seller_add) .none kV11 dc11 pm11 an11 cd11 ct11), sl11⟩)
    (c11 : PySem.W.codeIn K cd11 "Seller.add" = true)
    (k11 : PySem.W.keepIn K (.ref f11) = true)
    (a12 : PySem.W.findIn K (.ref C_Seller) "prices" = some (some (.ref f12)))
    (i12 : PySem.W.isFn K (.ref f12) = true)
    (l12 : K.lookup f12 = some ⟨oc12, od12, .func (PySem.W.fnOf "prices" "Seller.prices" (defArgs s_Seller_prices) (defBody s_Seller_prices) (defScope s_Seller_prices) .none kV12 dc12 pm12 an12 cd12 ct12), sl12⟩)
    (c12 : PySem.W.codeIn K cd12 "Seller.prices" = true)
    (k12 : PySem.W.keepIn K (.ref f12) = true)
    (a13 : PySem.W.findIn K (.ref C_Seller) "write" = some (some (.ref f13)))
    (i13 : PySem.W.isFn K (.ref f13) = true)
    (l13 : K.lookup f13 = some ⟨oc13, od13, .func (PySem.W.fnOf "write" "Seller.write" (defArgs s_Seller_write) (defBody s_Seller_write) (defScope s_Seller_write) .none kV13 dc13 pm13 an13 cd13 ct13), sl13⟩)
    (c13 : PySem.W.codeIn K cd13 "Seller.write" = true)
    (k13 : PySem.W.keepIn K (.ref f13) = true)
    (a14 : PySem.W.findIn K (.ref C_Seller) "cancel" = some (some (.ref f14)))
    (i14 : PySem.W.isFn K (.ref f14) = true)
    (l14 : K.lookup f14 = some ⟨oc14, od14, .func (PySem.W.fnOf "cancel" "Seller.cancel" (defArgs s_Seller_cancel) (defBody s_Seller_cancel) (defScope s_Seller_cancel) .none kV14 dc14 pm14 an14 cd14 ct14), sl14⟩)
    (c14 : PySem.W.codeIn K cd14 "Seller.cancel" = true)
    (k14 : PySem.W.keepIn K (.ref f14) = true)
    (a15 : PySem.W.findIn K (.ref C_Seller) "keep" = some (some (.ref f15)))
    (i15 : PySem.W.isFn K (.ref f15) = true)
    (l15 : K.lookup f15 = some ⟨oc15, od15, .func (PySem.W.fnOf "keep" "Seller.keep" (defArgs s_Seller_keep) (defBody s_Seller_keep) (defScope s_Seller_keep) .none kV15 dc15 pm15 an15 cd15 ct15), sl15⟩)
    (c15 : PySem.W.codeIn K cd15 "Seller.keep" = true)
    (k15 : PySem.W.keepIn K (.ref f15) = true)
    (a16 : PySem.W.findIn K (.ref C_Seller) "do" = some (some (.ref f16)))
    (i16 : PySem.W.isFn K (.ref f16) = true)
    (l16 : K.lookup f16 = some ⟨oc16, od16, .func (PySem.W.fnOf "do" "Seller.do" (defArgs s_Seller_do) (defBody s_Seller_do) (defScope s_Seller_do) .none kV16 dc16 pm16 an16 cd16 ct16), sl16⟩)
    (c16 : PySem.W.codeIn K cd16 "Seller.do" = true)
    (k16 : PySem.W.keepIn K (.ref f16) = true)
    (a17 : PySem.W.findIn K (.ref C_Seller) "ask" = some (some (.ref f17)))
    (i17 : PySem.W.isFn K (.ref f17) = true)
    (l17 : K.lookup f17 = some ⟨oc17, od17, .func (PySem.W.fnOf "ask" "Seller.ask" (defArgs s_Seller_ask) (defBody s_Seller_ask) (defScope s_Seller_ask) .none kV17 dc17 pm17 an17 cd17 ct17), sl17⟩)
    (c17 : PySem.W.codeIn K cd17 "Seller.ask" = true)
    (k17 : PySem.W.keepIn K (.ref f17) = true)
    (a18 : PySem.W.findIn K (.ref C_Seller) "close" = some (some (.ref f18)))
    (i18 : PySem.W.isFn K (.ref f18) = true)
    (l18 : K.lookup f18 = some ⟨oc18, od18, .func (PySem.W.fnOf "close" "Seller.close" (defArgs s_Seller_close) (defBody s_Seller_close) (defScope s_Seller_close) .none kV18 dc18 pm18 an18 cd18 ct18), sl18⟩)
    (c18 : PySem.W.codeIn K cd18 "Seller.close" = true)
    (k18 : PySem.W.keepIn K (.ref f18) = true)
    (a19 : PySem.W.findIn K (.ref C_Seller) "reopen" = some (some (.ref f19)))
    (i19 : PySem.W.isFn K (.ref f19) = true)
    (l19 : K.lookup f19 = some ⟨oc19, od19, .func (PySem.W.fnOf "reopen" "Seller.reopen" (defArgs s_Seller_reopen) (defBody s_Seller_reopen) (defScope s_Seller_reopen) .none kV19 dc19 pm19 an19 cd19 ct19), sl19⟩)
    (c19 : PySem.W.codeIn K cd19 "Seller.reopen" = true)
    (k19 : PySem.W.keepIn K (.ref f19) = true)
    (a20 : PySem.W.findIn K (.ref C_Seller) "handle" = some (some (.ref f20)))
    (i20 : PySem.W.isFn K (.ref f20) = true)
    (l20 : K.lookup f20 = some ⟨oc20, od20, .func (PySem.W.fnOf "handle" "Seller.handle" (defArgs s_Seller_handle) (defBody s_Seller_handle) (defScope s_Seller_handle) .none kV20 dc20 pm20 an20 cd20 ct20), sl20⟩)
    (c20 : PySem.W.codeIn K cd20 "Seller.handle" = true)
    (k20 : PySem.W.keepIn K (.ref f20) = true)
    (a21 : PySem.W.nsIn K mainGlobals "_law_mixed" = some (some (.ref f21)))
    (l21 : K.lookup f21 = some ⟨oc21, od21, .func (PySem.W.fnOf "_law_mixed" "_law_mixed" (defArgs s_Lmixed) (defBody s_Lmixed) (defScope s_Lmixed) .none kV21 dc21 pm21 an21 cd21 ct21), sl21⟩)
    (c21 : PySem.W.codeIn K cd21 "_law_mixed" = true)
    (k21 : PySem.W.keepIn K (.ref f21) = true)
    (a22 : PySem.W.nsIn K mainGlobals "_law_numbers" = some (some (.ref f22)))
    (l22 : K.lookup f22 = some ⟨oc22, od22, .func (PySem.W.fnOf "_law_numbers" "_law_numbers" (defArgs s_Lnumbers) (defBody s_Lnumbers) (defScope s_Lnumbers) .none kV22 dc22 pm22 an22 cd22 ct22), sl22⟩)
    (c22 : PySem.W.codeIn K cd22 "_law_numbers" = true)
    (k22 : PySem.W.keepIn K (.ref f22) = true)
    (a23 : PySem.W.nsIn K mainGlobals "_law_draw" = some (some (.ref f23)))
    (l23 : K.lookup f23 = some ⟨oc23, od23, .func (PySem.W.fnOf "_law_draw" "_law_draw" (defArgs s_Ldraw) (defBody s_Ldraw) (defScope s_Ldraw) .none kV23 dc23 pm23 an23 cd23 ct23), sl23⟩)
    (c23 : PySem.W.codeIn K cd23 "_law_draw" = true)
    (k23 : PySem.W.keepIn K (.ref f23) = true)
    (a24 : PySem.W.nsIn K mainGlobals "_law_equal" = some (some (.ref f24)))
    (l24 : K.lookup f24 = some ⟨oc24, od24, .func (PySem.W.fnOf "_law_equal" "_law_equal" (defArgs s_Lequal) (defBody s_Lequal) (defScope s_Lequal) .none kV24 dc24 pm24 an24 cd24 ct24), sl24⟩)
    (c24 : PySem.W.codeIn K cd24 "_law_equal" = true)
    (k24 : PySem.W.keepIn K (.ref f24) = true)
    (a25 : PySem.W.nsIn K mainGlobals "_law_all_equal" = some (some (.ref f25)))
    (l25 : K.lookup f25 = some ⟨oc25, od25, .func (PySem.W.fnOf "_law_all_equal" "_law_all_equal" (defArgs s_Lall_equal) (defBody s_Lall_equal) (defScope s_Lall_equal) .none kV25 dc25 pm25 an25 cd25 ct25), sl25⟩)
    (c25 : PySem.W.codeIn K cd25 "_law_all_equal" = true)
    (k25 : PySem.W.keepIn K (.ref f25) = true)
    (a26 : PySem.W.nsIn K mainGlobals "_law_setup" = some (some (.ref f26)))
    (l26 : K.lookup f26 = some ⟨oc26, od26, .func (PySem.W.fnOf "_law_setup" "_law_setup" (defArgs s_Lsetup) (defBody s_Lsetup) (defScope s_Lsetup) .none kV26 dc26 pm26 an26 cd26 ct26), sl26⟩)
    (c26 : PySem.W.codeIn K cd26 "_law_setup" = true)
    (k26 : PySem.W.keepIn K (.ref f26) = true)
    (a27 : PySem.W.nsIn K mainGlobals "_law_stay" = some (some (.ref f27)))
    (l27 : K.lookup f27 = some ⟨oc27, od27, .func (PySem.W.fnOf "_law_stay" "_law_stay" (defArgs s_Lstay) (defBody s_Lstay) (defScope s_Lstay) .none kV27 dc27 pm27 an27 cd27 ct27), sl27⟩)
    (c27 : PySem.W.codeIn K cd27 "_law_stay" = true)
    (k27 : PySem.W.keepIn K (.ref f27) = true)
    (a28 : PySem.W.nsIn K mainGlobals "_law_party" = some (some (.ref f28)))
    (l28 : K.lookup f28 = some ⟨oc28, od28, .func (PySem.W.fnOf "_law_party" "_law_party" (defArgs s_Lparty) (defBody s_Lparty) (defScope s_Lparty) .none kV28 dc28 pm28 an28 cd28 ct28), sl28⟩)
    (c28 : PySem.W.codeIn K cd28 "_law_party" = true)
    (k28 : PySem.W.keepIn K (.ref f28) = true)
    (a29 : PySem.W.nsIn K mainGlobals "_law_needs" = some (some (.ref f29)))
    (l29 : K.lookup f29 = some ⟨oc29, od29, .func (PySem.W.fnOf "_law_needs" "_law_needs" (defArgs s_Lneeds) (defBody s_Lneeds) (defScope s_Lneeds) .none kV29 dc29 pm29 an29 cd29 ct29), sl29⟩)
    (c29 : PySem.W.codeIn K cd29 "_law_needs" = true)
    (k29 : PySem.W.keepIn K (.ref f29) = true)
    (a30 : PySem.W.nsIn K mainGlobals "_law_price" = some (some (.ref f30)))
    (l30 : K.lookup f30 = some ⟨oc30, od30, .func (PySem.W.fnOf "_law_price" "_law_price" (defArgs s_Lprice) (defBody s_Lprice) (defScope s_Lprice) .none kV30 dc30 pm30 an30 cd30 ct30), sl30⟩)
    (c30 : PySem.W.codeIn K cd30 "_law_price" = true)
    (k30 : PySem.W.keepIn K (.ref f30) = true)
    (a31 : PySem.W.nsIn K mainGlobals "_law_kept" = some (some (.ref f31)))
    (l31 : K.lookup f31 = some ⟨oc31, od31, .func (PySem.W.fnOf "_law_kept" "_law_kept" (defArgs s_Lkept) (defBody s_Lkept) (defScope s_Lkept) .none kV31 dc31 pm31 an31 cd31 ct31), sl31⟩)
    (c31 : PySem.W.codeIn K cd31 "_law_kept" = true)
    (k31 : PySem.W.keepIn K (.ref f31) = true)
    (a32 : PySem.W.nsIn K mainGlobals "_law_seller" = some (some (.ref f32)))
    (l32 : K.lookup f32 = some ⟨oc32, od32, .func (PySem.W.fnOf "_law_seller" "_law_seller" (defArgs s_Lseller) (defBody s_Lseller) (defScope s_Lseller) .none kV32 dc32 pm32 an32 cd32 ct32), sl32⟩)
    (c32 : PySem.W.codeIn K cd32 "_law_seller" = true)
    (k32 : PySem.W.keepIn K (.ref f32) = true)
    (a33 : PySem.W.nsIn K mainGlobals "_law_row" = some (some (.ref f33)))
    (l33 : K.lookup f33 = some ⟨oc33, od33, .func (PySem.W.fnOf "_law_row" "_law_row" (defArgs s_Lrow) (defBody s_Lrow) (defScope s_Lrow) .none kV33 dc33 pm33 an33 cd33 ct33), sl33⟩)
    (c33 : PySem.W.codeIn K cd33 "_law_row" = true)
    (k33 : PySem.W.keepIn K (.ref f33) = true)
    (a34 : PySem.W.nsIn K mainGlobals "_law_add" = some (some (.ref f34)))
    (l34 : K.lookup f34 = some ⟨oc34, od34, .func (PySem.W.fnOf "_law_add" "_law_add" (defArgs s_Ladd) (defBody s_Ladd) (defScope s_Ladd) .none kV34 dc34 pm34 an34 cd34 ct34), sl34⟩)
    (c34 : PySem.W.codeIn K cd34 "_law_add" = true)
    (k34 : PySem.W.keepIn K (.ref f34) = true)
    (a35 : PySem.W.nsIn K mainGlobals "_law_less" = some (some (.ref f35)))
    (l35 : K.lookup f35 = some ⟨oc35, od35, .func (PySem.W.fnOf "_law_less" "_law_less" (defArgs s_Lless) (defBody s_Lless) (defScope s_Lless) .none kV35 dc35 pm35 an35 cd35 ct35), sl35⟩)
    (c35 : PySem.W.codeIn K cd35 "_law_less" = true)
    (k35 : PySem.W.keepIn K (.ref f35) = true)
    (a36 : PySem.W.nsIn K mainGlobals "_law_sold" = some (some (.ref f36)))
    (l36 : K.lookup f36 = some ⟨oc36, od36, .func (PySem.W.fnOf "_law_sold" "_law_sold" (defArgs s_Lsold) (defBody s_Lsold) (defScope s_Lsold) .none kV36 dc36 pm36 an36 cd36 ct36), sl36⟩)
    (c36 : PySem.W.codeIn K cd36 "_law_sold" = true)
    (k36 : PySem.W.keepIn K (.ref f36) = true)
    (a37 : PySem.W.nsIn K mainGlobals "_law_changed" = some (some (.ref f37)))
    (l37 : K.lookup f37 = some ⟨oc37, od37, .func (PySem.W.fnOf "_law_changed" "_law_changed" (defArgs s_Lchanged) (defBody s_Lchanged) (defScope s_Lchanged) .none kV37 dc37 pm37 an37 cd37 ct37), sl37⟩)
    (c37 : PySem.W.codeIn K cd37 "_law_changed" = true)
    (k37 : PySem.W.keepIn K (.ref f37) = true)
    (a38 : PySem.W.nsIn K mainGlobals "_law_must_wait" = some (some (.ref f38)))
    (l38 : K.lookup f38 = some ⟨oc38, od38, .func (PySem.W.fnOf "_law_must_wait" "_law_must_wait" (defArgs s_Lmust_wait) (defBody s_Lmust_wait) (defScope s_Lmust_wait) .none kV38 dc38 pm38 an38 cd38 ct38), sl38⟩)
    (c38 : PySem.W.codeIn K cd38 "_law_must_wait" = true)
    (k38 : PySem.W.keepIn K (.ref f38) = true)
    (a39 : PySem.W.nsIn K mainGlobals "_law_lack" = some (some (.ref f39)))
    (l39 : K.lookup f39 = some ⟨oc39, od39, .func (PySem.W.fnOf "_law_lack" "_law_lack" (defArgs s_Llack) (defBody s_Llack) (defScope s_Llack) .none kV39 dc39 pm39 an39 cd39 ct39), sl39⟩)
    (c39 : PySem.W.codeIn K cd39 "_law_lack" = true)
    (k39 : PySem.W.keepIn K (.ref f39) = true)
    (a40 : PySem.W.nsIn K mainGlobals "_law_do" = some (some (.ref f40)))
    (l40 : K.lookup f40 = some ⟨oc40, od40, .func (PySem.W.fnOf "_law_do" "_law_do" (defArgs s_Ldo) (defBody s_Ldo) (defScope s_Ldo) .none kV40 dc40 pm40 an40 cd40 ct40), sl40⟩)
    (c40 : PySem.W.codeIn K cd40 "_law_do" = true)
    (k40 : PySem.W.keepIn K (.ref f40) = true)
    (a41 : PySem.W.nsIn K mainGlobals "_law_ask" = some (some (.ref f41)))
    (l41 : K.lookup f41 = some ⟨oc41, od41, .func (PySem.W.fnOf "_law_ask" "_law_ask" (defArgs s_Lask) (defBody s_Lask) (defScope s_Lask) .none kV41 dc41 pm41 an41 cd41 ct41), sl41⟩)
    (c41 : PySem.W.codeIn K cd41 "_law_ask" = true)
    (k41 : PySem.W.keepIn K (.ref f41) = true)
    (a42 : PySem.W.nsIn K mainGlobals "_law_granted" = some (some (.ref f42)))
    (l42 : K.lookup f42 = some ⟨oc42, od42, .func (PySem.W.fnOf "_law_granted" "_law_granted" (defArgs s_Lgranted) (defBody s_Lgranted) (defScope s_Lgranted) .none kV42 dc42 pm42 an42 cd42 ct42), sl42⟩)
    (c42 : PySem.W.codeIn K cd42 "_law_granted" = true)
    (k42 : PySem.W.keepIn K (.ref f42) = true)
    (a43 : PySem.W.nsIn K mainGlobals "_law_opened" = some (some (.ref f43)))
    (l43 : K.lookup f43 = some ⟨oc43, od43, .func (PySem.W.fnOf "_law_opened" "_law_opened" (defArgs s_Lopened) (defBody s_Lopened) (defScope s_Lopened) .none kV43 dc43 pm43 an43 cd43 ct43), sl43⟩)
    (c43 : PySem.W.codeIn K cd43 "_law_opened" = true)
    (k43 : PySem.W.keepIn K (.ref f43) = true)
    (a44 : PySem.W.nsIn K mainGlobals "_law_handle" = some (some (.ref f44)))
    (l44 : K.lookup f44 = some ⟨oc44, od44, .func (PySem.W.fnOf "_law_handle" "_law_handle" (defArgs s_Lhandle) (defBody s_Lhandle) (defScope s_Lhandle) .none kV44 dc44 pm44 an44 cd44 ct44), sl44⟩)
    (c44 : PySem.W.codeIn K cd44 "_law_handle" = true)
    (k44 : PySem.W.keepIn K (.ref f44) = true)
    (a45 : PySem.W.nsIn K mainGlobals "_law_deed" = some (some (.ref f45)))
    (l45 : K.lookup f45 = some ⟨oc45, od45, .func (PySem.W.fnOf "_law_deed" "_law_deed" (defArgs s_Ldeed) (defBody s_Ldeed) (defScope s_Ldeed) .none kV45 dc45 pm45 an45 cd45 ct45), sl45⟩)
    (c45 : PySem.W.codeIn K cd45 "_law_deed" = true)
    (k45 : PySem.W.keepIn K (.ref f45) = true)
    (a46 : PySem.W.nsIn K mainGlobals "_law_same_free" = some (some (.ref f46)))
    (l46 : K.lookup f46 = some ⟨oc46, od46, .func (PySem.W.fnOf "_law_same_free" "_law_same_free" (defArgs s_Lsame_free) (defBody s_Lsame_free) (defScope s_Lsame_free) .none kV46 dc46 pm46 an46 cd46 ct46), sl46⟩)
    (c46 : PySem.W.codeIn K cd46 "_law_same_free" = true)
    (k46 : PySem.W.keepIn K (.ref f46) = true)
    (a47 : PySem.W.nsIn K mainGlobals "_law_same_rows" = some (some (.ref f47)))
    (l47 : K.lookup f47 = some ⟨oc47, od47, .func (PySem.W.fnOf "_law_same_rows" "_law_same_rows" (defArgs s_Lsame_rows) (defBody s_Lsame_rows) (defScope s_Lsame_rows) .none kV47 dc47 pm47 an47 cd47 ct47), sl47⟩)
    (c47 : PySem.W.codeIn K cd47 "_law_same_rows" = true)
    (k47 : PySem.W.keepIn K (.ref f47) = true)
    (a48 : PySem.W.nsIn K mainGlobals "_law_same_seller" = some (some (.ref f48)))
    (l48 : K.lookup f48 = some ⟨oc48, od48, .func (PySem.W.fnOf "_law_same_seller" "_law_same_seller" (defArgs s_Lsame_seller) (defBody s_Lsame_seller) (defScope s_Lsame_seller) .none kV48 dc48 pm48 an48 cd48 ct48), sl48⟩)
    (c48 : PySem.W.codeIn K cd48 "_law_same_seller" = true)
    (k48 : PySem.W.keepIn K (.ref f48) = true)
    (a49 : PySem.W.nsIn K mainGlobals "_law_same_out" = some (some (.ref f49)))
    (l49 : K.lookup f49 = some ⟨oc49, od49, .func (PySem.W.fnOf "_law_same_out" "_law_same_out" (defArgs s_Lsame_out) (defBody s_Lsame_out) (defScope s_Lsame_out) .none kV49 dc49 pm49 an49 cd49 ct49), sl49⟩)
    (c49 : PySem.W.codeIn K cd49 "_law_same_out" = true)
    (k49 : PySem.W.keepIn K (.ref f49) = true)
    (a50 : PySem.W.nsIn K mainGlobals "_law_cells" = some (some (.ref f50)))
    (l50 : K.lookup f50 = some ⟨oc50, od50, .func (PySem.W.fnOf "_law_cells" "_law_cells" (defArgs s_Lcells) (defBody s_Lcells) (defScope s_Lcells) .none kV50 dc50 pm50 an50 cd50 ct50), sl50⟩)
    (c50 : PySem.W.codeIn K cd50 "_law_cells" = true)
    (k50 : PySem.W.keepIn K (.ref f50) = true)
    (a51 : PySem.W.nsIn K mainGlobals "_law_closing" = some (some (.ref f51)))
    (l51 : K.lookup f51 = some ⟨oc51, od51, .func (PySem.W.fnOf "_law_closing" "_law_closing" (defArgs s_Lclosing) (defBody s_Lclosing) (defScope s_Lclosing) .none kV51 dc51 pm51 an51 cd51 ct51), sl51⟩)
    (c51 : PySem.W.codeIn K cd51 "_law_closing" = true)
    (k51 : PySem.W.keepIn K (.ref f51) = true)
    (a52 : PySem.W.nsIn K mainGlobals "_law_body" = some (some (.ref f52)))
    (l52 : K.lookup f52 = some ⟨oc52, od52, .func (PySem.W.fnOf "_law_body" "_law_body" (defArgs s_Lbody) (defBody s_Lbody) (defScope s_Lbody) .none kV52 dc52 pm52 an52 cd52 ct52), sl52⟩)
    (c52 : PySem.W.codeIn K cd52 "_law_body" = true)
    (k52 : PySem.W.keepIn K (.ref f52) = true)
    (a53 : PySem.W.nsIn K mainGlobals "law" = some (some (.ref f53)))
    (l53 : K.lookup f53 = some ⟨oc53, od53, .func (PySem.W.fnOf "law" "law" (defArgs s_law) (defBody s_law) (defScope s_law) .none kV53 dc53 pm53 an53 cd53 ct53), sl53⟩)
    (c53 : PySem.W.codeIn K cd53 "law" = true)
    (k53 : PySem.W.keepIn K (.ref f53) = true)
    (pg_Seller : PySem.W.plainGet K C_Seller Str.empty = true)
    (hd_Seller : PySem.W.hasDictIn K C_Seller = true)
    (po_Seller : PySem.W.plainOver K C_Seller = true)
    (sa_Seller : PySem.W.findIn K (.ref C_Seller) "__setattr__" = some (some (.builtin "object.__setattr__")))
    (mk_Seller : PySem.W.makesIn K C_Seller = true)
    (kc_Seller : PySem.W.keepIn K (.ref C_Seller) = true)
    (no_Seller_setup : PySem.W.findIn K (.ref C_Seller) "setup" = some none)
    (no_Seller_number : PySem.W.findIn K (.ref C_Seller) "number" = some none)
    (no_Seller_free : PySem.W.findIn K (.ref C_Seller) "free" = some none)
    (no_Seller_vouchers : PySem.W.findIn K (.ref C_Seller) "vouchers" = some none)
    (no_Seller_book : PySem.W.findIn K (.ref C_Seller) "book" = some none)
    (no_Seller_closing : PySem.W.findIn K (.ref C_Seller) "closing" = some none)
    (no_Seller_asked : PySem.W.findIn K (.ref C_Seller) "asked" = some none)
    (no_Seller_waiting : PySem.W.findIn K (.ref C_Seller) "waiting" = some none)
    (no_Seller_count : PySem.W.findIn K (.ref C_Seller) "count" = some none)
    (no_Seller_outgoing : PySem.W.findIn K (.ref C_Seller) "outgoing" = some none)
    (no_Seller_told : PySem.W.findIn K (.ref C_Seller) "told" = some none)
    (z_list : PySem.W.nsIn K mainGlobals "list" = some none)
    (z_range : PySem.W.nsIn K mainGlobals "range" = some none)
    (z_sum : PySem.W.nsIn K mainGlobals "sum" = some none)
    (z_len : PySem.W.nsIn K mainGlobals "len" = some none)
    (z_any : PySem.W.nsIn K mainGlobals "any" = some none)
    (z_sorted : PySem.W.nsIn K mainGlobals "sorted" = some none)
    (z_max : PySem.W.nsIn K mainGlobals "max" = some none)
    (z_all : PySem.W.nsIn K mainGlobals "all" = some none)
    (z_tuple : PySem.W.nsIn K mainGlobals "tuple" = some none)
    (z_zip : PySem.W.nsIn K mainGlobals "zip" = some none)
    (z_isinstance : PySem.W.nsIn K mainGlobals "isinstance" = some none)
    (z_bool : PySem.W.nsIn K mainGlobals "bool" = some none)
    (z_int : PySem.W.nsIn K mainGlobals "int" = some none)
    (z_str : PySem.W.nsIn K mainGlobals "str" = some none)
    (z_min : PySem.W.nsIn K mainGlobals "min" = some none)
    (z_dict : PySem.W.nsIn K mainGlobals "dict" = some none)
    : ∃ fd : FuncData, (∀ (s : Shared) (v : Value), BindsTo s fd ⟨[v], []⟩ [("_law_script", v)]) ∧ ∀ base : Heap, K.In base → base.Ns mainGlobals mg → FnOk l.prog w K mg base CX0 28 fa fd ["_law_script"] (spLaw K) := by
  have e := hfa.symm.trans (PySem.W.mg_of X G a53)
  cases e
  let A : Ad := ⟨C_Seller⟩
  have T : Txt K mg A := { b_list := PySem.W.mg_none_of X G z_list, b_range := PySem.W.mg_none_of X G z_range, b_sum := PySem.W.mg_none_of X G z_sum, b_len := PySem.W.mg_none_of X G z_len, b_any := PySem.W.mg_none_of X G z_any, b_sorted := PySem.W.mg_none_of X G z_sorted, b_max := PySem.W.mg_none_of X G z_max, b_all := PySem.W.mg_none_of X G z_all, b_tuple := PySem.W.mg_none_of X G z_tuple, b_zip := PySem.W.mg_none_of X G z_zip, b_isinstance := PySem.W.mg_none_of X G z_isinstance, b_bool := PySem.W.mg_none_of X G z_bool, b_int := PySem.W.mg_none_of X G z_int, b_str := PySem.W.mg_none_of X G z_str, b_min := PySem.W.mg_none_of X G z_min, b_dict := PySem.W.mg_none_of X G z_dict, cl_Seller := ⟨pg_Seller, hd_Seller, po_Seller, sa_Seller⟩, no_Seller_setup := no_Seller_setup, no_Seller_number := no_Seller_number, no_Seller_free := no_Seller_free, no_Seller_vouchers := no_Seller_vouchers, no_Seller_book := no_Seller_book, no_Seller_closing := no_Seller_closing, no_Seller_asked := no_Seller_asked, no_Seller_waiting := no_Seller_waiting, no_Seller_count := no_Seller_count, no_Seller_outgoing := no_Seller_outgoing, no_Seller_told := no_Seller_told }
  have F1 := fun_mk (st := s_nights_of) l1 c1 k1
  have b1 := F1.binds (ps := ["stay"]) fun _ _ _ _ _ _ us hl => match us, hl with | [_], _ => rfl
  have F2 := fun_mk (st := s_needs_of) l2 c2 k2
  have b2 := F2.binds (ps := ["party"]) fun _ _ _ _ _ _ us hl => match us, hl with | [_], _ => rfl
  have F3 := fun_mk (st := s_price_of) l3 c3 k3
  have b3 := F3.binds (ps := ["setup", "party"]) fun _ _ _ _ _ _ us hl => match us, hl with | [_, _], _ => rfl
  have F4 := fun_mk (st := s_kept_of) l4 c4 k4
  have b4 := F4.binds (ps := ["setup", "party"]) fun _ _ _ _ _ _ us hl => match us, hl with | [_, _], _ => rfl
  have F5 := fun_mk (st := s_Seller_init) l5 c5 k5
  have b5 := F5.binds (ps := ["self", "setup", "number"]) fun _ _ _ _ _ _ us hl => match us, hl with | [_, _, _], _ => rfl
  have F6 := fun_mk (st := s_Seller_bodies) l6 c6 k6
  have b6 := F6.binds (ps := ["self"]) fun _ _ _ _ _ _ us hl => match us, hl with | [_], _ => rfl
  have F7 := fun_mk (st := s_Seller_answers) l7 c7 k7
  have b7 := F7.binds (ps := ["self"]) fun _ _ _ _ _ _ us hl => match us, hl with | [_], _ => rfl
  have F8 := fun_mk (st := s_Seller_voucher) l8 c8 k8
  have b8 := F8.binds (ps := ["self", "deed"]) fun _ _ _ _ _ _ us hl => match us, hl with | [_, _], _ => rfl
  have F9 := fun_mk (st := s_Seller_must_wait) l9 c9 k9
  have b9 := F9.binds (ps := ["self", "deed"]) fun _ _ _ _ _ _ us hl => match us, hl with | [_, _], _ => rfl
  have F10 := fun_mk (st := s_Seller_lack) l10 c10 k10
  have b10 := F10.binds (ps := ["self", "deed"]) fun _ _ _ _ _ _ us hl => match us, hl with | [_, _], _ => rfl
  have F11 := fun_mk (st := s_Seller_add) l11 c11 k11
  have b11 := F11.binds (ps := ["self", "needs", "many"]) fun _ _ _ _ _ _ us hl => match us, hl with | [_, _, _], _ => rfl
  have F12 := fun_mk (st := s_Seller_prices) l12 c12 k12
  have b12 := F12.binds (ps := ["self", "party"]) fun _ _ _ _ _ _ us hl => match us, hl with | [_, _], _ => rfl
  have F13 := fun_mk (st := s_Seller_write) l13 c13 k13
  have b13 := F13.binds (ps := ["self", "row"]) fun _ _ _ _ _ _ us hl => match us, hl with | [_, _], _ => rfl
  have F14 := fun_mk (st := s_Seller_cancel) l14 c14 k14
  have b14 := F14.binds (ps := ["self", "number", "voucher"]) fun _ _ _ _ _ _ us hl => match us, hl with | [_, _, _], _ => rfl
  have F15 := fun_mk (st := s_Seller_keep) l15 c15 k15
  have b15 := F15.binds (ps := ["self", "number", "deed"]) fun _ _ _ _ _ _ us hl => match us, hl with | [_, _, _], _ => rfl
  have F16 := fun_mk (st := s_Seller_do) l16 c16 k16
  have b16 := F16.binds (ps := ["self", "number", "deed"]) fun _ _ _ _ _ _ us hl => match us, hl with | [_, _, _], _ => rfl
  have F17 := fun_mk (st := s_Seller_ask) l17 c17 k17
  have b17 := F17.binds (ps := ["self", "deed"]) fun _ _ _ _ _ _ us hl => match us, hl with | [_, _], _ => rfl
  have F18 := fun_mk (st := s_Seller_close) l18 c18 k18
  have b18 := F18.binds (ps := ["self", "cells"]) fun _ _ _ _ _ _ us hl => match us, hl with | [_, _], _ => rfl
  have F19 := fun_mk (st := s_Seller_reopen) l19 c19 k19
  have b19 := F19.binds (ps := ["self", "counts", "answer"]) fun _ _ _ _ _ _ us hl => match us, hl with | [_, _, _], _ => rfl
  have F20 := fun_mk (st := s_Seller_handle) l20 c20 k20
  have b20 := F20.binds (ps := ["self", "body"]) fun _ _ _ _ _ _ us hl => match us, hl with | [_, _], _ => rfl
  have F21 := fun_mk (st := s_Lmixed) l21 c21 k21
  have b21 := F21.binds (ps := ["_law_number", "_law_k"]) fun _ _ _ _ _ _ us hl => match us, hl with | [_, _], _ => rfl
  have F22 := fun_mk (st := s_Lnumbers) l22 c22 k22
  have b22 := F22.binds (ps := ["_law_script"]) fun _ _ _ _ _ _ us hl => match us, hl with | [_], _ => rfl
  have F23 := fun_mk (st := s_Ldraw) l23 c23 k23
  have b23 := F23.binds (ps := ["_law_draws"]) fun _ _ _ _ _ _ us hl => match us, hl with | [_], _ => rfl
  have F24 := fun_mk (st := s_Lequal) l24 c24 k24
  have b24 := F24.binds (ps := ["_law_actual", "_law_due"]) fun _ _ _ _ _ _ us hl => match us, hl with | [_, _], _ => rfl
  have F25 := fun_mk (st := s_Lall_equal) l25 c25 k25
  have b25 := F25.binds (ps := ["_law_actual", "_law_due"]) fun _ _ _ _ _ _ us hl => match us, hl with | [_, _], _ => rfl
  have F26 := fun_mk (st := s_Lsetup) l26 c26 k26
  have b26 := F26.binds (ps := ["_law_draws"]) fun _ _ _ _ _ _ us hl => match us, hl with | [_], _ => rfl
  have F27 := fun_mk (st := s_Lstay) l27 c27 k27
  have b27 := F27.binds (ps := ["_law_draws", "_law_setup_here"]) fun _ _ _ _ _ _ us hl => match us, hl with | [_, _], _ => rfl
  have F28 := fun_mk (st := s_Lparty) l28 c28 k28
  have b28 := F28.binds (ps := ["_law_draws", "_law_setup_here"]) fun _ _ _ _ _ _ us hl => match us, hl with | [_, _], _ => rfl
  have F29 := fun_mk (st := s_Lneeds) l29 c29 k29
  have b29 := F29.binds (ps := ["_law_party_here"]) fun _ _ _ _ _ _ us hl => match us, hl with | [_], _ => rfl
  have F30 := fun_mk (st := s_Lprice) l30 c30 k30
  have b30 := F30.binds (ps := ["_law_setup_here", "_law_party_here"]) fun _ _ _ _ _ _ us hl => match us, hl with | [_, _], _ => rfl
  have F31 := fun_mk (st := s_Lkept) l31 c31 k31
  have b31 := F31.binds (ps := ["_law_setup_here", "_law_party_here"]) fun _ _ _ _ _ _ us hl => match us, hl with | [_, _], _ => rfl
  have F32 := fun_mk (st := s_Lseller) l32 c32 k32
  have b32 := F32.binds (ps := ["_law_number"]) fun _ _ _ _ _ _ us hl => match us, hl with | [_], _ => rfl
  have F33 := fun_mk (st := s_Lrow) l33 c33 k33
  have b33 := F33.binds (ps := ["_law_model", "_law_row_here"]) fun _ _ _ _ _ _ us hl => match us, hl with | [_, _], _ => rfl
  have F34 := fun_mk (st := s_Ladd) l34 c34 k34
  have b34 := F34.binds (ps := ["_law_model", "_law_needs_here", "_law_many"]) fun _ _ _ _ _ _ us hl => match us, hl with | [_, _, _], _ => rfl
  have F35 := fun_mk (st := s_Lless) l35 c35 k35
  have b35 := F35.binds (ps := ["_law_first", "_law_second"]) fun _ _ _ _ _ _ us hl => match us, hl with | [_, _], _ => rfl
  have F36 := fun_mk (st := s_Lsold) l36 c36 k36
  have b36 := F36.binds (ps := ["_law_setup_here", "_law_model", "_law_number", "_law_party_here"]) fun _ _ _ _ _ _ us hl => match us, hl with | [_, _, _, _], _ => rfl
  have F37 := fun_mk (st := s_Lchanged) l37 c37 k37
  have b37 := F37.binds (ps := ["_law_setup_here", "_law_model", "_law_voucher", "_law_party_here"]) fun _ _ _ _ _ _ us hl => match us, hl with | [_, _, _, _], _ => rfl
  have F38 := fun_mk (st := s_Lmust_wait) l38 c38 k38
  have b38 := F38.binds (ps := ["_law_model", "_law_deed_here"]) fun _ _ _ _ _ _ us hl => match us, hl with | [_, _], _ => rfl
  have F39 := fun_mk (st := s_Llack) l39 c39 k39
  have b39 := F39.binds (ps := ["_law_model", "_law_deed_here"]) fun _ _ _ _ _ _ us hl => match us, hl with | [_, _], _ => rfl
  have F40 := fun_mk (st := s_Ldo) l40 c40 k40
  have b40 := F40.binds (ps := ["_law_setup_here", "_law_model", "_law_number", "_law_deed_here"]) fun _ _ _ _ _ _ us hl => match us, hl with | [_, _, _, _], _ => rfl
  have F41 := fun_mk (st := s_Lask) l41 c41 k41
  have b41 := F41.binds (ps := ["_law_setup_here", "_law_model", "_law_deed_here"]) fun _ _ _ _ _ _ us hl => match us, hl with | [_, _, _], _ => rfl
  have F42 := fun_mk (st := s_Lgranted) l42 c42 k42
  have b42 := F42.binds (ps := ["_law_setup_here", "_law_model", "_law_number", "_law_deed_here"]) fun _ _ _ _ _ _ us hl => match us, hl with | [_, _, _, _], _ => rfl
  have F43 := fun_mk (st := s_Lopened) l43 c43 k43
  have b43 := F43.binds (ps := ["_law_setup_here", "_law_model", "_law_body_here"]) fun _ _ _ _ _ _ us hl => match us, hl with | [_, _, _], _ => rfl
  have F44 := fun_mk (st := s_Lhandle) l44 c44 k44
  have b44 := F44.binds (ps := ["_law_setup_here", "_law_model", "_law_body_here"]) fun _ _ _ _ _ _ us hl => match us, hl with | [_, _, _], _ => rfl
  have F45 := fun_mk (st := s_Ldeed) l45 c45 k45
  have b45 := F45.binds (ps := ["_law_draws", "_law_setup_here", "_law_number"]) fun _ _ _ _ _ _ us hl => match us, hl with | [_, _, _], _ => rfl
  have F46 := fun_mk (st := s_Lsame_free) l46 c46 k46
  have b46 := F46.binds (ps := ["_law_setup_here", "_law_told", "_law_free"]) fun _ _ _ _ _ _ us hl => match us, hl with | [_, _, _], _ => rfl
  have F47 := fun_mk (st := s_Lsame_rows) l47 c47 k47
  have b47 := F47.binds (ps := ["_law_told", "_law_due"]) fun _ _ _ _ _ _ us hl => match us, hl with | [_, _], _ => rfl
  have F48 := fun_mk (st := s_Lsame_seller) l48 c48 k48
  have b48 := F48.binds (ps := ["_law_setup_here", "_law_seller_here", "_law_model"]) fun _ _ _ _ _ _ us hl => match us, hl with | [_, _, _], _ => rfl
  have F49 := fun_mk (st := s_Lsame_out) l49 c49 k49
  have b49 := F49.binds (ps := ["_law_seller_here", "_law_model", "_law_pick"]) fun _ _ _ _ _ _ us hl => match us, hl with | [_, _, _], _ => rfl
  have F50 := fun_mk (st := s_Lcells) l50 c50 k50
  have b50 := F50.binds (ps := ["_law_model", "_law_number"]) fun _ _ _ _ _ _ us hl => match us, hl with | [_, _], _ => rfl
  have F51 := fun_mk (st := s_Lclosing) l51 c51 k51
  have b51 := F51.binds (ps := ["_law_draws", "_law_setup_here", "_law_model"]) fun _ _ _ _ _ _ us hl => match us, hl with | [_, _, _], _ => rfl
  have F52 := fun_mk (st := s_Lbody) l52 c52 k52
  have b52 := F52.binds (ps := ["_law_draws", "_law_setup_here", "_law_model"]) fun _ _ _ _ _ _ us hl => match us, hl with | [_, _, _], _ => rfl
  have F53 := fun_mk (st := s_law) l53 c53 k53
  have b53 := F53.binds (ps := ["_law_script"]) fun _ _ _ _ _ _ us hl => match us, hl with | [_], _ => rfl
  refine ⟨PySem.W.fnOf "law" "law" (defArgs s_law) (defBody s_law) (defScope s_law) .none kV53 dc53 pm53 an53 cd53 ct53, fun s v => .of_eq rfl, fun base _ _ => ?_⟩
  have o_nights_of := ok_nights_of (P := l.prog) (w := w) (base := base) F1 T 
  have e_nights_of : Cal l.prog w K mg base "nights_of" 1 ["stay"] (sp_nights_of K A) := ⟨⟨_, _, o_nights_of, PySem.W.mg_of X G a1, k1, b1⟩⟩
  have o_needs_of := ok_needs_of (P := l.prog) (w := w) (base := base) F2 T e_nights_of
  have e_needs_of : Cal l.prog w K mg base "needs_of" 2 ["party"] (sp_needs_of K A) := ⟨⟨_, _, o_needs_of, PySem.W.mg_of X G a2, k2, b2⟩⟩
  have o_price_of := ok_price_of (P := l.prog) (w := w) (base := base) F3 T e_needs_of
  have e_price_of : Cal l.prog w K mg base "price_of" 3 ["setup", "party"] (sp_price_of K A) := ⟨⟨_, _, o_price_of, PySem.W.mg_of X G a3, k3, b3⟩⟩
  have o_kept_of := ok_kept_of (P := l.prog) (w := w) (base := base) F4 T e_needs_of
  have e_kept_of : Cal l.prog w K mg base "kept_of" 3 ["setup", "party"] (sp_kept_of K A) := ⟨⟨_, _, o_kept_of, PySem.W.mg_of X G a4, k4, b4⟩⟩
  have o_Seller_init := ok_Seller_init (P := l.prog) (w := w) (base := base) F5 T 
  have e_Seller_init : CalC l.prog w K mg base "Seller" A.Seller 1 ["self", "setup", "number"] (sp_Seller_init K A) := ⟨⟨_, _, o_Seller_init, ⟨mk_Seller, a5, i5, kc_Seller⟩, PySem.W.mg_of X G aC_Seller, b5⟩⟩
  have o_Seller_bodies := ok_Seller_bodies (P := l.prog) (w := w) (base := base) F6 T 
  have e_Seller_bodies : CalM l.prog w K mg base A.Seller "bodies" 1 ["self"] (sp_Seller_bodies K A) := ⟨⟨_, _, o_Seller_bodies, ⟨a6, i6, k6⟩, b6⟩⟩
  have o_Seller_answers := ok_Seller_answers (P := l.prog) (w := w) (base := base) F7 T 
  have e_Seller_answers : CalM l.prog w K mg base A.Seller "answers" 1 ["self"] (sp_Seller_answers K A) := ⟨⟨_, _, o_Seller_answers, ⟨a7, i7, k7⟩, b7⟩⟩
  have o_Seller_voucher := ok_Seller_voucher (P := l.prog) (w := w) (base := base) F8 T 
  have e_Seller_voucher : CalM l.prog w K mg base A.Seller "voucher" 1 ["self", "deed"] (sp_Seller_voucher K A) := ⟨⟨_, _, o_Seller_voucher, ⟨a8, i8, k8⟩, b8⟩⟩
  have o_Seller_must_wait := ok_Seller_must_wait (P := l.prog) (w := w) (base := base) F9 T e_needs_of e_Seller_voucher
  have e_Seller_must_wait : CalM l.prog w K mg base A.Seller "must_wait" 3 ["self", "deed"] (sp_Seller_must_wait K A) := ⟨⟨_, _, o_Seller_must_wait, ⟨a9, i9, k9⟩, b9⟩⟩
  have o_Seller_lack := ok_Seller_lack (P := l.prog) (w := w) (base := base) F10 T e_needs_of e_Seller_voucher
  have e_Seller_lack : CalM l.prog w K mg base A.Seller "lack" 3 ["self", "deed"] (sp_Seller_lack K A) := ⟨⟨_, _, o_Seller_lack, ⟨a10, i10, k10⟩, b10⟩⟩
  have o_Seller_add := ok_Seller_add (P := l.prog) (w := w) (base := base) F11 T 
  have e_Seller_add : CalM l.prog w K mg base A.Seller "add" 1 ["self", "needs", "many"] (sp_Seller_add K A) := ⟨⟨_, _, o_Seller_add, ⟨a11, i11, k11⟩, b11⟩⟩
  have o_Seller_prices := ok_Seller_prices (P := l.prog) (w := w) (base := base) F12 T e_price_of e_kept_of
  have e_Seller_prices : CalM l.prog w K mg base A.Seller "prices" 4 ["self", "party"] (sp_Seller_prices K A) := ⟨⟨_, _, o_Seller_prices, ⟨a12, i12, k12⟩, b12⟩⟩
  have o_Seller_write := ok_Seller_write (P := l.prog) (w := w) (base := base) F13 T 
  have e_Seller_write : CalM l.prog w K mg base A.Seller "write" 1 ["self", "row"] (sp_Seller_write K A) := ⟨⟨_, _, o_Seller_write, ⟨a13, i13, k13⟩, b13⟩⟩
  have o_Seller_cancel := ok_Seller_cancel (P := l.prog) (w := w) (base := base) F14 T e_Seller_add e_Seller_write e_needs_of e_Seller_prices
  have e_Seller_cancel : CalM l.prog w K mg base A.Seller "cancel" 5 ["self", "number", "voucher"] (sp_Seller_cancel K A) := ⟨⟨_, _, o_Seller_cancel, ⟨a14, i14, k14⟩, b14⟩⟩
  have o_Seller_keep := ok_Seller_keep (P := l.prog) (w := w) (base := base) F15 T e_needs_of e_Seller_write e_Seller_prices
  have e_Seller_keep : CalM l.prog w K mg base A.Seller "keep" 5 ["self", "number", "deed"] (sp_Seller_keep K A) := ⟨⟨_, _, o_Seller_keep, ⟨a15, i15, k15⟩, b15⟩⟩
  have o_Seller_do := ok_Seller_do (P := l.prog) (w := w) (base := base) F16 T e_Seller_lack e_Seller_cancel e_Seller_add e_Seller_keep
  have e_Seller_do : CalM l.prog w K mg base A.Seller "do" 6 ["self", "number", "deed"] (sp_Seller_do K A) := ⟨⟨_, _, o_Seller_do, ⟨a16, i16, k16⟩, b16⟩⟩
  have o_Seller_ask := ok_Seller_ask (P := l.prog) (w := w) (base := base) F17 T e_Seller_must_wait e_Seller_do
  have e_Seller_ask : CalM l.prog w K mg base A.Seller "ask" 7 ["self", "deed"] (sp_Seller_ask K A) := ⟨⟨_, _, o_Seller_ask, ⟨a17, i17, k17⟩, b17⟩⟩
  have o_Seller_close := ok_Seller_close (P := l.prog) (w := w) (base := base) F18 T 
  have e_Seller_close : CalM l.prog w K mg base A.Seller "close" 1 ["self", "cells"] (sp_Seller_close K A) := ⟨⟨_, _, o_Seller_close, ⟨a18, i18, k18⟩, b18⟩⟩
  have o_Seller_reopen := ok_Seller_reopen (P := l.prog) (w := w) (base := base) F19 T e_Seller_must_wait e_Seller_keep e_Seller_do
  have e_Seller_reopen : CalM l.prog w K mg base A.Seller "reopen" 7 ["self", "counts", "answer"] (sp_Seller_reopen K A) := ⟨⟨_, _, o_Seller_reopen, ⟨a19, i19, k19⟩, b19⟩⟩
  have o_Seller_handle := ok_Seller_handle (P := l.prog) (w := w) (base := base) F20 T e_Seller_close e_Seller_reopen
  have e_Seller_handle : CalM l.prog w K mg base A.Seller "handle" 8 ["self", "body"] (sp_Seller_handle K A) := ⟨⟨_, _, o_Seller_handle, ⟨a20, i20, k20⟩, b20⟩⟩
  have o_Lmixed := ok_Lmixed (P := l.prog) (w := w) (base := base) F21 T 
  have e_Lmixed : Cal l.prog w K mg base "_law_mixed" 1 ["_law_number", "_law_k"] (sp_Lmixed K A) := ⟨⟨_, _, o_Lmixed, PySem.W.mg_of X G a21, k21, b21⟩⟩
  have o_Lnumbers := ok_Lnumbers (P := l.prog) (w := w) (base := base) F22 T e_Lmixed
  have e_Lnumbers : Cal l.prog w K mg base "_law_numbers" 2 ["_law_script"] (sp_Lnumbers K A) := ⟨⟨_, _, o_Lnumbers, PySem.W.mg_of X G a22, k22, b22⟩⟩
  have o_Ldraw := ok_Ldraw (P := l.prog) (w := w) (base := base) F23 T e_Lmixed
  have e_Ldraw : Cal l.prog w K mg base "_law_draw" 2 ["_law_draws"] (sp_Ldraw K A) := ⟨⟨_, _, o_Ldraw, PySem.W.mg_of X G a23, k23, b23⟩⟩
  have e_Lequal : Cal l.prog w K mg base "_law_equal" 25 ["_law_actual", "_law_due"] (sp_Lequal K A 12) := eq_one (P := l.prog) (w := w) (base := base) F24 T (PySem.W.mg_of X G a24) b24 F25 (PySem.W.mg_of X G a25) b25 12
  have e_Lall_equal : Cal l.prog w K mg base "_law_all_equal" 24 ["_law_actual", "_law_due"] (sp_Lall_equal K A 12) := eq_all (P := l.prog) (w := w) (base := base) F24 T (PySem.W.mg_of X G a24) b24 F25 (PySem.W.mg_of X G a25) b25 12
  have o_Lsetup := ok_Lsetup (P := l.prog) (w := w) (base := base) F26 T e_Ldraw
  have e_Lsetup : Cal l.prog w K mg base "_law_setup" 3 ["_law_draws"] (sp_Lsetup K A) := ⟨⟨_, _, o_Lsetup, PySem.W.mg_of X G a26, k26, b26⟩⟩
  have o_Lstay := ok_Lstay (P := l.prog) (w := w) (base := base) F27 T e_Ldraw
  have e_Lstay : Cal l.prog w K mg base "_law_stay" 3 ["_law_draws", "_law_setup_here"] (sp_Lstay K A) := ⟨⟨_, _, o_Lstay, PySem.W.mg_of X G a27, k27, b27⟩⟩
  have o_Lparty := ok_Lparty (P := l.prog) (w := w) (base := base) F28 T e_Lstay e_Ldraw
  have e_Lparty : Cal l.prog w K mg base "_law_party" 4 ["_law_draws", "_law_setup_here"] (sp_Lparty K A) := ⟨⟨_, _, o_Lparty, PySem.W.mg_of X G a28, k28, b28⟩⟩
  have o_Lneeds := ok_Lneeds (P := l.prog) (w := w) (base := base) F29 T 
  have e_Lneeds : Cal l.prog w K mg base "_law_needs" 1 ["_law_party_here"] (sp_Lneeds K A) := ⟨⟨_, _, o_Lneeds, PySem.W.mg_of X G a29, k29, b29⟩⟩
  have o_Lprice := ok_Lprice (P := l.prog) (w := w) (base := base) F30 T 
  have e_Lprice : Cal l.prog w K mg base "_law_price" 1 ["_law_setup_here", "_law_party_here"] (sp_Lprice K A) := ⟨⟨_, _, o_Lprice, PySem.W.mg_of X G a30, k30, b30⟩⟩
  have o_Lkept := ok_Lkept (P := l.prog) (w := w) (base := base) F31 T 
  have e_Lkept : Cal l.prog w K mg base "_law_kept" 1 ["_law_setup_here", "_law_party_here"] (sp_Lkept K A) := ⟨⟨_, _, o_Lkept, PySem.W.mg_of X G a31, k31, b31⟩⟩
  have o_Lseller := ok_Lseller (P := l.prog) (w := w) (base := base) F32 T 
  have e_Lseller : Cal l.prog w K mg base "_law_seller" 1 ["_law_number"] (sp_Lseller K A) := ⟨⟨_, _, o_Lseller, PySem.W.mg_of X G a32, k32, b32⟩⟩
  have o_Lrow := ok_Lrow (P := l.prog) (w := w) (base := base) F33 T 
  have e_Lrow : Cal l.prog w K mg base "_law_row" 1 ["_law_model", "_law_row_here"] (sp_Lrow K A) := ⟨⟨_, _, o_Lrow, PySem.W.mg_of X G a33, k33, b33⟩⟩
  have o_Ladd := ok_Ladd (P := l.prog) (w := w) (base := base) F34 T 
  have e_Ladd : Cal l.prog w K mg base "_law_add" 1 ["_law_model", "_law_needs_here", "_law_many"] (sp_Ladd K A) := ⟨⟨_, _, o_Ladd, PySem.W.mg_of X G a34, k34, b34⟩⟩
  have o_Lless := ok_Lless (P := l.prog) (w := w) (base := base) F35 T 
  have e_Lless : Cal l.prog w K mg base "_law_less" 1 ["_law_first", "_law_second"] (sp_Lless K A) := ⟨⟨_, _, o_Lless, PySem.W.mg_of X G a35, k35, b35⟩⟩
  have o_Lsold := ok_Lsold (P := l.prog) (w := w) (base := base) F36 T e_Lrow e_Lprice e_Lkept
  have e_Lsold : Cal l.prog w K mg base "_law_sold" 2 ["_law_setup_here", "_law_model", "_law_number", "_law_party_here"] (sp_Lsold K A) := ⟨⟨_, _, o_Lsold, PySem.W.mg_of X G a36, k36, b36⟩⟩
  have o_Lchanged := ok_Lchanged (P := l.prog) (w := w) (base := base) F37 T e_Lrow e_Lprice e_Lkept
  have e_Lchanged : Cal l.prog w K mg base "_law_changed" 2 ["_law_setup_here", "_law_model", "_law_voucher", "_law_party_here"] (sp_Lchanged K A) := ⟨⟨_, _, o_Lchanged, PySem.W.mg_of X G a37, k37, b37⟩⟩
  have o_Lmust_wait := ok_Lmust_wait (P := l.prog) (w := w) (base := base) F38 T e_Lneeds
  have e_Lmust_wait : Cal l.prog w K mg base "_law_must_wait" 2 ["_law_model", "_law_deed_here"] (sp_Lmust_wait K A) := ⟨⟨_, _, o_Lmust_wait, PySem.W.mg_of X G a38, k38, b38⟩⟩
  have o_Llack := ok_Llack (P := l.prog) (w := w) (base := base) F39 T e_Lneeds e_Lless
  have e_Llack : Cal l.prog w K mg base "_law_lack" 2 ["_law_model", "_law_deed_here"] (sp_Llack K A) := ⟨⟨_, _, o_Llack, PySem.W.mg_of X G a39, k39, b39⟩⟩
  have o_Ldo := ok_Ldo (P := l.prog) (w := w) (base := base) F40 T e_Llack e_Ladd e_Lrow e_Lneeds e_Lsold e_Lchanged e_Lprice e_Lkept
  have e_Ldo : Cal l.prog w K mg base "_law_do" 3 ["_law_setup_here", "_law_model", "_law_number", "_law_deed_here"] (sp_Ldo K A) := ⟨⟨_, _, o_Ldo, PySem.W.mg_of X G a40, k40, b40⟩⟩
  have o_Lask := ok_Lask (P := l.prog) (w := w) (base := base) F41 T e_Lmust_wait e_Ldo
  have e_Lask : Cal l.prog w K mg base "_law_ask" 4 ["_law_setup_here", "_law_model", "_law_deed_here"] (sp_Lask K A) := ⟨⟨_, _, o_Lask, PySem.W.mg_of X G a41, k41, b41⟩⟩
  have o_Lgranted := ok_Lgranted (P := l.prog) (w := w) (base := base) F42 T e_Lsold e_Lneeds e_Ladd e_Lchanged e_Lless
  have e_Lgranted : Cal l.prog w K mg base "_law_granted" 3 ["_law_setup_here", "_law_model", "_law_number", "_law_deed_here"] (sp_Lgranted K A) := ⟨⟨_, _, o_Lgranted, PySem.W.mg_of X G a42, k42, b42⟩⟩
  have o_Lopened := ok_Lopened (P := l.prog) (w := w) (base := base) F43 T e_Ladd e_Lmust_wait e_Lgranted e_Ldo
  have e_Lopened : Cal l.prog w K mg base "_law_opened" 4 ["_law_setup_here", "_law_model", "_law_body_here"] (sp_Lopened K A) := ⟨⟨_, _, o_Lopened, PySem.W.mg_of X G a43, k43, b43⟩⟩
  have o_Lhandle := ok_Lhandle (P := l.prog) (w := w) (base := base) F44 T e_Lopened
  have e_Lhandle : Cal l.prog w K mg base "_law_handle" 5 ["_law_setup_here", "_law_model", "_law_body_here"] (sp_Lhandle K A) := ⟨⟨_, _, o_Lhandle, PySem.W.mg_of X G a44, k44, b44⟩⟩
  have o_Ldeed := ok_Ldeed (P := l.prog) (w := w) (base := base) F45 T e_Ldraw e_Lparty
  have e_Ldeed : Cal l.prog w K mg base "_law_deed" 5 ["_law_draws", "_law_setup_here", "_law_number"] (sp_Ldeed K A) := ⟨⟨_, _, o_Ldeed, PySem.W.mg_of X G a45, k45, b45⟩⟩
  have o_Lsame_free := ok_Lsame_free (P := l.prog) (w := w) (base := base) F46 T e_Lequal
  have e_Lsame_free : Cal l.prog w K mg base "_law_same_free" 26 ["_law_setup_here", "_law_told", "_law_free"] (sp_Lsame_free K A) := ⟨⟨_, _, o_Lsame_free, PySem.W.mg_of X G a46, k46, b46⟩⟩
  have o_Lsame_rows := ok_Lsame_rows (P := l.prog) (w := w) (base := base) F47 T e_Lequal
  have e_Lsame_rows : Cal l.prog w K mg base "_law_same_rows" 26 ["_law_told", "_law_due"] (sp_Lsame_rows K A) := ⟨⟨_, _, o_Lsame_rows, PySem.W.mg_of X G a47, k47, b47⟩⟩
  have o_Lsame_seller := ok_Lsame_seller (P := l.prog) (w := w) (base := base) F48 T e_Lequal e_Lsame_rows e_Lsame_free
  have e_Lsame_seller : Cal l.prog w K mg base "_law_same_seller" 27 ["_law_setup_here", "_law_seller_here", "_law_model"] (sp_Lsame_seller K A) := ⟨⟨_, _, o_Lsame_seller, PySem.W.mg_of X G a48, k48, b48⟩⟩
  have o_Lsame_out := ok_Lsame_out (P := l.prog) (w := w) (base := base) F49 T e_Seller_answers e_Lequal e_Seller_bodies
  have e_Lsame_out : Cal l.prog w K mg base "_law_same_out" 26 ["_law_seller_here", "_law_model", "_law_pick"] (sp_Lsame_out K A) := ⟨⟨_, _, o_Lsame_out, PySem.W.mg_of X G a49, k49, b49⟩⟩
  have o_Lcells := ok_Lcells (P := l.prog) (w := w) (base := base) F50 T e_Llack
  have e_Lcells : Cal l.prog w K mg base "_law_cells" 3 ["_law_model", "_law_number"] (sp_Lcells K A) := ⟨⟨_, _, o_Lcells, PySem.W.mg_of X G a50, k50, b50⟩⟩
  have o_Lclosing := ok_Lclosing (P := l.prog) (w := w) (base := base) F51 T e_Lcells e_Lneeds e_Ldraw e_Lparty
  have e_Lclosing : Cal l.prog w K mg base "_law_closing" 5 ["_law_draws", "_law_setup_here", "_law_model"] (sp_Lclosing K A) := ⟨⟨_, _, o_Lclosing, PySem.W.mg_of X G a51, k51, b51⟩⟩
  have o_Lbody := ok_Lbody (P := l.prog) (w := w) (base := base) F52 T e_Ldraw e_Lclosing e_Lcells
  have e_Lbody : Cal l.prog w K mg base "_law_body" 6 ["_law_draws", "_law_setup_here", "_law_model"] (sp_Lbody K A) := ⟨⟨_, _, o_Lbody, PySem.W.mg_of X G a52, k52, b52⟩⟩
  exact (ok_law F53 T e_Lsetup e_Seller_init e_Lseller e_Lnumbers e_Ldraw e_Lsame_out e_Lequal e_Ldeed e_Lbody e_Seller_handle e_Lhandle e_Lsame_seller e_Seller_bodies e_Seller_answers e_Seller_ask e_Lask).imp fun vs H Q E h => h
theorem walk {l : PySem.W.OpenLaw} {q : Program} {loose : List Str} {XP : (Str → Option Value) → Heap → Prop} {YP : World → Heap → Prop} {d : DefRec} {K : Params → PySem.W.Frag} (hn : l.most = some 63) (hdf : d.params.defaults = [])
    (hY : ∀ (w : World) (h : Heap), YP w h → (K w.params).In h)
    (F : ∀ (w : World) (mg : Str → Option Value) (fa : Addr) (h : Heap), (K w.params).In h → h.Ns mainGlobals mg → mg d.name = some (.ref fa) →
      ∃ fd : FuncData, (∀ (s : Shared) (u : Value), BindsTo s fd ⟨[u], []⟩ [("_law_script", u)]) ∧ ∀ base : Heap, (K w.params).In base → base.Ns mainGlobals mg → FnOk l.prog w (K w.params) mg base CX0 28 fa fd ["_law_script"] (spLaw (K w.params))) :
    PySem.W.WalkO q loose XP YP l.row.toRowW d [] (fun f vs => PySem.call f vs) :=
  L2.walk_of (n := 63) (k := 28) (x := "_law_script") (CX := fun _ => CX0) (sp := fun w => spLaw (K w.params)) hn (by decide) hdf ⟨rfl, by decide, by decide⟩ hY F (fun _ _ a ns hl _ hS => ⟨_, rfl, a, ns, rfl, hS, hl, fun _ => rfl⟩) fun _ _ _ _ _ z => z
end Toy
open PySem PySem.W PyProof.Rows in
set_option maxRecDepth 100000 in
set_option maxHeartbeats 0 in
theorem PySem.Challenge.cw_manydoors_k09_sellers_ask_and_handle_holds : PySem.Challenge.rw_manydoors_k09_sellers_ask_and_handle.Holds := by
  w_on; o_law; k_head; (case hw => w_witness2)
  k_fill
  refine Toy.walk (l := PySem.Challenge.rw_manydoors_k09_sellers_ask_and_handle) rfl rfl (fun w h Y => PySem.W.kIn_of Y) ?F
  case F =>
    intro w mg fa h KX G hmg
    refine' Toy.all_mk KX G hmg ?aC_Seller ?a1 ?l1 ?c1 ?k1 ?a2 ?l2 ?c2 ?k2 ?a3 ?l3 ?c3 ?k3 ?a4 ?l4 ?c4 ?k4 ?a5 ?i5 ?l5 ?c5 ?k5 ?a6 ?i6 ?l6 ?c6 ?k6 ?a7 ?i7 ?l7 ?c7 ?k7 ?a8 ?i8 ?l8 ?c8 ?k8 ?a9 ?i9 ?l9 ?c9 ?k9 ?a10 ?i10 ?l10 ?c10 ?k10 ?a11 ?i11 ?l11 ?c11 ?k11 ?a12 ?i12 ?l12 ?c12 ?k12 ?a13 ?i13 ?l13 ?c13 ?k13 ?a14 ?i14 ?l14 ?c14 ?k14 ?a15 ?i15 ?l15 ?c15 ?k15 ?a16 ?i16 ?l16 ?c16 ?k16 ?a17 ?i17 ?l17 ?c17 ?k17 ?a18 ?i18 ?l18 ?c18 ?k18 ?a19 ?i19 ?l19 ?c19 ?k19 ?a20 ?i20 ?l20 ?c20 ?k20 ?a21 ?l21 ?c21 ?k21 ?a22 ?l22 ?c22 ?k22 ?a23 ?l23 ?c23 ?k23 ?a24 ?l24 ?c24 ?k24 ?a25 ?l25 ?c25 ?k25 ?a26 ?l26 ?c26 ?k26 ?a27 ?l27 ?c27 ?k27 ?a28 ?l28 ?c28 ?k28 ?a29 ?l29 ?c29 ?k29 ?a30 ?l30 ?c30 ?k30 ?a31 ?l31 ?c31 ?k31 ?a32 ?l32 ?c32 ?k32 ?a33 ?l33 ?c33 ?k33 ?a34 ?l34 ?c34 ?k34 ?a35 ?l35 ?c35 ?k35 ?a36 ?l36 ?c36 ?k36 ?a37 ?l37 ?c37 ?k37 ?a38 ?l38 ?c38 ?k38 ?a39 ?l39 ?c39 ?k39 ?a40 ?l40 ?c40 ?k40 ?a41 ?l41 ?c41 ?k41 ?a42 ?l42 ?c42 ?k42 ?a43 ?l43 ?c43 ?k43 ?a44 ?l44 ?c44 ?k44 ?a45 ?l45 ?c45 ?k45 ?a46 ?l46 ?c46 ?k46 ?a47 ?l47 ?c47 ?k47 ?a48 ?l48 ?c48 ?k48 ?a49 ?l49 ?c49 ?k49 ?a50 ?l50 ?c50 ?k50 ?a51 ?l51 ?c51 ?k51 ?a52 ?l52 ?c52 ?k52 ?a53 ?l53 ?c53 ?k53 ?pg_Seller ?hd_Seller ?po_Seller ?sa_Seller ?mk_Seller ?kc_Seller ?no_Seller_setup ?no_Seller_number ?no_Seller_free ?no_Seller_vouchers ?no_Seller_book ?no_Seller_closing ?no_Seller_asked ?no_Seller_waiting ?no_Seller_count ?no_Seller_outgoing ?no_Seller_told ?z_list ?z_range ?z_sum ?z_len ?z_any ?z_sorted ?z_max ?z_all ?z_tuple ?z_zip ?z_isinstance ?z_bool ?z_int ?z_str ?z_min ?z_dict
    (case aC_Seller => k_is)
    (case a1 => k_is)
    (case l1 => k_is)
    (case c1 => k_is)
    (case k1 => k_is)
    (case a2 => k_is)
    (case l2 => k_is)
    (case c2 => k_is)
    (case k2 => k_is)
    (case a3 => k_is)
    (case l3 => k_is)
    (case c3 => k_is)
    (case k3 => k_is)
    (case a4 => k_is)
    (case l4 => k_is)
    (case c4 => k_is)
    (case k4 => k_is)
    (case a5 => k_is)
    (case i5 => k_is)
    (case l5 => k_is)
    (case c5 => k_is)
    (case k5 => k_is)
    (case a6 => k_is)
    (case i6 => k_is)
    (case l6 => k_is)
    (case c6 => k_is)
    (case k6 => k_is)
    (case a7 => k_is)
    (case i7 => k_is)
    (case l7 => k_is)
    (case c7 => k_is)
    (case k7 => k_is)
    (case a8 => k_is)
    (case i8 => k_is)
    (case l8 => k_is)
    (case c8 => k_is)
    (case k8 => k_is)
    (case a9 => k_is)
    (case i9 => k_is)
    (case l9 => k_is)
    (case c9 => k_is)
    (case k9 => k_is)
    (case a10 => k_is)
    (case i10 => k_is)
    (case l10 => k_is)
    (case c10 => k_is)
    (case k10 => k_is)
    (case a11 => k_is)
    (case i11 => k_is)
    (case l11 => k_is)
    (case c11 => k_is)
    (case k11 => k_is)
    (case a12 => k_is)
    (case i12 => k_is)
    (case l12 => k_is)
    (case c12 => k_is)
    (case k12 => k_is)
    (case a13 => k_is)
    (case i13 => k_is)
    (case l13 => k_is)
    (case c13 => k_is)
    (case k13 => k_is)
    (case a14 => k_is)
    (case i14 => k_is)
    (case l14 => k_is)
    (case c14 => k_is)
    (case k14 => k_is)
    (case a15 => k_is)
    (case i15 => k_is)
    (case l15 => k_is)
    (case c15 => k_is)
    (case k15 => k_is)
    (case a16 => k_is)
    (case i16 => k_is)
    (case l16 => k_is)
    (case c16 => k_is)
    (case k16 => k_is)
    (case a17 => k_is)
    (case i17 => k_is)
    (case l17 => k_is)
    (case c17 => k_is)
    (case k17 => k_is)
    (case a18 => k_is)
    (case i18 => k_is)
    (case l18 => k_is)
    (case c18 => k_is)
    (case k18 => k_is)
    (case a19 => k_is)
    (case i19 => k_is)
    (case l19 => k_is)
    (case c19 => k_is)
    (case k19 => k_is)
    (case a20 => k_is)
    (case i20 => k_is)
    (case l20 => k_is)
    (case c20 => k_is)
    (case k20 => k_is)
    (case a21 => k_is)
    (case l21 => k_is)
    (case c21 => k_is)
    (case k21 => k_is)
    (case a22 => k_is)
    (case l22 => k_is)
    (case c22 => k_is)
    (case k22 => k_is)
    (case a23 => k_is)
    (case l23 => k_is)
    (case c23 => k_is)
    (case k23 => k_is)
    (case a24 => k_is)
    (case l24 => k_is)
    (case c24 => k_is)
    (case k24 => k_is)
    (case a25 => k_is)
    (case l25 => k_is)
    (case c25 => k_is)
    (case k25 => k_is)
    (case a26 => k_is)
    (case l26 => k_is)
    (case c26 => k_is)
    (case k26 => k_is)
    (case a27 => k_is)
    (case l27 => k_is)
    (case c27 => k_is)
    (case k27 => k_is)
    (case a28 => k_is)
    (case l28 => k_is)
    (case c28 => k_is)
    (case k28 => k_is)
    (case a29 => k_is)
    (case l29 => k_is)
    (case c29 => k_is)
    (case k29 => k_is)
    (case a30 => k_is)
    (case l30 => k_is)
    (case c30 => k_is)
    (case k30 => k_is)
    (case a31 => k_is)
    (case l31 => k_is)
    (case c31 => k_is)
    (case k31 => k_is)
    (case a32 => k_is)
    (case l32 => k_is)
    (case c32 => k_is)
    (case k32 => k_is)
    (case a33 => k_is)
    (case l33 => k_is)
    (case c33 => k_is)
    (case k33 => k_is)
    (case a34 => k_is)
    (case l34 => k_is)
    (case c34 => k_is)
    (case k34 => k_is)
    (case a35 => k_is)
    (case l35 => k_is)
    (case c35 => k_is)
    (case k35 => k_is)
    (case a36 => k_is)
    (case l36 => k_is)
    (case c36 => k_is)
    (case k36 => k_is)
    (case a37 => k_is)
    (case l37 => k_is)
    (case c37 => k_is)
    (case k37 => k_is)
    (case a38 => k_is)
    (case l38 => k_is)
    (case c38 => k_is)
    (case k38 => k_is)
    (case a39 => k_is)
    (case l39 => k_is)
    (case c39 => k_is)
    (case k39 => k_is)
    (case a40 => k_is)
    (case l40 => k_is)
    (case c40 => k_is)
    (case k40 => k_is)
    (case a41 => k_is)
    (case l41 => k_is)
    (case c41 => k_is)
    (case k41 => k_is)
    (case a42 => k_is)
    (case l42 => k_is)
    (case c42 => k_is)
    (case k42 => k_is)
    (case a43 => k_is)
    (case l43 => k_is)
    (case c43 => k_is)
    (case k43 => k_is)
    (case a44 => k_is)
    (case l44 => k_is)
    (case c44 => k_is)
    (case k44 => k_is)
    (case a45 => k_is)
    (case l45 => k_is)
    (case c45 => k_is)
    (case k45 => k_is)
    (case a46 => k_is)
    (case l46 => k_is)
    (case c46 => k_is)
    (case k46 => k_is)
    (case a47 => k_is)
    (case l47 => k_is)
    (case c47 => k_is)
    (case k47 => k_is)
    (case a48 => k_is)
    (case l48 => k_is)
    (case c48 => k_is)
    (case k48 => k_is)
    (case a49 => k_is)
    (case l49 => k_is)
    (case c49 => k_is)
    (case k49 => k_is)
    (case a50 => k_is)
    (case l50 => k_is)
    (case c50 => k_is)
    (case k50 => k_is)
    (case a51 => k_is)
    (case l51 => k_is)
    (case c51 => k_is)
    (case k51 => k_is)
    (case a52 => k_is)
    (case l52 => k_is)
    (case c52 => k_is)
    (case k52 => k_is)
    (case a53 => k_is)
    (case l53 => k_is)
    (case c53 => k_is)
    (case k53 => k_is)
    (case pg_Seller => k_is)
    (case hd_Seller => k_is)
    (case po_Seller => k_is)
    (case sa_Seller => k_is)
    (case mk_Seller => k_is)
    (case kc_Seller => k_is)
    (case no_Seller_setup => k_is)
    (case no_Seller_number => k_is)
    (case no_Seller_free => k_is)
    (case no_Seller_vouchers => k_is)
    (case no_Seller_book => k_is)
    (case no_Seller_closing => k_is)
    (case no_Seller_asked => k_is)
    (case no_Seller_waiting => k_is)
    (case no_Seller_count => k_is)
    (case no_Seller_outgoing => k_is)
    (case no_Seller_told => k_is)
    (case z_list => k_is)
    (case z_range => k_is)
    (case z_sum => k_is)
    (case z_len => k_is)
    (case z_any => k_is)
    (case z_sorted => k_is)
    (case z_max => k_is)
    (case z_all => k_is)
    (case z_tuple => k_is)
    (case z_zip => k_is)
    (case z_isinstance => k_is)
    (case z_bool => k_is)
    (case z_int => k_is)
    (case z_str => k_is)
    (case z_min => k_is)
    (case z_dict => k_is)
#print axioms PySem.Challenge.cw_manydoors_k09_sellers_ask_and_handle_holds


