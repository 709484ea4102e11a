import PyProof.Rows.All
import Wide.All
import OpenK.AllK
import Wide.FinOn
import HandS.ForMost
import HandS.IsInst
import HandS.Evl
import HandS.Walk
import HandS.More
import KE.GoesEnum
import KE.GoesMore
import HandS.Zip
import KE.SortData
import KE.KDictCopyH
import KE.KDictOf
import KE.KDictSum
import HandS.Conv
import HandS.Finally
import HandS.DictTup
import HandS.TupLen
import HandS.ForExc
import HandS.ExcIs
import HandS.TryMany
import HandS.TupMul
import HandS.TupAny
import HandS.Style
import HandS.Deep
import KE.KDictDisplayH
import KE.KIsAll
import KE.RegKIsAll
import PyProof.Rows.SeqMore
import PyProof.Rows.TupAdd
import PyProof.TupleOfSeq
import PySem.Challenge.RW_manydoors_k47_worlds_that_are_none
set_option Elab.async false
set_option linter.all false
set_option maxRecDepth 100000
set_option maxHeartbeats 1000000
namespace Lw
open PySem L2

/-! ### frames: what a piece of code leaves as it was -/
structure Fr (l : List Addr) (H H' : Hp) : Prop where
  keep : ∀ a o, H a = some o → a ∉ l → H' a = some o
  tup : ∀ a xs, H a = some (.tup xs) → H' a = some (.tup xs)
theorem Fr.refl {l : List Addr} {H : Hp} : Fr l H H := ⟨fun _ _ h _ => h, fun _ _ h => h⟩
theorem Fr.mono {l m : List Addr} {H H' : Hp} (f : Fr l H H') (h : ∀ a, a ∈ l → a ∈ m) : Fr m H H' := ⟨fun a o e n => f.keep a o e fun q => n (h a q), f.tup⟩
theorem Fr.of0 {m : List Addr} {H H' : Hp} (f : Fr [] H H') : Fr m H H' := f.mono fun _ q => nomatch q
theorem Fr.new {H : Hp} {p : Addr} {o : HO} (h : H p = none) : Fr [] H (upd H p o) := ⟨fun a u e _ => by rw [upd_ne (ne_of_none e h)]; exact e, fun a u e => by rw [upd_ne (ne_of_none e h)]; exact e⟩
def notTup : HO → Prop
  | .tup _ => False
  | _ => True
theorem Fr.put {H : Hp} {p : Addr} {o u : HO} (h : H p = some u) (hu : notTup u) : Fr [p] H (upd H p o) := by
  refine ⟨fun a v e n => ?_, fun a v e => ?_⟩
  · rw [upd_ne fun q => n (List.mem_singleton.mpr q)]; exact e
  · by_cases q : a = p
    · subst q; rw [h] at e; cases e; exact hu.elim
    · rw [upd_ne q]; exact e
theorem Fr.trans {l m : List Addr} {H H1 H2 : Hp} (f : Fr l H H1) (g : Fr m H1 H2) : Fr (l ++ m) H H2 :=
  ⟨fun a o e n => g.keep a o (f.keep a o e fun q => n (List.mem_append_left _ q)) fun q => n (List.mem_append_right _ q), fun a xs e => g.tup a xs (f.tup a xs e)⟩
theorem Fr.transL {l : List Addr} {H H1 H2 : Hp} (f : Fr l H H1) (g : Fr l H1 H2) : Fr l H H2 := (f.trans g).mono fun _ q => (List.mem_append.mp q).elim id id
theorem Fr.then0 {l : List Addr} {H H1 H2 : Hp} (f : Fr l H H1) (g : Fr [] H1 H2) : Fr l H H2 := f.transL g.of0
theorem Fr.pre0 {l : List Addr} {H H1 H2 : Hp} (f : Fr [] H H1) (g : Fr l H1 H2) : Fr l H H2 := f.of0.transL g
theorem Fr.pre0' {l : List Addr} {H H1 H2 : Hp} (g : Fr l H1 H2) (f : Fr [] H H1) : Fr l H H2 := f.pre0 g
/-- an address that was not tracked may be written -/
theorem Fr.drop {l : List Addr} {p : Addr} {H H' : Hp} (f : Fr (p :: l) H H') (h : H p = none) : Fr l H H' :=
  ⟨fun a o e n => f.keep a o e fun q => (List.mem_cons.mp q).elim (fun z => by rw [z, h] at e; cases e) n, f.tup⟩
theorem Fr.free {H H' : Hp} {p : Addr} (f : Fr [] H H') (h : H' p = none) : H p = none := by
  cases q : H p with
  | none => rfl
  | some o => rw [f.keep p o q (by simp)] at h; cases h
theorem Fr.freeL {l : List Addr} {H H' : Hp} {p : Addr} (f : Fr l H H') (h : H' p = none) (n : p ∉ l) : H p = none := by
  cases q : H p with
  | none => rfl
  | some o => rw [f.keep p o q n] at h; cases h
/-- new objects may change -/
theorem Fr.own {l m : List Addr} {H H' H2 : Hp} (f : Fr l H H') (g : Fr m H' H2) (n : ∀ a, a ∈ m → a ∈ l ∨ H a = none) : Fr l H H2 :=
  ⟨fun a o e na => g.keep a o (f.keep a o e na) fun q => (n a q).elim na (fun z => by rw [z] at e; cases e), fun a xs e => g.tup a xs (f.tup a xs e)⟩
theorem Fr.own1 {l : List Addr} {p : Addr} {H H' H2 : Hp} (f : Fr l H H') (g : Fr [p] H' H2) (n : H p = none) : Fr l H H2 := f.own g fun a q => .inr (by rw [List.mem_singleton.mp q]; exact n)
theorem frn0 {l : List Addr} {H : Hp} : ∀ a, a ∈ ([] : List Addr) → a ∈ l ∨ H a = none := fun _ q => nomatch q
theorem frn1 {p : Addr} {l m : List Addr} {H : Hp} (h : p ∈ l ∨ H p = none) (t : ∀ a, a ∈ m → a ∈ l ∨ H a = none) : ∀ a, a ∈ p :: m → a ∈ l ∨ H a = none := fun a q => (List.mem_cons.mp q).elim (fun e => e ▸ h) (t a)
theorem nin0 {a : Addr} : a ∉ ([] : List Addr) := by simp
theorem nin1 {a b : Addr} {l : List Addr} (h : a ≠ b) (t : a ∉ l) : a ∉ b :: l := by simp [h, t]
theorem Fr.tupAt {l : List Addr} {H H' : Hp} {a : Addr} {xs : List V} (f : Fr l H H') (h : H a = some (.tup xs)) : H' a = some (.tup xs) := f.tup a xs h
theorem Fr.at0 {H H' : Hp} {a : Addr} {o : HO} (f : Fr [] H H') (h : H a = some o) : H' a = some o := f.keep a o h nin0
theorem Fr.at {l : List Addr} {H H' : Hp} {a : Addr} {o : HO} (f : Fr l H H') (h : H a = some o) (n : a ∉ l) : H' a = some o := f.keep a o h n
theorem Fr.sql {K : PySem.W.Frag} {l : List Addr} {H H' : Hp} {a : Addr} {xs : List V} (f : Fr l H H') (h : SqL K H a xs) (n : a ∉ l) : SqL K H' a xs := by
  rcases h with (h | ⟨o, h⟩) | h
  · exact .inl (.inl (f.keep _ _ h n))
  · exact .inl (.inr ⟨o, f.keep _ _ h n⟩)
  · exact .inr h

/-! ### operators by name -/
def oAdd : R2 := rI0 fun i j => .int (i + j)
def oSub : R2 := rI0 fun i j => .int (i - j)
def oMul : R2 := rI CMul fun i j => .int (i * j)
def oMod : R2 := rI (fun _ j => 0 < j) fun i j => .int (i % j)
def oDiv : R2 := rI CDiv fun i j => .int (i / j)
def oPow : R2 := rI CPow fun i j => .int (i ^ j.toNat)
def cLt : R2 := rI0 fun i j => .bl (decide (i < j))
def cLe : R2 := rI0 fun i j => .bl (decide (i ≤ j))
def cGt : R2 := rI0 fun i j => .bl (decide (j < i))
def cGe : R2 := rI0 fun i j => .bl (decide (j ≤ i))
section
variable {X : Cx}
theorem o_add : OpR X (binaryOp .Add) oAdd := op_add
theorem o_sub : OpR X (binaryOp .Sub) oSub := op_sub
theorem o_mul : OpR X (binaryOp .Mult) oMul := op_mul
theorem o_mod : OpR X (binaryOp .Mod) oMod := op_mod
theorem o_div : OpR X (binaryOp .FloorDiv) oDiv := op_fdiv
theorem o_pow : OpR X (binaryOp .Pow) oPow := op_pow
theorem c_lt : OpR X (compareOp .Lt) cLt := op_lt
theorem c_le : OpR X (compareOp .LtE) cLe := op_le
theorem c_gt : OpR X (compareOp .Gt) cGt := op_gt
theorem c_ge : OpR X (compareOp .GtE) cGe := op_ge
/-- len -/
def rLenSq (K : PySem.W.Frag) : List V → Hp → VK → Prop := fun xs H Q => ∃ p ys, xs = [.ref p] ∧ (SqL K H p ys ∨ SqT K H p ys) ∧ Q (.int ys.length) H
def rLenStr : List V → Hp → VK → Prop := fun xs H Q => ∃ z, xs = [.str z] ∧ z.length ≤ sizeLine ∧ Q (.int z.length) H
theorem b_len : CallR X (.builtin "len") (rLenSq X.K) := call_len_seq
theorem b_lenS : CallR X (.builtin "len") rLenStr := call_len_str
/-- list(..), tuple(..) -/
def rListOf (K : PySem.W.Frag) : List V → Hp → VK → Prop := fun xs H Q => ∃ p ys, xs = [.ref p] ∧ (SqL K H p ys ∨ SqT K H p ys) ∧ ∀ l, H l = none → Q (.ref l) (upd H l (.lst ys))
def rTupOf (K : PySem.W.Frag) : List V → Hp → VK → Prop := fun xs H Q => ∃ p ys, xs = [.ref p] ∧ ((SqL K H p ys ∧ ∀ l, H l = none → Q (.ref l) (upd H l (.tup ys))) ∨ (SqT K H p ys ∧ Q (.ref p) H))
theorem b_list : CallR X (.type "list") (rListOf X.K) := call_list_of
theorem b_tuple : CallR X (.type "tuple") (rTupOf X.K) := call_tuple_of
def rMax2 : List V → Hp → VK → Prop := fun xs H Q => ∃ i j, xs = [.int i, .int j] ∧ Q (.int (if j > i then j else i)) H
def rMin2 : List V → Hp → VK → Prop := fun xs H Q => ∃ i j, xs = [.int i, .int j] ∧ Q (.int (if j < i then j else i)) H
theorem b_max2 (hc : X.calm = true) : CallR X (.builtin "max") rMax2 := call_max2 hc
theorem b_min2 (hc : X.calm = true) : CallR X (.builtin "min") rMin2 := call_min2 hc
def rIsNon : R2 := fun x y H Q => y = .non ∧ Q (.bl (decide (x = .non))) H
def rIsNotNon : R2 := fun x y H Q => y = .non ∧ Q (.bl (!decide (x = .non))) H
theorem c_isN : OpR X (compareOp .Is) rIsNon := op_isN
theorem c_notN : OpR X (compareOp .IsNot) rIsNotNon := op_notN
/-- a value's truth, as a test -/
def tTr (K : PySem.W.Frag) (ta : TE) : TT := fun σ H Q => ta σ H fun x H' => ∃ k, TruV K x H' k ∧ Q k H'
theorem pt_tr {a : Expr} {ta : TE} (ha : PE X a ta) (he : ∀ whole, isTrue a X.env whole = (do let v ← whole; standAt a.pos; holding [v] (truthy v))) : PT X a (tTr X.K ta) := pt_truth ha he

/-! ### calls -/
def tCl (sp : Sp) (t : TA) : TE := fun σ H Q => t σ H fun vs H1 => sp vs H1 Q E0
def rMt (C : Addr) (m : Str) (x : V) (H : Hp) (p : Prop) : Prop := ∃ a dx fs, x = .ref a ∧ H a = some (.ins C dx fs) ∧ fs.lookup m = none ∧ p
def tMt (C : Addr) (m : Str) (sp : Sp) (ta : TE) (t : TA) : TE := fun σ H Q => ta σ H fun x H1 => rMt C m x H1 (t σ H1 fun vs H2 => sp (x :: vs) H2 Q E0)
def tMk (C : Addr) (sp : Sp) (t : TA) : TE := fun σ H Q => t σ H fun vs H1 => ∀ x dx, H1 x = none → H1 dx = none → dx ≠ x →
  sp (.ref x :: vs) (upd (upd H1 dx (.own x)) x (.ins C dx [])) (fun v H2 => v = .non ∧ Q (.ref x) H2) E0
/-- a def of the text, to be called by its name -/
structure Cal (P : Program) (w : World) (K : PySem.W.Frag) (mg : Str → Option Value) (base : Heap) (x : Str) (k : Nat) (ps : List Str) (sp : Sp) : Prop where
  ex : ∃ f fd, FnOk P w K mg base CX0 k f fd ps sp ∧ mg x = some (.ref f) ∧ PySem.W.keepIn K (.ref f) = true ∧ Binds K fd ps []
/-- a method of the class at C -/
structure CalM (P : Program) (w : World) (K : PySem.W.Frag) (mg : Str → Option Value) (base : Heap) (C : Addr) (m : Str) (k : Nat) (ps : List Str) (sp : Sp) : Prop where
  ex : ∃ f fd, FnOk P w K mg base CX0 k f fd ps sp ∧ Meth K C m f ∧ Binds K fd ps []
/-- a class, to be called by its name -/
structure CalC (P : Program) (w : World) (K : PySem.W.Frag) (mg : Str → Option Value) (base : Heap) (x : Str) (C : Addr) (k : Nat) (ps : List Str) (sp : Sp) : Prop where
  ex : ∃ f fd, FnOk P w K mg base CX0 k f fd ps sp ∧ Mk K C f ∧ mg x = some (.ref C) ∧ Binds K fd ps []
variable {k : Nat} {ps : List Str} {sp : Sp} {x m : Str} {p pos apos : Pos} {e o : Expr} {es : List Expr} {ta : TE} {t : TA} {C : Addr}
theorem tcl_eq {E : XK} : (tCall sp [] E0 t) = tCl sp t := by
  funext σ H Q
  show (t σ H fun vs H1 => sp (vs ++ []) H1 Q E0) = (t σ H fun vs H1 => sp vs H1 Q E0)
  simp only [List.append_nil]
theorem pe_cl (c : Cal X.prog X.w X.K X.mg X.base x k ps sp) (hr : Room k X.A) (hg : Gl X x) (ha : PA X (e :: es) t) (hdb : (x == ("__debug__" : Str)) = false := by decide)
    (he : starEach (e :: es) X.env = (false, eval e X.env) :: starEach es X.env := by rfl) (hpl : (backTo pos (starEach es X.env)).any (·.1) = false := by rfl) : PE X (.Call (.Name x p) (e :: es) [] pos) (tCl sp t) := by
  obtain ⟨f, fd, F, hm, hk, hb⟩ := c.ex
  rw [← tcl_eq (E := E0)]
  exact pe_call F hr hg hm hk hb .nil pass0 ha hdb he hpl
theorem pe_cl0 (c : Cal X.prog X.w X.K X.mg X.base x k ps sp) (hr : Room k X.A) (hg : Gl X x) (hdb : (x == ("__debug__" : Str)) = false := by decide) : PE X (.Call (.Name x p) [] [] pos) (tCl sp tNil) := by
  obtain ⟨f, fd, F, hm, hk, hb⟩ := c.ex
  rw [← tcl_eq (E := E0)]
  exact pe_call0 F hr hg hm hk hb .nil pass0 hdb
theorem tmt_eq : (tMeth C m sp [] E0 ta t) = tMt C m sp ta t := by
  funext σ H Q
  show (ta σ H fun x H1 => ∃ a dx fs, x = .ref a ∧ H1 a = some (.ins C dx fs) ∧ fs.lookup m = none ∧ t σ H1 fun vs H2 => sp (x :: (vs ++ [])) H2 Q E0) = _
  simp only [List.append_nil]
  rfl
theorem tmk_eq : (tMake C sp [] E0 t) = tMk C sp t := by
  funext σ H Q
  show (t σ H fun vs H1 => ∀ x dx, H1 x = none → H1 dx = none → dx ≠ x → sp (.ref x :: (vs ++ [])) (upd (upd H1 dx (.own x)) x (.ins C dx [])) (fun v H2 => v = .non ∧ Q (.ref x) H2) E0) = _
  simp only [List.append_nil]
  rfl
theorem pe_mt {pl : Sem Bool} (he : PE X o ta) (c : Cls X.K C) (cm : CalM X.prog X.w X.K X.mg X.base C m k ps sp) (hr : Room k X.A) (ha : PA X (e :: es) t)
    (hst : starEach (e :: es) X.env = (false, eval e X.env) :: starEach es X.env := by rfl) (hpl : (backTo pos (starEach es X.env)).any (·.1) = false := by rfl)
    (ht : eval (.Call (.Attribute o m apos) (e :: es) [] pos) X.env = (do
      let ov ← eval o X.env
      standAt apos.atName
      let (f, first) ← holding [ov] (getMethod ov m pl)
      callWith pos f first (backTo pos (starEach (e :: es) X.env)) (backToKw pos (keywordEach [] X.env))) := by rfl) :
    PE X (.Call (.Attribute o m apos) (e :: es) [] pos) (tMt C m sp ta t) := by
  obtain ⟨f, fd, F, hm, hb⟩ := cm.ex
  rw [← tmt_eq]
  exact pe_meth (pl := pl) he c hm F hr hb .nil pass0 ha hst hpl ht
theorem pe_mt0 {pl : Sem Bool} (he : PE X o ta) (c : Cls X.K C) (cm : CalM X.prog X.w X.K X.mg X.base C m k ps sp) (hr : Room k X.A)
    (ht : eval (.Call (.Attribute o m apos) [] [] pos) X.env = (do
      let ov ← eval o X.env
      standAt apos.atName
      let (f, first) ← holding [ov] (getMethod ov m pl)
      callWith pos f first (backTo pos (starEach [] X.env)) (backToKw pos (keywordEach [] X.env))) := by rfl) :
    PE X (.Call (.Attribute o m apos) [] [] pos) (tMt C m sp ta tNil) := by
  obtain ⟨f, fd, F, hm, hb⟩ := cm.ex
  rw [← tmt_eq]
  exact pe_meth0 (pl := pl) he c hm F hr hb .nil pass0 ht
theorem pe_mk (cm : CalC X.prog X.w X.K X.mg X.base x C k ps sp) (hr : Room (k + 1) X.A) (hg : Gl X x) (ha : PA X (e :: es) t) (hdb : (x == ("__debug__" : Str)) = false := by decide)
    (he : starEach (e :: es) X.env = (false, eval e X.env) :: starEach es X.env := by rfl) (hpl : (backTo pos (starEach es X.env)).any (·.1) = false := by rfl) :
    PE X (.Call (.Name x p) (e :: es) [] pos) (tMk C sp t) := by
  obtain ⟨f, fd, F, hM, hm, hb⟩ := cm.ex
  rw [← tmk_eq]
  exact pe_make hM F hr hg hm hb .nil pass0 ha hdb he hpl
theorem pe_mk0 (cm : CalC X.prog X.w X.K X.mg X.base x C k ps sp) (hr : Room (k + 1) X.A) (hg : Gl X x) (hdb : (x == ("__debug__" : Str)) = false := by decide) :
    PE X (.Call (.Name x p) [] [] pos) (tMk C sp tNil) := by
  obtain ⟨f, fd, F, hM, hm, hb⟩ := cm.ex
  rw [← tmk_eq]
  exact pe_make0 hM F hr hg hm hb .nil pass0 hdb
end

/-! ### readings, one step each -/
section
variable {K : PySem.W.Frag} {σ : L2.St} {H H' : Hp} {Q : VK} {D : Ends} {i : Nat} {v x y : V} {ta tb te tc : TE} {r : R2} {t u : TS} {c d : TT} {as tr : TA} {g : TG} {a b : Int} {p C dx : Addr} {QB : Bool → Hp → Prop} {QL : List V → Hp → Prop}
theorem g_seq (h : t { D with nx := u D } σ H) : tSeq t u D σ H := h
theorem g_cut (M : L2.St → Hp → Prop) (h : t { D with nx := M } σ H) (k : ∀ σ' H', M σ' H' → u D σ' H') : Evl.tCut t u D σ H := ⟨M, h, k⟩
theorem g_next (h : D.nx σ H) : tNext D σ H := h
theorem g_brk (h : D.bk σ H) : tBreak D σ H := h
theorem g_cont (h : D.ct σ H) : tCont D σ H := h
theorem g_asg (h : te σ H (fun v H' => g v σ H' D.nx)) : tAsg te g D σ H := h
theorem g_name {QS : L2.St → Hp → Prop} (h : QS (σ.set i (some v)) H) : gName i v σ H QS := h
theorem g_ret (h : te σ H D.rt) : tRet te D σ H := h
theorem g_retN (h : D.rt .non H) : tRetN D σ H := h
theorem g_drop (h : te σ H (fun _ H' => D.nx σ H')) : tDrop te D σ H := h
theorem g_ifs (h : c σ H (fun b H' => if b = true then t D σ H' else u D σ H')) : tIfS c t u D σ H := h
theorem g_aug {ti : TIp} (hx : σ[i]? = some (some x)) (h : te σ H (fun y H1 => ti x y H1 fun z H2 => D.nx (σ.set i (some z)) H2)) : tAug i te ti D σ H := ⟨x, hx, h⟩
theorem g_ipI {f : Int → Int → Int} (h : Q (.int (f a b)) H) : ipI f (.int a) (.int b) H Q := ⟨a, b, rfl, rfl, h⟩
theorem g_var (hx : σ[i]? = some (some v)) (h : Q v H) : tVar i σ H Q := ⟨v, hx, h⟩
theorem g_c (h : Q v H) : tC v σ H Q := h
theorem g_op (h : ta σ H (fun x H1 => tb σ H1 fun y H2 => r x y H2 Q)) : tOp r ta tb σ H Q := h
theorem g_add (h : Q (.int (a + b)) H) : oAdd (.int a) (.int b) H Q := ⟨a, b, rfl, rfl, h⟩
theorem g_sub (h : Q (.int (a - b)) H) : oSub (.int a) (.int b) H Q := ⟨a, b, rfl, rfl, h⟩
theorem g_mul (hc : CMul a b) (h : Q (.int (a * b)) H) : oMul (.int a) (.int b) H Q := ⟨a, b, rfl, rfl, hc, h⟩
theorem g_mod (hc : 0 < b) (h : Q (.int (a % b)) H) : oMod (.int a) (.int b) H Q := ⟨a, b, rfl, rfl, hc, h⟩
theorem g_div (hc : CDiv a b) (h : Q (.int (a / b)) H) : oDiv (.int a) (.int b) H Q := ⟨a, b, rfl, rfl, hc, h⟩
theorem g_pow (hc : CPow a b) (h : Q (.int (a ^ b.toNat)) H) : oPow (.int a) (.int b) H Q := ⟨a, b, rfl, rfl, hc, h⟩
theorem g_lt (h : Q (.bl (decide (a < b))) H) : cLt (.int a) (.int b) H Q := ⟨a, b, rfl, rfl, h⟩
theorem g_le (h : Q (.bl (decide (a ≤ b))) H) : cLe (.int a) (.int b) H Q := ⟨a, b, rfl, rfl, h⟩
theorem g_gt (h : Q (.bl (decide (b < a))) H) : cGt (.int a) (.int b) H Q := ⟨a, b, rfl, rfl, h⟩
theorem g_ge (h : Q (.bl (decide (b ≤ a))) H) : cGe (.int a) (.int b) H Q := ⟨a, b, rfl, rfl, h⟩
theorem g_eqI (h : Q (.bl (decide (a = b))) H) : rEq (.int a) (.int b) H Q := ⟨rfl, by rw [show decide (V.int a = V.int b) = decide (a = b) from by simp]; exact h⟩
theorem g_neI (h : Q (.bl (!decide (a = b))) H) : rNe (.int a) (.int b) H Q := ⟨rfl, by rw [show decide (V.int a = V.int b) = decide (a = b) from by simp]; exact h⟩
theorem g_eqS {a b : Str} (h : Q (.bl (decide (a = b))) H) : rEq (.str a) (.str b) H Q := ⟨rfl, by rw [show decide (V.str a = V.str b) = decide (a = b) from by simp]; exact h⟩
theorem g_neS {a b : Str} (h : Q (.bl (!decide (a = b))) H) : rNe (.str a) (.str b) H Q := ⟨rfl, by rw [show decide (V.str a = V.str b) = decide (a = b) from by simp]; exact h⟩
theorem g_eqB {a b : Bool} (h : Q (.bl (decide (a = b))) H) : rEq (.bl a) (.bl b) H Q := ⟨rfl, by rw [show decide (V.bl a = V.bl b) = decide (a = b) from by simp]; exact h⟩
theorem g_isN (h : Q (.bl (decide (x = .non))) H) : rIsNon x .non H Q := ⟨rfl, h⟩
theorem g_notN (h : Q (.bl (!decide (x = .non))) H) : rIsNotNon x .non H Q := ⟨rfl, h⟩
theorem g_test (h : te σ H (fun x H' => ∃ k, x = .bl k ∧ QB k H')) : tTest te σ H QB := h
theorem g_tb (h : te σ H (fun x H' => ∃ k, x = .bl k ∧ QB k H')) : tB te σ H QB := h
theorem g_bl {k : Bool} {P : Bool → Prop} (h : P k) : ∃ k', V.bl k = V.bl k' ∧ P k' := ⟨k, rfl, h⟩
theorem g_and (h : c σ H (fun b H1 => if b = true then d σ H1 QB else QB false H1)) : tAnd c d σ H QB := h
theorem g_or (h : c σ H (fun b H1 => if b = true then QB true H1 else d σ H1 QB)) : tOr c d σ H QB := h
theorem g_not (h : c σ H (fun b H1 => QB (!b) H1)) : tNot c σ H QB := h
theorem g_andV (h : ta σ H (fun x H1 => ∃ c, x = .bl c ∧ if c = true then tb σ H1 Q else Q (.bl false) H1)) : tAndV ta tb σ H Q := h
theorem g_orV (h : ta σ H (fun x H1 => ∃ c, x = .bl c ∧ if c = true then Q (.bl true) H1 else tb σ H1 Q)) : tOrV ta tb σ H Q := h
theorem g_notV (h : ta σ H (fun x H1 => ∃ c, x = .bl c ∧ Q (.bl (!c)) H1)) : tNotV ta σ H Q := h
theorem g_ifE (h : c σ H (fun b H1 => if b = true then ta σ H1 Q else tb σ H1 Q)) : tIf c ta tb σ H Q := h
theorem g_ite {P : Prop} [Decidable P] {A B : Prop} (h1 : P → A) (h2 : ¬ P → B) : if decide P = true then A else B := by
  by_cases h : P
  · rw [if_pos (decide_eq_true h)]; exact h1 h
  · rw [if_neg (by simp [h])]; exact h2 h
theorem g_iteN {P : Prop} [Decidable P] {A B : Prop} (h1 : ¬ P → A) (h2 : P → B) : if (!decide P) = true then A else B := by
  by_cases h : P
  · rw [if_neg (by simp [h])]; exact h2 h
  · rw [if_pos (by simp [h])]; exact h1 h
theorem g_iteB {k : Bool} {A B : Prop} (h1 : k = true → A) (h2 : k = false → B) : if k = true then A else B := by
  cases k with
  | true => rw [if_pos rfl]; exact h1 rfl
  | false => rw [if_neg Bool.false_ne_true]; exact h2 rfl
theorem g_iteNB {k : Bool} {A B : Prop} (h1 : k = false → A) (h2 : k = true → B) : if (!k) = true then A else B := by
  cases k with
  | true => rw [if_neg (by decide)]; exact h2 rfl
  | false => rw [if_pos (by decide)]; exact h1 rfl
theorem g_iteT {A B : Prop} (h : A) : if true = true then A else B := by rw [if_pos rfl]; exact h
theorem g_iteF {A B : Prop} (h : B) : if false = true then A else B := by rw [if_neg Bool.false_ne_true]; exact h
theorem g_iteNT {A B : Prop} (h : B) : if (!true) = true then A else B := by rw [if_neg (by decide)]; exact h
theorem g_iteNF {A B : Prop} (h : A) : if (!false) = true then A else B := by rw [if_pos (by decide)]; exact h
theorem g_nil (h : QL [] H) : tNil σ H QL := h
theorem g_cons (h : te σ H (fun x H1 => as σ H1 fun xs H2 => QL (x :: xs) H2)) : tCons te as σ H QL := h
theorem g_cb {rr : List V → Hp → VK → Prop} (h : as σ H (fun vs H1 => rr vs H1 Q)) : tCB rr as σ H Q := h
theorem g_cl {sp : Sp} (h : as σ H (fun vs H1 => sp vs H1 Q E0)) : tCl sp as σ H Q := h
/-- a new tuple, a new list -/
def rNewT (vs : List V) (H : Hp) (Q : VK) : Prop := vs.length ≤ sizeLine ∧ ∀ p, H p = none → Q (.ref p) (upd H p (.tup vs))
def rNewL (vs : List V) (H : Hp) (Q : VK) : Prop := vs.length ≤ sizeLine ∧ ∀ p, H p = none → Q (.ref p) (upd H p (.lst vs))
theorem g_tup (h : as σ H (fun vs H1 => rNewT vs H1 Q)) : tTup as σ H Q := h
theorem g_lst (h : as σ H (fun vs H1 => rNewL vs H1 Q)) : tLst as σ H Q := h
theorem g_newT {vs : List V} (hl : vs.length ≤ sizeLine) (h : ∀ p H', H p = none → Fr [] H H' → H' p = some (.tup vs) → Q (.ref p) H') : rNewT vs H Q := ⟨hl, fun p hp => h p _ hp (Fr.new hp) upd_same⟩
theorem g_newL {vs : List V} (hl : vs.length ≤ sizeLine) (h : ∀ p H', H p = none → Fr [] H H' → H' p = some (.lst vs) → Q (.ref p) H') : rNewL vs H Q := ⟨hl, fun p hp => h p _ hp (Fr.new hp) upd_same⟩
theorem g_ixL {xs : List V} {k : Int} (h : SqL K H p xs) (ha : atI xs k = some v) (q : Q v H) : rIxL K (.ref p) (.int k) H Q := ⟨p, xs, k, v, rfl, rfl, h, ha, q⟩
theorem g_ixT {xs : List V} {k : Int} (h : SqT K H p xs) (ha : atI xs k = some v) (q : Q v H) : rIxT K (.ref p) (.int k) H Q := ⟨p, xs, k, v, rfl, rfl, h, ha, q⟩
theorem g_lenL {xs : List V} (h : SqL K H p xs) (q : Q (.int xs.length) H) : rLenSq K [.ref p] H Q := ⟨p, xs, rfl, .inl h, q⟩
theorem g_lenT {xs : List V} (h : SqT K H p xs) (q : Q (.int xs.length) H) : rLenSq K [.ref p] H Q := ⟨p, xs, rfl, .inr h, q⟩
theorem g_listL {xs : List V} (h : SqL K H p xs) (q : ∀ l H', H l = none → Fr [] H H' → H' l = some (.lst xs) → Q (.ref l) H') : rListOf K [.ref p] H Q := ⟨p, xs, rfl, .inl h, fun l hl => q l _ hl (Fr.new hl) upd_same⟩
theorem g_listT {xs : List V} (h : SqT K H p xs) (q : ∀ l H', H l = none → Fr [] H H' → H' l = some (.lst xs) → Q (.ref l) H') : rListOf K [.ref p] H Q := ⟨p, xs, rfl, .inr h, fun l hl => q l _ hl (Fr.new hl) upd_same⟩
theorem g_tupL {xs : List V} (h : SqL K H p xs) (q : ∀ l H', H l = none → Fr [] H H' → H' l = some (.tup xs) → Q (.ref l) H') : rTupOf K [.ref p] H Q := ⟨p, xs, rfl, .inl ⟨h, fun l hl => q l _ hl (Fr.new hl) upd_same⟩⟩
theorem g_max2 (q : Q (.int (if b > a then b else a)) H) : rMax2 [.int a, .int b] H Q := ⟨a, b, rfl, q⟩
theorem g_min2 (q : Q (.int (if b < a then b else a)) H) : rMin2 [.int a, .int b] H Q := ⟨a, b, rfl, q⟩
def rBM (K : PySem.W.Frag) (T : String) (x : V) (H : Hp) (P : Prop) : Prop := tyV K T x H ∧ P
theorem g_bm {T : String} {rr : V → List V → Hp → VK → Prop} (h : te σ H (fun x H1 => rBM K T x H1 (as σ H1 fun xs H2 => rr x xs H2 Q))) : tBM K T rr te as σ H Q := h
theorem g_bm0 {T : String} {rr : V → List V → Hp → VK → Prop} (h : te σ H (fun x H1 => rBM K T x H1 (rr x [] H1 Q))) : tBM0 K T rr te σ H Q := h
theorem g_bmL {xs : List V} {P : Prop} (h : H p = some (.lst xs)) (q : P) : rBM K "list" (.ref p) H P := ⟨.inl ⟨rfl, xs, SqL.of h⟩, q⟩
theorem g_append {xs : List V} (h : H p = some (.lst xs)) (hl : xs.length < sizeLine) (q : ∀ H', Fr [p] H H' → H' p = some (.lst (xs ++ [y])) → Q .non H') : rAppend (.ref p) [y] H Q := ⟨p, xs, y, rfl, rfl, h, hl, q _ (Fr.put h trivial) upd_same⟩
theorem g_clear {xs : List V} (h : H p = some (.lst xs)) (q : ∀ H', Fr [p] H H' → H' p = some (.lst []) → Q .non H') : rClear (.ref p) [] H Q := ⟨p, xs, rfl, rfl, h, q _ (Fr.put h trivial) upd_same⟩
theorem g_sub1 {to ti : TE} {ts : TSet} {QS : L2.St → Hp → Prop} (h : to σ H (fun o H1 => ti σ H1 fun i H2 => ts o i v H2 fun H3 => QS σ H3)) : gSub to ti ts v σ H QS := h
theorem g_setL {xs : List V} {k : Int} {j : Nat} {P : Hp → Prop} (h : H p = some (.lst xs)) (hj : ixN xs.length k = some j) (q : ∀ H', Fr [p] H H' → H' p = some (.lst (xs.set j v)) → P H') : rSetL (.ref p) (.int k) v H P := ⟨p, xs, k, j, rfl, rfl, h, hj, q _ (Fr.put h trivial) upd_same⟩
/-- attributes -/
def rFld (K : PySem.W.Frag) (f : Str) (x : V) (H : Hp) (Q : VK) : Prop := ∃ a C dx fs v, x = .ref a ∧ H a = some (.ins C dx fs) ∧ Cls K C ∧ NoAttr K C f ∧ fs.lookup f = some v ∧ Q v H
theorem g_fld {f : Str} (h : ta σ H (fun x H1 => rFld K f x H1 Q)) : tFld K ta f σ H Q := h
theorem g_rfld {f : Str} {fs : List (Str × V)} (h : H p = some (.ins C dx fs)) (c : Cls K C) (n : NoAttr K C f) (l : fs.lookup f = some v) (q : Q v H) : rFld K f (.ref p) H Q := ⟨p, C, dx, fs, v, rfl, h, c, n, l, q⟩
def rFldS (K : PySem.W.Frag) (f : Str) (x v : V) (H : Hp) (P : Hp → Prop) : Prop := ∃ a C dx fs, x = .ref a ∧ H a = some (.ins C dx fs) ∧ Cls K C ∧ NoAttr K C f ∧ fs.length < 1000 ∧ P (upd H a (.ins C dx (putF f v fs)))
theorem g_sfld {f : Str} (h : tb σ H (fun y H1 => ta σ H1 fun x H2 => rFldS K f x y H2 fun H3 => D.nx σ H3)) : sFld K ta tb f D σ H := h
theorem g_rflds {f : Str} {fs gs : List (Str × V)} {P : Hp → Prop} (h : H p = some (.ins C dx fs)) (c : Cls K C) (n : NoAttr K C f) (hl : fs.length < 1000) (e : putF f v fs = gs) (q : ∀ H', Fr [p] H H' → H' p = some (.ins C dx gs) → P H') : rFldS K f (.ref p) v H P :=
  ⟨p, C, dx, fs, rfl, h, c, n, hl, q _ (Fr.put h trivial) (by rw [e]; exact upd_same)⟩
def rFldA (K : PySem.W.Frag) (f : Str) (tv : TE) (rd : V → V → Hp → VK → Prop) (x : V) (σ : L2.St) (H : Hp) (D : Ends) : Prop := ∃ a C dx fs v, x = .ref a ∧ H a = some (.ins C dx fs) ∧ Cls K C ∧ NoAttr K C f ∧ fs.lookup f = some v ∧
  tv σ H fun y H2 => rd v y H2 fun z H3 => ∃ dx' fs', H3 a = some (.ins C dx' fs') ∧ fs'.length < 1000 ∧ D.nx σ (upd H3 a (.ins C dx' (putF f z fs')))
theorem g_flda {f : Str} {rd : V → V → Hp → VK → Prop} (h : ta σ H (fun x H1 => rFldA K f tb rd x σ H1 D)) : sFldAug K ta tb rd f D σ H := h
def rFldB (a C : Addr) (f : Str) (z : V) (H3 : Hp) (P : Hp → Prop) : Prop := ∃ dx' fs', H3 a = some (.ins C dx' fs') ∧ fs'.length < 1000 ∧ P (upd H3 a (.ins C dx' (putF f z fs')))
theorem g_rflda {f : Str} {fs : List (Str × V)} {rd : V → V → Hp → VK → Prop} (h : H p = some (.ins C dx fs)) (c : Cls K C) (n : NoAttr K C f) (l : fs.lookup f = some v) (q : tb σ H fun y H2 => rd v y H2 fun z H3 => rFldB p C f z H3 fun H4 => D.nx σ H4) : rFldA K f tb rd (.ref p) σ H D :=
  ⟨p, C, dx, fs, v, rfl, h, c, n, l, q⟩
theorem g_rfldb {f : Str} {fs gs : List (Str × V)} {P : Hp → Prop} (h : H p = some (.ins C dx fs)) (hl : fs.length < 1000) (e : putF f v fs = gs) (q : ∀ H', Fr [p] H H' → H' p = some (.ins C dx gs) → P H') : rFldB p C f v H P :=
  ⟨dx, fs, h, hl, q _ (Fr.put h trivial) (by rw [e]; exact upd_same)⟩
theorem g_rAdd (h : Q (.int (a + b)) H) : rAdd (.int a) (.int b) H Q := ⟨a, b, rfl, rfl, h⟩
theorem g_rSub (h : Q (.int (a - b)) H) : rSub (.int a) (.int b) H Q := ⟨a, b, rfl, rfl, h⟩
theorem g_mt {m : Str} {sp : Sp} (h : ta σ H (fun x H1 => rMt C m x H1 (as σ H1 fun vs H2 => sp (x :: vs) H2 Q E0))) : tMt C m sp ta as σ H Q := h
theorem g_rmt {m : Str} {fs : List (Str × V)} {P : Prop} (h : H p = some (.ins C dx fs)) (l : fs.lookup m = none) (q : P) : rMt C m (.ref p) H P := ⟨p, dx, fs, rfl, h, l, q⟩
def rMk (C : Addr) (sp : Sp) (vs : List V) (H1 : Hp) (Q : VK) : Prop := ∀ x dx, H1 x = none → H1 dx = none → dx ≠ x →
  sp (.ref x :: vs) (upd (upd H1 dx (.own x)) x (.ins C dx [])) (fun v H2 => v = .non ∧ Q (.ref x) H2) E0
theorem g_mk {sp : Sp} (h : as σ H (fun vs H1 => rMk C sp vs H1 Q)) : tMk C sp as σ H Q := h
theorem g_rmk {sp : Sp} {vs : List V} (k : ∀ x dx H2, H x = none → H dx = none → dx ≠ x → Fr [] H H2 → H2 x = some (.ins C dx []) → H2 dx = some (.own x) → sp (.ref x :: vs) H2 (fun v H3 => v = .non ∧ Q (.ref x) H3) E0) : rMk C sp vs H Q := by
  intro x dx nx nd ne
  refine k x dx _ nx nd ne ?_ upd_same (by rw [upd_ne ne]; exact upd_same)
  have f1 : Fr [] H (upd H dx (.own x)) := Fr.new nd
  exact f1.then0 (Fr.new (by rw [upd_ne ne.symm]; exact nx))
end

/-! ### isinstance against a built-in class -/
theorem kb_NoneType_list : kitB "NoneType" "list" = some false := by decide +kernel
theorem kb_NoneType_tuple : kitB "NoneType" "tuple" = some false := by decide +kernel
theorem kb_NoneType_bool : kitB "NoneType" "bool" = some false := by decide +kernel
theorem kb_NoneType_int : kitB "NoneType" "int" = some false := by decide +kernel
theorem kb_NoneType_str : kitB "NoneType" "str" = some false := by decide +kernel
theorem kb_NoneType_dict : kitB "NoneType" "dict" = some false := by decide +kernel
theorem kb_bool_list : kitB "bool" "list" = some false := by decide +kernel
theorem kb_bool_tuple : kitB "bool" "tuple" = some false := by decide +kernel
theorem kb_bool_bool : kitB "bool" "bool" = some true := by decide +kernel
theorem kb_bool_int : kitB "bool" "int" = some true := by decide +kernel
theorem kb_bool_str : kitB "bool" "str" = some false := by decide +kernel
theorem kb_bool_dict : kitB "bool" "dict" = some false := by decide +kernel
theorem kb_int_list : kitB "int" "list" = some false := by decide +kernel
theorem kb_int_tuple : kitB "int" "tuple" = some false := by decide +kernel
theorem kb_int_bool : kitB "int" "bool" = some false := by decide +kernel
theorem kb_int_int : kitB "int" "int" = some true := by decide +kernel
theorem kb_int_str : kitB "int" "str" = some false := by decide +kernel
theorem kb_int_dict : kitB "int" "dict" = some false := by decide +kernel
theorem kb_str_list : kitB "str" "list" = some false := by decide +kernel
theorem kb_str_tuple : kitB "str" "tuple" = some false := by decide +kernel
theorem kb_str_bool : kitB "str" "bool" = some false := by decide +kernel
theorem kb_str_int : kitB "str" "int" = some false := by decide +kernel
theorem kb_str_str : kitB "str" "str" = some true := by decide +kernel
theorem kb_str_dict : kitB "str" "dict" = some false := by decide +kernel
theorem kb_list_list : kitB "list" "list" = some true := by decide +kernel
theorem kb_list_tuple : kitB "list" "tuple" = some false := by decide +kernel
theorem kb_list_bool : kitB "list" "bool" = some false := by decide +kernel
theorem kb_list_int : kitB "list" "int" = some false := by decide +kernel
theorem kb_list_str : kitB "list" "str" = some false := by decide +kernel
theorem kb_list_dict : kitB "list" "dict" = some false := by decide +kernel
theorem kb_tuple_list : kitB "tuple" "list" = some false := by decide +kernel
theorem kb_tuple_tuple : kitB "tuple" "tuple" = some true := by decide +kernel
theorem kb_tuple_bool : kitB "tuple" "bool" = some false := by decide +kernel
theorem kb_tuple_int : kitB "tuple" "int" = some false := by decide +kernel
theorem kb_tuple_str : kitB "tuple" "str" = some false := by decide +kernel
theorem kb_tuple_dict : kitB "tuple" "dict" = some false := by decide +kernel
theorem kb_dict_list : kitB "dict" "list" = some false := by decide +kernel
theorem kb_dict_tuple : kitB "dict" "tuple" = some false := by decide +kernel
theorem kb_dict_bool : kitB "dict" "bool" = some false := by decide +kernel
theorem kb_dict_int : kitB "dict" "int" = some false := by decide +kernel
theorem kb_dict_str : kitB "dict" "str" = some false := by decide +kernel
theorem kb_dict_dict : kitB "dict" "dict" = some true := by decide +kernel

theorem g_isi {K : PySem.W.Frag} {H : Hp} {Q : VK} {x : V} {a b : String} {r : Bool} (ty : TyX K H x (.type a)) (h : kitB a b = some r) (q : Q (.bl r) H) : rIsi K [x, .ty b] H Q := ⟨x, .ty b, .type a, .type b, r, rfl, .ty b, ty, kit_ty h, q⟩
/-! ### immutable and other data -/
mutual
inductive Da (H : Hp) : V → PyData → Prop
  | non : Da H .non .none
  | bl (b : Bool) : Da H (.bl b) (.bool b)
  | int (i : Int) : Da H (.int i) (.int i)
  | str (x : Str) : Da H (.str x) (.str x)
  | lst {a : Addr} {xs : List V} {ds : List PyData} : H a = some (.lst xs) → xs.length ≤ 1000000 → DaL H xs ds → Da H (.ref a) (.list ds)
  | tup {a : Addr} {xs : List V} {ds : List PyData} : H a = some (.tup xs) → xs.length ≤ 1000000 → DaL H xs ds → Da H (.ref a) (.tuple ds)
inductive DaL (H : Hp) : List V → List PyData → Prop
  | nil : DaL H [] []
  | cons {v : V} {vs : List V} {d : PyData} {ds : List PyData} : Da H v d → DaL H vs ds → DaL H (v :: vs) (d :: ds)
end
/-! how deep -/
mutual
def dp : PyData → Nat
  | .list ds => dpL ds + 1
  | .tuple ds => dpL ds + 1
  | _ => 0
def dpL : List PyData → Nat
  | [] => 0
  | d :: ds => max (dp d) (dpL ds)
end
/-! no list within -/
mutual
def imm : PyData → Bool
  | .list _ => false
  | .tuple ds => immL ds
  | _ => true
def immL : List PyData → Bool
  | [] => true
  | d :: ds => imm d && immL ds
end
theorem DaL.len {H : Hp} : ∀ {vs : List V} {ds : List PyData}, DaL H vs ds → vs.length = ds.length
  | _, _, .nil => rfl
  | _, _, .cons _ t => by rw [List.length_cons, List.length_cons, DaL.len t]
theorem DaL.get {H : Hp} : ∀ {vs : List V} {ds : List PyData} {i : Nat} {v : V}, DaL H vs ds → vs[i]? = some v → ∃ d, ds[i]? = some d ∧ Da H v d
  | _, _, _, _, .nil, e => by simp at e
  | _, _, 0, _, .cons r _, e => by simp at e; subst e; exact ⟨_, rfl, r⟩
  | _, _, i + 1, v, .cons _ t, e => by
    obtain ⟨u, h1, h2⟩ := DaL.get (i := i) (v := v) t (by simpa using e)
    exact ⟨u, by simpa using h1, h2⟩
theorem DaL.get' {H : Hp} : ∀ {vs : List V} {ds : List PyData} {i : Nat} {d : PyData}, DaL H vs ds → ds[i]? = some d → ∃ v, vs[i]? = some v ∧ Da H v d
  | _, _, _, _, .nil, e => by simp at e
  | _, _, 0, _, .cons r _, e => by simp at e; subst e; exact ⟨_, rfl, r⟩
  | _, _, i + 1, v, .cons _ t, e => by
    obtain ⟨u, h1, h2⟩ := DaL.get' (i := i) (d := v) t (by simpa using e)
    exact ⟨u, by simpa using h1, h2⟩
theorem DaL.append {H : Hp} : ∀ {vs ws : List V} {ds es : List PyData}, DaL H vs ds → DaL H ws es → DaL H (vs ++ ws) (ds ++ es)
  | _, _, _, _, .nil, s => s
  | _, _, _, _, .cons r t, s => .cons r (DaL.append t s)
theorem dpL_get : ∀ {ds : List PyData} {i : Nat} {d : PyData}, ds[i]? = some d → dp d ≤ dpL ds
  | [], _, _, e => by simp at e
  | a :: r, 0, d, e => by simp at e; subst e; exact Nat.le_max_left _ _
  | a :: r, i + 1, d, e => Nat.le_trans (dpL_get (ds := r) (i := i) (by simpa using e)) (Nat.le_max_right _ _)
mutual
theorem Da.fr {l : List Addr} {H H' : Hp} (f : Fr l H H') : ∀ (d : PyData) (v : V), Da H v d → imm d = true → Da H' v d
  | .none, _, h, _ => by cases h; exact .non
  | .bool b, _, h, _ => by cases h; exact .bl b
  | .int i, _, h, _ => by cases h; exact .int i
  | .str x, _, h, _ => by cases h; exact .str x
  | .list ds, _, _, i => by simp [imm] at i
  | .tuple ds, _, h, i => by
    cases h with
    | tup e z r => exact .tup (f.tup _ _ e) z (DaL.fr f ds _ r (by simpa [imm] using i))
  | .dict _, _, h, _ => by cases h
theorem DaL.fr {l : List Addr} {H H' : Hp} (f : Fr l H H') : ∀ (ds : List PyData) (vs : List V), DaL H vs ds → immL ds = true → DaL H' vs ds
  | [], _, h, _ => by cases h; exact .nil
  | d :: ds, _, h, i => by
    simp only [immL, Bool.and_eq_true] at i
    cases h with
    | cons r t => exact .cons (Da.fr f d _ r i.1) (DaL.fr f ds _ t i.2)
end
mutual
theorem Da.dp {K : PySem.W.Frag} {H : Hp} : ∀ (d : PyData) (v : V), Da H v d → Dp K H v d
  | .none, _, h => by cases h; exact .non
  | .bool b, _, h => by cases h; exact .bl b
  | .int i, _, h => by cases h; exact .int i
  | .str x, _, h => by cases h; exact .str x
  | .list ds, _, h => by
    cases h with
    | lst e _ r => exact .lst (SqL.of e) (DaL.dp ds _ r)
  | .tuple ds, _, h => by
    cases h with
    | tup e _ r => exact .tup (SqT.of e) (DaL.dp ds _ r)
  | .dict _, _, h => by cases h
theorem DaL.dp {K : PySem.W.Frag} {H : Hp} : ∀ (ds : List PyData) (vs : List V), DaL H vs ds → DpAll K H vs ds
  | [], _, h => by cases h; exact .nil
  | d :: ds, _, h => by
    cases h with
    | cons r t => exact .cons (Da.dp d _ r) (DaL.dp ds _ t)
end
theorem Da.frL {l : List Addr} {H H' : Hp} (f : Fr l H H') {d : PyData} {v : V} (h : Da H v d) (i : imm d = true) : Da H' v d := Da.fr f d v h i
theorem DaL.frL {l : List Addr} {H H' : Hp} (f : Fr l H H') {ds : List PyData} {vs : List V} (h : DaL H vs ds) (i : immL ds = true) : DaL H' vs ds := DaL.fr f ds vs h i
theorem immL_append : ∀ {ds es : List PyData}, immL (ds ++ es) = (immL ds && immL es)
  | [], _ => by simp [immL]
  | d :: ds, es => by simp [immL, immL_append (ds := ds), Bool.and_assoc]
theorem dpL_append : ∀ {ds es : List PyData}, dpL (ds ++ es) = max (dpL ds) (dpL es)
  | [], _ => by simp [dpL]
  | d :: ds, es => by simp [dpL, dpL_append (ds := ds), Nat.max_assoc]

/-! ### loops and comprehensions -/
section
variable {K : PySem.W.Frag} {σ : L2.St} {H H' : Hp} {Q : VK} {D : Ends} {te tl : TE} {tt : TT} {tb : TS} {g : TG} {wi : TI} {ta : TA} {a b : Addr} {xs ys : List V} {vs : List Nat} {J : It}
def ForGo (J : It) (g : TG) (tb : TS) (D : Ends) (σ : L2.St) (H1 : Hp) : Prop := ∃ W : Nat → Nat → L2.St → Hp → Prop, (∃ m, W 0 m σ H1) ∧ ∀ i m σ H, W i m σ H →
  (J.stop i H ∧ D.nx σ H) ∨ (J.go i H ∧ ∃ N : L2.St → Hp → Prop, (∀ σ' H', N σ' H' → ∃ m', m' < m ∧ W (i + 1) m' σ' H') ∧ ∀ x H', J.yld i H x H' → g x σ H' fun σ2 H2 => tb { D with nx := N, ct := N, bk := D.nx } σ2 H2)
theorem g_for (h : wi σ H (fun J H1 => ForGo J g tb D σ H1)) : tFor wi g tb D σ H := h
def LcGo (J : It) (g : TG) (tt : TT) (te : TE) (vs : List Nat) (σ : L2.St) (Q : VK) (H1 : Hp) : Prop := ∀ D, H1 D = none → ∃ W : Nat → Nat → Hp → Prop, (∃ m, W 0 m (upd H1 D (.lst []))) ∧ ∀ i m H, W i m H →
  (J.stop i H ∧ Q (.ref D) H) ∨ (J.go i H ∧ ∃ Nx : Hp → Prop, (∀ H', Nx H' → ∃ m', m' < m ∧ W (i + 1) m' H') ∧ ∀ x H', J.yld i H x H' → g x (wipe σ vs) H' fun σ2 H2 => wipe σ2 vs = wipe σ vs ∧ tt σ2 H2 fun b H3 =>
    if b = true then te σ2 H3 fun y H4 => ∃ acc, H4 D = some (.lst acc) ∧ acc.length < sizeLine ∧ Nx (upd H4 D (.lst (acc ++ [y]))) else Nx H3)
theorem g_lc (h : wi σ H (fun J H1 => LcGo J g tt te vs σ Q H1)) : tLc wi g tt te vs σ H Q := h
variable {R : It → Hp → Prop}
def rItL (K : PySem.W.Frag) (x : V) (H : Hp) (R : It → Hp → Prop) : Prop := ∃ a, x = .ref a ∧ (∃ xs, SqL K H a xs) ∧ R (Itl K a) H
def rItT (K : PySem.W.Frag) (x : V) (H : Hp) (R : It → Hp → Prop) : Prop := ∃ a, x = .ref a ∧ (∃ xs, SqT K H a xs) ∧ R (Itt K a) H
theorem g_iL (h : tl σ H (fun x H1 => rItL K x H1 R)) : iList K tl σ H R := h
theorem g_iT (h : tl σ H (fun x H1 => rItT K x H1 R)) : iTup K tl σ H R := h
theorem g_riL (hS : SqL K H a xs) (h : R (Itl K a) H) : rItL K (.ref a) H R := ⟨a, rfl, ⟨xs, hS⟩, h⟩
theorem g_riT (hS : SqT K H a xs) (h : R (Itt K a) H) : rItT K (.ref a) H R := ⟨a, rfl, ⟨xs, hS⟩, h⟩
def rIt1 (vs : List V) (H : Hp) (R : It → Hp → Prop) : Prop := ∃ j : Int, vs = [.int j] ∧ -(2 ^ 62) ≤ j ∧ j < 2 ^ 62 ∧ R (Itr 0 j.toNat) H
def rIt2 (vs : List V) (H : Hp) (R : It → Hp → Prop) : Prop := ∃ i j : Int, vs = [.int i, .int j] ∧ (-(2 ^ 62) ≤ i ∧ i < 2 ^ 62 ∧ -(2 ^ 62) ≤ j ∧ j < 2 ^ 62) ∧ R (Itr i (j - i).toNat) H
theorem g_i1 (h : ta σ H (fun vs H1 => rIt1 vs H1 R)) : iRng1 ta σ H R := h
theorem g_i2 (h : ta σ H (fun vs H1 => rIt2 vs H1 R)) : iRng2 ta σ H R := h
theorem g_ri1 {j : Int} (h1 : -(2 ^ 62) ≤ j ∧ j < 2 ^ 62) (h : R (Itr 0 j.toNat) H) : rIt1 [.int j] H R := ⟨j, rfl, h1.1, h1.2, h⟩
theorem g_ri2 {i j : Int} (h1 : -(2 ^ 62) ≤ i ∧ i < 2 ^ 62 ∧ -(2 ^ 62) ≤ j ∧ j < 2 ^ 62) (h : R (Itr i (j - i).toNat) H) : rIt2 [.int i, .int j] H R := ⟨i, j, rfl, h1, h⟩
/-- for over a list that stands -/
theorem f_list (Pv : Nat → L2.St → Hp → Prop) (h0 : Pv 0 σ H) (hl : ∀ i σ H, i ≤ xs.length → Pv i σ H → SqL K H a xs)
    (hs : ∀ i x σ H, xs[i]? = some x → Pv i σ H → g x σ H fun σ2 H2 => tb { D with nx := Pv (i + 1), ct := Pv (i + 1), bk := D.nx } σ2 H2) (hd : ∀ σ H, Pv xs.length σ H → D.nx σ H) : ForGo (Itl K a) g tb D σ H := for_list Pv h0 hl hs hd
theorem f_tup (Pv : Nat → L2.St → Hp → Prop) (h0 : Pv 0 σ H) (hl : ∀ i σ H, i ≤ xs.length → Pv i σ H → SqT K H a xs)
    (hs : ∀ i x σ H, xs[i]? = some x → Pv i σ H → g x σ H fun σ2 H2 => tb { D with nx := Pv (i + 1), ct := Pv (i + 1), bk := D.nx } σ2 H2) (hd : ∀ σ H, Pv xs.length σ H → D.nx σ H) : ForGo (Itt K a) g tb D σ H := for_tup Pv h0 hl hs hd
theorem f_range {lo : Int} {n : Nat} (Pv : Nat → L2.St → Hp → Prop) (h0 : Pv 0 σ H)
    (hs : ∀ i σ H, i < n → Pv i σ H → g (.int (lo + i)) σ H fun σ2 H2 => tb { D with nx := Pv (i + 1), ct := Pv (i + 1), bk := D.nx } σ2 H2) (hd : ∀ σ H, Pv n σ H → D.nx σ H) : ForGo (Itr lo n) g tb D σ H := for_range Pv h0 hs hd
/-! a comprehension: what its turn is to reach -/
def lcY (Dl : Addr) (Pv : Nat → List V → Hp → Prop) (i : Nat) (y : V) (H4 : Hp) : Prop := ∃ acc, H4 Dl = some (.lst acc) ∧ acc.length < sizeLine ∧ ∃ acc', upd H4 Dl (.lst (acc ++ [y])) Dl = some (.lst acc') ∧ Pv (i + 1) acc' (upd H4 Dl (.lst (acc ++ [y])))
def lcN (Dl : Addr) (Pv : Nat → List V → Hp → Prop) (i : Nat) (H3 : Hp) : Prop := ∃ acc, H3 Dl = some (.lst acc) ∧ Pv (i + 1) acc H3
theorem lcY_of {Dl : Addr} {Pv : Nat → List V → Hp → Prop} {i : Nat} {y : V} {acc : List V} (h : H Dl = some (.lst acc)) (hl : acc.length < sizeLine) (k : ∀ H5, Fr [Dl] H H5 → H5 Dl = some (.lst (acc ++ [y])) → Pv (i + 1) (acc ++ [y]) H5) : lcY Dl Pv i y H :=
  ⟨acc, h, hl, _, upd_same, k _ (Fr.put h trivial) upd_same⟩
theorem lcN_of {Dl : Addr} {Pv : Nat → List V → Hp → Prop} {i : Nat} {acc : List V} (h : H Dl = some (.lst acc)) (k : Pv (i + 1) acc H) : lcN Dl Pv i H := ⟨acc, h, k⟩
abbrev lcStep (g : TG) (tt : TT) (te : TE) (vs : List Nat) (σ : L2.St) (Dl : Addr) (Pv : Nat → List V → Hp → Prop) (i : Nat) (x : V) (H' : Hp) : Prop :=
  g x (wipe σ vs) H' fun σ2 H2 => wipe σ2 vs = wipe σ vs ∧ tt σ2 H2 fun b H3 => if b = true then te σ2 H3 fun y H4 => lcY Dl Pv i y H4 else lcN Dl Pv i H3
theorem l_list (k : ∀ Dl H0, H Dl = none → Fr [] H H0 → H0 Dl = some (.lst []) → ∃ Pv : Nat → List V → Hp → Prop, Pv 0 [] H0 ∧ (∀ i acc H', Pv i acc H' → SqL K H' a xs) ∧
    (∀ i x acc H', xs[i]? = some x → H' Dl = some (.lst acc) → Pv i acc H' → lcStep g tt te vs σ Dl Pv i x H') ∧ (∀ acc H', H' Dl = some (.lst acc) → Pv xs.length acc H' → Q (.ref Dl) H')) : LcGo (Itl K a) g tt te vs σ Q H := by
  intro Dl hD
  obtain ⟨Pv, p0, pl, ps, pd⟩ := k Dl _ hD (Fr.new hD) upd_same
  exact lc_list (fun i H' => ∃ acc, H' Dl = some (.lst acc) ∧ Pv i acc H') ⟨[], upd_same, p0⟩ (fun i H' _ ⟨acc, _, p⟩ => pl i acc H' p) (fun i x H' hx ⟨acc, hd, p⟩ => ps i x acc H' hx hd p) (fun H' ⟨acc, hd, p⟩ => pd acc H' hd p)
theorem l_tup (k : ∀ Dl H0, H Dl = none → Fr [] H H0 → H0 Dl = some (.lst []) → ∃ Pv : Nat → List V → Hp → Prop, Pv 0 [] H0 ∧ (∀ i acc H', Pv i acc H' → SqT K H' a xs) ∧
    (∀ i x acc H', xs[i]? = some x → H' Dl = some (.lst acc) → Pv i acc H' → lcStep g tt te vs σ Dl Pv i x H') ∧ (∀ acc H', H' Dl = some (.lst acc) → Pv xs.length acc H' → Q (.ref Dl) H')) : LcGo (Itt K a) g tt te vs σ Q H := by
  intro Dl hD
  obtain ⟨Pv, p0, pl, ps, pd⟩ := k Dl _ hD (Fr.new hD) upd_same
  exact lc_tup (fun i H' => ∃ acc, H' Dl = some (.lst acc) ∧ Pv i acc H') ⟨[], upd_same, p0⟩ (fun i H' _ ⟨acc, _, p⟩ => pl i acc H' p) (fun i x H' hx ⟨acc, hd, p⟩ => ps i x acc H' hx hd p) (fun H' ⟨acc, hd, p⟩ => pd acc H' hd p)
theorem l_range {lo : Int} {n : Nat} (k : ∀ Dl H0, H Dl = none → Fr [] H H0 → H0 Dl = some (.lst []) → ∃ Pv : Nat → List V → Hp → Prop, Pv 0 [] H0 ∧
    (∀ i acc H', i < n → H' Dl = some (.lst acc) → Pv i acc H' → lcStep g tt te vs σ Dl Pv i (.int (lo + i)) H') ∧ (∀ acc H', H' Dl = some (.lst acc) → Pv n acc H' → Q (.ref Dl) H')) : LcGo (Itr lo n) g tt te vs σ Q H := by
  intro Dl hD
  obtain ⟨Pv, p0, ps, pd⟩ := k Dl _ hD (Fr.new hD) upd_same
  exact lc_range (fun i H' => ∃ acc, H' Dl = some (.lst acc) ∧ Pv i acc H') ⟨[], upd_same, p0⟩ (fun i H' hi ⟨acc, hd, p⟩ => ps i acc H' hi hd p) (fun H' ⟨acc, hd, p⟩ => pd acc H' hd p)
theorem g_and2 {A B : Prop} (a : A) (b : B) : A ∧ B := ⟨a, b⟩
theorem g_yes {QB : Bool → Hp → Prop} (h : QB true H) : tYes σ H QB := h
/-- a name's slot, ahead of a known one -/
theorem g_tr {x : V} {k : Bool} {QB : Bool → Hp → Prop} (h : TruV K x H k) (q : QB k H) : ∃ k, TruV K x H k ∧ QB k H := ⟨k, h, q⟩
theorem g_ttr {QB : Bool → Hp → Prop} (h : te σ H (fun x H' => ∃ k, TruV K x H' k ∧ QB k H')) : tTr K te σ H QB := h
end
theorem szM {n : Nat} (h : n ≤ 1000000) : n < sizeLine := Nat.lt_of_le_of_lt h (by decide)
theorem szL {n : Nat} (h : n ≤ 1000000) : n ≤ sizeLine := Nat.le_of_lt (szM h)
theorem getI {ns : List Int} {i : Nat} {x : V} (h : (ns.map V.int)[i]? = some x) : ∃ n, x = .int n ∧ ns[i]? = some n ∧ n ∈ ns := by
  rw [List.getElem?_map] at h
  cases e : ns[i]? with
  | none => rw [e] at h; cases h
  | some n => rw [e] at h; exact ⟨n, (Option.some.inj h).symm, rfl, List.mem_of_getElem? e⟩
theorem atI_of {α : Type} {xs : List α} {z : Int} (h0 : 0 ≤ z) (h : z < xs.length) : ∃ v, atI xs z = some v ∧ xs[z.toNat]? = some v := by
  have hk : z.toNat < xs.length := by omega
  have e : ((z.toNat : Nat) : Int) = z := by omega
  have q : xs[z.toNat]? = some xs[z.toNat] := List.getElem?_eq_getElem hk
  have w := atI_nat q
  rw [e] at w
  exact ⟨_, w, q⟩
theorem atI_mem {α : Type} {xs : List α} {z : Int} (h0 : 0 ≤ z) (h : z < xs.length) : ∃ v, atI xs z = some v ∧ v ∈ xs := by
  obtain ⟨v, a, b⟩ := atI_of h0 h
  exact ⟨v, a, List.mem_of_getElem? b⟩
theorem take_more {α : Type} : ∀ {l : List α} {i : Nat} {x : α}, l[i]? = some x → l.take (i + 1) = l.take i ++ [x]
  | [], i, x, h => by simp at h
  | a :: l, 0, x, h => by
    have e : a = x := Option.some.inj h
    subst e
    rfl
  | a :: l, i + 1, x, h => by
    have ih := take_more (l := l) (i := i) (x := x) h
    show a :: l.take (i + 1) = a :: l.take i ++ [x]
    rw [ih]
    rfl
theorem filter_more {α : Type} {l : List α} {i : Nat} {x : α} {f : α → Bool} (h : l[i]? = some x) : (l.take (i + 1)).filter f = (l.take i).filter f ++ (if f x = true then [x] else []) := by
  rw [take_more h, List.filter_append]
  congr 1
  by_cases q : f x = true
  · simp [q]
  · simp [q]
theorem Da.tup1 {H : Hp} {v : V} {ds : List PyData} (h : Da H v (.tuple ds)) : ∃ a xs, v = .ref a ∧ H a = some (.tup xs) ∧ xs.length ≤ 1000000 ∧ DaL H xs ds := by
  cases h with
  | tup e z r => exact ⟨_, _, rfl, e, z, r⟩
theorem Da.lst1 {H : Hp} {v : V} {ds : List PyData} (h : Da H v (.list ds)) : ∃ a xs, v = .ref a ∧ H a = some (.lst xs) ∧ xs.length ≤ 1000000 ∧ DaL H xs ds := by
  cases h with
  | lst e z r => exact ⟨_, _, rfl, e, z, r⟩
theorem DaL.two {H : Hp} {xs : List V} {d e : PyData} (h : DaL H xs [d, e]) : ∃ x y, xs = [x, y] ∧ Da H x d ∧ Da H y e := by
  cases h with
  | cons a t => cases t with
    | cons b u => cases u; exact ⟨_, _, rfl, a, b⟩
theorem DaL.three {H : Hp} {xs : List V} {d e f : PyData} (h : DaL H xs [d, e, f]) : ∃ x y z, xs = [x, y, z] ∧ Da H x d ∧ Da H y e ∧ Da H z f := by
  cases h with
  | cons a t => cases t with
    | cons b u => cases u with
      | cons c u => cases u; exact ⟨_, _, _, rfl, a, b, c⟩
theorem Da.int1 {H : Hp} {v : V} {i : Int} (h : Da H v (.int i)) : v = .int i := by cases h; rfl
theorem Da.str1 {H : Hp} {v : V} {i : Str} (h : Da H v (.str i)) : v = .str i := by cases h; rfl
theorem Da.bl1 {H : Hp} {v : V} {i : Bool} (h : Da H v (.bool i)) : v = .bl i := by cases h; rfl
theorem Da.non1 {H : Hp} {v : V} (h : Da H v .none) : v = .non := by cases h; rfl
theorem DaL.one' {H : Hp} {v : V} {d : PyData} (h : Da H v d) : DaL H [v] [d] := .cons h .nil
theorem immL_get : ∀ {ds : List PyData} {i : Nat} {d : PyData}, immL ds = true → ds[i]? = some d → imm d = true
  | [], _, _, _, e => by simp at e
  | a :: r, 0, d, h, e => by simp at e; subst e; simp [immL] at h; exact h.1
  | a :: r, i + 1, d, h, e => by simp [immL] at h; exact immL_get (ds := r) (i := i) h.2 (by simpa using e)
theorem immL_of : ∀ {ds : List PyData}, (∀ d ∈ ds, imm d = true) → immL ds = true
  | [], _ => rfl
  | a :: r, h => by simp [immL, h a List.mem_cons_self, immL_of (ds := r) fun d hd => h d (List.mem_cons_of_mem _ hd)]
theorem imm_of : ∀ {ds : List PyData}, immL ds = true → ∀ d ∈ ds, imm d = true
  | [], _, d, hd => by cases hd
  | a :: r, h, d, hd => by
    simp only [immL, Bool.and_eq_true] at h
    rcases List.mem_cons.mp hd with e | e
    · rw [e]; exact h.1
    · exact imm_of h.2 d e
theorem dpL_mem : ∀ {ds : List PyData} {d : PyData}, d ∈ ds → dp d ≤ dpL ds
  | [], _, h => by cases h
  | a :: r, d, h => by
    rcases List.mem_cons.mp h with e | e
    · rw [e]; exact Nat.le_max_left _ _
    · exact Nat.le_trans (dpL_mem e) (Nat.le_max_right _ _)
theorem dpL_le {n : Nat} : ∀ {ds : List PyData}, (∀ d ∈ ds, dp d ≤ n) → dpL ds ≤ n
  | [], _ => Nat.zero_le _
  | a :: r, h => Nat.max_le.mpr ⟨h a List.mem_cons_self, dpL_le fun d hd => h d (List.mem_cons_of_mem _ hd)⟩
theorem DaL.ints {H : Hp} : ∀ {xs : List V} {r : List Int}, DaL H xs (r.map .int) → xs = r.map V.int
  | [], [], _ => rfl
  | x :: xs, n :: r, h => by
    cases h with
    | cons a t => rw [a.int1, DaL.ints t]; rfl
  | [], _ :: _, h => by cases h
  | _ :: _, [], h => by cases h
theorem DaL.ofInts {H : Hp} : ∀ (r : List Int), DaL H (r.map V.int) (r.map .int)
  | [] => .nil
  | n :: r => .cons (.int n) (DaL.ofInts r)
theorem DaL.set {H : Hp} : ∀ {vs : List V} {ds : List PyData} {i : Nat} {v : V} {d : PyData}, DaL H vs ds → Da H v d → DaL H (vs.set i v) (ds.set i d)
  | _, _, _, _, _, .nil, _ => .nil
  | _, _, 0, _, _, .cons _ t, q => .cons q t
  | _, _, i + 1, _, _, .cons r t, q => .cons r (DaL.set (i := i) t q)
/-! slices, pop at -/
section
variable {K : PySem.W.Frag} {σ : L2.St} {H H' : Hp} {Q : VK} {te : TE} {tl th : TO} {p : Addr} {xs : List V} {lo hi : Option Int}
theorem g_sl {r : V → Option Int → Option Int → Hp → VK → Prop} (h : te σ H fun x H1 => tl σ H1 fun l H2 => th σ H2 fun u H3 => r x l u H3 Q) : tSl r te tl th σ H Q := h
theorem g_noP {QO : Option Int → Hp → Prop} (h : QO none H) : tNoPart σ H QO := h
def rPart (x : V) (H : Hp) (QO : Option Int → Hp → Prop) : Prop := ∃ i, x = .int i ∧ QO (some i) H
theorem g_part {QO : Option Int → Hp → Prop} (h : te σ H fun x H1 => rPart x H1 QO) : tPart te σ H QO := h
theorem g_rpart {i : Int} {QO : Option Int → Hp → Prop} (h : QO (some i) H) : rPart (.int i) H QO := ⟨i, rfl, h⟩
theorem g_slL (h : SqL K H p xs) (q : ∀ l H', H l = none → Fr [] H H' → H' l = some (.lst (cutV xs lo hi)) → Q (.ref l) H') : rSlL K (.ref p) lo hi H Q := ⟨p, xs, rfl, h, fun l hl => q l _ hl (Fr.new hl) upd_same⟩
theorem g_popAt {i : Int} {y : V} (h : H p = some (.lst xs)) (hl : xs.length ≤ 1000000) (h0 : 0 ≤ i) (hy : xs[i.toNat]? = some y) (q : ∀ H', Fr [p] H H' → H' p = some (.lst (xs.eraseIdx i.toNat)) → Q y H') : rPopAt (.ref p) [.int i] H Q := by
  have hlt := (List.getElem?_eq_some_iff.mp hy).1
  refine ⟨p, xs, i, i.toNat, y, rfl, rfl, h, by omega, by omega, ?_, hy, q _ (Fr.put h trivial) upd_same⟩
  refine (ixN_seq (i := i) ?_).1
  unfold ixN
  rw [if_pos h0, if_pos (by omega)]
end
theorem cut_take {xs : List V} {n : Nat} (h : n ≤ xs.length) : cutV xs none (some (n : Int)) = xs.take n := by
  unfold cutV
  rw [HT.sIx_none, HT.sIx_nat, Nat.min_eq_left h, Nat.sub_zero, List.drop_zero]
theorem DaL.take {H : Hp} : ∀ {xs : List V} {ds : List PyData} (n : Nat), DaL H xs ds → DaL H (xs.take n) (ds.take n)
  | _, _, 0, _ => .nil
  | _, _, n + 1, .nil => .nil
  | _, _, n + 1, .cons a t => .cons a (DaL.take n t)
theorem DaL.erase {H : Hp} : ∀ {xs : List V} {ds : List PyData} (n : Nat), DaL H xs ds → DaL H (xs.eraseIdx n) (ds.eraseIdx n)
  | _, _, _, .nil => .nil
  | _, _, 0, .cons _ t => t
  | _, _, n + 1, .cons a t => .cons a (DaL.erase n t)
/-- a statement that is never reached -/
def tDead : TS := fun _ _ _ => False
theorem ps_dead {X : Cx} {st : Stmt} : PS X st tDead := ⟨fun _ _ _ _ _ _ h => h.elim⟩
end Lw

namespace Lw
open PySem L2
/-! ### tables: plain lists of keys and values -/
section
variable {κ α : Type} [DecidableEq κ]
def lk (m : List (κ × α)) (k : κ) : Option α := (m.find? fun e => decide (e.1 = k)).map (·.2)
def pt (m : List (κ × α)) (k : κ) (v : α) : List (κ × α) := if (m.any fun e => decide (e.1 = k)) = true then m.map (fun e => if e.1 = k then (e.1, v) else e) else m ++ [(k, v)]
def dr (m : List (κ × α)) (k : κ) : List (κ × α) := m.filter fun e => decide (e.1 ≠ k)
/-- a table as the layer's pairs -/
def enD {κ' : Type} (f : κ → κ') (g : α → V) (m : List (κ × α)) : List (κ' × V) := m.map fun e => (f e.1, g e.2)
variable {κ' : Type} [DecidableEq κ'] {f : κ → κ'} {g : α → V}
theorem enD_dec (inj : ∀ a b, f a = f b → a = b) (a b : κ) : decide (f a = f b) = decide (a = b) := by
  by_cases h : a = b
  · subst h; simp
  · rw [decide_eq_false h, decide_eq_false fun q => h (inj _ _ q)]
theorem enD_val (inj : ∀ a b, f a = f b → a = b) (m : List (κ × α)) (k : κ) : valV (enD f g m) (f k) = (lk m k).map g := by
  induction m with
  | nil => rfl
  | cons e r ih =>
    by_cases h : e.1 = k
    · have h1 : valV (enD f g (e :: r)) (f k) = some (g e.2) := valV_pos (p := (f e.1, g e.2)) (by rw [h])
      rw [h1]; simp [lk, List.find?_cons, h]
    · have h1 : valV (enD f g (e :: r)) (f k) = valV (enD f g r) (f k) := valV_neg (p := (f e.1, g e.2)) (fun q => h (inj _ _ q))
      rw [h1, ih]; simp [lk, List.find?_cons, h]
theorem enD_any (inj : ∀ a b, f a = f b → a = b) (m : List (κ × α)) (k : κ) : ((enD f g m).any fun e => decide (e.1 = f k)) = m.any fun e => decide (e.1 = k) := by
  induction m with
  | nil => rfl
  | cons e r ih =>
    show (decide (f e.1 = f k) || (enD f g r).any fun e => decide (e.1 = f k)) = _
    rw [ih, enD_dec inj]
    rfl
theorem enD_put (inj : ∀ a b, f a = f b → a = b) (m : List (κ × α)) (k : κ) (v : α) : putK (enD f g m) (f k) (g v) = enD f g (pt m k v) := by
  unfold putK pt
  rw [enD_any inj]
  by_cases h : (m.any fun e => decide (e.1 = k)) = true
  · rw [if_pos h, if_pos h]
    unfold enD
    rw [List.map_map, List.map_map]
    refine List.map_congr_left fun e _ => ?_
    show (if f e.1 = f k then (f e.1, g v) else (f e.1, g e.2)) = _
    by_cases q : e.1 = k
    · simp [q]
    · rw [if_neg fun z => q (inj _ _ z)]; simp [q]
  · rw [if_neg h, if_neg h]
    unfold enD
    rw [List.map_append]
    rfl
theorem enD_drop (inj : ∀ a b, f a = f b → a = b) (m : List (κ × α)) (k : κ) : dropK (enD f g m) (f k) = enD f g (dr m k) := by
  unfold dropK dr enD
  rw [List.filter_map]
  congr 1
  refine List.filter_congr fun e _ => ?_
  show decide (f e.1 ≠ f k) = decide (e.1 ≠ k)
  by_cases h : e.1 = k
  · simp [h]
  · have : f e.1 ≠ f k := fun q => h (inj _ _ q)
    simp [h, this]
theorem enD_len (m : List (κ × α)) : (enD f g m).length = m.length := by unfold enD; rw [List.length_map]
theorem enD_get {m : List (κ × α)} {i : Nat} {k : κ'} {v : V} (h : (enD f g m)[i]? = some (k, v)) : ∃ e, m[i]? = some e ∧ k = f e.1 ∧ v = g e.2 := by
  unfold enD at h
  rw [List.getElem?_map] at h
  cases q : m[i]? with
  | none => rw [q] at h; cases h
  | some e => rw [q] at h; cases h; exact ⟨e, rfl, rfl, rfl⟩
theorem lk_pt (m : List (κ × α)) (k j : κ) (v : α) : lk (pt m k v) j = if j = k then some v else lk m j := by
  have h := enD_put (f := fun k : κ => k) (g := fun _ : α => V.non) (fun _ _ q => q) m k v
  unfold pt
  induction m with
  | nil =>
    by_cases e : j = k
    · simp [lk, e]
    · have : ¬ k = j := fun q => e q.symm
      simp [lk, e, this]
  | cons e r ih =>
    by_cases hk : e.1 = k
    · have ha : ((e :: r).any fun e => decide (e.1 = k)) = true := by simp [hk]
      rw [if_pos ha]
      by_cases hj : j = k
      · rw [if_pos hj]; simp [lk, List.find?_cons, hk, hj]
      · rw [if_neg hj]
        have hk2 : ¬ k = j := fun q => hj q.symm
        have : ∀ r : List (κ × α), lk (r.map fun e => if e.1 = k then (e.1, v) else e) j = lk r j := by
          intro r
          induction r with
          | nil => rfl
          | cons a t ih2 =>
            by_cases ha : a.1 = k
            · have h1 : ¬ a.1 = j := fun q => hj (q.symm.trans ha)
              simp only [List.map_cons, lk, List.find?_cons, if_pos ha, decide_eq_false h1]
              exact ih2
            · by_cases h1 : a.1 = j
              · simp only [List.map_cons, lk, List.find?_cons, if_neg ha, decide_eq_true h1]
              · simp only [List.map_cons, lk, List.find?_cons, if_neg ha, decide_eq_false h1]
                exact ih2
        exact this (e :: r)
    · have ha : ((e :: r).any fun e => decide (e.1 = k)) = r.any fun e => decide (e.1 = k) := by simp [hk]
      rw [ha]
      have ih' := ih (enD_put (f := fun k : κ => k) (g := fun _ : α => V.non) (fun _ _ q => q) r k v)
      by_cases hb : (r.any fun e => decide (e.1 = k)) = true
      · rw [if_pos hb] at ih' ⊢
        by_cases h1 : e.1 = j
        · have h2 : ¬ j = k := fun q => hk (h1.trans q)
          simp [lk, List.find?_cons, hk, h1, h2]
        · simp only [List.map_cons, if_neg hk, lk, List.find?_cons, decide_eq_false h1] at ih' ⊢
          exact ih'
      · rw [if_neg hb] at ih' ⊢
        by_cases h1 : e.1 = j
        · have h2 : ¬ j = k := fun q => hk (h1.trans q)
          simp [lk, List.find?_cons, h1, h2]
        · simp only [List.cons_append, lk, List.find?_cons, decide_eq_false h1] at ih' ⊢
          exact ih'
end
/-! ### readings of dicts -/
section
variable {K : PySem.W.Frag} {σ : L2.St} {H H' : Hp} {Q : VK} {D : Ends} {td ty te tv tx : TE} {tt : TT} {tb t : TS} {g : TG} {a b d q : Addr} {o : Obj} {kvs : List (List Key × V)} {k : List Key} {v x y z : V} {vs : List Nat} {R : It → Hp → Prop} {as : TA}
/-- may be read as a dict with tuple keys -/
abbrev RdT (H : Hp) (a : Addr) (kvs : List (List Key × V)) : Prop := Rd H a (.dT kvs)
def rDG (x y : V) (H : Hp) (Q : VK) : Prop := ∃ a v, x = .ref a ∧ DGet H a y (some v) ∧ Q v H
theorem g_dget (h : td σ H fun x H1 => ty σ H1 fun y H2 => rDG x y H2 Q) : tDGet td ty σ H Q := h
theorem g_rdg (h : Rd H a (.dT kvs)) (e : H b = some (.tup (k.map kV))) (l : valV kvs k = some v) (c : Q v H) : rDG (.ref a) (.ref b) H Q := ⟨a, v, rfl, .inr ⟨kvs, k, b, h, rfl, e, l.symm⟩, c⟩
def rDI (y x : V) (H : Hp) (Q : VK) : Prop := ∃ a o, x = .ref a ∧ DGet H a y o ∧ Q (.bl o.isSome) H
def rDNI (y x : V) (H : Hp) (Q : VK) : Prop := ∃ a o, x = .ref a ∧ DGet H a y o ∧ Q (.bl (!o.isSome)) H
theorem g_din (h : ty σ H fun y H1 => td σ H1 fun x H2 => rDI y x H2 Q) : tDIn ty td σ H Q := h
theorem g_dnin (h : ty σ H fun y H1 => td σ H1 fun x H2 => rDNI y x H2 Q) : tDNotIn ty td σ H Q := h
theorem g_rdi (h : Rd H a (.dT kvs)) (e : H b = some (.tup (k.map kV))) (c : Q (.bl (valV kvs k).isSome) H) : rDI (.ref b) (.ref a) H Q := ⟨a, _, rfl, .inr ⟨kvs, k, b, h, rfl, e, rfl⟩, c⟩
theorem g_rdni (h : Rd H a (.dT kvs)) (e : H b = some (.tup (k.map kV))) (c : Q (.bl (!(valV kvs k).isSome)) H) : rDNI (.ref b) (.ref a) H Q := ⟨a, _, rfl, .inr ⟨kvs, k, b, h, rfl, e, rfl⟩, c⟩
def rDP (x y v : V) (H : Hp) (P : Hp → Prop) : Prop := ∃ a H4, x = .ref a ∧ DPut H a y v H4 ∧ P H4
theorem g_dput (h : tv σ H fun v H1 => td σ H1 fun x H2 => ty σ H2 fun y H3 => rDP x y v H3 fun H4 => D.nx σ H4) : sDPut td ty tv D σ H := h
theorem g_rdp {P : Hp → Prop} (h : H a = some (.dT kvs)) (e : H b = some (.tup (k.map kV))) (hl : kvs.length < sizeLine) (c : ∀ H', Fr [a] H H' → H' a = some (.dT (putK kvs k v)) → P H') : rDP (.ref a) (.ref b) v H P :=
  ⟨a, _, rfl, .inr ⟨kvs, k, b, h, rfl, e, hl, rfl⟩, c _ (Fr.put h trivial) upd_same⟩
def rDG2 (x : V) (H : Hp) (P : Addr → Prop) : Prop := ∃ a, x = .ref a ∧ IsD H a ∧ P a
def rDO (a : Addr) (y z : V) (H : Hp) (Q : VK) : Prop := ∃ o, DGet H a y o ∧ Q (o.getD z) H
theorem g_dget2 (h : td σ H fun x H1 => rDG2 x H1 fun a => ty σ H1 fun y H2 => tx σ H2 fun z H3 => rDO a y z H3 Q) : tDGet2 td ty tx σ H Q := h
theorem g_dget1 (h : td σ H fun x H1 => rDG2 x H1 fun a => ty σ H1 fun y H2 => rDO a y .non H2 Q) : tDGet1 td ty σ H Q := h
theorem g_rdg2 {P : Addr → Prop} (h : Rd H a (.dT kvs)) (c : P a) : rDG2 (.ref a) H P := ⟨a, rfl, .inr ⟨kvs, h⟩, c⟩
theorem g_dgo (h : Rd H a (.dT kvs)) (e : H b = some (.tup (k.map kV))) (c : Q (((valV kvs k)).getD z) H) : rDO a (.ref b) z H Q := ⟨_, .inr ⟨kvs, k, b, h, rfl, e, rfl⟩, c⟩
theorem g_dnew (c : ∀ p H', H p = none → Fr [] H H' → H' p = some (.dT []) → Q (.ref p) H') : tDNewT σ H Q := fun p hp => c p _ hp (Fr.new hp) upd_same
theorem g_dnewK (c : ∀ p H', H p = none → Fr [] H H' → H' p = some (.dK []) → Q (.ref p) H') : tDNewK σ H Q := fun p hp => c p _ hp (Fr.new hp) upd_same
/-! a walk over a dict, which is locked meanwhile -/
def rUl (d : Addr) (od : Obj) (u : HO) (H : Hp) (P : Hp → Prop) : Prop := H d = some (.frz od u) ∧ P (upd H d u)
theorem g_unl {u : HO} {P : Hp → Prop} (h : H d = some (.frz o u)) (c : ∀ H', Fr [d] H H' → H' d = some u → P H') : rUl d o u H P := ⟨h, c _ (Fr.put h trivial) upd_same⟩
theorem g_lock {u : HO} (h : H d = some u) (m : Mut (some u)) (nt : notTup u) (c : ∀ od H0, Fr [d] H H0 → H0 d = some (.frz od u) → t ⟨fun σ' H' => rUl d od u H' fun H2 => D.nx σ' H2, fun v H' => rUl d od u H' fun H2 => D.rt v H2,
    fun σ' H' => rUl d od u H' fun H2 => D.bk σ' H2, fun σ' H' => rUl d od u H' fun H2 => D.ct σ' H2⟩ σ H0) : tLock t D σ H := ⟨d, u, h, m, fun od => c od _ (Fr.put h nt) upd_same⟩
theorem g_lockE {u : HO} (h : H d = some u) (m : Mut (some u)) (nt : notTup u) (c : ∀ od H0, Fr [d] H H0 → H0 d = some (.frz od u) → te σ H0 fun v H' => rUl d od u H' fun H2 => Q v H2) : tLockE te σ H Q := ⟨d, u, h, m, fun od => c od _ (Fr.put h nt) upd_same⟩
def rKy (x : V) (H : Hp) (R : It → Hp → Prop) : Prop := ∃ d o, x = .ref d ∧ ((∃ kvs, H d = some (.frz o (.dK kvs)) ∧ R (Itk d o kvs) H) ∨ ∃ kvs, H d = some (.frz o (.dT kvs)) ∧ R (Itkt d o kvs) H)
theorem g_iK (h : td σ H fun x H1 => rKy x H1 R) : iKeys td σ H R := h
theorem g_rkt (h : H d = some (.frz o (.dT kvs))) (c : R (Itkt d o kvs) H) : rKy (.ref d) H R := ⟨d, o, rfl, .inr ⟨kvs, h, c⟩⟩
theorem f_keysT (Pv : Nat → L2.St → Hp → Prop) (h0 : Pv 0 σ H) (hl : ∀ i σ H, i ≤ kvs.length → Pv i σ H → H d = some (.frz o (.dT kvs)))
    (hs : ∀ i k v q σ H, kvs[i]? = some (k, v) → H q = some (.tup (k.map kV)) → Pv i σ H → g (.ref q) σ H fun σ2 H2 => tb { D with nx := Pv (i + 1), ct := Pv (i + 1), bk := D.nx } σ2 H2) (hd : ∀ σ H, Pv kvs.length σ H → D.nx σ H) : ForGo (Itkt d o kvs) g tb D σ H :=
  for_it walk_keysT Pv h0 hl (fun i x σ H H' hi p y => by obtain ⟨rfl, k, v, q, h1, rfl, h3⟩ := y; exact hs i k v q σ _ h1 h3 p) hd
theorem l_keysT (c : ∀ Dl H0, H Dl = none → Fr [] H H0 → H0 Dl = some (.lst []) → ∃ Pv : Nat → List V → Hp → Prop, Pv 0 [] H0 ∧ (∀ i acc H', Pv i acc H' → H' d = some (.frz o (.dT kvs))) ∧
    (∀ i k v q acc H', kvs[i]? = some (k, v) → H' q = some (.tup (k.map kV)) → H' Dl = some (.lst acc) → Pv i acc H' → lcStep g tt te vs σ Dl Pv i (.ref q) H') ∧ (∀ acc H', H' Dl = some (.lst acc) → Pv kvs.length acc H' → Q (.ref Dl) H')) : LcGo (Itkt d o kvs) g tt te vs σ Q H := by
  intro Dl hD
  obtain ⟨Pv, p0, pl, ps, pd⟩ := c Dl _ hD (Fr.new hD) upd_same
  exact lc_it walk_keysT (fun i H' => ∃ acc, H' Dl = some (.lst acc) ∧ Pv i acc H') ⟨[], upd_same, p0⟩ (fun i H' _ ⟨acc, _, p⟩ => pl i acc H' p) (fun i x H1 H' hi ⟨acc, hd, p⟩ y => by obtain ⟨rfl, k, v, q, h1, rfl, h3⟩ := y; exact ps i k v q acc _ h1 h3 hd p) (fun H' ⟨acc, hd, p⟩ => pd acc H' hd p)
/-! targets that are tuples -/
def rGt (K : PySem.W.Frag) (n : Nat) (t : TGs) (v : V) (σ : L2.St) (H : Hp) (P : L2.St → Hp → Prop) : Prop := ∃ a xs, v = .ref a ∧ SqT K H a xs ∧ xs.length = n ∧ t xs σ H P
theorem g_gtup {n : Nat} {t : TGs} {P : L2.St → Hp → Prop} {xs : List V} (h : SqT K H a xs) (hl : xs.length = n) (c : t xs σ H P) : gTup K n t (.ref a) σ H P := ⟨a, xs, rfl, h, hl, c⟩
theorem g_gcons {t : TG} {u : TGs} {P : L2.St → Hp → Prop} {r : List V} (c : t v σ H fun σ' H' => u r σ' H' P) : gCons t u (v :: r) σ H P := ⟨v, r, rfl, c⟩
theorem g_gnil {P : L2.St → Hp → Prop} (c : P σ H) : gNil [] σ H P := ⟨rfl, c⟩
/-! enumerate, zip: a new pair a turn -/
def rEn (K : PySem.W.Frag) (vs : List V) (H : Hp) (R : It → Hp → Prop) : Prop := ∃ a xs, vs = [.ref a] ∧ SqL K H a xs ∧ R (Ite K a) H
theorem g_iE (h : as σ H fun vs H1 => rEn K vs H1 R) : iEnum K as σ H R := h
theorem g_ren {xs : List V} (h : SqL K H a xs) (c : R (Ite K a) H) : rEn K [.ref a] H R := ⟨a, xs, rfl, h, c⟩
theorem f_enum {xs : List V} (Pv : Nat → L2.St → Hp → Prop) (h0 : Pv 0 σ H) (hl : ∀ i σ H, i ≤ xs.length → Pv i σ H → SqL K H a xs)
    (hs : ∀ i x T σ H H', xs[i]? = some x → Pv i σ H → H T = none → Fr [] H H' → H' T = some (.tup [.int (i : Nat), x]) → g (.ref T) σ H' fun σ2 H2 => tb { D with nx := Pv (i + 1), ct := Pv (i + 1), bk := D.nx } σ2 H2) (hd : ∀ σ H, Pv xs.length σ H → D.nx σ H) : ForGo (Ite K a) g tb D σ H :=
  for_it walk_enum Pv h0 hl (fun i x σ H H' hi p y => by
    obtain ⟨T, u, w, rfl, h2, rfl, h4, h5⟩ := y
    cases h4
    exact hs i w T σ H _ h5 p h2 (Fr.new h2) upd_same) hd
def rZp (K : PySem.W.Frag) (vs : List V) (H : Hp) (R : It → Hp → Prop) : Prop := ∃ a b xs ys, vs = [.ref a, .ref b] ∧ SqL K H a xs ∧ SqL K H b ys ∧ R (Itz K a b) H
theorem g_iZ (h : as σ H fun vs H1 => rZp K vs H1 R) : iZip K as σ H R := h
theorem g_rzp {xs ys : List V} (h : SqL K H a xs) (h2 : SqL K H b ys) (c : R (Itz K a b) H) : rZp K [.ref a, .ref b] H R := ⟨a, b, xs, ys, rfl, h, h2, c⟩
theorem f_zip {xs ys : List V} {n : Nat} (hn : n = min xs.length ys.length) (Pv : Nat → L2.St → Hp → Prop) (h0 : Pv 0 σ H) (hl : ∀ i σ H, i ≤ n → Pv i σ H → SqL K H a xs ∧ SqL K H b ys)
    (hs : ∀ i x y T σ H H', xs[i]? = some x → ys[i]? = some y → Pv i σ H → H T = none → Fr [] H H' → H' T = some (.tup [x, y]) → g (.ref T) σ H' fun σ2 H2 => tb { D with nx := Pv (i + 1), ct := Pv (i + 1), bk := D.nx } σ2 H2) (hd : ∀ σ H, Pv n σ H → D.nx σ H) : ForGo (Itz K a b) g tb D σ H :=
  for_it (walk_zip hn) Pv h0 hl (fun i x σ H H' hi p y => by
    obtain ⟨T, u, w, rfl, h2, rfl, h4, h5⟩ := y
    exact hs i u w T σ H _ h4 h5 p h2 (Fr.new h2) upd_same) hd
/-- sum, min of a list of ints -/
theorem g_sum {ns : List Int} (h : SqL K H a (ns.map V.int)) (c : Q (.int ns.sum) H) : rSum K [.ref a] H Q := ⟨a, ns, rfl, h, c⟩
theorem g_all {bs : List Bool} (h : SqL K H a (bs.map V.bl)) (c : Q (.bl (bs.all id)) H) : rAll K [.ref a] H Q := ⟨a, bs, rfl, h, c⟩
theorem g_any {bs : List Bool} (h : SqL K H a (bs.map V.bl)) (c : Q (.bl (bs.any id)) H) : rAny K [.ref a] H Q := ⟨a, bs, rfl, h, c⟩
theorem g_catT {xs ys : List V} (h : SqT K H a xs) (h2 : SqT K H b ys) (hne : xs ≠ []) (hl : xs.length + ys.length ≤ sizeLine) (c1 : ys = [] → Q (.ref a) H) (c2 : ys ≠ [] → ∀ p H', H p = none → Fr [] H H' → H' p = some (.tup (xs ++ ys)) → Q (.ref p) H') : rCatT K (.ref a) (.ref b) H Q :=
  ⟨a, b, xs, ys, rfl, rfl, h, h2, hne, hl, c1, fun e p hp => c2 e p _ hp (Fr.new hp) upd_same⟩
theorem g_cat {xs ys : List V} (h : H a = some (.lst xs)) (h2 : H b = some (.lst ys)) (hl : xs.length + ys.length ≤ sizeLine) (c : ∀ p H', H p = none → Fr [] H H' → H' p = some (.lst (xs ++ ys)) → Q (.ref p) H') : rCat (.ref a) (.ref b) H Q :=
  ⟨a, b, xs, ys, rfl, rfl, h, h2, hl, fun p hp => c p _ hp (Fr.new hp) upd_same⟩
end
/-! ### sorted of data -/
section
open PySem.W in
/-- sorted(xs), xs a list that reads as data of one shape: a new list of the same values in their order -/
def rSortD (K : PySem.W.Frag) : List V → Hp → VK → Prop := fun vs H Q => ∃ (a : Addr) (bs : List (V × PyData)), vs = [V.ref a] ∧ SqL K H a (bs.map (·.1)) ∧ (∀ b ∈ bs, Da H b.1 b.2) ∧ AllAlike (bs.map (·.2)) ∧ Sortable (bs.map (·.2)) ∧ (∀ b ∈ bs, b.2.depth ≤ 60) ∧
  ∀ p, H p = none → Q (.ref p) (upd H p (.lst ((bs.mergeSort (dataLe false (·.2))).map (·.1))))
variable {X : Cx}
open PySem.W in
theorem eachV {s : Shared} {H : Hp} {pins : List (Addr × Obj)} {σ : L2.St} (I : Inv X pins σ H s) : ∀ (bs : List (V × PyData)) (us : List Value), Vals (bs.map (·.1)) us → (∀ b ∈ bs, Da H b.1 b.2) → EachIs (fun u (b : V × PyData) => RelV b.1 u) us bs ∧ EachIs (fun u (b : V × PyData) => ∃ as, PySem.Reads s.heap u b.2 as) us bs
  | [], us, r, _ => by cases r; exact ⟨.nil, .nil⟩
  | b :: bs, us, r, h => by
    cases r with
    | cons r1 r2 =>
      obtain ⟨e1, e2⟩ := eachV I bs _ r2 fun c hc => h c (List.mem_cons_of_mem _ hc)
      exact ⟨.cons r1 e1, .cons (Dp.reads I _ _ _ (Da.dp (K := X.K) _ _ (h b List.mem_cons_self)) r1) e2⟩
open PySem.W in
theorem eachB : ∀ {us : List Value} {bs : List (V × PyData)}, EachIs (fun u (b : V × PyData) => RelV b.1 u) us bs → Vals (bs.map (·.1)) us
  | _, _, .nil => .nil
  | _, _, .cons r t => .cons r (eachB t)
open PySem.W in
theorem b_sortD (hu : X.A.units + 64 < cLine) : CallR X (.builtin "sorted") (rSortD X.K) := by
  intro pins s σ H vs us Q I r h
  obtain ⟨a, bs, rfl, hs, hd, ha, hk, hdp, q⟩ := h
  obtain ⟨its, rv, hl, hz⟩ := I.list hs
  obtain ⟨u, rfl, ru⟩ := vals1 r
  obtain rfl : u = Value.ref a := ru
  obtain ⟨e1, e2⟩ := eachV I bs its rv hd
  rw [List.length_map] at hz
  refine sorted_data (enc := fun b : V × PyData => b.2) hl.isList e1 e2 ha hk hz (fun b hb => ?_) fun out ho eo => ?_
  · have := hdp b hb
    show X.A.units + 2 + b.2.depth < cLine
    omega
  · obtain ⟨ep, he'⟩ := PyProof.Rows.sortedAll_at s.heap its out.toArray
    have vo := eachB eo
    have hlen : ((bs.mergeSort (dataLe false fun b : V × PyData => b.2)).map (·.1)).length ≤ sizeLine := by rw [List.length_map, List.length_mergeSort]; exact hz
    exact ⟨.ref _, upd H (s.heap.objs.size + 1) (.lst _), I.laid (t' := s.toks) (fun _ _ => PyProof.Rows.sortedAll_old) (Nat.le_succ _) ⟨hlen, out, ep, vo, he'⟩, rfl, q _ (I.hok.fresh (Nat.le_succ _))⟩
open PySem.W in
theorem g_sortD {K : PySem.W.Frag} {H : Hp} {Q : VK} {a : Addr} {bs : List (V × PyData)} (hs : SqL K H a (bs.map (·.1))) (hd : ∀ b ∈ bs, Da H b.1 b.2) (ha : AllAlike (bs.map (·.2))) (hk : Sortable (bs.map (·.2))) (hdp : ∀ b ∈ bs, b.2.depth ≤ 60)
    (c : ∀ p H', H p = none → Fr [] H H' → H' p = some (.lst ((bs.mergeSort (dataLe false (·.2))).map (·.1))) → Q (.ref p) H') : rSortD K [.ref a] H Q := ⟨a, bs, rfl, hs, hd, ha, hk, hdp, fun p hp => c p _ hp (Fr.new hp) upd_same⟩
/-- the sorted data -/
def srt (ds : List PyData) : List PyData := ds.mergeSort (PySem.W.dataLe false id)
end
/-! ### d.clear() of a dict with tuple keys -/
section
variable {X : Cx}
def rDClearT : V → List V → Hp → VK → Prop := fun x vs H Q => ∃ (a : Addr) (kvs : List (List Key × V)), x = .ref a ∧ vs = [] ∧ H a = some (.dT kvs) ∧ Q .non (upd H a (.dT []))
theorem mtd_clearT : MtR X "dict.clear" rDClearT := by
  intro pins s σ H x vs v us Q I rx rv h
  obtain ⟨a, kvs, rfl, rfl, e, q⟩ := h
  obtain rfl : v = Value.ref a := rx
  cases rv
  obtain ⟨z, hd, xs, rel, o, es, ep, ho, hx, hdat, hes, _⟩ := dt_of I.hok e
  have raw : s.heap.DictRaw a es ep := ⟨o, ho, hx, hdat⟩
  have hsz : es.size ≤ sizeLine := by
    have e1 := congrArg List.length hes
    rw [Array.length_toList, List.length_map] at e1
    rw [e1, ← Paired.length rel]
    exact z
  refine call_meetsIn PySem.F.slot_dict_clear raw.typeIs PySem.F.entry_dict_clear (PySem.F.args_dict_clear_1 _) (meets_dict_clear_raw a) ⟨es, ep, raw, hsz, fun h' raw' hs => ?_⟩
  obtain ⟨o', ho', hx', hdat'⟩ := raw'
  exact ⟨.non, _, d_write (t' := s.toks) (ob := .dT []) I (by rw [e]; exact True.intro) hs ⟨o', ho'⟩ ⟨Nat.zero_le _, hd, [], .nil, o', #[], ep + 1, ho', hx', hdat', rfl, List.nodup_nil⟩, rfl, q⟩
theorem pe_dclearT {o : Expr} {to : TE} {apos cpos : Pos} (ho : PE X o to) (hbase : attributeBase o "clear" X.env (eval o X.env) = eval o X.env := by rfl) (hline : (apos.endLine == cpos.line) = true := by rfl) : PE X (.Call (.Attribute o "clear" apos) [] [] cpos) (tBM0 X.K "dict" rDClearT to) :=
  pe_bm0 PySem.F.plainAttrs_dict PySem.F.slot_dict_clear PySem.F.type_dict_clear mtd_clearT ho hbase hline
theorem g_bmT {K : PySem.W.Frag} {H : Hp} {a : Addr} {kvs : List (List Key × V)} {P : Prop} (h : H a = some (.dT kvs)) (q : P) : rBM K "dict" (.ref a) H P := ⟨.inr (.inr (.inl ⟨rfl, .inr ⟨kvs, h⟩⟩)), q⟩
theorem g_clearT {H : Hp} {a : Addr} {kvs : List (List Key × V)} {Q : VK} (h : H a = some (.dT kvs)) (q : ∀ H', Fr [a] H H' → H' a = some (.dT []) → Q .non H') : rDClearT (.ref a) [] H Q := ⟨a, kvs, rfl, rfl, h, q _ (Fr.put h trivial) upd_same⟩
end
/-! ### list(range(a, b)) -/
section
variable {σ : L2.St} {H : Hp} {Q : VK} {ta tb : TE} {a b : Int}
def rLRg (x y : V) (H : Hp) (Q : VK) : Prop := ∃ i j, x = .int i ∧ y = .int j ∧ RgOk i j ∧ ∀ q, H q = none → Q (.ref q) (upd H q (.lst (rgV i j)))
theorem g_lstRg (h : ta σ H fun x H1 => tb σ H1 fun y H2 => rLRg x y H2 Q) : tLstRg (tRg2 ta tb) σ H Q := h
theorem g_rlrg (ok : RgOk a b) (c : ∀ p H', H p = none → Fr [] H H' → H' p = some (.lst (rgV a b)) → Q (.ref p) H') : rLRg (.int a) (.int b) H Q := ⟨a, b, rfl, rfl, ok, fun p hp => c p _ hp (Fr.new hp) upd_same⟩
end
/-! ### what sorted gives, as data -/
section
open PySem.W
theorem dle_total {β : Type} (k : β → PyData) : TotalLe (dataLe false k) := sortLe_total _ false _
theorem srt_perm (ds : List PyData) : (srt ds).Perm ds := List.mergeSort_perm ds _
theorem srt_srt (ds : List PyData) : srt (srt ds) = srt ds := List.mergeSort_of_pairwise (sort_pairwise (dle_total id) ds)
theorem srt_map {β : Type} (f : β → PyData) (l : List β) : (l.mergeSort (dataLe false f)).map f = srt (l.map f) := sort_maps f fun _ _ _ _ => rfl
theorem DaL.zip {H : Hp} : ∀ {xs : List V} {ds : List PyData}, DaL H xs ds → (xs.zip ds).map (·.1) = xs ∧ (xs.zip ds).map (·.2) = ds ∧ ∀ b ∈ xs.zip ds, Da H b.1 b.2
  | _, _, .nil => ⟨rfl, rfl, fun _ h => nomatch h⟩
  | _, _, .cons a t => by
    obtain ⟨h1, h2, h3⟩ := DaL.zip t
    refine ⟨by simp [h1], by simp [h2], fun b hb => ?_⟩
    rcases List.mem_cons.mp hb with e | e
    · rw [e]; exact a
    · exact h3 b e
theorem DaL.ofBs {H : Hp} : ∀ {bs : List (V × PyData)}, (∀ b ∈ bs, Da H b.1 b.2) → DaL H (bs.map (·.1)) (bs.map (·.2))
  | [], _ => .nil
  | b :: bs, h => .cons (h b List.mem_cons_self) (DaL.ofBs fun c hc => h c (List.mem_cons_of_mem _ hc))
theorem g_srt {K : PySem.W.Frag} {H : Hp} {Q : VK} {a : Addr} {xs : List V} {ds : List PyData} (hs : SqL K H a xs) (hd : DaL H xs ds) (ha : AllAlike ds) (hk : Sortable ds) (hdp : ∀ d ∈ ds, d.depth ≤ 60)
    (c : ∀ p H' ys, H p = none → Fr [] H H' → H' p = some (.lst ys) → DaL H ys (srt ds) → Q (.ref p) H') : rSortD K [.ref a] H Q := by
  obtain ⟨z1, z2, z3⟩ := hd.zip
  refine g_sortD (bs := xs.zip ds) (by rw [z1]; exact hs) z3 (by rw [z2]; exact ha) (by rw [z2]; exact hk) (fun b hb => hdp b.2 (by rw [← z2]; exact List.mem_map.mpr ⟨b, hb, rfl⟩)) fun p H' hp f e => ?_
  refine c p H' _ hp f e ?_
  have q := DaL.ofBs (H := H) (bs := (xs.zip ds).mergeSort (dataLe false (·.2))) fun b hb => z3 b ((List.mergeSort_perm _ _).mem_iff.mp hb)
  rw [srt_map (fun b : V × PyData => b.2), z2] at q
  exact q
theorem alike_len : ∀ (n : Nat) (xs ys : List Int), alikeAll (xs.map .int) (ys.map .int) = true := fun _ => alike_ints
end
/-! ### chains, min, in, options -/
abbrev tChainT (r r' : R2) (ta tb tc : TE) : TT := tTest (tChain r r' ta tb tc)
section
variable {K : PySem.W.Frag} {σ : L2.St} {H : Hp} {Q : VK} {ta tb tc : TE} {r r' : R2} {y : V} {k : Bool} {p : Addr} {ns : List Int} {m : Int}
def rCh (r' : R2) (tc : TE) (y : V) (σ : L2.St) (Q : VK) (z : V) (H3 : Hp) : Prop := ∃ k, z = .bl k ∧ (if k = true then tc σ H3 fun w' H4 => r' y w' H4 Q else Q (.bl false) H3)
theorem g_chain (h : ta σ H fun x H1 => tb σ H1 fun y H2 => r x y H2 fun z H3 => rCh r' tc y σ Q z H3) : tChain r r' ta tb tc σ H Q := h
theorem g_rch (h : if k = true then tc σ H fun w' H4 => r' y w' H4 Q else Q (.bl false) H) : rCh r' tc y σ Q (.bl k) H := ⟨k, rfl, h⟩
theorem g_min (h : SqL K H p (ns.map V.int)) (hl : 0 < ns.length) (q : ∀ m, m ∈ ns → (∀ y, y ∈ ns → m ≤ y) → Q (.int m) H) : rMin K [.ref p] H Q := ⟨p, ns, rfl, h, hl, q⟩
theorem inI : inV (.int m) (ns.map V.int) = decide (m ∈ ns) := by
  unfold inV
  induction ns with
  | nil => rfl
  | cons a t ih =>
    rw [List.map_cons, List.any_cons, ih]
    show ((a == m) || decide (m ∈ t)) = _
    by_cases h : a = m
    · simp [h]
    · have h2 : ¬ m = a := fun z => h z.symm
      simp [h, h2]
theorem flatI : (ns.map V.int).all flatV = true := List.all_eq_true.mpr fun x hx => by obtain ⟨n, _, rfl⟩ := List.mem_map.mp hx; rfl
theorem g_ninI (h : SqL K H p (ns.map V.int)) (q : Q (.bl (!decide (m ∈ ns))) H) : rIn K true (.int m) (.ref p) H Q := ⟨p, _, rfl, .inl h, rfl, flatI, by rw [inI]; exact q⟩
theorem g_neB {a b : Bool} (h : Q (.bl (!decide (a = b))) H) : rNe (.bl a) (.bl b) H Q := ⟨rfl, by rw [show decide (V.bl a = V.bl b) = decide (a = b) from by simp]; exact h⟩
end
/-- a number, or none -/
def optV : Option Int → V
  | none => .non
  | some r => .int r
def optD : Option Int → PyData
  | none => .none
  | some r => .int r
section
variable {H : Hp} {Q : VK} {o : Option Int} {r : Int}
theorem g_isO (h : Q (.bl (decide (o = none))) H) : rIsNon (optV o) .non H Q := g_isN (by cases o <;> simpa [optV] using h)
theorem g_notO (h : Q (.bl (!decide (o = none))) H) : rIsNotNon (optV o) .non H Q := g_notN (by cases o <;> simpa [optV] using h)
theorem g_eqO (h : Q (.bl (decide (o = some r))) H) : rEq (optV o) (.int r) H Q := by
  cases o with
  | none => exact ⟨rfl, by simpa [optV] using h⟩
  | some q => exact g_eqI (by simpa using h)
theorem DaL.opts : ∀ {R : List (Option Int)}, DaL H (R.map optV) (R.map optD)
  | [] => .nil
  | none :: R => .cons .non DaL.opts
  | some r :: R => .cons (.int r) DaL.opts
theorem imm_opts {R : List (Option Int)} : immL (R.map optD) = true := immL_of fun d hd => by obtain ⟨o, _, rfl⟩ := List.mem_map.mp hd; cases o <;> rfl
theorem dp_opts {R : List (Option Int)} : dpL (R.map optD) ≤ 1 := dpL_le fun d hd => by obtain ⟨o, _, rfl⟩ := List.mem_map.mp hd; cases o <;> exact Nat.zero_le _
end
end Lw

namespace Lw
open PySem L2 PySem.W PySem.Calls PyProof.Rows PySem.Spec
/-! ### more of dicts with tuple keys: len, dict(d), sorted(d), d.pop(k) -/
section
variable {X : Cx}
theorem raw_of {P : Program} {w : World} {h : Heap} {a : Addr} {xs : List (List Key × Addr × Value)} (m : h.DictOfH (tupleKind (mixKind P w)) a xs) : ∃ es ep, h.DictRaw a es ep ∧ es.size = xs.length ∧ ∀ (i : Nat) (hi : i < es.size), ∃ x, xs[i]? = some x ∧ es[i].key = .ref x.2.1 := by
  obtain ⟨o, es, ep, h1, h2, h3, h4, h5, h6⟩ := m
  have hs : es.size = xs.length := by
    have e := congrArg List.length h4
    rw [Array.length_toList, List.length_map] at e
    exact e
  refine ⟨es, ep, ⟨o, h1, h2, h3⟩, hs, fun i hi => ?_⟩
  have e : es.toList[i]? = (xs.map _)[i]? := congrArg (fun l => l[i]?) h4
  rw [List.getElem?_map, List.getElem?_eq_getElem (by rw [Array.length_toList]; exact hi)] at e
  have hx : xs[i]? = some (xs[i]'(by omega)) := List.getElem?_eq_getElem (by omega)
  rw [hx] at e
  refine ⟨_, hx, ?_⟩
  have e2 := Option.some.inj e
  rw [Array.getElem_toList] at e2
  rw [e2]; rfl
/-- len(d) -/
theorem g_lenDT {H : Hp} {Q : VK} {a : Addr} {kvs : List (List Key × V)} (h : H a = some (.dT kvs)) (q : Q (.int kvs.length) H) : rLenT [.ref a] H Q := ⟨a, kvs, rfl, h, q⟩
/-- d.pop(k), k there -/
def rPopT1 : V → List V → Hp → VK → Prop := fun x xs H Q => ∃ (a b : Addr) (kvs : List (List Key × V)) (k : List Key) (v : V), x = .ref a ∧ xs = [.ref b] ∧ H a = some (.dT kvs) ∧ H b = some (.tup (k.map kV)) ∧ valV kvs k = some v ∧ Q v (upd H a (.dT (dropK kvs k)))
theorem mt_popT1 (hu : X.A.units + 1 < cLine) : MtR X "dict.pop" rPopT1 := by
  intro pins s σ H x xs v us Q I rx rxs h
  obtain ⟨a, b, kvs, k, v0, rfl, rfl, ha, hb, hv, q⟩ := h
  cases rx
  obtain ⟨u1, rfl, r1⟩ := vals1 rxs
  cases r1
  obtain ⟨z, hd, xs', rel, dd⟩ := dt_of I.hok ha
  have hz : xs'.length ≤ sizeLine := by rw [← Paired.length rel]; exact z
  have r := rel.val k
  rw [hv] at r
  obtain ⟨p, hp⟩ : ∃ p, atKey xs' k = some p := by
    cases e : atKey xs' k with
    | none => rw [e] at r; exact (show False from r).elim
    | some p => exact ⟨p, rfl⟩
  rw [hp] at r
  have rv : RelV v0 p.2 := r
  refine call_pop_heap (hsz := hz) (.inl rfl) (PySem.F.args_dict_pop_2 _ _) (tupleKind_room_in1 hu) (key_of I.hok hb) hd dd hp fun h' dd' hs => ?_
  obtain ⟨o, es, ep, hq, h2, h3, h4, _, h5⟩ := dd'
  have I2 : Inv X pins σ (upd H a (.dT (dropK kvs k))) { s with heap := h', toks := s.toks + (tupleKind (mixKind X.prog X.w)).draws k } :=
    d_write I (by rw [ha]; exact True.intro) hs ⟨o, hq⟩ ⟨Nat.le_trans (dropK_le kvs k) z, hd, _, (L2.DX.KT_drop k rel).keeps (fun c ys ec => (by rw [upd_ne (ne_of ec ha (fun z => nomatch z))]; exact ec)), o, es, ep, hq, h2, h3, h4, h5⟩
  show EP X pins σ Q p.2 _
  exact ⟨v0, _, I2, rv, q⟩
/-- dict(d): a copy; the keys' hashes differ -/
def rDictT (P : Program) (w : World) : List V → Hp → VK → Prop := fun vs H Q => ∃ (a : Addr) (kvs : List (List Key × V)), vs = [.ref a] ∧ H a = some (.dT kvs) ∧ (kvs.map fun e => (tupleKind (mixKind P w)).hash e.1).Nodup ∧ ∀ p, H p = none → Q (.ref p) (upd H p (.dT kvs))
theorem b_dictT (hu : X.A.units + 8 < cLine) : CallR X (.type "dict") (rDictT X.prog X.w) := by
  intro pins s σ H vs us Q I r h
  obtain ⟨a, kvs, rfl, ha, hh, q⟩ := h
  obtain ⟨u, rfl, ru⟩ := vals1 r
  obtain rfl : u = Value.ref a := ru
  obtain ⟨z, hoS, xs, rel, ho⟩ := dt_of I.hok ha
  have hz : xs.length ≤ sizeLine := by rw [← Paired.length rel]; exact z
  have hm : (s.heap.objs.size == sysModules) = false := beq_eq_false_iff_ne.mpr (Nat.ne_of_gt I.big)
  refine callType_codes (Q₁ := fun obj s₁ => obj = .ref s.heap.objs.size ∧ s₁ = { s with heap := s.heap.push { cls := .type "dict", data := .dict #[] } }) F.kt_called_dict (F.kt_typeCall_dict_1 _) F.entry_dict_init (kt_code_dict_new _ ⟨rfl, rfl⟩) ?_
  rintro obj s₁ ⟨rfl, rfl⟩
  have hnew : (s.heap.push { cls := .type "dict", data := .dict #[] }).DictOfH (tupleKind (mixKind X.prog X.w)) s.heap.objs.size [] := Heap.DictOfH.new s.heap
  have ho' : (s.heap.push { cls := .type "dict", data := .dict #[] }).DictOfH (tupleKind (mixKind X.prog X.w)) a xs := by
    obtain ⟨o, es, ep, h1, h2, h3, h4, h5, h6⟩ := id ho
    exact ⟨o, es, ep, Heap.get?_push_of_some _ h1, h2, h3, h4, fun x hx => by obtain ⟨o2, its, n, g1, g2, g3, g4⟩ := h5 x hx; exact ⟨o2, its, n, Heap.get?_push_of_some _ g1, g2, g3, g4⟩, h6⟩
  have hdo : s.heap.objs.size ≠ a := by
    obtain ⟨_, _, _, hg, _⟩ := ho
    exact fun e => absurd (Heap.lt_size hg) (by rw [e]; exact Nat.lt_irrefl _)
  refine ⟨hnew.typeIs, F.args_dict_init_2 _ _, ?_⟩
  unfold Builtin.«dict.__init__»
  refine wpAny_bind ?_
  unfold Builtin.Dict.selfAndRest
  refine wpAny_bind (wpAny_notOrdered_dict hnew.typeIs ?_)
  show wpAny _ _ (pure (s.heap.objs.size, [Value.ref a])) _ _ _
  refine wpAny_pure ?_
  show wpAny _ _ (Builtin.Dict.updateFrom "dict.__init__" s.heap.objs.size (.ref a) [] .none) _ _ _
  unfold Builtin.Dict.updateFrom
  refine wpAny_bind (wpAny_typeOf ho'.typeIs ?_)
  rw [if_neg (by decide)]
  refine wpAny_bind ?_
  unfold Builtin.Dict.merge
  refine wpAny_bind ?_
  unfold Builtin.Dict.readDirectly
  refine wpAny_bind (wpAny_isInstance ho'.typeIs isSubtype_dict_dict ?_)
  simp only [Bool.not_true, Bool.false_eq_true, if_false]
  refine wpAny_bind (wpAny_specialOf ho'.typeIs F.slot_dict_iter.lookup (wpAny_pure ?_))
  simp only [beq_self_eq_true, if_true]
  refine wpAny_bind (wpAny_pure ?_)
  have hty : ∀ x ∈ xs, Shared.TypeIs { s with heap := s.heap.push { cls := .type "dict", data := .dict #[] } } (.ref x.2.1) "tuple" := fun x hx => by
    obtain ⟨o, es, ep, h1, h2, h3, h4, h5, h6⟩ := id ho'
    obtain ⟨o2, its, n, g1, g2, g3, g4⟩ := h5 x hx
    exact ⟨o2, g1, g2⟩
  have hap : (xs.map fun x => (tupleKind (mixKind X.prog X.w)).hash x.1).Nodup := by
    have e : (xs.map fun x => (tupleKind (mixKind X.prog X.w)).hash x.1) = kvs.map fun e => (tupleKind (mixKind X.prog X.w)).hash e.1 := by
      clear hty ho' ho hnew hz z hh ha q
      induction rel with
      | nil => rfl
      | cons h _ ih => rw [List.map_cons, List.map_cons, ih, h.1]
    rw [e]; exact hh
  have hn : (xs.map (·.1)).Nodup := ho.nodup
  refine wpAny_mergeDict_heap (hsz := by simpa using hz) ?room hdo hoS hnew ho' (.inr ⟨hty, hap⟩) fun h' hd' _ hs' => ?_
  case room => exact (show X.A.units + 1 + 1 < cLine by omega)
  show wpAny _ _ (Builtin.Dict.addKeywords s.heap.objs.size [] >>= _) _ _ _
  rw [storedAllH_nil_of_nodup xs hn] at hd'
  refine wpAny_bind (wpAny_pure (wpAny_pure ⟨rfl, ?_⟩))
  obtain ⟨o, es, ep, h1, h2, h3, h4, h5, h6⟩ := hd'
  exact ⟨.ref s.heap.objs.size, upd H s.heap.objs.size (.dT kvs), I.laid (t' := s.toks) (fun b u e => (hs'.2 b (Nat.ne_of_lt (Heap.lt_size e))).trans (Heap.get?_push_of_some _ e)) (Nat.le_refl _)
    ⟨z, hm, xs, rel.keeps (fun c ys ec => by rw [upd_ne (ne_of_none ec (I.hok.fresh (Nat.le_refl _)))]; exact ec), o, es, ep, h1, h2, h3, h4, h6⟩, rfl, q _ (I.hok.fresh (Nat.le_refl _))⟩
/-- sorted(d): the keys, all tuples of ints, in their order -/
def intsD (c : List Int) : PyData := .tuple (c.map .int)
def rSortedDT : List V → Hp → VK → Prop := fun vs H Q => ∃ (a : Addr) (kvs : List (List Key × V)) (cs : List (List Int)), vs = [.ref a] ∧ H a = some (.dT kvs) ∧ kvs.map (·.1) = cs.map (fun c => c.map Sum.inl) ∧ AllAlike (cs.map intsD) ∧ Sortable (cs.map intsD) ∧ (∀ c ∈ cs, (intsD c).depth ≤ 60 ∧ c.length ≤ 1000000) ∧
  ∀ p ys, H p = none → DaL H ys (srt (cs.map intsD)) → Q (.ref p) (upd H p (.lst ys))
theorem reads_ints {h : Heap} : ∀ {ns : List Int} {us : List Value}, Vals (ns.map V.int) us → PySem.ReadsAll h us (ns.map .int) []
  | [], _, .nil => .nil
  | n :: ns, u :: us, h => by
    cases h with
    | cons r t =>
      obtain ⟨tk, rfl⟩ := r
      exact .cons (as := []) (bs := []) (.int n tk) (reads_ints t)
theorem each_idx {α β : Type} {R : α → β → Prop} : ∀ {us : List α} {bs : List β}, us.length = bs.length → (∀ (i : Nat) u b, us[i]? = some u → bs[i]? = some b → R u b) → EachIs R us bs
  | [], [], _, _ => .nil
  | u :: us, b :: bs, hl, h => .cons (h 0 u b rfl rfl) (each_idx (by simpa using hl) fun i x y hx hy => h (i + 1) x y (by simpa using hx) (by simpa using hy))
  | [], _ :: _, hl, _ => by simp at hl
  | _ :: _, [], hl, _ => by simp at hl
theorem each_refs {γ : Type} : ∀ {us : List Value} {bs : List (Addr × γ)}, EachIs (fun u (b : Addr × γ) => u = .ref b.1) us bs → Vals (bs.map fun b => V.ref b.1) us
  | _, _, .nil => .nil
  | _, _, .cons r t => .cons r (each_refs t)
theorem da_refs {γ : Type} {H : Hp} {f : γ → PyData} : ∀ {bs : List (Addr × γ)}, (∀ b ∈ bs, Da H (.ref b.1) (f b.2)) → DaL H (bs.map fun b => V.ref b.1) (bs.map fun b => f b.2)
  | [], _ => .nil
  | b :: bs, h => .cons (h b List.mem_cons_self) (da_refs fun c hc => h c (List.mem_cons_of_mem _ hc))
theorem b_sortedDT (hcalm : X.calm = true) (hu : X.A.units + 64 < cLine) : CallR X (.builtin "sorted") rSortedDT := by
  intro pins s σ H vs us Q I r h
  obtain ⟨a, kvs, cs, rfl, ha, hks, hal, hsrt, hdp, q⟩ := h
  obtain ⟨u, rfl, ru⟩ := vals1 r
  obtain rfl : u = Value.ref a := ru
  obtain ⟨z, lo, xs, rel, dd⟩ := dt_of I.hok ha
  obtain ⟨es, ep, raw, hes, hkey⟩ := raw_of dd
  have hl : kvs.length = xs.length := Paired.length rel
  have hcl : cs.length = kvs.length := by have e := congrArg List.length hks; rw [List.length_map, List.length_map] at e; exact e.symm
  have hz : es.size ≤ sizeLine := by rw [hes, ← hl]; exact z
  -- the keys, each with its address
  have hat : ∀ (i : Nat) (x : List Key × Addr × Value) (c : List Int), xs[i]? = some x → cs[i]? = some c → H x.2.1 = some (.tup (c.map V.int)) := fun i x c hx hc => by
    obtain ⟨y, hy, e1, e2, _⟩ := L2.DX.pget rel hx
    have e3 : (kvs.map (·.1))[i]? = (cs.map fun c => c.map Sum.inl)[i]? := by rw [hks]
    rw [List.getElem?_map, List.getElem?_map, hy, hc] at e3
    have e4 : y.1 = c.map Sum.inl := Option.some.inj e3
    rw [e4, List.map_map] at e2
    exact e2
  refine Calls.call_function_entry PyProof.Rows.kind_sorted PyProof.Rows.plain_sorted PyProof.Rows.entry_sorted (PyProof.Rows.args_sorted1 _) ?_
  unfold Builtin.«sorted»
  refine wpAny_bind (m := checkCount "sorted" 1 1 _) (wpAny_pure ?_)
  refine wpAny_bind (PySem.W.kdu_collect (A := X.A.in1) (KdlSrc.rawDict lo) (I.ok.hd hcalm) raw hz fun h' tk acc hk hacc => ?_)
  have I1 : Inv X pins σ H { s with heap := h', toks := tk } := I.kept hk
  let bs : List (Addr × List Int) := (xs.map fun x => x.2.1).zip cs
  have hbl : bs.length = cs.length := by
    show ((xs.map fun x => x.2.1).zip cs).length = _
    rw [List.length_zip, List.length_map]; omega
  have hb2 : bs.map (fun b => b.2) = cs := List.map_snd_zip (by rw [List.length_map]; omega)
  have hbe : bs.map (fun b => intsD b.2) = cs.map intsD := by rw [← hb2, List.map_map]; rfl
  have hbat : ∀ b ∈ bs, H b.1 = some (.tup (b.2.map V.int)) := fun b hb => by
    obtain ⟨i, hi⟩ := List.mem_iff_getElem?.mp hb
    obtain ⟨h1, h2⟩ := List.getElem?_zip_eq_some.mp hi
    rw [List.getElem?_map] at h1
    cases e : xs[i]? with
    | none => rw [e] at h1; cases h1
    | some x =>
      rw [e] at h1
      have := Option.some.inj h1
      rw [← this]
      exact hat i x b.2 e h2
  have hbd : ∀ b ∈ bs, b.2 ∈ cs := fun b hb => by rw [← hb2]; exact List.mem_map.mpr ⟨b, hb, rfl⟩
  have hal' : acc.toList.length = bs.length := by rw [Array.length_toList, hacc.1, hbl]; omega
  have E1 : EachIs (fun u (b : Addr × List Int) => u = .ref b.1) acc.toList bs := each_idx hal' fun i u b hu hb => by
    obtain ⟨hi, hv⟩ := hacc.2 i u (by rw [← Array.getElem?_toList]; exact hu)
    obtain ⟨x, hx, hk2⟩ := hkey i hi
    obtain ⟨h1, h2⟩ := List.getElem?_zip_eq_some.mp hb
    rw [List.getElem?_map, hx] at h1
    rw [hv, hk2, ← Option.some.inj h1]
  have hpl : acc.toList.length ≤ sizeLine := by rw [hal', hbl, hcl]; exact z
  refine wpAny_bind (wpAny_newList ?_ hpl)
  have hoL : (h'.push (seqObj "list" acc.toList.toArray 0)).get? h'.objs.size = some (seqObj "list" acc.toList.toArray 0) := Heap.get?_push_size _ rfl
  have E2 : EachIs (fun v (b : Addr × List Int) => ∃ as, PySem.Reads (h'.push (seqObj "list" acc.toList.toArray 0)) v (intsD b.2) as ∧ h'.objs.size ∉ as) acc.toList bs := each_idx hal' fun i u b hu hb => by
    have hm := List.mem_of_getElem? hb
    obtain ⟨_, its, r, o, g1, g2, n, g3⟩ := (show ObjOk X.prog X.w H h' b.1 (.tup (b.2.map V.int)) from I1.hok b.1 _ (hbat b hm))
    have hu2 : u = .ref b.1 := by
      obtain ⟨hi, hv⟩ := hacc.2 i u (by rw [← Array.getElem?_toList]; exact hu)
      obtain ⟨x, hx, hk2⟩ := hkey i hi
      obtain ⟨h1, h2⟩ := List.getElem?_zip_eq_some.mp hb
      rw [List.getElem?_map, hx] at h1
      rw [hv, hk2, ← Option.some.inj h1]
    rw [hu2]
    exact ⟨[], .tuple (Heap.get?_push_of_some _ g1) g2 g3 (by simpa using reads_ints r), by simp⟩
  show wpAny _ _ _ _ _ { s with heap := h'.push (seqObj "list" acc.toList.toArray 0), toks := tk }
  refine wpAny_bind (wpAny_holding (list_sort_data (s := { s with heap := h'.push (seqObj "list" acc.toList.toArray 0), toks := tk }) (enc := fun b : Addr × List Int => intsD b.2) hoL E1 E2 (by rw [hbe]; exact hal) (by rw [hbe]; exact hsrt) (by rw [hbl, hcl]; exact z) (fun b hb => ?_) fun out ho eo => ?_))
  · have := (hdp b.2 (hbd b hb)).1
    show X.A.units + 1 + 1 + (intsD b.2).depth < cLine
    omega
  obtain ⟨e', he'⟩ := PyProof.Rows.sortedHeap_at (vs := acc.toList) (out := out.toArray) hoL
  have hys : DaL H ((bs.mergeSort (dataLe false fun b : Addr × List Int => intsD b.2)).map fun b => V.ref b.1) (srt (cs.map intsD)) := by
    rw [← hbe, ← srt_map (fun b : Addr × List Int => intsD b.2) bs]
    refine da_refs fun b hb => ?_
    have hm := (List.mergeSort_perm _ _).mem_iff.mp hb
    exact .tup (hbat b hm) (by rw [List.length_map]; exact (hdp b.2 (hbd b hm)).2) (DaL.ofInts b.2)
  have hlen : ((bs.mergeSort (dataLe false fun b : Addr × List Int => intsD b.2)).map fun b => V.ref b.1).length ≤ sizeLine := by
    rw [List.length_map, List.length_mergeSort, hbl, hcl]; exact z
  refine wpAny_pure ⟨_, rfl, .ref h'.objs.size, upd H h'.objs.size (.lst _), I1.laid (t' := tk) (fun b u e => ?_) (Nat.le_refl _)
    (show ObjOk X.prog X.w _ _ _ (.lst _) from ⟨hlen, out, e', each_refs eo, he'⟩), rfl, q _ _ (I1.hok.fresh (Nat.le_refl _)) hys⟩
  have hb : b < h'.objs.size := Heap.lt_size e
  rw [PyProof.Rows.sortedHeap_old (Nat.ne_of_lt hb) (by rw [size_push']; exact Nat.lt_succ_of_lt hb)]
  exact Heap.get?_push_of_some _ e
end
/-! ### the hashes of small pairs differ -/
def hp (a b : Int) : Int := reduceHash (Builtin.Tuple.tupleHashOf [hashInt a, hashInt b])
theorem pair_hash (P : Program) (w : World) (a b : Int) : (tupleKind (mixKind P w)).hash [.inl a, .inl b] = hp a b := by
  show reduceHash (Builtin.Tuple.tupleHashOf [keyH w (.inl a), keyH w (.inl b)]) = _
  unfold hp keyH
  rfl
theorem hp_nd : ((List.range 104).map fun i => hp ((i / 26 : Nat) : Int) ((i % 26 : Nat) : Int)).Nodup := by decide +kernel
theorem hp_inj {a b c d : Nat} (ha : a < 4) (hb : b < 26) (hc : c < 4) (hd : d < 26) (e : hp a b = hp c d) : a = c ∧ b = d := by
  have pw := List.pairwise_iff_getElem.mp hp_nd
  have key : ∀ i j : Nat, i < j → j < 104 → hp ((i / 26 : Nat) : Int) ((i % 26 : Nat) : Int) ≠ hp ((j / 26 : Nat) : Int) ((j % 26 : Nat) : Int) := fun i j hij hj => by
    have h := pw i j (by rw [List.length_map, List.length_range]; omega) (by rw [List.length_map, List.length_range]; omega) hij
    rw [List.getElem_map, List.getElem_map, List.getElem_range, List.getElem_range] at h
    exact h
  have e1 : (26 * a + b) / 26 = a := by omega
  have e2 : (26 * a + b) % 26 = b := by omega
  have e3 : (26 * c + d) / 26 = c := by omega
  have e4 : (26 * c + d) % 26 = d := by omega
  rcases Nat.lt_trichotomy (26 * a + b) (26 * c + d) with h | h | h
  · have := key _ _ h (by omega)
    rw [e1, e2, e3, e4] at this
    exact absurd e this
  · omega
  · have := key _ _ h (by omega)
    rw [e1, e2, e3, e4] at this
    exact absurd e.symm this
theorem map_keys {f : List Key → Int} {g : Int × Int → Int} (hf : ∀ c : Int × Int, f [Sum.inl c.1, Sum.inl c.2] = g c) : ∀ {kvs : List (List Key × V)} {cs : List (Int × Int)}, kvs.map (·.1) = cs.map (fun c => [Sum.inl c.1, Sum.inl c.2]) → (kvs.map fun e => f e.1) = cs.map g
  | [], [], _ => rfl
  | e :: kvs, c :: cs, h => by
    rw [List.map_cons, List.map_cons] at h
    injection h with h1 h2
    rw [List.map_cons, List.map_cons, map_keys hf h2, h1, hf]
  | [], _ :: _, h => by cases h
  | _ :: _, [], h => by cases h
/-- dict(d) where the keys are pairs of ints -/
def rDictC : List V → Hp → VK → Prop := fun vs H Q => ∃ (a : Addr) (kvs : List (List Key × V)) (cs : List (Int × Int)), vs = [.ref a] ∧ H a = some (.dT kvs) ∧ kvs.map (·.1) = cs.map (fun c => [Sum.inl c.1, Sum.inl c.2]) ∧ (cs.map fun c => hp c.1 c.2).Nodup ∧ ∀ p, H p = none → Q (.ref p) (upd H p (.dT kvs))
theorem b_dictC {X : Cx} (hu : X.A.units + 8 < cLine) : CallR X (.type "dict") rDictC := by
  intro pins s σ H vs us Q I r h
  obtain ⟨a, kvs, cs, rfl, ha, hk, hh, q⟩ := h
  refine b_dictT hu pins s σ H _ us Q I r ⟨a, kvs, rfl, ha, ?_, q⟩
  have e := map_keys (f := (tupleKind (mixKind X.prog X.w)).hash) (g := fun c => hp c.1 c.2) (fun c => pair_hash _ _ c.1 c.2) hk
  rw [e]; exact hh
theorem g_dictC {H : Hp} {Q : VK} {a : Addr} {kvs : List (List Key × V)} (cs : List (Int × Int)) (h : H a = some (.dT kvs)) (hk : kvs.map (·.1) = cs.map (fun c => [Sum.inl c.1, Sum.inl c.2])) (hn : (cs.map fun c => hp c.1 c.2).Nodup) (q : ∀ p H', H p = none → Fr [] H H' → H' p = some (.dT kvs) → Q (.ref p) H') : rDictC [.ref a] H Q :=
  ⟨a, kvs, cs, rfl, h, hk, hn, fun p e => q p _ e (Fr.new e) upd_same⟩
theorem g_sortedDT {H : Hp} {Q : VK} {a : Addr} {kvs : List (List Key × V)} (cs : List (List Int)) (h : H a = some (.dT kvs)) (hk : kvs.map (·.1) = cs.map (fun c => c.map Sum.inl)) (ha : AllAlike (cs.map intsD)) (hs : Sortable (cs.map intsD)) (hd : ∀ c ∈ cs, (intsD c).depth ≤ 60 ∧ c.length ≤ 1000000)
    (q : ∀ p H' ys, H p = none → Fr [] H H' → H' p = some (.lst ys) → DaL H' ys (srt (cs.map intsD)) → Q (.ref p) H') : rSortedDT [.ref a] H Q :=
  ⟨a, kvs, cs, rfl, h, hk, ha, hs, hd, fun p ys e d => q p _ ys e (Fr.new e) upd_same (DaL.frL (Fr.new e) d (immL_of fun d hd => by
    obtain ⟨c, _, rfl⟩ := List.mem_map.mp ((srt_perm _).mem_iff.mp hd)
    exact immL_of fun d hd => by obtain ⟨n, _, rfl⟩ := List.mem_map.mp hd; rfl))⟩
theorem g_popT {H : Hp} {Q : VK} {a b : Addr} {kvs : List (List Key × V)} {k : List Key} {d : V} (h : H a = some (.dT kvs)) (hb : H b = some (.tup (k.map kV))) (q1 : ∀ v H', valV kvs k = some v → Fr [a] H H' → H' a = some (.dT (dropK kvs k)) → Q v H') (q2 : valV kvs k = none → Q d H) : L2.DX.rPopT (.ref a) [.ref b, d] H Q :=
  ⟨a, kvs, k, b, d, rfl, rfl, h, hb, fun v e => q1 v _ e (Fr.put h trivial) upd_same, q2⟩
theorem g_popT1 {H : Hp} {Q : VK} {a b : Addr} {kvs : List (List Key × V)} {k : List Key} {v : V} (h : H a = some (.dT kvs)) (hb : H b = some (.tup (k.map kV))) (hv : valV kvs k = some v) (q : ∀ H', Fr [a] H H' → H' a = some (.dT (dropK kvs k)) → Q v H') : rPopT1 (.ref a) [.ref b] H Q :=
  ⟨a, b, kvs, k, v, rfl, rfl, h, hb, hv, q _ (Fr.put h trivial) upd_same⟩
/-- a place that was changed and is as it was -/
theorem Fr.back {p : Addr} {u : HO} {H H' : Hp} (f : Fr [p] H H') (h : H p = some u) (h' : H' p = some u) : Fr [] H H' := ⟨fun a o e _ => by
  by_cases q : a = p
  · subst q; rw [h] at e; cases e; exact h'
  · exact f.at e (nin1 q nin0), f.tup⟩
/-- d[k] -= x -/
def rDA (a : Addr) (y : V) (v : V) (tv : TE) (rd : V → V → Hp → VK → Prop) (σ : L2.St) (H : Hp) (P : Hp → Prop) : Prop := tv σ H fun y2 H3 => rd v y2 H3 fun z H4 => ∃ H5, DPut H4 a y z H5 ∧ P H5
def rDA0 (x y : V) (tv : TE) (rd : V → V → Hp → VK → Prop) (σ : L2.St) (H : Hp) (P : Hp → Prop) : Prop := ∃ a v, x = .ref a ∧ DGet H a y (some v) ∧ rDA a y v tv rd σ H P
theorem g_daug {td ty tv : TE} {rd : V → V → Hp → VK → Prop} {D : Ends} {σ : L2.St} {H : Hp} (h : td σ H fun x H1 => ty σ H1 fun y H2 => rDA0 x y tv rd σ H2 fun H5 => D.nx σ H5) : sDAug td ty tv rd D σ H := h
theorem g_rda0 {a b : Addr} {kvs : List (List Key × V)} {k : List Key} {v : V} {tv : TE} {rd : V → V → Hp → VK → Prop} {σ : L2.St} {H : Hp} {P : Hp → Prop} (h : H a = some (.dT kvs)) (hb : H b = some (.tup (k.map kV))) (hv : valV kvs k = some v) (q : rDA a (.ref b) v tv rd σ H P) : rDA0 (.ref a) (.ref b) tv rd σ H P :=
  ⟨a, v, rfl, .inr ⟨kvs, k, b, .inl h, rfl, hb, hv.symm⟩, q⟩
theorem g_rdput {a b : Addr} {kvs : List (List Key × V)} {k : List Key} {v : V} {H : Hp} {P : Hp → Prop} (h : H a = some (.dT kvs)) (e : H b = some (.tup (k.map kV))) (hl : kvs.length < sizeLine) (c : ∀ H', Fr [a] H H' → H' a = some (.dT (putK kvs k v)) → P H') : ∃ H5, DPut H a (.ref b) v H5 ∧ P H5 :=
  ⟨_, .inr ⟨kvs, k, b, h, rfl, e, hl, rfl⟩, c _ (Fr.put h trivial) upd_same⟩
theorem un1 {u c : Nat} (h : u + 64 < c) : u + 1 < c := by omega
theorem un8 {u c : Nat} (h : u + 64 < c) : u + 8 < c := by omega
end Lw

namespace Lw
open PySem L2
/-! ### lists of data that does not change -/
def LsAt (H : Hp) (a : Addr) (ds : List PyData) : Prop := immL ds = true ∧ ∃ vs, H a = some (.lst vs) ∧ DaL H vs ds
theorem LsAt.fr {l : List Addr} {H H' : Hp} {a : Addr} {ds : List PyData} (h : LsAt H a ds) (f : Fr l H H') (n : a ∉ l) : LsAt H' a ds := by
  obtain ⟨i, vs, e, d⟩ := h
  exact ⟨i, vs, f.at e n, DaL.frL f d i⟩
theorem LsAt.of {H : Hp} {a : Addr} {vs : List V} {ds : List PyData} (e : H a = some (.lst vs)) (d : DaL H vs ds) (i : immL ds = true) : LsAt H a ds := ⟨i, vs, e, d⟩
theorem LsAt.nil {H : Hp} {a : Addr} (e : H a = some (.lst [])) : LsAt H a [] := ⟨rfl, [], e, .nil⟩
theorem LsAt.da {H : Hp} {a : Addr} {ds : List PyData} (h : LsAt H a ds) (hl : ds.length ≤ 1000000) : Da H (.ref a) (.list ds) := by
  obtain ⟨i, vs, e, d⟩ := h
  exact .lst e (by rw [d.len]; exact hl) d
/-- behind an append -/
theorem LsAt.snoc {H H' : Hp} {a : Addr} {vs : List V} {ds : List PyData} {v : V} {d : PyData} (r : DaL H vs ds) (i : immL ds = true) (dv : Da H v d) (id : imm d = true) (f : Fr [a] H H') (e : H' a = some (.lst (vs ++ [v]))) : LsAt H' a (ds ++ [d]) := by
  refine ⟨by rw [immL_append, i]; simp [immL, id], _, e, ?_⟩
  exact (DaL.frL f r i).append (.one' (Da.frL f dv id))
theorem immL_map {α : Type} {f : α → PyData} (h : ∀ x, imm (f x) = true) (l : List α) : immL (l.map f) = true := immL_of fun d hd => by obtain ⟨x, _, rfl⟩ := List.mem_map.mp hd; exact h x
/-! ### dicts from ints to data that does not change -/
abbrev DkR (H : Hp) : List (Key × V) → List (Int × PyData) → Prop := Paired fun p e => p.1 = Sum.inl e.1 ∧ Da H p.2 e.2 ∧ imm e.2 = true
def DkAt (H : Hp) (a : Addr) (m : List (Int × PyData)) : Prop := ∃ kvs, H a = some (.dK kvs) ∧ DkR H kvs m
theorem DkR.fr {l : List Addr} {H H' : Hp} {kvs : List (Key × V)} {m : List (Int × PyData)} (r : DkR H kvs m) (f : Fr l H H') : DkR H' kvs m := Paired.mapP r fun p q z => ⟨z.1, Da.frL f z.2.1 z.2.2, z.2.2⟩
theorem DkAt.fr {l : List Addr} {H H' : Hp} {a : Addr} {m : List (Int × PyData)} (h : DkAt H a m) (f : Fr l H H') (n : a ∉ l) : DkAt H' a m := by
  obtain ⟨kvs, e, r⟩ := h
  exact ⟨kvs, f.at e n, r.fr f⟩
theorem DkAt.nil {H : Hp} {a : Addr} (e : H a = some (.dK [])) : DkAt H a [] := ⟨[], e, .nil⟩
theorem DkR.len {H : Hp} {kvs : List (Key × V)} {m : List (Int × PyData)} (r : DkR H kvs m) : kvs.length = m.length := Paired.length r
theorem DkR.val {H : Hp} {kvs : List (Key × V)} {m : List (Int × PyData)} (r : DkR H kvs m) (k : Int) : (lk m k = none → valV kvs (.inl k) = none) ∧ ∀ d, lk m k = some d → ∃ v, valV kvs (.inl k) = some v ∧ Da H v d ∧ imm d = true := by
  induction r with
  | nil => exact ⟨fun _ => rfl, fun d h => by cases h⟩
  | @cons p q ps qs h t ih =>
    obtain ⟨h1, h2, h3⟩ := h
    by_cases e : q.1 = k
    · have c : lk (q :: qs) k = some q.2 := by simp [lk, List.find?_cons, e]
      rw [c, valV_pos (by rw [h1, e])]
      exact ⟨fun z => (by cases z), fun d z => (by cases z; exact ⟨_, rfl, h2, h3⟩)⟩
    · have c : lk (q :: qs) k = lk qs k := by simp [lk, List.find?_cons, e]
      rw [c, valV_neg (fun z => e (by rw [h1] at z; exact Sum.inl.inj z))]
      exact ih
theorem DkR.isS {H : Hp} {kvs : List (Key × V)} {m : List (Int × PyData)} (r : DkR H kvs m) (k : Int) : (valV kvs (.inl k)).isSome = (lk m k).isSome := by
  obtain ⟨h1, h2⟩ := r.val k
  cases e : lk m k with
  | none => rw [h1 e]; rfl
  | some d => obtain ⟨v, hv, _⟩ := h2 d e; rw [hv]; rfl
theorem lk_any2 {κ α : Type} [DecidableEq κ] (m : List (κ × α)) (k : κ) : (m.any fun e => decide (e.1 = k)) = (lk m k).isSome := by
  induction m with
  | nil => rfl
  | cons e r ih =>
    by_cases h : e.1 = k
    · simp [lk, List.find?_cons, h]
    · have c : lk (e :: r) k = lk r k := by simp [lk, List.find?_cons, h]
      rw [c, ← ih]; simp [h]
theorem DkR.put {H : Hp} {kvs : List (Key × V)} {m : List (Int × PyData)} (r : DkR H kvs m) (k : Int) {v : V} {d : PyData} (dv : Da H v d) (id : imm d = true) : DkR H (putK kvs (.inl k) v) (pt m k d) := by
  have e : (kvs.any fun kv => decide (kv.1 = Sum.inl k)) = (m.any fun e => decide (e.1 = k)) := by rw [valV_any, r.isS, lk_any2]
  unfold putK pt
  rw [e]
  by_cases q : (m.any fun e => decide (e.1 = k)) = true
  · rw [if_pos q, if_pos q]
    clear q e
    induction r with
    | nil => exact .nil
    | @cons p q ps qs h t ih =>
      rw [List.map_cons, List.map_cons]
      refine .cons ?_ ih
      obtain ⟨h1, h2, h3⟩ := h
      by_cases e : q.1 = k
      · rw [if_pos (by rw [h1, e]), if_pos e]; exact ⟨h1, dv, id⟩
      · rw [if_neg (fun z => e (by rw [h1] at z; exact Sum.inl.inj z)), if_neg e]; exact ⟨h1, h2, h3⟩
  · rw [if_neg q, if_neg q]; exact Paired.snoc r ⟨rfl, dv, id⟩
theorem DkR.drop {H : Hp} {kvs : List (Key × V)} {m : List (Int × PyData)} (r : DkR H kvs m) (k : Int) : DkR H (dropK kvs (.inl k)) (dr m k) := by
  unfold dropK dr
  induction r with
  | nil => exact .nil
  | @cons p q ps qs h t ih =>
    obtain ⟨h1, h2, h3⟩ := h
    by_cases e : q.1 = k
    · have a : decide (p.1 ≠ (Sum.inl k : Key)) = false := by rw [h1, e]; simp
      have b : decide (q.1 ≠ k) = false := by simp [e]
      simp only [List.filter_cons, a, b]; exact ih
    · have a : decide (p.1 ≠ (Sum.inl k : Key)) = true := by rw [h1]; exact decide_eq_true fun z => e (Sum.inl.inj z)
      have b : decide (q.1 ≠ k) = true := decide_eq_true e
      simp only [List.filter_cons, a, b]; exact .cons ⟨h1, h2, h3⟩ ih
theorem DkR.get {H : Hp} {kvs : List (Key × V)} {m : List (Int × PyData)} (r : DkR H kvs m) : ∀ {i : Nat} {k : Key} {v : V}, kvs[i]? = some (k, v) → ∃ e, m[i]? = some e ∧ k = Sum.inl e.1 ∧ Da H v e.2 := by
  induction r with
  | nil => intro i k v h; simp at h
  | @cons p q ps qs h t ih =>
    intro i k v hi
    cases i with
    | zero => simp at hi; subst hi; exact ⟨q, rfl, h.1, h.2.1⟩
    | succ i => obtain ⟨e, h1, h2⟩ := ih (i := i) (by simpa using hi); exact ⟨e, by simpa using h1, h2⟩
/-! ### readings of dicts whose keys are ints and texts -/
section
variable {K : PySem.W.Frag} {σ : L2.St} {H H' : Hp} {Q : VK} {D : Ends} {td ty te tv tx : TE} {tt : TT} {tb t : TS} {g : TG} {a b d q : Addr} {o : Obj} {kvs : List (Key × V)} {k : Key} {v x y z : V} {vs : List Nat} {R : It → Hp → Prop} {as : TA}
theorem g_rdgK (k : Key) (h : Rd H a (.dK kvs)) (l : valV kvs k = some v) (c : Q v H) : rDG (.ref a) (kV k) H Q := ⟨a, v, rfl, .inl ⟨kvs, k, h, rfl, l.symm⟩, c⟩
theorem g_rdgI {i : Int} (h : Rd H a (.dK kvs)) (l : valV kvs (.inl i) = some v) (c : Q v H) : rDG (.ref a) (.int i) H Q := g_rdgK (.inl i) h l c
theorem g_rdgS {s : Str} (h : Rd H a (.dK kvs)) (l : valV kvs (.inr s) = some v) (c : Q v H) : rDG (.ref a) (.str s) H Q := g_rdgK (.inr s) h l c
theorem g_rdiI {i : Int} (h : Rd H a (.dK kvs)) (c : Q (.bl (valV kvs (.inl i)).isSome) H) : rDI (.int i) (.ref a) H Q := ⟨a, _, rfl, .inl ⟨kvs, .inl i, h, rfl, rfl⟩, c⟩
theorem g_rdniI {i : Int} (h : Rd H a (.dK kvs)) (c : Q (.bl (!(valV kvs (.inl i)).isSome)) H) : rDNI (.int i) (.ref a) H Q := ⟨a, _, rfl, .inl ⟨kvs, .inl i, h, rfl, rfl⟩, c⟩
theorem g_rdpI {i : Int} {P : Hp → Prop} (h : H a = some (.dK kvs)) (hl : kvs.length < sizeLine) (c : ∀ H', Fr [a] H H' → H' a = some (.dK (putK kvs (.inl i) v)) → P H') : rDP (.ref a) (.int i) v H P :=
  ⟨a, _, rfl, .inl ⟨kvs, .inl i, h, rfl, hl, rfl⟩, c _ (Fr.put h trivial) upd_same⟩
theorem g_rdpS {s : Str} {gs : List (Key × V)} {P : Hp → Prop} (h : H a = some (.dK kvs)) (hl : kvs.length < sizeLine) (e : putK kvs (.inr s) v = gs) (c : ∀ H', Fr [a] H H' → H' a = some (.dK gs) → P H') : rDP (.ref a) (.str s) v H P :=
  ⟨a, _, rfl, .inl ⟨kvs, .inr s, h, rfl, hl, rfl⟩, c _ (Fr.put h trivial) (by rw [e]; exact upd_same)⟩
theorem g_rdg2K {P : Addr → Prop} (h : Rd H a (.dK kvs)) (c : P a) : rDG2 (.ref a) H P := ⟨a, rfl, .inl ⟨kvs, h⟩, c⟩
theorem g_dgoI {i : Int} (h : Rd H a (.dK kvs)) (c : Q ((valV kvs (.inl i)).getD z) H) : rDO a (.int i) z H Q := ⟨_, .inl ⟨kvs, .inl i, h, rfl, rfl⟩, c⟩
theorem g_rkk (h : H d = some (.frz o (.dK kvs))) (c : R (Itk d o kvs) H) : rKy (.ref d) H R := ⟨d, o, rfl, .inl ⟨kvs, h, c⟩⟩
theorem f_keysK (Pv : Nat → L2.St → Hp → Prop) (h0 : Pv 0 σ H) (hl : ∀ i σ H, i ≤ kvs.length → Pv i σ H → H d = some (.frz o (.dK kvs)))
    (hs : ∀ i k v σ H, kvs[i]? = some (k, v) → Pv i σ H → g (kV k) σ H fun σ2 H2 => tb { D with nx := Pv (i + 1), ct := Pv (i + 1), bk := D.nx } σ2 H2) (hd : ∀ σ H, Pv kvs.length σ H → D.nx σ H) : ForGo (Itk d o kvs) g tb D σ H :=
  for_it walk_keys Pv h0 hl (fun i x σ H H' hi p y => by obtain ⟨rfl, k, v, h1, rfl⟩ := y; exact hs i k v σ _ h1 p) hd
theorem l_keysK (c : ∀ Dl H0, H Dl = none → Fr [] H H0 → H0 Dl = some (.lst []) → ∃ Pv : Nat → List V → Hp → Prop, Pv 0 [] H0 ∧ (∀ i acc H', Pv i acc H' → H' d = some (.frz o (.dK kvs))) ∧
    (∀ i k v acc H', kvs[i]? = some (k, v) → H' Dl = some (.lst acc) → Pv i acc H' → lcStep g tt te vs σ Dl Pv i (kV k) H') ∧ (∀ acc H', H' Dl = some (.lst acc) → Pv kvs.length acc H' → Q (.ref Dl) H')) : LcGo (Itk d o kvs) g tt te vs σ Q H := by
  intro Dl hD
  obtain ⟨Pv, p0, pl, ps, pd⟩ := c Dl _ hD (Fr.new hD) upd_same
  exact lc_it walk_keys (fun i H' => ∃ acc, H' Dl = some (.lst acc) ∧ Pv i acc H') ⟨[], upd_same, p0⟩ (fun i H' _ ⟨acc, _, p⟩ => pl i acc H' p) (fun i x H1 H' hi ⟨acc, hd, p⟩ y => by obtain ⟨rfl, k, v, h1, rfl⟩ := y; exact ps i k v acc _ h1 hd p) (fun H' ⟨acc, hd, p⟩ => pd acc H' hd p)
def rPopI (a : Addr) (y : V) (H : Hp) (Q : VK) : Prop := ∃ kvs k v, H a = some (.dK kvs) ∧ y = kV k ∧ valV kvs k = some v ∧ Q v (upd H a (.dK (dropK kvs k)))
theorem g_dpop1 (h : td σ H fun x H1 => rDG2 x H1 fun a => ty σ H1 fun y H2 => rPopI a y H2 Q) : tDPop1 td ty σ H Q := h
theorem g_rpopI {i : Int} (h : H a = some (.dK kvs)) (l : valV kvs (.inl i) = some v) (c : ∀ H', Fr [a] H H' → H' a = some (.dK (dropK kvs (.inl i))) → Q v H') : rPopI a (.int i) H Q := ⟨kvs, .inl i, v, h, rfl, l, c _ (Fr.put h trivial) upd_same⟩
theorem g_unlK {u : HO} (h : H d = some (.frz o u)) {P : Hp → Prop} (c : ∀ H', Fr [d] H H' → H' d = some u → P H') : rUl d o u H P := g_unl h c
end
/-- len of a dict -/
def rLenD : List V → Hp → VK → Prop := fun xs H Q => ∃ a kvs, xs = [V.ref a] ∧ H a = some (.dK kvs) ∧ Q (.int kvs.length) H
theorem b_lenD {X : Cx} : CallR X (.builtin "len") rLenD := call_lenD
theorem g_lenDK {H : Hp} {Q : VK} {a : Addr} {kvs : List (Key × V)} (h : H a = some (.dK kvs)) (q : Q (.int kvs.length) H) : rLenD [.ref a] H Q := ⟨a, kvs, rfl, h, q⟩
/-! displays -/
section
variable {σ : L2.St} {H : Hp} {Q : VK} {trs : List (TE × TE)} {tk tv : TE}
def rDs (p : Addr) (ps : List (V × V)) (H2 : Hp) (Q : VK) : Prop := H2 p = some (.dK []) ∧ ∃ kvs : List (Key × V), ps = kvs.map (fun kv => (kV kv.1, kv.2)) ∧ kvs.length ≤ 15 ∧ Q (.ref p) (upd H2 p (.dK (mergeK [] kvs)))
theorem g_disp (h : ∀ p H0, H p = none → Fr [] H H0 → H0 p = some (.dK []) → tPairs trs σ H0 fun ps H2 => rDs p ps H2 Q) : tDisp trs σ H Q := fun p hp => h p _ hp (Fr.new hp) upd_same
theorem g_pcons {QP : List (V × V) → Hp → Prop} {r : List (TE × TE)} (h : tk σ H fun x H1 => tv σ H1 fun y H2 => tPairs r σ H2 fun ps H3 => QP ((x, y) :: ps) H3) : tPairs ((tk, tv) :: r) σ H QP := h
theorem g_pnil {QP : List (V × V) → Hp → Prop} (h : QP [] H) : tPairs [] σ H QP := h
theorem g_rds {p : Addr} {ps : List (V × V)} (kvs : List (Key × V)) (h : H p = some (.dK [])) (e : ps = kvs.map (fun kv => (kV kv.1, kv.2))) (hl : kvs.length ≤ 15) (m : mergeK [] kvs = kvs) (q : ∀ H3, Fr [p] H H3 → H3 p = some (.dK kvs) → Q (.ref p) H3) : rDs p ps H Q :=
  ⟨h, kvs, e, hl, q _ (Fr.put h trivial) (by rw [m]; exact upd_same)⟩
end
/-! ### zip -/
section
variable {K : PySem.W.Frag} {σ : L2.St} {H H' : Hp} {D : Ends} {tb : TS} {g : TG} {a b : Addr} {R : It → Hp → Prop} {as : TA}
def rZA (K : PySem.W.Frag) (vs : List V) (H : Hp) (R : It → Hp → Prop) : Prop := ∃ a b xs ys, vs = [.ref a, .ref b] ∧ ((SqL K H a xs ∧ SqL K H b ys ∧ R (Itz K a b) H) ∨ (SqT K H a xs ∧ SqT K H b ys ∧ R (RZ.ItzT K a b) H))
theorem g_iZA (h : as σ H fun vs H1 => rZA K vs H1 R) : RZ.iZipA K as σ H R := h
theorem g_rzaT {xs ys : List V} (h : SqT K H a xs) (h2 : SqT K H b ys) (c : R (RZ.ItzT K a b) H) : rZA K [.ref a, .ref b] H R := ⟨a, b, xs, ys, rfl, .inr ⟨h, h2, c⟩⟩
theorem g_rzaL {xs ys : List V} (h : SqL K H a xs) (h2 : SqL K H b ys) (c : R (Itz K a b) H) : rZA K [.ref a, .ref b] H R := ⟨a, b, xs, ys, rfl, .inl ⟨h, h2, c⟩⟩
theorem f_zipT {xs ys : List V} (hl : xs.length = ys.length) (Pv : Nat → L2.St → Hp → Prop) (h0 : Pv 0 σ H) (hq : ∀ i σ H, Pv i σ H → SqT K H a xs ∧ SqT K H b ys)
    (hs : ∀ i x y T σ H H', xs[i]? = some x → ys[i]? = some y → Pv i σ H → H T = none → Fr [] H H' → H' T = some (.tup [x, y]) → g (.ref T) σ H' fun σ2 H2 => tb { D with nx := Pv (i + 1), ct := Pv (i + 1), bk := D.nx } σ2 H2) (hd : ∀ σ H, Pv xs.length σ H → D.nx σ H) : ForGo (RZ.ItzT K a b) g tb D σ H :=
  RZ.for_zipT hl Pv h0 hq (fun i x y T σ H h1 h2 p hT => hs i x y T σ H _ h1 h2 p hT (Fr.new hT) upd_same) hd
end
/-! ### what one owns -/
def AL (H : Hp) (l : List Addr) : Prop := l.Nodup ∧ ∀ a ∈ l, ∃ o, H a = some o
theorem AL.fr0 {H H' : Hp} {l : List Addr} (s : AL H l) (f : Fr [] H H') : AL H' l := ⟨s.1, fun a h => by obtain ⟨o, e⟩ := s.2 a h; exact ⟨o, f.at0 e⟩⟩
theorem AL.new {H H' : Hp} {l : List Addr} {p : Addr} {o : HO} (s : AL H l) (f : Fr [] H H') (n : H p = none) (e : H' p = some o) : AL H' (p :: l) :=
  ⟨List.nodup_cons.mpr ⟨fun q => by (obtain ⟨o, e⟩ := s.2 p q; rw [n] at e; cases e), s.1⟩, fun a h => (List.mem_cons.mp h).elim (fun q => q ▸ ⟨o, e⟩) ((s.fr0 f).2 a)⟩
theorem AL.nin {H : Hp} {l : List Addr} {p : Addr} (s : AL H l) (n : H p = none) : p ∉ l := fun q => by obtain ⟨o, e⟩ := s.2 p q; rw [n] at e; cases e
/-- one part has changed, and may have taken new places -/
theorem AL.part {H H' : Hp} {os os' rest : List Addr} (s : AL H (os ++ rest)) (f : Fr os H H') (s' : AL H' os') (n : ∀ a ∈ os', a ∈ os ∨ H a = none) : AL H' (os' ++ rest) := by
  obtain ⟨n0, al⟩ := s
  have n1 := List.nodup_append.mp n0
  refine ⟨List.nodup_append.mpr ⟨s'.1, n1.2.1, fun a ha b hb e => ?_⟩, fun a ha => ?_⟩
  · subst e
    rcases n a ha with h | h
    · exact n1.2.2 a h a hb rfl
    · obtain ⟨o, e⟩ := al a (List.mem_append_right _ hb); rw [h] at e; cases e
  · rcases List.mem_append.mp ha with h | h
    · exact s'.2 a h
    · obtain ⟨o, e⟩ := al a (List.mem_append_right _ h)
      exact ⟨o, f.at e fun q => n1.2.2 a q a h rfl⟩
theorem AL.perm {H : Hp} {l m : List Addr} (s : AL H l) (p : l.Perm m) : AL H m := ⟨p.nodup_iff.mp s.1, fun a h => s.2 a (p.mem_iff.mpr h)⟩
theorem AL.apart {H : Hp} {os rest : List Addr} (s : AL H (os ++ rest)) {a : Addr} (h : a ∈ rest) : a ∉ os := fun q => (List.nodup_append.mp s.1).2.2 a q a h rfl
theorem AL.left {H : Hp} {os rest : List Addr} (s : AL H (os ++ rest)) : AL H os := ⟨(List.nodup_append.mp s.1).1, fun a h => s.2 a (List.mem_append_left _ h)⟩
theorem AL.right {H : Hp} {os rest : List Addr} (s : AL H (os ++ rest)) : AL H rest := ⟨(List.nodup_append.mp s.1).2.1, fun a h => s.2 a (List.mem_append_right _ h)⟩
end Lw

namespace Lw
open PySem PySem.Spec PyProof.Rows L2
/-! ### enumerate(tuple) -/
set_option maxHeartbeats 4000000 in
theorem meets_enumT {v : Value} {o : Obj} {H : Heap → Prop} (B : Begins v o H) :
    Meets (Builtin.«enumerate.__new__» ⟨[.type "enumerate", v], []⟩) (fun _ R s => H s.heap ∧
      R (.ok (.ret (.ref (s.heap.push o).objs.size))) { s with heap := (s.heap.push o).push { cls := .type "enumerate", data := .fields #[.none, .bool false, .ref s.heap.objs.size, rawInt 0, .none, .none] } }) :=
  .of_wp fun prog w A R s h => by
    obtain ⟨hp, g, d, tk, os⟩ := s; obtain ⟨h1, h⟩ := h
    have hsub := sub_enumerate
    have q1 : ∀ {A' : Around} {E : Value → Shared → Prop} {Q : Value → Shared → Prop}, Q (.ref hp.objs.size) ⟨hp.push o, g, d, tk, os⟩ → wpAny (model prog w) A' (pyIter v) Q E ⟨hp, g, d, tk, os⟩ :=
      fun q => B.iter prog w _ _ ⟨hp, g, d, tk, os⟩ _ h1 q
    wp_walk using q1
    refine wpAny_stack_any fun st => wpAny_pure ?_
    split
    · rename_i c _ _ _ _ _
      cases (c == Value.type "enumerate")
      · wp_walk using q1
        exact ⟨_, rfl, h⟩
      · wp_walk using q1
        exact ⟨_, rfl, h⟩
    · wp_walk using q1
      exact ⟨_, rfl, h⟩
theorem enum_begins1 {prog : Program} {w : World} {A : Around} {E : Value → Shared → Prop} {s : Shared} {v : Value} {o : Obj} {H : Heap → Prop} {Q : Value → Shared → Prop} (B : Begins v o H) (h1 : H s.heap)
    (h : ∀ h', IsEnum h' (s.heap.objs.size + 1) s.heap.objs.size 0 .none → h'.get? s.heap.objs.size = some o → h'.objs.size = s.heap.objs.size + 2 →
      (∀ b o, s.heap.get? b = some o → h'.get? b = some o) → Q (.ref (s.heap.objs.size + 1)) { s with heap := h' }) :
    wpAny (model prog w) A (call (.type "enumerate") [v]) Q E s := by
  refine callType_new F.called_enumerate (by decide) (F.typeCall_enumerate_1 _) (F.newCall_enumerate_1 _) (fun obj => F.args_object_init_2 obj _) F.entry_enumerate_new
    (meets_enumT B) ⟨h1, ?_⟩
  have hz : (s.heap.push o).objs.size = s.heap.objs.size + 1 := Heap.size_push ..
  show _ ∧ _
  rw [hz]
  have he : IsEnum ((s.heap.push o).push { cls := .type "enumerate", data := .fields #[.none, .bool false, .ref s.heap.objs.size, rawInt 0, .none, .none] }) (s.heap.objs.size + 1) s.heap.objs.size 0 .none := by
    have := Heap.get?_push_size (s.heap.push o) (o := { cls := .type "enumerate", data := .fields #[.none, .bool false, .ref s.heap.objs.size, rawInt 0, .none, .none] }) rfl
    rw [hz] at this; exact this
  refine ⟨⟨_, he, rfl⟩, h _ he (Heap.get?_push_of_some _ (Heap.get?_push_size _ B.free)) (by rw [Heap.size_push, hz]) fun b o x => Heap.get?_push_of_some _ (Heap.get?_push_of_some _ x)⟩
/-- the tuple at a as it stands at each turn, each item in a new pair -/
def IteT (K : PySem.W.Frag) (a : Addr) : It :=
  ⟨fun i H => ∃ (xs : List V) (x : V), SqT K H a xs ∧ xs[i]? = some x, fun i H v H' => ∃ T x, v = .ref T ∧ H T = none ∧ H' = upd H T (.tup [.int (i : Nat), x]) ∧ ∀ xs, SqT K H a xs → xs[i]? = some x, fun i H => ∃ xs : List V, SqT K H a xs ∧ xs.length ≤ i⟩
theorem turn_enumT {P : Program} {w : World} {K : PySem.W.Frag} {elts : List Expr} {kk : Nat} {tpos : Pos} (a e it : Addr) :
    Turn P w K (.Tuple elts kk tpos) (IteT K a) [e, it] e (fun i h => (∃ old, IsEnum h e it ((i : Nat) : Int) old) ∧ h.IsTupleIter it a i ∧ e ≠ it) where
  mem := by simp
  obj := fun i h st b hb => by
    obtain ⟨⟨old, he⟩, ⟨o, ho, hc, hd⟩, _⟩ := st
    have e' : b = e ∨ b = it := by simpa using hb
    rcases e' with z | z
    · rw [z]; exact ⟨_, he, fun v q => nomatch q⟩
    · rw [z]; exact ⟨o, ho, fun v q => by rw [hd] at q; cases q⟩
  keep := fun i h h' st k => let ⟨⟨old, he⟩, hi, hne⟩ := st; ⟨⟨old, k e (by simp) _ he⟩, hi.at fun o q => k it (by simp) o q, hne⟩
  item := by
    intro X hP hw hK hc i pins s σ H E I hf st hg
    subst hP hw hK
    obtain ⟨⟨old, he⟩, hit, hne⟩ := st
    obtain ⟨xs, x, hq, hx⟩ := hg
    obtain ⟨its, rv, p, hz⟩ := I.tuple hq
    obtain ⟨u, hu, ru⟩ := rv.get hx
    have hel : e < s.heap.objs.size := Heap.lt_size he
    have hil : it < s.heap.objs.size := by obtain ⟨_, q, _⟩ := hit; exact Heap.lt_size q
    have hai : a ≠ it := fun z => by
      obtain ⟨o, h1, h2, n, h3⟩ := p
      obtain ⟨o', g1, g2, g3⟩ := hit
      rw [z] at h1; rw [h1] at g1; cases g1; rw [h3] at g3; cases g3
    have hae : a ≠ e := fun z => by
      obtain ⟨o, h1, h2, n, h3⟩ := p
      rw [z] at h1; cases Option.some.inj (h1.symm.trans he); cases h3
    have D := Draws.tuple (prog := X.prog) (w := X.w) (A := X.A.in1) (I.ok.hd hc) it a hai its.toArray
    have hi : i < its.toArray.size := by
      have := (List.getElem?_eq_some_iff.mp hu).1
      simpa using this
    refine wpAny_pyNext_enum_itemD D he ⟨hit, p⟩ hi hne (by simp [hne, Ne.symm hae]) fun y h' tk hy ho hst' hT hsz hk => ?_
    have hyu : y = u := by
      have hu' : its.toArray[i]? = some u := by simpa using hu
      rw [hu'] at hy; exact (Option.some.inj hy).symm
    subst hyu
    refine ⟨_, rfl, wpAny_letOwnedTupleGo_enum (s := { s with heap := h', toks := tk + 1 }) ho fun h'' he' sb => ?_⟩
    have hT2 : h''.get? s.heap.objs.size = some { cls := .type "tuple", data := .seq #[.int i tk, y] } := (sb.2 _ (Nat.ne_of_gt hel)).trans hT
    have new : ObjOk X.prog X.w (upd H s.heap.objs.size (.tup [.int (i : Nat), x])) h'' s.heap.objs.size (.tup [.int (i : Nat), x]) :=
      ⟨by show 2 ≤ sizeLine; decide, [.int i tk, y], .cons ⟨_, rfl⟩ (.cons ru .nil), ⟨_, hT2, rfl, _, rfl⟩⟩
    have I1 : Inv X pins σ (upd H s.heap.objs.size (.tup [.int (i : Nat), x])) { s with heap := h'', toks := tk + 1 } :=
      I.turnedNew (ch := [e, it]) (fun b ob hb q => (sb.2 b (fun z => hb (by simp [z]))).trans (hk b ob (fun z => hb (by simp [z])) (fun z => hb (by simp [z])) q)) hf (Nat.le_refl _) new
    refine ⟨.ref s.heap.objs.size, _, I1, rfl, ⟨_, x, rfl, I.hok.fresh (Nat.le_refl _), rfl, fun ys hy => by rw [I.tuple_inj hy hq]; exact hx⟩, ⟨⟨y, ?_⟩, hst'.1.at fun o q => (sb.2 it (Ne.symm hne)).trans q, hne⟩, fun b hb => ?_⟩
    · have e1 : ((i + 1 : Nat) : Int) = (i : Int) + 1 := by omega
      rw [e1]; exact he'
    · have hb' : b < s.heap.objs.size := by
        have e' : b = e ∨ b = it := by simpa using hb
        rcases e' with z | z
        · rw [z]; exact hel
        · rw [z]; exact hil
      rw [upd_ne (Nat.ne_of_lt hb')]
      exact (hf b hb).1
  done := by
    intro X hP hw hK hc i pins s σ H E I hf st hg
    subst hP hw hK
    obtain ⟨⟨old, he⟩, hit, hne⟩ := st
    obtain ⟨xs, hq, hx⟩ := hg
    obtain ⟨its, rv, p, hz⟩ := I.tuple hq
    obtain ⟨f0, f1, f2, f3, f4, f5⟩ := hf it (by simp)
    have hl := rv.length
    have hai : a ≠ it := fun z => by
      obtain ⟨o, h1, h2, n, h3⟩ := p
      obtain ⟨o', g1, g2, g3⟩ := hit
      rw [z] at h1; rw [h1] at g1; cases g1; rw [h3] at g3; cases g3
    have hT : s.TypeIs (.ref e) "enumerate" := ⟨_, he, rfl⟩
    unfold pyNext
    refine wpAny_bind (wpAny_attempt (wpAny_callSpecial?_slot (name := Str.ofString "__next__") hT F.slot_enumerate_next
      (wpAny_call_entry F.slot_enumerate_next hT F.entry_enumerate_next ?_ (F.args_enumerate_next_1 _))))
    show wpAny _ _ (field (.ref e) 2 >>= _) _ _ _
    refine wpAny_bind (wpAny_field he rfl (x := .ref it) rfl ?_)
    refine wpAny_bind (wpAny_nextOf_tuple_end (items := its.toArray) (show X.A.in1.handled = none from I.ok.hd hc) hit p (by simp; omega) fun h' x he' hx' => ?_)
    obtain ⟨o, ho, hcl⟩ := hx'
    refine wpAny_bind (wpAny_isInstance (T := "StopIteration") (b := true) ⟨o, ho, hcl⟩ isSubtype_stop ?_)
    exact wpAny_pure ⟨rfl, I.turned (t' := s.toks) (fun b o hb q => he' b o hb q) f0 f1 f3 f4 f5⟩
  self := fun A i s Q E st h => let ⟨⟨_, he⟩, _⟩ := st; wpAny_pyIter_enum he h
def iEnumT (K : PySem.W.Frag) (ta : TA) : TI := fun σ H R => ta σ H fun vs H1 => ∃ a xs, vs = [.ref a] ∧ SqT K H1 a xs ∧ R (IteT K a) H1
theorem pi_enumT {X : Cx} {e : Expr} {ta : TA} {p pos tpos : Pos} {elts : List Expr} {kk : Nat} (hg : Gl X "enumerate") (hm : X.mg "enumerate" = none) (ha : PA X [e] ta) (hs : starEach [e] X.env = [(false, eval e X.env)] := by rfl) :
    PI X (.Tuple elts kk tpos) (.Call (.Name "enumerate" p) [e] [] pos) (iEnumT X.K ta) := by
  refine ⟨fun pins s σ H R I h => ?_⟩
  refine Call_ (ld_blt I hg hm boot_enumerate (PyProof.Rows.callWith_type1 (thn (ha.run pos pins s σ H _ I h) fun us s1 ⟨vs, H1, I1, r1, q1⟩ => ?_) hs rfl))
  obtain ⟨a, xs, ex, hq, q⟩ := q1
  subst ex
  cases r1 with
  | cons r rr =>
    cases rr
    cases r
    obtain ⟨its, rv, p', hz⟩ := I1.tuple hq
    refine enum_begins1 (begins_tuple a its.toArray) p' fun h' he hit hsz hk => wpAny_pyIter_enum he ?_
    have I2 : Inv X pins σ H1 { s1 with heap := h' } := I1.kept (t' := s1.toks) hk
    refine ⟨s1.heap.objs.size + 1, [s1.heap.objs.size + 1, s1.heap.objs.size], _, _, H1, rfl, I2, turn_enumT a (s1.heap.objs.size + 1) s1.heap.objs.size, ⟨⟨.none, he⟩, ⟨_, hit, rfl, rfl⟩, Nat.succ_ne_self _⟩, fun b hb => ?_, q⟩
    have e' : b = s1.heap.objs.size + 1 ∨ b = s1.heap.objs.size := by simpa using hb
    have hle : s1.heap.objs.size ≤ b := by
      rcases e' with z | z
      · rw [z]; exact Nat.le_add_right _ _
      · rw [z]; exact Nat.le_refl _
    exact I1.fpOk hle (I1.hok.fresh hle)
section
variable {K : PySem.W.Frag} {σ : L2.St} {H : Hp} {D : Ends} {tb : TS} {g : TG} {a : Addr} {R : It → Hp → Prop} {as : TA}
def rEnT (K : PySem.W.Frag) (vs : List V) (H : Hp) (R : It → Hp → Prop) : Prop := ∃ a xs, vs = [.ref a] ∧ SqT K H a xs ∧ R (IteT K a) H
theorem g_iET (h : as σ H fun vs H1 => rEnT K vs H1 R) : iEnumT K as σ H R := h
theorem g_renT {xs : List V} (h : SqT K H a xs) (c : R (IteT K a) H) : rEnT K [.ref a] H R := ⟨a, xs, rfl, h, c⟩
theorem f_enumT {xs : List V} (Pv : Nat → L2.St → Hp → Prop) (h0 : Pv 0 σ H) (hl : ∀ i σ H, i ≤ xs.length → Pv i σ H → SqT K H a xs)
    (hs : ∀ i x T σ H H', xs[i]? = some x → Pv i σ H → H T = none → Fr [] H H' → H' T = some (.tup [.int (i : Nat), x]) → g (.ref T) σ H' fun σ2 H2 => tb { D with nx := Pv (i + 1), ct := Pv (i + 1), bk := D.nx } σ2 H2) (hd : ∀ σ H, Pv xs.length σ H → D.nx σ H) : ForGo (IteT K a) g tb D σ H := by
  refine ⟨fun i m σ H => m = xs.length - i ∧ i ≤ xs.length ∧ Pv i σ H, ⟨xs.length, rfl, Nat.zero_le _, h0⟩, ?_⟩
  rintro i m σ H ⟨rfl, hi, p⟩
  have qx := hl i σ H hi p
  by_cases hlt : i < xs.length
  · have hx : xs[i]? = some xs[i] := List.getElem?_eq_getElem hlt
    refine .inr ⟨⟨xs, _, qx, hx⟩, Pv (i + 1), fun σ' H' p' => ⟨xs.length - (i + 1), by omega, rfl, hlt, p'⟩, fun v H' y => ?_⟩
    obtain ⟨T, x', rfl, hT, rfl, f1⟩ := y
    exact hs i x' T σ H _ (f1 xs qx) p hT (Fr.new hT) upd_same
  · have e : i = xs.length := by omega
    subst e
    exact .inl ⟨⟨xs, qx, Nat.le_refl _⟩, hd σ H p⟩
/-! small words -/
variable {Q : VK} {te : TE} {x : V}
def rIntB : List V → Hp → VK → Prop := fun xs H Q => ∃ k, xs = [.bl k] ∧ Q (.int (if k then 1 else 0)) H
theorem b_intB {X : Cx} : CallR X (.type "int") rIntB := fun pins s σ H xs us Q I r h => call_int1 pins s σ H xs us Q I r (.inr h)
theorem g_intB {k : Bool} (h : Q (.int (if k then 1 else 0)) H) : rIntB [.bl k] H Q := ⟨k, rfl, h⟩
theorem g_slT {xs : List V} {lo hi : Option Int} (h : SqT K H a xs) (n : ¬ (HT.sIx xs.length 0 lo = 0 ∧ HT.sIx xs.length xs.length hi = xs.length)) (q : ∀ l H', H l = none → Fr [] H H' → H' l = some (.tup (cutV xs lo hi)) → Q (.ref l) H') : rSlT K (.ref a) lo hi H Q :=
  ⟨a, xs, rfl, h, n, fun l hl => q l _ hl (Fr.new hl) upd_same⟩
theorem cut_tail {x : V} {xs : List V} : cutV (x :: xs) (some 1) none = xs := by
  unfold cutV
  rw [HT.sIx_none, show (some (1 : Int)) = some (((1 : Nat) : Int)) from rfl, HT.sIx_nat, List.length_cons, Nat.min_eq_left (Nat.succ_le_succ (Nat.zero_le _)), List.drop_one, List.tail_cons]
  exact List.take_of_length_le (by omega)
theorem g_sl1 {x : V} {xs : List V} (h : SqT K H a (x :: xs)) (q : ∀ l H', H l = none → Fr [] H H' → H' l = some (.tup xs) → Q (.ref l) H') : rSlT K (.ref a) (some 1) none H Q := by
  refine g_slT h (fun z => ?_) fun l H' n f e => q l H' n f (by rw [cut_tail] at e; exact e)
  have z1 := z.1
  rw [show (some (1 : Int)) = some (((1 : Nat) : Int)) from rfl, HT.sIx_nat, List.length_cons, Nat.min_eq_left (Nat.succ_le_succ (Nat.zero_le _))] at z1
  exact absurd z1 (by decide)
theorem g_un {r : V → Hp → VK → Prop} (h : te σ H fun x H1 => r x H1 Q) : tUn r te σ H Q := h
abbrev rNeg : V → Hp → VK → Prop := rU fun i => .int (-i)
theorem g_neg {i : Int} (h : Q (.int (-i)) H) : rNeg (.int i) H Q := ⟨i, rfl, h⟩
theorem g_trC {P : Bool → Prop} {x : V} {xs : List V} (h : SqL K H a (x :: xs)) (q : P true) : ∃ k, TruV K (.ref a) H k ∧ P k := ⟨true, .inl ⟨x :: xs, h, rfl⟩, q⟩
theorem g_trN {P : Bool → Prop} (h : SqL K H a []) (q : P false) : ∃ k, TruV K (.ref a) H k ∧ P k := ⟨false, .inl ⟨[], h, rfl⟩, q⟩
end
end Lw

namespace Lw
open PySem PySem.Spec PyProof.Rows L2
/-! ### x in a tuple of data -/
section
variable {X : Cx} {K : PySem.W.Frag} {H : Hp} {Q : VK} {x y : V} {d e : PyData} {ds : List PyData}
def rInDT (K : PySem.W.Frag) : R2 := fun x y H Q => ∃ d ds, Dp K H x d ∧ Dp K H y (.tuple ds) ∧ d.canLay0 = true ∧ PyData.canLayAll0 ds = true ∧ d.depth ≤ 60 ∧ Q (.bl (ds.any fun z => PyData.eqv z d)) H
theorem op_inDT (hu : X.A.units + 64 < cLine) : OpR X (compareOp .In) (rInDT X.K) := by
  intro pins s σ H x y v u Q I rx ry h
  obtain ⟨d, ds, hd, he, sd, se, sz, q⟩ := h
  obtain ⟨as, r1⟩ := Dp.reads I d x v hd rx
  obtain ⟨bs, r2⟩ := Dp.reads I (.tuple ds) y u he ry
  have h2 : min (PyData.depthAll ds) d.depth ≤ d.depth := Nat.min_le_right _ _
  exact SeqAt.in_tuple_reads r2 r1 se sd (by omega) ⟨.bl _, H, I, rfl, q⟩
theorem g_inDT (dx : Da H x d) (dy : Da H y (.tuple ds)) (s1 : d.canLay0 = true) (s2 : PyData.canLayAll0 ds = true) (hz : d.depth ≤ 60) (q : Q (.bl (ds.any fun z => PyData.eqv z d)) H) : rInDT K x y H Q :=
  ⟨d, ds, Da.dp _ _ dx, Da.dp _ _ dy, s1, s2, hz, q⟩
theorem g_eqDD (dx : Da H x d) (dy : Da H y e) (s1 : SeqAt.shaped d = true) (s2 : SeqAt.shaped e = true) (q : Q (.bl (PyData.eqv d e)) H) : rEqD K x y H Q := ⟨d, e, Da.dp _ _ dx, Da.dp _ _ dy, s1, s2, q⟩
/-! ### slices that may be whole -/
theorem g_slA {a : Addr} {xs : List V} {lo hi : Option Int} (h : SqT K H a xs) (q1 : HT.sIx xs.length 0 lo = 0 ∧ HT.sIx xs.length xs.length hi = xs.length → Q (.ref a) H)
    (q2 : ¬ (HT.sIx xs.length 0 lo = 0 ∧ HT.sIx xs.length xs.length hi = xs.length) → ∀ l H', H l = none → Fr [] H H' → H' l = some (.tup (cutV xs lo hi)) → Q (.ref l) H') : rSlA K (.ref a) lo hi H Q :=
  ⟨a, xs, rfl, h, q1, fun n l hl => q2 n l _ hl (Fr.new hl) upd_same⟩
/-! ### list of a dict with tuple keys -/
def rListDT : List V → Hp → VK → Prop := fun xs H Q => ∃ d kvs, xs = [V.ref d] ∧ Rd H d (.dT kvs) ∧ ∀ p bs, H p = none → IsKeys H kvs bs → Q (.ref p) (upd H p (.lst (bs.map V.ref)))
theorem b_listDT (hc : X.calm = true) : CallR X (.type "list") rListDT := call_list_dT hc
theorem g_listDT {a : Addr} {kvs : List (List Key × V)} (h : H a = some (.dT kvs)) (q : ∀ p bs H', H p = none → Fr [] H H' → IsKeys H kvs bs → H' p = some (.lst (bs.map V.ref)) → Q (.ref p) H') : rListDT [.ref a] H Q :=
  ⟨a, kvs, rfl, .inl h, fun p bs n k => q p bs _ n (Fr.new n) k upd_same⟩
end
/-! l.extend(m) -/
theorem g_extend {H : Hp} {Q : VK} {l b : Addr} {xs zs : List V} (h : H l = some (.lst xs)) (h2 : H b = some (.lst zs)) (hl : xs.length + zs.length ≤ sizeLine) (q : ∀ H', Fr [l] H H' → H' l = some (.lst (xs ++ zs)) → Q .non H') : rExtend (.ref l) [.ref b] H Q :=
  ⟨l, b, xs, zs, rfl, rfl, h, h2, hl, q _ (Fr.put h trivial) upd_same⟩
/-! frames -/
theorem Fr.in1 {l : List Addr} {a : Addr} {H H' : Hp} (f : Fr [a] H H') (h : a ∈ l) : Fr l H H' := f.mono fun x hx => by rw [List.mem_singleton.mp hx]; exact h
theorem Fr.in2 {l : List Addr} {a b : Addr} {H H' : Hp} (f : Fr [a, b] H H') (h : a ∈ l) (h2 : b ∈ l) : Fr l H H' := f.mono fun x hx => by
  rcases List.mem_cons.mp hx with q | q
  · rw [q]; exact h
  · rw [List.mem_singleton.mp q]; exact h2
theorem Fr.back1 {l : List Addr} {p : Addr} {u : HO} {H H' : Hp} (f : Fr (p :: l) H H') (h : H p = some u) (h' : H' p = some u) : Fr l H H' := ⟨fun a o e n => by
  by_cases z : a = p
  · rw [z] at e ⊢; rw [h] at e; cases e; exact h'
  · exact f.keep a o e (nin1 z n), f.tup⟩
end Lw

namespace Lw
open PySem PySem.Spec PyProof.Rows L2
/-! ### defs that may raise, classes of errors -/
structure CalX (P : Program) (w : World) (K : PySem.W.Frag) (mg : Str → Option Value) (base : Heap) (x : Str) (k : Nat) (ps : List Str) (sp : Sp) : Prop where
  ex : ∃ f fd, FnOk P w K mg base (L2.CX P w) k f fd ps sp ∧ mg x = some (.ref f) ∧ PySem.W.keepIn K (.ref f) = true ∧ Binds K fd ps []
structure ErrC (K : PySem.W.Frag) (mg : Str → Option Value) (x : Str) (C : Addr) : Prop where
  g : mg x = some (.ref C)
  k : PySem.W.keepIn K (.ref C) = true
  e : PySem.W.excIn K C [.type "ValueError", .type "Exception", .type "BaseException", .type "object"] "ValueError.__new__" = true
  s : PySem.W.subIn K (.ref C) (.type "BaseException") = some true
  t : PySem.W.typeIn K (.ref C) = some (.type "type")
def tClX (sp : Sp) (W : WX) (t : TA) : TE := fun σ H Q => t σ H fun vs H1 => sp vs H1 Q (fun cls d H' => W cls d σ H')
def tRz (C : Addr) (W : WX) : TS := fun _ σ H => W (.ref C) none σ H
section
variable {X : Cx} {k : Nat} {ps : List Str} {sp : Sp} {x m : Str} {p p2 pos pos2 : Pos} {j : Nat} {e : Expr} {es : List Expr} {t : TA} {C : Addr} {W : WX}
theorem pe_clX (c : CalX X.prog X.w X.K X.mg X.base x k ps sp) (hr : Room k X.A) (hg : Gl X x) (tk : Takes X W) (ha : PA X (e :: es) t) (hdb : (x == ("__debug__" : Str)) = false := by decide)
    (he : starEach (e :: es) X.env = (false, eval e X.env) :: starEach es X.env := by rfl) (hpl : (backTo pos (starEach es X.env)).any (·.1) = false := by rfl) : PE X (.Call (.Name x p) (e :: es) [] pos) (tClX sp W t) := by
  obtain ⟨f, fd, F, hm, hk, hb⟩ := c.ex
  exact pe_callS (E := fun σ cls d H => W cls d σ H) F hr hg hm hk hb (fun s => passAt tk s) ha hdb he hpl
theorem ps_rz (hc : X.calm = true) (tk : Takes X W) (c : ErrC X.K X.mg x C) (hg : Gl X x) (hdb : (x == ("__debug__" : Str)) = false := by decide) :
    PS X (.Raise (some (.Call (.Name x p) [.Constant (.str m) j p2] [] pos)) none pos2) (tRz C W) :=
  ps_raise hc tk (pmk_own PySem.F.excBase_ValueError c.e c.g c.k (raises_own c.s c.t) hg hdb)
/-- a class of errors, by its name -/
theorem pe_err (c : ErrC X.K X.mg x C) (hg : Gl X x) (hdb : (x == ("__debug__" : Str)) = false := by decide) : PE X (.Name x p) (tC (.ref C)) := by
  refine ⟨fun pins s σ H Q I h => ?_⟩
  exact ld_glob I hg c.g ⟨V.ref C, H, I, rfl, h⟩ hdb
end
/-- a whole number of the module, by its name -/
theorem pe_gint {X : Cx} {x : Str} {n : Int} {pos : Pos} (h : ∃ tk, X.mg x = some (.int n tk)) (hg : Gl X x) (hd : (x == ("__debug__" : Str)) = false := by decide) : PE X (.Name x pos) (tC (.int n)) := by
  obtain ⟨tk, e⟩ := h
  exact pe_glob hg e ⟨tk, rfl⟩ hd
/-! isinstance of a caught error -/
def rIsET (K : PySem.W.Frag) (D a : Addr) : List V → Hp → VK → Prop := fun xs H Q => ∃ (tp : Addr) (cs : List V) (us : List Value) (b : Bool), xs = [.ref a, .ref tp] ∧ H tp = some (.tup cs) ∧ (∀ ws, Vals cs ws → ws = us) ∧ PySem.W.kitAny K (.ref D) us = some b ∧ Q (.bl b) H
theorem call_isET {X : Cx} {a D : Addr} {oe : Obj} {pn : List (Addr × Obj)} (C : ExcC X.K D) (hz : Zc (.ref D) none oe) (hf : ∃ vs, oe.data = .fields vs) : CallR (X.suite a ((a, oe) :: pn)) (.builtin "isinstance") (rIsET X.K D a) := by
  intro pins s σ H xs us Q I r h
  obtain ⟨tp, cs, ws, b, rfl, hT, hw, e, q⟩ := h
  obtain ⟨u1, u2, rfl, r1, r2⟩ := vals2 r
  cases (show u2 = Value.ref tp from r2)
  cases (show u1 = Value.ref a from r1)
  obtain ⟨hget, _⟩ := I.pin (a, oe) (List.mem_append.mpr (.inl List.mem_cons_self))
  obtain ⟨vs, hv⟩ := hf
  have J : PySem.W.InstAt s.heap a oe D none := by
    obtain ⟨oc, od, oda, osl⟩ := oe
    obtain ⟨h1, h2⟩ := hz
    dsimp only at h1 h2 hv
    subst h1 h2 hv
    exact ⟨hget, rfl, rfl, trivial⟩
  obtain ⟨_, its, rv, o, h1, h2, n, h3⟩ := (show ObjOk X.prog X.w H s.heap tp (.tup cs) from I.hok tp _ hT)
  have e3 := hw its rv
  subst e3
  obtain ⟨oc, od, dt, sl⟩ := o
  simp only at h2 h3
  subst h2 h3
  exact PySem.W.kia_tup (PySem.W.handS_kitx_exc C.hg C.hk C.hs C.hd C.ha C.hn C.ht C.hm) I.kIn J h1 e (fun z => nomatch z) fun tk => ⟨.bl b, H, I.kept (t' := tk) fun _ _ z => z, rfl, q⟩
def rIsEd (K : PySem.W.Frag) (D a : Addr) (cls : Value) (d : Option Addr) : List V → Hp → VK → Prop := fun xs H Q => cls = .ref D ∧ d = none ∧ rIsE K D a xs H Q
def rIsETd (K : PySem.W.Frag) (D a : Addr) (cls : Value) (d : Option Addr) : List V → Hp → VK → Prop := fun xs H Q => cls = .ref D ∧ d = none ∧ rIsET K D a xs H Q
theorem call_isEd {X : Cx} {a D : Addr} {oe : Obj} {pn : List (Addr × Obj)} {cls : Value} {d : Option Addr} (C : ExcC X.K D) (hz : Zc cls d oe) (hf : ∃ vs, oe.data = .fields vs) : CallR (X.suite a ((a, oe) :: pn)) (.builtin "isinstance") (rIsEd X.K D a cls d) := by
  intro pins s σ H xs us Q I r h
  obtain ⟨rfl, rfl, h⟩ := h
  exact call_isE C hz hf pins s σ H xs us Q I r h
theorem call_isETd {X : Cx} {a D : Addr} {oe : Obj} {pn : List (Addr × Obj)} {cls : Value} {d : Option Addr} (C : ExcC X.K D) (hz : Zc cls d oe) (hf : ∃ vs, oe.data = .fields vs) : CallR (X.suite a ((a, oe) :: pn)) (.builtin "isinstance") (rIsETd X.K D a cls d) := by
  intro pins s σ H xs us Q I r h
  obtain ⟨rfl, rfl, h⟩ := h
  exact call_isET C hz hf pins s σ H xs us Q I r h
/-- try: .. except C as n: .. -/
def tTryAs (K : PySem.W.Frag) (c : Value) (i : Nat) (tb : WX → TS) (ts : Addr → Value → Option Addr → TS) (Wout : WX) : TS := fun D σ H => tb (wAs K c i ts Wout D) D σ H
theorem vals_refs : ∀ {cs : List Addr} {ws : List Value}, Vals (cs.map V.ref) ws → ws = cs.map Value.ref
  | [], [], _ => rfl
  | c :: cs, w :: ws, h => by
    cases h with
    | cons a t =>
      rw [vals_refs t, show w = Value.ref c from a]; rfl
  | [], _ :: _, h => by cases h
  | _ :: _, [], h => by cases h
section
variable {K : PySem.W.Frag} {σ : L2.St} {H : Hp} {Q : VK} {D : Ends} {sp : Sp} {W : WX} {as : TA} {C a E tp : Addr}
theorem g_clX (h : as σ H (fun vs H1 => sp vs H1 Q (fun cls d H' => W cls d σ H'))) : tClX sp W as σ H Q := h
theorem g_rz (h : W (.ref C) none σ H) : tRz C W D σ H := h
theorem g_isE {c : Addr} {b : Bool} (e : PySem.W.kitOne K (.ref E) (.ref c) = some b) (q : Q (.bl b) H) : rIsE K E a [.ref a, .ref c] H Q := ⟨.ref c, .ref c, b, rfl, fun _ r => r, e, q⟩
theorem g_isEt {c : String} {b : Bool} (e : PySem.W.kitOne K (.ref E) (.type c) = some b) (q : Q (.bl b) H) : rIsE K E a [.ref a, .ty c] H Q := ⟨.ty c, .type c, b, rfl, fun _ r => r, e, q⟩
theorem g_isET {cs : List Addr} {b : Bool} (h : H tp = some (.tup (cs.map V.ref))) (e : PySem.W.kitAny K (.ref E) (cs.map Value.ref) = some b) (q : Q (.bl b) H) : rIsET K E a [.ref a, .ref tp] H Q :=
  ⟨tp, _, _, b, rfl, h, fun _ r => vals_refs r, e, q⟩
end
end Lw

namespace Lw
open PySem PySem.Spec PyProof.Rows L2
/-! ### t + u and t * n, whatever their lengths -/
def rCatA (K : PySem.W.Frag) : R2 := fun x y H Q => ∃ a b xs ys, x = V.ref a ∧ y = V.ref b ∧ SqT K H a xs ∧ SqT K H b ys ∧ xs.length + ys.length ≤ sizeLine ∧
  (xs = [] → Q (.ref b) H) ∧ (xs ≠ [] → ys = [] → Q (.ref a) H) ∧ (xs ≠ [] → ys ≠ [] → ∀ p, H p = none → Q (.ref p) (upd H p (.tup (xs ++ ys))))
theorem cat_all {prog : Program} {w : World} {A : Around} {E : Value → Shared → Prop} {s : Shared} {t b : Addr} {vs ws : List Value} {Q : Value → Shared → Prop} (ht : IsTup s.heap t vs.toArray) (hb : IsTup s.heap b ws.toArray)
    (h0 : vs = [] → Q (.ref b) s) (h1 : vs ≠ [] → ws = [] → Q (.ref t) s) (h2 : vs ≠ [] → ws ≠ [] → Q (.ref s.heap.objs.size) { s with heap := s.heap.push { cls := .type "tuple", data := .seq (vs ++ ws).toArray } }) (hsz : vs.length + ws.length ≤ sizeLine) :
    wpAny (model prog w) A (binaryOp .Add (.ref t) (.ref b)) Q E s := by
  obtain ⟨⟨ca, da, ta, la⟩, ga, ha, na, ka⟩ := id ht
  obtain ⟨⟨cb, db, tb, lb⟩, gb, hb', nb, kb⟩ := id hb
  simp only at ha ka hb' kb
  subst ha ka hb' kb
  have e : vs.toArray ++ ws.toArray = (vs ++ ws).toArray := by simp
  by_cases hv : vs = []
  · exact concat_meets ⟨_, ga, rfl⟩ ⟨_, gb, rfl⟩ noFill_tuple_add seq_tuple_add PySem.F.slot_tuple_add PySem.F.entry_tuple_add (PySem.F.args_tuple_add_2 _ _) (tuple_addW0 t b vs.toArray ws.toArray na nb da db la lb (by simp [hv])) ⟨ga, gb, h0 hv⟩
  · by_cases hw : ws = []
    · exact concat_meets ⟨_, ga, rfl⟩ ⟨_, gb, rfl⟩ noFill_tuple_add seq_tuple_add PySem.F.slot_tuple_add PySem.F.entry_tuple_add (PySem.F.args_tuple_add_2 _ _) (tuple_addW1 t b vs.toArray ws.toArray na nb da db la lb (by simpa using hv) (by simp [hw])) ⟨ga, gb, h1 hv hw⟩
    · refine concat_meets ⟨_, ga, rfl⟩ ⟨_, gb, rfl⟩ noFill_tuple_add seq_tuple_add PySem.F.slot_tuple_add PySem.F.entry_tuple_add (PySem.F.args_tuple_add_2 _ _) (tuple_addW2 t b vs.toArray ws.toArray na nb da db la lb (by simpa using hv) (by simpa using hw) (by rw [List.size_toArray, List.size_toArray]; exact hsz)) ⟨ga, gb, ?_⟩
      rw [e]
      exact h2 hv hw
section
variable {X : Cx}
theorem op_catA : OpR X (binaryOp .Add) (rCatA X.K) := by
  intro pins s σ H x y v u Q I rx ry h
  obtain ⟨a, b, xs, ys, rfl, rfl, ha, hb, hz, q0, q1, q2⟩ := h
  cases rx
  cases ry
  obtain ⟨its, r1, p1, _⟩ := I.tuple ha
  obtain ⟨jts, r2, p2, _⟩ := I.tuple hb
  refine cat_all p1 p2 (fun z => ⟨.ref b, H, I, rfl, q0 (r1.nil_iff.mp z)⟩) (fun z z' => ⟨.ref a, H, I, rfl, q1 (fun w => z (r1.nil_iff.mpr w)) (r2.nil_iff.mp z')⟩) (fun z z' => ?_) (by rw [← r1.length, ← r2.length]; exact hz)
  refine ⟨.ref s.heap.objs.size, _, I.laid (t' := s.toks) (o := .tup (xs ++ ys)) (fun b ob q => Heap.get?_push_of_some _ q) (Nat.le_refl _) ?_, rfl, q2 (fun w => z (r1.nil_iff.mpr w)) (fun w => z' (r2.nil_iff.mpr w)) _ (I.hok.fresh (Nat.le_refl _))⟩
  exact ⟨by rw [List.length_append]; exact hz, _, r1.append r2, IsTup.new _ _⟩
theorem tuple_mulS (l : Addr) (items : Array Value) (n : Nat) (dd : Option Addr) (sl : Array (Option Value)) (x : Int) (u : Tok) (c0 : (decide (x < -(2 ^ 63)) || decide (x ≥ 2 ^ 63)) = false) (c1 : (items.isEmpty || x == 1) = true) :
    Meets (Builtin.«tuple.__mul__» ⟨[.ref l, .int x u], []⟩) (fun _ R s => s.heap.get? l = some { cls := .type "tuple", dict := dd, data := .seq items n, slots := sl } ∧ R (.ok (.ret (Value.ref l))) s) :=
  .of_wp fun prog w A R s h => by
    obtain ⟨hp, g, d, tk, os⟩ := s
    obtain ⟨hl, h⟩ := h
    have f1 := AutoSeq1.idx_int
    wp_walk using wpAny_loadPart' hl
    repeat (first
      | (refine wpAny_ite_false (decide_eq_false (by rw [c0]; exact Bool.false_ne_true)) ?_; wp_walk using wpAny_loadPart' hl)
      | (refine wpAny_ite_true (decide_eq_true c1) ?_; wp_walk using wpAny_loadPart' hl))
    exact ⟨_, rfl, h⟩
theorem tuple_mulZ (l : Addr) (items : Array Value) (n : Nat) (dd : Option Addr) (sl : Array (Option Value)) (x : Int) (u : Tok) (c0 : (decide (x < -(2 ^ 63)) || decide (x ≥ 2 ^ 63)) = false) (c1 : (items.isEmpty || x == 1) = false) (c2 : (decide (x ≤ 0) || items.isEmpty) = true) :
    Meets (Builtin.«tuple.__mul__» ⟨[.ref l, .int x u], []⟩) (fun _ R s => s.heap.get? l = some { cls := .type "tuple", dict := dd, data := .seq items n, slots := sl } ∧
      R (.ok (.ret (Value.ref s.heap.objs.size))) { s with heap := s.heap.push { cls := Value.type "tuple", data := Data.seq #[] }, toks := s.toks }) :=
  .of_wp fun prog w A R s h => by
    obtain ⟨hp, g, d, tk, os⟩ := s
    obtain ⟨hl, h⟩ := h
    have f1 := AutoSeq1.idx_int
    wp_walk using wpAny_loadPart' hl
    repeat (first
      | (refine wpAny_ite_false (decide_eq_false (by rw [c0]; exact Bool.false_ne_true)) ?_; wp_walk using wpAny_loadPart' hl)
      | (refine wpAny_ite_false (decide_eq_false (by rw [c1]; exact Bool.false_ne_true)) ?_; wp_walk using wpAny_loadPart' hl)
      | (refine wpAny_ite_true (decide_eq_true c2) ?_; wp_walk using wpAny_loadPart' hl))
    exact ⟨_, rfl, h⟩
def rMulA (K : PySem.W.Frag) : R2 := fun x y H Q => ∃ l k xs, x = V.ref l ∧ y = V.int k ∧ SqT K H l xs ∧ xs ≠ [] ∧ 0 ≤ k ∧ k ≤ 1000 ∧ xs.length ≤ 1000 ∧ (k = 1 → Q (.ref l) H) ∧ (k ≠ 1 → ∀ p, H p = none → Q (.ref p) (upd H p (.tup (List.replicate k.toNat xs).flatten)))
theorem op_mulA : OpR X (binaryOp .Mult) (rMulA X.K) := by
  intro pins s σ H x y v u Q I rx ry h
  obtain ⟨l, k, xs, rfl, rfl, hT, hne, h1, h2, hz, q1, q2⟩ := h
  by_cases hk : 2 ≤ k
  · exact op_repT pins s σ H _ _ v u Q I rx ry ⟨l, k, xs, rfl, rfl, hT, hne, hk, h2, hz, q2 (by omega)⟩
  cases rx
  obtain ⟨t, rfl⟩ := ry
  obtain ⟨its, r, ⟨⟨ca, da, ta, la⟩, ga, ha, na, ka⟩, hs⟩ := I.tuple hT
  simp only at ha ka
  subst ha ka
  have hi : its.toArray.isEmpty = false := by
    cases its with
    | nil => cases r; exact absurd rfl hne
    | cons a b => rfl
  have c0 : (decide (k < -(2 ^ 63)) || decide (k ≥ 2 ^ 63)) = false := by
    rw [decide_eq_false (by omega), decide_eq_false (by omega)] <;> rfl
  by_cases hk1 : k = 1
  · have c1 : (its.toArray.isEmpty || k == 1) = true := by rw [hk1]; simp
    refine wpAny_binaryOp_repeat_ref (T := "tuple") (U := "int") (by decide) ⟨_, ga, rfl⟩ (fun s' => typeIs_int s' k t) noFill_tuple_mul F.fills_int_mul F.slot_int_rmul repeat_tuple F.slot_int_index.lookup
      (call_meets F.slot_int_rmul (typeIs_int s k t) F.entry_int_rmul (F.args_int_rmul_2 _ _) (int_rmul_tuple k t l its.toArray na da la)
        ⟨ga, rfl, ⟨_, ga, rfl⟩, call_meets F.slot_tuple_mul ⟨_, ga, rfl⟩ F.entry_tuple_mul (F.args_tuple_mul_2 _ _) (tuple_mulS l its.toArray na da la k t c0 c1) ⟨ga, ?_⟩⟩)
    exact ⟨.ref l, H, I, rfl, q1 hk1⟩
  · have hk0 : k = 0 := by omega
    have c1 : (its.toArray.isEmpty || k == 1) = false := by rw [hi, hk0]; rfl
    have c2 : (decide (k ≤ 0) || its.toArray.isEmpty) = true := by rw [hk0]; rfl
    refine wpAny_binaryOp_repeat_ref (T := "tuple") (U := "int") (by decide) ⟨_, ga, rfl⟩ (fun s' => typeIs_int s' k t) noFill_tuple_mul F.fills_int_mul F.slot_int_rmul repeat_tuple F.slot_int_index.lookup
      (call_meets F.slot_int_rmul (typeIs_int s k t) F.entry_int_rmul (F.args_int_rmul_2 _ _) (int_rmul_tuple k t l its.toArray na da la)
        ⟨ga, rfl, ⟨_, ga, rfl⟩, call_meets F.slot_tuple_mul ⟨_, ga, rfl⟩ F.entry_tuple_mul (F.args_tuple_mul_2 _ _) (tuple_mulZ l its.toArray na da la k t c0 c1 c2) ⟨ga, ?_⟩⟩)
    have e0 : (List.replicate k.toNat xs).flatten = [] := by rw [hk0]; rfl
    have q := q2 hk1
    rw [e0] at q
    refine ⟨.ref s.heap.objs.size, _, I.laid (t' := s.toks) (o := .tup []) (fun b ob q => Heap.get?_push_of_some _ q) (Nat.le_refl _) ?_, rfl, q _ (I.hok.fresh (Nat.le_refl _))⟩
    exact ⟨Nat.zero_le _, [], .nil, IsTup.new _ _⟩
end
section
variable {K : PySem.W.Frag} {H : Hp} {Q : VK} {a b : Addr} {xs ys : List V}
theorem g_catA (h : H a = some (.tup xs)) (h2 : H b = some (.tup ys)) (hl : xs.length + ys.length ≤ sizeLine) (c : ∀ p H', Fr [] H H' → H' p = some (.tup (xs ++ ys)) → Q (.ref p) H') : rCatA K (.ref a) (.ref b) H Q := by
  refine ⟨a, b, xs, ys, rfl, rfl, SqT.of h, SqT.of h2, hl, fun e => ?_, fun e e' => ?_, fun e e' p hp => c p _ (Fr.new hp) upd_same⟩
  · subst e; exact c b H Fr.refl h2
  · subst e'
    rw [List.append_nil] at c
    exact c a H Fr.refl h
theorem g_mulA {k : Int} (h : H a = some (.tup xs)) (hne : xs ≠ []) (h1 : 0 ≤ k) (h2 : k ≤ 1000) (hz : xs.length ≤ 1000) (c : ∀ p H', Fr [] H H' → H' p = some (.tup (List.replicate k.toNat xs).flatten) → Q (.ref p) H') : rMulA K (.ref a) (.int k) H Q := by
  refine ⟨a, k, xs, rfl, rfl, SqT.of h, hne, h1, h2, hz, fun e => ?_, fun e p hp => c p _ (Fr.new hp) upd_same⟩
  subst e
  have e0 : (List.replicate (1 : Int).toNat xs).flatten = xs := by show (xs ++ [] : List V) = xs; rw [List.append_nil]
  rw [e0] at c
  exact c a H Fr.refl h
end
/-! data of any kind stands while nothing that stood is written -/
mutual
theorem Da.fr0 {H H' : Hp} (f : Fr [] H H') : ∀ (d : PyData) (v : V), Da H v d → Da H' v d
  | .none, _, h => by cases h; exact .non
  | .bool b, _, h => by cases h; exact .bl b
  | .int i, _, h => by cases h; exact .int i
  | .str x, _, h => by cases h; exact .str x
  | .list ds, _, h => by
    cases h with
    | lst e z r => exact .lst (f.at0 e) z (DaL.fr0 f ds _ r)
  | .tuple ds, _, h => by
    cases h with
    | tup e z r => exact .tup (f.tup _ _ e) z (DaL.fr0 f ds _ r)
  | .dict _, _, h => by cases h
theorem DaL.fr0 {H H' : Hp} (f : Fr [] H H') : ∀ (ds : List PyData) (vs : List V), DaL H vs ds → DaL H' vs ds
  | [], _, h => by cases h; exact .nil
  | d :: ds, _, h => by
    cases h with
    | cons r t => exact .cons (Da.fr0 f d _ r) (DaL.fr0 f ds _ t)
end
end Lw

namespace Lw
open PySem PySem.Spec PyProof.Rows L2
/-! ### sorted(t), t a tuple of data of one shape -/
open PySem.W in
def rSortDU (K : PySem.W.Frag) : List V → Hp → VK → Prop := fun vs H Q => ∃ (a : Addr) (bs : List (V × PyData)), vs = [V.ref a] ∧ SqT K H a (bs.map (·.1)) ∧ (∀ b ∈ bs, Da H b.1 b.2) ∧ AllAlike (bs.map (·.2)) ∧ Sortable (bs.map (·.2)) ∧ (∀ b ∈ bs, b.2.depth ≤ 60) ∧
  ∀ p, H p = none → Q (.ref p) (upd H p (.lst ((bs.mergeSort (dataLe false (·.2))).map (·.1))))
open PySem.W in
theorem b_sortDU {X : Cx} (hu : X.A.units + 64 < cLine) : CallR X (.builtin "sorted") (rSortDU X.K) := by
  intro pins s σ H vs us Q I r h
  obtain ⟨a, bs, rfl, hs, hd, ha, hk, hdp, q⟩ := h
  obtain ⟨its, rv, hl, hz⟩ := I.tuple hs
  obtain ⟨u, rfl, ru⟩ := vals1 r
  obtain rfl : u = Value.ref a := ru
  obtain ⟨e1, e2⟩ := eachV I bs its rv hd
  rw [List.length_map] at hz
  obtain ⟨o, ho, hc, n, hdat⟩ := hl
  have hlen : its.length = bs.length := e1.length
  refine Calls.call_function_entry PyProof.Rows.kind_sorted PyProof.Rows.plain_sorted PyProof.Rows.entry_sorted (PyProof.Rows.args_sorted1 _) ?_
  unfold Builtin.«sorted»
  refine wpAny_bind (m := checkCount "sorted" 1 1 _) (wpAny_pure ?_)
  refine wpAny_bind (wpAny_collect_seq a (.inr rfl) ho hc hdat (fun h' kp => ?_) (by rw [List.size_toArray, hlen]; exact hz))
  have I1 : Inv X pins σ H { s with heap := h' } := I.kept (t' := s.toks) kp
  have hpl : its.toArray.toList.length ≤ sizeLine := by rw [List.toList_toArray, hlen]; exact hz
  refine wpAny_bind (wpAny_newList ?_ hpl)
  rw [List.toList_toArray] at *
  have hoL : (h'.push (seqObj "list" its.toArray 0)).get? h'.objs.size = some (seqObj "list" its.toArray 0) := Heap.get?_push_size _ rfl
  have er' : EachIs (fun v (b : V × PyData) => ∃ as, PySem.Reads (sortingHeap (h'.push (seqObj "list" its.toArray 0)) h'.objs.size its) v b.2 as) its bs := e2.mono fun _ _ ⟨as, r⟩ => ⟨as, PyProof.Rows.Reads.keeps (fun b o e => sortingHeap_old (Nat.ne_of_lt (Heap.lt_size (kp b o e))) (Heap.get?_push_of_some _ (kp b o e))) r⟩
  refine wpAny_bind (wpAny_holding (wpAny_call_entry slot_list_sort ⟨_, hoL, rfl⟩ entry_list_sort (list_sort_vals (κ := dataKind (sortingHeap (h'.push (seqObj "list" its.toArray 0)) h'.objs.size its) (bs.map (·.2))) hoL
    (SortsAt.data (s := { s with heap := sortingHeap (h'.push (seqObj "list" its.toArray 0)) h'.objs.size its }) (each_map (R := fun v d => ∃ as, PySem.Reads (sortingHeap (h'.push (seqObj "list" its.toArray 0)) h'.objs.size its) v d as) (fun b : V × PyData => b.2) er') ha hk (bound_map fun b hb => ?_)) (by rw [hlen]; exact hz) ⟨.none, rfl, ?_⟩) (args_list_sort _)))
  · have := hdp b hb
    show X.A.units + 1 + 1 + b.2.depth < cLine
    omega
  have eo := sortVals_data (enc := fun b : V × PyData => b.2) false e1 er' ha
  generalize hout : sortVals (dataKind (sortingHeap (h'.push (seqObj "list" its.toArray 0)) h'.objs.size its) (bs.map (·.2))) false its its = out at *
  have ho2 : out.length = bs.length := by rw [← hout, sortVals_length false rfl]; exact hlen
  obtain ⟨ep, he'⟩ := PyProof.Rows.sortedHeap_at (vs := its) (out := out.toArray) hoL
  have vo := eachB eo
  have hlen2 : ((bs.mergeSort (dataLe false fun b : V × PyData => b.2)).map (·.1)).length ≤ sizeLine := by rw [List.length_map, List.length_mergeSort]; exact hz
  show wpAny _ _ _ _ _ _
  refine wpAny_pure ⟨_, rfl, .ref h'.objs.size, upd H h'.objs.size (.lst _), I1.laid (t' := s.toks) (fun b u e => ?_) (Nat.le_refl _)
    (show ObjOk X.prog X.w _ _ _ (.lst _) from ⟨hlen2, out, ep, vo, he'⟩), rfl, q _ (I1.hok.fresh (Nat.le_refl _))⟩
  rw [PyProof.Rows.sortedHeap_old (Nat.ne_of_lt (Heap.lt_size e)) (by rw [size_push']; exact Nat.lt_succ_of_lt (Heap.lt_size e))]
  exact Heap.get?_push_of_some _ e
theorem g_srtU {K : PySem.W.Frag} {H : Hp} {Q : VK} {a : Addr} {xs : List V} {ds : List PyData} (hs : SqT K H a xs) (hd : DaL H xs ds) (ha : PySem.W.AllAlike ds) (hk : PySem.W.Sortable ds) (hdp : ∀ d ∈ ds, d.depth ≤ 60)
    (c : ∀ p H' ys, H p = none → Fr [] H H' → H' p = some (.lst ys) → DaL H ys (srt ds) → Q (.ref p) H') : rSortDU K [.ref a] H Q := by
  obtain ⟨z1, z2, z3⟩ := hd.zip
  refine ⟨a, xs.zip ds, rfl, by rw [z1]; exact hs, z3, by rw [z2]; exact ha, by rw [z2]; exact hk, fun b hb => hdp b.2 (by rw [← z2]; exact List.mem_map.mpr ⟨b, hb, rfl⟩), fun p hp => ?_⟩
  have q := DaL.ofBs (H := H) (bs := (xs.zip ds).mergeSort (PySem.W.dataLe false (·.2))) fun b hb => z3 b ((List.mergeSort_perm _ _).mem_iff.mp hb)
  rw [srt_map (fun b : V × PyData => b.2), z2] at q
  exact c p _ _ hp (Fr.new hp) upd_same q
end Lw

namespace Lw
open PySem PySem.Spec PyProof.Rows L2
/-! ### a class whose __init__ may raise -/
structure CalCX (P : Program) (w : World) (K : PySem.W.Frag) (mg : Str → Option Value) (base : Heap) (x : Str) (C : Addr) (k : Nat) (ps : List Str) (sp : Sp) : Prop where
  ex : ∃ f fd, FnOk P w K mg base (L2.CX P w) k f fd ps sp ∧ Mk K C f ∧ mg x = some (.ref C) ∧ Binds K fd ps []
def rMkX (C : Addr) (sp : Sp) (W : XK) (vs : List V) (H1 : Hp) (Q : VK) : Prop := ∀ x dx, H1 x = none → H1 dx = none → dx ≠ x →
  sp (.ref x :: vs) (upd (upd H1 dx (.own x)) x (.ins C dx [])) (fun v H2 => v = .non ∧ Q (.ref x) H2) W
def tMkX (C : Addr) (sp : Sp) (W : WX) (t : TA) : TE := fun σ H Q => t σ H fun vs H1 => rMkX C sp (fun cls d H' => W cls d σ H') vs H1 Q
section
variable {X : Cx} {k : Nat} {f C : Addr} {fd : FuncData} {ps : List Str} {sp : Sp} {W : WX} {x : Str} {p pos : Pos} {e : Expr} {es : List Expr} {t : TA}
theorem run_makeX {pins : List (Addr × Obj)} {σ : L2.St} {H : Hp} {s : Shared} {Q : VK} {us : List Value} {vs : List V} (M : Mk X.K C f) (F : FnOk X.prog X.w X.K X.mg X.base (L2.CX X.prog X.w) k f fd ps sp) (hr : Room (k + 1) X.A) (hb : Binds X.K fd ps [])
    (tk : Takes X W) (I : Inv X pins σ H s) (r : Vals vs us) (h : rMkX C sp (fun cls d H' => W cls d σ H') vs H Q) : wpAny (model X.prog X.w) X.A (call (.ref C) us) (EP X pins σ Q) X.xe s := by
  have hq := h (s.heap.objs.size + 1) s.heap.objs.size (I.hok.fresh (Nat.le_succ _)) (I.hok.fresh (Nat.le_refl _)) (Nat.ne_of_lt (Nat.lt_succ_self _))
  have I2 := Inv.made (C := C) I
  have r2 : Vals (V.ref (s.heap.objs.size + 1) :: vs) (Value.ref (s.heap.objs.size + 1) :: us) := .cons rfl r
  have hl : (Value.ref (s.heap.objs.size + 1) :: us).length = ps.length := by
    have e := r2.length
    rw [F.len _ _ _ _ hq] at e
    exact e.symm
  refine wpAny_call (make_map (f := f) I.kIn M.makes M.init (beq_iff_eq.mp M.fn) (codeAny_mono (F.run _ X.stack _ _ ⟨Value.ref (s.heap.objs.size + 1) :: us, []⟩ (Value.ref (s.heap.objs.size + 1) :: us) _ _ (fun cls d H' => W cls d σ H') (hr.make C us [])
    (I2.env0.make C us []) (by simpa using hb _ (Value.ref (s.heap.objs.size + 1) :: us) I2.kIn (by simpa using hl)) r2 hq) fun r s' hq' => ?_))
  cases r with
  | error e => exact (passAt tk σ) pins _ _ e s' I2 hq'
  | ok fl =>
    cases fl with
    | ret u =>
      obtain ⟨v, H', I3, rv, ev, q3⟩ := I2.after hq'
      subst ev
      exact ⟨rv, ⟨V.ref (s.heap.objs.size + 1), H', I3, rfl, q3⟩⟩
    | next => exact False.elim hq'
    | brk => exact False.elim hq'
    | cont => exact False.elim hq'
theorem pe_mkX (cm : CalCX X.prog X.w X.K X.mg X.base x C k ps sp) (hr : Room (k + 1) X.A) (hg : Gl X x) (tk : Takes X W) (ha : PA X (e :: es) t) (hdb : (x == ("__debug__" : Str)) = false := by decide)
    (he : starEach (e :: es) X.env = (false, eval e X.env) :: starEach es X.env := by rfl) (hpl : (backTo pos (starEach es X.env)).any (·.1) = false := by rfl) :
    PE X (.Call (.Name x p) (e :: es) [] pos) (tMkX C sp W t) := by
  obtain ⟨f, fd, F, hM, hm, hb⟩ := cm.ex
  refine ⟨fun pins s σ H Q I h => ?_⟩
  refine wpAny_Call_Name_kw (ld_glob I hg hm ?_ hdb)
  refine PySem.W.callWith_K (h₀ := X.base) I.ok.mod.kin hM.kp (thn (ha.run pos pins s σ H _ I h) fun us s1 ⟨vs, H1, I1, r, q⟩ => ⟨I1.kIn, ?_⟩) he hpl
  exact run_makeX hM F hr hb tk I1 r q
theorem g_mkX {as : TA} {σ : L2.St} {H : Hp} {Q : VK} (h : as σ H (fun vs H1 => rMkX C sp (fun cls d H' => W cls d σ H') vs H1 Q)) : tMkX C sp W as σ H Q := h
theorem g_rmkX {vs : List V} {H : Hp} {Q : VK} {E : XK} (k : ∀ x dx H2, H x = none → H dx = none → dx ≠ x → Fr [] H H2 → H2 x = some (.ins C dx []) → H2 dx = some (.own x) → sp (.ref x :: vs) H2 (fun v H3 => v = .non ∧ Q (.ref x) H3) E) : rMkX C sp E vs H Q :=
  fun x dx hx hdx hne => k x dx _ hx hdx hne ((Fr.new hdx).then0 (Fr.new (by rw [upd_ne hne.symm]; exact hx))) upd_same (by rw [upd_ne hne]; exact upd_same)
end
/-! ### several except clauses with names -/
abbrev Hd := Value × Nat × (Addr → Value → Option Addr → TS)
def wManyAs (K : PySem.W.Frag) (Wout : WX) (D : Ends) : List Hd → WX
  | [] => Wout
  | (c, i, ts) :: r => fun cls d σ H => ∃ b, PySem.W.exmOne K cls c = some b ∧ (b = true → ∀ a, H a = none → ts a cls d { nx := fun σ' H' => D.nx (σ'.set i none) H', rt := D.rt, bk := fun σ' H' => D.bk (σ'.set i none) H', ct := fun σ' H' => D.ct (σ'.set i none) H' } (σ.set i (some (.ref a))) H) ∧
      (b = false → wManyAs K Wout D r cls d σ H)
inductive HdsAs (X : Cx) : List ExceptHandler → List Hd → Prop
  | nil : HdsAs X [] []
  | cons {x n : Str} {c : Value} {i : Nat} {ts : Addr → Value → Option Addr → TS} {b₀ : Stmt} {suite : List Stmt} {np pos' : Pos} {hds : List ExceptHandler} {l : List Hd} (hi : X.N[i]? = some n) (hln : X.env.kindOf n = some .local) (hc : Names X x c)
      (hsu : ∀ (a : Addr) (oe : Obj) (cls : Value) (d : Option Addr) (pn : List (Addr × Obj)), Zc cls d oe → (∃ vs, oe.data = .fields vs) → PSs (X.suite a ((a, oe) :: pn)) (b₀ :: suite) (ts a cls d)) (r : HdsAs X hds l) :
      HdsAs X (.ExceptHandler (some (.Name x np)) (some n) (b₀ :: suite) pos' :: hds) ((c, i, ts) :: l)
def tTryManyAs (K : PySem.W.Frag) (tb : WX → TS) (l : List Hd) (Wout : WX) : TS := fun D σ H => tb (wManyAs K Wout D l) D σ H
section
variable {X : Cx} {body : List Stmt} {h₀ : ExceptHandler} {hds : List ExceptHandler} {l : List Hd} {pos : Pos} {tb : WX → TS} {Wout : WX}
theorem ps_try_manyAs (hs : X.stack = X.env :: X.outer) (hf : X.env.frame = some X.env.locals) (hN : X.N.Nodup) (tk : Takes X Wout)
    (hb : ∀ (W : WX) (pn : List (Addr × Obj)) (xe : Value → Shared → Prop), Takes (X.tr pn xe) W → PassesOwn (model X.prog X.w) X.A X.env xe → PSs (X.tr pn xe) body (tb W))
    (hh : HdsAs X (h₀ :: hds) l) : PS X (.Try body (h₀ :: hds) [] [] pos) (tTryManyAs X.K tb l Wout) := by
  refine ⟨fun pins s σ H D I h => ?_⟩
  have ok := I.ok
  have hfr : X.A.frames = some (X.env :: X.outer) := by rw [ok.frames, hs]
  refine wpAny_Try_except ?_
  refine wpAny_mono ((hb (wManyAs X.K Wout D l) (X.pn ++ pins) (fun e s₁ => wpAny (model X.prog X.w) X.A (noteFrame e X.env) (fun _ s₂ => wpAny (model X.prog X.w) X.A (setFlight e none) (fun _ s₃ =>
    wpAny (model X.prog X.w) X.A (handleBy e X.env (h₀ :: hds)) (SP X pins D) X.xe s₃) X.xe s₂) X.xe s₁) (fun u s' xx => ?_) PassesOwn.looking).run [] s σ H D (I.toTry _) h) (fun f s1 hsp => ?_) (fun e s1 he => he)
  · obtain ⟨a, B, sI, pins', σ', H', cls, d, rfl, J', nb, up, sky, na, os, ag, w⟩ := xx
    have J : Inv X pins σ' H' sI := J'.ofTry ok
    have sky' : Sky B (X.env :: X.outer) a (Zc cls d) X.env.locals s'.heap := by rw [← hs]; exact sky
    show wpAny (model X.prog X.w) X.A (noteFrame (.ref a) X.env) _ _ _
    refine Sky.land Zc.steady hfr hf sky' fun h3 fl3 up3 => ?_
    have J3 : Inv X pins σ' H' { s' with heap := h3 } := J.landed nb fl3.1 (up.trans up3) os ag
    obtain ⟨oe3, vs3, he3, hz3, hd3⟩ := fl3.there
    have notFr : ∀ {h : Heap} {o : Obj} {vs : Array Value}, h.FunFrames B (X.env :: X.outer) → h.get? a = some o → o.data = .fields vs → a ∉ frs (X.env :: X.outer) := fun {h o vs} ff e dd hm => by
      obtain ⟨_, o', e', hnf⟩ := ff.mem hm
      rw [e] at e'; cases e'
      exact hnf _ dd
    have nfr := notFr fl3.2.2.1 he3 hd3
    have nL : a ≠ X.env.locals := fun z => nfr (List.mem_filterMap.mpr ⟨X.env, List.mem_cons_self, by rw [hf, z]⟩)
    have nF : a ∉ X.fs := fun hm => by
      obtain ⟨e, he, q⟩ := List.mem_filterMap.mp hm
      exact nfr (List.mem_filterMap.mpr ⟨e, List.mem_cons_of_mem _ he, q⟩)
    have S3 := J3.suite he3 hd3 na nL nF
    have go : ∀ {hds' : List ExceptHandler} {l' : List Hd}, HdsAs X hds' l' → wManyAs X.K Wout D l' cls d σ' H' →
        wpAny (model X.prog X.w) X.A (handleBy (.ref a) X.env hds') (SP X pins D) X.xe { s' with heap := h3 } := by
      intro hds' l' hk
      induction hk with
      | nil =>
        intro w
        refine wpAny_handleBy_nil ?_
        obtain ⟨k1, k2, k3, oe, vs, T, oT, ts', he, hz, hd, h1, hr⟩ := id fl3
        unfold PySem.passOn
        refine wpAny_bind (wpAny_field he hd h1 ?_)
        rw [if_neg (show ¬ ((Value.ref T == Value.none) = true) from by simp)]
        have fin : wpAny (model X.prog X.w) X.A (setFlight (.ref a) X.env.frame) (fun _ s4 => wpAny (model X.prog X.w) X.A (throw (.ref a) : Sem Flow) (SP X pins D) X.xe s4) X.xe { s' with heap := h3 } := by
          rw [hf]
          refine HandSPX.setFlight_upZ fl3 fun h4 hh4 up4 => wpAny_throw (tk _ _ ?_)
          exact ⟨a, B, sI, pins, σ', H', cls, d, rfl, J, nb, (up.trans up3).trans up4, .inr (.inr (by rw [hs]; exact hh4)), na, os, ag, w⟩
        first
          | exact wpAny_bind (wpAny_pure (wpAny_bind fin))
          | exact wpAny_bind fin
      | @cons x n c i ts b₀ suite np pos' hds2 l2 hi hln hc hsu r ih =>
        intro w
        have hloc : Loc X.env.scope n := .inl hln
        obtain ⟨b, hb1, hyes, hno⟩ := w
        refine wpAny_handleBy_cons (codeAny_handlers_test ?_) (by intro q; cases q)
        have LT : PySem.W.Looks (model X.prog X.w) h3 (typeOf (.ref a)) cls := fun A Q E s k q => wpAny_typeOf_ref (k _ _ he3) (by rw [hz3.1]; exact q)
        have LM := PySem.W.exm_one (M := model X.prog X.w) (J3.kIn) LT hb1
        have test : ∀ {Q : Value → Shared → Prop} {E : Value → Shared → Prop}, Q c { s' with heap := h3 } → wpAny (model X.prog X.w) (X.A.mark (some (.ref a))) (eval (.Name x np) X.env) Q E { s' with heap := h3 } := fun {Q E} q => by
          obtain ⟨hg, hdbg, hm | ⟨hm, hv, hnn⟩⟩ := hc
          · exact ld_glob (X := X.suite a ((a, oe3) :: (X.pn ++ pins))) S3 hg hm q hdbg
          · exact ld_blt (X := X.suite a ((a, oe3) :: (X.pn ++ pins))) S3 hg hm hv q hnn hdbg
        refine test (LM.here ?_)
        cases b with
        | true =>
          refine codeAny_handlers_suite_as ?_
          refine HandSPX.lands_againZ fl3 fun h4 fl4 up4 => ?_
          have J4 : Inv X pins σ' H' { s' with heap := h4 } := J.landed nb fl4.1 ((up.trans up3).trans up4) os ag
          obtain ⟨oe4, vs4, he4, hz4, hd4⟩ := fl4.there
          have S4 := J4.suite he4 hd4 na nL nF
          refine store_ok (X := X.suite a ((a, oe4) :: (X.pn ++ pins))) (v := .ref a) S4 hN hi hloc rfl (fun s5 S5 => ?_) (.inr hln)
          refine wpAny_mono ((hsu a oe4 cls d (X.pn ++ pins) hz4 ⟨_, hd4⟩).run [] s5 _ H' _ S5 (hyes rfl a na)) (fun f s6 hsp => ?_) (fun _ _ z => False.elim z)
          have end_ : ∀ {σ6 : L2.St} {H6 : Hp} {Q : Shared → Prop}, Inv (X.suite a ((a, oe4) :: (X.pn ++ pins))) [] σ6 H6 s6 → (∀ s7, Inv X pins (σ6.set i none) H6 s7 → Q s7) →
              wpAny (model X.prog X.w) X.A (do bindName X.env n .none; unbindBehindTheSuite X.env n pos') (fun _ s7 => Q s7) X.xe s6 := fun {σ6 H6 Q} S6 hq => gone_ok (S6.unsuite ok) hN hi hln hq
          cases f with
          | next =>
            obtain ⟨σ6, H6, S6, q6⟩ := hsp
            exact end_ S6 fun s7 J7 => ⟨_, _, J7, q6⟩
          | brk =>
            obtain ⟨σ6, H6, S6, q6⟩ := hsp
            exact end_ S6 fun s7 J7 => ⟨_, _, J7, q6⟩
          | cont =>
            obtain ⟨σ6, H6, S6, q6⟩ := hsp
            exact end_ S6 fun s7 J7 => ⟨_, _, J7, q6⟩
          | ret u =>
            obtain ⟨v6, σ6, H6, S6, r6, q6⟩ := hsp
            exact end_ S6 fun s7 J7 => ⟨_, _, _, J7, r6, q6⟩
        | false =>
          show wpAny _ X.A (handleBy (.ref a) X.env hds2) _ _ _
          exact ih (hno rfl)
    exact go hh w
  · cases f with
    | next =>
      obtain ⟨σ', H', J', q⟩ := hsp
      exact wpAny_execs_nil ⟨σ', H', J'.ofTry ok, q⟩
    | brk =>
      obtain ⟨σ', H', J', q⟩ := hsp
      exact ⟨σ', H', J'.ofTry ok, q⟩
    | cont =>
      obtain ⟨σ', H', J', q⟩ := hsp
      exact ⟨σ', H', J'.ofTry ok, q⟩
    | ret u =>
      obtain ⟨v, σ', H', J', r, q⟩ := hsp
      exact ⟨v, σ', H', J'.ofTry ok, r, q⟩
end
/-! ### a def that is never reached -/
theorem never {P : Program} {w : World} {K : PySem.W.Frag} {mg : Str → Option Value} {base : Heap} {CX : CXT} {k : Nat} {f : Addr} {fd : FuncData} {ps : List Str} {sp : Sp} (h : ∀ vs H Q E, sp vs H Q E → False := by intro vs H Q E h; simp_all) : FnOk P w K mg base CX k f fd ps sp :=
  ⟨fun vs H Q E q => (h vs H Q E q).elim, fun _ _ _ H _ _ vs Q E _ _ _ _ q => (h vs H Q E q).elim⟩
end Lw

namespace Lw
open PySem PySem.W L2
/-! ### any(..) of a list of lists -/
section
variable {prog : Program} {w : World} {A : Around} {R : Result → Shared → Prop} {I : Addr} {fp wr : List Addr} {n : Nat} {P : Nat → Value → Prop} {St : Nat → Heap → Prop}
def TruthSt (prog : Program) (w : World) (A : Around) (P : Nat → Value → Prop) (St : Nat → Heap → Prop) (tr : Nat → Bool) : Prop :=
  ∀ i v (s : Shared) (Q : Bool → Shared → Prop) (E : Value → Shared → Prop), P i v → St (i + 1) s.heap → (∀ tk, Q (tr i) { s with toks := tk }) → wpAny (model prog w) A (truthy v) Q E s
theorem codeAny_any_loopT (W : Walks prog w A.in1 I fp wr n P St) (tr : Nat → Bool) (htr : TruthSt prog w A.in1 P St tr) : ∀ (k i : Nat) (s : Shared), n - i = k → i ≤ n → St i s.heap →
    (∀ h' tk, (∀ b o, b ∉ wr → s.heap.get? b = some o → h'.get? b = some o) → R (.ok (.ret (.bool (((List.range n).drop i).any tr)))) { s with heap := h', toks := tk }) →
    codeAny (model prog w) A (.builtin "any.loop" ⟨[.ref I], []⟩) R s := by
  intro k
  induction k with
  | zero =>
    intro i s hk hi hst hR
    have hin : i = n := by omega
    subst hin
    refine codeAny_builtin F.entry_any_loop ?_
    rw [Around.under_plainId F.plain_any_loop _]
    show wpAny _ A.in1 (pyNext (.ref I) >>= _) _ _ s
    refine wpAny_bind (W.done s _ _ hst fun h' tk hk' => ?_)
    refine wpAny_bind (wpAny_rule (wpAny_pure ?_))
    have := hR h' tk hk'
    rw [List.drop_of_length_le (by simp)] at this
    exact this
  | succ k ih =>
    intro i s hk hi hst hR
    have hlt : i < n := by omega
    have hd : (List.range n).drop i = i :: (List.range n).drop (i + 1) := by
      rw [List.drop_eq_getElem_cons (by simpa using hlt)]; simp
    refine codeAny_builtin F.entry_any_loop ?_
    rw [Around.under_plainId F.plain_any_loop _]
    show wpAny _ A.in1 (pyNext (.ref I) >>= _) _ _ s
    refine wpAny_bind (W.item i s _ _ hlt hst fun v h' tk hP hst' hk' => ?_)
    refine wpAny_bind (wpAny_holding (htr i v _ _ _ hP hst' fun tk2 => ?_))
    refine wpAny_bind (wpAny_letGo ?_)
    cases hb : tr i with
    | false =>
      simp only [Bool.false_eq_true, if_false]
      refine wpAny_pure ⟨plainId_quiet F.plain_any_loop _, ih (i + 1) _ (by omega) hlt hst' fun h'' tk'' hk'' => ?_⟩
      have := hR h'' tk'' fun b o hbw e => hk'' b o hbw (hk' b o hbw e)
      rw [hd, List.any_cons, hb, Bool.false_or] at this
      exact this
    | true =>
      simp only [if_true]
      refine wpAny_bind (wpAny_rule (wpAny_pure ?_))
      have := hR h' tk2 hk'
      rw [hd, List.any_cons, hb, Bool.true_or] at this
      exact this
theorem Walks.keepR (W : Walks prog w A I fp wr n P St) (R : Heap → Prop) (fq : List Addr) (hd : ∀ b ∈ fq, b ∉ wr) (hR : ∀ h h' : Heap, R h → (∀ b ∈ fq, ∀ o, h.get? b = some o → h'.get? b = some o) → R h') :
    Walks prog w A I (fp ++ fq) wr n P (fun i h => St i h ∧ R h) where
  sub := fun b hb => List.mem_append_left _ (W.sub b hb)
  frame := fun i h h' st k => ⟨W.frame i h h' st.1 fun b hb => k b (List.mem_append_left _ hb), hR h h' st.2 fun b hb => k b (List.mem_append_right _ hb)⟩
  item := fun i s Q E hi st q => W.item i s Q E hi st.1 fun v h' tk p st' k => q v h' tk p ⟨st', hR _ _ st.2 fun b hb o e => k b o (hd b hb) e⟩ k
  done := fun s Q E st q => W.done s Q E st.1 q
  self := fun i s Q E st q => W.self i s Q E st.1 q
end
theorem call_any_walkT {prog : Program} {w : World} {A : Around} {E : Value → Shared → Prop} {s : Shared} {x : Value} {Q : Value → Shared → Prop}
    (h : wpAny (model prog w) A.in1 (pyIter x) (fun it s₂ => ∃ I fp wr n P St tr, it = .ref I ∧ Walks prog w A.in1 I fp wr n P St ∧ St 0 s₂.heap ∧ TruthSt prog w A.in1 P St tr ∧
      ∀ h' tk, (∀ b o, b ∉ wr → s₂.heap.get? b = some o → h'.get? b = some o) → Q (.bool ((List.range n).any tr)) { s₂ with heap := h', toks := tk }) E s) :
    wpAny (model prog w) A (call (.builtin "any") [x]) Q E s := by
  refine call_function_tree F.kind_any F.plain_any F.entry_any (F.args_any1 _) ?_
  unfold Builtin.«any»
  refine wpAny_bind (m := oneArg "any" _) (wpAny_pure ?_)
  refine wpAny_bind (wpAny_mono h (fun it s₂ h₂ => ?_) fun _ _ e => e)
  obtain ⟨I, fp, wr, n, P, St, tr, rfl, W, hst, htr, hQ⟩ := h₂
  exact wpAny_pure ⟨plainId_quiet F.plain_any_loop _, codeAny_any_loopT W tr htr n 0 s₂ rfl (Nat.zero_le _) hst fun h' tk hk => by simpa using hQ h' tk hk⟩
def rAnyLs (K : PySem.W.Frag) : List V → Hp → VK → Prop := fun vs H Q => ∃ (a : Addr) (rs : List Addr) (bs : List Bool), vs = [V.ref a] ∧ SqL K H a (rs.map V.ref) ∧ bs.length = rs.length ∧
  (∀ (i : Nat) (r : Addr) (b : Bool), rs[i]? = some r → bs[i]? = some b → ∃ xs, H r = some (.lst xs) ∧ b = !xs.isEmpty) ∧ Q (.bl (bs.any id)) H
theorem call_anyLs {X : Cx} (hc : X.calm = true) : CallR X (.builtin "any") (rAnyLs X.K) := by
  intro pins s σ H vs us Q I r h
  obtain ⟨a, rs, bs, rfl, hs, hl2, hb, q⟩ := h
  obtain ⟨its, rv, hl, _⟩ := I.list hs
  rw [Vals.ref1 r]
  have hlen := rv.length
  rw [List.length_map] at hlen
  have hit : ∀ (i : Nat) (v : Value), its[i]? = some v → ∃ p : Addr, rs[i]? = some p ∧ v = Value.ref p := by
    have gen : ∀ (rs : List Addr) (its : List Value), Vals (rs.map V.ref) its → ∀ (i : Nat) (v : Value), its[i]? = some v → ∃ p : Addr, rs[i]? = some p ∧ v = Value.ref p := by
      intro rs
      induction rs with
      | nil => intro its h i v e; cases h; simp at e
      | cons p ps ih =>
        intro its h i v e
        cases h with
        | cons h1 h2 =>
          cases i with
          | zero =>
            have e' := Option.some.inj e
            subst e'
            exact ⟨p, rfl, h1⟩
          | succ i =>
            obtain ⟨p', e1, e2⟩ := ih _ h2 i v (by simpa using e)
            exact ⟨p', by simpa using e1, e2⟩
    exact gen rs its rv
  have hnew : ∀ p ∈ rs, p ≠ s.heap.objs.size := fun p hp z => by
    obtain ⟨i, hi⟩ := List.getElem?_of_mem hp
    have hlt : i < bs.length := by rw [hl2]; exact (List.getElem?_eq_some_iff.mp hi).1
    obtain ⟨xs, e, _⟩ := hb i p bs[i] hi (List.getElem?_eq_getElem hlt)
    obtain ⟨its2, _, pl, _⟩ := I.list (SqL.of e)
    obtain ⟨_, e2, _⟩ := pl.isList
    exact absurd (z ▸ Heap.lt_size e2) (Nat.lt_irrefl _)
  refine call_any_walkT (iter_any hl.isList fun s₂ e2 st hne => ?_)
  subst e2
  have W := Lw.Walks.keepR (Walks.list (prog := X.prog) (w := X.w) (A := X.A.in1) (I.ok.hd hc) s.heap.objs.size a hne its.toArray) (fun h => ∀ p ∈ rs, ∀ its', s.heap.IsList p its' → h.IsList p its') rs
    (fun b hb2 hm => by rcases List.mem_cons.mp hm with z | z; exact hnew b hb2 z; cases z)
    (fun h h' hr k p hp its' hi => (hr p hp its' hi).at fun o e => k p hp o e)
  refine ⟨_, _, _, _, _, _, fun i => bs.getD i false, rfl, W, ⟨st, fun p hp its' hi => hi.at fun o eo => Heap.get?_push_of_some _ eo⟩, fun i v s3 Q3 E3 hv hst hQ => ?_, fun h' tk hk => ?_⟩
  · have hv' : its[i]? = some v := by simpa using hv
    obtain ⟨p, hp, rfl⟩ := hit i v hv'
    have hlt : i < bs.length := by rw [hl2]; exact (List.getElem?_eq_some_iff.mp hp).1
    have hbi : bs[i]? = some bs[i] := List.getElem?_eq_getElem hlt
    obtain ⟨xs, e, eb⟩ := hb i p _ hp hbi
    obtain ⟨its2, r2, pl, hz⟩ := I.list (SqL.of e)
    have hlen2 := r2.length
    have hs0 := sizeLine_eq
    have key := hst.2 p (List.mem_of_getElem? hp) _ pl.isList
    refine wpAny_truthy_list key (by simp only [List.size_toArray]; omega) ?_
    have h2 := hQ (s3.toks + 1 + 1)
    have e3 : bs.getD i false = !its2.toArray.isEmpty := by rw [List.getD_eq_getElem?_getD, hbi, isEmpty_of r2, ← eb]; rfl
    rw [← e3]
    exact h2
  · refine ⟨.bl _, H, I.kept fun b o eo => hk b o (fun hmem => ?_) (Heap.get?_push_of_some _ eo), ?_, q⟩
    · rcases List.mem_cons.mp hmem with e1 | hmem
      · exact absurd (e1 ▸ Heap.lt_size eo) (Nat.lt_irrefl _)
      · cases hmem
    · show Value.bool _ = Value.bool _
      rw [← any_range, List.size_toArray, ← hlen, hl2]
theorem g_anyLs {K : PySem.W.Frag} {H : Hp} {Q : VK} {a : Addr} {rs : List Addr} {bs : List Bool} (hs : SqL K H a (rs.map V.ref)) (hl : bs.length = rs.length) (hb : ∀ (i : Nat) (r : Addr) (b : Bool), rs[i]? = some r → bs[i]? = some b → ∃ xs, H r = some (.lst xs) ∧ b = !xs.isEmpty) (q : Q (.bl (bs.any id)) H) : rAnyLs K [.ref a] H Q := ⟨a, rs, bs, rfl, hs, hl, hb, q⟩
/-! xs[::-1], xs * n -/
section
variable {K : PySem.W.Frag} {σ : L2.St} {H : Hp} {Q : VK} {te : TE} {a : Addr} {xs : List V}
def rRevL (K : PySem.W.Frag) (x : V) (H : Hp) (Q : VK) : Prop := ∃ a xs, x = V.ref a ∧ SqL K H a xs ∧ ∀ p, H p = none → Q (.ref p) (upd H p (.lst xs.reverse))
theorem g_revL (h : te σ H fun x H1 => rRevL K x H1 Q) : tRevL K te σ H Q := h
theorem g_rrevL (h : SqL K H a xs) (q : ∀ p H', H p = none → Fr [] H H' → H' p = some (.lst xs.reverse) → Q (.ref p) H') : rRevL K (.ref a) H Q := ⟨a, xs, rfl, h, fun p hp => q p _ hp (Fr.new hp) upd_same⟩
theorem g_rep {k : Int} (h : H a = some (.lst xs)) (h1 : -(2 ^ 63) ≤ k ∧ k < 2 ^ 63) (hz : xs.length * k.toNat ≤ 1000000) (q : ∀ p H', H p = none → Fr [] H H' → H' p = some (.lst (List.replicate k.toNat xs).flatten) → Q (.ref p) H') : rRep (.ref a) (.int k) H Q :=
  ⟨a, k, xs, rfl, rfl, h, h1.1, h1.2, szL hz, fun p hp => q p _ hp (Fr.new hp) upd_same⟩
end
/-! list(range(n)) -/
section
variable {σ : L2.St} {H : Hp} {Q : VK} {ta : TE} {a : Int}
def rLRg1 (x : V) (H : Hp) (Q : VK) : Prop := ∃ n, x = V.int n ∧ RgOk 0 n ∧ ∀ q, H q = none → Q (.ref q) (upd H q (.lst (rgV 0 n)))
theorem g_lstRg1 (h : ta σ H fun x H1 => rLRg1 x H1 Q) : tLstRg (tRg1 ta) σ H Q := h
theorem g_rlrg1 (ok : RgOk 0 a) (c : ∀ p H', H p = none → Fr [] H H' → H' p = some (.lst (rgV 0 a)) → Q (.ref p) H') : rLRg1 (.int a) H Q := ⟨a, rfl, ok, fun p hp => c p _ hp (Fr.new hp) upd_same⟩
end
theorem rgV_0 (n : Nat) : rgV 0 (n : Int) = (List.range n).map fun i : Nat => V.int (i : Int) := by
  unfold rgV
  rw [show ((n : Int) - 0).toNat = n by omega]
  refine List.map_congr_left fun i _ => ?_
  rw [Int.zero_add]
end Lw

namespace Toy
open PySem L2 Lw

/-! ### the steps as one word each -/
local macro_rules | `(tactic| walk_at "ne") => `(tactic| first
  | assumption | exact Ne.symm (by assumption)
  | ((refine' ne_of_none ?h (by assumption)); (first | (case h => walk_at "fact") | fail))
  | ((refine' Ne.symm (ne_of_none ?h (by assumption))); (first | (case h => walk_at "fact") | fail))
  | walk_at "ne2")
local macro_rules | `(tactic| walk_at "nin") => `(tactic| first | exact nin0 | (refine nin1 ?_ ?_; walk_at "ne"; walk_at "nin") | assumption)
local macro_rules | `(tactic| walk_at "fact") => `(tactic| first
  | assumption
  | ((refine' Fr.tupAt (by assumption) ?h); (first | (case h => walk_at "fact") | fail))
  | ((refine' Fr.at0 (by assumption) ?h); (first | (case h => walk_at "fact") | fail))
  | ((refine' Fr.at (by assumption) ?h ?k); (first | (case h => walk_at "fact") | fail); (first | (case k => walk_at "nin") | fail)))
local macro_rules | `(tactic| walk_at "none") => `(tactic| first
  | assumption
  | ((refine' Fr.freeL (by assumption) ?h ?k); (first | (case h => walk_at "none") | fail); (first | (case k => walk_at "nin") | fail)))
local macro_rules | `(tactic| walk_at "mem") => `(tactic| first
  | assumption | exact List.mem_cons_self
  | (refine List.mem_cons_of_mem _ ?_; walk_at "mem"))
local macro_rules | `(tactic| walk_at "frn") => `(tactic| first
  | exact frn0
  | (refine frn1 ?_ ?_; (first | exact Or.inl (by walk_at "mem") | exact Or.inr (by walk_at "none")); walk_at "frn"))
local macro_rules | `(tactic| walk_at "fr") => `(tactic| first
  | assumption
  | exact Fr.refl
  | ((refine' Fr.own ?h (by assumption) ?k); (first | (case h => walk_at "fr") | fail); (first | (case k => walk_at "frn") | fail))
  | (refine Fr.of0 ?_; walk_at "fr"))
local macro_rules | `(tactic| walk_at "sz") => `(tactic| first | exact szM (by omega) | exact szM (by simp only [List.length_map, List.length_append, List.length_cons, List.length_nil]; omega))
local macro_rules | `(tactic| walk_at "sql") => `(tactic| first
  | assumption
  | exact SqL.of (by walk_at "fact")
  | ((refine' Fr.sql (by assumption) ?h ?k); (first | (case h => walk_at "sql") | fail); (first | (case k => walk_at "nin") | fail)))
local macro_rules | `(tactic| walk_at "sqt") => `(tactic| first
  | assumption
  | exact SqT.of (by walk_at "fact"))
local macro_rules | `(tactic| walk_at "ty") => `(tactic| first
  | assumption
  | exact TyX.base TyOf.non
  | exact TyX.base (TyOf.int _)
  | exact TyX.base (TyOf.bl _)
  | exact TyX.base (TyOf.str _)
  | exact TyX.base (TyOf.lst (by walk_at "fact"))
  | exact TyX.base (TyOf.tup (by walk_at "fact"))
  | exact TyX.base (TyOf.dK (by walk_at "fact"))
  | exact TyX.base (TyOf.dT (by walk_at "fact")))
local macro_rules | `(tactic| walk_at "kb") => `(tactic| first | exact kb_NoneType_list | exact kb_NoneType_tuple | exact kb_NoneType_bool | exact kb_NoneType_int | exact kb_NoneType_str | exact kb_NoneType_dict | exact kb_bool_list | exact kb_bool_tuple | exact kb_bool_bool | exact kb_bool_int | exact kb_bool_str | exact kb_bool_dict | exact kb_int_list | exact kb_int_tuple | exact kb_int_bool | exact kb_int_int | exact kb_int_str | exact kb_int_dict | exact kb_str_list | exact kb_str_tuple | exact kb_str_bool | exact kb_str_int | exact kb_str_str | exact kb_str_dict | exact kb_list_list | exact kb_list_tuple | exact kb_list_bool | exact kb_list_int | exact kb_list_str | exact kb_list_dict | exact kb_tuple_list | exact kb_tuple_tuple | exact kb_tuple_bool | exact kb_tuple_int | exact kb_tuple_str | exact kb_tuple_dict | exact kb_dict_list | exact kb_dict_tuple | exact kb_dict_bool | exact kb_dict_int | exact kb_dict_str | exact kb_dict_dict)
local macro_rules | `(tactic| walk_at "new") => `(tactic| intro _ _ _ _ _)
local macro_rules | `(tactic| walk_at "go1") => `(tactic| first
  | with_reducible refine g_seq ?_
  | with_reducible refine g_asg ?_
  | with_reducible refine g_name ?_
  | with_reducible refine g_drop ?_
  | with_reducible refine g_ret ?_
  | with_reducible refine g_for ?_
  | with_reducible refine g_lc ?_
  | with_reducible refine g_iL ?_
  | with_reducible refine g_iT ?_
  | with_reducible refine g_i1 ?_
  | with_reducible refine g_i2 ?_
  | with_reducible refine g_yes ?_
  | with_reducible refine g_ttr ?_
  | ((with_reducible refine' g_riL ?h ?_); (first | (case h => walk_at "sql") | fail))
  | ((with_reducible refine' g_riT ?h ?_); (first | (case h => walk_at "sqt") | fail))
  | ((with_reducible refine' g_ri1 ?h ?_); (first | (case h => (first | exact ⟨by decide, by decide⟩ | exact ⟨by omega, by omega⟩ | exact ⟨by simp only [List.length_map]; omega, by simp only [List.length_map]; omega⟩)) | fail))
  | ((with_reducible refine' g_ri2 ?h ?_); (first | (case h => (first | exact ⟨by decide, by decide, by decide, by decide⟩ | exact ⟨by omega, by omega, by omega, by omega⟩)) | fail))
  | with_reducible refine g_retN ?_
  | with_reducible refine g_next ?_
  | with_reducible refine g_cont ?_
  | with_reducible refine g_brk ?_
  | with_reducible refine g_ifs ?_
  | with_reducible refine g_test ?_
  | with_reducible refine g_tb ?_
  | with_reducible refine g_and ?_
  | with_reducible refine g_or ?_
  | with_reducible refine g_not ?_
  | with_reducible refine g_andV ?_
  | with_reducible refine g_orV ?_
  | with_reducible refine g_notV ?_
  | with_reducible refine g_ifE ?_
  | ((with_reducible refine' g_var ?h ?_); (first | (case h => exact rfl) | fail))
  | with_reducible refine g_c ?_
  | with_reducible refine g_op ?_
  | with_reducible refine g_cb ?_
  | with_reducible refine g_cl ?_
  | with_reducible refine g_nil ?_
  | with_reducible refine g_cons ?_
  | with_reducible refine g_tup ?_
  | with_reducible refine g_lst ?_
  | with_reducible refine g_fld ?_
  | with_reducible refine g_sfld ?_
  | with_reducible refine g_sub1 ?_
  | with_reducible refine g_flda ?_
  | with_reducible refine g_rAdd ?_
  | with_reducible refine g_rSub ?_
  | ((with_reducible refine' g_rfldb ?h ?l ?e ?_); (first | (case h => walk_at "fact") | fail); (first | (case l => exact Nat.le_of_ble_eq_true rfl) | fail); (first | (case e => exact rfl) | fail); intro _ _ _)
  | with_reducible refine g_mt ?_
  | with_reducible refine g_mk ?_
  | ((with_reducible refine g_rmk ?_); intro _ _ _ _ _ _ _ _ _)
  | with_reducible refine g_bm ?_
  | with_reducible refine g_bm0 ?_
  | with_reducible refine g_bl ?_
  | with_reducible refine g_add ?_
  | with_reducible refine g_sub ?_
  | with_reducible refine g_lt ?_
  | with_reducible refine g_le ?_
  | with_reducible refine g_gt ?_
  | with_reducible refine g_ge ?_
  | with_reducible refine g_eqI ?_
  | with_reducible refine g_neI ?_
  | with_reducible refine g_eqS ?_
  | with_reducible refine g_neS ?_
  | with_reducible refine g_eqB ?_
  | with_reducible refine g_isN ?_
  | with_reducible refine g_notN ?_
  | with_reducible refine g_max2 ?_
  | with_reducible refine g_min2 ?_
  | with_reducible refine g_ipI ?_
  | with_reducible refine g_iteT ?_
  | with_reducible refine g_iteF ?_
  | with_reducible refine g_iteNT ?_
  | with_reducible refine g_iteNF ?_
  | ((with_reducible refine' g_aug ?h ?_); (first | (case h => exact rfl) | fail))
  | ((with_reducible refine' g_mod ?h ?_); (first | (case h => (first | decide | omega | assumption | (simp only [List.length_map]; omega))) | fail))
  | ((with_reducible refine' g_div ?h ?_); (first | (case h => (first | exact ⟨by decide, by decide⟩ | assumption)) | fail))
  | ((with_reducible refine' g_pow ?h ?_); (first | (case h => (first | exact ⟨by decide, by decide, by decide⟩ | assumption)) | fail))
  | ((with_reducible refine' g_mul ?h ?_); (first | (case h => (first | exact Or.inr ⟨by decide, by decide⟩ | exact Or.inl ⟨by decide, by decide⟩ | exact Or.inr ⟨by omega, by omega⟩ | exact Or.inl ⟨by omega, by omega⟩ | assumption)) | fail))
  | ((with_reducible refine' g_newT ?h ?_); (first | (case h => exact Nat.le_of_ble_eq_true rfl) | fail); walk_at "new")
  | ((with_reducible refine' g_newL ?h ?_); (first | (case h => exact Nat.le_of_ble_eq_true rfl) | fail); walk_at "new")
  | ((with_reducible refine' g_lenL ?h ?_); (first | (case h => walk_at "sql") | fail))
  | ((with_reducible refine' g_lenT ?h ?_); (first | (case h => walk_at "sqt") | fail))
  | ((with_reducible refine' g_ixL ?h ?k ?_); (first | (case h => walk_at "sql") | fail); (first | (case k => exact rfl) | fail))
  | ((with_reducible refine' g_ixT ?h ?k ?_); (first | (case h => walk_at "sqt") | fail); (first | (case k => exact rfl) | fail))
  | ((with_reducible refine' g_listL ?h ?_); (first | (case h => walk_at "sql") | fail); walk_at "new")
  | ((with_reducible refine' g_listT ?h ?_); (first | (case h => walk_at "sqt") | fail); walk_at "new")
  | ((with_reducible refine' g_tupL ?h ?_); (first | (case h => walk_at "sql") | fail); walk_at "new")
  | ((with_reducible refine' g_bmL ?h ?_); (first | (case h => walk_at "fact") | fail))
  | ((with_reducible refine' g_isi ?h ?k ?_); (first | (case h => walk_at "ty") | fail); (first | (case k => walk_at "kb") | fail))
  | ((with_reducible refine' g_append ?h ?l ?_); (first | (case h => walk_at "fact") | fail); (first | (case l => walk_at "sz") | fail); intro _ _ _)
  | ((with_reducible refine' g_rmt ?h ?l ?_); (first | (case h => walk_at "fact") | fail); (first | (case l => exact rfl) | fail))
  | with_reducible refine g_sl ?_
  | with_reducible refine g_noP ?_
  | with_reducible refine g_part ?_
  | with_reducible refine g_rpart ?_
  | ((with_reducible refine' g_slL ?h ?_); (first | (case h => walk_at "sql") | fail); walk_at "new")
  | walk_at "go2"
  | walk_at "go3"
  | walk_at "go4"
  | walk_at "own")
local macro_rules | `(tactic| walk_at "go") => `(tactic| repeat walk_at "go1")
local macro_rules | `(tactic| walk_at "rdt") => `(tactic| first
  | exact Or.inl (by walk_at "fact")
  | exact Or.inr ⟨_, by walk_at "fact"⟩)
local macro_rules | `(tactic| walk_at "go2") => `(tactic| first
  | with_reducible refine g_dget ?_
  | with_reducible refine g_din ?_
  | with_reducible refine g_dnin ?_
  | with_reducible refine g_dput ?_
  | with_reducible refine g_dget2 ?_
  | with_reducible refine g_dget1 ?_
  | with_reducible refine g_iK ?_
  | with_reducible refine g_iE ?_
  | with_reducible refine g_iZ ?_
  | with_reducible refine g_gcons ?_
  | with_reducible refine g_chain ?_
  | with_reducible refine g_rch ?_
  | with_reducible refine g_isO ?_
  | with_reducible refine g_notO ?_
  | with_reducible refine g_eqO ?_
  | with_reducible refine g_neB ?_
  | ((with_reducible refine' g_ninI ?h ?_); (first | (case h => walk_at "sql") | fail))
  | with_reducible refine g_gnil ?_
  | with_reducible refine g_lstRg ?_
  | ((with_reducible refine' g_gtup ?h ?l ?_); (first | (case h => walk_at "sqt") | fail); (first | (case l => exact rfl) | fail))
  | ((with_reducible refine g_dnew ?_); walk_at "new")
  | ((with_reducible refine g_dnewK ?_); walk_at "new")
  | ((with_reducible refine' g_unl ?h ?_); (first | (case h => walk_at "fact") | fail); intro _ _ _)
  | ((with_reducible refine' g_rdg2 ?h ?_); (first | (case h => walk_at "rdt") | fail))
  | ((with_reducible refine' g_rkt ?h ?_); (first | (case h => walk_at "fact") | fail))
  | ((with_reducible refine' g_ren ?h ?_); (first | (case h => walk_at "sql") | fail))
  | ((with_reducible refine' g_rzp ?h ?k ?_); (first | (case h => walk_at "sql") | fail); (first | (case k => walk_at "sql") | fail))
  | ((with_reducible refine' g_bmT ?h ?_); (first | (case h => walk_at "fact") | fail))
  | ((with_reducible refine' g_clearT ?h ?_); (first | (case h => walk_at "fact") | fail); intro _ _ _)
  | ((with_reducible refine' g_rlrg ?h ?_); (first | (case h => exact RgOk.of_le (by omega) (by omega) (by omega) (by omega)) | fail); walk_at "new"))
local macro_rules | `(tactic| walk_at "go4") => `(tactic| first
  | with_reducible refine g_iET ?_
  | with_reducible refine g_iZA ?_
  | with_reducible refine g_pcons ?_
  | with_reducible refine g_pnil ?_
  | ((with_reducible refine g_disp ?_); walk_at "new")
  | ((with_reducible refine g_dispT1 ?_); walk_at "new")
  | with_reducible refine g_nget ?_
  | with_reducible refine g_nin ?_
  | with_reducible refine g_nnin ?_
  | with_reducible refine g_nget2 ?_
  | with_reducible refine g_nput ?_
  | with_reducible refine g_dpop1 ?_
  | with_reducible refine g_un ?_
  | with_reducible refine g_freeze ?_
  | with_reducible refine g_neg ?_
  | with_reducible refine g_intB ?_
  | with_reducible refine g_daug ?_
  | ((with_reducible refine g_nnew ?_); intro _ _ _ _ _)
  | ((with_reducible refine' g_renT ?h ?_); (first | (case h => walk_at "sqt") | fail))
  | ((with_reducible refine' g_rzaT ?h ?k ?_); (first | (case h => walk_at "sqt") | fail); (first | (case k => walk_at "sqt") | fail))
  | ((with_reducible refine' g_rdg2K ?h ?_); (first | (case h => walk_at "rdt") | fail))
  | ((with_reducible refine' g_rdgS ?h ?l ?_); (first | (case h => walk_at "rdt") | fail); (first | (case l => exact rfl) | fail))
  | ((with_reducible refine' g_rdpS ?h ?l ?e ?_); (first | (case h => walk_at "fact") | fail); (first | (case l => exact Nat.le_of_ble_eq_true rfl) | fail); (first | (case e => exact rfl) | fail); intro _ _ _)
  | ((with_reducible refine' g_rkk ?h ?_); (first | (case h => walk_at "fact") | fail))
  | ((with_reducible refine' g_sl1 ?h ?_); (first | (case h => walk_at "sqt") | fail); walk_at "new"))
local macro_rules | `(tactic| walk_at "go3") => `(tactic| first
  | with_reducible refine g_clX ?_
  | with_reducible refine g_rz ?_)
local macro_rules | `(tactic| walk_at "go3") => `(tactic| first
  | with_reducible refine g_lstRg1 ?_
  | with_reducible refine g_revL ?_
  | ((with_reducible refine' g_rrevL ?h ?_); (first | (case h => walk_at "sql") | fail); walk_at "new"))

def top (i : Nat) : Stmt := PySem.Challenge.pw_manydoors_k47_worlds_that_are_none.main.body.getD i (.Pass ⟨0, 0, 0, 0⟩)
abbrev s_is_integer : Stmt := top 12
abbrev s_is_from : Stmt := top 13
abbrev s_are_prices : Stmt := top 14
abbrev s_check_setup : Stmt := top 15
abbrev s_is_stay : Stmt := top 16
abbrev s_is_party : Stmt := top 17
abbrev s_is_deed : Stmt := top 18
abbrev s_check_deed : Stmt := top 19
abbrev s_House_init : Stmt := inClass (top 25) 0
abbrev s_Seller_init : Stmt := inClass (top 27) 0
abbrev s_Wire_init : Stmt := inClass (top 29) 0
abbrev s_World_put : Stmt := inClass (top 33) 1
abbrev s_World_deliver : Stmt := inClass (top 33) 4
abbrev s_World_wire_of : Stmt := inClass (top 33) 3
abbrev s_World_tick : Stmt := inClass (top 33) 5
abbrev s_World_waits : Stmt := inClass (top 33) 10
abbrev s_World_rise : Stmt := inClass (top 33) 11
abbrev s_World_settle : Stmt := inClass (top 33) 12
abbrev s_World_init : Stmt := inClass (top 33) 0
abbrev s_Lmixed : Stmt := top 35
abbrev s_Lnumbers : Stmt := top 36
abbrev s_Ldraw : Stmt := top 37
abbrev s_Lequal : Stmt := top 38
abbrev s_Lall_equal : Stmt := top 39
abbrev s_Lsetup : Stmt := top 40
abbrev s_Lstay : Stmt := top 41
abbrev s_Lparty : Stmt := top 42
abbrev s_Ldeeds : Stmt := top 43
abbrev s_Lbad_setup : Stmt := top 44
abbrev s_Lbad_party : Stmt := top 45
abbrev s_Lbad_deed : Stmt := top 46
abbrev s_Lerror : Stmt := top 47
abbrev s_law : Stmt := top 48
/-- where the classes stand -/
structure Ad where
  House : Addr
  Seller : Addr
  Wire : Addr
  World : Addr
  ManydoorsError : Addr
  BadSetup : Addr
  BadDeed : Addr
structure Txt (K : PySem.W.Frag) (mg : Str → Option Value) (A : Ad) : Prop where
  b_isinstance : mg "isinstance" = none
  b_int : mg "int" = none
  b_bool : mg "bool" = none
  b_tuple : mg "tuple" = none
  b_len : mg "len" = none
  b_all : mg "all" = none
  b_list : mg "list" = none
  b_sorted : mg "sorted" = none
  b_enumerate : mg "enumerate" = none
  b_range : mg "range" = none
  b_any : mg "any" = none
  b_str : mg "str" = none
  cl_House : Cls K A.House
  no_House_sellers : NoAttr K A.House "sellers"
  no_House_stock : NoAttr K A.House "stock"
  no_House_books : NoAttr K A.House "books"
  no_House_queue : NoAttr K A.House "queue"
  no_House_round : NoAttr K A.House "round"
  no_House_counts : NoAttr K A.House "counts"
  no_House_outgoing : NoAttr K A.House "outgoing"
  cl_Seller : Cls K A.Seller
  no_Seller_setup : NoAttr K A.Seller "setup"
  no_Seller_number : NoAttr K A.Seller "number"
  no_Seller_free : NoAttr K A.Seller "free"
  no_Seller_vouchers : NoAttr K A.Seller "vouchers"
  no_Seller_book : NoAttr K A.Seller "book"
  no_Seller_closing : NoAttr K A.Seller "closing"
  no_Seller_asked : NoAttr K A.Seller "asked"
  no_Seller_waiting : NoAttr K A.Seller "waiting"
  no_Seller_count : NoAttr K A.Seller "count"
  no_Seller_outgoing : NoAttr K A.Seller "outgoing"
  no_Seller_told : NoAttr K A.Seller "told"
  cl_Wire : Cls K A.Wire
  no_Wire_sent : NoAttr K A.Wire "sent"
  no_Wire_outbox : NoAttr K A.Wire "outbox"
  no_Wire_expected : NoAttr K A.Wire "expected"
  cl_World : Cls K A.World
  no_World_setup : NoAttr K A.World "setup"
  no_World_house : NoAttr K A.World "house"
  no_World_sellers : NoAttr K A.World "sellers"
  no_World_net : NoAttr K A.World "net"
  no_World_history : NoAttr K A.World "history"
  no_World_down : NoAttr K A.World "down"
  no_World_deeds : NoAttr K A.World "deeds"
  no_World_asked : NoAttr K A.World "asked"
  no_World_house_wires : NoAttr K A.World "house_wires"
  no_World_seller_wires : NoAttr K A.World "seller_wires"
  x_ManydoorsError : ErrC K mg "ManydoorsError" A.ManydoorsError
  x_BadSetup : ErrC K mg "BadSetup" A.BadSetup
  x_BadDeed : ErrC K mg "BadDeed" A.BadDeed
  ec_BadSetup : ExcC K A.BadSetup
  ec_BadDeed : ExcC K A.BadDeed
  k_ss : PySem.W.subIn K (.ref A.BadSetup) (.ref A.BadSetup) = some true
  k_ds : PySem.W.subIn K (.ref A.BadDeed) (.ref A.BadSetup) = some false
  k_dd : PySem.W.subIn K (.ref A.BadDeed) (.ref A.BadDeed) = some true
  k_sd : PySem.W.kitOne K (.ref A.BadSetup) (.ref A.BadDeed) = some false
  k_sm : PySem.W.kitOne K (.ref A.BadSetup) (.ref A.ManydoorsError) = some true
  k_dm : PySem.W.kitOne K (.ref A.BadDeed) (.ref A.ManydoorsError) = some true
  g_DEAREST : ∃ tk, mg "DEAREST" = some (.int 1000000 tk)
  g_KINDS : ∃ tk, mg "KINDS" = some (.int 3 tk)
  g_NIGHTS : ∃ tk, mg "NIGHTS" = some (.int 12 tk)
  g_SELLERS : ∃ tk, mg "SELLERS" = some (.int 4 tk)
  g_ROOMS : ∃ tk, mg "ROOMS" = some (.int 4 tk)
  g_PARTY : ∃ tk, mg "PARTY" = some (.int 4 tk)
  g_HOUSE : ∃ tk, mg "HOUSE" = some (.int (-1) tk)
  g_ROUNDS : ∃ tk, mg "ROUNDS" = some (.int 300 tk)
def F_House (sellers : Int) (stock : Addr) (books : Addr) (queue : Addr) (round : V) (counts : Addr) (outgoing : Addr) : List (Str × V) := [("sellers", .int sellers), ("stock", .ref stock), ("books", .ref books), ("queue", .ref queue), ("round", round), ("counts", .ref counts), ("outgoing", .ref outgoing)]
def F_Seller (setup : V) (number : Int) (free : Addr) (vouchers : Addr) (book : Addr) (closing : V) (asked : Addr) (waiting : Addr) (count : Int) (outgoing : Addr) (told : Addr) : List (Str × V) := [("setup", setup), ("number", .int number), ("free", .ref free), ("vouchers", .ref vouchers), ("book", .ref book), ("closing", closing), ("asked", .ref asked), ("waiting", .ref waiting), ("count", .int count), ("outgoing", .ref outgoing), ("told", .ref told)]
def F_Wire (sent : Int) (outbox : Addr) (expected : Int) : List (Str × V) := [("sent", .int sent), ("outbox", .ref outbox), ("expected", .int expected)]
def F_World (setup : V) (house : Addr) (sellers : Addr) (net : Addr) (history : Addr) (down : Addr) (deeds : Addr) (asked : Addr) (house_wires : Addr) (seller_wires : Addr) : List (Str × V) := [("setup", setup), ("house", .ref house), ("sellers", .ref sellers), ("net", .ref net), ("history", .ref history), ("down", .ref down), ("deeds", .ref deeds), ("asked", .ref asked), ("house_wires", .ref house_wires), ("seller_wires", .ref seller_wires)]
def spLaw (K : PySem.W.Frag) : Sp := fun vs H Q _ => ∃ x0, vs = [x0] ∧ ∃ (a : Addr) (ns : List Int), x0 = .ref a ∧ SqL K H a (ns.map V.int) ∧ ns.length ≤ 63 ∧ ∀ H', Q (.bl true) H'
local macro_rules | `(tactic| walk_at "own") => `(tactic| first
  | ((with_reducible refine' g_rfld (f := "sellers") (C := Ad.House _) ?h (Txt.cl_House (by assumption)) (Txt.no_House_sellers (by assumption)) ?l ?_); (case h => walk_at "fact"); (case l => exact rfl))
  | ((with_reducible refine' g_rflds (f := "sellers") (C := Ad.House _) ?h (Txt.cl_House (by assumption)) (Txt.no_House_sellers (by assumption)) ?l ?e ?_); (case h => walk_at "fact"); (case l => exact Nat.le_of_ble_eq_true rfl); (case e => exact rfl); intro _ _ _)
  | ((with_reducible refine' g_rflda (f := "sellers") (C := Ad.House _) ?h (Txt.cl_House (by assumption)) (Txt.no_House_sellers (by assumption)) ?l ?_); (case h => walk_at "fact"); (case l => exact rfl))
  | ((with_reducible refine' g_rfld (f := "stock") (C := Ad.House _) ?h (Txt.cl_House (by assumption)) (Txt.no_House_stock (by assumption)) ?l ?_); (case h => walk_at "fact"); (case l => exact rfl))
  | ((with_reducible refine' g_rflds (f := "stock") (C := Ad.House _) ?h (Txt.cl_House (by assumption)) (Txt.no_House_stock (by assumption)) ?l ?e ?_); (case h => walk_at "fact"); (case l => exact Nat.le_of_ble_eq_true rfl); (case e => exact rfl); intro _ _ _)
  | ((with_reducible refine' g_rflda (f := "stock") (C := Ad.House _) ?h (Txt.cl_House (by assumption)) (Txt.no_House_stock (by assumption)) ?l ?_); (case h => walk_at "fact"); (case l => exact rfl))
  | ((with_reducible refine' g_rfld (f := "books") (C := Ad.House _) ?h (Txt.cl_House (by assumption)) (Txt.no_House_books (by assumption)) ?l ?_); (case h => walk_at "fact"); (case l => exact rfl))
  | ((with_reducible refine' g_rflds (f := "books") (C := Ad.House _) ?h (Txt.cl_House (by assumption)) (Txt.no_House_books (by assumption)) ?l ?e ?_); (case h => walk_at "fact"); (case l => exact Nat.le_of_ble_eq_true rfl); (case e => exact rfl); intro _ _ _)
  | ((with_reducible refine' g_rflda (f := "books") (C := Ad.House _) ?h (Txt.cl_House (by assumption)) (Txt.no_House_books (by assumption)) ?l ?_); (case h => walk_at "fact"); (case l => exact rfl))
  | ((with_reducible refine' g_rfld (f := "queue") (C := Ad.House _) ?h (Txt.cl_House (by assumption)) (Txt.no_House_queue (by assumption)) ?l ?_); (case h => walk_at "fact"); (case l => exact rfl))
  | ((with_reducible refine' g_rflds (f := "queue") (C := Ad.House _) ?h (Txt.cl_House (by assumption)) (Txt.no_House_queue (by assumption)) ?l ?e ?_); (case h => walk_at "fact"); (case l => exact Nat.le_of_ble_eq_true rfl); (case e => exact rfl); intro _ _ _)
  | ((with_reducible refine' g_rflda (f := "queue") (C := Ad.House _) ?h (Txt.cl_House (by assumption)) (Txt.no_House_queue (by assumption)) ?l ?_); (case h => walk_at "fact"); (case l => exact rfl))
  | ((with_reducible refine' g_rfld (f := "round") (C := Ad.House _) ?h (Txt.cl_House (by assumption)) (Txt.no_House_round (by assumption)) ?l ?_); (case h => walk_at "fact"); (case l => exact rfl))
  | ((with_reducible refine' g_rflds (f := "round") (C := Ad.House _) ?h (Txt.cl_House (by assumption)) (Txt.no_House_round (by assumption)) ?l ?e ?_); (case h => walk_at "fact"); (case l => exact Nat.le_of_ble_eq_true rfl); (case e => exact rfl); intro _ _ _)
  | ((with_reducible refine' g_rflda (f := "round") (C := Ad.House _) ?h (Txt.cl_House (by assumption)) (Txt.no_House_round (by assumption)) ?l ?_); (case h => walk_at "fact"); (case l => exact rfl))
  | ((with_reducible refine' g_rfld (f := "counts") (C := Ad.House _) ?h (Txt.cl_House (by assumption)) (Txt.no_House_counts (by assumption)) ?l ?_); (case h => walk_at "fact"); (case l => exact rfl))
  | ((with_reducible refine' g_rflds (f := "counts") (C := Ad.House _) ?h (Txt.cl_House (by assumption)) (Txt.no_House_counts (by assumption)) ?l ?e ?_); (case h => walk_at "fact"); (case l => exact Nat.le_of_ble_eq_true rfl); (case e => exact rfl); intro _ _ _)
  | ((with_reducible refine' g_rflda (f := "counts") (C := Ad.House _) ?h (Txt.cl_House (by assumption)) (Txt.no_House_counts (by assumption)) ?l ?_); (case h => walk_at "fact"); (case l => exact rfl))
  | ((with_reducible refine' g_rfld (f := "outgoing") (C := Ad.House _) ?h (Txt.cl_House (by assumption)) (Txt.no_House_outgoing (by assumption)) ?l ?_); (case h => walk_at "fact"); (case l => exact rfl))
  | ((with_reducible refine' g_rflds (f := "outgoing") (C := Ad.House _) ?h (Txt.cl_House (by assumption)) (Txt.no_House_outgoing (by assumption)) ?l ?e ?_); (case h => walk_at "fact"); (case l => exact Nat.le_of_ble_eq_true rfl); (case e => exact rfl); intro _ _ _)
  | ((with_reducible refine' g_rflda (f := "outgoing") (C := Ad.House _) ?h (Txt.cl_House (by assumption)) (Txt.no_House_outgoing (by assumption)) ?l ?_); (case h => walk_at "fact"); (case l => exact rfl))
  | ((with_reducible refine' g_rfld (f := "setup") (C := Ad.Seller _) ?h (Txt.cl_Seller (by assumption)) (Txt.no_Seller_setup (by assumption)) ?l ?_); (case h => walk_at "fact"); (case l => exact rfl))
  | ((with_reducible refine' g_rflds (f := "setup") (C := Ad.Seller _) ?h (Txt.cl_Seller (by assumption)) (Txt.no_Seller_setup (by assumption)) ?l ?e ?_); (case h => walk_at "fact"); (case l => exact Nat.le_of_ble_eq_true rfl); (case e => exact rfl); intro _ _ _)
  | ((with_reducible refine' g_rflda (f := "setup") (C := Ad.Seller _) ?h (Txt.cl_Seller (by assumption)) (Txt.no_Seller_setup (by assumption)) ?l ?_); (case h => walk_at "fact"); (case l => exact rfl))
  | ((with_reducible refine' g_rfld (f := "number") (C := Ad.Seller _) ?h (Txt.cl_Seller (by assumption)) (Txt.no_Seller_number (by assumption)) ?l ?_); (case h => walk_at "fact"); (case l => exact rfl))
  | ((with_reducible refine' g_rflds (f := "number") (C := Ad.Seller _) ?h (Txt.cl_Seller (by assumption)) (Txt.no_Seller_number (by assumption)) ?l ?e ?_); (case h => walk_at "fact"); (case l => exact Nat.le_of_ble_eq_true rfl); (case e => exact rfl); intro _ _ _)
  | ((with_reducible refine' g_rflda (f := "number") (C := Ad.Seller _) ?h (Txt.cl_Seller (by assumption)) (Txt.no_Seller_number (by assumption)) ?l ?_); (case h => walk_at "fact"); (case l => exact rfl))
  | ((with_reducible refine' g_rfld (f := "free") (C := Ad.Seller _) ?h (Txt.cl_Seller (by assumption)) (Txt.no_Seller_free (by assumption)) ?l ?_); (case h => walk_at "fact"); (case l => exact rfl))
  | ((with_reducible refine' g_rflds (f := "free") (C := Ad.Seller _) ?h (Txt.cl_Seller (by assumption)) (Txt.no_Seller_free (by assumption)) ?l ?e ?_); (case h => walk_at "fact"); (case l => exact Nat.le_of_ble_eq_true rfl); (case e => exact rfl); intro _ _ _)
  | ((with_reducible refine' g_rflda (f := "free") (C := Ad.Seller _) ?h (Txt.cl_Seller (by assumption)) (Txt.no_Seller_free (by assumption)) ?l ?_); (case h => walk_at "fact"); (case l => exact rfl))
  | ((with_reducible refine' g_rfld (f := "vouchers") (C := Ad.Seller _) ?h (Txt.cl_Seller (by assumption)) (Txt.no_Seller_vouchers (by assumption)) ?l ?_); (case h => walk_at "fact"); (case l => exact rfl))
  | ((with_reducible refine' g_rflds (f := "vouchers") (C := Ad.Seller _) ?h (Txt.cl_Seller (by assumption)) (Txt.no_Seller_vouchers (by assumption)) ?l ?e ?_); (case h => walk_at "fact"); (case l => exact Nat.le_of_ble_eq_true rfl); (case e => exact rfl); intro _ _ _)
  | ((with_reducible refine' g_rflda (f := "vouchers") (C := Ad.Seller _) ?h (Txt.cl_Seller (by assumption)) (Txt.no_Seller_vouchers (by assumption)) ?l ?_); (case h => walk_at "fact"); (case l => exact rfl))
  | ((with_reducible refine' g_rfld (f := "book") (C := Ad.Seller _) ?h (Txt.cl_Seller (by assumption)) (Txt.no_Seller_book (by assumption)) ?l ?_); (case h => walk_at "fact"); (case l => exact rfl))
  | ((with_reducible refine' g_rflds (f := "book") (C := Ad.Seller _) ?h (Txt.cl_Seller (by assumption)) (Txt.no_Seller_book (by assumption)) ?l ?e ?_); (case h => walk_at "fact"); (case l => exact Nat.le_of_ble_eq_true rfl); (case e => exact rfl); intro _ _ _)
  | ((with_reducible refine' g_rflda (f := "book") (C := Ad.Seller _) ?h (Txt.cl_Seller (by assumption)) (Txt.no_Seller_book (by assumption)) ?l ?_); (case h => walk_at "fact"); (case l => exact rfl))
  | ((with_reducible refine' g_rfld (f := "closing") (C := Ad.Seller _) ?h (Txt.cl_Seller (by assumption)) (Txt.no_Seller_closing (by assumption)) ?l ?_); (case h => walk_at "fact"); (case l => exact rfl))
  | ((with_reducible refine' g_rflds (f := "closing") (C := Ad.Seller _) ?h (Txt.cl_Seller (by assumption)) (Txt.no_Seller_closing (by assumption)) ?l ?e ?_); (case h => walk_at "fact"); (case l => exact Nat.le_of_ble_eq_true rfl); (case e => exact rfl); intro _ _ _)
  | ((with_reducible refine' g_rflda (f := "closing") (C := Ad.Seller _) ?h (Txt.cl_Seller (by assumption)) (Txt.no_Seller_closing (by assumption)) ?l ?_); (case h => walk_at "fact"); (case l => exact rfl))
  | ((with_reducible refine' g_rfld (f := "asked") (C := Ad.Seller _) ?h (Txt.cl_Seller (by assumption)) (Txt.no_Seller_asked (by assumption)) ?l ?_); (case h => walk_at "fact"); (case l => exact rfl))
  | ((with_reducible refine' g_rflds (f := "asked") (C := Ad.Seller _) ?h (Txt.cl_Seller (by assumption)) (Txt.no_Seller_asked (by assumption)) ?l ?e ?_); (case h => walk_at "fact"); (case l => exact Nat.le_of_ble_eq_true rfl); (case e => exact rfl); intro _ _ _)
  | ((with_reducible refine' g_rflda (f := "asked") (C := Ad.Seller _) ?h (Txt.cl_Seller (by assumption)) (Txt.no_Seller_asked (by assumption)) ?l ?_); (case h => walk_at "fact"); (case l => exact rfl))
  | ((with_reducible refine' g_rfld (f := "waiting") (C := Ad.Seller _) ?h (Txt.cl_Seller (by assumption)) (Txt.no_Seller_waiting (by assumption)) ?l ?_); (case h => walk_at "fact"); (case l => exact rfl))
  | ((with_reducible refine' g_rflds (f := "waiting") (C := Ad.Seller _) ?h (Txt.cl_Seller (by assumption)) (Txt.no_Seller_waiting (by assumption)) ?l ?e ?_); (case h => walk_at "fact"); (case l => exact Nat.le_of_ble_eq_true rfl); (case e => exact rfl); intro _ _ _)
  | ((with_reducible refine' g_rflda (f := "waiting") (C := Ad.Seller _) ?h (Txt.cl_Seller (by assumption)) (Txt.no_Seller_waiting (by assumption)) ?l ?_); (case h => walk_at "fact"); (case l => exact rfl))
  | ((with_reducible refine' g_rfld (f := "count") (C := Ad.Seller _) ?h (Txt.cl_Seller (by assumption)) (Txt.no_Seller_count (by assumption)) ?l ?_); (case h => walk_at "fact"); (case l => exact rfl))
  | ((with_reducible refine' g_rflds (f := "count") (C := Ad.Seller _) ?h (Txt.cl_Seller (by assumption)) (Txt.no_Seller_count (by assumption)) ?l ?e ?_); (case h => walk_at "fact"); (case l => exact Nat.le_of_ble_eq_true rfl); (case e => exact rfl); intro _ _ _)
  | ((with_reducible refine' g_rflda (f := "count") (C := Ad.Seller _) ?h (Txt.cl_Seller (by assumption)) (Txt.no_Seller_count (by assumption)) ?l ?_); (case h => walk_at "fact"); (case l => exact rfl))
  | ((with_reducible refine' g_rfld (f := "outgoing") (C := Ad.Seller _) ?h (Txt.cl_Seller (by assumption)) (Txt.no_Seller_outgoing (by assumption)) ?l ?_); (case h => walk_at "fact"); (case l => exact rfl))
  | ((with_reducible refine' g_rflds (f := "outgoing") (C := Ad.Seller _) ?h (Txt.cl_Seller (by assumption)) (Txt.no_Seller_outgoing (by assumption)) ?l ?e ?_); (case h => walk_at "fact"); (case l => exact Nat.le_of_ble_eq_true rfl); (case e => exact rfl); intro _ _ _)
  | ((with_reducible refine' g_rflda (f := "outgoing") (C := Ad.Seller _) ?h (Txt.cl_Seller (by assumption)) (Txt.no_Seller_outgoing (by assumption)) ?l ?_); (case h => walk_at "fact"); (case l => exact rfl))
  | ((with_reducible refine' g_rfld (f := "told") (C := Ad.Seller _) ?h (Txt.cl_Seller (by assumption)) (Txt.no_Seller_told (by assumption)) ?l ?_); (case h => walk_at "fact"); (case l => exact rfl))
  | ((with_reducible refine' g_rflds (f := "told") (C := Ad.Seller _) ?h (Txt.cl_Seller (by assumption)) (Txt.no_Seller_told (by assumption)) ?l ?e ?_); (case h => walk_at "fact"); (case l => exact Nat.le_of_ble_eq_true rfl); (case e => exact rfl); intro _ _ _)
  | ((with_reducible refine' g_rflda (f := "told") (C := Ad.Seller _) ?h (Txt.cl_Seller (by assumption)) (Txt.no_Seller_told (by assumption)) ?l ?_); (case h => walk_at "fact"); (case l => exact rfl))
  | ((with_reducible refine' g_rfld (f := "sent") (C := Ad.Wire _) ?h (Txt.cl_Wire (by assumption)) (Txt.no_Wire_sent (by assumption)) ?l ?_); (case h => walk_at "fact"); (case l => exact rfl))
  | ((with_reducible refine' g_rflds (f := "sent") (C := Ad.Wire _) ?h (Txt.cl_Wire (by assumption)) (Txt.no_Wire_sent (by assumption)) ?l ?e ?_); (case h => walk_at "fact"); (case l => exact Nat.le_of_ble_eq_true rfl); (case e => exact rfl); intro _ _ _)
  | ((with_reducible refine' g_rflda (f := "sent") (C := Ad.Wire _) ?h (Txt.cl_Wire (by assumption)) (Txt.no_Wire_sent (by assumption)) ?l ?_); (case h => walk_at "fact"); (case l => exact rfl))
  | ((with_reducible refine' g_rfld (f := "outbox") (C := Ad.Wire _) ?h (Txt.cl_Wire (by assumption)) (Txt.no_Wire_outbox (by assumption)) ?l ?_); (case h => walk_at "fact"); (case l => exact rfl))
  | ((with_reducible refine' g_rflds (f := "outbox") (C := Ad.Wire _) ?h (Txt.cl_Wire (by assumption)) (Txt.no_Wire_outbox (by assumption)) ?l ?e ?_); (case h => walk_at "fact"); (case l => exact Nat.le_of_ble_eq_true rfl); (case e => exact rfl); intro _ _ _)
  | ((with_reducible refine' g_rflda (f := "outbox") (C := Ad.Wire _) ?h (Txt.cl_Wire (by assumption)) (Txt.no_Wire_outbox (by assumption)) ?l ?_); (case h => walk_at "fact"); (case l => exact rfl))
  | ((with_reducible refine' g_rfld (f := "expected") (C := Ad.Wire _) ?h (Txt.cl_Wire (by assumption)) (Txt.no_Wire_expected (by assumption)) ?l ?_); (case h => walk_at "fact"); (case l => exact rfl))
  | ((with_reducible refine' g_rflds (f := "expected") (C := Ad.Wire _) ?h (Txt.cl_Wire (by assumption)) (Txt.no_Wire_expected (by assumption)) ?l ?e ?_); (case h => walk_at "fact"); (case l => exact Nat.le_of_ble_eq_true rfl); (case e => exact rfl); intro _ _ _)
  | ((with_reducible refine' g_rflda (f := "expected") (C := Ad.Wire _) ?h (Txt.cl_Wire (by assumption)) (Txt.no_Wire_expected (by assumption)) ?l ?_); (case h => walk_at "fact"); (case l => exact rfl))
  | ((with_reducible refine' g_rfld (f := "setup") (C := Ad.World _) ?h (Txt.cl_World (by assumption)) (Txt.no_World_setup (by assumption)) ?l ?_); (case h => walk_at "fact"); (case l => exact rfl))
  | ((with_reducible refine' g_rflds (f := "setup") (C := Ad.World _) ?h (Txt.cl_World (by assumption)) (Txt.no_World_setup (by assumption)) ?l ?e ?_); (case h => walk_at "fact"); (case l => exact Nat.le_of_ble_eq_true rfl); (case e => exact rfl); intro _ _ _)
  | ((with_reducible refine' g_rflda (f := "setup") (C := Ad.World _) ?h (Txt.cl_World (by assumption)) (Txt.no_World_setup (by assumption)) ?l ?_); (case h => walk_at "fact"); (case l => exact rfl))
  | ((with_reducible refine' g_rfld (f := "house") (C := Ad.World _) ?h (Txt.cl_World (by assumption)) (Txt.no_World_house (by assumption)) ?l ?_); (case h => walk_at "fact"); (case l => exact rfl))
  | ((with_reducible refine' g_rflds (f := "house") (C := Ad.World _) ?h (Txt.cl_World (by assumption)) (Txt.no_World_house (by assumption)) ?l ?e ?_); (case h => walk_at "fact"); (case l => exact Nat.le_of_ble_eq_true rfl); (case e => exact rfl); intro _ _ _)
  | ((with_reducible refine' g_rflda (f := "house") (C := Ad.World _) ?h (Txt.cl_World (by assumption)) (Txt.no_World_house (by assumption)) ?l ?_); (case h => walk_at "fact"); (case l => exact rfl))
  | ((with_reducible refine' g_rfld (f := "sellers") (C := Ad.World _) ?h (Txt.cl_World (by assumption)) (Txt.no_World_sellers (by assumption)) ?l ?_); (case h => walk_at "fact"); (case l => exact rfl))
  | ((with_reducible refine' g_rflds (f := "sellers") (C := Ad.World _) ?h (Txt.cl_World (by assumption)) (Txt.no_World_sellers (by assumption)) ?l ?e ?_); (case h => walk_at "fact"); (case l => exact Nat.le_of_ble_eq_true rfl); (case e => exact rfl); intro _ _ _)
  | ((with_reducible refine' g_rflda (f := "sellers") (C := Ad.World _) ?h (Txt.cl_World (by assumption)) (Txt.no_World_sellers (by assumption)) ?l ?_); (case h => walk_at "fact"); (case l => exact rfl))
  | ((with_reducible refine' g_rfld (f := "net") (C := Ad.World _) ?h (Txt.cl_World (by assumption)) (Txt.no_World_net (by assumption)) ?l ?_); (case h => walk_at "fact"); (case l => exact rfl))
  | ((with_reducible refine' g_rflds (f := "net") (C := Ad.World _) ?h (Txt.cl_World (by assumption)) (Txt.no_World_net (by assumption)) ?l ?e ?_); (case h => walk_at "fact"); (case l => exact Nat.le_of_ble_eq_true rfl); (case e => exact rfl); intro _ _ _)
  | ((with_reducible refine' g_rflda (f := "net") (C := Ad.World _) ?h (Txt.cl_World (by assumption)) (Txt.no_World_net (by assumption)) ?l ?_); (case h => walk_at "fact"); (case l => exact rfl))
  | ((with_reducible refine' g_rfld (f := "history") (C := Ad.World _) ?h (Txt.cl_World (by assumption)) (Txt.no_World_history (by assumption)) ?l ?_); (case h => walk_at "fact"); (case l => exact rfl))
  | ((with_reducible refine' g_rflds (f := "history") (C := Ad.World _) ?h (Txt.cl_World (by assumption)) (Txt.no_World_history (by assumption)) ?l ?e ?_); (case h => walk_at "fact"); (case l => exact Nat.le_of_ble_eq_true rfl); (case e => exact rfl); intro _ _ _)
  | ((with_reducible refine' g_rflda (f := "history") (C := Ad.World _) ?h (Txt.cl_World (by assumption)) (Txt.no_World_history (by assumption)) ?l ?_); (case h => walk_at "fact"); (case l => exact rfl))
  | ((with_reducible refine' g_rfld (f := "down") (C := Ad.World _) ?h (Txt.cl_World (by assumption)) (Txt.no_World_down (by assumption)) ?l ?_); (case h => walk_at "fact"); (case l => exact rfl))
  | ((with_reducible refine' g_rflds (f := "down") (C := Ad.World _) ?h (Txt.cl_World (by assumption)) (Txt.no_World_down (by assumption)) ?l ?e ?_); (case h => walk_at "fact"); (case l => exact Nat.le_of_ble_eq_true rfl); (case e => exact rfl); intro _ _ _)
  | ((with_reducible refine' g_rflda (f := "down") (C := Ad.World _) ?h (Txt.cl_World (by assumption)) (Txt.no_World_down (by assumption)) ?l ?_); (case h => walk_at "fact"); (case l => exact rfl))
  | ((with_reducible refine' g_rfld (f := "deeds") (C := Ad.World _) ?h (Txt.cl_World (by assumption)) (Txt.no_World_deeds (by assumption)) ?l ?_); (case h => walk_at "fact"); (case l => exact rfl))
  | ((with_reducible refine' g_rflds (f := "deeds") (C := Ad.World _) ?h (Txt.cl_World (by assumption)) (Txt.no_World_deeds (by assumption)) ?l ?e ?_); (case h => walk_at "fact"); (case l => exact Nat.le_of_ble_eq_true rfl); (case e => exact rfl); intro _ _ _)
  | ((with_reducible refine' g_rflda (f := "deeds") (C := Ad.World _) ?h (Txt.cl_World (by assumption)) (Txt.no_World_deeds (by assumption)) ?l ?_); (case h => walk_at "fact"); (case l => exact rfl))
  | ((with_reducible refine' g_rfld (f := "asked") (C := Ad.World _) ?h (Txt.cl_World (by assumption)) (Txt.no_World_asked (by assumption)) ?l ?_); (case h => walk_at "fact"); (case l => exact rfl))
  | ((with_reducible refine' g_rflds (f := "asked") (C := Ad.World _) ?h (Txt.cl_World (by assumption)) (Txt.no_World_asked (by assumption)) ?l ?e ?_); (case h => walk_at "fact"); (case l => exact Nat.le_of_ble_eq_true rfl); (case e => exact rfl); intro _ _ _)
  | ((with_reducible refine' g_rflda (f := "asked") (C := Ad.World _) ?h (Txt.cl_World (by assumption)) (Txt.no_World_asked (by assumption)) ?l ?_); (case h => walk_at "fact"); (case l => exact rfl))
  | ((with_reducible refine' g_rfld (f := "house_wires") (C := Ad.World _) ?h (Txt.cl_World (by assumption)) (Txt.no_World_house_wires (by assumption)) ?l ?_); (case h => walk_at "fact"); (case l => exact rfl))
  | ((with_reducible refine' g_rflds (f := "house_wires") (C := Ad.World _) ?h (Txt.cl_World (by assumption)) (Txt.no_World_house_wires (by assumption)) ?l ?e ?_); (case h => walk_at "fact"); (case l => exact Nat.le_of_ble_eq_true rfl); (case e => exact rfl); intro _ _ _)
  | ((with_reducible refine' g_rflda (f := "house_wires") (C := Ad.World _) ?h (Txt.cl_World (by assumption)) (Txt.no_World_house_wires (by assumption)) ?l ?_); (case h => walk_at "fact"); (case l => exact rfl))
  | ((with_reducible refine' g_rfld (f := "seller_wires") (C := Ad.World _) ?h (Txt.cl_World (by assumption)) (Txt.no_World_seller_wires (by assumption)) ?l ?_); (case h => walk_at "fact"); (case l => exact rfl))
  | ((with_reducible refine' g_rflds (f := "seller_wires") (C := Ad.World _) ?h (Txt.cl_World (by assumption)) (Txt.no_World_seller_wires (by assumption)) ?l ?e ?_); (case h => walk_at "fact"); (case l => exact Nat.le_of_ble_eq_true rfl); (case e => exact rfl); intro _ _ _)
  | ((with_reducible refine' g_rflda (f := "seller_wires") (C := Ad.World _) ?h (Txt.cl_World (by assumption)) (Txt.no_World_seller_wires (by assumption)) ?l ?_); (case h => walk_at "fact"); (case l => exact rfl)))
section
variable {P : Program} {w : World} {K : PySem.W.Frag} {mg : Str → Option Value} {base : Heap} {A : Ad}
def P_Lmixed (K : PySem.W.Frag) (A : Ad) (x0 x1 : V) (H : Hp) (Q : VK) : Prop := ∃ a b : Int, x0 = .int a ∧ x1 = .int b ∧ ∀ n : Int, 0 ≤ n → n < 2147483647 → Q (.int n) H
def sp_Lmixed (K : PySem.W.Frag) (A : Ad) : Sp := fun vs H Q _ => ∃ x0 x1, vs = [x0, x1] ∧ P_Lmixed K A x0 x1 H Q
theorem c_Lmixed {K : PySem.W.Frag} {A : Ad} {x0 x1 : V} {H : Hp} {Q : VK} {E : XK} (h : P_Lmixed K A x0 x1 H Q) : sp_Lmixed K A [x0, x1] H Q E := ⟨_, _, rfl, h⟩
theorem sc_Lmixed : FnScope ["_law_number", "_law_k", "_law_step"] ["_law_number", "_law_k"] (defScope s_Lmixed) := ⟨rfl, rfl, rfl, by decide +kernel, rfl, by decide +kernel, by decide +kernel⟩
def t_Lmixed (K : PySem.W.Frag) (A : Ad) : TS :=
  (tSeq (tAsg (tOp oMod (tOp oAdd (tOp oAdd (tOp oMul (tVar 0) (tC (.int 48271))) (tOp oMul (tVar 1) (tC (.int 69621)))) (tC (.int 12345))) (tC (.int 2147483647))) (gName 2))
    (tRet (tOp oMod (tOp oAdd (tOp oMul (tVar 2) (tOp oAdd (tOp oDiv (tVar 2) (tC (.int 65536))) (tC (.int 3)))) (tVar 1)) (tC (.int 2147483647)))))
theorem pu_Lmixed (T : Txt K mg A) {x0 x1 : V} {H : Hp} {Q : VK} (h : P_Lmixed K A x0 x1 H Q) : t_Lmixed K A { nx := fun _ H' => Q .non H', rt := Q } [some x0, some x1, none] H := by
  obtain ⟨a, b, rfl, rfl, k⟩ := h
  unfold t_Lmixed
  walk_at "go"
  exact k _ (Int.emod_nonneg _ (by decide)) (Int.emod_lt_of_pos _ (by decide))
theorem ok_Lmixed {f : Addr} {fd : FuncData} (F : Fun K "_law_mixed" "_law_mixed" s_Lmixed f fd) (T : Txt K mg A)  : FnOk P w K mg base CX0 (1) f fd ["_law_number", "_law_k"] (sp_Lmixed K A) := by
  refine F.ok sc_Lmixed (fun vs H Q E h => ?_) (fun cdv Ar outer s H vs Q E hr h => ⟨t_Lmixed K A, ?_, ?_⟩)
  · obtain ⟨x0, x1, rfl, _⟩ := h
    rfl
  · have hu := hu_of hr
    exact (pss_cons (ps_set (i := 2) sc_Lmixed.nd rfl (Or.inl rfl) (pe_op o_mod (pe_op o_add (pe_op o_add (pe_op o_mul (pv 0) pe_int) (pe_op o_mul (pv 1) pe_int)) pe_int) pe_int))
    (pss_one (ps_ret (pe_op o_mod (pe_op o_add (pe_op o_mul (pv 2) (pe_op o_add (pe_op o_div (pv 2) pe_int) pe_int)) (pv 1)) pe_int))))
  · obtain ⟨x0, x1, rfl, h⟩ := h
    exact pu_Lmixed T h
def Sml (ms : List Int) : Prop := ∀ m ∈ ms, 0 ≤ m ∧ m < 1000000
theorem Sml.snoc {ms : List Int} (h : Sml ms) (z : Int) : Sml (ms ++ [z % 1000000]) := fun m hm => by
  rcases List.mem_append.mp hm with q | q
  · exact h m q
  · rw [List.mem_singleton.mp q]; exact ⟨Int.emod_nonneg _ (by decide), Int.emod_lt_of_pos _ (by decide)⟩
def P_Lnumbers (K : PySem.W.Frag) (A : Ad) (x0 : V) (H : Hp) (Q : VK) : Prop := ∃ (a : Addr) (ns : List Int), x0 = .ref a ∧ SqL K H a (ns.map V.int) ∧ ns.length ≤ 63 ∧
  ∀ (l : Addr) (ms : List Int) (H' : Hp), H l = none → Fr [] H H' → H' l = some (.lst (ms.map V.int)) → Sml ms → ms.length ≤ 10000 → Q (.ref l) H'
def sp_Lnumbers (K : PySem.W.Frag) (A : Ad) : Sp := fun vs H Q _ => ∃ x0, vs = [x0] ∧ P_Lnumbers K A x0 H Q
theorem c_Lnumbers {K : PySem.W.Frag} {A : Ad} {x0 : V} {H : Hp} {Q : VK} {E : XK} (h : P_Lnumbers K A x0 H Q) : sp_Lnumbers K A [x0] H Q E := ⟨_, rfl, h⟩
theorem sc_Lnumbers : FnScope ["_law_script", "_law_numbers_here", "_law_cell", "_law_rest", "_law_k"] ["_law_script"] (defScope s_Lnumbers) := ⟨rfl, rfl, rfl, by decide +kernel, rfl, by decide +kernel, by decide +kernel⟩
def t_Lnumbers (K : PySem.W.Frag) (A : Ad) : TS :=
  (tSeq (tAsg (tLst tNil) (gName 1))
    (tSeq (tFor (iList K (tVar 0)) (gName 2) (tIfS (tTest (tOp cGe (tVar 2) (tOp oPow (tC (.int 10)) (tC (.int 18))))) (tSeq (tAsg (tVar 2) (gName 3))
    (tFor (iRng1 (tCons (tC (.int 60)) tNil)) (gName 4) (tIfS (tTest (tOp cGt (tVar 3) (tC (.int 0)))) (tSeq (tDrop (tBM K "list" rAppend (tVar 1) (tCons (tOp oMod (tVar 3) (tC (.int 1000000))) tNil)))
    (tAsg (tOp oDiv (tVar 3) (tC (.int 1000000))) (gName 3))) tNext))) (tSeq (tDrop (tBM K "list" rAppend (tVar 1) (tCons (tOp oMod (tVar 2) (tC (.int 1000000))) tNil)))
    (tFor (iRng1 (tCons (tC (.int 5)) tNil)) (gName 4) (tDrop (tBM K "list" rAppend (tVar 1) (tCons (tOp oMod (tCl (sp_Lmixed K A) (tCons (tCl (sp_Lmixed K A) (tCons (tOp oMod (tVar 2) (tC (.int 2147483647))) (tCons (tVar 4) tNil))) (tCons (tOp oAdd (tVar 4) (tC (.int 7))) tNil))) (tC (.int 1000000))) tNil)))))))
    (tRet (tVar 1))))
theorem pu_Lnumbers (T : Txt K mg A) {x0 : V} {H : Hp} {Q : VK} (h : P_Lnumbers K A x0 H Q) : t_Lnumbers K A { nx := fun _ H' => Q .non H', rt := Q } [some x0, none, none, none, none] H := by
  obtain ⟨a, ns, rfl, hS, hl, k⟩ := h
  unfold t_Lnumbers
  walk_at "go"
  rename_i l H0 nl f0 e0
  refine f_list (xs := ns.map V.int) (fun i σ H' => ∃ (ms : List Int) (v1 v2 v3 : Option V), σ = [some (.ref a), some (.ref l), v1, v2, v3] ∧ Fr [] H H' ∧ H' l = some (.lst (ms.map V.int)) ∧ Sml ms ∧ ms.length ≤ 60 * i)
    ⟨[], none, none, none, rfl, f0, e0, fun _ q => (nomatch q), Nat.zero_le _⟩ ?_ ?_ ?_
  · rintro i σ H' _ ⟨ms, v1, v2, v3, rfl, f, e, s, hm⟩
    exact f.sql hS nin0
  · rintro i x σ H1 hx ⟨ms, v1, v2, v3, rfl, f1, e1, s1, hm⟩
    obtain ⟨n, rfl, hn, hmem⟩ := getI hx
    have hi : i < 63 := Nat.lt_of_lt_of_le ((List.getElem?_eq_some_iff.mp hn).1) hl
    walk_at "go"
    refine g_ite (fun c => ?_) (fun c => ?_)
    · walk_at "go"
      refine f_range (lo := 0) (n := 60) (fun j σ H' => ∃ (ms : List Int) (r : Int) (v3 : Option V), σ = [some (.ref a), some (.ref l), some (.int n), some (.int r), v3] ∧ Fr [] H H' ∧ H' l = some (.lst (ms.map V.int)) ∧ Sml ms ∧ ms.length ≤ 60 * i + j)
        ⟨ms, n, v3, rfl, f1, e1, s1, by omega⟩ ?_ ?_
      · rintro j σ H2 hj ⟨ms2, r, v3, rfl, f2, e2, s2, hm2⟩
        walk_at "go"
        refine g_ite (fun c => ?_) (fun c => ?_)
        · walk_at "go"
          rename_i H3 f3 e3
          exact ⟨ms2 ++ [r % 1000000], _, _, rfl, f2.own1 f3 nl, by rw [e3, List.map_append] <;> rfl, s2.snoc r, by rw [List.length_append]; exact Nat.add_le_add_right hm2 1⟩
        · walk_at "go"
          exact ⟨ms2, _, _, rfl, f2, e2, s2, by omega⟩
      · rintro σ H2 ⟨ms2, r, v3, rfl, f2, e2, s2, hm2⟩
        exact ⟨ms2, _, _, _, rfl, f2, e2, s2, by omega⟩
    · walk_at "go"
      rename_i H3 f3 e3
      refine f_range (lo := 0) (n := 5) (fun j σ H' => ∃ (ms : List Int) (v2 v3 : Option V), σ = [some (.ref a), some (.ref l), some (.int n), v2, v3] ∧ Fr [] H H' ∧ H' l = some (.lst (ms.map V.int)) ∧ Sml ms ∧ ms.length ≤ 60 * i + 1 + j)
        ⟨ms ++ [n % 1000000], v2, v3, rfl, f1.own1 f3 nl, by rw [e3, List.map_append] <;> rfl, s1.snoc n, by rw [List.length_append]; exact Nat.add_le_add_right hm 1⟩ ?_ ?_
      · rintro j σ H4 hj ⟨ms2, v2, v3, rfl, f4, e4, s4, hm4⟩
        walk_at "go"
        refine c_Lmixed ⟨_, _, rfl, rfl, fun z _ _ => ?_⟩
        walk_at "go"
        refine c_Lmixed ⟨_, _, rfl, rfl, fun z2 _ _ => ?_⟩
        walk_at "go"
        rename_i H5 f5 e5
        exact ⟨ms2 ++ [z2 % 1000000], _, _, rfl, f4.own1 f5 nl, by rw [e5, List.map_append] <;> rfl, s4.snoc z2, by rw [List.length_append]; exact Nat.add_le_add_right hm4 1⟩
      · rintro σ H4 ⟨ms2, v2, v3, rfl, f4, e4, s4, hm4⟩
        exact ⟨ms2, _, _, _, rfl, f4, e4, s4, by omega⟩
  · rintro σ H1 ⟨ms, v1, v2, v3, rfl, f1, e1, s1, hm⟩
    walk_at "go"
    rw [List.length_map] at hm
    exact k l ms H1 nl f1 e1 s1 (by omega)
theorem ok_Lnumbers {f : Addr} {fd : FuncData} (F : Fun K "_law_numbers" "_law_numbers" s_Lnumbers f fd) (T : Txt K mg A) (c_Lmixed : Cal P w K mg base "_law_mixed" 1 ["_law_number", "_law_k"] (sp_Lmixed K A)) : FnOk P w K mg base CX0 (2) f fd ["_law_script"] (sp_Lnumbers K A) := by
  refine F.ok sc_Lnumbers (fun vs H Q E h => ?_) (fun cdv Ar outer s H vs Q E hr h => ⟨t_Lnumbers K A, ?_, ?_⟩)
  · obtain ⟨x0, rfl, _⟩ := h
    rfl
  · have hu := hu_of hr
    exact (pss_cons (ps_set (i := 1) sc_Lnumbers.nd rfl (Or.inl rfl) (pe_lst pa_nil))
    (pss_cons (ps_for PassesOwn.never rfl (pi_list (pv 0)) (pg_name (i := 2) sc_Lnumbers.nd rfl (Or.inl rfl)) (pss_one (ps_if (pt_cmpR c_ge (pv 2) (pe_op o_pow pe_int pe_int) (nomark _)) (pss_cons (ps_set (i := 3) sc_Lnumbers.nd rfl (Or.inl rfl) (pv 2))
    (pss_one (ps_for PassesOwn.never rfl (pi_range1 rfl T.b_range (pa_cons pe_int pa_nil)) (pg_name (i := 4) sc_Lnumbers.nd rfl (Or.inl rfl)) (pss_one (ps_if (pt_cmpR c_gt (pv 3) pe_int (nomark _)) (pss_cons (ps_expr (pe_bm PySem.F.plainAttrs_list PySem.F.slot_list_append PySem.F.type_list_append mt_append (pv 1) (pa_cons (pe_op o_mod (pv 3) pe_int) pa_nil)))
    (pss_one (ps_set (i := 3) sc_Lnumbers.nd rfl (Or.inl rfl) (pe_op o_div (pv 3) pe_int)))) pss_nil))))) (pss_cons (ps_expr (pe_bm PySem.F.plainAttrs_list PySem.F.slot_list_append PySem.F.type_list_append mt_append (pv 1) (pa_cons (pe_op o_mod (pv 2) pe_int) pa_nil)))
    (pss_one (ps_for PassesOwn.never rfl (pi_range1 rfl T.b_range (pa_cons pe_int pa_nil)) (pg_name (i := 4) sc_Lnumbers.nd rfl (Or.inl rfl)) (pss_one (ps_expr (pe_bm PySem.F.plainAttrs_list PySem.F.slot_list_append PySem.F.type_list_append mt_append (pv 1) (pa_cons (pe_op o_mod (pe_cl c_Lmixed (hr.mono (by first | decide | omega)) (by rfl) (pa_cons (pe_cl c_Lmixed (hr.mono (by first | decide | omega)) (by rfl) (pa_cons (pe_op o_mod (pv 2) pe_int) (pa_cons (pv 4) pa_nil))) (pa_cons (pe_op o_add (pv 4) pe_int) pa_nil))) pe_int) pa_nil))))))))))
    (pss_one (ps_ret (pv 1)))))
  · obtain ⟨x0, rfl, h⟩ := h
    exact pu_Lnumbers T h
/-- the draws: a list of the numbers' list and a place -/
def Draws (H : Hp) (d l : Addr) : Prop := ∃ (ms : List Int) (k : Int), H d = some (.lst [.ref l, .int k]) ∧ H l = some (.lst (ms.map V.int)) ∧ Sml ms ∧ ms.length ≤ 10000 ∧ 0 ≤ k
theorem Draws.fr {H H' : Hp} {d l : Addr} {m : List Addr} (h : Draws H d l) (f : Fr m H H') (n1 : d ∉ m) (n2 : l ∉ m) : Draws H' d l := by
  obtain ⟨ms, k, h1, h2, h3⟩ := h
  exact ⟨ms, k, f.at h1 n1, f.at h2 n2, h3⟩
def P_Ldraw (K : PySem.W.Frag) (A : Ad) (x0 : V) (H : Hp) (Q : VK) : Prop := ∃ (d l : Addr), x0 = .ref d ∧ Draws H d l ∧
  ∀ (n : Int) (H' : Hp), 0 ≤ n → n < 1000000 → Fr [d] H H' → Draws H' d l → Q (.int n) H'
def sp_Ldraw (K : PySem.W.Frag) (A : Ad) : Sp := fun vs H Q _ => ∃ x0, vs = [x0] ∧ P_Ldraw K A x0 H Q
theorem c_Ldraw {K : PySem.W.Frag} {A : Ad} {x0 : V} {H : Hp} {Q : VK} {E : XK} (h : P_Ldraw K A x0 H Q) : sp_Ldraw K A [x0] H Q E := ⟨_, rfl, h⟩
theorem sc_Ldraw : FnScope ["_law_draws", "_law_at", "_law_first"] ["_law_draws"] (defScope s_Ldraw) := ⟨rfl, rfl, rfl, by decide +kernel, rfl, by decide +kernel, by decide +kernel⟩
def t_Ldraw (K : PySem.W.Frag) (A : Ad) : TS :=
  (tSeq (tAsg (tOp (rIxL K) (tVar 0) (tC (.int 1))) (gName 1))
    (tSeq (tAsg (tOp oAdd (tVar 1) (tC (.int 1))) (gSub (tVar 0) (tC (.int 1)) rSetL))
    (tSeq (tIfS (tTest (tOp cLt (tVar 1) (tCB (rLenSq K) (tCons (tOp (rIxL K) (tVar 0) (tC (.int 0))) tNil)))) (tRet (tOp (rIxL K) (tOp (rIxL K) (tVar 0) (tC (.int 0))) (tVar 1))) tNext)
    (tSeq (tAsg (tOp oAdd (tC (.int 1)) (tVar 1)) (gName 2))
    (tSeq (tIfS (tTest (tOp cGt (tCB (rLenSq K) (tCons (tOp (rIxL K) (tVar 0) (tC (.int 0))) tNil)) (tC (.int 0)))) (tAsg (tOp oAdd (tVar 2) (tOp oMul (tC (.int 1009)) (tOp (rIxL K) (tOp (rIxL K) (tVar 0) (tC (.int 0))) (tC (.int 0))))) (gName 2)) tNext)
    (tRet (tOp oMod (tCl (sp_Lmixed K A) (tCons (tCl (sp_Lmixed K A) (tCons (tVar 2) (tCons (tVar 1) tNil))) (tCons (tC (.int 5)) tNil))) (tC (.int 1000000)))))))))
theorem pu_Ldraw (T : Txt K mg A) {x0 : V} {H : Hp} {Q : VK} (h : P_Ldraw K A x0 H Q) : t_Ldraw K A { nx := fun _ H' => Q .non H', rt := Q } [some x0, none, none] H := by
  obtain ⟨d, l, rfl, ⟨ms, k, hd, hL, sm, hlen, hk⟩, q⟩ := h
  unfold t_Ldraw
  walk_at "go"
  refine g_setL hd (j := 1) rfl fun H1 f1 e1 => ?_
  have nld : l ≠ d := fun z => by
    subst z
    rw [hd] at hL
    have e := congrArg List.length (HO.lst.inj (Option.some.inj hL))
    cases ms with
    | nil => cases e
    | cons a r => cases HO.lst.inj (Option.some.inj hL)
  have hL1 : H1 l = some (.lst (ms.map V.int)) := f1.at hL (nin1 nld nin0)
  have D1 : Draws H1 d l := ⟨ms, k + 1, e1, hL1, sm, hlen, by omega⟩
  have e1' : H1 d = some (.lst [.ref l, .int (k + 1)]) := e1
  walk_at "go"
  rw [List.length_map]
  refine g_ite (fun c => ?_) (fun c => ?_)
  · walk_at "go"
    obtain ⟨v, hv, hv2⟩ := atI_of (xs := ms.map V.int) hk (by rw [List.length_map]; exact c)
    obtain ⟨n, rfl, _, hmem⟩ := getI hv2
    refine g_ixL (SqL.of hL1) hv ?_
    exact q n H1 (sm n hmem).1 (sm n hmem).2 f1 D1
  · have fin : ∀ n : Int, Q (.int (n % 1000000)) H1 := fun n => q _ H1 (Int.emod_nonneg _ (by decide)) (Int.emod_lt_of_pos _ (by decide)) f1 D1
    walk_at "go"
    rw [List.length_map]
    refine g_ite (fun c2 => ?_) (fun c2 => ?_)
    · walk_at "go"
      obtain ⟨v, hv, hv2⟩ := atI_of (xs := ms.map V.int) (z := 0) (Int.le_refl _) (by rw [List.length_map]; exact c2)
      obtain ⟨n, rfl, _, hmem⟩ := getI hv2
      refine g_ixL (SqL.of hL1) hv ?_
      walk_at "go"
      refine c_Lmixed ⟨_, _, rfl, rfl, fun z _ _ => ?_⟩
      walk_at "go"
      refine c_Lmixed ⟨_, _, rfl, rfl, fun z2 _ _ => ?_⟩
      walk_at "go"
      exact fin z2
    · walk_at "go"
      refine c_Lmixed ⟨_, _, rfl, rfl, fun z _ _ => ?_⟩
      walk_at "go"
      refine c_Lmixed ⟨_, _, rfl, rfl, fun z2 _ _ => ?_⟩
      walk_at "go"
      exact fin z2
theorem ok_Ldraw {f : Addr} {fd : FuncData} (F : Fun K "_law_draw" "_law_draw" s_Ldraw f fd) (T : Txt K mg A) (c_Lmixed : Cal P w K mg base "_law_mixed" 1 ["_law_number", "_law_k"] (sp_Lmixed K A)) : FnOk P w K mg base CX0 (2) f fd ["_law_draws"] (sp_Ldraw K A) := by
  refine F.ok sc_Ldraw (fun vs H Q E h => ?_) (fun cdv Ar outer s H vs Q E hr h => ⟨t_Ldraw K A, ?_, ?_⟩)
  · obtain ⟨x0, rfl, _⟩ := h
    rfl
  · have hu := hu_of hr
    exact (pss_cons (ps_set (i := 1) sc_Ldraw.nd rfl (Or.inl rfl) (pe_ix ix_list (pv 0) pe_int (fun _ _ => rfl)))
    (pss_cons (ps_asg (pe_op o_add (pv 1) pe_int) (pg_sub (pv 0) pe_int set_list))
    (pss_cons (ps_if (pt_cmpR c_lt (pv 1) (pe_callB b_len (by rfl) T.b_len (by decide +kernel) (pa_cons (pe_ix ix_list (pv 0) pe_int (fun _ _ => rfl)) pa_nil)) (nomark _)) (pss_one (ps_ret (pe_ix ix_list (pe_ix ix_list (pv 0) pe_int (fun _ _ => rfl)) (pv 1) (fun _ _ => rfl)))) pss_nil)
    (pss_cons (ps_set (i := 2) sc_Ldraw.nd rfl (Or.inl rfl) (pe_op o_add pe_int (pv 1)))
    (pss_cons (ps_if (pt_cmpR c_gt (pe_callB b_len (by rfl) T.b_len (by decide +kernel) (pa_cons (pe_ix ix_list (pv 0) pe_int (fun _ _ => rfl)) pa_nil)) pe_int (nomark _)) (pss_one (ps_set (i := 2) sc_Ldraw.nd rfl (Or.inl rfl) (pe_op o_add (pv 2) (pe_op o_mul pe_int (pe_ix ix_list (pe_ix ix_list (pv 0) pe_int (fun _ _ => rfl)) pe_int (fun _ _ => rfl)))))) pss_nil)
    (pss_one (ps_ret (pe_op o_mod (pe_cl c_Lmixed (hr.mono (by first | decide | omega)) (by rfl) (pa_cons (pe_cl c_Lmixed (hr.mono (by first | decide | omega)) (by rfl) (pa_cons (pv 2) (pa_cons (pv 1) pa_nil))) (pa_cons pe_int pa_nil))) pe_int))))))))
  · obtain ⟨x0, rfl, h⟩ := h
    exact pu_Ldraw T h
theorem Draws.new1 {H : Hp} {d l p : Addr} (h : Draws H d l) (e : H p = none) : d ≠ p := by
  obtain ⟨ms, k, h1, h2, _⟩ := h
  exact ne_of_none h1 e
theorem Draws.new2 {H : Hp} {d l p : Addr} (h : Draws H d l) (e : H p = none) : l ≠ p := by
  obtain ⟨ms, k, h1, h2, _⟩ := h
  exact ne_of_none h2 e
theorem Draws.ne {H : Hp} {d l p C dx : Addr} {fs : List (Str × V)} (h : Draws H d l) (e : H p = some (.ins C dx fs)) : d ≠ p ∧ l ≠ p := by
  obtain ⟨ms, k, h1, h2, _⟩ := h
  exact ⟨ne_of h1 e (by intro z; cases z), ne_of h2 e (by intro z; cases z)⟩
theorem Draws.ne' {H : Hp} {d l p : Addr} {xs : List V} (h : Draws H d l) (e : H p = some (.lst xs)) (n : xs.length ≠ 2) : d ≠ p := by
  obtain ⟨ms, k, h1, h2, _⟩ := h
  exact ne_of h1 e (by intro z; cases z; exact n rfl)
local macro_rules | `(tactic| walk_at "drw") => `(tactic| first
  | assumption
  | ((refine' Draws.fr ?h (by assumption) ?k ?l); (first | (case h => walk_at "drw") | fail); (first | (case k => walk_at "nin") | fail); (first | (case l => walk_at "nin") | fail)))
local macro_rules | `(tactic| walk_at "ne2") => `(tactic| first
  | exact Draws.new1 (by walk_at "drw") (by assumption) | exact Draws.new2 (by walk_at "drw") (by assumption)
  | exact Ne.symm (Draws.new1 (by walk_at "drw") (by assumption)) | exact Ne.symm (Draws.new2 (by walk_at "drw") (by assumption)))
local macro_rules | `(tactic| walk_at "go3") => `(tactic| ((with_reducible show sp_Ldraw _ _ _ _ _ _); refine' c_Ldraw ⟨_, _, rfl, ?D, ?_⟩; (first | (case D => walk_at "drw") | fail); intro _ _ _ _ _ _))


/-! ### _law_equal, _law_all_equal: what reads as one datum is found equal -/
def SeqD (H : Hp) (x : V) (ds : List PyData) : Prop := ∃ (a : Addr) (xs : List V), x = .ref a ∧ (H a = some (.lst xs) ∨ H a = some (.tup xs)) ∧ xs.length ≤ 1000000 ∧ DaL H xs ds
def P_Lequal (K : PySem.W.Frag) (A : Ad) (m : Nat) (x0 x1 : V) (H : Hp) (Q : VK) : Prop := ∃ d : PyData, Da H x0 d ∧ Da H x1 d ∧ dp d ≤ m ∧ Q (.bl true) H
def P_Lall_equal (K : PySem.W.Frag) (A : Ad) (m : Nat) (x0 x1 : V) (H : Hp) (Q : VK) : Prop := ∃ ds : List PyData, SeqD H x0 ds ∧ SeqD H x1 ds ∧ dpL ds + 1 ≤ m ∧ Q (.bl true) H
def sp_Lequal (K : PySem.W.Frag) (A : Ad) (m : Nat) : Sp := fun vs H Q _ => ∃ x0 x1, vs = [x0, x1] ∧ P_Lequal K A m x0 x1 H Q
theorem c_Lequal {K : PySem.W.Frag} {A : Ad} {m : Nat} {x0 x1 : V} {H : Hp} {Q : VK} {E : XK} (h : P_Lequal K A m x0 x1 H Q) : sp_Lequal K A m [x0, x1] H Q E := ⟨_, _, rfl, h⟩
def sp_Lall_equal (K : PySem.W.Frag) (A : Ad) (m : Nat) : Sp := fun vs H Q _ => ∃ x0 x1, vs = [x0, x1] ∧ P_Lall_equal K A m x0 x1 H Q
theorem c_Lall_equal {K : PySem.W.Frag} {A : Ad} {m : Nat} {x0 x1 : V} {H : Hp} {Q : VK} {E : XK} (h : P_Lall_equal K A m x0 x1 H Q) : sp_Lall_equal K A m [x0, x1] H Q E := ⟨_, _, rfl, h⟩
theorem sc_Lequal : FnScope ["_law_actual", "_law_due"] ["_law_actual", "_law_due"] (defScope s_Lequal) := ⟨rfl, rfl, rfl, by decide +kernel, rfl, by decide +kernel, by decide +kernel⟩
def t_Lequal (K : PySem.W.Frag) (A : Ad) (m : Nat) : TS :=
  (tSeq (tIfS (tB (tCB (rIsi K) (tCons (tVar 1) (tCons (tC (.ty "list")) tNil)))) (tSeq (tIfS (tOr (tNot (tB (tCB (rIsi K) (tCons (tVar 0) (tCons (tC (.ty "list")) tNil))))) (tTest (tOp rNe (tCB (rLenSq K) (tCons (tVar 0) tNil)) (tCB (rLenSq K) (tCons (tVar 1) tNil))))) (tRet (tC (.bl false))) tNext)
    (tRet (tCl (sp_Lall_equal K A m) (tCons (tVar 0) (tCons (tVar 1) tNil))))) tNext)
    (tSeq (tIfS (tB (tCB (rIsi K) (tCons (tVar 1) (tCons (tC (.ty "tuple")) tNil)))) (tSeq (tIfS (tOr (tNot (tB (tCB (rIsi K) (tCons (tVar 0) (tCons (tC (.ty "tuple")) tNil))))) (tTest (tOp rNe (tCB (rLenSq K) (tCons (tVar 0) tNil)) (tCB (rLenSq K) (tCons (tVar 1) tNil))))) (tRet (tC (.bl false))) tNext)
    (tRet (tCl (sp_Lall_equal K A m) (tCons (tVar 0) (tCons (tVar 1) tNil))))) tNext)
    (tSeq (tIfS (tB (tCB (rIsi K) (tCons (tVar 1) (tCons (tC (.ty "bool")) tNil)))) (tRet (tAndV (tCB (rIsi K) (tCons (tVar 0) (tCons (tC (.ty "bool")) tNil))) (tOp rEq (tVar 0) (tVar 1)))) tNext)
    (tSeq (tIfS (tB (tCB (rIsi K) (tCons (tVar 1) (tCons (tC (.ty "int")) tNil)))) (tRet (tAndV (tCB (rIsi K) (tCons (tVar 0) (tCons (tC (.ty "int")) tNil))) (tAndV (tNotV (tCB (rIsi K) (tCons (tVar 0) (tCons (tC (.ty "bool")) tNil)))) (tOp rEq (tVar 0) (tVar 1))))) tNext)
    (tSeq (tIfS (tB (tCB (rIsi K) (tCons (tVar 1) (tCons (tC (.ty "str")) tNil)))) (tRet (tAndV (tCB (rIsi K) (tCons (tVar 0) (tCons (tC (.ty "str")) tNil))) (tOp rEq (tVar 0) (tVar 1)))) tNext)
    (tRet (tOp rIsNon (tVar 0) (tC .non))))))))
theorem pu_Lequal (T : Txt K mg A) {m : Nat} {x0 x1 : V} {H : Hp} {Q : VK} (h : P_Lequal K A m x0 x1 H Q) : t_Lequal K A m { nx := fun _ H' => Q .non H', rt := Q } [some x0, some x1] H := by
  obtain ⟨d, h0, h1, hm, q⟩ := h
  unfold t_Lequal
  cases h0 with
  | non =>
    cases h1
    walk_at "go"
    exact q
  | bl b =>
    cases h1
    walk_at "go"
    simpa using q
  | int i =>
    cases h1
    walk_at "go"
    simpa using q
  | str z =>
    cases h1
    walk_at "go"
    simpa using q
  | lst e0 z0 r0 =>
    cases h1 with
    | lst e1 z1 r1 =>
      walk_at "go"
      refine g_iteN (fun c => absurd (by rw [r0.len, r1.len]) c) (fun c => ?_)
      walk_at "go"
      refine c_Lall_equal ⟨_, ⟨_, _, rfl, .inl e0, z0, r0⟩, ⟨_, _, rfl, .inl e1, z1, r1⟩, ?_, q⟩
      simpa [dp] using hm
  | tup e0 z0 r0 =>
    cases h1 with
    | tup e1 z1 r1 =>
      walk_at "go"
      refine g_iteN (fun c => absurd (by rw [r0.len, r1.len]) c) (fun c => ?_)
      walk_at "go"
      refine c_Lall_equal ⟨_, ⟨_, _, rfl, .inr e0, z0, r0⟩, ⟨_, _, rfl, .inr e1, z1, r1⟩, ?_, q⟩
      simpa [dp] using hm
theorem ok_Lequal {f : Addr} {fd : FuncData} (F : Fun K "_law_equal" "_law_equal" s_Lequal f fd) (T : Txt K mg A) {m : Nat} (c_Lall_equal : Cal P w K mg base "_law_all_equal" (2 * m) ["_law_actual", "_law_due"] (sp_Lall_equal K A m)) : FnOk P w K mg base CX0 (2 * m + 1) f fd ["_law_actual", "_law_due"] (sp_Lequal K A m) := by
  refine F.ok sc_Lequal (fun vs H Q E h => ?_) (fun cdv Ar outer s H vs Q E hr h => ⟨t_Lequal K A m, ?_, ?_⟩)
  · obtain ⟨x0, x1, rfl, _⟩ := h
    rfl
  · have hu := hu_of hr
    exact (pss_cons (ps_if (pt_val (pe_callB call_isi (by rfl) T.b_isinstance (by decide +kernel) (pa_cons (pv 1) (pa_cons (pe_bltn (by rfl) T.b_list (by decide +kernel) (v := .ty "list") rfl) pa_nil)))) (pss_cons (ps_if (PW.pt (pw_or (pt_not (pt_val (pe_callB call_isi (by rfl) T.b_isinstance (by decide +kernel) (pa_cons (pv 0) (pa_cons (pe_bltn (by rfl) T.b_list (by decide +kernel) (v := .ty "list") rfl) pa_nil))))) (pw_or1 (pt_cmpR op_ne (pe_callB b_len (by rfl) T.b_len (by decide +kernel) (pa_cons (pv 0) pa_nil)) (pe_callB b_len (by rfl) T.b_len (by decide +kernel) (pa_cons (pv 1) pa_nil)) (nomark _))))) (pss_one (ps_ret pe_bl)) pss_nil)
    (pss_one (ps_ret (pe_cl c_Lall_equal (hr.mono (by first | decide | omega)) (by rfl) (pa_cons (pv 0) (pa_cons (pv 1) pa_nil)))))) pss_nil)
    (pss_cons (ps_if (pt_val (pe_callB call_isi (by rfl) T.b_isinstance (by decide +kernel) (pa_cons (pv 1) (pa_cons (pe_bltn (by rfl) T.b_tuple (by decide +kernel) (v := .ty "tuple") rfl) pa_nil)))) (pss_cons (ps_if (PW.pt (pw_or (pt_not (pt_val (pe_callB call_isi (by rfl) T.b_isinstance (by decide +kernel) (pa_cons (pv 0) (pa_cons (pe_bltn (by rfl) T.b_tuple (by decide +kernel) (v := .ty "tuple") rfl) pa_nil))))) (pw_or1 (pt_cmpR op_ne (pe_callB b_len (by rfl) T.b_len (by decide +kernel) (pa_cons (pv 0) pa_nil)) (pe_callB b_len (by rfl) T.b_len (by decide +kernel) (pa_cons (pv 1) pa_nil)) (nomark _))))) (pss_one (ps_ret pe_bl)) pss_nil)
    (pss_one (ps_ret (pe_cl c_Lall_equal (hr.mono (by first | decide | omega)) (by rfl) (pa_cons (pv 0) (pa_cons (pv 1) pa_nil)))))) pss_nil)
    (pss_cons (ps_if (pt_val (pe_callB call_isi (by rfl) T.b_isinstance (by decide +kernel) (pa_cons (pv 1) (pa_cons (pe_bltn (by rfl) T.b_bool (by decide +kernel) (v := .ty "bool") rfl) pa_nil)))) (pss_one (ps_ret (pe_and (pe_callB call_isi (by rfl) T.b_isinstance (by decide +kernel) (pa_cons (pv 0) (pa_cons (pe_bltn (by rfl) T.b_bool (by decide +kernel) (v := .ty "bool") rfl) pa_nil))) (pe_one (pe_cmpR op_eq (pv 0) (pv 1) (nomark _)))))) pss_nil)
    (pss_cons (ps_if (pt_val (pe_callB call_isi (by rfl) T.b_isinstance (by decide +kernel) (pa_cons (pv 1) (pa_cons (pe_bltn (by rfl) T.b_int (by decide +kernel) (v := .ty "int") rfl) pa_nil)))) (pss_one (ps_ret (pe_and (pe_callB call_isi (by rfl) T.b_isinstance (by decide +kernel) (pa_cons (pv 0) (pa_cons (pe_bltn (by rfl) T.b_int (by decide +kernel) (v := .ty "int") rfl) pa_nil))) (pe_and (pe_not (pe_callB call_isi (by rfl) T.b_isinstance (by decide +kernel) (pa_cons (pv 0) (pa_cons (pe_bltn (by rfl) T.b_bool (by decide +kernel) (v := .ty "bool") rfl) pa_nil)))) (pe_one (pe_cmpR op_eq (pv 0) (pv 1) (nomark _))))))) pss_nil)
    (pss_cons (ps_if (pt_val (pe_callB call_isi (by rfl) T.b_isinstance (by decide +kernel) (pa_cons (pv 1) (pa_cons (pe_bltn (by rfl) T.b_str (by decide +kernel) (v := .ty "str") rfl) pa_nil)))) (pss_one (ps_ret (pe_and (pe_callB call_isi (by rfl) T.b_isinstance (by decide +kernel) (pa_cons (pv 0) (pa_cons (pe_bltn (by rfl) T.b_str (by decide +kernel) (v := .ty "str") rfl) pa_nil))) (pe_one (pe_cmpR op_eq (pv 0) (pv 1) (nomark _)))))) pss_nil)
    (pss_one (ps_ret (pe_cmpR c_isN (pv 0) pe_non (nomark _)))))))))
  · obtain ⟨x0, x1, rfl, h⟩ := h
    exact pu_Lequal T h
theorem sc_Lall_equal : FnScope ["_law_actual", "_law_due", "_law_k"] ["_law_actual", "_law_due"] (defScope s_Lall_equal) := ⟨rfl, rfl, rfl, by decide +kernel, rfl, by decide +kernel, by decide +kernel⟩
def t_Lall_equal (K : PySem.W.Frag) (A : Ad) (m : Nat) : TS :=
  (tSeq (tFor (iRng1 (tCons (tCB (rLenSq K) (tCons (tVar 1) tNil)) tNil)) (gName 2) (tIfS (tNot (tB (tCl (sp_Lequal K A m) (tCons (tOp (rIx K) (tVar 0) (tVar 2)) (tCons (tOp (rIx K) (tVar 1) (tVar 2)) tNil))))) (tRet (tC (.bl false))) tNext))
    (tRet (tC (.bl true))))
theorem g_lenS {xs : List V} {H : Hp} {Q : VK} {p : Addr} (h : H p = some (.lst xs) ∨ H p = some (.tup xs)) (q : Q (.int xs.length) H) : rLenSq K [.ref p] H Q := h.elim (fun e => g_lenL (SqL.of e) q) (fun e => g_lenT (SqT.of e) q)
theorem g_ixS {xs : List V} {H : Hp} {Q : VK} {p : Addr} {i : Int} {v : V} (h : H p = some (.lst xs) ∨ H p = some (.tup xs)) (ha : atI xs i = some v) (q : Q v H) : rIx K (.ref p) (.int i) H Q :=
  h.elim (fun e => .inl (g_ixL (SqL.of e) ha q)) (fun e => .inr (.inl (g_ixT (SqT.of e) ha q)))
theorem pu_Lall_equal (T : Txt K mg A) {m : Nat} {x0 x1 : V} {H : Hp} {Q : VK} (h : P_Lall_equal K A (m + 1) x0 x1 H Q) : t_Lall_equal K A m { nx := fun _ H' => Q .non H', rt := Q } [some x0, some x1, none] H := by
  obtain ⟨ds, ⟨a, xs, rfl, ha, hz, ra⟩, ⟨b, ys, rfl, hb, hy, rb⟩, hm, q⟩ := h
  unfold t_Lall_equal
  walk_at "go"
  refine g_lenS hb ?_
  walk_at "go"
  have hl := ra.len
  have hk := rb.len
  refine f_range (lo := 0) (fun i σ H' => (∃ v, σ = [some (.ref a), some (.ref b), v]) ∧ H' = H) ⟨⟨_, rfl⟩, rfl⟩ ?_ ?_
  · rintro i σ H' hi ⟨⟨v, rfl⟩, rfl⟩
    have hi2 : i < xs.length := by omega
    have hi3 : i < ys.length := by omega
    obtain ⟨d, hd, dd⟩ := ra.get (List.getElem?_eq_getElem hi2)
    obtain ⟨d', hd', dd'⟩ := rb.get (List.getElem?_eq_getElem hi3)
    rw [hd] at hd'
    cases hd'
    walk_at "go"
    refine g_ixS ha (v := xs[i]) (by rw [Int.zero_add]; exact atI_nat (List.getElem?_eq_getElem hi2)) ?_
    walk_at "go"
    refine g_ixS hb (v := ys[i]) (by rw [Int.zero_add]; exact atI_nat (List.getElem?_eq_getElem hi3)) ?_
    walk_at "go"
    refine c_Lequal ⟨d, dd, dd', ?_, ?_⟩
    · have := dpL_get hd
      omega
    · walk_at "go"
      exact ⟨⟨_, rfl⟩, rfl⟩
  · rintro σ H' ⟨⟨v, rfl⟩, rfl⟩
    walk_at "go"
    exact q
theorem ok_Lall_equal {f : Addr} {fd : FuncData} (F : Fun K "_law_all_equal" "_law_all_equal" s_Lall_equal f fd) (T : Txt K mg A) {m : Nat} (c_Lequal : Cal P w K mg base "_law_equal" (2 * m + 1) ["_law_actual", "_law_due"] (sp_Lequal K A m)) : FnOk P w K mg base CX0 (2 * m + 2) f fd ["_law_actual", "_law_due"] (sp_Lall_equal K A (m + 1)) := by
  refine F.ok sc_Lall_equal (fun vs H Q E h => ?_) (fun cdv Ar outer s H vs Q E hr h => ⟨t_Lall_equal K A m, ?_, ?_⟩)
  · obtain ⟨x0, x1, rfl, _⟩ := h
    rfl
  · have hu := hu_of hr
    exact (pss_cons (ps_for PassesOwn.never rfl (pi_range1 rfl T.b_range (pa_cons (pe_callB b_len (by rfl) T.b_len (by decide +kernel) (pa_cons (pv 1) pa_nil)) pa_nil)) (pg_name (i := 2) sc_Lall_equal.nd rfl (Or.inl rfl)) (pss_one (ps_if (pt_not (pt_val (pe_cl c_Lequal (hr.mono (by first | decide | omega)) (by rfl) (pa_cons (pe_ix ix_seq (pv 0) (pv 2) (fun _ _ => rfl)) (pa_cons (pe_ix ix_seq (pv 1) (pv 2) (fun _ _ => rfl)) pa_nil))))) (pss_one (ps_ret pe_bl)) pss_nil)))
    (pss_one (ps_ret pe_bl)))
  · obtain ⟨x0, x1, rfl, h⟩ := h
    exact pu_Lall_equal T h
theorem eq_all {fE fA : Addr} {fdE fdA : FuncData} (FE : Fun K "_law_equal" "_law_equal" s_Lequal fE fdE) (T : Txt K mg A) (hE : mg "_law_equal" = some (.ref fE)) (bE : Binds K fdE ["_law_actual", "_law_due"] [])
    (FA : Fun K "_law_all_equal" "_law_all_equal" s_Lall_equal fA fdA) (hA : mg "_law_all_equal" = some (.ref fA)) (bA : Binds K fdA ["_law_actual", "_law_due"] []) :
    ∀ m : Nat, Cal P w K mg base "_law_all_equal" (2 * m) ["_law_actual", "_law_due"] (sp_Lall_equal K A m)
  | 0 => by
    have no : ∀ vs H Q E, ¬ sp_Lall_equal K A 0 vs H Q E := fun vs H Q E h => by
      obtain ⟨x0, x1, _, ds, _, _, hm, _⟩ := h
      omega
    exact ⟨fA, fdA, ⟨fun vs H Q E h => absurd h (no vs H Q E), fun A outer s H args us vs Q E _ _ _ _ h => absurd h (no vs H Q E)⟩, hA, FA.kp, bA⟩
  | m + 1 => ⟨fA, fdA, ok_Lall_equal FA T ⟨fE, fdE, ok_Lequal FE T (eq_all FE T hE bE FA hA bA m), hE, FE.kp, bE⟩, hA, FA.kp, bA⟩
theorem eq_one {fE fA : Addr} {fdE fdA : FuncData} (FE : Fun K "_law_equal" "_law_equal" s_Lequal fE fdE) (T : Txt K mg A) (hE : mg "_law_equal" = some (.ref fE)) (bE : Binds K fdE ["_law_actual", "_law_due"] [])
    (FA : Fun K "_law_all_equal" "_law_all_equal" s_Lall_equal fA fdA) (hA : mg "_law_all_equal" = some (.ref fA)) (bA : Binds K fdA ["_law_actual", "_law_due"] []) (m : Nat) :
    Cal P w K mg base "_law_equal" (2 * m + 1) ["_law_actual", "_law_due"] (sp_Lequal K A m) := ⟨fE, fdE, ok_Lequal FE T (eq_all FE T hE bE FA hA bA m), hE, FE.kp, bE⟩

/-! ### setups, stays and parties as data -/
structure Setup where
  rooms : List Int
  nights : Int
  sellers : Int
  prices : List (List Int)
  share : Int
def rowD (r : List Int) : PyData := .tuple (r.map .int)
def setupD (S : Setup) : PyData := .tuple [rowD S.rooms, .int S.nights, .int S.sellers, .tuple (S.prices.map rowD), .int S.share]
structure SetupOk (S : Setup) : Prop where
  k1 : 1 ≤ S.rooms.length
  k3 : S.rooms.length ≤ 3
  rm : ∀ z ∈ S.rooms, 0 ≤ z ∧ z ≤ 4
  n1 : 1 ≤ S.nights
  n2 : S.nights ≤ 12
  s1 : 1 ≤ S.sellers
  s2 : S.sellers ≤ 4
  pl : S.prices.length = S.rooms.length
  pn : ∀ r ∈ S.prices, r.length = S.nights.toNat ∧ ∀ z ∈ r, 0 ≤ z ∧ z ≤ 1000000
  h1 : 0 ≤ S.share
  h2 : S.share ≤ 100
theorem imm_row (r : List Int) : imm (rowD r) = true := immL_of fun d hd => by obtain ⟨n, _, rfl⟩ := List.mem_map.mp hd; rfl
theorem imm_setup (S : Setup) : imm (setupD S) = true := by
  have h : immL (S.prices.map rowD) = true := immL_of fun d hd => by obtain ⟨r, _, rfl⟩ := List.mem_map.mp hd; exact imm_row r
  simp [setupD, imm, immL, h, imm_row]
/-- the parts of a setup in the heap -/
structure SetAt (H : Hp) (x : V) (S : Setup) (s r p : Addr) (ps : List V) : Prop where
  e : x = .ref s
  t : H s = some (.tup [.ref r, .int S.nights, .int S.sellers, .ref p, .int S.share])
  r : H r = some (.tup (S.rooms.map V.int))
  p : H p = some (.tup ps)
  ps : DaL H ps (S.prices.map rowD)
theorem SetAt.of {H : Hp} {x : V} {S : Setup} (h : Da H x (setupD S)) : ∃ s r p ps, SetAt H x S s r p ps := by
  obtain ⟨s, xs, rfl, e, _, q⟩ := h.tup1
  cases q with
  | cons a q => cases q with
    | cons b q => cases q with
      | cons c q => cases q with
        | cons d q => cases q with
          | cons f q =>
            cases q
            obtain ⟨r, rs, rfl, er, _, qr⟩ := a.tup1
            obtain ⟨p, ps, rfl, ep, _, qp⟩ := d.tup1
            cases b.int1
            cases c.int1
            cases f.int1
            rw [DaL.ints qr] at er
            exact ⟨s, r, p, ps, rfl, e, er, ep, qp⟩
theorem SetAt.row {H : Hp} {x : V} {S : Setup} {s r p : Addr} {ps : List V} (h : SetAt H x S s r p ps) {k : Nat} {row : List Int} (e : S.prices[k]? = some row) : ∃ a, ps[k]? = some (.ref a) ∧ H a = some (.tup (row.map V.int)) := by
  obtain ⟨v, hv, dv⟩ := h.ps.get' (i := k) (d := rowD row) (by rw [List.getElem?_map, e]; rfl)
  obtain ⟨a, xs, rfl, ea, _, q⟩ := dv.tup1
  rw [DaL.ints q] at ea
  exact ⟨a, hv, ea⟩
/-- a stay: kind, first, end -/
abbrev Stay := Int × Int × Int
def stayD (s : Stay) : PyData := .tuple [.int s.1, .int s.2.1, .int s.2.2]
def partyD (ss : List Stay) : PyData := .tuple (ss.map stayD)
def StayOk (S : Setup) (s : Stay) : Prop := 0 ≤ s.1 ∧ s.1 < S.rooms.length ∧ 0 ≤ s.2.1 ∧ s.2.1 < s.2.2 ∧ s.2.2 ≤ S.nights
theorem imm_stay (s : Stay) : imm (stayD s) = true := rfl
theorem imm_stays (ss : List Stay) : immL (ss.map stayD) = true := immL_of fun d hd => by obtain ⟨n, _, rfl⟩ := List.mem_map.mp hd; rfl
theorem imm_party (ss : List Stay) : imm (partyD ss) = true := imm_stays ss
theorem stay_at {H : Hp} {v : V} {s : Stay} (h : Da H v (stayD s)) : ∃ a, v = .ref a ∧ H a = some (.tup [.int s.1, .int s.2.1, .int s.2.2]) := by
  obtain ⟨a, xs, rfl, e, _, q⟩ := h.tup1
  obtain ⟨x, y, z, rfl, dx, dy, dz⟩ := q.three
  cases dx.int1
  cases dy.int1
  cases dz.int1
  exact ⟨a, rfl, e⟩
theorem stays_get {H : Hp} {xs : List V} {ss : List Stay} {i : Nat} {x : V} (h : DaL H xs (ss.map stayD)) (e : xs[i]? = some x) : ∃ s a, ss[i]? = some s ∧ x = .ref a ∧ H a = some (.tup [.int s.1, .int s.2.1, .int s.2.2]) ∧ Da H x (stayD s) := by
  obtain ⟨d, hd, dd⟩ := h.get e
  rw [List.getElem?_map] at hd
  cases q : ss[i]? with
  | none => rw [q] at hd; cases hd
  | some s =>
    rw [q] at hd
    cases hd
    obtain ⟨a, rfl, ea⟩ := stay_at dd
    exact ⟨s, a, rfl, rfl, ea, dd⟩

theorem stays_alike (ss : List Stay) : PySem.W.AllAlike (ss.map stayD) := fun d hd d' hd' => by
  obtain ⟨s, _, rfl⟩ := List.mem_map.mp hd
  obtain ⟨s', _, rfl⟩ := List.mem_map.mp hd'
  rfl
theorem stays_sortable (ss : List Stay) : PySem.W.Sortable (ss.map stayD) := .inl fun d hd => by
  obtain ⟨s, _, rfl⟩ := List.mem_map.mp hd
  exact ⟨_, _, rfl⟩
theorem stays_depth (ss : List Stay) : ∀ d ∈ ss.map stayD, d.depth ≤ 60 := fun d hd => by
  obtain ⟨s, _, rfl⟩ := List.mem_map.mp hd
  simp [stayD, PyData.depth, PyData.depthAll]
/-- stays in their order -/
def ssrt (ss : List Stay) : List Stay := ss.mergeSort (PySem.W.dataLe false stayD)
theorem ssrt_map (ss : List Stay) : (ssrt ss).map stayD = srt (ss.map stayD) := srt_map stayD ss
theorem ssrt_perm (ss : List Stay) : (ssrt ss).Perm ss := List.mergeSort_perm ss _
theorem ssrt_ssrt (ss : List Stay) : ssrt (ssrt ss) = ssrt ss := List.mergeSort_of_pairwise (PySem.W.sort_pairwise (dle_total stayD) ss)
/-- a party of the setup -/
structure PartyOk (S : Setup) (ss : List Stay) : Prop where
  l1 : 1 ≤ ss.length
  l4 : ss.length ≤ 4
  ok : ∀ s ∈ ss, StayOk S s
  so : ssrt ss = ss

/-! ### what is a setup -/
def isI : PyData → Bool
  | .int _ => true
  | _ => false
def isF (lo hi : Int) : PyData → Bool
  | .int i => decide (lo ≤ i) && decide (i ≤ hi)
  | _ => false
def rowOk (n : Int) : PyData → Bool
  | .tuple r => decide ((r.length : Int) = n) && r.all (isF 0 1000000)
  | _ => false
def pricesOk (k n : Int) : PyData → Bool
  | .tuple ps => decide ((ps.length : Int) = k) && ps.all (rowOk n)
  | _ => false
def intOf : PyData → Int
  | .int i => i
  | _ => 0
def roomsOk : PyData → Bool
  | .tuple rs => decide (1 ≤ (rs.length : Int)) && decide ((rs.length : Int) ≤ 3) && rs.all (isF 0 4)
  | _ => false
def lenOf : PyData → Int
  | .tuple rs => rs.length
  | _ => 0
def isSet : PyData → Bool
  | .tuple [r, n, s, p, h] => roomsOk r && (isF 1 12 n && isF 1 4 s) && (pricesOk (lenOf r) (intOf n) p && isF 0 100 h)
  | _ => false
theorem isF_int {lo hi : Int} {d : PyData} (h : isF lo hi d = true) : ∃ i, d = .int i ∧ lo ≤ i ∧ i ≤ hi := by
  cases d with
  | int i =>
    rw [isF, Bool.and_eq_true] at h
    exact ⟨i, rfl, of_decide_eq_true h.1, of_decide_eq_true h.2⟩
  | _ => cases h

/-! ### setups, stays, parties and deeds of worlds are drawn -/
def Rooms (r : List Int) : Prop := 1 ≤ r.length ∧ r.length ≤ 3 ∧ ∀ y ∈ r, 0 ≤ y ∧ y ≤ 4
def P_Lsetup (K : PySem.W.Frag) (A : Ad) (x0 : V) (H : Hp) (Q : VK) : Prop := ∃ (d l : Addr), x0 = .ref d ∧ Draws H d l ∧
  ∀ (v : V) (S : Setup) (H' : Hp), SetupOk S → Da H' v (setupD S) → Fr [d] H H' → Draws H' d l → Q v H'
def sp_Lsetup (K : PySem.W.Frag) (A : Ad) : Sp := fun vs H Q _ => ∃ x0, vs = [x0] ∧ P_Lsetup K A x0 H Q
theorem c_Lsetup {K : PySem.W.Frag} {A : Ad} {x0 : V} {H : Hp} {Q : VK} {E : XK} (h : P_Lsetup K A x0 H Q) : sp_Lsetup K A [x0] H Q E := ⟨_, rfl, h⟩
theorem sc_Lsetup : FnScope ["_law_draws", "_law_rooms", "_law_nights", "_law_sellers", "_law_dear", "_law_prices", "_law_k", "_law_t"] ["_law_draws"] (defScope s_Lsetup) := ⟨rfl, rfl, rfl, by decide +kernel, rfl, by decide +kernel, by decide +kernel⟩
def t_Lsetup (K : PySem.W.Frag) (A : Ad) : TS :=
  (tSeq (tAsg (tCB (rTupOf K) (tCons (tLc (iRng1 (tCons (tOp oAdd (tC (.int 1)) (tOp oDiv (tOp oMod (tCl (sp_Ldraw K A) (tCons (tVar 0) tNil)) (tC (.int 4))) (tC (.int 3)))) tNil)) (gName 6) tYes (tOp (rIxL K) (tLst (tCons (tC (.int 1)) (tCons (tC (.int 2)) (tCons (tC (.int 1)) (tCons (tC (.int 0)) (tCons (tC (.int 3)) tNil)))))) (tOp oMod (tCl (sp_Ldraw K A) (tCons (tVar 0) tNil)) (tC (.int 5)))) [6]) tNil)) (gName 1))
    (tSeq (tAsg (tOp oAdd (tC (.int 1)) (tOp oMod (tCl (sp_Ldraw K A) (tCons (tVar 0) tNil)) (tC (.int 4)))) (gName 2))
    (tSeq (tAsg (tOp oAdd (tC (.int 1)) (tOp oMod (tCl (sp_Ldraw K A) (tCons (tVar 0) tNil)) (tC (.int 3)))) (gName 3))
    (Evl.tCut (tIfS (tTest (tOp rEq (tOp oMod (tCl (sp_Ldraw K A) (tCons (tVar 0) tNil)) (tC (.int 4))) (tC (.int 0)))) (tSeq (tAsg (tCB (rTupOf K) (tCons (tLc (iRng1 (tCons (tOp oAdd (tC (.int 1)) (tOp oMod (tCl (sp_Ldraw K A) (tCons (tVar 0) tNil)) (tC (.int 3)))) tNil)) (gName 6) tYes (tOp oMod (tCl (sp_Ldraw K A) (tCons (tVar 0) tNil)) (tC (.int 5))) [6]) tNil)) (gName 1))
    (tSeq (tAsg (tOp oAdd (tC (.int 1)) (tOp oMod (tCl (sp_Ldraw K A) (tCons (tVar 0) tNil)) (tC (.int 12)))) (gName 2))
    (tAsg (tOp oAdd (tC (.int 1)) (tOp oMod (tCl (sp_Ldraw K A) (tCons (tVar 0) tNil)) (tC (.int 4)))) (gName 3)))) tNext)
    (tSeq (tAsg (tOp (rIxL K) (tLst (tCons (tC (.int 200)) (tCons (tC (.int 1000001)) tNil))) (tOp oMod (tCl (sp_Ldraw K A) (tCons (tVar 0) tNil)) (tC (.int 2)))) (gName 4))
    (tSeq (tAsg (tCB (rTupOf K) (tCons (tLc (iTup K (tVar 1)) (gName 6) tYes (tCB (rTupOf K) (tCons (tLc (iRng1 (tCons (tVar 2) tNil)) (gName 7) tYes (tOp oMod (tOp oMul (tCl (sp_Ldraw K A) (tCons (tVar 0) tNil)) (tC (.int 7))) (tVar 4)) [7]) tNil)) [6]) tNil)) (gName 5))
    (tRet (tTup (tCons (tVar 1) (tCons (tVar 2) (tCons (tVar 3) (tCons (tVar 5) (tCons (tOp oMod (tCl (sp_Ldraw K A) (tCons (tVar 0) tNil)) (tC (.int 101))) tNil)))))))))))))
theorem pu_Lsetup (T : Txt K mg A) {x0 : V} {H : Hp} {Q : VK} (h : P_Lsetup K A x0 H Q) : t_Lsetup K A { nx := fun _ H' => Q .non H', rt := Q } [some x0, none, none, none, none, none, none, none] H := by
  obtain ⟨d, l, rfl, D0, k⟩ := h
  unfold t_Lsetup
  walk_at "go"
  rename_i z H1 z0 z1 f1 D1
  refine l_range (lo := 0) (n := (1 + z % 4 / 3).toNat) fun Dl H2 nD f2 e2 => ⟨fun i acc H' => ∃ r : List Int, acc = r.map V.int ∧ r.length = i ∧ (∀ y ∈ r, 0 ≤ y ∧ y ≤ 4) ∧ Fr [d] H1 H' ∧ Draws H' d l, ⟨[], rfl, rfl, fun _ q => (nomatch q), f2.of0, D1.fr f2 nin0 nin0⟩, fun i acc H' hi ha ⟨r, e, hr, hm, f, D⟩ => ?_, fun acc H' ha ⟨r, e, hr, hm, f, D⟩ => ?_⟩
  · walk_at "go"
    refine ⟨rfl, ?_⟩
    walk_at "go"
    rename_i t H3 n3 f3 e3 y H4 y0 y1 f4 D4
    have nd : Dl ≠ d := (D1.new1 nD).symm
    have nl : Dl ≠ l := (D1.new2 nD).symm
    have td : t ≠ d := (D.new1 n3).symm
    obtain ⟨v, hv, hmem⟩ := atI_mem (xs := [V.int 1, V.int 2, V.int 1, V.int 0, V.int 3]) (z := y % 5) (by omega) (by show y % 5 < 5; omega)
    obtain ⟨m, rfl, hm1, hm4⟩ : ∃ m, v = .int m ∧ 0 ≤ m ∧ m ≤ 4 := by
      simp only [List.mem_cons, List.not_mem_nil, or_false] at hmem
      rcases hmem with h | h | h | h | h <;> exact ⟨_, h, by decide, by decide⟩
    refine g_ixL (SqL.of (f4.at e3 (nin1 td nin0))) hv ?_
    refine lcY_of (f4.at (f3.at0 ha) (nin1 nd nin0)) (by rw [e]; walk_at "sz") fun H5 f5 e5 => ⟨r ++ [m], by rw [e, List.map_append]; rfl, by rw [List.length_append, hr]; rfl, fun q hq => ?_, ?_, D4.fr f5 (nin1 nd.symm nin0) (nin1 nl.symm nin0)⟩
    · rcases List.mem_append.mp hq with h | h
      · exact hm q h
      · rw [List.mem_singleton.mp h]; exact ⟨hm1, hm4⟩
    · exact ((f.then0 f3).transL f4).own1 f5 nD
  · have hrl : Rooms r := ⟨by omega, by omega, hm⟩
    have F : Fr [d] H H' := f1.transL f
    clear e2 f2 f1 f D1 nD z0 z1
    subst e
    walk_at "go"
    rename_i rt H3 n3 f3 e3 n H4 n0 n1 f4 D4 s H5 s0 s1 f5 D5
    have er5 : H5 rt = some (.tup (r.map V.int)) := f5.tup _ _ (f4.tup _ _ e3)
    have F5 : Fr [d] H H5 := ((F.then0 f3).transL f4).transL f5
    clear f3 f4 f5 F D D4 n3 e3 ha
    refine g_cut (fun σ H' => ∃ (rt : Addr) (r : List Int) (n s : Int) (v6 v7 : Option V), σ = [some (.ref d), some (.ref rt), some (.int n), some (.int s), none, none, v6, v7] ∧ H' rt = some (.tup (r.map V.int)) ∧ Rooms r ∧ 1 ≤ n ∧ n ≤ 12 ∧ 1 ≤ s ∧ s ≤ 4 ∧ Fr [d] H H' ∧ Draws H' d l) ?_ ?_
    · walk_at "go"
      rename_i c H6 c0 c1 f6 D6
      have F6 := F5.transL f6
      have er : H6 rt = some (.tup (r.map V.int)) := f6.tup _ _ er5
      clear f6 D5 F5 er5 c0 c1
      refine g_ite (fun q => ?_) (fun q => ?_)
      · walk_at "go"
        rename_i z H7 z0 z1 f7 D7
        refine l_range (lo := 0) (n := (1 + z % 3).toNat) fun Dl H2 nD f2 e2 => ⟨fun i acc H' => ∃ r : List Int, acc = r.map V.int ∧ r.length = i ∧ (∀ y ∈ r, 0 ≤ y ∧ y ≤ 4) ∧ Fr [d] H7 H' ∧ Draws H' d l, ⟨[], rfl, rfl, fun _ q => (nomatch q), f2.of0, D7.fr f2 nin0 nin0⟩, fun i acc H' hi ha ⟨r, e, hr, hm, f, D⟩ => ?_, fun acc H' ha ⟨r, e, hr, hm, f, D⟩ => ?_⟩
        · walk_at "go"
          refine ⟨rfl, ?_⟩
          walk_at "go"
          rename_i y H3 y0 y1 f3 D3
          have nd : Dl ≠ d := (D7.new1 nD).symm
          have nl : Dl ≠ l := (D7.new2 nD).symm
          refine lcY_of (f3.at ha (nin1 nd nin0)) (by rw [e]; walk_at "sz") fun H5 f5 e5 => ⟨r ++ [y % 5], by rw [e, List.map_append]; rfl, by rw [List.length_append, hr]; rfl, fun q hq => ?_, ?_, D3.fr f5 (nin1 nd.symm nin0) (nin1 nl.symm nin0)⟩
          · rcases List.mem_append.mp hq with h | h
            · exact hm q h
            · rw [List.mem_singleton.mp h]; omega
          · exact (f.transL f3).own1 f5 nD
        · have hrl2 : Rooms r := ⟨by omega, by omega, hm⟩
          have F8 := (F6.transL f7).transL f
          clear e2 f2 nD f7 f F6 er D7
          subst e
          walk_at "go"
          rename_i rt H3 n3 f3 e3 n H4 n0 n1 f4 D4 s H5 s0 s1 f5 D5
          exact ⟨_, _, _, _, _, _, rfl, by walk_at "fact", hrl2, by omega, by omega, by omega, by omega, ((F8.then0 f3).transL f4).transL f5, D5⟩
      · walk_at "go"
        exact ⟨_, _, _, _, _, _, rfl, er, hrl, by omega, by omega, by omega, by omega, F6, D6⟩
    · clear er5 F5 D5 hrl hm n0 n1 s0 s1
      rintro σ H7 ⟨rt, r, n, s, v6, v7, rfl, er, hrl, n0, n1, s0, s1, F7, D7⟩
      obtain ⟨r1, r3, hm⟩ := hrl
      walk_at "go"
      rename_i t H8 n8 f8 e8 y H9 y0 y1 f9 D9
      have td : t ≠ d := (D7.new1 n8).symm
      obtain ⟨v, hv, hmem⟩ := atI_mem (xs := [V.int 200, V.int 1000001]) (z := y % 2) (by omega) (by show y % 2 < 2; omega)
      obtain ⟨dr, rfl, dr0, dr1⟩ : ∃ m, v = .int m ∧ 0 < m ∧ m ≤ 1000001 := by
        simp only [List.mem_cons, List.not_mem_nil, or_false] at hmem
        rcases hmem with h | h <;> exact ⟨_, h, by decide, by decide⟩
      refine g_ixL (SqL.of (f9.at e8 (nin1 td nin0))) hv ?_
      have er9 : H9 rt = some (.tup (r.map V.int)) := by walk_at "fact"
      have F9 : Fr [d] H H9 := (F7.then0 f8).transL f9
      clear hv hmem f8 f9 e8 n8 F7 D7 er
      walk_at "go"
      refine l_tup (xs := r.map V.int) fun Dl H2 nD f2 e2 => ⟨fun i acc H' => ∃ rows : List (List Int), DaL H' acc (rows.map rowD) ∧ rows.length = i ∧ (∀ q ∈ rows, q.length = n.toNat ∧ ∀ y ∈ q, 0 ≤ y ∧ y ≤ 1000000) ∧ Fr [d] H9 H' ∧ Draws H' d l, ⟨[], .nil, rfl, fun _ q => (nomatch q), f2.of0, D9.fr f2 nin0 nin0⟩, fun i acc H' ⟨_, _, _, _, f, _⟩ => SqT.of (f.tup _ _ er9), fun i x acc H3 hx ha ⟨rows, da, hr, hq, f, D⟩ => ?_, fun acc H3 ha ⟨rows, da, hr, hq, f, D⟩ => ?_⟩
      · have hi := (List.getElem?_eq_some_iff.mp hx).1
        rw [List.length_map] at hi
        have nd : Dl ≠ d := (D9.new1 nD).symm
        have nl : Dl ≠ l := (D9.new2 nD).symm
        have hal : acc.length ≤ 10 := by rw [da.len, List.length_map]; omega
        walk_at "go"
        refine ⟨rfl, ?_⟩
        walk_at "go"
        refine l_range (lo := 0) (n := n.toNat) fun D2 H4 n4 f4 e4 => ⟨fun j acc H' => ∃ q : List Int, acc = q.map V.int ∧ q.length = j ∧ (∀ y ∈ q, 0 ≤ y ∧ y ≤ 1000000) ∧ Fr [d] H3 H' ∧ Draws H' d l, ⟨[], rfl, rfl, fun _ q => (nomatch q), f4.of0, D.fr f4 nin0 nin0⟩, fun j acc H5 hj ha2 ⟨q, e, hql, hm2, f5, D5⟩ => ?_, fun acc2 H5 ha2 ⟨q, e, hql, hm2, f5, D5⟩ => ?_⟩
        · walk_at "go"
          refine ⟨rfl, ?_⟩
          walk_at "go"
          rename_i y H6 y0 y1 f6 D6
          have nd2 : D2 ≠ d := (D.new1 n4).symm
          have nl2 : D2 ≠ l := (D.new2 n4).symm
          have b0 := Int.emod_nonneg (y * 7) (show dr ≠ 0 by omega)
          have b1 := Int.emod_lt_of_pos (y * 7) dr0
          refine lcY_of (f6.at ha2 (nin1 nd2 nin0)) (by rw [e]; walk_at "sz") fun H7 f7 e7 => ⟨q ++ [y * 7 % dr], by rw [e, List.map_append]; rfl, by rw [List.length_append, hql]; rfl, fun z hz => ?_, (f5.transL f6).own1 f7 n4, D6.fr f7 (nin1 nd2.symm nin0) (nin1 nl2.symm nin0)⟩
          rcases List.mem_append.mp hz with h | h
          · exact hm2 z h
          · rw [List.mem_singleton.mp h]; exact ⟨b0, by omega⟩
        · subst e
          have ha5 := f5.at ha (nin1 nd nin0)
          have hql2 : q.length ≤ 12 := by omega
          clear f4 e4 n4
          walk_at "go"
          rename_i qt H6 n6 f6 e6
          have ir : immL (rows.map rowD) = true := immL_of fun d hd => by obtain ⟨r, _, rfl⟩ := List.mem_map.mp hd; exact imm_row r
          have ntD : qt ≠ Dl := (ne_of_none ha5 n6).symm
          refine lcY_of (f6.at0 ha5) (szM (by omega)) fun H7 f7 e7 => ⟨rows ++ [q], ?_, by rw [List.length_append, hr]; rfl, fun z hz => ?_, ((f.transL f5).then0 f6).own1 f7 nD, (D5.fr f6 nin0 nin0).fr f7 (nin1 nd.symm nin0) (nin1 nl.symm nin0)⟩
          · rw [List.map_append]
            refine DaL.append (DaL.frL f7 (DaL.frL f6 (DaL.frL f5 da ir) ir) ir) (.one' (.tup (f7.tup _ _ e6) (by rw [List.length_map]; omega) (.ofInts q)))
          · rcases List.mem_append.mp hz with h | h
            · exact hq z h
            · rw [List.mem_singleton.mp h]; exact ⟨hql, hm2⟩
      · rw [List.length_map] at hr
        have hal : acc.length ≤ 10 := by rw [da.len, List.length_map]; omega
        have er3 := f.tup _ _ er9
        have F3 := F9.transL f
        clear f2 e2 nD f er9 F9 D9
        walk_at "go"
        rename_i pt H4 n4 f4 e4 y H5 y0 y1 f5 D5 st H6 n6 f6 e6
        have ir : immL (rows.map rowD) = true := immL_of fun d hd => by obtain ⟨r, _, rfl⟩ := List.mem_map.mp hd; exact imm_row r
        have F46 : Fr [d] H3 H6 := (f5.pre0' f4).then0 f6
        refine k _ ⟨r, n, s, rows, y % 101⟩ H6 ⟨r1, r3, hm, n0, n1, s0, s1, hr, hq, by show 0 ≤ y % 101; omega, by show y % 101 ≤ 100; omega⟩ (.tup e6 (Nat.le_of_ble_eq_true rfl) ?_) (F3.transL F46) (D5.fr f6 nin0 nin0)
        exact .cons (.tup (F46.tup _ _ er3) (by rw [List.length_map]; omega) (.ofInts r)) (.cons (.int _) (.cons (.int _) (.cons (.tup (f6.tup _ _ (f5.tup _ _ e4)) (by omega) (DaL.frL F46 da ir)) (.one' (.int _)))))
theorem ok_Lsetup {f : Addr} {fd : FuncData} (F : Fun K "_law_setup" "_law_setup" s_Lsetup f fd) (T : Txt K mg A) (c_Ldraw : Cal P w K mg base "_law_draw" 2 ["_law_draws"] (sp_Ldraw K A)) : FnOk P w K mg base CX0 (3) f fd ["_law_draws"] (sp_Lsetup K A) := by
  refine F.ok sc_Lsetup (fun vs H Q E h => ?_) (fun cdv Ar outer s H vs Q E hr h => ⟨t_Lsetup K A, ?_, ?_⟩)
  · obtain ⟨x0, rfl, _⟩ := h
    rfl
  · have hu := hu_of hr
    exact (pss_cons (ps_set (i := 1) sc_Lsetup.nd rfl (Or.inl rfl) (pe_callTy b_tuple (by rfl) T.b_tuple (by decide +kernel) (pa_cons (pe_lc (own := [("_law_k", 6)]) (g := (gName 6)) (tt := tYes) rfl sc_Lsetup.nd (pi_range1 rfl T.b_range (pa_cons (pe_op o_add pe_int (pe_op o_div (pe_op o_mod (pe_cl c_Ldraw (hr.mono (by first | decide | omega)) (by rfl) (pa_cons (pv 0) pa_nil)) pe_int) pe_int)) pa_nil)) (blkOk_by (N := ["_law_draws", "_law_rooms", "_law_nights", "_law_sellers", "_law_dear", "_law_prices", "_law_k", "_law_t"]) (sc := defScope s_Lsetup) (own := [("_law_k", 6)]) (by decide +kernel)) (fun _ _ _ _ _ => (pg_name (i := 6) sc_Lsetup.nd rfl (Or.inl rfl))) (fun _ _ _ _ _ => pts_nil) (fun _ _ _ _ _ => (pe_ix ix_list (pe_lst (pa_cons pe_int (pa_cons pe_int (pa_cons pe_int (pa_cons pe_int (pa_cons pe_int pa_nil)))))) (pe_op o_mod (pe_cl c_Ldraw (hr.mono (by first | decide | omega)) (by rfl) (pa_cons (pv 0) pa_nil)) pe_int) (fun _ _ => rfl)))) pa_nil)))
    (pss_cons (ps_set (i := 2) sc_Lsetup.nd rfl (Or.inr rfl) (pe_op o_add pe_int (pe_op o_mod (pe_cl c_Ldraw (hr.mono (by first | decide | omega)) (by rfl) (pa_cons (pv 0) pa_nil)) pe_int)))
    (pss_cons (ps_set (i := 3) sc_Lsetup.nd rfl (Or.inl rfl) (pe_op o_add pe_int (pe_op o_mod (pe_cl c_Ldraw (hr.mono (by first | decide | omega)) (by rfl) (pa_cons (pv 0) pa_nil)) pe_int)))
    (Evl.pss_cut (ps_if (pt_cmpR op_eq (pe_op o_mod (pe_cl c_Ldraw (hr.mono (by first | decide | omega)) (by rfl) (pa_cons (pv 0) pa_nil)) pe_int) pe_int (nomark _)) (pss_cons (ps_set (i := 1) sc_Lsetup.nd rfl (Or.inl rfl) (pe_callTy b_tuple (by rfl) T.b_tuple (by decide +kernel) (pa_cons (pe_lc (own := [("_law_k", 6)]) (g := (gName 6)) (tt := tYes) rfl sc_Lsetup.nd (pi_range1 rfl T.b_range (pa_cons (pe_op o_add pe_int (pe_op o_mod (pe_cl c_Ldraw (hr.mono (by first | decide | omega)) (by rfl) (pa_cons (pv 0) pa_nil)) pe_int)) pa_nil)) (blkOk_by (N := ["_law_draws", "_law_rooms", "_law_nights", "_law_sellers", "_law_dear", "_law_prices", "_law_k", "_law_t"]) (sc := defScope s_Lsetup) (own := [("_law_k", 6)]) (by decide +kernel)) (fun _ _ _ _ _ => (pg_name (i := 6) sc_Lsetup.nd rfl (Or.inl rfl))) (fun _ _ _ _ _ => pts_nil) (fun _ _ _ _ _ => (pe_op o_mod (pe_cl c_Ldraw (hr.mono (by first | decide | omega)) (by rfl) (pa_cons (pv 0) pa_nil)) pe_int))) pa_nil)))
    (pss_cons (ps_set (i := 2) sc_Lsetup.nd rfl (Or.inr rfl) (pe_op o_add pe_int (pe_op o_mod (pe_cl c_Ldraw (hr.mono (by first | decide | omega)) (by rfl) (pa_cons (pv 0) pa_nil)) pe_int)))
    (pss_one (ps_set (i := 3) sc_Lsetup.nd rfl (Or.inl rfl) (pe_op o_add pe_int (pe_op o_mod (pe_cl c_Ldraw (hr.mono (by first | decide | omega)) (by rfl) (pa_cons (pv 0) pa_nil)) pe_int)))))) pss_nil)
    (pss_cons (ps_set (i := 4) sc_Lsetup.nd rfl (Or.inr rfl) (pe_ix ix_list (pe_lst (pa_cons pe_int (pa_cons pe_int pa_nil))) (pe_op o_mod (pe_cl c_Ldraw (hr.mono (by first | decide | omega)) (by rfl) (pa_cons (pv 0) pa_nil)) pe_int) (fun _ _ => rfl)))
    (pss_cons (ps_set (i := 5) sc_Lsetup.nd rfl (Or.inl rfl) (pe_callTy b_tuple (by rfl) T.b_tuple (by decide +kernel) (pa_cons (pe_lc (own := [("_law_k", 6)]) (g := (gName 6)) (tt := tYes) rfl sc_Lsetup.nd (pi_tup (pv 1)) (blkOk_by (N := ["_law_draws", "_law_rooms", "_law_nights", "_law_sellers", "_law_dear", "_law_prices", "_law_k", "_law_t"]) (sc := defScope s_Lsetup) (own := [("_law_k", 6)]) (by decide +kernel)) (fun _ _ _ _ _ => (pg_name (i := 6) sc_Lsetup.nd rfl (Or.inl rfl))) (fun _ _ _ _ _ => pts_nil) (fun _ _ _ _ _ => (pe_callTy b_tuple (by rfl) T.b_tuple (by decide +kernel) (pa_cons (pe_lc (own := [("_law_t", 7)]) (g := (gName 7)) (tt := tYes) rfl sc_Lsetup.nd (pi_range1 rfl T.b_range (pa_cons (pv 2) pa_nil)) (blkOk_by (N := ["_law_draws", "_law_rooms", "_law_nights", "_law_sellers", "_law_dear", "_law_prices", "_law_k", "_law_t"]) (sc := ({ kind := PySem.ScopeKind.function, names := [ (PySem.Str.ofString ".0", PySem.NameKind.local), (PySem.Str.ofString "_law_k", PySem.NameKind.local), (PySem.Str.ofString "tuple", PySem.NameKind.globalImplicit), (PySem.Str.ofString "range", PySem.NameKind.globalImplicit), (PySem.Str.ofString "_law_dear", PySem.NameKind.cell), (PySem.Str.ofString "_law_draws", PySem.NameKind.cell), (PySem.Str.ofString "_law_nights", PySem.NameKind.cell)], isGenerator := false, isCoroutine := false, more := [] : PySem.Scope })) (own := [("_law_t", 7)]) (by decide +kernel)) (fun _ _ _ _ _ => (pg_name (i := 7) sc_Lsetup.nd rfl (Or.inl rfl))) (fun _ _ _ _ _ => pts_nil) (fun _ _ _ _ _ => (pe_op o_mod (pe_op o_mul (pe_cl c_Ldraw (hr.mono (by first | decide | omega)) (by rfl) (pa_cons (pv 0) pa_nil)) pe_int) (pv 4)))) pa_nil)))) pa_nil)))
    (pss_one (ps_ret (pe_tup (pa_cons (pv 1) (pa_cons (pv 2) (pa_cons (pv 3) (pa_cons (pv 5) (pa_cons (pe_op o_mod (pe_cl c_Ldraw (hr.mono (by first | decide | omega)) (by rfl) (pa_cons (pv 0) pa_nil)) pe_int) pa_nil))))))))))))))
  · obtain ⟨x0, rfl, h⟩ := h
    exact pu_Lsetup T h
def P_Lstay (K : PySem.W.Frag) (A : Ad) (x0 x1 : V) (H : Hp) (Q : VK) : Prop := ∃ (d l : Addr) (S : Setup), x0 = .ref d ∧ Draws H d l ∧ SetupOk S ∧ Da H x1 (setupD S) ∧
  ∀ (v : V) (s : Stay) (H' : Hp), StayOk S s → Da H' v (stayD s) → Fr [d] H H' → Draws H' d l → Q v H'
def sp_Lstay (K : PySem.W.Frag) (A : Ad) : Sp := fun vs H Q _ => ∃ x0 x1, vs = [x0, x1] ∧ P_Lstay K A x0 x1 H Q
theorem c_Lstay {K : PySem.W.Frag} {A : Ad} {x0 x1 : V} {H : Hp} {Q : VK} {E : XK} (h : P_Lstay K A x0 x1 H Q) : sp_Lstay K A [x0, x1] H Q E := ⟨_, _, rfl, h⟩
theorem sc_Lstay : FnScope ["_law_draws", "_law_setup_here", "_law_first", "_law_end"] ["_law_draws", "_law_setup_here"] (defScope s_Lstay) := ⟨rfl, rfl, rfl, by decide +kernel, rfl, by decide +kernel, by decide +kernel⟩
def t_Lstay (K : PySem.W.Frag) (A : Ad) : TS :=
  (tSeq (tAsg (tOp oMod (tCl (sp_Ldraw K A) (tCons (tVar 0) tNil)) (tOp (rIxT K) (tVar 1) (tC (.int 1)))) (gName 2))
    (tSeq (tAsg (tOp oAdd (tOp oAdd (tVar 2) (tC (.int 1))) (tOp oMod (tCl (sp_Ldraw K A) (tCons (tVar 0) tNil)) (tOp oSub (tOp (rIxT K) (tVar 1) (tC (.int 1))) (tVar 2)))) (gName 3))
    (tRet (tTup (tCons (tOp oMod (tCl (sp_Ldraw K A) (tCons (tVar 0) tNil)) (tCB (rLenSq K) (tCons (tOp (rIxT K) (tVar 1) (tC (.int 0))) tNil))) (tCons (tVar 2) (tCons (tVar 3) tNil)))))))
theorem pu_Lstay (T : Txt K mg A) {x0 x1 : V} {H : Hp} {Q : VK} (h : P_Lstay K A x0 x1 H Q) : t_Lstay K A { nx := fun _ H' => Q .non H', rt := Q } [some x0, some x1, none, none] H := by
  obtain ⟨d, l, S, rfl, D0, ok, dS, k⟩ := h
  obtain ⟨s, r, p, ps, sa⟩ := SetAt.of dS
  cases sa.e
  have e0 := sa.t
  have er := sa.r
  have hn := ok.n1
  have hk := ok.k1
  unfold t_Lstay
  walk_at "go"
  rename_i y1 H1 y10 y11 f1 D1 y2 H2 y20 y21 f2 D2
  have b0 := Int.emod_nonneg y1 (show S.nights ≠ 0 by omega)
  have b1 := Int.emod_lt_of_pos y1 (show 0 < S.nights by omega)
  refine g_mod (by omega) ?_
  have c0 := Int.emod_nonneg y2 (show S.nights - y1 % S.nights ≠ 0 by omega)
  have c1 := Int.emod_lt_of_pos y2 (show 0 < S.nights - y1 % S.nights by omega)
  walk_at "go"
  rename_i y3 H3 y30 y31 f3 D3 st H4 n4 f4 e4
  have g0 := Int.emod_nonneg y3 (show ((S.rooms.length : Nat) : Int) ≠ 0 by omega)
  have g1 := Int.emod_lt_of_pos y3 (show 0 < ((S.rooms.length : Nat) : Int) by omega)
  rw [List.length_map] at e4
  exact k _ (y3 % (S.rooms.length : Int), y1 % S.nights, y1 % S.nights + 1 + y2 % (S.nights - y1 % S.nights)) H4 ⟨g0, g1, b0, by show y1 % S.nights < y1 % S.nights + 1 + y2 % (S.nights - y1 % S.nights); omega, by show y1 % S.nights + 1 + y2 % (S.nights - y1 % S.nights) ≤ S.nights; omega⟩
    (.tup e4 (Nat.le_of_ble_eq_true rfl) (.cons (.int _) (.cons (.int _) (.one' (.int _))))) (by walk_at "fr") (D3.fr f4 nin0 nin0)
theorem ok_Lstay {f : Addr} {fd : FuncData} (F : Fun K "_law_stay" "_law_stay" s_Lstay f fd) (T : Txt K mg A) (c_Ldraw : Cal P w K mg base "_law_draw" 2 ["_law_draws"] (sp_Ldraw K A)) : FnOk P w K mg base CX0 (3) f fd ["_law_draws", "_law_setup_here"] (sp_Lstay K A) := by
  refine F.ok sc_Lstay (fun vs H Q E h => ?_) (fun cdv Ar outer s H vs Q E hr h => ⟨t_Lstay K A, ?_, ?_⟩)
  · obtain ⟨x0, x1, rfl, _⟩ := h
    rfl
  · have hu := hu_of hr
    exact (pss_cons (ps_set (i := 2) sc_Lstay.nd rfl (Or.inl rfl) (pe_op o_mod (pe_cl c_Ldraw (hr.mono (by first | decide | omega)) (by rfl) (pa_cons (pv 0) pa_nil)) (pe_ix ix_tup (pv 1) pe_int (fun _ _ => rfl))))
    (pss_cons (ps_set (i := 3) sc_Lstay.nd rfl (Or.inl rfl) (pe_op o_add (pe_op o_add (pv 2) pe_int) (pe_op o_mod (pe_cl c_Ldraw (hr.mono (by first | decide | omega)) (by rfl) (pa_cons (pv 0) pa_nil)) (pe_op o_sub (pe_ix ix_tup (pv 1) pe_int (fun _ _ => rfl)) (pv 2)))))
    (pss_one (ps_ret (pe_tup (pa_cons (pe_op o_mod (pe_cl c_Ldraw (hr.mono (by first | decide | omega)) (by rfl) (pa_cons (pv 0) pa_nil)) (pe_callB b_len (by rfl) T.b_len (by decide +kernel) (pa_cons (pe_ix ix_tup (pv 1) pe_int (fun _ _ => rfl)) pa_nil))) (pa_cons (pv 2) (pa_cons (pv 3) pa_nil))))))))
  · obtain ⟨x0, x1, rfl, h⟩ := h
    exact pu_Lstay T h
def P_Lparty (K : PySem.W.Frag) (A : Ad) (x0 x1 : V) (H : Hp) (Q : VK) : Prop := ∃ (d l : Addr) (S : Setup), x0 = .ref d ∧ Draws H d l ∧ SetupOk S ∧ Da H x1 (setupD S) ∧
  ∀ (v : V) (ss : List Stay) (H' : Hp), PartyOk S ss → Da H' v (partyD ss) → Fr [d] H H' → Draws H' d l → Q v H'
def sp_Lparty (K : PySem.W.Frag) (A : Ad) : Sp := fun vs H Q _ => ∃ x0 x1, vs = [x0, x1] ∧ P_Lparty K A x0 x1 H Q
theorem c_Lparty {K : PySem.W.Frag} {A : Ad} {x0 x1 : V} {H : Hp} {Q : VK} {E : XK} (h : P_Lparty K A x0 x1 H Q) : sp_Lparty K A [x0, x1] H Q E := ⟨_, _, rfl, h⟩
theorem sc_Lparty : FnScope ["_law_draws", "_law_setup_here", "_law_many", "_law_k"] ["_law_draws", "_law_setup_here"] (defScope s_Lparty) := ⟨rfl, rfl, rfl, by decide +kernel, rfl, by decide +kernel, by decide +kernel⟩
def t_Lparty (K : PySem.W.Frag) (A : Ad) : TS :=
  (tSeq (tAsg (tOp (rIxL K) (tLst (tCons (tC (.int 1)) (tCons (tC (.int 1)) (tCons (tC (.int 1)) (tCons (tC (.int 2)) (tCons (tC (.int 2)) (tCons (tC (.int 3)) (tCons (tC (.int 4)) tNil)))))))) (tOp oMod (tCl (sp_Ldraw K A) (tCons (tVar 0) tNil)) (tC (.int 7)))) (gName 2))
    (tRet (tCB (rTupOf K) (tCons (tCB (rSortD K) (tCons (tLc (iRng1 (tCons (tVar 2) tNil)) (gName 3) tYes (tCl (sp_Lstay K A) (tCons (tVar 0) (tCons (tVar 1) tNil))) [3]) tNil)) tNil))))
theorem pu_Lparty (T : Txt K mg A) {x0 x1 : V} {H : Hp} {Q : VK} (h : P_Lparty K A x0 x1 H Q) : t_Lparty K A { nx := fun _ H' => Q .non H', rt := Q } [some x0, some x1, none, none] H := by
  obtain ⟨d, l, S, rfl, D0, ok, dS, k⟩ := h
  unfold t_Lparty
  walk_at "go"
  rename_i t H1 n1 f1 e1 y H2 y0 y1 f2 D2
  have htd : t ≠ d := ((D0.fr f1 nin0 nin0).ne' e1 (by decide)).symm
  obtain ⟨v, hv, hmem⟩ := atI_mem (xs := [V.int 1, V.int 1, V.int 1, V.int 2, V.int 2, V.int 3, V.int 4]) (z := y % 7) (by omega) (by show y % 7 < 7; omega)
  obtain ⟨m, rfl, hm1, hm4⟩ : ∃ m, v = .int m ∧ 1 ≤ m ∧ m ≤ 4 := by
    simp only [List.mem_cons, List.not_mem_nil, or_false] at hmem
    rcases hmem with h | h | h | h | h | h | h <;> exact ⟨_, h, by decide, by decide⟩
  refine g_ixL (SqL.of (f2.at e1 (nin1 htd nin0))) hv ?_
  have F2 : Fr [d] H H2 := f2.pre0' f1
  have dS2 := Da.frL F2 dS (imm_setup S)
  walk_at "go"
  refine l_range (lo := 0) (n := m.toNat) fun Dl H3 nD f3 e3 => ⟨fun i acc H' => ∃ ss : List Stay, DaL H' acc (ss.map stayD) ∧ ss.length = i ∧ (∀ s ∈ ss, StayOk S s) ∧ Fr [d] H2 H' ∧ Draws H' d l, ⟨[], .nil, rfl, fun _ q => (nomatch q), f3.of0, D2.fr f3 nin0 nin0⟩, fun i acc H' hi ha ⟨ss, ds, hs, hk, f, D⟩ => ?_, fun acc H' ha ⟨ss, ds, hs, hk, f, D⟩ => ?_⟩
  · walk_at "go"
    refine ⟨rfl, ?_⟩
    walk_at "go"
    refine c_Lstay ⟨d, l, S, rfl, D, ok, Da.frL f dS2 (imm_setup S), fun v s H4 so dv f4 D4 => ?_⟩
    have hnd : Dl ≠ d := (D2.new1 nD).symm
    have hnl : Dl ≠ l := (D2.new2 nD).symm
    have hac : acc.length ≤ 100 := by rw [ds.len, List.length_map]; omega
    refine lcY_of (f4.at ha (nin1 hnd nin0)) (by walk_at "sz") fun H5 f5 e5 => ⟨ss ++ [s], ?_, by rw [List.length_append, hs]; rfl, fun z hz => ?_, (f.transL f4).own1 f5 nD, D4.fr f5 (nin1 hnd.symm nin0) (nin1 hnl.symm nin0)⟩
    · rw [List.map_append]
      exact (DaL.frL f5 (DaL.frL f4 ds (imm_stays ss)) (imm_stays ss)).append (.one' (Da.frL f5 dv rfl))
    · rcases List.mem_append.mp hz with h | h
      · exact hk z h
      · rw [List.mem_singleton.mp h]; exact so
  · have hac : acc.length = ss.length := by rw [ds.len, List.length_map]
    have F4 := F2.transL f
    clear f3 e3 f
    walk_at "go"
    refine g_srt (SqL.of ha) ds (stays_alike ss) (stays_sortable ss) (stays_depth ss) fun p H5 ys n5 f5 e5 dy => ?_
    rw [← ssrt_map] at dy
    have dy5 := DaL.frL f5 dy (imm_stays _)
    have hy : ys.length = ss.length := by rw [dy.len, List.length_map, (ssrt_perm ss).length_eq]
    walk_at "go"
    rename_i q H6 n6 f6 e6
    exact k _ (ssrt ss) H6 ⟨by rw [(ssrt_perm ss).length_eq]; omega, by rw [(ssrt_perm ss).length_eq]; omega, fun s hs => hk s ((ssrt_perm ss).mem_iff.mp hs), ssrt_ssrt ss⟩ (.tup e6 (by omega) (DaL.frL f6 dy5 (imm_stays _))) ((F4.then0 f5).then0 f6) ((D.fr f5 nin0 nin0).fr f6 nin0 nin0)
theorem ok_Lparty {f : Addr} {fd : FuncData} (F : Fun K "_law_party" "_law_party" s_Lparty f fd) (T : Txt K mg A) (c_Ldraw : Cal P w K mg base "_law_draw" 2 ["_law_draws"] (sp_Ldraw K A)) (c_Lstay : Cal P w K mg base "_law_stay" 3 ["_law_draws", "_law_setup_here"] (sp_Lstay K A)) : FnOk P w K mg base CX0 (4) f fd ["_law_draws", "_law_setup_here"] (sp_Lparty K A) := by
  refine F.ok sc_Lparty (fun vs H Q E h => ?_) (fun cdv Ar outer s H vs Q E hr h => ⟨t_Lparty K A, ?_, ?_⟩)
  · obtain ⟨x0, x1, rfl, _⟩ := h
    rfl
  · have hu := hu_of hr
    exact (pss_cons (ps_set (i := 2) sc_Lparty.nd rfl (Or.inl rfl) (pe_ix ix_list (pe_lst (pa_cons pe_int (pa_cons pe_int (pa_cons pe_int (pa_cons pe_int (pa_cons pe_int (pa_cons pe_int (pa_cons pe_int pa_nil)))))))) (pe_op o_mod (pe_cl c_Ldraw (hr.mono (by first | decide | omega)) (by rfl) (pa_cons (pv 0) pa_nil)) pe_int) (fun _ _ => rfl)))
    (pss_one (ps_ret (pe_callTy b_tuple (by rfl) T.b_tuple (by decide +kernel) (pa_cons (pe_callB (b_sortD hr.units) (by rfl) T.b_sorted (by decide +kernel) (pa_cons (pe_lc (own := [("_law_k", 3)]) (g := (gName 3)) (tt := tYes) rfl sc_Lparty.nd (pi_range1 rfl T.b_range (pa_cons (pv 2) pa_nil)) (blkOk_by (N := ["_law_draws", "_law_setup_here", "_law_many", "_law_k"]) (sc := defScope s_Lparty) (own := [("_law_k", 3)]) (by decide +kernel)) (fun _ _ _ _ _ => (pg_name (i := 3) sc_Lparty.nd rfl (Or.inl rfl))) (fun _ _ _ _ _ => pts_nil) (fun _ _ _ _ _ => (pe_cl c_Lstay (hr.mono (by first | decide | omega)) (by rfl) (pa_cons (pv 0) (pa_cons (pv 1) pa_nil))))) pa_nil)) pa_nil)))))
  · obtain ⟨x0, x1, rfl, h⟩ := h
    exact pu_Lparty T h

/-- the type of data -/
def tyD : PyData → String
  | .none => "NoneType"
  | .bool _ => "bool"
  | .int _ => "int"
  | .str _ => "str"
  | .list _ => "list"
  | .tuple _ => "tuple"
  | .dict _ => "dict"
theorem Da.ty {K : PySem.W.Frag} {H : Hp} {v : V} {d : PyData} (h : Da H v d) : TyX K H v (.type (tyD d)) := by
  cases h with
  | non => exact TyX.base TyOf.non
  | bl b => exact TyX.base (TyOf.bl _)
  | int i => exact TyX.base (TyOf.int _)
  | str x => exact TyX.base (TyOf.str _)
  | lst e z r => exact TyX.base (TyOf.lst e)
  | tup e z r => exact TyX.base (TyOf.tup e)
def isTupD : PyData → Bool
  | .tuple _ => true
  | _ => false
theorem kit_tup {d : PyData} (h : ∀ m, d ≠ .dict m) : kitB (tyD d) "tuple" = some (isTupD d) := by
  cases d with
  | none => exact kb_NoneType_tuple
  | bool b => exact kb_bool_tuple
  | int i => exact kb_int_tuple
  | str s => exact kb_str_tuple
  | list l => exact kb_list_tuple
  | tuple l => exact kb_tuple_tuple
  | dict m => exact absurd rfl (h m)
theorem nodict {H : Hp} {v : V} {d : PyData} (h : Da H v d) : ∀ m, d ≠ .dict m := fun m e => by subst e; cases h
theorem g_isTup {K : PySem.W.Frag} {H : Hp} {Q : VK} {v : V} {d : PyData} (h : Da H v d) (q : Q (.bl (isTupD d)) H) : rIsi K [v, .ty "tuple"] H Q := g_isi (Da.ty h) (kit_tup (nodict h)) q
def P_is_integer (K : PySem.W.Frag) (A : Ad) (x0 : V) (H : Hp) (Q : VK) : Prop := ∃ d, Da H x0 d ∧ Q (.bl (isI d)) H
def sp_is_integer (K : PySem.W.Frag) (A : Ad) : Sp := fun vs H Q _ => ∃ x0, vs = [x0] ∧ P_is_integer K A x0 H Q
theorem c_is_integer {K : PySem.W.Frag} {A : Ad} {x0 : V} {H : Hp} {Q : VK} {E : XK} (h : P_is_integer K A x0 H Q) : sp_is_integer K A [x0] H Q E := ⟨_, rfl, h⟩
theorem sc_is_integer : FnScope ["value"] ["value"] (defScope s_is_integer) := ⟨rfl, rfl, rfl, by decide +kernel, rfl, by decide +kernel, by decide +kernel⟩
def t_is_integer (K : PySem.W.Frag) (A : Ad) : TS :=
  (tRet (tAndV (tCB (rIsi K) (tCons (tVar 0) (tCons (tC (.ty "int")) tNil))) (tNotV (tCB (rIsi K) (tCons (tVar 0) (tCons (tC (.ty "bool")) tNil))))))
theorem pu_is_integer (T : Txt K mg A) {x0 : V} {H : Hp} {Q : VK} (h : P_is_integer K A x0 H Q) : t_is_integer K A { nx := fun _ H' => Q .non H', rt := Q } [some x0] H := by
  obtain ⟨d, dd, k⟩ := h
  unfold t_is_integer
  cases dd with
  | non => walk_at "go"; exact k
  | bl b => walk_at "go"; exact k
  | int i => walk_at "go"; exact k
  | str x => walk_at "go"; exact k
  | lst e z r => walk_at "go"; exact k
  | tup e z r => walk_at "go"; exact k
theorem ok_is_integer {f : Addr} {fd : FuncData} (F : Fun K "is_integer" "is_integer" s_is_integer f fd) (T : Txt K mg A)  : FnOk P w K mg base CX0 (1) f fd ["value"] (sp_is_integer K A) := by
  refine F.ok sc_is_integer (fun vs H Q E h => ?_) (fun cdv Ar outer s H vs Q E hr h => ⟨t_is_integer K A, ?_, ?_⟩)
  · obtain ⟨x0, rfl, _⟩ := h
    rfl
  · have hu := hu_of hr
    exact (pss_one (ps_ret (pe_and (pe_callB call_isi (by rfl) T.b_isinstance (by decide +kernel) (pa_cons (pv 0) (pa_cons (pe_bltn (by rfl) T.b_int (by decide +kernel) (v := .ty "int") rfl) pa_nil))) (pe_one (pe_not (pe_callB call_isi (by rfl) T.b_isinstance (by decide +kernel) (pa_cons (pv 0) (pa_cons (pe_bltn (by rfl) T.b_bool (by decide +kernel) (v := .ty "bool") rfl) pa_nil))))))))
  · obtain ⟨x0, rfl, h⟩ := h
    exact pu_is_integer T h
def P_is_from (K : PySem.W.Frag) (A : Ad) (x0 x1 x2 : V) (H : Hp) (Q : VK) : Prop := ∃ (d : PyData) (lo hi : Int), Da H x0 d ∧ x1 = .int lo ∧ x2 = .int hi ∧ Q (.bl (isF lo hi d)) H
def sp_is_from (K : PySem.W.Frag) (A : Ad) : Sp := fun vs H Q _ => ∃ x0 x1 x2, vs = [x0, x1, x2] ∧ P_is_from K A x0 x1 x2 H Q
theorem c_is_from {K : PySem.W.Frag} {A : Ad} {x0 x1 x2 : V} {H : Hp} {Q : VK} {E : XK} (h : P_is_from K A x0 x1 x2 H Q) : sp_is_from K A [x0, x1, x2] H Q E := ⟨_, _, _, rfl, h⟩
theorem sc_is_from : FnScope ["value", "least", "most"] ["value", "least", "most"] (defScope s_is_from) := ⟨rfl, rfl, rfl, by decide +kernel, rfl, by decide +kernel, by decide +kernel⟩
def t_is_from (K : PySem.W.Frag) (A : Ad) : TS :=
  (tRet (tAndV (tCl (sp_is_integer K A) (tCons (tVar 0) tNil)) (tChain cLe cLe (tVar 1) (tVar 0) (tVar 2))))
theorem pu_is_from (T : Txt K mg A) {x0 x1 x2 : V} {H : Hp} {Q : VK} (h : P_is_from K A x0 x1 x2 H Q) : t_is_from K A { nx := fun _ H' => Q .non H', rt := Q } [some x0, some x1, some x2] H := by
  obtain ⟨d, lo, hi, dd, rfl, rfl, k⟩ := h
  unfold t_is_from
  walk_at "go"
  refine c_is_integer ⟨d, dd, ?_⟩
  cases dd with
  | int i =>
    walk_at "go"
    refine g_iteT ?_
    walk_at "go"
    have e : isF lo hi (.int i) = (decide (lo ≤ i) && decide (i ≤ hi)) := rfl
    rw [e] at k
    by_cases h : lo ≤ i
    · rw [decide_eq_true h, Bool.true_and] at k
      refine g_ite (fun _ => ?_) (fun z => absurd h z)
      walk_at "go"
      exact k
    · rw [decide_eq_false h, Bool.false_and] at k
      refine g_ite (fun z => absurd z h) (fun _ => ?_)
      exact k
  | _ =>
    walk_at "go"
    exact k
theorem ok_is_from {f : Addr} {fd : FuncData} (F : Fun K "is_from" "is_from" s_is_from f fd) (T : Txt K mg A) (c_is_integer : Cal P w K mg base "is_integer" 1 ["value"] (sp_is_integer K A)) : FnOk P w K mg base CX0 (2) f fd ["value", "least", "most"] (sp_is_from K A) := by
  refine F.ok sc_is_from (fun vs H Q E h => ?_) (fun cdv Ar outer s H vs Q E hr h => ⟨t_is_from K A, ?_, ?_⟩)
  · obtain ⟨x0, x1, x2, rfl, _⟩ := h
    rfl
  · have hu := hu_of hr
    exact (pss_one (ps_ret (pe_and (pe_cl c_is_integer (hr.mono (by first | decide | omega)) (by rfl) (pa_cons (pv 0) pa_nil)) (pe_one (pe_chain c_le c_le (pv 1) (pv 0) (pv 2))))))
  · obtain ⟨x0, x1, x2, rfl, h⟩ := h
    exact pu_is_from T h
theorem isF_imp {lo hi : Int} {H : Hp} {v : V} {d : PyData} (h : Da H v d) (q : isF lo hi d = true) : ∃ i, v = .int i ∧ d = .int i ∧ lo ≤ i ∧ i ≤ hi := by
  obtain ⟨i, rfl, h1, h2⟩ := isF_int q
  exact ⟨i, h.int1, rfl, h1, h2⟩
/-- all([is_from(x, lo, hi) for x in xs]) as booleans -/
theorem all_snoc {α : Type} {f : α → Bool} {l : List α} {i : Nat} {x : α} (h : l[i]? = some x) : (l.take (i + 1)).map f = (l.take i).map f ++ [f x] := by rw [take_more h, List.map_append]; rfl
theorem all_id {α : Type} (f : α → Bool) (l : List α) : (l.map f).all id = l.all f := by rw [List.all_map]; rfl

def P_are_prices (K : PySem.W.Frag) (A : Ad) (x0 x1 x2 : V) (H : Hp) (Q : VK) : Prop := ∃ (d : PyData) (k n : Int), Da H x0 d ∧ x1 = .int k ∧ x2 = .int n ∧ ∀ H', Fr [] H H' → Q (.bl (pricesOk k n d)) H'
def sp_are_prices (K : PySem.W.Frag) (A : Ad) : Sp := fun vs H Q _ => ∃ x0 x1 x2, vs = [x0, x1, x2] ∧ P_are_prices K A x0 x1 x2 H Q
theorem c_are_prices {K : PySem.W.Frag} {A : Ad} {x0 x1 x2 : V} {H : Hp} {Q : VK} {E : XK} (h : P_are_prices K A x0 x1 x2 H Q) : sp_are_prices K A [x0, x1, x2] H Q E := ⟨_, _, _, rfl, h⟩
theorem sc_are_prices : FnScope ["prices", "kinds", "nights", "row", "price"] ["prices", "kinds", "nights"] (defScope s_are_prices) := ⟨rfl, rfl, rfl, by decide +kernel, rfl, by decide +kernel, by decide +kernel⟩
def t_are_prices (K : PySem.W.Frag) (A : Ad) : TS :=
  (tSeq (tIfS (tOr (tNot (tB (tCB (rIsi K) (tCons (tVar 0) (tCons (tC (.ty "tuple")) tNil))))) (tTest (tOp rNe (tCB (rLenSq K) (tCons (tVar 0) tNil)) (tVar 1)))) (tRet (tC (.bl false))) tNext)
    (tSeq (tFor (iTup K (tVar 0)) (gName 3) (tSeq (tIfS (tOr (tNot (tB (tCB (rIsi K) (tCons (tVar 3) (tCons (tC (.ty "tuple")) tNil))))) (tTest (tOp rNe (tCB (rLenSq K) (tCons (tVar 3) tNil)) (tVar 2)))) (tRet (tC (.bl false))) tNext)
    (tIfS (tNot (tB (tCB (rAll K) (tCons (tLc (iTup K (tVar 3)) (gName 4) tYes (tCl (sp_is_from K A) (tCons (tVar 4) (tCons (tC (.int 0)) (tCons (tC (.int 1000000)) tNil)))) [4]) tNil)))) (tRet (tC (.bl false))) tNext)))
    (tRet (tC (.bl true)))))
theorem pu_are_prices (T : Txt K mg A) {x0 x1 x2 : V} {H : Hp} {Q : VK} (h : P_are_prices K A x0 x1 x2 H Q) : t_are_prices K A { nx := fun _ H' => Q .non H', rt := Q } [some x0, some x1, some x2, none, none] H := by
  obtain ⟨d, kk, n, dd, rfl, rfl, k⟩ := h
  unfold t_are_prices
  walk_at "go"
  refine g_isTup dd ?_
  have no : isTupD d = false → Q (.bl false) H := fun h => by
    have := k H Fr.refl
    cases d with
    | tuple _ => cases h
    | _ => exact this
  walk_at "go"
  refine g_iteNB (fun h => ?_) (fun h => ?_)
  · walk_at "go"
    exact no h
  · cases d with
    | tuple ps =>
      obtain ⟨a, xs, rfl, ea, hz, dx⟩ := dd.tup1
      have hxl : xs.length = ps.length := dx.len
      walk_at "go"
      rw [hxl]
      refine g_iteN (fun hn => ?_) (fun hn => ?_)
      · walk_at "go"
        have := k H Fr.refl
        rw [show pricesOk kk n (.tuple ps) = false from by show (decide _ && _) = _; rw [decide_eq_false hn, Bool.false_and]] at this
        exact this
      · walk_at "go"
        refine f_tup (xs := xs) (fun i σ H' => (∃ v3 v4, σ = [some (.ref a), some (.int kk), some (.int n), v3, v4]) ∧ Fr [] H H' ∧ (ps.take i).all (rowOk n) = true) ⟨⟨_, _, rfl⟩, Fr.refl, by simp⟩ (fun i σ H' _ ⟨_, f, _⟩ => SqT.of (f.tup _ _ ea)) ?_ ?_
        · rintro i x σ H1 hx ⟨⟨v3, v4, rfl⟩, f1, hall⟩
          obtain ⟨e, he, de⟩ := (DaL.fr0 f1 _ _ dx).get hx
          have bad : rowOk n e = false → Q (.bl false) H1 := fun hb => by
            have := k H1 f1
            have hf : ps.all (rowOk n) = false := List.all_eq_false.mpr ⟨e, List.mem_of_getElem? he, by rw [hb]; decide⟩
            rw [show pricesOk kk n (.tuple ps) = false from by show (decide _ && _) = _; rw [hf, Bool.and_false]] at this
            exact this
          walk_at "go"
          refine g_isTup de ?_
          walk_at "go"
          refine g_iteNB (fun h => ?_) (fun h => ?_)
          · walk_at "go"
            refine bad ?_
            cases e with
            | tuple _ => cases h
            | _ => rfl
          · cases e with
            | tuple r =>
              obtain ⟨b, ys, rfl, eb, hz2, dy⟩ := de.tup1
              have hyl : ys.length = r.length := dy.len
              walk_at "go"
              rw [hyl]
              refine g_iteN (fun hn2 => ?_) (fun hn2 => ?_)
              · walk_at "go"
                exact bad (by show (decide _ && _) = _; rw [decide_eq_false hn2, Bool.false_and])
              · walk_at "go"
                refine l_tup (xs := ys) fun Dl H2 nD f2 e2 => ⟨fun j acc H' => acc = ((r.take j).map (isF 0 1000000)).map V.bl ∧ Fr [] H1 H', ⟨rfl, f2⟩, fun j acc H' q => SqT.of (q.2.tup _ _ eb), fun j y acc H' hy ha ⟨ea', f⟩ => ?_, fun acc H' ha ⟨ea', f⟩ => ?_⟩
                · obtain ⟨e', he', de'⟩ := (DaL.fr0 f _ _ dy).get hy
                  walk_at "go"
                  refine ⟨rfl, ?_⟩
                  walk_at "go"
                  refine c_is_from ⟨e', 0, 1000000, de', rfl, rfl, ?_⟩
                  have hal : acc.length ≤ 1000000 := by
                    have := (List.getElem?_eq_some_iff.mp hy).1
                    rw [ea', List.length_map, List.length_map, List.length_take]; omega
                  refine lcY_of ha (szM hal) fun H3 f3 e3 => ⟨?_, f.own1 f3 nD⟩
                  rw [ea', all_snoc he', List.map_append]; rfl
                · rw [hyl, List.take_length] at ea'
                  walk_at "go"
                  rw [ea'] at ha
                  refine g_all (SqL.of ha) ?_
                  rw [all_id]
                  walk_at "go"
                  refine g_iteNB (fun h => ?_) (fun h => ?_)
                  · walk_at "go"
                    have := k H' (f1.then0 f)
                    have hf : ps.all (rowOk n) = false := List.all_eq_false.mpr ⟨.tuple r, List.mem_of_getElem? he, by show ¬ (decide _ && _) = _; rw [h, Bool.and_false]; decide⟩
                    rw [show pricesOk kk n (.tuple ps) = false from by show (decide _ && _) = _; rw [hf, Bool.and_false]] at this
                    exact this
                  · refine ⟨⟨_, _, rfl⟩, f1.then0 f, ?_⟩
                    rw [take_more he, List.all_append, hall]
                    have : rowOk n (.tuple r) = true := by
                      show (decide _ && _) = _
                      rw [h, Bool.and_true]
                      exact decide_eq_true hn2
                    simp [this]
            | _ => cases h
        · rintro σ H1 ⟨⟨v3, v4, rfl⟩, f1, hall⟩
          rw [hxl, List.take_length] at hall
          walk_at "go"
          have := k H1 f1
          rw [show pricesOk kk n (.tuple ps) = true from by show (decide _ && _) = _; rw [hall, Bool.and_true]; exact decide_eq_true hn] at this
          exact this
    | _ => cases h
theorem ok_are_prices {f : Addr} {fd : FuncData} (F : Fun K "are_prices" "are_prices" s_are_prices f fd) (T : Txt K mg A) (c_is_from : Cal P w K mg base "is_from" 2 ["value", "least", "most"] (sp_is_from K A)) : FnOk P w K mg base CX0 (3) f fd ["prices", "kinds", "nights"] (sp_are_prices K A) := by
  refine F.ok sc_are_prices (fun vs H Q E h => ?_) (fun cdv Ar outer s H vs Q E hr h => ⟨t_are_prices K A, ?_, ?_⟩)
  · obtain ⟨x0, x1, x2, rfl, _⟩ := h
    rfl
  · have hu := hu_of hr
    exact (pss_cons (ps_if (PW.pt (pw_or (pt_not (pt_val (pe_callB call_isi (by rfl) T.b_isinstance (by decide +kernel) (pa_cons (pv 0) (pa_cons (pe_bltn (by rfl) T.b_tuple (by decide +kernel) (v := .ty "tuple") rfl) pa_nil))))) (pw_or1 (pt_cmpR op_ne (pe_callB b_len (by rfl) T.b_len (by decide +kernel) (pa_cons (pv 0) pa_nil)) (pv 1) (nomark _))))) (pss_one (ps_ret pe_bl)) pss_nil)
    (pss_cons (ps_for PassesOwn.never rfl (pi_tup (pv 0)) (pg_name (i := 3) sc_are_prices.nd rfl (Or.inl rfl)) (pss_cons (ps_if (PW.pt (pw_or (pt_not (pt_val (pe_callB call_isi (by rfl) T.b_isinstance (by decide +kernel) (pa_cons (pv 3) (pa_cons (pe_bltn (by rfl) T.b_tuple (by decide +kernel) (v := .ty "tuple") rfl) pa_nil))))) (pw_or1 (pt_cmpR op_ne (pe_callB b_len (by rfl) T.b_len (by decide +kernel) (pa_cons (pv 3) pa_nil)) (pv 2) (nomark _))))) (pss_one (ps_ret pe_bl)) pss_nil)
    (pss_one (ps_if (pt_not (pt_val (pe_callB (cr_all rfl) (by rfl) T.b_all (by decide +kernel) (pa_cons (pe_lc (own := [("price", 4)]) (g := (gName 4)) (tt := tYes) rfl sc_are_prices.nd (pi_tup (pv 3)) (blkOk_by (N := ["prices", "kinds", "nights", "row", "price"]) (sc := defScope s_are_prices) (own := [("price", 4)]) (by decide +kernel)) (fun _ _ _ _ _ => (pg_name (i := 4) sc_are_prices.nd rfl (Or.inl rfl))) (fun _ _ _ _ _ => pts_nil) (fun _ _ _ _ _ => (pe_cl c_is_from (hr.mono (by first | decide | omega)) (by rfl) (pa_cons (pv 4) (pa_cons pe_int (pa_cons (pe_gint T.g_DEAREST (by rfl)) pa_nil)))))) pa_nil)))) (pss_one (ps_ret pe_bl)) pss_nil))))
    (pss_one (ps_ret pe_bl))))
  · obtain ⟨x0, x1, x2, rfl, h⟩ := h
    exact pu_are_prices T h
theorem gtup5 {H : Hp} {xs : List V} {ds : List PyData} (h : DaL H xs ds) (hl : (xs.length : Int) = 5) : ∃ a b c d e r n s p q, xs = [a, b, c, d, e] ∧ ds = [r, n, s, p, q] ∧ Da H a r ∧ Da H b n ∧ Da H c s ∧ Da H d p ∧ Da H e q := by
  cases h with
  | nil => cases hl
  | cons h1 h => cases h with
    | nil => cases hl
    | cons h2 h => cases h with
      | nil => cases hl
      | cons h3 h => cases h with
        | nil => cases hl
        | cons h4 h => cases h with
          | nil => cases hl
          | cons h5 h => cases h with
            | nil => exact ⟨_, _, _, _, _, _, _, _, _, _, rfl, rfl, h1, h2, h3, h4, h5⟩
            | cons h6 h => simp only [List.length_cons] at hl; omega
theorem isSet_len {ds : List PyData} (h : ¬ (ds.length : Int) = 5) : isSet (.tuple ds) = false := by
  match ds, h with
  | [], _ => rfl
  | [_], _ => rfl
  | [_, _], _ => rfl
  | [_, _, _], _ => rfl
  | [_, _, _, _], _ => rfl
  | [_, _, _, _, _], h => exact absurd rfl h
  | _ :: _ :: _ :: _ :: _ :: _ :: _, _ => rfl
def P_check_setup (K : PySem.W.Frag) (A : Ad) (x0 : V) (H : Hp) (Q : VK) (E : XK) : Prop := ∃ d : PyData, Da H x0 d ∧ (isSet d = true → ∀ H', Fr [] H H' → Q .non H') ∧ (isSet d = false → ∀ H', Fr [] H H' → E (.ref A.BadSetup) none H')
def sp_check_setup (K : PySem.W.Frag) (A : Ad) : Sp := fun vs H Q E => ∃ x0, vs = [x0] ∧ P_check_setup K A x0 H Q E
theorem c_check_setup {K : PySem.W.Frag} {A : Ad} {x0 : V} {H : Hp} {Q : VK} {E : XK} (h : P_check_setup K A x0 H Q E) : sp_check_setup K A [x0] H Q E := ⟨_, rfl, h⟩
theorem sc_check_setup : FnScope ["setup", "rooms", "nights", "sellers", "prices", "share", "many"] ["setup"] (defScope s_check_setup) := ⟨rfl, rfl, rfl, by decide +kernel, rfl, by decide +kernel, by decide +kernel⟩
def t_check_setup (K : PySem.W.Frag) (A : Ad) (E : XK) : TS :=
  (tSeq (tIfS (tOr (tNot (tB (tCB (rIsi K) (tCons (tVar 0) (tCons (tC (.ty "tuple")) tNil))))) (tTest (tOp rNe (tCB (rLenSq K) (tCons (tVar 0) tNil)) (tC (.int 5))))) (tRz A.BadSetup (fun cls d _ H => E cls d H)) tNext)
    (tSeq (tAsg (tVar 0) (gTup K 5 (gCons (gName 1) (gCons (gName 2) (gCons (gName 3) (gCons (gName 4) (gCons (gName 5) gNil)))))))
    (tSeq (tIfS (tOr (tNot (tB (tCB (rIsi K) (tCons (tVar 1) (tCons (tC (.ty "tuple")) tNil))))) (tNot (tChainT cLe cLe (tC (.int 1)) (tCB (rLenSq K) (tCons (tVar 1) tNil)) (tC (.int 3))))) (tRz A.BadSetup (fun cls d _ H => E cls d H)) tNext)
    (tSeq (tIfS (tNot (tB (tCB (rAll K) (tCons (tLc (iTup K (tVar 1)) (gName 6) tYes (tCl (sp_is_from K A) (tCons (tVar 6) (tCons (tC (.int 0)) (tCons (tC (.int 4)) tNil)))) [6]) tNil)))) (tRz A.BadSetup (fun cls d _ H => E cls d H)) tNext)
    (tSeq (tIfS (tOr (tNot (tB (tCl (sp_is_from K A) (tCons (tVar 2) (tCons (tC (.int 1)) (tCons (tC (.int 12)) tNil)))))) (tNot (tB (tCl (sp_is_from K A) (tCons (tVar 3) (tCons (tC (.int 1)) (tCons (tC (.int 4)) tNil))))))) (tRz A.BadSetup (fun cls d _ H => E cls d H)) tNext)
    (tIfS (tOr (tNot (tB (tCl (sp_are_prices K A) (tCons (tVar 4) (tCons (tCB (rLenSq K) (tCons (tVar 1) tNil)) (tCons (tVar 2) tNil)))))) (tNot (tB (tCl (sp_is_from K A) (tCons (tVar 5) (tCons (tC (.int 0)) (tCons (tC (.int 100)) tNil))))))) (tRz A.BadSetup (fun cls d _ H => E cls d H)) tNext))))))
theorem pu_check_setup (T : Txt K mg A) {x0 : V} {H : Hp} {Q : VK} {E : XK} (h : P_check_setup K A x0 H Q E) : t_check_setup K A E { nx := fun _ H' => Q .non H', rt := Q } [some x0, none, none, none, none, none, none] H := by
  obtain ⟨d, dd, kq, ke⟩ := h
  unfold t_check_setup
  walk_at "go"
  refine g_isTup dd ?_
  walk_at "go"
  refine g_iteNB (fun h => ?_) (fun h => ?_)
  · walk_at "go"
    refine ke ?_ H Fr.refl
    cases d with
    | tuple _ => cases h
    | _ => rfl
  cases d with
  | tuple ds =>
    obtain ⟨a, xs, rfl, ea, hz, dx⟩ := dd.tup1
    have hxl : xs.length = ds.length := dx.len
    walk_at "go"
    refine g_iteN (fun hn => ?_) (fun hn => ?_)
    · walk_at "go"
      exact ke (isSet_len (by rw [← hxl]; exact hn)) H Fr.refl
    obtain ⟨v1, v2, v3, v4, v5, r, n, s, p, q, rfl, rfl, d1, d2, d3, d4, d5⟩ := gtup5 dx hn
    have is : isSet (.tuple [r, n, s, p, q]) = (roomsOk r && (isF 1 12 n && isF 1 4 s) && (pricesOk (lenOf r) (intOf n) p && isF 0 100 q)) := rfl
    rw [is] at kq ke
    walk_at "go"
    refine g_isTup d1 ?_
    walk_at "go"
    have noR : roomsOk r = false → ∀ H', Fr [] H H' → E (.ref A.BadSetup) none H' := fun hh => ke (by rw [hh]; rfl)
    refine g_iteNB (fun h1 => ?_) (fun h1 => ?_)
    · walk_at "go"
      refine noR ?_ H Fr.refl
      cases r with
      | tuple _ => cases h1
      | _ => rfl
    cases r with
    | tuple rs =>
      obtain ⟨b, ys, rfl, eb, hz2, dy⟩ := d1.tup1
      have hyl : ys.length = rs.length := dy.len
      have rO : roomsOk (.tuple rs) = (decide (1 ≤ (rs.length : Int)) && decide ((rs.length : Int) ≤ 3) && rs.all (isF 0 4)) := rfl
      walk_at "go"
      rw [hyl]
      refine g_ite (fun c1 => ?_) (fun c1 => ?_)
      · walk_at "go"
        refine g_iteN (fun c2 => ?_) (fun c2 => ?_)
        · walk_at "go"
          exact noR (by rw [rO, decide_eq_false c2, Bool.and_false, Bool.false_and]) H Fr.refl
        · walk_at "go"
          refine l_tup (xs := ys) fun Dl H2 nD f2 e2 => ⟨fun j acc H' => acc = ((rs.take j).map (isF 0 4)).map V.bl ∧ Fr [] H H', ⟨rfl, f2⟩, fun j acc H' q => SqT.of (q.2.tup _ _ eb), fun j y acc H' hy ha ⟨ea', f⟩ => ?_, fun acc H1 ha ⟨ea', f⟩ => ?_⟩
          · obtain ⟨e', he', de'⟩ := (DaL.fr0 f _ _ dy).get hy
            walk_at "go"
            refine ⟨rfl, ?_⟩
            walk_at "go"
            refine c_is_from ⟨e', 0, 4, de', rfl, rfl, ?_⟩
            have hal : acc.length ≤ 1000000 := by
              have := (List.getElem?_eq_some_iff.mp hy).1
              rw [ea', List.length_map, List.length_map, List.length_take]; omega
            refine lcY_of ha (szM hal) fun H3 f3 e3 => ⟨?_, f.own1 f3 nD⟩
            rw [ea', all_snoc he', List.map_append]; rfl
          · rw [hyl, List.take_length] at ea'
            walk_at "go"
            rw [ea'] at ha
            refine g_all (SqL.of ha) ?_
            rw [all_id]
            walk_at "go"
            refine g_iteNB (fun c3 => ?_) (fun c3 => ?_)
            · walk_at "go"
              exact noR (by rw [rO, c3, Bool.and_false]) H1 f
            have hr : roomsOk (.tuple rs) = true := by rw [rO, c3, decide_eq_true c1, decide_eq_true c2]; rfl
            rw [hr, Bool.true_and] at kq ke
            have eb1 := f.tup _ _ eb
            have d21 := Da.fr0 f _ _ d2
            have d31 := Da.fr0 f _ _ d3
            have d41 := Da.fr0 f _ _ d4
            have d51 := Da.fr0 f _ _ d5
            clear e2 f2 nD ha d1 d2 d3 d4 d5 dx ea ea' dd is
            walk_at "go"
            refine c_is_from ⟨n, 1, 12, d21, rfl, rfl, ?_⟩
            walk_at "go"
            refine g_iteNB (fun c4 => ?_) (fun c4 => ?_)
            · walk_at "go"
              exact ke (by rw [c4]; rfl) H1 f
            walk_at "go"
            refine c_is_from ⟨s, 1, 4, d31, rfl, rfl, ?_⟩
            walk_at "go"
            refine g_iteNB (fun c5 => ?_) (fun c5 => ?_)
            · walk_at "go"
              exact ke (by rw [c5, Bool.and_false]; rfl) H1 f
            obtain ⟨nn, rfl, rfl, _, _⟩ := isF_imp d21 c4
            rw [c4, c5, Bool.true_and, Bool.true_and] at kq ke
            walk_at "go"
            rw [hyl]
            refine c_are_prices ⟨p, rs.length, nn, d41, rfl, rfl, fun H2 f2 => ?_⟩
            have hpo : pricesOk (lenOf (.tuple rs)) (intOf (.int nn)) p = pricesOk rs.length nn p := rfl
            rw [hpo] at kq ke
            have d52 := Da.fr0 f2 _ _ d51
            walk_at "go"
            refine g_iteNB (fun c6 => ?_) (fun c6 => ?_)
            · walk_at "go"
              exact ke (by rw [c6]; rfl) H2 (f.then0 f2)
            walk_at "go"
            refine c_is_from ⟨q, 0, 100, d52, rfl, rfl, ?_⟩
            walk_at "go"
            refine g_iteNB (fun c7 => ?_) (fun c7 => ?_)
            · walk_at "go"
              exact ke (by rw [c7, Bool.and_false]) H2 (f.then0 f2)
            walk_at "go"
            exact kq (by rw [c6, c7]; rfl) H2 (f.then0 f2)
      · walk_at "go"
        exact noR (by rw [rO, decide_eq_false c1, Bool.false_and, Bool.false_and]) H Fr.refl
    | _ => cases h1
  | _ => cases h
theorem ok_check_setup {f : Addr} {fd : FuncData} (F : Fun K "check_setup" "check_setup" s_check_setup f fd) (T : Txt K mg A) (c_is_from : Cal P w K mg base "is_from" 2 ["value", "least", "most"] (sp_is_from K A)) (c_are_prices : Cal P w K mg base "are_prices" 3 ["prices", "kinds", "nights"] (sp_are_prices K A)) : FnOk P w K mg base (L2.CX P w) (4) f fd ["setup"] (sp_check_setup K A) := by
  refine F.okX sc_check_setup (fun vs H Q E h => ?_) (fun cdv Ar outer s H vs Q E hr h => ⟨t_check_setup K A E, ?_, ?_⟩)
  · obtain ⟨x0, rfl, _⟩ := h
    rfl
  · have hu := hu_of hr
    exact (pss_cons (ps_if (PW.pt (pw_or (pt_not (pt_val (pe_callB call_isi (by rfl) T.b_isinstance (by decide +kernel) (pa_cons (pv 0) (pa_cons (pe_bltn (by rfl) T.b_tuple (by decide +kernel) (v := .ty "tuple") rfl) pa_nil))))) (pw_or1 (pt_cmpR op_ne (pe_callB b_len (by rfl) T.b_len (by decide +kernel) (pa_cons (pv 0) pa_nil)) pe_int (nomark _))))) (pss_one (ps_rz rfl (takes_of rfl rfl rfl rfl) T.x_BadSetup (by rfl))) pss_nil)
    (pss_cons (ps_asg (pv 0) (pg_tup rfl (pgs_cons (pg_name (i := 1) sc_check_setup.nd rfl (Or.inl rfl)) (pgs_cons (pg_name (i := 2) sc_check_setup.nd rfl (Or.inl rfl)) (pgs_cons (pg_name (i := 3) sc_check_setup.nd rfl (Or.inl rfl)) (pgs_cons (pg_name (i := 4) sc_check_setup.nd rfl (Or.inl rfl)) (pgs_cons (pg_name (i := 5) sc_check_setup.nd rfl (Or.inl rfl)) pgs_nil)))))))
    (pss_cons (ps_if (PW.pt (pw_or (pt_not (pt_val (pe_callB call_isi (by rfl) T.b_isinstance (by decide +kernel) (pa_cons (pv 1) (pa_cons (pe_bltn (by rfl) T.b_tuple (by decide +kernel) (v := .ty "tuple") rfl) pa_nil))))) (pw_or1 (pt_not (pt_chain c_le c_le pe_int (pe_callB b_len (by rfl) T.b_len (by decide +kernel) (pa_cons (pv 1) pa_nil)) (pe_gint T.g_KINDS (by rfl))))))) (pss_one (ps_rz rfl (takes_of rfl rfl rfl rfl) T.x_BadSetup (by rfl))) pss_nil)
    (pss_cons (ps_if (pt_not (pt_val (pe_callB (cr_all rfl) (by rfl) T.b_all (by decide +kernel) (pa_cons (pe_lc (own := [("many", 6)]) (g := (gName 6)) (tt := tYes) rfl sc_check_setup.nd (pi_tup (pv 1)) (blkOk_by (N := ["setup", "rooms", "nights", "sellers", "prices", "share", "many"]) (sc := defScope s_check_setup) (own := [("many", 6)]) (by decide +kernel)) (fun _ _ _ _ _ => (pg_name (i := 6) sc_check_setup.nd rfl (Or.inl rfl))) (fun _ _ _ _ _ => pts_nil) (fun _ _ _ _ _ => (pe_cl c_is_from (hr.mono (by first | decide | omega)) (by rfl) (pa_cons (pv 6) (pa_cons pe_int (pa_cons (pe_gint T.g_ROOMS (by rfl)) pa_nil)))))) pa_nil)))) (pss_one (ps_rz rfl (takes_of rfl rfl rfl rfl) T.x_BadSetup (by rfl))) pss_nil)
    (pss_cons (ps_if (PW.pt (pw_or (pt_not (pt_val (pe_cl c_is_from (hr.mono (by first | decide | omega)) (by rfl) (pa_cons (pv 2) (pa_cons pe_int (pa_cons (pe_gint T.g_NIGHTS (by rfl)) pa_nil)))))) (pw_or1 (pt_not (pt_val (pe_cl c_is_from (hr.mono (by first | decide | omega)) (by rfl) (pa_cons (pv 3) (pa_cons pe_int (pa_cons (pe_gint T.g_SELLERS (by rfl)) pa_nil))))))))) (pss_one (ps_rz rfl (takes_of rfl rfl rfl rfl) T.x_BadSetup (by rfl))) pss_nil)
    (pss_one (ps_if (PW.pt (pw_or (pt_not (pt_val (pe_cl c_are_prices (hr.mono (by first | decide | omega)) (by rfl) (pa_cons (pv 4) (pa_cons (pe_callB b_len (by rfl) T.b_len (by decide +kernel) (pa_cons (pv 1) pa_nil)) (pa_cons (pv 2) pa_nil)))))) (pw_or1 (pt_not (pt_val (pe_cl c_is_from (hr.mono (by first | decide | omega)) (by rfl) (pa_cons (pv 5) (pa_cons pe_int (pa_cons pe_int pa_nil))))))))) (pss_one (ps_rz rfl (takes_of rfl rfl rfl rfl) T.x_BadSetup (by rfl))) pss_nil)))))))
  · obtain ⟨x0, rfl, h⟩ := h
    exact pu_check_setup T h

/-! ### what is a deed -/
def isSt (k n : Int) : PyData → Bool
  | .tuple [a, b, c] => isF 0 (k - 1) a && isF 0 (n - 1) b && isF (intOf b + 1) n c
  | _ => false
def isPty (k n : Int) : PyData → Bool
  | .tuple ds => decide (1 ≤ (ds.length : Int)) && decide ((ds.length : Int) ≤ 4) && ds.all (isSt k n) && PyData.eqv (.list ds) (.list (srt ds))
  | _ => false
def dWish (k n : Int) : List PyData → Bool
  | [p] => isPty k n p
  | _ => false
def dCan : List PyData → Bool
  | [z] => isI z && decide (0 ≤ intOf z)
  | _ => false
def dChg (k n : Int) : List PyData → Bool
  | [z, p] => isI z && decide (0 ≤ intOf z) && isPty k n p
  | _ => false
def isDd (k n : Int) : PyData → Bool
  | .tuple (h :: r) =>
    if PyData.eqv h (.str "wish") = true then dWish k n r
    else if PyData.eqv h (.str "cancel") = true then dCan r
    else if PyData.eqv h (.str "change") = true then dChg k n r
    else false
  | _ => false
theorem dWish_len {k n : Int} {r : List PyData} (h : ¬ (r.length = 1)) : dWish k n r = false := by
  match r, h with
  | [], _ => rfl
  | [_], h => exact absurd rfl h
  | _ :: _ :: _, _ => rfl
theorem dCan_len {r : List PyData} (h : ¬ (r.length = 1)) : dCan r = false := by
  match r, h with
  | [], _ => rfl
  | [_], h => exact absurd rfl h
  | _ :: _ :: _, _ => rfl
theorem dChg_len {k n : Int} {r : List PyData} (h : ¬ (r.length = 2)) : dChg k n r = false := by
  match r, h with
  | [], _ => rfl
  | [_], _ => rfl
  | [_, _], h => exact absurd rfl h
  | _ :: _ :: _ :: _, _ => rfl
theorem isI_int {H : Hp} {v : V} {d : PyData} (h : Da H v d) (q : isI d = true) : ∃ i, v = .int i ∧ d = .int i := by
  cases d with
  | int i => exact ⟨i, h.int1, rfl⟩
  | _ => cases q
def HdOk : PyData → Prop
  | .tuple (h :: _) => SeqAt.shaped h = true
  | _ => True
theorem isSt_stay {k n : Int} {d : PyData} (h : isSt k n d = true) : ∃ s : Stay, d = stayD s := by
  unfold isSt at h
  split at h
  · rename_i a b c
    simp only [Bool.and_eq_true] at h
    obtain ⟨i, rfl, _, _⟩ := isF_int h.1.1
    obtain ⟨j, rfl, _, _⟩ := isF_int h.1.2
    obtain ⟨l, rfl, _, _⟩ := isF_int h.2
    exact ⟨(i, j, l), rfl⟩
  · cases h
theorem all_stays {k n : Int} : ∀ {ds : List PyData}, ds.all (isSt k n) = true → ∃ ss : List Stay, ds = ss.map stayD
  | [], _ => ⟨[], rfl⟩
  | d :: ds, h => by
    rw [List.all_cons, Bool.and_eq_true] at h
    obtain ⟨s, rfl⟩ := isSt_stay h.1
    obtain ⟨ss, rfl⟩ := all_stays h.2
    exact ⟨s :: ss, rfl⟩
theorem canLay_stays : ∀ ss : List Stay, PyData.canLayAll0 (ss.map stayD) = true
  | [] => rfl
  | s :: ss => by
    rw [List.map_cons, PyData.canLayAll0, canLay_stays ss]; rfl
theorem depth_stays : ∀ ss : List Stay, PyData.depthAll (ss.map stayD) ≤ 3
  | [] => by simp [PyData.depthAll]
  | s :: ss => by
    have := depth_stays ss
    have h : (stayD s).depth ≤ 3 := by simp [stayD, PyData.depth, PyData.depthAll]
    simp only [List.map_cons, PyData.depthAll]; omega
theorem stays_shaped (ss : List Stay) : SeqAt.shaped (.list (ss.map stayD)) = true := by
  have := depth_stays ss
  have h : PyData.depth (.list (ss.map stayD)) ≤ 64 := by simp only [PyData.depth]; omega
  rw [SeqAt.shaped, PyData.canLay0, canLay_stays, decide_eq_true h]; rfl
theorem gtup3 {H : Hp} {xs : List V} {ds : List PyData} (h : DaL H xs ds) (hl : (xs.length : Int) = 3) : ∃ a b c r n s, xs = [a, b, c] ∧ ds = [r, n, s] ∧ Da H a r ∧ Da H b n ∧ Da H c s := by
  cases h with
  | nil => cases hl
  | cons h1 h => cases h with
    | nil => cases hl
    | cons h2 h => cases h with
      | nil => cases hl
      | cons h3 h => cases h with
        | nil => exact ⟨_, _, _, _, _, _, rfl, rfl, h1, h2, h3⟩
        | cons h4 h => simp only [List.length_cons] at hl; omega
theorem atI0 {v : V} {vs : List V} : atI (v :: vs) 0 = some v := by
  have : (v :: vs)[0]? = some v := rfl
  exact atI_nat this
theorem gtup1 {H : Hp} {xs : List V} {ds : List PyData} (h : DaL H xs ds) (hl : ds.length = 1) : ∃ a r, xs = [a] ∧ ds = [r] ∧ Da H a r := by
  cases h with
  | nil => cases hl
  | cons h1 h => cases h with
    | nil => exact ⟨_, _, rfl, rfl, h1⟩
    | cons h2 h => simp only [List.length_cons] at hl; omega
theorem g_neDD {K : PySem.W.Frag} {H : Hp} {Q : VK} {x y : V} {d e : PyData} (dx : Da H x d) (dy : Da H y e) (s1 : SeqAt.shaped d = true) (s2 : SeqAt.shaped e = true) (q : Q (.bl (!PyData.eqv d e)) H) : rNeD K x y H Q := ⟨d, e, Da.dp _ _ dx, Da.dp _ _ dy, s1, s2, q⟩
theorem gtup2 {H : Hp} {xs : List V} {ds : List PyData} (h : DaL H xs ds) (hl : (xs.length : Int) = 2) : ∃ a b r n, xs = [a, b] ∧ ds = [r, n] ∧ Da H a r ∧ Da H b n := by
  cases h with
  | nil => cases hl
  | cons h1 h => cases h with
    | nil => cases hl
    | cons h2 h => cases h with
      | nil => exact ⟨_, _, _, _, rfl, rfl, h1, h2⟩
      | cons h3 h => simp only [List.length_cons] at hl; omega
theorem isSt_len {k n : Int} {ds : List PyData} (h : ¬ (ds.length : Int) = 3) : isSt k n (.tuple ds) = false := by
  match ds, h with
  | [], _ => rfl
  | [_], _ => rfl
  | [_, _], _ => rfl
  | [_, _, _], h => exact absurd rfl h
  | _ :: _ :: _ :: _ :: _, _ => rfl
def P_is_stay (K : PySem.W.Frag) (A : Ad) (x0 x1 x2 : V) (H : Hp) (Q : VK) : Prop := ∃ (d : PyData) (k n : Int), Da H x0 d ∧ x1 = .int k ∧ x2 = .int n ∧ Q (.bl (isSt k n d)) H
def sp_is_stay (K : PySem.W.Frag) (A : Ad) : Sp := fun vs H Q _ => ∃ x0 x1 x2, vs = [x0, x1, x2] ∧ P_is_stay K A x0 x1 x2 H Q
theorem c_is_stay {K : PySem.W.Frag} {A : Ad} {x0 x1 x2 : V} {H : Hp} {Q : VK} {E : XK} (h : P_is_stay K A x0 x1 x2 H Q) : sp_is_stay K A [x0, x1, x2] H Q E := ⟨_, _, _, rfl, h⟩
theorem sc_is_stay : FnScope ["stay", "kinds", "nights"] ["stay", "kinds", "nights"] (defScope s_is_stay) := ⟨rfl, rfl, rfl, by decide +kernel, rfl, by decide +kernel, by decide +kernel⟩
def t_is_stay (K : PySem.W.Frag) (A : Ad) : TS :=
  (tSeq (tIfS (tOr (tNot (tB (tCB (rIsi K) (tCons (tVar 0) (tCons (tC (.ty "tuple")) tNil))))) (tTest (tOp rNe (tCB (rLenSq K) (tCons (tVar 0) tNil)) (tC (.int 3))))) (tRet (tC (.bl false))) tNext)
    (tSeq (tIfS (tOr (tNot (tB (tCl (sp_is_from K A) (tCons (tOp (rIxT K) (tVar 0) (tC (.int 0))) (tCons (tC (.int 0)) (tCons (tOp oSub (tVar 1) (tC (.int 1))) tNil)))))) (tNot (tB (tCl (sp_is_from K A) (tCons (tOp (rIxT K) (tVar 0) (tC (.int 1))) (tCons (tC (.int 0)) (tCons (tOp oSub (tVar 2) (tC (.int 1))) tNil))))))) (tRet (tC (.bl false))) tNext)
    (tRet (tCl (sp_is_from K A) (tCons (tOp (rIxT K) (tVar 0) (tC (.int 2))) (tCons (tOp oAdd (tOp (rIxT K) (tVar 0) (tC (.int 1))) (tC (.int 1))) (tCons (tVar 2) tNil)))))))
theorem pu_is_stay (T : Txt K mg A) {x0 x1 x2 : V} {H : Hp} {Q : VK} (h : P_is_stay K A x0 x1 x2 H Q) : t_is_stay K A { nx := fun _ H' => Q .non H', rt := Q } [some x0, some x1, some x2] H := by
  obtain ⟨d, kk, n, dd, rfl, rfl, k⟩ := h
  unfold t_is_stay
  walk_at "go"
  refine g_isTup dd ?_
  walk_at "go"
  refine g_iteNB (fun h => ?_) (fun h => ?_)
  · walk_at "go"
    cases d with
    | tuple _ => cases h
    | _ => exact k
  cases d with
  | tuple ds =>
    obtain ⟨a, xs, rfl, ea, hz, dx⟩ := dd.tup1
    have hxl : xs.length = ds.length := dx.len
    walk_at "go"
    refine g_iteN (fun hn => ?_) (fun hn => ?_)
    · walk_at "go"
      rw [isSt_len (by rw [← hxl]; exact hn)] at k
      exact k
    obtain ⟨v1, v2, v3, r, n2, s, rfl, rfl, d1, d2, d3⟩ := gtup3 dx hn
    have is : isSt kk n (.tuple [r, n2, s]) = (isF 0 (kk - 1) r && isF 0 (n - 1) n2 && isF (intOf n2 + 1) n s) := rfl
    rw [is] at k
    walk_at "go"
    refine c_is_from ⟨r, 0, kk - 1, d1, rfl, rfl, ?_⟩
    walk_at "go"
    refine g_iteNB (fun c4 => ?_) (fun c4 => ?_)
    · walk_at "go"
      rw [c4] at k
      exact k
    walk_at "go"
    refine c_is_from ⟨n2, 0, n - 1, d2, rfl, rfl, ?_⟩
    walk_at "go"
    refine g_iteNB (fun c5 => ?_) (fun c5 => ?_)
    · walk_at "go"
      rw [c5, Bool.and_false] at k
      exact k
    obtain ⟨nn, rfl, rfl, _, _⟩ := isF_imp d2 c5
    rw [c4, c5] at k
    walk_at "go"
    exact c_is_from ⟨s, nn + 1, n, d3, rfl, rfl, k⟩
  | _ => cases h
theorem ok_is_stay {f : Addr} {fd : FuncData} (F : Fun K "is_stay" "is_stay" s_is_stay f fd) (T : Txt K mg A) (c_is_from : Cal P w K mg base "is_from" 2 ["value", "least", "most"] (sp_is_from K A)) : FnOk P w K mg base CX0 (3) f fd ["stay", "kinds", "nights"] (sp_is_stay K A) := by
  refine F.ok sc_is_stay (fun vs H Q E h => ?_) (fun cdv Ar outer s H vs Q E hr h => ⟨t_is_stay K A, ?_, ?_⟩)
  · obtain ⟨x0, x1, x2, rfl, _⟩ := h
    rfl
  · have hu := hu_of hr
    exact (pss_cons (ps_if (PW.pt (pw_or (pt_not (pt_val (pe_callB call_isi (by rfl) T.b_isinstance (by decide +kernel) (pa_cons (pv 0) (pa_cons (pe_bltn (by rfl) T.b_tuple (by decide +kernel) (v := .ty "tuple") rfl) pa_nil))))) (pw_or1 (pt_cmpR op_ne (pe_callB b_len (by rfl) T.b_len (by decide +kernel) (pa_cons (pv 0) pa_nil)) pe_int (nomark _))))) (pss_one (ps_ret pe_bl)) pss_nil)
    (pss_cons (ps_if (PW.pt (pw_or (pt_not (pt_val (pe_cl c_is_from (hr.mono (by first | decide | omega)) (by rfl) (pa_cons (pe_ix ix_tup (pv 0) pe_int (fun _ _ => rfl)) (pa_cons pe_int (pa_cons (pe_op o_sub (pv 1) pe_int) pa_nil)))))) (pw_or1 (pt_not (pt_val (pe_cl c_is_from (hr.mono (by first | decide | omega)) (by rfl) (pa_cons (pe_ix ix_tup (pv 0) pe_int (fun _ _ => rfl)) (pa_cons pe_int (pa_cons (pe_op o_sub (pv 2) pe_int) pa_nil))))))))) (pss_one (ps_ret pe_bl)) pss_nil)
    (pss_one (ps_ret (pe_cl c_is_from (hr.mono (by first | decide | omega)) (by rfl) (pa_cons (pe_ix ix_tup (pv 0) pe_int (fun _ _ => rfl)) (pa_cons (pe_op o_add (pe_ix ix_tup (pv 0) pe_int (fun _ _ => rfl)) pe_int) (pa_cons (pv 2) pa_nil))))))))
  · obtain ⟨x0, x1, x2, rfl, h⟩ := h
    exact pu_is_stay T h
def P_is_party (K : PySem.W.Frag) (A : Ad) (x0 x1 x2 : V) (H : Hp) (Q : VK) : Prop := ∃ (d : PyData) (k n : Int), Da H x0 d ∧ x1 = .int k ∧ x2 = .int n ∧ ∀ H', Fr [] H H' → Q (.bl (isPty k n d)) H'
def sp_is_party (K : PySem.W.Frag) (A : Ad) : Sp := fun vs H Q _ => ∃ x0 x1 x2, vs = [x0, x1, x2] ∧ P_is_party K A x0 x1 x2 H Q
theorem c_is_party {K : PySem.W.Frag} {A : Ad} {x0 x1 x2 : V} {H : Hp} {Q : VK} {E : XK} (h : P_is_party K A x0 x1 x2 H Q) : sp_is_party K A [x0, x1, x2] H Q E := ⟨_, _, _, rfl, h⟩
theorem sc_is_party : FnScope ["party", "kinds", "nights", "stay"] ["party", "kinds", "nights"] (defScope s_is_party) := ⟨rfl, rfl, rfl, by decide +kernel, rfl, by decide +kernel, by decide +kernel⟩
def t_is_party (K : PySem.W.Frag) (A : Ad) : TS :=
  (tSeq (tIfS (tOr (tNot (tB (tCB (rIsi K) (tCons (tVar 0) (tCons (tC (.ty "tuple")) tNil))))) (tNot (tChainT cLe cLe (tC (.int 1)) (tCB (rLenSq K) (tCons (tVar 0) tNil)) (tC (.int 4))))) (tRet (tC (.bl false))) tNext)
    (tSeq (tIfS (tNot (tB (tCB (rAll K) (tCons (tLc (iTup K (tVar 0)) (gName 3) tYes (tCl (sp_is_stay K A) (tCons (tVar 3) (tCons (tVar 1) (tCons (tVar 2) tNil)))) [3]) tNil)))) (tRet (tC (.bl false))) tNext)
    (tRet (tOp (rEqD K) (tCB (rListOf K) (tCons (tVar 0) tNil)) (tCB (rSortDU K) (tCons (tVar 0) tNil))))))
theorem pu_is_party (T : Txt K mg A) {x0 x1 x2 : V} {H : Hp} {Q : VK} (h : P_is_party K A x0 x1 x2 H Q) : t_is_party K A { nx := fun _ H' => Q .non H', rt := Q } [some x0, some x1, some x2, none] H := by
  obtain ⟨d, kk, n, dd, rfl, rfl, k⟩ := h
  unfold t_is_party
  walk_at "go"
  refine g_isTup dd ?_
  walk_at "go"
  refine g_iteNB (fun h => ?_) (fun h => ?_)
  · walk_at "go"
    have := k H Fr.refl
    cases d with
    | tuple _ => cases h
    | _ => exact this
  cases d with
  | tuple ds =>
    obtain ⟨a, ys, rfl, eb, hz2, dy⟩ := dd.tup1
    have hyl : ys.length = ds.length := dy.len
    have is : isPty kk n (.tuple ds) = (decide (1 ≤ (ds.length : Int)) && decide ((ds.length : Int) ≤ 4) && ds.all (isSt kk n) && PyData.eqv (.list ds) (.list (srt ds))) := rfl
    rw [is] at k
    clear is
    walk_at "go"
    rw [hyl]
    refine g_ite (fun c1 => ?_) (fun c1 => ?_)
    · walk_at "go"
      refine g_iteN (fun c2 => ?_) (fun c2 => ?_)
      · walk_at "go"
        have := k H Fr.refl
        rw [decide_eq_false c2, Bool.and_false, Bool.false_and, Bool.false_and] at this
        exact this
      · walk_at "go"
        refine l_tup (xs := ys) fun Dl H2 nD f2 e2 => ⟨fun j acc H' => acc = ((ds.take j).map (isSt kk n)).map V.bl ∧ Fr [] H H', ⟨rfl, f2⟩, fun j acc H' q => SqT.of (q.2.tup _ _ eb), fun j y acc H' hy ha ⟨ea', f⟩ => ?_, fun acc H1 ha ⟨ea', f⟩ => ?_⟩
        · obtain ⟨e', he', de'⟩ := (DaL.fr0 f _ _ dy).get hy
          walk_at "go"
          refine ⟨rfl, ?_⟩
          walk_at "go"
          refine c_is_stay ⟨e', kk, n, de', rfl, rfl, ?_⟩
          have hal : acc.length ≤ 1000000 := by
            have := (List.getElem?_eq_some_iff.mp hy).1
            rw [ea', List.length_map, List.length_map, List.length_take]; omega
          refine lcY_of ha (szM hal) fun H3 f3 e3 => ⟨?_, f.own1 f3 nD⟩
          rw [ea', all_snoc he', List.map_append]; rfl
        · rw [hyl, List.take_length] at ea'
          walk_at "go"
          rw [ea'] at ha
          refine g_all (SqL.of ha) ?_
          rw [all_id]
          walk_at "go"
          refine g_iteNB (fun c3 => ?_) (fun c3 => ?_)
          · walk_at "go"
            have := k H1 f
            rw [c3, Bool.and_false, Bool.false_and] at this
            exact this
          · have eb1 := f.tup _ _ eb
            have dy1 := DaL.fr0 f _ _ dy
            rw [c3, decide_eq_true c1, decide_eq_true c2] at k
            obtain ⟨ss, rfl⟩ := all_stays c3
            rw [List.length_map] at c1 c2 hyl
            clear f2 e2 nD dd eb dy ha ea'
            walk_at "go"
            rename_i p2 H2 n2 f2 e2
            have eb2 := f2.tup _ _ eb1
            have dy2 := DaL.frL f2 dy1 (imm_stays ss)
            clear eb1 dy1
            have hyl2 : ys.length ≤ 1000000 := by omega
            refine g_srtU (SqT.of eb2) dy2 (stays_alike ss) (stays_sortable ss) (stays_depth ss) fun p3 H3 ys3 n3 f3 e3 dy3 => ?_
            have hy3 : ys3.length = ss.length := by rw [dy3.len, (srt_perm _).length_eq, List.length_map]
            have F3 : Fr [] H H3 := (f.then0 f2).then0 f3
            rw [← ssrt_map] at dy3
            have dy3 := DaL.frL f3 dy3 (imm_stays _)
            have i3 : Da H3 (.ref p3) (.list ((ssrt ss).map stayD)) := .lst e3 (by omega) dy3
            have kk := k H3 F3
            rw [← ssrt_map] at kk
            exact g_eqDD (.lst (f3.at0 e2) hyl2 (DaL.frL f3 dy2 (imm_stays ss))) i3 (stays_shaped _) (stays_shaped _) kk
    · walk_at "go"
      have := k H Fr.refl
      rw [decide_eq_false c1, Bool.false_and, Bool.false_and, Bool.false_and] at this
      exact this
  | _ => cases h
theorem ok_is_party {f : Addr} {fd : FuncData} (F : Fun K "is_party" "is_party" s_is_party f fd) (T : Txt K mg A) (c_is_stay : Cal P w K mg base "is_stay" 3 ["stay", "kinds", "nights"] (sp_is_stay K A)) : FnOk P w K mg base CX0 (4) f fd ["party", "kinds", "nights"] (sp_is_party K A) := by
  refine F.ok sc_is_party (fun vs H Q E h => ?_) (fun cdv Ar outer s H vs Q E hr h => ⟨t_is_party K A, ?_, ?_⟩)
  · obtain ⟨x0, x1, x2, rfl, _⟩ := h
    rfl
  · have hu := hu_of hr
    exact (pss_cons (ps_if (PW.pt (pw_or (pt_not (pt_val (pe_callB call_isi (by rfl) T.b_isinstance (by decide +kernel) (pa_cons (pv 0) (pa_cons (pe_bltn (by rfl) T.b_tuple (by decide +kernel) (v := .ty "tuple") rfl) pa_nil))))) (pw_or1 (pt_not (pt_chain c_le c_le pe_int (pe_callB b_len (by rfl) T.b_len (by decide +kernel) (pa_cons (pv 0) pa_nil)) (pe_gint T.g_PARTY (by rfl))))))) (pss_one (ps_ret pe_bl)) pss_nil)
    (pss_cons (ps_if (pt_not (pt_val (pe_callB (cr_all rfl) (by rfl) T.b_all (by decide +kernel) (pa_cons (pe_lc (own := [("stay", 3)]) (g := (gName 3)) (tt := tYes) rfl sc_is_party.nd (pi_tup (pv 0)) (blkOk_by (N := ["party", "kinds", "nights", "stay"]) (sc := defScope s_is_party) (own := [("stay", 3)]) (by decide +kernel)) (fun _ _ _ _ _ => (pg_name (i := 3) sc_is_party.nd rfl (Or.inl rfl))) (fun _ _ _ _ _ => pts_nil) (fun _ _ _ _ _ => (pe_cl c_is_stay (hr.mono (by first | decide | omega)) (by rfl) (pa_cons (pv 3) (pa_cons (pv 1) (pa_cons (pv 2) pa_nil)))))) pa_nil)))) (pss_one (ps_ret pe_bl)) pss_nil)
    (pss_one (ps_ret (pe_cmpR (op_eqD hr.units) (pe_callTy b_list (by rfl) T.b_list (by decide +kernel) (pa_cons (pv 0) pa_nil)) (pe_callB (b_sortDU hr.units) (by rfl) T.b_sorted (by decide +kernel) (pa_cons (pv 0) pa_nil)) (nomark _))))))
  · obtain ⟨x0, x1, x2, rfl, h⟩ := h
    exact pu_is_party T h
theorem eqv_str {d : PyData} {x : Str} (h : PyData.eqv d (.str x) = true) : d = .str x := by
  cases d with
  | str y =>
    have h : (y == x) = true := by simpa [PyData.eqv] using h
    rw [beq_iff_eq] at h
    rw [h]
  | _ => simp [PyData.eqv] at h
def P_is_deed (K : PySem.W.Frag) (A : Ad) (x0 x1 x2 : V) (H : Hp) (Q : VK) : Prop := ∃ (d : PyData) (k n : Int), Da H x0 d ∧ HdOk d ∧ x1 = .int k ∧ x2 = .int n ∧ ∀ H', Fr [] H H' → Q (.bl (isDd k n d)) H'
def sp_is_deed (K : PySem.W.Frag) (A : Ad) : Sp := fun vs H Q _ => ∃ x0 x1 x2, vs = [x0, x1, x2] ∧ P_is_deed K A x0 x1 x2 H Q
theorem c_is_deed {K : PySem.W.Frag} {A : Ad} {x0 x1 x2 : V} {H : Hp} {Q : VK} {E : XK} (h : P_is_deed K A x0 x1 x2 H Q) : sp_is_deed K A [x0, x1, x2] H Q E := ⟨_, _, _, rfl, h⟩
theorem sc_is_deed : FnScope ["deed", "kinds", "nights"] ["deed", "kinds", "nights"] (defScope s_is_deed) := ⟨rfl, rfl, rfl, by decide +kernel, rfl, by decide +kernel, by decide +kernel⟩
def t_is_deed (K : PySem.W.Frag) (A : Ad) : TS :=
  (tSeq (tIfS (tOr (tNot (tB (tCB (rIsi K) (tCons (tVar 0) (tCons (tC (.ty "tuple")) tNil))))) (tNot (tTr K (tVar 0)))) (tRet (tC (.bl false))) tNext)
    (tSeq (tIfS (tTest (tOp (rEqD K) (tOp (rIxT K) (tVar 0) (tC (.int 0))) (tC (.str "wish")))) (tRet (tAndV (tOp rEq (tCB (rLenSq K) (tCons (tVar 0) tNil)) (tC (.int 2))) (tCl (sp_is_party K A) (tCons (tOp (rIxT K) (tVar 0) (tC (.int 1))) (tCons (tVar 1) (tCons (tVar 2) tNil)))))) tNext)
    (tSeq (tIfS (tTest (tOp (rEqD K) (tOp (rIxT K) (tVar 0) (tC (.int 0))) (tC (.str "cancel")))) (tRet (tAndV (tOp rEq (tCB (rLenSq K) (tCons (tVar 0) tNil)) (tC (.int 2))) (tAndV (tCl (sp_is_integer K A) (tCons (tOp (rIxT K) (tVar 0) (tC (.int 1))) tNil)) (tOp cGe (tOp (rIxT K) (tVar 0) (tC (.int 1))) (tC (.int 0)))))) tNext)
    (tSeq (tIfS (tOr (tTest (tOp (rNeD K) (tOp (rIxT K) (tVar 0) (tC (.int 0))) (tC (.str "change")))) (tTest (tOp rNe (tCB (rLenSq K) (tCons (tVar 0) tNil)) (tC (.int 3))))) (tRet (tC (.bl false))) tNext)
    (tRet (tAndV (tCl (sp_is_integer K A) (tCons (tOp (rIxT K) (tVar 0) (tC (.int 1))) tNil)) (tAndV (tOp cGe (tOp (rIxT K) (tVar 0) (tC (.int 1))) (tC (.int 0))) (tCl (sp_is_party K A) (tCons (tOp (rIxT K) (tVar 0) (tC (.int 2))) (tCons (tVar 1) (tCons (tVar 2) tNil)))))))))))
theorem pu_is_deed (T : Txt K mg A) {x0 x1 x2 : V} {H : Hp} {Q : VK} (h : P_is_deed K A x0 x1 x2 H Q) : t_is_deed K A { nx := fun _ H' => Q .non H', rt := Q } [some x0, some x1, some x2] H := by
  obtain ⟨d, kk, n, dd, hok, rfl, rfl, k⟩ := h
  unfold t_is_deed
  walk_at "go"
  refine g_isTup dd ?_
  walk_at "go"
  refine g_iteNB (fun h => ?_) (fun h => ?_)
  · walk_at "go"
    have := k H Fr.refl
    cases d with
    | tuple _ => cases h
    | _ => exact this
  cases d with
  | tuple ds =>
    obtain ⟨a, ys, rfl, eb, hz2, dy⟩ := dd.tup1
    walk_at "go"
    refine ⟨!ys.isEmpty, .inr (.inl ⟨ys, SqT.of eb, rfl⟩), ?_⟩
    cases dy with
    | nil =>
      refine g_iteNB (fun _ => ?_) (fun z => nomatch z)
      walk_at "go"
      exact k H Fr.refl
    | @cons v vs h0 r d0 dr =>
      have hvl : vs.length = r.length := dr.len
      have is : isDd kk n (.tuple (h0 :: r)) = (if PyData.eqv h0 (.str "wish") = true then dWish kk n r else if PyData.eqv h0 (.str "cancel") = true then dCan r else if PyData.eqv h0 (.str "change") = true then dChg kk n r else false) := rfl
      rw [is] at k
      refine g_iteNB (fun z => nomatch z) fun _ => ?_
      walk_at "go"
      refine g_ixT (SqT.of eb) atI0 ?_
      walk_at "go"
      refine g_eqDD d0 (.str _) hok (by decide +kernel) ?_
      walk_at "go"
      refine g_iteB (fun c => ?_) (fun c => ?_)
      · rw [if_pos c] at k
        walk_at "go"
        rw [List.length_cons, hvl]
        refine g_ite (fun hn => ?_) (fun hn => ?_)
        · obtain ⟨p, dp, rfl, rfl, d1⟩ := gtup1 dr (by omega)
          walk_at "go"
          exact c_is_party ⟨dp, kk, n, d1, rfl, rfl, fun H' f => k H' f⟩
        · have := k H Fr.refl
          rw [dWish_len (by omega)] at this
          exact this
      · rw [if_neg (by rw [c]; decide)] at k
        walk_at "go"
        refine g_ixT (SqT.of eb) atI0 ?_
        walk_at "go"
        refine g_eqDD d0 (.str _) hok (by decide +kernel) ?_
        walk_at "go"
        refine g_iteB (fun c => ?_) (fun c => ?_)
        · rw [if_pos c] at k
          walk_at "go"
          rw [List.length_cons, hvl]
          refine g_ite (fun hn => ?_) (fun hn => ?_)
          · obtain ⟨p, dp, rfl, rfl, d1⟩ := gtup1 dr (by omega)
            have k := k H Fr.refl
            have k : Q (.bl (isI dp && decide (0 ≤ intOf dp))) H := k
            walk_at "go"
            refine c_is_integer ⟨dp, d1, ?_⟩
            walk_at "go"
            refine g_iteB (fun c2 => ?_) (fun c2 => ?_)
            · obtain ⟨i, rfl, rfl⟩ := isI_int d1 c2
              walk_at "go"
              exact k
            · rw [c2] at k
              exact k
          · have := k H Fr.refl
            rw [dCan_len (by omega)] at this
            exact this
        · rw [if_neg (by rw [c]; decide)] at k
          walk_at "go"
          refine g_ixT (SqT.of eb) atI0 ?_
          walk_at "go"
          refine g_neDD d0 (.str _) hok (by decide +kernel) ?_
          walk_at "go"
          refine g_iteNB (fun c => ?_) (fun c => ?_)
          · rw [if_neg (by rw [c]; decide)] at k
            walk_at "go"
            exact k H Fr.refl
          · rw [if_pos c] at k
            walk_at "go"
            rw [List.length_cons, hvl]
            refine g_iteN (fun hn => ?_) (fun hn => ?_)
            · walk_at "go"
              have := k H Fr.refl
              rw [dChg_len (by omega)] at this
              exact this
            · obtain ⟨p, p2, dp, dp2, rfl, rfl, d1, d2⟩ := gtup2 dr (by rw [hvl]; omega)
              have k : ∀ H', Fr [] H H' → Q (.bl (isI dp && decide (0 ≤ intOf dp) && isPty kk n dp2)) H' := k
              walk_at "go"
              refine c_is_integer ⟨dp, d1, ?_⟩
              walk_at "go"
              refine g_iteB (fun c2 => ?_) (fun c2 => ?_)
              · obtain ⟨i, rfl, rfl⟩ := isI_int d1 c2
                have k : ∀ H', Fr [] H H' → Q (.bl (decide (0 ≤ i) && isPty kk n dp2)) H' := k
                walk_at "go"
                refine g_ite (fun c3 => ?_) (fun c3 => ?_)
                · walk_at "go"
                  refine c_is_party ⟨dp2, kk, n, d2, rfl, rfl, fun H' f => ?_⟩
                  have := k H' f
                  rw [decide_eq_true c3] at this
                  exact this
                · have := k H Fr.refl
                  rw [decide_eq_false c3] at this
                  exact this
              · have := k H Fr.refl
                rw [c2] at this
                exact this
  | _ => cases h
theorem ok_is_deed {f : Addr} {fd : FuncData} (F : Fun K "is_deed" "is_deed" s_is_deed f fd) (T : Txt K mg A) (c_is_integer : Cal P w K mg base "is_integer" 1 ["value"] (sp_is_integer K A)) (c_is_party : Cal P w K mg base "is_party" 4 ["party", "kinds", "nights"] (sp_is_party K A)) : FnOk P w K mg base CX0 (5) f fd ["deed", "kinds", "nights"] (sp_is_deed K A) := by
  refine F.ok sc_is_deed (fun vs H Q E h => ?_) (fun cdv Ar outer s H vs Q E hr h => ⟨t_is_deed K A, ?_, ?_⟩)
  · obtain ⟨x0, x1, x2, rfl, _⟩ := h
    rfl
  · have hu := hu_of hr
    exact (pss_cons (ps_if (PW.pt (pw_or (pt_not (pt_val (pe_callB call_isi (by rfl) T.b_isinstance (by decide +kernel) (pa_cons (pv 0) (pa_cons (pe_bltn (by rfl) T.b_tuple (by decide +kernel) (v := .ty "tuple") rfl) pa_nil))))) (pw_or1 (pt_not (pt_tr (pv 0) (by intro _; rfl)))))) (pss_one (ps_ret pe_bl)) pss_nil)
    (pss_cons (ps_if (pt_cmpR (op_eqD hr.units) (pe_ix ix_tup (pv 0) pe_int (fun _ _ => rfl)) pe_str (nomark _)) (pss_one (ps_ret (pe_and (pe_cmpR op_eq (pe_callB b_len (by rfl) T.b_len (by decide +kernel) (pa_cons (pv 0) pa_nil)) pe_int (nomark _)) (pe_one (pe_cl c_is_party (hr.mono (by first | decide | omega)) (by rfl) (pa_cons (pe_ix ix_tup (pv 0) pe_int (fun _ _ => rfl)) (pa_cons (pv 1) (pa_cons (pv 2) pa_nil)))))))) pss_nil)
    (pss_cons (ps_if (pt_cmpR (op_eqD hr.units) (pe_ix ix_tup (pv 0) pe_int (fun _ _ => rfl)) pe_str (nomark _)) (pss_one (ps_ret (pe_and (pe_cmpR op_eq (pe_callB b_len (by rfl) T.b_len (by decide +kernel) (pa_cons (pv 0) pa_nil)) pe_int (nomark _)) (pe_and (pe_cl c_is_integer (hr.mono (by first | decide | omega)) (by rfl) (pa_cons (pe_ix ix_tup (pv 0) pe_int (fun _ _ => rfl)) pa_nil)) (pe_one (pe_cmpR c_ge (pe_ix ix_tup (pv 0) pe_int (fun _ _ => rfl)) pe_int (nomark _))))))) pss_nil)
    (pss_cons (ps_if (PW.pt (pw_or (pt_cmpR (op_neD hr.units) (pe_ix ix_tup (pv 0) pe_int (fun _ _ => rfl)) pe_str (nomark _)) (pw_or1 (pt_cmpR op_ne (pe_callB b_len (by rfl) T.b_len (by decide +kernel) (pa_cons (pv 0) pa_nil)) pe_int (nomark _))))) (pss_one (ps_ret pe_bl)) pss_nil)
    (pss_one (ps_ret (pe_and (pe_cl c_is_integer (hr.mono (by first | decide | omega)) (by rfl) (pa_cons (pe_ix ix_tup (pv 0) pe_int (fun _ _ => rfl)) pa_nil)) (pe_and (pe_cmpR c_ge (pe_ix ix_tup (pv 0) pe_int (fun _ _ => rfl)) pe_int (nomark _)) (pe_one (pe_cl c_is_party (hr.mono (by first | decide | omega)) (by rfl) (pa_cons (pe_ix ix_tup (pv 0) pe_int (fun _ _ => rfl)) (pa_cons (pv 1) (pa_cons (pv 2) pa_nil)))))))))))))
  · obtain ⟨x0, x1, x2, rfl, h⟩ := h
    exact pu_is_deed T h
def P_check_deed (K : PySem.W.Frag) (A : Ad) (x0 x1 : V) (H : Hp) (Q : VK) (E : XK) : Prop := ∃ (S : Setup) (d : PyData), Da H x0 (setupD S) ∧ Da H x1 d ∧ HdOk d ∧
  (isDd S.rooms.length S.nights d = true → ∀ H', Fr [] H H' → Q .non H') ∧ (isDd S.rooms.length S.nights d = false → ∀ H', Fr [] H H' → E (.ref A.BadDeed) none H')
def sp_check_deed (K : PySem.W.Frag) (A : Ad) : Sp := fun vs H Q E => ∃ x0 x1, vs = [x0, x1] ∧ P_check_deed K A x0 x1 H Q E
theorem c_check_deed {K : PySem.W.Frag} {A : Ad} {x0 x1 : V} {H : Hp} {Q : VK} {E : XK} (h : P_check_deed K A x0 x1 H Q E) : sp_check_deed K A [x0, x1] H Q E := ⟨_, _, rfl, h⟩
theorem sc_check_deed : FnScope ["setup", "deed"] ["setup", "deed"] (defScope s_check_deed) := ⟨rfl, rfl, rfl, by decide +kernel, rfl, by decide +kernel, by decide +kernel⟩
def t_check_deed (K : PySem.W.Frag) (A : Ad) (E : XK) : TS :=
  (tIfS (tNot (tB (tCl (sp_is_deed K A) (tCons (tVar 1) (tCons (tCB (rLenSq K) (tCons (tOp (rIxT K) (tVar 0) (tC (.int 0))) tNil)) (tCons (tOp (rIxT K) (tVar 0) (tC (.int 1))) tNil)))))) (tRz A.BadDeed (fun cls d _ H => E cls d H)) tNext)
theorem pu_check_deed (T : Txt K mg A) {x0 x1 : V} {H : Hp} {Q : VK} {E : XK} (h : P_check_deed K A x0 x1 H Q E) : t_check_deed K A E { nx := fun _ H' => Q .non H', rt := Q } [some x0, some x1] H := by
  obtain ⟨S, d, dS, dd, hok, kq, ke⟩ := h
  obtain ⟨s, r, p, ps, sa⟩ := SetAt.of dS
  cases sa.e
  have e0 := sa.t
  have er := sa.r
  unfold t_check_deed
  walk_at "go"
  have hrl : ((S.rooms.map V.int).length : Int) = (S.rooms.length : Int) := by rw [List.length_map]
  rw [hrl]
  refine c_is_deed ⟨d, S.rooms.length, S.nights, dd, hok, rfl, rfl, fun H' f => ?_⟩
  walk_at "go"
  refine g_iteNB (fun c => ?_) (fun c => ?_)
  · walk_at "go"
    exact ke c H' f
  · walk_at "go"
    exact kq c H' f
theorem ok_check_deed {f : Addr} {fd : FuncData} (F : Fun K "check_deed" "check_deed" s_check_deed f fd) (T : Txt K mg A) (c_is_deed : Cal P w K mg base "is_deed" 5 ["deed", "kinds", "nights"] (sp_is_deed K A)) : FnOk P w K mg base (L2.CX P w) (6) f fd ["setup", "deed"] (sp_check_deed K A) := by
  refine F.okX sc_check_deed (fun vs H Q E h => ?_) (fun cdv Ar outer s H vs Q E hr h => ⟨t_check_deed K A E, ?_, ?_⟩)
  · obtain ⟨x0, x1, rfl, _⟩ := h
    rfl
  · have hu := hu_of hr
    exact (pss_one (ps_if (pt_not (pt_val (pe_cl c_is_deed (hr.mono (by first | decide | omega)) (by rfl) (pa_cons (pv 1) (pa_cons (pe_callB b_len (by rfl) T.b_len (by decide +kernel) (pa_cons (pe_ix ix_tup (pv 0) pe_int (fun _ _ => rfl)) pa_nil)) (pa_cons (pe_ix ix_tup (pv 0) pe_int (fun _ _ => rfl)) pa_nil)))))) (pss_one (ps_rz rfl (takes_of rfl rfl rfl rfl) T.x_BadDeed (by rfl))) pss_nil))
  · obtain ⟨x0, x1, rfl, h⟩ := h
    exact pu_check_deed T h

/-! ### cells and needs -/
abbrev Cell := Int × Int
def ck (c : Cell) : List Key := [.inl c.1, .inl c.2]
theorem ck_inj : ∀ a b : Cell, ck a = ck b → a = b := fun a b h => by
  obtain ⟨a1, a2⟩ := a
  obtain ⟨b1, b2⟩ := b
  unfold ck at h
  simp only [List.cons.injEq, Sum.inl.injEq, and_true] at h
  rw [h.1, h.2]
/-- a dict from cells to numbers -/
abbrev cD (m : List (Cell × Int)) : List (List Key × V) := enD ck V.int m
def cellsOf (s : Stay) : List Cell := (List.range (s.2.2 - s.2.1).toNat).map fun i => (s.1, s.2.1 + (i : Nat))
def bump (m : List (Cell × Int)) (c : Cell) : List (Cell × Int) := pt m c ((lk m c).getD 0 + 1)
def needsL (ss : List Stay) : List (Cell × Int) := (ss.flatMap cellsOf).foldl bump []
theorem pt_len {κ α : Type} [DecidableEq κ] (m : List (κ × α)) (k : κ) (v : α) : (pt m k v).length ≤ m.length + 1 := by
  unfold pt
  split
  · rw [List.length_map]; omega
  · rw [List.length_append]; simp
theorem fold_len : ∀ (cs : List Cell) (m : List (Cell × Int)), (cs.foldl bump m).length ≤ m.length + cs.length
  | [], _ => Nat.le_refl _
  | c :: cs, m => by
    have h := fold_len cs (bump m c)
    have h2 : (bump m c).length ≤ m.length + 1 := pt_len m c _
    show (cs.foldl bump (bump m c)).length ≤ m.length + (cs.length + 1)
    omega
theorem val_cell (m : List (Cell × Int)) (c : Cell) : valV (cD m) (ck c) = (lk m c).map V.int := enD_val ck_inj m c
theorem put_cell (m : List (Cell × Int)) (c : Cell) (v : Int) : putK (cD m) (ck c) (.int v) = cD (pt m c v) := enD_put ck_inj m c v
theorem cellsOf_len (s : Stay) : (cellsOf s).length = (s.2.2 - s.2.1).toNat := by unfold cellsOf; rw [List.length_map, List.length_range]
theorem flat_len : ∀ (ss : List Stay) (n : Nat), (∀ s ∈ ss, (s.2.2 - s.2.1).toNat ≤ n) → (ss.flatMap cellsOf).length ≤ n * ss.length
  | [], _, _ => by simp
  | s :: ss, n, h => by
    have h1 := flat_len ss n fun z hz => h z (List.mem_cons_of_mem _ hz)
    have h2 := h s List.mem_cons_self
    rw [List.flatMap_cons, List.length_append, cellsOf_len, List.length_cons, Nat.mul_succ]
    omega
/-- the keys differ -/
def Nd {κ α : Type} (m : List (κ × α)) : Prop := (m.map (·.1)).Nodup
/-! sums over needs -/
theorem pt_keys {κ α : Type} [DecidableEq κ] (m : List (κ × α)) (k : κ) (v : α) : (pt m k v).map (·.1) = if k ∈ m.map (·.1) then m.map (·.1) else m.map (·.1) ++ [k] := by
  have h : (m.any fun e => decide (e.1 = k)) = decide (k ∈ m.map (·.1)) := by
    induction m with
    | nil => simp
    | cons e r ih =>
      rw [List.any_cons, ih]
      by_cases q : e.1 = k
      · simp [q]
      · have q2 : ¬ k = e.1 := fun z => q z.symm
        simp [q, q2]
  unfold pt
  rw [h]
  by_cases q : k ∈ m.map (·.1)
  · rw [if_pos (decide_eq_true q), if_pos q, List.map_map]
    refine List.map_congr_left fun e _ => ?_
    show (if e.1 = k then (e.1, v) else e).1 = e.1
    split <;> rfl
  · rw [if_neg (by simpa using q), if_neg q, List.map_append]
    rfl
theorem Nd.pt {κ α : Type} [DecidableEq κ] {m : List (κ × α)} (h : Nd m) (k : κ) (v : α) : Nd (pt m k v) := by
  unfold Nd
  rw [pt_keys]
  split
  · exact h
  · rename_i q
    exact List.nodup_append.mpr ⟨h, by simp, fun a ha b hb => by rw [List.mem_singleton.mp hb]; exact fun z => q (z ▸ ha)⟩
theorem lk_none {κ α : Type} [DecidableEq κ] : ∀ {m : List (κ × α)} {k : κ}, k ∉ m.map (·.1) → lk m k = none
  | [], _, _ => rfl
  | e :: r, k, h => by
    have h1 : ¬ e.1 = k := fun z => h (by simp [z])
    have h2 : k ∉ r.map (·.1) := fun z => h (by simp [z])
    have := lk_none (m := r) h2
    simp only [lk, List.find?_cons, decide_eq_false h1]
    exact this
theorem lk_mem {κ α : Type} [DecidableEq κ] : ∀ {m : List (κ × α)} {e : κ × α}, Nd m → e ∈ m → lk m e.1 = some e.2
  | a :: r, e, h, he => by
    have h : (a.1 :: r.map (·.1)).Nodup := h
    obtain ⟨h1, h2⟩ := List.nodup_cons.mp h
    rcases List.mem_cons.mp he with q | q
    · subst q; simp [lk, List.find?_cons]
    · have hne : ¬ a.1 = e.1 := fun z => h1 (z ▸ List.mem_map.mpr ⟨e, q, rfl⟩)
      have := lk_mem (m := r) h2 q
      simp only [lk, List.find?_cons, decide_eq_false hne]
      exact this
theorem lk_some {κ α : Type} [DecidableEq κ] : ∀ {m : List (κ × α)} {k : κ} {v : α}, lk m k = some v → (k, v) ∈ m
  | e :: r, k, v, h => by
    by_cases q : e.1 = k
    · simp [lk, List.find?_cons, q] at h
      rw [← h, ← q]; exact List.mem_cons_self
    · simp only [lk, List.find?_cons, decide_eq_false q] at h
      exact List.mem_cons_of_mem _ (lk_some (m := r) h)
/-- the sum over a table of cells, each number weighed -/
def sumW (p : Cell → Int) (m : List (Cell × Int)) : Int := (m.map fun e => p e.1 * e.2).sum
theorem sumW_map {p : Cell → Int} {c : Cell} {n k : Int} : ∀ {m : List (Cell × Int)}, Nd m → lk m c = some n → sumW p (m.map fun e => if e.1 = c then (e.1, k) else e) = sumW p m + p c * (k - n)
  | e :: r, h, hl => by
    have h : (e.1 :: r.map (·.1)).Nodup := h
    obtain ⟨h1, h2⟩ := List.nodup_cons.mp h
    by_cases q : e.1 = c
    · have hn : e.2 = n := by simpa [lk, List.find?_cons, q] using hl
      have hr : r.map (fun e => if e.1 = c then (e.1, k) else e) = r := by
        refine (List.map_congr_left fun e' he' => ?_).trans (List.map_id r)
        have : ¬ e'.1 = c := fun z => h1 (by rw [q, ← z]; exact List.mem_map.mpr ⟨e', he', rfl⟩)
        rw [if_neg this]; rfl
      show sumW p ((if e.1 = c then (e.1, k) else e) :: r.map fun e => if e.1 = c then (e.1, k) else e) = _
      rw [if_pos q, hr]
      simp only [sumW, List.map_cons, List.sum_cons, q, ← hn, Int.mul_sub]
      omega
    · have hl2 : lk r c = some n := by simpa [lk, List.find?_cons, q] using hl
      have ih := sumW_map (p := p) (c := c) (n := n) (k := k) h2 hl2
      show sumW p ((if e.1 = c then (e.1, k) else e) :: r.map fun e => if e.1 = c then (e.1, k) else e) = _
      rw [if_neg q]
      simp only [sumW, List.map_cons, List.sum_cons] at ih ⊢
      rw [ih]
      omega
theorem sumW_bump (p : Cell → Int) {m : List (Cell × Int)} (h : Nd m) (c : Cell) : sumW p (bump m c) = sumW p m + p c := by
  unfold bump pt
  by_cases q : (m.any fun e => decide (e.1 = c)) = true
  · rw [if_pos q]
    cases hl : lk m c with
    | none =>
      exfalso
      obtain ⟨e, he, hc⟩ := List.any_eq_true.mp q
      have := lk_mem h he
      rw [of_decide_eq_true hc, hl] at this
      cases this
    | some n =>
      rw [sumW_map h hl]
      show _ + p c * (n + 1 - n) = _
      rw [show n + 1 - n = 1 by omega, Int.mul_one]
  · rw [if_neg q]
    have hl : lk m c = none := by
      cases hl : lk m c with
      | none => rfl
      | some n =>
        have := lk_some hl
        exact absurd (List.any_eq_true.mpr ⟨_, this, by simp⟩) q
    rw [hl]
    simp [sumW]
theorem Nd.bump {m : List (Cell × Int)} (h : Nd m) (c : Cell) : Nd (bump m c) := h.pt c _
theorem fold_nd : ∀ (cs : List Cell) {m : List (Cell × Int)}, Nd m → Nd (cs.foldl bump m)
  | [], _, h => h
  | c :: cs, _, h => fold_nd cs (h.bump c)
theorem fold_sum (p : Cell → Int) : ∀ (cs : List Cell) {m : List (Cell × Int)}, Nd m → sumW p (cs.foldl bump m) = sumW p m + (cs.map p).sum
  | [], m, _ => by simp
  | c :: cs, m, h => by
    show sumW p (cs.foldl bump (bump m c)) = _
    rw [fold_sum p cs (h.bump c), sumW_bump p h, List.map_cons, List.sum_cons]
    omega
theorem needs_nd (ss : List Stay) : Nd (needsL ss) := fold_nd _ List.nodup_nil
theorem needs_sum (p : Cell → Int) (ss : List Stay) : sumW p (needsL ss) = ((ss.flatMap cellsOf).map p).sum := by
  unfold needsL
  rw [fold_sum p (m := []) _ List.nodup_nil]
  simp [sumW]
theorem bump_keys {m : List (Cell × Int)} {c x : Cell} (h : x ∈ (bump m c).map (·.1)) : x ∈ m.map (·.1) ∨ x = c := by
  unfold bump at h
  rw [pt_keys] at h
  split at h
  · exact .inl h
  · rcases List.mem_append.mp h with q | q
    · exact .inl q
    · exact .inr (List.mem_singleton.mp q)
theorem fold_keys : ∀ (cs : List Cell) {m : List (Cell × Int)} {x : Cell}, x ∈ (cs.foldl bump m).map (·.1) → x ∈ m.map (·.1) ∨ x ∈ cs
  | [], _, _, h => .inl h
  | c :: cs, m, x, h => by
    rcases fold_keys cs h with q | q
    · rcases bump_keys q with q | q
      · exact .inl q
      · exact .inr (q ▸ List.mem_cons_self)
    · exact .inr (List.mem_cons_of_mem _ q)
theorem needs_keys {ss : List Stay} {e : Cell × Int} (h : e ∈ needsL ss) : ∃ s ∈ ss, e.1 ∈ cellsOf s := by
  rcases fold_keys _ (List.mem_map.mpr ⟨e, h, rfl⟩) with q | q
  · cases q
  · exact List.mem_flatMap.mp q
theorem cell_in {s : Stay} {c : Cell} (h : c ∈ cellsOf s) : c.1 = s.1 ∧ s.2.1 ≤ c.2 ∧ c.2 < s.2.2 := by
  unfold cellsOf at h
  obtain ⟨i, hi, rfl⟩ := List.mem_map.mp h
  have := List.mem_range.mp hi
  exact ⟨rfl, by show s.2.1 ≤ s.2.1 + (i : Int); omega, by show s.2.1 + (i : Int) < s.2.2; omega⟩

def SmallSt (ss : List Stay) : Prop := ∀ s ∈ ss, 0 ≤ s.2.1 ∧ s.2.1 ≤ 1000 ∧ 0 ≤ s.2.2 ∧ s.2.2 ≤ 1000
theorem foldn (cs : List Cell) (c : Cell) (m : List (Cell × Int)) : (cs ++ [c]).foldl bump m = bump (cs.foldl bump m) c := by rw [List.foldl_append]; rfl
theorem SmallSt.of {S : Setup} {ss : List Stay} (ok : SetupOk S) (h : ∀ s ∈ ss, StayOk S s) : SmallSt ss := fun s hs => by
  obtain ⟨_, _, h1, h2, h3⟩ := h s hs
  have := ok.n2
  exact ⟨h1, by omega, by omega, by omega⟩
theorem cell_ok {S : Setup} (ok : SetupOk S) {ss : List Stay} (h : ∀ s ∈ ss, StayOk S s) {e : Cell × Int} (he : e ∈ needsL ss) : 0 ≤ e.1.1 ∧ e.1.1 < S.rooms.length ∧ 0 ≤ e.1.2 ∧ e.1.2 < S.nights := by
  obtain ⟨s, hs, hc⟩ := needs_keys he
  obtain ⟨h1, h2, h3⟩ := cell_in hc
  obtain ⟨k0, k1, k2, k3, k4⟩ := h s hs
  rw [h1]
  exact ⟨k0, k1, by omega, by omega⟩
theorem cD_get {m : List (Cell × Int)} {i : Nat} {k : List Key} {v : V} (h : (cD m)[i]? = some (k, v)) : ∃ e, m[i]? = some e ∧ k = ck e.1 ∧ v = .int e.2 := enD_get h

/-! ### plain books: tables of parties -/
abbrev Pty := Addr × List Stay
abbrev pD (m : List (Cell × Pty)) : List (List Key × V) := enD ck (fun x : Pty => V.ref x.1) m
def nd (p : List Stay) (c : Cell) : Int := (lk (needsL p) c).getD 0
def tot (m : List (Cell × Pty)) (c : Cell) : Int := (m.map fun e => nd e.2.2 c).sum
def rmC (S : Setup) (c : Cell) : Int := S.rooms.getD c.1.toNat 0
def fitb (S : Setup) (m : List (Cell × Pty)) (p : List Stay) : Bool := (needsL p).all fun e => decide (e.2 + tot m e.1 ≤ rmC S e.1)
theorem sum_perm {l1 l2 : List Int} (h : l1.Perm l2) : l1.sum = l2.sum := by
  induction h with
  | nil => rfl
  | cons x _ ih => rw [List.sum_cons, List.sum_cons, ih]
  | swap x y l => rw [List.sum_cons, List.sum_cons, List.sum_cons, List.sum_cons]; omega
  | trans _ _ h1 h2 => exact h1.trans h2
theorem tot_perm {m1 m2 : List (Cell × Pty)} (h : m1.Perm m2) (c : Cell) : tot m1 c = tot m2 c := sum_perm (h.map _)
theorem tot_cons (e : Cell × Pty) (m : List (Cell × Pty)) (c : Cell) : tot (e :: m) c = nd e.2.2 c + tot m c := by unfold tot; rw [List.map_cons, List.sum_cons]
theorem tot_snoc (e : Cell × Pty) (m : List (Cell × Pty)) (c : Cell) : tot (m ++ [e]) c = tot m c + nd e.2.2 c := by
  unfold tot; rw [List.map_append, List.sum_append]; simp
section
variable {κ α : Type} [DecidableEq κ]
theorem Nd.perm {m1 m2 : List (κ × α)} (n : Nd m1) (h : m1.Perm m2) : Nd m2 := by
  unfold Nd at n ⊢
  exact (h.map (fun e : κ × α => e.1)).nodup_iff.mp n
theorem lk_perm {m1 m2 : List (κ × α)} (h : m1.Perm m2) (n : Nd m1) (k : κ) : lk m1 k = lk m2 k := by
  by_cases q : k ∈ m1.map (·.1)
  · obtain ⟨e, he, rfl⟩ := List.mem_map.mp q
    rw [lk_mem n he, lk_mem (n.perm h) (h.mem_iff.mp he)]
  · rw [lk_none q, lk_none fun z => q ((h.map (fun e : κ × α => e.1)).mem_iff.mpr z)]
theorem dr_perm {m1 m2 : List (κ × α)} (h : m1.Perm m2) (k : κ) : (dr m1 k).Perm (dr m2 k) := h.filter _
theorem dr_nd {m : List (κ × α)} (n : Nd m) (k : κ) : Nd (dr m k) := by
  unfold Nd dr
  exact List.Pairwise.sublist (List.Sublist.map _ List.filter_sublist) n
theorem dr_not {m : List (κ × α)} {k : κ} : k ∉ (dr m k).map (·.1) := fun q => by
  obtain ⟨e, he, z⟩ := List.mem_map.mp q
  exact (of_decide_eq_true (List.mem_filter.mp he).2) z
theorem pt_new {m : List (κ × α)} {k : κ} {v : α} (h : k ∉ m.map (·.1)) : pt m k v = m ++ [(k, v)] := by
  unfold pt
  rw [if_neg]
  intro q
  obtain ⟨e, he, z⟩ := List.any_eq_true.mp q
  exact h (List.mem_map.mpr ⟨e, he, of_decide_eq_true z⟩)
theorem pt_mid {A B : List (κ × α)} {k : κ} {w v : α} (h : Nd (A ++ (k, w) :: B)) : pt (A ++ (k, w) :: B) k v = A ++ (k, v) :: B := by
  unfold Nd at h
  rw [List.map_append, List.map_cons, List.nodup_append] at h
  obtain ⟨_, h2, h3⟩ := h
  have hB := (List.nodup_cons.mp h2).1
  have hA : k ∉ A.map (·.1) := fun z => h3 k z k List.mem_cons_self rfl
  have same : ∀ {L : List (κ × α)}, k ∉ L.map (·.1) → (L.map fun e => if e.1 = k then (e.1, v) else e) = L := fun {L} hL => by
    refine (List.map_congr_left fun e he => ?_).trans (List.map_id L)
    rw [if_neg fun z => hL (List.mem_map.mpr ⟨e, he, z⟩)]; rfl
  unfold pt
  rw [if_pos (by simp), List.map_append, List.map_cons, same hA, same hB, if_pos rfl]
theorem mem_split {m : List (κ × α)} {k : κ} {w : α} (h : lk m k = some w) : ∃ A B, m = A ++ (k, w) :: B := List.append_of_mem (lk_some h)
theorem dr_mid {A B : List (κ × α)} {k : κ} {w : α} (h : Nd (A ++ (k, w) :: B)) : dr (A ++ (k, w) :: B) k = A ++ B := by
  unfold Nd at h
  rw [List.map_append, List.map_cons, List.nodup_append] at h
  obtain ⟨_, h2, h3⟩ := h
  have hB := (List.nodup_cons.mp h2).1
  have hA : k ∉ A.map (·.1) := fun z => h3 k z k List.mem_cons_self rfl
  have same : ∀ {L : List (κ × α)}, k ∉ L.map (·.1) → (L.filter fun e => decide (e.1 ≠ k)) = L := fun {L} hL => List.filter_eq_self.mpr fun e he => decide_eq_true fun z => hL (List.mem_map.mpr ⟨e, he, z⟩)
  unfold dr
  rw [List.filter_append, List.filter_cons, same hA, same hB]
  simp
theorem pt_perm {m : List (κ × α)} {k : κ} {w : α} (n : Nd m) (h : lk m k = some w) (v : α) : (pt m k v).Perm (dr m k ++ [(k, v)]) := by
  obtain ⟨A, B, rfl⟩ := mem_split h
  rw [pt_mid n, dr_mid n]
  exact (List.perm_middle).trans (List.perm_append_comm (l₁ := [(k, v)]) (l₂ := A ++ B))
theorem dr_back {m : List (κ × α)} {k : κ} {w : α} (n : Nd m) (h : lk m k = some w) : m.Perm (dr m k ++ [(k, w)]) := by
  obtain ⟨A, B, rfl⟩ := mem_split h
  rw [dr_mid n]
  exact (List.perm_middle).trans (List.perm_append_comm (l₁ := [(k, w)]) (l₂ := A ++ B))
theorem dr_none {m : List (κ × α)} {k : κ} (h : lk m k = none) : dr m k = m := List.filter_eq_self.mpr fun e he => decide_eq_true fun z => by
  have : k ∈ m.map (·.1) := List.mem_map.mpr ⟨e, he, z⟩
  unfold lk at h
  rw [Option.map_eq_none_iff, List.find?_eq_none] at h
  exact h e he (decide_eq_true z)
end
theorem lk_not {κ α : Type} [DecidableEq κ] {m : List (κ × α)} {k : κ} (h : lk m k = none) : k ∉ m.map (·.1) := fun q => by
  obtain ⟨e, he, z⟩ := List.mem_map.mp q
  unfold lk at h
  rw [Option.map_eq_none_iff, List.find?_eq_none] at h
  exact h e he (decide_eq_true z)
theorem rmC_at {S : Setup} {k n : Int} (h0 : 0 ≤ k) (h1 : k < S.rooms.length) : atI (S.rooms.map V.int) k = some (.int (rmC S (k, n))) := by
  have hk : k.toNat < S.rooms.length := by omega
  have e : (S.rooms.map V.int)[k.toNat]? = some (.int (rmC S (k, n))) := by
    unfold rmC
    rw [List.getElem?_map, List.getElem?_eq_getElem hk, List.getD_eq_getElem?_getD, List.getElem?_eq_getElem hk]; rfl
  have := atI_nat e
  rw [show ((k.toNat : Nat) : Int) = k by omega] at this
  exact this
/-! the law's table of all needs -/
def addT (T q : List (Cell × Int)) : List (Cell × Int) := q.foldl (fun T e => pt T e.1 ((lk T e.1).getD 0 + e.2)) T
theorem lk_cons {κ α : Type} [DecidableEq κ] (e : κ × α) (r : List (κ × α)) (c : κ) : lk (e :: r) c = if e.1 = c then some e.2 else lk r c := by
  unfold lk
  by_cases h : e.1 = c
  · simp [List.find?_cons, h]
  · simp [List.find?_cons, h]
theorem lk_addT (c : Cell) : ∀ (q T : List (Cell × Int)), Nd q → (lk (addT T q) c).getD 0 = (lk T c).getD 0 + (lk q c).getD 0
  | [], T, _ => by show (lk T c).getD 0 = (lk T c).getD 0 + 0; omega
  | e :: r, T, n => by
    have n1 := List.nodup_cons.mp (show (e.1 :: r.map (·.1)).Nodup from n)
    have ih := lk_addT c r (pt T e.1 ((lk T e.1).getD 0 + e.2)) n1.2
    show (lk (addT (pt T e.1 ((lk T e.1).getD 0 + e.2)) r) c).getD 0 = _
    rw [ih, lk_pt, lk_cons]
    by_cases h : c = e.1
    · have h2 : lk r e.1 = none := lk_none n1.1
      subst h
      rw [if_pos rfl, if_pos rfl, h2]
      show (lk T e.1).getD 0 + e.2 + 0 = (lk T e.1).getD 0 + e.2
      omega
    · rw [if_neg h, if_neg fun z => h z.symm]
theorem addT_nd : ∀ (q : List (Cell × Int)) {T : List (Cell × Int)}, Nd T → Nd (addT T q)
  | [], _, h => h
  | e :: r, _, h => addT_nd r (h.pt e.1 _)
theorem addT_keys {c : Cell} : ∀ (q : List (Cell × Int)) {T : List (Cell × Int)}, (c ∈ (addT T q).map (·.1) ↔ c ∈ T.map (·.1) ∨ c ∈ q.map (·.1))
  | [], T => by show c ∈ T.map (·.1) ↔ _; simp
  | e :: r, T => by
    show c ∈ (addT (pt T e.1 ((lk T e.1).getD 0 + e.2)) r).map (·.1) ↔ _
    rw [addT_keys r, pt_keys, List.map_cons, List.mem_cons]
    split
    · rename_i h
      constructor
      · rintro (a | a)
        · exact .inl a
        · exact .inr (.inr a)
      · rintro (a | a | a)
        · exact .inl a
        · exact .inl (a ▸ h)
        · exact .inr a
    · rw [List.mem_append, List.mem_singleton]
      constructor
      · rintro ((a | a) | a)
        · exact .inl a
        · exact .inr (.inl a)
        · exact .inr (.inr a)
      · rintro (a | a | a)
        · exact .inl (.inl a)
        · exact .inl (.inr a)
        · exact .inr a
def allT (m : List (Cell × Pty)) (p : List Stay) : List (Cell × Int) := m.foldl (fun T e => addT T (needsL e.2.2)) (needsL p)
theorem allT_snoc (m : List (Cell × Pty)) (e : Cell × Pty) (p : List Stay) : allT (m ++ [e]) p = addT (allT m p) (needsL e.2.2) := by unfold allT; rw [List.foldl_append]; rfl
theorem allT_of (p : List Stay) : ∀ (m : List (Cell × Pty)) (T : List (Cell × Int)), Nd T → Nd (m.foldl (fun T e => addT T (needsL e.2.2)) T) ∧ (∀ c, (lk (m.foldl (fun T e => addT T (needsL e.2.2)) T) c).getD 0 = (lk T c).getD 0 + tot m c) ∧ ∀ c, c ∈ T.map (·.1) → c ∈ (m.foldl (fun T e => addT T (needsL e.2.2)) T).map (·.1)
  | [], T, n => ⟨n, fun c => by show (lk T c).getD 0 = (lk T c).getD 0 + 0; omega, fun _ h => h⟩
  | e :: m, T, n => by
    obtain ⟨h1, h2, h3⟩ := allT_of p m (addT T (needsL e.2.2)) (addT_nd _ n)
    refine ⟨h1, fun c => ?_, fun c hc => h3 c ((addT_keys _).mpr (.inl hc))⟩
    show (lk (m.foldl (fun T e => addT T (needsL e.2.2)) (addT T (needsL e.2.2))) c).getD 0 = _
    rw [h2 c, lk_addT c _ _ (needs_nd _), tot_cons]
    unfold nd
    omega
/-- the law's test is the book's -/
theorem fit_same {S : Setup} {m : List (Cell × Pty)} {p : List Stay} (hI : ∀ c, tot m c ≤ rmC S c) : ((allT m p).all fun e => decide (e.2 ≤ rmC S e.1)) = fitb S m p := by
  obtain ⟨h1, h2, h3⟩ := allT_of p m (needsL p) (needs_nd p)
  rw [Bool.eq_iff_iff]
  unfold fitb
  rw [List.all_eq_true, List.all_eq_true]
  have val : ∀ e ∈ allT m p, e.2 = nd p e.1 + tot m e.1 := fun e he => by
    have := h2 e.1
    rw [show lk (m.foldl (fun T e => addT T (needsL e.2.2)) (needsL p)) e.1 = some e.2 from lk_mem h1 he] at this
    exact this
  constructor
  · intro h e he
    obtain ⟨e', he', hk⟩ := List.mem_map.mp (h3 e.1 (List.mem_map.mpr ⟨e, he, rfl⟩))
    have a := of_decide_eq_true (h e' he')
    rw [val e' he', hk] at a
    have b : nd p e.1 = e.2 := by unfold nd; rw [lk_mem (needs_nd p) he]; rfl
    rw [b] at a
    exact decide_eq_true a
  · intro h e he
    rw [val e he]
    refine decide_eq_true ?_
    by_cases q : e.1 ∈ (needsL p).map (·.1)
    · obtain ⟨e', he', hk⟩ := List.mem_map.mp q
      have a := of_decide_eq_true (h e' he')
      have b : nd p e'.1 = e'.2 := by unfold nd; rw [lk_mem (needs_nd p) he']; rfl
      rw [← b, hk] at a
      exact a
    · have b : nd p e.1 = 0 := by unfold nd; rw [lk_none q]; rfl
      rw [b, Int.zero_add]; exact hI e.1
/-- what fits keeps the bound -/
theorem fit_keeps {S : Setup} {m : List (Cell × Pty)} {p : List Stay} {k : Cell} {a : Addr} (hI : ∀ c, tot m c ≤ rmC S c) (hf : fitb S m p = true) : ∀ c, tot (m ++ [(k, (a, p))]) c ≤ rmC S c := fun c => by
  rw [tot_snoc]
  show tot m c + nd p c ≤ _
  unfold fitb at hf
  rw [List.all_eq_true] at hf
  by_cases q : c ∈ (needsL p).map (·.1)
  · obtain ⟨e, he, hk⟩ := List.mem_map.mp q
    have a := of_decide_eq_true (hf e he)
    have b : nd p e.1 = e.2 := by unfold nd; rw [lk_mem (needs_nd p) he]; rfl
    rw [← hk, b]; omega
  · have b : nd p c = 0 := by unfold nd; rw [lk_none q]; rfl
    have := hI c
    omega
theorem nd_pos (p : List Stay) (c : Cell) : 0 ≤ nd p c := by
  unfold nd
  have key : ∀ (cs : List Cell) (m : List (Cell × Int)), (∀ c, 0 ≤ (lk m c).getD 0) → ∀ c, 0 ≤ (lk (cs.foldl bump m) c).getD 0 := by
    intro cs
    induction cs with
    | nil => intro m h c; exact h c
    | cons a r ih =>
      intro m h c
      refine ih (bump m a) (fun c => ?_) c
      unfold bump
      rw [lk_pt]
      split
      · have := h a; show 0 ≤ (lk m a).getD 0 + 1; omega
      · exact h c
  exact key _ [] (fun c => Int.le_refl _) c
theorem tot_dr {m : List (Cell × Pty)} (n : Nd m) (k : Cell) (c : Cell) : tot (dr m k) c ≤ tot m c := by
  cases h : lk m k with
  | none => rw [dr_none h]; exact Int.le_refl _
  | some w =>
    rw [tot_perm (dr_back n h) c, tot_snoc]
    have := nd_pos w.2 c
    show tot (dr m k) c ≤ tot (dr m k) c + nd w.2 c
    omega
theorem fitb_perm {S : Setup} {m1 m2 : List (Cell × Pty)} (h : m1.Perm m2) (p : List Stay) : fitb S m1 p = fitb S m2 p := by
  unfold fitb
  congr 1
  funext e
  rw [tot_perm h e.1]

def prc (S : Setup) (c : Cell) : Int := ((S.prices.getD c.1.toNat []).getD c.2.toNat 0)
def priceS (S : Setup) (ss : List Stay) : Int := ((ss.flatMap cellsOf).map (prc S)).sum
def keptS (S : Setup) (ss : List Stay) : Int := ((ss.flatMap cellsOf).map fun c => prc S c * S.share / 100).sum

/-! ### cells, tables of numbers -/
def CellOk (S : Setup) (c : Cell) : Prop := 0 ≤ c.1 ∧ c.1 < S.rooms.length ∧ 0 ≤ c.2 ∧ c.2 < S.nights
def rowC (N : Nat) (k : Nat) : List Cell := (List.range N).map fun t : Nat => ((k : Int), (t : Int))
def cellsK (N k : Nat) : List Cell := (List.range k).flatMap (rowC N)
def cellsAll (S : Setup) : List Cell := cellsK S.nights.toNat S.rooms.length
theorem mem_row {N k : Nat} {c : Cell} : c ∈ rowC N k ↔ c.1 = k ∧ 0 ≤ c.2 ∧ c.2 < N := by
  unfold rowC
  rw [List.mem_map]
  constructor
  · rintro ⟨t, ht, rfl⟩
    have := List.mem_range.mp ht
    exact ⟨rfl, by show (0 : Int) ≤ (t : Int); omega, by show (t : Int) < (N : Int); omega⟩
  · rintro ⟨h1, h2, h3⟩
    exact ⟨c.2.toNat, List.mem_range.mpr (by omega), Prod.ext h1.symm (by show ((c.2.toNat : Nat) : Int) = c.2; omega)⟩
theorem mem_cellsK {N k : Nat} {c : Cell} : c ∈ cellsK N k ↔ 0 ≤ c.1 ∧ c.1 < k ∧ 0 ≤ c.2 ∧ c.2 < N := by
  unfold cellsK
  rw [List.mem_flatMap]
  constructor
  · rintro ⟨i, hi, h⟩
    have h1 := List.mem_range.mp hi
    obtain ⟨a, b, c'⟩ := mem_row.mp h
    exact ⟨by omega, by omega, b, c'⟩
  · rintro ⟨h1, h2, h3, h4⟩
    exact ⟨c.1.toNat, List.mem_range.mpr (by omega), mem_row.mpr ⟨by omega, h3, h4⟩⟩
theorem cellsK_succ (N k : Nat) : cellsK N (k + 1) = cellsK N k ++ rowC N k := by
  unfold cellsK
  rw [List.range_succ, List.flatMap_append]; simp
theorem rowC_succ (N k : Nat) : rowC (N + 1) k = rowC N k ++ [((k : Int), (N : Int))] := by
  unfold rowC
  rw [List.range_succ, List.map_append]; rfl
theorem row_nd (k : Nat) : ∀ N : Nat, (rowC N k).Nodup
  | 0 => List.nodup_nil
  | N + 1 => by
    rw [rowC_succ]
    refine List.nodup_append.mpr ⟨row_nd k N, by simp, fun a ha b hb e => ?_⟩
    rw [List.mem_singleton.mp hb] at e
    subst e
    have := (mem_row.mp ha).2.2
    exact absurd this (by show ¬ (N : Int) < (N : Int); omega)
theorem cellsK_nd (N : Nat) : ∀ k : Nat, (cellsK N k).Nodup
  | 0 => List.nodup_nil
  | k + 1 => by
    rw [cellsK_succ]
    refine List.nodup_append.mpr ⟨cellsK_nd N k, row_nd k N, fun a ha b hb e => ?_⟩
    subst e
    have h1 := (mem_cellsK.mp ha).2.1
    have h2 := (mem_row.mp hb).1
    omega
theorem mem_cells {S : Setup} {c : Cell} (hn : 1 ≤ S.nights) : c ∈ cellsAll S ↔ CellOk S c := by
  unfold cellsAll CellOk
  rw [mem_cellsK]
  constructor
  · rintro ⟨a, b, c', d⟩; exact ⟨a, b, c', by omega⟩
  · rintro ⟨a, b, c', d⟩; exact ⟨a, b, c', by omega⟩
theorem cells_len (S : Setup) : (cellsAll S).length = S.rooms.length * S.nights.toNat := by
  have key : ∀ (N k : Nat), (cellsK N k).length = k * N := by
    intro N k
    induction k with
    | zero => simp [cellsK]
    | succ k ih => rw [cellsK_succ, List.length_append, ih]; unfold rowC; rw [List.length_map, List.length_range, Nat.succ_mul]
  exact key _ _
def fset (f : Cell → Int) (c : Cell) (v : Int) : Cell → Int := fun x => if x = c then v else f x
theorem fset_same {f : Cell → Int} {c : Cell} {v : Int} : fset f c v c = v := by unfold fset; rw [if_pos rfl]
theorem fset_ne {f : Cell → Int} {c x : Cell} {v : Int} (h : x ≠ c) : fset f c v x = f x := by unfold fset; rw [if_neg h]
def tabF (cs : List Cell) (f : Cell → Int) : List (Cell × Int) := cs.map fun c => (c, f c)
abbrev stT (S : Setup) (f : Cell → Int) : List (Cell × Int) := tabF (cellsAll S) f
theorem tab_keys (cs : List Cell) (f : Cell → Int) : (tabF cs f).map (·.1) = cs := by
  unfold tabF; rw [List.map_map]; exact (List.map_congr_left fun _ _ => rfl).trans (List.map_id cs)
theorem tab_nd {cs : List Cell} (h : cs.Nodup) (f : Cell → Int) : Nd (tabF cs f) := by unfold Nd; rw [tab_keys]; exact h
theorem lk_tab {cs : List Cell} (n : cs.Nodup) {f : Cell → Int} {c : Cell} (h : c ∈ cs) : lk (tabF cs f) c = some (f c) := lk_mem (e := (c, f c)) (tab_nd n f) (List.mem_map.mpr ⟨c, h, rfl⟩)
theorem pt_tab {cs : List Cell} {f : Cell → Int} {c : Cell} {v : Int} (h : c ∈ cs) : pt (tabF cs f) c v = tabF cs (fset f c v) := by
  unfold pt
  have a : ((tabF cs f).any fun e => decide (e.1 = c)) = true := List.any_eq_true.mpr ⟨(c, f c), List.mem_map.mpr ⟨c, h, rfl⟩, by simp⟩
  rw [if_pos a]
  unfold tabF
  rw [List.map_map]
  refine List.map_congr_left fun x _ => ?_
  show (if x = c then (x, v) else (x, f x)) = (x, fset f c v x)
  unfold fset
  by_cases q : x = c
  · rw [if_pos q, if_pos q]
  · rw [if_neg q, if_neg q]
theorem cells_nd (S : Setup) : (cellsAll S).Nodup := cellsK_nd _ _
theorem st_get {S : Setup} (so : SetupOk S) {f : Cell → Int} {c : Cell} (h : CellOk S c) : valV (cD (stT S f)) (ck c) = some (.int (f c)) := by
  rw [val_cell, lk_tab (cells_nd S) ((mem_cells so.n1).mpr h)]; rfl
theorem st_put {S : Setup} (so : SetupOk S) {f : Cell → Int} {c : Cell} {v : Int} (h : CellOk S c) : putK (cD (stT S f)) (ck c) (.int v) = cD (stT S (fset f c v)) := by
  rw [put_cell, pt_tab ((mem_cells so.n1).mpr h)]
theorem st_len {S : Setup} (so : SetupOk S) (f : Cell → Int) : (cD (stT S f)).length ≤ 36 := by
  rw [enD_len]
  unfold stT tabF
  rw [List.length_map, cells_len]
  have h1 := so.k3
  have h2 := so.n2
  have h3 : S.nights.toNat ≤ 12 := by omega
  exact Nat.le_trans (Nat.mul_le_mul h1 h3) (by decide)
theorem st_lt {S : Setup} (so : SetupOk S) (f : Cell → Int) : (cD (stT S f)).length < sizeLine := szM (Nat.le_trans (st_len so f) (by decide))
/-! ### rows, bodies -/
abbrev Lack := List (Cell × Int)
abbrev Ask := Int × Int × Lack
inductive Row
  | sold (n : Int) (p : List Stay) (a b : Int)
  | cancelled (n a b : Int)
  | changed (n : Int) (p : List Stay) (a b c d : Int)
inductive UpB
  | ask (n : Int) (l : Lack)
  | closed (cs : List Int)
  | back (c : Cell)
  | entry (r : Row)
inductive DnB
  | give (c : Cell)
  | close (cs : List Cell)
  | opn (cs : List Int) (an : Option (Int × Bool))
  | want (c : Cell)
def cellD (c : Cell) : PyData := .tuple [.int c.1, .int c.2]
def lackD (l : Lack) : PyData := .tuple (l.map fun e => .tuple [cellD e.1, .int e.2])
def cellsD (l : List Cell) : PyData := .tuple (l.map cellD)
def askD (a : Ask) : PyData := .tuple [.int a.1, .int a.2.1, lackD a.2.2]
def roundD : Option Ask → PyData
  | none => .none
  | some a => askD a
def ansD : Option (Int × Bool) → PyData
  | none => .none
  | some a => .tuple [.int a.1, .bool a.2]
def rowB : Row → PyData
  | .sold n p a b => .tuple [.str "sold", .int n, partyD p, .int a, .int b]
  | .cancelled n a b => .tuple [.str "cancelled", .int n, .int a, .int b]
  | .changed n p a b c d => .tuple [.str "changed", .int n, partyD p, .int a, .int b, .int c, .int d]
def upD : UpB → PyData
  | .ask n l => .tuple [.str "ask", .int n, lackD l]
  | .closed cs => .tuple [.str "closed", rowD cs]
  | .back c => .tuple [.str "back", .int c.1, .int c.2]
  | .entry r => .tuple [.str "entry", rowB r]
def dnD : DnB → PyData
  | .give c => .tuple [.str "give", .int c.1, .int c.2]
  | .close cs => .tuple [.str "close", cellsD cs]
  | .opn cs an => .tuple [.str "open", rowD cs, ansD an]
  | .want c => .tuple [.str "want", .int c.1, .int c.2]
def outD (e : Int × DnB) : PyData := .tuple [.int e.1, dnD e.2]
theorem imm_cell (c : Cell) : imm (cellD c) = true := rfl
theorem imm_lack (l : Lack) : imm (lackD l) = true := immL_map (fun _ => rfl) l
theorem imm_cells (l : List Cell) : imm (cellsD l) = true := immL_map imm_cell l
theorem imm_ask (a : Ask) : imm (askD a) = true := by
  show (true && (true && (imm (lackD a.2.2) && true))) = true
  rw [imm_lack]; rfl
theorem imm_round (r : Option Ask) : imm (roundD r) = true := by
  cases r with
  | none => rfl
  | some a => exact imm_ask a
theorem imm_ans (a : Option (Int × Bool)) : imm (ansD a) = true := by cases a <;> rfl
theorem imm_rowB (r : Row) : imm (rowB r) = true := by
  cases r with
  | sold n p a b =>
    show (true && (true && (imm (partyD p) && true))) = true
    rw [imm_party]; rfl
  | cancelled n a b => rfl
  | changed n p a b c d =>
    show (true && (true && (imm (partyD p) && true))) = true
    rw [imm_party]; rfl
theorem imm_up (b : UpB) : imm (upD b) = true := by
  cases b with
  | ask n l =>
    show (true && (true && (imm (lackD l) && true))) = true
    rw [imm_lack]; rfl
  | closed cs =>
    show (true && (imm (rowD cs) && true)) = true
    rw [imm_row]; rfl
  | back c => rfl
  | entry r =>
    show (true && (imm (rowB r) && true)) = true
    rw [imm_rowB]; rfl
theorem imm_dn (b : DnB) : imm (dnD b) = true := by
  cases b with
  | give c => rfl
  | close cs =>
    show (true && (imm (cellsD cs) && true)) = true
    rw [imm_cells]; rfl
  | opn cs an =>
    show (true && (imm (rowD cs) && (imm (ansD an) && true))) = true
    rw [imm_row, imm_ans]; rfl
  | want c => rfl
theorem imm_out (e : Int × DnB) : imm (outD e) = true := by
  show (true && (imm (dnD e.2) && true)) = true
  rw [imm_dn]; rfl
/-! the tuples in the heap -/
theorem cell_at {H : Hp} {v : V} {c : Cell} (h : Da H v (cellD c)) : ∃ a, v = .ref a ∧ H a = some (.tup [.int c.1, .int c.2]) := by
  obtain ⟨a, xs, rfl, e, _, q⟩ := h.tup1
  obtain ⟨x, y, rfl, dx, dy⟩ := q.two
  cases dx.int1
  cases dy.int1
  exact ⟨a, rfl, e⟩
theorem lack_get {H : Hp} {xs : List V} {l : Lack} {i : Nat} {x : V} (h : DaL H xs (l.map fun e => .tuple [cellD e.1, .int e.2])) (hx : xs[i]? = some x) : ∃ e b c, l[i]? = some e ∧ x = .ref b ∧ H b = some (.tup [.ref c, .int e.2]) ∧ H c = some (.tup [.int e.1.1, .int e.1.2]) := by
  obtain ⟨d, hd, dd⟩ := h.get hx
  rw [List.getElem?_map] at hd
  cases q : l[i]? with
  | none => rw [q] at hd; cases hd
  | some e =>
    rw [q] at hd
    cases hd
    obtain ⟨b, ys, rfl, eb, _, r⟩ := dd.tup1
    obtain ⟨u, v, rfl, du, dv⟩ := r.two
    obtain ⟨c, rfl, ec⟩ := cell_at du
    cases dv.int1
    exact ⟨e, b, c, rfl, rfl, eb, ec⟩
theorem cells_get {H : Hp} {xs : List V} {l : List Cell} {i : Nat} {x : V} (h : DaL H xs (l.map cellD)) (hx : xs[i]? = some x) : ∃ c a, l[i]? = some c ∧ x = .ref a ∧ H a = some (.tup [.int c.1, .int c.2]) := by
  obtain ⟨d, hd, dd⟩ := h.get hx
  rw [List.getElem?_map] at hd
  cases q : l[i]? with
  | none => rw [q] at hd; cases hd
  | some c =>
    rw [q] at hd
    cases hd
    obtain ⟨a, rfl, ea⟩ := cell_at dd
    exact ⟨c, a, rfl, rfl, ea⟩
theorem ask_at {H : Hp} {v : V} {a : Ask} (h : Da H v (askD a)) : ∃ p l xs, v = .ref p ∧ H p = some (.tup [.int a.1, .int a.2.1, .ref l]) ∧ H l = some (.tup xs) ∧ DaL H xs (a.2.2.map fun e => .tuple [cellD e.1, .int e.2]) := by
  obtain ⟨p, ys, rfl, e, _, q⟩ := h.tup1
  obtain ⟨x, y, z, rfl, dx, dy, dz⟩ := q.three
  cases dx.int1
  cases dy.int1
  obtain ⟨l, xs, rfl, el, _, r⟩ := Da.tup1 dz
  exact ⟨p, l, xs, rfl, e, el, r⟩
theorem ints_at {H : Hp} {v : V} {r : List Int} (h : Da H v (rowD r)) : ∃ p, v = .ref p ∧ H p = some (.tup (r.map V.int)) := by
  obtain ⟨p, xs, rfl, e, _, q⟩ := h.tup1
  rw [DaL.ints q] at e
  exact ⟨p, rfl, e⟩

/-! ### the house as plain data -/
structure HM where
  st : Cell → Int
  bk : List (List Row)
  qu : List Ask
  rd : Option Ask
  ct : List (Int × List Int)
  out : List (Int × DnB)
abbrev lackC (a : Ask) : List Cell := a.2.2.map (·.1)
def LackOk (S : Setup) (l : Lack) : Prop := (∀ e ∈ l, CellOk S e.1) ∧ l.length ≤ 36
def closeL (n : Nat) (a : Ask) : List (Int × DnB) := (List.range n).map fun s : Nat => ((s : Int), DnB.close (lackC a))
def HM.look (n : Nat) (M : HM) : HM :=
  match M.rd, M.qu with
  | none, a :: q => { M with rd := some a, qu := q, ct := [], out := M.out ++ closeL n a }
  | _, _ => M
/-- more in each cell -/
def addZ (f : Cell → Int) (l : List (Cell × Int)) : Cell → Int := l.foldl (fun f e => fset f e.1 (f e.1 + e.2)) f
def subZ (f : Cell → Int) (l : List (Cell × Int)) : Cell → Int := l.foldl (fun f e => fset f e.1 (f e.1 - e.2)) f
/-- what one seller gets back -/
def minI (a b : Int) : Int := if b < a then b else a
def backZ : (Cell → Int) → List (Cell × Int) → List Int × (Cell → Int)
  | f, [] => ([], f)
  | f, e :: r => let z := backZ (fset f e.1 (f e.1 - minI e.2 (f e.1))) r; (minI e.2 (f e.1) :: z.1, z.2)
def opensZ (a : Ask) (g : Bool) (ct : List (Int × List Int)) (f : Cell → Int) : Nat → (Cell → Int) × List (Int × DnB)
  | 0 => (f, [])
  | s + 1 => let z := opensZ a g ct f s; let b := backZ z.1 ((lackC a).zip ((lk ct (s : Int)).getD [])); (b.2, z.2 ++ [((s : Int), DnB.opn b.1 (if (s : Int) = a.1 then some (a.2.1, g) else none))])
def grantZ (f : Cell → Int) (l : Lack) : Bool := l.all fun e => decide (e.2 ≤ f e.1)
def HM.decide (n : Nat) (M : HM) : HM :=
  match M.rd with
  | none => M
  | some a =>
    let g := grantZ M.st a.2.2
    let z := opensZ a g M.ct (if g = true then subZ M.st a.2.2 else M.st) n
    HM.look n { M with st := z.1, out := M.out ++ z.2, rd := none }
def HM.closed (n : Nat) (s : Int) (cs : List Int) (M : HM) : HM :=
  match M.rd with
  | none => M
  | some a =>
    let M1 : HM := { M with st := addZ M.st ((lackC a).zip cs), ct := pt M.ct s cs }
    if M1.ct.length = n then M1.decide n else M1
def HM.handle (n : Nat) (s : Int) (b : UpB) (M : HM) : HM :=
  match b with
  | .ask k l => HM.look n { M with qu := M.qu ++ [(s, k, l)] }
  | .closed cs => M.closed n s cs
  | .back c => { M with st := fset M.st c (M.st c + 1) }
  | .entry r => { M with bk := M.bk.set s.toNat (M.bk.getD s.toNat [] ++ [r]) }
/-- a house in order -/
structure HM.Ok (S : Setup) (M : HM) : Prop where
  qk : ∀ a ∈ M.qu, LackOk S a.2.2
  rk : ∀ a, M.rd = some a → LackOk S a.2.2
  cl : ∀ a, M.rd = some a → ∀ e ∈ M.ct, e.2.length = a.2.2.length
  ck : ∀ e ∈ M.ct, 0 ≤ e.1 ∧ e.1 < S.sellers
  cn : Nd M.ct
  bl : M.bk.length = S.sellers.toNat
theorem look_ok {S : Setup} {n : Nat} {M : HM} (h : M.Ok S) : (HM.look n M).Ok S := by
  unfold HM.look
  split
  · rename_i a q h1 h2
    refine ⟨fun x hx => h.qk x (by rw [h2]; exact List.mem_cons_of_mem _ hx), fun x hx => ?_, fun _ _ e he => (nomatch he), fun e he => (nomatch he), List.nodup_nil, h.bl⟩
    rw [← Option.some.inj hx]
    exact h.qk a (by rw [h2]; exact List.mem_cons_self)
  · exact h
theorem decide_ok {S : Setup} {n : Nat} {M : HM} (h : M.Ok S) : (HM.decide n M).Ok S := by
  unfold HM.decide
  split
  · exact h
  · exact look_ok ⟨h.qk, fun x hx => (by cases hx), fun x hx => (by cases hx), h.ck, h.cn, h.bl⟩
theorem pt_mem {κ α : Type} [DecidableEq κ] {m : List (κ × α)} {k : κ} {v : α} {e : κ × α} (h : e ∈ pt m k v) : e ∈ m ∨ e = (k, v) := by
  unfold pt at h
  split at h
  · obtain ⟨x, hx, rfl⟩ := List.mem_map.mp h
    by_cases q : x.1 = k
    · rw [if_pos q]; exact .inr (by rw [q])
    · rw [if_neg q]; exact .inl hx
  · rcases List.mem_append.mp h with q | q
    · exact .inl q
    · exact .inr (List.mem_singleton.mp q)
theorem closed_ok {S : Setup} {n : Nat} {M : HM} {s : Int} {cs : List Int} (h : M.Ok S) (hs : 0 ≤ s ∧ s < S.sellers) (hc : ∀ a, M.rd = some a → cs.length = a.2.2.length) : (HM.closed n s cs M).Ok S := by
  unfold HM.closed
  split
  · exact h
  · rename_i a ha
    have h1 : HM.Ok S { M with st := addZ M.st ((lackC a).zip cs), ct := pt M.ct s cs } := by
      refine ⟨h.qk, h.rk, fun x hx e he => ?_, fun e he => ?_, h.cn.pt _ _, h.bl⟩
      · rcases pt_mem he with q | q
        · exact h.cl x hx e q
        · rw [q]; exact hc x hx
      · rcases pt_mem he with q | q
        · exact h.ck e q
        · rw [q]; exact hs
    show HM.Ok S (if _ then _ else _)
    split
    · exact decide_ok h1
    · exact h1
def UpOk (S : Setup) (M : HM) : UpB → Prop
  | .ask _ l => LackOk S l
  | .closed cs => ∃ a, M.rd = some a ∧ cs.length = a.2.2.length
  | .back c => CellOk S c
  | .entry _ => True
theorem handle_ok {S : Setup} {n : Nat} {M : HM} {s : Int} {b : UpB} (h : M.Ok S) (hs : 0 ≤ s ∧ s < S.sellers) (hb : UpOk S M b) : (HM.handle n s b M).Ok S := by
  cases b with
  | ask k l =>
    refine look_ok ⟨fun x hx => ?_, h.rk, h.cl, h.ck, h.cn, h.bl⟩
    rcases List.mem_append.mp hx with q | q
    · exact h.qk x q
    · rw [List.mem_singleton.mp q]; exact hb
  | closed cs =>
    obtain ⟨a, h1, h2⟩ := hb
    exact closed_ok h hs fun x hx => by rw [h1] at hx; cases hx; exact h2
  | back c => exact ⟨h.qk, h.rk, h.cl, h.ck, h.cn, h.bl⟩
  | entry r => exact ⟨h.qk, h.rk, h.cl, h.ck, h.cn, by show (M.bk.set _ _).length = _; rw [List.length_set]; exact h.bl⟩
/-! all sellers have sent their counts -/
theorem full_mem {n : Nat} : ∀ (m : List (Int × List Int)), Nd m → (∀ e ∈ m, 0 ≤ e.1 ∧ e.1 < n) → m.length = n → ∀ s : Nat, s < n → ∃ cs, lk m (s : Int) = some cs := by
  intro m hn hk hl s hs
  cases h : lk m (s : Int) with
  | some cs => exact ⟨cs, rfl⟩
  | none =>
    exfalso
    have nk := lk_not h
    -- the keys, and s, are n + 1 different numbers below n
    have key : ∀ (n : Nat) (l : List Int), l.Nodup → (∀ x ∈ l, 0 ≤ x ∧ x < n) → l.length ≤ n := by
      intro n
      induction n with
      | zero =>
        intro l _ hl
        cases l with
        | nil => exact Nat.le_refl _
        | cons a r => have := hl a List.mem_cons_self; omega
      | succ n ih =>
        intro l nd hl
        have h1 := ih (l.filter fun x => decide (x ≠ (n : Int))) (List.Pairwise.sublist List.filter_sublist nd) fun x hx => by
          obtain ⟨hx, hq⟩ := List.mem_filter.mp hx
          have := hl x hx
          have hq := of_decide_eq_true hq
          omega
        have h2 : l.length ≤ (l.filter fun x => decide (x ≠ (n : Int))).length + 1 := by
          clear h1 hl ih
          induction l with
          | nil => exact Nat.zero_le _
          | cons a r ih =>
            have nd' := List.nodup_cons.mp nd
            by_cases q : a = (n : Int)
            · have e : (r.filter fun x => decide (x ≠ (n : Int))) = r := List.filter_eq_self.mpr fun x hx => decide_eq_true fun z => nd'.1 (by rw [q, ← z]; exact hx)
              rw [List.filter_cons_of_neg (by simp [q]), e]; exact Nat.le_refl _
            · rw [List.filter_cons_of_pos (by simp [q])]
              have := ih nd'.2
              simp only [List.length_cons]; omega
        omega
    have nl : (m.map fun e : Int × List Int => e.1).Nodup := hn
    have := key n ((s : Int) :: m.map fun e : Int × List Int => e.1) (List.nodup_cons.mpr ⟨nk, nl⟩) fun x hx => by
      rcases List.mem_cons.mp hx with q | q
      · rw [q]; omega
      · obtain ⟨e, he, rfl⟩ := List.mem_map.mp q; exact hk e he
    rw [List.length_cons, List.length_map] at this
    omega
theorem closed_some {M : HM} {a : Ask} {n : Nat} {s : Int} {cs : List Int} (hr : M.rd = some a) : HM.closed n s cs M = if (pt M.ct s cs).length = n then HM.decide n { M with st := addZ M.st ((lackC a).zip cs), ct := pt M.ct s cs } else { M with st := addZ M.st ((lackC a).zip cs), ct := pt M.ct s cs } := by
  unfold HM.closed; rw [hr]
theorem decide_some {M : HM} {a : Ask} {n : Nat} (hr : M.rd = some a) : HM.decide n M = HM.look n { M with st := (opensZ a (grantZ M.st a.2.2) M.ct (if grantZ M.st a.2.2 = true then subZ M.st a.2.2 else M.st) n).1, out := M.out ++ (opensZ a (grantZ M.st a.2.2) M.ct (if grantZ M.st a.2.2 = true then subZ M.st a.2.2 else M.st) n).2, rd := none } := by
  unfold HM.decide; rw [hr]
theorem cutG {G R : Prop} (h : G → R) (g : G) : R := h g
theorem cutH {T : Hp → Prop} {R : Prop} {H : Hp} (h : (∀ H', Fr [] H H' → T H') → R) (g : ∀ H', Fr [] H H' → T H') : R := h g

/-! ### deeds, a seller as plain data -/
inductive Deed
  | wish (p : List Stay)
  | cancel (k : Int)
  | change (k : Int) (p : List Stay)
def deedD : Deed → PyData
  | .wish p => .tuple [.str "wish", partyD p]
  | .cancel k => .tuple [.str "cancel", .int k]
  | .change k p => .tuple [.str "change", .int k, partyD p]
def Deed.party : Deed → List Stay
  | .wish p => p
  | .cancel _ => []
  | .change _ p => p
structure SM where
  fr : Cell → Int
  vo : List (Int × List Stay)
  bk : List Row
  cl : Option (List Cell)
  ask : List (Int × Deed)
  wt : List (Int × Deed)
  n : Int
  out : List UpB
  told : List (Int × Bool)
def voD (m : List (Int × List Stay)) : List (Int × PyData) := m.map fun e => (e.1, partyD e.2)
def askT (m : List (Int × Deed)) : List (Int × PyData) := m.map fun e => (e.1, deedD e.2)
def wtD (e : Int × Deed) : PyData := .tuple [.int e.1, deedD e.2]
def tellD (e : Int × Bool) : PyData := .tuple [.int e.1, .bool e.2]
def closD : Option (List Cell) → PyData
  | none => .none
  | some cs => cellsD cs
theorem imm_deed (d : Deed) : imm (deedD d) = true := by
  cases d with
  | wish p =>
    show (true && (imm (partyD p) && true)) = true
    rw [imm_party]; rfl
  | cancel k => rfl
  | change k p =>
    show (true && (true && (imm (partyD p) && true))) = true
    rw [imm_party]; rfl
theorem imm_wt (e : Int × Deed) : imm (wtD e) = true := by
  show (true && (imm (deedD e.2) && true)) = true
  rw [imm_deed]; rfl
theorem imm_tell (e : Int × Bool) : imm (tellD e) = true := rfl
theorem imm_clos (c : Option (List Cell)) : imm (closD c) = true := by
  cases c with
  | none => rfl
  | some cs => exact imm_cells cs
/-- the party that a deed's voucher has -/
def SM.old (M : SM) : Deed → List Stay
  | .wish _ => []
  | .cancel k => (lk M.vo k).getD []
  | .change k _ => (lk M.vo k).getD []
def isCh (k : Int) : Deed → Bool
  | .change j _ => decide (j = k)
  | _ => false
def SM.pend (M : SM) (k : Int) : Bool := M.ask.any fun e => isCh k e.2
def cellsN (p : List Stay) : List Cell := (needsL p).map (·.1)
def SM.shut (M : SM) (cs : List Cell) : Bool :=
  match M.cl with
  | none => false
  | some l => cs.any fun c => decide (c ∈ l)
def SM.waits (M : SM) (d : Deed) : Bool :=
  (match d with
    | .wish _ => false
    | .cancel k => M.pend k
    | .change k _ => M.pend k) || M.shut (cellsN d.party ++ cellsN (M.old d))
/-- cells in their order -/
def scell (l : List Cell) : List Cell := l.mergeSort (PySem.W.dataLe false cellD)
theorem scell_perm (l : List Cell) : (scell l).Perm l := List.mergeSort_perm l _
theorem scell_map (l : List Cell) : (scell l).map cellD = srt (l.map cellD) := srt_map cellD l
def lackC1 (p o : List Stay) (c : Cell) : Option (Cell × Int) := if nd o c < nd p c then some (c, nd p c - nd o c) else none
/-- what is lacking, in the order of the cells -/
def lackL (p o : List Stay) : Lack := (scell (cellsN p)).filterMap (lackC1 p o)
def SM.row (r : Row) (M : SM) : SM := { M with bk := M.bk ++ [r], out := M.out ++ [.entry r] }
def soldR (S : Setup) (n : Int) (p : List Stay) : Row := .sold n p (priceS S p) (keptS S p)
def canR (S : Setup) (n : Int) (p : List Stay) : Row := .cancelled n (priceS S p) (keptS S p)
def chgR (S : Setup) (n : Int) (p o : List Stay) : Row := .changed n p (priceS S p) (keptS S p) (priceS S o) (keptS S o)
def SM.tell (n : Int) (g : Bool) (M : SM) : SM := { M with told := M.told ++ [(n, g)] }
/-- a party is kept -/
def SM.keep (S : Setup) (n : Int) (d : Deed) (M : SM) : SM :=
  match d with
  | .wish p => SM.row (soldR S n p) { M with vo := pt M.vo n p }
  | .change k p => SM.row (chgR S k p ((lk M.vo k).getD [])) { M with vo := pt M.vo k p }
  | .cancel _ => M
/-- there are free nights enough -/
def SM.has (M : SM) (l : Lack) : Bool := l.all fun e => decide (e.2 ≤ M.fr e.1)
def SM.deal (S : Setup) (n : Int) (d : Deed) (p o : List Stay) (M : SM) : SM :=
  if M.has (lackL p o) = true then SM.tell n true (SM.keep S n d { M with fr := fun c => M.fr c - nd p c + nd o c })
  else { M with ask := pt M.ask n d, out := M.out ++ [.ask n (lackL p o)] }
def SM.doit (S : Setup) (n : Int) (d : Deed) (M : SM) : SM :=
  match d with
  | .wish p => M.deal S n d p []
  | .cancel k =>
    match lk M.vo k with
    | none => M.tell n false
    | some o => SM.tell n true (SM.row (canR S k o) { M with fr := fun c => M.fr c + nd o c, vo := dr M.vo k })
  | .change k p =>
    match lk M.vo k with
    | none => M.tell n false
    | some o => M.deal S n d p o
def SM.asked (S : Setup) (d : Deed) (M : SM) : SM :=
  let M1 : SM := { M with n := M.n + 1 }
  if M.waits d = true then { M1 with wt := M.wt ++ [(M.n, d)] } else M1.doit S M.n d
/-- a deed that was asked of the house is answered -/
def SM.answered (S : Setup) (n : Int) (g : Bool) (M : SM) : SM :=
  match lk M.ask n with
  | none => M
  | some d =>
    let M1 : SM := { M with ask := dr M.ask n }
    SM.tell n g (if g = true then SM.keep S n d { M1 with fr := fun c => M1.fr c + max 0 (nd (M1.old d) c - nd d.party c) } else M1)
def SM.again (S : Setup) (M : SM) (e : Int × Deed) : SM := if M.waits e.2 = true then { M with wt := M.wt ++ [e] } else M.doit S e.1 e.2
def SM.reopen (S : Setup) (cs : List Int) (an : Option (Int × Bool)) (M : SM) : SM :=
  let M1 : SM := { M with fr := addZ M.fr ((M.cl.getD []).zip cs), cl := none }
  let M2 := match an with
    | none => M1
    | some a => M1.answered S a.1 a.2
  M2.wt.foldl (SM.again S) { M2 with wt := [] }
def SM.close (cs : List Cell) (M : SM) : SM := { M with fr := fun c => if c ∈ cs then 0 else M.fr c, cl := some cs, out := M.out ++ [.closed (cs.map M.fr)] }
def SM.handle (S : Setup) (b : DnB) (M : SM) : SM :=
  match b with
  | .give c => { M with fr := fset M.fr c (M.fr c + 1) }
  | .close cs => M.close cs
  | .opn cs an => M.reopen S cs an
  | .want c => if 0 < M.fr c then { M with fr := fset M.fr c (M.fr c - 1), out := M.out ++ [.back c] } else M
/-- parties and deeds of the setup -/
def PtyOk (S : Setup) (p : List Stay) : Prop := (∀ s ∈ p, StayOk S s) ∧ p.length ≤ 4
def DeedOk (S : Setup) : Deed → Prop
  | .wish p => PtyOk S p
  | .cancel _ => True
  | .change _ p => PtyOk S p
theorem PtyOk.nil {S : Setup} : PtyOk S [] := ⟨fun _ h => (nomatch h), Nat.zero_le _⟩
theorem DeedOk.party {S : Setup} {d : Deed} (h : DeedOk S d) : PtyOk S d.party := by
  cases d with
  | wish p => exact h
  | cancel k => exact PtyOk.nil
  | change k p => exact h
/-- what is asked of the house -/
def AskOk (vo : List (Int × List Stay)) : Deed → Prop
  | .wish _ => True
  | .cancel _ => False
  | .change k _ => (lk vo k).isSome = true
structure SM.Ok (S : Setup) (M : SM) : Prop where
  vk : ∀ e ∈ M.vo, PtyOk S e.2
  vn : Nd M.vo
  ak : ∀ e ∈ M.ask, DeedOk S e.2
  an : Nd M.ask
  ac : ∀ e ∈ M.ask, AskOk M.vo e.2
  wk : ∀ e ∈ M.wt, DeedOk S e.2
  ck : ∀ cs, M.cl = some cs → (∀ c ∈ cs, CellOk S c) ∧ cs.length ≤ 36
theorem SM.Ok.old {S : Setup} {M : SM} (m : M.Ok S) (d : Deed) : PtyOk S (M.old d) := by
  have key : ∀ k, PtyOk S ((lk M.vo k).getD []) := fun k => by
    cases h : lk M.vo k with
    | none => exact PtyOk.nil
    | some p => exact m.vk _ (lk_some h)
  cases d with
  | wish p => exact PtyOk.nil
  | cancel k => exact key k
  | change k p => exact key k
theorem lk_pt_some {κ α : Type} [DecidableEq κ] {m : List (κ × α)} {k j : κ} {v : α} (h : (lk m k).isSome = true) : (lk (pt m j v) k).isSome = true := by
  rw [lk_pt]; split
  · rfl
  · exact h
theorem AskOk.pt {vo : List (Int × List Stay)} {d : Deed} (h : AskOk vo d) (n : Int) (p : List Stay) : AskOk (pt vo n p) d := by
  cases d with
  | wish _ => exact h
  | cancel _ => exact h
  | change k _ => exact lk_pt_some h
theorem keep_ok {S : Setup} {M : SM} {n : Int} {d : Deed} (m : M.Ok S) (hd : DeedOk S d) : (M.keep S n d).Ok S := by
  have key : ∀ (k : Int) (p : List Stay), PtyOk S p → ∀ e ∈ pt M.vo k p, PtyOk S e.2 := fun k p hp e he => by
    rcases pt_mem he with q | q
    · exact m.vk e q
    · rw [q]; exact hp
  cases d with
  | wish p => exact ⟨key n p hd, m.vn.pt _ _, m.ak, m.an, fun e he => (m.ac e he).pt _ _, m.wk, m.ck⟩
  | cancel k => exact m
  | change k p => exact ⟨key k p hd, m.vn.pt _ _, m.ak, m.an, fun e he => (m.ac e he).pt _ _, m.wk, m.ck⟩
theorem deal_ok {S : Setup} {M : SM} {n : Int} {d : Deed} {p o : List Stay} (m : M.Ok S) (hd : DeedOk S d) (ha : AskOk M.vo d) : (M.deal S n d p o).Ok S := by
  unfold SM.deal
  split
  · have h := keep_ok (n := n) (d := d) (M := { M with fr := fun c => M.fr c - nd p c + nd o c }) ⟨m.vk, m.vn, m.ak, m.an, m.ac, m.wk, m.ck⟩ hd
    exact ⟨h.vk, h.vn, h.ak, h.an, h.ac, h.wk, h.ck⟩
  · refine ⟨m.vk, m.vn, fun e he => ?_, m.an.pt _ _, fun e he => ?_, m.wk, m.ck⟩
    · rcases pt_mem he with q | q
      · exact m.ak e q
      · rw [q]; exact hd
    · rcases pt_mem he with q | q
      · exact m.ac e q
      · rw [q]; exact ha
theorem lk_dr_ne {κ α : Type} [DecidableEq κ] {m : List (κ × α)} {k j : κ} (h : j ≠ k) : lk (dr m k) j = lk m j := by
  induction m with
  | nil => rfl
  | cons e r ih =>
    unfold dr
    by_cases q : e.1 = k
    · have a : decide (e.1 ≠ k) = false := by simp [q]
      have b : lk (e :: r) j = lk r j := by rw [lk_cons, if_neg fun z => h (z.symm.trans q)]
      simp only [List.filter_cons, a]; rw [b]; exact ih
    · have a : decide (e.1 ≠ k) = true := decide_eq_true q
      simp only [List.filter_cons, a, if_true]
      rw [lk_cons, lk_cons]
      split
      · rfl
      · exact ih
/-- the deed does not cancel what a change is asked for -/
def SM.clear (M : SM) : Deed → Prop
  | .wish _ => True
  | .cancel k => M.pend k = false
  | .change k _ => M.pend k = false
theorem SM.clear_of {M : SM} {d : Deed} (h : M.waits d = false) : M.clear d := by
  unfold SM.waits at h
  cases d with
  | wish p => trivial
  | cancel k => exact (Bool.or_eq_false_iff.mp h).1
  | change k p => exact (Bool.or_eq_false_iff.mp h).1
theorem doit_ok {S : Setup} {M : SM} {n : Int} {d : Deed} (m : M.Ok S) (hd : DeedOk S d) (hc : M.clear d) : (M.doit S n d).Ok S := by
  cases d with
  | wish p => exact deal_ok m hd trivial
  | cancel k =>
    show SM.Ok S (match lk M.vo k with | none => _ | some o => _)
    cases h : lk M.vo k with
    | none => exact ⟨m.vk, m.vn, m.ak, m.an, m.ac, m.wk, m.ck⟩
    | some o =>
      refine ⟨fun e he => m.vk e (List.mem_filter.mp he).1, dr_nd m.vn k, m.ak, m.an, fun e he => ?_, m.wk, m.ck⟩
      have h1 := m.ac e he
      cases q : e.2 with
      | wish _ => trivial
      | cancel _ => rw [q] at h1; exact h1
      | change j p =>
        rw [q] at h1
        have hj : j ≠ k := fun z => by
          have hp : M.pend k = false := hc
          unfold SM.pend at hp
          have := List.any_eq_false.mp hp e he
          rw [q] at this
          exact this (decide_eq_true z)
        show (lk (dr M.vo k) j).isSome = true
        rw [lk_dr_ne hj]; exact h1
  | change k p =>
    show SM.Ok S (match lk M.vo k with | none => _ | some o => _)
    cases h : lk M.vo k with
    | none => exact ⟨m.vk, m.vn, m.ak, m.an, m.ac, m.wk, m.ck⟩
    | some o => exact deal_ok m hd (by show (lk M.vo k).isSome = true; rw [h]; rfl)
theorem asked_ok {S : Setup} {M : SM} {d : Deed} (m : M.Ok S) (hd : DeedOk S d) : (M.asked S d).Ok S := by
  unfold SM.asked
  by_cases h : M.waits d = true
  · show SM.Ok S (if M.waits d = true then _ else _)
    rw [if_pos h]
    refine ⟨m.vk, m.vn, m.ak, m.an, m.ac, fun e he => ?_, m.ck⟩
    rcases List.mem_append.mp he with q | q
    · exact m.wk e q
    · rw [List.mem_singleton.mp q]; exact hd
  · show SM.Ok S (if M.waits d = true then _ else _)
    rw [if_neg h]
    have hc := SM.clear_of (M := M) (d := d) (by simpa using h)
    exact doit_ok (M := { M with n := M.n + 1 }) ⟨m.vk, m.vn, m.ak, m.an, m.ac, m.wk, m.ck⟩ hd (by cases d <;> exact hc)
theorem again_ok {S : Setup} {M : SM} {e : Int × Deed} (m : M.Ok S) (hd : DeedOk S e.2) : (M.again S e).Ok S := by
  unfold SM.again
  by_cases h : M.waits e.2 = true
  · rw [if_pos h]
    refine ⟨m.vk, m.vn, m.ak, m.an, m.ac, fun x hx => ?_, m.ck⟩
    rcases List.mem_append.mp hx with q | q
    · exact m.wk x q
    · rw [List.mem_singleton.mp q]; exact hd
  · rw [if_neg h]
    exact doit_ok m hd (SM.clear_of (by simpa using h))
theorem agains_ok {S : Setup} : ∀ (l : List (Int × Deed)) {M : SM}, M.Ok S → (∀ e ∈ l, DeedOk S e.2) → (l.foldl (SM.again S) M).Ok S
  | [], _, m, _ => m
  | e :: l, _, m, h => agains_ok l (again_ok m (h e List.mem_cons_self)) fun x hx => h x (List.mem_cons_of_mem _ hx)
theorem answered_ok {S : Setup} {M : SM} {n : Int} {g : Bool} (m : M.Ok S) : (M.answered S n g).Ok S := by
  unfold SM.answered
  cases h : lk M.ask n with
  | none => exact m
  | some d =>
    have hd := m.ak _ (lk_some h)
    have m1 : SM.Ok S { M with ask := dr M.ask n } := ⟨m.vk, m.vn, fun e he => m.ak e (List.mem_filter.mp he).1, dr_nd m.an n, fun e he => m.ac e (List.mem_filter.mp he).1, m.wk, m.ck⟩
    cases g with
    | false => exact ⟨m1.vk, m1.vn, m1.ak, m1.an, m1.ac, m1.wk, m1.ck⟩
    | true =>
      have k := keep_ok (n := n) (d := d) (M := { M with ask := dr M.ask n, fr := fun c => M.fr c + max 0 (nd (SM.old { M with ask := dr M.ask n } d) c - nd d.party c) }) ⟨m1.vk, m1.vn, m1.ak, m1.an, m1.ac, m1.wk, m1.ck⟩ hd
      exact ⟨k.vk, k.vn, k.ak, k.an, k.ac, k.wk, k.ck⟩
theorem reopen_ok {S : Setup} {M : SM} {cs : List Int} {an : Option (Int × Bool)} (m : M.Ok S) : (M.reopen S cs an).Ok S := by
  unfold SM.reopen
  have m1 : SM.Ok S { M with fr := addZ M.fr ((M.cl.getD []).zip cs), cl := none } := ⟨m.vk, m.vn, m.ak, m.an, m.ac, m.wk, fun _ h => (by cases h)⟩
  cases an with
  | none => exact agains_ok _ ⟨m1.vk, m1.vn, m1.ak, m1.an, m1.ac, fun _ h => (nomatch h), m1.ck⟩ m1.wk
  | some a =>
    have m2 := answered_ok (n := a.1) (g := a.2) m1
    exact agains_ok _ ⟨m2.vk, m2.vn, m2.ak, m2.an, m2.ac, fun _ h => (nomatch h), m2.ck⟩ m2.wk
def DnOk (S : Setup) (M : SM) : DnB → Prop
  | .give c => CellOk S c
  | .want c => CellOk S c
  | .close cs => (∀ c ∈ cs, CellOk S c) ∧ cs.length ≤ 36
  | .opn cs an => (∃ l, M.cl = some l ∧ cs.length = l.length) ∧ ∀ a, an = some a → (lk M.ask a.1).isSome = true
theorem shandle_ok {S : Setup} {M : SM} {b : DnB} (m : M.Ok S) (hb : DnOk S M b) : (M.handle S b).Ok S := by
  cases b with
  | give c => exact ⟨m.vk, m.vn, m.ak, m.an, m.ac, m.wk, m.ck⟩
  | close cs => exact ⟨m.vk, m.vn, m.ak, m.an, m.ac, m.wk, fun x hx => by cases hx; exact hb⟩
  | opn cs an => exact reopen_ok m
  | want c =>
    show SM.Ok S (if 0 < M.fr c then _ else _)
    split
    · exact ⟨m.vk, m.vn, m.ak, m.an, m.ac, m.wk, m.ck⟩
    · exact m

structure SP where
  p : Addr
  fr : Addr
  vo : Addr
  bk : Addr
  ask : Addr
  wt : Addr
  out : Addr
  told : Addr
def SP.os (s : SP) : List Addr := [s.p, s.fr, s.vo, s.bk, s.ask, s.wt, s.out, s.told]
structure SPNd (s : SP) : Prop where
  p_fr : s.p ≠ s.fr
  p_vo : s.p ≠ s.vo
  p_bk : s.p ≠ s.bk
  p_ask : s.p ≠ s.ask
  p_wt : s.p ≠ s.wt
  p_out : s.p ≠ s.out
  p_told : s.p ≠ s.told
  fr_vo : s.fr ≠ s.vo
  fr_bk : s.fr ≠ s.bk
  fr_ask : s.fr ≠ s.ask
  fr_wt : s.fr ≠ s.wt
  fr_out : s.fr ≠ s.out
  fr_told : s.fr ≠ s.told
  vo_bk : s.vo ≠ s.bk
  vo_ask : s.vo ≠ s.ask
  vo_wt : s.vo ≠ s.wt
  vo_out : s.vo ≠ s.out
  vo_told : s.vo ≠ s.told
  bk_ask : s.bk ≠ s.ask
  bk_wt : s.bk ≠ s.wt
  bk_out : s.bk ≠ s.out
  bk_told : s.bk ≠ s.told
  ask_wt : s.ask ≠ s.wt
  ask_out : s.ask ≠ s.out
  ask_told : s.ask ≠ s.told
  wt_out : s.wt ≠ s.out
  wt_told : s.wt ≠ s.told
  out_told : s.out ≠ s.told
theorem SPNd.of {s : SP} (n : s.os.Nodup) : SPNd s := by
  unfold SP.os at n
  simp only [List.nodup_cons, List.mem_cons, List.not_mem_nil, or_false, not_or, not_false_eq_true, and_true, List.nodup_nil] at n
  obtain ⟨⟨p_fr, p_vo, p_bk, p_ask, p_wt, p_out, p_told⟩, ⟨fr_vo, fr_bk, fr_ask, fr_wt, fr_out, fr_told⟩, ⟨vo_bk, vo_ask, vo_wt, vo_out, vo_told⟩, ⟨bk_ask, bk_wt, bk_out, bk_told⟩, ⟨ask_wt, ask_out, ask_told⟩, ⟨wt_out, wt_told⟩, out_told⟩ := n
  exact ⟨p_fr, p_vo, p_bk, p_ask, p_wt, p_out, p_told, fr_vo, fr_bk, fr_ask, fr_wt, fr_out, fr_told, vo_bk, vo_ask, vo_wt, vo_out, vo_told, bk_ask, bk_wt, bk_out, bk_told, ask_wt, ask_out, ask_told, wt_out, wt_told, out_told⟩
structure SCore (H : Hp) (S : Setup) (s : SP) (clv : V) (M : SM) : Prop where
  fr : H s.fr = some (.dT (cD (stT S M.fr)))
  vo : DkAt H s.vo (voD M.vo)
  bk : LsAt H s.bk ((M.bk).map rowB)
  ask : DkAt H s.ask (askT M.ask)
  wt : LsAt H s.wt ((M.wt).map wtD)
  out : LsAt H s.out ((M.out).map upD)
  told : LsAt H s.told ((M.told).map tellD)
  clv : Da H clv (closD M.cl)
theorem SCore.frm {l : List Addr} {H H' : Hp} {S : Setup} {s : SP} {clv : V} {M : SM} (c : SCore H S s clv M) (f : Fr l H H') (n : ∀ a ∈ s.os, a ∉ l) : SCore H' S s clv M :=
  ⟨f.at c.fr (n _ (by simp [SP.os])), c.vo.fr f (n _ (by simp [SP.os])), c.bk.fr f (n _ (by simp [SP.os])), c.ask.fr f (n _ (by simp [SP.os])), c.wt.fr f (n _ (by simp [SP.os])), c.out.fr f (n _ (by simp [SP.os])), c.told.fr f (n _ (by simp [SP.os])), Da.frL f c.clv (imm_clos _)⟩
theorem SCore.w_fr {H H' : Hp} {S : Setup} {s : SP} {clv : V} {M : SM} {v : Cell → Int} (c : SCore H S s clv M) (n : SPNd s) (f : Fr [s.fr] H H') (e : H' s.fr = some (.dT (cD (stT S v)))) : SCore H' S s clv { M with fr := v } :=
  ⟨e, c.vo.fr f (nin1 n.fr_vo.symm nin0), c.bk.fr f (nin1 n.fr_bk.symm nin0), c.ask.fr f (nin1 n.fr_ask.symm nin0), c.wt.fr f (nin1 n.fr_wt.symm nin0), c.out.fr f (nin1 n.fr_out.symm nin0), c.told.fr f (nin1 n.fr_told.symm nin0), Da.frL f c.clv (imm_clos _)⟩
theorem SCore.w_vo {H H' : Hp} {S : Setup} {s : SP} {clv : V} {M : SM} {v : List (Int × List Stay)} (c : SCore H S s clv M) (n : SPNd s) (f : Fr [s.vo] H H') (e : DkAt H' s.vo (voD v)) : SCore H' S s clv { M with vo := v } :=
  ⟨f.at c.fr (nin1 n.fr_vo nin0), e, c.bk.fr f (nin1 n.vo_bk.symm nin0), c.ask.fr f (nin1 n.vo_ask.symm nin0), c.wt.fr f (nin1 n.vo_wt.symm nin0), c.out.fr f (nin1 n.vo_out.symm nin0), c.told.fr f (nin1 n.vo_told.symm nin0), Da.frL f c.clv (imm_clos _)⟩
theorem SCore.w_bk {H H' : Hp} {S : Setup} {s : SP} {clv : V} {M : SM} {v : List Row} (c : SCore H S s clv M) (n : SPNd s) (f : Fr [s.bk] H H') (e : LsAt H' s.bk ((v).map rowB)) : SCore H' S s clv { M with bk := v } :=
  ⟨f.at c.fr (nin1 n.fr_bk nin0), c.vo.fr f (nin1 n.vo_bk nin0), e, c.ask.fr f (nin1 n.bk_ask.symm nin0), c.wt.fr f (nin1 n.bk_wt.symm nin0), c.out.fr f (nin1 n.bk_out.symm nin0), c.told.fr f (nin1 n.bk_told.symm nin0), Da.frL f c.clv (imm_clos _)⟩
theorem SCore.w_ask {H H' : Hp} {S : Setup} {s : SP} {clv : V} {M : SM} {v : List (Int × Deed)} (c : SCore H S s clv M) (n : SPNd s) (f : Fr [s.ask] H H') (e : DkAt H' s.ask (askT v)) : SCore H' S s clv { M with ask := v } :=
  ⟨f.at c.fr (nin1 n.fr_ask nin0), c.vo.fr f (nin1 n.vo_ask nin0), c.bk.fr f (nin1 n.bk_ask nin0), e, c.wt.fr f (nin1 n.ask_wt.symm nin0), c.out.fr f (nin1 n.ask_out.symm nin0), c.told.fr f (nin1 n.ask_told.symm nin0), Da.frL f c.clv (imm_clos _)⟩
theorem SCore.w_wt {H H' : Hp} {S : Setup} {s : SP} {clv : V} {M : SM} {v : List (Int × Deed)} (c : SCore H S s clv M) (n : SPNd s) (f : Fr [s.wt] H H') (e : LsAt H' s.wt ((v).map wtD)) : SCore H' S s clv { M with wt := v } :=
  ⟨f.at c.fr (nin1 n.fr_wt nin0), c.vo.fr f (nin1 n.vo_wt nin0), c.bk.fr f (nin1 n.bk_wt nin0), c.ask.fr f (nin1 n.ask_wt nin0), e, c.out.fr f (nin1 n.wt_out.symm nin0), c.told.fr f (nin1 n.wt_told.symm nin0), Da.frL f c.clv (imm_clos _)⟩
theorem SCore.w_out {H H' : Hp} {S : Setup} {s : SP} {clv : V} {M : SM} {v : List UpB} (c : SCore H S s clv M) (n : SPNd s) (f : Fr [s.out] H H') (e : LsAt H' s.out ((v).map upD)) : SCore H' S s clv { M with out := v } :=
  ⟨f.at c.fr (nin1 n.fr_out nin0), c.vo.fr f (nin1 n.vo_out nin0), c.bk.fr f (nin1 n.bk_out nin0), c.ask.fr f (nin1 n.ask_out nin0), c.wt.fr f (nin1 n.wt_out nin0), e, c.told.fr f (nin1 n.out_told.symm nin0), Da.frL f c.clv (imm_clos _)⟩
theorem SCore.w_told {H H' : Hp} {S : Setup} {s : SP} {clv : V} {M : SM} {v : List (Int × Bool)} (c : SCore H S s clv M) (n : SPNd s) (f : Fr [s.told] H H') (e : LsAt H' s.told ((v).map tellD)) : SCore H' S s clv { M with told := v } :=
  ⟨f.at c.fr (nin1 n.fr_told nin0), c.vo.fr f (nin1 n.vo_told nin0), c.bk.fr f (nin1 n.bk_told nin0), c.ask.fr f (nin1 n.ask_told nin0), c.wt.fr f (nin1 n.wt_told nin0), c.out.fr f (nin1 n.out_told nin0), e, Da.frL f c.clv (imm_clos _)⟩
theorem SCore.w_p {H H' : Hp} {S : Setup} {s : SP} {clv : V} {M : SM} (c : SCore H S s clv M) (n : SPNd s) (f : Fr [s.p] H H') : SCore H' S s clv M :=
  ⟨f.at c.fr (nin1 n.p_fr.symm nin0), c.vo.fr f (nin1 n.p_vo.symm nin0), c.bk.fr f (nin1 n.p_bk.symm nin0), c.ask.fr f (nin1 n.p_ask.symm nin0), c.wt.fr f (nin1 n.p_wt.symm nin0), c.out.fr f (nin1 n.p_out.symm nin0), c.told.fr f (nin1 n.p_told.symm nin0), Da.frL f c.clv (imm_clos _)⟩

/-- the stock: d[c] op= v -/
def rStP (st cd : Addr) (z : V) (H : Hp) (P : Hp → Prop) : Prop := ∃ H5, DPut H st (.ref cd) z H5 ∧ P H5
theorem g_stA {S : Setup} (so : SetupOk S) {st cd : Addr} {c : Cell} {g : Cell → Int} {tv : TE} {rd : V → V → Hp → VK → Prop} {σ : L2.St} {H : Hp} {P : Hp → Prop} (ok : CellOk S c) (h : H st = some (.dT (cD (stT S g)))) (hc : H cd = some (.tup [.int c.1, .int c.2]))
    (q : tv σ H fun y2 H3 => rd (.int (g c)) y2 H3 fun z H4 => rStP st cd z H4 P) : rDA0 (.ref st) (.ref cd) tv rd σ H P := g_rda0 (k := ck c) h hc (st_get so ok) q
theorem g_stP {S : Setup} (so : SetupOk S) {st cd : Addr} {c : Cell} {g : Cell → Int} {v : Int} {H : Hp} {P : Hp → Prop} (ok : CellOk S c) (h : H st = some (.dT (cD (stT S g)))) (hc : H cd = some (.tup [.int c.1, .int c.2]))
    (q : ∀ H', Fr [st] H H' → H' st = some (.dT (cD (stT S (fset g c v)))) → P H') : rStP st cd (.int v) H P :=
  g_rdput (k := ck c) h hc (st_lt so g) fun H' f e => q H' f (by rw [e, st_put so ok])
theorem g_stG {S : Setup} (so : SetupOk S) {st cd : Addr} {c : Cell} {g : Cell → Int} {H : Hp} {Q : VK} (ok : CellOk S c) (h : H st = some (.dT (cD (stT S g)))) (hc : H cd = some (.tup [.int c.1, .int c.2])) (q : Q (.int (g c)) H) : rDG (.ref st) (.ref cd) H Q :=
  g_rdg (k := ck c) (.inl h) hc (st_get so ok) q
theorem g_stD {S : Setup} (so : SetupOk S) {st cd : Addr} {c : Cell} {g : Cell → Int} {v : Int} {H : Hp} {P : Hp → Prop} (ok : CellOk S c) (h : H st = some (.dT (cD (stT S g)))) (hc : H cd = some (.tup [.int c.1, .int c.2]))
    (q : ∀ H', Fr [st] H H' → H' st = some (.dT (cD (stT S (fset g c v)))) → P H') : rDP (.ref st) (.ref cd) (.int v) H P :=
  g_rdp (k := ck c) h hc (st_lt so g) fun H' f e => q H' f (by rw [e, st_put so ok])
/-- filling a table of all cells -/
theorem tab_snoc (cs : List Cell) (c : Cell) (f : Cell → Int) : tabF (cs ++ [c]) f = tabF cs f ++ [(c, f c)] := by unfold tabF; rw [List.map_append]; rfl
theorem tab_put {cs : List Cell} {c : Cell} (f : Cell → Int) (h : c ∉ cs) : putK (cD (tabF cs f)) (ck c) (.int (f c)) = cD (tabF (cs ++ [c]) f) := by
  rw [put_cell, pt_new (by rw [tab_keys]; exact h), tab_snoc]
theorem new_cell {N i j : Nat} : ((i : Int), (j : Int)) ∉ cellsK N i ++ rowC j i := fun q => by
  rcases List.mem_append.mp q with h | h
  · have := (mem_cellsK.mp h).2.1
    exact absurd this (by show ¬ (i : Int) < (i : Int); omega)
  · have := (mem_row.mp h).2.2
    exact absurd this (by show ¬ (j : Int) < (j : Int); omega)

/-! ### the house in the heap -/
structure HP where
  p : Addr
  st : Addr
  bk : Addr
  qu : Addr
  ct : Addr
  out : Addr
  bs : List Addr
def HP.os (h : HP) : List Addr := h.p :: h.st :: h.bk :: h.qu :: h.ct :: h.out :: h.bs
abbrev BksAt (H : Hp) (bs : List Addr) (m : List (List Row)) : Prop := Paired (fun b r => LsAt H b (r.map rowB)) bs m
theorem BksAt.fr {l : List Addr} {H H' : Hp} {bs : List Addr} {m : List (List Row)} (h : BksAt H bs m) (f : Fr l H H') (n : ∀ b ∈ bs, b ∉ l) : BksAt H' bs m := by
  induction h with
  | nil => exact .nil
  | cons r t ih => exact .cons (r.fr f (n _ List.mem_cons_self)) (ih fun b hb => n b (List.mem_cons_of_mem _ hb))
structure HCore (H : Hp) (S : Setup) (h : HP) (rdv : V) (M : HM) : Prop where
  st : H h.st = some (.dT (cD (stT S M.st)))
  bk : H h.bk = some (.lst (h.bs.map V.ref))
  bs : BksAt H h.bs M.bk
  qu : LsAt H h.qu (M.qu.map askD)
  rd : Da H rdv (roundD M.rd)
  ct : DkAt H h.ct (M.ct.map fun e => (e.1, rowD e.2))
  out : LsAt H h.out (M.out.map outD)
theorem HCore.fr {l : List Addr} {H H' : Hp} {S : Setup} {h : HP} {rdv : V} {M : HM} (c : HCore H S h rdv M) (f : Fr l H H') (n : ∀ a ∈ h.st :: h.bk :: h.qu :: h.ct :: h.out :: h.bs, a ∉ l) : HCore H' S h rdv M :=
  ⟨f.at c.st (n _ (by simp)), f.at c.bk (n _ (by simp)), c.bs.fr f fun b hb => n b (by simp [hb]), c.qu.fr f (n _ (by simp)), Da.frL f c.rd (imm_round _), c.ct.fr f (n _ (by simp)), c.out.fr f (n _ (by simp))⟩
/-- the places differ -/
structure HNd (h : HP) : Prop where
  n1 : h.st ≠ h.bk
  n2 : h.st ≠ h.qu
  n3 : h.st ≠ h.ct
  n4 : h.st ≠ h.out
  n5 : h.bk ≠ h.qu
  n6 : h.bk ≠ h.ct
  n7 : h.bk ≠ h.out
  n8 : h.qu ≠ h.ct
  n9 : h.qu ≠ h.out
  n10 : h.ct ≠ h.out
  p1 : h.p ≠ h.st
  p2 : h.p ≠ h.bk
  p3 : h.p ≠ h.qu
  p4 : h.p ≠ h.ct
  p5 : h.p ≠ h.out
  b0 : h.p ∉ h.bs
  b1 : h.st ∉ h.bs
  b2 : h.bk ∉ h.bs
  b3 : h.qu ∉ h.bs
  b4 : h.ct ∉ h.bs
  b5 : h.out ∉ h.bs
  bn : h.bs.Nodup
theorem HNd.of {h : HP} (n : h.os.Nodup) : HNd h := by
  unfold HP.os at n
  simp only [List.nodup_cons, List.mem_cons, not_or] at n
  obtain ⟨⟨a1, a2, a3, a4, a5, a6⟩, ⟨b1, b2, b3, b4, b5⟩, ⟨c1, c2, c3, c4⟩, ⟨d1, d2, d3⟩, ⟨e1, e2⟩, f1, g⟩ := n
  exact ⟨b1, b2, b3, b4, c1, c2, c3, d1, d2, e1, a1, a2, a3, a4, a5, a6, b5, c4, d3, e2, f1, g⟩
theorem nin_bs {bs : List Addr} {a : Addr} (n : a ∉ bs) : ∀ b ∈ bs, b ∉ [a] := fun b hb q => n (by rw [← List.mem_singleton.mp q]; exact hb)
theorem HCore.wst {H H' : Hp} {S : Setup} {h : HP} {rdv : V} {M : HM} {g : Cell → Int} (c : HCore H S h rdv M) (n : HNd h) (f : Fr [h.st] H H') (e : H' h.st = some (.dT (cD (stT S g)))) : HCore H' S h rdv { M with st := g } :=
  ⟨e, f.at c.bk (nin1 n.n1.symm nin0), c.bs.fr f (nin_bs n.b1), c.qu.fr f (nin1 n.n2.symm nin0), Da.frL f c.rd (imm_round _), c.ct.fr f (nin1 n.n3.symm nin0), c.out.fr f (nin1 n.n4.symm nin0)⟩
theorem HCore.wqu {H H' : Hp} {S : Setup} {h : HP} {rdv : V} {M : HM} {q : List Ask} (c : HCore H S h rdv M) (n : HNd h) (f : Fr [h.qu] H H') (e : LsAt H' h.qu (q.map askD)) : HCore H' S h rdv { M with qu := q } :=
  ⟨f.at c.st (nin1 n.n2 nin0), f.at c.bk (nin1 n.n5 nin0), c.bs.fr f (nin_bs n.b3), e, Da.frL f c.rd (imm_round _), c.ct.fr f (nin1 n.n8.symm nin0), c.out.fr f (nin1 n.n9.symm nin0)⟩
theorem HCore.wct {H H' : Hp} {S : Setup} {h : HP} {rdv : V} {M : HM} {q : List (Int × List Int)} (c : HCore H S h rdv M) (n : HNd h) (f : Fr [h.ct] H H') (e : DkAt H' h.ct (q.map fun e => (e.1, rowD e.2))) : HCore H' S h rdv { M with ct := q } :=
  ⟨f.at c.st (nin1 n.n3 nin0), f.at c.bk (nin1 n.n6 nin0), c.bs.fr f (nin_bs n.b4), c.qu.fr f (nin1 n.n8 nin0), Da.frL f c.rd (imm_round _), e, c.out.fr f (nin1 n.n10.symm nin0)⟩
theorem HCore.wout {H H' : Hp} {S : Setup} {h : HP} {rdv : V} {M : HM} {q : List (Int × DnB)} (c : HCore H S h rdv M) (n : HNd h) (f : Fr [h.out] H H') (e : LsAt H' h.out (q.map outD)) : HCore H' S h rdv { M with out := q } :=
  ⟨f.at c.st (nin1 n.n4 nin0), f.at c.bk (nin1 n.n7 nin0), c.bs.fr f (nin_bs n.b5), c.qu.fr f (nin1 n.n9 nin0), Da.frL f c.rd (imm_round _), c.ct.fr f (nin1 n.n10 nin0), e⟩
theorem Paired.nth {α β : Type} {F : α → β → Prop} : ∀ {l : List α} {m : List β} {i : Nat} {a : α}, Paired F l m → l[i]? = some a → ∃ b, m[i]? = some b ∧ F a b
  | _, _, _, _, .nil, e => by simp at e
  | _, _, 0, _, .cons r _, e => by simp at e; subst e; exact ⟨_, rfl, r⟩
  | _, _, i + 1, a, .cons _ t, e => by
    obtain ⟨b, h1, h2⟩ := Paired.nth (i := i) (a := a) t (by simpa using e)
    exact ⟨b, by simpa using h1, h2⟩
theorem BksAt.put {H H' : Hp} : ∀ {bs : List Addr} {m : List (List Row)} {i : Nat} {b : Addr} {r : List Row}, BksAt H bs m → bs.Nodup → bs[i]? = some b → Fr [b] H H' → LsAt H' b (r.map rowB) → BksAt H' bs (m.set i r)
  | _, _, _, _, _, .nil, _, e, _, _ => by simp at e
  | _, _, 0, _, _, .cons _ t, nd, e, f, l => by
    simp at e; subst e
    exact .cons l (BksAt.fr t f (nin_bs (List.nodup_cons.mp nd).1))
  | _, _, i + 1, b, r, .cons (a := x) (l₁ := xs) h t, nd, e, f, l => by
    have e' : xs[i]? = some b := by simpa using e
    have nb : x ≠ b := fun z => (List.nodup_cons.mp nd).1 (z ▸ List.mem_of_getElem? e')
    exact .cons (h.fr f (nin1 nb nin0)) (BksAt.put (i := i) t (List.nodup_cons.mp nd).2 e' f l)
theorem HCore.wbs {H H' : Hp} {S : Setup} {h : HP} {rdv : V} {M : HM} {i : Nat} {b : Addr} {r : List Row} (c : HCore H S h rdv M) (n : HNd h) (hb : h.bs[i]? = some b) (f : Fr [b] H H') (e : LsAt H' b (r.map rowB)) : HCore H' S h rdv { M with bk := M.bk.set i r } := by
  have mb : b ∈ h.bs := List.mem_of_getElem? hb
  have ne : ∀ {a : Addr}, a ∉ h.bs → a ≠ b := fun q z => q (z ▸ mb)
  exact ⟨f.at c.st (nin1 (ne n.b1) nin0), f.at c.bk (nin1 (ne n.b2) nin0), c.bs.put n.bn hb f e, c.qu.fr f (nin1 (ne n.b3) nin0), Da.frL f c.rd (imm_round _), c.ct.fr f (nin1 (ne n.b4) nin0), c.out.fr f (nin1 (ne n.b5) nin0)⟩
def HouseAt (A : Ad) (H : Hp) (h : HP) (S : Setup) (M : HM) : Prop := (∃ dx rdv, H h.p = some (.ins A.House dx (F_House S.sellers h.st h.bk h.qu rdv h.ct h.out)) ∧ HCore H S h rdv M) ∧ AL H h.os
theorem HouseAt.fr {A : Ad} {l : List Addr} {H H' : Hp} {h : HP} {S : Setup} {M : HM} (x : HouseAt A H h S M) (f : Fr l H H') (n : ∀ a ∈ h.os, a ∉ l) : HouseAt A H' h S M := by
  obtain ⟨⟨dx, rdv, e, c⟩, al⟩ := x
  exact ⟨⟨dx, rdv, f.at e (n _ (by simp [HP.os])), c.fr f fun a ha => n a (by unfold HP.os; exact List.mem_cons_of_mem _ ha)⟩, al.1, fun a ha => by obtain ⟨o, q⟩ := al.2 a ha; exact ⟨o, f.at q (n a ha)⟩⟩
/-- behind a method of the house -/
def HRes (A : Ad) (H : Hp) (h : HP) (S : Setup) (M : HM) (Q : Hp → Prop) : Prop := ∀ (h' : HP) (H' : Hp), h'.p = h.p → Fr h.os H H' → (∀ a ∈ h'.os, a ∈ h.os ∨ H a = none) → HouseAt A H' h' S M → Q H'
def HM.start (S : Setup) : HM := ⟨rmC S, List.replicate S.sellers.toNat [], [], none, [], []⟩
theorem HM.start_ok {S : Setup} : (HM.start S).Ok S := ⟨fun _ h => (nomatch h), fun _ h => (by cases h), fun _ h => (by cases h), fun _ h => (nomatch h), List.nodup_nil, List.length_replicate⟩
def P_House_init (K : PySem.W.Frag) (A : Ad) (x0 x1 : V) (H : Hp) (Q : VK) : Prop := ∃ (p dx : Addr) (S : Setup), x0 = .ref p ∧ H p = some (.ins A.House dx []) ∧ Da H x1 (setupD S) ∧ SetupOk S ∧
  ∀ (h : HP) (H' : Hp), h.p = p → Fr [p] H H' → (∀ a ∈ h.os, a = p ∨ H a = none) → HouseAt A H' h S (HM.start S) → Q .non H'
def sp_House_init (K : PySem.W.Frag) (A : Ad) : Sp := fun vs H Q _ => ∃ x0 x1, vs = [x0, x1] ∧ P_House_init K A x0 x1 H Q
theorem c_House_init {K : PySem.W.Frag} {A : Ad} {x0 x1 : V} {H : Hp} {Q : VK} {E : XK} (h : P_House_init K A x0 x1 H Q) : sp_House_init K A [x0, x1] H Q E := ⟨_, _, rfl, h⟩
theorem sc_House_init : FnScope ["self", "setup", "kind", "many", "night", "_"] ["self", "setup"] (defScope s_House_init) := ⟨rfl, rfl, rfl, by decide +kernel, rfl, by decide +kernel, by decide +kernel⟩
def t_House_init (K : PySem.W.Frag) (A : Ad) : TS :=
  (tSeq (sFld K (tVar 0) (tOp (rIxT K) (tVar 1) (tC (.int 2))) "sellers")
    (tSeq (sFld K (tVar 0) tDNewT "stock")
    (tSeq (tFor (iEnumT K (tCons (tOp (rIxT K) (tVar 1) (tC (.int 0))) tNil)) (gTup K 2 (gCons (gName 2) (gCons (gName 3) gNil))) (tFor (iRng1 (tCons (tOp (rIxT K) (tVar 1) (tC (.int 1))) tNil)) (gName 4) (sDPut (tFld K (tVar 0) "stock") (tTup (tCons (tVar 2) (tCons (tVar 4) tNil))) (tVar 3))))
    (tSeq (sFld K (tVar 0) (tLc (iRng1 (tCons (tOp (rIxT K) (tVar 1) (tC (.int 2))) tNil)) (gName 5) tYes (tLst tNil) [5]) "books")
    (tSeq (sFld K (tVar 0) (tLst tNil) "queue")
    (tSeq (sFld K (tVar 0) (tC .non) "round")
    (tSeq (sFld K (tVar 0) tDNewK "counts")
    (sFld K (tVar 0) (tLst tNil) "outgoing"))))))))
theorem pu_House_init (T : Txt K mg A) {x0 x1 : V} {H : Hp} {Q : VK} (h : P_House_init K A x0 x1 H Q) : t_House_init K A { nx := fun _ H' => Q .non H', rt := Q } [some x0, some x1, none, none, none, none] H := by
  obtain ⟨p, dx, S, rfl, hp, dS, so, k⟩ := h
  obtain ⟨s, r, pp, prs, sa⟩ := SetAt.of dS
  cases sa.e
  have e0 := sa.t
  have er := sa.r
  have hn := so.n1
  have hn2 := so.n2
  have hs1 := so.s1
  have hs2 := so.s2
  have hk := so.k1
  unfold t_House_init
  walk_at "go"
  rename_i H1 f1 e1 st H2 n2 f2 e2 H3 f3 e3
  have nsp : st ≠ p := (ne_of_none e1 n2).symm
  have e23 := f3.at e2 (nin1 nsp nin0)
  have F3 : Fr [p] H H3 := (f1.then0 f2).transL f3
  have er3 := F3.tup _ _ er
  have e03 := F3.tup _ _ e0
  have nst : H st = none := f1.freeL n2 (nin1 nsp nin0)
  refine f_enumT (xs := S.rooms.map V.int) (fun i σ H' => (∃ v2 v3 v4 v5, σ = [some (.ref p), some (.ref s), v2, v3, v4, v5]) ∧ Fr [st] H3 H' ∧ H' st = some (.dT (cD (tabF (cellsK S.nights.toNat i) (rmC S))))) ⟨⟨_, _, _, _, rfl⟩, Fr.refl, e23⟩ (fun i σ H' _ ⟨_, f, _⟩ => SqT.of (f.tup _ _ er3)) ?_ ?_
  · rintro i x t σ H4 H5 hx ⟨⟨v2, v3, v4, v5, rfl⟩, f4, e4⟩ nt f5 e5
    obtain ⟨z, rfl, hz, _⟩ := getI hx
    have hi := (List.getElem?_eq_some_iff.mp hz).1
    have e45 := f5.at0 e4
    have rz : rmC S ((i : Int), 0) = z := by unfold rmC; rw [List.getD_eq_getElem?_getD]; show (S.rooms[((i : Nat) : Int).toNat]?).getD 0 = z; rw [Int.toNat_natCast, hz]; rfl
    have ep5 := f5.at0 (f4.at e3 (nin1 nsp.symm nin0))
    have e05 := f5.tup _ _ (f4.tup _ _ e03)
    walk_at "go"
    refine f_range (lo := 0) (n := S.nights.toNat) (fun j σ H' => (∃ v4 v5, σ = [some (.ref p), some (.ref s), some (.int (i : Nat)), some (.int z), v4, v5]) ∧ Fr [st] H5 H' ∧ H' st = some (.dT (cD (tabF (cellsK S.nights.toNat i ++ rowC j i) (rmC S))))) ⟨⟨_, _, rfl⟩, Fr.refl, by rw [show rowC 0 i = [] from rfl, List.append_nil]; exact e45⟩ ?_ ?_
    · rintro j σ H6 hj ⟨⟨v4, v5, rfl⟩, f6, e6⟩
      have ep6 := f6.at ep5 (nin1 nsp.symm nin0)
      have hl6 : (cD (tabF (cellsK S.nights.toNat i ++ rowC j i) (rmC S))).length ≤ 100000 := by
        rw [enD_len]; unfold tabF; rw [List.length_map, List.length_append]
        have h1 : (cellsK S.nights.toNat i).length ≤ 3 * 12 := by
          have key : ∀ (N k : Nat), (cellsK N k).length = k * N := by
            intro N k
            induction k with
            | zero => simp [cellsK]
            | succ k ih => rw [cellsK_succ, List.length_append, ih]; unfold rowC; rw [List.length_map, List.length_range, Nat.succ_mul]
          rw [key]
          exact Nat.mul_le_mul (by have := so.k3; omega) (by omega)
        have h2 : (rowC j i).length = j := by unfold rowC; rw [List.length_map, List.length_range]
        omega
      walk_at "go"
      rename_i q H7 n7 f7 e7
      rw [Int.zero_add] at e7
      have ep7 := f7.at0 ep6
      walk_at "go"
      refine g_rdp (k := ck ((i : Int), (j : Int))) (f7.at0 e6) e7 (szM (by omega)) fun H8 f8 e8 => ?_
      walk_at "go"
      refine ⟨⟨_, _, rfl⟩, (f6.then0 f7).transL f8, ?_⟩
      rw [e8, ← rz]
      have : rmC S ((i : Int), 0) = rmC S ((i : Int), (j : Int)) := rfl
      rw [this, tab_put (rmC S) new_cell, List.append_assoc, ← rowC_succ]
    · rintro σ H6 ⟨⟨v4, v5, rfl⟩, f6, e6⟩
      refine ⟨⟨_, _, _, _, rfl⟩, (f4.then0 f5).transL f6, ?_⟩
      rw [e6, ← cellsK_succ]
  · rintro σ H4 ⟨⟨v2, v3, v4, v5, rfl⟩, f4, e4⟩
    rw [List.length_map] at e4
    have ep4 := f4.at e3 (nin1 nsp.symm nin0)
    have e04 := f4.tup _ _ e03
    have al4 : AL H4 [st, p] := ⟨List.nodup_cons.mpr ⟨nin1 nsp nin0, by simp⟩, fun a ha => by
      rcases List.mem_cons.mp ha with q | q
      · rw [q]; exact ⟨_, e4⟩
      · rw [List.mem_singleton.mp q]; exact ⟨_, ep4⟩⟩
    have F4 : Fr [p] H H4 := F3.own1 f4 nst
    have fr4 : ∀ a ∈ [st, p], a = p ∨ H a = none := fun a ha => by
      rcases List.mem_cons.mp ha with q | q
      · rw [q]; exact .inr nst
      · exact .inl (List.mem_singleton.mp q)
    clear e1 e2 e23 e3 f1 f2 f3 F3 er3 e03 n2 f4
    walk_at "go"
    refine l_range (lo := 0) (n := (S.sellers).toNat) fun Dl H5 nD f5 e5 => ⟨fun i acc H' => ∃ bs : List Addr, acc = bs.map V.ref ∧ BksAt H' bs (List.replicate i []) ∧ Fr [] H4 H' ∧ AL H' (bs ++ [Dl, st, p]) ∧ ∀ b ∈ bs, H4 b = none, ⟨[], rfl, .nil, f5, al4.new f5 nD e5, fun _ h => (nomatch h)⟩, fun i acc H' hi ha ⟨bs, ea, hb, f, al, fr⟩ => ?_, fun acc H' ha ⟨bs, ea, hb, f, al, fr⟩ => ?_⟩
    · walk_at "go"
      refine ⟨rfl, ?_⟩
      walk_at "go"
      rename_i q H6 n6 f6 e6
      have hal : acc.length ≤ 100 := by rw [ea, List.length_map, Paired.length hb, List.length_replicate]; omega
      refine lcY_of (f6.at0 ha) (szM (by omega)) fun H7 f7 e7 => ⟨bs ++ [q], by rw [ea, List.map_append]; rfl, ?_, (f.then0 f6).own1 f7 nD, ?_, fun b hb' => ?_⟩
      · have nq : q ≠ Dl := (ne_of_none ha n6).symm
        have nDb : ∀ b ∈ bs, b ∉ [Dl] := fun b hb' z => (List.nodup_append.mp al.1).2.2 b hb' Dl (by simp) (List.mem_singleton.mp z)
        rw [List.replicate_succ']
        exact Paired.snoc (BksAt.fr (BksAt.fr hb f6 fun b _ => nin0) f7 nDb) (LsAt.nil (f7.at e6 (nin1 nq nin0)))
      · have a1 := al.new f6 n6 e6
        have a2 : AL H7 (q :: (bs ++ [Dl, st, p])) := ⟨a1.1, fun a ha' => by
          by_cases z : a = Dl
          · rw [z]; exact ⟨_, e7⟩
          · obtain ⟨o, eo⟩ := a1.2 a ha'; exact ⟨o, f7.at eo (nin1 z nin0)⟩⟩
        refine a2.perm ?_
        rw [List.append_assoc]
        exact (List.perm_middle).symm
      · rcases List.mem_append.mp hb' with z | z
        · exact fr b z
        · rw [List.mem_singleton.mp z]; exact f.free n6
    · have hp5 := f.at0 ep4
      walk_at "go"
      rename_i H6 f6 e6 qu H7 n7 f7 e7 H8 f8 e8 H9 f9 e9 ct H10 n10 f10 e10 H11 f11 e11 out H12 n12 f12 e12 H13 f13 e13
      have up : ∀ {l : List Addr} {H1 H2 : Hp} {e : HO}, AL H1 l → Fr [p] H1 H2 → H2 p = some e → AL H2 l := fun s f e => ⟨s.1, fun a ha => by
        by_cases z : a = p
        · rw [z]; exact ⟨_, e⟩
        · obtain ⟨o, eo⟩ := s.2 a ha; exact ⟨o, f.at eo (nin1 z nin0)⟩⟩
      have a6 := up al f6 e6
      have a7 := a6.new f7 n7 e7
      have a9 := up (up a7 f8 e8) f9 e9
      have a10 := a9.new f10 n10 e10
      have a11 := up a10 f11 e11
      have a12 := a11.new f12 n12 e12
      have a13 := up a12 f13 e13
      have F : Fr [p] H' H13 := ((((((f6.then0 f7).transL f8).transL f9).then0 f10).transL f11).then0 f12).transL f13
      have aos : AL H13 (HP.os ⟨p, st, Dl, qu, ct, out, bs⟩) := by
        refine a13.perm ?_
        show ([out, ct, qu] ++ (bs ++ [Dl, st, p])).Perm ([p, st, Dl, qu, ct, out] ++ bs)
        refine (List.Perm.append_left [out, ct, qu] (List.perm_append_comm (l₁ := bs) (l₂ := [Dl, st, p]))).trans ?_
        rw [← List.append_assoc]
        exact (List.reverse_perm [p, st, Dl, qu, ct, out]).append_right bs
      have nd := HNd.of aos.1
      have qf : ∀ {a : Addr}, H4 a = none → a ≠ p → H a = none := fun z np => F4.freeL z (nin1 np nin0)
      have nqu : H' qu = none := f6.freeL n7 (nin1 nd.p3.symm nin0)
      have nct : H' ct = none := (((f6.then0 f7).transL f8).transL f9).freeL n10 (nin1 nd.p4.symm nin0)
      have nout : H' out = none := (((((f6.then0 f7).transL f8).transL f9).then0 f10).transL f11).freeL n12 (nin1 nd.p5.symm nin0)
      rw [ea] at ha
      refine k ⟨p, st, Dl, qu, ct, out, bs⟩ H13 rfl ((F4.then0 f).transL F) (fun a ha' => ?_) ⟨⟨dx, .non, e13, ?_⟩, aos⟩
      · have ha' : a = p ∨ a = st ∨ a = Dl ∨ a = qu ∨ a = ct ∨ a = out ∨ a ∈ bs := by simpa [HP.os] using ha'
        rcases ha' with z | z | z | z | z | z | z
        · exact .inl z
        · rw [z]; exact .inr nst
        · rw [z]; exact .inr (qf nD nd.p2.symm)
        · rw [z]; exact .inr (qf (f.free nqu) nd.p3.symm)
        · rw [z]; exact .inr (qf (f.free nct) nd.p4.symm)
        · rw [z]; exact .inr (qf (f.free nout) nd.p5.symm)
        · exact .inr (qf (fr a z) fun w => nd.b0 (by rw [← w]; exact z))
      · refine ⟨F.at (f.at0 e4) (nin1 nd.p1.symm nin0), F.at ha (nin1 nd.p2.symm nin0), BksAt.fr hb F (nin_bs nd.b0), ?_, .non, ?_, ?_⟩
        · exact LsAt.nil (f13.at (f12.at0 (f11.at (f10.at0 (f9.at (f8.at e7 (nin1 nd.p3.symm nin0)) (nin1 nd.p3.symm nin0))) (nin1 nd.p3.symm nin0))) (nin1 nd.p3.symm nin0))
        · exact DkAt.nil (f13.at (f12.at0 (f11.at e10 (nin1 nd.p4.symm nin0))) (nin1 nd.p4.symm nin0))
        · exact LsAt.nil (f13.at e12 (nin1 nd.p5.symm nin0))
theorem ok_House_init {f : Addr} {fd : FuncData} (F : Fun K "__init__" "House.__init__" s_House_init f fd) (T : Txt K mg A)  : FnOk P w K mg base CX0 (1) f fd ["self", "setup"] (sp_House_init K A) := by
  refine F.ok sc_House_init (fun vs H Q E h => ?_) (fun cdv Ar outer s H vs Q E hr h => ⟨t_House_init K A, ?_, ?_⟩)
  · obtain ⟨x0, x1, rfl, _⟩ := h
    rfl
  · have hu := hu_of hr
    exact (pss_cons (ps_fld (pv 0) (pe_ix ix_tup (pv 1) pe_int (fun _ _ => rfl)) rfl)
    (pss_cons (ps_fld (pv 0) pe_dnewT rfl)
    (pss_cons (ps_for PassesOwn.never rfl (pi_enumT (by rfl) T.b_enumerate (pa_cons (pe_ix ix_tup (pv 1) pe_int (fun _ _ => rfl)) pa_nil)) (pg_tup rfl (pgs_cons (pg_name (i := 2) sc_House_init.nd rfl (Or.inl rfl)) (pgs_cons (pg_name (i := 3) sc_House_init.nd rfl (Or.inl rfl)) pgs_nil))) (pss_one (ps_for PassesOwn.never rfl (pi_range1 rfl T.b_range (pa_cons (pe_ix ix_tup (pv 1) pe_int (fun _ _ => rfl)) pa_nil)) (pg_name (i := 4) sc_House_init.nd rfl (Or.inl rfl)) (pss_one (ps_dput hu (pe_fld (pv 0) rfl) (pe_tup (pa_cons (pv 2) (pa_cons (pv 4) pa_nil))) (pv 3) rfl)))))
    (pss_cons (ps_fld (pv 0) (pe_lc (own := [("_", 5)]) (g := (gName 5)) (tt := tYes) rfl sc_House_init.nd (pi_range1 rfl T.b_range (pa_cons (pe_ix ix_tup (pv 1) pe_int (fun _ _ => rfl)) pa_nil)) (blkOk_by (N := ["self", "setup", "kind", "many", "night", "_"]) (sc := defScope s_House_init) (own := [("_", 5)]) (by decide +kernel)) (fun _ _ _ _ _ => (pg_name (i := 5) sc_House_init.nd rfl (Or.inl rfl))) (fun _ _ _ _ _ => pts_nil) (fun _ _ _ _ _ => (pe_lst pa_nil))) rfl)
    (pss_cons (ps_fld (pv 0) (pe_lst pa_nil) rfl)
    (pss_cons (ps_fld (pv 0) pe_non rfl)
    (pss_cons (ps_fld (pv 0) pe_dnewK rfl)
    (pss_one (ps_fld (pv 0) (pe_lst pa_nil) rfl)))))))))
  · obtain ⟨x0, x1, rfl, h⟩ := h
    exact pu_House_init T h

/-! ### the seller in the heap -/
def SellerAt (A : Ad) (H : Hp) (s : SP) (S : Setup) (num : Int) (M : SM) : Prop := (∃ dx sv clv, H s.p = some (.ins A.Seller dx (F_Seller sv num s.fr s.vo s.bk clv s.ask s.wt M.n s.out s.told)) ∧ Da H sv (setupD S) ∧ SCore H S s clv M) ∧ AL H s.os
theorem SellerAt.frm {A : Ad} {l : List Addr} {H H' : Hp} {s : SP} {S : Setup} {num : Int} {M : SM} (x : SellerAt A H s S num M) (f : Fr l H H') (n : ∀ a ∈ s.os, a ∉ l) : SellerAt A H' s S num M := by
  obtain ⟨⟨dx, sv, clv, e, d, c⟩, al⟩ := x
  exact ⟨⟨dx, sv, clv, f.at e (n _ (by simp [SP.os])), Da.frL f d (imm_setup S), c.frm f n⟩, al.1, fun a ha => by obtain ⟨o, q⟩ := al.2 a ha; exact ⟨o, f.at q (n a ha)⟩⟩
theorem SellerAt.f0 {A : Ad} {H H' : Hp} {s : SP} {S : Setup} {num : Int} {M : SM} (x : SellerAt A H s S num M) (f : Fr [] H H') : SellerAt A H' s S num M := x.frm f fun _ _ => nin0
theorem SellerAt.nd {A : Ad} {H : Hp} {s : SP} {S : Setup} {num : Int} {M : SM} (x : SellerAt A H s S num M) : SPNd s := SPNd.of x.2.1
/-- one place has been written -/
theorem SellerAt.up {A : Ad} {H H' : Hp} {s : SP} {S : Setup} {num : Int} {M M' : SM} {X : Addr} {u : HO} (x : SellerAt A H s S num M) (hp : s.p ≠ X) (f : Fr [X] H H') (e : H' X = some u) (c : ∀ clv, SCore H S s clv M → SCore H' S s clv M') (hn : M'.n = M.n) : SellerAt A H' s S num M' := by
  obtain ⟨⟨dx, sv, clv, ep, d, c0⟩, al⟩ := x
  refine ⟨⟨dx, sv, clv, by rw [hn]; exact f.at ep (nin1 hp nin0), Da.frL f d (imm_setup S), c clv c0⟩, al.1, fun a ha => ?_⟩
  by_cases z : a = X
  · rw [z]; exact ⟨_, e⟩
  · obtain ⟨o, q⟩ := al.2 a ha; exact ⟨o, f.at q (nin1 z nin0)⟩
section
variable {A : Ad} {H H' : Hp} {s : SP} {S : Setup} {num : Int} {M : SM}
theorem SellerAt.w_fr {v : Cell → Int} (x : SellerAt A H s S num M) (f : Fr [s.fr] H H') (e : H' s.fr = some (.dT (cD (stT S v)))) : SellerAt A H' s S num { M with fr := v } := x.up x.nd.p_fr f e (fun _ c => c.w_fr x.nd f e) rfl
theorem SellerAt.w_vo {v : List (Int × List Stay)} (x : SellerAt A H s S num M) (f : Fr [s.vo] H H') (e : DkAt H' s.vo (voD v)) : SellerAt A H' s S num { M with vo := v } := by
  obtain ⟨kvs, e1, _⟩ := id e
  exact x.up x.nd.p_vo f e1 (fun _ c => c.w_vo x.nd f e) rfl
theorem SellerAt.w_bk {v : List Row} (x : SellerAt A H s S num M) (f : Fr [s.bk] H H') (e : LsAt H' s.bk (v.map rowB)) : SellerAt A H' s S num { M with bk := v } := by
  obtain ⟨_, vs, e1, _⟩ := id e
  exact x.up x.nd.p_bk f e1 (fun _ c => c.w_bk x.nd f e) rfl
theorem SellerAt.w_ask {v : List (Int × Deed)} (x : SellerAt A H s S num M) (f : Fr [s.ask] H H') (e : DkAt H' s.ask (askT v)) : SellerAt A H' s S num { M with ask := v } := by
  obtain ⟨kvs, e1, _⟩ := id e
  exact x.up x.nd.p_ask f e1 (fun _ c => c.w_ask x.nd f e) rfl
theorem SellerAt.w_wt {v : List (Int × Deed)} (x : SellerAt A H s S num M) (f : Fr [s.wt] H H') (e : LsAt H' s.wt (v.map wtD)) : SellerAt A H' s S num { M with wt := v } := by
  obtain ⟨_, vs, e1, _⟩ := id e
  exact x.up x.nd.p_wt f e1 (fun _ c => c.w_wt x.nd f e) rfl
theorem SellerAt.w_out {v : List UpB} (x : SellerAt A H s S num M) (f : Fr [s.out] H H') (e : LsAt H' s.out (v.map upD)) : SellerAt A H' s S num { M with out := v } := by
  obtain ⟨_, vs, e1, _⟩ := id e
  exact x.up x.nd.p_out f e1 (fun _ c => c.w_out x.nd f e) rfl
theorem SellerAt.w_told {v : List (Int × Bool)} (x : SellerAt A H s S num M) (f : Fr [s.told] H H') (e : LsAt H' s.told (v.map tellD)) : SellerAt A H' s S num { M with told := v } := by
  obtain ⟨_, vs, e1, _⟩ := id e
  exact x.up x.nd.p_told f e1 (fun _ c => c.w_told x.nd f e) rfl
end
/-- behind a method that takes no new place -/
def SStep (A : Ad) (H : Hp) (s : SP) (S : Setup) (num : Int) (M : SM) (Q : Hp → Prop) : Prop := ∀ H' : Hp, Fr s.os H H' → SellerAt A H' s S num M → Q H'
theorem SStep.pre {A : Ad} {H H1 : Hp} {s : SP} {S : Setup} {num : Int} {M : SM} {Q : Hp → Prop} (k : SStep A H s S num M Q) (f : Fr s.os H H1) : SStep A H1 s S num M Q := fun H' f' x => k H' (f.transL f') x
def SM.start : SM := ⟨fun _ => 0, [], [], none, [], [], 0, [], []⟩
theorem SM.start_ok {S : Setup} : SM.start.Ok S := ⟨fun _ h => (nomatch h), List.nodup_nil, fun _ h => (nomatch h), List.nodup_nil, fun _ h => (nomatch h), fun _ h => (nomatch h), fun _ h => (by cases h)⟩
def P_Seller_init (K : PySem.W.Frag) (A : Ad) (x0 x1 x2 : V) (H : Hp) (Q : VK) : Prop := ∃ (p dx : Addr) (S : Setup) (num : Int), x0 = .ref p ∧ H p = some (.ins A.Seller dx []) ∧ Da H x1 (setupD S) ∧ x2 = .int num ∧ SetupOk S ∧
  ∀ (s : SP) (H' : Hp), s.p = p → Fr [p] H H' → (∀ a ∈ s.os, a = p ∨ H a = none) → SellerAt A H' s S num SM.start → Q .non H'
def sp_Seller_init (K : PySem.W.Frag) (A : Ad) : Sp := fun vs H Q _ => ∃ x0 x1 x2, vs = [x0, x1, x2] ∧ P_Seller_init K A x0 x1 x2 H Q
theorem c_Seller_init {K : PySem.W.Frag} {A : Ad} {x0 x1 x2 : V} {H : Hp} {Q : VK} {E : XK} (h : P_Seller_init K A x0 x1 x2 H Q) : sp_Seller_init K A [x0, x1, x2] H Q E := ⟨_, _, _, rfl, h⟩
theorem sc_Seller_init : FnScope ["self", "setup", "number", "kind", "night"] ["self", "setup", "number"] (defScope s_Seller_init) := ⟨rfl, rfl, rfl, by decide +kernel, rfl, by decide +kernel, by decide +kernel⟩
def t_Seller_init (K : PySem.W.Frag) (A : Ad) : TS :=
  (tSeq (sFld K (tVar 0) (tVar 1) "setup")
    (tSeq (sFld K (tVar 0) (tVar 2) "number")
    (tSeq (sFld K (tVar 0) tDNewT "free")
    (tSeq (tFor (iRng1 (tCons (tCB (rLenSq K) (tCons (tOp (rIxT K) (tVar 1) (tC (.int 0))) tNil)) tNil)) (gName 3) (tFor (iRng1 (tCons (tOp (rIxT K) (tVar 1) (tC (.int 1))) tNil)) (gName 4) (sDPut (tFld K (tVar 0) "free") (tTup (tCons (tVar 3) (tCons (tVar 4) tNil))) (tC (.int 0)))))
    (tSeq (sFld K (tVar 0) tDNewK "vouchers")
    (tSeq (sFld K (tVar 0) (tLst tNil) "book")
    (tSeq (sFld K (tVar 0) (tC .non) "closing")
    (tSeq (sFld K (tVar 0) tDNewK "asked")
    (tSeq (sFld K (tVar 0) (tLst tNil) "waiting")
    (tSeq (sFld K (tVar 0) (tC (.int 0)) "count")
    (tSeq (sFld K (tVar 0) (tLst tNil) "outgoing")
    (sFld K (tVar 0) (tLst tNil) "told"))))))))))))
theorem pu_Seller_init (T : Txt K mg A) {x0 x1 x2 : V} {H : Hp} {Q : VK} (h : P_Seller_init K A x0 x1 x2 H Q) : t_Seller_init K A { nx := fun _ H' => Q .non H', rt := Q } [some x0, some x1, some x2, none, none] H := by
  obtain ⟨p, dx, S, num, rfl, hp, dS, rfl, so, k⟩ := h
  obtain ⟨s, r, pp, prs, sa⟩ := SetAt.of dS
  cases sa.e
  have e0 := sa.t
  have er := sa.r
  have hn := so.n1
  have hn2 := so.n2
  have hk := so.k1
  unfold t_Seller_init
  walk_at "go"
  rename_i H1 f1 e1 H2 f2 e2 st H3 n3 f3 e3 H4 f4 e4
  have nsp : st ≠ p := (ne_of_none e2 n3).symm
  have e34 := f4.at e3 (nin1 nsp nin0)
  have F4 : Fr [p] H H4 := ((f1.transL f2).then0 f3).transL f4
  have er4 := F4.tup _ _ er
  have e04 := F4.tup _ _ e0
  have nst : H st = none := f1.freeL (f2.freeL n3 (nin1 nsp nin0)) (nin1 nsp nin0)
  have rl : (S.rooms.map V.int).length = S.rooms.length := List.length_map _
  have hk3 := so.k3
  rw [rl]
  refine g_ri1 ⟨by omega, by omega⟩ ?_
  rw [Int.toNat_natCast]
  refine f_range (lo := 0) (n := S.rooms.length) (fun i σ H' => (∃ v3 v4, σ = [some (.ref p), some (.ref s), some (.int num), v3, v4]) ∧ Fr [st] H4 H' ∧ H' st = some (.dT (cD (tabF (cellsK S.nights.toNat i) fun _ => 0)))) ⟨⟨_, _, rfl⟩, Fr.refl, e34⟩ ?_ ?_
  · rintro i σ H5 hi ⟨⟨v3, v4, rfl⟩, f5, e5⟩
    have ep5 := f5.at e4 (nin1 nsp.symm nin0)
    have e05 := f5.tup _ _ e04
    walk_at "go"
    simp only [Int.zero_add]
    refine f_range (lo := 0) (n := S.nights.toNat) (fun j σ H' => (∃ v4, σ = [some (.ref p), some (.ref s), some (.int num), some (.int (i : Nat)), v4]) ∧ Fr [st] H5 H' ∧ H' st = some (.dT (cD (tabF (cellsK S.nights.toNat i ++ rowC j i) fun _ => 0)))) ⟨⟨_, rfl⟩, Fr.refl, by rw [show rowC 0 i = [] from rfl, List.append_nil]; exact e5⟩ ?_ ?_
    · rintro j σ H6 hj ⟨⟨v4, rfl⟩, f6, e6⟩
      have ep6 := f6.at ep5 (nin1 nsp.symm nin0)
      have hl6 : (cD (tabF (cellsK S.nights.toNat i ++ rowC j i) fun _ => 0)).length ≤ 100000 := by
        rw [enD_len]; unfold tabF; rw [List.length_map, List.length_append]
        have h1 : (cellsK S.nights.toNat i).length ≤ 3 * 12 := by
          have key : ∀ (N k : Nat), (cellsK N k).length = k * N := by
            intro N k
            induction k with
            | zero => simp [cellsK]
            | succ k ih => rw [cellsK_succ, List.length_append, ih]; unfold rowC; rw [List.length_map, List.length_range, Nat.succ_mul]
          rw [key]
          exact Nat.mul_le_mul (by have := so.k3; omega) (by omega)
        have h2 : (rowC j i).length = j := by unfold rowC; rw [List.length_map, List.length_range]
        omega
      walk_at "go"
      rename_i q H7 n7 f7 e7
      rw [Int.zero_add] at e7
      have ep7 := f7.at0 ep6
      walk_at "go"
      refine g_rdp (k := ck ((i : Int), (j : Int))) (f7.at0 e6) e7 (szM (by omega)) fun H8 f8 e8 => ?_
      refine ⟨⟨_, rfl⟩, (f6.then0 f7).transL f8, ?_⟩
      rw [e8]
      have := tab_put (fun _ => 0) (new_cell (N := S.nights.toNat) (i := i) (j := j))
      rw [this, List.append_assoc, ← rowC_succ]
    · rintro σ H6 ⟨⟨v4, rfl⟩, f6, e6⟩
      refine ⟨⟨_, _, rfl⟩, f5.transL f6, ?_⟩
      rw [e6, ← cellsK_succ]
  · rintro σ H5 ⟨⟨v3, v4, rfl⟩, f5, e5⟩
    have ep5 := f5.at e4 (nin1 nsp.symm nin0)
    have al5 : AL H5 [st, p] := ⟨List.nodup_cons.mpr ⟨nin1 nsp nin0, by simp⟩, fun a ha => by
      rcases List.mem_cons.mp ha with q | q
      · rw [q]; exact ⟨_, e5⟩
      · rw [List.mem_singleton.mp q]; exact ⟨_, ep5⟩⟩
    have F5 : Fr [p] H H5 := F4.own1 f5 nst
    clear e1 e2 e34 e3 f1 f2 f3 f4 F4 er4 e04 n3 f5 rl
    walk_at "go"
    rename_i vo H6 n6 f6 e6 H7 f7 e7 bk H8 n8 f8 e8 H9 f9 e9 H10 f10 e10 ak H11 n11 f11 e11 H12 f12 e12 wt H13 n13 f13 e13 H14 f14 e14 H15 f15 e15 ou H16 n16 f16 e16 H17 f17 e17 td H18 n18 f18 e18 H19 f19 e19
    have up : ∀ {Ha Hb : Hp} {l : List Addr} {u : HO}, AL Ha l → Fr [p] Ha Hb → Hb p = some u → AL Hb l := fun x f e => ⟨x.1, fun a ha => by
      by_cases z : a = p
      · rw [z]; exact ⟨_, e⟩
      · obtain ⟨o, q⟩ := x.2 a ha; exact ⟨o, f.at q (nin1 z nin0)⟩⟩
    have a7 := up (al5.new f6 n6 e6) f7 e7
    have a10 := up (up (a7.new f8 n8 e8) f9 e9) f10 e10
    have a12 := up (a10.new f11 n11 e11) f12 e12
    have a15 := up (up (a12.new f13 n13 e13) f14 e14) f15 e15
    have a17 := up (a15.new f16 n16 e16) f17 e17
    have a19 := up (a17.new f18 n18 e18) f19 e19
    have aos : AL H19 (SP.os ⟨p, st, vo, bk, ak, wt, ou, td⟩) := a19.perm (List.reverse_perm [p, st, vo, bk, ak, wt, ou, td])
    have nd := SPNd.of aos.1
    have F7 : Fr [p] H H7 := (F5.then0 f6).transL f7
    have F10 : Fr [p] H H10 := ((F7.then0 f8).transL f9).transL f10
    have F12 : Fr [p] H H12 := (F10.then0 f11).transL f12
    have F15 : Fr [p] H H15 := ((F12.then0 f13).transL f14).transL f15
    have F17 : Fr [p] H H17 := (F15.then0 f16).transL f17
    have F19 : Fr [p] H H19 := (F17.then0 f18).transL f19
    have G17 : Fr [p] H16 H19 := (f17.then0 f18).transL f19
    have G15 : Fr [p] H13 H19 := ((f14.transL f15).then0 f16).transL G17
    have G12 : Fr [p] H11 H19 := (f12.then0 f13).transL G15
    have G9 : Fr [p] H8 H19 := ((f9.transL f10).then0 f11).transL G12
    have G7 : Fr [p] H6 H19 := (f7.then0 f8).transL G9
    have np : ∀ {a : Addr}, a ≠ p → a ∉ [p] := fun q => nin1 q nin0
    refine k ⟨p, st, vo, bk, ak, wt, ou, td⟩ H19 rfl F19 (fun a ha => ?_) ⟨⟨dx, .ref s, .non, e19, Da.frL F19 dS (imm_setup S), ⟨(f6.pre0 G7).at e5 (np nd.p_fr.symm), ?_, ?_, ?_, ?_, ?_, ?_, .non⟩⟩, aos⟩
    · have ha' : a = p ∨ a = st ∨ a = vo ∨ a = bk ∨ a = ak ∨ a = wt ∨ a = ou ∨ a = td := by simpa [SP.os] using ha
      rcases ha' with z | z | z | z | z | z | z | z
      · exact .inl z
      · rw [z]; exact .inr nst
      · rw [z]; exact .inr (F5.freeL n6 (np nd.p_vo.symm))
      · rw [z]; exact .inr (F7.freeL n8 (np nd.p_bk.symm))
      · rw [z]; exact .inr (F10.freeL n11 (np nd.p_ask.symm))
      · rw [z]; exact .inr (F12.freeL n13 (np nd.p_wt.symm))
      · rw [z]; exact .inr (F15.freeL n16 (np nd.p_out.symm))
      · rw [z]; exact .inr (F17.freeL n18 (np nd.p_told.symm))
    · exact DkAt.nil (G7.at e6 (np nd.p_vo.symm))
    · exact LsAt.nil (G9.at e8 (np nd.p_bk.symm))
    · exact DkAt.nil (G12.at e11 (np nd.p_ask.symm))
    · exact LsAt.nil (G15.at e13 (np nd.p_wt.symm))
    · exact LsAt.nil (G17.at e16 (np nd.p_out.symm))
    · exact LsAt.nil (f19.at e18 (np nd.p_told.symm))
theorem ok_Seller_init {f : Addr} {fd : FuncData} (F : Fun K "__init__" "Seller.__init__" s_Seller_init f fd) (T : Txt K mg A)  : FnOk P w K mg base CX0 (1) f fd ["self", "setup", "number"] (sp_Seller_init K A) := by
  refine F.ok sc_Seller_init (fun vs H Q E h => ?_) (fun cdv Ar outer s H vs Q E hr h => ⟨t_Seller_init K A, ?_, ?_⟩)
  · obtain ⟨x0, x1, x2, rfl, _⟩ := h
    rfl
  · have hu := hu_of hr
    exact (pss_cons (ps_fld (pv 0) (pv 1) rfl)
    (pss_cons (ps_fld (pv 0) (pv 2) rfl)
    (pss_cons (ps_fld (pv 0) pe_dnewT rfl)
    (pss_cons (ps_for PassesOwn.never rfl (pi_range1 rfl T.b_range (pa_cons (pe_callB b_len (by rfl) T.b_len (by decide +kernel) (pa_cons (pe_ix ix_tup (pv 1) pe_int (fun _ _ => rfl)) pa_nil)) pa_nil)) (pg_name (i := 3) sc_Seller_init.nd rfl (Or.inl rfl)) (pss_one (ps_for PassesOwn.never rfl (pi_range1 rfl T.b_range (pa_cons (pe_ix ix_tup (pv 1) pe_int (fun _ _ => rfl)) pa_nil)) (pg_name (i := 4) sc_Seller_init.nd rfl (Or.inl rfl)) (pss_one (ps_dput hu (pe_fld (pv 0) rfl) (pe_tup (pa_cons (pv 3) (pa_cons (pv 4) pa_nil))) pe_int rfl)))))
    (pss_cons (ps_fld (pv 0) pe_dnewK rfl)
    (pss_cons (ps_fld (pv 0) (pe_lst pa_nil) rfl)
    (pss_cons (ps_fld (pv 0) pe_non rfl)
    (pss_cons (ps_fld (pv 0) pe_dnewK rfl)
    (pss_cons (ps_fld (pv 0) (pe_lst pa_nil) rfl)
    (pss_cons (ps_fld (pv 0) pe_int rfl)
    (pss_cons (ps_fld (pv 0) (pe_lst pa_nil) rfl)
    (pss_one (ps_fld (pv 0) (pe_lst pa_nil) rfl)))))))))))))
  · obtain ⟨x0, x1, x2, rfl, h⟩ := h
    exact pu_Seller_init T h

/-! ### a world as plain data -/
structure WrM (β : Type) where
  sent : Nat
  box : List (Nat × β)
  exp : Nat
def WrM.start {β : Type} : WrM β := ⟨0, [], 0⟩
/-- letters: a body up to the house, down to a seller, an ack for the house, for a seller -/
inductive Let
  | up (s n : Nat) (b : UpB)
  | dn (s n : Nat) (b : DnB)
  | aup (s : Nat) (n : Int)
  | adn (s : Nat) (n : Int)
inductive Ev
  | asked (s : Nat) (n : Nat) (d : Deed)
  | told (s : Nat) (n : Int) (g : Bool)
structure WM where
  h : HM
  ss : List SM
  hw : List (WrM DnB)
  sw : List (WrM UpB)
  net : List Let
  hist : List Ev
  down : List Bool
  deeds : List (List Deed)
  asked : List Nat
def letD : Let → PyData
  | .up s n b => .tuple [.int (-1), .int s, .str "data", .int n, upD b]
  | .dn s n b => .tuple [.int s, .int (-1), .str "data", .int n, dnD b]
  | .aup s n => .tuple [.int (-1), .int s, .str "ack", .int n]
  | .adn s n => .tuple [.int s, .int (-1), .str "ack", .int n]
def evD : Ev → PyData
  | .asked s n d => .tuple [.str "asked", .int s, .int n, deedD d]
  | .told s n g => .tuple [.str "told", .int s, .int n, .bool g]
def boxD {β : Type} (f : β → PyData) (l : List (Nat × β)) : List PyData := l.map fun e => .tuple [.int e.1, f e.2]
theorem imm_let (x : Let) : imm (letD x) = true := by
  cases x with
  | up s n b =>
    show (true && (true && (true && (true && (imm (upD b) && true))))) = true
    rw [imm_up]; rfl
  | dn s n b =>
    show (true && (true && (true && (true && (imm (dnD b) && true))))) = true
    rw [imm_dn]; rfl
  | aup s n => rfl
  | adn s n => rfl
theorem imm_ev (x : Ev) : imm (evD x) = true := by
  cases x with
  | asked s n d =>
    show (true && (true && (true && (imm (deedD d) && true)))) = true
    rw [imm_deed]; rfl
  | told s n g => rfl
/-- a deed's name is an earlier one -/
def NameLt (i : Nat) : Deed → Prop
  | .wish _ => True
  | .cancel k => 0 ≤ k ∧ k < i
  | .change k _ => 0 ≤ k ∧ k < i
def DeedsOk (S : Setup) (D : List (List Deed)) : Prop := D.length = S.sellers.toNat ∧ ∀ r ∈ D, ∀ (i : Nat) (d : Deed), r[i]? = some d → DeedOk S d ∧ NameLt i d
def WM.start (S : Setup) (D : List (List Deed)) : WM :=
  let n := S.sellers.toNat
  ⟨HM.start S, List.replicate n SM.start, List.replicate n WrM.start, List.replicate n WrM.start, [], [], List.replicate (n + 1) false, D, List.replicate n 0⟩
/-! ### what of data is a deed that may stand at a place -/
def nameOk (i : Nat) : PyData → Bool
  | .tuple (.str "wish" :: _) => true
  | .tuple (_ :: .int k :: _) => decide (k < i)
  | _ => false
def RowsOk (S : Setup) (dss : List (List PyData)) : Prop := dss.length = S.sellers.toNat ∧ ∀ ds ∈ dss, ∀ (i : Nat) (e : PyData), ds[i]? = some e → isDd S.rooms.length S.nights e = true ∧ nameOk i e = true
theorem all_ints {lo hi : Int} : ∀ {ds : List PyData}, ds.all (isF lo hi) = true → ∃ zs : List Int, ds = zs.map .int ∧ ∀ z ∈ zs, lo ≤ z ∧ z ≤ hi
  | [], _ => ⟨[], rfl, fun _ h => (nomatch h)⟩
  | d :: ds, h => by
    rw [List.all_cons, Bool.and_eq_true] at h
    obtain ⟨i, rfl, h1, h2⟩ := isF_int h.1
    obtain ⟨zs, rfl, h3⟩ := all_ints h.2
    exact ⟨i :: zs, rfl, fun z hz => (List.mem_cons.mp hz).elim (fun e => e ▸ ⟨h1, h2⟩) (h3 z)⟩
theorem all_rows {n : Int} : ∀ {ds : List PyData}, ds.all (rowOk n) = true → ∃ rs : List (List Int), ds = rs.map rowD ∧ ∀ r ∈ rs, (r.length : Int) = n ∧ ∀ z ∈ r, 0 ≤ z ∧ z ≤ 1000000
  | [], _ => ⟨[], rfl, fun _ h => (nomatch h)⟩
  | d :: ds, h => by
    rw [List.all_cons, Bool.and_eq_true] at h
    obtain ⟨rs, rfl, h3⟩ := all_rows h.2
    cases d with
    | tuple r =>
      have h1 : (decide ((r.length : Int) = n) && r.all (isF 0 1000000)) = true := h.1
      rw [Bool.and_eq_true, decide_eq_true_eq] at h1
      obtain ⟨zs, rfl, h4⟩ := all_ints h1.2
      exact ⟨zs :: rs, rfl, fun z hz => (List.mem_cons.mp hz).elim (fun e => e ▸ ⟨by rw [← h1.1, List.length_map], h4⟩) (h3 z)⟩
    | _ => exact absurd h.1 (by simp [rowOk])
theorem isSet_setup {d : PyData} (h : isSet d = true) : ∃ S, SetupOk S ∧ d = setupD S := by
  cases d with
  | tuple ds =>
    match ds, h with
    | [r, n, s, p, q], h =>
      have h : (roomsOk r && (isF 1 12 n && isF 1 4 s) && (pricesOk (lenOf r) (intOf n) p && isF 0 100 q)) = true := h
      simp only [Bool.and_eq_true] at h
      obtain ⟨⟨hr, hn, hs⟩, hp, hq⟩ := h
      cases r with
      | tuple rs =>
        have hr : (decide (1 ≤ (rs.length : Int)) && decide ((rs.length : Int) ≤ 3) && rs.all (isF 0 4)) = true := hr
        simp only [Bool.and_eq_true, decide_eq_true_eq] at hr
        obtain ⟨⟨r1, r3⟩, r4⟩ := hr
        obtain ⟨zs, rfl, z4⟩ := all_ints r4
        obtain ⟨nn, rfl, n1, n2⟩ := isF_int hn
        obtain ⟨ns, rfl, s1, s2⟩ := isF_int hs
        obtain ⟨nq, rfl, q1, q2⟩ := isF_int hq
        cases p with
        | tuple ps =>
          have hp : (decide ((ps.length : Int) = ((zs.map PyData.int).length : Int)) && ps.all (rowOk nn)) = true := hp
          simp only [Bool.and_eq_true, decide_eq_true_eq] at hp
          obtain ⟨rows, rfl, p4⟩ := all_rows hp.2
          rw [List.length_map] at r1 r3
          have hpl := hp.1
          rw [List.length_map, List.length_map] at hpl
          exact ⟨⟨zs, nn, ns, rows, nq⟩, ⟨by show 1 ≤ zs.length; omega, by show zs.length ≤ 3; omega, z4, n1, n2, s1, s2, by show rows.length = zs.length; omega, fun r hr => ⟨by have := (p4 r hr).1; show r.length = nn.toNat; omega, (p4 r hr).2⟩, q1, q2⟩, rfl⟩
        | _ => exact absurd hp (by simp [pricesOk])
      | _ => exact absurd hr (by simp [roomsOk])
  | _ => exact absurd h (by simp [isSet])
/-! deeds among data -/
theorem isPty_party {k n : Int} {d : PyData} (h : isPty k n d = true) : ∃ ss : List Stay, d = partyD ss ∧ ss.length ≤ 4 ∧ ∀ s ∈ ss, isSt k n (stayD s) = true := by
  cases d with
  | tuple ds =>
    have h : (decide (1 ≤ (ds.length : Int)) && decide ((ds.length : Int) ≤ 4) && ds.all (isSt k n) && PyData.eqv (.list ds) (.list (srt ds))) = true := h
    simp only [Bool.and_eq_true, decide_eq_true_eq] at h
    obtain ⟨⟨⟨_, h4⟩, ha⟩, _⟩ := h
    obtain ⟨ss, rfl⟩ := all_stays ha
    rw [List.length_map] at h4
    exact ⟨ss, rfl, by omega, fun s hs => List.all_eq_true.mp ha _ (List.mem_map.mpr ⟨s, hs, rfl⟩)⟩
  | _ => cases h
theorem isSt_ok {S : Setup} {s : Stay} (h : isSt S.rooms.length S.nights (stayD s) = true) : StayOk S s := by
  have h : (isF 0 ((S.rooms.length : Int) - 1) (.int s.1) && isF 0 (S.nights - 1) (.int s.2.1) && isF (s.2.1 + 1) S.nights (.int s.2.2)) = true := h
  simp only [Bool.and_eq_true, isF, decide_eq_true_eq] at h
  obtain ⟨⟨⟨a, b⟩, c, d⟩, e, f⟩ := h
  exact ⟨a, by omega, c, by omega, f⟩
theorem pty_of {S : Setup} {d : PyData} (h : isPty S.rooms.length S.nights d = true) : ∃ ss : List Stay, d = partyD ss ∧ PtyOk S ss := by
  obtain ⟨ss, e, h4, ha⟩ := isPty_party h
  exact ⟨ss, e, fun s hs => isSt_ok (ha s hs), h4⟩
theorem isDd_deed {S : Setup} {e : PyData} (h : isDd S.rooms.length S.nights e = true) : ∃ d : Deed, e = deedD d ∧ DeedOk S d ∧ ∀ i : Nat, nameOk i e = true ↔ NameLt i d := by
  cases e with
  | tuple ds =>
    cases ds with
    | nil => cases h
    | cons hd r =>
      have h : (if PyData.eqv hd (.str "wish") = true then dWish S.rooms.length S.nights r else if PyData.eqv hd (.str "cancel") = true then dCan r else if PyData.eqv hd (.str "change") = true then dChg S.rooms.length S.nights r else false) = true := h
      split at h
      · rename_i c
        cases eqv_str c
        match r, h with
        | [p], h =>
          obtain ⟨ss, rfl, hp⟩ := pty_of (show isPty _ _ p = true from h)
          exact ⟨.wish ss, rfl, hp, fun i => ⟨fun _ => trivial, fun _ => rfl⟩⟩
      · split at h
        · rename_i c
          cases eqv_str c
          match r, h with
          | [z], h =>
            have h : (isI z && decide (0 ≤ intOf z)) = true := h
            rw [Bool.and_eq_true, decide_eq_true_eq] at h
            cases z with
            | int k =>
              have hk : 0 ≤ k := h.2
              refine ⟨.cancel k, rfl, trivial, fun i => ?_⟩
              show decide (k < i) = true ↔ 0 ≤ k ∧ k < i
              rw [decide_eq_true_eq]; exact ⟨fun q => ⟨hk, q⟩, fun q => q.2⟩
            | _ => exact absurd h.1 (by simp [isI])
        · split at h
          · rename_i c
            cases eqv_str c
            match r, h with
            | [z, p], h =>
              have h : (isI z && decide (0 ≤ intOf z) && isPty _ _ p) = true := h
              rw [Bool.and_eq_true, Bool.and_eq_true, decide_eq_true_eq] at h
              obtain ⟨ss, rfl, hp⟩ := pty_of h.2
              cases z with
              | int k =>
                have hk : 0 ≤ k := h.1.2
                refine ⟨.change k ss, rfl, hp, fun i => ?_⟩
                show decide (k < i) = true ↔ 0 ≤ k ∧ k < i
                rw [decide_eq_true_eq]; exact ⟨fun q => ⟨hk, q⟩, fun q => q.2⟩
              | _ => exact absurd h.1.1 (by simp [isI])
          · cases h
  | _ => cases h
theorem row_deeds {S : Setup} : ∀ {ds : List PyData} {n : Nat}, (∀ (i : Nat) (e : PyData), ds[i]? = some e → isDd S.rooms.length S.nights e = true ∧ nameOk (n + i) e = true) → ∃ r : List Deed, ds = r.map deedD ∧ ∀ (i : Nat) (d : Deed), r[i]? = some d → DeedOk S d ∧ NameLt (n + i) d
  | [], _, _ => ⟨[], rfl, fun i d h => by simp at h⟩
  | e :: ds, n, h => by
    obtain ⟨h1, h2⟩ := h 0 e rfl
    obtain ⟨d, rfl, hd, hn⟩ := isDd_deed h1
    obtain ⟨r, rfl, hr⟩ := row_deeds (ds := ds) (n := n + 1) fun i e' he => by
      have := h (i + 1) e' (by simpa using he)
      rwa [show n + (i + 1) = n + 1 + i by omega] at this
    refine ⟨d :: r, rfl, fun i d' hi => ?_⟩
    cases i with
    | zero => cases Option.some.inj hi; exact ⟨hd, (hn n).mp h2⟩
    | succ i =>
      have := hr i d' (by simpa using hi)
      rwa [show n + (i + 1) = n + 1 + i by omega]
theorem rows_deeds {S : Setup} {dss : List (List PyData)} (h : RowsOk S dss) : ∃ D : List (List Deed), dss = D.map (fun r => r.map deedD) ∧ DeedsOk S D := by
  have key : ∀ dss : List (List PyData), (∀ ds ∈ dss, ∀ (i : Nat) (e : PyData), ds[i]? = some e → isDd S.rooms.length S.nights e = true ∧ nameOk i e = true) → ∃ D : List (List Deed), dss = D.map (fun r => r.map deedD) ∧ ∀ r ∈ D, ∀ (i : Nat) (d : Deed), r[i]? = some d → DeedOk S d ∧ NameLt i d := by
    intro dss
    induction dss with
    | nil => intro _; exact ⟨[], rfl, fun _ h => (nomatch h)⟩
    | cons ds dss ih =>
      intro h
      obtain ⟨D, rfl, hD⟩ := ih fun x hx => h x (List.mem_cons_of_mem _ hx)
      obtain ⟨r, rfl, hr⟩ := row_deeds (S := S) (ds := ds) (n := 0) fun i e he => by rw [Nat.zero_add]; exact h ds List.mem_cons_self i e he
      refine ⟨r :: D, rfl, fun x hx => ?_⟩
      rcases List.mem_cons.mp hx with q | q
      · rw [q]; intro i d hi; have := hr i d hi; rwa [Nat.zero_add] at this
      · exact hD x q
  obtain ⟨D, rfl, hD⟩ := key dss h.2
  exact ⟨D, rfl, by rw [← h.1, List.length_map], hD⟩

/-! ### a world in the heap -/
structure WrP where
  p : Addr
  box : Addr
def WrP.os (w : WrP) : List Addr := [w.p, w.box]
def WrAt (A : Ad) (H : Hp) (w : WrP) (sent exp : Nat) (ps : List PyData) : Prop := (∃ dx, H w.p = some (.ins A.Wire dx (F_Wire sent w.box exp))) ∧ LsAt H w.box ps
theorem WrAt.fr {A : Ad} {l : List Addr} {H H' : Hp} {w : WrP} {sent exp : Nat} {ps : List PyData} (x : WrAt A H w sent exp ps) (f : Fr l H H') (n : ∀ a ∈ w.os, a ∉ l) : WrAt A H' w sent exp ps := by
  obtain ⟨⟨dx, e⟩, q⟩ := x
  exact ⟨⟨dx, f.at e (n _ (by simp [WrP.os]))⟩, q.fr f (n _ (by simp [WrP.os]))⟩
theorem WrAt.ne {A : Ad} {H : Hp} {w : WrP} {sent exp : Nat} {ps : List PyData} (x : WrAt A H w sent exp ps) : w.box ≠ w.p := by
  obtain ⟨⟨dx, e⟩, _, vs, e2, _⟩ := x
  exact ne_of e2 e (by intro z; cases z)
structure WP where
  p : Addr
  net : Addr
  hist : Addr
  down : Addr
  deeds : Addr
  asked : Addr
  sel : Addr
  hw : Addr
  sw : Addr
  ds : List Addr
  h : HP
  ss : List SP
  hws : List WrP
  sws : List WrP
inductive Rg
  | self | net | hist | down | deeds | asked | sel | hw | sw | house
  | seller (i : Nat)
  | hwire (i : Nat)
  | swire (i : Nat)
  | row (i : Nat)
  deriving DecidableEq
def ads {α : Type} (f : α → List Addr) : Option α → List Addr
  | none => []
  | some x => f x
def WP.reg (w : WP) : Rg → List Addr
  | .self => [w.p]
  | .net => [w.net]
  | .hist => [w.hist]
  | .down => [w.down]
  | .deeds => [w.deeds]
  | .asked => [w.asked]
  | .sel => [w.sel]
  | .hw => [w.hw]
  | .sw => [w.sw]
  | .house => w.h.os
  | .seller i => ads SP.os w.ss[i]?
  | .hwire i => ads WrP.os w.hws[i]?
  | .swire i => ads WrP.os w.sws[i]?
  | .row i => ads (fun a => [a]) w.ds[i]?
/-- pieces apart from one another -/
structure Owns (H : Hp) (g : Rg → List Addr) : Prop where
  al : ∀ r a, a ∈ g r → ∃ o, H a = some o
  dj : ∀ r r' a, a ∈ g r → a ∈ g r' → r = r'
theorem Owns.grow {H H' : Hp} {g g' : Rg → List Addr} (o : Owns H g) (r0 : Rg) (h0 : ∀ a, a ∈ g' r0 → a ∈ g r0 ∨ H a = none) (hr : ∀ r, r ≠ r0 → ∀ a, a ∈ g' r → a ∈ g r) (al : ∀ r a, a ∈ g' r → ∃ o, H' a = some o) : Owns H' g' := by
  have key : ∀ r a, a ∈ g' r → a ∈ g r ∨ (r = r0 ∧ H a = none) := fun r a h => by
    by_cases z : r = r0
    · rw [z] at h
      rcases h0 a h with q | q
      · rw [z]; exact .inl q
      · exact .inr ⟨z, q⟩
    · exact .inl (hr r z a h)
  refine ⟨al, fun r r' a h h' => ?_⟩
  rcases key r a h with q | ⟨q, n⟩
  · rcases key r' a h' with q' | ⟨q', n'⟩
    · exact o.dj r r' a q q'
    · obtain ⟨u, e⟩ := o.al r a q; rw [n'] at e; cases e
  · rcases key r' a h' with q' | ⟨q', n'⟩
    · obtain ⟨u, e⟩ := o.al r' a q'; rw [n] at e; cases e
    · rw [q, q']
theorem Owns.nin {H : Hp} {g : Rg → List Addr} (o : Owns H g) {r r' : Rg} (n : r ≠ r') : ∀ a ∈ g r, a ∉ g r' := fun a h q => n (o.dj r r' a h q)
/-- the content of a piece -/
def Pc (A : Ad) (H : Hp) (S : Setup) (w : WP) (M : WM) : Rg → Prop
  | .self => ∃ dx sv, H w.p = some (.ins A.World dx (F_World sv w.h.p w.sel w.net w.hist w.down w.deeds w.asked w.hw w.sw)) ∧ Da H sv (setupD S)
  | .net => LsAt H w.net (M.net.map letD)
  | .hist => LsAt H w.hist (M.hist.map evD)
  | .down => LsAt H w.down (M.down.map .bool)
  | .deeds => H w.deeds = some (.lst (w.ds.map V.ref)) ∧ w.ds.length = M.deeds.length
  | .asked => LsAt H w.asked (M.asked.map fun n : Nat => .int n)
  | .sel => H w.sel = some (.lst (w.ss.map fun s => V.ref s.p)) ∧ w.ss.length = M.ss.length
  | .hw => H w.hw = some (.lst (w.hws.map fun s => V.ref s.p)) ∧ w.hws.length = M.hw.length
  | .sw => H w.sw = some (.lst (w.sws.map fun s => V.ref s.p)) ∧ w.sws.length = M.sw.length
  | .house => HouseAt A H w.h S M.h
  | .seller i => ∀ s m, w.ss[i]? = some s → M.ss[i]? = some m → SellerAt A H s S i m
  | .hwire i => ∀ x m, w.hws[i]? = some x → M.hw[i]? = some m → WrAt A H x m.sent m.exp (boxD dnD m.box)
  | .swire i => ∀ x m, w.sws[i]? = some x → M.sw[i]? = some m → WrAt A H x m.sent m.exp (boxD upD m.box)
  | .row i => ∀ a r, w.ds[i]? = some a → M.deeds[i]? = some r → LsAt H a (r.map deedD)
theorem Pc.fr {A : Ad} {l : List Addr} {H H' : Hp} {S : Setup} {w : WP} {M : WM} (f : Fr l H H') : ∀ {r : Rg}, Pc A H S w M r → (∀ a ∈ w.reg r, a ∉ l) → Pc A H' S w M r := by
  intro r x n
  cases r with
  | self => obtain ⟨dx, sv, e, d⟩ := x; exact ⟨dx, sv, f.at e (n _ List.mem_cons_self), Da.frL f d (imm_setup S)⟩
  | net => exact LsAt.fr x f (n _ List.mem_cons_self)
  | hist => exact LsAt.fr x f (n _ List.mem_cons_self)
  | down => exact LsAt.fr x f (n _ List.mem_cons_self)
  | deeds => exact ⟨f.at x.1 (n _ List.mem_cons_self), x.2⟩
  | asked => exact LsAt.fr x f (n _ List.mem_cons_self)
  | sel => exact ⟨f.at x.1 (n _ List.mem_cons_self), x.2⟩
  | hw => exact ⟨f.at x.1 (n _ List.mem_cons_self), x.2⟩
  | sw => exact ⟨f.at x.1 (n _ List.mem_cons_self), x.2⟩
  | house => exact HouseAt.fr x f n
  | seller i => intro s m hs hm; exact (x s m hs hm).frm f fun a ha => n a (by show a ∈ ads SP.os w.ss[i]?; rw [hs]; exact ha)
  | hwire i => intro s m hs hm; exact (x s m hs hm).fr f fun a ha => n a (by show a ∈ ads WrP.os w.hws[i]?; rw [hs]; exact ha)
  | swire i => intro s m hs hm; exact (x s m hs hm).fr f fun a ha => n a (by show a ∈ ads WrP.os w.sws[i]?; rw [hs]; exact ha)
  | row i => intro s m hs hm; exact (x s m hs hm).fr f (n s (by show s ∈ ads (fun a => [a]) w.ds[i]?; rw [hs]; exact List.mem_cons_self))
structure WAt (A : Ad) (H : Hp) (w : WP) (S : Setup) (M : WM) : Prop where
  own : Owns H w.reg
  pc : ∀ r, Pc A H S w M r
theorem WAt.frm {A : Ad} {l : List Addr} {H H' : Hp} {S : Setup} {w : WP} {M : WM} (x : WAt A H w S M) (f : Fr l H H') (n : ∀ r, ∀ a ∈ w.reg r, a ∉ l) : WAt A H' w S M :=
  ⟨⟨fun r a h => by obtain ⟨o, e⟩ := x.own.al r a h; exact ⟨o, f.at e (n r a h)⟩, x.own.dj⟩, fun r => Pc.fr f (x.pc r) (n r)⟩
theorem WAt.f0 {A : Ad} {H H' : Hp} {S : Setup} {w : WP} {M : WM} (x : WAt A H w S M) (f : Fr [] H H') : WAt A H' w S M := x.frm f fun _ _ _ => nin0
/-- one piece has changed -/
theorem WAt.upd {A : Ad} {H H' : Hp} {S : Setup} {w w' : WP} {M M' : WM} (x : WAt A H w S M) (r0 : Rg) (f : Fr (w.reg r0) H H') (ho : ∀ r, r ≠ r0 → w'.reg r = w.reg r) (hn : ∀ a ∈ w'.reg r0, a ∈ w.reg r0 ∨ H a = none) (al : ∀ a ∈ w'.reg r0, ∃ o, H' a = some o)
    (hp : ∀ r, r ≠ r0 → Pc A H' S w M r → Pc A H' S w' M' r) (h0 : Pc A H' S w' M' r0) : WAt A H' w' S M' := by
  refine ⟨x.own.grow r0 hn (fun r z a h => by rw [ho r z] at h; exact h) (fun r a h => ?_), fun r => ?_⟩
  · by_cases z : r = r0
    · rw [z] at h; exact al a h
    · rw [ho r z] at h
      obtain ⟨o, e⟩ := x.own.al r a h
      exact ⟨o, f.at e (x.own.nin z a h)⟩
  · by_cases z : r = r0
    · rw [z]; exact h0
    · exact hp r z (Pc.fr f (x.pc r) (x.own.nin z))
/-! the pieces while a world is made -/
def regOf (p net hist down deeds asked sel hw sw hos : List Addr) (ds : List Addr) (ss : List SP) (hws sws : List WrP) : Rg → List Addr
  | .self => p
  | .net => net
  | .hist => hist
  | .down => down
  | .deeds => deeds
  | .asked => asked
  | .sel => sel
  | .hw => hw
  | .sw => sw
  | .house => hos
  | .seller i => ads SP.os ss[i]?
  | .hwire i => ads WrP.os hws[i]?
  | .swire i => ads WrP.os sws[i]?
  | .row i => ads (fun a => [a]) ds[i]?
theorem reg_eq (w : WP) : w.reg = regOf [w.p] [w.net] [w.hist] [w.down] [w.deeds] [w.asked] [w.sel] [w.hw] [w.sw] w.h.os w.ds w.ss w.hws w.sws := by funext r; cases r <;> rfl
theorem Owns.f0 {H H' : Hp} {g : Rg → List Addr} (o : Owns H g) (f : Fr [] H H') : Owns H' g := ⟨fun r a h => by obtain ⟨u, e⟩ := o.al r a h; exact ⟨u, f.at0 e⟩, o.dj⟩
theorem Owns.fp {H H' : Hp} {g : Rg → List Addr} {p : Addr} {u : HO} (o : Owns H g) (f : Fr [p] H H') (e : H' p = some u) : Owns H' g := ⟨fun r a h => by
  by_cases z : a = p
  · rw [z]; exact ⟨_, e⟩
  · obtain ⟨u, e⟩ := o.al r a h; exact ⟨u, f.at e (nin1 z nin0)⟩, o.dj⟩
theorem Owns.add {H H' : Hp} {g g' : Rg → List Addr} {L : List Addr} (o : Owns H g) (f : Fr [] H H') (r0 : Rg) (hL : ∀ a ∈ L, H a = none) (al : ∀ a ∈ L, ∃ u, H' a = some u) (hg : ∀ r a, a ∈ g' r → a ∈ g r ∨ (r = r0 ∧ a ∈ L)) : Owns H' g' := by
  refine ⟨fun r a h => ?_, fun r r' a h h' => ?_⟩
  · rcases hg r a h with q | ⟨_, q⟩
    · obtain ⟨u, e⟩ := o.al r a q; exact ⟨u, f.at0 e⟩
    · exact al a q
  · rcases hg r a h with q | ⟨q, n⟩
    · rcases hg r' a h' with q' | ⟨_, n'⟩
      · exact o.dj r r' a q q'
      · obtain ⟨u, e⟩ := o.al r a q; rw [hL a n'] at e; cases e
    · rcases hg r' a h' with q' | ⟨q', _⟩
      · obtain ⟨u, e⟩ := o.al r' a q'; rw [hL a n] at e; cases e
      · rw [q, q']
theorem ads_snoc {α : Type} {f : α → List Addr} {l : List α} {x : α} {i : Nat} {a : Addr} (h : a ∈ ads f (l ++ [x])[i]?) : a ∈ ads f l[i]? ∨ (i = l.length ∧ a ∈ f x) := by
  by_cases q : i < l.length
  · rw [List.getElem?_append_left q] at h; exact .inl h
  · rw [List.getElem?_append_right (by omega)] at h
    cases e : i - l.length with
    | zero => rw [e] at h; exact .inr ⟨by omega, h⟩
    | succ n => rw [e] at h; simp [ads] at h
theorem Owns.self0 {H : Hp} {p : Addr} {u : HO} (e : H p = some u) : Owns H (regOf [p] [] [] [] [] [] [] [] [] [] [] [] [] []) := by
  have key : ∀ r a, a ∈ regOf [p] [] [] [] [] [] [] [] [] [] [] [] [] [] r → r = .self ∧ a = p := fun r a h => by
    cases r with
    | self => exact ⟨rfl, List.mem_singleton.mp h⟩
    | seller i => exact nomatch h
    | hwire i => exact nomatch h
    | swire i => exact nomatch h
    | row i => exact nomatch h
    | _ => cases h
  exact ⟨fun r a h => by rw [(key r a h).2]; exact ⟨_, e⟩, fun r r' a h h' => by rw [(key r a h).1, (key r' a h').1]⟩
theorem rep_get {α : Type} {n i : Nat} {x y : α} (h : (List.replicate n x)[i]? = some y) : y = x := by
  have := List.mem_of_getElem? h
  exact List.eq_of_mem_replicate this
/-! data stay where no list is written -/
mutual
theorem Da.frN {l : List Addr} {H H' : Hp} (f : Fr l H H') (n : ∀ a ∈ l, ∀ xs, H a ≠ some (.lst xs)) : ∀ (d : PyData) (v : V), Da H v d → Da H' v d
  | .none, _, h => by cases h; exact .non
  | .bool b, _, h => by cases h; exact .bl b
  | .int i, _, h => by cases h; exact .int i
  | .str x, _, h => by cases h; exact .str x
  | .list ds, _, h => by
    cases h with
    | lst e z r => exact .lst (f.at e fun q => n _ q _ e) z (DaL.frN f n ds _ r)
  | .tuple ds, _, h => by
    cases h with
    | tup e z r => exact .tup (f.tup _ _ e) z (DaL.frN f n ds _ r)
  | .dict _, _, h => by cases h
theorem DaL.frN {l : List Addr} {H H' : Hp} (f : Fr l H H') (n : ∀ a ∈ l, ∀ xs, H a ≠ some (.lst xs)) : ∀ (ds : List PyData) (vs : List V), DaL H vs ds → DaL H' vs ds
  | [], _, h => by cases h; exact .nil
  | d :: ds, _, h => by
    cases h with
    | cons r t => exact .cons (Da.frN f n d _ r) (DaL.frN f n ds _ t)
end
theorem repDa {H : Hp} {v : V} {d : PyData} (h : Da H v d) : ∀ n : Nat, DaL H (List.replicate n v) (List.replicate n d)
  | 0 => .nil
  | n + 1 => .cons h (repDa h n)

def P_Wire_init (K : PySem.W.Frag) (A : Ad) (x0 : V) (H : Hp) (Q : VK) : Prop := ∃ (p dx : Addr), x0 = .ref p ∧ H p = some (.ins A.Wire dx []) ∧
  ∀ (l : Addr) (H' : Hp), H l = none → Fr [p] H H' → WrAt A H' ⟨p, l⟩ 0 0 [] → Q .non H'
def sp_Wire_init (K : PySem.W.Frag) (A : Ad) : Sp := fun vs H Q _ => ∃ x0, vs = [x0] ∧ P_Wire_init K A x0 H Q
theorem c_Wire_init {K : PySem.W.Frag} {A : Ad} {x0 : V} {H : Hp} {Q : VK} {E : XK} (h : P_Wire_init K A x0 H Q) : sp_Wire_init K A [x0] H Q E := ⟨_, rfl, h⟩
theorem sc_Wire_init : FnScope ["self"] ["self"] (defScope s_Wire_init) := ⟨rfl, rfl, rfl, by decide +kernel, rfl, by decide +kernel, by decide +kernel⟩
def t_Wire_init (K : PySem.W.Frag) (A : Ad) : TS :=
  (tSeq (sFld K (tVar 0) (tC (.int 0)) "sent")
    (tSeq (sFld K (tVar 0) (tLst tNil) "outbox")
    (sFld K (tVar 0) (tC (.int 0)) "expected")))
theorem pu_Wire_init (T : Txt K mg A) {x0 : V} {H : Hp} {Q : VK} (h : P_Wire_init K A x0 H Q) : t_Wire_init K A { nx := fun _ H' => Q .non H', rt := Q } [some x0] H := by
  obtain ⟨p, dx, rfl, hp, k⟩ := h
  unfold t_Wire_init
  walk_at "go"
  rename_i H1 f1 e1 l H2 n2 f2 e2 H3 f3 e3 H4 f4 e4
  have nl : p ≠ l := ne_of_none e1 n2
  exact k l H4 (f1.freeL n2 (nin1 nl.symm nin0)) (((f1.then0 f2).transL f3).transL f4) ⟨⟨dx, e4⟩, LsAt.nil (by walk_at "fact")⟩
theorem ok_Wire_init {f : Addr} {fd : FuncData} (F : Fun K "__init__" "Wire.__init__" s_Wire_init f fd) (T : Txt K mg A)  : FnOk P w K mg base CX0 (1) f fd ["self"] (sp_Wire_init K A) := by
  refine F.ok sc_Wire_init (fun vs H Q E h => ?_) (fun cdv Ar outer s H vs Q E hr h => ⟨t_Wire_init K A, ?_, ?_⟩)
  · obtain ⟨x0, rfl, _⟩ := h
    rfl
  · have hu := hu_of hr
    exact (pss_cons (ps_fld (pv 0) pe_int rfl)
    (pss_cons (ps_fld (pv 0) (pe_lst pa_nil) rfl)
    (pss_one (ps_fld (pv 0) pe_int rfl))))
  · obtain ⟨x0, rfl, h⟩ := h
    exact pu_Wire_init T h

/-! ### a world is made -/
def RowsAt (H : Hp) (rs : List Addr) (dss : List (List PyData)) : Prop := Paired (fun r ds => ∃ vs, H r = some (.lst vs) ∧ DaL H vs ds) rs dss
def P_World_init (K : PySem.W.Frag) (A : Ad) (x0 x1 x2 : V) (H : Hp) (Q : VK) (E : XK) : Prop := ∃ (p dx q : Addr) (d : PyData) (rs : List Addr) (dss : List (List PyData)), x0 = .ref p ∧ H p = some (.ins A.World dx []) ∧ Da H x1 d ∧ x2 = .ref q ∧ H q = some (.lst (rs.map V.ref)) ∧ RowsAt H rs dss ∧
  rs.length ≤ 1000 ∧ (∀ ds ∈ dss, ds.length ≤ 1000) ∧ (∀ ds ∈ dss, ∀ e ∈ ds, HdOk e) ∧ (isSet d = false → ∀ H', Fr [p] H H' → E (.ref A.BadSetup) none H') ∧
  ∀ S, SetupOk S → d = setupD S → (¬ RowsOk S dss → ∀ H', Fr [p] H H' → E (.ref A.BadDeed) none H') ∧
    ∀ D : List (List Deed), RowsOk S dss → dss = D.map (fun r => r.map deedD) → DeedsOk S D → ∀ (w : WP) (H' : Hp), w.p = p → Fr [p] H H' → (∀ r, ∀ a ∈ w.reg r, a = p ∨ H a = none) → WAt A H' w S (WM.start S D) → Q .non H'
def sp_World_init (K : PySem.W.Frag) (A : Ad) : Sp := fun vs H Q E => ∃ x0 x1 x2, vs = [x0, x1, x2] ∧ P_World_init K A x0 x1 x2 H Q E
theorem c_World_init {K : PySem.W.Frag} {A : Ad} {x0 x1 x2 : V} {H : Hp} {Q : VK} {E : XK} (h : P_World_init K A x0 x1 x2 H Q E) : sp_World_init K A [x0, x1, x2] H Q E := ⟨_, _, _, rfl, h⟩
theorem sc_World_init : FnScope ["self", "setup", "deeds", "many", "rows", "number", "deed", "_"] ["self", "setup", "deeds"] (defScope s_World_init) := ⟨rfl, rfl, rfl, by decide +kernel, rfl, by decide +kernel, by decide +kernel⟩
def t_World_init (K : PySem.W.Frag) (A : Ad) (E : XK) : TS :=
  (tSeq (tDrop (tClX (sp_check_setup K A) (fun cls d _ H => E cls d H) (tCons (tVar 1) tNil)))
    (tSeq (sFld K (tVar 0) (tVar 1) "setup")
    (tSeq (tAsg (tOp (rIxT K) (tVar 1) (tC (.int 2))) (gName 3))
    (tSeq (sFld K (tVar 0) (tMk A.House (sp_House_init K A) (tCons (tVar 1) tNil)) "house")
    (tSeq (sFld K (tVar 0) (tLc (iRng1 (tCons (tVar 3) tNil)) (gName 5) tYes (tMk A.Seller (sp_Seller_init K A) (tCons (tVar 1) (tCons (tVar 5) tNil))) [5]) "sellers")
    (tSeq (sFld K (tVar 0) (tLst tNil) "net")
    (tSeq (sFld K (tVar 0) (tLst tNil) "history")
    (tSeq (sFld K (tVar 0) (tLc (iRng1 (tCons (tOp oAdd (tVar 3) (tC (.int 1))) tNil)) (gName 7) tYes (tC (.bl false)) [7]) "down")
    (tSeq (sFld K (tVar 0) (tLc (iList K (tVar 2)) (gName 4) tYes (tCB (rListOf K) (tCons (tVar 4) tNil)) [4]) "deeds")
    (tSeq (sFld K (tVar 0) (tLc (iRng1 (tCons (tVar 3) tNil)) (gName 7) tYes (tC (.int 0)) [7]) "asked")
    (tSeq (sFld K (tVar 0) (tLc (iRng1 (tCons (tVar 3) tNil)) (gName 7) tYes (tMk A.Wire (sp_Wire_init K A) tNil) [7]) "house_wires")
    (tSeq (sFld K (tVar 0) (tLc (iRng1 (tCons (tVar 3) tNil)) (gName 7) tYes (tMk A.Wire (sp_Wire_init K A) tNil) [7]) "seller_wires")
    (tSeq (tIfS (tTest (tOp rNe (tCB (rLenSq K) (tCons (tFld K (tVar 0) "deeds") tNil)) (tVar 3))) (tRz A.BadDeed (fun cls d _ H => E cls d H)) tNext)
    (tFor (iList K (tFld K (tVar 0) "deeds")) (gName 4) (tFor (iEnum K (tCons (tVar 4) tNil)) (gTup K 2 (gCons (gName 5) (gCons (gName 6) gNil))) (tSeq (tDrop (tClX (sp_check_deed K A) (fun cls d _ H => E cls d H) (tCons (tVar 1) (tCons (tVar 6) tNil))))
    (tIfS (tAnd (tTest (tOp (rNeD K) (tOp (rIxT K) (tVar 6) (tC (.int 0))) (tC (.str "wish")))) (tTest (tOp cGe (tOp (rIxT K) (tVar 6) (tC (.int 1))) (tVar 5)))) (tRz A.BadDeed (fun cls d _ H => E cls d H)) tNext)))))))))))))))))
theorem pu_World_init (T : Txt K mg A) {x0 x1 x2 : V} {H : Hp} {Q : VK} {E : XK} (h : P_World_init K A x0 x1 x2 H Q E) : t_World_init K A E { nx := fun _ H' => Q .non H', rt := Q } [some x0, some x1, some x2, none, none, none, none, none] H := by
  obtain ⟨p, dx, q, d, rs, dss, rfl, hp, dd, rfl, hq, hr, hl1, hl2, hho, ke, kq⟩ := h
  unfold t_World_init
  walk_at "go"
  cases hs : isSet d with
  | false => exact c_check_setup ⟨d, dd, fun h => (by rw [hs] at h; cases h), fun _ H1 f1 => ke hs H1 f1.of0⟩
  | true =>
  obtain ⟨S, so, rfl⟩ := isSet_setup hs
  refine c_check_setup ⟨setupD S, dd, fun _ H1 f1 => ?_, fun h => (by rw [hs] at h; cases h)⟩
  obtain ⟨kd, kq⟩ := kq S so rfl
  clear ke hs
  have hs1 := so.s1
  have hs2 := so.s2
  have dS1 := Da.fr0 f1 _ _ dd
  have ep1 := f1.at0 hp
  have hq1 := f1.at0 hq
  have npq : q ≠ p := ne_of hq hp (by intro z; cases z)
  have hr1 : RowsAt H1 rs dss := Paired.mapP hr fun r ds ⟨vs, e, da⟩ => ⟨vs, f1.at0 e, DaL.fr0 f1 _ _ da⟩
  have np : ∀ r ∈ rs, r ≠ p := fun r hr' => by
    obtain ⟨i, hi⟩ := List.getElem?_of_mem hr'
    obtain ⟨ds, _, vs, e, _⟩ := Paired.nth hr hi
    exact ne_of e hp (by intro z; cases z)
  have kd : ¬ RowsOk S dss → ∀ H', Fr [p] H1 H' → E (.ref A.BadDeed) none H' := fun h H' f => kd h H' (f.pre0' f1)
  have nlst : ∀ a ∈ [p], ∀ xs, H1 a ≠ some (.lst xs) := fun a ha xs z => by rw [List.mem_singleton.mp ha, ep1] at z; cases z
  have pn : ∀ {a : Addr} {H' : Hp}, Fr [p] H1 H' → H' a = none → a ≠ p → H1 a = none := fun f e z => f.freeL e (nin1 z nin0)
  obtain ⟨s, r, pp, prs, sa⟩ := SetAt.of dS1
  cases sa.e
  have e0 := sa.t
  clear sa hr hq hp
  walk_at "go"
  rename_i H2 f2 e2 x xd H3 nx nxd xne f3 e3 e3d
  have o2 := Owns.self0 e2
  refine c_House_init ⟨x, xd, S, rfl, e3, Da.frL f3 (Da.frL f2 dS1 (imm_setup S)) (imm_setup S), so, fun h H4 hhp f4 hn4 ha4 => ⟨rfl, ?_⟩⟩
  have F24 : Fr [] H2 H4 := f3.own1 f4 nx
  have nh : ∀ a ∈ h.os, H2 a = none := fun a ha => (hn4 a ha).elim (fun z => z ▸ nx) fun z => f3.free z
  have o4 : Owns H4 (regOf [p] [] [] [] [] [] [] [] [] h.os [] [] [] []) := o2.add F24 .house nh ha4.2.2 fun r a h => by cases r <;> first | exact .inl h | exact .inr ⟨rfl, h⟩
  have F4 : Fr [p] H1 H4 := f2.then0 F24
  have ep4 := F24.at0 e2
  have nhp : ∀ a ∈ h.os, a ∉ [p] := fun a ha z => by rw [List.mem_singleton.mp z] at ha; have := nh p ha; rw [e2] at this; cases this
  have nhH : ∀ a ∈ h.os, H1 a = none := fun a ha => f2.freeL (nh a ha) (nhp a ha)
  have e04 := F4.tup _ _ e0
  clear f3 f4 hn4 F24 nh nx nxd xne e3 e3d o2 f2 e2
  subst hhp
  walk_at "go"
  rename_i H5 f5 e5
  have o5 := o4.fp f5 e5
  have hh5 : HouseAt A H5 h S (HM.start S) := ha4.fr f5 nhp
  have F5 : Fr [p] H1 H5 := F4.transL f5
  have e05 := f5.tup _ _ e04
  clear f5 o4 ha4 ep4 e04 F4
  -- the sellers
  refine l_range (lo := 0) (n := S.sellers.toNat) fun sl H6 n6 f6 e6 => ⟨fun i acc H' => ∃ ss : List SP, acc = ss.map (fun s => V.ref s.p) ∧ ss.length = i ∧ (∀ (j : Nat) s, ss[j]? = some s → SellerAt A H' s S j SM.start) ∧ Fr [] H5 H' ∧ Owns H' (regOf [p] [] [] [] [] [] [sl] [] [] h.os [] ss [] []) ∧ ∀ s ∈ ss, ∀ a ∈ s.os, H5 a = none, ⟨[], rfl, rfl, fun j s h => (by simp at h), f6, o5.add f6 .sel (L := [sl]) (fun a ha => by rw [List.mem_singleton.mp ha]; exact n6) (fun a ha => by rw [List.mem_singleton.mp ha]; exact ⟨_, e6⟩) (fun r a h => by cases r <;> first | exact .inl h | exact .inr ⟨rfl, h⟩), fun _ h => (nomatch h)⟩, fun i acc H7 hi ha ⟨ss, ea, hl, hs, f, o, hn⟩ => ?_, fun acc H7 ha ⟨ss, ea, hl', hs, f, o, hn⟩ => ?_⟩
  · have e07 := f.tup _ _ e05
    walk_at "go"
    refine ⟨rfl, ?_⟩
    walk_at "go"
    simp only [Int.zero_add]
    rename_i x xd H8 nx nxd xne f8 e8 e8d
    refine c_Seller_init ⟨x, xd, S, (i : Int), rfl, e8, Da.frL (F5.transL (f.then0 f8).of0) dS1 (imm_setup S), rfl, so, fun s' H9 hsp f9 hn9 hs9 => ⟨rfl, ?_⟩⟩
    have f79 : Fr [] H7 H9 := f8.own1 f9 nx
    have ns7 : ∀ a ∈ s'.os, H7 a = none := fun a ha => (hn9 a ha).elim (fun z => z ▸ nx) fun z => f8.free z
    have o9 : Owns H9 (regOf [p] [] [] [] [] [] [sl] [] [] h.os [] (ss ++ [s']) [] []) := o.add f79 (.seller ss.length) ns7 hs9.2.2 fun r a h => by
      cases r with
      | seller j =>
        rcases ads_snoc h with q | ⟨q, q2⟩
        · exact .inl q
        · exact .inr ⟨by rw [q], q2⟩
      | _ => exact .inl h
    have hal : acc.length ≤ 100 := by rw [ea, List.length_map]; omega
    refine lcY_of (f79.at0 ha) (szM (by omega)) fun H10 f10 e10 => ⟨ss ++ [s'], by rw [ea, List.map_append, ← hsp]; rfl, by rw [List.length_append, hl]; rfl, fun j z hz => ?_, (f.then0 f79).own1 f10 n6, o9.fp f10 e10, fun z hz a ha => ?_⟩
    · have key : SellerAt A H9 z S j SM.start := by
        by_cases q : j < ss.length
        · rw [List.getElem?_append_left q] at hz
          exact (hs j z hz).f0 f79
        · rw [List.getElem?_append_right (by omega)] at hz
          cases e : j - ss.length with
          | zero =>
            rw [e] at hz
            cases Option.some.inj hz
            have : j = i := by omega
            rw [this]; exact hs9
          | succ n => rw [e] at hz; simp at hz
      refine key.frm f10 fun a ha q => ?_
      have h1 : a ∈ regOf [p] [] [] [] [] [] [sl] [] [] h.os [] (ss ++ [s']) [] [] (.seller j) := by show a ∈ ads SP.os (ss ++ [s'])[j]?; rw [hz]; exact ha
      cases o9.dj (.seller j) .sel a h1 q
    · rcases List.mem_append.mp hz with q | q
      · exact hn z q a ha
      · rw [List.mem_singleton.mp q] at ha; exact f.free (ns7 a ha)
  have F7 : Fr [p] H1 H7 := F5.then0 f
  have ep7 := f.at0 e5
  have hh7 := hh5.fr f fun _ _ => nin0
  have e07 := f.tup _ _ e05
  have nsp : ∀ (j : Nat) z, ss[j]? = some z → ∀ a ∈ z.os, a ∉ [p] := fun j z hz a ha q => by
    have h1 : a ∈ regOf [p] [] [] [] [] [] [sl] [] [] h.os [] ss [] [] (.seller j) := by show a ∈ ads SP.os ss[j]?; rw [hz]; exact ha
    cases o.dj (.seller j) .self a h1 q
  have nslp : sl ≠ p := fun z => by have := o.dj .sel .self sl List.mem_cons_self (by rw [z]; exact List.mem_cons_self); cases this
  have nsH : ∀ (j : Nat) z, ss[j]? = some z → ∀ a ∈ z.os, H1 a = none := fun j z hz a ha => F5.freeL (hn z (List.mem_of_getElem? hz) a ha) (nsp j z hz a ha)
  have nslH : H1 sl = none := F5.freeL n6 (nin1 nslp nin0)
  clear f6 e6 n6 f hn o5 hh5 F5 e05 e5
  subst ea
  walk_at "go"
  rename_i H8 f8 e8 nt H9 n9 f9 e9 H10 f10 e10 hl0 H11 n11 f11 e11 H12 f12 e12
  have o12 : Owns H12 (regOf [p] [nt] [hl0] [] [] [] [sl] [] [] h.os [] ss [] []) :=
    ((((o.fp f8 e8).add f9 .net (L := [nt]) (fun a ha => by rw [List.mem_singleton.mp ha]; exact n9) (fun a ha => by rw [List.mem_singleton.mp ha]; exact ⟨_, e9⟩) (fun r a h => by cases r <;> first | exact .inl h | exact .inr ⟨rfl, h⟩) (g' := regOf [p] [nt] [] [] [] [] [sl] [] [] h.os [] ss [] [])).fp f10 e10).add f11 .hist (L := [hl0]) (fun a ha => by rw [List.mem_singleton.mp ha]; exact n11) (fun a ha => by rw [List.mem_singleton.mp ha]; exact ⟨_, e11⟩) (fun r a h => by cases r <;> first | exact .inl h | exact .inr ⟨rfl, h⟩)).fp f12 e12
  have F712 : Fr [p] H7 H12 := (((f8.then0 f9).transL f10).then0 f11).transL f12
  have F12 : Fr [p] H1 H12 := F7.transL F712
  have nnt : nt ≠ p := fun z => by have := o12.dj .net .self nt List.mem_cons_self (by rw [z]; exact List.mem_cons_self); cases this
  have nhi : hl0 ≠ p := fun z => by have := o12.dj .hist .self hl0 List.mem_cons_self (by rw [z]; exact List.mem_cons_self); cases this
  have hs12 : ∀ (j : Nat) s, ss[j]? = some s → SellerAt A H12 s S j SM.start := fun j z hz => (hs j z hz).frm F712 (nsp j z hz)
  have hh12 := hh7.fr F712 nhp
  have nt12 : H12 nt = some (.lst []) := ((f10.then0 f11).transL f12).at e9 (nin1 nnt nin0)
  have hi12 : H12 hl0 = some (.lst []) := f12.at e11 (nin1 nhi nin0)
  have sl12 := F712.at ha (nin1 nslp nin0)
  have nntH : H1 nt = none := pn (F7.transL f8) n9 nnt
  have nhiH : H1 hl0 = none := pn (((F7.transL f8).then0 f9).transL f10) n11 nhi
  clear o F712 F7 hs hh7 ha ep7 e07 f8 e8 f9 e9 n9 f10 e10 f11 e11 n11 f12
  refine l_range (lo := 0) (n := (S.sellers + 1).toNat) fun dn H13 n13 f13 e13 => ⟨fun i acc H' => acc = List.replicate i (V.bl false) ∧ Fr [] H12 H', ⟨rfl, f13⟩, fun i acc H' hi ha ⟨ea, f⟩ => ?_, fun acc H14 ha ⟨ea, f⟩ => ?_⟩
  · walk_at "go"
    refine ⟨rfl, ?_⟩
    walk_at "go"
    refine lcY_of ha (szM (by rw [ea, List.length_replicate]; omega)) fun H5 f5 e5 => ⟨by rw [ea, ← List.replicate_succ'], f.own1 f5 n13⟩
  subst ea
  have o14 : Owns H14 (regOf [p] [nt] [hl0] [dn] [] [] [sl] [] [] h.os [] ss [] []) := o12.add f .down (L := [dn]) (fun a ha => by rw [List.mem_singleton.mp ha]; exact n13) (fun a h => by rw [List.mem_singleton.mp h]; exact ⟨_, ha⟩) (fun r a h => by cases r <;> first | exact .inl h | exact .inr ⟨rfl, h⟩)
  have ndn : dn ≠ p := fun z => by have := o14.dj .down .self dn List.mem_cons_self (by rw [z]; exact List.mem_cons_self); cases this
  have ndnH : H1 dn = none := pn F12 n13 ndn
  have ep14 := f.at0 e12
  have F14 := F12.then0 f
  clear f13 e13 n13
  walk_at "go"
  rename_i H15 f15 e15
  have o15 := o14.fp f15 e15
  have F15 := F14.transL f15
  have F1215 : Fr [p] H12 H15 := f15.pre0' f
  have hs15 : ∀ (j : Nat) s, ss[j]? = some s → SellerAt A H15 s S j SM.start := fun j z hz => (hs12 j z hz).frm F1215 (nsp j z hz)
  have hh15 := hh12.fr F1215 nhp
  have nt15 := F1215.at nt12 (nin1 nnt nin0)
  have hi15 := F1215.at hi12 (nin1 nhi nin0)
  have sl15 := F1215.at sl12 (nin1 nslp nin0)
  have dn15 := f15.at ha (nin1 ndn nin0)
  have hq15 := F15.at hq1 (nin1 npq nin0)
  clear hs12 hh12 nt12 hi12 sl12 ha hq1 F1215 f F14 F12 o14 o12 e12 ep14 f15
  -- the lists of deeds
  walk_at "go"
  refine l_list (xs := rs.map V.ref) fun de H16 n16 f16 e16 => ⟨fun i acc H' => ∃ ds : List Addr, acc = ds.map V.ref ∧ ds.length = i ∧ (∀ (j : Nat) a d, ds[j]? = some a → dss[j]? = some d → ∃ vs, H' a = some (.lst vs) ∧ DaL H1 vs d) ∧ Fr [] H15 H' ∧ Owns H' (regOf [p] [nt] [hl0] [dn] [de] [] [sl] [] [] h.os ds ss [] []) ∧ ∀ a ∈ ds, H15 a = none, ⟨[], rfl, rfl, fun j a d h => (by simp at h), f16, o15.add f16 .deeds (L := [de]) (fun a ha => by rw [List.mem_singleton.mp ha]; exact n16) (fun a ha => by rw [List.mem_singleton.mp ha]; exact ⟨_, e16⟩) (fun r a h => by cases r <;> first | exact .inl h | exact .inr ⟨rfl, h⟩), fun _ h => (nomatch h)⟩, fun i acc H' ⟨_, _, _, _, f, _⟩ => SqL.of (f.at0 hq15), fun i x acc H17 hx ha ⟨ds, ea, hl, hd, f, o, hn⟩ => ?_, fun acc H17 ha ⟨ds, ea, hl, hd, f, o, hn⟩ => ?_⟩
  · rw [List.getElem?_map] at hx
    obtain ⟨r0, hr0, rfl⟩ := Option.map_eq_some_iff.mp hx
    obtain ⟨dd0, hdd, vs, ev, dv⟩ := Paired.nth hr1 hr0
    have ev17 : H17 r0 = some (.lst vs) := f.at0 (F15.at ev (nin1 (np r0 (List.mem_of_getElem? hr0)) nin0))
    walk_at "go"
    refine ⟨rfl, ?_⟩
    walk_at "go"
    rename_i b H18 n18 f18 e18
    have o18 : Owns H18 (regOf [p] [nt] [hl0] [dn] [de] [] [sl] [] [] h.os (ds ++ [b]) ss [] []) := o.add f18 (.row ds.length) (L := [b]) (fun a ha => by rw [List.mem_singleton.mp ha]; exact n18) (fun a ha => by rw [List.mem_singleton.mp ha]; exact ⟨_, e18⟩) fun r a h => by
      cases r with
      | row j =>
        rcases ads_snoc h with q | ⟨q, q2⟩
        · exact .inl q
        · exact .inr ⟨by rw [q], q2⟩
      | _ => exact .inl h
    have hal : acc.length ≤ 1000 := by rw [ea, List.length_map]; have := (List.getElem?_eq_some_iff.mp hr0).1; omega
    refine lcY_of (f18.at0 ha) (szM (by omega)) fun H19 f19 e19 => ⟨ds ++ [b], by rw [ea, List.map_append]; rfl, by rw [List.length_append, hl]; rfl, fun j a d hja hjd => ?_, (f.then0 f18).own1 f19 n16, o18.fp f19 e19, fun a ha' => ?_⟩
    · have hne : a ≠ de := fun q => by
        have h1 : a ∈ regOf [p] [nt] [hl0] [dn] [de] [] [sl] [] [] h.os (ds ++ [b]) ss [] [] (.row j) := by show a ∈ ads _ (ds ++ [b])[j]?; rw [hja]; exact List.mem_cons_self
        cases o18.dj (.row j) .deeds a h1 (by rw [q]; exact List.mem_cons_self)
      by_cases q : j < ds.length
      · rw [List.getElem?_append_left q] at hja
        obtain ⟨vs', e', d'⟩ := hd j a d hja hjd
        exact ⟨vs', f19.at (f18.at0 e') (nin1 hne nin0), d'⟩
      · rw [List.getElem?_append_right (by omega)] at hja
        cases e : j - ds.length with
        | zero =>
          rw [e] at hja
          cases Option.some.inj hja
          have : j = i := by omega
          rw [this, hdd] at hjd
          cases hjd
          exact ⟨vs, f19.at e18 (nin1 hne nin0), dv⟩
        | succ n => rw [e] at hja; simp at hja
    · rcases List.mem_append.mp ha' with q | q
      · exact hn a q
      · rw [List.mem_singleton.mp q]; exact f.free n18
  have rlen : rs.length = dss.length := Paired.length hr1
  have nds : ∀ (j : Nat) a, ds[j]? = some a → a ∉ [p] := fun j a hja q => by
    have h1 : a ∈ regOf [p] [nt] [hl0] [dn] [de] [] [sl] [] [] h.os ds ss [] [] (.row j) := by show a ∈ ads _ ds[j]?; rw [hja]; exact List.mem_cons_self
    cases o.dj (.row j) .self a h1 q
  have nde : de ≠ p := fun z => by have := o.dj .deeds .self de List.mem_cons_self (by rw [z]; exact List.mem_cons_self); cases this
  have ndeH : H1 de = none := pn F15 n16 nde
  have ndsH : ∀ (j : Nat) a, ds[j]? = some a → H1 a = none := fun j a hja => F15.freeL (hn a (List.mem_of_getElem? hja)) (nds j a hja)
  have ep17 := f.at0 e15
  have hs17 : ∀ (j : Nat) s, ss[j]? = some s → SellerAt A H17 s S j SM.start := fun j z hz => (hs15 j z hz).f0 f
  have hh17 := hh15.fr f fun _ _ => nin0
  have nt17 := f.at0 nt15
  have hi17 := f.at0 hi15
  have sl17 := f.at0 sl15
  have dn17 := f.at0 dn15
  have F17 := F15.then0 f
  rw [List.length_map] at hl
  clear f16 e16 n16 f hn hs15 hh15 nt15 hi15 sl15 dn15 hq15 F15 o15 e15
  subst ea
  walk_at "go"
  rename_i H18 f18 e18
  have o18 := o.fp f18 e18
  refine l_range (lo := 0) (n := S.sellers.toNat) fun ak H19 n19 f19 e19 => ⟨fun i acc H' => acc = List.replicate i (V.int 0) ∧ Fr [] H18 H', ⟨rfl, f19⟩, fun i acc H' hi ha ⟨ea, f⟩ => ?_, fun acc H20 hak ⟨ea, f⟩ => ?_⟩
  · walk_at "go"
    refine ⟨rfl, ?_⟩
    walk_at "go"
    refine lcY_of ha (szM (by rw [ea, List.length_replicate]; omega)) fun H5 f5 e5 => ⟨by rw [ea, ← List.replicate_succ'], f.own1 f5 n19⟩
  subst ea
  have o20 : Owns H20 (regOf [p] [nt] [hl0] [dn] [de] [ak] [sl] [] [] h.os ds ss [] []) := o18.add f .asked (L := [ak]) (fun a ha => by rw [List.mem_singleton.mp ha]; exact n19) (fun a h => by rw [List.mem_singleton.mp h]; exact ⟨_, hak⟩) (fun r a h => by cases r <;> first | exact .inl h | exact .inr ⟨rfl, h⟩)
  have nak : ak ≠ p := fun z => by have := o20.dj .asked .self ak List.mem_cons_self (by rw [z]; exact List.mem_cons_self); cases this
  have nakH : H1 ak = none := pn (F17.transL f18) n19 nak
  have ep20 := f.at0 e18
  clear f19 e19 n19
  walk_at "go"
  rename_i H21 f21 e21
  have o21 := o20.fp f21 e21
  have F1721 : Fr [p] H17 H21 := (f18.then0 f).transL f21
  have F21 := F17.transL F1721
  have hs21 : ∀ (j : Nat) s, ss[j]? = some s → SellerAt A H21 s S j SM.start := fun j z hz => (hs17 j z hz).frm F1721 (nsp j z hz)
  have hh21 := hh17.fr F1721 nhp
  have nt21 := F1721.at nt17 (nin1 nnt nin0)
  have hi21 := F1721.at hi17 (nin1 nhi nin0)
  have sl21 := F1721.at sl17 (nin1 nslp nin0)
  have dn21 := F1721.at dn17 (nin1 ndn nin0)
  have de21 := F1721.at ha (nin1 nde nin0)
  have ds21 : ∀ (j : Nat) a d, ds[j]? = some a → dss[j]? = some d → ∃ vs, H21 a = some (.lst vs) ∧ DaL H1 vs d := fun j a d h1 h2 => by
    obtain ⟨vs, e, q⟩ := hd j a d h1 h2
    exact ⟨vs, F1721.at e (nds j a h1), q⟩
  have ak21 := f21.at hak (nin1 nak nin0)
  clear hs17 hh17 nt17 hi17 sl17 dn17 ha hd hak f18 f f21 F1721 F17 e18 ep20 ep17 o18 o20 o
  -- the wires
  refine l_range (lo := 0) (n := S.sellers.toNat) fun hw H22 n22 f22 e22 => ⟨fun i acc H' => ∃ ws : List WrP, acc = ws.map (fun s => V.ref s.p) ∧ ws.length = i ∧ (∀ (j : Nat) s, ws[j]? = some s → WrAt A H' s 0 0 []) ∧ Fr [] H21 H' ∧ Owns H' (regOf [p] [nt] [hl0] [dn] [de] [ak] [sl] [hw] [] h.os ds ss ws []) ∧ ∀ s ∈ ws, ∀ a ∈ s.os, H21 a = none, ⟨[], rfl, rfl, fun j s h => (by simp at h), f22, o21.add f22 .hw (L := [hw]) (fun a ha => by rw [List.mem_singleton.mp ha]; exact n22) (fun a ha => by rw [List.mem_singleton.mp ha]; exact ⟨_, e22⟩) (fun r a h => by cases r <;> first | exact .inl h | exact .inr ⟨rfl, h⟩), fun _ h => (nomatch h)⟩, fun i acc H7 hi ha ⟨ws, ea, hl, hs, f, o, hn⟩ => ?_, fun acc H23 hw23 ⟨hws, ea, hlw, hws23, f, o, hnw⟩ => ?_⟩
  · walk_at "go"
    refine ⟨rfl, ?_⟩
    walk_at "go"
    rename_i x xd H8 nx nxd xne f8 e8 e8d
    refine c_Wire_init ⟨x, xd, rfl, e8, fun l9 H9 nl9 f9 hs9 => ⟨rfl, ?_⟩⟩
    have f79 : Fr [] H7 H9 := f8.own1 f9 nx
    have nl7 : H7 l9 = none := f8.free nl9
    have ns7 : ∀ a ∈ WrP.os ⟨x, l9⟩, H7 a = none := fun a ha => by
      rcases List.mem_cons.mp ha with q | q
      · rw [q]; exact nx
      · rw [List.mem_singleton.mp q]; exact nl7
    have o9 : Owns H9 (regOf [p] [nt] [hl0] [dn] [de] [ak] [sl] [hw] [] h.os ds ss (ws ++ [⟨x, l9⟩]) []) := o.add f79 (.hwire ws.length) ns7 (fun a ha => by
      obtain ⟨⟨dx, e1⟩, _, vs, e2, _⟩ := hs9
      rcases List.mem_cons.mp ha with q | q
      · rw [q]; exact ⟨_, e1⟩
      · rw [List.mem_singleton.mp q]; exact ⟨_, e2⟩) fun r a h => by
      cases r with
      | hwire j =>
        rcases ads_snoc h with q | ⟨q, q2⟩
        · exact .inl q
        · exact .inr ⟨by rw [q], q2⟩
      | _ => exact .inl h
    have hal : acc.length ≤ 100 := by rw [ea, List.length_map]; omega
    refine lcY_of (f79.at0 ha) (szM (by omega)) fun H10 f10 e10 => ⟨ws ++ [⟨x, l9⟩], by rw [ea, List.map_append]; rfl, by rw [List.length_append, hl]; rfl, fun j z hz => ?_, (f.then0 f79).own1 f10 n22, o9.fp f10 e10, fun z hz a ha => ?_⟩
    · have key : WrAt A H9 z 0 0 [] := by
        by_cases q : j < ws.length
        · rw [List.getElem?_append_left q] at hz
          exact (hs j z hz).fr f79 fun _ _ => nin0
        · rw [List.getElem?_append_right (by omega)] at hz
          cases e : j - ws.length with
          | zero =>
            rw [e] at hz
            cases Option.some.inj hz
            exact hs9
          | succ n => rw [e] at hz; simp at hz
      refine key.fr f10 fun a ha q => ?_
      have h1 : a ∈ regOf [p] [nt] [hl0] [dn] [de] [ak] [sl] [hw] [] h.os ds ss (ws ++ [⟨x, l9⟩]) [] (.hwire j) := by show a ∈ ads WrP.os (ws ++ [⟨x, l9⟩])[j]?; rw [hz]; exact ha
      cases o9.dj (.hwire j) .hw a h1 q
    · rcases List.mem_append.mp hz with q | q
      · exact hn z q a ha
      · rw [List.mem_singleton.mp q] at ha; exact f.free (ns7 a ha)
  have nhws : ∀ (j : Nat) z, hws[j]? = some z → ∀ a ∈ z.os, a ∉ [p] := fun j z hz a ha q => by
    have h1 : a ∈ regOf [p] [nt] [hl0] [dn] [de] [ak] [sl] [hw] [] h.os ds ss hws [] (.hwire j) := by show a ∈ ads WrP.os hws[j]?; rw [hz]; exact ha
    cases o.dj (.hwire j) .self a h1 q
  have nhw : hw ≠ p := fun z => by have := o.dj .hw .self hw List.mem_cons_self (by rw [z]; exact List.mem_cons_self); cases this
  have nhwH : H1 hw = none := pn F21 n22 nhw
  have nhwsH : ∀ (j : Nat) z, hws[j]? = some z → ∀ a ∈ z.os, H1 a = none := fun j z hz a ha => F21.freeL (hnw z (List.mem_of_getElem? hz) a ha) (nhws j z hz a ha)
  have ep23 := f.at0 e21
  clear f22 e22 n22 hnw
  subst ea
  walk_at "go"
  rename_i H24 f24 e24
  have o24 := o.fp f24 e24
  have F2124 : Fr [p] H21 H24 := f24.pre0' f
  have F24 := F21.transL F2124
  have hs24 : ∀ (j : Nat) s, ss[j]? = some s → SellerAt A H24 s S j SM.start := fun j z hz => (hs21 j z hz).frm F2124 (nsp j z hz)
  have hh24 := hh21.fr F2124 nhp
  have nt24 := F2124.at nt21 (nin1 nnt nin0)
  have hi24 := F2124.at hi21 (nin1 nhi nin0)
  have sl24 := F2124.at sl21 (nin1 nslp nin0)
  have dn24 := F2124.at dn21 (nin1 ndn nin0)
  have de24 := F2124.at de21 (nin1 nde nin0)
  have ds24 : ∀ (j : Nat) a d, ds[j]? = some a → dss[j]? = some d → ∃ vs, H24 a = some (.lst vs) ∧ DaL H1 vs d := fun j a d h1 h2 => by
    obtain ⟨vs, e, q⟩ := ds21 j a d h1 h2
    exact ⟨vs, F2124.at e (nds j a h1), q⟩
  have ak24 := F2124.at ak21 (nin1 nak nin0)
  have hw24 := f24.at hw23 (nin1 nhw nin0)
  have hws24 : ∀ (j : Nat) s, hws[j]? = some s → WrAt A H24 s 0 0 [] := fun j z hz => (hws23 j z hz).fr f24 (nhws j z hz)
  clear hs21 hh21 nt21 hi21 sl21 dn21 de21 ds21 ak21 hw23 hws23 f f24 F2124 F21 e21 ep23 o21 o
  refine l_range (lo := 0) (n := S.sellers.toNat) fun sw H22 n22 f22 e22 => ⟨fun i acc H' => ∃ ws : List WrP, acc = ws.map (fun s => V.ref s.p) ∧ ws.length = i ∧ (∀ (j : Nat) s, ws[j]? = some s → WrAt A H' s 0 0 []) ∧ Fr [] H24 H' ∧ Owns H' (regOf [p] [nt] [hl0] [dn] [de] [ak] [sl] [hw] [sw] h.os ds ss hws ws) ∧ ∀ s ∈ ws, ∀ a ∈ s.os, H24 a = none, ⟨[], rfl, rfl, fun j s h => (by simp at h), f22, o24.add f22 .sw (L := [sw]) (fun a ha => by rw [List.mem_singleton.mp ha]; exact n22) (fun a ha => by rw [List.mem_singleton.mp ha]; exact ⟨_, e22⟩) (fun r a h => by cases r <;> first | exact .inl h | exact .inr ⟨rfl, h⟩), fun _ h => (nomatch h)⟩, fun i acc H7 hi ha ⟨ws, ea, hl, hs, f, o, hn⟩ => ?_, fun acc H23 sw23 ⟨sws, ea, hlv, sws23, f, o, hnw⟩ => ?_⟩
  · walk_at "go"
    refine ⟨rfl, ?_⟩
    walk_at "go"
    rename_i x xd H8 nx nxd xne f8 e8 e8d
    refine c_Wire_init ⟨x, xd, rfl, e8, fun l9 H9 nl9 f9 hs9 => ⟨rfl, ?_⟩⟩
    have f79 : Fr [] H7 H9 := f8.own1 f9 nx
    have nl7 : H7 l9 = none := f8.free nl9
    have ns7 : ∀ a ∈ WrP.os ⟨x, l9⟩, H7 a = none := fun a ha => by
      rcases List.mem_cons.mp ha with q | q
      · rw [q]; exact nx
      · rw [List.mem_singleton.mp q]; exact nl7
    have o9 : Owns H9 (regOf [p] [nt] [hl0] [dn] [de] [ak] [sl] [hw] [sw] h.os ds ss hws (ws ++ [⟨x, l9⟩])) := o.add f79 (.swire ws.length) ns7 (fun a ha => by
      obtain ⟨⟨dx, e1⟩, _, vs, e2, _⟩ := hs9
      rcases List.mem_cons.mp ha with q | q
      · rw [q]; exact ⟨_, e1⟩
      · rw [List.mem_singleton.mp q]; exact ⟨_, e2⟩) fun r a h => by
      cases r with
      | swire j =>
        rcases ads_snoc h with q | ⟨q, q2⟩
        · exact .inl q
        · exact .inr ⟨by rw [q], q2⟩
      | _ => exact .inl h
    have hal : acc.length ≤ 100 := by rw [ea, List.length_map]; omega
    refine lcY_of (f79.at0 ha) (szM (by omega)) fun H10 f10 e10 => ⟨ws ++ [⟨x, l9⟩], by rw [ea, List.map_append]; rfl, by rw [List.length_append, hl]; rfl, fun j z hz => ?_, (f.then0 f79).own1 f10 n22, o9.fp f10 e10, fun z hz a ha => ?_⟩
    · have key : WrAt A H9 z 0 0 [] := by
        by_cases q : j < ws.length
        · rw [List.getElem?_append_left q] at hz
          exact (hs j z hz).fr f79 fun _ _ => nin0
        · rw [List.getElem?_append_right (by omega)] at hz
          cases e : j - ws.length with
          | zero =>
            rw [e] at hz
            cases Option.some.inj hz
            exact hs9
          | succ n => rw [e] at hz; simp at hz
      refine key.fr f10 fun a ha q => ?_
      have h1 : a ∈ regOf [p] [nt] [hl0] [dn] [de] [ak] [sl] [hw] [sw] h.os ds ss hws (ws ++ [⟨x, l9⟩]) (.swire j) := by show a ∈ ads WrP.os (ws ++ [⟨x, l9⟩])[j]?; rw [hz]; exact ha
      cases o9.dj (.swire j) .sw a h1 q
    · rcases List.mem_append.mp hz with q | q
      · exact hn z q a ha
      · rw [List.mem_singleton.mp q] at ha; exact f.free (ns7 a ha)
  have nsws : ∀ (j : Nat) z, sws[j]? = some z → ∀ a ∈ z.os, a ∉ [p] := fun j z hz a ha q => by
    have h1 : a ∈ regOf [p] [nt] [hl0] [dn] [de] [ak] [sl] [hw] [sw] h.os ds ss hws sws (.swire j) := by show a ∈ ads WrP.os sws[j]?; rw [hz]; exact ha
    cases o.dj (.swire j) .self a h1 q
  have nsw : sw ≠ p := fun z => by have := o.dj .sw .self sw List.mem_cons_self (by rw [z]; exact List.mem_cons_self); cases this
  have nswH : H1 sw = none := pn F24 n22 nsw
  have nswsH : ∀ (j : Nat) z, sws[j]? = some z → ∀ a ∈ z.os, H1 a = none := fun j z hz a ha => F24.freeL (hnw z (List.mem_of_getElem? hz) a ha) (nsws j z hz a ha)
  have ep23 := f.at0 e24
  clear f22 e22 n22 hnw
  subst ea
  walk_at "go"
  rename_i H25 f25 e25
  have o25 := o.fp f25 e25
  have F2425 : Fr [p] H24 H25 := f25.pre0' f
  have F25 := F24.transL F2425
  have hs25 : ∀ (j : Nat) s, ss[j]? = some s → SellerAt A H25 s S j SM.start := fun j z hz => (hs24 j z hz).frm F2425 (nsp j z hz)
  have hh25 := hh24.fr F2425 nhp
  have nt25 := F2425.at nt24 (nin1 nnt nin0)
  have hi25 := F2425.at hi24 (nin1 nhi nin0)
  have sl25 := F2425.at sl24 (nin1 nslp nin0)
  have dn25 := F2425.at dn24 (nin1 ndn nin0)
  have de25 := F2425.at de24 (nin1 nde nin0)
  have ds25 : ∀ (j : Nat) a d, ds[j]? = some a → dss[j]? = some d → ∃ vs, H25 a = some (.lst vs) ∧ DaL H1 vs d := fun j a d h1 h2 => by
    obtain ⟨vs, e, q⟩ := ds24 j a d h1 h2
    exact ⟨vs, F2425.at e (nds j a h1), q⟩
  have ak25 := F2425.at ak24 (nin1 nak nin0)
  have hw25 := F2425.at hw24 (nin1 nhw nin0)
  have hws25 : ∀ (j : Nat) s, hws[j]? = some s → WrAt A H25 s 0 0 [] := fun j z hz => (hws24 j z hz).fr F2425 (nhws j z hz)
  have sw25 := f25.at sw23 (nin1 nsw nin0)
  have sws25 : ∀ (j : Nat) s, sws[j]? = some s → WrAt A H25 s 0 0 [] := fun j z hz => (sws23 j z hz).fr f25 (nsws j z hz)
  have dS25 := Da.frL F25 dS1 (imm_setup S)
  clear hs24 hh24 nt24 hi24 sl24 dn24 de24 ds24 ak24 hw24 hws24 sw23 sws23 f f25 F2425 F24 e24 ep23 o24 o
  have hdl : ds.length = dss.length := by omega
  rw [List.length_map]
  refine g_iteN (fun c => ?_) (fun c => ?_)
  · walk_at "go"
    exact kd (fun h => c (by rw [hdl, h.1]; omega)) H25 F25
  walk_at "go"
  refine f_list (xs := ds.map V.ref) (fun i σ H' => (∃ v4 v5 v6, σ = [some (.ref p), some (.ref s), some (.ref q), some (.int S.sellers), v4, v5, v6, none]) ∧ Fr [] H25 H' ∧ ∀ (j : Nat) d, j < i → dss[j]? = some d → ∀ (m : Nat) e, d[m]? = some e → isDd S.rooms.length S.nights e = true ∧ nameOk m e = true) ⟨⟨_, _, _, rfl⟩, Fr.refl, fun j d h => (by omega)⟩ (fun i σ H' _ ⟨_, f, _⟩ => SqL.of (f.at0 de25)) ?_ ?_
  · rintro i x σ H26 hx ⟨⟨v4, v5, v6, rfl⟩, f26, hok⟩
    rw [List.getElem?_map] at hx
    obtain ⟨a, ha, rfl⟩ := Option.map_eq_some_iff.mp hx
    have hi := (List.getElem?_eq_some_iff.mp ha).1
    obtain ⟨d, hdd⟩ : ∃ d, dss[i]? = some d := ⟨_, List.getElem?_eq_getElem (by omega)⟩
    obtain ⟨vs, ev, dv⟩ := ds25 i a d ha hdd
    have hvl : vs.length = d.length := dv.len
    have hmd : d ∈ dss := List.mem_of_getElem? hdd
    have bad : ∀ {m : Nat} {e : PyData} {H' : Hp}, d[m]? = some e → ¬ (isDd S.rooms.length S.nights e = true ∧ nameOk m e = true) → Fr [] H25 H' → E (.ref A.BadDeed) none H' := fun he hb f => kd (fun h => hb (h.2 d hmd _ _ he)) _ (F25.then0 f)
    have ev26 := f26.at0 ev
    walk_at "go"
    refine f_enum (xs := vs) (fun m σ H' => (∃ v5 v6, σ = [some (.ref p), some (.ref s), some (.ref q), some (.int S.sellers), some (.ref a), v5, v6, none]) ∧ Fr [] H25 H' ∧ ∀ (m' : Nat) e, m' < m → d[m']? = some e → isDd S.rooms.length S.nights e = true ∧ nameOk m' e = true) ⟨⟨_, _, rfl⟩, f26, fun m' e h => (by omega)⟩ (fun m σ H' _ ⟨_, f, _⟩ => SqL.of (f.at0 ev)) ?_ ?_
    · rintro m y t σ H27 H28 hy ⟨⟨v5, v6, rfl⟩, f27, hok2⟩ nt f28 e28
      obtain ⟨e, he, de1⟩ := dv.get hy
      have F28 := f27.then0 f28
      have de28 : Da H28 y e := Da.frN (F25.then0 F28) nlst _ _ de1
      have dS28 := Da.fr0 F28 _ _ dS25
      clear f27 nt
      walk_at "go"
      refine c_check_deed ⟨S, e, dS28, de28, hho d hmd e (List.mem_of_getElem? he), fun hdd H29 f29 => ?_, fun hdd H29 f29 => bad he (fun h => by rw [h.1] at hdd; cases hdd) (F28.then0 f29)⟩
      obtain ⟨dd, rfl, hdo, hnm⟩ := isDd_deed hdd
      have de29 := Da.fr0 f29 _ _ de28
      have F29 := F28.then0 f29
      clear f28 f29 e28 dS28 de28
      have good : nameOk m (deedD dd) = true → ∀ (m' : Nat) e, m' < m + 1 → d[m']? = some e → isDd S.rooms.length S.nights e = true ∧ nameOk m' e = true := fun hn m' e' hm' he' => by
        by_cases z : m' = m
        · rw [z] at he' ⊢; rw [he] at he'; cases he'; exact ⟨hdd, hn⟩
        · exact hok2 m' e' (by omega) he'
      cases dd with
      | wish pty =>
        obtain ⟨t2, xs2, rfl, et, _, dx2⟩ := Da.tup1 de29
        cases dx2 with
        | cons dh dr =>
          walk_at "go"
          refine g_ixT (SqT.of et) atI0 ?_
          walk_at "go"
          refine g_neDD dh (.str _) (by decide +kernel) (by decide +kernel) ?_
          rw [show PyData.eqv (.str "wish") (.str "wish") = true from by decide +kernel]
          walk_at "go"
          exact ⟨⟨_, _, rfl⟩, F29, good rfl⟩
      | cancel k =>
        obtain ⟨t2, xs2, rfl, et, _, dx2⟩ := Da.tup1 de29
        cases dx2 with
        | cons dh dr =>
          obtain ⟨_, _, rfl, hr1', dk⟩ := gtup1 dr rfl
          cases hr1'
          cases dk.int1
          walk_at "go"
          refine g_neDD dh (.str _) (by decide +kernel) (by decide +kernel) ?_
          rw [show PyData.eqv (.str "cancel") (.str "wish") = false from by decide +kernel]
          walk_at "go"
          refine g_ite (fun c2 => ?_) (fun c2 => ?_)
          · walk_at "go"
            exact bad he (fun h => by have := (hnm m).mp h.2; exact absurd this.2 (by omega)) F29
          · walk_at "go"
            exact ⟨⟨_, _, rfl⟩, F29, good (by show decide (k < m) = true; exact decide_eq_true (by omega))⟩
      | change k pty =>
        obtain ⟨t2, xs2, rfl, et, _, dx2⟩ := Da.tup1 de29
        cases dx2 with
        | cons dh dr =>
          obtain ⟨_, _, _, _, rfl, hr1', dk, _⟩ := gtup2 dr (by rw [dr.len]; rfl)
          cases hr1'
          cases dk.int1
          walk_at "go"
          refine g_neDD dh (.str _) (by decide +kernel) (by decide +kernel) ?_
          rw [show PyData.eqv (.str "change") (.str "wish") = false from by decide +kernel]
          walk_at "go"
          refine g_ite (fun c2 => ?_) (fun c2 => ?_)
          · walk_at "go"
            exact bad he (fun h => by have := (hnm m).mp h.2; exact absurd this.2 (by omega)) F29
          · walk_at "go"
            exact ⟨⟨_, _, rfl⟩, F29, good (by show decide (k < m) = true; exact decide_eq_true (by omega))⟩
    · rintro σ H27 ⟨⟨v5, v6, rfl⟩, f27, hok2⟩
      refine ⟨⟨_, _, _, rfl⟩, f27, fun j d' hj hd' => ?_⟩
      by_cases z : j = i
      · rw [z, hdd] at hd'
        cases hd'
        intro m e he
        exact hok2 m e (by have := (List.getElem?_eq_some_iff.mp he).1; omega) he
      · exact hok j d' (by omega) hd'
  · rintro σ H26 ⟨⟨v4, v5, v6, rfl⟩, f26, hok⟩
    rw [List.length_map] at hok
    have hro : RowsOk S dss := ⟨by omega, fun d hd => by
      obtain ⟨j, hj⟩ := List.getElem?_of_mem hd
      exact hok j d (by have := (List.getElem?_eq_some_iff.mp hj).1; omega) hj⟩
    obtain ⟨D, rfl, hD⟩ := rows_deeds hro
    have hDl : ds.length = D.length := by rw [hdl, List.length_map]
    have own : Owns H26 (WP.reg ⟨p, nt, hl0, dn, de, ak, sl, hw, sw, ds, h, ss, hws, sws⟩) := by rw [reg_eq]; exact o25.f0 f26
    refine kq D hro rfl hD ⟨p, nt, hl0, dn, de, ak, sl, hw, sw, ds, h, ss, hws, sws⟩ H26 rfl (f1.pre0 (F25.then0 f26)) (fun r a ha => ?_) ⟨own, fun r => Pc.fr f26 (?_ : Pc A H25 S _ _ r) fun _ _ => nin0⟩
    · cases r with
      | self => exact .inl (List.mem_singleton.mp ha)
      | net => rw [List.mem_singleton.mp ha]; exact .inr (f1.free nntH)
      | hist => rw [List.mem_singleton.mp ha]; exact .inr (f1.free nhiH)
      | down => rw [List.mem_singleton.mp ha]; exact .inr (f1.free ndnH)
      | deeds => rw [List.mem_singleton.mp ha]; exact .inr (f1.free ndeH)
      | asked => rw [List.mem_singleton.mp ha]; exact .inr (f1.free nakH)
      | sel => rw [List.mem_singleton.mp ha]; exact .inr (f1.free nslH)
      | hw => rw [List.mem_singleton.mp ha]; exact .inr (f1.free nhwH)
      | sw => rw [List.mem_singleton.mp ha]; exact .inr (f1.free nswH)
      | house => exact .inr (f1.free (nhH a ha))
      | seller i =>
        have ha : a ∈ ads SP.os ss[i]? := ha
        cases q : ss[i]? with
        | none => rw [q] at ha; cases ha
        | some z => rw [q] at ha; exact .inr (f1.free (nsH i z q a ha))
      | hwire i =>
        have ha : a ∈ ads WrP.os hws[i]? := ha
        cases q : hws[i]? with
        | none => rw [q] at ha; cases ha
        | some z => rw [q] at ha; exact .inr (f1.free (nhwsH i z q a ha))
      | swire i =>
        have ha : a ∈ ads WrP.os sws[i]? := ha
        cases q : sws[i]? with
        | none => rw [q] at ha; cases ha
        | some z => rw [q] at ha; exact .inr (f1.free (nswsH i z q a ha))
      | row i =>
        have ha : a ∈ ads (fun a => [a]) ds[i]? := ha
        cases q : ds[i]? with
        | none => rw [q] at ha; cases ha
        | some z => rw [q] at ha; rw [List.mem_singleton.mp ha]; exact .inr (f1.free (ndsH i z q))
    · cases r with
      | self => exact ⟨dx, _, e25, dS25⟩
      | net => exact LsAt.nil nt25
      | hist => exact LsAt.nil hi25
      | down => exact ⟨immL_map (fun _ => rfl) _, _, dn25, by rw [show (S.sellers + 1).toNat = S.sellers.toNat + 1 by omega]; show DaL H25 _ ((List.replicate _ _).map _); rw [List.map_replicate]; exact repDa (.bl false) _⟩
      | deeds => exact ⟨de25, hDl⟩
      | asked => exact ⟨immL_map (fun _ => rfl) _, _, ak25, by show DaL H25 _ ((List.replicate _ _).map _); rw [List.map_replicate]; exact repDa (.int 0) _⟩
      | sel => exact ⟨sl25, by rw [hl']; show _ = (List.replicate _ _).length; rw [List.length_replicate]⟩
      | hw => exact ⟨hw25, by rw [hlw]; show _ = (List.replicate _ _).length; rw [List.length_replicate]⟩
      | sw => exact ⟨sw25, by rw [hlv]; show _ = (List.replicate _ _).length; rw [List.length_replicate]⟩
      | house => exact hh25
      | seller i => intro s' m hs' hm; cases rep_get hm; exact hs25 i s' hs'
      | hwire i => intro s' m hs' hm; cases rep_get hm; exact hws25 i s' hs'
      | swire i => intro s' m hs' hm; cases rep_get hm; exact sws25 i s' hs'
      | row i =>
        intro a r' ha hr'
        obtain ⟨vs, e, q⟩ := ds25 i a (r'.map deedD) ha (by rw [List.getElem?_map, show D[i]? = some r' from hr']; rfl)
        exact ⟨immL_map imm_deed _, vs, e, DaL.frL F25 q (immL_map imm_deed _)⟩
theorem ok_World_init {f : Addr} {fd : FuncData} (F : Fun K "__init__" "World.__init__" s_World_init f fd) (T : Txt K mg A) (c_check_setup : CalX P w K mg base "check_setup" 4 ["setup"] (sp_check_setup K A)) (c_House_init : CalC P w K mg base "House" A.House 1 ["self", "setup"] (sp_House_init K A)) (c_Seller_init : CalC P w K mg base "Seller" A.Seller 1 ["self", "setup", "number"] (sp_Seller_init K A)) (c_Wire_init : CalC P w K mg base "Wire" A.Wire 1 ["self"] (sp_Wire_init K A)) (c_check_deed : CalX P w K mg base "check_deed" 6 ["setup", "deed"] (sp_check_deed K A)) : FnOk P w K mg base (L2.CX P w) (7) f fd ["self", "setup", "deeds"] (sp_World_init K A) := by
  refine F.okX sc_World_init (fun vs H Q E h => ?_) (fun cdv Ar outer s H vs Q E hr h => ⟨t_World_init K A E, ?_, ?_⟩)
  · obtain ⟨x0, x1, x2, rfl, _⟩ := h
    rfl
  · have hu := hu_of hr
    exact (pss_cons (ps_expr (pe_clX c_check_setup (hr.mono (by first | decide | omega)) (by rfl) (takes_of rfl rfl rfl rfl) (pa_cons (pv 1) pa_nil)))
    (pss_cons (ps_fld (pv 0) (pv 1) rfl)
    (pss_cons (ps_set (i := 3) sc_World_init.nd rfl (Or.inl rfl) (pe_ix ix_tup (pv 1) pe_int (fun _ _ => rfl)))
    (pss_cons (ps_fld (pv 0) (pe_mk c_House_init (hr.mono (by first | decide | omega)) (by rfl) (pa_cons (pv 1) pa_nil)) rfl)
    (pss_cons (ps_fld (pv 0) (pe_lc (own := [("number", 5)]) (g := (gName 5)) (tt := tYes) rfl sc_World_init.nd (pi_range1 rfl T.b_range (pa_cons (pv 3) pa_nil)) (blkOk_by (N := ["self", "setup", "deeds", "many", "rows", "number", "deed", "_"]) (sc := defScope s_World_init) (own := [("number", 5)]) (by decide +kernel)) (fun _ _ _ _ _ => (pg_name (i := 5) sc_World_init.nd rfl (Or.inl rfl))) (fun _ _ _ _ _ => pts_nil) (fun _ _ _ _ _ => (pe_mk c_Seller_init (hr.mono (by first | decide | omega)) (by rfl) (pa_cons (pv 1) (pa_cons (pv 5) pa_nil))))) rfl)
    (pss_cons (ps_fld (pv 0) (pe_lst pa_nil) rfl)
    (pss_cons (ps_fld (pv 0) (pe_lst pa_nil) rfl)
    (pss_cons (ps_fld (pv 0) (pe_lc (own := [("_", 7)]) (g := (gName 7)) (tt := tYes) rfl sc_World_init.nd (pi_range1 rfl T.b_range (pa_cons (pe_op o_add (pv 3) pe_int) pa_nil)) (blkOk_by (N := ["self", "setup", "deeds", "many", "rows", "number", "deed", "_"]) (sc := defScope s_World_init) (own := [("_", 7)]) (by decide +kernel)) (fun _ _ _ _ _ => (pg_name (i := 7) sc_World_init.nd rfl (Or.inl rfl))) (fun _ _ _ _ _ => pts_nil) (fun _ _ _ _ _ => pe_bl)) rfl)
    (pss_cons (ps_fld (pv 0) (pe_lc (own := [("rows", 4)]) (g := (gName 4)) (tt := tYes) rfl sc_World_init.nd (pi_list (pv 2)) (blkOk_by (N := ["self", "setup", "deeds", "many", "rows", "number", "deed", "_"]) (sc := defScope s_World_init) (own := [("rows", 4)]) (by decide +kernel)) (fun _ _ _ _ _ => (pg_name (i := 4) sc_World_init.nd rfl (Or.inl rfl))) (fun _ _ _ _ _ => pts_nil) (fun _ _ _ _ _ => (pe_callTy b_list (by rfl) T.b_list (by decide +kernel) (pa_cons (pv 4) pa_nil)))) rfl)
    (pss_cons (ps_fld (pv 0) (pe_lc (own := [("_", 7)]) (g := (gName 7)) (tt := tYes) rfl sc_World_init.nd (pi_range1 rfl T.b_range (pa_cons (pv 3) pa_nil)) (blkOk_by (N := ["self", "setup", "deeds", "many", "rows", "number", "deed", "_"]) (sc := defScope s_World_init) (own := [("_", 7)]) (by decide +kernel)) (fun _ _ _ _ _ => (pg_name (i := 7) sc_World_init.nd rfl (Or.inl rfl))) (fun _ _ _ _ _ => pts_nil) (fun _ _ _ _ _ => pe_int)) rfl)
    (pss_cons (ps_fld (pv 0) (pe_lc (own := [("_", 7)]) (g := (gName 7)) (tt := tYes) rfl sc_World_init.nd (pi_range1 rfl T.b_range (pa_cons (pv 3) pa_nil)) (blkOk_by (N := ["self", "setup", "deeds", "many", "rows", "number", "deed", "_"]) (sc := defScope s_World_init) (own := [("_", 7)]) (by decide +kernel)) (fun _ _ _ _ _ => (pg_name (i := 7) sc_World_init.nd rfl (Or.inl rfl))) (fun _ _ _ _ _ => pts_nil) (fun _ _ _ _ _ => (pe_mk0 c_Wire_init (hr.mono (by first | decide | omega)) (by rfl)))) rfl)
    (pss_cons (ps_fld (pv 0) (pe_lc (own := [("_", 7)]) (g := (gName 7)) (tt := tYes) rfl sc_World_init.nd (pi_range1 rfl T.b_range (pa_cons (pv 3) pa_nil)) (blkOk_by (N := ["self", "setup", "deeds", "many", "rows", "number", "deed", "_"]) (sc := defScope s_World_init) (own := [("_", 7)]) (by decide +kernel)) (fun _ _ _ _ _ => (pg_name (i := 7) sc_World_init.nd rfl (Or.inl rfl))) (fun _ _ _ _ _ => pts_nil) (fun _ _ _ _ _ => (pe_mk0 c_Wire_init (hr.mono (by first | decide | omega)) (by rfl)))) rfl)
    (pss_cons (ps_if (pt_cmpR op_ne (pe_callB b_len (by rfl) T.b_len (by decide +kernel) (pa_cons (pe_fld (pv 0) rfl) pa_nil)) (pv 3) (nomark _)) (pss_one (ps_rz rfl (takes_of rfl rfl rfl rfl) T.x_BadDeed (by rfl))) pss_nil)
    (pss_one (ps_for (passes_of rfl) rfl (pi_list (pe_fld (pv 0) rfl)) (pg_name (i := 4) sc_World_init.nd rfl (Or.inl rfl)) (pss_one (ps_for (passes_of rfl) rfl (pi_enum (by rfl) T.b_enumerate (pa_cons (pv 4) pa_nil)) (pg_tup rfl (pgs_cons (pg_name (i := 5) sc_World_init.nd rfl (Or.inl rfl)) (pgs_cons (pg_name (i := 6) sc_World_init.nd rfl (Or.inl rfl)) pgs_nil))) (pss_cons (ps_expr (pe_clX c_check_deed (hr.mono (by first | decide | omega)) (by rfl) (takes_of rfl rfl rfl rfl) (pa_cons (pv 1) (pa_cons (pv 6) pa_nil))))
    (pss_one (ps_if (PW.pt (pw_and (pt_cmpR (op_neD hr.units) (pe_ix ix_tup (pv 6) pe_int (fun _ _ => rfl)) pe_str (nomark _)) (pw_and1 (pt_cmpR c_ge (pe_ix ix_tup (pv 6) pe_int (fun _ _ => rfl)) (pv 5) (nomark _))))) (pss_one (ps_rz rfl (takes_of rfl rfl rfl rfl) T.x_BadDeed (by rfl))) pss_nil))))))))))))))))))))
  · obtain ⟨x0, x1, x2, rfl, h⟩ := h
    exact pu_World_init T h

/-! ### a world's small methods -/
def WP.os (w : WP) : List Addr := [w.p, w.net, w.hist, w.down, w.deeds, w.asked, w.sel, w.hw, w.sw] ++ w.ds ++ w.h.os ++ w.ss.flatMap SP.os ++ w.hws.flatMap WrP.os ++ w.sws.flatMap WrP.os
theorem mem_ads {α : Type} {f : α → List Addr} {l : List α} {a : Addr} : (∃ i : Nat, a ∈ ads f l[i]?) ↔ ∃ x ∈ l, a ∈ f x := by
  constructor
  · rintro ⟨i, h⟩
    cases e : l[i]? with
    | none => rw [e] at h; cases h
    | some x => rw [e] at h; exact ⟨x, List.mem_of_getElem? e, h⟩
  · rintro ⟨x, hx, h⟩
    obtain ⟨i, hi⟩ := List.getElem?_of_mem hx
    exact ⟨i, by rw [hi]; exact h⟩
theorem mem_os {w : WP} {a : Addr} : a ∈ w.os ↔ ∃ r, a ∈ w.reg r := by
  unfold WP.os
  simp only [List.mem_append, List.mem_cons, List.not_mem_nil, or_false, List.mem_flatMap]
  constructor
  · rintro (((((((h | h | h | h | h | h | h | h | h) | h) | h) | h) | h) | h))
    · exact ⟨.self, by rw [h]; exact List.mem_cons_self⟩
    · exact ⟨.net, by rw [h]; exact List.mem_cons_self⟩
    · exact ⟨.hist, by rw [h]; exact List.mem_cons_self⟩
    · exact ⟨.down, by rw [h]; exact List.mem_cons_self⟩
    · exact ⟨.deeds, by rw [h]; exact List.mem_cons_self⟩
    · exact ⟨.asked, by rw [h]; exact List.mem_cons_self⟩
    · exact ⟨.sel, by rw [h]; exact List.mem_cons_self⟩
    · exact ⟨.hw, by rw [h]; exact List.mem_cons_self⟩
    · exact ⟨.sw, by rw [h]; exact List.mem_cons_self⟩
    · obtain ⟨i, hi⟩ := List.getElem?_of_mem h
      exact ⟨.row i, by show a ∈ ads _ w.ds[i]?; rw [hi]; exact List.mem_cons_self⟩
    · exact ⟨.house, h⟩
    · obtain ⟨i, hi⟩ := mem_ads.mpr h; exact ⟨.seller i, hi⟩
    · obtain ⟨i, hi⟩ := mem_ads.mpr h; exact ⟨.hwire i, hi⟩
    · obtain ⟨i, hi⟩ := mem_ads.mpr h; exact ⟨.swire i, hi⟩
  · rintro ⟨r, h⟩
    cases r with
    | self => simp only [WP.reg, List.mem_singleton] at h; simp [h]
    | net => simp only [WP.reg, List.mem_singleton] at h; simp [h]
    | hist => simp only [WP.reg, List.mem_singleton] at h; simp [h]
    | down => simp only [WP.reg, List.mem_singleton] at h; simp [h]
    | deeds => simp only [WP.reg, List.mem_singleton] at h; simp [h]
    | asked => simp only [WP.reg, List.mem_singleton] at h; simp [h]
    | sel => simp only [WP.reg, List.mem_singleton] at h; simp [h]
    | hw => simp only [WP.reg, List.mem_singleton] at h; simp [h]
    | sw => simp only [WP.reg, List.mem_singleton] at h; simp [h]
    | house => exact .inl (.inl (.inl (.inr h)))
    | seller i => exact .inl (.inl (.inr (mem_ads.mp ⟨i, h⟩)))
    | hwire i => exact .inl (.inr (mem_ads.mp ⟨i, h⟩))
    | swire i => exact .inr (mem_ads.mp ⟨i, h⟩)
    | row i =>
      obtain ⟨x, hx, h⟩ := mem_ads.mp ⟨i, (show a ∈ ads (fun a => [a]) w.ds[i]? from h)⟩
      rw [List.mem_singleton.mp h]
      exact .inl (.inl (.inl (.inl (.inr hx))))
theorem reg_os {w : WP} (r : Rg) : ∀ a, a ∈ w.reg r → a ∈ w.os := fun _ h => mem_os.mpr ⟨r, h⟩
/-- the world has gone on to another state -/
def WTo (A : Ad) (H : Hp) (w : WP) (S : Setup) (M : WM) (H' : Hp) : Prop := ∃ w', w'.p = w.p ∧ Fr w.os H H' ∧ (∀ a ∈ w'.os, a ∈ w.os ∨ H a = none) ∧ WAt A H' w' S M
theorem WTo.refl {A : Ad} {H : Hp} {w : WP} {S : Setup} {M : WM} (x : WAt A H w S M) : WTo A H w S M H := ⟨w, rfl, Fr.refl, fun _ h => .inl h, x⟩
theorem WTo.f0 {A : Ad} {H H1 H' : Hp} {w : WP} {S : Setup} {M : WM} (x : WTo A H w S M H1) (f : Fr [] H1 H') : WTo A H w S M H' := by
  obtain ⟨w', e, g, n, y⟩ := x
  exact ⟨w', e, g.then0 f, n, y.f0 f⟩
theorem WTo.pre {A : Ad} {H H1 H' : Hp} {w : WP} {S : Setup} {M : WM} (f : Fr [] H H1) (x : WTo A H1 w S M H') : WTo A H w S M H' := by
  obtain ⟨w', e, g, n, y⟩ := x
  exact ⟨w', e, g.pre0' f, fun a h => (n a h).elim .inl fun q => .inr (f.free q), y⟩
theorem WTo.trans {A : Ad} {H H1 H' : Hp} {w w1 : WP} {S : Setup} {M : WM} (e : w1.p = w.p) (f : Fr w.os H H1) (n : ∀ a ∈ w1.os, a ∈ w.os ∨ H a = none) (x : WTo A H1 w1 S M H') : WTo A H w S M H' := by
  obtain ⟨w', e', g, n', y⟩ := x
  refine ⟨w', e'.trans e, f.own g n, fun a h => ?_, y⟩
  rcases n' a h with q | q
  · exact n a q
  · by_cases z : a ∈ w.os
    · exact .inl z
    · exact .inr (f.freeL q z)
theorem WTo.then {A : Ad} {H H1 H' : Hp} {w : WP} {S : Setup} {M M' : WM} (x : WTo A H w S M H1) (k : ∀ w1, w1.p = w.p → WAt A H1 w1 S M → WTo A H1 w1 S M' H') : WTo A H w S M' H' := by
  obtain ⟨w1, e, f, n, y⟩ := x
  exact .trans e f n (k w1 e y)
section
variable {A : Ad} {H H' : Hp} {w : WP} {S : Setup} {M : WM}
theorem WAt.w_net {N : List Let} (x : WAt A H w S M) (f : Fr [w.net] H H') (e : LsAt H' w.net (N.map letD)) : WAt A H' w S { M with net := N } :=
  x.upd .net f (fun r _ => rfl) (fun a h => .inl h) (fun a h => by obtain ⟨_, vs, e, _⟩ := e; rw [List.mem_singleton.mp h]; exact ⟨_, e⟩) (fun r n p => by cases r <;> first | exact p | exact absurd rfl n) e
theorem WAt.w_hist {N : List Ev} (x : WAt A H w S M) (f : Fr [w.hist] H H') (e : LsAt H' w.hist (N.map evD)) : WAt A H' w S { M with hist := N } :=
  x.upd .hist f (fun r _ => rfl) (fun a h => .inl h) (fun a h => by obtain ⟨_, vs, e, _⟩ := e; rw [List.mem_singleton.mp h]; exact ⟨_, e⟩) (fun r n p => by cases r <;> first | exact p | exact absurd rfl n) e
theorem WAt.w_down {N : List Bool} (x : WAt A H w S M) (f : Fr [w.down] H H') (e : LsAt H' w.down (N.map .bool)) : WAt A H' w S { M with down := N } :=
  x.upd .down f (fun r _ => rfl) (fun a h => .inl h) (fun a h => by obtain ⟨_, vs, e, _⟩ := e; rw [List.mem_singleton.mp h]; exact ⟨_, e⟩) (fun r n p => by cases r <;> first | exact p | exact absurd rfl n) e
theorem WAt.w_asked {N : List Nat} (x : WAt A H w S M) (f : Fr [w.asked] H H') (e : LsAt H' w.asked (N.map fun n : Nat => .int n)) : WAt A H' w S { M with asked := N } :=
  x.upd .asked f (fun r _ => rfl) (fun a h => .inl h) (fun a h => by obtain ⟨_, vs, e, _⟩ := e; rw [List.mem_singleton.mp h]; exact ⟨_, e⟩) (fun r n p => by cases r <;> first | exact p | exact absurd rfl n) e
theorem WAt.to {w' : WP} {M' : WM} {l : List Addr} {H1 : Hp} (x : WAt A H' w' S M') (e : w'.p = w.p) (f : Fr l H H') (hl : ∀ a ∈ l, a ∈ w.os ∨ H a = none) (n : ∀ a ∈ w'.os, a ∈ w.os ∨ H a = none) : WTo A H w S M' H' :=
  ⟨w', e, (Fr.refl (l := w.os)).own f hl, n, x⟩
theorem WAt.to1 {M' : WM} {r : Rg} (x : WAt A H' w S M') (f : Fr (w.reg r) H H') : WTo A H w S M' H' := ⟨w, rfl, f.mono (reg_os r), fun _ h => .inl h, x⟩
end
def P_World_put (K : PySem.W.Frag) (A : Ad) (x0 x1 : V) (H : Hp) (Q : VK) : Prop := ∃ (w : WP) (S : Setup) (M : WM) (L : Let), x0 = .ref w.p ∧ WAt A H w S M ∧ Da H x1 (letD L) ∧ M.net.length ≤ 1000000 ∧
  ∀ H', Fr [w.net] H H' → WAt A H' w S { M with net := M.net ++ [L] } → Q .non H'
def sp_World_put (K : PySem.W.Frag) (A : Ad) : Sp := fun vs H Q _ => ∃ x0 x1, vs = [x0, x1] ∧ P_World_put K A x0 x1 H Q
theorem c_World_put {K : PySem.W.Frag} {A : Ad} {x0 x1 : V} {H : Hp} {Q : VK} {E : XK} (h : P_World_put K A x0 x1 H Q) : sp_World_put K A [x0, x1] H Q E := ⟨_, _, rfl, h⟩
theorem sc_World_put : FnScope ["self", "letter"] ["self", "letter"] (defScope s_World_put) := ⟨rfl, rfl, rfl, by decide +kernel, rfl, by decide +kernel, by decide +kernel⟩
def t_World_put (K : PySem.W.Frag) (A : Ad) : TS :=
  (tDrop (tBM K "list" rAppend (tFld K (tVar 0) "net") (tCons (tVar 1) tNil)))
theorem pu_World_put (T : Txt K mg A) {x0 x1 : V} {H : Hp} {Q : VK} (h : P_World_put K A x0 x1 H Q) : t_World_put K A { nx := fun _ H' => Q .non H', rt := Q } [some x0, some x1] H := by
  obtain ⟨w, S, M, L, rfl, x, dL, hl, k⟩ := h
  obtain ⟨dx, sv, e, _⟩ := x.pc .self
  obtain ⟨im, vs, en, dn⟩ := x.pc .net
  have hv : vs.length ≤ 1000000 := by rw [dn.len, List.length_map]; exact hl
  unfold t_World_put
  walk_at "go"
  rename_i H1 f1 e1
  exact k H1 f1 (x.w_net f1 (by rw [List.map_append]; exact LsAt.snoc dn im dL (imm_let L) f1 e1))
theorem ok_World_put {f : Addr} {fd : FuncData} (F : Fun K "put" "World.put" s_World_put f fd) (T : Txt K mg A)  : FnOk P w K mg base CX0 (1) f fd ["self", "letter"] (sp_World_put K A) := by
  refine F.ok sc_World_put (fun vs H Q E h => ?_) (fun cdv Ar outer s H vs Q E hr h => ⟨t_World_put K A, ?_, ?_⟩)
  · obtain ⟨x0, x1, rfl, _⟩ := h
    rfl
  · have hu := hu_of hr
    exact (pss_one (ps_expr (pe_bm PySem.F.plainAttrs_list PySem.F.slot_list_append PySem.F.type_list_append mt_append (pe_fld (pv 0) rfl) (pa_cons (pv 1) pa_nil))))
  · obtain ⟨x0, x1, rfl, h⟩ := h
    exact pu_World_put T h
def P_World_wire_of (K : PySem.W.Frag) (A : Ad) (x0 x1 x2 : V) (H : Hp) (Q : VK) : Prop := ∃ (w : WP) (S : Setup) (M : WM), x0 = .ref w.p ∧ WAt A H w S M ∧
  ((∃ (s : Nat) (r : WrP), x1 = .int (-1) ∧ x2 = .int s ∧ w.hws[s]? = some r ∧ Q (.ref r.p) H) ∨ (∃ (s : Nat) (r : WrP), x1 = .int s ∧ w.sws[s]? = some r ∧ Q (.ref r.p) H))
def sp_World_wire_of (K : PySem.W.Frag) (A : Ad) : Sp := fun vs H Q _ => ∃ x0 x1 x2, vs = [x0, x1, x2] ∧ P_World_wire_of K A x0 x1 x2 H Q
theorem c_World_wire_of {K : PySem.W.Frag} {A : Ad} {x0 x1 x2 : V} {H : Hp} {Q : VK} {E : XK} (h : P_World_wire_of K A x0 x1 x2 H Q) : sp_World_wire_of K A [x0, x1, x2] H Q E := ⟨_, _, _, rfl, h⟩
theorem sc_World_wire_of : FnScope ["self", "desk", "other"] ["self", "desk", "other"] (defScope s_World_wire_of) := ⟨rfl, rfl, rfl, by decide +kernel, rfl, by decide +kernel, by decide +kernel⟩
def t_World_wire_of (K : PySem.W.Frag) (A : Ad) : TS :=
  (tRet (tIf (tTest (tOp rEq (tVar 1) (tC (.int (-1))))) (tOp (rIxL K) (tFld K (tVar 0) "house_wires") (tVar 2)) (tOp (rIxL K) (tFld K (tVar 0) "seller_wires") (tVar 1))))
theorem pu_World_wire_of (T : Txt K mg A) {x0 x1 x2 : V} {H : Hp} {Q : VK} (h : P_World_wire_of K A x0 x1 x2 H Q) : t_World_wire_of K A { nx := fun _ H' => Q .non H', rt := Q } [some x0, some x1, some x2] H := by
  obtain ⟨w, S, M, rfl, x, k⟩ := h
  obtain ⟨dx, sv, e, _⟩ := x.pc .self
  obtain ⟨ehw, _⟩ := x.pc .hw
  obtain ⟨esw, _⟩ := x.pc .sw
  unfold t_World_wire_of
  rcases k with ⟨s, r, rfl, rfl, hr, k⟩ | ⟨s, r, rfl, hr, k⟩
  · walk_at "go"
    refine g_ite (fun _ => ?_) (fun z => absurd rfl z)
    walk_at "go"
    exact g_ixL (SqL.of ehw) (atI_nat (by rw [List.getElem?_map, hr]; rfl)) k
  · walk_at "go"
    refine g_ite (fun z => absurd z (by omega)) (fun _ => ?_)
    walk_at "go"
    exact g_ixL (SqL.of esw) (atI_nat (by rw [List.getElem?_map, hr]; rfl)) k
theorem ok_World_wire_of {f : Addr} {fd : FuncData} (F : Fun K "wire_of" "World.wire_of" s_World_wire_of f fd) (T : Txt K mg A)  : FnOk P w K mg base CX0 (1) f fd ["self", "desk", "other"] (sp_World_wire_of K A) := by
  refine F.ok sc_World_wire_of (fun vs H Q E h => ?_) (fun cdv Ar outer s H vs Q E hr h => ⟨t_World_wire_of K A, ?_, ?_⟩)
  · obtain ⟨x0, x1, x2, rfl, _⟩ := h
    rfl
  · have hu := hu_of hr
    exact (pss_one (ps_ret (pe_ifExp (pt_cmpR op_eq (pv 1) (pe_gint T.g_HOUSE (by rfl)) (nomark _)) (pe_ix ix_list (pe_fld (pv 0) rfl) (pv 2) (fun _ _ => rfl)) (pe_ix ix_list (pe_fld (pv 0) rfl) (pv 1) (fun _ _ => rfl)))))
  · obtain ⟨x0, x1, x2, rfl, h⟩ := h
    exact pu_World_wire_of T h
/-- what a desk's tick puts into the net: the house, the sellers -/
def WM.tickD (M : WM) (s : Nat) : List Let := match M.hw[s]? with
  | none => []
  | some r => r.box.map fun e => .dn s e.1 e.2
def WM.tickH (M : WM) : List Let := (List.range M.hw.length).flatMap M.tickD
def WM.tickS (M : WM) (s : Nat) : List Let := match M.sw[s]? with
  | none => []
  | some r => r.box.map fun e => .up s e.1 e.2
def WM.ticks (M : WM) : Nat → List Let
  | 0 => M.tickH
  | s + 1 => M.tickS s
def WM.tick (M : WM) (i : Nat) : WM := if M.down.getD i false = true then M else { M with net := M.net ++ M.ticks i }
structure WM.Dim (S : Setup) (M : WM) : Prop where
  ss : M.ss.length = S.sellers.toNat
  hw : M.hw.length = S.sellers.toNat
  sw : M.sw.length = S.sellers.toNat
  down : M.down.length = S.sellers.toNat + 1
  asked : M.asked.length = S.sellers.toNat
  deeds : M.deeds.length = S.sellers.toNat
  bk : M.h.bk.length = S.sellers.toNat
def P_World_tick (K : PySem.W.Frag) (A : Ad) (x0 x1 : V) (H : Hp) (Q : VK) : Prop := ∃ (w : WP) (S : Setup) (M : WM) (i : Nat), x0 = .ref w.p ∧ WAt A H w S M ∧ SetupOk S ∧ M.Dim S ∧ x1 = .int ((i : Int) - 1) ∧ i ≤ S.sellers.toNat ∧ (M.net ++ M.ticks i).length ≤ 1000000 ∧
  ∀ H', Fr [w.net] H H' → WAt A H' w S (M.tick i) → Q .non H'
theorem WAt.net_le {A : Ad} {H : Hp} {w : WP} {S : Setup} {M : WM} {N : List Let} (x : WAt A H w S M) (h : M.net = N) : WAt A H w S { M with net := N } := by subst h; exact x
theorem WAt.eq {A : Ad} {H : Hp} {w : WP} {S : Setup} {M M' : WM} (x : WAt A H w S M) (h : M = M') : WAt A H w S M' := h ▸ x
def sp_World_tick (K : PySem.W.Frag) (A : Ad) : Sp := fun vs H Q _ => ∃ x0 x1, vs = [x0, x1] ∧ P_World_tick K A x0 x1 H Q
theorem c_World_tick {K : PySem.W.Frag} {A : Ad} {x0 x1 : V} {H : Hp} {Q : VK} {E : XK} (h : P_World_tick K A x0 x1 H Q) : sp_World_tick K A [x0, x1] H Q E := ⟨_, _, rfl, h⟩
theorem sc_World_tick : FnScope ["self", "desk", "others", "other", "number", "body"] ["self", "desk"] (defScope s_World_tick) := ⟨rfl, rfl, rfl, by decide +kernel, rfl, by decide +kernel, by decide +kernel⟩
def t_tickin (K : PySem.W.Frag) (A : Ad) : TS :=
  (tFor (iList K (tFld K (tMt A.World "wire_of" (sp_World_wire_of K A) (tVar 0) (tCons (tVar 1) (tCons (tVar 3) tNil))) "outbox")) (gTup K 2 (gCons (gName 4) (gCons (gName 5) gNil))) (tDrop (tMt A.World "put" (sp_World_put K A) (tVar 0) (tCons (tTup (tCons (tVar 3) (tCons (tVar 1) (tCons (tC (.str "data")) (tCons (tVar 4) (tCons (tVar 5) tNil)))))) tNil))))
def t_World_tick (K : PySem.W.Frag) (A : Ad) : TS :=
  (tSeq (tIfS (tB (tOp (rIxL K) (tFld K (tVar 0) "down") (tOp oAdd (tVar 1) (tC (.int 1))))) tRetN tNext)
    (tSeq (tAsg (tIf (tTest (tOp rEq (tVar 1) (tC (.int (-1))))) (tLstRg (tRg1 (tCB (rLenSq K) (tCons (tFld K (tVar 0) "sellers") tNil)))) (tLst (tCons (tC (.int (-1))) tNil))) (gName 2))
    (tFor (iList K (tVar 2)) (gName 3) (t_tickin K A))))
/-- the letters of one outbox -/
theorem tickin (T : Txt K mg A) {D : Ends} {H : Hp} {w : WP} {S : Setup} {M : WM} {v2 v4 v5 : Option V} {de ot : Int} {s : Nat} {r : WrP} {ps : List (Nat × PyData)} {Ls : List Let} (x : WAt A H w S M) (hr : (de = -1 ∧ ot = s ∧ w.hws[s]? = some r) ∨ (de = s ∧ w.sws[s]? = some r))
    (ne : r.box ≠ w.net) (hp : ∃ dx n e, H r.p = some (.ins A.Wire dx (F_Wire n r.box e))) (hb : LsAt H r.box (ps.map fun e => .tuple [.int e.1, e.2])) (hL : Ls.map letD = ps.map fun e => .tuple [.int ot, .int de, .str "data", .int e.1, e.2])
    (hl : (M.net ++ Ls).length ≤ 1000000) (nx : ∀ v4 v5 H', Fr [w.net] H H' → WAt A H' w S { M with net := M.net ++ Ls } → D.nx [some (.ref w.p), some (.int de), v2, some (.int ot), v4, v5] H') :
    t_tickin K A D [some (.ref w.p), some (.int de), v2, some (.int ot), v4, v5] H := by
  obtain ⟨dx, n, e, hp⟩ := hp
  obtain ⟨im, vs, eb, db⟩ := hb
  have lLs : Ls.length = ps.length := by have := congrArg List.length hL; rwa [List.length_map, List.length_map] at this
  have lvs : vs.length = ps.length := by rw [db.len, List.length_map]
  rw [List.length_append] at hl
  have go : ∀ R : V → Hp → Prop, R (.ref r.p) H → P_World_wire_of K A (.ref w.p) (.int de) (.int ot) H R := fun R k => ⟨w, S, M, rfl, x, by
    rcases hr with ⟨h1, h2, h3⟩ | ⟨h1, h2⟩
    · exact .inl ⟨s, r, by rw [h1], by rw [h2], h3, k⟩
    · exact .inr ⟨s, r, by rw [h1], h2, k⟩⟩
  obtain ⟨dxw, svw, ew, _⟩ := x.pc .self
  unfold t_tickin
  walk_at "go"
  refine c_World_wire_of (go _ ?_)
  walk_at "go"
  refine f_list (xs := vs) (fun i σ H' => (∃ v4 v5, σ = [some (.ref w.p), some (.int de), v2, some (.int ot), v4, v5]) ∧ Fr [w.net] H H' ∧ WAt A H' w S { M with net := M.net ++ Ls.take i }) ⟨⟨_, _, rfl⟩, Fr.refl, x.net_le (by rw [List.take_zero, List.append_nil])⟩ (fun i σ H' _ ⟨_, f, _⟩ => SqL.of (f.at eb (nin1 ne nin0))) ?_ ?_
  · rintro i v σ H1 hv ⟨⟨v4, v5, rfl⟩, f1, x1⟩
    obtain ⟨d0, hd0, dv⟩ := db.get hv
    rw [List.getElem?_map] at hd0
    obtain ⟨e0, he0, rfl⟩ := Option.map_eq_some_iff.mp hd0
    have ime : imm (.tuple [.int e0.1, e0.2]) = true := immL_get im (by rw [List.getElem?_map, he0]; rfl)
    have dv1 := Da.frL f1 dv ime
    obtain ⟨t, xs, rfl, et, _, dx2⟩ := dv1.tup1
    obtain ⟨u1, u2, rfl, d1, d2⟩ := dx2.two
    cases d1.int1
    have hi := (List.getElem?_eq_some_iff.mp he0).1
    obtain ⟨L, hLi⟩ : ∃ L, Ls[i]? = some L := ⟨_, List.getElem?_eq_getElem (by omega)⟩
    have eL : letD L = .tuple [.int ot, .int de, .str "data", .int e0.1, e0.2] := by
      have := congrArg (fun l => l[i]?) hL
      rw [List.getElem?_map, List.getElem?_map, hLi, he0] at this
      exact Option.some.inj this
    have ime2 : imm e0.2 = true := by
      have : (true && (imm e0.2 && true)) = true := ime
      rwa [Bool.true_and, Bool.and_true] at this
    obtain ⟨dxw1, svw1, ew1, _⟩ := x1.pc .self
    clear ew
    walk_at "go"
    rename_i lt H2 n2 f2 e2
    refine c_World_put ⟨w, S, _, L, rfl, x1.f0 f2, by rw [eL]; exact .tup e2 (Nat.le_of_ble_eq_true rfl) (.cons (.int _) (.cons (.int _) (.cons (.str _) (.cons (.int _) (.one' (Da.frL f2 d2 ime2)))))), ?_, fun H3 f3 x3 => ?_⟩
    · show (M.net ++ Ls.take i).length ≤ 1000000
      rw [List.length_append, List.length_take]; omega
    · walk_at "go"
      refine ⟨⟨_, _, rfl⟩, (f1.then0 f2).transL f3, x3.eq ?_⟩
      rw [take_more hLi, List.append_assoc]
  · rintro σ H1 ⟨⟨v4, v5, rfl⟩, f1, x1⟩
    refine nx v4 v5 H1 f1 (x1.eq ?_)
    rw [lvs, ← lLs, List.take_length]
theorem ticksH_snoc {M : WM} {k : Nat} {r : WrM DnB} (h : M.hw[k]? = some r) : (List.range (k + 1)).flatMap M.tickD = (List.range k).flatMap M.tickD ++ r.box.map fun e => Let.dn k e.1 e.2 := by
  rw [List.range_succ, List.flatMap_append]
  simp [h, WM.tickD]
theorem pu_World_tick (T : Txt K mg A) {x0 x1 : V} {H : Hp} {Q : VK} (h : P_World_tick K A x0 x1 H Q) : t_World_tick K A { nx := fun _ H' => Q .non H', rt := Q } [some x0, some x1, none, none, none, none] H := by
  obtain ⟨w, S, M, i, rfl, x, so, dm, rfl, hi, hl, k⟩ := h
  obtain ⟨dx, sv, e, _⟩ := x.pc .self
  obtain ⟨imd, vd, ed, dd⟩ := x.pc .down
  have hs2 := so.s2
  have hs1 := so.s1
  have hvd : vd.length = S.sellers.toNat + 1 := by rw [dd.len, List.length_map, dm.down]
  obtain ⟨b, hb⟩ : ∃ b, M.down[i]? = some b := ⟨_, List.getElem?_eq_getElem (by rw [dm.down]; omega)⟩
  obtain ⟨v, hv, dv⟩ := dd.get' (i := i) (d := .bool b) (by rw [List.getElem?_map, hb]; rfl)
  cases dv.bl1
  have gb : M.down.getD i false = b := by rw [List.getD_eq_getElem?_getD, hb]; rfl
  unfold t_World_tick
  walk_at "go"
  rw [show (i : Int) - 1 + 1 = i by omega]
  refine g_ixL (SqL.of ed) (atI_nat hv) ?_
  walk_at "go"
  refine g_iteB (fun c => ?_) (fun c => ?_)
  · walk_at "go"
    refine k H Fr.refl (x.eq ?_)
    unfold WM.tick; rw [gb, if_pos c]
  have hk : WM.tick M i = { M with net := M.net ++ M.ticks i } := by unfold WM.tick; rw [gb, if_neg (by rw [c]; decide)]
  rw [hk] at k
  walk_at "go"
  obtain ⟨esel, lsel⟩ := x.pc .sel
  have lss : w.ss.length = S.sellers.toNat := by rw [lsel, dm.ss]
  cases i with
  | zero =>
    refine g_ite (fun _ => ?_) (fun z => absurd rfl z)
    walk_at "go"
    rw [List.length_map, lss]
    refine g_rlrg1 ⟨by omega, by omega, by omega, by omega, by omega⟩ fun p1 H1 n1 f1 e1 => ?_
    rw [rgV_0] at e1
    have x1 := x.f0 f1
    have np1 : p1 ≠ w.net := fun z => by obtain ⟨o, q⟩ := x.own.al .net w.net List.mem_cons_self; rw [← z, n1] at q; cases q
    walk_at "go"
    refine f_list (xs := (List.range S.sellers.toNat).map fun i : Nat => V.int (i : Int)) (fun j σ H' => (∃ v3 v4 v5, σ = [some (.ref w.p), some (.int (((0 : Nat) : Int) - 1)), some (.ref p1), v3, v4, v5]) ∧ Fr [w.net] H1 H' ∧ WAt A H' w S { M with net := M.net ++ (List.range j).flatMap M.tickD }) ⟨⟨_, _, _, rfl⟩, Fr.refl, x1.net_le (by simp)⟩ (fun j σ H' _ ⟨_, f, _⟩ => SqL.of (f.at e1 (nin1 np1 nin0))) ?_ ?_
    · rintro j v σ H2 hv ⟨⟨v3, v4, v5, rfl⟩, f2, x2⟩
      rw [List.getElem?_map] at hv
      obtain ⟨j', hj', rfl⟩ := Option.map_eq_some_iff.mp hv
      have hj := (List.getElem?_eq_some_iff.mp hj').1
      rw [List.length_range] at hj
      rw [List.getElem?_range hj] at hj'
      cases hj'
      obtain ⟨m, hm⟩ : ∃ m, M.hw[j]? = some m := ⟨_, List.getElem?_eq_getElem (by rw [dm.hw]; exact hj)⟩
      obtain ⟨_, lhw⟩ := x2.pc .hw
      obtain ⟨r, hr⟩ : ∃ r, w.hws[j]? = some r := ⟨_, List.getElem?_eq_getElem (by rw [lhw]; show j < M.hw.length; rw [dm.hw]; exact hj)⟩
      obtain ⟨⟨dxr, er⟩, br⟩ := x2.pc (.hwire j) r m hr hm
      have hin : r.box ∈ w.reg (.hwire j) := by show r.box ∈ ads WrP.os w.hws[j]?; rw [hr]; simp [ads, WrP.os]
      walk_at "go"
      refine tickin (s := j) (r := r) (ps := m.box.map fun e => (e.1, dnD e.2)) (Ls := m.box.map fun e => Let.dn j e.1 e.2) T x2 (.inl ⟨by omega, rfl, hr⟩) (fun z => by cases x2.own.dj _ .net _ hin (by rw [z]; exact List.mem_cons_self)) ⟨dxr, _, _, er⟩ (by rw [List.map_map]; exact br) (by rw [List.map_map, List.map_map]; rfl) ?_ fun v4 v5 H3 f3 x3 => ⟨⟨_, _, _, rfl⟩, f2.transL f3, x3.eq ?_⟩
      · show ((M.net ++ _) ++ _).length ≤ 1000000
        rw [List.append_assoc, ← ticksH_snoc hm]
        refine Nat.le_trans ?_ hl
        rw [List.length_append, List.length_append]
        refine Nat.add_le_add_left ?_ _
        show _ ≤ (WM.tickH M).length
        unfold WM.tickH
        obtain ⟨t, ht⟩ : ∃ t, M.hw.length = (j + 1) + t := ⟨M.hw.length - (j + 1), by rw [dm.hw]; omega⟩
        rw [ht, show List.range (j + 1 + t) = List.range (j + 1) ++ (List.range t).map (fun x => j + 1 + x) from List.range_add .., List.flatMap_append, List.length_append]
        exact Nat.le_add_right _ _
      · show ({ M with net := (M.net ++ _) ++ _ } : WM) = _
        rw [List.append_assoc, ← ticksH_snoc hm]
    · rintro σ H2 ⟨⟨v3, v4, v5, rfl⟩, f2, x2⟩
      refine k H2 (f2.pre0' f1) (x2.eq ?_)
      rw [List.length_map, List.length_range, ← dm.hw]; rfl
  | succ i =>
    refine g_ite (fun z => absurd z (by omega)) (fun _ => ?_)
    walk_at "go"
    rename_i p1 H1 n1 f1 e1
    have x1 := x.f0 f1
    have np1 : p1 ≠ w.net := fun z => by obtain ⟨o, q⟩ := x.own.al .net w.net List.mem_cons_self; rw [← z, n1] at q; cases q
    obtain ⟨m, hm⟩ : ∃ m, M.sw[i]? = some m := ⟨_, List.getElem?_eq_getElem (by rw [dm.sw]; omega)⟩
    obtain ⟨_, lsw⟩ := x1.pc .sw
    obtain ⟨r, hr⟩ : ∃ r, w.sws[i]? = some r := ⟨_, List.getElem?_eq_getElem (by rw [lsw]; show i < M.sw.length; rw [dm.sw]; omega)⟩
    have hin : r.box ∈ w.reg (.swire i) := by show r.box ∈ ads WrP.os w.sws[i]?; rw [hr]; simp [ads, WrP.os]
    have ht : M.ticks (i + 1) = m.box.map fun e => Let.up i e.1 e.2 := by show M.tickS i = _; unfold WM.tickS; rw [hm]
    rw [ht] at k hl
    refine f_list (xs := [V.int (-1)]) (fun j σ H' => (∃ v3 v4 v5, σ = [some (.ref w.p), some (.int (((i + 1 : Nat) : Int) - 1)), some (.ref p1), v3, v4, v5]) ∧ ((j = 0 ∧ H' = H1) ∨ (j = 1 ∧ Fr [w.net] H1 H' ∧ WAt A H' w S { M with net := M.net ++ m.box.map fun e => Let.up i e.1 e.2 }))) ⟨⟨_, _, _, rfl⟩, .inl ⟨rfl, rfl⟩⟩ (fun j σ H' _ ⟨_, h⟩ => ?_) ?_ ?_
    · rcases h with ⟨_, q⟩ | ⟨_, f, _⟩
      · rw [q]; exact SqL.of e1
      · exact SqL.of (f.at e1 (nin1 np1 nin0))
    · rintro j v σ H2 hv ⟨⟨v3, v4, v5, rfl⟩, h⟩
      have hj : j = 0 := by have := (List.getElem?_eq_some_iff.mp hv).1; simpa using this
      subst hj
      cases Option.some.inj hv
      rcases h with ⟨_, rfl⟩ | ⟨z, _⟩
      · obtain ⟨⟨dxr, er⟩, br⟩ := x1.pc (.swire i) r m hr hm
        walk_at "go"
        refine tickin (s := i) (r := r) (ps := m.box.map fun e => (e.1, upD e.2)) (Ls := m.box.map fun e => Let.up i e.1 e.2) T x1 (.inr ⟨by omega, hr⟩) (fun z => by cases x1.own.dj _ .net _ hin (by rw [z]; exact List.mem_cons_self)) ⟨dxr, _, _, er⟩ (by rw [List.map_map]; exact br) (by rw [List.map_map, List.map_map, show ((i + 1 : Nat) : Int) - 1 = i by omega]; rfl) hl fun v4 v5 H3 f3 x3 => ⟨⟨_, _, _, rfl⟩, .inr ⟨rfl, f3, x3⟩⟩
      · cases z
    · rintro σ H2 ⟨⟨v3, v4, v5, rfl⟩, h⟩
      rcases h with ⟨z, _⟩ | ⟨_, f2, x2⟩
      · cases z
      · exact k H2 (f2.pre0' f1) x2
theorem ok_World_tick {f : Addr} {fd : FuncData} (F : Fun K "tick" "World.tick" s_World_tick f fd) (T : Txt K mg A) (c_World_wire_of : CalM P w K mg base A.World "wire_of" 1 ["self", "desk", "other"] (sp_World_wire_of K A)) (c_World_put : CalM P w K mg base A.World "put" 1 ["self", "letter"] (sp_World_put K A)) : FnOk P w K mg base CX0 (2) f fd ["self", "desk"] (sp_World_tick K A) := by
  refine F.ok sc_World_tick (fun vs H Q E h => ?_) (fun cdv Ar outer s H vs Q E hr h => ⟨t_World_tick K A, ?_, ?_⟩)
  · obtain ⟨x0, x1, rfl, _⟩ := h
    rfl
  · have hu := hu_of hr
    exact (pss_cons (ps_if (pt_val (pe_ix ix_list (pe_fld (pv 0) rfl) (pe_op o_add (pv 1) pe_int) (fun _ _ => rfl))) (pss_one ps_retN) pss_nil)
    (pss_cons (ps_set (i := 2) sc_World_tick.nd rfl (Or.inl rfl) (pe_ifExp (pt_cmpR op_eq (pv 1) (pe_gint T.g_HOUSE (by rfl)) (nomark _)) (pe_listRg rfl (by rfl) T.b_list (prg_1 (by rfl) T.b_range (pe_callB b_len (by rfl) T.b_len (by decide +kernel) (pa_cons (pe_fld (pv 0) rfl) pa_nil)))) (pe_lst (pa_cons (pe_gint T.g_HOUSE (by rfl)) pa_nil))))
    (pss_one (ps_for PassesOwn.never rfl (pi_list (pv 2)) (pg_name (i := 3) sc_World_tick.nd rfl (Or.inl rfl)) (pss_one (ps_for PassesOwn.never rfl (pi_list (pe_fld (pe_mt (pv 0) T.cl_World c_World_wire_of (hr.mono (by first | decide | omega)) (pa_cons (pv 1) (pa_cons (pv 3) pa_nil))) rfl)) (pg_tup rfl (pgs_cons (pg_name (i := 4) sc_World_tick.nd rfl (Or.inl rfl)) (pgs_cons (pg_name (i := 5) sc_World_tick.nd rfl (Or.inl rfl)) pgs_nil))) (pss_one (ps_expr (pe_mt (pv 0) T.cl_World c_World_put (hr.mono (by first | decide | omega)) (pa_cons (pe_tup (pa_cons (pv 3) (pa_cons (pv 1) (pa_cons pe_str (pa_cons (pv 4) (pa_cons (pv 5) pa_nil)))))) pa_nil))))))))))
  · obtain ⟨x0, x1, rfl, h⟩ := h
    exact pu_World_tick T h

/-! ### a world's wires wait, desks come up -/
/-- one piece is at a new place -/
theorem WAt.upd2 {A : Ad} {H H' : Hp} {S : Setup} {w w' : WP} {M M' : WM} (x : WAt A H w S M) (r1 : Rg) (f : Fr (w.p :: w.reg r1) H H') (hs : r1 ≠ .self) (ho : ∀ r, r ≠ r1 → w'.reg r = w.reg r) (hn : ∀ a ∈ w'.reg r1, a ∈ w.reg r1 ∨ H a = none)
    (al : ∀ a ∈ w'.reg r1, ∃ o, H' a = some o) (hp : ∀ r, r ≠ .self → r ≠ r1 → Pc A H' S w M r → Pc A H' S w' M' r) (h0 : Pc A H' S w' M' .self) (h1 : Pc A H' S w' M' r1) : WAt A H' w' S M' := by
  have hap : ∀ r, r ≠ .self → r ≠ r1 → ∀ a ∈ w.reg r, a ∉ w.p :: w.reg r1 := fun r z0 z1 a h q => by
    rcases List.mem_cons.mp q with q | q
    · exact z0 (x.own.dj r .self a h (by rw [q]; exact List.mem_cons_self))
    · exact z1 (x.own.dj r r1 a h q)
  refine ⟨x.own.grow r1 hn (fun r z a h => by rw [ho r z] at h; exact h) (fun r a h => ?_), fun r => ?_⟩
  · by_cases z : r = r1
    · rw [z] at h; exact al a h
    · rw [ho r z] at h
      by_cases z0 : r = .self
      · rw [z0] at h
        have e0 : w'.p = w.p := by
          have e1 : [w'.p] = [w.p] := ho .self (fun q => hs q.symm)
          exact (List.cons.inj e1).1
        rw [List.mem_singleton.mp h, ← e0]
        obtain ⟨dx, sv, e, _⟩ := h0
        exact ⟨_, e⟩
      · obtain ⟨o, e⟩ := x.own.al r a h
        exact ⟨o, f.at e (hap r z0 z a h)⟩
  · by_cases z : r = r1
    · rw [z]; exact h1
    · by_cases z0 : r = .self
      · rw [z0]; exact h0
      · exact hp r z0 z (Pc.fr f (x.pc r) (hap r z0 z))
theorem WAt.w_downN {A : Ad} {H H' : Hp} {S : Setup} {w : WP} {M : WM} {Dl dx : Addr} {sv : V} {N : List Bool} (x : WAt A H w S M) (f : Fr [w.p] H H') (n : H Dl = none) (e : H' w.p = some (.ins A.World dx (F_World sv w.h.p w.sel w.net w.hist Dl w.deeds w.asked w.hw w.sw))) (dS : Da H sv (setupD S)) (l : LsAt H' Dl (N.map .bool)) :
    WAt A H' { w with down := Dl } S { M with down := N } :=
  x.upd2 (w' := { w with down := Dl }) .down (f.mono fun a h => by rw [List.mem_singleton.mp h]; exact List.mem_cons_self) (by intro z; cases z) (fun r z => by cases r <;> first | rfl | exact absurd rfl z) (fun a h => by rw [List.mem_singleton.mp h]; exact .inr n) (fun a h => by obtain ⟨_, vs, e, _⟩ := l; rw [List.mem_singleton.mp h]; exact ⟨_, e⟩)
    (fun r z0 z1 p => by cases r <;> first | exact p | exact absurd rfl z0 | exact absurd rfl z1) ⟨dx, sv, e, Da.frL f dS (imm_setup S)⟩ l
theorem WAt.w_netN {A : Ad} {H H' : Hp} {S : Setup} {w : WP} {M : WM} {Dl dx : Addr} {sv : V} {N : List Let} (x : WAt A H w S M) (f : Fr [w.p] H H') (n : H Dl = none) (e : H' w.p = some (.ins A.World dx (F_World sv w.h.p w.sel Dl w.hist w.down w.deeds w.asked w.hw w.sw))) (dS : Da H sv (setupD S)) (l : LsAt H' Dl (N.map letD)) :
    WAt A H' { w with net := Dl } S { M with net := N } :=
  x.upd2 (w' := { w with net := Dl }) .net (f.mono fun a h => by rw [List.mem_singleton.mp h]; exact List.mem_cons_self) (by intro z; cases z) (fun r z => by cases r <;> first | rfl | exact absurd rfl z) (fun a h => by rw [List.mem_singleton.mp h]; exact .inr n) (fun a h => by obtain ⟨_, vs, e, _⟩ := l; rw [List.mem_singleton.mp h]; exact ⟨_, e⟩)
    (fun r z0 z1 p => by cases r <;> first | exact p | exact absurd rfl z0 | exact absurd rfl z1) ⟨dx, sv, e, Da.frL f dS (imm_setup S)⟩ l
/-- addresses of a world with one piece at a new place -/
theorem os_new {w w' : WP} {H : Hp} (h : ∀ r, ∀ a ∈ w'.reg r, a ∈ w.reg r ∨ H a = none) : ∀ a ∈ w'.os, a ∈ w.os ∨ H a = none := fun a ha => by
  obtain ⟨r, hr⟩ := mem_os.mp ha
  rcases h r a hr with q | q
  · exact .inl (reg_os r a q)
  · exact .inr q
def WM.waits (M : WM) : Bool := M.hw.any (fun r => !r.box.isEmpty) || M.sw.any (fun r => !r.box.isEmpty)
def P_World_waits (K : PySem.W.Frag) (A : Ad) (x0 : V) (H : Hp) (Q : VK) : Prop := ∃ (w : WP) (S : Setup) (M : WM), x0 = .ref w.p ∧ WAt A H w S M ∧ SetupOk S ∧ M.Dim S ∧ ∀ H', Fr [] H H' → Q (.bl M.waits) H'
def sp_World_waits (K : PySem.W.Frag) (A : Ad) : Sp := fun vs H Q _ => ∃ x0, vs = [x0] ∧ P_World_waits K A x0 H Q
theorem c_World_waits {K : PySem.W.Frag} {A : Ad} {x0 : V} {H : Hp} {Q : VK} {E : XK} (h : P_World_waits K A x0 H Q) : sp_World_waits K A [x0] H Q E := ⟨_, rfl, h⟩
theorem sc_World_waits : FnScope ["self", "wire"] ["self"] (defScope s_World_waits) := ⟨rfl, rfl, rfl, by decide +kernel, rfl, by decide +kernel, by decide +kernel⟩
def t_World_waits (K : PySem.W.Frag) (A : Ad) : TS :=
  (tRet (tCB (rAnyLs K) (tCons (tLc (iList K (tOp rCat (tFld K (tVar 0) "house_wires") (tFld K (tVar 0) "seller_wires"))) (gName 1) tYes (tFld K (tVar 1) "outbox") [1]) tNil)))
theorem pu_World_waits (T : Txt K mg A) {x0 : V} {H : Hp} {Q : VK} (h : P_World_waits K A x0 H Q) : t_World_waits K A { nx := fun _ H' => Q .non H', rt := Q } [some x0, none] H := by
  obtain ⟨w, S, M, rfl, x, so, dm, k⟩ := h
  obtain ⟨dx, sv, e, _⟩ := x.pc .self
  obtain ⟨ehw, lhw⟩ := x.pc .hw
  obtain ⟨esw, lsw⟩ := x.pc .sw
  have hs2 := so.s2
  have lhw' : w.hws.length = S.sellers.toNat := by rw [lhw, dm.hw]
  have lsw' : w.sws.length = S.sellers.toNat := by rw [lsw, dm.sw]
  unfold t_World_waits
  walk_at "go"
  refine g_cat ehw esw (szL (by rw [List.length_map, List.length_map]; omega)) fun p1 H1 n1 f1 e1 => ?_
  have x1 := x.f0 f1
  have key : ∀ (i : Nat) (r : WrP), (w.hws ++ w.sws)[i]? = some r → ∃ (n : Int) (dx : Addr) (ex : Int) (xs : List V) (ps : List PyData), H1 r.p = some (.ins A.Wire dx (F_Wire n r.box ex)) ∧ H1 r.box = some (.lst xs) ∧ ((M.hw.map fun r => !r.box.isEmpty) ++ (M.sw.map fun r => !r.box.isEmpty))[i]? = some (!xs.isEmpty) := fun i r hr => by
    by_cases q : i < w.hws.length
    · rw [List.getElem?_append_left q] at hr
      obtain ⟨m, hm⟩ : ∃ m, M.hw[i]? = some m := ⟨_, List.getElem?_eq_getElem (by rw [dm.hw]; omega)⟩
      obtain ⟨⟨dx, er⟩, im, vs, eb, db⟩ := x1.pc (.hwire i) r m hr hm
      refine ⟨_, dx, _, vs, [], er, eb, ?_⟩
      rw [List.getElem?_append_left (by rw [List.length_map, dm.hw]; omega), List.getElem?_map, hm]
      have := db.len
      unfold boxD at this
      rw [List.length_map] at this
      show some (!m.box.isEmpty) = some (!vs.isEmpty)
      cases h1 : m.box <;> cases h2 : vs <;> first | rfl | (rw [h1, h2] at this; cases this)
    · rw [List.getElem?_append_right (by omega)] at hr
      have hj := (List.getElem?_eq_some_iff.mp hr).1
      obtain ⟨m, hm⟩ : ∃ m, M.sw[i - w.hws.length]? = some m := ⟨_, List.getElem?_eq_getElem (by rw [dm.sw]; omega)⟩
      obtain ⟨⟨dx, er⟩, im, vs, eb, db⟩ := x1.pc (.swire (i - w.hws.length)) r m hr hm
      refine ⟨_, dx, _, vs, [], er, eb, ?_⟩
      rw [List.getElem?_append_right (by rw [List.length_map, dm.hw]; omega), List.length_map, List.getElem?_map, dm.hw, ← lhw', hm]
      have := db.len
      unfold boxD at this
      rw [List.length_map] at this
      show some (!m.box.isEmpty) = some (!vs.isEmpty)
      cases h1 : m.box <;> cases h2 : vs <;> first | rfl | (rw [h1, h2] at this; cases this)
  rw [← List.map_append] at e1
  walk_at "go"
  refine l_list (xs := (w.hws ++ w.sws).map fun s => V.ref s.p) fun Dl H2 n2 f2 e2 => ⟨fun i acc H' => acc = ((w.hws ++ w.sws).take i).map (fun r => V.ref r.box) ∧ Fr [] H1 H', ⟨rfl, f2⟩, fun i acc H' ⟨_, f⟩ => SqL.of (f.at0 e1), fun i v acc H3 hv ha ⟨ea, f⟩ => ?_, fun acc H3 ha ⟨ea, f⟩ => ?_⟩
  · rw [List.getElem?_map] at hv
    obtain ⟨r, hr, rfl⟩ := Option.map_eq_some_iff.mp hv
    obtain ⟨n, dxr, ex, xs, ps, er, eb, _⟩ := key i r hr
    have er3 := f.at0 er
    have hi := (List.getElem?_eq_some_iff.mp hr).1
    rw [List.length_append] at hi
    walk_at "go"
    refine ⟨rfl, ?_⟩
    walk_at "go"
    refine lcY_of ha (szM (by rw [ea, List.length_map, List.length_take]; omega)) fun H4 f4 e4 => ⟨by rw [ea, take_more hr, List.map_append]; rfl, f.own1 f4 n2⟩
  · rw [List.length_map, List.take_length] at ea
    subst ea
    walk_at "go"
    have e5 : (w.hws ++ w.sws).map (fun r => V.ref r.box) = ((w.hws ++ w.sws).map WrP.box).map V.ref := by rw [List.map_map]; rfl
    rw [e5] at ha
    refine g_anyLs (bs := (M.hw.map fun r => !r.box.isEmpty) ++ (M.sw.map fun r => !r.box.isEmpty)) (SqL.of ha) (by rw [List.length_append, List.length_map, List.length_map, List.length_map, List.length_append, dm.hw, dm.sw, lhw', lsw']) (fun i r b hr hb => ?_) ?_
    · rw [List.getElem?_map] at hr
      obtain ⟨r0, hr0, rfl⟩ := Option.map_eq_some_iff.mp hr
      obtain ⟨n, dxr, ex, xs, ps, er, eb, hbb⟩ := key i r0 hr0
      rw [hb] at hbb
      exact ⟨xs, f.at0 eb, Option.some.inj hbb⟩
    · have := k H3 (f1.then0 f)
      unfold WM.waits at this
      rw [List.any_append, List.any_map, List.any_map]
      exact this
theorem ok_World_waits {f : Addr} {fd : FuncData} (F : Fun K "waits" "World.waits" s_World_waits f fd) (T : Txt K mg A)  : FnOk P w K mg base CX0 (1) f fd ["self"] (sp_World_waits K A) := by
  refine F.ok sc_World_waits (fun vs H Q E h => ?_) (fun cdv Ar outer s H vs Q E hr h => ⟨t_World_waits K A, ?_, ?_⟩)
  · obtain ⟨x0, rfl, _⟩ := h
    rfl
  · have hu := hu_of hr
    exact (pss_one (ps_ret (pe_callB (call_anyLs rfl) (by rfl) T.b_any (by decide +kernel) (pa_cons (pe_lc (own := [("wire", 1)]) (g := (gName 1)) (tt := tYes) rfl sc_World_waits.nd (pi_list (pe_op op_cat (pe_fld (pv 0) rfl) (pe_fld (pv 0) rfl))) (blkOk_by (N := ["self", "wire"]) (sc := defScope s_World_waits) (own := [("wire", 1)]) (by decide +kernel)) (fun _ _ _ _ _ => (pg_name (i := 1) sc_World_waits.nd rfl (Or.inl rfl))) (fun _ _ _ _ _ => pts_nil) (fun _ _ _ _ _ => (pe_fld (pv 1) rfl))) pa_nil))))
  · obtain ⟨x0, rfl, h⟩ := h
    exact pu_World_waits T h
def WM.rise (M : WM) : WM := { M with down := M.down.map fun _ => false }
def P_World_rise (K : PySem.W.Frag) (A : Ad) (x0 : V) (H : Hp) (Q : VK) : Prop := ∃ (w : WP) (S : Setup) (M : WM), x0 = .ref w.p ∧ WAt A H w S M ∧ M.down.length ≤ 1000 ∧ ∀ H', WTo A H w S M.rise H' → Q .non H'
def sp_World_rise (K : PySem.W.Frag) (A : Ad) : Sp := fun vs H Q _ => ∃ x0, vs = [x0] ∧ P_World_rise K A x0 H Q
theorem c_World_rise {K : PySem.W.Frag} {A : Ad} {x0 : V} {H : Hp} {Q : VK} {E : XK} (h : P_World_rise K A x0 H Q) : sp_World_rise K A [x0] H Q E := ⟨_, rfl, h⟩
theorem sc_World_rise : FnScope ["self", "_"] ["self"] (defScope s_World_rise) := ⟨rfl, rfl, rfl, by decide +kernel, rfl, by decide +kernel, by decide +kernel⟩
def t_World_rise (K : PySem.W.Frag) (A : Ad) : TS :=
  (sFld K (tVar 0) (tLc (iList K (tFld K (tVar 0) "down")) (gName 1) tYes (tC (.bl false)) [1]) "down")
theorem pu_World_rise (T : Txt K mg A) {x0 : V} {H : Hp} {Q : VK} (h : P_World_rise K A x0 H Q) : t_World_rise K A { nx := fun _ H' => Q .non H', rt := Q } [some x0, none] H := by
  obtain ⟨w, S, M, rfl, x, hl, k⟩ := h
  obtain ⟨dx, sv, e, dS⟩ := x.pc .self
  obtain ⟨imd, vd, ed, dd⟩ := x.pc .down
  have hvd : vd.length = M.down.length := by rw [dd.len, List.length_map]
  unfold t_World_rise
  walk_at "go"
  refine l_list (xs := vd) fun Dl H2 n2 f2 e2 => ⟨fun i acc H' => acc = List.replicate i (V.bl false) ∧ Fr [] H H', ⟨rfl, f2⟩, fun i acc H' ⟨_, f⟩ => SqL.of (f.at0 ed), fun i v acc H3 hv ha ⟨ea, f⟩ => ?_, fun acc H3 ha ⟨ea, f⟩ => ?_⟩
  · have hi := (List.getElem?_eq_some_iff.mp hv).1
    walk_at "go"
    refine ⟨rfl, ?_⟩
    walk_at "go"
    refine lcY_of ha (szM (by rw [ea, List.length_replicate]; omega)) fun H4 f4 e4 => ⟨by rw [ea, ← List.replicate_succ'], f.own1 f4 n2⟩
  · subst ea
    have e3 := f.at0 e
    have x3 := x.f0 f
    have nD : Dl ≠ w.p := (ne_of_none e n2).symm
    clear e
    walk_at "go"
    rename_i H4 f4 e4
    have F4 : Fr [w.p] H H4 := f4.pre0' f
    have x4 : WAt A H4 { w with down := Dl } S M.rise := x.w_downN F4 n2 e4 dS ⟨immL_map (fun _ => rfl) _, _, f4.at ha (nin1 nD nin0), by
      rw [List.map_map, hvd, show (PyData.bool ∘ fun _ : Bool => false) = fun _ => PyData.bool false from rfl, List.map_const']
      exact repDa (.bl false) _⟩
    exact k H4 ⟨{ w with down := Dl }, rfl, F4.mono fun a h => by rw [List.mem_singleton.mp h]; exact reg_os .self _ List.mem_cons_self, os_new fun r a h => by cases r <;> first | exact .inl h | (rw [List.mem_singleton.mp h]; exact .inr n2), x4⟩
theorem ok_World_rise {f : Addr} {fd : FuncData} (F : Fun K "rise" "World.rise" s_World_rise f fd) (T : Txt K mg A)  : FnOk P w K mg base CX0 (1) f fd ["self"] (sp_World_rise K A) := by
  refine F.ok sc_World_rise (fun vs H Q E h => ?_) (fun cdv Ar outer s H vs Q E hr h => ⟨t_World_rise K A, ?_, ?_⟩)
  · obtain ⟨x0, rfl, _⟩ := h
    rfl
  · have hu := hu_of hr
    exact (pss_one (ps_fld (pv 0) (pe_lc (own := [("_", 1)]) (g := (gName 1)) (tt := tYes) rfl sc_World_rise.nd (pi_list (pe_fld (pv 0) rfl)) (blkOk_by (N := ["self", "_"]) (sc := defScope s_World_rise) (own := [("_", 1)]) (by decide +kernel)) (fun _ _ _ _ _ => (pg_name (i := 1) sc_World_rise.nd rfl (Or.inl rfl))) (fun _ _ _ _ _ => pts_nil) (fun _ _ _ _ _ => pe_bl)) rfl))
  · obtain ⟨x0, rfl, h⟩ := h
    exact pu_World_rise T h

def P_World_deliver (K : PySem.W.Frag) (A : Ad) (x0 x1 : V) (H : Hp) (Q : VK) : Prop := False
def sp_World_deliver (K : PySem.W.Frag) (A : Ad) : Sp := fun vs H Q _ => ∃ x0 x1, vs = [x0, x1] ∧ P_World_deliver K A x0 x1 H Q
theorem c_World_deliver {K : PySem.W.Frag} {A : Ad} {x0 x1 : V} {H : Hp} {Q : VK} {E : XK} (h : P_World_deliver K A x0 x1 H Q) : sp_World_deliver K A [x0, x1] H Q E := ⟨_, _, rfl, h⟩
theorem start_dim {S : Setup} {D : List (List Deed)} (so : SetupOk S) (h : D.length = S.sellers.toNat) : (WM.start S D).Dim S := ⟨List.length_replicate, List.length_replicate, List.length_replicate, List.length_replicate, List.length_replicate, h, List.length_replicate⟩
theorem start_ticks {S : Setup} {D : List (List Deed)} (i : Nat) : (WM.start S D).ticks i = [] := by
  cases i with
  | zero =>
    show ((List.range _).flatMap _) = []
    rw [List.flatMap_eq_nil_iff]
    intro s _
    unfold WM.tickD
    split
    · rfl
    · rename_i r h
      have h : (List.replicate S.sellers.toNat (WrM.start (β := DnB)))[s]? = some r := h
      cases rep_get h; rfl
  | succ i =>
    show WM.tickS _ i = []
    unfold WM.tickS
    split
    · rfl
    · rename_i r h
      have h : (List.replicate S.sellers.toNat (WrM.start (β := UpB)))[i]? = some r := h
      cases rep_get h; rfl
theorem start_tick {S : Setup} {D : List (List Deed)} (i : Nat) : (WM.start S D).tick i = WM.start S D := by
  unfold WM.tick
  rw [start_ticks]
  split <;> rfl
theorem start_waits {S : Setup} {D : List (List Deed)} : (WM.start S D).waits = false := by
  have h : ∀ (β : Type) (n : Nat), ((List.replicate n (WrM.start (β := β))).any fun r => !r.box.isEmpty) = false := fun β n => by
    rw [List.any_eq_false]
    intro x hx
    rw [List.eq_of_mem_replicate hx]
    intro z; cases z
  show (List.any _ _ || List.any _ _) = false
  rw [show (WM.start S D).hw = List.replicate S.sellers.toNat WrM.start from rfl, show (WM.start S D).sw = List.replicate S.sellers.toNat WrM.start from rfl, h, h]; rfl
theorem start_rise {S : Setup} {D : List (List Deed)} : (WM.start S D).rise = WM.start S D := by
  show ({ WM.start S D with down := (List.replicate _ _).map _ } : WM) = WM.start S D
  rw [List.map_replicate]; rfl
def P_World_settle (K : PySem.W.Frag) (A : Ad) (x0 : V) (H : Hp) (Q : VK) : Prop := ∃ (w : WP) (S : Setup) (D : List (List Deed)), x0 = .ref w.p ∧ WAt A H w S (WM.start S D) ∧ SetupOk S ∧ D.length = S.sellers.toNat ∧ ∀ H', WTo A H w S (WM.start S D) H' → Q (.bl true) H'
def sp_World_settle (K : PySem.W.Frag) (A : Ad) : Sp := fun vs H Q _ => ∃ x0, vs = [x0] ∧ P_World_settle K A x0 H Q
theorem c_World_settle {K : PySem.W.Frag} {A : Ad} {x0 : V} {H : Hp} {Q : VK} {E : XK} (h : P_World_settle K A x0 H Q) : sp_World_settle K A [x0] H Q E := ⟨_, rfl, h⟩
theorem sc_World_settle : FnScope ["self", "turn", "desk"] ["self"] (defScope s_World_settle) := ⟨rfl, rfl, rfl, by decide +kernel, rfl, by decide +kernel, by decide +kernel⟩
def t_World_settle (K : PySem.W.Frag) (A : Ad) : TS :=
  (tSeq (tDrop (tMt A.World "rise" (sp_World_rise K A) (tVar 0) tNil))
    (tSeq (tFor (iRng1 (tCons (tC (.int 300)) tNil)) (gName 1) (tSeq (tIfS (tAnd (tTest (tOp cGt (tVar 1) (tC (.int 0)))) (tNot (tB (tMt A.World "waits" (sp_World_waits K A) (tVar 0) tNil)))) (tRet (tC (.bl true))) tNext)
    (tSeq (tFor (iRng2 (tCons (tC (.int (-1))) (tCons (tCB (rLenSq K) (tCons (tFld K (tVar 0) "sellers") tNil)) tNil))) (gName 2) (tDrop (tMt A.World "tick" (sp_World_tick K A) (tVar 0) (tCons (tVar 2) tNil))))
    (tWhile (tTr K (tFld K (tVar 0) "net")) (tDrop (tMt A.World "deliver" (sp_World_deliver K A) (tVar 0) (tCons (tBM K "list" rPopAt (tFld K (tVar 0) "net") (tCons (tC (.int 0)) tNil)) tNil)))))))
    (tRet (tNotV (tMt A.World "waits" (sp_World_waits K A) (tVar 0) tNil)))))
theorem pu_World_settle (T : Txt K mg A) {x0 : V} {H : Hp} {Q : VK} (h : P_World_settle K A x0 H Q) : t_World_settle K A { nx := fun _ H' => Q .non H', rt := Q } [some x0, none, none] H := by
  obtain ⟨w, S, D, rfl, x, so, hD, k⟩ := h
  have dm := start_dim so hD
  have hs1 := so.s1
  have hs2 := so.s2
  obtain ⟨dx, sv, e, dS⟩ := x.pc .self
  unfold t_World_settle
  walk_at "go"
  refine c_World_rise ⟨w, S, _, rfl, x, by rw [dm.down]; omega, fun H1 x1 => ?_⟩
  rw [start_rise] at x1
  clear e dS x
  walk_at "go"
  refine f_range (lo := 0) (n := 300) (fun i σ H' => (∃ v1 v2, σ = [some (.ref w.p), v1, v2]) ∧ WTo A H w S (WM.start S D) H' ∧ i ≤ 1) ⟨⟨_, _, rfl⟩, x1, by decide⟩ ?_ ?_
  · rintro i σ H2 hi ⟨⟨v1, v2, rfl⟩, x2, hi1⟩
    obtain ⟨w2, ep, f2, n2, y2⟩ := id x2
    obtain ⟨dx, sv, e, dS⟩ := y2.pc .self
    rw [ep] at e
    walk_at "go"
    refine g_ite (fun c => ?_) (fun c => ?_)
    · walk_at "go"
      refine c_World_waits ⟨w2, S, _, by rw [ep], y2, so, dm, fun H3 f3 => ?_⟩
      rw [start_waits]
      walk_at "go"
      exact k H3 (x2.f0 f3)
    · obtain ⟨esel, lsel⟩ := y2.pc .sel
      have lss : w2.ss.length = S.sellers.toNat := by rw [lsel, dm.ss]
      walk_at "go"
      rw [List.length_map, lss]
      refine g_ri2 ⟨by omega, by omega, by omega, by omega⟩ ?_
      clear y2 esel lsel lss e dS
      refine f_range (lo := -1) (n := (((S.sellers.toNat : Nat) : Int) - -1).toNat) (fun j σ H' => (∃ v2, σ = [some (.ref w.p), some (.int (0 + (i : Nat))), v2]) ∧ WTo A H w S (WM.start S D) H') ⟨⟨_, rfl⟩, x2⟩ ?_ ?_
      · rintro j σ H3 hj ⟨⟨v2, rfl⟩, x3⟩
        obtain ⟨w3, ep, f3, n3, y3⟩ := id x3
        obtain ⟨dx, sv, e, dS⟩ := y3.pc .self
        rw [ep] at e
        walk_at "go"
        refine c_World_tick ⟨w3, S, _, j, by rw [ep], y3, so, dm, by rw [show -1 + (j : Int) = (j : Int) - 1 by omega], by omega, by rw [start_ticks, List.append_nil]; exact Nat.zero_le _, fun H4 f4 x4 => ?_⟩
        rw [start_tick] at x4
        walk_at "go"
        exact ⟨⟨_, rfl⟩, .trans ep f3 n3 (x4.to1 (r := .net) f4)⟩
      · rintro σ H3 ⟨⟨v2, rfl⟩, x3⟩
        refine ⟨fun _ σ' H' => (∃ v1 v2, σ' = [some (.ref w.p), v1, v2]) ∧ WTo A H w S (WM.start S D) H', ⟨0, ⟨_, _, rfl⟩, x3⟩, ?_⟩
        rintro m σ4 H4 ⟨⟨v1, v2, rfl⟩, x4⟩
        obtain ⟨w4, ep, f4, n4, y4⟩ := id x4
        obtain ⟨dx, sv, e, dS⟩ := y4.pc .self
        obtain ⟨_, vs, en, dn⟩ := y4.pc .net
        cases dn
        rw [ep] at e
        walk_at "go"
        refine ⟨false, .inl ⟨[], SqL.of en, rfl⟩, ?_⟩
        walk_at "go"
        exact ⟨⟨_, _, rfl⟩, x4, by omega⟩
  · rintro σ H2 ⟨⟨v1, v2, rfl⟩, x2, hi1⟩
    omega
theorem ok_World_settle {f : Addr} {fd : FuncData} (F : Fun K "settle" "World.settle" s_World_settle f fd) (T : Txt K mg A) (c_World_rise : CalM P w K mg base A.World "rise" 1 ["self"] (sp_World_rise K A)) (c_World_waits : CalM P w K mg base A.World "waits" 1 ["self"] (sp_World_waits K A)) (c_World_tick : CalM P w K mg base A.World "tick" 2 ["self", "desk"] (sp_World_tick K A)) (c_World_deliver : CalM P w K mg base A.World "deliver" 1 ["self", "letter"] (sp_World_deliver K A)) : FnOk P w K mg base CX0 (3) f fd ["self"] (sp_World_settle K A) := by
  refine F.ok sc_World_settle (fun vs H Q E h => ?_) (fun cdv Ar outer s H vs Q E hr h => ⟨t_World_settle K A, ?_, ?_⟩)
  · obtain ⟨x0, rfl, _⟩ := h
    rfl
  · have hu := hu_of hr
    exact (pss_cons (ps_expr (pe_mt0 (pv 0) T.cl_World c_World_rise (hr.mono (by first | decide | omega))))
    (pss_cons (ps_for PassesOwn.never rfl (pi_range1 rfl T.b_range (pa_cons (pe_gint T.g_ROUNDS (by rfl)) pa_nil)) (pg_name (i := 1) sc_World_settle.nd rfl (Or.inl rfl)) (pss_cons (ps_if (PW.pt (pw_and (pt_cmpR c_gt (pv 1) pe_int (nomark _)) (pw_and1 (pt_not (pt_val (pe_mt0 (pv 0) T.cl_World c_World_waits (hr.mono (by first | decide | omega)))))))) (pss_one (ps_ret pe_bl)) pss_nil)
    (pss_cons (ps_for PassesOwn.never rfl (pi_range2 rfl T.b_range (pa_cons (pe_gint T.g_HOUSE (by rfl)) (pa_cons (pe_callB b_len (by rfl) T.b_len (by decide +kernel) (pa_cons (pe_fld (pv 0) rfl) pa_nil)) pa_nil))) (pg_name (i := 2) sc_World_settle.nd rfl (Or.inl rfl)) (pss_one (ps_expr (pe_mt (pv 0) T.cl_World c_World_tick (hr.mono (by first | decide | omega)) (pa_cons (pv 2) pa_nil)))))
    (pss_one (ps_while PassesOwn.never (pt_tr (pe_fld (pv 0) rfl) (by intro _; rfl)) (pss_one (ps_expr (pe_mt (pv 0) T.cl_World c_World_deliver (hr.mono (by first | decide | omega)) (pa_cons (pe_bm PySem.F.plainAttrs_list PySem.F.slot_list_pop PySem.F.type_list_pop mt_popAt (pe_fld (pv 0) rfl) (pa_cons pe_int pa_nil)) pa_nil)))))))))
    (pss_one (ps_ret (pe_not (pe_mt0 (pv 0) T.cl_World c_World_waits (hr.mono (by first | decide | omega))))))))
  · obtain ⟨x0, rfl, h⟩ := h
    exact pu_World_settle T h

/-! ### data that stay as they are while the draws go on -/
def KD (L : List Addr) (H : Hp) (v : V) (e : PyData) : Prop := ∀ H', Fr L H H' → Da H' v e
def KDL (L : List Addr) (H : Hp) (xs : List V) (ds : List PyData) : Prop := ∀ H', Fr L H H' → DaL H' xs ds
section
variable {L : List Addr} {d a : Addr} {H H' : Hp} {v : V} {e : PyData} {xs : List V} {ds : List PyData}
theorem KD.imm (h : Da H v e) (i : imm e = true) : KD L H v e := fun _ f => Da.frL f h i
theorem KD.da (h : KD L H v e) : Da H v e := h H Fr.refl
theorem KD.fr (h : KD L H v e) (f : Fr L H H') : KD L H' v e := fun _ g => h _ (f.transL g)
theorem KD.frd (h : KD L H v e) (hd : d ∈ L) (f : Fr [d] H H') : KD L H' v e := h.fr (f.mono fun x hx => by rw [List.mem_singleton.mp hx]; exact hd)
theorem KD.fr0 (h : KD L H v e) (f : Fr [] H H') : KD L H' v e := h.fr f.of0
theorem KD.int (i : Int) : KD L H (.int i) (.int i) := fun _ _ => .int i
theorem KD.non : KD L H .non .none := fun _ _ => .non
theorem KD.bl (b : Bool) : KD L H (.bl b) (.bool b) := fun _ _ => .bl b
theorem KD.str (s : Str) : KD L H (.str s) (.str s) := fun _ _ => .str s
theorem KDL.nil : KDL L H [] [] := fun _ _ => .nil
theorem KDL.cons (h : KD L H v e) (t : KDL L H xs ds) : KDL L H (v :: xs) (e :: ds) := fun _ f => .cons (h _ f) (t _ f)
theorem KDL.fr (h : KDL L H xs ds) (f : Fr L H H') : KDL L H' xs ds := fun _ g => h _ (f.transL g)
theorem KD.tup (e : H a = some (.tup xs)) (hl : xs.length ≤ 1000000) (t : KDL L H xs ds) : KD L H (.ref a) (.tuple ds) := fun _ f => .tup (f.tup _ _ e) hl (t _ f)
theorem KD.lst (e : H a = some (.lst xs)) (ne : a ∉ L) (hl : xs.length ≤ 1000000) (t : KDL L H xs ds) : KD L H (.ref a) (.list ds) := fun _ f => .lst (f.at e ne) hl (t _ f)
theorem KDL.app {ys : List V} {es : List PyData} (h : KDL L H xs ds) (t : KDL L H ys es) : KDL L H (xs ++ ys) (ds ++ es) := fun _ f => (h _ f).append (t _ f)
theorem KDL.rep (h : KD L H v e) : ∀ n : Nat, KDL L H (List.replicate n v) (List.replicate n e)
  | 0 => .nil
  | n + 1 => .cons h (KDL.rep h n)
theorem DaL.takeN {H : Hp} : ∀ {xs : List V} {ds : List PyData} (n : Nat), DaL H xs ds → DaL H (xs.take n) (ds.take n)
  | _, _, 0, _ => .nil
  | _, _, n + 1, .nil => .nil
  | _, _, n + 1, .cons h t => .cons h (DaL.takeN n t)
theorem KDL.take (h : KDL L H xs ds) (n : Nat) : KDL L H (xs.take n) (ds.take n) := fun _ f => DaL.takeN n (h _ f)
end
/-- the draws, and what stood when a call began -/
structure Old (H : Hp) (d l : Addr) (L : List Addr) : Prop where
  dr : Draws H d l
  hd : d ∈ L
  al : ∀ a ∈ L, ∃ o, H a = some o
theorem Old.f0 {H H' : Hp} {d l : Addr} {L : List Addr} (o : Old H d l L) (f : Fr [] H H') : Old H' d l L := ⟨o.dr.fr f nin0 nin0, o.hd, fun a h => by obtain ⟨u, e⟩ := o.al a h; exact ⟨u, f.at0 e⟩⟩
theorem Old.fd {H H' : Hp} {d l : Addr} {L : List Addr} (o : Old H d l L) (f : Fr [d] H H') (D : Draws H' d l) : Old H' d l L := ⟨D, o.hd, fun a h => by
  by_cases z : a = d
  · obtain ⟨ms, k, e, _⟩ := D; rw [z]; exact ⟨_, e⟩
  · obtain ⟨u, e⟩ := o.al a h; exact ⟨u, f.at e (nin1 z nin0)⟩⟩
theorem Old.nin {H : Hp} {d l : Addr} {L : List Addr} (o : Old H d l L) {p : Addr} (n : H p = none) : p ∉ L := fun h => by obtain ⟨u, e⟩ := o.al p h; rw [n] at e; cases e
/-! ### what is no stay, no party -/
theorem isF_iff {lo hi i : Int} : isF lo hi (.int i) = true ↔ lo ≤ i ∧ i ≤ hi := by
  show (decide _ && decide _) = true ↔ _
  rw [Bool.and_eq_true, decide_eq_true_eq, decide_eq_true_eq]
theorem isSt3 {k n a b c : Int} : isSt k n (.tuple [.int a, .int b, .int c]) = true ↔ (0 ≤ a ∧ a ≤ k - 1) ∧ (0 ≤ b ∧ b ≤ n - 1) ∧ b + 1 ≤ c ∧ c ≤ n := by
  show (isF _ _ _ && isF _ _ _ && isF (b + 1) n (.int c)) = true ↔ _
  rw [Bool.and_eq_true, Bool.and_eq_true, isF_iff, isF_iff, isF_iff, and_assoc]
theorem st_no {k n a b c : Int} (h : ¬ ((0 ≤ a ∧ a ≤ k - 1) ∧ (0 ≤ b ∧ b ≤ n - 1) ∧ b + 1 ≤ c ∧ c ≤ n)) : isSt k n (.tuple [.int a, .int b, .int c]) = false := Bool.eq_false_iff.mpr fun z => h (isSt3.mp z)
theorem pty_no {k n : Int} {ds : List PyData} {e : PyData} (he : e ∈ ds) (h : isSt k n e = false) : isPty k n (.tuple ds) = false := by
  have : ds.all (isSt k n) = false := List.all_eq_false.mpr ⟨e, he, by rw [h]; decide⟩
  show (decide _ && decide _ && _ && _) = false
  rw [this, Bool.and_false, Bool.false_and]
theorem pty_len {k n : Int} {ds : List PyData} (h : ¬ (1 ≤ ds.length ∧ ds.length ≤ 4)) : isPty k n (.tuple ds) = false := by
  show (decide _ && decide _ && _ && _) = false
  by_cases z : 1 ≤ ds.length
  · rw [decide_eq_false (show ¬ (ds.length : Int) ≤ 4 by omega), Bool.and_false, Bool.false_and, Bool.false_and]
  · rw [decide_eq_false (show ¬ 1 ≤ (ds.length : Int) by omega), Bool.false_and, Bool.false_and, Bool.false_and]
theorem eqv_stay (s t : Stay) : PyData.eqv (stayD s) (stayD t) = true ↔ s = t := by
  simp [stayD, PyData.eqv, PyData.eqvAll, Prod.ext_iff]
theorem eqv_stays : ∀ (ss ts : List Stay), PyData.eqvAll (ss.map stayD) (ts.map stayD) = true ↔ ss = ts
  | [], [] => by simp [PyData.eqvAll]
  | [], _ :: _ => by simp [PyData.eqvAll]
  | _ :: _, [] => by simp [PyData.eqvAll]
  | s :: ss, t :: ts => by
    rw [List.map_cons, List.map_cons, PyData.eqvAll, Bool.and_eq_true, eqv_stay, eqv_stays ss ts, List.cons.injEq]
theorem eqv_list (ss ts : List Stay) : PyData.eqv (.list (ss.map stayD)) (.list (ts.map stayD)) = true ↔ ss = ts := by
  rw [PyData.eqv]; exact eqv_stays ss ts
theorem pty_ok {S : Setup} {ss : List Stay} (h : PartyOk S ss) : isPty S.rooms.length S.nights (partyD ss) = true := by
  have h1 := h.l1
  have h4 := h.l4
  have ha : (ss.map stayD).all (isSt S.rooms.length S.nights) = true := List.all_eq_true.mpr fun x hx => by
    obtain ⟨s, hs, rfl⟩ := List.mem_map.mp hx
    obtain ⟨q1, q2, q3, q4, q5⟩ := h.ok s hs
    exact isSt3.mpr ⟨⟨q1, by omega⟩, ⟨q3, by omega⟩, by omega, q5⟩
  show (decide _ && decide _ && _ && _) = true
  rw [ha, ← ssrt_map, h.so, (eqv_list ss ss).mpr rfl, decide_eq_true (by rw [List.length_map]; omega), decide_eq_true (by rw [List.length_map]; omega)]; rfl
theorem rep_ok {S : Setup} {s : Stay} {n : Nat} (h : StayOk S s) (h1 : 1 ≤ n) (h4 : n ≤ 4) : PartyOk S (List.replicate n s) :=
  ⟨by rw [List.length_replicate]; exact h1, by rw [List.length_replicate]; exact h4, fun t ht => by rw [List.eq_of_mem_replicate ht]; exact h, by
    have := (ssrt_perm (List.replicate n s))
    exact List.perm_replicate.mp this⟩
theorem atI1 {u v : V} {vs : List V} : atI (u :: v :: vs) 1 = some v := by
  have : (u :: v :: vs)[1]? = some v := rfl
  exact atI_nat this

/-! ### deeds of worlds are drawn -/
/-- a deed of the setup, with a sorted party -/
def DeedG (S : Setup) : Deed → Prop
  | .wish p => PartyOk S p
  | .cancel _ => True
  | .change _ p => PartyOk S p
theorem PartyOk.pty {S : Setup} {p : List Stay} (h : PartyOk S p) : PtyOk S p := ⟨h.ok, h.l4⟩
theorem DeedG.ok {S : Setup} {d : Deed} (h : DeedG S d) : DeedOk S d := by
  cases d with
  | wish p => exact PartyOk.pty h
  | cancel k => trivial
  | change k p => exact PartyOk.pty h
def GoodRow (S : Setup) (r : List Deed) : Prop := ∀ (i : Nat) (d : Deed), r[i]? = some d → DeedG S d ∧ NameLt i d
theorem GoodRow.snoc {S : Setup} {r : List Deed} {d : Deed} (h : GoodRow S r) (hd : DeedG S d) (hn : NameLt r.length d) : GoodRow S (r ++ [d]) := fun i e he => by
  by_cases q : i < r.length
  · rw [List.getElem?_append_left q] at he; exact h i e he
  · rw [List.getElem?_append_right (by omega)] at he
    cases z : i - r.length with
    | zero =>
      rw [z] at he
      cases Option.some.inj he
      rw [show i = r.length by omega]; exact ⟨hd, hn⟩
    | succ n => rw [z] at he; simp at he
abbrev DsAt (H : Hp) (rs : List Addr) (D : List (List Deed)) : Prop := Paired (fun r row => LsAt H r (row.map deedD)) rs D
theorem DsAt.fr {l : List Addr} {H H' : Hp} {rs : List Addr} {D : List (List Deed)} (h : DsAt H rs D) (f : Fr l H H') (n : ∀ r ∈ rs, r ∉ l) : DsAt H' rs D := by
  induction h with
  | nil => exact .nil
  | cons r t ih => exact .cons (r.fr f (n _ List.mem_cons_self)) (ih fun b hb => n b (List.mem_cons_of_mem _ hb))
def P_Ldeeds (K : PySem.W.Frag) (A : Ad) (x0 x1 x2 : V) (H : Hp) (Q : VK) : Prop := ∃ (d l : Addr) (S : Setup) (m : Nat), x0 = .ref d ∧ Draws H d l ∧ SetupOk S ∧ Da H x1 (setupD S) ∧ x2 = .int m ∧ m ≤ 100 ∧
  ∀ (R : Addr) (rs : List Addr) (D : List (List Deed)) (H' : Hp), D.length = S.sellers.toNat → (∀ r ∈ D, GoodRow S r ∧ r.length ≤ m) → H R = none → (∀ r ∈ rs, H r = none) → (R :: rs).Nodup → H' R = some (.lst (rs.map V.ref)) → DsAt H' rs D → Fr [d] H H' → Draws H' d l → Q (.ref R) H'
def sp_Ldeeds (K : PySem.W.Frag) (A : Ad) : Sp := fun vs H Q _ => ∃ x0 x1 x2, vs = [x0, x1, x2] ∧ P_Ldeeds K A x0 x1 x2 H Q
theorem c_Ldeeds {K : PySem.W.Frag} {A : Ad} {x0 x1 x2 : V} {H : Hp} {Q : VK} {E : XK} (h : P_Ldeeds K A x0 x1 x2 H Q) : sp_Ldeeds K A [x0, x1, x2] H Q E := ⟨_, _, _, rfl, h⟩
theorem sc_Ldeeds : FnScope ["_law_draws", "_law_setup_here", "_law_most", "_law_rows", "_law_s", "_law_deeds_here", "_law_k", "_law_pick"] ["_law_draws", "_law_setup_here", "_law_most"] (defScope s_Ldeeds) := ⟨rfl, rfl, rfl, by decide +kernel, rfl, by decide +kernel, by decide +kernel⟩
def t_Ldeeds (K : PySem.W.Frag) (A : Ad) : TS :=
  (tSeq (tAsg (tLst tNil) (gName 3))
    (tSeq (tFor (iRng1 (tCons (tOp (rIxT K) (tVar 1) (tC (.int 2))) tNil)) (gName 4) (tSeq (tAsg (tLst tNil) (gName 5))
    (tSeq (tFor (iRng1 (tCons (tOp oMod (tCl (sp_Ldraw K A) (tCons (tVar 0) tNil)) (tOp oAdd (tVar 2) (tC (.int 1)))) tNil)) (gName 6) (tSeq (tAsg (tOp oMod (tCl (sp_Ldraw K A) (tCons (tVar 0) tNil)) (tC (.int 6))) (gName 7))
    (tIfS (tAnd (tTest (tOp cGt (tVar 6) (tC (.int 0)))) (tTest (tOp cLt (tVar 7) (tC (.int 2))))) (tDrop (tBM K "list" rAppend (tVar 5) (tCons (tTup (tCons (tC (.str "change")) (tCons (tOp oMod (tCl (sp_Ldraw K A) (tCons (tVar 0) tNil)) (tVar 6)) (tCons (tCl (sp_Lparty K A) (tCons (tVar 0) (tCons (tVar 1) tNil))) tNil)))) tNil))) (tIfS (tAnd (tTest (tOp cGt (tVar 6) (tC (.int 0)))) (tTest (tOp rEq (tVar 7) (tC (.int 2))))) (tDrop (tBM K "list" rAppend (tVar 5) (tCons (tTup (tCons (tC (.str "cancel")) (tCons (tOp oMod (tCl (sp_Ldraw K A) (tCons (tVar 0) tNil)) (tVar 6)) tNil))) tNil))) (tDrop (tBM K "list" rAppend (tVar 5) (tCons (tTup (tCons (tC (.str "wish")) (tCons (tCl (sp_Lparty K A) (tCons (tVar 0) (tCons (tVar 1) tNil))) tNil))) tNil)))))))
    (tDrop (tBM K "list" rAppend (tVar 3) (tCons (tVar 5) tNil))))))
    (tRet (tVar 3))))
theorem pu_Ldeeds (T : Txt K mg A) {x0 x1 x2 : V} {H : Hp} {Q : VK} (h : P_Ldeeds K A x0 x1 x2 H Q) : t_Ldeeds K A { nx := fun _ H' => Q .non H', rt := Q } [some x0, some x1, some x2, none, none, none, none, none] H := by
  obtain ⟨d, l, S, m, rfl, D0, so, dS, rfl, hm, k⟩ := h
  obtain ⟨s, r, p, ps, sa⟩ := SetAt.of dS
  cases sa.e
  have e0 := sa.t
  have hs1 := so.s1
  have hs2 := so.s2
  unfold t_Ldeeds
  walk_at "go"
  rename_i R H1 n1 f1 e1
  have e01 := f1.tup _ _ e0
  have nRd : R ≠ d := (D0.new1 n1).symm
  have nRl : R ≠ l := (D0.new2 n1).symm
  refine f_range (lo := 0) (n := S.sellers.toNat) (fun i σ H' => (∃ v4 v5 v6 v7, σ = [some (.ref d), some (.ref s), some (.int m), some (.ref R), v4, v5, v6, v7]) ∧ ∃ (rs : List Addr) (D : List (List Deed)), H' R = some (.lst (rs.map V.ref)) ∧ DsAt H' rs D ∧ D.length = i ∧ (∀ r ∈ D, GoodRow S r ∧ r.length ≤ m) ∧ (∀ r ∈ rs, H r = none) ∧ (R :: rs).Nodup ∧ Fr [d] H H' ∧ Draws H' d l)
    ⟨⟨_, _, _, _, rfl⟩, [], [], e1, .nil, rfl, fun _ h => (nomatch h), fun _ h => (nomatch h), by simp, f1.of0, D0.fr f1 nin0 nin0⟩ ?_ ?_
  · rintro i σ H2 hi ⟨⟨v4, v5, v6, v7, rfl⟩, rs, D, eR, ds, hl, hg, hn, nd, F2, D2⟩
    have hrs : rs.length = D.length := Paired.length ds
    have dS2 := Da.frL F2 dS (imm_setup S)
    have ndd : ∀ r ∈ rs, r ∉ [d] := fun r hr q => by have := hn r hr; rw [List.mem_singleton.mp q] at this; obtain ⟨_, _, h1, _⟩ := D0; rw [h1] at this; cases this
    walk_at "go"
    rename_i dh H3 n3 f3 e3 y H4 y0 y1 f4 D4
    have ndh : dh ≠ d := (D2.new1 n3).symm
    have ndl : dh ≠ l := (D2.new2 n3).symm
    have e4 : H4 dh = some (.lst []) := f4.at e3 (nin1 ndh nin0)
    have F4 : Fr [d] H2 H4 := f4.pre0' f3
    have dhR : dh ≠ R := fun z => by rw [z, eR] at n3; cases n3
    have dhrs : dh ∉ rs := fun z => by
      obtain ⟨j, hj⟩ := List.getElem?_of_mem z
      obtain ⟨row, _, _, vs, e, _⟩ := Paired.nth ds hj
      rw [e] at n3; cases n3
    have b0 := Int.emod_nonneg y (show (m : Int) + 1 ≠ 0 by omega)
    have b1 := Int.emod_lt_of_pos y (show 0 < (m : Int) + 1 by omega)
    refine g_ri1 ⟨by omega, by omega⟩ ?_
    refine f_range (lo := 0) (n := (y % ((m : Int) + 1)).toNat) (fun j σ H' => (∃ v6 v7, σ = [some (.ref d), some (.ref s), some (.int m), some (.ref R), some (.int (0 + (i : Nat))), some (.ref dh), v6, v7]) ∧ ∃ row : List Deed, LsAt H' dh (row.map deedD) ∧ row.length = j ∧ GoodRow S row ∧ Fr [d, dh] H4 H' ∧ Draws H' d l)
      ⟨⟨_, _, rfl⟩, [], LsAt.nil e4, rfl, fun i d h => (by simp at h), Fr.refl, D4⟩ ?_ ?_
    · rintro j σ H5 hj ⟨⟨v6, v7, rfl⟩, row, ⟨imr, vs, er, dr⟩, hlr, hgr, F5, D5⟩
      have hvs : vs.length ≤ 1000 := by rw [dr.len, List.length_map]; omega
      have dS5 := Da.frL F5 (Da.frL F4 dS2 (imm_setup S)) (imm_setup S)
      walk_at "go"
      rename_i pk H6 p0 p1 f6 D6
      have er6 := f6.at er (nin1 ndh nin0)
      have dr6 := DaL.frL f6 dr imr
      have dS6 := Da.frL f6 dS5 (imm_setup S)
      have F6 : Fr [d, dh] H4 H6 := F5.transL (f6.mono fun a h => by rw [List.mem_singleton.mp h]; simp)
      -- a row is longer by one
      have fin : ∀ (dd : Deed) (t : Addr) (vs' : List V) (H7 H8 H9 : Hp), Fr [d] H6 H7 → Draws H7 d l → DeedG S dd → NameLt j dd → Fr [] H7 H8 → Da H8 (.ref t) (deedD dd) → Fr [dh] H8 H9 → H9 dh = some (.lst (vs ++ [.ref t])) →
          ∃ row : List Deed, LsAt H9 dh (row.map deedD) ∧ row.length = j + 1 ∧ GoodRow S row ∧ Fr [d, dh] H4 H9 ∧ Draws H9 d l := fun dd t vs' H7 H8 H9 f7 D7 hd hn f8 dt f9 e9 => by
        refine ⟨row ++ [dd], by rw [List.map_append]; exact LsAt.snoc (DaL.frL f8 (DaL.frL f7 dr6 imr) imr) imr dt (imm_deed dd) f9 e9, by rw [List.length_append, hlr]; rfl, hgr.snoc hd (by rw [hlr]; exact hn), ?_, (D7.fr f8 nin0 nin0).fr f9 (nin1 ndh.symm nin0) (nin1 ndl.symm nin0)⟩
        exact ((F6.transL (f7.mono fun a h => by rw [List.mem_singleton.mp h]; simp)).then0 f8).transL (f9.mono fun a h => by rw [List.mem_singleton.mp h]; simp)
      clear dr D5 dS5 er F6
      walk_at "go"
      refine g_ite (fun c1 => ?_) (fun c1 => ?_)
      · walk_at "go"
        refine g_ite (fun c2 => ?_) (fun c2 => ?_)
        · walk_at "go"
          rename_i z H7 z0 z1 f7 D7
          have k0 := Int.emod_nonneg z (show 0 + (j : Int) ≠ 0 by omega)
          have k1 := Int.emod_lt_of_pos z (show 0 < 0 + (j : Int) by omega)
          refine c_Lparty ⟨d, l, S, rfl, D7, so, Da.frL f7 dS6 (imm_setup S), fun v ss H8 po dp f8 D8 => ?_⟩
          have er8 := (f7.transL f8).at er6 (nin1 ndh nin0)
          walk_at "go"
          rename_i t H9 n9 f9 e9 H10 f10 e10
          exact ⟨⟨_, _, rfl⟩, fin (.change (z % (0 + (j : Int))) ss) t [] H8 H9 H10 (f7.transL f8) D8 po ⟨k0, by omega⟩ f9 (.tup e9 (Nat.le_of_ble_eq_true rfl) (.cons (.str _) (.cons (.int _) (.one' (Da.frL f9 dp (imm_party ss)))))) f10 e10⟩
        · walk_at "go"
          refine g_ite (fun _ => ?_) (fun q => absurd c1 q)
          walk_at "go"
          refine g_ite (fun c3 => ?_) (fun c3 => ?_)
          · walk_at "go"
            rename_i z H7 z0 z1 f7 D7 t H8 n8 f8 e8 H9 f9 e9
            have k0 := Int.emod_nonneg z (show 0 + (j : Int) ≠ 0 by omega)
            have k1 := Int.emod_lt_of_pos z (show 0 < 0 + (j : Int) by omega)
            exact ⟨⟨_, _, rfl⟩, fin (.cancel (z % (0 + (j : Int)))) t [] H7 H8 H9 f7 D7 trivial ⟨k0, by omega⟩ f8 (.tup e8 (Nat.le_of_ble_eq_true rfl) (.cons (.str _) (.one' (.int _)))) f9 e9⟩
          · walk_at "go"
            refine c_Lparty ⟨d, l, S, rfl, D6, so, dS6, fun v ss H7 po dp f7 D7 => ?_⟩
            have er7 := f7.at er6 (nin1 ndh nin0)
            walk_at "go"
            rename_i t H8 n8 f8 e8 H9 f9 e9
            exact ⟨⟨_, _, rfl⟩, fin (.wish ss) t [] H7 H8 H9 f7 D7 po trivial f8 (.tup e8 (Nat.le_of_ble_eq_true rfl) (.cons (.str _) (.one' (Da.frL f8 dp (imm_party ss))))) f9 e9⟩
      · walk_at "go"
        refine g_ite (fun q => absurd q c1) (fun _ => ?_)
        walk_at "go"
        refine c_Lparty ⟨d, l, S, rfl, D6, so, dS6, fun v ss H7 po dp f7 D7 => ?_⟩
        have er7 := f7.at er6 (nin1 ndh nin0)
        walk_at "go"
        rename_i t H8 n8 f8 e8 H9 f9 e9
        exact ⟨⟨_, _, rfl⟩, fin (.wish ss) t [] H7 H8 H9 f7 D7 po trivial f8 (.tup e8 (Nat.le_of_ble_eq_true rfl) (.cons (.str _) (.one' (Da.frL f8 dp (imm_party ss))))) f9 e9⟩
    · rintro σ H5 ⟨⟨v6, v7, rfl⟩, row, lr, hlr, hgr, F5, D5⟩
      have eR5 : H5 R = some (.lst (rs.map V.ref)) := F5.at (F4.at eR (nin1 nRd nin0)) (nin1 nRd (nin1 dhR.symm nin0))
      have hal : (rs.map V.ref).length ≤ 10 := by rw [List.length_map]; omega
      have ds5 : DsAt H5 rs D := (ds.fr F4 ndd).fr F5 fun r hr => nin1 (fun z => ndd r hr (by rw [z]; exact List.mem_cons_self)) (nin1 (fun z => dhrs (z ▸ hr)) nin0)
      walk_at "go"
      rename_i H6 f6 e6
      have lr6 := lr.fr f6 (nin1 dhR nin0)
      have nRs : ∀ r ∈ rs, r ∉ [R] := fun r hr q => (List.nodup_cons.mp nd).1 (by rw [← List.mem_singleton.mp q]; exact hr)
      have ndhH : H dh = none := F2.freeL n3 (nin1 ndh nin0)
      refine ⟨⟨_, _, _, _, rfl⟩, rs ++ [dh], D ++ [row], by rw [e6, List.map_append]; rfl, Paired.snoc (ds5.fr f6 nRs) lr6, by rw [List.length_append, hl]; rfl, fun r hr => ?_, fun r hr => ?_, ?_, ?_, D5.fr f6 (nin1 nRd.symm nin0) (nin1 nRl.symm nin0)⟩
      · rcases List.mem_append.mp hr with q | q
        · exact hg r q
        · rw [List.mem_singleton.mp q]; exact ⟨hgr, by omega⟩
      · rcases List.mem_append.mp hr with q | q
        · exact hn r q
        · rw [List.mem_singleton.mp q]; exact ndhH
      · rw [← List.cons_append]
        refine List.nodup_append.mpr ⟨nd, by simp, fun a ha b hb z => ?_⟩
        rw [List.mem_singleton.mp hb] at z
        subst z
        rcases List.mem_cons.mp ha with q | q
        · exact dhR q
        · exact dhrs q
      · have F5' : Fr [d] H2 H5 := F4.own F5 (frn1 (.inl List.mem_cons_self) (frn1 (.inr n3) frn0))
        exact (F2.transL F5').own1 f6 n1
  · rintro σ H2 ⟨⟨v4, v5, v6, v7, rfl⟩, rs, D, eR, ds, hl, hg, hn, nd, F2, D2⟩
    walk_at "go"
    exact k R rs D H2 hl hg n1 hn nd eR ds F2 D2
theorem ok_Ldeeds {f : Addr} {fd : FuncData} (F : Fun K "_law_deeds" "_law_deeds" s_Ldeeds f fd) (T : Txt K mg A) (c_Ldraw : Cal P w K mg base "_law_draw" 2 ["_law_draws"] (sp_Ldraw K A)) (c_Lparty : Cal P w K mg base "_law_party" 4 ["_law_draws", "_law_setup_here"] (sp_Lparty K A)) : FnOk P w K mg base CX0 (5) f fd ["_law_draws", "_law_setup_here", "_law_most"] (sp_Ldeeds K A) := by
  refine F.ok sc_Ldeeds (fun vs H Q E h => ?_) (fun cdv Ar outer s H vs Q E hr h => ⟨t_Ldeeds K A, ?_, ?_⟩)
  · obtain ⟨x0, x1, x2, rfl, _⟩ := h
    rfl
  · have hu := hu_of hr
    exact (pss_cons (ps_set (i := 3) sc_Ldeeds.nd rfl (Or.inl rfl) (pe_lst pa_nil))
    (pss_cons (ps_for PassesOwn.never rfl (pi_range1 rfl T.b_range (pa_cons (pe_ix ix_tup (pv 1) pe_int (fun _ _ => rfl)) pa_nil)) (pg_name (i := 4) sc_Ldeeds.nd rfl (Or.inl rfl)) (pss_cons (ps_set (i := 5) sc_Ldeeds.nd rfl (Or.inl rfl) (pe_lst pa_nil))
    (pss_cons (ps_for PassesOwn.never rfl (pi_range1 rfl T.b_range (pa_cons (pe_op o_mod (pe_cl c_Ldraw (hr.mono (by first | decide | omega)) (by rfl) (pa_cons (pv 0) pa_nil)) (pe_op o_add (pv 2) pe_int)) pa_nil)) (pg_name (i := 6) sc_Ldeeds.nd rfl (Or.inl rfl)) (pss_cons (ps_set (i := 7) sc_Ldeeds.nd rfl (Or.inl rfl) (pe_op o_mod (pe_cl c_Ldraw (hr.mono (by first | decide | omega)) (by rfl) (pa_cons (pv 0) pa_nil)) pe_int))
    (pss_one (ps_if (PW.pt (pw_and (pt_cmpR c_gt (pv 6) pe_int (nomark _)) (pw_and1 (pt_cmpR c_lt (pv 7) pe_int (nomark _))))) (pss_one (ps_expr (pe_bm PySem.F.plainAttrs_list PySem.F.slot_list_append PySem.F.type_list_append mt_append (pv 5) (pa_cons (pe_tup (pa_cons pe_str (pa_cons (pe_op o_mod (pe_cl c_Ldraw (hr.mono (by first | decide | omega)) (by rfl) (pa_cons (pv 0) pa_nil)) (pv 6)) (pa_cons (pe_cl c_Lparty (hr.mono (by first | decide | omega)) (by rfl) (pa_cons (pv 0) (pa_cons (pv 1) pa_nil))) pa_nil)))) pa_nil)))) (pss_one (ps_if (PW.pt (pw_and (pt_cmpR c_gt (pv 6) pe_int (nomark _)) (pw_and1 (pt_cmpR op_eq (pv 7) pe_int (nomark _))))) (pss_one (ps_expr (pe_bm PySem.F.plainAttrs_list PySem.F.slot_list_append PySem.F.type_list_append mt_append (pv 5) (pa_cons (pe_tup (pa_cons pe_str (pa_cons (pe_op o_mod (pe_cl c_Ldraw (hr.mono (by first | decide | omega)) (by rfl) (pa_cons (pv 0) pa_nil)) (pv 6)) pa_nil))) pa_nil)))) (pss_one (ps_expr (pe_bm PySem.F.plainAttrs_list PySem.F.slot_list_append PySem.F.type_list_append mt_append (pv 5) (pa_cons (pe_tup (pa_cons pe_str (pa_cons (pe_cl c_Lparty (hr.mono (by first | decide | omega)) (by rfl) (pa_cons (pv 0) (pa_cons (pv 1) pa_nil))) pa_nil))) pa_nil))))))))))
    (pss_one (ps_expr (pe_bm PySem.F.plainAttrs_list PySem.F.slot_list_append PySem.F.type_list_append mt_append (pv 3) (pa_cons (pv 5) pa_nil)))))))
    (pss_one (ps_ret (pv 3)))))
  · obtain ⟨x0, x1, x2, rfl, h⟩ := h
    exact pu_Ldeeds T h

section
variable {K : PySem.W.Frag} {H : Hp} {Q : VK} {a : Addr} {xs : List V}
theorem g_slTake {n : Nat} (h : H a = some (.tup xs)) (hn : n < xs.length) (q : ∀ l H', Fr [] H H' → H' l = some (.tup (xs.take n)) → Q (.ref l) H') : rSlT K (.ref a) none (some (n : Int)) H Q := by
  refine g_slT (SqT.of h) (fun z => ?_) fun l H' _ f e => q l H' f ?_
  · have z2 := z.2
    rw [HT.sIx_nat, Nat.min_eq_left (Nat.le_of_lt hn)] at z2
    omega
  · rw [cut_take (Nat.le_of_lt hn)] at e; exact e
theorem cut_drop {xs : List V} {n : Nat} (h : n ≤ xs.length) : cutV xs (some (n : Int)) none = xs.drop n := by
  unfold cutV
  rw [HT.sIx_none, HT.sIx_nat, Nat.min_eq_left h]
  exact List.take_of_length_le (by rw [List.length_drop]; omega)
theorem g_slDrop {n : Nat} {z : Int} (hz : z = (n : Int)) (h : H a = some (.tup xs)) (h1 : 1 ≤ n) (hn : n ≤ xs.length) (q : ∀ l H', Fr [] H H' → H' l = some (.tup (xs.drop n)) → Q (.ref l) H') : rSlT K (.ref a) (some z) none H Q := by
  subst hz
  refine g_slT (SqT.of h) (fun z => ?_) fun l H' _ f e => q l H' f ?_
  · have z1 := z.1
    rw [HT.sIx_nat, Nat.min_eq_left hn] at z1
    omega
  · rw [cut_drop hn] at e; exact e
end
theorem DaL.drop {H : Hp} : ∀ {xs : List V} {ds : List PyData} (n : Nat), DaL H xs ds → DaL H (xs.drop n) (ds.drop n)
  | _, _, 0, h => h
  | _, _, n + 1, .nil => .nil
  | _, _, n + 1, .cons _ t => DaL.drop n t
section
variable {r n s p h : PyData}
theorem isSet5 : isSet (.tuple [r, n, s, p, h]) = (roomsOk r && (isF 1 12 n && isF 1 4 s) && (pricesOk (lenOf r) (intOf n) p && isF 0 100 h)) := rfl
theorem set_r (z : roomsOk r = false) : isSet (.tuple [r, n, s, p, h]) = false := by rw [isSet5, z]; rfl
theorem set_n (z : isF 1 12 n = false) : isSet (.tuple [r, n, s, p, h]) = false := by rw [isSet5, z, Bool.false_and, Bool.and_false]; rfl
theorem set_s (z : isF 1 4 s = false) : isSet (.tuple [r, n, s, p, h]) = false := by rw [isSet5, z, Bool.and_false, Bool.and_false]; rfl
theorem set_p (z : pricesOk (lenOf r) (intOf n) p = false) : isSet (.tuple [r, n, s, p, h]) = false := by rw [isSet5, z, Bool.false_and, Bool.and_false]
theorem set_h (z : isF 0 100 h = false) : isSet (.tuple [r, n, s, p, h]) = false := by rw [isSet5, z, Bool.and_false, Bool.and_false]
theorem da5 {H : Hp} {t : Addr} {v1 v2 v3 v4 v5 : V} (et : H t = some (.tup [v1, v2, v3, v4, v5])) (a : Da H v1 r) (b : Da H v2 n) (c : Da H v3 s) (d : Da H v4 p) (e : Da H v5 h) : Da H (.ref t) (.tuple [r, n, s, p, h]) :=
  .tup et (Nat.le_of_ble_eq_true rfl) (.cons a (.cons b (.cons c (.cons d (.one' e)))))
end
theorem prices_bad {k n : Int} {ps : List PyData} {e : PyData} (h : e ∈ ps) (b : rowOk n e = false) : pricesOk k n (.tuple ps) = false := by
  have : ps.all (rowOk n) = false := List.all_eq_false.mpr ⟨e, h, by rw [b]; decide⟩
  show (decide _ && _) = false
  rw [this, Bool.and_false]
theorem prices_len {k n : Int} {ps : List PyData} (h : ¬ (ps.length : Int) = k) : pricesOk k n (.tuple ps) = false := by
  show (decide _ && _) = false
  rw [decide_eq_false h, Bool.false_and]
theorem row_bad {n : Int} {r : List PyData} {e : PyData} (h : e ∈ r) (b : isF 0 1000000 e = false) : rowOk n (.tuple r) = false := by
  have : r.all (isF 0 1000000) = false := List.all_eq_false.mpr ⟨e, h, by rw [b]; decide⟩
  show (decide _ && _) = false
  rw [this, Bool.and_false]
theorem row_len {n : Int} {r : List PyData} (h : ¬ (r.length : Int) = n) : rowOk n (.tuple r) = false := by
  show (decide _ && _) = false
  rw [decide_eq_false h, Bool.false_and]
theorem rooms_bad {r : List PyData} {e : PyData} (h : e ∈ r) (b : isF 0 4 e = false) : roomsOk (.tuple r) = false := by
  have : r.all (isF 0 4) = false := List.all_eq_false.mpr ⟨e, h, by rw [b]; decide⟩
  show (decide _ && decide _ && _) = false
  rw [this, Bool.and_false]

theorem im5 {a b c d e : PyData} (h1 : imm a = true) (h2 : imm b = true) (h3 : imm c = true) (h4 : imm d = true) (h5 : imm e = true) : imm (.tuple [a, b, c, d, e]) = true := by
  show (imm a && (imm b && (imm c && (imm d && (imm e && true))))) = true
  rw [h1, h2, h3, h4, h5]; rfl
theorem isF_no {lo hi i : Int} (h : ¬ (lo ≤ i ∧ i ≤ hi)) : isF lo hi (.int i) = false := Bool.eq_false_iff.mpr fun z => h (isF_iff.mp z)
def P_Lbad_setup (K : PySem.W.Frag) (A : Ad) (x0 x1 : V) (H : Hp) (Q : VK) : Prop := ∃ (d l : Addr) (S : Setup), x0 = .ref d ∧ Draws H d l ∧ SetupOk S ∧ Da H x1 (setupD S) ∧
  ∀ (v : V) (e : PyData) (H' : Hp), KD [d] H' v e → isSet e = false → Fr [d] H H' → Draws H' d l → Q v H'
def sp_Lbad_setup (K : PySem.W.Frag) (A : Ad) : Sp := fun vs H Q _ => ∃ x0 x1, vs = [x0, x1] ∧ P_Lbad_setup K A x0 x1 H Q
theorem c_Lbad_setup {K : PySem.W.Frag} {A : Ad} {x0 x1 : V} {H : Hp} {Q : VK} {E : XK} (h : P_Lbad_setup K A x0 x1 H Q) : sp_Lbad_setup K A [x0, x1] H Q E := ⟨_, _, rfl, h⟩
theorem sc_Lbad_setup : FnScope ["_law_draws", "_law_setup_here", "_law_pick", "_law_k"] ["_law_draws", "_law_setup_here"] (defScope s_Lbad_setup) := ⟨rfl, rfl, rfl, by decide +kernel, rfl, by decide +kernel, by decide +kernel⟩
def t_bs9 (K : PySem.W.Frag) (A : Ad) : TS :=
  (tIfS (tTest (tOp rEq (tOp oMod (tCl (sp_Ldraw K A) (tCons (tVar 0) tNil)) (tC (.int 2))) (tC (.int 0)))) (tRet (tOp (rIxL K) (tLst (tCons (tCB (rListOf K) (tCons (tVar 1) tNil)) (tCons (tC .non) (tCons (tSl (rSlT K) (tVar 1) tNoPart (tPart (tC (.int 4)))) (tCons (tOp (Lw.rCatA K) (tVar 1) (tTup (tCons (tC (.int 0)) tNil))) (tCons (tOp (Lw.rCatA K) (tTup (tCons (tCB (rListOf K) (tCons (tOp (rIxT K) (tVar 1) (tC (.int 0))) tNil)) tNil)) (tSl (rSlT K) (tVar 1) (tPart (tC (.int 1))) tNoPart)) tNil)))))) (tOp oMod (tCl (sp_Ldraw K A) (tCons (tVar 0) tNil)) (tC (.int 5))))) tNext)
def t_Lbad_setup (K : PySem.W.Frag) (A : Ad) : TS :=
  (tSeq (tAsg (tOp oMod (tCl (sp_Ldraw K A) (tCons (tVar 0) tNil)) (tC (.int 9))) (gName 2))
    (tSeq (tIfS (tTest (tOp rEq (tVar 2) (tC (.int 0)))) (tRet (tTup (tCons (tTup tNil) (tCons (tOp (rIxT K) (tVar 1) (tC (.int 1))) (tCons (tOp (rIxT K) (tVar 1) (tC (.int 2))) (tCons (tTup tNil) (tCons (tOp (rIxT K) (tVar 1) (tC (.int 4))) tNil))))))) tNext)
    (tSeq (tIfS (tTest (tOp rEq (tVar 2) (tC (.int 1)))) (tRet (tOp (Lw.rCatA K) (tTup (tCons (tOp (Lw.rCatA K) (tTup (tCons (tC (.int 5)) tNil)) (tSl (rSlT K) (tOp (rIxT K) (tVar 1) (tC (.int 0))) (tPart (tC (.int 1))) tNoPart)) tNil)) (tSl (rSlT K) (tVar 1) (tPart (tC (.int 1))) tNoPart))) tNext)
    (tSeq (tIfS (tTest (tOp rEq (tVar 2) (tC (.int 2)))) (tRet (tOp (Lw.rCatA K) (tTup (tCons (tOp (Lw.rCatA K) (tTup (tCons (tUn rNeg (tC (.int 1))) tNil)) (tSl (rSlT K) (tOp (rIxT K) (tVar 1) (tC (.int 0))) (tPart (tC (.int 1))) tNoPart)) tNil)) (tSl (rSlT K) (tVar 1) (tPart (tC (.int 1))) tNoPart))) tNext)
    (tSeq (tIfS (tTest (tOp rEq (tVar 2) (tC (.int 3)))) (tRet (tTup (tCons (tOp (rIxT K) (tVar 1) (tC (.int 0))) (tCons (tC (.int 13)) (tCons (tOp (rIxT K) (tVar 1) (tC (.int 2))) (tCons (tCB (rTupOf K) (tCons (tLc (iTup K (tOp (rIxT K) (tVar 1) (tC (.int 0)))) (gName 3) tYes (tOp (Lw.rMulA K) (tTup (tCons (tC (.int 1)) tNil)) (tC (.int 13))) [3]) tNil)) (tCons (tOp (rIxT K) (tVar 1) (tC (.int 4))) tNil))))))) tNext)
    (tSeq (tIfS (tTest (tOp rEq (tVar 2) (tC (.int 4)))) (tRet (tOp (Lw.rCatA K) (tOp (Lw.rCatA K) (tSl (rSlT K) (tVar 1) tNoPart (tPart (tC (.int 2)))) (tTup (tCons (tOp (rIxL K) (tLst (tCons (tC (.int 0)) (tCons (tC (.int 5)) tNil))) (tOp oMod (tCl (sp_Ldraw K A) (tCons (tVar 0) tNil)) (tC (.int 2)))) tNil))) (tSl (rSlT K) (tVar 1) (tPart (tC (.int 3))) tNoPart))) tNext)
    (tSeq (tIfS (tTest (tOp rEq (tVar 2) (tC (.int 5)))) (tRet (tOp (Lw.rCatA K) (tSl (rSlT K) (tVar 1) tNoPart (tPart (tC (.int 3)))) (tTup (tCons (tSl (rSlT K) (tOp (rIxT K) (tVar 1) (tC (.int 3))) (tPart (tC (.int 1))) tNoPart) (tCons (tOp (rIxT K) (tVar 1) (tC (.int 4))) tNil))))) tNext)
    (tSeq (tIfS (tTest (tOp rEq (tVar 2) (tC (.int 6)))) (tRet (tOp (Lw.rCatA K) (tSl (rSlT K) (tVar 1) tNoPart (tPart (tC (.int 3)))) (tTup (tCons (tOp (Lw.rCatA K) (tTup (tCons (tOp (Lw.rCatA K) (tOp (rIxT K) (tOp (rIxT K) (tVar 1) (tC (.int 3))) (tC (.int 0))) (tTup (tCons (tC (.int 1)) tNil))) tNil)) (tSl (rSlT K) (tOp (rIxT K) (tVar 1) (tC (.int 3))) (tPart (tC (.int 1))) tNoPart)) (tCons (tOp (rIxT K) (tVar 1) (tC (.int 4))) tNil))))) tNext)
    (tSeq (tIfS (tTest (tOp rEq (tVar 2) (tC (.int 7)))) (tRet (tOp (Lw.rCatA K) (tSl (rSlT K) (tVar 1) tNoPart (tPart (tC (.int 3)))) (tTup (tCons (tOp (Lw.rCatA K) (tTup (tCons (tOp (Lw.rCatA K) (tTup (tCons (tOp (rIxL K) (tLst (tCons (tUn rNeg (tC (.int 1))) (tCons (tOp oAdd (tOp oPow (tC (.int 10)) (tC (.int 6))) (tC (.int 1))) tNil))) (tOp oMod (tCl (sp_Ldraw K A) (tCons (tVar 0) tNil)) (tC (.int 2)))) tNil)) (tSl (rSlT K) (tOp (rIxT K) (tOp (rIxT K) (tVar 1) (tC (.int 3))) (tC (.int 0))) (tPart (tC (.int 1))) tNoPart)) tNil)) (tSl (rSlT K) (tOp (rIxT K) (tVar 1) (tC (.int 3))) (tPart (tC (.int 1))) tNoPart)) (tCons (tOp (rIxT K) (tVar 1) (tC (.int 4))) tNil))))) tNext)
    (tSeq (t_bs9 K A)
    (tRet (tOp (Lw.rCatA K) (tSl (rSlT K) (tVar 1) tNoPart (tPart (tC (.int 4)))) (tTup (tCons (tOp (rIxL K) (tLst (tCons (tUn rNeg (tC (.int 1))) (tCons (tC (.int 101)) (tCons (tC (.bl true)) tNil)))) (tOp oMod (tCl (sp_Ldraw K A) (tCons (tVar 0) tNil)) (tC (.int 3)))) tNil))))))))))))))
theorem bs9 (T : Txt K mg A) {D : Ends} {H1 : Hp} {d l s r p : Addr} {S : Setup} {v2 v3 : Option V} (D1 : Draws H1 d l) (so : SetupOk S) (e1 : H1 s = some (.tup [.ref r, .int S.nights, .int S.sellers, .ref p, .int S.share])) (er1 : H1 r = some (.tup (S.rooms.map V.int)))
    (hr : ∀ H', Fr [d] H1 H' → Da H' (.ref r) (rowD S.rooms)) (hp : ∀ H', Fr [d] H1 H' → Da H' (.ref p) (.tuple (S.prices.map rowD))) (imp : imm (.tuple (S.prices.map rowD)) = true)
    (k : ∀ (v : V) (e : PyData) (H' : Hp), KD [d] H' v e → isSet e = false → Fr [d] H1 H' → Draws H' d l → D.rt v H') (nx : ∀ H', Fr [d] H1 H' → Draws H' d l → D.nx [some (.ref d), some (.ref s), v2, v3] H') :
    t_bs9 K A D [some (.ref d), some (.ref s), v2, v3] H1 := by
  have hk3 := so.k3
  unfold t_bs9
  walk_at "go"
  rename_i z H2 z0 z1 f2 D2
  have e2 := f2.tup _ _ e1
  have er2 := f2.tup _ _ er1
  have hr2 : ∀ H', Fr [d] H2 H' → Da H' (.ref r) (rowD S.rooms) := fun H' f => hr _ (f2.transL f)
  have hp2 : ∀ H', Fr [d] H2 H' → Da H' (.ref p) (.tuple (S.prices.map rowD)) := fun H' f => hp _ (f2.transL f)
  clear hr hp er1 e1
  refine g_ite (fun c => ?_) (fun c => ?_)
  · walk_at "go"
    rename_i l3 H3 n3 f3 e3
    refine g_slTake (n := 4) (f3.tup _ _ e2) (Nat.le_of_ble_eq_true rfl) fun l4 H4 f4 e4 => ?_
    walk_at "go"
    rename_i t5 H5 n5 f5 e5
    refine g_catA (f5.tup _ _ (f4.tup _ _ (f3.tup _ _ e2))) e5 (Nat.le_of_ble_eq_true rfl) fun q6 H6 f6 e6 => ?_
    walk_at "go"
    rename_i l7 H7 n7 f7 e7 t8 H8 n8 f8 e8 l9 H9 n9 f9 e9
    refine g_catA (f9.tup _ _ e8) e9 (Nat.le_of_ble_eq_true rfl) fun q10 H10 f10 e10 => ?_
    have n3d : l3 ≠ d := (D2.new1 n3).symm
    have F26 : Fr [] H2 H6 := ((f3.then0 f4).then0 f5).then0 f6
    have n7d : l7 ≠ d := ((D2.fr F26 nin0 nin0).new1 n7).symm
    have F610 : Fr [] H6 H10 := ((f7.then0 f8).then0 f9).then0 f10
    have F210 : Fr [] H2 H10 := F26.then0 F610
    have D10 := D2.fr F210 nin0 nin0
    have e310 : H10 l3 = some (.lst [.ref r, .int S.nights, .int S.sellers, .ref p, .int S.share]) := F610.at0 ((f4.then0 (f5.then0 f6)).at0 e3)
    have e410 : H10 l4 = some (.tup [.ref r, .int S.nights, .int S.sellers, .ref p]) := F610.tup _ _ (f6.tup _ _ (f5.tup _ _ e4))
    have e610 := F610.tup _ _ e6
    have e710 := ((f8.then0 f9).then0 f10).at0 e7
    clear f3 f4 f5 f6 f7 f8 f9 f10 F26 F610 e3 e4 e5 e6 e7 e8 e9 n3 n5 n7 n8 n9 e2 er2 D2 D1
    walk_at "go"
    rename_i L H11 n11 f11 e11 y H12 y0 y1 f12 D12
    have nLd : L ≠ d := (D10.new1 n11).symm
    have F211 : Fr [] H2 H11 := F210.then0 f11
    have F : Fr [d] H2 H12 := f12.pre0' F211
    have kint : ∀ i : Int, KD [d] H12 (.int i) (.int i) := fun i => .int i
    have kr : KD [d] H12 (.ref r) (rowD S.rooms) := .imm (hr2 _ F) (imm_row _)
    have kp : KD [d] H12 (.ref p) (.tuple (S.prices.map rowD)) := .imm (hp2 _ F) imp
    have g : ∀ (v : V) (e : PyData), atI [V.ref l3, .non, .ref l4, .ref q6, .ref q10] (y % 5) = some v → KD [d] H12 v e → isSet e = false → rIxL K (.ref L) (.int (y % 5)) H12 fun v H' => D.rt v H' := fun v e hv kd hs =>
      g_ixL (SqL.of (f12.at e11 (nin1 nLd nin0))) hv (k v e H12 kd hs (f2.transL F) D12)
    have hy : y % 5 = 0 ∨ y % 5 = 1 ∨ y % 5 = 2 ∨ y % 5 = 3 ∨ y % 5 = 4 := by omega
    rcases hy with hy | hy | hy | hy | hy
    · refine g (.ref l3) (.list [rowD S.rooms, .int S.nights, .int S.sellers, .tuple (S.prices.map rowD), .int S.share]) (by rw [hy]; rfl) (.lst (f12.at (f11.at0 e310) (nin1 n3d nin0)) (nin1 n3d nin0) (Nat.le_of_ble_eq_true rfl) (.cons kr (.cons (.int _) (.cons (.int _) (.cons kp (.cons (.int _) .nil)))))) rfl
    · exact g .non .none (by rw [hy]; rfl) .non rfl
    · refine g (.ref l4) (.tuple [rowD S.rooms, .int S.nights, .int S.sellers, .tuple (S.prices.map rowD)]) (by rw [hy]; rfl) (.tup (f12.tup _ _ (f11.tup _ _ e410)) (Nat.le_of_ble_eq_true rfl) (.cons kr (.cons (.int _) (.cons (.int _) (.cons kp .nil))))) rfl
    · refine g (.ref q6) (.tuple [rowD S.rooms, .int S.nights, .int S.sellers, .tuple (S.prices.map rowD), .int S.share, .int 0]) (by rw [hy]; rfl) (.tup (f12.tup _ _ (f11.tup _ _ e610)) (Nat.le_of_ble_eq_true rfl) (.cons kr (.cons (.int _) (.cons (.int _) (.cons kp (.cons (.int _) (.cons (.int _) .nil))))))) rfl
    · refine g (.ref q10) (.tuple [.list (S.rooms.map .int), .int S.nights, .int S.sellers, .tuple (S.prices.map rowD), .int S.share]) (by rw [hy]; rfl) (.tup (f12.tup _ _ (f11.tup _ _ e10)) (Nat.le_of_ble_eq_true rfl) (.cons (.lst (f12.at (f11.at0 e710) (nin1 n7d nin0)) (nin1 n7d nin0) (by rw [List.length_map]; omega) fun H' f => .ofInts _) (.cons (.int _) (.cons (.int _) (.cons kp (.cons (.int _) .nil)))))) (set_r rfl)
  · walk_at "go"
    exact nx H2 f2 D2
theorem pu_Lbad_setup (T : Txt K mg A) {x0 x1 : V} {H : Hp} {Q : VK} (h : P_Lbad_setup K A x0 x1 H Q) : t_Lbad_setup K A { nx := fun _ H' => Q .non H', rt := Q } [some x0, some x1, none, none] H := by
  obtain ⟨d, l, S, rfl, D0, so, dS, k⟩ := h
  unfold t_Lbad_setup
  walk_at "go"
  rename_i pk H1 p0 p1 f1 D1
  have dS1 := Da.frL f1 dS (imm_setup S)
  obtain ⟨s, r, p, ps, sa⟩ := SetAt.of dS1
  cases sa.e
  have e1 := sa.t
  have er1 := sa.r
  have ep1 := sa.p
  have dp1 := sa.ps
  clear sa
  have ips : immL (S.prices.map rowD) = true := immL_of fun d hd => by obtain ⟨r, _, rfl⟩ := List.mem_map.mp hd; exact imm_row r
  have hk1 := so.k1
  have hpl := so.pl
  have hr : ∀ H', Fr [] H1 H' → Da H' (.ref r) (rowD S.rooms) := fun H' f => .tup (f.tup _ _ er1) (by rw [List.length_map]; have := so.k3; omega) (.ofInts _)
  have hps : ps.length = S.rooms.length := by rw [dp1.len, List.length_map, hpl]
  have hp : ∀ H', Fr [] H1 H' → Da H' (.ref p) (.tuple (S.prices.map rowD)) := fun H' f => .tup (f.tup _ _ ep1) (by have := so.k3; omega) (DaL.frL f dp1 ips)
  have fin : ∀ (v : V) (e : PyData) (H' : Hp), Fr [] H1 H' → KD [d] H' v e → isSet e = false → Q v H' := fun v e H' f kd hs => k v e H' kd hs (f1.then0 f) (D1.fr f nin0 nin0)
  have hN1 := so.n1
  have hk3 := so.k3
  obtain ⟨row, rest, epr⟩ : ∃ row rest, S.prices = row :: rest := by
    cases q : S.prices with
    | nil => rw [q] at hpl; simp at hpl; omega
    | cons a b => exact ⟨a, b, rfl⟩
  obtain ⟨hrow, hrb⟩ := so.pn row (by rw [epr]; exact List.mem_cons_self)
  obtain ⟨pr, prs', rfl, er0, dpr'⟩ : ∃ (pr : Addr) (prs' : List V), ps = .ref pr :: prs' ∧ H1 pr = some (.tup (row.map V.int)) ∧ DaL H1 prs' (rest.map rowD) := by
    rw [epr] at dp1
    cases dp1 with
    | cons h t =>
      obtain ⟨a, xs, rfl, ea, _, q⟩ := h.tup1
      rw [DaL.ints q] at ea
      exact ⟨a, _, rfl, ea, t⟩
  have ipr : immL (rest.map rowD) = true := immL_map imm_row _
  have lrest : (prs' : List V).length + 1 = S.rooms.length := by rw [← hps]; rfl
  have lrs : rest.length + 1 = S.rooms.length := by rw [← hpl, epr]; rfl
  clear D0 dS dS1
  refine g_ite (fun c => ?_) (fun c0 => ?_)
  · walk_at "go"
    rename_i t0 H2 n2 f2 e2 t1 H3 n3 f3 e3 t4 H4 n4 f4 e4
    have F : Fr [] H1 H4 := (f2.then0 f3).then0 f4
    exact fin _ _ H4 F (.imm (da5 e4 (.tup (f4.tup _ _ (f3.tup _ _ e2)) (Nat.zero_le _) .nil) (.int _) (.int _) (.tup (f4.tup _ _ e3) (Nat.zero_le _) .nil) (.int _)) (im5 rfl rfl rfl rfl rfl)) (set_r rfl)
  have tail : ∀ (a : Int) (H2 : Hp) (t1 : Addr), isF 0 4 (.int a) = false → Fr [] H1 H2 → H2 t1 = some (.tup [.int a]) → ∀ (l : Addr) (H3 : Hp), Fr [] H2 H3 → H3 l = some (.tup ((S.rooms.map V.int).drop 1)) → ∀ (q : Addr) (H4 : Hp), Fr [] H3 H4 → H4 q = some (.tup ([V.int a] ++ (S.rooms.map V.int).drop 1)) →
      ∀ (t2 : Addr) (H5 : Hp), Fr [] H4 H5 → H5 t2 = some (.tup [.ref q]) → ∀ (l2 : Addr) (H6 : Hp), Fr [] H5 H6 → H6 l2 = some (.tup ([V.ref r, .int S.nights, .int S.sellers, .ref p, .int S.share].drop 1)) → ∀ (q2 : Addr) (H7 : Hp), Fr [] H6 H7 → H7 q2 = some (.tup ([.ref q] ++ [V.ref r, .int S.nights, .int S.sellers, .ref p, .int S.share].drop 1)) → Q (.ref q2) H7 :=
    fun a H2 t1 ha f2 e2 l H3 f3 e3 q H4 f4 e4 t2 H5 f5 e5 l2 H6 f6 e6 q2 H7 f7 e7 => by
      have F4 := (f5.then0 f6).then0 f7
      have F : Fr [] H1 H7 := ((f2.then0 f3).then0 f4).then0 F4
      have dq : Da H7 (.ref q) (.tuple ([.int a] ++ (S.rooms.drop 1).map .int)) := .tup (F4.tup _ _ e4) (by rw [List.length_append, List.length_drop, List.length_map]; simp; omega) (DaL.append (.one' (.int a)) (by rw [← List.map_drop]; exact .ofInts _))
      exact fin _ _ H7 F (.imm (da5 e7 dq (.int _) (.int _) (hp _ F) (.int _)) (im5 (imm_row (a :: S.rooms.drop 1)) rfl rfl (show immL _ = true from ips) rfl)) (set_r (rooms_bad List.mem_cons_self ha))
  walk_at "go"
  refine g_ite (fun c => ?_) (fun c1 => ?_)
  · walk_at "go"
    rename_i t1 H2 n2 f2 e2
    refine g_slDrop (n := 1) rfl (f2.tup _ _ er1) (Nat.le_refl _) (by rw [List.length_map]; omega) fun l H3 f3 e3 => ?_
    refine g_catA (f3.tup _ _ e2) e3 (szL (by rw [List.length_drop, List.length_map]; simp; omega)) fun q H4 f4 e4 => ?_
    walk_at "go"
    rename_i t2 H5 n5 f5 e5 l2 H6 n6 f6 e6
    refine g_catA (f6.tup _ _ e5) e6 (Nat.le_of_ble_eq_true rfl) fun q2 H7 f7 e7 => ?_
    exact tail 5 H2 t1 (isF_no (by omega)) f2 e2 l H3 f3 e3 q H4 f4 e4 t2 H5 f5 e5 l2 H6 f6 e6 q2 H7 f7 e7
  walk_at "go"
  refine g_ite (fun c => ?_) (fun c2 => ?_)
  · walk_at "go"
    rename_i t1 H2 n2 f2 e2
    refine g_slDrop (n := 1) rfl (f2.tup _ _ er1) (Nat.le_refl _) (by rw [List.length_map]; omega) fun l H3 f3 e3 => ?_
    refine g_catA (f3.tup _ _ e2) e3 (szL (by rw [List.length_drop, List.length_map]; simp; omega)) fun q H4 f4 e4 => ?_
    walk_at "go"
    rename_i t2 H5 n5 f5 e5 l2 H6 n6 f6 e6
    refine g_catA (f6.tup _ _ e5) e6 (Nat.le_of_ble_eq_true rfl) fun q2 H7 f7 e7 => ?_
    exact tail (-1) H2 t1 (isF_no (by omega)) f2 e2 l H3 f3 e3 q H4 f4 e4 t2 H5 f5 e5 l2 H6 f6 e6 q2 H7 f7 e7
  clear tail
  walk_at "go"
  have t1 : ∀ {a : V} {H' : Hp} {x : Addr}, H' x = some (.tup [a]) → SqT K H' x [a] := fun h => SqT.of h
  refine g_ite (fun c => ?_) (fun c3 => ?_)
  · walk_at "go"
    refine l_tup (xs := S.rooms.map V.int) fun Dl H2 n2 f2 e2 => ⟨fun i acc H' => DaL H' acc (List.replicate i (rowD (List.replicate 13 1))) ∧ Fr [] H1 H', ⟨.nil, f2⟩, fun i acc H' ⟨_, f⟩ => SqT.of (f.tup _ _ er1), fun i x acc H3 hx ha ⟨da, f⟩ => ?_, fun acc H3 ha ⟨da, f⟩ => ?_⟩
    · have hi := (List.getElem?_eq_some_iff.mp hx).1
      rw [List.length_map] at hi
      have hal : acc.length ≤ 10 := by rw [da.len, List.length_replicate]; omega
      walk_at "go"
      refine ⟨rfl, ?_⟩
      walk_at "go"
      rename_i t1 H4 n4 f4 e4
      refine g_mulA e4 (by intro z; cases z) (by decide) (by decide) (Nat.le_of_ble_eq_true rfl) fun q H5 f5 e5 => ?_
      have ir : immL (List.replicate i (rowD (List.replicate 13 1))) = true := immL_of fun d hd => by rw [List.eq_of_mem_replicate hd]; exact imm_row _
      refine lcY_of (f5.at0 (f4.at0 ha)) (szM (by omega)) fun H6 f6 e6 => ⟨?_, ((f.then0 f4).then0 f5).own1 f6 n2⟩
      rw [List.replicate_succ']
      refine DaL.append (DaL.frL f6 (DaL.frL f5 (DaL.frL f4 da ir) ir) ir) (.one' (.tup (f6.tup _ _ e5) (Nat.le_of_ble_eq_true rfl) (.ofInts (List.replicate 13 1))))
    · rw [List.length_map] at da
      have hal : acc.length ≤ 10 := by rw [da.len, List.length_replicate]; omega
      have e13 := f.tup _ _ e1
      walk_at "go"
      rename_i pt H4 n4 f4 e4 st H5 n5 f5 e5
      have F : Fr [] H1 H5 := (f.then0 f4).then0 f5
      have ir : immL (List.replicate S.rooms.length (rowD (List.replicate 13 1))) = true := immL_of fun d hd => by rw [List.eq_of_mem_replicate hd]; exact imm_row _
      exact fin _ _ H5 F (.imm (da5 e5 (hr _ F) (.int _) (.int _) (.tup (f5.tup _ _ e4) (by omega) (DaL.frL f5 (DaL.frL f4 da ir) ir)) (.int _)) (im5 (imm_row _) rfl rfl (show immL _ = true from ir) rfl)) (set_n (isF_no (by omega)))
  walk_at "go"
  refine g_ite (fun c => ?_) (fun c4 => ?_)
  · walk_at "go"
    refine g_slTake (n := 2) e1 (Nat.le_of_ble_eq_true rfl) fun l2 H2 f2 e2 => ?_
    walk_at "go"
    rename_i t3 H3 n3 f3 e3 y H4 y0 y1 f4 D4
    have n3d : t3 ≠ d := ((D1.fr f2 nin0 nin0).new1 n3).symm
    obtain ⟨v, hv, hmem⟩ := atI_mem (xs := [V.int 0, V.int 5]) (z := y % 2) (by omega) (by show y % 2 < 2; omega)
    obtain ⟨a, rfl, ha⟩ : ∃ a, v = .int a ∧ isF 1 4 (.int a) = false := by
      simp only [List.mem_cons, List.not_mem_nil, or_false] at hmem
      rcases hmem with h | h
      · exact ⟨_, h, isF_no (by omega)⟩
      · exact ⟨_, h, isF_no (by omega)⟩
    refine g_ixL (SqL.of (f4.at e3 (nin1 n3d nin0))) hv ?_
    walk_at "go"
    rename_i t5 H5 n5 f5 e5
    have F4 : Fr [d] H1 H4 := f4.pre0' (f2.then0 f3)
    refine g_catA (f5.tup _ _ (f4.tup _ _ (f3.tup _ _ e2))) e5 (Nat.le_of_ble_eq_true rfl) fun q6 H6 f6 e6 => ?_
    walk_at "go"
    refine g_slDrop (n := 3) rfl (f6.tup _ _ (f5.tup _ _ (F4.tup _ _ e1))) (by decide) (Nat.le_of_ble_eq_true rfl) fun l7 H7 f7 e7 => ?_
    refine g_catA (f7.tup _ _ e6) e7 (Nat.le_of_ble_eq_true rfl) fun q8 H8 f8 e8 => ?_
    have F8 : Fr [d] H1 H8 := ((F4.then0 f5).then0 f6).then0 (f7.then0 f8)
    have hr8 : Da H8 (.ref r) (rowD S.rooms) := Da.frL F8 (hr H1 Fr.refl) (imm_row _)
    have hp8 : Da H8 (.ref p) (.tuple (S.prices.map rowD)) := Da.frL F8 (hp H1 Fr.refl) ips
    exact k _ _ H8 (.imm (da5 e8 hr8 (.int _) (.int a) hp8 (.int _)) (im5 (imm_row _) rfl rfl (show immL _ = true from ips) rfl)) (set_s ha) (f1.transL F8) (D4.fr ((f5.then0 f6).then0 (f7.then0 f8)) nin0 nin0)
  walk_at "go"
  refine g_ite (fun c => ?_) (fun c5 => ?_)
  · walk_at "go"
    refine g_slTake (n := 3) e1 (Nat.le_of_ble_eq_true rfl) fun l2 H2 f2 e2 => ?_
    have e12 := f2.tup _ _ e1
    have ep2 := f2.tup _ _ ep1
    walk_at "go"
    rename_i l3 H3 n3 f3 e3 t4 H4 n4 f4 e4
    refine g_catA (f4.tup _ _ (f3.tup _ _ e2)) e4 (Nat.le_of_ble_eq_true rfl) fun q5 H5 f5 e5 => ?_
    have F : Fr [] H1 H5 := ((f2.then0 f3).then0 f4).then0 f5
    exact fin _ _ H5 F (.imm (da5 e5 (hr _ F) (.int _) (.int _) (.tup (f5.tup _ _ (f4.tup _ _ e3)) (by omega) (DaL.frL F dpr' ipr)) (.int _)) (im5 (imm_row _) rfl rfl (show immL _ = true from ipr) rfl)) (set_p (prices_len (by rw [List.length_map]; show ¬ (rest.length : Int) = ((S.rooms.map PyData.int).length : Int); rw [List.length_map]; omega)))
  walk_at "go"
  refine g_ite (fun c => ?_) (fun c6 => ?_)
  · walk_at "go"
    refine g_slTake (n := 3) e1 (Nat.le_of_ble_eq_true rfl) fun l2 H2 f2 e2 => ?_
    have e12 := f2.tup _ _ e1
    have ep2 := f2.tup _ _ ep1
    have er2 := f2.tup _ _ er0
    walk_at "go"
    refine g_ixT (SqT.of ep2) atI0 ?_
    walk_at "go"
    rename_i t3 H3 n3 f3 e3
    refine g_catA (f3.tup _ _ er2) e3 (szL (by rw [List.length_map]; simp; have := so.n2; omega)) fun q4 H4 f4 e4 => ?_
    walk_at "go"
    rename_i t5 H5 n5 f5 e5 l6 H6 n6 f6 e6
    refine g_catA (f6.tup _ _ e5) e6 (szL (by simp; omega)) fun q7 H7 f7 e7 => ?_
    walk_at "go"
    rename_i t8 H8 n8 f8 e8
    have F28 : Fr [] H2 H8 := ((((f3.then0 f4).then0 f5).then0 f6).then0 f7).then0 f8
    refine g_catA (F28.tup _ _ e2) e8 (Nat.le_of_ble_eq_true rfl) fun q9 H9 f9 e9 => ?_
    have F49 : Fr [] H4 H9 := ((((f5.then0 f6).then0 f7).then0 f8)).then0 f9
    have F : Fr [] H1 H9 := (f2.then0 F28).then0 f9
    have dq : Da H9 (.ref q4) (rowD (row ++ [1])) := .tup (F49.tup _ _ e4) (by rw [List.length_append, List.length_map]; simp; have := so.n2; omega) (by rw [List.map_append]; exact DaL.append (.ofInts row) (.one' (.int 1)))
    exact fin _ _ H9 F (.imm (da5 e9 (hr _ F) (.int _) (.int _) (.tup (f9.tup _ _ (f8.tup _ _ e7)) (by simp; omega) (DaL.append (.one' dq) (DaL.frL F dpr' ipr))) (.int _)) (im5 (imm_row _) rfl rfl (show immL (rowD (row ++ [1]) :: rest.map rowD) = true by show (imm _ && _) = true; rw [imm_row, ipr]; rfl) rfl)) (set_p (prices_bad List.mem_cons_self (row_len (by rw [List.length_map, List.length_append]; show ¬ ((row.length + 1 : Nat) : Int) = S.nights; omega))))
  walk_at "go"
  refine g_ite (fun c => ?_) (fun c7 => ?_)
  · walk_at "go"
    refine g_slTake (n := 3) e1 (Nat.le_of_ble_eq_true rfl) fun l2 H2 f2 e2 => ?_
    walk_at "go"
    rename_i t3 H3 n3 f3 e3 y H4 y0 y1 f4 D4
    have n3d : t3 ≠ d := ((D1.fr f2 nin0 nin0).new1 n3).symm
    obtain ⟨v, hv, hmem⟩ := atI_mem (xs := [V.int (-1), V.int (10 ^ Int.toNat 6 + 1)]) (z := y % 2) (by omega) (by show y % 2 < 2; omega)
    obtain ⟨a, rfl, ha⟩ : ∃ a, v = .int a ∧ isF 0 1000000 (.int a) = false := by
      simp only [List.mem_cons, List.not_mem_nil, or_false] at hmem
      rcases hmem with h | h
      · exact ⟨_, h, isF_no (by omega)⟩
      · exact ⟨_, h, isF_no (by decide)⟩
    refine g_ixL (SqL.of (f4.at e3 (nin1 n3d nin0))) hv ?_
    have F4 : Fr [d] H1 H4 := f4.pre0' (f2.then0 f3)
    have e14 := F4.tup _ _ e1
    have ep4 := F4.tup _ _ ep1
    have er4 := F4.tup _ _ er0
    have F24 : Fr [d] H2 H4 := f4.pre0' f3
    have e24 := F24.tup _ _ e2
    have dr4 := DaL.frL F4 dpr' ipr
    have hr4 : Da H4 (.ref r) (rowD S.rooms) := Da.frL F4 (hr H1 Fr.refl) (imm_row _)
    clear f2 f3 e2 e3 F24 hv hmem
    walk_at "go"
    rename_i t5 H5 n5 f5 e5
    refine g_ixT (SqT.of (f5.tup _ _ ep4)) atI0 ?_
    walk_at "go"
    refine g_slDrop (n := 1) rfl (f5.tup _ _ er4) (by decide) (by rw [List.length_map]; omega) fun l6 H6 f6 e6 => ?_
    refine g_catA (f6.tup _ _ e5) e6 (szL (by rw [List.length_drop, List.length_map]; simp; have := so.n2; omega)) fun q7 H7 f7 e7 => ?_
    have F47 : Fr [] H4 H7 := (f5.then0 f6).then0 f7
    have e17 := F47.tup _ _ e14
    have ep7 := F47.tup _ _ ep4
    clear e14 ep4 er4
    walk_at "go"
    rename_i t8 H8 n8 f8 e8 l9 H9 n9 f9 e9
    refine g_catA (f9.tup _ _ e8) e9 (szL (by simp; omega)) fun q10 H10 f10 e10 => ?_
    walk_at "go"
    rename_i t11 H11 n11 f11 e11
    have F7 : Fr [] H7 H11 := ((f8.then0 f9).then0 f10).then0 f11
    refine g_catA (F7.tup _ _ (F47.tup _ _ e24)) e11 (Nat.le_of_ble_eq_true rfl) fun q12 H12 f12 e12 => ?_
    have F : Fr [] H4 H12 := (F47.then0 F7).then0 f12
    have dq : Da H12 (.ref q7) (rowD (a :: row.drop 1)) := .tup ((F7.then0 f12).tup _ _ e7) (by rw [List.length_append, List.length_drop, List.length_map]; simp; have := so.n2; omega) (DaL.append (.one' (.int a)) (by rw [← List.map_drop]; exact .ofInts _))
    exact k _ _ H12 (.imm (da5 e12 (Da.frL F hr4 (imm_row _)) (.int _) (.int _) (.tup (f12.tup _ _ (f11.tup _ _ e10)) (by simp; omega) (DaL.append (.one' dq) (DaL.frL F dr4 ipr))) (.int _)) (im5 (imm_row _) rfl rfl (show immL (rowD (a :: row.drop 1) :: rest.map rowD) = true by show (imm _ && _) = true; rw [imm_row, ipr]; rfl) rfl)) (set_p (prices_bad List.mem_cons_self (row_bad List.mem_cons_self ha))) (f1.transL (F4.then0 F)) (D4.fr F nin0 nin0)
  have hr1 : ∀ H', Fr [d] H1 H' → Da H' (.ref r) (rowD S.rooms) := fun H' f => Da.frL f (hr H1 Fr.refl) (imm_row _)
  have hp1 : ∀ H', Fr [d] H1 H' → Da H' (.ref p) (.tuple (S.prices.map rowD)) := fun H' f => Da.frL f (hp H1 Fr.refl) ips
  have imp : imm (.tuple (S.prices.map rowD)) = true := ips
  clear er0 dpr' ipr hps lrest lrs fin hr hp ep1 dp1
  walk_at "go"
  refine bs9 T D1 so e1 er1 hr1 hp1 imp (fun v e H' kd hs f D => k v e H' kd hs (f1.transL f) D) fun H2 f2 D2 => ?_
  have e2 := f2.tup _ _ e1
  have hr2 : ∀ H', Fr [d] H2 H' → Da H' (.ref r) (rowD S.rooms) := fun H' f => hr1 _ (f2.transL f)
  have hp2 : ∀ H', Fr [d] H2 H' → Da H' (.ref p) (.tuple (S.prices.map rowD)) := fun H' f => hp1 _ (f2.transL f)
  clear hr1 hp1 er1 e1
  walk_at "go"
  refine g_slTake (n := 4) e2 (Nat.le_of_ble_eq_true rfl) fun l3 H3 f3 e3 => ?_
  walk_at "go"
  rename_i t4 H4 n4 f4 e4 y H5 y0 y1 f5 D5
  have n4d : t4 ≠ d := ((D2.fr f3 nin0 nin0).new1 n4).symm
  obtain ⟨v, hv, hmem⟩ := atI_mem (xs := [V.int (-1), V.int 101, V.bl true]) (z := y % 3) (by omega) (by show y % 3 < 3; omega)
  obtain ⟨e, ha, hda, him⟩ : ∃ e, isF 0 100 e = false ∧ (∀ H', Da H' v e) ∧ imm e = true := by
    simp only [List.mem_cons, List.not_mem_nil, or_false] at hmem
    rcases hmem with h | h | h
    · exact ⟨.int (-1), isF_no (by omega), fun H' => by rw [h]; exact .int _, rfl⟩
    · exact ⟨.int 101, isF_no (by omega), fun H' => by rw [h]; exact .int _, rfl⟩
    · exact ⟨.bool true, rfl, fun H' => by rw [h]; exact .bl _, rfl⟩
  refine g_ixL (SqL.of (f5.at e4 (nin1 n4d nin0))) hv ?_
  walk_at "go"
  rename_i t6 H6 n6 f6 e6
  have F26 : Fr [d] H2 H6 := (f5.pre0' (f3.then0 f4)).then0 f6
  refine g_catA (f6.tup _ _ (f5.tup _ _ (f4.tup _ _ e3))) e6 (Nat.le_of_ble_eq_true rfl) fun q7 H7 f7 e7 => ?_
  exact k _ _ H7 (.imm (da5 e7 (hr2 _ (F26.then0 f7)) (.int _) (.int _) (hp2 _ (F26.then0 f7)) (hda _)) (im5 (imm_row _) rfl rfl imp him)) (set_h ha) (f1.transL (f2.transL (F26.then0 f7))) (D5.fr (f6.then0 f7) nin0 nin0)
theorem ok_Lbad_setup {f : Addr} {fd : FuncData} (F : Fun K "_law_bad_setup" "_law_bad_setup" s_Lbad_setup f fd) (T : Txt K mg A) (c_Ldraw : Cal P w K mg base "_law_draw" 2 ["_law_draws"] (sp_Ldraw K A)) : FnOk P w K mg base CX0 (3) f fd ["_law_draws", "_law_setup_here"] (sp_Lbad_setup K A) := by
  refine F.ok sc_Lbad_setup (fun vs H Q E h => ?_) (fun cdv Ar outer s H vs Q E hr h => ⟨t_Lbad_setup K A, ?_, ?_⟩)
  · obtain ⟨x0, x1, rfl, _⟩ := h
    rfl
  · have hu := hu_of hr
    exact (pss_cons (ps_set (i := 2) sc_Lbad_setup.nd rfl (Or.inl rfl) (pe_op o_mod (pe_cl c_Ldraw (hr.mono (by first | decide | omega)) (by rfl) (pa_cons (pv 0) pa_nil)) pe_int))
    (pss_cons (ps_if (pt_cmpR op_eq (pv 2) pe_int (nomark _)) (pss_one (ps_ret (pe_tup (pa_cons (pe_tup pa_nil) (pa_cons (pe_ix ix_tup (pv 1) pe_int (fun _ _ => rfl)) (pa_cons (pe_ix ix_tup (pv 1) pe_int (fun _ _ => rfl)) (pa_cons (pe_tup pa_nil) (pa_cons (pe_ix ix_tup (pv 1) pe_int (fun _ _ => rfl)) pa_nil)))))))) pss_nil)
    (pss_cons (ps_if (pt_cmpR op_eq (pv 2) pe_int (nomark _)) (pss_one (ps_ret (pe_op Lw.op_catA (pe_tup (pa_cons (pe_op Lw.op_catA (pe_tup (pa_cons pe_int pa_nil)) (pe_slice sl_tup (pe_ix ix_tup (pv 1) pe_int (fun _ _ => rfl)) (po_some pe_int) po_none)) pa_nil)) (pe_slice sl_tup (pv 1) (po_some pe_int) po_none)))) pss_nil)
    (pss_cons (ps_if (pt_cmpR op_eq (pv 2) pe_int (nomark _)) (pss_one (ps_ret (pe_op Lw.op_catA (pe_tup (pa_cons (pe_op Lw.op_catA (pe_tup (pa_cons (pe_un un_neg pe_int) pa_nil)) (pe_slice sl_tup (pe_ix ix_tup (pv 1) pe_int (fun _ _ => rfl)) (po_some pe_int) po_none)) pa_nil)) (pe_slice sl_tup (pv 1) (po_some pe_int) po_none)))) pss_nil)
    (pss_cons (ps_if (pt_cmpR op_eq (pv 2) pe_int (nomark _)) (pss_one (ps_ret (pe_tup (pa_cons (pe_ix ix_tup (pv 1) pe_int (fun _ _ => rfl)) (pa_cons pe_int (pa_cons (pe_ix ix_tup (pv 1) pe_int (fun _ _ => rfl)) (pa_cons (pe_callTy b_tuple (by rfl) T.b_tuple (by decide +kernel) (pa_cons (pe_lc (own := [("_law_k", 3)]) (g := (gName 3)) (tt := tYes) rfl sc_Lbad_setup.nd (pi_tup (pe_ix ix_tup (pv 1) pe_int (fun _ _ => rfl))) (blkOk_by (N := ["_law_draws", "_law_setup_here", "_law_pick", "_law_k"]) (sc := defScope s_Lbad_setup) (own := [("_law_k", 3)]) (by decide +kernel)) (fun _ _ _ _ _ => (pg_name (i := 3) sc_Lbad_setup.nd rfl (Or.inl rfl))) (fun _ _ _ _ _ => pts_nil) (fun _ _ _ _ _ => (pe_op Lw.op_mulA (pe_tup (pa_cons pe_int pa_nil)) pe_int))) pa_nil)) (pa_cons (pe_ix ix_tup (pv 1) pe_int (fun _ _ => rfl)) pa_nil)))))))) pss_nil)
    (pss_cons (ps_if (pt_cmpR op_eq (pv 2) pe_int (nomark _)) (pss_one (ps_ret (pe_op Lw.op_catA (pe_op Lw.op_catA (pe_slice sl_tup (pv 1) po_none (po_some pe_int)) (pe_tup (pa_cons (pe_ix ix_list (pe_lst (pa_cons pe_int (pa_cons pe_int pa_nil))) (pe_op o_mod (pe_cl c_Ldraw (hr.mono (by first | decide | omega)) (by rfl) (pa_cons (pv 0) pa_nil)) pe_int) (fun _ _ => rfl)) pa_nil))) (pe_slice sl_tup (pv 1) (po_some pe_int) po_none)))) pss_nil)
    (pss_cons (ps_if (pt_cmpR op_eq (pv 2) pe_int (nomark _)) (pss_one (ps_ret (pe_op Lw.op_catA (pe_slice sl_tup (pv 1) po_none (po_some pe_int)) (pe_tup (pa_cons (pe_slice sl_tup (pe_ix ix_tup (pv 1) pe_int (fun _ _ => rfl)) (po_some pe_int) po_none) (pa_cons (pe_ix ix_tup (pv 1) pe_int (fun _ _ => rfl)) pa_nil)))))) pss_nil)
    (pss_cons (ps_if (pt_cmpR op_eq (pv 2) pe_int (nomark _)) (pss_one (ps_ret (pe_op Lw.op_catA (pe_slice sl_tup (pv 1) po_none (po_some pe_int)) (pe_tup (pa_cons (pe_op Lw.op_catA (pe_tup (pa_cons (pe_op Lw.op_catA (pe_ix ix_tup (pe_ix ix_tup (pv 1) pe_int (fun _ _ => rfl)) pe_int (fun _ _ => rfl)) (pe_tup (pa_cons pe_int pa_nil))) pa_nil)) (pe_slice sl_tup (pe_ix ix_tup (pv 1) pe_int (fun _ _ => rfl)) (po_some pe_int) po_none)) (pa_cons (pe_ix ix_tup (pv 1) pe_int (fun _ _ => rfl)) pa_nil)))))) pss_nil)
    (pss_cons (ps_if (pt_cmpR op_eq (pv 2) pe_int (nomark _)) (pss_one (ps_ret (pe_op Lw.op_catA (pe_slice sl_tup (pv 1) po_none (po_some pe_int)) (pe_tup (pa_cons (pe_op Lw.op_catA (pe_tup (pa_cons (pe_op Lw.op_catA (pe_tup (pa_cons (pe_ix ix_list (pe_lst (pa_cons (pe_un un_neg pe_int) (pa_cons (pe_op o_add (pe_op o_pow pe_int pe_int) pe_int) pa_nil))) (pe_op o_mod (pe_cl c_Ldraw (hr.mono (by first | decide | omega)) (by rfl) (pa_cons (pv 0) pa_nil)) pe_int) (fun _ _ => rfl)) pa_nil)) (pe_slice sl_tup (pe_ix ix_tup (pe_ix ix_tup (pv 1) pe_int (fun _ _ => rfl)) pe_int (fun _ _ => rfl)) (po_some pe_int) po_none)) pa_nil)) (pe_slice sl_tup (pe_ix ix_tup (pv 1) pe_int (fun _ _ => rfl)) (po_some pe_int) po_none)) (pa_cons (pe_ix ix_tup (pv 1) pe_int (fun _ _ => rfl)) pa_nil)))))) pss_nil)
    (pss_cons (ps_if (pt_cmpR op_eq (pe_op o_mod (pe_cl c_Ldraw (hr.mono (by first | decide | omega)) (by rfl) (pa_cons (pv 0) pa_nil)) pe_int) pe_int (nomark _)) (pss_one (ps_ret (pe_ix ix_list (pe_lst (pa_cons (pe_callTy b_list (by rfl) T.b_list (by decide +kernel) (pa_cons (pv 1) pa_nil)) (pa_cons pe_non (pa_cons (pe_slice sl_tup (pv 1) po_none (po_some pe_int)) (pa_cons (pe_op Lw.op_catA (pv 1) (pe_tup (pa_cons pe_int pa_nil))) (pa_cons (pe_op Lw.op_catA (pe_tup (pa_cons (pe_callTy b_list (by rfl) T.b_list (by decide +kernel) (pa_cons (pe_ix ix_tup (pv 1) pe_int (fun _ _ => rfl)) pa_nil)) pa_nil)) (pe_slice sl_tup (pv 1) (po_some pe_int) po_none)) pa_nil)))))) (pe_op o_mod (pe_cl c_Ldraw (hr.mono (by first | decide | omega)) (by rfl) (pa_cons (pv 0) pa_nil)) pe_int) (fun _ _ => rfl)))) pss_nil)
    (pss_one (ps_ret (pe_op Lw.op_catA (pe_slice sl_tup (pv 1) po_none (po_some pe_int)) (pe_tup (pa_cons (pe_ix ix_list (pe_lst (pa_cons (pe_un un_neg pe_int) (pa_cons pe_int (pa_cons pe_bl pa_nil)))) (pe_op o_mod (pe_cl c_Ldraw (hr.mono (by first | decide | omega)) (by rfl) (pa_cons (pv 0) pa_nil)) pe_int) (fun _ _ => rfl)) pa_nil)))))))))))))))
  · obtain ⟨x0, x1, rfl, h⟩ := h
    exact pu_Lbad_setup T h

/-! ### parties that are none -/
def P_Lbad_party (K : PySem.W.Frag) (A : Ad) (x0 x1 : V) (H : Hp) (Q : VK) : Prop := ∃ (d l : Addr) (S : Setup) (L : List Addr), x0 = .ref d ∧ Old H d l L ∧ SetupOk S ∧ Da H x1 (setupD S) ∧
  ∀ (v : V) (e : PyData) (H' : Hp), KD L H' v e → isPty S.rooms.length S.nights e = false → Fr [d] H H' → Draws H' d l → Q v H'
def sp_Lbad_party (K : PySem.W.Frag) (A : Ad) : Sp := fun vs H Q _ => ∃ x0 x1, vs = [x0, x1] ∧ P_Lbad_party K A x0 x1 H Q
theorem c_Lbad_party {K : PySem.W.Frag} {A : Ad} {x0 x1 : V} {H : Hp} {Q : VK} {E : XK} (h : P_Lbad_party K A x0 x1 H Q) : sp_Lbad_party K A [x0, x1] H Q E := ⟨_, _, rfl, h⟩
theorem sc_Lbad_party : FnScope ["_law_draws", "_law_setup_here", "_law_good", "_law_rows", "_law_stays", "_law_at", "_law_one", "_law_k"] ["_law_draws", "_law_setup_here"] (defScope s_Lbad_party) := ⟨rfl, rfl, rfl, by decide +kernel, rfl, by decide +kernel, by decide +kernel⟩
def t_bp7 (K : PySem.W.Frag) (A : Ad) : TS :=
  (tIfS (tTest (tOp (rNeD K) (tVar 4) (tRevL K (tVar 4)))) (tAsg (tOp rCat (tVar 3) (tOp rRep (tLst (tCons (tCB (rTupOf K) (tCons (tRevL K (tVar 4)) tNil)) tNil)) (tC (.int 4)))) (gName 3)) tNext)
def t_bp6 (K : PySem.W.Frag) (A : Ad) : TS :=
  (tAsg (tOp rCat (tVar 3) (tOp rRep (tLst (tCons (tCB (rTupOf K) (tCons (tOp rCat (tOp rCat (tSl (rSlL K) (tVar 4) tNoPart (tPart (tVar 5))) (tLst (tCons (tVar 6) tNil))) (tSl (rSlL K) (tVar 4) (tPart (tVar 5)) tNoPart)) tNil)) tNil)) (tC (.int 6)))) (gName 3))
def t_bp5 (K : PySem.W.Frag) (A : Ad) : TS :=
  (tAsg (tOp (rIxL K) (tLst (tCons (tTup (tCons (tC (.int 0)) (tCons (tC (.int 0)) (tCons (tC (.int 0)) tNil)))) (tCons (tTup (tCons (tC (.int 0)) (tCons (tC (.int 0)) (tCons (tOp oAdd (tOp (rIxT K) (tVar 1) (tC (.int 1))) (tC (.int 1))) tNil)))) (tCons (tTup (tCons (tCB (rLenSq K) (tCons (tOp (rIxT K) (tVar 1) (tC (.int 0))) tNil)) (tCons (tC (.int 0)) (tCons (tC (.int 1)) tNil)))) (tCons (tTup (tCons (tC (.int 0)) (tCons (tUn rNeg (tC (.int 1))) (tCons (tC (.int 1)) tNil)))) (tCons (tTup (tCons (tC (.int 0)) (tCons (tC (.int 1)) tNil))) (tCons (tTup (tCons (tC (.bl true)) (tCons (tC (.int 0)) (tCons (tC (.int 1)) tNil)))) (tCons (tC .non) tNil)))))))) (tOp oMod (tCl (sp_Ldraw K A) (tCons (tVar 0) tNil)) (tC (.int 7)))) (gName 6))
def t_bp3 (K : PySem.W.Frag) (A : Ad) : TS :=
  (tIfS (tTest (tOp cGt (tOp (rIxT K) (tVar 1) (tC (.int 1))) (tC (.int 1)))) (tAsg (tOp rCat (tVar 3) (tLst (tCons (tTup (tCons (tTup (tCons (tC (.int 0)) (tCons (tC (.int 1)) (tCons (tC (.int 2)) tNil)))) (tCons (tVar 2) tNil))) (tCons (tTup (tCons (tTup (tCons (tC (.int 0)) (tCons (tC (.int 0)) (tCons (tC (.int 2)) tNil)))) (tCons (tVar 2) tNil))) tNil)))) (gName 3)) tNext)
def t_bp2 (K : PySem.W.Frag) (A : Ad) : TS :=
  (tAsg (tOp rCat (tVar 3) (tLst (tCons (tTup (tCons (tVar 2) (tCons (tTup (tCons (tC (.int 0)) (tCons (tC (.int 1)) (tCons (tC (.int 1)) tNil)))) tNil))) (tCons (tTup (tCons (tTup (tCons (tC (.int 0)) (tCons (tC (.int 0)) (tCons (tC (.int 1)) (tCons (tC (.int 1)) tNil))))) tNil)) (tCons (tTup (tCons (tTup (tCons (tC (.bl true)) (tCons (tC (.int 0)) (tCons (tC (.int 1)) tNil)))) tNil)) (tCons (tVar 2) (tCons (tTup (tCons (tTup (tCons (tC (.int 0)) (tCons (tC (.int 0)) (tCons (tC (.bl true)) tNil)))) tNil)) (tCons (tTup (tCons (tCB (rListOf K) (tCons (tVar 2) tNil)) tNil)) (tCons (tTup (tCons (tVar 2) (tCons (tTup tNil) tNil))) tNil))))))))) (gName 3))
def t_bp1 (K : PySem.W.Frag) (A : Ad) : TS :=
  (tAsg (tLst (tCons (tTup tNil) (tCons (tOp (Lw.rMulA K) (tTup (tCons (tVar 2) tNil)) (tC (.int 5))) (tCons (tTup (tCons (tTup (tCons (tC (.int 0)) (tCons (tC (.int 0)) (tCons (tC (.int 0)) tNil)))) tNil)) (tCons (tTup (tCons (tTup (tCons (tC (.int 0)) (tCons (tC (.int 0)) (tCons (tOp oAdd (tOp (rIxT K) (tVar 1) (tC (.int 1))) (tC (.int 1))) tNil)))) tNil)) (tCons (tTup (tCons (tTup (tCons (tCB (rLenSq K) (tCons (tOp (rIxT K) (tVar 1) (tC (.int 0))) tNil)) (tCons (tC (.int 0)) (tCons (tC (.int 1)) tNil)))) tNil)) (tCons (tTup (tCons (tTup (tCons (tC (.int 0)) (tCons (tUn rNeg (tC (.int 1))) (tCons (tC (.int 1)) tNil)))) tNil)) (tCons (tTup (tCons (tTup (tCons (tC (.int 0)) (tCons (tC (.int 1)) tNil))) tNil)) (tCons (tLst (tCons (tVar 2) tNil)) tNil))))))))) (gName 3))
def t_Lbad_party (K : PySem.W.Frag) (A : Ad) : TS :=
  (tSeq (tAsg (tTup (tCons (tC (.int 0)) (tCons (tC (.int 0)) (tCons (tC (.int 1)) tNil)))) (gName 2))
    (tSeq (t_bp1 K A)
    (tSeq (t_bp2 K A)
    (tSeq (t_bp3 K A)
    (tSeq (tAsg (tCB (rSortD K) (tCons (tLc (iRng1 (tCons (tOp oMod (tCl (sp_Ldraw K A) (tCons (tVar 0) tNil)) (tC (.int 4))) tNil)) (gName 7) tYes (tCl (sp_Lstay K A) (tCons (tVar 0) (tCons (tVar 1) tNil))) [7]) tNil)) (gName 4))
    (tSeq (tAsg (tOp oMod (tCl (sp_Ldraw K A) (tCons (tVar 0) tNil)) (tOp oAdd (tCB (rLenSq K) (tCons (tVar 4) tNil)) (tC (.int 1)))) (gName 5))
    (tSeq (t_bp5 K A)
    (tSeq (t_bp6 K A)
    (tSeq (t_bp7 K A)
    (tRet (tOp (rIxL K) (tVar 3) (tOp oMod (tCl (sp_Ldraw K A) (tCons (tVar 0) tNil)) (tCB (rLenSq K) (tCons (tVar 3) tNil))))))))))))))
def NoPt (O : List Addr) (S : Setup) (H : Hp) (v : V) : Prop := ∃ e, KD O H v e ∧ isPty S.rooms.length S.nights e = false
theorem NoPt.fr {O : List Addr} {d : Addr} {S : Setup} {H H' : Hp} {v : V} (h : NoPt O S H v) (hd : d ∈ O) (f : Fr [d] H H') : NoPt O S H' v := by
  obtain ⟨e, k, n⟩ := h
  exact ⟨e, k.frd hd f, n⟩
theorem NoPt.f0 {O : List Addr} {S : Setup} {H H' : Hp} {v : V} (h : NoPt O S H v) (f : Fr [] H H') : NoPt O S H' v := by
  obtain ⟨e, k, n⟩ := h
  exact ⟨e, k.fr0 f, n⟩
abbrev bpS (d s g : Addr) (v3 v4 v5 v6 v7 : Option V) : L2.St := [some (.ref d), some (.ref s), some (.ref g), v3, v4, v5, v6, v7]
theorem kd3 {O : List Addr} {t : Addr} {H : Hp} {x y z : V} {a b c : PyData} (e : H t = some (.tup [x, y, z])) (h1 : KD O H x a) (h2 : KD O H y b) (h3 : KD O H z c) : KD O H (.ref t) (.tuple [a, b, c]) := .tup e (Nat.le_of_ble_eq_true rfl) (.cons h1 (.cons h2 (.cons h3 .nil)))
theorem kd1 {O : List Addr} {t : Addr} {H : Hp} {x : V} {a : PyData} (e : H t = some (.tup [x])) (h1 : KD O H x a) : KD O H (.ref t) (.tuple [a]) := .tup e (Nat.le_of_ble_eq_true rfl) (.cons h1 .nil)
theorem kd2 {O : List Addr} {t : Addr} {H : Hp} {x y : V} {a b : PyData} (e : H t = some (.tup [x, y])) (h1 : KD O H x a) (h2 : KD O H y b) : KD O H (.ref t) (.tuple [a, b]) := .tup e (Nat.le_of_ble_eq_true rfl) (.cons h1 (.cons h2 .nil))
theorem bp1 (T : Txt K mg A) {D : Ends} {H : Hp} {O : List Addr} {d l s g r : Addr} {S : Setup} {p h : V} {v3 v4 v5 v6 v7 : Option V} (o0 : Old H d l O) (so : SetupOk S) (es : H s = some (.tup [.ref r, .int S.nights, .int S.sellers, p, h])) (er : H r = some (.tup (S.rooms.map V.int))) (eg : H g = some (.tup [.int 0, .int 0, .int 1]))
    (nx : ∀ L xs H', H L = none → Fr [] H H' → H' L = some (.lst xs) → xs.length = 8 → (∀ v ∈ xs, NoPt O S H' v) → D.nx (bpS d s g (some (.ref L)) v4 v5 v6 v7) H') : t_bp1 K A D (bpS d s g v3 v4 v5 v6 v7) H := by
  have hk := so.k1
  have hn := so.n1
  unfold t_bp1
  walk_at "go"
  rename_i t0 H1 n1 f1 e1 t1 H2 n2 f2 e2
  refine g_mulA e2 (by intro z; cases z) (by decide) (by decide) (Nat.le_of_ble_eq_true rfl) fun q3 H3 f3 e3 => ?_
  have F3 : Fr [] H H3 := (f1.then0 f2).then0 f3
  have es3 := F3.tup _ _ es
  have er3 := F3.tup _ _ er
  have eg3 := F3.tup _ _ eg
  have e1o := f3.tup _ _ (f2.tup _ _ e1)
  have o3 := o0.f0 F3
  clear f1 f2 f3 es er eg e1 e2 n1 n2
  walk_at "go"
  rename_i t4 H4 n4 f4 e4 t5 H5 n5 f5 e5 t6 H6 n6 f6 e6 t7 H7 n7 f7 e7 t8 H8 n8 f8 e8 t9 H9 n9 f9 e9 t10 H10 n10 f10 e10 t11 H11 n11 f11 e11 t12 H12 n12 f12 e12 t13 H13 n13 f13 e13 t14 H14 n14 f14 e14 L H15 nL fL eL
  have k14 := fL
  have k13 := f14.then0 k14
  have k12 := f13.then0 k13
  have k11 := f12.then0 k12
  have k10 := f11.then0 k11
  have k9 := f10.then0 k10
  have k8 := f9.then0 k9
  have k7 := f8.then0 k8
  have k6 := f7.then0 k7
  have k5 := f6.then0 k6
  have k4 := f5.then0 k5
  have k3 := f4.then0 k4
  have F := F3.then0 k3
  have F13 : Fr [] H3 H13 := ((((((((f4.then0 f5).then0 f6).then0 f7).then0 f8).then0 f9).then0 f10).then0 f11).then0 f12).then0 f13
  have n14d : t14 ∉ O := (o3.f0 F13).nin n14
  have nLH : H L = none := (F3.then0 (F13.then0 f14)).free nL
  have kg : KD O H15 (.ref g) (stayD (0, 0, 1)) := kd3 (k3.tup _ _ eg3) (.int _) (.int _) (.int _)
  have one : ∀ {e : PyData} {v : V}, KD O H15 v e → isSt S.rooms.length S.nights e = false → ∀ {t : Addr}, H15 t = some (.tup [v]) → NoPt O S H15 (.ref t) := fun ke hs t et => ⟨_, kd1 et ke, pty_no List.mem_cons_self hs⟩
  have rl : ((S.rooms.map V.int).length : Int) = S.rooms.length := by rw [List.length_map]
  rw [rl] at e8
  refine nx L _ H15 nLH F eL rfl fun v hv => ?_
  have e1' := k3.tup _ _ e1o
  have e3' := k3.tup _ _ e3
  have e4' := k4.tup _ _ e4
  have e5' := k5.tup _ _ e5
  have e6' := k6.tup _ _ e6
  have e7' := k7.tup _ _ e7
  have e8' := k8.tup _ _ e8
  have e9' := k9.tup _ _ e9
  have e10' := k10.tup _ _ e10
  have e11' := k11.tup _ _ e11
  have e12' := k12.tup _ _ e12
  have e13' := k13.tup _ _ e13
  have e14' := k14.at0 e14
  clear f4 f5 f6 f7 f8 f9 f10 f11 f12 f13 f14 fL k3 k4 k5 k6 k7 k8 k9 k10 k11 k12 k13 k14 F F3 F13
  simp only [List.mem_cons, List.not_mem_nil, or_false] at hv
  rcases hv with rfl | rfl | rfl | rfl | rfl | rfl | rfl | rfl
  · exact ⟨.tuple [], .tup e1' (Nat.zero_le _) .nil, rfl⟩
  · exact ⟨.tuple (List.replicate 5 (stayD (0, 0, 1))), .tup e3' (Nat.le_of_ble_eq_true rfl) (KDL.rep kg 5), pty_len (by rw [List.length_replicate]; omega)⟩
  · exact one (kd3 e4' (.int 0) (.int 0) (.int 0)) (st_no (by omega)) e5'
  · exact one (kd3 e6' (.int 0) (.int 0) (.int _)) (st_no (by omega)) e7'
  · exact one (kd3 e8' (.int _) (.int 0) (.int 1)) (st_no (by omega)) e9'
  · exact one (kd3 e10' (.int 0) (.int (-1)) (.int 1)) (st_no (by omega)) e11'
  · exact one (kd2 e12' (.int 0) (.int 1)) rfl e13'
  · exact ⟨.list [stayD (0, 0, 1)], .lst e14' n14d (Nat.le_of_ble_eq_true rfl) (.cons kg .nil), rfl⟩
theorem bp2 (T : Txt K mg A) {D : Ends} {H : Hp} {O : List Addr} {d l s g r L : Addr} {S : Setup} {p h : V} {xs : List V} {v4 v5 v6 v7 : Option V} (o0 : Old H d l O) (so : SetupOk S) (es : H s = some (.tup [.ref r, .int S.nights, .int S.sellers, p, h])) (eg : H g = some (.tup [.int 0, .int 0, .int 1]))
    (eL : H L = some (.lst xs)) (hx : xs.length = 8) (ok : ∀ v ∈ xs, NoPt O S H v)
    (nx : ∀ L' xs' H', H L' = none → Fr [] H H' → H' L' = some (.lst xs') → xs'.length = 15 → (∀ v ∈ xs', NoPt O S H' v) → D.nx (bpS d s g (some (.ref L')) v4 v5 v6 v7) H') : t_bp2 K A D (bpS d s g (some (.ref L)) v4 v5 v6 v7) H := by
  have hk := so.k1
  have hn := so.n1
  unfold t_bp2
  walk_at "go"
  rename_i t1 H1 n1 f1 e1 t2 H2 n2 f2 e2 t3 H3 n3 f3 e3 t4 H4 n4 f4 e4 t5 H5 n5 f5 e5 t6 H6 n6 f6 e6 t7 H7 n7 f7 e7 t8 H8 n8 f8 e8 t9 H9 n9 f9 e9 t10 H10 n10 f10 e10 t11 H11 n11 f11 e11 t12 H12 n12 f12 e12 t13 H13 n13 f13 e13
  have F : Fr [] H H13 := (((((((((((f1.then0 f2).then0 f3).then0 f4).then0 f5).then0 f6).then0 f7).then0 f8).then0 f9).then0 f10).then0 f11).then0 f12).then0 f13
  refine g_cat (F.at0 eL) e13 (szL (by rw [hx]; exact Nat.le_of_ble_eq_true rfl)) fun L' H14 nL' f14 eL' => ?_
  have k13 := f14
  have k12 := f13.then0 k13
  have k11 := f12.then0 k12
  have k10 := f11.then0 k11
  have k9 := f10.then0 k10
  have k8 := f9.then0 k9
  have k7 := f8.then0 k8
  have k6 := f7.then0 k7
  have k5 := f6.then0 k6
  have k4 := f5.then0 k5
  have k3 := f4.then0 k4
  have k2 := f3.then0 k3
  have k1 := f2.then0 k2
  have k0 := f1.then0 k1
  have nL'H : H L' = none := F.free nL'
  have n9d : t9 ∉ O := (o0.f0 (((((((f1.then0 f2).then0 f3).then0 f4).then0 f5).then0 f6).then0 f7).then0 f8)).nin n9
  have kg : KD O H14 (.ref g) (stayD (0, 0, 1)) := kd3 (k0.tup _ _ eg) (.int _) (.int _) (.int _)
  have one : ∀ {e : PyData} {v : V}, KD O H14 v e → isSt S.rooms.length S.nights e = false → ∀ {t : Addr}, H14 t = some (.tup [v]) → NoPt O S H14 (.ref t) := fun ke hs t et => ⟨_, kd1 et ke, pty_no List.mem_cons_self hs⟩
  refine nx L' _ H14 nL'H k0 eL' (by rw [List.length_append, hx]; rfl) fun v hv => ?_
  rcases List.mem_append.mp hv with hv | hv
  · exact (ok v hv).f0 k0
  have e1' := k1.tup _ _ e1
  have e2' := k2.tup _ _ e2
  have e3' := k3.tup _ _ e3
  have e4' := k4.tup _ _ e4
  have e5' := k5.tup _ _ e5
  have e6' := k6.tup _ _ e6
  have e7' := k7.tup _ _ e7
  have e8' := k8.tup _ _ e8
  have e9' := k9.at0 e9
  have e10' := k10.tup _ _ e10
  have e11' := k11.tup _ _ e11
  have e12' := k12.tup _ _ e12
  clear f1 f2 f3 f4 f5 f6 f7 f8 f9 f10 f11 f12 f13 f14 k0 k1 k2 k3 k4 k5 k6 k7 k8 k9 k10 k11 k12 k13 F
  simp only [List.mem_cons, List.not_mem_nil, or_false] at hv
  rcases hv with rfl | rfl | rfl | rfl | rfl | rfl | rfl
  · exact ⟨_, kd2 e2' kg (kd3 e1' (.int 0) (.int 1) (.int 1)), pty_no (List.mem_cons_of_mem _ List.mem_cons_self) (st_no (by omega))⟩
  · exact one (.tup e3' (Nat.le_of_ble_eq_true rfl) (.cons (.int 0) (.cons (.int 0) (.cons (.int 1) (.cons (.int 1) .nil))))) rfl e4'
  · exact one (kd3 e5' (.bl true) (.int 0) (.int 1)) rfl e6'
  · exact ⟨_, kg, rfl⟩
  · exact one (kd3 e7' (.int 0) (.int 0) (.bl true)) (by show (_ && _ && false) = false; rw [Bool.and_false]) e8'
  · exact one (.lst e9' n9d (Nat.le_of_ble_eq_true rfl) (.cons (.int 0) (.cons (.int 0) (.cons (.int 1) .nil)))) rfl e10'
  · exact ⟨_, kd2 e12' kg (.tup e11' (Nat.zero_le _) .nil), pty_no (List.mem_cons_of_mem _ List.mem_cons_self) rfl⟩
theorem srt2 {a b : Stay} (h : PySem.W.dataLe false stayD a b = false) : ssrt [a, b] = [b, a] := by
  unfold ssrt
  simp [List.mergeSort, List.MergeSort.Internal.splitInTwo, List.merge, h]
theorem pty_two {S : Setup} {a b : Stay} (h : PySem.W.dataLe false stayD a b = false) : isPty S.rooms.length S.nights (.tuple [stayD a, stayD b]) = false := by
  refine Bool.eq_false_iff.mpr fun z => ?_
  have z : (decide _ && decide _ && _ && PyData.eqv (.list ([a, b].map stayD)) (.list (srt ([a, b].map stayD)))) = true := z
  rw [Bool.and_eq_true, ← ssrt_map, eqv_list, srt2 h] at z
  have e := (List.cons.inj z.2).1
  rw [e] at h
  rcases (dle_total stayD).total b b with q | q <;> (rw [h] at q; cases q)
theorem stay_le (a b : Stay) : PySem.W.dataLe false stayD a b = true ↔ (a.1 < b.1 ∨ (a.1 = b.1 ∧ (a.2.1 < b.2.1 ∨ (a.2.1 = b.2.1 ∧ a.2.2 ≤ b.2.2)))) := by
  show (!PyProof.Rows.lexLt PyProof.Rows.itemOrd (PySem.W.keyToks (stayD b)) (PySem.W.keyToks (stayD a))) = true ↔ _
  simp [stayD, PySem.W.keyToks, PySem.W.keyToksAll, PyProof.Rows.lexLt, PyProof.Rows.itemLt]
  omega
theorem stay_anti (a b : Stay) (h1 : PySem.W.dataLe false stayD a b = true) (h2 : PySem.W.dataLe false stayD b a = true) : a = b := by
  rw [stay_le] at h1 h2
  exact Prod.ext (by omega) (Prod.ext (by omega) (by omega))
theorem ssrt_pw (l : List Stay) : (ssrt l).Pairwise fun a b => PySem.W.dataLe false stayD a b = true := PySem.W.sort_pairwise (dle_total stayD) l
theorem ssrt_eq {l m : List Stay} (h : l.Perm m) : ssrt l = ssrt m := List.Perm.eq_of_pairwise (le := fun a b => PySem.W.dataLe false stayD a b = true) (fun a b _ _ => stay_anti a b) (ssrt_pw l) (ssrt_pw m) ((ssrt_perm l).trans (h.trans (ssrt_perm m).symm))
theorem pty_rev {S : Setup} {ss : List Stay} (h : ssrt ss = ss) (n : ss ≠ ss.reverse) : isPty S.rooms.length S.nights (.tuple (ss.reverse.map stayD)) = false := by
  refine Bool.eq_false_iff.mpr fun z => ?_
  have z : (decide _ && decide _ && _ && PyData.eqv (.list (ss.reverse.map stayD)) (.list (srt (ss.reverse.map stayD)))) = true := z
  rw [Bool.and_eq_true, ← ssrt_map, eqv_list, ssrt_eq (List.reverse_perm ss), h] at z
  exact n z.2.symm
theorem bp3 (T : Txt K mg A) {D : Ends} {H : Hp} {O : List Addr} {d l s g r L : Addr} {S : Setup} {p h : V} {xs : List V} {v4 v5 v6 v7 : Option V} (o0 : Old H d l O) (so : SetupOk S) (es : H s = some (.tup [.ref r, .int S.nights, .int S.sellers, p, h])) (eg : H g = some (.tup [.int 0, .int 0, .int 1]))
    (eL : H L = some (.lst xs)) (nL : L ≠ d) (hx : xs.length = 15) (ok : ∀ v ∈ xs, NoPt O S H v)
    (nx : ∀ L' xs' H', L' ≠ d → Fr [] H H' → H' L' = some (.lst xs') → 15 ≤ xs'.length → xs'.length ≤ 17 → (∀ v ∈ xs', NoPt O S H' v) → D.nx (bpS d s g (some (.ref L')) v4 v5 v6 v7) H') : t_bp3 K A D (bpS d s g (some (.ref L)) v4 v5 v6 v7) H := by
  unfold t_bp3
  walk_at "go"
  refine g_ite (fun c => ?_) (fun c => ?_)
  · walk_at "go"
    rename_i t1 H1 n1 f1 e1 t2 H2 n2 f2 e2 t3 H3 n3 f3 e3 t4 H4 n4 f4 e4 t5 H5 n5 f5 e5
    have F : Fr [] H H5 := (((f1.then0 f2).then0 f3).then0 f4).then0 f5
    refine g_cat (F.at0 eL) e5 (szL (by rw [hx]; exact Nat.le_of_ble_eq_true rfl)) fun L' H6 nL' f6 eL' => ?_
    have F6 := F.then0 f6
    have kg : KD O H6 (.ref g) (stayD (0, 0, 1)) := kd3 (F6.tup _ _ eg) (.int _) (.int _) (.int _)
    refine nx L' _ H6 (((o0.f0 F).dr.new1 nL').symm) F6 eL' (by rw [List.length_append, hx]; exact Nat.le_of_ble_eq_true rfl) (by rw [List.length_append, hx]; exact Nat.le_of_ble_eq_true rfl) fun v hv => ?_
    rcases List.mem_append.mp hv with hv | hv
    · exact (ok v hv).f0 F6
    simp only [List.mem_cons, List.not_mem_nil, or_false] at hv
    rcases hv with rfl | rfl
    · exact ⟨_, kd2 ((((f3.then0 f4).then0 f5).then0 f6).tup _ _ e2) (kd3 (((((f2.then0 f3).then0 f4).then0 f5).then0 f6).tup _ _ e1) (.int 0) (.int 1) (.int 2)) kg, pty_two (a := (0, 1, 2)) (b := (0, 0, 1)) (by decide +kernel)⟩
    · exact ⟨_, kd2 ((f5.then0 f6).tup _ _ e4) (kd3 (((f4.then0 f5).then0 f6).tup _ _ e3) (.int 0) (.int 0) (.int 2)) kg, pty_two (a := (0, 0, 2)) (b := (0, 0, 1)) (by decide +kernel)⟩
  · walk_at "go"
    exact nx L xs H nL Fr.refl eL (by omega) (by omega) ok

theorem DaL.rev {H : Hp} : ∀ {xs : List V} {ds : List PyData}, DaL H xs ds → DaL H xs.reverse ds.reverse
  | _, _, .nil => .nil
  | _, _, .cons h t => by rw [List.reverse_cons, List.reverse_cons]; exact (DaL.rev t).append (.one' h)
theorem bp5 (T : Txt K mg A) {D : Ends} {H : Hp} {O : List Addr} {d l s g r : Addr} {S : Setup} {p h : V} {v3 v4 v5 v6 v7 : Option V} (o0 : Old H d l O) (so : SetupOk S) (es : H s = some (.tup [.ref r, .int S.nights, .int S.sellers, p, h])) (er : H r = some (.tup (S.rooms.map V.int)))
    (nx : ∀ v e H', KD O H' v e → isSt S.rooms.length S.nights e = false → Fr [d] H H' → Old H' d l O → D.nx (bpS d s g v3 v4 v5 (some v) v7) H') : t_bp5 K A D (bpS d s g v3 v4 v5 v6 v7) H := by
  have hk := so.k1
  have hn := so.n1
  have D0 := o0.dr
  unfold t_bp5
  walk_at "go"
  rename_i t1 H1 n1 f1 e1 t2 H2 n2 f2 e2 t3 H3 n3 f3 e3 t4 H4 n4 f4 e4 t5 H5 n5 f5 e5 t6 H6 n6 f6 e6 L H7 n7 f7 e7 y H8 y0 y1 f8 D8
  have k6 := f7
  have k5 := f6.then0 k6
  have k4 := f5.then0 k5
  have k3 := f4.then0 k4
  have k2 := f3.then0 k3
  have k1 := f2.then0 k2
  have F : Fr [] H H7 := f1.then0 k1
  have nLd : L ≠ d := ((o0.f0 (((((f1.then0 f2).then0 f3).then0 f4).then0 f5).then0 f6)).dr.new1 n7).symm
  rw [List.length_map] at e3
  have e1' := f8.tup _ _ (k1.tup _ _ e1)
  have e2' := f8.tup _ _ (k2.tup _ _ e2)
  have e3' := f8.tup _ _ (k3.tup _ _ e3)
  have e4' := f8.tup _ _ (k4.tup _ _ e4)
  have e5' := f8.tup _ _ (k5.tup _ _ e5)
  have e6' := f8.tup _ _ (k6.tup _ _ e6)
  have e7' := f8.at e7 (nin1 nLd nin0)
  have F8 : Fr [d] H H8 := f8.pre0' F
  have o8 := (o0.f0 F).fd f8 D8
  clear f1 f2 f3 f4 f5 f6 f7 f8 k1 k2 k3 k4 k5 k6 F e1 e2 e3 e4 e5 e6 e7 n1 n2 n3 n4 n5 n6 n7
  have g : ∀ (v : V) (e : PyData), atI [V.ref t1, .ref t2, .ref t3, .ref t4, .ref t5, .ref t6, .non] (y % 7) = some v → KD O H8 v e → isSt S.rooms.length S.nights e = false → rIxL K (.ref L) (.int (y % 7)) H8 fun v H' => gName 6 v (bpS d s g v3 v4 v5 v6 v7) H' D.nx := fun v e hv kd hs =>
    g_ixL (SqL.of e7') hv (g_name (nx v e H8 kd hs F8 o8))
  have hy : y % 7 = 0 ∨ y % 7 = 1 ∨ y % 7 = 2 ∨ y % 7 = 3 ∨ y % 7 = 4 ∨ y % 7 = 5 ∨ y % 7 = 6 := by omega
  rcases hy with hy | hy | hy | hy | hy | hy | hy
  · exact g (.ref t1) _ (by rw [hy]; rfl) (kd3 e1' (.int 0) (.int 0) (.int 0)) (st_no (by omega))
  · exact g (.ref t2) _ (by rw [hy]; rfl) (kd3 e2' (.int 0) (.int 0) (.int _)) (st_no (by omega))
  · exact g (.ref t3) _ (by rw [hy]; rfl) (kd3 e3' (.int _) (.int 0) (.int 1)) (st_no (by omega))
  · exact g (.ref t4) _ (by rw [hy]; rfl) (kd3 e4' (.int 0) (.int (-1)) (.int 1)) (st_no (by omega))
  · exact g (.ref t5) _ (by rw [hy]; rfl) (kd2 e5' (.int 0) (.int 1)) rfl
  · exact g (.ref t6) _ (by rw [hy]; rfl) (kd3 e6' (.bl true) (.int 0) (.int 1)) rfl
  · exact g .non .none (by rw [hy]; rfl) .non rfl
theorem flat1 {α : Type} (n : Nat) (x : α) : (List.replicate n [x]).flatten = List.replicate n x := by
  induction n with
  | zero => rfl
  | succ n ih => rw [List.replicate_succ, List.flatten_cons, ih]; rfl
theorem cut_dropL {xs : List V} {n : Nat} (h : n ≤ xs.length) : cutV xs (some (n : Int)) none = xs.drop n := cut_drop h
theorem bp6 (T : Txt K mg A) {D : Ends} {H : Hp} {O : List Addr} {d l s g L sa : Addr} {S : Setup} {z : Int} {ss : List Stay} {vs xs : List V} {one : V} {e : PyData} {v7 : Option V} (o0 : Old H d l O) (so : SetupOk S)
    (esa : H sa = some (.lst vs)) (ds : DaL H vs (ss.map stayD)) (hl : ss.length ≤ 3) (hz : 0 ≤ z ∧ z ≤ ss.length) (ke : KD O H one e) (he : isSt S.rooms.length S.nights e = false)
    (eL : H L = some (.lst xs)) (hx : xs.length ≤ 17) (hx1 : 1 ≤ xs.length) (ok : ∀ v ∈ xs, NoPt O S H v)
    (nx : ∀ L' xs' H', L' ≠ d → Fr [] H H' → H' L' = some (.lst xs') → 1 ≤ xs'.length → xs'.length ≤ 23 → (∀ v ∈ xs', NoPt O S H' v) → D.nx (bpS d s g (some (.ref L')) (some (.ref sa)) (some (.int z)) (some one) v7) H') :
    t_bp6 K A D (bpS d s g (some (.ref L)) (some (.ref sa)) (some (.int z)) (some one) v7) H := by
  have hvl : vs.length = ss.length := by rw [ds.len, List.length_map]
  obtain ⟨n, rfl⟩ : ∃ n : Nat, z = n := ⟨z.toNat, by omega⟩
  unfold t_bp6
  walk_at "go"
  rename_i t1 H1 n1 f1 e1 t2 H2 n2 f2 e2
  rw [cut_take (by omega)] at e1
  refine g_cat (f2.at0 e1) e2 (szL (by rw [List.length_take]; simp; omega)) fun t3 H3 n3 f3 e3 => ?_
  have esa3 := f3.at0 (f2.at0 (f1.at0 esa))
  walk_at "go"
  rename_i t4 H4 n4 f4 e4
  rw [cut_dropL (by omega)] at e4
  have hcl : (vs.take n ++ [one] ++ vs.drop n).length ≤ 4 := by simp [List.length_take, List.length_drop]; omega
  refine g_cat (f4.at0 e3) e4 (szL (by simp [List.length_take, List.length_drop]; omega)) fun t5 H5 n5 f5 e5 => ?_
  walk_at "go"
  rename_i t6 H6 n6 f6 e6 t7 H7 n7 f7 e7
  have F7 : Fr [] H H7 := ((((((f1.then0 f2).then0 f3).then0 f4).then0 f5).then0 f6).then0 f7)
  refine g_rep e7 ⟨by decide, by decide⟩ (Nat.le_of_ble_eq_true rfl) fun t8 H8 n8 f8 e8 => ?_
  refine g_cat (f8.at0 (F7.at0 eL)) e8 (szL (by rw [show (6 : Int).toNat = 6 from rfl, flat1, List.length_replicate]; omega)) fun t9 H9 n9 f9 e9 => ?_
  have F9 : Fr [] H H9 := (F7.then0 f8).then0 f9
  refine nx t9 _ H9 (((o0.f0 (F7.then0 f8)).dr.new1 n9).symm) F9 e9 (by rw [List.length_append]; omega) (by rw [List.length_append, show (6 : Int).toNat = 6 from rfl, flat1, List.length_replicate]; omega) fun v hv => ?_
  rcases List.mem_append.mp hv with hv | hv
  · exact (ok v hv).f0 F9
  rw [show (6 : Int).toNat = 6 from rfl, flat1] at hv
  rw [List.eq_of_mem_replicate hv]
  have kss : KDL O H9 vs (ss.map stayD) := fun H' f => DaL.frL (F9.of0.transL f) ds (imm_stays ss)
  have kdrop : KDL O H9 (vs.drop n) ((ss.map stayD).drop n) := fun H' f => DaL.drop n (kss H' f)
  exact ⟨_, .tup (((f7.then0 f8).then0 f9).tup _ _ e6) (by omega) (((kss.take n).app (.cons (ke.fr0 F9) .nil)).app kdrop), pty_no (e := e) (by simp) he⟩
theorem bp7 (T : Txt K mg A) {D : Ends} {H : Hp} {O : List Addr} {d l s g L sa : Addr} {S : Setup} {ss : List Stay} {vs xs : List V} {v5 v6 v7 : Option V} (o0 : Old H d l O) (so : SetupOk S)
    (esa : H sa = some (.lst vs)) (ds : DaL H vs (ss.map stayD)) (hl : ss.length ≤ 3) (hs : ssrt ss = ss)
    (eL : H L = some (.lst xs)) (nL : L ≠ d) (hx : xs.length ≤ 23) (hx1 : 1 ≤ xs.length) (ok : ∀ v ∈ xs, NoPt O S H v)
    (nx : ∀ L' xs' H', L' ≠ d → Fr [] H H' → H' L' = some (.lst xs') → 1 ≤ xs'.length → xs'.length ≤ 27 → (∀ v ∈ xs', NoPt O S H' v) → D.nx (bpS d s g (some (.ref L')) (some (.ref sa)) v5 v6 v7) H') :
    t_bp7 K A D (bpS d s g (some (.ref L)) (some (.ref sa)) v5 v6 v7) H := by
  have hvl : vs.length = ss.length := by rw [ds.len, List.length_map]
  have drev : ∀ {H' : Hp}, Fr [] H H' → DaL H' vs.reverse (ss.reverse.map stayD) := fun f => by
    rw [List.map_reverse]
    exact DaL.rev (DaL.frL f ds (imm_stays ss))
  unfold t_bp7
  walk_at "go"
  rename_i t1 H1 n1 f1 e1
  refine g_neDD (.lst (f1.at0 esa) (by omega) (DaL.frL f1 ds (imm_stays ss))) (.lst e1 (by rw [List.length_reverse]; omega) (drev f1)) (stays_shaped _) (stays_shaped _) ?_
  walk_at "go"
  refine g_iteNB (fun c => ?_) (fun c => ?_)
  · have nr : ss ≠ ss.reverse := fun z => by rw [(eqv_list ss ss.reverse).mpr z] at c; cases c
    walk_at "go"
    rename_i t2 H2 n2 f2 e2 t3 H3 n3 f3 e3 t4 H4 n4 f4 e4
    have F4 : Fr [] H H4 := ((f1.then0 f2).then0 f3).then0 f4
    refine g_rep e4 ⟨by decide, by decide⟩ (Nat.le_of_ble_eq_true rfl) fun t8 H8 n8 f8 e8 => ?_
    refine g_cat (f8.at0 (F4.at0 eL)) e8 (szL (by rw [show (4 : Int).toNat = 4 from rfl, flat1, List.length_replicate]; omega)) fun t9 H9 n9 f9 e9 => ?_
    have F9 : Fr [] H H9 := (F4.then0 f8).then0 f9
    refine nx t9 _ H9 (((o0.f0 (F4.then0 f8)).dr.new1 n9).symm) F9 e9 (by rw [List.length_append]; omega) (by rw [List.length_append, show (4 : Int).toNat = 4 from rfl, flat1, List.length_replicate]; omega) fun v hv => ?_
    rcases List.mem_append.mp hv with hv | hv
    · exact (ok v hv).f0 F9
    rw [show (4 : Int).toNat = 4 from rfl, flat1] at hv
    rw [List.eq_of_mem_replicate hv]
    exact ⟨_, .imm (.tup (((f4.then0 f8).then0 f9).tup _ _ e3) (by rw [List.length_reverse]; omega) (drev F9)) (imm_stays _), pty_rev hs nr⟩
  · walk_at "go"
    exact nx L xs H1 nL f1 (f1.at0 eL) hx1 (by omega) fun v hv => (ok v hv).f0 f1
theorem pu_Lbad_party (T : Txt K mg A) {x0 x1 : V} {H : Hp} {Q : VK} (h : P_Lbad_party K A x0 x1 H Q) : t_Lbad_party K A { nx := fun _ H' => Q .non H', rt := Q } [some x0, some x1, none, none, none, none, none, none] H := by
  obtain ⟨d, l, S, O, rfl, o0, so, dS, k⟩ := h
  obtain ⟨s, r, p, ps, sa⟩ := SetAt.of dS
  cases sa.e
  have es := sa.t
  have er := sa.r
  clear sa
  unfold t_Lbad_party
  walk_at "go"
  rename_i g H1 n1 f1 e1
  have o1 := o0.f0 f1
  refine bp1 T o1 so (f1.tup _ _ es) (f1.tup _ _ er) e1 fun L1 xs1 H2 nL1 f2 eL1 hx1 ok1 => ?_
  have F2 := f1.then0 f2
  have o2 := o1.f0 f2
  walk_at "go"
  refine bp2 T o2 so (F2.tup _ _ es) (f2.tup _ _ e1) eL1 hx1 ok1 fun L2 xs2 H3 nL2 f3 eL2 hx2 ok2 => ?_
  have F3 := F2.then0 f3
  have o3 := o2.f0 f3
  have nL2d : L2 ≠ d := (o2.dr.new1 nL2).symm
  clear eL1 ok1 nL1
  walk_at "go"
  refine bp3 T o3 so (F3.tup _ _ es) (f3.tup _ _ (f2.tup _ _ e1)) eL2 nL2d hx2 ok2 fun L3 xs3 H4 nL3 f4 eL3 hx3 hx3' ok3 => ?_
  have F4 := F3.then0 f4
  have o4 := o3.f0 f4
  have D4 := o4.dr
  have es4 := F4.tup _ _ es
  have er4 := F4.tup _ _ er
  have dS4 := Da.frL F4 dS (imm_setup S)
  clear eL2 ok2 nL2 f1 f2 f3 f4 o0 o1 o2 o3 F2 F3 es er dS e1 n1
  walk_at "go"
  rename_i y H5 y0 y1 f5 D5
  have eL5 := f5.at eL3 (nin1 nL3 nin0)
  have ok5 : ∀ v ∈ xs3, NoPt O S H5 v := fun v hv => (ok3 v hv).fr o4.hd f5
  have dS5 := Da.frL f5 dS4 (imm_setup S)
  refine l_range (lo := 0) (n := (y % 4).toNat) fun Dl H6 nD f6 e6 => ⟨fun i acc H' => ∃ ss : List Stay, DaL H' acc (ss.map stayD) ∧ ss.length = i ∧ (∀ s ∈ ss, StayOk S s) ∧ Fr [d] H5 H' ∧ Draws H' d l, ⟨[], .nil, rfl, fun _ q => (nomatch q), f6.of0, D5.fr f6 nin0 nin0⟩, fun i acc H' hi ha ⟨ss, ds, hs, hk, f, D⟩ => ?_, fun acc H' ha ⟨ss, ds, hs, hk, f, D⟩ => ?_⟩
  · walk_at "go"
    refine ⟨rfl, ?_⟩
    walk_at "go"
    refine c_Lstay ⟨d, l, S, rfl, D, so, Da.frL f dS5 (imm_setup S), fun v s H4 so dv f4 D4 => ?_⟩
    have hnd : Dl ≠ d := (D5.new1 nD).symm
    have hnl : Dl ≠ l := (D5.new2 nD).symm
    have hac : acc.length ≤ 100 := by rw [ds.len, List.length_map]; omega
    refine lcY_of (f4.at ha (nin1 hnd nin0)) (by walk_at "sz") fun H5 f5 e5 => ⟨ss ++ [s], ?_, by rw [List.length_append, hs]; rfl, fun z hz => ?_, (f.transL f4).own1 f5 nD, D4.fr f5 (nin1 hnd.symm nin0) (nin1 hnl.symm nin0)⟩
    · rw [List.map_append]
      exact (DaL.frL f5 (DaL.frL f4 ds (imm_stays ss)) (imm_stays ss)).append (.one' (Da.frL f5 dv rfl))
    · rcases List.mem_append.mp hz with h | h
      · exact hk z h
      · rw [List.mem_singleton.mp h]; exact so
  · have F6 : Fr [d] H4 H' := f5.transL f
    have hls : ss.length ≤ 3 := by omega
    clear f6 e6 nD f5 f D5 dS5 eL5 ok5
    walk_at "go"
    refine g_srt (SqL.of ha) ds (stays_alike ss) (stays_sortable ss) (stays_depth ss) fun sa H7 ys n7 f7 e7 dy => ?_
    rw [← ssrt_map] at dy
    have dy7 := DaL.frL f7 dy (imm_stays _)
    have hsl : (ssrt ss).length = ss.length := (ssrt_perm ss).length_eq
    have hy : ys.length = ss.length := by rw [dy.len, List.length_map, hsl]
    have nsd : sa ≠ d := (D.new1 n7).symm
    have D7 := D.fr f7 nin0 nin0
    walk_at "go"
    rw [hy]
    rename_i z H8 z0 z1 f8 D8
    have b0 := Int.emod_nonneg z (show (ss.length : Int) + 1 ≠ 0 by omega)
    have b1 := Int.emod_lt_of_pos z (show 0 < (ss.length : Int) + 1 by omega)
    have F8 : Fr [d] H4 H8 := (F6.then0 f7).transL f8
    have o8 := o4.fd F8 D8
    have esa8 := f8.at e7 (nin1 nsd nin0)
    have dy8 := DaL.frL f8 dy7 (imm_stays _)
    clear f7 f8 F6 e7 dy7 dy n7 D D7 ha ds
    walk_at "go"
    refine bp5 T o8 so (F8.tup _ _ es4) (F8.tup _ _ er4) fun one e H9 ke he f9 o9 => ?_
    have F9 := F8.transL f9
    walk_at "go"
    refine bp6 (ss := ssrt ss) T o9 so (f9.at esa8 (nin1 nsd nin0)) (DaL.frL f9 dy8 (imm_stays _)) (by omega) ⟨b0, by omega⟩ ke he (F9.at eL3 (nin1 nL3 nin0)) hx3' (by omega) (fun v hv => (ok3 v hv).fr o4.hd F9) fun L4 xs4 H10 nL4 f10 eL4 h1 h2 ok4 => ?_
    walk_at "go"
    refine bp7 (ss := ssrt ss) T (o9.f0 f10) so ((f9.then0 f10).at esa8 (nin1 nsd nin0)) (DaL.frL (f9.then0 f10) dy8 (imm_stays _)) (by omega) (ssrt_ssrt ss) eL4 nL4 h2 h1 ok4 fun L5 xs5 H11 nL5 f11 eL5 h3 h4 ok5 => ?_
    have D11 := ((o9.f0 f10).f0 f11).dr
    have hdO := o4.hd
    have F11 := (F9.then0 f10).then0 f11
    clear f9 f10 f11 F9 F8 D8 o8 o9 o4 esa8 dy8 es4 er4 eL3 ok3 ok4 eL4
    walk_at "go"
    rename_i u H12 u0 u1 f12 D12
    have eL12 := f12.at eL5 (nin1 nL5 nin0)
    obtain ⟨v, hv, hv2⟩ := atI_mem (xs := xs5) (z := u % (xs5.length : Int)) (Int.emod_nonneg u (by omega)) (Int.emod_lt_of_pos u (by omega))
    obtain ⟨e, ke, he⟩ := (ok5 v hv2).fr hdO f12
    refine g_ixL (SqL.of eL12) hv ?_
    exact k v e H12 ke he ((F4.of0.transL F11).transL f12) D12
theorem ok_Lbad_party {f : Addr} {fd : FuncData} (F : Fun K "_law_bad_party" "_law_bad_party" s_Lbad_party f fd) (T : Txt K mg A) (c_Ldraw : Cal P w K mg base "_law_draw" 2 ["_law_draws"] (sp_Ldraw K A)) (c_Lstay : Cal P w K mg base "_law_stay" 3 ["_law_draws", "_law_setup_here"] (sp_Lstay K A)) : FnOk P w K mg base CX0 (4) f fd ["_law_draws", "_law_setup_here"] (sp_Lbad_party K A) := by
  refine F.ok sc_Lbad_party (fun vs H Q E h => ?_) (fun cdv Ar outer s H vs Q E hr h => ⟨t_Lbad_party K A, ?_, ?_⟩)
  · obtain ⟨x0, x1, rfl, _⟩ := h
    rfl
  · have hu := hu_of hr
    exact (pss_cons (ps_set (i := 2) sc_Lbad_party.nd rfl (Or.inl rfl) (pe_tup (pa_cons pe_int (pa_cons pe_int (pa_cons pe_int pa_nil)))))
    (pss_cons (ps_set (i := 3) sc_Lbad_party.nd rfl (Or.inl rfl) (pe_lst (pa_cons (pe_tup pa_nil) (pa_cons (pe_op Lw.op_mulA (pe_tup (pa_cons (pv 2) pa_nil)) pe_int) (pa_cons (pe_tup (pa_cons (pe_tup (pa_cons pe_int (pa_cons pe_int (pa_cons pe_int pa_nil)))) pa_nil)) (pa_cons (pe_tup (pa_cons (pe_tup (pa_cons pe_int (pa_cons pe_int (pa_cons (pe_op o_add (pe_ix ix_tup (pv 1) pe_int (fun _ _ => rfl)) pe_int) pa_nil)))) pa_nil)) (pa_cons (pe_tup (pa_cons (pe_tup (pa_cons (pe_callB b_len (by rfl) T.b_len (by decide +kernel) (pa_cons (pe_ix ix_tup (pv 1) pe_int (fun _ _ => rfl)) pa_nil)) (pa_cons pe_int (pa_cons pe_int pa_nil)))) pa_nil)) (pa_cons (pe_tup (pa_cons (pe_tup (pa_cons pe_int (pa_cons (pe_un un_neg pe_int) (pa_cons pe_int pa_nil)))) pa_nil)) (pa_cons (pe_tup (pa_cons (pe_tup (pa_cons pe_int (pa_cons pe_int pa_nil))) pa_nil)) (pa_cons (pe_lst (pa_cons (pv 2) pa_nil)) pa_nil))))))))))
    (pss_cons (ps_set (i := 3) sc_Lbad_party.nd rfl (Or.inl rfl) (pe_op op_cat (pv 3) (pe_lst (pa_cons (pe_tup (pa_cons (pv 2) (pa_cons (pe_tup (pa_cons pe_int (pa_cons pe_int (pa_cons pe_int pa_nil)))) pa_nil))) (pa_cons (pe_tup (pa_cons (pe_tup (pa_cons pe_int (pa_cons pe_int (pa_cons pe_int (pa_cons pe_int pa_nil))))) pa_nil)) (pa_cons (pe_tup (pa_cons (pe_tup (pa_cons pe_bl (pa_cons pe_int (pa_cons pe_int pa_nil)))) pa_nil)) (pa_cons (pv 2) (pa_cons (pe_tup (pa_cons (pe_tup (pa_cons pe_int (pa_cons pe_int (pa_cons pe_bl pa_nil)))) pa_nil)) (pa_cons (pe_tup (pa_cons (pe_callTy b_list (by rfl) T.b_list (by decide +kernel) (pa_cons (pv 2) pa_nil)) pa_nil)) (pa_cons (pe_tup (pa_cons (pv 2) (pa_cons (pe_tup pa_nil) pa_nil))) pa_nil))))))))))
    (pss_cons (ps_if (pt_cmpR c_gt (pe_ix ix_tup (pv 1) pe_int (fun _ _ => rfl)) pe_int (nomark _)) (pss_one (ps_set (i := 3) sc_Lbad_party.nd rfl (Or.inl rfl) (pe_op op_cat (pv 3) (pe_lst (pa_cons (pe_tup (pa_cons (pe_tup (pa_cons pe_int (pa_cons pe_int (pa_cons pe_int pa_nil)))) (pa_cons (pv 2) pa_nil))) (pa_cons (pe_tup (pa_cons (pe_tup (pa_cons pe_int (pa_cons pe_int (pa_cons pe_int pa_nil)))) (pa_cons (pv 2) pa_nil))) pa_nil)))))) pss_nil)
    (pss_cons (ps_set (i := 4) sc_Lbad_party.nd rfl (Or.inl rfl) (pe_callB (b_sortD hr.units) (by rfl) T.b_sorted (by decide +kernel) (pa_cons (pe_lc (own := [("_law_k", 7)]) (g := (gName 7)) (tt := tYes) rfl sc_Lbad_party.nd (pi_range1 rfl T.b_range (pa_cons (pe_op o_mod (pe_cl c_Ldraw (hr.mono (by first | decide | omega)) (by rfl) (pa_cons (pv 0) pa_nil)) pe_int) pa_nil)) (blkOk_by (N := ["_law_draws", "_law_setup_here", "_law_good", "_law_rows", "_law_stays", "_law_at", "_law_one", "_law_k"]) (sc := defScope s_Lbad_party) (own := [("_law_k", 7)]) (by decide +kernel)) (fun _ _ _ _ _ => (pg_name (i := 7) sc_Lbad_party.nd rfl (Or.inl rfl))) (fun _ _ _ _ _ => pts_nil) (fun _ _ _ _ _ => (pe_cl c_Lstay (hr.mono (by first | decide | omega)) (by rfl) (pa_cons (pv 0) (pa_cons (pv 1) pa_nil))))) pa_nil)))
    (pss_cons (ps_set (i := 5) sc_Lbad_party.nd rfl (Or.inl rfl) (pe_op o_mod (pe_cl c_Ldraw (hr.mono (by first | decide | omega)) (by rfl) (pa_cons (pv 0) pa_nil)) (pe_op o_add (pe_callB b_len (by rfl) T.b_len (by decide +kernel) (pa_cons (pv 4) pa_nil)) pe_int)))
    (pss_cons (ps_set (i := 6) sc_Lbad_party.nd rfl (Or.inl rfl) (pe_ix ix_list (pe_lst (pa_cons (pe_tup (pa_cons pe_int (pa_cons pe_int (pa_cons pe_int pa_nil)))) (pa_cons (pe_tup (pa_cons pe_int (pa_cons pe_int (pa_cons (pe_op o_add (pe_ix ix_tup (pv 1) pe_int (fun _ _ => rfl)) pe_int) pa_nil)))) (pa_cons (pe_tup (pa_cons (pe_callB b_len (by rfl) T.b_len (by decide +kernel) (pa_cons (pe_ix ix_tup (pv 1) pe_int (fun _ _ => rfl)) pa_nil)) (pa_cons pe_int (pa_cons pe_int pa_nil)))) (pa_cons (pe_tup (pa_cons pe_int (pa_cons (pe_un un_neg pe_int) (pa_cons pe_int pa_nil)))) (pa_cons (pe_tup (pa_cons pe_int (pa_cons pe_int pa_nil))) (pa_cons (pe_tup (pa_cons pe_bl (pa_cons pe_int (pa_cons pe_int pa_nil)))) (pa_cons pe_non pa_nil)))))))) (pe_op o_mod (pe_cl c_Ldraw (hr.mono (by first | decide | omega)) (by rfl) (pa_cons (pv 0) pa_nil)) pe_int) (fun _ _ => rfl)))
    (pss_cons (ps_set (i := 3) sc_Lbad_party.nd rfl (Or.inl rfl) (pe_op op_cat (pv 3) (pe_op op_rep (pe_lst (pa_cons (pe_callTy b_tuple (by rfl) T.b_tuple (by decide +kernel) (pa_cons (pe_op op_cat (pe_op op_cat (pe_slice sl_list (pv 4) po_none (po_some (pv 5))) (pe_lst (pa_cons (pv 6) pa_nil))) (pe_slice sl_list (pv 4) (po_some (pv 5)) po_none)) pa_nil)) pa_nil)) pe_int)))
    (pss_cons (ps_if (pt_cmpR (op_neD hr.units) (pv 4) (pe_revL (pv 4)) (nomark _)) (pss_one (ps_set (i := 3) sc_Lbad_party.nd rfl (Or.inl rfl) (pe_op op_cat (pv 3) (pe_op op_rep (pe_lst (pa_cons (pe_callTy b_tuple (by rfl) T.b_tuple (by decide +kernel) (pa_cons (pe_revL (pv 4)) pa_nil)) pa_nil)) pe_int)))) pss_nil)
    (pss_one (ps_ret (pe_ix ix_list (pv 3) (pe_op o_mod (pe_cl c_Ldraw (hr.mono (by first | decide | omega)) (by rfl) (pa_cons (pv 0) pa_nil)) (pe_callB b_len (by rfl) T.b_len (by decide +kernel) (pa_cons (pv 3) pa_nil))) (fun _ _ => rfl)))))))))))))
  · obtain ⟨x0, x1, rfl, h⟩ := h
    exact pu_Lbad_party T h

theorem dd_eq {k n : Int} {h : PyData} {r : List PyData} : isDd k n (.tuple (h :: r)) = (if PyData.eqv h (.str "wish") = true then dWish k n r else if PyData.eqv h (.str "cancel") = true then dCan r else if PyData.eqv h (.str "change") = true then dChg k n r else false) := rfl
theorem dd_wish {k n : Int} {r : List PyData} : isDd k n (.tuple (.str "wish" :: r)) = dWish k n r := by
  have h : PyData.eqv (.str "wish") (.str "wish") = true := by decide +kernel
  rw [dd_eq, if_pos h]
theorem dd_can {k n : Int} {r : List PyData} : isDd k n (.tuple (.str "cancel" :: r)) = dCan r := by
  have h1 : ¬ PyData.eqv (.str "cancel") (.str "wish") = true := by decide +kernel
  have h : PyData.eqv (.str "cancel") (.str "cancel") = true := by decide +kernel
  rw [dd_eq, if_neg h1, if_pos h]
theorem dd_chg {k n : Int} {r : List PyData} : isDd k n (.tuple (.str "change" :: r)) = dChg k n r := by
  have h1 : ¬ PyData.eqv (.str "change") (.str "wish") = true := by decide +kernel
  have h2 : ¬ PyData.eqv (.str "change") (.str "cancel") = true := by decide +kernel
  have h : PyData.eqv (.str "change") (.str "change") = true := by decide +kernel
  rw [dd_eq, if_neg h1, if_neg h2, if_pos h]
theorem dd_oth {k n : Int} {h : PyData} {r : List PyData} (h1 : PyData.eqv h (.str "wish") = false) (h2 : PyData.eqv h (.str "cancel") = false) (h3 : PyData.eqv h (.str "change") = false) : isDd k n (.tuple (h :: r)) = false := by
  rw [dd_eq, h1, h2, h3]; rfl
theorem hd_str {x : Str} {r : List PyData} (h : SeqAt.shaped (.str x) = true) : HdOk (.tuple (.str x :: r)) := h
theorem hdW {r : List PyData} : HdOk (.tuple (.str "wish" :: r)) := hd_str (by decide +kernel)
theorem hdC {r : List PyData} : HdOk (.tuple (.str "cancel" :: r)) := hd_str (by decide +kernel)
theorem hdG {r : List PyData} : HdOk (.tuple (.str "change" :: r)) := hd_str (by decide +kernel)

/-! ### deeds that are none -/
def P_Lbad_deed (K : PySem.W.Frag) (A : Ad) (x0 x1 x2 : V) (H : Hp) (Q : VK) : Prop := ∃ (d l : Addr) (S : Setup) (n : Nat) (L : List Addr), x0 = .ref d ∧ Old H d l L ∧ SetupOk S ∧ Da H x1 (setupD S) ∧ x2 = .int n ∧
  ∀ (v : V) (e : PyData) (H' : Hp), KD L H' v e → HdOk e → ¬ (isDd S.rooms.length S.nights e = true ∧ nameOk n e = true) → Fr [d] H H' → Draws H' d l → Q v H'
def sp_Lbad_deed (K : PySem.W.Frag) (A : Ad) : Sp := fun vs H Q _ => ∃ x0 x1 x2, vs = [x0, x1, x2] ∧ P_Lbad_deed K A x0 x1 x2 H Q
theorem c_Lbad_deed {K : PySem.W.Frag} {A : Ad} {x0 x1 x2 : V} {H : Hp} {Q : VK} {E : XK} (h : P_Lbad_deed K A x0 x1 x2 H Q) : sp_Lbad_deed K A [x0, x1, x2] H Q E := ⟨_, _, _, rfl, h⟩
theorem sc_Lbad_deed : FnScope ["_law_draws", "_law_setup_here", "_law_number", "_law_party_here", "_law_rows"] ["_law_draws", "_law_setup_here", "_law_number"] (defScope s_Lbad_deed) := ⟨rfl, rfl, rfl, by decide +kernel, rfl, by decide +kernel, by decide +kernel⟩
def t_bd4 (K : PySem.W.Frag) (A : Ad) : TS :=
  (tAsg (tOp rCat (tVar 4) (tLst (tCons (tLst (tCons (tC (.str "wish")) (tCons (tVar 3) tNil))) (tCons (tC (.int 5)) (tCons (tC .non) (tCons (tC (.str "wish")) (tCons (tTup (tCons (tC (.str "cancel")) (tCons (tC (.str "0")) tNil))) (tCons (tTup (tCons (tC (.str "change")) (tCons (tC (.int 0)) (tCons (tVar 3) (tCons (tC (.int 1)) tNil))))) tNil)))))))) (gName 4))
def t_bd3 (K : PySem.W.Frag) (A : Ad) : TS :=
  (tAsg (tOp rCat (tVar 4) (tLst (tCons (tTup (tCons (tC (.str "change")) (tCons (tVar 2) (tCons (tVar 3) tNil)))) (tCons (tTup (tCons (tC (.str "change")) (tCons (tUn rNeg (tC (.int 1))) (tCons (tVar 3) tNil)))) (tCons (tTup (tCons (tC (.str "change")) (tCons (tC (.int 0)) tNil))) (tCons (tTup (tCons (tC (.str "change")) (tCons (tC (.int 0)) (tCons (tCl (sp_Lbad_party K A) (tCons (tVar 0) (tCons (tVar 1) tNil))) tNil)))) tNil)))))) (gName 4))
def t_bd2 (K : PySem.W.Frag) (A : Ad) : TS :=
  (tAsg (tOp rCat (tVar 4) (tLst (tCons (tTup (tCons (tC (.str "cancel")) (tCons (tVar 2) tNil))) (tCons (tTup (tCons (tC (.str "cancel")) (tCons (tOp oAdd (tVar 2) (tC (.int 1))) tNil))) (tCons (tTup (tCons (tC (.str "cancel")) (tCons (tUn rNeg (tC (.int 1))) tNil))) (tCons (tTup (tCons (tC (.str "cancel")) (tCons (tC (.int 0)) (tCons (tC (.int 0)) tNil)))) (tCons (tTup (tCons (tC (.str "Wish")) (tCons (tVar 3) tNil))) (tCons (tTup (tCons (tC (.str "cancel")) (tCons (tC (.bl false)) tNil))) (tCons (tTup tNil) tNil))))))))) (gName 4))
def t_bd1 (K : PySem.W.Frag) (A : Ad) : TS :=
  (tAsg (tLst (tCons (tTup (tCons (tC (.str "wish")) (tCons (tCl (sp_Lbad_party K A) (tCons (tVar 0) (tCons (tVar 1) tNil))) tNil))) (tCons (tTup (tCons (tC (.str "wish")) (tCons (tCl (sp_Lbad_party K A) (tCons (tVar 0) (tCons (tVar 1) tNil))) tNil))) (tCons (tTup (tCons (tC (.str "wish")) tNil)) (tCons (tTup (tCons (tC (.str "wish")) (tCons (tVar 3) (tCons (tC (.int 1)) tNil)))) tNil))))) (gName 4))
def t_Lbad_deed (K : PySem.W.Frag) (A : Ad) : TS :=
  (tSeq (tAsg (tTup (tCons (tTup (tCons (tC (.int 0)) (tCons (tC (.int 0)) (tCons (tC (.int 1)) tNil)))) tNil)) (gName 3))
    (tSeq (t_bd1 K A)
    (tSeq (t_bd2 K A)
    (tSeq (t_bd3 K A)
    (tSeq (t_bd4 K A)
    (tRet (tOp (rIxL K) (tVar 4) (tOp oMod (tCl (sp_Ldraw K A) (tCons (tVar 0) tNil)) (tC (.int 21))))))))))
abbrev bdS (d s p : Addr) (n : Nat) (v4 : Option V) : L2.St := [some (.ref d), some (.ref s), some (.int n), some (.ref p), v4]
def NoD (O : List Addr) (S : Setup) (n : Nat) (H : Hp) (v : V) : Prop := ∃ e, KD O H v e ∧ HdOk e ∧ ¬ (isDd S.rooms.length S.nights e = true ∧ nameOk n e = true)
theorem NoD.fr {O : List Addr} {d : Addr} {S : Setup} {n : Nat} {H H' : Hp} {v : V} (h : NoD O S n H v) (hd : d ∈ O) (f : Fr [d] H H') : NoD O S n H' v := by
  obtain ⟨e, k, r⟩ := h
  exact ⟨e, k.frd hd f, r⟩
theorem NoD.f0 {O : List Addr} {S : Setup} {n : Nat} {H H' : Hp} {v : V} (h : NoD O S n H v) (f : Fr [] H H') : NoD O S n H' v := by
  obtain ⟨e, k, r⟩ := h
  exact ⟨e, k.fr0 f, r⟩
theorem no1 {a b : Prop} (h : ¬ a) : ¬ (a ∧ b) := fun z => h z.1
theorem no2 {a b : Prop} (h : ¬ b) : ¬ (a ∧ b) := fun z => h z.2
theorem noF {b : Bool} (h : b = false) : ¬ b = true := by rw [h]; decide
theorem good_party {S : Setup} (so : SetupOk S) : PartyOk S [(0, 0, 1)] := rep_ok (s := (0, 0, 1)) (n := 1) ⟨Int.le_refl _, by have := so.k1; show (0 : Int) < S.rooms.length; omega, Int.le_refl _, by show (0 : Int) < 1; decide, so.n1⟩ (by decide) (by decide)
theorem bd1 (T : Txt K mg A) {D : Ends} {H : Hp} {O : List Addr} {d l s p g : Addr} {S : Setup} {n : Nat} {v4 : Option V} (o0 : Old H d l O) (so : SetupOk S) (dS : Da H (.ref s) (setupD S)) (ep : H p = some (.tup [.ref g])) (eg : H g = some (.tup [.int 0, .int 0, .int 1]))
    (nx : ∀ L xs H', L ≠ d → Fr [d] H H' → Old H' d l O → H' L = some (.lst xs) → xs.length = 4 → (∀ v ∈ xs, NoD O S n H' v) → D.nx (bdS d s p n (some (.ref L))) H')
    (c_Lbad_party : ∀ {x0 x1 : V} {H : Hp} {Q : VK} {E : XK}, P_Lbad_party K A x0 x1 H Q → sp_Lbad_party K A [x0, x1] H Q E) : t_bd1 K A D (bdS d s p n v4) H := by
  unfold t_bd1
  walk_at "go"
  refine c_Lbad_party ⟨d, l, S, O, rfl, o0, so, dS, fun v1 e1 H1 k1 b1 f1 D1 => ?_⟩
  walk_at "go"
  rename_i t1 H2 n2 f2 et1
  have o2 := (o0.fd f1 D1).f0 f2
  have F2 : Fr [d] H H2 := f1.then0 f2
  refine c_Lbad_party ⟨d, l, S, O, rfl, o2, so, Da.frL F2 dS (imm_setup S), fun v2 e2 H3 k2 b2 f3 D3 => ?_⟩
  have F3 := F2.transL f3
  have k1 := (k1.fr0 f2).frd o0.hd f3
  have o3 := o2.fd f3 D3
  have et1 := f3.tup _ _ et1
  clear f1 f2 f3 F2 o2 D1
  walk_at "go"
  rename_i t2 H4 n4 f4 et2 t3 H5 n5 f5 et3 t4 H6 n6 f6 et4 L H7 n7 f7 eL
  have F47 : Fr [] H3 H7 := ((f4.then0 f5).then0 f6).then0 f7
  have F7 := F3.then0 F47
  refine nx L _ H7 (((o3.f0 ((f4.then0 f5).then0 f6)).dr.new1 n7).symm) F7 (o3.f0 F47) eL rfl fun v hv => ?_
  have k1 := k1.fr0 F47
  have k2 := k2.fr0 F47
  have kp : KD O H7 (.ref p) (.tuple [stayD (0, 0, 1)]) := kd1 (F7.tup _ _ ep) (kd3 (F7.tup _ _ eg) (.int 0) (.int 0) (.int 1))
  simp only [List.mem_cons, List.not_mem_nil, or_false] at hv
  rcases hv with rfl | rfl | rfl | rfl
  · exact ⟨_, kd2 (F47.tup _ _ et1) (.str _) k1, hdW, no1 (noF (by rw [dd_wish]; exact b1))⟩
  · exact ⟨_, kd2 (((f5.then0 f6).then0 f7).tup _ _ et2) (.str _) k2, hdW, no1 (noF (by rw [dd_wish]; exact b2))⟩
  · exact ⟨_, kd1 ((f6.then0 f7).tup _ _ et3) (.str _), hdW, no1 (noF (by rw [dd_wish]; rfl))⟩
  · exact ⟨_, kd3 (f7.tup _ _ et4) (.str _) kp (.int 1), hdW, no1 (noF (by rw [dd_wish]; rfl))⟩
theorem bd2 (T : Txt K mg A) {D : Ends} {H : Hp} {O : List Addr} {d l s p g L : Addr} {S : Setup} {n : Nat} {xs : List V} (o0 : Old H d l O) (ep : H p = some (.tup [.ref g])) (eg : H g = some (.tup [.int 0, .int 0, .int 1]))
    (eL : H L = some (.lst xs)) (hx : xs.length = 4) (ok : ∀ v ∈ xs, NoD O S n H v)
    (nx : ∀ L xs H', L ≠ d → Fr [d] H H' → Old H' d l O → H' L = some (.lst xs) → xs.length = 11 → (∀ v ∈ xs, NoD O S n H' v) → D.nx (bdS d s p n (some (.ref L))) H') : t_bd2 K A D (bdS d s p n (some (.ref L))) H := by
  unfold t_bd2
  walk_at "go"
  rename_i t1 H1 n1 f1 e1 t2 H2 n2 f2 e2 t3 H3 n3 f3 e3 t4 H4 n4 f4 e4 t5 H5 n5 f5 e5 t6 H6 n6 f6 e6 t7 H7 n7 f7 e7 t8 H8 n8 f8 e8
  have F8 : Fr [] H H8 := (((((((f1.then0 f2).then0 f3).then0 f4).then0 f5).then0 f6).then0 f7).then0 f8)
  refine g_cat (F8.at0 eL) e8 (szL (by rw [hx]; exact Nat.le_of_ble_eq_true rfl)) fun L' H9 n9 f9 e9 => ?_
  have k8 := f9
  have k7 := f8.then0 k8
  have k6 := f7.then0 k7
  have k5 := f6.then0 k6
  have k4 := f5.then0 k5
  have k3 := f4.then0 k4
  have k2 := f3.then0 k3
  have k1 := f2.then0 k2
  have F9 : Fr [] H H9 := f1.then0 k1
  have kp : KD O H9 (.ref p) (.tuple [stayD (0, 0, 1)]) := kd1 (F9.tup _ _ ep) (kd3 (F9.tup _ _ eg) (.int 0) (.int 0) (.int 1))
  refine nx L' _ H9 (((o0.f0 F8).dr.new1 n9).symm) F9.of0 (o0.f0 F9) e9 (by rw [List.length_append, hx]; rfl) fun v hv => ?_
  rcases List.mem_append.mp hv with hv | hv
  · exact (ok v hv).f0 F9
  simp only [List.mem_cons, List.not_mem_nil, or_false] at hv
  rcases hv with rfl | rfl | rfl | rfl | rfl | rfl | rfl
  · exact ⟨_, kd2 (k1.tup _ _ e1) (.str _) (.int n), hdC, no2 (by show ¬ decide ((n : Int) < n) = true; rw [decide_eq_true_eq]; omega)⟩
  · exact ⟨_, kd2 (k2.tup _ _ e2) (.str _) (.int _), hdC, no2 (by show ¬ decide ((n : Int) + 1 < n) = true; rw [decide_eq_true_eq]; omega)⟩
  · exact ⟨_, kd2 (k3.tup _ _ e3) (.str _) (.int (-1)), hdC, no1 (noF (by rw [dd_can]; rfl))⟩
  · exact ⟨_, kd3 (k4.tup _ _ e4) (.str _) (.int 0) (.int 0), hdC, no1 (noF (by rw [dd_can]; rfl))⟩
  · exact ⟨_, kd2 (k5.tup _ _ e5) (.str _) kp, hd_str (by decide +kernel), no1 (noF (dd_oth (by decide +kernel) (by decide +kernel) (by decide +kernel)))⟩
  · exact ⟨_, kd2 (k6.tup _ _ e6) (.str _) (.bl false), hdC, no1 (noF (by rw [dd_can]; rfl))⟩
  · exact ⟨_, .tup (k7.tup _ _ e7) (Nat.zero_le _) .nil, trivial, no1 (noF rfl)⟩
theorem bd3 (T : Txt K mg A) {D : Ends} {H : Hp} {O : List Addr} {d l s p g L : Addr} {S : Setup} {n : Nat} {xs : List V} (o0 : Old H d l O) (so : SetupOk S) (dS : Da H (.ref s) (setupD S)) (ep : H p = some (.tup [.ref g])) (eg : H g = some (.tup [.int 0, .int 0, .int 1]))
    (eL : H L = some (.lst xs)) (nL : L ≠ d) (hx : xs.length = 11) (ok : ∀ v ∈ xs, NoD O S n H v)
    (nx : ∀ L xs H', L ≠ d → Fr [d] H H' → Old H' d l O → H' L = some (.lst xs) → xs.length = 15 → (∀ v ∈ xs, NoD O S n H' v) → D.nx (bdS d s p n (some (.ref L))) H') 
    (c_Lbad_party : ∀ {x0 x1 : V} {H : Hp} {Q : VK} {E : XK}, P_Lbad_party K A x0 x1 H Q → sp_Lbad_party K A [x0, x1] H Q E) : t_bd3 K A D (bdS d s p n (some (.ref L))) H := by
  unfold t_bd3
  walk_at "go"
  rename_i t1 H1 n1 f1 e1 t2 H2 n2 f2 e2 t3 H3 n3 f3 e3
  have F3 : Fr [] H H3 := (f1.then0 f2).then0 f3
  have o3 := o0.f0 F3
  refine c_Lbad_party ⟨d, l, S, O, rfl, o3, so, Da.fr0 F3 _ _ dS, fun v4 b4 H4 k4 hb4 f4 D4 => ?_⟩
  walk_at "go"
  rename_i t5 H5 n5 f5 e5 t6 H6 n6 f6 e6
  have o4 := o3.fd f4 D4
  have F46 : Fr [] H4 H6 := f5.then0 f6
  have F6 : Fr [d] H H6 := (f4.pre0' F3).then0 F46
  refine g_cat (F6.at eL (nin1 nL nin0)) e6 (szL (by rw [hx]; exact Nat.le_of_ble_eq_true rfl)) fun L' H9 n9 f9 e9 => ?_
  have F9 := F6.then0 f9
  have F49 := F46.then0 f9
  have kp : KD O H9 (.ref p) (.tuple [stayD (0, 0, 1)]) := kd1 (F9.tup _ _ ep) (kd3 (F9.tup _ _ eg) (.int 0) (.int 0) (.int 1))
  refine nx L' _ H9 (((o4.f0 F46).dr.new1 n9).symm) F9 (o4.f0 F49) e9 (by rw [List.length_append, hx]; rfl) fun v hv => ?_
  rcases List.mem_append.mp hv with hv | hv
  · exact (ok v hv).fr o0.hd F9
  have g1 := F49.tup _ _ (f4.tup _ _ (f3.tup _ _ (f2.tup _ _ e1)))
  have g2 := F49.tup _ _ (f4.tup _ _ (f3.tup _ _ e2))
  have g3 := F49.tup _ _ (f4.tup _ _ e3)
  simp only [List.mem_cons, List.not_mem_nil, or_false] at hv
  rcases hv with rfl | rfl | rfl | rfl
  · exact ⟨_, kd3 g1 (.str _) (.int n) kp, hdG, no2 (by show ¬ decide ((n : Int) < n) = true; rw [decide_eq_true_eq]; omega)⟩
  · exact ⟨_, kd3 g2 (.str _) (.int (-1)) kp, hdG, no1 (noF (by rw [dd_chg]; rfl))⟩
  · exact ⟨_, kd2 g3 (.str _) (.int 0), hdG, no1 (noF (by rw [dd_chg]; rfl))⟩
  · exact ⟨_, kd3 ((f6.then0 f9).tup _ _ e5) (.str _) (.int 0) (k4.fr0 F49), hdG, no1 (noF (by rw [dd_chg]; show (isI (.int 0) && decide (0 ≤ intOf (.int 0)) && isPty S.rooms.length S.nights b4) = false; rw [hb4, Bool.and_false]))⟩
theorem bd4 (T : Txt K mg A) {D : Ends} {H : Hp} {O : List Addr} {d l s p g L : Addr} {S : Setup} {n : Nat} {xs : List V} (o0 : Old H d l O) (ep : H p = some (.tup [.ref g])) (eg : H g = some (.tup [.int 0, .int 0, .int 1]))
    (eL : H L = some (.lst xs)) (hx : xs.length = 15) (ok : ∀ v ∈ xs, NoD O S n H v)
    (nx : ∀ L xs H', L ≠ d → Fr [d] H H' → Old H' d l O → H' L = some (.lst xs) → xs.length = 21 → (∀ v ∈ xs, NoD O S n H' v) → D.nx (bdS d s p n (some (.ref L))) H') : t_bd4 K A D (bdS d s p n (some (.ref L))) H := by
  unfold t_bd4
  walk_at "go"
  rename_i t1 H1 n1 f1 e1 t2 H2 n2 f2 e2 t3 H3 n3 f3 e3 t4 H4 n4 f4 e4
  have F4 : Fr [] H H4 := ((f1.then0 f2).then0 f3).then0 f4
  refine g_cat (F4.at0 eL) e4 (szL (by rw [hx]; exact Nat.le_of_ble_eq_true rfl)) fun L' H9 n9 f9 e9 => ?_
  have F9 := F4.then0 f9
  have kp : KD O H9 (.ref p) (.tuple [stayD (0, 0, 1)]) := kd1 (F9.tup _ _ ep) (kd3 (F9.tup _ _ eg) (.int 0) (.int 0) (.int 1))
  have n1d : t1 ∉ O := o0.nin n1
  refine nx L' _ H9 (((o0.f0 F4).dr.new1 n9).symm) F9.of0 (o0.f0 F9) e9 (by rw [List.length_append, hx]; rfl) fun v hv => ?_
  rcases List.mem_append.mp hv with hv | hv
  · exact (ok v hv).f0 F9
  simp only [List.mem_cons, List.not_mem_nil, or_false] at hv
  rcases hv with rfl | rfl | rfl | rfl | rfl | rfl
  · exact ⟨_, .lst ((((f2.then0 f3).then0 f4).then0 f9).at0 e1) n1d (Nat.le_of_ble_eq_true rfl) (.cons (.str _) (.cons kp .nil)), trivial, no1 (noF rfl)⟩
  · exact ⟨_, .int 5, trivial, no1 (noF rfl)⟩
  · exact ⟨_, .non, trivial, no1 (noF rfl)⟩
  · exact ⟨_, .str _, trivial, no1 (noF rfl)⟩
  · exact ⟨_, kd2 (((f3.then0 f4).then0 f9).tup _ _ e2) (.str _) (.str _), hdC, no1 (noF (by rw [dd_can]; rfl))⟩
  · exact ⟨_, .tup ((f4.then0 f9).tup _ _ e3) (Nat.le_of_ble_eq_true rfl) (.cons (.str _) (.cons (.int 0) (.cons kp (.cons (.int 1) .nil)))), hdG, no1 (noF (by rw [dd_chg]; rfl))⟩
theorem pu_Lbad_deed (T : Txt K mg A) {x0 x1 x2 : V} {H : Hp} {Q : VK} (h : P_Lbad_deed K A x0 x1 x2 H Q) : t_Lbad_deed K A { nx := fun _ H' => Q .non H', rt := Q } [some x0, some x1, some x2, none, none] H := by
  obtain ⟨d, l, S, n, O, rfl, o0, so, dS, rfl, k⟩ := h
  obtain ⟨s, r, pp, ps, sa⟩ := SetAt.of dS
  cases sa.e
  clear sa
  unfold t_Lbad_deed
  walk_at "go"
  rename_i g H1 n1 f1 e1 p H2 n2 f2 e2
  have F2 := f1.then0 f2
  have o2 := o0.f0 F2
  have eg2 := f2.tup _ _ e1
  have dS2 := Da.fr0 F2 _ _ dS
  refine bd1 (S := S) (n := n) T o2 so dS2 e2 eg2 (fun L1 xs1 H3 nL1 f3 o3 eL1 hx1 ok1 => ?_) fun h => c_Lbad_party h
  have ep3 := f3.tup _ _ e2
  have eg3 := f3.tup _ _ eg2
  have dS3 := Da.frL f3 dS2 (imm_setup S)
  walk_at "go"
  refine bd2 (S := S) (n := n) T o3 ep3 eg3 eL1 hx1 ok1 fun L2 xs2 H4 nL2 f4 o4 eL2 hx2 ok2 => ?_
  have ep4 := f4.tup _ _ ep3
  have eg4 := f4.tup _ _ eg3
  have dS4 := Da.frL f4 dS3 (imm_setup S)
  walk_at "go"
  refine bd3 (S := S) (n := n) T o4 so dS4 ep4 eg4 eL2 nL2 hx2 ok2 (fun L3 xs3 H5 nL3 f5 o5 eL3 hx3 ok3 => ?_) fun h => c_Lbad_party h
  walk_at "go"
  refine bd4 (S := S) (n := n) T o5 (f5.tup _ _ ep4) (f5.tup _ _ eg4) eL3 hx3 ok3 fun L4 xs4 H6 nL4 f6 o6 eL4 hx4 ok4 => ?_
  have F6 : Fr [d] H H6 := (((F2.of0.transL f3).transL f4).transL f5).transL f6
  clear f1 f2 f3 f4 f5 f6 F2 o2 o3 o4 o5 ok1 ok2 ok3 eL1 eL2 eL3 ep3 ep4 eg3 eg4 eg2 e1 e2 dS2 dS3 dS4 o0 dS
  have D6 := o6.dr
  walk_at "go"
  rename_i y H7 y0 y1 f7 D7
  obtain ⟨v, hv, hv2⟩ := atI_mem (xs := xs4) (z := y % 21) (by omega) (by rw [hx4]; omega)
  obtain ⟨e, ke, he, hb⟩ := (ok4 v hv2).fr o6.hd f7
  refine g_ixL (SqL.of (f7.at eL4 (nin1 nL4 nin0))) hv ?_
  exact k v e H7 ke he hb (F6.transL f7) D7
theorem ok_Lbad_deed {f : Addr} {fd : FuncData} (F : Fun K "_law_bad_deed" "_law_bad_deed" s_Lbad_deed f fd) (T : Txt K mg A) (c_Lbad_party : Cal P w K mg base "_law_bad_party" 4 ["_law_draws", "_law_setup_here"] (sp_Lbad_party K A)) (c_Ldraw : Cal P w K mg base "_law_draw" 2 ["_law_draws"] (sp_Ldraw K A)) : FnOk P w K mg base CX0 (5) f fd ["_law_draws", "_law_setup_here", "_law_number"] (sp_Lbad_deed K A) := by
  refine F.ok sc_Lbad_deed (fun vs H Q E h => ?_) (fun cdv Ar outer s H vs Q E hr h => ⟨t_Lbad_deed K A, ?_, ?_⟩)
  · obtain ⟨x0, x1, x2, rfl, _⟩ := h
    rfl
  · have hu := hu_of hr
    exact (pss_cons (ps_set (i := 3) sc_Lbad_deed.nd rfl (Or.inl rfl) (pe_tup (pa_cons (pe_tup (pa_cons pe_int (pa_cons pe_int (pa_cons pe_int pa_nil)))) pa_nil)))
    (pss_cons (ps_set (i := 4) sc_Lbad_deed.nd rfl (Or.inl rfl) (pe_lst (pa_cons (pe_tup (pa_cons pe_str (pa_cons (pe_cl c_Lbad_party (hr.mono (by first | decide | omega)) (by rfl) (pa_cons (pv 0) (pa_cons (pv 1) pa_nil))) pa_nil))) (pa_cons (pe_tup (pa_cons pe_str (pa_cons (pe_cl c_Lbad_party (hr.mono (by first | decide | omega)) (by rfl) (pa_cons (pv 0) (pa_cons (pv 1) pa_nil))) pa_nil))) (pa_cons (pe_tup (pa_cons pe_str pa_nil)) (pa_cons (pe_tup (pa_cons pe_str (pa_cons (pv 3) (pa_cons pe_int pa_nil)))) pa_nil))))))
    (pss_cons (ps_set (i := 4) sc_Lbad_deed.nd rfl (Or.inl rfl) (pe_op op_cat (pv 4) (pe_lst (pa_cons (pe_tup (pa_cons pe_str (pa_cons (pv 2) pa_nil))) (pa_cons (pe_tup (pa_cons pe_str (pa_cons (pe_op o_add (pv 2) pe_int) pa_nil))) (pa_cons (pe_tup (pa_cons pe_str (pa_cons (pe_un un_neg pe_int) pa_nil))) (pa_cons (pe_tup (pa_cons pe_str (pa_cons pe_int (pa_cons pe_int pa_nil)))) (pa_cons (pe_tup (pa_cons pe_str (pa_cons (pv 3) pa_nil))) (pa_cons (pe_tup (pa_cons pe_str (pa_cons pe_bl pa_nil))) (pa_cons (pe_tup pa_nil) pa_nil))))))))))
    (pss_cons (ps_set (i := 4) sc_Lbad_deed.nd rfl (Or.inl rfl) (pe_op op_cat (pv 4) (pe_lst (pa_cons (pe_tup (pa_cons pe_str (pa_cons (pv 2) (pa_cons (pv 3) pa_nil)))) (pa_cons (pe_tup (pa_cons pe_str (pa_cons (pe_un un_neg pe_int) (pa_cons (pv 3) pa_nil)))) (pa_cons (pe_tup (pa_cons pe_str (pa_cons pe_int pa_nil))) (pa_cons (pe_tup (pa_cons pe_str (pa_cons pe_int (pa_cons (pe_cl c_Lbad_party (hr.mono (by first | decide | omega)) (by rfl) (pa_cons (pv 0) (pa_cons (pv 1) pa_nil))) pa_nil)))) pa_nil)))))))
    (pss_cons (ps_set (i := 4) sc_Lbad_deed.nd rfl (Or.inl rfl) (pe_op op_cat (pv 4) (pe_lst (pa_cons (pe_lst (pa_cons pe_str (pa_cons (pv 3) pa_nil))) (pa_cons pe_int (pa_cons pe_non (pa_cons pe_str (pa_cons (pe_tup (pa_cons pe_str (pa_cons pe_str pa_nil))) (pa_cons (pe_tup (pa_cons pe_str (pa_cons pe_int (pa_cons (pv 3) (pa_cons pe_int pa_nil))))) pa_nil)))))))))
    (pss_one (ps_ret (pe_ix ix_list (pv 4) (pe_op o_mod (pe_cl c_Ldraw (hr.mono (by first | decide | omega)) (by rfl) (pa_cons (pv 0) pa_nil)) pe_int) (fun _ _ => rfl)))))))))
  · obtain ⟨x0, x1, x2, rfl, h⟩ := h
    exact pu_Lbad_deed T h

def P_Lerror (K : PySem.W.Frag) (A : Ad) (x0 x1 : V) (H : Hp) (Q : VK) : Prop := ∃ (q : Addr) (d : PyData) (rs : List Addr) (dss : List (List PyData)), Da H x0 d ∧ x1 = .ref q ∧ H q = some (.lst (rs.map V.ref)) ∧ RowsAt H rs dss ∧ rs.length ≤ 1000 ∧ (∀ ds ∈ dss, ds.length ≤ 1000) ∧ (∀ ds ∈ dss, ∀ e ∈ ds, HdOk e) ∧
  (isSet d = false → ∀ H', Fr [] H H' → Q (.int 1) H') ∧ ∀ S, SetupOk S → d = setupD S → (¬ RowsOk S dss → ∀ H', Fr [] H H' → Q (.int 2) H') ∧ (RowsOk S dss → ∀ H', Fr [] H H' → Q (.int 0) H')
def sp_Lerror (K : PySem.W.Frag) (A : Ad) : Sp := fun vs H Q _ => ∃ x0 x1, vs = [x0, x1] ∧ P_Lerror K A x0 x1 H Q
theorem c_Lerror {K : PySem.W.Frag} {A : Ad} {x0 x1 : V} {H : Hp} {Q : VK} {E : XK} (h : P_Lerror K A x0 x1 H Q) : sp_Lerror K A [x0, x1] H Q E := ⟨_, _, rfl, h⟩
theorem sc_Lerror : FnScope ["_law_setup_here", "_law_deeds_here", "e"] ["_law_setup_here", "_law_deeds_here"] (defScope s_Lerror) := ⟨rfl, rfl, rfl, by decide +kernel, rfl, by decide +kernel, by decide +kernel⟩
def t_Lerror (K : PySem.W.Frag) (A : Ad) : TS :=
  (tSeq (tTryManyAs K (fun W0 => (tDrop (tMkX A.World (sp_World_init K A) W0 (tCons (tVar 0) (tCons (tVar 1) tNil)))))
    [(.ref A.BadSetup, 2, (fun a0 cls0 d0 => (tRet (tOp oAdd (tC (.int 1)) (tOp oMul (tCB rIntB (tCons (tOrV (tCB (rIsEd K A.BadSetup a0 cls0 d0) (tCons (tVar 2) (tCons (tC (.ref A.BadDeed)) tNil))) (tNotV (tCB (rIsEd K A.BadSetup a0 cls0 d0) (tCons (tVar 2) (tCons (tC (.ref A.ManydoorsError)) tNil))))) tNil)) (tC (.int 9))))))), (.ref A.BadDeed, 2, (fun a0 cls0 d0 => (tRet (tOp oAdd (tC (.int 2)) (tOp oMul (tCB rIntB (tCons (tNotV (tCB (rIsEd K A.BadDeed a0 cls0 d0) (tCons (tVar 2) (tCons (tC (.ref A.ManydoorsError)) tNil)))) tNil)) (tC (.int 9)))))))] (fun _ _ _ _ => False))
    (tRet (tC (.int 0))))
theorem pu_Lerror (T : Txt K mg A) {x0 x1 : V} {H : Hp} {Q : VK} (h : P_Lerror K A x0 x1 H Q) : t_Lerror K A { nx := fun _ H' => Q .non H', rt := Q } [some x0, some x1, none] H := by
  obtain ⟨q, d, rs, dss, dd, rfl, hq, hr, hl1, hl2, hho, k1, k2⟩ := h
  unfold t_Lerror
  walk_at "go"
  unfold tTryManyAs
  walk_at "go"
  refine g_mkX ?_
  walk_at "go"
  refine g_rmkX fun x dx H2 nx nxd xne f2 e2 e2d => ?_
  refine c_World_init ⟨x, dx, q, d, rs, dss, rfl, e2, Da.fr0 f2 _ _ dd, rfl, f2.at0 hq, Paired.mapP hr fun r ds ⟨vs, e, da⟩ => ⟨vs, f2.at0 e, DaL.fr0 f2 _ _ da⟩, hl1, hl2, hho, fun hs H' f => ?_, fun S so hd => ⟨fun hno H' f => ?_, fun D hro hD hok w H' hp f hn xw => ?_⟩⟩
  · have F := f2.own1 f nx
    refine ⟨true, PySem.W.exm_ref T.x_BadSetup.s T.ec_BadSetup.hd T.x_BadSetup.t T.k_ss, fun _ a n => ?_, fun z => nomatch z⟩
    walk_at "go"
    refine ⟨rfl, rfl, g_isE T.k_sd ?_⟩
    walk_at "go"
    refine ⟨rfl, rfl, g_isE T.k_sm ?_⟩
    walk_at "go"
    exact k1 hs H' F
  · have F := f2.own1 f nx
    refine ⟨false, PySem.W.exm_ref T.x_BadSetup.s T.ec_BadSetup.hd T.x_BadSetup.t T.k_ds, (fun z => nomatch z), fun _ => ⟨true, PySem.W.exm_ref T.x_BadDeed.s T.ec_BadDeed.hd T.x_BadDeed.t T.k_dd, fun _ a n => ?_, fun z => nomatch z⟩⟩
    walk_at "go"
    refine ⟨rfl, rfl, g_isE T.k_dm ?_⟩
    walk_at "go"
    exact (k2 S so hd).1 hno H' F
  · have F := f2.own1 f nx
    refine ⟨rfl, ?_⟩
    walk_at "go"
    exact (k2 S so hd).2 hro H' F
theorem ok_Lerror {f : Addr} {fd : FuncData} (F : Fun K "_law_error" "_law_error" s_Lerror f fd) (T : Txt K mg A) (c_World_init : CalCX P w K mg base "World" A.World 7 ["self", "setup", "deeds"] (sp_World_init K A)) : FnOk P w K mg base CX0 (9) f fd ["_law_setup_here", "_law_deeds_here"] (sp_Lerror K A) := by
  refine F.ok sc_Lerror (fun vs H Q E h => ?_) (fun cdv Ar outer s H vs Q E hr h => ⟨t_Lerror K A, ?_, ?_⟩)
  · obtain ⟨x0, x1, rfl, _⟩ := h
    rfl
  · have hu := hu_of hr
    exact (pss_cons (ps_try_manyAs rfl rfl sc_Lerror.nd takes_none5 (fun W0 pn0 xe0 tkW0 pw0 => (pss_one (ps_expr (pe_mkX c_World_init (hr.mono (by first | decide | omega)) (by rfl) tkW0 (pa_cons (pv 0) (pa_cons (pv 1) pa_nil))))))
    (.cons (i := 2) rfl rfl ⟨by rfl, by decide, .inl T.x_BadSetup.g⟩ (fun a0 oe0 cls0 d0 pn0 hz0 hf0 => (pss_one (ps_ret (pe_op o_add pe_int (pe_op o_mul (pe_callTy b_intB (by rfl) T.b_int (by decide +kernel) (pa_cons (pe_or (pe_callB (call_isEd T.ec_BadSetup hz0 hf0) (by rfl) T.b_isinstance (by decide +kernel) (pa_cons (pv 2) (pa_cons (pe_err T.x_BadDeed (by rfl)) pa_nil))) (pe_one (pe_not (pe_callB (call_isEd T.ec_BadSetup hz0 hf0) (by rfl) T.b_isinstance (by decide +kernel) (pa_cons (pv 2) (pa_cons (pe_err T.x_ManydoorsError (by rfl)) pa_nil)))))) pa_nil)) pe_int)))))
    (.cons (i := 2) rfl rfl ⟨by rfl, by decide, .inl T.x_BadDeed.g⟩ (fun a0 oe0 cls0 d0 pn0 hz0 hf0 => (pss_one (ps_ret (pe_op o_add pe_int (pe_op o_mul (pe_callTy b_intB (by rfl) T.b_int (by decide +kernel) (pa_cons (pe_not (pe_callB (call_isEd T.ec_BadDeed hz0 hf0) (by rfl) T.b_isinstance (by decide +kernel) (pa_cons (pv 2) (pa_cons (pe_err T.x_ManydoorsError (by rfl)) pa_nil)))) pa_nil)) pe_int)))))
    .nil)))
    (pss_one (ps_ret pe_int)))
  · obtain ⟨x0, x1, rfl, h⟩ := h
    exact pu_Lerror T h

/-! ### setups and rows that are right -/
theorem all_isF {lo hi : Int} : ∀ {r : List Int}, (∀ z ∈ r, lo ≤ z ∧ z ≤ hi) → (r.map PyData.int).all (isF lo hi) = true
  | [], _ => rfl
  | z :: r, h => by
    rw [List.map_cons, List.all_cons, isF_iff.mpr (h z List.mem_cons_self), all_isF fun x hx => h x (List.mem_cons_of_mem _ hx)]; rfl
theorem set_ok {S : Setup} (so : SetupOk S) : isSet (setupD S) = true := by
  have hk1 := so.k1
  have hk3 := so.k3
  have h1 : roomsOk (rowD S.rooms) = true := by
    show (decide _ && decide _ && _) = true
    rw [all_isF so.rm, decide_eq_true (by rw [List.length_map]; omega), decide_eq_true (by rw [List.length_map]; omega)]; rfl
  have h2 : pricesOk (lenOf (rowD S.rooms)) (intOf (.int S.nights)) (.tuple (S.prices.map rowD)) = true := by
    show (decide ((S.prices.map rowD).length = ((S.rooms.map PyData.int).length : Int)) && (S.prices.map rowD).all (rowOk S.nights)) = true
    rw [List.length_map, List.length_map, so.pl, decide_eq_true rfl, Bool.true_and]
    refine List.all_eq_true.mpr fun x hx => ?_
    obtain ⟨r, hr, rfl⟩ := List.mem_map.mp hx
    obtain ⟨hl, hb⟩ := so.pn r hr
    have hn := so.n1
    show (decide (((r.map PyData.int).length : Int) = S.nights) && _) = true
    rw [all_isF hb, List.length_map, decide_eq_true (by omega)]; rfl
  show isSet (.tuple [_, _, _, _, _]) = true
  rw [isSet5, h1, isF_iff.mpr ⟨so.n1, so.n2⟩, isF_iff.mpr ⟨so.s1, so.s2⟩, h2, isF_iff.mpr ⟨so.h1, so.h2⟩]; rfl
theorem map_int_inj : ∀ {a b : List Int}, a.map PyData.int = b.map PyData.int → a = b
  | [], [], _ => rfl
  | [], _ :: _, h => by cases h
  | _ :: _, [], h => by cases h
  | x :: a, y :: b, h => by
    rw [List.map_cons, List.map_cons] at h
    have h1 := (List.cons.inj h).1
    cases h1
    rw [map_int_inj (List.cons.inj h).2]
theorem map_row_inj : ∀ {a b : List (List Int)}, a.map rowD = b.map rowD → a = b
  | [], [], _ => rfl
  | [], _ :: _, h => by cases h
  | _ :: _, [], h => by cases h
  | x :: a, y :: b, h => by
    rw [List.map_cons, List.map_cons] at h
    have h1 := (List.cons.inj h).1
    unfold rowD at h1
    rw [map_int_inj (PyData.tuple.inj h1), map_row_inj (List.cons.inj h).2]
theorem setupD_inj {S S' : Setup} (h : setupD S = setupD S') : S = S' := by
  obtain ⟨r, n, s, p, q⟩ := S
  obtain ⟨r', n', s', p', q'⟩ := S'
  unfold setupD rowD at h
  have h := PyData.tuple.inj h
  simp only [List.cons.injEq, PyData.tuple.injEq, PyData.int.injEq, and_true] at h
  obtain ⟨h1, h2, h3, h4, h5⟩ := h
  rw [map_int_inj h1, h2, h3, map_row_inj h4, h5]
theorem deed_dd {S : Setup} {d : Deed} {i : Nat} (h : DeedG S d) (n : NameLt i d) : isDd S.rooms.length S.nights (deedD d) = true ∧ nameOk i (deedD d) = true := by
  cases d with
  | wish p => exact ⟨by show isDd _ _ (.tuple (.str "wish" :: _)) = true; rw [dd_wish]; exact pty_ok h, rfl⟩
  | cancel k =>
    refine ⟨?_, by show decide (k < i) = true; exact decide_eq_true n.2⟩
    show isDd _ _ (.tuple (.str "cancel" :: _)) = true
    rw [dd_can]
    show decide (0 ≤ k) = true
    exact decide_eq_true n.1
  | change k p =>
    refine ⟨?_, by show decide (k < i) = true; exact decide_eq_true n.2⟩
    show isDd _ _ (.tuple (.str "change" :: _)) = true
    rw [dd_chg]
    show (true && decide (0 ≤ k) && isPty _ _ (partyD p)) = true
    rw [pty_ok h, decide_eq_true n.1]; rfl
abbrev dataD (D : List (List Deed)) : List (List PyData) := D.map fun r => r.map deedD
theorem good_rows {S : Setup} {D : List (List Deed)} (hl : D.length = S.sellers.toNat) (h : ∀ r ∈ D, GoodRow S r) : RowsOk S (dataD D) := ⟨by rw [List.length_map]; exact hl, fun ds hds i e he => by
  obtain ⟨r, hr, rfl⟩ := List.mem_map.mp hds
  rw [List.getElem?_map] at he
  obtain ⟨d, hd, rfl⟩ := Option.map_eq_some_iff.mp he
  exact deed_dd (h r hr i d hd).1 (h r hr i d hd).2⟩
theorem hd_deed (d : Deed) : HdOk (deedD d) := by
  cases d with
  | wish p => exact hdW
  | cancel k => exact hdC
  | change k p => exact hdG
theorem hd_rows {D : List (List Deed)} : ∀ ds ∈ dataD D, ∀ e ∈ ds, HdOk e := fun ds hds e he => by
  obtain ⟨r, _, rfl⟩ := List.mem_map.mp hds
  obtain ⟨d, _, rfl⟩ := List.mem_map.mp he
  exact hd_deed d
/-- rows that stay while some places change -/
def KRows (L : List Addr) (H : Hp) (rs : List Addr) (dss : List (List PyData)) : Prop := Paired (fun r ds => r ∉ L ∧ ∃ vs, H r = some (.lst vs) ∧ KDL L H vs ds) rs dss
theorem KRows.fr {L : List Addr} {H H' : Hp} {rs : List Addr} {dss : List (List PyData)} (h : KRows L H rs dss) (f : Fr L H H') : KRows L H' rs dss := Paired.mapP h fun r ds ⟨n, vs, e, k⟩ => ⟨n, vs, f.at e n, k.fr f⟩
theorem KRows.at {L : List Addr} {H : Hp} {rs : List Addr} {dss : List (List PyData)} (h : KRows L H rs dss) : RowsAt H rs dss := Paired.mapP h fun r ds ⟨_, vs, e, k⟩ => ⟨vs, e, k H Fr.refl⟩
theorem DsAt.k {L : List Addr} {H : Hp} {rs : List Addr} {D : List (List Deed)} (h : DsAt H rs D) (n : ∀ r ∈ rs, r ∉ L) : KRows L H rs (dataD D) := by
  induction h with
  | nil => exact .nil
  | cons r t ih =>
    obtain ⟨im, vs, e, dv⟩ := r
    exact .cons ⟨n _ List.mem_cons_self, vs, e, fun H' f => DaL.frL f dv im⟩ (ih fun b hb => n b (List.mem_cons_of_mem _ hb))
theorem Paired.dropP {α β : Type} {F : α → β → Prop} : ∀ {l : List α} {m : List β} (i : Nat), Paired F l m → Paired F (l.drop i) (m.drop i)
  | _, _, 0, h => h
  | _, _, _ + 1, .nil => .nil
  | _, _, i + 1, .cons _ t => Paired.dropP i t
theorem Paired.setP {α β : Type} {F : α → β → Prop} {a : α} {b : β} (h : F a b) : ∀ {l : List α} {m : List β} (i : Nat), Paired F l m → Paired F (l.set i a) (m.set i b)
  | _, _, _, .nil => .nil
  | _, _, 0, .cons _ t => .cons h t
  | _, _, i + 1, .cons r t => .cons r (Paired.setP h i t)
/-- what of the drawn lists is kept -/
structure DlAt (H : Hp) (d R : Addr) (rs : List Addr) (D : List (List Deed)) : Prop where
  e : H R = some (.lst (rs.map V.ref))
  ds : DsAt H rs D
  n : R ≠ d
  nr : ∀ r ∈ rs, r ≠ d
theorem DlAt.fr {H H' : Hp} {d R : Addr} {rs : List Addr} {D : List (List Deed)} (h : DlAt H d R rs D) (f : Fr [d] H H') : DlAt H' d R rs D := ⟨f.at h.e (nin1 h.n nin0), h.ds.fr f fun r hr => nin1 (h.nr r hr) nin0, h.n, h.nr⟩
theorem DlAt.f0 {H H' : Hp} {d R : Addr} {rs : List Addr} {D : List (List Deed)} (h : DlAt H d R rs D) (f : Fr [] H H') : DlAt H' d R rs D := h.fr f.of0
theorem toNat_succ {z : Int} (h : 0 ≤ z) : (z + 1).toNat = z.toNat + 1 := by omega
abbrev lwS (a d : Addr) (v2 v3 v4 v5 v6 v7 v8 v9 v10 : Option V) : L2.St := [some (.ref a), some (.ref d), v2, v3, v4, v5, v6, v7, v8, v9, v10]
/-- [list(row) for row in deeds] -/
theorem copies (T : Txt K mg A) {H : Hp} {Q : VK} {a d l R : Addr} {rs : List Addr} {D : List (List Deed)} {v2 v3 v4 v5 v6 v7 v8 v9 v10 : Option V} (D0 : Draws H d l) (dl : DlAt H d R rs D) (hD : D.length ≤ 10)
    (k : ∀ q cs H', Fr [] H H' → H' q = some (.lst (cs.map V.ref)) → H q = none → q ≠ d → DsAt H' cs D → (∀ c ∈ cs, c ≠ q ∧ c ≠ d) → Q (.ref q) H') :
    LcGo (Itl K R) (gName 10) tYes (tCB (rListOf K) (tCons (tVar 10) tNil)) [10] (lwS a d v2 v3 v4 v5 v6 v7 v8 v9 v10) Q H := by
  have hrs : rs.length = D.length := Paired.length dl.ds
  refine l_list (xs := rs.map V.ref) fun q H2 n2 f2 e2 => ⟨fun i acc H' => ∃ cs : List Addr, acc = cs.map V.ref ∧ DsAt H' cs (D.take i) ∧ (∀ c ∈ cs, c ≠ q ∧ c ≠ d) ∧ Fr [] H H', ⟨[], rfl, .nil, fun _ h => (nomatch h), f2⟩, fun i acc H' ⟨_, _, _, _, f⟩ => SqL.of (f.at0 dl.e), fun i x acc H3 hx ha ⟨cs, ea, kr, nq, f⟩ => ?_, fun acc H3 ha ⟨cs, ea, kr, nq, f⟩ => ?_⟩
  · rw [List.getElem?_map] at hx
    obtain ⟨r, hr, rfl⟩ := Option.map_eq_some_iff.mp hx
    obtain ⟨row, hrow, im, vs, er, dv⟩ := Paired.nth dl.ds hr
    have er3 := f.at0 er
    have hi := (List.getElem?_eq_some_iff.mp hr).1
    have hcs : cs.length ≤ 10 := by rw [Paired.length kr, List.length_take]; omega
    walk_at "go"
    refine ⟨rfl, ?_⟩
    walk_at "go"
    rename_i c H4 n4 f4 e4
    have ncd : c ≠ d := ((D0.fr f nin0 nin0).new1 n4).symm
    have ncq : c ≠ q := (ne_of_none ha n4).symm
    refine lcY_of (f4.at0 ha) (szM (by rw [ea, List.length_map]; omega)) fun H5 f5 e5 => ⟨cs ++ [c], by rw [ea, List.map_append]; rfl, ?_, fun z hz => ?_, (f.then0 f4).own1 f5 n2⟩
    · rw [show D.take (i + 1) = D.take i ++ [row] from take_more hrow]
      exact Paired.snoc ((DsAt.fr kr f4 fun _ _ => nin0).fr f5 fun c hc => nin1 (nq c hc).1 nin0) ⟨im, vs, f5.at e4 (nin1 ncq nin0), DaL.frL ((f.then0 f4).of0.transL f5) dv im⟩
    · rcases List.mem_append.mp hz with h | h
      · exact nq z h
      · rw [List.mem_singleton.mp h]; exact ⟨ncq, ncd⟩
  · rw [List.length_map, hrs, List.take_length] at kr
    subst ea
    exact k q cs H3 f ha n2 ((D0.new1 n2).symm) kr nq
theorem krows_len {L : List Addr} {H : Hp} {rs : List Addr} {dss : List (List PyData)} (h : KRows L H rs dss) : rs.length = dss.length := Paired.length h
/-- what _law_error says: right, wrong rows, a wrong setup -/
theorem err0 {A : Ad} {K : PySem.W.Frag} {H : Hp} {Q : VK} {sv : V} {L : List Addr} {q : Addr} {S : Setup} {cs : List Addr} {dss : List (List PyData)} (so : SetupOk S) (dS : Da H sv (setupD S)) (eq : H q = some (.lst (cs.map V.ref))) (kr : KRows L H cs dss) (h1 : cs.length ≤ 1000) (h2 : ∀ ds ∈ dss, ds.length ≤ 1000) (h3 : ∀ ds ∈ dss, ∀ e ∈ ds, HdOk e)
    (ok : RowsOk S dss) (k : ∀ H', Fr [] H H' → Q (.int 0) H') : P_Lerror K A sv (.ref q) H Q :=
  ⟨q, setupD S, cs, dss, dS, rfl, eq, kr.at, h1, h2, h3, fun h => (by rw [set_ok so] at h; cases h), fun S' so' hd => by cases setupD_inj hd; exact ⟨fun h => absurd ok h, fun _ => k⟩⟩
theorem err2 {A : Ad} {K : PySem.W.Frag} {H : Hp} {Q : VK} {sv : V} {L : List Addr} {q : Addr} {S : Setup} {cs : List Addr} {dss : List (List PyData)} (so : SetupOk S) (dS : Da H sv (setupD S)) (eq : H q = some (.lst (cs.map V.ref))) (kr : KRows L H cs dss) (h1 : cs.length ≤ 1000) (h2 : ∀ ds ∈ dss, ds.length ≤ 1000) (h3 : ∀ ds ∈ dss, ∀ e ∈ ds, HdOk e)
    (no : ¬ RowsOk S dss) (k : ∀ H', Fr [] H H' → Q (.int 2) H') : P_Lerror K A sv (.ref q) H Q :=
  ⟨q, setupD S, cs, dss, dS, rfl, eq, kr.at, h1, h2, h3, fun h => (by rw [set_ok so] at h; cases h), fun S' so' hd => by cases setupD_inj hd; exact ⟨fun _ => k, fun h => absurd h no⟩⟩
theorem err1 {A : Ad} {K : PySem.W.Frag} {H : Hp} {Q : VK} {sv : V} {e : PyData} {L : List Addr} {q : Addr} {cs : List Addr} {dss : List (List PyData)} (de : Da H sv e) (he : isSet e = false) (eq : H q = some (.lst (cs.map V.ref))) (kr : KRows L H cs dss) (h1 : cs.length ≤ 1000) (h2 : ∀ ds ∈ dss, ds.length ≤ 1000) (h3 : ∀ ds ∈ dss, ∀ e ∈ ds, HdOk e)
    (k : ∀ H', Fr [] H H' → Q (.int 1) H') : P_Lerror K A sv (.ref q) H Q :=
  ⟨q, e, cs, dss, de, rfl, eq, kr.at, h1, h2, h3, fun _ => k, fun S' so' hd => by rw [hd, set_ok so'] at he; cases he⟩
def P_law (K : PySem.W.Frag) (A : Ad) (x0 : V) (H : Hp) (Q : VK) : Prop := ∃ (a : Addr) (ns : List Int), x0 = .ref a ∧ SqL K H a (ns.map V.int) ∧ ns.length ≤ 63 ∧ ∀ H', Q (.bl true) H'
def sp_law (K : PySem.W.Frag) (A : Ad) : Sp := fun vs H Q _ => ∃ x0, vs = [x0] ∧ P_law K A x0 H Q
theorem c_law {K : PySem.W.Frag} {A : Ad} {x0 : V} {H : Hp} {Q : VK} {E : XK} (h : P_law K A x0 H Q) : sp_law K A [x0] H Q E := ⟨_, rfl, h⟩
theorem sc_law : FnScope ["_law_script", "_law_draws", "_law_turn", "_law_setup_here", "_law_deeds_here", "_law_s", "_law_at", "_law_wrong", "_law_lists", "_law_world", "_law_row"] ["_law_script"] (defScope s_law) := ⟨rfl, rfl, rfl, by decide +kernel, rfl, by decide +kernel, by decide +kernel⟩
def t_law (K : PySem.W.Frag) (A : Ad) : TS :=
  (tSeq (tAsg (tLst (tCons (tCl (sp_Lnumbers K A) (tCons (tVar 0) tNil)) (tCons (tC (.int 0)) tNil))) (gName 1))
    (tSeq (tFor (iRng1 (tCons (tC (.int 4)) tNil)) (gName 2) (tSeq (tAsg (tCl (sp_Lsetup K A) (tCons (tVar 1) tNil)) (gName 3))
    (tSeq (tAsg (tCl (sp_Ldeeds K A) (tCons (tVar 1) (tCons (tVar 3) (tCons (tC (.int 4)) tNil)))) (gName 4))
    (tSeq (tIfS (tTest (tOp rNe (tCl (sp_Lerror K A) (tCons (tVar 3) (tCons (tLc (iList K (tVar 4)) (gName 10) tYes (tCB (rListOf K) (tCons (tVar 10) tNil)) [10]) tNil))) (tC (.int 0)))) (tRet (tC (.bl false))) tNext)
    (tSeq (tIfS (tTest (tOp rNe (tCl (sp_Lerror K A) (tCons (tCl (sp_Lbad_setup K A) (tCons (tVar 1) (tCons (tVar 3) tNil))) (tCons (tLc (iList K (tVar 4)) (gName 10) tYes (tCB (rListOf K) (tCons (tVar 10) tNil)) [10]) tNil))) (tC (.int 1)))) (tRet (tC (.bl false))) tNext)
    (tSeq (tAsg (tOp oMod (tCl (sp_Ldraw K A) (tCons (tVar 1) tNil)) (tOp (rIxT K) (tVar 3) (tC (.int 2)))) (gName 5))
    (tSeq (tAsg (tOp oMod (tCl (sp_Ldraw K A) (tCons (tVar 1) tNil)) (tOp oAdd (tCB (rLenSq K) (tCons (tOp (rIxL K) (tVar 4) (tVar 5)) tNil)) (tC (.int 1)))) (gName 6))
    (tSeq (tAsg (tLc (iList K (tVar 4)) (gName 10) tYes (tCB (rListOf K) (tCons (tVar 10) tNil)) [10]) (gName 7))
    (tSeq (tAsg (tOp rCat (tOp rCat (tSl (rSlL K) (tOp (rIxL K) (tVar 4) (tVar 5)) tNoPart (tPart (tVar 6))) (tLst (tCons (tCl (sp_Lbad_deed K A) (tCons (tVar 1) (tCons (tVar 3) (tCons (tVar 6) tNil)))) tNil))) (tSl (rSlL K) (tOp (rIxL K) (tVar 4) (tVar 5)) (tPart (tVar 6)) tNoPart)) (gSub (tVar 7) (tVar 5) rSetL))
    (tSeq (tIfS (tOr (tTest (tOp rNe (tCl (sp_Lerror K A) (tCons (tVar 3) (tCons (tVar 7) tNil))) (tC (.int 2)))) (tTest (tOp rNe (tCl (sp_Lerror K A) (tCons (tCl (sp_Lbad_setup K A) (tCons (tVar 1) (tCons (tVar 3) tNil))) (tCons (tVar 7) tNil))) (tC (.int 1))))) (tRet (tC (.bl false))) tNext)
    (tSeq (tAsg (tLc (iList K (tVar 4)) (gName 10) tYes (tCB (rListOf K) (tCons (tVar 10) tNil)) [10]) (gName 8))
    (tIfS (tOr (tTest (tOp rNe (tCl (sp_Lerror K A) (tCons (tVar 3) (tCons (tOp rCat (tVar 8) (tLst (tCons (tLst tNil) tNil))) tNil))) (tC (.int 2)))) (tOr (tTest (tOp rNe (tCl (sp_Lerror K A) (tCons (tVar 3) (tCons (tSl (rSlL K) (tVar 8) (tPart (tC (.int 1))) tNoPart) tNil))) (tC (.int 2)))) (tTest (tOp rNe (tCl (sp_Lerror K A) (tCons (tVar 3) (tCons (tOp rRep (tLst (tCons (tLst tNil) tNil)) (tC (.int 5))) tNil))) (tC (.int 2)))))) (tRet (tC (.bl false))) tNext))))))))))))
    (tSeq (tAsg (tMkX A.World (sp_World_init K A) (fun _ _ _ _ => False) (tCons (tVar 3) (tCons (tVar 4) tNil))) (gName 9))
    (tSeq (tIfS (tOr (tTest (tOp rNotB (tMt A.World "settle" (sp_World_settle K A) (tVar 9) tNil) (tC (.bl true)))) (tTest (tOp cGt (tOp oAdd (tCB (rLenSq K) (tCons (tFld K (tVar 9) "net") tNil)) (tCB (rLenSq K) (tCons (tFld K (tVar 9) "history") tNil))) (tC (.int 0))))) (tRet (tC (.bl false))) tNext)
    (tRet (tAndV (tCl (sp_Lequal K A 12) (tCons (tFld K (tVar 9) "down") (tCons (tOp rRep (tLst (tCons (tC (.bl false)) tNil)) (tOp oAdd (tOp (rIxT K) (tVar 3) (tC (.int 2))) (tC (.int 1)))) tNil))) (tCl (sp_Lequal K A 12) (tCons (tDGet (tFld K (tFld K (tVar 9) "house") "stock") (tTup (tCons (tC (.int 0)) (tCons (tC (.int 0)) tNil)))) (tCons (tOp (rIxT K) (tOp (rIxT K) (tVar 3) (tC (.int 0))) (tC (.int 0))) tNil)))))))))
theorem pu_law (T : Txt K mg A) {x0 : V} {H : Hp} {Q : VK} (h : P_law K A x0 H Q) : t_law K A { nx := fun _ H' => Q .non H', rt := Q } [some x0, none, none, none, none, none, none, none, none, none, none] H := by
  obtain ⟨a, ns, rfl, hS, hl, k⟩ := h
  unfold t_law
  walk_at "go"
  refine c_Lnumbers ⟨a, ns, rfl, hS, hl, fun nl ms H1 n1 f1 e1 sm hm => ?_⟩
  walk_at "go"
  rename_i d H2 n2 f2 e2
  have D2 : Draws H2 d nl := ⟨ms, 0, e2, f2.at0 e1, sm, hm, Int.le_refl _⟩
  clear hS f1 f2 e1 e2 n1 n2 sm hm
  refine f_range (lo := 0) (n := 4) (fun i σ H' => ∃ v2 v3 v4 v5 v6 v7 v8 v10, σ = lwS a d v2 v3 v4 v5 v6 v7 v8 none v10 ∧ Draws H' d nl ∧ (1 ≤ i → ∃ S sv R rs D, v3 = some sv ∧ v4 = some (.ref R) ∧ SetupOk S ∧ Da H' sv (setupD S) ∧ DlAt H' d R rs D ∧ D.length = S.sellers.toNat ∧ ∀ r ∈ D, GoodRow S r ∧ r.length ≤ 4)) ⟨_, _, _, _, _, _, _, _, rfl, D2, fun h => absurd h (by decide)⟩ ?_ ?_
  · rintro i σ H1 hi ⟨v2, v3, v4, v5, v6, v7, v8, v10, rfl, D1, _⟩
    walk_at "go"
    refine c_Lsetup ⟨d, nl, rfl, D1, fun sv S H2 so dS f2 D2 => ?_⟩
    clear f2 D1
    walk_at "go"
    refine c_Ldeeds ⟨d, nl, S, 4, rfl, D2, so, dS, rfl, by decide, fun R rs D H3 hD hg nR nrs nd eR ds f3 D3 => ?_⟩
    have dS3 := Da.frL f3 dS (imm_setup S)
    have dl3 : DlAt H3 d R rs D := ⟨eR, ds, (D2.new1 nR).symm, fun r hr => (D2.new1 (nrs r hr)).symm⟩
    have hs1 := so.s1
    have hs2 := so.s2
    have hD10 : D.length ≤ 10 := by omega
    have hl4 : ∀ ds ∈ dataD D, ds.length ≤ 1000 := fun ds hds => by
      obtain ⟨r, hr, rfl⟩ := List.mem_map.mp hds
      rw [List.length_map]; have := (hg r hr).2; omega
    have hgr := good_rows hD fun r hr => (hg r hr).1
    have hDl : (dataD D).length = D.length := List.length_map _
    clear f3 dS eR ds nd nrs nR D2
    walk_at "go"
    refine g_riL (SqL.of dl3.e) ?_
    refine copies T D3 dl3 hD10 fun q1 cs1 H4 f4 eq1 n4 nq1 dr1 nd1 => ?_
    have kr1 : KRows [] H4 cs1 (dataD D) := DsAt.k dr1 fun _ _ => nin0
    have dl4 := dl3.f0 f4
    have D4 := D3.fr f4 nin0 nin0
    have dS4 := Da.fr0 f4 _ _ dS3
    have hc1 := krows_len kr1
    walk_at "go"
    refine c_Lerror (err0 so dS4 eq1 kr1 (by omega) hl4 hd_rows hgr fun H5 f5 => ?_)
    have dl5 := dl4.f0 f5
    have D5 := D4.fr f5 nin0 nin0
    have dS5 := Da.fr0 f5 _ _ dS4
    clear dS3 dl3 D3 f4 eq1 n4 nq1 kr1 dr1 nd1 dl4 D4 dS4 hc1 f5
    walk_at "go"
    refine g_iteN (fun z => absurd rfl z) fun _ => ?_
    walk_at "go"
    refine c_Lbad_setup ⟨d, nl, S, rfl, D5, so, dS5, fun v1 b1 H6 kb1 hb1 f6 D6 => ?_⟩
    have dl6 := dl5.fr f6
    have dS6 := Da.frL f6 dS5 (imm_setup S)
    clear dl5 D5 dS5 f6
    walk_at "go"
    refine g_riL (SqL.of dl6.e) ?_
    refine copies T D6 dl6 hD10 fun q1 cs1 H7 f7 eq1 n7 nq1 dr1 nd1 => ?_
    have kr1 : KRows [] H7 cs1 (dataD D) := DsAt.k dr1 fun _ _ => nin0
    have hc1 := krows_len kr1
    walk_at "go"
    refine c_Lerror (err1 (kb1.fr0 f7).da hb1 eq1 kr1 (by omega) hl4 hd_rows fun H8 f8 => ?_)
    have F68 := f7.then0 f8
    have dl8 := dl6.f0 F68
    have D8 := D6.fr F68 nin0 nin0
    have dS8 := Da.fr0 F68 _ _ dS6
    clear dl6 D6 dS6 f7 f8 F68 eq1 n7 nq1 kr1 dr1 nd1 hc1 kb1
    walk_at "go"
    refine g_iteN (fun z => absurd rfl z) fun _ => ?_
    obtain ⟨sp, r, pp, prs, sa⟩ := SetAt.of dS8
    cases sa.e
    have es8 := sa.t
    clear sa
    walk_at "go"
    rename_i y H9 y0 y1 f9 D9 u H10 u0 u1 f10 D10
    have F10 := f9.transL f10
    have dl10 := dl8.fr F10
    have dS10 := Da.frL F10 dS8 (imm_setup S)
    have s0 := Int.emod_nonneg y (show S.sellers ≠ 0 by omega)
    have s1 := Int.emod_lt_of_pos y (show 0 < S.sellers by omega)
    obtain ⟨s, hs⟩ : ∃ s : Nat, y % S.sellers = s := ⟨(y % S.sellers).toNat, by omega⟩
    have hsD : s < D.length := by omega
    have hrD : rs.length = D.length := Paired.length dl10.ds
    obtain ⟨rr, hrr⟩ : ∃ rr, rs[s]? = some rr := ⟨_, List.getElem?_eq_getElem (by omega)⟩
    obtain ⟨row, hrow, imr, vs, err, dvr⟩ := Paired.nth dl10.ds hrr
    have hvl : vs.length = row.length := by rw [dvr.len, List.length_map]
    have hrl := (hg row (List.mem_of_getElem? hrow)).2
    clear dl8 D8 dS8 es8 f9 f10 F10 D9
    rw [hs]
    refine g_ixL (SqL.of dl10.e) (atI_nat (by rw [List.getElem?_map, hrr]; rfl)) ?_
    walk_at "go"
    rw [hvl]
    have b0 := Int.emod_nonneg u (show (row.length : Int) + 1 ≠ 0 by omega)
    have b1 := Int.emod_lt_of_pos u (show 0 < (row.length : Int) + 1 by omega)
    obtain ⟨at', hat⟩ : ∃ at' : Nat, u % ((row.length : Int) + 1) = at' := ⟨(u % ((row.length : Int) + 1)).toNat, by omega⟩
    rw [hat]
    refine g_riL (SqL.of dl10.e) ?_
    refine copies T D10 dl10 hD10 fun q1 cs1 H11 f11 eq1 n11 nq1 dr1 nd1 => ?_
    have hc1 : cs1.length = D.length := Paired.length dr1
    have nRq : R ≠ q1 := ne_of_none dl10.e n11
    have nrq : ∀ r ∈ rs, r ≠ q1 := fun r hr => by
      obtain ⟨j, hj⟩ := List.getElem?_of_mem hr
      obtain ⟨_, _, _, vs', e', _⟩ := Paired.nth dl10.ds hj
      exact ne_of_none e' n11
    have nlq : nl ≠ q1 := D10.new2 n11
    have dl11 := dl10.f0 f11
    have dS11 := Da.fr0 f11 _ _ dS10
    have D11 := D10.fr f11 nin0 nin0
    have err11 := f11.at0 err
    have dv11 := DaL.frL f11 dvr imr
    clear f11 dl10 dS10 D10 err dvr
    walk_at "go"
    refine g_ixL (SqL.of dl11.e) (atI_nat (by rw [List.getElem?_map, hrr]; rfl)) ?_
    walk_at "go"
    rename_i t1 H12 n12 f12 e12
    rw [cut_take (by omega)] at e12
    have al12 : ∀ a ∈ [d, q1], ∃ o, H12 a = some o := fun a ha => by
      rcases List.mem_cons.mp ha with z | z
      · obtain ⟨ms, k, e, _⟩ := D11.fr f12 nin0 nin0; rw [z]; exact ⟨_, e⟩
      · rw [List.mem_singleton.mp z]; exact ⟨_, f12.at0 eq1⟩
    refine c_Lbad_deed ⟨d, nl, S, at', [d, q1], rfl, ⟨D11.fr f12 nin0 nin0, List.mem_cons_self, al12⟩, so, Da.fr0 f12 _ _ dS11, rfl, fun bv be H13 kb hhb hbb f13 D13 => ?_⟩
    have F13 : Fr [d] H11 H13 := f13.pre0' f12
    have nt1d : t1 ≠ d := (D11.new1 n12).symm
    have e13 := f13.at e12 (nin1 nt1d nin0)
    have dl13 := dl11.fr F13
    have dS13 := Da.frL F13 dS11 (imm_setup S)
    have rn : rr ≠ d := dl11.nr rr (List.mem_of_getElem? hrr)
    have err13 := F13.at err11 (nin1 rn nin0)
    have dv13 := DaL.frL F13 dv11 imr
    have eq13 := F13.at eq1 (nin1 nq1 nin0)
    have dr13 : DsAt H13 cs1 D := dr1.fr F13 fun c hc => nin1 (nd1 c hc).2 nin0
    clear f12 f13 F13 e12 dl11 dS11 D11 err11 dv11 eq1 dr1 al12 n12
    walk_at "go"
    rename_i t2 H14 n14 f14 e14
    refine g_cat (f14.at0 e13) e14 (szL (by rw [List.length_take]; simp; omega)) fun t3 H15 n15 f15 e15 => ?_
    have F15 := f14.then0 f15
    walk_at "go"
    refine g_ixL (SqL.of (F15.at0 dl13.e)) (atI_nat (by rw [List.getElem?_map, hrr]; rfl)) ?_
    have err15 := F15.at0 err13
    walk_at "go"
    rename_i t4 H16 n16 f16 e16
    rw [cut_dropL (by omega)] at e16
    refine g_cat (f16.at0 e15) e16 (szL (by simp [List.length_take, List.length_drop]; omega)) fun W H17 n17 f17 eW => ?_
    have F17 : Fr [] H13 H17 := (F15.then0 f16).then0 f17
    have nWq : W ≠ q1 := (ne_of_none ((F15.then0 f16).at0 eq13) n17).symm
    have D16 := D13.fr (F15.then0 f16) nin0 nin0
    have nWd : W ≠ d := (D16.new1 n17).symm
    have D17 := D16.fr f17 nin0 nin0
    have dl17 := dl13.f0 F17
    have dS17 := Da.fr0 F17 _ _ dS13
    have eq17 := F17.at0 eq13
    have kW : KDL [d, q1] H17 (vs.take at' ++ [bv] ++ vs.drop at') ((row.map deedD).take at' ++ [be] ++ (row.map deedD).drop at') := by
      have kv : KDL [d, q1] H17 vs (row.map deedD) := fun H' f => DaL.frL (F17.of0.transL f) dv13 imr
      exact ((kv.take at').app (.cons (kb.fr0 F17) .nil)).app fun H' f => DaL.drop at' (kv H' f)
    have kr17 : KRows [d, q1] H17 (cs1.set s W) ((dataD D).set s ((row.map deedD).take at' ++ [be] ++ (row.map deedD).drop at')) :=
      Paired.setP ⟨nin1 nWd (nin1 nWq nin0), _, eW, kW⟩ s (DsAt.k (dr13.fr F17 fun _ _ => nin0) fun c hc => nin1 (nd1 c hc).2 (nin1 (nd1 c hc).1 nin0))
    clear f14 f15 f16 f17 F15 F17 e13 e14 e15 e16 eW kW dr13 eq13 dl13 dS13 D13 D16 err13 err15 dv13 kb n14 n15 n16 n17
    walk_at "go"
    refine g_setL eq17 (j := s) (by rw [List.length_map]; unfold ixN; rw [if_pos (by omega), if_pos (by omega)]; rfl) fun H18 f18 e18 => ?_
    have e18 : H18 q1 = some (.lst ((cs1.set s W).map V.ref)) := by rw [e18, List.map_set]
    have D18 := D17.fr f18 (nin1 nq1.symm nin0) (nin1 nlq nin0)
    have dl18 : DlAt H18 d R rs D := ⟨f18.at dl17.e (nin1 nRq nin0), dl17.ds.fr f18 fun r hr => nin1 (nrq r hr) nin0, dl17.n, dl17.nr⟩
    have dS18 := Da.frL f18 dS17 (imm_setup S)
    have kr18 := kr17.fr (f18.mono fun a h => by rw [List.mem_singleton.mp h]; simp)
    have hat1 : at' ≤ row.length := by omega
    have hc18 : (cs1.set s W).length ≤ 1000 := by rw [List.length_set]; omega
    have hl18 : ∀ ds ∈ (dataD D).set s ((row.map deedD).take at' ++ [be] ++ (row.map deedD).drop at'), ds.length ≤ 1000 := fun ds hds => by
      rcases List.mem_or_eq_of_mem_set hds with h | h
      · exact hl4 ds h
      · rw [h]; simp [List.length_take, List.length_drop]; omega
    have hh18 : ∀ ds ∈ (dataD D).set s ((row.map deedD).take at' ++ [be] ++ (row.map deedD).drop at'), ∀ e ∈ ds, HdOk e := fun ds hds e he => by
      rcases List.mem_or_eq_of_mem_set hds with h | h
      · exact hd_rows ds h e he
      · rw [h] at he
        have good : ∀ x ∈ row.map deedD, HdOk x := fun x hx => by obtain ⟨y, _, rfl⟩ := List.mem_map.mp hx; exact hd_deed y
        rcases List.mem_append.mp he with he | he
        · rcases List.mem_append.mp he with he | he
          · exact good e (List.mem_of_mem_take he)
          · rw [List.mem_singleton.mp he]; exact hhb
        · exact good e (List.mem_of_mem_drop he)
    have no18 : ¬ RowsOk S ((dataD D).set s ((row.map deedD).take at' ++ [be] ++ (row.map deedD).drop at')) := fun h => by
      refine hbb (h.2 _ (List.mem_iff_getElem?.mpr ⟨s, by rw [List.getElem?_set_self (by rw [hDl]; exact hsD)]⟩) at' be ?_)
      rw [List.append_assoc, List.getElem?_append_right (by rw [List.length_take, List.length_map]; omega), List.length_take, List.length_map, Nat.min_eq_left hat1, Nat.sub_self]; rfl
    clear f18 eq17 dl17 dS17 D17 kr17
    walk_at "go"
    refine c_Lerror (err2 so dS18 e18 kr18 hc18 hl18 hh18 no18 fun H19 f19 => ?_)
    have D19 := D18.fr f19 nin0 nin0
    have dl19 := dl18.f0 f19
    have dS19 := Da.fr0 f19 _ _ dS18
    have kr19 := kr18.fr f19.of0
    have e19 := f19.at0 e18
    clear f19 D18 dl18 dS18 kr18 e18
    walk_at "go"
    refine g_iteN (fun z => absurd rfl z) fun _ => ?_
    walk_at "go"
    refine c_Lbad_setup ⟨d, nl, S, rfl, D19, so, dS19, fun v2 b2 H20 kb2 hb2 f20 D20 => ?_⟩
    have dl20 := dl19.fr f20
    have dS20 := Da.frL f20 dS19 (imm_setup S)
    have kr20 := kr19.fr (f20.mono fun a h => by rw [List.mem_singleton.mp h]; simp)
    have e20 := f20.at e19 (nin1 nq1 nin0)
    clear f20 D19 dl19 dS19 kr19 e19
    walk_at "go"
    refine c_Lerror (err1 kb2.da hb2 e20 kr20 hc18 hl18 hh18 fun H21 f21 => ?_)
    have D21 := D20.fr f21 nin0 nin0
    have dl21 := dl20.f0 f21
    have dS21 := Da.fr0 f21 _ _ dS20
    clear f21 D20 dl20 dS20 kr20 e20 kb2 hb2 hc18 hl18 hh18 no18
    walk_at "go"
    refine g_iteN (fun z => absurd rfl z) fun _ => ?_
    walk_at "go"
    refine g_riL (SqL.of dl21.e) ?_
    refine copies T D21 dl21 hD10 fun q2 cs2 H22 f22 eq2 n22 nq2 dr2 nd2 => ?_
    have kr2 : KRows [] H22 cs2 (dataD D) := DsAt.k dr2 fun _ _ => nin0
    have hc2 : cs2.length = D.length := Paired.length dr2
    have dl22 := dl21.f0 f22
    have dS22 := Da.fr0 f22 _ _ dS21
    have D22 := D21.fr f22 nin0 nin0
    clear f22 dl21 dS21 D21 dr2 nd2 nq2 n22
    walk_at "go"
    rename_i b1 H23 n23 f23 e23 b2' H24 n24 f24 e24
    refine g_cat (f24.at0 (f23.at0 eq2)) e24 (szL (by rw [List.length_map]; simp; omega)) fun q3 H25 n25 f25 e25 => ?_
    have F25 := (f23.then0 f24).then0 f25
    have e25' : H25 q3 = some (.lst ((cs2 ++ [b1]).map V.ref)) := by rw [e25, List.map_append]; rfl
    have kr25 : KRows [] H25 (cs2 ++ [b1]) (dataD D ++ [[]]) := Paired.snoc (kr2.fr F25) ⟨nin0, [], (f24.then0 f25).at0 e23, .nil⟩
    walk_at "go"
    refine c_Lerror (err2 so (Da.fr0 F25 _ _ dS22) e25' kr25 (by rw [List.length_append]; simp; omega) (fun ds hds => ?_) (fun ds hds e he => ?_) (fun h => ?_) fun H26 f26 => ?_)
    · rcases List.mem_append.mp hds with h | h
      · exact hl4 ds h
      · rw [List.mem_singleton.mp h]; exact Nat.zero_le _
    · rcases List.mem_append.mp hds with h | h
      · exact hd_rows ds h e he
      · rw [List.mem_singleton.mp h] at he; cases he
    · have := h.1
      rw [List.length_append, hDl] at this
      simp only [List.length_cons, List.length_nil] at this
      omega
    have F26 := F25.then0 f26
    have D26 := D22.fr F26 nin0 nin0
    have dl26 := dl22.f0 F26
    have dS26 := Da.fr0 F26 _ _ dS22
    have kr26 := kr2.fr F26
    have eq26 := F26.at0 eq2
    clear f23 f24 f25 f26 F25 F26 e23 e24 e25 e25' kr25 n23 n24 n25 D22 dl22 dS22 kr2 eq2
    walk_at "go"
    refine g_iteN (fun z => absurd rfl z) fun _ => ?_
    walk_at "go"
    rename_i q4 H27 n27 f27 e27
    rw [show cutV (cs2.map V.ref) (some 1) none = (cs2.drop 1).map V.ref from by rw [show (some (1 : Int)) = some (((1 : Nat) : Int)) from rfl, cut_dropL (by rw [List.length_map]; omega), List.map_drop]] at e27
    have kr27 : KRows [] H27 (cs2.drop 1) ((dataD D).drop 1) := Paired.dropP 1 (kr26.fr f27)
    refine c_Lerror (err2 so (Da.fr0 f27 _ _ dS26) e27 kr27 (by rw [List.length_drop]; omega) (fun ds hds => hl4 ds (List.mem_of_mem_drop hds)) (fun ds hds => hd_rows ds (List.mem_of_mem_drop hds)) (fun h => ?_) fun H28 f28 => ?_)
    · have := h.1
      rw [List.length_drop, hDl] at this
      omega
    have F28 := f27.then0 f28
    have D28 := D26.fr F28 nin0 nin0
    have dl28 := dl26.f0 F28
    have dS28 := Da.fr0 F28 _ _ dS26
    clear f27 f28 F28 e27 kr27 n27 D26 dl26 dS26 kr26 eq26
    walk_at "go"
    refine g_iteN (fun z => absurd rfl z) fun _ => ?_
    walk_at "go"
    rename_i b3 H29 n29 f29 e29 b4 H30 n30 f30 e30
    refine g_rep e30 ⟨by decide, by decide⟩ (Nat.le_of_ble_eq_true rfl) fun q5 H31 n31 f31 e31 => ?_
    rw [show (5 : Int).toNat = 5 from rfl, flat1] at e31
    have F31 := (f29.then0 f30).then0 f31
    have e31' : H31 q5 = some (.lst ((List.replicate 5 b3).map V.ref)) := by rw [e31, List.map_replicate]
    have kr31 : KRows [] H31 (List.replicate 5 b3) (List.replicate 5 []) := by
      have one : b3 ∉ ([] : List Addr) ∧ ∃ vs, H31 b3 = some (.lst vs) ∧ KDL [] H31 vs [] := ⟨nin0, [], (f30.then0 f31).at0 e29, .nil⟩
      exact .cons one (.cons one (.cons one (.cons one (.cons one .nil))))
    walk_at "go"
    refine c_Lerror (err2 so (Da.fr0 F31 _ _ dS28) e31' kr31 (by simp) (fun ds hds => by rw [List.eq_of_mem_replicate hds]; exact Nat.zero_le _) (fun ds hds e he => by rw [List.eq_of_mem_replicate hds] at he; cases he) (fun h => ?_) fun H32 f32 => ?_)
    · have := h.1
      rw [List.length_replicate] at this
      omega
    have F32 := F31.then0 f32
    walk_at "go"
    refine g_iteN (fun z => absurd rfl z) fun _ => ?_
    walk_at "go"
    exact ⟨_, _, _, _, _, _, _, _, rfl, D28.fr F32 nin0 nin0, fun _ => ⟨S, _, R, rs, D, rfl, rfl, so, Da.fr0 F32 _ _ dS28, dl28.f0 F32, hD, hg⟩⟩
  · rintro σ H1 ⟨v2, v3, v4, v5, v6, v7, v8, v10, rfl, D1, h⟩
    obtain ⟨S, sv, R, rs, D, rfl, rfl, so, dS, dl, hD, hg⟩ := h (by decide)
    have hs1 := so.s1
    have hs2 := so.s2
    have hrs : rs.length = D.length := Paired.length dl.ds
    have hgr := good_rows hD fun r hr => (hg r hr).1
    walk_at "go"
    refine g_mkX ?_
    walk_at "go"
    refine g_rmkX fun x dx H2 nx nxd xne f2 e2 e2d => ?_
    have dl2 := dl.f0 f2
    refine c_World_init ⟨x, dx, R, setupD S, rs, dataD D, rfl, e2, Da.fr0 f2 _ _ dS, rfl, dl2.e, (DsAt.k (L := []) dl2.ds fun _ _ => nin0).at, by omega, fun ds hds => ?_, hd_rows, fun hs H' f => ?_, fun S' so' hd => ?_⟩
    · obtain ⟨r, hr, rfl⟩ := List.mem_map.mp hds
      rw [List.length_map]; have := (hg r hr).2; omega
    · rw [set_ok so] at hs; cases hs
    cases setupD_inj hd
    refine ⟨fun hno => absurd hgr hno, fun D' _ hDD hok w H3 hp f3 hn xw => ⟨rfl, ?_⟩⟩
    have F3 := f2.own1 f3 nx
    have dS3 := Da.fr0 F3 _ _ dS
    clear f2 f3 e2 e2d dl2 dl dS D1
    subst hp
    obtain ⟨dxw, svw, ew, _⟩ := xw.pc .self
    walk_at "go"
    refine c_World_settle ⟨w, S, D', rfl, xw, so, hok.1, fun H4 x4 => ?_⟩
    obtain ⟨w4, ep, f4, n4, y4⟩ := x4
    obtain ⟨dx4, sv4, e4, dS4⟩ := y4.pc .self
    rw [ep] at e4
    obtain ⟨_, vn, en, dn⟩ := y4.pc .net
    obtain ⟨_, vh, eh, dh⟩ := y4.pc .hist
    obtain ⟨_, vd, ed, dd⟩ := y4.pc .down
    obtain ⟨⟨dxh, rdv, ehh, hc⟩, _⟩ := y4.pc .house
    have est := hc.st
    have dS4' := Da.frL f4 dS3 (imm_setup S)
    obtain ⟨sp, r, pp, prs, sa⟩ := SetAt.of dS4'
    cases sa.e
    have es4 := sa.t
    have er4 := sa.r
    clear sa xw ew f4 n4 y4 dS3 dS4 dS4' hc F3
    cases dn
    cases dh
    walk_at "go"
    refine ⟨true, true, rfl, rfl, ?_⟩
    walk_at "go"
    refine g_iteN (fun z => absurd rfl z) fun _ => ?_
    walk_at "go"
    refine g_ite (fun z => absurd z (by decide)) fun _ => ?_
    walk_at "go"
    rename_i b1 H5 n5 f5 e5
    have rep1 : (List.replicate (S.sellers + 1).toNat [V.bl false]).flatten = List.replicate (S.sellers + 1).toNat (V.bl false) := flat1 _ _
    refine g_rep e5 ⟨by omega, by omega⟩ (by simp; omega) fun q6 H6 n6 f6 e6 => ?_
    have hn1 : (S.sellers + 1).toNat = S.sellers.toNat + 1 := toNat_succ (by omega)
    rw [rep1, hn1] at e6
    have F6 := f5.then0 f6
    have hdl : vd.length ≤ 10 := by rw [dd.len]; show ((List.replicate (S.sellers.toNat + 1) false).map PyData.bool).length ≤ 10; rw [List.length_map, List.length_replicate]; omega
    have dd2 : DaL H4 vd (List.replicate (S.sellers.toNat + 1) (.bool false)) := by
      have : (List.replicate (S.sellers.toNat + 1) false).map PyData.bool = List.replicate (S.sellers.toNat + 1) (.bool false) := List.map_replicate
      rw [← this]; exact dd
    walk_at "go"
    refine c_Lequal ⟨.list (List.replicate (S.sellers.toNat + 1) (.bool false)), .lst (F6.at0 ed) (by omega) (DaL.fr0 F6 _ _ dd2), .lst e6 (by rw [List.length_replicate]; omega) (repDa (.bl false) _), ?_, ?_⟩
    · show dpL _ + 1 ≤ 12
      have : dpL (List.replicate (S.sellers.toNat + 1) (PyData.bool false)) ≤ 0 := dpL_le fun x hx => by rw [List.eq_of_mem_replicate hx]; exact Nat.le_refl _
      omega
    have e46 := F6.at0 e4
    have ehh6 := F6.at0 ehh
    have est6 := F6.at0 est
    have es6 := F6.tup _ _ es4
    have er6 := F6.tup _ _ er4
    clear f5 f6 F6 e4 ehh est es4 er4 e5 e6 n5 n6
    walk_at "go"
    rename_i t7 H7 n7 f7 e7
    have ck0 : CellOk S (0, 0) := ⟨Int.le_refl _, by have := so.k1; show (0 : Int) < S.rooms.length; omega, Int.le_refl _, by have := so.n1; show (0 : Int) < S.nights; omega⟩
    refine g_stG (c := (0, 0)) so ck0 (f7.at0 est6) e7 ?_
    walk_at "go"
    refine g_ixT (SqT.of (f7.tup _ _ er6)) (rmC_at (S := S) (n := 0) (Int.le_refl _) ck0.2.1) ?_
    walk_at "go"
    refine c_Lequal ⟨.int (rmC S (0, 0)), .int _, .int _, by simp [dp], ?_⟩
    walk_at "go"
    exact k _
theorem ok_law {f : Addr} {fd : FuncData} (F : Fun K "law" "law" s_law f fd) (T : Txt K mg A) (c_World_init : CalCX P w K mg base "World" A.World 7 ["self", "setup", "deeds"] (sp_World_init K A)) (c_Lnumbers : Cal P w K mg base "_law_numbers" 2 ["_law_script"] (sp_Lnumbers K A)) (c_Lsetup : Cal P w K mg base "_law_setup" 3 ["_law_draws"] (sp_Lsetup K A)) (c_Ldeeds : Cal P w K mg base "_law_deeds" 5 ["_law_draws", "_law_setup_here", "_law_most"] (sp_Ldeeds K A)) (c_Lequal : Cal P w K mg base "_law_equal" 25 ["_law_actual", "_law_due"] (sp_Lequal K A 12)) (c_Lerror : Cal P w K mg base "_law_error" 9 ["_law_setup_here", "_law_deeds_here"] (sp_Lerror K A)) (c_Ldraw : Cal P w K mg base "_law_draw" 2 ["_law_draws"] (sp_Ldraw K A)) (c_World_settle : CalM P w K mg base A.World "settle" 3 ["self"] (sp_World_settle K A)) (c_Lbad_setup : Cal P w K mg base "_law_bad_setup" 3 ["_law_draws", "_law_setup_here"] (sp_Lbad_setup K A)) (c_Lbad_deed : Cal P w K mg base "_law_bad_deed" 5 ["_law_draws", "_law_setup_here", "_law_number"] (sp_Lbad_deed K A)) : FnOk P w K mg base CX0 (26) f fd ["_law_script"] (sp_law K A) := by
  refine F.ok sc_law (fun vs H Q E h => ?_) (fun cdv Ar outer s H vs Q E hr h => ⟨t_law K A, ?_, ?_⟩)
  · obtain ⟨x0, rfl, _⟩ := h
    rfl
  · have hu := hu_of hr
    exact (pss_cons (ps_set (i := 1) sc_law.nd rfl (Or.inl rfl) (pe_lst (pa_cons (pe_cl c_Lnumbers (hr.mono (by first | decide | omega)) (by rfl) (pa_cons (pv 0) pa_nil)) (pa_cons pe_int pa_nil))))
    (pss_cons (ps_for PassesOwn.never rfl (pi_range1 rfl T.b_range (pa_cons pe_int pa_nil)) (pg_name (i := 2) sc_law.nd rfl (Or.inl rfl)) (pss_cons (ps_set (i := 3) sc_law.nd rfl (Or.inl rfl) (pe_cl c_Lsetup (hr.mono (by first | decide | omega)) (by rfl) (pa_cons (pv 1) pa_nil)))
    (pss_cons (ps_set (i := 4) sc_law.nd rfl (Or.inl rfl) (pe_cl c_Ldeeds (hr.mono (by first | decide | omega)) (by rfl) (pa_cons (pv 1) (pa_cons (pv 3) (pa_cons pe_int pa_nil)))))
    (pss_cons (ps_if (pt_cmpR op_ne (pe_cl c_Lerror (hr.mono (by first | decide | omega)) (by rfl) (pa_cons (pv 3) (pa_cons (pe_lc (own := [("_law_row", 10)]) (g := (gName 10)) (tt := tYes) rfl sc_law.nd (pi_list (pv 4)) (blkOk_by (N := ["_law_script", "_law_draws", "_law_turn", "_law_setup_here", "_law_deeds_here", "_law_s", "_law_at", "_law_wrong", "_law_lists", "_law_world", "_law_row"]) (sc := defScope s_law) (own := [("_law_row", 10)]) (by decide +kernel)) (fun _ _ _ _ _ => (pg_name (i := 10) sc_law.nd rfl (Or.inl rfl))) (fun _ _ _ _ _ => pts_nil) (fun _ _ _ _ _ => (pe_callTy b_list (by rfl) T.b_list (by decide +kernel) (pa_cons (pv 10) pa_nil)))) pa_nil))) pe_int (nomark _)) (pss_one (ps_ret pe_bl)) pss_nil)
    (pss_cons (ps_if (pt_cmpR op_ne (pe_cl c_Lerror (hr.mono (by first | decide | omega)) (by rfl) (pa_cons (pe_cl c_Lbad_setup (hr.mono (by first | decide | omega)) (by rfl) (pa_cons (pv 1) (pa_cons (pv 3) pa_nil))) (pa_cons (pe_lc (own := [("_law_row", 10)]) (g := (gName 10)) (tt := tYes) rfl sc_law.nd (pi_list (pv 4)) (blkOk_by (N := ["_law_script", "_law_draws", "_law_turn", "_law_setup_here", "_law_deeds_here", "_law_s", "_law_at", "_law_wrong", "_law_lists", "_law_world", "_law_row"]) (sc := defScope s_law) (own := [("_law_row", 10)]) (by decide +kernel)) (fun _ _ _ _ _ => (pg_name (i := 10) sc_law.nd rfl (Or.inl rfl))) (fun _ _ _ _ _ => pts_nil) (fun _ _ _ _ _ => (pe_callTy b_list (by rfl) T.b_list (by decide +kernel) (pa_cons (pv 10) pa_nil)))) pa_nil))) pe_int (nomark _)) (pss_one (ps_ret pe_bl)) pss_nil)
    (pss_cons (ps_set (i := 5) sc_law.nd rfl (Or.inl rfl) (pe_op o_mod (pe_cl c_Ldraw (hr.mono (by first | decide | omega)) (by rfl) (pa_cons (pv 1) pa_nil)) (pe_ix ix_tup (pv 3) pe_int (fun _ _ => rfl))))
    (pss_cons (ps_set (i := 6) sc_law.nd rfl (Or.inl rfl) (pe_op o_mod (pe_cl c_Ldraw (hr.mono (by first | decide | omega)) (by rfl) (pa_cons (pv 1) pa_nil)) (pe_op o_add (pe_callB b_len (by rfl) T.b_len (by decide +kernel) (pa_cons (pe_ix ix_list (pv 4) (pv 5) (fun _ _ => rfl)) pa_nil)) pe_int)))
    (pss_cons (ps_setLc (i := 7) (own := [("_law_row", 10)]) (g := (gName 10)) (tt := tYes) rfl sc_law.nd rfl rfl (sw_true rfl rfl rfl (by decide +kernel)) (pi_list (pv 4)) (blkOk_by (N := ["_law_script", "_law_draws", "_law_turn", "_law_setup_here", "_law_deeds_here", "_law_s", "_law_at", "_law_wrong", "_law_lists", "_law_world", "_law_row"]) (sc := defScope s_law) (own := [("_law_row", 10)]) (by decide +kernel)) (fun _ _ _ _ _ => (pg_name (i := 10) sc_law.nd rfl (Or.inl rfl))) (fun _ _ _ _ _ => pts_nil) (fun _ _ _ _ _ => (pe_callTy b_list (by rfl) T.b_list (by decide +kernel) (pa_cons (pv 10) pa_nil))))
    (pss_cons (ps_asg (pe_op op_cat (pe_op op_cat (pe_slice sl_list (pe_ix ix_list (pv 4) (pv 5) (fun _ _ => rfl)) po_none (po_some (pv 6))) (pe_lst (pa_cons (pe_cl c_Lbad_deed (hr.mono (by first | decide | omega)) (by rfl) (pa_cons (pv 1) (pa_cons (pv 3) (pa_cons (pv 6) pa_nil)))) pa_nil))) (pe_slice sl_list (pe_ix ix_list (pv 4) (pv 5) (fun _ _ => rfl)) (po_some (pv 6)) po_none)) (pg_sub (pv 7) (pv 5) set_list))
    (pss_cons (ps_if (PW.pt (pw_or (pt_cmpR op_ne (pe_cl c_Lerror (hr.mono (by first | decide | omega)) (by rfl) (pa_cons (pv 3) (pa_cons (pv 7) pa_nil))) pe_int (nomark _)) (pw_or1 (pt_cmpR op_ne (pe_cl c_Lerror (hr.mono (by first | decide | omega)) (by rfl) (pa_cons (pe_cl c_Lbad_setup (hr.mono (by first | decide | omega)) (by rfl) (pa_cons (pv 1) (pa_cons (pv 3) pa_nil))) (pa_cons (pv 7) pa_nil))) pe_int (nomark _))))) (pss_one (ps_ret pe_bl)) pss_nil)
    (pss_cons (ps_setLc (i := 8) (own := [("_law_row", 10)]) (g := (gName 10)) (tt := tYes) rfl sc_law.nd rfl rfl (sw_true rfl rfl rfl (by decide +kernel)) (pi_list (pv 4)) (blkOk_by (N := ["_law_script", "_law_draws", "_law_turn", "_law_setup_here", "_law_deeds_here", "_law_s", "_law_at", "_law_wrong", "_law_lists", "_law_world", "_law_row"]) (sc := defScope s_law) (own := [("_law_row", 10)]) (by decide +kernel)) (fun _ _ _ _ _ => (pg_name (i := 10) sc_law.nd rfl (Or.inl rfl))) (fun _ _ _ _ _ => pts_nil) (fun _ _ _ _ _ => (pe_callTy b_list (by rfl) T.b_list (by decide +kernel) (pa_cons (pv 10) pa_nil))))
    (pss_one (ps_if (PW.pt (pw_or (pt_cmpR op_ne (pe_cl c_Lerror (hr.mono (by first | decide | omega)) (by rfl) (pa_cons (pv 3) (pa_cons (pe_op op_cat (pv 8) (pe_lst (pa_cons (pe_lst pa_nil) pa_nil))) pa_nil))) pe_int (nomark _)) (pw_or (pt_cmpR op_ne (pe_cl c_Lerror (hr.mono (by first | decide | omega)) (by rfl) (pa_cons (pv 3) (pa_cons (pe_slice sl_list (pv 8) (po_some pe_int) po_none) pa_nil))) pe_int (nomark _)) (pw_or1 (pt_cmpR op_ne (pe_cl c_Lerror (hr.mono (by first | decide | omega)) (by rfl) (pa_cons (pv 3) (pa_cons (pe_op op_rep (pe_lst (pa_cons (pe_lst pa_nil) pa_nil)) pe_int) pa_nil))) pe_int (nomark _)))))) (pss_one (ps_ret pe_bl)) pss_nil)))))))))))))
    (pss_cons (ps_set (i := 9) sc_law.nd rfl (Or.inl rfl) (pe_mkX c_World_init (hr.mono (by first | decide | omega)) (by rfl) takes_none5 (pa_cons (pv 3) (pa_cons (pv 4) pa_nil))))
    (pss_cons (ps_if (PW.pt (pw_or (pt_cmpR op_notBl (pe_mt0 (pv 9) T.cl_World c_World_settle (hr.mono (by first | decide | omega))) pe_bl (nomark _)) (pw_or1 (pt_cmpR c_gt (pe_op o_add (pe_callB b_len (by rfl) T.b_len (by decide +kernel) (pa_cons (pe_fld (pv 9) rfl) pa_nil)) (pe_callB b_len (by rfl) T.b_len (by decide +kernel) (pa_cons (pe_fld (pv 9) rfl) pa_nil))) pe_int (nomark _))))) (pss_one (ps_ret pe_bl)) pss_nil)
    (pss_one (ps_ret (pe_and (pe_cl c_Lequal (hr.mono (by first | decide | omega)) (by rfl) (pa_cons (pe_fld (pv 9) rfl) (pa_cons (pe_op op_rep (pe_lst (pa_cons pe_bl pa_nil)) (pe_op o_add (pe_ix ix_tup (pv 3) pe_int (fun _ _ => rfl)) pe_int)) pa_nil))) (pe_one (pe_cl c_Lequal (hr.mono (by first | decide | omega)) (by rfl) (pa_cons (pe_dget hu (pe_fld (pe_fld (pv 9) rfl) rfl) (pe_tup (pa_cons pe_int (pa_cons pe_int pa_nil))) (fun _ _ => rfl)) (pa_cons (pe_ix ix_tup (pe_ix ix_tup (pv 3) pe_int (fun _ _ => rfl)) pe_int (fun _ _ => rfl)) pa_nil)))))))))))
  · obtain ⟨x0, rfl, h⟩ := h
    exact pu_law T h


end
/-! ### what the top has written -/
theorem all_mk {l : PySem.W.OpenLaw} {w : World} {K : PySem.W.Frag} {h : Heap} {mg : Str → Option Value} {fa : Addr} (X : K.In h) (G : h.Ns mainGlobals mg) (hfa : mg "law" = some (.ref fa))
    {f1 : Addr} {od1 an1 : Option Addr} {sl1 : Array (Option Value)} {oc1 kV1 dc1 pm1 cd1 ct1 : Value}
    {f2 : Addr} {od2 an2 : Option Addr} {sl2 : Array (Option Value)} {oc2 kV2 dc2 pm2 cd2 ct2 : Value}
    {f3 : Addr} {od3 an3 : Option Addr} {sl3 : Array (Option Value)} {oc3 kV3 dc3 pm3 cd3 ct3 : Value}
    {f4 : Addr} {od4 an4 : Option Addr} {sl4 : Array (Option Value)} {oc4 kV4 dc4 pm4 cd4 ct4 : Value}
    {f5 : Addr} {od5 an5 : Option Addr} {sl5 : Array (Option Value)} {oc5 kV5 dc5 pm5 cd5 ct5 : Value}
    {f6 : Addr} {od6 an6 : Option Addr} {sl6 : Array (Option Value)} {oc6 kV6 dc6 pm6 cd6 ct6 : Value}
    {f7 : Addr} {od7 an7 : Option Addr} {sl7 : Array (Option Value)} {oc7 kV7 dc7 pm7 cd7 ct7 : Value}
    {f8 : Addr} {od8 an8 : Option Addr} {sl8 : Array (Option Value)} {oc8 kV8 dc8 pm8 cd8 ct8 : Value}
    {f9 : Addr} {od9 an9 : Option Addr} {sl9 : Array (Option Value)} {oc9 kV9 dc9 pm9 cd9 ct9 : Value}
    {f10 : Addr} {od10 an10 : Option Addr} {sl10 : Array (Option Value)} {oc10 kV10 dc10 pm10 cd10 ct10 : Value}
    {f11 : Addr} {od11 an11 : Option Addr} {sl11 : Array (Option Value)} {oc11 kV11 dc11 pm11 cd11 ct11 : Value}
    {f12 : Addr} {od12 an12 : Option Addr} {sl12 : Array (Option Value)} {oc12 kV12 dc12 pm12 cd12 ct12 : Value}
    {f13 : Addr} {od13 an13 : Option Addr} {sl13 : Array (Option Value)} {oc13 kV13 dc13 pm13 cd13 ct13 : Value}
    {f14 : Addr} {od14 an14 : Option Addr} {sl14 : Array (Option Value)} {oc14 kV14 dc14 pm14 cd14 ct14 : Value}
    {f15 : Addr} {od15 an15 : Option Addr} {sl15 : Array (Option Value)} {oc15 kV15 dc15 pm15 cd15 ct15 : Value}
    {f16 : Addr} {od16 an16 : Option Addr} {sl16 : Array (Option Value)} {oc16 kV16 dc16 pm16 cd16 ct16 : Value}
    {f17 : Addr} {od17 an17 : Option Addr} {sl17 : Array (Option Value)} {oc17 kV17 dc17 pm17 cd17 ct17 : Value}
    {f18 : Addr} {od18 an18 : Option Addr} {sl18 : Array (Option Value)} {oc18 kV18 dc18 pm18 cd18 ct18 : Value}
    {f19 : Addr} {od19 an19 : Option Addr} {sl19 : Array (Option Value)} {oc19 kV19 dc19 pm19 cd19 ct19 : Value}
    {f20 : Addr} {od20 an20 : Option Addr} {sl20 : Array (Option Value)} {oc20 kV20 dc20 pm20 cd20 ct20 : Value}
    {f21 : Addr} {od21 an21 : Option Addr} {sl21 : Array (Option Value)} {oc21 kV21 dc21 pm21 cd21 ct21 : Value}
    {f22 : Addr} {od22 an22 : Option Addr} {sl22 : Array (Option Value)} {oc22 kV22 dc22 pm22 cd22 ct22 : Value}
    {f23 : Addr} {od23 an23 : Option Addr} {sl23 : Array (Option Value)} {oc23 kV23 dc23 pm23 cd23 ct23 : Value}
    {f24 : Addr} {od24 an24 : Option Addr} {sl24 : Array (Option Value)} {oc24 kV24 dc24 pm24 cd24 ct24 : Value}
    {f25 : Addr} {od25 an25 : Option Addr} {sl25 : Array (Option Value)} {oc25 kV25 dc25 pm25 cd25 ct25 : Value}
    {f26 : Addr} {od26 an26 : Option Addr} {sl26 : Array (Option Value)} {oc26 kV26 dc26 pm26 cd26 ct26 : Value}
    {f27 : Addr} {od27 an27 : Option Addr} {sl27 : Array (Option Value)} {oc27 kV27 dc27 pm27 cd27 ct27 : Value}
    {f28 : Addr} {od28 an28 : Option Addr} {sl28 : Array (Option Value)} {oc28 kV28 dc28 pm28 cd28 ct28 : Value}
    {f29 : Addr} {od29 an29 : Option Addr} {sl29 : Array (Option Value)} {oc29 kV29 dc29 pm29 cd29 ct29 : Value}
    {f30 : Addr} {od30 an30 : Option Addr} {sl30 : Array (Option Value)} {oc30 kV30 dc30 pm30 cd30 ct30 : Value}
    {f31 : Addr} {od31 an31 : Option Addr} {sl31 : Array (Option Value)} {oc31 kV31 dc31 pm31 cd31 ct31 : Value}
    {f32 : Addr} {od32 an32 : Option Addr} {sl32 : Array (Option Value)} {oc32 kV32 dc32 pm32 cd32 ct32 : Value}
    {f33 : Addr} {od33 an33 : Option Addr} {sl33 : Array (Option Value)} {oc33 kV33 dc33 pm33 cd33 ct33 : Value}
    {C_House : Addr}
    {C_Seller : Addr}
    {C_Wire : Addr}
    {C_World : Addr}
    {C_ManydoorsError : Addr}
    {C_BadSetup : Addr}
    {C_BadDeed : Addr}
    {tk_DEAREST : Tok}
    {tk_KINDS : Tok}
    {tk_NIGHTS : Tok}
    {tk_SELLERS : Tok}
    {tk_ROOMS : Tok}
    {tk_PARTY : Tok}
    {tk_HOUSE : Tok}
    {tk_ROUNDS : Tok}
    (aC_House : PySem.W.nsIn K mainGlobals "House" = some (some (.ref C_House)))
    (aC_Seller : PySem.W.nsIn K mainGlobals "Seller" = some (some (.ref C_Seller)))
    (aC_Wire : PySem.W.nsIn K mainGlobals "Wire" = some (some (.ref C_Wire)))
    (aC_World : PySem.W.nsIn K mainGlobals "World" = some (some (.ref C_World)))
    (a1 : PySem.W.nsIn K mainGlobals "is_integer" = some (some (.ref f1)))
    (l1 : K.lookup f1 = some ⟨oc1, od1, .func (PySem.W.fnOf "is_integer" "is_integer" (defArgs s_is_integer) (defBody s_is_integer) (defScope s_is_integer) .none kV1 dc1 pm1 an1 cd1 ct1), sl1⟩)
    (c1 : PySem.W.codeIn K cd1 "is_integer" = true)
    (k1 : PySem.W.keepIn K (.ref f1) = true)
    (a2 : PySem.W.nsIn K mainGlobals "is_from" = some (some (.ref f2)))
    (l2 : K.lookup f2 = some ⟨oc2, od2, .func (PySem.W.fnOf "is_from" "is_from" (defArgs s_is_from) (defBody s_is_from) (defScope s_is_from) .none kV2 dc2 pm2 an2 cd2 ct2), sl2⟩)
    (c2 : PySem.W.codeIn K cd2 "is_from" = true)
    (k2 : PySem.W.keepIn K (.ref f2) = true)
    (a3 : PySem.W.nsIn K mainGlobals "are_prices" = some (some (.ref f3)))
    (l3 : K.lookup f3 = some ⟨oc3, od3, .func (PySem.W.fnOf "are_prices" "are_prices" (defArgs s_are_prices) (defBody s_are_prices) (defScope s_are_prices) .none kV3 dc3 pm3 an3 cd3 ct3), sl3⟩)
    (c3 : PySem.W.codeIn K cd3 "are_prices" = true)
    (k3 : PySem.W.keepIn K (.ref f3) = true)
    (a4 : PySem.W.nsIn K mainGlobals "check_setup" = some (some (.ref f4)))
    (l4 : K.lookup f4 = some ⟨oc4, od4, .func (PySem.W.fnOf "check_setup" "check_setup" (defArgs s_check_setup) (defBody s_check_setup) (defScope s_check_setup) .none kV4 dc4 pm4 an4 cd4 ct4), sl4⟩)
    (c4 : PySem.W.codeIn K cd4 "check_setup" = true)
    (k4 : PySem.W.keepIn K (.ref f4) = true)
    (a5 : PySem.W.nsIn K mainGlobals "is_stay" = some (some (.ref f5)))
    (l5 : K.lookup f5 = some ⟨oc5, od5, .func (PySem.W.fnOf "is_stay" "is_stay" (defArgs s_is_stay) (defBody s_is_stay) (defScope s_is_stay) .none kV5 dc5 pm5 an5 cd5 ct5), sl5⟩)
    (c5 : PySem.W.codeIn K cd5 "is_stay" = true)
    (k5 : PySem.W.keepIn K (.ref f5) = true)
    (a6 : PySem.W.nsIn K mainGlobals "is_party" = some (some (.ref f6)))
    (l6 : K.lookup f6 = some ⟨oc6, od6, .func (PySem.W.fnOf "is_party" "is_party" (defArgs s_is_party) (defBody s_is_party) (defScope s_is_party) .none kV6 dc6 pm6 an6 cd6 ct6), sl6⟩)
    (c6 : PySem.W.codeIn K cd6 "is_party" = true)
    (k6 : PySem.W.keepIn K (.ref f6) = true)
    (a7 : PySem.W.nsIn K mainGlobals "is_deed" = some (some (.ref f7)))
    (l7 : K.lookup f7 = some ⟨oc7, od7, .func (PySem.W.fnOf "is_deed" "is_deed" (defArgs s_is_deed) (defBody s_is_deed) (defScope s_is_deed) .none kV7 dc7 pm7 an7 cd7 ct7), sl7⟩)
    (c7 : PySem.W.codeIn K cd7 "is_deed" = true)
    (k7 : PySem.W.keepIn K (.ref f7) = true)
    (a8 : PySem.W.nsIn K mainGlobals "check_deed" = some (some (.ref f8)))
    (l8 : K.lookup f8 = some ⟨oc8, od8, .func (PySem.W.fnOf "check_deed" "check_deed" (defArgs s_check_deed) (defBody s_check_deed) (defScope s_check_deed) .none kV8 dc8 pm8 an8 cd8 ct8), sl8⟩)
    (c8 : PySem.W.codeIn K cd8 "check_deed" = true)
    (k8 : PySem.W.keepIn K (.ref f8) = true)
    (a9 : PySem.W.findIn K (.ref C_House) "__init__" = some (some (.ref f9)))
    (i9 : PySem.W.isFn K (.ref f9) = true)
    (l9 : K.lookup f9 = some ⟨oc9, od9, .func (PySem.W.fnOf "__init__" "House.__init__" (defArgs s_House_init) (defBody s_House_init) (defScope s_House_init) .none kV9 dc9 pm9 an9 cd9 ct9), sl9⟩)
    (c9 : PySem.W.codeIn K cd9 "House.__init__" = true)
    (k9 : PySem.W.keepIn K (.ref f9) = true)
    (a10 : PySem.W.findIn K (.ref C_Seller) "__init__" = some (some (.ref f10)))
    (i10 : PySem.W.isFn K (.ref f10) = true)
    (l10 : K.lookup f10 = some ⟨oc10, od10, .func (PySem.W.fnOf "__init__" "Seller.__init__" (defArgs s_Seller_init) (defBody s_Seller_init) (defScope s_Seller_init) .none kV10 dc10 pm10 an10 cd10 ct10), sl10⟩)
    (c10 : PySem.W.codeIn K cd10 "Seller.__init__" = true)
    (k10 : PySem.W.keepIn K (.ref f10) = true)
    (a11 : PySem.W.findIn K (.ref C_Wire) "__init__" = some (some (.ref f11)))
    (i11 : PySem.W.isFn K (.ref f11) = true)
    (l11 : K.lookup f11 = some ⟨oc11, od11, .func (PySem.W.fnOf "__init__" "Wire.__init__" (defArgs s_Wire_init) (defBody s_Wire_init) (defScope s_Wire_init) .none kV11 dc11 pm11 an11 cd11 ct11), sl11⟩)
    (c11 : PySem.W.codeIn K cd11 "Wire.__init__" = true)
    (k11 : PySem.W.keepIn K (.ref f11) = true)
    (a12 : PySem.W.findIn K (.ref C_World) "put" = some (some (.ref f12)))
    (i12 : PySem.W.isFn K (.ref f12) = true)
    (l12 : K.lookup f12 = some ⟨oc12, od12, .func (PySem.W.fnOf "put" "World.put" (defArgs s_World_put) (defBody s_World_put) (defScope s_World_put) .none kV12 dc12 pm12 an12 cd12 ct12), sl12⟩)
    (c12 : PySem.W.codeIn K cd12 "World.put" = true)
    (k12 : PySem.W.keepIn K (.ref f12) = true)
    (a13 : PySem.W.findIn K (.ref C_World) "deliver" = some (some (.ref f13)))
    (i13 : PySem.W.isFn K (.ref f13) = true)
    (l13 : K.lookup f13 = some ⟨oc13, od13, .func (PySem.W.fnOf "deliver" "World.deliver" (defArgs s_World_deliver) (defBody s_World_deliver) (defScope s_World_deliver) .none kV13 dc13 pm13 an13 cd13 ct13), sl13⟩)
    (c13 : PySem.W.codeIn K cd13 "World.deliver" = true)
    (k13 : PySem.W.keepIn K (.ref f13) = true)
    (a14 : PySem.W.findIn K (.ref C_World) "wire_of" = some (some (.ref f14)))
    (i14 : PySem.W.isFn K (.ref f14) = true)
    (l14 : K.lookup f14 = some ⟨oc14, od14, .func (PySem.W.fnOf "wire_of" "World.wire_of" (defArgs s_World_wire_of) (defBody s_World_wire_of) (defScope s_World_wire_of) .none kV14 dc14 pm14 an14 cd14 ct14), sl14⟩)
    (c14 : PySem.W.codeIn K cd14 "World.wire_of" = true)
    (k14 : PySem.W.keepIn K (.ref f14) = true)
    (a15 : PySem.W.findIn K (.ref C_World) "tick" = some (some (.ref f15)))
    (i15 : PySem.W.isFn K (.ref f15) = true)
    (l15 : K.lookup f15 = some ⟨oc15, od15, .func (PySem.W.fnOf "tick" "World.tick" (defArgs s_World_tick) (defBody s_World_tick) (defScope s_World_tick) .none kV15 dc15 pm15 an15 cd15 ct15), sl15⟩)
    (c15 : PySem.W.codeIn K cd15 "World.tick" = true)
    (k15 : PySem.W.keepIn K (.ref f15) = true)
    (a16 : PySem.W.findIn K (.ref C_World) "waits" = some (some (.ref f16)))
    (i16 : PySem.W.isFn K (.ref f16) = true)
    (l16 : K.lookup f16 = some ⟨oc16, od16, .func (PySem.W.fnOf "waits" "World.waits" (defArgs s_World_waits) (defBody s_World_waits) (defScope s_World_waits) .none kV16 dc16 pm16 an16 cd16 ct16), sl16⟩)
    (c16 : PySem.W.codeIn K cd16 "World.waits" = true)
    (k16 : PySem.W.keepIn K (.ref f16) = true)
    (a17 : PySem.W.findIn K (.ref C_World) "rise" = some (some (.ref f17)))
    (i17 : PySem.W.isFn K (.ref f17) = true)
    (l17 : K.lookup f17 = some ⟨oc17, od17, .func (PySem.W.fnOf "rise" "World.rise" (defArgs s_World_rise) (defBody s_World_rise) (defScope s_World_rise) .none kV17 dc17 pm17 an17 cd17 ct17), sl17⟩)
    (c17 : PySem.W.codeIn K cd17 "World.rise" = true)
    (k17 : PySem.W.keepIn K (.ref f17) = true)
    (a18 : PySem.W.findIn K (.ref C_World) "settle" = some (some (.ref f18)))
    (i18 : PySem.W.isFn K (.ref f18) = true)
    (l18 : K.lookup f18 = some ⟨oc18, od18, .func (PySem.W.fnOf "settle" "World.settle" (defArgs s_World_settle) (defBody s_World_settle) (defScope s_World_settle) .none kV18 dc18 pm18 an18 cd18 ct18), sl18⟩)
    (c18 : PySem.W.codeIn K cd18 "World.settle" = true)
    (k18 : PySem.W.keepIn K (.ref f18) = true)
    (a19 : PySem.W.findIn K (.ref C_World) "__init__" = some (some (.ref f19)))
    (i19 : PySem.W.isFn K (.ref f19) = true)
    (l19 : K.lookup f19 = some ⟨oc19, od19, .func (PySem.W.fnOf "__init__" "World.__init__" (defArgs s_World_init) (defBody s_World_init) (defScope s_World_init) .none kV19 dc19 pm19 an19 cd19 ct19), sl19⟩)
    (c19 : PySem.W.codeIn K cd19 "World.__init__" = true)
    (k19 : PySem.W.keepIn K (.ref f19) = true)
    (a20 : PySem.W.nsIn K mainGlobals "_law_mixed" = some (some (.ref f20)))
    (l20 : K.lookup f20 = some ⟨oc20, od20, .func (PySem.W.fnOf "_law_mixed" "_law_mixed" (defArgs s_Lmixed) (defBody s_Lmixed) (defScope s_Lmixed) .none kV20 dc20 pm20 an20 cd20 ct20), sl20⟩)
    (c20 : PySem.W.codeIn K cd20 "_law_mixed" = true)
    (k20 : PySem.W.keepIn K (.ref f20) = true)
    (a21 : PySem.W.nsIn K mainGlobals "_law_numbers" = some (some (.ref f21)))
    (l21 : K.lookup f21 = some ⟨oc21, od21, .func (PySem.W.fnOf "_law_numbers" "_law_numbers" (defArgs s_Lnumbers) (defBody s_Lnumbers) (defScope s_Lnumbers) .none kV21 dc21 pm21 an21 cd21 ct21), sl21⟩)
    (c21 : PySem.W.codeIn K cd21 "_law_numbers" = true)
    (k21 : PySem.W.keepIn K (.ref f21) = true)
    (a22 : PySem.W.nsIn K mainGlobals "_law_draw" = some (some (.ref f22)))
    (l22 : K.lookup f22 = some ⟨oc22, od22, .func (PySem.W.fnOf "_law_draw" "_law_draw" (defArgs s_Ldraw) (defBody s_Ldraw) (defScope s_Ldraw) .none kV22 dc22 pm22 an22 cd22 ct22), sl22⟩)
    (c22 : PySem.W.codeIn K cd22 "_law_draw" = true)
    (k22 : PySem.W.keepIn K (.ref f22) = true)
    (a23 : PySem.W.nsIn K mainGlobals "_law_equal" = some (some (.ref f23)))
    (l23 : K.lookup f23 = some ⟨oc23, od23, .func (PySem.W.fnOf "_law_equal" "_law_equal" (defArgs s_Lequal) (defBody s_Lequal) (defScope s_Lequal) .none kV23 dc23 pm23 an23 cd23 ct23), sl23⟩)
    (c23 : PySem.W.codeIn K cd23 "_law_equal" = true)
    (k23 : PySem.W.keepIn K (.ref f23) = true)
    (a24 : PySem.W.nsIn K mainGlobals "_law_all_equal" = some (some (.ref f24)))
    (l24 : K.lookup f24 = some ⟨oc24, od24, .func (PySem.W.fnOf "_law_all_equal" "_law_all_equal" (defArgs s_Lall_equal) (defBody s_Lall_equal) (defScope s_Lall_equal) .none kV24 dc24 pm24 an24 cd24 ct24), sl24⟩)
    (c24 : PySem.W.codeIn K cd24 "_law_all_equal" = true)
    (k24 : PySem.W.keepIn K (.ref f24) = true)
    (a25 : PySem.W.nsIn K mainGlobals "_law_setup" = some (some (.ref f25)))
    (l25 : K.lookup f25 = some ⟨oc25, od25, .func (PySem.W.fnOf "_law_setup" "_law_setup" (defArgs s_Lsetup) (defBody s_Lsetup) (defScope s_Lsetup) .none kV25 dc25 pm25 an25 cd25 ct25), sl25⟩)
    (c25 : PySem.W.codeIn K cd25 "_law_setup" = true)
    (k25 : PySem.W.keepIn K (.ref f25) = true)
    (a26 : PySem.W.nsIn K mainGlobals "_law_stay" = some (some (.ref f26)))
    (l26 : K.lookup f26 = some ⟨oc26, od26, .func (PySem.W.fnOf "_law_stay" "_law_stay" (defArgs s_Lstay) (defBody s_Lstay) (defScope s_Lstay) .none kV26 dc26 pm26 an26 cd26 ct26), sl26⟩)
    (c26 : PySem.W.codeIn K cd26 "_law_stay" = true)
    (k26 : PySem.W.keepIn K (.ref f26) = true)
    (a27 : PySem.W.nsIn K mainGlobals "_law_party" = some (some (.ref f27)))
    (l27 : K.lookup f27 = some ⟨oc27, od27, .func (PySem.W.fnOf "_law_party" "_law_party" (defArgs s_Lparty) (defBody s_Lparty) (defScope s_Lparty) .none kV27 dc27 pm27 an27 cd27 ct27), sl27⟩)
    (c27 : PySem.W.codeIn K cd27 "_law_party" = true)
    (k27 : PySem.W.keepIn K (.ref f27) = true)
    (a28 : PySem.W.nsIn K mainGlobals "_law_deeds" = some (some (.ref f28)))
    (l28 : K.lookup f28 = some ⟨oc28, od28, .func (PySem.W.fnOf "_law_deeds" "_law_deeds" (defArgs s_Ldeeds) (defBody s_Ldeeds) (defScope s_Ldeeds) .none kV28 dc28 pm28 an28 cd28 ct28), sl28⟩)
    (c28 : PySem.W.codeIn K cd28 "_law_deeds" = true)
    (k28 : PySem.W.keepIn K (.ref f28) = true)
    (a29 : PySem.W.nsIn K mainGlobals "_law_bad_setup" = some (some (.ref f29)))
    (l29 : K.lookup f29 = some ⟨oc29, od29, .func (PySem.W.fnOf "_law_bad_setup" "_law_bad_setup" (defArgs s_Lbad_setup) (defBody s_Lbad_setup) (defScope s_Lbad_setup) .none kV29 dc29 pm29 an29 cd29 ct29), sl29⟩)
    (c29 : PySem.W.codeIn K cd29 "_law_bad_setup" = true)
    (k29 : PySem.W.keepIn K (.ref f29) = true)
    (a30 : PySem.W.nsIn K mainGlobals "_law_bad_party" = some (some (.ref f30)))
    (l30 : K.lookup f30 = some ⟨oc30, od30, .func (PySem.W.fnOf "_law_bad_party" "_law_bad_party" (defArgs s_Lbad_party) (defBody s_Lbad_party) (defScope s_Lbad_party) .none kV30 dc30 pm30 an30 cd30 ct30), sl30⟩)
    (c30 : PySem.W.codeIn K cd30 "_law_bad_party" = true)
    (k30 : PySem.W.keepIn K (.ref f30) = true)
    (a31 : PySem.W.nsIn K mainGlobals "_law_bad_deed" = some (some (.ref f31)))
    (l31 : K.lookup f31 = some ⟨oc31, od31, .func (PySem.W.fnOf "_law_bad_deed" "_law_bad_deed" (defArgs s_Lbad_deed) (defBody s_Lbad_deed) (defScope s_Lbad_deed) .none kV31 dc31 pm31 an31 cd31 ct31), sl31⟩)
    (c31 : PySem.W.codeIn K cd31 "_law_bad_deed" = true)
    (k31 : PySem.W.keepIn K (.ref f31) = true)
    (a32 : PySem.W.nsIn K mainGlobals "_law_error" = some (some (.ref f32)))
    (l32 : K.lookup f32 = some ⟨oc32, od32, .func (PySem.W.fnOf "_law_error" "_law_error" (defArgs s_Lerror) (defBody s_Lerror) (defScope s_Lerror) .none kV32 dc32 pm32 an32 cd32 ct32), sl32⟩)
    (c32 : PySem.W.codeIn K cd32 "_law_error" = true)
    (k32 : PySem.W.keepIn K (.ref f32) = true)
    (a33 : PySem.W.nsIn K mainGlobals "law" = some (some (.ref f33)))
    (l33 : K.lookup f33 = some ⟨oc33, od33, .func (PySem.W.fnOf "law" "law" (defArgs s_law) (defBody s_law) (defScope s_law) .none kV33 dc33 pm33 an33 cd33 ct33), sl33⟩)
    (c33 : PySem.W.codeIn K cd33 "law" = true)
    (k33 : PySem.W.keepIn K (.ref f33) = true)
    (pg_House : PySem.W.plainGet K C_House Str.empty = true)
    (hd_House : PySem.W.hasDictIn K C_House = true)
    (po_House : PySem.W.plainOver K C_House = true)
    (sa_House : PySem.W.findIn K (.ref C_House) "__setattr__" = some (some (.builtin "object.__setattr__")))
    (mk_House : PySem.W.makesIn K C_House = true)
    (kc_House : PySem.W.keepIn K (.ref C_House) = true)
    (no_House_sellers : PySem.W.findIn K (.ref C_House) "sellers" = some none)
    (no_House_stock : PySem.W.findIn K (.ref C_House) "stock" = some none)
    (no_House_books : PySem.W.findIn K (.ref C_House) "books" = some none)
    (no_House_queue : PySem.W.findIn K (.ref C_House) "queue" = some none)
    (no_House_round : PySem.W.findIn K (.ref C_House) "round" = some none)
    (no_House_counts : PySem.W.findIn K (.ref C_House) "counts" = some none)
    (no_House_outgoing : PySem.W.findIn K (.ref C_House) "outgoing" = some none)
    (pg_Seller : PySem.W.plainGet K C_Seller Str.empty = true)
    (hd_Seller : PySem.W.hasDictIn K C_Seller = true)
    (po_Seller : PySem.W.plainOver K C_Seller = true)
    (sa_Seller : PySem.W.findIn K (.ref C_Seller) "__setattr__" = some (some (.builtin "object.__setattr__")))
    (mk_Seller : PySem.W.makesIn K C_Seller = true)
    (kc_Seller : PySem.W.keepIn K (.ref C_Seller) = true)
    (no_Seller_setup : PySem.W.findIn K (.ref C_Seller) "setup" = some none)
    (no_Seller_number : PySem.W.findIn K (.ref C_Seller) "number" = some none)
    (no_Seller_free : PySem.W.findIn K (.ref C_Seller) "free" = some none)
    (no_Seller_vouchers : PySem.W.findIn K (.ref C_Seller) "vouchers" = some none)
    (no_Seller_book : PySem.W.findIn K (.ref C_Seller) "book" = some none)
    (no_Seller_closing : PySem.W.findIn K (.ref C_Seller) "closing" = some none)
    (no_Seller_asked : PySem.W.findIn K (.ref C_Seller) "asked" = some none)
    (no_Seller_waiting : PySem.W.findIn K (.ref C_Seller) "waiting" = some none)
    (no_Seller_count : PySem.W.findIn K (.ref C_Seller) "count" = some none)
    (no_Seller_outgoing : PySem.W.findIn K (.ref C_Seller) "outgoing" = some none)
    (no_Seller_told : PySem.W.findIn K (.ref C_Seller) "told" = some none)
    (pg_Wire : PySem.W.plainGet K C_Wire Str.empty = true)
    (hd_Wire : PySem.W.hasDictIn K C_Wire = true)
    (po_Wire : PySem.W.plainOver K C_Wire = true)
    (sa_Wire : PySem.W.findIn K (.ref C_Wire) "__setattr__" = some (some (.builtin "object.__setattr__")))
    (mk_Wire : PySem.W.makesIn K C_Wire = true)
    (kc_Wire : PySem.W.keepIn K (.ref C_Wire) = true)
    (no_Wire_sent : PySem.W.findIn K (.ref C_Wire) "sent" = some none)
    (no_Wire_outbox : PySem.W.findIn K (.ref C_Wire) "outbox" = some none)
    (no_Wire_expected : PySem.W.findIn K (.ref C_Wire) "expected" = some none)
    (pg_World : PySem.W.plainGet K C_World Str.empty = true)
    (hd_World : PySem.W.hasDictIn K C_World = true)
    (po_World : PySem.W.plainOver K C_World = true)
    (sa_World : PySem.W.findIn K (.ref C_World) "__setattr__" = some (some (.builtin "object.__setattr__")))
    (mk_World : PySem.W.makesIn K C_World = true)
    (kc_World : PySem.W.keepIn K (.ref C_World) = true)
    (no_World_setup : PySem.W.findIn K (.ref C_World) "setup" = some none)
    (no_World_house : PySem.W.findIn K (.ref C_World) "house" = some none)
    (no_World_sellers : PySem.W.findIn K (.ref C_World) "sellers" = some none)
    (no_World_net : PySem.W.findIn K (.ref C_World) "net" = some none)
    (no_World_history : PySem.W.findIn K (.ref C_World) "history" = some none)
    (no_World_down : PySem.W.findIn K (.ref C_World) "down" = some none)
    (no_World_deeds : PySem.W.findIn K (.ref C_World) "deeds" = some none)
    (no_World_asked : PySem.W.findIn K (.ref C_World) "asked" = some none)
    (no_World_house_wires : PySem.W.findIn K (.ref C_World) "house_wires" = some none)
    (no_World_seller_wires : PySem.W.findIn K (.ref C_World) "seller_wires" = some none)
    (aC_ManydoorsError : PySem.W.nsIn K mainGlobals "ManydoorsError" = some (some (.ref C_ManydoorsError)))
    (kx_ManydoorsError : PySem.W.keepIn K (.ref C_ManydoorsError) = true)
    (ex_ManydoorsError : PySem.W.excIn K C_ManydoorsError [.type "ValueError", .type "Exception", .type "BaseException", .type "object"] "ValueError.__new__" = true)
    (sx_ManydoorsError : PySem.W.subIn K (.ref C_ManydoorsError) (.type "BaseException") = some true)
    (tx_ManydoorsError : PySem.W.typeIn K (.ref C_ManydoorsError) = some (.type "type"))
    (aC_BadSetup : PySem.W.nsIn K mainGlobals "BadSetup" = some (some (.ref C_BadSetup)))
    (kx_BadSetup : PySem.W.keepIn K (.ref C_BadSetup) = true)
    (ex_BadSetup : PySem.W.excIn K C_BadSetup [.type "ValueError", .type "Exception", .type "BaseException", .type "object"] "ValueError.__new__" = true)
    (sx_BadSetup : PySem.W.subIn K (.ref C_BadSetup) (.type "BaseException") = some true)
    (tx_BadSetup : PySem.W.typeIn K (.ref C_BadSetup) = some (.type "type"))
    (aC_BadDeed : PySem.W.nsIn K mainGlobals "BadDeed" = some (some (.ref C_BadDeed)))
    (kx_BadDeed : PySem.W.keepIn K (.ref C_BadDeed) = true)
    (ex_BadDeed : PySem.W.excIn K C_BadDeed [.type "ValueError", .type "Exception", .type "BaseException", .type "object"] "ValueError.__new__" = true)
    (sx_BadDeed : PySem.W.subIn K (.ref C_BadDeed) (.type "BaseException") = some true)
    (tx_BadDeed : PySem.W.typeIn K (.ref C_BadDeed) = some (.type "type"))
    (gk_DEAREST : PySem.W.nsIn K mainGlobals "DEAREST" = some (some (.int 1000000 tk_DEAREST)))
    (gk_KINDS : PySem.W.nsIn K mainGlobals "KINDS" = some (some (.int 3 tk_KINDS)))
    (gk_NIGHTS : PySem.W.nsIn K mainGlobals "NIGHTS" = some (some (.int 12 tk_NIGHTS)))
    (gk_SELLERS : PySem.W.nsIn K mainGlobals "SELLERS" = some (some (.int 4 tk_SELLERS)))
    (gk_ROOMS : PySem.W.nsIn K mainGlobals "ROOMS" = some (some (.int 4 tk_ROOMS)))
    (gk_PARTY : PySem.W.nsIn K mainGlobals "PARTY" = some (some (.int 4 tk_PARTY)))
    (gk_HOUSE : PySem.W.nsIn K mainGlobals "HOUSE" = some (some (.int (-1) tk_HOUSE)))
    (gk_ROUNDS : PySem.W.nsIn K mainGlobals "ROUNDS" = some (some (.int 300 tk_ROUNDS)))
    (y1_BadSetup : PySem.W.findIn K (.ref C_BadSetup) "__getattribute__" = some (some (.builtin "BaseException.__getattribute__")))
    (y2_BadSetup : PySem.W.findIn K (.ref C_BadSetup) "__getattr__" = some none)
    (y3_BadSetup : PySem.W.hasDictIn K C_BadSetup = true)
    (y4_BadSetup : PySem.W.findIn K (.ref C_BadSetup) "__class__" = some (some (.builtin "object.__class__")))
    (y5_BadSetup : PySem.W.specialIn K (.builtin "object.__class__") "__get__" = some (some (.builtin "getset_descriptor.__get__")))
    (y6_BadSetup : PySem.W.takesIn K (.builtin "object.__class__") = some true)
    (y7_BadSetup : PySem.W.mroIn K C_BadSetup (.type "object") = some true)
    (y1_BadDeed : PySem.W.findIn K (.ref C_BadDeed) "__getattribute__" = some (some (.builtin "BaseException.__getattribute__")))
    (y2_BadDeed : PySem.W.findIn K (.ref C_BadDeed) "__getattr__" = some none)
    (y3_BadDeed : PySem.W.hasDictIn K C_BadDeed = true)
    (y4_BadDeed : PySem.W.findIn K (.ref C_BadDeed) "__class__" = some (some (.builtin "object.__class__")))
    (y5_BadDeed : PySem.W.specialIn K (.builtin "object.__class__") "__get__" = some (some (.builtin "getset_descriptor.__get__")))
    (y6_BadDeed : PySem.W.takesIn K (.builtin "object.__class__") = some true)
    (y7_BadDeed : PySem.W.mroIn K C_BadDeed (.type "object") = some true)
    (q_k_ss : PySem.W.subIn K (.ref C_BadSetup) (.ref C_BadSetup) = some true)
    (q_k_ds : PySem.W.subIn K (.ref C_BadDeed) (.ref C_BadSetup) = some false)
    (q_k_dd : PySem.W.subIn K (.ref C_BadDeed) (.ref C_BadDeed) = some true)
    (q_k_sd : PySem.W.kitOne K (.ref C_BadSetup) (.ref C_BadDeed) = some false)
    (q_k_sm : PySem.W.kitOne K (.ref C_BadSetup) (.ref C_ManydoorsError) = some true)
    (q_k_dm : PySem.W.kitOne K (.ref C_BadDeed) (.ref C_ManydoorsError) = some true)
    (z_isinstance : PySem.W.nsIn K mainGlobals "isinstance" = some none)
    (z_int : PySem.W.nsIn K mainGlobals "int" = some none)
    (z_bool : PySem.W.nsIn K mainGlobals "bool" = some none)
    (z_tuple : PySem.W.nsIn K mainGlobals "tuple" = some none)
    (z_len : PySem.W.nsIn K mainGlobals "len" = some none)
    (z_all : PySem.W.nsIn K mainGlobals "all" = some none)
    (z_list : PySem.W.nsIn K mainGlobals "list" = some none)
    (z_sorted : PySem.W.nsIn K mainGlobals "sorted" = some none)
    (z_enumerate : PySem.W.nsIn K mainGlobals "enumerate" = some none)
    (z_range : PySem.W.nsIn K mainGlobals "range" = some none)
    (z_any : PySem.W.nsIn K mainGlobals "any" = some none)
    (z_str : PySem.W.nsIn K mainGlobals "str" = some none)
    : ∃ fd : FuncData, (∀ (s : Shared) (v : Value), BindsTo s fd ⟨[v], []⟩ [("_law_script", v)]) ∧ ∀ base : Heap, K.In base → base.Ns mainGlobals mg → FnOk l.prog w K mg base CX0 26 fa fd ["_law_script"] (spLaw K) := by
  have e := hfa.symm.trans (PySem.W.mg_of X G a33)
  cases e
  let A : Ad := ⟨C_House, C_Seller, C_Wire, C_World, C_ManydoorsError, C_BadSetup, C_BadDeed⟩
  have T : Txt K mg A := { b_isinstance := PySem.W.mg_none_of X G z_isinstance, b_int := PySem.W.mg_none_of X G z_int, b_bool := PySem.W.mg_none_of X G z_bool, b_tuple := PySem.W.mg_none_of X G z_tuple, b_len := PySem.W.mg_none_of X G z_len, b_all := PySem.W.mg_none_of X G z_all, b_list := PySem.W.mg_none_of X G z_list, b_sorted := PySem.W.mg_none_of X G z_sorted, b_enumerate := PySem.W.mg_none_of X G z_enumerate, b_range := PySem.W.mg_none_of X G z_range, b_any := PySem.W.mg_none_of X G z_any, b_str := PySem.W.mg_none_of X G z_str, cl_House := ⟨pg_House, hd_House, po_House, sa_House⟩, no_House_sellers := no_House_sellers, no_House_stock := no_House_stock, no_House_books := no_House_books, no_House_queue := no_House_queue, no_House_round := no_House_round, no_House_counts := no_House_counts, no_House_outgoing := no_House_outgoing, cl_Seller := ⟨pg_Seller, hd_Seller, po_Seller, sa_Seller⟩, no_Seller_setup := no_Seller_setup, no_Seller_number := no_Seller_number, no_Seller_free := no_Seller_free, no_Seller_vouchers := no_Seller_vouchers, no_Seller_book := no_Seller_book, no_Seller_closing := no_Seller_closing, no_Seller_asked := no_Seller_asked, no_Seller_waiting := no_Seller_waiting, no_Seller_count := no_Seller_count, no_Seller_outgoing := no_Seller_outgoing, no_Seller_told := no_Seller_told, cl_Wire := ⟨pg_Wire, hd_Wire, po_Wire, sa_Wire⟩, no_Wire_sent := no_Wire_sent, no_Wire_outbox := no_Wire_outbox, no_Wire_expected := no_Wire_expected, cl_World := ⟨pg_World, hd_World, po_World, sa_World⟩, no_World_setup := no_World_setup, no_World_house := no_World_house, no_World_sellers := no_World_sellers, no_World_net := no_World_net, no_World_history := no_World_history, no_World_down := no_World_down, no_World_deeds := no_World_deeds, no_World_asked := no_World_asked, no_World_house_wires := no_World_house_wires, no_World_seller_wires := no_World_seller_wires, g_DEAREST := ⟨_, PySem.W.mg_of X G gk_DEAREST⟩, g_KINDS := ⟨_, PySem.W.mg_of X G gk_KINDS⟩, g_NIGHTS := ⟨_, PySem.W.mg_of X G gk_NIGHTS⟩, g_SELLERS := ⟨_, PySem.W.mg_of X G gk_SELLERS⟩, g_ROOMS := ⟨_, PySem.W.mg_of X G gk_ROOMS⟩, g_PARTY := ⟨_, PySem.W.mg_of X G gk_PARTY⟩, g_HOUSE := ⟨_, PySem.W.mg_of X G gk_HOUSE⟩, g_ROUNDS := ⟨_, PySem.W.mg_of X G gk_ROUNDS⟩, x_ManydoorsError := ⟨PySem.W.mg_of X G aC_ManydoorsError, kx_ManydoorsError, ex_ManydoorsError, sx_ManydoorsError, tx_ManydoorsError⟩, x_BadSetup := ⟨PySem.W.mg_of X G aC_BadSetup, kx_BadSetup, ex_BadSetup, sx_BadSetup, tx_BadSetup⟩, x_BadDeed := ⟨PySem.W.mg_of X G aC_BadDeed, kx_BadDeed, ex_BadDeed, sx_BadDeed, tx_BadDeed⟩, ec_BadSetup := ⟨y1_BadSetup, y2_BadSetup, sx_BadSetup, y3_BadSetup, y4_BadSetup, y5_BadSetup, y6_BadSetup, y7_BadSetup⟩, ec_BadDeed := ⟨y1_BadDeed, y2_BadDeed, sx_BadDeed, y3_BadDeed, y4_BadDeed, y5_BadDeed, y6_BadDeed, y7_BadDeed⟩, k_ss := q_k_ss, k_ds := q_k_ds, k_dd := q_k_dd, k_sd := q_k_sd, k_sm := q_k_sm, k_dm := q_k_dm }
  have F1 := fun_mk (st := s_is_integer) l1 c1 k1
  have b1 := F1.binds (ps := ["value"]) fun _ _ _ _ _ _ us hl => match us, hl with | [_], _ => rfl
  have F2 := fun_mk (st := s_is_from) l2 c2 k2
  have b2 := F2.binds (ps := ["value", "least", "most"]) fun _ _ _ _ _ _ us hl => match us, hl with | [_, _, _], _ => rfl
  have F3 := fun_mk (st := s_are_prices) l3 c3 k3
  have b3 := F3.binds (ps := ["prices", "kinds", "nights"]) fun _ _ _ _ _ _ us hl => match us, hl with | [_, _, _], _ => rfl
  have F4 := fun_mk (st := s_check_setup) l4 c4 k4
  have b4 := F4.binds (ps := ["setup"]) fun _ _ _ _ _ _ us hl => match us, hl with | [_], _ => rfl
  have F5 := fun_mk (st := s_is_stay) l5 c5 k5
  have b5 := F5.binds (ps := ["stay", "kinds", "nights"]) fun _ _ _ _ _ _ us hl => match us, hl with | [_, _, _], _ => rfl
  have F6 := fun_mk (st := s_is_party) l6 c6 k6
  have b6 := F6.binds (ps := ["party", "kinds", "nights"]) fun _ _ _ _ _ _ us hl => match us, hl with | [_, _, _], _ => rfl
  have F7 := fun_mk (st := s_is_deed) l7 c7 k7
  have b7 := F7.binds (ps := ["deed", "kinds", "nights"]) fun _ _ _ _ _ _ us hl => match us, hl with | [_, _, _], _ => rfl
  have F8 := fun_mk (st := s_check_deed) l8 c8 k8
  have b8 := F8.binds (ps := ["setup", "deed"]) fun _ _ _ _ _ _ us hl => match us, hl with | [_, _], _ => rfl
  have F9 := fun_mk (st := s_House_init) l9 c9 k9
  have b9 := F9.binds (ps := ["self", "setup"]) fun _ _ _ _ _ _ us hl => match us, hl with | [_, _], _ => rfl
  have F10 := fun_mk (st := s_Seller_init) l10 c10 k10
  have b10 := F10.binds (ps := ["self", "setup", "number"]) fun _ _ _ _ _ _ us hl => match us, hl with | [_, _, _], _ => rfl
  have F11 := fun_mk (st := s_Wire_init) l11 c11 k11
  have b11 := F11.binds (ps := ["self"]) fun _ _ _ _ _ _ us hl => match us, hl with | [_], _ => rfl
  have F12 := fun_mk (st := s_World_put) l12 c12 k12
  have b12 := F12.binds (ps := ["self", "letter"]) fun _ _ _ _ _ _ us hl => match us, hl with | [_, _], _ => rfl
  have F13 := fun_mk (st := s_World_deliver) l13 c13 k13
  have b13 := F13.binds (ps := ["self", "letter"]) fun _ _ _ _ _ _ us hl => match us, hl with | [_, _], _ => rfl
  have F14 := fun_mk (st := s_World_wire_of) l14 c14 k14
  have b14 := F14.binds (ps := ["self", "desk", "other"]) fun _ _ _ _ _ _ us hl => match us, hl with | [_, _, _], _ => rfl
  have F15 := fun_mk (st := s_World_tick) l15 c15 k15
  have b15 := F15.binds (ps := ["self", "desk"]) fun _ _ _ _ _ _ us hl => match us, hl with | [_, _], _ => rfl
  have F16 := fun_mk (st := s_World_waits) l16 c16 k16
  have b16 := F16.binds (ps := ["self"]) fun _ _ _ _ _ _ us hl => match us, hl with | [_], _ => rfl
  have F17 := fun_mk (st := s_World_rise) l17 c17 k17
  have b17 := F17.binds (ps := ["self"]) fun _ _ _ _ _ _ us hl => match us, hl with | [_], _ => rfl
  have F18 := fun_mk (st := s_World_settle) l18 c18 k18
  have b18 := F18.binds (ps := ["self"]) fun _ _ _ _ _ _ us hl => match us, hl with | [_], _ => rfl
  have F19 := fun_mk (st := s_World_init) l19 c19 k19
  have b19 := F19.binds (ps := ["self", "setup", "deeds"]) fun _ _ _ _ _ _ us hl => match us, hl with | [_, _, _], _ => rfl
  have F20 := fun_mk (st := s_Lmixed) l20 c20 k20
  have b20 := F20.binds (ps := ["_law_number", "_law_k"]) fun _ _ _ _ _ _ us hl => match us, hl with | [_, _], _ => rfl
  have F21 := fun_mk (st := s_Lnumbers) l21 c21 k21
  have b21 := F21.binds (ps := ["_law_script"]) fun _ _ _ _ _ _ us hl => match us, hl with | [_], _ => rfl
  have F22 := fun_mk (st := s_Ldraw) l22 c22 k22
  have b22 := F22.binds (ps := ["_law_draws"]) fun _ _ _ _ _ _ us hl => match us, hl with | [_], _ => rfl
  have F23 := fun_mk (st := s_Lequal) l23 c23 k23
  have b23 := F23.binds (ps := ["_law_actual", "_law_due"]) fun _ _ _ _ _ _ us hl => match us, hl with | [_, _], _ => rfl
  have F24 := fun_mk (st := s_Lall_equal) l24 c24 k24
  have b24 := F24.binds (ps := ["_law_actual", "_law_due"]) fun _ _ _ _ _ _ us hl => match us, hl with | [_, _], _ => rfl
  have F25 := fun_mk (st := s_Lsetup) l25 c25 k25
  have b25 := F25.binds (ps := ["_law_draws"]) fun _ _ _ _ _ _ us hl => match us, hl with | [_], _ => rfl
  have F26 := fun_mk (st := s_Lstay) l26 c26 k26
  have b26 := F26.binds (ps := ["_law_draws", "_law_setup_here"]) fun _ _ _ _ _ _ us hl => match us, hl with | [_, _], _ => rfl
  have F27 := fun_mk (st := s_Lparty) l27 c27 k27
  have b27 := F27.binds (ps := ["_law_draws", "_law_setup_here"]) fun _ _ _ _ _ _ us hl => match us, hl with | [_, _], _ => rfl
  have F28 := fun_mk (st := s_Ldeeds) l28 c28 k28
  have b28 := F28.binds (ps := ["_law_draws", "_law_setup_here", "_law_most"]) fun _ _ _ _ _ _ us hl => match us, hl with | [_, _, _], _ => rfl
  have F29 := fun_mk (st := s_Lbad_setup) l29 c29 k29
  have b29 := F29.binds (ps := ["_law_draws", "_law_setup_here"]) fun _ _ _ _ _ _ us hl => match us, hl with | [_, _], _ => rfl
  have F30 := fun_mk (st := s_Lbad_party) l30 c30 k30
  have b30 := F30.binds (ps := ["_law_draws", "_law_setup_here"]) fun _ _ _ _ _ _ us hl => match us, hl with | [_, _], _ => rfl
  have F31 := fun_mk (st := s_Lbad_deed) l31 c31 k31
  have b31 := F31.binds (ps := ["_law_draws", "_law_setup_here", "_law_number"]) fun _ _ _ _ _ _ us hl => match us, hl with | [_, _, _], _ => rfl
  have F32 := fun_mk (st := s_Lerror) l32 c32 k32
  have b32 := F32.binds (ps := ["_law_setup_here", "_law_deeds_here"]) fun _ _ _ _ _ _ us hl => match us, hl with | [_, _], _ => rfl
  have F33 := fun_mk (st := s_law) l33 c33 k33
  have b33 := F33.binds (ps := ["_law_script"]) fun _ _ _ _ _ _ us hl => match us, hl with | [_], _ => rfl
  refine ⟨PySem.W.fnOf "law" "law" (defArgs s_law) (defBody s_law) (defScope s_law) .none kV33 dc33 pm33 an33 cd33 ct33, fun s v => .of_eq rfl, fun base _ _ => ?_⟩
  have o_is_integer := ok_is_integer (P := l.prog) (w := w) (base := base) F1 T 
  have e_is_integer : Cal l.prog w K mg base "is_integer" 1 ["value"] (sp_is_integer K A) := ⟨⟨_, _, o_is_integer, PySem.W.mg_of X G a1, k1, b1⟩⟩
  have o_is_from := ok_is_from (P := l.prog) (w := w) (base := base) F2 T e_is_integer
  have e_is_from : Cal l.prog w K mg base "is_from" 2 ["value", "least", "most"] (sp_is_from K A) := ⟨⟨_, _, o_is_from, PySem.W.mg_of X G a2, k2, b2⟩⟩
  have o_are_prices := ok_are_prices (P := l.prog) (w := w) (base := base) F3 T e_is_from
  have e_are_prices : Cal l.prog w K mg base "are_prices" 3 ["prices", "kinds", "nights"] (sp_are_prices K A) := ⟨⟨_, _, o_are_prices, PySem.W.mg_of X G a3, k3, b3⟩⟩
  have o_check_setup := ok_check_setup (P := l.prog) (w := w) (base := base) F4 T e_is_from e_are_prices
  have e_check_setup : CalX l.prog w K mg base "check_setup" 4 ["setup"] (sp_check_setup K A) := ⟨⟨_, _, o_check_setup, PySem.W.mg_of X G a4, k4, b4⟩⟩
  have o_is_stay := ok_is_stay (P := l.prog) (w := w) (base := base) F5 T e_is_from
  have e_is_stay : Cal l.prog w K mg base "is_stay" 3 ["stay", "kinds", "nights"] (sp_is_stay K A) := ⟨⟨_, _, o_is_stay, PySem.W.mg_of X G a5, k5, b5⟩⟩
  have o_is_party := ok_is_party (P := l.prog) (w := w) (base := base) F6 T e_is_stay
  have e_is_party : Cal l.prog w K mg base "is_party" 4 ["party", "kinds", "nights"] (sp_is_party K A) := ⟨⟨_, _, o_is_party, PySem.W.mg_of X G a6, k6, b6⟩⟩
  have o_is_deed := ok_is_deed (P := l.prog) (w := w) (base := base) F7 T e_is_integer e_is_party
  have e_is_deed : Cal l.prog w K mg base "is_deed" 5 ["deed", "kinds", "nights"] (sp_is_deed K A) := ⟨⟨_, _, o_is_deed, PySem.W.mg_of X G a7, k7, b7⟩⟩
  have o_check_deed := ok_check_deed (P := l.prog) (w := w) (base := base) F8 T e_is_deed
  have e_check_deed : CalX l.prog w K mg base "check_deed" 6 ["setup", "deed"] (sp_check_deed K A) := ⟨⟨_, _, o_check_deed, PySem.W.mg_of X G a8, k8, b8⟩⟩
  have o_House_init := ok_House_init (P := l.prog) (w := w) (base := base) F9 T 
  have e_House_init : CalC l.prog w K mg base "House" A.House 1 ["self", "setup"] (sp_House_init K A) := ⟨⟨_, _, o_House_init, ⟨mk_House, a9, i9, kc_House⟩, PySem.W.mg_of X G aC_House, b9⟩⟩
  have o_Seller_init := ok_Seller_init (P := l.prog) (w := w) (base := base) F10 T 
  have e_Seller_init : CalC l.prog w K mg base "Seller" A.Seller 1 ["self", "setup", "number"] (sp_Seller_init K A) := ⟨⟨_, _, o_Seller_init, ⟨mk_Seller, a10, i10, kc_Seller⟩, PySem.W.mg_of X G aC_Seller, b10⟩⟩
  have o_Wire_init := ok_Wire_init (P := l.prog) (w := w) (base := base) F11 T 
  have e_Wire_init : CalC l.prog w K mg base "Wire" A.Wire 1 ["self"] (sp_Wire_init K A) := ⟨⟨_, _, o_Wire_init, ⟨mk_Wire, a11, i11, kc_Wire⟩, PySem.W.mg_of X G aC_Wire, b11⟩⟩
  have o_World_put := ok_World_put (P := l.prog) (w := w) (base := base) F12 T 
  have e_World_put : CalM l.prog w K mg base A.World "put" 1 ["self", "letter"] (sp_World_put K A) := ⟨⟨_, _, o_World_put, ⟨a12, i12, k12⟩, b12⟩⟩
  have o_World_deliver : FnOk l.prog w K mg base CX0 1 f13 (PySem.W.fnOf "deliver" "World.deliver" (defArgs s_World_deliver) (defBody s_World_deliver) (defScope s_World_deliver) .none kV13 dc13 pm13 an13 cd13 ct13) ["self", "letter"] (sp_World_deliver K A) := never (fd := _) (f := f13) (fun vs H Q E h => by obtain ⟨_, _, _, h⟩ := h; exact h)
  have e_World_deliver : CalM l.prog w K mg base A.World "deliver" 1 ["self", "letter"] (sp_World_deliver K A) := ⟨⟨_, _, o_World_deliver, ⟨a13, i13, k13⟩, b13⟩⟩
  have o_World_wire_of := ok_World_wire_of (P := l.prog) (w := w) (base := base) F14 T 
  have e_World_wire_of : CalM l.prog w K mg base A.World "wire_of" 1 ["self", "desk", "other"] (sp_World_wire_of K A) := ⟨⟨_, _, o_World_wire_of, ⟨a14, i14, k14⟩, b14⟩⟩
  have o_World_tick := ok_World_tick (P := l.prog) (w := w) (base := base) F15 T e_World_wire_of e_World_put
  have e_World_tick : CalM l.prog w K mg base A.World "tick" 2 ["self", "desk"] (sp_World_tick K A) := ⟨⟨_, _, o_World_tick, ⟨a15, i15, k15⟩, b15⟩⟩
  have o_World_waits := ok_World_waits (P := l.prog) (w := w) (base := base) F16 T 
  have e_World_waits : CalM l.prog w K mg base A.World "waits" 1 ["self"] (sp_World_waits K A) := ⟨⟨_, _, o_World_waits, ⟨a16, i16, k16⟩, b16⟩⟩
  have o_World_rise := ok_World_rise (P := l.prog) (w := w) (base := base) F17 T 
  have e_World_rise : CalM l.prog w K mg base A.World "rise" 1 ["self"] (sp_World_rise K A) := ⟨⟨_, _, o_World_rise, ⟨a17, i17, k17⟩, b17⟩⟩
  have o_World_settle := ok_World_settle (P := l.prog) (w := w) (base := base) F18 T e_World_rise e_World_waits e_World_tick e_World_deliver
  have e_World_settle : CalM l.prog w K mg base A.World "settle" 3 ["self"] (sp_World_settle K A) := ⟨⟨_, _, o_World_settle, ⟨a18, i18, k18⟩, b18⟩⟩
  have o_World_init := ok_World_init (P := l.prog) (w := w) (base := base) F19 T e_check_setup e_House_init e_Seller_init e_Wire_init e_check_deed
  have e_World_init : CalCX l.prog w K mg base "World" A.World 7 ["self", "setup", "deeds"] (sp_World_init K A) := ⟨⟨_, _, o_World_init, ⟨mk_World, a19, i19, kc_World⟩, PySem.W.mg_of X G aC_World, b19⟩⟩
  have o_Lmixed := ok_Lmixed (P := l.prog) (w := w) (base := base) F20 T 
  have e_Lmixed : Cal l.prog w K mg base "_law_mixed" 1 ["_law_number", "_law_k"] (sp_Lmixed K A) := ⟨⟨_, _, o_Lmixed, PySem.W.mg_of X G a20, k20, b20⟩⟩
  have o_Lnumbers := ok_Lnumbers (P := l.prog) (w := w) (base := base) F21 T e_Lmixed
  have e_Lnumbers : Cal l.prog w K mg base "_law_numbers" 2 ["_law_script"] (sp_Lnumbers K A) := ⟨⟨_, _, o_Lnumbers, PySem.W.mg_of X G a21, k21, b21⟩⟩
  have o_Ldraw := ok_Ldraw (P := l.prog) (w := w) (base := base) F22 T e_Lmixed
  have e_Ldraw : Cal l.prog w K mg base "_law_draw" 2 ["_law_draws"] (sp_Ldraw K A) := ⟨⟨_, _, o_Ldraw, PySem.W.mg_of X G a22, k22, b22⟩⟩
  have e_Lequal : Cal l.prog w K mg base "_law_equal" 25 ["_law_actual", "_law_due"] (sp_Lequal K A 12) := eq_one (P := l.prog) (w := w) (base := base) F23 T (PySem.W.mg_of X G a23) b23 F24 (PySem.W.mg_of X G a24) b24 12
  have e_Lall_equal : Cal l.prog w K mg base "_law_all_equal" 24 ["_law_actual", "_law_due"] (sp_Lall_equal K A 12) := eq_all (P := l.prog) (w := w) (base := base) F23 T (PySem.W.mg_of X G a23) b23 F24 (PySem.W.mg_of X G a24) b24 12
  have o_Lsetup := ok_Lsetup (P := l.prog) (w := w) (base := base) F25 T e_Ldraw
  have e_Lsetup : Cal l.prog w K mg base "_law_setup" 3 ["_law_draws"] (sp_Lsetup K A) := ⟨⟨_, _, o_Lsetup, PySem.W.mg_of X G a25, k25, b25⟩⟩
  have o_Lstay := ok_Lstay (P := l.prog) (w := w) (base := base) F26 T e_Ldraw
  have e_Lstay : Cal l.prog w K mg base "_law_stay" 3 ["_law_draws", "_law_setup_here"] (sp_Lstay K A) := ⟨⟨_, _, o_Lstay, PySem.W.mg_of X G a26, k26, b26⟩⟩
  have o_Lparty := ok_Lparty (P := l.prog) (w := w) (base := base) F27 T e_Ldraw e_Lstay
  have e_Lparty : Cal l.prog w K mg base "_law_party" 4 ["_law_draws", "_law_setup_here"] (sp_Lparty K A) := ⟨⟨_, _, o_Lparty, PySem.W.mg_of X G a27, k27, b27⟩⟩
  have o_Ldeeds := ok_Ldeeds (P := l.prog) (w := w) (base := base) F28 T e_Ldraw e_Lparty
  have e_Ldeeds : Cal l.prog w K mg base "_law_deeds" 5 ["_law_draws", "_law_setup_here", "_law_most"] (sp_Ldeeds K A) := ⟨⟨_, _, o_Ldeeds, PySem.W.mg_of X G a28, k28, b28⟩⟩
  have o_Lbad_setup := ok_Lbad_setup (P := l.prog) (w := w) (base := base) F29 T e_Ldraw
  have e_Lbad_setup : Cal l.prog w K mg base "_law_bad_setup" 3 ["_law_draws", "_law_setup_here"] (sp_Lbad_setup K A) := ⟨⟨_, _, o_Lbad_setup, PySem.W.mg_of X G a29, k29, b29⟩⟩
  have o_Lbad_party := ok_Lbad_party (P := l.prog) (w := w) (base := base) F30 T e_Ldraw e_Lstay
  have e_Lbad_party : Cal l.prog w K mg base "_law_bad_party" 4 ["_law_draws", "_law_setup_here"] (sp_Lbad_party K A) := ⟨⟨_, _, o_Lbad_party, PySem.W.mg_of X G a30, k30, b30⟩⟩
  have o_Lbad_deed := ok_Lbad_deed (P := l.prog) (w := w) (base := base) F31 T e_Lbad_party e_Ldraw
  have e_Lbad_deed : Cal l.prog w K mg base "_law_bad_deed" 5 ["_law_draws", "_law_setup_here", "_law_number"] (sp_Lbad_deed K A) := ⟨⟨_, _, o_Lbad_deed, PySem.W.mg_of X G a31, k31, b31⟩⟩
  have o_Lerror := ok_Lerror (P := l.prog) (w := w) (base := base) F32 T e_World_init
  have e_Lerror : Cal l.prog w K mg base "_law_error" 9 ["_law_setup_here", "_law_deeds_here"] (sp_Lerror K A) := ⟨⟨_, _, o_Lerror, PySem.W.mg_of X G a32, k32, b32⟩⟩
  exact (ok_law F33 T e_World_init e_Lnumbers e_Lsetup e_Ldeeds e_Lequal e_Lerror e_Ldraw e_World_settle e_Lbad_setup e_Lbad_deed).imp fun vs H Q E h => h
theorem walk {l : PySem.W.OpenLaw} {q : Program} {loose : List Str} {XP : (Str → Option Value) → Heap → Prop} {YP : World → Heap → Prop} {d : DefRec} {K : Params → PySem.W.Frag} (hn : l.most = some 63) (hdf : d.params.defaults = [])
    (hY : ∀ (w : World) (h : Heap), YP w h → (K w.params).In h)
    (F : ∀ (w : World) (mg : Str → Option Value) (fa : Addr) (h : Heap), (K w.params).In h → h.Ns mainGlobals mg → mg d.name = some (.ref fa) →
      ∃ fd : FuncData, (∀ (s : Shared) (u : Value), BindsTo s fd ⟨[u], []⟩ [("_law_script", u)]) ∧ ∀ base : Heap, (K w.params).In base → base.Ns mainGlobals mg → FnOk l.prog w (K w.params) mg base CX0 26 fa fd ["_law_script"] (spLaw (K w.params))) :
    PySem.W.WalkO q loose XP YP l.row.toRowW d [] (fun f vs => PySem.call f vs) :=
  L2.walk_of (n := 63) (k := 26) (x := "_law_script") (CX := fun _ => CX0) (sp := fun w => spLaw (K w.params)) hn (by decide) hdf ⟨rfl, by decide, by decide⟩ hY F (fun _ _ a ns hl _ hS => ⟨_, rfl, a, ns, rfl, hS, hl, fun _ => rfl⟩) fun _ _ _ _ _ z => z
end Toy
open PySem PySem.W PyProof.Rows in
set_option maxRecDepth 100000 in
set_option maxHeartbeats 0 in
theorem PySem.Challenge.cw_manydoors_k47_worlds_that_are_none_holds : PySem.Challenge.rw_manydoors_k47_worlds_that_are_none.Holds := by
  w_on; o_law; k_head; (case hw => w_witness2)
  k_fill
  refine Toy.walk (l := PySem.Challenge.rw_manydoors_k47_worlds_that_are_none) rfl rfl (fun w h Y => PySem.W.kIn_of Y) ?F
  case F =>
    intro w mg fa h KX G hmg
    refine' Toy.all_mk KX G hmg ?aC_House ?aC_Seller ?aC_Wire ?aC_World ?a1 ?l1 ?c1 ?k1 ?a2 ?l2 ?c2 ?k2 ?a3 ?l3 ?c3 ?k3 ?a4 ?l4 ?c4 ?k4 ?a5 ?l5 ?c5 ?k5 ?a6 ?l6 ?c6 ?k6 ?a7 ?l7 ?c7 ?k7 ?a8 ?l8 ?c8 ?k8 ?a9 ?i9 ?l9 ?c9 ?k9 ?a10 ?i10 ?l10 ?c10 ?k10 ?a11 ?i11 ?l11 ?c11 ?k11 ?a12 ?i12 ?l12 ?c12 ?k12 ?a13 ?i13 ?l13 ?c13 ?k13 ?a14 ?i14 ?l14 ?c14 ?k14 ?a15 ?i15 ?l15 ?c15 ?k15 ?a16 ?i16 ?l16 ?c16 ?k16 ?a17 ?i17 ?l17 ?c17 ?k17 ?a18 ?i18 ?l18 ?c18 ?k18 ?a19 ?i19 ?l19 ?c19 ?k19 ?a20 ?l20 ?c20 ?k20 ?a21 ?l21 ?c21 ?k21 ?a22 ?l22 ?c22 ?k22 ?a23 ?l23 ?c23 ?k23 ?a24 ?l24 ?c24 ?k24 ?a25 ?l25 ?c25 ?k25 ?a26 ?l26 ?c26 ?k26 ?a27 ?l27 ?c27 ?k27 ?a28 ?l28 ?c28 ?k28 ?a29 ?l29 ?c29 ?k29 ?a30 ?l30 ?c30 ?k30 ?a31 ?l31 ?c31 ?k31 ?a32 ?l32 ?c32 ?k32 ?a33 ?l33 ?c33 ?k33 ?pg_House ?hd_House ?po_House ?sa_House ?mk_House ?kc_House ?no_House_sellers ?no_House_stock ?no_House_books ?no_House_queue ?no_House_round ?no_House_counts ?no_House_outgoing ?pg_Seller ?hd_Seller ?po_Seller ?sa_Seller ?mk_Seller ?kc_Seller ?no_Seller_setup ?no_Seller_number ?no_Seller_free ?no_Seller_vouchers ?no_Seller_book ?no_Seller_closing ?no_Seller_asked ?no_Seller_waiting ?no_Seller_count ?no_Seller_outgoing ?no_Seller_told ?pg_Wire ?hd_Wire ?po_Wire ?sa_Wire ?mk_Wire ?kc_Wire ?no_Wire_sent ?no_Wire_outbox ?no_Wire_expected ?pg_World ?hd_World ?po_World ?sa_World ?mk_World ?kc_World ?no_World_setup ?no_World_house ?no_World_sellers ?no_World_net ?no_World_history ?no_World_down ?no_World_deeds ?no_World_asked ?no_World_house_wires ?no_World_seller_wires ?aC_ManydoorsError ?kx_ManydoorsError ?ex_ManydoorsError ?sx_ManydoorsError ?tx_ManydoorsError ?aC_BadSetup ?kx_BadSetup ?ex_BadSetup ?sx_BadSetup ?tx_BadSetup ?aC_BadDeed ?kx_BadDeed ?ex_BadDeed ?sx_BadDeed ?tx_BadDeed ?gk_DEAREST ?gk_KINDS ?gk_NIGHTS ?gk_SELLERS ?gk_ROOMS ?gk_PARTY ?gk_HOUSE ?gk_ROUNDS ?y1_BadSetup ?y2_BadSetup ?y3_BadSetup ?y4_BadSetup ?y5_BadSetup ?y6_BadSetup ?y7_BadSetup ?y1_BadDeed ?y2_BadDeed ?y3_BadDeed ?y4_BadDeed ?y5_BadDeed ?y6_BadDeed ?y7_BadDeed ?q_k_ss ?q_k_ds ?q_k_dd ?q_k_sd ?q_k_sm ?q_k_dm ?z_isinstance ?z_int ?z_bool ?z_tuple ?z_len ?z_all ?z_list ?z_sorted ?z_enumerate ?z_range ?z_any ?z_str
    (case aC_House => k_is)
    (case aC_Seller => k_is)
    (case aC_Wire => k_is)
    (case aC_World => k_is)
    (case a1 => k_is)
    (case l1 => k_is)
    (case c1 => k_is)
    (case k1 => k_is)
    (case a2 => k_is)
    (case l2 => k_is)
    (case c2 => k_is)
    (case k2 => k_is)
    (case a3 => k_is)
    (case l3 => k_is)
    (case c3 => k_is)
    (case k3 => k_is)
    (case a4 => k_is)
    (case l4 => k_is)
    (case c4 => k_is)
    (case k4 => k_is)
    (case a5 => k_is)
    (case l5 => k_is)
    (case c5 => k_is)
    (case k5 => k_is)
    (case a6 => k_is)
    (case l6 => k_is)
    (case c6 => k_is)
    (case k6 => k_is)
    (case a7 => k_is)
    (case l7 => k_is)
    (case c7 => k_is)
    (case k7 => k_is)
    (case a8 => k_is)
    (case l8 => k_is)
    (case c8 => k_is)
    (case k8 => k_is)
    (case a9 => k_is)
    (case i9 => k_is)
    (case l9 => k_is)
    (case c9 => k_is)
    (case k9 => k_is)
    (case a10 => k_is)
    (case i10 => k_is)
    (case l10 => k_is)
    (case c10 => k_is)
    (case k10 => k_is)
    (case a11 => k_is)
    (case i11 => k_is)
    (case l11 => k_is)
    (case c11 => k_is)
    (case k11 => k_is)
    (case a12 => k_is)
    (case i12 => k_is)
    (case l12 => k_is)
    (case c12 => k_is)
    (case k12 => k_is)
    (case a13 => k_is)
    (case i13 => k_is)
    (case l13 => k_is)
    (case c13 => k_is)
    (case k13 => k_is)
    (case a14 => k_is)
    (case i14 => k_is)
    (case l14 => k_is)
    (case c14 => k_is)
    (case k14 => k_is)
    (case a15 => k_is)
    (case i15 => k_is)
    (case l15 => k_is)
    (case c15 => k_is)
    (case k15 => k_is)
    (case a16 => k_is)
    (case i16 => k_is)
    (case l16 => k_is)
    (case c16 => k_is)
    (case k16 => k_is)
    (case a17 => k_is)
    (case i17 => k_is)
    (case l17 => k_is)
    (case c17 => k_is)
    (case k17 => k_is)
    (case a18 => k_is)
    (case i18 => k_is)
    (case l18 => k_is)
    (case c18 => k_is)
    (case k18 => k_is)
    (case a19 => k_is)
    (case i19 => k_is)
    (case l19 => k_is)
    (case c19 => k_is)
    (case k19 => k_is)
    (case a20 => k_is)
    (case l20 => k_is)
    (case c20 => k_is)
    (case k20 => k_is)
    (case a21 => k_is)
    (case l21 => k_is)
    (case c21 => k_is)
    (case k21 => k_is)
    (case a22 => k_is)
    (case l22 => k_is)
    (case c22 => k_is)
    (case k22 => k_is)
    (case a23 => k_is)
    (case l23 => k_is)
    (case c23 => k_is)
    (case k23 => k_is)
    (case a24 => k_is)
    (case l24 => k_is)
    (case c24 => k_is)
    (case k24 => k_is)
    (case a25 => k_is)
    (case l25 => k_is)
    (case c25 => k_is)
    (case k25 => k_is)
    (case a26 => k_is)
    (case l26 => k_is)
    (case c26 => k_is)
    (case k26 => k_is)
    (case a27 => k_is)
    (case l27 => k_is)
    (case c27 => k_is)
    (case k27 => k_is)
    (case a28 => k_is)
    (case l28 => k_is)
    (case c28 => k_is)
    (case k28 => k_is)
    (case a29 => k_is)
    (case l29 => k_is)
    (case c29 => k_is)
    (case k29 => k_is)
    (case a30 => k_is)
    (case l30 => k_is)
    (case c30 => k_is)
    (case k30 => k_is)
    (case a31 => k_is)
    (case l31 => k_is)
    (case c31 => k_is)
    (case k31 => k_is)
    (case a32 => k_is)
    (case l32 => k_is)
    (case c32 => k_is)
    (case k32 => k_is)
    (case a33 => k_is)
    (case l33 => k_is)
    (case c33 => k_is)
    (case k33 => k_is)
    (case pg_House => k_is)
    (case hd_House => k_is)
    (case po_House => k_is)
    (case sa_House => k_is)
    (case mk_House => k_is)
    (case kc_House => k_is)
    (case no_House_sellers => k_is)
    (case no_House_stock => k_is)
    (case no_House_books => k_is)
    (case no_House_queue => k_is)
    (case no_House_round => k_is)
    (case no_House_counts => k_is)
    (case no_House_outgoing => k_is)
    (case pg_Seller => k_is)
    (case hd_Seller => k_is)
    (case po_Seller => k_is)
    (case sa_Seller => k_is)
    (case mk_Seller => k_is)
    (case kc_Seller => k_is)
    (case no_Seller_setup => k_is)
    (case no_Seller_number => k_is)
    (case no_Seller_free => k_is)
    (case no_Seller_vouchers => k_is)
    (case no_Seller_book => k_is)
    (case no_Seller_closing => k_is)
    (case no_Seller_asked => k_is)
    (case no_Seller_waiting => k_is)
    (case no_Seller_count => k_is)
    (case no_Seller_outgoing => k_is)
    (case no_Seller_told => k_is)
    (case pg_Wire => k_is)
    (case hd_Wire => k_is)
    (case po_Wire => k_is)
    (case sa_Wire => k_is)
    (case mk_Wire => k_is)
    (case kc_Wire => k_is)
    (case no_Wire_sent => k_is)
    (case no_Wire_outbox => k_is)
    (case no_Wire_expected => k_is)
    (case pg_World => k_is)
    (case hd_World => k_is)
    (case po_World => k_is)
    (case sa_World => k_is)
    (case mk_World => k_is)
    (case kc_World => k_is)
    (case no_World_setup => k_is)
    (case no_World_house => k_is)
    (case no_World_sellers => k_is)
    (case no_World_net => k_is)
    (case no_World_history => k_is)
    (case no_World_down => k_is)
    (case no_World_deeds => k_is)
    (case no_World_asked => k_is)
    (case no_World_house_wires => k_is)
    (case no_World_seller_wires => k_is)
    (case aC_ManydoorsError => k_is)
    (case kx_ManydoorsError => k_is)
    (case ex_ManydoorsError => k_exc)
    (case sx_ManydoorsError => k_is)
    (case tx_ManydoorsError => k_is)
    (case aC_BadSetup => k_is)
    (case kx_BadSetup => k_is)
    (case ex_BadSetup => k_exc)
    (case sx_BadSetup => k_is)
    (case tx_BadSetup => k_is)
    (case aC_BadDeed => k_is)
    (case kx_BadDeed => k_is)
    (case ex_BadDeed => k_exc)
    (case sx_BadDeed => k_is)
    (case tx_BadDeed => k_is)
    (case gk_DEAREST => k_is)
    (case gk_KINDS => k_is)
    (case gk_NIGHTS => k_is)
    (case gk_SELLERS => k_is)
    (case gk_ROOMS => k_is)
    (case gk_PARTY => k_is)
    (case gk_HOUSE => k_is)
    (case gk_ROUNDS => k_is)
    (case y1_BadSetup => k_is)
    (case y2_BadSetup => k_is)
    (case y3_BadSetup => k_is)
    (case y4_BadSetup => k_is)
    (case y5_BadSetup => k_is)
    (case y6_BadSetup => k_is)
    (case y7_BadSetup => k_is)
    (case y1_BadDeed => k_is)
    (case y2_BadDeed => k_is)
    (case y3_BadDeed => k_is)
    (case y4_BadDeed => k_is)
    (case y5_BadDeed => k_is)
    (case y6_BadDeed => k_is)
    (case y7_BadDeed => k_is)
    (case q_k_ss => k_is)
    (case q_k_ds => k_is)
    (case q_k_dd => k_is)
    (case q_k_sd => kit_is)
    (case q_k_sm => kit_is)
    (case q_k_dm => kit_is)
    (case z_isinstance => k_is)
    (case z_int => k_is)
    (case z_bool => k_is)
    (case z_tuple => k_is)
    (case z_len => k_is)
    (case z_all => k_is)
    (case z_list => k_is)
    (case z_sorted => k_is)
    (case z_enumerate => k_is)
    (case z_range => k_is)
    (case z_any => k_is)
    (case z_str => k_is)
#print axioms PySem.Challenge.cw_manydoors_k47_worlds_that_are_none_holds


