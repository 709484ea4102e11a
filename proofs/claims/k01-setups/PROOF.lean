import PyProof.Rows.All
import Wide.All
import OpenK.AllK
import Wide.FinOn
import HandS.ForMost
import HandS.IsInst
import HandS.Evl
import HandS.Walk
import KE.GoesEnum
import KE.GoesMore
import HandS.Zip
import KE.SortData
import KE.KDictCopyH
import HandS.Conv
import HandS.Finally
import HandS.ForExc
import HandS.ExcIs
import HandS.TryMany
import HandS.TupMul
import HandS.Style
import KE.KIsAll
import KE.RegKIsAll
import PyProof.Rows.SeqMore
import PyProof.Rows.TupAdd
import PyProof.ReprRoads
import PyProof.Rows.RegFStrParts
import PySem.Challenge.RW_manydoors_k01_setups_are_checked
set_option Elab.async false
set_option linter.all false
set_option maxRecDepth 100000
set_option maxHeartbeats 1000000
namespace Lw
open PySem L2

/-! ### frames: what a piece of code leaves as it was -/
structure Fr (l : List Addr) (H H' : Hp) : Prop where
  keep : ∀ a o, H a = some o → a ∉ l → H' a = some o
  tup : ∀ a xs, H a = some (.tup xs) → H' a = some (.tup xs)
theorem Fr.refl {l : List Addr} {H : Hp} : Fr l H H := ⟨fun _ _ h _ => h, fun _ _ h => h⟩
theorem Fr.mono {l m : List Addr} {H H' : Hp} (f : Fr l H H') (h : ∀ a, a ∈ l → a ∈ m) : Fr m H H' := ⟨fun a o e n => f.keep a o e fun q => n (h a q), f.tup⟩
theorem Fr.of0 {m : List Addr} {H H' : Hp} (f : Fr [] H H') : Fr m H H' := f.mono fun _ q => nomatch q
theorem Fr.new {H : Hp} {p : Addr} {o : HO} (h : H p = none) : Fr [] H (upd H p o) := ⟨fun a u e _ => by rw [upd_ne (ne_of_none e h)]; exact e, fun a u e => by rw [upd_ne (ne_of_none e h)]; exact e⟩
def notTup : HO → Prop
  | .tup _ => False
  | _ => True
theorem Fr.put {H : Hp} {p : Addr} {o u : HO} (h : H p = some u) (hu : notTup u) : Fr [p] H (upd H p o) := by
  refine ⟨fun a v e n => ?_, fun a v e => ?_⟩
  · rw [upd_ne fun q => n (List.mem_singleton.mpr q)]; exact e
  · by_cases q : a = p
    · subst q; rw [h] at e; cases e; exact hu.elim
    · rw [upd_ne q]; exact e
theorem Fr.trans {l m : List Addr} {H H1 H2 : Hp} (f : Fr l H H1) (g : Fr m H1 H2) : Fr (l ++ m) H H2 :=
  ⟨fun a o e n => g.keep a o (f.keep a o e fun q => n (List.mem_append_left _ q)) fun q => n (List.mem_append_right _ q), fun a xs e => g.tup a xs (f.tup a xs e)⟩
theorem Fr.transL {l : List Addr} {H H1 H2 : Hp} (f : Fr l H H1) (g : Fr l H1 H2) : Fr l H H2 := (f.trans g).mono fun _ q => (List.mem_append.mp q).elim id id
theorem Fr.then0 {l : List Addr} {H H1 H2 : Hp} (f : Fr l H H1) (g : Fr [] H1 H2) : Fr l H H2 := f.transL g.of0
theorem Fr.pre0 {l : List Addr} {H H1 H2 : Hp} (f : Fr [] H H1) (g : Fr l H1 H2) : Fr l H H2 := f.of0.transL g
theorem Fr.pre0' {l : List Addr} {H H1 H2 : Hp} (g : Fr l H1 H2) (f : Fr [] H H1) : Fr l H H2 := f.pre0 g
/-- an address that was not tracked may be written -/
theorem Fr.drop {l : List Addr} {p : Addr} {H H' : Hp} (f : Fr (p :: l) H H') (h : H p = none) : Fr l H H' :=
  ⟨fun a o e n => f.keep a o e fun q => (List.mem_cons.mp q).elim (fun z => by rw [z, h] at e; cases e) n, f.tup⟩
theorem Fr.free {H H' : Hp} {p : Addr} (f : Fr [] H H') (h : H' p = none) : H p = none := by
  cases q : H p with
  | none => rfl
  | some o => rw [f.keep p o q (by simp)] at h; cases h
theorem Fr.freeL {l : List Addr} {H H' : Hp} {p : Addr} (f : Fr l H H') (h : H' p = none) (n : p ∉ l) : H p = none := by
  cases q : H p with
  | none => rfl
  | some o => rw [f.keep p o q n] at h; cases h
/-- new objects may change -/
theorem Fr.own {l m : List Addr} {H H' H2 : Hp} (f : Fr l H H') (g : Fr m H' H2) (n : ∀ a, a ∈ m → a ∈ l ∨ H a = none) : Fr l H H2 :=
  ⟨fun a o e na => g.keep a o (f.keep a o e na) fun q => (n a q).elim na (fun z => by rw [z] at e; cases e), fun a xs e => g.tup a xs (f.tup a xs e)⟩
theorem Fr.own1 {l : List Addr} {p : Addr} {H H' H2 : Hp} (f : Fr l H H') (g : Fr [p] H' H2) (n : H p = none) : Fr l H H2 := f.own g fun a q => .inr (by rw [List.mem_singleton.mp q]; exact n)
theorem frn0 {l : List Addr} {H : Hp} : ∀ a, a ∈ ([] : List Addr) → a ∈ l ∨ H a = none := fun _ q => nomatch q
theorem frn1 {p : Addr} {l m : List Addr} {H : Hp} (h : p ∈ l ∨ H p = none) (t : ∀ a, a ∈ m → a ∈ l ∨ H a = none) : ∀ a, a ∈ p :: m → a ∈ l ∨ H a = none := fun a q => (List.mem_cons.mp q).elim (fun e => e ▸ h) (t a)
theorem nin0 {a : Addr} : a ∉ ([] : List Addr) := by simp
theorem nin1 {a b : Addr} {l : List Addr} (h : a ≠ b) (t : a ∉ l) : a ∉ b :: l := by simp [h, t]
theorem Fr.tupAt {l : List Addr} {H H' : Hp} {a : Addr} {xs : List V} (f : Fr l H H') (h : H a = some (.tup xs)) : H' a = some (.tup xs) := f.tup a xs h
theorem Fr.at0 {H H' : Hp} {a : Addr} {o : HO} (f : Fr [] H H') (h : H a = some o) : H' a = some o := f.keep a o h nin0
theorem Fr.at {l : List Addr} {H H' : Hp} {a : Addr} {o : HO} (f : Fr l H H') (h : H a = some o) (n : a ∉ l) : H' a = some o := f.keep a o h n
theorem Fr.sql {K : PySem.W.Frag} {l : List Addr} {H H' : Hp} {a : Addr} {xs : List V} (f : Fr l H H') (h : SqL K H a xs) (n : a ∉ l) : SqL K H' a xs := by
  rcases h with (h | ⟨o, h⟩) | h
  · exact .inl (.inl (f.keep _ _ h n))
  · exact .inl (.inr ⟨o, f.keep _ _ h n⟩)
  · exact .inr h

/-! ### operators by name -/
def oAdd : R2 := rI0 fun i j => .int (i + j)
def oSub : R2 := rI0 fun i j => .int (i - j)
def oMul : R2 := rI CMul fun i j => .int (i * j)
def oMod : R2 := rI (fun _ j => 0 < j) fun i j => .int (i % j)
def oDiv : R2 := rI CDiv fun i j => .int (i / j)
def oPow : R2 := rI CPow fun i j => .int (i ^ j.toNat)
def cLt : R2 := rI0 fun i j => .bl (decide (i < j))
def cLe : R2 := rI0 fun i j => .bl (decide (i ≤ j))
def cGt : R2 := rI0 fun i j => .bl (decide (j < i))
def cGe : R2 := rI0 fun i j => .bl (decide (j ≤ i))
section
variable {X : Cx}
theorem o_add : OpR X (binaryOp .Add) oAdd := op_add
theorem o_sub : OpR X (binaryOp .Sub) oSub := op_sub
theorem o_mul : OpR X (binaryOp .Mult) oMul := op_mul
theorem o_mod : OpR X (binaryOp .Mod) oMod := op_mod
theorem o_div : OpR X (binaryOp .FloorDiv) oDiv := op_fdiv
theorem o_pow : OpR X (binaryOp .Pow) oPow := op_pow
theorem c_lt : OpR X (compareOp .Lt) cLt := op_lt
theorem c_le : OpR X (compareOp .LtE) cLe := op_le
theorem c_gt : OpR X (compareOp .Gt) cGt := op_gt
theorem c_ge : OpR X (compareOp .GtE) cGe := op_ge
/-- len -/
def rLenSq (K : PySem.W.Frag) : List V → Hp → VK → Prop := fun xs H Q => ∃ p ys, xs = [.ref p] ∧ (SqL K H p ys ∨ SqT K H p ys) ∧ Q (.int ys.length) H
def rLenStr : List V → Hp → VK → Prop := fun xs H Q => ∃ z, xs = [.str z] ∧ z.length ≤ sizeLine ∧ Q (.int z.length) H
theorem b_len : CallR X (.builtin "len") (rLenSq X.K) := call_len_seq
theorem b_lenS : CallR X (.builtin "len") rLenStr := call_len_str
/-- list(..), tuple(..) -/
def rListOf (K : PySem.W.Frag) : List V → Hp → VK → Prop := fun xs H Q => ∃ p ys, xs = [.ref p] ∧ (SqL K H p ys ∨ SqT K H p ys) ∧ ∀ l, H l = none → Q (.ref l) (upd H l (.lst ys))
def rTupOf (K : PySem.W.Frag) : List V → Hp → VK → Prop := fun xs H Q => ∃ p ys, xs = [.ref p] ∧ ((SqL K H p ys ∧ ∀ l, H l = none → Q (.ref l) (upd H l (.tup ys))) ∨ (SqT K H p ys ∧ Q (.ref p) H))
theorem b_list : CallR X (.type "list") (rListOf X.K) := call_list_of
theorem b_tuple : CallR X (.type "tuple") (rTupOf X.K) := call_tuple_of
def rMax2 : List V → Hp → VK → Prop := fun xs H Q => ∃ i j, xs = [.int i, .int j] ∧ Q (.int (if j > i then j else i)) H
def rMin2 : List V → Hp → VK → Prop := fun xs H Q => ∃ i j, xs = [.int i, .int j] ∧ Q (.int (if j < i then j else i)) H
theorem b_max2 (hc : X.calm = true) : CallR X (.builtin "max") rMax2 := call_max2 hc
theorem b_min2 (hc : X.calm = true) : CallR X (.builtin "min") rMin2 := call_min2 hc
def rIsNon : R2 := fun x y H Q => y = .non ∧ Q (.bl (decide (x = .non))) H
def rIsNotNon : R2 := fun x y H Q => y = .non ∧ Q (.bl (!decide (x = .non))) H
theorem c_isN : OpR X (compareOp .Is) rIsNon := op_isN
theorem c_notN : OpR X (compareOp .IsNot) rIsNotNon := op_notN
/-- a value's truth, as a test -/
def tTr (K : PySem.W.Frag) (ta : TE) : TT := fun σ H Q => ta σ H fun x H' => ∃ k, TruV K x H' k ∧ Q k H'
theorem pt_tr {a : Expr} {ta : TE} (ha : PE X a ta) (he : ∀ whole, isTrue a X.env whole = (do let v ← whole; standAt a.pos; holding [v] (truthy v))) : PT X a (tTr X.K ta) := pt_truth ha he

/-! ### calls -/
def tCl (sp : Sp) (t : TA) : TE := fun σ H Q => t σ H fun vs H1 => sp vs H1 Q E0
def rMt (C : Addr) (m : Str) (x : V) (H : Hp) (p : Prop) : Prop := ∃ a dx fs, x = .ref a ∧ H a = some (.ins C dx fs) ∧ fs.lookup m = none ∧ p
def tMt (C : Addr) (m : Str) (sp : Sp) (ta : TE) (t : TA) : TE := fun σ H Q => ta σ H fun x H1 => rMt C m x H1 (t σ H1 fun vs H2 => sp (x :: vs) H2 Q E0)
def tMk (C : Addr) (sp : Sp) (t : TA) : TE := fun σ H Q => t σ H fun vs H1 => ∀ x dx, H1 x = none → H1 dx = none → dx ≠ x →
  sp (.ref x :: vs) (upd (upd H1 dx (.own x)) x (.ins C dx [])) (fun v H2 => v = .non ∧ Q (.ref x) H2) E0
/-- a def of the text, to be called by its name -/
structure Cal (P : Program) (w : World) (K : PySem.W.Frag) (mg : Str → Option Value) (base : Heap) (x : Str) (k : Nat) (ps : List Str) (sp : Sp) : Prop where
  ex : ∃ f fd, FnOk P w K mg base CX0 k f fd ps sp ∧ mg x = some (.ref f) ∧ PySem.W.keepIn K (.ref f) = true ∧ Binds K fd ps []
/-- a method of the class at C -/
structure CalM (P : Program) (w : World) (K : PySem.W.Frag) (mg : Str → Option Value) (base : Heap) (C : Addr) (m : Str) (k : Nat) (ps : List Str) (sp : Sp) : Prop where
  ex : ∃ f fd, FnOk P w K mg base CX0 k f fd ps sp ∧ Meth K C m f ∧ Binds K fd ps []
/-- a class, to be called by its name -/
structure CalC (P : Program) (w : World) (K : PySem.W.Frag) (mg : Str → Option Value) (base : Heap) (x : Str) (C : Addr) (k : Nat) (ps : List Str) (sp : Sp) : Prop where
  ex : ∃ f fd, FnOk P w K mg base CX0 k f fd ps sp ∧ Mk K C f ∧ mg x = some (.ref C) ∧ Binds K fd ps []
variable {k : Nat} {ps : List Str} {sp : Sp} {x m : Str} {p pos apos : Pos} {e o : Expr} {es : List Expr} {ta : TE} {t : TA} {C : Addr}
theorem tcl_eq {E : XK} : (tCall sp [] E0 t) = tCl sp t := by
  funext σ H Q
  show (t σ H fun vs H1 => sp (vs ++ []) H1 Q E0) = (t σ H fun vs H1 => sp vs H1 Q E0)
  simp only [List.append_nil]
theorem pe_cl (c : Cal X.prog X.w X.K X.mg X.base x k ps sp) (hr : Room k X.A) (hg : Gl X x) (ha : PA X (e :: es) t) (hdb : (x == ("__debug__" : Str)) = false := by decide)
    (he : starEach (e :: es) X.env = (false, eval e X.env) :: starEach es X.env := by rfl) (hpl : (backTo pos (starEach es X.env)).any (·.1) = false := by rfl) : PE X (.Call (.Name x p) (e :: es) [] pos) (tCl sp t) := by
  obtain ⟨f, fd, F, hm, hk, hb⟩ := c.ex
  rw [← tcl_eq (E := E0)]
  exact pe_call F hr hg hm hk hb .nil pass0 ha hdb he hpl
theorem pe_cl0 (c : Cal X.prog X.w X.K X.mg X.base x k ps sp) (hr : Room k X.A) (hg : Gl X x) (hdb : (x == ("__debug__" : Str)) = false := by decide) : PE X (.Call (.Name x p) [] [] pos) (tCl sp tNil) := by
  obtain ⟨f, fd, F, hm, hk, hb⟩ := c.ex
  rw [← tcl_eq (E := E0)]
  exact pe_call0 F hr hg hm hk hb .nil pass0 hdb
theorem tmt_eq : (tMeth C m sp [] E0 ta t) = tMt C m sp ta t := by
  funext σ H Q
  show (ta σ H fun x H1 => ∃ a dx fs, x = .ref a ∧ H1 a = some (.ins C dx fs) ∧ fs.lookup m = none ∧ t σ H1 fun vs H2 => sp (x :: (vs ++ [])) H2 Q E0) = _
  simp only [List.append_nil]
  rfl
theorem tmk_eq : (tMake C sp [] E0 t) = tMk C sp t := by
  funext σ H Q
  show (t σ H fun vs H1 => ∀ x dx, H1 x = none → H1 dx = none → dx ≠ x → sp (.ref x :: (vs ++ [])) (upd (upd H1 dx (.own x)) x (.ins C dx [])) (fun v H2 => v = .non ∧ Q (.ref x) H2) E0) = _
  simp only [List.append_nil]
  rfl
theorem pe_mt {pl : Sem Bool} (he : PE X o ta) (c : Cls X.K C) (cm : CalM X.prog X.w X.K X.mg X.base C m k ps sp) (hr : Room k X.A) (ha : PA X (e :: es) t)
    (hst : starEach (e :: es) X.env = (false, eval e X.env) :: starEach es X.env := by rfl) (hpl : (backTo pos (starEach es X.env)).any (·.1) = false := by rfl)
    (ht : eval (.Call (.Attribute o m apos) (e :: es) [] pos) X.env = (do
      let ov ← eval o X.env
      standAt apos.atName
      let (f, first) ← holding [ov] (getMethod ov m pl)
      callWith pos f first (backTo pos (starEach (e :: es) X.env)) (backToKw pos (keywordEach [] X.env))) := by rfl) :
    PE X (.Call (.Attribute o m apos) (e :: es) [] pos) (tMt C m sp ta t) := by
  obtain ⟨f, fd, F, hm, hb⟩ := cm.ex
  rw [← tmt_eq]
  exact pe_meth (pl := pl) he c hm F hr hb .nil pass0 ha hst hpl ht
theorem pe_mt0 {pl : Sem Bool} (he : PE X o ta) (c : Cls X.K C) (cm : CalM X.prog X.w X.K X.mg X.base C m k ps sp) (hr : Room k X.A)
    (ht : eval (.Call (.Attribute o m apos) [] [] pos) X.env = (do
      let ov ← eval o X.env
      standAt apos.atName
      let (f, first) ← holding [ov] (getMethod ov m pl)
      callWith pos f first (backTo pos (starEach [] X.env)) (backToKw pos (keywordEach [] X.env))) := by rfl) :
    PE X (.Call (.Attribute o m apos) [] [] pos) (tMt C m sp ta tNil) := by
  obtain ⟨f, fd, F, hm, hb⟩ := cm.ex
  rw [← tmt_eq]
  exact pe_meth0 (pl := pl) he c hm F hr hb .nil pass0 ht
theorem pe_mk (cm : CalC X.prog X.w X.K X.mg X.base x C k ps sp) (hr : Room (k + 1) X.A) (hg : Gl X x) (ha : PA X (e :: es) t) (hdb : (x == ("__debug__" : Str)) = false := by decide)
    (he : starEach (e :: es) X.env = (false, eval e X.env) :: starEach es X.env := by rfl) (hpl : (backTo pos (starEach es X.env)).any (·.1) = false := by rfl) :
    PE X (.Call (.Name x p) (e :: es) [] pos) (tMk C sp t) := by
  obtain ⟨f, fd, F, hM, hm, hb⟩ := cm.ex
  rw [← tmk_eq]
  exact pe_make hM F hr hg hm hb .nil pass0 ha hdb he hpl
theorem pe_mk0 (cm : CalC X.prog X.w X.K X.mg X.base x C k ps sp) (hr : Room (k + 1) X.A) (hg : Gl X x) (hdb : (x == ("__debug__" : Str)) = false := by decide) :
    PE X (.Call (.Name x p) [] [] pos) (tMk C sp tNil) := by
  obtain ⟨f, fd, F, hM, hm, hb⟩ := cm.ex
  rw [← tmk_eq]
  exact pe_make0 hM F hr hg hm hb .nil pass0 hdb
end

/-! ### readings, one step each -/
section
variable {K : PySem.W.Frag} {σ : L2.St} {H H' : Hp} {Q : VK} {D : Ends} {i : Nat} {v x y : V} {ta tb te tc : TE} {r : R2} {t u : TS} {c d : TT} {as tr : TA} {g : TG} {a b : Int} {p C dx : Addr} {QB : Bool → Hp → Prop} {QL : List V → Hp → Prop}
theorem g_seq (h : t { D with nx := u D } σ H) : tSeq t u D σ H := h
theorem g_cut (M : L2.St → Hp → Prop) (h : t { D with nx := M } σ H) (k : ∀ σ' H', M σ' H' → u D σ' H') : Evl.tCut t u D σ H := ⟨M, h, k⟩
theorem g_next (h : D.nx σ H) : tNext D σ H := h
theorem g_brk (h : D.bk σ H) : tBreak D σ H := h
theorem g_cont (h : D.ct σ H) : tCont D σ H := h
theorem g_asg (h : te σ H (fun v H' => g v σ H' D.nx)) : tAsg te g D σ H := h
theorem g_name {QS : L2.St → Hp → Prop} (h : QS (σ.set i (some v)) H) : gName i v σ H QS := h
theorem g_ret (h : te σ H D.rt) : tRet te D σ H := h
theorem g_retN (h : D.rt .non H) : tRetN D σ H := h
theorem g_drop (h : te σ H (fun _ H' => D.nx σ H')) : tDrop te D σ H := h
theorem g_ifs (h : c σ H (fun b H' => if b = true then t D σ H' else u D σ H')) : tIfS c t u D σ H := h
theorem g_aug {ti : TIp} (hx : σ[i]? = some (some x)) (h : te σ H (fun y H1 => ti x y H1 fun z H2 => D.nx (σ.set i (some z)) H2)) : tAug i te ti D σ H := ⟨x, hx, h⟩
theorem g_ipI {f : Int → Int → Int} (h : Q (.int (f a b)) H) : ipI f (.int a) (.int b) H Q := ⟨a, b, rfl, rfl, h⟩
theorem g_var (hx : σ[i]? = some (some v)) (h : Q v H) : tVar i σ H Q := ⟨v, hx, h⟩
theorem g_c (h : Q v H) : tC v σ H Q := h
theorem g_op (h : ta σ H (fun x H1 => tb σ H1 fun y H2 => r x y H2 Q)) : tOp r ta tb σ H Q := h
theorem g_add (h : Q (.int (a + b)) H) : oAdd (.int a) (.int b) H Q := ⟨a, b, rfl, rfl, h⟩
theorem g_sub (h : Q (.int (a - b)) H) : oSub (.int a) (.int b) H Q := ⟨a, b, rfl, rfl, h⟩
theorem g_mul (hc : CMul a b) (h : Q (.int (a * b)) H) : oMul (.int a) (.int b) H Q := ⟨a, b, rfl, rfl, hc, h⟩
theorem g_mod (hc : 0 < b) (h : Q (.int (a % b)) H) : oMod (.int a) (.int b) H Q := ⟨a, b, rfl, rfl, hc, h⟩
theorem g_div (hc : CDiv a b) (h : Q (.int (a / b)) H) : oDiv (.int a) (.int b) H Q := ⟨a, b, rfl, rfl, hc, h⟩
theorem g_pow (hc : CPow a b) (h : Q (.int (a ^ b.toNat)) H) : oPow (.int a) (.int b) H Q := ⟨a, b, rfl, rfl, hc, h⟩
theorem g_lt (h : Q (.bl (decide (a < b))) H) : cLt (.int a) (.int b) H Q := ⟨a, b, rfl, rfl, h⟩
theorem g_le (h : Q (.bl (decide (a ≤ b))) H) : cLe (.int a) (.int b) H Q := ⟨a, b, rfl, rfl, h⟩
theorem g_gt (h : Q (.bl (decide (b < a))) H) : cGt (.int a) (.int b) H Q := ⟨a, b, rfl, rfl, h⟩
theorem g_ge (h : Q (.bl (decide (b ≤ a))) H) : cGe (.int a) (.int b) H Q := ⟨a, b, rfl, rfl, h⟩
theorem g_eqI (h : Q (.bl (decide (a = b))) H) : rEq (.int a) (.int b) H Q := ⟨rfl, by rw [show decide (V.int a = V.int b) = decide (a = b) from by simp]; exact h⟩
theorem g_neI (h : Q (.bl (!decide (a = b))) H) : rNe (.int a) (.int b) H Q := ⟨rfl, by rw [show decide (V.int a = V.int b) = decide (a = b) from by simp]; exact h⟩
theorem g_eqS {a b : Str} (h : Q (.bl (decide (a = b))) H) : rEq (.str a) (.str b) H Q := ⟨rfl, by rw [show decide (V.str a = V.str b) = decide (a = b) from by simp]; exact h⟩
theorem g_neS {a b : Str} (h : Q (.bl (!decide (a = b))) H) : rNe (.str a) (.str b) H Q := ⟨rfl, by rw [show decide (V.str a = V.str b) = decide (a = b) from by simp]; exact h⟩
theorem g_eqB {a b : Bool} (h : Q (.bl (decide (a = b))) H) : rEq (.bl a) (.bl b) H Q := ⟨rfl, by rw [show decide (V.bl a = V.bl b) = decide (a = b) from by simp]; exact h⟩
theorem g_isN (h : Q (.bl (decide (x = .non))) H) : rIsNon x .non H Q := ⟨rfl, h⟩
theorem g_notN (h : Q (.bl (!decide (x = .non))) H) : rIsNotNon x .non H Q := ⟨rfl, h⟩
theorem g_test (h : te σ H (fun x H' => ∃ k, x = .bl k ∧ QB k H')) : tTest te σ H QB := h
theorem g_tb (h : te σ H (fun x H' => ∃ k, x = .bl k ∧ QB k H')) : tB te σ H QB := h
theorem g_bl {k : Bool} {P : Bool → Prop} (h : P k) : ∃ k', V.bl k = V.bl k' ∧ P k' := ⟨k, rfl, h⟩
theorem g_and (h : c σ H (fun b H1 => if b = true then d σ H1 QB else QB false H1)) : tAnd c d σ H QB := h
theorem g_or (h : c σ H (fun b H1 => if b = true then QB true H1 else d σ H1 QB)) : tOr c d σ H QB := h
theorem g_not (h : c σ H (fun b H1 => QB (!b) H1)) : tNot c σ H QB := h
theorem g_andV (h : ta σ H (fun x H1 => ∃ c, x = .bl c ∧ if c = true then tb σ H1 Q else Q (.bl false) H1)) : tAndV ta tb σ H Q := h
theorem g_orV (h : ta σ H (fun x H1 => ∃ c, x = .bl c ∧ if c = true then Q (.bl true) H1 else tb σ H1 Q)) : tOrV ta tb σ H Q := h
theorem g_notV (h : ta σ H (fun x H1 => ∃ c, x = .bl c ∧ Q (.bl (!c)) H1)) : tNotV ta σ H Q := h
theorem g_ifE (h : c σ H (fun b H1 => if b = true then ta σ H1 Q else tb σ H1 Q)) : tIf c ta tb σ H Q := h
theorem g_ite {P : Prop} [Decidable P] {A B : Prop} (h1 : P → A) (h2 : ¬ P → B) : if decide P = true then A else B := by
  by_cases h : P
  · rw [if_pos (decide_eq_true h)]; exact h1 h
  · rw [if_neg (by simp [h])]; exact h2 h
theorem g_iteN {P : Prop} [Decidable P] {A B : Prop} (h1 : ¬ P → A) (h2 : P → B) : if (!decide P) = true then A else B := by
  by_cases h : P
  · rw [if_neg (by simp [h])]; exact h2 h
  · rw [if_pos (by simp [h])]; exact h1 h
theorem g_iteB {k : Bool} {A B : Prop} (h1 : k = true → A) (h2 : k = false → B) : if k = true then A else B := by
  cases k with
  | true => rw [if_pos rfl]; exact h1 rfl
  | false => rw [if_neg Bool.false_ne_true]; exact h2 rfl
theorem g_iteNB {k : Bool} {A B : Prop} (h1 : k = false → A) (h2 : k = true → B) : if (!k) = true then A else B := by
  cases k with
  | true => rw [if_neg (by decide)]; exact h2 rfl
  | false => rw [if_pos (by decide)]; exact h1 rfl
theorem g_iteT {A B : Prop} (h : A) : if true = true then A else B := by rw [if_pos rfl]; exact h
theorem g_iteF {A B : Prop} (h : B) : if false = true then A else B := by rw [if_neg Bool.false_ne_true]; exact h
theorem g_iteNT {A B : Prop} (h : B) : if (!true) = true then A else B := by rw [if_neg (by decide)]; exact h
theorem g_iteNF {A B : Prop} (h : A) : if (!false) = true then A else B := by rw [if_pos (by decide)]; exact h
theorem g_nil (h : QL [] H) : tNil σ H QL := h
theorem g_cons (h : te σ H (fun x H1 => as σ H1 fun xs H2 => QL (x :: xs) H2)) : tCons te as σ H QL := h
theorem g_cb {rr : List V → Hp → VK → Prop} (h : as σ H (fun vs H1 => rr vs H1 Q)) : tCB rr as σ H Q := h
theorem g_cl {sp : Sp} (h : as σ H (fun vs H1 => sp vs H1 Q E0)) : tCl sp as σ H Q := h
/-- a new tuple, a new list -/
def rNewT (vs : List V) (H : Hp) (Q : VK) : Prop := vs.length ≤ sizeLine ∧ ∀ p, H p = none → Q (.ref p) (upd H p (.tup vs))
def rNewL (vs : List V) (H : Hp) (Q : VK) : Prop := vs.length ≤ sizeLine ∧ ∀ p, H p = none → Q (.ref p) (upd H p (.lst vs))
theorem g_tup (h : as σ H (fun vs H1 => rNewT vs H1 Q)) : tTup as σ H Q := h
theorem g_lst (h : as σ H (fun vs H1 => rNewL vs H1 Q)) : tLst as σ H Q := h
theorem g_newT {vs : List V} (hl : vs.length ≤ sizeLine) (h : ∀ p H', H p = none → Fr [] H H' → H' p = some (.tup vs) → Q (.ref p) H') : rNewT vs H Q := ⟨hl, fun p hp => h p _ hp (Fr.new hp) upd_same⟩
theorem g_newL {vs : List V} (hl : vs.length ≤ sizeLine) (h : ∀ p H', H p = none → Fr [] H H' → H' p = some (.lst vs) → Q (.ref p) H') : rNewL vs H Q := ⟨hl, fun p hp => h p _ hp (Fr.new hp) upd_same⟩
theorem g_ixL {xs : List V} {k : Int} (h : SqL K H p xs) (ha : atI xs k = some v) (q : Q v H) : rIxL K (.ref p) (.int k) H Q := ⟨p, xs, k, v, rfl, rfl, h, ha, q⟩
theorem g_ixT {xs : List V} {k : Int} (h : SqT K H p xs) (ha : atI xs k = some v) (q : Q v H) : rIxT K (.ref p) (.int k) H Q := ⟨p, xs, k, v, rfl, rfl, h, ha, q⟩
theorem g_lenL {xs : List V} (h : SqL K H p xs) (q : Q (.int xs.length) H) : rLenSq K [.ref p] H Q := ⟨p, xs, rfl, .inl h, q⟩
theorem g_lenT {xs : List V} (h : SqT K H p xs) (q : Q (.int xs.length) H) : rLenSq K [.ref p] H Q := ⟨p, xs, rfl, .inr h, q⟩
theorem g_listL {xs : List V} (h : SqL K H p xs) (q : ∀ l H', H l = none → Fr [] H H' → H' l = some (.lst xs) → Q (.ref l) H') : rListOf K [.ref p] H Q := ⟨p, xs, rfl, .inl h, fun l hl => q l _ hl (Fr.new hl) upd_same⟩
theorem g_listT {xs : List V} (h : SqT K H p xs) (q : ∀ l H', H l = none → Fr [] H H' → H' l = some (.lst xs) → Q (.ref l) H') : rListOf K [.ref p] H Q := ⟨p, xs, rfl, .inr h, fun l hl => q l _ hl (Fr.new hl) upd_same⟩
theorem g_tupL {xs : List V} (h : SqL K H p xs) (q : ∀ l H', H l = none → Fr [] H H' → H' l = some (.tup xs) → Q (.ref l) H') : rTupOf K [.ref p] H Q := ⟨p, xs, rfl, .inl ⟨h, fun l hl => q l _ hl (Fr.new hl) upd_same⟩⟩
theorem g_max2 (q : Q (.int (if b > a then b else a)) H) : rMax2 [.int a, .int b] H Q := ⟨a, b, rfl, q⟩
theorem g_min2 (q : Q (.int (if b < a then b else a)) H) : rMin2 [.int a, .int b] H Q := ⟨a, b, rfl, q⟩
def rBM (K : PySem.W.Frag) (T : String) (x : V) (H : Hp) (P : Prop) : Prop := tyV K T x H ∧ P
theorem g_bm {T : String} {rr : V → List V → Hp → VK → Prop} (h : te σ H (fun x H1 => rBM K T x H1 (as σ H1 fun xs H2 => rr x xs H2 Q))) : tBM K T rr te as σ H Q := h
theorem g_bm0 {T : String} {rr : V → List V → Hp → VK → Prop} (h : te σ H (fun x H1 => rBM K T x H1 (rr x [] H1 Q))) : tBM0 K T rr te σ H Q := h
theorem g_bmL {xs : List V} {P : Prop} (h : H p = some (.lst xs)) (q : P) : rBM K "list" (.ref p) H P := ⟨.inl ⟨rfl, xs, SqL.of h⟩, q⟩
theorem g_append {xs : List V} (h : H p = some (.lst xs)) (hl : xs.length < sizeLine) (q : ∀ H', Fr [p] H H' → H' p = some (.lst (xs ++ [y])) → Q .non H') : rAppend (.ref p) [y] H Q := ⟨p, xs, y, rfl, rfl, h, hl, q _ (Fr.put h trivial) upd_same⟩
theorem g_clear {xs : List V} (h : H p = some (.lst xs)) (q : ∀ H', Fr [p] H H' → H' p = some (.lst []) → Q .non H') : rClear (.ref p) [] H Q := ⟨p, xs, rfl, rfl, h, q _ (Fr.put h trivial) upd_same⟩
theorem g_sub1 {to ti : TE} {ts : TSet} {QS : L2.St → Hp → Prop} (h : to σ H (fun o H1 => ti σ H1 fun i H2 => ts o i v H2 fun H3 => QS σ H3)) : gSub to ti ts v σ H QS := h
theorem g_setL {xs : List V} {k : Int} {j : Nat} {P : Hp → Prop} (h : H p = some (.lst xs)) (hj : ixN xs.length k = some j) (q : ∀ H', Fr [p] H H' → H' p = some (.lst (xs.set j v)) → P H') : rSetL (.ref p) (.int k) v H P := ⟨p, xs, k, j, rfl, rfl, h, hj, q _ (Fr.put h trivial) upd_same⟩
/-- attributes -/
def rFld (K : PySem.W.Frag) (f : Str) (x : V) (H : Hp) (Q : VK) : Prop := ∃ a C dx fs v, x = .ref a ∧ H a = some (.ins C dx fs) ∧ Cls K C ∧ NoAttr K C f ∧ fs.lookup f = some v ∧ Q v H
theorem g_fld {f : Str} (h : ta σ H (fun x H1 => rFld K f x H1 Q)) : tFld K ta f σ H Q := h
theorem g_rfld {f : Str} {fs : List (Str × V)} (h : H p = some (.ins C dx fs)) (c : Cls K C) (n : NoAttr K C f) (l : fs.lookup f = some v) (q : Q v H) : rFld K f (.ref p) H Q := ⟨p, C, dx, fs, v, rfl, h, c, n, l, q⟩
def rFldS (K : PySem.W.Frag) (f : Str) (x v : V) (H : Hp) (P : Hp → Prop) : Prop := ∃ a C dx fs, x = .ref a ∧ H a = some (.ins C dx fs) ∧ Cls K C ∧ NoAttr K C f ∧ fs.length < 1000 ∧ P (upd H a (.ins C dx (putF f v fs)))
theorem g_sfld {f : Str} (h : tb σ H (fun y H1 => ta σ H1 fun x H2 => rFldS K f x y H2 fun H3 => D.nx σ H3)) : sFld K ta tb f D σ H := h
theorem g_rflds {f : Str} {fs gs : List (Str × V)} {P : Hp → Prop} (h : H p = some (.ins C dx fs)) (c : Cls K C) (n : NoAttr K C f) (hl : fs.length < 1000) (e : putF f v fs = gs) (q : ∀ H', Fr [p] H H' → H' p = some (.ins C dx gs) → P H') : rFldS K f (.ref p) v H P :=
  ⟨p, C, dx, fs, rfl, h, c, n, hl, q _ (Fr.put h trivial) (by rw [e]; exact upd_same)⟩
def rFldA (K : PySem.W.Frag) (f : Str) (tv : TE) (rd : V → V → Hp → VK → Prop) (x : V) (σ : L2.St) (H : Hp) (D : Ends) : Prop := ∃ a C dx fs v, x = .ref a ∧ H a = some (.ins C dx fs) ∧ Cls K C ∧ NoAttr K C f ∧ fs.lookup f = some v ∧
  tv σ H fun y H2 => rd v y H2 fun z H3 => ∃ dx' fs', H3 a = some (.ins C dx' fs') ∧ fs'.length < 1000 ∧ D.nx σ (upd H3 a (.ins C dx' (putF f z fs')))
theorem g_flda {f : Str} {rd : V → V → Hp → VK → Prop} (h : ta σ H (fun x H1 => rFldA K f tb rd x σ H1 D)) : sFldAug K ta tb rd f D σ H := h
def rFldB (a C : Addr) (f : Str) (z : V) (H3 : Hp) (P : Hp → Prop) : Prop := ∃ dx' fs', H3 a = some (.ins C dx' fs') ∧ fs'.length < 1000 ∧ P (upd H3 a (.ins C dx' (putF f z fs')))
theorem g_rflda {f : Str} {fs : List (Str × V)} {rd : V → V → Hp → VK → Prop} (h : H p = some (.ins C dx fs)) (c : Cls K C) (n : NoAttr K C f) (l : fs.lookup f = some v) (q : tb σ H fun y H2 => rd v y H2 fun z H3 => rFldB p C f z H3 fun H4 => D.nx σ H4) : rFldA K f tb rd (.ref p) σ H D :=
  ⟨p, C, dx, fs, v, rfl, h, c, n, l, q⟩
theorem g_rfldb {f : Str} {fs gs : List (Str × V)} {P : Hp → Prop} (h : H p = some (.ins C dx fs)) (hl : fs.length < 1000) (e : putF f v fs = gs) (q : ∀ H', Fr [p] H H' → H' p = some (.ins C dx gs) → P H') : rFldB p C f v H P :=
  ⟨dx, fs, h, hl, q _ (Fr.put h trivial) (by rw [e]; exact upd_same)⟩
theorem g_rAdd (h : Q (.int (a + b)) H) : rAdd (.int a) (.int b) H Q := ⟨a, b, rfl, rfl, h⟩
theorem g_rSub (h : Q (.int (a - b)) H) : rSub (.int a) (.int b) H Q := ⟨a, b, rfl, rfl, h⟩
theorem g_mt {m : Str} {sp : Sp} (h : ta σ H (fun x H1 => rMt C m x H1 (as σ H1 fun vs H2 => sp (x :: vs) H2 Q E0))) : tMt C m sp ta as σ H Q := h
theorem g_rmt {m : Str} {fs : List (Str × V)} {P : Prop} (h : H p = some (.ins C dx fs)) (l : fs.lookup m = none) (q : P) : rMt C m (.ref p) H P := ⟨p, dx, fs, rfl, h, l, q⟩
def rMk (C : Addr) (sp : Sp) (vs : List V) (H1 : Hp) (Q : VK) : Prop := ∀ x dx, H1 x = none → H1 dx = none → dx ≠ x →
  sp (.ref x :: vs) (upd (upd H1 dx (.own x)) x (.ins C dx [])) (fun v H2 => v = .non ∧ Q (.ref x) H2) E0
theorem g_mk {sp : Sp} (h : as σ H (fun vs H1 => rMk C sp vs H1 Q)) : tMk C sp as σ H Q := h
theorem g_rmk {sp : Sp} {vs : List V} (k : ∀ x dx H2, H x = none → H dx = none → dx ≠ x → Fr [] H H2 → H2 x = some (.ins C dx []) → H2 dx = some (.own x) → sp (.ref x :: vs) H2 (fun v H3 => v = .non ∧ Q (.ref x) H3) E0) : rMk C sp vs H Q := by
  intro x dx nx nd ne
  refine k x dx _ nx nd ne ?_ upd_same (by rw [upd_ne ne]; exact upd_same)
  have f1 : Fr [] H (upd H dx (.own x)) := Fr.new nd
  exact f1.then0 (Fr.new (by rw [upd_ne ne.symm]; exact nx))
end

/-! ### isinstance against a built-in class -/
theorem kb_NoneType_list : kitB "NoneType" "list" = some false := by decide +kernel
theorem kb_NoneType_tuple : kitB "NoneType" "tuple" = some false := by decide +kernel
theorem kb_NoneType_bool : kitB "NoneType" "bool" = some false := by decide +kernel
theorem kb_NoneType_int : kitB "NoneType" "int" = some false := by decide +kernel
theorem kb_NoneType_str : kitB "NoneType" "str" = some false := by decide +kernel
theorem kb_NoneType_dict : kitB "NoneType" "dict" = some false := by decide +kernel
theorem kb_bool_list : kitB "bool" "list" = some false := by decide +kernel
theorem kb_bool_tuple : kitB "bool" "tuple" = some false := by decide +kernel
theorem kb_bool_bool : kitB "bool" "bool" = some true := by decide +kernel
theorem kb_bool_int : kitB "bool" "int" = some true := by decide +kernel
theorem kb_bool_str : kitB "bool" "str" = some false := by decide +kernel
theorem kb_bool_dict : kitB "bool" "dict" = some false := by decide +kernel
theorem kb_int_list : kitB "int" "list" = some false := by decide +kernel
theorem kb_int_tuple : kitB "int" "tuple" = some false := by decide +kernel
theorem kb_int_bool : kitB "int" "bool" = some false := by decide +kernel
theorem kb_int_int : kitB "int" "int" = some true := by decide +kernel
theorem kb_int_str : kitB "int" "str" = some false := by decide +kernel
theorem kb_int_dict : kitB "int" "dict" = some false := by decide +kernel
theorem kb_str_list : kitB "str" "list" = some false := by decide +kernel
theorem kb_str_tuple : kitB "str" "tuple" = some false := by decide +kernel
theorem kb_str_bool : kitB "str" "bool" = some false := by decide +kernel
theorem kb_str_int : kitB "str" "int" = some false := by decide +kernel
theorem kb_str_str : kitB "str" "str" = some true := by decide +kernel
theorem kb_str_dict : kitB "str" "dict" = some false := by decide +kernel
theorem kb_list_list : kitB "list" "list" = some true := by decide +kernel
theorem kb_list_tuple : kitB "list" "tuple" = some false := by decide +kernel
theorem kb_list_bool : kitB "list" "bool" = some false := by decide +kernel
theorem kb_list_int : kitB "list" "int" = some false := by decide +kernel
theorem kb_list_str : kitB "list" "str" = some false := by decide +kernel
theorem kb_list_dict : kitB "list" "dict" = some false := by decide +kernel
theorem kb_tuple_list : kitB "tuple" "list" = some false := by decide +kernel
theorem kb_tuple_tuple : kitB "tuple" "tuple" = some true := by decide +kernel
theorem kb_tuple_bool : kitB "tuple" "bool" = some false := by decide +kernel
theorem kb_tuple_int : kitB "tuple" "int" = some false := by decide +kernel
theorem kb_tuple_str : kitB "tuple" "str" = some false := by decide +kernel
theorem kb_tuple_dict : kitB "tuple" "dict" = some false := by decide +kernel
theorem kb_dict_list : kitB "dict" "list" = some false := by decide +kernel
theorem kb_dict_tuple : kitB "dict" "tuple" = some false := by decide +kernel
theorem kb_dict_bool : kitB "dict" "bool" = some false := by decide +kernel
theorem kb_dict_int : kitB "dict" "int" = some false := by decide +kernel
theorem kb_dict_str : kitB "dict" "str" = some false := by decide +kernel
theorem kb_dict_dict : kitB "dict" "dict" = some true := by decide +kernel

theorem g_isi {K : PySem.W.Frag} {H : Hp} {Q : VK} {x : V} {a b : String} {r : Bool} (ty : TyX K H x (.type a)) (h : kitB a b = some r) (q : Q (.bl r) H) : rIsi K [x, .ty b] H Q := ⟨x, .ty b, .type a, .type b, r, rfl, .ty b, ty, kit_ty h, q⟩
/-! ### immutable and other data -/
mutual
inductive Da (H : Hp) : V → PyData → Prop
  | non : Da H .non .none
  | bl (b : Bool) : Da H (.bl b) (.bool b)
  | int (i : Int) : Da H (.int i) (.int i)
  | str (x : Str) : Da H (.str x) (.str x)
  | lst {a : Addr} {xs : List V} {ds : List PyData} : H a = some (.lst xs) → xs.length ≤ 1000000 → DaL H xs ds → Da H (.ref a) (.list ds)
  | tup {a : Addr} {xs : List V} {ds : List PyData} : H a = some (.tup xs) → xs.length ≤ 1000000 → DaL H xs ds → Da H (.ref a) (.tuple ds)
inductive DaL (H : Hp) : List V → List PyData → Prop
  | nil : DaL H [] []
  | cons {v : V} {vs : List V} {d : PyData} {ds : List PyData} : Da H v d → DaL H vs ds → DaL H (v :: vs) (d :: ds)
end
/-! how deep -/
mutual
def dp : PyData → Nat
  | .list ds => dpL ds + 1
  | .tuple ds => dpL ds + 1
  | _ => 0
def dpL : List PyData → Nat
  | [] => 0
  | d :: ds => max (dp d) (dpL ds)
end
/-! no list within -/
mutual
def imm : PyData → Bool
  | .list _ => false
  | .tuple ds => immL ds
  | _ => true
def immL : List PyData → Bool
  | [] => true
  | d :: ds => imm d && immL ds
end
theorem DaL.len {H : Hp} : ∀ {vs : List V} {ds : List PyData}, DaL H vs ds → vs.length = ds.length
  | _, _, .nil => rfl
  | _, _, .cons _ t => by rw [List.length_cons, List.length_cons, DaL.len t]
theorem DaL.get {H : Hp} : ∀ {vs : List V} {ds : List PyData} {i : Nat} {v : V}, DaL H vs ds → vs[i]? = some v → ∃ d, ds[i]? = some d ∧ Da H v d
  | _, _, _, _, .nil, e => by simp at e
  | _, _, 0, _, .cons r _, e => by simp at e; subst e; exact ⟨_, rfl, r⟩
  | _, _, i + 1, v, .cons _ t, e => by
    obtain ⟨u, h1, h2⟩ := DaL.get (i := i) (v := v) t (by simpa using e)
    exact ⟨u, by simpa using h1, h2⟩
theorem DaL.get' {H : Hp} : ∀ {vs : List V} {ds : List PyData} {i : Nat} {d : PyData}, DaL H vs ds → ds[i]? = some d → ∃ v, vs[i]? = some v ∧ Da H v d
  | _, _, _, _, .nil, e => by simp at e
  | _, _, 0, _, .cons r _, e => by simp at e; subst e; exact ⟨_, rfl, r⟩
  | _, _, i + 1, v, .cons _ t, e => by
    obtain ⟨u, h1, h2⟩ := DaL.get' (i := i) (d := v) t (by simpa using e)
    exact ⟨u, by simpa using h1, h2⟩
theorem DaL.append {H : Hp} : ∀ {vs ws : List V} {ds es : List PyData}, DaL H vs ds → DaL H ws es → DaL H (vs ++ ws) (ds ++ es)
  | _, _, _, _, .nil, s => s
  | _, _, _, _, .cons r t, s => .cons r (DaL.append t s)
theorem dpL_get : ∀ {ds : List PyData} {i : Nat} {d : PyData}, ds[i]? = some d → dp d ≤ dpL ds
  | [], _, _, e => by simp at e
  | a :: r, 0, d, e => by simp at e; subst e; exact Nat.le_max_left _ _
  | a :: r, i + 1, d, e => Nat.le_trans (dpL_get (ds := r) (i := i) (by simpa using e)) (Nat.le_max_right _ _)
mutual
theorem Da.fr {l : List Addr} {H H' : Hp} (f : Fr l H H') : ∀ (d : PyData) (v : V), Da H v d → imm d = true → Da H' v d
  | .none, _, h, _ => by cases h; exact .non
  | .bool b, _, h, _ => by cases h; exact .bl b
  | .int i, _, h, _ => by cases h; exact .int i
  | .str x, _, h, _ => by cases h; exact .str x
  | .list ds, _, _, i => by simp [imm] at i
  | .tuple ds, _, h, i => by
    cases h with
    | tup e z r => exact .tup (f.tup _ _ e) z (DaL.fr f ds _ r (by simpa [imm] using i))
  | .dict _, _, h, _ => by cases h
theorem DaL.fr {l : List Addr} {H H' : Hp} (f : Fr l H H') : ∀ (ds : List PyData) (vs : List V), DaL H vs ds → immL ds = true → DaL H' vs ds
  | [], _, h, _ => by cases h; exact .nil
  | d :: ds, _, h, i => by
    simp only [immL, Bool.and_eq_true] at i
    cases h with
    | cons r t => exact .cons (Da.fr f d _ r i.1) (DaL.fr f ds _ t i.2)
end
mutual
theorem Da.dp {K : PySem.W.Frag} {H : Hp} : ∀ (d : PyData) (v : V), Da H v d → Dp K H v d
  | .none, _, h => by cases h; exact .non
  | .bool b, _, h => by cases h; exact .bl b
  | .int i, _, h => by cases h; exact .int i
  | .str x, _, h => by cases h; exact .str x
  | .list ds, _, h => by
    cases h with
    | lst e _ r => exact .lst (SqL.of e) (DaL.dp ds _ r)
  | .tuple ds, _, h => by
    cases h with
    | tup e _ r => exact .tup (SqT.of e) (DaL.dp ds _ r)
  | .dict _, _, h => by cases h
theorem DaL.dp {K : PySem.W.Frag} {H : Hp} : ∀ (ds : List PyData) (vs : List V), DaL H vs ds → DpAll K H vs ds
  | [], _, h => by cases h; exact .nil
  | d :: ds, _, h => by
    cases h with
    | cons r t => exact .cons (Da.dp d _ r) (DaL.dp ds _ t)
end
theorem Da.frL {l : List Addr} {H H' : Hp} (f : Fr l H H') {d : PyData} {v : V} (h : Da H v d) (i : imm d = true) : Da H' v d := Da.fr f d v h i
theorem DaL.frL {l : List Addr} {H H' : Hp} (f : Fr l H H') {ds : List PyData} {vs : List V} (h : DaL H vs ds) (i : immL ds = true) : DaL H' vs ds := DaL.fr f ds vs h i
theorem immL_append : ∀ {ds es : List PyData}, immL (ds ++ es) = (immL ds && immL es)
  | [], _ => by simp [immL]
  | d :: ds, es => by simp [immL, immL_append (ds := ds), Bool.and_assoc]
theorem dpL_append : ∀ {ds es : List PyData}, dpL (ds ++ es) = max (dpL ds) (dpL es)
  | [], _ => by simp [dpL]
  | d :: ds, es => by simp [dpL, dpL_append (ds := ds), Nat.max_assoc]

/-! ### loops and comprehensions -/
section
variable {K : PySem.W.Frag} {σ : L2.St} {H H' : Hp} {Q : VK} {D : Ends} {te tl : TE} {tt : TT} {tb : TS} {g : TG} {wi : TI} {ta : TA} {a b : Addr} {xs ys : List V} {vs : List Nat} {J : It}
def ForGo (J : It) (g : TG) (tb : TS) (D : Ends) (σ : L2.St) (H1 : Hp) : Prop := ∃ W : Nat → Nat → L2.St → Hp → Prop, (∃ m, W 0 m σ H1) ∧ ∀ i m σ H, W i m σ H →
  (J.stop i H ∧ D.nx σ H) ∨ (J.go i H ∧ ∃ N : L2.St → Hp → Prop, (∀ σ' H', N σ' H' → ∃ m', m' < m ∧ W (i + 1) m' σ' H') ∧ ∀ x H', J.yld i H x H' → g x σ H' fun σ2 H2 => tb { D with nx := N, ct := N, bk := D.nx } σ2 H2)
theorem g_for (h : wi σ H (fun J H1 => ForGo J g tb D σ H1)) : tFor wi g tb D σ H := h
def LcGo (J : It) (g : TG) (tt : TT) (te : TE) (vs : List Nat) (σ : L2.St) (Q : VK) (H1 : Hp) : Prop := ∀ D, H1 D = none → ∃ W : Nat → Nat → Hp → Prop, (∃ m, W 0 m (upd H1 D (.lst []))) ∧ ∀ i m H, W i m H →
  (J.stop i H ∧ Q (.ref D) H) ∨ (J.go i H ∧ ∃ Nx : Hp → Prop, (∀ H', Nx H' → ∃ m', m' < m ∧ W (i + 1) m' H') ∧ ∀ x H', J.yld i H x H' → g x (wipe σ vs) H' fun σ2 H2 => wipe σ2 vs = wipe σ vs ∧ tt σ2 H2 fun b H3 =>
    if b = true then te σ2 H3 fun y H4 => ∃ acc, H4 D = some (.lst acc) ∧ acc.length < sizeLine ∧ Nx (upd H4 D (.lst (acc ++ [y]))) else Nx H3)
theorem g_lc (h : wi σ H (fun J H1 => LcGo J g tt te vs σ Q H1)) : tLc wi g tt te vs σ H Q := h
variable {R : It → Hp → Prop}
def rItL (K : PySem.W.Frag) (x : V) (H : Hp) (R : It → Hp → Prop) : Prop := ∃ a, x = .ref a ∧ (∃ xs, SqL K H a xs) ∧ R (Itl K a) H
def rItT (K : PySem.W.Frag) (x : V) (H : Hp) (R : It → Hp → Prop) : Prop := ∃ a, x = .ref a ∧ (∃ xs, SqT K H a xs) ∧ R (Itt K a) H
theorem g_iL (h : tl σ H (fun x H1 => rItL K x H1 R)) : iList K tl σ H R := h
theorem g_iT (h : tl σ H (fun x H1 => rItT K x H1 R)) : iTup K tl σ H R := h
theorem g_riL (hS : SqL K H a xs) (h : R (Itl K a) H) : rItL K (.ref a) H R := ⟨a, rfl, ⟨xs, hS⟩, h⟩
theorem g_riT (hS : SqT K H a xs) (h : R (Itt K a) H) : rItT K (.ref a) H R := ⟨a, rfl, ⟨xs, hS⟩, h⟩
def rIt1 (vs : List V) (H : Hp) (R : It → Hp → Prop) : Prop := ∃ j : Int, vs = [.int j] ∧ -(2 ^ 62) ≤ j ∧ j < 2 ^ 62 ∧ R (Itr 0 j.toNat) H
def rIt2 (vs : List V) (H : Hp) (R : It → Hp → Prop) : Prop := ∃ i j : Int, vs = [.int i, .int j] ∧ (-(2 ^ 62) ≤ i ∧ i < 2 ^ 62 ∧ -(2 ^ 62) ≤ j ∧ j < 2 ^ 62) ∧ R (Itr i (j - i).toNat) H
theorem g_i1 (h : ta σ H (fun vs H1 => rIt1 vs H1 R)) : iRng1 ta σ H R := h
theorem g_i2 (h : ta σ H (fun vs H1 => rIt2 vs H1 R)) : iRng2 ta σ H R := h
theorem g_ri1 {j : Int} (h1 : -(2 ^ 62) ≤ j ∧ j < 2 ^ 62) (h : R (Itr 0 j.toNat) H) : rIt1 [.int j] H R := ⟨j, rfl, h1.1, h1.2, h⟩
theorem g_ri2 {i j : Int} (h1 : -(2 ^ 62) ≤ i ∧ i < 2 ^ 62 ∧ -(2 ^ 62) ≤ j ∧ j < 2 ^ 62) (h : R (Itr i (j - i).toNat) H) : rIt2 [.int i, .int j] H R := ⟨i, j, rfl, h1, h⟩
/-- for over a list that stands -/
theorem f_list (Pv : Nat → L2.St → Hp → Prop) (h0 : Pv 0 σ H) (hl : ∀ i σ H, i ≤ xs.length → Pv i σ H → SqL K H a xs)
    (hs : ∀ i x σ H, xs[i]? = some x → Pv i σ H → g x σ H fun σ2 H2 => tb { D with nx := Pv (i + 1), ct := Pv (i + 1), bk := D.nx } σ2 H2) (hd : ∀ σ H, Pv xs.length σ H → D.nx σ H) : ForGo (Itl K a) g tb D σ H := for_list Pv h0 hl hs hd
theorem f_tup (Pv : Nat → L2.St → Hp → Prop) (h0 : Pv 0 σ H) (hl : ∀ i σ H, i ≤ xs.length → Pv i σ H → SqT K H a xs)
    (hs : ∀ i x σ H, xs[i]? = some x → Pv i σ H → g x σ H fun σ2 H2 => tb { D with nx := Pv (i + 1), ct := Pv (i + 1), bk := D.nx } σ2 H2) (hd : ∀ σ H, Pv xs.length σ H → D.nx σ H) : ForGo (Itt K a) g tb D σ H := for_tup Pv h0 hl hs hd
theorem f_range {lo : Int} {n : Nat} (Pv : Nat → L2.St → Hp → Prop) (h0 : Pv 0 σ H)
    (hs : ∀ i σ H, i < n → Pv i σ H → g (.int (lo + i)) σ H fun σ2 H2 => tb { D with nx := Pv (i + 1), ct := Pv (i + 1), bk := D.nx } σ2 H2) (hd : ∀ σ H, Pv n σ H → D.nx σ H) : ForGo (Itr lo n) g tb D σ H := for_range Pv h0 hs hd
/-! a comprehension: what its turn is to reach -/
def lcY (Dl : Addr) (Pv : Nat → List V → Hp → Prop) (i : Nat) (y : V) (H4 : Hp) : Prop := ∃ acc, H4 Dl = some (.lst acc) ∧ acc.length < sizeLine ∧ ∃ acc', upd H4 Dl (.lst (acc ++ [y])) Dl = some (.lst acc') ∧ Pv (i + 1) acc' (upd H4 Dl (.lst (acc ++ [y])))
def lcN (Dl : Addr) (Pv : Nat → List V → Hp → Prop) (i : Nat) (H3 : Hp) : Prop := ∃ acc, H3 Dl = some (.lst acc) ∧ Pv (i + 1) acc H3
theorem lcY_of {Dl : Addr} {Pv : Nat → List V → Hp → Prop} {i : Nat} {y : V} {acc : List V} (h : H Dl = some (.lst acc)) (hl : acc.length < sizeLine) (k : ∀ H5, Fr [Dl] H H5 → H5 Dl = some (.lst (acc ++ [y])) → Pv (i + 1) (acc ++ [y]) H5) : lcY Dl Pv i y H :=
  ⟨acc, h, hl, _, upd_same, k _ (Fr.put h trivial) upd_same⟩
theorem lcN_of {Dl : Addr} {Pv : Nat → List V → Hp → Prop} {i : Nat} {acc : List V} (h : H Dl = some (.lst acc)) (k : Pv (i + 1) acc H) : lcN Dl Pv i H := ⟨acc, h, k⟩
abbrev lcStep (g : TG) (tt : TT) (te : TE) (vs : List Nat) (σ : L2.St) (Dl : Addr) (Pv : Nat → List V → Hp → Prop) (i : Nat) (x : V) (H' : Hp) : Prop :=
  g x (wipe σ vs) H' fun σ2 H2 => wipe σ2 vs = wipe σ vs ∧ tt σ2 H2 fun b H3 => if b = true then te σ2 H3 fun y H4 => lcY Dl Pv i y H4 else lcN Dl Pv i H3
theorem l_list (k : ∀ Dl H0, H Dl = none → Fr [] H H0 → H0 Dl = some (.lst []) → ∃ Pv : Nat → List V → Hp → Prop, Pv 0 [] H0 ∧ (∀ i acc H', Pv i acc H' → SqL K H' a xs) ∧
    (∀ i x acc H', xs[i]? = some x → H' Dl = some (.lst acc) → Pv i acc H' → lcStep g tt te vs σ Dl Pv i x H') ∧ (∀ acc H', H' Dl = some (.lst acc) → Pv xs.length acc H' → Q (.ref Dl) H')) : LcGo (Itl K a) g tt te vs σ Q H := by
  intro Dl hD
  obtain ⟨Pv, p0, pl, ps, pd⟩ := k Dl _ hD (Fr.new hD) upd_same
  exact lc_list (fun i H' => ∃ acc, H' Dl = some (.lst acc) ∧ Pv i acc H') ⟨[], upd_same, p0⟩ (fun i H' _ ⟨acc, _, p⟩ => pl i acc H' p) (fun i x H' hx ⟨acc, hd, p⟩ => ps i x acc H' hx hd p) (fun H' ⟨acc, hd, p⟩ => pd acc H' hd p)
theorem l_tup (k : ∀ Dl H0, H Dl = none → Fr [] H H0 → H0 Dl = some (.lst []) → ∃ Pv : Nat → List V → Hp → Prop, Pv 0 [] H0 ∧ (∀ i acc H', Pv i acc H' → SqT K H' a xs) ∧
    (∀ i x acc H', xs[i]? = some x → H' Dl = some (.lst acc) → Pv i acc H' → lcStep g tt te vs σ Dl Pv i x H') ∧ (∀ acc H', H' Dl = some (.lst acc) → Pv xs.length acc H' → Q (.ref Dl) H')) : LcGo (Itt K a) g tt te vs σ Q H := by
  intro Dl hD
  obtain ⟨Pv, p0, pl, ps, pd⟩ := k Dl _ hD (Fr.new hD) upd_same
  exact lc_tup (fun i H' => ∃ acc, H' Dl = some (.lst acc) ∧ Pv i acc H') ⟨[], upd_same, p0⟩ (fun i H' _ ⟨acc, _, p⟩ => pl i acc H' p) (fun i x H' hx ⟨acc, hd, p⟩ => ps i x acc H' hx hd p) (fun H' ⟨acc, hd, p⟩ => pd acc H' hd p)
theorem l_range {lo : Int} {n : Nat} (k : ∀ Dl H0, H Dl = none → Fr [] H H0 → H0 Dl = some (.lst []) → ∃ Pv : Nat → List V → Hp → Prop, Pv 0 [] H0 ∧
    (∀ i acc H', i < n → H' Dl = some (.lst acc) → Pv i acc H' → lcStep g tt te vs σ Dl Pv i (.int (lo + i)) H') ∧ (∀ acc H', H' Dl = some (.lst acc) → Pv n acc H' → Q (.ref Dl) H')) : LcGo (Itr lo n) g tt te vs σ Q H := by
  intro Dl hD
  obtain ⟨Pv, p0, ps, pd⟩ := k Dl _ hD (Fr.new hD) upd_same
  exact lc_range (fun i H' => ∃ acc, H' Dl = some (.lst acc) ∧ Pv i acc H') ⟨[], upd_same, p0⟩ (fun i H' hi ⟨acc, hd, p⟩ => ps i acc H' hi hd p) (fun H' ⟨acc, hd, p⟩ => pd acc H' hd p)
theorem g_and2 {A B : Prop} (a : A) (b : B) : A ∧ B := ⟨a, b⟩
theorem g_yes {QB : Bool → Hp → Prop} (h : QB true H) : tYes σ H QB := h
/-- a name's slot, ahead of a known one -/
theorem g_tr {x : V} {k : Bool} {QB : Bool → Hp → Prop} (h : TruV K x H k) (q : QB k H) : ∃ k, TruV K x H k ∧ QB k H := ⟨k, h, q⟩
theorem g_ttr {QB : Bool → Hp → Prop} (h : te σ H (fun x H' => ∃ k, TruV K x H' k ∧ QB k H')) : tTr K te σ H QB := h
end
theorem szM {n : Nat} (h : n ≤ 1000000) : n < sizeLine := Nat.lt_of_le_of_lt h (by decide)
theorem szL {n : Nat} (h : n ≤ 1000000) : n ≤ sizeLine := Nat.le_of_lt (szM h)
theorem getI {ns : List Int} {i : Nat} {x : V} (h : (ns.map V.int)[i]? = some x) : ∃ n, x = .int n ∧ ns[i]? = some n ∧ n ∈ ns := by
  rw [List.getElem?_map] at h
  cases e : ns[i]? with
  | none => rw [e] at h; cases h
  | some n => rw [e] at h; exact ⟨n, (Option.some.inj h).symm, rfl, List.mem_of_getElem? e⟩
theorem atI_of {α : Type} {xs : List α} {z : Int} (h0 : 0 ≤ z) (h : z < xs.length) : ∃ v, atI xs z = some v ∧ xs[z.toNat]? = some v := by
  have hk : z.toNat < xs.length := by omega
  have e : ((z.toNat : Nat) : Int) = z := by omega
  have q : xs[z.toNat]? = some xs[z.toNat] := List.getElem?_eq_getElem hk
  have w := atI_nat q
  rw [e] at w
  exact ⟨_, w, q⟩
theorem atI_mem {α : Type} {xs : List α} {z : Int} (h0 : 0 ≤ z) (h : z < xs.length) : ∃ v, atI xs z = some v ∧ v ∈ xs := by
  obtain ⟨v, a, b⟩ := atI_of h0 h
  exact ⟨v, a, List.mem_of_getElem? b⟩
theorem take_more {α : Type} : ∀ {l : List α} {i : Nat} {x : α}, l[i]? = some x → l.take (i + 1) = l.take i ++ [x]
  | [], i, x, h => by simp at h
  | a :: l, 0, x, h => by
    have e : a = x := Option.some.inj h
    subst e
    rfl
  | a :: l, i + 1, x, h => by
    have ih := take_more (l := l) (i := i) (x := x) h
    show a :: l.take (i + 1) = a :: l.take i ++ [x]
    rw [ih]
    rfl
theorem filter_more {α : Type} {l : List α} {i : Nat} {x : α} {f : α → Bool} (h : l[i]? = some x) : (l.take (i + 1)).filter f = (l.take i).filter f ++ (if f x = true then [x] else []) := by
  rw [take_more h, List.filter_append]
  congr 1
  by_cases q : f x = true
  · simp [q]
  · simp [q]
theorem Da.tup1 {H : Hp} {v : V} {ds : List PyData} (h : Da H v (.tuple ds)) : ∃ a xs, v = .ref a ∧ H a = some (.tup xs) ∧ xs.length ≤ 1000000 ∧ DaL H xs ds := by
  cases h with
  | tup e z r => exact ⟨_, _, rfl, e, z, r⟩
theorem Da.lst1 {H : Hp} {v : V} {ds : List PyData} (h : Da H v (.list ds)) : ∃ a xs, v = .ref a ∧ H a = some (.lst xs) ∧ xs.length ≤ 1000000 ∧ DaL H xs ds := by
  cases h with
  | lst e z r => exact ⟨_, _, rfl, e, z, r⟩
theorem DaL.two {H : Hp} {xs : List V} {d e : PyData} (h : DaL H xs [d, e]) : ∃ x y, xs = [x, y] ∧ Da H x d ∧ Da H y e := by
  cases h with
  | cons a t => cases t with
    | cons b u => cases u; exact ⟨_, _, rfl, a, b⟩
theorem DaL.three {H : Hp} {xs : List V} {d e f : PyData} (h : DaL H xs [d, e, f]) : ∃ x y z, xs = [x, y, z] ∧ Da H x d ∧ Da H y e ∧ Da H z f := by
  cases h with
  | cons a t => cases t with
    | cons b u => cases u with
      | cons c u => cases u; exact ⟨_, _, _, rfl, a, b, c⟩
theorem Da.int1 {H : Hp} {v : V} {i : Int} (h : Da H v (.int i)) : v = .int i := by cases h; rfl
theorem Da.str1 {H : Hp} {v : V} {i : Str} (h : Da H v (.str i)) : v = .str i := by cases h; rfl
theorem Da.bl1 {H : Hp} {v : V} {i : Bool} (h : Da H v (.bool i)) : v = .bl i := by cases h; rfl
theorem Da.non1 {H : Hp} {v : V} (h : Da H v .none) : v = .non := by cases h; rfl
theorem DaL.one' {H : Hp} {v : V} {d : PyData} (h : Da H v d) : DaL H [v] [d] := .cons h .nil
theorem immL_get : ∀ {ds : List PyData} {i : Nat} {d : PyData}, immL ds = true → ds[i]? = some d → imm d = true
  | [], _, _, _, e => by simp at e
  | a :: r, 0, d, h, e => by simp at e; subst e; simp [immL] at h; exact h.1
  | a :: r, i + 1, d, h, e => by simp [immL] at h; exact immL_get (ds := r) (i := i) h.2 (by simpa using e)
theorem immL_of : ∀ {ds : List PyData}, (∀ d ∈ ds, imm d = true) → immL ds = true
  | [], _ => rfl
  | a :: r, h => by simp [immL, h a List.mem_cons_self, immL_of (ds := r) fun d hd => h d (List.mem_cons_of_mem _ hd)]
theorem imm_of : ∀ {ds : List PyData}, immL ds = true → ∀ d ∈ ds, imm d = true
  | [], _, d, hd => by cases hd
  | a :: r, h, d, hd => by
    simp only [immL, Bool.and_eq_true] at h
    rcases List.mem_cons.mp hd with e | e
    · rw [e]; exact h.1
    · exact imm_of h.2 d e
theorem dpL_mem : ∀ {ds : List PyData} {d : PyData}, d ∈ ds → dp d ≤ dpL ds
  | [], _, h => by cases h
  | a :: r, d, h => by
    rcases List.mem_cons.mp h with e | e
    · rw [e]; exact Nat.le_max_left _ _
    · exact Nat.le_trans (dpL_mem e) (Nat.le_max_right _ _)
theorem dpL_le {n : Nat} : ∀ {ds : List PyData}, (∀ d ∈ ds, dp d ≤ n) → dpL ds ≤ n
  | [], _ => Nat.zero_le _
  | a :: r, h => Nat.max_le.mpr ⟨h a List.mem_cons_self, dpL_le fun d hd => h d (List.mem_cons_of_mem _ hd)⟩
theorem DaL.ints {H : Hp} : ∀ {xs : List V} {r : List Int}, DaL H xs (r.map .int) → xs = r.map V.int
  | [], [], _ => rfl
  | x :: xs, n :: r, h => by
    cases h with
    | cons a t => rw [a.int1, DaL.ints t]; rfl
  | [], _ :: _, h => by cases h
  | _ :: _, [], h => by cases h
theorem DaL.ofInts {H : Hp} : ∀ (r : List Int), DaL H (r.map V.int) (r.map .int)
  | [] => .nil
  | n :: r => .cons (.int n) (DaL.ofInts r)
theorem DaL.set {H : Hp} : ∀ {vs : List V} {ds : List PyData} {i : Nat} {v : V} {d : PyData}, DaL H vs ds → Da H v d → DaL H (vs.set i v) (ds.set i d)
  | _, _, _, _, _, .nil, _ => .nil
  | _, _, 0, _, _, .cons _ t, q => .cons q t
  | _, _, i + 1, _, _, .cons r t, q => .cons r (DaL.set (i := i) t q)
/-! slices, pop at -/
section
variable {K : PySem.W.Frag} {σ : L2.St} {H H' : Hp} {Q : VK} {te : TE} {tl th : TO} {p : Addr} {xs : List V} {lo hi : Option Int}
theorem g_sl {r : V → Option Int → Option Int → Hp → VK → Prop} (h : te σ H fun x H1 => tl σ H1 fun l H2 => th σ H2 fun u H3 => r x l u H3 Q) : tSl r te tl th σ H Q := h
theorem g_noP {QO : Option Int → Hp → Prop} (h : QO none H) : tNoPart σ H QO := h
def rPart (x : V) (H : Hp) (QO : Option Int → Hp → Prop) : Prop := ∃ i, x = .int i ∧ QO (some i) H
theorem g_part {QO : Option Int → Hp → Prop} (h : te σ H fun x H1 => rPart x H1 QO) : tPart te σ H QO := h
theorem g_rpart {i : Int} {QO : Option Int → Hp → Prop} (h : QO (some i) H) : rPart (.int i) H QO := ⟨i, rfl, h⟩
theorem g_slL (h : SqL K H p xs) (q : ∀ l H', H l = none → Fr [] H H' → H' l = some (.lst (cutV xs lo hi)) → Q (.ref l) H') : rSlL K (.ref p) lo hi H Q := ⟨p, xs, rfl, h, fun l hl => q l _ hl (Fr.new hl) upd_same⟩
theorem g_popAt {i : Int} {y : V} (h : H p = some (.lst xs)) (hl : xs.length ≤ 1000000) (h0 : 0 ≤ i) (hy : xs[i.toNat]? = some y) (q : ∀ H', Fr [p] H H' → H' p = some (.lst (xs.eraseIdx i.toNat)) → Q y H') : rPopAt (.ref p) [.int i] H Q := by
  have hlt := (List.getElem?_eq_some_iff.mp hy).1
  refine ⟨p, xs, i, i.toNat, y, rfl, rfl, h, by omega, by omega, ?_, hy, q _ (Fr.put h trivial) upd_same⟩
  refine (ixN_seq (i := i) ?_).1
  unfold ixN
  rw [if_pos h0, if_pos (by omega)]
end
theorem cut_take {xs : List V} {n : Nat} (h : n ≤ xs.length) : cutV xs none (some (n : Int)) = xs.take n := by
  unfold cutV
  rw [HT.sIx_none, HT.sIx_nat, Nat.min_eq_left h, Nat.sub_zero, List.drop_zero]
theorem DaL.take {H : Hp} : ∀ {xs : List V} {ds : List PyData} (n : Nat), DaL H xs ds → DaL H (xs.take n) (ds.take n)
  | _, _, 0, _ => .nil
  | _, _, n + 1, .nil => .nil
  | _, _, n + 1, .cons a t => .cons a (DaL.take n t)
theorem DaL.erase {H : Hp} : ∀ {xs : List V} {ds : List PyData} (n : Nat), DaL H xs ds → DaL H (xs.eraseIdx n) (ds.eraseIdx n)
  | _, _, _, .nil => .nil
  | _, _, 0, .cons _ t => t
  | _, _, n + 1, .cons a t => .cons a (DaL.erase n t)
/-- a statement that is never reached -/
def tDead : TS := fun _ _ _ => False
theorem ps_dead {X : Cx} {st : Stmt} : PS X st tDead := ⟨fun _ _ _ _ _ _ h => h.elim⟩
end Lw

namespace Lw
open PySem L2
/-! ### tables: plain lists of keys and values -/
section
variable {κ α : Type} [DecidableEq κ]
def lk (m : List (κ × α)) (k : κ) : Option α := (m.find? fun e => decide (e.1 = k)).map (·.2)
def pt (m : List (κ × α)) (k : κ) (v : α) : List (κ × α) := if (m.any fun e => decide (e.1 = k)) = true then m.map (fun e => if e.1 = k then (e.1, v) else e) else m ++ [(k, v)]
def dr (m : List (κ × α)) (k : κ) : List (κ × α) := m.filter fun e => decide (e.1 ≠ k)
/-- a table as the layer's pairs -/
def enD {κ' : Type} (f : κ → κ') (g : α → V) (m : List (κ × α)) : List (κ' × V) := m.map fun e => (f e.1, g e.2)
variable {κ' : Type} [DecidableEq κ'] {f : κ → κ'} {g : α → V}
theorem enD_dec (inj : ∀ a b, f a = f b → a = b) (a b : κ) : decide (f a = f b) = decide (a = b) := by
  by_cases h : a = b
  · subst h; simp
  · rw [decide_eq_false h, decide_eq_false fun q => h (inj _ _ q)]
theorem enD_val (inj : ∀ a b, f a = f b → a = b) (m : List (κ × α)) (k : κ) : valV (enD f g m) (f k) = (lk m k).map g := by
  induction m with
  | nil => rfl
  | cons e r ih =>
    by_cases h : e.1 = k
    · have h1 : valV (enD f g (e :: r)) (f k) = some (g e.2) := valV_pos (p := (f e.1, g e.2)) (by rw [h])
      rw [h1]; simp [lk, List.find?_cons, h]
    · have h1 : valV (enD f g (e :: r)) (f k) = valV (enD f g r) (f k) := valV_neg (p := (f e.1, g e.2)) (fun q => h (inj _ _ q))
      rw [h1, ih]; simp [lk, List.find?_cons, h]
theorem enD_any (inj : ∀ a b, f a = f b → a = b) (m : List (κ × α)) (k : κ) : ((enD f g m).any fun e => decide (e.1 = f k)) = m.any fun e => decide (e.1 = k) := by
  induction m with
  | nil => rfl
  | cons e r ih =>
    show (decide (f e.1 = f k) || (enD f g r).any fun e => decide (e.1 = f k)) = _
    rw [ih, enD_dec inj]
    rfl
theorem enD_put (inj : ∀ a b, f a = f b → a = b) (m : List (κ × α)) (k : κ) (v : α) : putK (enD f g m) (f k) (g v) = enD f g (pt m k v) := by
  unfold putK pt
  rw [enD_any inj]
  by_cases h : (m.any fun e => decide (e.1 = k)) = true
  · rw [if_pos h, if_pos h]
    unfold enD
    rw [List.map_map, List.map_map]
    refine List.map_congr_left fun e _ => ?_
    show (if f e.1 = f k then (f e.1, g v) else (f e.1, g e.2)) = _
    by_cases q : e.1 = k
    · simp [q]
    · rw [if_neg fun z => q (inj _ _ z)]; simp [q]
  · rw [if_neg h, if_neg h]
    unfold enD
    rw [List.map_append]
    rfl
theorem enD_drop (inj : ∀ a b, f a = f b → a = b) (m : List (κ × α)) (k : κ) : dropK (enD f g m) (f k) = enD f g (dr m k) := by
  unfold dropK dr enD
  rw [List.filter_map]
  congr 1
  refine List.filter_congr fun e _ => ?_
  show decide (f e.1 ≠ f k) = decide (e.1 ≠ k)
  by_cases h : e.1 = k
  · simp [h]
  · have : f e.1 ≠ f k := fun q => h (inj _ _ q)
    simp [h, this]
theorem enD_len (m : List (κ × α)) : (enD f g m).length = m.length := by unfold enD; rw [List.length_map]
theorem enD_get {m : List (κ × α)} {i : Nat} {k : κ'} {v : V} (h : (enD f g m)[i]? = some (k, v)) : ∃ e, m[i]? = some e ∧ k = f e.1 ∧ v = g e.2 := by
  unfold enD at h
  rw [List.getElem?_map] at h
  cases q : m[i]? with
  | none => rw [q] at h; cases h
  | some e => rw [q] at h; cases h; exact ⟨e, rfl, rfl, rfl⟩
theorem lk_pt (m : List (κ × α)) (k j : κ) (v : α) : lk (pt m k v) j = if j = k then some v else lk m j := by
  have h := enD_put (f := fun k : κ => k) (g := fun _ : α => V.non) (fun _ _ q => q) m k v
  unfold pt
  induction m with
  | nil =>
    by_cases e : j = k
    · simp [lk, e]
    · have : ¬ k = j := fun q => e q.symm
      simp [lk, e, this]
  | cons e r ih =>
    by_cases hk : e.1 = k
    · have ha : ((e :: r).any fun e => decide (e.1 = k)) = true := by simp [hk]
      rw [if_pos ha]
      by_cases hj : j = k
      · rw [if_pos hj]; simp [lk, List.find?_cons, hk, hj]
      · rw [if_neg hj]
        have hk2 : ¬ k = j := fun q => hj q.symm
        have : ∀ r : List (κ × α), lk (r.map fun e => if e.1 = k then (e.1, v) else e) j = lk r j := by
          intro r
          induction r with
          | nil => rfl
          | cons a t ih2 =>
            by_cases ha : a.1 = k
            · have h1 : ¬ a.1 = j := fun q => hj (q.symm.trans ha)
              simp only [List.map_cons, lk, List.find?_cons, if_pos ha, decide_eq_false h1]
              exact ih2
            · by_cases h1 : a.1 = j
              · simp only [List.map_cons, lk, List.find?_cons, if_neg ha, decide_eq_true h1]
              · simp only [List.map_cons, lk, List.find?_cons, if_neg ha, decide_eq_false h1]
                exact ih2
        exact this (e :: r)
    · have ha : ((e :: r).any fun e => decide (e.1 = k)) = r.any fun e => decide (e.1 = k) := by simp [hk]
      rw [ha]
      have ih' := ih (enD_put (f := fun k : κ => k) (g := fun _ : α => V.non) (fun _ _ q => q) r k v)
      by_cases hb : (r.any fun e => decide (e.1 = k)) = true
      · rw [if_pos hb] at ih' ⊢
        by_cases h1 : e.1 = j
        · have h2 : ¬ j = k := fun q => hk (h1.trans q)
          simp [lk, List.find?_cons, hk, h1, h2]
        · simp only [List.map_cons, if_neg hk, lk, List.find?_cons, decide_eq_false h1] at ih' ⊢
          exact ih'
      · rw [if_neg hb] at ih' ⊢
        by_cases h1 : e.1 = j
        · have h2 : ¬ j = k := fun q => hk (h1.trans q)
          simp [lk, List.find?_cons, h1, h2]
        · simp only [List.cons_append, lk, List.find?_cons, decide_eq_false h1] at ih' ⊢
          exact ih'
end
/-! ### readings of dicts -/
section
variable {K : PySem.W.Frag} {σ : L2.St} {H H' : Hp} {Q : VK} {D : Ends} {td ty te tv tx : TE} {tt : TT} {tb t : TS} {g : TG} {a b d q : Addr} {o : Obj} {kvs : List (List Key × V)} {k : List Key} {v x y z : V} {vs : List Nat} {R : It → Hp → Prop} {as : TA}
/-- may be read as a dict with tuple keys -/
abbrev RdT (H : Hp) (a : Addr) (kvs : List (List Key × V)) : Prop := Rd H a (.dT kvs)
def rDG (x y : V) (H : Hp) (Q : VK) : Prop := ∃ a v, x = .ref a ∧ DGet H a y (some v) ∧ Q v H
theorem g_dget (h : td σ H fun x H1 => ty σ H1 fun y H2 => rDG x y H2 Q) : tDGet td ty σ H Q := h
theorem g_rdg (h : Rd H a (.dT kvs)) (e : H b = some (.tup (k.map kV))) (l : valV kvs k = some v) (c : Q v H) : rDG (.ref a) (.ref b) H Q := ⟨a, v, rfl, .inr ⟨kvs, k, b, h, rfl, e, l.symm⟩, c⟩
def rDI (y x : V) (H : Hp) (Q : VK) : Prop := ∃ a o, x = .ref a ∧ DGet H a y o ∧ Q (.bl o.isSome) H
def rDNI (y x : V) (H : Hp) (Q : VK) : Prop := ∃ a o, x = .ref a ∧ DGet H a y o ∧ Q (.bl (!o.isSome)) H
theorem g_din (h : ty σ H fun y H1 => td σ H1 fun x H2 => rDI y x H2 Q) : tDIn ty td σ H Q := h
theorem g_dnin (h : ty σ H fun y H1 => td σ H1 fun x H2 => rDNI y x H2 Q) : tDNotIn ty td σ H Q := h
theorem g_rdi (h : Rd H a (.dT kvs)) (e : H b = some (.tup (k.map kV))) (c : Q (.bl (valV kvs k).isSome) H) : rDI (.ref b) (.ref a) H Q := ⟨a, _, rfl, .inr ⟨kvs, k, b, h, rfl, e, rfl⟩, c⟩
theorem g_rdni (h : Rd H a (.dT kvs)) (e : H b = some (.tup (k.map kV))) (c : Q (.bl (!(valV kvs k).isSome)) H) : rDNI (.ref b) (.ref a) H Q := ⟨a, _, rfl, .inr ⟨kvs, k, b, h, rfl, e, rfl⟩, c⟩
def rDP (x y v : V) (H : Hp) (P : Hp → Prop) : Prop := ∃ a H4, x = .ref a ∧ DPut H a y v H4 ∧ P H4
theorem g_dput (h : tv σ H fun v H1 => td σ H1 fun x H2 => ty σ H2 fun y H3 => rDP x y v H3 fun H4 => D.nx σ H4) : sDPut td ty tv D σ H := h
theorem g_rdp {P : Hp → Prop} (h : H a = some (.dT kvs)) (e : H b = some (.tup (k.map kV))) (hl : kvs.length < sizeLine) (c : ∀ H', Fr [a] H H' → H' a = some (.dT (putK kvs k v)) → P H') : rDP (.ref a) (.ref b) v H P :=
  ⟨a, _, rfl, .inr ⟨kvs, k, b, h, rfl, e, hl, rfl⟩, c _ (Fr.put h trivial) upd_same⟩
def rDG2 (x : V) (H : Hp) (P : Addr → Prop) : Prop := ∃ a, x = .ref a ∧ IsD H a ∧ P a
def rDO (a : Addr) (y z : V) (H : Hp) (Q : VK) : Prop := ∃ o, DGet H a y o ∧ Q (o.getD z) H
theorem g_dget2 (h : td σ H fun x H1 => rDG2 x H1 fun a => ty σ H1 fun y H2 => tx σ H2 fun z H3 => rDO a y z H3 Q) : tDGet2 td ty tx σ H Q := h
theorem g_dget1 (h : td σ H fun x H1 => rDG2 x H1 fun a => ty σ H1 fun y H2 => rDO a y .non H2 Q) : tDGet1 td ty σ H Q := h
theorem g_rdg2 {P : Addr → Prop} (h : Rd H a (.dT kvs)) (c : P a) : rDG2 (.ref a) H P := ⟨a, rfl, .inr ⟨kvs, h⟩, c⟩
theorem g_dgo (h : Rd H a (.dT kvs)) (e : H b = some (.tup (k.map kV))) (c : Q (((valV kvs k)).getD z) H) : rDO a (.ref b) z H Q := ⟨_, .inr ⟨kvs, k, b, h, rfl, e, rfl⟩, c⟩
theorem g_dnew (c : ∀ p H', H p = none → Fr [] H H' → H' p = some (.dT []) → Q (.ref p) H') : tDNewT σ H Q := fun p hp => c p _ hp (Fr.new hp) upd_same
theorem g_dnewK (c : ∀ p H', H p = none → Fr [] H H' → H' p = some (.dK []) → Q (.ref p) H') : tDNewK σ H Q := fun p hp => c p _ hp (Fr.new hp) upd_same
/-! a walk over a dict, which is locked meanwhile -/
def rUl (d : Addr) (od : Obj) (u : HO) (H : Hp) (P : Hp → Prop) : Prop := H d = some (.frz od u) ∧ P (upd H d u)
theorem g_unl {u : HO} {P : Hp → Prop} (h : H d = some (.frz o u)) (c : ∀ H', Fr [d] H H' → H' d = some u → P H') : rUl d o u H P := ⟨h, c _ (Fr.put h trivial) upd_same⟩
theorem g_lock {u : HO} (h : H d = some u) (m : Mut (some u)) (nt : notTup u) (c : ∀ od H0, Fr [d] H H0 → H0 d = some (.frz od u) → t ⟨fun σ' H' => rUl d od u H' fun H2 => D.nx σ' H2, fun v H' => rUl d od u H' fun H2 => D.rt v H2,
    fun σ' H' => rUl d od u H' fun H2 => D.bk σ' H2, fun σ' H' => rUl d od u H' fun H2 => D.ct σ' H2⟩ σ H0) : tLock t D σ H := ⟨d, u, h, m, fun od => c od _ (Fr.put h nt) upd_same⟩
theorem g_lockE {u : HO} (h : H d = some u) (m : Mut (some u)) (nt : notTup u) (c : ∀ od H0, Fr [d] H H0 → H0 d = some (.frz od u) → te σ H0 fun v H' => rUl d od u H' fun H2 => Q v H2) : tLockE te σ H Q := ⟨d, u, h, m, fun od => c od _ (Fr.put h nt) upd_same⟩
def rKy (x : V) (H : Hp) (R : It → Hp → Prop) : Prop := ∃ d o, x = .ref d ∧ ((∃ kvs, H d = some (.frz o (.dK kvs)) ∧ R (Itk d o kvs) H) ∨ ∃ kvs, H d = some (.frz o (.dT kvs)) ∧ R (Itkt d o kvs) H)
theorem g_iK (h : td σ H fun x H1 => rKy x H1 R) : iKeys td σ H R := h
theorem g_rkt (h : H d = some (.frz o (.dT kvs))) (c : R (Itkt d o kvs) H) : rKy (.ref d) H R := ⟨d, o, rfl, .inr ⟨kvs, h, c⟩⟩
theorem f_keysT (Pv : Nat → L2.St → Hp → Prop) (h0 : Pv 0 σ H) (hl : ∀ i σ H, i ≤ kvs.length → Pv i σ H → H d = some (.frz o (.dT kvs)))
    (hs : ∀ i k v q σ H, kvs[i]? = some (k, v) → H q = some (.tup (k.map kV)) → Pv i σ H → g (.ref q) σ H fun σ2 H2 => tb { D with nx := Pv (i + 1), ct := Pv (i + 1), bk := D.nx } σ2 H2) (hd : ∀ σ H, Pv kvs.length σ H → D.nx σ H) : ForGo (Itkt d o kvs) g tb D σ H :=
  for_it walk_keysT Pv h0 hl (fun i x σ H H' hi p y => by obtain ⟨rfl, k, v, q, h1, rfl, h3⟩ := y; exact hs i k v q σ _ h1 h3 p) hd
theorem l_keysT (c : ∀ Dl H0, H Dl = none → Fr [] H H0 → H0 Dl = some (.lst []) → ∃ Pv : Nat → List V → Hp → Prop, Pv 0 [] H0 ∧ (∀ i acc H', Pv i acc H' → H' d = some (.frz o (.dT kvs))) ∧
    (∀ i k v q acc H', kvs[i]? = some (k, v) → H' q = some (.tup (k.map kV)) → H' Dl = some (.lst acc) → Pv i acc H' → lcStep g tt te vs σ Dl Pv i (.ref q) H') ∧ (∀ acc H', H' Dl = some (.lst acc) → Pv kvs.length acc H' → Q (.ref Dl) H')) : LcGo (Itkt d o kvs) g tt te vs σ Q H := by
  intro Dl hD
  obtain ⟨Pv, p0, pl, ps, pd⟩ := c Dl _ hD (Fr.new hD) upd_same
  exact lc_it walk_keysT (fun i H' => ∃ acc, H' Dl = some (.lst acc) ∧ Pv i acc H') ⟨[], upd_same, p0⟩ (fun i H' _ ⟨acc, _, p⟩ => pl i acc H' p) (fun i x H1 H' hi ⟨acc, hd, p⟩ y => by obtain ⟨rfl, k, v, q, h1, rfl, h3⟩ := y; exact ps i k v q acc _ h1 h3 hd p) (fun H' ⟨acc, hd, p⟩ => pd acc H' hd p)
/-! targets that are tuples -/
def rGt (K : PySem.W.Frag) (n : Nat) (t : TGs) (v : V) (σ : L2.St) (H : Hp) (P : L2.St → Hp → Prop) : Prop := ∃ a xs, v = .ref a ∧ SqT K H a xs ∧ xs.length = n ∧ t xs σ H P
theorem g_gtup {n : Nat} {t : TGs} {P : L2.St → Hp → Prop} {xs : List V} (h : SqT K H a xs) (hl : xs.length = n) (c : t xs σ H P) : gTup K n t (.ref a) σ H P := ⟨a, xs, rfl, h, hl, c⟩
theorem g_gcons {t : TG} {u : TGs} {P : L2.St → Hp → Prop} {r : List V} (c : t v σ H fun σ' H' => u r σ' H' P) : gCons t u (v :: r) σ H P := ⟨v, r, rfl, c⟩
theorem g_gnil {P : L2.St → Hp → Prop} (c : P σ H) : gNil [] σ H P := ⟨rfl, c⟩
/-! enumerate, zip: a new pair a turn -/
def rEn (K : PySem.W.Frag) (vs : List V) (H : Hp) (R : It → Hp → Prop) : Prop := ∃ a xs, vs = [.ref a] ∧ SqL K H a xs ∧ R (Ite K a) H
theorem g_iE (h : as σ H fun vs H1 => rEn K vs H1 R) : iEnum K as σ H R := h
theorem g_ren {xs : List V} (h : SqL K H a xs) (c : R (Ite K a) H) : rEn K [.ref a] H R := ⟨a, xs, rfl, h, c⟩
theorem f_enum {xs : List V} (Pv : Nat → L2.St → Hp → Prop) (h0 : Pv 0 σ H) (hl : ∀ i σ H, i ≤ xs.length → Pv i σ H → SqL K H a xs)
    (hs : ∀ i x T σ H H', xs[i]? = some x → Pv i σ H → H T = none → Fr [] H H' → H' T = some (.tup [.int (i : Nat), x]) → g (.ref T) σ H' fun σ2 H2 => tb { D with nx := Pv (i + 1), ct := Pv (i + 1), bk := D.nx } σ2 H2) (hd : ∀ σ H, Pv xs.length σ H → D.nx σ H) : ForGo (Ite K a) g tb D σ H :=
  for_it walk_enum Pv h0 hl (fun i x σ H H' hi p y => by
    obtain ⟨T, u, w, rfl, h2, rfl, h4, h5⟩ := y
    cases h4
    exact hs i w T σ H _ h5 p h2 (Fr.new h2) upd_same) hd
def rZp (K : PySem.W.Frag) (vs : List V) (H : Hp) (R : It → Hp → Prop) : Prop := ∃ a b xs ys, vs = [.ref a, .ref b] ∧ SqL K H a xs ∧ SqL K H b ys ∧ R (Itz K a b) H
theorem g_iZ (h : as σ H fun vs H1 => rZp K vs H1 R) : iZip K as σ H R := h
theorem g_rzp {xs ys : List V} (h : SqL K H a xs) (h2 : SqL K H b ys) (c : R (Itz K a b) H) : rZp K [.ref a, .ref b] H R := ⟨a, b, xs, ys, rfl, h, h2, c⟩
theorem f_zip {xs ys : List V} {n : Nat} (hn : n = min xs.length ys.length) (Pv : Nat → L2.St → Hp → Prop) (h0 : Pv 0 σ H) (hl : ∀ i σ H, i ≤ n → Pv i σ H → SqL K H a xs ∧ SqL K H b ys)
    (hs : ∀ i x y T σ H H', xs[i]? = some x → ys[i]? = some y → Pv i σ H → H T = none → Fr [] H H' → H' T = some (.tup [x, y]) → g (.ref T) σ H' fun σ2 H2 => tb { D with nx := Pv (i + 1), ct := Pv (i + 1), bk := D.nx } σ2 H2) (hd : ∀ σ H, Pv n σ H → D.nx σ H) : ForGo (Itz K a b) g tb D σ H :=
  for_it (walk_zip hn) Pv h0 hl (fun i x σ H H' hi p y => by
    obtain ⟨T, u, w, rfl, h2, rfl, h4, h5⟩ := y
    exact hs i u w T σ H _ h4 h5 p h2 (Fr.new h2) upd_same) hd
/-- sum, min of a list of ints -/
theorem g_sum {ns : List Int} (h : SqL K H a (ns.map V.int)) (c : Q (.int ns.sum) H) : rSum K [.ref a] H Q := ⟨a, ns, rfl, h, c⟩
theorem g_all {bs : List Bool} (h : SqL K H a (bs.map V.bl)) (c : Q (.bl (bs.all id)) H) : rAll K [.ref a] H Q := ⟨a, bs, rfl, h, c⟩
theorem g_any {bs : List Bool} (h : SqL K H a (bs.map V.bl)) (c : Q (.bl (bs.any id)) H) : rAny K [.ref a] H Q := ⟨a, bs, rfl, h, c⟩
theorem g_catT {xs ys : List V} (h : SqT K H a xs) (h2 : SqT K H b ys) (hne : xs ≠ []) (hl : xs.length + ys.length ≤ sizeLine) (c1 : ys = [] → Q (.ref a) H) (c2 : ys ≠ [] → ∀ p H', H p = none → Fr [] H H' → H' p = some (.tup (xs ++ ys)) → Q (.ref p) H') : rCatT K (.ref a) (.ref b) H Q :=
  ⟨a, b, xs, ys, rfl, rfl, h, h2, hne, hl, c1, fun e p hp => c2 e p _ hp (Fr.new hp) upd_same⟩
theorem g_cat {xs ys : List V} (h : H a = some (.lst xs)) (h2 : H b = some (.lst ys)) (hl : xs.length + ys.length ≤ sizeLine) (c : ∀ p H', H p = none → Fr [] H H' → H' p = some (.lst (xs ++ ys)) → Q (.ref p) H') : rCat (.ref a) (.ref b) H Q :=
  ⟨a, b, xs, ys, rfl, rfl, h, h2, hl, fun p hp => c p _ hp (Fr.new hp) upd_same⟩
end
/-! ### sorted of data -/
section
open PySem.W in
/-- sorted(xs), xs a list that reads as data of one shape: a new list of the same values in their order -/
def rSortD (K : PySem.W.Frag) : List V → Hp → VK → Prop := fun vs H Q => ∃ (a : Addr) (bs : List (V × PyData)), vs = [V.ref a] ∧ SqL K H a (bs.map (·.1)) ∧ (∀ b ∈ bs, Da H b.1 b.2) ∧ AllAlike (bs.map (·.2)) ∧ Sortable (bs.map (·.2)) ∧ (∀ b ∈ bs, b.2.depth ≤ 60) ∧
  ∀ p, H p = none → Q (.ref p) (upd H p (.lst ((bs.mergeSort (dataLe false (·.2))).map (·.1))))
variable {X : Cx}
open PySem.W in
theorem eachV {s : Shared} {H : Hp} {pins : List (Addr × Obj)} {σ : L2.St} (I : Inv X pins σ H s) : ∀ (bs : List (V × PyData)) (us : List Value), Vals (bs.map (·.1)) us → (∀ b ∈ bs, Da H b.1 b.2) → EachIs (fun u (b : V × PyData) => RelV b.1 u) us bs ∧ EachIs (fun u (b : V × PyData) => ∃ as, PySem.Reads s.heap u b.2 as) us bs
  | [], us, r, _ => by cases r; exact ⟨.nil, .nil⟩
  | b :: bs, us, r, h => by
    cases r with
    | cons r1 r2 =>
      obtain ⟨e1, e2⟩ := eachV I bs _ r2 fun c hc => h c (List.mem_cons_of_mem _ hc)
      exact ⟨.cons r1 e1, .cons (Dp.reads I _ _ _ (Da.dp (K := X.K) _ _ (h b List.mem_cons_self)) r1) e2⟩
open PySem.W in
theorem eachB : ∀ {us : List Value} {bs : List (V × PyData)}, EachIs (fun u (b : V × PyData) => RelV b.1 u) us bs → Vals (bs.map (·.1)) us
  | _, _, .nil => .nil
  | _, _, .cons r t => .cons r (eachB t)
open PySem.W in
theorem b_sortD (hu : X.A.units + 64 < cLine) : CallR X (.builtin "sorted") (rSortD X.K) := by
  intro pins s σ H vs us Q I r h
  obtain ⟨a, bs, rfl, hs, hd, ha, hk, hdp, q⟩ := h
  obtain ⟨its, rv, hl, hz⟩ := I.list hs
  obtain ⟨u, rfl, ru⟩ := vals1 r
  obtain rfl : u = Value.ref a := ru
  obtain ⟨e1, e2⟩ := eachV I bs its rv hd
  rw [List.length_map] at hz
  refine sorted_data (enc := fun b : V × PyData => b.2) hl.isList e1 e2 ha hk hz (fun b hb => ?_) fun out ho eo => ?_
  · have := hdp b hb
    show X.A.units + 2 + b.2.depth < cLine
    omega
  · obtain ⟨ep, he'⟩ := PyProof.Rows.sortedAll_at s.heap its out.toArray
    have vo := eachB eo
    have hlen : ((bs.mergeSort (dataLe false fun b : V × PyData => b.2)).map (·.1)).length ≤ sizeLine := by rw [List.length_map, List.length_mergeSort]; exact hz
    exact ⟨.ref _, upd H (s.heap.objs.size + 1) (.lst _), I.laid (t' := s.toks) (fun _ _ => PyProof.Rows.sortedAll_old) (Nat.le_succ _) ⟨hlen, out, ep, vo, he'⟩, rfl, q _ (I.hok.fresh (Nat.le_succ _))⟩
open PySem.W in
theorem g_sortD {K : PySem.W.Frag} {H : Hp} {Q : VK} {a : Addr} {bs : List (V × PyData)} (hs : SqL K H a (bs.map (·.1))) (hd : ∀ b ∈ bs, Da H b.1 b.2) (ha : AllAlike (bs.map (·.2))) (hk : Sortable (bs.map (·.2))) (hdp : ∀ b ∈ bs, b.2.depth ≤ 60)
    (c : ∀ p H', H p = none → Fr [] H H' → H' p = some (.lst ((bs.mergeSort (dataLe false (·.2))).map (·.1))) → Q (.ref p) H') : rSortD K [.ref a] H Q := ⟨a, bs, rfl, hs, hd, ha, hk, hdp, fun p hp => c p _ hp (Fr.new hp) upd_same⟩
/-- the sorted data -/
def srt (ds : List PyData) : List PyData := ds.mergeSort (PySem.W.dataLe false id)
end
/-! ### d.clear() of a dict with tuple keys -/
section
variable {X : Cx}
def rDClearT : V → List V → Hp → VK → Prop := fun x vs H Q => ∃ (a : Addr) (kvs : List (List Key × V)), x = .ref a ∧ vs = [] ∧ H a = some (.dT kvs) ∧ Q .non (upd H a (.dT []))
theorem mtd_clearT : MtR X "dict.clear" rDClearT := by
  intro pins s σ H x vs v us Q I rx rv h
  obtain ⟨a, kvs, rfl, rfl, e, q⟩ := h
  obtain rfl : v = Value.ref a := rx
  cases rv
  obtain ⟨z, hd, xs, rel, o, es, ep, ho, hx, hdat, hes, _⟩ := dt_of I.hok e
  have raw : s.heap.DictRaw a es ep := ⟨o, ho, hx, hdat⟩
  have hsz : es.size ≤ sizeLine := by
    have e1 := congrArg List.length hes
    rw [Array.length_toList, List.length_map] at e1
    rw [e1, ← Paired.length rel]
    exact z
  refine call_meetsIn PySem.F.slot_dict_clear raw.typeIs PySem.F.entry_dict_clear (PySem.F.args_dict_clear_1 _) (meets_dict_clear_raw a) ⟨es, ep, raw, hsz, fun h' raw' hs => ?_⟩
  obtain ⟨o', ho', hx', hdat'⟩ := raw'
  exact ⟨.non, _, d_write (t' := s.toks) (ob := .dT []) I (by rw [e]; exact True.intro) hs ⟨o', ho'⟩ ⟨Nat.zero_le _, hd, [], .nil, o', #[], ep + 1, ho', hx', hdat', rfl, List.nodup_nil⟩, rfl, q⟩
theorem pe_dclearT {o : Expr} {to : TE} {apos cpos : Pos} (ho : PE X o to) (hbase : attributeBase o "clear" X.env (eval o X.env) = eval o X.env := by rfl) (hline : (apos.endLine == cpos.line) = true := by rfl) : PE X (.Call (.Attribute o "clear" apos) [] [] cpos) (tBM0 X.K "dict" rDClearT to) :=
  pe_bm0 PySem.F.plainAttrs_dict PySem.F.slot_dict_clear PySem.F.type_dict_clear mtd_clearT ho hbase hline
theorem g_bmT {K : PySem.W.Frag} {H : Hp} {a : Addr} {kvs : List (List Key × V)} {P : Prop} (h : H a = some (.dT kvs)) (q : P) : rBM K "dict" (.ref a) H P := ⟨.inr (.inr (.inl ⟨rfl, .inr ⟨kvs, h⟩⟩)), q⟩
theorem g_clearT {H : Hp} {a : Addr} {kvs : List (List Key × V)} {Q : VK} (h : H a = some (.dT kvs)) (q : ∀ H', Fr [a] H H' → H' a = some (.dT []) → Q .non H') : rDClearT (.ref a) [] H Q := ⟨a, kvs, rfl, rfl, h, q _ (Fr.put h trivial) upd_same⟩
end
/-! ### list(range(a, b)) -/
section
variable {σ : L2.St} {H : Hp} {Q : VK} {ta tb : TE} {a b : Int}
def rLRg (x y : V) (H : Hp) (Q : VK) : Prop := ∃ i j, x = .int i ∧ y = .int j ∧ RgOk i j ∧ ∀ q, H q = none → Q (.ref q) (upd H q (.lst (rgV i j)))
theorem g_lstRg (h : ta σ H fun x H1 => tb σ H1 fun y H2 => rLRg x y H2 Q) : tLstRg (tRg2 ta tb) σ H Q := h
theorem g_rlrg (ok : RgOk a b) (c : ∀ p H', H p = none → Fr [] H H' → H' p = some (.lst (rgV a b)) → Q (.ref p) H') : rLRg (.int a) (.int b) H Q := ⟨a, b, rfl, rfl, ok, fun p hp => c p _ hp (Fr.new hp) upd_same⟩
end
/-! ### what sorted gives, as data -/
section
open PySem.W
theorem dle_total {β : Type} (k : β → PyData) : TotalLe (dataLe false k) := sortLe_total _ false _
theorem srt_perm (ds : List PyData) : (srt ds).Perm ds := List.mergeSort_perm ds _
theorem srt_srt (ds : List PyData) : srt (srt ds) = srt ds := List.mergeSort_of_pairwise (sort_pairwise (dle_total id) ds)
theorem srt_map {β : Type} (f : β → PyData) (l : List β) : (l.mergeSort (dataLe false f)).map f = srt (l.map f) := sort_maps f fun _ _ _ _ => rfl
theorem DaL.zip {H : Hp} : ∀ {xs : List V} {ds : List PyData}, DaL H xs ds → (xs.zip ds).map (·.1) = xs ∧ (xs.zip ds).map (·.2) = ds ∧ ∀ b ∈ xs.zip ds, Da H b.1 b.2
  | _, _, .nil => ⟨rfl, rfl, fun _ h => nomatch h⟩
  | _, _, .cons a t => by
    obtain ⟨h1, h2, h3⟩ := DaL.zip t
    refine ⟨by simp [h1], by simp [h2], fun b hb => ?_⟩
    rcases List.mem_cons.mp hb with e | e
    · rw [e]; exact a
    · exact h3 b e
theorem DaL.ofBs {H : Hp} : ∀ {bs : List (V × PyData)}, (∀ b ∈ bs, Da H b.1 b.2) → DaL H (bs.map (·.1)) (bs.map (·.2))
  | [], _ => .nil
  | b :: bs, h => .cons (h b List.mem_cons_self) (DaL.ofBs fun c hc => h c (List.mem_cons_of_mem _ hc))
theorem g_srt {K : PySem.W.Frag} {H : Hp} {Q : VK} {a : Addr} {xs : List V} {ds : List PyData} (hs : SqL K H a xs) (hd : DaL H xs ds) (ha : AllAlike ds) (hk : Sortable ds) (hdp : ∀ d ∈ ds, d.depth ≤ 60)
    (c : ∀ p H' ys, H p = none → Fr [] H H' → H' p = some (.lst ys) → DaL H ys (srt ds) → Q (.ref p) H') : rSortD K [.ref a] H Q := by
  obtain ⟨z1, z2, z3⟩ := hd.zip
  refine g_sortD (bs := xs.zip ds) (by rw [z1]; exact hs) z3 (by rw [z2]; exact ha) (by rw [z2]; exact hk) (fun b hb => hdp b.2 (by rw [← z2]; exact List.mem_map.mpr ⟨b, hb, rfl⟩)) fun p H' hp f e => ?_
  refine c p H' _ hp f e ?_
  have q := DaL.ofBs (H := H) (bs := (xs.zip ds).mergeSort (dataLe false (·.2))) fun b hb => z3 b ((List.mergeSort_perm _ _).mem_iff.mp hb)
  rw [srt_map (fun b : V × PyData => b.2), z2] at q
  exact q
theorem alike_len : ∀ (n : Nat) (xs ys : List Int), alikeAll (xs.map .int) (ys.map .int) = true := fun _ => alike_ints
end
/-! ### chains, min, in, options -/
abbrev tChainT (r r' : R2) (ta tb tc : TE) : TT := tTest (tChain r r' ta tb tc)
section
variable {K : PySem.W.Frag} {σ : L2.St} {H : Hp} {Q : VK} {ta tb tc : TE} {r r' : R2} {y : V} {k : Bool} {p : Addr} {ns : List Int} {m : Int}
def rCh (r' : R2) (tc : TE) (y : V) (σ : L2.St) (Q : VK) (z : V) (H3 : Hp) : Prop := ∃ k, z = .bl k ∧ (if k = true then tc σ H3 fun w' H4 => r' y w' H4 Q else Q (.bl false) H3)
theorem g_chain (h : ta σ H fun x H1 => tb σ H1 fun y H2 => r x y H2 fun z H3 => rCh r' tc y σ Q z H3) : tChain r r' ta tb tc σ H Q := h
theorem g_rch (h : if k = true then tc σ H fun w' H4 => r' y w' H4 Q else Q (.bl false) H) : rCh r' tc y σ Q (.bl k) H := ⟨k, rfl, h⟩
theorem g_min (h : SqL K H p (ns.map V.int)) (hl : 0 < ns.length) (q : ∀ m, m ∈ ns → (∀ y, y ∈ ns → m ≤ y) → Q (.int m) H) : rMin K [.ref p] H Q := ⟨p, ns, rfl, h, hl, q⟩
theorem inI : inV (.int m) (ns.map V.int) = decide (m ∈ ns) := by
  unfold inV
  induction ns with
  | nil => rfl
  | cons a t ih =>
    rw [List.map_cons, List.any_cons, ih]
    show ((a == m) || decide (m ∈ t)) = _
    by_cases h : a = m
    · simp [h]
    · have h2 : ¬ m = a := fun z => h z.symm
      simp [h, h2]
theorem flatI : (ns.map V.int).all flatV = true := List.all_eq_true.mpr fun x hx => by obtain ⟨n, _, rfl⟩ := List.mem_map.mp hx; rfl
theorem g_ninI (h : SqL K H p (ns.map V.int)) (q : Q (.bl (!decide (m ∈ ns))) H) : rIn K true (.int m) (.ref p) H Q := ⟨p, _, rfl, .inl h, rfl, flatI, by rw [inI]; exact q⟩
theorem g_neB {a b : Bool} (h : Q (.bl (!decide (a = b))) H) : rNe (.bl a) (.bl b) H Q := ⟨rfl, by rw [show decide (V.bl a = V.bl b) = decide (a = b) from by simp]; exact h⟩
end
/-- a number, or none -/
def optV : Option Int → V
  | none => .non
  | some r => .int r
def optD : Option Int → PyData
  | none => .none
  | some r => .int r
section
variable {H : Hp} {Q : VK} {o : Option Int} {r : Int}
theorem g_isO (h : Q (.bl (decide (o = none))) H) : rIsNon (optV o) .non H Q := g_isN (by cases o <;> simpa [optV] using h)
theorem g_notO (h : Q (.bl (!decide (o = none))) H) : rIsNotNon (optV o) .non H Q := g_notN (by cases o <;> simpa [optV] using h)
theorem g_eqO (h : Q (.bl (decide (o = some r))) H) : rEq (optV o) (.int r) H Q := by
  cases o with
  | none => exact ⟨rfl, by simpa [optV] using h⟩
  | some q => exact g_eqI (by simpa using h)
theorem DaL.opts : ∀ {R : List (Option Int)}, DaL H (R.map optV) (R.map optD)
  | [] => .nil
  | none :: R => .cons .non DaL.opts
  | some r :: R => .cons (.int r) DaL.opts
theorem imm_opts {R : List (Option Int)} : immL (R.map optD) = true := immL_of fun d hd => by obtain ⟨o, _, rfl⟩ := List.mem_map.mp hd; cases o <;> rfl
theorem dp_opts {R : List (Option Int)} : dpL (R.map optD) ≤ 1 := dpL_le fun d hd => by obtain ⟨o, _, rfl⟩ := List.mem_map.mp hd; cases o <;> exact Nat.zero_le _
end
end Lw

namespace Lw
open PySem PySem.Spec PyProof.Rows L2
/-! ### enumerate(tuple) -/
set_option maxHeartbeats 4000000 in
theorem meets_enumT {v : Value} {o : Obj} {H : Heap → Prop} (B : Begins v o H) :
    Meets (Builtin.«enumerate.__new__» ⟨[.type "enumerate", v], []⟩) (fun _ R s => H s.heap ∧
      R (.ok (.ret (.ref (s.heap.push o).objs.size))) { s with heap := (s.heap.push o).push { cls := .type "enumerate", data := .fields #[.none, .bool false, .ref s.heap.objs.size, rawInt 0, .none, .none] } }) :=
  .of_wp fun prog w A R s h => by
    obtain ⟨hp, g, d, tk, os⟩ := s; obtain ⟨h1, h⟩ := h
    have hsub := sub_enumerate
    have q1 : ∀ {A' : Around} {E : Value → Shared → Prop} {Q : Value → Shared → Prop}, Q (.ref hp.objs.size) ⟨hp.push o, g, d, tk, os⟩ → wpAny (model prog w) A' (pyIter v) Q E ⟨hp, g, d, tk, os⟩ :=
      fun q => B.iter prog w _ _ ⟨hp, g, d, tk, os⟩ _ h1 q
    wp_walk using q1
    refine wpAny_stack_any fun st => wpAny_pure ?_
    split
    · rename_i c _ _ _ _ _
      cases (c == Value.type "enumerate")
      · wp_walk using q1
        exact ⟨_, rfl, h⟩
      · wp_walk using q1
        exact ⟨_, rfl, h⟩
    · wp_walk using q1
      exact ⟨_, rfl, h⟩
theorem enum_begins1 {prog : Program} {w : World} {A : Around} {E : Value → Shared → Prop} {s : Shared} {v : Value} {o : Obj} {H : Heap → Prop} {Q : Value → Shared → Prop} (B : Begins v o H) (h1 : H s.heap)
    (h : ∀ h', IsEnum h' (s.heap.objs.size + 1) s.heap.objs.size 0 .none → h'.get? s.heap.objs.size = some o → h'.objs.size = s.heap.objs.size + 2 →
      (∀ b o, s.heap.get? b = some o → h'.get? b = some o) → Q (.ref (s.heap.objs.size + 1)) { s with heap := h' }) :
    wpAny (model prog w) A (call (.type "enumerate") [v]) Q E s := by
  refine callType_new F.called_enumerate (by decide) (F.typeCall_enumerate_1 _) (F.newCall_enumerate_1 _) (fun obj => F.args_object_init_2 obj _) F.entry_enumerate_new
    (meets_enumT B) ⟨h1, ?_⟩
  have hz : (s.heap.push o).objs.size = s.heap.objs.size + 1 := Heap.size_push ..
  show _ ∧ _
  rw [hz]
  have he : IsEnum ((s.heap.push o).push { cls := .type "enumerate", data := .fields #[.none, .bool false, .ref s.heap.objs.size, rawInt 0, .none, .none] }) (s.heap.objs.size + 1) s.heap.objs.size 0 .none := by
    have := Heap.get?_push_size (s.heap.push o) (o := { cls := .type "enumerate", data := .fields #[.none, .bool false, .ref s.heap.objs.size, rawInt 0, .none, .none] }) rfl
    rw [hz] at this; exact this
  refine ⟨⟨_, he, rfl⟩, h _ he (Heap.get?_push_of_some _ (Heap.get?_push_size _ B.free)) (by rw [Heap.size_push, hz]) fun b o x => Heap.get?_push_of_some _ (Heap.get?_push_of_some _ x)⟩
/-- the tuple at a as it stands at each turn, each item in a new pair -/
def IteT (K : PySem.W.Frag) (a : Addr) : It :=
  ⟨fun i H => ∃ (xs : List V) (x : V), SqT K H a xs ∧ xs[i]? = some x, fun i H v H' => ∃ T x, v = .ref T ∧ H T = none ∧ H' = upd H T (.tup [.int (i : Nat), x]) ∧ ∀ xs, SqT K H a xs → xs[i]? = some x, fun i H => ∃ xs : List V, SqT K H a xs ∧ xs.length ≤ i⟩
theorem turn_enumT {P : Program} {w : World} {K : PySem.W.Frag} {elts : List Expr} {kk : Nat} {tpos : Pos} (a e it : Addr) :
    Turn P w K (.Tuple elts kk tpos) (IteT K a) [e, it] e (fun i h => (∃ old, IsEnum h e it ((i : Nat) : Int) old) ∧ h.IsTupleIter it a i ∧ e ≠ it) where
  mem := by simp
  obj := fun i h st b hb => by
    obtain ⟨⟨old, he⟩, ⟨o, ho, hc, hd⟩, _⟩ := st
    have e' : b = e ∨ b = it := by simpa using hb
    rcases e' with z | z
    · rw [z]; exact ⟨_, he, fun v q => nomatch q⟩
    · rw [z]; exact ⟨o, ho, fun v q => by rw [hd] at q; cases q⟩
  keep := fun i h h' st k => let ⟨⟨old, he⟩, hi, hne⟩ := st; ⟨⟨old, k e (by simp) _ he⟩, hi.at fun o q => k it (by simp) o q, hne⟩
  item := by
    intro X hP hw hK hc i pins s σ H E I hf st hg
    subst hP hw hK
    obtain ⟨⟨old, he⟩, hit, hne⟩ := st
    obtain ⟨xs, x, hq, hx⟩ := hg
    obtain ⟨its, rv, p, hz⟩ := I.tuple hq
    obtain ⟨u, hu, ru⟩ := rv.get hx
    have hel : e < s.heap.objs.size := Heap.lt_size he
    have hil : it < s.heap.objs.size := by obtain ⟨_, q, _⟩ := hit; exact Heap.lt_size q
    have hai : a ≠ it := fun z => by
      obtain ⟨o, h1, h2, n, h3⟩ := p
      obtain ⟨o', g1, g2, g3⟩ := hit
      rw [z] at h1; rw [h1] at g1; cases g1; rw [h3] at g3; cases g3
    have hae : a ≠ e := fun z => by
      obtain ⟨o, h1, h2, n, h3⟩ := p
      rw [z] at h1; cases Option.some.inj (h1.symm.trans he); cases h3
    have D := Draws.tuple (prog := X.prog) (w := X.w) (A := X.A.in1) (I.ok.hd hc) it a hai its.toArray
    have hi : i < its.toArray.size := by
      have := (List.getElem?_eq_some_iff.mp hu).1
      simpa using this
    refine wpAny_pyNext_enum_itemD D he ⟨hit, p⟩ hi hne (by simp [hne, Ne.symm hae]) fun y h' tk hy ho hst' hT hsz hk => ?_
    have hyu : y = u := by
      have hu' : its.toArray[i]? = some u := by simpa using hu
      rw [hu'] at hy; exact (Option.some.inj hy).symm
    subst hyu
    refine ⟨_, rfl, wpAny_letOwnedTupleGo_enum (s := { s with heap := h', toks := tk + 1 }) ho fun h'' he' sb => ?_⟩
    have hT2 : h''.get? s.heap.objs.size = some { cls := .type "tuple", data := .seq #[.int i tk, y] } := (sb.2 _ (Nat.ne_of_gt hel)).trans hT
    have new : ObjOk X.prog X.w (upd H s.heap.objs.size (.tup [.int (i : Nat), x])) h'' s.heap.objs.size (.tup [.int (i : Nat), x]) :=
      ⟨by show 2 ≤ sizeLine; decide, [.int i tk, y], .cons ⟨_, rfl⟩ (.cons ru .nil), ⟨_, hT2, rfl, _, rfl⟩⟩
    have I1 : Inv X pins σ (upd H s.heap.objs.size (.tup [.int (i : Nat), x])) { s with heap := h'', toks := tk + 1 } :=
      I.turnedNew (ch := [e, it]) (fun b ob hb q => (sb.2 b (fun z => hb (by simp [z]))).trans (hk b ob (fun z => hb (by simp [z])) (fun z => hb (by simp [z])) q)) hf (Nat.le_refl _) new
    refine ⟨.ref s.heap.objs.size, _, I1, rfl, ⟨_, x, rfl, I.hok.fresh (Nat.le_refl _), rfl, fun ys hy => by rw [I.tuple_inj hy hq]; exact hx⟩, ⟨⟨y, ?_⟩, hst'.1.at fun o q => (sb.2 it (Ne.symm hne)).trans q, hne⟩, fun b hb => ?_⟩
    · have e1 : ((i + 1 : Nat) : Int) = (i : Int) + 1 := by omega
      rw [e1]; exact he'
    · have hb' : b < s.heap.objs.size := by
        have e' : b = e ∨ b = it := by simpa using hb
        rcases e' with z | z
        · rw [z]; exact hel
        · rw [z]; exact hil
      rw [upd_ne (Nat.ne_of_lt hb')]
      exact (hf b hb).1
  done := by
    intro X hP hw hK hc i pins s σ H E I hf st hg
    subst hP hw hK
    obtain ⟨⟨old, he⟩, hit, hne⟩ := st
    obtain ⟨xs, hq, hx⟩ := hg
    obtain ⟨its, rv, p, hz⟩ := I.tuple hq
    obtain ⟨f0, f1, f2, f3, f4, f5⟩ := hf it (by simp)
    have hl := rv.length
    have hai : a ≠ it := fun z => by
      obtain ⟨o, h1, h2, n, h3⟩ := p
      obtain ⟨o', g1, g2, g3⟩ := hit
      rw [z] at h1; rw [h1] at g1; cases g1; rw [h3] at g3; cases g3
    have hT : s.TypeIs (.ref e) "enumerate" := ⟨_, he, rfl⟩
    unfold pyNext
    refine wpAny_bind (wpAny_attempt (wpAny_callSpecial?_slot (name := Str.ofString "__next__") hT F.slot_enumerate_next
      (wpAny_call_entry F.slot_enumerate_next hT F.entry_enumerate_next ?_ (F.args_enumerate_next_1 _))))
    show wpAny _ _ (field (.ref e) 2 >>= _) _ _ _
    refine wpAny_bind (wpAny_field he rfl (x := .ref it) rfl ?_)
    refine wpAny_bind (wpAny_nextOf_tuple_end (items := its.toArray) (show X.A.in1.handled = none from I.ok.hd hc) hit p (by simp; omega) fun h' x he' hx' => ?_)
    obtain ⟨o, ho, hcl⟩ := hx'
    refine wpAny_bind (wpAny_isInstance (T := "StopIteration") (b := true) ⟨o, ho, hcl⟩ isSubtype_stop ?_)
    exact wpAny_pure ⟨rfl, I.turned (t' := s.toks) (fun b o hb q => he' b o hb q) f0 f1 f3 f4 f5⟩
  self := fun A i s Q E st h => let ⟨⟨_, he⟩, _⟩ := st; wpAny_pyIter_enum he h
def iEnumT (K : PySem.W.Frag) (ta : TA) : TI := fun σ H R => ta σ H fun vs H1 => ∃ a xs, vs = [.ref a] ∧ SqT K H1 a xs ∧ R (IteT K a) H1
theorem pi_enumT {X : Cx} {e : Expr} {ta : TA} {p pos tpos : Pos} {elts : List Expr} {kk : Nat} (hg : Gl X "enumerate") (hm : X.mg "enumerate" = none) (ha : PA X [e] ta) (hs : starEach [e] X.env = [(false, eval e X.env)] := by rfl) :
    PI X (.Tuple elts kk tpos) (.Call (.Name "enumerate" p) [e] [] pos) (iEnumT X.K ta) := by
  refine ⟨fun pins s σ H R I h => ?_⟩
  refine Call_ (ld_blt I hg hm boot_enumerate (PyProof.Rows.callWith_type1 (thn (ha.run pos pins s σ H _ I h) fun us s1 ⟨vs, H1, I1, r1, q1⟩ => ?_) hs rfl))
  obtain ⟨a, xs, ex, hq, q⟩ := q1
  subst ex
  cases r1 with
  | cons r rr =>
    cases rr
    cases r
    obtain ⟨its, rv, p', hz⟩ := I1.tuple hq
    refine enum_begins1 (begins_tuple a its.toArray) p' fun h' he hit hsz hk => wpAny_pyIter_enum he ?_
    have I2 : Inv X pins σ H1 { s1 with heap := h' } := I1.kept (t' := s1.toks) hk
    refine ⟨s1.heap.objs.size + 1, [s1.heap.objs.size + 1, s1.heap.objs.size], _, _, H1, rfl, I2, turn_enumT a (s1.heap.objs.size + 1) s1.heap.objs.size, ⟨⟨.none, he⟩, ⟨_, hit, rfl, rfl⟩, Nat.succ_ne_self _⟩, fun b hb => ?_, q⟩
    have e' : b = s1.heap.objs.size + 1 ∨ b = s1.heap.objs.size := by simpa using hb
    have hle : s1.heap.objs.size ≤ b := by
      rcases e' with z | z
      · rw [z]; exact Nat.le_add_right _ _
      · rw [z]; exact Nat.le_refl _
    exact I1.fpOk hle (I1.hok.fresh hle)
section
variable {K : PySem.W.Frag} {σ : L2.St} {H : Hp} {D : Ends} {tb : TS} {g : TG} {a : Addr} {R : It → Hp → Prop} {as : TA}
def rEnT (K : PySem.W.Frag) (vs : List V) (H : Hp) (R : It → Hp → Prop) : Prop := ∃ a xs, vs = [.ref a] ∧ SqT K H a xs ∧ R (IteT K a) H
theorem g_iET (h : as σ H fun vs H1 => rEnT K vs H1 R) : iEnumT K as σ H R := h
theorem g_renT {xs : List V} (h : SqT K H a xs) (c : R (IteT K a) H) : rEnT K [.ref a] H R := ⟨a, xs, rfl, h, c⟩
theorem f_enumT {xs : List V} (Pv : Nat → L2.St → Hp → Prop) (h0 : Pv 0 σ H) (hl : ∀ i σ H, i ≤ xs.length → Pv i σ H → SqT K H a xs)
    (hs : ∀ i x T σ H H', xs[i]? = some x → Pv i σ H → H T = none → Fr [] H H' → H' T = some (.tup [.int (i : Nat), x]) → g (.ref T) σ H' fun σ2 H2 => tb { D with nx := Pv (i + 1), ct := Pv (i + 1), bk := D.nx } σ2 H2) (hd : ∀ σ H, Pv xs.length σ H → D.nx σ H) : ForGo (IteT K a) g tb D σ H := by
  refine ⟨fun i m σ H => m = xs.length - i ∧ i ≤ xs.length ∧ Pv i σ H, ⟨xs.length, rfl, Nat.zero_le _, h0⟩, ?_⟩
  rintro i m σ H ⟨rfl, hi, p⟩
  have qx := hl i σ H hi p
  by_cases hlt : i < xs.length
  · have hx : xs[i]? = some xs[i] := List.getElem?_eq_getElem hlt
    refine .inr ⟨⟨xs, _, qx, hx⟩, Pv (i + 1), fun σ' H' p' => ⟨xs.length - (i + 1), by omega, rfl, hlt, p'⟩, fun v H' y => ?_⟩
    obtain ⟨T, x', rfl, hT, rfl, f1⟩ := y
    exact hs i x' T σ H _ (f1 xs qx) p hT (Fr.new hT) upd_same
  · have e : i = xs.length := by omega
    subst e
    exact .inl ⟨⟨xs, qx, Nat.le_refl _⟩, hd σ H p⟩
/-! small words -/
variable {Q : VK} {te : TE} {x : V}
def rIntB : List V → Hp → VK → Prop := fun xs H Q => ∃ k, xs = [.bl k] ∧ Q (.int (if k then 1 else 0)) H
theorem b_intB {X : Cx} : CallR X (.type "int") rIntB := fun pins s σ H xs us Q I r h => call_int1 pins s σ H xs us Q I r (.inr h)
theorem g_intB {k : Bool} (h : Q (.int (if k then 1 else 0)) H) : rIntB [.bl k] H Q := ⟨k, rfl, h⟩
theorem g_slT {xs : List V} {lo hi : Option Int} (h : SqT K H a xs) (n : ¬ (HT.sIx xs.length 0 lo = 0 ∧ HT.sIx xs.length xs.length hi = xs.length)) (q : ∀ l H', H l = none → Fr [] H H' → H' l = some (.tup (cutV xs lo hi)) → Q (.ref l) H') : rSlT K (.ref a) lo hi H Q :=
  ⟨a, xs, rfl, h, n, fun l hl => q l _ hl (Fr.new hl) upd_same⟩
theorem cut_tail {x : V} {xs : List V} : cutV (x :: xs) (some 1) none = xs := by
  unfold cutV
  rw [HT.sIx_none, show (some (1 : Int)) = some (((1 : Nat) : Int)) from rfl, HT.sIx_nat, List.length_cons, Nat.min_eq_left (Nat.succ_le_succ (Nat.zero_le _)), List.drop_one, List.tail_cons]
  exact List.take_of_length_le (by omega)
theorem g_sl1 {x : V} {xs : List V} (h : SqT K H a (x :: xs)) (q : ∀ l H', H l = none → Fr [] H H' → H' l = some (.tup xs) → Q (.ref l) H') : rSlT K (.ref a) (some 1) none H Q := by
  refine g_slT h (fun z => ?_) fun l H' n f e => q l H' n f (by rw [cut_tail] at e; exact e)
  have z1 := z.1
  rw [show (some (1 : Int)) = some (((1 : Nat) : Int)) from rfl, HT.sIx_nat, List.length_cons, Nat.min_eq_left (Nat.succ_le_succ (Nat.zero_le _))] at z1
  exact absurd z1 (by decide)
theorem g_un {r : V → Hp → VK → Prop} (h : te σ H fun x H1 => r x H1 Q) : tUn r te σ H Q := h
abbrev rNeg : V → Hp → VK → Prop := rU fun i => .int (-i)
theorem g_neg {i : Int} (h : Q (.int (-i)) H) : rNeg (.int i) H Q := ⟨i, rfl, h⟩
theorem g_trC {P : Bool → Prop} {x : V} {xs : List V} (h : SqL K H a (x :: xs)) (q : P true) : ∃ k, TruV K (.ref a) H k ∧ P k := ⟨true, .inl ⟨x :: xs, h, rfl⟩, q⟩
theorem g_trN {P : Bool → Prop} (h : SqL K H a []) (q : P false) : ∃ k, TruV K (.ref a) H k ∧ P k := ⟨false, .inl ⟨[], h, rfl⟩, q⟩
end
end Lw

namespace Lw
open PySem PySem.Spec PyProof.Rows L2
/-! ### defs that may raise, classes of errors -/
structure CalX (P : Program) (w : World) (K : PySem.W.Frag) (mg : Str → Option Value) (base : Heap) (x : Str) (k : Nat) (ps : List Str) (sp : Sp) : Prop where
  ex : ∃ f fd, FnOk P w K mg base (L2.CX P w) k f fd ps sp ∧ mg x = some (.ref f) ∧ PySem.W.keepIn K (.ref f) = true ∧ Binds K fd ps []
structure ErrC (K : PySem.W.Frag) (mg : Str → Option Value) (x : Str) (C : Addr) : Prop where
  g : mg x = some (.ref C)
  k : PySem.W.keepIn K (.ref C) = true
  e : PySem.W.excIn K C [.type "ValueError", .type "Exception", .type "BaseException", .type "object"] "ValueError.__new__" = true
  s : PySem.W.subIn K (.ref C) (.type "BaseException") = some true
  t : PySem.W.typeIn K (.ref C) = some (.type "type")
def tClX (sp : Sp) (W : WX) (t : TA) : TE := fun σ H Q => t σ H fun vs H1 => sp vs H1 Q (fun cls d H' => W cls d σ H')
def tRz (C : Addr) (W : WX) : TS := fun _ σ H => W (.ref C) none σ H
section
variable {X : Cx} {k : Nat} {ps : List Str} {sp : Sp} {x m : Str} {p p2 pos pos2 : Pos} {j : Nat} {e : Expr} {es : List Expr} {t : TA} {C : Addr} {W : WX}
theorem pe_clX (c : CalX X.prog X.w X.K X.mg X.base x k ps sp) (hr : Room k X.A) (hg : Gl X x) (tk : Takes X W) (ha : PA X (e :: es) t) (hdb : (x == ("__debug__" : Str)) = false := by decide)
    (he : starEach (e :: es) X.env = (false, eval e X.env) :: starEach es X.env := by rfl) (hpl : (backTo pos (starEach es X.env)).any (·.1) = false := by rfl) : PE X (.Call (.Name x p) (e :: es) [] pos) (tClX sp W t) := by
  obtain ⟨f, fd, F, hm, hk, hb⟩ := c.ex
  exact pe_callS (E := fun σ cls d H => W cls d σ H) F hr hg hm hk hb (fun s => passAt tk s) ha hdb he hpl
theorem ps_rz (hc : X.calm = true) (tk : Takes X W) (c : ErrC X.K X.mg x C) (hg : Gl X x) (hdb : (x == ("__debug__" : Str)) = false := by decide) :
    PS X (.Raise (some (.Call (.Name x p) [.Constant (.str m) j p2] [] pos)) none pos2) (tRz C W) :=
  ps_raise hc tk (pmk_own PySem.F.excBase_ValueError c.e c.g c.k (raises_own c.s c.t) hg hdb)
/-- a class of errors, by its name -/
theorem pe_err (c : ErrC X.K X.mg x C) (hg : Gl X x) (hdb : (x == ("__debug__" : Str)) = false := by decide) : PE X (.Name x p) (tC (.ref C)) := by
  refine ⟨fun pins s σ H Q I h => ?_⟩
  exact ld_glob I hg c.g ⟨V.ref C, H, I, rfl, h⟩ hdb
end
/-- a whole number of the module, by its name -/
theorem pe_gint {X : Cx} {x : Str} {n : Int} {pos : Pos} (h : ∃ tk, X.mg x = some (.int n tk)) (hg : Gl X x) (hd : (x == ("__debug__" : Str)) = false := by decide) : PE X (.Name x pos) (tC (.int n)) := by
  obtain ⟨tk, e⟩ := h
  exact pe_glob hg e ⟨tk, rfl⟩ hd
/-! isinstance of a caught error -/
def rIsET (K : PySem.W.Frag) (D a : Addr) : List V → Hp → VK → Prop := fun xs H Q => ∃ (tp : Addr) (cs : List V) (us : List Value) (b : Bool), xs = [.ref a, .ref tp] ∧ H tp = some (.tup cs) ∧ (∀ ws, Vals cs ws → ws = us) ∧ PySem.W.kitAny K (.ref D) us = some b ∧ Q (.bl b) H
theorem call_isET {X : Cx} {a D : Addr} {oe : Obj} {pn : List (Addr × Obj)} (C : ExcC X.K D) (hz : Zc (.ref D) none oe) (hf : ∃ vs, oe.data = .fields vs) : CallR (X.suite a ((a, oe) :: pn)) (.builtin "isinstance") (rIsET X.K D a) := by
  intro pins s σ H xs us Q I r h
  obtain ⟨tp, cs, ws, b, rfl, hT, hw, e, q⟩ := h
  obtain ⟨u1, u2, rfl, r1, r2⟩ := vals2 r
  cases (show u2 = Value.ref tp from r2)
  cases (show u1 = Value.ref a from r1)
  obtain ⟨hget, _⟩ := I.pin (a, oe) (List.mem_append.mpr (.inl List.mem_cons_self))
  obtain ⟨vs, hv⟩ := hf
  have J : PySem.W.InstAt s.heap a oe D none := by
    obtain ⟨oc, od, oda, osl⟩ := oe
    obtain ⟨h1, h2⟩ := hz
    dsimp only at h1 h2 hv
    subst h1 h2 hv
    exact ⟨hget, rfl, rfl, trivial⟩
  obtain ⟨_, its, rv, o, h1, h2, n, h3⟩ := (show ObjOk X.prog X.w H s.heap tp (.tup cs) from I.hok tp _ hT)
  have e3 := hw its rv
  subst e3
  obtain ⟨oc, od, dt, sl⟩ := o
  simp only at h2 h3
  subst h2 h3
  exact PySem.W.kia_tup (PySem.W.handS_kitx_exc C.hg C.hk C.hs C.hd C.ha C.hn C.ht C.hm) I.kIn J h1 e (fun z => nomatch z) fun tk => ⟨.bl b, H, I.kept (t' := tk) fun _ _ z => z, rfl, q⟩
def rIsEd (K : PySem.W.Frag) (D a : Addr) (cls : Value) (d : Option Addr) : List V → Hp → VK → Prop := fun xs H Q => cls = .ref D ∧ d = none ∧ rIsE K D a xs H Q
def rIsETd (K : PySem.W.Frag) (D a : Addr) (cls : Value) (d : Option Addr) : List V → Hp → VK → Prop := fun xs H Q => cls = .ref D ∧ d = none ∧ rIsET K D a xs H Q
theorem call_isEd {X : Cx} {a D : Addr} {oe : Obj} {pn : List (Addr × Obj)} {cls : Value} {d : Option Addr} (C : ExcC X.K D) (hz : Zc cls d oe) (hf : ∃ vs, oe.data = .fields vs) : CallR (X.suite a ((a, oe) :: pn)) (.builtin "isinstance") (rIsEd X.K D a cls d) := by
  intro pins s σ H xs us Q I r h
  obtain ⟨rfl, rfl, h⟩ := h
  exact call_isE C hz hf pins s σ H xs us Q I r h
theorem call_isETd {X : Cx} {a D : Addr} {oe : Obj} {pn : List (Addr × Obj)} {cls : Value} {d : Option Addr} (C : ExcC X.K D) (hz : Zc cls d oe) (hf : ∃ vs, oe.data = .fields vs) : CallR (X.suite a ((a, oe) :: pn)) (.builtin "isinstance") (rIsETd X.K D a cls d) := by
  intro pins s σ H xs us Q I r h
  obtain ⟨rfl, rfl, h⟩ := h
  exact call_isET C hz hf pins s σ H xs us Q I r h
/-- try: .. except C as n: .. -/
def tTryAs (K : PySem.W.Frag) (c : Value) (i : Nat) (tb : WX → TS) (ts : Addr → Value → Option Addr → TS) (Wout : WX) : TS := fun D σ H => tb (wAs K c i ts Wout D) D σ H
theorem vals_refs : ∀ {cs : List Addr} {ws : List Value}, Vals (cs.map V.ref) ws → ws = cs.map Value.ref
  | [], [], _ => rfl
  | c :: cs, w :: ws, h => by
    cases h with
    | cons a t =>
      rw [vals_refs t, show w = Value.ref c from a]; rfl
  | [], _ :: _, h => by cases h
  | _ :: _, [], h => by cases h
section
variable {K : PySem.W.Frag} {σ : L2.St} {H : Hp} {Q : VK} {D : Ends} {sp : Sp} {W : WX} {as : TA} {C a E tp : Addr}
theorem g_clX (h : as σ H (fun vs H1 => sp vs H1 Q (fun cls d H' => W cls d σ H'))) : tClX sp W as σ H Q := h
theorem g_rz (h : W (.ref C) none σ H) : tRz C W D σ H := h
theorem g_isE {c : Addr} {b : Bool} (e : PySem.W.kitOne K (.ref E) (.ref c) = some b) (q : Q (.bl b) H) : rIsE K E a [.ref a, .ref c] H Q := ⟨.ref c, .ref c, b, rfl, fun _ r => r, e, q⟩
theorem g_isEt {c : String} {b : Bool} (e : PySem.W.kitOne K (.ref E) (.type c) = some b) (q : Q (.bl b) H) : rIsE K E a [.ref a, .ty c] H Q := ⟨.ty c, .type c, b, rfl, fun _ r => r, e, q⟩
theorem g_isET {cs : List Addr} {b : Bool} (h : H tp = some (.tup (cs.map V.ref))) (e : PySem.W.kitAny K (.ref E) (cs.map Value.ref) = some b) (q : Q (.bl b) H) : rIsET K E a [.ref a, .ref tp] H Q :=
  ⟨tp, _, _, b, rfl, h, fun _ r => vals_refs r, e, q⟩
end
end Lw

namespace Lw
open PySem PySem.Spec PyProof.Rows L2
/-! ### t + u and t * n, whatever their lengths -/
def rCatA (K : PySem.W.Frag) : R2 := fun x y H Q => ∃ a b xs ys, x = V.ref a ∧ y = V.ref b ∧ SqT K H a xs ∧ SqT K H b ys ∧ xs.length + ys.length ≤ sizeLine ∧
  (xs = [] → Q (.ref b) H) ∧ (xs ≠ [] → ys = [] → Q (.ref a) H) ∧ (xs ≠ [] → ys ≠ [] → ∀ p, H p = none → Q (.ref p) (upd H p (.tup (xs ++ ys))))
theorem cat_all {prog : Program} {w : World} {A : Around} {E : Value → Shared → Prop} {s : Shared} {t b : Addr} {vs ws : List Value} {Q : Value → Shared → Prop} (ht : IsTup s.heap t vs.toArray) (hb : IsTup s.heap b ws.toArray)
    (h0 : vs = [] → Q (.ref b) s) (h1 : vs ≠ [] → ws = [] → Q (.ref t) s) (h2 : vs ≠ [] → ws ≠ [] → Q (.ref s.heap.objs.size) { s with heap := s.heap.push { cls := .type "tuple", data := .seq (vs ++ ws).toArray } }) (hsz : vs.length + ws.length ≤ sizeLine) :
    wpAny (model prog w) A (binaryOp .Add (.ref t) (.ref b)) Q E s := by
  obtain ⟨⟨ca, da, ta, la⟩, ga, ha, na, ka⟩ := id ht
  obtain ⟨⟨cb, db, tb, lb⟩, gb, hb', nb, kb⟩ := id hb
  simp only at ha ka hb' kb
  subst ha ka hb' kb
  have e : vs.toArray ++ ws.toArray = (vs ++ ws).toArray := by simp
  by_cases hv : vs = []
  · exact concat_meets ⟨_, ga, rfl⟩ ⟨_, gb, rfl⟩ noFill_tuple_add seq_tuple_add PySem.F.slot_tuple_add PySem.F.entry_tuple_add (PySem.F.args_tuple_add_2 _ _) (tuple_addW0 t b vs.toArray ws.toArray na nb da db la lb (by simp [hv])) ⟨ga, gb, h0 hv⟩
  · by_cases hw : ws = []
    · exact concat_meets ⟨_, ga, rfl⟩ ⟨_, gb, rfl⟩ noFill_tuple_add seq_tuple_add PySem.F.slot_tuple_add PySem.F.entry_tuple_add (PySem.F.args_tuple_add_2 _ _) (tuple_addW1 t b vs.toArray ws.toArray na nb da db la lb (by simpa using hv) (by simp [hw])) ⟨ga, gb, h1 hv hw⟩
    · refine concat_meets ⟨_, ga, rfl⟩ ⟨_, gb, rfl⟩ noFill_tuple_add seq_tuple_add PySem.F.slot_tuple_add PySem.F.entry_tuple_add (PySem.F.args_tuple_add_2 _ _) (tuple_addW2 t b vs.toArray ws.toArray na nb da db la lb (by simpa using hv) (by simpa using hw) (by rw [List.size_toArray, List.size_toArray]; exact hsz)) ⟨ga, gb, ?_⟩
      rw [e]
      exact h2 hv hw
section
variable {X : Cx}
theorem op_catA : OpR X (binaryOp .Add) (rCatA X.K) := by
  intro pins s σ H x y v u Q I rx ry h
  obtain ⟨a, b, xs, ys, rfl, rfl, ha, hb, hz, q0, q1, q2⟩ := h
  cases rx
  cases ry
  obtain ⟨its, r1, p1, _⟩ := I.tuple ha
  obtain ⟨jts, r2, p2, _⟩ := I.tuple hb
  refine cat_all p1 p2 (fun z => ⟨.ref b, H, I, rfl, q0 (r1.nil_iff.mp z)⟩) (fun z z' => ⟨.ref a, H, I, rfl, q1 (fun w => z (r1.nil_iff.mpr w)) (r2.nil_iff.mp z')⟩) (fun z z' => ?_) (by rw [← r1.length, ← r2.length]; exact hz)
  refine ⟨.ref s.heap.objs.size, _, I.laid (t' := s.toks) (o := .tup (xs ++ ys)) (fun b ob q => Heap.get?_push_of_some _ q) (Nat.le_refl _) ?_, rfl, q2 (fun w => z (r1.nil_iff.mpr w)) (fun w => z' (r2.nil_iff.mpr w)) _ (I.hok.fresh (Nat.le_refl _))⟩
  exact ⟨by rw [List.length_append]; exact hz, _, r1.append r2, IsTup.new _ _⟩
theorem tuple_mulS (l : Addr) (items : Array Value) (n : Nat) (dd : Option Addr) (sl : Array (Option Value)) (x : Int) (u : Tok) (c0 : (decide (x < -(2 ^ 63)) || decide (x ≥ 2 ^ 63)) = false) (c1 : (items.isEmpty || x == 1) = true) :
    Meets (Builtin.«tuple.__mul__» ⟨[.ref l, .int x u], []⟩) (fun _ R s => s.heap.get? l = some { cls := .type "tuple", dict := dd, data := .seq items n, slots := sl } ∧ R (.ok (.ret (Value.ref l))) s) :=
  .of_wp fun prog w A R s h => by
    obtain ⟨hp, g, d, tk, os⟩ := s
    obtain ⟨hl, h⟩ := h
    have f1 := AutoSeq1.idx_int
    wp_walk using wpAny_loadPart' hl
    repeat (first
      | (refine wpAny_ite_false (decide_eq_false (by rw [c0]; exact Bool.false_ne_true)) ?_; wp_walk using wpAny_loadPart' hl)
      | (refine wpAny_ite_true (decide_eq_true c1) ?_; wp_walk using wpAny_loadPart' hl))
    exact ⟨_, rfl, h⟩
theorem tuple_mulZ (l : Addr) (items : Array Value) (n : Nat) (dd : Option Addr) (sl : Array (Option Value)) (x : Int) (u : Tok) (c0 : (decide (x < -(2 ^ 63)) || decide (x ≥ 2 ^ 63)) = false) (c1 : (items.isEmpty || x == 1) = false) (c2 : (decide (x ≤ 0) || items.isEmpty) = true) :
    Meets (Builtin.«tuple.__mul__» ⟨[.ref l, .int x u], []⟩) (fun _ R s => s.heap.get? l = some { cls := .type "tuple", dict := dd, data := .seq items n, slots := sl } ∧
      R (.ok (.ret (Value.ref s.heap.objs.size))) { s with heap := s.heap.push { cls := Value.type "tuple", data := Data.seq #[] }, toks := s.toks }) :=
  .of_wp fun prog w A R s h => by
    obtain ⟨hp, g, d, tk, os⟩ := s
    obtain ⟨hl, h⟩ := h
    have f1 := AutoSeq1.idx_int
    wp_walk using wpAny_loadPart' hl
    repeat (first
      | (refine wpAny_ite_false (decide_eq_false (by rw [c0]; exact Bool.false_ne_true)) ?_; wp_walk using wpAny_loadPart' hl)
      | (refine wpAny_ite_false (decide_eq_false (by rw [c1]; exact Bool.false_ne_true)) ?_; wp_walk using wpAny_loadPart' hl)
      | (refine wpAny_ite_true (decide_eq_true c2) ?_; wp_walk using wpAny_loadPart' hl))
    exact ⟨_, rfl, h⟩
def rMulA (K : PySem.W.Frag) : R2 := fun x y H Q => ∃ l k xs, x = V.ref l ∧ y = V.int k ∧ SqT K H l xs ∧ xs ≠ [] ∧ 0 ≤ k ∧ k ≤ 1000 ∧ xs.length ≤ 1000 ∧ (k = 1 → Q (.ref l) H) ∧ (k ≠ 1 → ∀ p, H p = none → Q (.ref p) (upd H p (.tup (List.replicate k.toNat xs).flatten)))
theorem op_mulA : OpR X (binaryOp .Mult) (rMulA X.K) := by
  intro pins s σ H x y v u Q I rx ry h
  obtain ⟨l, k, xs, rfl, rfl, hT, hne, h1, h2, hz, q1, q2⟩ := h
  by_cases hk : 2 ≤ k
  · exact op_repT pins s σ H _ _ v u Q I rx ry ⟨l, k, xs, rfl, rfl, hT, hne, hk, h2, hz, q2 (by omega)⟩
  cases rx
  obtain ⟨t, rfl⟩ := ry
  obtain ⟨its, r, ⟨⟨ca, da, ta, la⟩, ga, ha, na, ka⟩, hs⟩ := I.tuple hT
  simp only at ha ka
  subst ha ka
  have hi : its.toArray.isEmpty = false := by
    cases its with
    | nil => cases r; exact absurd rfl hne
    | cons a b => rfl
  have c0 : (decide (k < -(2 ^ 63)) || decide (k ≥ 2 ^ 63)) = false := by
    rw [decide_eq_false (by omega), decide_eq_false (by omega)] <;> rfl
  by_cases hk1 : k = 1
  · have c1 : (its.toArray.isEmpty || k == 1) = true := by rw [hk1]; simp
    refine wpAny_binaryOp_repeat_ref (T := "tuple") (U := "int") (by decide) ⟨_, ga, rfl⟩ (fun s' => typeIs_int s' k t) noFill_tuple_mul F.fills_int_mul F.slot_int_rmul repeat_tuple F.slot_int_index.lookup
      (call_meets F.slot_int_rmul (typeIs_int s k t) F.entry_int_rmul (F.args_int_rmul_2 _ _) (int_rmul_tuple k t l its.toArray na da la)
        ⟨ga, rfl, ⟨_, ga, rfl⟩, call_meets F.slot_tuple_mul ⟨_, ga, rfl⟩ F.entry_tuple_mul (F.args_tuple_mul_2 _ _) (tuple_mulS l its.toArray na da la k t c0 c1) ⟨ga, ?_⟩⟩)
    exact ⟨.ref l, H, I, rfl, q1 hk1⟩
  · have hk0 : k = 0 := by omega
    have c1 : (its.toArray.isEmpty || k == 1) = false := by rw [hi, hk0]; rfl
    have c2 : (decide (k ≤ 0) || its.toArray.isEmpty) = true := by rw [hk0]; rfl
    refine wpAny_binaryOp_repeat_ref (T := "tuple") (U := "int") (by decide) ⟨_, ga, rfl⟩ (fun s' => typeIs_int s' k t) noFill_tuple_mul F.fills_int_mul F.slot_int_rmul repeat_tuple F.slot_int_index.lookup
      (call_meets F.slot_int_rmul (typeIs_int s k t) F.entry_int_rmul (F.args_int_rmul_2 _ _) (int_rmul_tuple k t l its.toArray na da la)
        ⟨ga, rfl, ⟨_, ga, rfl⟩, call_meets F.slot_tuple_mul ⟨_, ga, rfl⟩ F.entry_tuple_mul (F.args_tuple_mul_2 _ _) (tuple_mulZ l its.toArray na da la k t c0 c1 c2) ⟨ga, ?_⟩⟩)
    have e0 : (List.replicate k.toNat xs).flatten = [] := by rw [hk0]; rfl
    have q := q2 hk1
    rw [e0] at q
    refine ⟨.ref s.heap.objs.size, _, I.laid (t' := s.toks) (o := .tup []) (fun b ob q => Heap.get?_push_of_some _ q) (Nat.le_refl _) ?_, rfl, q _ (I.hok.fresh (Nat.le_refl _))⟩
    exact ⟨Nat.zero_le _, [], .nil, IsTup.new _ _⟩
end
section
variable {K : PySem.W.Frag} {H : Hp} {Q : VK} {a b : Addr} {xs ys : List V}
theorem g_catA (h : H a = some (.tup xs)) (h2 : H b = some (.tup ys)) (hl : xs.length + ys.length ≤ sizeLine) (c : ∀ p H', Fr [] H H' → H' p = some (.tup (xs ++ ys)) → Q (.ref p) H') : rCatA K (.ref a) (.ref b) H Q := by
  refine ⟨a, b, xs, ys, rfl, rfl, SqT.of h, SqT.of h2, hl, fun e => ?_, fun e e' => ?_, fun e e' p hp => c p _ (Fr.new hp) upd_same⟩
  · subst e; exact c b H Fr.refl h2
  · subst e'
    rw [List.append_nil] at c
    exact c a H Fr.refl h
theorem g_mulA {k : Int} (h : H a = some (.tup xs)) (hne : xs ≠ []) (h1 : 0 ≤ k) (h2 : k ≤ 1000) (hz : xs.length ≤ 1000) (c : ∀ p H', Fr [] H H' → H' p = some (.tup (List.replicate k.toNat xs).flatten) → Q (.ref p) H') : rMulA K (.ref a) (.int k) H Q := by
  refine ⟨a, k, xs, rfl, rfl, SqT.of h, hne, h1, h2, hz, fun e => ?_, fun e p hp => c p _ (Fr.new hp) upd_same⟩
  subst e
  have e0 : (List.replicate (1 : Int).toNat xs).flatten = xs := by show (xs ++ [] : List V) = xs; rw [List.append_nil]
  rw [e0] at c
  exact c a H Fr.refl h
end
/-! data of any kind stands while nothing that stood is written -/
mutual
theorem Da.fr0 {H H' : Hp} (f : Fr [] H H') : ∀ (d : PyData) (v : V), Da H v d → Da H' v d
  | .none, _, h => by cases h; exact .non
  | .bool b, _, h => by cases h; exact .bl b
  | .int i, _, h => by cases h; exact .int i
  | .str x, _, h => by cases h; exact .str x
  | .list ds, _, h => by
    cases h with
    | lst e z r => exact .lst (f.at0 e) z (DaL.fr0 f ds _ r)
  | .tuple ds, _, h => by
    cases h with
    | tup e z r => exact .tup (f.tup _ _ e) z (DaL.fr0 f ds _ r)
  | .dict _, _, h => by cases h
theorem DaL.fr0 {H H' : Hp} (f : Fr [] H H') : ∀ (ds : List PyData) (vs : List V), DaL H vs ds → DaL H' vs ds
  | [], _, h => by cases h; exact .nil
  | d :: ds, _, h => by
    cases h with
    | cons r t => exact .cons (Da.fr0 f d _ r) (DaL.fr0 f ds _ t)
end
end Lw

namespace Lw
open PySem PySem.Spec PyProof.Rows PySem.Calls L2
/-! ### str(x) of nested data, where nothing is being shown yet -/
structure Tidy (d : PyData) : Prop where
  lay : PyData.layable0 d = true
  sh : PyData.intsShort 13 d = true
  ok : PyData.showable d = true
  nd : PyData.hasDict d = false
/-- str(x): the text of x itself, or what is shown of it -/
def strD : PyData → Str
  | .str x => x
  | d => d.shown
def rStrG : List V → Hp → VK → Prop := fun xs H Q => ∃ (a : Addr) (d : PyData), xs = [V.ref a] ∧ Da H (.ref a) d ∧ Tidy d ∧ Q (.str d.shown) H
theorem b_strG {X : Cx} (hgd : X.A.guards = some []) (hu : X.A.units + 200 < cLine) : CallR X (.type "str") rStrG := by
  intro pins s σ H xs us Q I r h
  obtain ⟨a, d, rfl, dd, td, q⟩ := h
  obtain ⟨u, rfl, ru⟩ := vals1 r
  cases (show u = Value.ref a from ru)
  obtain ⟨as, rr⟩ := Dp.reads I d _ _ (Da.dp (K := X.K) d _ dd) rfl
  have h2 : (PyData.canLay0 d && decide (PyData.depth d ≤ 64) && decide (PyData.weight d ≤ 2 ^ 20)) = true := td.lay
  simp only [Bool.and_eq_true, decide_eq_true_eq] at h2
  have h1 : d.depth ≤ 64 := h2.1.2
  have hz := shown_le13 td.lay td.sh
  exact str_of_reads (h₀ := s.heap) rr td.ok (fun z => by rw [td.nd] at z; cases z) hgd (by omega) (fun _ _ z => z) (fun h' u tk kp => ⟨.str d.shown, H, I.kept (t' := tk) kp, ⟨u, rfl⟩, q⟩) (by rw [sizeLine_eq]; omega)
def txtD : PyData → Str
  | .none => "None"
  | .bool b => if b then "True" else "False"
  | .int i => toString i
  | .str x => x
  | d => d.shown
def rStrA : List V → Hp → VK → Prop := fun xs H Q => ∃ (v : V) (d : PyData), xs = [v] ∧ Da H v d ∧ Tidy d ∧ Q (.str (txtD d)) H
theorem b_strA {X : Cx} (hgd : X.A.guards = some []) (hu : X.A.units + 200 < cLine) : CallR X (.type "str") rStrA := by
  intro pins s σ H xs us Q I r h
  obtain ⟨v, d, rfl, dd, td, q⟩ := h
  obtain ⟨u, rfl, ru⟩ := vals1 r
  cases dd with
  | non =>
    cases (show u = Value.none from ru)
    exact PySem.P.str_of_none ⟨.str "None", H, I.tok _, ⟨_, rfl⟩, q⟩
  | bl b =>
    cases (show u = Value.bool b from ru)
    exact PySem.P.str_of_bool ⟨.str _, H, I.tok _, ⟨_, rfl⟩, q⟩
  | int i =>
    obtain ⟨t, rfl⟩ := (show ∃ t, u = Value.int i t from ru)
    have hl : i.natAbs.log2 < 1920 := of_decide_eq_true td.ok
    exact PySem.P.str_of_int hl ⟨.str _, H, I.tok _, ⟨_, rfl⟩, q⟩
  | str x =>
    obtain ⟨t, rfl⟩ := (show ∃ t, u = Value.str x t from ru)
    exact PySem.P.str_of_str ⟨.str _, H, I, ⟨_, rfl⟩, q⟩
  | @lst a xs ds e z t => exact b_strG hgd hu pins s σ H _ _ Q I (.cons ru .nil) ⟨a, .list ds, rfl, .lst e z t, td, q⟩
  | @tup a xs ds e z t => exact b_strG hgd hu pins s σ H _ _ Q I (.cons ru .nil) ⟨a, .tuple ds, rfl, .tup e z t, td, q⟩
theorem g_strA {H : Hp} {Q : VK} {v : V} {d : PyData} (dd : Da H v d) (td : Tidy d) (q : Q (.str (txtD d)) H) : rStrA [v] H Q := ⟨v, d, rfl, dd, td, q⟩
/-! small data is tidy -/
mutual
def lite : PyData → Bool
  | .none => true
  | .bool _ => true
  | .int i => decide (i.natAbs < 10 ^ 12)
  | .str x => PyData.canLay0 (.str x)
  | .list xs => liteL xs
  | .tuple xs => liteL xs
  | .dict _ => false
def liteL : List PyData → Bool
  | [] => true
  | x :: xs => lite x && liteL xs
end
theorem log2_small {n : Nat} (h : n < 10 ^ 12) : n.log2 < 40 := by
  by_cases z : n = 0
  · subst z; decide
  · exact (Nat.log2_lt z).mpr (Nat.lt_trans h (by decide))
mutual
theorem lite_lay : ∀ d : PyData, lite d = true → PyData.canLay0 d = true ∧ PyData.intsShort 13 d = true ∧ PyData.showable d = true ∧ PyData.hasDict d = false
  | .none, _ => ⟨rfl, rfl, rfl, rfl⟩
  | .bool _, _ => ⟨rfl, rfl, rfl, rfl⟩
  | .int i, h => by
    have h : i.natAbs < 10 ^ 12 := of_decide_eq_true h
    refine ⟨rfl, ?_, ?_, rfl⟩
    · have := int_text_length_le10 (a := i) (k := 12) (by decide) h
      refine decide_eq_true ?_
      have e : (PyData.shown (.int i)) = Str.ofString (toString i) := rfl
      rw [e]
      have e2 : (Str.ofString (toString i)).length = (toString i).length := PySem.ofString_length _
      omega
    · exact decide_eq_true (Nat.lt_trans (log2_small h) (by decide))
  | .str x, h => ⟨h, rfl, rfl, rfl⟩
  | .list xs, h => by
    have := lite_layL xs (by simpa [lite] using h)
    simpa [PyData.canLay0, PyData.intsShort, PyData.showable, PyData.hasDict] using this
  | .tuple xs, h => by
    have := lite_layL xs (by simpa [lite] using h)
    simpa [PyData.canLay0, PyData.intsShort, PyData.showable, PyData.hasDict] using this
  | .dict _, h => by simp [lite] at h
theorem lite_layL : ∀ xs : List PyData, liteL xs = true → PyData.canLayAll0 xs = true ∧ PyData.intsShortAll 13 xs = true ∧ PyData.showableAll xs = true ∧ PyData.hasDictAll xs = false
  | [], _ => ⟨rfl, rfl, rfl, rfl⟩
  | x :: xs, h => by
    simp only [liteL, Bool.and_eq_true] at h
    obtain ⟨a1, a2, a3, a4⟩ := lite_lay x h.1
    obtain ⟨b1, b2, b3, b4⟩ := lite_layL xs h.2
    simp [PyData.canLayAll0, PyData.intsShortAll, PyData.showableAll, PyData.hasDictAll, a1, a2, a3, a4, b1, b2, b3, b4]
end
structure Lt (w k : Nat) (d : PyData) : Prop where
  l : lite d = true
  w : d.weight ≤ w
  k : d.depth ≤ k
theorem Lt.mono {w k w' k' : Nat} {d : PyData} (h : Lt w k d) (hw : w ≤ w') (hk : k ≤ k') : Lt w' k' d := ⟨h.l, Nat.le_trans h.w hw, Nat.le_trans h.k hk⟩
theorem Lt.tidy {w k : Nat} {d : PyData} (h : Lt w k d) (hw : w ≤ 1048576) (hk : k ≤ 64) : Tidy d := by
  obtain ⟨a, b, c, e⟩ := lite_lay d h.l
  refine ⟨?_, b, c, e⟩
  show (PyData.canLay0 d && decide (PyData.depth d ≤ 64) && decide (PyData.weight d ≤ 2 ^ 20)) = true
  rw [a, decide_eq_true (Nat.le_trans h.k hk), decide_eq_true (Nat.le_trans h.w (Nat.le_trans hw (by decide)))]; rfl
theorem Lt.int {i : Int} (h : i.natAbs < 10 ^ 12) : Lt 41 0 (.int i) := by
  refine ⟨decide_eq_true h, ?_, by simp [PyData.depth]⟩
  have := log2_small h
  show (if i == 0 then 0 else i.natAbs.log2 + 1) ≤ 41
  split <;> omega
theorem Lt.all {w k : Nat} : ∀ {xs : List PyData}, (∀ x ∈ xs, Lt w k x) → liteL xs = true ∧ PyData.weightAll xs ≤ xs.length * (w + 1) ∧ PyData.depthAll xs ≤ k
  | [], _ => ⟨rfl, Nat.zero_le _, by simp [PyData.depthAll]⟩
  | x :: xs, h => by
    obtain ⟨a, b, c⟩ := Lt.all (xs := xs) fun y hy => h y (List.mem_cons_of_mem _ hy)
    have hx := h x List.mem_cons_self
    refine ⟨by simp [liteL, hx.l, a], ?_, ?_⟩
    · show PyData.weight x + 1 + PyData.weightAll xs ≤ _
      have := hx.w
      rw [List.length_cons, Nat.succ_mul]; omega
    · have := hx.k
      simp only [PyData.depthAll]; omega
theorem Lt.tup {w k n : Nat} {xs : List PyData} (h : ∀ x ∈ xs, Lt w k x) (hn : xs.length ≤ n) : Lt (n * (w + 1)) (k + 1) (.tuple xs) := by
  obtain ⟨a, b, c⟩ := Lt.all h
  refine ⟨a, ?_, by simp only [PyData.depth]; omega⟩
  show PyData.weightAll xs ≤ _
  exact Nat.le_trans b (Nat.mul_le_mul_right _ hn)
theorem Lt.lst {w k n : Nat} {xs : List PyData} (h : ∀ x ∈ xs, Lt w k x) (hn : xs.length ≤ n) : Lt (n * (w + 1)) (k + 1) (.list xs) := by
  obtain ⟨a, b, c⟩ := Lt.all h
  refine ⟨a, ?_, by simp only [PyData.depth]; omega⟩
  show PyData.weightAll xs ≤ _
  exact Nat.le_trans b (Nat.mul_le_mul_right _ hn)
/-! ### the law's own call: its frame is the first, nothing is being shown -/
structure LawG (P : Program) (w : World) (K : PySem.W.Frag) (mg : Str → Option Value) (base : Heap) (k : Nat) (f : Addr) (fd : FuncData) (ps : List Str) (sp : Sp) : Prop where
  go : ∀ (s : Shared) (H : Hp) (us : List Value) (vs : List V) (Q : VK) (E : XK), Room k callerA → Env0 P w K mg base callerA [] s H → BindsTo s fd ⟨us, []⟩ (ps.zip us) → Vals vs us → us.length = ps.length → sp vs H Q E →
    codeAny (model P w) callerA (.call (.ref f) ⟨us, []⟩) (CR CX0 [] P w H s Q E) s
theorem lawG_of {P : Program} {w : World} {K : PySem.W.Frag} {mg : Str → Option Value} {base : Heap} {k : Nat} {f : Addr} {nm qn : Str} {pars : Arguments} {bd : List Stmt} {sc : Scope} {dV kV dc pm cd ct oc : Value} {an od : Option Addr} {sl : Array (Option Value)} {N ps : List Str} {sp : Sp}
    (lk : K.lookup f = some ⟨oc, od, .func (PySem.W.fnOf nm qn pars bd sc dV kV dc pm an cd ct), sl⟩) (hc : PySem.W.codeIn K cd qn = true) (S : FnScope N ps sc)
    (B : ∀ (s : Shared) (H : Hp) (vs : List V) (Q : VK) (E : XK), Room k (callerA.deeper (envOfC qn sc s.heap.objs.size f cd)) → sp vs H Q E → ∃ t, PSs (cxOf CX0 P w K mg base N qn sc f cd callerA [] s H E) bd t ∧ t { nx := fun _ H1 => Q .non H1, rt := Q } (start N vs) H) :
    LawG P w K mg base (k + 1) f (PySem.W.fnOf nm qn pars bd sc dV kV dc pm an cd ct) ps sp := by
  constructor
  intro s H us vs Q E room e0 bind rv lu want
  have stays : ∀ b o, base.get? b = some o → s.heap.get? b = some o := fun b o q => (e0.bs b o q).1
  have inK : K.In s.heap := e0.mod.kin.keeps stays
  have noL : s.heap.NoLimit := e0.mod.nolimit.keeps stays
  have kinds : ∀ y ∈ ps.zip us, sc.names.lookup y.1 = some .local ∨ (sc.names.lookup y.1 = some .cell ∧ ((cellsFrom (s.heap.objs.size + 1) sc.names []).lookup y.1).isSome = true) := by
    rintro ⟨n, v⟩ hy
    cases S.par n (List.of_mem_zip hy).1 with
    | inl q => exact .inl q
    | inr q => exact .inr ⟨q, PySem.W.cellsFrom_some _ _ _ (.inl q)⟩
  refine codeAny_call_function (Room.depth room) (inK _ _ lk) rfl S.co S.gen rfl (PySem.W.codeRec_of inK hc) (bind _ _ _ _ ?_)
  refine wpAny_newFunctionEnv_cells S.kind kinds ?_
  intro env henv s1 ic
  subst henv
  refine ⟨noL.keeps ic.toInCall.keep, codeAny_func ?_⟩
  obtain ⟨t, deriv, done⟩ := B s H vs Q E (Room.deeper room _) want
  have start0 := inv_start (CX := CX0) (E := E) S room.hd e0 (rv.length.trans lu) rv ic
  refine wpAny_mono (deriv.run [] s1 (start N vs) H _ start0 done) ?_ fun _ _ z => z
  intro fl s2 hf
  have leave : ∀ {σ' : L2.St} {H1 : Hp} {v : V} {u : Value}, Inv (cxOf CX0 P w K mg base N qn sc f cd callerA [] s H E) [] σ' H1 s2 → RelV v u → Q v H1 → CE [] P w H s Q u s2 := by
    intro σ' H1 v u J r q
    exact ⟨v, H1, J.os, J.bare, J.base, J.hok, r, q⟩
  cases fl with
  | ret u =>
    obtain ⟨v, σ', H1, J, r, q⟩ := hf
    exact leave J r q
  | next =>
    obtain ⟨σ', H1, J, q⟩ := hf
    exact leave (v := .non) (u := .none) J rfl q
  | brk => exact (hf.choose_spec.choose_spec.2).elim
  | cont => exact (hf.choose_spec.choose_spec.2).elim
theorem Fun.law {P : Program} {w : World} {K : PySem.W.Frag} {mg : Str → Option Value} {base : Heap} {x qual : Str} {st : Stmt} {f : Addr} {fd : FuncData} {N ps : List Str} {k : Nat} {sp : Sp} (F : Fun K x qual st f fd) (S : FnScope N ps (defScope st))
    (B : ∀ (cdv : Value) (s : Shared) (H : Hp) (vs : List V) (Q : VK) (E : XK), Room k (callerA.deeper (envOfC qual (defScope st) s.heap.objs.size f cdv)) → sp vs H Q E →
      ∃ t, PSs (cxOf CX0 P w K mg base N qual (defScope st) f cdv callerA [] s H E).nox (defBody st) t ∧ t { nx := fun _ H1 => Q .non H1, rt := Q } (start N vs) H) : LawG P w K mg base (k + 1) f fd ps sp := by
  obtain ⟨oc, od, kV, doc, pm, an, cdv, ct, osl, rfl, lk, hcd⟩ := F.ex
  refine lawG_of lk hcd S ?_
  intro s H vs Q E r want
  obtain ⟨t, dv, z⟩ := B cdv s H vs Q E r want
  exact ⟨t, dv.nox, z⟩
theorem lawG_run {P : Program} {w : World} {K : PySem.W.Frag} {mg mb : Str → Option Value} {k : Nat} {fa a : Addr} {fd : FuncData} {x : Str} {sp : Sp} {s0 : Shared} {vs : List Value} {ns : List Int}
    (inK : K.In s0.heap) (glob : s0.heap.Ns mainGlobals mg) (blt : s0.heap.Ns builtinsNs mb) (bb : ∀ y : Str, y ≠ "__name__" → mb y = bootBuiltins y) (noL : s0.heap.NoLimit) (gens : s0.gens = #[])
    (script : s0.heap.get? a = some { cls := .type "list", data := .seq vs.toArray }) (intsV : IntsAre vs ns) (len : ns.length ≤ sizeLine) (room : Room k callerA)
    (F : ∀ base : Heap, K.In base → base.Ns mainGlobals mg → LawG P w K mg base k fa fd [x] sp) (bind : ∀ (s : Shared) (u : Value), BindsTo s fd ⟨[u], []⟩ [(x, u)])
    (want : ∀ H : Hp, SqL K H a (ns.map V.int) → sp [.ref a] H (fun v _ => v = .bl true) fun _ _ _ => False) :
    codeAny (model P w) callerA (.call (.ref fa) ⟨[.ref a], []⟩) (fun r s' => r = .ok (.ret (.bool true)) ∧ OldK s0.heap s'.heap ∧ s'.os = s0.os ∧ AllBare s'.gens) s0 := by
  have rv := vals_ints intsV
  have lv := intsV.length
  have main : ∀ H : Hp, (∀ b, H b ≠ none → b = a ∧ ∃ ob xs, H b = some (.frz ob (.lst xs))) → SqL K H a (ns.map V.int) → HOk P w H s0.heap → (H a ≠ none → K.lookup a = none) →
      codeAny (model P w) callerA (.call (.ref fa) ⟨[.ref a], []⟩) (fun r s' => r = .ok (.ret (.bool true)) ∧ OldK s0.heap s'.heap ∧ s'.os = s0.os ∧ AllBare s'.gens) s0 := by
    intro H only hS hok hA
    have up : ∀ {b : Addr} {o : Obj}, s0.heap.get? b = some o → H b = none → (hidT s0.heap H).get? b = some o := fun q n => hidT_get q n
    have free : ∀ {b : Addr} {o : Obj} {es : Array DictEntry} {ep : Nat}, s0.heap.get? b = some o → o.data = .dict es ep → H b = none := by
      intro b o es ep q d
      refine Classical.byContradiction fun z => ?_
      obtain ⟨rfl, _⟩ := only b z
      rw [script] at q
      cases q
      cases d
    have spaces : ∀ {b : Addr} {m : Str → Option Value}, s0.heap.Ns b m → (hidT s0.heap H).Ns b m := by
      rintro b m ⟨o, es, ep, q, d, r⟩
      exact ⟨o, es, ep, up q (free q d), d, r⟩
    have inB : K.In (hidT s0.heap H) := by
      intro b o q
      refine up (inK b o q) (Classical.byContradiction fun z => ?_)
      obtain ⟨rfl, _⟩ := only b z
      rw [hA z] at q
      cases q
    have limB : (hidT s0.heap H).NoLimit := by
      obtain ⟨mc, h1, h2⟩ := noL
      exact ⟨mc, spaces h1, h2⟩
    have modB : Mod K mg (hidT s0.heap H) := ⟨inB, spaces glob, ⟨mb, spaces blt, bb⟩, limB⟩
    have e0 : Env0 P w K mg (hidT s0.heap H) callerA [] s0 H :=
      { frames := rfl, mod := modB, bs := fun b o q => of_hidT q, bsz := Nat.le_of_eq (hidT_size _ _), funs := trivial, frf := fun b hb => absurd (show b ∈ ([] : List Addr) from hb) (by simp), hok := hok, bare := .of_eq gens }
    refine codeAny_mono ((F _ inB (spaces glob)).go s0 H [.ref a] [.ref a] _ _ room e0 (bind s0 (.ref a)) (.cons rfl .nil) rfl (want H hS)) ?_
    intro r s' h
    match r, h with
    | .error e, h => exact (show False from h).elim
    | .ok .next, h => exact (show False from h).elim
    | .ok .brk, h => exact (show False from h).elim
    | .ok .cont, h => exact (show False from h).elim
    | .ok (.ret u), h =>
      obtain ⟨v, H1, os, bare, un, hok1, r1, q⟩ := h
      cases (show v = .bl true from q)
      cases (show u = Value.bool true from r1)
      refine ⟨rfl, OldK.of_keep fun b o e => ?_, os, bare⟩
      by_cases z : H b = none
      · exact un.keep b o e z (fun y => absurd (show b ∈ ([] : List Addr) from y) (by simp)) (by simp)
      · obtain ⟨_, ob, xs, q1⟩ := only b z
        have q2 := un.frzs b ob _ q1
        have e1 := (hok b _ q1).1
        have e2 := (hok1 b _ q2).1
        rw [e] at e1
        cases e1
        exact e2
  by_cases hk : K.lookup a = none
  · refine main (fun b => if b = a then some (.frz { cls := .type "list", data := .seq vs.toArray } (.lst (ns.map V.int))) else none) ?_ (.inl (.inr ⟨{ cls := .type "list", data := .seq vs.toArray }, if_pos rfl⟩)) ?_ fun _ => hk
    · intro b z
      by_cases hb : b = a
      · exact ⟨hb, _, _, if_pos hb⟩
      · exact absurd (if_neg hb) z
    · intro b u z
      by_cases hb : b = a
      · cases (if_pos hb).symm.trans z
        subst hb
        exact ⟨script, by rw [List.length_map]; exact len, vs, _, rv, script⟩
      · cases (if_neg hb).symm.trans z
  · obtain ⟨o, ho⟩ := Option.ne_none_iff_exists'.mp hk
    have q := inK a o ho
    rw [script] at q
    cases q
    refine main (fun _ => none) (fun b z => absurd rfl z) (.inr ⟨_, vs.toArray, _, ho, rfl, rfl, rfl, by rw [List.size_toArray, lv]; exact len, by simpa using rv⟩) (fun b u z => ?_) fun z => absurd rfl z
    cases (show (none : Option HO) = some u from z)
theorem walkG {l : PySem.W.OpenLaw} {n k : Nat} {q : Program} {loose : List Str} {XP : (Str → Option Value) → Heap → Prop} {YP : World → Heap → Prop} {d : DefRec} {K : Params → PySem.W.Frag} {sp : World → Sp} {x : Str}
    (hn : l.most = some n) (hz : n ≤ sizeLine) (hd : d.params.defaults = []) (room : Room k callerA) (inK : ∀ (w : World) (h : Heap), YP w h → (K w.params).In h)
    (F : ∀ (w : World) (mg : Str → Option Value) (fa : Addr) (h : Heap), (K w.params).In h → h.Ns mainGlobals mg → mg d.name = some (.ref fa) →
      ∃ fd : FuncData, (∀ (s : Shared) (u : Value), BindsTo s fd ⟨[u], []⟩ [(x, u)]) ∧ ∀ base : Heap, (K w.params).In base → base.Ns mainGlobals mg → LawG l.prog w (K w.params) mg base k fa fd [x] (sp w))
    (want : ∀ (w : World) (H : Hp) (a : Addr) (ns : List Int), ns.length ≤ n → SqL (K w.params) H a (ns.map V.int) → sp w [.ref a] H (fun v _ => v = .bl true) fun _ _ _ => False) :
    PySem.W.WalkO q loose XP YP l.row.toRowW d [] (fun f vs => PySem.call f vs) := by
  refine Att.attach_call hn hd ?_
  intro w s0 s1 mg mb fa o pm cd doc a vs ns G Y ho hdat hcode hmg obj intsV len gens
  have KX := inK w _ Y
  obtain ⟨fd, bind, hF⟩ := F w mg fa _ KX G.T.g hmg
  exact lawG_run KX G.T.g G.T.b G.T.builtins G.T.nolimit gens obj intsV (Nat.le_trans len hz) room hF bind fun H hS => want w H a ns len hS
end Lw

namespace Toy
open PySem L2 Lw

/-! ### the steps as one word each -/
local macro_rules | `(tactic| walk_at "ne") => `(tactic| first
  | assumption | exact Ne.symm (by assumption)
  | ((refine' ne_of_none ?h (by assumption)); (first | (case h => walk_at "fact") | fail))
  | ((refine' Ne.symm (ne_of_none ?h (by assumption))); (first | (case h => walk_at "fact") | fail))
  | walk_at "ne2")
local macro_rules | `(tactic| walk_at "nin") => `(tactic| first | exact nin0 | (refine nin1 ?_ ?_; walk_at "ne"; walk_at "nin") | assumption)
local macro_rules | `(tactic| walk_at "fact") => `(tactic| first
  | assumption
  | ((refine' Fr.tupAt (by assumption) ?h); (first | (case h => walk_at "fact") | fail))
  | ((refine' Fr.at0 (by assumption) ?h); (first | (case h => walk_at "fact") | fail))
  | ((refine' Fr.at (by assumption) ?h ?k); (first | (case h => walk_at "fact") | fail); (first | (case k => walk_at "nin") | fail)))
local macro_rules | `(tactic| walk_at "none") => `(tactic| first
  | assumption
  | ((refine' Fr.freeL (by assumption) ?h ?k); (first | (case h => walk_at "none") | fail); (first | (case k => walk_at "nin") | fail)))
local macro_rules | `(tactic| walk_at "mem") => `(tactic| first
  | assumption | exact List.mem_cons_self
  | (refine List.mem_cons_of_mem _ ?_; walk_at "mem"))
local macro_rules | `(tactic| walk_at "frn") => `(tactic| first
  | exact frn0
  | (refine frn1 ?_ ?_; (first | exact Or.inl (by walk_at "mem") | exact Or.inr (by walk_at "none")); walk_at "frn"))
local macro_rules | `(tactic| walk_at "fr") => `(tactic| first
  | assumption
  | exact Fr.refl
  | ((refine' Fr.own ?h (by assumption) ?k); (first | (case h => walk_at "fr") | fail); (first | (case k => walk_at "frn") | fail))
  | (refine Fr.of0 ?_; walk_at "fr"))
local macro_rules | `(tactic| walk_at "sz") => `(tactic| first | exact szM (by omega) | exact szM (by simp only [List.length_map, List.length_append, List.length_cons, List.length_nil]; omega))
local macro_rules | `(tactic| walk_at "sql") => `(tactic| first
  | assumption
  | exact SqL.of (by walk_at "fact")
  | ((refine' Fr.sql (by assumption) ?h ?k); (first | (case h => walk_at "sql") | fail); (first | (case k => walk_at "nin") | fail)))
local macro_rules | `(tactic| walk_at "sqt") => `(tactic| first
  | assumption
  | exact SqT.of (by walk_at "fact"))
local macro_rules | `(tactic| walk_at "ty") => `(tactic| first
  | assumption
  | exact TyX.base TyOf.non
  | exact TyX.base (TyOf.int _)
  | exact TyX.base (TyOf.bl _)
  | exact TyX.base (TyOf.str _)
  | exact TyX.base (TyOf.lst (by walk_at "fact"))
  | exact TyX.base (TyOf.tup (by walk_at "fact"))
  | exact TyX.base (TyOf.dK (by walk_at "fact"))
  | exact TyX.base (TyOf.dT (by walk_at "fact")))
local macro_rules | `(tactic| walk_at "kb") => `(tactic| first | exact kb_NoneType_list | exact kb_NoneType_tuple | exact kb_NoneType_bool | exact kb_NoneType_int | exact kb_NoneType_str | exact kb_NoneType_dict | exact kb_bool_list | exact kb_bool_tuple | exact kb_bool_bool | exact kb_bool_int | exact kb_bool_str | exact kb_bool_dict | exact kb_int_list | exact kb_int_tuple | exact kb_int_bool | exact kb_int_int | exact kb_int_str | exact kb_int_dict | exact kb_str_list | exact kb_str_tuple | exact kb_str_bool | exact kb_str_int | exact kb_str_str | exact kb_str_dict | exact kb_list_list | exact kb_list_tuple | exact kb_list_bool | exact kb_list_int | exact kb_list_str | exact kb_list_dict | exact kb_tuple_list | exact kb_tuple_tuple | exact kb_tuple_bool | exact kb_tuple_int | exact kb_tuple_str | exact kb_tuple_dict | exact kb_dict_list | exact kb_dict_tuple | exact kb_dict_bool | exact kb_dict_int | exact kb_dict_str | exact kb_dict_dict)
local macro_rules | `(tactic| walk_at "new") => `(tactic| intro _ _ _ _ _)
local macro_rules | `(tactic| walk_at "go1") => `(tactic| first
  | with_reducible refine g_seq ?_
  | with_reducible refine g_asg ?_
  | with_reducible refine g_name ?_
  | with_reducible refine g_drop ?_
  | with_reducible refine g_ret ?_
  | with_reducible refine g_for ?_
  | with_reducible refine g_lc ?_
  | with_reducible refine g_iL ?_
  | with_reducible refine g_iT ?_
  | with_reducible refine g_i1 ?_
  | with_reducible refine g_i2 ?_
  | with_reducible refine g_yes ?_
  | with_reducible refine g_ttr ?_
  | ((with_reducible refine' g_riL ?h ?_); (first | (case h => walk_at "sql") | fail))
  | ((with_reducible refine' g_riT ?h ?_); (first | (case h => walk_at "sqt") | fail))
  | ((with_reducible refine' g_ri1 ?h ?_); (first | (case h => (first | exact ⟨by decide, by decide⟩ | exact ⟨by omega, by omega⟩ | exact ⟨by simp only [List.length_map]; omega, by simp only [List.length_map]; omega⟩)) | fail))
  | ((with_reducible refine' g_ri2 ?h ?_); (first | (case h => (first | exact ⟨by decide, by decide, by decide, by decide⟩ | exact ⟨by omega, by omega, by omega, by omega⟩)) | fail))
  | with_reducible refine g_retN ?_
  | with_reducible refine g_next ?_
  | with_reducible refine g_cont ?_
  | with_reducible refine g_brk ?_
  | with_reducible refine g_ifs ?_
  | with_reducible refine g_test ?_
  | with_reducible refine g_tb ?_
  | with_reducible refine g_and ?_
  | with_reducible refine g_or ?_
  | with_reducible refine g_not ?_
  | with_reducible refine g_andV ?_
  | with_reducible refine g_orV ?_
  | with_reducible refine g_notV ?_
  | with_reducible refine g_ifE ?_
  | ((with_reducible refine' g_var ?h ?_); (first | (case h => exact rfl) | fail))
  | with_reducible refine g_c ?_
  | with_reducible refine g_op ?_
  | with_reducible refine g_cb ?_
  | with_reducible refine g_cl ?_
  | with_reducible refine g_nil ?_
  | with_reducible refine g_cons ?_
  | with_reducible refine g_tup ?_
  | with_reducible refine g_lst ?_
  | with_reducible refine g_fld ?_
  | with_reducible refine g_sfld ?_
  | with_reducible refine g_sub1 ?_
  | with_reducible refine g_flda ?_
  | with_reducible refine g_rAdd ?_
  | with_reducible refine g_rSub ?_
  | ((with_reducible refine' g_rfldb ?h ?l ?e ?_); (first | (case h => walk_at "fact") | fail); (first | (case l => exact Nat.le_of_ble_eq_true rfl) | fail); (first | (case e => exact rfl) | fail); intro _ _ _)
  | with_reducible refine g_mt ?_
  | with_reducible refine g_mk ?_
  | ((with_reducible refine g_rmk ?_); intro _ _ _ _ _ _ _ _ _)
  | with_reducible refine g_bm ?_
  | with_reducible refine g_bm0 ?_
  | with_reducible refine g_bl ?_
  | with_reducible refine g_add ?_
  | with_reducible refine g_sub ?_
  | with_reducible refine g_lt ?_
  | with_reducible refine g_le ?_
  | with_reducible refine g_gt ?_
  | with_reducible refine g_ge ?_
  | with_reducible refine g_eqI ?_
  | with_reducible refine g_neI ?_
  | with_reducible refine g_eqS ?_
  | with_reducible refine g_neS ?_
  | with_reducible refine g_eqB ?_
  | with_reducible refine g_isN ?_
  | with_reducible refine g_notN ?_
  | with_reducible refine g_max2 ?_
  | with_reducible refine g_min2 ?_
  | with_reducible refine g_ipI ?_
  | with_reducible refine g_iteT ?_
  | with_reducible refine g_iteF ?_
  | with_reducible refine g_iteNT ?_
  | with_reducible refine g_iteNF ?_
  | ((with_reducible refine' g_aug ?h ?_); (first | (case h => exact rfl) | fail))
  | ((with_reducible refine' g_mod ?h ?_); (first | (case h => (first | decide | omega | assumption | (simp only [List.length_map]; omega))) | fail))
  | ((with_reducible refine' g_div ?h ?_); (first | (case h => (first | exact ⟨by decide, by decide⟩ | assumption)) | fail))
  | ((with_reducible refine' g_pow ?h ?_); (first | (case h => (first | exact ⟨by decide, by decide, by decide⟩ | assumption)) | fail))
  | ((with_reducible refine' g_mul ?h ?_); (first | (case h => (first | exact Or.inr ⟨by decide, by decide⟩ | exact Or.inl ⟨by decide, by decide⟩ | exact Or.inr ⟨by omega, by omega⟩ | exact Or.inl ⟨by omega, by omega⟩ | assumption)) | fail))
  | ((with_reducible refine' g_newT ?h ?_); (first | (case h => exact Nat.le_of_ble_eq_true rfl) | fail); walk_at "new")
  | ((with_reducible refine' g_newL ?h ?_); (first | (case h => exact Nat.le_of_ble_eq_true rfl) | fail); walk_at "new")
  | ((with_reducible refine' g_lenL ?h ?_); (first | (case h => walk_at "sql") | fail))
  | ((with_reducible refine' g_lenT ?h ?_); (first | (case h => walk_at "sqt") | fail))
  | ((with_reducible refine' g_ixL ?h ?k ?_); (first | (case h => walk_at "sql") | fail); (first | (case k => exact rfl) | fail))
  | ((with_reducible refine' g_ixT ?h ?k ?_); (first | (case h => walk_at "sqt") | fail); (first | (case k => exact rfl) | fail))
  | ((with_reducible refine' g_listL ?h ?_); (first | (case h => walk_at "sql") | fail); walk_at "new")
  | ((with_reducible refine' g_listT ?h ?_); (first | (case h => walk_at "sqt") | fail); walk_at "new")
  | ((with_reducible refine' g_tupL ?h ?_); (first | (case h => walk_at "sql") | fail); walk_at "new")
  | ((with_reducible refine' g_bmL ?h ?_); (first | (case h => walk_at "fact") | fail))
  | ((with_reducible refine' g_isi ?h ?k ?_); (first | (case h => walk_at "ty") | fail); (first | (case k => walk_at "kb") | fail))
  | ((with_reducible refine' g_append ?h ?l ?_); (first | (case h => walk_at "fact") | fail); (first | (case l => walk_at "sz") | fail); intro _ _ _)
  | ((with_reducible refine' g_rmt ?h ?l ?_); (first | (case h => walk_at "fact") | fail); (first | (case l => exact rfl) | fail))
  | with_reducible refine g_sl ?_
  | with_reducible refine g_noP ?_
  | with_reducible refine g_part ?_
  | with_reducible refine g_rpart ?_
  | ((with_reducible refine' g_slL ?h ?_); (first | (case h => walk_at "sql") | fail); walk_at "new")
  | walk_at "go2"
  | walk_at "go3"
  | walk_at "go4"
  | walk_at "own")
local macro_rules | `(tactic| walk_at "go") => `(tactic| repeat walk_at "go1")
local macro_rules | `(tactic| walk_at "rdt") => `(tactic| first
  | exact Or.inl (by walk_at "fact")
  | exact Or.inr ⟨_, by walk_at "fact"⟩)
local macro_rules | `(tactic| walk_at "go2") => `(tactic| first
  | with_reducible refine g_dget ?_
  | with_reducible refine g_din ?_
  | with_reducible refine g_dnin ?_
  | with_reducible refine g_dput ?_
  | with_reducible refine g_dget2 ?_
  | with_reducible refine g_dget1 ?_
  | with_reducible refine g_iK ?_
  | with_reducible refine g_iE ?_
  | with_reducible refine g_iZ ?_
  | with_reducible refine g_gcons ?_
  | with_reducible refine g_chain ?_
  | with_reducible refine g_rch ?_
  | with_reducible refine g_isO ?_
  | with_reducible refine g_notO ?_
  | with_reducible refine g_eqO ?_
  | with_reducible refine g_neB ?_
  | ((with_reducible refine' g_ninI ?h ?_); (first | (case h => walk_at "sql") | fail))
  | with_reducible refine g_gnil ?_
  | with_reducible refine g_lstRg ?_
  | ((with_reducible refine' g_gtup ?h ?l ?_); (first | (case h => walk_at "sqt") | fail); (first | (case l => exact rfl) | fail))
  | ((with_reducible refine g_dnew ?_); walk_at "new")
  | ((with_reducible refine g_dnewK ?_); walk_at "new")
  | ((with_reducible refine' g_unl ?h ?_); (first | (case h => walk_at "fact") | fail); intro _ _ _)
  | ((with_reducible refine' g_rdg2 ?h ?_); (first | (case h => walk_at "rdt") | fail))
  | ((with_reducible refine' g_rkt ?h ?_); (first | (case h => walk_at "fact") | fail))
  | ((with_reducible refine' g_ren ?h ?_); (first | (case h => walk_at "sql") | fail))
  | ((with_reducible refine' g_rzp ?h ?k ?_); (first | (case h => walk_at "sql") | fail); (first | (case k => walk_at "sql") | fail))
  | ((with_reducible refine' g_bmT ?h ?_); (first | (case h => walk_at "fact") | fail))
  | ((with_reducible refine' g_clearT ?h ?_); (first | (case h => walk_at "fact") | fail); intro _ _ _)
  | ((with_reducible refine' g_rlrg ?h ?_); (first | (case h => exact RgOk.of_le (by omega) (by omega) (by omega) (by omega)) | fail); walk_at "new"))
local macro_rules | `(tactic| walk_at "go3") => `(tactic| first
  | with_reducible refine g_clX ?_
  | with_reducible refine g_rz ?_)

def top (i : Nat) : Stmt := PySem.Challenge.pw_manydoors_k01_setups_are_checked.main.body.getD i (.Pass ⟨0, 0, 0, 0⟩)
abbrev s_is_integer : Stmt := top 14
abbrev s_is_from : Stmt := top 15
abbrev s_are_prices : Stmt := top 16
abbrev s_check_setup : Stmt := top 17
abbrev s_Lmixed : Stmt := top 19
abbrev s_Lnumbers : Stmt := top 20
abbrev s_Ldraw : Stmt := top 21
abbrev s_Lsetup : Stmt := top 22
abbrev s_Lbad : Stmt := top 23
abbrev s_Lspoilt : Stmt := top 24
abbrev s_Lis_setup : Stmt := top 25
abbrev s_law : Stmt := top 26
/-- where the classes stand -/
structure Ad where
  ManydoorsError : Addr
  BadSetup : Addr
  BadDeed : Addr
  BadStay : Addr
  BadHistory : Addr
  BadText : Addr
  BadLine : Addr
structure Txt (K : PySem.W.Frag) (mg : Str → Option Value) (A : Ad) : Prop where
  b_isinstance : mg "isinstance" = none
  b_int : mg "int" = none
  b_bool : mg "bool" = none
  b_tuple : mg "tuple" = none
  b_len : mg "len" = none
  b_all : mg "all" = none
  b_range : mg "range" = none
  b_list : mg "list" = none
  b_ValueError : mg "ValueError" = none
  b_str : mg "str" = none
  x_ManydoorsError : ErrC K mg "ManydoorsError" A.ManydoorsError
  x_BadSetup : ErrC K mg "BadSetup" A.BadSetup
  x_BadDeed : ErrC K mg "BadDeed" A.BadDeed
  x_BadStay : ErrC K mg "BadStay" A.BadStay
  x_BadHistory : ErrC K mg "BadHistory" A.BadHistory
  x_BadText : ErrC K mg "BadText" A.BadText
  x_BadLine : ErrC K mg "BadLine" A.BadLine
  ec_BadSetup : ExcC K A.BadSetup
  k_self : PySem.W.subIn K (.ref A.BadSetup) (.ref A.BadSetup) = some true
  k_many : PySem.W.kitOne K (.ref A.BadSetup) (.ref A.ManydoorsError) = some true
  k_ve : PySem.W.kitOne K (.ref A.BadSetup) (.type "ValueError") = some true
  k_oth : PySem.W.kitAny K (.ref A.BadSetup) [.ref A.BadDeed, .ref A.BadHistory, .ref A.BadLine, .ref A.BadStay, .ref A.BadText] = some false
  g_DEAREST : ∃ tk, mg "DEAREST" = some (.int 1000000 tk)
  g_KINDS : ∃ tk, mg "KINDS" = some (.int 3 tk)
  g_NIGHTS : ∃ tk, mg "NIGHTS" = some (.int 12 tk)
  g_SELLERS : ∃ tk, mg "SELLERS" = some (.int 4 tk)
  g_ROOMS : ∃ tk, mg "ROOMS" = some (.int 4 tk)
def spLaw (K : PySem.W.Frag) : Sp := fun vs H Q _ => ∃ x0, vs = [x0] ∧ ∃ (a : Addr) (ns : List Int), x0 = .ref a ∧ SqL K H a (ns.map V.int) ∧ ns.length ≤ 63 ∧ ∀ H', Q (.bl true) H'

section
variable {P : Program} {w : World} {K : PySem.W.Frag} {mg : Str → Option Value} {base : Heap} {A : Ad}
def P_Lmixed (K : PySem.W.Frag) (A : Ad) (x0 x1 : V) (H : Hp) (Q : VK) : Prop := ∃ a b : Int, x0 = .int a ∧ x1 = .int b ∧ ∀ n : Int, 0 ≤ n → n < 2147483647 → Q (.int n) H
def sp_Lmixed (K : PySem.W.Frag) (A : Ad) : Sp := fun vs H Q _ => ∃ x0 x1, vs = [x0, x1] ∧ P_Lmixed K A x0 x1 H Q
theorem c_Lmixed {K : PySem.W.Frag} {A : Ad} {x0 x1 : V} {H : Hp} {Q : VK} {E : XK} (h : P_Lmixed K A x0 x1 H Q) : sp_Lmixed K A [x0, x1] H Q E := ⟨_, _, rfl, h⟩
theorem sc_Lmixed : FnScope ["_law_number", "_law_k", "_law_step"] ["_law_number", "_law_k"] (defScope s_Lmixed) := ⟨rfl, rfl, rfl, by decide +kernel, rfl, by decide +kernel, by decide +kernel⟩
def t_Lmixed (K : PySem.W.Frag) (A : Ad) : TS :=
  (tSeq (tAsg (tOp oMod (tOp oAdd (tOp oAdd (tOp oMul (tVar 0) (tC (.int 48271))) (tOp oMul (tVar 1) (tC (.int 69621)))) (tC (.int 12345))) (tC (.int 2147483647))) (gName 2))
    (tRet (tOp oMod (tOp oAdd (tOp oMul (tVar 2) (tOp oAdd (tOp oDiv (tVar 2) (tC (.int 65536))) (tC (.int 3)))) (tVar 1)) (tC (.int 2147483647)))))
theorem pu_Lmixed (T : Txt K mg A) {x0 x1 : V} {H : Hp} {Q : VK} (h : P_Lmixed K A x0 x1 H Q) : t_Lmixed K A { nx := fun _ H' => Q .non H', rt := Q } [some x0, some x1, none] H := by
  obtain ⟨a, b, rfl, rfl, k⟩ := h
  unfold t_Lmixed
  walk_at "go"
  exact k _ (Int.emod_nonneg _ (by decide)) (Int.emod_lt_of_pos _ (by decide))
theorem ok_Lmixed {f : Addr} {fd : FuncData} (F : Fun K "_law_mixed" "_law_mixed" s_Lmixed f fd) (T : Txt K mg A)  : FnOk P w K mg base CX0 (1) f fd ["_law_number", "_law_k"] (sp_Lmixed K A) := by
  refine F.ok sc_Lmixed (fun vs H Q E h => ?_) (fun cdv Ar outer s H vs Q E hr h => ⟨t_Lmixed K A, ?_, ?_⟩)
  · obtain ⟨x0, x1, rfl, _⟩ := h
    rfl
  · have hu := hu_of hr
    exact (pss_cons (ps_set (i := 2) sc_Lmixed.nd rfl (Or.inl rfl) (pe_op o_mod (pe_op o_add (pe_op o_add (pe_op o_mul (pv 0) pe_int) (pe_op o_mul (pv 1) pe_int)) pe_int) pe_int))
    (pss_one (ps_ret (pe_op o_mod (pe_op o_add (pe_op o_mul (pv 2) (pe_op o_add (pe_op o_div (pv 2) pe_int) pe_int)) (pv 1)) pe_int))))
  · obtain ⟨x0, x1, rfl, h⟩ := h
    exact pu_Lmixed T h
def Sml (ms : List Int) : Prop := ∀ m ∈ ms, 0 ≤ m ∧ m < 1000000
theorem Sml.snoc {ms : List Int} (h : Sml ms) (z : Int) : Sml (ms ++ [z % 1000000]) := fun m hm => by
  rcases List.mem_append.mp hm with q | q
  · exact h m q
  · rw [List.mem_singleton.mp q]; exact ⟨Int.emod_nonneg _ (by decide), Int.emod_lt_of_pos _ (by decide)⟩
def P_Lnumbers (K : PySem.W.Frag) (A : Ad) (x0 : V) (H : Hp) (Q : VK) : Prop := ∃ (a : Addr) (ns : List Int), x0 = .ref a ∧ SqL K H a (ns.map V.int) ∧ ns.length ≤ 63 ∧
  ∀ (l : Addr) (ms : List Int) (H' : Hp), H l = none → Fr [] H H' → H' l = some (.lst (ms.map V.int)) → Sml ms → ms.length ≤ 10000 → Q (.ref l) H'
def sp_Lnumbers (K : PySem.W.Frag) (A : Ad) : Sp := fun vs H Q _ => ∃ x0, vs = [x0] ∧ P_Lnumbers K A x0 H Q
theorem c_Lnumbers {K : PySem.W.Frag} {A : Ad} {x0 : V} {H : Hp} {Q : VK} {E : XK} (h : P_Lnumbers K A x0 H Q) : sp_Lnumbers K A [x0] H Q E := ⟨_, rfl, h⟩
theorem sc_Lnumbers : FnScope ["_law_script", "_law_numbers_here", "_law_cell", "_law_rest", "_law_k"] ["_law_script"] (defScope s_Lnumbers) := ⟨rfl, rfl, rfl, by decide +kernel, rfl, by decide +kernel, by decide +kernel⟩
def t_Lnumbers (K : PySem.W.Frag) (A : Ad) : TS :=
  (tSeq (tAsg (tLst tNil) (gName 1))
    (tSeq (tFor (iList K (tVar 0)) (gName 2) (tIfS (tTest (tOp cGe (tVar 2) (tOp oPow (tC (.int 10)) (tC (.int 18))))) (tSeq (tAsg (tVar 2) (gName 3))
    (tFor (iRng1 (tCons (tC (.int 60)) tNil)) (gName 4) (tIfS (tTest (tOp cGt (tVar 3) (tC (.int 0)))) (tSeq (tDrop (tBM K "list" rAppend (tVar 1) (tCons (tOp oMod (tVar 3) (tC (.int 1000000))) tNil)))
    (tAsg (tOp oDiv (tVar 3) (tC (.int 1000000))) (gName 3))) tNext))) (tSeq (tDrop (tBM K "list" rAppend (tVar 1) (tCons (tOp oMod (tVar 2) (tC (.int 1000000))) tNil)))
    (tFor (iRng1 (tCons (tC (.int 5)) tNil)) (gName 4) (tDrop (tBM K "list" rAppend (tVar 1) (tCons (tOp oMod (tCl (sp_Lmixed K A) (tCons (tCl (sp_Lmixed K A) (tCons (tOp oMod (tVar 2) (tC (.int 2147483647))) (tCons (tVar 4) tNil))) (tCons (tOp oAdd (tVar 4) (tC (.int 7))) tNil))) (tC (.int 1000000))) tNil)))))))
    (tRet (tVar 1))))
theorem pu_Lnumbers (T : Txt K mg A) {x0 : V} {H : Hp} {Q : VK} (h : P_Lnumbers K A x0 H Q) : t_Lnumbers K A { nx := fun _ H' => Q .non H', rt := Q } [some x0, none, none, none, none] H := by
  obtain ⟨a, ns, rfl, hS, hl, k⟩ := h
  unfold t_Lnumbers
  walk_at "go"
  rename_i l H0 nl f0 e0
  refine f_list (xs := ns.map V.int) (fun i σ H' => ∃ (ms : List Int) (v1 v2 v3 : Option V), σ = [some (.ref a), some (.ref l), v1, v2, v3] ∧ Fr [] H H' ∧ H' l = some (.lst (ms.map V.int)) ∧ Sml ms ∧ ms.length ≤ 60 * i)
    ⟨[], none, none, none, rfl, f0, e0, fun _ q => (nomatch q), Nat.zero_le _⟩ ?_ ?_ ?_
  · rintro i σ H' _ ⟨ms, v1, v2, v3, rfl, f, e, s, hm⟩
    exact f.sql hS nin0
  · rintro i x σ H1 hx ⟨ms, v1, v2, v3, rfl, f1, e1, s1, hm⟩
    obtain ⟨n, rfl, hn, hmem⟩ := getI hx
    have hi : i < 63 := Nat.lt_of_lt_of_le ((List.getElem?_eq_some_iff.mp hn).1) hl
    walk_at "go"
    refine g_ite (fun c => ?_) (fun c => ?_)
    · walk_at "go"
      refine f_range (lo := 0) (n := 60) (fun j σ H' => ∃ (ms : List Int) (r : Int) (v3 : Option V), σ = [some (.ref a), some (.ref l), some (.int n), some (.int r), v3] ∧ Fr [] H H' ∧ H' l = some (.lst (ms.map V.int)) ∧ Sml ms ∧ ms.length ≤ 60 * i + j)
        ⟨ms, n, v3, rfl, f1, e1, s1, by omega⟩ ?_ ?_
      · rintro j σ H2 hj ⟨ms2, r, v3, rfl, f2, e2, s2, hm2⟩
        walk_at "go"
        refine g_ite (fun c => ?_) (fun c => ?_)
        · walk_at "go"
          rename_i H3 f3 e3
          exact ⟨ms2 ++ [r % 1000000], _, _, rfl, f2.own1 f3 nl, by rw [e3, List.map_append] <;> rfl, s2.snoc r, by rw [List.length_append]; exact Nat.add_le_add_right hm2 1⟩
        · walk_at "go"
          exact ⟨ms2, _, _, rfl, f2, e2, s2, by omega⟩
      · rintro σ H2 ⟨ms2, r, v3, rfl, f2, e2, s2, hm2⟩
        exact ⟨ms2, _, _, _, rfl, f2, e2, s2, by omega⟩
    · walk_at "go"
      rename_i H3 f3 e3
      refine f_range (lo := 0) (n := 5) (fun j σ H' => ∃ (ms : List Int) (v2 v3 : Option V), σ = [some (.ref a), some (.ref l), some (.int n), v2, v3] ∧ Fr [] H H' ∧ H' l = some (.lst (ms.map V.int)) ∧ Sml ms ∧ ms.length ≤ 60 * i + 1 + j)
        ⟨ms ++ [n % 1000000], v2, v3, rfl, f1.own1 f3 nl, by rw [e3, List.map_append] <;> rfl, s1.snoc n, by rw [List.length_append]; exact Nat.add_le_add_right hm 1⟩ ?_ ?_
      · rintro j σ H4 hj ⟨ms2, v2, v3, rfl, f4, e4, s4, hm4⟩
        walk_at "go"
        refine c_Lmixed ⟨_, _, rfl, rfl, fun z _ _ => ?_⟩
        walk_at "go"
        refine c_Lmixed ⟨_, _, rfl, rfl, fun z2 _ _ => ?_⟩
        walk_at "go"
        rename_i H5 f5 e5
        exact ⟨ms2 ++ [z2 % 1000000], _, _, rfl, f4.own1 f5 nl, by rw [e5, List.map_append] <;> rfl, s4.snoc z2, by rw [List.length_append]; exact Nat.add_le_add_right hm4 1⟩
      · rintro σ H4 ⟨ms2, v2, v3, rfl, f4, e4, s4, hm4⟩
        exact ⟨ms2, _, _, _, rfl, f4, e4, s4, by omega⟩
  · rintro σ H1 ⟨ms, v1, v2, v3, rfl, f1, e1, s1, hm⟩
    walk_at "go"
    rw [List.length_map] at hm
    exact k l ms H1 nl f1 e1 s1 (by omega)
theorem ok_Lnumbers {f : Addr} {fd : FuncData} (F : Fun K "_law_numbers" "_law_numbers" s_Lnumbers f fd) (T : Txt K mg A) (c_Lmixed : Cal P w K mg base "_law_mixed" 1 ["_law_number", "_law_k"] (sp_Lmixed K A)) : FnOk P w K mg base CX0 (2) f fd ["_law_script"] (sp_Lnumbers K A) := by
  refine F.ok sc_Lnumbers (fun vs H Q E h => ?_) (fun cdv Ar outer s H vs Q E hr h => ⟨t_Lnumbers K A, ?_, ?_⟩)
  · obtain ⟨x0, rfl, _⟩ := h
    rfl
  · have hu := hu_of hr
    exact (pss_cons (ps_set (i := 1) sc_Lnumbers.nd rfl (Or.inl rfl) (pe_lst pa_nil))
    (pss_cons (ps_for PassesOwn.never rfl (pi_list (pv 0)) (pg_name (i := 2) sc_Lnumbers.nd rfl (Or.inl rfl)) (pss_one (ps_if (pt_cmpR c_ge (pv 2) (pe_op o_pow pe_int pe_int) (nomark _)) (pss_cons (ps_set (i := 3) sc_Lnumbers.nd rfl (Or.inl rfl) (pv 2))
    (pss_one (ps_for PassesOwn.never rfl (pi_range1 rfl T.b_range (pa_cons pe_int pa_nil)) (pg_name (i := 4) sc_Lnumbers.nd rfl (Or.inl rfl)) (pss_one (ps_if (pt_cmpR c_gt (pv 3) pe_int (nomark _)) (pss_cons (ps_expr (pe_bm PySem.F.plainAttrs_list PySem.F.slot_list_append PySem.F.type_list_append mt_append (pv 1) (pa_cons (pe_op o_mod (pv 3) pe_int) pa_nil)))
    (pss_one (ps_set (i := 3) sc_Lnumbers.nd rfl (Or.inl rfl) (pe_op o_div (pv 3) pe_int)))) pss_nil))))) (pss_cons (ps_expr (pe_bm PySem.F.plainAttrs_list PySem.F.slot_list_append PySem.F.type_list_append mt_append (pv 1) (pa_cons (pe_op o_mod (pv 2) pe_int) pa_nil)))
    (pss_one (ps_for PassesOwn.never rfl (pi_range1 rfl T.b_range (pa_cons pe_int pa_nil)) (pg_name (i := 4) sc_Lnumbers.nd rfl (Or.inl rfl)) (pss_one (ps_expr (pe_bm PySem.F.plainAttrs_list PySem.F.slot_list_append PySem.F.type_list_append mt_append (pv 1) (pa_cons (pe_op o_mod (pe_cl c_Lmixed (hr.mono (by first | decide | omega)) (by rfl) (pa_cons (pe_cl c_Lmixed (hr.mono (by first | decide | omega)) (by rfl) (pa_cons (pe_op o_mod (pv 2) pe_int) (pa_cons (pv 4) pa_nil))) (pa_cons (pe_op o_add (pv 4) pe_int) pa_nil))) pe_int) pa_nil))))))))))
    (pss_one (ps_ret (pv 1)))))
  · obtain ⟨x0, rfl, h⟩ := h
    exact pu_Lnumbers T h
/-- the draws: a list of the numbers' list and a place -/
def Draws (H : Hp) (d l : Addr) : Prop := ∃ (ms : List Int) (k : Int), H d = some (.lst [.ref l, .int k]) ∧ H l = some (.lst (ms.map V.int)) ∧ Sml ms ∧ ms.length ≤ 10000 ∧ 0 ≤ k
theorem Draws.fr {H H' : Hp} {d l : Addr} {m : List Addr} (h : Draws H d l) (f : Fr m H H') (n1 : d ∉ m) (n2 : l ∉ m) : Draws H' d l := by
  obtain ⟨ms, k, h1, h2, h3⟩ := h
  exact ⟨ms, k, f.at h1 n1, f.at h2 n2, h3⟩
def P_Ldraw (K : PySem.W.Frag) (A : Ad) (x0 : V) (H : Hp) (Q : VK) : Prop := ∃ (d l : Addr), x0 = .ref d ∧ Draws H d l ∧
  ∀ (n : Int) (H' : Hp), 0 ≤ n → n < 1000000 → Fr [d] H H' → Draws H' d l → Q (.int n) H'
def sp_Ldraw (K : PySem.W.Frag) (A : Ad) : Sp := fun vs H Q _ => ∃ x0, vs = [x0] ∧ P_Ldraw K A x0 H Q
theorem c_Ldraw {K : PySem.W.Frag} {A : Ad} {x0 : V} {H : Hp} {Q : VK} {E : XK} (h : P_Ldraw K A x0 H Q) : sp_Ldraw K A [x0] H Q E := ⟨_, rfl, h⟩
theorem sc_Ldraw : FnScope ["_law_draws", "_law_at", "_law_first"] ["_law_draws"] (defScope s_Ldraw) := ⟨rfl, rfl, rfl, by decide +kernel, rfl, by decide +kernel, by decide +kernel⟩
def t_Ldraw (K : PySem.W.Frag) (A : Ad) : TS :=
  (tSeq (tAsg (tOp (rIxL K) (tVar 0) (tC (.int 1))) (gName 1))
    (tSeq (tAsg (tOp oAdd (tVar 1) (tC (.int 1))) (gSub (tVar 0) (tC (.int 1)) rSetL))
    (tSeq (tIfS (tTest (tOp cLt (tVar 1) (tCB (rLenSq K) (tCons (tOp (rIxL K) (tVar 0) (tC (.int 0))) tNil)))) (tRet (tOp (rIxL K) (tOp (rIxL K) (tVar 0) (tC (.int 0))) (tVar 1))) tNext)
    (tSeq (tAsg (tOp oAdd (tC (.int 1)) (tVar 1)) (gName 2))
    (tSeq (tIfS (tTest (tOp cGt (tCB (rLenSq K) (tCons (tOp (rIxL K) (tVar 0) (tC (.int 0))) tNil)) (tC (.int 0)))) (tAsg (tOp oAdd (tVar 2) (tOp oMul (tC (.int 1009)) (tOp (rIxL K) (tOp (rIxL K) (tVar 0) (tC (.int 0))) (tC (.int 0))))) (gName 2)) tNext)
    (tRet (tOp oMod (tCl (sp_Lmixed K A) (tCons (tCl (sp_Lmixed K A) (tCons (tVar 2) (tCons (tVar 1) tNil))) (tCons (tC (.int 5)) tNil))) (tC (.int 1000000)))))))))
theorem pu_Ldraw (T : Txt K mg A) {x0 : V} {H : Hp} {Q : VK} (h : P_Ldraw K A x0 H Q) : t_Ldraw K A { nx := fun _ H' => Q .non H', rt := Q } [some x0, none, none] H := by
  obtain ⟨d, l, rfl, ⟨ms, k, hd, hL, sm, hlen, hk⟩, q⟩ := h
  unfold t_Ldraw
  walk_at "go"
  refine g_setL hd (j := 1) rfl fun H1 f1 e1 => ?_
  have nld : l ≠ d := fun z => by
    subst z
    rw [hd] at hL
    have e := congrArg List.length (HO.lst.inj (Option.some.inj hL))
    cases ms with
    | nil => cases e
    | cons a r => cases HO.lst.inj (Option.some.inj hL)
  have hL1 : H1 l = some (.lst (ms.map V.int)) := f1.at hL (nin1 nld nin0)
  have D1 : Draws H1 d l := ⟨ms, k + 1, e1, hL1, sm, hlen, by omega⟩
  have e1' : H1 d = some (.lst [.ref l, .int (k + 1)]) := e1
  walk_at "go"
  rw [List.length_map]
  refine g_ite (fun c => ?_) (fun c => ?_)
  · walk_at "go"
    obtain ⟨v, hv, hv2⟩ := atI_of (xs := ms.map V.int) hk (by rw [List.length_map]; exact c)
    obtain ⟨n, rfl, _, hmem⟩ := getI hv2
    refine g_ixL (SqL.of hL1) hv ?_
    exact q n H1 (sm n hmem).1 (sm n hmem).2 f1 D1
  · have fin : ∀ n : Int, Q (.int (n % 1000000)) H1 := fun n => q _ H1 (Int.emod_nonneg _ (by decide)) (Int.emod_lt_of_pos _ (by decide)) f1 D1
    walk_at "go"
    rw [List.length_map]
    refine g_ite (fun c2 => ?_) (fun c2 => ?_)
    · walk_at "go"
      obtain ⟨v, hv, hv2⟩ := atI_of (xs := ms.map V.int) (z := 0) (Int.le_refl _) (by rw [List.length_map]; exact c2)
      obtain ⟨n, rfl, _, hmem⟩ := getI hv2
      refine g_ixL (SqL.of hL1) hv ?_
      walk_at "go"
      refine c_Lmixed ⟨_, _, rfl, rfl, fun z _ _ => ?_⟩
      walk_at "go"
      refine c_Lmixed ⟨_, _, rfl, rfl, fun z2 _ _ => ?_⟩
      walk_at "go"
      exact fin z2
    · walk_at "go"
      refine c_Lmixed ⟨_, _, rfl, rfl, fun z _ _ => ?_⟩
      walk_at "go"
      refine c_Lmixed ⟨_, _, rfl, rfl, fun z2 _ _ => ?_⟩
      walk_at "go"
      exact fin z2
theorem ok_Ldraw {f : Addr} {fd : FuncData} (F : Fun K "_law_draw" "_law_draw" s_Ldraw f fd) (T : Txt K mg A) (c_Lmixed : Cal P w K mg base "_law_mixed" 1 ["_law_number", "_law_k"] (sp_Lmixed K A)) : FnOk P w K mg base CX0 (2) f fd ["_law_draws"] (sp_Ldraw K A) := by
  refine F.ok sc_Ldraw (fun vs H Q E h => ?_) (fun cdv Ar outer s H vs Q E hr h => ⟨t_Ldraw K A, ?_, ?_⟩)
  · obtain ⟨x0, rfl, _⟩ := h
    rfl
  · have hu := hu_of hr
    exact (pss_cons (ps_set (i := 1) sc_Ldraw.nd rfl (Or.inl rfl) (pe_ix ix_list (pv 0) pe_int (fun _ _ => rfl)))
    (pss_cons (ps_asg (pe_op o_add (pv 1) pe_int) (pg_sub (pv 0) pe_int set_list))
    (pss_cons (ps_if (pt_cmpR c_lt (pv 1) (pe_callB b_len (by rfl) T.b_len (by decide +kernel) (pa_cons (pe_ix ix_list (pv 0) pe_int (fun _ _ => rfl)) pa_nil)) (nomark _)) (pss_one (ps_ret (pe_ix ix_list (pe_ix ix_list (pv 0) pe_int (fun _ _ => rfl)) (pv 1) (fun _ _ => rfl)))) pss_nil)
    (pss_cons (ps_set (i := 2) sc_Ldraw.nd rfl (Or.inl rfl) (pe_op o_add pe_int (pv 1)))
    (pss_cons (ps_if (pt_cmpR c_gt (pe_callB b_len (by rfl) T.b_len (by decide +kernel) (pa_cons (pe_ix ix_list (pv 0) pe_int (fun _ _ => rfl)) pa_nil)) pe_int (nomark _)) (pss_one (ps_set (i := 2) sc_Ldraw.nd rfl (Or.inl rfl) (pe_op o_add (pv 2) (pe_op o_mul pe_int (pe_ix ix_list (pe_ix ix_list (pv 0) pe_int (fun _ _ => rfl)) pe_int (fun _ _ => rfl)))))) pss_nil)
    (pss_one (ps_ret (pe_op o_mod (pe_cl c_Lmixed (hr.mono (by first | decide | omega)) (by rfl) (pa_cons (pe_cl c_Lmixed (hr.mono (by first | decide | omega)) (by rfl) (pa_cons (pv 2) (pa_cons (pv 1) pa_nil))) (pa_cons pe_int pa_nil))) pe_int))))))))
  · obtain ⟨x0, rfl, h⟩ := h
    exact pu_Ldraw T h
theorem Draws.new1 {H : Hp} {d l p : Addr} (h : Draws H d l) (e : H p = none) : d ≠ p := by
  obtain ⟨ms, k, h1, h2, _⟩ := h
  exact ne_of_none h1 e
theorem Draws.new2 {H : Hp} {d l p : Addr} (h : Draws H d l) (e : H p = none) : l ≠ p := by
  obtain ⟨ms, k, h1, h2, _⟩ := h
  exact ne_of_none h2 e
theorem Draws.ne {H : Hp} {d l p C dx : Addr} {fs : List (Str × V)} (h : Draws H d l) (e : H p = some (.ins C dx fs)) : d ≠ p ∧ l ≠ p := by
  obtain ⟨ms, k, h1, h2, _⟩ := h
  exact ⟨ne_of h1 e (by intro z; cases z), ne_of h2 e (by intro z; cases z)⟩
theorem Draws.ne' {H : Hp} {d l p : Addr} {xs : List V} (h : Draws H d l) (e : H p = some (.lst xs)) (n : xs.length ≠ 2) : d ≠ p := by
  obtain ⟨ms, k, h1, h2, _⟩ := h
  exact ne_of h1 e (by intro z; cases z; exact n rfl)
local macro_rules | `(tactic| walk_at "drw") => `(tactic| first
  | assumption
  | ((refine' Draws.fr ?h (by assumption) ?k ?l); (first | (case h => walk_at "drw") | fail); (first | (case k => walk_at "nin") | fail); (first | (case l => walk_at "nin") | fail)))
local macro_rules | `(tactic| walk_at "ne2") => `(tactic| first
  | exact Draws.new1 (by walk_at "drw") (by assumption) | exact Draws.new2 (by walk_at "drw") (by assumption)
  | exact Ne.symm (Draws.new1 (by walk_at "drw") (by assumption)) | exact Ne.symm (Draws.new2 (by walk_at "drw") (by assumption)))
local macro_rules | `(tactic| walk_at "go3") => `(tactic| ((with_reducible show sp_Ldraw _ _ _ _ _ _); refine' c_Ldraw ⟨_, _, rfl, ?D, ?_⟩; (first | (case D => walk_at "drw") | fail); intro _ _ _ _ _ _))


/-! ### setups, stays and parties as data -/
structure Setup where
  rooms : List Int
  nights : Int
  sellers : Int
  prices : List (List Int)
  share : Int
def rowD (r : List Int) : PyData := .tuple (r.map .int)
def setupD (S : Setup) : PyData := .tuple [rowD S.rooms, .int S.nights, .int S.sellers, .tuple (S.prices.map rowD), .int S.share]
structure SetupOk (S : Setup) : Prop where
  k1 : 1 ≤ S.rooms.length
  k3 : S.rooms.length ≤ 3
  rm : ∀ z ∈ S.rooms, 0 ≤ z ∧ z ≤ 4
  n1 : 1 ≤ S.nights
  n2 : S.nights ≤ 12
  s1 : 1 ≤ S.sellers
  s2 : S.sellers ≤ 4
  pl : S.prices.length = S.rooms.length
  pn : ∀ r ∈ S.prices, r.length = S.nights.toNat ∧ ∀ z ∈ r, 0 ≤ z ∧ z ≤ 1000000
  h1 : 0 ≤ S.share
  h2 : S.share ≤ 100
theorem imm_row (r : List Int) : imm (rowD r) = true := immL_of fun d hd => by obtain ⟨n, _, rfl⟩ := List.mem_map.mp hd; rfl
theorem imm_setup (S : Setup) : imm (setupD S) = true := by
  have h : immL (S.prices.map rowD) = true := immL_of fun d hd => by obtain ⟨r, _, rfl⟩ := List.mem_map.mp hd; exact imm_row r
  simp [setupD, imm, immL, h, imm_row]
/-- the parts of a setup in the heap -/
structure SetAt (H : Hp) (x : V) (S : Setup) (s r p : Addr) (ps : List V) : Prop where
  e : x = .ref s
  t : H s = some (.tup [.ref r, .int S.nights, .int S.sellers, .ref p, .int S.share])
  r : H r = some (.tup (S.rooms.map V.int))
  p : H p = some (.tup ps)
  ps : DaL H ps (S.prices.map rowD)
theorem SetAt.of {H : Hp} {x : V} {S : Setup} (h : Da H x (setupD S)) : ∃ s r p ps, SetAt H x S s r p ps := by
  obtain ⟨s, xs, rfl, e, _, q⟩ := h.tup1
  cases q with
  | cons a q => cases q with
    | cons b q => cases q with
      | cons c q => cases q with
        | cons d q => cases q with
          | cons f q =>
            cases q
            obtain ⟨r, rs, rfl, er, _, qr⟩ := a.tup1
            obtain ⟨p, ps, rfl, ep, _, qp⟩ := d.tup1
            cases b.int1
            cases c.int1
            cases f.int1
            rw [DaL.ints qr] at er
            exact ⟨s, r, p, ps, rfl, e, er, ep, qp⟩
theorem SetAt.row {H : Hp} {x : V} {S : Setup} {s r p : Addr} {ps : List V} (h : SetAt H x S s r p ps) {k : Nat} {row : List Int} (e : S.prices[k]? = some row) : ∃ a, ps[k]? = some (.ref a) ∧ H a = some (.tup (row.map V.int)) := by
  obtain ⟨v, hv, dv⟩ := h.ps.get' (i := k) (d := rowD row) (by rw [List.getElem?_map, e]; rfl)
  obtain ⟨a, xs, rfl, ea, _, q⟩ := dv.tup1
  rw [DaL.ints q] at ea
  exact ⟨a, hv, ea⟩
/-- a stay: kind, first, end -/
abbrev Stay := Int × Int × Int
def stayD (s : Stay) : PyData := .tuple [.int s.1, .int s.2.1, .int s.2.2]
def partyD (ss : List Stay) : PyData := .tuple (ss.map stayD)
def StayOk (S : Setup) (s : Stay) : Prop := 0 ≤ s.1 ∧ s.1 < S.rooms.length ∧ 0 ≤ s.2.1 ∧ s.2.1 < s.2.2 ∧ s.2.2 ≤ S.nights
theorem imm_stay (s : Stay) : imm (stayD s) = true := rfl
theorem imm_stays (ss : List Stay) : immL (ss.map stayD) = true := immL_of fun d hd => by obtain ⟨n, _, rfl⟩ := List.mem_map.mp hd; rfl
theorem imm_party (ss : List Stay) : imm (partyD ss) = true := imm_stays ss
theorem stay_at {H : Hp} {v : V} {s : Stay} (h : Da H v (stayD s)) : ∃ a, v = .ref a ∧ H a = some (.tup [.int s.1, .int s.2.1, .int s.2.2]) := by
  obtain ⟨a, xs, rfl, e, _, q⟩ := h.tup1
  obtain ⟨x, y, z, rfl, dx, dy, dz⟩ := q.three
  cases dx.int1
  cases dy.int1
  cases dz.int1
  exact ⟨a, rfl, e⟩
theorem stays_get {H : Hp} {xs : List V} {ss : List Stay} {i : Nat} {x : V} (h : DaL H xs (ss.map stayD)) (e : xs[i]? = some x) : ∃ s a, ss[i]? = some s ∧ x = .ref a ∧ H a = some (.tup [.int s.1, .int s.2.1, .int s.2.2]) ∧ Da H x (stayD s) := by
  obtain ⟨d, hd, dd⟩ := h.get e
  rw [List.getElem?_map] at hd
  cases q : ss[i]? with
  | none => rw [q] at hd; cases hd
  | some s =>
    rw [q] at hd
    cases hd
    obtain ⟨a, rfl, ea⟩ := stay_at dd
    exact ⟨s, a, rfl, rfl, ea, dd⟩

/-! ### setups, stays and parties are drawn -/
def P_Lsetup (K : PySem.W.Frag) (A : Ad) (x0 : V) (H : Hp) (Q : VK) : Prop := ∃ (d l : Addr), x0 = .ref d ∧ Draws H d l ∧
  ∀ (v : V) (S : Setup) (H' : Hp), SetupOk S → Da H' v (setupD S) → Fr [d] H H' → Draws H' d l → Q v H'
def sp_Lsetup (K : PySem.W.Frag) (A : Ad) : Sp := fun vs H Q _ => ∃ x0, vs = [x0] ∧ P_Lsetup K A x0 H Q
theorem c_Lsetup {K : PySem.W.Frag} {A : Ad} {x0 : V} {H : Hp} {Q : VK} {E : XK} (h : P_Lsetup K A x0 H Q) : sp_Lsetup K A [x0] H Q E := ⟨_, rfl, h⟩
theorem sc_Lsetup : FnScope ["_law_draws", "_law_rooms", "_law_nights", "_law_prices", "_law_k", "_law_t"] ["_law_draws"] (defScope s_Lsetup) := ⟨rfl, rfl, rfl, by decide +kernel, rfl, by decide +kernel, by decide +kernel⟩
def t_Lsetup (K : PySem.W.Frag) (A : Ad) : TS :=
  (tSeq (tAsg (tCB (rTupOf K) (tCons (tLc (iRng1 (tCons (tOp oAdd (tC (.int 1)) (tOp oMod (tCl (sp_Ldraw K A) (tCons (tVar 0) tNil)) (tC (.int 3)))) tNil)) (gName 4) tYes (tOp oMod (tCl (sp_Ldraw K A) (tCons (tVar 0) tNil)) (tC (.int 5))) [4]) tNil)) (gName 1))
    (tSeq (tAsg (tOp oAdd (tC (.int 1)) (tOp oMod (tCl (sp_Ldraw K A) (tCons (tVar 0) tNil)) (tC (.int 12)))) (gName 2))
    (tSeq (tAsg (tLst tNil) (gName 3))
    (tSeq (tFor (iRng1 (tCons (tCB (rLenSq K) (tCons (tVar 1) tNil)) tNil)) (gName 4) (tDrop (tBM K "list" rAppend (tVar 3) (tCons (tCB (rTupOf K) (tCons (tLc (iRng1 (tCons (tVar 2) tNil)) (gName 5) tYes (tOp (rIxL K) (tLst (tCons (tOp oMod (tCl (sp_Ldraw K A) (tCons (tVar 0) tNil)) (tC (.int 200))) (tCons (tC (.int 0)) (tCons (tOp oPow (tC (.int 10)) (tC (.int 6))) (tCons (tOp oMod (tCl (sp_Ldraw K A) (tCons (tVar 0) tNil)) (tC (.int 1000001))) tNil))))) (tOp oMod (tCl (sp_Ldraw K A) (tCons (tVar 0) tNil)) (tC (.int 4)))) [5]) tNil)) tNil))))
    (tRet (tTup (tCons (tVar 1) (tCons (tVar 2) (tCons (tOp oAdd (tC (.int 1)) (tOp oMod (tCl (sp_Ldraw K A) (tCons (tVar 0) tNil)) (tC (.int 4)))) (tCons (tCB (rTupOf K) (tCons (tVar 3) tNil)) (tCons (tOp (rIxL K) (tLst (tCons (tOp oMod (tCl (sp_Ldraw K A) (tCons (tVar 0) tNil)) (tC (.int 101))) (tCons (tC (.int 0)) (tCons (tC (.int 100)) tNil)))) (tOp oMod (tCl (sp_Ldraw K A) (tCons (tVar 0) tNil)) (tC (.int 3)))) tNil)))))))))))
theorem pu_Lsetup (T : Txt K mg A) {x0 : V} {H : Hp} {Q : VK} (h : P_Lsetup K A x0 H Q) : t_Lsetup K A { nx := fun _ H' => Q .non H', rt := Q } [some x0, none, none, none, none, none] H := by
  obtain ⟨d, l, rfl, D0, k⟩ := h
  unfold t_Lsetup
  walk_at "go"
  rename_i z H1 z0 z1 f1 D1
  refine l_range (lo := 0) (n := (1 + z % 3).toNat) fun Dl H2 nD f2 e2 => ⟨fun i acc H' => ∃ r : List Int, acc = r.map V.int ∧ r.length = i ∧ (∀ y ∈ r, 0 ≤ y ∧ y ≤ 4) ∧ Fr [d] H1 H' ∧ Draws H' d l, ⟨[], rfl, rfl, fun _ q => (nomatch q), f2.of0, D1.fr f2 nin0 nin0⟩, fun i acc H' hi ha ⟨r, e, hr, hm, f, D⟩ => ?_, fun acc H' ha ⟨r, e, hr, hm, f, D⟩ => ?_⟩
  · walk_at "go"
    refine ⟨rfl, ?_⟩
    walk_at "go"
    rename_i y H3 y0 y1 f3 D3
    have nd : Dl ≠ d := (D1.new1 nD).symm
    have nl : Dl ≠ l := (D1.new2 nD).symm
    refine lcY_of (f3.at ha (nin1 nd nin0)) (by rw [e]; walk_at "sz") fun H5 f5 e5 => ⟨r ++ [y % 5], by rw [e, List.map_append]; rfl, by rw [List.length_append, hr]; rfl, fun q hq => ?_, ?_, D3.fr f5 (nin1 nd.symm nin0) (nin1 nl.symm nin0)⟩
    · rcases List.mem_append.mp hq with h | h
      · exact hm q h
      · rw [List.mem_singleton.mp h]; omega
    · exact (f.transL f3).own1 f5 nD
  · subst e
    walk_at "go"
    rename_i rt H3 n3 f3 e3 w H4 w0 w1 f4 D4 pl H5 n5 f5 e5
    have nd : d ≠ pl := D4.new1 n5
    have nl : l ≠ pl := D4.new2 n5
    have er : H5 rt = some (.tup (r.map V.int)) := by walk_at "fact"
    have D5 : Draws H5 d l := D4.fr f5 nin0 nin0
    have npl : H pl = none := by walk_at "none"
    have F5 : Fr [d] H H5 := by walk_at "fr"
    rw [List.length_map]
    clear f1 D1 nD f2 e2 f D ha n3 f3 e3 f4 D4 f5 n5
    have hrl : r.length ≤ 3 ∧ 1 ≤ r.length := by omega
    refine f_range (lo := 0) (n := r.length) (fun i σ H' => ∃ (v4 v5 : Option V) (rows : List (List Int)) (xs : List V), σ = [some (.ref d), some (.ref rt), some (.int (1 + w % 12)), some (.ref pl), v4, v5] ∧ Fr [d] H H' ∧ Draws H' d l ∧ H' rt = some (.tup (r.map V.int)) ∧
      H' pl = some (.lst xs) ∧ DaL H' xs (rows.map rowD) ∧ rows.length = i ∧ ∀ q ∈ rows, q.length = (1 + w % 12).toNat ∧ ∀ y ∈ q, 0 ≤ y ∧ y ≤ 1000000)
      ⟨_, _, [], [], rfl, F5, D5, er, e5, .nil, rfl, fun _ q => (nomatch q)⟩ ?_ ?_
    · rintro i σ H6 hi ⟨v4, v5, rows, xs, rfl, f6, D6, er6, ep6, dr, hri, hq⟩
      have hxl : xs.length ≤ 10 := by rw [dr.len, List.length_map]; omega
      walk_at "go"
      refine l_range (lo := 0) (n := (1 + w % 12).toNat) fun Dl H7 nD f7 e7 => ⟨fun j acc H' => ∃ q : List Int, acc = q.map V.int ∧ q.length = j ∧ (∀ y ∈ q, 0 ≤ y ∧ y ≤ 1000000) ∧ Fr [d] H6 H' ∧ Draws H' d l, ⟨[], rfl, rfl, fun _ q => (nomatch q), f7.of0, D6.fr f7 nin0 nin0⟩, fun j acc H' hj ha ⟨q, e, hr, hm, f, D⟩ => ?_, fun acc H' ha ⟨q, e, hql, hm, f, D⟩ => ?_⟩
      · walk_at "go"
        refine ⟨rfl, ?_⟩
        walk_at "go"
        rename_i y1 H8 y10 y11 f8 D8 y2 H9 y20 y21 f9 D9 t H10 n10 f10 e10 y3 H11 y30 y31 f11 D11
        have hnd : Dl ≠ d := (D6.new1 nD).symm
        have hnl : Dl ≠ l := (D6.new2 nD).symm
        have htd : t ≠ d := (D9.new1 n10).symm
        obtain ⟨v, hv, hmem⟩ := atI_mem (xs := [V.int (y1 % 200), V.int 0, V.int (10 ^ Int.toNat 6), V.int (y2 % 1000001)]) (z := y3 % 4) (by omega) (by show y3 % 4 < 4; omega)
        obtain ⟨y, rfl, hy⟩ : ∃ y, v = .int y ∧ 0 ≤ y ∧ y ≤ 1000000 := by
          rcases List.mem_cons.mp hmem with h | hmem
          · exact ⟨_, h, by omega, by omega⟩
          rcases List.mem_cons.mp hmem with h | hmem
          · exact ⟨_, h, by omega, by omega⟩
          rcases List.mem_cons.mp hmem with h | hmem
          · exact ⟨_, h, by decide, by decide⟩
          · exact ⟨_, List.mem_singleton.mp hmem, by omega, by omega⟩
        refine g_ixL (SqL.of (f11.at e10 (nin1 htd nin0))) hv ?_
        have hD : H11 Dl = some (.lst acc) := f11.at (f10.at0 (f9.at (f8.at ha (nin1 hnd nin0)) (nin1 hnd nin0))) (nin1 hnd nin0)
        refine lcY_of hD (by rw [e]; walk_at "sz") fun H12 f12 e12 => ⟨q ++ [y], by rw [e, List.map_append]; rfl, by rw [List.length_append, hr]; rfl, fun z hz => ?_, ?_, D11.fr f12 (nin1 hnd.symm nin0) (nin1 hnl.symm nin0)⟩
        · rcases List.mem_append.mp hz with h | h
          · exact hm z h
          · rw [List.mem_singleton.mp h]; exact hy
        · exact ((((f.transL f8).transL f9).then0 f10).transL f11).own1 f12 nD
      · subst e
        have hpd : pl ≠ d := nd.symm
        have ep7 : H' pl = some (.lst xs) := f.at ep6 (nin1 hpd nin0)
        have hql2 : q.length ≤ 12 := by omega
        walk_at "go"
        rename_i t H8 n8 f8 e8 H9 f9 e9
        exact ⟨_, _, rows ++ [q], _, rfl, ((f6.transL f).then0 f8).own1 f9 npl, (D.fr f8 nin0 nin0).fr f9 (nin1 nd nin0) (nin1 nl nin0), f9.tup _ _ (f8.tup _ _ (f.tup _ _ er6)), e9,
          by rw [List.map_append]; exact (DaL.frL f9 (DaL.frL f8 (DaL.frL f dr (immL_of fun d hd => by obtain ⟨r, _, rfl⟩ := List.mem_map.mp hd; exact imm_row r)) (immL_of fun d hd => by obtain ⟨r, _, rfl⟩ := List.mem_map.mp hd; exact imm_row r)) (immL_of fun d hd => by obtain ⟨r, _, rfl⟩ := List.mem_map.mp hd; exact imm_row r)).append (.one' (.tup (f9.tup _ _ e8) (by rw [List.length_map]; omega) (.ofInts q))),
          by rw [List.length_append, hri]; rfl, fun z hz => (List.mem_append.mp hz).elim (hq z) fun h => by rw [List.mem_singleton.mp h]; exact ⟨hql, hm⟩⟩
    · rintro σ H6 ⟨v4, v5, rows, xs, rfl, f6, D6, er6, ep6, dr, hri, hq⟩
      have hxl : xs.length ≤ 10 := by rw [dr.len, List.length_map]; omega
      have hpd : pl ≠ d := nd.symm
      walk_at "go"
      rename_i m H7 m0 m1 f7 D7 pt H8 n8 f8 e8 y1 H9 y10 y11 f9 D9 t H10 n10 f10 e10 y2 H11 y20 y21 f11 D11
      have htd : t ≠ d := (D9.new1 n10).symm
      obtain ⟨v, hv, hmem⟩ := atI_mem (xs := [V.int (y1 % 101), V.int 0, V.int 100]) (z := y2 % 3) (by omega) (by show y2 % 3 < 3; omega)
      obtain ⟨y, rfl, hy⟩ : ∃ y, v = .int y ∧ 0 ≤ y ∧ y ≤ 100 := by
        rcases List.mem_cons.mp hmem with h | hmem
        · exact ⟨_, h, by omega, by omega⟩
        rcases List.mem_cons.mp hmem with h | hmem
        · exact ⟨_, h, by omega, by omega⟩
        · exact ⟨_, List.mem_singleton.mp hmem, by decide, by decide⟩
      refine g_ixL (SqL.of (f11.at e10 (nin1 htd nin0))) hv ?_
      walk_at "go"
      rename_i st H12 n12 f12 e12
      have ir : immL (rows.map rowD) = true := immL_of fun d hd => by obtain ⟨r, _, rfl⟩ := List.mem_map.mp hd; exact imm_row r
      have F : Fr [d] H6 H12 := by walk_at "fr"
      refine k _ ⟨r, 1 + w % 12, 1 + m % 4, rows, y⟩ H12 ⟨hrl.2, hrl.1, hm, by show 1 ≤ 1 + w % 12; omega, by show 1 + w % 12 ≤ 12; omega, by show 1 ≤ 1 + m % 4; omega, by show 1 + m % 4 ≤ 4; omega, hri, hq, hy.1, hy.2⟩ (.tup e12 (Nat.le_of_ble_eq_true rfl) ?_) (f6.transL F) (D11.fr f12 nin0 nin0)
      exact .cons (.tup (F.tup _ _ er6) (by rw [List.length_map]; omega) (.ofInts r)) (.cons (.int _) (.cons (.int _) (.cons (.tup (f12.tup _ _ (f11.tup _ _ (f10.tup _ _ (f9.tup _ _ e8)))) (by omega) (DaL.frL F dr ir)) (.one' (.int _)))))
theorem ok_Lsetup {f : Addr} {fd : FuncData} (F : Fun K "_law_setup" "_law_setup" s_Lsetup f fd) (T : Txt K mg A) (c_Ldraw : Cal P w K mg base "_law_draw" 2 ["_law_draws"] (sp_Ldraw K A)) : FnOk P w K mg base CX0 (3) f fd ["_law_draws"] (sp_Lsetup K A) := by
  refine F.ok sc_Lsetup (fun vs H Q E h => ?_) (fun cdv Ar outer s H vs Q E hr h => ⟨t_Lsetup K A, ?_, ?_⟩)
  · obtain ⟨x0, rfl, _⟩ := h
    rfl
  · have hu := hu_of hr
    exact (pss_cons (ps_set (i := 1) sc_Lsetup.nd rfl (Or.inl rfl) (pe_callTy b_tuple (by rfl) T.b_tuple (by decide +kernel) (pa_cons (pe_lc (own := [("_law_k", 4)]) (g := (gName 4)) (tt := tYes) rfl sc_Lsetup.nd (pi_range1 rfl T.b_range (pa_cons (pe_op o_add pe_int (pe_op o_mod (pe_cl c_Ldraw (hr.mono (by first | decide | omega)) (by rfl) (pa_cons (pv 0) pa_nil)) pe_int)) pa_nil)) (blkOk_by (N := ["_law_draws", "_law_rooms", "_law_nights", "_law_prices", "_law_k", "_law_t"]) (sc := defScope s_Lsetup) (own := [("_law_k", 4)]) (by decide +kernel)) (fun _ _ _ _ _ => (pg_name (i := 4) sc_Lsetup.nd rfl (Or.inl rfl))) (fun _ _ _ _ _ => pts_nil) (fun _ _ _ _ _ => (pe_op o_mod (pe_cl c_Ldraw (hr.mono (by first | decide | omega)) (by rfl) (pa_cons (pv 0) pa_nil)) pe_int))) pa_nil)))
    (pss_cons (ps_set (i := 2) sc_Lsetup.nd rfl (Or.inl rfl) (pe_op o_add pe_int (pe_op o_mod (pe_cl c_Ldraw (hr.mono (by first | decide | omega)) (by rfl) (pa_cons (pv 0) pa_nil)) pe_int)))
    (pss_cons (ps_set (i := 3) sc_Lsetup.nd rfl (Or.inl rfl) (pe_lst pa_nil))
    (pss_cons (ps_for PassesOwn.never rfl (pi_range1 rfl T.b_range (pa_cons (pe_callB b_len (by rfl) T.b_len (by decide +kernel) (pa_cons (pv 1) pa_nil)) pa_nil)) (pg_name (i := 4) sc_Lsetup.nd rfl (Or.inl rfl)) (pss_one (ps_expr (pe_bm PySem.F.plainAttrs_list PySem.F.slot_list_append PySem.F.type_list_append mt_append (pv 3) (pa_cons (pe_callTy b_tuple (by rfl) T.b_tuple (by decide +kernel) (pa_cons (pe_lc (own := [("_law_t", 5)]) (g := (gName 5)) (tt := tYes) rfl sc_Lsetup.nd (pi_range1 rfl T.b_range (pa_cons (pv 2) pa_nil)) (blkOk_by (N := ["_law_draws", "_law_rooms", "_law_nights", "_law_prices", "_law_k", "_law_t"]) (sc := defScope s_Lsetup) (own := [("_law_t", 5)]) (by decide +kernel)) (fun _ _ _ _ _ => (pg_name (i := 5) sc_Lsetup.nd rfl (Or.inl rfl))) (fun _ _ _ _ _ => pts_nil) (fun _ _ _ _ _ => (pe_ix ix_list (pe_lst (pa_cons (pe_op o_mod (pe_cl c_Ldraw (hr.mono (by first | decide | omega)) (by rfl) (pa_cons (pv 0) pa_nil)) pe_int) (pa_cons pe_int (pa_cons (pe_op o_pow pe_int pe_int) (pa_cons (pe_op o_mod (pe_cl c_Ldraw (hr.mono (by first | decide | omega)) (by rfl) (pa_cons (pv 0) pa_nil)) pe_int) pa_nil))))) (pe_op o_mod (pe_cl c_Ldraw (hr.mono (by first | decide | omega)) (by rfl) (pa_cons (pv 0) pa_nil)) pe_int) (fun _ _ => rfl)))) pa_nil)) pa_nil)))))
    (pss_one (ps_ret (pe_tup (pa_cons (pv 1) (pa_cons (pv 2) (pa_cons (pe_op o_add pe_int (pe_op o_mod (pe_cl c_Ldraw (hr.mono (by first | decide | omega)) (by rfl) (pa_cons (pv 0) pa_nil)) pe_int)) (pa_cons (pe_callTy b_tuple (by rfl) T.b_tuple (by decide +kernel) (pa_cons (pv 3) pa_nil)) (pa_cons (pe_ix ix_list (pe_lst (pa_cons (pe_op o_mod (pe_cl c_Ldraw (hr.mono (by first | decide | omega)) (by rfl) (pa_cons (pv 0) pa_nil)) pe_int) (pa_cons pe_int (pa_cons pe_int pa_nil)))) (pe_op o_mod (pe_cl c_Ldraw (hr.mono (by first | decide | omega)) (by rfl) (pa_cons (pv 0) pa_nil)) pe_int) (fun _ _ => rfl)) pa_nil))))))))))))
  · obtain ⟨x0, rfl, h⟩ := h
    exact pu_Lsetup T h

/-! ### what is a setup -/
def isI : PyData → Bool
  | .int _ => true
  | _ => false
def isF (lo hi : Int) : PyData → Bool
  | .int i => decide (lo ≤ i) && decide (i ≤ hi)
  | _ => false
def rowOk (n : Int) : PyData → Bool
  | .tuple r => decide ((r.length : Int) = n) && r.all (isF 0 1000000)
  | _ => false
def pricesOk (k n : Int) : PyData → Bool
  | .tuple ps => decide ((ps.length : Int) = k) && ps.all (rowOk n)
  | _ => false
def intOf : PyData → Int
  | .int i => i
  | _ => 0
def roomsOk : PyData → Bool
  | .tuple rs => decide (1 ≤ (rs.length : Int)) && decide ((rs.length : Int) ≤ 3) && rs.all (isF 0 4)
  | _ => false
def lenOf : PyData → Int
  | .tuple rs => rs.length
  | _ => 0
def isSet : PyData → Bool
  | .tuple [r, n, s, p, h] => roomsOk r && (isF 1 12 n && isF 1 4 s) && (pricesOk (lenOf r) (intOf n) p && isF 0 100 h)
  | _ => false
theorem isF_int {lo hi : Int} {d : PyData} (h : isF lo hi d = true) : ∃ i, d = .int i ∧ lo ≤ i ∧ i ≤ hi := by
  cases d with
  | int i =>
    rw [isF, Bool.and_eq_true] at h
    exact ⟨i, rfl, of_decide_eq_true h.1, of_decide_eq_true h.2⟩
  | _ => cases h

/-- the type of data -/
def tyD : PyData → String
  | .none => "NoneType"
  | .bool _ => "bool"
  | .int _ => "int"
  | .str _ => "str"
  | .list _ => "list"
  | .tuple _ => "tuple"
  | .dict _ => "dict"
theorem Da.ty {K : PySem.W.Frag} {H : Hp} {v : V} {d : PyData} (h : Da H v d) : TyX K H v (.type (tyD d)) := by
  cases h with
  | non => exact TyX.base TyOf.non
  | bl b => exact TyX.base (TyOf.bl _)
  | int i => exact TyX.base (TyOf.int _)
  | str x => exact TyX.base (TyOf.str _)
  | lst e z r => exact TyX.base (TyOf.lst e)
  | tup e z r => exact TyX.base (TyOf.tup e)
def isTupD : PyData → Bool
  | .tuple _ => true
  | _ => false
theorem kit_tup {d : PyData} (h : ∀ m, d ≠ .dict m) : kitB (tyD d) "tuple" = some (isTupD d) := by
  cases d with
  | none => exact kb_NoneType_tuple
  | bool b => exact kb_bool_tuple
  | int i => exact kb_int_tuple
  | str s => exact kb_str_tuple
  | list l => exact kb_list_tuple
  | tuple l => exact kb_tuple_tuple
  | dict m => exact absurd rfl (h m)
theorem nodict {H : Hp} {v : V} {d : PyData} (h : Da H v d) : ∀ m, d ≠ .dict m := fun m e => by subst e; cases h
theorem g_isTup {K : PySem.W.Frag} {H : Hp} {Q : VK} {v : V} {d : PyData} (h : Da H v d) (q : Q (.bl (isTupD d)) H) : rIsi K [v, .ty "tuple"] H Q := g_isi (Da.ty h) (kit_tup (nodict h)) q
def P_is_integer (K : PySem.W.Frag) (A : Ad) (x0 : V) (H : Hp) (Q : VK) : Prop := ∃ d, Da H x0 d ∧ Q (.bl (isI d)) H
def sp_is_integer (K : PySem.W.Frag) (A : Ad) : Sp := fun vs H Q _ => ∃ x0, vs = [x0] ∧ P_is_integer K A x0 H Q
theorem c_is_integer {K : PySem.W.Frag} {A : Ad} {x0 : V} {H : Hp} {Q : VK} {E : XK} (h : P_is_integer K A x0 H Q) : sp_is_integer K A [x0] H Q E := ⟨_, rfl, h⟩
theorem sc_is_integer : FnScope ["value"] ["value"] (defScope s_is_integer) := ⟨rfl, rfl, rfl, by decide +kernel, rfl, by decide +kernel, by decide +kernel⟩
def t_is_integer (K : PySem.W.Frag) (A : Ad) : TS :=
  (tRet (tAndV (tCB (rIsi K) (tCons (tVar 0) (tCons (tC (.ty "int")) tNil))) (tNotV (tCB (rIsi K) (tCons (tVar 0) (tCons (tC (.ty "bool")) tNil))))))
theorem pu_is_integer (T : Txt K mg A) {x0 : V} {H : Hp} {Q : VK} (h : P_is_integer K A x0 H Q) : t_is_integer K A { nx := fun _ H' => Q .non H', rt := Q } [some x0] H := by
  obtain ⟨d, dd, k⟩ := h
  unfold t_is_integer
  cases dd with
  | non => walk_at "go"; exact k
  | bl b => walk_at "go"; exact k
  | int i => walk_at "go"; exact k
  | str x => walk_at "go"; exact k
  | lst e z r => walk_at "go"; exact k
  | tup e z r => walk_at "go"; exact k
theorem ok_is_integer {f : Addr} {fd : FuncData} (F : Fun K "is_integer" "is_integer" s_is_integer f fd) (T : Txt K mg A)  : FnOk P w K mg base CX0 (1) f fd ["value"] (sp_is_integer K A) := by
  refine F.ok sc_is_integer (fun vs H Q E h => ?_) (fun cdv Ar outer s H vs Q E hr h => ⟨t_is_integer K A, ?_, ?_⟩)
  · obtain ⟨x0, rfl, _⟩ := h
    rfl
  · have hu := hu_of hr
    exact (pss_one (ps_ret (pe_and (pe_callB call_isi (by rfl) T.b_isinstance (by decide +kernel) (pa_cons (pv 0) (pa_cons (pe_bltn (by rfl) T.b_int (by decide +kernel) (v := .ty "int") rfl) pa_nil))) (pe_one (pe_not (pe_callB call_isi (by rfl) T.b_isinstance (by decide +kernel) (pa_cons (pv 0) (pa_cons (pe_bltn (by rfl) T.b_bool (by decide +kernel) (v := .ty "bool") rfl) pa_nil))))))))
  · obtain ⟨x0, rfl, h⟩ := h
    exact pu_is_integer T h
def P_is_from (K : PySem.W.Frag) (A : Ad) (x0 x1 x2 : V) (H : Hp) (Q : VK) : Prop := ∃ (d : PyData) (lo hi : Int), Da H x0 d ∧ x1 = .int lo ∧ x2 = .int hi ∧ Q (.bl (isF lo hi d)) H
def sp_is_from (K : PySem.W.Frag) (A : Ad) : Sp := fun vs H Q _ => ∃ x0 x1 x2, vs = [x0, x1, x2] ∧ P_is_from K A x0 x1 x2 H Q
theorem c_is_from {K : PySem.W.Frag} {A : Ad} {x0 x1 x2 : V} {H : Hp} {Q : VK} {E : XK} (h : P_is_from K A x0 x1 x2 H Q) : sp_is_from K A [x0, x1, x2] H Q E := ⟨_, _, _, rfl, h⟩
theorem sc_is_from : FnScope ["value", "least", "most"] ["value", "least", "most"] (defScope s_is_from) := ⟨rfl, rfl, rfl, by decide +kernel, rfl, by decide +kernel, by decide +kernel⟩
def t_is_from (K : PySem.W.Frag) (A : Ad) : TS :=
  (tRet (tAndV (tCl (sp_is_integer K A) (tCons (tVar 0) tNil)) (tChain cLe cLe (tVar 1) (tVar 0) (tVar 2))))
theorem pu_is_from (T : Txt K mg A) {x0 x1 x2 : V} {H : Hp} {Q : VK} (h : P_is_from K A x0 x1 x2 H Q) : t_is_from K A { nx := fun _ H' => Q .non H', rt := Q } [some x0, some x1, some x2] H := by
  obtain ⟨d, lo, hi, dd, rfl, rfl, k⟩ := h
  unfold t_is_from
  walk_at "go"
  refine c_is_integer ⟨d, dd, ?_⟩
  cases dd with
  | int i =>
    walk_at "go"
    refine g_iteT ?_
    walk_at "go"
    have e : isF lo hi (.int i) = (decide (lo ≤ i) && decide (i ≤ hi)) := rfl
    rw [e] at k
    by_cases h : lo ≤ i
    · rw [decide_eq_true h, Bool.true_and] at k
      refine g_ite (fun _ => ?_) (fun z => absurd h z)
      walk_at "go"
      exact k
    · rw [decide_eq_false h, Bool.false_and] at k
      refine g_ite (fun z => absurd z h) (fun _ => ?_)
      exact k
  | _ =>
    walk_at "go"
    exact k
theorem ok_is_from {f : Addr} {fd : FuncData} (F : Fun K "is_from" "is_from" s_is_from f fd) (T : Txt K mg A) (c_is_integer : Cal P w K mg base "is_integer" 1 ["value"] (sp_is_integer K A)) : FnOk P w K mg base CX0 (2) f fd ["value", "least", "most"] (sp_is_from K A) := by
  refine F.ok sc_is_from (fun vs H Q E h => ?_) (fun cdv Ar outer s H vs Q E hr h => ⟨t_is_from K A, ?_, ?_⟩)
  · obtain ⟨x0, x1, x2, rfl, _⟩ := h
    rfl
  · have hu := hu_of hr
    exact (pss_one (ps_ret (pe_and (pe_cl c_is_integer (hr.mono (by first | decide | omega)) (by rfl) (pa_cons (pv 0) pa_nil)) (pe_one (pe_chain c_le c_le (pv 1) (pv 0) (pv 2))))))
  · obtain ⟨x0, x1, x2, rfl, h⟩ := h
    exact pu_is_from T h
theorem isF_imp {lo hi : Int} {H : Hp} {v : V} {d : PyData} (h : Da H v d) (q : isF lo hi d = true) : ∃ i, v = .int i ∧ d = .int i ∧ lo ≤ i ∧ i ≤ hi := by
  obtain ⟨i, rfl, h1, h2⟩ := isF_int q
  exact ⟨i, h.int1, rfl, h1, h2⟩
/-- all([is_from(x, lo, hi) for x in xs]) as booleans -/
theorem all_snoc {α : Type} {f : α → Bool} {l : List α} {i : Nat} {x : α} (h : l[i]? = some x) : (l.take (i + 1)).map f = (l.take i).map f ++ [f x] := by rw [take_more h, List.map_append]; rfl
theorem all_id {α : Type} (f : α → Bool) (l : List α) : (l.map f).all id = l.all f := by rw [List.all_map]; rfl
def P_are_prices (K : PySem.W.Frag) (A : Ad) (x0 x1 x2 : V) (H : Hp) (Q : VK) : Prop := ∃ (d : PyData) (k n : Int), Da H x0 d ∧ x1 = .int k ∧ x2 = .int n ∧ ∀ H', Fr [] H H' → Q (.bl (pricesOk k n d)) H'
def sp_are_prices (K : PySem.W.Frag) (A : Ad) : Sp := fun vs H Q _ => ∃ x0 x1 x2, vs = [x0, x1, x2] ∧ P_are_prices K A x0 x1 x2 H Q
theorem c_are_prices {K : PySem.W.Frag} {A : Ad} {x0 x1 x2 : V} {H : Hp} {Q : VK} {E : XK} (h : P_are_prices K A x0 x1 x2 H Q) : sp_are_prices K A [x0, x1, x2] H Q E := ⟨_, _, _, rfl, h⟩
theorem sc_are_prices : FnScope ["prices", "kinds", "nights", "row", "price"] ["prices", "kinds", "nights"] (defScope s_are_prices) := ⟨rfl, rfl, rfl, by decide +kernel, rfl, by decide +kernel, by decide +kernel⟩
def t_are_prices (K : PySem.W.Frag) (A : Ad) : TS :=
  (tSeq (tIfS (tOr (tNot (tB (tCB (rIsi K) (tCons (tVar 0) (tCons (tC (.ty "tuple")) tNil))))) (tTest (tOp rNe (tCB (rLenSq K) (tCons (tVar 0) tNil)) (tVar 1)))) (tRet (tC (.bl false))) tNext)
    (tSeq (tFor (iTup K (tVar 0)) (gName 3) (tSeq (tIfS (tOr (tNot (tB (tCB (rIsi K) (tCons (tVar 3) (tCons (tC (.ty "tuple")) tNil))))) (tTest (tOp rNe (tCB (rLenSq K) (tCons (tVar 3) tNil)) (tVar 2)))) (tRet (tC (.bl false))) tNext)
    (tIfS (tNot (tB (tCB (rAll K) (tCons (tLc (iTup K (tVar 3)) (gName 4) tYes (tCl (sp_is_from K A) (tCons (tVar 4) (tCons (tC (.int 0)) (tCons (tC (.int 1000000)) tNil)))) [4]) tNil)))) (tRet (tC (.bl false))) tNext)))
    (tRet (tC (.bl true)))))
theorem pu_are_prices (T : Txt K mg A) {x0 x1 x2 : V} {H : Hp} {Q : VK} (h : P_are_prices K A x0 x1 x2 H Q) : t_are_prices K A { nx := fun _ H' => Q .non H', rt := Q } [some x0, some x1, some x2, none, none] H := by
  obtain ⟨d, kk, n, dd, rfl, rfl, k⟩ := h
  unfold t_are_prices
  walk_at "go"
  refine g_isTup dd ?_
  have no : isTupD d = false → Q (.bl false) H := fun h => by
    have := k H Fr.refl
    cases d with
    | tuple _ => cases h
    | _ => exact this
  walk_at "go"
  refine g_iteNB (fun h => ?_) (fun h => ?_)
  · walk_at "go"
    exact no h
  · cases d with
    | tuple ps =>
      obtain ⟨a, xs, rfl, ea, hz, dx⟩ := dd.tup1
      have hxl : xs.length = ps.length := dx.len
      walk_at "go"
      rw [hxl]
      refine g_iteN (fun hn => ?_) (fun hn => ?_)
      · walk_at "go"
        have := k H Fr.refl
        rw [show pricesOk kk n (.tuple ps) = false from by show (decide _ && _) = _; rw [decide_eq_false hn, Bool.false_and]] at this
        exact this
      · walk_at "go"
        refine f_tup (xs := xs) (fun i σ H' => (∃ v3 v4, σ = [some (.ref a), some (.int kk), some (.int n), v3, v4]) ∧ Fr [] H H' ∧ (ps.take i).all (rowOk n) = true) ⟨⟨_, _, rfl⟩, Fr.refl, by simp⟩ (fun i σ H' _ ⟨_, f, _⟩ => SqT.of (f.tup _ _ ea)) ?_ ?_
        · rintro i x σ H1 hx ⟨⟨v3, v4, rfl⟩, f1, hall⟩
          obtain ⟨e, he, de⟩ := (DaL.fr0 f1 _ _ dx).get hx
          have bad : rowOk n e = false → Q (.bl false) H1 := fun hb => by
            have := k H1 f1
            have hf : ps.all (rowOk n) = false := List.all_eq_false.mpr ⟨e, List.mem_of_getElem? he, by rw [hb]; decide⟩
            rw [show pricesOk kk n (.tuple ps) = false from by show (decide _ && _) = _; rw [hf, Bool.and_false]] at this
            exact this
          walk_at "go"
          refine g_isTup de ?_
          walk_at "go"
          refine g_iteNB (fun h => ?_) (fun h => ?_)
          · walk_at "go"
            refine bad ?_
            cases e with
            | tuple _ => cases h
            | _ => rfl
          · cases e with
            | tuple r =>
              obtain ⟨b, ys, rfl, eb, hz2, dy⟩ := de.tup1
              have hyl : ys.length = r.length := dy.len
              walk_at "go"
              rw [hyl]
              refine g_iteN (fun hn2 => ?_) (fun hn2 => ?_)
              · walk_at "go"
                exact bad (by show (decide _ && _) = _; rw [decide_eq_false hn2, Bool.false_and])
              · walk_at "go"
                refine l_tup (xs := ys) fun Dl H2 nD f2 e2 => ⟨fun j acc H' => acc = ((r.take j).map (isF 0 1000000)).map V.bl ∧ Fr [] H1 H', ⟨rfl, f2⟩, fun j acc H' q => SqT.of (q.2.tup _ _ eb), fun j y acc H' hy ha ⟨ea', f⟩ => ?_, fun acc H' ha ⟨ea', f⟩ => ?_⟩
                · obtain ⟨e', he', de'⟩ := (DaL.fr0 f _ _ dy).get hy
                  walk_at "go"
                  refine ⟨rfl, ?_⟩
                  walk_at "go"
                  refine c_is_from ⟨e', 0, 1000000, de', rfl, rfl, ?_⟩
                  have hal : acc.length ≤ 1000000 := by
                    have := (List.getElem?_eq_some_iff.mp hy).1
                    rw [ea', List.length_map, List.length_map, List.length_take]; omega
                  refine lcY_of ha (szM hal) fun H3 f3 e3 => ⟨?_, f.own1 f3 nD⟩
                  rw [ea', all_snoc he', List.map_append]; rfl
                · rw [hyl, List.take_length] at ea'
                  walk_at "go"
                  rw [ea'] at ha
                  refine g_all (SqL.of ha) ?_
                  rw [all_id]
                  walk_at "go"
                  refine g_iteNB (fun h => ?_) (fun h => ?_)
                  · walk_at "go"
                    have := k H' (f1.then0 f)
                    have hf : ps.all (rowOk n) = false := List.all_eq_false.mpr ⟨.tuple r, List.mem_of_getElem? he, by show ¬ (decide _ && _) = _; rw [h, Bool.and_false]; decide⟩
                    rw [show pricesOk kk n (.tuple ps) = false from by show (decide _ && _) = _; rw [hf, Bool.and_false]] at this
                    exact this
                  · refine ⟨⟨_, _, rfl⟩, f1.then0 f, ?_⟩
                    rw [take_more he, List.all_append, hall]
                    have : rowOk n (.tuple r) = true := by
                      show (decide _ && _) = _
                      rw [h, Bool.and_true]
                      exact decide_eq_true hn2
                    simp [this]
            | _ => cases h
        · rintro σ H1 ⟨⟨v3, v4, rfl⟩, f1, hall⟩
          rw [hxl, List.take_length] at hall
          walk_at "go"
          have := k H1 f1
          rw [show pricesOk kk n (.tuple ps) = true from by show (decide _ && _) = _; rw [hall, Bool.and_true]; exact decide_eq_true hn] at this
          exact this
    | _ => cases h
theorem ok_are_prices {f : Addr} {fd : FuncData} (F : Fun K "are_prices" "are_prices" s_are_prices f fd) (T : Txt K mg A) (c_is_from : Cal P w K mg base "is_from" 2 ["value", "least", "most"] (sp_is_from K A)) : FnOk P w K mg base CX0 (3) f fd ["prices", "kinds", "nights"] (sp_are_prices K A) := by
  refine F.ok sc_are_prices (fun vs H Q E h => ?_) (fun cdv Ar outer s H vs Q E hr h => ⟨t_are_prices K A, ?_, ?_⟩)
  · obtain ⟨x0, x1, x2, rfl, _⟩ := h
    rfl
  · have hu := hu_of hr
    exact (pss_cons (ps_if (PW.pt (pw_or (pt_not (pt_val (pe_callB call_isi (by rfl) T.b_isinstance (by decide +kernel) (pa_cons (pv 0) (pa_cons (pe_bltn (by rfl) T.b_tuple (by decide +kernel) (v := .ty "tuple") rfl) pa_nil))))) (pw_or1 (pt_cmpR op_ne (pe_callB b_len (by rfl) T.b_len (by decide +kernel) (pa_cons (pv 0) pa_nil)) (pv 1) (nomark _))))) (pss_one (ps_ret pe_bl)) pss_nil)
    (pss_cons (ps_for PassesOwn.never rfl (pi_tup (pv 0)) (pg_name (i := 3) sc_are_prices.nd rfl (Or.inl rfl)) (pss_cons (ps_if (PW.pt (pw_or (pt_not (pt_val (pe_callB call_isi (by rfl) T.b_isinstance (by decide +kernel) (pa_cons (pv 3) (pa_cons (pe_bltn (by rfl) T.b_tuple (by decide +kernel) (v := .ty "tuple") rfl) pa_nil))))) (pw_or1 (pt_cmpR op_ne (pe_callB b_len (by rfl) T.b_len (by decide +kernel) (pa_cons (pv 3) pa_nil)) (pv 2) (nomark _))))) (pss_one (ps_ret pe_bl)) pss_nil)
    (pss_one (ps_if (pt_not (pt_val (pe_callB (cr_all rfl) (by rfl) T.b_all (by decide +kernel) (pa_cons (pe_lc (own := [("price", 4)]) (g := (gName 4)) (tt := tYes) rfl sc_are_prices.nd (pi_tup (pv 3)) (blkOk_by (N := ["prices", "kinds", "nights", "row", "price"]) (sc := defScope s_are_prices) (own := [("price", 4)]) (by decide +kernel)) (fun _ _ _ _ _ => (pg_name (i := 4) sc_are_prices.nd rfl (Or.inl rfl))) (fun _ _ _ _ _ => pts_nil) (fun _ _ _ _ _ => (pe_cl c_is_from (hr.mono (by first | decide | omega)) (by rfl) (pa_cons (pv 4) (pa_cons pe_int (pa_cons (pe_gint T.g_DEAREST (by rfl)) pa_nil)))))) pa_nil)))) (pss_one (ps_ret pe_bl)) pss_nil))))
    (pss_one (ps_ret pe_bl))))
  · obtain ⟨x0, x1, x2, rfl, h⟩ := h
    exact pu_are_prices T h
theorem gtup5 {H : Hp} {xs : List V} {ds : List PyData} (h : DaL H xs ds) (hl : (xs.length : Int) = 5) : ∃ a b c d e r n s p q, xs = [a, b, c, d, e] ∧ ds = [r, n, s, p, q] ∧ Da H a r ∧ Da H b n ∧ Da H c s ∧ Da H d p ∧ Da H e q := by
  cases h with
  | nil => cases hl
  | cons h1 h => cases h with
    | nil => cases hl
    | cons h2 h => cases h with
      | nil => cases hl
      | cons h3 h => cases h with
        | nil => cases hl
        | cons h4 h => cases h with
          | nil => cases hl
          | cons h5 h => cases h with
            | nil => exact ⟨_, _, _, _, _, _, _, _, _, _, rfl, rfl, h1, h2, h3, h4, h5⟩
            | cons h6 h => simp only [List.length_cons] at hl; omega
theorem isSet_len {ds : List PyData} (h : ¬ (ds.length : Int) = 5) : isSet (.tuple ds) = false := by
  match ds, h with
  | [], _ => rfl
  | [_], _ => rfl
  | [_, _], _ => rfl
  | [_, _, _], _ => rfl
  | [_, _, _, _], _ => rfl
  | [_, _, _, _, _], h => exact absurd rfl h
  | _ :: _ :: _ :: _ :: _ :: _ :: _, _ => rfl
def P_check_setup (K : PySem.W.Frag) (A : Ad) (x0 : V) (H : Hp) (Q : VK) (E : XK) : Prop := ∃ d : PyData, Da H x0 d ∧ (isSet d = true → ∀ H', Fr [] H H' → Q .non H') ∧ (isSet d = false → ∀ H', Fr [] H H' → E (.ref A.BadSetup) none H')
def sp_check_setup (K : PySem.W.Frag) (A : Ad) : Sp := fun vs H Q E => ∃ x0, vs = [x0] ∧ P_check_setup K A x0 H Q E
theorem c_check_setup {K : PySem.W.Frag} {A : Ad} {x0 : V} {H : Hp} {Q : VK} {E : XK} (h : P_check_setup K A x0 H Q E) : sp_check_setup K A [x0] H Q E := ⟨_, rfl, h⟩
theorem sc_check_setup : FnScope ["setup", "rooms", "nights", "sellers", "prices", "share", "many"] ["setup"] (defScope s_check_setup) := ⟨rfl, rfl, rfl, by decide +kernel, rfl, by decide +kernel, by decide +kernel⟩
def t_check_setup (K : PySem.W.Frag) (A : Ad) (E : XK) : TS :=
  (tSeq (tIfS (tOr (tNot (tB (tCB (rIsi K) (tCons (tVar 0) (tCons (tC (.ty "tuple")) tNil))))) (tTest (tOp rNe (tCB (rLenSq K) (tCons (tVar 0) tNil)) (tC (.int 5))))) (tRz A.BadSetup (fun cls d _ H => E cls d H)) tNext)
    (tSeq (tAsg (tVar 0) (gTup K 5 (gCons (gName 1) (gCons (gName 2) (gCons (gName 3) (gCons (gName 4) (gCons (gName 5) gNil)))))))
    (tSeq (tIfS (tOr (tNot (tB (tCB (rIsi K) (tCons (tVar 1) (tCons (tC (.ty "tuple")) tNil))))) (tNot (tChainT cLe cLe (tC (.int 1)) (tCB (rLenSq K) (tCons (tVar 1) tNil)) (tC (.int 3))))) (tRz A.BadSetup (fun cls d _ H => E cls d H)) tNext)
    (tSeq (tIfS (tNot (tB (tCB (rAll K) (tCons (tLc (iTup K (tVar 1)) (gName 6) tYes (tCl (sp_is_from K A) (tCons (tVar 6) (tCons (tC (.int 0)) (tCons (tC (.int 4)) tNil)))) [6]) tNil)))) (tRz A.BadSetup (fun cls d _ H => E cls d H)) tNext)
    (tSeq (tIfS (tOr (tNot (tB (tCl (sp_is_from K A) (tCons (tVar 2) (tCons (tC (.int 1)) (tCons (tC (.int 12)) tNil)))))) (tNot (tB (tCl (sp_is_from K A) (tCons (tVar 3) (tCons (tC (.int 1)) (tCons (tC (.int 4)) tNil))))))) (tRz A.BadSetup (fun cls d _ H => E cls d H)) tNext)
    (tIfS (tOr (tNot (tB (tCl (sp_are_prices K A) (tCons (tVar 4) (tCons (tCB (rLenSq K) (tCons (tVar 1) tNil)) (tCons (tVar 2) tNil)))))) (tNot (tB (tCl (sp_is_from K A) (tCons (tVar 5) (tCons (tC (.int 0)) (tCons (tC (.int 100)) tNil))))))) (tRz A.BadSetup (fun cls d _ H => E cls d H)) tNext))))))
theorem pu_check_setup (T : Txt K mg A) {x0 : V} {H : Hp} {Q : VK} {E : XK} (h : P_check_setup K A x0 H Q E) : t_check_setup K A E { nx := fun _ H' => Q .non H', rt := Q } [some x0, none, none, none, none, none, none] H := by
  obtain ⟨d, dd, kq, ke⟩ := h
  unfold t_check_setup
  walk_at "go"
  refine g_isTup dd ?_
  walk_at "go"
  refine g_iteNB (fun h => ?_) (fun h => ?_)
  · walk_at "go"
    refine ke ?_ H Fr.refl
    cases d with
    | tuple _ => cases h
    | _ => rfl
  cases d with
  | tuple ds =>
    obtain ⟨a, xs, rfl, ea, hz, dx⟩ := dd.tup1
    have hxl : xs.length = ds.length := dx.len
    walk_at "go"
    refine g_iteN (fun hn => ?_) (fun hn => ?_)
    · walk_at "go"
      exact ke (isSet_len (by rw [← hxl]; exact hn)) H Fr.refl
    obtain ⟨v1, v2, v3, v4, v5, r, n, s, p, q, rfl, rfl, d1, d2, d3, d4, d5⟩ := gtup5 dx hn
    have is : isSet (.tuple [r, n, s, p, q]) = (roomsOk r && (isF 1 12 n && isF 1 4 s) && (pricesOk (lenOf r) (intOf n) p && isF 0 100 q)) := rfl
    rw [is] at kq ke
    walk_at "go"
    refine g_isTup d1 ?_
    walk_at "go"
    have noR : roomsOk r = false → ∀ H', Fr [] H H' → E (.ref A.BadSetup) none H' := fun hh => ke (by rw [hh]; rfl)
    refine g_iteNB (fun h1 => ?_) (fun h1 => ?_)
    · walk_at "go"
      refine noR ?_ H Fr.refl
      cases r with
      | tuple _ => cases h1
      | _ => rfl
    cases r with
    | tuple rs =>
      obtain ⟨b, ys, rfl, eb, hz2, dy⟩ := d1.tup1
      have hyl : ys.length = rs.length := dy.len
      have rO : roomsOk (.tuple rs) = (decide (1 ≤ (rs.length : Int)) && decide ((rs.length : Int) ≤ 3) && rs.all (isF 0 4)) := rfl
      walk_at "go"
      rw [hyl]
      refine g_ite (fun c1 => ?_) (fun c1 => ?_)
      · walk_at "go"
        refine g_iteN (fun c2 => ?_) (fun c2 => ?_)
        · walk_at "go"
          exact noR (by rw [rO, decide_eq_false c2, Bool.and_false, Bool.false_and]) H Fr.refl
        · walk_at "go"
          refine l_tup (xs := ys) fun Dl H2 nD f2 e2 => ⟨fun j acc H' => acc = ((rs.take j).map (isF 0 4)).map V.bl ∧ Fr [] H H', ⟨rfl, f2⟩, fun j acc H' q => SqT.of (q.2.tup _ _ eb), fun j y acc H' hy ha ⟨ea', f⟩ => ?_, fun acc H1 ha ⟨ea', f⟩ => ?_⟩
          · obtain ⟨e', he', de'⟩ := (DaL.fr0 f _ _ dy).get hy
            walk_at "go"
            refine ⟨rfl, ?_⟩
            walk_at "go"
            refine c_is_from ⟨e', 0, 4, de', rfl, rfl, ?_⟩
            have hal : acc.length ≤ 1000000 := by
              have := (List.getElem?_eq_some_iff.mp hy).1
              rw [ea', List.length_map, List.length_map, List.length_take]; omega
            refine lcY_of ha (szM hal) fun H3 f3 e3 => ⟨?_, f.own1 f3 nD⟩
            rw [ea', all_snoc he', List.map_append]; rfl
          · rw [hyl, List.take_length] at ea'
            walk_at "go"
            rw [ea'] at ha
            refine g_all (SqL.of ha) ?_
            rw [all_id]
            walk_at "go"
            refine g_iteNB (fun c3 => ?_) (fun c3 => ?_)
            · walk_at "go"
              exact noR (by rw [rO, c3, Bool.and_false]) H1 f
            have hr : roomsOk (.tuple rs) = true := by rw [rO, c3, decide_eq_true c1, decide_eq_true c2]; rfl
            rw [hr, Bool.true_and] at kq ke
            have eb1 := f.tup _ _ eb
            have d21 := Da.fr0 f _ _ d2
            have d31 := Da.fr0 f _ _ d3
            have d41 := Da.fr0 f _ _ d4
            have d51 := Da.fr0 f _ _ d5
            clear e2 f2 nD ha d1 d2 d3 d4 d5 dx ea ea' dd is
            walk_at "go"
            refine c_is_from ⟨n, 1, 12, d21, rfl, rfl, ?_⟩
            walk_at "go"
            refine g_iteNB (fun c4 => ?_) (fun c4 => ?_)
            · walk_at "go"
              exact ke (by rw [c4]; rfl) H1 f
            walk_at "go"
            refine c_is_from ⟨s, 1, 4, d31, rfl, rfl, ?_⟩
            walk_at "go"
            refine g_iteNB (fun c5 => ?_) (fun c5 => ?_)
            · walk_at "go"
              exact ke (by rw [c5, Bool.and_false]; rfl) H1 f
            obtain ⟨nn, rfl, rfl, _, _⟩ := isF_imp d21 c4
            rw [c4, c5, Bool.true_and, Bool.true_and] at kq ke
            walk_at "go"
            rw [hyl]
            refine c_are_prices ⟨p, rs.length, nn, d41, rfl, rfl, fun H2 f2 => ?_⟩
            have hpo : pricesOk (lenOf (.tuple rs)) (intOf (.int nn)) p = pricesOk rs.length nn p := rfl
            rw [hpo] at kq ke
            have d52 := Da.fr0 f2 _ _ d51
            walk_at "go"
            refine g_iteNB (fun c6 => ?_) (fun c6 => ?_)
            · walk_at "go"
              exact ke (by rw [c6]; rfl) H2 (f.then0 f2)
            walk_at "go"
            refine c_is_from ⟨q, 0, 100, d52, rfl, rfl, ?_⟩
            walk_at "go"
            refine g_iteNB (fun c7 => ?_) (fun c7 => ?_)
            · walk_at "go"
              exact ke (by rw [c7, Bool.and_false]) H2 (f.then0 f2)
            walk_at "go"
            exact kq (by rw [c6, c7]; rfl) H2 (f.then0 f2)
      · walk_at "go"
        exact noR (by rw [rO, decide_eq_false c1, Bool.false_and, Bool.false_and]) H Fr.refl
    | _ => cases h1
  | _ => cases h
theorem ok_check_setup {f : Addr} {fd : FuncData} (F : Fun K "check_setup" "check_setup" s_check_setup f fd) (T : Txt K mg A) (c_is_from : Cal P w K mg base "is_from" 2 ["value", "least", "most"] (sp_is_from K A)) (c_are_prices : Cal P w K mg base "are_prices" 3 ["prices", "kinds", "nights"] (sp_are_prices K A)) : FnOk P w K mg base (L2.CX P w) (4) f fd ["setup"] (sp_check_setup K A) := by
  refine F.okX sc_check_setup (fun vs H Q E h => ?_) (fun cdv Ar outer s H vs Q E hr h => ⟨t_check_setup K A E, ?_, ?_⟩)
  · obtain ⟨x0, rfl, _⟩ := h
    rfl
  · have hu := hu_of hr
    exact (pss_cons (ps_if (PW.pt (pw_or (pt_not (pt_val (pe_callB call_isi (by rfl) T.b_isinstance (by decide +kernel) (pa_cons (pv 0) (pa_cons (pe_bltn (by rfl) T.b_tuple (by decide +kernel) (v := .ty "tuple") rfl) pa_nil))))) (pw_or1 (pt_cmpR op_ne (pe_callB b_len (by rfl) T.b_len (by decide +kernel) (pa_cons (pv 0) pa_nil)) pe_int (nomark _))))) (pss_one (ps_rz rfl (takes_of rfl rfl rfl rfl) T.x_BadSetup (by rfl))) pss_nil)
    (pss_cons (ps_asg (pv 0) (pg_tup rfl (pgs_cons (pg_name (i := 1) sc_check_setup.nd rfl (Or.inl rfl)) (pgs_cons (pg_name (i := 2) sc_check_setup.nd rfl (Or.inl rfl)) (pgs_cons (pg_name (i := 3) sc_check_setup.nd rfl (Or.inl rfl)) (pgs_cons (pg_name (i := 4) sc_check_setup.nd rfl (Or.inl rfl)) (pgs_cons (pg_name (i := 5) sc_check_setup.nd rfl (Or.inl rfl)) pgs_nil)))))))
    (pss_cons (ps_if (PW.pt (pw_or (pt_not (pt_val (pe_callB call_isi (by rfl) T.b_isinstance (by decide +kernel) (pa_cons (pv 1) (pa_cons (pe_bltn (by rfl) T.b_tuple (by decide +kernel) (v := .ty "tuple") rfl) pa_nil))))) (pw_or1 (pt_not (pt_chain c_le c_le pe_int (pe_callB b_len (by rfl) T.b_len (by decide +kernel) (pa_cons (pv 1) pa_nil)) (pe_gint T.g_KINDS (by rfl))))))) (pss_one (ps_rz rfl (takes_of rfl rfl rfl rfl) T.x_BadSetup (by rfl))) pss_nil)
    (pss_cons (ps_if (pt_not (pt_val (pe_callB (cr_all rfl) (by rfl) T.b_all (by decide +kernel) (pa_cons (pe_lc (own := [("many", 6)]) (g := (gName 6)) (tt := tYes) rfl sc_check_setup.nd (pi_tup (pv 1)) (blkOk_by (N := ["setup", "rooms", "nights", "sellers", "prices", "share", "many"]) (sc := defScope s_check_setup) (own := [("many", 6)]) (by decide +kernel)) (fun _ _ _ _ _ => (pg_name (i := 6) sc_check_setup.nd rfl (Or.inl rfl))) (fun _ _ _ _ _ => pts_nil) (fun _ _ _ _ _ => (pe_cl c_is_from (hr.mono (by first | decide | omega)) (by rfl) (pa_cons (pv 6) (pa_cons pe_int (pa_cons (pe_gint T.g_ROOMS (by rfl)) pa_nil)))))) pa_nil)))) (pss_one (ps_rz rfl (takes_of rfl rfl rfl rfl) T.x_BadSetup (by rfl))) pss_nil)
    (pss_cons (ps_if (PW.pt (pw_or (pt_not (pt_val (pe_cl c_is_from (hr.mono (by first | decide | omega)) (by rfl) (pa_cons (pv 2) (pa_cons pe_int (pa_cons (pe_gint T.g_NIGHTS (by rfl)) pa_nil)))))) (pw_or1 (pt_not (pt_val (pe_cl c_is_from (hr.mono (by first | decide | omega)) (by rfl) (pa_cons (pv 3) (pa_cons pe_int (pa_cons (pe_gint T.g_SELLERS (by rfl)) pa_nil))))))))) (pss_one (ps_rz rfl (takes_of rfl rfl rfl rfl) T.x_BadSetup (by rfl))) pss_nil)
    (pss_one (ps_if (PW.pt (pw_or (pt_not (pt_val (pe_cl c_are_prices (hr.mono (by first | decide | omega)) (by rfl) (pa_cons (pv 4) (pa_cons (pe_callB b_len (by rfl) T.b_len (by decide +kernel) (pa_cons (pv 1) pa_nil)) (pa_cons (pv 2) pa_nil)))))) (pw_or1 (pt_not (pt_val (pe_cl c_is_from (hr.mono (by first | decide | omega)) (by rfl) (pa_cons (pv 5) (pa_cons pe_int (pa_cons pe_int pa_nil))))))))) (pss_one (ps_rz rfl (takes_of rfl rfl rfl rfl) T.x_BadSetup (by rfl))) pss_nil)))))))
  · obtain ⟨x0, rfl, h⟩ := h
    exact pu_check_setup T h

theorem lt_row {r : List Int} {n : Nat} (h : ∀ z ∈ r, 0 ≤ z ∧ z ≤ 1000000) (hn : r.length ≤ n) : Lt (n * 42) 1 (rowD r) :=
  Lt.tup (xs := r.map .int) (fun x hx => by obtain ⟨z, hz, rfl⟩ := List.mem_map.mp hx; have := h z hz; exact Lt.int (by omega)) (by rw [List.length_map]; exact hn)
def P_Lbad (K : PySem.W.Frag) (A : Ad) (x0 x1 x2 : V) (H : Hp) (Q : VK) : Prop := ∃ (d l : Addr) (lo hi : Int), x0 = .ref d ∧ Draws H d l ∧ x1 = .int lo ∧ x2 = .int hi ∧ 0 ≤ lo ∧ lo ≤ 1 ∧ 0 ≤ hi ∧ hi ≤ 1000000 ∧
  ∀ (v : V) (e : PyData) (H' : Hp), Da H' v e → isF lo hi e = false → Lt 41 0 e → imm e = true → Fr [d] H H' → Draws H' d l → Q v H'
def sp_Lbad (K : PySem.W.Frag) (A : Ad) : Sp := fun vs H Q _ => ∃ x0 x1 x2, vs = [x0, x1, x2] ∧ P_Lbad K A x0 x1 x2 H Q
theorem c_Lbad {K : PySem.W.Frag} {A : Ad} {x0 x1 x2 : V} {H : Hp} {Q : VK} {E : XK} (h : P_Lbad K A x0 x1 x2 H Q) : sp_Lbad K A [x0, x1, x2] H Q E := ⟨_, _, _, rfl, h⟩
theorem sc_Lbad : FnScope ["_law_draws", "_law_low", "_law_high"] ["_law_draws", "_law_low", "_law_high"] (defScope s_Lbad) := ⟨rfl, rfl, rfl, by decide +kernel, rfl, by decide +kernel, by decide +kernel⟩
def t_Lbad (K : PySem.W.Frag) (A : Ad) : TS :=
  (tRet (tOp (rIxL K) (tLst (tCons (tOp oSub (tVar 1) (tC (.int 1))) (tCons (tOp oAdd (tVar 2) (tC (.int 1))) (tCons (tC (.bl true)) (tCons (tC .non) (tCons (tC (.str "1")) (tCons (tOp oAdd (tOp oPow (tC (.int 10)) (tC (.int 9))) (tVar 2)) tNil))))))) (tOp oMod (tCl (sp_Ldraw K A) (tCons (tVar 0) tNil)) (tC (.int 6)))))
theorem pu_Lbad (T : Txt K mg A) {x0 x1 x2 : V} {H : Hp} {Q : VK} (h : P_Lbad K A x0 x1 x2 H Q) : t_Lbad K A { nx := fun _ H' => Q .non H', rt := Q } [some x0, some x1, some x2] H := by
  obtain ⟨d, l, lo, hi, rfl, D0, rfl, rfl, h0, h1, h2, h3, k⟩ := h
  unfold t_Lbad
  walk_at "go"
  rename_i p H1 n1 f1 e1 y H2 y0 y1 f2 D2
  have D1 := D0.fr f1 nin0 nin0
  have e2 := f2.at e1 (nin1 (fun q => D0.new1 n1 q.symm) nin0)
  have F : Fr [d] H H2 := f2.pre0' f1
  have hy : y % 6 = 0 ∨ y % 6 = 1 ∨ y % 6 = 2 ∨ y % 6 = 3 ∨ y % 6 = 4 ∨ y % 6 = 5 := by omega
  have one : ∀ i : Int, Lt 41 0 (.int i) ↔ Lt 41 0 (.int i) := fun _ => Iff.rfl
  rcases hy with hy | hy | hy | hy | hy | hy
  · refine g_ixL (SqL.of e2) (v := .int (lo - 1)) (by rw [hy]; rfl) ?_
    exact k _ _ H2 (.int _) (by show (decide _ && decide _) = false; rw [decide_eq_false (by omega)]; rfl) (Lt.int (by omega)) rfl F D2
  · refine g_ixL (SqL.of e2) (v := .int (hi + 1)) (by rw [hy]; rfl) ?_
    exact k _ _ H2 (.int _) (by show (decide _ && decide _) = false; rw [decide_eq_false (show ¬ hi + 1 ≤ hi by omega), Bool.and_false]) (Lt.int (by omega)) rfl F D2
  · refine g_ixL (SqL.of e2) (v := .bl true) (by rw [hy]; rfl) ?_
    exact k _ _ H2 (.bl _) rfl ⟨rfl, Nat.zero_le _, by simp [PyData.depth]⟩ rfl F D2
  · refine g_ixL (SqL.of e2) (v := .non) (by rw [hy]; rfl) ?_
    exact k _ _ H2 .non rfl ⟨rfl, Nat.zero_le _, by simp [PyData.depth]⟩ rfl F D2
  · refine g_ixL (SqL.of e2) (v := .str "1") (by rw [hy]; rfl) ?_
    exact k _ _ H2 (.str _) rfl ⟨by decide +kernel, by decide +kernel, by simp [PyData.depth]⟩ rfl F D2
  · refine g_ixL (SqL.of e2) (v := .int (10 ^ (9 : Int).toNat + hi)) (by rw [hy]; rfl) ?_
    have e9 : (10 : Int) ^ (9 : Int).toNat = 1000000000 := by decide
    rw [e9]
    exact k _ _ H2 (.int _) (by show (decide _ && decide _) = false; rw [decide_eq_false (show ¬ 1000000000 + hi ≤ hi by omega), Bool.and_false]) (Lt.int (by omega)) rfl F D2
theorem ok_Lbad {f : Addr} {fd : FuncData} (F : Fun K "_law_bad" "_law_bad" s_Lbad f fd) (T : Txt K mg A) (c_Ldraw : Cal P w K mg base "_law_draw" 2 ["_law_draws"] (sp_Ldraw K A)) : FnOk P w K mg base CX0 (3) f fd ["_law_draws", "_law_low", "_law_high"] (sp_Lbad K A) := by
  refine F.ok sc_Lbad (fun vs H Q E h => ?_) (fun cdv Ar outer s H vs Q E hr h => ⟨t_Lbad K A, ?_, ?_⟩)
  · obtain ⟨x0, x1, x2, rfl, _⟩ := h
    rfl
  · have hu := hu_of hr
    exact (pss_one (ps_ret (pe_ix ix_list (pe_lst (pa_cons (pe_op o_sub (pv 1) pe_int) (pa_cons (pe_op o_add (pv 2) pe_int) (pa_cons pe_bl (pa_cons pe_non (pa_cons pe_str (pa_cons (pe_op o_add (pe_op o_pow pe_int pe_int) (pv 2)) pa_nil))))))) (pe_op o_mod (pe_cl c_Ldraw (hr.mono (by first | decide | omega)) (by rfl) (pa_cons (pv 0) pa_nil)) pe_int) (fun _ _ => rfl))))
  · obtain ⟨x0, x1, x2, rfl, h⟩ := h
    exact pu_Lbad T h
section
variable {K : PySem.W.Frag} {H : Hp} {Q : VK} {a : Addr} {xs : List V}
theorem g_slTake {n : Nat} (h : H a = some (.tup xs)) (hn : n < xs.length) (q : ∀ l H', Fr [] H H' → H' l = some (.tup (xs.take n)) → Q (.ref l) H') : rSlT K (.ref a) none (some (n : Int)) H Q := by
  refine g_slT (SqT.of h) (fun z => ?_) fun l H' _ f e => q l H' f ?_
  · have z2 := z.2
    rw [HT.sIx_nat, Nat.min_eq_left (Nat.le_of_lt hn)] at z2
    omega
  · rw [cut_take (Nat.le_of_lt hn)] at e; exact e
theorem cut_drop {xs : List V} {n : Nat} (h : n ≤ xs.length) : cutV xs (some (n : Int)) none = xs.drop n := by
  unfold cutV
  rw [HT.sIx_none, HT.sIx_nat, Nat.min_eq_left h]
  exact List.take_of_length_le (by rw [List.length_drop]; omega)
theorem g_slDrop {n : Nat} {z : Int} (hz : z = (n : Int)) (h : H a = some (.tup xs)) (h1 : 1 ≤ n) (hn : n ≤ xs.length) (q : ∀ l H', Fr [] H H' → H' l = some (.tup (xs.drop n)) → Q (.ref l) H') : rSlT K (.ref a) (some z) none H Q := by
  subst hz
  refine g_slT (SqT.of h) (fun z => ?_) fun l H' _ f e => q l H' f ?_
  · have z1 := z.1
    rw [HT.sIx_nat, Nat.min_eq_left hn] at z1
    omega
  · rw [cut_drop hn] at e; exact e
end
theorem DaL.drop {H : Hp} : ∀ {xs : List V} {ds : List PyData} (n : Nat), DaL H xs ds → DaL H (xs.drop n) (ds.drop n)
  | _, _, 0, h => h
  | _, _, n + 1, .nil => .nil
  | _, _, n + 1, .cons _ t => DaL.drop n t
section
variable {r n s p h : PyData}
theorem isSet5 : isSet (.tuple [r, n, s, p, h]) = (roomsOk r && (isF 1 12 n && isF 1 4 s) && (pricesOk (lenOf r) (intOf n) p && isF 0 100 h)) := rfl
theorem set_r (z : roomsOk r = false) : isSet (.tuple [r, n, s, p, h]) = false := by rw [isSet5, z]; rfl
theorem set_n (z : isF 1 12 n = false) : isSet (.tuple [r, n, s, p, h]) = false := by rw [isSet5, z, Bool.false_and, Bool.and_false]; rfl
theorem set_s (z : isF 1 4 s = false) : isSet (.tuple [r, n, s, p, h]) = false := by rw [isSet5, z, Bool.and_false, Bool.and_false]; rfl
theorem set_p (z : pricesOk (lenOf r) (intOf n) p = false) : isSet (.tuple [r, n, s, p, h]) = false := by rw [isSet5, z, Bool.false_and, Bool.and_false]
theorem set_h (z : isF 0 100 h = false) : isSet (.tuple [r, n, s, p, h]) = false := by rw [isSet5, z, Bool.and_false, Bool.and_false]
theorem lt5 {w k : Nat} (a : Lt w k r) (b : Lt w k n) (c : Lt w k s) (d : Lt w k p) (e : Lt w k h) : Lt (5 * (w + 1)) (k + 1) (.tuple [r, n, s, p, h]) := Lt.tup (fun x hx => by
  have hx' : x = r ∨ x = n ∨ x = s ∨ x = p ∨ x = h := by simpa using hx
  rcases hx' with z | z | z | z | z
  · rw [z]; exact a
  · rw [z]; exact b
  · rw [z]; exact c
  · rw [z]; exact d
  · rw [z]; exact e) (Nat.le_refl _)
theorem da5 {H : Hp} {t : Addr} {v1 v2 v3 v4 v5 : V} (et : H t = some (.tup [v1, v2, v3, v4, v5])) (a : Da H v1 r) (b : Da H v2 n) (c : Da H v3 s) (d : Da H v4 p) (e : Da H v5 h) : Da H (.ref t) (.tuple [r, n, s, p, h]) :=
  .tup et (Nat.le_of_ble_eq_true rfl) (.cons a (.cons b (.cons c (.cons d (.one' e)))))
end
theorem prices_bad {k n : Int} {ps : List PyData} {e : PyData} (h : e ∈ ps) (b : rowOk n e = false) : pricesOk k n (.tuple ps) = false := by
  have : ps.all (rowOk n) = false := List.all_eq_false.mpr ⟨e, h, by rw [b]; decide⟩
  show (decide _ && _) = false
  rw [this, Bool.and_false]
theorem prices_len {k n : Int} {ps : List PyData} (h : ¬ (ps.length : Int) = k) : pricesOk k n (.tuple ps) = false := by
  show (decide _ && _) = false
  rw [decide_eq_false h, Bool.false_and]
theorem row_bad {n : Int} {r : List PyData} {e : PyData} (h : e ∈ r) (b : isF 0 1000000 e = false) : rowOk n (.tuple r) = false := by
  have : r.all (isF 0 1000000) = false := List.all_eq_false.mpr ⟨e, h, by rw [b]; decide⟩
  show (decide _ && _) = false
  rw [this, Bool.and_false]
theorem row_len {n : Int} {r : List PyData} (h : ¬ (r.length : Int) = n) : rowOk n (.tuple r) = false := by
  show (decide _ && _) = false
  rw [decide_eq_false h, Bool.false_and]
theorem rooms_bad {r : List PyData} {e : PyData} (h : e ∈ r) (b : isF 0 4 e = false) : roomsOk (.tuple r) = false := by
  have : r.all (isF 0 4) = false := List.all_eq_false.mpr ⟨e, h, by rw [b]; decide⟩
  show (decide _ && decide _ && _) = false
  rw [this, Bool.and_false]
/-- what is handed back -/
def SpQ (d l : Addr) (H : Hp) (Q : VK) : Prop := ∀ (v : V) (e : PyData) (H' : Hp), Da H' v e → isSet e = false → Lt 1000000 6 e → Fr [d] H H' → Draws H' d l → Q v H'

theorem new_prices {S : Setup} {at' : Nat} {e : PyData} (lr : ∀ r ∈ S.prices, Lt 600 2 (rowD r)) (hp : S.prices.length ≤ 3) (le : Lt 1000 2 e) (be : rowOk S.nights e = false) :
    Lt 20000 4 (.tuple (((S.prices.map rowD).take at' ++ [e]) ++ (S.prices.map rowD).drop (at' + 1))) ∧ ∀ k : Int, pricesOk k S.nights (.tuple (((S.prices.map rowD).take at' ++ [e]) ++ (S.prices.map rowD).drop (at' + 1))) = false := by
  refine ⟨(Lt.tup (n := 8) (w := 1000) (k := 2) (fun x hx => ?_) ?_).mono (by decide) (by decide), fun k => prices_bad (e := e) (List.mem_append_left _ (List.mem_append_right _ (List.mem_singleton.mpr rfl))) be⟩
  · rcases List.mem_append.mp hx with q | q
    · rcases List.mem_append.mp q with q | q
      · obtain ⟨z, hz, rfl⟩ := List.mem_map.mp (List.mem_of_mem_take q); exact (lr z hz).mono (by decide) (by decide)
      · rw [List.mem_singleton.mp q]; exact le
    · obtain ⟨z, hz, rfl⟩ := List.mem_map.mp (List.mem_of_mem_drop q); exact (lr z hz).mono (by decide) (by decide)
  · rw [List.length_append, List.length_append, List.length_take, List.length_drop, List.length_map]; show _ + 1 + _ ≤ _; omega
theorem DaL.rep {H : Hp} {v : V} {d : PyData} (h : Da H v d) : ∀ n : Nat, DaL H (List.replicate n v) (List.replicate n d)
  | 0 => .nil
  | n + 1 => .cons h (DaL.rep h n)
theorem flat1 {α : Type} (x : α) : ∀ n : Nat, (List.replicate n [x]).flatten = List.replicate n x
  | 0 => rfl
  | n + 1 => by rw [List.replicate_succ, List.flatten_cons, flat1 x n, List.replicate_succ]; rfl
structure SpC (H2 : Hp) (d l sp r pp ra : Addr) (at' : Nat) (S : Setup) (prs : List V) (row : List Int) : Prop where
  so : SetupOk S
  D2 : Draws H2 d l
  e02 : H2 sp = some (.tup [.ref r, .int S.nights, .int S.sellers, .ref pp, .int S.share])
  er2 : H2 r = some (.tup (S.rooms.map V.int))
  ep2 : H2 pp = some (.tup prs)
  era2 : H2 ra = some (.tup (row.map V.int))
  dps2 : DaL H2 prs (S.prices.map rowD)
  hat1 : at' < S.rooms.length
  hrm : row ∈ S.prices
abbrev spS (d sp r pp ra : Addr) (at' : Nat) (S : Setup) (z : Int) (a b c : Option V) : L2.St := [some (.ref d), some (.ref sp), some (.ref r), some (.int S.nights), some (.int S.sellers), some (.ref pp), some (.int S.share), some (.int (at' : Int)), some (.ref ra), some (.int z), a, b, c]
def P_Lspoilt (K : PySem.W.Frag) (A : Ad) (x0 x1 : V) (H : Hp) (Q : VK) : Prop := ∃ (d l : Addr) (S : Setup), x0 = .ref d ∧ Draws H d l ∧ SetupOk S ∧ Da H x1 (setupD S) ∧ SpQ d l H Q
def sp_Lspoilt (K : PySem.W.Frag) (A : Ad) : Sp := fun vs H Q _ => ∃ x0 x1, vs = [x0, x1] ∧ P_Lspoilt K A x0 x1 H Q
theorem c_Lspoilt {K : PySem.W.Frag} {A : Ad} {x0 x1 : V} {H : Hp} {Q : VK} {E : XK} (h : P_Lspoilt K A x0 x1 H Q) : sp_Lspoilt K A [x0, x1] H Q E := ⟨_, _, rfl, h⟩
theorem sc_Lspoilt : FnScope ["_law_draws", "_law_setup_here", "_law_rooms", "_law_nights", "_law_sellers", "_law_prices", "_law_share", "_law_at", "_law_row", "_law_pick", "_law_t", "_law_new", "_law_many"] ["_law_draws", "_law_setup_here"] (defScope s_Lspoilt) := ⟨rfl, rfl, rfl, by decide +kernel, rfl, by decide +kernel, by decide +kernel⟩
def t_spoil9 (K : PySem.W.Frag) (A : Ad) : TS :=
  (tIfS (tTest (tOp rEq (tOp oMod (tCl (sp_Ldraw K A) (tCons (tVar 0) tNil)) (tC (.int 2))) (tC (.int 0)))) (tSeq (tAsg (tOp (rIxL K) (tLst (tCons (tC (.int 0)) (tCons (tC (.int 13)) (tCons (tC (.int 14)) (tCons (tC (.int 365)) tNil))))) (tOp oMod (tCl (sp_Ldraw K A) (tCons (tVar 0) tNil)) (tC (.int 4)))) (gName 12))
    (tRet (tTup (tCons (tVar 2) (tCons (tVar 12) (tCons (tVar 4) (tCons (tOp (rMulA K) (tTup (tCons (tOp (rMulA K) (tTup (tCons (tC (.int 5)) tNil)) (tVar 12)) tNil)) (tCB (rLenSq K) (tCons (tVar 2) tNil))) (tCons (tVar 6) tNil)))))))) tNext)
def t_spoil8 (K : PySem.W.Frag) (A : Ad) : TS :=
  (tIfS (tTest (tOp rEq (tVar 9) (tC (.int 8)))) (tRet (tOp (rIxL K) (tLst (tCons (tSl (rSlT K) (tVar 1) tNoPart (tPart (tC (.int 4)))) (tCons (tOp (rCatA K) (tVar 1) (tTup (tCons (tC (.int 0)) tNil))) (tCons (tCB (rListOf K) (tCons (tVar 1) tNil)) (tCons (tC .non) (tCons (tC (.int 5)) (tCons (tC (.str "setup")) tNil))))))) (tOp oMod (tCl (sp_Ldraw K A) (tCons (tVar 0) tNil)) (tC (.int 6))))) tNext)
def t_spoil7 (K : PySem.W.Frag) (A : Ad) : TS :=
  (tIfS (tTest (tOp rEq (tVar 9) (tC (.int 7)))) (tRet (tOp (rIxL K) (tLst (tCons (tTup (tCons (tTup tNil) (tCons (tVar 3) (tCons (tVar 4) (tCons (tTup tNil) (tCons (tVar 6) tNil)))))) (tCons (tTup (tCons (tOp (rCatA K) (tVar 2) (tOp (rMulA K) (tTup (tCons (tC (.int 1)) tNil)) (tC (.int 3)))) (tCons (tVar 3) (tCons (tVar 4) (tCons (tOp (rCatA K) (tVar 5) (tOp (rMulA K) (tTup (tCons (tVar 8) tNil)) (tC (.int 3)))) (tCons (tVar 6) tNil)))))) (tCons (tTup (tCons (tCB (rListOf K) (tCons (tVar 2) tNil)) (tCons (tVar 3) (tCons (tVar 4) (tCons (tVar 5) (tCons (tVar 6) tNil)))))) tNil)))) (tOp oMod (tCl (sp_Ldraw K A) (tCons (tVar 0) tNil)) (tC (.int 3))))) tNext)
def t_spoil6 (K : PySem.W.Frag) (A : Ad) : TS :=
  (tIfS (tTest (tOp rEq (tVar 9) (tC (.int 6)))) (tRet (tOp (rIxL K) (tLst (tCons (tTup (tCons (tVar 2) (tCons (tVar 3) (tCons (tVar 4) (tCons (tOp (rCatA K) (tVar 5) (tTup (tCons (tVar 8) tNil))) (tCons (tVar 6) tNil)))))) (tCons (tTup (tCons (tVar 2) (tCons (tVar 3) (tCons (tVar 4) (tCons (tSl (rSlT K) (tVar 5) (tPart (tC (.int 1))) tNoPart) (tCons (tVar 6) tNil)))))) (tCons (tTup (tCons (tVar 2) (tCons (tVar 3) (tCons (tVar 4) (tCons (tCB (rListOf K) (tCons (tVar 5) tNil)) (tCons (tVar 6) tNil)))))) (tCons (tTup (tCons (tVar 2) (tCons (tVar 3) (tCons (tVar 4) (tCons (tC .non) (tCons (tVar 6) tNil)))))) tNil))))) (tOp oMod (tCl (sp_Ldraw K A) (tCons (tVar 0) tNil)) (tC (.int 4))))) tNext)
def t_spoil5 (K : PySem.W.Frag) (A : Ad) : TS :=
  (tIfS (tTest (tOp rEq (tVar 9) (tC (.int 5)))) (tSeq (tAsg (tOp (rIxL K) (tLst (tCons (tOp (rCatA K) (tVar 8) (tTup (tCons (tC (.int 1)) tNil))) (tCons (tSl (rSlT K) (tVar 8) (tPart (tC (.int 1))) tNoPart) (tCons (tCB (rListOf K) (tCons (tVar 8) tNil)) (tCons (tC .non) tNil))))) (tOp oMod (tCl (sp_Ldraw K A) (tCons (tVar 0) tNil)) (tC (.int 4)))) (gName 11))
    (tRet (tTup (tCons (tVar 2) (tCons (tVar 3) (tCons (tVar 4) (tCons (tOp (rCatA K) (tOp (rCatA K) (tSl (rSlT K) (tVar 5) tNoPart (tPart (tVar 7))) (tTup (tCons (tVar 11) tNil))) (tSl (rSlT K) (tVar 5) (tPart (tOp oAdd (tVar 7) (tC (.int 1)))) tNoPart)) (tCons (tVar 6) tNil)))))))) tNext)
def t_spoil4 (K : PySem.W.Frag) (A : Ad) : TS :=
  (tIfS (tTest (tOp rEq (tVar 9) (tC (.int 4)))) (tSeq (tAsg (tOp oMod (tCl (sp_Ldraw K A) (tCons (tVar 0) tNil)) (tVar 3)) (gName 10))
    (tSeq (tAsg (tOp (rCatA K) (tOp (rCatA K) (tSl (rSlT K) (tVar 8) tNoPart (tPart (tVar 10))) (tTup (tCons (tCl (sp_Lbad K A) (tCons (tVar 0) (tCons (tC (.int 0)) (tCons (tOp oPow (tC (.int 10)) (tC (.int 6))) tNil)))) tNil))) (tSl (rSlT K) (tVar 8) (tPart (tOp oAdd (tVar 10) (tC (.int 1)))) tNoPart)) (gName 11))
    (tRet (tTup (tCons (tVar 2) (tCons (tVar 3) (tCons (tVar 4) (tCons (tOp (rCatA K) (tOp (rCatA K) (tSl (rSlT K) (tVar 5) tNoPart (tPart (tVar 7))) (tTup (tCons (tVar 11) tNil))) (tSl (rSlT K) (tVar 5) (tPart (tOp oAdd (tVar 7) (tC (.int 1)))) tNoPart)) (tCons (tVar 6) tNil))))))))) tNext)
def t_spoil3 (K : PySem.W.Frag) (A : Ad) : TS :=
  (tIfS (tTest (tOp rEq (tVar 9) (tC (.int 3)))) (tRet (tTup (tCons (tVar 2) (tCons (tVar 3) (tCons (tVar 4) (tCons (tVar 5) (tCons (tCl (sp_Lbad K A) (tCons (tVar 0) (tCons (tC (.int 0)) (tCons (tC (.int 100)) tNil)))) tNil))))))) tNext)
def t_spoil2 (K : PySem.W.Frag) (A : Ad) : TS :=
  (tIfS (tTest (tOp rEq (tVar 9) (tC (.int 2)))) (tRet (tTup (tCons (tVar 2) (tCons (tVar 3) (tCons (tCl (sp_Lbad K A) (tCons (tVar 0) (tCons (tC (.int 1)) (tCons (tC (.int 4)) tNil)))) (tCons (tVar 5) (tCons (tVar 6) tNil))))))) tNext)
def t_spoil1 (K : PySem.W.Frag) (A : Ad) : TS :=
  (tIfS (tTest (tOp rEq (tVar 9) (tC (.int 1)))) (tRet (tTup (tCons (tVar 2) (tCons (tCl (sp_Lbad K A) (tCons (tVar 0) (tCons (tC (.int 1)) (tCons (tC (.int 12)) tNil)))) (tCons (tVar 4) (tCons (tVar 5) (tCons (tVar 6) tNil))))))) tNext)
def t_spoil0 (K : PySem.W.Frag) (A : Ad) : TS :=
  (tIfS (tTest (tOp rEq (tVar 9) (tC (.int 0)))) (tRet (tTup (tCons (tOp (rCatA K) (tOp (rCatA K) (tSl (rSlT K) (tVar 2) tNoPart (tPart (tVar 7))) (tTup (tCons (tCl (sp_Lbad K A) (tCons (tVar 0) (tCons (tC (.int 0)) (tCons (tC (.int 4)) tNil)))) tNil))) (tSl (rSlT K) (tVar 2) (tPart (tOp oAdd (tVar 7) (tC (.int 1)))) tNoPart)) (tCons (tVar 3) (tCons (tVar 4) (tCons (tVar 5) (tCons (tVar 6) tNil))))))) tNext)
def t_Lspoilt (K : PySem.W.Frag) (A : Ad) : TS :=
  (tSeq (tAsg (tVar 1) (gTup K 5 (gCons (gName 2) (gCons (gName 3) (gCons (gName 4) (gCons (gName 5) (gCons (gName 6) gNil)))))))
    (tSeq (tAsg (tOp oMod (tCl (sp_Ldraw K A) (tCons (tVar 0) tNil)) (tCB (rLenSq K) (tCons (tVar 2) tNil))) (gName 7))
    (tSeq (tAsg (tOp (rIxT K) (tVar 5) (tVar 7)) (gName 8))
    (tSeq (tAsg (tOp oMod (tCl (sp_Ldraw K A) (tCons (tVar 0) tNil)) (tC (.int 10))) (gName 9))
    (tSeq (t_spoil0 K A)
    (tSeq (t_spoil1 K A)
    (tSeq (t_spoil2 K A)
    (tSeq (t_spoil3 K A)
    (tSeq (t_spoil4 K A)
    (tSeq (t_spoil5 K A)
    (tSeq (t_spoil6 K A)
    (tSeq (t_spoil7 K A)
    (tSeq (t_spoil8 K A)
    (tSeq (t_spoil9 K A)
    (tRet (tTup (tCons (tVar 2) (tCons (tOp oAdd (tVar 3) (tC (.int 1))) (tCons (tVar 4) (tCons (tVar 5) (tCons (tVar 6) tNil)))))))))))))))))))))
theorem spoil0 (T : Txt K mg A) {H2 : Hp} {d l sp r pp ra : Addr} {at' : Nat} {S : Setup} {prs : List V} {row : List Int} {z : Int} {Q : VK} {D : Ends} (hc : SpC H2 d l sp r pp ra at' S prs row) (k2 : SpQ d l H2 Q) (hD : D.rt = Q)
    (nx : D.nx (spS d sp r pp ra at' S z none none none) H2) : t_spoil0 K A D (spS d sp r pp ra at' S z none none none) H2 := by
  obtain ⟨so, D2, e02, er2, ep2, era2, dps2, hat1, hrm⟩ := hc
  have hk1 := so.k1
  have hk3 := so.k3
  have hn1 := so.n1
  have hn2 := so.n2
  have hs1 := so.s1
  have hs2 := so.s2
  have hh1 := so.h1
  have hh2 := so.h2
  have hpl := so.pl
  have hprl : prs.length = S.prices.length := by rw [dps2.len, List.length_map]
  have ipr : immL (S.prices.map rowD) = true := immL_of fun x hx => by obtain ⟨y, _, rfl⟩ := List.mem_map.mp hx; exact imm_row y
  obtain ⟨hrl, hrz⟩ := so.pn _ hrm
  have lR : Lt 300 2 (rowD S.rooms) := (lt_row (n := 3) (fun w hw => by have := so.rm w hw; omega) hk3).mono (by decide) (by decide)
  have lRow : ∀ r ∈ S.prices, Lt 600 2 (rowD r) := fun r hr => (lt_row (n := 12) (so.pn r hr).2 (by have := (so.pn r hr).1; omega)).mono (by decide) (by decide)
  have lP : Lt 20000 4 (.tuple (S.prices.map rowD)) := (Lt.tup (n := 3) (w := 600) (k := 2) (fun x hx => by obtain ⟨w, hw, rfl⟩ := List.mem_map.mp hx; exact lRow w hw) (by rw [List.length_map]; omega)).mono (by decide) (by decide)
  have lN : Lt 20000 4 (.int S.nights) := (Lt.int (by omega)).mono (by decide) (by decide)
  have lS : Lt 20000 4 (.int S.sellers) := (Lt.int (by omega)).mono (by decide) (by decide)
  have lH : Lt 20000 4 (.int S.share) := (Lt.int (by omega)).mono (by decide) (by decide)
  have lR4 : Lt 20000 4 (rowD S.rooms) := lR.mono (by decide) (by decide)
  have fin : ∀ {e : PyData}, Lt 100005 5 e → Lt 1000000 6 e := fun h => h.mono (by decide) (by decide)
  have dR : ∀ H', Fr [d] H2 H' → Da H' (.ref r) (rowD S.rooms) := fun H' f => .tup (f.tup _ _ er2) (by rw [List.length_map]; omega) (DaL.ofInts _)
  have dP : ∀ H', Fr [d] H2 H' → Da H' (.ref pp) (.tuple (S.prices.map rowD)) := fun H' f => .tup (f.tup _ _ ep2) (by omega) (DaL.frL f dps2 ipr)
  have dRa : ∀ H', Fr [d] H2 H' → Da H' (.ref ra) (rowD row) := fun H' f => .tup (f.tup _ _ era2) (by rw [List.length_map]; omega) (DaL.ofInts _)
  have lRa := lRow row hrm
  cases hD
  unfold t_spoil0
  walk_at "go"
  refine g_ite (fun c0 => ?_) (fun c0 => nx)
  · walk_at "go"
    refine g_slTake er2 (by rw [List.length_map]; exact hat1) fun p3 H3 f3 e3 => ?_
    walk_at "go"
    refine c_Lbad ⟨d, l, 0, 4, rfl, D2.fr f3 nin0 nin0, rfl, rfl, by decide, by decide, by decide, by decide, fun v e H4 de be le ie f4 D4 => ?_⟩
    have e34 := f4.tup _ _ e3
    walk_at "go"
    rename_i p5 H5 n5 f5 e5
    refine g_catA (f5.at0 e34) e5 (Nat.le_of_lt (szM (by rw [List.length_take, List.length_map]; show _ + 1 ≤ _; omega))) fun p6 H6 f6 e6 => ?_
    have F6 : Fr [d] H2 H6 := ((f4.pre0' f3).then0 f5).then0 f6
    walk_at "go"
    have hz : ((at' : Int) + 1) = ((at' + 1 : Nat) : Int) := by omega
    refine g_slDrop (n := at' + 1) hz (F6.tup _ _ er2) (by omega) (by rw [List.length_map]; omega) fun p7 H7 f7 e7 => ?_
    refine g_catA (f7.at0 e6) e7 (Nat.le_of_lt (szM (by rw [List.length_append, List.length_take, List.length_drop, List.length_map]; show _ + 1 + _ ≤ _; omega))) fun p8 H8 f8 e8 => ?_
    have F8 : Fr [d] H2 H8 := (F6.then0 f7).then0 f8
    walk_at "go"
    rename_i p9 H9 n9 f9 e9
    have F9 : Fr [d] H2 H9 := F8.then0 f9
    have dn : DaL H9 (((S.rooms.map V.int).take at' ++ [v]) ++ (S.rooms.map V.int).drop (at' + 1)) (((S.rooms.map PyData.int).take at' ++ [e]) ++ (S.rooms.map PyData.int).drop (at' + 1)) :=
      ((DaL.take _ (DaL.ofInts _)).append (.one' (Da.frL (((f5.then0 f6).then0 f7).then0 f8 |>.then0 f9) de ie))).append (DaL.drop _ (DaL.ofInts _))
    have hl9 : ((((S.rooms.map V.int).take at' ++ [v]) ++ (S.rooms.map V.int).drop (at' + 1))).length ≤ 10 := by
      rw [List.length_append, List.length_append, List.length_take, List.length_drop, List.length_map]; show _ + 1 + _ ≤ _; omega
    have dt := da5 e9 (.tup (f9.at0 e8) (by omega) dn) (.int _) (.int _) (dP H9 F9) (.int S.share)
    have lt : Lt 20000 4 (.tuple (((S.rooms.map PyData.int).take at' ++ [e]) ++ (S.rooms.map PyData.int).drop (at' + 1))) := (Lt.tup (n := 10) (w := 41) (k := 0) (fun x hx => by
      rcases List.mem_append.mp hx with q | q
      · rcases List.mem_append.mp q with q | q
        · obtain ⟨z, hz, rfl⟩ := List.mem_map.mp (List.mem_of_mem_take q); have := so.rm z hz; exact Lt.int (by omega)
        · rw [List.mem_singleton.mp q]; exact le
      · obtain ⟨z, hz, rfl⟩ := List.mem_map.mp (List.mem_of_mem_drop q); have := so.rm z hz; exact Lt.int (by omega)) (by rw [← dn.len]; exact hl9)).mono (by decide) (by decide)
    exact k2 _ _ H9 dt (set_r (rooms_bad (e := e) (List.mem_append_left _ (List.mem_append_right _ (List.mem_singleton.mpr rfl))) be)) (fin (lt5 lt lN lS lP lH)) F9 (((((D4.fr f5 nin0 nin0).fr f6 nin0 nin0).fr f7 nin0 nin0).fr f8 nin0 nin0).fr f9 nin0 nin0)
theorem spoil1 (T : Txt K mg A) {H2 : Hp} {d l sp r pp ra : Addr} {at' : Nat} {S : Setup} {prs : List V} {row : List Int} {z : Int} {Q : VK} {D : Ends} (hc : SpC H2 d l sp r pp ra at' S prs row) (k2 : SpQ d l H2 Q) (hD : D.rt = Q)
    (nx : D.nx (spS d sp r pp ra at' S z none none none) H2) : t_spoil1 K A D (spS d sp r pp ra at' S z none none none) H2 := by
  obtain ⟨so, D2, e02, er2, ep2, era2, dps2, hat1, hrm⟩ := hc
  have hk1 := so.k1
  have hk3 := so.k3
  have hn1 := so.n1
  have hn2 := so.n2
  have hs1 := so.s1
  have hs2 := so.s2
  have hh1 := so.h1
  have hh2 := so.h2
  have hpl := so.pl
  have hprl : prs.length = S.prices.length := by rw [dps2.len, List.length_map]
  have ipr : immL (S.prices.map rowD) = true := immL_of fun x hx => by obtain ⟨y, _, rfl⟩ := List.mem_map.mp hx; exact imm_row y
  obtain ⟨hrl, hrz⟩ := so.pn _ hrm
  have lR : Lt 300 2 (rowD S.rooms) := (lt_row (n := 3) (fun w hw => by have := so.rm w hw; omega) hk3).mono (by decide) (by decide)
  have lRow : ∀ r ∈ S.prices, Lt 600 2 (rowD r) := fun r hr => (lt_row (n := 12) (so.pn r hr).2 (by have := (so.pn r hr).1; omega)).mono (by decide) (by decide)
  have lP : Lt 20000 4 (.tuple (S.prices.map rowD)) := (Lt.tup (n := 3) (w := 600) (k := 2) (fun x hx => by obtain ⟨w, hw, rfl⟩ := List.mem_map.mp hx; exact lRow w hw) (by rw [List.length_map]; omega)).mono (by decide) (by decide)
  have lN : Lt 20000 4 (.int S.nights) := (Lt.int (by omega)).mono (by decide) (by decide)
  have lS : Lt 20000 4 (.int S.sellers) := (Lt.int (by omega)).mono (by decide) (by decide)
  have lH : Lt 20000 4 (.int S.share) := (Lt.int (by omega)).mono (by decide) (by decide)
  have lR4 : Lt 20000 4 (rowD S.rooms) := lR.mono (by decide) (by decide)
  have fin : ∀ {e : PyData}, Lt 100005 5 e → Lt 1000000 6 e := fun h => h.mono (by decide) (by decide)
  have dR : ∀ H', Fr [d] H2 H' → Da H' (.ref r) (rowD S.rooms) := fun H' f => .tup (f.tup _ _ er2) (by rw [List.length_map]; omega) (DaL.ofInts _)
  have dP : ∀ H', Fr [d] H2 H' → Da H' (.ref pp) (.tuple (S.prices.map rowD)) := fun H' f => .tup (f.tup _ _ ep2) (by omega) (DaL.frL f dps2 ipr)
  have dRa : ∀ H', Fr [d] H2 H' → Da H' (.ref ra) (rowD row) := fun H' f => .tup (f.tup _ _ era2) (by rw [List.length_map]; omega) (DaL.ofInts _)
  have lRa := lRow row hrm
  cases hD
  unfold t_spoil1
  walk_at "go"
  refine g_ite (fun c1 => ?_) (fun c1 => nx)
  · walk_at "go"
    refine c_Lbad ⟨d, l, 1, 12, rfl, D2, rfl, rfl, by decide, by decide, by decide, by decide, fun v e H4 de be le ie f4 D4 => ?_⟩
    walk_at "go"
    rename_i p9 H9 n9 f9 e9
    have F9 : Fr [d] H2 H9 := f4.then0 f9
    exact k2 _ _ H9 (da5 e9 (dR H9 F9) (Da.frL f9 de ie) (.int _) (dP H9 F9) (.int _)) (set_n be) (fin (lt5 lR4 (le.mono (by decide) (by decide)) lS lP lH)) F9 (D4.fr f9 nin0 nin0)
theorem spoil2 (T : Txt K mg A) {H2 : Hp} {d l sp r pp ra : Addr} {at' : Nat} {S : Setup} {prs : List V} {row : List Int} {z : Int} {Q : VK} {D : Ends} (hc : SpC H2 d l sp r pp ra at' S prs row) (k2 : SpQ d l H2 Q) (hD : D.rt = Q)
    (nx : D.nx (spS d sp r pp ra at' S z none none none) H2) : t_spoil2 K A D (spS d sp r pp ra at' S z none none none) H2 := by
  obtain ⟨so, D2, e02, er2, ep2, era2, dps2, hat1, hrm⟩ := hc
  have hk1 := so.k1
  have hk3 := so.k3
  have hn1 := so.n1
  have hn2 := so.n2
  have hs1 := so.s1
  have hs2 := so.s2
  have hh1 := so.h1
  have hh2 := so.h2
  have hpl := so.pl
  have hprl : prs.length = S.prices.length := by rw [dps2.len, List.length_map]
  have ipr : immL (S.prices.map rowD) = true := immL_of fun x hx => by obtain ⟨y, _, rfl⟩ := List.mem_map.mp hx; exact imm_row y
  obtain ⟨hrl, hrz⟩ := so.pn _ hrm
  have lR : Lt 300 2 (rowD S.rooms) := (lt_row (n := 3) (fun w hw => by have := so.rm w hw; omega) hk3).mono (by decide) (by decide)
  have lRow : ∀ r ∈ S.prices, Lt 600 2 (rowD r) := fun r hr => (lt_row (n := 12) (so.pn r hr).2 (by have := (so.pn r hr).1; omega)).mono (by decide) (by decide)
  have lP : Lt 20000 4 (.tuple (S.prices.map rowD)) := (Lt.tup (n := 3) (w := 600) (k := 2) (fun x hx => by obtain ⟨w, hw, rfl⟩ := List.mem_map.mp hx; exact lRow w hw) (by rw [List.length_map]; omega)).mono (by decide) (by decide)
  have lN : Lt 20000 4 (.int S.nights) := (Lt.int (by omega)).mono (by decide) (by decide)
  have lS : Lt 20000 4 (.int S.sellers) := (Lt.int (by omega)).mono (by decide) (by decide)
  have lH : Lt 20000 4 (.int S.share) := (Lt.int (by omega)).mono (by decide) (by decide)
  have lR4 : Lt 20000 4 (rowD S.rooms) := lR.mono (by decide) (by decide)
  have fin : ∀ {e : PyData}, Lt 100005 5 e → Lt 1000000 6 e := fun h => h.mono (by decide) (by decide)
  have dR : ∀ H', Fr [d] H2 H' → Da H' (.ref r) (rowD S.rooms) := fun H' f => .tup (f.tup _ _ er2) (by rw [List.length_map]; omega) (DaL.ofInts _)
  have dP : ∀ H', Fr [d] H2 H' → Da H' (.ref pp) (.tuple (S.prices.map rowD)) := fun H' f => .tup (f.tup _ _ ep2) (by omega) (DaL.frL f dps2 ipr)
  have dRa : ∀ H', Fr [d] H2 H' → Da H' (.ref ra) (rowD row) := fun H' f => .tup (f.tup _ _ era2) (by rw [List.length_map]; omega) (DaL.ofInts _)
  have lRa := lRow row hrm
  cases hD
  unfold t_spoil2
  walk_at "go"
  refine g_ite (fun c2 => ?_) (fun c2 => nx)
  · walk_at "go"
    refine c_Lbad ⟨d, l, 1, 4, rfl, D2, rfl, rfl, by decide, by decide, by decide, by decide, fun v e H4 de be le ie f4 D4 => ?_⟩
    walk_at "go"
    rename_i p9 H9 n9 f9 e9
    have F9 : Fr [d] H2 H9 := f4.then0 f9
    exact k2 _ _ H9 (da5 e9 (dR H9 F9) (.int _) (Da.frL f9 de ie) (dP H9 F9) (.int _)) (set_s be) (fin (lt5 lR4 lN (le.mono (by decide) (by decide)) lP lH)) F9 (D4.fr f9 nin0 nin0)
theorem spoil3 (T : Txt K mg A) {H2 : Hp} {d l sp r pp ra : Addr} {at' : Nat} {S : Setup} {prs : List V} {row : List Int} {z : Int} {Q : VK} {D : Ends} (hc : SpC H2 d l sp r pp ra at' S prs row) (k2 : SpQ d l H2 Q) (hD : D.rt = Q)
    (nx : D.nx (spS d sp r pp ra at' S z none none none) H2) : t_spoil3 K A D (spS d sp r pp ra at' S z none none none) H2 := by
  obtain ⟨so, D2, e02, er2, ep2, era2, dps2, hat1, hrm⟩ := hc
  have hk1 := so.k1
  have hk3 := so.k3
  have hn1 := so.n1
  have hn2 := so.n2
  have hs1 := so.s1
  have hs2 := so.s2
  have hh1 := so.h1
  have hh2 := so.h2
  have hpl := so.pl
  have hprl : prs.length = S.prices.length := by rw [dps2.len, List.length_map]
  have ipr : immL (S.prices.map rowD) = true := immL_of fun x hx => by obtain ⟨y, _, rfl⟩ := List.mem_map.mp hx; exact imm_row y
  obtain ⟨hrl, hrz⟩ := so.pn _ hrm
  have lR : Lt 300 2 (rowD S.rooms) := (lt_row (n := 3) (fun w hw => by have := so.rm w hw; omega) hk3).mono (by decide) (by decide)
  have lRow : ∀ r ∈ S.prices, Lt 600 2 (rowD r) := fun r hr => (lt_row (n := 12) (so.pn r hr).2 (by have := (so.pn r hr).1; omega)).mono (by decide) (by decide)
  have lP : Lt 20000 4 (.tuple (S.prices.map rowD)) := (Lt.tup (n := 3) (w := 600) (k := 2) (fun x hx => by obtain ⟨w, hw, rfl⟩ := List.mem_map.mp hx; exact lRow w hw) (by rw [List.length_map]; omega)).mono (by decide) (by decide)
  have lN : Lt 20000 4 (.int S.nights) := (Lt.int (by omega)).mono (by decide) (by decide)
  have lS : Lt 20000 4 (.int S.sellers) := (Lt.int (by omega)).mono (by decide) (by decide)
  have lH : Lt 20000 4 (.int S.share) := (Lt.int (by omega)).mono (by decide) (by decide)
  have lR4 : Lt 20000 4 (rowD S.rooms) := lR.mono (by decide) (by decide)
  have fin : ∀ {e : PyData}, Lt 100005 5 e → Lt 1000000 6 e := fun h => h.mono (by decide) (by decide)
  have dR : ∀ H', Fr [d] H2 H' → Da H' (.ref r) (rowD S.rooms) := fun H' f => .tup (f.tup _ _ er2) (by rw [List.length_map]; omega) (DaL.ofInts _)
  have dP : ∀ H', Fr [d] H2 H' → Da H' (.ref pp) (.tuple (S.prices.map rowD)) := fun H' f => .tup (f.tup _ _ ep2) (by omega) (DaL.frL f dps2 ipr)
  have dRa : ∀ H', Fr [d] H2 H' → Da H' (.ref ra) (rowD row) := fun H' f => .tup (f.tup _ _ era2) (by rw [List.length_map]; omega) (DaL.ofInts _)
  have lRa := lRow row hrm
  cases hD
  unfold t_spoil3
  walk_at "go"
  refine g_ite (fun c3 => ?_) (fun c3 => nx)
  · walk_at "go"
    refine c_Lbad ⟨d, l, 0, 100, rfl, D2, rfl, rfl, by decide, by decide, by decide, by decide, fun v e H4 de be le ie f4 D4 => ?_⟩
    walk_at "go"
    rename_i p9 H9 n9 f9 e9
    have F9 : Fr [d] H2 H9 := f4.then0 f9
    exact k2 _ _ H9 (da5 e9 (dR H9 F9) (.int _) (.int _) (dP H9 F9) (Da.frL f9 de ie)) (set_h be) (fin (lt5 lR4 lN lS lP (le.mono (by decide) (by decide)))) F9 (D4.fr f9 nin0 nin0)
theorem spoil4 (T : Txt K mg A) {H2 : Hp} {d l sp r pp ra : Addr} {at' : Nat} {S : Setup} {prs : List V} {row : List Int} {z : Int} {Q : VK} {D : Ends} (hc : SpC H2 d l sp r pp ra at' S prs row) (k2 : SpQ d l H2 Q) (hD : D.rt = Q)
    (nx : D.nx (spS d sp r pp ra at' S z none none none) H2) : t_spoil4 K A D (spS d sp r pp ra at' S z none none none) H2 := by
  obtain ⟨so, D2, e02, er2, ep2, era2, dps2, hat1, hrm⟩ := hc
  have hk1 := so.k1
  have hk3 := so.k3
  have hn1 := so.n1
  have hn2 := so.n2
  have hs1 := so.s1
  have hs2 := so.s2
  have hh1 := so.h1
  have hh2 := so.h2
  have hpl := so.pl
  have hprl : prs.length = S.prices.length := by rw [dps2.len, List.length_map]
  have ipr : immL (S.prices.map rowD) = true := immL_of fun x hx => by obtain ⟨y, _, rfl⟩ := List.mem_map.mp hx; exact imm_row y
  obtain ⟨hrl, hrz⟩ := so.pn _ hrm
  have lR : Lt 300 2 (rowD S.rooms) := (lt_row (n := 3) (fun w hw => by have := so.rm w hw; omega) hk3).mono (by decide) (by decide)
  have lRow : ∀ r ∈ S.prices, Lt 600 2 (rowD r) := fun r hr => (lt_row (n := 12) (so.pn r hr).2 (by have := (so.pn r hr).1; omega)).mono (by decide) (by decide)
  have lP : Lt 20000 4 (.tuple (S.prices.map rowD)) := (Lt.tup (n := 3) (w := 600) (k := 2) (fun x hx => by obtain ⟨w, hw, rfl⟩ := List.mem_map.mp hx; exact lRow w hw) (by rw [List.length_map]; omega)).mono (by decide) (by decide)
  have lN : Lt 20000 4 (.int S.nights) := (Lt.int (by omega)).mono (by decide) (by decide)
  have lS : Lt 20000 4 (.int S.sellers) := (Lt.int (by omega)).mono (by decide) (by decide)
  have lH : Lt 20000 4 (.int S.share) := (Lt.int (by omega)).mono (by decide) (by decide)
  have lR4 : Lt 20000 4 (rowD S.rooms) := lR.mono (by decide) (by decide)
  have fin : ∀ {e : PyData}, Lt 100005 5 e → Lt 1000000 6 e := fun h => h.mono (by decide) (by decide)
  have dR : ∀ H', Fr [d] H2 H' → Da H' (.ref r) (rowD S.rooms) := fun H' f => .tup (f.tup _ _ er2) (by rw [List.length_map]; omega) (DaL.ofInts _)
  have dP : ∀ H', Fr [d] H2 H' → Da H' (.ref pp) (.tuple (S.prices.map rowD)) := fun H' f => .tup (f.tup _ _ ep2) (by omega) (DaL.frL f dps2 ipr)
  have dRa : ∀ H', Fr [d] H2 H' → Da H' (.ref ra) (rowD row) := fun H' f => .tup (f.tup _ _ era2) (by rw [List.length_map]; omega) (DaL.ofInts _)
  have lRa := lRow row hrm
  cases hD
  unfold t_spoil4
  walk_at "go"
  refine g_ite (fun c4 => ?_) (fun c4 => nx)
  · walk_at "go"
    rename_i w H3 w0 w1 f3 D3
    have b0 := Int.emod_nonneg w (show S.nights ≠ 0 by omega)
    have b1 := Int.emod_lt_of_pos w (show 0 < S.nights by omega)
    obtain ⟨tt, htt⟩ : ∃ n : Nat, w % S.nights = (n : Int) := ⟨(w % S.nights).toNat, by omega⟩
    rw [htt]
    have ht1 : tt < row.length := by omega
    have era3 := f3.tup _ _ era2
    refine g_slTake era3 (by rw [List.length_map]; exact ht1) fun p3 H4 f4 e4 => ?_
    walk_at "go"
    refine c_Lbad ⟨d, l, 0, 1000000, rfl, D3.fr f4 nin0 nin0, rfl, rfl, by decide, by decide, by decide, by decide, fun v0 x0' H5 dx0 bx lx ix f5 D5 => ?_⟩
    have e45 := f5.tup _ _ e4
    walk_at "go"
    rename_i p6 H6 n6 f6 e6
    refine g_catA (f6.at0 e45) e6 (Nat.le_of_lt (szM (by rw [List.length_take, List.length_map]; show _ + 1 ≤ _; omega))) fun p7 H7 f7 e7 => ?_
    have F7 : Fr [d] H2 H7 := (((f3.then0 f4).transL f5).then0 f6).then0 f7
    walk_at "go"
    refine g_slDrop (n := tt + 1) (by omega) (F7.tup _ _ era2) (by omega) (by rw [List.length_map]; omega) fun p8 H8 f8 e8 => ?_
    refine g_catA (f8.at0 e7) e8 (Nat.le_of_lt (szM (by rw [List.length_append, List.length_take, List.length_drop, List.length_map]; show _ + 1 + _ ≤ _; omega))) fun p9 H3' f9 e9 => ?_
    have F3 : Fr [d] H2 H3' := (F7.then0 f8).then0 f9
    have D3 := (((D5.fr f6 nin0 nin0).fr f7 nin0 nin0).fr f8 nin0 nin0).fr f9 nin0 nin0
    have dn : DaL H3' (((row.map V.int).take tt ++ [v0]) ++ (row.map V.int).drop (tt + 1)) (((row.map PyData.int).take tt ++ [x0']) ++ (row.map PyData.int).drop (tt + 1)) :=
      ((DaL.take _ (DaL.ofInts _)).append (.one' (Da.frL (((f6.then0 f7).then0 f8).then0 f9) dx0 ix))).append (DaL.drop _ (DaL.ofInts _))
    have hl9 : ((((row.map V.int).take tt ++ [v0]) ++ (row.map V.int).drop (tt + 1))).length ≤ 13 := by
      rw [List.length_append, List.length_append, List.length_take, List.length_drop, List.length_map]; show _ + 1 + _ ≤ _; omega
    have de : Da H3' (.ref p9) (.tuple (((row.map PyData.int).take tt ++ [x0']) ++ (row.map PyData.int).drop (tt + 1))) := .tup e9 (by omega) dn
    have be : rowOk S.nights (.tuple (((row.map PyData.int).take tt ++ [x0']) ++ (row.map PyData.int).drop (tt + 1))) = false := row_bad (e := x0') (List.mem_append_left _ (List.mem_append_right _ (List.mem_singleton.mpr rfl))) bx
    have le : Lt 1000 2 (.tuple (((row.map PyData.int).take tt ++ [x0']) ++ (row.map PyData.int).drop (tt + 1))) := (Lt.tup (n := 13) (w := 41) (k := 0) (fun x hx => by
      rcases List.mem_append.mp hx with q | q
      · rcases List.mem_append.mp q with q | q
        · obtain ⟨z, hz, rfl⟩ := List.mem_map.mp (List.mem_of_mem_take q); have := hrz z hz; exact Lt.int (by omega)
        · rw [List.mem_singleton.mp q]; exact lx
      · obtain ⟨z, hz, rfl⟩ := List.mem_map.mp (List.mem_of_mem_drop q); have := hrz z hz; exact Lt.int (by omega)) (by rw [← dn.len]; exact hl9)).mono (by decide) (by decide)
    generalize (PyData.tuple (((row.map PyData.int).take tt ++ [x0']) ++ (row.map PyData.int).drop (tt + 1))) = e at de be le
    obtain ⟨v, hv⟩ : ∃ v, v = V.ref p9 := ⟨_, rfl⟩
    rw [← hv] at de
    clear dn hl9 e9 e8 e7 e6 e4 e45 f3 f4 f5 f6 f7 f8 f9 F7 D5
    rename_i H3
    walk_at "go"
    rw [← hv]
    refine g_slTake (F3.tup _ _ ep2) (by omega) fun q3 H13 f13 e13 => ?_
    walk_at "go"
    rename_i q5 H15 n15 f15 e15
    refine g_catA (f15.at0 e13) e15 (Nat.le_of_lt (szM (by rw [List.length_take]; show _ + 1 ≤ _; omega))) fun q6 H16 f16 e16 => ?_
    have F16 : Fr [] H3' H16 := (f13.then0 f15).then0 f16
    walk_at "go"
    refine g_slDrop (n := at' + 1) (by omega) (F16.tup _ _ (F3.tup _ _ ep2)) (by omega) (by omega) fun q7 H17 f17 e17 => ?_
    refine g_catA (f17.at0 e16) e17 (Nat.le_of_lt (szM (by rw [List.length_append, List.length_take, List.length_drop]; show _ + 1 + _ ≤ _; omega))) fun q8 H18 f18 e18 => ?_
    walk_at "go"
    rename_i q9 H19 n19 f19 e19
    have G : Fr [] H3' H19 := ((F16.then0 f17).then0 f18).then0 f19
    have F19 : Fr [d] H2 H19 := F3.then0 G
    obtain ⟨lp, bp⟩ := new_prices (at' := at') lRow (by omega) le be
    have dpn : DaL H19 ((prs.take at' ++ [v]) ++ prs.drop (at' + 1)) (((S.prices.map rowD).take at' ++ [e]) ++ (S.prices.map rowD).drop (at' + 1)) :=
      ((DaL.take _ (DaL.frL F19 dps2 ipr)).append (.one' (Da.fr0 G _ _ de))).append (DaL.drop _ (DaL.frL F19 dps2 ipr))
    have hl19 : ((prs.take at' ++ [v]) ++ prs.drop (at' + 1)).length ≤ 10 := by rw [List.length_append, List.length_append, List.length_take, List.length_drop]; show _ + 1 + _ ≤ _; omega
    exact k2 _ _ H19 (da5 e19 (dR H19 F19) (.int _) (.int _) (.tup (f19.at0 e18) (by omega) dpn) (.int _)) (set_p (bp _)) (fin (lt5 lR4 lN lS lp lH)) F19 (D3.fr G nin0 nin0)
theorem spoil5 (T : Txt K mg A) {H2 : Hp} {d l sp r pp ra : Addr} {at' : Nat} {S : Setup} {prs : List V} {row : List Int} {z : Int} {Q : VK} {D : Ends} (hc : SpC H2 d l sp r pp ra at' S prs row) (k2 : SpQ d l H2 Q) (hD : D.rt = Q)
    (nx : D.nx (spS d sp r pp ra at' S z none none none) H2) : t_spoil5 K A D (spS d sp r pp ra at' S z none none none) H2 := by
  obtain ⟨so, D2, e02, er2, ep2, era2, dps2, hat1, hrm⟩ := hc
  have hk1 := so.k1
  have hk3 := so.k3
  have hn1 := so.n1
  have hn2 := so.n2
  have hs1 := so.s1
  have hs2 := so.s2
  have hh1 := so.h1
  have hh2 := so.h2
  have hpl := so.pl
  have hprl : prs.length = S.prices.length := by rw [dps2.len, List.length_map]
  have ipr : immL (S.prices.map rowD) = true := immL_of fun x hx => by obtain ⟨y, _, rfl⟩ := List.mem_map.mp hx; exact imm_row y
  obtain ⟨hrl, hrz⟩ := so.pn _ hrm
  have lR : Lt 300 2 (rowD S.rooms) := (lt_row (n := 3) (fun w hw => by have := so.rm w hw; omega) hk3).mono (by decide) (by decide)
  have lRow : ∀ r ∈ S.prices, Lt 600 2 (rowD r) := fun r hr => (lt_row (n := 12) (so.pn r hr).2 (by have := (so.pn r hr).1; omega)).mono (by decide) (by decide)
  have lP : Lt 20000 4 (.tuple (S.prices.map rowD)) := (Lt.tup (n := 3) (w := 600) (k := 2) (fun x hx => by obtain ⟨w, hw, rfl⟩ := List.mem_map.mp hx; exact lRow w hw) (by rw [List.length_map]; omega)).mono (by decide) (by decide)
  have lN : Lt 20000 4 (.int S.nights) := (Lt.int (by omega)).mono (by decide) (by decide)
  have lS : Lt 20000 4 (.int S.sellers) := (Lt.int (by omega)).mono (by decide) (by decide)
  have lH : Lt 20000 4 (.int S.share) := (Lt.int (by omega)).mono (by decide) (by decide)
  have lR4 : Lt 20000 4 (rowD S.rooms) := lR.mono (by decide) (by decide)
  have fin : ∀ {e : PyData}, Lt 100005 5 e → Lt 1000000 6 e := fun h => h.mono (by decide) (by decide)
  have dR : ∀ H', Fr [d] H2 H' → Da H' (.ref r) (rowD S.rooms) := fun H' f => .tup (f.tup _ _ er2) (by rw [List.length_map]; omega) (DaL.ofInts _)
  have dP : ∀ H', Fr [d] H2 H' → Da H' (.ref pp) (.tuple (S.prices.map rowD)) := fun H' f => .tup (f.tup _ _ ep2) (by omega) (DaL.frL f dps2 ipr)
  have dRa : ∀ H', Fr [d] H2 H' → Da H' (.ref ra) (rowD row) := fun H' f => .tup (f.tup _ _ era2) (by rw [List.length_map]; omega) (DaL.ofInts _)
  have lRa := lRow row hrm
  cases hD
  unfold t_spoil5
  walk_at "go"
  refine g_ite (fun c5 => ?_) (fun c5 => nx)
  · walk_at "go"
    rename_i p3 H3 n3 f3 e3
    refine g_catA (f3.tup _ _ era2) e3 (Nat.le_of_lt (szM (by rw [List.length_map]; show _ + 1 ≤ _; omega))) fun p4 H4 f4 e4 => ?_
    walk_at "go"
    have F4 : Fr [] H2 H4 := f3.then0 f4
    have er4 := F4.tup _ _ era2
    clear f3 f4 e3
    refine g_slDrop (n := 1) rfl er4 (Nat.le_refl 1) (by rw [List.length_map]; omega) fun p5 H5 f5 e5 => ?_
    have er5 := f5.tup _ _ er4
    have e45 := f5.tup _ _ e4
    have F5 : Fr [] H2 H5 := F4.then0 f5
    have D5 := D2.fr F5 nin0 nin0
    clear f5 er4 e4 F4
    walk_at "go"
    rename_i p6 H6 n6 f6 e6 p7 H7 n7 f7 e7 w H8 w0 w1 f8 D8
    have F7 : Fr [] H2 H7 := (F5.then0 f6).then0 f7
    have n67 : p6 ≠ d := (D2.new1 (F5.free n6)).symm
    have n77 : p7 ≠ d := (D2.new1 ((F5.then0 f6).free n7)).symm
    have e78 := f8.at e7 (nin1 n77 nin0)
    have e68 := f8.at (f7.at0 e6) (nin1 n67 nin0)
    have F3 : Fr [d] H2 H8 := f8.pre0' F7
    have e48 := f8.tup _ _ (f7.tup _ _ (f6.tup _ _ e45))
    have e58 := f8.tup _ _ (f7.tup _ _ (f6.tup _ _ e5))
    clear f6 f7 f8 e45 e5 er5
    have hy : w % 4 = 0 ∨ w % 4 = 1 ∨ w % 4 = 2 ∨ w % 4 = 3 := by omega
    have ⟨v, e, hat, de, be, le⟩ : ∃ v e, atI [V.ref p4, .ref p5, .ref p6, .non] (w % 4) = some v ∧ Da H8 v e ∧ rowOk S.nights e = false ∧ Lt 1000 2 e := by
      have li : ∀ z ∈ row, Lt 41 0 (.int z) := fun z hz => by have := hrz z hz; exact Lt.int (by omega)
      rcases hy with hy | hy | hy | hy
      · have dl : DaL H8 (row.map V.int ++ [V.int 1]) (row.map PyData.int ++ [.int 1]) := (DaL.ofInts _).append (.one' (.int 1))
        refine ⟨.ref p4, .tuple (row.map .int ++ [.int 1]), by rw [hy]; rfl, .tup e48 (by rw [dl.len, List.length_append, List.length_map]; show _ + 1 ≤ _; omega) dl, row_len (by rw [List.length_append, List.length_map]; show ¬ ((row.length + 1 : Nat) : Int) = _; omega), (Lt.tup (n := 13) (w := 41) (k := 0) (fun x hx => ?_) (by rw [List.length_append, List.length_map]; show _ + 1 ≤ _; omega)).mono (by decide) (by decide)⟩
        rcases List.mem_append.mp hx with q | q
        · obtain ⟨z, hz, rfl⟩ := List.mem_map.mp q; exact li z hz
        · rw [List.mem_singleton.mp q]; exact Lt.int (by decide)
      · have dl : DaL H8 ((row.map V.int).drop 1) ((row.map PyData.int).drop 1) := DaL.drop 1 (DaL.ofInts _)
        refine ⟨.ref p5, .tuple ((row.map .int).drop 1), by rw [hy]; rfl, .tup e58 (by rw [dl.len, List.length_drop, List.length_map]; omega) dl, row_len (by rw [List.length_drop, List.length_map]; omega), (Lt.tup (n := 13) (w := 41) (k := 0) (fun x hx => ?_) (by rw [List.length_drop, List.length_map]; omega)).mono (by decide) (by decide)⟩
        obtain ⟨z, hz, rfl⟩ := List.mem_map.mp (List.mem_of_mem_drop hx); exact li z hz
      · refine ⟨.ref p6, .list (row.map .int), by rw [hy]; rfl, .lst e68 (by rw [List.length_map]; omega) (DaL.ofInts _), rfl, (Lt.lst (n := 13) (w := 41) (k := 0) (fun x hx => ?_) (by rw [List.length_map]; omega)).mono (by decide) (by decide)⟩
        obtain ⟨z, hz, rfl⟩ := List.mem_map.mp hx; exact li z hz
      · exact ⟨.non, .none, by rw [hy]; rfl, .non, rfl, ⟨rfl, Nat.zero_le _, by simp [PyData.depth]⟩⟩
    refine g_ixL (SqL.of e78) hat ?_
    have D3 := D8
    clear e7 e6 F5 F7 e68 e78 D8 hat e48 e58
    walk_at "go"
    refine g_slTake (F3.tup _ _ ep2) (by omega) fun q3 H13 f13 e13 => ?_
    walk_at "go"
    rename_i q5 H15 n15 f15 e15
    refine g_catA (f15.at0 e13) e15 (Nat.le_of_lt (szM (by rw [List.length_take]; show _ + 1 ≤ _; omega))) fun q6 H16 f16 e16 => ?_
    have F16 : Fr [] H8 H16 := (f13.then0 f15).then0 f16
    walk_at "go"
    refine g_slDrop (n := at' + 1) (by omega) (F16.tup _ _ (F3.tup _ _ ep2)) (by omega) (by omega) fun q7 H17 f17 e17 => ?_
    refine g_catA (f17.at0 e16) e17 (Nat.le_of_lt (szM (by rw [List.length_append, List.length_take, List.length_drop]; show _ + 1 + _ ≤ _; omega))) fun q8 H18 f18 e18 => ?_
    walk_at "go"
    rename_i q9 H19 n19 f19 e19
    have G : Fr [] H8 H19 := ((F16.then0 f17).then0 f18).then0 f19
    have F19 : Fr [d] H2 H19 := F3.then0 G
    obtain ⟨lp, bp⟩ := new_prices (at' := at') lRow (by omega) le be
    have dpn : DaL H19 ((prs.take at' ++ [v]) ++ prs.drop (at' + 1)) (((S.prices.map rowD).take at' ++ [e]) ++ (S.prices.map rowD).drop (at' + 1)) :=
      ((DaL.take _ (DaL.frL F19 dps2 ipr)).append (.one' (Da.fr0 G _ _ de))).append (DaL.drop _ (DaL.frL F19 dps2 ipr))
    have hl19 : ((prs.take at' ++ [v]) ++ prs.drop (at' + 1)).length ≤ 10 := by rw [List.length_append, List.length_append, List.length_take, List.length_drop]; show _ + 1 + _ ≤ _; omega
    exact k2 _ _ H19 (da5 e19 (dR H19 F19) (.int _) (.int _) (.tup (f19.at0 e18) (by omega) dpn) (.int _)) (set_p (bp _)) (fin (lt5 lR4 lN lS lp lH)) F19 (D3.fr G nin0 nin0)
theorem spoil6 (T : Txt K mg A) {H2 : Hp} {d l sp r pp ra : Addr} {at' : Nat} {S : Setup} {prs : List V} {row : List Int} {z : Int} {Q : VK} {D : Ends} (hc : SpC H2 d l sp r pp ra at' S prs row) (k2 : SpQ d l H2 Q) (hD : D.rt = Q)
    (nx : D.nx (spS d sp r pp ra at' S z none none none) H2) : t_spoil6 K A D (spS d sp r pp ra at' S z none none none) H2 := by
  obtain ⟨so, D2, e02, er2, ep2, era2, dps2, hat1, hrm⟩ := hc
  have hk1 := so.k1
  have hk3 := so.k3
  have hn1 := so.n1
  have hn2 := so.n2
  have hs1 := so.s1
  have hs2 := so.s2
  have hh1 := so.h1
  have hh2 := so.h2
  have hpl := so.pl
  have hprl : prs.length = S.prices.length := by rw [dps2.len, List.length_map]
  have ipr : immL (S.prices.map rowD) = true := immL_of fun x hx => by obtain ⟨y, _, rfl⟩ := List.mem_map.mp hx; exact imm_row y
  obtain ⟨hrl, hrz⟩ := so.pn _ hrm
  have lR : Lt 300 2 (rowD S.rooms) := (lt_row (n := 3) (fun w hw => by have := so.rm w hw; omega) hk3).mono (by decide) (by decide)
  have lRow : ∀ r ∈ S.prices, Lt 600 2 (rowD r) := fun r hr => (lt_row (n := 12) (so.pn r hr).2 (by have := (so.pn r hr).1; omega)).mono (by decide) (by decide)
  have lP : Lt 20000 4 (.tuple (S.prices.map rowD)) := (Lt.tup (n := 3) (w := 600) (k := 2) (fun x hx => by obtain ⟨w, hw, rfl⟩ := List.mem_map.mp hx; exact lRow w hw) (by rw [List.length_map]; omega)).mono (by decide) (by decide)
  have lN : Lt 20000 4 (.int S.nights) := (Lt.int (by omega)).mono (by decide) (by decide)
  have lS : Lt 20000 4 (.int S.sellers) := (Lt.int (by omega)).mono (by decide) (by decide)
  have lH : Lt 20000 4 (.int S.share) := (Lt.int (by omega)).mono (by decide) (by decide)
  have lR4 : Lt 20000 4 (rowD S.rooms) := lR.mono (by decide) (by decide)
  have fin : ∀ {e : PyData}, Lt 100005 5 e → Lt 1000000 6 e := fun h => h.mono (by decide) (by decide)
  have dR : ∀ H', Fr [d] H2 H' → Da H' (.ref r) (rowD S.rooms) := fun H' f => .tup (f.tup _ _ er2) (by rw [List.length_map]; omega) (DaL.ofInts _)
  have dP : ∀ H', Fr [d] H2 H' → Da H' (.ref pp) (.tuple (S.prices.map rowD)) := fun H' f => .tup (f.tup _ _ ep2) (by omega) (DaL.frL f dps2 ipr)
  have dRa : ∀ H', Fr [d] H2 H' → Da H' (.ref ra) (rowD row) := fun H' f => .tup (f.tup _ _ era2) (by rw [List.length_map]; omega) (DaL.ofInts _)
  have lRa := lRow row hrm
  cases hD
  unfold t_spoil6
  walk_at "go"
  refine g_ite (fun c6 => ?_) (fun c6 => nx)
  · walk_at "go"
    rename_i p3 H3 n3 f3 e3
    refine g_catA (f3.tup _ _ ep2) e3 (Nat.le_of_lt (szM (by show _ + 1 ≤ _; omega))) fun p4 H4 f4 e4 => ?_
    have F4 : Fr [] H2 H4 := f3.then0 f4
    walk_at "go"
    rename_i t1 H5 n5 f5 e5
    have e45 := f5.tup _ _ e4
    have F5 : Fr [] H2 H5 := F4.then0 f5
    have ep5 := F5.tup _ _ ep2
    have D5 := D2.fr F5 nin0 nin0
    clear f3 f4 f5 e3 e4 F4
    refine g_slDrop (n := 1) rfl ep5 (Nat.le_refl 1) (by omega) fun p6 H6 f6 e6 => ?_
    have ep6 := f6.tup _ _ ep5
    have e46 := f6.tup _ _ e45
    have e56 := f6.tup _ _ e5
    have F6 := F5.then0 f6
    have D6 := D5.fr f6 nin0 nin0
    clear f6 e5 e45 ep5 D5
    walk_at "go"
    rename_i t2 H7 n7 f7 e7 p8 H8 n8 f8 e8 t3 H9 n9 f9 e9 t4 H10 n10 f10 e10 tl H11 n11 f11 e11 w H12 w0 w1 f12 D12
    have F10' : Fr [] H6 H10 := ((f7.then0 f8).then0 f9).then0 f10
    have F10 : Fr [] H2 H10 := F6.then0 F10'
    have F7 : Fr [] H2 H7 := F6.then0 f7
    have F11 : Fr [] H2 H11 := F10.then0 f11
    have F12 : Fr [d] H2 H12 := f12.pre0' F11
    have e812 := f12.at (f11.at0 (f10.at0 (f9.at0 e8))) (nin1 ((D2.new1 (F7.free n8)).symm) nin0)
    have e1112 := f12.at e11 (nin1 ((D2.new1 (F10.free n11)).symm) nin0)
    have et1 := f12.tup _ _ (f11.tup _ _ (F10'.tup _ _ e56))
    have et2 := f12.tup _ _ (f11.tup _ _ (f10.tup _ _ (f9.tup _ _ (f8.tup _ _ e7))))
    have et3 := f12.tup _ _ (f11.tup _ _ (f10.tup _ _ e9))
    have et4 := f12.tup _ _ (f11.tup _ _ e10)
    have e412 := f12.tup _ _ (f11.tup _ _ (F10'.tup _ _ e46))
    have e612 := f12.tup _ _ (f11.tup _ _ (F10'.tup _ _ e6))
    clear e7 e9 e10 f7 f8 f9 f10 f11 f12 e8 e11 e56 e46 e6
    have dpr := DaL.frL F12 dps2 ipr
    have lpr : ∀ x ∈ S.prices.map rowD, Lt 600 2 x := fun x hx => by obtain ⟨w, hw, rfl⟩ := List.mem_map.mp hx; exact lRow w hw
    have hy : w % 4 = 0 ∨ w % 4 = 1 ∨ w % 4 = 2 ∨ w % 4 = 3 := by omega
    rcases hy with hy | hy | hy | hy
    · refine g_ixL (SqL.of e1112) (v := .ref t1) (by rw [hy]; rfl) ?_
      have dl := dpr.append (.one' (dRa H12 F12))
      refine k2 _ _ H12 (da5 et1 (dR H12 F12) (.int _) (.int _) (.tup e412 (by rw [List.length_append]; show _ + 1 ≤ _; omega) dl) (.int _)) (set_p (prices_len (by rw [List.length_append, List.length_map]; show ¬ ((S.prices.length + 1 : Nat) : Int) = lenOf (rowD S.rooms); show ¬ ((S.prices.length + 1 : Nat) : Int) = ((S.rooms.map PyData.int).length : Int); rw [List.length_map]; omega))) (fin (lt5 lR4 lN lS ((Lt.tup (n := 4) (w := 600) (k := 2) (fun x hx => ?_) (by rw [List.length_append, List.length_map]; show _ + 1 ≤ _; omega)).mono (by decide) (by decide)) lH)) F12 D12
      rcases List.mem_append.mp hx with q | q
      · exact lpr x q
      · rw [List.mem_singleton.mp q]; exact lRa
    · refine g_ixL (SqL.of e1112) (v := .ref t2) (by rw [hy]; rfl) ?_
      have dl := DaL.drop 1 dpr
      refine k2 _ _ H12 (da5 et2 (dR H12 F12) (.int _) (.int _) (.tup e612 (by rw [List.length_drop]; omega) dl) (.int _)) (set_p (prices_len (by rw [List.length_drop, List.length_map]; show ¬ ((S.prices.length - 1 : Nat) : Int) = ((S.rooms.map PyData.int).length : Int); rw [List.length_map]; omega))) (fin (lt5 lR4 lN lS ((Lt.tup (n := 4) (w := 600) (k := 2) (fun x hx => lpr x (List.mem_of_mem_drop hx)) (by rw [List.length_drop, List.length_map]; omega)).mono (by decide) (by decide)) lH)) F12 D12
    · refine g_ixL (SqL.of e1112) (v := .ref t3) (by rw [hy]; rfl) ?_
      exact k2 _ _ H12 (da5 et3 (dR H12 F12) (.int _) (.int _) (.lst e812 (by omega) dpr) (.int _)) (set_p rfl) (fin (lt5 lR4 lN lS ((Lt.lst (n := 4) (w := 600) (k := 2) lpr (by rw [List.length_map]; omega)).mono (by decide) (by decide)) lH)) F12 D12
    · refine g_ixL (SqL.of e1112) (v := .ref t4) (by rw [hy]; rfl) ?_
      exact k2 _ _ H12 (da5 et4 (dR H12 F12) (.int _) (.int _) .non (.int _)) (set_p rfl) (fin (lt5 lR4 lN lS ⟨rfl, Nat.zero_le _, by simp [PyData.depth]⟩ lH)) F12 D12
theorem spoil7 (T : Txt K mg A) {H2 : Hp} {d l sp r pp ra : Addr} {at' : Nat} {S : Setup} {prs : List V} {row : List Int} {z : Int} {Q : VK} {D : Ends} (hc : SpC H2 d l sp r pp ra at' S prs row) (k2 : SpQ d l H2 Q) (hD : D.rt = Q)
    (nx : D.nx (spS d sp r pp ra at' S z none none none) H2) : t_spoil7 K A D (spS d sp r pp ra at' S z none none none) H2 := by
  obtain ⟨so, D2, e02, er2, ep2, era2, dps2, hat1, hrm⟩ := hc
  have hk1 := so.k1
  have hk3 := so.k3
  have hn1 := so.n1
  have hn2 := so.n2
  have hs1 := so.s1
  have hs2 := so.s2
  have hh1 := so.h1
  have hh2 := so.h2
  have hpl := so.pl
  have hprl : prs.length = S.prices.length := by rw [dps2.len, List.length_map]
  have ipr : immL (S.prices.map rowD) = true := immL_of fun x hx => by obtain ⟨y, _, rfl⟩ := List.mem_map.mp hx; exact imm_row y
  obtain ⟨hrl, hrz⟩ := so.pn _ hrm
  have lR : Lt 300 2 (rowD S.rooms) := (lt_row (n := 3) (fun w hw => by have := so.rm w hw; omega) hk3).mono (by decide) (by decide)
  have lRow : ∀ r ∈ S.prices, Lt 600 2 (rowD r) := fun r hr => (lt_row (n := 12) (so.pn r hr).2 (by have := (so.pn r hr).1; omega)).mono (by decide) (by decide)
  have lP : Lt 20000 4 (.tuple (S.prices.map rowD)) := (Lt.tup (n := 3) (w := 600) (k := 2) (fun x hx => by obtain ⟨w, hw, rfl⟩ := List.mem_map.mp hx; exact lRow w hw) (by rw [List.length_map]; omega)).mono (by decide) (by decide)
  have lN : Lt 20000 4 (.int S.nights) := (Lt.int (by omega)).mono (by decide) (by decide)
  have lS : Lt 20000 4 (.int S.sellers) := (Lt.int (by omega)).mono (by decide) (by decide)
  have lH : Lt 20000 4 (.int S.share) := (Lt.int (by omega)).mono (by decide) (by decide)
  have lR4 : Lt 20000 4 (rowD S.rooms) := lR.mono (by decide) (by decide)
  have fin : ∀ {e : PyData}, Lt 100005 5 e → Lt 1000000 6 e := fun h => h.mono (by decide) (by decide)
  have dR : ∀ H', Fr [d] H2 H' → Da H' (.ref r) (rowD S.rooms) := fun H' f => .tup (f.tup _ _ er2) (by rw [List.length_map]; omega) (DaL.ofInts _)
  have dP : ∀ H', Fr [d] H2 H' → Da H' (.ref pp) (.tuple (S.prices.map rowD)) := fun H' f => .tup (f.tup _ _ ep2) (by omega) (DaL.frL f dps2 ipr)
  have dRa : ∀ H', Fr [d] H2 H' → Da H' (.ref ra) (rowD row) := fun H' f => .tup (f.tup _ _ era2) (by rw [List.length_map]; omega) (DaL.ofInts _)
  have lRa := lRow row hrm
  cases hD
  unfold t_spoil7
  walk_at "go"
  refine g_ite (fun c7 => ?_) (fun c7 => nx)
  · walk_at "go"
    rename_i q1 H3 n3 f3 e3 q2 H4 n4 f4 e4 t1 H5 n5 f5 e5 q6 H6 n6 f6 e6
    have F6 : Fr [] H2 H6 := ((f3.then0 f4).then0 f5).then0 f6
    have e36 := f6.tup _ _ (f5.tup _ _ (f4.tup _ _ e3))
    have e46 := f6.tup _ _ (f5.tup _ _ e4)
    have e56 := f6.tup _ _ e5
    have er6 := F6.tup _ _ er2
    have ep6 := F6.tup _ _ ep2
    have ea6 := F6.tup _ _ era2
    have D6 := D2.fr F6 nin0 nin0
    clear f3 f4 f5 f6 e3 e4 e5
    refine g_mulA e6 (by simp) (by decide) (by decide) (by decide) fun q7 H7 f7 e7 => ?_
    refine g_catA (f7.tup _ _ er6) e7 (Nat.le_of_lt (szM (by rw [List.length_map]; show _ + 3 ≤ _; omega))) fun q8 H8 f8 e8 => ?_
    have F8 : Fr [] H2 H8 := (F6.then0 f7).then0 f8
    have e38 := f8.tup _ _ (f7.tup _ _ e36)
    have e48 := f8.tup _ _ (f7.tup _ _ e46)
    have e58 := f8.tup _ _ (f7.tup _ _ e56)
    have er8 := F8.tup _ _ er2
    have ep8 := F8.tup _ _ ep2
    have ea8 := F8.tup _ _ era2
    have D8 := D2.fr F8 nin0 nin0
    clear f7 f8 e7 e36 e46 e56 er6 ep6 ea6 D6 e6 F6
    walk_at "go"
    rename_i q9 H9 n9 f9 e9
    refine g_mulA e9 (by simp) (by decide) (by decide) (Nat.le_of_ble_eq_true rfl) fun q10 H10 f10 e10 => ?_
    refine g_catA (f10.tup _ _ (f9.tup _ _ ep8)) e10 (Nat.le_of_lt (szM (by show _ + 3 ≤ _; omega))) fun q11 H11 f11 e11 => ?_
    have F11' : Fr [] H8 H11 := (f9.then0 f10).then0 f11
    have F11 : Fr [] H2 H11 := F8.then0 F11'
    have e311 := F11'.tup _ _ e38
    have e411 := F11'.tup _ _ e48
    have e511 := F11'.tup _ _ e58
    have e811 := F11'.tup _ _ e8
    have er11 := F11.tup _ _ er2
    have ep11 := F11.tup _ _ ep2
    have D11 := D2.fr F11 nin0 nin0
    clear f9 f10 f11 F11' e10 e9 e38 e48 e58 e8 er8 ep8 ea8 D8 F8
    walk_at "go"
    rename_i t2 H12 n12 f12 e12 q13 H13 n13 f13 e13 t3 H14 n14 f14 e14 tl H15 n15 f15 e15 w H16 w0 w1 f16 D16
    have F14 : Fr [] H11 H14 := (f12.then0 f13).then0 f14
    have F15 : Fr [] H2 H15 := (F11.then0 F14).then0 f15
    have F16 : Fr [d] H2 H16 := f16.pre0' F15
    have G : Fr [d] H11 H16 := f16.pre0' (F14.then0 f15)
    have e15' := f16.at e15 (nin1 ((D11.new1 (F14.free n15)).symm) nin0)
    have e13' := f16.at (f15.at0 (f14.at0 e13)) (nin1 ((D11.new1 (f12.free n13)).symm) nin0)
    have et1 := G.tup _ _ e511
    have et2 := (f16.pre0' ((f13.then0 f14).then0 f15)).tup _ _ e12
    have et3 := (f16.pre0' f15).tup _ _ e14
    have g3 := G.tup _ _ e311
    have g4 := G.tup _ _ e411
    have g8 := G.tup _ _ e811
    have g11 := G.tup _ _ e11
    have l0 : Lt 20000 4 (.tuple []) := ⟨rfl, Nat.zero_le _, by simp [PyData.depth, PyData.depthAll]⟩
    have g8 : H16 q8 = some (.tup (S.rooms.map V.int ++ [.int 1, .int 1, .int 1])) := g8
    have g11 : H16 q11 = some (.tup (prs ++ [.ref ra, .ref ra, .ref ra])) := g11
    have hy : w % 3 = 0 ∨ w % 3 = 1 ∨ w % 3 = 2 := by omega
    rcases hy with hy | hy | hy
    · refine g_ixL (SqL.of e15') (v := .ref t1) (by rw [hy]; rfl) ?_
      exact k2 _ _ H16 (da5 et1 (.tup g3 (Nat.zero_le _) .nil) (.int _) (.int _) (.tup g4 (Nat.zero_le _) .nil) (.int _)) (set_r rfl) (fin (lt5 l0 lN lS l0 lH)) F16 D16
    · refine g_ixL (SqL.of e15') (v := .ref t2) (by rw [hy]; rfl) ?_
      have d1 : DaL H16 (S.rooms.map V.int ++ [.int 1, .int 1, .int 1]) (S.rooms.map PyData.int ++ [.int 1, .int 1, .int 1]) := (DaL.ofInts _).append (.cons (.int 1) (.cons (.int 1) (.one' (.int 1))))
      have d2 : DaL H16 (prs ++ [.ref ra, .ref ra, .ref ra]) (S.prices.map rowD ++ [rowD row, rowD row, rowD row]) := (DaL.frL F16 dps2 ipr).append (.cons (dRa H16 F16) (.cons (dRa H16 F16) (.one' (dRa H16 F16))))
      refine k2 _ _ H16 (da5 et2 (.tup g8 (by rw [d1.len, List.length_append, List.length_map]; show _ + 3 ≤ _; omega) d1) (.int _) (.int _) (.tup g11 (by rw [d2.len, List.length_append, List.length_map]; show _ + 3 ≤ _; omega) d2) (.int _)) (set_r ?_) (fin (lt5 ?_ lN lS ?_ lH)) F16 D16
      · have hl3 : ¬ (((S.rooms.map PyData.int ++ [PyData.int 1, PyData.int 1, PyData.int 1]).length : Nat) : Int) ≤ 3 := by
          rw [List.length_append, List.length_map]; show ¬ ((S.rooms.length + 3 : Nat) : Int) ≤ 3; omega
        show (decide _ && decide ((((S.rooms.map PyData.int ++ [PyData.int 1, PyData.int 1, PyData.int 1]).length : Nat) : Int) ≤ 3) && _) = false
        rw [decide_eq_false hl3, Bool.and_false, Bool.false_and]
      · refine (Lt.tup (n := 6) (w := 41) (k := 0) (fun x hx => ?_) (by rw [List.length_append, List.length_map]; show _ + 3 ≤ _; omega)).mono (by decide) (by decide)
        rcases List.mem_append.mp hx with q | q
        · obtain ⟨z, hz, rfl⟩ := List.mem_map.mp q; have := so.rm z hz; exact Lt.int (by omega)
        · have q' : x = .int 1 := by simpa using q
          rw [q']; exact Lt.int (by decide)
      · refine (Lt.tup (n := 6) (w := 600) (k := 2) (fun x hx => ?_) (by rw [List.length_append, List.length_map]; show _ + 3 ≤ _; omega)).mono (by decide) (by decide)
        rcases List.mem_append.mp hx with q | q
        · obtain ⟨z, hz, rfl⟩ := List.mem_map.mp q; exact lRow z hz
        · have q' : x = rowD row := by simpa using q
          rw [q']; exact lRa
    · refine g_ixL (SqL.of e15') (v := .ref t3) (by rw [hy]; rfl) ?_
      exact k2 _ _ H16 (da5 et3 (.lst e13' (by rw [List.length_map]; omega) (DaL.ofInts _)) (.int _) (.int _) (dP H16 F16) (.int _)) (set_r rfl) (fin (lt5 ((Lt.lst (n := 3) (w := 41) (k := 0) (fun x hx => by obtain ⟨z, hz, rfl⟩ := List.mem_map.mp hx; have := so.rm z hz; exact Lt.int (by omega)) (by rw [List.length_map]; exact hk3)).mono (by decide) (by decide)) lN lS lP lH)) F16 D16
theorem spoil8 (T : Txt K mg A) {H2 : Hp} {d l sp r pp ra : Addr} {at' : Nat} {S : Setup} {prs : List V} {row : List Int} {z : Int} {Q : VK} {D : Ends} (hc : SpC H2 d l sp r pp ra at' S prs row) (k2 : SpQ d l H2 Q) (hD : D.rt = Q)
    (nx : D.nx (spS d sp r pp ra at' S z none none none) H2) : t_spoil8 K A D (spS d sp r pp ra at' S z none none none) H2 := by
  obtain ⟨so, D2, e02, er2, ep2, era2, dps2, hat1, hrm⟩ := hc
  have hk1 := so.k1
  have hk3 := so.k3
  have hn1 := so.n1
  have hn2 := so.n2
  have hs1 := so.s1
  have hs2 := so.s2
  have hh1 := so.h1
  have hh2 := so.h2
  have hpl := so.pl
  have hprl : prs.length = S.prices.length := by rw [dps2.len, List.length_map]
  have ipr : immL (S.prices.map rowD) = true := immL_of fun x hx => by obtain ⟨y, _, rfl⟩ := List.mem_map.mp hx; exact imm_row y
  obtain ⟨hrl, hrz⟩ := so.pn _ hrm
  have lR : Lt 300 2 (rowD S.rooms) := (lt_row (n := 3) (fun w hw => by have := so.rm w hw; omega) hk3).mono (by decide) (by decide)
  have lRow : ∀ r ∈ S.prices, Lt 600 2 (rowD r) := fun r hr => (lt_row (n := 12) (so.pn r hr).2 (by have := (so.pn r hr).1; omega)).mono (by decide) (by decide)
  have lP : Lt 20000 4 (.tuple (S.prices.map rowD)) := (Lt.tup (n := 3) (w := 600) (k := 2) (fun x hx => by obtain ⟨w, hw, rfl⟩ := List.mem_map.mp hx; exact lRow w hw) (by rw [List.length_map]; omega)).mono (by decide) (by decide)
  have lN : Lt 20000 4 (.int S.nights) := (Lt.int (by omega)).mono (by decide) (by decide)
  have lS : Lt 20000 4 (.int S.sellers) := (Lt.int (by omega)).mono (by decide) (by decide)
  have lH : Lt 20000 4 (.int S.share) := (Lt.int (by omega)).mono (by decide) (by decide)
  have lR4 : Lt 20000 4 (rowD S.rooms) := lR.mono (by decide) (by decide)
  have fin : ∀ {e : PyData}, Lt 100005 5 e → Lt 1000000 6 e := fun h => h.mono (by decide) (by decide)
  have dR : ∀ H', Fr [d] H2 H' → Da H' (.ref r) (rowD S.rooms) := fun H' f => .tup (f.tup _ _ er2) (by rw [List.length_map]; omega) (DaL.ofInts _)
  have dP : ∀ H', Fr [d] H2 H' → Da H' (.ref pp) (.tuple (S.prices.map rowD)) := fun H' f => .tup (f.tup _ _ ep2) (by omega) (DaL.frL f dps2 ipr)
  have dRa : ∀ H', Fr [d] H2 H' → Da H' (.ref ra) (rowD row) := fun H' f => .tup (f.tup _ _ era2) (by rw [List.length_map]; omega) (DaL.ofInts _)
  have lRa := lRow row hrm
  cases hD
  unfold t_spoil8
  walk_at "go"
  refine g_ite (fun c8 => ?_) (fun c8 => nx)
  · walk_at "go"
    refine g_slTake (n := 4) e02 (Nat.le_of_ble_eq_true rfl) fun t1 H3 f3 e3 => ?_
    have e03 := f3.tup _ _ e02
    walk_at "go"
    rename_i q4 H4 n4 f4 e4
    have e04 := f4.tup _ _ e03
    refine g_catA e04 e4 (Nat.le_of_ble_eq_true rfl) fun t2 H5 f5 e5 => ?_
    have F5 : Fr [] H2 H5 := (f3.then0 f4).then0 f5
    have e05 := F5.tup _ _ e02
    have e35 := f5.tup _ _ (f4.tup _ _ e3)
    have D5 := D2.fr F5 nin0 nin0
    clear f3 f4 f5 e03 e04 e3 e4
    walk_at "go"
    rename_i t3 H6 n6 f6 e6 tl H7 n7 f7 e7 w H8 w0 w1 f8 D8
    have F7 : Fr [] H5 H7 := f6.then0 f7
    have F8 : Fr [d] H2 H8 := f8.pre0' (F5.then0 F7)
    have G : Fr [d] H5 H8 := f8.pre0' F7
    have e78 := f8.at e7 (nin1 ((D5.new1 (f6.free n7)).symm) nin0)
    have e68 := f8.at (f7.at0 e6) (nin1 ((D5.new1 n6).symm) nin0)
    have et1 := G.tup _ _ e35
    have et2 := G.tup _ _ e5
    have dl : DaL H8 [.ref r, .int S.nights, .int S.sellers, .ref pp, .int S.share] [rowD S.rooms, .int S.nights, .int S.sellers, .tuple (S.prices.map rowD), .int S.share] := .cons (dR H8 F8) (.cons (.int _) (.cons (.int _) (.cons (dP H8 F8) (.one' (.int _)))))
    have ml : ∀ x ∈ [rowD S.rooms, .int S.nights, .int S.sellers, .tuple (S.prices.map rowD), .int S.share], Lt 20000 4 x := fun x hx => by
      have hx' : x = rowD S.rooms ∨ x = .int S.nights ∨ x = .int S.sellers ∨ x = .tuple (S.prices.map rowD) ∨ x = .int S.share := by simpa using hx
      rcases hx' with z | z | z | z | z
      · rw [z]; exact lR4
      · rw [z]; exact lN
      · rw [z]; exact lS
      · rw [z]; exact lP
      · rw [z]; exact lH
    have hy : w % 6 = 0 ∨ w % 6 = 1 ∨ w % 6 = 2 ∨ w % 6 = 3 ∨ w % 6 = 4 ∨ w % 6 = 5 := by omega
    rcases hy with hy | hy | hy | hy | hy | hy
    · refine g_ixL (SqL.of e78) (v := .ref t1) (by rw [hy]; rfl) ?_
      exact k2 _ (.tuple [rowD S.rooms, .int S.nights, .int S.sellers, .tuple (S.prices.map rowD)]) H8 (.tup et1 (Nat.le_of_ble_eq_true rfl) (.cons (dR H8 F8) (.cons (.int _) (.cons (.int _) (.one' (dP H8 F8)))))) rfl ((Lt.tup (n := 5) (w := 20000) (k := 4) (fun x hx => ml x (List.mem_of_mem_take (i := 4) (by exact hx))) (Nat.le_of_ble_eq_true rfl)).mono (by decide) (by decide)) F8 D8
    · refine g_ixL (SqL.of e78) (v := .ref t2) (by rw [hy]; rfl) ?_
      refine k2 _ (.tuple ([rowD S.rooms, .int S.nights, .int S.sellers, .tuple (S.prices.map rowD), .int S.share] ++ [.int 0])) H8 (.tup et2 (Nat.le_of_ble_eq_true rfl) (dl.append (.one' (.int 0)))) rfl ((Lt.tup (n := 6) (w := 20000) (k := 4) (fun x hx => ?_) (Nat.le_of_ble_eq_true rfl)).mono (by decide) (by decide)) F8 D8
      rcases List.mem_append.mp hx with q | q
      · exact ml x q
      · rw [List.mem_singleton.mp q]; exact (Lt.int (by decide)).mono (by decide) (by decide)
    · refine g_ixL (SqL.of e78) (v := .ref t3) (by rw [hy]; rfl) ?_
      exact k2 _ _ H8 (.lst e68 (Nat.le_of_ble_eq_true rfl) dl) rfl ((Lt.lst (n := 5) (w := 20000) (k := 4) ml (Nat.le_of_ble_eq_true rfl)).mono (by decide) (by decide)) F8 D8
    · refine g_ixL (SqL.of e78) (v := .non) (by rw [hy]; rfl) ?_
      exact k2 _ _ H8 .non rfl ⟨rfl, Nat.zero_le _, by simp [PyData.depth]⟩ F8 D8
    · refine g_ixL (SqL.of e78) (v := .int 5) (by rw [hy]; rfl) ?_
      exact k2 _ _ H8 (.int 5) rfl ((Lt.int (by decide)).mono (by decide) (by decide)) F8 D8
    · refine g_ixL (SqL.of e78) (v := .str "setup") (by rw [hy]; rfl) ?_
      exact k2 _ _ H8 (.str _) rfl ⟨by decide +kernel, by decide +kernel, by simp [PyData.depth]⟩ F8 D8
theorem spoil9 (T : Txt K mg A) {H2 : Hp} {d l sp r pp ra : Addr} {at' : Nat} {S : Setup} {prs : List V} {row : List Int} {z : Int} {Q : VK} {D : Ends} (hc : SpC H2 d l sp r pp ra at' S prs row) (k2 : SpQ d l H2 Q) (hD : D.rt = Q)
    (nx : ∀ H3, Fr [d] H2 H3 → Draws H3 d l → D.nx (spS d sp r pp ra at' S z none none none) H3) : t_spoil9 K A D (spS d sp r pp ra at' S z none none none) H2 := by
  obtain ⟨so, D2, e02, er2, ep2, era2, dps2, hat1, hrm⟩ := hc
  have hk1 := so.k1
  have hk3 := so.k3
  have hn1 := so.n1
  have hn2 := so.n2
  have hs1 := so.s1
  have hs2 := so.s2
  have hh1 := so.h1
  have hh2 := so.h2
  have hpl := so.pl
  have hprl : prs.length = S.prices.length := by rw [dps2.len, List.length_map]
  have ipr : immL (S.prices.map rowD) = true := immL_of fun x hx => by obtain ⟨y, _, rfl⟩ := List.mem_map.mp hx; exact imm_row y
  obtain ⟨hrl, hrz⟩ := so.pn _ hrm
  have lR : Lt 300 2 (rowD S.rooms) := (lt_row (n := 3) (fun w hw => by have := so.rm w hw; omega) hk3).mono (by decide) (by decide)
  have lRow : ∀ r ∈ S.prices, Lt 600 2 (rowD r) := fun r hr => (lt_row (n := 12) (so.pn r hr).2 (by have := (so.pn r hr).1; omega)).mono (by decide) (by decide)
  have lP : Lt 20000 4 (.tuple (S.prices.map rowD)) := (Lt.tup (n := 3) (w := 600) (k := 2) (fun x hx => by obtain ⟨w, hw, rfl⟩ := List.mem_map.mp hx; exact lRow w hw) (by rw [List.length_map]; omega)).mono (by decide) (by decide)
  have lN : Lt 20000 4 (.int S.nights) := (Lt.int (by omega)).mono (by decide) (by decide)
  have lS : Lt 20000 4 (.int S.sellers) := (Lt.int (by omega)).mono (by decide) (by decide)
  have lH : Lt 20000 4 (.int S.share) := (Lt.int (by omega)).mono (by decide) (by decide)
  have lR4 : Lt 20000 4 (rowD S.rooms) := lR.mono (by decide) (by decide)
  have fin : ∀ {e : PyData}, Lt 100005 5 e → Lt 1000000 6 e := fun h => h.mono (by decide) (by decide)
  have dR : ∀ H', Fr [d] H2 H' → Da H' (.ref r) (rowD S.rooms) := fun H' f => .tup (f.tup _ _ er2) (by rw [List.length_map]; omega) (DaL.ofInts _)
  have dP : ∀ H', Fr [d] H2 H' → Da H' (.ref pp) (.tuple (S.prices.map rowD)) := fun H' f => .tup (f.tup _ _ ep2) (by omega) (DaL.frL f dps2 ipr)
  have dRa : ∀ H', Fr [d] H2 H' → Da H' (.ref ra) (rowD row) := fun H' f => .tup (f.tup _ _ era2) (by rw [List.length_map]; omega) (DaL.ofInts _)
  have lRa := lRow row hrm
  cases hD
  have fin2 : ∀ {e : PyData}, Lt 500005 6 e → Lt 1000000 6 e := fun h => h.mono (by decide) (by decide)
  unfold t_spoil9
  walk_at "go"
  rename_i y H3 y0 y1 f3 D3
  have e03 := f3.tup _ _ e02
  have er3 := f3.tup _ _ er2
  have ep3 := f3.tup _ _ ep2
  refine g_ite (fun c9 => ?_) (fun c9 => ?_)
  · walk_at "go"
    rename_i p4 H4 n4 f4 e4 w H5 w0 w1 f5 D5
    have D4 := D3.fr f4 nin0 nin0
    have e45 := f5.at e4 (nin1 (D3.new1 n4).symm nin0)
    have hy : w % 4 = 0 ∨ w % 4 = 1 ∨ w % 4 = 2 ∨ w % 4 = 3 := by omega
    have ⟨m, hat, m0, m1, mb⟩ : ∃ m : Int, atI [V.int 0, .int 13, .int 14, .int 365] (w % 4) = some (.int m) ∧ 0 ≤ m ∧ m ≤ 365 ∧ isF 1 12 (.int m) = false := by
      rcases hy with hy | hy | hy | hy
      · exact ⟨0, by rw [hy]; rfl, by decide, by decide, by decide⟩
      · exact ⟨13, by rw [hy]; rfl, by decide, by decide, by decide⟩
      · exact ⟨14, by rw [hy]; rfl, by decide, by decide, by decide⟩
      · exact ⟨365, by rw [hy]; rfl, by decide, by decide, by decide⟩
    refine g_ixL (SqL.of e45) hat ?_
    have F5 : Fr [d] H2 H5 := (f3.then0 f4).transL f5
    have er5 := F5.tup _ _ er2
    clear f4 f5 e4 e45 n4 D4 f3 e03 er3 ep3 D3 hat
    walk_at "go"
    rename_i q6 H6 n6 f6 e6
    refine g_mulA e6 (by simp) m0 (by omega) (by decide) fun q7 H7 f7 e7 => ?_
    rw [flat1] at e7
    have er7 := f7.tup _ _ (f6.tup _ _ er5)
    have D7 := (D5.fr f6 nin0 nin0).fr f7 nin0 nin0
    walk_at "go"
    rename_i q8 H8 n8 f8 e8
    have er8 := f8.tup _ _ er7
    walk_at "go"
    have hlr : ((S.rooms.map V.int).length : Int) = (S.rooms.length : Int) := by rw [List.length_map]
    rw [hlr]
    refine g_mulA e8 (by simp) (by omega) (by omega) (Nat.le_of_ble_eq_true rfl) fun q9 H9 f9 e9 => ?_
    rw [flat1] at e9
    walk_at "go"
    rename_i q10 H10 n10 f10 e10
    have G : Fr [] H7 H10 := (f8.then0 f9).then0 f10
    have F10 : Fr [d] H2 H10 := ((F5.then0 f6).then0 f7).then0 G
    have hm : (List.replicate m.toNat (V.int 5)).length ≤ 365 := by rw [List.length_replicate]; omega
    have d7 : Da H10 (.ref q7) (.tuple (List.replicate m.toNat (.int 5))) := .tup (G.tup _ _ e7) (by omega) (DaL.rep (.int 5) _)
    have l7 : Lt 16000 2 (.tuple (List.replicate m.toNat (.int 5))) := (Lt.tup (n := 365) (w := 41) (k := 0) (fun x hx => by rw [List.eq_of_mem_replicate hx]; exact Lt.int (by decide)) (by rw [List.length_replicate]; omega)).mono (by decide) (by decide)
    have hkn : (S.rooms.length : Int).toNat = S.rooms.length := by omega
    rw [hkn] at e9
    have l9 : Lt 50000 4 (.tuple (List.replicate S.rooms.length (.tuple (List.replicate m.toNat (.int 5))))) := (Lt.tup (n := 3) (w := 16000) (k := 2) (fun x hx => by rw [List.eq_of_mem_replicate hx]; exact l7) (by rw [List.length_replicate]; exact hk3)).mono (by decide) (by decide)
    have u : ∀ {e : PyData}, Lt 20000 4 e → Lt 50000 4 e := fun h => h.mono (by decide) (by decide)
    exact k2 _ _ H10 (da5 e10 (dR H10 F10) (.int m) (.int _) (.tup (f10.tup _ _ e9) (by rw [List.length_replicate]; omega) (DaL.rep d7 _)) (.int _)) (set_n mb) (fin2 ((lt5 (u lR4) ((Lt.int (by omega)).mono (by decide) (by decide)) (u lS) l9 (u lH)).mono (by decide) (by decide))) F10 (D7.fr G nin0 nin0)
  · walk_at "go"
    exact nx H3 f3 D3
theorem spq1 (T : Txt K mg A) {H2 : Hp} {d l sp r pp ra : Addr} {at' : Nat} {S : Setup} {prs : List V} {row : List Int} {z : Int} {Q : VK} {D : Ends} {R : TS} (hc : SpC H2 d l sp r pp ra at' S prs row) (k2 : SpQ d l H2 Q) (hD : D.rt = Q)
    (nx : R D (spS d sp r pp ra at' S z none none none) H2) : tSeq (t_spoil1 K A) R D (spS d sp r pp ra at' S z none none none) H2 := g_seq (spoil1 T hc k2 hD nx)
theorem spq2 (T : Txt K mg A) {H2 : Hp} {d l sp r pp ra : Addr} {at' : Nat} {S : Setup} {prs : List V} {row : List Int} {z : Int} {Q : VK} {D : Ends} {R : TS} (hc : SpC H2 d l sp r pp ra at' S prs row) (k2 : SpQ d l H2 Q) (hD : D.rt = Q)
    (nx : R D (spS d sp r pp ra at' S z none none none) H2) : tSeq (t_spoil2 K A) R D (spS d sp r pp ra at' S z none none none) H2 := g_seq (spoil2 T hc k2 hD nx)
theorem spq3 (T : Txt K mg A) {H2 : Hp} {d l sp r pp ra : Addr} {at' : Nat} {S : Setup} {prs : List V} {row : List Int} {z : Int} {Q : VK} {D : Ends} {R : TS} (hc : SpC H2 d l sp r pp ra at' S prs row) (k2 : SpQ d l H2 Q) (hD : D.rt = Q)
    (nx : R D (spS d sp r pp ra at' S z none none none) H2) : tSeq (t_spoil3 K A) R D (spS d sp r pp ra at' S z none none none) H2 := g_seq (spoil3 T hc k2 hD nx)
theorem spq4 (T : Txt K mg A) {H2 : Hp} {d l sp r pp ra : Addr} {at' : Nat} {S : Setup} {prs : List V} {row : List Int} {z : Int} {Q : VK} {D : Ends} {R : TS} (hc : SpC H2 d l sp r pp ra at' S prs row) (k2 : SpQ d l H2 Q) (hD : D.rt = Q)
    (nx : R D (spS d sp r pp ra at' S z none none none) H2) : tSeq (t_spoil4 K A) R D (spS d sp r pp ra at' S z none none none) H2 := g_seq (spoil4 T hc k2 hD nx)
theorem spq5 (T : Txt K mg A) {H2 : Hp} {d l sp r pp ra : Addr} {at' : Nat} {S : Setup} {prs : List V} {row : List Int} {z : Int} {Q : VK} {D : Ends} {R : TS} (hc : SpC H2 d l sp r pp ra at' S prs row) (k2 : SpQ d l H2 Q) (hD : D.rt = Q)
    (nx : R D (spS d sp r pp ra at' S z none none none) H2) : tSeq (t_spoil5 K A) R D (spS d sp r pp ra at' S z none none none) H2 := g_seq (spoil5 T hc k2 hD nx)
theorem spq6 (T : Txt K mg A) {H2 : Hp} {d l sp r pp ra : Addr} {at' : Nat} {S : Setup} {prs : List V} {row : List Int} {z : Int} {Q : VK} {D : Ends} {R : TS} (hc : SpC H2 d l sp r pp ra at' S prs row) (k2 : SpQ d l H2 Q) (hD : D.rt = Q)
    (nx : R D (spS d sp r pp ra at' S z none none none) H2) : tSeq (t_spoil6 K A) R D (spS d sp r pp ra at' S z none none none) H2 := g_seq (spoil6 T hc k2 hD nx)
theorem spq7 (T : Txt K mg A) {H2 : Hp} {d l sp r pp ra : Addr} {at' : Nat} {S : Setup} {prs : List V} {row : List Int} {z : Int} {Q : VK} {D : Ends} {R : TS} (hc : SpC H2 d l sp r pp ra at' S prs row) (k2 : SpQ d l H2 Q) (hD : D.rt = Q)
    (nx : R D (spS d sp r pp ra at' S z none none none) H2) : tSeq (t_spoil7 K A) R D (spS d sp r pp ra at' S z none none none) H2 := g_seq (spoil7 T hc k2 hD nx)
theorem spq8 (T : Txt K mg A) {H2 : Hp} {d l sp r pp ra : Addr} {at' : Nat} {S : Setup} {prs : List V} {row : List Int} {z : Int} {Q : VK} {D : Ends} {R : TS} (hc : SpC H2 d l sp r pp ra at' S prs row) (k2 : SpQ d l H2 Q) (hD : D.rt = Q)
    (nx : R D (spS d sp r pp ra at' S z none none none) H2) : tSeq (t_spoil8 K A) R D (spS d sp r pp ra at' S z none none none) H2 := g_seq (spoil8 T hc k2 hD nx)
theorem spq9 (T : Txt K mg A) {H2 : Hp} {d l sp r pp ra : Addr} {at' : Nat} {S : Setup} {prs : List V} {row : List Int} {z : Int} {Q : VK} {D : Ends} {R : TS} (hc : SpC H2 d l sp r pp ra at' S prs row) (k2 : SpQ d l H2 Q) (hD : D.rt = Q)
    (nx : ∀ H3, Fr [d] H2 H3 → Draws H3 d l → R D (spS d sp r pp ra at' S z none none none) H3) : tSeq (t_spoil9 K A) R D (spS d sp r pp ra at' S z none none none) H2 := g_seq (spoil9 T hc k2 hD nx)
theorem spoil_chain (T : Txt K mg A) {H2 : Hp} {d l sp r pp ra : Addr} {at' : Nat} {S : Setup} {prs : List V} {row : List Int} {z : Int} {Q : VK} {D : Ends} {R : TS} (hc : SpC H2 d l sp r pp ra at' S prs row) (k2 : SpQ d l H2 Q) (hD : D.rt = Q)
    (nx : ∀ H3, Fr [d] H2 H3 → Draws H3 d l → R D (spS d sp r pp ra at' S z none none none) H3) :
    t_spoil0 K A { D with nx := (tSeq (t_spoil1 K A) (tSeq (t_spoil2 K A) (tSeq (t_spoil3 K A) (tSeq (t_spoil4 K A) (tSeq (t_spoil5 K A) (tSeq (t_spoil6 K A) (tSeq (t_spoil7 K A) (tSeq (t_spoil8 K A) (tSeq (t_spoil9 K A) (R)))))))))) D } (spS d sp r pp ra at' S z none none none) H2 :=
  spoil0 T hc k2 hD (spq1 T hc k2 hD (spq2 T hc k2 hD (spq3 T hc k2 hD (spq4 T hc k2 hD (spq5 T hc k2 hD (spq6 T hc k2 hD (spq7 T hc k2 hD (spq8 T hc k2 hD (spq9 T hc k2 hD nx)))))))))
theorem pu_Lspoilt (T : Txt K mg A) {x0 x1 : V} {H : Hp} {Q : VK} (h : P_Lspoilt K A x0 x1 H Q) : t_Lspoilt K A { nx := fun _ H' => Q .non H', rt := Q } [some x0, some x1, none, none, none, none, none, none, none, none, none, none, none] H := by
  obtain ⟨d, l, S, rfl, D0, so, dS, k⟩ := h
  obtain ⟨sp, r, pp, prs, sa⟩ := SetAt.of dS
  cases sa.e
  have e0 := sa.t
  have er := sa.r
  have ep := sa.p
  have dps := sa.ps
  have hk1 := so.k1
  have hn1 := so.n1
  have hn2 := so.n2
  have hpl := so.pl
  have ipr : immL (S.prices.map rowD) = true := immL_of fun x hx => by obtain ⟨y, _, rfl⟩ := List.mem_map.mp hx; exact imm_row y
  unfold t_Lspoilt
  walk_at "go"
  rename_i y H1 y0 y1 f1 D1
  have hlr : ((S.rooms.map V.int).length : Int) = (S.rooms.length : Int) := by rw [List.length_map]
  rw [hlr]
  have a0 := Int.emod_nonneg y (show ((S.rooms.length : Nat) : Int) ≠ 0 by omega)
  have a1 := Int.emod_lt_of_pos y (show 0 < ((S.rooms.length : Nat) : Int) by omega)
  obtain ⟨at', hat⟩ : ∃ n : Nat, y % (S.rooms.length : Int) = (n : Int) := ⟨(y % (S.rooms.length : Int)).toNat, by omega⟩
  have hat1 : at' < S.rooms.length := by omega
  rw [hat]
  have hrow : S.prices[at']? = some S.prices[at'] := List.getElem?_eq_getElem (by omega)
  obtain ⟨ra, hra, era⟩ := sa.row hrow
  have hrm := List.mem_of_getElem? hrow
  generalize S.prices[at'] = row at *
  have e01 := f1.tup _ _ e0
  have er1 := f1.tup _ _ er
  have ep1 := f1.tup _ _ ep
  have era1 := f1.tup _ _ era
  have dps1 := DaL.frL f1 dps ipr
  have k1 : SpQ d l H1 Q := fun v e H' a b c f D => k v e H' a b c (f1.transL f) D
  clear k e0 er ep era dps dS D0 sa f1 a0 a1 hat hlr
  walk_at "go"
  refine g_ixT (SqT.of ep1) (atI_nat hra) ?_
  walk_at "go"
  rename_i z H2 z0 z1 f2 D2
  have sc : SpC H2 d l sp r pp ra at' S prs row := ⟨so, D2, f2.tup _ _ e01, f2.tup _ _ er1, f2.tup _ _ ep1, f2.tup _ _ era1, DaL.frL f2 dps1 ipr, hat1, hrm⟩
  have k2 : SpQ d l H2 Q := fun v e H' a b c f D => k1 v e H' a b c (f2.transL f) D
  have e02 := sc.e02
  clear k1 e01 er1 ep1 era1 dps1 D1 f2 hra
  refine spoil_chain (prs := prs) (row := row) (z := z % 10) T sc k2 rfl fun H3 f3 D3 => ?_
  walk_at "go"
  rename_i t4 H4 n4 f4 e4
  have F4 : Fr [d] H2 H4 := f3.then0 f4
  have hs1 := so.s1
  have hs2 := so.s2
  have hh1 := so.h1
  have hh2 := so.h2
  have hk3 := so.k3
  have hprl : prs.length = S.prices.length := by rw [sc.dps2.len, List.length_map]
  have lR : Lt 20000 4 (rowD S.rooms) := (lt_row (n := 3) (fun w hw => by have := so.rm w hw; omega) hk3).mono (by decide) (by decide)
  have lP : Lt 20000 4 (.tuple (S.prices.map rowD)) := (Lt.tup (n := 3) (w := 600) (k := 2) (fun x hx => by obtain ⟨w, hw, rfl⟩ := List.mem_map.mp hx; exact (lt_row (n := 12) (so.pn w hw).2 (by have := (so.pn w hw).1; omega)).mono (by decide) (by decide)) (by rw [List.length_map]; omega)).mono (by decide) (by decide)
  refine k2 _ _ H4 (da5 e4 (.tup (F4.tup _ _ sc.er2) (by rw [List.length_map]; omega) (DaL.ofInts _)) (.int (S.nights + 1)) (.int S.sellers) (.tup (F4.tup _ _ sc.ep2) (by omega) (DaL.frL F4 sc.dps2 ipr)) (.int S.share)) ?_ ((lt5 lR ((Lt.int (by omega)).mono (by decide) (by decide)) ((Lt.int (by omega)).mono (by decide) (by decide)) lP ((Lt.int (by omega)).mono (by decide) (by decide))).mono (by decide) (by decide)) F4 (D3.fr f4 nin0 nin0)
  by_cases h12 : S.nights = 12
  · exact set_n (by rw [h12]; decide)
  · refine set_p (prices_bad (e := rowD row) (List.mem_map.mpr ⟨row, hrm, rfl⟩) (row_len ?_))
    have := (so.pn row hrm).1
    show ¬ ((row.map PyData.int).length : Int) = S.nights + 1
    rw [List.length_map]; omega
theorem ok_Lspoilt {f : Addr} {fd : FuncData} (F : Fun K "_law_spoilt" "_law_spoilt" s_Lspoilt f fd) (T : Txt K mg A) (c_Ldraw : Cal P w K mg base "_law_draw" 2 ["_law_draws"] (sp_Ldraw K A)) (c_Lbad : Cal P w K mg base "_law_bad" 3 ["_law_draws", "_law_low", "_law_high"] (sp_Lbad K A)) : FnOk P w K mg base CX0 (4) f fd ["_law_draws", "_law_setup_here"] (sp_Lspoilt K A) := by
  refine F.ok sc_Lspoilt (fun vs H Q E h => ?_) (fun cdv Ar outer s H vs Q E hr h => ⟨t_Lspoilt K A, ?_, ?_⟩)
  · obtain ⟨x0, x1, rfl, _⟩ := h
    rfl
  · have hu := hu_of hr
    exact (pss_cons (ps_asg (pv 1) (pg_tup rfl (pgs_cons (pg_name (i := 2) sc_Lspoilt.nd rfl (Or.inl rfl)) (pgs_cons (pg_name (i := 3) sc_Lspoilt.nd rfl (Or.inl rfl)) (pgs_cons (pg_name (i := 4) sc_Lspoilt.nd rfl (Or.inl rfl)) (pgs_cons (pg_name (i := 5) sc_Lspoilt.nd rfl (Or.inl rfl)) (pgs_cons (pg_name (i := 6) sc_Lspoilt.nd rfl (Or.inl rfl)) pgs_nil)))))))
    (pss_cons (ps_set (i := 7) sc_Lspoilt.nd rfl (Or.inl rfl) (pe_op o_mod (pe_cl c_Ldraw (hr.mono (by first | decide | omega)) (by rfl) (pa_cons (pv 0) pa_nil)) (pe_callB b_len (by rfl) T.b_len (by decide +kernel) (pa_cons (pv 2) pa_nil))))
    (pss_cons (ps_set (i := 8) sc_Lspoilt.nd rfl (Or.inl rfl) (pe_ix ix_tup (pv 5) (pv 7) (fun _ _ => rfl)))
    (pss_cons (ps_set (i := 9) sc_Lspoilt.nd rfl (Or.inl rfl) (pe_op o_mod (pe_cl c_Ldraw (hr.mono (by first | decide | omega)) (by rfl) (pa_cons (pv 0) pa_nil)) pe_int))
    (pss_cons (ps_if (pt_cmpR op_eq (pv 9) pe_int (nomark _)) (pss_one (ps_ret (pe_tup (pa_cons (pe_op op_catA (pe_op op_catA (pe_slice sl_tup (pv 2) po_none (po_some (pv 7))) (pe_tup (pa_cons (pe_cl c_Lbad (hr.mono (by first | decide | omega)) (by rfl) (pa_cons (pv 0) (pa_cons pe_int (pa_cons pe_int pa_nil)))) pa_nil))) (pe_slice sl_tup (pv 2) (po_some (pe_op o_add (pv 7) pe_int)) po_none)) (pa_cons (pv 3) (pa_cons (pv 4) (pa_cons (pv 5) (pa_cons (pv 6) pa_nil)))))))) pss_nil)
    (pss_cons (ps_if (pt_cmpR op_eq (pv 9) pe_int (nomark _)) (pss_one (ps_ret (pe_tup (pa_cons (pv 2) (pa_cons (pe_cl c_Lbad (hr.mono (by first | decide | omega)) (by rfl) (pa_cons (pv 0) (pa_cons pe_int (pa_cons pe_int pa_nil)))) (pa_cons (pv 4) (pa_cons (pv 5) (pa_cons (pv 6) pa_nil)))))))) pss_nil)
    (pss_cons (ps_if (pt_cmpR op_eq (pv 9) pe_int (nomark _)) (pss_one (ps_ret (pe_tup (pa_cons (pv 2) (pa_cons (pv 3) (pa_cons (pe_cl c_Lbad (hr.mono (by first | decide | omega)) (by rfl) (pa_cons (pv 0) (pa_cons pe_int (pa_cons pe_int pa_nil)))) (pa_cons (pv 5) (pa_cons (pv 6) pa_nil)))))))) pss_nil)
    (pss_cons (ps_if (pt_cmpR op_eq (pv 9) pe_int (nomark _)) (pss_one (ps_ret (pe_tup (pa_cons (pv 2) (pa_cons (pv 3) (pa_cons (pv 4) (pa_cons (pv 5) (pa_cons (pe_cl c_Lbad (hr.mono (by first | decide | omega)) (by rfl) (pa_cons (pv 0) (pa_cons pe_int (pa_cons pe_int pa_nil)))) pa_nil)))))))) pss_nil)
    (pss_cons (ps_if (pt_cmpR op_eq (pv 9) pe_int (nomark _)) (pss_cons (ps_set (i := 10) sc_Lspoilt.nd rfl (Or.inl rfl) (pe_op o_mod (pe_cl c_Ldraw (hr.mono (by first | decide | omega)) (by rfl) (pa_cons (pv 0) pa_nil)) (pv 3)))
    (pss_cons (ps_set (i := 11) sc_Lspoilt.nd rfl (Or.inl rfl) (pe_op op_catA (pe_op op_catA (pe_slice sl_tup (pv 8) po_none (po_some (pv 10))) (pe_tup (pa_cons (pe_cl c_Lbad (hr.mono (by first | decide | omega)) (by rfl) (pa_cons (pv 0) (pa_cons pe_int (pa_cons (pe_op o_pow pe_int pe_int) pa_nil)))) pa_nil))) (pe_slice sl_tup (pv 8) (po_some (pe_op o_add (pv 10) pe_int)) po_none)))
    (pss_one (ps_ret (pe_tup (pa_cons (pv 2) (pa_cons (pv 3) (pa_cons (pv 4) (pa_cons (pe_op op_catA (pe_op op_catA (pe_slice sl_tup (pv 5) po_none (po_some (pv 7))) (pe_tup (pa_cons (pv 11) pa_nil))) (pe_slice sl_tup (pv 5) (po_some (pe_op o_add (pv 7) pe_int)) po_none)) (pa_cons (pv 6) pa_nil)))))))))) pss_nil)
    (pss_cons (ps_if (pt_cmpR op_eq (pv 9) pe_int (nomark _)) (pss_cons (ps_set (i := 11) sc_Lspoilt.nd rfl (Or.inl rfl) (pe_ix ix_list (pe_lst (pa_cons (pe_op op_catA (pv 8) (pe_tup (pa_cons pe_int pa_nil))) (pa_cons (pe_slice sl_tup (pv 8) (po_some pe_int) po_none) (pa_cons (pe_callTy b_list (by rfl) T.b_list (by decide +kernel) (pa_cons (pv 8) pa_nil)) (pa_cons pe_non pa_nil))))) (pe_op o_mod (pe_cl c_Ldraw (hr.mono (by first | decide | omega)) (by rfl) (pa_cons (pv 0) pa_nil)) pe_int) (fun _ _ => rfl)))
    (pss_one (ps_ret (pe_tup (pa_cons (pv 2) (pa_cons (pv 3) (pa_cons (pv 4) (pa_cons (pe_op op_catA (pe_op op_catA (pe_slice sl_tup (pv 5) po_none (po_some (pv 7))) (pe_tup (pa_cons (pv 11) pa_nil))) (pe_slice sl_tup (pv 5) (po_some (pe_op o_add (pv 7) pe_int)) po_none)) (pa_cons (pv 6) pa_nil))))))))) pss_nil)
    (pss_cons (ps_if (pt_cmpR op_eq (pv 9) pe_int (nomark _)) (pss_one (ps_ret (pe_ix ix_list (pe_lst (pa_cons (pe_tup (pa_cons (pv 2) (pa_cons (pv 3) (pa_cons (pv 4) (pa_cons (pe_op op_catA (pv 5) (pe_tup (pa_cons (pv 8) pa_nil))) (pa_cons (pv 6) pa_nil)))))) (pa_cons (pe_tup (pa_cons (pv 2) (pa_cons (pv 3) (pa_cons (pv 4) (pa_cons (pe_slice sl_tup (pv 5) (po_some pe_int) po_none) (pa_cons (pv 6) pa_nil)))))) (pa_cons (pe_tup (pa_cons (pv 2) (pa_cons (pv 3) (pa_cons (pv 4) (pa_cons (pe_callTy b_list (by rfl) T.b_list (by decide +kernel) (pa_cons (pv 5) pa_nil)) (pa_cons (pv 6) pa_nil)))))) (pa_cons (pe_tup (pa_cons (pv 2) (pa_cons (pv 3) (pa_cons (pv 4) (pa_cons pe_non (pa_cons (pv 6) pa_nil)))))) pa_nil))))) (pe_op o_mod (pe_cl c_Ldraw (hr.mono (by first | decide | omega)) (by rfl) (pa_cons (pv 0) pa_nil)) pe_int) (fun _ _ => rfl)))) pss_nil)
    (pss_cons (ps_if (pt_cmpR op_eq (pv 9) pe_int (nomark _)) (pss_one (ps_ret (pe_ix ix_list (pe_lst (pa_cons (pe_tup (pa_cons (pe_tup pa_nil) (pa_cons (pv 3) (pa_cons (pv 4) (pa_cons (pe_tup pa_nil) (pa_cons (pv 6) pa_nil)))))) (pa_cons (pe_tup (pa_cons (pe_op op_catA (pv 2) (pe_op op_mulA (pe_tup (pa_cons pe_int pa_nil)) pe_int)) (pa_cons (pv 3) (pa_cons (pv 4) (pa_cons (pe_op op_catA (pv 5) (pe_op op_mulA (pe_tup (pa_cons (pv 8) pa_nil)) pe_int)) (pa_cons (pv 6) pa_nil)))))) (pa_cons (pe_tup (pa_cons (pe_callTy b_list (by rfl) T.b_list (by decide +kernel) (pa_cons (pv 2) pa_nil)) (pa_cons (pv 3) (pa_cons (pv 4) (pa_cons (pv 5) (pa_cons (pv 6) pa_nil)))))) pa_nil)))) (pe_op o_mod (pe_cl c_Ldraw (hr.mono (by first | decide | omega)) (by rfl) (pa_cons (pv 0) pa_nil)) pe_int) (fun _ _ => rfl)))) pss_nil)
    (pss_cons (ps_if (pt_cmpR op_eq (pv 9) pe_int (nomark _)) (pss_one (ps_ret (pe_ix ix_list (pe_lst (pa_cons (pe_slice sl_tup (pv 1) po_none (po_some pe_int)) (pa_cons (pe_op op_catA (pv 1) (pe_tup (pa_cons pe_int pa_nil))) (pa_cons (pe_callTy b_list (by rfl) T.b_list (by decide +kernel) (pa_cons (pv 1) pa_nil)) (pa_cons pe_non (pa_cons pe_int (pa_cons pe_str pa_nil))))))) (pe_op o_mod (pe_cl c_Ldraw (hr.mono (by first | decide | omega)) (by rfl) (pa_cons (pv 0) pa_nil)) pe_int) (fun _ _ => rfl)))) pss_nil)
    (pss_cons (ps_if (pt_cmpR op_eq (pe_op o_mod (pe_cl c_Ldraw (hr.mono (by first | decide | omega)) (by rfl) (pa_cons (pv 0) pa_nil)) pe_int) pe_int (nomark _)) (pss_cons (ps_set (i := 12) sc_Lspoilt.nd rfl (Or.inl rfl) (pe_ix ix_list (pe_lst (pa_cons pe_int (pa_cons pe_int (pa_cons pe_int (pa_cons pe_int pa_nil))))) (pe_op o_mod (pe_cl c_Ldraw (hr.mono (by first | decide | omega)) (by rfl) (pa_cons (pv 0) pa_nil)) pe_int) (fun _ _ => rfl)))
    (pss_one (ps_ret (pe_tup (pa_cons (pv 2) (pa_cons (pv 12) (pa_cons (pv 4) (pa_cons (pe_op op_mulA (pe_tup (pa_cons (pe_op op_mulA (pe_tup (pa_cons pe_int pa_nil)) (pv 12)) pa_nil)) (pe_callB b_len (by rfl) T.b_len (by decide +kernel) (pa_cons (pv 2) pa_nil))) (pa_cons (pv 6) pa_nil))))))))) pss_nil)
    (pss_one (ps_ret (pe_tup (pa_cons (pv 2) (pa_cons (pe_op o_add (pv 3) pe_int) (pa_cons (pv 4) (pa_cons (pv 5) (pa_cons (pv 6) pa_nil))))))))))))))))))))))
  · obtain ⟨x0, x1, rfl, h⟩ := h
    exact pu_Lspoilt T h

theorem setup_isSet {S : Setup} (so : SetupOk S) : isSet (setupD S) = true := by
  have hk1 := so.k1
  have hk3 := so.k3
  have fr : ∀ {lo hi : Int} {r : List Int}, (∀ z ∈ r, lo ≤ z ∧ z ≤ hi) → (r.map PyData.int).all (isF lo hi) = true := fun {lo hi r} h => List.all_eq_true.mpr fun x hx => by
    obtain ⟨z, hz, rfl⟩ := List.mem_map.mp hx
    show (decide _ && decide _) = true
    rw [decide_eq_true (h z hz).1, decide_eq_true (h z hz).2]; rfl
  have one : ∀ {lo hi z : Int}, lo ≤ z → z ≤ hi → isF lo hi (.int z) = true := fun h1 h2 => by
    show (decide _ && decide _) = true
    rw [decide_eq_true h1, decide_eq_true h2]; rfl
  have hR : roomsOk (rowD S.rooms) = true := by
    show (decide _ && decide _ && _) = true
    rw [fr so.rm, decide_eq_true (by rw [List.length_map]; omega), decide_eq_true (by rw [List.length_map]; omega)]; rfl
  have hP : pricesOk (lenOf (rowD S.rooms)) (intOf (.int S.nights)) (.tuple (S.prices.map rowD)) = true := by
    have hn1 := so.n1
    show (decide _ && _) = true
    rw [decide_eq_true (by show _ = (((S.rooms.map PyData.int).length : Nat) : Int); rw [List.length_map, List.length_map, so.pl]), Bool.true_and]
    refine List.all_eq_true.mpr fun x hx => ?_
    obtain ⟨r, hr, rfl⟩ := List.mem_map.mp hx
    obtain ⟨h1, h2⟩ := so.pn r hr
    show (decide _ && _) = true
    rw [fr h2, decide_eq_true (by show _ = S.nights; rw [List.length_map]; omega)]; rfl
  show isSet (.tuple [_, _, _, _, _]) = true
  rw [isSet5, hR, hP, one so.n1 so.n2, one so.s1 so.s2, one so.h1 so.h2]; rfl
def P_Lis_setup (K : PySem.W.Frag) (A : Ad) (x0 : V) (H : Hp) (Q : VK) : Prop := ∃ d : PyData, Da H x0 d ∧ ∀ H', Fr [] H H' → Q (.bl (isSet d)) H'
def sp_Lis_setup (K : PySem.W.Frag) (A : Ad) : Sp := fun vs H Q _ => ∃ x0, vs = [x0] ∧ P_Lis_setup K A x0 H Q
theorem c_Lis_setup {K : PySem.W.Frag} {A : Ad} {x0 : V} {H : Hp} {Q : VK} {E : XK} (h : P_Lis_setup K A x0 H Q) : sp_Lis_setup K A [x0] H Q E := ⟨_, rfl, h⟩
theorem sc_Lis_setup : FnScope ["_law_value", "e"] ["_law_value"] (defScope s_Lis_setup) := ⟨rfl, rfl, rfl, by decide +kernel, rfl, by decide +kernel, by decide +kernel⟩
def t_Lis_setup (K : PySem.W.Frag) (A : Ad) : TS :=
  (tSeq (tTryAs K (.ref A.BadSetup) 1 (fun W0 => (tIfS (tTest (tOp rIsNotNon (tClX (sp_check_setup K A) W0 (tCons (tVar 0) tNil)) (tC .non))) (tRet (tC .non)) tNext))
    (fun a0 cls0 d0 => (tSeq (tIfS (tOr (tNot (tB (tCB (rIsEd K A.BadSetup a0 cls0 d0) (tCons (tVar 1) (tCons (tC (.ref A.ManydoorsError)) tNil))))) (tNot (tB (tCB (rIsEd K A.BadSetup a0 cls0 d0) (tCons (tVar 1) (tCons (tC (.ty "ValueError")) tNil)))))) (tRet (tC .non)) tNext)
    (tSeq (tIfS (tB (tCB (rIsETd K A.BadSetup a0 cls0 d0) (tCons (tVar 1) (tCons (tTup (tCons (tC (.ref A.BadDeed)) (tCons (tC (.ref A.BadHistory)) (tCons (tC (.ref A.BadLine)) (tCons (tC (.ref A.BadStay)) (tCons (tC (.ref A.BadText)) tNil)))))) tNil)))) (tRet (tC .non)) tNext)
    (tRet (tC (.bl false)))))) (fun _ _ _ _ => False))
    (tRet (tC (.bl true))))
theorem pu_Lis_setup (T : Txt K mg A) {x0 : V} {H : Hp} {Q : VK} (h : P_Lis_setup K A x0 H Q) : t_Lis_setup K A { nx := fun _ H' => Q .non H', rt := Q } [some x0, none] H := by
  obtain ⟨d, dd, k⟩ := h
  unfold t_Lis_setup
  walk_at "go"
  unfold tTryAs
  walk_at "go"
  refine c_check_setup ⟨d, dd, fun hs H' f => ?_, fun hs H' f => ?_⟩
  · walk_at "go"
    have := k H' f
    rw [hs] at this
    exact this
  · refine ⟨true, PySem.W.exm_ref T.x_BadSetup.s T.ec_BadSetup.hd T.x_BadSetup.t T.k_self, fun _ a n => ?_, fun z => nomatch z⟩
    walk_at "go"
    refine ⟨rfl, rfl, g_isE T.k_many ?_⟩
    walk_at "go"
    refine ⟨rfl, rfl, g_isEt T.k_ve ?_⟩
    walk_at "go"
    rename_i t H2 n2 f2 e2
    refine ⟨rfl, rfl, g_isET (cs := [A.BadDeed, A.BadHistory, A.BadLine, A.BadStay, A.BadText]) e2 T.k_oth ?_⟩
    walk_at "go"
    have kk := k H2 (f.then0 f2)
    rw [hs] at kk
    exact kk
theorem ok_Lis_setup {f : Addr} {fd : FuncData} (F : Fun K "_law_is_setup" "_law_is_setup" s_Lis_setup f fd) (T : Txt K mg A) (c_check_setup : CalX P w K mg base "check_setup" 4 ["setup"] (sp_check_setup K A)) : FnOk P w K mg base CX0 (5) f fd ["_law_value"] (sp_Lis_setup K A) := by
  refine F.ok sc_Lis_setup (fun vs H Q E h => ?_) (fun cdv Ar outer s H vs Q E hr h => ⟨t_Lis_setup K A, ?_, ?_⟩)
  · obtain ⟨x0, rfl, _⟩ := h
    rfl
  · have hu := hu_of hr
    exact (pss_cons (ps_try_as rfl rfl sc_Lis_setup.nd (i := 1) rfl rfl ⟨by rfl, by decide, .inl T.x_BadSetup.g⟩ takes_none5 (fun W0 pn0 xe0 tkW0 pw0 => (pss_one (ps_if (pt_cmpR c_notN (pe_clX c_check_setup (hr.mono (by first | decide | omega)) (by rfl) tkW0 (pa_cons (pv 0) pa_nil)) pe_non (nomark _)) (pss_one (ps_ret pe_non)) pss_nil)))
    (fun a0 oe0 cls0 d0 pn0 hz0 hf0 => (pss_cons (ps_if (PW.pt (pw_or (pt_not (pt_val (pe_callB (call_isEd T.ec_BadSetup hz0 hf0) (by rfl) T.b_isinstance (by decide +kernel) (pa_cons (pv 1) (pa_cons (pe_err T.x_ManydoorsError (by rfl)) pa_nil))))) (pw_or1 (pt_not (pt_val (pe_callB (call_isEd T.ec_BadSetup hz0 hf0) (by rfl) T.b_isinstance (by decide +kernel) (pa_cons (pv 1) (pa_cons (pe_bltn (by rfl) T.b_ValueError (by decide +kernel) (v := .ty "ValueError") rfl) pa_nil)))))))) (pss_one (ps_ret pe_non)) pss_nil)
    (pss_cons (ps_if (pt_val (pe_callB (call_isETd T.ec_BadSetup hz0 hf0) (by rfl) T.b_isinstance (by decide +kernel) (pa_cons (pv 1) (pa_cons (pe_tup (pa_cons (pe_err T.x_BadDeed (by rfl)) (pa_cons (pe_err T.x_BadHistory (by rfl)) (pa_cons (pe_err T.x_BadLine (by rfl)) (pa_cons (pe_err T.x_BadStay (by rfl)) (pa_cons (pe_err T.x_BadText (by rfl)) pa_nil)))))) pa_nil)))) (pss_one (ps_ret pe_non)) pss_nil)
    (pss_one (ps_ret pe_bl))))))
    (pss_one (ps_ret pe_bl)))
  · obtain ⟨x0, rfl, h⟩ := h
    exact pu_Lis_setup T h
def P_law (K : PySem.W.Frag) (A : Ad) (x0 : V) (H : Hp) (Q : VK) : Prop := ∃ (a : Addr) (ns : List Int), x0 = .ref a ∧ SqL K H a (ns.map V.int) ∧ ns.length ≤ 63 ∧ ∀ H', Q (.bl true) H'
def sp_law (K : PySem.W.Frag) (A : Ad) : Sp := fun vs H Q _ => ∃ x0, vs = [x0] ∧ P_law K A x0 H Q
theorem c_law {K : PySem.W.Frag} {A : Ad} {x0 : V} {H : Hp} {Q : VK} {E : XK} (h : P_law K A x0 H Q) : sp_law K A [x0] H Q E := ⟨_, rfl, h⟩
theorem sc_law : FnScope ["_law_script", "_law_draws", "_law_setup_here", "_law_spoilt_here", "_law_kept"] ["_law_script"] (defScope s_law) := ⟨rfl, rfl, rfl, by decide +kernel, rfl, by decide +kernel, by decide +kernel⟩
def t_law (K : PySem.W.Frag) (A : Ad) : TS :=
  (tSeq (tAsg (tLst (tCons (tCl (sp_Lnumbers K A) (tCons (tVar 0) tNil)) (tCons (tC (.int 0)) tNil))) (gName 1))
    (tSeq (tAsg (tCl (sp_Lsetup K A) (tCons (tVar 1) tNil)) (gName 2))
    (tSeq (tIfS (tTest (tOp rNotB (tCl (sp_Lis_setup K A) (tCons (tVar 2) tNil)) (tC (.bl true)))) (tRet (tC (.bl false))) tNext)
    (tSeq (tAsg (tCl (sp_Lspoilt K A) (tCons (tVar 1) (tCons (tVar 2) tNil))) (gName 3))
    (tSeq (tAsg (tCB rStrA (tCons (tVar 3) tNil)) (gName 4))
    (tRet (tAndV (tOp rIsB (tCl (sp_Lis_setup K A) (tCons (tVar 3) tNil)) (tC (.bl false))) (tOp rEq (tCB rStrA (tCons (tVar 3) tNil)) (tVar 4)))))))))
theorem pu_law (T : Txt K mg A) {x0 : V} {H : Hp} {Q : VK} (h : P_law K A x0 H Q) : t_law K A { nx := fun _ H' => Q .non H', rt := Q } [some x0, none, none, none, none] H := by
  obtain ⟨a, ns, rfl, hS, hl, k⟩ := h
  unfold t_law
  walk_at "go"
  refine c_Lnumbers ⟨a, ns, rfl, hS, hl, fun nl ms H1 n1 f1 e1 sm hm => ?_⟩
  walk_at "go"
  rename_i d H2 n2 f2 e2
  have D2 : Draws H2 d nl := ⟨ms, 0, e2, f2.at0 e1, sm, hm, Int.le_refl _⟩
  refine c_Lsetup ⟨d, nl, rfl, D2, fun sv S H3 so dS f3 D3 => ?_⟩
  clear hS f1 f2 f3 e1 e2 D2 n1 n2 sm hm
  walk_at "go"
  refine c_Lis_setup ⟨_, dS, fun H4 f4 => ?_⟩
  rw [setup_isSet so]
  walk_at "go"
  refine ⟨true, true, rfl, rfl, ?_⟩
  walk_at "go"
  refine g_iteNB (fun z => nomatch z) fun _ => ?_
  walk_at "go"
  have dS4 := Da.fr0 f4 _ _ dS
  have D4 := D3.fr f4 nin0 nin0
  clear dS f4 D3
  refine c_Lspoilt ⟨d, nl, S, rfl, D4, so, dS4, fun v e H5 dv hv lv f5 D5 => ?_⟩
  walk_at "go"
  refine g_strA dv (lv.tidy (by decide) (by decide)) ?_
  walk_at "go"
  refine c_Lis_setup ⟨_, dv, fun H6 f6 => ?_⟩
  rw [hv]
  walk_at "go"
  refine ⟨false, false, rfl, rfl, ?_⟩
  walk_at "go"
  refine g_iteB (fun _ => ?_) fun z => nomatch z
  walk_at "go"
  refine g_strA (Da.fr0 f6 _ _ dv) (lv.tidy (by decide) (by decide)) ?_
  walk_at "go"
  have e0 : decide (txtD e = txtD e) = true := decide_eq_true rfl
  first | exact k _ | (rw [e0]; exact k _)
theorem ok_law {f : Addr} {fd : FuncData} (F : Fun K "law" "law" s_law f fd) (T : Txt K mg A) (c_Lsetup : Cal P w K mg base "_law_setup" 3 ["_law_draws"] (sp_Lsetup K A)) (c_Lspoilt : Cal P w K mg base "_law_spoilt" 4 ["_law_draws", "_law_setup_here"] (sp_Lspoilt K A)) (c_Lnumbers : Cal P w K mg base "_law_numbers" 2 ["_law_script"] (sp_Lnumbers K A)) (c_Lis_setup : Cal P w K mg base "_law_is_setup" 5 ["_law_value"] (sp_Lis_setup K A)) : LawG P w K mg base (6) f fd ["_law_script"] (sp_law K A) := by
  refine Fun.law F sc_law (fun cdv s H vs Q E hr h => ⟨t_law K A, ?_, ?_⟩)
  · have hu := hu_of hr
    exact (pss_cons (ps_set (i := 1) sc_law.nd rfl (Or.inl rfl) (pe_lst (pa_cons (pe_cl c_Lnumbers (hr.mono (by first | decide | omega)) (by rfl) (pa_cons (pv 0) pa_nil)) (pa_cons pe_int pa_nil))))
    (pss_cons (ps_set (i := 2) sc_law.nd rfl (Or.inl rfl) (pe_cl c_Lsetup (hr.mono (by first | decide | omega)) (by rfl) (pa_cons (pv 1) pa_nil)))
    (pss_cons (ps_if (pt_cmpR op_notBl (pe_cl c_Lis_setup (hr.mono (by first | decide | omega)) (by rfl) (pa_cons (pv 2) pa_nil)) pe_bl (nomark _)) (pss_one (ps_ret pe_bl)) pss_nil)
    (pss_cons (ps_set (i := 3) sc_law.nd rfl (Or.inl rfl) (pe_cl c_Lspoilt (hr.mono (by first | decide | omega)) (by rfl) (pa_cons (pv 1) (pa_cons (pv 2) pa_nil))))
    (pss_cons (ps_set (i := 4) sc_law.nd rfl (Or.inl rfl) (pe_callTy (b_strA rfl (Nat.lt_of_le_of_lt (Nat.add_le_add_right (Nat.le_add_right _ _) 200) hr.un)) (by rfl) T.b_str (by decide +kernel) (pa_cons (pv 3) pa_nil)))
    (pss_one (ps_ret (pe_and (pe_cmpR op_isBl (pe_cl c_Lis_setup (hr.mono (by first | decide | omega)) (by rfl) (pa_cons (pv 3) pa_nil)) pe_bl (nomark _)) (pe_one (pe_cmpR op_eq (pe_callTy (b_strA rfl (Nat.lt_of_le_of_lt (Nat.add_le_add_right (Nat.le_add_right _ _) 200) hr.un)) (by rfl) T.b_str (by decide +kernel) (pa_cons (pv 3) pa_nil)) (pv 4) (nomark _)))))))))))
  · obtain ⟨x0, rfl, h⟩ := h
    exact pu_law T h

end
/-! ### what the top has written -/
theorem all_mk {l : PySem.W.OpenLaw} {w : World} {K : PySem.W.Frag} {h : Heap} {mg : Str → Option Value} {fa : Addr} (X : K.In h) (G : h.Ns mainGlobals mg) (hfa : mg "law" = some (.ref fa))
    {f1 : Addr} {od1 an1 : Option Addr} {sl1 : Array (Option Value)} {oc1 kV1 dc1 pm1 cd1 ct1 : Value}
    {f2 : Addr} {od2 an2 : Option Addr} {sl2 : Array (Option Value)} {oc2 kV2 dc2 pm2 cd2 ct2 : Value}
    {f3 : Addr} {od3 an3 : Option Addr} {sl3 : Array (Option Value)} {oc3 kV3 dc3 pm3 cd3 ct3 : Value}
    {f4 : Addr} {od4 an4 : Option Addr} {sl4 : Array (Option Value)} {oc4 kV4 dc4 pm4 cd4 ct4 : Value}
    {f5 : Addr} {od5 an5 : Option Addr} {sl5 : Array (Option Value)} {oc5 kV5 dc5 pm5 cd5 ct5 : Value}
    {f6 : Addr} {od6 an6 : Option Addr} {sl6 : Array (Option Value)} {oc6 kV6 dc6 pm6 cd6 ct6 : Value}
    {f7 : Addr} {od7 an7 : Option Addr} {sl7 : Array (Option Value)} {oc7 kV7 dc7 pm7 cd7 ct7 : Value}
    {f8 : Addr} {od8 an8 : Option Addr} {sl8 : Array (Option Value)} {oc8 kV8 dc8 pm8 cd8 ct8 : Value}
    {f9 : Addr} {od9 an9 : Option Addr} {sl9 : Array (Option Value)} {oc9 kV9 dc9 pm9 cd9 ct9 : Value}
    {f10 : Addr} {od10 an10 : Option Addr} {sl10 : Array (Option Value)} {oc10 kV10 dc10 pm10 cd10 ct10 : Value}
    {f11 : Addr} {od11 an11 : Option Addr} {sl11 : Array (Option Value)} {oc11 kV11 dc11 pm11 cd11 ct11 : Value}
    {f12 : Addr} {od12 an12 : Option Addr} {sl12 : Array (Option Value)} {oc12 kV12 dc12 pm12 cd12 ct12 : Value}
    {C_ManydoorsError : Addr}
    {C_BadSetup : Addr}
    {C_BadDeed : Addr}
    {C_BadStay : Addr}
    {C_BadHistory : Addr}
    {C_BadText : Addr}
    {C_BadLine : Addr}
    {tk_DEAREST : Tok}
    {tk_KINDS : Tok}
    {tk_NIGHTS : Tok}
    {tk_SELLERS : Tok}
    {tk_ROOMS : Tok}
    (a1 : PySem.W.nsIn K mainGlobals "is_integer" = some (some (.ref f1)))
    (l1 : K.lookup f1 = some ⟨oc1, od1, .func (PySem.W.fnOf "is_integer" "is_integer" (defArgs s_is_integer) (defBody s_is_integer) (defScope s_is_integer) .none kV1 dc1 pm1 an1 cd1 ct1), sl1⟩)
    (c1 : PySem.W.codeIn K cd1 "is_integer" = true)
    (k1 : PySem.W.keepIn K (.ref f1) = true)
    (a2 : PySem.W.nsIn K mainGlobals "is_from" = some (some (.ref f2)))
    (l2 : K.lookup f2 = some ⟨oc2, od2, .func (PySem.W.fnOf "is_from" "is_from" (defArgs s_is_from) (defBody s_is_from) (defScope s_is_from) .none kV2 dc2 pm2 an2 cd2 ct2), sl2⟩)
    (c2 : PySem.W.codeIn K cd2 "is_from" = true)
    (k2 : PySem.W.keepIn K (.ref f2) = true)
    (a3 : PySem.W.nsIn K mainGlobals "are_prices" = some (some (.ref f3)))
    (l3 : K.lookup f3 = some ⟨oc3, od3, .func (PySem.W.fnOf "are_prices" "are_prices" (defArgs s_are_prices) (defBody s_are_prices) (defScope s_are_prices) .none kV3 dc3 pm3 an3 cd3 ct3), sl3⟩)
    (c3 : PySem.W.codeIn K cd3 "are_prices" = true)
    (k3 : PySem.W.keepIn K (.ref f3) = true)
    (a4 : PySem.W.nsIn K mainGlobals "check_setup" = some (some (.ref f4)))
    (l4 : K.lookup f4 = some ⟨oc4, od4, .func (PySem.W.fnOf "check_setup" "check_setup" (defArgs s_check_setup) (defBody s_check_setup) (defScope s_check_setup) .none kV4 dc4 pm4 an4 cd4 ct4), sl4⟩)
    (c4 : PySem.W.codeIn K cd4 "check_setup" = true)
    (k4 : PySem.W.keepIn K (.ref f4) = true)
    (a5 : PySem.W.nsIn K mainGlobals "_law_mixed" = some (some (.ref f5)))
    (l5 : K.lookup f5 = some ⟨oc5, od5, .func (PySem.W.fnOf "_law_mixed" "_law_mixed" (defArgs s_Lmixed) (defBody s_Lmixed) (defScope s_Lmixed) .none kV5 dc5 pm5 an5 cd5 ct5), sl5⟩)
    (c5 : PySem.W.codeIn K cd5 "_law_mixed" = true)
    (k5 : PySem.W.keepIn K (.ref f5) = true)
    (a6 : PySem.W.nsIn K mainGlobals "_law_numbers" = some (some (.ref f6)))
    (l6 : K.lookup f6 = some ⟨oc6, od6, .func (PySem.W.fnOf "_law_numbers" "_law_numbers" (defArgs s_Lnumbers) (defBody s_Lnumbers) (defScope s_Lnumbers) .none kV6 dc6 pm6 an6 cd6 ct6), sl6⟩)
    (c6 : PySem.W.codeIn K cd6 "_law_numbers" = true)
    (k6 : PySem.W.keepIn K (.ref f6) = true)
    (a7 : PySem.W.nsIn K mainGlobals "_law_draw" = some (some (.ref f7)))
    (l7 : K.lookup f7 = some ⟨oc7, od7, .func (PySem.W.fnOf "_law_draw" "_law_draw" (defArgs s_Ldraw) (defBody s_Ldraw) (defScope s_Ldraw) .none kV7 dc7 pm7 an7 cd7 ct7), sl7⟩)
    (c7 : PySem.W.codeIn K cd7 "_law_draw" = true)
    (k7 : PySem.W.keepIn K (.ref f7) = true)
    (a8 : PySem.W.nsIn K mainGlobals "_law_setup" = some (some (.ref f8)))
    (l8 : K.lookup f8 = some ⟨oc8, od8, .func (PySem.W.fnOf "_law_setup" "_law_setup" (defArgs s_Lsetup) (defBody s_Lsetup) (defScope s_Lsetup) .none kV8 dc8 pm8 an8 cd8 ct8), sl8⟩)
    (c8 : PySem.W.codeIn K cd8 "_law_setup" = true)
    (k8 : PySem.W.keepIn K (.ref f8) = true)
    (a9 : PySem.W.nsIn K mainGlobals "_law_bad" = some (some (.ref f9)))
    (l9 : K.lookup f9 = some ⟨oc9, od9, .func (PySem.W.fnOf "_law_bad" "_law_bad" (defArgs s_Lbad) (defBody s_Lbad) (defScope s_Lbad) .none kV9 dc9 pm9 an9 cd9 ct9), sl9⟩)
    (c9 : PySem.W.codeIn K cd9 "_law_bad" = true)
    (k9 : PySem.W.keepIn K (.ref f9) = true)
    (a10 : PySem.W.nsIn K mainGlobals "_law_spoilt" = some (some (.ref f10)))
    (l10 : K.lookup f10 = some ⟨oc10, od10, .func (PySem.W.fnOf "_law_spoilt" "_law_spoilt" (defArgs s_Lspoilt) (defBody s_Lspoilt) (defScope s_Lspoilt) .none kV10 dc10 pm10 an10 cd10 ct10), sl10⟩)
    (c10 : PySem.W.codeIn K cd10 "_law_spoilt" = true)
    (k10 : PySem.W.keepIn K (.ref f10) = true)
    (a11 : PySem.W.nsIn K mainGlobals "_law_is_setup" = some (some (.ref f11)))
    (l11 : K.lookup f11 = some ⟨oc11, od11, .func (PySem.W.fnOf "_law_is_setup" "_law_is_setup" (defArgs s_Lis_setup) (defBody s_Lis_setup) (defScope s_Lis_setup) .none kV11 dc11 pm11 an11 cd11 ct11), sl11⟩)
    (c11 : PySem.W.codeIn K cd11 "_law_is_setup" = true)
    (k11 : PySem.W.keepIn K (.ref f11) = true)
    (a12 : PySem.W.nsIn K mainGlobals "law" = some (some (.ref f12)))
    (l12 : K.lookup f12 = some ⟨oc12, od12, .func (PySem.W.fnOf "law" "law" (defArgs s_law) (defBody s_law) (defScope s_law) .none kV12 dc12 pm12 an12 cd12 ct12), sl12⟩)
    (c12 : PySem.W.codeIn K cd12 "law" = true)
    (k12 : PySem.W.keepIn K (.ref f12) = true)
    (aC_ManydoorsError : PySem.W.nsIn K mainGlobals "ManydoorsError" = some (some (.ref C_ManydoorsError)))
    (kx_ManydoorsError : PySem.W.keepIn K (.ref C_ManydoorsError) = true)
    (ex_ManydoorsError : PySem.W.excIn K C_ManydoorsError [.type "ValueError", .type "Exception", .type "BaseException", .type "object"] "ValueError.__new__" = true)
    (sx_ManydoorsError : PySem.W.subIn K (.ref C_ManydoorsError) (.type "BaseException") = some true)
    (tx_ManydoorsError : PySem.W.typeIn K (.ref C_ManydoorsError) = some (.type "type"))
    (aC_BadSetup : PySem.W.nsIn K mainGlobals "BadSetup" = some (some (.ref C_BadSetup)))
    (kx_BadSetup : PySem.W.keepIn K (.ref C_BadSetup) = true)
    (ex_BadSetup : PySem.W.excIn K C_BadSetup [.type "ValueError", .type "Exception", .type "BaseException", .type "object"] "ValueError.__new__" = true)
    (sx_BadSetup : PySem.W.subIn K (.ref C_BadSetup) (.type "BaseException") = some true)
    (tx_BadSetup : PySem.W.typeIn K (.ref C_BadSetup) = some (.type "type"))
    (aC_BadDeed : PySem.W.nsIn K mainGlobals "BadDeed" = some (some (.ref C_BadDeed)))
    (kx_BadDeed : PySem.W.keepIn K (.ref C_BadDeed) = true)
    (ex_BadDeed : PySem.W.excIn K C_BadDeed [.type "ValueError", .type "Exception", .type "BaseException", .type "object"] "ValueError.__new__" = true)
    (sx_BadDeed : PySem.W.subIn K (.ref C_BadDeed) (.type "BaseException") = some true)
    (tx_BadDeed : PySem.W.typeIn K (.ref C_BadDeed) = some (.type "type"))
    (aC_BadStay : PySem.W.nsIn K mainGlobals "BadStay" = some (some (.ref C_BadStay)))
    (kx_BadStay : PySem.W.keepIn K (.ref C_BadStay) = true)
    (ex_BadStay : PySem.W.excIn K C_BadStay [.type "ValueError", .type "Exception", .type "BaseException", .type "object"] "ValueError.__new__" = true)
    (sx_BadStay : PySem.W.subIn K (.ref C_BadStay) (.type "BaseException") = some true)
    (tx_BadStay : PySem.W.typeIn K (.ref C_BadStay) = some (.type "type"))
    (aC_BadHistory : PySem.W.nsIn K mainGlobals "BadHistory" = some (some (.ref C_BadHistory)))
    (kx_BadHistory : PySem.W.keepIn K (.ref C_BadHistory) = true)
    (ex_BadHistory : PySem.W.excIn K C_BadHistory [.type "ValueError", .type "Exception", .type "BaseException", .type "object"] "ValueError.__new__" = true)
    (sx_BadHistory : PySem.W.subIn K (.ref C_BadHistory) (.type "BaseException") = some true)
    (tx_BadHistory : PySem.W.typeIn K (.ref C_BadHistory) = some (.type "type"))
    (aC_BadText : PySem.W.nsIn K mainGlobals "BadText" = some (some (.ref C_BadText)))
    (kx_BadText : PySem.W.keepIn K (.ref C_BadText) = true)
    (ex_BadText : PySem.W.excIn K C_BadText [.type "ValueError", .type "Exception", .type "BaseException", .type "object"] "ValueError.__new__" = true)
    (sx_BadText : PySem.W.subIn K (.ref C_BadText) (.type "BaseException") = some true)
    (tx_BadText : PySem.W.typeIn K (.ref C_BadText) = some (.type "type"))
    (aC_BadLine : PySem.W.nsIn K mainGlobals "BadLine" = some (some (.ref C_BadLine)))
    (kx_BadLine : PySem.W.keepIn K (.ref C_BadLine) = true)
    (ex_BadLine : PySem.W.excIn K C_BadLine [.type "ValueError", .type "Exception", .type "BaseException", .type "object"] "ValueError.__new__" = true)
    (sx_BadLine : PySem.W.subIn K (.ref C_BadLine) (.type "BaseException") = some true)
    (tx_BadLine : PySem.W.typeIn K (.ref C_BadLine) = some (.type "type"))
    (gk_DEAREST : PySem.W.nsIn K mainGlobals "DEAREST" = some (some (.int 1000000 tk_DEAREST)))
    (gk_KINDS : PySem.W.nsIn K mainGlobals "KINDS" = some (some (.int 3 tk_KINDS)))
    (gk_NIGHTS : PySem.W.nsIn K mainGlobals "NIGHTS" = some (some (.int 12 tk_NIGHTS)))
    (gk_SELLERS : PySem.W.nsIn K mainGlobals "SELLERS" = some (some (.int 4 tk_SELLERS)))
    (gk_ROOMS : PySem.W.nsIn K mainGlobals "ROOMS" = some (some (.int 4 tk_ROOMS)))
    (y1_BadSetup : PySem.W.findIn K (.ref C_BadSetup) "__getattribute__" = some (some (.builtin "BaseException.__getattribute__")))
    (y2_BadSetup : PySem.W.findIn K (.ref C_BadSetup) "__getattr__" = some none)
    (y3_BadSetup : PySem.W.hasDictIn K C_BadSetup = true)
    (y4_BadSetup : PySem.W.findIn K (.ref C_BadSetup) "__class__" = some (some (.builtin "object.__class__")))
    (y5_BadSetup : PySem.W.specialIn K (.builtin "object.__class__") "__get__" = some (some (.builtin "getset_descriptor.__get__")))
    (y6_BadSetup : PySem.W.takesIn K (.builtin "object.__class__") = some true)
    (y7_BadSetup : PySem.W.mroIn K C_BadSetup (.type "object") = some true)
    (q_k_self : PySem.W.subIn K (.ref C_BadSetup) (.ref C_BadSetup) = some true)
    (q_k_many : PySem.W.kitOne K (.ref C_BadSetup) (.ref C_ManydoorsError) = some true)
    (q_k_ve : PySem.W.kitOne K (.ref C_BadSetup) (.type "ValueError") = some true)
    (q_k_oth : PySem.W.kitAny K (.ref C_BadSetup) [.ref C_BadDeed, .ref C_BadHistory, .ref C_BadLine, .ref C_BadStay, .ref C_BadText] = some false)
    (z_isinstance : PySem.W.nsIn K mainGlobals "isinstance" = some none)
    (z_int : PySem.W.nsIn K mainGlobals "int" = some none)
    (z_bool : PySem.W.nsIn K mainGlobals "bool" = some none)
    (z_tuple : PySem.W.nsIn K mainGlobals "tuple" = some none)
    (z_len : PySem.W.nsIn K mainGlobals "len" = some none)
    (z_all : PySem.W.nsIn K mainGlobals "all" = some none)
    (z_range : PySem.W.nsIn K mainGlobals "range" = some none)
    (z_list : PySem.W.nsIn K mainGlobals "list" = some none)
    (z_ValueError : PySem.W.nsIn K mainGlobals "ValueError" = some none)
    (z_str : PySem.W.nsIn K mainGlobals "str" = some none)
    : ∃ fd : FuncData, (∀ (s : Shared) (v : Value), BindsTo s fd ⟨[v], []⟩ [("_law_script", v)]) ∧ ∀ base : Heap, K.In base → base.Ns mainGlobals mg → LawG l.prog w K mg base 6 fa fd ["_law_script"] (spLaw K) := by
  have e := hfa.symm.trans (PySem.W.mg_of X G a12)
  cases e
  let A : Ad := ⟨C_ManydoorsError, C_BadSetup, C_BadDeed, C_BadStay, C_BadHistory, C_BadText, C_BadLine⟩
  have T : Txt K mg A := { b_isinstance := PySem.W.mg_none_of X G z_isinstance, b_int := PySem.W.mg_none_of X G z_int, b_bool := PySem.W.mg_none_of X G z_bool, b_tuple := PySem.W.mg_none_of X G z_tuple, b_len := PySem.W.mg_none_of X G z_len, b_all := PySem.W.mg_none_of X G z_all, b_range := PySem.W.mg_none_of X G z_range, b_list := PySem.W.mg_none_of X G z_list, b_ValueError := PySem.W.mg_none_of X G z_ValueError, b_str := PySem.W.mg_none_of X G z_str, g_DEAREST := ⟨_, PySem.W.mg_of X G gk_DEAREST⟩, g_KINDS := ⟨_, PySem.W.mg_of X G gk_KINDS⟩, g_NIGHTS := ⟨_, PySem.W.mg_of X G gk_NIGHTS⟩, g_SELLERS := ⟨_, PySem.W.mg_of X G gk_SELLERS⟩, g_ROOMS := ⟨_, PySem.W.mg_of X G gk_ROOMS⟩, x_ManydoorsError := ⟨PySem.W.mg_of X G aC_ManydoorsError, kx_ManydoorsError, ex_ManydoorsError, sx_ManydoorsError, tx_ManydoorsError⟩, x_BadSetup := ⟨PySem.W.mg_of X G aC_BadSetup, kx_BadSetup, ex_BadSetup, sx_BadSetup, tx_BadSetup⟩, x_BadDeed := ⟨PySem.W.mg_of X G aC_BadDeed, kx_BadDeed, ex_BadDeed, sx_BadDeed, tx_BadDeed⟩, x_BadStay := ⟨PySem.W.mg_of X G aC_BadStay, kx_BadStay, ex_BadStay, sx_BadStay, tx_BadStay⟩, x_BadHistory := ⟨PySem.W.mg_of X G aC_BadHistory, kx_BadHistory, ex_BadHistory, sx_BadHistory, tx_BadHistory⟩, x_BadText := ⟨PySem.W.mg_of X G aC_BadText, kx_BadText, ex_BadText, sx_BadText, tx_BadText⟩, x_BadLine := ⟨PySem.W.mg_of X G aC_BadLine, kx_BadLine, ex_BadLine, sx_BadLine, tx_BadLine⟩, ec_BadSetup := ⟨y1_BadSetup, y2_BadSetup, sx_BadSetup, y3_BadSetup, y4_BadSetup, y5_BadSetup, y6_BadSetup, y7_BadSetup⟩, k_self := q_k_self, k_many := q_k_many, k_ve := q_k_ve, k_oth := q_k_oth }
  have F1 := fun_mk (st := s_is_integer) l1 c1 k1
  have b1 := F1.binds (ps := ["value"]) fun _ _ _ _ _ _ us hl => match us, hl with | [_], _ => rfl
  have F2 := fun_mk (st := s_is_from) l2 c2 k2
  have b2 := F2.binds (ps := ["value", "least", "most"]) fun _ _ _ _ _ _ us hl => match us, hl with | [_, _, _], _ => rfl
  have F3 := fun_mk (st := s_are_prices) l3 c3 k3
  have b3 := F3.binds (ps := ["prices", "kinds", "nights"]) fun _ _ _ _ _ _ us hl => match us, hl with | [_, _, _], _ => rfl
  have F4 := fun_mk (st := s_check_setup) l4 c4 k4
  have b4 := F4.binds (ps := ["setup"]) fun _ _ _ _ _ _ us hl => match us, hl with | [_], _ => rfl
  have F5 := fun_mk (st := s_Lmixed) l5 c5 k5
  have b5 := F5.binds (ps := ["_law_number", "_law_k"]) fun _ _ _ _ _ _ us hl => match us, hl with | [_, _], _ => rfl
  have F6 := fun_mk (st := s_Lnumbers) l6 c6 k6
  have b6 := F6.binds (ps := ["_law_script"]) fun _ _ _ _ _ _ us hl => match us, hl with | [_], _ => rfl
  have F7 := fun_mk (st := s_Ldraw) l7 c7 k7
  have b7 := F7.binds (ps := ["_law_draws"]) fun _ _ _ _ _ _ us hl => match us, hl with | [_], _ => rfl
  have F8 := fun_mk (st := s_Lsetup) l8 c8 k8
  have b8 := F8.binds (ps := ["_law_draws"]) fun _ _ _ _ _ _ us hl => match us, hl with | [_], _ => rfl
  have F9 := fun_mk (st := s_Lbad) l9 c9 k9
  have b9 := F9.binds (ps := ["_law_draws", "_law_low", "_law_high"]) fun _ _ _ _ _ _ us hl => match us, hl with | [_, _, _], _ => rfl
  have F10 := fun_mk (st := s_Lspoilt) l10 c10 k10
  have b10 := F10.binds (ps := ["_law_draws", "_law_setup_here"]) fun _ _ _ _ _ _ us hl => match us, hl with | [_, _], _ => rfl
  have F11 := fun_mk (st := s_Lis_setup) l11 c11 k11
  have b11 := F11.binds (ps := ["_law_value"]) fun _ _ _ _ _ _ us hl => match us, hl with | [_], _ => rfl
  have F12 := fun_mk (st := s_law) l12 c12 k12
  have b12 := F12.binds (ps := ["_law_script"]) fun _ _ _ _ _ _ us hl => match us, hl with | [_], _ => rfl
  refine ⟨PySem.W.fnOf "law" "law" (defArgs s_law) (defBody s_law) (defScope s_law) .none kV12 dc12 pm12 an12 cd12 ct12, fun s v => .of_eq rfl, fun base _ _ => ?_⟩
  have o_is_integer := ok_is_integer (P := l.prog) (w := w) (base := base) F1 T 
  have e_is_integer : Cal l.prog w K mg base "is_integer" 1 ["value"] (sp_is_integer K A) := ⟨⟨_, _, o_is_integer, PySem.W.mg_of X G a1, k1, b1⟩⟩
  have o_is_from := ok_is_from (P := l.prog) (w := w) (base := base) F2 T e_is_integer
  have e_is_from : Cal l.prog w K mg base "is_from" 2 ["value", "least", "most"] (sp_is_from K A) := ⟨⟨_, _, o_is_from, PySem.W.mg_of X G a2, k2, b2⟩⟩
  have o_are_prices := ok_are_prices (P := l.prog) (w := w) (base := base) F3 T e_is_from
  have e_are_prices : Cal l.prog w K mg base "are_prices" 3 ["prices", "kinds", "nights"] (sp_are_prices K A) := ⟨⟨_, _, o_are_prices, PySem.W.mg_of X G a3, k3, b3⟩⟩
  have o_check_setup := ok_check_setup (P := l.prog) (w := w) (base := base) F4 T e_is_from e_are_prices
  have e_check_setup : CalX l.prog w K mg base "check_setup" 4 ["setup"] (sp_check_setup K A) := ⟨⟨_, _, o_check_setup, PySem.W.mg_of X G a4, k4, b4⟩⟩
  have o_Lmixed := ok_Lmixed (P := l.prog) (w := w) (base := base) F5 T 
  have e_Lmixed : Cal l.prog w K mg base "_law_mixed" 1 ["_law_number", "_law_k"] (sp_Lmixed K A) := ⟨⟨_, _, o_Lmixed, PySem.W.mg_of X G a5, k5, b5⟩⟩
  have o_Lnumbers := ok_Lnumbers (P := l.prog) (w := w) (base := base) F6 T e_Lmixed
  have e_Lnumbers : Cal l.prog w K mg base "_law_numbers" 2 ["_law_script"] (sp_Lnumbers K A) := ⟨⟨_, _, o_Lnumbers, PySem.W.mg_of X G a6, k6, b6⟩⟩
  have o_Ldraw := ok_Ldraw (P := l.prog) (w := w) (base := base) F7 T e_Lmixed
  have e_Ldraw : Cal l.prog w K mg base "_law_draw" 2 ["_law_draws"] (sp_Ldraw K A) := ⟨⟨_, _, o_Ldraw, PySem.W.mg_of X G a7, k7, b7⟩⟩
  have o_Lsetup := ok_Lsetup (P := l.prog) (w := w) (base := base) F8 T e_Ldraw
  have e_Lsetup : Cal l.prog w K mg base "_law_setup" 3 ["_law_draws"] (sp_Lsetup K A) := ⟨⟨_, _, o_Lsetup, PySem.W.mg_of X G a8, k8, b8⟩⟩
  have o_Lbad := ok_Lbad (P := l.prog) (w := w) (base := base) F9 T e_Ldraw
  have e_Lbad : Cal l.prog w K mg base "_law_bad" 3 ["_law_draws", "_law_low", "_law_high"] (sp_Lbad K A) := ⟨⟨_, _, o_Lbad, PySem.W.mg_of X G a9, k9, b9⟩⟩
  have o_Lspoilt := ok_Lspoilt (P := l.prog) (w := w) (base := base) F10 T e_Ldraw e_Lbad
  have e_Lspoilt : Cal l.prog w K mg base "_law_spoilt" 4 ["_law_draws", "_law_setup_here"] (sp_Lspoilt K A) := ⟨⟨_, _, o_Lspoilt, PySem.W.mg_of X G a10, k10, b10⟩⟩
  have o_Lis_setup := ok_Lis_setup (P := l.prog) (w := w) (base := base) F11 T e_check_setup
  have e_Lis_setup : Cal l.prog w K mg base "_law_is_setup" 5 ["_law_value"] (sp_Lis_setup K A) := ⟨⟨_, _, o_Lis_setup, PySem.W.mg_of X G a11, k11, b11⟩⟩
  have o := ok_law (P := l.prog) (w := w) (base := base) F12 T e_Lsetup e_Lspoilt e_Lnumbers e_Lis_setup
  exact ⟨fun s H us vs Q E r e b v u h => o.go s H us vs Q E r e b v u h⟩
theorem walk {l : PySem.W.OpenLaw} {q : Program} {loose : List Str} {XP : (Str → Option Value) → Heap → Prop} {YP : World → Heap → Prop} {d : DefRec} {K : Params → PySem.W.Frag} (hn : l.most = some 63) (hdf : d.params.defaults = [])
    (hY : ∀ (w : World) (h : Heap), YP w h → (K w.params).In h)
    (F : ∀ (w : World) (mg : Str → Option Value) (fa : Addr) (h : Heap), (K w.params).In h → h.Ns mainGlobals mg → mg d.name = some (.ref fa) →
      ∃ fd : FuncData, (∀ (s : Shared) (u : Value), BindsTo s fd ⟨[u], []⟩ [("_law_script", u)]) ∧ ∀ base : Heap, (K w.params).In base → base.Ns mainGlobals mg → LawG l.prog w (K w.params) mg base 6 fa fd ["_law_script"] (spLaw (K w.params))) :
    PySem.W.WalkO q loose XP YP l.row.toRowW d [] (fun f vs => PySem.call f vs) :=
  walkG (n := 63) (k := 6) (x := "_law_script") (sp := fun w => spLaw (K w.params)) hn (by decide) hdf ⟨rfl, by decide, by decide⟩ hY F (fun _ _ a ns hl hS => ⟨_, rfl, a, ns, rfl, hS, hl, fun _ => rfl⟩)
end Toy
open PySem PySem.W PyProof.Rows in
set_option maxRecDepth 100000 in
set_option maxHeartbeats 0 in
theorem PySem.Challenge.cw_manydoors_k01_setups_are_checked_holds : PySem.Challenge.rw_manydoors_k01_setups_are_checked.Holds := by
  w_on; o_law; k_head; (case hw => w_witness2)
  k_fill
  refine Toy.walk (l := PySem.Challenge.rw_manydoors_k01_setups_are_checked) rfl rfl (fun w h Y => PySem.W.kIn_of Y) ?F
  case F =>
    intro w mg fa h KX G hmg
    refine' Toy.all_mk KX G hmg ?a1 ?l1 ?c1 ?k1 ?a2 ?l2 ?c2 ?k2 ?a3 ?l3 ?c3 ?k3 ?a4 ?l4 ?c4 ?k4 ?a5 ?l5 ?c5 ?k5 ?a6 ?l6 ?c6 ?k6 ?a7 ?l7 ?c7 ?k7 ?a8 ?l8 ?c8 ?k8 ?a9 ?l9 ?c9 ?k9 ?a10 ?l10 ?c10 ?k10 ?a11 ?l11 ?c11 ?k11 ?a12 ?l12 ?c12 ?k12 ?aC_ManydoorsError ?kx_ManydoorsError ?ex_ManydoorsError ?sx_ManydoorsError ?tx_ManydoorsError ?aC_BadSetup ?kx_BadSetup ?ex_BadSetup ?sx_BadSetup ?tx_BadSetup ?aC_BadDeed ?kx_BadDeed ?ex_BadDeed ?sx_BadDeed ?tx_BadDeed ?aC_BadStay ?kx_BadStay ?ex_BadStay ?sx_BadStay ?tx_BadStay ?aC_BadHistory ?kx_BadHistory ?ex_BadHistory ?sx_BadHistory ?tx_BadHistory ?aC_BadText ?kx_BadText ?ex_BadText ?sx_BadText ?tx_BadText ?aC_BadLine ?kx_BadLine ?ex_BadLine ?sx_BadLine ?tx_BadLine ?gk_DEAREST ?gk_KINDS ?gk_NIGHTS ?gk_SELLERS ?gk_ROOMS ?y1_BadSetup ?y2_BadSetup ?y3_BadSetup ?y4_BadSetup ?y5_BadSetup ?y6_BadSetup ?y7_BadSetup ?q_k_self ?q_k_many ?q_k_ve ?q_k_oth ?z_isinstance ?z_int ?z_bool ?z_tuple ?z_len ?z_all ?z_range ?z_list ?z_ValueError ?z_str
    (case a1 => k_is)
    (case l1 => k_is)
    (case c1 => k_is)
    (case k1 => k_is)
    (case a2 => k_is)
    (case l2 => k_is)
    (case c2 => k_is)
    (case k2 => k_is)
    (case a3 => k_is)
    (case l3 => k_is)
    (case c3 => k_is)
    (case k3 => k_is)
    (case a4 => k_is)
    (case l4 => k_is)
    (case c4 => k_is)
    (case k4 => k_is)
    (case a5 => k_is)
    (case l5 => k_is)
    (case c5 => k_is)
    (case k5 => k_is)
    (case a6 => k_is)
    (case l6 => k_is)
    (case c6 => k_is)
    (case k6 => k_is)
    (case a7 => k_is)
    (case l7 => k_is)
    (case c7 => k_is)
    (case k7 => k_is)
    (case a8 => k_is)
    (case l8 => k_is)
    (case c8 => k_is)
    (case k8 => k_is)
    (case a9 => k_is)
    (case l9 => k_is)
    (case c9 => k_is)
    (case k9 => k_is)
    (case a10 => k_is)
    (case l10 => k_is)
    (case c10 => k_is)
    (case k10 => k_is)
    (case a11 => k_is)
    (case l11 => k_is)
    (case c11 => k_is)
    (case k11 => k_is)
    (case a12 => k_is)
    (case l12 => k_is)
    (case c12 => k_is)
    (case k12 => k_is)
    (case aC_ManydoorsError => k_is)
    (case kx_ManydoorsError => k_is)
    (case ex_ManydoorsError => k_exc)
    (case sx_ManydoorsError => k_is)
    (case tx_ManydoorsError => k_is)
    (case aC_BadSetup => k_is)
    (case kx_BadSetup => k_is)
    (case ex_BadSetup => k_exc)
    (case sx_BadSetup => k_is)
    (case tx_BadSetup => k_is)
    (case aC_BadDeed => k_is)
    (case kx_BadDeed => k_is)
    (case ex_BadDeed => k_exc)
    (case sx_BadDeed => k_is)
    (case tx_BadDeed => k_is)
    (case aC_BadStay => k_is)
    (case kx_BadStay => k_is)
    (case ex_BadStay => k_exc)
    (case sx_BadStay => k_is)
    (case tx_BadStay => k_is)
    (case aC_BadHistory => k_is)
    (case kx_BadHistory => k_is)
    (case ex_BadHistory => k_exc)
    (case sx_BadHistory => k_is)
    (case tx_BadHistory => k_is)
    (case aC_BadText => k_is)
    (case kx_BadText => k_is)
    (case ex_BadText => k_exc)
    (case sx_BadText => k_is)
    (case tx_BadText => k_is)
    (case aC_BadLine => k_is)
    (case kx_BadLine => k_is)
    (case ex_BadLine => k_exc)
    (case sx_BadLine => k_is)
    (case tx_BadLine => k_is)
    (case gk_DEAREST => k_is)
    (case gk_KINDS => k_is)
    (case gk_NIGHTS => k_is)
    (case gk_SELLERS => k_is)
    (case gk_ROOMS => k_is)
    (case y1_BadSetup => k_is)
    (case y2_BadSetup => k_is)
    (case y3_BadSetup => k_is)
    (case y4_BadSetup => k_is)
    (case y5_BadSetup => k_is)
    (case y6_BadSetup => k_is)
    (case y7_BadSetup => k_is)
    (case q_k_self => k_is)
    (case q_k_many => kit_is)
    (case q_k_ve => kit_is)
    (case q_k_oth => kit_is)
    (case z_isinstance => k_is)
    (case z_int => k_is)
    (case z_bool => k_is)
    (case z_tuple => k_is)
    (case z_len => k_is)
    (case z_all => k_is)
    (case z_range => k_is)
    (case z_list => k_is)
    (case z_ValueError => k_is)
    (case z_str => k_is)
#print axioms PySem.Challenge.cw_manydoors_k01_setups_are_checked_holds


