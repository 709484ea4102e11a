import PyProof.Rows.All
import Wide.All
import OpenK.AllK
import Wide.FinOn
import HandS.ForMost
import HandS.IsInst
import HandS.Evl
import PySem.Challenge.RW_manydoors_k07_wires
set_option Elab.async false
set_option linter.all false
set_option maxRecDepth 100000
set_option maxHeartbeats 4000000
namespace Lw
open PySem L2

/-! ### frames: what a piece of code leaves as it was -/
structure Fr (l : List Addr) (H H' : Hp) : Prop where
  keep : ∀ a o, H a = some o → a ∉ l → H' a = some o
  tup : ∀ a xs, H a = some (.tup xs) → H' a = some (.tup xs)
theorem Fr.refl {l : List Addr} {H : Hp} : Fr l H H := ⟨fun _ _ h _ => h, fun _ _ h => h⟩
theorem Fr.mono {l m : List Addr} {H H' : Hp} (f : Fr l H H') (h : ∀ a, a ∈ l → a ∈ m) : Fr m H H' := ⟨fun a o e n => f.keep a o e fun q => n (h a q), f.tup⟩
theorem Fr.of0 {m : List Addr} {H H' : Hp} (f : Fr [] H H') : Fr m H H' := f.mono fun _ q => nomatch q
theorem Fr.new {H : Hp} {p : Addr} {o : HO} (h : H p = none) : Fr [] H (upd H p o) := ⟨fun a u e _ => by rw [upd_ne (ne_of_none e h)]; exact e, fun a u e => by rw [upd_ne (ne_of_none e h)]; exact e⟩
def notTup : HO → Prop
  | .tup _ => False
  | _ => True
theorem Fr.put {H : Hp} {p : Addr} {o u : HO} (h : H p = some u) (hu : notTup u) : Fr [p] H (upd H p o) := by
  refine ⟨fun a v e n => ?_, fun a v e => ?_⟩
  · rw [upd_ne fun q => n (List.mem_singleton.mpr q)]; exact e
  · by_cases q : a = p
    · subst q; rw [h] at e; cases e; exact hu.elim
    · rw [upd_ne q]; exact e
theorem Fr.trans {l m : List Addr} {H H1 H2 : Hp} (f : Fr l H H1) (g : Fr m H1 H2) : Fr (l ++ m) H H2 :=
  ⟨fun a o e n => g.keep a o (f.keep a o e fun q => n (List.mem_append_left _ q)) fun q => n (List.mem_append_right _ q), fun a xs e => g.tup a xs (f.tup a xs e)⟩
theorem Fr.transL {l : List Addr} {H H1 H2 : Hp} (f : Fr l H H1) (g : Fr l H1 H2) : Fr l H H2 := (f.trans g).mono fun _ q => (List.mem_append.mp q).elim id id
theorem Fr.then0 {l : List Addr} {H H1 H2 : Hp} (f : Fr l H H1) (g : Fr [] H1 H2) : Fr l H H2 := f.transL g.of0
theorem Fr.pre0 {l : List Addr} {H H1 H2 : Hp} (f : Fr [] H H1) (g : Fr l H1 H2) : Fr l H H2 := f.of0.transL g
/-- an address that was not tracked may be written -/
theorem Fr.drop {l : List Addr} {p : Addr} {H H' : Hp} (f : Fr (p :: l) H H') (h : H p = none) : Fr l H H' :=
  ⟨fun a o e n => f.keep a o e fun q => (List.mem_cons.mp q).elim (fun z => by rw [z, h] at e; cases e) n, f.tup⟩
theorem Fr.free {H H' : Hp} {p : Addr} (f : Fr [] H H') (h : H' p = none) : H p = none := by
  cases q : H p with
  | none => rfl
  | some o => rw [f.keep p o q (by simp)] at h; cases h
theorem Fr.freeL {l : List Addr} {H H' : Hp} {p : Addr} (f : Fr l H H') (h : H' p = none) (n : p ∉ l) : H p = none := by
  cases q : H p with
  | none => rfl
  | some o => rw [f.keep p o q n] at h; cases h
/-- new objects may change -/
theorem Fr.own {l m : List Addr} {H H' H2 : Hp} (f : Fr l H H') (g : Fr m H' H2) (n : ∀ a, a ∈ m → a ∈ l ∨ H a = none) : Fr l H H2 :=
  ⟨fun a o e na => g.keep a o (f.keep a o e na) fun q => (n a q).elim na (fun z => by rw [z] at e; cases e), fun a xs e => g.tup a xs (f.tup a xs e)⟩
theorem Fr.own1 {l : List Addr} {p : Addr} {H H' H2 : Hp} (f : Fr l H H') (g : Fr [p] H' H2) (n : H p = none) : Fr l H H2 := f.own g fun a q => .inr (by rw [List.mem_singleton.mp q]; exact n)
theorem frn0 {l : List Addr} {H : Hp} : ∀ a, a ∈ ([] : List Addr) → a ∈ l ∨ H a = none := fun _ q => nomatch q
theorem frn1 {p : Addr} {l m : List Addr} {H : Hp} (h : p ∈ l ∨ H p = none) (t : ∀ a, a ∈ m → a ∈ l ∨ H a = none) : ∀ a, a ∈ p :: m → a ∈ l ∨ H a = none := fun a q => (List.mem_cons.mp q).elim (fun e => e ▸ h) (t a)
theorem nin0 {a : Addr} : a ∉ ([] : List Addr) := by simp
theorem nin1 {a b : Addr} {l : List Addr} (h : a ≠ b) (t : a ∉ l) : a ∉ b :: l := by simp [h, t]
theorem Fr.at0 {H H' : Hp} {a : Addr} {o : HO} (f : Fr [] H H') (h : H a = some o) : H' a = some o := f.keep a o h nin0
theorem Fr.at {l : List Addr} {H H' : Hp} {a : Addr} {o : HO} (f : Fr l H H') (h : H a = some o) (n : a ∉ l) : H' a = some o := f.keep a o h n
theorem Fr.sql {K : PySem.W.Frag} {l : List Addr} {H H' : Hp} {a : Addr} {xs : List V} (f : Fr l H H') (h : SqL K H a xs) (n : a ∉ l) : SqL K H' a xs := by
  rcases h with (h | ⟨o, h⟩) | h
  · exact .inl (.inl (f.keep _ _ h n))
  · exact .inl (.inr ⟨o, f.keep _ _ h n⟩)
  · exact .inr h

/-! ### operators by name -/
def oAdd : R2 := rI0 fun i j => .int (i + j)
def oSub : R2 := rI0 fun i j => .int (i - j)
def oMul : R2 := rI CMul fun i j => .int (i * j)
def oMod : R2 := rI (fun _ j => 0 < j) fun i j => .int (i % j)
def oDiv : R2 := rI CDiv fun i j => .int (i / j)
def oPow : R2 := rI CPow fun i j => .int (i ^ j.toNat)
def cLt : R2 := rI0 fun i j => .bl (decide (i < j))
def cLe : R2 := rI0 fun i j => .bl (decide (i ≤ j))
def cGt : R2 := rI0 fun i j => .bl (decide (j < i))
def cGe : R2 := rI0 fun i j => .bl (decide (j ≤ i))
section
variable {X : Cx}
theorem o_add : OpR X (binaryOp .Add) oAdd := op_add
theorem o_sub : OpR X (binaryOp .Sub) oSub := op_sub
theorem o_mul : OpR X (binaryOp .Mult) oMul := op_mul
theorem o_mod : OpR X (binaryOp .Mod) oMod := op_mod
theorem o_div : OpR X (binaryOp .FloorDiv) oDiv := op_fdiv
theorem o_pow : OpR X (binaryOp .Pow) oPow := op_pow
theorem c_lt : OpR X (compareOp .Lt) cLt := op_lt
theorem c_le : OpR X (compareOp .LtE) cLe := op_le
theorem c_gt : OpR X (compareOp .Gt) cGt := op_gt
theorem c_ge : OpR X (compareOp .GtE) cGe := op_ge
/-- len -/
def rLenSq (K : PySem.W.Frag) : List V → Hp → VK → Prop := fun xs H Q => ∃ p ys, xs = [.ref p] ∧ (SqL K H p ys ∨ SqT K H p ys) ∧ Q (.int ys.length) H
def rLenStr : List V → Hp → VK → Prop := fun xs H Q => ∃ z, xs = [.str z] ∧ z.length ≤ sizeLine ∧ Q (.int z.length) H
theorem b_len : CallR X (.builtin "len") (rLenSq X.K) := call_len_seq
theorem b_lenS : CallR X (.builtin "len") rLenStr := call_len_str
/-- list(..), tuple(..) -/
def rListOf (K : PySem.W.Frag) : List V → Hp → VK → Prop := fun xs H Q => ∃ p ys, xs = [.ref p] ∧ (SqL K H p ys ∨ SqT K H p ys) ∧ ∀ l, H l = none → Q (.ref l) (upd H l (.lst ys))
def rTupOf (K : PySem.W.Frag) : List V → Hp → VK → Prop := fun xs H Q => ∃ p ys, xs = [.ref p] ∧ ((SqL K H p ys ∧ ∀ l, H l = none → Q (.ref l) (upd H l (.tup ys))) ∨ (SqT K H p ys ∧ Q (.ref p) H))
theorem b_list : CallR X (.type "list") (rListOf X.K) := call_list_of
theorem b_tuple : CallR X (.type "tuple") (rTupOf X.K) := call_tuple_of
def rMax2 : List V → Hp → VK → Prop := fun xs H Q => ∃ i j, xs = [.int i, .int j] ∧ Q (.int (if j > i then j else i)) H
def rMin2 : List V → Hp → VK → Prop := fun xs H Q => ∃ i j, xs = [.int i, .int j] ∧ Q (.int (if j < i then j else i)) H
theorem b_max2 (hc : X.calm = true) : CallR X (.builtin "max") rMax2 := call_max2 hc
theorem b_min2 (hc : X.calm = true) : CallR X (.builtin "min") rMin2 := call_min2 hc
def rIsNon : R2 := fun x y H Q => y = .non ∧ Q (.bl (decide (x = .non))) H
def rIsNotNon : R2 := fun x y H Q => y = .non ∧ Q (.bl (!decide (x = .non))) H
theorem c_isN : OpR X (compareOp .Is) rIsNon := op_isN
theorem c_notN : OpR X (compareOp .IsNot) rIsNotNon := op_notN
/-- a value's truth, as a test -/
def tTr (K : PySem.W.Frag) (ta : TE) : TT := fun σ H Q => ta σ H fun x H' => ∃ k, TruV K x H' k ∧ Q k H'
theorem pt_tr {a : Expr} {ta : TE} (ha : PE X a ta) (he : ∀ whole, isTrue a X.env whole = (do let v ← whole; standAt a.pos; holding [v] (truthy v))) : PT X a (tTr X.K ta) := pt_truth ha he

/-! ### calls -/
def tCl (sp : Sp) (t : TA) : TE := fun σ H Q => t σ H fun vs H1 => sp vs H1 Q E0
def rMt (C : Addr) (m : Str) (x : V) (H : Hp) (p : Prop) : Prop := ∃ a dx fs, x = .ref a ∧ H a = some (.ins C dx fs) ∧ fs.lookup m = none ∧ p
def tMt (C : Addr) (m : Str) (sp : Sp) (ta : TE) (t : TA) : TE := fun σ H Q => ta σ H fun x H1 => rMt C m x H1 (t σ H1 fun vs H2 => sp (x :: vs) H2 Q E0)
def tMk (C : Addr) (sp : Sp) (t : TA) : TE := fun σ H Q => t σ H fun vs H1 => ∀ x dx, H1 x = none → H1 dx = none → dx ≠ x →
  sp (.ref x :: vs) (upd (upd H1 dx (.own x)) x (.ins C dx [])) (fun v H2 => v = .non ∧ Q (.ref x) H2) E0
/-- a def of the text, to be called by its name -/
structure Cal (P : Program) (w : World) (K : PySem.W.Frag) (mg : Str → Option Value) (base : Heap) (x : Str) (k : Nat) (ps : List Str) (sp : Sp) : Prop where
  ex : ∃ f fd, FnOk P w K mg base CX0 k f fd ps sp ∧ mg x = some (.ref f) ∧ PySem.W.keepIn K (.ref f) = true ∧ Binds K fd ps []
/-- a method of the class at C -/
structure CalM (P : Program) (w : World) (K : PySem.W.Frag) (mg : Str → Option Value) (base : Heap) (C : Addr) (m : Str) (k : Nat) (ps : List Str) (sp : Sp) : Prop where
  ex : ∃ f fd, FnOk P w K mg base CX0 k f fd ps sp ∧ Meth K C m f ∧ Binds K fd ps []
/-- a class, to be called by its name -/
structure CalC (P : Program) (w : World) (K : PySem.W.Frag) (mg : Str → Option Value) (base : Heap) (x : Str) (C : Addr) (k : Nat) (ps : List Str) (sp : Sp) : Prop where
  ex : ∃ f fd, FnOk P w K mg base CX0 k f fd ps sp ∧ Mk K C f ∧ mg x = some (.ref C) ∧ Binds K fd ps []
variable {k : Nat} {ps : List Str} {sp : Sp} {x m : Str} {p pos apos : Pos} {e o : Expr} {es : List Expr} {ta : TE} {t : TA} {C : Addr}
theorem tcl_eq {E : XK} : (tCall sp [] E0 t) = tCl sp t := by
  funext σ H Q
  show (t σ H fun vs H1 => sp (vs ++ []) H1 Q E0) = (t σ H fun vs H1 => sp vs H1 Q E0)
  simp only [List.append_nil]
theorem pe_cl (c : Cal X.prog X.w X.K X.mg X.base x k ps sp) (hr : Room k X.A) (hg : Gl X x) (ha : PA X (e :: es) t) (hdb : (x == ("__debug__" : Str)) = false := by decide)
    (he : starEach (e :: es) X.env = (false, eval e X.env) :: starEach es X.env := by rfl) (hpl : (backTo pos (starEach es X.env)).any (·.1) = false := by rfl) : PE X (.Call (.Name x p) (e :: es) [] pos) (tCl sp t) := by
  obtain ⟨f, fd, F, hm, hk, hb⟩ := c.ex
  rw [← tcl_eq (E := E0)]
  exact pe_call F hr hg hm hk hb .nil pass0 ha hdb he hpl
theorem pe_cl0 (c : Cal X.prog X.w X.K X.mg X.base x k ps sp) (hr : Room k X.A) (hg : Gl X x) (hdb : (x == ("__debug__" : Str)) = false := by decide) : PE X (.Call (.Name x p) [] [] pos) (tCl sp tNil) := by
  obtain ⟨f, fd, F, hm, hk, hb⟩ := c.ex
  rw [← tcl_eq (E := E0)]
  exact pe_call0 F hr hg hm hk hb .nil pass0 hdb
theorem tmt_eq : (tMeth C m sp [] E0 ta t) = tMt C m sp ta t := by
  funext σ H Q
  show (ta σ H fun x H1 => ∃ a dx fs, x = .ref a ∧ H1 a = some (.ins C dx fs) ∧ fs.lookup m = none ∧ t σ H1 fun vs H2 => sp (x :: (vs ++ [])) H2 Q E0) = _
  simp only [List.append_nil]
  rfl
theorem tmk_eq : (tMake C sp [] E0 t) = tMk C sp t := by
  funext σ H Q
  show (t σ H fun vs H1 => ∀ x dx, H1 x = none → H1 dx = none → dx ≠ x → sp (.ref x :: (vs ++ [])) (upd (upd H1 dx (.own x)) x (.ins C dx [])) (fun v H2 => v = .non ∧ Q (.ref x) H2) E0) = _
  simp only [List.append_nil]
  rfl
theorem pe_mt {pl : Sem Bool} (he : PE X o ta) (c : Cls X.K C) (cm : CalM X.prog X.w X.K X.mg X.base C m k ps sp) (hr : Room k X.A) (ha : PA X (e :: es) t)
    (hst : starEach (e :: es) X.env = (false, eval e X.env) :: starEach es X.env := by rfl) (hpl : (backTo pos (starEach es X.env)).any (·.1) = false := by rfl)
    (ht : eval (.Call (.Attribute o m apos) (e :: es) [] pos) X.env = (do
      let ov ← eval o X.env
      standAt apos.atName
      let (f, first) ← holding [ov] (getMethod ov m pl)
      callWith pos f first (backTo pos (starEach (e :: es) X.env)) (backToKw pos (keywordEach [] X.env))) := by rfl) :
    PE X (.Call (.Attribute o m apos) (e :: es) [] pos) (tMt C m sp ta t) := by
  obtain ⟨f, fd, F, hm, hb⟩ := cm.ex
  rw [← tmt_eq]
  exact pe_meth (pl := pl) he c hm F hr hb .nil pass0 ha hst hpl ht
theorem pe_mt0 {pl : Sem Bool} (he : PE X o ta) (c : Cls X.K C) (cm : CalM X.prog X.w X.K X.mg X.base C m k ps sp) (hr : Room k X.A)
    (ht : eval (.Call (.Attribute o m apos) [] [] pos) X.env = (do
      let ov ← eval o X.env
      standAt apos.atName
      let (f, first) ← holding [ov] (getMethod ov m pl)
      callWith pos f first (backTo pos (starEach [] X.env)) (backToKw pos (keywordEach [] X.env))) := by rfl) :
    PE X (.Call (.Attribute o m apos) [] [] pos) (tMt C m sp ta tNil) := by
  obtain ⟨f, fd, F, hm, hb⟩ := cm.ex
  rw [← tmt_eq]
  exact pe_meth0 (pl := pl) he c hm F hr hb .nil pass0 ht
theorem pe_mk (cm : CalC X.prog X.w X.K X.mg X.base x C k ps sp) (hr : Room (k + 1) X.A) (hg : Gl X x) (ha : PA X (e :: es) t) (hdb : (x == ("__debug__" : Str)) = false := by decide)
    (he : starEach (e :: es) X.env = (false, eval e X.env) :: starEach es X.env := by rfl) (hpl : (backTo pos (starEach es X.env)).any (·.1) = false := by rfl) :
    PE X (.Call (.Name x p) (e :: es) [] pos) (tMk C sp t) := by
  obtain ⟨f, fd, F, hM, hm, hb⟩ := cm.ex
  rw [← tmk_eq]
  exact pe_make hM F hr hg hm hb .nil pass0 ha hdb he hpl
theorem pe_mk0 (cm : CalC X.prog X.w X.K X.mg X.base x C k ps sp) (hr : Room (k + 1) X.A) (hg : Gl X x) (hdb : (x == ("__debug__" : Str)) = false := by decide) :
    PE X (.Call (.Name x p) [] [] pos) (tMk C sp tNil) := by
  obtain ⟨f, fd, F, hM, hm, hb⟩ := cm.ex
  rw [← tmk_eq]
  exact pe_make0 hM F hr hg hm hb .nil pass0 hdb
end

/-! ### readings, one step each -/
section
variable {K : PySem.W.Frag} {σ : L2.St} {H H' : Hp} {Q : VK} {D : Ends} {i : Nat} {v x y : V} {ta tb te tc : TE} {r : R2} {t u : TS} {c d : TT} {as tr : TA} {g : TG} {a b : Int} {p C dx : Addr} {QB : Bool → Hp → Prop} {QL : List V → Hp → Prop}
theorem g_seq (h : t { D with nx := u D } σ H) : tSeq t u D σ H := h
theorem g_cut (M : L2.St → Hp → Prop) (h : t { D with nx := M } σ H) (k : ∀ σ' H', M σ' H' → u D σ' H') : Evl.tCut t u D σ H := ⟨M, h, k⟩
theorem g_next (h : D.nx σ H) : tNext D σ H := h
theorem g_brk (h : D.bk σ H) : tBreak D σ H := h
theorem g_cont (h : D.ct σ H) : tCont D σ H := h
theorem g_asg (h : te σ H (fun v H' => g v σ H' D.nx)) : tAsg te g D σ H := h
theorem g_name {QS : L2.St → Hp → Prop} (h : QS (σ.set i (some v)) H) : gName i v σ H QS := h
theorem g_ret (h : te σ H D.rt) : tRet te D σ H := h
theorem g_retN (h : D.rt .non H) : tRetN D σ H := h
theorem g_drop (h : te σ H (fun _ H' => D.nx σ H')) : tDrop te D σ H := h
theorem g_ifs (h : c σ H (fun b H' => if b = true then t D σ H' else u D σ H')) : tIfS c t u D σ H := h
theorem g_aug {ti : TIp} (hx : σ[i]? = some (some x)) (h : te σ H (fun y H1 => ti x y H1 fun z H2 => D.nx (σ.set i (some z)) H2)) : tAug i te ti D σ H := ⟨x, hx, h⟩
theorem g_ipI {f : Int → Int → Int} (h : Q (.int (f a b)) H) : ipI f (.int a) (.int b) H Q := ⟨a, b, rfl, rfl, h⟩
theorem g_var (hx : σ[i]? = some (some v)) (h : Q v H) : tVar i σ H Q := ⟨v, hx, h⟩
theorem g_c (h : Q v H) : tC v σ H Q := h
theorem g_op (h : ta σ H (fun x H1 => tb σ H1 fun y H2 => r x y H2 Q)) : tOp r ta tb σ H Q := h
theorem g_add (h : Q (.int (a + b)) H) : oAdd (.int a) (.int b) H Q := ⟨a, b, rfl, rfl, h⟩
theorem g_sub (h : Q (.int (a - b)) H) : oSub (.int a) (.int b) H Q := ⟨a, b, rfl, rfl, h⟩
theorem g_mul (hc : CMul a b) (h : Q (.int (a * b)) H) : oMul (.int a) (.int b) H Q := ⟨a, b, rfl, rfl, hc, h⟩
theorem g_mod (hc : 0 < b) (h : Q (.int (a % b)) H) : oMod (.int a) (.int b) H Q := ⟨a, b, rfl, rfl, hc, h⟩
theorem g_div (hc : CDiv a b) (h : Q (.int (a / b)) H) : oDiv (.int a) (.int b) H Q := ⟨a, b, rfl, rfl, hc, h⟩
theorem g_pow (hc : CPow a b) (h : Q (.int (a ^ b.toNat)) H) : oPow (.int a) (.int b) H Q := ⟨a, b, rfl, rfl, hc, h⟩
theorem g_lt (h : Q (.bl (decide (a < b))) H) : cLt (.int a) (.int b) H Q := ⟨a, b, rfl, rfl, h⟩
theorem g_le (h : Q (.bl (decide (a ≤ b))) H) : cLe (.int a) (.int b) H Q := ⟨a, b, rfl, rfl, h⟩
theorem g_gt (h : Q (.bl (decide (b < a))) H) : cGt (.int a) (.int b) H Q := ⟨a, b, rfl, rfl, h⟩
theorem g_ge (h : Q (.bl (decide (b ≤ a))) H) : cGe (.int a) (.int b) H Q := ⟨a, b, rfl, rfl, h⟩
theorem g_eqI (h : Q (.bl (decide (a = b))) H) : rEq (.int a) (.int b) H Q := ⟨rfl, by rw [show decide (V.int a = V.int b) = decide (a = b) from by simp]; exact h⟩
theorem g_neI (h : Q (.bl (!decide (a = b))) H) : rNe (.int a) (.int b) H Q := ⟨rfl, by rw [show decide (V.int a = V.int b) = decide (a = b) from by simp]; exact h⟩
theorem g_eqS {a b : Str} (h : Q (.bl (decide (a = b))) H) : rEq (.str a) (.str b) H Q := ⟨rfl, by rw [show decide (V.str a = V.str b) = decide (a = b) from by simp]; exact h⟩
theorem g_neS {a b : Str} (h : Q (.bl (!decide (a = b))) H) : rNe (.str a) (.str b) H Q := ⟨rfl, by rw [show decide (V.str a = V.str b) = decide (a = b) from by simp]; exact h⟩
theorem g_eqB {a b : Bool} (h : Q (.bl (decide (a = b))) H) : rEq (.bl a) (.bl b) H Q := ⟨rfl, by rw [show decide (V.bl a = V.bl b) = decide (a = b) from by simp]; exact h⟩
theorem g_isN (h : Q (.bl (decide (x = .non))) H) : rIsNon x .non H Q := ⟨rfl, h⟩
theorem g_notN (h : Q (.bl (!decide (x = .non))) H) : rIsNotNon x .non H Q := ⟨rfl, h⟩
theorem g_test (h : te σ H (fun x H' => ∃ k, x = .bl k ∧ QB k H')) : tTest te σ H QB := h
theorem g_tb (h : te σ H (fun x H' => ∃ k, x = .bl k ∧ QB k H')) : tB te σ H QB := h
theorem g_bl {k : Bool} {P : Bool → Prop} (h : P k) : ∃ k', V.bl k = V.bl k' ∧ P k' := ⟨k, rfl, h⟩
theorem g_and (h : c σ H (fun b H1 => if b = true then d σ H1 QB else QB false H1)) : tAnd c d σ H QB := h
theorem g_or (h : c σ H (fun b H1 => if b = true then QB true H1 else d σ H1 QB)) : tOr c d σ H QB := h
theorem g_not (h : c σ H (fun b H1 => QB (!b) H1)) : tNot c σ H QB := h
theorem g_andV (h : ta σ H (fun x H1 => ∃ c, x = .bl c ∧ if c = true then tb σ H1 Q else Q (.bl false) H1)) : tAndV ta tb σ H Q := h
theorem g_orV (h : ta σ H (fun x H1 => ∃ c, x = .bl c ∧ if c = true then Q (.bl true) H1 else tb σ H1 Q)) : tOrV ta tb σ H Q := h
theorem g_notV (h : ta σ H (fun x H1 => ∃ c, x = .bl c ∧ Q (.bl (!c)) H1)) : tNotV ta σ H Q := h
theorem g_ifE (h : c σ H (fun b H1 => if b = true then ta σ H1 Q else tb σ H1 Q)) : tIf c ta tb σ H Q := h
theorem g_ite {P : Prop} [Decidable P] {A B : Prop} (h1 : P → A) (h2 : ¬ P → B) : if decide P = true then A else B := by
  by_cases h : P
  · rw [if_pos (decide_eq_true h)]; exact h1 h
  · rw [if_neg (by simp [h])]; exact h2 h
theorem g_iteN {P : Prop} [Decidable P] {A B : Prop} (h1 : ¬ P → A) (h2 : P → B) : if (!decide P) = true then A else B := by
  by_cases h : P
  · rw [if_neg (by simp [h])]; exact h2 h
  · rw [if_pos (by simp [h])]; exact h1 h
theorem g_iteB {k : Bool} {A B : Prop} (h1 : k = true → A) (h2 : k = false → B) : if k = true then A else B := by
  cases k with
  | true => rw [if_pos rfl]; exact h1 rfl
  | false => rw [if_neg Bool.false_ne_true]; exact h2 rfl
theorem g_iteNB {k : Bool} {A B : Prop} (h1 : k = false → A) (h2 : k = true → B) : if (!k) = true then A else B := by
  cases k with
  | true => rw [if_neg (by decide)]; exact h2 rfl
  | false => rw [if_pos (by decide)]; exact h1 rfl
theorem g_iteT {A B : Prop} (h : A) : if true = true then A else B := by rw [if_pos rfl]; exact h
theorem g_iteF {A B : Prop} (h : B) : if false = true then A else B := by rw [if_neg Bool.false_ne_true]; exact h
theorem g_iteNT {A B : Prop} (h : B) : if (!true) = true then A else B := by rw [if_neg (by decide)]; exact h
theorem g_iteNF {A B : Prop} (h : A) : if (!false) = true then A else B := by rw [if_pos (by decide)]; exact h
theorem g_nil (h : QL [] H) : tNil σ H QL := h
theorem g_cons (h : te σ H (fun x H1 => as σ H1 fun xs H2 => QL (x :: xs) H2)) : tCons te as σ H QL := h
theorem g_cb {rr : List V → Hp → VK → Prop} (h : as σ H (fun vs H1 => rr vs H1 Q)) : tCB rr as σ H Q := h
theorem g_cl {sp : Sp} (h : as σ H (fun vs H1 => sp vs H1 Q E0)) : tCl sp as σ H Q := h
/-- a new tuple, a new list -/
def rNewT (vs : List V) (H : Hp) (Q : VK) : Prop := vs.length ≤ sizeLine ∧ ∀ p, H p = none → Q (.ref p) (upd H p (.tup vs))
def rNewL (vs : List V) (H : Hp) (Q : VK) : Prop := vs.length ≤ sizeLine ∧ ∀ p, H p = none → Q (.ref p) (upd H p (.lst vs))
theorem g_tup (h : as σ H (fun vs H1 => rNewT vs H1 Q)) : tTup as σ H Q := h
theorem g_lst (h : as σ H (fun vs H1 => rNewL vs H1 Q)) : tLst as σ H Q := h
theorem g_newT {vs : List V} (hl : vs.length ≤ sizeLine) (h : ∀ p H', H p = none → Fr [] H H' → H' p = some (.tup vs) → Q (.ref p) H') : rNewT vs H Q := ⟨hl, fun p hp => h p _ hp (Fr.new hp) upd_same⟩
theorem g_newL {vs : List V} (hl : vs.length ≤ sizeLine) (h : ∀ p H', H p = none → Fr [] H H' → H' p = some (.lst vs) → Q (.ref p) H') : rNewL vs H Q := ⟨hl, fun p hp => h p _ hp (Fr.new hp) upd_same⟩
theorem g_ixL {xs : List V} {k : Int} (h : SqL K H p xs) (ha : atI xs k = some v) (q : Q v H) : rIxL K (.ref p) (.int k) H Q := ⟨p, xs, k, v, rfl, rfl, h, ha, q⟩
theorem g_ixT {xs : List V} {k : Int} (h : SqT K H p xs) (ha : atI xs k = some v) (q : Q v H) : rIxT K (.ref p) (.int k) H Q := ⟨p, xs, k, v, rfl, rfl, h, ha, q⟩
theorem g_lenL {xs : List V} (h : SqL K H p xs) (q : Q (.int xs.length) H) : rLenSq K [.ref p] H Q := ⟨p, xs, rfl, .inl h, q⟩
theorem g_lenT {xs : List V} (h : SqT K H p xs) (q : Q (.int xs.length) H) : rLenSq K [.ref p] H Q := ⟨p, xs, rfl, .inr h, q⟩
theorem g_listL {xs : List V} (h : SqL K H p xs) (q : ∀ l H', H l = none → Fr [] H H' → H' l = some (.lst xs) → Q (.ref l) H') : rListOf K [.ref p] H Q := ⟨p, xs, rfl, .inl h, fun l hl => q l _ hl (Fr.new hl) upd_same⟩
theorem g_listT {xs : List V} (h : SqT K H p xs) (q : ∀ l H', H l = none → Fr [] H H' → H' l = some (.lst xs) → Q (.ref l) H') : rListOf K [.ref p] H Q := ⟨p, xs, rfl, .inr h, fun l hl => q l _ hl (Fr.new hl) upd_same⟩
theorem g_tupL {xs : List V} (h : SqL K H p xs) (q : ∀ l H', H l = none → Fr [] H H' → H' l = some (.tup xs) → Q (.ref l) H') : rTupOf K [.ref p] H Q := ⟨p, xs, rfl, .inl ⟨h, fun l hl => q l _ hl (Fr.new hl) upd_same⟩⟩
theorem g_max2 (q : Q (.int (if b > a then b else a)) H) : rMax2 [.int a, .int b] H Q := ⟨a, b, rfl, q⟩
theorem g_min2 (q : Q (.int (if b < a then b else a)) H) : rMin2 [.int a, .int b] H Q := ⟨a, b, rfl, q⟩
def rBM (K : PySem.W.Frag) (T : String) (x : V) (H : Hp) (P : Prop) : Prop := tyV K T x H ∧ P
theorem g_bm {T : String} {rr : V → List V → Hp → VK → Prop} (h : te σ H (fun x H1 => rBM K T x H1 (as σ H1 fun xs H2 => rr x xs H2 Q))) : tBM K T rr te as σ H Q := h
theorem g_bm0 {T : String} {rr : V → List V → Hp → VK → Prop} (h : te σ H (fun x H1 => rBM K T x H1 (rr x [] H1 Q))) : tBM0 K T rr te σ H Q := h
theorem g_bmL {xs : List V} {P : Prop} (h : H p = some (.lst xs)) (q : P) : rBM K "list" (.ref p) H P := ⟨.inl ⟨rfl, xs, SqL.of h⟩, q⟩
theorem g_append {xs : List V} (h : H p = some (.lst xs)) (hl : xs.length < sizeLine) (q : ∀ H', Fr [p] H H' → H' p = some (.lst (xs ++ [y])) → Q .non H') : rAppend (.ref p) [y] H Q := ⟨p, xs, y, rfl, rfl, h, hl, q _ (Fr.put h trivial) upd_same⟩
theorem g_clear {xs : List V} (h : H p = some (.lst xs)) (q : ∀ H', Fr [p] H H' → H' p = some (.lst []) → Q .non H') : rClear (.ref p) [] H Q := ⟨p, xs, rfl, rfl, h, q _ (Fr.put h trivial) upd_same⟩
theorem g_sub1 {to ti : TE} {ts : TSet} {QS : L2.St → Hp → Prop} (h : to σ H (fun o H1 => ti σ H1 fun i H2 => ts o i v H2 fun H3 => QS σ H3)) : gSub to ti ts v σ H QS := h
theorem g_setL {xs : List V} {k : Int} {j : Nat} {P : Hp → Prop} (h : H p = some (.lst xs)) (hj : ixN xs.length k = some j) (q : ∀ H', Fr [p] H H' → H' p = some (.lst (xs.set j v)) → P H') : rSetL (.ref p) (.int k) v H P := ⟨p, xs, k, j, rfl, rfl, h, hj, q _ (Fr.put h trivial) upd_same⟩
/-- attributes -/
def rFld (K : PySem.W.Frag) (f : Str) (x : V) (H : Hp) (Q : VK) : Prop := ∃ a C dx fs v, x = .ref a ∧ H a = some (.ins C dx fs) ∧ Cls K C ∧ NoAttr K C f ∧ fs.lookup f = some v ∧ Q v H
theorem g_fld {f : Str} (h : ta σ H (fun x H1 => rFld K f x H1 Q)) : tFld K ta f σ H Q := h
theorem g_rfld {f : Str} {fs : List (Str × V)} (h : H p = some (.ins C dx fs)) (c : Cls K C) (n : NoAttr K C f) (l : fs.lookup f = some v) (q : Q v H) : rFld K f (.ref p) H Q := ⟨p, C, dx, fs, v, rfl, h, c, n, l, q⟩
def rFldS (K : PySem.W.Frag) (f : Str) (x v : V) (H : Hp) (P : Hp → Prop) : Prop := ∃ a C dx fs, x = .ref a ∧ H a = some (.ins C dx fs) ∧ Cls K C ∧ NoAttr K C f ∧ fs.length < 1000 ∧ P (upd H a (.ins C dx (putF f v fs)))
theorem g_sfld {f : Str} (h : tb σ H (fun y H1 => ta σ H1 fun x H2 => rFldS K f x y H2 fun H3 => D.nx σ H3)) : sFld K ta tb f D σ H := h
theorem g_rflds {f : Str} {fs gs : List (Str × V)} {P : Hp → Prop} (h : H p = some (.ins C dx fs)) (c : Cls K C) (n : NoAttr K C f) (hl : fs.length < 1000) (e : putF f v fs = gs) (q : ∀ H', Fr [p] H H' → H' p = some (.ins C dx gs) → P H') : rFldS K f (.ref p) v H P :=
  ⟨p, C, dx, fs, rfl, h, c, n, hl, q _ (Fr.put h trivial) (by rw [e]; exact upd_same)⟩
def rFldA (K : PySem.W.Frag) (f : Str) (tv : TE) (rd : V → V → Hp → VK → Prop) (x : V) (σ : L2.St) (H : Hp) (D : Ends) : Prop := ∃ a C dx fs v, x = .ref a ∧ H a = some (.ins C dx fs) ∧ Cls K C ∧ NoAttr K C f ∧ fs.lookup f = some v ∧
  tv σ H fun y H2 => rd v y H2 fun z H3 => ∃ dx' fs', H3 a = some (.ins C dx' fs') ∧ fs'.length < 1000 ∧ D.nx σ (upd H3 a (.ins C dx' (putF f z fs')))
theorem g_flda {f : Str} {rd : V → V → Hp → VK → Prop} (h : ta σ H (fun x H1 => rFldA K f tb rd x σ H1 D)) : sFldAug K ta tb rd f D σ H := h
def rFldB (a C : Addr) (f : Str) (z : V) (H3 : Hp) (P : Hp → Prop) : Prop := ∃ dx' fs', H3 a = some (.ins C dx' fs') ∧ fs'.length < 1000 ∧ P (upd H3 a (.ins C dx' (putF f z fs')))
theorem g_rflda {f : Str} {fs : List (Str × V)} {rd : V → V → Hp → VK → Prop} (h : H p = some (.ins C dx fs)) (c : Cls K C) (n : NoAttr K C f) (l : fs.lookup f = some v) (q : tb σ H fun y H2 => rd v y H2 fun z H3 => rFldB p C f z H3 fun H4 => D.nx σ H4) : rFldA K f tb rd (.ref p) σ H D :=
  ⟨p, C, dx, fs, v, rfl, h, c, n, l, q⟩
theorem g_rfldb {f : Str} {fs gs : List (Str × V)} {P : Hp → Prop} (h : H p = some (.ins C dx fs)) (hl : fs.length < 1000) (e : putF f v fs = gs) (q : ∀ H', Fr [p] H H' → H' p = some (.ins C dx gs) → P H') : rFldB p C f v H P :=
  ⟨dx, fs, h, hl, q _ (Fr.put h trivial) (by rw [e]; exact upd_same)⟩
theorem g_rAdd (h : Q (.int (a + b)) H) : rAdd (.int a) (.int b) H Q := ⟨a, b, rfl, rfl, h⟩
theorem g_rSub (h : Q (.int (a - b)) H) : rSub (.int a) (.int b) H Q := ⟨a, b, rfl, rfl, h⟩
theorem g_mt {m : Str} {sp : Sp} (h : ta σ H (fun x H1 => rMt C m x H1 (as σ H1 fun vs H2 => sp (x :: vs) H2 Q E0))) : tMt C m sp ta as σ H Q := h
theorem g_rmt {m : Str} {fs : List (Str × V)} {P : Prop} (h : H p = some (.ins C dx fs)) (l : fs.lookup m = none) (q : P) : rMt C m (.ref p) H P := ⟨p, dx, fs, rfl, h, l, q⟩
def rMk (C : Addr) (sp : Sp) (vs : List V) (H1 : Hp) (Q : VK) : Prop := ∀ x dx, H1 x = none → H1 dx = none → dx ≠ x →
  sp (.ref x :: vs) (upd (upd H1 dx (.own x)) x (.ins C dx [])) (fun v H2 => v = .non ∧ Q (.ref x) H2) E0
theorem g_mk {sp : Sp} (h : as σ H (fun vs H1 => rMk C sp vs H1 Q)) : tMk C sp as σ H Q := h
theorem g_rmk {sp : Sp} {vs : List V} (k : ∀ x dx H2, H x = none → H dx = none → dx ≠ x → Fr [] H H2 → H2 x = some (.ins C dx []) → H2 dx = some (.own x) → sp (.ref x :: vs) H2 (fun v H3 => v = .non ∧ Q (.ref x) H3) E0) : rMk C sp vs H Q := by
  intro x dx nx nd ne
  refine k x dx _ nx nd ne ?_ upd_same (by rw [upd_ne ne]; exact upd_same)
  have f1 : Fr [] H (upd H dx (.own x)) := Fr.new nd
  exact f1.then0 (Fr.new (by rw [upd_ne ne.symm]; exact nx))
end

/-! ### isinstance against a built-in class -/
theorem kb_NoneType_list : kitB "NoneType" "list" = some false := by decide +kernel
theorem kb_NoneType_tuple : kitB "NoneType" "tuple" = some false := by decide +kernel
theorem kb_NoneType_bool : kitB "NoneType" "bool" = some false := by decide +kernel
theorem kb_NoneType_int : kitB "NoneType" "int" = some false := by decide +kernel
theorem kb_NoneType_str : kitB "NoneType" "str" = some false := by decide +kernel
theorem kb_NoneType_dict : kitB "NoneType" "dict" = some false := by decide +kernel
theorem kb_bool_list : kitB "bool" "list" = some false := by decide +kernel
theorem kb_bool_tuple : kitB "bool" "tuple" = some false := by decide +kernel
theorem kb_bool_bool : kitB "bool" "bool" = some true := by decide +kernel
theorem kb_bool_int : kitB "bool" "int" = some true := by decide +kernel
theorem kb_bool_str : kitB "bool" "str" = some false := by decide +kernel
theorem kb_bool_dict : kitB "bool" "dict" = some false := by decide +kernel
theorem kb_int_list : kitB "int" "list" = some false := by decide +kernel
theorem kb_int_tuple : kitB "int" "tuple" = some false := by decide +kernel
theorem kb_int_bool : kitB "int" "bool" = some false := by decide +kernel
theorem kb_int_int : kitB "int" "int" = some true := by decide +kernel
theorem kb_int_str : kitB "int" "str" = some false := by decide +kernel
theorem kb_int_dict : kitB "int" "dict" = some false := by decide +kernel
theorem kb_str_list : kitB "str" "list" = some false := by decide +kernel
theorem kb_str_tuple : kitB "str" "tuple" = some false := by decide +kernel
theorem kb_str_bool : kitB "str" "bool" = some false := by decide +kernel
theorem kb_str_int : kitB "str" "int" = some false := by decide +kernel
theorem kb_str_str : kitB "str" "str" = some true := by decide +kernel
theorem kb_str_dict : kitB "str" "dict" = some false := by decide +kernel
theorem kb_list_list : kitB "list" "list" = some true := by decide +kernel
theorem kb_list_tuple : kitB "list" "tuple" = some false := by decide +kernel
theorem kb_list_bool : kitB "list" "bool" = some false := by decide +kernel
theorem kb_list_int : kitB "list" "int" = some false := by decide +kernel
theorem kb_list_str : kitB "list" "str" = some false := by decide +kernel
theorem kb_list_dict : kitB "list" "dict" = some false := by decide +kernel
theorem kb_tuple_list : kitB "tuple" "list" = some false := by decide +kernel
theorem kb_tuple_tuple : kitB "tuple" "tuple" = some true := by decide +kernel
theorem kb_tuple_bool : kitB "tuple" "bool" = some false := by decide +kernel
theorem kb_tuple_int : kitB "tuple" "int" = some false := by decide +kernel
theorem kb_tuple_str : kitB "tuple" "str" = some false := by decide +kernel
theorem kb_tuple_dict : kitB "tuple" "dict" = some false := by decide +kernel
theorem kb_dict_list : kitB "dict" "list" = some false := by decide +kernel
theorem kb_dict_tuple : kitB "dict" "tuple" = some false := by decide +kernel
theorem kb_dict_bool : kitB "dict" "bool" = some false := by decide +kernel
theorem kb_dict_int : kitB "dict" "int" = some false := by decide +kernel
theorem kb_dict_str : kitB "dict" "str" = some false := by decide +kernel
theorem kb_dict_dict : kitB "dict" "dict" = some true := by decide +kernel

theorem g_isi {K : PySem.W.Frag} {H : Hp} {Q : VK} {x : V} {a b : String} {r : Bool} (ty : TyX K H x (.type a)) (h : kitB a b = some r) (q : Q (.bl r) H) : rIsi K [x, .ty b] H Q := ⟨x, .ty b, .type a, .type b, r, rfl, .ty b, ty, kit_ty h, q⟩
/-! ### immutable and other data -/
mutual
inductive Da (H : Hp) : V → PyData → Prop
  | non : Da H .non .none
  | bl (b : Bool) : Da H (.bl b) (.bool b)
  | int (i : Int) : Da H (.int i) (.int i)
  | str (x : Str) : Da H (.str x) (.str x)
  | lst {a : Addr} {xs : List V} {ds : List PyData} : H a = some (.lst xs) → xs.length ≤ 1000000 → DaL H xs ds → Da H (.ref a) (.list ds)
  | tup {a : Addr} {xs : List V} {ds : List PyData} : H a = some (.tup xs) → xs.length ≤ 1000000 → DaL H xs ds → Da H (.ref a) (.tuple ds)
inductive DaL (H : Hp) : List V → List PyData → Prop
  | nil : DaL H [] []
  | cons {v : V} {vs : List V} {d : PyData} {ds : List PyData} : Da H v d → DaL H vs ds → DaL H (v :: vs) (d :: ds)
end
/-! how deep -/
mutual
def dp : PyData → Nat
  | .list ds => dpL ds + 1
  | .tuple ds => dpL ds + 1
  | _ => 0
def dpL : List PyData → Nat
  | [] => 0
  | d :: ds => max (dp d) (dpL ds)
end
/-! no list within -/
mutual
def imm : PyData → Bool
  | .list _ => false
  | .tuple ds => immL ds
  | _ => true
def immL : List PyData → Bool
  | [] => true
  | d :: ds => imm d && immL ds
end
theorem DaL.len {H : Hp} : ∀ {vs : List V} {ds : List PyData}, DaL H vs ds → vs.length = ds.length
  | _, _, .nil => rfl
  | _, _, .cons _ t => by rw [List.length_cons, List.length_cons, DaL.len t]
theorem DaL.get {H : Hp} : ∀ {vs : List V} {ds : List PyData} {i : Nat} {v : V}, DaL H vs ds → vs[i]? = some v → ∃ d, ds[i]? = some d ∧ Da H v d
  | _, _, _, _, .nil, e => by simp at e
  | _, _, 0, _, .cons r _, e => by simp at e; subst e; exact ⟨_, rfl, r⟩
  | _, _, i + 1, v, .cons _ t, e => by
    obtain ⟨u, h1, h2⟩ := DaL.get (i := i) (v := v) t (by simpa using e)
    exact ⟨u, by simpa using h1, h2⟩
theorem DaL.get' {H : Hp} : ∀ {vs : List V} {ds : List PyData} {i : Nat} {d : PyData}, DaL H vs ds → ds[i]? = some d → ∃ v, vs[i]? = some v ∧ Da H v d
  | _, _, _, _, .nil, e => by simp at e
  | _, _, 0, _, .cons r _, e => by simp at e; subst e; exact ⟨_, rfl, r⟩
  | _, _, i + 1, v, .cons _ t, e => by
    obtain ⟨u, h1, h2⟩ := DaL.get' (i := i) (d := v) t (by simpa using e)
    exact ⟨u, by simpa using h1, h2⟩
theorem DaL.append {H : Hp} : ∀ {vs ws : List V} {ds es : List PyData}, DaL H vs ds → DaL H ws es → DaL H (vs ++ ws) (ds ++ es)
  | _, _, _, _, .nil, s => s
  | _, _, _, _, .cons r t, s => .cons r (DaL.append t s)
theorem dpL_get : ∀ {ds : List PyData} {i : Nat} {d : PyData}, ds[i]? = some d → dp d ≤ dpL ds
  | [], _, _, e => by simp at e
  | a :: r, 0, d, e => by simp at e; subst e; exact Nat.le_max_left _ _
  | a :: r, i + 1, d, e => Nat.le_trans (dpL_get (ds := r) (i := i) (by simpa using e)) (Nat.le_max_right _ _)
mutual
theorem Da.fr {l : List Addr} {H H' : Hp} (f : Fr l H H') : ∀ (d : PyData) (v : V), Da H v d → imm d = true → Da H' v d
  | .none, _, h, _ => by cases h; exact .non
  | .bool b, _, h, _ => by cases h; exact .bl b
  | .int i, _, h, _ => by cases h; exact .int i
  | .str x, _, h, _ => by cases h; exact .str x
  | .list ds, _, _, i => by simp [imm] at i
  | .tuple ds, _, h, i => by
    cases h with
    | tup e z r => exact .tup (f.tup _ _ e) z (DaL.fr f ds _ r (by simpa [imm] using i))
  | .dict _, _, h, _ => by cases h
theorem DaL.fr {l : List Addr} {H H' : Hp} (f : Fr l H H') : ∀ (ds : List PyData) (vs : List V), DaL H vs ds → immL ds = true → DaL H' vs ds
  | [], _, h, _ => by cases h; exact .nil
  | d :: ds, _, h, i => by
    simp only [immL, Bool.and_eq_true] at i
    cases h with
    | cons r t => exact .cons (Da.fr f d _ r i.1) (DaL.fr f ds _ t i.2)
end
mutual
theorem Da.dp {K : PySem.W.Frag} {H : Hp} : ∀ (d : PyData) (v : V), Da H v d → Dp K H v d
  | .none, _, h => by cases h; exact .non
  | .bool b, _, h => by cases h; exact .bl b
  | .int i, _, h => by cases h; exact .int i
  | .str x, _, h => by cases h; exact .str x
  | .list ds, _, h => by
    cases h with
    | lst e _ r => exact .lst (SqL.of e) (DaL.dp ds _ r)
  | .tuple ds, _, h => by
    cases h with
    | tup e _ r => exact .tup (SqT.of e) (DaL.dp ds _ r)
  | .dict _, _, h => by cases h
theorem DaL.dp {K : PySem.W.Frag} {H : Hp} : ∀ (ds : List PyData) (vs : List V), DaL H vs ds → DpAll K H vs ds
  | [], _, h => by cases h; exact .nil
  | d :: ds, _, h => by
    cases h with
    | cons r t => exact .cons (Da.dp d _ r) (DaL.dp ds _ t)
end
theorem Da.frL {l : List Addr} {H H' : Hp} (f : Fr l H H') {d : PyData} {v : V} (h : Da H v d) (i : imm d = true) : Da H' v d := Da.fr f d v h i
theorem DaL.frL {l : List Addr} {H H' : Hp} (f : Fr l H H') {ds : List PyData} {vs : List V} (h : DaL H vs ds) (i : immL ds = true) : DaL H' vs ds := DaL.fr f ds vs h i
theorem immL_append : ∀ {ds es : List PyData}, immL (ds ++ es) = (immL ds && immL es)
  | [], _ => by simp [immL]
  | d :: ds, es => by simp [immL, immL_append (ds := ds), Bool.and_assoc]
theorem dpL_append : ∀ {ds es : List PyData}, dpL (ds ++ es) = max (dpL ds) (dpL es)
  | [], _ => by simp [dpL]
  | d :: ds, es => by simp [dpL, dpL_append (ds := ds), Nat.max_assoc]

/-! ### loops and comprehensions -/
section
variable {K : PySem.W.Frag} {σ : L2.St} {H H' : Hp} {Q : VK} {D : Ends} {te tl : TE} {tt : TT} {tb : TS} {g : TG} {wi : TI} {ta : TA} {a b : Addr} {xs ys : List V} {vs : List Nat} {J : It}
def ForGo (J : It) (g : TG) (tb : TS) (D : Ends) (σ : L2.St) (H1 : Hp) : Prop := ∃ W : Nat → Nat → L2.St → Hp → Prop, (∃ m, W 0 m σ H1) ∧ ∀ i m σ H, W i m σ H →
  (J.stop i H ∧ D.nx σ H) ∨ (J.go i H ∧ ∃ N : L2.St → Hp → Prop, (∀ σ' H', N σ' H' → ∃ m', m' < m ∧ W (i + 1) m' σ' H') ∧ ∀ x H', J.yld i H x H' → g x σ H' fun σ2 H2 => tb { D with nx := N, ct := N, bk := D.nx } σ2 H2)
theorem g_for (h : wi σ H (fun J H1 => ForGo J g tb D σ H1)) : tFor wi g tb D σ H := h
def LcGo (J : It) (g : TG) (tt : TT) (te : TE) (vs : List Nat) (σ : L2.St) (Q : VK) (H1 : Hp) : Prop := ∀ D, H1 D = none → ∃ W : Nat → Nat → Hp → Prop, (∃ m, W 0 m (upd H1 D (.lst []))) ∧ ∀ i m H, W i m H →
  (J.stop i H ∧ Q (.ref D) H) ∨ (J.go i H ∧ ∃ Nx : Hp → Prop, (∀ H', Nx H' → ∃ m', m' < m ∧ W (i + 1) m' H') ∧ ∀ x H', J.yld i H x H' → g x (wipe σ vs) H' fun σ2 H2 => wipe σ2 vs = wipe σ vs ∧ tt σ2 H2 fun b H3 =>
    if b = true then te σ2 H3 fun y H4 => ∃ acc, H4 D = some (.lst acc) ∧ acc.length < sizeLine ∧ Nx (upd H4 D (.lst (acc ++ [y]))) else Nx H3)
theorem g_lc (h : wi σ H (fun J H1 => LcGo J g tt te vs σ Q H1)) : tLc wi g tt te vs σ H Q := h
variable {R : It → Hp → Prop}
def rItL (K : PySem.W.Frag) (x : V) (H : Hp) (R : It → Hp → Prop) : Prop := ∃ a, x = .ref a ∧ (∃ xs, SqL K H a xs) ∧ R (Itl K a) H
def rItT (K : PySem.W.Frag) (x : V) (H : Hp) (R : It → Hp → Prop) : Prop := ∃ a, x = .ref a ∧ (∃ xs, SqT K H a xs) ∧ R (Itt K a) H
theorem g_iL (h : tl σ H (fun x H1 => rItL K x H1 R)) : iList K tl σ H R := h
theorem g_iT (h : tl σ H (fun x H1 => rItT K x H1 R)) : iTup K tl σ H R := h
theorem g_riL (hS : SqL K H a xs) (h : R (Itl K a) H) : rItL K (.ref a) H R := ⟨a, rfl, ⟨xs, hS⟩, h⟩
theorem g_riT (hS : SqT K H a xs) (h : R (Itt K a) H) : rItT K (.ref a) H R := ⟨a, rfl, ⟨xs, hS⟩, h⟩
def rIt1 (vs : List V) (H : Hp) (R : It → Hp → Prop) : Prop := ∃ j : Int, vs = [.int j] ∧ -(2 ^ 62) ≤ j ∧ j < 2 ^ 62 ∧ R (Itr 0 j.toNat) H
def rIt2 (vs : List V) (H : Hp) (R : It → Hp → Prop) : Prop := ∃ i j : Int, vs = [.int i, .int j] ∧ (-(2 ^ 62) ≤ i ∧ i < 2 ^ 62 ∧ -(2 ^ 62) ≤ j ∧ j < 2 ^ 62) ∧ R (Itr i (j - i).toNat) H
theorem g_i1 (h : ta σ H (fun vs H1 => rIt1 vs H1 R)) : iRng1 ta σ H R := h
theorem g_i2 (h : ta σ H (fun vs H1 => rIt2 vs H1 R)) : iRng2 ta σ H R := h
theorem g_ri1 {j : Int} (h1 : -(2 ^ 62) ≤ j ∧ j < 2 ^ 62) (h : R (Itr 0 j.toNat) H) : rIt1 [.int j] H R := ⟨j, rfl, h1.1, h1.2, h⟩
theorem g_ri2 {i j : Int} (h1 : -(2 ^ 62) ≤ i ∧ i < 2 ^ 62 ∧ -(2 ^ 62) ≤ j ∧ j < 2 ^ 62) (h : R (Itr i (j - i).toNat) H) : rIt2 [.int i, .int j] H R := ⟨i, j, rfl, h1, h⟩
/-- for over a list that stands -/
theorem f_list (Pv : Nat → L2.St → Hp → Prop) (h0 : Pv 0 σ H) (hl : ∀ i σ H, i ≤ xs.length → Pv i σ H → SqL K H a xs)
    (hs : ∀ i x σ H, xs[i]? = some x → Pv i σ H → g x σ H fun σ2 H2 => tb { D with nx := Pv (i + 1), ct := Pv (i + 1), bk := D.nx } σ2 H2) (hd : ∀ σ H, Pv xs.length σ H → D.nx σ H) : ForGo (Itl K a) g tb D σ H := for_list Pv h0 hl hs hd
theorem f_tup (Pv : Nat → L2.St → Hp → Prop) (h0 : Pv 0 σ H) (hl : ∀ i σ H, i ≤ xs.length → Pv i σ H → SqT K H a xs)
    (hs : ∀ i x σ H, xs[i]? = some x → Pv i σ H → g x σ H fun σ2 H2 => tb { D with nx := Pv (i + 1), ct := Pv (i + 1), bk := D.nx } σ2 H2) (hd : ∀ σ H, Pv xs.length σ H → D.nx σ H) : ForGo (Itt K a) g tb D σ H := for_tup Pv h0 hl hs hd
theorem f_range {lo : Int} {n : Nat} (Pv : Nat → L2.St → Hp → Prop) (h0 : Pv 0 σ H)
    (hs : ∀ i σ H, i < n → Pv i σ H → g (.int (lo + i)) σ H fun σ2 H2 => tb { D with nx := Pv (i + 1), ct := Pv (i + 1), bk := D.nx } σ2 H2) (hd : ∀ σ H, Pv n σ H → D.nx σ H) : ForGo (Itr lo n) g tb D σ H := for_range Pv h0 hs hd
/-! a comprehension: what its turn is to reach -/
def lcY (Dl : Addr) (Pv : Nat → List V → Hp → Prop) (i : Nat) (y : V) (H4 : Hp) : Prop := ∃ acc, H4 Dl = some (.lst acc) ∧ acc.length < sizeLine ∧ ∃ acc', upd H4 Dl (.lst (acc ++ [y])) Dl = some (.lst acc') ∧ Pv (i + 1) acc' (upd H4 Dl (.lst (acc ++ [y])))
def lcN (Dl : Addr) (Pv : Nat → List V → Hp → Prop) (i : Nat) (H3 : Hp) : Prop := ∃ acc, H3 Dl = some (.lst acc) ∧ Pv (i + 1) acc H3
theorem lcY_of {Dl : Addr} {Pv : Nat → List V → Hp → Prop} {i : Nat} {y : V} {acc : List V} (h : H Dl = some (.lst acc)) (hl : acc.length < sizeLine) (k : ∀ H5, Fr [Dl] H H5 → H5 Dl = some (.lst (acc ++ [y])) → Pv (i + 1) (acc ++ [y]) H5) : lcY Dl Pv i y H :=
  ⟨acc, h, hl, _, upd_same, k _ (Fr.put h trivial) upd_same⟩
theorem lcN_of {Dl : Addr} {Pv : Nat → List V → Hp → Prop} {i : Nat} {acc : List V} (h : H Dl = some (.lst acc)) (k : Pv (i + 1) acc H) : lcN Dl Pv i H := ⟨acc, h, k⟩
abbrev lcStep (g : TG) (tt : TT) (te : TE) (vs : List Nat) (σ : L2.St) (Dl : Addr) (Pv : Nat → List V → Hp → Prop) (i : Nat) (x : V) (H' : Hp) : Prop :=
  g x (wipe σ vs) H' fun σ2 H2 => wipe σ2 vs = wipe σ vs ∧ tt σ2 H2 fun b H3 => if b = true then te σ2 H3 fun y H4 => lcY Dl Pv i y H4 else lcN Dl Pv i H3
theorem l_list (k : ∀ Dl H0, H Dl = none → Fr [] H H0 → H0 Dl = some (.lst []) → ∃ Pv : Nat → List V → Hp → Prop, Pv 0 [] H0 ∧ (∀ i acc H', Pv i acc H' → SqL K H' a xs) ∧
    (∀ i x acc H', xs[i]? = some x → H' Dl = some (.lst acc) → Pv i acc H' → lcStep g tt te vs σ Dl Pv i x H') ∧ (∀ acc H', H' Dl = some (.lst acc) → Pv xs.length acc H' → Q (.ref Dl) H')) : LcGo (Itl K a) g tt te vs σ Q H := by
  intro Dl hD
  obtain ⟨Pv, p0, pl, ps, pd⟩ := k Dl _ hD (Fr.new hD) upd_same
  exact lc_list (fun i H' => ∃ acc, H' Dl = some (.lst acc) ∧ Pv i acc H') ⟨[], upd_same, p0⟩ (fun i H' _ ⟨acc, _, p⟩ => pl i acc H' p) (fun i x H' hx ⟨acc, hd, p⟩ => ps i x acc H' hx hd p) (fun H' ⟨acc, hd, p⟩ => pd acc H' hd p)
theorem l_tup (k : ∀ Dl H0, H Dl = none → Fr [] H H0 → H0 Dl = some (.lst []) → ∃ Pv : Nat → List V → Hp → Prop, Pv 0 [] H0 ∧ (∀ i acc H', Pv i acc H' → SqT K H' a xs) ∧
    (∀ i x acc H', xs[i]? = some x → H' Dl = some (.lst acc) → Pv i acc H' → lcStep g tt te vs σ Dl Pv i x H') ∧ (∀ acc H', H' Dl = some (.lst acc) → Pv xs.length acc H' → Q (.ref Dl) H')) : LcGo (Itt K a) g tt te vs σ Q H := by
  intro Dl hD
  obtain ⟨Pv, p0, pl, ps, pd⟩ := k Dl _ hD (Fr.new hD) upd_same
  exact lc_tup (fun i H' => ∃ acc, H' Dl = some (.lst acc) ∧ Pv i acc H') ⟨[], upd_same, p0⟩ (fun i H' _ ⟨acc, _, p⟩ => pl i acc H' p) (fun i x H' hx ⟨acc, hd, p⟩ => ps i x acc H' hx hd p) (fun H' ⟨acc, hd, p⟩ => pd acc H' hd p)
theorem l_range {lo : Int} {n : Nat} (k : ∀ Dl H0, H Dl = none → Fr [] H H0 → H0 Dl = some (.lst []) → ∃ Pv : Nat → List V → Hp → Prop, Pv 0 [] H0 ∧
    (∀ i acc H', i < n → H' Dl = some (.lst acc) → Pv i acc H' → lcStep g tt te vs σ Dl Pv i (.int (lo + i)) H') ∧ (∀ acc H', H' Dl = some (.lst acc) → Pv n acc H' → Q (.ref Dl) H')) : LcGo (Itr lo n) g tt te vs σ Q H := by
  intro Dl hD
  obtain ⟨Pv, p0, ps, pd⟩ := k Dl _ hD (Fr.new hD) upd_same
  exact lc_range (fun i H' => ∃ acc, H' Dl = some (.lst acc) ∧ Pv i acc H') ⟨[], upd_same, p0⟩ (fun i H' hi ⟨acc, hd, p⟩ => ps i acc H' hi hd p) (fun H' ⟨acc, hd, p⟩ => pd acc H' hd p)
theorem g_and2 {A B : Prop} (a : A) (b : B) : A ∧ B := ⟨a, b⟩
theorem g_yes {QB : Bool → Hp → Prop} (h : QB true H) : tYes σ H QB := h
/-- a name's slot, ahead of a known one -/
theorem g_tr {x : V} {k : Bool} {QB : Bool → Hp → Prop} (h : TruV K x H k) (q : QB k H) : ∃ k, TruV K x H k ∧ QB k H := ⟨k, h, q⟩
theorem g_ttr {QB : Bool → Hp → Prop} (h : te σ H (fun x H' => ∃ k, TruV K x H' k ∧ QB k H')) : tTr K te σ H QB := h
end
theorem szM {n : Nat} (h : n ≤ 1000000) : n < sizeLine := Nat.lt_of_le_of_lt h (by decide)
theorem szL {n : Nat} (h : n ≤ 1000000) : n ≤ sizeLine := Nat.le_of_lt (szM h)
theorem getI {ns : List Int} {i : Nat} {x : V} (h : (ns.map V.int)[i]? = some x) : ∃ n, x = .int n ∧ ns[i]? = some n ∧ n ∈ ns := by
  rw [List.getElem?_map] at h
  cases e : ns[i]? with
  | none => rw [e] at h; cases h
  | some n => rw [e] at h; exact ⟨n, (Option.some.inj h).symm, rfl, List.mem_of_getElem? e⟩
theorem atI_of {α : Type} {xs : List α} {z : Int} (h0 : 0 ≤ z) (h : z < xs.length) : ∃ v, atI xs z = some v ∧ xs[z.toNat]? = some v := by
  have hk : z.toNat < xs.length := by omega
  have e : ((z.toNat : Nat) : Int) = z := by omega
  have q : xs[z.toNat]? = some xs[z.toNat] := List.getElem?_eq_getElem hk
  have w := atI_nat q
  rw [e] at w
  exact ⟨_, w, q⟩
theorem take_more {α : Type} : ∀ {l : List α} {i : Nat} {x : α}, l[i]? = some x → l.take (i + 1) = l.take i ++ [x]
  | [], i, x, h => by simp at h
  | a :: l, 0, x, h => by
    have e : a = x := Option.some.inj h
    subst e
    rfl
  | a :: l, i + 1, x, h => by
    have ih := take_more (l := l) (i := i) (x := x) h
    show a :: l.take (i + 1) = a :: l.take i ++ [x]
    rw [ih]
    rfl
theorem filter_more {α : Type} {l : List α} {i : Nat} {x : α} {f : α → Bool} (h : l[i]? = some x) : (l.take (i + 1)).filter f = (l.take i).filter f ++ (if f x = true then [x] else []) := by
  rw [take_more h, List.filter_append]
  congr 1
  by_cases q : f x = true
  · simp [q]
  · simp [q]
theorem Da.tup1 {H : Hp} {v : V} {ds : List PyData} (h : Da H v (.tuple ds)) : ∃ a xs, v = .ref a ∧ H a = some (.tup xs) ∧ xs.length ≤ 1000000 ∧ DaL H xs ds := by
  cases h with
  | tup e z r => exact ⟨_, _, rfl, e, z, r⟩
theorem Da.lst1 {H : Hp} {v : V} {ds : List PyData} (h : Da H v (.list ds)) : ∃ a xs, v = .ref a ∧ H a = some (.lst xs) ∧ xs.length ≤ 1000000 ∧ DaL H xs ds := by
  cases h with
  | lst e z r => exact ⟨_, _, rfl, e, z, r⟩
theorem DaL.two {H : Hp} {xs : List V} {d e : PyData} (h : DaL H xs [d, e]) : ∃ x y, xs = [x, y] ∧ Da H x d ∧ Da H y e := by
  cases h with
  | cons a t => cases t with
    | cons b u => cases u; exact ⟨_, _, rfl, a, b⟩
theorem DaL.three {H : Hp} {xs : List V} {d e f : PyData} (h : DaL H xs [d, e, f]) : ∃ x y z, xs = [x, y, z] ∧ Da H x d ∧ Da H y e ∧ Da H z f := by
  cases h with
  | cons a t => cases t with
    | cons b u => cases u with
      | cons c u => cases u; exact ⟨_, _, _, rfl, a, b, c⟩
theorem Da.int1 {H : Hp} {v : V} {i : Int} (h : Da H v (.int i)) : v = .int i := by cases h; rfl
theorem Da.str1 {H : Hp} {v : V} {i : Str} (h : Da H v (.str i)) : v = .str i := by cases h; rfl
theorem Da.bl1 {H : Hp} {v : V} {i : Bool} (h : Da H v (.bool i)) : v = .bl i := by cases h; rfl
theorem Da.non1 {H : Hp} {v : V} (h : Da H v .none) : v = .non := by cases h; rfl
theorem DaL.one' {H : Hp} {v : V} {d : PyData} (h : Da H v d) : DaL H [v] [d] := .cons h .nil
theorem immL_get : ∀ {ds : List PyData} {i : Nat} {d : PyData}, immL ds = true → ds[i]? = some d → imm d = true
  | [], _, _, _, e => by simp at e
  | a :: r, 0, d, h, e => by simp at e; subst e; simp [immL] at h; exact h.1
  | a :: r, i + 1, d, h, e => by simp [immL] at h; exact immL_get (ds := r) (i := i) h.2 (by simpa using e)
theorem immL_of : ∀ {ds : List PyData}, (∀ d ∈ ds, imm d = true) → immL ds = true
  | [], _ => rfl
  | a :: r, h => by simp [immL, h a List.mem_cons_self, immL_of (ds := r) fun d hd => h d (List.mem_cons_of_mem _ hd)]
theorem imm_of : ∀ {ds : List PyData}, immL ds = true → ∀ d ∈ ds, imm d = true
  | [], _, d, hd => by cases hd
  | a :: r, h, d, hd => by
    simp only [immL, Bool.and_eq_true] at h
    rcases List.mem_cons.mp hd with e | e
    · rw [e]; exact h.1
    · exact imm_of h.2 d e
theorem dpL_mem : ∀ {ds : List PyData} {d : PyData}, d ∈ ds → dp d ≤ dpL ds
  | [], _, h => by cases h
  | a :: r, d, h => by
    rcases List.mem_cons.mp h with e | e
    · rw [e]; exact Nat.le_max_left _ _
    · exact Nat.le_trans (dpL_mem e) (Nat.le_max_right _ _)
theorem dpL_le {n : Nat} : ∀ {ds : List PyData}, (∀ d ∈ ds, dp d ≤ n) → dpL ds ≤ n
  | [], _ => Nat.zero_le _
  | a :: r, h => Nat.max_le.mpr ⟨h a List.mem_cons_self, dpL_le fun d hd => h d (List.mem_cons_of_mem _ hd)⟩
end Lw

namespace Toy
open PySem L2 Lw

/-! ### the steps as one word each -/
local macro_rules | `(tactic| walk_at "ne") => `(tactic| first
  | assumption | exact Ne.symm (by assumption)
  | ((refine' ne_of_none ?h (by assumption)); (case h => walk_at "fact"))
  | ((refine' Ne.symm (ne_of_none ?h (by assumption))); (case h => walk_at "fact")))
local macro_rules | `(tactic| walk_at "nin") => `(tactic| first | exact nin0 | (refine nin1 ?_ ?_; walk_at "ne"; walk_at "nin") | assumption)
local macro_rules | `(tactic| walk_at "fact") => `(tactic| first
  | assumption
  | ((refine' Fr.at0 (by assumption) ?h); (case h => walk_at "fact"))
  | ((refine' Fr.at (by assumption) ?h ?k); (case h => walk_at "fact"); (case k => walk_at "nin")))
local macro_rules | `(tactic| walk_at "none") => `(tactic| first
  | assumption
  | ((refine' Fr.freeL (by assumption) ?h ?k); (case h => walk_at "none"); (case k => walk_at "nin")))
local macro_rules | `(tactic| walk_at "mem") => `(tactic| first
  | assumption | exact List.mem_cons_self
  | (refine List.mem_cons_of_mem _ ?_; walk_at "mem"))
local macro_rules | `(tactic| walk_at "frn") => `(tactic| first
  | exact frn0
  | (refine frn1 ?_ ?_; (first | exact Or.inl (by walk_at "mem") | exact Or.inr (by walk_at "none")); walk_at "frn"))
local macro_rules | `(tactic| walk_at "fr") => `(tactic| first
  | assumption
  | exact Fr.refl
  | ((refine' Fr.own ?h (by assumption) ?k); (case h => walk_at "fr"); (case k => walk_at "frn"))
  | (refine Fr.of0 ?_; walk_at "fr"))
local macro_rules | `(tactic| walk_at "sz") => `(tactic| first | exact szM (by omega) | exact szM (by simp only [List.length_map, List.length_append, List.length_cons, List.length_nil]; omega))
local macro_rules | `(tactic| walk_at "sql") => `(tactic| first
  | assumption
  | exact SqL.of (by walk_at "fact")
  | ((refine' Fr.sql (by assumption) ?h ?k); (case h => walk_at "sql"); (case k => walk_at "nin")))
local macro_rules | `(tactic| walk_at "sqt") => `(tactic| first
  | assumption
  | exact SqT.of (by walk_at "fact"))
local macro_rules | `(tactic| walk_at "ty") => `(tactic| first
  | assumption
  | exact TyX.base TyOf.non
  | exact TyX.base (TyOf.int _)
  | exact TyX.base (TyOf.bl _)
  | exact TyX.base (TyOf.str _)
  | exact TyX.base (TyOf.lst (by walk_at "fact"))
  | exact TyX.base (TyOf.tup (by walk_at "fact"))
  | exact TyX.base (TyOf.dK (by walk_at "fact"))
  | exact TyX.base (TyOf.dT (by walk_at "fact")))
local macro_rules | `(tactic| walk_at "kb") => `(tactic| first | exact kb_NoneType_list | exact kb_NoneType_tuple | exact kb_NoneType_bool | exact kb_NoneType_int | exact kb_NoneType_str | exact kb_NoneType_dict | exact kb_bool_list | exact kb_bool_tuple | exact kb_bool_bool | exact kb_bool_int | exact kb_bool_str | exact kb_bool_dict | exact kb_int_list | exact kb_int_tuple | exact kb_int_bool | exact kb_int_int | exact kb_int_str | exact kb_int_dict | exact kb_str_list | exact kb_str_tuple | exact kb_str_bool | exact kb_str_int | exact kb_str_str | exact kb_str_dict | exact kb_list_list | exact kb_list_tuple | exact kb_list_bool | exact kb_list_int | exact kb_list_str | exact kb_list_dict | exact kb_tuple_list | exact kb_tuple_tuple | exact kb_tuple_bool | exact kb_tuple_int | exact kb_tuple_str | exact kb_tuple_dict | exact kb_dict_list | exact kb_dict_tuple | exact kb_dict_bool | exact kb_dict_int | exact kb_dict_str | exact kb_dict_dict)
local macro_rules | `(tactic| walk_at "new") => `(tactic| intro _ _ _ _ _)
local macro_rules | `(tactic| walk_at "go1") => `(tactic| first
  | with_reducible refine g_seq ?_
  | with_reducible refine g_asg ?_
  | with_reducible refine g_name ?_
  | with_reducible refine g_drop ?_
  | with_reducible refine g_ret ?_
  | with_reducible refine g_for ?_
  | with_reducible refine g_lc ?_
  | with_reducible refine g_iL ?_
  | with_reducible refine g_iT ?_
  | with_reducible refine g_i1 ?_
  | with_reducible refine g_i2 ?_
  | with_reducible refine g_yes ?_
  | with_reducible refine g_ttr ?_
  | ((with_reducible refine' g_riL ?h ?_); (case h => walk_at "sql"))
  | ((with_reducible refine' g_riT ?h ?_); (case h => walk_at "sqt"))
  | ((with_reducible refine' g_ri1 ?h ?_); (case h => (first | exact ⟨by decide, by decide⟩ | exact ⟨by omega, by omega⟩)))
  | ((with_reducible refine' g_ri2 ?h ?_); (case h => (first | exact ⟨by decide, by decide, by decide, by decide⟩ | exact ⟨by omega, by omega, by omega, by omega⟩)))
  | with_reducible refine g_retN ?_
  | with_reducible refine g_next ?_
  | with_reducible refine g_cont ?_
  | with_reducible refine g_brk ?_
  | with_reducible refine g_ifs ?_
  | with_reducible refine g_test ?_
  | with_reducible refine g_tb ?_
  | with_reducible refine g_and ?_
  | with_reducible refine g_or ?_
  | with_reducible refine g_not ?_
  | with_reducible refine g_andV ?_
  | with_reducible refine g_orV ?_
  | with_reducible refine g_notV ?_
  | with_reducible refine g_ifE ?_
  | ((with_reducible refine' g_var ?h ?_); (case h => exact rfl))
  | with_reducible refine g_c ?_
  | with_reducible refine g_op ?_
  | with_reducible refine g_cb ?_
  | with_reducible refine g_cl ?_
  | with_reducible refine g_nil ?_
  | with_reducible refine g_cons ?_
  | with_reducible refine g_tup ?_
  | with_reducible refine g_lst ?_
  | with_reducible refine g_fld ?_
  | with_reducible refine g_sfld ?_
  | with_reducible refine g_sub1 ?_
  | with_reducible refine g_flda ?_
  | with_reducible refine g_rAdd ?_
  | with_reducible refine g_rSub ?_
  | ((with_reducible refine' g_rfldb ?h ?l ?e ?_); (case h => walk_at "fact"); (case l => exact Nat.le_of_ble_eq_true rfl); (case e => exact rfl); intro _ _ _)
  | with_reducible refine g_mt ?_
  | with_reducible refine g_mk ?_
  | ((with_reducible refine g_rmk ?_); intro _ _ _ _ _ _ _ _ _)
  | with_reducible refine g_bm ?_
  | with_reducible refine g_bm0 ?_
  | with_reducible refine g_bl ?_
  | with_reducible refine g_add ?_
  | with_reducible refine g_sub ?_
  | with_reducible refine g_lt ?_
  | with_reducible refine g_le ?_
  | with_reducible refine g_gt ?_
  | with_reducible refine g_ge ?_
  | with_reducible refine g_eqI ?_
  | with_reducible refine g_neI ?_
  | with_reducible refine g_eqS ?_
  | with_reducible refine g_neS ?_
  | with_reducible refine g_eqB ?_
  | with_reducible refine g_isN ?_
  | with_reducible refine g_notN ?_
  | with_reducible refine g_max2 ?_
  | with_reducible refine g_min2 ?_
  | with_reducible refine g_ipI ?_
  | with_reducible refine g_iteT ?_
  | with_reducible refine g_iteF ?_
  | with_reducible refine g_iteNT ?_
  | with_reducible refine g_iteNF ?_
  | ((with_reducible refine' g_aug ?h ?_); (case h => exact rfl))
  | ((with_reducible refine' g_mod ?h ?_); (case h => (first | decide | omega | assumption)))
  | ((with_reducible refine' g_div ?h ?_); (case h => (first | exact ⟨by decide, by decide⟩ | assumption)))
  | ((with_reducible refine' g_pow ?h ?_); (case h => (first | exact ⟨by decide, by decide, by decide⟩ | assumption)))
  | ((with_reducible refine' g_mul ?h ?_); (case h => (first | exact Or.inr ⟨by decide, by decide⟩ | exact Or.inl ⟨by decide, by decide⟩ | exact Or.inr ⟨by omega, by omega⟩ | exact Or.inl ⟨by omega, by omega⟩ | assumption)))
  | ((with_reducible refine' g_newT ?h ?_); (case h => exact Nat.le_of_ble_eq_true rfl); walk_at "new")
  | ((with_reducible refine' g_newL ?h ?_); (case h => exact Nat.le_of_ble_eq_true rfl); walk_at "new")
  | ((with_reducible refine' g_lenL ?h ?_); (case h => walk_at "sql"))
  | ((with_reducible refine' g_lenT ?h ?_); (case h => walk_at "sqt"))
  | ((with_reducible refine' g_ixL ?h ?k ?_); (case h => walk_at "sql"); (case k => exact rfl))
  | ((with_reducible refine' g_ixT ?h ?k ?_); (case h => walk_at "sqt"); (case k => exact rfl))
  | ((with_reducible refine' g_listL ?h ?_); (case h => walk_at "sql"); walk_at "new")
  | ((with_reducible refine' g_listT ?h ?_); (case h => walk_at "sqt"); walk_at "new")
  | ((with_reducible refine' g_tupL ?h ?_); (case h => walk_at "sql"); walk_at "new")
  | ((with_reducible refine' g_bmL ?h ?_); (case h => walk_at "fact"))
  | ((with_reducible refine' g_isi ?h ?k ?_); (case h => walk_at "ty"); (case k => walk_at "kb"))
  | ((with_reducible refine' g_append ?h ?l ?_); (case h => walk_at "fact"); (case l => walk_at "sz"); intro _ _ _)
  | ((with_reducible refine' g_rmt ?h ?l ?_); (case h => walk_at "fact"); (case l => exact rfl))
  | walk_at "own")
local macro_rules | `(tactic| walk_at "go") => `(tactic| repeat walk_at "go1")

def top (i : Nat) : Stmt := PySem.Challenge.pw_manydoors_k07_wires.main.body.getD i (.Pass ⟨0, 0, 0, 0⟩)
abbrev s_Lmixed : Stmt := top 3
abbrev s_Lnumbers : Stmt := top 4
abbrev s_Ldraw : Stmt := top 5
abbrev s_Lequal : Stmt := top 6
abbrev s_Lall_equal : Stmt := top 7
abbrev s_Wire_init : Stmt := inClass (top 1) 0
abbrev s_Wire_send : Stmt := inClass (top 1) 1
abbrev s_Wire_take : Stmt := inClass (top 1) 2
abbrev s_Wire_acknowledged : Stmt := inClass (top 1) 3
abbrev s_law : Stmt := top 8
/-- where the classes stand -/
structure Ad where
  Wire : Addr
structure Txt (K : PySem.W.Frag) (mg : Str → Option Value) (A : Ad) : Prop where
  b_range : mg "range" = none
  b_len : mg "len" = none
  b_isinstance : mg "isinstance" = none
  b_list : mg "list" = none
  b_tuple : mg "tuple" = none
  b_bool : mg "bool" = none
  b_int : mg "int" = none
  b_str : mg "str" = none
  b_max : mg "max" = none
  cl_Wire : Cls K A.Wire
  no_Wire_sent : NoAttr K A.Wire "sent"
  no_Wire_outbox : NoAttr K A.Wire "outbox"
  no_Wire_expected : NoAttr K A.Wire "expected"
def F_Wire (sent : Int) (outbox : Addr) (expected : Int) : List (Str × V) := [("sent", .int sent), ("outbox", .ref outbox), ("expected", .int expected)]
def spLaw (K : PySem.W.Frag) : Sp := fun vs H Q _ => ∃ x0, vs = [x0] ∧ ∃ (a : Addr) (ns : List Int), x0 = .ref a ∧ SqL K H a (ns.map V.int) ∧ ns.length ≤ 63 ∧ ∀ H', Q (.bl true) H'
local macro_rules | `(tactic| walk_at "own") => `(tactic| first
  | ((with_reducible refine' g_rfld (f := "sent") (C := Ad.Wire _) ?h (Txt.cl_Wire (by assumption)) (Txt.no_Wire_sent (by assumption)) ?l ?_); (case h => walk_at "fact"); (case l => exact rfl))
  | ((with_reducible refine' g_rflds (f := "sent") (C := Ad.Wire _) ?h (Txt.cl_Wire (by assumption)) (Txt.no_Wire_sent (by assumption)) ?l ?e ?_); (case h => walk_at "fact"); (case l => exact Nat.le_of_ble_eq_true rfl); (case e => exact rfl); intro _ _ _)
  | ((with_reducible refine' g_rflda (f := "sent") (C := Ad.Wire _) ?h (Txt.cl_Wire (by assumption)) (Txt.no_Wire_sent (by assumption)) ?l ?_); (case h => walk_at "fact"); (case l => exact rfl))
  | ((with_reducible refine' g_rfld (f := "outbox") (C := Ad.Wire _) ?h (Txt.cl_Wire (by assumption)) (Txt.no_Wire_outbox (by assumption)) ?l ?_); (case h => walk_at "fact"); (case l => exact rfl))
  | ((with_reducible refine' g_rflds (f := "outbox") (C := Ad.Wire _) ?h (Txt.cl_Wire (by assumption)) (Txt.no_Wire_outbox (by assumption)) ?l ?e ?_); (case h => walk_at "fact"); (case l => exact Nat.le_of_ble_eq_true rfl); (case e => exact rfl); intro _ _ _)
  | ((with_reducible refine' g_rflda (f := "outbox") (C := Ad.Wire _) ?h (Txt.cl_Wire (by assumption)) (Txt.no_Wire_outbox (by assumption)) ?l ?_); (case h => walk_at "fact"); (case l => exact rfl))
  | ((with_reducible refine' g_rfld (f := "expected") (C := Ad.Wire _) ?h (Txt.cl_Wire (by assumption)) (Txt.no_Wire_expected (by assumption)) ?l ?_); (case h => walk_at "fact"); (case l => exact rfl))
  | ((with_reducible refine' g_rflds (f := "expected") (C := Ad.Wire _) ?h (Txt.cl_Wire (by assumption)) (Txt.no_Wire_expected (by assumption)) ?l ?e ?_); (case h => walk_at "fact"); (case l => exact Nat.le_of_ble_eq_true rfl); (case e => exact rfl); intro _ _ _)
  | ((with_reducible refine' g_rflda (f := "expected") (C := Ad.Wire _) ?h (Txt.cl_Wire (by assumption)) (Txt.no_Wire_expected (by assumption)) ?l ?_); (case h => walk_at "fact"); (case l => exact rfl)))
section
variable {P : Program} {w : World} {K : PySem.W.Frag} {mg : Str → Option Value} {base : Heap} {A : Ad}
def P_Lmixed (K : PySem.W.Frag) (A : Ad) (x0 x1 : V) (H : Hp) (Q : VK) : Prop := ∃ a b : Int, x0 = .int a ∧ x1 = .int b ∧ ∀ n : Int, 0 ≤ n → n < 2147483647 → Q (.int n) H
def sp_Lmixed (K : PySem.W.Frag) (A : Ad) : Sp := fun vs H Q _ => ∃ x0 x1, vs = [x0, x1] ∧ P_Lmixed K A x0 x1 H Q
theorem c_Lmixed {K : PySem.W.Frag} {A : Ad} {x0 x1 : V} {H : Hp} {Q : VK} {E : XK} (h : P_Lmixed K A x0 x1 H Q) : sp_Lmixed K A [x0, x1] H Q E := ⟨_, _, rfl, h⟩
theorem sc_Lmixed : FnScope ["_law_number", "_law_k", "_law_step"] ["_law_number", "_law_k"] (defScope s_Lmixed) := ⟨rfl, rfl, rfl, by decide +kernel, rfl, by decide +kernel, by decide +kernel⟩
def t_Lmixed (K : PySem.W.Frag) (A : Ad) : TS :=
  (tSeq (tAsg (tOp oMod (tOp oAdd (tOp oAdd (tOp oMul (tVar 0) (tC (.int 48271))) (tOp oMul (tVar 1) (tC (.int 69621)))) (tC (.int 12345))) (tC (.int 2147483647))) (gName 2))
    (tRet (tOp oMod (tOp oAdd (tOp oMul (tVar 2) (tOp oAdd (tOp oDiv (tVar 2) (tC (.int 65536))) (tC (.int 3)))) (tVar 1)) (tC (.int 2147483647)))))
theorem pu_Lmixed (T : Txt K mg A) {x0 x1 : V} {H : Hp} {Q : VK} (h : P_Lmixed K A x0 x1 H Q) : t_Lmixed K A { nx := fun _ H' => Q .non H', rt := Q } [some x0, some x1, none] H := by
  obtain ⟨a, b, rfl, rfl, k⟩ := h
  unfold t_Lmixed
  walk_at "go"
  exact k _ (Int.emod_nonneg _ (by decide)) (Int.emod_lt_of_pos _ (by decide))
theorem ok_Lmixed {f : Addr} {fd : FuncData} (F : Fun K "_law_mixed" "_law_mixed" s_Lmixed f fd) (T : Txt K mg A)  : FnOk P w K mg base CX0 (1) f fd ["_law_number", "_law_k"] (sp_Lmixed K A) := by
  refine F.ok sc_Lmixed (fun vs H Q E h => ?_) (fun cdv Ar outer s H vs Q E hr h => ⟨t_Lmixed K A, ?_, ?_⟩)
  · obtain ⟨x0, x1, rfl, _⟩ := h
    rfl
  · have hu := hu_of hr
    exact (pss_cons (ps_set (i := 2) sc_Lmixed.nd rfl (Or.inl rfl) (pe_op o_mod (pe_op o_add (pe_op o_add (pe_op o_mul (pv 0) pe_int) (pe_op o_mul (pv 1) pe_int)) pe_int) pe_int))
    (pss_one (ps_ret (pe_op o_mod (pe_op o_add (pe_op o_mul (pv 2) (pe_op o_add (pe_op o_div (pv 2) pe_int) pe_int)) (pv 1)) pe_int))))
  · obtain ⟨x0, x1, rfl, h⟩ := h
    exact pu_Lmixed T h
def Sml (ms : List Int) : Prop := ∀ m ∈ ms, 0 ≤ m ∧ m < 1000000
theorem Sml.snoc {ms : List Int} (h : Sml ms) (z : Int) : Sml (ms ++ [z % 1000000]) := fun m hm => by
  rcases List.mem_append.mp hm with q | q
  · exact h m q
  · rw [List.mem_singleton.mp q]; exact ⟨Int.emod_nonneg _ (by decide), Int.emod_lt_of_pos _ (by decide)⟩
def P_Lnumbers (K : PySem.W.Frag) (A : Ad) (x0 : V) (H : Hp) (Q : VK) : Prop := ∃ (a : Addr) (ns : List Int), x0 = .ref a ∧ SqL K H a (ns.map V.int) ∧ ns.length ≤ 63 ∧
  ∀ (l : Addr) (ms : List Int) (H' : Hp), H l = none → Fr [] H H' → H' l = some (.lst (ms.map V.int)) → Sml ms → ms.length ≤ 10000 → Q (.ref l) H'
def sp_Lnumbers (K : PySem.W.Frag) (A : Ad) : Sp := fun vs H Q _ => ∃ x0, vs = [x0] ∧ P_Lnumbers K A x0 H Q
theorem c_Lnumbers {K : PySem.W.Frag} {A : Ad} {x0 : V} {H : Hp} {Q : VK} {E : XK} (h : P_Lnumbers K A x0 H Q) : sp_Lnumbers K A [x0] H Q E := ⟨_, rfl, h⟩
theorem sc_Lnumbers : FnScope ["_law_script", "_law_numbers_here", "_law_cell", "_law_rest", "_law_k"] ["_law_script"] (defScope s_Lnumbers) := ⟨rfl, rfl, rfl, by decide +kernel, rfl, by decide +kernel, by decide +kernel⟩
def t_Lnumbers (K : PySem.W.Frag) (A : Ad) : TS :=
  (tSeq (tAsg (tLst tNil) (gName 1))
    (tSeq (tFor (iList K (tVar 0)) (gName 2) (tIfS (tTest (tOp cGe (tVar 2) (tOp oPow (tC (.int 10)) (tC (.int 18))))) (tSeq (tAsg (tVar 2) (gName 3))
    (tFor (iRng1 (tCons (tC (.int 60)) tNil)) (gName 4) (tIfS (tTest (tOp cGt (tVar 3) (tC (.int 0)))) (tSeq (tDrop (tBM K "list" rAppend (tVar 1) (tCons (tOp oMod (tVar 3) (tC (.int 1000000))) tNil)))
    (tAsg (tOp oDiv (tVar 3) (tC (.int 1000000))) (gName 3))) tNext))) (tSeq (tDrop (tBM K "list" rAppend (tVar 1) (tCons (tOp oMod (tVar 2) (tC (.int 1000000))) tNil)))
    (tFor (iRng1 (tCons (tC (.int 5)) tNil)) (gName 4) (tDrop (tBM K "list" rAppend (tVar 1) (tCons (tOp oMod (tCl (sp_Lmixed K A) (tCons (tCl (sp_Lmixed K A) (tCons (tOp oMod (tVar 2) (tC (.int 2147483647))) (tCons (tVar 4) tNil))) (tCons (tOp oAdd (tVar 4) (tC (.int 7))) tNil))) (tC (.int 1000000))) tNil)))))))
    (tRet (tVar 1))))
theorem pu_Lnumbers (T : Txt K mg A) {x0 : V} {H : Hp} {Q : VK} (h : P_Lnumbers K A x0 H Q) : t_Lnumbers K A { nx := fun _ H' => Q .non H', rt := Q } [some x0, none, none, none, none] H := by
  obtain ⟨a, ns, rfl, hS, hl, k⟩ := h
  unfold t_Lnumbers
  walk_at "go"
  rename_i l H0 nl f0 e0
  refine f_list (xs := ns.map V.int) (fun i σ H' => ∃ (ms : List Int) (v1 v2 v3 : Option V), σ = [some (.ref a), some (.ref l), v1, v2, v3] ∧ Fr [] H H' ∧ H' l = some (.lst (ms.map V.int)) ∧ Sml ms ∧ ms.length ≤ 60 * i)
    ⟨[], none, none, none, rfl, f0, e0, fun _ q => (nomatch q), Nat.zero_le _⟩ ?_ ?_ ?_
  · rintro i σ H' _ ⟨ms, v1, v2, v3, rfl, f, e, s, hm⟩
    exact f.sql hS nin0
  · rintro i x σ H1 hx ⟨ms, v1, v2, v3, rfl, f1, e1, s1, hm⟩
    obtain ⟨n, rfl, hn, hmem⟩ := getI hx
    have hi : i < 63 := Nat.lt_of_lt_of_le ((List.getElem?_eq_some_iff.mp hn).1) hl
    walk_at "go"
    refine g_ite (fun c => ?_) (fun c => ?_)
    · walk_at "go"
      refine f_range (lo := 0) (n := 60) (fun j σ H' => ∃ (ms : List Int) (r : Int) (v3 : Option V), σ = [some (.ref a), some (.ref l), some (.int n), some (.int r), v3] ∧ Fr [] H H' ∧ H' l = some (.lst (ms.map V.int)) ∧ Sml ms ∧ ms.length ≤ 60 * i + j)
        ⟨ms, n, v3, rfl, f1, e1, s1, by omega⟩ ?_ ?_
      · rintro j σ H2 hj ⟨ms2, r, v3, rfl, f2, e2, s2, hm2⟩
        walk_at "go"
        refine g_ite (fun c => ?_) (fun c => ?_)
        · walk_at "go"
          rename_i H3 f3 e3
          exact ⟨ms2 ++ [r % 1000000], _, _, rfl, f2.own1 f3 nl, by rw [e3, List.map_append] <;> rfl, s2.snoc r, by rw [List.length_append]; exact Nat.add_le_add_right hm2 1⟩
        · walk_at "go"
          exact ⟨ms2, _, _, rfl, f2, e2, s2, by omega⟩
      · rintro σ H2 ⟨ms2, r, v3, rfl, f2, e2, s2, hm2⟩
        exact ⟨ms2, _, _, _, rfl, f2, e2, s2, by omega⟩
    · walk_at "go"
      rename_i H3 f3 e3
      refine f_range (lo := 0) (n := 5) (fun j σ H' => ∃ (ms : List Int) (v2 v3 : Option V), σ = [some (.ref a), some (.ref l), some (.int n), v2, v3] ∧ Fr [] H H' ∧ H' l = some (.lst (ms.map V.int)) ∧ Sml ms ∧ ms.length ≤ 60 * i + 1 + j)
        ⟨ms ++ [n % 1000000], v2, v3, rfl, f1.own1 f3 nl, by rw [e3, List.map_append] <;> rfl, s1.snoc n, by rw [List.length_append]; exact Nat.add_le_add_right hm 1⟩ ?_ ?_
      · rintro j σ H4 hj ⟨ms2, v2, v3, rfl, f4, e4, s4, hm4⟩
        walk_at "go"
        refine c_Lmixed ⟨_, _, rfl, rfl, fun z _ _ => ?_⟩
        walk_at "go"
        refine c_Lmixed ⟨_, _, rfl, rfl, fun z2 _ _ => ?_⟩
        walk_at "go"
        rename_i H5 f5 e5
        exact ⟨ms2 ++ [z2 % 1000000], _, _, rfl, f4.own1 f5 nl, by rw [e5, List.map_append] <;> rfl, s4.snoc z2, by rw [List.length_append]; exact Nat.add_le_add_right hm4 1⟩
      · rintro σ H4 ⟨ms2, v2, v3, rfl, f4, e4, s4, hm4⟩
        exact ⟨ms2, _, _, _, rfl, f4, e4, s4, by omega⟩
  · rintro σ H1 ⟨ms, v1, v2, v3, rfl, f1, e1, s1, hm⟩
    walk_at "go"
    rw [List.length_map] at hm
    exact k l ms H1 nl f1 e1 s1 (by omega)
theorem ok_Lnumbers {f : Addr} {fd : FuncData} (F : Fun K "_law_numbers" "_law_numbers" s_Lnumbers f fd) (T : Txt K mg A) (c_Lmixed : Cal P w K mg base "_law_mixed" 1 ["_law_number", "_law_k"] (sp_Lmixed K A)) : FnOk P w K mg base CX0 (2) f fd ["_law_script"] (sp_Lnumbers K A) := by
  refine F.ok sc_Lnumbers (fun vs H Q E h => ?_) (fun cdv Ar outer s H vs Q E hr h => ⟨t_Lnumbers K A, ?_, ?_⟩)
  · obtain ⟨x0, rfl, _⟩ := h
    rfl
  · have hu := hu_of hr
    exact (pss_cons (ps_set (i := 1) sc_Lnumbers.nd rfl (Or.inl rfl) (pe_lst pa_nil))
    (pss_cons (ps_for PassesOwn.never rfl (pi_list (pv 0)) (pg_name (i := 2) sc_Lnumbers.nd rfl (Or.inl rfl)) (pss_one (ps_if (pt_cmpR c_ge (pv 2) (pe_op o_pow pe_int pe_int) (nomark _)) (pss_cons (ps_set (i := 3) sc_Lnumbers.nd rfl (Or.inl rfl) (pv 2))
    (pss_one (ps_for PassesOwn.never rfl (pi_range1 rfl T.b_range (pa_cons pe_int pa_nil)) (pg_name (i := 4) sc_Lnumbers.nd rfl (Or.inl rfl)) (pss_one (ps_if (pt_cmpR c_gt (pv 3) pe_int (nomark _)) (pss_cons (ps_expr (pe_bm PySem.F.plainAttrs_list PySem.F.slot_list_append PySem.F.type_list_append mt_append (pv 1) (pa_cons (pe_op o_mod (pv 3) pe_int) pa_nil)))
    (pss_one (ps_set (i := 3) sc_Lnumbers.nd rfl (Or.inl rfl) (pe_op o_div (pv 3) pe_int)))) pss_nil))))) (pss_cons (ps_expr (pe_bm PySem.F.plainAttrs_list PySem.F.slot_list_append PySem.F.type_list_append mt_append (pv 1) (pa_cons (pe_op o_mod (pv 2) pe_int) pa_nil)))
    (pss_one (ps_for PassesOwn.never rfl (pi_range1 rfl T.b_range (pa_cons pe_int pa_nil)) (pg_name (i := 4) sc_Lnumbers.nd rfl (Or.inl rfl)) (pss_one (ps_expr (pe_bm PySem.F.plainAttrs_list PySem.F.slot_list_append PySem.F.type_list_append mt_append (pv 1) (pa_cons (pe_op o_mod (pe_cl c_Lmixed (hr.mono (by first | decide | omega)) (by rfl) (pa_cons (pe_cl c_Lmixed (hr.mono (by first | decide | omega)) (by rfl) (pa_cons (pe_op o_mod (pv 2) pe_int) (pa_cons (pv 4) pa_nil))) (pa_cons (pe_op o_add (pv 4) pe_int) pa_nil))) pe_int) pa_nil))))))))))
    (pss_one (ps_ret (pv 1)))))
  · obtain ⟨x0, rfl, h⟩ := h
    exact pu_Lnumbers T h
/-- the draws: a list of the numbers' list and a place -/
def Draws (H : Hp) (d l : Addr) : Prop := ∃ (ms : List Int) (k : Int), H d = some (.lst [.ref l, .int k]) ∧ H l = some (.lst (ms.map V.int)) ∧ Sml ms ∧ ms.length ≤ 10000 ∧ 0 ≤ k
theorem Draws.fr {H H' : Hp} {d l : Addr} {m : List Addr} (h : Draws H d l) (f : Fr m H H') (n1 : d ∉ m) (n2 : l ∉ m) : Draws H' d l := by
  obtain ⟨ms, k, h1, h2, h3⟩ := h
  exact ⟨ms, k, f.at h1 n1, f.at h2 n2, h3⟩
def P_Ldraw (K : PySem.W.Frag) (A : Ad) (x0 : V) (H : Hp) (Q : VK) : Prop := ∃ (d l : Addr), x0 = .ref d ∧ Draws H d l ∧
  ∀ (n : Int) (H' : Hp), 0 ≤ n → n < 1000000 → Fr [d] H H' → Draws H' d l → Q (.int n) H'
def sp_Ldraw (K : PySem.W.Frag) (A : Ad) : Sp := fun vs H Q _ => ∃ x0, vs = [x0] ∧ P_Ldraw K A x0 H Q
theorem c_Ldraw {K : PySem.W.Frag} {A : Ad} {x0 : V} {H : Hp} {Q : VK} {E : XK} (h : P_Ldraw K A x0 H Q) : sp_Ldraw K A [x0] H Q E := ⟨_, rfl, h⟩
theorem sc_Ldraw : FnScope ["_law_draws", "_law_at", "_law_first"] ["_law_draws"] (defScope s_Ldraw) := ⟨rfl, rfl, rfl, by decide +kernel, rfl, by decide +kernel, by decide +kernel⟩
def t_Ldraw (K : PySem.W.Frag) (A : Ad) : TS :=
  (tSeq (tAsg (tOp (rIxL K) (tVar 0) (tC (.int 1))) (gName 1))
    (tSeq (tAsg (tOp oAdd (tVar 1) (tC (.int 1))) (gSub (tVar 0) (tC (.int 1)) rSetL))
    (tSeq (tIfS (tTest (tOp cLt (tVar 1) (tCB (rLenSq K) (tCons (tOp (rIxL K) (tVar 0) (tC (.int 0))) tNil)))) (tRet (tOp (rIxL K) (tOp (rIxL K) (tVar 0) (tC (.int 0))) (tVar 1))) tNext)
    (tSeq (tAsg (tOp oAdd (tC (.int 1)) (tVar 1)) (gName 2))
    (tSeq (tIfS (tTest (tOp cGt (tCB (rLenSq K) (tCons (tOp (rIxL K) (tVar 0) (tC (.int 0))) tNil)) (tC (.int 0)))) (tAsg (tOp oAdd (tVar 2) (tOp oMul (tC (.int 1009)) (tOp (rIxL K) (tOp (rIxL K) (tVar 0) (tC (.int 0))) (tC (.int 0))))) (gName 2)) tNext)
    (tRet (tOp oMod (tCl (sp_Lmixed K A) (tCons (tCl (sp_Lmixed K A) (tCons (tVar 2) (tCons (tVar 1) tNil))) (tCons (tC (.int 5)) tNil))) (tC (.int 1000000)))))))))
theorem pu_Ldraw (T : Txt K mg A) {x0 : V} {H : Hp} {Q : VK} (h : P_Ldraw K A x0 H Q) : t_Ldraw K A { nx := fun _ H' => Q .non H', rt := Q } [some x0, none, none] H := by
  obtain ⟨d, l, rfl, ⟨ms, k, hd, hL, sm, hlen, hk⟩, q⟩ := h
  unfold t_Ldraw
  walk_at "go"
  refine g_setL hd (j := 1) rfl fun H1 f1 e1 => ?_
  have nld : l ≠ d := fun z => by
    subst z
    rw [hd] at hL
    have e := congrArg List.length (HO.lst.inj (Option.some.inj hL))
    cases ms with
    | nil => cases e
    | cons a r => cases HO.lst.inj (Option.some.inj hL)
  have hL1 : H1 l = some (.lst (ms.map V.int)) := f1.at hL (nin1 nld nin0)
  have D1 : Draws H1 d l := ⟨ms, k + 1, e1, hL1, sm, hlen, by omega⟩
  have e1' : H1 d = some (.lst [.ref l, .int (k + 1)]) := e1
  walk_at "go"
  rw [List.length_map]
  refine g_ite (fun c => ?_) (fun c => ?_)
  · walk_at "go"
    obtain ⟨v, hv, hv2⟩ := atI_of (xs := ms.map V.int) hk (by rw [List.length_map]; exact c)
    obtain ⟨n, rfl, _, hmem⟩ := getI hv2
    refine g_ixL (SqL.of hL1) hv ?_
    exact q n H1 (sm n hmem).1 (sm n hmem).2 f1 D1
  · have fin : ∀ n : Int, Q (.int (n % 1000000)) H1 := fun n => q _ H1 (Int.emod_nonneg _ (by decide)) (Int.emod_lt_of_pos _ (by decide)) f1 D1
    walk_at "go"
    rw [List.length_map]
    refine g_ite (fun c2 => ?_) (fun c2 => ?_)
    · walk_at "go"
      obtain ⟨v, hv, hv2⟩ := atI_of (xs := ms.map V.int) (z := 0) (Int.le_refl _) (by rw [List.length_map]; exact c2)
      obtain ⟨n, rfl, _, hmem⟩ := getI hv2
      refine g_ixL (SqL.of hL1) hv ?_
      walk_at "go"
      refine c_Lmixed ⟨_, _, rfl, rfl, fun z _ _ => ?_⟩
      walk_at "go"
      refine c_Lmixed ⟨_, _, rfl, rfl, fun z2 _ _ => ?_⟩
      walk_at "go"
      exact fin z2
    · walk_at "go"
      refine c_Lmixed ⟨_, _, rfl, rfl, fun z _ _ => ?_⟩
      walk_at "go"
      refine c_Lmixed ⟨_, _, rfl, rfl, fun z2 _ _ => ?_⟩
      walk_at "go"
      exact fin z2
theorem ok_Ldraw {f : Addr} {fd : FuncData} (F : Fun K "_law_draw" "_law_draw" s_Ldraw f fd) (T : Txt K mg A) (c_Lmixed : Cal P w K mg base "_law_mixed" 1 ["_law_number", "_law_k"] (sp_Lmixed K A)) : FnOk P w K mg base CX0 (2) f fd ["_law_draws"] (sp_Ldraw K A) := by
  refine F.ok sc_Ldraw (fun vs H Q E h => ?_) (fun cdv Ar outer s H vs Q E hr h => ⟨t_Ldraw K A, ?_, ?_⟩)
  · obtain ⟨x0, rfl, _⟩ := h
    rfl
  · have hu := hu_of hr
    exact (pss_cons (ps_set (i := 1) sc_Ldraw.nd rfl (Or.inl rfl) (pe_ix ix_list (pv 0) pe_int (fun _ _ => rfl)))
    (pss_cons (ps_asg (pe_op o_add (pv 1) pe_int) (pg_sub (pv 0) pe_int set_list))
    (pss_cons (ps_if (pt_cmpR c_lt (pv 1) (pe_callB b_len (by rfl) T.b_len (by decide +kernel) (pa_cons (pe_ix ix_list (pv 0) pe_int (fun _ _ => rfl)) pa_nil)) (nomark _)) (pss_one (ps_ret (pe_ix ix_list (pe_ix ix_list (pv 0) pe_int (fun _ _ => rfl)) (pv 1) (fun _ _ => rfl)))) pss_nil)
    (pss_cons (ps_set (i := 2) sc_Ldraw.nd rfl (Or.inl rfl) (pe_op o_add pe_int (pv 1)))
    (pss_cons (ps_if (pt_cmpR c_gt (pe_callB b_len (by rfl) T.b_len (by decide +kernel) (pa_cons (pe_ix ix_list (pv 0) pe_int (fun _ _ => rfl)) pa_nil)) pe_int (nomark _)) (pss_one (ps_set (i := 2) sc_Ldraw.nd rfl (Or.inl rfl) (pe_op o_add (pv 2) (pe_op o_mul pe_int (pe_ix ix_list (pe_ix ix_list (pv 0) pe_int (fun _ _ => rfl)) pe_int (fun _ _ => rfl)))))) pss_nil)
    (pss_one (ps_ret (pe_op o_mod (pe_cl c_Lmixed (hr.mono (by first | decide | omega)) (by rfl) (pa_cons (pe_cl c_Lmixed (hr.mono (by first | decide | omega)) (by rfl) (pa_cons (pv 2) (pa_cons (pv 1) pa_nil))) (pa_cons pe_int pa_nil))) pe_int))))))))
  · obtain ⟨x0, rfl, h⟩ := h
    exact pu_Ldraw T h

/-! ### _law_equal, _law_all_equal: what reads as one datum is found equal -/
def SeqD (H : Hp) (x : V) (ds : List PyData) : Prop := ∃ (a : Addr) (xs : List V), x = .ref a ∧ (H a = some (.lst xs) ∨ H a = some (.tup xs)) ∧ xs.length ≤ 1000000 ∧ DaL H xs ds
def P_Lequal (K : PySem.W.Frag) (A : Ad) (m : Nat) (x0 x1 : V) (H : Hp) (Q : VK) : Prop := ∃ d : PyData, Da H x0 d ∧ Da H x1 d ∧ dp d ≤ m ∧ Q (.bl true) H
def P_Lall_equal (K : PySem.W.Frag) (A : Ad) (m : Nat) (x0 x1 : V) (H : Hp) (Q : VK) : Prop := ∃ ds : List PyData, SeqD H x0 ds ∧ SeqD H x1 ds ∧ dpL ds + 1 ≤ m ∧ Q (.bl true) H
def sp_Lequal (K : PySem.W.Frag) (A : Ad) (m : Nat) : Sp := fun vs H Q _ => ∃ x0 x1, vs = [x0, x1] ∧ P_Lequal K A m x0 x1 H Q
theorem c_Lequal {K : PySem.W.Frag} {A : Ad} {m : Nat} {x0 x1 : V} {H : Hp} {Q : VK} {E : XK} (h : P_Lequal K A m x0 x1 H Q) : sp_Lequal K A m [x0, x1] H Q E := ⟨_, _, rfl, h⟩
def sp_Lall_equal (K : PySem.W.Frag) (A : Ad) (m : Nat) : Sp := fun vs H Q _ => ∃ x0 x1, vs = [x0, x1] ∧ P_Lall_equal K A m x0 x1 H Q
theorem c_Lall_equal {K : PySem.W.Frag} {A : Ad} {m : Nat} {x0 x1 : V} {H : Hp} {Q : VK} {E : XK} (h : P_Lall_equal K A m x0 x1 H Q) : sp_Lall_equal K A m [x0, x1] H Q E := ⟨_, _, rfl, h⟩
theorem sc_Lequal : FnScope ["_law_actual", "_law_due"] ["_law_actual", "_law_due"] (defScope s_Lequal) := ⟨rfl, rfl, rfl, by decide +kernel, rfl, by decide +kernel, by decide +kernel⟩
def t_Lequal (K : PySem.W.Frag) (A : Ad) (m : Nat) : TS :=
  (tSeq (tIfS (tB (tCB (rIsi K) (tCons (tVar 1) (tCons (tC (.ty "list")) tNil)))) (tSeq (tIfS (tOr (tNot (tB (tCB (rIsi K) (tCons (tVar 0) (tCons (tC (.ty "list")) tNil))))) (tTest (tOp rNe (tCB (rLenSq K) (tCons (tVar 0) tNil)) (tCB (rLenSq K) (tCons (tVar 1) tNil))))) (tRet (tC (.bl false))) tNext)
    (tRet (tCl (sp_Lall_equal K A m) (tCons (tVar 0) (tCons (tVar 1) tNil))))) tNext)
    (tSeq (tIfS (tB (tCB (rIsi K) (tCons (tVar 1) (tCons (tC (.ty "tuple")) tNil)))) (tSeq (tIfS (tOr (tNot (tB (tCB (rIsi K) (tCons (tVar 0) (tCons (tC (.ty "tuple")) tNil))))) (tTest (tOp rNe (tCB (rLenSq K) (tCons (tVar 0) tNil)) (tCB (rLenSq K) (tCons (tVar 1) tNil))))) (tRet (tC (.bl false))) tNext)
    (tRet (tCl (sp_Lall_equal K A m) (tCons (tVar 0) (tCons (tVar 1) tNil))))) tNext)
    (tSeq (tIfS (tB (tCB (rIsi K) (tCons (tVar 1) (tCons (tC (.ty "bool")) tNil)))) (tRet (tAndV (tCB (rIsi K) (tCons (tVar 0) (tCons (tC (.ty "bool")) tNil))) (tOp rEq (tVar 0) (tVar 1)))) tNext)
    (tSeq (tIfS (tB (tCB (rIsi K) (tCons (tVar 1) (tCons (tC (.ty "int")) tNil)))) (tRet (tAndV (tCB (rIsi K) (tCons (tVar 0) (tCons (tC (.ty "int")) tNil))) (tAndV (tNotV (tCB (rIsi K) (tCons (tVar 0) (tCons (tC (.ty "bool")) tNil)))) (tOp rEq (tVar 0) (tVar 1))))) tNext)
    (tSeq (tIfS (tB (tCB (rIsi K) (tCons (tVar 1) (tCons (tC (.ty "str")) tNil)))) (tRet (tAndV (tCB (rIsi K) (tCons (tVar 0) (tCons (tC (.ty "str")) tNil))) (tOp rEq (tVar 0) (tVar 1)))) tNext)
    (tRet (tOp rIsNon (tVar 0) (tC .non))))))))
theorem pu_Lequal (T : Txt K mg A) {m : Nat} {x0 x1 : V} {H : Hp} {Q : VK} (h : P_Lequal K A m x0 x1 H Q) : t_Lequal K A m { nx := fun _ H' => Q .non H', rt := Q } [some x0, some x1] H := by
  obtain ⟨d, h0, h1, hm, q⟩ := h
  unfold t_Lequal
  cases h0 with
  | non =>
    cases h1
    walk_at "go"
    exact q
  | bl b =>
    cases h1
    walk_at "go"
    simpa using q
  | int i =>
    cases h1
    walk_at "go"
    simpa using q
  | str z =>
    cases h1
    walk_at "go"
    simpa using q
  | lst e0 z0 r0 =>
    cases h1 with
    | lst e1 z1 r1 =>
      walk_at "go"
      refine g_iteN (fun c => absurd (by rw [r0.len, r1.len]) c) (fun c => ?_)
      walk_at "go"
      refine c_Lall_equal ⟨_, ⟨_, _, rfl, .inl e0, z0, r0⟩, ⟨_, _, rfl, .inl e1, z1, r1⟩, ?_, q⟩
      simpa [dp] using hm
  | tup e0 z0 r0 =>
    cases h1 with
    | tup e1 z1 r1 =>
      walk_at "go"
      refine g_iteN (fun c => absurd (by rw [r0.len, r1.len]) c) (fun c => ?_)
      walk_at "go"
      refine c_Lall_equal ⟨_, ⟨_, _, rfl, .inr e0, z0, r0⟩, ⟨_, _, rfl, .inr e1, z1, r1⟩, ?_, q⟩
      simpa [dp] using hm
theorem ok_Lequal {f : Addr} {fd : FuncData} (F : Fun K "_law_equal" "_law_equal" s_Lequal f fd) (T : Txt K mg A) {m : Nat} (c_Lall_equal : Cal P w K mg base "_law_all_equal" (2 * m) ["_law_actual", "_law_due"] (sp_Lall_equal K A m)) : FnOk P w K mg base CX0 (2 * m + 1) f fd ["_law_actual", "_law_due"] (sp_Lequal K A m) := by
  refine F.ok sc_Lequal (fun vs H Q E h => ?_) (fun cdv Ar outer s H vs Q E hr h => ⟨t_Lequal K A m, ?_, ?_⟩)
  · obtain ⟨x0, x1, rfl, _⟩ := h
    rfl
  · have hu := hu_of hr
    exact (pss_cons (ps_if (pt_val (pe_callB call_isi (by rfl) T.b_isinstance (by decide +kernel) (pa_cons (pv 1) (pa_cons (pe_bltn (by rfl) T.b_list (by decide +kernel) (v := .ty "list") rfl) pa_nil)))) (pss_cons (ps_if (PW.pt (pw_or (pt_not (pt_val (pe_callB call_isi (by rfl) T.b_isinstance (by decide +kernel) (pa_cons (pv 0) (pa_cons (pe_bltn (by rfl) T.b_list (by decide +kernel) (v := .ty "list") rfl) pa_nil))))) (pw_or1 (pt_cmpR op_ne (pe_callB b_len (by rfl) T.b_len (by decide +kernel) (pa_cons (pv 0) pa_nil)) (pe_callB b_len (by rfl) T.b_len (by decide +kernel) (pa_cons (pv 1) pa_nil)) (nomark _))))) (pss_one (ps_ret pe_bl)) pss_nil)
    (pss_one (ps_ret (pe_cl c_Lall_equal (hr.mono (by first | decide | omega)) (by rfl) (pa_cons (pv 0) (pa_cons (pv 1) pa_nil)))))) pss_nil)
    (pss_cons (ps_if (pt_val (pe_callB call_isi (by rfl) T.b_isinstance (by decide +kernel) (pa_cons (pv 1) (pa_cons (pe_bltn (by rfl) T.b_tuple (by decide +kernel) (v := .ty "tuple") rfl) pa_nil)))) (pss_cons (ps_if (PW.pt (pw_or (pt_not (pt_val (pe_callB call_isi (by rfl) T.b_isinstance (by decide +kernel) (pa_cons (pv 0) (pa_cons (pe_bltn (by rfl) T.b_tuple (by decide +kernel) (v := .ty "tuple") rfl) pa_nil))))) (pw_or1 (pt_cmpR op_ne (pe_callB b_len (by rfl) T.b_len (by decide +kernel) (pa_cons (pv 0) pa_nil)) (pe_callB b_len (by rfl) T.b_len (by decide +kernel) (pa_cons (pv 1) pa_nil)) (nomark _))))) (pss_one (ps_ret pe_bl)) pss_nil)
    (pss_one (ps_ret (pe_cl c_Lall_equal (hr.mono (by first | decide | omega)) (by rfl) (pa_cons (pv 0) (pa_cons (pv 1) pa_nil)))))) pss_nil)
    (pss_cons (ps_if (pt_val (pe_callB call_isi (by rfl) T.b_isinstance (by decide +kernel) (pa_cons (pv 1) (pa_cons (pe_bltn (by rfl) T.b_bool (by decide +kernel) (v := .ty "bool") rfl) pa_nil)))) (pss_one (ps_ret (pe_and (pe_callB call_isi (by rfl) T.b_isinstance (by decide +kernel) (pa_cons (pv 0) (pa_cons (pe_bltn (by rfl) T.b_bool (by decide +kernel) (v := .ty "bool") rfl) pa_nil))) (pe_one (pe_cmpR op_eq (pv 0) (pv 1) (nomark _)))))) pss_nil)
    (pss_cons (ps_if (pt_val (pe_callB call_isi (by rfl) T.b_isinstance (by decide +kernel) (pa_cons (pv 1) (pa_cons (pe_bltn (by rfl) T.b_int (by decide +kernel) (v := .ty "int") rfl) pa_nil)))) (pss_one (ps_ret (pe_and (pe_callB call_isi (by rfl) T.b_isinstance (by decide +kernel) (pa_cons (pv 0) (pa_cons (pe_bltn (by rfl) T.b_int (by decide +kernel) (v := .ty "int") rfl) pa_nil))) (pe_and (pe_not (pe_callB call_isi (by rfl) T.b_isinstance (by decide +kernel) (pa_cons (pv 0) (pa_cons (pe_bltn (by rfl) T.b_bool (by decide +kernel) (v := .ty "bool") rfl) pa_nil)))) (pe_one (pe_cmpR op_eq (pv 0) (pv 1) (nomark _))))))) pss_nil)
    (pss_cons (ps_if (pt_val (pe_callB call_isi (by rfl) T.b_isinstance (by decide +kernel) (pa_cons (pv 1) (pa_cons (pe_bltn (by rfl) T.b_str (by decide +kernel) (v := .ty "str") rfl) pa_nil)))) (pss_one (ps_ret (pe_and (pe_callB call_isi (by rfl) T.b_isinstance (by decide +kernel) (pa_cons (pv 0) (pa_cons (pe_bltn (by rfl) T.b_str (by decide +kernel) (v := .ty "str") rfl) pa_nil))) (pe_one (pe_cmpR op_eq (pv 0) (pv 1) (nomark _)))))) pss_nil)
    (pss_one (ps_ret (pe_cmpR c_isN (pv 0) pe_non (nomark _)))))))))
  · obtain ⟨x0, x1, rfl, h⟩ := h
    exact pu_Lequal T h
theorem sc_Lall_equal : FnScope ["_law_actual", "_law_due", "_law_k"] ["_law_actual", "_law_due"] (defScope s_Lall_equal) := ⟨rfl, rfl, rfl, by decide +kernel, rfl, by decide +kernel, by decide +kernel⟩
def t_Lall_equal (K : PySem.W.Frag) (A : Ad) (m : Nat) : TS :=
  (tSeq (tFor (iRng1 (tCons (tCB (rLenSq K) (tCons (tVar 1) tNil)) tNil)) (gName 2) (tIfS (tNot (tB (tCl (sp_Lequal K A m) (tCons (tOp (rIx K) (tVar 0) (tVar 2)) (tCons (tOp (rIx K) (tVar 1) (tVar 2)) tNil))))) (tRet (tC (.bl false))) tNext))
    (tRet (tC (.bl true))))
theorem g_lenS {xs : List V} {H : Hp} {Q : VK} {p : Addr} (h : H p = some (.lst xs) ∨ H p = some (.tup xs)) (q : Q (.int xs.length) H) : rLenSq K [.ref p] H Q := h.elim (fun e => g_lenL (SqL.of e) q) (fun e => g_lenT (SqT.of e) q)
theorem g_ixS {xs : List V} {H : Hp} {Q : VK} {p : Addr} {i : Int} {v : V} (h : H p = some (.lst xs) ∨ H p = some (.tup xs)) (ha : atI xs i = some v) (q : Q v H) : rIx K (.ref p) (.int i) H Q :=
  h.elim (fun e => .inl (g_ixL (SqL.of e) ha q)) (fun e => .inr (.inl (g_ixT (SqT.of e) ha q)))
theorem pu_Lall_equal (T : Txt K mg A) {m : Nat} {x0 x1 : V} {H : Hp} {Q : VK} (h : P_Lall_equal K A (m + 1) x0 x1 H Q) : t_Lall_equal K A m { nx := fun _ H' => Q .non H', rt := Q } [some x0, some x1, none] H := by
  obtain ⟨ds, ⟨a, xs, rfl, ha, hz, ra⟩, ⟨b, ys, rfl, hb, hy, rb⟩, hm, q⟩ := h
  unfold t_Lall_equal
  walk_at "go"
  refine g_lenS hb ?_
  walk_at "go"
  have hl := ra.len
  have hk := rb.len
  refine f_range (lo := 0) (fun i σ H' => (∃ v, σ = [some (.ref a), some (.ref b), v]) ∧ H' = H) ⟨⟨_, rfl⟩, rfl⟩ ?_ ?_
  · rintro i σ H' hi ⟨⟨v, rfl⟩, rfl⟩
    have hi2 : i < xs.length := by omega
    have hi3 : i < ys.length := by omega
    obtain ⟨d, hd, dd⟩ := ra.get (List.getElem?_eq_getElem hi2)
    obtain ⟨d', hd', dd'⟩ := rb.get (List.getElem?_eq_getElem hi3)
    rw [hd] at hd'
    cases hd'
    walk_at "go"
    refine g_ixS ha (v := xs[i]) (by rw [Int.zero_add]; exact atI_nat (List.getElem?_eq_getElem hi2)) ?_
    walk_at "go"
    refine g_ixS hb (v := ys[i]) (by rw [Int.zero_add]; exact atI_nat (List.getElem?_eq_getElem hi3)) ?_
    walk_at "go"
    refine c_Lequal ⟨d, dd, dd', ?_, ?_⟩
    · have := dpL_get hd
      omega
    · walk_at "go"
      exact ⟨⟨_, rfl⟩, rfl⟩
  · rintro σ H' ⟨⟨v, rfl⟩, rfl⟩
    walk_at "go"
    exact q
theorem ok_Lall_equal {f : Addr} {fd : FuncData} (F : Fun K "_law_all_equal" "_law_all_equal" s_Lall_equal f fd) (T : Txt K mg A) {m : Nat} (c_Lequal : Cal P w K mg base "_law_equal" (2 * m + 1) ["_law_actual", "_law_due"] (sp_Lequal K A m)) : FnOk P w K mg base CX0 (2 * m + 2) f fd ["_law_actual", "_law_due"] (sp_Lall_equal K A (m + 1)) := by
  refine F.ok sc_Lall_equal (fun vs H Q E h => ?_) (fun cdv Ar outer s H vs Q E hr h => ⟨t_Lall_equal K A m, ?_, ?_⟩)
  · obtain ⟨x0, x1, rfl, _⟩ := h
    rfl
  · have hu := hu_of hr
    exact (pss_cons (ps_for PassesOwn.never rfl (pi_range1 rfl T.b_range (pa_cons (pe_callB b_len (by rfl) T.b_len (by decide +kernel) (pa_cons (pv 1) pa_nil)) pa_nil)) (pg_name (i := 2) sc_Lall_equal.nd rfl (Or.inl rfl)) (pss_one (ps_if (pt_not (pt_val (pe_cl c_Lequal (hr.mono (by first | decide | omega)) (by rfl) (pa_cons (pe_ix ix_seq (pv 0) (pv 2) (fun _ _ => rfl)) (pa_cons (pe_ix ix_seq (pv 1) (pv 2) (fun _ _ => rfl)) pa_nil))))) (pss_one (ps_ret pe_bl)) pss_nil)))
    (pss_one (ps_ret pe_bl)))
  · obtain ⟨x0, x1, rfl, h⟩ := h
    exact pu_Lall_equal T h
theorem eq_all {fE fA : Addr} {fdE fdA : FuncData} (FE : Fun K "_law_equal" "_law_equal" s_Lequal fE fdE) (T : Txt K mg A) (hE : mg "_law_equal" = some (.ref fE)) (bE : Binds K fdE ["_law_actual", "_law_due"] [])
    (FA : Fun K "_law_all_equal" "_law_all_equal" s_Lall_equal fA fdA) (hA : mg "_law_all_equal" = some (.ref fA)) (bA : Binds K fdA ["_law_actual", "_law_due"] []) :
    ∀ m : Nat, Cal P w K mg base "_law_all_equal" (2 * m) ["_law_actual", "_law_due"] (sp_Lall_equal K A m)
  | 0 => by
    have no : ∀ vs H Q E, ¬ sp_Lall_equal K A 0 vs H Q E := fun vs H Q E h => by
      obtain ⟨x0, x1, _, ds, _, _, hm, _⟩ := h
      omega
    exact ⟨fA, fdA, ⟨fun vs H Q E h => absurd h (no vs H Q E), fun A outer s H args us vs Q E _ _ _ _ h => absurd h (no vs H Q E)⟩, hA, FA.kp, bA⟩
  | m + 1 => ⟨fA, fdA, ok_Lall_equal FA T ⟨fE, fdE, ok_Lequal FE T (eq_all FE T hE bE FA hA bA m), hE, FE.kp, bE⟩, hA, FA.kp, bA⟩
theorem eq_one {fE fA : Addr} {fdE fdA : FuncData} (FE : Fun K "_law_equal" "_law_equal" s_Lequal fE fdE) (T : Txt K mg A) (hE : mg "_law_equal" = some (.ref fE)) (bE : Binds K fdE ["_law_actual", "_law_due"] [])
    (FA : Fun K "_law_all_equal" "_law_all_equal" s_Lall_equal fA fdA) (hA : mg "_law_all_equal" = some (.ref fA)) (bA : Binds K fdA ["_law_actual", "_law_due"] []) (m : Nat) :
    Cal P w K mg base "_law_equal" (2 * m + 1) ["_law_actual", "_law_due"] (sp_Lequal K A m) := ⟨fE, fdE, ok_Lequal FE T (eq_all FE T hE bE FA hA bA m), hE, FE.kp, bE⟩

/-! ### one end of a wire -/
/-- a wire at p: its dict, its outbox's list l -/
def WireAt (A : Ad) (H : Hp) (p l : Addr) (n : Int) (xs : List V) (e : Int) : Prop := (∃ dx, H p = some (.ins A.Wire dx (F_Wire n l e))) ∧ H l = some (.lst xs)
theorem WireAt.ne {A : Ad} {H : Hp} {p l : Addr} {n e : Int} {xs : List V} (w : WireAt A H p l n xs e) : l ≠ p := ne_of w.2 w.1.choose_spec (by intro z; cases z)
theorem WireAt.fr {A : Ad} {H H' : Hp} {p l : Addr} {n e : Int} {xs : List V} {m : List Addr} (w : WireAt A H p l n xs e) (f : Fr m H H') (n1 : p ∉ m) (n2 : l ∉ m) : WireAt A H' p l n xs e := by
  obtain ⟨⟨dx, h⟩, h2⟩ := w
  exact ⟨⟨dx, f.at h n1⟩, f.at h2 n2⟩
def P_Wire_init (K : PySem.W.Frag) (A : Ad) (x0 : V) (H : Hp) (Q : VK) : Prop := ∃ (p dx : Addr), x0 = .ref p ∧ H p = some (.ins A.Wire dx []) ∧
  ∀ (l : Addr) (H' : Hp), H l = none → Fr [p] H H' → WireAt A H' p l 0 [] 0 → Q .non H'
def sp_Wire_init (K : PySem.W.Frag) (A : Ad) : Sp := fun vs H Q _ => ∃ x0, vs = [x0] ∧ P_Wire_init K A x0 H Q
theorem c_Wire_init {K : PySem.W.Frag} {A : Ad} {x0 : V} {H : Hp} {Q : VK} {E : XK} (h : P_Wire_init K A x0 H Q) : sp_Wire_init K A [x0] H Q E := ⟨_, rfl, h⟩
theorem sc_Wire_init : FnScope ["self"] ["self"] (defScope s_Wire_init) := ⟨rfl, rfl, rfl, by decide +kernel, rfl, by decide +kernel, by decide +kernel⟩
def t_Wire_init (K : PySem.W.Frag) (A : Ad) : TS :=
  (tSeq (sFld K (tVar 0) (tC (.int 0)) "sent")
    (tSeq (sFld K (tVar 0) (tLst tNil) "outbox")
    (sFld K (tVar 0) (tC (.int 0)) "expected")))
theorem pu_Wire_init (T : Txt K mg A) {x0 : V} {H : Hp} {Q : VK} (h : P_Wire_init K A x0 H Q) : t_Wire_init K A { nx := fun _ H' => Q .non H', rt := Q } [some x0] H := by
  obtain ⟨p, dx, rfl, hp, k⟩ := h
  unfold t_Wire_init
  walk_at "go"
  rename_i H1 f1 e1 l H2 n2 f2 e2 H3 f3 e3 H4 f4 e4
  have nl : p ≠ l := ne_of_none e1 n2
  exact k l H4 (f1.freeL n2 (nin1 nl.symm nin0)) (((f1.then0 f2).transL f3).transL f4) ⟨⟨dx, e4⟩, by walk_at "fact"⟩
theorem ok_Wire_init {f : Addr} {fd : FuncData} (F : Fun K "__init__" "Wire.__init__" s_Wire_init f fd) (T : Txt K mg A)  : FnOk P w K mg base CX0 (1) f fd ["self"] (sp_Wire_init K A) := by
  refine F.ok sc_Wire_init (fun vs H Q E h => ?_) (fun cdv Ar outer s H vs Q E hr h => ⟨t_Wire_init K A, ?_, ?_⟩)
  · obtain ⟨x0, rfl, _⟩ := h
    rfl
  · have hu := hu_of hr
    exact (pss_cons (ps_fld (pv 0) pe_int rfl)
    (pss_cons (ps_fld (pv 0) (pe_lst pa_nil) rfl)
    (pss_one (ps_fld (pv 0) pe_int rfl))))
  · obtain ⟨x0, rfl, h⟩ := h
    exact pu_Wire_init T h
def P_Wire_send (K : PySem.W.Frag) (A : Ad) (x0 x1 : V) (H : Hp) (Q : VK) : Prop := ∃ (p l : Addr) (n : Int) (xs : List V) (e : Int), x0 = .ref p ∧ WireAt A H p l n xs e ∧ xs.length ≤ 100000 ∧
  ∀ (t : Addr) (H' : Hp), H t = none → Fr [p, l] H H' → H' t = some (.tup [.int n, x1]) → WireAt A H' p l (n + 1) (xs ++ [.ref t]) e → Q (.int n) H'
def sp_Wire_send (K : PySem.W.Frag) (A : Ad) : Sp := fun vs H Q _ => ∃ x0 x1, vs = [x0, x1] ∧ P_Wire_send K A x0 x1 H Q
theorem c_Wire_send {K : PySem.W.Frag} {A : Ad} {x0 x1 : V} {H : Hp} {Q : VK} {E : XK} (h : P_Wire_send K A x0 x1 H Q) : sp_Wire_send K A [x0, x1] H Q E := ⟨_, _, rfl, h⟩
theorem sc_Wire_send : FnScope ["self", "body", "number"] ["self", "body"] (defScope s_Wire_send) := ⟨rfl, rfl, rfl, by decide +kernel, rfl, by decide +kernel, by decide +kernel⟩
def t_Wire_send (K : PySem.W.Frag) (A : Ad) : TS :=
  (tSeq (tAsg (tFld K (tVar 0) "sent") (gName 2))
    (tSeq (sFldAug K (tVar 0) (tC (.int 1)) rAdd "sent")
    (tSeq (tDrop (tBM K "list" rAppend (tFld K (tVar 0) "outbox") (tCons (tTup (tCons (tVar 2) (tCons (tVar 1) tNil))) tNil)))
    (tRet (tVar 2)))))
theorem pu_Wire_send (T : Txt K mg A) {x0 x1 : V} {H : Hp} {Q : VK} (h : P_Wire_send K A x0 x1 H Q) : t_Wire_send K A { nx := fun _ H' => Q .non H', rt := Q } [some x0, some x1, none] H := by
  obtain ⟨p, l, n, xs, e, rfl, ⟨⟨dx, hp⟩, hl⟩, hz, k⟩ := h
  have npl : l ≠ p := ne_of hl hp (by intro z; cases z)
  unfold t_Wire_send
  walk_at "go"
  rename_i H1 f1 e1 t H2 n2 f2 e2 H3 f3 e3
  exact k t H3 (by walk_at "none") (by walk_at "fr") (by walk_at "fact") ⟨⟨dx, by walk_at "fact"⟩, e3⟩
theorem ok_Wire_send {f : Addr} {fd : FuncData} (F : Fun K "send" "Wire.send" s_Wire_send f fd) (T : Txt K mg A)  : FnOk P w K mg base CX0 (1) f fd ["self", "body"] (sp_Wire_send K A) := by
  refine F.ok sc_Wire_send (fun vs H Q E h => ?_) (fun cdv Ar outer s H vs Q E hr h => ⟨t_Wire_send K A, ?_, ?_⟩)
  · obtain ⟨x0, x1, rfl, _⟩ := h
    rfl
  · have hu := hu_of hr
    exact (pss_cons (ps_set (i := 2) sc_Wire_send.nd rfl (Or.inl rfl) (pe_fld (pv 0) rfl))
    (pss_cons (ps_fldaug (pv 0) pe_int in_add)
    (pss_cons (ps_expr (pe_bm PySem.F.plainAttrs_list PySem.F.slot_list_append PySem.F.type_list_append mt_append (pe_fld (pv 0) rfl) (pa_cons (pe_tup (pa_cons (pv 2) (pa_cons (pv 1) pa_nil))) pa_nil)))
    (pss_one (ps_ret (pv 2))))))
  · obtain ⟨x0, x1, rfl, h⟩ := h
    exact pu_Wire_send T h
def P_Wire_take (K : PySem.W.Frag) (A : Ad) (x0 x1 : V) (H : Hp) (Q : VK) : Prop := ∃ (p l : Addr) (n : Int) (xs : List V) (e z : Int), x0 = .ref p ∧ x1 = .int z ∧ WireAt A H p l n xs e ∧
  (z ≠ e → Q (.bl false) H) ∧ (z = e → ∀ (H' : Hp), Fr [p] H H' → WireAt A H' p l n xs (e + 1) → Q (.bl true) H')
def sp_Wire_take (K : PySem.W.Frag) (A : Ad) : Sp := fun vs H Q _ => ∃ x0 x1, vs = [x0, x1] ∧ P_Wire_take K A x0 x1 H Q
theorem c_Wire_take {K : PySem.W.Frag} {A : Ad} {x0 x1 : V} {H : Hp} {Q : VK} {E : XK} (h : P_Wire_take K A x0 x1 H Q) : sp_Wire_take K A [x0, x1] H Q E := ⟨_, _, rfl, h⟩
theorem sc_Wire_take : FnScope ["self", "number"] ["self", "number"] (defScope s_Wire_take) := ⟨rfl, rfl, rfl, by decide +kernel, rfl, by decide +kernel, by decide +kernel⟩
def t_Wire_take (K : PySem.W.Frag) (A : Ad) : TS :=
  (tSeq (tIfS (tTest (tOp rNe (tVar 1) (tFld K (tVar 0) "expected"))) (tRet (tC (.bl false))) tNext)
    (tSeq (sFldAug K (tVar 0) (tC (.int 1)) rAdd "expected")
    (tRet (tC (.bl true)))))
theorem pu_Wire_take (T : Txt K mg A) {x0 x1 : V} {H : Hp} {Q : VK} (h : P_Wire_take K A x0 x1 H Q) : t_Wire_take K A { nx := fun _ H' => Q .non H', rt := Q } [some x0, some x1] H := by
  obtain ⟨p, l, n, xs, e, z, rfl, rfl, ⟨⟨dx, hp⟩, hl⟩, k1, k2⟩ := h
  have npl : l ≠ p := ne_of hl hp (by intro z; cases z)
  unfold t_Wire_take
  walk_at "go"
  refine g_iteN (fun c => ?_) (fun c => ?_)
  · walk_at "go"
    exact k1 c
  · walk_at "go"
    rename_i H1 f1 e1
    exact k2 c H1 f1 ⟨⟨dx, e1⟩, by walk_at "fact"⟩
theorem ok_Wire_take {f : Addr} {fd : FuncData} (F : Fun K "take" "Wire.take" s_Wire_take f fd) (T : Txt K mg A)  : FnOk P w K mg base CX0 (1) f fd ["self", "number"] (sp_Wire_take K A) := by
  refine F.ok sc_Wire_take (fun vs H Q E h => ?_) (fun cdv Ar outer s H vs Q E hr h => ⟨t_Wire_take K A, ?_, ?_⟩)
  · obtain ⟨x0, x1, rfl, _⟩ := h
    rfl
  · have hu := hu_of hr
    exact (pss_cons (ps_if (pt_cmpR op_ne (pv 1) (pe_fld (pv 0) rfl) (nomark _)) (pss_one (ps_ret pe_bl)) pss_nil)
    (pss_cons (ps_fldaug (pv 0) pe_int in_add)
    (pss_one (ps_ret pe_bl))))
  · obtain ⟨x0, x1, rfl, h⟩ := h
    exact pu_Wire_take T h
/-- the outbox's items: pairs of a number and a body -/
def OutD (ps : List (Int × PyData)) : List PyData := ps.map fun q => PyData.tuple [.int q.1, q.2]
theorem OutD.get {ps : List (Int × PyData)} {i : Nat} {d : PyData} (h : (OutD ps)[i]? = some d) : ∃ q, ps[i]? = some q ∧ d = .tuple [.int q.1, q.2] := by
  unfold OutD at h
  rw [List.getElem?_map] at h
  cases e : ps[i]? with
  | none => rw [e] at h; cases h
  | some q => rw [e] at h; exact ⟨q, rfl, (Option.some.inj h).symm⟩
theorem OutD.imm {ps qs : List (Int × PyData)} (h : immL (OutD ps) = true) (s : ∀ q ∈ qs, q ∈ ps) : immL (OutD qs) = true := immL_of fun d hd => by
  obtain ⟨q, hq, rfl⟩ := List.mem_map.mp hd
  exact imm_of h _ (List.mem_map.mpr ⟨q, s q hq, rfl⟩)
theorem OutD.app {ps qs : List (Int × PyData)} : OutD (ps ++ qs) = OutD ps ++ OutD qs := List.map_append
def P_Wire_acknowledged (K : PySem.W.Frag) (A : Ad) (x0 x1 : V) (H : Hp) (Q : VK) : Prop := ∃ (p l : Addr) (n : Int) (xs : List V) (e z : Int) (ps : List (Int × PyData)), x0 = .ref p ∧ x1 = .int z ∧ WireAt A H p l n xs e ∧ DaL H xs (OutD ps) ∧ immL (OutD ps) = true ∧ xs.length ≤ 100000 ∧
  ∀ (H' : Hp) (l' : Addr) (ys : List V), H l' = none → Fr [p] H H' → WireAt A H' p l' n ys e → DaL H' ys (OutD (ps.filter fun q => decide (z < q.1))) → Q .non H'
def sp_Wire_acknowledged (K : PySem.W.Frag) (A : Ad) : Sp := fun vs H Q _ => ∃ x0 x1, vs = [x0, x1] ∧ P_Wire_acknowledged K A x0 x1 H Q
theorem c_Wire_acknowledged {K : PySem.W.Frag} {A : Ad} {x0 x1 : V} {H : Hp} {Q : VK} {E : XK} (h : P_Wire_acknowledged K A x0 x1 H Q) : sp_Wire_acknowledged K A [x0, x1] H Q E := ⟨_, _, rfl, h⟩
theorem sc_Wire_acknowledged : FnScope ["self", "number", "pair"] ["self", "number"] (defScope s_Wire_acknowledged) := ⟨rfl, rfl, rfl, by decide +kernel, rfl, by decide +kernel, by decide +kernel⟩
def t_Wire_acknowledged (K : PySem.W.Frag) (A : Ad) : TS :=
  (sFld K (tVar 0) (tLc (iList K (tFld K (tVar 0) "outbox")) (gName 2) (tTest (tOp cGt (tOp (rIxT K) (tVar 2) (tC (.int 0))) (tVar 1))) (tVar 2) [2]) "outbox")
theorem pu_Wire_acknowledged (T : Txt K mg A) {x0 x1 : V} {H : Hp} {Q : VK} (h : P_Wire_acknowledged K A x0 x1 H Q) : t_Wire_acknowledged K A { nx := fun _ H' => Q .non H', rt := Q } [some x0, some x1, none] H := by
  obtain ⟨p, l, n, xs, e, z, ps, rfl, rfl, ⟨⟨dx, hp⟩, hl⟩, ho, hi, hz, k⟩ := h
  have npl : l ≠ p := ne_of hl hp (by intro z; cases z)
  unfold t_Wire_acknowledged
  walk_at "go"
  refine l_list (xs := xs) fun Dl H0 nD f0 e0 => ⟨fun i acc H' => Fr [] H H' ∧ DaL H' acc (OutD ((ps.take i).filter fun q => decide (z < q.1))), ⟨f0, .nil⟩, fun i acc H' q => q.1.sql (SqL.of hl) nin0, fun i x acc H' hx ha ⟨f1, r1⟩ => ?_, fun acc H' ha ⟨f1, r1⟩ => ?_⟩
  · have hlt := (List.getElem?_eq_some_iff.mp hx).1
    obtain ⟨d, hd, dd⟩ := ho.get hx
    have himm := immL_get hi hd
    obtain ⟨q, hq, rfl⟩ := OutD.get hd
    obtain ⟨a, ys, rfl, e1, _, r2⟩ := dd.tup1
    obtain ⟨y0, y1, rfl, d0, d1⟩ := r2.two
    cases d0.int1
    have e1' := f1.tup _ _ e1
    have fm := filter_more (f := fun q : Int × PyData => decide (z < q.1)) hq
    have hlen : acc.length ≤ 100000 := by
      rw [r1.len]
      unfold OutD
      rw [List.length_map]
      refine Nat.le_trans (List.length_filter_le _ _) ?_
      rw [List.length_take]
      have := ho.len
      unfold OutD at this
      rw [List.length_map] at this
      omega
    walk_at "go"
    refine ⟨rfl, ?_⟩
    walk_at "go"
    refine g_ite (fun c => ?_) (fun c => ?_)
    · walk_at "go"
      refine lcY_of ha (by walk_at "sz") fun H5 f5 e5 => ⟨f1.own1 f5 nD, ?_⟩
      rw [fm, if_pos (decide_eq_true c), OutD.app]
      exact (DaL.frL f5 r1 (OutD.imm hi fun q hq => List.mem_of_mem_take ((List.mem_filter.mp hq).1))).append (.one' (Da.frL f5 (Da.frL f1 dd himm) himm))
    · refine lcN_of ha ⟨f1, ?_⟩
      rw [fm, if_neg (by simpa using c), List.append_nil]
      exact r1
  · have hlen : xs.length = ps.length := by rw [ho.len]; unfold OutD; rw [List.length_map]
    rw [hlen, List.take_length] at r1
    walk_at "go"
    rename_i H2 f2 e2
    exact k H2 Dl acc nD (by walk_at "fr") ⟨⟨dx, e2⟩, by walk_at "fact"⟩ (DaL.frL f2 r1 (OutD.imm hi fun q hq => (List.mem_filter.mp hq).1))
theorem ok_Wire_acknowledged {f : Addr} {fd : FuncData} (F : Fun K "acknowledged" "Wire.acknowledged" s_Wire_acknowledged f fd) (T : Txt K mg A)  : FnOk P w K mg base CX0 (1) f fd ["self", "number"] (sp_Wire_acknowledged K A) := by
  refine F.ok sc_Wire_acknowledged (fun vs H Q E h => ?_) (fun cdv Ar outer s H vs Q E hr h => ⟨t_Wire_acknowledged K A, ?_, ?_⟩)
  · obtain ⟨x0, x1, rfl, _⟩ := h
    rfl
  · have hu := hu_of hr
    exact (pss_one (ps_fld (pv 0) (pe_lc (own := [("pair", 2)]) (g := (gName 2)) (tt := (tTest (tOp cGt (tOp (rIxT K) (tVar 2) (tC (.int 0))) (tVar 1)))) rfl sc_Wire_acknowledged.nd (pi_list (pe_fld (pv 0) rfl)) (blkOk_by (N := ["self", "number", "pair"]) (sc := defScope s_Wire_acknowledged) (own := [("pair", 2)]) (by decide +kernel)) (fun _ _ _ _ _ => (pg_name (i := 2) sc_Wire_acknowledged.nd rfl (Or.inl rfl))) (fun _ _ _ _ _ => (pts_one (pt_cmpR c_gt (pe_ix ix_tup (pv 2) pe_int (fun _ _ => rfl)) (pv 1) (nomark _)))) (fun _ _ _ _ _ => (pv 2))) rfl))
  · obtain ⟨x0, x1, rfl, h⟩ := h
    exact pu_Wire_acknowledged T h
/-- where law stands: the draws, the wire, law's own outbox -/
structure KS (A : Ad) (H : Hp) (d nl w wl ol : Addr) (n e : Int) (ps qs : List (Int × PyData)) : Prop where
  dr : Draws H d nl
  wi : ∃ xs, WireAt A H w wl n xs e ∧ DaL H xs (OutD ps)
  ob : ∃ ys, H ol = some (.lst ys) ∧ DaL H ys (OutD qs)
  ip : immL (OutD ps) = true
  iq : immL (OutD qs) = true
  dq : dpL (OutD qs) ≤ 5
  z1 : d ≠ wl
  z2 : d ≠ ol
  z3 : nl ≠ wl
  z4 : nl ≠ ol
  z5 : wl ≠ ol
theorem Draws.ne {H : Hp} {d l p C dx : Addr} {fs : List (Str × V)} (h : Draws H d l) (e : H p = some (.ins C dx fs)) : d ≠ p ∧ l ≠ p := by
  obtain ⟨ms, k, h1, h2, _⟩ := h
  exact ⟨ne_of h1 e (by intro z; cases z), ne_of h2 e (by intro z; cases z)⟩
theorem KS.draw {A : Ad} {H H' : Hp} {d nl w wl ol : Addr} {n e : Int} {ps qs : List (Int × PyData)} (s : KS A H d nl w wl ol n e ps qs) (f : Fr [d] H H') (D : Draws H' d nl) : KS A H' d nl w wl ol n e ps qs := by
  obtain ⟨xs, W, r⟩ := s.wi
  obtain ⟨ys, eo, r2⟩ := s.ob
  obtain ⟨⟨dx, hp⟩, hl⟩ := id W
  exact ⟨D, ⟨xs, W.fr f (nin1 (s.dr.ne hp).1.symm nin0) (nin1 s.z1.symm nin0), DaL.frL f r s.ip⟩, ⟨ys, f.at eo (nin1 s.z2.symm nin0), DaL.frL f r2 s.iq⟩, s.ip, s.iq, s.dq, s.z1, s.z2, s.z3, s.z4, s.z5⟩
theorem KS.fr0 {A : Ad} {H H' : Hp} {d nl w wl ol : Addr} {n e : Int} {ps qs : List (Int × PyData)} (s : KS A H d nl w wl ol n e ps qs) (f : Fr [] H H') : KS A H' d nl w wl ol n e ps qs := by
  obtain ⟨xs, W, r⟩ := s.wi
  obtain ⟨ys, eo, r2⟩ := s.ob
  exact ⟨s.dr.fr f nin0 nin0, ⟨xs, W.fr f nin0 nin0, DaL.frL f r s.ip⟩, ⟨ys, f.at eo nin0, DaL.frL f r2 s.iq⟩, s.ip, s.iq, s.dq, s.z1, s.z2, s.z3, s.z4, s.z5⟩
/-- the wire has changed -/
theorem KS.wire {A : Ad} {H H' : Hp} {d nl w wl wl' ol : Addr} {n e n' e' : Int} {ps ps' qs : List (Int × PyData)} {xs : List V} (s : KS A H d nl w wl ol n e ps qs) (f : Fr [w, wl] H H') (W : WireAt A H' w wl' n' xs e') (r : DaL H' xs (OutD ps')) (i : immL (OutD ps') = true)
    (z : wl' = wl ∨ H wl' = none) : KS A H' d nl w wl' ol n' e' ps' qs := by
  obtain ⟨_, ⟨⟨dx, hp⟩, hl⟩, _⟩ := s.wi
  obtain ⟨ys, eo, r2⟩ := s.ob
  have nd := s.dr.ne hp
  have no : ol ≠ w := ne_of eo hp (by intro z; cases z)
  obtain ⟨ms, k, h1, h2, _⟩ := id s.dr
  have g : ∀ {b : Addr} {o : HO}, H b = some o → b ≠ wl → b ≠ wl' := fun {b o} e nb => z.elim (fun q => q ▸ nb) (fun q => ne_of_none e q)
  exact ⟨s.dr.fr f (nin1 nd.1 (nin1 s.z1 nin0)) (nin1 nd.2 (nin1 s.z3 nin0)), ⟨xs, W, r⟩, ⟨ys, f.at eo (nin1 no (nin1 s.z5.symm nin0)), DaL.frL f r2 s.iq⟩, i, s.iq, s.dq, g h1 s.z1, s.z2, g h2 s.z3, s.z4, (g eo s.z5.symm).symm⟩
/-- law's outbox has changed -/
theorem KS.outb {A : Ad} {H H' : Hp} {d nl w wl ol ol' : Addr} {n e : Int} {ps qs qs' : List (Int × PyData)} {ys : List V} (s : KS A H d nl w wl ol n e ps qs) (f : Fr [ol] H H') (eo : H' ol' = some (.lst ys)) (r : DaL H' ys (OutD qs')) (i : immL (OutD qs') = true) (dq : dpL (OutD qs') ≤ 5)
    (z : ol' = ol ∨ H ol' = none) : KS A H' d nl w wl ol' n e ps qs' := by
  obtain ⟨xs, W, rx⟩ := s.wi
  obtain ⟨_, e0, _⟩ := s.ob
  obtain ⟨⟨dx, hp⟩, hl⟩ := id W
  obtain ⟨ms, k, h1, h2, _⟩ := id s.dr
  have no : w ≠ ol := ne_of hp e0 (by intro z; cases z)
  have g : ∀ {b : Addr} {o : HO}, H b = some o → b ≠ ol → b ≠ ol' := fun {b o} e nb => z.elim (fun q => q ▸ nb) (fun q => ne_of_none e q)
  exact ⟨s.dr.fr f (nin1 s.z2 nin0) (nin1 s.z4 nin0), ⟨xs, W.fr f (nin1 no nin0) (nin1 s.z5 nin0), DaL.frL f rx s.ip⟩, ⟨ys, eo, r⟩, s.ip, i, dq, s.z1, g h1 s.z2, s.z3, g h2 s.z4, g hl s.z5⟩
def bodyD (a b : Int) : PyData := .tuple [.str "give", .int a, .int b]
def P_law (K : PySem.W.Frag) (A : Ad) (x0 : V) (H : Hp) (Q : VK) : Prop := ∃ (a : Addr) (ns : List Int), x0 = .ref a ∧ SqL K H a (ns.map V.int) ∧ ns.length ≤ 63 ∧ ∀ H', Q (.bl true) H'
def sp_law (K : PySem.W.Frag) (A : Ad) : Sp := fun vs H Q _ => ∃ x0, vs = [x0] ∧ P_law K A x0 H Q
theorem c_law {K : PySem.W.Frag} {A : Ad} {x0 : V} {H : Hp} {Q : VK} {E : XK} (h : P_law K A x0 H Q) : sp_law K A [x0] H Q E := ⟨_, rfl, h⟩
theorem sc_law : FnScope ["_law_script", "_law_draws", "_law_wire", "_law_outbox", "_law_sent", "_law_expected", "_law_k", "_law_pick", "_law_body", "_law_number", "_law_due", "_law_pair"] ["_law_script"] (defScope s_law) := ⟨rfl, rfl, rfl, by decide +kernel, rfl, by decide +kernel, by decide +kernel⟩
def t_law (K : PySem.W.Frag) (A : Ad) : TS :=
  (tSeq (tAsg (tLst (tCons (tCl (sp_Lnumbers K A) (tCons (tVar 0) tNil)) (tCons (tC (.int 0)) tNil))) (gName 1))
    (tSeq (tAsg (tMk A.Wire (sp_Wire_init K A) tNil) (gName 2))
    (tSeq (tAsg (tLst tNil) (gName 3))
    (tSeq (tAsg (tC (.int 0)) (gName 4))
    (tSeq (tAsg (tC (.int 0)) (gName 5))
    (Evl.tCut (tIfS (tTest (tOp rEq (tOp oMod (tCl (sp_Ldraw K A) (tCons (tVar 1) tNil)) (tC (.int 8))) (tC (.int 0)))) (tSeq (tFor (iRng1 (tCons (tC (.int 300)) tNil)) (gName 6) (tSeq (tDrop (tMt A.Wire "send" (sp_Wire_send K A) (tVar 2) (tCons (tTup (tCons (tC (.str "give")) (tCons (tC (.int 0)) (tCons (tC (.int 0)) tNil)))) tNil)))
    (tIfS (tNot (tB (tMt A.Wire "take" (sp_Wire_take K A) (tVar 2) (tCons (tVar 6) tNil)))) (tRet (tC (.bl false))) tNext)))
    (tSeq (tDrop (tMt A.Wire "acknowledged" (sp_Wire_acknowledged K A) (tVar 2) (tCons (tC (.int 299)) tNil)))
    (tSeq (tAsg (tC (.int 300)) (gName 4))
    (tAsg (tC (.int 300)) (gName 5))))) tNext)
    (tSeq (tFor (iRng1 (tCons (tOp oMod (tCl (sp_Ldraw K A) (tCons (tVar 1) tNil)) (tC (.int 41))) tNil)) (gName 6) (tSeq (tAsg (tOp oMod (tCl (sp_Ldraw K A) (tCons (tVar 1) tNil)) (tC (.int 4))) (gName 7))
    (Evl.tCut (tIfS (tTest (tOp cLt (tVar 7) (tC (.int 2)))) (tSeq (tAsg (tTup (tCons (tC (.str "give")) (tCons (tOp oMod (tCl (sp_Ldraw K A) (tCons (tVar 1) tNil)) (tC (.int 3))) (tCons (tVar 6) tNil)))) (gName 8))
    (tSeq (tDrop (tBM K "list" rAppend (tVar 3) (tCons (tTup (tCons (tVar 4) (tCons (tVar 8) tNil))) tNil)))
    (tSeq (tIfS (tNot (tB (tCl (sp_Lequal K A 12) (tCons (tMt A.Wire "send" (sp_Wire_send K A) (tVar 2) (tCons (tVar 8) tNil)) (tCons (tVar 4) tNil))))) (tRet (tC (.bl false))) tNext)
    (tAsg (tOp oAdd (tVar 4) (tC (.int 1))) (gName 4))))) (tIfS (tTest (tOp rEq (tVar 7) (tC (.int 2)))) (tSeq (tAsg (tCB rMax2 (tCons (tC (.int 0)) (tCons (tOp oSub (tOp oAdd (tVar 5) (tOp oMod (tCl (sp_Ldraw K A) (tCons (tVar 1) tNil)) (tC (.int 5)))) (tC (.int 2))) tNil))) (gName 9))
    (tSeq (tAsg (tOp rEq (tVar 9) (tVar 5)) (gName 10))
    (tSeq (tIfS (tNot (tB (tCl (sp_Lequal K A 12) (tCons (tMt A.Wire "take" (sp_Wire_take K A) (tVar 2) (tCons (tVar 9) tNil)) (tCons (tVar 10) tNil))))) (tRet (tC (.bl false))) tNext)
    (tIfS (tB (tVar 10)) (tAsg (tOp oAdd (tVar 5) (tC (.int 1))) (gName 5)) tNext)))) (tIfS (tTest (tOp cGt (tVar 4) (tC (.int 0)))) (tSeq (tAsg (tOp oMod (tCl (sp_Ldraw K A) (tCons (tVar 1) tNil)) (tVar 4)) (gName 9))
    (tSeq (tDrop (tMt A.Wire "acknowledged" (sp_Wire_acknowledged K A) (tVar 2) (tCons (tVar 9) tNil)))
    (tAsg (tLc (iList K (tVar 3)) (gName 11) (tTest (tOp cGt (tOp (rIxT K) (tVar 11) (tC (.int 0))) (tVar 9))) (tVar 11) [11]) (gName 3)))) tNext)))
    (tIfS (tNot (tB (tCl (sp_Lequal K A 12) (tCons (tLst (tCons (tCB (rListOf K) (tCons (tFld K (tVar 2) "outbox") tNil)) (tCons (tFld K (tVar 2) "sent") (tCons (tFld K (tVar 2) "expected") tNil)))) (tCons (tLst (tCons (tVar 3) (tCons (tVar 4) (tCons (tVar 5) tNil)))) tNil))))) (tRet (tC (.bl false))) tNext))))
    (tRet (tC (.bl true))))))))))
theorem pu_law (T : Txt K mg A) {x0 : V} {H : Hp} {Q : VK} (h : P_law K A x0 H Q) : t_law K A { nx := fun _ H' => Q .non H', rt := Q } [some x0, none, none, none, none, none, none, none, none, none, none, none] H := by
  obtain ⟨a, ns, rfl, hS, hl, k⟩ := h
  unfold t_law
  walk_at "go"
  refine c_Lnumbers ⟨a, ns, rfl, hS, hl, fun nl ms H1 n1 f1 e1 sm hm => ?_⟩
  walk_at "go"
  rename_i d H2 n2 f2 e2 w dx H3 n3 n4 n5 f3 e3 e4
  refine c_Wire_init ⟨w, dx, rfl, e3, fun wl H4 n6 f4 W => ⟨rfl, ?_⟩⟩
  walk_at "go"
  rename_i ol H5 n7 f5 e5
  have nlw : nl ≠ wl := ne_of_none (show H3 nl = _ by walk_at "fact") n6
  have ndw : d ≠ wl := ne_of_none (show H3 d = _ by walk_at "fact") n6
  have ndo : d ≠ ol := ne_of_none (show H4 d = _ by walk_at "fact") n7
  have nlo : nl ≠ ol := ne_of_none (show H4 nl = _ by walk_at "fact") n7
  have nwo : wl ≠ ol := ne_of_none W.2 n7
  have D5 : Draws H5 d nl := ⟨ms, 0, by walk_at "fact", by walk_at "fact", sm, hm, Int.le_refl _⟩
  have K5 : KS A H5 d nl w wl ol 0 0 [] [] := ⟨D5, ⟨[], W.fr f5 nin0 nin0, .nil⟩, ⟨[], e5, .nil⟩, rfl, rfl, Nat.zero_le _, ndw, ndo, nlw, nlo, nwo⟩
  clear f1 f2 f3 f4 f5 e1 e2 e3 e4 e5 n1 n2 n3 n4 n5 n6 n7 W D5
  refine g_cut (fun σ H' => ∃ (wl : Addr) (n e : Int) (ps : List (Int × PyData)) (v6 v7 v8 v9 v10 v11 : Option V), σ = [some (.ref a), some (.ref d), some (.ref w), some (.ref ol), some (.int n), some (.int e), v6, v7, v8, v9, v10, v11] ∧ KS A H' d nl w wl ol n e ps ps ∧ ps.length ≤ 0 ∧ 0 ≤ n ∧ 0 ≤ e) ?_ ?_
  · walk_at "go"
    refine c_Ldraw ⟨d, nl, rfl, K5.dr, fun z H6 z0 z1 f6 D6 => ?_⟩
    have K6 := K5.draw f6 D6
    walk_at "go"
    refine g_ite (fun c => ?_) (fun c => ?_)
    · walk_at "go"
      refine f_range (lo := 0) (n := 300) (fun i σ H' => ∃ (ps : List (Int × PyData)) (v6 v7 v8 v9 v10 v11 : Option V), σ = [some (.ref a), some (.ref d), some (.ref w), some (.ref ol), some (.int 0), some (.int 0), v6, v7, v8, v9, v10, v11] ∧ KS A H' d nl w wl ol (i : Int) (i : Int) ps [] ∧ ps.length ≤ i ∧ ∀ q ∈ ps, q.1 < (i : Int))
        ⟨[], _, _, _, _, _, _, rfl, K6, Nat.le_refl _, fun _ q => (nomatch q)⟩ ?_ ?_
      · rintro i σ H7 hi ⟨ps, v6, v7, v8, v9, v10, v11, rfl, K7, hl7, hq⟩
        obtain ⟨xs, W, r⟩ := K7.wi
        obtain ⟨⟨dx, hp⟩, hwl⟩ := id W
        walk_at "go"
        rename_i b H8 n8 f8 e8
        have hx : xs.length ≤ 1000 := by rw [r.len]; unfold OutD; rw [List.length_map]; omega
        refine c_Wire_send ⟨w, wl, i, xs, i, rfl, W.fr f8 nin0 nin0, by omega, fun t H9 n9 f9 e9 W9 => ?_⟩
        have r9 : DaL H9 (xs ++ [.ref t]) (OutD (ps ++ [((i : Int), bodyD 0 0)])) := by
          rw [OutD.app]
          refine (DaL.frL f9 (DaL.frL f8 r K7.ip) K7.ip).append (.one' (.tup e9 (Nat.le_of_ble_eq_true rfl) (.cons (.int _) (.one' (.tup (f9.tup _ _ e8) (Nat.le_of_ble_eq_true rfl) (.cons (.str _) (.cons (.int _) (.one' (.int _)))))))))
        have K9 : KS A H9 d nl w wl ol ((i : Int) + 1) i (ps ++ [((i : Int), bodyD 0 0)]) [] := (K7.fr0 f8).wire f9 W9 r9 (by rw [OutD.app, immL_append, K7.ip]; rfl) (.inl rfl)
        obtain ⟨⟨dx9, hp9⟩, hwl9⟩ := id W9
        walk_at "go"
        refine c_Wire_take ⟨w, wl, _, _, i, _, rfl, rfl, W9, fun q => absurd (Int.zero_add _) q, fun _ H10 f10 W10 => ?_⟩
        walk_at "go"
        refine ⟨_, _, _, _, _, _, _, rfl, K9.wire (f10.mono (by simp)) W10 (DaL.frL f10 r9 K9.ip) K9.ip (.inl rfl), by rw [List.length_append]; exact Nat.add_le_add_right hl7 1, fun q hq2 => ?_⟩
        rcases List.mem_append.mp hq2 with h | h
        · have := hq q h; omega
        · rw [List.mem_singleton.mp h]; show (i : Int) < _; omega
      · rintro σ H7 ⟨ps, v6, v7, v8, v9, v10, v11, rfl, K7, hl7, hq⟩
        obtain ⟨xs, W, r⟩ := K7.wi
        obtain ⟨⟨dx, hp⟩, hwl⟩ := id W
        walk_at "go"
        have hx : xs.length ≤ 1000 := by rw [r.len]; unfold OutD; rw [List.length_map]; omega
        refine c_Wire_acknowledged ⟨w, wl, _, xs, _, _, ps, rfl, rfl, W, r, K7.ip, by omega, fun H8 wl' ys n8 f8 W8 r8 => ?_⟩
        walk_at "go"
        have e : (ps.filter fun q => decide ((299 : Int) < q.1)) = [] := List.filter_eq_nil_iff.mpr fun q h => by have := hq q h; simp; omega
        rw [e] at r8
        exact ⟨_, _, _, [], _, _, _, _, _, _, rfl, K7.wire (f8.mono (by simp)) W8 r8 rfl (.inr n8), Nat.le_refl _, by decide, by decide⟩
    · walk_at "go"
      exact ⟨_, _, _, _, _, _, _, _, _, _, rfl, K6, Nat.le_refl _, Int.le_refl _, Int.le_refl _⟩
  · rintro σ H6 ⟨wl, n, e, ps, v6, v7, v8, v9, v10, v11, rfl, K6, h0, hn, he⟩
    walk_at "go"
    refine c_Ldraw ⟨d, nl, rfl, K6.dr, fun z H7 z0 z1 f7 D7 => ?_⟩
    have K7 := K6.draw f7 D7
    walk_at "go"
    refine f_range (lo := 0) (n := (z % 41).toNat) (fun i σ H' => ∃ (ol wl : Addr) (n e : Int) (ps : List (Int × PyData)) (v6 v7 v8 v9 v10 v11 : Option V), σ = [some (.ref a), some (.ref d), some (.ref w), some (.ref ol), some (.int n), some (.int e), v6, v7, v8, v9, v10, v11] ∧ KS A H' d nl w wl ol n e ps ps ∧ ps.length ≤ i ∧ 0 ≤ n ∧ 0 ≤ e)
      ⟨_, _, _, _, _, _, _, _, _, _, _, rfl, K7, h0, hn, he⟩ ?_ ?_
    · rintro i σ H8 hi ⟨ol, wl, n, e, ps, v6, v7, v8, v9, v10, v11, rfl, K8, h8, hn, he⟩
      have hi41 : i < 41 := by omega
      walk_at "go"
      refine c_Ldraw ⟨d, nl, rfl, K8.dr, fun z H9 z0 z1 f9 D9 => ?_⟩
      have K9 := K8.draw f9 D9
      clear K8 f9 D9
      walk_at "go"
      refine g_cut (fun σ H' => ∃ (ol wl : Addr) (n e : Int) (ps : List (Int × PyData)) (v6 v7 v8 v9 v10 v11 : Option V), σ = [some (.ref a), some (.ref d), some (.ref w), some (.ref ol), some (.int n), some (.int e), v6, v7, v8, v9, v10, v11] ∧ KS A H' d nl w wl ol n e ps ps ∧ ps.length ≤ i + 1 ∧ 0 ≤ n ∧ 0 ≤ e) ?_ ?_
      · walk_at "go"
        refine g_ite (fun c => ?_) (fun c => ?_)
        · -- a body is sent
          walk_at "go"
          refine c_Ldraw ⟨d, nl, rfl, K9.dr, fun z2 H10 _ _ f10 D10 => ?_⟩
          have K10 := K9.draw f10 D10
          obtain ⟨ys, eo, ro⟩ := K10.ob
          have hy : ys.length ≤ 1000 := by rw [ro.len]; unfold OutD; rw [List.length_map]; omega
          walk_at "go"
          rename_i b H11 n11 f11 e11 t H12 n12 f12 e12 H13 f13 e13
          have db : ∀ {H' : Hp} {m : List Addr}, Fr m H11 H' → Da H' (.ref b) (bodyD (z2 % 3) (0 + (i : Int))) := fun {H' m} f => .tup (f.tup _ _ e11) (Nat.le_of_ble_eq_true rfl) (.cons (.str _) (.cons (.int _) (.one' (.int _))))
          have ro13 : DaL H13 (ys ++ [.ref t]) (OutD (ps ++ [(n, bodyD (z2 % 3) (0 + (i : Int)))])) := by
            rw [OutD.app]
            exact (DaL.frL f13 (DaL.frL f12 (DaL.frL f11 ro K10.iq) K10.iq) K10.iq).append (.one' (.tup (f13.tup _ _ e12) (Nat.le_of_ble_eq_true rfl) (.cons (.int _) (.one' (db (f12.trans f13))))))
          have iq13 : immL (OutD (ps ++ [(n, bodyD (z2 % 3) (0 + (i : Int)))])) = true := by rw [OutD.app, immL_append, K10.iq]; rfl
          have dq13 : dpL (OutD (ps ++ [(n, bodyD (z2 % 3) (0 + (i : Int)))])) ≤ 5 := by
            rw [OutD.app, dpL_append]
            exact Nat.max_le.mpr ⟨K10.dq, show dpL [PyData.tuple [.int n, .tuple [.str "give", .int (z2 % 3), .int (0 + (i : Int))]]] ≤ 5 from by simp [dpL, dp]⟩
          have K13 : KS A H13 d nl w wl ol n e ps (ps ++ [(n, bodyD (z2 % 3) (0 + (i : Int)))]) := ((K10.fr0 f11).fr0 f12).outb f13 e13 ro13 iq13 dq13 (.inl rfl)
          obtain ⟨xs, W, r⟩ := K13.wi
          obtain ⟨⟨dx, hp⟩, hwl⟩ := id W
          have hx : xs.length ≤ 1000 := by rw [r.len]; unfold OutD; rw [List.length_map]; omega
          walk_at "go"
          refine c_Wire_send ⟨w, wl, n, xs, e, rfl, W, by omega, fun t2 H14 n14 f14 e14 W14 => ?_⟩
          have r14 : DaL H14 (xs ++ [.ref t2]) (OutD (ps ++ [(n, bodyD (z2 % 3) (0 + (i : Int)))])) := by
            rw [OutD.app]
            exact (DaL.frL f14 r K13.ip).append (.one' (.tup e14 (Nat.le_of_ble_eq_true rfl) (.cons (.int _) (.one' (db ((f12.trans f13).trans f14))))))
          have K14 := K13.wire f14 W14 r14 iq13 (.inl rfl)
          walk_at "go"
          refine c_Lequal ⟨.int n, .int _, .int _, Nat.zero_le _, ?_⟩
          walk_at "go"
          exact ⟨_, _, _, _, _, _, _, _, _, _, _, rfl, K14, by rw [List.length_append]; exact Nat.add_le_add_right h8 1, by omega, he⟩
        · walk_at "go"
          refine g_ite (fun c2 => ?_) (fun c2 => ?_)
          · -- a number is taken
            walk_at "go"
            refine c_Ldraw ⟨d, nl, rfl, K9.dr, fun z2 H10 _ _ f10 D10 => ?_⟩
            have K10 := K9.draw f10 D10
            obtain ⟨xs, W, r⟩ := K10.wi
            obtain ⟨⟨dx, hp⟩, hwl⟩ := id W
            walk_at "go"
            generalize hm : (if e + z2 % 5 - 2 > 0 then e + z2 % 5 - 2 else (0 : Int)) = m
            refine c_Wire_take ⟨w, wl, n, xs, e, m, rfl, rfl, W, fun q => ?_, fun q H11 f11 W11 => ?_⟩
            · walk_at "go"
              refine c_Lequal ⟨.bool false, .bl _, by rw [show decide (m = e) = false from decide_eq_false q]; exact .bl _, Nat.zero_le _, ?_⟩
              walk_at "go"
              refine g_ite (fun c3 => absurd c3 q) (fun _ => ?_)
              walk_at "go"
              exact ⟨_, _, _, _, _, _, _, _, _, _, _, rfl, K10, by omega, hn, he⟩
            · walk_at "go"
              refine c_Lequal ⟨.bool true, .bl _, by rw [show decide (m = e) = true from decide_eq_true q]; exact .bl _, Nat.zero_le _, ?_⟩
              walk_at "go"
              refine g_ite (fun _ => ?_) (fun c3 => absurd q c3)
              walk_at "go"
              exact ⟨_, _, _, _, _, _, _, _, _, _, _, rfl, K10.wire (f11.mono (by simp)) W11 (DaL.frL f11 r K10.ip) K10.ip (.inl rfl), by omega, hn, by omega⟩
          · walk_at "go"
            refine g_ite (fun c3 => ?_) (fun c3 => ?_)
            · -- an ack comes
              walk_at "go"
              refine c_Ldraw ⟨d, nl, rfl, K9.dr, fun z2 H10 _ _ f10 D10 => ?_⟩
              have K10 := K9.draw f10 D10
              obtain ⟨xs, W, r⟩ := K10.wi
              obtain ⟨⟨dx, hp⟩, hwl⟩ := id W
              have hx : xs.length ≤ 1000 := by rw [r.len]; unfold OutD; rw [List.length_map]; omega
              walk_at "go"
              refine c_Wire_acknowledged ⟨w, wl, n, xs, e, z2 % n, ps, rfl, rfl, W, r, K10.ip, by omega, fun H11 wl' ys' n11 f11 W11 r11 => ?_⟩
              have K11 : KS A H11 d nl w wl' ol n e (ps.filter fun q => decide (z2 % n < q.1)) ps := K10.wire (f11.mono (by simp)) W11 r11 (OutD.imm K10.ip fun q hq => (List.mem_filter.mp hq).1) (.inr n11)
              obtain ⟨ys, eo, ro⟩ := K11.ob
              have hy : ys.length = ps.length := by rw [ro.len]; unfold OutD; rw [List.length_map]
              walk_at "go"
              refine l_list (xs := ys) fun Dl H0 nD f0 e0 => ⟨fun i acc H' => Fr [] H11 H' ∧ DaL H' acc (OutD ((ps.take i).filter fun q => decide (z2 % n < q.1))), ⟨f0, .nil⟩, fun i acc H' q => q.1.sql (SqL.of eo) nin0, fun i x acc H' hx ha ⟨f1, r1⟩ => ?_, fun acc H' ha ⟨f1, r1⟩ => ?_⟩
              · have hlt := (List.getElem?_eq_some_iff.mp hx).1
                obtain ⟨d, hd, dd⟩ := ro.get hx
                have himm := immL_get K11.iq hd
                obtain ⟨q, hq, rfl⟩ := OutD.get hd
                obtain ⟨t, us, rfl, e1, _, r2⟩ := dd.tup1
                obtain ⟨y0, y1, rfl, d0, d1⟩ := r2.two
                cases d0.int1
                have e1' := f1.tup _ _ e1
                have fm := filter_more (f := fun q : Int × PyData => decide (z2 % n < q.1)) hq
                have hlen : acc.length ≤ 1000 := by
                  rw [r1.len]
                  unfold OutD
                  rw [List.length_map]
                  refine Nat.le_trans (List.length_filter_le _ _) ?_
                  rw [List.length_take]
                  omega
                walk_at "go"
                refine ⟨rfl, ?_⟩
                walk_at "go"
                refine g_ite (fun c => ?_) (fun c => ?_)
                · walk_at "go"
                  refine lcY_of ha (by walk_at "sz") fun H5 f5 e5 => ⟨f1.own1 f5 nD, ?_⟩
                  rw [fm, if_pos (decide_eq_true c), OutD.app]
                  exact (DaL.frL f5 r1 (OutD.imm K11.iq fun q hq => List.mem_of_mem_take (List.mem_filter.mp hq).1)).append (.one' (Da.frL f5 (Da.frL f1 dd himm) himm))
                · refine lcN_of ha ⟨f1, ?_⟩
                  rw [fm, if_neg (by simpa using c), List.append_nil]
                  exact r1
              · rw [hy, List.take_length] at r1
                walk_at "go"
                have dq : dpL (OutD (ps.filter fun q => decide (z2 % n < q.1))) ≤ 5 := dpL_le fun d hd => by
                  obtain ⟨q, hq, rfl⟩ := List.mem_map.mp hd
                  exact Nat.le_trans (dpL_mem (List.mem_map.mpr ⟨q, (List.mem_filter.mp hq).1, rfl⟩)) K11.dq
                exact ⟨_, _, _, _, _, _, _, _, _, _, _, rfl, K11.outb (f1.of0) ha r1 (OutD.imm K11.iq fun q hq => (List.mem_filter.mp hq).1) dq (.inr nD), Nat.le_trans (List.length_filter_le _ _) (by omega), hn, he⟩
            · walk_at "go"
              exact ⟨_, _, _, _, _, _, _, _, _, _, _, rfl, K9, by omega, hn, he⟩
      · rintro σ H10 ⟨ol, wl, n, e, ps, v6, v7, v8, v9, v10, v11, rfl, K10, h10, hn, he⟩
        obtain ⟨xs, W, r⟩ := K10.wi
        obtain ⟨ys, eo, ro⟩ := K10.ob
        obtain ⟨⟨dx, hp⟩, hwl⟩ := id W
        have hx : xs.length ≤ 1000 := by rw [r.len]; unfold OutD; rw [List.length_map]; omega
        have hy : ys.length ≤ 1000 := by rw [ro.len]; unfold OutD; rw [List.length_map]; omega
        walk_at "go"
        rename_i p1 H11 n11 f11 e11 p2 H12 n12 f12 e12 p3 H13 n13 f13 e13
        have dL : ∀ {H' : Hp} {m : List Addr} {us : List V}, Fr m H10 H' → DaL H10 us (OutD ps) → DaL H' us (OutD ps) := fun f q => DaL.frL f q K10.ip
        have f10 : Fr [] H10 H13 := by walk_at "fr"
        have hs : dp (.list [.list (OutD ps), .int n, .int e]) ≤ 12 := by
          have := K10.dq
          simp only [dp, dpL]
          omega
        refine c_Lequal ⟨.list [.list (OutD ps), .int n, .int e], .lst (f13.at0 e12) (Nat.le_of_ble_eq_true rfl) (.cons (.lst (f13.at0 (f12.at0 e11)) (by omega) (dL f10 r)) (.cons (.int _) (.one' (.int _)))),
          .lst e13 (Nat.le_of_ble_eq_true rfl) (.cons (.lst (f10.at0 eo) (by omega) (dL f10 ro)) (.cons (.int _) (.one' (.int _)))), hs, ?_⟩
        walk_at "go"
        exact ⟨_, _, _, _, _, _, _, _, _, _, _, rfl, K10.fr0 f10, h10, hn, he⟩
    · rintro σ H8 ⟨ol, wl, n, e, ps, v6, v7, v8, v9, v10, v11, rfl, K8, h8⟩
      walk_at "go"
      exact k _
theorem ok_law {f : Addr} {fd : FuncData} (F : Fun K "law" "law" s_law f fd) (T : Txt K mg A) (c_Wire_init : CalC P w K mg base "Wire" A.Wire 1 ["self"] (sp_Wire_init K A)) (c_Lnumbers : Cal P w K mg base "_law_numbers" 2 ["_law_script"] (sp_Lnumbers K A)) (c_Wire_acknowledged : CalM P w K mg base A.Wire "acknowledged" 1 ["self", "number"] (sp_Wire_acknowledged K A)) (c_Ldraw : Cal P w K mg base "_law_draw" 2 ["_law_draws"] (sp_Ldraw K A)) (c_Wire_send : CalM P w K mg base A.Wire "send" 1 ["self", "body"] (sp_Wire_send K A)) (c_Lequal : Cal P w K mg base "_law_equal" 25 ["_law_actual", "_law_due"] (sp_Lequal K A 12)) (c_Wire_take : CalM P w K mg base A.Wire "take" 1 ["self", "number"] (sp_Wire_take K A)) : FnOk P w K mg base CX0 (26) f fd ["_law_script"] (sp_law K A) := by
  refine F.ok sc_law (fun vs H Q E h => ?_) (fun cdv Ar outer s H vs Q E hr h => ⟨t_law K A, ?_, ?_⟩)
  · obtain ⟨x0, rfl, _⟩ := h
    rfl
  · have hu := hu_of hr
    exact (pss_cons (ps_set (i := 1) sc_law.nd rfl (Or.inl rfl) (pe_lst (pa_cons (pe_cl c_Lnumbers (hr.mono (by first | decide | omega)) (by rfl) (pa_cons (pv 0) pa_nil)) (pa_cons pe_int pa_nil))))
    (pss_cons (ps_set (i := 2) sc_law.nd rfl (Or.inl rfl) (pe_mk0 c_Wire_init (hr.mono (by first | decide | omega)) (by rfl)))
    (pss_cons (ps_set (i := 3) sc_law.nd rfl (Or.inl rfl) (pe_lst pa_nil))
    (pss_cons (ps_set (i := 4) sc_law.nd rfl (Or.inl rfl) pe_int)
    (pss_cons (ps_set (i := 5) sc_law.nd rfl (Or.inl rfl) pe_int)
    (Evl.pss_cut (ps_if (pt_cmpR op_eq (pe_op o_mod (pe_cl c_Ldraw (hr.mono (by first | decide | omega)) (by rfl) (pa_cons (pv 1) pa_nil)) pe_int) pe_int (nomark _)) (pss_cons (ps_for PassesOwn.never rfl (pi_range1 rfl T.b_range (pa_cons pe_int pa_nil)) (pg_name (i := 6) sc_law.nd rfl (Or.inl rfl)) (pss_cons (ps_expr (pe_mt (pv 2) T.cl_Wire c_Wire_send (hr.mono (by first | decide | omega)) (pa_cons (pe_tup (pa_cons pe_str (pa_cons pe_int (pa_cons pe_int pa_nil)))) pa_nil)))
    (pss_one (ps_if (pt_not (pt_val (pe_mt (pv 2) T.cl_Wire c_Wire_take (hr.mono (by first | decide | omega)) (pa_cons (pv 6) pa_nil)))) (pss_one (ps_ret pe_bl)) pss_nil))))
    (pss_cons (ps_expr (pe_mt (pv 2) T.cl_Wire c_Wire_acknowledged (hr.mono (by first | decide | omega)) (pa_cons pe_int pa_nil)))
    (pss_cons (ps_set (i := 4) sc_law.nd rfl (Or.inl rfl) pe_int)
    (pss_one (ps_set (i := 5) sc_law.nd rfl (Or.inl rfl) pe_int))))) pss_nil)
    (pss_cons (ps_for PassesOwn.never rfl (pi_range1 rfl T.b_range (pa_cons (pe_op o_mod (pe_cl c_Ldraw (hr.mono (by first | decide | omega)) (by rfl) (pa_cons (pv 1) pa_nil)) pe_int) pa_nil)) (pg_name (i := 6) sc_law.nd rfl (Or.inl rfl)) (pss_cons (ps_set (i := 7) sc_law.nd rfl (Or.inl rfl) (pe_op o_mod (pe_cl c_Ldraw (hr.mono (by first | decide | omega)) (by rfl) (pa_cons (pv 1) pa_nil)) pe_int))
    (Evl.pss_cut (ps_if (pt_cmpR c_lt (pv 7) pe_int (nomark _)) (pss_cons (ps_set (i := 8) sc_law.nd rfl (Or.inl rfl) (pe_tup (pa_cons pe_str (pa_cons (pe_op o_mod (pe_cl c_Ldraw (hr.mono (by first | decide | omega)) (by rfl) (pa_cons (pv 1) pa_nil)) pe_int) (pa_cons (pv 6) pa_nil)))))
    (pss_cons (ps_expr (pe_bm PySem.F.plainAttrs_list PySem.F.slot_list_append PySem.F.type_list_append mt_append (pv 3) (pa_cons (pe_tup (pa_cons (pv 4) (pa_cons (pv 8) pa_nil))) pa_nil)))
    (pss_cons (ps_if (pt_not (pt_val (pe_cl c_Lequal (hr.mono (by first | decide | omega)) (by rfl) (pa_cons (pe_mt (pv 2) T.cl_Wire c_Wire_send (hr.mono (by first | decide | omega)) (pa_cons (pv 8) pa_nil)) (pa_cons (pv 4) pa_nil))))) (pss_one (ps_ret pe_bl)) pss_nil)
    (pss_one (ps_set (i := 4) sc_law.nd rfl (Or.inl rfl) (pe_op o_add (pv 4) pe_int)))))) (pss_one (ps_if (pt_cmpR op_eq (pv 7) pe_int (nomark _)) (pss_cons (ps_set (i := 9) sc_law.nd rfl (Or.inr rfl) (pe_callB (b_max2 rfl) (by rfl) T.b_max (by decide +kernel) (pa_cons pe_int (pa_cons (pe_op o_sub (pe_op o_add (pv 5) (pe_op o_mod (pe_cl c_Ldraw (hr.mono (by first | decide | omega)) (by rfl) (pa_cons (pv 1) pa_nil)) pe_int)) pe_int) pa_nil))))
    (pss_cons (ps_set (i := 10) sc_law.nd rfl (Or.inl rfl) (pe_cmpR op_eq (pv 9) (pv 5) (nomark _)))
    (pss_cons (ps_if (pt_not (pt_val (pe_cl c_Lequal (hr.mono (by first | decide | omega)) (by rfl) (pa_cons (pe_mt (pv 2) T.cl_Wire c_Wire_take (hr.mono (by first | decide | omega)) (pa_cons (pv 9) pa_nil)) (pa_cons (pv 10) pa_nil))))) (pss_one (ps_ret pe_bl)) pss_nil)
    (pss_one (ps_if (pt_val (pv 10)) (pss_one (ps_set (i := 5) sc_law.nd rfl (Or.inl rfl) (pe_op o_add (pv 5) pe_int))) pss_nil))))) (pss_one (ps_if (pt_cmpR c_gt (pv 4) pe_int (nomark _)) (pss_cons (ps_set (i := 9) sc_law.nd rfl (Or.inr rfl) (pe_op o_mod (pe_cl c_Ldraw (hr.mono (by first | decide | omega)) (by rfl) (pa_cons (pv 1) pa_nil)) (pv 4)))
    (pss_cons (ps_expr (pe_mt (pv 2) T.cl_Wire c_Wire_acknowledged (hr.mono (by first | decide | omega)) (pa_cons (pv 9) pa_nil)))
    (pss_one (ps_setLc (i := 3) (own := [("_law_pair", 11)]) (g := (gName 11)) (tt := (tTest (tOp cGt (tOp (rIxT K) (tVar 11) (tC (.int 0))) (tVar 9)))) rfl sc_law.nd rfl rfl (sw_true rfl rfl rfl (by decide +kernel)) (pi_list (pv 3)) (blkOk_by (N := ["_law_script", "_law_draws", "_law_wire", "_law_outbox", "_law_sent", "_law_expected", "_law_k", "_law_pick", "_law_body", "_law_number", "_law_due", "_law_pair"]) (sc := defScope s_law) (own := [("_law_pair", 11)]) (by decide +kernel)) (fun _ _ _ _ _ => (pg_name (i := 11) sc_law.nd rfl (Or.inl rfl))) (fun _ _ _ _ _ => (pts_one (pt_cmpR c_gt (pe_ix ix_tup (pv 11) pe_int (fun _ _ => rfl)) (pv 9) (nomark _)))) (fun _ _ _ _ _ => (pv 11)))))) pss_nil)))))
    (pss_one (ps_if (pt_not (pt_val (pe_cl c_Lequal (hr.mono (by first | decide | omega)) (by rfl) (pa_cons (pe_lst (pa_cons (pe_callTy b_list (by rfl) T.b_list (by decide +kernel) (pa_cons (pe_fld (pv 2) rfl) pa_nil)) (pa_cons (pe_fld (pv 2) rfl) (pa_cons (pe_fld (pv 2) rfl) pa_nil)))) (pa_cons (pe_lst (pa_cons (pv 3) (pa_cons (pv 4) (pa_cons (pv 5) pa_nil)))) pa_nil))))) (pss_one (ps_ret pe_bl)) pss_nil)))))
    (pss_one (ps_ret pe_bl)))))))))
  · obtain ⟨x0, rfl, h⟩ := h
    exact pu_law T h
end
/-! ### what the top has written -/
theorem all_mk {l : PySem.W.OpenLaw} {w : World} {K : PySem.W.Frag} {h : Heap} {mg : Str → Option Value} {fa : Addr} (X : K.In h) (G : h.Ns mainGlobals mg) (hfa : mg "law" = some (.ref fa))
    {f1 : Addr} {od1 an1 : Option Addr} {sl1 : Array (Option Value)} {oc1 kV1 dc1 pm1 cd1 ct1 : Value}
    {f2 : Addr} {od2 an2 : Option Addr} {sl2 : Array (Option Value)} {oc2 kV2 dc2 pm2 cd2 ct2 : Value}
    {f3 : Addr} {od3 an3 : Option Addr} {sl3 : Array (Option Value)} {oc3 kV3 dc3 pm3 cd3 ct3 : Value}
    {f4 : Addr} {od4 an4 : Option Addr} {sl4 : Array (Option Value)} {oc4 kV4 dc4 pm4 cd4 ct4 : Value}
    {f5 : Addr} {od5 an5 : Option Addr} {sl5 : Array (Option Value)} {oc5 kV5 dc5 pm5 cd5 ct5 : Value}
    {f6 : Addr} {od6 an6 : Option Addr} {sl6 : Array (Option Value)} {oc6 kV6 dc6 pm6 cd6 ct6 : Value}
    {f7 : Addr} {od7 an7 : Option Addr} {sl7 : Array (Option Value)} {oc7 kV7 dc7 pm7 cd7 ct7 : Value}
    {f8 : Addr} {od8 an8 : Option Addr} {sl8 : Array (Option Value)} {oc8 kV8 dc8 pm8 cd8 ct8 : Value}
    {f9 : Addr} {od9 an9 : Option Addr} {sl9 : Array (Option Value)} {oc9 kV9 dc9 pm9 cd9 ct9 : Value}
    {f10 : Addr} {od10 an10 : Option Addr} {sl10 : Array (Option Value)} {oc10 kV10 dc10 pm10 cd10 ct10 : Value}
    {C_Wire : Addr}
    (aC_Wire : PySem.W.nsIn K mainGlobals "Wire" = some (some (.ref C_Wire)))
    (a1 : PySem.W.nsIn K mainGlobals "_law_mixed" = some (some (.ref f1)))
    (l1 : K.lookup f1 = some ⟨oc1, od1, .func (PySem.W.fnOf "_law_mixed" "_law_mixed" (defArgs s_Lmixed) (defBody s_Lmixed) (defScope s_Lmixed) .none kV1 dc1 pm1 an1 cd1 ct1), sl1⟩)
    (c1 : PySem.W.codeIn K cd1 "_law_mixed" = true)
    (k1 : PySem.W.keepIn K (.ref f1) = true)
    (a2 : PySem.W.nsIn K mainGlobals "_law_numbers" = some (some (.ref f2)))
    (l2 : K.lookup f2 = some ⟨oc2, od2, .func (PySem.W.fnOf "_law_numbers" "_law_numbers" (defArgs s_Lnumbers) (defBody s_Lnumbers) (defScope s_Lnumbers) .none kV2 dc2 pm2 an2 cd2 ct2), sl2⟩)
    (c2 : PySem.W.codeIn K cd2 "_law_numbers" = true)
    (k2 : PySem.W.keepIn K (.ref f2) = true)
    (a3 : PySem.W.nsIn K mainGlobals "_law_draw" = some (some (.ref f3)))
    (l3 : K.lookup f3 = some ⟨oc3, od3, .func (PySem.W.fnOf "_law_draw" "_law_draw" (defArgs s_Ldraw) (defBody s_Ldraw) (defScope s_Ldraw) .none kV3 dc3 pm3 an3 cd3 ct3), sl3⟩)
    (c3 : PySem.W.codeIn K cd3 "_law_draw" = true)
    (k3 : PySem.W.keepIn K (.ref f3) = true)
    (a4 : PySem.W.nsIn K mainGlobals "_law_equal" = some (some (.ref f4)))
    (l4 : K.lookup f4 = some ⟨oc4, od4, .func (PySem.W.fnOf "_law_equal" "_law_equal" (defArgs s_Lequal) (defBody s_Lequal) (defScope s_Lequal) .none kV4 dc4 pm4 an4 cd4 ct4), sl4⟩)
    (c4 : PySem.W.codeIn K cd4 "_law_equal" = true)
    (k4 : PySem.W.keepIn K (.ref f4) = true)
    (a5 : PySem.W.nsIn K mainGlobals "_law_all_equal" = some (some (.ref f5)))
    (l5 : K.lookup f5 = some ⟨oc5, od5, .func (PySem.W.fnOf "_law_all_equal" "_law_all_equal" (defArgs s_Lall_equal) (defBody s_Lall_equal) (defScope s_Lall_equal) .none kV5 dc5 pm5 an5 cd5 ct5), sl5⟩)
    (c5 : PySem.W.codeIn K cd5 "_law_all_equal" = true)
    (k5 : PySem.W.keepIn K (.ref f5) = true)
    (a6 : PySem.W.findIn K (.ref C_Wire) "__init__" = some (some (.ref f6)))
    (i6 : PySem.W.isFn K (.ref f6) = true)
    (l6 : K.lookup f6 = some ⟨oc6, od6, .func (PySem.W.fnOf "__init__" "Wire.__init__" (defArgs s_Wire_init) (defBody s_Wire_init) (defScope s_Wire_init) .none kV6 dc6 pm6 an6 cd6 ct6), sl6⟩)
    (c6 : PySem.W.codeIn K cd6 "Wire.__init__" = true)
    (k6 : PySem.W.keepIn K (.ref f6) = true)
    (a7 : PySem.W.findIn K (.ref C_Wire) "send" = some (some (.ref f7)))
    (i7 : PySem.W.isFn K (.ref f7) = true)
    (l7 : K.lookup f7 = some ⟨oc7, od7, .func (PySem.W.fnOf "send" "Wire.send" (defArgs s_Wire_send) (defBody s_Wire_send) (defScope s_Wire_send) .none kV7 dc7 pm7 an7 cd7 ct7), sl7⟩)
    (c7 : PySem.W.codeIn K cd7 "Wire.send" = true)
    (k7 : PySem.W.keepIn K (.ref f7) = true)
    (a8 : PySem.W.findIn K (.ref C_Wire) "take" = some (some (.ref f8)))
    (i8 : PySem.W.isFn K (.ref f8) = true)
    (l8 : K.lookup f8 = some ⟨oc8, od8, .func (PySem.W.fnOf "take" "Wire.take" (defArgs s_Wire_take) (defBody s_Wire_take) (defScope s_Wire_take) .none kV8 dc8 pm8 an8 cd8 ct8), sl8⟩)
    (c8 : PySem.W.codeIn K cd8 "Wire.take" = true)
    (k8 : PySem.W.keepIn K (.ref f8) = true)
    (a9 : PySem.W.findIn K (.ref C_Wire) "acknowledged" = some (some (.ref f9)))
    (i9 : PySem.W.isFn K (.ref f9) = true)
    (l9 : K.lookup f9 = some ⟨oc9, od9, .func (PySem.W.fnOf "acknowledged" "Wire.acknowledged" (defArgs s_Wire_acknowledged) (defBody s_Wire_acknowledged) (defScope s_Wire_acknowledged) .none kV9 dc9 pm9 an9 cd9 ct9), sl9⟩)
    (c9 : PySem.W.codeIn K cd9 "Wire.acknowledged" = true)
    (k9 : PySem.W.keepIn K (.ref f9) = true)
    (a10 : PySem.W.nsIn K mainGlobals "law" = some (some (.ref f10)))
    (l10 : K.lookup f10 = some ⟨oc10, od10, .func (PySem.W.fnOf "law" "law" (defArgs s_law) (defBody s_law) (defScope s_law) .none kV10 dc10 pm10 an10 cd10 ct10), sl10⟩)
    (c10 : PySem.W.codeIn K cd10 "law" = true)
    (k10 : PySem.W.keepIn K (.ref f10) = true)
    (pg_Wire : PySem.W.plainGet K C_Wire Str.empty = true)
    (hd_Wire : PySem.W.hasDictIn K C_Wire = true)
    (po_Wire : PySem.W.plainOver K C_Wire = true)
    (sa_Wire : PySem.W.findIn K (.ref C_Wire) "__setattr__" = some (some (.builtin "object.__setattr__")))
    (mk_Wire : PySem.W.makesIn K C_Wire = true)
    (kc_Wire : PySem.W.keepIn K (.ref C_Wire) = true)
    (no_Wire_sent : PySem.W.findIn K (.ref C_Wire) "sent" = some none)
    (no_Wire_outbox : PySem.W.findIn K (.ref C_Wire) "outbox" = some none)
    (no_Wire_expected : PySem.W.findIn K (.ref C_Wire) "expected" = some none)
    (z_range : PySem.W.nsIn K mainGlobals "range" = some none)
    (z_len : PySem.W.nsIn K mainGlobals "len" = some none)
    (z_isinstance : PySem.W.nsIn K mainGlobals "isinstance" = some none)
    (z_list : PySem.W.nsIn K mainGlobals "list" = some none)
    (z_tuple : PySem.W.nsIn K mainGlobals "tuple" = some none)
    (z_bool : PySem.W.nsIn K mainGlobals "bool" = some none)
    (z_int : PySem.W.nsIn K mainGlobals "int" = some none)
    (z_str : PySem.W.nsIn K mainGlobals "str" = some none)
    (z_max : PySem.W.nsIn K mainGlobals "max" = some none)
    : ∃ fd : FuncData, (∀ (s : Shared) (v : Value), BindsTo s fd ⟨[v], []⟩ [("_law_script", v)]) ∧ ∀ base : Heap, K.In base → base.Ns mainGlobals mg → FnOk l.prog w K mg base CX0 26 fa fd ["_law_script"] (spLaw K) := by
  have e := hfa.symm.trans (PySem.W.mg_of X G a10)
  cases e
  let A : Ad := ⟨C_Wire⟩
  have T : Txt K mg A := { b_range := PySem.W.mg_none_of X G z_range, b_len := PySem.W.mg_none_of X G z_len, b_isinstance := PySem.W.mg_none_of X G z_isinstance, b_list := PySem.W.mg_none_of X G z_list, b_tuple := PySem.W.mg_none_of X G z_tuple, b_bool := PySem.W.mg_none_of X G z_bool, b_int := PySem.W.mg_none_of X G z_int, b_str := PySem.W.mg_none_of X G z_str, b_max := PySem.W.mg_none_of X G z_max, cl_Wire := ⟨pg_Wire, hd_Wire, po_Wire, sa_Wire⟩, no_Wire_sent := no_Wire_sent, no_Wire_outbox := no_Wire_outbox, no_Wire_expected := no_Wire_expected }
  have F1 := fun_mk (st := s_Lmixed) l1 c1 k1
  have b1 := F1.binds (ps := ["_law_number", "_law_k"]) fun _ _ _ _ _ _ us hl => match us, hl with | [_, _], _ => rfl
  have F2 := fun_mk (st := s_Lnumbers) l2 c2 k2
  have b2 := F2.binds (ps := ["_law_script"]) fun _ _ _ _ _ _ us hl => match us, hl with | [_], _ => rfl
  have F3 := fun_mk (st := s_Ldraw) l3 c3 k3
  have b3 := F3.binds (ps := ["_law_draws"]) fun _ _ _ _ _ _ us hl => match us, hl with | [_], _ => rfl
  have F4 := fun_mk (st := s_Lequal) l4 c4 k4
  have b4 := F4.binds (ps := ["_law_actual", "_law_due"]) fun _ _ _ _ _ _ us hl => match us, hl with | [_, _], _ => rfl
  have F5 := fun_mk (st := s_Lall_equal) l5 c5 k5
  have b5 := F5.binds (ps := ["_law_actual", "_law_due"]) fun _ _ _ _ _ _ us hl => match us, hl with | [_, _], _ => rfl
  have F6 := fun_mk (st := s_Wire_init) l6 c6 k6
  have b6 := F6.binds (ps := ["self"]) fun _ _ _ _ _ _ us hl => match us, hl with | [_], _ => rfl
  have F7 := fun_mk (st := s_Wire_send) l7 c7 k7
  have b7 := F7.binds (ps := ["self", "body"]) fun _ _ _ _ _ _ us hl => match us, hl with | [_, _], _ => rfl
  have F8 := fun_mk (st := s_Wire_take) l8 c8 k8
  have b8 := F8.binds (ps := ["self", "number"]) fun _ _ _ _ _ _ us hl => match us, hl with | [_, _], _ => rfl
  have F9 := fun_mk (st := s_Wire_acknowledged) l9 c9 k9
  have b9 := F9.binds (ps := ["self", "number"]) fun _ _ _ _ _ _ us hl => match us, hl with | [_, _], _ => rfl
  have F10 := fun_mk (st := s_law) l10 c10 k10
  have b10 := F10.binds (ps := ["_law_script"]) fun _ _ _ _ _ _ us hl => match us, hl with | [_], _ => rfl
  refine ⟨PySem.W.fnOf "law" "law" (defArgs s_law) (defBody s_law) (defScope s_law) .none kV10 dc10 pm10 an10 cd10 ct10, fun s v => .of_eq rfl, fun base _ _ => ?_⟩
  have o_Lmixed := ok_Lmixed (P := l.prog) (w := w) (base := base) F1 T 
  have e_Lmixed : Cal l.prog w K mg base "_law_mixed" 1 ["_law_number", "_law_k"] (sp_Lmixed K A) := ⟨⟨_, _, o_Lmixed, PySem.W.mg_of X G a1, k1, b1⟩⟩
  have o_Lnumbers := ok_Lnumbers (P := l.prog) (w := w) (base := base) F2 T e_Lmixed
  have e_Lnumbers : Cal l.prog w K mg base "_law_numbers" 2 ["_law_script"] (sp_Lnumbers K A) := ⟨⟨_, _, o_Lnumbers, PySem.W.mg_of X G a2, k2, b2⟩⟩
  have o_Ldraw := ok_Ldraw (P := l.prog) (w := w) (base := base) F3 T e_Lmixed
  have e_Ldraw : Cal l.prog w K mg base "_law_draw" 2 ["_law_draws"] (sp_Ldraw K A) := ⟨⟨_, _, o_Ldraw, PySem.W.mg_of X G a3, k3, b3⟩⟩
  have e_Lequal : Cal l.prog w K mg base "_law_equal" 25 ["_law_actual", "_law_due"] (sp_Lequal K A 12) := eq_one (P := l.prog) (w := w) (base := base) F4 T (PySem.W.mg_of X G a4) b4 F5 (PySem.W.mg_of X G a5) b5 12
  have e_Lall_equal : Cal l.prog w K mg base "_law_all_equal" 24 ["_law_actual", "_law_due"] (sp_Lall_equal K A 12) := eq_all (P := l.prog) (w := w) (base := base) F4 T (PySem.W.mg_of X G a4) b4 F5 (PySem.W.mg_of X G a5) b5 12
  have o_Wire_init := ok_Wire_init (P := l.prog) (w := w) (base := base) F6 T 
  have e_Wire_init : CalC l.prog w K mg base "Wire" A.Wire 1 ["self"] (sp_Wire_init K A) := ⟨⟨_, _, o_Wire_init, ⟨mk_Wire, a6, i6, kc_Wire⟩, PySem.W.mg_of X G aC_Wire, b6⟩⟩
  have o_Wire_send := ok_Wire_send (P := l.prog) (w := w) (base := base) F7 T 
  have e_Wire_send : CalM l.prog w K mg base A.Wire "send" 1 ["self", "body"] (sp_Wire_send K A) := ⟨⟨_, _, o_Wire_send, ⟨a7, i7, k7⟩, b7⟩⟩
  have o_Wire_take := ok_Wire_take (P := l.prog) (w := w) (base := base) F8 T 
  have e_Wire_take : CalM l.prog w K mg base A.Wire "take" 1 ["self", "number"] (sp_Wire_take K A) := ⟨⟨_, _, o_Wire_take, ⟨a8, i8, k8⟩, b8⟩⟩
  have o_Wire_acknowledged := ok_Wire_acknowledged (P := l.prog) (w := w) (base := base) F9 T 
  have e_Wire_acknowledged : CalM l.prog w K mg base A.Wire "acknowledged" 1 ["self", "number"] (sp_Wire_acknowledged K A) := ⟨⟨_, _, o_Wire_acknowledged, ⟨a9, i9, k9⟩, b9⟩⟩
  exact (ok_law F10 T e_Wire_init e_Lnumbers e_Wire_acknowledged e_Ldraw e_Wire_send e_Lequal e_Wire_take).imp fun vs H Q E h => h
theorem walk {l : PySem.W.OpenLaw} {q : Program} {loose : List Str} {XP : (Str → Option Value) → Heap → Prop} {YP : World → Heap → Prop} {d : DefRec} {K : Params → PySem.W.Frag} (hn : l.most = some 63) (hdf : d.params.defaults = [])
    (hY : ∀ (w : World) (h : Heap), YP w h → (K w.params).In h)
    (F : ∀ (w : World) (mg : Str → Option Value) (fa : Addr) (h : Heap), (K w.params).In h → h.Ns mainGlobals mg → mg d.name = some (.ref fa) →
      ∃ fd : FuncData, (∀ (s : Shared) (u : Value), BindsTo s fd ⟨[u], []⟩ [("_law_script", u)]) ∧ ∀ base : Heap, (K w.params).In base → base.Ns mainGlobals mg → FnOk l.prog w (K w.params) mg base CX0 26 fa fd ["_law_script"] (spLaw (K w.params))) :
    PySem.W.WalkO q loose XP YP l.row.toRowW d [] (fun f vs => PySem.call f vs) :=
  L2.walk_of (n := 63) (k := 26) (x := "_law_script") (CX := fun _ => CX0) (sp := fun w => spLaw (K w.params)) hn (by decide) hdf ⟨rfl, by decide, by decide⟩ hY F (fun _ _ a ns hl _ hS => ⟨_, rfl, a, ns, rfl, hS, hl, fun _ => rfl⟩) fun _ _ _ _ _ z => z
end Toy
open PySem PySem.W PyProof.Rows in
set_option maxRecDepth 100000 in
set_option maxHeartbeats 0 in
theorem PySem.Challenge.cw_manydoors_k07_wires_holds : PySem.Challenge.rw_manydoors_k07_wires.Holds := by
  w_on; o_law; k_head; (case hw => w_witness2)
  k_fill
  refine Toy.walk (l := PySem.Challenge.rw_manydoors_k07_wires) rfl rfl (fun w h Y => PySem.W.kIn_of Y) ?F
  case F =>
    intro w mg fa h KX G hmg
    refine' Toy.all_mk KX G hmg ?aC_Wire ?a1 ?l1 ?c1 ?k1 ?a2 ?l2 ?c2 ?k2 ?a3 ?l3 ?c3 ?k3 ?a4 ?l4 ?c4 ?k4 ?a5 ?l5 ?c5 ?k5 ?a6 ?i6 ?l6 ?c6 ?k6 ?a7 ?i7 ?l7 ?c7 ?k7 ?a8 ?i8 ?l8 ?c8 ?k8 ?a9 ?i9 ?l9 ?c9 ?k9 ?a10 ?l10 ?c10 ?k10 ?pg_Wire ?hd_Wire ?po_Wire ?sa_Wire ?mk_Wire ?kc_Wire ?no_Wire_sent ?no_Wire_outbox ?no_Wire_expected ?z_range ?z_len ?z_isinstance ?z_list ?z_tuple ?z_bool ?z_int ?z_str ?z_max
    (case aC_Wire => k_is)
    (case a1 => k_is)
    (case l1 => k_is)
    (case c1 => k_is)
    (case k1 => k_is)
    (case a2 => k_is)
    (case l2 => k_is)
    (case c2 => k_is)
    (case k2 => k_is)
    (case a3 => k_is)
    (case l3 => k_is)
    (case c3 => k_is)
    (case k3 => k_is)
    (case a4 => k_is)
    (case l4 => k_is)
    (case c4 => k_is)
    (case k4 => k_is)
    (case a5 => k_is)
    (case l5 => k_is)
    (case c5 => k_is)
    (case k5 => k_is)
    (case a6 => k_is)
    (case i6 => k_is)
    (case l6 => k_is)
    (case c6 => k_is)
    (case k6 => k_is)
    (case a7 => k_is)
    (case i7 => k_is)
    (case l7 => k_is)
    (case c7 => k_is)
    (case k7 => k_is)
    (case a8 => k_is)
    (case i8 => k_is)
    (case l8 => k_is)
    (case c8 => k_is)
    (case k8 => k_is)
    (case a9 => k_is)
    (case i9 => k_is)
    (case l9 => k_is)
    (case c9 => k_is)
    (case k9 => k_is)
    (case a10 => k_is)
    (case l10 => k_is)
    (case c10 => k_is)
    (case k10 => k_is)
    (case pg_Wire => k_is)
    (case hd_Wire => k_is)
    (case po_Wire => k_is)
    (case sa_Wire => k_is)
    (case mk_Wire => k_is)
    (case kc_Wire => k_is)
    (case no_Wire_sent => k_is)
    (case no_Wire_outbox => k_is)
    (case no_Wire_expected => k_is)
    (case z_range => k_is)
    (case z_len => k_is)
    (case z_isinstance => k_is)
    (case z_list => k_is)
    (case z_tuple => k_is)
    (case z_bool => k_is)
    (case z_int => k_is)
    (case z_str => k_is)
    (case z_max => k_is)
#print axioms PySem.Challenge.cw_manydoors_k07_wires_holds

