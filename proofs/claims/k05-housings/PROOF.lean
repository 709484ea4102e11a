import PyProof.Rows.All
import Wide.All
import OpenK.AllK
import Wide.FinOn
import HandS.ForMost
import HandS.IsInst
import HandS.Evl
import HandS.Walk
import KE.SortData
import KE.KDictCopyH
import HandS.Conv
import HandS.Finally
import PySem.Challenge.RW_manydoors_k05_whole_housings
set_option Elab.async false
set_option linter.all false
set_option maxRecDepth 100000
set_option maxHeartbeats 1000000
namespace Lw
open PySem L2

/-! ### frames: what a piece of code leaves as it was -/
structure Fr (l : List Addr) (H H' : Hp) : Prop where
  keep : ∀ a o, H a = some o → a ∉ l → H' a = some o
  tup : ∀ a xs, H a = some (.tup xs) → H' a = some (.tup xs)
theorem Fr.refl {l : List Addr} {H : Hp} : Fr l H H := ⟨fun _ _ h _ => h, fun _ _ h => h⟩
theorem Fr.mono {l m : List Addr} {H H' : Hp} (f : Fr l H H') (h : ∀ a, a ∈ l → a ∈ m) : Fr m H H' := ⟨fun a o e n => f.keep a o e fun q => n (h a q), f.tup⟩
theorem Fr.of0 {m : List Addr} {H H' : Hp} (f : Fr [] H H') : Fr m H H' := f.mono fun _ q => nomatch q
theorem Fr.new {H : Hp} {p : Addr} {o : HO} (h : H p = none) : Fr [] H (upd H p o) := ⟨fun a u e _ => by rw [upd_ne (ne_of_none e h)]; exact e, fun a u e => by rw [upd_ne (ne_of_none e h)]; exact e⟩
def notTup : HO → Prop
  | .tup _ => False
  | _ => True
theorem Fr.put {H : Hp} {p : Addr} {o u : HO} (h : H p = some u) (hu : notTup u) : Fr [p] H (upd H p o) := by
  refine ⟨fun a v e n => ?_, fun a v e => ?_⟩
  · rw [upd_ne fun q => n (List.mem_singleton.mpr q)]; exact e
  · by_cases q : a = p
    · subst q; rw [h] at e; cases e; exact hu.elim
    · rw [upd_ne q]; exact e
theorem Fr.trans {l m : List Addr} {H H1 H2 : Hp} (f : Fr l H H1) (g : Fr m H1 H2) : Fr (l ++ m) H H2 :=
  ⟨fun a o e n => g.keep a o (f.keep a o e fun q => n (List.mem_append_left _ q)) fun q => n (List.mem_append_right _ q), fun a xs e => g.tup a xs (f.tup a xs e)⟩
theorem Fr.transL {l : List Addr} {H H1 H2 : Hp} (f : Fr l H H1) (g : Fr l H1 H2) : Fr l H H2 := (f.trans g).mono fun _ q => (List.mem_append.mp q).elim id id
theorem Fr.then0 {l : List Addr} {H H1 H2 : Hp} (f : Fr l H H1) (g : Fr [] H1 H2) : Fr l H H2 := f.transL g.of0
theorem Fr.pre0 {l : List Addr} {H H1 H2 : Hp} (f : Fr [] H H1) (g : Fr l H1 H2) : Fr l H H2 := f.of0.transL g
theorem Fr.pre0' {l : List Addr} {H H1 H2 : Hp} (g : Fr l H1 H2) (f : Fr [] H H1) : Fr l H H2 := f.pre0 g
/-- an address that was not tracked may be written -/
theorem Fr.drop {l : List Addr} {p : Addr} {H H' : Hp} (f : Fr (p :: l) H H') (h : H p = none) : Fr l H H' :=
  ⟨fun a o e n => f.keep a o e fun q => (List.mem_cons.mp q).elim (fun z => by rw [z, h] at e; cases e) n, f.tup⟩
theorem Fr.free {H H' : Hp} {p : Addr} (f : Fr [] H H') (h : H' p = none) : H p = none := by
  cases q : H p with
  | none => rfl
  | some o => rw [f.keep p o q (by simp)] at h; cases h
theorem Fr.freeL {l : List Addr} {H H' : Hp} {p : Addr} (f : Fr l H H') (h : H' p = none) (n : p ∉ l) : H p = none := by
  cases q : H p with
  | none => rfl
  | some o => rw [f.keep p o q n] at h; cases h
/-- new objects may change -/
theorem Fr.own {l m : List Addr} {H H' H2 : Hp} (f : Fr l H H') (g : Fr m H' H2) (n : ∀ a, a ∈ m → a ∈ l ∨ H a = none) : Fr l H H2 :=
  ⟨fun a o e na => g.keep a o (f.keep a o e na) fun q => (n a q).elim na (fun z => by rw [z] at e; cases e), fun a xs e => g.tup a xs (f.tup a xs e)⟩
theorem Fr.own1 {l : List Addr} {p : Addr} {H H' H2 : Hp} (f : Fr l H H') (g : Fr [p] H' H2) (n : H p = none) : Fr l H H2 := f.own g fun a q => .inr (by rw [List.mem_singleton.mp q]; exact n)
theorem frn0 {l : List Addr} {H : Hp} : ∀ a, a ∈ ([] : List Addr) → a ∈ l ∨ H a = none := fun _ q => nomatch q
theorem frn1 {p : Addr} {l m : List Addr} {H : Hp} (h : p ∈ l ∨ H p = none) (t : ∀ a, a ∈ m → a ∈ l ∨ H a = none) : ∀ a, a ∈ p :: m → a ∈ l ∨ H a = none := fun a q => (List.mem_cons.mp q).elim (fun e => e ▸ h) (t a)
theorem nin0 {a : Addr} : a ∉ ([] : List Addr) := by simp
theorem nin1 {a b : Addr} {l : List Addr} (h : a ≠ b) (t : a ∉ l) : a ∉ b :: l := by simp [h, t]
theorem Fr.tupAt {l : List Addr} {H H' : Hp} {a : Addr} {xs : List V} (f : Fr l H H') (h : H a = some (.tup xs)) : H' a = some (.tup xs) := f.tup a xs h
theorem Fr.at0 {H H' : Hp} {a : Addr} {o : HO} (f : Fr [] H H') (h : H a = some o) : H' a = some o := f.keep a o h nin0
theorem Fr.at {l : List Addr} {H H' : Hp} {a : Addr} {o : HO} (f : Fr l H H') (h : H a = some o) (n : a ∉ l) : H' a = some o := f.keep a o h n
theorem Fr.sql {K : PySem.W.Frag} {l : List Addr} {H H' : Hp} {a : Addr} {xs : List V} (f : Fr l H H') (h : SqL K H a xs) (n : a ∉ l) : SqL K H' a xs := by
  rcases h with (h | ⟨o, h⟩) | h
  · exact .inl (.inl (f.keep _ _ h n))
  · exact .inl (.inr ⟨o, f.keep _ _ h n⟩)
  · exact .inr h

/-! ### operators by name -/
def oAdd : R2 := rI0 fun i j => .int (i + j)
def oSub : R2 := rI0 fun i j => .int (i - j)
def oMul : R2 := rI CMul fun i j => .int (i * j)
def oMod : R2 := rI (fun _ j => 0 < j) fun i j => .int (i % j)
def oDiv : R2 := rI CDiv fun i j => .int (i / j)
def oPow : R2 := rI CPow fun i j => .int (i ^ j.toNat)
def cLt : R2 := rI0 fun i j => .bl (decide (i < j))
def cLe : R2 := rI0 fun i j => .bl (decide (i ≤ j))
def cGt : R2 := rI0 fun i j => .bl (decide (j < i))
def cGe : R2 := rI0 fun i j => .bl (decide (j ≤ i))
section
variable {X : Cx}
theorem o_add : OpR X (binaryOp .Add) oAdd := op_add
theorem o_sub : OpR X (binaryOp .Sub) oSub := op_sub
theorem o_mul : OpR X (binaryOp .Mult) oMul := op_mul
theorem o_mod : OpR X (binaryOp .Mod) oMod := op_mod
theorem o_div : OpR X (binaryOp .FloorDiv) oDiv := op_fdiv
theorem o_pow : OpR X (binaryOp .Pow) oPow := op_pow
theorem c_lt : OpR X (compareOp .Lt) cLt := op_lt
theorem c_le : OpR X (compareOp .LtE) cLe := op_le
theorem c_gt : OpR X (compareOp .Gt) cGt := op_gt
theorem c_ge : OpR X (compareOp .GtE) cGe := op_ge
/-- len -/
def rLenSq (K : PySem.W.Frag) : List V → Hp → VK → Prop := fun xs H Q => ∃ p ys, xs = [.ref p] ∧ (SqL K H p ys ∨ SqT K H p ys) ∧ Q (.int ys.length) H
def rLenStr : List V → Hp → VK → Prop := fun xs H Q => ∃ z, xs = [.str z] ∧ z.length ≤ sizeLine ∧ Q (.int z.length) H
theorem b_len : CallR X (.builtin "len") (rLenSq X.K) := call_len_seq
theorem b_lenS : CallR X (.builtin "len") rLenStr := call_len_str
/-- list(..), tuple(..) -/
def rListOf (K : PySem.W.Frag) : List V → Hp → VK → Prop := fun xs H Q => ∃ p ys, xs = [.ref p] ∧ (SqL K H p ys ∨ SqT K H p ys) ∧ ∀ l, H l = none → Q (.ref l) (upd H l (.lst ys))
def rTupOf (K : PySem.W.Frag) : List V → Hp → VK → Prop := fun xs H Q => ∃ p ys, xs = [.ref p] ∧ ((SqL K H p ys ∧ ∀ l, H l = none → Q (.ref l) (upd H l (.tup ys))) ∨ (SqT K H p ys ∧ Q (.ref p) H))
theorem b_list : CallR X (.type "list") (rListOf X.K) := call_list_of
theorem b_tuple : CallR X (.type "tuple") (rTupOf X.K) := call_tuple_of
def rMax2 : List V → Hp → VK → Prop := fun xs H Q => ∃ i j, xs = [.int i, .int j] ∧ Q (.int (if j > i then j else i)) H
def rMin2 : List V → Hp → VK → Prop := fun xs H Q => ∃ i j, xs = [.int i, .int j] ∧ Q (.int (if j < i then j else i)) H
theorem b_max2 (hc : X.calm = true) : CallR X (.builtin "max") rMax2 := call_max2 hc
theorem b_min2 (hc : X.calm = true) : CallR X (.builtin "min") rMin2 := call_min2 hc
def rIsNon : R2 := fun x y H Q => y = .non ∧ Q (.bl (decide (x = .non))) H
def rIsNotNon : R2 := fun x y H Q => y = .non ∧ Q (.bl (!decide (x = .non))) H
theorem c_isN : OpR X (compareOp .Is) rIsNon := op_isN
theorem c_notN : OpR X (compareOp .IsNot) rIsNotNon := op_notN
/-- a value's truth, as a test -/
def tTr (K : PySem.W.Frag) (ta : TE) : TT := fun σ H Q => ta σ H fun x H' => ∃ k, TruV K x H' k ∧ Q k H'
theorem pt_tr {a : Expr} {ta : TE} (ha : PE X a ta) (he : ∀ whole, isTrue a X.env whole = (do let v ← whole; standAt a.pos; holding [v] (truthy v))) : PT X a (tTr X.K ta) := pt_truth ha he

/-! ### calls -/
def tCl (sp : Sp) (t : TA) : TE := fun σ H Q => t σ H fun vs H1 => sp vs H1 Q E0
def rMt (C : Addr) (m : Str) (x : V) (H : Hp) (p : Prop) : Prop := ∃ a dx fs, x = .ref a ∧ H a = some (.ins C dx fs) ∧ fs.lookup m = none ∧ p
def tMt (C : Addr) (m : Str) (sp : Sp) (ta : TE) (t : TA) : TE := fun σ H Q => ta σ H fun x H1 => rMt C m x H1 (t σ H1 fun vs H2 => sp (x :: vs) H2 Q E0)
def tMk (C : Addr) (sp : Sp) (t : TA) : TE := fun σ H Q => t σ H fun vs H1 => ∀ x dx, H1 x = none → H1 dx = none → dx ≠ x →
  sp (.ref x :: vs) (upd (upd H1 dx (.own x)) x (.ins C dx [])) (fun v H2 => v = .non ∧ Q (.ref x) H2) E0
/-- a def of the text, to be called by its name -/
structure Cal (P : Program) (w : World) (K : PySem.W.Frag) (mg : Str → Option Value) (base : Heap) (x : Str) (k : Nat) (ps : List Str) (sp : Sp) : Prop where
  ex : ∃ f fd, FnOk P w K mg base CX0 k f fd ps sp ∧ mg x = some (.ref f) ∧ PySem.W.keepIn K (.ref f) = true ∧ Binds K fd ps []
/-- a method of the class at C -/
structure CalM (P : Program) (w : World) (K : PySem.W.Frag) (mg : Str → Option Value) (base : Heap) (C : Addr) (m : Str) (k : Nat) (ps : List Str) (sp : Sp) : Prop where
  ex : ∃ f fd, FnOk P w K mg base CX0 k f fd ps sp ∧ Meth K C m f ∧ Binds K fd ps []
/-- a class, to be called by its name -/
structure CalC (P : Program) (w : World) (K : PySem.W.Frag) (mg : Str → Option Value) (base : Heap) (x : Str) (C : Addr) (k : Nat) (ps : List Str) (sp : Sp) : Prop where
  ex : ∃ f fd, FnOk P w K mg base CX0 k f fd ps sp ∧ Mk K C f ∧ mg x = some (.ref C) ∧ Binds K fd ps []
variable {k : Nat} {ps : List Str} {sp : Sp} {x m : Str} {p pos apos : Pos} {e o : Expr} {es : List Expr} {ta : TE} {t : TA} {C : Addr}
theorem tcl_eq {E : XK} : (tCall sp [] E0 t) = tCl sp t := by
  funext σ H Q
  show (t σ H fun vs H1 => sp (vs ++ []) H1 Q E0) = (t σ H fun vs H1 => sp vs H1 Q E0)
  simp only [List.append_nil]
theorem pe_cl (c : Cal X.prog X.w X.K X.mg X.base x k ps sp) (hr : Room k X.A) (hg : Gl X x) (ha : PA X (e :: es) t) (hdb : (x == ("__debug__" : Str)) = false := by decide)
    (he : starEach (e :: es) X.env = (false, eval e X.env) :: starEach es X.env := by rfl) (hpl : (backTo pos (starEach es X.env)).any (·.1) = false := by rfl) : PE X (.Call (.Name x p) (e :: es) [] pos) (tCl sp t) := by
  obtain ⟨f, fd, F, hm, hk, hb⟩ := c.ex
  rw [← tcl_eq (E := E0)]
  exact pe_call F hr hg hm hk hb .nil pass0 ha hdb he hpl
theorem pe_cl0 (c : Cal X.prog X.w X.K X.mg X.base x k ps sp) (hr : Room k X.A) (hg : Gl X x) (hdb : (x == ("__debug__" : Str)) = false := by decide) : PE X (.Call (.Name x p) [] [] pos) (tCl sp tNil) := by
  obtain ⟨f, fd, F, hm, hk, hb⟩ := c.ex
  rw [← tcl_eq (E := E0)]
  exact pe_call0 F hr hg hm hk hb .nil pass0 hdb
theorem tmt_eq : (tMeth C m sp [] E0 ta t) = tMt C m sp ta t := by
  funext σ H Q
  show (ta σ H fun x H1 => ∃ a dx fs, x = .ref a ∧ H1 a = some (.ins C dx fs) ∧ fs.lookup m = none ∧ t σ H1 fun vs H2 => sp (x :: (vs ++ [])) H2 Q E0) = _
  simp only [List.append_nil]
  rfl
theorem tmk_eq : (tMake C sp [] E0 t) = tMk C sp t := by
  funext σ H Q
  show (t σ H fun vs H1 => ∀ x dx, H1 x = none → H1 dx = none → dx ≠ x → sp (.ref x :: (vs ++ [])) (upd (upd H1 dx (.own x)) x (.ins C dx [])) (fun v H2 => v = .non ∧ Q (.ref x) H2) E0) = _
  simp only [List.append_nil]
  rfl
theorem pe_mt {pl : Sem Bool} (he : PE X o ta) (c : Cls X.K C) (cm : CalM X.prog X.w X.K X.mg X.base C m k ps sp) (hr : Room k X.A) (ha : PA X (e :: es) t)
    (hst : starEach (e :: es) X.env = (false, eval e X.env) :: starEach es X.env := by rfl) (hpl : (backTo pos (starEach es X.env)).any (·.1) = false := by rfl)
    (ht : eval (.Call (.Attribute o m apos) (e :: es) [] pos) X.env = (do
      let ov ← eval o X.env
      standAt apos.atName
      let (f, first) ← holding [ov] (getMethod ov m pl)
      callWith pos f first (backTo pos (starEach (e :: es) X.env)) (backToKw pos (keywordEach [] X.env))) := by rfl) :
    PE X (.Call (.Attribute o m apos) (e :: es) [] pos) (tMt C m sp ta t) := by
  obtain ⟨f, fd, F, hm, hb⟩ := cm.ex
  rw [← tmt_eq]
  exact pe_meth (pl := pl) he c hm F hr hb .nil pass0 ha hst hpl ht
theorem pe_mt0 {pl : Sem Bool} (he : PE X o ta) (c : Cls X.K C) (cm : CalM X.prog X.w X.K X.mg X.base C m k ps sp) (hr : Room k X.A)
    (ht : eval (.Call (.Attribute o m apos) [] [] pos) X.env = (do
      let ov ← eval o X.env
      standAt apos.atName
      let (f, first) ← holding [ov] (getMethod ov m pl)
      callWith pos f first (backTo pos (starEach [] X.env)) (backToKw pos (keywordEach [] X.env))) := by rfl) :
    PE X (.Call (.Attribute o m apos) [] [] pos) (tMt C m sp ta tNil) := by
  obtain ⟨f, fd, F, hm, hb⟩ := cm.ex
  rw [← tmt_eq]
  exact pe_meth0 (pl := pl) he c hm F hr hb .nil pass0 ht
theorem pe_mk (cm : CalC X.prog X.w X.K X.mg X.base x C k ps sp) (hr : Room (k + 1) X.A) (hg : Gl X x) (ha : PA X (e :: es) t) (hdb : (x == ("__debug__" : Str)) = false := by decide)
    (he : starEach (e :: es) X.env = (false, eval e X.env) :: starEach es X.env := by rfl) (hpl : (backTo pos (starEach es X.env)).any (·.1) = false := by rfl) :
    PE X (.Call (.Name x p) (e :: es) [] pos) (tMk C sp t) := by
  obtain ⟨f, fd, F, hM, hm, hb⟩ := cm.ex
  rw [← tmk_eq]
  exact pe_make hM F hr hg hm hb .nil pass0 ha hdb he hpl
theorem pe_mk0 (cm : CalC X.prog X.w X.K X.mg X.base x C k ps sp) (hr : Room (k + 1) X.A) (hg : Gl X x) (hdb : (x == ("__debug__" : Str)) = false := by decide) :
    PE X (.Call (.Name x p) [] [] pos) (tMk C sp tNil) := by
  obtain ⟨f, fd, F, hM, hm, hb⟩ := cm.ex
  rw [← tmk_eq]
  exact pe_make0 hM F hr hg hm hb .nil pass0 hdb
end

/-! ### readings, one step each -/
section
variable {K : PySem.W.Frag} {σ : L2.St} {H H' : Hp} {Q : VK} {D : Ends} {i : Nat} {v x y : V} {ta tb te tc : TE} {r : R2} {t u : TS} {c d : TT} {as tr : TA} {g : TG} {a b : Int} {p C dx : Addr} {QB : Bool → Hp → Prop} {QL : List V → Hp → Prop}
theorem g_seq (h : t { D with nx := u D } σ H) : tSeq t u D σ H := h
theorem g_cut (M : L2.St → Hp → Prop) (h : t { D with nx := M } σ H) (k : ∀ σ' H', M σ' H' → u D σ' H') : Evl.tCut t u D σ H := ⟨M, h, k⟩
theorem g_next (h : D.nx σ H) : tNext D σ H := h
theorem g_brk (h : D.bk σ H) : tBreak D σ H := h
theorem g_cont (h : D.ct σ H) : tCont D σ H := h
theorem g_asg (h : te σ H (fun v H' => g v σ H' D.nx)) : tAsg te g D σ H := h
theorem g_name {QS : L2.St → Hp → Prop} (h : QS (σ.set i (some v)) H) : gName i v σ H QS := h
theorem g_ret (h : te σ H D.rt) : tRet te D σ H := h
theorem g_retN (h : D.rt .non H) : tRetN D σ H := h
theorem g_drop (h : te σ H (fun _ H' => D.nx σ H')) : tDrop te D σ H := h
theorem g_ifs (h : c σ H (fun b H' => if b = true then t D σ H' else u D σ H')) : tIfS c t u D σ H := h
theorem g_aug {ti : TIp} (hx : σ[i]? = some (some x)) (h : te σ H (fun y H1 => ti x y H1 fun z H2 => D.nx (σ.set i (some z)) H2)) : tAug i te ti D σ H := ⟨x, hx, h⟩
theorem g_ipI {f : Int → Int → Int} (h : Q (.int (f a b)) H) : ipI f (.int a) (.int b) H Q := ⟨a, b, rfl, rfl, h⟩
theorem g_var (hx : σ[i]? = some (some v)) (h : Q v H) : tVar i σ H Q := ⟨v, hx, h⟩
theorem g_c (h : Q v H) : tC v σ H Q := h
theorem g_op (h : ta σ H (fun x H1 => tb σ H1 fun y H2 => r x y H2 Q)) : tOp r ta tb σ H Q := h
theorem g_add (h : Q (.int (a + b)) H) : oAdd (.int a) (.int b) H Q := ⟨a, b, rfl, rfl, h⟩
theorem g_sub (h : Q (.int (a - b)) H) : oSub (.int a) (.int b) H Q := ⟨a, b, rfl, rfl, h⟩
theorem g_mul (hc : CMul a b) (h : Q (.int (a * b)) H) : oMul (.int a) (.int b) H Q := ⟨a, b, rfl, rfl, hc, h⟩
theorem g_mod (hc : 0 < b) (h : Q (.int (a % b)) H) : oMod (.int a) (.int b) H Q := ⟨a, b, rfl, rfl, hc, h⟩
theorem g_div (hc : CDiv a b) (h : Q (.int (a / b)) H) : oDiv (.int a) (.int b) H Q := ⟨a, b, rfl, rfl, hc, h⟩
theorem g_pow (hc : CPow a b) (h : Q (.int (a ^ b.toNat)) H) : oPow (.int a) (.int b) H Q := ⟨a, b, rfl, rfl, hc, h⟩
theorem g_lt (h : Q (.bl (decide (a < b))) H) : cLt (.int a) (.int b) H Q := ⟨a, b, rfl, rfl, h⟩
theorem g_le (h : Q (.bl (decide (a ≤ b))) H) : cLe (.int a) (.int b) H Q := ⟨a, b, rfl, rfl, h⟩
theorem g_gt (h : Q (.bl (decide (b < a))) H) : cGt (.int a) (.int b) H Q := ⟨a, b, rfl, rfl, h⟩
theorem g_ge (h : Q (.bl (decide (b ≤ a))) H) : cGe (.int a) (.int b) H Q := ⟨a, b, rfl, rfl, h⟩
theorem g_eqI (h : Q (.bl (decide (a = b))) H) : rEq (.int a) (.int b) H Q := ⟨rfl, by rw [show decide (V.int a = V.int b) = decide (a = b) from by simp]; exact h⟩
theorem g_neI (h : Q (.bl (!decide (a = b))) H) : rNe (.int a) (.int b) H Q := ⟨rfl, by rw [show decide (V.int a = V.int b) = decide (a = b) from by simp]; exact h⟩
theorem g_eqS {a b : Str} (h : Q (.bl (decide (a = b))) H) : rEq (.str a) (.str b) H Q := ⟨rfl, by rw [show decide (V.str a = V.str b) = decide (a = b) from by simp]; exact h⟩
theorem g_neS {a b : Str} (h : Q (.bl (!decide (a = b))) H) : rNe (.str a) (.str b) H Q := ⟨rfl, by rw [show decide (V.str a = V.str b) = decide (a = b) from by simp]; exact h⟩
theorem g_eqB {a b : Bool} (h : Q (.bl (decide (a = b))) H) : rEq (.bl a) (.bl b) H Q := ⟨rfl, by rw [show decide (V.bl a = V.bl b) = decide (a = b) from by simp]; exact h⟩
theorem g_isN (h : Q (.bl (decide (x = .non))) H) : rIsNon x .non H Q := ⟨rfl, h⟩
theorem g_notN (h : Q (.bl (!decide (x = .non))) H) : rIsNotNon x .non H Q := ⟨rfl, h⟩
theorem g_test (h : te σ H (fun x H' => ∃ k, x = .bl k ∧ QB k H')) : tTest te σ H QB := h
theorem g_tb (h : te σ H (fun x H' => ∃ k, x = .bl k ∧ QB k H')) : tB te σ H QB := h
theorem g_bl {k : Bool} {P : Bool → Prop} (h : P k) : ∃ k', V.bl k = V.bl k' ∧ P k' := ⟨k, rfl, h⟩
theorem g_and (h : c σ H (fun b H1 => if b = true then d σ H1 QB else QB false H1)) : tAnd c d σ H QB := h
theorem g_or (h : c σ H (fun b H1 => if b = true then QB true H1 else d σ H1 QB)) : tOr c d σ H QB := h
theorem g_not (h : c σ H (fun b H1 => QB (!b) H1)) : tNot c σ H QB := h
theorem g_andV (h : ta σ H (fun x H1 => ∃ c, x = .bl c ∧ if c = true then tb σ H1 Q else Q (.bl false) H1)) : tAndV ta tb σ H Q := h
theorem g_orV (h : ta σ H (fun x H1 => ∃ c, x = .bl c ∧ if c = true then Q (.bl true) H1 else tb σ H1 Q)) : tOrV ta tb σ H Q := h
theorem g_notV (h : ta σ H (fun x H1 => ∃ c, x = .bl c ∧ Q (.bl (!c)) H1)) : tNotV ta σ H Q := h
theorem g_ifE (h : c σ H (fun b H1 => if b = true then ta σ H1 Q else tb σ H1 Q)) : tIf c ta tb σ H Q := h
theorem g_ite {P : Prop} [Decidable P] {A B : Prop} (h1 : P → A) (h2 : ¬ P → B) : if decide P = true then A else B := by
  by_cases h : P
  · rw [if_pos (decide_eq_true h)]; exact h1 h
  · rw [if_neg (by simp [h])]; exact h2 h
theorem g_iteN {P : Prop} [Decidable P] {A B : Prop} (h1 : ¬ P → A) (h2 : P → B) : if (!decide P) = true then A else B := by
  by_cases h : P
  · rw [if_neg (by simp [h])]; exact h2 h
  · rw [if_pos (by simp [h])]; exact h1 h
theorem g_iteB {k : Bool} {A B : Prop} (h1 : k = true → A) (h2 : k = false → B) : if k = true then A else B := by
  cases k with
  | true => rw [if_pos rfl]; exact h1 rfl
  | false => rw [if_neg Bool.false_ne_true]; exact h2 rfl
theorem g_iteNB {k : Bool} {A B : Prop} (h1 : k = false → A) (h2 : k = true → B) : if (!k) = true then A else B := by
  cases k with
  | true => rw [if_neg (by decide)]; exact h2 rfl
  | false => rw [if_pos (by decide)]; exact h1 rfl
theorem g_iteT {A B : Prop} (h : A) : if true = true then A else B := by rw [if_pos rfl]; exact h
theorem g_iteF {A B : Prop} (h : B) : if false = true then A else B := by rw [if_neg Bool.false_ne_true]; exact h
theorem g_iteNT {A B : Prop} (h : B) : if (!true) = true then A else B := by rw [if_neg (by decide)]; exact h
theorem g_iteNF {A B : Prop} (h : A) : if (!false) = true then A else B := by rw [if_pos (by decide)]; exact h
theorem g_nil (h : QL [] H) : tNil σ H QL := h
theorem g_cons (h : te σ H (fun x H1 => as σ H1 fun xs H2 => QL (x :: xs) H2)) : tCons te as σ H QL := h
theorem g_cb {rr : List V → Hp → VK → Prop} (h : as σ H (fun vs H1 => rr vs H1 Q)) : tCB rr as σ H Q := h
theorem g_cl {sp : Sp} (h : as σ H (fun vs H1 => sp vs H1 Q E0)) : tCl sp as σ H Q := h
/-- a new tuple, a new list -/
def rNewT (vs : List V) (H : Hp) (Q : VK) : Prop := vs.length ≤ sizeLine ∧ ∀ p, H p = none → Q (.ref p) (upd H p (.tup vs))
def rNewL (vs : List V) (H : Hp) (Q : VK) : Prop := vs.length ≤ sizeLine ∧ ∀ p, H p = none → Q (.ref p) (upd H p (.lst vs))
theorem g_tup (h : as σ H (fun vs H1 => rNewT vs H1 Q)) : tTup as σ H Q := h
theorem g_lst (h : as σ H (fun vs H1 => rNewL vs H1 Q)) : tLst as σ H Q := h
theorem g_newT {vs : List V} (hl : vs.length ≤ sizeLine) (h : ∀ p H', H p = none → Fr [] H H' → H' p = some (.tup vs) → Q (.ref p) H') : rNewT vs H Q := ⟨hl, fun p hp => h p _ hp (Fr.new hp) upd_same⟩
theorem g_newL {vs : List V} (hl : vs.length ≤ sizeLine) (h : ∀ p H', H p = none → Fr [] H H' → H' p = some (.lst vs) → Q (.ref p) H') : rNewL vs H Q := ⟨hl, fun p hp => h p _ hp (Fr.new hp) upd_same⟩
theorem g_ixL {xs : List V} {k : Int} (h : SqL K H p xs) (ha : atI xs k = some v) (q : Q v H) : rIxL K (.ref p) (.int k) H Q := ⟨p, xs, k, v, rfl, rfl, h, ha, q⟩
theorem g_ixT {xs : List V} {k : Int} (h : SqT K H p xs) (ha : atI xs k = some v) (q : Q v H) : rIxT K (.ref p) (.int k) H Q := ⟨p, xs, k, v, rfl, rfl, h, ha, q⟩
theorem g_lenL {xs : List V} (h : SqL K H p xs) (q : Q (.int xs.length) H) : rLenSq K [.ref p] H Q := ⟨p, xs, rfl, .inl h, q⟩
theorem g_lenT {xs : List V} (h : SqT K H p xs) (q : Q (.int xs.length) H) : rLenSq K [.ref p] H Q := ⟨p, xs, rfl, .inr h, q⟩
theorem g_listL {xs : List V} (h : SqL K H p xs) (q : ∀ l H', H l = none → Fr [] H H' → H' l = some (.lst xs) → Q (.ref l) H') : rListOf K [.ref p] H Q := ⟨p, xs, rfl, .inl h, fun l hl => q l _ hl (Fr.new hl) upd_same⟩
theorem g_listT {xs : List V} (h : SqT K H p xs) (q : ∀ l H', H l = none → Fr [] H H' → H' l = some (.lst xs) → Q (.ref l) H') : rListOf K [.ref p] H Q := ⟨p, xs, rfl, .inr h, fun l hl => q l _ hl (Fr.new hl) upd_same⟩
theorem g_tupL {xs : List V} (h : SqL K H p xs) (q : ∀ l H', H l = none → Fr [] H H' → H' l = some (.tup xs) → Q (.ref l) H') : rTupOf K [.ref p] H Q := ⟨p, xs, rfl, .inl ⟨h, fun l hl => q l _ hl (Fr.new hl) upd_same⟩⟩
theorem g_max2 (q : Q (.int (if b > a then b else a)) H) : rMax2 [.int a, .int b] H Q := ⟨a, b, rfl, q⟩
theorem g_min2 (q : Q (.int (if b < a then b else a)) H) : rMin2 [.int a, .int b] H Q := ⟨a, b, rfl, q⟩
def rBM (K : PySem.W.Frag) (T : String) (x : V) (H : Hp) (P : Prop) : Prop := tyV K T x H ∧ P
theorem g_bm {T : String} {rr : V → List V → Hp → VK → Prop} (h : te σ H (fun x H1 => rBM K T x H1 (as σ H1 fun xs H2 => rr x xs H2 Q))) : tBM K T rr te as σ H Q := h
theorem g_bm0 {T : String} {rr : V → List V → Hp → VK → Prop} (h : te σ H (fun x H1 => rBM K T x H1 (rr x [] H1 Q))) : tBM0 K T rr te σ H Q := h
theorem g_bmL {xs : List V} {P : Prop} (h : H p = some (.lst xs)) (q : P) : rBM K "list" (.ref p) H P := ⟨.inl ⟨rfl, xs, SqL.of h⟩, q⟩
theorem g_append {xs : List V} (h : H p = some (.lst xs)) (hl : xs.length < sizeLine) (q : ∀ H', Fr [p] H H' → H' p = some (.lst (xs ++ [y])) → Q .non H') : rAppend (.ref p) [y] H Q := ⟨p, xs, y, rfl, rfl, h, hl, q _ (Fr.put h trivial) upd_same⟩
theorem g_clear {xs : List V} (h : H p = some (.lst xs)) (q : ∀ H', Fr [p] H H' → H' p = some (.lst []) → Q .non H') : rClear (.ref p) [] H Q := ⟨p, xs, rfl, rfl, h, q _ (Fr.put h trivial) upd_same⟩
theorem g_sub1 {to ti : TE} {ts : TSet} {QS : L2.St → Hp → Prop} (h : to σ H (fun o H1 => ti σ H1 fun i H2 => ts o i v H2 fun H3 => QS σ H3)) : gSub to ti ts v σ H QS := h
theorem g_setL {xs : List V} {k : Int} {j : Nat} {P : Hp → Prop} (h : H p = some (.lst xs)) (hj : ixN xs.length k = some j) (q : ∀ H', Fr [p] H H' → H' p = some (.lst (xs.set j v)) → P H') : rSetL (.ref p) (.int k) v H P := ⟨p, xs, k, j, rfl, rfl, h, hj, q _ (Fr.put h trivial) upd_same⟩
/-- attributes -/
def rFld (K : PySem.W.Frag) (f : Str) (x : V) (H : Hp) (Q : VK) : Prop := ∃ a C dx fs v, x = .ref a ∧ H a = some (.ins C dx fs) ∧ Cls K C ∧ NoAttr K C f ∧ fs.lookup f = some v ∧ Q v H
theorem g_fld {f : Str} (h : ta σ H (fun x H1 => rFld K f x H1 Q)) : tFld K ta f σ H Q := h
theorem g_rfld {f : Str} {fs : List (Str × V)} (h : H p = some (.ins C dx fs)) (c : Cls K C) (n : NoAttr K C f) (l : fs.lookup f = some v) (q : Q v H) : rFld K f (.ref p) H Q := ⟨p, C, dx, fs, v, rfl, h, c, n, l, q⟩
def rFldS (K : PySem.W.Frag) (f : Str) (x v : V) (H : Hp) (P : Hp → Prop) : Prop := ∃ a C dx fs, x = .ref a ∧ H a = some (.ins C dx fs) ∧ Cls K C ∧ NoAttr K C f ∧ fs.length < 1000 ∧ P (upd H a (.ins C dx (putF f v fs)))
theorem g_sfld {f : Str} (h : tb σ H (fun y H1 => ta σ H1 fun x H2 => rFldS K f x y H2 fun H3 => D.nx σ H3)) : sFld K ta tb f D σ H := h
theorem g_rflds {f : Str} {fs gs : List (Str × V)} {P : Hp → Prop} (h : H p = some (.ins C dx fs)) (c : Cls K C) (n : NoAttr K C f) (hl : fs.length < 1000) (e : putF f v fs = gs) (q : ∀ H', Fr [p] H H' → H' p = some (.ins C dx gs) → P H') : rFldS K f (.ref p) v H P :=
  ⟨p, C, dx, fs, rfl, h, c, n, hl, q _ (Fr.put h trivial) (by rw [e]; exact upd_same)⟩
def rFldA (K : PySem.W.Frag) (f : Str) (tv : TE) (rd : V → V → Hp → VK → Prop) (x : V) (σ : L2.St) (H : Hp) (D : Ends) : Prop := ∃ a C dx fs v, x = .ref a ∧ H a = some (.ins C dx fs) ∧ Cls K C ∧ NoAttr K C f ∧ fs.lookup f = some v ∧
  tv σ H fun y H2 => rd v y H2 fun z H3 => ∃ dx' fs', H3 a = some (.ins C dx' fs') ∧ fs'.length < 1000 ∧ D.nx σ (upd H3 a (.ins C dx' (putF f z fs')))
theorem g_flda {f : Str} {rd : V → V → Hp → VK → Prop} (h : ta σ H (fun x H1 => rFldA K f tb rd x σ H1 D)) : sFldAug K ta tb rd f D σ H := h
def rFldB (a C : Addr) (f : Str) (z : V) (H3 : Hp) (P : Hp → Prop) : Prop := ∃ dx' fs', H3 a = some (.ins C dx' fs') ∧ fs'.length < 1000 ∧ P (upd H3 a (.ins C dx' (putF f z fs')))
theorem g_rflda {f : Str} {fs : List (Str × V)} {rd : V → V → Hp → VK → Prop} (h : H p = some (.ins C dx fs)) (c : Cls K C) (n : NoAttr K C f) (l : fs.lookup f = some v) (q : tb σ H fun y H2 => rd v y H2 fun z H3 => rFldB p C f z H3 fun H4 => D.nx σ H4) : rFldA K f tb rd (.ref p) σ H D :=
  ⟨p, C, dx, fs, v, rfl, h, c, n, l, q⟩
theorem g_rfldb {f : Str} {fs gs : List (Str × V)} {P : Hp → Prop} (h : H p = some (.ins C dx fs)) (hl : fs.length < 1000) (e : putF f v fs = gs) (q : ∀ H', Fr [p] H H' → H' p = some (.ins C dx gs) → P H') : rFldB p C f v H P :=
  ⟨dx, fs, h, hl, q _ (Fr.put h trivial) (by rw [e]; exact upd_same)⟩
theorem g_rAdd (h : Q (.int (a + b)) H) : rAdd (.int a) (.int b) H Q := ⟨a, b, rfl, rfl, h⟩
theorem g_rSub (h : Q (.int (a - b)) H) : rSub (.int a) (.int b) H Q := ⟨a, b, rfl, rfl, h⟩
theorem g_mt {m : Str} {sp : Sp} (h : ta σ H (fun x H1 => rMt C m x H1 (as σ H1 fun vs H2 => sp (x :: vs) H2 Q E0))) : tMt C m sp ta as σ H Q := h
theorem g_rmt {m : Str} {fs : List (Str × V)} {P : Prop} (h : H p = some (.ins C dx fs)) (l : fs.lookup m = none) (q : P) : rMt C m (.ref p) H P := ⟨p, dx, fs, rfl, h, l, q⟩
def rMk (C : Addr) (sp : Sp) (vs : List V) (H1 : Hp) (Q : VK) : Prop := ∀ x dx, H1 x = none → H1 dx = none → dx ≠ x →
  sp (.ref x :: vs) (upd (upd H1 dx (.own x)) x (.ins C dx [])) (fun v H2 => v = .non ∧ Q (.ref x) H2) E0
theorem g_mk {sp : Sp} (h : as σ H (fun vs H1 => rMk C sp vs H1 Q)) : tMk C sp as σ H Q := h
theorem g_rmk {sp : Sp} {vs : List V} (k : ∀ x dx H2, H x = none → H dx = none → dx ≠ x → Fr [] H H2 → H2 x = some (.ins C dx []) → H2 dx = some (.own x) → sp (.ref x :: vs) H2 (fun v H3 => v = .non ∧ Q (.ref x) H3) E0) : rMk C sp vs H Q := by
  intro x dx nx nd ne
  refine k x dx _ nx nd ne ?_ upd_same (by rw [upd_ne ne]; exact upd_same)
  have f1 : Fr [] H (upd H dx (.own x)) := Fr.new nd
  exact f1.then0 (Fr.new (by rw [upd_ne ne.symm]; exact nx))
end

/-! ### isinstance against a built-in class -/
theorem kb_NoneType_list : kitB "NoneType" "list" = some false := by decide +kernel
theorem kb_NoneType_tuple : kitB "NoneType" "tuple" = some false := by decide +kernel
theorem kb_NoneType_bool : kitB "NoneType" "bool" = some false := by decide +kernel
theorem kb_NoneType_int : kitB "NoneType" "int" = some false := by decide +kernel
theorem kb_NoneType_str : kitB "NoneType" "str" = some false := by decide +kernel
theorem kb_NoneType_dict : kitB "NoneType" "dict" = some false := by decide +kernel
theorem kb_bool_list : kitB "bool" "list" = some false := by decide +kernel
theorem kb_bool_tuple : kitB "bool" "tuple" = some false := by decide +kernel
theorem kb_bool_bool : kitB "bool" "bool" = some true := by decide +kernel
theorem kb_bool_int : kitB "bool" "int" = some true := by decide +kernel
theorem kb_bool_str : kitB "bool" "str" = some false := by decide +kernel
theorem kb_bool_dict : kitB "bool" "dict" = some false := by decide +kernel
theorem kb_int_list : kitB "int" "list" = some false := by decide +kernel
theorem kb_int_tuple : kitB "int" "tuple" = some false := by decide +kernel
theorem kb_int_bool : kitB "int" "bool" = some false := by decide +kernel
theorem kb_int_int : kitB "int" "int" = some true := by decide +kernel
theorem kb_int_str : kitB "int" "str" = some false := by decide +kernel
theorem kb_int_dict : kitB "int" "dict" = some false := by decide +kernel
theorem kb_str_list : kitB "str" "list" = some false := by decide +kernel
theorem kb_str_tuple : kitB "str" "tuple" = some false := by decide +kernel
theorem kb_str_bool : kitB "str" "bool" = some false := by decide +kernel
theorem kb_str_int : kitB "str" "int" = some false := by decide +kernel
theorem kb_str_str : kitB "str" "str" = some true := by decide +kernel
theorem kb_str_dict : kitB "str" "dict" = some false := by decide +kernel
theorem kb_list_list : kitB "list" "list" = some true := by decide +kernel
theorem kb_list_tuple : kitB "list" "tuple" = some false := by decide +kernel
theorem kb_list_bool : kitB "list" "bool" = some false := by decide +kernel
theorem kb_list_int : kitB "list" "int" = some false := by decide +kernel
theorem kb_list_str : kitB "list" "str" = some false := by decide +kernel
theorem kb_list_dict : kitB "list" "dict" = some false := by decide +kernel
theorem kb_tuple_list : kitB "tuple" "list" = some false := by decide +kernel
theorem kb_tuple_tuple : kitB "tuple" "tuple" = some true := by decide +kernel
theorem kb_tuple_bool : kitB "tuple" "bool" = some false := by decide +kernel
theorem kb_tuple_int : kitB "tuple" "int" = some false := by decide +kernel
theorem kb_tuple_str : kitB "tuple" "str" = some false := by decide +kernel
theorem kb_tuple_dict : kitB "tuple" "dict" = some false := by decide +kernel
theorem kb_dict_list : kitB "dict" "list" = some false := by decide +kernel
theorem kb_dict_tuple : kitB "dict" "tuple" = some false := by decide +kernel
theorem kb_dict_bool : kitB "dict" "bool" = some false := by decide +kernel
theorem kb_dict_int : kitB "dict" "int" = some false := by decide +kernel
theorem kb_dict_str : kitB "dict" "str" = some false := by decide +kernel
theorem kb_dict_dict : kitB "dict" "dict" = some true := by decide +kernel

theorem g_isi {K : PySem.W.Frag} {H : Hp} {Q : VK} {x : V} {a b : String} {r : Bool} (ty : TyX K H x (.type a)) (h : kitB a b = some r) (q : Q (.bl r) H) : rIsi K [x, .ty b] H Q := ⟨x, .ty b, .type a, .type b, r, rfl, .ty b, ty, kit_ty h, q⟩
/-! ### immutable and other data -/
mutual
inductive Da (H : Hp) : V → PyData → Prop
  | non : Da H .non .none
  | bl (b : Bool) : Da H (.bl b) (.bool b)
  | int (i : Int) : Da H (.int i) (.int i)
  | str (x : Str) : Da H (.str x) (.str x)
  | lst {a : Addr} {xs : List V} {ds : List PyData} : H a = some (.lst xs) → xs.length ≤ 1000000 → DaL H xs ds → Da H (.ref a) (.list ds)
  | tup {a : Addr} {xs : List V} {ds : List PyData} : H a = some (.tup xs) → xs.length ≤ 1000000 → DaL H xs ds → Da H (.ref a) (.tuple ds)
inductive DaL (H : Hp) : List V → List PyData → Prop
  | nil : DaL H [] []
  | cons {v : V} {vs : List V} {d : PyData} {ds : List PyData} : Da H v d → DaL H vs ds → DaL H (v :: vs) (d :: ds)
end
/-! how deep -/
mutual
def dp : PyData → Nat
  | .list ds => dpL ds + 1
  | .tuple ds => dpL ds + 1
  | _ => 0
def dpL : List PyData → Nat
  | [] => 0
  | d :: ds => max (dp d) (dpL ds)
end
/-! no list within -/
mutual
def imm : PyData → Bool
  | .list _ => false
  | .tuple ds => immL ds
  | _ => true
def immL : List PyData → Bool
  | [] => true
  | d :: ds => imm d && immL ds
end
theorem DaL.len {H : Hp} : ∀ {vs : List V} {ds : List PyData}, DaL H vs ds → vs.length = ds.length
  | _, _, .nil => rfl
  | _, _, .cons _ t => by rw [List.length_cons, List.length_cons, DaL.len t]
theorem DaL.get {H : Hp} : ∀ {vs : List V} {ds : List PyData} {i : Nat} {v : V}, DaL H vs ds → vs[i]? = some v → ∃ d, ds[i]? = some d ∧ Da H v d
  | _, _, _, _, .nil, e => by simp at e
  | _, _, 0, _, .cons r _, e => by simp at e; subst e; exact ⟨_, rfl, r⟩
  | _, _, i + 1, v, .cons _ t, e => by
    obtain ⟨u, h1, h2⟩ := DaL.get (i := i) (v := v) t (by simpa using e)
    exact ⟨u, by simpa using h1, h2⟩
theorem DaL.get' {H : Hp} : ∀ {vs : List V} {ds : List PyData} {i : Nat} {d : PyData}, DaL H vs ds → ds[i]? = some d → ∃ v, vs[i]? = some v ∧ Da H v d
  | _, _, _, _, .nil, e => by simp at e
  | _, _, 0, _, .cons r _, e => by simp at e; subst e; exact ⟨_, rfl, r⟩
  | _, _, i + 1, v, .cons _ t, e => by
    obtain ⟨u, h1, h2⟩ := DaL.get' (i := i) (d := v) t (by simpa using e)
    exact ⟨u, by simpa using h1, h2⟩
theorem DaL.append {H : Hp} : ∀ {vs ws : List V} {ds es : List PyData}, DaL H vs ds → DaL H ws es → DaL H (vs ++ ws) (ds ++ es)
  | _, _, _, _, .nil, s => s
  | _, _, _, _, .cons r t, s => .cons r (DaL.append t s)
theorem dpL_get : ∀ {ds : List PyData} {i : Nat} {d : PyData}, ds[i]? = some d → dp d ≤ dpL ds
  | [], _, _, e => by simp at e
  | a :: r, 0, d, e => by simp at e; subst e; exact Nat.le_max_left _ _
  | a :: r, i + 1, d, e => Nat.le_trans (dpL_get (ds := r) (i := i) (by simpa using e)) (Nat.le_max_right _ _)
mutual
theorem Da.fr {l : List Addr} {H H' : Hp} (f : Fr l H H') : ∀ (d : PyData) (v : V), Da H v d → imm d = true → Da H' v d
  | .none, _, h, _ => by cases h; exact .non
  | .bool b, _, h, _ => by cases h; exact .bl b
  | .int i, _, h, _ => by cases h; exact .int i
  | .str x, _, h, _ => by cases h; exact .str x
  | .list ds, _, _, i => by simp [imm] at i
  | .tuple ds, _, h, i => by
    cases h with
    | tup e z r => exact .tup (f.tup _ _ e) z (DaL.fr f ds _ r (by simpa [imm] using i))
  | .dict _, _, h, _ => by cases h
theorem DaL.fr {l : List Addr} {H H' : Hp} (f : Fr l H H') : ∀ (ds : List PyData) (vs : List V), DaL H vs ds → immL ds = true → DaL H' vs ds
  | [], _, h, _ => by cases h; exact .nil
  | d :: ds, _, h, i => by
    simp only [immL, Bool.and_eq_true] at i
    cases h with
    | cons r t => exact .cons (Da.fr f d _ r i.1) (DaL.fr f ds _ t i.2)
end
mutual
theorem Da.dp {K : PySem.W.Frag} {H : Hp} : ∀ (d : PyData) (v : V), Da H v d → Dp K H v d
  | .none, _, h => by cases h; exact .non
  | .bool b, _, h => by cases h; exact .bl b
  | .int i, _, h => by cases h; exact .int i
  | .str x, _, h => by cases h; exact .str x
  | .list ds, _, h => by
    cases h with
    | lst e _ r => exact .lst (SqL.of e) (DaL.dp ds _ r)
  | .tuple ds, _, h => by
    cases h with
    | tup e _ r => exact .tup (SqT.of e) (DaL.dp ds _ r)
  | .dict _, _, h => by cases h
theorem DaL.dp {K : PySem.W.Frag} {H : Hp} : ∀ (ds : List PyData) (vs : List V), DaL H vs ds → DpAll K H vs ds
  | [], _, h => by cases h; exact .nil
  | d :: ds, _, h => by
    cases h with
    | cons r t => exact .cons (Da.dp d _ r) (DaL.dp ds _ t)
end
theorem Da.frL {l : List Addr} {H H' : Hp} (f : Fr l H H') {d : PyData} {v : V} (h : Da H v d) (i : imm d = true) : Da H' v d := Da.fr f d v h i
theorem DaL.frL {l : List Addr} {H H' : Hp} (f : Fr l H H') {ds : List PyData} {vs : List V} (h : DaL H vs ds) (i : immL ds = true) : DaL H' vs ds := DaL.fr f ds vs h i
theorem immL_append : ∀ {ds es : List PyData}, immL (ds ++ es) = (immL ds && immL es)
  | [], _ => by simp [immL]
  | d :: ds, es => by simp [immL, immL_append (ds := ds), Bool.and_assoc]
theorem dpL_append : ∀ {ds es : List PyData}, dpL (ds ++ es) = max (dpL ds) (dpL es)
  | [], _ => by simp [dpL]
  | d :: ds, es => by simp [dpL, dpL_append (ds := ds), Nat.max_assoc]

/-! ### loops and comprehensions -/
section
variable {K : PySem.W.Frag} {σ : L2.St} {H H' : Hp} {Q : VK} {D : Ends} {te tl : TE} {tt : TT} {tb : TS} {g : TG} {wi : TI} {ta : TA} {a b : Addr} {xs ys : List V} {vs : List Nat} {J : It}
def ForGo (J : It) (g : TG) (tb : TS) (D : Ends) (σ : L2.St) (H1 : Hp) : Prop := ∃ W : Nat → Nat → L2.St → Hp → Prop, (∃ m, W 0 m σ H1) ∧ ∀ i m σ H, W i m σ H →
  (J.stop i H ∧ D.nx σ H) ∨ (J.go i H ∧ ∃ N : L2.St → Hp → Prop, (∀ σ' H', N σ' H' → ∃ m', m' < m ∧ W (i + 1) m' σ' H') ∧ ∀ x H', J.yld i H x H' → g x σ H' fun σ2 H2 => tb { D with nx := N, ct := N, bk := D.nx } σ2 H2)
theorem g_for (h : wi σ H (fun J H1 => ForGo J g tb D σ H1)) : tFor wi g tb D σ H := h
def LcGo (J : It) (g : TG) (tt : TT) (te : TE) (vs : List Nat) (σ : L2.St) (Q : VK) (H1 : Hp) : Prop := ∀ D, H1 D = none → ∃ W : Nat → Nat → Hp → Prop, (∃ m, W 0 m (upd H1 D (.lst []))) ∧ ∀ i m H, W i m H →
  (J.stop i H ∧ Q (.ref D) H) ∨ (J.go i H ∧ ∃ Nx : Hp → Prop, (∀ H', Nx H' → ∃ m', m' < m ∧ W (i + 1) m' H') ∧ ∀ x H', J.yld i H x H' → g x (wipe σ vs) H' fun σ2 H2 => wipe σ2 vs = wipe σ vs ∧ tt σ2 H2 fun b H3 =>
    if b = true then te σ2 H3 fun y H4 => ∃ acc, H4 D = some (.lst acc) ∧ acc.length < sizeLine ∧ Nx (upd H4 D (.lst (acc ++ [y]))) else Nx H3)
theorem g_lc (h : wi σ H (fun J H1 => LcGo J g tt te vs σ Q H1)) : tLc wi g tt te vs σ H Q := h
variable {R : It → Hp → Prop}
def rItL (K : PySem.W.Frag) (x : V) (H : Hp) (R : It → Hp → Prop) : Prop := ∃ a, x = .ref a ∧ (∃ xs, SqL K H a xs) ∧ R (Itl K a) H
def rItT (K : PySem.W.Frag) (x : V) (H : Hp) (R : It → Hp → Prop) : Prop := ∃ a, x = .ref a ∧ (∃ xs, SqT K H a xs) ∧ R (Itt K a) H
theorem g_iL (h : tl σ H (fun x H1 => rItL K x H1 R)) : iList K tl σ H R := h
theorem g_iT (h : tl σ H (fun x H1 => rItT K x H1 R)) : iTup K tl σ H R := h
theorem g_riL (hS : SqL K H a xs) (h : R (Itl K a) H) : rItL K (.ref a) H R := ⟨a, rfl, ⟨xs, hS⟩, h⟩
theorem g_riT (hS : SqT K H a xs) (h : R (Itt K a) H) : rItT K (.ref a) H R := ⟨a, rfl, ⟨xs, hS⟩, h⟩
def rIt1 (vs : List V) (H : Hp) (R : It → Hp → Prop) : Prop := ∃ j : Int, vs = [.int j] ∧ -(2 ^ 62) ≤ j ∧ j < 2 ^ 62 ∧ R (Itr 0 j.toNat) H
def rIt2 (vs : List V) (H : Hp) (R : It → Hp → Prop) : Prop := ∃ i j : Int, vs = [.int i, .int j] ∧ (-(2 ^ 62) ≤ i ∧ i < 2 ^ 62 ∧ -(2 ^ 62) ≤ j ∧ j < 2 ^ 62) ∧ R (Itr i (j - i).toNat) H
theorem g_i1 (h : ta σ H (fun vs H1 => rIt1 vs H1 R)) : iRng1 ta σ H R := h
theorem g_i2 (h : ta σ H (fun vs H1 => rIt2 vs H1 R)) : iRng2 ta σ H R := h
theorem g_ri1 {j : Int} (h1 : -(2 ^ 62) ≤ j ∧ j < 2 ^ 62) (h : R (Itr 0 j.toNat) H) : rIt1 [.int j] H R := ⟨j, rfl, h1.1, h1.2, h⟩
theorem g_ri2 {i j : Int} (h1 : -(2 ^ 62) ≤ i ∧ i < 2 ^ 62 ∧ -(2 ^ 62) ≤ j ∧ j < 2 ^ 62) (h : R (Itr i (j - i).toNat) H) : rIt2 [.int i, .int j] H R := ⟨i, j, rfl, h1, h⟩
/-- for over a list that stands -/
theorem f_list (Pv : Nat → L2.St → Hp → Prop) (h0 : Pv 0 σ H) (hl : ∀ i σ H, i ≤ xs.length → Pv i σ H → SqL K H a xs)
    (hs : ∀ i x σ H, xs[i]? = some x → Pv i σ H → g x σ H fun σ2 H2 => tb { D with nx := Pv (i + 1), ct := Pv (i + 1), bk := D.nx } σ2 H2) (hd : ∀ σ H, Pv xs.length σ H → D.nx σ H) : ForGo (Itl K a) g tb D σ H := for_list Pv h0 hl hs hd
theorem f_tup (Pv : Nat → L2.St → Hp → Prop) (h0 : Pv 0 σ H) (hl : ∀ i σ H, i ≤ xs.length → Pv i σ H → SqT K H a xs)
    (hs : ∀ i x σ H, xs[i]? = some x → Pv i σ H → g x σ H fun σ2 H2 => tb { D with nx := Pv (i + 1), ct := Pv (i + 1), bk := D.nx } σ2 H2) (hd : ∀ σ H, Pv xs.length σ H → D.nx σ H) : ForGo (Itt K a) g tb D σ H := for_tup Pv h0 hl hs hd
theorem f_range {lo : Int} {n : Nat} (Pv : Nat → L2.St → Hp → Prop) (h0 : Pv 0 σ H)
    (hs : ∀ i σ H, i < n → Pv i σ H → g (.int (lo + i)) σ H fun σ2 H2 => tb { D with nx := Pv (i + 1), ct := Pv (i + 1), bk := D.nx } σ2 H2) (hd : ∀ σ H, Pv n σ H → D.nx σ H) : ForGo (Itr lo n) g tb D σ H := for_range Pv h0 hs hd
/-! a comprehension: what its turn is to reach -/
def lcY (Dl : Addr) (Pv : Nat → List V → Hp → Prop) (i : Nat) (y : V) (H4 : Hp) : Prop := ∃ acc, H4 Dl = some (.lst acc) ∧ acc.length < sizeLine ∧ ∃ acc', upd H4 Dl (.lst (acc ++ [y])) Dl = some (.lst acc') ∧ Pv (i + 1) acc' (upd H4 Dl (.lst (acc ++ [y])))
def lcN (Dl : Addr) (Pv : Nat → List V → Hp → Prop) (i : Nat) (H3 : Hp) : Prop := ∃ acc, H3 Dl = some (.lst acc) ∧ Pv (i + 1) acc H3
theorem lcY_of {Dl : Addr} {Pv : Nat → List V → Hp → Prop} {i : Nat} {y : V} {acc : List V} (h : H Dl = some (.lst acc)) (hl : acc.length < sizeLine) (k : ∀ H5, Fr [Dl] H H5 → H5 Dl = some (.lst (acc ++ [y])) → Pv (i + 1) (acc ++ [y]) H5) : lcY Dl Pv i y H :=
  ⟨acc, h, hl, _, upd_same, k _ (Fr.put h trivial) upd_same⟩
theorem lcN_of {Dl : Addr} {Pv : Nat → List V → Hp → Prop} {i : Nat} {acc : List V} (h : H Dl = some (.lst acc)) (k : Pv (i + 1) acc H) : lcN Dl Pv i H := ⟨acc, h, k⟩
abbrev lcStep (g : TG) (tt : TT) (te : TE) (vs : List Nat) (σ : L2.St) (Dl : Addr) (Pv : Nat → List V → Hp → Prop) (i : Nat) (x : V) (H' : Hp) : Prop :=
  g x (wipe σ vs) H' fun σ2 H2 => wipe σ2 vs = wipe σ vs ∧ tt σ2 H2 fun b H3 => if b = true then te σ2 H3 fun y H4 => lcY Dl Pv i y H4 else lcN Dl Pv i H3
theorem l_list (k : ∀ Dl H0, H Dl = none → Fr [] H H0 → H0 Dl = some (.lst []) → ∃ Pv : Nat → List V → Hp → Prop, Pv 0 [] H0 ∧ (∀ i acc H', Pv i acc H' → SqL K H' a xs) ∧
    (∀ i x acc H', xs[i]? = some x → H' Dl = some (.lst acc) → Pv i acc H' → lcStep g tt te vs σ Dl Pv i x H') ∧ (∀ acc H', H' Dl = some (.lst acc) → Pv xs.length acc H' → Q (.ref Dl) H')) : LcGo (Itl K a) g tt te vs σ Q H := by
  intro Dl hD
  obtain ⟨Pv, p0, pl, ps, pd⟩ := k Dl _ hD (Fr.new hD) upd_same
  exact lc_list (fun i H' => ∃ acc, H' Dl = some (.lst acc) ∧ Pv i acc H') ⟨[], upd_same, p0⟩ (fun i H' _ ⟨acc, _, p⟩ => pl i acc H' p) (fun i x H' hx ⟨acc, hd, p⟩ => ps i x acc H' hx hd p) (fun H' ⟨acc, hd, p⟩ => pd acc H' hd p)
theorem l_tup (k : ∀ Dl H0, H Dl = none → Fr [] H H0 → H0 Dl = some (.lst []) → ∃ Pv : Nat → List V → Hp → Prop, Pv 0 [] H0 ∧ (∀ i acc H', Pv i acc H' → SqT K H' a xs) ∧
    (∀ i x acc H', xs[i]? = some x → H' Dl = some (.lst acc) → Pv i acc H' → lcStep g tt te vs σ Dl Pv i x H') ∧ (∀ acc H', H' Dl = some (.lst acc) → Pv xs.length acc H' → Q (.ref Dl) H')) : LcGo (Itt K a) g tt te vs σ Q H := by
  intro Dl hD
  obtain ⟨Pv, p0, pl, ps, pd⟩ := k Dl _ hD (Fr.new hD) upd_same
  exact lc_tup (fun i H' => ∃ acc, H' Dl = some (.lst acc) ∧ Pv i acc H') ⟨[], upd_same, p0⟩ (fun i H' _ ⟨acc, _, p⟩ => pl i acc H' p) (fun i x H' hx ⟨acc, hd, p⟩ => ps i x acc H' hx hd p) (fun H' ⟨acc, hd, p⟩ => pd acc H' hd p)
theorem l_range {lo : Int} {n : Nat} (k : ∀ Dl H0, H Dl = none → Fr [] H H0 → H0 Dl = some (.lst []) → ∃ Pv : Nat → List V → Hp → Prop, Pv 0 [] H0 ∧
    (∀ i acc H', i < n → H' Dl = some (.lst acc) → Pv i acc H' → lcStep g tt te vs σ Dl Pv i (.int (lo + i)) H') ∧ (∀ acc H', H' Dl = some (.lst acc) → Pv n acc H' → Q (.ref Dl) H')) : LcGo (Itr lo n) g tt te vs σ Q H := by
  intro Dl hD
  obtain ⟨Pv, p0, ps, pd⟩ := k Dl _ hD (Fr.new hD) upd_same
  exact lc_range (fun i H' => ∃ acc, H' Dl = some (.lst acc) ∧ Pv i acc H') ⟨[], upd_same, p0⟩ (fun i H' hi ⟨acc, hd, p⟩ => ps i acc H' hi hd p) (fun H' ⟨acc, hd, p⟩ => pd acc H' hd p)
theorem g_and2 {A B : Prop} (a : A) (b : B) : A ∧ B := ⟨a, b⟩
theorem g_yes {QB : Bool → Hp → Prop} (h : QB true H) : tYes σ H QB := h
/-- a name's slot, ahead of a known one -/
theorem g_tr {x : V} {k : Bool} {QB : Bool → Hp → Prop} (h : TruV K x H k) (q : QB k H) : ∃ k, TruV K x H k ∧ QB k H := ⟨k, h, q⟩
theorem g_ttr {QB : Bool → Hp → Prop} (h : te σ H (fun x H' => ∃ k, TruV K x H' k ∧ QB k H')) : tTr K te σ H QB := h
end
theorem szM {n : Nat} (h : n ≤ 1000000) : n < sizeLine := Nat.lt_of_le_of_lt h (by decide)
theorem szL {n : Nat} (h : n ≤ 1000000) : n ≤ sizeLine := Nat.le_of_lt (szM h)
theorem getI {ns : List Int} {i : Nat} {x : V} (h : (ns.map V.int)[i]? = some x) : ∃ n, x = .int n ∧ ns[i]? = some n ∧ n ∈ ns := by
  rw [List.getElem?_map] at h
  cases e : ns[i]? with
  | none => rw [e] at h; cases h
  | some n => rw [e] at h; exact ⟨n, (Option.some.inj h).symm, rfl, List.mem_of_getElem? e⟩
theorem atI_of {α : Type} {xs : List α} {z : Int} (h0 : 0 ≤ z) (h : z < xs.length) : ∃ v, atI xs z = some v ∧ xs[z.toNat]? = some v := by
  have hk : z.toNat < xs.length := by omega
  have e : ((z.toNat : Nat) : Int) = z := by omega
  have q : xs[z.toNat]? = some xs[z.toNat] := List.getElem?_eq_getElem hk
  have w := atI_nat q
  rw [e] at w
  exact ⟨_, w, q⟩
theorem atI_mem {α : Type} {xs : List α} {z : Int} (h0 : 0 ≤ z) (h : z < xs.length) : ∃ v, atI xs z = some v ∧ v ∈ xs := by
  obtain ⟨v, a, b⟩ := atI_of h0 h
  exact ⟨v, a, List.mem_of_getElem? b⟩
theorem take_more {α : Type} : ∀ {l : List α} {i : Nat} {x : α}, l[i]? = some x → l.take (i + 1) = l.take i ++ [x]
  | [], i, x, h => by simp at h
  | a :: l, 0, x, h => by
    have e : a = x := Option.some.inj h
    subst e
    rfl
  | a :: l, i + 1, x, h => by
    have ih := take_more (l := l) (i := i) (x := x) h
    show a :: l.take (i + 1) = a :: l.take i ++ [x]
    rw [ih]
    rfl
theorem filter_more {α : Type} {l : List α} {i : Nat} {x : α} {f : α → Bool} (h : l[i]? = some x) : (l.take (i + 1)).filter f = (l.take i).filter f ++ (if f x = true then [x] else []) := by
  rw [take_more h, List.filter_append]
  congr 1
  by_cases q : f x = true
  · simp [q]
  · simp [q]
theorem Da.tup1 {H : Hp} {v : V} {ds : List PyData} (h : Da H v (.tuple ds)) : ∃ a xs, v = .ref a ∧ H a = some (.tup xs) ∧ xs.length ≤ 1000000 ∧ DaL H xs ds := by
  cases h with
  | tup e z r => exact ⟨_, _, rfl, e, z, r⟩
theorem Da.lst1 {H : Hp} {v : V} {ds : List PyData} (h : Da H v (.list ds)) : ∃ a xs, v = .ref a ∧ H a = some (.lst xs) ∧ xs.length ≤ 1000000 ∧ DaL H xs ds := by
  cases h with
  | lst e z r => exact ⟨_, _, rfl, e, z, r⟩
theorem DaL.two {H : Hp} {xs : List V} {d e : PyData} (h : DaL H xs [d, e]) : ∃ x y, xs = [x, y] ∧ Da H x d ∧ Da H y e := by
  cases h with
  | cons a t => cases t with
    | cons b u => cases u; exact ⟨_, _, rfl, a, b⟩
theorem DaL.three {H : Hp} {xs : List V} {d e f : PyData} (h : DaL H xs [d, e, f]) : ∃ x y z, xs = [x, y, z] ∧ Da H x d ∧ Da H y e ∧ Da H z f := by
  cases h with
  | cons a t => cases t with
    | cons b u => cases u with
      | cons c u => cases u; exact ⟨_, _, _, rfl, a, b, c⟩
theorem Da.int1 {H : Hp} {v : V} {i : Int} (h : Da H v (.int i)) : v = .int i := by cases h; rfl
theorem Da.str1 {H : Hp} {v : V} {i : Str} (h : Da H v (.str i)) : v = .str i := by cases h; rfl
theorem Da.bl1 {H : Hp} {v : V} {i : Bool} (h : Da H v (.bool i)) : v = .bl i := by cases h; rfl
theorem Da.non1 {H : Hp} {v : V} (h : Da H v .none) : v = .non := by cases h; rfl
theorem DaL.one' {H : Hp} {v : V} {d : PyData} (h : Da H v d) : DaL H [v] [d] := .cons h .nil
theorem immL_get : ∀ {ds : List PyData} {i : Nat} {d : PyData}, immL ds = true → ds[i]? = some d → imm d = true
  | [], _, _, _, e => by simp at e
  | a :: r, 0, d, h, e => by simp at e; subst e; simp [immL] at h; exact h.1
  | a :: r, i + 1, d, h, e => by simp [immL] at h; exact immL_get (ds := r) (i := i) h.2 (by simpa using e)
theorem immL_of : ∀ {ds : List PyData}, (∀ d ∈ ds, imm d = true) → immL ds = true
  | [], _ => rfl
  | a :: r, h => by simp [immL, h a List.mem_cons_self, immL_of (ds := r) fun d hd => h d (List.mem_cons_of_mem _ hd)]
theorem imm_of : ∀ {ds : List PyData}, immL ds = true → ∀ d ∈ ds, imm d = true
  | [], _, d, hd => by cases hd
  | a :: r, h, d, hd => by
    simp only [immL, Bool.and_eq_true] at h
    rcases List.mem_cons.mp hd with e | e
    · rw [e]; exact h.1
    · exact imm_of h.2 d e
theorem dpL_mem : ∀ {ds : List PyData} {d : PyData}, d ∈ ds → dp d ≤ dpL ds
  | [], _, h => by cases h
  | a :: r, d, h => by
    rcases List.mem_cons.mp h with e | e
    · rw [e]; exact Nat.le_max_left _ _
    · exact Nat.le_trans (dpL_mem e) (Nat.le_max_right _ _)
theorem dpL_le {n : Nat} : ∀ {ds : List PyData}, (∀ d ∈ ds, dp d ≤ n) → dpL ds ≤ n
  | [], _ => Nat.zero_le _
  | a :: r, h => Nat.max_le.mpr ⟨h a List.mem_cons_self, dpL_le fun d hd => h d (List.mem_cons_of_mem _ hd)⟩
theorem DaL.ints {H : Hp} : ∀ {xs : List V} {r : List Int}, DaL H xs (r.map .int) → xs = r.map V.int
  | [], [], _ => rfl
  | x :: xs, n :: r, h => by
    cases h with
    | cons a t => rw [a.int1, DaL.ints t]; rfl
  | [], _ :: _, h => by cases h
  | _ :: _, [], h => by cases h
theorem DaL.ofInts {H : Hp} : ∀ (r : List Int), DaL H (r.map V.int) (r.map .int)
  | [] => .nil
  | n :: r => .cons (.int n) (DaL.ofInts r)
theorem DaL.set {H : Hp} : ∀ {vs : List V} {ds : List PyData} {i : Nat} {v : V} {d : PyData}, DaL H vs ds → Da H v d → DaL H (vs.set i v) (ds.set i d)
  | _, _, _, _, _, .nil, _ => .nil
  | _, _, 0, _, _, .cons _ t, q => .cons q t
  | _, _, i + 1, _, _, .cons r t, q => .cons r (DaL.set (i := i) t q)
/-! slices, pop at -/
section
variable {K : PySem.W.Frag} {σ : L2.St} {H H' : Hp} {Q : VK} {te : TE} {tl th : TO} {p : Addr} {xs : List V} {lo hi : Option Int}
theorem g_sl {r : V → Option Int → Option Int → Hp → VK → Prop} (h : te σ H fun x H1 => tl σ H1 fun l H2 => th σ H2 fun u H3 => r x l u H3 Q) : tSl r te tl th σ H Q := h
theorem g_noP {QO : Option Int → Hp → Prop} (h : QO none H) : tNoPart σ H QO := h
def rPart (x : V) (H : Hp) (QO : Option Int → Hp → Prop) : Prop := ∃ i, x = .int i ∧ QO (some i) H
theorem g_part {QO : Option Int → Hp → Prop} (h : te σ H fun x H1 => rPart x H1 QO) : tPart te σ H QO := h
theorem g_rpart {i : Int} {QO : Option Int → Hp → Prop} (h : QO (some i) H) : rPart (.int i) H QO := ⟨i, rfl, h⟩
theorem g_slL (h : SqL K H p xs) (q : ∀ l H', H l = none → Fr [] H H' → H' l = some (.lst (cutV xs lo hi)) → Q (.ref l) H') : rSlL K (.ref p) lo hi H Q := ⟨p, xs, rfl, h, fun l hl => q l _ hl (Fr.new hl) upd_same⟩
theorem g_popAt {i : Int} {y : V} (h : H p = some (.lst xs)) (hl : xs.length ≤ 1000000) (h0 : 0 ≤ i) (hy : xs[i.toNat]? = some y) (q : ∀ H', Fr [p] H H' → H' p = some (.lst (xs.eraseIdx i.toNat)) → Q y H') : rPopAt (.ref p) [.int i] H Q := by
  have hlt := (List.getElem?_eq_some_iff.mp hy).1
  refine ⟨p, xs, i, i.toNat, y, rfl, rfl, h, by omega, by omega, ?_, hy, q _ (Fr.put h trivial) upd_same⟩
  refine (ixN_seq (i := i) ?_).1
  unfold ixN
  rw [if_pos h0, if_pos (by omega)]
end
theorem cut_take {xs : List V} {n : Nat} (h : n ≤ xs.length) : cutV xs none (some (n : Int)) = xs.take n := by
  unfold cutV
  rw [HT.sIx_none, HT.sIx_nat, Nat.min_eq_left h, Nat.sub_zero, List.drop_zero]
theorem DaL.take {H : Hp} : ∀ {xs : List V} {ds : List PyData} (n : Nat), DaL H xs ds → DaL H (xs.take n) (ds.take n)
  | _, _, 0, _ => .nil
  | _, _, n + 1, .nil => .nil
  | _, _, n + 1, .cons a t => .cons a (DaL.take n t)
theorem DaL.erase {H : Hp} : ∀ {xs : List V} {ds : List PyData} (n : Nat), DaL H xs ds → DaL H (xs.eraseIdx n) (ds.eraseIdx n)
  | _, _, _, .nil => .nil
  | _, _, 0, .cons _ t => t
  | _, _, n + 1, .cons a t => .cons a (DaL.erase n t)
/-- a statement that is never reached -/
def tDead : TS := fun _ _ _ => False
theorem ps_dead {X : Cx} {st : Stmt} : PS X st tDead := ⟨fun _ _ _ _ _ _ h => h.elim⟩
end Lw

namespace Lw
open PySem L2
/-! ### tables: plain lists of keys and values -/
section
variable {κ α : Type} [DecidableEq κ]
def lk (m : List (κ × α)) (k : κ) : Option α := (m.find? fun e => decide (e.1 = k)).map (·.2)
def pt (m : List (κ × α)) (k : κ) (v : α) : List (κ × α) := if (m.any fun e => decide (e.1 = k)) = true then m.map (fun e => if e.1 = k then (e.1, v) else e) else m ++ [(k, v)]
def dr (m : List (κ × α)) (k : κ) : List (κ × α) := m.filter fun e => decide (e.1 ≠ k)
/-- a table as the layer's pairs -/
def enD {κ' : Type} (f : κ → κ') (g : α → V) (m : List (κ × α)) : List (κ' × V) := m.map fun e => (f e.1, g e.2)
variable {κ' : Type} [DecidableEq κ'] {f : κ → κ'} {g : α → V}
theorem enD_dec (inj : ∀ a b, f a = f b → a = b) (a b : κ) : decide (f a = f b) = decide (a = b) := by
  by_cases h : a = b
  · subst h; simp
  · rw [decide_eq_false h, decide_eq_false fun q => h (inj _ _ q)]
theorem enD_val (inj : ∀ a b, f a = f b → a = b) (m : List (κ × α)) (k : κ) : valV (enD f g m) (f k) = (lk m k).map g := by
  induction m with
  | nil => rfl
  | cons e r ih =>
    by_cases h : e.1 = k
    · have h1 : valV (enD f g (e :: r)) (f k) = some (g e.2) := valV_pos (p := (f e.1, g e.2)) (by rw [h])
      rw [h1]; simp [lk, List.find?_cons, h]
    · have h1 : valV (enD f g (e :: r)) (f k) = valV (enD f g r) (f k) := valV_neg (p := (f e.1, g e.2)) (fun q => h (inj _ _ q))
      rw [h1, ih]; simp [lk, List.find?_cons, h]
theorem enD_any (inj : ∀ a b, f a = f b → a = b) (m : List (κ × α)) (k : κ) : ((enD f g m).any fun e => decide (e.1 = f k)) = m.any fun e => decide (e.1 = k) := by
  induction m with
  | nil => rfl
  | cons e r ih =>
    show (decide (f e.1 = f k) || (enD f g r).any fun e => decide (e.1 = f k)) = _
    rw [ih, enD_dec inj]
    rfl
theorem enD_put (inj : ∀ a b, f a = f b → a = b) (m : List (κ × α)) (k : κ) (v : α) : putK (enD f g m) (f k) (g v) = enD f g (pt m k v) := by
  unfold putK pt
  rw [enD_any inj]
  by_cases h : (m.any fun e => decide (e.1 = k)) = true
  · rw [if_pos h, if_pos h]
    unfold enD
    rw [List.map_map, List.map_map]
    refine List.map_congr_left fun e _ => ?_
    show (if f e.1 = f k then (f e.1, g v) else (f e.1, g e.2)) = _
    by_cases q : e.1 = k
    · simp [q]
    · rw [if_neg fun z => q (inj _ _ z)]; simp [q]
  · rw [if_neg h, if_neg h]
    unfold enD
    rw [List.map_append]
    rfl
theorem enD_drop (inj : ∀ a b, f a = f b → a = b) (m : List (κ × α)) (k : κ) : dropK (enD f g m) (f k) = enD f g (dr m k) := by
  unfold dropK dr enD
  rw [List.filter_map]
  congr 1
  refine List.filter_congr fun e _ => ?_
  show decide (f e.1 ≠ f k) = decide (e.1 ≠ k)
  by_cases h : e.1 = k
  · simp [h]
  · have : f e.1 ≠ f k := fun q => h (inj _ _ q)
    simp [h, this]
theorem enD_len (m : List (κ × α)) : (enD f g m).length = m.length := by unfold enD; rw [List.length_map]
theorem enD_get {m : List (κ × α)} {i : Nat} {k : κ'} {v : V} (h : (enD f g m)[i]? = some (k, v)) : ∃ e, m[i]? = some e ∧ k = f e.1 ∧ v = g e.2 := by
  unfold enD at h
  rw [List.getElem?_map] at h
  cases q : m[i]? with
  | none => rw [q] at h; cases h
  | some e => rw [q] at h; cases h; exact ⟨e, rfl, rfl, rfl⟩
theorem lk_pt (m : List (κ × α)) (k j : κ) (v : α) : lk (pt m k v) j = if j = k then some v else lk m j := by
  have h := enD_put (f := fun k : κ => k) (g := fun _ : α => V.non) (fun _ _ q => q) m k v
  unfold pt
  induction m with
  | nil =>
    by_cases e : j = k
    · simp [lk, e]
    · have : ¬ k = j := fun q => e q.symm
      simp [lk, e, this]
  | cons e r ih =>
    by_cases hk : e.1 = k
    · have ha : ((e :: r).any fun e => decide (e.1 = k)) = true := by simp [hk]
      rw [if_pos ha]
      by_cases hj : j = k
      · rw [if_pos hj]; simp [lk, List.find?_cons, hk, hj]
      · rw [if_neg hj]
        have hk2 : ¬ k = j := fun q => hj q.symm
        have : ∀ r : List (κ × α), lk (r.map fun e => if e.1 = k then (e.1, v) else e) j = lk r j := by
          intro r
          induction r with
          | nil => rfl
          | cons a t ih2 =>
            by_cases ha : a.1 = k
            · have h1 : ¬ a.1 = j := fun q => hj (q.symm.trans ha)
              simp only [List.map_cons, lk, List.find?_cons, if_pos ha, decide_eq_false h1]
              exact ih2
            · by_cases h1 : a.1 = j
              · simp only [List.map_cons, lk, List.find?_cons, if_neg ha, decide_eq_true h1]
              · simp only [List.map_cons, lk, List.find?_cons, if_neg ha, decide_eq_false h1]
                exact ih2
        exact this (e :: r)
    · have ha : ((e :: r).any fun e => decide (e.1 = k)) = r.any fun e => decide (e.1 = k) := by simp [hk]
      rw [ha]
      have ih' := ih (enD_put (f := fun k : κ => k) (g := fun _ : α => V.non) (fun _ _ q => q) r k v)
      by_cases hb : (r.any fun e => decide (e.1 = k)) = true
      · rw [if_pos hb] at ih' ⊢
        by_cases h1 : e.1 = j
        · have h2 : ¬ j = k := fun q => hk (h1.trans q)
          simp [lk, List.find?_cons, hk, h1, h2]
        · simp only [List.map_cons, if_neg hk, lk, List.find?_cons, decide_eq_false h1] at ih' ⊢
          exact ih'
      · rw [if_neg hb] at ih' ⊢
        by_cases h1 : e.1 = j
        · have h2 : ¬ j = k := fun q => hk (h1.trans q)
          simp [lk, List.find?_cons, h1, h2]
        · simp only [List.cons_append, lk, List.find?_cons, decide_eq_false h1] at ih' ⊢
          exact ih'
end
/-! ### readings of dicts -/
section
variable {K : PySem.W.Frag} {σ : L2.St} {H H' : Hp} {Q : VK} {D : Ends} {td ty te tv tx : TE} {tt : TT} {tb t : TS} {g : TG} {a b d q : Addr} {o : Obj} {kvs : List (List Key × V)} {k : List Key} {v x y z : V} {vs : List Nat} {R : It → Hp → Prop} {as : TA}
/-- may be read as a dict with tuple keys -/
abbrev RdT (H : Hp) (a : Addr) (kvs : List (List Key × V)) : Prop := Rd H a (.dT kvs)
def rDG (x y : V) (H : Hp) (Q : VK) : Prop := ∃ a v, x = .ref a ∧ DGet H a y (some v) ∧ Q v H
theorem g_dget (h : td σ H fun x H1 => ty σ H1 fun y H2 => rDG x y H2 Q) : tDGet td ty σ H Q := h
theorem g_rdg (h : Rd H a (.dT kvs)) (e : H b = some (.tup (k.map kV))) (l : valV kvs k = some v) (c : Q v H) : rDG (.ref a) (.ref b) H Q := ⟨a, v, rfl, .inr ⟨kvs, k, b, h, rfl, e, l.symm⟩, c⟩
def rDI (y x : V) (H : Hp) (Q : VK) : Prop := ∃ a o, x = .ref a ∧ DGet H a y o ∧ Q (.bl o.isSome) H
def rDNI (y x : V) (H : Hp) (Q : VK) : Prop := ∃ a o, x = .ref a ∧ DGet H a y o ∧ Q (.bl (!o.isSome)) H
theorem g_din (h : ty σ H fun y H1 => td σ H1 fun x H2 => rDI y x H2 Q) : tDIn ty td σ H Q := h
theorem g_dnin (h : ty σ H fun y H1 => td σ H1 fun x H2 => rDNI y x H2 Q) : tDNotIn ty td σ H Q := h
theorem g_rdi (h : Rd H a (.dT kvs)) (e : H b = some (.tup (k.map kV))) (c : Q (.bl (valV kvs k).isSome) H) : rDI (.ref b) (.ref a) H Q := ⟨a, _, rfl, .inr ⟨kvs, k, b, h, rfl, e, rfl⟩, c⟩
theorem g_rdni (h : Rd H a (.dT kvs)) (e : H b = some (.tup (k.map kV))) (c : Q (.bl (!(valV kvs k).isSome)) H) : rDNI (.ref b) (.ref a) H Q := ⟨a, _, rfl, .inr ⟨kvs, k, b, h, rfl, e, rfl⟩, c⟩
def rDP (x y v : V) (H : Hp) (P : Hp → Prop) : Prop := ∃ a H4, x = .ref a ∧ DPut H a y v H4 ∧ P H4
theorem g_dput (h : tv σ H fun v H1 => td σ H1 fun x H2 => ty σ H2 fun y H3 => rDP x y v H3 fun H4 => D.nx σ H4) : sDPut td ty tv D σ H := h
theorem g_rdp {P : Hp → Prop} (h : H a = some (.dT kvs)) (e : H b = some (.tup (k.map kV))) (hl : kvs.length < sizeLine) (c : ∀ H', Fr [a] H H' → H' a = some (.dT (putK kvs k v)) → P H') : rDP (.ref a) (.ref b) v H P :=
  ⟨a, _, rfl, .inr ⟨kvs, k, b, h, rfl, e, hl, rfl⟩, c _ (Fr.put h trivial) upd_same⟩
def rDG2 (x : V) (H : Hp) (P : Addr → Prop) : Prop := ∃ a, x = .ref a ∧ IsD H a ∧ P a
def rDO (a : Addr) (y z : V) (H : Hp) (Q : VK) : Prop := ∃ o, DGet H a y o ∧ Q (o.getD z) H
theorem g_dget2 (h : td σ H fun x H1 => rDG2 x H1 fun a => ty σ H1 fun y H2 => tx σ H2 fun z H3 => rDO a y z H3 Q) : tDGet2 td ty tx σ H Q := h
theorem g_dget1 (h : td σ H fun x H1 => rDG2 x H1 fun a => ty σ H1 fun y H2 => rDO a y .non H2 Q) : tDGet1 td ty σ H Q := h
theorem g_rdg2 {P : Addr → Prop} (h : Rd H a (.dT kvs)) (c : P a) : rDG2 (.ref a) H P := ⟨a, rfl, .inr ⟨kvs, h⟩, c⟩
theorem g_dgo (h : Rd H a (.dT kvs)) (e : H b = some (.tup (k.map kV))) (c : Q (((valV kvs k)).getD z) H) : rDO a (.ref b) z H Q := ⟨_, .inr ⟨kvs, k, b, h, rfl, e, rfl⟩, c⟩
theorem g_dnew (c : ∀ p H', H p = none → Fr [] H H' → H' p = some (.dT []) → Q (.ref p) H') : tDNewT σ H Q := fun p hp => c p _ hp (Fr.new hp) upd_same
theorem g_dnewK (c : ∀ p H', H p = none → Fr [] H H' → H' p = some (.dK []) → Q (.ref p) H') : tDNewK σ H Q := fun p hp => c p _ hp (Fr.new hp) upd_same
/-! a walk over a dict, which is locked meanwhile -/
def rUl (d : Addr) (od : Obj) (u : HO) (H : Hp) (P : Hp → Prop) : Prop := H d = some (.frz od u) ∧ P (upd H d u)
theorem g_unl {u : HO} {P : Hp → Prop} (h : H d = some (.frz o u)) (c : ∀ H', Fr [d] H H' → H' d = some u → P H') : rUl d o u H P := ⟨h, c _ (Fr.put h trivial) upd_same⟩
theorem g_lock {u : HO} (h : H d = some u) (m : Mut (some u)) (nt : notTup u) (c : ∀ od H0, Fr [d] H H0 → H0 d = some (.frz od u) → t ⟨fun σ' H' => rUl d od u H' fun H2 => D.nx σ' H2, fun v H' => rUl d od u H' fun H2 => D.rt v H2,
    fun σ' H' => rUl d od u H' fun H2 => D.bk σ' H2, fun σ' H' => rUl d od u H' fun H2 => D.ct σ' H2⟩ σ H0) : tLock t D σ H := ⟨d, u, h, m, fun od => c od _ (Fr.put h nt) upd_same⟩
theorem g_lockE {u : HO} (h : H d = some u) (m : Mut (some u)) (nt : notTup u) (c : ∀ od H0, Fr [d] H H0 → H0 d = some (.frz od u) → te σ H0 fun v H' => rUl d od u H' fun H2 => Q v H2) : tLockE te σ H Q := ⟨d, u, h, m, fun od => c od _ (Fr.put h nt) upd_same⟩
def rKy (x : V) (H : Hp) (R : It → Hp → Prop) : Prop := ∃ d o, x = .ref d ∧ ((∃ kvs, H d = some (.frz o (.dK kvs)) ∧ R (Itk d o kvs) H) ∨ ∃ kvs, H d = some (.frz o (.dT kvs)) ∧ R (Itkt d o kvs) H)
theorem g_iK (h : td σ H fun x H1 => rKy x H1 R) : iKeys td σ H R := h
theorem g_rkt (h : H d = some (.frz o (.dT kvs))) (c : R (Itkt d o kvs) H) : rKy (.ref d) H R := ⟨d, o, rfl, .inr ⟨kvs, h, c⟩⟩
theorem f_keysT (Pv : Nat → L2.St → Hp → Prop) (h0 : Pv 0 σ H) (hl : ∀ i σ H, i ≤ kvs.length → Pv i σ H → H d = some (.frz o (.dT kvs)))
    (hs : ∀ i k v q σ H, kvs[i]? = some (k, v) → H q = some (.tup (k.map kV)) → Pv i σ H → g (.ref q) σ H fun σ2 H2 => tb { D with nx := Pv (i + 1), ct := Pv (i + 1), bk := D.nx } σ2 H2) (hd : ∀ σ H, Pv kvs.length σ H → D.nx σ H) : ForGo (Itkt d o kvs) g tb D σ H :=
  for_it walk_keysT Pv h0 hl (fun i x σ H H' hi p y => by obtain ⟨rfl, k, v, q, h1, rfl, h3⟩ := y; exact hs i k v q σ _ h1 h3 p) hd
theorem l_keysT (c : ∀ Dl H0, H Dl = none → Fr [] H H0 → H0 Dl = some (.lst []) → ∃ Pv : Nat → List V → Hp → Prop, Pv 0 [] H0 ∧ (∀ i acc H', Pv i acc H' → H' d = some (.frz o (.dT kvs))) ∧
    (∀ i k v q acc H', kvs[i]? = some (k, v) → H' q = some (.tup (k.map kV)) → H' Dl = some (.lst acc) → Pv i acc H' → lcStep g tt te vs σ Dl Pv i (.ref q) H') ∧ (∀ acc H', H' Dl = some (.lst acc) → Pv kvs.length acc H' → Q (.ref Dl) H')) : LcGo (Itkt d o kvs) g tt te vs σ Q H := by
  intro Dl hD
  obtain ⟨Pv, p0, pl, ps, pd⟩ := c Dl _ hD (Fr.new hD) upd_same
  exact lc_it walk_keysT (fun i H' => ∃ acc, H' Dl = some (.lst acc) ∧ Pv i acc H') ⟨[], upd_same, p0⟩ (fun i H' _ ⟨acc, _, p⟩ => pl i acc H' p) (fun i x H1 H' hi ⟨acc, hd, p⟩ y => by obtain ⟨rfl, k, v, q, h1, rfl, h3⟩ := y; exact ps i k v q acc _ h1 h3 hd p) (fun H' ⟨acc, hd, p⟩ => pd acc H' hd p)
/-! targets that are tuples -/
def rGt (K : PySem.W.Frag) (n : Nat) (t : TGs) (v : V) (σ : L2.St) (H : Hp) (P : L2.St → Hp → Prop) : Prop := ∃ a xs, v = .ref a ∧ SqT K H a xs ∧ xs.length = n ∧ t xs σ H P
theorem g_gtup {n : Nat} {t : TGs} {P : L2.St → Hp → Prop} {xs : List V} (h : SqT K H a xs) (hl : xs.length = n) (c : t xs σ H P) : gTup K n t (.ref a) σ H P := ⟨a, xs, rfl, h, hl, c⟩
theorem g_gcons {t : TG} {u : TGs} {P : L2.St → Hp → Prop} {r : List V} (c : t v σ H fun σ' H' => u r σ' H' P) : gCons t u (v :: r) σ H P := ⟨v, r, rfl, c⟩
theorem g_gnil {P : L2.St → Hp → Prop} (c : P σ H) : gNil [] σ H P := ⟨rfl, c⟩
/-! enumerate, zip: a new pair a turn -/
def rEn (K : PySem.W.Frag) (vs : List V) (H : Hp) (R : It → Hp → Prop) : Prop := ∃ a xs, vs = [.ref a] ∧ SqL K H a xs ∧ R (Ite K a) H
theorem g_iE (h : as σ H fun vs H1 => rEn K vs H1 R) : iEnum K as σ H R := h
theorem g_ren {xs : List V} (h : SqL K H a xs) (c : R (Ite K a) H) : rEn K [.ref a] H R := ⟨a, xs, rfl, h, c⟩
theorem f_enum {xs : List V} (Pv : Nat → L2.St → Hp → Prop) (h0 : Pv 0 σ H) (hl : ∀ i σ H, i ≤ xs.length → Pv i σ H → SqL K H a xs)
    (hs : ∀ i x T σ H H', xs[i]? = some x → Pv i σ H → H T = none → Fr [] H H' → H' T = some (.tup [.int (i : Nat), x]) → g (.ref T) σ H' fun σ2 H2 => tb { D with nx := Pv (i + 1), ct := Pv (i + 1), bk := D.nx } σ2 H2) (hd : ∀ σ H, Pv xs.length σ H → D.nx σ H) : ForGo (Ite K a) g tb D σ H :=
  for_it walk_enum Pv h0 hl (fun i x σ H H' hi p y => by
    obtain ⟨T, u, w, rfl, h2, rfl, h4, h5⟩ := y
    cases h4
    exact hs i w T σ H _ h5 p h2 (Fr.new h2) upd_same) hd
def rZp (K : PySem.W.Frag) (vs : List V) (H : Hp) (R : It → Hp → Prop) : Prop := ∃ a b xs ys, vs = [.ref a, .ref b] ∧ SqL K H a xs ∧ SqL K H b ys ∧ R (Itz K a b) H
theorem g_iZ (h : as σ H fun vs H1 => rZp K vs H1 R) : iZip K as σ H R := h
theorem g_rzp {xs ys : List V} (h : SqL K H a xs) (h2 : SqL K H b ys) (c : R (Itz K a b) H) : rZp K [.ref a, .ref b] H R := ⟨a, b, xs, ys, rfl, h, h2, c⟩
theorem f_zip {xs ys : List V} {n : Nat} (hn : n = min xs.length ys.length) (Pv : Nat → L2.St → Hp → Prop) (h0 : Pv 0 σ H) (hl : ∀ i σ H, i ≤ n → Pv i σ H → SqL K H a xs ∧ SqL K H b ys)
    (hs : ∀ i x y T σ H H', xs[i]? = some x → ys[i]? = some y → Pv i σ H → H T = none → Fr [] H H' → H' T = some (.tup [x, y]) → g (.ref T) σ H' fun σ2 H2 => tb { D with nx := Pv (i + 1), ct := Pv (i + 1), bk := D.nx } σ2 H2) (hd : ∀ σ H, Pv n σ H → D.nx σ H) : ForGo (Itz K a b) g tb D σ H :=
  for_it (walk_zip hn) Pv h0 hl (fun i x σ H H' hi p y => by
    obtain ⟨T, u, w, rfl, h2, rfl, h4, h5⟩ := y
    exact hs i u w T σ H _ h4 h5 p h2 (Fr.new h2) upd_same) hd
/-- sum, min of a list of ints -/
theorem g_sum {ns : List Int} (h : SqL K H a (ns.map V.int)) (c : Q (.int ns.sum) H) : rSum K [.ref a] H Q := ⟨a, ns, rfl, h, c⟩
theorem g_all {bs : List Bool} (h : SqL K H a (bs.map V.bl)) (c : Q (.bl (bs.all id)) H) : rAll K [.ref a] H Q := ⟨a, bs, rfl, h, c⟩
theorem g_any {bs : List Bool} (h : SqL K H a (bs.map V.bl)) (c : Q (.bl (bs.any id)) H) : rAny K [.ref a] H Q := ⟨a, bs, rfl, h, c⟩
theorem g_catT {xs ys : List V} (h : SqT K H a xs) (h2 : SqT K H b ys) (hne : xs ≠ []) (hl : xs.length + ys.length ≤ sizeLine) (c1 : ys = [] → Q (.ref a) H) (c2 : ys ≠ [] → ∀ p H', H p = none → Fr [] H H' → H' p = some (.tup (xs ++ ys)) → Q (.ref p) H') : rCatT K (.ref a) (.ref b) H Q :=
  ⟨a, b, xs, ys, rfl, rfl, h, h2, hne, hl, c1, fun e p hp => c2 e p _ hp (Fr.new hp) upd_same⟩
theorem g_cat {xs ys : List V} (h : H a = some (.lst xs)) (h2 : H b = some (.lst ys)) (hl : xs.length + ys.length ≤ sizeLine) (c : ∀ p H', H p = none → Fr [] H H' → H' p = some (.lst (xs ++ ys)) → Q (.ref p) H') : rCat (.ref a) (.ref b) H Q :=
  ⟨a, b, xs, ys, rfl, rfl, h, h2, hl, fun p hp => c p _ hp (Fr.new hp) upd_same⟩
end
/-! ### sorted of data -/
section
open PySem.W in
/-- sorted(xs), xs a list that reads as data of one shape: a new list of the same values in their order -/
def rSortD (K : PySem.W.Frag) : List V → Hp → VK → Prop := fun vs H Q => ∃ (a : Addr) (bs : List (V × PyData)), vs = [V.ref a] ∧ SqL K H a (bs.map (·.1)) ∧ (∀ b ∈ bs, Da H b.1 b.2) ∧ AllAlike (bs.map (·.2)) ∧ Sortable (bs.map (·.2)) ∧ (∀ b ∈ bs, b.2.depth ≤ 60) ∧
  ∀ p, H p = none → Q (.ref p) (upd H p (.lst ((bs.mergeSort (dataLe false (·.2))).map (·.1))))
variable {X : Cx}
open PySem.W in
theorem eachV {s : Shared} {H : Hp} {pins : List (Addr × Obj)} {σ : L2.St} (I : Inv X pins σ H s) : ∀ (bs : List (V × PyData)) (us : List Value), Vals (bs.map (·.1)) us → (∀ b ∈ bs, Da H b.1 b.2) → EachIs (fun u (b : V × PyData) => RelV b.1 u) us bs ∧ EachIs (fun u (b : V × PyData) => ∃ as, PySem.Reads s.heap u b.2 as) us bs
  | [], us, r, _ => by cases r; exact ⟨.nil, .nil⟩
  | b :: bs, us, r, h => by
    cases r with
    | cons r1 r2 =>
      obtain ⟨e1, e2⟩ := eachV I bs _ r2 fun c hc => h c (List.mem_cons_of_mem _ hc)
      exact ⟨.cons r1 e1, .cons (Dp.reads I _ _ _ (Da.dp (K := X.K) _ _ (h b List.mem_cons_self)) r1) e2⟩
open PySem.W in
theorem eachB : ∀ {us : List Value} {bs : List (V × PyData)}, EachIs (fun u (b : V × PyData) => RelV b.1 u) us bs → Vals (bs.map (·.1)) us
  | _, _, .nil => .nil
  | _, _, .cons r t => .cons r (eachB t)
open PySem.W in
theorem b_sortD (hu : X.A.units + 64 < cLine) : CallR X (.builtin "sorted") (rSortD X.K) := by
  intro pins s σ H vs us Q I r h
  obtain ⟨a, bs, rfl, hs, hd, ha, hk, hdp, q⟩ := h
  obtain ⟨its, rv, hl, hz⟩ := I.list hs
  obtain ⟨u, rfl, ru⟩ := vals1 r
  obtain rfl : u = Value.ref a := ru
  obtain ⟨e1, e2⟩ := eachV I bs its rv hd
  rw [List.length_map] at hz
  refine sorted_data (enc := fun b : V × PyData => b.2) hl.isList e1 e2 ha hk hz (fun b hb => ?_) fun out ho eo => ?_
  · have := hdp b hb
    show X.A.units + 2 + b.2.depth < cLine
    omega
  · obtain ⟨ep, he'⟩ := PyProof.Rows.sortedAll_at s.heap its out.toArray
    have vo := eachB eo
    have hlen : ((bs.mergeSort (dataLe false fun b : V × PyData => b.2)).map (·.1)).length ≤ sizeLine := by rw [List.length_map, List.length_mergeSort]; exact hz
    exact ⟨.ref _, upd H (s.heap.objs.size + 1) (.lst _), I.laid (t' := s.toks) (fun _ _ => PyProof.Rows.sortedAll_old) (Nat.le_succ _) ⟨hlen, out, ep, vo, he'⟩, rfl, q _ (I.hok.fresh (Nat.le_succ _))⟩
open PySem.W in
theorem g_sortD {K : PySem.W.Frag} {H : Hp} {Q : VK} {a : Addr} {bs : List (V × PyData)} (hs : SqL K H a (bs.map (·.1))) (hd : ∀ b ∈ bs, Da H b.1 b.2) (ha : AllAlike (bs.map (·.2))) (hk : Sortable (bs.map (·.2))) (hdp : ∀ b ∈ bs, b.2.depth ≤ 60)
    (c : ∀ p H', H p = none → Fr [] H H' → H' p = some (.lst ((bs.mergeSort (dataLe false (·.2))).map (·.1))) → Q (.ref p) H') : rSortD K [.ref a] H Q := ⟨a, bs, rfl, hs, hd, ha, hk, hdp, fun p hp => c p _ hp (Fr.new hp) upd_same⟩
/-- the sorted data -/
def srt (ds : List PyData) : List PyData := ds.mergeSort (PySem.W.dataLe false id)
end
/-! ### d.clear() of a dict with tuple keys -/
section
variable {X : Cx}
def rDClearT : V → List V → Hp → VK → Prop := fun x vs H Q => ∃ (a : Addr) (kvs : List (List Key × V)), x = .ref a ∧ vs = [] ∧ H a = some (.dT kvs) ∧ Q .non (upd H a (.dT []))
theorem mtd_clearT : MtR X "dict.clear" rDClearT := by
  intro pins s σ H x vs v us Q I rx rv h
  obtain ⟨a, kvs, rfl, rfl, e, q⟩ := h
  obtain rfl : v = Value.ref a := rx
  cases rv
  obtain ⟨z, hd, xs, rel, o, es, ep, ho, hx, hdat, hes, _⟩ := dt_of I.hok e
  have raw : s.heap.DictRaw a es ep := ⟨o, ho, hx, hdat⟩
  have hsz : es.size ≤ sizeLine := by
    have e1 := congrArg List.length hes
    rw [Array.length_toList, List.length_map] at e1
    rw [e1, ← Paired.length rel]
    exact z
  refine call_meetsIn PySem.F.slot_dict_clear raw.typeIs PySem.F.entry_dict_clear (PySem.F.args_dict_clear_1 _) (meets_dict_clear_raw a) ⟨es, ep, raw, hsz, fun h' raw' hs => ?_⟩
  obtain ⟨o', ho', hx', hdat'⟩ := raw'
  exact ⟨.non, _, d_write (t' := s.toks) (ob := .dT []) I (by rw [e]; exact True.intro) hs ⟨o', ho'⟩ ⟨Nat.zero_le _, hd, [], .nil, o', #[], ep + 1, ho', hx', hdat', rfl, List.nodup_nil⟩, rfl, q⟩
theorem pe_dclearT {o : Expr} {to : TE} {apos cpos : Pos} (ho : PE X o to) (hbase : attributeBase o "clear" X.env (eval o X.env) = eval o X.env := by rfl) (hline : (apos.endLine == cpos.line) = true := by rfl) : PE X (.Call (.Attribute o "clear" apos) [] [] cpos) (tBM0 X.K "dict" rDClearT to) :=
  pe_bm0 PySem.F.plainAttrs_dict PySem.F.slot_dict_clear PySem.F.type_dict_clear mtd_clearT ho hbase hline
theorem g_bmT {K : PySem.W.Frag} {H : Hp} {a : Addr} {kvs : List (List Key × V)} {P : Prop} (h : H a = some (.dT kvs)) (q : P) : rBM K "dict" (.ref a) H P := ⟨.inr (.inr (.inl ⟨rfl, .inr ⟨kvs, h⟩⟩)), q⟩
theorem g_clearT {H : Hp} {a : Addr} {kvs : List (List Key × V)} {Q : VK} (h : H a = some (.dT kvs)) (q : ∀ H', Fr [a] H H' → H' a = some (.dT []) → Q .non H') : rDClearT (.ref a) [] H Q := ⟨a, kvs, rfl, rfl, h, q _ (Fr.put h trivial) upd_same⟩
end
/-! ### list(range(a, b)) -/
section
variable {σ : L2.St} {H : Hp} {Q : VK} {ta tb : TE} {a b : Int}
def rLRg (x y : V) (H : Hp) (Q : VK) : Prop := ∃ i j, x = .int i ∧ y = .int j ∧ RgOk i j ∧ ∀ q, H q = none → Q (.ref q) (upd H q (.lst (rgV i j)))
theorem g_lstRg (h : ta σ H fun x H1 => tb σ H1 fun y H2 => rLRg x y H2 Q) : tLstRg (tRg2 ta tb) σ H Q := h
theorem g_rlrg (ok : RgOk a b) (c : ∀ p H', H p = none → Fr [] H H' → H' p = some (.lst (rgV a b)) → Q (.ref p) H') : rLRg (.int a) (.int b) H Q := ⟨a, b, rfl, rfl, ok, fun p hp => c p _ hp (Fr.new hp) upd_same⟩
end
/-! ### what sorted gives, as data -/
section
open PySem.W
theorem dle_total {β : Type} (k : β → PyData) : TotalLe (dataLe false k) := sortLe_total _ false _
theorem srt_perm (ds : List PyData) : (srt ds).Perm ds := List.mergeSort_perm ds _
theorem srt_srt (ds : List PyData) : srt (srt ds) = srt ds := List.mergeSort_of_pairwise (sort_pairwise (dle_total id) ds)
theorem srt_map {β : Type} (f : β → PyData) (l : List β) : (l.mergeSort (dataLe false f)).map f = srt (l.map f) := sort_maps f fun _ _ _ _ => rfl
theorem DaL.zip {H : Hp} : ∀ {xs : List V} {ds : List PyData}, DaL H xs ds → (xs.zip ds).map (·.1) = xs ∧ (xs.zip ds).map (·.2) = ds ∧ ∀ b ∈ xs.zip ds, Da H b.1 b.2
  | _, _, .nil => ⟨rfl, rfl, fun _ h => nomatch h⟩
  | _, _, .cons a t => by
    obtain ⟨h1, h2, h3⟩ := DaL.zip t
    refine ⟨by simp [h1], by simp [h2], fun b hb => ?_⟩
    rcases List.mem_cons.mp hb with e | e
    · rw [e]; exact a
    · exact h3 b e
theorem DaL.ofBs {H : Hp} : ∀ {bs : List (V × PyData)}, (∀ b ∈ bs, Da H b.1 b.2) → DaL H (bs.map (·.1)) (bs.map (·.2))
  | [], _ => .nil
  | b :: bs, h => .cons (h b List.mem_cons_self) (DaL.ofBs fun c hc => h c (List.mem_cons_of_mem _ hc))
theorem g_srt {K : PySem.W.Frag} {H : Hp} {Q : VK} {a : Addr} {xs : List V} {ds : List PyData} (hs : SqL K H a xs) (hd : DaL H xs ds) (ha : AllAlike ds) (hk : Sortable ds) (hdp : ∀ d ∈ ds, d.depth ≤ 60)
    (c : ∀ p H' ys, H p = none → Fr [] H H' → H' p = some (.lst ys) → DaL H ys (srt ds) → Q (.ref p) H') : rSortD K [.ref a] H Q := by
  obtain ⟨z1, z2, z3⟩ := hd.zip
  refine g_sortD (bs := xs.zip ds) (by rw [z1]; exact hs) z3 (by rw [z2]; exact ha) (by rw [z2]; exact hk) (fun b hb => hdp b.2 (by rw [← z2]; exact List.mem_map.mpr ⟨b, hb, rfl⟩)) fun p H' hp f e => ?_
  refine c p H' _ hp f e ?_
  have q := DaL.ofBs (H := H) (bs := (xs.zip ds).mergeSort (dataLe false (·.2))) fun b hb => z3 b ((List.mergeSort_perm _ _).mem_iff.mp hb)
  rw [srt_map (fun b : V × PyData => b.2), z2] at q
  exact q
theorem alike_len : ∀ (n : Nat) (xs ys : List Int), alikeAll (xs.map .int) (ys.map .int) = true := fun _ => alike_ints
end
/-! ### chains, min, in, options -/
abbrev tChainT (r r' : R2) (ta tb tc : TE) : TT := tTest (tChain r r' ta tb tc)
section
variable {K : PySem.W.Frag} {σ : L2.St} {H : Hp} {Q : VK} {ta tb tc : TE} {r r' : R2} {y : V} {k : Bool} {p : Addr} {ns : List Int} {m : Int}
def rCh (r' : R2) (tc : TE) (y : V) (σ : L2.St) (Q : VK) (z : V) (H3 : Hp) : Prop := ∃ k, z = .bl k ∧ (if k = true then tc σ H3 fun w' H4 => r' y w' H4 Q else Q (.bl false) H3)
theorem g_chain (h : ta σ H fun x H1 => tb σ H1 fun y H2 => r x y H2 fun z H3 => rCh r' tc y σ Q z H3) : tChain r r' ta tb tc σ H Q := h
theorem g_rch (h : if k = true then tc σ H fun w' H4 => r' y w' H4 Q else Q (.bl false) H) : rCh r' tc y σ Q (.bl k) H := ⟨k, rfl, h⟩
theorem g_min (h : SqL K H p (ns.map V.int)) (hl : 0 < ns.length) (q : ∀ m, m ∈ ns → (∀ y, y ∈ ns → m ≤ y) → Q (.int m) H) : rMin K [.ref p] H Q := ⟨p, ns, rfl, h, hl, q⟩
theorem inI : inV (.int m) (ns.map V.int) = decide (m ∈ ns) := by
  unfold inV
  induction ns with
  | nil => rfl
  | cons a t ih =>
    rw [List.map_cons, List.any_cons, ih]
    show ((a == m) || decide (m ∈ t)) = _
    by_cases h : a = m
    · simp [h]
    · have h2 : ¬ m = a := fun z => h z.symm
      simp [h, h2]
theorem flatI : (ns.map V.int).all flatV = true := List.all_eq_true.mpr fun x hx => by obtain ⟨n, _, rfl⟩ := List.mem_map.mp hx; rfl
theorem g_ninI (h : SqL K H p (ns.map V.int)) (q : Q (.bl (!decide (m ∈ ns))) H) : rIn K true (.int m) (.ref p) H Q := ⟨p, _, rfl, .inl h, rfl, flatI, by rw [inI]; exact q⟩
theorem g_neB {a b : Bool} (h : Q (.bl (!decide (a = b))) H) : rNe (.bl a) (.bl b) H Q := ⟨rfl, by rw [show decide (V.bl a = V.bl b) = decide (a = b) from by simp]; exact h⟩
end
/-- a number, or none -/
def optV : Option Int → V
  | none => .non
  | some r => .int r
def optD : Option Int → PyData
  | none => .none
  | some r => .int r
section
variable {H : Hp} {Q : VK} {o : Option Int} {r : Int}
theorem g_isO (h : Q (.bl (decide (o = none))) H) : rIsNon (optV o) .non H Q := g_isN (by cases o <;> simpa [optV] using h)
theorem g_notO (h : Q (.bl (!decide (o = none))) H) : rIsNotNon (optV o) .non H Q := g_notN (by cases o <;> simpa [optV] using h)
theorem g_eqO (h : Q (.bl (decide (o = some r))) H) : rEq (optV o) (.int r) H Q := by
  cases o with
  | none => exact ⟨rfl, by simpa [optV] using h⟩
  | some q => exact g_eqI (by simpa using h)
theorem DaL.opts : ∀ {R : List (Option Int)}, DaL H (R.map optV) (R.map optD)
  | [] => .nil
  | none :: R => .cons .non DaL.opts
  | some r :: R => .cons (.int r) DaL.opts
theorem imm_opts {R : List (Option Int)} : immL (R.map optD) = true := immL_of fun d hd => by obtain ⟨o, _, rfl⟩ := List.mem_map.mp hd; cases o <;> rfl
theorem dp_opts {R : List (Option Int)} : dpL (R.map optD) ≤ 1 := dpL_le fun d hd => by obtain ⟨o, _, rfl⟩ := List.mem_map.mp hd; cases o <;> exact Nat.zero_le _
end
end Lw

namespace Toy
open PySem L2 Lw

/-! ### the steps as one word each -/
local macro_rules | `(tactic| walk_at "ne") => `(tactic| first
  | assumption | exact Ne.symm (by assumption)
  | ((refine' ne_of_none ?h (by assumption)); (first | (case h => walk_at "fact") | fail))
  | ((refine' Ne.symm (ne_of_none ?h (by assumption))); (first | (case h => walk_at "fact") | fail))
  | walk_at "ne2")
local macro_rules | `(tactic| walk_at "nin") => `(tactic| first | exact nin0 | (refine nin1 ?_ ?_; walk_at "ne"; walk_at "nin") | assumption)
local macro_rules | `(tactic| walk_at "fact") => `(tactic| first
  | assumption
  | ((refine' Fr.tupAt (by assumption) ?h); (first | (case h => walk_at "fact") | fail))
  | ((refine' Fr.at0 (by assumption) ?h); (first | (case h => walk_at "fact") | fail))
  | ((refine' Fr.at (by assumption) ?h ?k); (first | (case h => walk_at "fact") | fail); (first | (case k => walk_at "nin") | fail)))
local macro_rules | `(tactic| walk_at "none") => `(tactic| first
  | assumption
  | ((refine' Fr.freeL (by assumption) ?h ?k); (first | (case h => walk_at "none") | fail); (first | (case k => walk_at "nin") | fail)))
local macro_rules | `(tactic| walk_at "mem") => `(tactic| first
  | assumption | exact List.mem_cons_self
  | (refine List.mem_cons_of_mem _ ?_; walk_at "mem"))
local macro_rules | `(tactic| walk_at "frn") => `(tactic| first
  | exact frn0
  | (refine frn1 ?_ ?_; (first | exact Or.inl (by walk_at "mem") | exact Or.inr (by walk_at "none")); walk_at "frn"))
local macro_rules | `(tactic| walk_at "fr") => `(tactic| first
  | assumption
  | exact Fr.refl
  | ((refine' Fr.own ?h (by assumption) ?k); (first | (case h => walk_at "fr") | fail); (first | (case k => walk_at "frn") | fail))
  | (refine Fr.of0 ?_; walk_at "fr"))
local macro_rules | `(tactic| walk_at "sz") => `(tactic| first | exact szM (by omega) | exact szM (by simp only [List.length_map, List.length_append, List.length_cons, List.length_nil]; omega))
local macro_rules | `(tactic| walk_at "sql") => `(tactic| first
  | assumption
  | exact SqL.of (by walk_at "fact")
  | ((refine' Fr.sql (by assumption) ?h ?k); (first | (case h => walk_at "sql") | fail); (first | (case k => walk_at "nin") | fail)))
local macro_rules | `(tactic| walk_at "sqt") => `(tactic| first
  | assumption
  | exact SqT.of (by walk_at "fact"))
local macro_rules | `(tactic| walk_at "ty") => `(tactic| first
  | assumption
  | exact TyX.base TyOf.non
  | exact TyX.base (TyOf.int _)
  | exact TyX.base (TyOf.bl _)
  | exact TyX.base (TyOf.str _)
  | exact TyX.base (TyOf.lst (by walk_at "fact"))
  | exact TyX.base (TyOf.tup (by walk_at "fact"))
  | exact TyX.base (TyOf.dK (by walk_at "fact"))
  | exact TyX.base (TyOf.dT (by walk_at "fact")))
local macro_rules | `(tactic| walk_at "kb") => `(tactic| first | exact kb_NoneType_list | exact kb_NoneType_tuple | exact kb_NoneType_bool | exact kb_NoneType_int | exact kb_NoneType_str | exact kb_NoneType_dict | exact kb_bool_list | exact kb_bool_tuple | exact kb_bool_bool | exact kb_bool_int | exact kb_bool_str | exact kb_bool_dict | exact kb_int_list | exact kb_int_tuple | exact kb_int_bool | exact kb_int_int | exact kb_int_str | exact kb_int_dict | exact kb_str_list | exact kb_str_tuple | exact kb_str_bool | exact kb_str_int | exact kb_str_str | exact kb_str_dict | exact kb_list_list | exact kb_list_tuple | exact kb_list_bool | exact kb_list_int | exact kb_list_str | exact kb_list_dict | exact kb_tuple_list | exact kb_tuple_tuple | exact kb_tuple_bool | exact kb_tuple_int | exact kb_tuple_str | exact kb_tuple_dict | exact kb_dict_list | exact kb_dict_tuple | exact kb_dict_bool | exact kb_dict_int | exact kb_dict_str | exact kb_dict_dict)
local macro_rules | `(tactic| walk_at "new") => `(tactic| intro _ _ _ _ _)
local macro_rules | `(tactic| walk_at "go1") => `(tactic| first
  | with_reducible refine g_seq ?_
  | with_reducible refine g_asg ?_
  | with_reducible refine g_name ?_
  | with_reducible refine g_drop ?_
  | with_reducible refine g_ret ?_
  | with_reducible refine g_for ?_
  | with_reducible refine g_lc ?_
  | with_reducible refine g_iL ?_
  | with_reducible refine g_iT ?_
  | with_reducible refine g_i1 ?_
  | with_reducible refine g_i2 ?_
  | with_reducible refine g_yes ?_
  | with_reducible refine g_ttr ?_
  | ((with_reducible refine' g_riL ?h ?_); (first | (case h => walk_at "sql") | fail))
  | ((with_reducible refine' g_riT ?h ?_); (first | (case h => walk_at "sqt") | fail))
  | ((with_reducible refine' g_ri1 ?h ?_); (first | (case h => (first | exact ⟨by decide, by decide⟩ | exact ⟨by omega, by omega⟩ | exact ⟨by simp only [List.length_map]; omega, by simp only [List.length_map]; omega⟩)) | fail))
  | ((with_reducible refine' g_ri2 ?h ?_); (first | (case h => (first | exact ⟨by decide, by decide, by decide, by decide⟩ | exact ⟨by omega, by omega, by omega, by omega⟩)) | fail))
  | with_reducible refine g_retN ?_
  | with_reducible refine g_next ?_
  | with_reducible refine g_cont ?_
  | with_reducible refine g_brk ?_
  | with_reducible refine g_ifs ?_
  | with_reducible refine g_test ?_
  | with_reducible refine g_tb ?_
  | with_reducible refine g_and ?_
  | with_reducible refine g_or ?_
  | with_reducible refine g_not ?_
  | with_reducible refine g_andV ?_
  | with_reducible refine g_orV ?_
  | with_reducible refine g_notV ?_
  | with_reducible refine g_ifE ?_
  | ((with_reducible refine' g_var ?h ?_); (first | (case h => exact rfl) | fail))
  | with_reducible refine g_c ?_
  | with_reducible refine g_op ?_
  | with_reducible refine g_cb ?_
  | with_reducible refine g_cl ?_
  | with_reducible refine g_nil ?_
  | with_reducible refine g_cons ?_
  | with_reducible refine g_tup ?_
  | with_reducible refine g_lst ?_
  | with_reducible refine g_fld ?_
  | with_reducible refine g_sfld ?_
  | with_reducible refine g_sub1 ?_
  | with_reducible refine g_flda ?_
  | with_reducible refine g_rAdd ?_
  | with_reducible refine g_rSub ?_
  | ((with_reducible refine' g_rfldb ?h ?l ?e ?_); (first | (case h => walk_at "fact") | fail); (first | (case l => exact Nat.le_of_ble_eq_true rfl) | fail); (first | (case e => exact rfl) | fail); intro _ _ _)
  | with_reducible refine g_mt ?_
  | with_reducible refine g_mk ?_
  | ((with_reducible refine g_rmk ?_); intro _ _ _ _ _ _ _ _ _)
  | with_reducible refine g_bm ?_
  | with_reducible refine g_bm0 ?_
  | with_reducible refine g_bl ?_
  | with_reducible refine g_add ?_
  | with_reducible refine g_sub ?_
  | with_reducible refine g_lt ?_
  | with_reducible refine g_le ?_
  | with_reducible refine g_gt ?_
  | with_reducible refine g_ge ?_
  | with_reducible refine g_eqI ?_
  | with_reducible refine g_neI ?_
  | with_reducible refine g_eqS ?_
  | with_reducible refine g_neS ?_
  | with_reducible refine g_eqB ?_
  | with_reducible refine g_isN ?_
  | with_reducible refine g_notN ?_
  | with_reducible refine g_max2 ?_
  | with_reducible refine g_min2 ?_
  | with_reducible refine g_ipI ?_
  | with_reducible refine g_iteT ?_
  | with_reducible refine g_iteF ?_
  | with_reducible refine g_iteNT ?_
  | with_reducible refine g_iteNF ?_
  | ((with_reducible refine' g_aug ?h ?_); (first | (case h => exact rfl) | fail))
  | ((with_reducible refine' g_mod ?h ?_); (first | (case h => (first | decide | omega | assumption | (simp only [List.length_map]; omega))) | fail))
  | ((with_reducible refine' g_div ?h ?_); (first | (case h => (first | exact ⟨by decide, by decide⟩ | assumption)) | fail))
  | ((with_reducible refine' g_pow ?h ?_); (first | (case h => (first | exact ⟨by decide, by decide, by decide⟩ | assumption)) | fail))
  | ((with_reducible refine' g_mul ?h ?_); (first | (case h => (first | exact Or.inr ⟨by decide, by decide⟩ | exact Or.inl ⟨by decide, by decide⟩ | exact Or.inr ⟨by omega, by omega⟩ | exact Or.inl ⟨by omega, by omega⟩ | assumption)) | fail))
  | ((with_reducible refine' g_newT ?h ?_); (first | (case h => exact Nat.le_of_ble_eq_true rfl) | fail); walk_at "new")
  | ((with_reducible refine' g_newL ?h ?_); (first | (case h => exact Nat.le_of_ble_eq_true rfl) | fail); walk_at "new")
  | ((with_reducible refine' g_lenL ?h ?_); (first | (case h => walk_at "sql") | fail))
  | ((with_reducible refine' g_lenT ?h ?_); (first | (case h => walk_at "sqt") | fail))
  | ((with_reducible refine' g_ixL ?h ?k ?_); (first | (case h => walk_at "sql") | fail); (first | (case k => exact rfl) | fail))
  | ((with_reducible refine' g_ixT ?h ?k ?_); (first | (case h => walk_at "sqt") | fail); (first | (case k => exact rfl) | fail))
  | ((with_reducible refine' g_listL ?h ?_); (first | (case h => walk_at "sql") | fail); walk_at "new")
  | ((with_reducible refine' g_listT ?h ?_); (first | (case h => walk_at "sqt") | fail); walk_at "new")
  | ((with_reducible refine' g_tupL ?h ?_); (first | (case h => walk_at "sql") | fail); walk_at "new")
  | ((with_reducible refine' g_bmL ?h ?_); (first | (case h => walk_at "fact") | fail))
  | ((with_reducible refine' g_isi ?h ?k ?_); (first | (case h => walk_at "ty") | fail); (first | (case k => walk_at "kb") | fail))
  | ((with_reducible refine' g_append ?h ?l ?_); (first | (case h => walk_at "fact") | fail); (first | (case l => walk_at "sz") | fail); intro _ _ _)
  | ((with_reducible refine' g_rmt ?h ?l ?_); (first | (case h => walk_at "fact") | fail); (first | (case l => exact rfl) | fail))
  | with_reducible refine g_sl ?_
  | with_reducible refine g_noP ?_
  | with_reducible refine g_part ?_
  | with_reducible refine g_rpart ?_
  | ((with_reducible refine' g_slL ?h ?_); (first | (case h => walk_at "sql") | fail); walk_at "new")
  | walk_at "go2"
  | walk_at "go3"
  | walk_at "own")
local macro_rules | `(tactic| walk_at "go") => `(tactic| repeat walk_at "go1")
local macro_rules | `(tactic| walk_at "rdt") => `(tactic| first
  | exact Or.inl (by walk_at "fact")
  | exact Or.inr ⟨_, by walk_at "fact"⟩)
local macro_rules | `(tactic| walk_at "go2") => `(tactic| first
  | with_reducible refine g_dget ?_
  | with_reducible refine g_din ?_
  | with_reducible refine g_dnin ?_
  | with_reducible refine g_dput ?_
  | with_reducible refine g_dget2 ?_
  | with_reducible refine g_dget1 ?_
  | with_reducible refine g_iK ?_
  | with_reducible refine g_iE ?_
  | with_reducible refine g_iZ ?_
  | with_reducible refine g_gcons ?_
  | with_reducible refine g_chain ?_
  | with_reducible refine g_rch ?_
  | with_reducible refine g_isO ?_
  | with_reducible refine g_notO ?_
  | with_reducible refine g_eqO ?_
  | with_reducible refine g_neB ?_
  | ((with_reducible refine' g_ninI ?h ?_); (first | (case h => walk_at "sql") | fail))
  | with_reducible refine g_gnil ?_
  | with_reducible refine g_lstRg ?_
  | ((with_reducible refine' g_gtup ?h ?l ?_); (first | (case h => walk_at "sqt") | fail); (first | (case l => exact rfl) | fail))
  | ((with_reducible refine g_dnew ?_); walk_at "new")
  | ((with_reducible refine g_dnewK ?_); walk_at "new")
  | ((with_reducible refine' g_unl ?h ?_); (first | (case h => walk_at "fact") | fail); intro _ _ _)
  | ((with_reducible refine' g_rdg2 ?h ?_); (first | (case h => walk_at "rdt") | fail))
  | ((with_reducible refine' g_rkt ?h ?_); (first | (case h => walk_at "fact") | fail))
  | ((with_reducible refine' g_ren ?h ?_); (first | (case h => walk_at "sql") | fail))
  | ((with_reducible refine' g_rzp ?h ?k ?_); (first | (case h => walk_at "sql") | fail); (first | (case k => walk_at "sql") | fail))
  | ((with_reducible refine' g_bmT ?h ?_); (first | (case h => walk_at "fact") | fail))
  | ((with_reducible refine' g_clearT ?h ?_); (first | (case h => walk_at "fact") | fail); intro _ _ _)
  | ((with_reducible refine' g_rlrg ?h ?_); (first | (case h => exact RgOk.of_le (by omega) (by omega) (by omega) (by omega)) | fail); walk_at "new"))

def top (i : Nat) : Stmt := PySem.Challenge.pw_manydoors_k05_whole_housings.main.body.getD i (.Pass ⟨0, 0, 0, 0⟩)
abbrev s_is_integer : Stmt := top 4
abbrev s_is_from : Stmt := top 5
abbrev s_nights_of : Stmt := top 6
abbrev s_meet : Stmt := top 7
abbrev s_check_room : Stmt := top 8
abbrev s_check_given : Stmt := top 9
abbrev s_housing : Stmt := top 10
abbrev s_Lmixed : Stmt := top 12
abbrev s_Lnumbers : Stmt := top 13
abbrev s_Ldraw : Stmt := top 14
abbrev s_Lequal : Stmt := top 15
abbrev s_Lall_equal : Stmt := top 16
abbrev s_Lsetup : Stmt := top 17
abbrev s_Lstay : Stmt := top 18
abbrev s_Lmeet : Stmt := top 19
abbrev s_Lfits : Stmt := top 21
abbrev s_Lstays : Stmt := top 20
abbrev s_Lorder : Stmt := top 22
abbrev s_Lhoused : Stmt := top 23
abbrev s_Lgiven : Stmt := top 24
abbrev s_law : Stmt := top 25
/-- where the classes stand -/
structure Ad where
  none_ : Unit := ()
structure Txt (K : PySem.W.Frag) (mg : Str → Option Value) (A : Ad) : Prop where
  b_isinstance : mg "isinstance" = none
  b_int : mg "int" = none
  b_bool : mg "bool" = none
  b_list : mg "list" = none
  b_range : mg "range" = none
  b_max : mg "max" = none
  b_min : mg "min" = none
  b_len : mg "len" = none
  b_enumerate : mg "enumerate" = none
  b_sorted : mg "sorted" = none
  b_tuple : mg "tuple" = none
  b_str : mg "str" = none
def spLaw (K : PySem.W.Frag) : Sp := fun vs H Q _ => ∃ x0, vs = [x0] ∧ ∃ (a : Addr) (ns : List Int), x0 = .ref a ∧ SqL K H a (ns.map V.int) ∧ ns.length ≤ 63 ∧ ∀ H', Q (.bl true) H'

section
variable {P : Program} {w : World} {K : PySem.W.Frag} {mg : Str → Option Value} {base : Heap} {A : Ad}
def P_Lmixed (K : PySem.W.Frag) (A : Ad) (x0 x1 : V) (H : Hp) (Q : VK) : Prop := ∃ a b : Int, x0 = .int a ∧ x1 = .int b ∧ ∀ n : Int, 0 ≤ n → n < 2147483647 → Q (.int n) H
def sp_Lmixed (K : PySem.W.Frag) (A : Ad) : Sp := fun vs H Q _ => ∃ x0 x1, vs = [x0, x1] ∧ P_Lmixed K A x0 x1 H Q
theorem c_Lmixed {K : PySem.W.Frag} {A : Ad} {x0 x1 : V} {H : Hp} {Q : VK} {E : XK} (h : P_Lmixed K A x0 x1 H Q) : sp_Lmixed K A [x0, x1] H Q E := ⟨_, _, rfl, h⟩
theorem sc_Lmixed : FnScope ["_law_number", "_law_k", "_law_step"] ["_law_number", "_law_k"] (defScope s_Lmixed) := ⟨rfl, rfl, rfl, by decide +kernel, rfl, by decide +kernel, by decide +kernel⟩
def t_Lmixed (K : PySem.W.Frag) (A : Ad) : TS :=
  (tSeq (tAsg (tOp oMod (tOp oAdd (tOp oAdd (tOp oMul (tVar 0) (tC (.int 48271))) (tOp oMul (tVar 1) (tC (.int 69621)))) (tC (.int 12345))) (tC (.int 2147483647))) (gName 2))
    (tRet (tOp oMod (tOp oAdd (tOp oMul (tVar 2) (tOp oAdd (tOp oDiv (tVar 2) (tC (.int 65536))) (tC (.int 3)))) (tVar 1)) (tC (.int 2147483647)))))
theorem pu_Lmixed (T : Txt K mg A) {x0 x1 : V} {H : Hp} {Q : VK} (h : P_Lmixed K A x0 x1 H Q) : t_Lmixed K A { nx := fun _ H' => Q .non H', rt := Q } [some x0, some x1, none] H := by
  obtain ⟨a, b, rfl, rfl, k⟩ := h
  unfold t_Lmixed
  walk_at "go"
  exact k _ (Int.emod_nonneg _ (by decide)) (Int.emod_lt_of_pos _ (by decide))
theorem ok_Lmixed {f : Addr} {fd : FuncData} (F : Fun K "_law_mixed" "_law_mixed" s_Lmixed f fd) (T : Txt K mg A)  : FnOk P w K mg base CX0 (1) f fd ["_law_number", "_law_k"] (sp_Lmixed K A) := by
  refine F.ok sc_Lmixed (fun vs H Q E h => ?_) (fun cdv Ar outer s H vs Q E hr h => ⟨t_Lmixed K A, ?_, ?_⟩)
  · obtain ⟨x0, x1, rfl, _⟩ := h
    rfl
  · have hu := hu_of hr
    exact (pss_cons (ps_set (i := 2) sc_Lmixed.nd rfl (Or.inl rfl) (pe_op o_mod (pe_op o_add (pe_op o_add (pe_op o_mul (pv 0) pe_int) (pe_op o_mul (pv 1) pe_int)) pe_int) pe_int))
    (pss_one (ps_ret (pe_op o_mod (pe_op o_add (pe_op o_mul (pv 2) (pe_op o_add (pe_op o_div (pv 2) pe_int) pe_int)) (pv 1)) pe_int))))
  · obtain ⟨x0, x1, rfl, h⟩ := h
    exact pu_Lmixed T h
def Sml (ms : List Int) : Prop := ∀ m ∈ ms, 0 ≤ m ∧ m < 1000000
theorem Sml.snoc {ms : List Int} (h : Sml ms) (z : Int) : Sml (ms ++ [z % 1000000]) := fun m hm => by
  rcases List.mem_append.mp hm with q | q
  · exact h m q
  · rw [List.mem_singleton.mp q]; exact ⟨Int.emod_nonneg _ (by decide), Int.emod_lt_of_pos _ (by decide)⟩
def P_Lnumbers (K : PySem.W.Frag) (A : Ad) (x0 : V) (H : Hp) (Q : VK) : Prop := ∃ (a : Addr) (ns : List Int), x0 = .ref a ∧ SqL K H a (ns.map V.int) ∧ ns.length ≤ 63 ∧
  ∀ (l : Addr) (ms : List Int) (H' : Hp), H l = none → Fr [] H H' → H' l = some (.lst (ms.map V.int)) → Sml ms → ms.length ≤ 10000 → Q (.ref l) H'
def sp_Lnumbers (K : PySem.W.Frag) (A : Ad) : Sp := fun vs H Q _ => ∃ x0, vs = [x0] ∧ P_Lnumbers K A x0 H Q
theorem c_Lnumbers {K : PySem.W.Frag} {A : Ad} {x0 : V} {H : Hp} {Q : VK} {E : XK} (h : P_Lnumbers K A x0 H Q) : sp_Lnumbers K A [x0] H Q E := ⟨_, rfl, h⟩
theorem sc_Lnumbers : FnScope ["_law_script", "_law_numbers_here", "_law_cell", "_law_rest", "_law_k"] ["_law_script"] (defScope s_Lnumbers) := ⟨rfl, rfl, rfl, by decide +kernel, rfl, by decide +kernel, by decide +kernel⟩
def t_Lnumbers (K : PySem.W.Frag) (A : Ad) : TS :=
  (tSeq (tAsg (tLst tNil) (gName 1))
    (tSeq (tFor (iList K (tVar 0)) (gName 2) (tIfS (tTest (tOp cGe (tVar 2) (tOp oPow (tC (.int 10)) (tC (.int 18))))) (tSeq (tAsg (tVar 2) (gName 3))
    (tFor (iRng1 (tCons (tC (.int 60)) tNil)) (gName 4) (tIfS (tTest (tOp cGt (tVar 3) (tC (.int 0)))) (tSeq (tDrop (tBM K "list" rAppend (tVar 1) (tCons (tOp oMod (tVar 3) (tC (.int 1000000))) tNil)))
    (tAsg (tOp oDiv (tVar 3) (tC (.int 1000000))) (gName 3))) tNext))) (tSeq (tDrop (tBM K "list" rAppend (tVar 1) (tCons (tOp oMod (tVar 2) (tC (.int 1000000))) tNil)))
    (tFor (iRng1 (tCons (tC (.int 5)) tNil)) (gName 4) (tDrop (tBM K "list" rAppend (tVar 1) (tCons (tOp oMod (tCl (sp_Lmixed K A) (tCons (tCl (sp_Lmixed K A) (tCons (tOp oMod (tVar 2) (tC (.int 2147483647))) (tCons (tVar 4) tNil))) (tCons (tOp oAdd (tVar 4) (tC (.int 7))) tNil))) (tC (.int 1000000))) tNil)))))))
    (tRet (tVar 1))))
theorem pu_Lnumbers (T : Txt K mg A) {x0 : V} {H : Hp} {Q : VK} (h : P_Lnumbers K A x0 H Q) : t_Lnumbers K A { nx := fun _ H' => Q .non H', rt := Q } [some x0, none, none, none, none] H := by
  obtain ⟨a, ns, rfl, hS, hl, k⟩ := h
  unfold t_Lnumbers
  walk_at "go"
  rename_i l H0 nl f0 e0
  refine f_list (xs := ns.map V.int) (fun i σ H' => ∃ (ms : List Int) (v1 v2 v3 : Option V), σ = [some (.ref a), some (.ref l), v1, v2, v3] ∧ Fr [] H H' ∧ H' l = some (.lst (ms.map V.int)) ∧ Sml ms ∧ ms.length ≤ 60 * i)
    ⟨[], none, none, none, rfl, f0, e0, fun _ q => (nomatch q), Nat.zero_le _⟩ ?_ ?_ ?_
  · rintro i σ H' _ ⟨ms, v1, v2, v3, rfl, f, e, s, hm⟩
    exact f.sql hS nin0
  · rintro i x σ H1 hx ⟨ms, v1, v2, v3, rfl, f1, e1, s1, hm⟩
    obtain ⟨n, rfl, hn, hmem⟩ := getI hx
    have hi : i < 63 := Nat.lt_of_lt_of_le ((List.getElem?_eq_some_iff.mp hn).1) hl
    walk_at "go"
    refine g_ite (fun c => ?_) (fun c => ?_)
    · walk_at "go"
      refine f_range (lo := 0) (n := 60) (fun j σ H' => ∃ (ms : List Int) (r : Int) (v3 : Option V), σ = [some (.ref a), some (.ref l), some (.int n), some (.int r), v3] ∧ Fr [] H H' ∧ H' l = some (.lst (ms.map V.int)) ∧ Sml ms ∧ ms.length ≤ 60 * i + j)
        ⟨ms, n, v3, rfl, f1, e1, s1, by omega⟩ ?_ ?_
      · rintro j σ H2 hj ⟨ms2, r, v3, rfl, f2, e2, s2, hm2⟩
        walk_at "go"
        refine g_ite (fun c => ?_) (fun c => ?_)
        · walk_at "go"
          rename_i H3 f3 e3
          exact ⟨ms2 ++ [r % 1000000], _, _, rfl, f2.own1 f3 nl, by rw [e3, List.map_append] <;> rfl, s2.snoc r, by rw [List.length_append]; exact Nat.add_le_add_right hm2 1⟩
        · walk_at "go"
          exact ⟨ms2, _, _, rfl, f2, e2, s2, by omega⟩
      · rintro σ H2 ⟨ms2, r, v3, rfl, f2, e2, s2, hm2⟩
        exact ⟨ms2, _, _, _, rfl, f2, e2, s2, by omega⟩
    · walk_at "go"
      rename_i H3 f3 e3
      refine f_range (lo := 0) (n := 5) (fun j σ H' => ∃ (ms : List Int) (v2 v3 : Option V), σ = [some (.ref a), some (.ref l), some (.int n), v2, v3] ∧ Fr [] H H' ∧ H' l = some (.lst (ms.map V.int)) ∧ Sml ms ∧ ms.length ≤ 60 * i + 1 + j)
        ⟨ms ++ [n % 1000000], v2, v3, rfl, f1.own1 f3 nl, by rw [e3, List.map_append] <;> rfl, s1.snoc n, by rw [List.length_append]; exact Nat.add_le_add_right hm 1⟩ ?_ ?_
      · rintro j σ H4 hj ⟨ms2, v2, v3, rfl, f4, e4, s4, hm4⟩
        walk_at "go"
        refine c_Lmixed ⟨_, _, rfl, rfl, fun z _ _ => ?_⟩
        walk_at "go"
        refine c_Lmixed ⟨_, _, rfl, rfl, fun z2 _ _ => ?_⟩
        walk_at "go"
        rename_i H5 f5 e5
        exact ⟨ms2 ++ [z2 % 1000000], _, _, rfl, f4.own1 f5 nl, by rw [e5, List.map_append] <;> rfl, s4.snoc z2, by rw [List.length_append]; exact Nat.add_le_add_right hm4 1⟩
      · rintro σ H4 ⟨ms2, v2, v3, rfl, f4, e4, s4, hm4⟩
        exact ⟨ms2, _, _, _, rfl, f4, e4, s4, by omega⟩
  · rintro σ H1 ⟨ms, v1, v2, v3, rfl, f1, e1, s1, hm⟩
    walk_at "go"
    rw [List.length_map] at hm
    exact k l ms H1 nl f1 e1 s1 (by omega)
theorem ok_Lnumbers {f : Addr} {fd : FuncData} (F : Fun K "_law_numbers" "_law_numbers" s_Lnumbers f fd) (T : Txt K mg A) (c_Lmixed : Cal P w K mg base "_law_mixed" 1 ["_law_number", "_law_k"] (sp_Lmixed K A)) : FnOk P w K mg base CX0 (2) f fd ["_law_script"] (sp_Lnumbers K A) := by
  refine F.ok sc_Lnumbers (fun vs H Q E h => ?_) (fun cdv Ar outer s H vs Q E hr h => ⟨t_Lnumbers K A, ?_, ?_⟩)
  · obtain ⟨x0, rfl, _⟩ := h
    rfl
  · have hu := hu_of hr
    exact (pss_cons (ps_set (i := 1) sc_Lnumbers.nd rfl (Or.inl rfl) (pe_lst pa_nil))
    (pss_cons (ps_for PassesOwn.never rfl (pi_list (pv 0)) (pg_name (i := 2) sc_Lnumbers.nd rfl (Or.inl rfl)) (pss_one (ps_if (pt_cmpR c_ge (pv 2) (pe_op o_pow pe_int pe_int) (nomark _)) (pss_cons (ps_set (i := 3) sc_Lnumbers.nd rfl (Or.inl rfl) (pv 2))
    (pss_one (ps_for PassesOwn.never rfl (pi_range1 rfl T.b_range (pa_cons pe_int pa_nil)) (pg_name (i := 4) sc_Lnumbers.nd rfl (Or.inl rfl)) (pss_one (ps_if (pt_cmpR c_gt (pv 3) pe_int (nomark _)) (pss_cons (ps_expr (pe_bm PySem.F.plainAttrs_list PySem.F.slot_list_append PySem.F.type_list_append mt_append (pv 1) (pa_cons (pe_op o_mod (pv 3) pe_int) pa_nil)))
    (pss_one (ps_set (i := 3) sc_Lnumbers.nd rfl (Or.inl rfl) (pe_op o_div (pv 3) pe_int)))) pss_nil))))) (pss_cons (ps_expr (pe_bm PySem.F.plainAttrs_list PySem.F.slot_list_append PySem.F.type_list_append mt_append (pv 1) (pa_cons (pe_op o_mod (pv 2) pe_int) pa_nil)))
    (pss_one (ps_for PassesOwn.never rfl (pi_range1 rfl T.b_range (pa_cons pe_int pa_nil)) (pg_name (i := 4) sc_Lnumbers.nd rfl (Or.inl rfl)) (pss_one (ps_expr (pe_bm PySem.F.plainAttrs_list PySem.F.slot_list_append PySem.F.type_list_append mt_append (pv 1) (pa_cons (pe_op o_mod (pe_cl c_Lmixed (hr.mono (by first | decide | omega)) (by rfl) (pa_cons (pe_cl c_Lmixed (hr.mono (by first | decide | omega)) (by rfl) (pa_cons (pe_op o_mod (pv 2) pe_int) (pa_cons (pv 4) pa_nil))) (pa_cons (pe_op o_add (pv 4) pe_int) pa_nil))) pe_int) pa_nil))))))))))
    (pss_one (ps_ret (pv 1)))))
  · obtain ⟨x0, rfl, h⟩ := h
    exact pu_Lnumbers T h
/-- the draws: a list of the numbers' list and a place -/
def Draws (H : Hp) (d l : Addr) : Prop := ∃ (ms : List Int) (k : Int), H d = some (.lst [.ref l, .int k]) ∧ H l = some (.lst (ms.map V.int)) ∧ Sml ms ∧ ms.length ≤ 10000 ∧ 0 ≤ k
theorem Draws.fr {H H' : Hp} {d l : Addr} {m : List Addr} (h : Draws H d l) (f : Fr m H H') (n1 : d ∉ m) (n2 : l ∉ m) : Draws H' d l := by
  obtain ⟨ms, k, h1, h2, h3⟩ := h
  exact ⟨ms, k, f.at h1 n1, f.at h2 n2, h3⟩
def P_Ldraw (K : PySem.W.Frag) (A : Ad) (x0 : V) (H : Hp) (Q : VK) : Prop := ∃ (d l : Addr), x0 = .ref d ∧ Draws H d l ∧
  ∀ (n : Int) (H' : Hp), 0 ≤ n → n < 1000000 → Fr [d] H H' → Draws H' d l → Q (.int n) H'
def sp_Ldraw (K : PySem.W.Frag) (A : Ad) : Sp := fun vs H Q _ => ∃ x0, vs = [x0] ∧ P_Ldraw K A x0 H Q
theorem c_Ldraw {K : PySem.W.Frag} {A : Ad} {x0 : V} {H : Hp} {Q : VK} {E : XK} (h : P_Ldraw K A x0 H Q) : sp_Ldraw K A [x0] H Q E := ⟨_, rfl, h⟩
theorem sc_Ldraw : FnScope ["_law_draws", "_law_at", "_law_first"] ["_law_draws"] (defScope s_Ldraw) := ⟨rfl, rfl, rfl, by decide +kernel, rfl, by decide +kernel, by decide +kernel⟩
def t_Ldraw (K : PySem.W.Frag) (A : Ad) : TS :=
  (tSeq (tAsg (tOp (rIxL K) (tVar 0) (tC (.int 1))) (gName 1))
    (tSeq (tAsg (tOp oAdd (tVar 1) (tC (.int 1))) (gSub (tVar 0) (tC (.int 1)) rSetL))
    (tSeq (tIfS (tTest (tOp cLt (tVar 1) (tCB (rLenSq K) (tCons (tOp (rIxL K) (tVar 0) (tC (.int 0))) tNil)))) (tRet (tOp (rIxL K) (tOp (rIxL K) (tVar 0) (tC (.int 0))) (tVar 1))) tNext)
    (tSeq (tAsg (tOp oAdd (tC (.int 1)) (tVar 1)) (gName 2))
    (tSeq (tIfS (tTest (tOp cGt (tCB (rLenSq K) (tCons (tOp (rIxL K) (tVar 0) (tC (.int 0))) tNil)) (tC (.int 0)))) (tAsg (tOp oAdd (tVar 2) (tOp oMul (tC (.int 1009)) (tOp (rIxL K) (tOp (rIxL K) (tVar 0) (tC (.int 0))) (tC (.int 0))))) (gName 2)) tNext)
    (tRet (tOp oMod (tCl (sp_Lmixed K A) (tCons (tCl (sp_Lmixed K A) (tCons (tVar 2) (tCons (tVar 1) tNil))) (tCons (tC (.int 5)) tNil))) (tC (.int 1000000)))))))))
theorem pu_Ldraw (T : Txt K mg A) {x0 : V} {H : Hp} {Q : VK} (h : P_Ldraw K A x0 H Q) : t_Ldraw K A { nx := fun _ H' => Q .non H', rt := Q } [some x0, none, none] H := by
  obtain ⟨d, l, rfl, ⟨ms, k, hd, hL, sm, hlen, hk⟩, q⟩ := h
  unfold t_Ldraw
  walk_at "go"
  refine g_setL hd (j := 1) rfl fun H1 f1 e1 => ?_
  have nld : l ≠ d := fun z => by
    subst z
    rw [hd] at hL
    have e := congrArg List.length (HO.lst.inj (Option.some.inj hL))
    cases ms with
    | nil => cases e
    | cons a r => cases HO.lst.inj (Option.some.inj hL)
  have hL1 : H1 l = some (.lst (ms.map V.int)) := f1.at hL (nin1 nld nin0)
  have D1 : Draws H1 d l := ⟨ms, k + 1, e1, hL1, sm, hlen, by omega⟩
  have e1' : H1 d = some (.lst [.ref l, .int (k + 1)]) := e1
  walk_at "go"
  rw [List.length_map]
  refine g_ite (fun c => ?_) (fun c => ?_)
  · walk_at "go"
    obtain ⟨v, hv, hv2⟩ := atI_of (xs := ms.map V.int) hk (by rw [List.length_map]; exact c)
    obtain ⟨n, rfl, _, hmem⟩ := getI hv2
    refine g_ixL (SqL.of hL1) hv ?_
    exact q n H1 (sm n hmem).1 (sm n hmem).2 f1 D1
  · have fin : ∀ n : Int, Q (.int (n % 1000000)) H1 := fun n => q _ H1 (Int.emod_nonneg _ (by decide)) (Int.emod_lt_of_pos _ (by decide)) f1 D1
    walk_at "go"
    rw [List.length_map]
    refine g_ite (fun c2 => ?_) (fun c2 => ?_)
    · walk_at "go"
      obtain ⟨v, hv, hv2⟩ := atI_of (xs := ms.map V.int) (z := 0) (Int.le_refl _) (by rw [List.length_map]; exact c2)
      obtain ⟨n, rfl, _, hmem⟩ := getI hv2
      refine g_ixL (SqL.of hL1) hv ?_
      walk_at "go"
      refine c_Lmixed ⟨_, _, rfl, rfl, fun z _ _ => ?_⟩
      walk_at "go"
      refine c_Lmixed ⟨_, _, rfl, rfl, fun z2 _ _ => ?_⟩
      walk_at "go"
      exact fin z2
    · walk_at "go"
      refine c_Lmixed ⟨_, _, rfl, rfl, fun z _ _ => ?_⟩
      walk_at "go"
      refine c_Lmixed ⟨_, _, rfl, rfl, fun z2 _ _ => ?_⟩
      walk_at "go"
      exact fin z2
theorem ok_Ldraw {f : Addr} {fd : FuncData} (F : Fun K "_law_draw" "_law_draw" s_Ldraw f fd) (T : Txt K mg A) (c_Lmixed : Cal P w K mg base "_law_mixed" 1 ["_law_number", "_law_k"] (sp_Lmixed K A)) : FnOk P w K mg base CX0 (2) f fd ["_law_draws"] (sp_Ldraw K A) := by
  refine F.ok sc_Ldraw (fun vs H Q E h => ?_) (fun cdv Ar outer s H vs Q E hr h => ⟨t_Ldraw K A, ?_, ?_⟩)
  · obtain ⟨x0, rfl, _⟩ := h
    rfl
  · have hu := hu_of hr
    exact (pss_cons (ps_set (i := 1) sc_Ldraw.nd rfl (Or.inl rfl) (pe_ix ix_list (pv 0) pe_int (fun _ _ => rfl)))
    (pss_cons (ps_asg (pe_op o_add (pv 1) pe_int) (pg_sub (pv 0) pe_int set_list))
    (pss_cons (ps_if (pt_cmpR c_lt (pv 1) (pe_callB b_len (by rfl) T.b_len (by decide +kernel) (pa_cons (pe_ix ix_list (pv 0) pe_int (fun _ _ => rfl)) pa_nil)) (nomark _)) (pss_one (ps_ret (pe_ix ix_list (pe_ix ix_list (pv 0) pe_int (fun _ _ => rfl)) (pv 1) (fun _ _ => rfl)))) pss_nil)
    (pss_cons (ps_set (i := 2) sc_Ldraw.nd rfl (Or.inl rfl) (pe_op o_add pe_int (pv 1)))
    (pss_cons (ps_if (pt_cmpR c_gt (pe_callB b_len (by rfl) T.b_len (by decide +kernel) (pa_cons (pe_ix ix_list (pv 0) pe_int (fun _ _ => rfl)) pa_nil)) pe_int (nomark _)) (pss_one (ps_set (i := 2) sc_Ldraw.nd rfl (Or.inl rfl) (pe_op o_add (pv 2) (pe_op o_mul pe_int (pe_ix ix_list (pe_ix ix_list (pv 0) pe_int (fun _ _ => rfl)) pe_int (fun _ _ => rfl)))))) pss_nil)
    (pss_one (ps_ret (pe_op o_mod (pe_cl c_Lmixed (hr.mono (by first | decide | omega)) (by rfl) (pa_cons (pe_cl c_Lmixed (hr.mono (by first | decide | omega)) (by rfl) (pa_cons (pv 2) (pa_cons (pv 1) pa_nil))) (pa_cons pe_int pa_nil))) pe_int))))))))
  · obtain ⟨x0, rfl, h⟩ := h
    exact pu_Ldraw T h
theorem Draws.new1 {H : Hp} {d l p : Addr} (h : Draws H d l) (e : H p = none) : d ≠ p := by
  obtain ⟨ms, k, h1, h2, _⟩ := h
  exact ne_of_none h1 e
theorem Draws.new2 {H : Hp} {d l p : Addr} (h : Draws H d l) (e : H p = none) : l ≠ p := by
  obtain ⟨ms, k, h1, h2, _⟩ := h
  exact ne_of_none h2 e
theorem Draws.ne {H : Hp} {d l p C dx : Addr} {fs : List (Str × V)} (h : Draws H d l) (e : H p = some (.ins C dx fs)) : d ≠ p ∧ l ≠ p := by
  obtain ⟨ms, k, h1, h2, _⟩ := h
  exact ⟨ne_of h1 e (by intro z; cases z), ne_of h2 e (by intro z; cases z)⟩
theorem Draws.ne' {H : Hp} {d l p : Addr} {xs : List V} (h : Draws H d l) (e : H p = some (.lst xs)) (n : xs.length ≠ 2) : d ≠ p := by
  obtain ⟨ms, k, h1, h2, _⟩ := h
  exact ne_of h1 e (by intro z; cases z; exact n rfl)
local macro_rules | `(tactic| walk_at "drw") => `(tactic| first
  | assumption
  | ((refine' Draws.fr ?h (by assumption) ?k ?l); (first | (case h => walk_at "drw") | fail); (first | (case k => walk_at "nin") | fail); (first | (case l => walk_at "nin") | fail)))
local macro_rules | `(tactic| walk_at "ne2") => `(tactic| first
  | exact Draws.new1 (by walk_at "drw") (by assumption) | exact Draws.new2 (by walk_at "drw") (by assumption)
  | exact Ne.symm (Draws.new1 (by walk_at "drw") (by assumption)) | exact Ne.symm (Draws.new2 (by walk_at "drw") (by assumption)))
local macro_rules | `(tactic| walk_at "go3") => `(tactic| ((with_reducible show sp_Ldraw _ _ _ _ _ _); refine' c_Ldraw ⟨_, _, rfl, ?D, ?_⟩; (first | (case D => walk_at "drw") | fail); intro _ _ _ _ _ _))


/-! ### _law_equal, _law_all_equal: what reads as one datum is found equal -/
def SeqD (H : Hp) (x : V) (ds : List PyData) : Prop := ∃ (a : Addr) (xs : List V), x = .ref a ∧ (H a = some (.lst xs) ∨ H a = some (.tup xs)) ∧ xs.length ≤ 1000000 ∧ DaL H xs ds
def P_Lequal (K : PySem.W.Frag) (A : Ad) (m : Nat) (x0 x1 : V) (H : Hp) (Q : VK) : Prop := ∃ d : PyData, Da H x0 d ∧ Da H x1 d ∧ dp d ≤ m ∧ Q (.bl true) H
def P_Lall_equal (K : PySem.W.Frag) (A : Ad) (m : Nat) (x0 x1 : V) (H : Hp) (Q : VK) : Prop := ∃ ds : List PyData, SeqD H x0 ds ∧ SeqD H x1 ds ∧ dpL ds + 1 ≤ m ∧ Q (.bl true) H
def sp_Lequal (K : PySem.W.Frag) (A : Ad) (m : Nat) : Sp := fun vs H Q _ => ∃ x0 x1, vs = [x0, x1] ∧ P_Lequal K A m x0 x1 H Q
theorem c_Lequal {K : PySem.W.Frag} {A : Ad} {m : Nat} {x0 x1 : V} {H : Hp} {Q : VK} {E : XK} (h : P_Lequal K A m x0 x1 H Q) : sp_Lequal K A m [x0, x1] H Q E := ⟨_, _, rfl, h⟩
def sp_Lall_equal (K : PySem.W.Frag) (A : Ad) (m : Nat) : Sp := fun vs H Q _ => ∃ x0 x1, vs = [x0, x1] ∧ P_Lall_equal K A m x0 x1 H Q
theorem c_Lall_equal {K : PySem.W.Frag} {A : Ad} {m : Nat} {x0 x1 : V} {H : Hp} {Q : VK} {E : XK} (h : P_Lall_equal K A m x0 x1 H Q) : sp_Lall_equal K A m [x0, x1] H Q E := ⟨_, _, rfl, h⟩
theorem sc_Lequal : FnScope ["_law_actual", "_law_due"] ["_law_actual", "_law_due"] (defScope s_Lequal) := ⟨rfl, rfl, rfl, by decide +kernel, rfl, by decide +kernel, by decide +kernel⟩
def t_Lequal (K : PySem.W.Frag) (A : Ad) (m : Nat) : TS :=
  (tSeq (tIfS (tB (tCB (rIsi K) (tCons (tVar 1) (tCons (tC (.ty "list")) tNil)))) (tSeq (tIfS (tOr (tNot (tB (tCB (rIsi K) (tCons (tVar 0) (tCons (tC (.ty "list")) tNil))))) (tTest (tOp rNe (tCB (rLenSq K) (tCons (tVar 0) tNil)) (tCB (rLenSq K) (tCons (tVar 1) tNil))))) (tRet (tC (.bl false))) tNext)
    (tRet (tCl (sp_Lall_equal K A m) (tCons (tVar 0) (tCons (tVar 1) tNil))))) tNext)
    (tSeq (tIfS (tB (tCB (rIsi K) (tCons (tVar 1) (tCons (tC (.ty "tuple")) tNil)))) (tSeq (tIfS (tOr (tNot (tB (tCB (rIsi K) (tCons (tVar 0) (tCons (tC (.ty "tuple")) tNil))))) (tTest (tOp rNe (tCB (rLenSq K) (tCons (tVar 0) tNil)) (tCB (rLenSq K) (tCons (tVar 1) tNil))))) (tRet (tC (.bl false))) tNext)
    (tRet (tCl (sp_Lall_equal K A m) (tCons (tVar 0) (tCons (tVar 1) tNil))))) tNext)
    (tSeq (tIfS (tB (tCB (rIsi K) (tCons (tVar 1) (tCons (tC (.ty "bool")) tNil)))) (tRet (tAndV (tCB (rIsi K) (tCons (tVar 0) (tCons (tC (.ty "bool")) tNil))) (tOp rEq (tVar 0) (tVar 1)))) tNext)
    (tSeq (tIfS (tB (tCB (rIsi K) (tCons (tVar 1) (tCons (tC (.ty "int")) tNil)))) (tRet (tAndV (tCB (rIsi K) (tCons (tVar 0) (tCons (tC (.ty "int")) tNil))) (tAndV (tNotV (tCB (rIsi K) (tCons (tVar 0) (tCons (tC (.ty "bool")) tNil)))) (tOp rEq (tVar 0) (tVar 1))))) tNext)
    (tSeq (tIfS (tB (tCB (rIsi K) (tCons (tVar 1) (tCons (tC (.ty "str")) tNil)))) (tRet (tAndV (tCB (rIsi K) (tCons (tVar 0) (tCons (tC (.ty "str")) tNil))) (tOp rEq (tVar 0) (tVar 1)))) tNext)
    (tRet (tOp rIsNon (tVar 0) (tC .non))))))))
theorem pu_Lequal (T : Txt K mg A) {m : Nat} {x0 x1 : V} {H : Hp} {Q : VK} (h : P_Lequal K A m x0 x1 H Q) : t_Lequal K A m { nx := fun _ H' => Q .non H', rt := Q } [some x0, some x1] H := by
  obtain ⟨d, h0, h1, hm, q⟩ := h
  unfold t_Lequal
  cases h0 with
  | non =>
    cases h1
    walk_at "go"
    exact q
  | bl b =>
    cases h1
    walk_at "go"
    simpa using q
  | int i =>
    cases h1
    walk_at "go"
    simpa using q
  | str z =>
    cases h1
    walk_at "go"
    simpa using q
  | lst e0 z0 r0 =>
    cases h1 with
    | lst e1 z1 r1 =>
      walk_at "go"
      refine g_iteN (fun c => absurd (by rw [r0.len, r1.len]) c) (fun c => ?_)
      walk_at "go"
      refine c_Lall_equal ⟨_, ⟨_, _, rfl, .inl e0, z0, r0⟩, ⟨_, _, rfl, .inl e1, z1, r1⟩, ?_, q⟩
      simpa [dp] using hm
  | tup e0 z0 r0 =>
    cases h1 with
    | tup e1 z1 r1 =>
      walk_at "go"
      refine g_iteN (fun c => absurd (by rw [r0.len, r1.len]) c) (fun c => ?_)
      walk_at "go"
      refine c_Lall_equal ⟨_, ⟨_, _, rfl, .inr e0, z0, r0⟩, ⟨_, _, rfl, .inr e1, z1, r1⟩, ?_, q⟩
      simpa [dp] using hm
theorem ok_Lequal {f : Addr} {fd : FuncData} (F : Fun K "_law_equal" "_law_equal" s_Lequal f fd) (T : Txt K mg A) {m : Nat} (c_Lall_equal : Cal P w K mg base "_law_all_equal" (2 * m) ["_law_actual", "_law_due"] (sp_Lall_equal K A m)) : FnOk P w K mg base CX0 (2 * m + 1) f fd ["_law_actual", "_law_due"] (sp_Lequal K A m) := by
  refine F.ok sc_Lequal (fun vs H Q E h => ?_) (fun cdv Ar outer s H vs Q E hr h => ⟨t_Lequal K A m, ?_, ?_⟩)
  · obtain ⟨x0, x1, rfl, _⟩ := h
    rfl
  · have hu := hu_of hr
    exact (pss_cons (ps_if (pt_val (pe_callB call_isi (by rfl) T.b_isinstance (by decide +kernel) (pa_cons (pv 1) (pa_cons (pe_bltn (by rfl) T.b_list (by decide +kernel) (v := .ty "list") rfl) pa_nil)))) (pss_cons (ps_if (PW.pt (pw_or (pt_not (pt_val (pe_callB call_isi (by rfl) T.b_isinstance (by decide +kernel) (pa_cons (pv 0) (pa_cons (pe_bltn (by rfl) T.b_list (by decide +kernel) (v := .ty "list") rfl) pa_nil))))) (pw_or1 (pt_cmpR op_ne (pe_callB b_len (by rfl) T.b_len (by decide +kernel) (pa_cons (pv 0) pa_nil)) (pe_callB b_len (by rfl) T.b_len (by decide +kernel) (pa_cons (pv 1) pa_nil)) (nomark _))))) (pss_one (ps_ret pe_bl)) pss_nil)
    (pss_one (ps_ret (pe_cl c_Lall_equal (hr.mono (by first | decide | omega)) (by rfl) (pa_cons (pv 0) (pa_cons (pv 1) pa_nil)))))) pss_nil)
    (pss_cons (ps_if (pt_val (pe_callB call_isi (by rfl) T.b_isinstance (by decide +kernel) (pa_cons (pv 1) (pa_cons (pe_bltn (by rfl) T.b_tuple (by decide +kernel) (v := .ty "tuple") rfl) pa_nil)))) (pss_cons (ps_if (PW.pt (pw_or (pt_not (pt_val (pe_callB call_isi (by rfl) T.b_isinstance (by decide +kernel) (pa_cons (pv 0) (pa_cons (pe_bltn (by rfl) T.b_tuple (by decide +kernel) (v := .ty "tuple") rfl) pa_nil))))) (pw_or1 (pt_cmpR op_ne (pe_callB b_len (by rfl) T.b_len (by decide +kernel) (pa_cons (pv 0) pa_nil)) (pe_callB b_len (by rfl) T.b_len (by decide +kernel) (pa_cons (pv 1) pa_nil)) (nomark _))))) (pss_one (ps_ret pe_bl)) pss_nil)
    (pss_one (ps_ret (pe_cl c_Lall_equal (hr.mono (by first | decide | omega)) (by rfl) (pa_cons (pv 0) (pa_cons (pv 1) pa_nil)))))) pss_nil)
    (pss_cons (ps_if (pt_val (pe_callB call_isi (by rfl) T.b_isinstance (by decide +kernel) (pa_cons (pv 1) (pa_cons (pe_bltn (by rfl) T.b_bool (by decide +kernel) (v := .ty "bool") rfl) pa_nil)))) (pss_one (ps_ret (pe_and (pe_callB call_isi (by rfl) T.b_isinstance (by decide +kernel) (pa_cons (pv 0) (pa_cons (pe_bltn (by rfl) T.b_bool (by decide +kernel) (v := .ty "bool") rfl) pa_nil))) (pe_one (pe_cmpR op_eq (pv 0) (pv 1) (nomark _)))))) pss_nil)
    (pss_cons (ps_if (pt_val (pe_callB call_isi (by rfl) T.b_isinstance (by decide +kernel) (pa_cons (pv 1) (pa_cons (pe_bltn (by rfl) T.b_int (by decide +kernel) (v := .ty "int") rfl) pa_nil)))) (pss_one (ps_ret (pe_and (pe_callB call_isi (by rfl) T.b_isinstance (by decide +kernel) (pa_cons (pv 0) (pa_cons (pe_bltn (by rfl) T.b_int (by decide +kernel) (v := .ty "int") rfl) pa_nil))) (pe_and (pe_not (pe_callB call_isi (by rfl) T.b_isinstance (by decide +kernel) (pa_cons (pv 0) (pa_cons (pe_bltn (by rfl) T.b_bool (by decide +kernel) (v := .ty "bool") rfl) pa_nil)))) (pe_one (pe_cmpR op_eq (pv 0) (pv 1) (nomark _))))))) pss_nil)
    (pss_cons (ps_if (pt_val (pe_callB call_isi (by rfl) T.b_isinstance (by decide +kernel) (pa_cons (pv 1) (pa_cons (pe_bltn (by rfl) T.b_str (by decide +kernel) (v := .ty "str") rfl) pa_nil)))) (pss_one (ps_ret (pe_and (pe_callB call_isi (by rfl) T.b_isinstance (by decide +kernel) (pa_cons (pv 0) (pa_cons (pe_bltn (by rfl) T.b_str (by decide +kernel) (v := .ty "str") rfl) pa_nil))) (pe_one (pe_cmpR op_eq (pv 0) (pv 1) (nomark _)))))) pss_nil)
    (pss_one (ps_ret (pe_cmpR c_isN (pv 0) pe_non (nomark _)))))))))
  · obtain ⟨x0, x1, rfl, h⟩ := h
    exact pu_Lequal T h
theorem sc_Lall_equal : FnScope ["_law_actual", "_law_due", "_law_k"] ["_law_actual", "_law_due"] (defScope s_Lall_equal) := ⟨rfl, rfl, rfl, by decide +kernel, rfl, by decide +kernel, by decide +kernel⟩
def t_Lall_equal (K : PySem.W.Frag) (A : Ad) (m : Nat) : TS :=
  (tSeq (tFor (iRng1 (tCons (tCB (rLenSq K) (tCons (tVar 1) tNil)) tNil)) (gName 2) (tIfS (tNot (tB (tCl (sp_Lequal K A m) (tCons (tOp (rIx K) (tVar 0) (tVar 2)) (tCons (tOp (rIx K) (tVar 1) (tVar 2)) tNil))))) (tRet (tC (.bl false))) tNext))
    (tRet (tC (.bl true))))
theorem g_lenS {xs : List V} {H : Hp} {Q : VK} {p : Addr} (h : H p = some (.lst xs) ∨ H p = some (.tup xs)) (q : Q (.int xs.length) H) : rLenSq K [.ref p] H Q := h.elim (fun e => g_lenL (SqL.of e) q) (fun e => g_lenT (SqT.of e) q)
theorem g_ixS {xs : List V} {H : Hp} {Q : VK} {p : Addr} {i : Int} {v : V} (h : H p = some (.lst xs) ∨ H p = some (.tup xs)) (ha : atI xs i = some v) (q : Q v H) : rIx K (.ref p) (.int i) H Q :=
  h.elim (fun e => .inl (g_ixL (SqL.of e) ha q)) (fun e => .inr (.inl (g_ixT (SqT.of e) ha q)))
theorem pu_Lall_equal (T : Txt K mg A) {m : Nat} {x0 x1 : V} {H : Hp} {Q : VK} (h : P_Lall_equal K A (m + 1) x0 x1 H Q) : t_Lall_equal K A m { nx := fun _ H' => Q .non H', rt := Q } [some x0, some x1, none] H := by
  obtain ⟨ds, ⟨a, xs, rfl, ha, hz, ra⟩, ⟨b, ys, rfl, hb, hy, rb⟩, hm, q⟩ := h
  unfold t_Lall_equal
  walk_at "go"
  refine g_lenS hb ?_
  walk_at "go"
  have hl := ra.len
  have hk := rb.len
  refine f_range (lo := 0) (fun i σ H' => (∃ v, σ = [some (.ref a), some (.ref b), v]) ∧ H' = H) ⟨⟨_, rfl⟩, rfl⟩ ?_ ?_
  · rintro i σ H' hi ⟨⟨v, rfl⟩, rfl⟩
    have hi2 : i < xs.length := by omega
    have hi3 : i < ys.length := by omega
    obtain ⟨d, hd, dd⟩ := ra.get (List.getElem?_eq_getElem hi2)
    obtain ⟨d', hd', dd'⟩ := rb.get (List.getElem?_eq_getElem hi3)
    rw [hd] at hd'
    cases hd'
    walk_at "go"
    refine g_ixS ha (v := xs[i]) (by rw [Int.zero_add]; exact atI_nat (List.getElem?_eq_getElem hi2)) ?_
    walk_at "go"
    refine g_ixS hb (v := ys[i]) (by rw [Int.zero_add]; exact atI_nat (List.getElem?_eq_getElem hi3)) ?_
    walk_at "go"
    refine c_Lequal ⟨d, dd, dd', ?_, ?_⟩
    · have := dpL_get hd
      omega
    · walk_at "go"
      exact ⟨⟨_, rfl⟩, rfl⟩
  · rintro σ H' ⟨⟨v, rfl⟩, rfl⟩
    walk_at "go"
    exact q
theorem ok_Lall_equal {f : Addr} {fd : FuncData} (F : Fun K "_law_all_equal" "_law_all_equal" s_Lall_equal f fd) (T : Txt K mg A) {m : Nat} (c_Lequal : Cal P w K mg base "_law_equal" (2 * m + 1) ["_law_actual", "_law_due"] (sp_Lequal K A m)) : FnOk P w K mg base CX0 (2 * m + 2) f fd ["_law_actual", "_law_due"] (sp_Lall_equal K A (m + 1)) := by
  refine F.ok sc_Lall_equal (fun vs H Q E h => ?_) (fun cdv Ar outer s H vs Q E hr h => ⟨t_Lall_equal K A m, ?_, ?_⟩)
  · obtain ⟨x0, x1, rfl, _⟩ := h
    rfl
  · have hu := hu_of hr
    exact (pss_cons (ps_for PassesOwn.never rfl (pi_range1 rfl T.b_range (pa_cons (pe_callB b_len (by rfl) T.b_len (by decide +kernel) (pa_cons (pv 1) pa_nil)) pa_nil)) (pg_name (i := 2) sc_Lall_equal.nd rfl (Or.inl rfl)) (pss_one (ps_if (pt_not (pt_val (pe_cl c_Lequal (hr.mono (by first | decide | omega)) (by rfl) (pa_cons (pe_ix ix_seq (pv 0) (pv 2) (fun _ _ => rfl)) (pa_cons (pe_ix ix_seq (pv 1) (pv 2) (fun _ _ => rfl)) pa_nil))))) (pss_one (ps_ret pe_bl)) pss_nil)))
    (pss_one (ps_ret pe_bl)))
  · obtain ⟨x0, x1, rfl, h⟩ := h
    exact pu_Lall_equal T h
theorem eq_all {fE fA : Addr} {fdE fdA : FuncData} (FE : Fun K "_law_equal" "_law_equal" s_Lequal fE fdE) (T : Txt K mg A) (hE : mg "_law_equal" = some (.ref fE)) (bE : Binds K fdE ["_law_actual", "_law_due"] [])
    (FA : Fun K "_law_all_equal" "_law_all_equal" s_Lall_equal fA fdA) (hA : mg "_law_all_equal" = some (.ref fA)) (bA : Binds K fdA ["_law_actual", "_law_due"] []) :
    ∀ m : Nat, Cal P w K mg base "_law_all_equal" (2 * m) ["_law_actual", "_law_due"] (sp_Lall_equal K A m)
  | 0 => by
    have no : ∀ vs H Q E, ¬ sp_Lall_equal K A 0 vs H Q E := fun vs H Q E h => by
      obtain ⟨x0, x1, _, ds, _, _, hm, _⟩ := h
      omega
    exact ⟨fA, fdA, ⟨fun vs H Q E h => absurd h (no vs H Q E), fun A outer s H args us vs Q E _ _ _ _ h => absurd h (no vs H Q E)⟩, hA, FA.kp, bA⟩
  | m + 1 => ⟨fA, fdA, ok_Lall_equal FA T ⟨fE, fdE, ok_Lequal FE T (eq_all FE T hE bE FA hA bA m), hE, FE.kp, bE⟩, hA, FA.kp, bA⟩
theorem eq_one {fE fA : Addr} {fdE fdA : FuncData} (FE : Fun K "_law_equal" "_law_equal" s_Lequal fE fdE) (T : Txt K mg A) (hE : mg "_law_equal" = some (.ref fE)) (bE : Binds K fdE ["_law_actual", "_law_due"] [])
    (FA : Fun K "_law_all_equal" "_law_all_equal" s_Lall_equal fA fdA) (hA : mg "_law_all_equal" = some (.ref fA)) (bA : Binds K fdA ["_law_actual", "_law_due"] []) (m : Nat) :
    Cal P w K mg base "_law_equal" (2 * m + 1) ["_law_actual", "_law_due"] (sp_Lequal K A m) := ⟨fE, fdE, ok_Lequal FE T (eq_all FE T hE bE FA hA bA m), hE, FE.kp, bE⟩

/-! ### setups, stays and parties as data -/
structure Setup where
  rooms : List Int
  nights : Int
  sellers : Int
  prices : List (List Int)
  share : Int
def rowD (r : List Int) : PyData := .tuple (r.map .int)
def setupD (S : Setup) : PyData := .tuple [rowD S.rooms, .int S.nights, .int S.sellers, .tuple (S.prices.map rowD), .int S.share]
structure SetupOk (S : Setup) : Prop where
  k1 : 1 ≤ S.rooms.length
  k3 : S.rooms.length ≤ 3
  rm : ∀ z ∈ S.rooms, 0 ≤ z ∧ z ≤ 4
  n1 : 1 ≤ S.nights
  n2 : S.nights ≤ 12
  s1 : 1 ≤ S.sellers
  s2 : S.sellers ≤ 4
  pl : S.prices.length = S.rooms.length
  pn : ∀ r ∈ S.prices, r.length = S.nights.toNat ∧ ∀ z ∈ r, 0 ≤ z ∧ z ≤ 1000000
  h1 : 0 ≤ S.share
  h2 : S.share ≤ 100
theorem imm_row (r : List Int) : imm (rowD r) = true := immL_of fun d hd => by obtain ⟨n, _, rfl⟩ := List.mem_map.mp hd; rfl
theorem imm_setup (S : Setup) : imm (setupD S) = true := by
  have h : immL (S.prices.map rowD) = true := immL_of fun d hd => by obtain ⟨r, _, rfl⟩ := List.mem_map.mp hd; exact imm_row r
  simp [setupD, imm, immL, h, imm_row]
/-- the parts of a setup in the heap -/
structure SetAt (H : Hp) (x : V) (S : Setup) (s r p : Addr) (ps : List V) : Prop where
  e : x = .ref s
  t : H s = some (.tup [.ref r, .int S.nights, .int S.sellers, .ref p, .int S.share])
  r : H r = some (.tup (S.rooms.map V.int))
  p : H p = some (.tup ps)
  ps : DaL H ps (S.prices.map rowD)
theorem SetAt.of {H : Hp} {x : V} {S : Setup} (h : Da H x (setupD S)) : ∃ s r p ps, SetAt H x S s r p ps := by
  obtain ⟨s, xs, rfl, e, _, q⟩ := h.tup1
  cases q with
  | cons a q => cases q with
    | cons b q => cases q with
      | cons c q => cases q with
        | cons d q => cases q with
          | cons f q =>
            cases q
            obtain ⟨r, rs, rfl, er, _, qr⟩ := a.tup1
            obtain ⟨p, ps, rfl, ep, _, qp⟩ := d.tup1
            cases b.int1
            cases c.int1
            cases f.int1
            rw [DaL.ints qr] at er
            exact ⟨s, r, p, ps, rfl, e, er, ep, qp⟩
theorem SetAt.row {H : Hp} {x : V} {S : Setup} {s r p : Addr} {ps : List V} (h : SetAt H x S s r p ps) {k : Nat} {row : List Int} (e : S.prices[k]? = some row) : ∃ a, ps[k]? = some (.ref a) ∧ H a = some (.tup (row.map V.int)) := by
  obtain ⟨v, hv, dv⟩ := h.ps.get' (i := k) (d := rowD row) (by rw [List.getElem?_map, e]; rfl)
  obtain ⟨a, xs, rfl, ea, _, q⟩ := dv.tup1
  rw [DaL.ints q] at ea
  exact ⟨a, hv, ea⟩
/-- a stay: kind, first, end -/
abbrev Stay := Int × Int × Int
def stayD (s : Stay) : PyData := .tuple [.int s.1, .int s.2.1, .int s.2.2]
def partyD (ss : List Stay) : PyData := .tuple (ss.map stayD)
def StayOk (S : Setup) (s : Stay) : Prop := 0 ≤ s.1 ∧ s.1 < S.rooms.length ∧ 0 ≤ s.2.1 ∧ s.2.1 < s.2.2 ∧ s.2.2 ≤ S.nights
theorem imm_stay (s : Stay) : imm (stayD s) = true := rfl
theorem imm_stays (ss : List Stay) : immL (ss.map stayD) = true := immL_of fun d hd => by obtain ⟨n, _, rfl⟩ := List.mem_map.mp hd; rfl
theorem imm_party (ss : List Stay) : imm (partyD ss) = true := imm_stays ss
theorem stay_at {H : Hp} {v : V} {s : Stay} (h : Da H v (stayD s)) : ∃ a, v = .ref a ∧ H a = some (.tup [.int s.1, .int s.2.1, .int s.2.2]) := by
  obtain ⟨a, xs, rfl, e, _, q⟩ := h.tup1
  obtain ⟨x, y, z, rfl, dx, dy, dz⟩ := q.three
  cases dx.int1
  cases dy.int1
  cases dz.int1
  exact ⟨a, rfl, e⟩
theorem stays_get {H : Hp} {xs : List V} {ss : List Stay} {i : Nat} {x : V} (h : DaL H xs (ss.map stayD)) (e : xs[i]? = some x) : ∃ s a, ss[i]? = some s ∧ x = .ref a ∧ H a = some (.tup [.int s.1, .int s.2.1, .int s.2.2]) ∧ Da H x (stayD s) := by
  obtain ⟨d, hd, dd⟩ := h.get e
  rw [List.getElem?_map] at hd
  cases q : ss[i]? with
  | none => rw [q] at hd; cases hd
  | some s =>
    rw [q] at hd
    cases hd
    obtain ⟨a, rfl, ea⟩ := stay_at dd
    exact ⟨s, a, rfl, rfl, ea, dd⟩

/-! ### setups, stays and parties are drawn -/
def P_Lsetup (K : PySem.W.Frag) (A : Ad) (x0 : V) (H : Hp) (Q : VK) : Prop := ∃ (d l : Addr), x0 = .ref d ∧ Draws H d l ∧
  ∀ (v : V) (S : Setup) (H' : Hp), SetupOk S → Da H' v (setupD S) → Fr [d] H H' → Draws H' d l → Q v H'
def sp_Lsetup (K : PySem.W.Frag) (A : Ad) : Sp := fun vs H Q _ => ∃ x0, vs = [x0] ∧ P_Lsetup K A x0 H Q
theorem c_Lsetup {K : PySem.W.Frag} {A : Ad} {x0 : V} {H : Hp} {Q : VK} {E : XK} (h : P_Lsetup K A x0 H Q) : sp_Lsetup K A [x0] H Q E := ⟨_, rfl, h⟩
theorem sc_Lsetup : FnScope ["_law_draws", "_law_rooms", "_law_nights", "_law_prices", "_law_k", "_law_t"] ["_law_draws"] (defScope s_Lsetup) := ⟨rfl, rfl, rfl, by decide +kernel, rfl, by decide +kernel, by decide +kernel⟩
def t_Lsetup (K : PySem.W.Frag) (A : Ad) : TS :=
  (tSeq (tAsg (tCB (rTupOf K) (tCons (tLc (iRng1 (tCons (tOp oAdd (tC (.int 1)) (tOp oMod (tCl (sp_Ldraw K A) (tCons (tVar 0) tNil)) (tC (.int 3)))) tNil)) (gName 4) tYes (tOp oMod (tCl (sp_Ldraw K A) (tCons (tVar 0) tNil)) (tC (.int 5))) [4]) tNil)) (gName 1))
    (tSeq (tAsg (tOp oAdd (tC (.int 1)) (tOp oMod (tCl (sp_Ldraw K A) (tCons (tVar 0) tNil)) (tC (.int 12)))) (gName 2))
    (tSeq (tAsg (tLst tNil) (gName 3))
    (tSeq (tFor (iRng1 (tCons (tCB (rLenSq K) (tCons (tVar 1) tNil)) tNil)) (gName 4) (tDrop (tBM K "list" rAppend (tVar 3) (tCons (tCB (rTupOf K) (tCons (tLc (iRng1 (tCons (tVar 2) tNil)) (gName 5) tYes (tOp (rIxL K) (tLst (tCons (tOp oMod (tCl (sp_Ldraw K A) (tCons (tVar 0) tNil)) (tC (.int 200))) (tCons (tC (.int 0)) (tCons (tOp oPow (tC (.int 10)) (tC (.int 6))) (tCons (tOp oMod (tCl (sp_Ldraw K A) (tCons (tVar 0) tNil)) (tC (.int 1000001))) tNil))))) (tOp oMod (tCl (sp_Ldraw K A) (tCons (tVar 0) tNil)) (tC (.int 4)))) [5]) tNil)) tNil))))
    (tRet (tTup (tCons (tVar 1) (tCons (tVar 2) (tCons (tOp oAdd (tC (.int 1)) (tOp oMod (tCl (sp_Ldraw K A) (tCons (tVar 0) tNil)) (tC (.int 4)))) (tCons (tCB (rTupOf K) (tCons (tVar 3) tNil)) (tCons (tOp (rIxL K) (tLst (tCons (tOp oMod (tCl (sp_Ldraw K A) (tCons (tVar 0) tNil)) (tC (.int 101))) (tCons (tC (.int 0)) (tCons (tC (.int 100)) tNil)))) (tOp oMod (tCl (sp_Ldraw K A) (tCons (tVar 0) tNil)) (tC (.int 3)))) tNil)))))))))))
theorem pu_Lsetup (T : Txt K mg A) {x0 : V} {H : Hp} {Q : VK} (h : P_Lsetup K A x0 H Q) : t_Lsetup K A { nx := fun _ H' => Q .non H', rt := Q } [some x0, none, none, none, none, none] H := by
  obtain ⟨d, l, rfl, D0, k⟩ := h
  unfold t_Lsetup
  walk_at "go"
  rename_i z H1 z0 z1 f1 D1
  refine l_range (lo := 0) (n := (1 + z % 3).toNat) fun Dl H2 nD f2 e2 => ⟨fun i acc H' => ∃ r : List Int, acc = r.map V.int ∧ r.length = i ∧ (∀ y ∈ r, 0 ≤ y ∧ y ≤ 4) ∧ Fr [d] H1 H' ∧ Draws H' d l, ⟨[], rfl, rfl, fun _ q => (nomatch q), f2.of0, D1.fr f2 nin0 nin0⟩, fun i acc H' hi ha ⟨r, e, hr, hm, f, D⟩ => ?_, fun acc H' ha ⟨r, e, hr, hm, f, D⟩ => ?_⟩
  · walk_at "go"
    refine ⟨rfl, ?_⟩
    walk_at "go"
    rename_i y H3 y0 y1 f3 D3
    have nd : Dl ≠ d := (D1.new1 nD).symm
    have nl : Dl ≠ l := (D1.new2 nD).symm
    refine lcY_of (f3.at ha (nin1 nd nin0)) (by rw [e]; walk_at "sz") fun H5 f5 e5 => ⟨r ++ [y % 5], by rw [e, List.map_append]; rfl, by rw [List.length_append, hr]; rfl, fun q hq => ?_, ?_, D3.fr f5 (nin1 nd.symm nin0) (nin1 nl.symm nin0)⟩
    · rcases List.mem_append.mp hq with h | h
      · exact hm q h
      · rw [List.mem_singleton.mp h]; omega
    · exact (f.transL f3).own1 f5 nD
  · subst e
    walk_at "go"
    rename_i rt H3 n3 f3 e3 w H4 w0 w1 f4 D4 pl H5 n5 f5 e5
    have nd : d ≠ pl := D4.new1 n5
    have nl : l ≠ pl := D4.new2 n5
    have er : H5 rt = some (.tup (r.map V.int)) := by walk_at "fact"
    have D5 : Draws H5 d l := D4.fr f5 nin0 nin0
    have npl : H pl = none := by walk_at "none"
    have F5 : Fr [d] H H5 := by walk_at "fr"
    rw [List.length_map]
    clear f1 D1 nD f2 e2 f D ha n3 f3 e3 f4 D4 f5 n5
    have hrl : r.length ≤ 3 ∧ 1 ≤ r.length := by omega
    refine f_range (lo := 0) (n := r.length) (fun i σ H' => ∃ (v4 v5 : Option V) (rows : List (List Int)) (xs : List V), σ = [some (.ref d), some (.ref rt), some (.int (1 + w % 12)), some (.ref pl), v4, v5] ∧ Fr [d] H H' ∧ Draws H' d l ∧ H' rt = some (.tup (r.map V.int)) ∧
      H' pl = some (.lst xs) ∧ DaL H' xs (rows.map rowD) ∧ rows.length = i ∧ ∀ q ∈ rows, q.length = (1 + w % 12).toNat ∧ ∀ y ∈ q, 0 ≤ y ∧ y ≤ 1000000)
      ⟨_, _, [], [], rfl, F5, D5, er, e5, .nil, rfl, fun _ q => (nomatch q)⟩ ?_ ?_
    · rintro i σ H6 hi ⟨v4, v5, rows, xs, rfl, f6, D6, er6, ep6, dr, hri, hq⟩
      have hxl : xs.length ≤ 10 := by rw [dr.len, List.length_map]; omega
      walk_at "go"
      refine l_range (lo := 0) (n := (1 + w % 12).toNat) fun Dl H7 nD f7 e7 => ⟨fun j acc H' => ∃ q : List Int, acc = q.map V.int ∧ q.length = j ∧ (∀ y ∈ q, 0 ≤ y ∧ y ≤ 1000000) ∧ Fr [d] H6 H' ∧ Draws H' d l, ⟨[], rfl, rfl, fun _ q => (nomatch q), f7.of0, D6.fr f7 nin0 nin0⟩, fun j acc H' hj ha ⟨q, e, hr, hm, f, D⟩ => ?_, fun acc H' ha ⟨q, e, hql, hm, f, D⟩ => ?_⟩
      · walk_at "go"
        refine ⟨rfl, ?_⟩
        walk_at "go"
        rename_i y1 H8 y10 y11 f8 D8 y2 H9 y20 y21 f9 D9 t H10 n10 f10 e10 y3 H11 y30 y31 f11 D11
        have hnd : Dl ≠ d := (D6.new1 nD).symm
        have hnl : Dl ≠ l := (D6.new2 nD).symm
        have htd : t ≠ d := (D9.new1 n10).symm
        obtain ⟨v, hv, hmem⟩ := atI_mem (xs := [V.int (y1 % 200), V.int 0, V.int (10 ^ Int.toNat 6), V.int (y2 % 1000001)]) (z := y3 % 4) (by omega) (by show y3 % 4 < 4; omega)
        obtain ⟨y, rfl, hy⟩ : ∃ y, v = .int y ∧ 0 ≤ y ∧ y ≤ 1000000 := by
          rcases List.mem_cons.mp hmem with h | hmem
          · exact ⟨_, h, by omega, by omega⟩
          rcases List.mem_cons.mp hmem with h | hmem
          · exact ⟨_, h, by omega, by omega⟩
          rcases List.mem_cons.mp hmem with h | hmem
          · exact ⟨_, h, by decide, by decide⟩
          · exact ⟨_, List.mem_singleton.mp hmem, by omega, by omega⟩
        refine g_ixL (SqL.of (f11.at e10 (nin1 htd nin0))) hv ?_
        have hD : H11 Dl = some (.lst acc) := f11.at (f10.at0 (f9.at (f8.at ha (nin1 hnd nin0)) (nin1 hnd nin0))) (nin1 hnd nin0)
        refine lcY_of hD (by rw [e]; walk_at "sz") fun H12 f12 e12 => ⟨q ++ [y], by rw [e, List.map_append]; rfl, by rw [List.length_append, hr]; rfl, fun z hz => ?_, ?_, D11.fr f12 (nin1 hnd.symm nin0) (nin1 hnl.symm nin0)⟩
        · rcases List.mem_append.mp hz with h | h
          · exact hm z h
          · rw [List.mem_singleton.mp h]; exact hy
        · exact ((((f.transL f8).transL f9).then0 f10).transL f11).own1 f12 nD
      · subst e
        have hpd : pl ≠ d := nd.symm
        have ep7 : H' pl = some (.lst xs) := f.at ep6 (nin1 hpd nin0)
        have hql2 : q.length ≤ 12 := by omega
        walk_at "go"
        rename_i t H8 n8 f8 e8 H9 f9 e9
        exact ⟨_, _, rows ++ [q], _, rfl, ((f6.transL f).then0 f8).own1 f9 npl, (D.fr f8 nin0 nin0).fr f9 (nin1 nd nin0) (nin1 nl nin0), f9.tup _ _ (f8.tup _ _ (f.tup _ _ er6)), e9,
          by rw [List.map_append]; exact (DaL.frL f9 (DaL.frL f8 (DaL.frL f dr (immL_of fun d hd => by obtain ⟨r, _, rfl⟩ := List.mem_map.mp hd; exact imm_row r)) (immL_of fun d hd => by obtain ⟨r, _, rfl⟩ := List.mem_map.mp hd; exact imm_row r)) (immL_of fun d hd => by obtain ⟨r, _, rfl⟩ := List.mem_map.mp hd; exact imm_row r)).append (.one' (.tup (f9.tup _ _ e8) (by rw [List.length_map]; omega) (.ofInts q))),
          by rw [List.length_append, hri]; rfl, fun z hz => (List.mem_append.mp hz).elim (hq z) fun h => by rw [List.mem_singleton.mp h]; exact ⟨hql, hm⟩⟩
    · rintro σ H6 ⟨v4, v5, rows, xs, rfl, f6, D6, er6, ep6, dr, hri, hq⟩
      have hxl : xs.length ≤ 10 := by rw [dr.len, List.length_map]; omega
      have hpd : pl ≠ d := nd.symm
      walk_at "go"
      rename_i m H7 m0 m1 f7 D7 pt H8 n8 f8 e8 y1 H9 y10 y11 f9 D9 t H10 n10 f10 e10 y2 H11 y20 y21 f11 D11
      have htd : t ≠ d := (D9.new1 n10).symm
      obtain ⟨v, hv, hmem⟩ := atI_mem (xs := [V.int (y1 % 101), V.int 0, V.int 100]) (z := y2 % 3) (by omega) (by show y2 % 3 < 3; omega)
      obtain ⟨y, rfl, hy⟩ : ∃ y, v = .int y ∧ 0 ≤ y ∧ y ≤ 100 := by
        rcases List.mem_cons.mp hmem with h | hmem
        · exact ⟨_, h, by omega, by omega⟩
        rcases List.mem_cons.mp hmem with h | hmem
        · exact ⟨_, h, by omega, by omega⟩
        · exact ⟨_, List.mem_singleton.mp hmem, by decide, by decide⟩
      refine g_ixL (SqL.of (f11.at e10 (nin1 htd nin0))) hv ?_
      walk_at "go"
      rename_i st H12 n12 f12 e12
      have ir : immL (rows.map rowD) = true := immL_of fun d hd => by obtain ⟨r, _, rfl⟩ := List.mem_map.mp hd; exact imm_row r
      have F : Fr [d] H6 H12 := by walk_at "fr"
      refine k _ ⟨r, 1 + w % 12, 1 + m % 4, rows, y⟩ H12 ⟨hrl.2, hrl.1, hm, by show 1 ≤ 1 + w % 12; omega, by show 1 + w % 12 ≤ 12; omega, by show 1 ≤ 1 + m % 4; omega, by show 1 + m % 4 ≤ 4; omega, hri, hq, hy.1, hy.2⟩ (.tup e12 (Nat.le_of_ble_eq_true rfl) ?_) (f6.transL F) (D11.fr f12 nin0 nin0)
      exact .cons (.tup (F.tup _ _ er6) (by rw [List.length_map]; omega) (.ofInts r)) (.cons (.int _) (.cons (.int _) (.cons (.tup (f12.tup _ _ (f11.tup _ _ (f10.tup _ _ (f9.tup _ _ e8)))) (by omega) (DaL.frL F dr ir)) (.one' (.int _)))))
theorem ok_Lsetup {f : Addr} {fd : FuncData} (F : Fun K "_law_setup" "_law_setup" s_Lsetup f fd) (T : Txt K mg A) (c_Ldraw : Cal P w K mg base "_law_draw" 2 ["_law_draws"] (sp_Ldraw K A)) : FnOk P w K mg base CX0 (3) f fd ["_law_draws"] (sp_Lsetup K A) := by
  refine F.ok sc_Lsetup (fun vs H Q E h => ?_) (fun cdv Ar outer s H vs Q E hr h => ⟨t_Lsetup K A, ?_, ?_⟩)
  · obtain ⟨x0, rfl, _⟩ := h
    rfl
  · have hu := hu_of hr
    exact (pss_cons (ps_set (i := 1) sc_Lsetup.nd rfl (Or.inl rfl) (pe_callTy b_tuple (by rfl) T.b_tuple (by decide +kernel) (pa_cons (pe_lc (own := [("_law_k", 4)]) (g := (gName 4)) (tt := tYes) rfl sc_Lsetup.nd (pi_range1 rfl T.b_range (pa_cons (pe_op o_add pe_int (pe_op o_mod (pe_cl c_Ldraw (hr.mono (by first | decide | omega)) (by rfl) (pa_cons (pv 0) pa_nil)) pe_int)) pa_nil)) (blkOk_by (N := ["_law_draws", "_law_rooms", "_law_nights", "_law_prices", "_law_k", "_law_t"]) (sc := defScope s_Lsetup) (own := [("_law_k", 4)]) (by decide +kernel)) (fun _ _ _ _ _ => (pg_name (i := 4) sc_Lsetup.nd rfl (Or.inl rfl))) (fun _ _ _ _ _ => pts_nil) (fun _ _ _ _ _ => (pe_op o_mod (pe_cl c_Ldraw (hr.mono (by first | decide | omega)) (by rfl) (pa_cons (pv 0) pa_nil)) pe_int))) pa_nil)))
    (pss_cons (ps_set (i := 2) sc_Lsetup.nd rfl (Or.inl rfl) (pe_op o_add pe_int (pe_op o_mod (pe_cl c_Ldraw (hr.mono (by first | decide | omega)) (by rfl) (pa_cons (pv 0) pa_nil)) pe_int)))
    (pss_cons (ps_set (i := 3) sc_Lsetup.nd rfl (Or.inl rfl) (pe_lst pa_nil))
    (pss_cons (ps_for PassesOwn.never rfl (pi_range1 rfl T.b_range (pa_cons (pe_callB b_len (by rfl) T.b_len (by decide +kernel) (pa_cons (pv 1) pa_nil)) pa_nil)) (pg_name (i := 4) sc_Lsetup.nd rfl (Or.inl rfl)) (pss_one (ps_expr (pe_bm PySem.F.plainAttrs_list PySem.F.slot_list_append PySem.F.type_list_append mt_append (pv 3) (pa_cons (pe_callTy b_tuple (by rfl) T.b_tuple (by decide +kernel) (pa_cons (pe_lc (own := [("_law_t", 5)]) (g := (gName 5)) (tt := tYes) rfl sc_Lsetup.nd (pi_range1 rfl T.b_range (pa_cons (pv 2) pa_nil)) (blkOk_by (N := ["_law_draws", "_law_rooms", "_law_nights", "_law_prices", "_law_k", "_law_t"]) (sc := defScope s_Lsetup) (own := [("_law_t", 5)]) (by decide +kernel)) (fun _ _ _ _ _ => (pg_name (i := 5) sc_Lsetup.nd rfl (Or.inl rfl))) (fun _ _ _ _ _ => pts_nil) (fun _ _ _ _ _ => (pe_ix ix_list (pe_lst (pa_cons (pe_op o_mod (pe_cl c_Ldraw (hr.mono (by first | decide | omega)) (by rfl) (pa_cons (pv 0) pa_nil)) pe_int) (pa_cons pe_int (pa_cons (pe_op o_pow pe_int pe_int) (pa_cons (pe_op o_mod (pe_cl c_Ldraw (hr.mono (by first | decide | omega)) (by rfl) (pa_cons (pv 0) pa_nil)) pe_int) pa_nil))))) (pe_op o_mod (pe_cl c_Ldraw (hr.mono (by first | decide | omega)) (by rfl) (pa_cons (pv 0) pa_nil)) pe_int) (fun _ _ => rfl)))) pa_nil)) pa_nil)))))
    (pss_one (ps_ret (pe_tup (pa_cons (pv 1) (pa_cons (pv 2) (pa_cons (pe_op o_add pe_int (pe_op o_mod (pe_cl c_Ldraw (hr.mono (by first | decide | omega)) (by rfl) (pa_cons (pv 0) pa_nil)) pe_int)) (pa_cons (pe_callTy b_tuple (by rfl) T.b_tuple (by decide +kernel) (pa_cons (pv 3) pa_nil)) (pa_cons (pe_ix ix_list (pe_lst (pa_cons (pe_op o_mod (pe_cl c_Ldraw (hr.mono (by first | decide | omega)) (by rfl) (pa_cons (pv 0) pa_nil)) pe_int) (pa_cons pe_int (pa_cons pe_int pa_nil)))) (pe_op o_mod (pe_cl c_Ldraw (hr.mono (by first | decide | omega)) (by rfl) (pa_cons (pv 0) pa_nil)) pe_int) (fun _ _ => rfl)) pa_nil))))))))))))
  · obtain ⟨x0, rfl, h⟩ := h
    exact pu_Lsetup T h
def P_Lstay (K : PySem.W.Frag) (A : Ad) (x0 x1 : V) (H : Hp) (Q : VK) : Prop := ∃ (d l : Addr) (S : Setup), x0 = .ref d ∧ Draws H d l ∧ SetupOk S ∧ Da H x1 (setupD S) ∧
  ∀ (v : V) (s : Stay) (H' : Hp), StayOk S s → Da H' v (stayD s) → Fr [d] H H' → Draws H' d l → Q v H'
def sp_Lstay (K : PySem.W.Frag) (A : Ad) : Sp := fun vs H Q _ => ∃ x0 x1, vs = [x0, x1] ∧ P_Lstay K A x0 x1 H Q
theorem c_Lstay {K : PySem.W.Frag} {A : Ad} {x0 x1 : V} {H : Hp} {Q : VK} {E : XK} (h : P_Lstay K A x0 x1 H Q) : sp_Lstay K A [x0, x1] H Q E := ⟨_, _, rfl, h⟩
theorem sc_Lstay : FnScope ["_law_draws", "_law_setup_here", "_law_first", "_law_most"] ["_law_draws", "_law_setup_here"] (defScope s_Lstay) := ⟨rfl, rfl, rfl, by decide +kernel, rfl, by decide +kernel, by decide +kernel⟩
def t_Lstay (K : PySem.W.Frag) (A : Ad) : TS :=
  (tSeq (tAsg (tOp oMod (tCl (sp_Ldraw K A) (tCons (tVar 0) tNil)) (tOp (rIxT K) (tVar 1) (tC (.int 1)))) (gName 2))
    (tSeq (tAsg (tOp oSub (tOp (rIxT K) (tVar 1) (tC (.int 1))) (tVar 2)) (gName 3))
    (tRet (tTup (tCons (tOp oMod (tCl (sp_Ldraw K A) (tCons (tVar 0) tNil)) (tCB (rLenSq K) (tCons (tOp (rIxT K) (tVar 1) (tC (.int 0))) tNil))) (tCons (tVar 2) (tCons (tOp oAdd (tOp oAdd (tVar 2) (tC (.int 1))) (tOp oMod (tCl (sp_Ldraw K A) (tCons (tVar 0) tNil)) (tOp (rIxL K) (tLst (tCons (tVar 3) (tCons (tCB rMin2 (tCons (tVar 3) (tCons (tC (.int 3)) tNil))) tNil))) (tOp oMod (tCl (sp_Ldraw K A) (tCons (tVar 0) tNil)) (tC (.int 2)))))) tNil)))))))
theorem pu_Lstay (T : Txt K mg A) {x0 x1 : V} {H : Hp} {Q : VK} (h : P_Lstay K A x0 x1 H Q) : t_Lstay K A { nx := fun _ H' => Q .non H', rt := Q } [some x0, some x1, none, none] H := by
  obtain ⟨d, l, S, rfl, D0, ok, dS, k⟩ := h
  obtain ⟨s, r, p, ps, sa⟩ := SetAt.of dS
  cases sa.e
  have e0 := sa.t
  have er := sa.r
  have hn := ok.n1
  have hk := ok.k1
  unfold t_Lstay
  walk_at "go"
  rename_i y1 H1 y10 y11 f1 D1 y2 H2 y20 y21 f2 D2 y3 H3 y30 y31 f3 D3 t H4 n4 f4 e4 y4 H5 y40 y41 f5 D5
  have htd : t ≠ d := (D3.new1 n4).symm
  have b0 := Int.emod_nonneg y1 (show S.nights ≠ 0 by omega)
  have b1 := Int.emod_lt_of_pos y1 (show 0 < S.nights by omega)
  have g0 := Int.emod_nonneg y2 (show ((S.rooms.length : Nat) : Int) ≠ 0 by omega)
  have g1 := Int.emod_lt_of_pos y2 (show 0 < ((S.rooms.length : Nat) : Int) by omega)
  obtain ⟨v, hv, hmem⟩ := atI_mem (xs := [V.int (S.nights - y1 % S.nights), V.int (if (3 : Int) < S.nights - y1 % S.nights then 3 else S.nights - y1 % S.nights)]) (z := y4 % 2) (by omega) (by show y4 % 2 < 2; omega)
  obtain ⟨y, rfl, hy⟩ : ∃ y, v = .int y ∧ 0 < y ∧ y ≤ S.nights - y1 % S.nights := by
    rcases List.mem_cons.mp hmem with h | hmem
    · exact ⟨_, h, by omega, by omega⟩
    · exact ⟨_, List.mem_singleton.mp hmem, by split <;> omega, by split <;> omega⟩
  refine g_ixL (SqL.of (f5.at e4 (nin1 htd nin0))) hv ?_
  obtain ⟨hy0, hy1⟩ := hy
  walk_at "go"
  rename_i st H6 n6 f6 e6
  have k0 := Int.emod_nonneg y3 (show y ≠ 0 by omega)
  have k1 := Int.emod_lt_of_pos y3 hy0
  rw [List.length_map] at e6
  exact k _ (y2 % (S.rooms.length : Int), y1 % S.nights, y1 % S.nights + 1 + y3 % y) H6 ⟨g0, g1, b0, by show y1 % S.nights < y1 % S.nights + 1 + y3 % y; omega, by show y1 % S.nights + 1 + y3 % y ≤ S.nights; omega⟩
    (.tup e6 (Nat.le_of_ble_eq_true rfl) (.cons (.int _) (.cons (.int _) (.one' (.int _))))) (by walk_at "fr") (D5.fr f6 nin0 nin0)
theorem ok_Lstay {f : Addr} {fd : FuncData} (F : Fun K "_law_stay" "_law_stay" s_Lstay f fd) (T : Txt K mg A) (c_Ldraw : Cal P w K mg base "_law_draw" 2 ["_law_draws"] (sp_Ldraw K A)) : FnOk P w K mg base CX0 (3) f fd ["_law_draws", "_law_setup_here"] (sp_Lstay K A) := by
  refine F.ok sc_Lstay (fun vs H Q E h => ?_) (fun cdv Ar outer s H vs Q E hr h => ⟨t_Lstay K A, ?_, ?_⟩)
  · obtain ⟨x0, x1, rfl, _⟩ := h
    rfl
  · have hu := hu_of hr
    exact (pss_cons (ps_set (i := 2) sc_Lstay.nd rfl (Or.inl rfl) (pe_op o_mod (pe_cl c_Ldraw (hr.mono (by first | decide | omega)) (by rfl) (pa_cons (pv 0) pa_nil)) (pe_ix ix_tup (pv 1) pe_int (fun _ _ => rfl))))
    (pss_cons (ps_set (i := 3) sc_Lstay.nd rfl (Or.inl rfl) (pe_op o_sub (pe_ix ix_tup (pv 1) pe_int (fun _ _ => rfl)) (pv 2)))
    (pss_one (ps_ret (pe_tup (pa_cons (pe_op o_mod (pe_cl c_Ldraw (hr.mono (by first | decide | omega)) (by rfl) (pa_cons (pv 0) pa_nil)) (pe_callB b_len (by rfl) T.b_len (by decide +kernel) (pa_cons (pe_ix ix_tup (pv 1) pe_int (fun _ _ => rfl)) pa_nil))) (pa_cons (pv 2) (pa_cons (pe_op o_add (pe_op o_add (pv 2) pe_int) (pe_op o_mod (pe_cl c_Ldraw (hr.mono (by first | decide | omega)) (by rfl) (pa_cons (pv 0) pa_nil)) (pe_ix ix_list (pe_lst (pa_cons (pv 3) (pa_cons (pe_callB (b_min2 rfl) (by rfl) T.b_min (by decide +kernel) (pa_cons (pv 3) (pa_cons pe_int pa_nil))) pa_nil))) (pe_op o_mod (pe_cl c_Ldraw (hr.mono (by first | decide | omega)) (by rfl) (pa_cons (pv 0) pa_nil)) pe_int) (fun _ _ => rfl)))) pa_nil))))))))
  · obtain ⟨x0, x1, rfl, h⟩ := h
    exact pu_Lstay T h
theorem stays_alike (ss : List Stay) : PySem.W.AllAlike (ss.map stayD) := fun d hd d' hd' => by
  obtain ⟨s, _, rfl⟩ := List.mem_map.mp hd
  obtain ⟨s', _, rfl⟩ := List.mem_map.mp hd'
  rfl
theorem stays_sortable (ss : List Stay) : PySem.W.Sortable (ss.map stayD) := .inl fun d hd => by
  obtain ⟨s, _, rfl⟩ := List.mem_map.mp hd
  exact ⟨_, _, rfl⟩
theorem stays_depth (ss : List Stay) : ∀ d ∈ ss.map stayD, d.depth ≤ 60 := fun d hd => by
  obtain ⟨s, _, rfl⟩ := List.mem_map.mp hd
  simp [stayD, PyData.depth, PyData.depthAll]
/-- stays in their order -/
def ssrt (ss : List Stay) : List Stay := ss.mergeSort (PySem.W.dataLe false stayD)
theorem ssrt_map (ss : List Stay) : (ssrt ss).map stayD = srt (ss.map stayD) := srt_map stayD ss
theorem ssrt_perm (ss : List Stay) : (ssrt ss).Perm ss := List.mergeSort_perm ss _
theorem ssrt_ssrt (ss : List Stay) : ssrt (ssrt ss) = ssrt ss := List.mergeSort_of_pairwise (PySem.W.sort_pairwise (dle_total stayD) ss)
/-- a party of the setup -/
structure PartyOk (S : Setup) (ss : List Stay) : Prop where
  l1 : 1 ≤ ss.length
  l4 : ss.length ≤ 4
  ok : ∀ s ∈ ss, StayOk S s
  so : ssrt ss = ss

/-! ### rooms for stays, plainly -/
def st0 : Stay := (0, 0, 0)
def stG (ss : List Stay) (j : Nat) : Stay := ss.getD j st0
def meetB (s t : Stay) : Bool := decide (s.1 = t.1) && (decide (s.2.1 < t.2.2) && decide (t.2.1 < s.2.2))
def cov (kind night : Int) (s : Stay) : Bool := decide (s.1 = kind) && (decide (s.2.1 ≤ night) && decide (night < s.2.2))
def Fits (S : Setup) (ss : List Stay) : Prop := ∀ k n : Nat, k < S.rooms.length → (n : Int) < S.nights → ((ss.filter (cov k n)).length : Int) ≤ S.rooms.getD k 0
def rmG (R : List (Option Int)) (j : Nat) : Option Int := R.getD j none
def tkn (ss : List Stay) (R : List (Option Int)) (t : Stay) (i : Nat) : List Int := (List.range i).filterMap fun j => (rmG R j).bind fun r => if meetB (stG ss j) t = true then some r else none
def free (t : List Int) (m : Nat) : List Int := ((List.range m).map fun i : Nat => (i : Int)).filter fun r => decide (r ∉ t)
abbrev rooms (S : Setup) (t : Stay) : Int := S.rooms.getD t.1.toNat 0
structure Good (S : Setup) (ss : List Stay) (R : List (Option Int)) : Prop where
  len : R.length = ss.length
  rng : ∀ j r, rmG R j = some r → 0 ≤ r ∧ r < rooms S (stG ss j)
  ncl : ∀ j l r, rmG R j = some r → rmG R l = some r → j ≠ l → meetB (stG ss j) (stG ss l) = false
theorem meet_sym {s t : Stay} : meetB s t = meetB t s := by
  unfold meetB
  rw [Bool.eq_iff_iff]
  simp only [Bool.and_eq_true, decide_eq_true_eq]
  constructor <;> (intro ⟨a, b, c⟩; exact ⟨a.symm, c, b⟩)
theorem rm_lt {R : List (Option Int)} {j : Nat} {r : Int} (h : rmG R j = some r) : j < R.length := by
  unfold rmG at h
  rw [List.getD_eq_getElem?_getD] at h
  by_cases q : j < R.length
  · exact q
  · rw [List.getElem?_eq_none (by omega)] at h; cases h
theorem rm_set {R : List (Option Int)} {k j : Nat} {v : Option Int} (hk : k < R.length) : rmG (R.set k v) j = if j = k then v else rmG R j := by
  unfold rmG
  rw [List.getD_eq_getElem?_getD, List.getD_eq_getElem?_getD, List.getElem?_set]
  by_cases q : k = j
  · subst q; simp [hk]
  · have q2 : ¬ j = k := fun z => q z.symm
    simp [q, q2]
theorem stG_mem {ss : List Stay} {k : Nat} (hk : k < ss.length) : stG ss k ∈ ss := by
  unfold stG
  rw [List.getD_eq_getElem?_getD, List.getElem?_eq_getElem hk]; exact List.getElem_mem hk
theorem stG_of {ss : List Stay} {k : Nat} {s : Stay} (h : ss[k]? = some s) : stG ss k = s := by
  unfold stG
  rw [List.getD_eq_getElem?_getD, h]; rfl
theorem rm_of {R : List (Option Int)} {k : Nat} {s : Option Int} (h : R[k]? = some s) : rmG R k = s := by
  unfold rmG
  rw [List.getD_eq_getElem?_getD, h]; rfl
theorem map_getD {α : Type} (ss : List α) (d : α) : (List.range ss.length).map (fun j => ss.getD j d) = ss := by
  refine List.ext_getElem (by simp) fun i h1 h2 => ?_
  rw [List.getElem_map, List.getElem_range, List.getD_eq_getElem?_getD, List.getElem?_eq_getElem h2]; rfl
theorem filter_idx (ss : List Stay) (p : Stay → Bool) : ((List.range ss.length).filter fun j => p (stG ss j)).length = (ss.filter p).length := by
  have h := congrArg (List.filter p) (map_getD ss st0)
  rw [List.filter_map] at h
  have h2 := congrArg List.length h
  rw [List.length_map] at h2
  exact h2
theorem mem_tkn {ss : List Stay} {R : List (Option Int)} {t : Stay} {i : Nat} {r : Int} : r ∈ tkn ss R t i ↔ ∃ j, j < i ∧ rmG R j = some r ∧ meetB (stG ss j) t = true := by
  unfold tkn
  rw [List.mem_filterMap]
  constructor
  · rintro ⟨j, hj, h⟩
    cases e : rmG R j with
    | none => rw [e] at h; cases h
    | some q =>
      rw [e] at h
      by_cases m : meetB (stG ss j) t = true
      · have h' : (if meetB (stG ss j) t = true then some q else none) = some r := h
        rw [if_pos m] at h'
        exact ⟨j, List.mem_range.mp hj, e.trans h', m⟩
      · have h' : (if meetB (stG ss j) t = true then some q else none) = some r := h
        rw [if_neg m] at h'; cases h'
  · rintro ⟨j, hj, e, m⟩
    refine ⟨j, List.mem_range.mpr hj, ?_⟩
    rw [e]
    show (if meetB (stG ss j) t = true then some r else none) = some r
    rw [if_pos m]
theorem tkn_more {ss : List Stay} {R : List (Option Int)} {t : Stay} {i : Nat} : tkn ss R t (i + 1) = tkn ss R t i ++ (match rmG R i with | some r => if meetB (stG ss i) t = true then [r] else [] | none => []) := by
  unfold tkn
  rw [List.range_succ, List.filterMap_append]
  congr 1
  cases e : rmG R i with
  | none => simp [e]
  | some r =>
    by_cases m : meetB (stG ss i) t = true
    · simp [e, m]
    · simp [e, m]
theorem tkn_len {ss : List Stay} {R : List (Option Int)} {t : Stay} {i : Nat} : (tkn ss R t i).length ≤ i := by
  unfold tkn
  exact Nat.le_trans (List.length_filterMap_le _ _) (by rw [List.length_range]; exact Nat.le_refl _)
theorem free_mem {t : List Int} {m : Nat} {r : Int} (h : r ∈ free t m) : 0 ≤ r ∧ r < m ∧ r ∉ t := by
  obtain ⟨h1, h2⟩ := List.mem_filter.mp h
  obtain ⟨i, hi, rfl⟩ := List.mem_map.mp h1
  have := List.mem_range.mp hi
  exact ⟨by omega, by omega, of_decide_eq_true h2⟩
theorem free_ne {S : Setup} {ss : List Stay} {R : List (Option Int)} {k : Nat} (G : Good S ss R) (F : Fits S ss) (ok : ∀ s ∈ ss, StayOk S s) (hk : k < ss.length) (hn : rmG R k = none) (ho : ∀ j r, rmG R j = some r → (stG ss j).2.1 ≤ (stG ss k).2.1) :
    free (tkn ss R (stG ss k) ss.length) (rooms S (stG ss k)).toNat ≠ [] := by
  intro hf
  have okk : StayOk S (stG ss k) := ok _ (stG_mem hk)
  obtain ⟨o1, o2, o3, o4, o5⟩ := okk
  generalize ht : stG ss k = t at *
  let TI := (List.range ss.length).filter fun j => (rmG R j).isSome && meetB (stG ss j) t
  have sub1 : ((List.range (rooms S t).toNat).map fun i : Nat => (i : Int)) ⊆ TI.map fun j => (rmG R j).getD 0 := by
    intro r hr
    have hnf : r ∉ free (tkn ss R t ss.length) (rooms S t).toNat := by rw [hf]; simp
    have hin : r ∈ tkn ss R t ss.length := by
      by_cases q : r ∈ tkn ss R t ss.length
      · exact q
      · exact absurd (List.mem_filter.mpr ⟨hr, decide_eq_true q⟩) hnf
    obtain ⟨j, hj, e, m⟩ := mem_tkn.mp hin
    exact List.mem_map.mpr ⟨j, List.mem_filter.mpr ⟨List.mem_range.mpr hj, by rw [e, m]; rfl⟩, by rw [e]; rfl⟩
  have nd1 : ((List.range (rooms S t).toNat).map fun i : Nat => (i : Int)).Nodup := List.Pairwise.map _ (fun a b h => by intro q; exact h (by omega)) List.nodup_range
  have l1 := List.Nodup.length_le_of_subset nd1 sub1
  rw [List.length_map, List.length_range, List.length_map] at l1
  let CI := (List.range ss.length).filter fun j => cov t.1 t.2.1 (stG ss j)
  have kn : k ∉ TI := fun q => by
    have := (List.mem_filter.mp q).2
    rw [hn] at this; cases this
  have sub2 : (k :: TI) ⊆ CI := by
    intro j hj
    rcases List.mem_cons.mp hj with h | h
    · rw [h]
      refine List.mem_filter.mpr ⟨List.mem_range.mpr hk, ?_⟩
      rw [ht]; unfold cov; simp; omega
    · obtain ⟨h1, h2⟩ := List.mem_filter.mp h
      rw [Bool.and_eq_true] at h2
      obtain ⟨r, hr⟩ := Option.isSome_iff_exists.mp h2.1
      have hle := ho j r hr
      refine List.mem_filter.mpr ⟨h1, ?_⟩
      have hm := h2.2
      unfold meetB at hm
      simp only [Bool.and_eq_true, decide_eq_true_eq] at hm
      unfold cov
      simp only [Bool.and_eq_true, decide_eq_true_eq]
      exact ⟨hm.1, hle, hm.2.2⟩
  have nd2 : (k :: TI).Nodup := List.nodup_cons.mpr ⟨kn, List.Pairwise.filter _ List.nodup_range⟩
  have l2 := List.Nodup.length_le_of_subset nd2 sub2
  have l3 : CI.length = (ss.filter (cov t.1 t.2.1)).length := filter_idx ss (cov t.1 t.2.1)
  have l4 := F t.1.toNat t.2.1.toNat (by omega) (by omega)
  rw [show ((t.1.toNat : Nat) : Int) = t.1 by omega, show ((t.2.1.toNat : Nat) : Int) = t.2.1 by omega, ← l3] at l4
  have l5 : (CI.length : Int) ≤ rooms S t := l4
  rw [List.length_cons] at l2
  omega
theorem Good.set {S : Setup} {ss : List Stay} {R : List (Option Int)} {k : Nat} {r : Int} (G : Good S ss R) (hk : k < ss.length) (hr : r ∈ free (tkn ss R (stG ss k) ss.length) (rooms S (stG ss k)).toNat) : Good S ss (R.set k (some r)) := by
  obtain ⟨r0, r1, r2⟩ := free_mem hr
  have hk' : k < R.length := by rw [G.len]; exact hk
  have key : ∀ l, l ≠ k → rmG R l = some r → meetB (stG ss l) (stG ss k) = false := fun l hl e => by
    cases q : meetB (stG ss l) (stG ss k) with
    | false => rfl
    | true => exact absurd (mem_tkn.mpr ⟨l, by rw [← G.len]; exact rm_lt e, e, q⟩) r2
  refine ⟨by rw [List.length_set]; exact G.len, fun j q h => ?_, fun j l q h1 h2 hne => ?_⟩
  · rw [rm_set hk'] at h
    by_cases e : j = k
    · rw [if_pos e] at h; cases h; rw [e]; exact ⟨r0, by omega⟩
    · rw [if_neg e] at h; exact G.rng j q h
  · rw [rm_set hk'] at h1 h2
    by_cases e : j = k
    · rw [if_pos e] at h1; cases h1
      have e2 : l ≠ k := fun z => hne (e.trans z.symm)
      rw [if_neg e2] at h2
      rw [e, meet_sym]; exact key l e2 h2
    · rw [if_neg e] at h1
      by_cases e2 : l = k
      · rw [if_pos e2] at h2; cases h2
        rw [e2]; exact key j e h1
      · rw [if_neg e2] at h2; exact G.ncl j l q h1 h2 hne
/-! the order -/
def le2 (ss : List Stay) : Nat → Nat → Bool := fun p q => decide ((stG ss p).2.1 < (stG ss q).2.1 ∨ ((stG ss p).2.1 = (stG ss q).2.1 ∧ (p : Int) ≤ (q : Int)))
def ord (ss : List Stay) (is : List Nat) : List Nat := is.mergeSort (le2 ss)
theorem le2_trans (ss : List Stay) : ∀ a b c, le2 ss a b = true → le2 ss b c = true → le2 ss a c = true := fun a b c h1 h2 => by
  unfold le2 at *
  simp only [decide_eq_true_eq] at *
  omega
theorem le2_total (ss : List Stay) : ∀ a b, (le2 ss a b || le2 ss b a) = true := fun a b => by
  unfold le2
  simp only [Bool.or_eq_true, decide_eq_true_eq]
  omega
theorem ord_pw (ss : List Stay) (is : List Nat) : (ord ss is).Pairwise fun a b => le2 ss a b = true := List.pairwise_mergeSort (le2_trans ss) (le2_total ss) is
theorem ord_perm (ss : List Stay) (is : List Nat) : (ord ss is).Perm is := List.mergeSort_perm is _
theorem ord_filter (ss : List Stay) (is : List Nat) (p : Nat → Bool) : ord ss (is.filter p) = (ord ss is).filter p :=
  List.Perm.eq_of_pairwise (le := fun a b => le2 ss a b = true) (fun a b _ _ h1 h2 => by
    unfold le2 at h1 h2
    simp only [decide_eq_true_eq] at h1 h2
    omega) (ord_pw ss _) ((ord_pw ss is).filter p) ((ord_perm ss _).trans ((ord_perm ss is).filter p).symm)
theorem ord_le {ss : List Stay} {is : List Nat} {i j : Nat} {a b : Nat} (hij : i < j) (ha : (ord ss is)[i]? = some a) (hb : (ord ss is)[j]? = some b) : (stG ss a).2.1 ≤ (stG ss b).2.1 := by
  obtain ⟨h1, e1⟩ := List.getElem?_eq_some_iff.mp ha
  obtain ⟨h2, e2⟩ := List.getElem?_eq_some_iff.mp hb
  have := List.pairwise_iff_getElem.mp (ord_pw ss is) i j h1 h2 hij
  rw [e1, e2] at this
  unfold le2 at this
  simp only [decide_eq_true_eq] at this
  omega
theorem take_le {ss : List Stay} {is : List Nat} {i : Nat} {a b : Nat} (ha : a ∈ (ord ss is).take i) (hb : (ord ss is)[i]? = some b) : (stG ss a).2.1 ≤ (stG ss b).2.1 := by
  obtain ⟨j, hj⟩ := List.mem_iff_getElem?.mp ha
  have hji : j < i := by
    have := (List.getElem?_eq_some_iff.mp hj).1
    rw [List.length_take] at this; omega
  rw [List.getElem?_take_of_lt hji] at hj
  exact ord_le hji hj hb
theorem ord_nodup {ss : List Stay} {is : List Nat} (h : is.Nodup) : (ord ss is).Nodup := (ord_perm ss is).symm.nodup h
theorem take_new {l : List Nat} {i b : Nat} (h : l.Nodup) (hb : l[i]? = some b) : b ∉ l.take i := fun q => by
  obtain ⟨j, hj⟩ := List.mem_iff_getElem?.mp q
  have hji : j < i := by
    have := (List.getElem?_eq_some_iff.mp hj).1
    rw [List.length_take] at this; omega
  rw [List.getElem?_take_of_lt hji] at hj
  obtain ⟨h1, e1⟩ := List.getElem?_eq_some_iff.mp hj
  obtain ⟨h2, e2⟩ := List.getElem?_eq_some_iff.mp hb
  exact List.pairwise_iff_getElem.mp h j i h1 h2 hji (e1.trans e2.symm)
/-! given rooms, and all rooms -/
structure Given (S : Setup) (ss : List Stay) (night : Int) (R : List (Option Int)) : Prop where
  g : Good S ss R
  n : ∀ j, j < ss.length → (rmG R j = none ↔ night < (stG ss j).2.1)
def pick0 (S : Setup) (ss : List Stay) (R : List (Option Int)) (k : Nat) : Int := (free (tkn ss R (stG ss k) ss.length) (rooms S (stG ss k)).toNat).headD 0
def stepR (S : Setup) (ss : List Stay) (R : List (Option Int)) (k : Nat) : List (Option Int) := R.set k (some (pick0 S ss R k))
structure HS (S : Setup) (ss : List Stay) (R0 : List (Option Int)) (ks : List Nat) (R : List (Option Int)) : Prop where
  g : Good S ss R
  o : ∀ j, j ∉ ks → rmG R j = rmG R0 j
  y : ∀ j, j ∈ ks → (rmG R j).isSome = true
theorem head_mem {l : List Int} (h : l ≠ []) : l.headD 0 ∈ l := by
  cases l with
  | nil => exact absurd rfl h
  | cons a r => exact List.mem_cons_self
theorem HS.step {S : Setup} {ss : List Stay} {night : Int} {R0 R : List (Option Int)} {ks : List Nat} {k : Nat} (h : HS S ss R0 ks R) (F : Fits S ss) (ok : ∀ s ∈ ss, StayOk S s) (gv : Given S ss night R0) (hk : k < ss.length) (hn : k ∉ ks) (h0 : rmG R0 k = none) (hle : ∀ j ∈ ks, (stG ss j).2.1 ≤ (stG ss k).2.1) :
    free (tkn ss R (stG ss k) ss.length) (rooms S (stG ss k)).toNat ≠ [] ∧ HS S ss R0 (ks ++ [k]) (stepR S ss R k) := by
  have hRk : rmG R k = none := by rw [h.o k hn]; exact h0
  have hnk := (gv.n k hk).mp h0
  have ho : ∀ j r, rmG R j = some r → (stG ss j).2.1 ≤ (stG ss k).2.1 := fun j r e => by
    by_cases q : j ∈ ks
    · exact hle j q
    · rw [h.o j q] at e
      have hj : j < ss.length := by rw [← gv.g.len]; exact rm_lt e
      have hnn : ¬ night < (stG ss j).2.1 := fun z => by have := (gv.n j hj).mpr z; rw [e] at this; cases this
      omega
  have fne := free_ne h.g F ok hk hRk ho
  have hkR : k < R.length := by rw [h.g.len]; exact hk
  refine ⟨fne, h.g.set hk (head_mem fne), fun j hj => ?_, fun j hj => ?_⟩
  · unfold stepR
    rw [rm_set hkR, if_neg fun z => hj (by rw [z]; simp)]
    exact h.o j fun q => hj (List.mem_append_left _ q)
  · unfold stepR
    rw [rm_set hkR]
    by_cases z : j = k
    · rw [if_pos z]; rfl
    · rw [if_neg z]
      rcases List.mem_append.mp hj with q | q
      · exact h.y j q
      · exact absurd (List.mem_singleton.mp q) z
def left (ss : List Stay) (R0 : List (Option Int)) : List Nat := (ord ss (List.range ss.length)).filter fun k => decide (rmG R0 k = none)
def housed (S : Setup) (ss : List Stay) (R0 : List (Option Int)) (i : Nat) : List (Option Int) := ((left ss R0).take i).foldl (stepR S ss) R0
theorem left_mem {ss : List Stay} {R0 : List (Option Int)} {k : Nat} : k ∈ left ss R0 ↔ k < ss.length ∧ rmG R0 k = none := by
  unfold left
  rw [List.mem_filter, (ord_perm ss _).mem_iff, List.mem_range, decide_eq_true_eq]
theorem left_nodup {ss : List Stay} {R0 : List (Option Int)} : (left ss R0).Nodup := List.Pairwise.filter _ (ord_nodup List.nodup_range)
theorem left_ord (ss : List Stay) (R0 : List (Option Int)) : left ss R0 = ord ss ((List.range ss.length).filter fun k => decide (rmG R0 k = none)) := (ord_filter ss _ _).symm
theorem housed_more {S : Setup} {ss : List Stay} {R0 : List (Option Int)} {i k : Nat} (h : (left ss R0)[i]? = some k) : housed S ss R0 (i + 1) = stepR S ss (housed S ss R0 i) k := by
  unfold housed
  rw [take_more h, List.foldl_append]; rfl
theorem housed_hs {S : Setup} {ss : List Stay} {night : Int} {R0 : List (Option Int)} (F : Fits S ss) (ok : ∀ s ∈ ss, StayOk S s) (gv : Given S ss night R0) : ∀ i, i ≤ (left ss R0).length → HS S ss R0 ((left ss R0).take i) (housed S ss R0 i)
  | 0, _ => ⟨gv.g, fun _ _ => rfl, fun _ h => nomatch h⟩
  | i + 1, hi => by
    have ih := housed_hs F ok gv i (by omega)
    have e : (left ss R0)[i]? = some ((left ss R0)[i]) := List.getElem?_eq_getElem (by omega)
    generalize (left ss R0)[i] = k at e
    obtain ⟨hk, h0⟩ := left_mem.mp (List.mem_of_getElem? e)
    have st := ih.step F ok gv hk (take_new left_nodup e) h0 fun j hj => by
      rw [left_ord] at hj e
      exact take_le hj e
    rw [housed_more e, take_more e]
    exact st.2
theorem housed_free {S : Setup} {ss : List Stay} {night : Int} {R0 : List (Option Int)} (F : Fits S ss) (ok : ∀ s ∈ ss, StayOk S s) (gv : Given S ss night R0) {i k : Nat} (e : (left ss R0)[i]? = some k) :
    free (tkn ss (housed S ss R0 i) (stG ss k) ss.length) (rooms S (stG ss k)).toNat ≠ [] := by
  obtain ⟨hk, h0⟩ := left_mem.mp (List.mem_of_getElem? e)
  have hi := (List.getElem?_eq_some_iff.mp e).1
  exact ((housed_hs F ok gv i (by omega)).step F ok gv hk (take_new left_nodup e) h0 fun j hj => by
    rw [left_ord] at hj e
    exact take_le hj e).1
abbrev housedAll (S : Setup) (ss : List Stay) (R0 : List (Option Int)) : List (Option Int) := housed S ss R0 (left ss R0).length
/-- all have rooms, the given ones stay -/
theorem housed_all {S : Setup} {ss : List Stay} {night : Int} {R0 : List (Option Int)} (F : Fits S ss) (ok : ∀ s ∈ ss, StayOk S s) (gv : Given S ss night R0) : Good S ss (housedAll S ss R0) ∧ (∀ j, j < ss.length → (rmG (housedAll S ss R0) j).isSome = true) ∧ ∀ j r, rmG R0 j = some r → rmG (housedAll S ss R0) j = some r := by
  have h := housed_hs F ok gv (left ss R0).length (Nat.le_refl _)
  rw [List.take_length] at h
  refine ⟨h.g, fun j hj => ?_, fun j r e => ?_⟩
  · cases q : rmG R0 j with
    | none => exact h.y j (left_mem.mpr ⟨hj, q⟩)
    | some r =>
      have e2 := h.o j fun z => by (have := (left_mem.mp z).2; rw [q] at this; cases this)
      rw [e2, q]; rfl
  · have e2 := h.o j fun z => by (have := (left_mem.mp z).2; rw [e] at this; cases this)
    rw [e2]; exact e
/-- the law's own walk: over all, by order -/
def housedL (S : Setup) (ss : List Stay) (R0 : List (Option Int)) (i : Nat) : List (Option Int) := (((ord ss (List.range ss.length)).take i).filter fun k => decide (rmG R0 k = none)).foldl (stepR S ss) R0
theorem housedL_all (S : Setup) (ss : List Stay) (R0 : List (Option Int)) : housedL S ss R0 ss.length = housedAll S ss R0 := by
  have hl : (ord ss (List.range ss.length)).length = ss.length := by rw [(ord_perm ss _).length_eq, List.length_range]
  unfold housedL housedAll housed left
  rw [List.take_length, List.take_of_length_le (by rw [hl]; exact Nat.le_refl _)]
theorem housedL_hs {S : Setup} {ss : List Stay} {night : Int} {R0 : List (Option Int)} (F : Fits S ss) (ok : ∀ s ∈ ss, StayOk S s) (gv : Given S ss night R0) : ∀ i, i ≤ ss.length → HS S ss R0 (((ord ss (List.range ss.length)).take i).filter fun k => decide (rmG R0 k = none)) (housedL S ss R0 i)
  | 0, _ => ⟨gv.g, fun _ _ => rfl, fun _ h => nomatch h⟩
  | i + 1, hi => by
    have ih := housedL_hs F ok gv i (by omega)
    have hl : (ord ss (List.range ss.length)).length = ss.length := by rw [(ord_perm ss _).length_eq, List.length_range]
    have e : (ord ss (List.range ss.length))[i]? = some ((ord ss (List.range ss.length))[i]) := List.getElem?_eq_getElem (by omega)
    generalize (ord ss (List.range ss.length))[i] = k at e
    have hk : k < ss.length := List.mem_range.mp ((ord_perm ss _).mem_iff.mp (List.mem_of_getElem? e))
    have hnk := take_new (ord_nodup List.nodup_range) e
    unfold housedL
    rw [take_more e, List.filter_append]
    by_cases q : rmG R0 k = none
    · have st := ih.step F ok gv hk (fun z => hnk (List.mem_filter.mp z).1) q fun j hj => take_le (List.mem_filter.mp hj).1 e
      have : ([k].filter fun k => decide (rmG R0 k = none)) = [k] := by simp [q]
      rw [this, List.foldl_append]
      exact st.2
    · have : ([k].filter fun k => decide (rmG R0 k = none)) = [] := by simp [q]
      rw [this, List.append_nil]
      exact ih
theorem housedL_step {S : Setup} {ss : List Stay} {night : Int} {R0 : List (Option Int)} (F : Fits S ss) (ok : ∀ s ∈ ss, StayOk S s) (gv : Given S ss night R0) {i k : Nat} (e : (ord ss (List.range ss.length))[i]? = some k) :
    k < ss.length ∧ rmG (housedL S ss R0 i) k = rmG R0 k ∧ (rmG R0 k ≠ none → housedL S ss R0 (i + 1) = housedL S ss R0 i) ∧ (rmG R0 k = none → free (tkn ss (housedL S ss R0 i) (stG ss k) ss.length) (rooms S (stG ss k)).toNat ≠ [] ∧ housedL S ss R0 (i + 1) = stepR S ss (housedL S ss R0 i) k) := by
  have hl : (ord ss (List.range ss.length)).length = ss.length := by rw [(ord_perm ss _).length_eq, List.length_range]
  have hi := (List.getElem?_eq_some_iff.mp e).1
  have ih := housedL_hs F ok gv i (by omega)
  have hk : k < ss.length := List.mem_range.mp ((ord_perm ss _).mem_iff.mp (List.mem_of_getElem? e))
  have hnk := take_new (ord_nodup List.nodup_range) e
  refine ⟨hk, ih.o k fun z => hnk (List.mem_filter.mp z).1, fun q => ?_, fun q => ?_⟩
  · unfold housedL
    rw [take_more e, List.filter_append]
    have : ([k].filter fun k => decide (rmG R0 k = none)) = [] := by simp [q]
    rw [this, List.append_nil]
  · refine ⟨(ih.step F ok gv hk (fun z => hnk (List.mem_filter.mp z).1) q fun j hj => take_le (List.mem_filter.mp hj).1 e).1, ?_⟩
    unfold housedL
    rw [take_more e, List.filter_append]
    have : ([k].filter fun k => decide (rmG R0 k = none)) = [k] := by simp [q]
    rw [this, List.foldl_append]; rfl
/-! the law's drawn rooms -/
structure GI (S : Setup) (ss : List Stay) (night : Int) (i : Nat) (R : List (Option Int)) : Prop where
  g : Good S ss R
  y : ∀ j, (rmG R j).isSome = true ↔ j ∈ (ord ss (List.range ss.length)).take i ∧ (stG ss j).2.1 ≤ night
theorem GI.start (S : Setup) (ss : List Stay) (night : Int) : GI S ss night 0 (ss.map fun _ => none) := by
  have hn : ∀ j, rmG (ss.map fun _ => (none : Option Int)) j = none := fun j => by
    unfold rmG
    rw [List.getD_eq_getElem?_getD, List.getElem?_map]
    cases ss[j]? <;> rfl
  refine ⟨⟨by rw [List.length_map], fun j r h => by (rw [hn] at h; cases h), fun j l r h => by (rw [hn] at h; cases h)⟩, fun j => ⟨fun h => by (rw [hn] at h; cases h), fun h => nomatch h.1⟩⟩
theorem GI.free {S : Setup} {ss : List Stay} {night : Int} {i k : Nat} {R : List (Option Int)} (h : GI S ss night i R) (F : Fits S ss) (ok : ∀ s ∈ ss, StayOk S s) (e : (ord ss (List.range ss.length))[i]? = some k) : k < ss.length ∧ free (tkn ss R (stG ss k) ss.length) (rooms S (stG ss k)).toNat ≠ [] := by
  have hk : k < ss.length := List.mem_range.mp ((ord_perm ss _).mem_iff.mp (List.mem_of_getElem? e))
  have hnk := take_new (ord_nodup List.nodup_range) e
  refine ⟨hk, free_ne h.g F ok hk ?_ fun j r hr => take_le ((h.y j).mp (by rw [hr]; rfl)).1 e⟩
  cases q : rmG R k with
  | none => rfl
  | some r => exact absurd ((h.y k).mp (by rw [q]; rfl)).1 hnk
theorem GI.skip {S : Setup} {ss : List Stay} {night : Int} {i k : Nat} {R : List (Option Int)} (h : GI S ss night i R) (e : (ord ss (List.range ss.length))[i]? = some k) (hn : ¬ (stG ss k).2.1 ≤ night) : GI S ss night (i + 1) R := by
  refine ⟨h.g, fun j => (h.y j).trans ⟨fun ⟨a, b⟩ => ⟨by rw [take_more e]; exact List.mem_append_left _ a, b⟩, fun ⟨a, b⟩ => ⟨?_, b⟩⟩⟩
  rw [take_more e] at a
  rcases List.mem_append.mp a with a | a
  · exact a
  · rw [List.mem_singleton.mp a] at b; exact absurd b hn
theorem GI.more {S : Setup} {ss : List Stay} {night : Int} {i k : Nat} {r : Int} {R : List (Option Int)} (h : GI S ss night i R) (e : (ord ss (List.range ss.length))[i]? = some k) (hk : k < ss.length) (hn : (stG ss k).2.1 ≤ night) (hr : r ∈ Toy.free (tkn ss R (stG ss k) ss.length) (rooms S (stG ss k)).toNat) : GI S ss night (i + 1) (R.set k (some r)) := by
  have hkR : k < R.length := by rw [h.g.len]; exact hk
  refine ⟨h.g.set hk hr, fun j => ?_⟩
  rw [rm_set hkR, take_more e, List.mem_append]
  by_cases q : j = k
  · subst q; simp [hn]
  · rw [if_neg q]
    refine (h.y j).trans ⟨fun ⟨a, b⟩ => ⟨.inl a, b⟩, fun ⟨a, b⟩ => ⟨?_, b⟩⟩
    rcases a with a | a
    · exact a
    · exact absurd (List.mem_singleton.mp a) q
theorem GI.fin {S : Setup} {ss : List Stay} {night : Int} {R : List (Option Int)} (h : GI S ss night ss.length R) : Given S ss night R := by
  have hl : (ord ss (List.range ss.length)).length = ss.length := by rw [(ord_perm ss _).length_eq, List.length_range]
  refine ⟨h.g, fun j hj => ?_⟩
  have y := h.y j
  rw [List.take_of_length_le (by rw [hl]; exact Nat.le_refl _)] at y
  have m : j ∈ ord ss (List.range ss.length) := (ord_perm ss _).mem_iff.mpr (List.mem_range.mpr hj)
  constructor
  · intro q
    by_cases z : (stG ss j).2.1 ≤ night
    · have := y.mpr ⟨m, z⟩; rw [q] at this; cases this
    · omega
  · intro q
    cases w : rmG R j with
    | none => rfl
    | some r => have := (y.mp (by rw [w]; rfl)).2; omega

/-! ### the inn's rooms -/
def P_is_integer (K : PySem.W.Frag) (A : Ad) (x0 : V) (H : Hp) (Q : VK) : Prop := ∃ z : Int, x0 = .int z ∧ Q (.bl true) H
def sp_is_integer (K : PySem.W.Frag) (A : Ad) : Sp := fun vs H Q _ => ∃ x0, vs = [x0] ∧ P_is_integer K A x0 H Q
theorem c_is_integer {K : PySem.W.Frag} {A : Ad} {x0 : V} {H : Hp} {Q : VK} {E : XK} (h : P_is_integer K A x0 H Q) : sp_is_integer K A [x0] H Q E := ⟨_, rfl, h⟩
theorem sc_is_integer : FnScope ["value"] ["value"] (defScope s_is_integer) := ⟨rfl, rfl, rfl, by decide +kernel, rfl, by decide +kernel, by decide +kernel⟩
def t_is_integer (K : PySem.W.Frag) (A : Ad) : TS :=
  (tRet (tAndV (tCB (rIsi K) (tCons (tVar 0) (tCons (tC (.ty "int")) tNil))) (tNotV (tCB (rIsi K) (tCons (tVar 0) (tCons (tC (.ty "bool")) tNil))))))
theorem pu_is_integer (T : Txt K mg A) {x0 : V} {H : Hp} {Q : VK} (h : P_is_integer K A x0 H Q) : t_is_integer K A { nx := fun _ H' => Q .non H', rt := Q } [some x0] H := by
  obtain ⟨z, rfl, k⟩ := h
  unfold t_is_integer
  walk_at "go"
  exact k
theorem ok_is_integer {f : Addr} {fd : FuncData} (F : Fun K "is_integer" "is_integer" s_is_integer f fd) (T : Txt K mg A)  : FnOk P w K mg base CX0 (1) f fd ["value"] (sp_is_integer K A) := by
  refine F.ok sc_is_integer (fun vs H Q E h => ?_) (fun cdv Ar outer s H vs Q E hr h => ⟨t_is_integer K A, ?_, ?_⟩)
  · obtain ⟨x0, rfl, _⟩ := h
    rfl
  · have hu := hu_of hr
    exact (pss_one (ps_ret (pe_and (pe_callB call_isi (by rfl) T.b_isinstance (by decide +kernel) (pa_cons (pv 0) (pa_cons (pe_bltn (by rfl) T.b_int (by decide +kernel) (v := .ty "int") rfl) pa_nil))) (pe_one (pe_not (pe_callB call_isi (by rfl) T.b_isinstance (by decide +kernel) (pa_cons (pv 0) (pa_cons (pe_bltn (by rfl) T.b_bool (by decide +kernel) (v := .ty "bool") rfl) pa_nil))))))))
  · obtain ⟨x0, rfl, h⟩ := h
    exact pu_is_integer T h
def P_is_from (K : PySem.W.Frag) (A : Ad) (x0 x1 x2 : V) (H : Hp) (Q : VK) : Prop := ∃ z a b : Int, x0 = .int z ∧ x1 = .int a ∧ x2 = .int b ∧ Q (.bl (decide (a ≤ z) && decide (z ≤ b))) H
def sp_is_from (K : PySem.W.Frag) (A : Ad) : Sp := fun vs H Q _ => ∃ x0 x1 x2, vs = [x0, x1, x2] ∧ P_is_from K A x0 x1 x2 H Q
theorem c_is_from {K : PySem.W.Frag} {A : Ad} {x0 x1 x2 : V} {H : Hp} {Q : VK} {E : XK} (h : P_is_from K A x0 x1 x2 H Q) : sp_is_from K A [x0, x1, x2] H Q E := ⟨_, _, _, rfl, h⟩
theorem sc_is_from : FnScope ["value", "least", "most"] ["value", "least", "most"] (defScope s_is_from) := ⟨rfl, rfl, rfl, by decide +kernel, rfl, by decide +kernel, by decide +kernel⟩
def t_is_from (K : PySem.W.Frag) (A : Ad) : TS :=
  (tRet (tAndV (tCl (sp_is_integer K A) (tCons (tVar 0) tNil)) (tChain cLe cLe (tVar 1) (tVar 0) (tVar 2))))
theorem pu_is_from (T : Txt K mg A) {x0 x1 x2 : V} {H : Hp} {Q : VK} (h : P_is_from K A x0 x1 x2 H Q) : t_is_from K A { nx := fun _ H' => Q .non H', rt := Q } [some x0, some x1, some x2] H := by
  obtain ⟨z, a, b, rfl, rfl, rfl, k⟩ := h
  unfold t_is_from
  walk_at "go"
  refine c_is_integer ⟨_, rfl, ?_⟩
  walk_at "go"
  refine g_ite (fun c => ?_) (fun c => ?_)
  · walk_at "go"
    rw [decide_eq_true c, Bool.true_and] at k
    exact k
  · rw [decide_eq_false c, Bool.false_and] at k
    exact k
theorem ok_is_from {f : Addr} {fd : FuncData} (F : Fun K "is_from" "is_from" s_is_from f fd) (T : Txt K mg A) (c_is_integer : Cal P w K mg base "is_integer" 1 ["value"] (sp_is_integer K A)) : FnOk P w K mg base CX0 (2) f fd ["value", "least", "most"] (sp_is_from K A) := by
  refine F.ok sc_is_from (fun vs H Q E h => ?_) (fun cdv Ar outer s H vs Q E hr h => ⟨t_is_from K A, ?_, ?_⟩)
  · obtain ⟨x0, x1, x2, rfl, _⟩ := h
    rfl
  · have hu := hu_of hr
    exact (pss_one (ps_ret (pe_and (pe_cl c_is_integer (hr.mono (by first | decide | omega)) (by rfl) (pa_cons (pv 0) pa_nil)) (pe_one (pe_chain c_le c_le (pv 1) (pv 0) (pv 2))))))
  · obtain ⟨x0, x1, x2, rfl, h⟩ := h
    exact pu_is_from T h
def P_nights_of (K : PySem.W.Frag) (A : Ad) (x0 : V) (H : Hp) (Q : VK) : Prop := ∃ (a : Addr) (s : Stay), x0 = .ref a ∧ H a = some (.tup [.int s.1, .int s.2.1, .int s.2.2]) ∧ 0 ≤ s.2.1 ∧ s.2.1 ≤ 10000 ∧ 0 ≤ s.2.2 ∧ s.2.2 ≤ 10000 ∧
  ∀ (p : Addr) (H' : Hp), H p = none → Fr [] H H' → H' p = some (.lst ((List.range (s.2.2 - s.2.1).toNat).map fun i => V.int (s.2.1 + (i : Nat)))) → Q (.ref p) H'
def sp_nights_of (K : PySem.W.Frag) (A : Ad) : Sp := fun vs H Q _ => ∃ x0, vs = [x0] ∧ P_nights_of K A x0 H Q
theorem c_nights_of {K : PySem.W.Frag} {A : Ad} {x0 : V} {H : Hp} {Q : VK} {E : XK} (h : P_nights_of K A x0 H Q) : sp_nights_of K A [x0] H Q E := ⟨_, rfl, h⟩
theorem sc_nights_of : FnScope ["stay"] ["stay"] (defScope s_nights_of) := ⟨rfl, rfl, rfl, by decide +kernel, rfl, by decide +kernel, by decide +kernel⟩
def t_nights_of (K : PySem.W.Frag) (A : Ad) : TS :=
  (tRet (tLstRg (tRg2 (tOp (rIxT K) (tVar 0) (tC (.int 1))) (tOp (rIxT K) (tVar 0) (tC (.int 2))))))
theorem pu_nights_of (T : Txt K mg A) {x0 : V} {H : Hp} {Q : VK} (h : P_nights_of K A x0 H Q) : t_nights_of K A { nx := fun _ H' => Q .non H', rt := Q } [some x0] H := by
  obtain ⟨a, s, rfl, e, b0, b1, b2, b3, k⟩ := h
  unfold t_nights_of
  walk_at "go"
  rename_i p H1 n1 f1 e1
  exact k p H1 n1 f1 e1
theorem ok_nights_of {f : Addr} {fd : FuncData} (F : Fun K "nights_of" "nights_of" s_nights_of f fd) (T : Txt K mg A)  : FnOk P w K mg base CX0 (1) f fd ["stay"] (sp_nights_of K A) := by
  refine F.ok sc_nights_of (fun vs H Q E h => ?_) (fun cdv Ar outer s H vs Q E hr h => ⟨t_nights_of K A, ?_, ?_⟩)
  · obtain ⟨x0, rfl, _⟩ := h
    rfl
  · have hu := hu_of hr
    exact (pss_one (ps_ret (pe_listRg rfl (by rfl) T.b_list (prg_2 (by rfl) T.b_range (pe_ix ix_tup (pv 0) pe_int (fun _ _ => rfl)) (pe_ix ix_tup (pv 0) pe_int (fun _ _ => rfl))))))
  · obtain ⟨x0, rfl, h⟩ := h
    exact pu_nights_of T h

theorem meet_mm {s t : Stay} (hs : s.2.1 < s.2.2) (ht : t.2.1 < t.2.2) : meetB s t = (decide (s.1 = t.1) && decide ((if t.2.1 > s.2.1 then t.2.1 else s.2.1) < (if t.2.2 < s.2.2 then t.2.2 else s.2.2))) := by
  unfold meetB
  rw [Bool.eq_iff_iff]
  simp only [Bool.and_eq_true, decide_eq_true_eq]
  split <;> split <;> omega
def P_meet (K : PySem.W.Frag) (A : Ad) (x0 x1 : V) (H : Hp) (Q : VK) : Prop := ∃ (s t : Stay), Da H x0 (stayD s) ∧ Da H x1 (stayD t) ∧ s.2.1 < s.2.2 ∧ t.2.1 < t.2.2 ∧ Q (.bl (meetB s t)) H
def sp_meet (K : PySem.W.Frag) (A : Ad) : Sp := fun vs H Q _ => ∃ x0 x1, vs = [x0, x1] ∧ P_meet K A x0 x1 H Q
theorem c_meet {K : PySem.W.Frag} {A : Ad} {x0 x1 : V} {H : Hp} {Q : VK} {E : XK} (h : P_meet K A x0 x1 H Q) : sp_meet K A [x0, x1] H Q E := ⟨_, _, rfl, h⟩
theorem sc_meet : FnScope ["first", "second"] ["first", "second"] (defScope s_meet) := ⟨rfl, rfl, rfl, by decide +kernel, rfl, by decide +kernel, by decide +kernel⟩
def t_meet (K : PySem.W.Frag) (A : Ad) : TS :=
  (tRet (tAndV (tOp rEq (tOp (rIxT K) (tVar 0) (tC (.int 0))) (tOp (rIxT K) (tVar 1) (tC (.int 0)))) (tOp cLt (tCB rMax2 (tCons (tOp (rIxT K) (tVar 0) (tC (.int 1))) (tCons (tOp (rIxT K) (tVar 1) (tC (.int 1))) tNil))) (tCB rMin2 (tCons (tOp (rIxT K) (tVar 0) (tC (.int 2))) (tCons (tOp (rIxT K) (tVar 1) (tC (.int 2))) tNil))))))
theorem pu_meet (T : Txt K mg A) {x0 x1 : V} {H : Hp} {Q : VK} (h : P_meet K A x0 x1 H Q) : t_meet K A { nx := fun _ H' => Q .non H', rt := Q } [some x0, some x1] H := by
  obtain ⟨s, t, ds, dt, hs, ht, k⟩ := h
  obtain ⟨a, rfl, ea⟩ := stay_at ds
  obtain ⟨b, rfl, eb⟩ := stay_at dt
  rw [meet_mm hs ht] at k
  unfold t_meet
  walk_at "go"
  refine g_iteB (fun c => ?_) (fun c => ?_)
  · walk_at "go"
    rw [c, Bool.true_and] at k
    exact k
  · rw [c, Bool.false_and] at k
    exact k
theorem ok_meet {f : Addr} {fd : FuncData} (F : Fun K "meet" "meet" s_meet f fd) (T : Txt K mg A)  : FnOk P w K mg base CX0 (1) f fd ["first", "second"] (sp_meet K A) := by
  refine F.ok sc_meet (fun vs H Q E h => ?_) (fun cdv Ar outer s H vs Q E hr h => ⟨t_meet K A, ?_, ?_⟩)
  · obtain ⟨x0, x1, rfl, _⟩ := h
    rfl
  · have hu := hu_of hr
    exact (pss_one (ps_ret (pe_and (pe_cmpR op_eq (pe_ix ix_tup (pv 0) pe_int (fun _ _ => rfl)) (pe_ix ix_tup (pv 1) pe_int (fun _ _ => rfl)) (nomark _)) (pe_one (pe_cmpR c_lt (pe_callB (b_max2 rfl) (by rfl) T.b_max (by decide +kernel) (pa_cons (pe_ix ix_tup (pv 0) pe_int (fun _ _ => rfl)) (pa_cons (pe_ix ix_tup (pv 1) pe_int (fun _ _ => rfl)) pa_nil))) (pe_callB (b_min2 rfl) (by rfl) T.b_min (by decide +kernel) (pa_cons (pe_ix ix_tup (pv 0) pe_int (fun _ _ => rfl)) (pa_cons (pe_ix ix_tup (pv 1) pe_int (fun _ _ => rfl)) pa_nil))) (nomark _))))))
  · obtain ⟨x0, x1, rfl, h⟩ := h
    exact pu_meet T h
def P_check_room (K : PySem.W.Frag) (A : Ad) (x0 x1 : V) (H : Hp) (Q : VK) : Prop := ∃ (r p : Addr) (xs : List V) (S : Setup) (ss : List Stay), x0 = .ref r ∧ x1 = .ref p ∧ H r = some (.tup (S.rooms.map V.int)) ∧ H p = some (.lst xs) ∧ DaL H xs (ss.map stayD) ∧ ss.length ≤ 100 ∧ SetupOk S ∧ (∀ s ∈ ss, StayOk S s) ∧ Fits S ss ∧
  ∀ H', Fr [] H H' → Q .non H'
theorem room_at {S : Setup} {s : Stay} (ok : StayOk S s) : atI (S.rooms.map V.int) s.1 = some (.int (rooms S s)) := by
  obtain ⟨o1, o2, _⟩ := ok
  have hk : s.1.toNat < S.rooms.length := by omega
  have e : (S.rooms.map V.int)[s.1.toNat]? = some (.int (rooms S s)) := by
    unfold rooms
    rw [List.getElem?_map, List.getElem?_eq_getElem hk, List.getD_eq_getElem?_getD, List.getElem?_eq_getElem hk]; rfl
  have := atI_nat e
  rw [show ((s.1.toNat : Nat) : Int) = s.1 by omega] at this
  exact this
theorem meet_one {s : Stay} (k n : Int) (h : s.2.1 < s.2.2) : meetB s (k, n, n + 1) = cov k n s := by
  unfold meetB cov
  rw [Bool.eq_iff_iff]
  simp only [Bool.and_eq_true, decide_eq_true_eq]
  omega
def sp_check_room (K : PySem.W.Frag) (A : Ad) : Sp := fun vs H Q _ => ∃ x0 x1, vs = [x0, x1] ∧ P_check_room K A x0 x1 H Q
theorem c_check_room {K : PySem.W.Frag} {A : Ad} {x0 x1 : V} {H : Hp} {Q : VK} {E : XK} (h : P_check_room K A x0 x1 H Q) : sp_check_room K A [x0, x1] H Q E := ⟨_, _, rfl, h⟩
theorem sc_check_room : FnScope ["rooms", "stays", "stay", "night", "one", "other"] ["rooms", "stays"] (defScope s_check_room) := ⟨rfl, rfl, rfl, by decide +kernel, rfl, by decide +kernel, by decide +kernel⟩
def t_check_room (K : PySem.W.Frag) (A : Ad) : TS :=
  (tFor (iList K (tVar 1)) (gName 2) (tFor (iList K (tCl (sp_nights_of K A) (tCons (tVar 2) tNil))) (gName 3) (tSeq (tAsg (tTup (tCons (tOp (rIxT K) (tVar 2) (tC (.int 0))) (tCons (tVar 3) (tCons (tOp oAdd (tVar 3) (tC (.int 1))) tNil)))) (gName 4))
    (tIfS (tTest (tOp cGt (tCB (rLenSq K) (tCons (tLc (iList K (tVar 1)) (gName 5) (tB (tCl (sp_meet K A) (tCons (tVar 5) (tCons (tVar 4) tNil)))) (tVar 5) [5]) tNil)) (tOp (rIxT K) (tVar 0) (tOp (rIxT K) (tVar 2) (tC (.int 0)))))) tDead tNext))))
theorem pu_check_room (T : Txt K mg A) {x0 x1 : V} {H : Hp} {Q : VK} (h : P_check_room K A x0 x1 H Q) : t_check_room K A { nx := fun _ H' => Q .non H', rt := Q } [some x0, some x1, none, none, none, none] H := by
  obtain ⟨r, p, xs, S, ss, rfl, rfl, er, ep, ds, hl, so, ok, F, k⟩ := h
  have hxl : xs.length = ss.length := by rw [ds.len, List.length_map]
  unfold t_check_room
  walk_at "go"
  refine f_list (xs := xs) (fun i σ H' => ∃ v2 v3 v4 v5, σ = [some (.ref r), some (.ref p), v2, v3, v4, v5] ∧ Fr [] H H') ⟨_, _, _, _, rfl, Fr.refl⟩ (fun i σ H' _ ⟨_, _, _, _, _, f⟩ => SqL.of (f.at0 ep)) ?_ ?_
  · rintro i x σ H1 hx ⟨v2, v3, v4, v5, rfl, f1⟩
    obtain ⟨s, a, hs, rfl, ea, _⟩ := stays_get ds hx
    have oks := ok s (List.mem_of_getElem? hs)
    obtain ⟨o1, o2, o3, o4, o5⟩ := id oks
    have n12 := so.n2
    walk_at "go"
    refine c_nights_of ⟨a, s, rfl, f1.tup _ _ ea, o3, by omega, by omega, by omega, fun q H2 n2 f2 e2 => ?_⟩
    walk_at "go"
    refine f_list (xs := (List.range (s.2.2 - s.2.1).toNat).map fun i => V.int (s.2.1 + (i : Nat))) (fun j σ H' => ∃ v3 v4 v5, σ = [some (.ref r), some (.ref p), some (.ref a), v3, v4, v5] ∧ Fr [] H2 H') ⟨_, _, _, rfl, Fr.refl⟩ (fun i σ H' _ ⟨_, _, _, _, f⟩ => SqL.of (f.at0 e2)) ?_ ?_
    · rintro j y σ H3 hy ⟨v3, v4, v5, rfl, f3⟩
      have hj : j < (s.2.2 - s.2.1).toNat := by have := (List.getElem?_eq_some_iff.mp hy).1; simpa using this
      rw [List.getElem?_map, List.getElem?_range hj] at hy
      cases hy
      have F3 : Fr [] H H3 := (f1.then0 f2).then0 f3
      have ea3 := F3.tup _ _ ea
      have er3 := F3.tup _ _ er
      walk_at "go"
      rename_i t H4 n4 f4 e4
      have F4 : Fr [] H H4 := F3.then0 f4
      have ep4 := F4.at0 ep
      have er4 := F4.tup _ _ er
      have ea4 := F4.tup _ _ ea
      walk_at "go"
      refine l_list (xs := xs) fun Dl H5 nD f5 e5 => ⟨fun m acc H' => Fr [] H4 H' ∧ acc.length = ((ss.take m).filter (cov s.1 (s.2.1 + (j : Nat)))).length, ⟨f5, rfl⟩, fun m acc H' ⟨f, _⟩ => SqL.of (f.at0 ep4), fun m x acc H' hx ha ⟨f, hacc⟩ => ?_, fun acc H' ha ⟨f, hacc⟩ => ?_⟩
      · obtain ⟨u, b, hu, rfl, eb, du⟩ := stays_get ds hx
        have oku := ok u (List.mem_of_getElem? hu)
        have hul := (List.getElem?_eq_some_iff.mp hu).1
        have FF : Fr [] H H' := F4.then0 f
        have fm := filter_more (f := cov s.1 (s.2.1 + (j : Nat))) hu
        have hal : acc.length ≤ 100 := by rw [hacc]; exact Nat.le_trans (List.length_filter_le _ _) (by rw [List.length_take]; omega)
        walk_at "go"
        refine ⟨rfl, ?_⟩
        walk_at "go"
        refine c_meet ⟨u, (s.1, s.2.1 + (j : Nat), s.2.1 + (j : Nat) + 1), Da.frL FF du rfl, .tup (f.tup _ _ e4) (Nat.le_of_ble_eq_true rfl) (.cons (.int _) (.cons (.int _) (.one' (.int _)))), oku.2.2.2.1, by show s.2.1 + (j : Nat) < s.2.1 + (j : Nat) + 1; omega, ?_⟩
        rw [meet_one _ _ oku.2.2.2.1]
        walk_at "go"
        by_cases c : cov s.1 (s.2.1 + (j : Nat)) u = true
        · rw [c]
          walk_at "go"
          refine lcY_of ha (by walk_at "sz") fun H6 f6 e6 => ⟨f.own1 f6 nD, ?_⟩
          rw [fm, if_pos c, List.length_append, List.length_append, hacc]; rfl
        · rw [(by simpa using c : cov s.1 (s.2.1 + (j : Nat)) u = false)]
          walk_at "go"
          refine lcN_of ha ⟨f, ?_⟩
          rw [fm, if_neg c, List.append_nil]; exact hacc
      · rw [hxl, List.take_length] at hacc
        have er5 := f.tup _ _ er4
        have ea5 := f.tup _ _ ea4
        walk_at "go"
        refine g_ixT (SqT.of er5) (room_at oks) ?_
        walk_at "go"
        have hF := F s.1.toNat (s.2.1 + (j : Nat)).toNat (by omega) (by omega)
        rw [show ((s.1.toNat : Nat) : Int) = s.1 by omega, show (((s.2.1 + (j : Nat)).toNat : Nat) : Int) = s.2.1 + (j : Nat) by omega, ← hacc] at hF
        refine g_ite (fun c => absurd hF (by show ¬ ((acc.length : Int) ≤ rooms S s); omega)) (fun _ => ?_)
        walk_at "go"
        exact ⟨_, _, _, rfl, (f3.then0 f4).then0 f⟩
    · rintro σ H3 ⟨v3, v4, v5, rfl, f3⟩
      exact ⟨_, _, _, _, rfl, (f1.then0 f2).then0 f3⟩
  · rintro σ H1 ⟨v2, v3, v4, v5, rfl, f1⟩
    walk_at "go"
    exact k H1 f1
theorem ok_check_room {f : Addr} {fd : FuncData} (F : Fun K "check_room" "check_room" s_check_room f fd) (T : Txt K mg A) (c_nights_of : Cal P w K mg base "nights_of" 1 ["stay"] (sp_nights_of K A)) (c_meet : Cal P w K mg base "meet" 1 ["first", "second"] (sp_meet K A)) : FnOk P w K mg base CX0 (2) f fd ["rooms", "stays"] (sp_check_room K A) := by
  refine F.ok sc_check_room (fun vs H Q E h => ?_) (fun cdv Ar outer s H vs Q E hr h => ⟨t_check_room K A, ?_, ?_⟩)
  · obtain ⟨x0, x1, rfl, _⟩ := h
    rfl
  · have hu := hu_of hr
    exact (pss_one (ps_for PassesOwn.never rfl (pi_list (pv 1)) (pg_name (i := 2) sc_check_room.nd rfl (Or.inl rfl)) (pss_one (ps_for PassesOwn.never rfl (pi_list (pe_cl c_nights_of (hr.mono (by first | decide | omega)) (by rfl) (pa_cons (pv 2) pa_nil))) (pg_name (i := 3) sc_check_room.nd rfl (Or.inl rfl)) (pss_cons (ps_set (i := 4) sc_check_room.nd rfl (Or.inr rfl) (pe_tup (pa_cons (pe_ix ix_tup (pv 2) pe_int (fun _ _ => rfl)) (pa_cons (pv 3) (pa_cons (pe_op o_add (pv 3) pe_int) pa_nil)))))
    (pss_one (ps_if (pt_cmpR c_gt (pe_callB b_len (by rfl) T.b_len (by decide +kernel) (pa_cons (pe_lc (own := [("other", 5)]) (g := (gName 5)) (tt := (tB (tCl (sp_meet K A) (tCons (tVar 5) (tCons (tVar 4) tNil))))) rfl sc_check_room.nd (pi_list (pv 1)) (blkOk_by (N := ["rooms", "stays", "stay", "night", "one", "other"]) (sc := defScope s_check_room) (own := [("other", 5)]) (by decide +kernel)) (fun _ _ _ _ _ => (pg_name (i := 5) sc_check_room.nd rfl (Or.inl rfl))) (fun _ _ _ _ _ => (pts_one (pt_val (pe_cl c_meet (hr.mono (by first | decide | omega)) (by rfl) (pa_cons (pv 5) (pa_cons (pv 4) pa_nil)))))) (fun _ _ _ _ _ => (pv 5))) pa_nil)) (pe_ix ix_tup (pv 0) (pe_ix ix_tup (pv 2) pe_int (fun _ _ => rfl)) (fun _ _ => rfl)) (nomark _)) (pss_one ps_dead) pss_nil)))))))
  · obtain ⟨x0, x1, rfl, h⟩ := h
    exact pu_check_room T h

theorem optV_non {o : Option Int} : optV o = .non ↔ o = none := by cases o <;> simp [optV]
theorem opt_at {R : List (Option Int)} {i : Nat} (h : i < R.length) : (R.map optV)[i]? = some (optV (rmG R i)) := by
  rw [List.getElem?_map, List.getElem?_eq_getElem h]
  unfold rmG
  rw [List.getD_eq_getElem?_getD, List.getElem?_eq_getElem h]; rfl
theorem stays_at {H : Hp} {xs : List V} {ss : List Stay} {i : Nat} (h : DaL H xs (ss.map stayD)) (hi : i < ss.length) : ∃ a, xs[i]? = some (.ref a) ∧ H a = some (.tup [.int (stG ss i).1, .int (stG ss i).2.1, .int (stG ss i).2.2]) ∧ Da H (.ref a) (stayD (stG ss i)) := by
  obtain ⟨v, hv, dv⟩ := h.get' (i := i) (d := stayD (stG ss i)) (by
    unfold stG
    rw [List.getElem?_map, List.getElem?_eq_getElem hi, List.getD_eq_getElem?_getD, List.getElem?_eq_getElem hi]; rfl)
  obtain ⟨a, rfl, ea⟩ := stay_at dv
  exact ⟨a, hv, ea, dv⟩
def P_check_given (K : PySem.W.Frag) (A : Ad) (x0 x1 x2 x3 : V) (H : Hp) (Q : VK) : Prop := ∃ (r p g : Addr) (xs : List V) (S : Setup) (ss : List Stay) (night : Int) (R : List (Option Int)), x0 = .ref r ∧ x1 = .ref p ∧ x2 = .int night ∧ x3 = .ref g ∧ H r = some (.tup (S.rooms.map V.int)) ∧ H p = some (.lst xs) ∧ DaL H xs (ss.map stayD) ∧ ss.length ≤ 100 ∧ (∀ s ∈ ss, StayOk S s) ∧
  H g = some (.lst (R.map optV)) ∧ Given S ss night R ∧ ∀ H', Fr [] H H' → Q .non H'
def sp_check_given (K : PySem.W.Frag) (A : Ad) : Sp := fun vs H Q _ => ∃ x0 x1 x2 x3, vs = [x0, x1, x2, x3] ∧ P_check_given K A x0 x1 x2 x3 H Q
theorem c_check_given {K : PySem.W.Frag} {A : Ad} {x0 x1 x2 x3 : V} {H : Hp} {Q : VK} {E : XK} (h : P_check_given K A x0 x1 x2 x3 H Q) : sp_check_given K A [x0, x1, x2, x3] H Q E := ⟨_, _, _, _, rfl, h⟩
theorem sc_check_given : FnScope ["rooms", "stays", "night", "given", "index", "stay", "room", "before"] ["rooms", "stays", "night", "given"] (defScope s_check_given) := ⟨rfl, rfl, rfl, by decide +kernel, rfl, by decide +kernel, by decide +kernel⟩
def t_check_given (K : PySem.W.Frag) (A : Ad) : TS :=
  (tSeq (tIfS (tTest (tOp rNe (tCB (rLenSq K) (tCons (tVar 3) tNil)) (tCB (rLenSq K) (tCons (tVar 1) tNil)))) tDead tNext)
    (tFor (iEnum K (tCons (tVar 1) tNil)) (gTup K 2 (gCons (gName 4) (gCons (gName 5) gNil))) (tSeq (tAsg (tOp (rIxL K) (tVar 3) (tVar 4)) (gName 6))
    (tSeq (tIfS (tTest (tOp rNe (tOp rIsNon (tVar 6) (tC .non)) (tOp cGt (tOp (rIxT K) (tVar 5) (tC (.int 1))) (tVar 2)))) tDead tNext)
    (tSeq (tIfS (tAnd (tTest (tOp rIsNotNon (tVar 6) (tC .non))) (tNot (tB (tCl (sp_is_from K A) (tCons (tVar 6) (tCons (tC (.int 0)) (tCons (tOp oSub (tOp (rIxT K) (tVar 0) (tOp (rIxT K) (tVar 5) (tC (.int 0)))) (tC (.int 1))) tNil))))))) tDead tNext)
    (tFor (iRng1 (tCons (tVar 4) tNil)) (gName 7) (tIfS (tAnd (tTest (tOp rIsNotNon (tVar 6) (tC .non))) (tAnd (tTest (tOp rEq (tOp (rIxL K) (tVar 3) (tVar 7)) (tVar 6))) (tB (tCl (sp_meet K A) (tCons (tOp (rIxL K) (tVar 1) (tVar 7)) (tCons (tVar 5) tNil)))))) tDead tNext)))))))
theorem pu_check_given (T : Txt K mg A) {x0 x1 x2 x3 : V} {H : Hp} {Q : VK} (h : P_check_given K A x0 x1 x2 x3 H Q) : t_check_given K A { nx := fun _ H' => Q .non H', rt := Q } [some x0, some x1, some x2, some x3, none, none, none, none] H := by
  obtain ⟨r, p, g, xs, S, ss, night, R, rfl, rfl, rfl, rfl, er, ep, ds, hl, ok, eg, gv, k⟩ := h
  have hxl : xs.length = ss.length := by rw [ds.len, List.length_map]
  have hRl := gv.g.len
  unfold t_check_given
  walk_at "go"
  refine g_iteN (fun c => absurd (by rw [List.length_map, hxl, hRl]) c) (fun _ => ?_)
  walk_at "go"
  refine f_enum (xs := xs) (fun i σ H' => ∃ v4 v5 v6 v7, σ = [some (.ref r), some (.ref p), some (.int night), some (.ref g), v4, v5, v6, v7] ∧ Fr [] H H') ⟨_, _, _, _, rfl, Fr.refl⟩ (fun i σ H' _ ⟨_, _, _, _, _, f⟩ => SqL.of (f.at0 ep)) ?_ ?_
  · rintro i x t σ H1 H2 hx ⟨v4, v5, v6, v7, rfl, f1⟩ nt ft et
    have hi : i < ss.length := by have := (List.getElem?_eq_some_iff.mp hx).1; omega
    obtain ⟨a, hx2, ea, da⟩ := stays_at ds hi
    rw [hx] at hx2; cases hx2
    have oks := ok _ (stG_mem hi)
    have gn := gv.n i hi
    have rg := gv.g.rng i
    have nc := gv.g.ncl i
    have F2 : Fr [] H H2 := f1.then0 ft
    have ea2 := F2.tup _ _ ea
    have er2 := F2.tup _ _ er
    have eg2 := F2.at0 eg
    have ep2 := F2.at0 ep
    have oat := opt_at (R := R) (i := i) (by omega)
    generalize ho : rmG R i = o at gn rg nc oat
    generalize hs : stG ss i = s at *
    walk_at "go"
    refine g_ixL (SqL.of eg2) (atI_nat oat) ?_
    walk_at "go"
    refine g_iteN (fun c => absurd (decide_eq_decide.mpr (optV_non.trans gn)) c) (fun _ => ?_)
    walk_at "go"
    cases o with
    | none =>
      refine g_iteN (fun c => absurd rfl c) (fun _ => ?_)
      walk_at "go"
      refine f_range (lo := 0) (n := i) (fun j σ H' => ∃ v7, σ = [some (.ref r), some (.ref p), some (.int night), some (.ref g), some (.int i), some (.ref a), some .non, v7] ∧ Fr [] H H') ⟨_, rfl, F2⟩ ?_ ?_
      · rintro j σ H3 hj ⟨v7, rfl, f3⟩
        walk_at "go"
        refine g_iteN (fun c => absurd rfl c) (fun _ => ?_)
        walk_at "go"
        exact ⟨_, rfl, f3⟩
      · rintro σ H3 ⟨v7, rfl, f3⟩
        exact ⟨_, _, _, _, rfl, f3⟩
    | some q =>
      obtain ⟨q0, q1⟩ := rg q rfl
      refine g_iteN (fun _ => ?_) (fun c => by cases c)
      walk_at "go"
      refine g_ixT (SqT.of er2) (room_at oks) ?_
      walk_at "go"
      refine c_is_from ⟨q, 0, _, rfl, rfl, rfl, ?_⟩
      rw [decide_eq_true q0, decide_eq_true (show q ≤ rooms S s - 1 by omega), Bool.and_self]
      walk_at "go"
      refine f_range (lo := 0) (n := i) (fun j σ H' => ∃ v7, σ = [some (.ref r), some (.ref p), some (.int night), some (.ref g), some (.int i), some (.ref a), some (.int q), v7] ∧ Fr [] H H') ⟨_, rfl, F2⟩ ?_ ?_
      · rintro j σ H3 hj ⟨v7, rfl, f3⟩
        obtain ⟨b, hb, eb, db⟩ := stays_at ds (show j < ss.length by omega)
        have okj := ok _ (stG_mem (show j < ss.length by omega))
        walk_at "go"
        refine g_iteN (fun _ => ?_) (fun c => by cases c)
        walk_at "go"
        refine g_ixL (SqL.of (f3.at0 eg)) (show atI (R.map optV) (0 + (j : Int)) = _ from by rw [Int.zero_add]; exact atI_nat (opt_at (by omega))) ?_
        walk_at "go"
        refine g_ite (fun c => ?_) (fun c => ?_)
        · walk_at "go"
          refine g_ixL (SqL.of (f3.at0 ep)) (show atI xs (0 + (j : Int)) = _ from by rw [Int.zero_add]; exact atI_nat hb) ?_
          walk_at "go"
          refine c_meet ⟨stG ss j, s, Da.frL f3 db rfl, Da.frL f3 da rfl, okj.2.2.2.1, oks.2.2.2.1, ?_⟩
          have := nc j q rfl c (by omega)
          rw [meet_sym] at this
          rw [this]
          walk_at "go"
          exact ⟨_, rfl, f3⟩
        · walk_at "go"
          exact ⟨_, rfl, f3⟩
      · rintro σ H3 ⟨v7, rfl, f3⟩
        exact ⟨_, _, _, _, rfl, f3⟩
  · rintro σ H1 ⟨v4, v5, v6, v7, rfl, f1⟩
    walk_at "go"
    exact k H1 f1
theorem ok_check_given {f : Addr} {fd : FuncData} (F : Fun K "check_given" "check_given" s_check_given f fd) (T : Txt K mg A) (c_is_from : Cal P w K mg base "is_from" 2 ["value", "least", "most"] (sp_is_from K A)) (c_meet : Cal P w K mg base "meet" 1 ["first", "second"] (sp_meet K A)) : FnOk P w K mg base CX0 (3) f fd ["rooms", "stays", "night", "given"] (sp_check_given K A) := by
  refine F.ok sc_check_given (fun vs H Q E h => ?_) (fun cdv Ar outer s H vs Q E hr h => ⟨t_check_given K A, ?_, ?_⟩)
  · obtain ⟨x0, x1, x2, x3, rfl, _⟩ := h
    rfl
  · have hu := hu_of hr
    exact (pss_cons (ps_if (pt_cmpR op_ne (pe_callB b_len (by rfl) T.b_len (by decide +kernel) (pa_cons (pv 3) pa_nil)) (pe_callB b_len (by rfl) T.b_len (by decide +kernel) (pa_cons (pv 1) pa_nil)) (nomark _)) (pss_one ps_dead) pss_nil)
    (pss_one (ps_for PassesOwn.never rfl (pi_enum (by rfl) T.b_enumerate (pa_cons (pv 1) pa_nil)) (pg_tup rfl (pgs_cons (pg_name (i := 4) sc_check_given.nd rfl (Or.inl rfl)) (pgs_cons (pg_name (i := 5) sc_check_given.nd rfl (Or.inl rfl)) pgs_nil))) (pss_cons (ps_set (i := 6) sc_check_given.nd rfl (Or.inl rfl) (pe_ix ix_list (pv 3) (pv 4) (fun _ _ => rfl)))
    (pss_cons (ps_if (pt_cmpR op_ne (pe_cmpR c_isN (pv 6) pe_non (nomark _)) (pe_cmpR c_gt (pe_ix ix_tup (pv 5) pe_int (fun _ _ => rfl)) (pv 2) (nomark _)) (nomark _)) (pss_one ps_dead) pss_nil)
    (pss_cons (ps_if (PW.pt (pw_and (pt_cmpR c_notN (pv 6) pe_non (nomark _)) (pw_and1 (pt_not (pt_val (pe_cl c_is_from (hr.mono (by first | decide | omega)) (by rfl) (pa_cons (pv 6) (pa_cons pe_int (pa_cons (pe_op o_sub (pe_ix ix_tup (pv 0) (pe_ix ix_tup (pv 5) pe_int (fun _ _ => rfl)) (fun _ _ => rfl)) pe_int) pa_nil))))))))) (pss_one ps_dead) pss_nil)
    (pss_one (ps_for PassesOwn.never rfl (pi_range1 rfl T.b_range (pa_cons (pv 4) pa_nil)) (pg_name (i := 7) sc_check_given.nd rfl (Or.inl rfl)) (pss_one (ps_if (PW.pt (pw_and (pt_cmpR c_notN (pv 6) pe_non (nomark _)) (pw_and (pt_cmpR op_eq (pe_ix ix_list (pv 3) (pv 7) (fun _ _ => rfl)) (pv 6) (nomark _)) (pw_and1 (pt_val (pe_cl c_meet (hr.mono (by first | decide | omega)) (by rfl) (pa_cons (pe_ix ix_list (pv 1) (pv 7) (fun _ _ => rfl)) (pa_cons (pv 5) pa_nil)))))))) (pss_one ps_dead) pss_nil))))))))))
  · obtain ⟨x0, x1, x2, x3, rfl, h⟩ := h
    exact pu_check_given T h
def pairD (ss : List Stay) (i : Nat) : PyData := .tuple [.int (stG ss i).2.1, .int i]
theorem srt_pairs (ss : List Stay) (is : List Nat) : srt (is.map (pairD ss)) = (ord ss is).map (pairD ss) := by
  rw [← srt_map (pairD ss) is]
  have e : PySem.W.dataLe false (pairD ss) = le2 ss := PySem.W.dataLe_ii (fun i : Nat => (stG ss i).2.1) (fun i : Nat => (i : Int))
  rw [e]; rfl
theorem pairs_alike (ss : List Stay) (is : List Nat) : PySem.W.AllAlike (is.map (pairD ss)) := fun d hd d' hd' => by
  obtain ⟨s, _, rfl⟩ := List.mem_map.mp hd
  obtain ⟨s', _, rfl⟩ := List.mem_map.mp hd'
  rfl
theorem pairs_sortable (ss : List Stay) (is : List Nat) : PySem.W.Sortable (is.map (pairD ss)) := .inl fun d hd => by
  obtain ⟨s, _, rfl⟩ := List.mem_map.mp hd
  exact ⟨_, _, rfl⟩
theorem pairs_depth (ss : List Stay) (is : List Nat) : ∀ d ∈ is.map (pairD ss), d.depth ≤ 60 := fun d hd => by
  obtain ⟨s, _, rfl⟩ := List.mem_map.mp hd
  simp [pairD, PyData.depth, PyData.depthAll]
theorem imm_pairs (ss : List Stay) (is : List Nat) : immL (is.map (pairD ss)) = true := immL_of fun d hd => by obtain ⟨n, _, rfl⟩ := List.mem_map.mp hd; rfl
theorem pair_get {H : Hp} {xs : List V} {ss : List Stay} {is : List Nat} {i : Nat} {x : V} (h : DaL H xs (is.map (pairD ss))) (e : xs[i]? = some x) : ∃ n a, is[i]? = some n ∧ x = .ref a ∧ H a = some (.tup [.int (stG ss n).2.1, .int n]) := by
  obtain ⟨d, hd, dd⟩ := h.get e
  rw [List.getElem?_map] at hd
  cases q : is[i]? with
  | none => rw [q] at hd; cases hd
  | some s =>
    rw [q] at hd
    cases hd
    obtain ⟨a, xs, rfl, ea, _, r⟩ := dd.tup1
    obtain ⟨y0, y1, rfl, d0, d1⟩ := r.two
    cases d0.int1; cases d1.int1
    exact ⟨s, a, rfl, rfl, ea⟩
theorem free_more (t : List Int) (m : Nat) : free t (m + 1) = free t m ++ if (m : Int) ∉ t then [(m : Int)] else [] := by
  unfold free
  rw [List.range_succ, List.map_append, List.filter_append]
  congr 1
  by_cases h : (m : Int) ∈ t
  · rw [if_neg (by simpa using h)]; simp [h]
  · rw [if_pos h]; simp [h]
theorem free_len (t : List Int) (m : Nat) : (free t m).length ≤ m := by
  unfold free
  exact Nat.le_trans (List.length_filter_le _ _) (by rw [List.length_map, List.length_range]; exact Nat.le_refl _)
theorem free_head {t : List Int} {n : Nat} (h : free t n ≠ []) : ∀ y ∈ free t n, (free t n).headD 0 ≤ y := by
  have pw : (free t n).Pairwise fun a b => a < b := List.Pairwise.filter _ (List.Pairwise.map _ (fun a b (h : a < b) => by omega) List.pairwise_lt_range)
  cases q : free t n with
  | nil => exact absurd q h
  | cons a r =>
    rw [q] at pw
    intro y hy
    rcases List.mem_cons.mp hy with e | e
    · rw [e]; exact Int.le_refl _
    · exact Int.le_of_lt (List.rel_of_pairwise_cons pw e)
theorem opts_set (R : List (Option Int)) (k : Nat) (m : Int) : (R.map optV).set k (.int m) = (R.set k (some m)).map optV := by rw [List.map_set]; rfl
def noneIx (R : List (Option Int)) (i : Nat) : List Nat := (List.range i).filter fun k => decide (rmG R k = none)
theorem noneIx_more (R : List (Option Int)) (i : Nat) : noneIx R (i + 1) = noneIx R i ++ if rmG R i = none then [i] else [] := by
  unfold noneIx
  rw [List.range_succ, List.filter_append]
  congr 1
  by_cases h : rmG R i = none
  · rw [if_pos h]; simp [h]
  · rw [if_neg h]; simp [h]
theorem noneIx_len (R : List (Option Int)) (i : Nat) : (noneIx R i).length ≤ i := by
  unfold noneIx
  exact Nat.le_trans (List.length_filter_le _ _) (by rw [List.length_range]; exact Nat.le_refl _)
def P_housing (K : PySem.W.Frag) (A : Ad) (x0 x1 x2 x3 : V) (H : Hp) (Q : VK) : Prop := ∃ (r p g : Addr) (xs : List V) (S : Setup) (ss : List Stay) (night : Int) (R : List (Option Int)), x0 = .ref r ∧ x1 = .ref p ∧ x2 = .int night ∧ x3 = .ref g ∧ H r = some (.tup (S.rooms.map V.int)) ∧ H p = some (.lst xs) ∧ DaL H xs (ss.map stayD) ∧ ss.length ≤ 100 ∧ SetupOk S ∧ (∀ s ∈ ss, StayOk S s) ∧ Fits S ss ∧
  H g = some (.lst (R.map optV)) ∧ Given S ss night R ∧ ∀ f H', H f = none → Fr [] H H' → H' f = some (.lst ((housedAll S ss R).map optV)) → Q (.ref f) H'
def sp_housing (K : PySem.W.Frag) (A : Ad) : Sp := fun vs H Q _ => ∃ x0 x1 x2 x3, vs = [x0, x1, x2, x3] ∧ P_housing K A x0 x1 x2 x3 H Q
theorem c_housing {K : PySem.W.Frag} {A : Ad} {x0 x1 x2 x3 : V} {H : Hp} {Q : VK} {E : XK} (h : P_housing K A x0 x1 x2 x3 H Q) : sp_housing K A [x0, x1, x2, x3] H Q E := ⟨_, _, _, _, rfl, h⟩
theorem sc_housing : FnScope ["rooms", "stays", "night", "given", "found", "left", "_", "index", "taken", "other", "room"] ["rooms", "stays", "night", "given"] (defScope s_housing) := ⟨rfl, rfl, rfl, by decide +kernel, rfl, by decide +kernel, by decide +kernel⟩
def t_housing (K : PySem.W.Frag) (A : Ad) : TS :=
  (tSeq (tDrop (tCl (sp_check_room K A) (tCons (tVar 0) (tCons (tVar 1) tNil))))
    (tSeq (tDrop (tCl (sp_check_given K A) (tCons (tVar 0) (tCons (tVar 1) (tCons (tVar 2) (tCons (tVar 3) tNil))))))
    (tSeq (tAsg (tCB (rListOf K) (tCons (tVar 3) tNil)) (gName 4))
    (tSeq (tAsg (tLc (iRng1 (tCons (tCB (rLenSq K) (tCons (tVar 1) tNil)) tNil)) (gName 7) (tTest (tOp rIsNon (tOp (rIxL K) (tVar 4) (tVar 7)) (tC .non))) (tVar 7) [7]) (gName 5))
    (tSeq (tFor (iList K (tCB (rSortD K) (tCons (tLc (iList K (tVar 5)) (gName 7) tYes (tTup (tCons (tOp (rIxT K) (tOp (rIxL K) (tVar 1) (tVar 7)) (tC (.int 1))) (tCons (tVar 7) tNil))) [7]) tNil))) (gTup K 2 (gCons (gName 6) (gCons (gName 7) gNil))) (tSeq (tAsg (tLst tNil) (gName 8))
    (tSeq (tFor (iEnum K (tCons (tVar 4) tNil)) (gTup K 2 (gCons (gName 9) (gCons (gName 10) gNil))) (tIfS (tAnd (tTest (tOp rIsNotNon (tVar 10) (tC .non))) (tB (tCl (sp_meet K A) (tCons (tOp (rIxL K) (tVar 1) (tVar 9)) (tCons (tOp (rIxL K) (tVar 1) (tVar 7)) tNil))))) (tDrop (tBM K "list" rAppend (tVar 8) (tCons (tVar 10) tNil))) tNext))
    (tAsg (tCB (rMin K) (tCons (tLc (iRng1 (tCons (tOp (rIxT K) (tVar 0) (tOp (rIxT K) (tOp (rIxL K) (tVar 1) (tVar 7)) (tC (.int 0)))) tNil)) (gName 10) (tTest (tOp (rIn K true) (tVar 10) (tVar 8))) (tVar 10) [10]) tNil)) (gSub (tVar 4) (tVar 7) rSetL)))))
    (tRet (tVar 4)))))))
theorem pu_housing (T : Txt K mg A) {x0 x1 x2 x3 : V} {H : Hp} {Q : VK} (h : P_housing K A x0 x1 x2 x3 H Q) : t_housing K A { nx := fun _ H' => Q .non H', rt := Q } [some x0, some x1, some x2, some x3, none, none, none, none, none, none, none] H := by
  obtain ⟨r, p, g, xs, S, ss, night, R, rfl, rfl, rfl, rfl, er, ep, ds, hl, so, ok, F, eg, gv, k⟩ := h
  have hxl : xs.length = ss.length := by rw [ds.len, List.length_map]
  have hRl := gv.g.len
  unfold t_housing
  walk_at "go"
  refine c_check_room ⟨r, p, xs, S, ss, rfl, rfl, er, ep, ds, hl, so, ok, F, fun H1 f1 => ?_⟩
  walk_at "go"
  refine c_check_given ⟨r, p, g, xs, S, ss, night, R, rfl, rfl, rfl, rfl, f1.tup _ _ er, f1.at0 ep, DaL.frL f1 ds (imm_stays ss), hl, ok, f1.at0 eg, gv, fun H2 f2 => ?_⟩
  have F2 : Fr [] H H2 := f1.then0 f2
  have eg2 := F2.at0 eg
  have ep2 := F2.at0 ep
  walk_at "go"
  rename_i f H3 n3 f3 e3
  have nf : H f = none := F2.free n3
  have ep3 := f3.at0 ep2
  walk_at "go"
  refine l_range (lo := 0) (n := ((xs.length : Nat) : Int).toNat) fun Dl H4 nD f4 e4 => ⟨fun i acc H' => Fr [] H3 H' ∧ acc = (noneIx R i).map fun k => V.int (k : Nat), ⟨f4, rfl⟩, fun i acc H' hi ha ⟨f5, hacc⟩ => ?_, fun acc H5 ha ⟨f5, hacc⟩ => ?_⟩
  · have hi' : i < R.length := by omega
    have hal : acc.length ≤ 100 := by rw [hacc, List.length_map]; have := noneIx_len R i; omega
    walk_at "go"
    refine ⟨rfl, ?_⟩
    walk_at "go"
    refine g_ixL (SqL.of (f5.at0 e3)) (show atI (R.map optV) (0 + (i : Int)) = _ from by rw [Int.zero_add]; exact atI_nat (opt_at hi')) ?_
    walk_at "go"
    refine g_ite (fun c => ?_) (fun c => ?_)
    · walk_at "go"
      refine lcY_of ha (by walk_at "sz") fun H6 f6 e6 => ⟨f5.own1 f6 nD, ?_⟩
      rw [noneIx_more, if_pos (optV_non.mp c), List.map_append, hacc, Int.zero_add]; rfl
    · refine lcN_of ha ⟨f5, ?_⟩
      rw [noneIx_more, if_neg (fun z => c (optV_non.mpr z)), List.append_nil]; exact hacc
  have hle : ((xs.length : Nat) : Int).toNat = ss.length := by omega
  rw [hle] at hacc
  generalize his : noneIx R ss.length = is at hacc
  have hisl : is.length ≤ 100 := by rw [← his]; have := noneIx_len R ss.length; omega
  have hism : ∀ n ∈ is, n < ss.length := fun n hn => by rw [← his] at hn; exact List.mem_range.mp (List.mem_filter.mp hn).1
  have e5f := f5.at0 e3
  have e5p := f5.at0 ep3
  subst hacc
  have F5 : Fr [] H H5 := (F2.then0 f3).then0 f5
  have ds5 := DaL.frL F5 ds (imm_stays ss)
  have er5 := F5.tup _ _ er
  walk_at "go"
  refine l_list (xs := is.map fun k => V.int (k : Nat)) fun Dp H6 nP f6 e6 => ⟨fun i acc H' => Fr [] H5 H' ∧ DaL H' acc ((is.take i).map (pairD ss)), ⟨f6, .nil⟩, fun i acc H' ⟨f7, _⟩ => SqL.of (f7.at0 ha), fun i x acc H' hx hac ⟨f7, r7⟩ => ?_, fun acc H7 hac ⟨f7, r7⟩ => ?_⟩
  · have hi : i < is.length := by have := (List.getElem?_eq_some_iff.mp hx).1; rwa [List.length_map] at this
    have hn : is[i]? = some is[i] := List.getElem?_eq_getElem hi
    rw [List.getElem?_map, hn] at hx
    cases hx
    generalize is[i] = n at hn
    obtain ⟨a, hxa, ea, da⟩ := stays_at ds5 (hism n (List.mem_of_getElem? hn))
    have hal : acc.length ≤ 100 := by rw [r7.len, List.length_map, List.length_take]; omega
    have ea7 := f7.tup _ _ ea
    walk_at "go"
    refine ⟨rfl, ?_⟩
    walk_at "go"
    refine g_ixL (SqL.of (f7.at0 e5p)) (atI_nat hxa) ?_
    walk_at "go"
    rename_i t H8 n8 f8 e8
    refine lcY_of (f8.at0 hac) (by walk_at "sz") fun H9 f9 e9 => ⟨(f7.then0 f8).own1 f9 nP, ?_⟩
    rw [take_more hn, List.map_append]
    exact (DaL.frL f9 (DaL.frL f8 r7 (imm_pairs ss _)) (imm_pairs ss _)).append (.one' (.tup (f9.tup _ _ e8) (Nat.le_of_ble_eq_true rfl) (.cons (.int _) (.one' (.int _)))))
  rw [List.length_map, List.take_length] at r7
  walk_at "go"
  refine g_srt (SqL.of hac) r7 (pairs_alike ss is) (pairs_sortable ss is) (pairs_depth ss is) fun sp H8 ys n8 f8 e8 r8 => ?_
  rw [srt_pairs, ← his, show ord ss (noneIx R ss.length) = left ss R from (left_ord ss R).symm] at r8
  have F8 : Fr [] H H8 := (F5.then0 f7).then0 f8
  have e8f : H8 f = some (.lst (R.map optV)) := f8.at0 (f7.at0 e5f)
  have nsf : sp ≠ f := by intro z; rw [z] at n8; rw [f7.at0 e5f] at n8; cases n8
  have hyl : ys.length = (left ss R).length := by rw [r8.len, List.length_map]
  replace r8 := DaL.frL f8 r8 (imm_pairs ss _)
  walk_at "go"
  refine f_list (xs := ys) (fun i σ H' => ∃ v6 v7 v8 v9 v10, σ = [some (.ref r), some (.ref p), some (.int night), some (.ref g), some (.ref f), some (.ref Dl), v6, v7, v8, v9, v10] ∧ Fr [f] H8 H' ∧ H' f = some (.lst ((housed S ss R i).map optV))) ⟨_, _, _, _, _, rfl, Fr.refl, e8f⟩ (fun i σ H' _ ⟨_, _, _, _, _, _, f9, _⟩ => SqL.of (f9.at e8 (nin1 nsf nin0))) ?_ ?_
  · rintro i x σ H9 hx ⟨v6, v7, v8, v9, v10, rfl, f9, e9⟩
    obtain ⟨n, a, hn, rfl, ea⟩ := pair_get r8 hx
    obtain ⟨hnl, hn0⟩ := left_mem.mp (List.mem_of_getElem? hn)
    have hil := (List.getElem?_eq_some_iff.mp hn).1
    have hs := housed_hs F ok gv i (by omega)
    have fne := housed_free F ok gv hn
    generalize hRc : housed S ss R i = Rc at *
    have hRcl := hs.g.len
    obtain ⟨b, hxb, eb, db⟩ := stays_at ds hnl
    have okn := ok _ (stG_mem hnl)
    have npf : p ≠ f := ne_of_none ep nf
    have FF : Fr [] H H9 := F8.own1 f9 nf
    have ep9 : H9 p = some (.lst xs) := FF.at0 ep
    have ea9 := f9.tup _ _ ea
    generalize ht : stG ss n = t at *
    walk_at "go"
    rename_i tk H10 n10 f10 e10
    have ntf : tk ≠ f := fun z => by rw [z, e9] at n10; cases n10
    have ntp : tk ≠ p := fun z => by rw [z, ep9] at n10; cases n10
    have e10f := f10.at0 e9
    walk_at "go"
    refine f_enum (xs := Rc.map optV) (fun m σ H' => ∃ v9 v10, σ = [some (.ref r), some (.ref p), some (.int night), some (.ref g), some (.ref f), some (.ref Dl), some (.int t.2.1), some (.int n), some (.ref tk), v9, v10] ∧ Fr [tk] H10 H' ∧ H' tk = some (.lst ((tkn ss Rc t m).map V.int))) ⟨_, _, rfl, Fr.refl, e10⟩ (fun m σ H' _ ⟨_, _, _, f, _⟩ => SqL.of (f.at e10f (nin1 ntf.symm nin0))) ?_ ?_
    · rintro m x T σ H11 H12 hx ⟨v9, v10, rfl, f11, e11⟩ nT fT eT
      have hm : m < Rc.length := by have := (List.getElem?_eq_some_iff.mp hx).1; rwa [List.length_map] at this
      rw [opt_at hm] at hx
      cases hx
      obtain ⟨c, hxc, ec, dc⟩ := stays_at ds (show m < ss.length by omega)
      have okm := ok _ (stG_mem (show m < ss.length by omega))
      have FG : Fr [] H H12 := (((FF.then0 f10).own1 f11 (FF.free n10)).then0 fT)
      have e12 := fT.at0 e11
      have ep12 := FG.at0 ep
      have tm := tkn_more (ss := ss) (R := Rc) (t := t) (i := m)
      have htl := tkn_len (ss := ss) (R := Rc) (t := t) (i := m)
      generalize ho : rmG Rc m = o at *
      walk_at "go"
      cases o with
      | none =>
        refine g_iteN (fun c => absurd rfl c) (fun _ => ?_)
        walk_at "go"
        refine ⟨_, _, rfl, f11.then0 fT, ?_⟩
        rw [tm]; simpa using e12
      | some q =>
        refine g_iteN (fun _ => ?_) (fun c => by cases c)
        walk_at "go"
        refine g_ixL (SqL.of ep12) (atI_nat hxc) ?_
        walk_at "go"
        refine g_ixL (SqL.of ep12) (atI_nat hxb) ?_
        walk_at "go"
        refine c_meet ⟨stG ss m, t, Da.frL FG dc rfl, Da.frL FG db rfl, okm.2.2.2.1, okn.2.2.2.1, ?_⟩
        by_cases c : meetB (stG ss m) t = true
        · rw [c]
          walk_at "go"
          rename_i H13 f13 e13
          refine ⟨_, _, rfl, (f11.then0 fT).transL f13, ?_⟩
          rw [tm, e13]
          simp [c, optV]
        · rw [(by simpa using c : meetB (stG ss m) t = false)]
          walk_at "go"
          refine ⟨_, _, rfl, f11.then0 fT, ?_⟩
          rw [tm]
          simpa [c] using e12
    · rintro σ H11 ⟨v9, v10, rfl, f11, e11⟩
      rw [List.length_map, hRcl] at e11
      have FG : Fr [] H H11 := ((FF.then0 f10).own1 f11 (FF.free n10))
      have ep11 := FG.at0 ep
      have er11 := FG.tup _ _ er
      have eb11 := FG.tup _ _ eb
      have e11f := f11.at e10f (nin1 ntf.symm nin0)
      have rng0 : 0 ≤ rooms S t ∧ rooms S t ≤ 4 := by
        obtain ⟨o1, o2, _⟩ := id okn
        have hk : t.1.toNat < S.rooms.length := by omega
        have : rooms S t = S.rooms[t.1.toNat] := by unfold rooms; rw [List.getD_eq_getElem?_getD, List.getElem?_eq_getElem hk]; rfl
        rw [this]; exact so.rm _ (List.getElem_mem hk)
      walk_at "go"
      refine g_ixL (SqL.of ep11) (atI_nat hxb) ?_
      walk_at "go"
      refine g_ixT (SqT.of er11) (room_at okn) ?_
      walk_at "go"
      refine l_range (lo := 0) (n := (rooms S t).toNat) fun Dm H12 nM f12 e12 => ⟨fun m acc H' => Fr [] H11 H' ∧ acc = (free (tkn ss Rc t ss.length) m).map V.int, ⟨f12, rfl⟩, fun m acc H' hm ha' ⟨f13, hacc'⟩ => ?_, fun acc H' ha' ⟨f13, hacc'⟩ => ?_⟩
      · have hal : acc.length ≤ 100 := by rw [hacc', List.length_map]; have := free_len (tkn ss Rc t ss.length) m; omega
        have e13 := f13.at0 e11
        walk_at "go"
        refine ⟨rfl, ?_⟩
        walk_at "go"
        refine g_iteN (fun c => ?_) (fun c => ?_)
        · walk_at "go"
          refine lcY_of ha' (by walk_at "sz") fun H14 f14 e14 => ⟨f13.own1 f14 nM, ?_⟩
          rw [Int.zero_add] at c ⊢
          rw [free_more, if_pos c, List.map_append, hacc']; rfl
        · refine lcN_of ha' ⟨f13, ?_⟩
          rw [Int.zero_add] at c
          rw [free_more, if_neg (by simpa using c), List.append_nil]; exact hacc'
      · subst hacc'
        have e13f := f13.at0 e11f
        walk_at "go"
        refine g_min (SqL.of ha') (List.length_pos_iff.mpr fne) fun m hm1 hm2 => ?_
        have hm : m = pick0 S ss Rc n := by
          unfold pick0
          rw [ht]
          have a1 := free_head fne m hm1
          have a2 := hm2 _ (head_mem fne)
          omega
        walk_at "go"
        refine g_setL e13f (j := n) (Evl.ixN_nat (by rw [List.length_map]; omega)) fun H14 f14 e14 => ?_
        walk_at "go"
        refine ⟨_, _, _, _, _, rfl, ?_, ?_⟩
        · have n10' : H8 tk = none := f9.freeL n10 (nin1 ntf nin0)
          exact ((((f9.then0 f10).own1 f11 n10').then0 f13).transL f14)
        · rw [housed_more hn, hRc, e14, opts_set, hm]; rfl
  · rintro σ H9 ⟨v6, v7, v8, v9, v10, rfl, f9, e9⟩
    walk_at "go"
    rw [hyl] at e9
    exact k f H9 nf (F8.own1 f9 nf) e9
theorem ok_housing {f : Addr} {fd : FuncData} (F : Fun K "housing" "housing" s_housing f fd) (T : Txt K mg A) (c_check_room : Cal P w K mg base "check_room" 2 ["rooms", "stays"] (sp_check_room K A)) (c_check_given : Cal P w K mg base "check_given" 3 ["rooms", "stays", "night", "given"] (sp_check_given K A)) (c_meet : Cal P w K mg base "meet" 1 ["first", "second"] (sp_meet K A)) : FnOk P w K mg base CX0 (4) f fd ["rooms", "stays", "night", "given"] (sp_housing K A) := by
  refine F.ok sc_housing (fun vs H Q E h => ?_) (fun cdv Ar outer s H vs Q E hr h => ⟨t_housing K A, ?_, ?_⟩)
  · obtain ⟨x0, x1, x2, x3, rfl, _⟩ := h
    rfl
  · have hu := hu_of hr
    exact (pss_cons (ps_expr (pe_cl c_check_room (hr.mono (by first | decide | omega)) (by rfl) (pa_cons (pv 0) (pa_cons (pv 1) pa_nil))))
    (pss_cons (ps_expr (pe_cl c_check_given (hr.mono (by first | decide | omega)) (by rfl) (pa_cons (pv 0) (pa_cons (pv 1) (pa_cons (pv 2) (pa_cons (pv 3) pa_nil))))))
    (pss_cons (ps_set (i := 4) sc_housing.nd rfl (Or.inr rfl) (pe_callTy b_list (by rfl) T.b_list (by decide +kernel) (pa_cons (pv 3) pa_nil)))
    (pss_cons (ps_setLc (i := 5) (own := [("index", 7)]) (g := (gName 7)) (tt := (tTest (tOp rIsNon (tOp (rIxL K) (tVar 4) (tVar 7)) (tC .non)))) rfl sc_housing.nd rfl rfl (sw_true rfl rfl rfl (by decide +kernel)) (pi_range1 rfl T.b_range (pa_cons (pe_callB b_len (by rfl) T.b_len (by decide +kernel) (pa_cons (pv 1) pa_nil)) pa_nil)) (blkOk_by (N := ["rooms", "stays", "night", "given", "found", "left", "_", "index", "taken", "other", "room"]) (sc := defScope s_housing) (own := [("index", 7)]) (by decide +kernel)) (fun _ _ _ _ _ => (pg_name (i := 7) sc_housing.nd rfl (Or.inl rfl))) (fun _ _ _ _ _ => (pts_one (pt_cmpR c_isN (pe_ix ix_list (pv 4) (pv 7) (fun _ _ => rfl)) pe_non (nomark _)))) (fun _ _ _ _ _ => (pv 7)))
    (pss_cons (ps_for PassesOwn.never rfl (pi_list (pe_callB (b_sortD hr.units) (by rfl) T.b_sorted (by decide +kernel) (pa_cons (pe_lc (own := [("index", 7)]) (g := (gName 7)) (tt := tYes) rfl sc_housing.nd (pi_list (pv 5)) (blkOk_by (N := ["rooms", "stays", "night", "given", "found", "left", "_", "index", "taken", "other", "room"]) (sc := defScope s_housing) (own := [("index", 7)]) (by decide +kernel)) (fun _ _ _ _ _ => (pg_name (i := 7) sc_housing.nd rfl (Or.inl rfl))) (fun _ _ _ _ _ => pts_nil) (fun _ _ _ _ _ => (pe_tup (pa_cons (pe_ix ix_tup (pe_ix ix_list (pv 1) (pv 7) (fun _ _ => rfl)) pe_int (fun _ _ => rfl)) (pa_cons (pv 7) pa_nil))))) pa_nil))) (pg_tup rfl (pgs_cons (pg_name (i := 6) sc_housing.nd rfl (Or.inl rfl)) (pgs_cons (pg_name (i := 7) sc_housing.nd rfl (Or.inl rfl)) pgs_nil))) (pss_cons (ps_set (i := 8) sc_housing.nd rfl (Or.inr rfl) (pe_lst pa_nil))
    (pss_cons (ps_for PassesOwn.never rfl (pi_enum (by rfl) T.b_enumerate (pa_cons (pv 4) pa_nil)) (pg_tup rfl (pgs_cons (pg_name (i := 9) sc_housing.nd rfl (Or.inl rfl)) (pgs_cons (pg_name (i := 10) sc_housing.nd rfl (Or.inl rfl)) pgs_nil))) (pss_one (ps_if (PW.pt (pw_and (pt_cmpR c_notN (pv 10) pe_non (nomark _)) (pw_and1 (pt_val (pe_cl c_meet (hr.mono (by first | decide | omega)) (by rfl) (pa_cons (pe_ix ix_list (pv 1) (pv 9) (fun _ _ => rfl)) (pa_cons (pe_ix ix_list (pv 1) (pv 7) (fun _ _ => rfl)) pa_nil))))))) (pss_one (ps_expr (pe_bm PySem.F.plainAttrs_list PySem.F.slot_list_append PySem.F.type_list_append mt_append (pv 8) (pa_cons (pv 10) pa_nil)))) pss_nil)))
    (pss_one (ps_asg (pe_callB (cr_min rfl) (by rfl) T.b_min (by decide +kernel) (pa_cons (pe_lc (own := [("room", 10)]) (g := (gName 10)) (tt := (tTest (tOp (rIn K true) (tVar 10) (tVar 8)))) rfl sc_housing.nd (pi_range1 rfl T.b_range (pa_cons (pe_ix ix_tup (pv 0) (pe_ix ix_tup (pe_ix ix_list (pv 1) (pv 7) (fun _ _ => rfl)) pe_int (fun _ _ => rfl)) (fun _ _ => rfl)) pa_nil)) (blkOk_by (N := ["rooms", "stays", "night", "given", "found", "left", "_", "index", "taken", "other", "room"]) (sc := defScope s_housing) (own := [("room", 10)]) (by decide +kernel)) (fun _ _ _ _ _ => (pg_name (i := 10) sc_housing.nd rfl (Or.inl rfl))) (fun _ _ _ _ _ => (pts_one (pt_cmpR op_notIn_seq (pv 10) (pv 8) rfl))) (fun _ _ _ _ _ => (pv 10))) pa_nil)) (pg_sub (pv 4) (pv 7) set_list))))))
    (pss_one (ps_ret (pv 4))))))))
  · obtain ⟨x0, x1, x2, x3, rfl, h⟩ := h
    exact pu_housing T h

/-! ### the law's own rooms -/
def P_Lmeet (K : PySem.W.Frag) (A : Ad) (x0 x1 : V) (H : Hp) (Q : VK) : Prop := ∃ (s t : Stay), Da H x0 (stayD s) ∧ Da H x1 (stayD t) ∧ Q (.bl (meetB s t)) H
def sp_Lmeet (K : PySem.W.Frag) (A : Ad) : Sp := fun vs H Q _ => ∃ x0 x1, vs = [x0, x1] ∧ P_Lmeet K A x0 x1 H Q
theorem c_Lmeet {K : PySem.W.Frag} {A : Ad} {x0 x1 : V} {H : Hp} {Q : VK} {E : XK} (h : P_Lmeet K A x0 x1 H Q) : sp_Lmeet K A [x0, x1] H Q E := ⟨_, _, rfl, h⟩
theorem sc_Lmeet : FnScope ["_law_first", "_law_second"] ["_law_first", "_law_second"] (defScope s_Lmeet) := ⟨rfl, rfl, rfl, by decide +kernel, rfl, by decide +kernel, by decide +kernel⟩
def t_Lmeet (K : PySem.W.Frag) (A : Ad) : TS :=
  (tRet (tAndV (tOp rEq (tOp (rIxT K) (tVar 0) (tC (.int 0))) (tOp (rIxT K) (tVar 1) (tC (.int 0)))) (tAndV (tOp cLt (tOp (rIxT K) (tVar 0) (tC (.int 1))) (tOp (rIxT K) (tVar 1) (tC (.int 2)))) (tOp cLt (tOp (rIxT K) (tVar 1) (tC (.int 1))) (tOp (rIxT K) (tVar 0) (tC (.int 2)))))))
theorem pu_Lmeet (T : Txt K mg A) {x0 x1 : V} {H : Hp} {Q : VK} (h : P_Lmeet K A x0 x1 H Q) : t_Lmeet K A { nx := fun _ H' => Q .non H', rt := Q } [some x0, some x1] H := by
  obtain ⟨s, t, ds, dt, k⟩ := h
  obtain ⟨a, rfl, ea⟩ := stay_at ds
  obtain ⟨b, rfl, eb⟩ := stay_at dt
  unfold meetB at k
  unfold t_Lmeet
  walk_at "go"
  refine g_iteB (fun c => ?_) (fun c => ?_)
  · rw [c, Bool.true_and] at k
    walk_at "go"
    refine g_iteB (fun c => ?_) (fun c => ?_)
    · rw [c, Bool.true_and] at k
      walk_at "go"
      exact k
    · rw [c, Bool.false_and] at k
      exact k
  · rw [c, Bool.false_and] at k
    exact k
theorem ok_Lmeet {f : Addr} {fd : FuncData} (F : Fun K "_law_meet" "_law_meet" s_Lmeet f fd) (T : Txt K mg A)  : FnOk P w K mg base CX0 (1) f fd ["_law_first", "_law_second"] (sp_Lmeet K A) := by
  refine F.ok sc_Lmeet (fun vs H Q E h => ?_) (fun cdv Ar outer s H vs Q E hr h => ⟨t_Lmeet K A, ?_, ?_⟩)
  · obtain ⟨x0, x1, rfl, _⟩ := h
    rfl
  · have hu := hu_of hr
    exact (pss_one (ps_ret (pe_and (pe_cmpR op_eq (pe_ix ix_tup (pv 0) pe_int (fun _ _ => rfl)) (pe_ix ix_tup (pv 1) pe_int (fun _ _ => rfl)) (nomark _)) (pe_and (pe_cmpR c_lt (pe_ix ix_tup (pv 0) pe_int (fun _ _ => rfl)) (pe_ix ix_tup (pv 1) pe_int (fun _ _ => rfl)) (nomark _)) (pe_one (pe_cmpR c_lt (pe_ix ix_tup (pv 1) pe_int (fun _ _ => rfl)) (pe_ix ix_tup (pv 0) pe_int (fun _ _ => rfl)) (nomark _)))))))
  · obtain ⟨x0, x1, rfl, h⟩ := h
    exact pu_Lmeet T h
def P_Lfits (K : PySem.W.Frag) (A : Ad) (x0 x1 : V) (H : Hp) (Q : VK) : Prop := ∃ (p : Addr) (xs : List V) (S : Setup) (ss : List Stay), x1 = .ref p ∧ Da H x0 (setupD S) ∧ SetupOk S ∧ H p = some (.lst xs) ∧ DaL H xs (ss.map stayD) ∧ ss.length ≤ 100 ∧
  ∀ b H', (b = true → Fits S ss) → Fr [] H H' → Q (.bl b) H'
def sp_Lfits (K : PySem.W.Frag) (A : Ad) : Sp := fun vs H Q _ => ∃ x0 x1, vs = [x0, x1] ∧ P_Lfits K A x0 x1 H Q
theorem c_Lfits {K : PySem.W.Frag} {A : Ad} {x0 x1 : V} {H : Hp} {Q : VK} {E : XK} (h : P_Lfits K A x0 x1 H Q) : sp_Lfits K A [x0, x1] H Q E := ⟨_, _, rfl, h⟩
theorem sc_Lfits : FnScope ["_law_setup_here", "_law_stays_here", "_law_kind", "_law_night", "_law_one"] ["_law_setup_here", "_law_stays_here"] (defScope s_Lfits) := ⟨rfl, rfl, rfl, by decide +kernel, rfl, by decide +kernel, by decide +kernel⟩
def t_Lfits (K : PySem.W.Frag) (A : Ad) : TS :=
  (tSeq (tFor (iRng1 (tCons (tCB (rLenSq K) (tCons (tOp (rIxT K) (tVar 0) (tC (.int 0))) tNil)) tNil)) (gName 2) (tFor (iRng1 (tCons (tOp (rIxT K) (tVar 0) (tC (.int 1))) tNil)) (gName 3) (tIfS (tTest (tOp cGt (tCB (rLenSq K) (tCons (tLc (iList K (tVar 1)) (gName 4) (tAnd (tTest (tOp rEq (tOp (rIxT K) (tVar 4) (tC (.int 0))) (tVar 2))) (tChainT cLe cLt (tOp (rIxT K) (tVar 4) (tC (.int 1))) (tVar 3) (tOp (rIxT K) (tVar 4) (tC (.int 2))))) (tVar 4) [4]) tNil)) (tOp (rIxT K) (tOp (rIxT K) (tVar 0) (tC (.int 0))) (tVar 2)))) (tRet (tC (.bl false))) tNext)))
    (tRet (tC (.bl true))))
theorem pu_Lfits (T : Txt K mg A) {x0 x1 : V} {H : Hp} {Q : VK} (h : P_Lfits K A x0 x1 H Q) : t_Lfits K A { nx := fun _ H' => Q .non H', rt := Q } [some x0, some x1, none, none, none] H := by
  obtain ⟨p, xs, S, ss, rfl, dS, so, ep, ds, hl, k⟩ := h
  obtain ⟨s, r, pp, ps, sa⟩ := SetAt.of dS
  cases sa.e
  have e0 := sa.t
  have er := sa.r
  have k3 := so.k3
  have n12 := so.n2
  have n1 := so.n1
  have hxl : xs.length = ss.length := by rw [ds.len, List.length_map]
  unfold t_Lfits
  walk_at "go"
  rw [List.length_map]
  have hn : ((S.rooms.length : Nat) : Int).toNat = S.rooms.length := by omega
  refine f_range (lo := 0) (n := ((S.rooms.length : Nat) : Int).toNat) (fun i σ H' => ∃ v2 v3 v4, σ = [some (.ref s), some (.ref p), v2, v3, v4] ∧ Fr [] H H' ∧ ∀ k n : Nat, k < i → (n : Int) < S.nights → ((ss.filter (cov k n)).length : Int) ≤ S.rooms.getD k 0) ⟨_, _, _, rfl, Fr.refl, fun _ _ h => absurd h (by omega)⟩ ?_ ?_
  · rintro i σ H1 hi ⟨v2, v3, v4, rfl, f1, h1⟩
    have e01 := f1.tup _ _ e0
    walk_at "go"
    refine f_range (lo := 0) (n := S.nights.toNat) (fun j σ H' => ∃ v3 v4, σ = [some (.ref s), some (.ref p), some (.int (0 + i)), v3, v4] ∧ Fr [] H H' ∧ ∀ n : Nat, n < j → ((ss.filter (cov i n)).length : Int) ≤ S.rooms.getD i 0) ⟨_, _, rfl, f1, fun _ h => absurd h (by omega)⟩ ?_ ?_
    · rintro j σ H2 hj ⟨v3, v4, rfl, f2, h2⟩
      have ep2 := f2.at0 ep
      walk_at "go"
      refine l_list (xs := xs) fun Dl H5 nD f5 e5 => ⟨fun m acc H' => Fr [] H2 H' ∧ acc.length = ((ss.take m).filter (cov i j)).length, ⟨f5, rfl⟩, fun m acc H' ⟨f, _⟩ => SqL.of (f.at0 ep2), fun m x acc H' hx ha ⟨f, hacc⟩ => ?_, fun acc H' ha ⟨f, hacc⟩ => ?_⟩
      · obtain ⟨u, b, hu, rfl, eb, du⟩ := stays_get ds hx
        have hul := (List.getElem?_eq_some_iff.mp hu).1
        have fm := filter_more (f := cov i j) hu
        have hal : acc.length ≤ 100 := by rw [hacc]; exact Nat.le_trans (List.length_filter_le _ _) (by rw [List.length_take]; omega)
        have eb' := f.tup _ _ (f2.tup _ _ eb)
        have no : ¬ cov i j u = true → lcN Dl (fun m acc H' => Fr [] H2 H' ∧ acc.length = ((ss.take m).filter (cov i j)).length) m H' := fun c => by
          refine lcN_of ha ⟨f, ?_⟩
          rw [fm, if_neg c, List.append_nil]; exact hacc
        have cc : cov i j u = true → u.1 = i ∧ u.2.1 ≤ j ∧ (j : Int) < u.2.2 := fun z => by
          unfold cov at z
          simp only [Bool.and_eq_true, decide_eq_true_eq] at z
          exact z
        walk_at "go"
        refine ⟨rfl, ?_⟩
        walk_at "go"
        refine g_ite (fun c1 => ?_) (fun c1 => no fun z => c1 (by have := cc z; omega))
        · walk_at "go"
          refine g_ite (fun c2 => ?_) (fun c2 => ?_)
          · walk_at "go"
            refine g_ite (fun c3 => ?_) (fun c3 => no fun z => c3 (by have := cc z; omega))
            · walk_at "go"
              refine lcY_of ha (by walk_at "sz") fun H6 f6 e6 => ⟨f.own1 f6 nD, ?_⟩
              have c : cov i j u = true := by unfold cov; simp only [Bool.and_eq_true, decide_eq_true_eq]; omega
              rw [fm, if_pos c, List.length_append, List.length_append, hacc]; rfl
          · walk_at "go"
            exact no fun z => c2 (by have := cc z; omega)
      · rw [hxl, List.take_length] at hacc
        have F3 := f2.then0 f
        have e03 := F3.tup _ _ e0
        have er3 := F3.tup _ _ er
        walk_at "go"
        have hrt : atI (S.rooms.map V.int) (0 + (i : Int)) = some (.int (S.rooms.getD i 0)) := by
          rw [Int.zero_add]
          have hik : i < S.rooms.length := by omega
          refine atI_nat ?_
          rw [List.getElem?_map, List.getElem?_eq_getElem hik, List.getD_eq_getElem?_getD, List.getElem?_eq_getElem hik]; rfl
        refine g_ixT (SqT.of er3) hrt ?_
        walk_at "go"
        refine g_ite (fun c => ?_) (fun c => ?_)
        · walk_at "go"
          exact k false _ (fun h => by cases h) F3
        · walk_at "go"
          refine ⟨_, _, rfl, F3, fun n hn' => ?_⟩
          by_cases q : n = j
          · subst q; rw [← hacc]; omega
          · exact h2 n (by omega)
    · rintro σ H2 ⟨v3, v4, rfl, f2, h2⟩
      refine ⟨_, _, _, rfl, f2, fun k' n hk' hn' => ?_⟩
      by_cases q : k' = i
      · subst q; exact h2 n (by omega)
      · exact h1 k' n (by omega) hn'
  · rintro σ H1 ⟨v2, v3, v4, rfl, f1, h1⟩
    walk_at "go"
    exact k true H1 (fun _ k' n hk' hn' => h1 k' n (by omega) hn') f1
theorem ok_Lfits {f : Addr} {fd : FuncData} (F : Fun K "_law_fits" "_law_fits" s_Lfits f fd) (T : Txt K mg A)  : FnOk P w K mg base CX0 (1) f fd ["_law_setup_here", "_law_stays_here"] (sp_Lfits K A) := by
  refine F.ok sc_Lfits (fun vs H Q E h => ?_) (fun cdv Ar outer s H vs Q E hr h => ⟨t_Lfits K A, ?_, ?_⟩)
  · obtain ⟨x0, x1, rfl, _⟩ := h
    rfl
  · have hu := hu_of hr
    exact (pss_cons (ps_for PassesOwn.never rfl (pi_range1 rfl T.b_range (pa_cons (pe_callB b_len (by rfl) T.b_len (by decide +kernel) (pa_cons (pe_ix ix_tup (pv 0) pe_int (fun _ _ => rfl)) pa_nil)) pa_nil)) (pg_name (i := 2) sc_Lfits.nd rfl (Or.inr rfl)) (pss_one (ps_for PassesOwn.never rfl (pi_range1 rfl T.b_range (pa_cons (pe_ix ix_tup (pv 0) pe_int (fun _ _ => rfl)) pa_nil)) (pg_name (i := 3) sc_Lfits.nd rfl (Or.inr rfl)) (pss_one (ps_if (pt_cmpR c_gt (pe_callB b_len (by rfl) T.b_len (by decide +kernel) (pa_cons (pe_lc (own := [("_law_one", 4)]) (g := (gName 4)) (tt := (tAnd (tTest (tOp rEq (tOp (rIxT K) (tVar 4) (tC (.int 0))) (tVar 2))) (tChainT cLe cLt (tOp (rIxT K) (tVar 4) (tC (.int 1))) (tVar 3) (tOp (rIxT K) (tVar 4) (tC (.int 2)))))) rfl sc_Lfits.nd (pi_list (pv 1)) (blkOk_by (N := ["_law_setup_here", "_law_stays_here", "_law_kind", "_law_night", "_law_one"]) (sc := defScope s_Lfits) (own := [("_law_one", 4)]) (by decide +kernel)) (fun _ _ _ _ _ => (pg_name (i := 4) sc_Lfits.nd rfl (Or.inl rfl))) (fun _ _ _ _ _ => (pts_one (PW.pt (pw_and (pt_cmpR op_eq (pe_ix ix_tup (pv 4) pe_int (fun _ _ => rfl)) (pv 2) (nomark _)) (pw_and1 (pt_chain c_le c_lt (pe_ix ix_tup (pv 4) pe_int (fun _ _ => rfl)) (pv 3) (pe_ix ix_tup (pv 4) pe_int (fun _ _ => rfl)))))))) (fun _ _ _ _ _ => (pv 4))) pa_nil)) (pe_ix ix_tup (pe_ix ix_tup (pv 0) pe_int (fun _ _ => rfl)) (pv 2) (fun _ _ => rfl)) (nomark _)) (pss_one (ps_ret pe_bl)) pss_nil)))))
    (pss_one (ps_ret pe_bl)))
  · obtain ⟨x0, x1, rfl, h⟩ := h
    exact pu_Lfits T h
theorem Fits.nil {S : Setup} (so : SetupOk S) : Fits S [] := fun k n hk _ => by
  have : S.rooms.getD k 0 = S.rooms[k] := by rw [List.getD_eq_getElem?_getD, List.getElem?_eq_getElem hk]; rfl
  rw [this]
  exact (so.rm _ (List.getElem_mem hk)).1
def P_Lstays (K : PySem.W.Frag) (A : Ad) (x0 x1 x2 : V) (H : Hp) (Q : VK) : Prop := ∃ (d l : Addr) (S : Setup) (m : Int), x0 = .ref d ∧ x2 = .int m ∧ 0 ≤ m ∧ m ≤ 90 ∧ Draws H d l ∧ SetupOk S ∧ Da H x1 (setupD S) ∧
  ∀ (p : Addr) (ss : List Stay) (xs : List V) (H' : Hp), H p = none → Fr [d] H H' → Draws H' d l → H' p = some (.lst xs) → DaL H' xs (ss.map stayD) → (ss.length : Int) ≤ m → (∀ s ∈ ss, StayOk S s) → Fits S ss → Q (.ref p) H'
def sp_Lstays (K : PySem.W.Frag) (A : Ad) : Sp := fun vs H Q _ => ∃ x0 x1 x2, vs = [x0, x1, x2] ∧ P_Lstays K A x0 x1 x2 H Q
theorem c_Lstays {K : PySem.W.Frag} {A : Ad} {x0 x1 x2 : V} {H : Hp} {Q : VK} {E : XK} (h : P_Lstays K A x0 x1 x2 H Q) : sp_Lstays K A [x0, x1, x2] H Q E := ⟨_, _, _, rfl, h⟩
theorem sc_Lstays : FnScope ["_law_draws", "_law_setup_here", "_law_many", "_law_stays_here", "_law_k", "_law_stay_here"] ["_law_draws", "_law_setup_here", "_law_many"] (defScope s_Lstays) := ⟨rfl, rfl, rfl, by decide +kernel, rfl, by decide +kernel, by decide +kernel⟩
def t_Lstays (K : PySem.W.Frag) (A : Ad) : TS :=
  (tSeq (tAsg (tLst tNil) (gName 3))
    (tSeq (tFor (iRng1 (tCons (tVar 2) tNil)) (gName 4) (tSeq (tAsg (tCl (sp_Lstay K A) (tCons (tVar 0) (tCons (tVar 1) tNil))) (gName 5))
    (tIfS (tB (tCl (sp_Lfits K A) (tCons (tVar 1) (tCons (tOp rCat (tVar 3) (tLst (tCons (tVar 5) tNil))) tNil)))) (tDrop (tBM K "list" rAppend (tVar 3) (tCons (tVar 5) tNil))) tNext)))
    (tRet (tVar 3))))
theorem pu_Lstays (T : Txt K mg A) {x0 x1 x2 : V} {H : Hp} {Q : VK} (h : P_Lstays K A x0 x1 x2 H Q) : t_Lstays K A { nx := fun _ H' => Q .non H', rt := Q } [some x0, some x1, some x2, none, none, none] H := by
  obtain ⟨d, l, S, m, rfl, rfl, hm0, hm, D0, so, dS, k⟩ := h
  unfold t_Lstays
  walk_at "go"
  rename_i p H1 n1 f1 e1
  have npd : p ≠ d := (D0.new1 n1).symm
  have npl : p ≠ l := (D0.new2 n1).symm
  refine f_range (lo := 0) (n := m.toNat) (fun i σ H' => ∃ (v4 v5 : Option V) (ss : List Stay) (xs : List V), σ = [some (.ref d), some x1, some (.int m), some (.ref p), v4, v5] ∧ Fr [d] H H' ∧ Draws H' d l ∧ H' p = some (.lst xs) ∧ DaL H' xs (ss.map stayD) ∧ ss.length ≤ i ∧ (∀ s ∈ ss, StayOk S s) ∧ Fits S ss)
    ⟨_, _, [], [], rfl, f1.of0, D0.fr f1 nin0 nin0, e1, .nil, Nat.zero_le _, fun _ h => (nomatch h), Fits.nil so⟩ ?_ ?_
  · rintro i σ H2 hi ⟨v4, v5, ss, xs, rfl, f2, D2, e2, ds, hsl, ok, F⟩
    have hxl : xs.length = ss.length := by rw [ds.len, List.length_map]
    walk_at "go"
    refine c_Lstay ⟨d, l, S, rfl, D2, so, Da.frL f2 dS (imm_setup S), fun v s H3 sok dv f3 D3 => ?_⟩
    have e3 := f3.at e2 (nin1 npd nin0)
    have ds3 := DaL.frL f3 ds (imm_stays ss)
    walk_at "go"
    rename_i q H4 n4 f4 e4
    refine g_cat (f4.at0 e3) e4 (szL (by simp only [List.length_cons, List.length_nil]; omega)) fun c H5 n5 f5 e5 => ?_
    have F5 : Fr [d] H H5 := ((f2.transL f3).then0 f4).then0 f5
    have e5p := f5.at0 (f4.at0 e3)
    have ds5 := DaL.frL (f4.then0 f5) ds3 (imm_stays ss)
    have dv5 := Da.frL (f4.then0 f5) dv (imm_stay s)
    have D5 : Draws H5 d l := (D3.fr f4 nin0 nin0).fr f5 nin0 nin0
    walk_at "go"
    refine c_Lfits ⟨c, _, S, ss ++ [s], rfl, Da.frL F5 dS (imm_setup S), so, e5, by rw [List.map_append]; exact ds5.append (.one' dv5), by rw [List.length_append, List.length_singleton]; omega, fun b H6 hb f6 => ?_⟩
    have e6p := f6.at0 e5p
    have hal : xs.length ≤ 100 := by omega
    cases b with
    | true =>
      walk_at "go"
      rename_i H7 f7 e7
      refine ⟨_, _, ss ++ [s], _, rfl, (F5.then0 f6).own1 f7 n1, (D5.fr f6 nin0 nin0).fr f7 (nin1 npd.symm nin0) (nin1 npl.symm nin0), e7, ?_, by rw [List.length_append, List.length_singleton]; omega, fun z hz => ?_, hb rfl⟩
      · rw [List.map_append]
        exact (DaL.frL f7 (DaL.frL f6 ds5 (imm_stays ss)) (imm_stays ss)).append (.one' (Da.frL f7 (Da.frL f6 dv5 (imm_stay s)) (imm_stay s)))
      · rcases List.mem_append.mp hz with h | h
        · exact ok z h
        · rw [List.mem_singleton.mp h]; exact sok
    | false =>
      walk_at "go"
      exact ⟨_, _, ss, xs, rfl, F5.then0 f6, D5.fr f6 nin0 nin0, e6p, DaL.frL f6 ds5 (imm_stays ss), by omega, ok, F⟩
  · rintro σ H2 ⟨v4, v5, ss, xs, rfl, f2, D2, e2, ds, hsl, ok, F⟩
    walk_at "go"
    exact k p ss xs H2 n1 f2 D2 e2 ds (by omega) ok F
theorem ok_Lstays {f : Addr} {fd : FuncData} (F : Fun K "_law_stays" "_law_stays" s_Lstays f fd) (T : Txt K mg A) (c_Lstay : Cal P w K mg base "_law_stay" 3 ["_law_draws", "_law_setup_here"] (sp_Lstay K A)) (c_Lfits : Cal P w K mg base "_law_fits" 1 ["_law_setup_here", "_law_stays_here"] (sp_Lfits K A)) : FnOk P w K mg base CX0 (4) f fd ["_law_draws", "_law_setup_here", "_law_many"] (sp_Lstays K A) := by
  refine F.ok sc_Lstays (fun vs H Q E h => ?_) (fun cdv Ar outer s H vs Q E hr h => ⟨t_Lstays K A, ?_, ?_⟩)
  · obtain ⟨x0, x1, x2, rfl, _⟩ := h
    rfl
  · have hu := hu_of hr
    exact (pss_cons (ps_set (i := 3) sc_Lstays.nd rfl (Or.inl rfl) (pe_lst pa_nil))
    (pss_cons (ps_for PassesOwn.never rfl (pi_range1 rfl T.b_range (pa_cons (pv 2) pa_nil)) (pg_name (i := 4) sc_Lstays.nd rfl (Or.inl rfl)) (pss_cons (ps_set (i := 5) sc_Lstays.nd rfl (Or.inl rfl) (pe_cl c_Lstay (hr.mono (by first | decide | omega)) (by rfl) (pa_cons (pv 0) (pa_cons (pv 1) pa_nil))))
    (pss_one (ps_if (pt_val (pe_cl c_Lfits (hr.mono (by first | decide | omega)) (by rfl) (pa_cons (pv 1) (pa_cons (pe_op op_cat (pv 3) (pe_lst (pa_cons (pv 5) pa_nil))) pa_nil)))) (pss_one (ps_expr (pe_bm PySem.F.plainAttrs_list PySem.F.slot_list_append PySem.F.type_list_append mt_append (pv 3) (pa_cons (pv 5) pa_nil)))) pss_nil))))
    (pss_one (ps_ret (pv 3)))))
  · obtain ⟨x0, x1, x2, rfl, h⟩ := h
    exact pu_Lstays T h
def P_Lorder (K : PySem.W.Frag) (A : Ad) (x0 : V) (H : Hp) (Q : VK) : Prop := ∃ (p : Addr) (xs : List V) (ss : List Stay), x0 = .ref p ∧ H p = some (.lst xs) ∧ DaL H xs (ss.map stayD) ∧ ss.length ≤ 100 ∧
  ∀ (q : Addr) (H' : Hp), H q = none → Fr [] H H' → H' q = some (.lst ((ord ss (List.range ss.length)).map fun k => V.int (k : Nat))) → Q (.ref q) H'
def sp_Lorder (K : PySem.W.Frag) (A : Ad) : Sp := fun vs H Q _ => ∃ x0, vs = [x0] ∧ P_Lorder K A x0 H Q
theorem c_Lorder {K : PySem.W.Frag} {A : Ad} {x0 : V} {H : Hp} {Q : VK} {E : XK} (h : P_Lorder K A x0 H Q) : sp_Lorder K A [x0] H Q E := ⟨_, rfl, h⟩
theorem sc_Lorder : FnScope ["_law_stays_here", "_law_pair", "_law_k"] ["_law_stays_here"] (defScope s_Lorder) := ⟨rfl, rfl, rfl, by decide +kernel, rfl, by decide +kernel, by decide +kernel⟩
def t_Lorder (K : PySem.W.Frag) (A : Ad) : TS :=
  (tRet (tLc (iList K (tCB (rSortD K) (tCons (tLc (iRng1 (tCons (tCB (rLenSq K) (tCons (tVar 0) tNil)) tNil)) (gName 2) tYes (tTup (tCons (tOp (rIxT K) (tOp (rIxL K) (tVar 0) (tVar 2)) (tC (.int 1))) (tCons (tVar 2) tNil))) [2]) tNil))) (gName 1) tYes (tOp (rIxT K) (tVar 1) (tC (.int 1))) [1]))
theorem pu_Lorder (T : Txt K mg A) {x0 : V} {H : Hp} {Q : VK} (h : P_Lorder K A x0 H Q) : t_Lorder K A { nx := fun _ H' => Q .non H', rt := Q } [some x0, none, none] H := by
  obtain ⟨p, xs, ss, rfl, ep, ds, hl, k⟩ := h
  have hxl : xs.length = ss.length := by rw [ds.len, List.length_map]
  unfold t_Lorder
  walk_at "go"
  refine l_range (lo := 0) (n := ((xs.length : Nat) : Int).toNat) fun Dp H6 nP f6 e6 => ⟨fun i acc H' => Fr [] H H' ∧ DaL H' acc ((List.range i).map (pairD ss)), ⟨f6, .nil⟩, fun i acc H' hi hac ⟨f7, r7⟩ => ?_, fun acc H7 hac ⟨f7, r7⟩ => ?_⟩
  · have hi' : i < ss.length := by omega
    obtain ⟨a, hxa, ea, da⟩ := stays_at ds hi'
    have hal : acc.length ≤ 100 := by rw [r7.len, List.length_map, List.length_range]; omega
    have ea7 := f7.tup _ _ ea
    walk_at "go"
    refine ⟨rfl, ?_⟩
    walk_at "go"
    refine g_ixL (SqL.of (f7.at0 ep)) (show atI xs (0 + (i : Int)) = _ from by rw [Int.zero_add]; exact atI_nat hxa) ?_
    walk_at "go"
    rename_i t H8 n8 f8 e8
    refine lcY_of (f8.at0 hac) (by walk_at "sz") fun H9 f9 e9 => ⟨(f7.then0 f8).own1 f9 nP, ?_⟩
    rw [List.range_succ, List.map_append]
    exact (DaL.frL f9 (DaL.frL f8 r7 (imm_pairs ss _)) (imm_pairs ss _)).append (.one' (.tup (f9.tup _ _ e8) (Nat.le_of_ble_eq_true rfl) (.cons (.int _) (.one' (by rw [Int.zero_add]; exact .int _)))))
  have hn : ((xs.length : Nat) : Int).toNat = ss.length := by omega
  rw [hn] at r7
  walk_at "go"
  refine g_srt (SqL.of hac) r7 (pairs_alike ss _) (pairs_sortable ss _) (pairs_depth ss _) fun sp H8 ys n8 f8 e8 r8 => ?_
  rw [srt_pairs] at r8
  replace r8 := DaL.frL f8 r8 (imm_pairs ss _)
  have hyl : ys.length = (ord ss (List.range ss.length)).length := by rw [r8.len, List.length_map]
  have hol : (ord ss (List.range ss.length)).length = ss.length := by rw [(ord_perm ss _).length_eq, List.length_range]
  walk_at "go"
  refine l_list (xs := ys) fun Dq H9 nQ f9 e9 => ⟨fun i acc H' => Fr [] H8 H' ∧ acc = ((ord ss (List.range ss.length)).take i).map fun k => V.int (k : Nat), ⟨f9, rfl⟩, fun i acc H' ⟨f10, _⟩ => SqL.of (f10.at0 e8), fun i x acc H' hx hacq ⟨f10, hacc⟩ => ?_, fun acc H10 hacq ⟨f10, hacc⟩ => ?_⟩
  · obtain ⟨n, a, hn', rfl, ea⟩ := pair_get r8 hx
    have hal : acc.length ≤ 100 := by rw [hacc, List.length_map, List.length_take]; omega
    have ea' := f10.tup _ _ ea
    walk_at "go"
    refine ⟨rfl, ?_⟩
    walk_at "go"
    refine lcY_of hacq (by walk_at "sz") fun H11 f11 e11 => ⟨f10.own1 f11 nQ, ?_⟩
    rw [take_more hn', List.map_append, hacc]; rfl
  · rw [hyl, List.take_length] at hacc
    subst hacc
    walk_at "go"
    have F8 : Fr [] H H8 := f7.then0 f8
    exact k Dq H10 (F8.free nQ) (F8.then0 f10) hacq
theorem ok_Lorder {f : Addr} {fd : FuncData} (F : Fun K "_law_order" "_law_order" s_Lorder f fd) (T : Txt K mg A)  : FnOk P w K mg base CX0 (1) f fd ["_law_stays_here"] (sp_Lorder K A) := by
  refine F.ok sc_Lorder (fun vs H Q E h => ?_) (fun cdv Ar outer s H vs Q E hr h => ⟨t_Lorder K A, ?_, ?_⟩)
  · obtain ⟨x0, rfl, _⟩ := h
    rfl
  · have hu := hu_of hr
    exact (pss_one (ps_ret (pe_lc (own := [("_law_pair", 1)]) (g := (gName 1)) (tt := tYes) rfl sc_Lorder.nd (pi_list (pe_callB (b_sortD hr.units) (by rfl) T.b_sorted (by decide +kernel) (pa_cons (pe_lc (own := [("_law_k", 2)]) (g := (gName 2)) (tt := tYes) rfl sc_Lorder.nd (pi_range1 rfl T.b_range (pa_cons (pe_callB b_len (by rfl) T.b_len (by decide +kernel) (pa_cons (pv 0) pa_nil)) pa_nil)) (blkOk_by (N := ["_law_stays_here", "_law_pair", "_law_k"]) (sc := defScope s_Lorder) (own := [("_law_k", 2)]) (by decide +kernel)) (fun _ _ _ _ _ => (pg_name (i := 2) sc_Lorder.nd rfl (Or.inl rfl))) (fun _ _ _ _ _ => pts_nil) (fun _ _ _ _ _ => (pe_tup (pa_cons (pe_ix ix_tup (pe_ix ix_list (pv 0) (pv 2) (fun _ _ => rfl)) pe_int (fun _ _ => rfl)) (pa_cons (pv 2) pa_nil))))) pa_nil))) (blkOk_by (N := ["_law_stays_here", "_law_pair", "_law_k"]) (sc := defScope s_Lorder) (own := [("_law_pair", 1)]) (by decide +kernel)) (fun _ _ _ _ _ => (pg_name (i := 1) sc_Lorder.nd rfl (Or.inl rfl))) (fun _ _ _ _ _ => pts_nil) (fun _ _ _ _ _ => (pe_ix ix_tup (pv 1) pe_int (fun _ _ => rfl))))))
  · obtain ⟨x0, rfl, h⟩ := h
    exact pu_Lorder T h

theorem rooms_le {S : Setup} {t : Stay} (so : SetupOk S) (ok : StayOk S t) : 0 ≤ rooms S t ∧ rooms S t ≤ 4 := by
  obtain ⟨o1, o2, _⟩ := ok
  have hk : t.1.toNat < S.rooms.length := by omega
  have : rooms S t = S.rooms[t.1.toNat] := by unfold rooms; rw [List.getD_eq_getElem?_getD, List.getElem?_eq_getElem hk]; rfl
  rw [this]; exact so.rm _ (List.getElem_mem hk)
def P_Lhoused (K : PySem.W.Frag) (A : Ad) (x0 x1 x2 : V) (H : Hp) (Q : VK) : Prop := ∃ (p g : Addr) (xs : List V) (S : Setup) (ss : List Stay) (night : Int) (R : List (Option Int)), x1 = .ref p ∧ x2 = .ref g ∧ Da H x0 (setupD S) ∧ SetupOk S ∧ H p = some (.lst xs) ∧ DaL H xs (ss.map stayD) ∧ ss.length ≤ 100 ∧ (∀ s ∈ ss, StayOk S s) ∧ Fits S ss ∧
  H g = some (.lst (R.map optV)) ∧ Given S ss night R ∧ ∀ (q : Addr) (H' : Hp), H q = none → Fr [] H H' → H' q = some (.lst ((housedAll S ss R).map optV)) → Q (.ref q) H'
def sp_Lhoused (K : PySem.W.Frag) (A : Ad) : Sp := fun vs H Q _ => ∃ x0 x1 x2, vs = [x0, x1, x2] ∧ P_Lhoused K A x0 x1 x2 H Q
theorem c_Lhoused {K : PySem.W.Frag} {A : Ad} {x0 x1 x2 : V} {H : Hp} {Q : VK} {E : XK} (h : P_Lhoused K A x0 x1 x2 H Q) : sp_Lhoused K A [x0, x1, x2] H Q E := ⟨_, _, _, rfl, h⟩
theorem sc_Lhoused : FnScope ["_law_setup_here", "_law_stays_here", "_law_given_here", "_law_rooms", "_law_k", "_law_taken", "_law_free", "_law_j", "_law_room"] ["_law_setup_here", "_law_stays_here", "_law_given_here"] (defScope s_Lhoused) := ⟨rfl, rfl, rfl, by decide +kernel, rfl, by decide +kernel, by decide +kernel⟩
def t_Lhoused (K : PySem.W.Frag) (A : Ad) : TS :=
  (tSeq (tAsg (tCB (rListOf K) (tCons (tVar 2) tNil)) (gName 3))
    (tSeq (tFor (iList K (tCl (sp_Lorder K A) (tCons (tVar 1) tNil))) (gName 4) (tIfS (tTest (tOp rIsNon (tOp (rIxL K) (tVar 3) (tVar 4)) (tC .non))) (tSeq (tAsg (tLc (iRng1 (tCons (tCB (rLenSq K) (tCons (tVar 1) tNil)) tNil)) (gName 7) (tAnd (tTest (tOp rIsNotNon (tOp (rIxL K) (tVar 3) (tVar 7)) (tC .non))) (tB (tCl (sp_Lmeet K A) (tCons (tOp (rIxL K) (tVar 1) (tVar 7)) (tCons (tOp (rIxL K) (tVar 1) (tVar 4)) tNil))))) (tOp (rIxL K) (tVar 3) (tVar 7)) [7]) (gName 5))
    (tSeq (tAsg (tLc (iRng1 (tCons (tOp (rIxT K) (tOp (rIxT K) (tVar 0) (tC (.int 0))) (tOp (rIxT K) (tOp (rIxL K) (tVar 1) (tVar 4)) (tC (.int 0)))) tNil)) (gName 8) (tTest (tOp (rIn K true) (tVar 8) (tVar 5))) (tVar 8) [8]) (gName 6))
    (tAsg (tOp (rIxL K) (tVar 6) (tC (.int 0))) (gSub (tVar 3) (tVar 4) rSetL)))) tNext))
    (tRet (tVar 3))))
theorem pu_Lhoused (T : Txt K mg A) {x0 x1 x2 : V} {H : Hp} {Q : VK} (h : P_Lhoused K A x0 x1 x2 H Q) : t_Lhoused K A { nx := fun _ H' => Q .non H', rt := Q } [some x0, some x1, some x2, none, none, none, none, none, none] H := by
  obtain ⟨p, g, xs, S, ss, night, R, rfl, rfl, dS, so, ep, ds, hl, ok, F, eg, gv, k⟩ := h
  obtain ⟨s, r, pp, ps, sa⟩ := SetAt.of dS
  cases sa.e
  have e0 := sa.t
  have er := sa.r
  have hxl : xs.length = ss.length := by rw [ds.len, List.length_map]
  have hRl := gv.g.len
  unfold t_Lhoused
  walk_at "go"
  rename_i f H1 nf f1 e1
  walk_at "go"
  refine c_Lorder ⟨p, xs, ss, rfl, f1.at0 ep, DaL.frL f1 ds (imm_stays ss), hl, fun q H2 n2 f2 e2 => ?_⟩
  have F2 : Fr [] H H2 := f1.then0 f2
  have nqf : q ≠ f := fun z => by rw [z, e1] at n2; cases n2
  have e2f := f2.at0 e1
  have hol : (ord ss (List.range ss.length)).length = ss.length := by rw [(ord_perm ss _).length_eq, List.length_range]
  walk_at "go"
  refine f_list (xs := (ord ss (List.range ss.length)).map fun k => V.int (k : Nat)) (fun i σ H' => ∃ v4 v5 v6 v7 v8, σ = [some (.ref s), some (.ref p), some (.ref g), some (.ref f), v4, v5, v6, v7, v8] ∧ Fr [f] H2 H' ∧ H' f = some (.lst ((housedL S ss R i).map optV))) ⟨_, _, _, _, _, rfl, Fr.refl, e2f⟩ (fun i σ H' _ ⟨_, _, _, _, _, _, f9, _⟩ => SqL.of (f9.at e2 (nin1 nqf nin0))) ?_ ?_
  · rintro i x σ H9 hx ⟨v4, v5, v6, v7, v8, rfl, f9, e9⟩
    have hi : i < (ord ss (List.range ss.length)).length := by have := (List.getElem?_eq_some_iff.mp hx).1; rwa [List.length_map] at this
    have hn : (ord ss (List.range ss.length))[i]? = some (ord ss (List.range ss.length))[i] := List.getElem?_eq_getElem hi
    rw [List.getElem?_map, hn] at hx
    cases hx
    generalize (ord ss (List.range ss.length))[i] = n at hn
    obtain ⟨hnl, hRn, hskip, hstep⟩ := housedL_step F ok gv hn
    have hs := housedL_hs F ok gv i (by omega)
    generalize hRc : housedL S ss R i = Rc at *
    have hRcl := hs.g.len
    obtain ⟨b, hxb, eb, db⟩ := stays_at ds hnl
    have okn := ok _ (stG_mem hnl)
    have FF : Fr [] H H9 := F2.own1 f9 nf
    have ep9 : H9 p = some (.lst xs) := FF.at0 ep
    have on := opt_at (R := Rc) (i := n) (by omega)
    walk_at "go"
    refine g_ixL (SqL.of e9) (atI_nat on) ?_
    walk_at "go"
    refine g_ite (fun c => ?_) (fun c => ?_)
    · have c0 : rmG R n = none := hRn ▸ optV_non.mp c
      obtain ⟨fne, hst⟩ := hstep c0
      generalize ht : stG ss n = t at *
      have rng0 := rooms_le so okn
      walk_at "go"
      refine l_range (lo := 0) (n := ((xs.length : Nat) : Int).toNat) fun Dl H10 nD f10 e10 => ⟨fun m acc H' => Fr [] H9 H' ∧ acc = (tkn ss Rc t m).map V.int, ⟨f10, rfl⟩, fun m acc H' hm ha ⟨f11, hacc⟩ => ?_, fun acc H11 ha ⟨f11, hacc⟩ => ?_⟩
      · have hm' : m < ss.length := by omega
        obtain ⟨c', hxc, ec, dc⟩ := stays_at ds hm'
        have FG := FF.then0 f11
        have ep11 := FG.at0 ep
        have e11 := f11.at0 e9
        have tm := tkn_more (ss := ss) (R := Rc) (t := t) (i := m)
        have htl := tkn_len (ss := ss) (R := Rc) (t := t) (i := m)
        have hal : acc.length ≤ 100 := by rw [hacc, List.length_map]; omega
        have om := opt_at (R := Rc) (i := m) (by omega)
        generalize ho : rmG Rc m = o at *
        have iom : atI (Rc.map optV) (0 + (m : Int)) = some (optV o) := by rw [Int.zero_add]; exact atI_nat om
        have ixm : atI xs (0 + (m : Int)) = some (.ref c') := by rw [Int.zero_add]; exact atI_nat hxc
        walk_at "go"
        refine ⟨rfl, ?_⟩
        walk_at "go"
        refine g_ixL (SqL.of e11) iom ?_
        walk_at "go"
        cases o with
        | none =>
          refine g_iteN (fun c => absurd rfl c) (fun _ => ?_)
          walk_at "go"
          refine lcN_of ha ⟨f11, ?_⟩
          rw [tm, hacc]; simp
        | some z =>
          refine g_iteN (fun _ => ?_) (fun c => by cases c)
          walk_at "go"
          refine g_ixL (SqL.of ep11) ixm ?_
          walk_at "go"
          refine g_ixL (SqL.of ep11) (atI_nat hxb) ?_
          walk_at "go"
          refine c_Lmeet ⟨stG ss m, t, Da.frL FG dc rfl, Da.frL FG db rfl, ?_⟩
          by_cases c : meetB (stG ss m) t = true
          · rw [c]
            walk_at "go"
            refine g_ixL (SqL.of e11) iom ?_
            refine lcY_of ha (by walk_at "sz") fun H13 f13 e13 => ⟨f11.own1 f13 nD, ?_⟩
            rw [tm, hacc]
            simp [c, optV]
          · rw [(by simpa using c : meetB (stG ss m) t = false)]
            walk_at "go"
            refine lcN_of ha ⟨f11, ?_⟩
            rw [tm, hacc]
            simp [c]
      have hm : ((xs.length : Nat) : Int).toNat = ss.length := by omega
      rw [hm] at hacc
      subst hacc
      have FG := FF.then0 f11
      have e0' := FG.tup _ _ e0
      have er' := FG.tup _ _ er
      have ep' := FG.at0 ep
      have eb' := FG.tup _ _ eb
      have e11f := f11.at0 e9
      walk_at "go"
      refine g_ixL (SqL.of ep') (atI_nat hxb) ?_
      walk_at "go"
      refine g_ixT (SqT.of er') (room_at okn) ?_
      walk_at "go"
      refine l_range (lo := 0) (n := (rooms S t).toNat) fun Dm H12 nM f12 e12 => ⟨fun m acc H' => Fr [] H11 H' ∧ acc = (free (tkn ss Rc t ss.length) m).map V.int, ⟨f12, rfl⟩, fun m acc H' hm ha' ⟨f13, hacc'⟩ => ?_, fun acc H13 ha' ⟨f13, hacc'⟩ => ?_⟩
      · have hal : acc.length ≤ 100 := by rw [hacc', List.length_map]; have := free_len (tkn ss Rc t ss.length) m; omega
        have e13 := f13.at0 ha
        walk_at "go"
        refine ⟨rfl, ?_⟩
        walk_at "go"
        refine g_iteN (fun c => ?_) (fun c => ?_)
        · walk_at "go"
          refine lcY_of ha' (by walk_at "sz") fun H14 f14 e14 => ⟨f13.own1 f14 nM, ?_⟩
          rw [Int.zero_add] at c ⊢
          rw [free_more, if_pos c, List.map_append, hacc']; rfl
        · refine lcN_of ha' ⟨f13, ?_⟩
          rw [Int.zero_add] at c
          rw [free_more, if_neg (by simpa using c), List.append_nil]; exact hacc'
      · subst hacc'
        have e13f := f13.at0 e11f
        have hd : ((free (tkn ss Rc t ss.length) (rooms S t).toNat).map V.int)[0]? = some (.int (pick0 S ss Rc n)) := by
          unfold pick0
          rw [ht]
          cases q : free (tkn ss Rc t ss.length) (rooms S t).toNat with
          | nil => exact absurd q fne
          | cons a r => rfl
        walk_at "go"
        refine g_ixL (SqL.of ha') (show atI _ ((0 : Nat) : Int) = _ from atI_nat hd) ?_
        walk_at "go"
        refine g_setL e13f (j := n) (Evl.ixN_nat (by rw [List.length_map]; omega)) fun H14 f14 e14 => ?_
        walk_at "go"
        refine ⟨_, _, _, _, _, rfl, (((f9.then0 f11).then0 f13).transL f14), ?_⟩
        rw [hst, e14, opts_set]; rfl
    · walk_at "go"
      refine ⟨_, _, _, _, _, rfl, f9, ?_⟩
      rw [hskip fun z => c (optV_non.mpr (hRn.trans z))]
      exact e9
  · rintro σ H9 ⟨v4, v5, v6, v7, v8, rfl, f9, e9⟩
    rw [List.length_map, hol, housedL_all] at e9
    walk_at "go"
    exact k f H9 nf (F2.own1 f9 nf) e9
theorem ok_Lhoused {f : Addr} {fd : FuncData} (F : Fun K "_law_housed" "_law_housed" s_Lhoused f fd) (T : Txt K mg A) (c_Lorder : Cal P w K mg base "_law_order" 1 ["_law_stays_here"] (sp_Lorder K A)) (c_Lmeet : Cal P w K mg base "_law_meet" 1 ["_law_first", "_law_second"] (sp_Lmeet K A)) : FnOk P w K mg base CX0 (2) f fd ["_law_setup_here", "_law_stays_here", "_law_given_here"] (sp_Lhoused K A) := by
  refine F.ok sc_Lhoused (fun vs H Q E h => ?_) (fun cdv Ar outer s H vs Q E hr h => ⟨t_Lhoused K A, ?_, ?_⟩)
  · obtain ⟨x0, x1, x2, rfl, _⟩ := h
    rfl
  · have hu := hu_of hr
    exact (pss_cons (ps_set (i := 3) sc_Lhoused.nd rfl (Or.inr rfl) (pe_callTy b_list (by rfl) T.b_list (by decide +kernel) (pa_cons (pv 2) pa_nil)))
    (pss_cons (ps_for PassesOwn.never rfl (pi_list (pe_cl c_Lorder (hr.mono (by first | decide | omega)) (by rfl) (pa_cons (pv 1) pa_nil))) (pg_name (i := 4) sc_Lhoused.nd rfl (Or.inr rfl)) (pss_one (ps_if (pt_cmpR c_isN (pe_ix ix_list (pv 3) (pv 4) (fun _ _ => rfl)) pe_non (nomark _)) (pss_cons (ps_set (i := 5) sc_Lhoused.nd rfl (Or.inr rfl) (pe_lc (own := [("_law_j", 7)]) (g := (gName 7)) (tt := (tAnd (tTest (tOp rIsNotNon (tOp (rIxL K) (tVar 3) (tVar 7)) (tC .non))) (tB (tCl (sp_Lmeet K A) (tCons (tOp (rIxL K) (tVar 1) (tVar 7)) (tCons (tOp (rIxL K) (tVar 1) (tVar 4)) tNil)))))) rfl sc_Lhoused.nd (pi_range1 rfl T.b_range (pa_cons (pe_callB b_len (by rfl) T.b_len (by decide +kernel) (pa_cons (pv 1) pa_nil)) pa_nil)) (blkOk_by (N := ["_law_setup_here", "_law_stays_here", "_law_given_here", "_law_rooms", "_law_k", "_law_taken", "_law_free", "_law_j", "_law_room"]) (sc := defScope s_Lhoused) (own := [("_law_j", 7)]) (by decide +kernel)) (fun _ _ _ _ _ => (pg_name (i := 7) sc_Lhoused.nd rfl (Or.inl rfl))) (fun _ _ _ _ _ => (pts_one (PW.pt (pw_and (pt_cmpR c_notN (pe_ix ix_list (pv 3) (pv 7) (fun _ _ => rfl)) pe_non (nomark _)) (pw_and1 (pt_val (pe_cl c_Lmeet (hr.mono (by first | decide | omega)) (by rfl) (pa_cons (pe_ix ix_list (pv 1) (pv 7) (fun _ _ => rfl)) (pa_cons (pe_ix ix_list (pv 1) (pv 4) (fun _ _ => rfl)) pa_nil))))))))) (fun _ _ _ _ _ => (pe_ix ix_list (pv 3) (pv 7) (fun _ _ => rfl)))))
    (pss_cons (ps_setLc (i := 6) (own := [("_law_room", 8)]) (g := (gName 8)) (tt := (tTest (tOp (rIn K true) (tVar 8) (tVar 5)))) rfl sc_Lhoused.nd rfl rfl (sw_true rfl rfl rfl (by decide +kernel)) (pi_range1 rfl T.b_range (pa_cons (pe_ix ix_tup (pe_ix ix_tup (pv 0) pe_int (fun _ _ => rfl)) (pe_ix ix_tup (pe_ix ix_list (pv 1) (pv 4) (fun _ _ => rfl)) pe_int (fun _ _ => rfl)) (fun _ _ => rfl)) pa_nil)) (blkOk_by (N := ["_law_setup_here", "_law_stays_here", "_law_given_here", "_law_rooms", "_law_k", "_law_taken", "_law_free", "_law_j", "_law_room"]) (sc := defScope s_Lhoused) (own := [("_law_room", 8)]) (by decide +kernel)) (fun _ _ _ _ _ => (pg_name (i := 8) sc_Lhoused.nd rfl (Or.inl rfl))) (fun _ _ _ _ _ => (pts_one (pt_cmpR op_notIn_seq (pv 8) (pv 5) rfl))) (fun _ _ _ _ _ => (pv 8)))
    (pss_one (ps_asg (pe_ix ix_list (pv 6) pe_int (fun _ _ => rfl)) (pg_sub (pv 3) (pv 4) set_list))))) pss_nil)))
    (pss_one (ps_ret (pv 3)))))
  · obtain ⟨x0, x1, x2, rfl, h⟩ := h
    exact pu_Lhoused T h
def P_Lgiven (K : PySem.W.Frag) (A : Ad) (x0 x1 x2 x3 : V) (H : Hp) (Q : VK) : Prop := ∃ (d l p : Addr) (xs : List V) (S : Setup) (ss : List Stay) (night : Int), x0 = .ref d ∧ x2 = .ref p ∧ x3 = .int night ∧ Draws H d l ∧ Da H x1 (setupD S) ∧ SetupOk S ∧ p ≠ d ∧ H p = some (.lst xs) ∧ DaL H xs (ss.map stayD) ∧ ss.length ≤ 100 ∧ (∀ s ∈ ss, StayOk S s) ∧ Fits S ss ∧
  ∀ (q : Addr) (R : List (Option Int)) (H' : Hp), H q = none → Fr [d] H H' → Draws H' d l → H' q = some (.lst (R.map optV)) → Given S ss night R → Q (.ref q) H'
def sp_Lgiven (K : PySem.W.Frag) (A : Ad) : Sp := fun vs H Q _ => ∃ x0 x1 x2 x3, vs = [x0, x1, x2, x3] ∧ P_Lgiven K A x0 x1 x2 x3 H Q
theorem c_Lgiven {K : PySem.W.Frag} {A : Ad} {x0 x1 x2 x3 : V} {H : Hp} {Q : VK} {E : XK} (h : P_Lgiven K A x0 x1 x2 x3 H Q) : sp_Lgiven K A [x0, x1, x2, x3] H Q E := ⟨_, _, _, _, rfl, h⟩
theorem sc_Lgiven : FnScope ["_law_draws", "_law_setup_here", "_law_stays_here", "_law_night", "_law_rooms", "_law_k", "_law_taken", "_law_free", "_law_stay_here", "_law_j", "_law_room"] ["_law_draws", "_law_setup_here", "_law_stays_here", "_law_night"] (defScope s_Lgiven) := ⟨rfl, rfl, rfl, by decide +kernel, rfl, by decide +kernel, by decide +kernel⟩
def t_Lgiven (K : PySem.W.Frag) (A : Ad) : TS :=
  (tSeq (tAsg (tLc (iList K (tVar 2)) (gName 8) tYes (tC .non) [8]) (gName 4))
    (tSeq (tFor (iList K (tCl (sp_Lorder K A) (tCons (tVar 2) tNil))) (gName 5) (tIfS (tTest (tOp cLe (tOp (rIxT K) (tOp (rIxL K) (tVar 2) (tVar 5)) (tC (.int 1))) (tVar 3))) (tSeq (tAsg (tLc (iRng1 (tCons (tCB (rLenSq K) (tCons (tVar 2) tNil)) tNil)) (gName 9) (tAnd (tTest (tOp rIsNotNon (tOp (rIxL K) (tVar 4) (tVar 9)) (tC .non))) (tB (tCl (sp_Lmeet K A) (tCons (tOp (rIxL K) (tVar 2) (tVar 9)) (tCons (tOp (rIxL K) (tVar 2) (tVar 5)) tNil))))) (tOp (rIxL K) (tVar 4) (tVar 9)) [9]) (gName 6))
    (tSeq (tAsg (tLc (iRng1 (tCons (tOp (rIxT K) (tOp (rIxT K) (tVar 1) (tC (.int 0))) (tOp (rIxT K) (tOp (rIxL K) (tVar 2) (tVar 5)) (tC (.int 0)))) tNil)) (gName 10) (tTest (tOp (rIn K true) (tVar 10) (tVar 6))) (tVar 10) [10]) (gName 7))
    (tAsg (tOp (rIxL K) (tVar 7) (tOp oMod (tCl (sp_Ldraw K A) (tCons (tVar 0) tNil)) (tCB (rLenSq K) (tCons (tVar 7) tNil)))) (gSub (tVar 4) (tVar 5) rSetL)))) tNext))
    (tRet (tVar 4))))
theorem pu_Lgiven (T : Txt K mg A) {x0 x1 x2 x3 : V} {H : Hp} {Q : VK} (h : P_Lgiven K A x0 x1 x2 x3 H Q) : t_Lgiven K A { nx := fun _ H' => Q .non H', rt := Q } [some x0, some x1, some x2, some x3, none, none, none, none, none, none, none] H := by
  obtain ⟨d, l, p, xs, S, ss, night, rfl, rfl, rfl, D0, dS, so, npd, ep, ds, hl, ok, F, k⟩ := h
  obtain ⟨s, r, pp, ps, sa⟩ := SetAt.of dS
  cases sa.e
  have e0 := sa.t
  have er := sa.r
  have hxl : xs.length = ss.length := by rw [ds.len, List.length_map]
  unfold t_Lgiven
  walk_at "go"
  refine l_list (xs := xs) fun f H1 nf f1 e1 => ⟨fun i acc H' => Fr [] H H' ∧ acc = ((ss.take i).map fun _ => (none : Option Int)).map optV, ⟨f1, rfl⟩, fun i acc H' ⟨f2, _⟩ => SqL.of (f2.at0 ep), fun i x acc H' hx ha ⟨f2, hacc⟩ => ?_, fun acc H1 e1 ⟨f1, hacc⟩ => ?_⟩
  · obtain ⟨u, b, hu, rfl, eb, du⟩ := stays_get ds hx
    have hal : acc.length ≤ 100 := by rw [hacc, List.length_map, List.length_map, List.length_take]; omega
    walk_at "go"
    refine ⟨rfl, ?_⟩
    walk_at "go"
    refine lcY_of ha (by walk_at "sz") fun H11 f11 e11 => ⟨f2.own1 f11 nf, ?_⟩
    rw [take_more hu, List.map_append, List.map_append, hacc]; rfl
  rw [hxl, List.take_length] at hacc
  subst hacc
  walk_at "go"
  refine c_Lorder ⟨p, xs, ss, rfl, f1.at0 ep, DaL.frL f1 ds (imm_stays ss), hl, fun q H2 n2 f2 e2 => ?_⟩
  have F2 : Fr [] H H2 := f1.then0 f2
  have nqf : q ≠ f := fun z => by rw [z, e1] at n2; cases n2
  have e2f := f2.at0 e1
  have D2 : Draws H2 d l := D0.fr F2 nin0 nin0
  have nfd : f ≠ d := (D0.new1 nf).symm
  have nfl : f ≠ l := (D0.new2 nf).symm
  have nqd : q ≠ d := ((D0.fr f1 nin0 nin0).new1 n2).symm
  have hol : (ord ss (List.range ss.length)).length = ss.length := by rw [(ord_perm ss _).length_eq, List.length_range]
  walk_at "go"
  refine f_list (xs := (ord ss (List.range ss.length)).map fun k => V.int (k : Nat)) (fun i σ H' => ∃ (v5 v6 v7 v8 v9 v10 : Option V) (R : List (Option Int)), σ = [some (.ref d), some (.ref s), some (.ref p), some (.int night), some (.ref f), v5, v6, v7, v8, v9, v10] ∧ Fr [f, d] H2 H' ∧ Draws H' d l ∧ H' f = some (.lst (R.map optV)) ∧ GI S ss night i R) ⟨_, _, _, _, _, _, _, rfl, Fr.refl, D2, e2f, GI.start S ss night⟩ (fun i σ H' _ ⟨_, _, _, _, _, _, _, _, f9, _⟩ => SqL.of (f9.at e2 (nin1 nqf (nin1 nqd nin0)))) ?_ ?_
  · rintro i x σ H9 hx ⟨v5, v6, v7, v8, v9, v10, Rc, rfl, f9, D9, e9, gi⟩
    have hi : i < (ord ss (List.range ss.length)).length := by have := (List.getElem?_eq_some_iff.mp hx).1; rwa [List.length_map] at this
    have hn : (ord ss (List.range ss.length))[i]? = some (ord ss (List.range ss.length))[i] := List.getElem?_eq_getElem hi
    rw [List.getElem?_map, hn] at hx
    cases hx
    generalize (ord ss (List.range ss.length))[i] = n at hn
    obtain ⟨hnl, fne⟩ := gi.free F ok hn
    have hRcl := gi.g.len
    obtain ⟨b, hxb, eb, db⟩ := stays_at ds hnl
    have okn := ok _ (stG_mem hnl)
    have gskip := gi.skip hn
    have gmore := fun hle r => gi.more (r := r) hn hnl hle
    have FF : Fr [d] H H9 := (F2.of0.own f9 (frn1 (.inr nf) (frn1 (.inl (by simp)) frn0)))
    have ep9 : H9 p = some (.lst xs) := FF.at ep (nin1 npd nin0)
    have eb9 := FF.tup _ _ eb
    generalize ht : stG ss n = t at *
    have rng0 := rooms_le so okn
    walk_at "go"
    refine g_ixL (SqL.of ep9) (atI_nat hxb) ?_
    walk_at "go"
    refine g_ite (fun c => ?_) (fun c => ?_)
    · walk_at "go"
      refine l_range (lo := 0) (n := ((xs.length : Nat) : Int).toNat) fun Dl H10 nD f10 e10 => ⟨fun m acc H' => Fr [] H9 H' ∧ acc = (tkn ss Rc t m).map V.int, ⟨f10, rfl⟩, fun m acc H' hm ha ⟨f11, hacc⟩ => ?_, fun acc H11 ha ⟨f11, hacc⟩ => ?_⟩
      · have hm' : m < ss.length := by omega
        obtain ⟨c', hxc, ec, dc⟩ := stays_at ds hm'
        have FG := FF.then0 f11
        have ep11 := f11.at0 ep9
        have e11 := f11.at0 e9
        have tm := tkn_more (ss := ss) (R := Rc) (t := t) (i := m)
        have htl := tkn_len (ss := ss) (R := Rc) (t := t) (i := m)
        have hal : acc.length ≤ 100 := by rw [hacc, List.length_map]; omega
        have om := opt_at (R := Rc) (i := m) (by omega)
        generalize ho : rmG Rc m = o at *
        have iom : atI (Rc.map optV) (0 + (m : Int)) = some (optV o) := by rw [Int.zero_add]; exact atI_nat om
        have ixm : atI xs (0 + (m : Int)) = some (.ref c') := by rw [Int.zero_add]; exact atI_nat hxc
        walk_at "go"
        refine ⟨rfl, ?_⟩
        walk_at "go"
        refine g_ixL (SqL.of e11) iom ?_
        walk_at "go"
        cases o with
        | none =>
          refine g_iteN (fun c => absurd rfl c) (fun _ => ?_)
          walk_at "go"
          refine lcN_of ha ⟨f11, ?_⟩
          rw [tm, hacc]; simp
        | some z =>
          refine g_iteN (fun _ => ?_) (fun c => by cases c)
          walk_at "go"
          refine g_ixL (SqL.of ep11) ixm ?_
          walk_at "go"
          refine g_ixL (SqL.of ep11) (atI_nat hxb) ?_
          walk_at "go"
          refine c_Lmeet ⟨stG ss m, t, Da.frL FG dc rfl, Da.frL FG db rfl, ?_⟩
          by_cases c : meetB (stG ss m) t = true
          · rw [c]
            walk_at "go"
            refine g_ixL (SqL.of e11) iom ?_
            refine lcY_of ha (by walk_at "sz") fun H13 f13 e13 => ⟨f11.own1 f13 nD, ?_⟩
            rw [tm, hacc]
            simp [c, optV]
          · rw [(by simpa using c : meetB (stG ss m) t = false)]
            walk_at "go"
            refine lcN_of ha ⟨f11, ?_⟩
            rw [tm, hacc]
            simp [c]
      have hm : ((xs.length : Nat) : Int).toNat = ss.length := by omega
      rw [hm] at hacc
      subst hacc
      have FG := FF.then0 f11
      have e0' := FG.tup _ _ e0
      have er' := FG.tup _ _ er
      have ep' := f11.at0 ep9
      have eb' := f11.tup _ _ eb9
      have e11f := f11.at0 e9
      walk_at "go"
      refine g_ixL (SqL.of ep') (atI_nat hxb) ?_
      walk_at "go"
      refine g_ixT (SqT.of er') (room_at okn) ?_
      walk_at "go"
      refine l_range (lo := 0) (n := (rooms S t).toNat) fun Dm H12 nM f12 e12 => ⟨fun m acc H' => Fr [] H11 H' ∧ acc = (free (tkn ss Rc t ss.length) m).map V.int, ⟨f12, rfl⟩, fun m acc H' hm ha' ⟨f13, hacc'⟩ => ?_, fun acc H13 ha' ⟨f13, hacc'⟩ => ?_⟩
      · have hal : acc.length ≤ 100 := by rw [hacc', List.length_map]; have := free_len (tkn ss Rc t ss.length) m; omega
        have e13 := f13.at0 ha
        walk_at "go"
        refine ⟨rfl, ?_⟩
        walk_at "go"
        refine g_iteN (fun c => ?_) (fun c => ?_)
        · walk_at "go"
          refine lcY_of ha' (by walk_at "sz") fun H14 f14 e14 => ⟨f13.own1 f14 nM, ?_⟩
          rw [Int.zero_add] at c ⊢
          rw [free_more, if_pos c, List.map_append, hacc']; rfl
        · refine lcN_of ha' ⟨f13, ?_⟩
          rw [Int.zero_add] at c
          rw [free_more, if_neg (by simpa using c), List.append_nil]; exact hacc'
      · subst hacc'
        have e13f := f13.at0 e11f
        have D13 : Draws H13 d l := (D9.fr f11 nin0 nin0).fr f13 nin0 nin0
        have nMd : Dm ≠ d := ((D9.fr f11 nin0 nin0).new1 nM).symm
        generalize hfr : free (tkn ss Rc t ss.length) (rooms S t).toNat = fr at *
        have hpos : 0 < fr.length := List.length_pos_iff.mpr fne
        walk_at "go"
        rename_i z H14 z0 z1 f14 D14
        have ha14 := f14.at ha' (nin1 nMd nin0)
        walk_at "go"
        rw [List.length_map]
        have g0 := Int.emod_nonneg z (show ((fr.length : Nat) : Int) ≠ 0 by omega)
        have g1 := Int.emod_lt_of_pos z (show 0 < ((fr.length : Nat) : Int) by omega)
        obtain ⟨v, hv, hmem⟩ := atI_mem (xs := fr.map V.int) g0 (by rw [List.length_map]; exact g1)
        obtain ⟨rm, hrm, rfl⟩ := List.mem_map.mp hmem
        refine g_ixL (SqL.of ha14) hv ?_
        walk_at "go"
        have e14f := f14.at e13f (nin1 nfd nin0)
        refine g_setL e14f (j := n) (Evl.ixN_nat (by rw [List.length_map]; omega)) fun H15 f15 e15 => ?_
        walk_at "go"
        refine ⟨_, _, _, _, _, _, Rc.set n (some rm), rfl, ((((f9.then0 f11).then0 f13).trans f14).trans f15).mono (by intro x hx; simp only [List.mem_append, List.mem_cons, List.not_mem_nil, or_false] at hx ⊢; rcases hx with ((h | h) | h) | h <;> simp [h]), D14.fr f15 (nin1 nfd.symm nin0) (nin1 nfl.symm nin0), by rw [e15, opts_set], gmore c rm hrm⟩
    · walk_at "go"
      exact ⟨_, _, _, _, _, _, Rc, rfl, f9, D9, e9, gskip c⟩
  · rintro σ H9 ⟨v5, v6, v7, v8, v9, v10, R, rfl, f9, D9, e9, gi⟩
    rw [List.length_map, hol] at gi
    walk_at "go"
    exact k f R H9 nf (F2.of0.own f9 (frn1 (.inr nf) (frn1 (.inl (by simp)) frn0))) D9 e9 gi.fin
theorem ok_Lgiven {f : Addr} {fd : FuncData} (F : Fun K "_law_given" "_law_given" s_Lgiven f fd) (T : Txt K mg A) (c_Lorder : Cal P w K mg base "_law_order" 1 ["_law_stays_here"] (sp_Lorder K A)) (c_Ldraw : Cal P w K mg base "_law_draw" 2 ["_law_draws"] (sp_Ldraw K A)) (c_Lmeet : Cal P w K mg base "_law_meet" 1 ["_law_first", "_law_second"] (sp_Lmeet K A)) : FnOk P w K mg base CX0 (3) f fd ["_law_draws", "_law_setup_here", "_law_stays_here", "_law_night"] (sp_Lgiven K A) := by
  refine F.ok sc_Lgiven (fun vs H Q E h => ?_) (fun cdv Ar outer s H vs Q E hr h => ⟨t_Lgiven K A, ?_, ?_⟩)
  · obtain ⟨x0, x1, x2, x3, rfl, _⟩ := h
    rfl
  · have hu := hu_of hr
    exact (pss_cons (ps_set (i := 4) sc_Lgiven.nd rfl (Or.inr rfl) (pe_lc (own := [("_law_stay_here", 8)]) (g := (gName 8)) (tt := tYes) rfl sc_Lgiven.nd (pi_list (pv 2)) (blkOk_by (N := ["_law_draws", "_law_setup_here", "_law_stays_here", "_law_night", "_law_rooms", "_law_k", "_law_taken", "_law_free", "_law_stay_here", "_law_j", "_law_room"]) (sc := defScope s_Lgiven) (own := [("_law_stay_here", 8)]) (by decide +kernel)) (fun _ _ _ _ _ => (pg_name (i := 8) sc_Lgiven.nd rfl (Or.inl rfl))) (fun _ _ _ _ _ => pts_nil) (fun _ _ _ _ _ => pe_non)))
    (pss_cons (ps_for PassesOwn.never rfl (pi_list (pe_cl c_Lorder (hr.mono (by first | decide | omega)) (by rfl) (pa_cons (pv 2) pa_nil))) (pg_name (i := 5) sc_Lgiven.nd rfl (Or.inr rfl)) (pss_one (ps_if (pt_cmpR c_le (pe_ix ix_tup (pe_ix ix_list (pv 2) (pv 5) (fun _ _ => rfl)) pe_int (fun _ _ => rfl)) (pv 3) (nomark _)) (pss_cons (ps_set (i := 6) sc_Lgiven.nd rfl (Or.inr rfl) (pe_lc (own := [("_law_j", 9)]) (g := (gName 9)) (tt := (tAnd (tTest (tOp rIsNotNon (tOp (rIxL K) (tVar 4) (tVar 9)) (tC .non))) (tB (tCl (sp_Lmeet K A) (tCons (tOp (rIxL K) (tVar 2) (tVar 9)) (tCons (tOp (rIxL K) (tVar 2) (tVar 5)) tNil)))))) rfl sc_Lgiven.nd (pi_range1 rfl T.b_range (pa_cons (pe_callB b_len (by rfl) T.b_len (by decide +kernel) (pa_cons (pv 2) pa_nil)) pa_nil)) (blkOk_by (N := ["_law_draws", "_law_setup_here", "_law_stays_here", "_law_night", "_law_rooms", "_law_k", "_law_taken", "_law_free", "_law_stay_here", "_law_j", "_law_room"]) (sc := defScope s_Lgiven) (own := [("_law_j", 9)]) (by decide +kernel)) (fun _ _ _ _ _ => (pg_name (i := 9) sc_Lgiven.nd rfl (Or.inl rfl))) (fun _ _ _ _ _ => (pts_one (PW.pt (pw_and (pt_cmpR c_notN (pe_ix ix_list (pv 4) (pv 9) (fun _ _ => rfl)) pe_non (nomark _)) (pw_and1 (pt_val (pe_cl c_Lmeet (hr.mono (by first | decide | omega)) (by rfl) (pa_cons (pe_ix ix_list (pv 2) (pv 9) (fun _ _ => rfl)) (pa_cons (pe_ix ix_list (pv 2) (pv 5) (fun _ _ => rfl)) pa_nil))))))))) (fun _ _ _ _ _ => (pe_ix ix_list (pv 4) (pv 9) (fun _ _ => rfl)))))
    (pss_cons (ps_setLc (i := 7) (own := [("_law_room", 10)]) (g := (gName 10)) (tt := (tTest (tOp (rIn K true) (tVar 10) (tVar 6)))) rfl sc_Lgiven.nd rfl rfl (sw_true rfl rfl rfl (by decide +kernel)) (pi_range1 rfl T.b_range (pa_cons (pe_ix ix_tup (pe_ix ix_tup (pv 1) pe_int (fun _ _ => rfl)) (pe_ix ix_tup (pe_ix ix_list (pv 2) (pv 5) (fun _ _ => rfl)) pe_int (fun _ _ => rfl)) (fun _ _ => rfl)) pa_nil)) (blkOk_by (N := ["_law_draws", "_law_setup_here", "_law_stays_here", "_law_night", "_law_rooms", "_law_k", "_law_taken", "_law_free", "_law_stay_here", "_law_j", "_law_room"]) (sc := defScope s_Lgiven) (own := [("_law_room", 10)]) (by decide +kernel)) (fun _ _ _ _ _ => (pg_name (i := 10) sc_Lgiven.nd rfl (Or.inl rfl))) (fun _ _ _ _ _ => (pts_one (pt_cmpR op_notIn_seq (pv 10) (pv 6) rfl))) (fun _ _ _ _ _ => (pv 10)))
    (pss_one (ps_asg (pe_ix ix_list (pv 7) (pe_op o_mod (pe_cl c_Ldraw (hr.mono (by first | decide | omega)) (by rfl) (pa_cons (pv 0) pa_nil)) (pe_callB b_len (by rfl) T.b_len (by decide +kernel) (pa_cons (pv 7) pa_nil))) (fun _ _ => rfl)) (pg_sub (pv 4) (pv 5) set_list))))) pss_nil)))
    (pss_one (ps_ret (pv 4)))))
  · obtain ⟨x0, x1, x2, x3, rfl, h⟩ := h
    exact pu_Lgiven T h

theorem Given.nil (S : Setup) (night : Int) : Given S [] night [] := ⟨⟨rfl, fun j r h => (nomatch (show none = some r from h)), fun j l r h => (nomatch (show none = some r from h))⟩, fun j h => absurd h (Nat.not_lt_zero _)⟩
def P_law (K : PySem.W.Frag) (A : Ad) (x0 : V) (H : Hp) (Q : VK) : Prop := ∃ (a : Addr) (ns : List Int), x0 = .ref a ∧ SqL K H a (ns.map V.int) ∧ ns.length ≤ 63 ∧ ∀ H', Q (.bl true) H'
def sp_law (K : PySem.W.Frag) (A : Ad) : Sp := fun vs H Q _ => ∃ x0, vs = [x0] ∧ P_law K A x0 H Q
theorem c_law {K : PySem.W.Frag} {A : Ad} {x0 : V} {H : Hp} {Q : VK} {E : XK} (h : P_law K A x0 H Q) : sp_law K A [x0] H Q E := ⟨_, rfl, h⟩
theorem sc_law : FnScope ["_law_script", "_law_draws", "_law_setup_here", "_law_stays_here", "_law_night", "_law_given_here", "_law_handed", "_law_told", "_law_k", "_law_j"] ["_law_script"] (defScope s_law) := ⟨rfl, rfl, rfl, by decide +kernel, rfl, by decide +kernel, by decide +kernel⟩
def t_law (K : PySem.W.Frag) (A : Ad) : TS :=
  (tSeq (tAsg (tLst (tCons (tCl (sp_Lnumbers K A) (tCons (tVar 0) tNil)) (tCons (tC (.int 0)) tNil))) (gName 1))
    (tSeq (tAsg (tCl (sp_Lsetup K A) (tCons (tVar 1) tNil)) (gName 2))
    (tSeq (tAsg (tCl (sp_Lstays K A) (tCons (tVar 1) (tCons (tVar 2) (tCons (tOp oMod (tCl (sp_Ldraw K A) (tCons (tVar 1) tNil)) (tC (.int 61))) tNil)))) (gName 3))
    (tSeq (tAsg (tOp oSub (tOp oMod (tCl (sp_Ldraw K A) (tCons (tVar 1) tNil)) (tOp oAdd (tOp (rIxT K) (tVar 2) (tC (.int 1))) (tC (.int 1)))) (tC (.int 1))) (gName 4))
    (tSeq (tAsg (tCl (sp_Lgiven K A) (tCons (tVar 1) (tCons (tVar 2) (tCons (tVar 3) (tCons (tVar 4) tNil))))) (gName 5))
    (tSeq (tAsg (tLst (tCons (tCB (rListOf K) (tCons (tVar 3) tNil)) (tCons (tCB (rListOf K) (tCons (tVar 5) tNil)) tNil))) (gName 6))
    (tSeq (tAsg (tCl (sp_housing K A) (tCons (tOp (rIxT K) (tVar 2) (tC (.int 0))) (tCons (tOp (rIxL K) (tVar 6) (tC (.int 0))) (tCons (tVar 4) (tCons (tOp (rIxL K) (tVar 6) (tC (.int 1))) tNil))))) (gName 7))
    (tSeq (tIfS (tOr (tNot (tB (tCl (sp_Lequal K A 12) (tCons (tVar 7) (tCons (tCl (sp_Lhoused K A) (tCons (tVar 2) (tCons (tVar 3) (tCons (tVar 5) tNil)))) tNil))))) (tNot (tB (tCl (sp_Lequal K A 12) (tCons (tVar 6) (tCons (tLst (tCons (tVar 3) (tCons (tVar 5) tNil))) tNil)))))) (tRet (tC (.bl false))) tNext)
    (tSeq (tFor (iRng1 (tCons (tCB (rLenSq K) (tCons (tVar 3) tNil)) tNil)) (gName 8) (Evl.tCut (tIfS (tOr (tTest (tOp cLt (tOp (rIxL K) (tVar 7) (tVar 8)) (tC (.int 0)))) (tOr (tTest (tOp cGe (tOp (rIxL K) (tVar 7) (tVar 8)) (tOp (rIxT K) (tOp (rIxT K) (tVar 2) (tC (.int 0))) (tOp (rIxT K) (tOp (rIxL K) (tVar 3) (tVar 8)) (tC (.int 0)))))) (tAnd (tTest (tOp rIsNotNon (tOp (rIxL K) (tVar 5) (tVar 8)) (tC .non))) (tTest (tOp rNe (tOp (rIxL K) (tVar 7) (tVar 8)) (tOp (rIxL K) (tVar 5) (tVar 8))))))) (tRet (tC (.bl false))) tNext)
    (tIfS (tTest (tOp cGt (tCB (rLenSq K) (tCons (tLc (iRng1 (tCons (tVar 8) tNil)) (gName 9) (tAnd (tTest (tOp rEq (tOp (rIxL K) (tVar 7) (tVar 9)) (tOp (rIxL K) (tVar 7) (tVar 8)))) (tB (tCl (sp_Lmeet K A) (tCons (tOp (rIxL K) (tVar 3) (tVar 9)) (tCons (tOp (rIxL K) (tVar 3) (tVar 8)) tNil))))) (tVar 9) [9]) tNil)) (tC (.int 0)))) (tRet (tC (.bl false))) tNext)))
    (tSeq (tIfS (tOr (tNot (tB (tCl (sp_Lequal K A 12) (tCons (tCl (sp_housing K A) (tCons (tOp (rIxT K) (tVar 2) (tC (.int 0))) (tCons (tLst tNil) (tCons (tVar 4) (tCons (tLst tNil) tNil))))) (tCons (tLst tNil) tNil))))) (tNot (tB (tCl (sp_Lequal K A 12) (tCons (tVar 7) (tCons (tCl (sp_Lhoused K A) (tCons (tVar 2) (tCons (tVar 3) (tCons (tVar 5) tNil)))) tNil)))))) (tRet (tC (.bl false))) tNext)
    (tSeq (tDrop (tBM K "list" rAppend (tVar 7) (tCons (tC (.int 0)) tNil)))
    (tRet (tCl (sp_Lequal K A 12) (tCons (tVar 6) (tCons (tLst (tCons (tVar 3) (tCons (tVar 5) tNil))) tNil)))))))))))))))
theorem pu_law (T : Txt K mg A) {x0 : V} {H : Hp} {Q : VK} (h : P_law K A x0 H Q) : t_law K A { nx := fun _ H' => Q .non H', rt := Q } [some x0, none, none, none, none, none, none, none, none, none] H := by
  obtain ⟨a, ns, rfl, hS, hl, k⟩ := h
  unfold t_law
  walk_at "go"
  refine c_Lnumbers ⟨a, ns, rfl, hS, hl, fun nl ms H1 n1 f1 e1 sm hm => ?_⟩
  walk_at "go"
  rename_i d H2 n2 f2 e2
  have D2 : Draws H2 d nl := ⟨ms, 0, e2, f2.at0 e1, sm, hm, Int.le_refl _⟩
  refine c_Lsetup ⟨d, nl, rfl, D2, fun v S H3 so dS f3 D3 => ?_⟩
  walk_at "go"
  rename_i z1 H4 z10 z11 f4 D4
  refine c_Lstays ⟨d, nl, S, z1 % 61, rfl, rfl, by omega, by omega, D4, so, Da.frL f4 dS (imm_setup S), fun p ss xs H5 n5 f5 D5 ep ds hlen ok F => ?_⟩
  have npd : p ≠ d := (D4.new1 n5).symm
  have dS5 := Da.frL f5 (Da.frL f4 dS (imm_setup S)) (imm_setup S)
  obtain ⟨s, r, pp, ps, sa⟩ := SetAt.of dS5
  cases sa.e
  have e0 := sa.t
  have er := sa.r
  have hxl : xs.length = ss.length := by rw [ds.len, List.length_map]
  have hs60 : ss.length ≤ 60 := by omega
  have hn1 := so.n1
  clear hS f1 f2 f3 f4 f5 e1 e2 D2 D3 D4 n1 n2 dS
  walk_at "go"
  rename_i z2 H6 z20 z21 f6 D6
  have e06 := f6.tup _ _ e0
  walk_at "go"
  refine c_Lgiven ⟨d, nl, p, xs, S, ss, _, rfl, rfl, rfl, D6, Da.frL f6 dS5 (imm_setup S), so, npd, f6.at ep (nin1 npd nin0), DaL.frL f6 ds (imm_stays ss), by omega, ok, F, fun g R H7 n7 f7 D7 eg gv => ?_⟩
  generalize z2 % (S.nights + 1) - 1 = night at *
  have F7 : Fr [d] H5 H7 := f6.transL f7
  have ep7 := F7.at ep (nin1 npd nin0)
  have ds7 := DaL.frL F7 ds (imm_stays ss)
  have dS7 := Da.frL F7 dS5 (imm_setup S)
  have e07 := F7.tup _ _ e0
  have er7 := F7.tup _ _ er
  have hRl := gv.g.len
  clear F7 f6 f7 D5 D6 D7 ep ds dS5 e0 er e06 n5 n7 z20 z21 z10 z11 npd
  walk_at "go"
  rename_i l1 H8 n8 f8 e8 l2 H9 n9 f9 e9 h H10 n10 f10 e10
  have F10 : Fr [] H7 H10 := (f8.then0 f9).then0 f10
  have e010 := F10.tup _ _ e07
  have er10 := F10.tup _ _ er7
  have is := imm_stays ss
  walk_at "go"
  refine c_housing ⟨r, l1, l2, xs, S, ss, night, R, rfl, rfl, rfl, rfl, er10, f10.at0 (f9.at0 e8), DaL.frL F10 ds7 is, by omega, so, ok, F, f10.at0 e9, gv, fun f H11 n11 f11 e11 => ?_⟩
  have F11 : Fr [] H7 H11 := F10.then0 f11
  obtain ⟨hg, hall, hkeep⟩ := housed_all F ok gv
  generalize hRF : housedAll S ss R = RF at *
  have hFl := hg.len
  have dpS : dpL (ss.map stayD) ≤ 3 := dpL_le fun d hd => by obtain ⟨s, _, rfl⟩ := List.mem_map.mp hd; simp [stayD, dp, dpL]
  have dpF := dp_opts (R := RF)
  have dpR := dp_opts (R := R)
  have hFs : (RF.map optV).length ≤ 1000000 := by rw [List.length_map]; omega
  have hRs : (R.map optV).length ≤ 1000000 := by rw [List.length_map]; omega
  have hxs : xs.length ≤ 1000000 := by omega
  have HD : ∀ {H' : Hp}, Fr [] H10 H' → Da H' (.ref h) (.list [.list (ss.map stayD), .list (R.map optD)]) := fun {H'} ff => .lst (ff.at0 e10) (Nat.le_of_ble_eq_true rfl) (.cons (.lst (ff.at0 (f10.at0 (f9.at0 e8))) hxs (DaL.frL (F10.then0 ff) ds7 is)) (.one' (.lst (ff.at0 (f10.at0 e9)) hRs DaL.opts)))
  have SG : ∀ {H' : Hp} {w : Addr}, Fr [] H7 H' → H' w = some (.lst [.ref p, .ref g]) → Da H' (.ref w) (.list [.list (ss.map stayD), .list (R.map optD)]) := fun {H' w} ff e => .lst e (Nat.le_of_ble_eq_true rfl) (.cons (.lst (ff.at0 ep7) hxs (DaL.frL ff ds7 is)) (.one' (.lst (ff.at0 eg) hRs DaL.opts)))
  have dpH : dp (.list [.list (ss.map stayD), .list (R.map optD)]) ≤ 12 := by simp only [dp, dpL]; omega
  have dpT : dp (.list (RF.map optD)) ≤ 12 := by simp only [dp]; omega
  walk_at "go"
  refine c_Lhoused ⟨p, g, xs, S, ss, night, R, rfl, rfl, Da.frL F11 dS7 (imm_setup S), so, F11.at0 ep7, DaL.frL F11 ds7 is, by omega, ok, F, F11.at0 eg, gv, fun q H12 n12 f12 e12 => ?_⟩
  rw [hRF] at e12
  walk_at "go"
  refine c_Lequal ⟨.list (RF.map optD), .lst (f12.at0 e11) hFs DaL.opts, .lst e12 hFs DaL.opts, dpT, ?_⟩
  walk_at "go"
  rename_i w H13 n13 f13 e13
  have F13 : Fr [] H7 H13 := (F11.then0 f12).then0 f13
  have G13 : Fr [] H11 H13 := f12.then0 f13
  refine c_Lequal ⟨_, HD ((f11.then0 f12).then0 f13), SG F13 e13, dpH, ?_⟩
  have ep13 := F13.at0 ep7
  walk_at "go"
  refine f_range (lo := 0) (n := ((xs.length : Nat) : Int).toNat) (fun i σ H' => ∃ v8 v9, σ = [some (.ref a), some (.ref d), some (.ref s), some (.ref p), some (.int night), some (.ref g), some (.ref h), some (.ref f), v8, v9] ∧ Fr [] H13 H') ⟨_, _, rfl, Fr.refl⟩ ?_ ?_
  · rintro i σ H14 hi ⟨v8, v9, rfl, f14⟩
    have hi' : i < ss.length := by omega
    have F14 := F13.then0 f14
    have G14 := G13.then0 f14
    obtain ⟨t, ht⟩ := Option.isSome_iff_exists.mp (hall i hi')
    obtain ⟨t0, t1⟩ := hg.rng i t ht
    have ot : atI (RF.map optV) (0 + (i : Int)) = some (.int t) := by rw [Int.zero_add]; exact atI_nat (by rw [opt_at (by omega), ht]; rfl)
    obtain ⟨b, hxb, eb, db⟩ := stays_at ds7 hi'
    have ixb : atI xs (0 + (i : Int)) = some (.ref b) := by rw [Int.zero_add]; exact atI_nat hxb
    have oki := ok _ (stG_mem hi')
    have ogi : atI (R.map optV) (0 + (i : Int)) = some (optV (rmG R i)) := by rw [Int.zero_add]; exact atI_nat (opt_at (by omega))
    have ef14 := G14.at0 e11
    have ep14 := F14.at0 ep7
    have eg14 := F14.at0 eg
    have e014 := F14.tup _ _ e07
    have er14 := F14.tup _ _ er7
    have eb14 := F14.tup _ _ eb
    have db14 := Da.frL F14 db rfl
    have kp := hkeep i
    have ncl := hg.ncl i
    walk_at "go"
    refine g_cut (fun σ H' => ∃ v9, σ = [some (.ref a), some (.ref d), some (.ref s), some (.ref p), some (.int night), some (.ref g), some (.ref h), some (.ref f), some (.int (0 + i)), v9] ∧ H' = H14) ?_ ?_
    · walk_at "go"
      refine g_ixL (SqL.of ef14) ot ?_
      walk_at "go"
      refine g_ite (fun c => absurd t0 (by omega)) (fun _ => ?_)
      walk_at "go"
      refine g_ixL (SqL.of ef14) ot ?_
      walk_at "go"
      refine g_ixL (SqL.of ep14) ixb ?_
      walk_at "go"
      refine g_ixT (SqT.of er14) (room_at oki) ?_
      walk_at "go"
      refine g_ite (fun c => absurd t1 (by omega)) (fun _ => ?_)
      walk_at "go"
      refine g_ixL (SqL.of eg14) ogi ?_
      walk_at "go"
      generalize ho : rmG R i = o at *
      cases o with
      | none =>
        refine g_iteN (fun c => absurd rfl c) (fun _ => ?_)
        walk_at "go"
        exact ⟨_, rfl, rfl⟩
      | some z =>
        have hz : t = z := by have := kp z rfl; rw [ht] at this; exact Option.some.inj this
        have ogi2 : atI (R.map optV) (0 + (i : Int)) = some (.int z) := ogi
        refine g_iteN (fun _ => ?_) (fun c => by cases c)
        walk_at "go"
        refine g_ixL (SqL.of ef14) ot ?_
        walk_at "go"
        refine g_ixL (SqL.of eg14) ogi2 ?_
        walk_at "go"
        refine g_iteN (fun c => absurd hz c) (fun _ => ?_)
        walk_at "go"
        exact ⟨_, rfl, rfl⟩
    · rintro σ H' ⟨v9, rfl, rfl⟩
      walk_at "go"
      refine l_range (lo := 0) (n := ((0 : Int) + (i : Int)).toNat) fun Dl H15 nD f15 e15 => ⟨fun m acc H'' => Fr [] H' H'' ∧ acc = [], ⟨f15, rfl⟩, fun m acc H'' hm ha ⟨f16, hacc⟩ => ?_, fun acc H'' ha ⟨f16, hacc⟩ => ?_⟩
      · have hmi : m < i := by omega
        obtain ⟨t', ht'⟩ := Option.isSome_iff_exists.mp (hall m (by omega))
        have ot' : atI (RF.map optV) (0 + (m : Int)) = some (.int t') := by rw [Int.zero_add]; exact atI_nat (by rw [opt_at (by omega), ht']; rfl)
        obtain ⟨b', hxb', eb', db'⟩ := stays_at ds7 (show m < ss.length by omega)
        have ixb' : atI xs (0 + (m : Int)) = some (.ref b') := by rw [Int.zero_add]; exact atI_nat hxb'
        walk_at "go"
        refine ⟨rfl, ?_⟩
        walk_at "go"
        refine g_ixL (SqL.of (f16.at0 ef14)) ot' ?_
        walk_at "go"
        refine g_ixL (SqL.of (f16.at0 ef14)) ot ?_
        walk_at "go"
        refine g_ite (fun c => ?_) (fun c => ?_)
        · walk_at "go"
          refine g_ixL (SqL.of (f16.at0 ep14)) ixb' ?_
          walk_at "go"
          refine g_ixL (SqL.of (f16.at0 ep14)) ixb ?_
          walk_at "go"
          refine c_Lmeet ⟨stG ss m, stG ss i, Da.frL (F14.then0 f16) db' rfl, Da.frL f16 db14 rfl, ?_⟩
          rw [hg.ncl m i t (by rw [ht', c]) ht (by omega)]
          walk_at "go"
          exact lcN_of ha ⟨f16, hacc⟩
        · walk_at "go"
          exact lcN_of ha ⟨f16, hacc⟩
      · subst hacc
        walk_at "go"
        refine g_ite (fun c => absurd c (by simp)) (fun _ => ?_)
        walk_at "go"
        exact ⟨_, _, rfl, f14.then0 f16⟩
  · rintro σ H14 ⟨v8, v9, rfl, f14⟩
    have F14 := F13.then0 f14
    have G14 := G13.then0 f14
    have e014 := F14.tup _ _ e07
    walk_at "go"
    rename_i u1 H15 n15 f15 e15 u2 H16 n16 f16 e16
    have F16 := (F14.then0 f15).then0 f16
    refine c_housing ⟨r, u1, u2, [], S, [], night, [], rfl, rfl, rfl, rfl, F16.tup _ _ er7, f16.at0 e15, .nil, Nat.zero_le _, so, fun _ h => (nomatch h), Fits.nil so, e16, Given.nil S night, fun f2 H17 n17 f17 e17 => ?_⟩
    have z0 : housedAll S [] [] = [] := List.eq_nil_of_length_eq_zero (housed_all (Fits.nil so) (fun _ h => (nomatch h)) (Given.nil S night)).1.len
    rw [z0] at e17
    walk_at "go"
    rename_i u3 H18 n18 f18 e18
    refine c_Lequal ⟨.list [], .lst (f18.at0 e17) (Nat.zero_le _) .nil, .lst e18 (Nat.zero_le _) .nil, by simp [dp, dpL], ?_⟩
    have F18 := (F16.then0 f17).then0 f18
    have G18 := (((G14.then0 f15).then0 f16).then0 f17).then0 f18
    walk_at "go"
    refine c_Lhoused ⟨p, g, xs, S, ss, night, R, rfl, rfl, Da.frL F18 dS7 (imm_setup S), so, F18.at0 ep7, DaL.frL F18 ds7 is, by omega, ok, F, F18.at0 eg, gv, fun q2 H19 n19 f19 e19 => ?_⟩
    rw [hRF] at e19
    walk_at "go"
    refine c_Lequal ⟨.list (RF.map optD), .lst (f19.at0 (G18.at0 e11)) hFs DaL.opts, .lst e19 hFs DaL.opts, dpT, ?_⟩
    have ef19 := f19.at0 (G18.at0 e11)
    have hal : (RF.map optV).length ≤ 100 := by rw [List.length_map]; omega
    have J19 : Fr [] H10 H19 := (f11.then0 G18).then0 f19
    have F19 : Fr [] H7 H19 := F18.then0 f19
    have nfH7 : H7 f = none := F10.free n11
    walk_at "go"
    rename_i H20 f20 e20 w2 H21 n21 f21 e21
    refine c_Lequal ⟨_, HD ((J19.own1 f20 n11).then0 f21), SG ((F19.own1 f20 nfH7).then0 f21) e21, dpH, ?_⟩
    walk_at "go"
    exact k _
theorem ok_law {f : Addr} {fd : FuncData} (F : Fun K "law" "law" s_law f fd) (T : Txt K mg A) (c_Lsetup : Cal P w K mg base "_law_setup" 3 ["_law_draws"] (sp_Lsetup K A)) (c_Lstays : Cal P w K mg base "_law_stays" 4 ["_law_draws", "_law_setup_here", "_law_many"] (sp_Lstays K A)) (c_Lgiven : Cal P w K mg base "_law_given" 3 ["_law_draws", "_law_setup_here", "_law_stays_here", "_law_night"] (sp_Lgiven K A)) (c_housing : Cal P w K mg base "housing" 4 ["rooms", "stays", "night", "given"] (sp_housing K A)) (c_Lequal : Cal P w K mg base "_law_equal" 25 ["_law_actual", "_law_due"] (sp_Lequal K A 12)) (c_Lnumbers : Cal P w K mg base "_law_numbers" 2 ["_law_script"] (sp_Lnumbers K A)) (c_Ldraw : Cal P w K mg base "_law_draw" 2 ["_law_draws"] (sp_Ldraw K A)) (c_Lhoused : Cal P w K mg base "_law_housed" 2 ["_law_setup_here", "_law_stays_here", "_law_given_here"] (sp_Lhoused K A)) (c_Lmeet : Cal P w K mg base "_law_meet" 1 ["_law_first", "_law_second"] (sp_Lmeet K A)) : FnOk P w K mg base CX0 (26) f fd ["_law_script"] (sp_law K A) := by
  refine F.ok sc_law (fun vs H Q E h => ?_) (fun cdv Ar outer s H vs Q E hr h => ⟨t_law K A, ?_, ?_⟩)
  · obtain ⟨x0, rfl, _⟩ := h
    rfl
  · have hu := hu_of hr
    exact (pss_cons (ps_set (i := 1) sc_law.nd rfl (Or.inl rfl) (pe_lst (pa_cons (pe_cl c_Lnumbers (hr.mono (by first | decide | omega)) (by rfl) (pa_cons (pv 0) pa_nil)) (pa_cons pe_int pa_nil))))
    (pss_cons (ps_set (i := 2) sc_law.nd rfl (Or.inl rfl) (pe_cl c_Lsetup (hr.mono (by first | decide | omega)) (by rfl) (pa_cons (pv 1) pa_nil)))
    (pss_cons (ps_set (i := 3) sc_law.nd rfl (Or.inr rfl) (pe_cl c_Lstays (hr.mono (by first | decide | omega)) (by rfl) (pa_cons (pv 1) (pa_cons (pv 2) (pa_cons (pe_op o_mod (pe_cl c_Ldraw (hr.mono (by first | decide | omega)) (by rfl) (pa_cons (pv 1) pa_nil)) pe_int) pa_nil)))))
    (pss_cons (ps_set (i := 4) sc_law.nd rfl (Or.inl rfl) (pe_op o_sub (pe_op o_mod (pe_cl c_Ldraw (hr.mono (by first | decide | omega)) (by rfl) (pa_cons (pv 1) pa_nil)) (pe_op o_add (pe_ix ix_tup (pv 2) pe_int (fun _ _ => rfl)) pe_int)) pe_int))
    (pss_cons (ps_set (i := 5) sc_law.nd rfl (Or.inl rfl) (pe_cl c_Lgiven (hr.mono (by first | decide | omega)) (by rfl) (pa_cons (pv 1) (pa_cons (pv 2) (pa_cons (pv 3) (pa_cons (pv 4) pa_nil))))))
    (pss_cons (ps_set (i := 6) sc_law.nd rfl (Or.inl rfl) (pe_lst (pa_cons (pe_callTy b_list (by rfl) T.b_list (by decide +kernel) (pa_cons (pv 3) pa_nil)) (pa_cons (pe_callTy b_list (by rfl) T.b_list (by decide +kernel) (pa_cons (pv 5) pa_nil)) pa_nil))))
    (pss_cons (ps_set (i := 7) sc_law.nd rfl (Or.inr rfl) (pe_cl c_housing (hr.mono (by first | decide | omega)) (by rfl) (pa_cons (pe_ix ix_tup (pv 2) pe_int (fun _ _ => rfl)) (pa_cons (pe_ix ix_list (pv 6) pe_int (fun _ _ => rfl)) (pa_cons (pv 4) (pa_cons (pe_ix ix_list (pv 6) pe_int (fun _ _ => rfl)) pa_nil))))))
    (pss_cons (ps_if (PW.pt (pw_or (pt_not (pt_val (pe_cl c_Lequal (hr.mono (by first | decide | omega)) (by rfl) (pa_cons (pv 7) (pa_cons (pe_cl c_Lhoused (hr.mono (by first | decide | omega)) (by rfl) (pa_cons (pv 2) (pa_cons (pv 3) (pa_cons (pv 5) pa_nil)))) pa_nil))))) (pw_or1 (pt_not (pt_val (pe_cl c_Lequal (hr.mono (by first | decide | omega)) (by rfl) (pa_cons (pv 6) (pa_cons (pe_lst (pa_cons (pv 3) (pa_cons (pv 5) pa_nil))) pa_nil)))))))) (pss_one (ps_ret pe_bl)) pss_nil)
    (pss_cons (ps_for PassesOwn.never rfl (pi_range1 rfl T.b_range (pa_cons (pe_callB b_len (by rfl) T.b_len (by decide +kernel) (pa_cons (pv 3) pa_nil)) pa_nil)) (pg_name (i := 8) sc_law.nd rfl (Or.inr rfl)) (Evl.pss_cut (ps_if (PW.pt (pw_or (pt_cmpR c_lt (pe_ix ix_list (pv 7) (pv 8) (fun _ _ => rfl)) pe_int (nomark _)) (pw_or (pt_cmpR c_ge (pe_ix ix_list (pv 7) (pv 8) (fun _ _ => rfl)) (pe_ix ix_tup (pe_ix ix_tup (pv 2) pe_int (fun _ _ => rfl)) (pe_ix ix_tup (pe_ix ix_list (pv 3) (pv 8) (fun _ _ => rfl)) pe_int (fun _ _ => rfl)) (fun _ _ => rfl)) (nomark _)) (pw_or1 (PW.pt (pw_and (pt_cmpR c_notN (pe_ix ix_list (pv 5) (pv 8) (fun _ _ => rfl)) pe_non (nomark _)) (pw_and1 (pt_cmpR op_ne (pe_ix ix_list (pv 7) (pv 8) (fun _ _ => rfl)) (pe_ix ix_list (pv 5) (pv 8) (fun _ _ => rfl)) (nomark _))))))))) (pss_one (ps_ret pe_bl)) pss_nil)
    (pss_one (ps_if (pt_cmpR c_gt (pe_callB b_len (by rfl) T.b_len (by decide +kernel) (pa_cons (pe_lc (own := [("_law_j", 9)]) (g := (gName 9)) (tt := (tAnd (tTest (tOp rEq (tOp (rIxL K) (tVar 7) (tVar 9)) (tOp (rIxL K) (tVar 7) (tVar 8)))) (tB (tCl (sp_Lmeet K A) (tCons (tOp (rIxL K) (tVar 3) (tVar 9)) (tCons (tOp (rIxL K) (tVar 3) (tVar 8)) tNil)))))) rfl sc_law.nd (pi_range1 rfl T.b_range (pa_cons (pv 8) pa_nil)) (blkOk_by (N := ["_law_script", "_law_draws", "_law_setup_here", "_law_stays_here", "_law_night", "_law_given_here", "_law_handed", "_law_told", "_law_k", "_law_j"]) (sc := defScope s_law) (own := [("_law_j", 9)]) (by decide +kernel)) (fun _ _ _ _ _ => (pg_name (i := 9) sc_law.nd rfl (Or.inl rfl))) (fun _ _ _ _ _ => (pts_one (PW.pt (pw_and (pt_cmpR op_eq (pe_ix ix_list (pv 7) (pv 9) (fun _ _ => rfl)) (pe_ix ix_list (pv 7) (pv 8) (fun _ _ => rfl)) (nomark _)) (pw_and1 (pt_val (pe_cl c_Lmeet (hr.mono (by first | decide | omega)) (by rfl) (pa_cons (pe_ix ix_list (pv 3) (pv 9) (fun _ _ => rfl)) (pa_cons (pe_ix ix_list (pv 3) (pv 8) (fun _ _ => rfl)) pa_nil))))))))) (fun _ _ _ _ _ => (pv 9))) pa_nil)) pe_int (nomark _)) (pss_one (ps_ret pe_bl)) pss_nil))))
    (pss_cons (ps_if (PW.pt (pw_or (pt_not (pt_val (pe_cl c_Lequal (hr.mono (by first | decide | omega)) (by rfl) (pa_cons (pe_cl c_housing (hr.mono (by first | decide | omega)) (by rfl) (pa_cons (pe_ix ix_tup (pv 2) pe_int (fun _ _ => rfl)) (pa_cons (pe_lst pa_nil) (pa_cons (pv 4) (pa_cons (pe_lst pa_nil) pa_nil))))) (pa_cons (pe_lst pa_nil) pa_nil))))) (pw_or1 (pt_not (pt_val (pe_cl c_Lequal (hr.mono (by first | decide | omega)) (by rfl) (pa_cons (pv 7) (pa_cons (pe_cl c_Lhoused (hr.mono (by first | decide | omega)) (by rfl) (pa_cons (pv 2) (pa_cons (pv 3) (pa_cons (pv 5) pa_nil)))) pa_nil)))))))) (pss_one (ps_ret pe_bl)) pss_nil)
    (pss_cons (ps_expr (pe_bm PySem.F.plainAttrs_list PySem.F.slot_list_append PySem.F.type_list_append mt_append (pv 7) (pa_cons pe_int pa_nil)))
    (pss_one (ps_ret (pe_cl c_Lequal (hr.mono (by first | decide | omega)) (by rfl) (pa_cons (pv 6) (pa_cons (pe_lst (pa_cons (pv 3) (pa_cons (pv 5) pa_nil))) pa_nil))))))))))))))))
  · obtain ⟨x0, rfl, h⟩ := h
    exact pu_law T h
end
/-! ### what the top has written -/
theorem all_mk {l : PySem.W.OpenLaw} {w : World} {K : PySem.W.Frag} {h : Heap} {mg : Str → Option Value} {fa : Addr} (X : K.In h) (G : h.Ns mainGlobals mg) (hfa : mg "law" = some (.ref fa))
    {f1 : Addr} {od1 an1 : Option Addr} {sl1 : Array (Option Value)} {oc1 kV1 dc1 pm1 cd1 ct1 : Value}
    {f2 : Addr} {od2 an2 : Option Addr} {sl2 : Array (Option Value)} {oc2 kV2 dc2 pm2 cd2 ct2 : Value}
    {f3 : Addr} {od3 an3 : Option Addr} {sl3 : Array (Option Value)} {oc3 kV3 dc3 pm3 cd3 ct3 : Value}
    {f4 : Addr} {od4 an4 : Option Addr} {sl4 : Array (Option Value)} {oc4 kV4 dc4 pm4 cd4 ct4 : Value}
    {f5 : Addr} {od5 an5 : Option Addr} {sl5 : Array (Option Value)} {oc5 kV5 dc5 pm5 cd5 ct5 : Value}
    {f6 : Addr} {od6 an6 : Option Addr} {sl6 : Array (Option Value)} {oc6 kV6 dc6 pm6 cd6 ct6 : Value}
    {f7 : Addr} {od7 an7 : Option Addr} {sl7 : Array (Option Value)} {oc7 kV7 dc7 pm7 cd7 ct7 : Value}
    {f8 : Addr} {od8 an8 : Option Addr} {sl8 : Array (Option Value)} {oc8 kV8 dc8 pm8 cd8 ct8 : Value}
    {f9 : Addr} {od9 an9 : Option Addr} {sl9 : Array (Option Value)} {oc9 kV9 dc9 pm9 cd9 ct9 : Value}
    {f10 : Addr} {od10 an10 : Option Addr} {sl10 : Array (Option Value)} {oc10 kV10 dc10 pm10 cd10 ct10 : Value}
    {f11 : Addr} {od11 an11 : Option Addr} {sl11 : Array (Option Value)} {oc11 kV11 dc11 pm11 cd11 ct11 : Value}
    {f12 : Addr} {od12 an12 : Option Addr} {sl12 : Array (Option Value)} {oc12 kV12 dc12 pm12 cd12 ct12 : Value}
    {f13 : Addr} {od13 an13 : Option Addr} {sl13 : Array (Option Value)} {oc13 kV13 dc13 pm13 cd13 ct13 : Value}
    {f14 : Addr} {od14 an14 : Option Addr} {sl14 : Array (Option Value)} {oc14 kV14 dc14 pm14 cd14 ct14 : Value}
    {f15 : Addr} {od15 an15 : Option Addr} {sl15 : Array (Option Value)} {oc15 kV15 dc15 pm15 cd15 ct15 : Value}
    {f16 : Addr} {od16 an16 : Option Addr} {sl16 : Array (Option Value)} {oc16 kV16 dc16 pm16 cd16 ct16 : Value}
    {f17 : Addr} {od17 an17 : Option Addr} {sl17 : Array (Option Value)} {oc17 kV17 dc17 pm17 cd17 ct17 : Value}
    {f18 : Addr} {od18 an18 : Option Addr} {sl18 : Array (Option Value)} {oc18 kV18 dc18 pm18 cd18 ct18 : Value}
    {f19 : Addr} {od19 an19 : Option Addr} {sl19 : Array (Option Value)} {oc19 kV19 dc19 pm19 cd19 ct19 : Value}
    {f20 : Addr} {od20 an20 : Option Addr} {sl20 : Array (Option Value)} {oc20 kV20 dc20 pm20 cd20 ct20 : Value}
    {f21 : Addr} {od21 an21 : Option Addr} {sl21 : Array (Option Value)} {oc21 kV21 dc21 pm21 cd21 ct21 : Value}
    (a1 : PySem.W.nsIn K mainGlobals "is_integer" = some (some (.ref f1)))
    (l1 : K.lookup f1 = some ⟨oc1, od1, .func (PySem.W.fnOf "is_integer" "is_integer" (defArgs s_is_integer) (defBody s_is_integer) (defScope s_is_integer) .none kV1 dc1 pm1 an1 cd1 ct1), sl1⟩)
    (c1 : PySem.W.codeIn K cd1 "is_integer" = true)
    (k1 : PySem.W.keepIn K (.ref f1) = true)
    (a2 : PySem.W.nsIn K mainGlobals "is_from" = some (some (.ref f2)))
    (l2 : K.lookup f2 = some ⟨oc2, od2, .func (PySem.W.fnOf "is_from" "is_from" (defArgs s_is_from) (defBody s_is_from) (defScope s_is_from) .none kV2 dc2 pm2 an2 cd2 ct2), sl2⟩)
    (c2 : PySem.W.codeIn K cd2 "is_from" = true)
    (k2 : PySem.W.keepIn K (.ref f2) = true)
    (a3 : PySem.W.nsIn K mainGlobals "nights_of" = some (some (.ref f3)))
    (l3 : K.lookup f3 = some ⟨oc3, od3, .func (PySem.W.fnOf "nights_of" "nights_of" (defArgs s_nights_of) (defBody s_nights_of) (defScope s_nights_of) .none kV3 dc3 pm3 an3 cd3 ct3), sl3⟩)
    (c3 : PySem.W.codeIn K cd3 "nights_of" = true)
    (k3 : PySem.W.keepIn K (.ref f3) = true)
    (a4 : PySem.W.nsIn K mainGlobals "meet" = some (some (.ref f4)))
    (l4 : K.lookup f4 = some ⟨oc4, od4, .func (PySem.W.fnOf "meet" "meet" (defArgs s_meet) (defBody s_meet) (defScope s_meet) .none kV4 dc4 pm4 an4 cd4 ct4), sl4⟩)
    (c4 : PySem.W.codeIn K cd4 "meet" = true)
    (k4 : PySem.W.keepIn K (.ref f4) = true)
    (a5 : PySem.W.nsIn K mainGlobals "check_room" = some (some (.ref f5)))
    (l5 : K.lookup f5 = some ⟨oc5, od5, .func (PySem.W.fnOf "check_room" "check_room" (defArgs s_check_room) (defBody s_check_room) (defScope s_check_room) .none kV5 dc5 pm5 an5 cd5 ct5), sl5⟩)
    (c5 : PySem.W.codeIn K cd5 "check_room" = true)
    (k5 : PySem.W.keepIn K (.ref f5) = true)
    (a6 : PySem.W.nsIn K mainGlobals "check_given" = some (some (.ref f6)))
    (l6 : K.lookup f6 = some ⟨oc6, od6, .func (PySem.W.fnOf "check_given" "check_given" (defArgs s_check_given) (defBody s_check_given) (defScope s_check_given) .none kV6 dc6 pm6 an6 cd6 ct6), sl6⟩)
    (c6 : PySem.W.codeIn K cd6 "check_given" = true)
    (k6 : PySem.W.keepIn K (.ref f6) = true)
    (a7 : PySem.W.nsIn K mainGlobals "housing" = some (some (.ref f7)))
    (l7 : K.lookup f7 = some ⟨oc7, od7, .func (PySem.W.fnOf "housing" "housing" (defArgs s_housing) (defBody s_housing) (defScope s_housing) .none kV7 dc7 pm7 an7 cd7 ct7), sl7⟩)
    (c7 : PySem.W.codeIn K cd7 "housing" = true)
    (k7 : PySem.W.keepIn K (.ref f7) = true)
    (a8 : PySem.W.nsIn K mainGlobals "_law_mixed" = some (some (.ref f8)))
    (l8 : K.lookup f8 = some ⟨oc8, od8, .func (PySem.W.fnOf "_law_mixed" "_law_mixed" (defArgs s_Lmixed) (defBody s_Lmixed) (defScope s_Lmixed) .none kV8 dc8 pm8 an8 cd8 ct8), sl8⟩)
    (c8 : PySem.W.codeIn K cd8 "_law_mixed" = true)
    (k8 : PySem.W.keepIn K (.ref f8) = true)
    (a9 : PySem.W.nsIn K mainGlobals "_law_numbers" = some (some (.ref f9)))
    (l9 : K.lookup f9 = some ⟨oc9, od9, .func (PySem.W.fnOf "_law_numbers" "_law_numbers" (defArgs s_Lnumbers) (defBody s_Lnumbers) (defScope s_Lnumbers) .none kV9 dc9 pm9 an9 cd9 ct9), sl9⟩)
    (c9 : PySem.W.codeIn K cd9 "_law_numbers" = true)
    (k9 : PySem.W.keepIn K (.ref f9) = true)
    (a10 : PySem.W.nsIn K mainGlobals "_law_draw" = some (some (.ref f10)))
    (l10 : K.lookup f10 = some ⟨oc10, od10, .func (PySem.W.fnOf "_law_draw" "_law_draw" (defArgs s_Ldraw) (defBody s_Ldraw) (defScope s_Ldraw) .none kV10 dc10 pm10 an10 cd10 ct10), sl10⟩)
    (c10 : PySem.W.codeIn K cd10 "_law_draw" = true)
    (k10 : PySem.W.keepIn K (.ref f10) = true)
    (a11 : PySem.W.nsIn K mainGlobals "_law_equal" = some (some (.ref f11)))
    (l11 : K.lookup f11 = some ⟨oc11, od11, .func (PySem.W.fnOf "_law_equal" "_law_equal" (defArgs s_Lequal) (defBody s_Lequal) (defScope s_Lequal) .none kV11 dc11 pm11 an11 cd11 ct11), sl11⟩)
    (c11 : PySem.W.codeIn K cd11 "_law_equal" = true)
    (k11 : PySem.W.keepIn K (.ref f11) = true)
    (a12 : PySem.W.nsIn K mainGlobals "_law_all_equal" = some (some (.ref f12)))
    (l12 : K.lookup f12 = some ⟨oc12, od12, .func (PySem.W.fnOf "_law_all_equal" "_law_all_equal" (defArgs s_Lall_equal) (defBody s_Lall_equal) (defScope s_Lall_equal) .none kV12 dc12 pm12 an12 cd12 ct12), sl12⟩)
    (c12 : PySem.W.codeIn K cd12 "_law_all_equal" = true)
    (k12 : PySem.W.keepIn K (.ref f12) = true)
    (a13 : PySem.W.nsIn K mainGlobals "_law_setup" = some (some (.ref f13)))
    (l13 : K.lookup f13 = some ⟨oc13, od13, .func (PySem.W.fnOf "_law_setup" "_law_setup" (defArgs s_Lsetup) (defBody s_Lsetup) (defScope s_Lsetup) .none kV13 dc13 pm13 an13 cd13 ct13), sl13⟩)
    (c13 : PySem.W.codeIn K cd13 "_law_setup" = true)
    (k13 : PySem.W.keepIn K (.ref f13) = true)
    (a14 : PySem.W.nsIn K mainGlobals "_law_stay" = some (some (.ref f14)))
    (l14 : K.lookup f14 = some ⟨oc14, od14, .func (PySem.W.fnOf "_law_stay" "_law_stay" (defArgs s_Lstay) (defBody s_Lstay) (defScope s_Lstay) .none kV14 dc14 pm14 an14 cd14 ct14), sl14⟩)
    (c14 : PySem.W.codeIn K cd14 "_law_stay" = true)
    (k14 : PySem.W.keepIn K (.ref f14) = true)
    (a15 : PySem.W.nsIn K mainGlobals "_law_meet" = some (some (.ref f15)))
    (l15 : K.lookup f15 = some ⟨oc15, od15, .func (PySem.W.fnOf "_law_meet" "_law_meet" (defArgs s_Lmeet) (defBody s_Lmeet) (defScope s_Lmeet) .none kV15 dc15 pm15 an15 cd15 ct15), sl15⟩)
    (c15 : PySem.W.codeIn K cd15 "_law_meet" = true)
    (k15 : PySem.W.keepIn K (.ref f15) = true)
    (a16 : PySem.W.nsIn K mainGlobals "_law_fits" = some (some (.ref f16)))
    (l16 : K.lookup f16 = some ⟨oc16, od16, .func (PySem.W.fnOf "_law_fits" "_law_fits" (defArgs s_Lfits) (defBody s_Lfits) (defScope s_Lfits) .none kV16 dc16 pm16 an16 cd16 ct16), sl16⟩)
    (c16 : PySem.W.codeIn K cd16 "_law_fits" = true)
    (k16 : PySem.W.keepIn K (.ref f16) = true)
    (a17 : PySem.W.nsIn K mainGlobals "_law_stays" = some (some (.ref f17)))
    (l17 : K.lookup f17 = some ⟨oc17, od17, .func (PySem.W.fnOf "_law_stays" "_law_stays" (defArgs s_Lstays) (defBody s_Lstays) (defScope s_Lstays) .none kV17 dc17 pm17 an17 cd17 ct17), sl17⟩)
    (c17 : PySem.W.codeIn K cd17 "_law_stays" = true)
    (k17 : PySem.W.keepIn K (.ref f17) = true)
    (a18 : PySem.W.nsIn K mainGlobals "_law_order" = some (some (.ref f18)))
    (l18 : K.lookup f18 = some ⟨oc18, od18, .func (PySem.W.fnOf "_law_order" "_law_order" (defArgs s_Lorder) (defBody s_Lorder) (defScope s_Lorder) .none kV18 dc18 pm18 an18 cd18 ct18), sl18⟩)
    (c18 : PySem.W.codeIn K cd18 "_law_order" = true)
    (k18 : PySem.W.keepIn K (.ref f18) = true)
    (a19 : PySem.W.nsIn K mainGlobals "_law_housed" = some (some (.ref f19)))
    (l19 : K.lookup f19 = some ⟨oc19, od19, .func (PySem.W.fnOf "_law_housed" "_law_housed" (defArgs s_Lhoused) (defBody s_Lhoused) (defScope s_Lhoused) .none kV19 dc19 pm19 an19 cd19 ct19), sl19⟩)
    (c19 : PySem.W.codeIn K cd19 "_law_housed" = true)
    (k19 : PySem.W.keepIn K (.ref f19) = true)
    (a20 : PySem.W.nsIn K mainGlobals "_law_given" = some (some (.ref f20)))
    (l20 : K.lookup f20 = some ⟨oc20, od20, .func (PySem.W.fnOf "_law_given" "_law_given" (defArgs s_Lgiven) (defBody s_Lgiven) (defScope s_Lgiven) .none kV20 dc20 pm20 an20 cd20 ct20), sl20⟩)
    (c20 : PySem.W.codeIn K cd20 "_law_given" = true)
    (k20 : PySem.W.keepIn K (.ref f20) = true)
    (a21 : PySem.W.nsIn K mainGlobals "law" = some (some (.ref f21)))
    (l21 : K.lookup f21 = some ⟨oc21, od21, .func (PySem.W.fnOf "law" "law" (defArgs s_law) (defBody s_law) (defScope s_law) .none kV21 dc21 pm21 an21 cd21 ct21), sl21⟩)
    (c21 : PySem.W.codeIn K cd21 "law" = true)
    (k21 : PySem.W.keepIn K (.ref f21) = true)
    (z_isinstance : PySem.W.nsIn K mainGlobals "isinstance" = some none)
    (z_int : PySem.W.nsIn K mainGlobals "int" = some none)
    (z_bool : PySem.W.nsIn K mainGlobals "bool" = some none)
    (z_list : PySem.W.nsIn K mainGlobals "list" = some none)
    (z_range : PySem.W.nsIn K mainGlobals "range" = some none)
    (z_max : PySem.W.nsIn K mainGlobals "max" = some none)
    (z_min : PySem.W.nsIn K mainGlobals "min" = some none)
    (z_len : PySem.W.nsIn K mainGlobals "len" = some none)
    (z_enumerate : PySem.W.nsIn K mainGlobals "enumerate" = some none)
    (z_sorted : PySem.W.nsIn K mainGlobals "sorted" = some none)
    (z_tuple : PySem.W.nsIn K mainGlobals "tuple" = some none)
    (z_str : PySem.W.nsIn K mainGlobals "str" = some none)
    : ∃ fd : FuncData, (∀ (s : Shared) (v : Value), BindsTo s fd ⟨[v], []⟩ [("_law_script", v)]) ∧ ∀ base : Heap, K.In base → base.Ns mainGlobals mg → FnOk l.prog w K mg base CX0 26 fa fd ["_law_script"] (spLaw K) := by
  have e := hfa.symm.trans (PySem.W.mg_of X G a21)
  cases e
  let A : Ad := {}
  have T : Txt K mg A := { b_isinstance := PySem.W.mg_none_of X G z_isinstance, b_int := PySem.W.mg_none_of X G z_int, b_bool := PySem.W.mg_none_of X G z_bool, b_list := PySem.W.mg_none_of X G z_list, b_range := PySem.W.mg_none_of X G z_range, b_max := PySem.W.mg_none_of X G z_max, b_min := PySem.W.mg_none_of X G z_min, b_len := PySem.W.mg_none_of X G z_len, b_enumerate := PySem.W.mg_none_of X G z_enumerate, b_sorted := PySem.W.mg_none_of X G z_sorted, b_tuple := PySem.W.mg_none_of X G z_tuple, b_str := PySem.W.mg_none_of X G z_str }
  have F1 := fun_mk (st := s_is_integer) l1 c1 k1
  have b1 := F1.binds (ps := ["value"]) fun _ _ _ _ _ _ us hl => match us, hl with | [_], _ => rfl
  have F2 := fun_mk (st := s_is_from) l2 c2 k2
  have b2 := F2.binds (ps := ["value", "least", "most"]) fun _ _ _ _ _ _ us hl => match us, hl with | [_, _, _], _ => rfl
  have F3 := fun_mk (st := s_nights_of) l3 c3 k3
  have b3 := F3.binds (ps := ["stay"]) fun _ _ _ _ _ _ us hl => match us, hl with | [_], _ => rfl
  have F4 := fun_mk (st := s_meet) l4 c4 k4
  have b4 := F4.binds (ps := ["first", "second"]) fun _ _ _ _ _ _ us hl => match us, hl with | [_, _], _ => rfl
  have F5 := fun_mk (st := s_check_room) l5 c5 k5
  have b5 := F5.binds (ps := ["rooms", "stays"]) fun _ _ _ _ _ _ us hl => match us, hl with | [_, _], _ => rfl
  have F6 := fun_mk (st := s_check_given) l6 c6 k6
  have b6 := F6.binds (ps := ["rooms", "stays", "night", "given"]) fun _ _ _ _ _ _ us hl => match us, hl with | [_, _, _, _], _ => rfl
  have F7 := fun_mk (st := s_housing) l7 c7 k7
  have b7 := F7.binds (ps := ["rooms", "stays", "night", "given"]) fun _ _ _ _ _ _ us hl => match us, hl with | [_, _, _, _], _ => rfl
  have F8 := fun_mk (st := s_Lmixed) l8 c8 k8
  have b8 := F8.binds (ps := ["_law_number", "_law_k"]) fun _ _ _ _ _ _ us hl => match us, hl with | [_, _], _ => rfl
  have F9 := fun_mk (st := s_Lnumbers) l9 c9 k9
  have b9 := F9.binds (ps := ["_law_script"]) fun _ _ _ _ _ _ us hl => match us, hl with | [_], _ => rfl
  have F10 := fun_mk (st := s_Ldraw) l10 c10 k10
  have b10 := F10.binds (ps := ["_law_draws"]) fun _ _ _ _ _ _ us hl => match us, hl with | [_], _ => rfl
  have F11 := fun_mk (st := s_Lequal) l11 c11 k11
  have b11 := F11.binds (ps := ["_law_actual", "_law_due"]) fun _ _ _ _ _ _ us hl => match us, hl with | [_, _], _ => rfl
  have F12 := fun_mk (st := s_Lall_equal) l12 c12 k12
  have b12 := F12.binds (ps := ["_law_actual", "_law_due"]) fun _ _ _ _ _ _ us hl => match us, hl with | [_, _], _ => rfl
  have F13 := fun_mk (st := s_Lsetup) l13 c13 k13
  have b13 := F13.binds (ps := ["_law_draws"]) fun _ _ _ _ _ _ us hl => match us, hl with | [_], _ => rfl
  have F14 := fun_mk (st := s_Lstay) l14 c14 k14
  have b14 := F14.binds (ps := ["_law_draws", "_law_setup_here"]) fun _ _ _ _ _ _ us hl => match us, hl with | [_, _], _ => rfl
  have F15 := fun_mk (st := s_Lmeet) l15 c15 k15
  have b15 := F15.binds (ps := ["_law_first", "_law_second"]) fun _ _ _ _ _ _ us hl => match us, hl with | [_, _], _ => rfl
  have F16 := fun_mk (st := s_Lfits) l16 c16 k16
  have b16 := F16.binds (ps := ["_law_setup_here", "_law_stays_here"]) fun _ _ _ _ _ _ us hl => match us, hl with | [_, _], _ => rfl
  have F17 := fun_mk (st := s_Lstays) l17 c17 k17
  have b17 := F17.binds (ps := ["_law_draws", "_law_setup_here", "_law_many"]) fun _ _ _ _ _ _ us hl => match us, hl with | [_, _, _], _ => rfl
  have F18 := fun_mk (st := s_Lorder) l18 c18 k18
  have b18 := F18.binds (ps := ["_law_stays_here"]) fun _ _ _ _ _ _ us hl => match us, hl with | [_], _ => rfl
  have F19 := fun_mk (st := s_Lhoused) l19 c19 k19
  have b19 := F19.binds (ps := ["_law_setup_here", "_law_stays_here", "_law_given_here"]) fun _ _ _ _ _ _ us hl => match us, hl with | [_, _, _], _ => rfl
  have F20 := fun_mk (st := s_Lgiven) l20 c20 k20
  have b20 := F20.binds (ps := ["_law_draws", "_law_setup_here", "_law_stays_here", "_law_night"]) fun _ _ _ _ _ _ us hl => match us, hl with | [_, _, _, _], _ => rfl
  have F21 := fun_mk (st := s_law) l21 c21 k21
  have b21 := F21.binds (ps := ["_law_script"]) fun _ _ _ _ _ _ us hl => match us, hl with | [_], _ => rfl
  refine ⟨PySem.W.fnOf "law" "law" (defArgs s_law) (defBody s_law) (defScope s_law) .none kV21 dc21 pm21 an21 cd21 ct21, fun s v => .of_eq rfl, fun base _ _ => ?_⟩
  have o_is_integer := ok_is_integer (P := l.prog) (w := w) (base := base) F1 T 
  have e_is_integer : Cal l.prog w K mg base "is_integer" 1 ["value"] (sp_is_integer K A) := ⟨⟨_, _, o_is_integer, PySem.W.mg_of X G a1, k1, b1⟩⟩
  have o_is_from := ok_is_from (P := l.prog) (w := w) (base := base) F2 T e_is_integer
  have e_is_from : Cal l.prog w K mg base "is_from" 2 ["value", "least", "most"] (sp_is_from K A) := ⟨⟨_, _, o_is_from, PySem.W.mg_of X G a2, k2, b2⟩⟩
  have o_nights_of := ok_nights_of (P := l.prog) (w := w) (base := base) F3 T 
  have e_nights_of : Cal l.prog w K mg base "nights_of" 1 ["stay"] (sp_nights_of K A) := ⟨⟨_, _, o_nights_of, PySem.W.mg_of X G a3, k3, b3⟩⟩
  have o_meet := ok_meet (P := l.prog) (w := w) (base := base) F4 T 
  have e_meet : Cal l.prog w K mg base "meet" 1 ["first", "second"] (sp_meet K A) := ⟨⟨_, _, o_meet, PySem.W.mg_of X G a4, k4, b4⟩⟩
  have o_check_room := ok_check_room (P := l.prog) (w := w) (base := base) F5 T e_nights_of e_meet
  have e_check_room : Cal l.prog w K mg base "check_room" 2 ["rooms", "stays"] (sp_check_room K A) := ⟨⟨_, _, o_check_room, PySem.W.mg_of X G a5, k5, b5⟩⟩
  have o_check_given := ok_check_given (P := l.prog) (w := w) (base := base) F6 T e_is_from e_meet
  have e_check_given : Cal l.prog w K mg base "check_given" 3 ["rooms", "stays", "night", "given"] (sp_check_given K A) := ⟨⟨_, _, o_check_given, PySem.W.mg_of X G a6, k6, b6⟩⟩
  have o_housing := ok_housing (P := l.prog) (w := w) (base := base) F7 T e_check_room e_check_given e_meet
  have e_housing : Cal l.prog w K mg base "housing" 4 ["rooms", "stays", "night", "given"] (sp_housing K A) := ⟨⟨_, _, o_housing, PySem.W.mg_of X G a7, k7, b7⟩⟩
  have o_Lmixed := ok_Lmixed (P := l.prog) (w := w) (base := base) F8 T 
  have e_Lmixed : Cal l.prog w K mg base "_law_mixed" 1 ["_law_number", "_law_k"] (sp_Lmixed K A) := ⟨⟨_, _, o_Lmixed, PySem.W.mg_of X G a8, k8, b8⟩⟩
  have o_Lnumbers := ok_Lnumbers (P := l.prog) (w := w) (base := base) F9 T e_Lmixed
  have e_Lnumbers : Cal l.prog w K mg base "_law_numbers" 2 ["_law_script"] (sp_Lnumbers K A) := ⟨⟨_, _, o_Lnumbers, PySem.W.mg_of X G a9, k9, b9⟩⟩
  have o_Ldraw := ok_Ldraw (P := l.prog) (w := w) (base := base) F10 T e_Lmixed
  have e_Ldraw : Cal l.prog w K mg base "_law_draw" 2 ["_law_draws"] (sp_Ldraw K A) := ⟨⟨_, _, o_Ldraw, PySem.W.mg_of X G a10, k10, b10⟩⟩
  have e_Lequal : Cal l.prog w K mg base "_law_equal" 25 ["_law_actual", "_law_due"] (sp_Lequal K A 12) := eq_one (P := l.prog) (w := w) (base := base) F11 T (PySem.W.mg_of X G a11) b11 F12 (PySem.W.mg_of X G a12) b12 12
  have e_Lall_equal : Cal l.prog w K mg base "_law_all_equal" 24 ["_law_actual", "_law_due"] (sp_Lall_equal K A 12) := eq_all (P := l.prog) (w := w) (base := base) F11 T (PySem.W.mg_of X G a11) b11 F12 (PySem.W.mg_of X G a12) b12 12
  have o_Lsetup := ok_Lsetup (P := l.prog) (w := w) (base := base) F13 T e_Ldraw
  have e_Lsetup : Cal l.prog w K mg base "_law_setup" 3 ["_law_draws"] (sp_Lsetup K A) := ⟨⟨_, _, o_Lsetup, PySem.W.mg_of X G a13, k13, b13⟩⟩
  have o_Lstay := ok_Lstay (P := l.prog) (w := w) (base := base) F14 T e_Ldraw
  have e_Lstay : Cal l.prog w K mg base "_law_stay" 3 ["_law_draws", "_law_setup_here"] (sp_Lstay K A) := ⟨⟨_, _, o_Lstay, PySem.W.mg_of X G a14, k14, b14⟩⟩
  have o_Lmeet := ok_Lmeet (P := l.prog) (w := w) (base := base) F15 T 
  have e_Lmeet : Cal l.prog w K mg base "_law_meet" 1 ["_law_first", "_law_second"] (sp_Lmeet K A) := ⟨⟨_, _, o_Lmeet, PySem.W.mg_of X G a15, k15, b15⟩⟩
  have o_Lfits := ok_Lfits (P := l.prog) (w := w) (base := base) F16 T 
  have e_Lfits : Cal l.prog w K mg base "_law_fits" 1 ["_law_setup_here", "_law_stays_here"] (sp_Lfits K A) := ⟨⟨_, _, o_Lfits, PySem.W.mg_of X G a16, k16, b16⟩⟩
  have o_Lstays := ok_Lstays (P := l.prog) (w := w) (base := base) F17 T e_Lstay e_Lfits
  have e_Lstays : Cal l.prog w K mg base "_law_stays" 4 ["_law_draws", "_law_setup_here", "_law_many"] (sp_Lstays K A) := ⟨⟨_, _, o_Lstays, PySem.W.mg_of X G a17, k17, b17⟩⟩
  have o_Lorder := ok_Lorder (P := l.prog) (w := w) (base := base) F18 T 
  have e_Lorder : Cal l.prog w K mg base "_law_order" 1 ["_law_stays_here"] (sp_Lorder K A) := ⟨⟨_, _, o_Lorder, PySem.W.mg_of X G a18, k18, b18⟩⟩
  have o_Lhoused := ok_Lhoused (P := l.prog) (w := w) (base := base) F19 T e_Lorder e_Lmeet
  have e_Lhoused : Cal l.prog w K mg base "_law_housed" 2 ["_law_setup_here", "_law_stays_here", "_law_given_here"] (sp_Lhoused K A) := ⟨⟨_, _, o_Lhoused, PySem.W.mg_of X G a19, k19, b19⟩⟩
  have o_Lgiven := ok_Lgiven (P := l.prog) (w := w) (base := base) F20 T e_Lorder e_Ldraw e_Lmeet
  have e_Lgiven : Cal l.prog w K mg base "_law_given" 3 ["_law_draws", "_law_setup_here", "_law_stays_here", "_law_night"] (sp_Lgiven K A) := ⟨⟨_, _, o_Lgiven, PySem.W.mg_of X G a20, k20, b20⟩⟩
  exact (ok_law F21 T e_Lsetup e_Lstays e_Lgiven e_housing e_Lequal e_Lnumbers e_Ldraw e_Lhoused e_Lmeet).imp fun vs H Q E h => h
theorem walk {l : PySem.W.OpenLaw} {q : Program} {loose : List Str} {XP : (Str → Option Value) → Heap → Prop} {YP : World → Heap → Prop} {d : DefRec} {K : Params → PySem.W.Frag} (hn : l.most = some 63) (hdf : d.params.defaults = [])
    (hY : ∀ (w : World) (h : Heap), YP w h → (K w.params).In h)
    (F : ∀ (w : World) (mg : Str → Option Value) (fa : Addr) (h : Heap), (K w.params).In h → h.Ns mainGlobals mg → mg d.name = some (.ref fa) →
      ∃ fd : FuncData, (∀ (s : Shared) (u : Value), BindsTo s fd ⟨[u], []⟩ [("_law_script", u)]) ∧ ∀ base : Heap, (K w.params).In base → base.Ns mainGlobals mg → FnOk l.prog w (K w.params) mg base CX0 26 fa fd ["_law_script"] (spLaw (K w.params))) :
    PySem.W.WalkO q loose XP YP l.row.toRowW d [] (fun f vs => PySem.call f vs) :=
  L2.walk_of (n := 63) (k := 26) (x := "_law_script") (CX := fun _ => CX0) (sp := fun w => spLaw (K w.params)) hn (by decide) hdf ⟨rfl, by decide, by decide⟩ hY F (fun _ _ a ns hl _ hS => ⟨_, rfl, a, ns, rfl, hS, hl, fun _ => rfl⟩) fun _ _ _ _ _ z => z
end Toy
open PySem PySem.W PyProof.Rows in
set_option maxRecDepth 100000 in
set_option maxHeartbeats 0 in
theorem PySem.Challenge.cw_manydoors_k05_whole_housings_holds : PySem.Challenge.rw_manydoors_k05_whole_housings.Holds := by
  w_on; o_law; k_head; (case hw => w_witness2)
  k_fill
  refine Toy.walk (l := PySem.Challenge.rw_manydoors_k05_whole_housings) rfl rfl (fun w h Y => PySem.W.kIn_of Y) ?F
  case F =>
    intro w mg fa h KX G hmg
    refine' Toy.all_mk KX G hmg ?a1 ?l1 ?c1 ?k1 ?a2 ?l2 ?c2 ?k2 ?a3 ?l3 ?c3 ?k3 ?a4 ?l4 ?c4 ?k4 ?a5 ?l5 ?c5 ?k5 ?a6 ?l6 ?c6 ?k6 ?a7 ?l7 ?c7 ?k7 ?a8 ?l8 ?c8 ?k8 ?a9 ?l9 ?c9 ?k9 ?a10 ?l10 ?c10 ?k10 ?a11 ?l11 ?c11 ?k11 ?a12 ?l12 ?c12 ?k12 ?a13 ?l13 ?c13 ?k13 ?a14 ?l14 ?c14 ?k14 ?a15 ?l15 ?c15 ?k15 ?a16 ?l16 ?c16 ?k16 ?a17 ?l17 ?c17 ?k17 ?a18 ?l18 ?c18 ?k18 ?a19 ?l19 ?c19 ?k19 ?a20 ?l20 ?c20 ?k20 ?a21 ?l21 ?c21 ?k21 ?z_isinstance ?z_int ?z_bool ?z_list ?z_range ?z_max ?z_min ?z_len ?z_enumerate ?z_sorted ?z_tuple ?z_str
    (case a1 => k_is)
    (case l1 => k_is)
    (case c1 => k_is)
    (case k1 => k_is)
    (case a2 => k_is)
    (case l2 => k_is)
    (case c2 => k_is)
    (case k2 => k_is)
    (case a3 => k_is)
    (case l3 => k_is)
    (case c3 => k_is)
    (case k3 => k_is)
    (case a4 => k_is)
    (case l4 => k_is)
    (case c4 => k_is)
    (case k4 => k_is)
    (case a5 => k_is)
    (case l5 => k_is)
    (case c5 => k_is)
    (case k5 => k_is)
    (case a6 => k_is)
    (case l6 => k_is)
    (case c6 => k_is)
    (case k6 => k_is)
    (case a7 => k_is)
    (case l7 => k_is)
    (case c7 => k_is)
    (case k7 => k_is)
    (case a8 => k_is)
    (case l8 => k_is)
    (case c8 => k_is)
    (case k8 => k_is)
    (case a9 => k_is)
    (case l9 => k_is)
    (case c9 => k_is)
    (case k9 => k_is)
    (case a10 => k_is)
    (case l10 => k_is)
    (case c10 => k_is)
    (case k10 => k_is)
    (case a11 => k_is)
    (case l11 => k_is)
    (case c11 => k_is)
    (case k11 => k_is)
    (case a12 => k_is)
    (case l12 => k_is)
    (case c12 => k_is)
    (case k12 => k_is)
    (case a13 => k_is)
    (case l13 => k_is)
    (case c13 => k_is)
    (case k13 => k_is)
    (case a14 => k_is)
    (case l14 => k_is)
    (case c14 => k_is)
    (case k14 => k_is)
    (case a15 => k_is)
    (case l15 => k_is)
    (case c15 => k_is)
    (case k15 => k_is)
    (case a16 => k_is)
    (case l16 => k_is)
    (case c16 => k_is)
    (case k16 => k_is)
    (case a17 => k_is)
    (case l17 => k_is)
    (case c17 => k_is)
    (case k17 => k_is)
    (case a18 => k_is)
    (case l18 => k_is)
    (case c18 => k_is)
    (case k18 => k_is)
    (case a19 => k_is)
    (case l19 => k_is)
    (case c19 => k_is)
    (case k19 => k_is)
    (case a20 => k_is)
    (case l20 => k_is)
    (case c20 => k_is)
    (case k20 => k_is)
    (case a21 => k_is)
    (case l21 => k_is)
    (case c21 => k_is)
    (case k21 => k_is)
    (case z_isinstance => k_is)
    (case z_int => k_is)
    (case z_bool => k_is)
    (case z_list => k_is)
    (case z_range => k_is)
    (case z_max => k_is)
    (case z_min => k_is)
    (case z_len => k_is)
    (case z_enumerate => k_is)
    (case z_sorted => k_is)
    (case z_tuple => k_is)
    (case z_str => k_is)
#print axioms PySem.Challenge.cw_manydoors_k05_whole_housings_holds


