import PyProof.Rows.All
import Wide.All
import OpenK.AllK
import Wide.FinOn
import HandS.ForMost
import HandS.IsInst
import HandS.Evl
import PySem.Challenge.RW_manydoors_k08_whole_wires_lose_nothing
set_option Elab.async false
set_option linter.all false
set_option maxRecDepth 100000
set_option maxHeartbeats 1000000
namespace Lw
open PySem L2

/-! ### frames: what a piece of code leaves as it was -/
structure Fr (l : List Addr) (H H' : Hp) : Prop where
  keep : ∀ a o, H a = some o → a ∉ l → H' a = some o
  tup : ∀ a xs, H a = some (.tup xs) → H' a = some (.tup xs)
theorem Fr.refl {l : List Addr} {H : Hp} : Fr l H H := ⟨fun _ _ h _ => h, fun _ _ h => h⟩
theorem Fr.mono {l m : List Addr} {H H' : Hp} (f : Fr l H H') (h : ∀ a, a ∈ l → a ∈ m) : Fr m H H' := ⟨fun a o e n => f.keep a o e fun q => n (h a q), f.tup⟩
theorem Fr.of0 {m : List Addr} {H H' : Hp} (f : Fr [] H H') : Fr m H H' := f.mono fun _ q => nomatch q
theorem Fr.new {H : Hp} {p : Addr} {o : HO} (h : H p = none) : Fr [] H (upd H p o) := ⟨fun a u e _ => by rw [upd_ne (ne_of_none e h)]; exact e, fun a u e => by rw [upd_ne (ne_of_none e h)]; exact e⟩
def notTup : HO → Prop
  | .tup _ => False
  | _ => True
theorem Fr.put {H : Hp} {p : Addr} {o u : HO} (h : H p = some u) (hu : notTup u) : Fr [p] H (upd H p o) := by
  refine ⟨fun a v e n => ?_, fun a v e => ?_⟩
  · rw [upd_ne fun q => n (List.mem_singleton.mpr q)]; exact e
  · by_cases q : a = p
    · subst q; rw [h] at e; cases e; exact hu.elim
    · rw [upd_ne q]; exact e
theorem Fr.trans {l m : List Addr} {H H1 H2 : Hp} (f : Fr l H H1) (g : Fr m H1 H2) : Fr (l ++ m) H H2 :=
  ⟨fun a o e n => g.keep a o (f.keep a o e fun q => n (List.mem_append_left _ q)) fun q => n (List.mem_append_right _ q), fun a xs e => g.tup a xs (f.tup a xs e)⟩
theorem Fr.transL {l : List Addr} {H H1 H2 : Hp} (f : Fr l H H1) (g : Fr l H1 H2) : Fr l H H2 := (f.trans g).mono fun _ q => (List.mem_append.mp q).elim id id
theorem Fr.then0 {l : List Addr} {H H1 H2 : Hp} (f : Fr l H H1) (g : Fr [] H1 H2) : Fr l H H2 := f.transL g.of0
theorem Fr.pre0 {l : List Addr} {H H1 H2 : Hp} (f : Fr [] H H1) (g : Fr l H1 H2) : Fr l H H2 := f.of0.transL g
theorem Fr.pre0' {l : List Addr} {H H1 H2 : Hp} (g : Fr l H1 H2) (f : Fr [] H H1) : Fr l H H2 := f.pre0 g
/-- an address that was not tracked may be written -/
theorem Fr.drop {l : List Addr} {p : Addr} {H H' : Hp} (f : Fr (p :: l) H H') (h : H p = none) : Fr l H H' :=
  ⟨fun a o e n => f.keep a o e fun q => (List.mem_cons.mp q).elim (fun z => by rw [z, h] at e; cases e) n, f.tup⟩
theorem Fr.free {H H' : Hp} {p : Addr} (f : Fr [] H H') (h : H' p = none) : H p = none := by
  cases q : H p with
  | none => rfl
  | some o => rw [f.keep p o q (by simp)] at h; cases h
theorem Fr.freeL {l : List Addr} {H H' : Hp} {p : Addr} (f : Fr l H H') (h : H' p = none) (n : p ∉ l) : H p = none := by
  cases q : H p with
  | none => rfl
  | some o => rw [f.keep p o q n] at h; cases h
/-- new objects may change -/
theorem Fr.own {l m : List Addr} {H H' H2 : Hp} (f : Fr l H H') (g : Fr m H' H2) (n : ∀ a, a ∈ m → a ∈ l ∨ H a = none) : Fr l H H2 :=
  ⟨fun a o e na => g.keep a o (f.keep a o e na) fun q => (n a q).elim na (fun z => by rw [z] at e; cases e), fun a xs e => g.tup a xs (f.tup a xs e)⟩
theorem Fr.own1 {l : List Addr} {p : Addr} {H H' H2 : Hp} (f : Fr l H H') (g : Fr [p] H' H2) (n : H p = none) : Fr l H H2 := f.own g fun a q => .inr (by rw [List.mem_singleton.mp q]; exact n)
theorem frn0 {l : List Addr} {H : Hp} : ∀ a, a ∈ ([] : List Addr) → a ∈ l ∨ H a = none := fun _ q => nomatch q
theorem frn1 {p : Addr} {l m : List Addr} {H : Hp} (h : p ∈ l ∨ H p = none) (t : ∀ a, a ∈ m → a ∈ l ∨ H a = none) : ∀ a, a ∈ p :: m → a ∈ l ∨ H a = none := fun a q => (List.mem_cons.mp q).elim (fun e => e ▸ h) (t a)
theorem nin0 {a : Addr} : a ∉ ([] : List Addr) := by simp
theorem nin1 {a b : Addr} {l : List Addr} (h : a ≠ b) (t : a ∉ l) : a ∉ b :: l := by simp [h, t]
theorem Fr.tupAt {l : List Addr} {H H' : Hp} {a : Addr} {xs : List V} (f : Fr l H H') (h : H a = some (.tup xs)) : H' a = some (.tup xs) := f.tup a xs h
theorem Fr.at0 {H H' : Hp} {a : Addr} {o : HO} (f : Fr [] H H') (h : H a = some o) : H' a = some o := f.keep a o h nin0
theorem Fr.at {l : List Addr} {H H' : Hp} {a : Addr} {o : HO} (f : Fr l H H') (h : H a = some o) (n : a ∉ l) : H' a = some o := f.keep a o h n
theorem Fr.sql {K : PySem.W.Frag} {l : List Addr} {H H' : Hp} {a : Addr} {xs : List V} (f : Fr l H H') (h : SqL K H a xs) (n : a ∉ l) : SqL K H' a xs := by
  rcases h with (h | ⟨o, h⟩) | h
  · exact .inl (.inl (f.keep _ _ h n))
  · exact .inl (.inr ⟨o, f.keep _ _ h n⟩)
  · exact .inr h

/-! ### operators by name -/
def oAdd : R2 := rI0 fun i j => .int (i + j)
def oSub : R2 := rI0 fun i j => .int (i - j)
def oMul : R2 := rI CMul fun i j => .int (i * j)
def oMod : R2 := rI (fun _ j => 0 < j) fun i j => .int (i % j)
def oDiv : R2 := rI CDiv fun i j => .int (i / j)
def oPow : R2 := rI CPow fun i j => .int (i ^ j.toNat)
def cLt : R2 := rI0 fun i j => .bl (decide (i < j))
def cLe : R2 := rI0 fun i j => .bl (decide (i ≤ j))
def cGt : R2 := rI0 fun i j => .bl (decide (j < i))
def cGe : R2 := rI0 fun i j => .bl (decide (j ≤ i))
section
variable {X : Cx}
theorem o_add : OpR X (binaryOp .Add) oAdd := op_add
theorem o_sub : OpR X (binaryOp .Sub) oSub := op_sub
theorem o_mul : OpR X (binaryOp .Mult) oMul := op_mul
theorem o_mod : OpR X (binaryOp .Mod) oMod := op_mod
theorem o_div : OpR X (binaryOp .FloorDiv) oDiv := op_fdiv
theorem o_pow : OpR X (binaryOp .Pow) oPow := op_pow
theorem c_lt : OpR X (compareOp .Lt) cLt := op_lt
theorem c_le : OpR X (compareOp .LtE) cLe := op_le
theorem c_gt : OpR X (compareOp .Gt) cGt := op_gt
theorem c_ge : OpR X (compareOp .GtE) cGe := op_ge
/-- len -/
def rLenSq (K : PySem.W.Frag) : List V → Hp → VK → Prop := fun xs H Q => ∃ p ys, xs = [.ref p] ∧ (SqL K H p ys ∨ SqT K H p ys) ∧ Q (.int ys.length) H
def rLenStr : List V → Hp → VK → Prop := fun xs H Q => ∃ z, xs = [.str z] ∧ z.length ≤ sizeLine ∧ Q (.int z.length) H
theorem b_len : CallR X (.builtin "len") (rLenSq X.K) := call_len_seq
theorem b_lenS : CallR X (.builtin "len") rLenStr := call_len_str
/-- list(..), tuple(..) -/
def rListOf (K : PySem.W.Frag) : List V → Hp → VK → Prop := fun xs H Q => ∃ p ys, xs = [.ref p] ∧ (SqL K H p ys ∨ SqT K H p ys) ∧ ∀ l, H l = none → Q (.ref l) (upd H l (.lst ys))
def rTupOf (K : PySem.W.Frag) : List V → Hp → VK → Prop := fun xs H Q => ∃ p ys, xs = [.ref p] ∧ ((SqL K H p ys ∧ ∀ l, H l = none → Q (.ref l) (upd H l (.tup ys))) ∨ (SqT K H p ys ∧ Q (.ref p) H))
theorem b_list : CallR X (.type "list") (rListOf X.K) := call_list_of
theorem b_tuple : CallR X (.type "tuple") (rTupOf X.K) := call_tuple_of
def rMax2 : List V → Hp → VK → Prop := fun xs H Q => ∃ i j, xs = [.int i, .int j] ∧ Q (.int (if j > i then j else i)) H
def rMin2 : List V → Hp → VK → Prop := fun xs H Q => ∃ i j, xs = [.int i, .int j] ∧ Q (.int (if j < i then j else i)) H
theorem b_max2 (hc : X.calm = true) : CallR X (.builtin "max") rMax2 := call_max2 hc
theorem b_min2 (hc : X.calm = true) : CallR X (.builtin "min") rMin2 := call_min2 hc
def rIsNon : R2 := fun x y H Q => y = .non ∧ Q (.bl (decide (x = .non))) H
def rIsNotNon : R2 := fun x y H Q => y = .non ∧ Q (.bl (!decide (x = .non))) H
theorem c_isN : OpR X (compareOp .Is) rIsNon := op_isN
theorem c_notN : OpR X (compareOp .IsNot) rIsNotNon := op_notN
/-- a value's truth, as a test -/
def tTr (K : PySem.W.Frag) (ta : TE) : TT := fun σ H Q => ta σ H fun x H' => ∃ k, TruV K x H' k ∧ Q k H'
theorem pt_tr {a : Expr} {ta : TE} (ha : PE X a ta) (he : ∀ whole, isTrue a X.env whole = (do let v ← whole; standAt a.pos; holding [v] (truthy v))) : PT X a (tTr X.K ta) := pt_truth ha he

/-! ### calls -/
def tCl (sp : Sp) (t : TA) : TE := fun σ H Q => t σ H fun vs H1 => sp vs H1 Q E0
def rMt (C : Addr) (m : Str) (x : V) (H : Hp) (p : Prop) : Prop := ∃ a dx fs, x = .ref a ∧ H a = some (.ins C dx fs) ∧ fs.lookup m = none ∧ p
def tMt (C : Addr) (m : Str) (sp : Sp) (ta : TE) (t : TA) : TE := fun σ H Q => ta σ H fun x H1 => rMt C m x H1 (t σ H1 fun vs H2 => sp (x :: vs) H2 Q E0)
def tMk (C : Addr) (sp : Sp) (t : TA) : TE := fun σ H Q => t σ H fun vs H1 => ∀ x dx, H1 x = none → H1 dx = none → dx ≠ x →
  sp (.ref x :: vs) (upd (upd H1 dx (.own x)) x (.ins C dx [])) (fun v H2 => v = .non ∧ Q (.ref x) H2) E0
/-- a def of the text, to be called by its name -/
structure Cal (P : Program) (w : World) (K : PySem.W.Frag) (mg : Str → Option Value) (base : Heap) (x : Str) (k : Nat) (ps : List Str) (sp : Sp) : Prop where
  ex : ∃ f fd, FnOk P w K mg base CX0 k f fd ps sp ∧ mg x = some (.ref f) ∧ PySem.W.keepIn K (.ref f) = true ∧ Binds K fd ps []
/-- a method of the class at C -/
structure CalM (P : Program) (w : World) (K : PySem.W.Frag) (mg : Str → Option Value) (base : Heap) (C : Addr) (m : Str) (k : Nat) (ps : List Str) (sp : Sp) : Prop where
  ex : ∃ f fd, FnOk P w K mg base CX0 k f fd ps sp ∧ Meth K C m f ∧ Binds K fd ps []
/-- a class, to be called by its name -/
structure CalC (P : Program) (w : World) (K : PySem.W.Frag) (mg : Str → Option Value) (base : Heap) (x : Str) (C : Addr) (k : Nat) (ps : List Str) (sp : Sp) : Prop where
  ex : ∃ f fd, FnOk P w K mg base CX0 k f fd ps sp ∧ Mk K C f ∧ mg x = some (.ref C) ∧ Binds K fd ps []
variable {k : Nat} {ps : List Str} {sp : Sp} {x m : Str} {p pos apos : Pos} {e o : Expr} {es : List Expr} {ta : TE} {t : TA} {C : Addr}
theorem tcl_eq {E : XK} : (tCall sp [] E0 t) = tCl sp t := by
  funext σ H Q
  show (t σ H fun vs H1 => sp (vs ++ []) H1 Q E0) = (t σ H fun vs H1 => sp vs H1 Q E0)
  simp only [List.append_nil]
theorem pe_cl (c : Cal X.prog X.w X.K X.mg X.base x k ps sp) (hr : Room k X.A) (hg : Gl X x) (ha : PA X (e :: es) t) (hdb : (x == ("__debug__" : Str)) = false := by decide)
    (he : starEach (e :: es) X.env = (false, eval e X.env) :: starEach es X.env := by rfl) (hpl : (backTo pos (starEach es X.env)).any (·.1) = false := by rfl) : PE X (.Call (.Name x p) (e :: es) [] pos) (tCl sp t) := by
  obtain ⟨f, fd, F, hm, hk, hb⟩ := c.ex
  rw [← tcl_eq (E := E0)]
  exact pe_call F hr hg hm hk hb .nil pass0 ha hdb he hpl
theorem pe_cl0 (c : Cal X.prog X.w X.K X.mg X.base x k ps sp) (hr : Room k X.A) (hg : Gl X x) (hdb : (x == ("__debug__" : Str)) = false := by decide) : PE X (.Call (.Name x p) [] [] pos) (tCl sp tNil) := by
  obtain ⟨f, fd, F, hm, hk, hb⟩ := c.ex
  rw [← tcl_eq (E := E0)]
  exact pe_call0 F hr hg hm hk hb .nil pass0 hdb
theorem tmt_eq : (tMeth C m sp [] E0 ta t) = tMt C m sp ta t := by
  funext σ H Q
  show (ta σ H fun x H1 => ∃ a dx fs, x = .ref a ∧ H1 a = some (.ins C dx fs) ∧ fs.lookup m = none ∧ t σ H1 fun vs H2 => sp (x :: (vs ++ [])) H2 Q E0) = _
  simp only [List.append_nil]
  rfl
theorem tmk_eq : (tMake C sp [] E0 t) = tMk C sp t := by
  funext σ H Q
  show (t σ H fun vs H1 => ∀ x dx, H1 x = none → H1 dx = none → dx ≠ x → sp (.ref x :: (vs ++ [])) (upd (upd H1 dx (.own x)) x (.ins C dx [])) (fun v H2 => v = .non ∧ Q (.ref x) H2) E0) = _
  simp only [List.append_nil]
  rfl
theorem pe_mt {pl : Sem Bool} (he : PE X o ta) (c : Cls X.K C) (cm : CalM X.prog X.w X.K X.mg X.base C m k ps sp) (hr : Room k X.A) (ha : PA X (e :: es) t)
    (hst : starEach (e :: es) X.env = (false, eval e X.env) :: starEach es X.env := by rfl) (hpl : (backTo pos (starEach es X.env)).any (·.1) = false := by rfl)
    (ht : eval (.Call (.Attribute o m apos) (e :: es) [] pos) X.env = (do
      let ov ← eval o X.env
      standAt apos.atName
      let (f, first) ← holding [ov] (getMethod ov m pl)
      callWith pos f first (backTo pos (starEach (e :: es) X.env)) (backToKw pos (keywordEach [] X.env))) := by rfl) :
    PE X (.Call (.Attribute o m apos) (e :: es) [] pos) (tMt C m sp ta t) := by
  obtain ⟨f, fd, F, hm, hb⟩ := cm.ex
  rw [← tmt_eq]
  exact pe_meth (pl := pl) he c hm F hr hb .nil pass0 ha hst hpl ht
theorem pe_mt0 {pl : Sem Bool} (he : PE X o ta) (c : Cls X.K C) (cm : CalM X.prog X.w X.K X.mg X.base C m k ps sp) (hr : Room k X.A)
    (ht : eval (.Call (.Attribute o m apos) [] [] pos) X.env = (do
      let ov ← eval o X.env
      standAt apos.atName
      let (f, first) ← holding [ov] (getMethod ov m pl)
      callWith pos f first (backTo pos (starEach [] X.env)) (backToKw pos (keywordEach [] X.env))) := by rfl) :
    PE X (.Call (.Attribute o m apos) [] [] pos) (tMt C m sp ta tNil) := by
  obtain ⟨f, fd, F, hm, hb⟩ := cm.ex
  rw [← tmt_eq]
  exact pe_meth0 (pl := pl) he c hm F hr hb .nil pass0 ht
theorem pe_mk (cm : CalC X.prog X.w X.K X.mg X.base x C k ps sp) (hr : Room (k + 1) X.A) (hg : Gl X x) (ha : PA X (e :: es) t) (hdb : (x == ("__debug__" : Str)) = false := by decide)
    (he : starEach (e :: es) X.env = (false, eval e X.env) :: starEach es X.env := by rfl) (hpl : (backTo pos (starEach es X.env)).any (·.1) = false := by rfl) :
    PE X (.Call (.Name x p) (e :: es) [] pos) (tMk C sp t) := by
  obtain ⟨f, fd, F, hM, hm, hb⟩ := cm.ex
  rw [← tmk_eq]
  exact pe_make hM F hr hg hm hb .nil pass0 ha hdb he hpl
theorem pe_mk0 (cm : CalC X.prog X.w X.K X.mg X.base x C k ps sp) (hr : Room (k + 1) X.A) (hg : Gl X x) (hdb : (x == ("__debug__" : Str)) = false := by decide) :
    PE X (.Call (.Name x p) [] [] pos) (tMk C sp tNil) := by
  obtain ⟨f, fd, F, hM, hm, hb⟩ := cm.ex
  rw [← tmk_eq]
  exact pe_make0 hM F hr hg hm hb .nil pass0 hdb
end

/-! ### readings, one step each -/
section
variable {K : PySem.W.Frag} {σ : L2.St} {H H' : Hp} {Q : VK} {D : Ends} {i : Nat} {v x y : V} {ta tb te tc : TE} {r : R2} {t u : TS} {c d : TT} {as tr : TA} {g : TG} {a b : Int} {p C dx : Addr} {QB : Bool → Hp → Prop} {QL : List V → Hp → Prop}
theorem g_seq (h : t { D with nx := u D } σ H) : tSeq t u D σ H := h
theorem g_cut (M : L2.St → Hp → Prop) (h : t { D with nx := M } σ H) (k : ∀ σ' H', M σ' H' → u D σ' H') : Evl.tCut t u D σ H := ⟨M, h, k⟩
theorem g_next (h : D.nx σ H) : tNext D σ H := h
theorem g_brk (h : D.bk σ H) : tBreak D σ H := h
theorem g_cont (h : D.ct σ H) : tCont D σ H := h
theorem g_asg (h : te σ H (fun v H' => g v σ H' D.nx)) : tAsg te g D σ H := h
theorem g_name {QS : L2.St → Hp → Prop} (h : QS (σ.set i (some v)) H) : gName i v σ H QS := h
theorem g_ret (h : te σ H D.rt) : tRet te D σ H := h
theorem g_retN (h : D.rt .non H) : tRetN D σ H := h
theorem g_drop (h : te σ H (fun _ H' => D.nx σ H')) : tDrop te D σ H := h
theorem g_ifs (h : c σ H (fun b H' => if b = true then t D σ H' else u D σ H')) : tIfS c t u D σ H := h
theorem g_aug {ti : TIp} (hx : σ[i]? = some (some x)) (h : te σ H (fun y H1 => ti x y H1 fun z H2 => D.nx (σ.set i (some z)) H2)) : tAug i te ti D σ H := ⟨x, hx, h⟩
theorem g_ipI {f : Int → Int → Int} (h : Q (.int (f a b)) H) : ipI f (.int a) (.int b) H Q := ⟨a, b, rfl, rfl, h⟩
theorem g_var (hx : σ[i]? = some (some v)) (h : Q v H) : tVar i σ H Q := ⟨v, hx, h⟩
theorem g_c (h : Q v H) : tC v σ H Q := h
theorem g_op (h : ta σ H (fun x H1 => tb σ H1 fun y H2 => r x y H2 Q)) : tOp r ta tb σ H Q := h
theorem g_add (h : Q (.int (a + b)) H) : oAdd (.int a) (.int b) H Q := ⟨a, b, rfl, rfl, h⟩
theorem g_sub (h : Q (.int (a - b)) H) : oSub (.int a) (.int b) H Q := ⟨a, b, rfl, rfl, h⟩
theorem g_mul (hc : CMul a b) (h : Q (.int (a * b)) H) : oMul (.int a) (.int b) H Q := ⟨a, b, rfl, rfl, hc, h⟩
theorem g_mod (hc : 0 < b) (h : Q (.int (a % b)) H) : oMod (.int a) (.int b) H Q := ⟨a, b, rfl, rfl, hc, h⟩
theorem g_div (hc : CDiv a b) (h : Q (.int (a / b)) H) : oDiv (.int a) (.int b) H Q := ⟨a, b, rfl, rfl, hc, h⟩
theorem g_pow (hc : CPow a b) (h : Q (.int (a ^ b.toNat)) H) : oPow (.int a) (.int b) H Q := ⟨a, b, rfl, rfl, hc, h⟩
theorem g_lt (h : Q (.bl (decide (a < b))) H) : cLt (.int a) (.int b) H Q := ⟨a, b, rfl, rfl, h⟩
theorem g_le (h : Q (.bl (decide (a ≤ b))) H) : cLe (.int a) (.int b) H Q := ⟨a, b, rfl, rfl, h⟩
theorem g_gt (h : Q (.bl (decide (b < a))) H) : cGt (.int a) (.int b) H Q := ⟨a, b, rfl, rfl, h⟩
theorem g_ge (h : Q (.bl (decide (b ≤ a))) H) : cGe (.int a) (.int b) H Q := ⟨a, b, rfl, rfl, h⟩
theorem g_eqI (h : Q (.bl (decide (a = b))) H) : rEq (.int a) (.int b) H Q := ⟨rfl, by rw [show decide (V.int a = V.int b) = decide (a = b) from by simp]; exact h⟩
theorem g_neI (h : Q (.bl (!decide (a = b))) H) : rNe (.int a) (.int b) H Q := ⟨rfl, by rw [show decide (V.int a = V.int b) = decide (a = b) from by simp]; exact h⟩
theorem g_eqS {a b : Str} (h : Q (.bl (decide (a = b))) H) : rEq (.str a) (.str b) H Q := ⟨rfl, by rw [show decide (V.str a = V.str b) = decide (a = b) from by simp]; exact h⟩
theorem g_neS {a b : Str} (h : Q (.bl (!decide (a = b))) H) : rNe (.str a) (.str b) H Q := ⟨rfl, by rw [show decide (V.str a = V.str b) = decide (a = b) from by simp]; exact h⟩
theorem g_eqB {a b : Bool} (h : Q (.bl (decide (a = b))) H) : rEq (.bl a) (.bl b) H Q := ⟨rfl, by rw [show decide (V.bl a = V.bl b) = decide (a = b) from by simp]; exact h⟩
theorem g_isN (h : Q (.bl (decide (x = .non))) H) : rIsNon x .non H Q := ⟨rfl, h⟩
theorem g_notN (h : Q (.bl (!decide (x = .non))) H) : rIsNotNon x .non H Q := ⟨rfl, h⟩
theorem g_test (h : te σ H (fun x H' => ∃ k, x = .bl k ∧ QB k H')) : tTest te σ H QB := h
theorem g_tb (h : te σ H (fun x H' => ∃ k, x = .bl k ∧ QB k H')) : tB te σ H QB := h
theorem g_bl {k : Bool} {P : Bool → Prop} (h : P k) : ∃ k', V.bl k = V.bl k' ∧ P k' := ⟨k, rfl, h⟩
theorem g_and (h : c σ H (fun b H1 => if b = true then d σ H1 QB else QB false H1)) : tAnd c d σ H QB := h
theorem g_or (h : c σ H (fun b H1 => if b = true then QB true H1 else d σ H1 QB)) : tOr c d σ H QB := h
theorem g_not (h : c σ H (fun b H1 => QB (!b) H1)) : tNot c σ H QB := h
theorem g_andV (h : ta σ H (fun x H1 => ∃ c, x = .bl c ∧ if c = true then tb σ H1 Q else Q (.bl false) H1)) : tAndV ta tb σ H Q := h
theorem g_orV (h : ta σ H (fun x H1 => ∃ c, x = .bl c ∧ if c = true then Q (.bl true) H1 else tb σ H1 Q)) : tOrV ta tb σ H Q := h
theorem g_notV (h : ta σ H (fun x H1 => ∃ c, x = .bl c ∧ Q (.bl (!c)) H1)) : tNotV ta σ H Q := h
theorem g_ifE (h : c σ H (fun b H1 => if b = true then ta σ H1 Q else tb σ H1 Q)) : tIf c ta tb σ H Q := h
theorem g_ite {P : Prop} [Decidable P] {A B : Prop} (h1 : P → A) (h2 : ¬ P → B) : if decide P = true then A else B := by
  by_cases h : P
  · rw [if_pos (decide_eq_true h)]; exact h1 h
  · rw [if_neg (by simp [h])]; exact h2 h
theorem g_iteN {P : Prop} [Decidable P] {A B : Prop} (h1 : ¬ P → A) (h2 : P → B) : if (!decide P) = true then A else B := by
  by_cases h : P
  · rw [if_neg (by simp [h])]; exact h2 h
  · rw [if_pos (by simp [h])]; exact h1 h
theorem g_iteB {k : Bool} {A B : Prop} (h1 : k = true → A) (h2 : k = false → B) : if k = true then A else B := by
  cases k with
  | true => rw [if_pos rfl]; exact h1 rfl
  | false => rw [if_neg Bool.false_ne_true]; exact h2 rfl
theorem g_iteNB {k : Bool} {A B : Prop} (h1 : k = false → A) (h2 : k = true → B) : if (!k) = true then A else B := by
  cases k with
  | true => rw [if_neg (by decide)]; exact h2 rfl
  | false => rw [if_pos (by decide)]; exact h1 rfl
theorem g_iteT {A B : Prop} (h : A) : if true = true then A else B := by rw [if_pos rfl]; exact h
theorem g_iteF {A B : Prop} (h : B) : if false = true then A else B := by rw [if_neg Bool.false_ne_true]; exact h
theorem g_iteNT {A B : Prop} (h : B) : if (!true) = true then A else B := by rw [if_neg (by decide)]; exact h
theorem g_iteNF {A B : Prop} (h : A) : if (!false) = true then A else B := by rw [if_pos (by decide)]; exact h
theorem g_nil (h : QL [] H) : tNil σ H QL := h
theorem g_cons (h : te σ H (fun x H1 => as σ H1 fun xs H2 => QL (x :: xs) H2)) : tCons te as σ H QL := h
theorem g_cb {rr : List V → Hp → VK → Prop} (h : as σ H (fun vs H1 => rr vs H1 Q)) : tCB rr as σ H Q := h
theorem g_cl {sp : Sp} (h : as σ H (fun vs H1 => sp vs H1 Q E0)) : tCl sp as σ H Q := h
/-- a new tuple, a new list -/
def rNewT (vs : List V) (H : Hp) (Q : VK) : Prop := vs.length ≤ sizeLine ∧ ∀ p, H p = none → Q (.ref p) (upd H p (.tup vs))
def rNewL (vs : List V) (H : Hp) (Q : VK) : Prop := vs.length ≤ sizeLine ∧ ∀ p, H p = none → Q (.ref p) (upd H p (.lst vs))
theorem g_tup (h : as σ H (fun vs H1 => rNewT vs H1 Q)) : tTup as σ H Q := h
theorem g_lst (h : as σ H (fun vs H1 => rNewL vs H1 Q)) : tLst as σ H Q := h
theorem g_newT {vs : List V} (hl : vs.length ≤ sizeLine) (h : ∀ p H', H p = none → Fr [] H H' → H' p = some (.tup vs) → Q (.ref p) H') : rNewT vs H Q := ⟨hl, fun p hp => h p _ hp (Fr.new hp) upd_same⟩
theorem g_newL {vs : List V} (hl : vs.length ≤ sizeLine) (h : ∀ p H', H p = none → Fr [] H H' → H' p = some (.lst vs) → Q (.ref p) H') : rNewL vs H Q := ⟨hl, fun p hp => h p _ hp (Fr.new hp) upd_same⟩
theorem g_ixL {xs : List V} {k : Int} (h : SqL K H p xs) (ha : atI xs k = some v) (q : Q v H) : rIxL K (.ref p) (.int k) H Q := ⟨p, xs, k, v, rfl, rfl, h, ha, q⟩
theorem g_ixT {xs : List V} {k : Int} (h : SqT K H p xs) (ha : atI xs k = some v) (q : Q v H) : rIxT K (.ref p) (.int k) H Q := ⟨p, xs, k, v, rfl, rfl, h, ha, q⟩
theorem g_lenL {xs : List V} (h : SqL K H p xs) (q : Q (.int xs.length) H) : rLenSq K [.ref p] H Q := ⟨p, xs, rfl, .inl h, q⟩
theorem g_lenT {xs : List V} (h : SqT K H p xs) (q : Q (.int xs.length) H) : rLenSq K [.ref p] H Q := ⟨p, xs, rfl, .inr h, q⟩
theorem g_listL {xs : List V} (h : SqL K H p xs) (q : ∀ l H', H l = none → Fr [] H H' → H' l = some (.lst xs) → Q (.ref l) H') : rListOf K [.ref p] H Q := ⟨p, xs, rfl, .inl h, fun l hl => q l _ hl (Fr.new hl) upd_same⟩
theorem g_listT {xs : List V} (h : SqT K H p xs) (q : ∀ l H', H l = none → Fr [] H H' → H' l = some (.lst xs) → Q (.ref l) H') : rListOf K [.ref p] H Q := ⟨p, xs, rfl, .inr h, fun l hl => q l _ hl (Fr.new hl) upd_same⟩
theorem g_tupL {xs : List V} (h : SqL K H p xs) (q : ∀ l H', H l = none → Fr [] H H' → H' l = some (.tup xs) → Q (.ref l) H') : rTupOf K [.ref p] H Q := ⟨p, xs, rfl, .inl ⟨h, fun l hl => q l _ hl (Fr.new hl) upd_same⟩⟩
theorem g_max2 (q : Q (.int (if b > a then b else a)) H) : rMax2 [.int a, .int b] H Q := ⟨a, b, rfl, q⟩
theorem g_min2 (q : Q (.int (if b < a then b else a)) H) : rMin2 [.int a, .int b] H Q := ⟨a, b, rfl, q⟩
def rBM (K : PySem.W.Frag) (T : String) (x : V) (H : Hp) (P : Prop) : Prop := tyV K T x H ∧ P
theorem g_bm {T : String} {rr : V → List V → Hp → VK → Prop} (h : te σ H (fun x H1 => rBM K T x H1 (as σ H1 fun xs H2 => rr x xs H2 Q))) : tBM K T rr te as σ H Q := h
theorem g_bm0 {T : String} {rr : V → List V → Hp → VK → Prop} (h : te σ H (fun x H1 => rBM K T x H1 (rr x [] H1 Q))) : tBM0 K T rr te σ H Q := h
theorem g_bmL {xs : List V} {P : Prop} (h : H p = some (.lst xs)) (q : P) : rBM K "list" (.ref p) H P := ⟨.inl ⟨rfl, xs, SqL.of h⟩, q⟩
theorem g_append {xs : List V} (h : H p = some (.lst xs)) (hl : xs.length < sizeLine) (q : ∀ H', Fr [p] H H' → H' p = some (.lst (xs ++ [y])) → Q .non H') : rAppend (.ref p) [y] H Q := ⟨p, xs, y, rfl, rfl, h, hl, q _ (Fr.put h trivial) upd_same⟩
theorem g_clear {xs : List V} (h : H p = some (.lst xs)) (q : ∀ H', Fr [p] H H' → H' p = some (.lst []) → Q .non H') : rClear (.ref p) [] H Q := ⟨p, xs, rfl, rfl, h, q _ (Fr.put h trivial) upd_same⟩
theorem g_sub1 {to ti : TE} {ts : TSet} {QS : L2.St → Hp → Prop} (h : to σ H (fun o H1 => ti σ H1 fun i H2 => ts o i v H2 fun H3 => QS σ H3)) : gSub to ti ts v σ H QS := h
theorem g_setL {xs : List V} {k : Int} {j : Nat} {P : Hp → Prop} (h : H p = some (.lst xs)) (hj : ixN xs.length k = some j) (q : ∀ H', Fr [p] H H' → H' p = some (.lst (xs.set j v)) → P H') : rSetL (.ref p) (.int k) v H P := ⟨p, xs, k, j, rfl, rfl, h, hj, q _ (Fr.put h trivial) upd_same⟩
/-- attributes -/
def rFld (K : PySem.W.Frag) (f : Str) (x : V) (H : Hp) (Q : VK) : Prop := ∃ a C dx fs v, x = .ref a ∧ H a = some (.ins C dx fs) ∧ Cls K C ∧ NoAttr K C f ∧ fs.lookup f = some v ∧ Q v H
theorem g_fld {f : Str} (h : ta σ H (fun x H1 => rFld K f x H1 Q)) : tFld K ta f σ H Q := h
theorem g_rfld {f : Str} {fs : List (Str × V)} (h : H p = some (.ins C dx fs)) (c : Cls K C) (n : NoAttr K C f) (l : fs.lookup f = some v) (q : Q v H) : rFld K f (.ref p) H Q := ⟨p, C, dx, fs, v, rfl, h, c, n, l, q⟩
def rFldS (K : PySem.W.Frag) (f : Str) (x v : V) (H : Hp) (P : Hp → Prop) : Prop := ∃ a C dx fs, x = .ref a ∧ H a = some (.ins C dx fs) ∧ Cls K C ∧ NoAttr K C f ∧ fs.length < 1000 ∧ P (upd H a (.ins C dx (putF f v fs)))
theorem g_sfld {f : Str} (h : tb σ H (fun y H1 => ta σ H1 fun x H2 => rFldS K f x y H2 fun H3 => D.nx σ H3)) : sFld K ta tb f D σ H := h
theorem g_rflds {f : Str} {fs gs : List (Str × V)} {P : Hp → Prop} (h : H p = some (.ins C dx fs)) (c : Cls K C) (n : NoAttr K C f) (hl : fs.length < 1000) (e : putF f v fs = gs) (q : ∀ H', Fr [p] H H' → H' p = some (.ins C dx gs) → P H') : rFldS K f (.ref p) v H P :=
  ⟨p, C, dx, fs, rfl, h, c, n, hl, q _ (Fr.put h trivial) (by rw [e]; exact upd_same)⟩
def rFldA (K : PySem.W.Frag) (f : Str) (tv : TE) (rd : V → V → Hp → VK → Prop) (x : V) (σ : L2.St) (H : Hp) (D : Ends) : Prop := ∃ a C dx fs v, x = .ref a ∧ H a = some (.ins C dx fs) ∧ Cls K C ∧ NoAttr K C f ∧ fs.lookup f = some v ∧
  tv σ H fun y H2 => rd v y H2 fun z H3 => ∃ dx' fs', H3 a = some (.ins C dx' fs') ∧ fs'.length < 1000 ∧ D.nx σ (upd H3 a (.ins C dx' (putF f z fs')))
theorem g_flda {f : Str} {rd : V → V → Hp → VK → Prop} (h : ta σ H (fun x H1 => rFldA K f tb rd x σ H1 D)) : sFldAug K ta tb rd f D σ H := h
def rFldB (a C : Addr) (f : Str) (z : V) (H3 : Hp) (P : Hp → Prop) : Prop := ∃ dx' fs', H3 a = some (.ins C dx' fs') ∧ fs'.length < 1000 ∧ P (upd H3 a (.ins C dx' (putF f z fs')))
theorem g_rflda {f : Str} {fs : List (Str × V)} {rd : V → V → Hp → VK → Prop} (h : H p = some (.ins C dx fs)) (c : Cls K C) (n : NoAttr K C f) (l : fs.lookup f = some v) (q : tb σ H fun y H2 => rd v y H2 fun z H3 => rFldB p C f z H3 fun H4 => D.nx σ H4) : rFldA K f tb rd (.ref p) σ H D :=
  ⟨p, C, dx, fs, v, rfl, h, c, n, l, q⟩
theorem g_rfldb {f : Str} {fs gs : List (Str × V)} {P : Hp → Prop} (h : H p = some (.ins C dx fs)) (hl : fs.length < 1000) (e : putF f v fs = gs) (q : ∀ H', Fr [p] H H' → H' p = some (.ins C dx gs) → P H') : rFldB p C f v H P :=
  ⟨dx, fs, h, hl, q _ (Fr.put h trivial) (by rw [e]; exact upd_same)⟩
theorem g_rAdd (h : Q (.int (a + b)) H) : rAdd (.int a) (.int b) H Q := ⟨a, b, rfl, rfl, h⟩
theorem g_rSub (h : Q (.int (a - b)) H) : rSub (.int a) (.int b) H Q := ⟨a, b, rfl, rfl, h⟩
theorem g_mt {m : Str} {sp : Sp} (h : ta σ H (fun x H1 => rMt C m x H1 (as σ H1 fun vs H2 => sp (x :: vs) H2 Q E0))) : tMt C m sp ta as σ H Q := h
theorem g_rmt {m : Str} {fs : List (Str × V)} {P : Prop} (h : H p = some (.ins C dx fs)) (l : fs.lookup m = none) (q : P) : rMt C m (.ref p) H P := ⟨p, dx, fs, rfl, h, l, q⟩
def rMk (C : Addr) (sp : Sp) (vs : List V) (H1 : Hp) (Q : VK) : Prop := ∀ x dx, H1 x = none → H1 dx = none → dx ≠ x →
  sp (.ref x :: vs) (upd (upd H1 dx (.own x)) x (.ins C dx [])) (fun v H2 => v = .non ∧ Q (.ref x) H2) E0
theorem g_mk {sp : Sp} (h : as σ H (fun vs H1 => rMk C sp vs H1 Q)) : tMk C sp as σ H Q := h
theorem g_rmk {sp : Sp} {vs : List V} (k : ∀ x dx H2, H x = none → H dx = none → dx ≠ x → Fr [] H H2 → H2 x = some (.ins C dx []) → H2 dx = some (.own x) → sp (.ref x :: vs) H2 (fun v H3 => v = .non ∧ Q (.ref x) H3) E0) : rMk C sp vs H Q := by
  intro x dx nx nd ne
  refine k x dx _ nx nd ne ?_ upd_same (by rw [upd_ne ne]; exact upd_same)
  have f1 : Fr [] H (upd H dx (.own x)) := Fr.new nd
  exact f1.then0 (Fr.new (by rw [upd_ne ne.symm]; exact nx))
end

/-! ### isinstance against a built-in class -/
theorem kb_NoneType_list : kitB "NoneType" "list" = some false := by decide +kernel
theorem kb_NoneType_tuple : kitB "NoneType" "tuple" = some false := by decide +kernel
theorem kb_NoneType_bool : kitB "NoneType" "bool" = some false := by decide +kernel
theorem kb_NoneType_int : kitB "NoneType" "int" = some false := by decide +kernel
theorem kb_NoneType_str : kitB "NoneType" "str" = some false := by decide +kernel
theorem kb_NoneType_dict : kitB "NoneType" "dict" = some false := by decide +kernel
theorem kb_bool_list : kitB "bool" "list" = some false := by decide +kernel
theorem kb_bool_tuple : kitB "bool" "tuple" = some false := by decide +kernel
theorem kb_bool_bool : kitB "bool" "bool" = some true := by decide +kernel
theorem kb_bool_int : kitB "bool" "int" = some true := by decide +kernel
theorem kb_bool_str : kitB "bool" "str" = some false := by decide +kernel
theorem kb_bool_dict : kitB "bool" "dict" = some false := by decide +kernel
theorem kb_int_list : kitB "int" "list" = some false := by decide +kernel
theorem kb_int_tuple : kitB "int" "tuple" = some false := by decide +kernel
theorem kb_int_bool : kitB "int" "bool" = some false := by decide +kernel
theorem kb_int_int : kitB "int" "int" = some true := by decide +kernel
theorem kb_int_str : kitB "int" "str" = some false := by decide +kernel
theorem kb_int_dict : kitB "int" "dict" = some false := by decide +kernel
theorem kb_str_list : kitB "str" "list" = some false := by decide +kernel
theorem kb_str_tuple : kitB "str" "tuple" = some false := by decide +kernel
theorem kb_str_bool : kitB "str" "bool" = some false := by decide +kernel
theorem kb_str_int : kitB "str" "int" = some false := by decide +kernel
theorem kb_str_str : kitB "str" "str" = some true := by decide +kernel
theorem kb_str_dict : kitB "str" "dict" = some false := by decide +kernel
theorem kb_list_list : kitB "list" "list" = some true := by decide +kernel
theorem kb_list_tuple : kitB "list" "tuple" = some false := by decide +kernel
theorem kb_list_bool : kitB "list" "bool" = some false := by decide +kernel
theorem kb_list_int : kitB "list" "int" = some false := by decide +kernel
theorem kb_list_str : kitB "list" "str" = some false := by decide +kernel
theorem kb_list_dict : kitB "list" "dict" = some false := by decide +kernel
theorem kb_tuple_list : kitB "tuple" "list" = some false := by decide +kernel
theorem kb_tuple_tuple : kitB "tuple" "tuple" = some true := by decide +kernel
theorem kb_tuple_bool : kitB "tuple" "bool" = some false := by decide +kernel
theorem kb_tuple_int : kitB "tuple" "int" = some false := by decide +kernel
theorem kb_tuple_str : kitB "tuple" "str" = some false := by decide +kernel
theorem kb_tuple_dict : kitB "tuple" "dict" = some false := by decide +kernel
theorem kb_dict_list : kitB "dict" "list" = some false := by decide +kernel
theorem kb_dict_tuple : kitB "dict" "tuple" = some false := by decide +kernel
theorem kb_dict_bool : kitB "dict" "bool" = some false := by decide +kernel
theorem kb_dict_int : kitB "dict" "int" = some false := by decide +kernel
theorem kb_dict_str : kitB "dict" "str" = some false := by decide +kernel
theorem kb_dict_dict : kitB "dict" "dict" = some true := by decide +kernel

theorem g_isi {K : PySem.W.Frag} {H : Hp} {Q : VK} {x : V} {a b : String} {r : Bool} (ty : TyX K H x (.type a)) (h : kitB a b = some r) (q : Q (.bl r) H) : rIsi K [x, .ty b] H Q := ⟨x, .ty b, .type a, .type b, r, rfl, .ty b, ty, kit_ty h, q⟩
/-! ### immutable and other data -/
mutual
inductive Da (H : Hp) : V → PyData → Prop
  | non : Da H .non .none
  | bl (b : Bool) : Da H (.bl b) (.bool b)
  | int (i : Int) : Da H (.int i) (.int i)
  | str (x : Str) : Da H (.str x) (.str x)
  | lst {a : Addr} {xs : List V} {ds : List PyData} : H a = some (.lst xs) → xs.length ≤ 1000000 → DaL H xs ds → Da H (.ref a) (.list ds)
  | tup {a : Addr} {xs : List V} {ds : List PyData} : H a = some (.tup xs) → xs.length ≤ 1000000 → DaL H xs ds → Da H (.ref a) (.tuple ds)
inductive DaL (H : Hp) : List V → List PyData → Prop
  | nil : DaL H [] []
  | cons {v : V} {vs : List V} {d : PyData} {ds : List PyData} : Da H v d → DaL H vs ds → DaL H (v :: vs) (d :: ds)
end
/-! how deep -/
mutual
def dp : PyData → Nat
  | .list ds => dpL ds + 1
  | .tuple ds => dpL ds + 1
  | _ => 0
def dpL : List PyData → Nat
  | [] => 0
  | d :: ds => max (dp d) (dpL ds)
end
/-! no list within -/
mutual
def imm : PyData → Bool
  | .list _ => false
  | .tuple ds => immL ds
  | _ => true
def immL : List PyData → Bool
  | [] => true
  | d :: ds => imm d && immL ds
end
theorem DaL.len {H : Hp} : ∀ {vs : List V} {ds : List PyData}, DaL H vs ds → vs.length = ds.length
  | _, _, .nil => rfl
  | _, _, .cons _ t => by rw [List.length_cons, List.length_cons, DaL.len t]
theorem DaL.get {H : Hp} : ∀ {vs : List V} {ds : List PyData} {i : Nat} {v : V}, DaL H vs ds → vs[i]? = some v → ∃ d, ds[i]? = some d ∧ Da H v d
  | _, _, _, _, .nil, e => by simp at e
  | _, _, 0, _, .cons r _, e => by simp at e; subst e; exact ⟨_, rfl, r⟩
  | _, _, i + 1, v, .cons _ t, e => by
    obtain ⟨u, h1, h2⟩ := DaL.get (i := i) (v := v) t (by simpa using e)
    exact ⟨u, by simpa using h1, h2⟩
theorem DaL.get' {H : Hp} : ∀ {vs : List V} {ds : List PyData} {i : Nat} {d : PyData}, DaL H vs ds → ds[i]? = some d → ∃ v, vs[i]? = some v ∧ Da H v d
  | _, _, _, _, .nil, e => by simp at e
  | _, _, 0, _, .cons r _, e => by simp at e; subst e; exact ⟨_, rfl, r⟩
  | _, _, i + 1, v, .cons _ t, e => by
    obtain ⟨u, h1, h2⟩ := DaL.get' (i := i) (d := v) t (by simpa using e)
    exact ⟨u, by simpa using h1, h2⟩
theorem DaL.append {H : Hp} : ∀ {vs ws : List V} {ds es : List PyData}, DaL H vs ds → DaL H ws es → DaL H (vs ++ ws) (ds ++ es)
  | _, _, _, _, .nil, s => s
  | _, _, _, _, .cons r t, s => .cons r (DaL.append t s)
theorem dpL_get : ∀ {ds : List PyData} {i : Nat} {d : PyData}, ds[i]? = some d → dp d ≤ dpL ds
  | [], _, _, e => by simp at e
  | a :: r, 0, d, e => by simp at e; subst e; exact Nat.le_max_left _ _
  | a :: r, i + 1, d, e => Nat.le_trans (dpL_get (ds := r) (i := i) (by simpa using e)) (Nat.le_max_right _ _)
mutual
theorem Da.fr {l : List Addr} {H H' : Hp} (f : Fr l H H') : ∀ (d : PyData) (v : V), Da H v d → imm d = true → Da H' v d
  | .none, _, h, _ => by cases h; exact .non
  | .bool b, _, h, _ => by cases h; exact .bl b
  | .int i, _, h, _ => by cases h; exact .int i
  | .str x, _, h, _ => by cases h; exact .str x
  | .list ds, _, _, i => by simp [imm] at i
  | .tuple ds, _, h, i => by
    cases h with
    | tup e z r => exact .tup (f.tup _ _ e) z (DaL.fr f ds _ r (by simpa [imm] using i))
  | .dict _, _, h, _ => by cases h
theorem DaL.fr {l : List Addr} {H H' : Hp} (f : Fr l H H') : ∀ (ds : List PyData) (vs : List V), DaL H vs ds → immL ds = true → DaL H' vs ds
  | [], _, h, _ => by cases h; exact .nil
  | d :: ds, _, h, i => by
    simp only [immL, Bool.and_eq_true] at i
    cases h with
    | cons r t => exact .cons (Da.fr f d _ r i.1) (DaL.fr f ds _ t i.2)
end
mutual
theorem Da.dp {K : PySem.W.Frag} {H : Hp} : ∀ (d : PyData) (v : V), Da H v d → Dp K H v d
  | .none, _, h => by cases h; exact .non
  | .bool b, _, h => by cases h; exact .bl b
  | .int i, _, h => by cases h; exact .int i
  | .str x, _, h => by cases h; exact .str x
  | .list ds, _, h => by
    cases h with
    | lst e _ r => exact .lst (SqL.of e) (DaL.dp ds _ r)
  | .tuple ds, _, h => by
    cases h with
    | tup e _ r => exact .tup (SqT.of e) (DaL.dp ds _ r)
  | .dict _, _, h => by cases h
theorem DaL.dp {K : PySem.W.Frag} {H : Hp} : ∀ (ds : List PyData) (vs : List V), DaL H vs ds → DpAll K H vs ds
  | [], _, h => by cases h; exact .nil
  | d :: ds, _, h => by
    cases h with
    | cons r t => exact .cons (Da.dp d _ r) (DaL.dp ds _ t)
end
theorem Da.frL {l : List Addr} {H H' : Hp} (f : Fr l H H') {d : PyData} {v : V} (h : Da H v d) (i : imm d = true) : Da H' v d := Da.fr f d v h i
theorem DaL.frL {l : List Addr} {H H' : Hp} (f : Fr l H H') {ds : List PyData} {vs : List V} (h : DaL H vs ds) (i : immL ds = true) : DaL H' vs ds := DaL.fr f ds vs h i
theorem immL_append : ∀ {ds es : List PyData}, immL (ds ++ es) = (immL ds && immL es)
  | [], _ => by simp [immL]
  | d :: ds, es => by simp [immL, immL_append (ds := ds), Bool.and_assoc]
theorem dpL_append : ∀ {ds es : List PyData}, dpL (ds ++ es) = max (dpL ds) (dpL es)
  | [], _ => by simp [dpL]
  | d :: ds, es => by simp [dpL, dpL_append (ds := ds), Nat.max_assoc]

/-! ### loops and comprehensions -/
section
variable {K : PySem.W.Frag} {σ : L2.St} {H H' : Hp} {Q : VK} {D : Ends} {te tl : TE} {tt : TT} {tb : TS} {g : TG} {wi : TI} {ta : TA} {a b : Addr} {xs ys : List V} {vs : List Nat} {J : It}
def ForGo (J : It) (g : TG) (tb : TS) (D : Ends) (σ : L2.St) (H1 : Hp) : Prop := ∃ W : Nat → Nat → L2.St → Hp → Prop, (∃ m, W 0 m σ H1) ∧ ∀ i m σ H, W i m σ H →
  (J.stop i H ∧ D.nx σ H) ∨ (J.go i H ∧ ∃ N : L2.St → Hp → Prop, (∀ σ' H', N σ' H' → ∃ m', m' < m ∧ W (i + 1) m' σ' H') ∧ ∀ x H', J.yld i H x H' → g x σ H' fun σ2 H2 => tb { D with nx := N, ct := N, bk := D.nx } σ2 H2)
theorem g_for (h : wi σ H (fun J H1 => ForGo J g tb D σ H1)) : tFor wi g tb D σ H := h
def LcGo (J : It) (g : TG) (tt : TT) (te : TE) (vs : List Nat) (σ : L2.St) (Q : VK) (H1 : Hp) : Prop := ∀ D, H1 D = none → ∃ W : Nat → Nat → Hp → Prop, (∃ m, W 0 m (upd H1 D (.lst []))) ∧ ∀ i m H, W i m H →
  (J.stop i H ∧ Q (.ref D) H) ∨ (J.go i H ∧ ∃ Nx : Hp → Prop, (∀ H', Nx H' → ∃ m', m' < m ∧ W (i + 1) m' H') ∧ ∀ x H', J.yld i H x H' → g x (wipe σ vs) H' fun σ2 H2 => wipe σ2 vs = wipe σ vs ∧ tt σ2 H2 fun b H3 =>
    if b = true then te σ2 H3 fun y H4 => ∃ acc, H4 D = some (.lst acc) ∧ acc.length < sizeLine ∧ Nx (upd H4 D (.lst (acc ++ [y]))) else Nx H3)
theorem g_lc (h : wi σ H (fun J H1 => LcGo J g tt te vs σ Q H1)) : tLc wi g tt te vs σ H Q := h
variable {R : It → Hp → Prop}
def rItL (K : PySem.W.Frag) (x : V) (H : Hp) (R : It → Hp → Prop) : Prop := ∃ a, x = .ref a ∧ (∃ xs, SqL K H a xs) ∧ R (Itl K a) H
def rItT (K : PySem.W.Frag) (x : V) (H : Hp) (R : It → Hp → Prop) : Prop := ∃ a, x = .ref a ∧ (∃ xs, SqT K H a xs) ∧ R (Itt K a) H
theorem g_iL (h : tl σ H (fun x H1 => rItL K x H1 R)) : iList K tl σ H R := h
theorem g_iT (h : tl σ H (fun x H1 => rItT K x H1 R)) : iTup K tl σ H R := h
theorem g_riL (hS : SqL K H a xs) (h : R (Itl K a) H) : rItL K (.ref a) H R := ⟨a, rfl, ⟨xs, hS⟩, h⟩
theorem g_riT (hS : SqT K H a xs) (h : R (Itt K a) H) : rItT K (.ref a) H R := ⟨a, rfl, ⟨xs, hS⟩, h⟩
def rIt1 (vs : List V) (H : Hp) (R : It → Hp → Prop) : Prop := ∃ j : Int, vs = [.int j] ∧ -(2 ^ 62) ≤ j ∧ j < 2 ^ 62 ∧ R (Itr 0 j.toNat) H
def rIt2 (vs : List V) (H : Hp) (R : It → Hp → Prop) : Prop := ∃ i j : Int, vs = [.int i, .int j] ∧ (-(2 ^ 62) ≤ i ∧ i < 2 ^ 62 ∧ -(2 ^ 62) ≤ j ∧ j < 2 ^ 62) ∧ R (Itr i (j - i).toNat) H
theorem g_i1 (h : ta σ H (fun vs H1 => rIt1 vs H1 R)) : iRng1 ta σ H R := h
theorem g_i2 (h : ta σ H (fun vs H1 => rIt2 vs H1 R)) : iRng2 ta σ H R := h
theorem g_ri1 {j : Int} (h1 : -(2 ^ 62) ≤ j ∧ j < 2 ^ 62) (h : R (Itr 0 j.toNat) H) : rIt1 [.int j] H R := ⟨j, rfl, h1.1, h1.2, h⟩
theorem g_ri2 {i j : Int} (h1 : -(2 ^ 62) ≤ i ∧ i < 2 ^ 62 ∧ -(2 ^ 62) ≤ j ∧ j < 2 ^ 62) (h : R (Itr i (j - i).toNat) H) : rIt2 [.int i, .int j] H R := ⟨i, j, rfl, h1, h⟩
/-- for over a list that stands -/
theorem f_list (Pv : Nat → L2.St → Hp → Prop) (h0 : Pv 0 σ H) (hl : ∀ i σ H, i ≤ xs.length → Pv i σ H → SqL K H a xs)
    (hs : ∀ i x σ H, xs[i]? = some x → Pv i σ H → g x σ H fun σ2 H2 => tb { D with nx := Pv (i + 1), ct := Pv (i + 1), bk := D.nx } σ2 H2) (hd : ∀ σ H, Pv xs.length σ H → D.nx σ H) : ForGo (Itl K a) g tb D σ H := for_list Pv h0 hl hs hd
theorem f_tup (Pv : Nat → L2.St → Hp → Prop) (h0 : Pv 0 σ H) (hl : ∀ i σ H, i ≤ xs.length → Pv i σ H → SqT K H a xs)
    (hs : ∀ i x σ H, xs[i]? = some x → Pv i σ H → g x σ H fun σ2 H2 => tb { D with nx := Pv (i + 1), ct := Pv (i + 1), bk := D.nx } σ2 H2) (hd : ∀ σ H, Pv xs.length σ H → D.nx σ H) : ForGo (Itt K a) g tb D σ H := for_tup Pv h0 hl hs hd
theorem f_range {lo : Int} {n : Nat} (Pv : Nat → L2.St → Hp → Prop) (h0 : Pv 0 σ H)
    (hs : ∀ i σ H, i < n → Pv i σ H → g (.int (lo + i)) σ H fun σ2 H2 => tb { D with nx := Pv (i + 1), ct := Pv (i + 1), bk := D.nx } σ2 H2) (hd : ∀ σ H, Pv n σ H → D.nx σ H) : ForGo (Itr lo n) g tb D σ H := for_range Pv h0 hs hd
/-! a comprehension: what its turn is to reach -/
def lcY (Dl : Addr) (Pv : Nat → List V → Hp → Prop) (i : Nat) (y : V) (H4 : Hp) : Prop := ∃ acc, H4 Dl = some (.lst acc) ∧ acc.length < sizeLine ∧ ∃ acc', upd H4 Dl (.lst (acc ++ [y])) Dl = some (.lst acc') ∧ Pv (i + 1) acc' (upd H4 Dl (.lst (acc ++ [y])))
def lcN (Dl : Addr) (Pv : Nat → List V → Hp → Prop) (i : Nat) (H3 : Hp) : Prop := ∃ acc, H3 Dl = some (.lst acc) ∧ Pv (i + 1) acc H3
theorem lcY_of {Dl : Addr} {Pv : Nat → List V → Hp → Prop} {i : Nat} {y : V} {acc : List V} (h : H Dl = some (.lst acc)) (hl : acc.length < sizeLine) (k : ∀ H5, Fr [Dl] H H5 → H5 Dl = some (.lst (acc ++ [y])) → Pv (i + 1) (acc ++ [y]) H5) : lcY Dl Pv i y H :=
  ⟨acc, h, hl, _, upd_same, k _ (Fr.put h trivial) upd_same⟩
theorem lcN_of {Dl : Addr} {Pv : Nat → List V → Hp → Prop} {i : Nat} {acc : List V} (h : H Dl = some (.lst acc)) (k : Pv (i + 1) acc H) : lcN Dl Pv i H := ⟨acc, h, k⟩
abbrev lcStep (g : TG) (tt : TT) (te : TE) (vs : List Nat) (σ : L2.St) (Dl : Addr) (Pv : Nat → List V → Hp → Prop) (i : Nat) (x : V) (H' : Hp) : Prop :=
  g x (wipe σ vs) H' fun σ2 H2 => wipe σ2 vs = wipe σ vs ∧ tt σ2 H2 fun b H3 => if b = true then te σ2 H3 fun y H4 => lcY Dl Pv i y H4 else lcN Dl Pv i H3
theorem l_list (k : ∀ Dl H0, H Dl = none → Fr [] H H0 → H0 Dl = some (.lst []) → ∃ Pv : Nat → List V → Hp → Prop, Pv 0 [] H0 ∧ (∀ i acc H', Pv i acc H' → SqL K H' a xs) ∧
    (∀ i x acc H', xs[i]? = some x → H' Dl = some (.lst acc) → Pv i acc H' → lcStep g tt te vs σ Dl Pv i x H') ∧ (∀ acc H', H' Dl = some (.lst acc) → Pv xs.length acc H' → Q (.ref Dl) H')) : LcGo (Itl K a) g tt te vs σ Q H := by
  intro Dl hD
  obtain ⟨Pv, p0, pl, ps, pd⟩ := k Dl _ hD (Fr.new hD) upd_same
  exact lc_list (fun i H' => ∃ acc, H' Dl = some (.lst acc) ∧ Pv i acc H') ⟨[], upd_same, p0⟩ (fun i H' _ ⟨acc, _, p⟩ => pl i acc H' p) (fun i x H' hx ⟨acc, hd, p⟩ => ps i x acc H' hx hd p) (fun H' ⟨acc, hd, p⟩ => pd acc H' hd p)
theorem l_tup (k : ∀ Dl H0, H Dl = none → Fr [] H H0 → H0 Dl = some (.lst []) → ∃ Pv : Nat → List V → Hp → Prop, Pv 0 [] H0 ∧ (∀ i acc H', Pv i acc H' → SqT K H' a xs) ∧
    (∀ i x acc H', xs[i]? = some x → H' Dl = some (.lst acc) → Pv i acc H' → lcStep g tt te vs σ Dl Pv i x H') ∧ (∀ acc H', H' Dl = some (.lst acc) → Pv xs.length acc H' → Q (.ref Dl) H')) : LcGo (Itt K a) g tt te vs σ Q H := by
  intro Dl hD
  obtain ⟨Pv, p0, pl, ps, pd⟩ := k Dl _ hD (Fr.new hD) upd_same
  exact lc_tup (fun i H' => ∃ acc, H' Dl = some (.lst acc) ∧ Pv i acc H') ⟨[], upd_same, p0⟩ (fun i H' _ ⟨acc, _, p⟩ => pl i acc H' p) (fun i x H' hx ⟨acc, hd, p⟩ => ps i x acc H' hx hd p) (fun H' ⟨acc, hd, p⟩ => pd acc H' hd p)
theorem l_range {lo : Int} {n : Nat} (k : ∀ Dl H0, H Dl = none → Fr [] H H0 → H0 Dl = some (.lst []) → ∃ Pv : Nat → List V → Hp → Prop, Pv 0 [] H0 ∧
    (∀ i acc H', i < n → H' Dl = some (.lst acc) → Pv i acc H' → lcStep g tt te vs σ Dl Pv i (.int (lo + i)) H') ∧ (∀ acc H', H' Dl = some (.lst acc) → Pv n acc H' → Q (.ref Dl) H')) : LcGo (Itr lo n) g tt te vs σ Q H := by
  intro Dl hD
  obtain ⟨Pv, p0, ps, pd⟩ := k Dl _ hD (Fr.new hD) upd_same
  exact lc_range (fun i H' => ∃ acc, H' Dl = some (.lst acc) ∧ Pv i acc H') ⟨[], upd_same, p0⟩ (fun i H' hi ⟨acc, hd, p⟩ => ps i acc H' hi hd p) (fun H' ⟨acc, hd, p⟩ => pd acc H' hd p)
theorem g_and2 {A B : Prop} (a : A) (b : B) : A ∧ B := ⟨a, b⟩
theorem g_yes {QB : Bool → Hp → Prop} (h : QB true H) : tYes σ H QB := h
/-- a name's slot, ahead of a known one -/
theorem g_tr {x : V} {k : Bool} {QB : Bool → Hp → Prop} (h : TruV K x H k) (q : QB k H) : ∃ k, TruV K x H k ∧ QB k H := ⟨k, h, q⟩
theorem g_ttr {QB : Bool → Hp → Prop} (h : te σ H (fun x H' => ∃ k, TruV K x H' k ∧ QB k H')) : tTr K te σ H QB := h
end
theorem szM {n : Nat} (h : n ≤ 1000000) : n < sizeLine := Nat.lt_of_le_of_lt h (by decide)
theorem szL {n : Nat} (h : n ≤ 1000000) : n ≤ sizeLine := Nat.le_of_lt (szM h)
theorem getI {ns : List Int} {i : Nat} {x : V} (h : (ns.map V.int)[i]? = some x) : ∃ n, x = .int n ∧ ns[i]? = some n ∧ n ∈ ns := by
  rw [List.getElem?_map] at h
  cases e : ns[i]? with
  | none => rw [e] at h; cases h
  | some n => rw [e] at h; exact ⟨n, (Option.some.inj h).symm, rfl, List.mem_of_getElem? e⟩
theorem atI_of {α : Type} {xs : List α} {z : Int} (h0 : 0 ≤ z) (h : z < xs.length) : ∃ v, atI xs z = some v ∧ xs[z.toNat]? = some v := by
  have hk : z.toNat < xs.length := by omega
  have e : ((z.toNat : Nat) : Int) = z := by omega
  have q : xs[z.toNat]? = some xs[z.toNat] := List.getElem?_eq_getElem hk
  have w := atI_nat q
  rw [e] at w
  exact ⟨_, w, q⟩
theorem atI_mem {α : Type} {xs : List α} {z : Int} (h0 : 0 ≤ z) (h : z < xs.length) : ∃ v, atI xs z = some v ∧ v ∈ xs := by
  obtain ⟨v, a, b⟩ := atI_of h0 h
  exact ⟨v, a, List.mem_of_getElem? b⟩
theorem take_more {α : Type} : ∀ {l : List α} {i : Nat} {x : α}, l[i]? = some x → l.take (i + 1) = l.take i ++ [x]
  | [], i, x, h => by simp at h
  | a :: l, 0, x, h => by
    have e : a = x := Option.some.inj h
    subst e
    rfl
  | a :: l, i + 1, x, h => by
    have ih := take_more (l := l) (i := i) (x := x) h
    show a :: l.take (i + 1) = a :: l.take i ++ [x]
    rw [ih]
    rfl
theorem filter_more {α : Type} {l : List α} {i : Nat} {x : α} {f : α → Bool} (h : l[i]? = some x) : (l.take (i + 1)).filter f = (l.take i).filter f ++ (if f x = true then [x] else []) := by
  rw [take_more h, List.filter_append]
  congr 1
  by_cases q : f x = true
  · simp [q]
  · simp [q]
theorem Da.tup1 {H : Hp} {v : V} {ds : List PyData} (h : Da H v (.tuple ds)) : ∃ a xs, v = .ref a ∧ H a = some (.tup xs) ∧ xs.length ≤ 1000000 ∧ DaL H xs ds := by
  cases h with
  | tup e z r => exact ⟨_, _, rfl, e, z, r⟩
theorem Da.lst1 {H : Hp} {v : V} {ds : List PyData} (h : Da H v (.list ds)) : ∃ a xs, v = .ref a ∧ H a = some (.lst xs) ∧ xs.length ≤ 1000000 ∧ DaL H xs ds := by
  cases h with
  | lst e z r => exact ⟨_, _, rfl, e, z, r⟩
theorem DaL.two {H : Hp} {xs : List V} {d e : PyData} (h : DaL H xs [d, e]) : ∃ x y, xs = [x, y] ∧ Da H x d ∧ Da H y e := by
  cases h with
  | cons a t => cases t with
    | cons b u => cases u; exact ⟨_, _, rfl, a, b⟩
theorem DaL.three {H : Hp} {xs : List V} {d e f : PyData} (h : DaL H xs [d, e, f]) : ∃ x y z, xs = [x, y, z] ∧ Da H x d ∧ Da H y e ∧ Da H z f := by
  cases h with
  | cons a t => cases t with
    | cons b u => cases u with
      | cons c u => cases u; exact ⟨_, _, _, rfl, a, b, c⟩
theorem Da.int1 {H : Hp} {v : V} {i : Int} (h : Da H v (.int i)) : v = .int i := by cases h; rfl
theorem Da.str1 {H : Hp} {v : V} {i : Str} (h : Da H v (.str i)) : v = .str i := by cases h; rfl
theorem Da.bl1 {H : Hp} {v : V} {i : Bool} (h : Da H v (.bool i)) : v = .bl i := by cases h; rfl
theorem Da.non1 {H : Hp} {v : V} (h : Da H v .none) : v = .non := by cases h; rfl
theorem DaL.one' {H : Hp} {v : V} {d : PyData} (h : Da H v d) : DaL H [v] [d] := .cons h .nil
theorem immL_get : ∀ {ds : List PyData} {i : Nat} {d : PyData}, immL ds = true → ds[i]? = some d → imm d = true
  | [], _, _, _, e => by simp at e
  | a :: r, 0, d, h, e => by simp at e; subst e; simp [immL] at h; exact h.1
  | a :: r, i + 1, d, h, e => by simp [immL] at h; exact immL_get (ds := r) (i := i) h.2 (by simpa using e)
theorem immL_of : ∀ {ds : List PyData}, (∀ d ∈ ds, imm d = true) → immL ds = true
  | [], _ => rfl
  | a :: r, h => by simp [immL, h a List.mem_cons_self, immL_of (ds := r) fun d hd => h d (List.mem_cons_of_mem _ hd)]
theorem imm_of : ∀ {ds : List PyData}, immL ds = true → ∀ d ∈ ds, imm d = true
  | [], _, d, hd => by cases hd
  | a :: r, h, d, hd => by
    simp only [immL, Bool.and_eq_true] at h
    rcases List.mem_cons.mp hd with e | e
    · rw [e]; exact h.1
    · exact imm_of h.2 d e
theorem dpL_mem : ∀ {ds : List PyData} {d : PyData}, d ∈ ds → dp d ≤ dpL ds
  | [], _, h => by cases h
  | a :: r, d, h => by
    rcases List.mem_cons.mp h with e | e
    · rw [e]; exact Nat.le_max_left _ _
    · exact Nat.le_trans (dpL_mem e) (Nat.le_max_right _ _)
theorem dpL_le {n : Nat} : ∀ {ds : List PyData}, (∀ d ∈ ds, dp d ≤ n) → dpL ds ≤ n
  | [], _ => Nat.zero_le _
  | a :: r, h => Nat.max_le.mpr ⟨h a List.mem_cons_self, dpL_le fun d hd => h d (List.mem_cons_of_mem _ hd)⟩
theorem DaL.ints {H : Hp} : ∀ {xs : List V} {r : List Int}, DaL H xs (r.map .int) → xs = r.map V.int
  | [], [], _ => rfl
  | x :: xs, n :: r, h => by
    cases h with
    | cons a t => rw [a.int1, DaL.ints t]; rfl
  | [], _ :: _, h => by cases h
  | _ :: _, [], h => by cases h
theorem DaL.ofInts {H : Hp} : ∀ (r : List Int), DaL H (r.map V.int) (r.map .int)
  | [] => .nil
  | n :: r => .cons (.int n) (DaL.ofInts r)
theorem DaL.set {H : Hp} : ∀ {vs : List V} {ds : List PyData} {i : Nat} {v : V} {d : PyData}, DaL H vs ds → Da H v d → DaL H (vs.set i v) (ds.set i d)
  | _, _, _, _, _, .nil, _ => .nil
  | _, _, 0, _, _, .cons _ t, q => .cons q t
  | _, _, i + 1, _, _, .cons r t, q => .cons r (DaL.set (i := i) t q)
/-! slices, pop at -/
section
variable {K : PySem.W.Frag} {σ : L2.St} {H H' : Hp} {Q : VK} {te : TE} {tl th : TO} {p : Addr} {xs : List V} {lo hi : Option Int}
theorem g_sl {r : V → Option Int → Option Int → Hp → VK → Prop} (h : te σ H fun x H1 => tl σ H1 fun l H2 => th σ H2 fun u H3 => r x l u H3 Q) : tSl r te tl th σ H Q := h
theorem g_noP {QO : Option Int → Hp → Prop} (h : QO none H) : tNoPart σ H QO := h
def rPart (x : V) (H : Hp) (QO : Option Int → Hp → Prop) : Prop := ∃ i, x = .int i ∧ QO (some i) H
theorem g_part {QO : Option Int → Hp → Prop} (h : te σ H fun x H1 => rPart x H1 QO) : tPart te σ H QO := h
theorem g_rpart {i : Int} {QO : Option Int → Hp → Prop} (h : QO (some i) H) : rPart (.int i) H QO := ⟨i, rfl, h⟩
theorem g_slL (h : SqL K H p xs) (q : ∀ l H', H l = none → Fr [] H H' → H' l = some (.lst (cutV xs lo hi)) → Q (.ref l) H') : rSlL K (.ref p) lo hi H Q := ⟨p, xs, rfl, h, fun l hl => q l _ hl (Fr.new hl) upd_same⟩
theorem g_popAt {i : Int} {y : V} (h : H p = some (.lst xs)) (hl : xs.length ≤ 1000000) (h0 : 0 ≤ i) (hy : xs[i.toNat]? = some y) (q : ∀ H', Fr [p] H H' → H' p = some (.lst (xs.eraseIdx i.toNat)) → Q y H') : rPopAt (.ref p) [.int i] H Q := by
  have hlt := (List.getElem?_eq_some_iff.mp hy).1
  refine ⟨p, xs, i, i.toNat, y, rfl, rfl, h, by omega, by omega, ?_, hy, q _ (Fr.put h trivial) upd_same⟩
  refine (ixN_seq (i := i) ?_).1
  unfold ixN
  rw [if_pos h0, if_pos (by omega)]
end
theorem cut_take {xs : List V} {n : Nat} (h : n ≤ xs.length) : cutV xs none (some (n : Int)) = xs.take n := by
  unfold cutV
  rw [HT.sIx_none, HT.sIx_nat, Nat.min_eq_left h, Nat.sub_zero, List.drop_zero]
theorem DaL.take {H : Hp} : ∀ {xs : List V} {ds : List PyData} (n : Nat), DaL H xs ds → DaL H (xs.take n) (ds.take n)
  | _, _, 0, _ => .nil
  | _, _, n + 1, .nil => .nil
  | _, _, n + 1, .cons a t => .cons a (DaL.take n t)
theorem DaL.erase {H : Hp} : ∀ {xs : List V} {ds : List PyData} (n : Nat), DaL H xs ds → DaL H (xs.eraseIdx n) (ds.eraseIdx n)
  | _, _, _, .nil => .nil
  | _, _, 0, .cons _ t => t
  | _, _, n + 1, .cons a t => .cons a (DaL.erase n t)
end Lw

namespace Toy
open PySem L2 Lw

/-! ### the steps as one word each -/
local macro_rules | `(tactic| walk_at "ne") => `(tactic| first
  | assumption | exact Ne.symm (by assumption)
  | ((refine' ne_of_none ?h (by assumption)); (first | (case h => walk_at "fact") | fail))
  | ((refine' Ne.symm (ne_of_none ?h (by assumption))); (first | (case h => walk_at "fact") | fail))
  | walk_at "ne2")
local macro_rules | `(tactic| walk_at "nin") => `(tactic| first | exact nin0 | (refine nin1 ?_ ?_; walk_at "ne"; walk_at "nin") | assumption)
local macro_rules | `(tactic| walk_at "fact") => `(tactic| first
  | assumption
  | ((refine' Fr.tupAt (by assumption) ?h); (first | (case h => walk_at "fact") | fail))
  | ((refine' Fr.at0 (by assumption) ?h); (first | (case h => walk_at "fact") | fail))
  | ((refine' Fr.at (by assumption) ?h ?k); (first | (case h => walk_at "fact") | fail); (first | (case k => walk_at "nin") | fail)))
local macro_rules | `(tactic| walk_at "none") => `(tactic| first
  | assumption
  | ((refine' Fr.freeL (by assumption) ?h ?k); (first | (case h => walk_at "none") | fail); (first | (case k => walk_at "nin") | fail)))
local macro_rules | `(tactic| walk_at "mem") => `(tactic| first
  | assumption | exact List.mem_cons_self
  | (refine List.mem_cons_of_mem _ ?_; walk_at "mem"))
local macro_rules | `(tactic| walk_at "frn") => `(tactic| first
  | exact frn0
  | (refine frn1 ?_ ?_; (first | exact Or.inl (by walk_at "mem") | exact Or.inr (by walk_at "none")); walk_at "frn"))
local macro_rules | `(tactic| walk_at "fr") => `(tactic| first
  | assumption
  | exact Fr.refl
  | ((refine' Fr.own ?h (by assumption) ?k); (first | (case h => walk_at "fr") | fail); (first | (case k => walk_at "frn") | fail))
  | (refine Fr.of0 ?_; walk_at "fr"))
local macro_rules | `(tactic| walk_at "sz") => `(tactic| first | exact szM (by omega) | exact szM (by simp only [List.length_map, List.length_append, List.length_cons, List.length_nil]; omega))
local macro_rules | `(tactic| walk_at "sql") => `(tactic| first
  | assumption
  | exact SqL.of (by walk_at "fact")
  | ((refine' Fr.sql (by assumption) ?h ?k); (first | (case h => walk_at "sql") | fail); (first | (case k => walk_at "nin") | fail)))
local macro_rules | `(tactic| walk_at "sqt") => `(tactic| first
  | assumption
  | exact SqT.of (by walk_at "fact"))
local macro_rules | `(tactic| walk_at "ty") => `(tactic| first
  | assumption
  | exact TyX.base TyOf.non
  | exact TyX.base (TyOf.int _)
  | exact TyX.base (TyOf.bl _)
  | exact TyX.base (TyOf.str _)
  | exact TyX.base (TyOf.lst (by walk_at "fact"))
  | exact TyX.base (TyOf.tup (by walk_at "fact"))
  | exact TyX.base (TyOf.dK (by walk_at "fact"))
  | exact TyX.base (TyOf.dT (by walk_at "fact")))
local macro_rules | `(tactic| walk_at "kb") => `(tactic| first | exact kb_NoneType_list | exact kb_NoneType_tuple | exact kb_NoneType_bool | exact kb_NoneType_int | exact kb_NoneType_str | exact kb_NoneType_dict | exact kb_bool_list | exact kb_bool_tuple | exact kb_bool_bool | exact kb_bool_int | exact kb_bool_str | exact kb_bool_dict | exact kb_int_list | exact kb_int_tuple | exact kb_int_bool | exact kb_int_int | exact kb_int_str | exact kb_int_dict | exact kb_str_list | exact kb_str_tuple | exact kb_str_bool | exact kb_str_int | exact kb_str_str | exact kb_str_dict | exact kb_list_list | exact kb_list_tuple | exact kb_list_bool | exact kb_list_int | exact kb_list_str | exact kb_list_dict | exact kb_tuple_list | exact kb_tuple_tuple | exact kb_tuple_bool | exact kb_tuple_int | exact kb_tuple_str | exact kb_tuple_dict | exact kb_dict_list | exact kb_dict_tuple | exact kb_dict_bool | exact kb_dict_int | exact kb_dict_str | exact kb_dict_dict)
local macro_rules | `(tactic| walk_at "new") => `(tactic| intro _ _ _ _ _)
local macro_rules | `(tactic| walk_at "go1") => `(tactic| first
  | with_reducible refine g_seq ?_
  | with_reducible refine g_asg ?_
  | with_reducible refine g_name ?_
  | with_reducible refine g_drop ?_
  | with_reducible refine g_ret ?_
  | with_reducible refine g_for ?_
  | with_reducible refine g_lc ?_
  | with_reducible refine g_iL ?_
  | with_reducible refine g_iT ?_
  | with_reducible refine g_i1 ?_
  | with_reducible refine g_i2 ?_
  | with_reducible refine g_yes ?_
  | with_reducible refine g_ttr ?_
  | ((with_reducible refine' g_riL ?h ?_); (first | (case h => walk_at "sql") | fail))
  | ((with_reducible refine' g_riT ?h ?_); (first | (case h => walk_at "sqt") | fail))
  | ((with_reducible refine' g_ri1 ?h ?_); (first | (case h => (first | exact ⟨by decide, by decide⟩ | exact ⟨by omega, by omega⟩ | exact ⟨by simp only [List.length_map]; omega, by simp only [List.length_map]; omega⟩)) | fail))
  | ((with_reducible refine' g_ri2 ?h ?_); (first | (case h => (first | exact ⟨by decide, by decide, by decide, by decide⟩ | exact ⟨by omega, by omega, by omega, by omega⟩)) | fail))
  | with_reducible refine g_retN ?_
  | with_reducible refine g_next ?_
  | with_reducible refine g_cont ?_
  | with_reducible refine g_brk ?_
  | with_reducible refine g_ifs ?_
  | with_reducible refine g_test ?_
  | with_reducible refine g_tb ?_
  | with_reducible refine g_and ?_
  | with_reducible refine g_or ?_
  | with_reducible refine g_not ?_
  | with_reducible refine g_andV ?_
  | with_reducible refine g_orV ?_
  | with_reducible refine g_notV ?_
  | with_reducible refine g_ifE ?_
  | ((with_reducible refine' g_var ?h ?_); (first | (case h => exact rfl) | fail))
  | with_reducible refine g_c ?_
  | with_reducible refine g_op ?_
  | with_reducible refine g_cb ?_
  | with_reducible refine g_cl ?_
  | with_reducible refine g_nil ?_
  | with_reducible refine g_cons ?_
  | with_reducible refine g_tup ?_
  | with_reducible refine g_lst ?_
  | with_reducible refine g_fld ?_
  | with_reducible refine g_sfld ?_
  | with_reducible refine g_sub1 ?_
  | with_reducible refine g_flda ?_
  | with_reducible refine g_rAdd ?_
  | with_reducible refine g_rSub ?_
  | ((with_reducible refine' g_rfldb ?h ?l ?e ?_); (first | (case h => walk_at "fact") | fail); (first | (case l => exact Nat.le_of_ble_eq_true rfl) | fail); (first | (case e => exact rfl) | fail); intro _ _ _)
  | with_reducible refine g_mt ?_
  | with_reducible refine g_mk ?_
  | ((with_reducible refine g_rmk ?_); intro _ _ _ _ _ _ _ _ _)
  | with_reducible refine g_bm ?_
  | with_reducible refine g_bm0 ?_
  | with_reducible refine g_bl ?_
  | with_reducible refine g_add ?_
  | with_reducible refine g_sub ?_
  | with_reducible refine g_lt ?_
  | with_reducible refine g_le ?_
  | with_reducible refine g_gt ?_
  | with_reducible refine g_ge ?_
  | with_reducible refine g_eqI ?_
  | with_reducible refine g_neI ?_
  | with_reducible refine g_eqS ?_
  | with_reducible refine g_neS ?_
  | with_reducible refine g_eqB ?_
  | with_reducible refine g_isN ?_
  | with_reducible refine g_notN ?_
  | with_reducible refine g_max2 ?_
  | with_reducible refine g_min2 ?_
  | with_reducible refine g_ipI ?_
  | with_reducible refine g_iteT ?_
  | with_reducible refine g_iteF ?_
  | with_reducible refine g_iteNT ?_
  | with_reducible refine g_iteNF ?_
  | ((with_reducible refine' g_aug ?h ?_); (first | (case h => exact rfl) | fail))
  | ((with_reducible refine' g_mod ?h ?_); (first | (case h => (first | decide | omega | assumption | (simp only [List.length_map]; omega))) | fail))
  | ((with_reducible refine' g_div ?h ?_); (first | (case h => (first | exact ⟨by decide, by decide⟩ | assumption)) | fail))
  | ((with_reducible refine' g_pow ?h ?_); (first | (case h => (first | exact ⟨by decide, by decide, by decide⟩ | assumption)) | fail))
  | ((with_reducible refine' g_mul ?h ?_); (first | (case h => (first | exact Or.inr ⟨by decide, by decide⟩ | exact Or.inl ⟨by decide, by decide⟩ | exact Or.inr ⟨by omega, by omega⟩ | exact Or.inl ⟨by omega, by omega⟩ | assumption)) | fail))
  | ((with_reducible refine' g_newT ?h ?_); (first | (case h => exact Nat.le_of_ble_eq_true rfl) | fail); walk_at "new")
  | ((with_reducible refine' g_newL ?h ?_); (first | (case h => exact Nat.le_of_ble_eq_true rfl) | fail); walk_at "new")
  | ((with_reducible refine' g_lenL ?h ?_); (first | (case h => walk_at "sql") | fail))
  | ((with_reducible refine' g_lenT ?h ?_); (first | (case h => walk_at "sqt") | fail))
  | ((with_reducible refine' g_ixL ?h ?k ?_); (first | (case h => walk_at "sql") | fail); (first | (case k => exact rfl) | fail))
  | ((with_reducible refine' g_ixT ?h ?k ?_); (first | (case h => walk_at "sqt") | fail); (first | (case k => exact rfl) | fail))
  | ((with_reducible refine' g_listL ?h ?_); (first | (case h => walk_at "sql") | fail); walk_at "new")
  | ((with_reducible refine' g_listT ?h ?_); (first | (case h => walk_at "sqt") | fail); walk_at "new")
  | ((with_reducible refine' g_tupL ?h ?_); (first | (case h => walk_at "sql") | fail); walk_at "new")
  | ((with_reducible refine' g_bmL ?h ?_); (first | (case h => walk_at "fact") | fail))
  | ((with_reducible refine' g_isi ?h ?k ?_); (first | (case h => walk_at "ty") | fail); (first | (case k => walk_at "kb") | fail))
  | ((with_reducible refine' g_append ?h ?l ?_); (first | (case h => walk_at "fact") | fail); (first | (case l => walk_at "sz") | fail); intro _ _ _)
  | ((with_reducible refine' g_rmt ?h ?l ?_); (first | (case h => walk_at "fact") | fail); (first | (case l => exact rfl) | fail))
  | with_reducible refine g_sl ?_
  | with_reducible refine g_noP ?_
  | with_reducible refine g_part ?_
  | with_reducible refine g_rpart ?_
  | ((with_reducible refine' g_slL ?h ?_); (first | (case h => walk_at "sql") | fail); walk_at "new")
  | walk_at "go2"
  | walk_at "go3"
  | walk_at "own")
local macro_rules | `(tactic| walk_at "go") => `(tactic| repeat walk_at "go1")

def top (i : Nat) : Stmt := PySem.Challenge.pw_manydoors_k08_whole_wires_lose_nothing.main.body.getD i (.Pass ⟨0, 0, 0, 0⟩)
abbrev s_Wire_init : Stmt := inClass (top 1) 0
abbrev s_Wire_send : Stmt := inClass (top 1) 1
abbrev s_Wire_take : Stmt := inClass (top 1) 2
abbrev s_Wire_acknowledged : Stmt := inClass (top 1) 3
abbrev s_Lmixed : Stmt := top 3
abbrev s_Lnumbers : Stmt := top 4
abbrev s_Ldraw : Stmt := top 5
abbrev s_Lequal : Stmt := top 6
abbrev s_Lall_equal : Stmt := top 7
abbrev s_Lticked : Stmt := top 8
abbrev s_Ldelivered : Stmt := top 9
abbrev s_law : Stmt := top 10
/-- where the classes stand -/
structure Ad where
  Wire : Addr
structure Txt (K : PySem.W.Frag) (mg : Str → Option Value) (A : Ad) : Prop where
  b_range : mg "range" = none
  b_len : mg "len" = none
  b_isinstance : mg "isinstance" = none
  b_list : mg "list" = none
  b_tuple : mg "tuple" = none
  b_bool : mg "bool" = none
  b_int : mg "int" = none
  b_str : mg "str" = none
  b_max : mg "max" = none
  cl_Wire : Cls K A.Wire
  no_Wire_sent : NoAttr K A.Wire "sent"
  no_Wire_outbox : NoAttr K A.Wire "outbox"
  no_Wire_expected : NoAttr K A.Wire "expected"
def F_Wire (sent : Int) (outbox : Addr) (expected : Int) : List (Str × V) := [("sent", .int sent), ("outbox", .ref outbox), ("expected", .int expected)]
def spLaw (K : PySem.W.Frag) : Sp := fun vs H Q _ => ∃ x0, vs = [x0] ∧ ∃ (a : Addr) (ns : List Int), x0 = .ref a ∧ SqL K H a (ns.map V.int) ∧ ns.length ≤ 63 ∧ ∀ H', Q (.bl true) H'
local macro_rules | `(tactic| walk_at "own") => `(tactic| first
  | ((with_reducible refine' g_rfld (f := "sent") (C := Ad.Wire _) ?h (Txt.cl_Wire (by assumption)) (Txt.no_Wire_sent (by assumption)) ?l ?_); (case h => walk_at "fact"); (case l => exact rfl))
  | ((with_reducible refine' g_rflds (f := "sent") (C := Ad.Wire _) ?h (Txt.cl_Wire (by assumption)) (Txt.no_Wire_sent (by assumption)) ?l ?e ?_); (case h => walk_at "fact"); (case l => exact Nat.le_of_ble_eq_true rfl); (case e => exact rfl); intro _ _ _)
  | ((with_reducible refine' g_rflda (f := "sent") (C := Ad.Wire _) ?h (Txt.cl_Wire (by assumption)) (Txt.no_Wire_sent (by assumption)) ?l ?_); (case h => walk_at "fact"); (case l => exact rfl))
  | ((with_reducible refine' g_rfld (f := "outbox") (C := Ad.Wire _) ?h (Txt.cl_Wire (by assumption)) (Txt.no_Wire_outbox (by assumption)) ?l ?_); (case h => walk_at "fact"); (case l => exact rfl))
  | ((with_reducible refine' g_rflds (f := "outbox") (C := Ad.Wire _) ?h (Txt.cl_Wire (by assumption)) (Txt.no_Wire_outbox (by assumption)) ?l ?e ?_); (case h => walk_at "fact"); (case l => exact Nat.le_of_ble_eq_true rfl); (case e => exact rfl); intro _ _ _)
  | ((with_reducible refine' g_rflda (f := "outbox") (C := Ad.Wire _) ?h (Txt.cl_Wire (by assumption)) (Txt.no_Wire_outbox (by assumption)) ?l ?_); (case h => walk_at "fact"); (case l => exact rfl))
  | ((with_reducible refine' g_rfld (f := "expected") (C := Ad.Wire _) ?h (Txt.cl_Wire (by assumption)) (Txt.no_Wire_expected (by assumption)) ?l ?_); (case h => walk_at "fact"); (case l => exact rfl))
  | ((with_reducible refine' g_rflds (f := "expected") (C := Ad.Wire _) ?h (Txt.cl_Wire (by assumption)) (Txt.no_Wire_expected (by assumption)) ?l ?e ?_); (case h => walk_at "fact"); (case l => exact Nat.le_of_ble_eq_true rfl); (case e => exact rfl); intro _ _ _)
  | ((with_reducible refine' g_rflda (f := "expected") (C := Ad.Wire _) ?h (Txt.cl_Wire (by assumption)) (Txt.no_Wire_expected (by assumption)) ?l ?_); (case h => walk_at "fact"); (case l => exact rfl)))
section
variable {P : Program} {w : World} {K : PySem.W.Frag} {mg : Str → Option Value} {base : Heap} {A : Ad}
def P_Lmixed (K : PySem.W.Frag) (A : Ad) (x0 x1 : V) (H : Hp) (Q : VK) : Prop := ∃ a b : Int, x0 = .int a ∧ x1 = .int b ∧ ∀ n : Int, 0 ≤ n → n < 2147483647 → Q (.int n) H
def sp_Lmixed (K : PySem.W.Frag) (A : Ad) : Sp := fun vs H Q _ => ∃ x0 x1, vs = [x0, x1] ∧ P_Lmixed K A x0 x1 H Q
theorem c_Lmixed {K : PySem.W.Frag} {A : Ad} {x0 x1 : V} {H : Hp} {Q : VK} {E : XK} (h : P_Lmixed K A x0 x1 H Q) : sp_Lmixed K A [x0, x1] H Q E := ⟨_, _, rfl, h⟩
theorem sc_Lmixed : FnScope ["_law_number", "_law_k", "_law_step"] ["_law_number", "_law_k"] (defScope s_Lmixed) := ⟨rfl, rfl, rfl, by decide +kernel, rfl, by decide +kernel, by decide +kernel⟩
def t_Lmixed (K : PySem.W.Frag) (A : Ad) : TS :=
  (tSeq (tAsg (tOp oMod (tOp oAdd (tOp oAdd (tOp oMul (tVar 0) (tC (.int 48271))) (tOp oMul (tVar 1) (tC (.int 69621)))) (tC (.int 12345))) (tC (.int 2147483647))) (gName 2))
    (tRet (tOp oMod (tOp oAdd (tOp oMul (tVar 2) (tOp oAdd (tOp oDiv (tVar 2) (tC (.int 65536))) (tC (.int 3)))) (tVar 1)) (tC (.int 2147483647)))))
theorem pu_Lmixed (T : Txt K mg A) {x0 x1 : V} {H : Hp} {Q : VK} (h : P_Lmixed K A x0 x1 H Q) : t_Lmixed K A { nx := fun _ H' => Q .non H', rt := Q } [some x0, some x1, none] H := by
  obtain ⟨a, b, rfl, rfl, k⟩ := h
  unfold t_Lmixed
  walk_at "go"
  exact k _ (Int.emod_nonneg _ (by decide)) (Int.emod_lt_of_pos _ (by decide))
theorem ok_Lmixed {f : Addr} {fd : FuncData} (F : Fun K "_law_mixed" "_law_mixed" s_Lmixed f fd) (T : Txt K mg A)  : FnOk P w K mg base CX0 (1) f fd ["_law_number", "_law_k"] (sp_Lmixed K A) := by
  refine F.ok sc_Lmixed (fun vs H Q E h => ?_) (fun cdv Ar outer s H vs Q E hr h => ⟨t_Lmixed K A, ?_, ?_⟩)
  · obtain ⟨x0, x1, rfl, _⟩ := h
    rfl
  · have hu := hu_of hr
    exact (pss_cons (ps_set (i := 2) sc_Lmixed.nd rfl (Or.inl rfl) (pe_op o_mod (pe_op o_add (pe_op o_add (pe_op o_mul (pv 0) pe_int) (pe_op o_mul (pv 1) pe_int)) pe_int) pe_int))
    (pss_one (ps_ret (pe_op o_mod (pe_op o_add (pe_op o_mul (pv 2) (pe_op o_add (pe_op o_div (pv 2) pe_int) pe_int)) (pv 1)) pe_int))))
  · obtain ⟨x0, x1, rfl, h⟩ := h
    exact pu_Lmixed T h
def Sml (ms : List Int) : Prop := ∀ m ∈ ms, 0 ≤ m ∧ m < 1000000
theorem Sml.snoc {ms : List Int} (h : Sml ms) (z : Int) : Sml (ms ++ [z % 1000000]) := fun m hm => by
  rcases List.mem_append.mp hm with q | q
  · exact h m q
  · rw [List.mem_singleton.mp q]; exact ⟨Int.emod_nonneg _ (by decide), Int.emod_lt_of_pos _ (by decide)⟩
def P_Lnumbers (K : PySem.W.Frag) (A : Ad) (x0 : V) (H : Hp) (Q : VK) : Prop := ∃ (a : Addr) (ns : List Int), x0 = .ref a ∧ SqL K H a (ns.map V.int) ∧ ns.length ≤ 63 ∧
  ∀ (l : Addr) (ms : List Int) (H' : Hp), H l = none → Fr [] H H' → H' l = some (.lst (ms.map V.int)) → Sml ms → ms.length ≤ 10000 → Q (.ref l) H'
def sp_Lnumbers (K : PySem.W.Frag) (A : Ad) : Sp := fun vs H Q _ => ∃ x0, vs = [x0] ∧ P_Lnumbers K A x0 H Q
theorem c_Lnumbers {K : PySem.W.Frag} {A : Ad} {x0 : V} {H : Hp} {Q : VK} {E : XK} (h : P_Lnumbers K A x0 H Q) : sp_Lnumbers K A [x0] H Q E := ⟨_, rfl, h⟩
theorem sc_Lnumbers : FnScope ["_law_script", "_law_numbers_here", "_law_cell", "_law_rest", "_law_k"] ["_law_script"] (defScope s_Lnumbers) := ⟨rfl, rfl, rfl, by decide +kernel, rfl, by decide +kernel, by decide +kernel⟩
def t_Lnumbers (K : PySem.W.Frag) (A : Ad) : TS :=
  (tSeq (tAsg (tLst tNil) (gName 1))
    (tSeq (tFor (iList K (tVar 0)) (gName 2) (tIfS (tTest (tOp cGe (tVar 2) (tOp oPow (tC (.int 10)) (tC (.int 18))))) (tSeq (tAsg (tVar 2) (gName 3))
    (tFor (iRng1 (tCons (tC (.int 60)) tNil)) (gName 4) (tIfS (tTest (tOp cGt (tVar 3) (tC (.int 0)))) (tSeq (tDrop (tBM K "list" rAppend (tVar 1) (tCons (tOp oMod (tVar 3) (tC (.int 1000000))) tNil)))
    (tAsg (tOp oDiv (tVar 3) (tC (.int 1000000))) (gName 3))) tNext))) (tSeq (tDrop (tBM K "list" rAppend (tVar 1) (tCons (tOp oMod (tVar 2) (tC (.int 1000000))) tNil)))
    (tFor (iRng1 (tCons (tC (.int 5)) tNil)) (gName 4) (tDrop (tBM K "list" rAppend (tVar 1) (tCons (tOp oMod (tCl (sp_Lmixed K A) (tCons (tCl (sp_Lmixed K A) (tCons (tOp oMod (tVar 2) (tC (.int 2147483647))) (tCons (tVar 4) tNil))) (tCons (tOp oAdd (tVar 4) (tC (.int 7))) tNil))) (tC (.int 1000000))) tNil)))))))
    (tRet (tVar 1))))
theorem pu_Lnumbers (T : Txt K mg A) {x0 : V} {H : Hp} {Q : VK} (h : P_Lnumbers K A x0 H Q) : t_Lnumbers K A { nx := fun _ H' => Q .non H', rt := Q } [some x0, none, none, none, none] H := by
  obtain ⟨a, ns, rfl, hS, hl, k⟩ := h
  unfold t_Lnumbers
  walk_at "go"
  rename_i l H0 nl f0 e0
  refine f_list (xs := ns.map V.int) (fun i σ H' => ∃ (ms : List Int) (v1 v2 v3 : Option V), σ = [some (.ref a), some (.ref l), v1, v2, v3] ∧ Fr [] H H' ∧ H' l = some (.lst (ms.map V.int)) ∧ Sml ms ∧ ms.length ≤ 60 * i)
    ⟨[], none, none, none, rfl, f0, e0, fun _ q => (nomatch q), Nat.zero_le _⟩ ?_ ?_ ?_
  · rintro i σ H' _ ⟨ms, v1, v2, v3, rfl, f, e, s, hm⟩
    exact f.sql hS nin0
  · rintro i x σ H1 hx ⟨ms, v1, v2, v3, rfl, f1, e1, s1, hm⟩
    obtain ⟨n, rfl, hn, hmem⟩ := getI hx
    have hi : i < 63 := Nat.lt_of_lt_of_le ((List.getElem?_eq_some_iff.mp hn).1) hl
    walk_at "go"
    refine g_ite (fun c => ?_) (fun c => ?_)
    · walk_at "go"
      refine f_range (lo := 0) (n := 60) (fun j σ H' => ∃ (ms : List Int) (r : Int) (v3 : Option V), σ = [some (.ref a), some (.ref l), some (.int n), some (.int r), v3] ∧ Fr [] H H' ∧ H' l = some (.lst (ms.map V.int)) ∧ Sml ms ∧ ms.length ≤ 60 * i + j)
        ⟨ms, n, v3, rfl, f1, e1, s1, by omega⟩ ?_ ?_
      · rintro j σ H2 hj ⟨ms2, r, v3, rfl, f2, e2, s2, hm2⟩
        walk_at "go"
        refine g_ite (fun c => ?_) (fun c => ?_)
        · walk_at "go"
          rename_i H3 f3 e3
          exact ⟨ms2 ++ [r % 1000000], _, _, rfl, f2.own1 f3 nl, by rw [e3, List.map_append] <;> rfl, s2.snoc r, by rw [List.length_append]; exact Nat.add_le_add_right hm2 1⟩
        · walk_at "go"
          exact ⟨ms2, _, _, rfl, f2, e2, s2, by omega⟩
      · rintro σ H2 ⟨ms2, r, v3, rfl, f2, e2, s2, hm2⟩
        exact ⟨ms2, _, _, _, rfl, f2, e2, s2, by omega⟩
    · walk_at "go"
      rename_i H3 f3 e3
      refine f_range (lo := 0) (n := 5) (fun j σ H' => ∃ (ms : List Int) (v2 v3 : Option V), σ = [some (.ref a), some (.ref l), some (.int n), v2, v3] ∧ Fr [] H H' ∧ H' l = some (.lst (ms.map V.int)) ∧ Sml ms ∧ ms.length ≤ 60 * i + 1 + j)
        ⟨ms ++ [n % 1000000], v2, v3, rfl, f1.own1 f3 nl, by rw [e3, List.map_append] <;> rfl, s1.snoc n, by rw [List.length_append]; exact Nat.add_le_add_right hm 1⟩ ?_ ?_
      · rintro j σ H4 hj ⟨ms2, v2, v3, rfl, f4, e4, s4, hm4⟩
        walk_at "go"
        refine c_Lmixed ⟨_, _, rfl, rfl, fun z _ _ => ?_⟩
        walk_at "go"
        refine c_Lmixed ⟨_, _, rfl, rfl, fun z2 _ _ => ?_⟩
        walk_at "go"
        rename_i H5 f5 e5
        exact ⟨ms2 ++ [z2 % 1000000], _, _, rfl, f4.own1 f5 nl, by rw [e5, List.map_append] <;> rfl, s4.snoc z2, by rw [List.length_append]; exact Nat.add_le_add_right hm4 1⟩
      · rintro σ H4 ⟨ms2, v2, v3, rfl, f4, e4, s4, hm4⟩
        exact ⟨ms2, _, _, _, rfl, f4, e4, s4, by omega⟩
  · rintro σ H1 ⟨ms, v1, v2, v3, rfl, f1, e1, s1, hm⟩
    walk_at "go"
    rw [List.length_map] at hm
    exact k l ms H1 nl f1 e1 s1 (by omega)
theorem ok_Lnumbers {f : Addr} {fd : FuncData} (F : Fun K "_law_numbers" "_law_numbers" s_Lnumbers f fd) (T : Txt K mg A) (c_Lmixed : Cal P w K mg base "_law_mixed" 1 ["_law_number", "_law_k"] (sp_Lmixed K A)) : FnOk P w K mg base CX0 (2) f fd ["_law_script"] (sp_Lnumbers K A) := by
  refine F.ok sc_Lnumbers (fun vs H Q E h => ?_) (fun cdv Ar outer s H vs Q E hr h => ⟨t_Lnumbers K A, ?_, ?_⟩)
  · obtain ⟨x0, rfl, _⟩ := h
    rfl
  · have hu := hu_of hr
    exact (pss_cons (ps_set (i := 1) sc_Lnumbers.nd rfl (Or.inl rfl) (pe_lst pa_nil))
    (pss_cons (ps_for PassesOwn.never rfl (pi_list (pv 0)) (pg_name (i := 2) sc_Lnumbers.nd rfl (Or.inl rfl)) (pss_one (ps_if (pt_cmpR c_ge (pv 2) (pe_op o_pow pe_int pe_int) (nomark _)) (pss_cons (ps_set (i := 3) sc_Lnumbers.nd rfl (Or.inl rfl) (pv 2))
    (pss_one (ps_for PassesOwn.never rfl (pi_range1 rfl T.b_range (pa_cons pe_int pa_nil)) (pg_name (i := 4) sc_Lnumbers.nd rfl (Or.inl rfl)) (pss_one (ps_if (pt_cmpR c_gt (pv 3) pe_int (nomark _)) (pss_cons (ps_expr (pe_bm PySem.F.plainAttrs_list PySem.F.slot_list_append PySem.F.type_list_append mt_append (pv 1) (pa_cons (pe_op o_mod (pv 3) pe_int) pa_nil)))
    (pss_one (ps_set (i := 3) sc_Lnumbers.nd rfl (Or.inl rfl) (pe_op o_div (pv 3) pe_int)))) pss_nil))))) (pss_cons (ps_expr (pe_bm PySem.F.plainAttrs_list PySem.F.slot_list_append PySem.F.type_list_append mt_append (pv 1) (pa_cons (pe_op o_mod (pv 2) pe_int) pa_nil)))
    (pss_one (ps_for PassesOwn.never rfl (pi_range1 rfl T.b_range (pa_cons pe_int pa_nil)) (pg_name (i := 4) sc_Lnumbers.nd rfl (Or.inl rfl)) (pss_one (ps_expr (pe_bm PySem.F.plainAttrs_list PySem.F.slot_list_append PySem.F.type_list_append mt_append (pv 1) (pa_cons (pe_op o_mod (pe_cl c_Lmixed (hr.mono (by first | decide | omega)) (by rfl) (pa_cons (pe_cl c_Lmixed (hr.mono (by first | decide | omega)) (by rfl) (pa_cons (pe_op o_mod (pv 2) pe_int) (pa_cons (pv 4) pa_nil))) (pa_cons (pe_op o_add (pv 4) pe_int) pa_nil))) pe_int) pa_nil))))))))))
    (pss_one (ps_ret (pv 1)))))
  · obtain ⟨x0, rfl, h⟩ := h
    exact pu_Lnumbers T h
/-- the draws: a list of the numbers' list and a place -/
def Draws (H : Hp) (d l : Addr) : Prop := ∃ (ms : List Int) (k : Int), H d = some (.lst [.ref l, .int k]) ∧ H l = some (.lst (ms.map V.int)) ∧ Sml ms ∧ ms.length ≤ 10000 ∧ 0 ≤ k
theorem Draws.fr {H H' : Hp} {d l : Addr} {m : List Addr} (h : Draws H d l) (f : Fr m H H') (n1 : d ∉ m) (n2 : l ∉ m) : Draws H' d l := by
  obtain ⟨ms, k, h1, h2, h3⟩ := h
  exact ⟨ms, k, f.at h1 n1, f.at h2 n2, h3⟩
def P_Ldraw (K : PySem.W.Frag) (A : Ad) (x0 : V) (H : Hp) (Q : VK) : Prop := ∃ (d l : Addr), x0 = .ref d ∧ Draws H d l ∧
  ∀ (n : Int) (H' : Hp), 0 ≤ n → n < 1000000 → Fr [d] H H' → Draws H' d l → Q (.int n) H'
def sp_Ldraw (K : PySem.W.Frag) (A : Ad) : Sp := fun vs H Q _ => ∃ x0, vs = [x0] ∧ P_Ldraw K A x0 H Q
theorem c_Ldraw {K : PySem.W.Frag} {A : Ad} {x0 : V} {H : Hp} {Q : VK} {E : XK} (h : P_Ldraw K A x0 H Q) : sp_Ldraw K A [x0] H Q E := ⟨_, rfl, h⟩
theorem sc_Ldraw : FnScope ["_law_draws", "_law_at", "_law_first"] ["_law_draws"] (defScope s_Ldraw) := ⟨rfl, rfl, rfl, by decide +kernel, rfl, by decide +kernel, by decide +kernel⟩
def t_Ldraw (K : PySem.W.Frag) (A : Ad) : TS :=
  (tSeq (tAsg (tOp (rIxL K) (tVar 0) (tC (.int 1))) (gName 1))
    (tSeq (tAsg (tOp oAdd (tVar 1) (tC (.int 1))) (gSub (tVar 0) (tC (.int 1)) rSetL))
    (tSeq (tIfS (tTest (tOp cLt (tVar 1) (tCB (rLenSq K) (tCons (tOp (rIxL K) (tVar 0) (tC (.int 0))) tNil)))) (tRet (tOp (rIxL K) (tOp (rIxL K) (tVar 0) (tC (.int 0))) (tVar 1))) tNext)
    (tSeq (tAsg (tOp oAdd (tC (.int 1)) (tVar 1)) (gName 2))
    (tSeq (tIfS (tTest (tOp cGt (tCB (rLenSq K) (tCons (tOp (rIxL K) (tVar 0) (tC (.int 0))) tNil)) (tC (.int 0)))) (tAsg (tOp oAdd (tVar 2) (tOp oMul (tC (.int 1009)) (tOp (rIxL K) (tOp (rIxL K) (tVar 0) (tC (.int 0))) (tC (.int 0))))) (gName 2)) tNext)
    (tRet (tOp oMod (tCl (sp_Lmixed K A) (tCons (tCl (sp_Lmixed K A) (tCons (tVar 2) (tCons (tVar 1) tNil))) (tCons (tC (.int 5)) tNil))) (tC (.int 1000000)))))))))
theorem pu_Ldraw (T : Txt K mg A) {x0 : V} {H : Hp} {Q : VK} (h : P_Ldraw K A x0 H Q) : t_Ldraw K A { nx := fun _ H' => Q .non H', rt := Q } [some x0, none, none] H := by
  obtain ⟨d, l, rfl, ⟨ms, k, hd, hL, sm, hlen, hk⟩, q⟩ := h
  unfold t_Ldraw
  walk_at "go"
  refine g_setL hd (j := 1) rfl fun H1 f1 e1 => ?_
  have nld : l ≠ d := fun z => by
    subst z
    rw [hd] at hL
    have e := congrArg List.length (HO.lst.inj (Option.some.inj hL))
    cases ms with
    | nil => cases e
    | cons a r => cases HO.lst.inj (Option.some.inj hL)
  have hL1 : H1 l = some (.lst (ms.map V.int)) := f1.at hL (nin1 nld nin0)
  have D1 : Draws H1 d l := ⟨ms, k + 1, e1, hL1, sm, hlen, by omega⟩
  have e1' : H1 d = some (.lst [.ref l, .int (k + 1)]) := e1
  walk_at "go"
  rw [List.length_map]
  refine g_ite (fun c => ?_) (fun c => ?_)
  · walk_at "go"
    obtain ⟨v, hv, hv2⟩ := atI_of (xs := ms.map V.int) hk (by rw [List.length_map]; exact c)
    obtain ⟨n, rfl, _, hmem⟩ := getI hv2
    refine g_ixL (SqL.of hL1) hv ?_
    exact q n H1 (sm n hmem).1 (sm n hmem).2 f1 D1
  · have fin : ∀ n : Int, Q (.int (n % 1000000)) H1 := fun n => q _ H1 (Int.emod_nonneg _ (by decide)) (Int.emod_lt_of_pos _ (by decide)) f1 D1
    walk_at "go"
    rw [List.length_map]
    refine g_ite (fun c2 => ?_) (fun c2 => ?_)
    · walk_at "go"
      obtain ⟨v, hv, hv2⟩ := atI_of (xs := ms.map V.int) (z := 0) (Int.le_refl _) (by rw [List.length_map]; exact c2)
      obtain ⟨n, rfl, _, hmem⟩ := getI hv2
      refine g_ixL (SqL.of hL1) hv ?_
      walk_at "go"
      refine c_Lmixed ⟨_, _, rfl, rfl, fun z _ _ => ?_⟩
      walk_at "go"
      refine c_Lmixed ⟨_, _, rfl, rfl, fun z2 _ _ => ?_⟩
      walk_at "go"
      exact fin z2
    · walk_at "go"
      refine c_Lmixed ⟨_, _, rfl, rfl, fun z _ _ => ?_⟩
      walk_at "go"
      refine c_Lmixed ⟨_, _, rfl, rfl, fun z2 _ _ => ?_⟩
      walk_at "go"
      exact fin z2
theorem ok_Ldraw {f : Addr} {fd : FuncData} (F : Fun K "_law_draw" "_law_draw" s_Ldraw f fd) (T : Txt K mg A) (c_Lmixed : Cal P w K mg base "_law_mixed" 1 ["_law_number", "_law_k"] (sp_Lmixed K A)) : FnOk P w K mg base CX0 (2) f fd ["_law_draws"] (sp_Ldraw K A) := by
  refine F.ok sc_Ldraw (fun vs H Q E h => ?_) (fun cdv Ar outer s H vs Q E hr h => ⟨t_Ldraw K A, ?_, ?_⟩)
  · obtain ⟨x0, rfl, _⟩ := h
    rfl
  · have hu := hu_of hr
    exact (pss_cons (ps_set (i := 1) sc_Ldraw.nd rfl (Or.inl rfl) (pe_ix ix_list (pv 0) pe_int (fun _ _ => rfl)))
    (pss_cons (ps_asg (pe_op o_add (pv 1) pe_int) (pg_sub (pv 0) pe_int set_list))
    (pss_cons (ps_if (pt_cmpR c_lt (pv 1) (pe_callB b_len (by rfl) T.b_len (by decide +kernel) (pa_cons (pe_ix ix_list (pv 0) pe_int (fun _ _ => rfl)) pa_nil)) (nomark _)) (pss_one (ps_ret (pe_ix ix_list (pe_ix ix_list (pv 0) pe_int (fun _ _ => rfl)) (pv 1) (fun _ _ => rfl)))) pss_nil)
    (pss_cons (ps_set (i := 2) sc_Ldraw.nd rfl (Or.inl rfl) (pe_op o_add pe_int (pv 1)))
    (pss_cons (ps_if (pt_cmpR c_gt (pe_callB b_len (by rfl) T.b_len (by decide +kernel) (pa_cons (pe_ix ix_list (pv 0) pe_int (fun _ _ => rfl)) pa_nil)) pe_int (nomark _)) (pss_one (ps_set (i := 2) sc_Ldraw.nd rfl (Or.inl rfl) (pe_op o_add (pv 2) (pe_op o_mul pe_int (pe_ix ix_list (pe_ix ix_list (pv 0) pe_int (fun _ _ => rfl)) pe_int (fun _ _ => rfl)))))) pss_nil)
    (pss_one (ps_ret (pe_op o_mod (pe_cl c_Lmixed (hr.mono (by first | decide | omega)) (by rfl) (pa_cons (pe_cl c_Lmixed (hr.mono (by first | decide | omega)) (by rfl) (pa_cons (pv 2) (pa_cons (pv 1) pa_nil))) (pa_cons pe_int pa_nil))) pe_int))))))))
  · obtain ⟨x0, rfl, h⟩ := h
    exact pu_Ldraw T h
theorem Draws.new1 {H : Hp} {d l p : Addr} (h : Draws H d l) (e : H p = none) : d ≠ p := by
  obtain ⟨ms, k, h1, h2, _⟩ := h
  exact ne_of_none h1 e
theorem Draws.new2 {H : Hp} {d l p : Addr} (h : Draws H d l) (e : H p = none) : l ≠ p := by
  obtain ⟨ms, k, h1, h2, _⟩ := h
  exact ne_of_none h2 e
theorem Draws.ne {H : Hp} {d l p C dx : Addr} {fs : List (Str × V)} (h : Draws H d l) (e : H p = some (.ins C dx fs)) : d ≠ p ∧ l ≠ p := by
  obtain ⟨ms, k, h1, h2, _⟩ := h
  exact ⟨ne_of h1 e (by intro z; cases z), ne_of h2 e (by intro z; cases z)⟩
theorem Draws.ne' {H : Hp} {d l p : Addr} {xs : List V} (h : Draws H d l) (e : H p = some (.lst xs)) (n : xs.length ≠ 2) : d ≠ p := by
  obtain ⟨ms, k, h1, h2, _⟩ := h
  exact ne_of h1 e (by intro z; cases z; exact n rfl)
local macro_rules | `(tactic| walk_at "drw") => `(tactic| first
  | assumption
  | ((refine' Draws.fr ?h (by assumption) ?k ?l); (first | (case h => walk_at "drw") | fail); (first | (case k => walk_at "nin") | fail); (first | (case l => walk_at "nin") | fail)))
local macro_rules | `(tactic| walk_at "ne2") => `(tactic| first
  | exact Draws.new1 (by walk_at "drw") (by assumption) | exact Draws.new2 (by walk_at "drw") (by assumption)
  | exact Ne.symm (Draws.new1 (by walk_at "drw") (by assumption)) | exact Ne.symm (Draws.new2 (by walk_at "drw") (by assumption)))
local macro_rules | `(tactic| walk_at "go3") => `(tactic| ((with_reducible show sp_Ldraw _ _ _ _ _ _); refine' c_Ldraw ⟨_, _, rfl, ?D, ?_⟩; (first | (case D => walk_at "drw") | fail); intro _ _ _ _ _ _))


/-! ### _law_equal, _law_all_equal: what reads as one datum is found equal -/
def SeqD (H : Hp) (x : V) (ds : List PyData) : Prop := ∃ (a : Addr) (xs : List V), x = .ref a ∧ (H a = some (.lst xs) ∨ H a = some (.tup xs)) ∧ xs.length ≤ 1000000 ∧ DaL H xs ds
def P_Lequal (K : PySem.W.Frag) (A : Ad) (m : Nat) (x0 x1 : V) (H : Hp) (Q : VK) : Prop := ∃ d : PyData, Da H x0 d ∧ Da H x1 d ∧ dp d ≤ m ∧ Q (.bl true) H
def P_Lall_equal (K : PySem.W.Frag) (A : Ad) (m : Nat) (x0 x1 : V) (H : Hp) (Q : VK) : Prop := ∃ ds : List PyData, SeqD H x0 ds ∧ SeqD H x1 ds ∧ dpL ds + 1 ≤ m ∧ Q (.bl true) H
def sp_Lequal (K : PySem.W.Frag) (A : Ad) (m : Nat) : Sp := fun vs H Q _ => ∃ x0 x1, vs = [x0, x1] ∧ P_Lequal K A m x0 x1 H Q
theorem c_Lequal {K : PySem.W.Frag} {A : Ad} {m : Nat} {x0 x1 : V} {H : Hp} {Q : VK} {E : XK} (h : P_Lequal K A m x0 x1 H Q) : sp_Lequal K A m [x0, x1] H Q E := ⟨_, _, rfl, h⟩
def sp_Lall_equal (K : PySem.W.Frag) (A : Ad) (m : Nat) : Sp := fun vs H Q _ => ∃ x0 x1, vs = [x0, x1] ∧ P_Lall_equal K A m x0 x1 H Q
theorem c_Lall_equal {K : PySem.W.Frag} {A : Ad} {m : Nat} {x0 x1 : V} {H : Hp} {Q : VK} {E : XK} (h : P_Lall_equal K A m x0 x1 H Q) : sp_Lall_equal K A m [x0, x1] H Q E := ⟨_, _, rfl, h⟩
theorem sc_Lequal : FnScope ["_law_actual", "_law_due"] ["_law_actual", "_law_due"] (defScope s_Lequal) := ⟨rfl, rfl, rfl, by decide +kernel, rfl, by decide +kernel, by decide +kernel⟩
def t_Lequal (K : PySem.W.Frag) (A : Ad) (m : Nat) : TS :=
  (tSeq (tIfS (tB (tCB (rIsi K) (tCons (tVar 1) (tCons (tC (.ty "list")) tNil)))) (tSeq (tIfS (tOr (tNot (tB (tCB (rIsi K) (tCons (tVar 0) (tCons (tC (.ty "list")) tNil))))) (tTest (tOp rNe (tCB (rLenSq K) (tCons (tVar 0) tNil)) (tCB (rLenSq K) (tCons (tVar 1) tNil))))) (tRet (tC (.bl false))) tNext)
    (tRet (tCl (sp_Lall_equal K A m) (tCons (tVar 0) (tCons (tVar 1) tNil))))) tNext)
    (tSeq (tIfS (tB (tCB (rIsi K) (tCons (tVar 1) (tCons (tC (.ty "tuple")) tNil)))) (tSeq (tIfS (tOr (tNot (tB (tCB (rIsi K) (tCons (tVar 0) (tCons (tC (.ty "tuple")) tNil))))) (tTest (tOp rNe (tCB (rLenSq K) (tCons (tVar 0) tNil)) (tCB (rLenSq K) (tCons (tVar 1) tNil))))) (tRet (tC (.bl false))) tNext)
    (tRet (tCl (sp_Lall_equal K A m) (tCons (tVar 0) (tCons (tVar 1) tNil))))) tNext)
    (tSeq (tIfS (tB (tCB (rIsi K) (tCons (tVar 1) (tCons (tC (.ty "bool")) tNil)))) (tRet (tAndV (tCB (rIsi K) (tCons (tVar 0) (tCons (tC (.ty "bool")) tNil))) (tOp rEq (tVar 0) (tVar 1)))) tNext)
    (tSeq (tIfS (tB (tCB (rIsi K) (tCons (tVar 1) (tCons (tC (.ty "int")) tNil)))) (tRet (tAndV (tCB (rIsi K) (tCons (tVar 0) (tCons (tC (.ty "int")) tNil))) (tAndV (tNotV (tCB (rIsi K) (tCons (tVar 0) (tCons (tC (.ty "bool")) tNil)))) (tOp rEq (tVar 0) (tVar 1))))) tNext)
    (tSeq (tIfS (tB (tCB (rIsi K) (tCons (tVar 1) (tCons (tC (.ty "str")) tNil)))) (tRet (tAndV (tCB (rIsi K) (tCons (tVar 0) (tCons (tC (.ty "str")) tNil))) (tOp rEq (tVar 0) (tVar 1)))) tNext)
    (tRet (tOp rIsNon (tVar 0) (tC .non))))))))
theorem pu_Lequal (T : Txt K mg A) {m : Nat} {x0 x1 : V} {H : Hp} {Q : VK} (h : P_Lequal K A m x0 x1 H Q) : t_Lequal K A m { nx := fun _ H' => Q .non H', rt := Q } [some x0, some x1] H := by
  obtain ⟨d, h0, h1, hm, q⟩ := h
  unfold t_Lequal
  cases h0 with
  | non =>
    cases h1
    walk_at "go"
    exact q
  | bl b =>
    cases h1
    walk_at "go"
    simpa using q
  | int i =>
    cases h1
    walk_at "go"
    simpa using q
  | str z =>
    cases h1
    walk_at "go"
    simpa using q
  | lst e0 z0 r0 =>
    cases h1 with
    | lst e1 z1 r1 =>
      walk_at "go"
      refine g_iteN (fun c => absurd (by rw [r0.len, r1.len]) c) (fun c => ?_)
      walk_at "go"
      refine c_Lall_equal ⟨_, ⟨_, _, rfl, .inl e0, z0, r0⟩, ⟨_, _, rfl, .inl e1, z1, r1⟩, ?_, q⟩
      simpa [dp] using hm
  | tup e0 z0 r0 =>
    cases h1 with
    | tup e1 z1 r1 =>
      walk_at "go"
      refine g_iteN (fun c => absurd (by rw [r0.len, r1.len]) c) (fun c => ?_)
      walk_at "go"
      refine c_Lall_equal ⟨_, ⟨_, _, rfl, .inr e0, z0, r0⟩, ⟨_, _, rfl, .inr e1, z1, r1⟩, ?_, q⟩
      simpa [dp] using hm
theorem ok_Lequal {f : Addr} {fd : FuncData} (F : Fun K "_law_equal" "_law_equal" s_Lequal f fd) (T : Txt K mg A) {m : Nat} (c_Lall_equal : Cal P w K mg base "_law_all_equal" (2 * m) ["_law_actual", "_law_due"] (sp_Lall_equal K A m)) : FnOk P w K mg base CX0 (2 * m + 1) f fd ["_law_actual", "_law_due"] (sp_Lequal K A m) := by
  refine F.ok sc_Lequal (fun vs H Q E h => ?_) (fun cdv Ar outer s H vs Q E hr h => ⟨t_Lequal K A m, ?_, ?_⟩)
  · obtain ⟨x0, x1, rfl, _⟩ := h
    rfl
  · have hu := hu_of hr
    exact (pss_cons (ps_if (pt_val (pe_callB call_isi (by rfl) T.b_isinstance (by decide +kernel) (pa_cons (pv 1) (pa_cons (pe_bltn (by rfl) T.b_list (by decide +kernel) (v := .ty "list") rfl) pa_nil)))) (pss_cons (ps_if (PW.pt (pw_or (pt_not (pt_val (pe_callB call_isi (by rfl) T.b_isinstance (by decide +kernel) (pa_cons (pv 0) (pa_cons (pe_bltn (by rfl) T.b_list (by decide +kernel) (v := .ty "list") rfl) pa_nil))))) (pw_or1 (pt_cmpR op_ne (pe_callB b_len (by rfl) T.b_len (by decide +kernel) (pa_cons (pv 0) pa_nil)) (pe_callB b_len (by rfl) T.b_len (by decide +kernel) (pa_cons (pv 1) pa_nil)) (nomark _))))) (pss_one (ps_ret pe_bl)) pss_nil)
    (pss_one (ps_ret (pe_cl c_Lall_equal (hr.mono (by first | decide | omega)) (by rfl) (pa_cons (pv 0) (pa_cons (pv 1) pa_nil)))))) pss_nil)
    (pss_cons (ps_if (pt_val (pe_callB call_isi (by rfl) T.b_isinstance (by decide +kernel) (pa_cons (pv 1) (pa_cons (pe_bltn (by rfl) T.b_tuple (by decide +kernel) (v := .ty "tuple") rfl) pa_nil)))) (pss_cons (ps_if (PW.pt (pw_or (pt_not (pt_val (pe_callB call_isi (by rfl) T.b_isinstance (by decide +kernel) (pa_cons (pv 0) (pa_cons (pe_bltn (by rfl) T.b_tuple (by decide +kernel) (v := .ty "tuple") rfl) pa_nil))))) (pw_or1 (pt_cmpR op_ne (pe_callB b_len (by rfl) T.b_len (by decide +kernel) (pa_cons (pv 0) pa_nil)) (pe_callB b_len (by rfl) T.b_len (by decide +kernel) (pa_cons (pv 1) pa_nil)) (nomark _))))) (pss_one (ps_ret pe_bl)) pss_nil)
    (pss_one (ps_ret (pe_cl c_Lall_equal (hr.mono (by first | decide | omega)) (by rfl) (pa_cons (pv 0) (pa_cons (pv 1) pa_nil)))))) pss_nil)
    (pss_cons (ps_if (pt_val (pe_callB call_isi (by rfl) T.b_isinstance (by decide +kernel) (pa_cons (pv 1) (pa_cons (pe_bltn (by rfl) T.b_bool (by decide +kernel) (v := .ty "bool") rfl) pa_nil)))) (pss_one (ps_ret (pe_and (pe_callB call_isi (by rfl) T.b_isinstance (by decide +kernel) (pa_cons (pv 0) (pa_cons (pe_bltn (by rfl) T.b_bool (by decide +kernel) (v := .ty "bool") rfl) pa_nil))) (pe_one (pe_cmpR op_eq (pv 0) (pv 1) (nomark _)))))) pss_nil)
    (pss_cons (ps_if (pt_val (pe_callB call_isi (by rfl) T.b_isinstance (by decide +kernel) (pa_cons (pv 1) (pa_cons (pe_bltn (by rfl) T.b_int (by decide +kernel) (v := .ty "int") rfl) pa_nil)))) (pss_one (ps_ret (pe_and (pe_callB call_isi (by rfl) T.b_isinstance (by decide +kernel) (pa_cons (pv 0) (pa_cons (pe_bltn (by rfl) T.b_int (by decide +kernel) (v := .ty "int") rfl) pa_nil))) (pe_and (pe_not (pe_callB call_isi (by rfl) T.b_isinstance (by decide +kernel) (pa_cons (pv 0) (pa_cons (pe_bltn (by rfl) T.b_bool (by decide +kernel) (v := .ty "bool") rfl) pa_nil)))) (pe_one (pe_cmpR op_eq (pv 0) (pv 1) (nomark _))))))) pss_nil)
    (pss_cons (ps_if (pt_val (pe_callB call_isi (by rfl) T.b_isinstance (by decide +kernel) (pa_cons (pv 1) (pa_cons (pe_bltn (by rfl) T.b_str (by decide +kernel) (v := .ty "str") rfl) pa_nil)))) (pss_one (ps_ret (pe_and (pe_callB call_isi (by rfl) T.b_isinstance (by decide +kernel) (pa_cons (pv 0) (pa_cons (pe_bltn (by rfl) T.b_str (by decide +kernel) (v := .ty "str") rfl) pa_nil))) (pe_one (pe_cmpR op_eq (pv 0) (pv 1) (nomark _)))))) pss_nil)
    (pss_one (ps_ret (pe_cmpR c_isN (pv 0) pe_non (nomark _)))))))))
  · obtain ⟨x0, x1, rfl, h⟩ := h
    exact pu_Lequal T h
theorem sc_Lall_equal : FnScope ["_law_actual", "_law_due", "_law_k"] ["_law_actual", "_law_due"] (defScope s_Lall_equal) := ⟨rfl, rfl, rfl, by decide +kernel, rfl, by decide +kernel, by decide +kernel⟩
def t_Lall_equal (K : PySem.W.Frag) (A : Ad) (m : Nat) : TS :=
  (tSeq (tFor (iRng1 (tCons (tCB (rLenSq K) (tCons (tVar 1) tNil)) tNil)) (gName 2) (tIfS (tNot (tB (tCl (sp_Lequal K A m) (tCons (tOp (rIx K) (tVar 0) (tVar 2)) (tCons (tOp (rIx K) (tVar 1) (tVar 2)) tNil))))) (tRet (tC (.bl false))) tNext))
    (tRet (tC (.bl true))))
theorem g_lenS {xs : List V} {H : Hp} {Q : VK} {p : Addr} (h : H p = some (.lst xs) ∨ H p = some (.tup xs)) (q : Q (.int xs.length) H) : rLenSq K [.ref p] H Q := h.elim (fun e => g_lenL (SqL.of e) q) (fun e => g_lenT (SqT.of e) q)
theorem g_ixS {xs : List V} {H : Hp} {Q : VK} {p : Addr} {i : Int} {v : V} (h : H p = some (.lst xs) ∨ H p = some (.tup xs)) (ha : atI xs i = some v) (q : Q v H) : rIx K (.ref p) (.int i) H Q :=
  h.elim (fun e => .inl (g_ixL (SqL.of e) ha q)) (fun e => .inr (.inl (g_ixT (SqT.of e) ha q)))
theorem pu_Lall_equal (T : Txt K mg A) {m : Nat} {x0 x1 : V} {H : Hp} {Q : VK} (h : P_Lall_equal K A (m + 1) x0 x1 H Q) : t_Lall_equal K A m { nx := fun _ H' => Q .non H', rt := Q } [some x0, some x1, none] H := by
  obtain ⟨ds, ⟨a, xs, rfl, ha, hz, ra⟩, ⟨b, ys, rfl, hb, hy, rb⟩, hm, q⟩ := h
  unfold t_Lall_equal
  walk_at "go"
  refine g_lenS hb ?_
  walk_at "go"
  have hl := ra.len
  have hk := rb.len
  refine f_range (lo := 0) (fun i σ H' => (∃ v, σ = [some (.ref a), some (.ref b), v]) ∧ H' = H) ⟨⟨_, rfl⟩, rfl⟩ ?_ ?_
  · rintro i σ H' hi ⟨⟨v, rfl⟩, rfl⟩
    have hi2 : i < xs.length := by omega
    have hi3 : i < ys.length := by omega
    obtain ⟨d, hd, dd⟩ := ra.get (List.getElem?_eq_getElem hi2)
    obtain ⟨d', hd', dd'⟩ := rb.get (List.getElem?_eq_getElem hi3)
    rw [hd] at hd'
    cases hd'
    walk_at "go"
    refine g_ixS ha (v := xs[i]) (by rw [Int.zero_add]; exact atI_nat (List.getElem?_eq_getElem hi2)) ?_
    walk_at "go"
    refine g_ixS hb (v := ys[i]) (by rw [Int.zero_add]; exact atI_nat (List.getElem?_eq_getElem hi3)) ?_
    walk_at "go"
    refine c_Lequal ⟨d, dd, dd', ?_, ?_⟩
    · have := dpL_get hd
      omega
    · walk_at "go"
      exact ⟨⟨_, rfl⟩, rfl⟩
  · rintro σ H' ⟨⟨v, rfl⟩, rfl⟩
    walk_at "go"
    exact q
theorem ok_Lall_equal {f : Addr} {fd : FuncData} (F : Fun K "_law_all_equal" "_law_all_equal" s_Lall_equal f fd) (T : Txt K mg A) {m : Nat} (c_Lequal : Cal P w K mg base "_law_equal" (2 * m + 1) ["_law_actual", "_law_due"] (sp_Lequal K A m)) : FnOk P w K mg base CX0 (2 * m + 2) f fd ["_law_actual", "_law_due"] (sp_Lall_equal K A (m + 1)) := by
  refine F.ok sc_Lall_equal (fun vs H Q E h => ?_) (fun cdv Ar outer s H vs Q E hr h => ⟨t_Lall_equal K A m, ?_, ?_⟩)
  · obtain ⟨x0, x1, rfl, _⟩ := h
    rfl
  · have hu := hu_of hr
    exact (pss_cons (ps_for PassesOwn.never rfl (pi_range1 rfl T.b_range (pa_cons (pe_callB b_len (by rfl) T.b_len (by decide +kernel) (pa_cons (pv 1) pa_nil)) pa_nil)) (pg_name (i := 2) sc_Lall_equal.nd rfl (Or.inl rfl)) (pss_one (ps_if (pt_not (pt_val (pe_cl c_Lequal (hr.mono (by first | decide | omega)) (by rfl) (pa_cons (pe_ix ix_seq (pv 0) (pv 2) (fun _ _ => rfl)) (pa_cons (pe_ix ix_seq (pv 1) (pv 2) (fun _ _ => rfl)) pa_nil))))) (pss_one (ps_ret pe_bl)) pss_nil)))
    (pss_one (ps_ret pe_bl)))
  · obtain ⟨x0, x1, rfl, h⟩ := h
    exact pu_Lall_equal T h
theorem eq_all {fE fA : Addr} {fdE fdA : FuncData} (FE : Fun K "_law_equal" "_law_equal" s_Lequal fE fdE) (T : Txt K mg A) (hE : mg "_law_equal" = some (.ref fE)) (bE : Binds K fdE ["_law_actual", "_law_due"] [])
    (FA : Fun K "_law_all_equal" "_law_all_equal" s_Lall_equal fA fdA) (hA : mg "_law_all_equal" = some (.ref fA)) (bA : Binds K fdA ["_law_actual", "_law_due"] []) :
    ∀ m : Nat, Cal P w K mg base "_law_all_equal" (2 * m) ["_law_actual", "_law_due"] (sp_Lall_equal K A m)
  | 0 => by
    have no : ∀ vs H Q E, ¬ sp_Lall_equal K A 0 vs H Q E := fun vs H Q E h => by
      obtain ⟨x0, x1, _, ds, _, _, hm, _⟩ := h
      omega
    exact ⟨fA, fdA, ⟨fun vs H Q E h => absurd h (no vs H Q E), fun A outer s H args us vs Q E _ _ _ _ h => absurd h (no vs H Q E)⟩, hA, FA.kp, bA⟩
  | m + 1 => ⟨fA, fdA, ok_Lall_equal FA T ⟨fE, fdE, ok_Lequal FE T (eq_all FE T hE bE FA hA bA m), hE, FE.kp, bE⟩, hA, FA.kp, bA⟩
theorem eq_one {fE fA : Addr} {fdE fdA : FuncData} (FE : Fun K "_law_equal" "_law_equal" s_Lequal fE fdE) (T : Txt K mg A) (hE : mg "_law_equal" = some (.ref fE)) (bE : Binds K fdE ["_law_actual", "_law_due"] [])
    (FA : Fun K "_law_all_equal" "_law_all_equal" s_Lall_equal fA fdA) (hA : mg "_law_all_equal" = some (.ref fA)) (bA : Binds K fdA ["_law_actual", "_law_due"] []) (m : Nat) :
    Cal P w K mg base "_law_equal" (2 * m + 1) ["_law_actual", "_law_due"] (sp_Lequal K A m) := ⟨fE, fdE, ok_Lequal FE T (eq_all FE T hE bE FA hA bA m), hE, FE.kp, bE⟩

/-! ### one end of a wire -/
/-- a wire at p: its dict, its outbox's list l -/
def WireAt (A : Ad) (H : Hp) (p l : Addr) (n : Int) (xs : List V) (e : Int) : Prop := (∃ dx, H p = some (.ins A.Wire dx (F_Wire n l e))) ∧ H l = some (.lst xs)
theorem WireAt.ne {A : Ad} {H : Hp} {p l : Addr} {n e : Int} {xs : List V} (w : WireAt A H p l n xs e) : l ≠ p := ne_of w.2 w.1.choose_spec (by intro z; cases z)
theorem WireAt.fr {A : Ad} {H H' : Hp} {p l : Addr} {n e : Int} {xs : List V} {m : List Addr} (w : WireAt A H p l n xs e) (f : Fr m H H') (n1 : p ∉ m) (n2 : l ∉ m) : WireAt A H' p l n xs e := by
  obtain ⟨⟨dx, h⟩, h2⟩ := w
  exact ⟨⟨dx, f.at h n1⟩, f.at h2 n2⟩
def P_Wire_init (K : PySem.W.Frag) (A : Ad) (x0 : V) (H : Hp) (Q : VK) : Prop := ∃ (p dx : Addr), x0 = .ref p ∧ H p = some (.ins A.Wire dx []) ∧
  ∀ (l : Addr) (H' : Hp), H l = none → Fr [p] H H' → WireAt A H' p l 0 [] 0 → Q .non H'
def sp_Wire_init (K : PySem.W.Frag) (A : Ad) : Sp := fun vs H Q _ => ∃ x0, vs = [x0] ∧ P_Wire_init K A x0 H Q
theorem c_Wire_init {K : PySem.W.Frag} {A : Ad} {x0 : V} {H : Hp} {Q : VK} {E : XK} (h : P_Wire_init K A x0 H Q) : sp_Wire_init K A [x0] H Q E := ⟨_, rfl, h⟩
theorem sc_Wire_init : FnScope ["self"] ["self"] (defScope s_Wire_init) := ⟨rfl, rfl, rfl, by decide +kernel, rfl, by decide +kernel, by decide +kernel⟩
def t_Wire_init (K : PySem.W.Frag) (A : Ad) : TS :=
  (tSeq (sFld K (tVar 0) (tC (.int 0)) "sent")
    (tSeq (sFld K (tVar 0) (tLst tNil) "outbox")
    (sFld K (tVar 0) (tC (.int 0)) "expected")))
theorem pu_Wire_init (T : Txt K mg A) {x0 : V} {H : Hp} {Q : VK} (h : P_Wire_init K A x0 H Q) : t_Wire_init K A { nx := fun _ H' => Q .non H', rt := Q } [some x0] H := by
  obtain ⟨p, dx, rfl, hp, k⟩ := h
  unfold t_Wire_init
  walk_at "go"
  rename_i H1 f1 e1 l H2 n2 f2 e2 H3 f3 e3 H4 f4 e4
  have nl : p ≠ l := ne_of_none e1 n2
  exact k l H4 (f1.freeL n2 (nin1 nl.symm nin0)) (((f1.then0 f2).transL f3).transL f4) ⟨⟨dx, e4⟩, by walk_at "fact"⟩
theorem ok_Wire_init {f : Addr} {fd : FuncData} (F : Fun K "__init__" "Wire.__init__" s_Wire_init f fd) (T : Txt K mg A)  : FnOk P w K mg base CX0 (1) f fd ["self"] (sp_Wire_init K A) := by
  refine F.ok sc_Wire_init (fun vs H Q E h => ?_) (fun cdv Ar outer s H vs Q E hr h => ⟨t_Wire_init K A, ?_, ?_⟩)
  · obtain ⟨x0, rfl, _⟩ := h
    rfl
  · have hu := hu_of hr
    exact (pss_cons (ps_fld (pv 0) pe_int rfl)
    (pss_cons (ps_fld (pv 0) (pe_lst pa_nil) rfl)
    (pss_one (ps_fld (pv 0) pe_int rfl))))
  · obtain ⟨x0, rfl, h⟩ := h
    exact pu_Wire_init T h
def P_Wire_send (K : PySem.W.Frag) (A : Ad) (x0 x1 : V) (H : Hp) (Q : VK) : Prop := ∃ (p l : Addr) (n : Int) (xs : List V) (e : Int), x0 = .ref p ∧ WireAt A H p l n xs e ∧ xs.length ≤ 100000 ∧
  ∀ (t : Addr) (H' : Hp), H t = none → Fr [p, l] H H' → H' t = some (.tup [.int n, x1]) → WireAt A H' p l (n + 1) (xs ++ [.ref t]) e → Q (.int n) H'
def sp_Wire_send (K : PySem.W.Frag) (A : Ad) : Sp := fun vs H Q _ => ∃ x0 x1, vs = [x0, x1] ∧ P_Wire_send K A x0 x1 H Q
theorem c_Wire_send {K : PySem.W.Frag} {A : Ad} {x0 x1 : V} {H : Hp} {Q : VK} {E : XK} (h : P_Wire_send K A x0 x1 H Q) : sp_Wire_send K A [x0, x1] H Q E := ⟨_, _, rfl, h⟩
theorem sc_Wire_send : FnScope ["self", "body", "number"] ["self", "body"] (defScope s_Wire_send) := ⟨rfl, rfl, rfl, by decide +kernel, rfl, by decide +kernel, by decide +kernel⟩
def t_Wire_send (K : PySem.W.Frag) (A : Ad) : TS :=
  (tSeq (tAsg (tFld K (tVar 0) "sent") (gName 2))
    (tSeq (sFldAug K (tVar 0) (tC (.int 1)) rAdd "sent")
    (tSeq (tDrop (tBM K "list" rAppend (tFld K (tVar 0) "outbox") (tCons (tTup (tCons (tVar 2) (tCons (tVar 1) tNil))) tNil)))
    (tRet (tVar 2)))))
theorem pu_Wire_send (T : Txt K mg A) {x0 x1 : V} {H : Hp} {Q : VK} (h : P_Wire_send K A x0 x1 H Q) : t_Wire_send K A { nx := fun _ H' => Q .non H', rt := Q } [some x0, some x1, none] H := by
  obtain ⟨p, l, n, xs, e, rfl, ⟨⟨dx, hp⟩, hl⟩, hz, k⟩ := h
  have npl : l ≠ p := ne_of hl hp (by intro z; cases z)
  unfold t_Wire_send
  walk_at "go"
  rename_i H1 f1 e1 t H2 n2 f2 e2 H3 f3 e3
  exact k t H3 (by walk_at "none") (by walk_at "fr") (by walk_at "fact") ⟨⟨dx, by walk_at "fact"⟩, e3⟩
theorem ok_Wire_send {f : Addr} {fd : FuncData} (F : Fun K "send" "Wire.send" s_Wire_send f fd) (T : Txt K mg A)  : FnOk P w K mg base CX0 (1) f fd ["self", "body"] (sp_Wire_send K A) := by
  refine F.ok sc_Wire_send (fun vs H Q E h => ?_) (fun cdv Ar outer s H vs Q E hr h => ⟨t_Wire_send K A, ?_, ?_⟩)
  · obtain ⟨x0, x1, rfl, _⟩ := h
    rfl
  · have hu := hu_of hr
    exact (pss_cons (ps_set (i := 2) sc_Wire_send.nd rfl (Or.inl rfl) (pe_fld (pv 0) rfl))
    (pss_cons (ps_fldaug (pv 0) pe_int in_add)
    (pss_cons (ps_expr (pe_bm PySem.F.plainAttrs_list PySem.F.slot_list_append PySem.F.type_list_append mt_append (pe_fld (pv 0) rfl) (pa_cons (pe_tup (pa_cons (pv 2) (pa_cons (pv 1) pa_nil))) pa_nil)))
    (pss_one (ps_ret (pv 2))))))
  · obtain ⟨x0, x1, rfl, h⟩ := h
    exact pu_Wire_send T h
def P_Wire_take (K : PySem.W.Frag) (A : Ad) (x0 x1 : V) (H : Hp) (Q : VK) : Prop := ∃ (p l : Addr) (n : Int) (xs : List V) (e z : Int), x0 = .ref p ∧ x1 = .int z ∧ WireAt A H p l n xs e ∧
  (z ≠ e → Q (.bl false) H) ∧ (z = e → ∀ (H' : Hp), Fr [p] H H' → WireAt A H' p l n xs (e + 1) → Q (.bl true) H')
def sp_Wire_take (K : PySem.W.Frag) (A : Ad) : Sp := fun vs H Q _ => ∃ x0 x1, vs = [x0, x1] ∧ P_Wire_take K A x0 x1 H Q
theorem c_Wire_take {K : PySem.W.Frag} {A : Ad} {x0 x1 : V} {H : Hp} {Q : VK} {E : XK} (h : P_Wire_take K A x0 x1 H Q) : sp_Wire_take K A [x0, x1] H Q E := ⟨_, _, rfl, h⟩
theorem sc_Wire_take : FnScope ["self", "number"] ["self", "number"] (defScope s_Wire_take) := ⟨rfl, rfl, rfl, by decide +kernel, rfl, by decide +kernel, by decide +kernel⟩
def t_Wire_take (K : PySem.W.Frag) (A : Ad) : TS :=
  (tSeq (tIfS (tTest (tOp rNe (tVar 1) (tFld K (tVar 0) "expected"))) (tRet (tC (.bl false))) tNext)
    (tSeq (sFldAug K (tVar 0) (tC (.int 1)) rAdd "expected")
    (tRet (tC (.bl true)))))
theorem pu_Wire_take (T : Txt K mg A) {x0 x1 : V} {H : Hp} {Q : VK} (h : P_Wire_take K A x0 x1 H Q) : t_Wire_take K A { nx := fun _ H' => Q .non H', rt := Q } [some x0, some x1] H := by
  obtain ⟨p, l, n, xs, e, z, rfl, rfl, ⟨⟨dx, hp⟩, hl⟩, k1, k2⟩ := h
  have npl : l ≠ p := ne_of hl hp (by intro z; cases z)
  unfold t_Wire_take
  walk_at "go"
  refine g_iteN (fun c => ?_) (fun c => ?_)
  · walk_at "go"
    exact k1 c
  · walk_at "go"
    rename_i H1 f1 e1
    exact k2 c H1 f1 ⟨⟨dx, e1⟩, by walk_at "fact"⟩
theorem ok_Wire_take {f : Addr} {fd : FuncData} (F : Fun K "take" "Wire.take" s_Wire_take f fd) (T : Txt K mg A)  : FnOk P w K mg base CX0 (1) f fd ["self", "number"] (sp_Wire_take K A) := by
  refine F.ok sc_Wire_take (fun vs H Q E h => ?_) (fun cdv Ar outer s H vs Q E hr h => ⟨t_Wire_take K A, ?_, ?_⟩)
  · obtain ⟨x0, x1, rfl, _⟩ := h
    rfl
  · have hu := hu_of hr
    exact (pss_cons (ps_if (pt_cmpR op_ne (pv 1) (pe_fld (pv 0) rfl) (nomark _)) (pss_one (ps_ret pe_bl)) pss_nil)
    (pss_cons (ps_fldaug (pv 0) pe_int in_add)
    (pss_one (ps_ret pe_bl))))
  · obtain ⟨x0, x1, rfl, h⟩ := h
    exact pu_Wire_take T h
/-- the outbox's items: pairs of a number and a body -/
def OutD (ps : List (Int × PyData)) : List PyData := ps.map fun q => PyData.tuple [.int q.1, q.2]
theorem OutD.get {ps : List (Int × PyData)} {i : Nat} {d : PyData} (h : (OutD ps)[i]? = some d) : ∃ q, ps[i]? = some q ∧ d = .tuple [.int q.1, q.2] := by
  unfold OutD at h
  rw [List.getElem?_map] at h
  cases e : ps[i]? with
  | none => rw [e] at h; cases h
  | some q => rw [e] at h; exact ⟨q, rfl, (Option.some.inj h).symm⟩
theorem OutD.imm {ps qs : List (Int × PyData)} (h : immL (OutD ps) = true) (s : ∀ q ∈ qs, q ∈ ps) : immL (OutD qs) = true := immL_of fun d hd => by
  obtain ⟨q, hq, rfl⟩ := List.mem_map.mp hd
  exact imm_of h _ (List.mem_map.mpr ⟨q, s q hq, rfl⟩)
theorem OutD.app {ps qs : List (Int × PyData)} : OutD (ps ++ qs) = OutD ps ++ OutD qs := List.map_append
def P_Wire_acknowledged (K : PySem.W.Frag) (A : Ad) (x0 x1 : V) (H : Hp) (Q : VK) : Prop := ∃ (p l : Addr) (n : Int) (xs : List V) (e z : Int) (ps : List (Int × PyData)), x0 = .ref p ∧ x1 = .int z ∧ WireAt A H p l n xs e ∧ DaL H xs (OutD ps) ∧ immL (OutD ps) = true ∧ xs.length ≤ 100000 ∧
  ∀ (H' : Hp) (l' : Addr) (ys : List V), H l' = none → Fr [p] H H' → WireAt A H' p l' n ys e → DaL H' ys (OutD (ps.filter fun q => decide (z < q.1))) → Q .non H'
def sp_Wire_acknowledged (K : PySem.W.Frag) (A : Ad) : Sp := fun vs H Q _ => ∃ x0 x1, vs = [x0, x1] ∧ P_Wire_acknowledged K A x0 x1 H Q
theorem c_Wire_acknowledged {K : PySem.W.Frag} {A : Ad} {x0 x1 : V} {H : Hp} {Q : VK} {E : XK} (h : P_Wire_acknowledged K A x0 x1 H Q) : sp_Wire_acknowledged K A [x0, x1] H Q E := ⟨_, _, rfl, h⟩
theorem sc_Wire_acknowledged : FnScope ["self", "number", "pair"] ["self", "number"] (defScope s_Wire_acknowledged) := ⟨rfl, rfl, rfl, by decide +kernel, rfl, by decide +kernel, by decide +kernel⟩
def t_Wire_acknowledged (K : PySem.W.Frag) (A : Ad) : TS :=
  (sFld K (tVar 0) (tLc (iList K (tFld K (tVar 0) "outbox")) (gName 2) (tTest (tOp cGt (tOp (rIxT K) (tVar 2) (tC (.int 0))) (tVar 1))) (tVar 2) [2]) "outbox")
theorem pu_Wire_acknowledged (T : Txt K mg A) {x0 x1 : V} {H : Hp} {Q : VK} (h : P_Wire_acknowledged K A x0 x1 H Q) : t_Wire_acknowledged K A { nx := fun _ H' => Q .non H', rt := Q } [some x0, some x1, none] H := by
  obtain ⟨p, l, n, xs, e, z, ps, rfl, rfl, ⟨⟨dx, hp⟩, hl⟩, ho, hi, hz, k⟩ := h
  have npl : l ≠ p := ne_of hl hp (by intro z; cases z)
  unfold t_Wire_acknowledged
  walk_at "go"
  refine l_list (xs := xs) fun Dl H0 nD f0 e0 => ⟨fun i acc H' => Fr [] H H' ∧ DaL H' acc (OutD ((ps.take i).filter fun q => decide (z < q.1))), ⟨f0, .nil⟩, fun i acc H' q => q.1.sql (SqL.of hl) nin0, fun i x acc H' hx ha ⟨f1, r1⟩ => ?_, fun acc H' ha ⟨f1, r1⟩ => ?_⟩
  · have hlt := (List.getElem?_eq_some_iff.mp hx).1
    obtain ⟨d, hd, dd⟩ := ho.get hx
    have himm := immL_get hi hd
    obtain ⟨q, hq, rfl⟩ := OutD.get hd
    obtain ⟨a, ys, rfl, e1, _, r2⟩ := dd.tup1
    obtain ⟨y0, y1, rfl, d0, d1⟩ := r2.two
    cases d0.int1
    have e1' := f1.tup _ _ e1
    have fm := filter_more (f := fun q : Int × PyData => decide (z < q.1)) hq
    have hlen : acc.length ≤ 100000 := by
      rw [r1.len]
      unfold OutD
      rw [List.length_map]
      refine Nat.le_trans (List.length_filter_le _ _) ?_
      rw [List.length_take]
      have := ho.len
      unfold OutD at this
      rw [List.length_map] at this
      omega
    walk_at "go"
    refine ⟨rfl, ?_⟩
    walk_at "go"
    refine g_ite (fun c => ?_) (fun c => ?_)
    · walk_at "go"
      refine lcY_of ha (by walk_at "sz") fun H5 f5 e5 => ⟨f1.own1 f5 nD, ?_⟩
      rw [fm, if_pos (decide_eq_true c), OutD.app]
      exact (DaL.frL f5 r1 (OutD.imm hi fun q hq => List.mem_of_mem_take ((List.mem_filter.mp hq).1))).append (.one' (Da.frL f5 (Da.frL f1 dd himm) himm))
    · refine lcN_of ha ⟨f1, ?_⟩
      rw [fm, if_neg (by simpa using c), List.append_nil]
      exact r1
  · have hlen : xs.length = ps.length := by rw [ho.len]; unfold OutD; rw [List.length_map]
    rw [hlen, List.take_length] at r1
    walk_at "go"
    rename_i H2 f2 e2
    exact k H2 Dl acc nD (by walk_at "fr") ⟨⟨dx, e2⟩, by walk_at "fact"⟩ (DaL.frL f2 r1 (OutD.imm hi fun q hq => (List.mem_filter.mp hq).1))
theorem ok_Wire_acknowledged {f : Addr} {fd : FuncData} (F : Fun K "acknowledged" "Wire.acknowledged" s_Wire_acknowledged f fd) (T : Txt K mg A)  : FnOk P w K mg base CX0 (1) f fd ["self", "number"] (sp_Wire_acknowledged K A) := by
  refine F.ok sc_Wire_acknowledged (fun vs H Q E h => ?_) (fun cdv Ar outer s H vs Q E hr h => ⟨t_Wire_acknowledged K A, ?_, ?_⟩)
  · obtain ⟨x0, x1, rfl, _⟩ := h
    rfl
  · have hu := hu_of hr
    exact (pss_one (ps_fld (pv 0) (pe_lc (own := [("pair", 2)]) (g := (gName 2)) (tt := (tTest (tOp cGt (tOp (rIxT K) (tVar 2) (tC (.int 0))) (tVar 1)))) rfl sc_Wire_acknowledged.nd (pi_list (pe_fld (pv 0) rfl)) (blkOk_by (N := ["self", "number", "pair"]) (sc := defScope s_Wire_acknowledged) (own := [("pair", 2)]) (by decide +kernel)) (fun _ _ _ _ _ => (pg_name (i := 2) sc_Wire_acknowledged.nd rfl (Or.inl rfl))) (fun _ _ _ _ _ => (pts_one (pt_cmpR c_gt (pe_ix ix_tup (pv 2) pe_int (fun _ _ => rfl)) (pv 1) (nomark _)))) (fun _ _ _ _ _ => (pv 2))) rfl))
  · obtain ⟨x0, x1, rfl, h⟩ := h
    exact pu_Wire_acknowledged T h

/-! ### two wires and a net, plainly -/
def bodyD (a b : Int) : PyData := .tuple [.str "give", .int a, .int b]
inductive Let where
  | data (e n : Nat) (b : PyData)
  | ack (e n : Nat)
structure Mo where
  sent : Nat → List PyData
  exp : Nat → Nat
  known : Nat → Nat
  net : List Let
def Let.ok (M : Mo) : Let → Prop
  | .data e n b => e < 2 ∧ (M.sent (1 - e))[n]? = some b
  | .ack e n => e < 2 ∧ n + 1 ≤ M.exp (1 - e)
structure Mo.Inv (M : Mo) : Prop where
  le1 : ∀ e, e < 2 → M.known e ≤ M.exp (1 - e)
  le2 : ∀ e, e < 2 → M.exp (1 - e) ≤ (M.sent e).length
  ok : ∀ L ∈ M.net, L.ok M
def setN {α : Type} (f : Nat → α) (e : Nat) (v : α) : Nat → α := fun i => if i = e then v else f i
theorem setN_same {α : Type} {f : Nat → α} {e : Nat} {v : α} : setN f e v e = v := if_pos rfl
theorem setN_ne {α : Type} {f : Nat → α} {e i : Nat} {v : α} (h : i ≠ e) : setN f e v i = f i := if_neg h
def Mo.deliv (M : Mo) : Let → Mo
  | .ack e n => { M with known := setN M.known e (max (M.known e) (n + 1)) }
  | .data e n _ => if n = M.exp e then { M with exp := setN M.exp e (n + 1), net := M.net ++ [.ack (1 - e) n] }
      else if n < M.exp e then { M with net := M.net ++ [.ack (1 - e) (M.exp e - 1)] } else M
/-- the letters of a tick -/
def Mo.lets (M : Mo) (e : Nat) : List Let := (List.range' (M.known e) ((M.sent e).length - M.known e)).map fun n => .data (1 - e) n ((M.sent e).getD n .none)
def Mo.tick (M : Mo) (e : Nat) : Mo := { M with net := M.net ++ M.lets e }
def Mo.round (M : Mo) : Mo := (M.net ++ M.lets 0 ++ M.lets 1).foldl Mo.deliv { M with net := [] }
theorem two {e : Nat} (h : e < 2) : 1 - (1 - e) = e := by omega
theorem deliv_sent {M : Mo} {L : Let} : (M.deliv L).sent = M.sent := by
  cases L with
  | ack e n => rfl
  | data e n b => unfold Mo.deliv; dsimp only; split; rfl; split <;> rfl
theorem deliv_exp {M : Mo} {L : Let} (e : Nat) : M.exp e ≤ (M.deliv L).exp e := by
  cases L with
  | ack e n => exact Nat.le_refl _
  | data e' n b =>
    unfold Mo.deliv; dsimp only
    split
    · rename_i h
      show M.exp e ≤ setN M.exp e' (n + 1) e
      unfold setN
      split <;> simp_all
    · split <;> exact Nat.le_refl _
theorem deliv_known {M : Mo} {L : Let} (e : Nat) : M.known e ≤ (M.deliv L).known e := by
  cases L with
  | ack e' n =>
    show M.known e ≤ setN M.known e' _ e
    unfold setN
    split
    · rename_i h; rw [h]; exact Nat.le_max_left _ _
    · exact Nat.le_refl _
  | data e' n b => unfold Mo.deliv; dsimp only; split; exact Nat.le_refl _; split <;> exact Nat.le_refl _
theorem deliv_net {M : Mo} {L : Let} : ∃ r, (M.deliv L).net = M.net ++ r ∧ r.length ≤ 1 := by
  cases L with
  | ack e' n => exact ⟨[], (List.append_nil _).symm, Nat.zero_le _⟩
  | data e' n b =>
    unfold Mo.deliv; dsimp only
    split
    · exact ⟨_, rfl, Nat.le_refl _⟩
    · split
      · exact ⟨_, rfl, Nat.le_refl _⟩
      · exact ⟨[], (List.append_nil _).symm, Nat.zero_le _⟩
theorem Let.ok.mono {M M' : Mo} {L : Let} (h : L.ok M) (hs : M'.sent = M.sent) (he : ∀ e, M.exp e ≤ M'.exp e) : L.ok M' := by
  cases L with
  | ack e n => exact ⟨h.1, Nat.le_trans h.2 (he _)⟩
  | data e n b => exact ⟨h.1, by rw [hs]; exact h.2⟩
theorem Let.ok.del {M : Mo} {L L' : Let} (h : L.ok M) : L.ok (M.deliv L') := h.mono deliv_sent deliv_exp
theorem Mo.Inv.deliv {M : Mo} {L : Let} (I : M.Inv) (h : L.ok M) : (M.deliv L).Inv := by
  have hnet : ∀ x : Let, x ∈ M.net → x.ok (M.deliv L) := fun x hx => (I.ok x hx).del
  cases L with
  | ack e n =>
    refine ⟨fun i hi => ?_, I.le2, hnet⟩
    show setN M.known e _ i ≤ M.exp (1 - i)
    unfold setN
    split
    · rename_i q; subst q; exact Nat.max_le.mpr ⟨I.le1 i hi, h.2⟩
    · exact I.le1 i hi
  | data e n b =>
    obtain ⟨he, hb⟩ := h
    have hn := (List.getElem?_eq_some_iff.mp hb).1
    have k1 := fun (x : Mo) => I
    by_cases q : n = M.exp e
    · have ed : M.deliv (.data e n b) = { M with exp := setN M.exp e (n + 1), net := M.net ++ [.ack (1 - e) n] } := by unfold Mo.deliv; exact if_pos q
      rw [ed] at hnet ⊢
      refine ⟨fun i hi => ?_, fun i hi => ?_, fun x hx => ?_⟩
      · show M.known i ≤ setN M.exp e (n + 1) (1 - i)
        have := I.le1 i hi
        unfold setN
        split
        · rename_i z; rw [z] at this; omega
        · exact this
      · show setN M.exp e (n + 1) (1 - i) ≤ (M.sent i).length
        unfold setN
        split
        · rename_i z; have : i = 1 - e := by omega
          rw [this]; exact hn
        · exact I.le2 i hi
      · rcases List.mem_append.mp hx with hx | hx
        · exact hnet x hx
        · rw [List.mem_singleton.mp hx]
          refine ⟨by omega, ?_⟩
          show n + 1 ≤ setN M.exp e (n + 1) (1 - (1 - e))
          rw [two he, setN_same]
          exact Nat.le_refl _
    · by_cases q2 : n < M.exp e
      · have ed : M.deliv (.data e n b) = { M with net := M.net ++ [.ack (1 - e) (M.exp e - 1)] } := by unfold Mo.deliv; dsimp only; rw [if_neg q, if_pos q2]
        rw [ed] at hnet ⊢
        refine ⟨I.le1, I.le2, fun x hx => ?_⟩
        rcases List.mem_append.mp hx with hx | hx
        · exact hnet x hx
        · rw [List.mem_singleton.mp hx]
          refine ⟨by omega, ?_⟩
          show M.exp e - 1 + 1 ≤ M.exp (1 - (1 - e))
          rw [two he]; omega
      · have ed : M.deliv (.data e n b) = M := by unfold Mo.deliv; dsimp only; rw [if_neg q, if_neg q2]
        rw [ed]; exact I
theorem deliv_now {M : Mo} {e n : Nat} {b : PyData} (q : n = M.exp e) : M.deliv (.data e n b) = { M with exp := setN M.exp e (n + 1), net := M.net ++ [.ack (1 - e) n] } := by unfold Mo.deliv; exact if_pos q
theorem deliv_old {M : Mo} {e n : Nat} {b : PyData} (q : n < M.exp e) : M.deliv (.data e n b) = { M with net := M.net ++ [.ack (1 - e) (M.exp e - 1)] } := by unfold Mo.deliv; dsimp only; rw [if_neg (Nat.ne_of_lt q), if_pos q]
theorem deliv_far {M : Mo} {e n : Nat} {b : PyData} (q : M.exp e < n) : M.deliv (.data e n b) = M := by unfold Mo.deliv; dsimp only; rw [if_neg (Nat.ne_of_gt q), if_neg (by omega)]
theorem lets_ok {M : Mo} {e : Nat} (he : e < 2) : ∀ L ∈ M.lets e, L.ok M := fun L h => by
  obtain ⟨n, hn, rfl⟩ := List.mem_map.mp h
  obtain ⟨h1, h2⟩ := List.mem_range'_1.mp hn
  refine ⟨by omega, ?_⟩
  rw [two he]
  have : n < (M.sent e).length := by omega
  rw [List.getD_eq_getElem?_getD, List.getElem?_eq_getElem this]; rfl
theorem Mo.Inv.tick {M : Mo} {e : Nat} (I : M.Inv) (he : e < 2) : (M.tick e).Inv := ⟨I.le1, I.le2, fun L h => (List.mem_append.mp h).elim (fun q => (I.ok L q).mono rfl fun _ => Nat.le_refl _) (fun q => (lets_ok he L q).mono rfl fun _ => Nat.le_refl _)⟩
theorem Mo.Inv.clear {M : Mo} (I : M.Inv) : ({ M with net := [] } : Mo).Inv := ⟨I.le1, I.le2, fun _ h => nomatch h⟩
/-! a run over letters -/
structure RunTo (M M' : Mo) : Prop where
  s : M'.sent = M.sent
  e : ∀ i, M.exp i ≤ M'.exp i
  k : ∀ i, M.known i ≤ M'.known i
  n : ∀ L, L ∈ M.net → L ∈ M'.net
  i : M'.Inv
theorem run_to : ∀ (Ls : List Let) (M : Mo), M.Inv → (∀ L ∈ Ls, L.ok M) → RunTo M (Ls.foldl Mo.deliv M)
  | [], M, I, _ => ⟨rfl, fun _ => Nat.le_refl _, fun _ => Nat.le_refl _, fun _ h => h, I⟩
  | L :: Ls, M, I, h => by
    have r := run_to Ls (M.deliv L) (I.deliv (h L List.mem_cons_self)) fun x hx => (h x (List.mem_cons_of_mem _ hx)).del
    refine ⟨r.s.trans deliv_sent, fun i => Nat.le_trans (deliv_exp i) (r.e i), fun i => Nat.le_trans (deliv_known i) (r.k i), fun x hx => r.n x ?_, r.i⟩
    obtain ⟨t, ht, _⟩ := deliv_net (M := M) (L := L)
    rw [ht]; exact List.mem_append_left _ hx
theorem run_net : ∀ (Ls : List Let) (M : Mo), (Ls.foldl Mo.deliv M).net.length ≤ M.net.length + Ls.length
  | [], M => Nat.le_refl _
  | L :: Ls, M => by
    have r := run_net Ls (M.deliv L)
    obtain ⟨t, ht, h1⟩ := deliv_net (M := M) (L := L)
    rw [ht, List.length_append] at r
    simp only [List.foldl_cons, List.length_cons]
    omega
/-- all letters of a tick are delivered: their end has all -/
theorem run_lets (S : List PyData) (e : Nat) : ∀ (m k : Nat) (M : Mo), k ≤ M.exp e → k + m ≤ (((List.range' k m).map fun n => Let.data e n (S.getD n .none)).foldl Mo.deliv M).exp e
  | 0, k, M, h => h
  | m + 1, k, M, h => by
    have q : k + 1 ≤ (M.deliv (.data e k (S.getD k .none))).exp e := by
      unfold Mo.deliv; dsimp only
      split
      · show k + 1 ≤ setN M.exp e (k + 1) e
        rw [setN_same]; exact Nat.le_refl _
      · split
        · show k + 1 ≤ M.exp e; omega
        · omega
    have r := run_lets S e m (k + 1) _ q
    rw [List.range'_succ, List.map_cons, List.foldl_cons]
    omega
theorem run_split {Ls : List Let} {L : Let} (h : L ∈ Ls) (M : Mo) : ∃ A B : List Let, Ls.foldl Mo.deliv M = B.foldl Mo.deliv ((A.foldl Mo.deliv M).deliv L) ∧ (∀ x ∈ A, x ∈ Ls) ∧ ∀ x ∈ B, x ∈ Ls := by
  obtain ⟨A, B, rfl⟩ := List.append_of_mem h
  exact ⟨A, B, by rw [List.foldl_append, List.foldl_cons], fun x hx => List.mem_append_left _ hx, fun x hx => List.mem_append_right _ (List.mem_cons_of_mem _ hx)⟩
def Mo.all (M : Mo) : List Let := M.net ++ M.lets 0 ++ M.lets 1
theorem all_ok {M : Mo} (I : M.Inv) : ∀ L ∈ M.all, L.ok ({ M with net := [] } : Mo) := fun L h => by
  refine Let.ok.mono (M := M) ?_ rfl fun _ => Nat.le_refl _
  rcases List.mem_append.mp h with h | h
  · rcases List.mem_append.mp h with h | h
    · exact I.ok L h
    · exact lets_ok (by decide) L h
  · exact lets_ok (by decide) L h
theorem round_to {M : Mo} (I : M.Inv) : RunTo { M with net := [] } M.round := run_to _ _ I.clear (all_ok I)
/-- behind the first round all bodies are handled -/
theorem round1 {M : Mo} (I : M.Inv) : ∀ e, e < 2 → M.round.exp (1 - e) = (M.sent e).length := by
  intro e he
  have R := round_to I
  have hi : M.round.exp (1 - e) ≤ (M.sent e).length := by have := R.i.le2 e he; rw [R.s] at this; exact this
  refine Nat.le_antisymm hi ?_
  have key : ∀ A B : List Let, M.all = A ++ M.lets e ++ B → (M.sent e).length ≤ M.round.exp (1 - e) := by
    intro A B hab
    have e1 : M.round = B.foldl Mo.deliv ((M.lets e).foldl Mo.deliv (A.foldl Mo.deliv { M with net := [] })) := by
      show M.all.foldl Mo.deliv _ = _
      rw [hab, List.foldl_append, List.foldl_append]
    have ok := all_ok I
    rw [hab] at ok
    have ra := run_to A { M with net := [] } I.clear fun x hx => ok x (List.mem_append_left _ (List.mem_append_left _ hx))
    have okL : ∀ x ∈ M.lets e, x.ok (A.foldl Mo.deliv { M with net := [] }) := fun x hx => (ok x (List.mem_append_left _ (List.mem_append_right _ hx))).mono ra.s ra.e
    have rl := run_to (M.lets e) _ ra.i okL
    have rb := run_to B _ rl.i fun x hx => ((ok x (List.mem_append_right _ hx)).mono ra.s ra.e).mono rl.s rl.e
    have w := run_lets (M.sent e) (1 - e) ((M.sent e).length - M.known e) (M.known e) (A.foldl Mo.deliv { M with net := [] }) (Nat.le_trans (I.le1 e he) (ra.e _))
    have w2 := rb.e (1 - e)
    rw [← e1] at w2
    have : (M.sent e).length ≤ ((M.lets e).foldl Mo.deliv (A.foldl Mo.deliv { M with net := [] })).exp (1 - e) := by
      refine Nat.le_trans ?_ w
      have := I.le1 e he; have := I.le2 e he
      omega
    exact Nat.le_trans this w2
  match e, he with
  | 0, _ => exact key M.net (M.lets 1) rfl
  | 1, _ => exact key (M.net ++ M.lets 0) [] (List.append_nil _).symm
theorem round2 {M : Mo} (I : M.Inv) (hf : ∀ e, e < 2 → M.exp (1 - e) = (M.sent e).length) : ∀ e, e < 2 → M.known e = (M.sent e).length ∨ Let.ack e ((M.sent e).length - 1) ∈ M.round.net := by
  intro e he
  by_cases hk : M.known e = (M.sent e).length
  · exact .inl hk
  · refine .inr ?_
    have hlt : M.known e < (M.sent e).length := by have := I.le1 e he; have := hf e he; omega
    have hm : Let.data (1 - e) (M.known e) ((M.sent e).getD (M.known e) .none) ∈ M.all := by
      have : Let.data (1 - e) (M.known e) ((M.sent e).getD (M.known e) .none) ∈ M.lets e := List.mem_map.mpr ⟨_, List.mem_range'_1.mpr ⟨Nat.le_refl _, by omega⟩, rfl⟩
      match e, he, this with
      | 0, _, q => exact List.mem_append_left _ (List.mem_append_right _ q)
      | 1, _, q => exact List.mem_append_right _ q
    obtain ⟨A, B, e1, hA, hB⟩ := run_split hm { M with net := [] }
    have ok := all_ok I
    have ra := run_to A { M with net := [] } I.clear fun x hx => ok x (hA x hx)
    have oL := (ok _ hm).mono ra.s ra.e
    have rb := run_to B _ (ra.i.deliv oL) fun x hx => ((ok x (hB x hx)).mono ra.s ra.e).del
    have e2 : M.round = B.foldl Mo.deliv ((A.foldl Mo.deliv { M with net := [] }).deliv (.data (1 - e) (M.known e) ((M.sent e).getD (M.known e) .none))) := e1
    rw [e2]
    refine rb.n _ ?_
    have hx : (A.foldl Mo.deliv { M with net := [] }).exp (1 - e) = (M.sent e).length := by
      have a := ra.e (1 - e)
      have b := ra.i.le2 e he
      rw [ra.s] at b
      have c : (M.sent e).length ≤ (A.foldl Mo.deliv { M with net := [] }).exp (1 - e) := by rw [← hf e he]; exact a
      exact Nat.le_antisymm b c
    rw [deliv_old (by rw [hx]; omega), hx, two he]
    exact List.mem_append_right _ (List.mem_singleton.mpr rfl)
theorem round3 {M : Mo} (I : M.Inv) (hf : ∀ e, e < 2 → M.exp (1 - e) = (M.sent e).length) (ha : ∀ e, e < 2 → M.known e = (M.sent e).length ∨ Let.ack e ((M.sent e).length - 1) ∈ M.net) : ∀ e, e < 2 → M.round.known e = (M.sent e).length := by
  intro e he
  have R := round_to I
  have hi : M.round.known e ≤ (M.sent e).length := by have a := R.i.le1 e he; have b := R.i.le2 e he; rw [R.s] at b; exact Nat.le_trans a b
  refine Nat.le_antisymm hi ?_
  rcases ha e he with h | h
  · rw [← h]; exact R.k e
  · have hm : Let.ack e ((M.sent e).length - 1) ∈ M.all := List.mem_append_left _ (List.mem_append_left _ h)
    obtain ⟨A, B, e1, hA, hB⟩ := run_split hm { M with net := [] }
    have ok := all_ok I
    have ra := run_to A { M with net := [] } I.clear fun x hx => ok x (hA x hx)
    have oL := (ok _ hm).mono ra.s ra.e
    have rb := run_to B _ (ra.i.deliv oL) fun x hx => ((ok x (hB x hx)).mono ra.s ra.e).del
    have e2 : M.round = B.foldl Mo.deliv ((A.foldl Mo.deliv { M with net := [] }).deliv (.ack e ((M.sent e).length - 1))) := e1
    rw [e2]
    refine Nat.le_trans ?_ (rb.k e)
    show (M.sent e).length ≤ setN _ e _ e
    rw [setN_same]
    omega
/-- three rounds: all is handled, all is acknowledged -/
theorem rounds3 {M : Mo} (I : M.Inv) : ∀ e, e < 2 → M.round.round.round.sent e = M.sent e ∧ M.round.round.round.exp (1 - e) = (M.sent e).length ∧ M.round.round.round.known e = (M.sent e).length := by
  intro e he
  have R1 := round_to I
  have R2 := round_to R1.i
  have R3 := round_to R2.i
  have s1 : M.round.sent = M.sent := R1.s
  have s2 : M.round.round.sent = M.sent := R2.s.trans s1
  have s3 : M.round.round.round.sent = M.sent := R3.s.trans s2
  have f1 : ∀ e, e < 2 → M.round.exp (1 - e) = (M.round.sent e).length := fun e he => by rw [s1]; exact round1 I e he
  have f2 : ∀ e, e < 2 → M.round.round.exp (1 - e) = (M.round.round.sent e).length := fun e he => by
    rw [s2, ← s1]
    exact round1 R1.i e he
  have a2 := round2 R1.i f1
  have a3 : ∀ e, e < 2 → M.round.round.known e = (M.round.round.sent e).length ∨ Let.ack e ((M.round.round.sent e).length - 1) ∈ M.round.round.net := fun e he => by
    rw [s2, ← s1]
    refine (a2 e he).imp (fun q => ?_) id
    have h1 := R2.k e
    have h2 := R2.i.le1 e he
    have h3 := f2 e he
    rw [s2, ← s1] at h3
    have h4 : M.round.known e ≤ M.round.round.known e := h1
    omega
  have k3 := round3 R2.i f2 a3 e he
  have f3 := round1 R2.i e he
  rw [s2] at k3 f3
  exact ⟨by rw [s3], f3, k3⟩

/-! ### how two wires, a net and the law's lists stand -/
def letD : Let → PyData
  | .data e n b => .tuple [.int e, .str "data", .int n, b]
  | .ack e n => .tuple [.int e, .str "ack", .int n, .none]
/-- numbers and bodies from number k on -/
def psn (S : List PyData) (k m : Nat) : List (Int × PyData) := (List.range' k m).map fun (n : Nat) => ((n : Int), S.getD n .none)
theorem psn_more (S : List PyData) (k m : Nat) : psn S k (m + 1) = psn S k m ++ [(((k + m : Nat) : Int), S.getD (k + m) .none)] := by
  unfold psn
  rw [List.range'_1_concat, List.map_append]; rfl
theorem psn_len (S : List PyData) (k m : Nat) : (psn S k m).length = m := by unfold psn; rw [List.length_map, List.length_range']
theorem psn_get {S : List PyData} {k m i : Nat} {q : Int × PyData} (h : (psn S k m)[i]? = some q) : i < m ∧ q = (((k + i : Nat) : Int), S.getD (k + i) .none) := by
  have hi : i < m := by have := (List.getElem?_eq_some_iff.mp h).1; rwa [psn_len] at this
  refine ⟨hi, ?_⟩
  unfold psn at h
  rw [List.getElem?_map, List.getElem?_range' hi] at h
  have e := (Option.some.inj h).symm
  rw [Nat.one_mul] at e
  exact e
theorem psn_app {S : List PyData} {b : PyData} {k : Nat} (h : k ≤ S.length) : psn (S ++ [b]) k ((S ++ [b]).length - k) = psn S k (S.length - k) ++ [((S.length : Int), b)] := by
  have e : (S ++ [b]).length - k = (S.length - k) + 1 := by rw [List.length_append]; simp only [List.length_cons, List.length_nil]; omega
  rw [e, psn_more]
  have e2 : k + (S.length - k) = S.length := by omega
  rw [e2]
  congr 1
  · unfold psn
    refine List.map_congr_left fun n hn => ?_
    have : n < S.length := by have := List.mem_range'_1.mp hn; omega
    rw [List.getD_eq_getElem?_getD, List.getD_eq_getElem?_getD, List.getElem?_append_left this]
  · rw [List.getD_eq_getElem?_getD, List.getElem?_append_right (Nat.le_refl _), Nat.sub_self]; rfl
theorem psn_ack (S : List PyData) (z : Nat) : ∀ (m k : Nat), (psn S k m).filter (fun q => decide (((z : Nat) : Int) < q.1)) = psn S (max k (z + 1)) (k + m - max k (z + 1))
  | 0, k => by
    have : k + 0 - max k (z + 1) = 0 := by omega
    rw [this]; rfl
  | m + 1, k => by
    have ih := psn_ack S z m (k + 1)
    have e : psn S k (m + 1) = ((k : Int), S.getD k .none) :: psn S (k + 1) m := by unfold psn; rw [List.range'_succ]; rfl
    rw [e, List.filter_cons, ih]
    by_cases h : z < k
    · rw [if_pos (by simp only [decide_eq_true_eq]; omega)]
      have e1 : max (k + 1) (z + 1) = k + 1 := by omega
      have e2 : max k (z + 1) = k := by omega
      rw [e1, e2]
      have e3 : k + (m + 1) - k = (k + 1 + m - (k + 1)) + 1 := by omega
      rw [e3]
      unfold psn; rw [List.range'_succ]; rfl
    · rw [if_neg (by simp only [decide_eq_true_eq]; omega)]
      have e1 : max (k + 1) (z + 1) = z + 1 := by omega
      have e2 : max k (z + 1) = z + 1 := by omega
      rw [e1, e2]
      have e3 : k + (m + 1) = k + 1 + m := by omega
      rw [e3]
abbrev outs (M : Mo) (e : Nat) : List (Int × PyData) := psn (M.sent e) (M.known e) ((M.sent e).length - M.known e)
structure KW (A : Ad) (H : Hp) (ad ob : Nat → Addr) (M : Mo) : Prop where
  inj : ∀ i j, i < 13 → j < 13 → i ≠ j → ad i ≠ ad j
  obn : ∀ e i, e < 2 → i < 13 → ob e ≠ ad i
  obo : ob 0 ≠ ob 1
  dr : Draws H (ad 0) (ad 1)
  ws : H (ad 2) = some (.lst [.ref (ad 7), .ref (ad 8)])
  ne : ∃ xs, H (ad 3) = some (.lst xs) ∧ DaL H xs (M.net.map letD)
  ss : H (ad 4) = some (.lst [.ref (ad 9), .ref (ad 10)])
  hs : H (ad 5) = some (.lst [.ref (ad 11), .ref (ad 12)])
  ks : H (ad 6) = some (.lst [.int (M.known 0), .int (M.known 1)])
  wi : ∀ e, e < 2 → ∃ xs, WireAt A H (ad (7 + e)) (ob e) (M.sent e).length xs (M.exp e) ∧ DaL H xs (OutD (outs M e))
  sl : ∀ e, e < 2 → ∃ xs, H (ad (9 + e)) = some (.lst xs) ∧ DaL H xs (M.sent e)
  hl : ∀ e, e < 2 → ∃ xs, H (ad (11 + e)) = some (.lst xs) ∧ DaL H xs ((M.sent (1 - e)).take (M.exp e))
  im : ∀ e, e < 2 → ∀ b ∈ M.sent e, ∃ i j, b = bodyD i j
  inv : M.Inv
theorem im_sent {S : List PyData} (h : ∀ b ∈ S, ∃ i j, b = bodyD i j) : immL S = true := immL_of fun d hd => by obtain ⟨i, j, rfl⟩ := h d hd; rfl
theorem im_getD {S : List PyData} (h : ∀ b ∈ S, ∃ i j, b = bodyD i j) (n : Nat) : imm (S.getD n .none) = true ∧ dp (S.getD n .none) ≤ 1 := by
  rw [List.getD_eq_getElem?_getD]
  cases e : S[n]? with
  | none => exact ⟨rfl, Nat.zero_le _⟩
  | some b =>
    obtain ⟨i, j, rfl⟩ := h b (List.mem_of_getElem? e)
    exact ⟨rfl, by simp [bodyD, dp, dpL]⟩
theorem im_psn {S : List PyData} (h : ∀ b ∈ S, ∃ i j, b = bodyD i j) (k m : Nat) : immL (OutD (psn S k m)) = true := immL_of fun d hd => by
  obtain ⟨q, hq, rfl⟩ := List.mem_map.mp hd
  obtain ⟨n, _, rfl⟩ := List.mem_map.mp hq
  show (true && (imm (S.getD n .none) && true)) = true
  rw [(im_getD h n).1]; rfl
theorem dp_psn {S : List PyData} (h : ∀ b ∈ S, ∃ i j, b = bodyD i j) (k m : Nat) : dpL (OutD (psn S k m)) ≤ 4 := dpL_le fun d hd => by
  obtain ⟨q, hq, rfl⟩ := List.mem_map.mp hd
  obtain ⟨n, _, rfl⟩ := List.mem_map.mp hq
  have := (im_getD h n).2
  simp only [dp, dpL]
  omega
theorem im_let {M : Mo} (h : ∀ e, e < 2 → ∀ b ∈ M.sent e, ∃ i j, b = bodyD i j) {L : Let} (hL : L.ok M) : imm (letD L) = true := by
  cases L with
  | ack e n => rfl
  | data e n b =>
    obtain ⟨i, j, rfl⟩ := h (1 - e) (by have := hL.1; omega) b (List.mem_of_getElem? hL.2)
    rfl
theorem im_lets {M : Mo} (h : ∀ e, e < 2 → ∀ b ∈ M.sent e, ∃ i j, b = bodyD i j) {Ls : List Let} (hL : ∀ L ∈ Ls, L.ok M) : immL (Ls.map letD) = true := immL_of fun d hd => by
  obtain ⟨L, hq, rfl⟩ := List.mem_map.mp hd
  exact im_let h (hL L hq)
theorem adn {ad : Nat → Addr} {js : List Nat} {i : Nat} (h : ∀ j ∈ js, ad i ≠ ad j) : ad i ∉ js.map ad := fun q => by
  obtain ⟨j, hj, e⟩ := List.mem_map.mp q
  exact h j hj e.symm
theorem KW.al {A : Ad} {H : Hp} {ad ob : Nat → Addr} {M : Mo} (s : KW A H ad ob M) : ∀ i, i < 13 → ∃ o, H (ad i) = some o := fun i h => by
    obtain ⟨ms, k, h1, h2, _⟩ := s.dr
    obtain ⟨xs, h3, _⟩ := s.ne
    match i, h with
    | 0, _ => exact ⟨_, h1⟩
    | 1, _ => exact ⟨_, h2⟩
    | 2, _ => exact ⟨_, s.ws⟩
    | 3, _ => exact ⟨_, h3⟩
    | 4, _ => exact ⟨_, s.ss⟩
    | 5, _ => exact ⟨_, s.hs⟩
    | 6, _ => exact ⟨_, s.ks⟩
    | 7, _ => obtain ⟨_, ⟨⟨dx, q⟩, _⟩, _⟩ := s.wi 0 (by decide); exact ⟨_, q⟩
    | 8, _ => obtain ⟨_, ⟨⟨dx, q⟩, _⟩, _⟩ := s.wi 1 (by decide); exact ⟨_, q⟩
    | 9, _ => obtain ⟨_, q, _⟩ := s.sl 0 (by decide); exact ⟨_, q⟩
    | 10, _ => obtain ⟨_, q, _⟩ := s.sl 1 (by decide); exact ⟨_, q⟩
    | 11, _ => obtain ⟨_, q, _⟩ := s.hl 0 (by decide); exact ⟨_, q⟩
    | 12, _ => obtain ⟨_, q, _⟩ := s.hl 1 (by decide); exact ⟨_, q⟩
    | i + 13, h => omega
/-- pieces stand, pieces are new -/
theorem KW.chg {A : Ad} {H H' : Hp} {ad ob ob' : Nat → Addr} {M M' : Mo} {js os : List Nat} (s : KW A H ad ob M) (f : Fr (js.map ad ++ os.map ob) H H') (hj : ∀ j ∈ js, j < 13 ∧ j ≠ 2 ∧ j ≠ 4 ∧ j ≠ 5) (ho : ∀ o ∈ os, o < 2)
    (o1 : ∀ e, e < 2 → ob' e = ob e ∨ (H (ob' e) = none ∧ ∀ e', e' < 2 → e' ≠ e → ob' e' = ob e'))
    (hd : Draws H' (ad 0) (ad 1) ∨ (0 ∉ js ∧ 1 ∉ js))
    (hn : (∃ xs, H' (ad 3) = some (.lst xs) ∧ DaL H' xs (M'.net.map letD)) ∨ (3 ∉ js ∧ M'.net = M.net))
    (hk : H' (ad 6) = some (.lst [.int (M'.known 0), .int (M'.known 1)]) ∨ (6 ∉ js ∧ M'.known 0 = M.known 0 ∧ M'.known 1 = M.known 1))
    (hw : ∀ e, e < 2 → (∃ xs, WireAt A H' (ad (7 + e)) (ob' e) (M'.sent e).length xs (M'.exp e) ∧ DaL H' xs (OutD (outs M' e))) ∨ (7 + e ∉ js ∧ e ∉ os ∧ ob' e = ob e ∧ M'.sent e = M.sent e ∧ M'.exp e = M.exp e ∧ M'.known e = M.known e))
    (hs : ∀ e, e < 2 → (∃ xs, H' (ad (9 + e)) = some (.lst xs) ∧ DaL H' xs (M'.sent e)) ∨ (9 + e ∉ js ∧ M'.sent e = M.sent e))
    (hh : ∀ e, e < 2 → (∃ xs, H' (ad (11 + e)) = some (.lst xs) ∧ DaL H' xs ((M'.sent (1 - e)).take (M'.exp e))) ∨ (11 + e ∉ js ∧ (M'.sent (1 - e)).take (M'.exp e) = (M.sent (1 - e)).take (M.exp e)))
    (him : ∀ e, e < 2 → ∀ b ∈ M'.sent e, ∃ i j, b = bodyD i j) (hi : M'.Inv) : KW A H' ad ob' M' := by
  have al := s.al
  have alo : ∀ e, e < 2 → ∃ o, H (ob e) = some o := fun e he => by obtain ⟨_, ⟨_, q⟩, _⟩ := s.wi e he; exact ⟨_, q⟩
  have nin : ∀ i, i < 13 → i ∉ js → ad i ∉ js.map ad ++ os.map ob := fun i h n q => by
    rcases List.mem_append.mp q with q | q
    · exact adn (fun j hj' => s.inj i j h (hj j hj').1 fun e => n (e ▸ hj')) q
    · obtain ⟨o, ho', e⟩ := List.mem_map.mp q
      exact s.obn o i (ho o ho') h e
  have nino : ∀ e, e < 2 → e ∉ os → ob e ∉ js.map ad ++ os.map ob := fun e h n q => by
    rcases List.mem_append.mp q with q | q
    · obtain ⟨j, hj', z⟩ := List.mem_map.mp q
      exact s.obn e j h (hj j hj').1 z.symm
    · obtain ⟨o, ho', z⟩ := List.mem_map.mp q
      have h2 := ho o ho'
      have hne : o ≠ e := fun x => n (x ▸ ho')
      match e, o, h, h2 with
      | 0, 0, _, _ => exact hne rfl
      | 1, 1, _, _ => exact hne rfl
      | 0, 1, _, _ => exact s.obo z.symm
      | 1, 0, _, _ => exact s.obo z
  have nj : ∀ i, i = 2 ∨ i = 4 ∨ i = 5 → i ∉ js := fun i h q => by have := hj i q; omega
  refine ⟨s.inj, fun e i he hi => ?_, ?_, ?_, f.at s.ws (nin 2 (by decide) (nj 2 (by decide))), ?_, f.at s.ss (nin 4 (by decide) (nj 4 (by decide))), f.at s.hs (nin 5 (by decide) (nj 5 (by decide))), ?_, fun e he => ?_, fun e he => ?_, fun e he => ?_, him, hi⟩
  · rcases o1 e he with q | ⟨q, _⟩
    · rw [q]; exact s.obn e i he hi
    · intro z; obtain ⟨o, ho⟩ := al i hi; rw [z, ho] at q; cases q
  · rcases o1 0 (by decide) with q | ⟨q, q2⟩
    · rcases o1 1 (by decide) with r | ⟨r, r2⟩
      · rw [q, r]; exact s.obo
      · rw [q]; intro z; obtain ⟨o, ho⟩ := alo 0 (by decide); rw [← z, ho] at r; cases r
    · rw [q2 1 (by decide) (by decide)]; intro z; obtain ⟨o, ho⟩ := alo 1 (by decide); rw [z, ho] at q; cases q
  · rcases hd with h | ⟨h1, h2⟩
    · exact h
    · exact s.dr.fr f (nin 0 (by decide) h1) (nin 1 (by decide) h2)
  · rcases hn with h | ⟨h1, h2⟩
    · exact h
    · obtain ⟨xs, e, r⟩ := s.ne
      exact ⟨xs, f.at e (nin 3 (by decide) h1), by rw [h2]; exact DaL.frL f r (im_lets s.im s.inv.ok)⟩
  · rcases hk with h | ⟨h1, h2, h3⟩
    · exact h
    · rw [h2, h3]; exact f.at s.ks (nin 6 (by decide) h1)
  · rcases hw e he with h | ⟨h1, h2, h3, h4, h5, h6⟩
    · exact h
    · obtain ⟨xs, W, r⟩ := s.wi e he
      unfold outs
      rw [h3, h4, h5, h6]
      exact ⟨xs, W.fr f (nin _ (by omega) h1) (nino e he h2), DaL.frL f r (im_psn (s.im e he) _ _)⟩
  · rcases hs e he with h | ⟨h1, h2⟩
    · exact h
    · obtain ⟨xs, q, r⟩ := s.sl e he
      rw [h2]
      exact ⟨xs, f.at q (nin _ (by omega) h1), DaL.frL f r (im_sent (s.im e he))⟩
  · rcases hh e he with h | ⟨h1, h2⟩
    · exact h
    · obtain ⟨xs, q, r⟩ := s.hl e he
      rw [h2]
      exact ⟨xs, f.at q (nin _ (by omega) h1), DaL.frL f r (immL_of fun d hd => imm_of (im_sent (s.im (1 - e) (by omega))) d (List.mem_of_mem_take hd))⟩
theorem KW.alE {A : Ad} {H : Hp} {ad ob : Nat → Addr} {M : Mo} (s : KW A H ad ob M) {p : Addr} (h : H p = none) : (∀ i, i = 3 ∨ i = 6 → p ≠ ad i) ∧ (∀ e, e < 2 → p ≠ ad (7 + e) ∧ p ≠ ad (11 + e) ∧ p ≠ ob e ∧ p ≠ ad (9 + e)) := by
  obtain ⟨xs, h3, _⟩ := s.ne
  refine ⟨fun i hi z => ?_, fun e he => ?_⟩
  · rcases hi with rfl | rfl
    · rw [z, h3] at h; cases h
    · rw [z, s.ks] at h; cases h
  · obtain ⟨_, ⟨⟨dx, q⟩, q2⟩, _⟩ := s.wi e he
    obtain ⟨_, q3, _⟩ := s.hl e he
    obtain ⟨_, q4, _⟩ := s.sl e he
    exact ⟨fun z => by (rw [z, q] at h; cases h), fun z => by (rw [z, q3] at h; cases h), fun z => by (rw [z, q2] at h; cases h), fun z => by (rw [z, q4] at h; cases h)⟩
theorem nmem {i : Nat} {js : List Nat} (h : ∀ j ∈ js, i ≠ j) : i ∉ js := fun q => h i q rfl
/-- nothing tracked has changed -/
theorem KW.fr0 {A : Ad} {H H' : Hp} {ad ob : Nat → Addr} {M : Mo} (s : KW A H ad ob M) (f : Fr [] H H') : KW A H' ad ob M :=
  s.chg (js := []) (os := []) f (by simp) (by simp) (fun e _ => .inl rfl) (.inr ⟨by simp, by simp⟩) (.inr ⟨by simp, rfl⟩) (.inr ⟨by simp, rfl, rfl⟩) (fun e _ => .inr ⟨by simp, by simp, rfl, rfl, rfl, rfl⟩) (fun e _ => .inr ⟨by simp, rfl⟩) (fun e _ => .inr ⟨by simp, rfl⟩) s.im s.inv
theorem KW.draw {A : Ad} {H H' : Hp} {ad ob : Nat → Addr} {M : Mo} (s : KW A H ad ob M) (f : Fr [ad 0] H H') (D : Draws H' (ad 0) (ad 1)) : KW A H' ad ob M :=
  s.chg (js := [0]) (os := []) f (by simp) (by simp) (fun e _ => .inl rfl) (.inl D) (.inr ⟨by simp, rfl⟩) (.inr ⟨by simp, rfl, rfl⟩) (fun e _ => .inr ⟨by simp, by simp, rfl, rfl, rfl, rfl⟩) (fun e _ => .inr ⟨by simp, rfl⟩) (fun e _ => .inr ⟨by simp, rfl⟩) s.im s.inv
theorem KW.net {A : Ad} {H H' : Hp} {ad ob : Nat → Addr} {M : Mo} {Ls : List Let} {xs : List V} (s : KW A H ad ob M) (f : Fr [ad 3] H H') (e : H' (ad 3) = some (.lst xs)) (r : DaL H' xs (Ls.map letD)) (ok : ∀ L ∈ Ls, L.ok M) : KW A H' ad ob { M with net := Ls } :=
  s.chg (M' := { M with net := Ls }) (js := [3]) (os := []) f (by simp) (by simp) (fun e _ => .inl rfl) (.inr ⟨by simp, by simp⟩) (.inl ⟨xs, e, r⟩) (.inr ⟨by simp, rfl, rfl⟩) (fun e _ => .inr ⟨by simp; omega, by simp, rfl, rfl, rfl, rfl⟩) (fun e _ => .inr ⟨by simp; omega, rfl⟩) (fun e _ => .inr ⟨by simp; omega, rfl⟩) s.im
    ⟨s.inv.le1, s.inv.le2, fun L h => (ok L h).mono rfl fun _ => Nat.le_refl _⟩
/-- an ack was delivered -/
theorem KW.ack {A : Ad} {H H' : Hp} {ad ob : Nat → Addr} {M : Mo} {e n : Nat} {l' : Addr} {xs : List V} (s : KW A H ad ob M) (he : e < 2) (hn : n + 1 ≤ M.exp (1 - e)) (f : Fr [ad (7 + e), ad 6] H H') (nl : H l' = none) (W : WireAt A H' (ad (7 + e)) l' (M.sent e).length xs (M.exp e))
    (r : DaL H' xs (OutD ((outs M e).filter fun q => decide (((n : Nat) : Int) < q.1)))) (hk : H' (ad 6) = some (.lst [.int ((M.deliv (.ack e n)).known 0), .int ((M.deliv (.ack e n)).known 1)])) : KW A H' ad (setN ob e l') (M.deliv (.ack e n)) := by
  have I' := s.inv.deliv (L := .ack e n) ⟨he, hn⟩
  refine s.chg (M' := M.deliv (.ack e n)) (js := [7 + e, 6]) (os := []) f (by simp; omega) (by simp) (fun i hi => ?_) (.inr ⟨by simp; omega, by simp; omega⟩) (.inr ⟨by simp; omega, rfl⟩) (.inl hk) (fun i hi => ?_) (fun i hi => .inr ⟨by simp; omega, rfl⟩) (fun i hi => .inr ⟨by simp; omega, rfl⟩) s.im I'
  · by_cases q : i = e
    · subst q; rw [setN_same]; exact .inr ⟨nl, fun i' _ hne => setN_ne hne⟩
    · exact .inl (setN_ne q)
  · by_cases q : i = e
    · subst q
      refine .inl ⟨xs, by rw [setN_same]; exact W, ?_⟩
      rw [psn_ack] at r
      have e1 : (M.deliv (.ack i n)).known i = max (M.known i) (n + 1) := setN_same
      have h1 := s.inv.le1 i hi
      have h2 := s.inv.le2 i hi
      have e2 : M.known i + ((M.sent i).length - M.known i) = (M.sent i).length := by omega
      rw [e2] at r
      unfold outs
      rw [e1]
      exact r
    · exact .inr ⟨by simp; omega, by simp, setN_ne q, rfl, rfl, setN_ne q⟩
/-- the expected body was delivered -/
theorem KW.now {A : Ad} {H H' : Hp} {ad ob : Nat → Addr} {M : Mo} {e n : Nat} {b : PyData} {xs ys zs : List V} (s : KW A H ad ob M) (he : e < 2) (hb : (M.sent (1 - e))[n]? = some b) (hn : n = M.exp e) (f : Fr [ad (7 + e), ad (11 + e), ad 3] H H')
    (W : WireAt A H' (ad (7 + e)) (ob e) (M.sent e).length xs ((n + 1 : Nat) : Int)) (r : DaL H' xs (OutD (outs M e))) (hh : H' (ad (11 + e)) = some (.lst ys)) (rh : DaL H' ys ((M.sent (1 - e)).take n ++ [b]))
    (hz : H' (ad 3) = some (.lst zs)) (rz : DaL H' zs (M.net.map letD ++ [letD (.ack (1 - e) n)])) : KW A H' ad ob (M.deliv (.data e n b)) := by
  have I' := s.inv.deliv (L := .data e n b) ⟨he, hb⟩
  rw [deliv_now hn] at I' ⊢
  refine s.chg (M' := { M with exp := setN M.exp e (n + 1), net := M.net ++ [.ack (1 - e) n] }) (js := [7 + e, 11 + e, 3]) (os := []) f (by simp; omega) (by simp) (fun i hi => .inl rfl) (.inr ⟨by simp; omega, by simp; omega⟩) (.inl ⟨zs, hz, by rw [List.map_append]; exact rz⟩) (.inr ⟨by simp; omega, rfl, rfl⟩) (fun i hi => ?_) (fun i hi => .inr ⟨by simp; omega, rfl⟩) (fun i hi => ?_) s.im I'
  · by_cases q : i = e
    · subst q
      exact .inl ⟨xs, by show WireAt A H' _ _ _ _ ((setN M.exp i (n + 1) i : Nat) : Int); rw [setN_same]; exact W, r⟩
    · exact .inr ⟨by simp; omega, by simp, rfl, rfl, setN_ne q, rfl⟩
  · by_cases q : i = e
    · subst q
      refine .inl ⟨ys, hh, ?_⟩
      show DaL H' ys ((M.sent (1 - i)).take (setN M.exp i (n + 1) i))
      rw [setN_same, take_more hb]
      exact rh
    · refine .inr ⟨by simp; omega, ?_⟩
      show (M.sent (1 - i)).take (setN M.exp e (n + 1) i) = _
      rw [setN_ne q]
/-- a body was sent -/
def Mo.send (M : Mo) (e : Nat) (b : PyData) : Mo := { M with sent := setN M.sent e (M.sent e ++ [b]), net := M.net ++ [.data (1 - e) (M.sent e).length b] }
theorem send_inv {M : Mo} {e : Nat} {b : PyData} (I : M.Inv) (he : e < 2) : (M.send e b).Inv := by
  have pre : ∀ i n (x : PyData), (M.sent i)[n]? = some x → (setN M.sent e (M.sent e ++ [b]) i)[n]? = some x := fun i n x h => by
    by_cases q : i = e
    · subst q; rw [setN_same, List.getElem?_append_left (List.getElem?_eq_some_iff.mp h).1]; exact h
    · rw [setN_ne q]; exact h
  refine ⟨I.le1, fun i hi => ?_, fun L h => ?_⟩
  · have := I.le2 i hi
    show M.exp (1 - i) ≤ (setN M.sent e (M.sent e ++ [b]) i).length
    by_cases q : i = e
    · subst q; rw [setN_same, List.length_append]; omega
    · rw [setN_ne q]; exact this
  · rcases List.mem_append.mp h with h | h
    · have := I.ok L h
      cases L with
      | ack i n => exact this
      | data i n x => exact ⟨this.1, pre _ _ _ this.2⟩
    · rw [List.mem_singleton.mp h]
      refine ⟨by omega, ?_⟩
      show (setN M.sent e (M.sent e ++ [b]) (1 - (1 - e)))[_]? = _
      rw [two he, setN_same, List.getElem?_append_right (Nat.le_refl _), Nat.sub_self]; rfl
theorem KW.send {A : Ad} {H H' : Hp} {ad ob : Nat → Addr} {M : Mo} {e : Nat} {b : PyData} {xs ys zs : List V} (s : KW A H ad ob M) (he : e < 2) (hb : ∃ i j, b = bodyD i j) (f : Fr [ad (7 + e), ad (9 + e), ad 3, ob e] H H')
    (W : WireAt A H' (ad (7 + e)) (ob e) (((M.sent e).length + 1 : Nat) : Int) xs (M.exp e)) (r : DaL H' xs (OutD (outs M e ++ [(((M.sent e).length : Int), b)]))) (hs : H' (ad (9 + e)) = some (.lst ys)) (rs : DaL H' ys (M.sent e ++ [b]))
    (hz : H' (ad 3) = some (.lst zs)) (rz : DaL H' zs (M.net.map letD ++ [letD (.data (1 - e) (M.sent e).length b)])) : KW A H' ad ob (M.send e b) := by
  refine s.chg (M' := M.send e b) (js := [7 + e, 9 + e, 3]) (os := [e]) f (by simp; omega) (by simp; omega) (fun i hi => .inl rfl) (.inr ⟨by simp; omega, by simp; omega⟩) (.inl ⟨zs, hz, by show DaL H' zs ((M.net ++ [_]).map letD); rw [List.map_append]; exact rz⟩) (.inr ⟨by simp; omega, rfl, rfl⟩) (fun i hi => ?_) (fun i hi => ?_) (fun i hi => ?_) (fun i hi x hx => ?_) (send_inv s.inv he)
  · by_cases q : i = e
    · subst q
      have e1 : (M.send i b).sent i = M.sent i ++ [b] := setN_same
      refine .inl ⟨xs, by rw [e1, List.length_append]; exact W, ?_⟩
      have h1 := s.inv.le1 i hi
      have h2 := s.inv.le2 i hi
      unfold outs
      rw [e1]
      show DaL H' xs (OutD (psn (M.sent i ++ [b]) (M.known i) ((M.sent i ++ [b]).length - M.known i)))
      rw [psn_app (by omega)]
      exact r
    · exact .inr ⟨by simp; omega, by simp; omega, rfl, setN_ne q, rfl, rfl⟩
  · by_cases q : i = e
    · subst q
      exact .inl ⟨ys, hs, by show DaL H' ys (setN M.sent i (M.sent i ++ [b]) i); rw [setN_same]; exact rs⟩
    · exact .inr ⟨by simp; omega, setN_ne q⟩
  · refine .inr ⟨by simp; omega, ?_⟩
    show (setN M.sent e (M.sent e ++ [b]) (1 - i)).take (M.exp i) = _
    by_cases q : 1 - i = e
    · subst q
      have := s.inv.le2 (1 - i) he
      rw [two hi] at this
      rw [setN_same, List.take_append_of_le_length this]
    · rw [setN_ne q]
  · by_cases q : i = e
    · subst q
      have hx2 : x ∈ M.sent i ++ [b] := by have e1 : (M.send i b).sent i = M.sent i ++ [b] := setN_same; rw [e1] at hx; exact hx
      rcases List.mem_append.mp hx2 with h | h
      · exact s.im i hi x h
      · rw [List.mem_singleton.mp h]; exact hb
    · have e1 : (M.send e b).sent i = M.sent i := setN_ne q
      rw [e1] at hx
      exact s.im i hi x hx
theorem at_ad {ad : Nat → Addr} {k e : Nat} (he : e < 2) : atI [V.ref (ad k), V.ref (ad (k + 1))] (e : Int) = some (.ref (ad (k + e))) := by
  match e, he with
  | 0, _ => rfl
  | 1, _ => rfl
theorem one_sub {e : Nat} (he : e < 2) : (1 : Int) - (e : Int) = ((1 - e : Nat) : Int) := by omega
theorem at_in {e : Nat} {a b : V} (he : e < 2) : atI [a, b] (e : Int) = some (if e = 0 then a else b) := by
  match e, he with
  | 0, _ => rfl
  | 1, _ => rfl
theorem at_kn {g : Nat → Nat} {e : Nat} (he : e < 2) : atI [V.int (g 0), V.int (g 1)] (e : Int) = some (.int (g e)) := by
  match e, he with
  | 0, _ => rfl
  | 1, _ => rfl
theorem set_kn {g : Nat → Nat} {e n : Nat} (he : e < 2) : [V.int (g 0), V.int (g 1)].set e (.int (if (n : Int) + 1 > (g e : Int) then (n : Int) + 1 else (g e : Int))) = [V.int ((setN g e (max (g e) (n + 1)) 0 : Nat) : Int), V.int ((setN g e (max (g e) (n + 1)) 1 : Nat) : Int)] := by
  have m : (if (n : Int) + 1 > (g e : Int) then (n : Int) + 1 else (g e : Int)) = ((max (g e) (n + 1) : Nat) : Int) := by split <;> omega
  rw [m]
  match e, he with
  | 0, _ => rfl
  | 1, _ => rfl
theorem DaL.four {H : Hp} {xs : List V} {d e f g : PyData} (h : DaL H xs [d, e, f, g]) : ∃ x y z w, xs = [x, y, z, w] ∧ Da H x d ∧ Da H y e ∧ Da H z f ∧ Da H w g := by
  cases h with
  | cons a t => obtain ⟨x, y, z, rfl, b, c, d⟩ := DaL.three t; exact ⟨_, _, _, _, rfl, a, b, c, d⟩
theorem lets_get {M : Mo} {e i : Nat} (h : i < (M.sent e).length - M.known e) : (M.lets e)[i]? = some (.data (1 - e) (M.known e + i) ((M.sent e).getD (M.known e + i) .none)) := by
  unfold Mo.lets
  rw [List.getElem?_map, List.getElem?_range' h, Nat.one_mul]; rfl
theorem lets_len {M : Mo} {e : Nat} : (M.lets e).length = (M.sent e).length - M.known e := by unfold Mo.lets; rw [List.length_map, List.length_range']
def allA (ad ob : Nat → Addr) : List Addr := (List.range 13).map ad ++ [ob 0, ob 1]
theorem memA {ad ob : Nat → Addr} {i : Nat} (h : i < 13) : ad i ∈ allA ad ob := List.mem_append_left _ (List.mem_map.mpr ⟨i, List.mem_range.mpr h, rfl⟩)
theorem memO {ad ob : Nat → Addr} {e : Nat} (h : e < 2) : ob e ∈ allA ad ob := List.mem_append_right _ (by
  match e, h with
  | 0, _ => simp
  | 1, _ => simp)
theorem frA {ad ob : Nat → Addr} {H H' : Hp} {js os : List Nat} (f : Fr (js.map ad ++ os.map ob) H H') (h : ∀ j ∈ js, j < 13) (h2 : ∀ o ∈ os, o < 2) : Fr (allA ad ob) H H' := f.mono fun a q => by
  rcases List.mem_append.mp q with q | q
  · obtain ⟨j, hj, rfl⟩ := List.mem_map.mp q; exact memA (h j hj)
  · obtain ⟨j, hj, rfl⟩ := List.mem_map.mp q; exact memO (h2 j hj)

def P_Lticked (K : PySem.W.Frag) (A : Ad) (x0 x1 x2 : V) (H : Hp) (Q : VK) : Prop := ∃ (ad ob : Nat → Addr) (M : Mo) (e : Nat), x0 = .ref (ad 3) ∧ x1 = .ref (ad 2) ∧ x2 = .int e ∧ e < 2 ∧ KW A H ad ob M ∧ M.net.length ≤ 100000 ∧ (M.sent e).length ≤ 1000 ∧
  ∀ H', Fr [ad 3] H H' → KW A H' ad ob (M.tick e) → Q .non H'
def sp_Lticked (K : PySem.W.Frag) (A : Ad) : Sp := fun vs H Q _ => ∃ x0 x1 x2, vs = [x0, x1, x2] ∧ P_Lticked K A x0 x1 x2 H Q
theorem c_Lticked {K : PySem.W.Frag} {A : Ad} {x0 x1 x2 : V} {H : Hp} {Q : VK} {E : XK} (h : P_Lticked K A x0 x1 x2 H Q) : sp_Lticked K A [x0, x1, x2] H Q E := ⟨_, _, _, rfl, h⟩
theorem sc_Lticked : FnScope ["_law_net", "_law_wires", "_law_end", "_law_pair"] ["_law_net", "_law_wires", "_law_end"] (defScope s_Lticked) := ⟨rfl, rfl, rfl, by decide +kernel, rfl, by decide +kernel, by decide +kernel⟩
def t_Lticked (K : PySem.W.Frag) (A : Ad) : TS :=
  (tFor (iList K (tFld K (tOp (rIxL K) (tVar 1) (tVar 2)) "outbox")) (gName 3) (tDrop (tBM K "list" rAppend (tVar 0) (tCons (tTup (tCons (tOp oSub (tC (.int 1)) (tVar 2)) (tCons (tC (.str "data")) (tCons (tOp (rIxT K) (tVar 3) (tC (.int 0))) (tCons (tOp (rIxT K) (tVar 3) (tC (.int 1))) tNil))))) tNil))))
theorem pu_Lticked (T : Txt K mg A) {x0 x1 x2 : V} {H : Hp} {Q : VK} (h : P_Lticked K A x0 x1 x2 H Q) : t_Lticked K A { nx := fun _ H' => Q .non H', rt := Q } [some x0, some x1, some x2, none] H := by
  obtain ⟨ad, ob, M, e, rfl, rfl, rfl, he, s, hz, hs, k⟩ := h
  obtain ⟨xs, W, r⟩ := s.wi e he
  obtain ⟨⟨dx, hp⟩, hl⟩ := id W
  unfold t_Lticked
  walk_at "go"
  refine g_ixL (SqL.of s.ws) (at_ad he) ?_
  walk_at "go"
  have hxl : xs.length = (M.sent e).length - M.known e := by rw [r.len]; unfold OutD outs; rw [List.length_map, psn_len]
  refine f_list (xs := xs) (fun i σ H' => ∃ v3, σ = [some (.ref (ad 3)), some (.ref (ad 2)), some (.int e), v3] ∧ Fr [ad 3] H H' ∧ KW A H' ad ob { M with net := M.net ++ (M.lets e).take i }) ⟨_, rfl, Fr.refl, by rw [List.take_zero, List.append_nil]; exact s⟩ (fun i σ H' hi ⟨_, _, f, _⟩ => SqL.of (f.at hl (nin1 (s.obn e 3 he (by decide)) nin0))) ?_ ?_
  · rintro i x σ H1 hx ⟨v3, rfl, f1, s1⟩
    obtain ⟨d, hd, dd⟩ := r.get hx
    have himm := immL_get (im_psn (s.im e he) _ _) hd
    obtain ⟨q, hq, rfl⟩ := OutD.get hd
    obtain ⟨hi, rfl⟩ := psn_get hq
    have dd1 := Da.frL f1 dd himm
    obtain ⟨a, ys, rfl, e1, _, r2⟩ := dd1.tup1
    obtain ⟨y0, y1, rfl, d0, d1⟩ := r2.two
    cases d0.int1
    obtain ⟨zs, hn, rn⟩ := s1.ne
    have hzl : zs.length ≤ 101000 := by rw [rn.len, List.length_map, List.length_append, List.length_take]; omega
    walk_at "go"
    rename_i t H2 n2 f2 e2 H3 f3 e3
    refine ⟨_, rfl, (f1.then0 f2).transL f3, ?_⟩
    have okn : ∀ L ∈ M.net ++ (M.lets e).take i, L.ok M := fun L h => (List.mem_append.mp h).elim (s.inv.ok L) fun q => lets_ok he L (List.mem_of_mem_take q)
    have ib := (im_getD (s.im e he) (M.known e + i)).1
    have inn := im_lets s.im okn
    rw [one_sub he] at e2
    rw [take_more (lets_get hi), ← List.append_assoc]
    refine KW.net (M := { M with net := M.net ++ (M.lets e).take i }) s1 (f3.pre0' f2) e3 ?_ fun L h => ?_
    · rw [List.map_append]
      exact (DaL.frL f3 (DaL.frL f2 rn inn) inn).append (.one' (.tup (f3.tup _ _ e2) (Nat.le_of_ble_eq_true rfl) (.cons (.int _) (.cons (.str _) (.cons (.int _) (.one' (Da.frL f3 (Da.frL f2 d1 ib) ib)))))))
    · refine Let.ok.mono (M := M) ?_ rfl fun _ => Nat.le_refl _
      rcases List.mem_append.mp h with h | h
      · exact okn L h
      · rw [List.mem_singleton.mp h]; exact lets_ok he _ (List.mem_of_getElem? (lets_get hi))
  · rintro σ H1 ⟨v3, rfl, f1, s1⟩
    walk_at "go"
    rw [hxl, ← lets_len, List.take_length] at s1
    exact k H1 f1 s1
theorem ok_Lticked {f : Addr} {fd : FuncData} (F : Fun K "_law_ticked" "_law_ticked" s_Lticked f fd) (T : Txt K mg A)  : FnOk P w K mg base CX0 (1) f fd ["_law_net", "_law_wires", "_law_end"] (sp_Lticked K A) := by
  refine F.ok sc_Lticked (fun vs H Q E h => ?_) (fun cdv Ar outer s H vs Q E hr h => ⟨t_Lticked K A, ?_, ?_⟩)
  · obtain ⟨x0, x1, x2, rfl, _⟩ := h
    rfl
  · have hu := hu_of hr
    exact (pss_one (ps_for PassesOwn.never rfl (pi_list (pe_fld (pe_ix ix_list (pv 1) (pv 2) (fun _ _ => rfl)) rfl)) (pg_name (i := 3) sc_Lticked.nd rfl (Or.inl rfl)) (pss_one (ps_expr (pe_bm PySem.F.plainAttrs_list PySem.F.slot_list_append PySem.F.type_list_append mt_append (pv 0) (pa_cons (pe_tup (pa_cons (pe_op o_sub pe_int (pv 2)) (pa_cons pe_str (pa_cons (pe_ix ix_tup (pv 3) pe_int (fun _ _ => rfl)) (pa_cons (pe_ix ix_tup (pv 3) pe_int (fun _ _ => rfl)) pa_nil))))) pa_nil))))))
  · obtain ⟨x0, x1, x2, rfl, h⟩ := h
    exact pu_Lticked T h
def P_Ldelivered (K : PySem.W.Frag) (A : Ad) (x0 x1 x2 x3 x4 : V) (H : Hp) (Q : VK) : Prop := ∃ (ad ob : Nat → Addr) (M : Mo) (L : Let), x0 = .ref (ad 3) ∧ x1 = .ref (ad 2) ∧ x2 = .ref (ad 5) ∧ x4 = .ref (ad 6) ∧ Da H x3 (letD L) ∧ L.ok M ∧ KW A H ad ob M ∧ M.net.length ≤ 100000 ∧ (∀ e, e < 2 → (M.sent e).length ≤ 1000) ∧
  ∀ H' ob', Fr (allA ad ob) H H' → (∀ e, e < 2 → ob' e = ob e ∨ H (ob' e) = none) → KW A H' ad ob' (M.deliv L) → Q .non H'
def sp_Ldelivered (K : PySem.W.Frag) (A : Ad) : Sp := fun vs H Q _ => ∃ x0 x1 x2 x3 x4, vs = [x0, x1, x2, x3, x4] ∧ P_Ldelivered K A x0 x1 x2 x3 x4 H Q
theorem c_Ldelivered {K : PySem.W.Frag} {A : Ad} {x0 x1 x2 x3 x4 : V} {H : Hp} {Q : VK} {E : XK} (h : P_Ldelivered K A x0 x1 x2 x3 x4 H Q) : sp_Ldelivered K A [x0, x1, x2, x3, x4] H Q E := ⟨_, _, _, _, _, rfl, h⟩
theorem sc_Ldelivered : FnScope ["_law_net", "_law_wires", "_law_handled", "_law_letter", "_law_known", "_law_end", "_law_wire", "_law_before"] ["_law_net", "_law_wires", "_law_handled", "_law_letter", "_law_known"] (defScope s_Ldelivered) := ⟨rfl, rfl, rfl, by decide +kernel, rfl, by decide +kernel, by decide +kernel⟩
def t_Ldelivered (K : PySem.W.Frag) (A : Ad) : TS :=
  (tSeq (tAsg (tOp (rIxT K) (tVar 3) (tC (.int 0))) (gName 5))
    (tSeq (tIfS (tTest (tOp rEq (tOp (rIxT K) (tVar 3) (tC (.int 1))) (tC (.str "ack")))) (tSeq (tDrop (tMt A.Wire "acknowledged" (sp_Wire_acknowledged K A) (tOp (rIxL K) (tVar 1) (tVar 5)) (tCons (tOp (rIxT K) (tVar 3) (tC (.int 2))) tNil)))
    (tSeq (tAsg (tCB rMax2 (tCons (tOp (rIxL K) (tVar 4) (tVar 5)) (tCons (tOp oAdd (tOp (rIxT K) (tVar 3) (tC (.int 2))) (tC (.int 1))) tNil))) (gSub (tVar 4) (tVar 5) rSetL))
    tRetN)) tNext)
    (tSeq (tAsg (tOp (rIxL K) (tVar 1) (tVar 5)) (gName 6))
    (tSeq (tAsg (tFld K (tVar 6) "expected") (gName 7))
    (tSeq (tIfS (tB (tMt A.Wire "take" (sp_Wire_take K A) (tVar 6) (tCons (tOp (rIxT K) (tVar 3) (tC (.int 2))) tNil))) (tDrop (tBM K "list" rAppend (tOp (rIxL K) (tVar 2) (tVar 5)) (tCons (tOp (rIxT K) (tVar 3) (tC (.int 3))) tNil))) tNext)
    (tIfS (tTest (tOp cLe (tOp (rIxT K) (tVar 3) (tC (.int 2))) (tVar 7))) (tDrop (tBM K "list" rAppend (tVar 0) (tCons (tTup (tCons (tOp oSub (tC (.int 1)) (tVar 5)) (tCons (tC (.str "ack")) (tCons (tOp oSub (tFld K (tVar 6) "expected") (tC (.int 1))) (tCons (tC .non) tNil))))) tNil))) tNext))))))
theorem pu_Ldelivered (T : Txt K mg A) {x0 x1 x2 x3 x4 : V} {H : Hp} {Q : VK} (h : P_Ldelivered K A x0 x1 x2 x3 x4 H Q) : t_Ldelivered K A { nx := fun _ H' => Q .non H', rt := Q } [some x0, some x1, some x2, some x3, some x4, none, none, none] H := by
  obtain ⟨ad, ob, M, L, rfl, rfl, rfl, rfl, dL, ok, s, hz, hs, k⟩ := h
  have ws := s.ws
  have hks := s.ks
  have hhs := s.hs
  unfold t_Ldelivered
  cases L with
  | ack e n =>
    obtain ⟨he, hn⟩ := id ok
    obtain ⟨a, ys, rfl, e1, _, r2⟩ := Da.tup1 dL
    obtain ⟨y0, y1, y2, y3, rfl, d0, d1, d2, d3⟩ := DaL.four r2
    cases d0.int1; cases d1.str1; cases d2.int1; cases d3.non1
    obtain ⟨xs, W, r⟩ := s.wi e he
    obtain ⟨⟨dx, hp⟩, hl⟩ := id W
    have hxl : xs.length = (M.sent e).length - M.known e := by rw [r.len]; unfold OutD outs; rw [List.length_map, psn_len]
    have hse := hs e he
    walk_at "go"
    refine g_ite (fun _ => ?_) (fun c => absurd rfl c)
    walk_at "go"
    refine g_ixL (SqL.of s.ws) (at_ad he) ?_
    walk_at "go"
    refine c_Wire_acknowledged ⟨ad (7 + e), ob e, _, xs, _, n, outs M e, rfl, rfl, W, r, im_psn (s.im e he) _ _, by omega, fun H1 l' ys n1 f1 W1 r1 => ?_⟩
    have hk1 : H1 (ad 6) = some (.lst [.int (M.known 0), .int (M.known 1)]) := f1.at s.ks (nin1 (s.inj 6 (7 + e) (by decide) (by omega) (by omega)) nin0)
    have e1' := f1.tup _ _ e1
    walk_at "go"
    refine g_ixL (SqL.of hk1) (at_kn he) ?_
    walk_at "go"
    refine g_setL hk1 (j := e) (Evl.ixN_nat he) fun H2 f2 e2 => ?_
    rw [set_kn he] at e2
    walk_at "go"
    have n67 : ad (7 + e) ∉ [ad 6] := nin1 (s.inj (7 + e) 6 (by omega) (by decide) (by omega)) nin0
    have n6l : l' ∉ [ad 6] := nin1 ((s.alE n1).1 6 (by decide)) nin0
    have F : Fr [ad (7 + e), ad 6] H H2 := f1.trans f2
    exact k H2 _ (frA (js := [7 + e, 6]) (os := []) F (by simp; omega) (by simp)) (fun i hi => by
      by_cases q : i = e
      · subst q; rw [setN_same]; exact .inr n1
      · rw [setN_ne q]; exact .inl rfl) (s.ack he hn F n1 (W1.fr f2 n67 n6l) (DaL.frL f2 r1 (OutD.imm (im_psn (s.im e he) _ _) fun q hq => (List.mem_filter.mp hq).1)) e2)
  | data e n b =>
    obtain ⟨he, hb⟩ := id ok
    obtain ⟨a, ys, rfl, e1, _, r2⟩ := Da.tup1 dL
    obtain ⟨y0, y1, y2, y3, rfl, d0, d1, d2, d3⟩ := DaL.four r2
    cases d0.int1; cases d1.str1; cases d2.int1
    obtain ⟨xs, W, r⟩ := s.wi e he
    obtain ⟨⟨dx, hp⟩, hl⟩ := id W
    obtain ⟨zs, hnet, rn⟩ := s.ne
    obtain ⟨hs', hh, rh⟩ := s.hl e he
    have hse := hs e he
    have hse2 := hs (1 - e) (by omega)
    have hzl : zs.length ≤ 100000 := by rw [rn.len, List.length_map]; omega
    have hhl : hs'.length ≤ 1000 := by rw [rh.len, List.length_take]; omega
    have inn := im_lets s.im s.inv.ok
    have ibb : imm b = true := by obtain ⟨i, j, rfl⟩ := s.im (1 - e) (by omega) b (List.mem_of_getElem? hb); rfl
    have ih : immL ((M.sent (1 - e)).take (M.exp e)) = true := immL_of fun d hd => imm_of (im_sent (s.im (1 - e) (by omega))) d (List.mem_of_mem_take hd)
    walk_at "go"
    refine g_ite (fun c => absurd c (by decide)) (fun _ => ?_)
    walk_at "go"
    refine g_ixL (SqL.of s.ws) (at_ad he) ?_
    walk_at "go"
    refine c_Wire_take ⟨ad (7 + e), ob e, _, xs, _, n, rfl, rfl, W, fun q => ?_, fun q H1 f1 W1 => ?_⟩
    · walk_at "go"
      refine g_ite (fun c => ?_) (fun c => ?_)
      · walk_at "go"
        rename_i t H1 n1 f1 e2 H2 f2 e3
        have hlt : n < M.exp e := by omega
        rw [one_sub he, show (M.exp e : Int) - 1 = ((M.exp e - 1 : Nat) : Int) by omega] at e2
        have F : Fr [ad 3] H H2 := f2.pre0' f1
        have I' := s.inv.deliv ok
        rw [deliv_old hlt] at I'
        refine k H2 ob (frA (js := [3]) (os := []) F (by simp) (by simp)) (fun _ _ => .inl rfl) ?_
        rw [deliv_old hlt]
        refine s.net F e3 ?_ fun L h => ?_
        · rw [List.map_append]
          exact (DaL.frL f2 (DaL.frL f1 rn inn) inn).append (.one' (.tup (f2.tup _ _ e2) (Nat.le_of_ble_eq_true rfl) (.cons (.int _) (.cons (.str _) (.cons (.int _) (.one' .non))))))
        · exact (I'.ok L h).mono rfl fun _ => Nat.le_refl _
      · walk_at "go"
        refine k H ob Fr.refl (fun _ _ => .inl rfl) ?_
        rw [deliv_far (by omega)]; exact s
    · have q' : n = M.exp e := by omega
      have n1 : ad 5 ∉ [ad (7 + e)] := nin1 (s.inj 5 (7 + e) (by decide) (by omega) (by omega)) nin0
      have n2 : ad (11 + e) ∉ [ad (7 + e)] := nin1 (s.inj (11 + e) (7 + e) (by omega) (by omega) (by omega)) nin0
      have n3 : ad 3 ∉ [ad (7 + e)] := nin1 (s.inj 3 (7 + e) (by decide) (by omega) (by omega)) nin0
      have hh1 := f1.at hh n2
      have e1' := f1.tup _ _ e1
      walk_at "go"
      refine g_ixL (SqL.of (f1.at s.hs n1)) (at_ad he) ?_
      walk_at "go"
      rename_i H2 f2 e2
      have m1 : ad (7 + e) ∉ [ad (11 + e)] := nin1 (s.inj (7 + e) (11 + e) (by omega) (by omega) (by omega)) nin0
      have m2 : ob e ∉ [ad (11 + e)] := nin1 (s.obn e (11 + e) he (by omega)) nin0
      have m3 : ad 3 ∉ [ad (11 + e)] := nin1 (s.inj 3 (11 + e) (by decide) (by omega) (by omega)) nin0
      have W2 := W1.fr f2 m1 m2
      obtain ⟨⟨dx2, hp2⟩, hl2⟩ := id W2
      have hnet2 := f2.at (f1.at hnet n3) m3
      have e1'' := f2.tup _ _ e1'
      refine g_ite (fun c => ?_) (fun c => absurd (show (n : Int) ≤ M.exp e by omega) c)
      walk_at "go"
      rename_i t H3 n4 f3 e3 H4 f4 e4
      rw [one_sub he, show (M.exp e : Int) + 1 - 1 = (n : Int) by omega] at e3
      have F : Fr [ad (7 + e), ad (11 + e), ad 3] H H4 := ((f1.trans f2).then0 f3).trans f4
      have k1 : ad (7 + e) ∉ [ad 3] := nin1 (s.inj (7 + e) 3 (by omega) (by decide) (by omega)) nin0
      have k2 : ob e ∉ [ad 3] := nin1 (s.obn e 3 he (by decide)) nin0
      have k3 : ad (11 + e) ∉ [ad 3] := nin1 (s.inj (11 + e) 3 (by omega) (by decide) (by omega)) nin0
      have W4 := (W2.fr f3 nin0 nin0).fr f4 k1 k2
      have d3' := Da.frL f4 (Da.frL f3 (Da.frL f2 (Da.frL f1 d3 ibb) ibb) ibb) ibb
      refine k H4 ob (frA (js := [7 + e, 11 + e, 3]) (os := []) F (by simp; omega) (by simp)) (fun _ _ => .inl rfl) ?_
      refine s.now he hb q' F (by rw [show ((n + 1 : Nat) : Int) = (M.exp e : Int) + 1 by omega]; exact W4) (DaL.frL F r (im_psn (s.im e he) _ _)) (f4.at (f3.at0 e2) k3) ((DaL.frL F (q' ▸ rh) (q' ▸ ih)).append (.one' d3')) e4
        ((DaL.frL F rn inn).append (.one' (.tup (f4.tup _ _ e3) (Nat.le_of_ble_eq_true rfl) (.cons (.int _) (.cons (.str _) (.cons (.int _) (.one' .non)))))))
theorem ok_Ldelivered {f : Addr} {fd : FuncData} (F : Fun K "_law_delivered" "_law_delivered" s_Ldelivered f fd) (T : Txt K mg A) (c_Wire_take : CalM P w K mg base A.Wire "take" 1 ["self", "number"] (sp_Wire_take K A)) (c_Wire_acknowledged : CalM P w K mg base A.Wire "acknowledged" 1 ["self", "number"] (sp_Wire_acknowledged K A)) : FnOk P w K mg base CX0 (2) f fd ["_law_net", "_law_wires", "_law_handled", "_law_letter", "_law_known"] (sp_Ldelivered K A) := by
  refine F.ok sc_Ldelivered (fun vs H Q E h => ?_) (fun cdv Ar outer s H vs Q E hr h => ⟨t_Ldelivered K A, ?_, ?_⟩)
  · obtain ⟨x0, x1, x2, x3, x4, rfl, _⟩ := h
    rfl
  · have hu := hu_of hr
    exact (pss_cons (ps_set (i := 5) sc_Ldelivered.nd rfl (Or.inl rfl) (pe_ix ix_tup (pv 3) pe_int (fun _ _ => rfl)))
    (pss_cons (ps_if (pt_cmpR op_eq (pe_ix ix_tup (pv 3) pe_int (fun _ _ => rfl)) pe_str (nomark _)) (pss_cons (ps_expr (pe_mt (pe_ix ix_list (pv 1) (pv 5) (fun _ _ => rfl)) T.cl_Wire c_Wire_acknowledged (hr.mono (by first | decide | omega)) (pa_cons (pe_ix ix_tup (pv 3) pe_int (fun _ _ => rfl)) pa_nil)))
    (pss_cons (ps_asg (pe_callB (b_max2 rfl) (by rfl) T.b_max (by decide +kernel) (pa_cons (pe_ix ix_list (pv 4) (pv 5) (fun _ _ => rfl)) (pa_cons (pe_op o_add (pe_ix ix_tup (pv 3) pe_int (fun _ _ => rfl)) pe_int) pa_nil))) (pg_sub (pv 4) (pv 5) set_list))
    (pss_one ps_retN))) pss_nil)
    (pss_cons (ps_set (i := 6) sc_Ldelivered.nd rfl (Or.inl rfl) (pe_ix ix_list (pv 1) (pv 5) (fun _ _ => rfl)))
    (pss_cons (ps_set (i := 7) sc_Ldelivered.nd rfl (Or.inl rfl) (pe_fld (pv 6) rfl))
    (pss_cons (ps_if (pt_val (pe_mt (pv 6) T.cl_Wire c_Wire_take (hr.mono (by first | decide | omega)) (pa_cons (pe_ix ix_tup (pv 3) pe_int (fun _ _ => rfl)) pa_nil))) (pss_one (ps_expr (pe_bm PySem.F.plainAttrs_list PySem.F.slot_list_append PySem.F.type_list_append mt_append (pe_ix ix_list (pv 2) (pv 5) (fun _ _ => rfl)) (pa_cons (pe_ix ix_tup (pv 3) pe_int (fun _ _ => rfl)) pa_nil)))) pss_nil)
    (pss_one (ps_if (pt_cmpR c_le (pe_ix ix_tup (pv 3) pe_int (fun _ _ => rfl)) (pv 7) (nomark _)) (pss_one (ps_expr (pe_bm PySem.F.plainAttrs_list PySem.F.slot_list_append PySem.F.type_list_append mt_append (pv 0) (pa_cons (pe_tup (pa_cons (pe_op o_sub pe_int (pv 5)) (pa_cons pe_str (pa_cons (pe_op o_sub (pe_fld (pv 6) rfl) pe_int) (pa_cons pe_non pa_nil))))) pa_nil)))) pss_nil)))))))
  · obtain ⟨x0, x1, x2, x3, x4, rfl, h⟩ := h
    exact pu_Ldelivered T h

/-! ### the objects that stand -/
def AL (H : Hp) (l : List Addr) : Prop := l.Nodup ∧ ∀ a ∈ l, ∃ o, H a = some o
theorem AL.fr0 {H H' : Hp} {l : List Addr} (s : AL H l) (f : Fr [] H H') : AL H' l := ⟨s.1, fun a h => by obtain ⟨o, e⟩ := s.2 a h; exact ⟨o, f.at0 e⟩⟩
theorem AL.new {H H' : Hp} {l : List Addr} {p : Addr} {o : HO} (s : AL H l) (f : Fr [] H H') (n : H p = none) (e : H' p = some o) : AL H' (p :: l) :=
  ⟨List.nodup_cons.mpr ⟨fun q => by (obtain ⟨o, e⟩ := s.2 p q; rw [n] at e; cases e), s.1⟩, fun a h => (List.mem_cons.mp h).elim (fun q => q ▸ ⟨o, e⟩) ((s.fr0 f).2 a)⟩
theorem AL.put {H H' : Hp} {l : List Addr} {p : Addr} {o : HO} (s : AL H l) (f : Fr [p] H H') (e : H' p = some o) : AL H' l :=
  ⟨s.1, fun a h => by
    by_cases q : a = p
    · exact ⟨o, q ▸ e⟩
    · obtain ⟨u, e⟩ := s.2 a h; exact ⟨u, f.at e (nin1 q nin0)⟩⟩
theorem nd_get {l : List Addr} {d : Addr} (h : l.Nodup) {i j : Nat} (hi : i < l.length) (hj : j < l.length) (n : i ≠ j) : l.getD i d ≠ l.getD j d := by
  rw [List.getD_eq_getElem?_getD, List.getD_eq_getElem?_getD, List.getElem?_eq_getElem hi, List.getElem?_eq_getElem hj]
  have pw := List.pairwise_iff_getElem.mp h
  rcases Nat.lt_or_gt_of_ne n with q | q
  · intro e; exact pw i j hi hj q (Option.some.inj (by simpa using e))
  · intro e; exact pw j i hj hi q (Option.some.inj (by simpa using e.symm))
def ixs : List Nat := [13, 14, 8, 7, 4, 1, 0, 12, 10, 6, 5, 3, 2]
theorem ixs_inj : ∀ i, i < 13 → ∀ j, j < 13 → i ≠ j → ixs.getD i 0 ≠ ixs.getD j 0 := by decide
theorem ixs_lt : ∀ i, i < 13 → ixs.getD i 0 < 15 ∧ ixs.getD i 0 ≠ 11 ∧ ixs.getD i 0 ≠ 9 := by decide
theorem map_erase {α β : Type} (f : α → β) : ∀ (l : List α) (n : Nat), (l.eraseIdx n).map f = (l.map f).eraseIdx n
  | [], _ => rfl
  | _ :: _, 0 => rfl
  | a :: l, n + 1 => by show f a :: (l.eraseIdx n).map f = _; rw [map_erase f l n]; rfl
def Mo.rounds : Nat → Mo → Mo
  | 0, M => M
  | t + 1, M => (Mo.rounds t M).round
structure Bd (M : Mo) (i : Nat) : Prop where
  n : M.net.length ≤ 200 * i
  s : ∀ e, e < 2 → (M.sent e).length ≤ i
theorem at_ad1 {ad : Nat → Addr} {k e : Nat} (he : e < 2) : atI [V.ref (ad k), V.ref (ad (k + 1))] (1 - (e : Int)) = some (.ref (ad (k + (1 - e)))) := by
  rw [one_sub he]; exact at_ad (by omega)
def SW (A : Ad) (a : Addr) (ad : Nat → Addr) (i : Nat) (σ : L2.St) (H : Hp) : Prop := ∃ (ob : Nat → Addr) (M : Mo) (v7 v8 v9 v10 v11 v12 v13 v14 v15 v16 v17 v18 : Option V),
  σ = [some (.ref a), some (.ref (ad 0)), some (.ref (ad 2)), some (.ref (ad 3)), some (.ref (ad 4)), some (.ref (ad 5)), some (.ref (ad 6)), v7, v8, v9, v10, v11, v12, v13, v14, v15, v16, v17, v18] ∧ KW A H ad ob M ∧ Bd M i
theorem deliv_bd {M : Mo} {L : Let} {i : Nat} (b : Bd M i) : (M.deliv L).net.length ≤ 200 * i + 1 ∧ ∀ e, e < 2 → ((M.deliv L).sent e).length ≤ i := by
  obtain ⟨r, hr, h1⟩ := deliv_net (M := M) (L := L)
  have := b.n
  exact ⟨by rw [hr, List.length_append]; omega, fun e he => by rw [deliv_sent]; exact b.s e he⟩
def P_law (K : PySem.W.Frag) (A : Ad) (x0 : V) (H : Hp) (Q : VK) : Prop := ∃ (a : Addr) (ns : List Int), x0 = .ref a ∧ SqL K H a (ns.map V.int) ∧ ns.length ≤ 63 ∧ ∀ H', Q (.bl true) H'
def sp_law (K : PySem.W.Frag) (A : Ad) : Sp := fun vs H Q _ => ∃ x0, vs = [x0] ∧ P_law K A x0 H Q
theorem c_law {K : PySem.W.Frag} {A : Ad} {x0 : V} {H : Hp} {Q : VK} {E : XK} (h : P_law K A x0 H Q) : sp_law K A [x0] H Q E := ⟨_, rfl, h⟩
theorem sc_law : FnScope ["_law_script", "_law_draws", "_law_wires", "_law_net", "_law_sent", "_law_handled", "_law_known", "_law_k", "_law_end", "_law_pick", "_law_body", "_law_number", "_law_at", "_law_side", "_law_left", "_law_turn", "_law_letters", "_law_letter", "_law_n"] ["_law_script"] (defScope s_law) := ⟨rfl, rfl, rfl, by decide +kernel, rfl, by decide +kernel, by decide +kernel⟩
def t_law (K : PySem.W.Frag) (A : Ad) : TS :=
  (tSeq (tAsg (tLst (tCons (tCl (sp_Lnumbers K A) (tCons (tVar 0) tNil)) (tCons (tC (.int 0)) tNil))) (gName 1))
    (tSeq (tAsg (tLst (tCons (tMk A.Wire (sp_Wire_init K A) tNil) (tCons (tMk A.Wire (sp_Wire_init K A) tNil) tNil))) (gName 2))
    (tSeq (tAsg (tLst tNil) (gName 3))
    (tSeq (tAsg (tLst (tCons (tLst tNil) (tCons (tLst tNil) tNil))) (gName 4))
    (tSeq (tAsg (tLst (tCons (tLst tNil) (tCons (tLst tNil) tNil))) (gName 5))
    (tSeq (tAsg (tLst (tCons (tC (.int 0)) (tCons (tC (.int 0)) tNil))) (gName 6))
    (tSeq (tFor (iRng1 (tCons (tOp oMod (tCl (sp_Ldraw K A) (tCons (tVar 1) tNil)) (tC (.int 61))) tNil)) (gName 7) (tSeq (tAsg (tOp oMod (tCl (sp_Ldraw K A) (tCons (tVar 1) tNil)) (tC (.int 2))) (gName 8))
    (tSeq (tAsg (tOp oMod (tCl (sp_Ldraw K A) (tCons (tVar 1) tNil)) (tC (.int 7))) (gName 9))
    (Evl.tCut (tIfS (tTest (tOp cLt (tVar 9) (tC (.int 2)))) (tSeq (tAsg (tTup (tCons (tC (.str "give")) (tCons (tVar 8) (tCons (tVar 7) tNil)))) (gName 10))
    (tSeq (tAsg (tMt A.Wire "send" (sp_Wire_send K A) (tOp (rIxL K) (tVar 2) (tVar 8)) (tCons (tVar 10) tNil)) (gName 11))
    (tSeq (tIfS (tNot (tB (tCl (sp_Lequal K A 12) (tCons (tVar 11) (tCons (tCB (rLenSq K) (tCons (tOp (rIxL K) (tVar 4) (tVar 8)) tNil)) tNil))))) (tRet (tC (.bl false))) tNext)
    (tSeq (tDrop (tBM K "list" rAppend (tOp (rIxL K) (tVar 4) (tVar 8)) (tCons (tVar 10) tNil)))
    (tDrop (tBM K "list" rAppend (tVar 3) (tCons (tTup (tCons (tOp oSub (tC (.int 1)) (tVar 8)) (tCons (tC (.str "data")) (tCons (tVar 11) (tCons (tVar 10) tNil))))) tNil))))))) (tIfS (tTest (tOp rEq (tVar 9) (tC (.int 2)))) (tDrop (tCl (sp_Lticked K A) (tCons (tVar 3) (tCons (tVar 2) (tCons (tVar 8) tNil))))) (tIfS (tTest (tOp cGt (tCB (rLenSq K) (tCons (tVar 3) tNil)) (tC (.int 0)))) (tSeq (tAsg (tOp oMod (tCl (sp_Ldraw K A) (tCons (tVar 1) tNil)) (tCB (rLenSq K) (tCons (tVar 3) tNil))) (gName 12))
    (tIfS (tTest (tOp rEq (tVar 9) (tC (.int 3)))) (tDrop (tBM K "list" rPopAt (tVar 3) (tCons (tVar 12) tNil))) (tIfS (tTest (tOp rEq (tVar 9) (tC (.int 4)))) (tDrop (tBM K "list" rAppend (tVar 3) (tCons (tOp (rIxL K) (tVar 3) (tVar 12)) tNil))) (tDrop (tCl (sp_Ldelivered K A) (tCons (tVar 3) (tCons (tVar 2) (tCons (tVar 5) (tCons (tBM K "list" rPopAt (tVar 3) (tCons (tVar 12) tNil)) (tCons (tVar 6) tNil)))))))))) tNext)))
    (tFor (iList K (tLst (tCons (tC (.int 0)) (tCons (tC (.int 1)) tNil)))) (gName 13) (tSeq (tIfS (tOr (tNot (tB (tCl (sp_Lequal K A 12) (tCons (tOp (rIxL K) (tVar 5) (tVar 13)) (tCons (tSl (rSlL K) (tOp (rIxL K) (tVar 4) (tOp oSub (tC (.int 1)) (tVar 13))) tNoPart (tPart (tCB (rLenSq K) (tCons (tOp (rIxL K) (tVar 5) (tVar 13)) tNil)))) tNil))))) (tTest (tOp rNe (tFld K (tOp (rIxL K) (tVar 2) (tVar 13)) "expected") (tCB (rLenSq K) (tCons (tOp (rIxL K) (tVar 5) (tVar 13)) tNil))))) (tRet (tC (.bl false))) tNext)
    (tSeq (tAsg (tLc (iRng2 (tCons (tOp (rIxL K) (tVar 6) (tVar 13)) (tCons (tCB (rLenSq K) (tCons (tOp (rIxL K) (tVar 4) (tVar 13)) tNil)) tNil))) (gName 18) tYes (tTup (tCons (tVar 18) (tCons (tOp (rIxL K) (tOp (rIxL K) (tVar 4) (tVar 13)) (tVar 18)) tNil))) [18]) (gName 14))
    (tIfS (tNot (tB (tCl (sp_Lequal K A 12) (tCons (tLst (tCons (tCB (rListOf K) (tCons (tFld K (tOp (rIxL K) (tVar 2) (tVar 13)) "outbox") tNil)) (tCons (tFld K (tOp (rIxL K) (tVar 2) (tVar 13)) "sent") tNil))) (tCons (tLst (tCons (tVar 14) (tCons (tCB (rLenSq K) (tCons (tOp (rIxL K) (tVar 4) (tVar 13)) tNil)) tNil))) tNil))))) (tRet (tC (.bl false))) tNext))))))))
    (tSeq (tFor (iRng1 (tCons (tC (.int 3)) tNil)) (gName 15) (tSeq (tDrop (tCl (sp_Lticked K A) (tCons (tVar 3) (tCons (tVar 2) (tCons (tC (.int 0)) tNil)))))
    (tSeq (tDrop (tCl (sp_Lticked K A) (tCons (tVar 3) (tCons (tVar 2) (tCons (tC (.int 1)) tNil)))))
    (tSeq (tAsg (tCB (rListOf K) (tCons (tVar 3) tNil)) (gName 16))
    (tSeq (tDrop (tBM0 K "list" rClear (tVar 3)))
    (tFor (iList K (tVar 16)) (gName 17) (tDrop (tCl (sp_Ldelivered K A) (tCons (tVar 3) (tCons (tVar 2) (tCons (tVar 5) (tCons (tVar 17) (tCons (tVar 6) tNil)))))))))))))
    (tRet (tCl (sp_Lequal K A 12) (tCons (tLst (tCons (tOp (rIxL K) (tVar 5) (tC (.int 0))) (tCons (tOp (rIxL K) (tVar 5) (tC (.int 1))) (tCons (tCB (rListOf K) (tCons (tFld K (tOp (rIxL K) (tVar 2) (tC (.int 0))) "outbox") tNil)) (tCons (tCB (rListOf K) (tCons (tFld K (tOp (rIxL K) (tVar 2) (tC (.int 1))) "outbox") tNil)) tNil))))) (tCons (tLst (tCons (tOp (rIxL K) (tVar 4) (tC (.int 1))) (tCons (tOp (rIxL K) (tVar 4) (tC (.int 0))) (tCons (tLst tNil) (tCons (tLst tNil) tNil))))) tNil))))))))))))
theorem pu_law (T : Txt K mg A) {x0 : V} {H : Hp} {Q : VK} (h : P_law K A x0 H Q) : t_law K A { nx := fun _ H' => Q .non H', rt := Q } [some x0, none, none, none, none, none, none, none, none, none, none, none, none, none, none, none, none, none, none] H := by
  obtain ⟨a, ns, rfl, hS, hl, k⟩ := h
  unfold t_law
  walk_at "go"
  refine c_Lnumbers ⟨a, ns, rfl, hS, hl, fun nl ms H1 n1 f1 e1 sm hm => ?_⟩
  have A1 : AL H1 [nl] := ⟨by simp, fun a h => by rw [List.mem_singleton.mp h]; exact ⟨_, e1⟩⟩
  walk_at "go"
  rename_i d H2 n2 f2 e2 w0 dx0 H3 n3 n4 n5 f3 e3 e4
  have A2 := A1.new f2 n2 e2
  have A3 := A2.new f3 n3 e3
  refine c_Wire_init ⟨w0, dx0, rfl, e3, fun l0 H4 n6 f4 W0 => ⟨rfl, ?_⟩⟩
  have A4 : AL H4 [l0, w0, d, nl] := by
    obtain ⟨⟨_, q⟩, q2⟩ := id W0
    refine ⟨List.nodup_cons.mpr ⟨fun z => ?_, A3.1⟩, fun x hx => ?_⟩
    · obtain ⟨o, e⟩ := A3.2 _ z; rw [n6] at e; cases e
    · rcases List.mem_cons.mp hx with h | h
      · rw [h]; exact ⟨_, q2⟩
      · exact (A3.put f4 q).2 x h
  walk_at "go"
  rename_i w1 dx1 H5 n7 n8 n9 f5 e5 e6
  have A5 := A4.new f5 n7 e5
  refine c_Wire_init ⟨w1, dx1, rfl, e5, fun l1 H6 n10 f6 W1 => ⟨rfl, ?_⟩⟩
  have A6 : AL H6 [l1, w1, l0, w0, d, nl] := by
    obtain ⟨⟨_, q⟩, q2⟩ := id W1
    refine ⟨List.nodup_cons.mpr ⟨fun z => ?_, A5.1⟩, fun x hx => ?_⟩
    · obtain ⟨o, e⟩ := A5.2 _ z; rw [n10] at e; cases e
    · rcases List.mem_cons.mp hx with h | h
      · rw [h]; exact ⟨_, q2⟩
      · exact (A5.put f6 q).2 x h
  walk_at "go"
  rename_i wl H7 n11 f7 e7 net H8 n12 f8 e8 s0 H9 n13 f9 e9 s1 H10 n14 f10 e10 so H11 n15 f11 e11 h0 H12 n16 f12 e12 h1 H13 n17 f13 e13 ho H14 n18 f14 e14 kn H15 n19 f15 e15
  have A7 := A6.new f7 n11 e7
  have A8 := A7.new f8 n12 e8
  have A9 := A8.new f9 n13 e9
  have A10 := A9.new f10 n14 e10
  have A11 := A10.new f11 n15 e11
  have A12 := A11.new f12 n16 e12
  have A13 := A12.new f13 n17 e13
  have A14 := A13.new f14 n18 e14
  have A15 := A14.new f15 n19 e15
  have F15 : Fr [] H6 H15 := (((((((f7.then0 f8).then0 f9).then0 f10).then0 f11).then0 f12).then0 f13).then0 f14).then0 f15
  have F5 : Fr [w1] H4 H15 := ((f6.pre0' f5).then0 F15)
  obtain ⟨ad, ob, a0, a1, a2, a3, a4, a5, a6, s⟩ : ∃ ad ob : Nat → Addr, ad 0 = d ∧ ad 1 = nl ∧ ad 2 = wl ∧ ad 3 = net ∧ ad 4 = so ∧ ad 5 = ho ∧ ad 6 = kn ∧ KW A H15 ad ob ⟨fun _ => [], fun _ => 0, fun _ => 0, []⟩ := by
    have nd := A15.1
    have w01 : w0 ≠ w1 := by have := nd_get (d := d) nd (i := 12) (j := 10) (Nat.le_of_ble_eq_true rfl) (Nat.le_of_ble_eq_true rfl) (by decide); exact this
    have l01 : l0 ≠ w1 := by have := nd_get (d := d) nd (i := 11) (j := 10) (Nat.le_of_ble_eq_true rfl) (Nat.le_of_ble_eq_true rfl) (by decide); exact this
    refine ⟨fun i => [kn, ho, h1, h0, so, s1, s0, net, wl, l1, w1, l0, w0, d, nl].getD (ixs.getD i 0) d, fun e => [kn, ho, h1, h0, so, s1, s0, net, wl, l1, w1, l0, w0, d, nl].getD (if e = 0 then 11 else 9) d, rfl, rfl, rfl, rfl, rfl, rfl, rfl, ?_⟩
    have dl : d ≠ w0 := (nd_get (d := d) nd (i := 13) (j := 12) (Nat.le_of_ble_eq_true rfl) (Nat.le_of_ble_eq_true rfl) (by decide) :)
    have nw : nl ≠ w0 := (nd_get (d := d) nd (i := 14) (j := 12) (Nat.le_of_ble_eq_true rfl) (Nat.le_of_ble_eq_true rfl) (by decide) :)
    have dl1 : d ≠ w1 := (nd_get (d := d) nd (i := 13) (j := 10) (Nat.le_of_ble_eq_true rfl) (Nat.le_of_ble_eq_true rfl) (by decide) :)
    have nw1 : nl ≠ w1 := (nd_get (d := d) nd (i := 14) (j := 10) (Nat.le_of_ble_eq_true rfl) (Nat.le_of_ble_eq_true rfl) (by decide) :)
    have ed : H15 d = some (.lst [.ref nl, .int 0]) := F5.at (f4.at (f3.at0 e2) (nin1 dl nin0)) (nin1 dl1 nin0)
    have enl : H15 nl = some (.lst (ms.map V.int)) := F5.at (f4.at (f3.at0 (f2.at0 e1)) (nin1 nw nin0)) (nin1 nw1 nin0)
    refine ⟨fun i j hi hj hne => nd_get nd (ixs_lt i hi).1 (ixs_lt j hj).1 (ixs_inj i hi j hj hne), fun e i he hi => ?_, ?_, ⟨ms, 0, ed, enl, sm, hm, Int.le_refl _⟩, ?_, ⟨[], ?_, .nil⟩, ?_, ?_, e15, fun e he => ?_, fun e he => ?_, fun e he => ?_, fun e he b hb => (nomatch hb), ⟨fun e he => Nat.le_refl _, fun e he => Nat.le_refl _, fun L hL => (nomatch hL)⟩⟩
    · have := ixs_lt i hi
      refine nd_get nd ?_ this.1 ?_
      · show (if e = 0 then 11 else 9) < 15; split <;> decide
      · split <;> omega
    · exact (nd_get (d := d) nd (i := 11) (j := 9) (Nat.le_of_ble_eq_true rfl) (Nat.le_of_ble_eq_true rfl) (by decide) :)
    · exact (f15.at0 (f14.at0 (f13.at0 (f12.at0 (f11.at0 (f10.at0 (f9.at0 (f8.at0 e7))))))) :)
    · exact (f15.at0 (f14.at0 (f13.at0 (f12.at0 (f11.at0 (f10.at0 (f9.at0 e8)))))) :)
    · exact (f15.at0 (f14.at0 (f13.at0 (f12.at0 e11))) :)
    · exact (f15.at0 e14 :)
    · match e, he with
      | 0, _ => exact ⟨[], W0.fr F5 (nin1 w01 nin0) (nin1 l01 nin0), .nil⟩
      | 1, _ => exact ⟨[], W1.fr F15 nin0 nin0, .nil⟩
    · match e, he with
      | 0, _ => exact ⟨[], (f15.at0 (f14.at0 (f13.at0 (f12.at0 (f11.at0 (f10.at0 e9))))) :), .nil⟩
      | 1, _ => exact ⟨[], (f15.at0 (f14.at0 (f13.at0 (f12.at0 (f11.at0 e10)))) :), .nil⟩
    · match e, he with
      | 0, _ => exact ⟨[], (f15.at0 (f14.at0 (f13.at0 e12)) :), .nil⟩
      | 1, _ => exact ⟨[], (f15.at0 (f14.at0 e13) :), .nil⟩
  subst a0 a1 a2 a3 a4 a5 a6
  clear F15 F5 A1 A2 A3 A4 A5 A6 A7 A8 A9 A10 A11 A12 A13 A14 A15 f1 f2 f3 f4 f5 f6 f7 f8 f9 f10 f11 f12 f13 f14 f15 e1 e2 e3 e4 e5 e6 e7 e8 e9 e10 e11 e12 e13 e14 e15 n1 n2 n3 n4 n5 n6 n7 n8 n9 n10 n11 n12 n13 n14 n15 n16 n17 n18 n19 W0 W1 hS sm hm
  have D0 := s.dr
  walk_at "go"
  rename_i z H1 z0 z1 f1 D1
  have s1 := s.draw f1 D1
  clear s D0 f1 D1
  refine f_range (lo := 0) (n := (z % 61).toNat) (SW A a ad) ⟨_, _, _, _, _, _, _, _, _, _, _, _, _, _, rfl, s1, ⟨Nat.zero_le _, fun _ _ => Nat.zero_le _⟩⟩ ?_ ?_
  · rintro i σ H2 hi ⟨ob, M, v7, v8, v9, v10, v11, v12, v13, v14, v15, v16, v17, v18, rfl, s, bd⟩
    have hi61 : i < 61 := by omega
    have D := s.dr
    walk_at "go"
    rename_i y1 H3 y10 y11 f3 D3 y2 H4 y20 y21 f4 D4
    have s4 := (s.draw f3 D3).draw f4 D4
    obtain ⟨e, hee, he⟩ : ∃ e : Nat, y1 % 2 = (e : Int) ∧ e < 2 := ⟨(y1 % 2).toNat, by omega, by omega⟩
    rw [hee]
    clear s D f3 D3 f4
    refine g_cut (SW A a ad (i + 1)) ?_ ?_
    · walk_at "go"
      obtain ⟨xs, W, r⟩ := s4.wi e he
      obtain ⟨zs, hnet, rn⟩ := s4.ne
      obtain ⟨ss, hss, rs⟩ := s4.sl e he
      have bn := bd.n
      have bs := bd.s e he
      have hzl : zs.length ≤ 20000 := by rw [rn.len, List.length_map]; omega
      have hsl : ss.length = (M.sent e).length := rs.len
      have hxl : xs.length = (M.sent e).length - M.known e := by rw [r.len]; unfold OutD outs; rw [List.length_map, psn_len]
      have ir := im_psn (s4.im e he) (M.known e) ((M.sent e).length - M.known e)
      have is := im_sent (s4.im e he)
      have inn := im_lets s4.im s4.inv.ok
      refine g_ite (fun c => ?_) (fun c => ?_)
      · -- a body is sent
        walk_at "go"
        rename_i t H5 n5 f5 e5
        have s5 := s4.fr0 f5
        refine g_ixL (SqL.of s5.ws) (at_ad he) ?_
        obtain ⟨⟨dx, hp⟩, hl'⟩ := W.fr f5 nin0 nin0
        walk_at "go"
        refine c_Wire_send ⟨ad (7 + e), ob e, _, xs, _, rfl, W.fr f5 nin0 nin0, by omega, fun t2 H6 n6 f6 e6 W6 => ?_⟩
        have q4 : ad 4 ∉ [ad (7 + e), ob e] := nin1 (s4.inj 4 (7 + e) (by decide) (by omega) (by omega)) (nin1 (s4.obn e 4 he (by decide)).symm nin0)
        have q9 : ad (9 + e) ∉ [ad (7 + e), ob e] := nin1 (s4.inj (9 + e) (7 + e) (by omega) (by omega) (by omega)) (nin1 (s4.obn e (9 + e) he (by omega)).symm nin0)
        have q3 : ad 3 ∉ [ad (7 + e), ob e] := nin1 (s4.inj 3 (7 + e) (by decide) (by omega) (by omega)) (nin1 (s4.obn e 3 he (by decide)).symm nin0)
        have hss6 := f6.at (f5.at0 hss) q9
        have hso6 := f6.at s5.ss q4
        have hn6 := f6.at (f5.at0 hnet) q3
        walk_at "go"
        refine g_ixL (SqL.of hso6) (at_ad he) ?_
        walk_at "go"
        refine c_Lequal ⟨.int (M.sent e).length, .int _, by rw [hsl]; exact .int _, Nat.zero_le _, ?_⟩
        walk_at "go"
        refine g_ixL (SqL.of hso6) (at_ad he) ?_
        walk_at "go"
        rename_i H7 f7 e7
        have q39 : ad 3 ∉ [ad (9 + e)] := nin1 (s4.inj 3 (9 + e) (by decide) (by omega) (by omega)) nin0
        have hn7 := f7.at hn6 q39
        walk_at "go"
        rename_i t3 H8 n8 f8 e8 H9 f9 e9
        rw [one_sub he] at e8
        have F7 : Fr [ad (7 + e), ob e, ad (9 + e)] H4 H8 := ((f6.pre0' f5).trans f7).then0 f8
        have F9 : Fr [ad (7 + e), ad (9 + e), ad 3, ob e] H4 H9 := (F7.trans f9).mono (by intro x hx; simp only [List.mem_append, List.mem_cons, List.not_mem_nil, or_false] at hx ⊢; rcases hx with (h | h | h) | h <;> simp [h])
        have W9 := ((W6.fr f7 (nin1 (s4.inj (7 + e) (9 + e) (by omega) (by omega) (by omega)) nin0) (nin1 (s4.obn e (9 + e) he (by omega)) nin0)).fr f8 nin0 nin0).fr f9 (nin1 (s4.inj (7 + e) 3 (by omega) (by omega) (by omega)) nin0) (nin1 (s4.obn e 3 he (by decide)) nin0)
        have et : H9 t = some (.tup [.str "give", .int e, .int (0 + i)]) := f9.tup _ _ (f8.tup _ _ (f7.tup _ _ (f6.tup _ _ e5)))
        have et2 := f9.tup _ _ (f8.tup _ _ (f7.tup _ _ e6))
        have db : Da H9 (.ref t) (bodyD e (0 + i)) := .tup et (Nat.le_of_ble_eq_true rfl) (.cons (.str _) (.cons (.int _) (.one' (.int _))))
        refine ⟨ob, M.send e (bodyD e (0 + i)), _, _, _, _, _, _, _, _, _, _, _, _, rfl, s4.send he ⟨_, _, rfl⟩ F9 (xs := xs ++ [.ref t2]) (by rw [show (((M.sent e).length + 1 : Nat) : Int) = ((M.sent e).length : Int) + 1 by omega]; exact W9) ?_ (f9.at (f8.at0 e7) (nin1 (s4.inj (9 + e) 3 (by omega) (by omega) (by omega)) nin0)) ((DaL.frL F9 rs is).append (.one' db)) e9 ((DaL.frL F9 rn inn).append (.one' (.tup (f9.tup _ _ e8) (Nat.le_of_ble_eq_true rfl) (.cons (.int _) (.cons (.str _) (.cons (.int _) (.one' db))))))), ?_, fun e' he' => ?_⟩
        · rw [OutD.app]
          exact (DaL.frL F9 r ir).append (.one' (.tup et2 (Nat.le_of_ble_eq_true rfl) (.cons (.int _) (.one' db))))
        · show (M.net ++ [_]).length ≤ _
          rw [List.length_append, List.length_singleton]; omega
        · show (setN M.sent e (M.sent e ++ [_]) e').length ≤ _
          have := bd.s e' he'
          unfold setN
          split
          · rw [List.length_append, List.length_singleton]; omega
          · omega
      · walk_at "go"
        refine g_ite (fun c => ?_) (fun c => ?_)
        · -- an end ticks
          walk_at "go"
          refine c_Lticked ⟨ad, ob, M, e, rfl, rfl, rfl, he, s4, by omega, by omega, fun H5 f5 s5 => ?_⟩
          walk_at "go"
          refine ⟨ob, M.tick e, _, _, _, _, _, _, _, _, _, _, _, _, rfl, s5, ?_, fun e' he' => Nat.le_succ_of_le (bd.s e' he')⟩
          show (M.net ++ M.lets e).length ≤ _
          rw [List.length_append, lets_len]; omega
        · walk_at "go"
          refine g_ite (fun c => ?_) (fun c => ?_)
          · walk_at "go"
            rename_i y3 H5 y30 y31 f5 D5
            have s5 := s4.draw f5 D5
            have h30 : ad 3 ∉ [ad 0] := nin1 (s4.inj 3 0 (by decide) (by decide) (by decide)) nin0
            have hn5 := f5.at hnet h30
            have rn5 := DaL.frL f5 rn inn
            walk_at "go"
            have g0 := Int.emod_nonneg y3 (show ((zs.length : Nat) : Int) ≠ 0 by omega)
            have g1 := Int.emod_lt_of_pos y3 (show 0 < ((zs.length : Nat) : Int) by omega)
            obtain ⟨v, hv, hv2⟩ := atI_of (xs := zs) g0 g1
            obtain ⟨dv, hdv, ddv⟩ := rn5.get hv2
            rw [List.getElem?_map] at hdv
            obtain ⟨L, hL, rfl⟩ : ∃ L, M.net[(y3 % zs.length).toNat]? = some L ∧ letD L = dv := by
              cases q : M.net[(y3 % zs.length).toNat]? with
              | none => rw [q] at hdv; cases hdv
              | some L => rw [q] at hdv; exact ⟨L, rfl, Option.some.inj hdv⟩
            have okL := s4.inv.ok L (List.mem_of_getElem? hL)
            have iL := im_let s4.im okL
            refine g_ite (fun c => ?_) (fun c => ?_)
            · walk_at "go"
              refine g_popAt hn5 (by omega) g0 hv2 fun H6 f6 e6 => ?_
              walk_at "go"
              refine ⟨ob, { M with net := M.net.eraseIdx (y3 % zs.length).toNat }, _, _, _, _, _, _, _, _, _, _, _, _, rfl, s5.net f6 e6 ?_ fun L h => s4.inv.ok L (List.mem_of_mem_eraseIdx h), ?_, fun e' he' => Nat.le_succ_of_le (bd.s e' he')⟩
              · rw [map_erase]; exact (DaL.frL f6 rn5 inn).erase _
              · show (M.net.eraseIdx _).length ≤ _
                have := List.length_eraseIdx_le M.net (y3 % zs.length).toNat
                omega
            · walk_at "go"
              refine g_ite (fun c => ?_) (fun c => ?_)
              · walk_at "go"
                refine g_ixL (SqL.of hn5) hv ?_
                walk_at "go"
                rename_i H6 f6 e6
                refine ⟨ob, { M with net := M.net ++ [L] }, _, _, _, _, _, _, _, _, _, _, _, _, rfl, s5.net f6 e6 ?_ fun x h => ?_, ?_, fun e' he' => Nat.le_succ_of_le (bd.s e' he')⟩
                · rw [List.map_append]; exact (DaL.frL f6 rn5 inn).append (.one' (Da.frL f6 ddv iL))
                · rcases List.mem_append.mp h with h | h
                  · exact s4.inv.ok x h
                  · rw [List.mem_singleton.mp h]; exact okL
                · show (M.net ++ [L]).length ≤ _
                  rw [List.length_append, List.length_singleton]; omega
              · walk_at "go"
                refine g_popAt hn5 (by omega) g0 hv2 fun H6 f6 e6 => ?_
                walk_at "go"
                have hel := List.length_eraseIdx_le M.net (y3 % zs.length).toNat
                have s6 : KW A H6 ad ob { M with net := M.net.eraseIdx (y3 % zs.length).toNat } := s5.net f6 e6 (by rw [map_erase]; exact (DaL.frL f6 rn5 inn).erase _) fun L h => s4.inv.ok L (List.mem_of_mem_eraseIdx h)
                have bd6 : Bd { M with net := M.net.eraseIdx (y3 % zs.length).toNat } i := ⟨Nat.le_trans hel bd.n, bd.s⟩
                refine c_Ldelivered ⟨ad, ob, { M with net := M.net.eraseIdx (y3 % zs.length).toNat }, L, rfl, rfl, rfl, rfl, Da.frL f6 ddv iL, okL.mono rfl fun _ => Nat.le_refl _, s6, Nat.le_trans hel (by omega), fun e' he' => Nat.le_trans (bd.s e' he') (by omega), fun H7 ob7 f7 o7 s7 => ?_⟩
                walk_at "go"
                have b7 := deliv_bd (L := L) bd6
                exact ⟨ob7, _, _, _, _, _, _, _, _, _, _, _, _, _, rfl, s7, by have := b7.1; omega, fun e' he' => Nat.le_succ_of_le (b7.2 e' he')⟩
          · walk_at "go"
            exact ⟨ob, M, _, _, _, _, _, _, _, _, _, _, _, _, rfl, s4, by omega, fun e' he' => Nat.le_succ_of_le (bd.s e' he')⟩
    · -- both ends are looked at
      rintro σ H5 ⟨ob, M, v7, v8, v9, v10, v11, v12, v13, v14, v15, v16, v17, v18, rfl, s, bd⟩
      walk_at "go"
      rename_i p H6 n6 f6 e6
      refine f_list (xs := [.int 0, .int 1]) (fun j σ H' => ∃ (v13 v14 : Option V), σ = [some (.ref a), some (.ref (ad 0)), some (.ref (ad 2)), some (.ref (ad 3)), some (.ref (ad 4)), some (.ref (ad 5)), some (.ref (ad 6)), v7, v8, v9, v10, v11, v12, v13, v14, v15, v16, v17, v18] ∧ Fr [] H6 H') ⟨_, _, rfl, Fr.refl⟩ (fun j σ H' _ ⟨_, _, _, f⟩ => SqL.of (f.at0 e6)) ?_ ?_
      · rintro j x σ H7 hx ⟨v13, v14, rfl, f7⟩
        obtain ⟨e, rfl, he⟩ : ∃ e : Nat, x = .int e ∧ e < 2 := by
          match j, hx with
          | 0, hx => cases hx; exact ⟨0, rfl, by decide⟩
          | 1, hx => cases hx; exact ⟨1, rfl, by decide⟩
        have s7 := (s.fr0 f6).fr0 f7
        have he1 : 1 - e < 2 := by omega
        obtain ⟨xs, W, r⟩ := s7.wi e he
        obtain ⟨⟨dx, hp⟩, hl'⟩ := id W
        obtain ⟨hs, hhs, rh⟩ := s7.hl e he
        obtain ⟨ss, hss, rs⟩ := s7.sl e he
        obtain ⟨ts, hts, rt⟩ := s7.sl (1 - e) he1
        have b1 := bd.s e he
        have b2 := bd.s (1 - e) he1
        have l1 := s.inv.le1 e he
        have l2 := s.inv.le2 e he
        have l2' := s.inv.le2 (1 - e) he1
        rw [two he] at l2'
        have hhl : hs.length = M.exp e := by rw [rh.len, List.length_take]; omega
        have hsl : ss.length = (M.sent e).length := rs.len
        have htl : ts.length = (M.sent (1 - e)).length := rt.len
        have hxl : xs.length = (M.sent e).length - M.known e := by rw [r.len]; unfold OutD outs; rw [List.length_map, psn_len]
        have ir := im_psn (s.im e he) (M.known e) ((M.sent e).length - M.known e)
        have is := im_sent (s.im e he)
        have ih : immL ((M.sent (1 - e)).take (M.exp e)) = true := immL_of fun d hd => imm_of (im_sent (s.im (1 - e) he1)) d (List.mem_of_mem_take hd)
        have dh : dpL ((M.sent (1 - e)).take (M.exp e)) ≤ 5 := dpL_le fun d hd => by obtain ⟨i, j, rfl⟩ := s.im (1 - e) he1 d (List.mem_of_mem_take hd); simp [bodyD, dp, dpL]
        walk_at "go"
        refine g_ixL (SqL.of s7.hs) (at_ad he) ?_
        walk_at "go"
        refine g_ixL (SqL.of s7.ss) (at_ad1 he) ?_
        walk_at "go"
        refine g_ixL (SqL.of s7.hs) (at_ad he) ?_
        walk_at "go"
        rename_i c8 H8 n8 f8 e8
        have s8 := s7.fr0 f8
        rw [hhl, cut_take (by omega)] at e8
        refine c_Lequal ⟨.list ((M.sent (1 - e)).take (M.exp e)), .lst (f8.at0 hhs) (by omega) (DaL.frL f8 rh ih), .lst e8 (by rw [List.length_take]; omega) (DaL.frL f8 (rt.take (M.exp e)) ih), by simp only [dp]; omega, ?_⟩
        walk_at "go"
        refine g_ixL (SqL.of s8.ws) (at_ad he) ?_
        walk_at "go"
        refine g_ixL (SqL.of s8.hs) (at_ad he) ?_
        walk_at "go"
        refine g_iteN (fun c => absurd (by rw [hhl]) c) (fun _ => ?_)
        walk_at "go"
        refine g_ixL (SqL.of s8.ks) (at_kn he) ?_
        walk_at "go"
        refine g_ixL (SqL.of s8.ss) (at_ad he) ?_
        walk_at "go"
        refine l_range (lo := (M.known e : Int)) (n := ((ss.length : Int) - (M.known e : Int)).toNat) fun Dl H9 nD f9 e9 => ⟨fun m acc H' => DaL H' acc (OutD (psn (M.sent e) (M.known e) m)) ∧ Fr [] H8 H', ⟨.nil, f9⟩, fun m acc H' hm ha ⟨ra, f⟩ => ?_, fun acc H' ha ⟨ra, f⟩ => ?_⟩
        · have hml : M.known e + m < (M.sent e).length := by omega
          have hv : ss[M.known e + m]? = some (ss[M.known e + m]'(by omega)) := List.getElem?_eq_getElem (by omega)
          obtain ⟨dv, hdv, ddv⟩ := (DaL.frL f (DaL.frL f8 rs is) is).get hv
          have idv := immL_get is hdv
          have s9 := s8.fr0 f
          have hal : acc.length ≤ 1000 := by rw [ra.len]; unfold OutD; rw [List.length_map, psn_len]; omega
          walk_at "go"
          refine ⟨rfl, ?_⟩
          walk_at "go"
          refine g_ixL (SqL.of s9.ss) (at_ad he) ?_
          walk_at "go"
          refine g_ixL (SqL.of (f.at0 (f8.at0 hss))) (show atI ss ((M.known e : Int) + (m : Int)) = _ from by rw [show (M.known e : Int) + (m : Int) = ((M.known e + m : Nat) : Int) by omega]; exact atI_nat hv) ?_
          walk_at "go"
          rename_i t H10 n10 f10 e10
          refine lcY_of (f10.at0 ha) (by walk_at "sz") fun H11 f11 e11 => ⟨?_, (f.then0 f10).own1 f11 nD⟩
          rw [psn_more, OutD.app]
          have im2 := im_psn (s.im e he) (M.known e) m
          have eb : (M.sent e).getD (M.known e + m) .none = dv := by rw [List.getD_eq_getElem?_getD, hdv]; rfl
          rw [eb]
          exact (DaL.frL f11 (DaL.frL f10 ra im2) im2).append (.one' (.tup (f11.tup _ _ e10) (Nat.le_of_ble_eq_true rfl) (.cons (by rw [show (M.known e : Int) + (m : Int) = ((M.known e + m : Nat) : Int) by omega]; exact .int _) (.one' (Da.frL f11 (Da.frL f10 ddv idv) idv)))))
        · have s9 := s8.fr0 f
          have hm : ((ss.length : Int) - (M.known e : Int)).toNat = (M.sent e).length - M.known e := by omega
          rw [hm] at ra
          have hal : acc.length ≤ 1000 := by rw [ra.len]; unfold OutD; rw [List.length_map, psn_len]; omega
          have hp9 := f.at0 (f8.at0 hp)
          have hl9 := f.at0 (f8.at0 hl')
          have hss9 := f.at0 (f8.at0 hss)
          walk_at "go"
          refine g_ixL (SqL.of s9.ws) (at_ad he) ?_
          walk_at "go"
          rename_i q1 H10 n10 f10 e10
          have s10 := s9.fr0 f10
          refine g_ixL (SqL.of s10.ws) (at_ad he) ?_
          have hp10 := f10.at0 hp9
          walk_at "go"
          rename_i q2 H11 n11 f11 e11
          have s11 := s10.fr0 f11
          refine g_ixL (SqL.of s11.ss) (at_ad he) ?_
          have hss11 := f11.at0 (f10.at0 hss9)
          walk_at "go"
          rename_i q3 H12 n12 f12 e12
          have F12 : Fr [] H7 H12 := ((((f8.then0 f).then0 f10).then0 f11).then0 f12)
          refine c_Lequal ⟨.list [.list (OutD (outs M e)), .int (M.sent e).length], .lst (f12.at0 e11) (Nat.le_of_ble_eq_true rfl) (.cons (.lst (f12.at0 (f11.at0 e10)) (by omega) (DaL.frL F12 r ir)) (.one' (.int _))),
            .lst e12 (Nat.le_of_ble_eq_true rfl) (.cons (.lst (f12.at0 (f11.at0 (f10.at0 ha))) (by omega) (DaL.frL f12 (DaL.frL f11 (DaL.frL f10 ra ir) ir) ir)) (.one' (by rw [hsl]; exact .int _))), ?_, ?_⟩
          · have : dpL (OutD (outs M e)) ≤ 4 := dp_psn (s.im e he) (M.known e) ((M.sent e).length - M.known e)
            simp only [dp, dpL]
            omega
          walk_at "go"
          exact ⟨_, _, rfl, (f7.then0 F12)⟩
      · rintro σ H7 ⟨v13, v14, rfl, f7⟩
        walk_at "go"
        exact ⟨ob, M, _, _, _, _, _, _, _, _, _, _, _, _, rfl, (s.fr0 f6).fr0 f7, bd⟩
  · rintro σ H2 ⟨ob, M0, v7, v8, v9, v10, v11, v12, v13, v14, v15, v16, v17, v18, rfl, s0, bd0⟩
    have hz : (z % 61).toNat ≤ 60 := by omega
    walk_at "go"
    refine f_range (lo := 0) (n := 3) (fun t σ H' => ∃ (ob : Nat → Addr) (v15 v16 v17 : Option V), σ = [some (.ref a), some (.ref (ad 0)), some (.ref (ad 2)), some (.ref (ad 3)), some (.ref (ad 4)), some (.ref (ad 5)), some (.ref (ad 6)), v7, v8, v9, v10, v11, v12, v13, v14, v15, v16, v17, v18] ∧ KW A H' ad ob (M0.rounds t) ∧ (M0.rounds t).sent = M0.sent ∧ (M0.rounds t).net.length ≤ 12000 + 200 * t)
      ⟨ob, _, _, _, rfl, s0, rfl, by have := bd0.n; show M0.net.length ≤ _; omega⟩ ?_ ?_
    · rintro t σ H3 ht ⟨ob, v15, v16, v17, rfl, s, hsent, hnl⟩
      have e3 : M0.rounds (t + 1) = (M0.rounds t).round := rfl
      rw [e3]
      generalize M0.rounds t = M at s hsent hnl ⊢
      have bs : ∀ e, e < 2 → (M.sent e).length ≤ 60 := fun e he => by rw [hsent]; exact Nat.le_trans (bd0.s e he) hz
      have b0 := bs 0 (by decide)
      have b1 := bs 1 (by decide)
      walk_at "go"
      refine c_Lticked ⟨ad, ob, M, 0, rfl, rfl, rfl, by decide, s, by omega, by omega, fun H4 f4 s4 => ?_⟩
      walk_at "go"
      have hn4 : (M.tick 0).net.length ≤ 13000 := by show (M.net ++ M.lets 0).length ≤ _; rw [List.length_append, lets_len]; omega
      refine c_Lticked ⟨ad, ob, M.tick 0, 1, rfl, rfl, rfl, by decide, s4, by omega, Nat.le_trans b1 (by decide), fun H5 f5 s5 => ?_⟩
      obtain ⟨zs, hn5, rn5⟩ := s5.ne
      have hall : ((M.tick 0).tick 1).net = M.all := rfl
      rw [hall] at rn5
      have hal : M.all.length ≤ M.net.length + 120 := by show (M.net ++ M.lets 0 ++ M.lets 1).length ≤ _; rw [List.length_append, List.length_append, lets_len, lets_len]; omega
      have hzl : zs.length = M.all.length := by rw [rn5.len, List.length_map]
      have iall : immL (M.all.map letD) = true := im_lets (M := { M with net := [] }) s.im (all_ok s.inv)
      walk_at "go"
      rename_i p H6 n6 f6 e6
      refine g_clear (f6.at0 hn5) fun H7 f7 e7 => ?_
      have npa := (s5.alE n6).1
      have np3 : p ≠ ad 3 := npa 3 (by decide)
      have s7 : KW A H7 ad ob { M with net := [] } := KW.net (M := (M.tick 0).tick 1) (Ls := []) s5 (f7.pre0' f6) e7 .nil fun _ h => nomatch h
      have e6' := f7.at e6 (nin1 np3 nin0)
      walk_at "go"
      have npA : ∀ i, i < 13 → p ≠ ad i := fun i hi z => by
        have al : ∃ o, H5 (ad i) = some o := s5.al i hi
        obtain ⟨o, ho⟩ := al
        rw [← z, n6] at ho; cases ho
      refine f_list (xs := zs) (fun j σ H' => ∃ (ob' : Nat → Addr) (v17 : Option V), σ = [some (.ref a), some (.ref (ad 0)), some (.ref (ad 2)), some (.ref (ad 3)), some (.ref (ad 4)), some (.ref (ad 5)), some (.ref (ad 6)), v7, v8, v9, v10, v11, v12, v13, v14, some (.int (0 + t)), some (.ref p), v17, v18] ∧ KW A H' ad ob' ((M.all.take j).foldl Mo.deliv { M with net := [] }) ∧ H' p = some (.lst zs) ∧ DaL H' zs (M.all.map letD) ∧ ∀ e, e < 2 → p ≠ ob' e)
        ⟨ob, _, rfl, s7, e6', DaL.frL f7 (DaL.frL f6 rn5 iall) iall, fun e he => ((s5.alE n6).2 e he).2.2.1⟩ (fun j σ H' _ ⟨_, _, _, _, h, _⟩ => SqL.of h) ?_ ?_
      · rintro j x σ H8 hx ⟨ob', v17, rfl, s8, e8, r8, np8⟩
        obtain ⟨dv, hdv, ddv⟩ := r8.get hx
        rw [List.getElem?_map] at hdv
        obtain ⟨L, hL, rfl⟩ : ∃ L, M.all[j]? = some L ∧ letD L = dv := by
          cases q : M.all[j]? with
          | none => rw [q] at hdv; cases hdv
          | some L => rw [q] at hdv; exact ⟨L, rfl, Option.some.inj hdv⟩
        have rt := run_to (M.all.take j) { M with net := [] } s.inv.clear fun x hx => all_ok s.inv x (List.mem_of_mem_take hx)
        have okL := (all_ok s.inv L (List.mem_of_getElem? hL)).mono rt.s rt.e
        have nl := run_net (M.all.take j) { M with net := [] }
        rw [List.length_take] at nl
        have nl2 : ((M.all.take j).foldl Mo.deliv { M with net := [] }).net.length ≤ 100000 := Nat.le_trans nl (by show 0 + _ ≤ _; omega)
        walk_at "go"
        refine c_Ldelivered ⟨ad, ob', _, L, rfl, rfl, rfl, rfl, ddv, okL, s8, nl2, fun e he => by rw [rt.s]; exact Nat.le_trans (bs e he) (by decide), fun H9 ob9 f9 o9 s9 => ?_⟩
        walk_at "go"
        have npl : p ∉ allA ad ob' := fun q => by
          rcases List.mem_append.mp q with q | q
          · obtain ⟨i, hi, z⟩ := List.mem_map.mp q; exact npA i (List.mem_range.mp hi) z.symm
          · rcases List.mem_cons.mp q with q | q
            · exact np8 0 (by decide) q
            · exact np8 1 (by decide) (List.mem_singleton.mp q)
        refine ⟨ob9, _, rfl, ?_, f9.at e8 npl, DaL.frL f9 r8 iall, fun e he => ?_⟩
        · rw [take_more hL, List.foldl_append]; exact s9
        · rcases o9 e he with q | q
          · rw [q]; exact np8 e he
          · exact ne_of_none e8 q
      · rintro σ H8 ⟨ob', v17, rfl, s8, e8, r8, np8⟩
        walk_at "go"
        rw [hzl, List.take_length] at s8
        have nl := run_net M.all { M with net := [] }
        refine ⟨ob', _, _, _, rfl, s8, (round_to s.inv).s.trans hsent, Nat.le_trans nl ?_⟩
        show 0 + _ ≤ _
        omega
    · rintro σ H3 ⟨ob, v15, v16, v17, rfl, s, hsent, hnl⟩
      have fin := rounds3 s0.inv
      have e3 : M0.rounds 3 = M0.round.round.round := rfl
      rw [e3] at s hsent hnl
      generalize M0.round.round.round = M at s hsent hnl fin
      have b0 : (M.sent 0).length ≤ 60 := by rw [hsent]; exact Nat.le_trans (bd0.s 0 (by decide)) hz
      have b1 : (M.sent 1).length ≤ 60 := by rw [hsent]; exact Nat.le_trans (bd0.s 1 (by decide)) hz
      obtain ⟨fs0, fx1, fk0⟩ := fin 0 (by decide)
      obtain ⟨fs1, fx0, fk1⟩ := fin 1 (by decide)
      rw [← fs0] at fx1 fk0
      rw [← fs1] at fx0 fk1
      obtain ⟨xs0, W0, r0⟩ := s.wi 0 (by decide)
      obtain ⟨xs1, W1, r1⟩ := s.wi 1 (by decide)
      obtain ⟨⟨dx0, hp0⟩, hl0⟩ := id W0
      obtain ⟨⟨dx1, hp1⟩, hl1⟩ := id W1
      obtain ⟨hs0, hhs0, rh0⟩ := s.hl 0 (by decide)
      obtain ⟨hs1, hhs1, rh1⟩ := s.hl 1 (by decide)
      obtain ⟨ss0, hss0, rs0⟩ := s.sl 0 (by decide)
      obtain ⟨ss1, hss1, rs1⟩ := s.sl 1 (by decide)
      have ws := s.ws
      have hss := s.ss
      have hhs := s.hs
      have rh0' : DaL H3 hs0 (M.sent 1) := by have : (M.sent 1).take (M.exp 0) = M.sent 1 := by rw [show M.exp 0 = (M.sent 1).length from fx0, List.take_length]
                                              rw [← this]; exact rh0
      have rh1' : DaL H3 hs1 (M.sent 0) := by have : (M.sent 0).take (M.exp 1) = M.sent 0 := by rw [show M.exp 1 = (M.sent 0).length from fx1, List.take_length]
                                              rw [← this]; exact rh1
      unfold outs at r0 r1
      rw [fk0, Nat.sub_self] at r0
      rw [fk1, Nat.sub_self] at r1
      have x0 : xs0 = [] := by have := r0.len; exact List.eq_nil_of_length_eq_zero this
      have x1 : xs1 = [] := by have := r1.len; exact List.eq_nil_of_length_eq_zero this
      subst x0 x1
      have i0 := im_sent (s.im 0 (by decide))
      have i1 := im_sent (s.im 1 (by decide))
      have d0 : dpL (M.sent 0) ≤ 5 := dpL_le fun d hd => by obtain ⟨i, j, rfl⟩ := s.im 0 (by decide) d hd; simp [bodyD, dp, dpL]
      have d1 : dpL (M.sent 1) ≤ 5 := dpL_le fun d hd => by obtain ⟨i, j, rfl⟩ := s.im 1 (by decide) d hd; simp [bodyD, dp, dpL]
      walk_at "go"
      rename_i q1 H4 n4 f4 e4 q2 H5 n5 f5 e5 q3 H6 n6 f6 e6 q4 H7 n7 f7 e7 q5 H8 n8 f8 e8 q6 H9 n9 f9 e9
      have F9 : Fr [] H3 H9 := (((((f4.then0 f5).then0 f6).then0 f7).then0 f8).then0 f9)
      have F69 : Fr [] H6 H9 := (f7.then0 f8).then0 f9
      refine c_Lequal ⟨.list [.list (M.sent 1), .list (M.sent 0), .list [], .list []],
        .lst (F69.at0 e6) (Nat.le_of_ble_eq_true rfl) (.cons (.lst (F9.at0 hhs0) (by rw [rh0'.len]; omega) (DaL.frL F9 rh0' i1)) (.cons (.lst (F9.at0 hhs1) (by rw [rh1'.len]; omega) (DaL.frL F9 rh1' i0)) (.cons (.lst (F69.at0 (f6.at0 (f5.at0 e4))) (Nat.zero_le _) .nil) (.one' (.lst (F69.at0 (f6.at0 e5)) (Nat.zero_le _) .nil))))),
        .lst e9 (Nat.le_of_ble_eq_true rfl) (.cons (.lst (F9.at0 hss1) (by rw [rs1.len]; omega) (DaL.frL F9 rs1 i1)) (.cons (.lst (F9.at0 hss0) (by rw [rs0.len]; omega) (DaL.frL F9 rs0 i0)) (.cons (.lst (f9.at0 (f8.at0 e7)) (Nat.zero_le _) .nil) (.one' (.lst (f9.at0 e8) (Nat.zero_le _) .nil))))), ?_, ?_⟩
      · simp only [dp, dpL]; omega
      walk_at "go"
      exact k _
theorem ok_law {f : Addr} {fd : FuncData} (F : Fun K "law" "law" s_law f fd) (T : Txt K mg A) (c_Lequal : Cal P w K mg base "_law_equal" 25 ["_law_actual", "_law_due"] (sp_Lequal K A 12)) (c_Lnumbers : Cal P w K mg base "_law_numbers" 2 ["_law_script"] (sp_Lnumbers K A)) (c_Wire_init : CalC P w K mg base "Wire" A.Wire 1 ["self"] (sp_Wire_init K A)) (c_Lticked : Cal P w K mg base "_law_ticked" 1 ["_law_net", "_law_wires", "_law_end"] (sp_Lticked K A)) (c_Ldraw : Cal P w K mg base "_law_draw" 2 ["_law_draws"] (sp_Ldraw K A)) (c_Wire_send : CalM P w K mg base A.Wire "send" 1 ["self", "body"] (sp_Wire_send K A)) (c_Ldelivered : Cal P w K mg base "_law_delivered" 2 ["_law_net", "_law_wires", "_law_handled", "_law_letter", "_law_known"] (sp_Ldelivered K A)) : FnOk P w K mg base CX0 (26) f fd ["_law_script"] (sp_law K A) := by
  refine F.ok sc_law (fun vs H Q E h => ?_) (fun cdv Ar outer s H vs Q E hr h => ⟨t_law K A, ?_, ?_⟩)
  · obtain ⟨x0, rfl, _⟩ := h
    rfl
  · have hu := hu_of hr
    exact (pss_cons (ps_set (i := 1) sc_law.nd rfl (Or.inl rfl) (pe_lst (pa_cons (pe_cl c_Lnumbers (hr.mono (by first | decide | omega)) (by rfl) (pa_cons (pv 0) pa_nil)) (pa_cons pe_int pa_nil))))
    (pss_cons (ps_set (i := 2) sc_law.nd rfl (Or.inl rfl) (pe_lst (pa_cons (pe_mk0 c_Wire_init (hr.mono (by first | decide | omega)) (by rfl)) (pa_cons (pe_mk0 c_Wire_init (hr.mono (by first | decide | omega)) (by rfl)) pa_nil))))
    (pss_cons (ps_set (i := 3) sc_law.nd rfl (Or.inl rfl) (pe_lst pa_nil))
    (pss_cons (ps_set (i := 4) sc_law.nd rfl (Or.inr rfl) (pe_lst (pa_cons (pe_lst pa_nil) (pa_cons (pe_lst pa_nil) pa_nil))))
    (pss_cons (ps_set (i := 5) sc_law.nd rfl (Or.inl rfl) (pe_lst (pa_cons (pe_lst pa_nil) (pa_cons (pe_lst pa_nil) pa_nil))))
    (pss_cons (ps_set (i := 6) sc_law.nd rfl (Or.inl rfl) (pe_lst (pa_cons pe_int (pa_cons pe_int pa_nil))))
    (pss_cons (ps_for PassesOwn.never rfl (pi_range1 rfl T.b_range (pa_cons (pe_op o_mod (pe_cl c_Ldraw (hr.mono (by first | decide | omega)) (by rfl) (pa_cons (pv 1) pa_nil)) pe_int) pa_nil)) (pg_name (i := 7) sc_law.nd rfl (Or.inl rfl)) (pss_cons (ps_set (i := 8) sc_law.nd rfl (Or.inl rfl) (pe_op o_mod (pe_cl c_Ldraw (hr.mono (by first | decide | omega)) (by rfl) (pa_cons (pv 1) pa_nil)) pe_int))
    (pss_cons (ps_set (i := 9) sc_law.nd rfl (Or.inl rfl) (pe_op o_mod (pe_cl c_Ldraw (hr.mono (by first | decide | omega)) (by rfl) (pa_cons (pv 1) pa_nil)) pe_int))
    (Evl.pss_cut (ps_if (pt_cmpR c_lt (pv 9) pe_int (nomark _)) (pss_cons (ps_set (i := 10) sc_law.nd rfl (Or.inl rfl) (pe_tup (pa_cons pe_str (pa_cons (pv 8) (pa_cons (pv 7) pa_nil)))))
    (pss_cons (ps_set (i := 11) sc_law.nd rfl (Or.inl rfl) (pe_mt (pe_ix ix_list (pv 2) (pv 8) (fun _ _ => rfl)) T.cl_Wire c_Wire_send (hr.mono (by first | decide | omega)) (pa_cons (pv 10) pa_nil)))
    (pss_cons (ps_if (pt_not (pt_val (pe_cl c_Lequal (hr.mono (by first | decide | omega)) (by rfl) (pa_cons (pv 11) (pa_cons (pe_callB b_len (by rfl) T.b_len (by decide +kernel) (pa_cons (pe_ix ix_list (pv 4) (pv 8) (fun _ _ => rfl)) pa_nil)) pa_nil))))) (pss_one (ps_ret pe_bl)) pss_nil)
    (pss_cons (ps_expr (pe_bm PySem.F.plainAttrs_list PySem.F.slot_list_append PySem.F.type_list_append mt_append (pe_ix ix_list (pv 4) (pv 8) (fun _ _ => rfl)) (pa_cons (pv 10) pa_nil)))
    (pss_one (ps_expr (pe_bm PySem.F.plainAttrs_list PySem.F.slot_list_append PySem.F.type_list_append mt_append (pv 3) (pa_cons (pe_tup (pa_cons (pe_op o_sub pe_int (pv 8)) (pa_cons pe_str (pa_cons (pv 11) (pa_cons (pv 10) pa_nil))))) pa_nil)))))))) (pss_one (ps_if (pt_cmpR op_eq (pv 9) pe_int (nomark _)) (pss_one (ps_expr (pe_cl c_Lticked (hr.mono (by first | decide | omega)) (by rfl) (pa_cons (pv 3) (pa_cons (pv 2) (pa_cons (pv 8) pa_nil)))))) (pss_one (ps_if (pt_cmpR c_gt (pe_callB b_len (by rfl) T.b_len (by decide +kernel) (pa_cons (pv 3) pa_nil)) pe_int (nomark _)) (pss_cons (ps_set (i := 12) sc_law.nd rfl (Or.inl rfl) (pe_op o_mod (pe_cl c_Ldraw (hr.mono (by first | decide | omega)) (by rfl) (pa_cons (pv 1) pa_nil)) (pe_callB b_len (by rfl) T.b_len (by decide +kernel) (pa_cons (pv 3) pa_nil))))
    (pss_one (ps_if (pt_cmpR op_eq (pv 9) pe_int (nomark _)) (pss_one (ps_expr (pe_bm PySem.F.plainAttrs_list PySem.F.slot_list_pop PySem.F.type_list_pop mt_popAt (pv 3) (pa_cons (pv 12) pa_nil)))) (pss_one (ps_if (pt_cmpR op_eq (pv 9) pe_int (nomark _)) (pss_one (ps_expr (pe_bm PySem.F.plainAttrs_list PySem.F.slot_list_append PySem.F.type_list_append mt_append (pv 3) (pa_cons (pe_ix ix_list (pv 3) (pv 12) (fun _ _ => rfl)) pa_nil)))) (pss_one (ps_expr (pe_cl c_Ldelivered (hr.mono (by first | decide | omega)) (by rfl) (pa_cons (pv 3) (pa_cons (pv 2) (pa_cons (pv 5) (pa_cons (pe_bm PySem.F.plainAttrs_list PySem.F.slot_list_pop PySem.F.type_list_pop mt_popAt (pv 3) (pa_cons (pv 12) pa_nil)) (pa_cons (pv 6) pa_nil))))))))))))) pss_nil)))))
    (pss_one (ps_for PassesOwn.never rfl (pi_list (pe_lst (pa_cons pe_int (pa_cons pe_int pa_nil)))) (pg_name (i := 13) sc_law.nd rfl (Or.inr rfl)) (pss_cons (ps_if (PW.pt (pw_or (pt_not (pt_val (pe_cl c_Lequal (hr.mono (by first | decide | omega)) (by rfl) (pa_cons (pe_ix ix_list (pv 5) (pv 13) (fun _ _ => rfl)) (pa_cons (pe_slice sl_list (pe_ix ix_list (pv 4) (pe_op o_sub pe_int (pv 13)) (fun _ _ => rfl)) po_none (po_some (pe_callB b_len (by rfl) T.b_len (by decide +kernel) (pa_cons (pe_ix ix_list (pv 5) (pv 13) (fun _ _ => rfl)) pa_nil)))) pa_nil))))) (pw_or1 (pt_cmpR op_ne (pe_fld (pe_ix ix_list (pv 2) (pv 13) (fun _ _ => rfl)) rfl) (pe_callB b_len (by rfl) T.b_len (by decide +kernel) (pa_cons (pe_ix ix_list (pv 5) (pv 13) (fun _ _ => rfl)) pa_nil)) (nomark _))))) (pss_one (ps_ret pe_bl)) pss_nil)
    (pss_cons (ps_setLc (i := 14) (own := [("_law_n", 18)]) (g := (gName 18)) (tt := tYes) rfl sc_law.nd rfl rfl (sw_true rfl rfl rfl (by decide +kernel)) (pi_range2 rfl T.b_range (pa_cons (pe_ix ix_list (pv 6) (pv 13) (fun _ _ => rfl)) (pa_cons (pe_callB b_len (by rfl) T.b_len (by decide +kernel) (pa_cons (pe_ix ix_list (pv 4) (pv 13) (fun _ _ => rfl)) pa_nil)) pa_nil))) (blkOk_by (N := ["_law_script", "_law_draws", "_law_wires", "_law_net", "_law_sent", "_law_handled", "_law_known", "_law_k", "_law_end", "_law_pick", "_law_body", "_law_number", "_law_at", "_law_side", "_law_left", "_law_turn", "_law_letters", "_law_letter", "_law_n"]) (sc := defScope s_law) (own := [("_law_n", 18)]) (by decide +kernel)) (fun _ _ _ _ _ => (pg_name (i := 18) sc_law.nd rfl (Or.inl rfl))) (fun _ _ _ _ _ => pts_nil) (fun _ _ _ _ _ => (pe_tup (pa_cons (pv 18) (pa_cons (pe_ix ix_list (pe_ix ix_list (pv 4) (pv 13) (fun _ _ => rfl)) (pv 18) (fun _ _ => rfl)) pa_nil)))))
    (pss_one (ps_if (pt_not (pt_val (pe_cl c_Lequal (hr.mono (by first | decide | omega)) (by rfl) (pa_cons (pe_lst (pa_cons (pe_callTy b_list (by rfl) T.b_list (by decide +kernel) (pa_cons (pe_fld (pe_ix ix_list (pv 2) (pv 13) (fun _ _ => rfl)) rfl) pa_nil)) (pa_cons (pe_fld (pe_ix ix_list (pv 2) (pv 13) (fun _ _ => rfl)) rfl) pa_nil))) (pa_cons (pe_lst (pa_cons (pv 14) (pa_cons (pe_callB b_len (by rfl) T.b_len (by decide +kernel) (pa_cons (pe_ix ix_list (pv 4) (pv 13) (fun _ _ => rfl)) pa_nil)) pa_nil))) pa_nil))))) (pss_one (ps_ret pe_bl)) pss_nil))))))))))
    (pss_cons (ps_for PassesOwn.never rfl (pi_range1 rfl T.b_range (pa_cons pe_int pa_nil)) (pg_name (i := 15) sc_law.nd rfl (Or.inl rfl)) (pss_cons (ps_expr (pe_cl c_Lticked (hr.mono (by first | decide | omega)) (by rfl) (pa_cons (pv 3) (pa_cons (pv 2) (pa_cons pe_int pa_nil)))))
    (pss_cons (ps_expr (pe_cl c_Lticked (hr.mono (by first | decide | omega)) (by rfl) (pa_cons (pv 3) (pa_cons (pv 2) (pa_cons pe_int pa_nil)))))
    (pss_cons (ps_set (i := 16) sc_law.nd rfl (Or.inl rfl) (pe_callTy b_list (by rfl) T.b_list (by decide +kernel) (pa_cons (pv 3) pa_nil)))
    (pss_cons (ps_expr (pe_bm0 PySem.F.plainAttrs_list PySem.F.slot_list_clear PySem.F.type_list_clear mt_clear (pv 3)))
    (pss_one (ps_for PassesOwn.never rfl (pi_list (pv 16)) (pg_name (i := 17) sc_law.nd rfl (Or.inl rfl)) (pss_one (ps_expr (pe_cl c_Ldelivered (hr.mono (by first | decide | omega)) (by rfl) (pa_cons (pv 3) (pa_cons (pv 2) (pa_cons (pv 5) (pa_cons (pv 17) (pa_cons (pv 6) pa_nil)))))))))))))))
    (pss_one (ps_ret (pe_cl c_Lequal (hr.mono (by first | decide | omega)) (by rfl) (pa_cons (pe_lst (pa_cons (pe_ix ix_list (pv 5) pe_int (fun _ _ => rfl)) (pa_cons (pe_ix ix_list (pv 5) pe_int (fun _ _ => rfl)) (pa_cons (pe_callTy b_list (by rfl) T.b_list (by decide +kernel) (pa_cons (pe_fld (pe_ix ix_list (pv 2) pe_int (fun _ _ => rfl)) rfl) pa_nil)) (pa_cons (pe_callTy b_list (by rfl) T.b_list (by decide +kernel) (pa_cons (pe_fld (pe_ix ix_list (pv 2) pe_int (fun _ _ => rfl)) rfl) pa_nil)) pa_nil))))) (pa_cons (pe_lst (pa_cons (pe_ix ix_list (pv 4) pe_int (fun _ _ => rfl)) (pa_cons (pe_ix ix_list (pv 4) pe_int (fun _ _ => rfl)) (pa_cons (pe_lst pa_nil) (pa_cons (pe_lst pa_nil) pa_nil))))) pa_nil)))))))))))))
  · obtain ⟨x0, rfl, h⟩ := h
    exact pu_law T h
end
/-! ### what the top has written -/
theorem all_mk {l : PySem.W.OpenLaw} {w : World} {K : PySem.W.Frag} {h : Heap} {mg : Str → Option Value} {fa : Addr} (X : K.In h) (G : h.Ns mainGlobals mg) (hfa : mg "law" = some (.ref fa))
    {f1 : Addr} {od1 an1 : Option Addr} {sl1 : Array (Option Value)} {oc1 kV1 dc1 pm1 cd1 ct1 : Value}
    {f2 : Addr} {od2 an2 : Option Addr} {sl2 : Array (Option Value)} {oc2 kV2 dc2 pm2 cd2 ct2 : Value}
    {f3 : Addr} {od3 an3 : Option Addr} {sl3 : Array (Option Value)} {oc3 kV3 dc3 pm3 cd3 ct3 : Value}
    {f4 : Addr} {od4 an4 : Option Addr} {sl4 : Array (Option Value)} {oc4 kV4 dc4 pm4 cd4 ct4 : Value}
    {f5 : Addr} {od5 an5 : Option Addr} {sl5 : Array (Option Value)} {oc5 kV5 dc5 pm5 cd5 ct5 : Value}
    {f6 : Addr} {od6 an6 : Option Addr} {sl6 : Array (Option Value)} {oc6 kV6 dc6 pm6 cd6 ct6 : Value}
    {f7 : Addr} {od7 an7 : Option Addr} {sl7 : Array (Option Value)} {oc7 kV7 dc7 pm7 cd7 ct7 : Value}
    {f8 : Addr} {od8 an8 : Option Addr} {sl8 : Array (Option Value)} {oc8 kV8 dc8 pm8 cd8 ct8 : Value}
    {f9 : Addr} {od9 an9 : Option Addr} {sl9 : Array (Option Value)} {oc9 kV9 dc9 pm9 cd9 ct9 : Value}
    {f10 : Addr} {od10 an10 : Option Addr} {sl10 : Array (Option Value)} {oc10 kV10 dc10 pm10 cd10 ct10 : Value}
    {f11 : Addr} {od11 an11 : Option Addr} {sl11 : Array (Option Value)} {oc11 kV11 dc11 pm11 cd11 ct11 : Value}
    {f12 : Addr} {od12 an12 : Option Addr} {sl12 : Array (Option Value)} {oc12 kV12 dc12 pm12 cd12 ct12 : Value}
    {C_Wire : Addr}
    (aC_Wire : PySem.W.nsIn K mainGlobals "Wire" = some (some (.ref C_Wire)))
    (a1 : PySem.W.findIn K (.ref C_Wire) "__init__" = some (some (.ref f1)))
    (i1 : PySem.W.isFn K (.ref f1) = true)
    (l1 : K.lookup f1 = some ⟨oc1, od1, .func (PySem.W.fnOf "__init__" "Wire.__init__" (defArgs s_Wire_init) (defBody s_Wire_init) (defScope s_Wire_init) .none kV1 dc1 pm1 an1 cd1 ct1), sl1⟩)
    (c1 : PySem.W.codeIn K cd1 "Wire.__init__" = true)
    (k1 : PySem.W.keepIn K (.ref f1) = true)
    (a2 : PySem.W.findIn K (.ref C_Wire) "send" = some (some (.ref f2)))
    (i2 : PySem.W.isFn K (.ref f2) = true)
    (l2 : K.lookup f2 = some ⟨oc2, od2, .func (PySem.W.fnOf "send" "Wire.send" (defArgs s_Wire_send) (defBody s_Wire_send) (defScope s_Wire_send) .none kV2 dc2 pm2 an2 cd2 ct2), sl2⟩)
    (c2 : PySem.W.codeIn K cd2 "Wire.send" = true)
    (k2 : PySem.W.keepIn K (.ref f2) = true)
    (a3 : PySem.W.findIn K (.ref C_Wire) "take" = some (some (.ref f3)))
    (i3 : PySem.W.isFn K (.ref f3) = true)
    (l3 : K.lookup f3 = some ⟨oc3, od3, .func (PySem.W.fnOf "take" "Wire.take" (defArgs s_Wire_take) (defBody s_Wire_take) (defScope s_Wire_take) .none kV3 dc3 pm3 an3 cd3 ct3), sl3⟩)
    (c3 : PySem.W.codeIn K cd3 "Wire.take" = true)
    (k3 : PySem.W.keepIn K (.ref f3) = true)
    (a4 : PySem.W.findIn K (.ref C_Wire) "acknowledged" = some (some (.ref f4)))
    (i4 : PySem.W.isFn K (.ref f4) = true)
    (l4 : K.lookup f4 = some ⟨oc4, od4, .func (PySem.W.fnOf "acknowledged" "Wire.acknowledged" (defArgs s_Wire_acknowledged) (defBody s_Wire_acknowledged) (defScope s_Wire_acknowledged) .none kV4 dc4 pm4 an4 cd4 ct4), sl4⟩)
    (c4 : PySem.W.codeIn K cd4 "Wire.acknowledged" = true)
    (k4 : PySem.W.keepIn K (.ref f4) = true)
    (a5 : PySem.W.nsIn K mainGlobals "_law_mixed" = some (some (.ref f5)))
    (l5 : K.lookup f5 = some ⟨oc5, od5, .func (PySem.W.fnOf "_law_mixed" "_law_mixed" (defArgs s_Lmixed) (defBody s_Lmixed) (defScope s_Lmixed) .none kV5 dc5 pm5 an5 cd5 ct5), sl5⟩)
    (c5 : PySem.W.codeIn K cd5 "_law_mixed" = true)
    (k5 : PySem.W.keepIn K (.ref f5) = true)
    (a6 : PySem.W.nsIn K mainGlobals "_law_numbers" = some (some (.ref f6)))
    (l6 : K.lookup f6 = some ⟨oc6, od6, .func (PySem.W.fnOf "_law_numbers" "_law_numbers" (defArgs s_Lnumbers) (defBody s_Lnumbers) (defScope s_Lnumbers) .none kV6 dc6 pm6 an6 cd6 ct6), sl6⟩)
    (c6 : PySem.W.codeIn K cd6 "_law_numbers" = true)
    (k6 : PySem.W.keepIn K (.ref f6) = true)
    (a7 : PySem.W.nsIn K mainGlobals "_law_draw" = some (some (.ref f7)))
    (l7 : K.lookup f7 = some ⟨oc7, od7, .func (PySem.W.fnOf "_law_draw" "_law_draw" (defArgs s_Ldraw) (defBody s_Ldraw) (defScope s_Ldraw) .none kV7 dc7 pm7 an7 cd7 ct7), sl7⟩)
    (c7 : PySem.W.codeIn K cd7 "_law_draw" = true)
    (k7 : PySem.W.keepIn K (.ref f7) = true)
    (a8 : PySem.W.nsIn K mainGlobals "_law_equal" = some (some (.ref f8)))
    (l8 : K.lookup f8 = some ⟨oc8, od8, .func (PySem.W.fnOf "_law_equal" "_law_equal" (defArgs s_Lequal) (defBody s_Lequal) (defScope s_Lequal) .none kV8 dc8 pm8 an8 cd8 ct8), sl8⟩)
    (c8 : PySem.W.codeIn K cd8 "_law_equal" = true)
    (k8 : PySem.W.keepIn K (.ref f8) = true)
    (a9 : PySem.W.nsIn K mainGlobals "_law_all_equal" = some (some (.ref f9)))
    (l9 : K.lookup f9 = some ⟨oc9, od9, .func (PySem.W.fnOf "_law_all_equal" "_law_all_equal" (defArgs s_Lall_equal) (defBody s_Lall_equal) (defScope s_Lall_equal) .none kV9 dc9 pm9 an9 cd9 ct9), sl9⟩)
    (c9 : PySem.W.codeIn K cd9 "_law_all_equal" = true)
    (k9 : PySem.W.keepIn K (.ref f9) = true)
    (a10 : PySem.W.nsIn K mainGlobals "_law_ticked" = some (some (.ref f10)))
    (l10 : K.lookup f10 = some ⟨oc10, od10, .func (PySem.W.fnOf "_law_ticked" "_law_ticked" (defArgs s_Lticked) (defBody s_Lticked) (defScope s_Lticked) .none kV10 dc10 pm10 an10 cd10 ct10), sl10⟩)
    (c10 : PySem.W.codeIn K cd10 "_law_ticked" = true)
    (k10 : PySem.W.keepIn K (.ref f10) = true)
    (a11 : PySem.W.nsIn K mainGlobals "_law_delivered" = some (some (.ref f11)))
    (l11 : K.lookup f11 = some ⟨oc11, od11, .func (PySem.W.fnOf "_law_delivered" "_law_delivered" (defArgs s_Ldelivered) (defBody s_Ldelivered) (defScope s_Ldelivered) .none kV11 dc11 pm11 an11 cd11 ct11), sl11⟩)
    (c11 : PySem.W.codeIn K cd11 "_law_delivered" = true)
    (k11 : PySem.W.keepIn K (.ref f11) = true)
    (a12 : PySem.W.nsIn K mainGlobals "law" = some (some (.ref f12)))
    (l12 : K.lookup f12 = some ⟨oc12, od12, .func (PySem.W.fnOf "law" "law" (defArgs s_law) (defBody s_law) (defScope s_law) .none kV12 dc12 pm12 an12 cd12 ct12), sl12⟩)
    (c12 : PySem.W.codeIn K cd12 "law" = true)
    (k12 : PySem.W.keepIn K (.ref f12) = true)
    (pg_Wire : PySem.W.plainGet K C_Wire Str.empty = true)
    (hd_Wire : PySem.W.hasDictIn K C_Wire = true)
    (po_Wire : PySem.W.plainOver K C_Wire = true)
    (sa_Wire : PySem.W.findIn K (.ref C_Wire) "__setattr__" = some (some (.builtin "object.__setattr__")))
    (mk_Wire : PySem.W.makesIn K C_Wire = true)
    (kc_Wire : PySem.W.keepIn K (.ref C_Wire) = true)
    (no_Wire_sent : PySem.W.findIn K (.ref C_Wire) "sent" = some none)
    (no_Wire_outbox : PySem.W.findIn K (.ref C_Wire) "outbox" = some none)
    (no_Wire_expected : PySem.W.findIn K (.ref C_Wire) "expected" = some none)
    (z_range : PySem.W.nsIn K mainGlobals "range" = some none)
    (z_len : PySem.W.nsIn K mainGlobals "len" = some none)
    (z_isinstance : PySem.W.nsIn K mainGlobals "isinstance" = some none)
    (z_list : PySem.W.nsIn K mainGlobals "list" = some none)
    (z_tuple : PySem.W.nsIn K mainGlobals "tuple" = some none)
    (z_bool : PySem.W.nsIn K mainGlobals "bool" = some none)
    (z_int : PySem.W.nsIn K mainGlobals "int" = some none)
    (z_str : PySem.W.nsIn K mainGlobals "str" = some none)
    (z_max : PySem.W.nsIn K mainGlobals "max" = some none)
    : ∃ fd : FuncData, (∀ (s : Shared) (v : Value), BindsTo s fd ⟨[v], []⟩ [("_law_script", v)]) ∧ ∀ base : Heap, K.In base → base.Ns mainGlobals mg → FnOk l.prog w K mg base CX0 26 fa fd ["_law_script"] (spLaw K) := by
  have e := hfa.symm.trans (PySem.W.mg_of X G a12)
  cases e
  let A : Ad := ⟨C_Wire⟩
  have T : Txt K mg A := { b_range := PySem.W.mg_none_of X G z_range, b_len := PySem.W.mg_none_of X G z_len, b_isinstance := PySem.W.mg_none_of X G z_isinstance, b_list := PySem.W.mg_none_of X G z_list, b_tuple := PySem.W.mg_none_of X G z_tuple, b_bool := PySem.W.mg_none_of X G z_bool, b_int := PySem.W.mg_none_of X G z_int, b_str := PySem.W.mg_none_of X G z_str, b_max := PySem.W.mg_none_of X G z_max, cl_Wire := ⟨pg_Wire, hd_Wire, po_Wire, sa_Wire⟩, no_Wire_sent := no_Wire_sent, no_Wire_outbox := no_Wire_outbox, no_Wire_expected := no_Wire_expected }
  have F1 := fun_mk (st := s_Wire_init) l1 c1 k1
  have b1 := F1.binds (ps := ["self"]) fun _ _ _ _ _ _ us hl => match us, hl with | [_], _ => rfl
  have F2 := fun_mk (st := s_Wire_send) l2 c2 k2
  have b2 := F2.binds (ps := ["self", "body"]) fun _ _ _ _ _ _ us hl => match us, hl with | [_, _], _ => rfl
  have F3 := fun_mk (st := s_Wire_take) l3 c3 k3
  have b3 := F3.binds (ps := ["self", "number"]) fun _ _ _ _ _ _ us hl => match us, hl with | [_, _], _ => rfl
  have F4 := fun_mk (st := s_Wire_acknowledged) l4 c4 k4
  have b4 := F4.binds (ps := ["self", "number"]) fun _ _ _ _ _ _ us hl => match us, hl with | [_, _], _ => rfl
  have F5 := fun_mk (st := s_Lmixed) l5 c5 k5
  have b5 := F5.binds (ps := ["_law_number", "_law_k"]) fun _ _ _ _ _ _ us hl => match us, hl with | [_, _], _ => rfl
  have F6 := fun_mk (st := s_Lnumbers) l6 c6 k6
  have b6 := F6.binds (ps := ["_law_script"]) fun _ _ _ _ _ _ us hl => match us, hl with | [_], _ => rfl
  have F7 := fun_mk (st := s_Ldraw) l7 c7 k7
  have b7 := F7.binds (ps := ["_law_draws"]) fun _ _ _ _ _ _ us hl => match us, hl with | [_], _ => rfl
  have F8 := fun_mk (st := s_Lequal) l8 c8 k8
  have b8 := F8.binds (ps := ["_law_actual", "_law_due"]) fun _ _ _ _ _ _ us hl => match us, hl with | [_, _], _ => rfl
  have F9 := fun_mk (st := s_Lall_equal) l9 c9 k9
  have b9 := F9.binds (ps := ["_law_actual", "_law_due"]) fun _ _ _ _ _ _ us hl => match us, hl with | [_, _], _ => rfl
  have F10 := fun_mk (st := s_Lticked) l10 c10 k10
  have b10 := F10.binds (ps := ["_law_net", "_law_wires", "_law_end"]) fun _ _ _ _ _ _ us hl => match us, hl with | [_, _, _], _ => rfl
  have F11 := fun_mk (st := s_Ldelivered) l11 c11 k11
  have b11 := F11.binds (ps := ["_law_net", "_law_wires", "_law_handled", "_law_letter", "_law_known"]) fun _ _ _ _ _ _ us hl => match us, hl with | [_, _, _, _, _], _ => rfl
  have F12 := fun_mk (st := s_law) l12 c12 k12
  have b12 := F12.binds (ps := ["_law_script"]) fun _ _ _ _ _ _ us hl => match us, hl with | [_], _ => rfl
  refine ⟨PySem.W.fnOf "law" "law" (defArgs s_law) (defBody s_law) (defScope s_law) .none kV12 dc12 pm12 an12 cd12 ct12, fun s v => .of_eq rfl, fun base _ _ => ?_⟩
  have o_Wire_init := ok_Wire_init (P := l.prog) (w := w) (base := base) F1 T 
  have e_Wire_init : CalC l.prog w K mg base "Wire" A.Wire 1 ["self"] (sp_Wire_init K A) := ⟨⟨_, _, o_Wire_init, ⟨mk_Wire, a1, i1, kc_Wire⟩, PySem.W.mg_of X G aC_Wire, b1⟩⟩
  have o_Wire_send := ok_Wire_send (P := l.prog) (w := w) (base := base) F2 T 
  have e_Wire_send : CalM l.prog w K mg base A.Wire "send" 1 ["self", "body"] (sp_Wire_send K A) := ⟨⟨_, _, o_Wire_send, ⟨a2, i2, k2⟩, b2⟩⟩
  have o_Wire_take := ok_Wire_take (P := l.prog) (w := w) (base := base) F3 T 
  have e_Wire_take : CalM l.prog w K mg base A.Wire "take" 1 ["self", "number"] (sp_Wire_take K A) := ⟨⟨_, _, o_Wire_take, ⟨a3, i3, k3⟩, b3⟩⟩
  have o_Wire_acknowledged := ok_Wire_acknowledged (P := l.prog) (w := w) (base := base) F4 T 
  have e_Wire_acknowledged : CalM l.prog w K mg base A.Wire "acknowledged" 1 ["self", "number"] (sp_Wire_acknowledged K A) := ⟨⟨_, _, o_Wire_acknowledged, ⟨a4, i4, k4⟩, b4⟩⟩
  have o_Lmixed := ok_Lmixed (P := l.prog) (w := w) (base := base) F5 T 
  have e_Lmixed : Cal l.prog w K mg base "_law_mixed" 1 ["_law_number", "_law_k"] (sp_Lmixed K A) := ⟨⟨_, _, o_Lmixed, PySem.W.mg_of X G a5, k5, b5⟩⟩
  have o_Lnumbers := ok_Lnumbers (P := l.prog) (w := w) (base := base) F6 T e_Lmixed
  have e_Lnumbers : Cal l.prog w K mg base "_law_numbers" 2 ["_law_script"] (sp_Lnumbers K A) := ⟨⟨_, _, o_Lnumbers, PySem.W.mg_of X G a6, k6, b6⟩⟩
  have o_Ldraw := ok_Ldraw (P := l.prog) (w := w) (base := base) F7 T e_Lmixed
  have e_Ldraw : Cal l.prog w K mg base "_law_draw" 2 ["_law_draws"] (sp_Ldraw K A) := ⟨⟨_, _, o_Ldraw, PySem.W.mg_of X G a7, k7, b7⟩⟩
  have e_Lequal : Cal l.prog w K mg base "_law_equal" 25 ["_law_actual", "_law_due"] (sp_Lequal K A 12) := eq_one (P := l.prog) (w := w) (base := base) F8 T (PySem.W.mg_of X G a8) b8 F9 (PySem.W.mg_of X G a9) b9 12
  have e_Lall_equal : Cal l.prog w K mg base "_law_all_equal" 24 ["_law_actual", "_law_due"] (sp_Lall_equal K A 12) := eq_all (P := l.prog) (w := w) (base := base) F8 T (PySem.W.mg_of X G a8) b8 F9 (PySem.W.mg_of X G a9) b9 12
  have o_Lticked := ok_Lticked (P := l.prog) (w := w) (base := base) F10 T 
  have e_Lticked : Cal l.prog w K mg base "_law_ticked" 1 ["_law_net", "_law_wires", "_law_end"] (sp_Lticked K A) := ⟨⟨_, _, o_Lticked, PySem.W.mg_of X G a10, k10, b10⟩⟩
  have o_Ldelivered := ok_Ldelivered (P := l.prog) (w := w) (base := base) F11 T e_Wire_take e_Wire_acknowledged
  have e_Ldelivered : Cal l.prog w K mg base "_law_delivered" 2 ["_law_net", "_law_wires", "_law_handled", "_law_letter", "_law_known"] (sp_Ldelivered K A) := ⟨⟨_, _, o_Ldelivered, PySem.W.mg_of X G a11, k11, b11⟩⟩
  exact (ok_law F12 T e_Lequal e_Lnumbers e_Wire_init e_Lticked e_Ldraw e_Wire_send e_Ldelivered).imp fun vs H Q E h => h
theorem walk {l : PySem.W.OpenLaw} {q : Program} {loose : List Str} {XP : (Str → Option Value) → Heap → Prop} {YP : World → Heap → Prop} {d : DefRec} {K : Params → PySem.W.Frag} (hn : l.most = some 63) (hdf : d.params.defaults = [])
    (hY : ∀ (w : World) (h : Heap), YP w h → (K w.params).In h)
    (F : ∀ (w : World) (mg : Str → Option Value) (fa : Addr) (h : Heap), (K w.params).In h → h.Ns mainGlobals mg → mg d.name = some (.ref fa) →
      ∃ fd : FuncData, (∀ (s : Shared) (u : Value), BindsTo s fd ⟨[u], []⟩ [("_law_script", u)]) ∧ ∀ base : Heap, (K w.params).In base → base.Ns mainGlobals mg → FnOk l.prog w (K w.params) mg base CX0 26 fa fd ["_law_script"] (spLaw (K w.params))) :
    PySem.W.WalkO q loose XP YP l.row.toRowW d [] (fun f vs => PySem.call f vs) :=
  L2.walk_of (n := 63) (k := 26) (x := "_law_script") (CX := fun _ => CX0) (sp := fun w => spLaw (K w.params)) hn (by decide) hdf ⟨rfl, by decide, by decide⟩ hY F (fun _ _ a ns hl _ hS => ⟨_, rfl, a, ns, rfl, hS, hl, fun _ => rfl⟩) fun _ _ _ _ _ z => z
end Toy
open PySem PySem.W PyProof.Rows in
set_option maxRecDepth 100000 in
set_option maxHeartbeats 0 in
theorem PySem.Challenge.cw_manydoors_k08_whole_wires_lose_nothing_holds : PySem.Challenge.rw_manydoors_k08_whole_wires_lose_nothing.Holds := by
  w_on; o_law; k_head; (case hw => w_witness2)
  k_fill
  refine Toy.walk (l := PySem.Challenge.rw_manydoors_k08_whole_wires_lose_nothing) rfl rfl (fun w h Y => PySem.W.kIn_of Y) ?F
  case F =>
    intro w mg fa h KX G hmg
    refine' Toy.all_mk KX G hmg ?aC_Wire ?a1 ?i1 ?l1 ?c1 ?k1 ?a2 ?i2 ?l2 ?c2 ?k2 ?a3 ?i3 ?l3 ?c3 ?k3 ?a4 ?i4 ?l4 ?c4 ?k4 ?a5 ?l5 ?c5 ?k5 ?a6 ?l6 ?c6 ?k6 ?a7 ?l7 ?c7 ?k7 ?a8 ?l8 ?c8 ?k8 ?a9 ?l9 ?c9 ?k9 ?a10 ?l10 ?c10 ?k10 ?a11 ?l11 ?c11 ?k11 ?a12 ?l12 ?c12 ?k12 ?pg_Wire ?hd_Wire ?po_Wire ?sa_Wire ?mk_Wire ?kc_Wire ?no_Wire_sent ?no_Wire_outbox ?no_Wire_expected ?z_range ?z_len ?z_isinstance ?z_list ?z_tuple ?z_bool ?z_int ?z_str ?z_max
    (case aC_Wire => k_is)
    (case a1 => k_is)
    (case i1 => k_is)
    (case l1 => k_is)
    (case c1 => k_is)
    (case k1 => k_is)
    (case a2 => k_is)
    (case i2 => k_is)
    (case l2 => k_is)
    (case c2 => k_is)
    (case k2 => k_is)
    (case a3 => k_is)
    (case i3 => k_is)
    (case l3 => k_is)
    (case c3 => k_is)
    (case k3 => k_is)
    (case a4 => k_is)
    (case i4 => k_is)
    (case l4 => k_is)
    (case c4 => k_is)
    (case k4 => k_is)
    (case a5 => k_is)
    (case l5 => k_is)
    (case c5 => k_is)
    (case k5 => k_is)
    (case a6 => k_is)
    (case l6 => k_is)
    (case c6 => k_is)
    (case k6 => k_is)
    (case a7 => k_is)
    (case l7 => k_is)
    (case c7 => k_is)
    (case k7 => k_is)
    (case a8 => k_is)
    (case l8 => k_is)
    (case c8 => k_is)
    (case k8 => k_is)
    (case a9 => k_is)
    (case l9 => k_is)
    (case c9 => k_is)
    (case k9 => k_is)
    (case a10 => k_is)
    (case l10 => k_is)
    (case c10 => k_is)
    (case k10 => k_is)
    (case a11 => k_is)
    (case l11 => k_is)
    (case c11 => k_is)
    (case k11 => k_is)
    (case a12 => k_is)
    (case l12 => k_is)
    (case c12 => k_is)
    (case k12 => k_is)
    (case pg_Wire => k_is)
    (case hd_Wire => k_is)
    (case po_Wire => k_is)
    (case sa_Wire => k_is)
    (case mk_Wire => k_is)
    (case kc_Wire => k_is)
    (case no_Wire_sent => k_is)
    (case no_Wire_outbox => k_is)
    (case no_Wire_expected => k_is)
    (case z_range => k_is)
    (case z_len => k_is)
    (case z_isinstance => k_is)
    (case z_list => k_is)
    (case z_tuple => k_is)
    (case z_bool => k_is)
    (case z_int => k_is)
    (case z_str => k_is)
    (case z_max => k_is)
#print axioms PySem.Challenge.cw_manydoors_k08_whole_wires_lose_nothing_holds


