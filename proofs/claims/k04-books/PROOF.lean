import PyProof.Rows.All
import Wide.All
import OpenK.AllK
import Wide.FinOn
import HandS.ForMost
import HandS.IsInst
import HandS.Evl
import HandS.Walk
import KE.SortData
import KE.KDictCopyH
import KE.KDictOf
import KE.KDictSum
import HandS.Conv
import HandS.Finally
import HandS.DictTup
import HandS.TupLen
import PySem.Challenge.RW_manydoors_k04_plain_books
set_option Elab.async false
set_option linter.all false
set_option maxRecDepth 100000
set_option maxHeartbeats 1000000
namespace Lw
open PySem L2

/-! ### frames: what a piece of code leaves as it was -/
structure Fr (l : List Addr) (H H' : Hp) : Prop where
  keep : ∀ a o, H a = some o → a ∉ l → H' a = some o
  tup : ∀ a xs, H a = some (.tup xs) → H' a = some (.tup xs)
theorem Fr.refl {l : List Addr} {H : Hp} : Fr l H H := ⟨fun _ _ h _ => h, fun _ _ h => h⟩
theorem Fr.mono {l m : List Addr} {H H' : Hp} (f : Fr l H H') (h : ∀ a, a ∈ l → a ∈ m) : Fr m H H' := ⟨fun a o e n => f.keep a o e fun q => n (h a q), f.tup⟩
theorem Fr.of0 {m : List Addr} {H H' : Hp} (f : Fr [] H H') : Fr m H H' := f.mono fun _ q => nomatch q
theorem Fr.new {H : Hp} {p : Addr} {o : HO} (h : H p = none) : Fr [] H (upd H p o) := ⟨fun a u e _ => by rw [upd_ne (ne_of_none e h)]; exact e, fun a u e => by rw [upd_ne (ne_of_none e h)]; exact e⟩
def notTup : HO → Prop
  | .tup _ => False
  | _ => True
theorem Fr.put {H : Hp} {p : Addr} {o u : HO} (h : H p = some u) (hu : notTup u) : Fr [p] H (upd H p o) := by
  refine ⟨fun a v e n => ?_, fun a v e => ?_⟩
  · rw [upd_ne fun q => n (List.mem_singleton.mpr q)]; exact e
  · by_cases q : a = p
    · subst q; rw [h] at e; cases e; exact hu.elim
    · rw [upd_ne q]; exact e
theorem Fr.trans {l m : List Addr} {H H1 H2 : Hp} (f : Fr l H H1) (g : Fr m H1 H2) : Fr (l ++ m) H H2 :=
  ⟨fun a o e n => g.keep a o (f.keep a o e fun q => n (List.mem_append_left _ q)) fun q => n (List.mem_append_right _ q), fun a xs e => g.tup a xs (f.tup a xs e)⟩
theorem Fr.transL {l : List Addr} {H H1 H2 : Hp} (f : Fr l H H1) (g : Fr l H1 H2) : Fr l H H2 := (f.trans g).mono fun _ q => (List.mem_append.mp q).elim id id
theorem Fr.then0 {l : List Addr} {H H1 H2 : Hp} (f : Fr l H H1) (g : Fr [] H1 H2) : Fr l H H2 := f.transL g.of0
theorem Fr.pre0 {l : List Addr} {H H1 H2 : Hp} (f : Fr [] H H1) (g : Fr l H1 H2) : Fr l H H2 := f.of0.transL g
theorem Fr.pre0' {l : List Addr} {H H1 H2 : Hp} (g : Fr l H1 H2) (f : Fr [] H H1) : Fr l H H2 := f.pre0 g
/-- an address that was not tracked may be written -/
theorem Fr.drop {l : List Addr} {p : Addr} {H H' : Hp} (f : Fr (p :: l) H H') (h : H p = none) : Fr l H H' :=
  ⟨fun a o e n => f.keep a o e fun q => (List.mem_cons.mp q).elim (fun z => by rw [z, h] at e; cases e) n, f.tup⟩
theorem Fr.free {H H' : Hp} {p : Addr} (f : Fr [] H H') (h : H' p = none) : H p = none := by
  cases q : H p with
  | none => rfl
  | some o => rw [f.keep p o q (by simp)] at h; cases h
theorem Fr.freeL {l : List Addr} {H H' : Hp} {p : Addr} (f : Fr l H H') (h : H' p = none) (n : p ∉ l) : H p = none := by
  cases q : H p with
  | none => rfl
  | some o => rw [f.keep p o q n] at h; cases h
/-- new objects may change -/
theorem Fr.own {l m : List Addr} {H H' H2 : Hp} (f : Fr l H H') (g : Fr m H' H2) (n : ∀ a, a ∈ m → a ∈ l ∨ H a = none) : Fr l H H2 :=
  ⟨fun a o e na => g.keep a o (f.keep a o e na) fun q => (n a q).elim na (fun z => by rw [z] at e; cases e), fun a xs e => g.tup a xs (f.tup a xs e)⟩
theorem Fr.own1 {l : List Addr} {p : Addr} {H H' H2 : Hp} (f : Fr l H H') (g : Fr [p] H' H2) (n : H p = none) : Fr l H H2 := f.own g fun a q => .inr (by rw [List.mem_singleton.mp q]; exact n)
theorem frn0 {l : List Addr} {H : Hp} : ∀ a, a ∈ ([] : List Addr) → a ∈ l ∨ H a = none := fun _ q => nomatch q
theorem frn1 {p : Addr} {l m : List Addr} {H : Hp} (h : p ∈ l ∨ H p = none) (t : ∀ a, a ∈ m → a ∈ l ∨ H a = none) : ∀ a, a ∈ p :: m → a ∈ l ∨ H a = none := fun a q => (List.mem_cons.mp q).elim (fun e => e ▸ h) (t a)
theorem nin0 {a : Addr} : a ∉ ([] : List Addr) := by simp
theorem nin1 {a b : Addr} {l : List Addr} (h : a ≠ b) (t : a ∉ l) : a ∉ b :: l := by simp [h, t]
theorem Fr.tupAt {l : List Addr} {H H' : Hp} {a : Addr} {xs : List V} (f : Fr l H H') (h : H a = some (.tup xs)) : H' a = some (.tup xs) := f.tup a xs h
theorem Fr.at0 {H H' : Hp} {a : Addr} {o : HO} (f : Fr [] H H') (h : H a = some o) : H' a = some o := f.keep a o h nin0
theorem Fr.at {l : List Addr} {H H' : Hp} {a : Addr} {o : HO} (f : Fr l H H') (h : H a = some o) (n : a ∉ l) : H' a = some o := f.keep a o h n
theorem Fr.sql {K : PySem.W.Frag} {l : List Addr} {H H' : Hp} {a : Addr} {xs : List V} (f : Fr l H H') (h : SqL K H a xs) (n : a ∉ l) : SqL K H' a xs := by
  rcases h with (h | ⟨o, h⟩) | h
  · exact .inl (.inl (f.keep _ _ h n))
  · exact .inl (.inr ⟨o, f.keep _ _ h n⟩)
  · exact .inr h

/-! ### operators by name -/
def oAdd : R2 := rI0 fun i j => .int (i + j)
def oSub : R2 := rI0 fun i j => .int (i - j)
def oMul : R2 := rI CMul fun i j => .int (i * j)
def oMod : R2 := rI (fun _ j => 0 < j) fun i j => .int (i % j)
def oDiv : R2 := rI CDiv fun i j => .int (i / j)
def oPow : R2 := rI CPow fun i j => .int (i ^ j.toNat)
def cLt : R2 := rI0 fun i j => .bl (decide (i < j))
def cLe : R2 := rI0 fun i j => .bl (decide (i ≤ j))
def cGt : R2 := rI0 fun i j => .bl (decide (j < i))
def cGe : R2 := rI0 fun i j => .bl (decide (j ≤ i))
section
variable {X : Cx}
theorem o_add : OpR X (binaryOp .Add) oAdd := op_add
theorem o_sub : OpR X (binaryOp .Sub) oSub := op_sub
theorem o_mul : OpR X (binaryOp .Mult) oMul := op_mul
theorem o_mod : OpR X (binaryOp .Mod) oMod := op_mod
theorem o_div : OpR X (binaryOp .FloorDiv) oDiv := op_fdiv
theorem o_pow : OpR X (binaryOp .Pow) oPow := op_pow
theorem c_lt : OpR X (compareOp .Lt) cLt := op_lt
theorem c_le : OpR X (compareOp .LtE) cLe := op_le
theorem c_gt : OpR X (compareOp .Gt) cGt := op_gt
theorem c_ge : OpR X (compareOp .GtE) cGe := op_ge
/-- len -/
def rLenSq (K : PySem.W.Frag) : List V → Hp → VK → Prop := fun xs H Q => ∃ p ys, xs = [.ref p] ∧ (SqL K H p ys ∨ SqT K H p ys) ∧ Q (.int ys.length) H
def rLenStr : List V → Hp → VK → Prop := fun xs H Q => ∃ z, xs = [.str z] ∧ z.length ≤ sizeLine ∧ Q (.int z.length) H
theorem b_len : CallR X (.builtin "len") (rLenSq X.K) := call_len_seq
theorem b_lenS : CallR X (.builtin "len") rLenStr := call_len_str
/-- list(..), tuple(..) -/
def rListOf (K : PySem.W.Frag) : List V → Hp → VK → Prop := fun xs H Q => ∃ p ys, xs = [.ref p] ∧ (SqL K H p ys ∨ SqT K H p ys) ∧ ∀ l, H l = none → Q (.ref l) (upd H l (.lst ys))
def rTupOf (K : PySem.W.Frag) : List V → Hp → VK → Prop := fun xs H Q => ∃ p ys, xs = [.ref p] ∧ ((SqL K H p ys ∧ ∀ l, H l = none → Q (.ref l) (upd H l (.tup ys))) ∨ (SqT K H p ys ∧ Q (.ref p) H))
theorem b_list : CallR X (.type "list") (rListOf X.K) := call_list_of
theorem b_tuple : CallR X (.type "tuple") (rTupOf X.K) := call_tuple_of
def rMax2 : List V → Hp → VK → Prop := fun xs H Q => ∃ i j, xs = [.int i, .int j] ∧ Q (.int (if j > i then j else i)) H
def rMin2 : List V → Hp → VK → Prop := fun xs H Q => ∃ i j, xs = [.int i, .int j] ∧ Q (.int (if j < i then j else i)) H
theorem b_max2 (hc : X.calm = true) : CallR X (.builtin "max") rMax2 := call_max2 hc
theorem b_min2 (hc : X.calm = true) : CallR X (.builtin "min") rMin2 := call_min2 hc
def rIsNon : R2 := fun x y H Q => y = .non ∧ Q (.bl (decide (x = .non))) H
def rIsNotNon : R2 := fun x y H Q => y = .non ∧ Q (.bl (!decide (x = .non))) H
theorem c_isN : OpR X (compareOp .Is) rIsNon := op_isN
theorem c_notN : OpR X (compareOp .IsNot) rIsNotNon := op_notN
/-- a value's truth, as a test -/
def tTr (K : PySem.W.Frag) (ta : TE) : TT := fun σ H Q => ta σ H fun x H' => ∃ k, TruV K x H' k ∧ Q k H'
theorem pt_tr {a : Expr} {ta : TE} (ha : PE X a ta) (he : ∀ whole, isTrue a X.env whole = (do let v ← whole; standAt a.pos; holding [v] (truthy v))) : PT X a (tTr X.K ta) := pt_truth ha he

/-! ### calls -/
def tCl (sp : Sp) (t : TA) : TE := fun σ H Q => t σ H fun vs H1 => sp vs H1 Q E0
def rMt (C : Addr) (m : Str) (x : V) (H : Hp) (p : Prop) : Prop := ∃ a dx fs, x = .ref a ∧ H a = some (.ins C dx fs) ∧ fs.lookup m = none ∧ p
def tMt (C : Addr) (m : Str) (sp : Sp) (ta : TE) (t : TA) : TE := fun σ H Q => ta σ H fun x H1 => rMt C m x H1 (t σ H1 fun vs H2 => sp (x :: vs) H2 Q E0)
def tMk (C : Addr) (sp : Sp) (t : TA) : TE := fun σ H Q => t σ H fun vs H1 => ∀ x dx, H1 x = none → H1 dx = none → dx ≠ x →
  sp (.ref x :: vs) (upd (upd H1 dx (.own x)) x (.ins C dx [])) (fun v H2 => v = .non ∧ Q (.ref x) H2) E0
/-- a def of the text, to be called by its name -/
structure Cal (P : Program) (w : World) (K : PySem.W.Frag) (mg : Str → Option Value) (base : Heap) (x : Str) (k : Nat) (ps : List Str) (sp : Sp) : Prop where
  ex : ∃ f fd, FnOk P w K mg base CX0 k f fd ps sp ∧ mg x = some (.ref f) ∧ PySem.W.keepIn K (.ref f) = true ∧ Binds K fd ps []
/-- a method of the class at C -/
structure CalM (P : Program) (w : World) (K : PySem.W.Frag) (mg : Str → Option Value) (base : Heap) (C : Addr) (m : Str) (k : Nat) (ps : List Str) (sp : Sp) : Prop where
  ex : ∃ f fd, FnOk P w K mg base CX0 k f fd ps sp ∧ Meth K C m f ∧ Binds K fd ps []
/-- a class, to be called by its name -/
structure CalC (P : Program) (w : World) (K : PySem.W.Frag) (mg : Str → Option Value) (base : Heap) (x : Str) (C : Addr) (k : Nat) (ps : List Str) (sp : Sp) : Prop where
  ex : ∃ f fd, FnOk P w K mg base CX0 k f fd ps sp ∧ Mk K C f ∧ mg x = some (.ref C) ∧ Binds K fd ps []
variable {k : Nat} {ps : List Str} {sp : Sp} {x m : Str} {p pos apos : Pos} {e o : Expr} {es : List Expr} {ta : TE} {t : TA} {C : Addr}
theorem tcl_eq {E : XK} : (tCall sp [] E0 t) = tCl sp t := by
  funext σ H Q
  show (t σ H fun vs H1 => sp (vs ++ []) H1 Q E0) = (t σ H fun vs H1 => sp vs H1 Q E0)
  simp only [List.append_nil]
theorem pe_cl (c : Cal X.prog X.w X.K X.mg X.base x k ps sp) (hr : Room k X.A) (hg : Gl X x) (ha : PA X (e :: es) t) (hdb : (x == ("__debug__" : Str)) = false := by decide)
    (he : starEach (e :: es) X.env = (false, eval e X.env) :: starEach es X.env := by rfl) (hpl : (backTo pos (starEach es X.env)).any (·.1) = false := by rfl) : PE X (.Call (.Name x p) (e :: es) [] pos) (tCl sp t) := by
  obtain ⟨f, fd, F, hm, hk, hb⟩ := c.ex
  rw [← tcl_eq (E := E0)]
  exact pe_call F hr hg hm hk hb .nil pass0 ha hdb he hpl
theorem pe_cl0 (c : Cal X.prog X.w X.K X.mg X.base x k ps sp) (hr : Room k X.A) (hg : Gl X x) (hdb : (x == ("__debug__" : Str)) = false := by decide) : PE X (.Call (.Name x p) [] [] pos) (tCl sp tNil) := by
  obtain ⟨f, fd, F, hm, hk, hb⟩ := c.ex
  rw [← tcl_eq (E := E0)]
  exact pe_call0 F hr hg hm hk hb .nil pass0 hdb
theorem tmt_eq : (tMeth C m sp [] E0 ta t) = tMt C m sp ta t := by
  funext σ H Q
  show (ta σ H fun x H1 => ∃ a dx fs, x = .ref a ∧ H1 a = some (.ins C dx fs) ∧ fs.lookup m = none ∧ t σ H1 fun vs H2 => sp (x :: (vs ++ [])) H2 Q E0) = _
  simp only [List.append_nil]
  rfl
theorem tmk_eq : (tMake C sp [] E0 t) = tMk C sp t := by
  funext σ H Q
  show (t σ H fun vs H1 => ∀ x dx, H1 x = none → H1 dx = none → dx ≠ x → sp (.ref x :: (vs ++ [])) (upd (upd H1 dx (.own x)) x (.ins C dx [])) (fun v H2 => v = .non ∧ Q (.ref x) H2) E0) = _
  simp only [List.append_nil]
  rfl
theorem pe_mt {pl : Sem Bool} (he : PE X o ta) (c : Cls X.K C) (cm : CalM X.prog X.w X.K X.mg X.base C m k ps sp) (hr : Room k X.A) (ha : PA X (e :: es) t)
    (hst : starEach (e :: es) X.env = (false, eval e X.env) :: starEach es X.env := by rfl) (hpl : (backTo pos (starEach es X.env)).any (·.1) = false := by rfl)
    (ht : eval (.Call (.Attribute o m apos) (e :: es) [] pos) X.env = (do
      let ov ← eval o X.env
      standAt apos.atName
      let (f, first) ← holding [ov] (getMethod ov m pl)
      callWith pos f first (backTo pos (starEach (e :: es) X.env)) (backToKw pos (keywordEach [] X.env))) := by rfl) :
    PE X (.Call (.Attribute o m apos) (e :: es) [] pos) (tMt C m sp ta t) := by
  obtain ⟨f, fd, F, hm, hb⟩ := cm.ex
  rw [← tmt_eq]
  exact pe_meth (pl := pl) he c hm F hr hb .nil pass0 ha hst hpl ht
theorem pe_mt0 {pl : Sem Bool} (he : PE X o ta) (c : Cls X.K C) (cm : CalM X.prog X.w X.K X.mg X.base C m k ps sp) (hr : Room k X.A)
    (ht : eval (.Call (.Attribute o m apos) [] [] pos) X.env = (do
      let ov ← eval o X.env
      standAt apos.atName
      let (f, first) ← holding [ov] (getMethod ov m pl)
      callWith pos f first (backTo pos (starEach [] X.env)) (backToKw pos (keywordEach [] X.env))) := by rfl) :
    PE X (.Call (.Attribute o m apos) [] [] pos) (tMt C m sp ta tNil) := by
  obtain ⟨f, fd, F, hm, hb⟩ := cm.ex
  rw [← tmt_eq]
  exact pe_meth0 (pl := pl) he c hm F hr hb .nil pass0 ht
theorem pe_mk (cm : CalC X.prog X.w X.K X.mg X.base x C k ps sp) (hr : Room (k + 1) X.A) (hg : Gl X x) (ha : PA X (e :: es) t) (hdb : (x == ("__debug__" : Str)) = false := by decide)
    (he : starEach (e :: es) X.env = (false, eval e X.env) :: starEach es X.env := by rfl) (hpl : (backTo pos (starEach es X.env)).any (·.1) = false := by rfl) :
    PE X (.Call (.Name x p) (e :: es) [] pos) (tMk C sp t) := by
  obtain ⟨f, fd, F, hM, hm, hb⟩ := cm.ex
  rw [← tmk_eq]
  exact pe_make hM F hr hg hm hb .nil pass0 ha hdb he hpl
theorem pe_mk0 (cm : CalC X.prog X.w X.K X.mg X.base x C k ps sp) (hr : Room (k + 1) X.A) (hg : Gl X x) (hdb : (x == ("__debug__" : Str)) = false := by decide) :
    PE X (.Call (.Name x p) [] [] pos) (tMk C sp tNil) := by
  obtain ⟨f, fd, F, hM, hm, hb⟩ := cm.ex
  rw [← tmk_eq]
  exact pe_make0 hM F hr hg hm hb .nil pass0 hdb
end

/-! ### readings, one step each -/
section
variable {K : PySem.W.Frag} {σ : L2.St} {H H' : Hp} {Q : VK} {D : Ends} {i : Nat} {v x y : V} {ta tb te tc : TE} {r : R2} {t u : TS} {c d : TT} {as tr : TA} {g : TG} {a b : Int} {p C dx : Addr} {QB : Bool → Hp → Prop} {QL : List V → Hp → Prop}
theorem g_seq (h : t { D with nx := u D } σ H) : tSeq t u D σ H := h
theorem g_cut (M : L2.St → Hp → Prop) (h : t { D with nx := M } σ H) (k : ∀ σ' H', M σ' H' → u D σ' H') : Evl.tCut t u D σ H := ⟨M, h, k⟩
theorem g_next (h : D.nx σ H) : tNext D σ H := h
theorem g_brk (h : D.bk σ H) : tBreak D σ H := h
theorem g_cont (h : D.ct σ H) : tCont D σ H := h
theorem g_asg (h : te σ H (fun v H' => g v σ H' D.nx)) : tAsg te g D σ H := h
theorem g_name {QS : L2.St → Hp → Prop} (h : QS (σ.set i (some v)) H) : gName i v σ H QS := h
theorem g_ret (h : te σ H D.rt) : tRet te D σ H := h
theorem g_retN (h : D.rt .non H) : tRetN D σ H := h
theorem g_drop (h : te σ H (fun _ H' => D.nx σ H')) : tDrop te D σ H := h
theorem g_ifs (h : c σ H (fun b H' => if b = true then t D σ H' else u D σ H')) : tIfS c t u D σ H := h
theorem g_aug {ti : TIp} (hx : σ[i]? = some (some x)) (h : te σ H (fun y H1 => ti x y H1 fun z H2 => D.nx (σ.set i (some z)) H2)) : tAug i te ti D σ H := ⟨x, hx, h⟩
theorem g_ipI {f : Int → Int → Int} (h : Q (.int (f a b)) H) : ipI f (.int a) (.int b) H Q := ⟨a, b, rfl, rfl, h⟩
theorem g_var (hx : σ[i]? = some (some v)) (h : Q v H) : tVar i σ H Q := ⟨v, hx, h⟩
theorem g_c (h : Q v H) : tC v σ H Q := h
theorem g_op (h : ta σ H (fun x H1 => tb σ H1 fun y H2 => r x y H2 Q)) : tOp r ta tb σ H Q := h
theorem g_add (h : Q (.int (a + b)) H) : oAdd (.int a) (.int b) H Q := ⟨a, b, rfl, rfl, h⟩
theorem g_sub (h : Q (.int (a - b)) H) : oSub (.int a) (.int b) H Q := ⟨a, b, rfl, rfl, h⟩
theorem g_mul (hc : CMul a b) (h : Q (.int (a * b)) H) : oMul (.int a) (.int b) H Q := ⟨a, b, rfl, rfl, hc, h⟩
theorem g_mod (hc : 0 < b) (h : Q (.int (a % b)) H) : oMod (.int a) (.int b) H Q := ⟨a, b, rfl, rfl, hc, h⟩
theorem g_div (hc : CDiv a b) (h : Q (.int (a / b)) H) : oDiv (.int a) (.int b) H Q := ⟨a, b, rfl, rfl, hc, h⟩
theorem g_pow (hc : CPow a b) (h : Q (.int (a ^ b.toNat)) H) : oPow (.int a) (.int b) H Q := ⟨a, b, rfl, rfl, hc, h⟩
theorem g_lt (h : Q (.bl (decide (a < b))) H) : cLt (.int a) (.int b) H Q := ⟨a, b, rfl, rfl, h⟩
theorem g_le (h : Q (.bl (decide (a ≤ b))) H) : cLe (.int a) (.int b) H Q := ⟨a, b, rfl, rfl, h⟩
theorem g_gt (h : Q (.bl (decide (b < a))) H) : cGt (.int a) (.int b) H Q := ⟨a, b, rfl, rfl, h⟩
theorem g_ge (h : Q (.bl (decide (b ≤ a))) H) : cGe (.int a) (.int b) H Q := ⟨a, b, rfl, rfl, h⟩
theorem g_eqI (h : Q (.bl (decide (a = b))) H) : rEq (.int a) (.int b) H Q := ⟨rfl, by rw [show decide (V.int a = V.int b) = decide (a = b) from by simp]; exact h⟩
theorem g_neI (h : Q (.bl (!decide (a = b))) H) : rNe (.int a) (.int b) H Q := ⟨rfl, by rw [show decide (V.int a = V.int b) = decide (a = b) from by simp]; exact h⟩
theorem g_eqS {a b : Str} (h : Q (.bl (decide (a = b))) H) : rEq (.str a) (.str b) H Q := ⟨rfl, by rw [show decide (V.str a = V.str b) = decide (a = b) from by simp]; exact h⟩
theorem g_neS {a b : Str} (h : Q (.bl (!decide (a = b))) H) : rNe (.str a) (.str b) H Q := ⟨rfl, by rw [show decide (V.str a = V.str b) = decide (a = b) from by simp]; exact h⟩
theorem g_eqB {a b : Bool} (h : Q (.bl (decide (a = b))) H) : rEq (.bl a) (.bl b) H Q := ⟨rfl, by rw [show decide (V.bl a = V.bl b) = decide (a = b) from by simp]; exact h⟩
theorem g_isN (h : Q (.bl (decide (x = .non))) H) : rIsNon x .non H Q := ⟨rfl, h⟩
theorem g_notN (h : Q (.bl (!decide (x = .non))) H) : rIsNotNon x .non H Q := ⟨rfl, h⟩
theorem g_test (h : te σ H (fun x H' => ∃ k, x = .bl k ∧ QB k H')) : tTest te σ H QB := h
theorem g_tb (h : te σ H (fun x H' => ∃ k, x = .bl k ∧ QB k H')) : tB te σ H QB := h
theorem g_bl {k : Bool} {P : Bool → Prop} (h : P k) : ∃ k', V.bl k = V.bl k' ∧ P k' := ⟨k, rfl, h⟩
theorem g_and (h : c σ H (fun b H1 => if b = true then d σ H1 QB else QB false H1)) : tAnd c d σ H QB := h
theorem g_or (h : c σ H (fun b H1 => if b = true then QB true H1 else d σ H1 QB)) : tOr c d σ H QB := h
theorem g_not (h : c σ H (fun b H1 => QB (!b) H1)) : tNot c σ H QB := h
theorem g_andV (h : ta σ H (fun x H1 => ∃ c, x = .bl c ∧ if c = true then tb σ H1 Q else Q (.bl false) H1)) : tAndV ta tb σ H Q := h
theorem g_orV (h : ta σ H (fun x H1 => ∃ c, x = .bl c ∧ if c = true then Q (.bl true) H1 else tb σ H1 Q)) : tOrV ta tb σ H Q := h
theorem g_notV (h : ta σ H (fun x H1 => ∃ c, x = .bl c ∧ Q (.bl (!c)) H1)) : tNotV ta σ H Q := h
theorem g_ifE (h : c σ H (fun b H1 => if b = true then ta σ H1 Q else tb σ H1 Q)) : tIf c ta tb σ H Q := h
theorem g_ite {P : Prop} [Decidable P] {A B : Prop} (h1 : P → A) (h2 : ¬ P → B) : if decide P = true then A else B := by
  by_cases h : P
  · rw [if_pos (decide_eq_true h)]; exact h1 h
  · rw [if_neg (by simp [h])]; exact h2 h
theorem g_iteN {P : Prop} [Decidable P] {A B : Prop} (h1 : ¬ P → A) (h2 : P → B) : if (!decide P) = true then A else B := by
  by_cases h : P
  · rw [if_neg (by simp [h])]; exact h2 h
  · rw [if_pos (by simp [h])]; exact h1 h
theorem g_iteB {k : Bool} {A B : Prop} (h1 : k = true → A) (h2 : k = false → B) : if k = true then A else B := by
  cases k with
  | true => rw [if_pos rfl]; exact h1 rfl
  | false => rw [if_neg Bool.false_ne_true]; exact h2 rfl
theorem g_iteNB {k : Bool} {A B : Prop} (h1 : k = false → A) (h2 : k = true → B) : if (!k) = true then A else B := by
  cases k with
  | true => rw [if_neg (by decide)]; exact h2 rfl
  | false => rw [if_pos (by decide)]; exact h1 rfl
theorem g_iteT {A B : Prop} (h : A) : if true = true then A else B := by rw [if_pos rfl]; exact h
theorem g_iteF {A B : Prop} (h : B) : if false = true then A else B := by rw [if_neg Bool.false_ne_true]; exact h
theorem g_iteNT {A B : Prop} (h : B) : if (!true) = true then A else B := by rw [if_neg (by decide)]; exact h
theorem g_iteNF {A B : Prop} (h : A) : if (!false) = true then A else B := by rw [if_pos (by decide)]; exact h
theorem g_nil (h : QL [] H) : tNil σ H QL := h
theorem g_cons (h : te σ H (fun x H1 => as σ H1 fun xs H2 => QL (x :: xs) H2)) : tCons te as σ H QL := h
theorem g_cb {rr : List V → Hp → VK → Prop} (h : as σ H (fun vs H1 => rr vs H1 Q)) : tCB rr as σ H Q := h
theorem g_cl {sp : Sp} (h : as σ H (fun vs H1 => sp vs H1 Q E0)) : tCl sp as σ H Q := h
/-- a new tuple, a new list -/
def rNewT (vs : List V) (H : Hp) (Q : VK) : Prop := vs.length ≤ sizeLine ∧ ∀ p, H p = none → Q (.ref p) (upd H p (.tup vs))
def rNewL (vs : List V) (H : Hp) (Q : VK) : Prop := vs.length ≤ sizeLine ∧ ∀ p, H p = none → Q (.ref p) (upd H p (.lst vs))
theorem g_tup (h : as σ H (fun vs H1 => rNewT vs H1 Q)) : tTup as σ H Q := h
theorem g_lst (h : as σ H (fun vs H1 => rNewL vs H1 Q)) : tLst as σ H Q := h
theorem g_newT {vs : List V} (hl : vs.length ≤ sizeLine) (h : ∀ p H', H p = none → Fr [] H H' → H' p = some (.tup vs) → Q (.ref p) H') : rNewT vs H Q := ⟨hl, fun p hp => h p _ hp (Fr.new hp) upd_same⟩
theorem g_newL {vs : List V} (hl : vs.length ≤ sizeLine) (h : ∀ p H', H p = none → Fr [] H H' → H' p = some (.lst vs) → Q (.ref p) H') : rNewL vs H Q := ⟨hl, fun p hp => h p _ hp (Fr.new hp) upd_same⟩
theorem g_ixL {xs : List V} {k : Int} (h : SqL K H p xs) (ha : atI xs k = some v) (q : Q v H) : rIxL K (.ref p) (.int k) H Q := ⟨p, xs, k, v, rfl, rfl, h, ha, q⟩
theorem g_ixT {xs : List V} {k : Int} (h : SqT K H p xs) (ha : atI xs k = some v) (q : Q v H) : rIxT K (.ref p) (.int k) H Q := ⟨p, xs, k, v, rfl, rfl, h, ha, q⟩
theorem g_lenL {xs : List V} (h : SqL K H p xs) (q : Q (.int xs.length) H) : rLenSq K [.ref p] H Q := ⟨p, xs, rfl, .inl h, q⟩
theorem g_lenT {xs : List V} (h : SqT K H p xs) (q : Q (.int xs.length) H) : rLenSq K [.ref p] H Q := ⟨p, xs, rfl, .inr h, q⟩
theorem g_listL {xs : List V} (h : SqL K H p xs) (q : ∀ l H', H l = none → Fr [] H H' → H' l = some (.lst xs) → Q (.ref l) H') : rListOf K [.ref p] H Q := ⟨p, xs, rfl, .inl h, fun l hl => q l _ hl (Fr.new hl) upd_same⟩
theorem g_listT {xs : List V} (h : SqT K H p xs) (q : ∀ l H', H l = none → Fr [] H H' → H' l = some (.lst xs) → Q (.ref l) H') : rListOf K [.ref p] H Q := ⟨p, xs, rfl, .inr h, fun l hl => q l _ hl (Fr.new hl) upd_same⟩
theorem g_tupL {xs : List V} (h : SqL K H p xs) (q : ∀ l H', H l = none → Fr [] H H' → H' l = some (.tup xs) → Q (.ref l) H') : rTupOf K [.ref p] H Q := ⟨p, xs, rfl, .inl ⟨h, fun l hl => q l _ hl (Fr.new hl) upd_same⟩⟩
theorem g_max2 (q : Q (.int (if b > a then b else a)) H) : rMax2 [.int a, .int b] H Q := ⟨a, b, rfl, q⟩
theorem g_min2 (q : Q (.int (if b < a then b else a)) H) : rMin2 [.int a, .int b] H Q := ⟨a, b, rfl, q⟩
def rBM (K : PySem.W.Frag) (T : String) (x : V) (H : Hp) (P : Prop) : Prop := tyV K T x H ∧ P
theorem g_bm {T : String} {rr : V → List V → Hp → VK → Prop} (h : te σ H (fun x H1 => rBM K T x H1 (as σ H1 fun xs H2 => rr x xs H2 Q))) : tBM K T rr te as σ H Q := h
theorem g_bm0 {T : String} {rr : V → List V → Hp → VK → Prop} (h : te σ H (fun x H1 => rBM K T x H1 (rr x [] H1 Q))) : tBM0 K T rr te σ H Q := h
theorem g_bmL {xs : List V} {P : Prop} (h : H p = some (.lst xs)) (q : P) : rBM K "list" (.ref p) H P := ⟨.inl ⟨rfl, xs, SqL.of h⟩, q⟩
theorem g_append {xs : List V} (h : H p = some (.lst xs)) (hl : xs.length < sizeLine) (q : ∀ H', Fr [p] H H' → H' p = some (.lst (xs ++ [y])) → Q .non H') : rAppend (.ref p) [y] H Q := ⟨p, xs, y, rfl, rfl, h, hl, q _ (Fr.put h trivial) upd_same⟩
theorem g_clear {xs : List V} (h : H p = some (.lst xs)) (q : ∀ H', Fr [p] H H' → H' p = some (.lst []) → Q .non H') : rClear (.ref p) [] H Q := ⟨p, xs, rfl, rfl, h, q _ (Fr.put h trivial) upd_same⟩
theorem g_sub1 {to ti : TE} {ts : TSet} {QS : L2.St → Hp → Prop} (h : to σ H (fun o H1 => ti σ H1 fun i H2 => ts o i v H2 fun H3 => QS σ H3)) : gSub to ti ts v σ H QS := h
theorem g_setL {xs : List V} {k : Int} {j : Nat} {P : Hp → Prop} (h : H p = some (.lst xs)) (hj : ixN xs.length k = some j) (q : ∀ H', Fr [p] H H' → H' p = some (.lst (xs.set j v)) → P H') : rSetL (.ref p) (.int k) v H P := ⟨p, xs, k, j, rfl, rfl, h, hj, q _ (Fr.put h trivial) upd_same⟩
/-- attributes -/
def rFld (K : PySem.W.Frag) (f : Str) (x : V) (H : Hp) (Q : VK) : Prop := ∃ a C dx fs v, x = .ref a ∧ H a = some (.ins C dx fs) ∧ Cls K C ∧ NoAttr K C f ∧ fs.lookup f = some v ∧ Q v H
theorem g_fld {f : Str} (h : ta σ H (fun x H1 => rFld K f x H1 Q)) : tFld K ta f σ H Q := h
theorem g_rfld {f : Str} {fs : List (Str × V)} (h : H p = some (.ins C dx fs)) (c : Cls K C) (n : NoAttr K C f) (l : fs.lookup f = some v) (q : Q v H) : rFld K f (.ref p) H Q := ⟨p, C, dx, fs, v, rfl, h, c, n, l, q⟩
def rFldS (K : PySem.W.Frag) (f : Str) (x v : V) (H : Hp) (P : Hp → Prop) : Prop := ∃ a C dx fs, x = .ref a ∧ H a = some (.ins C dx fs) ∧ Cls K C ∧ NoAttr K C f ∧ fs.length < 1000 ∧ P (upd H a (.ins C dx (putF f v fs)))
theorem g_sfld {f : Str} (h : tb σ H (fun y H1 => ta σ H1 fun x H2 => rFldS K f x y H2 fun H3 => D.nx σ H3)) : sFld K ta tb f D σ H := h
theorem g_rflds {f : Str} {fs gs : List (Str × V)} {P : Hp → Prop} (h : H p = some (.ins C dx fs)) (c : Cls K C) (n : NoAttr K C f) (hl : fs.length < 1000) (e : putF f v fs = gs) (q : ∀ H', Fr [p] H H' → H' p = some (.ins C dx gs) → P H') : rFldS K f (.ref p) v H P :=
  ⟨p, C, dx, fs, rfl, h, c, n, hl, q _ (Fr.put h trivial) (by rw [e]; exact upd_same)⟩
def rFldA (K : PySem.W.Frag) (f : Str) (tv : TE) (rd : V → V → Hp → VK → Prop) (x : V) (σ : L2.St) (H : Hp) (D : Ends) : Prop := ∃ a C dx fs v, x = .ref a ∧ H a = some (.ins C dx fs) ∧ Cls K C ∧ NoAttr K C f ∧ fs.lookup f = some v ∧
  tv σ H fun y H2 => rd v y H2 fun z H3 => ∃ dx' fs', H3 a = some (.ins C dx' fs') ∧ fs'.length < 1000 ∧ D.nx σ (upd H3 a (.ins C dx' (putF f z fs')))
theorem g_flda {f : Str} {rd : V → V → Hp → VK → Prop} (h : ta σ H (fun x H1 => rFldA K f tb rd x σ H1 D)) : sFldAug K ta tb rd f D σ H := h
def rFldB (a C : Addr) (f : Str) (z : V) (H3 : Hp) (P : Hp → Prop) : Prop := ∃ dx' fs', H3 a = some (.ins C dx' fs') ∧ fs'.length < 1000 ∧ P (upd H3 a (.ins C dx' (putF f z fs')))
theorem g_rflda {f : Str} {fs : List (Str × V)} {rd : V → V → Hp → VK → Prop} (h : H p = some (.ins C dx fs)) (c : Cls K C) (n : NoAttr K C f) (l : fs.lookup f = some v) (q : tb σ H fun y H2 => rd v y H2 fun z H3 => rFldB p C f z H3 fun H4 => D.nx σ H4) : rFldA K f tb rd (.ref p) σ H D :=
  ⟨p, C, dx, fs, v, rfl, h, c, n, l, q⟩
theorem g_rfldb {f : Str} {fs gs : List (Str × V)} {P : Hp → Prop} (h : H p = some (.ins C dx fs)) (hl : fs.length < 1000) (e : putF f v fs = gs) (q : ∀ H', Fr [p] H H' → H' p = some (.ins C dx gs) → P H') : rFldB p C f v H P :=
  ⟨dx, fs, h, hl, q _ (Fr.put h trivial) (by rw [e]; exact upd_same)⟩
theorem g_rAdd (h : Q (.int (a + b)) H) : rAdd (.int a) (.int b) H Q := ⟨a, b, rfl, rfl, h⟩
theorem g_rSub (h : Q (.int (a - b)) H) : rSub (.int a) (.int b) H Q := ⟨a, b, rfl, rfl, h⟩
theorem g_mt {m : Str} {sp : Sp} (h : ta σ H (fun x H1 => rMt C m x H1 (as σ H1 fun vs H2 => sp (x :: vs) H2 Q E0))) : tMt C m sp ta as σ H Q := h
theorem g_rmt {m : Str} {fs : List (Str × V)} {P : Prop} (h : H p = some (.ins C dx fs)) (l : fs.lookup m = none) (q : P) : rMt C m (.ref p) H P := ⟨p, dx, fs, rfl, h, l, q⟩
def rMk (C : Addr) (sp : Sp) (vs : List V) (H1 : Hp) (Q : VK) : Prop := ∀ x dx, H1 x = none → H1 dx = none → dx ≠ x →
  sp (.ref x :: vs) (upd (upd H1 dx (.own x)) x (.ins C dx [])) (fun v H2 => v = .non ∧ Q (.ref x) H2) E0
theorem g_mk {sp : Sp} (h : as σ H (fun vs H1 => rMk C sp vs H1 Q)) : tMk C sp as σ H Q := h
theorem g_rmk {sp : Sp} {vs : List V} (k : ∀ x dx H2, H x = none → H dx = none → dx ≠ x → Fr [] H H2 → H2 x = some (.ins C dx []) → H2 dx = some (.own x) → sp (.ref x :: vs) H2 (fun v H3 => v = .non ∧ Q (.ref x) H3) E0) : rMk C sp vs H Q := by
  intro x dx nx nd ne
  refine k x dx _ nx nd ne ?_ upd_same (by rw [upd_ne ne]; exact upd_same)
  have f1 : Fr [] H (upd H dx (.own x)) := Fr.new nd
  exact f1.then0 (Fr.new (by rw [upd_ne ne.symm]; exact nx))
end

/-! ### isinstance against a built-in class -/
theorem kb_NoneType_list : kitB "NoneType" "list" = some false := by decide +kernel
theorem kb_NoneType_tuple : kitB "NoneType" "tuple" = some false := by decide +kernel
theorem kb_NoneType_bool : kitB "NoneType" "bool" = some false := by decide +kernel
theorem kb_NoneType_int : kitB "NoneType" "int" = some false := by decide +kernel
theorem kb_NoneType_str : kitB "NoneType" "str" = some false := by decide +kernel
theorem kb_NoneType_dict : kitB "NoneType" "dict" = some false := by decide +kernel
theorem kb_bool_list : kitB "bool" "list" = some false := by decide +kernel
theorem kb_bool_tuple : kitB "bool" "tuple" = some false := by decide +kernel
theorem kb_bool_bool : kitB "bool" "bool" = some true := by decide +kernel
theorem kb_bool_int : kitB "bool" "int" = some true := by decide +kernel
theorem kb_bool_str : kitB "bool" "str" = some false := by decide +kernel
theorem kb_bool_dict : kitB "bool" "dict" = some false := by decide +kernel
theorem kb_int_list : kitB "int" "list" = some false := by decide +kernel
theorem kb_int_tuple : kitB "int" "tuple" = some false := by decide +kernel
theorem kb_int_bool : kitB "int" "bool" = some false := by decide +kernel
theorem kb_int_int : kitB "int" "int" = some true := by decide +kernel
theorem kb_int_str : kitB "int" "str" = some false := by decide +kernel
theorem kb_int_dict : kitB "int" "dict" = some false := by decide +kernel
theorem kb_str_list : kitB "str" "list" = some false := by decide +kernel
theorem kb_str_tuple : kitB "str" "tuple" = some false := by decide +kernel
theorem kb_str_bool : kitB "str" "bool" = some false := by decide +kernel
theorem kb_str_int : kitB "str" "int" = some false := by decide +kernel
theorem kb_str_str : kitB "str" "str" = some true := by decide +kernel
theorem kb_str_dict : kitB "str" "dict" = some false := by decide +kernel
theorem kb_list_list : kitB "list" "list" = some true := by decide +kernel
theorem kb_list_tuple : kitB "list" "tuple" = some false := by decide +kernel
theorem kb_list_bool : kitB "list" "bool" = some false := by decide +kernel
theorem kb_list_int : kitB "list" "int" = some false := by decide +kernel
theorem kb_list_str : kitB "list" "str" = some false := by decide +kernel
theorem kb_list_dict : kitB "list" "dict" = some false := by decide +kernel
theorem kb_tuple_list : kitB "tuple" "list" = some false := by decide +kernel
theorem kb_tuple_tuple : kitB "tuple" "tuple" = some true := by decide +kernel
theorem kb_tuple_bool : kitB "tuple" "bool" = some false := by decide +kernel
theorem kb_tuple_int : kitB "tuple" "int" = some false := by decide +kernel
theorem kb_tuple_str : kitB "tuple" "str" = some false := by decide +kernel
theorem kb_tuple_dict : kitB "tuple" "dict" = some false := by decide +kernel
theorem kb_dict_list : kitB "dict" "list" = some false := by decide +kernel
theorem kb_dict_tuple : kitB "dict" "tuple" = some false := by decide +kernel
theorem kb_dict_bool : kitB "dict" "bool" = some false := by decide +kernel
theorem kb_dict_int : kitB "dict" "int" = some false := by decide +kernel
theorem kb_dict_str : kitB "dict" "str" = some false := by decide +kernel
theorem kb_dict_dict : kitB "dict" "dict" = some true := by decide +kernel

theorem g_isi {K : PySem.W.Frag} {H : Hp} {Q : VK} {x : V} {a b : String} {r : Bool} (ty : TyX K H x (.type a)) (h : kitB a b = some r) (q : Q (.bl r) H) : rIsi K [x, .ty b] H Q := ⟨x, .ty b, .type a, .type b, r, rfl, .ty b, ty, kit_ty h, q⟩
/-! ### immutable and other data -/
mutual
inductive Da (H : Hp) : V → PyData → Prop
  | non : Da H .non .none
  | bl (b : Bool) : Da H (.bl b) (.bool b)
  | int (i : Int) : Da H (.int i) (.int i)
  | str (x : Str) : Da H (.str x) (.str x)
  | lst {a : Addr} {xs : List V} {ds : List PyData} : H a = some (.lst xs) → xs.length ≤ 1000000 → DaL H xs ds → Da H (.ref a) (.list ds)
  | tup {a : Addr} {xs : List V} {ds : List PyData} : H a = some (.tup xs) → xs.length ≤ 1000000 → DaL H xs ds → Da H (.ref a) (.tuple ds)
inductive DaL (H : Hp) : List V → List PyData → Prop
  | nil : DaL H [] []
  | cons {v : V} {vs : List V} {d : PyData} {ds : List PyData} : Da H v d → DaL H vs ds → DaL H (v :: vs) (d :: ds)
end
/-! how deep -/
mutual
def dp : PyData → Nat
  | .list ds => dpL ds + 1
  | .tuple ds => dpL ds + 1
  | _ => 0
def dpL : List PyData → Nat
  | [] => 0
  | d :: ds => max (dp d) (dpL ds)
end
/-! no list within -/
mutual
def imm : PyData → Bool
  | .list _ => false
  | .tuple ds => immL ds
  | _ => true
def immL : List PyData → Bool
  | [] => true
  | d :: ds => imm d && immL ds
end
theorem DaL.len {H : Hp} : ∀ {vs : List V} {ds : List PyData}, DaL H vs ds → vs.length = ds.length
  | _, _, .nil => rfl
  | _, _, .cons _ t => by rw [List.length_cons, List.length_cons, DaL.len t]
theorem DaL.get {H : Hp} : ∀ {vs : List V} {ds : List PyData} {i : Nat} {v : V}, DaL H vs ds → vs[i]? = some v → ∃ d, ds[i]? = some d ∧ Da H v d
  | _, _, _, _, .nil, e => by simp at e
  | _, _, 0, _, .cons r _, e => by simp at e; subst e; exact ⟨_, rfl, r⟩
  | _, _, i + 1, v, .cons _ t, e => by
    obtain ⟨u, h1, h2⟩ := DaL.get (i := i) (v := v) t (by simpa using e)
    exact ⟨u, by simpa using h1, h2⟩
theorem DaL.get' {H : Hp} : ∀ {vs : List V} {ds : List PyData} {i : Nat} {d : PyData}, DaL H vs ds → ds[i]? = some d → ∃ v, vs[i]? = some v ∧ Da H v d
  | _, _, _, _, .nil, e => by simp at e
  | _, _, 0, _, .cons r _, e => by simp at e; subst e; exact ⟨_, rfl, r⟩
  | _, _, i + 1, v, .cons _ t, e => by
    obtain ⟨u, h1, h2⟩ := DaL.get' (i := i) (d := v) t (by simpa using e)
    exact ⟨u, by simpa using h1, h2⟩
theorem DaL.append {H : Hp} : ∀ {vs ws : List V} {ds es : List PyData}, DaL H vs ds → DaL H ws es → DaL H (vs ++ ws) (ds ++ es)
  | _, _, _, _, .nil, s => s
  | _, _, _, _, .cons r t, s => .cons r (DaL.append t s)
theorem dpL_get : ∀ {ds : List PyData} {i : Nat} {d : PyData}, ds[i]? = some d → dp d ≤ dpL ds
  | [], _, _, e => by simp at e
  | a :: r, 0, d, e => by simp at e; subst e; exact Nat.le_max_left _ _
  | a :: r, i + 1, d, e => Nat.le_trans (dpL_get (ds := r) (i := i) (by simpa using e)) (Nat.le_max_right _ _)
mutual
theorem Da.fr {l : List Addr} {H H' : Hp} (f : Fr l H H') : ∀ (d : PyData) (v : V), Da H v d → imm d = true → Da H' v d
  | .none, _, h, _ => by cases h; exact .non
  | .bool b, _, h, _ => by cases h; exact .bl b
  | .int i, _, h, _ => by cases h; exact .int i
  | .str x, _, h, _ => by cases h; exact .str x
  | .list ds, _, _, i => by simp [imm] at i
  | .tuple ds, _, h, i => by
    cases h with
    | tup e z r => exact .tup (f.tup _ _ e) z (DaL.fr f ds _ r (by simpa [imm] using i))
  | .dict _, _, h, _ => by cases h
theorem DaL.fr {l : List Addr} {H H' : Hp} (f : Fr l H H') : ∀ (ds : List PyData) (vs : List V), DaL H vs ds → immL ds = true → DaL H' vs ds
  | [], _, h, _ => by cases h; exact .nil
  | d :: ds, _, h, i => by
    simp only [immL, Bool.and_eq_true] at i
    cases h with
    | cons r t => exact .cons (Da.fr f d _ r i.1) (DaL.fr f ds _ t i.2)
end
mutual
theorem Da.dp {K : PySem.W.Frag} {H : Hp} : ∀ (d : PyData) (v : V), Da H v d → Dp K H v d
  | .none, _, h => by cases h; exact .non
  | .bool b, _, h => by cases h; exact .bl b
  | .int i, _, h => by cases h; exact .int i
  | .str x, _, h => by cases h; exact .str x
  | .list ds, _, h => by
    cases h with
    | lst e _ r => exact .lst (SqL.of e) (DaL.dp ds _ r)
  | .tuple ds, _, h => by
    cases h with
    | tup e _ r => exact .tup (SqT.of e) (DaL.dp ds _ r)
  | .dict _, _, h => by cases h
theorem DaL.dp {K : PySem.W.Frag} {H : Hp} : ∀ (ds : List PyData) (vs : List V), DaL H vs ds → DpAll K H vs ds
  | [], _, h => by cases h; exact .nil
  | d :: ds, _, h => by
    cases h with
    | cons r t => exact .cons (Da.dp d _ r) (DaL.dp ds _ t)
end
theorem Da.frL {l : List Addr} {H H' : Hp} (f : Fr l H H') {d : PyData} {v : V} (h : Da H v d) (i : imm d = true) : Da H' v d := Da.fr f d v h i
theorem DaL.frL {l : List Addr} {H H' : Hp} (f : Fr l H H') {ds : List PyData} {vs : List V} (h : DaL H vs ds) (i : immL ds = true) : DaL H' vs ds := DaL.fr f ds vs h i
theorem immL_append : ∀ {ds es : List PyData}, immL (ds ++ es) = (immL ds && immL es)
  | [], _ => by simp [immL]
  | d :: ds, es => by simp [immL, immL_append (ds := ds), Bool.and_assoc]
theorem dpL_append : ∀ {ds es : List PyData}, dpL (ds ++ es) = max (dpL ds) (dpL es)
  | [], _ => by simp [dpL]
  | d :: ds, es => by simp [dpL, dpL_append (ds := ds), Nat.max_assoc]

/-! ### loops and comprehensions -/
section
variable {K : PySem.W.Frag} {σ : L2.St} {H H' : Hp} {Q : VK} {D : Ends} {te tl : TE} {tt : TT} {tb : TS} {g : TG} {wi : TI} {ta : TA} {a b : Addr} {xs ys : List V} {vs : List Nat} {J : It}
def ForGo (J : It) (g : TG) (tb : TS) (D : Ends) (σ : L2.St) (H1 : Hp) : Prop := ∃ W : Nat → Nat → L2.St → Hp → Prop, (∃ m, W 0 m σ H1) ∧ ∀ i m σ H, W i m σ H →
  (J.stop i H ∧ D.nx σ H) ∨ (J.go i H ∧ ∃ N : L2.St → Hp → Prop, (∀ σ' H', N σ' H' → ∃ m', m' < m ∧ W (i + 1) m' σ' H') ∧ ∀ x H', J.yld i H x H' → g x σ H' fun σ2 H2 => tb { D with nx := N, ct := N, bk := D.nx } σ2 H2)
theorem g_for (h : wi σ H (fun J H1 => ForGo J g tb D σ H1)) : tFor wi g tb D σ H := h
def LcGo (J : It) (g : TG) (tt : TT) (te : TE) (vs : List Nat) (σ : L2.St) (Q : VK) (H1 : Hp) : Prop := ∀ D, H1 D = none → ∃ W : Nat → Nat → Hp → Prop, (∃ m, W 0 m (upd H1 D (.lst []))) ∧ ∀ i m H, W i m H →
  (J.stop i H ∧ Q (.ref D) H) ∨ (J.go i H ∧ ∃ Nx : Hp → Prop, (∀ H', Nx H' → ∃ m', m' < m ∧ W (i + 1) m' H') ∧ ∀ x H', J.yld i H x H' → g x (wipe σ vs) H' fun σ2 H2 => wipe σ2 vs = wipe σ vs ∧ tt σ2 H2 fun b H3 =>
    if b = true then te σ2 H3 fun y H4 => ∃ acc, H4 D = some (.lst acc) ∧ acc.length < sizeLine ∧ Nx (upd H4 D (.lst (acc ++ [y]))) else Nx H3)
theorem g_lc (h : wi σ H (fun J H1 => LcGo J g tt te vs σ Q H1)) : tLc wi g tt te vs σ H Q := h
variable {R : It → Hp → Prop}
def rItL (K : PySem.W.Frag) (x : V) (H : Hp) (R : It → Hp → Prop) : Prop := ∃ a, x = .ref a ∧ (∃ xs, SqL K H a xs) ∧ R (Itl K a) H
def rItT (K : PySem.W.Frag) (x : V) (H : Hp) (R : It → Hp → Prop) : Prop := ∃ a, x = .ref a ∧ (∃ xs, SqT K H a xs) ∧ R (Itt K a) H
theorem g_iL (h : tl σ H (fun x H1 => rItL K x H1 R)) : iList K tl σ H R := h
theorem g_iT (h : tl σ H (fun x H1 => rItT K x H1 R)) : iTup K tl σ H R := h
theorem g_riL (hS : SqL K H a xs) (h : R (Itl K a) H) : rItL K (.ref a) H R := ⟨a, rfl, ⟨xs, hS⟩, h⟩
theorem g_riT (hS : SqT K H a xs) (h : R (Itt K a) H) : rItT K (.ref a) H R := ⟨a, rfl, ⟨xs, hS⟩, h⟩
def rIt1 (vs : List V) (H : Hp) (R : It → Hp → Prop) : Prop := ∃ j : Int, vs = [.int j] ∧ -(2 ^ 62) ≤ j ∧ j < 2 ^ 62 ∧ R (Itr 0 j.toNat) H
def rIt2 (vs : List V) (H : Hp) (R : It → Hp → Prop) : Prop := ∃ i j : Int, vs = [.int i, .int j] ∧ (-(2 ^ 62) ≤ i ∧ i < 2 ^ 62 ∧ -(2 ^ 62) ≤ j ∧ j < 2 ^ 62) ∧ R (Itr i (j - i).toNat) H
theorem g_i1 (h : ta σ H (fun vs H1 => rIt1 vs H1 R)) : iRng1 ta σ H R := h
theorem g_i2 (h : ta σ H (fun vs H1 => rIt2 vs H1 R)) : iRng2 ta σ H R := h
theorem g_ri1 {j : Int} (h1 : -(2 ^ 62) ≤ j ∧ j < 2 ^ 62) (h : R (Itr 0 j.toNat) H) : rIt1 [.int j] H R := ⟨j, rfl, h1.1, h1.2, h⟩
theorem g_ri2 {i j : Int} (h1 : -(2 ^ 62) ≤ i ∧ i < 2 ^ 62 ∧ -(2 ^ 62) ≤ j ∧ j < 2 ^ 62) (h : R (Itr i (j - i).toNat) H) : rIt2 [.int i, .int j] H R := ⟨i, j, rfl, h1, h⟩
/-- for over a list that stands -/
theorem f_list (Pv : Nat → L2.St → Hp → Prop) (h0 : Pv 0 σ H) (hl : ∀ i σ H, i ≤ xs.length → Pv i σ H → SqL K H a xs)
    (hs : ∀ i x σ H, xs[i]? = some x → Pv i σ H → g x σ H fun σ2 H2 => tb { D with nx := Pv (i + 1), ct := Pv (i + 1), bk := D.nx } σ2 H2) (hd : ∀ σ H, Pv xs.length σ H → D.nx σ H) : ForGo (Itl K a) g tb D σ H := for_list Pv h0 hl hs hd
theorem f_tup (Pv : Nat → L2.St → Hp → Prop) (h0 : Pv 0 σ H) (hl : ∀ i σ H, i ≤ xs.length → Pv i σ H → SqT K H a xs)
    (hs : ∀ i x σ H, xs[i]? = some x → Pv i σ H → g x σ H fun σ2 H2 => tb { D with nx := Pv (i + 1), ct := Pv (i + 1), bk := D.nx } σ2 H2) (hd : ∀ σ H, Pv xs.length σ H → D.nx σ H) : ForGo (Itt K a) g tb D σ H := for_tup Pv h0 hl hs hd
theorem f_range {lo : Int} {n : Nat} (Pv : Nat → L2.St → Hp → Prop) (h0 : Pv 0 σ H)
    (hs : ∀ i σ H, i < n → Pv i σ H → g (.int (lo + i)) σ H fun σ2 H2 => tb { D with nx := Pv (i + 1), ct := Pv (i + 1), bk := D.nx } σ2 H2) (hd : ∀ σ H, Pv n σ H → D.nx σ H) : ForGo (Itr lo n) g tb D σ H := for_range Pv h0 hs hd
/-! a comprehension: what its turn is to reach -/
def lcY (Dl : Addr) (Pv : Nat → List V → Hp → Prop) (i : Nat) (y : V) (H4 : Hp) : Prop := ∃ acc, H4 Dl = some (.lst acc) ∧ acc.length < sizeLine ∧ ∃ acc', upd H4 Dl (.lst (acc ++ [y])) Dl = some (.lst acc') ∧ Pv (i + 1) acc' (upd H4 Dl (.lst (acc ++ [y])))
def lcN (Dl : Addr) (Pv : Nat → List V → Hp → Prop) (i : Nat) (H3 : Hp) : Prop := ∃ acc, H3 Dl = some (.lst acc) ∧ Pv (i + 1) acc H3
theorem lcY_of {Dl : Addr} {Pv : Nat → List V → Hp → Prop} {i : Nat} {y : V} {acc : List V} (h : H Dl = some (.lst acc)) (hl : acc.length < sizeLine) (k : ∀ H5, Fr [Dl] H H5 → H5 Dl = some (.lst (acc ++ [y])) → Pv (i + 1) (acc ++ [y]) H5) : lcY Dl Pv i y H :=
  ⟨acc, h, hl, _, upd_same, k _ (Fr.put h trivial) upd_same⟩
theorem lcN_of {Dl : Addr} {Pv : Nat → List V → Hp → Prop} {i : Nat} {acc : List V} (h : H Dl = some (.lst acc)) (k : Pv (i + 1) acc H) : lcN Dl Pv i H := ⟨acc, h, k⟩
abbrev lcStep (g : TG) (tt : TT) (te : TE) (vs : List Nat) (σ : L2.St) (Dl : Addr) (Pv : Nat → List V → Hp → Prop) (i : Nat) (x : V) (H' : Hp) : Prop :=
  g x (wipe σ vs) H' fun σ2 H2 => wipe σ2 vs = wipe σ vs ∧ tt σ2 H2 fun b H3 => if b = true then te σ2 H3 fun y H4 => lcY Dl Pv i y H4 else lcN Dl Pv i H3
theorem l_list (k : ∀ Dl H0, H Dl = none → Fr [] H H0 → H0 Dl = some (.lst []) → ∃ Pv : Nat → List V → Hp → Prop, Pv 0 [] H0 ∧ (∀ i acc H', Pv i acc H' → SqL K H' a xs) ∧
    (∀ i x acc H', xs[i]? = some x → H' Dl = some (.lst acc) → Pv i acc H' → lcStep g tt te vs σ Dl Pv i x H') ∧ (∀ acc H', H' Dl = some (.lst acc) → Pv xs.length acc H' → Q (.ref Dl) H')) : LcGo (Itl K a) g tt te vs σ Q H := by
  intro Dl hD
  obtain ⟨Pv, p0, pl, ps, pd⟩ := k Dl _ hD (Fr.new hD) upd_same
  exact lc_list (fun i H' => ∃ acc, H' Dl = some (.lst acc) ∧ Pv i acc H') ⟨[], upd_same, p0⟩ (fun i H' _ ⟨acc, _, p⟩ => pl i acc H' p) (fun i x H' hx ⟨acc, hd, p⟩ => ps i x acc H' hx hd p) (fun H' ⟨acc, hd, p⟩ => pd acc H' hd p)
theorem l_tup (k : ∀ Dl H0, H Dl = none → Fr [] H H0 → H0 Dl = some (.lst []) → ∃ Pv : Nat → List V → Hp → Prop, Pv 0 [] H0 ∧ (∀ i acc H', Pv i acc H' → SqT K H' a xs) ∧
    (∀ i x acc H', xs[i]? = some x → H' Dl = some (.lst acc) → Pv i acc H' → lcStep g tt te vs σ Dl Pv i x H') ∧ (∀ acc H', H' Dl = some (.lst acc) → Pv xs.length acc H' → Q (.ref Dl) H')) : LcGo (Itt K a) g tt te vs σ Q H := by
  intro Dl hD
  obtain ⟨Pv, p0, pl, ps, pd⟩ := k Dl _ hD (Fr.new hD) upd_same
  exact lc_tup (fun i H' => ∃ acc, H' Dl = some (.lst acc) ∧ Pv i acc H') ⟨[], upd_same, p0⟩ (fun i H' _ ⟨acc, _, p⟩ => pl i acc H' p) (fun i x H' hx ⟨acc, hd, p⟩ => ps i x acc H' hx hd p) (fun H' ⟨acc, hd, p⟩ => pd acc H' hd p)
theorem l_range {lo : Int} {n : Nat} (k : ∀ Dl H0, H Dl = none → Fr [] H H0 → H0 Dl = some (.lst []) → ∃ Pv : Nat → List V → Hp → Prop, Pv 0 [] H0 ∧
    (∀ i acc H', i < n → H' Dl = some (.lst acc) → Pv i acc H' → lcStep g tt te vs σ Dl Pv i (.int (lo + i)) H') ∧ (∀ acc H', H' Dl = some (.lst acc) → Pv n acc H' → Q (.ref Dl) H')) : LcGo (Itr lo n) g tt te vs σ Q H := by
  intro Dl hD
  obtain ⟨Pv, p0, ps, pd⟩ := k Dl _ hD (Fr.new hD) upd_same
  exact lc_range (fun i H' => ∃ acc, H' Dl = some (.lst acc) ∧ Pv i acc H') ⟨[], upd_same, p0⟩ (fun i H' hi ⟨acc, hd, p⟩ => ps i acc H' hi hd p) (fun H' ⟨acc, hd, p⟩ => pd acc H' hd p)
theorem g_and2 {A B : Prop} (a : A) (b : B) : A ∧ B := ⟨a, b⟩
theorem g_yes {QB : Bool → Hp → Prop} (h : QB true H) : tYes σ H QB := h
/-- a name's slot, ahead of a known one -/
theorem g_tr {x : V} {k : Bool} {QB : Bool → Hp → Prop} (h : TruV K x H k) (q : QB k H) : ∃ k, TruV K x H k ∧ QB k H := ⟨k, h, q⟩
theorem g_ttr {QB : Bool → Hp → Prop} (h : te σ H (fun x H' => ∃ k, TruV K x H' k ∧ QB k H')) : tTr K te σ H QB := h
end
theorem szM {n : Nat} (h : n ≤ 1000000) : n < sizeLine := Nat.lt_of_le_of_lt h (by decide)
theorem szL {n : Nat} (h : n ≤ 1000000) : n ≤ sizeLine := Nat.le_of_lt (szM h)
theorem getI {ns : List Int} {i : Nat} {x : V} (h : (ns.map V.int)[i]? = some x) : ∃ n, x = .int n ∧ ns[i]? = some n ∧ n ∈ ns := by
  rw [List.getElem?_map] at h
  cases e : ns[i]? with
  | none => rw [e] at h; cases h
  | some n => rw [e] at h; exact ⟨n, (Option.some.inj h).symm, rfl, List.mem_of_getElem? e⟩
theorem atI_of {α : Type} {xs : List α} {z : Int} (h0 : 0 ≤ z) (h : z < xs.length) : ∃ v, atI xs z = some v ∧ xs[z.toNat]? = some v := by
  have hk : z.toNat < xs.length := by omega
  have e : ((z.toNat : Nat) : Int) = z := by omega
  have q : xs[z.toNat]? = some xs[z.toNat] := List.getElem?_eq_getElem hk
  have w := atI_nat q
  rw [e] at w
  exact ⟨_, w, q⟩
theorem atI_mem {α : Type} {xs : List α} {z : Int} (h0 : 0 ≤ z) (h : z < xs.length) : ∃ v, atI xs z = some v ∧ v ∈ xs := by
  obtain ⟨v, a, b⟩ := atI_of h0 h
  exact ⟨v, a, List.mem_of_getElem? b⟩
theorem take_more {α : Type} : ∀ {l : List α} {i : Nat} {x : α}, l[i]? = some x → l.take (i + 1) = l.take i ++ [x]
  | [], i, x, h => by simp at h
  | a :: l, 0, x, h => by
    have e : a = x := Option.some.inj h
    subst e
    rfl
  | a :: l, i + 1, x, h => by
    have ih := take_more (l := l) (i := i) (x := x) h
    show a :: l.take (i + 1) = a :: l.take i ++ [x]
    rw [ih]
    rfl
theorem filter_more {α : Type} {l : List α} {i : Nat} {x : α} {f : α → Bool} (h : l[i]? = some x) : (l.take (i + 1)).filter f = (l.take i).filter f ++ (if f x = true then [x] else []) := by
  rw [take_more h, List.filter_append]
  congr 1
  by_cases q : f x = true
  · simp [q]
  · simp [q]
theorem Da.tup1 {H : Hp} {v : V} {ds : List PyData} (h : Da H v (.tuple ds)) : ∃ a xs, v = .ref a ∧ H a = some (.tup xs) ∧ xs.length ≤ 1000000 ∧ DaL H xs ds := by
  cases h with
  | tup e z r => exact ⟨_, _, rfl, e, z, r⟩
theorem Da.lst1 {H : Hp} {v : V} {ds : List PyData} (h : Da H v (.list ds)) : ∃ a xs, v = .ref a ∧ H a = some (.lst xs) ∧ xs.length ≤ 1000000 ∧ DaL H xs ds := by
  cases h with
  | lst e z r => exact ⟨_, _, rfl, e, z, r⟩
theorem DaL.two {H : Hp} {xs : List V} {d e : PyData} (h : DaL H xs [d, e]) : ∃ x y, xs = [x, y] ∧ Da H x d ∧ Da H y e := by
  cases h with
  | cons a t => cases t with
    | cons b u => cases u; exact ⟨_, _, rfl, a, b⟩
theorem DaL.three {H : Hp} {xs : List V} {d e f : PyData} (h : DaL H xs [d, e, f]) : ∃ x y z, xs = [x, y, z] ∧ Da H x d ∧ Da H y e ∧ Da H z f := by
  cases h with
  | cons a t => cases t with
    | cons b u => cases u with
      | cons c u => cases u; exact ⟨_, _, _, rfl, a, b, c⟩
theorem Da.int1 {H : Hp} {v : V} {i : Int} (h : Da H v (.int i)) : v = .int i := by cases h; rfl
theorem Da.str1 {H : Hp} {v : V} {i : Str} (h : Da H v (.str i)) : v = .str i := by cases h; rfl
theorem Da.bl1 {H : Hp} {v : V} {i : Bool} (h : Da H v (.bool i)) : v = .bl i := by cases h; rfl
theorem Da.non1 {H : Hp} {v : V} (h : Da H v .none) : v = .non := by cases h; rfl
theorem DaL.one' {H : Hp} {v : V} {d : PyData} (h : Da H v d) : DaL H [v] [d] := .cons h .nil
theorem immL_get : ∀ {ds : List PyData} {i : Nat} {d : PyData}, immL ds = true → ds[i]? = some d → imm d = true
  | [], _, _, _, e => by simp at e
  | a :: r, 0, d, h, e => by simp at e; subst e; simp [immL] at h; exact h.1
  | a :: r, i + 1, d, h, e => by simp [immL] at h; exact immL_get (ds := r) (i := i) h.2 (by simpa using e)
theorem immL_of : ∀ {ds : List PyData}, (∀ d ∈ ds, imm d = true) → immL ds = true
  | [], _ => rfl
  | a :: r, h => by simp [immL, h a List.mem_cons_self, immL_of (ds := r) fun d hd => h d (List.mem_cons_of_mem _ hd)]
theorem imm_of : ∀ {ds : List PyData}, immL ds = true → ∀ d ∈ ds, imm d = true
  | [], _, d, hd => by cases hd
  | a :: r, h, d, hd => by
    simp only [immL, Bool.and_eq_true] at h
    rcases List.mem_cons.mp hd with e | e
    · rw [e]; exact h.1
    · exact imm_of h.2 d e
theorem dpL_mem : ∀ {ds : List PyData} {d : PyData}, d ∈ ds → dp d ≤ dpL ds
  | [], _, h => by cases h
  | a :: r, d, h => by
    rcases List.mem_cons.mp h with e | e
    · rw [e]; exact Nat.le_max_left _ _
    · exact Nat.le_trans (dpL_mem e) (Nat.le_max_right _ _)
theorem dpL_le {n : Nat} : ∀ {ds : List PyData}, (∀ d ∈ ds, dp d ≤ n) → dpL ds ≤ n
  | [], _ => Nat.zero_le _
  | a :: r, h => Nat.max_le.mpr ⟨h a List.mem_cons_self, dpL_le fun d hd => h d (List.mem_cons_of_mem _ hd)⟩
theorem DaL.ints {H : Hp} : ∀ {xs : List V} {r : List Int}, DaL H xs (r.map .int) → xs = r.map V.int
  | [], [], _ => rfl
  | x :: xs, n :: r, h => by
    cases h with
    | cons a t => rw [a.int1, DaL.ints t]; rfl
  | [], _ :: _, h => by cases h
  | _ :: _, [], h => by cases h
theorem DaL.ofInts {H : Hp} : ∀ (r : List Int), DaL H (r.map V.int) (r.map .int)
  | [] => .nil
  | n :: r => .cons (.int n) (DaL.ofInts r)
theorem DaL.set {H : Hp} : ∀ {vs : List V} {ds : List PyData} {i : Nat} {v : V} {d : PyData}, DaL H vs ds → Da H v d → DaL H (vs.set i v) (ds.set i d)
  | _, _, _, _, _, .nil, _ => .nil
  | _, _, 0, _, _, .cons _ t, q => .cons q t
  | _, _, i + 1, _, _, .cons r t, q => .cons r (DaL.set (i := i) t q)
/-! slices, pop at -/
section
variable {K : PySem.W.Frag} {σ : L2.St} {H H' : Hp} {Q : VK} {te : TE} {tl th : TO} {p : Addr} {xs : List V} {lo hi : Option Int}
theorem g_sl {r : V → Option Int → Option Int → Hp → VK → Prop} (h : te σ H fun x H1 => tl σ H1 fun l H2 => th σ H2 fun u H3 => r x l u H3 Q) : tSl r te tl th σ H Q := h
theorem g_noP {QO : Option Int → Hp → Prop} (h : QO none H) : tNoPart σ H QO := h
def rPart (x : V) (H : Hp) (QO : Option Int → Hp → Prop) : Prop := ∃ i, x = .int i ∧ QO (some i) H
theorem g_part {QO : Option Int → Hp → Prop} (h : te σ H fun x H1 => rPart x H1 QO) : tPart te σ H QO := h
theorem g_rpart {i : Int} {QO : Option Int → Hp → Prop} (h : QO (some i) H) : rPart (.int i) H QO := ⟨i, rfl, h⟩
theorem g_slL (h : SqL K H p xs) (q : ∀ l H', H l = none → Fr [] H H' → H' l = some (.lst (cutV xs lo hi)) → Q (.ref l) H') : rSlL K (.ref p) lo hi H Q := ⟨p, xs, rfl, h, fun l hl => q l _ hl (Fr.new hl) upd_same⟩
theorem g_popAt {i : Int} {y : V} (h : H p = some (.lst xs)) (hl : xs.length ≤ 1000000) (h0 : 0 ≤ i) (hy : xs[i.toNat]? = some y) (q : ∀ H', Fr [p] H H' → H' p = some (.lst (xs.eraseIdx i.toNat)) → Q y H') : rPopAt (.ref p) [.int i] H Q := by
  have hlt := (List.getElem?_eq_some_iff.mp hy).1
  refine ⟨p, xs, i, i.toNat, y, rfl, rfl, h, by omega, by omega, ?_, hy, q _ (Fr.put h trivial) upd_same⟩
  refine (ixN_seq (i := i) ?_).1
  unfold ixN
  rw [if_pos h0, if_pos (by omega)]
end
theorem cut_take {xs : List V} {n : Nat} (h : n ≤ xs.length) : cutV xs none (some (n : Int)) = xs.take n := by
  unfold cutV
  rw [HT.sIx_none, HT.sIx_nat, Nat.min_eq_left h, Nat.sub_zero, List.drop_zero]
theorem DaL.take {H : Hp} : ∀ {xs : List V} {ds : List PyData} (n : Nat), DaL H xs ds → DaL H (xs.take n) (ds.take n)
  | _, _, 0, _ => .nil
  | _, _, n + 1, .nil => .nil
  | _, _, n + 1, .cons a t => .cons a (DaL.take n t)
theorem DaL.erase {H : Hp} : ∀ {xs : List V} {ds : List PyData} (n : Nat), DaL H xs ds → DaL H (xs.eraseIdx n) (ds.eraseIdx n)
  | _, _, _, .nil => .nil
  | _, _, 0, .cons _ t => t
  | _, _, n + 1, .cons a t => .cons a (DaL.erase n t)
/-- a statement that is never reached -/
def tDead : TS := fun _ _ _ => False
theorem ps_dead {X : Cx} {st : Stmt} : PS X st tDead := ⟨fun _ _ _ _ _ _ h => h.elim⟩
end Lw

namespace Lw
open PySem L2
/-! ### tables: plain lists of keys and values -/
section
variable {κ α : Type} [DecidableEq κ]
def lk (m : List (κ × α)) (k : κ) : Option α := (m.find? fun e => decide (e.1 = k)).map (·.2)
def pt (m : List (κ × α)) (k : κ) (v : α) : List (κ × α) := if (m.any fun e => decide (e.1 = k)) = true then m.map (fun e => if e.1 = k then (e.1, v) else e) else m ++ [(k, v)]
def dr (m : List (κ × α)) (k : κ) : List (κ × α) := m.filter fun e => decide (e.1 ≠ k)
/-- a table as the layer's pairs -/
def enD {κ' : Type} (f : κ → κ') (g : α → V) (m : List (κ × α)) : List (κ' × V) := m.map fun e => (f e.1, g e.2)
variable {κ' : Type} [DecidableEq κ'] {f : κ → κ'} {g : α → V}
theorem enD_dec (inj : ∀ a b, f a = f b → a = b) (a b : κ) : decide (f a = f b) = decide (a = b) := by
  by_cases h : a = b
  · subst h; simp
  · rw [decide_eq_false h, decide_eq_false fun q => h (inj _ _ q)]
theorem enD_val (inj : ∀ a b, f a = f b → a = b) (m : List (κ × α)) (k : κ) : valV (enD f g m) (f k) = (lk m k).map g := by
  induction m with
  | nil => rfl
  | cons e r ih =>
    by_cases h : e.1 = k
    · have h1 : valV (enD f g (e :: r)) (f k) = some (g e.2) := valV_pos (p := (f e.1, g e.2)) (by rw [h])
      rw [h1]; simp [lk, List.find?_cons, h]
    · have h1 : valV (enD f g (e :: r)) (f k) = valV (enD f g r) (f k) := valV_neg (p := (f e.1, g e.2)) (fun q => h (inj _ _ q))
      rw [h1, ih]; simp [lk, List.find?_cons, h]
theorem enD_any (inj : ∀ a b, f a = f b → a = b) (m : List (κ × α)) (k : κ) : ((enD f g m).any fun e => decide (e.1 = f k)) = m.any fun e => decide (e.1 = k) := by
  induction m with
  | nil => rfl
  | cons e r ih =>
    show (decide (f e.1 = f k) || (enD f g r).any fun e => decide (e.1 = f k)) = _
    rw [ih, enD_dec inj]
    rfl
theorem enD_put (inj : ∀ a b, f a = f b → a = b) (m : List (κ × α)) (k : κ) (v : α) : putK (enD f g m) (f k) (g v) = enD f g (pt m k v) := by
  unfold putK pt
  rw [enD_any inj]
  by_cases h : (m.any fun e => decide (e.1 = k)) = true
  · rw [if_pos h, if_pos h]
    unfold enD
    rw [List.map_map, List.map_map]
    refine List.map_congr_left fun e _ => ?_
    show (if f e.1 = f k then (f e.1, g v) else (f e.1, g e.2)) = _
    by_cases q : e.1 = k
    · simp [q]
    · rw [if_neg fun z => q (inj _ _ z)]; simp [q]
  · rw [if_neg h, if_neg h]
    unfold enD
    rw [List.map_append]
    rfl
theorem enD_drop (inj : ∀ a b, f a = f b → a = b) (m : List (κ × α)) (k : κ) : dropK (enD f g m) (f k) = enD f g (dr m k) := by
  unfold dropK dr enD
  rw [List.filter_map]
  congr 1
  refine List.filter_congr fun e _ => ?_
  show decide (f e.1 ≠ f k) = decide (e.1 ≠ k)
  by_cases h : e.1 = k
  · simp [h]
  · have : f e.1 ≠ f k := fun q => h (inj _ _ q)
    simp [h, this]
theorem enD_len (m : List (κ × α)) : (enD f g m).length = m.length := by unfold enD; rw [List.length_map]
theorem enD_get {m : List (κ × α)} {i : Nat} {k : κ'} {v : V} (h : (enD f g m)[i]? = some (k, v)) : ∃ e, m[i]? = some e ∧ k = f e.1 ∧ v = g e.2 := by
  unfold enD at h
  rw [List.getElem?_map] at h
  cases q : m[i]? with
  | none => rw [q] at h; cases h
  | some e => rw [q] at h; cases h; exact ⟨e, rfl, rfl, rfl⟩
theorem lk_pt (m : List (κ × α)) (k j : κ) (v : α) : lk (pt m k v) j = if j = k then some v else lk m j := by
  have h := enD_put (f := fun k : κ => k) (g := fun _ : α => V.non) (fun _ _ q => q) m k v
  unfold pt
  induction m with
  | nil =>
    by_cases e : j = k
    · simp [lk, e]
    · have : ¬ k = j := fun q => e q.symm
      simp [lk, e, this]
  | cons e r ih =>
    by_cases hk : e.1 = k
    · have ha : ((e :: r).any fun e => decide (e.1 = k)) = true := by simp [hk]
      rw [if_pos ha]
      by_cases hj : j = k
      · rw [if_pos hj]; simp [lk, List.find?_cons, hk, hj]
      · rw [if_neg hj]
        have hk2 : ¬ k = j := fun q => hj q.symm
        have : ∀ r : List (κ × α), lk (r.map fun e => if e.1 = k then (e.1, v) else e) j = lk r j := by
          intro r
          induction r with
          | nil => rfl
          | cons a t ih2 =>
            by_cases ha : a.1 = k
            · have h1 : ¬ a.1 = j := fun q => hj (q.symm.trans ha)
              simp only [List.map_cons, lk, List.find?_cons, if_pos ha, decide_eq_false h1]
              exact ih2
            · by_cases h1 : a.1 = j
              · simp only [List.map_cons, lk, List.find?_cons, if_neg ha, decide_eq_true h1]
              · simp only [List.map_cons, lk, List.find?_cons, if_neg ha, decide_eq_false h1]
                exact ih2
        exact this (e :: r)
    · have ha : ((e :: r).any fun e => decide (e.1 = k)) = r.any fun e => decide (e.1 = k) := by simp [hk]
      rw [ha]
      have ih' := ih (enD_put (f := fun k : κ => k) (g := fun _ : α => V.non) (fun _ _ q => q) r k v)
      by_cases hb : (r.any fun e => decide (e.1 = k)) = true
      · rw [if_pos hb] at ih' ⊢
        by_cases h1 : e.1 = j
        · have h2 : ¬ j = k := fun q => hk (h1.trans q)
          simp [lk, List.find?_cons, hk, h1, h2]
        · simp only [List.map_cons, if_neg hk, lk, List.find?_cons, decide_eq_false h1] at ih' ⊢
          exact ih'
      · rw [if_neg hb] at ih' ⊢
        by_cases h1 : e.1 = j
        · have h2 : ¬ j = k := fun q => hk (h1.trans q)
          simp [lk, List.find?_cons, h1, h2]
        · simp only [List.cons_append, lk, List.find?_cons, decide_eq_false h1] at ih' ⊢
          exact ih'
end
/-! ### readings of dicts -/
section
variable {K : PySem.W.Frag} {σ : L2.St} {H H' : Hp} {Q : VK} {D : Ends} {td ty te tv tx : TE} {tt : TT} {tb t : TS} {g : TG} {a b d q : Addr} {o : Obj} {kvs : List (List Key × V)} {k : List Key} {v x y z : V} {vs : List Nat} {R : It → Hp → Prop} {as : TA}
/-- may be read as a dict with tuple keys -/
abbrev RdT (H : Hp) (a : Addr) (kvs : List (List Key × V)) : Prop := Rd H a (.dT kvs)
def rDG (x y : V) (H : Hp) (Q : VK) : Prop := ∃ a v, x = .ref a ∧ DGet H a y (some v) ∧ Q v H
theorem g_dget (h : td σ H fun x H1 => ty σ H1 fun y H2 => rDG x y H2 Q) : tDGet td ty σ H Q := h
theorem g_rdg (h : Rd H a (.dT kvs)) (e : H b = some (.tup (k.map kV))) (l : valV kvs k = some v) (c : Q v H) : rDG (.ref a) (.ref b) H Q := ⟨a, v, rfl, .inr ⟨kvs, k, b, h, rfl, e, l.symm⟩, c⟩
def rDI (y x : V) (H : Hp) (Q : VK) : Prop := ∃ a o, x = .ref a ∧ DGet H a y o ∧ Q (.bl o.isSome) H
def rDNI (y x : V) (H : Hp) (Q : VK) : Prop := ∃ a o, x = .ref a ∧ DGet H a y o ∧ Q (.bl (!o.isSome)) H
theorem g_din (h : ty σ H fun y H1 => td σ H1 fun x H2 => rDI y x H2 Q) : tDIn ty td σ H Q := h
theorem g_dnin (h : ty σ H fun y H1 => td σ H1 fun x H2 => rDNI y x H2 Q) : tDNotIn ty td σ H Q := h
theorem g_rdi (h : Rd H a (.dT kvs)) (e : H b = some (.tup (k.map kV))) (c : Q (.bl (valV kvs k).isSome) H) : rDI (.ref b) (.ref a) H Q := ⟨a, _, rfl, .inr ⟨kvs, k, b, h, rfl, e, rfl⟩, c⟩
theorem g_rdni (h : Rd H a (.dT kvs)) (e : H b = some (.tup (k.map kV))) (c : Q (.bl (!(valV kvs k).isSome)) H) : rDNI (.ref b) (.ref a) H Q := ⟨a, _, rfl, .inr ⟨kvs, k, b, h, rfl, e, rfl⟩, c⟩
def rDP (x y v : V) (H : Hp) (P : Hp → Prop) : Prop := ∃ a H4, x = .ref a ∧ DPut H a y v H4 ∧ P H4
theorem g_dput (h : tv σ H fun v H1 => td σ H1 fun x H2 => ty σ H2 fun y H3 => rDP x y v H3 fun H4 => D.nx σ H4) : sDPut td ty tv D σ H := h
theorem g_rdp {P : Hp → Prop} (h : H a = some (.dT kvs)) (e : H b = some (.tup (k.map kV))) (hl : kvs.length < sizeLine) (c : ∀ H', Fr [a] H H' → H' a = some (.dT (putK kvs k v)) → P H') : rDP (.ref a) (.ref b) v H P :=
  ⟨a, _, rfl, .inr ⟨kvs, k, b, h, rfl, e, hl, rfl⟩, c _ (Fr.put h trivial) upd_same⟩
def rDG2 (x : V) (H : Hp) (P : Addr → Prop) : Prop := ∃ a, x = .ref a ∧ IsD H a ∧ P a
def rDO (a : Addr) (y z : V) (H : Hp) (Q : VK) : Prop := ∃ o, DGet H a y o ∧ Q (o.getD z) H
theorem g_dget2 (h : td σ H fun x H1 => rDG2 x H1 fun a => ty σ H1 fun y H2 => tx σ H2 fun z H3 => rDO a y z H3 Q) : tDGet2 td ty tx σ H Q := h
theorem g_dget1 (h : td σ H fun x H1 => rDG2 x H1 fun a => ty σ H1 fun y H2 => rDO a y .non H2 Q) : tDGet1 td ty σ H Q := h
theorem g_rdg2 {P : Addr → Prop} (h : Rd H a (.dT kvs)) (c : P a) : rDG2 (.ref a) H P := ⟨a, rfl, .inr ⟨kvs, h⟩, c⟩
theorem g_dgo (h : Rd H a (.dT kvs)) (e : H b = some (.tup (k.map kV))) (c : Q (((valV kvs k)).getD z) H) : rDO a (.ref b) z H Q := ⟨_, .inr ⟨kvs, k, b, h, rfl, e, rfl⟩, c⟩
theorem g_dnew (c : ∀ p H', H p = none → Fr [] H H' → H' p = some (.dT []) → Q (.ref p) H') : tDNewT σ H Q := fun p hp => c p _ hp (Fr.new hp) upd_same
theorem g_dnewK (c : ∀ p H', H p = none → Fr [] H H' → H' p = some (.dK []) → Q (.ref p) H') : tDNewK σ H Q := fun p hp => c p _ hp (Fr.new hp) upd_same
/-! a walk over a dict, which is locked meanwhile -/
def rUl (d : Addr) (od : Obj) (u : HO) (H : Hp) (P : Hp → Prop) : Prop := H d = some (.frz od u) ∧ P (upd H d u)
theorem g_unl {u : HO} {P : Hp → Prop} (h : H d = some (.frz o u)) (c : ∀ H', Fr [d] H H' → H' d = some u → P H') : rUl d o u H P := ⟨h, c _ (Fr.put h trivial) upd_same⟩
theorem g_lock {u : HO} (h : H d = some u) (m : Mut (some u)) (nt : notTup u) (c : ∀ od H0, Fr [d] H H0 → H0 d = some (.frz od u) → t ⟨fun σ' H' => rUl d od u H' fun H2 => D.nx σ' H2, fun v H' => rUl d od u H' fun H2 => D.rt v H2,
    fun σ' H' => rUl d od u H' fun H2 => D.bk σ' H2, fun σ' H' => rUl d od u H' fun H2 => D.ct σ' H2⟩ σ H0) : tLock t D σ H := ⟨d, u, h, m, fun od => c od _ (Fr.put h nt) upd_same⟩
theorem g_lockE {u : HO} (h : H d = some u) (m : Mut (some u)) (nt : notTup u) (c : ∀ od H0, Fr [d] H H0 → H0 d = some (.frz od u) → te σ H0 fun v H' => rUl d od u H' fun H2 => Q v H2) : tLockE te σ H Q := ⟨d, u, h, m, fun od => c od _ (Fr.put h nt) upd_same⟩
def rKy (x : V) (H : Hp) (R : It → Hp → Prop) : Prop := ∃ d o, x = .ref d ∧ ((∃ kvs, H d = some (.frz o (.dK kvs)) ∧ R (Itk d o kvs) H) ∨ ∃ kvs, H d = some (.frz o (.dT kvs)) ∧ R (Itkt d o kvs) H)
theorem g_iK (h : td σ H fun x H1 => rKy x H1 R) : iKeys td σ H R := h
theorem g_rkt (h : H d = some (.frz o (.dT kvs))) (c : R (Itkt d o kvs) H) : rKy (.ref d) H R := ⟨d, o, rfl, .inr ⟨kvs, h, c⟩⟩
theorem f_keysT (Pv : Nat → L2.St → Hp → Prop) (h0 : Pv 0 σ H) (hl : ∀ i σ H, i ≤ kvs.length → Pv i σ H → H d = some (.frz o (.dT kvs)))
    (hs : ∀ i k v q σ H, kvs[i]? = some (k, v) → H q = some (.tup (k.map kV)) → Pv i σ H → g (.ref q) σ H fun σ2 H2 => tb { D with nx := Pv (i + 1), ct := Pv (i + 1), bk := D.nx } σ2 H2) (hd : ∀ σ H, Pv kvs.length σ H → D.nx σ H) : ForGo (Itkt d o kvs) g tb D σ H :=
  for_it walk_keysT Pv h0 hl (fun i x σ H H' hi p y => by obtain ⟨rfl, k, v, q, h1, rfl, h3⟩ := y; exact hs i k v q σ _ h1 h3 p) hd
theorem l_keysT (c : ∀ Dl H0, H Dl = none → Fr [] H H0 → H0 Dl = some (.lst []) → ∃ Pv : Nat → List V → Hp → Prop, Pv 0 [] H0 ∧ (∀ i acc H', Pv i acc H' → H' d = some (.frz o (.dT kvs))) ∧
    (∀ i k v q acc H', kvs[i]? = some (k, v) → H' q = some (.tup (k.map kV)) → H' Dl = some (.lst acc) → Pv i acc H' → lcStep g tt te vs σ Dl Pv i (.ref q) H') ∧ (∀ acc H', H' Dl = some (.lst acc) → Pv kvs.length acc H' → Q (.ref Dl) H')) : LcGo (Itkt d o kvs) g tt te vs σ Q H := by
  intro Dl hD
  obtain ⟨Pv, p0, pl, ps, pd⟩ := c Dl _ hD (Fr.new hD) upd_same
  exact lc_it walk_keysT (fun i H' => ∃ acc, H' Dl = some (.lst acc) ∧ Pv i acc H') ⟨[], upd_same, p0⟩ (fun i H' _ ⟨acc, _, p⟩ => pl i acc H' p) (fun i x H1 H' hi ⟨acc, hd, p⟩ y => by obtain ⟨rfl, k, v, q, h1, rfl, h3⟩ := y; exact ps i k v q acc _ h1 h3 hd p) (fun H' ⟨acc, hd, p⟩ => pd acc H' hd p)
/-! targets that are tuples -/
def rGt (K : PySem.W.Frag) (n : Nat) (t : TGs) (v : V) (σ : L2.St) (H : Hp) (P : L2.St → Hp → Prop) : Prop := ∃ a xs, v = .ref a ∧ SqT K H a xs ∧ xs.length = n ∧ t xs σ H P
theorem g_gtup {n : Nat} {t : TGs} {P : L2.St → Hp → Prop} {xs : List V} (h : SqT K H a xs) (hl : xs.length = n) (c : t xs σ H P) : gTup K n t (.ref a) σ H P := ⟨a, xs, rfl, h, hl, c⟩
theorem g_gcons {t : TG} {u : TGs} {P : L2.St → Hp → Prop} {r : List V} (c : t v σ H fun σ' H' => u r σ' H' P) : gCons t u (v :: r) σ H P := ⟨v, r, rfl, c⟩
theorem g_gnil {P : L2.St → Hp → Prop} (c : P σ H) : gNil [] σ H P := ⟨rfl, c⟩
/-! enumerate, zip: a new pair a turn -/
def rEn (K : PySem.W.Frag) (vs : List V) (H : Hp) (R : It → Hp → Prop) : Prop := ∃ a xs, vs = [.ref a] ∧ SqL K H a xs ∧ R (Ite K a) H
theorem g_iE (h : as σ H fun vs H1 => rEn K vs H1 R) : iEnum K as σ H R := h
theorem g_ren {xs : List V} (h : SqL K H a xs) (c : R (Ite K a) H) : rEn K [.ref a] H R := ⟨a, xs, rfl, h, c⟩
theorem f_enum {xs : List V} (Pv : Nat → L2.St → Hp → Prop) (h0 : Pv 0 σ H) (hl : ∀ i σ H, i ≤ xs.length → Pv i σ H → SqL K H a xs)
    (hs : ∀ i x T σ H H', xs[i]? = some x → Pv i σ H → H T = none → Fr [] H H' → H' T = some (.tup [.int (i : Nat), x]) → g (.ref T) σ H' fun σ2 H2 => tb { D with nx := Pv (i + 1), ct := Pv (i + 1), bk := D.nx } σ2 H2) (hd : ∀ σ H, Pv xs.length σ H → D.nx σ H) : ForGo (Ite K a) g tb D σ H :=
  for_it walk_enum Pv h0 hl (fun i x σ H H' hi p y => by
    obtain ⟨T, u, w, rfl, h2, rfl, h4, h5⟩ := y
    cases h4
    exact hs i w T σ H _ h5 p h2 (Fr.new h2) upd_same) hd
def rZp (K : PySem.W.Frag) (vs : List V) (H : Hp) (R : It → Hp → Prop) : Prop := ∃ a b xs ys, vs = [.ref a, .ref b] ∧ SqL K H a xs ∧ SqL K H b ys ∧ R (Itz K a b) H
theorem g_iZ (h : as σ H fun vs H1 => rZp K vs H1 R) : iZip K as σ H R := h
theorem g_rzp {xs ys : List V} (h : SqL K H a xs) (h2 : SqL K H b ys) (c : R (Itz K a b) H) : rZp K [.ref a, .ref b] H R := ⟨a, b, xs, ys, rfl, h, h2, c⟩
theorem f_zip {xs ys : List V} {n : Nat} (hn : n = min xs.length ys.length) (Pv : Nat → L2.St → Hp → Prop) (h0 : Pv 0 σ H) (hl : ∀ i σ H, i ≤ n → Pv i σ H → SqL K H a xs ∧ SqL K H b ys)
    (hs : ∀ i x y T σ H H', xs[i]? = some x → ys[i]? = some y → Pv i σ H → H T = none → Fr [] H H' → H' T = some (.tup [x, y]) → g (.ref T) σ H' fun σ2 H2 => tb { D with nx := Pv (i + 1), ct := Pv (i + 1), bk := D.nx } σ2 H2) (hd : ∀ σ H, Pv n σ H → D.nx σ H) : ForGo (Itz K a b) g tb D σ H :=
  for_it (walk_zip hn) Pv h0 hl (fun i x σ H H' hi p y => by
    obtain ⟨T, u, w, rfl, h2, rfl, h4, h5⟩ := y
    exact hs i u w T σ H _ h4 h5 p h2 (Fr.new h2) upd_same) hd
/-- sum, min of a list of ints -/
theorem g_sum {ns : List Int} (h : SqL K H a (ns.map V.int)) (c : Q (.int ns.sum) H) : rSum K [.ref a] H Q := ⟨a, ns, rfl, h, c⟩
theorem g_all {bs : List Bool} (h : SqL K H a (bs.map V.bl)) (c : Q (.bl (bs.all id)) H) : rAll K [.ref a] H Q := ⟨a, bs, rfl, h, c⟩
theorem g_any {bs : List Bool} (h : SqL K H a (bs.map V.bl)) (c : Q (.bl (bs.any id)) H) : rAny K [.ref a] H Q := ⟨a, bs, rfl, h, c⟩
theorem g_catT {xs ys : List V} (h : SqT K H a xs) (h2 : SqT K H b ys) (hne : xs ≠ []) (hl : xs.length + ys.length ≤ sizeLine) (c1 : ys = [] → Q (.ref a) H) (c2 : ys ≠ [] → ∀ p H', H p = none → Fr [] H H' → H' p = some (.tup (xs ++ ys)) → Q (.ref p) H') : rCatT K (.ref a) (.ref b) H Q :=
  ⟨a, b, xs, ys, rfl, rfl, h, h2, hne, hl, c1, fun e p hp => c2 e p _ hp (Fr.new hp) upd_same⟩
theorem g_cat {xs ys : List V} (h : H a = some (.lst xs)) (h2 : H b = some (.lst ys)) (hl : xs.length + ys.length ≤ sizeLine) (c : ∀ p H', H p = none → Fr [] H H' → H' p = some (.lst (xs ++ ys)) → Q (.ref p) H') : rCat (.ref a) (.ref b) H Q :=
  ⟨a, b, xs, ys, rfl, rfl, h, h2, hl, fun p hp => c p _ hp (Fr.new hp) upd_same⟩
end
/-! ### sorted of data -/
section
open PySem.W in
/-- sorted(xs), xs a list that reads as data of one shape: a new list of the same values in their order -/
def rSortD (K : PySem.W.Frag) : List V → Hp → VK → Prop := fun vs H Q => ∃ (a : Addr) (bs : List (V × PyData)), vs = [V.ref a] ∧ SqL K H a (bs.map (·.1)) ∧ (∀ b ∈ bs, Da H b.1 b.2) ∧ AllAlike (bs.map (·.2)) ∧ Sortable (bs.map (·.2)) ∧ (∀ b ∈ bs, b.2.depth ≤ 60) ∧
  ∀ p, H p = none → Q (.ref p) (upd H p (.lst ((bs.mergeSort (dataLe false (·.2))).map (·.1))))
variable {X : Cx}
open PySem.W in
theorem eachV {s : Shared} {H : Hp} {pins : List (Addr × Obj)} {σ : L2.St} (I : Inv X pins σ H s) : ∀ (bs : List (V × PyData)) (us : List Value), Vals (bs.map (·.1)) us → (∀ b ∈ bs, Da H b.1 b.2) → EachIs (fun u (b : V × PyData) => RelV b.1 u) us bs ∧ EachIs (fun u (b : V × PyData) => ∃ as, PySem.Reads s.heap u b.2 as) us bs
  | [], us, r, _ => by cases r; exact ⟨.nil, .nil⟩
  | b :: bs, us, r, h => by
    cases r with
    | cons r1 r2 =>
      obtain ⟨e1, e2⟩ := eachV I bs _ r2 fun c hc => h c (List.mem_cons_of_mem _ hc)
      exact ⟨.cons r1 e1, .cons (Dp.reads I _ _ _ (Da.dp (K := X.K) _ _ (h b List.mem_cons_self)) r1) e2⟩
open PySem.W in
theorem eachB : ∀ {us : List Value} {bs : List (V × PyData)}, EachIs (fun u (b : V × PyData) => RelV b.1 u) us bs → Vals (bs.map (·.1)) us
  | _, _, .nil => .nil
  | _, _, .cons r t => .cons r (eachB t)
open PySem.W in
theorem b_sortD (hu : X.A.units + 64 < cLine) : CallR X (.builtin "sorted") (rSortD X.K) := by
  intro pins s σ H vs us Q I r h
  obtain ⟨a, bs, rfl, hs, hd, ha, hk, hdp, q⟩ := h
  obtain ⟨its, rv, hl, hz⟩ := I.list hs
  obtain ⟨u, rfl, ru⟩ := vals1 r
  obtain rfl : u = Value.ref a := ru
  obtain ⟨e1, e2⟩ := eachV I bs its rv hd
  rw [List.length_map] at hz
  refine sorted_data (enc := fun b : V × PyData => b.2) hl.isList e1 e2 ha hk hz (fun b hb => ?_) fun out ho eo => ?_
  · have := hdp b hb
    show X.A.units + 2 + b.2.depth < cLine
    omega
  · obtain ⟨ep, he'⟩ := PyProof.Rows.sortedAll_at s.heap its out.toArray
    have vo := eachB eo
    have hlen : ((bs.mergeSort (dataLe false fun b : V × PyData => b.2)).map (·.1)).length ≤ sizeLine := by rw [List.length_map, List.length_mergeSort]; exact hz
    exact ⟨.ref _, upd H (s.heap.objs.size + 1) (.lst _), I.laid (t' := s.toks) (fun _ _ => PyProof.Rows.sortedAll_old) (Nat.le_succ _) ⟨hlen, out, ep, vo, he'⟩, rfl, q _ (I.hok.fresh (Nat.le_succ _))⟩
open PySem.W in
theorem g_sortD {K : PySem.W.Frag} {H : Hp} {Q : VK} {a : Addr} {bs : List (V × PyData)} (hs : SqL K H a (bs.map (·.1))) (hd : ∀ b ∈ bs, Da H b.1 b.2) (ha : AllAlike (bs.map (·.2))) (hk : Sortable (bs.map (·.2))) (hdp : ∀ b ∈ bs, b.2.depth ≤ 60)
    (c : ∀ p H', H p = none → Fr [] H H' → H' p = some (.lst ((bs.mergeSort (dataLe false (·.2))).map (·.1))) → Q (.ref p) H') : rSortD K [.ref a] H Q := ⟨a, bs, rfl, hs, hd, ha, hk, hdp, fun p hp => c p _ hp (Fr.new hp) upd_same⟩
/-- the sorted data -/
def srt (ds : List PyData) : List PyData := ds.mergeSort (PySem.W.dataLe false id)
end
/-! ### d.clear() of a dict with tuple keys -/
section
variable {X : Cx}
def rDClearT : V → List V → Hp → VK → Prop := fun x vs H Q => ∃ (a : Addr) (kvs : List (List Key × V)), x = .ref a ∧ vs = [] ∧ H a = some (.dT kvs) ∧ Q .non (upd H a (.dT []))
theorem mtd_clearT : MtR X "dict.clear" rDClearT := by
  intro pins s σ H x vs v us Q I rx rv h
  obtain ⟨a, kvs, rfl, rfl, e, q⟩ := h
  obtain rfl : v = Value.ref a := rx
  cases rv
  obtain ⟨z, hd, xs, rel, o, es, ep, ho, hx, hdat, hes, _⟩ := dt_of I.hok e
  have raw : s.heap.DictRaw a es ep := ⟨o, ho, hx, hdat⟩
  have hsz : es.size ≤ sizeLine := by
    have e1 := congrArg List.length hes
    rw [Array.length_toList, List.length_map] at e1
    rw [e1, ← Paired.length rel]
    exact z
  refine call_meetsIn PySem.F.slot_dict_clear raw.typeIs PySem.F.entry_dict_clear (PySem.F.args_dict_clear_1 _) (meets_dict_clear_raw a) ⟨es, ep, raw, hsz, fun h' raw' hs => ?_⟩
  obtain ⟨o', ho', hx', hdat'⟩ := raw'
  exact ⟨.non, _, d_write (t' := s.toks) (ob := .dT []) I (by rw [e]; exact True.intro) hs ⟨o', ho'⟩ ⟨Nat.zero_le _, hd, [], .nil, o', #[], ep + 1, ho', hx', hdat', rfl, List.nodup_nil⟩, rfl, q⟩
theorem pe_dclearT {o : Expr} {to : TE} {apos cpos : Pos} (ho : PE X o to) (hbase : attributeBase o "clear" X.env (eval o X.env) = eval o X.env := by rfl) (hline : (apos.endLine == cpos.line) = true := by rfl) : PE X (.Call (.Attribute o "clear" apos) [] [] cpos) (tBM0 X.K "dict" rDClearT to) :=
  pe_bm0 PySem.F.plainAttrs_dict PySem.F.slot_dict_clear PySem.F.type_dict_clear mtd_clearT ho hbase hline
theorem g_bmT {K : PySem.W.Frag} {H : Hp} {a : Addr} {kvs : List (List Key × V)} {P : Prop} (h : H a = some (.dT kvs)) (q : P) : rBM K "dict" (.ref a) H P := ⟨.inr (.inr (.inl ⟨rfl, .inr ⟨kvs, h⟩⟩)), q⟩
theorem g_clearT {H : Hp} {a : Addr} {kvs : List (List Key × V)} {Q : VK} (h : H a = some (.dT kvs)) (q : ∀ H', Fr [a] H H' → H' a = some (.dT []) → Q .non H') : rDClearT (.ref a) [] H Q := ⟨a, kvs, rfl, rfl, h, q _ (Fr.put h trivial) upd_same⟩
end
/-! ### list(range(a, b)) -/
section
variable {σ : L2.St} {H : Hp} {Q : VK} {ta tb : TE} {a b : Int}
def rLRg (x y : V) (H : Hp) (Q : VK) : Prop := ∃ i j, x = .int i ∧ y = .int j ∧ RgOk i j ∧ ∀ q, H q = none → Q (.ref q) (upd H q (.lst (rgV i j)))
theorem g_lstRg (h : ta σ H fun x H1 => tb σ H1 fun y H2 => rLRg x y H2 Q) : tLstRg (tRg2 ta tb) σ H Q := h
theorem g_rlrg (ok : RgOk a b) (c : ∀ p H', H p = none → Fr [] H H' → H' p = some (.lst (rgV a b)) → Q (.ref p) H') : rLRg (.int a) (.int b) H Q := ⟨a, b, rfl, rfl, ok, fun p hp => c p _ hp (Fr.new hp) upd_same⟩
end
/-! ### what sorted gives, as data -/
section
open PySem.W
theorem dle_total {β : Type} (k : β → PyData) : TotalLe (dataLe false k) := sortLe_total _ false _
theorem srt_perm (ds : List PyData) : (srt ds).Perm ds := List.mergeSort_perm ds _
theorem srt_srt (ds : List PyData) : srt (srt ds) = srt ds := List.mergeSort_of_pairwise (sort_pairwise (dle_total id) ds)
theorem srt_map {β : Type} (f : β → PyData) (l : List β) : (l.mergeSort (dataLe false f)).map f = srt (l.map f) := sort_maps f fun _ _ _ _ => rfl
theorem DaL.zip {H : Hp} : ∀ {xs : List V} {ds : List PyData}, DaL H xs ds → (xs.zip ds).map (·.1) = xs ∧ (xs.zip ds).map (·.2) = ds ∧ ∀ b ∈ xs.zip ds, Da H b.1 b.2
  | _, _, .nil => ⟨rfl, rfl, fun _ h => nomatch h⟩
  | _, _, .cons a t => by
    obtain ⟨h1, h2, h3⟩ := DaL.zip t
    refine ⟨by simp [h1], by simp [h2], fun b hb => ?_⟩
    rcases List.mem_cons.mp hb with e | e
    · rw [e]; exact a
    · exact h3 b e
theorem DaL.ofBs {H : Hp} : ∀ {bs : List (V × PyData)}, (∀ b ∈ bs, Da H b.1 b.2) → DaL H (bs.map (·.1)) (bs.map (·.2))
  | [], _ => .nil
  | b :: bs, h => .cons (h b List.mem_cons_self) (DaL.ofBs fun c hc => h c (List.mem_cons_of_mem _ hc))
theorem g_srt {K : PySem.W.Frag} {H : Hp} {Q : VK} {a : Addr} {xs : List V} {ds : List PyData} (hs : SqL K H a xs) (hd : DaL H xs ds) (ha : AllAlike ds) (hk : Sortable ds) (hdp : ∀ d ∈ ds, d.depth ≤ 60)
    (c : ∀ p H' ys, H p = none → Fr [] H H' → H' p = some (.lst ys) → DaL H ys (srt ds) → Q (.ref p) H') : rSortD K [.ref a] H Q := by
  obtain ⟨z1, z2, z3⟩ := hd.zip
  refine g_sortD (bs := xs.zip ds) (by rw [z1]; exact hs) z3 (by rw [z2]; exact ha) (by rw [z2]; exact hk) (fun b hb => hdp b.2 (by rw [← z2]; exact List.mem_map.mpr ⟨b, hb, rfl⟩)) fun p H' hp f e => ?_
  refine c p H' _ hp f e ?_
  have q := DaL.ofBs (H := H) (bs := (xs.zip ds).mergeSort (dataLe false (·.2))) fun b hb => z3 b ((List.mergeSort_perm _ _).mem_iff.mp hb)
  rw [srt_map (fun b : V × PyData => b.2), z2] at q
  exact q
theorem alike_len : ∀ (n : Nat) (xs ys : List Int), alikeAll (xs.map .int) (ys.map .int) = true := fun _ => alike_ints
end
/-! ### chains, min, in, options -/
abbrev tChainT (r r' : R2) (ta tb tc : TE) : TT := tTest (tChain r r' ta tb tc)
section
variable {K : PySem.W.Frag} {σ : L2.St} {H : Hp} {Q : VK} {ta tb tc : TE} {r r' : R2} {y : V} {k : Bool} {p : Addr} {ns : List Int} {m : Int}
def rCh (r' : R2) (tc : TE) (y : V) (σ : L2.St) (Q : VK) (z : V) (H3 : Hp) : Prop := ∃ k, z = .bl k ∧ (if k = true then tc σ H3 fun w' H4 => r' y w' H4 Q else Q (.bl false) H3)
theorem g_chain (h : ta σ H fun x H1 => tb σ H1 fun y H2 => r x y H2 fun z H3 => rCh r' tc y σ Q z H3) : tChain r r' ta tb tc σ H Q := h
theorem g_rch (h : if k = true then tc σ H fun w' H4 => r' y w' H4 Q else Q (.bl false) H) : rCh r' tc y σ Q (.bl k) H := ⟨k, rfl, h⟩
theorem g_min (h : SqL K H p (ns.map V.int)) (hl : 0 < ns.length) (q : ∀ m, m ∈ ns → (∀ y, y ∈ ns → m ≤ y) → Q (.int m) H) : rMin K [.ref p] H Q := ⟨p, ns, rfl, h, hl, q⟩
theorem inI : inV (.int m) (ns.map V.int) = decide (m ∈ ns) := by
  unfold inV
  induction ns with
  | nil => rfl
  | cons a t ih =>
    rw [List.map_cons, List.any_cons, ih]
    show ((a == m) || decide (m ∈ t)) = _
    by_cases h : a = m
    · simp [h]
    · have h2 : ¬ m = a := fun z => h z.symm
      simp [h, h2]
theorem flatI : (ns.map V.int).all flatV = true := List.all_eq_true.mpr fun x hx => by obtain ⟨n, _, rfl⟩ := List.mem_map.mp hx; rfl
theorem g_ninI (h : SqL K H p (ns.map V.int)) (q : Q (.bl (!decide (m ∈ ns))) H) : rIn K true (.int m) (.ref p) H Q := ⟨p, _, rfl, .inl h, rfl, flatI, by rw [inI]; exact q⟩
theorem g_neB {a b : Bool} (h : Q (.bl (!decide (a = b))) H) : rNe (.bl a) (.bl b) H Q := ⟨rfl, by rw [show decide (V.bl a = V.bl b) = decide (a = b) from by simp]; exact h⟩
end
/-- a number, or none -/
def optV : Option Int → V
  | none => .non
  | some r => .int r
def optD : Option Int → PyData
  | none => .none
  | some r => .int r
section
variable {H : Hp} {Q : VK} {o : Option Int} {r : Int}
theorem g_isO (h : Q (.bl (decide (o = none))) H) : rIsNon (optV o) .non H Q := g_isN (by cases o <;> simpa [optV] using h)
theorem g_notO (h : Q (.bl (!decide (o = none))) H) : rIsNotNon (optV o) .non H Q := g_notN (by cases o <;> simpa [optV] using h)
theorem g_eqO (h : Q (.bl (decide (o = some r))) H) : rEq (optV o) (.int r) H Q := by
  cases o with
  | none => exact ⟨rfl, by simpa [optV] using h⟩
  | some q => exact g_eqI (by simpa using h)
theorem DaL.opts : ∀ {R : List (Option Int)}, DaL H (R.map optV) (R.map optD)
  | [] => .nil
  | none :: R => .cons .non DaL.opts
  | some r :: R => .cons (.int r) DaL.opts
theorem imm_opts {R : List (Option Int)} : immL (R.map optD) = true := immL_of fun d hd => by obtain ⟨o, _, rfl⟩ := List.mem_map.mp hd; cases o <;> rfl
theorem dp_opts {R : List (Option Int)} : dpL (R.map optD) ≤ 1 := dpL_le fun d hd => by obtain ⟨o, _, rfl⟩ := List.mem_map.mp hd; cases o <;> exact Nat.zero_le _
end
end Lw

namespace Lw
open PySem L2 PySem.W PySem.Calls PyProof.Rows PySem.Spec
/-! ### more of dicts with tuple keys: len, dict(d), sorted(d), d.pop(k) -/
section
variable {X : Cx}
theorem raw_of {P : Program} {w : World} {h : Heap} {a : Addr} {xs : List (List Key × Addr × Value)} (m : h.DictOfH (tupleKind (mixKind P w)) a xs) : ∃ es ep, h.DictRaw a es ep ∧ es.size = xs.length ∧ ∀ (i : Nat) (hi : i < es.size), ∃ x, xs[i]? = some x ∧ es[i].key = .ref x.2.1 := by
  obtain ⟨o, es, ep, h1, h2, h3, h4, h5, h6⟩ := m
  have hs : es.size = xs.length := by
    have e := congrArg List.length h4
    rw [Array.length_toList, List.length_map] at e
    exact e
  refine ⟨es, ep, ⟨o, h1, h2, h3⟩, hs, fun i hi => ?_⟩
  have e : es.toList[i]? = (xs.map _)[i]? := congrArg (fun l => l[i]?) h4
  rw [List.getElem?_map, List.getElem?_eq_getElem (by rw [Array.length_toList]; exact hi)] at e
  have hx : xs[i]? = some (xs[i]'(by omega)) := List.getElem?_eq_getElem (by omega)
  rw [hx] at e
  refine ⟨_, hx, ?_⟩
  have e2 := Option.some.inj e
  rw [Array.getElem_toList] at e2
  rw [e2]; rfl
/-- len(d) -/
theorem g_lenDT {H : Hp} {Q : VK} {a : Addr} {kvs : List (List Key × V)} (h : H a = some (.dT kvs)) (q : Q (.int kvs.length) H) : rLenT [.ref a] H Q := ⟨a, kvs, rfl, h, q⟩
/-- d.pop(k), k there -/
def rPopT1 : V → List V → Hp → VK → Prop := fun x xs H Q => ∃ (a b : Addr) (kvs : List (List Key × V)) (k : List Key) (v : V), x = .ref a ∧ xs = [.ref b] ∧ H a = some (.dT kvs) ∧ H b = some (.tup (k.map kV)) ∧ valV kvs k = some v ∧ Q v (upd H a (.dT (dropK kvs k)))
theorem mt_popT1 (hu : X.A.units + 1 < cLine) : MtR X "dict.pop" rPopT1 := by
  intro pins s σ H x xs v us Q I rx rxs h
  obtain ⟨a, b, kvs, k, v0, rfl, rfl, ha, hb, hv, q⟩ := h
  cases rx
  obtain ⟨u1, rfl, r1⟩ := vals1 rxs
  cases r1
  obtain ⟨z, hd, xs', rel, dd⟩ := dt_of I.hok ha
  have hz : xs'.length ≤ sizeLine := by rw [← Paired.length rel]; exact z
  have r := rel.val k
  rw [hv] at r
  obtain ⟨p, hp⟩ : ∃ p, atKey xs' k = some p := by
    cases e : atKey xs' k with
    | none => rw [e] at r; exact (show False from r).elim
    | some p => exact ⟨p, rfl⟩
  rw [hp] at r
  have rv : RelV v0 p.2 := r
  refine call_pop_heap (hsz := hz) (.inl rfl) (PySem.F.args_dict_pop_2 _ _) (tupleKind_room_in1 hu) (key_of I.hok hb) hd dd hp fun h' dd' hs => ?_
  obtain ⟨o, es, ep, hq, h2, h3, h4, _, h5⟩ := dd'
  have I2 : Inv X pins σ (upd H a (.dT (dropK kvs k))) { s with heap := h', toks := s.toks + (tupleKind (mixKind X.prog X.w)).draws k } :=
    d_write I (by rw [ha]; exact True.intro) hs ⟨o, hq⟩ ⟨Nat.le_trans (dropK_le kvs k) z, hd, _, (L2.DX.KT_drop k rel).keeps (fun c ys ec => (by rw [upd_ne (ne_of ec ha (fun z => nomatch z))]; exact ec)), o, es, ep, hq, h2, h3, h4, h5⟩
  show EP X pins σ Q p.2 _
  exact ⟨v0, _, I2, rv, q⟩
/-- dict(d): a copy; the keys' hashes differ -/
def rDictT (P : Program) (w : World) : List V → Hp → VK → Prop := fun vs H Q => ∃ (a : Addr) (kvs : List (List Key × V)), vs = [.ref a] ∧ H a = some (.dT kvs) ∧ (kvs.map fun e => (tupleKind (mixKind P w)).hash e.1).Nodup ∧ ∀ p, H p = none → Q (.ref p) (upd H p (.dT kvs))
theorem b_dictT (hu : X.A.units + 8 < cLine) : CallR X (.type "dict") (rDictT X.prog X.w) := by
  intro pins s σ H vs us Q I r h
  obtain ⟨a, kvs, rfl, ha, hh, q⟩ := h
  obtain ⟨u, rfl, ru⟩ := vals1 r
  obtain rfl : u = Value.ref a := ru
  obtain ⟨z, hoS, xs, rel, ho⟩ := dt_of I.hok ha
  have hz : xs.length ≤ sizeLine := by rw [← Paired.length rel]; exact z
  have hm : (s.heap.objs.size == sysModules) = false := beq_eq_false_iff_ne.mpr (Nat.ne_of_gt I.big)
  refine callType_codes (Q₁ := fun obj s₁ => obj = .ref s.heap.objs.size ∧ s₁ = { s with heap := s.heap.push { cls := .type "dict", data := .dict #[] } }) F.kt_called_dict (F.kt_typeCall_dict_1 _) F.entry_dict_init (kt_code_dict_new _ ⟨rfl, rfl⟩) ?_
  rintro obj s₁ ⟨rfl, rfl⟩
  have hnew : (s.heap.push { cls := .type "dict", data := .dict #[] }).DictOfH (tupleKind (mixKind X.prog X.w)) s.heap.objs.size [] := Heap.DictOfH.new s.heap
  have ho' : (s.heap.push { cls := .type "dict", data := .dict #[] }).DictOfH (tupleKind (mixKind X.prog X.w)) a xs := by
    obtain ⟨o, es, ep, h1, h2, h3, h4, h5, h6⟩ := id ho
    exact ⟨o, es, ep, Heap.get?_push_of_some _ h1, h2, h3, h4, fun x hx => by obtain ⟨o2, its, n, g1, g2, g3, g4⟩ := h5 x hx; exact ⟨o2, its, n, Heap.get?_push_of_some _ g1, g2, g3, g4⟩, h6⟩
  have hdo : s.heap.objs.size ≠ a := by
    obtain ⟨_, _, _, hg, _⟩ := ho
    exact fun e => absurd (Heap.lt_size hg) (by rw [e]; exact Nat.lt_irrefl _)
  refine ⟨hnew.typeIs, F.args_dict_init_2 _ _, ?_⟩
  unfold Builtin.«dict.__init__»
  refine wpAny_bind ?_
  unfold Builtin.Dict.selfAndRest
  refine wpAny_bind (wpAny_notOrdered_dict hnew.typeIs ?_)
  show wpAny _ _ (pure (s.heap.objs.size, [Value.ref a])) _ _ _
  refine wpAny_pure ?_
  show wpAny _ _ (Builtin.Dict.updateFrom "dict.__init__" s.heap.objs.size (.ref a) [] .none) _ _ _
  unfold Builtin.Dict.updateFrom
  refine wpAny_bind (wpAny_typeOf ho'.typeIs ?_)
  rw [if_neg (by decide)]
  refine wpAny_bind ?_
  unfold Builtin.Dict.merge
  refine wpAny_bind ?_
  unfold Builtin.Dict.readDirectly
  refine wpAny_bind (wpAny_isInstance ho'.typeIs isSubtype_dict_dict ?_)
  simp only [Bool.not_true, Bool.false_eq_true, if_false]
  refine wpAny_bind (wpAny_specialOf ho'.typeIs F.slot_dict_iter.lookup (wpAny_pure ?_))
  simp only [beq_self_eq_true, if_true]
  refine wpAny_bind (wpAny_pure ?_)
  have hty : ∀ x ∈ xs, Shared.TypeIs { s with heap := s.heap.push { cls := .type "dict", data := .dict #[] } } (.ref x.2.1) "tuple" := fun x hx => by
    obtain ⟨o, es, ep, h1, h2, h3, h4, h5, h6⟩ := id ho'
    obtain ⟨o2, its, n, g1, g2, g3, g4⟩ := h5 x hx
    exact ⟨o2, g1, g2⟩
  have hap : (xs.map fun x => (tupleKind (mixKind X.prog X.w)).hash x.1).Nodup := by
    have e : (xs.map fun x => (tupleKind (mixKind X.prog X.w)).hash x.1) = kvs.map fun e => (tupleKind (mixKind X.prog X.w)).hash e.1 := by
      clear hty ho' ho hnew hz z hh ha q
      induction rel with
      | nil => rfl
      | cons h _ ih => rw [List.map_cons, List.map_cons, ih, h.1]
    rw [e]; exact hh
  have hn : (xs.map (·.1)).Nodup := ho.nodup
  refine wpAny_mergeDict_heap (hsz := by simpa using hz) ?room hdo hoS hnew ho' (.inr ⟨hty, hap⟩) fun h' hd' _ hs' => ?_
  case room => exact (show X.A.units + 1 + 1 < cLine by omega)
  show wpAny _ _ (Builtin.Dict.addKeywords s.heap.objs.size [] >>= _) _ _ _
  rw [storedAllH_nil_of_nodup xs hn] at hd'
  refine wpAny_bind (wpAny_pure (wpAny_pure ⟨rfl, ?_⟩))
  obtain ⟨o, es, ep, h1, h2, h3, h4, h5, h6⟩ := hd'
  exact ⟨.ref s.heap.objs.size, upd H s.heap.objs.size (.dT kvs), I.laid (t' := s.toks) (fun b u e => (hs'.2 b (Nat.ne_of_lt (Heap.lt_size e))).trans (Heap.get?_push_of_some _ e)) (Nat.le_refl _)
    ⟨z, hm, xs, rel.keeps (fun c ys ec => by rw [upd_ne (ne_of_none ec (I.hok.fresh (Nat.le_refl _)))]; exact ec), o, es, ep, h1, h2, h3, h4, h6⟩, rfl, q _ (I.hok.fresh (Nat.le_refl _))⟩
/-- sorted(d): the keys, all tuples of ints, in their order -/
def intsD (c : List Int) : PyData := .tuple (c.map .int)
def rSortedDT : List V → Hp → VK → Prop := fun vs H Q => ∃ (a : Addr) (kvs : List (List Key × V)) (cs : List (List Int)), vs = [.ref a] ∧ H a = some (.dT kvs) ∧ kvs.map (·.1) = cs.map (fun c => c.map Sum.inl) ∧ AllAlike (cs.map intsD) ∧ Sortable (cs.map intsD) ∧ (∀ c ∈ cs, (intsD c).depth ≤ 60 ∧ c.length ≤ 1000000) ∧
  ∀ p ys, H p = none → DaL H ys (srt (cs.map intsD)) → Q (.ref p) (upd H p (.lst ys))
theorem reads_ints {h : Heap} : ∀ {ns : List Int} {us : List Value}, Vals (ns.map V.int) us → PySem.ReadsAll h us (ns.map .int) []
  | [], _, .nil => .nil
  | n :: ns, u :: us, h => by
    cases h with
    | cons r t =>
      obtain ⟨tk, rfl⟩ := r
      exact .cons (as := []) (bs := []) (.int n tk) (reads_ints t)
theorem each_idx {α β : Type} {R : α → β → Prop} : ∀ {us : List α} {bs : List β}, us.length = bs.length → (∀ (i : Nat) u b, us[i]? = some u → bs[i]? = some b → R u b) → EachIs R us bs
  | [], [], _, _ => .nil
  | u :: us, b :: bs, hl, h => .cons (h 0 u b rfl rfl) (each_idx (by simpa using hl) fun i x y hx hy => h (i + 1) x y (by simpa using hx) (by simpa using hy))
  | [], _ :: _, hl, _ => by simp at hl
  | _ :: _, [], hl, _ => by simp at hl
theorem each_refs {γ : Type} : ∀ {us : List Value} {bs : List (Addr × γ)}, EachIs (fun u (b : Addr × γ) => u = .ref b.1) us bs → Vals (bs.map fun b => V.ref b.1) us
  | _, _, .nil => .nil
  | _, _, .cons r t => .cons r (each_refs t)
theorem da_refs {γ : Type} {H : Hp} {f : γ → PyData} : ∀ {bs : List (Addr × γ)}, (∀ b ∈ bs, Da H (.ref b.1) (f b.2)) → DaL H (bs.map fun b => V.ref b.1) (bs.map fun b => f b.2)
  | [], _ => .nil
  | b :: bs, h => .cons (h b List.mem_cons_self) (da_refs fun c hc => h c (List.mem_cons_of_mem _ hc))
theorem b_sortedDT (hcalm : X.calm = true) (hu : X.A.units + 64 < cLine) : CallR X (.builtin "sorted") rSortedDT := by
  intro pins s σ H vs us Q I r h
  obtain ⟨a, kvs, cs, rfl, ha, hks, hal, hsrt, hdp, q⟩ := h
  obtain ⟨u, rfl, ru⟩ := vals1 r
  obtain rfl : u = Value.ref a := ru
  obtain ⟨z, lo, xs, rel, dd⟩ := dt_of I.hok ha
  obtain ⟨es, ep, raw, hes, hkey⟩ := raw_of dd
  have hl : kvs.length = xs.length := Paired.length rel
  have hcl : cs.length = kvs.length := by have e := congrArg List.length hks; rw [List.length_map, List.length_map] at e; exact e.symm
  have hz : es.size ≤ sizeLine := by rw [hes, ← hl]; exact z
  -- the keys, each with its address
  have hat : ∀ (i : Nat) (x : List Key × Addr × Value) (c : List Int), xs[i]? = some x → cs[i]? = some c → H x.2.1 = some (.tup (c.map V.int)) := fun i x c hx hc => by
    obtain ⟨y, hy, e1, e2, _⟩ := L2.DX.pget rel hx
    have e3 : (kvs.map (·.1))[i]? = (cs.map fun c => c.map Sum.inl)[i]? := by rw [hks]
    rw [List.getElem?_map, List.getElem?_map, hy, hc] at e3
    have e4 : y.1 = c.map Sum.inl := Option.some.inj e3
    rw [e4, List.map_map] at e2
    exact e2
  refine Calls.call_function_entry PyProof.Rows.kind_sorted PyProof.Rows.plain_sorted PyProof.Rows.entry_sorted (PyProof.Rows.args_sorted1 _) ?_
  unfold Builtin.«sorted»
  refine wpAny_bind (m := checkCount "sorted" 1 1 _) (wpAny_pure ?_)
  refine wpAny_bind (PySem.W.kdu_collect (A := X.A.in1) (KdlSrc.rawDict lo) (I.ok.hd hcalm) raw hz fun h' tk acc hk hacc => ?_)
  have I1 : Inv X pins σ H { s with heap := h', toks := tk } := I.kept hk
  let bs : List (Addr × List Int) := (xs.map fun x => x.2.1).zip cs
  have hbl : bs.length = cs.length := by
    show ((xs.map fun x => x.2.1).zip cs).length = _
    rw [List.length_zip, List.length_map]; omega
  have hb2 : bs.map (fun b => b.2) = cs := List.map_snd_zip (by rw [List.length_map]; omega)
  have hbe : bs.map (fun b => intsD b.2) = cs.map intsD := by rw [← hb2, List.map_map]; rfl
  have hbat : ∀ b ∈ bs, H b.1 = some (.tup (b.2.map V.int)) := fun b hb => by
    obtain ⟨i, hi⟩ := List.mem_iff_getElem?.mp hb
    obtain ⟨h1, h2⟩ := List.getElem?_zip_eq_some.mp hi
    rw [List.getElem?_map] at h1
    cases e : xs[i]? with
    | none => rw [e] at h1; cases h1
    | some x =>
      rw [e] at h1
      have := Option.some.inj h1
      rw [← this]
      exact hat i x b.2 e h2
  have hbd : ∀ b ∈ bs, b.2 ∈ cs := fun b hb => by rw [← hb2]; exact List.mem_map.mpr ⟨b, hb, rfl⟩
  have hal' : acc.toList.length = bs.length := by rw [Array.length_toList, hacc.1, hbl]; omega
  have E1 : EachIs (fun u (b : Addr × List Int) => u = .ref b.1) acc.toList bs := each_idx hal' fun i u b hu hb => by
    obtain ⟨hi, hv⟩ := hacc.2 i u (by rw [← Array.getElem?_toList]; exact hu)
    obtain ⟨x, hx, hk2⟩ := hkey i hi
    obtain ⟨h1, h2⟩ := List.getElem?_zip_eq_some.mp hb
    rw [List.getElem?_map, hx] at h1
    rw [hv, hk2, ← Option.some.inj h1]
  have hpl : acc.toList.length ≤ sizeLine := by rw [hal', hbl, hcl]; exact z
  refine wpAny_bind (wpAny_newList ?_ hpl)
  have hoL : (h'.push (seqObj "list" acc.toList.toArray 0)).get? h'.objs.size = some (seqObj "list" acc.toList.toArray 0) := Heap.get?_push_size _ rfl
  have E2 : EachIs (fun v (b : Addr × List Int) => ∃ as, PySem.Reads (h'.push (seqObj "list" acc.toList.toArray 0)) v (intsD b.2) as ∧ h'.objs.size ∉ as) acc.toList bs := each_idx hal' fun i u b hu hb => by
    have hm := List.mem_of_getElem? hb
    obtain ⟨_, its, r, o, g1, g2, n, g3⟩ := (show ObjOk X.prog X.w H h' b.1 (.tup (b.2.map V.int)) from I1.hok b.1 _ (hbat b hm))
    have hu2 : u = .ref b.1 := by
      obtain ⟨hi, hv⟩ := hacc.2 i u (by rw [← Array.getElem?_toList]; exact hu)
      obtain ⟨x, hx, hk2⟩ := hkey i hi
      obtain ⟨h1, h2⟩ := List.getElem?_zip_eq_some.mp hb
      rw [List.getElem?_map, hx] at h1
      rw [hv, hk2, ← Option.some.inj h1]
    rw [hu2]
    exact ⟨[], .tuple (Heap.get?_push_of_some _ g1) g2 g3 (by simpa using reads_ints r), by simp⟩
  show wpAny _ _ _ _ _ { s with heap := h'.push (seqObj "list" acc.toList.toArray 0), toks := tk }
  refine wpAny_bind (wpAny_holding (list_sort_data (s := { s with heap := h'.push (seqObj "list" acc.toList.toArray 0), toks := tk }) (enc := fun b : Addr × List Int => intsD b.2) hoL E1 E2 (by rw [hbe]; exact hal) (by rw [hbe]; exact hsrt) (by rw [hbl, hcl]; exact z) (fun b hb => ?_) fun out ho eo => ?_))
  · have := (hdp b.2 (hbd b hb)).1
    show X.A.units + 1 + 1 + (intsD b.2).depth < cLine
    omega
  obtain ⟨e', he'⟩ := PyProof.Rows.sortedHeap_at (vs := acc.toList) (out := out.toArray) hoL
  have hys : DaL H ((bs.mergeSort (dataLe false fun b : Addr × List Int => intsD b.2)).map fun b => V.ref b.1) (srt (cs.map intsD)) := by
    rw [← hbe, ← srt_map (fun b : Addr × List Int => intsD b.2) bs]
    refine da_refs fun b hb => ?_
    have hm := (List.mergeSort_perm _ _).mem_iff.mp hb
    exact .tup (hbat b hm) (by rw [List.length_map]; exact (hdp b.2 (hbd b hm)).2) (DaL.ofInts b.2)
  have hlen : ((bs.mergeSort (dataLe false fun b : Addr × List Int => intsD b.2)).map fun b => V.ref b.1).length ≤ sizeLine := by
    rw [List.length_map, List.length_mergeSort, hbl, hcl]; exact z
  refine wpAny_pure ⟨_, rfl, .ref h'.objs.size, upd H h'.objs.size (.lst _), I1.laid (t' := tk) (fun b u e => ?_) (Nat.le_refl _)
    (show ObjOk X.prog X.w _ _ _ (.lst _) from ⟨hlen, out, e', each_refs eo, he'⟩), rfl, q _ _ (I1.hok.fresh (Nat.le_refl _)) hys⟩
  have hb : b < h'.objs.size := Heap.lt_size e
  rw [PyProof.Rows.sortedHeap_old (Nat.ne_of_lt hb) (by rw [size_push']; exact Nat.lt_succ_of_lt hb)]
  exact Heap.get?_push_of_some _ e
end
/-! ### the hashes of small pairs differ -/
def hp (a b : Int) : Int := reduceHash (Builtin.Tuple.tupleHashOf [hashInt a, hashInt b])
theorem pair_hash (P : Program) (w : World) (a b : Int) : (tupleKind (mixKind P w)).hash [.inl a, .inl b] = hp a b := by
  show reduceHash (Builtin.Tuple.tupleHashOf [keyH w (.inl a), keyH w (.inl b)]) = _
  unfold hp keyH
  rfl
theorem hp_nd : ((List.range 104).map fun i => hp ((i / 26 : Nat) : Int) ((i % 26 : Nat) : Int)).Nodup := by decide +kernel
theorem hp_inj {a b c d : Nat} (ha : a < 4) (hb : b < 26) (hc : c < 4) (hd : d < 26) (e : hp a b = hp c d) : a = c ∧ b = d := by
  have pw := List.pairwise_iff_getElem.mp hp_nd
  have key : ∀ i j : Nat, i < j → j < 104 → hp ((i / 26 : Nat) : Int) ((i % 26 : Nat) : Int) ≠ hp ((j / 26 : Nat) : Int) ((j % 26 : Nat) : Int) := fun i j hij hj => by
    have h := pw i j (by rw [List.length_map, List.length_range]; omega) (by rw [List.length_map, List.length_range]; omega) hij
    rw [List.getElem_map, List.getElem_map, List.getElem_range, List.getElem_range] at h
    exact h
  have e1 : (26 * a + b) / 26 = a := by omega
  have e2 : (26 * a + b) % 26 = b := by omega
  have e3 : (26 * c + d) / 26 = c := by omega
  have e4 : (26 * c + d) % 26 = d := by omega
  rcases Nat.lt_trichotomy (26 * a + b) (26 * c + d) with h | h | h
  · have := key _ _ h (by omega)
    rw [e1, e2, e3, e4] at this
    exact absurd e this
  · omega
  · have := key _ _ h (by omega)
    rw [e1, e2, e3, e4] at this
    exact absurd e.symm this
theorem map_keys {f : List Key → Int} {g : Int × Int → Int} (hf : ∀ c : Int × Int, f [Sum.inl c.1, Sum.inl c.2] = g c) : ∀ {kvs : List (List Key × V)} {cs : List (Int × Int)}, kvs.map (·.1) = cs.map (fun c => [Sum.inl c.1, Sum.inl c.2]) → (kvs.map fun e => f e.1) = cs.map g
  | [], [], _ => rfl
  | e :: kvs, c :: cs, h => by
    rw [List.map_cons, List.map_cons] at h
    injection h with h1 h2
    rw [List.map_cons, List.map_cons, map_keys hf h2, h1, hf]
  | [], _ :: _, h => by cases h
  | _ :: _, [], h => by cases h
/-- dict(d) where the keys are pairs of ints -/
def rDictC : List V → Hp → VK → Prop := fun vs H Q => ∃ (a : Addr) (kvs : List (List Key × V)) (cs : List (Int × Int)), vs = [.ref a] ∧ H a = some (.dT kvs) ∧ kvs.map (·.1) = cs.map (fun c => [Sum.inl c.1, Sum.inl c.2]) ∧ (cs.map fun c => hp c.1 c.2).Nodup ∧ ∀ p, H p = none → Q (.ref p) (upd H p (.dT kvs))
theorem b_dictC {X : Cx} (hu : X.A.units + 8 < cLine) : CallR X (.type "dict") rDictC := by
  intro pins s σ H vs us Q I r h
  obtain ⟨a, kvs, cs, rfl, ha, hk, hh, q⟩ := h
  refine b_dictT hu pins s σ H _ us Q I r ⟨a, kvs, rfl, ha, ?_, q⟩
  have e := map_keys (f := (tupleKind (mixKind X.prog X.w)).hash) (g := fun c => hp c.1 c.2) (fun c => pair_hash _ _ c.1 c.2) hk
  rw [e]; exact hh
theorem g_dictC {H : Hp} {Q : VK} {a : Addr} {kvs : List (List Key × V)} (cs : List (Int × Int)) (h : H a = some (.dT kvs)) (hk : kvs.map (·.1) = cs.map (fun c => [Sum.inl c.1, Sum.inl c.2])) (hn : (cs.map fun c => hp c.1 c.2).Nodup) (q : ∀ p H', H p = none → Fr [] H H' → H' p = some (.dT kvs) → Q (.ref p) H') : rDictC [.ref a] H Q :=
  ⟨a, kvs, cs, rfl, h, hk, hn, fun p e => q p _ e (Fr.new e) upd_same⟩
theorem g_sortedDT {H : Hp} {Q : VK} {a : Addr} {kvs : List (List Key × V)} (cs : List (List Int)) (h : H a = some (.dT kvs)) (hk : kvs.map (·.1) = cs.map (fun c => c.map Sum.inl)) (ha : AllAlike (cs.map intsD)) (hs : Sortable (cs.map intsD)) (hd : ∀ c ∈ cs, (intsD c).depth ≤ 60 ∧ c.length ≤ 1000000)
    (q : ∀ p H' ys, H p = none → Fr [] H H' → H' p = some (.lst ys) → DaL H' ys (srt (cs.map intsD)) → Q (.ref p) H') : rSortedDT [.ref a] H Q :=
  ⟨a, kvs, cs, rfl, h, hk, ha, hs, hd, fun p ys e d => q p _ ys e (Fr.new e) upd_same (DaL.frL (Fr.new e) d (immL_of fun d hd => by
    obtain ⟨c, _, rfl⟩ := List.mem_map.mp ((srt_perm _).mem_iff.mp hd)
    exact immL_of fun d hd => by obtain ⟨n, _, rfl⟩ := List.mem_map.mp hd; rfl))⟩
theorem g_popT {H : Hp} {Q : VK} {a b : Addr} {kvs : List (List Key × V)} {k : List Key} {d : V} (h : H a = some (.dT kvs)) (hb : H b = some (.tup (k.map kV))) (q1 : ∀ v H', valV kvs k = some v → Fr [a] H H' → H' a = some (.dT (dropK kvs k)) → Q v H') (q2 : valV kvs k = none → Q d H) : L2.DX.rPopT (.ref a) [.ref b, d] H Q :=
  ⟨a, kvs, k, b, d, rfl, rfl, h, hb, fun v e => q1 v _ e (Fr.put h trivial) upd_same, q2⟩
theorem g_popT1 {H : Hp} {Q : VK} {a b : Addr} {kvs : List (List Key × V)} {k : List Key} {v : V} (h : H a = some (.dT kvs)) (hb : H b = some (.tup (k.map kV))) (hv : valV kvs k = some v) (q : ∀ H', Fr [a] H H' → H' a = some (.dT (dropK kvs k)) → Q v H') : rPopT1 (.ref a) [.ref b] H Q :=
  ⟨a, b, kvs, k, v, rfl, rfl, h, hb, hv, q _ (Fr.put h trivial) upd_same⟩
/-- a place that was changed and is as it was -/
theorem Fr.back {p : Addr} {u : HO} {H H' : Hp} (f : Fr [p] H H') (h : H p = some u) (h' : H' p = some u) : Fr [] H H' := ⟨fun a o e _ => by
  by_cases q : a = p
  · subst q; rw [h] at e; cases e; exact h'
  · exact f.at e (nin1 q nin0), f.tup⟩
/-- d[k] -= x -/
def rDA (a : Addr) (y : V) (v : V) (tv : TE) (rd : V → V → Hp → VK → Prop) (σ : L2.St) (H : Hp) (P : Hp → Prop) : Prop := tv σ H fun y2 H3 => rd v y2 H3 fun z H4 => ∃ H5, DPut H4 a y z H5 ∧ P H5
def rDA0 (x y : V) (tv : TE) (rd : V → V → Hp → VK → Prop) (σ : L2.St) (H : Hp) (P : Hp → Prop) : Prop := ∃ a v, x = .ref a ∧ DGet H a y (some v) ∧ rDA a y v tv rd σ H P
theorem g_daug {td ty tv : TE} {rd : V → V → Hp → VK → Prop} {D : Ends} {σ : L2.St} {H : Hp} (h : td σ H fun x H1 => ty σ H1 fun y H2 => rDA0 x y tv rd σ H2 fun H5 => D.nx σ H5) : sDAug td ty tv rd D σ H := h
theorem g_rda0 {a b : Addr} {kvs : List (List Key × V)} {k : List Key} {v : V} {tv : TE} {rd : V → V → Hp → VK → Prop} {σ : L2.St} {H : Hp} {P : Hp → Prop} (h : H a = some (.dT kvs)) (hb : H b = some (.tup (k.map kV))) (hv : valV kvs k = some v) (q : rDA a (.ref b) v tv rd σ H P) : rDA0 (.ref a) (.ref b) tv rd σ H P :=
  ⟨a, v, rfl, .inr ⟨kvs, k, b, .inl h, rfl, hb, hv.symm⟩, q⟩
theorem g_rdput {a b : Addr} {kvs : List (List Key × V)} {k : List Key} {v : V} {H : Hp} {P : Hp → Prop} (h : H a = some (.dT kvs)) (e : H b = some (.tup (k.map kV))) (hl : kvs.length < sizeLine) (c : ∀ H', Fr [a] H H' → H' a = some (.dT (putK kvs k v)) → P H') : ∃ H5, DPut H a (.ref b) v H5 ∧ P H5 :=
  ⟨_, .inr ⟨kvs, k, b, h, rfl, e, hl, rfl⟩, c _ (Fr.put h trivial) upd_same⟩
theorem un1 {u c : Nat} (h : u + 64 < c) : u + 1 < c := by omega
theorem un8 {u c : Nat} (h : u + 64 < c) : u + 8 < c := by omega
end Lw

namespace Toy
open PySem L2 Lw

/-! ### the steps as one word each -/
local macro_rules | `(tactic| walk_at "ne") => `(tactic| first
  | assumption | exact Ne.symm (by assumption)
  | ((refine' ne_of_none ?h (by assumption)); (first | (case h => walk_at "fact") | fail))
  | ((refine' Ne.symm (ne_of_none ?h (by assumption))); (first | (case h => walk_at "fact") | fail))
  | walk_at "ne2")
local macro_rules | `(tactic| walk_at "nin") => `(tactic| first | exact nin0 | (refine nin1 ?_ ?_; walk_at "ne"; walk_at "nin") | assumption)
local macro_rules | `(tactic| walk_at "fact") => `(tactic| first
  | assumption
  | ((refine' Fr.tupAt (by assumption) ?h); (first | (case h => walk_at "fact") | fail))
  | ((refine' Fr.at0 (by assumption) ?h); (first | (case h => walk_at "fact") | fail))
  | ((refine' Fr.at (by assumption) ?h ?k); (first | (case h => walk_at "fact") | fail); (first | (case k => walk_at "nin") | fail)))
local macro_rules | `(tactic| walk_at "none") => `(tactic| first
  | assumption
  | ((refine' Fr.freeL (by assumption) ?h ?k); (first | (case h => walk_at "none") | fail); (first | (case k => walk_at "nin") | fail)))
local macro_rules | `(tactic| walk_at "mem") => `(tactic| first
  | assumption | exact List.mem_cons_self
  | (refine List.mem_cons_of_mem _ ?_; walk_at "mem"))
local macro_rules | `(tactic| walk_at "frn") => `(tactic| first
  | exact frn0
  | (refine frn1 ?_ ?_; (first | exact Or.inl (by walk_at "mem") | exact Or.inr (by walk_at "none")); walk_at "frn"))
local macro_rules | `(tactic| walk_at "fr") => `(tactic| first
  | assumption
  | exact Fr.refl
  | ((refine' Fr.own ?h (by assumption) ?k); (first | (case h => walk_at "fr") | fail); (first | (case k => walk_at "frn") | fail))
  | (refine Fr.of0 ?_; walk_at "fr"))
local macro_rules | `(tactic| walk_at "sz") => `(tactic| first | exact szM (by omega) | exact szM (by simp only [List.length_map, List.length_append, List.length_cons, List.length_nil]; omega))
local macro_rules | `(tactic| walk_at "sql") => `(tactic| first
  | assumption
  | exact SqL.of (by walk_at "fact")
  | ((refine' Fr.sql (by assumption) ?h ?k); (first | (case h => walk_at "sql") | fail); (first | (case k => walk_at "nin") | fail)))
local macro_rules | `(tactic| walk_at "sqt") => `(tactic| first
  | assumption
  | exact SqT.of (by walk_at "fact"))
local macro_rules | `(tactic| walk_at "ty") => `(tactic| first
  | assumption
  | exact TyX.base TyOf.non
  | exact TyX.base (TyOf.int _)
  | exact TyX.base (TyOf.bl _)
  | exact TyX.base (TyOf.str _)
  | exact TyX.base (TyOf.lst (by walk_at "fact"))
  | exact TyX.base (TyOf.tup (by walk_at "fact"))
  | exact TyX.base (TyOf.dK (by walk_at "fact"))
  | exact TyX.base (TyOf.dT (by walk_at "fact")))
local macro_rules | `(tactic| walk_at "kb") => `(tactic| first | exact kb_NoneType_list | exact kb_NoneType_tuple | exact kb_NoneType_bool | exact kb_NoneType_int | exact kb_NoneType_str | exact kb_NoneType_dict | exact kb_bool_list | exact kb_bool_tuple | exact kb_bool_bool | exact kb_bool_int | exact kb_bool_str | exact kb_bool_dict | exact kb_int_list | exact kb_int_tuple | exact kb_int_bool | exact kb_int_int | exact kb_int_str | exact kb_int_dict | exact kb_str_list | exact kb_str_tuple | exact kb_str_bool | exact kb_str_int | exact kb_str_str | exact kb_str_dict | exact kb_list_list | exact kb_list_tuple | exact kb_list_bool | exact kb_list_int | exact kb_list_str | exact kb_list_dict | exact kb_tuple_list | exact kb_tuple_tuple | exact kb_tuple_bool | exact kb_tuple_int | exact kb_tuple_str | exact kb_tuple_dict | exact kb_dict_list | exact kb_dict_tuple | exact kb_dict_bool | exact kb_dict_int | exact kb_dict_str | exact kb_dict_dict)
local macro_rules | `(tactic| walk_at "new") => `(tactic| intro _ _ _ _ _)
local macro_rules | `(tactic| walk_at "go1") => `(tactic| first
  | with_reducible refine g_seq ?_
  | with_reducible refine g_asg ?_
  | with_reducible refine g_name ?_
  | with_reducible refine g_drop ?_
  | with_reducible refine g_ret ?_
  | with_reducible refine g_for ?_
  | with_reducible refine g_lc ?_
  | with_reducible refine g_iL ?_
  | with_reducible refine g_iT ?_
  | with_reducible refine g_i1 ?_
  | with_reducible refine g_i2 ?_
  | with_reducible refine g_yes ?_
  | with_reducible refine g_ttr ?_
  | ((with_reducible refine' g_riL ?h ?_); (first | (case h => walk_at "sql") | fail))
  | ((with_reducible refine' g_riT ?h ?_); (first | (case h => walk_at "sqt") | fail))
  | ((with_reducible refine' g_ri1 ?h ?_); (first | (case h => (first | exact ⟨by decide, by decide⟩ | exact ⟨by omega, by omega⟩ | exact ⟨by simp only [List.length_map]; omega, by simp only [List.length_map]; omega⟩)) | fail))
  | ((with_reducible refine' g_ri2 ?h ?_); (first | (case h => (first | exact ⟨by decide, by decide, by decide, by decide⟩ | exact ⟨by omega, by omega, by omega, by omega⟩)) | fail))
  | with_reducible refine g_retN ?_
  | with_reducible refine g_next ?_
  | with_reducible refine g_cont ?_
  | with_reducible refine g_brk ?_
  | with_reducible refine g_ifs ?_
  | with_reducible refine g_test ?_
  | with_reducible refine g_tb ?_
  | with_reducible refine g_and ?_
  | with_reducible refine g_or ?_
  | with_reducible refine g_not ?_
  | with_reducible refine g_andV ?_
  | with_reducible refine g_orV ?_
  | with_reducible refine g_notV ?_
  | with_reducible refine g_ifE ?_
  | ((with_reducible refine' g_var ?h ?_); (first | (case h => exact rfl) | fail))
  | with_reducible refine g_c ?_
  | with_reducible refine g_op ?_
  | with_reducible refine g_cb ?_
  | with_reducible refine g_cl ?_
  | with_reducible refine g_nil ?_
  | with_reducible refine g_cons ?_
  | with_reducible refine g_tup ?_
  | with_reducible refine g_lst ?_
  | with_reducible refine g_fld ?_
  | with_reducible refine g_sfld ?_
  | with_reducible refine g_sub1 ?_
  | with_reducible refine g_flda ?_
  | with_reducible refine g_rAdd ?_
  | with_reducible refine g_rSub ?_
  | ((with_reducible refine' g_rfldb ?h ?l ?e ?_); (first | (case h => walk_at "fact") | fail); (first | (case l => exact Nat.le_of_ble_eq_true rfl) | fail); (first | (case e => exact rfl) | fail); intro _ _ _)
  | with_reducible refine g_mt ?_
  | with_reducible refine g_mk ?_
  | ((with_reducible refine g_rmk ?_); intro _ _ _ _ _ _ _ _ _)
  | with_reducible refine g_bm ?_
  | with_reducible refine g_bm0 ?_
  | with_reducible refine g_bl ?_
  | with_reducible refine g_add ?_
  | with_reducible refine g_sub ?_
  | with_reducible refine g_lt ?_
  | with_reducible refine g_le ?_
  | with_reducible refine g_gt ?_
  | with_reducible refine g_ge ?_
  | with_reducible refine g_eqI ?_
  | with_reducible refine g_neI ?_
  | with_reducible refine g_eqS ?_
  | with_reducible refine g_neS ?_
  | with_reducible refine g_eqB ?_
  | with_reducible refine g_isN ?_
  | with_reducible refine g_notN ?_
  | with_reducible refine g_max2 ?_
  | with_reducible refine g_min2 ?_
  | with_reducible refine g_ipI ?_
  | with_reducible refine g_iteT ?_
  | with_reducible refine g_iteF ?_
  | with_reducible refine g_iteNT ?_
  | with_reducible refine g_iteNF ?_
  | ((with_reducible refine' g_aug ?h ?_); (first | (case h => exact rfl) | fail))
  | ((with_reducible refine' g_mod ?h ?_); (first | (case h => (first | decide | omega | assumption | (simp only [List.length_map]; omega))) | fail))
  | ((with_reducible refine' g_div ?h ?_); (first | (case h => (first | exact ⟨by decide, by decide⟩ | assumption)) | fail))
  | ((with_reducible refine' g_pow ?h ?_); (first | (case h => (first | exact ⟨by decide, by decide, by decide⟩ | assumption)) | fail))
  | ((with_reducible refine' g_mul ?h ?_); (first | (case h => (first | exact Or.inr ⟨by decide, by decide⟩ | exact Or.inl ⟨by decide, by decide⟩ | exact Or.inr ⟨by omega, by omega⟩ | exact Or.inl ⟨by omega, by omega⟩ | assumption)) | fail))
  | ((with_reducible refine' g_newT ?h ?_); (first | (case h => exact Nat.le_of_ble_eq_true rfl) | fail); walk_at "new")
  | ((with_reducible refine' g_newL ?h ?_); (first | (case h => exact Nat.le_of_ble_eq_true rfl) | fail); walk_at "new")
  | ((with_reducible refine' g_lenL ?h ?_); (first | (case h => walk_at "sql") | fail))
  | ((with_reducible refine' g_lenT ?h ?_); (first | (case h => walk_at "sqt") | fail))
  | ((with_reducible refine' g_ixL ?h ?k ?_); (first | (case h => walk_at "sql") | fail); (first | (case k => exact rfl) | fail))
  | ((with_reducible refine' g_ixT ?h ?k ?_); (first | (case h => walk_at "sqt") | fail); (first | (case k => exact rfl) | fail))
  | ((with_reducible refine' g_listL ?h ?_); (first | (case h => walk_at "sql") | fail); walk_at "new")
  | ((with_reducible refine' g_listT ?h ?_); (first | (case h => walk_at "sqt") | fail); walk_at "new")
  | ((with_reducible refine' g_tupL ?h ?_); (first | (case h => walk_at "sql") | fail); walk_at "new")
  | ((with_reducible refine' g_bmL ?h ?_); (first | (case h => walk_at "fact") | fail))
  | ((with_reducible refine' g_isi ?h ?k ?_); (first | (case h => walk_at "ty") | fail); (first | (case k => walk_at "kb") | fail))
  | ((with_reducible refine' g_append ?h ?l ?_); (first | (case h => walk_at "fact") | fail); (first | (case l => walk_at "sz") | fail); intro _ _ _)
  | ((with_reducible refine' g_rmt ?h ?l ?_); (first | (case h => walk_at "fact") | fail); (first | (case l => exact rfl) | fail))
  | with_reducible refine g_sl ?_
  | with_reducible refine g_noP ?_
  | with_reducible refine g_part ?_
  | with_reducible refine g_rpart ?_
  | ((with_reducible refine' g_slL ?h ?_); (first | (case h => walk_at "sql") | fail); walk_at "new")
  | walk_at "go2"
  | walk_at "go3"
  | walk_at "own")
local macro_rules | `(tactic| walk_at "go") => `(tactic| repeat walk_at "go1")
local macro_rules | `(tactic| walk_at "rdt") => `(tactic| first
  | exact Or.inl (by walk_at "fact")
  | exact Or.inr ⟨_, by walk_at "fact"⟩)
local macro_rules | `(tactic| walk_at "go2") => `(tactic| first
  | with_reducible refine g_dget ?_
  | with_reducible refine g_din ?_
  | with_reducible refine g_dnin ?_
  | with_reducible refine g_dput ?_
  | with_reducible refine g_dget2 ?_
  | with_reducible refine g_dget1 ?_
  | with_reducible refine g_iK ?_
  | with_reducible refine g_iE ?_
  | with_reducible refine g_iZ ?_
  | with_reducible refine g_gcons ?_
  | with_reducible refine g_chain ?_
  | with_reducible refine g_rch ?_
  | with_reducible refine g_isO ?_
  | with_reducible refine g_notO ?_
  | with_reducible refine g_eqO ?_
  | with_reducible refine g_neB ?_
  | ((with_reducible refine' g_ninI ?h ?_); (first | (case h => walk_at "sql") | fail))
  | with_reducible refine g_gnil ?_
  | with_reducible refine g_lstRg ?_
  | ((with_reducible refine' g_gtup ?h ?l ?_); (first | (case h => walk_at "sqt") | fail); (first | (case l => exact rfl) | fail))
  | ((with_reducible refine g_dnew ?_); walk_at "new")
  | ((with_reducible refine g_dnewK ?_); walk_at "new")
  | ((with_reducible refine' g_unl ?h ?_); (first | (case h => walk_at "fact") | fail); intro _ _ _)
  | ((with_reducible refine' g_rdg2 ?h ?_); (first | (case h => walk_at "rdt") | fail))
  | ((with_reducible refine' g_rkt ?h ?_); (first | (case h => walk_at "fact") | fail))
  | ((with_reducible refine' g_ren ?h ?_); (first | (case h => walk_at "sql") | fail))
  | ((with_reducible refine' g_rzp ?h ?k ?_); (first | (case h => walk_at "sql") | fail); (first | (case k => walk_at "sql") | fail))
  | ((with_reducible refine' g_bmT ?h ?_); (first | (case h => walk_at "fact") | fail))
  | ((with_reducible refine' g_clearT ?h ?_); (first | (case h => walk_at "fact") | fail); intro _ _ _)
  | ((with_reducible refine' g_rlrg ?h ?_); (first | (case h => exact RgOk.of_le (by omega) (by omega) (by omega) (by omega)) | fail); walk_at "new"))

def top (i : Nat) : Stmt := PySem.Challenge.pw_manydoors_k04_plain_books.main.body.getD i (.Pass ⟨0, 0, 0, 0⟩)
abbrev s_nights_of : Stmt := top 1
abbrev s_needs_of : Stmt := top 2
abbrev s_Book_init : Stmt := inClass (top 3) 0
abbrev s_Book_free : Stmt := inClass (top 3) 1
abbrev s_Book_fits : Stmt := inClass (top 3) 2
abbrev s_Book_wish : Stmt := inClass (top 3) 3
abbrev s_Book_cancel : Stmt := inClass (top 3) 4
abbrev s_Book_change : Stmt := inClass (top 3) 5
abbrev s_Book_parties : Stmt := inClass (top 3) 6
abbrev s_Lmixed : Stmt := top 5
abbrev s_Lnumbers : Stmt := top 6
abbrev s_Ldraw : Stmt := top 7
abbrev s_Lequal : Stmt := top 8
abbrev s_Lall_equal : Stmt := top 9
abbrev s_Lsetup : Stmt := top 10
abbrev s_Lstay : Stmt := top 11
abbrev s_Lparty : Stmt := top 12
abbrev s_Lneeds : Stmt := top 13
abbrev s_Lfits : Stmt := top 14
abbrev s_Lchanged : Stmt := top 15
abbrev s_Lsame : Stmt := top 16
abbrev s_law : Stmt := top 17
/-- where the classes stand -/
structure Ad where
  Book : Addr
structure Txt (K : PySem.W.Frag) (mg : Str → Option Value) (A : Ad) : Prop where
  b_list : mg "list" = none
  b_range : mg "range" = none
  b_all : mg "all" = none
  b_dict : mg "dict" = none
  b_len : mg "len" = none
  b_isinstance : mg "isinstance" = none
  b_tuple : mg "tuple" = none
  b_bool : mg "bool" = none
  b_int : mg "int" = none
  b_str : mg "str" = none
  b_min : mg "min" = none
  b_sorted : mg "sorted" = none
  b_sum : mg "sum" = none
  cl_Book : Cls K A.Book
  no_Book_rooms : NoAttr K A.Book "rooms"
  no_Book_nights : NoAttr K A.Book "nights"
  no_Book_kept : NoAttr K A.Book "kept"
def F_Book (rooms : Addr) (nights : Int) (kept : Addr) : List (Str × V) := [("rooms", .ref rooms), ("nights", .int nights), ("kept", .ref kept)]
def spLaw (K : PySem.W.Frag) : Sp := fun vs H Q _ => ∃ x0, vs = [x0] ∧ ∃ (a : Addr) (ns : List Int), x0 = .ref a ∧ SqL K H a (ns.map V.int) ∧ ns.length ≤ 63 ∧ ∀ H', Q (.bl true) H'
local macro_rules | `(tactic| walk_at "own") => `(tactic| first
  | ((with_reducible refine' g_rfld (f := "rooms") (C := Ad.Book _) ?h (Txt.cl_Book (by assumption)) (Txt.no_Book_rooms (by assumption)) ?l ?_); (case h => walk_at "fact"); (case l => exact rfl))
  | ((with_reducible refine' g_rflds (f := "rooms") (C := Ad.Book _) ?h (Txt.cl_Book (by assumption)) (Txt.no_Book_rooms (by assumption)) ?l ?e ?_); (case h => walk_at "fact"); (case l => exact Nat.le_of_ble_eq_true rfl); (case e => exact rfl); intro _ _ _)
  | ((with_reducible refine' g_rflda (f := "rooms") (C := Ad.Book _) ?h (Txt.cl_Book (by assumption)) (Txt.no_Book_rooms (by assumption)) ?l ?_); (case h => walk_at "fact"); (case l => exact rfl))
  | ((with_reducible refine' g_rfld (f := "nights") (C := Ad.Book _) ?h (Txt.cl_Book (by assumption)) (Txt.no_Book_nights (by assumption)) ?l ?_); (case h => walk_at "fact"); (case l => exact rfl))
  | ((with_reducible refine' g_rflds (f := "nights") (C := Ad.Book _) ?h (Txt.cl_Book (by assumption)) (Txt.no_Book_nights (by assumption)) ?l ?e ?_); (case h => walk_at "fact"); (case l => exact Nat.le_of_ble_eq_true rfl); (case e => exact rfl); intro _ _ _)
  | ((with_reducible refine' g_rflda (f := "nights") (C := Ad.Book _) ?h (Txt.cl_Book (by assumption)) (Txt.no_Book_nights (by assumption)) ?l ?_); (case h => walk_at "fact"); (case l => exact rfl))
  | ((with_reducible refine' g_rfld (f := "kept") (C := Ad.Book _) ?h (Txt.cl_Book (by assumption)) (Txt.no_Book_kept (by assumption)) ?l ?_); (case h => walk_at "fact"); (case l => exact rfl))
  | ((with_reducible refine' g_rflds (f := "kept") (C := Ad.Book _) ?h (Txt.cl_Book (by assumption)) (Txt.no_Book_kept (by assumption)) ?l ?e ?_); (case h => walk_at "fact"); (case l => exact Nat.le_of_ble_eq_true rfl); (case e => exact rfl); intro _ _ _)
  | ((with_reducible refine' g_rflda (f := "kept") (C := Ad.Book _) ?h (Txt.cl_Book (by assumption)) (Txt.no_Book_kept (by assumption)) ?l ?_); (case h => walk_at "fact"); (case l => exact rfl)))
section
variable {P : Program} {w : World} {K : PySem.W.Frag} {mg : Str → Option Value} {base : Heap} {A : Ad}
def P_Lmixed (K : PySem.W.Frag) (A : Ad) (x0 x1 : V) (H : Hp) (Q : VK) : Prop := ∃ a b : Int, x0 = .int a ∧ x1 = .int b ∧ ∀ n : Int, 0 ≤ n → n < 2147483647 → Q (.int n) H
def sp_Lmixed (K : PySem.W.Frag) (A : Ad) : Sp := fun vs H Q _ => ∃ x0 x1, vs = [x0, x1] ∧ P_Lmixed K A x0 x1 H Q
theorem c_Lmixed {K : PySem.W.Frag} {A : Ad} {x0 x1 : V} {H : Hp} {Q : VK} {E : XK} (h : P_Lmixed K A x0 x1 H Q) : sp_Lmixed K A [x0, x1] H Q E := ⟨_, _, rfl, h⟩
theorem sc_Lmixed : FnScope ["_law_number", "_law_k", "_law_step"] ["_law_number", "_law_k"] (defScope s_Lmixed) := ⟨rfl, rfl, rfl, by decide +kernel, rfl, by decide +kernel, by decide +kernel⟩
def t_Lmixed (K : PySem.W.Frag) (A : Ad) : TS :=
  (tSeq (tAsg (tOp oMod (tOp oAdd (tOp oAdd (tOp oMul (tVar 0) (tC (.int 48271))) (tOp oMul (tVar 1) (tC (.int 69621)))) (tC (.int 12345))) (tC (.int 2147483647))) (gName 2))
    (tRet (tOp oMod (tOp oAdd (tOp oMul (tVar 2) (tOp oAdd (tOp oDiv (tVar 2) (tC (.int 65536))) (tC (.int 3)))) (tVar 1)) (tC (.int 2147483647)))))
theorem pu_Lmixed (T : Txt K mg A) {x0 x1 : V} {H : Hp} {Q : VK} (h : P_Lmixed K A x0 x1 H Q) : t_Lmixed K A { nx := fun _ H' => Q .non H', rt := Q } [some x0, some x1, none] H := by
  obtain ⟨a, b, rfl, rfl, k⟩ := h
  unfold t_Lmixed
  walk_at "go"
  exact k _ (Int.emod_nonneg _ (by decide)) (Int.emod_lt_of_pos _ (by decide))
theorem ok_Lmixed {f : Addr} {fd : FuncData} (F : Fun K "_law_mixed" "_law_mixed" s_Lmixed f fd) (T : Txt K mg A)  : FnOk P w K mg base CX0 (1) f fd ["_law_number", "_law_k"] (sp_Lmixed K A) := by
  refine F.ok sc_Lmixed (fun vs H Q E h => ?_) (fun cdv Ar outer s H vs Q E hr h => ⟨t_Lmixed K A, ?_, ?_⟩)
  · obtain ⟨x0, x1, rfl, _⟩ := h
    rfl
  · have hu := hu_of hr
    exact (pss_cons (ps_set (i := 2) sc_Lmixed.nd rfl (Or.inl rfl) (pe_op o_mod (pe_op o_add (pe_op o_add (pe_op o_mul (pv 0) pe_int) (pe_op o_mul (pv 1) pe_int)) pe_int) pe_int))
    (pss_one (ps_ret (pe_op o_mod (pe_op o_add (pe_op o_mul (pv 2) (pe_op o_add (pe_op o_div (pv 2) pe_int) pe_int)) (pv 1)) pe_int))))
  · obtain ⟨x0, x1, rfl, h⟩ := h
    exact pu_Lmixed T h
def Sml (ms : List Int) : Prop := ∀ m ∈ ms, 0 ≤ m ∧ m < 1000000
theorem Sml.snoc {ms : List Int} (h : Sml ms) (z : Int) : Sml (ms ++ [z % 1000000]) := fun m hm => by
  rcases List.mem_append.mp hm with q | q
  · exact h m q
  · rw [List.mem_singleton.mp q]; exact ⟨Int.emod_nonneg _ (by decide), Int.emod_lt_of_pos _ (by decide)⟩
def P_Lnumbers (K : PySem.W.Frag) (A : Ad) (x0 : V) (H : Hp) (Q : VK) : Prop := ∃ (a : Addr) (ns : List Int), x0 = .ref a ∧ SqL K H a (ns.map V.int) ∧ ns.length ≤ 63 ∧
  ∀ (l : Addr) (ms : List Int) (H' : Hp), H l = none → Fr [] H H' → H' l = some (.lst (ms.map V.int)) → Sml ms → ms.length ≤ 10000 → Q (.ref l) H'
def sp_Lnumbers (K : PySem.W.Frag) (A : Ad) : Sp := fun vs H Q _ => ∃ x0, vs = [x0] ∧ P_Lnumbers K A x0 H Q
theorem c_Lnumbers {K : PySem.W.Frag} {A : Ad} {x0 : V} {H : Hp} {Q : VK} {E : XK} (h : P_Lnumbers K A x0 H Q) : sp_Lnumbers K A [x0] H Q E := ⟨_, rfl, h⟩
theorem sc_Lnumbers : FnScope ["_law_script", "_law_numbers_here", "_law_cell", "_law_rest", "_law_k"] ["_law_script"] (defScope s_Lnumbers) := ⟨rfl, rfl, rfl, by decide +kernel, rfl, by decide +kernel, by decide +kernel⟩
def t_Lnumbers (K : PySem.W.Frag) (A : Ad) : TS :=
  (tSeq (tAsg (tLst tNil) (gName 1))
    (tSeq (tFor (iList K (tVar 0)) (gName 2) (tIfS (tTest (tOp cGe (tVar 2) (tOp oPow (tC (.int 10)) (tC (.int 18))))) (tSeq (tAsg (tVar 2) (gName 3))
    (tFor (iRng1 (tCons (tC (.int 60)) tNil)) (gName 4) (tIfS (tTest (tOp cGt (tVar 3) (tC (.int 0)))) (tSeq (tDrop (tBM K "list" rAppend (tVar 1) (tCons (tOp oMod (tVar 3) (tC (.int 1000000))) tNil)))
    (tAsg (tOp oDiv (tVar 3) (tC (.int 1000000))) (gName 3))) tNext))) (tSeq (tDrop (tBM K "list" rAppend (tVar 1) (tCons (tOp oMod (tVar 2) (tC (.int 1000000))) tNil)))
    (tFor (iRng1 (tCons (tC (.int 5)) tNil)) (gName 4) (tDrop (tBM K "list" rAppend (tVar 1) (tCons (tOp oMod (tCl (sp_Lmixed K A) (tCons (tCl (sp_Lmixed K A) (tCons (tOp oMod (tVar 2) (tC (.int 2147483647))) (tCons (tVar 4) tNil))) (tCons (tOp oAdd (tVar 4) (tC (.int 7))) tNil))) (tC (.int 1000000))) tNil)))))))
    (tRet (tVar 1))))
theorem pu_Lnumbers (T : Txt K mg A) {x0 : V} {H : Hp} {Q : VK} (h : P_Lnumbers K A x0 H Q) : t_Lnumbers K A { nx := fun _ H' => Q .non H', rt := Q } [some x0, none, none, none, none] H := by
  obtain ⟨a, ns, rfl, hS, hl, k⟩ := h
  unfold t_Lnumbers
  walk_at "go"
  rename_i l H0 nl f0 e0
  refine f_list (xs := ns.map V.int) (fun i σ H' => ∃ (ms : List Int) (v1 v2 v3 : Option V), σ = [some (.ref a), some (.ref l), v1, v2, v3] ∧ Fr [] H H' ∧ H' l = some (.lst (ms.map V.int)) ∧ Sml ms ∧ ms.length ≤ 60 * i)
    ⟨[], none, none, none, rfl, f0, e0, fun _ q => (nomatch q), Nat.zero_le _⟩ ?_ ?_ ?_
  · rintro i σ H' _ ⟨ms, v1, v2, v3, rfl, f, e, s, hm⟩
    exact f.sql hS nin0
  · rintro i x σ H1 hx ⟨ms, v1, v2, v3, rfl, f1, e1, s1, hm⟩
    obtain ⟨n, rfl, hn, hmem⟩ := getI hx
    have hi : i < 63 := Nat.lt_of_lt_of_le ((List.getElem?_eq_some_iff.mp hn).1) hl
    walk_at "go"
    refine g_ite (fun c => ?_) (fun c => ?_)
    · walk_at "go"
      refine f_range (lo := 0) (n := 60) (fun j σ H' => ∃ (ms : List Int) (r : Int) (v3 : Option V), σ = [some (.ref a), some (.ref l), some (.int n), some (.int r), v3] ∧ Fr [] H H' ∧ H' l = some (.lst (ms.map V.int)) ∧ Sml ms ∧ ms.length ≤ 60 * i + j)
        ⟨ms, n, v3, rfl, f1, e1, s1, by omega⟩ ?_ ?_
      · rintro j σ H2 hj ⟨ms2, r, v3, rfl, f2, e2, s2, hm2⟩
        walk_at "go"
        refine g_ite (fun c => ?_) (fun c => ?_)
        · walk_at "go"
          rename_i H3 f3 e3
          exact ⟨ms2 ++ [r % 1000000], _, _, rfl, f2.own1 f3 nl, by rw [e3, List.map_append] <;> rfl, s2.snoc r, by rw [List.length_append]; exact Nat.add_le_add_right hm2 1⟩
        · walk_at "go"
          exact ⟨ms2, _, _, rfl, f2, e2, s2, by omega⟩
      · rintro σ H2 ⟨ms2, r, v3, rfl, f2, e2, s2, hm2⟩
        exact ⟨ms2, _, _, _, rfl, f2, e2, s2, by omega⟩
    · walk_at "go"
      rename_i H3 f3 e3
      refine f_range (lo := 0) (n := 5) (fun j σ H' => ∃ (ms : List Int) (v2 v3 : Option V), σ = [some (.ref a), some (.ref l), some (.int n), v2, v3] ∧ Fr [] H H' ∧ H' l = some (.lst (ms.map V.int)) ∧ Sml ms ∧ ms.length ≤ 60 * i + 1 + j)
        ⟨ms ++ [n % 1000000], v2, v3, rfl, f1.own1 f3 nl, by rw [e3, List.map_append] <;> rfl, s1.snoc n, by rw [List.length_append]; exact Nat.add_le_add_right hm 1⟩ ?_ ?_
      · rintro j σ H4 hj ⟨ms2, v2, v3, rfl, f4, e4, s4, hm4⟩
        walk_at "go"
        refine c_Lmixed ⟨_, _, rfl, rfl, fun z _ _ => ?_⟩
        walk_at "go"
        refine c_Lmixed ⟨_, _, rfl, rfl, fun z2 _ _ => ?_⟩
        walk_at "go"
        rename_i H5 f5 e5
        exact ⟨ms2 ++ [z2 % 1000000], _, _, rfl, f4.own1 f5 nl, by rw [e5, List.map_append] <;> rfl, s4.snoc z2, by rw [List.length_append]; exact Nat.add_le_add_right hm4 1⟩
      · rintro σ H4 ⟨ms2, v2, v3, rfl, f4, e4, s4, hm4⟩
        exact ⟨ms2, _, _, _, rfl, f4, e4, s4, by omega⟩
  · rintro σ H1 ⟨ms, v1, v2, v3, rfl, f1, e1, s1, hm⟩
    walk_at "go"
    rw [List.length_map] at hm
    exact k l ms H1 nl f1 e1 s1 (by omega)
theorem ok_Lnumbers {f : Addr} {fd : FuncData} (F : Fun K "_law_numbers" "_law_numbers" s_Lnumbers f fd) (T : Txt K mg A) (c_Lmixed : Cal P w K mg base "_law_mixed" 1 ["_law_number", "_law_k"] (sp_Lmixed K A)) : FnOk P w K mg base CX0 (2) f fd ["_law_script"] (sp_Lnumbers K A) := by
  refine F.ok sc_Lnumbers (fun vs H Q E h => ?_) (fun cdv Ar outer s H vs Q E hr h => ⟨t_Lnumbers K A, ?_, ?_⟩)
  · obtain ⟨x0, rfl, _⟩ := h
    rfl
  · have hu := hu_of hr
    exact (pss_cons (ps_set (i := 1) sc_Lnumbers.nd rfl (Or.inl rfl) (pe_lst pa_nil))
    (pss_cons (ps_for PassesOwn.never rfl (pi_list (pv 0)) (pg_name (i := 2) sc_Lnumbers.nd rfl (Or.inl rfl)) (pss_one (ps_if (pt_cmpR c_ge (pv 2) (pe_op o_pow pe_int pe_int) (nomark _)) (pss_cons (ps_set (i := 3) sc_Lnumbers.nd rfl (Or.inl rfl) (pv 2))
    (pss_one (ps_for PassesOwn.never rfl (pi_range1 rfl T.b_range (pa_cons pe_int pa_nil)) (pg_name (i := 4) sc_Lnumbers.nd rfl (Or.inl rfl)) (pss_one (ps_if (pt_cmpR c_gt (pv 3) pe_int (nomark _)) (pss_cons (ps_expr (pe_bm PySem.F.plainAttrs_list PySem.F.slot_list_append PySem.F.type_list_append mt_append (pv 1) (pa_cons (pe_op o_mod (pv 3) pe_int) pa_nil)))
    (pss_one (ps_set (i := 3) sc_Lnumbers.nd rfl (Or.inl rfl) (pe_op o_div (pv 3) pe_int)))) pss_nil))))) (pss_cons (ps_expr (pe_bm PySem.F.plainAttrs_list PySem.F.slot_list_append PySem.F.type_list_append mt_append (pv 1) (pa_cons (pe_op o_mod (pv 2) pe_int) pa_nil)))
    (pss_one (ps_for PassesOwn.never rfl (pi_range1 rfl T.b_range (pa_cons pe_int pa_nil)) (pg_name (i := 4) sc_Lnumbers.nd rfl (Or.inl rfl)) (pss_one (ps_expr (pe_bm PySem.F.plainAttrs_list PySem.F.slot_list_append PySem.F.type_list_append mt_append (pv 1) (pa_cons (pe_op o_mod (pe_cl c_Lmixed (hr.mono (by first | decide | omega)) (by rfl) (pa_cons (pe_cl c_Lmixed (hr.mono (by first | decide | omega)) (by rfl) (pa_cons (pe_op o_mod (pv 2) pe_int) (pa_cons (pv 4) pa_nil))) (pa_cons (pe_op o_add (pv 4) pe_int) pa_nil))) pe_int) pa_nil))))))))))
    (pss_one (ps_ret (pv 1)))))
  · obtain ⟨x0, rfl, h⟩ := h
    exact pu_Lnumbers T h
/-- the draws: a list of the numbers' list and a place -/
def Draws (H : Hp) (d l : Addr) : Prop := ∃ (ms : List Int) (k : Int), H d = some (.lst [.ref l, .int k]) ∧ H l = some (.lst (ms.map V.int)) ∧ Sml ms ∧ ms.length ≤ 10000 ∧ 0 ≤ k
theorem Draws.fr {H H' : Hp} {d l : Addr} {m : List Addr} (h : Draws H d l) (f : Fr m H H') (n1 : d ∉ m) (n2 : l ∉ m) : Draws H' d l := by
  obtain ⟨ms, k, h1, h2, h3⟩ := h
  exact ⟨ms, k, f.at h1 n1, f.at h2 n2, h3⟩
def P_Ldraw (K : PySem.W.Frag) (A : Ad) (x0 : V) (H : Hp) (Q : VK) : Prop := ∃ (d l : Addr), x0 = .ref d ∧ Draws H d l ∧
  ∀ (n : Int) (H' : Hp), 0 ≤ n → n < 1000000 → Fr [d] H H' → Draws H' d l → Q (.int n) H'
def sp_Ldraw (K : PySem.W.Frag) (A : Ad) : Sp := fun vs H Q _ => ∃ x0, vs = [x0] ∧ P_Ldraw K A x0 H Q
theorem c_Ldraw {K : PySem.W.Frag} {A : Ad} {x0 : V} {H : Hp} {Q : VK} {E : XK} (h : P_Ldraw K A x0 H Q) : sp_Ldraw K A [x0] H Q E := ⟨_, rfl, h⟩
theorem sc_Ldraw : FnScope ["_law_draws", "_law_at", "_law_first"] ["_law_draws"] (defScope s_Ldraw) := ⟨rfl, rfl, rfl, by decide +kernel, rfl, by decide +kernel, by decide +kernel⟩
def t_Ldraw (K : PySem.W.Frag) (A : Ad) : TS :=
  (tSeq (tAsg (tOp (rIxL K) (tVar 0) (tC (.int 1))) (gName 1))
    (tSeq (tAsg (tOp oAdd (tVar 1) (tC (.int 1))) (gSub (tVar 0) (tC (.int 1)) rSetL))
    (tSeq (tIfS (tTest (tOp cLt (tVar 1) (tCB (rLenSq K) (tCons (tOp (rIxL K) (tVar 0) (tC (.int 0))) tNil)))) (tRet (tOp (rIxL K) (tOp (rIxL K) (tVar 0) (tC (.int 0))) (tVar 1))) tNext)
    (tSeq (tAsg (tOp oAdd (tC (.int 1)) (tVar 1)) (gName 2))
    (tSeq (tIfS (tTest (tOp cGt (tCB (rLenSq K) (tCons (tOp (rIxL K) (tVar 0) (tC (.int 0))) tNil)) (tC (.int 0)))) (tAsg (tOp oAdd (tVar 2) (tOp oMul (tC (.int 1009)) (tOp (rIxL K) (tOp (rIxL K) (tVar 0) (tC (.int 0))) (tC (.int 0))))) (gName 2)) tNext)
    (tRet (tOp oMod (tCl (sp_Lmixed K A) (tCons (tCl (sp_Lmixed K A) (tCons (tVar 2) (tCons (tVar 1) tNil))) (tCons (tC (.int 5)) tNil))) (tC (.int 1000000)))))))))
theorem pu_Ldraw (T : Txt K mg A) {x0 : V} {H : Hp} {Q : VK} (h : P_Ldraw K A x0 H Q) : t_Ldraw K A { nx := fun _ H' => Q .non H', rt := Q } [some x0, none, none] H := by
  obtain ⟨d, l, rfl, ⟨ms, k, hd, hL, sm, hlen, hk⟩, q⟩ := h
  unfold t_Ldraw
  walk_at "go"
  refine g_setL hd (j := 1) rfl fun H1 f1 e1 => ?_
  have nld : l ≠ d := fun z => by
    subst z
    rw [hd] at hL
    have e := congrArg List.length (HO.lst.inj (Option.some.inj hL))
    cases ms with
    | nil => cases e
    | cons a r => cases HO.lst.inj (Option.some.inj hL)
  have hL1 : H1 l = some (.lst (ms.map V.int)) := f1.at hL (nin1 nld nin0)
  have D1 : Draws H1 d l := ⟨ms, k + 1, e1, hL1, sm, hlen, by omega⟩
  have e1' : H1 d = some (.lst [.ref l, .int (k + 1)]) := e1
  walk_at "go"
  rw [List.length_map]
  refine g_ite (fun c => ?_) (fun c => ?_)
  · walk_at "go"
    obtain ⟨v, hv, hv2⟩ := atI_of (xs := ms.map V.int) hk (by rw [List.length_map]; exact c)
    obtain ⟨n, rfl, _, hmem⟩ := getI hv2
    refine g_ixL (SqL.of hL1) hv ?_
    exact q n H1 (sm n hmem).1 (sm n hmem).2 f1 D1
  · have fin : ∀ n : Int, Q (.int (n % 1000000)) H1 := fun n => q _ H1 (Int.emod_nonneg _ (by decide)) (Int.emod_lt_of_pos _ (by decide)) f1 D1
    walk_at "go"
    rw [List.length_map]
    refine g_ite (fun c2 => ?_) (fun c2 => ?_)
    · walk_at "go"
      obtain ⟨v, hv, hv2⟩ := atI_of (xs := ms.map V.int) (z := 0) (Int.le_refl _) (by rw [List.length_map]; exact c2)
      obtain ⟨n, rfl, _, hmem⟩ := getI hv2
      refine g_ixL (SqL.of hL1) hv ?_
      walk_at "go"
      refine c_Lmixed ⟨_, _, rfl, rfl, fun z _ _ => ?_⟩
      walk_at "go"
      refine c_Lmixed ⟨_, _, rfl, rfl, fun z2 _ _ => ?_⟩
      walk_at "go"
      exact fin z2
    · walk_at "go"
      refine c_Lmixed ⟨_, _, rfl, rfl, fun z _ _ => ?_⟩
      walk_at "go"
      refine c_Lmixed ⟨_, _, rfl, rfl, fun z2 _ _ => ?_⟩
      walk_at "go"
      exact fin z2
theorem ok_Ldraw {f : Addr} {fd : FuncData} (F : Fun K "_law_draw" "_law_draw" s_Ldraw f fd) (T : Txt K mg A) (c_Lmixed : Cal P w K mg base "_law_mixed" 1 ["_law_number", "_law_k"] (sp_Lmixed K A)) : FnOk P w K mg base CX0 (2) f fd ["_law_draws"] (sp_Ldraw K A) := by
  refine F.ok sc_Ldraw (fun vs H Q E h => ?_) (fun cdv Ar outer s H vs Q E hr h => ⟨t_Ldraw K A, ?_, ?_⟩)
  · obtain ⟨x0, rfl, _⟩ := h
    rfl
  · have hu := hu_of hr
    exact (pss_cons (ps_set (i := 1) sc_Ldraw.nd rfl (Or.inl rfl) (pe_ix ix_list (pv 0) pe_int (fun _ _ => rfl)))
    (pss_cons (ps_asg (pe_op o_add (pv 1) pe_int) (pg_sub (pv 0) pe_int set_list))
    (pss_cons (ps_if (pt_cmpR c_lt (pv 1) (pe_callB b_len (by rfl) T.b_len (by decide +kernel) (pa_cons (pe_ix ix_list (pv 0) pe_int (fun _ _ => rfl)) pa_nil)) (nomark _)) (pss_one (ps_ret (pe_ix ix_list (pe_ix ix_list (pv 0) pe_int (fun _ _ => rfl)) (pv 1) (fun _ _ => rfl)))) pss_nil)
    (pss_cons (ps_set (i := 2) sc_Ldraw.nd rfl (Or.inl rfl) (pe_op o_add pe_int (pv 1)))
    (pss_cons (ps_if (pt_cmpR c_gt (pe_callB b_len (by rfl) T.b_len (by decide +kernel) (pa_cons (pe_ix ix_list (pv 0) pe_int (fun _ _ => rfl)) pa_nil)) pe_int (nomark _)) (pss_one (ps_set (i := 2) sc_Ldraw.nd rfl (Or.inl rfl) (pe_op o_add (pv 2) (pe_op o_mul pe_int (pe_ix ix_list (pe_ix ix_list (pv 0) pe_int (fun _ _ => rfl)) pe_int (fun _ _ => rfl)))))) pss_nil)
    (pss_one (ps_ret (pe_op o_mod (pe_cl c_Lmixed (hr.mono (by first | decide | omega)) (by rfl) (pa_cons (pe_cl c_Lmixed (hr.mono (by first | decide | omega)) (by rfl) (pa_cons (pv 2) (pa_cons (pv 1) pa_nil))) (pa_cons pe_int pa_nil))) pe_int))))))))
  · obtain ⟨x0, rfl, h⟩ := h
    exact pu_Ldraw T h
theorem Draws.new1 {H : Hp} {d l p : Addr} (h : Draws H d l) (e : H p = none) : d ≠ p := by
  obtain ⟨ms, k, h1, h2, _⟩ := h
  exact ne_of_none h1 e
theorem Draws.new2 {H : Hp} {d l p : Addr} (h : Draws H d l) (e : H p = none) : l ≠ p := by
  obtain ⟨ms, k, h1, h2, _⟩ := h
  exact ne_of_none h2 e
theorem Draws.ne {H : Hp} {d l p C dx : Addr} {fs : List (Str × V)} (h : Draws H d l) (e : H p = some (.ins C dx fs)) : d ≠ p ∧ l ≠ p := by
  obtain ⟨ms, k, h1, h2, _⟩ := h
  exact ⟨ne_of h1 e (by intro z; cases z), ne_of h2 e (by intro z; cases z)⟩
theorem Draws.ne' {H : Hp} {d l p : Addr} {xs : List V} (h : Draws H d l) (e : H p = some (.lst xs)) (n : xs.length ≠ 2) : d ≠ p := by
  obtain ⟨ms, k, h1, h2, _⟩ := h
  exact ne_of h1 e (by intro z; cases z; exact n rfl)
local macro_rules | `(tactic| walk_at "drw") => `(tactic| first
  | assumption
  | ((refine' Draws.fr ?h (by assumption) ?k ?l); (first | (case h => walk_at "drw") | fail); (first | (case k => walk_at "nin") | fail); (first | (case l => walk_at "nin") | fail)))
local macro_rules | `(tactic| walk_at "ne2") => `(tactic| first
  | exact Draws.new1 (by walk_at "drw") (by assumption) | exact Draws.new2 (by walk_at "drw") (by assumption)
  | exact Ne.symm (Draws.new1 (by walk_at "drw") (by assumption)) | exact Ne.symm (Draws.new2 (by walk_at "drw") (by assumption)))
local macro_rules | `(tactic| walk_at "go3") => `(tactic| ((with_reducible show sp_Ldraw _ _ _ _ _ _); refine' c_Ldraw ⟨_, _, rfl, ?D, ?_⟩; (first | (case D => walk_at "drw") | fail); intro _ _ _ _ _ _))


/-! ### _law_equal, _law_all_equal: what reads as one datum is found equal -/
def SeqD (H : Hp) (x : V) (ds : List PyData) : Prop := ∃ (a : Addr) (xs : List V), x = .ref a ∧ (H a = some (.lst xs) ∨ H a = some (.tup xs)) ∧ xs.length ≤ 1000000 ∧ DaL H xs ds
def P_Lequal (K : PySem.W.Frag) (A : Ad) (m : Nat) (x0 x1 : V) (H : Hp) (Q : VK) : Prop := ∃ d : PyData, Da H x0 d ∧ Da H x1 d ∧ dp d ≤ m ∧ Q (.bl true) H
def P_Lall_equal (K : PySem.W.Frag) (A : Ad) (m : Nat) (x0 x1 : V) (H : Hp) (Q : VK) : Prop := ∃ ds : List PyData, SeqD H x0 ds ∧ SeqD H x1 ds ∧ dpL ds + 1 ≤ m ∧ Q (.bl true) H
def sp_Lequal (K : PySem.W.Frag) (A : Ad) (m : Nat) : Sp := fun vs H Q _ => ∃ x0 x1, vs = [x0, x1] ∧ P_Lequal K A m x0 x1 H Q
theorem c_Lequal {K : PySem.W.Frag} {A : Ad} {m : Nat} {x0 x1 : V} {H : Hp} {Q : VK} {E : XK} (h : P_Lequal K A m x0 x1 H Q) : sp_Lequal K A m [x0, x1] H Q E := ⟨_, _, rfl, h⟩
def sp_Lall_equal (K : PySem.W.Frag) (A : Ad) (m : Nat) : Sp := fun vs H Q _ => ∃ x0 x1, vs = [x0, x1] ∧ P_Lall_equal K A m x0 x1 H Q
theorem c_Lall_equal {K : PySem.W.Frag} {A : Ad} {m : Nat} {x0 x1 : V} {H : Hp} {Q : VK} {E : XK} (h : P_Lall_equal K A m x0 x1 H Q) : sp_Lall_equal K A m [x0, x1] H Q E := ⟨_, _, rfl, h⟩
theorem sc_Lequal : FnScope ["_law_actual", "_law_due"] ["_law_actual", "_law_due"] (defScope s_Lequal) := ⟨rfl, rfl, rfl, by decide +kernel, rfl, by decide +kernel, by decide +kernel⟩
def t_Lequal (K : PySem.W.Frag) (A : Ad) (m : Nat) : TS :=
  (tSeq (tIfS (tB (tCB (rIsi K) (tCons (tVar 1) (tCons (tC (.ty "list")) tNil)))) (tSeq (tIfS (tOr (tNot (tB (tCB (rIsi K) (tCons (tVar 0) (tCons (tC (.ty "list")) tNil))))) (tTest (tOp rNe (tCB (rLenSq K) (tCons (tVar 0) tNil)) (tCB (rLenSq K) (tCons (tVar 1) tNil))))) (tRet (tC (.bl false))) tNext)
    (tRet (tCl (sp_Lall_equal K A m) (tCons (tVar 0) (tCons (tVar 1) tNil))))) tNext)
    (tSeq (tIfS (tB (tCB (rIsi K) (tCons (tVar 1) (tCons (tC (.ty "tuple")) tNil)))) (tSeq (tIfS (tOr (tNot (tB (tCB (rIsi K) (tCons (tVar 0) (tCons (tC (.ty "tuple")) tNil))))) (tTest (tOp rNe (tCB (rLenSq K) (tCons (tVar 0) tNil)) (tCB (rLenSq K) (tCons (tVar 1) tNil))))) (tRet (tC (.bl false))) tNext)
    (tRet (tCl (sp_Lall_equal K A m) (tCons (tVar 0) (tCons (tVar 1) tNil))))) tNext)
    (tSeq (tIfS (tB (tCB (rIsi K) (tCons (tVar 1) (tCons (tC (.ty "bool")) tNil)))) (tRet (tAndV (tCB (rIsi K) (tCons (tVar 0) (tCons (tC (.ty "bool")) tNil))) (tOp rEq (tVar 0) (tVar 1)))) tNext)
    (tSeq (tIfS (tB (tCB (rIsi K) (tCons (tVar 1) (tCons (tC (.ty "int")) tNil)))) (tRet (tAndV (tCB (rIsi K) (tCons (tVar 0) (tCons (tC (.ty "int")) tNil))) (tAndV (tNotV (tCB (rIsi K) (tCons (tVar 0) (tCons (tC (.ty "bool")) tNil)))) (tOp rEq (tVar 0) (tVar 1))))) tNext)
    (tSeq (tIfS (tB (tCB (rIsi K) (tCons (tVar 1) (tCons (tC (.ty "str")) tNil)))) (tRet (tAndV (tCB (rIsi K) (tCons (tVar 0) (tCons (tC (.ty "str")) tNil))) (tOp rEq (tVar 0) (tVar 1)))) tNext)
    (tRet (tOp rIsNon (tVar 0) (tC .non))))))))
theorem pu_Lequal (T : Txt K mg A) {m : Nat} {x0 x1 : V} {H : Hp} {Q : VK} (h : P_Lequal K A m x0 x1 H Q) : t_Lequal K A m { nx := fun _ H' => Q .non H', rt := Q } [some x0, some x1] H := by
  obtain ⟨d, h0, h1, hm, q⟩ := h
  unfold t_Lequal
  cases h0 with
  | non =>
    cases h1
    walk_at "go"
    exact q
  | bl b =>
    cases h1
    walk_at "go"
    simpa using q
  | int i =>
    cases h1
    walk_at "go"
    simpa using q
  | str z =>
    cases h1
    walk_at "go"
    simpa using q
  | lst e0 z0 r0 =>
    cases h1 with
    | lst e1 z1 r1 =>
      walk_at "go"
      refine g_iteN (fun c => absurd (by rw [r0.len, r1.len]) c) (fun c => ?_)
      walk_at "go"
      refine c_Lall_equal ⟨_, ⟨_, _, rfl, .inl e0, z0, r0⟩, ⟨_, _, rfl, .inl e1, z1, r1⟩, ?_, q⟩
      simpa [dp] using hm
  | tup e0 z0 r0 =>
    cases h1 with
    | tup e1 z1 r1 =>
      walk_at "go"
      refine g_iteN (fun c => absurd (by rw [r0.len, r1.len]) c) (fun c => ?_)
      walk_at "go"
      refine c_Lall_equal ⟨_, ⟨_, _, rfl, .inr e0, z0, r0⟩, ⟨_, _, rfl, .inr e1, z1, r1⟩, ?_, q⟩
      simpa [dp] using hm
theorem ok_Lequal {f : Addr} {fd : FuncData} (F : Fun K "_law_equal" "_law_equal" s_Lequal f fd) (T : Txt K mg A) {m : Nat} (c_Lall_equal : Cal P w K mg base "_law_all_equal" (2 * m) ["_law_actual", "_law_due"] (sp_Lall_equal K A m)) : FnOk P w K mg base CX0 (2 * m + 1) f fd ["_law_actual", "_law_due"] (sp_Lequal K A m) := by
  refine F.ok sc_Lequal (fun vs H Q E h => ?_) (fun cdv Ar outer s H vs Q E hr h => ⟨t_Lequal K A m, ?_, ?_⟩)
  · obtain ⟨x0, x1, rfl, _⟩ := h
    rfl
  · have hu := hu_of hr
    exact (pss_cons (ps_if (pt_val (pe_callB call_isi (by rfl) T.b_isinstance (by decide +kernel) (pa_cons (pv 1) (pa_cons (pe_bltn (by rfl) T.b_list (by decide +kernel) (v := .ty "list") rfl) pa_nil)))) (pss_cons (ps_if (PW.pt (pw_or (pt_not (pt_val (pe_callB call_isi (by rfl) T.b_isinstance (by decide +kernel) (pa_cons (pv 0) (pa_cons (pe_bltn (by rfl) T.b_list (by decide +kernel) (v := .ty "list") rfl) pa_nil))))) (pw_or1 (pt_cmpR op_ne (pe_callB b_len (by rfl) T.b_len (by decide +kernel) (pa_cons (pv 0) pa_nil)) (pe_callB b_len (by rfl) T.b_len (by decide +kernel) (pa_cons (pv 1) pa_nil)) (nomark _))))) (pss_one (ps_ret pe_bl)) pss_nil)
    (pss_one (ps_ret (pe_cl c_Lall_equal (hr.mono (by first | decide | omega)) (by rfl) (pa_cons (pv 0) (pa_cons (pv 1) pa_nil)))))) pss_nil)
    (pss_cons (ps_if (pt_val (pe_callB call_isi (by rfl) T.b_isinstance (by decide +kernel) (pa_cons (pv 1) (pa_cons (pe_bltn (by rfl) T.b_tuple (by decide +kernel) (v := .ty "tuple") rfl) pa_nil)))) (pss_cons (ps_if (PW.pt (pw_or (pt_not (pt_val (pe_callB call_isi (by rfl) T.b_isinstance (by decide +kernel) (pa_cons (pv 0) (pa_cons (pe_bltn (by rfl) T.b_tuple (by decide +kernel) (v := .ty "tuple") rfl) pa_nil))))) (pw_or1 (pt_cmpR op_ne (pe_callB b_len (by rfl) T.b_len (by decide +kernel) (pa_cons (pv 0) pa_nil)) (pe_callB b_len (by rfl) T.b_len (by decide +kernel) (pa_cons (pv 1) pa_nil)) (nomark _))))) (pss_one (ps_ret pe_bl)) pss_nil)
    (pss_one (ps_ret (pe_cl c_Lall_equal (hr.mono (by first | decide | omega)) (by rfl) (pa_cons (pv 0) (pa_cons (pv 1) pa_nil)))))) pss_nil)
    (pss_cons (ps_if (pt_val (pe_callB call_isi (by rfl) T.b_isinstance (by decide +kernel) (pa_cons (pv 1) (pa_cons (pe_bltn (by rfl) T.b_bool (by decide +kernel) (v := .ty "bool") rfl) pa_nil)))) (pss_one (ps_ret (pe_and (pe_callB call_isi (by rfl) T.b_isinstance (by decide +kernel) (pa_cons (pv 0) (pa_cons (pe_bltn (by rfl) T.b_bool (by decide +kernel) (v := .ty "bool") rfl) pa_nil))) (pe_one (pe_cmpR op_eq (pv 0) (pv 1) (nomark _)))))) pss_nil)
    (pss_cons (ps_if (pt_val (pe_callB call_isi (by rfl) T.b_isinstance (by decide +kernel) (pa_cons (pv 1) (pa_cons (pe_bltn (by rfl) T.b_int (by decide +kernel) (v := .ty "int") rfl) pa_nil)))) (pss_one (ps_ret (pe_and (pe_callB call_isi (by rfl) T.b_isinstance (by decide +kernel) (pa_cons (pv 0) (pa_cons (pe_bltn (by rfl) T.b_int (by decide +kernel) (v := .ty "int") rfl) pa_nil))) (pe_and (pe_not (pe_callB call_isi (by rfl) T.b_isinstance (by decide +kernel) (pa_cons (pv 0) (pa_cons (pe_bltn (by rfl) T.b_bool (by decide +kernel) (v := .ty "bool") rfl) pa_nil)))) (pe_one (pe_cmpR op_eq (pv 0) (pv 1) (nomark _))))))) pss_nil)
    (pss_cons (ps_if (pt_val (pe_callB call_isi (by rfl) T.b_isinstance (by decide +kernel) (pa_cons (pv 1) (pa_cons (pe_bltn (by rfl) T.b_str (by decide +kernel) (v := .ty "str") rfl) pa_nil)))) (pss_one (ps_ret (pe_and (pe_callB call_isi (by rfl) T.b_isinstance (by decide +kernel) (pa_cons (pv 0) (pa_cons (pe_bltn (by rfl) T.b_str (by decide +kernel) (v := .ty "str") rfl) pa_nil))) (pe_one (pe_cmpR op_eq (pv 0) (pv 1) (nomark _)))))) pss_nil)
    (pss_one (ps_ret (pe_cmpR c_isN (pv 0) pe_non (nomark _)))))))))
  · obtain ⟨x0, x1, rfl, h⟩ := h
    exact pu_Lequal T h
theorem sc_Lall_equal : FnScope ["_law_actual", "_law_due", "_law_k"] ["_law_actual", "_law_due"] (defScope s_Lall_equal) := ⟨rfl, rfl, rfl, by decide +kernel, rfl, by decide +kernel, by decide +kernel⟩
def t_Lall_equal (K : PySem.W.Frag) (A : Ad) (m : Nat) : TS :=
  (tSeq (tFor (iRng1 (tCons (tCB (rLenSq K) (tCons (tVar 1) tNil)) tNil)) (gName 2) (tIfS (tNot (tB (tCl (sp_Lequal K A m) (tCons (tOp (rIx K) (tVar 0) (tVar 2)) (tCons (tOp (rIx K) (tVar 1) (tVar 2)) tNil))))) (tRet (tC (.bl false))) tNext))
    (tRet (tC (.bl true))))
theorem g_lenS {xs : List V} {H : Hp} {Q : VK} {p : Addr} (h : H p = some (.lst xs) ∨ H p = some (.tup xs)) (q : Q (.int xs.length) H) : rLenSq K [.ref p] H Q := h.elim (fun e => g_lenL (SqL.of e) q) (fun e => g_lenT (SqT.of e) q)
theorem g_ixS {xs : List V} {H : Hp} {Q : VK} {p : Addr} {i : Int} {v : V} (h : H p = some (.lst xs) ∨ H p = some (.tup xs)) (ha : atI xs i = some v) (q : Q v H) : rIx K (.ref p) (.int i) H Q :=
  h.elim (fun e => .inl (g_ixL (SqL.of e) ha q)) (fun e => .inr (.inl (g_ixT (SqT.of e) ha q)))
theorem pu_Lall_equal (T : Txt K mg A) {m : Nat} {x0 x1 : V} {H : Hp} {Q : VK} (h : P_Lall_equal K A (m + 1) x0 x1 H Q) : t_Lall_equal K A m { nx := fun _ H' => Q .non H', rt := Q } [some x0, some x1, none] H := by
  obtain ⟨ds, ⟨a, xs, rfl, ha, hz, ra⟩, ⟨b, ys, rfl, hb, hy, rb⟩, hm, q⟩ := h
  unfold t_Lall_equal
  walk_at "go"
  refine g_lenS hb ?_
  walk_at "go"
  have hl := ra.len
  have hk := rb.len
  refine f_range (lo := 0) (fun i σ H' => (∃ v, σ = [some (.ref a), some (.ref b), v]) ∧ H' = H) ⟨⟨_, rfl⟩, rfl⟩ ?_ ?_
  · rintro i σ H' hi ⟨⟨v, rfl⟩, rfl⟩
    have hi2 : i < xs.length := by omega
    have hi3 : i < ys.length := by omega
    obtain ⟨d, hd, dd⟩ := ra.get (List.getElem?_eq_getElem hi2)
    obtain ⟨d', hd', dd'⟩ := rb.get (List.getElem?_eq_getElem hi3)
    rw [hd] at hd'
    cases hd'
    walk_at "go"
    refine g_ixS ha (v := xs[i]) (by rw [Int.zero_add]; exact atI_nat (List.getElem?_eq_getElem hi2)) ?_
    walk_at "go"
    refine g_ixS hb (v := ys[i]) (by rw [Int.zero_add]; exact atI_nat (List.getElem?_eq_getElem hi3)) ?_
    walk_at "go"
    refine c_Lequal ⟨d, dd, dd', ?_, ?_⟩
    · have := dpL_get hd
      omega
    · walk_at "go"
      exact ⟨⟨_, rfl⟩, rfl⟩
  · rintro σ H' ⟨⟨v, rfl⟩, rfl⟩
    walk_at "go"
    exact q
theorem ok_Lall_equal {f : Addr} {fd : FuncData} (F : Fun K "_law_all_equal" "_law_all_equal" s_Lall_equal f fd) (T : Txt K mg A) {m : Nat} (c_Lequal : Cal P w K mg base "_law_equal" (2 * m + 1) ["_law_actual", "_law_due"] (sp_Lequal K A m)) : FnOk P w K mg base CX0 (2 * m + 2) f fd ["_law_actual", "_law_due"] (sp_Lall_equal K A (m + 1)) := by
  refine F.ok sc_Lall_equal (fun vs H Q E h => ?_) (fun cdv Ar outer s H vs Q E hr h => ⟨t_Lall_equal K A m, ?_, ?_⟩)
  · obtain ⟨x0, x1, rfl, _⟩ := h
    rfl
  · have hu := hu_of hr
    exact (pss_cons (ps_for PassesOwn.never rfl (pi_range1 rfl T.b_range (pa_cons (pe_callB b_len (by rfl) T.b_len (by decide +kernel) (pa_cons (pv 1) pa_nil)) pa_nil)) (pg_name (i := 2) sc_Lall_equal.nd rfl (Or.inl rfl)) (pss_one (ps_if (pt_not (pt_val (pe_cl c_Lequal (hr.mono (by first | decide | omega)) (by rfl) (pa_cons (pe_ix ix_seq (pv 0) (pv 2) (fun _ _ => rfl)) (pa_cons (pe_ix ix_seq (pv 1) (pv 2) (fun _ _ => rfl)) pa_nil))))) (pss_one (ps_ret pe_bl)) pss_nil)))
    (pss_one (ps_ret pe_bl)))
  · obtain ⟨x0, x1, rfl, h⟩ := h
    exact pu_Lall_equal T h
theorem eq_all {fE fA : Addr} {fdE fdA : FuncData} (FE : Fun K "_law_equal" "_law_equal" s_Lequal fE fdE) (T : Txt K mg A) (hE : mg "_law_equal" = some (.ref fE)) (bE : Binds K fdE ["_law_actual", "_law_due"] [])
    (FA : Fun K "_law_all_equal" "_law_all_equal" s_Lall_equal fA fdA) (hA : mg "_law_all_equal" = some (.ref fA)) (bA : Binds K fdA ["_law_actual", "_law_due"] []) :
    ∀ m : Nat, Cal P w K mg base "_law_all_equal" (2 * m) ["_law_actual", "_law_due"] (sp_Lall_equal K A m)
  | 0 => by
    have no : ∀ vs H Q E, ¬ sp_Lall_equal K A 0 vs H Q E := fun vs H Q E h => by
      obtain ⟨x0, x1, _, ds, _, _, hm, _⟩ := h
      omega
    exact ⟨fA, fdA, ⟨fun vs H Q E h => absurd h (no vs H Q E), fun A outer s H args us vs Q E _ _ _ _ h => absurd h (no vs H Q E)⟩, hA, FA.kp, bA⟩
  | m + 1 => ⟨fA, fdA, ok_Lall_equal FA T ⟨fE, fdE, ok_Lequal FE T (eq_all FE T hE bE FA hA bA m), hE, FE.kp, bE⟩, hA, FA.kp, bA⟩
theorem eq_one {fE fA : Addr} {fdE fdA : FuncData} (FE : Fun K "_law_equal" "_law_equal" s_Lequal fE fdE) (T : Txt K mg A) (hE : mg "_law_equal" = some (.ref fE)) (bE : Binds K fdE ["_law_actual", "_law_due"] [])
    (FA : Fun K "_law_all_equal" "_law_all_equal" s_Lall_equal fA fdA) (hA : mg "_law_all_equal" = some (.ref fA)) (bA : Binds K fdA ["_law_actual", "_law_due"] []) (m : Nat) :
    Cal P w K mg base "_law_equal" (2 * m + 1) ["_law_actual", "_law_due"] (sp_Lequal K A m) := ⟨fE, fdE, ok_Lequal FE T (eq_all FE T hE bE FA hA bA m), hE, FE.kp, bE⟩

/-! ### setups, stays and parties as data -/
structure Setup where
  rooms : List Int
  nights : Int
  sellers : Int
  prices : List (List Int)
  share : Int
def rowD (r : List Int) : PyData := .tuple (r.map .int)
def setupD (S : Setup) : PyData := .tuple [rowD S.rooms, .int S.nights, .int S.sellers, .tuple (S.prices.map rowD), .int S.share]
structure SetupOk (S : Setup) : Prop where
  k1 : 1 ≤ S.rooms.length
  k3 : S.rooms.length ≤ 3
  rm : ∀ z ∈ S.rooms, 0 ≤ z ∧ z ≤ 4
  n1 : 1 ≤ S.nights
  n2 : S.nights ≤ 12
  s1 : 1 ≤ S.sellers
  s2 : S.sellers ≤ 4
  pl : S.prices.length = S.rooms.length
  pn : ∀ r ∈ S.prices, r.length = S.nights.toNat ∧ ∀ z ∈ r, 0 ≤ z ∧ z ≤ 1000000
  h1 : 0 ≤ S.share
  h2 : S.share ≤ 100
theorem imm_row (r : List Int) : imm (rowD r) = true := immL_of fun d hd => by obtain ⟨n, _, rfl⟩ := List.mem_map.mp hd; rfl
theorem imm_setup (S : Setup) : imm (setupD S) = true := by
  have h : immL (S.prices.map rowD) = true := immL_of fun d hd => by obtain ⟨r, _, rfl⟩ := List.mem_map.mp hd; exact imm_row r
  simp [setupD, imm, immL, h, imm_row]
/-- the parts of a setup in the heap -/
structure SetAt (H : Hp) (x : V) (S : Setup) (s r p : Addr) (ps : List V) : Prop where
  e : x = .ref s
  t : H s = some (.tup [.ref r, .int S.nights, .int S.sellers, .ref p, .int S.share])
  r : H r = some (.tup (S.rooms.map V.int))
  p : H p = some (.tup ps)
  ps : DaL H ps (S.prices.map rowD)
theorem SetAt.of {H : Hp} {x : V} {S : Setup} (h : Da H x (setupD S)) : ∃ s r p ps, SetAt H x S s r p ps := by
  obtain ⟨s, xs, rfl, e, _, q⟩ := h.tup1
  cases q with
  | cons a q => cases q with
    | cons b q => cases q with
      | cons c q => cases q with
        | cons d q => cases q with
          | cons f q =>
            cases q
            obtain ⟨r, rs, rfl, er, _, qr⟩ := a.tup1
            obtain ⟨p, ps, rfl, ep, _, qp⟩ := d.tup1
            cases b.int1
            cases c.int1
            cases f.int1
            rw [DaL.ints qr] at er
            exact ⟨s, r, p, ps, rfl, e, er, ep, qp⟩
theorem SetAt.row {H : Hp} {x : V} {S : Setup} {s r p : Addr} {ps : List V} (h : SetAt H x S s r p ps) {k : Nat} {row : List Int} (e : S.prices[k]? = some row) : ∃ a, ps[k]? = some (.ref a) ∧ H a = some (.tup (row.map V.int)) := by
  obtain ⟨v, hv, dv⟩ := h.ps.get' (i := k) (d := rowD row) (by rw [List.getElem?_map, e]; rfl)
  obtain ⟨a, xs, rfl, ea, _, q⟩ := dv.tup1
  rw [DaL.ints q] at ea
  exact ⟨a, hv, ea⟩
/-- a stay: kind, first, end -/
abbrev Stay := Int × Int × Int
def stayD (s : Stay) : PyData := .tuple [.int s.1, .int s.2.1, .int s.2.2]
def partyD (ss : List Stay) : PyData := .tuple (ss.map stayD)
def StayOk (S : Setup) (s : Stay) : Prop := 0 ≤ s.1 ∧ s.1 < S.rooms.length ∧ 0 ≤ s.2.1 ∧ s.2.1 < s.2.2 ∧ s.2.2 ≤ S.nights
theorem imm_stay (s : Stay) : imm (stayD s) = true := rfl
theorem imm_stays (ss : List Stay) : immL (ss.map stayD) = true := immL_of fun d hd => by obtain ⟨n, _, rfl⟩ := List.mem_map.mp hd; rfl
theorem imm_party (ss : List Stay) : imm (partyD ss) = true := imm_stays ss
theorem stay_at {H : Hp} {v : V} {s : Stay} (h : Da H v (stayD s)) : ∃ a, v = .ref a ∧ H a = some (.tup [.int s.1, .int s.2.1, .int s.2.2]) := by
  obtain ⟨a, xs, rfl, e, _, q⟩ := h.tup1
  obtain ⟨x, y, z, rfl, dx, dy, dz⟩ := q.three
  cases dx.int1
  cases dy.int1
  cases dz.int1
  exact ⟨a, rfl, e⟩
theorem stays_get {H : Hp} {xs : List V} {ss : List Stay} {i : Nat} {x : V} (h : DaL H xs (ss.map stayD)) (e : xs[i]? = some x) : ∃ s a, ss[i]? = some s ∧ x = .ref a ∧ H a = some (.tup [.int s.1, .int s.2.1, .int s.2.2]) ∧ Da H x (stayD s) := by
  obtain ⟨d, hd, dd⟩ := h.get e
  rw [List.getElem?_map] at hd
  cases q : ss[i]? with
  | none => rw [q] at hd; cases hd
  | some s =>
    rw [q] at hd
    cases hd
    obtain ⟨a, rfl, ea⟩ := stay_at dd
    exact ⟨s, a, rfl, rfl, ea, dd⟩

/-! ### setups, stays and parties are drawn -/
def P_Lsetup (K : PySem.W.Frag) (A : Ad) (x0 : V) (H : Hp) (Q : VK) : Prop := ∃ (d l : Addr), x0 = .ref d ∧ Draws H d l ∧
  ∀ (v : V) (S : Setup) (H' : Hp), SetupOk S → Da H' v (setupD S) → Fr [d] H H' → Draws H' d l → Q v H'
def sp_Lsetup (K : PySem.W.Frag) (A : Ad) : Sp := fun vs H Q _ => ∃ x0, vs = [x0] ∧ P_Lsetup K A x0 H Q
theorem c_Lsetup {K : PySem.W.Frag} {A : Ad} {x0 : V} {H : Hp} {Q : VK} {E : XK} (h : P_Lsetup K A x0 H Q) : sp_Lsetup K A [x0] H Q E := ⟨_, rfl, h⟩
theorem sc_Lsetup : FnScope ["_law_draws", "_law_rooms", "_law_nights", "_law_prices", "_law_k", "_law_t"] ["_law_draws"] (defScope s_Lsetup) := ⟨rfl, rfl, rfl, by decide +kernel, rfl, by decide +kernel, by decide +kernel⟩
def t_Lsetup (K : PySem.W.Frag) (A : Ad) : TS :=
  (tSeq (tAsg (tCB (rTupOf K) (tCons (tLc (iRng1 (tCons (tOp oAdd (tC (.int 1)) (tOp oMod (tCl (sp_Ldraw K A) (tCons (tVar 0) tNil)) (tC (.int 3)))) tNil)) (gName 4) tYes (tOp oMod (tCl (sp_Ldraw K A) (tCons (tVar 0) tNil)) (tC (.int 5))) [4]) tNil)) (gName 1))
    (tSeq (tAsg (tOp oAdd (tC (.int 1)) (tOp oMod (tCl (sp_Ldraw K A) (tCons (tVar 0) tNil)) (tC (.int 12)))) (gName 2))
    (tSeq (tAsg (tLst tNil) (gName 3))
    (tSeq (tFor (iRng1 (tCons (tCB (rLenSq K) (tCons (tVar 1) tNil)) tNil)) (gName 4) (tDrop (tBM K "list" rAppend (tVar 3) (tCons (tCB (rTupOf K) (tCons (tLc (iRng1 (tCons (tVar 2) tNil)) (gName 5) tYes (tOp (rIxL K) (tLst (tCons (tOp oMod (tCl (sp_Ldraw K A) (tCons (tVar 0) tNil)) (tC (.int 200))) (tCons (tC (.int 0)) (tCons (tOp oPow (tC (.int 10)) (tC (.int 6))) (tCons (tOp oMod (tCl (sp_Ldraw K A) (tCons (tVar 0) tNil)) (tC (.int 1000001))) tNil))))) (tOp oMod (tCl (sp_Ldraw K A) (tCons (tVar 0) tNil)) (tC (.int 4)))) [5]) tNil)) tNil))))
    (tRet (tTup (tCons (tVar 1) (tCons (tVar 2) (tCons (tOp oAdd (tC (.int 1)) (tOp oMod (tCl (sp_Ldraw K A) (tCons (tVar 0) tNil)) (tC (.int 4)))) (tCons (tCB (rTupOf K) (tCons (tVar 3) tNil)) (tCons (tOp (rIxL K) (tLst (tCons (tOp oMod (tCl (sp_Ldraw K A) (tCons (tVar 0) tNil)) (tC (.int 101))) (tCons (tC (.int 0)) (tCons (tC (.int 100)) tNil)))) (tOp oMod (tCl (sp_Ldraw K A) (tCons (tVar 0) tNil)) (tC (.int 3)))) tNil)))))))))))
theorem pu_Lsetup (T : Txt K mg A) {x0 : V} {H : Hp} {Q : VK} (h : P_Lsetup K A x0 H Q) : t_Lsetup K A { nx := fun _ H' => Q .non H', rt := Q } [some x0, none, none, none, none, none] H := by
  obtain ⟨d, l, rfl, D0, k⟩ := h
  unfold t_Lsetup
  walk_at "go"
  rename_i z H1 z0 z1 f1 D1
  refine l_range (lo := 0) (n := (1 + z % 3).toNat) fun Dl H2 nD f2 e2 => ⟨fun i acc H' => ∃ r : List Int, acc = r.map V.int ∧ r.length = i ∧ (∀ y ∈ r, 0 ≤ y ∧ y ≤ 4) ∧ Fr [d] H1 H' ∧ Draws H' d l, ⟨[], rfl, rfl, fun _ q => (nomatch q), f2.of0, D1.fr f2 nin0 nin0⟩, fun i acc H' hi ha ⟨r, e, hr, hm, f, D⟩ => ?_, fun acc H' ha ⟨r, e, hr, hm, f, D⟩ => ?_⟩
  · walk_at "go"
    refine ⟨rfl, ?_⟩
    walk_at "go"
    rename_i y H3 y0 y1 f3 D3
    have nd : Dl ≠ d := (D1.new1 nD).symm
    have nl : Dl ≠ l := (D1.new2 nD).symm
    refine lcY_of (f3.at ha (nin1 nd nin0)) (by rw [e]; walk_at "sz") fun H5 f5 e5 => ⟨r ++ [y % 5], by rw [e, List.map_append]; rfl, by rw [List.length_append, hr]; rfl, fun q hq => ?_, ?_, D3.fr f5 (nin1 nd.symm nin0) (nin1 nl.symm nin0)⟩
    · rcases List.mem_append.mp hq with h | h
      · exact hm q h
      · rw [List.mem_singleton.mp h]; omega
    · exact (f.transL f3).own1 f5 nD
  · subst e
    walk_at "go"
    rename_i rt H3 n3 f3 e3 w H4 w0 w1 f4 D4 pl H5 n5 f5 e5
    have nd : d ≠ pl := D4.new1 n5
    have nl : l ≠ pl := D4.new2 n5
    have er : H5 rt = some (.tup (r.map V.int)) := by walk_at "fact"
    have D5 : Draws H5 d l := D4.fr f5 nin0 nin0
    have npl : H pl = none := by walk_at "none"
    have F5 : Fr [d] H H5 := by walk_at "fr"
    rw [List.length_map]
    clear f1 D1 nD f2 e2 f D ha n3 f3 e3 f4 D4 f5 n5
    have hrl : r.length ≤ 3 ∧ 1 ≤ r.length := by omega
    refine f_range (lo := 0) (n := r.length) (fun i σ H' => ∃ (v4 v5 : Option V) (rows : List (List Int)) (xs : List V), σ = [some (.ref d), some (.ref rt), some (.int (1 + w % 12)), some (.ref pl), v4, v5] ∧ Fr [d] H H' ∧ Draws H' d l ∧ H' rt = some (.tup (r.map V.int)) ∧
      H' pl = some (.lst xs) ∧ DaL H' xs (rows.map rowD) ∧ rows.length = i ∧ ∀ q ∈ rows, q.length = (1 + w % 12).toNat ∧ ∀ y ∈ q, 0 ≤ y ∧ y ≤ 1000000)
      ⟨_, _, [], [], rfl, F5, D5, er, e5, .nil, rfl, fun _ q => (nomatch q)⟩ ?_ ?_
    · rintro i σ H6 hi ⟨v4, v5, rows, xs, rfl, f6, D6, er6, ep6, dr, hri, hq⟩
      have hxl : xs.length ≤ 10 := by rw [dr.len, List.length_map]; omega
      walk_at "go"
      refine l_range (lo := 0) (n := (1 + w % 12).toNat) fun Dl H7 nD f7 e7 => ⟨fun j acc H' => ∃ q : List Int, acc = q.map V.int ∧ q.length = j ∧ (∀ y ∈ q, 0 ≤ y ∧ y ≤ 1000000) ∧ Fr [d] H6 H' ∧ Draws H' d l, ⟨[], rfl, rfl, fun _ q => (nomatch q), f7.of0, D6.fr f7 nin0 nin0⟩, fun j acc H' hj ha ⟨q, e, hr, hm, f, D⟩ => ?_, fun acc H' ha ⟨q, e, hql, hm, f, D⟩ => ?_⟩
      · walk_at "go"
        refine ⟨rfl, ?_⟩
        walk_at "go"
        rename_i y1 H8 y10 y11 f8 D8 y2 H9 y20 y21 f9 D9 t H10 n10 f10 e10 y3 H11 y30 y31 f11 D11
        have hnd : Dl ≠ d := (D6.new1 nD).symm
        have hnl : Dl ≠ l := (D6.new2 nD).symm
        have htd : t ≠ d := (D9.new1 n10).symm
        obtain ⟨v, hv, hmem⟩ := atI_mem (xs := [V.int (y1 % 200), V.int 0, V.int (10 ^ Int.toNat 6), V.int (y2 % 1000001)]) (z := y3 % 4) (by omega) (by show y3 % 4 < 4; omega)
        obtain ⟨y, rfl, hy⟩ : ∃ y, v = .int y ∧ 0 ≤ y ∧ y ≤ 1000000 := by
          rcases List.mem_cons.mp hmem with h | hmem
          · exact ⟨_, h, by omega, by omega⟩
          rcases List.mem_cons.mp hmem with h | hmem
          · exact ⟨_, h, by omega, by omega⟩
          rcases List.mem_cons.mp hmem with h | hmem
          · exact ⟨_, h, by decide, by decide⟩
          · exact ⟨_, List.mem_singleton.mp hmem, by omega, by omega⟩
        refine g_ixL (SqL.of (f11.at e10 (nin1 htd nin0))) hv ?_
        have hD : H11 Dl = some (.lst acc) := f11.at (f10.at0 (f9.at (f8.at ha (nin1 hnd nin0)) (nin1 hnd nin0))) (nin1 hnd nin0)
        refine lcY_of hD (by rw [e]; walk_at "sz") fun H12 f12 e12 => ⟨q ++ [y], by rw [e, List.map_append]; rfl, by rw [List.length_append, hr]; rfl, fun z hz => ?_, ?_, D11.fr f12 (nin1 hnd.symm nin0) (nin1 hnl.symm nin0)⟩
        · rcases List.mem_append.mp hz with h | h
          · exact hm z h
          · rw [List.mem_singleton.mp h]; exact hy
        · exact ((((f.transL f8).transL f9).then0 f10).transL f11).own1 f12 nD
      · subst e
        have hpd : pl ≠ d := nd.symm
        have ep7 : H' pl = some (.lst xs) := f.at ep6 (nin1 hpd nin0)
        have hql2 : q.length ≤ 12 := by omega
        walk_at "go"
        rename_i t H8 n8 f8 e8 H9 f9 e9
        exact ⟨_, _, rows ++ [q], _, rfl, ((f6.transL f).then0 f8).own1 f9 npl, (D.fr f8 nin0 nin0).fr f9 (nin1 nd nin0) (nin1 nl nin0), f9.tup _ _ (f8.tup _ _ (f.tup _ _ er6)), e9,
          by rw [List.map_append]; exact (DaL.frL f9 (DaL.frL f8 (DaL.frL f dr (immL_of fun d hd => by obtain ⟨r, _, rfl⟩ := List.mem_map.mp hd; exact imm_row r)) (immL_of fun d hd => by obtain ⟨r, _, rfl⟩ := List.mem_map.mp hd; exact imm_row r)) (immL_of fun d hd => by obtain ⟨r, _, rfl⟩ := List.mem_map.mp hd; exact imm_row r)).append (.one' (.tup (f9.tup _ _ e8) (by rw [List.length_map]; omega) (.ofInts q))),
          by rw [List.length_append, hri]; rfl, fun z hz => (List.mem_append.mp hz).elim (hq z) fun h => by rw [List.mem_singleton.mp h]; exact ⟨hql, hm⟩⟩
    · rintro σ H6 ⟨v4, v5, rows, xs, rfl, f6, D6, er6, ep6, dr, hri, hq⟩
      have hxl : xs.length ≤ 10 := by rw [dr.len, List.length_map]; omega
      have hpd : pl ≠ d := nd.symm
      walk_at "go"
      rename_i m H7 m0 m1 f7 D7 pt H8 n8 f8 e8 y1 H9 y10 y11 f9 D9 t H10 n10 f10 e10 y2 H11 y20 y21 f11 D11
      have htd : t ≠ d := (D9.new1 n10).symm
      obtain ⟨v, hv, hmem⟩ := atI_mem (xs := [V.int (y1 % 101), V.int 0, V.int 100]) (z := y2 % 3) (by omega) (by show y2 % 3 < 3; omega)
      obtain ⟨y, rfl, hy⟩ : ∃ y, v = .int y ∧ 0 ≤ y ∧ y ≤ 100 := by
        rcases List.mem_cons.mp hmem with h | hmem
        · exact ⟨_, h, by omega, by omega⟩
        rcases List.mem_cons.mp hmem with h | hmem
        · exact ⟨_, h, by omega, by omega⟩
        · exact ⟨_, List.mem_singleton.mp hmem, by decide, by decide⟩
      refine g_ixL (SqL.of (f11.at e10 (nin1 htd nin0))) hv ?_
      walk_at "go"
      rename_i st H12 n12 f12 e12
      have ir : immL (rows.map rowD) = true := immL_of fun d hd => by obtain ⟨r, _, rfl⟩ := List.mem_map.mp hd; exact imm_row r
      have F : Fr [d] H6 H12 := by walk_at "fr"
      refine k _ ⟨r, 1 + w % 12, 1 + m % 4, rows, y⟩ H12 ⟨hrl.2, hrl.1, hm, by show 1 ≤ 1 + w % 12; omega, by show 1 + w % 12 ≤ 12; omega, by show 1 ≤ 1 + m % 4; omega, by show 1 + m % 4 ≤ 4; omega, hri, hq, hy.1, hy.2⟩ (.tup e12 (Nat.le_of_ble_eq_true rfl) ?_) (f6.transL F) (D11.fr f12 nin0 nin0)
      exact .cons (.tup (F.tup _ _ er6) (by rw [List.length_map]; omega) (.ofInts r)) (.cons (.int _) (.cons (.int _) (.cons (.tup (f12.tup _ _ (f11.tup _ _ (f10.tup _ _ (f9.tup _ _ e8)))) (by omega) (DaL.frL F dr ir)) (.one' (.int _)))))
theorem ok_Lsetup {f : Addr} {fd : FuncData} (F : Fun K "_law_setup" "_law_setup" s_Lsetup f fd) (T : Txt K mg A) (c_Ldraw : Cal P w K mg base "_law_draw" 2 ["_law_draws"] (sp_Ldraw K A)) : FnOk P w K mg base CX0 (3) f fd ["_law_draws"] (sp_Lsetup K A) := by
  refine F.ok sc_Lsetup (fun vs H Q E h => ?_) (fun cdv Ar outer s H vs Q E hr h => ⟨t_Lsetup K A, ?_, ?_⟩)
  · obtain ⟨x0, rfl, _⟩ := h
    rfl
  · have hu := hu_of hr
    exact (pss_cons (ps_set (i := 1) sc_Lsetup.nd rfl (Or.inl rfl) (pe_callTy b_tuple (by rfl) T.b_tuple (by decide +kernel) (pa_cons (pe_lc (own := [("_law_k", 4)]) (g := (gName 4)) (tt := tYes) rfl sc_Lsetup.nd (pi_range1 rfl T.b_range (pa_cons (pe_op o_add pe_int (pe_op o_mod (pe_cl c_Ldraw (hr.mono (by first | decide | omega)) (by rfl) (pa_cons (pv 0) pa_nil)) pe_int)) pa_nil)) (blkOk_by (N := ["_law_draws", "_law_rooms", "_law_nights", "_law_prices", "_law_k", "_law_t"]) (sc := defScope s_Lsetup) (own := [("_law_k", 4)]) (by decide +kernel)) (fun _ _ _ _ _ => (pg_name (i := 4) sc_Lsetup.nd rfl (Or.inl rfl))) (fun _ _ _ _ _ => pts_nil) (fun _ _ _ _ _ => (pe_op o_mod (pe_cl c_Ldraw (hr.mono (by first | decide | omega)) (by rfl) (pa_cons (pv 0) pa_nil)) pe_int))) pa_nil)))
    (pss_cons (ps_set (i := 2) sc_Lsetup.nd rfl (Or.inl rfl) (pe_op o_add pe_int (pe_op o_mod (pe_cl c_Ldraw (hr.mono (by first | decide | omega)) (by rfl) (pa_cons (pv 0) pa_nil)) pe_int)))
    (pss_cons (ps_set (i := 3) sc_Lsetup.nd rfl (Or.inl rfl) (pe_lst pa_nil))
    (pss_cons (ps_for PassesOwn.never rfl (pi_range1 rfl T.b_range (pa_cons (pe_callB b_len (by rfl) T.b_len (by decide +kernel) (pa_cons (pv 1) pa_nil)) pa_nil)) (pg_name (i := 4) sc_Lsetup.nd rfl (Or.inl rfl)) (pss_one (ps_expr (pe_bm PySem.F.plainAttrs_list PySem.F.slot_list_append PySem.F.type_list_append mt_append (pv 3) (pa_cons (pe_callTy b_tuple (by rfl) T.b_tuple (by decide +kernel) (pa_cons (pe_lc (own := [("_law_t", 5)]) (g := (gName 5)) (tt := tYes) rfl sc_Lsetup.nd (pi_range1 rfl T.b_range (pa_cons (pv 2) pa_nil)) (blkOk_by (N := ["_law_draws", "_law_rooms", "_law_nights", "_law_prices", "_law_k", "_law_t"]) (sc := defScope s_Lsetup) (own := [("_law_t", 5)]) (by decide +kernel)) (fun _ _ _ _ _ => (pg_name (i := 5) sc_Lsetup.nd rfl (Or.inl rfl))) (fun _ _ _ _ _ => pts_nil) (fun _ _ _ _ _ => (pe_ix ix_list (pe_lst (pa_cons (pe_op o_mod (pe_cl c_Ldraw (hr.mono (by first | decide | omega)) (by rfl) (pa_cons (pv 0) pa_nil)) pe_int) (pa_cons pe_int (pa_cons (pe_op o_pow pe_int pe_int) (pa_cons (pe_op o_mod (pe_cl c_Ldraw (hr.mono (by first | decide | omega)) (by rfl) (pa_cons (pv 0) pa_nil)) pe_int) pa_nil))))) (pe_op o_mod (pe_cl c_Ldraw (hr.mono (by first | decide | omega)) (by rfl) (pa_cons (pv 0) pa_nil)) pe_int) (fun _ _ => rfl)))) pa_nil)) pa_nil)))))
    (pss_one (ps_ret (pe_tup (pa_cons (pv 1) (pa_cons (pv 2) (pa_cons (pe_op o_add pe_int (pe_op o_mod (pe_cl c_Ldraw (hr.mono (by first | decide | omega)) (by rfl) (pa_cons (pv 0) pa_nil)) pe_int)) (pa_cons (pe_callTy b_tuple (by rfl) T.b_tuple (by decide +kernel) (pa_cons (pv 3) pa_nil)) (pa_cons (pe_ix ix_list (pe_lst (pa_cons (pe_op o_mod (pe_cl c_Ldraw (hr.mono (by first | decide | omega)) (by rfl) (pa_cons (pv 0) pa_nil)) pe_int) (pa_cons pe_int (pa_cons pe_int pa_nil)))) (pe_op o_mod (pe_cl c_Ldraw (hr.mono (by first | decide | omega)) (by rfl) (pa_cons (pv 0) pa_nil)) pe_int) (fun _ _ => rfl)) pa_nil))))))))))))
  · obtain ⟨x0, rfl, h⟩ := h
    exact pu_Lsetup T h
def P_Lstay (K : PySem.W.Frag) (A : Ad) (x0 x1 : V) (H : Hp) (Q : VK) : Prop := ∃ (d l : Addr) (S : Setup), x0 = .ref d ∧ Draws H d l ∧ SetupOk S ∧ Da H x1 (setupD S) ∧
  ∀ (v : V) (s : Stay) (H' : Hp), StayOk S s → Da H' v (stayD s) → Fr [d] H H' → Draws H' d l → Q v H'
def sp_Lstay (K : PySem.W.Frag) (A : Ad) : Sp := fun vs H Q _ => ∃ x0 x1, vs = [x0, x1] ∧ P_Lstay K A x0 x1 H Q
theorem c_Lstay {K : PySem.W.Frag} {A : Ad} {x0 x1 : V} {H : Hp} {Q : VK} {E : XK} (h : P_Lstay K A x0 x1 H Q) : sp_Lstay K A [x0, x1] H Q E := ⟨_, _, rfl, h⟩
theorem sc_Lstay : FnScope ["_law_draws", "_law_setup_here", "_law_first", "_law_most"] ["_law_draws", "_law_setup_here"] (defScope s_Lstay) := ⟨rfl, rfl, rfl, by decide +kernel, rfl, by decide +kernel, by decide +kernel⟩
def t_Lstay (K : PySem.W.Frag) (A : Ad) : TS :=
  (tSeq (tAsg (tOp oMod (tCl (sp_Ldraw K A) (tCons (tVar 0) tNil)) (tOp (rIxT K) (tVar 1) (tC (.int 1)))) (gName 2))
    (tSeq (tAsg (tOp oSub (tOp (rIxT K) (tVar 1) (tC (.int 1))) (tVar 2)) (gName 3))
    (tRet (tTup (tCons (tOp oMod (tCl (sp_Ldraw K A) (tCons (tVar 0) tNil)) (tCB (rLenSq K) (tCons (tOp (rIxT K) (tVar 1) (tC (.int 0))) tNil))) (tCons (tVar 2) (tCons (tOp oAdd (tOp oAdd (tVar 2) (tC (.int 1))) (tOp oMod (tCl (sp_Ldraw K A) (tCons (tVar 0) tNil)) (tOp (rIxL K) (tLst (tCons (tVar 3) (tCons (tCB rMin2 (tCons (tVar 3) (tCons (tC (.int 3)) tNil))) tNil))) (tOp oMod (tCl (sp_Ldraw K A) (tCons (tVar 0) tNil)) (tC (.int 2)))))) tNil)))))))
theorem pu_Lstay (T : Txt K mg A) {x0 x1 : V} {H : Hp} {Q : VK} (h : P_Lstay K A x0 x1 H Q) : t_Lstay K A { nx := fun _ H' => Q .non H', rt := Q } [some x0, some x1, none, none] H := by
  obtain ⟨d, l, S, rfl, D0, ok, dS, k⟩ := h
  obtain ⟨s, r, p, ps, sa⟩ := SetAt.of dS
  cases sa.e
  have e0 := sa.t
  have er := sa.r
  have hn := ok.n1
  have hk := ok.k1
  unfold t_Lstay
  walk_at "go"
  rename_i y1 H1 y10 y11 f1 D1 y2 H2 y20 y21 f2 D2 y3 H3 y30 y31 f3 D3 t H4 n4 f4 e4 y4 H5 y40 y41 f5 D5
  have htd : t ≠ d := (D3.new1 n4).symm
  have b0 := Int.emod_nonneg y1 (show S.nights ≠ 0 by omega)
  have b1 := Int.emod_lt_of_pos y1 (show 0 < S.nights by omega)
  have g0 := Int.emod_nonneg y2 (show ((S.rooms.length : Nat) : Int) ≠ 0 by omega)
  have g1 := Int.emod_lt_of_pos y2 (show 0 < ((S.rooms.length : Nat) : Int) by omega)
  obtain ⟨v, hv, hmem⟩ := atI_mem (xs := [V.int (S.nights - y1 % S.nights), V.int (if (3 : Int) < S.nights - y1 % S.nights then 3 else S.nights - y1 % S.nights)]) (z := y4 % 2) (by omega) (by show y4 % 2 < 2; omega)
  obtain ⟨y, rfl, hy⟩ : ∃ y, v = .int y ∧ 0 < y ∧ y ≤ S.nights - y1 % S.nights := by
    rcases List.mem_cons.mp hmem with h | hmem
    · exact ⟨_, h, by omega, by omega⟩
    · exact ⟨_, List.mem_singleton.mp hmem, by split <;> omega, by split <;> omega⟩
  refine g_ixL (SqL.of (f5.at e4 (nin1 htd nin0))) hv ?_
  obtain ⟨hy0, hy1⟩ := hy
  walk_at "go"
  rename_i st H6 n6 f6 e6
  have k0 := Int.emod_nonneg y3 (show y ≠ 0 by omega)
  have k1 := Int.emod_lt_of_pos y3 hy0
  rw [List.length_map] at e6
  exact k _ (y2 % (S.rooms.length : Int), y1 % S.nights, y1 % S.nights + 1 + y3 % y) H6 ⟨g0, g1, b0, by show y1 % S.nights < y1 % S.nights + 1 + y3 % y; omega, by show y1 % S.nights + 1 + y3 % y ≤ S.nights; omega⟩
    (.tup e6 (Nat.le_of_ble_eq_true rfl) (.cons (.int _) (.cons (.int _) (.one' (.int _))))) (by walk_at "fr") (D5.fr f6 nin0 nin0)
theorem ok_Lstay {f : Addr} {fd : FuncData} (F : Fun K "_law_stay" "_law_stay" s_Lstay f fd) (T : Txt K mg A) (c_Ldraw : Cal P w K mg base "_law_draw" 2 ["_law_draws"] (sp_Ldraw K A)) : FnOk P w K mg base CX0 (3) f fd ["_law_draws", "_law_setup_here"] (sp_Lstay K A) := by
  refine F.ok sc_Lstay (fun vs H Q E h => ?_) (fun cdv Ar outer s H vs Q E hr h => ⟨t_Lstay K A, ?_, ?_⟩)
  · obtain ⟨x0, x1, rfl, _⟩ := h
    rfl
  · have hu := hu_of hr
    exact (pss_cons (ps_set (i := 2) sc_Lstay.nd rfl (Or.inl rfl) (pe_op o_mod (pe_cl c_Ldraw (hr.mono (by first | decide | omega)) (by rfl) (pa_cons (pv 0) pa_nil)) (pe_ix ix_tup (pv 1) pe_int (fun _ _ => rfl))))
    (pss_cons (ps_set (i := 3) sc_Lstay.nd rfl (Or.inl rfl) (pe_op o_sub (pe_ix ix_tup (pv 1) pe_int (fun _ _ => rfl)) (pv 2)))
    (pss_one (ps_ret (pe_tup (pa_cons (pe_op o_mod (pe_cl c_Ldraw (hr.mono (by first | decide | omega)) (by rfl) (pa_cons (pv 0) pa_nil)) (pe_callB b_len (by rfl) T.b_len (by decide +kernel) (pa_cons (pe_ix ix_tup (pv 1) pe_int (fun _ _ => rfl)) pa_nil))) (pa_cons (pv 2) (pa_cons (pe_op o_add (pe_op o_add (pv 2) pe_int) (pe_op o_mod (pe_cl c_Ldraw (hr.mono (by first | decide | omega)) (by rfl) (pa_cons (pv 0) pa_nil)) (pe_ix ix_list (pe_lst (pa_cons (pv 3) (pa_cons (pe_callB (b_min2 rfl) (by rfl) T.b_min (by decide +kernel) (pa_cons (pv 3) (pa_cons pe_int pa_nil))) pa_nil))) (pe_op o_mod (pe_cl c_Ldraw (hr.mono (by first | decide | omega)) (by rfl) (pa_cons (pv 0) pa_nil)) pe_int) (fun _ _ => rfl)))) pa_nil))))))))
  · obtain ⟨x0, x1, rfl, h⟩ := h
    exact pu_Lstay T h
theorem stays_alike (ss : List Stay) : PySem.W.AllAlike (ss.map stayD) := fun d hd d' hd' => by
  obtain ⟨s, _, rfl⟩ := List.mem_map.mp hd
  obtain ⟨s', _, rfl⟩ := List.mem_map.mp hd'
  rfl
theorem stays_sortable (ss : List Stay) : PySem.W.Sortable (ss.map stayD) := .inl fun d hd => by
  obtain ⟨s, _, rfl⟩ := List.mem_map.mp hd
  exact ⟨_, _, rfl⟩
theorem stays_depth (ss : List Stay) : ∀ d ∈ ss.map stayD, d.depth ≤ 60 := fun d hd => by
  obtain ⟨s, _, rfl⟩ := List.mem_map.mp hd
  simp [stayD, PyData.depth, PyData.depthAll]
/-- stays in their order -/
def ssrt (ss : List Stay) : List Stay := ss.mergeSort (PySem.W.dataLe false stayD)
theorem ssrt_map (ss : List Stay) : (ssrt ss).map stayD = srt (ss.map stayD) := srt_map stayD ss
theorem ssrt_perm (ss : List Stay) : (ssrt ss).Perm ss := List.mergeSort_perm ss _
theorem ssrt_ssrt (ss : List Stay) : ssrt (ssrt ss) = ssrt ss := List.mergeSort_of_pairwise (PySem.W.sort_pairwise (dle_total stayD) ss)
/-- a party of the setup -/
structure PartyOk (S : Setup) (ss : List Stay) : Prop where
  l1 : 1 ≤ ss.length
  l4 : ss.length ≤ 4
  ok : ∀ s ∈ ss, StayOk S s
  so : ssrt ss = ss

def P_Lparty (K : PySem.W.Frag) (A : Ad) (x0 x1 : V) (H : Hp) (Q : VK) : Prop := ∃ (d l : Addr) (S : Setup), x0 = .ref d ∧ Draws H d l ∧ SetupOk S ∧ Da H x1 (setupD S) ∧
  ∀ (v : V) (ss : List Stay) (H' : Hp), PartyOk S ss → Da H' v (partyD ss) → Fr [d] H H' → Draws H' d l → Q v H'
def sp_Lparty (K : PySem.W.Frag) (A : Ad) : Sp := fun vs H Q _ => ∃ x0 x1, vs = [x0, x1] ∧ P_Lparty K A x0 x1 H Q
theorem c_Lparty {K : PySem.W.Frag} {A : Ad} {x0 x1 : V} {H : Hp} {Q : VK} {E : XK} (h : P_Lparty K A x0 x1 H Q) : sp_Lparty K A [x0, x1] H Q E := ⟨_, _, rfl, h⟩
theorem sc_Lparty : FnScope ["_law_draws", "_law_setup_here", "_law_many", "_law_stays", "_law_k"] ["_law_draws", "_law_setup_here"] (defScope s_Lparty) := ⟨rfl, rfl, rfl, by decide +kernel, rfl, by decide +kernel, by decide +kernel⟩
def t_Lparty (K : PySem.W.Frag) (A : Ad) : TS :=
  (tSeq (tAsg (tOp (rIxL K) (tLst (tCons (tC (.int 1)) (tCons (tC (.int 1)) (tCons (tC (.int 1)) (tCons (tC (.int 2)) (tCons (tC (.int 2)) (tCons (tC (.int 3)) (tCons (tC (.int 4)) tNil)))))))) (tOp oMod (tCl (sp_Ldraw K A) (tCons (tVar 0) tNil)) (tC (.int 7)))) (gName 2))
    (tSeq (tAsg (tLc (iRng1 (tCons (tVar 2) tNil)) (gName 4) tYes (tCl (sp_Lstay K A) (tCons (tVar 0) (tCons (tVar 1) tNil))) [4]) (gName 3))
    (Evl.tCut (tIfS (tAnd (tTest (tOp cGt (tVar 2) (tC (.int 1)))) (tTest (tOp rEq (tOp oMod (tCl (sp_Ldraw K A) (tCons (tVar 0) tNil)) (tC (.int 4))) (tC (.int 0))))) (tAsg (tOp (rIxL K) (tVar 3) (tC (.int 0))) (gSub (tVar 3) (tC (.int 1)) rSetL)) tNext)
    (tRet (tCB (rTupOf K) (tCons (tCB (rSortD K) (tCons (tVar 3) tNil)) tNil))))))
theorem pu_Lparty (T : Txt K mg A) {x0 x1 : V} {H : Hp} {Q : VK} (h : P_Lparty K A x0 x1 H Q) : t_Lparty K A { nx := fun _ H' => Q .non H', rt := Q } [some x0, some x1, none, none, none] H := by
  obtain ⟨d, l, S, rfl, D0, ok, dS, k⟩ := h
  unfold t_Lparty
  walk_at "go"
  rename_i t H1 n1 f1 e1 y H2 y0 y1 f2 D2
  have htd : t ≠ d := ((D0.fr f1 nin0 nin0).ne' e1 (by decide)).symm
  obtain ⟨v, hv, hmem⟩ := atI_mem (xs := [V.int 1, V.int 1, V.int 1, V.int 2, V.int 2, V.int 3, V.int 4]) (z := y % 7) (by omega) (by show y % 7 < 7; omega)
  obtain ⟨m, rfl, hm1, hm4⟩ : ∃ m, v = .int m ∧ 1 ≤ m ∧ m ≤ 4 := by
    simp only [List.mem_cons, List.not_mem_nil, or_false] at hmem
    rcases hmem with h | h | h | h | h | h | h <;> exact ⟨_, h, by decide, by decide⟩
  refine g_ixL (SqL.of (f2.at e1 (nin1 htd nin0))) hv ?_
  have F2 : Fr [d] H H2 := f2.pre0' f1
  have dS2 := Da.frL F2 dS (imm_setup S)
  walk_at "go"
  refine l_range (lo := 0) (n := m.toNat) fun Dl H3 nD f3 e3 => ⟨fun i acc H' => ∃ ss : List Stay, DaL H' acc (ss.map stayD) ∧ ss.length = i ∧ (∀ s ∈ ss, StayOk S s) ∧ Fr [d] H2 H' ∧ Draws H' d l, ⟨[], .nil, rfl, fun _ q => (nomatch q), f3.of0, D2.fr f3 nin0 nin0⟩, fun i acc H' hi ha ⟨ss, ds, hs, hk, f, D⟩ => ?_, fun acc H' ha ⟨ss, ds, hs, hk, f, D⟩ => ?_⟩
  · walk_at "go"
    refine ⟨rfl, ?_⟩
    walk_at "go"
    refine c_Lstay ⟨d, l, S, rfl, D, ok, Da.frL f dS2 (imm_setup S), fun v s H4 so dv f4 D4 => ?_⟩
    have hnd : Dl ≠ d := (D2.new1 nD).symm
    have hnl : Dl ≠ l := (D2.new2 nD).symm
    have hac : acc.length ≤ 100 := by rw [ds.len, List.length_map]; omega
    refine lcY_of (f4.at ha (nin1 hnd nin0)) (by walk_at "sz") fun H5 f5 e5 => ⟨ss ++ [s], ?_, by rw [List.length_append, hs]; rfl, fun z hz => ?_, (f.transL f4).own1 f5 nD, D4.fr f5 (nin1 hnd.symm nin0) (nin1 hnl.symm nin0)⟩
    · rw [List.map_append]
      exact (DaL.frL f5 (DaL.frL f4 ds (imm_stays ss)) (imm_stays ss)).append (.one' (Da.frL f5 dv rfl))
    · rcases List.mem_append.mp hz with h | h
      · exact hk z h
      · rw [List.mem_singleton.mp h]; exact so
  · have hnd : Dl ≠ d := (D2.new1 nD).symm
    have hnl : Dl ≠ l := (D2.new2 nD).symm
    have nDH : H Dl = none := F2.freeL nD (nin1 hnd nin0)
    have hac : acc.length = ss.length := by rw [ds.len, List.length_map]
    walk_at "go"
    refine g_cut (fun σ H' => ∃ (v4 : Option V) (acc : List V) (ss : List Stay), σ = [some (.ref d), some x1, some (.int m), some (.ref Dl), v4] ∧ H' Dl = some (.lst acc) ∧ DaL H' acc (ss.map stayD) ∧ 1 ≤ ss.length ∧ ss.length ≤ 4 ∧ (∀ s ∈ ss, StayOk S s) ∧ Fr [d] H H' ∧ Draws H' d l) ?_ ?_
    · walk_at "go"
      refine g_ite (fun c => ?_) (fun c => ?_)
      · walk_at "go"
        rename_i z H4 z0 z1 f4 D4
        refine g_ite (fun c2 => ?_) (fun c2 => ?_)
        · obtain ⟨w, hw, hw2⟩ := atI_of (xs := acc) (z := 0) (Int.le_refl _) (by omega)
          obtain ⟨s, a, hs0, rfl, _, da⟩ := stays_get ds hw2
          have ha4 : H4 Dl = some (.lst acc) := f4.at ha (nin1 hnd nin0)
          walk_at "go"
          refine g_ixL (SqL.of ha4) hw ?_
          walk_at "go"
          refine g_setL ha4 (j := 1) (by unfold ixN; rw [if_pos (by decide), if_pos (by omega)]; rfl) fun H5 f5 e5 => ?_
          walk_at "go"
          refine ⟨_, _, ss.set 1 s, rfl, e5, ?_, by rw [List.length_set]; omega, by rw [List.length_set]; omega, fun z hz => ?_, ((F2.transL f).transL f4).own1 f5 nDH, D4.fr f5 (nin1 hnd.symm nin0) (nin1 hnl.symm nin0)⟩
          · rw [List.map_set]
            exact (DaL.frL f5 (DaL.frL f4 ds (imm_stays ss)) (imm_stays ss)).set (Da.frL f5 (Da.frL f4 da rfl) rfl)
          · rcases List.mem_or_eq_of_mem_set hz with h | h
            · exact hk z h
            · rw [h]; exact hk s (List.mem_of_getElem? hs0)
        · walk_at "go"
          exact ⟨_, _, ss, rfl, f4.at ha (nin1 hnd nin0), DaL.frL f4 ds (imm_stays ss), by omega, by omega, hk, (F2.transL f).transL f4, D4⟩
      · walk_at "go"
        exact ⟨_, _, ss, rfl, ha, ds, by omega, by omega, hk, F2.transL f, D⟩
    · rintro σ H4 ⟨v4, acc, ss, rfl, ha, ds, h1, h4, hk, F4, D4⟩
      walk_at "go"
      refine g_srt (SqL.of ha) ds (stays_alike ss) (stays_sortable ss) (stays_depth ss) fun p H5 ys n5 f5 e5 dy => ?_
      rw [← ssrt_map] at dy
      have dy5 := DaL.frL f5 dy (imm_stays _)
      have hy : ys.length = ss.length := by rw [dy.len, List.length_map, (ssrt_perm ss).length_eq]
      walk_at "go"
      rename_i q H6 n6 f6 e6
      exact k _ (ssrt ss) H6 ⟨by rw [(ssrt_perm ss).length_eq]; exact h1, by rw [(ssrt_perm ss).length_eq]; exact h4, fun s hs => hk s ((ssrt_perm ss).mem_iff.mp hs), ssrt_ssrt ss⟩ (.tup e6 (by omega) (DaL.frL f6 dy5 (imm_stays _))) ((F4.then0 f5).then0 f6) ((D4.fr f5 nin0 nin0).fr f6 nin0 nin0)
theorem ok_Lparty {f : Addr} {fd : FuncData} (F : Fun K "_law_party" "_law_party" s_Lparty f fd) (T : Txt K mg A) (c_Lstay : Cal P w K mg base "_law_stay" 3 ["_law_draws", "_law_setup_here"] (sp_Lstay K A)) (c_Ldraw : Cal P w K mg base "_law_draw" 2 ["_law_draws"] (sp_Ldraw K A)) : FnOk P w K mg base CX0 (4) f fd ["_law_draws", "_law_setup_here"] (sp_Lparty K A) := by
  refine F.ok sc_Lparty (fun vs H Q E h => ?_) (fun cdv Ar outer s H vs Q E hr h => ⟨t_Lparty K A, ?_, ?_⟩)
  · obtain ⟨x0, x1, rfl, _⟩ := h
    rfl
  · have hu := hu_of hr
    exact (pss_cons (ps_set (i := 2) sc_Lparty.nd rfl (Or.inl rfl) (pe_ix ix_list (pe_lst (pa_cons pe_int (pa_cons pe_int (pa_cons pe_int (pa_cons pe_int (pa_cons pe_int (pa_cons pe_int (pa_cons pe_int pa_nil)))))))) (pe_op o_mod (pe_cl c_Ldraw (hr.mono (by first | decide | omega)) (by rfl) (pa_cons (pv 0) pa_nil)) pe_int) (fun _ _ => rfl)))
    (pss_cons (ps_setLc (i := 3) (own := [("_law_k", 4)]) (g := (gName 4)) (tt := tYes) rfl sc_Lparty.nd rfl rfl (sw_true rfl rfl rfl (by decide +kernel)) (pi_range1 rfl T.b_range (pa_cons (pv 2) pa_nil)) (blkOk_by (N := ["_law_draws", "_law_setup_here", "_law_many", "_law_stays", "_law_k"]) (sc := defScope s_Lparty) (own := [("_law_k", 4)]) (by decide +kernel)) (fun _ _ _ _ _ => (pg_name (i := 4) sc_Lparty.nd rfl (Or.inl rfl))) (fun _ _ _ _ _ => pts_nil) (fun _ _ _ _ _ => (pe_cl c_Lstay (hr.mono (by first | decide | omega)) (by rfl) (pa_cons (pv 0) (pa_cons (pv 1) pa_nil)))))
    (Evl.pss_cut (ps_if (PW.pt (pw_and (pt_cmpR c_gt (pv 2) pe_int (nomark _)) (pw_and1 (pt_cmpR op_eq (pe_op o_mod (pe_cl c_Ldraw (hr.mono (by first | decide | omega)) (by rfl) (pa_cons (pv 0) pa_nil)) pe_int) pe_int (nomark _))))) (pss_one (ps_asg (pe_ix ix_list (pv 3) pe_int (fun _ _ => rfl)) (pg_sub (pv 3) pe_int set_list))) pss_nil)
    (pss_one (ps_ret (pe_callTy b_tuple (by rfl) T.b_tuple (by decide +kernel) (pa_cons (pe_callB (b_sortD hr.units) (by rfl) T.b_sorted (by decide +kernel) (pa_cons (pv 3) pa_nil)) pa_nil)))))))
  · obtain ⟨x0, x1, rfl, h⟩ := h
    exact pu_Lparty T h

/-! ### cells and needs -/
abbrev Cell := Int × Int
def ck (c : Cell) : List Key := [.inl c.1, .inl c.2]
theorem ck_inj : ∀ a b : Cell, ck a = ck b → a = b := fun a b h => by
  obtain ⟨a1, a2⟩ := a
  obtain ⟨b1, b2⟩ := b
  unfold ck at h
  simp only [List.cons.injEq, Sum.inl.injEq, and_true] at h
  rw [h.1, h.2]
/-- a dict from cells to numbers -/
abbrev cD (m : List (Cell × Int)) : List (List Key × V) := enD ck V.int m
def cellsOf (s : Stay) : List Cell := (List.range (s.2.2 - s.2.1).toNat).map fun i => (s.1, s.2.1 + (i : Nat))
def bump (m : List (Cell × Int)) (c : Cell) : List (Cell × Int) := pt m c ((lk m c).getD 0 + 1)
def needsL (ss : List Stay) : List (Cell × Int) := (ss.flatMap cellsOf).foldl bump []
theorem pt_len {κ α : Type} [DecidableEq κ] (m : List (κ × α)) (k : κ) (v : α) : (pt m k v).length ≤ m.length + 1 := by
  unfold pt
  split
  · rw [List.length_map]; omega
  · rw [List.length_append]; simp
theorem fold_len : ∀ (cs : List Cell) (m : List (Cell × Int)), (cs.foldl bump m).length ≤ m.length + cs.length
  | [], _ => Nat.le_refl _
  | c :: cs, m => by
    have h := fold_len cs (bump m c)
    have h2 : (bump m c).length ≤ m.length + 1 := pt_len m c _
    show (cs.foldl bump (bump m c)).length ≤ m.length + (cs.length + 1)
    omega
theorem val_cell (m : List (Cell × Int)) (c : Cell) : valV (cD m) (ck c) = (lk m c).map V.int := enD_val ck_inj m c
theorem put_cell (m : List (Cell × Int)) (c : Cell) (v : Int) : putK (cD m) (ck c) (.int v) = cD (pt m c v) := enD_put ck_inj m c v
theorem cellsOf_len (s : Stay) : (cellsOf s).length = (s.2.2 - s.2.1).toNat := by unfold cellsOf; rw [List.length_map, List.length_range]
theorem flat_len : ∀ (ss : List Stay) (n : Nat), (∀ s ∈ ss, (s.2.2 - s.2.1).toNat ≤ n) → (ss.flatMap cellsOf).length ≤ n * ss.length
  | [], _, _ => by simp
  | s :: ss, n, h => by
    have h1 := flat_len ss n fun z hz => h z (List.mem_cons_of_mem _ hz)
    have h2 := h s List.mem_cons_self
    rw [List.flatMap_cons, List.length_append, cellsOf_len, List.length_cons, Nat.mul_succ]
    omega
/-- the keys differ -/
def Nd {κ α : Type} (m : List (κ × α)) : Prop := (m.map (·.1)).Nodup
/-! sums over needs -/
theorem pt_keys {κ α : Type} [DecidableEq κ] (m : List (κ × α)) (k : κ) (v : α) : (pt m k v).map (·.1) = if k ∈ m.map (·.1) then m.map (·.1) else m.map (·.1) ++ [k] := by
  have h : (m.any fun e => decide (e.1 = k)) = decide (k ∈ m.map (·.1)) := by
    induction m with
    | nil => simp
    | cons e r ih =>
      rw [List.any_cons, ih]
      by_cases q : e.1 = k
      · simp [q]
      · have q2 : ¬ k = e.1 := fun z => q z.symm
        simp [q, q2]
  unfold pt
  rw [h]
  by_cases q : k ∈ m.map (·.1)
  · rw [if_pos (decide_eq_true q), if_pos q, List.map_map]
    refine List.map_congr_left fun e _ => ?_
    show (if e.1 = k then (e.1, v) else e).1 = e.1
    split <;> rfl
  · rw [if_neg (by simpa using q), if_neg q, List.map_append]
    rfl
theorem Nd.pt {κ α : Type} [DecidableEq κ] {m : List (κ × α)} (h : Nd m) (k : κ) (v : α) : Nd (pt m k v) := by
  unfold Nd
  rw [pt_keys]
  split
  · exact h
  · rename_i q
    exact List.nodup_append.mpr ⟨h, by simp, fun a ha b hb => by rw [List.mem_singleton.mp hb]; exact fun z => q (z ▸ ha)⟩
theorem lk_none {κ α : Type} [DecidableEq κ] : ∀ {m : List (κ × α)} {k : κ}, k ∉ m.map (·.1) → lk m k = none
  | [], _, _ => rfl
  | e :: r, k, h => by
    have h1 : ¬ e.1 = k := fun z => h (by simp [z])
    have h2 : k ∉ r.map (·.1) := fun z => h (by simp [z])
    have := lk_none (m := r) h2
    simp only [lk, List.find?_cons, decide_eq_false h1]
    exact this
theorem lk_mem {κ α : Type} [DecidableEq κ] : ∀ {m : List (κ × α)} {e : κ × α}, Nd m → e ∈ m → lk m e.1 = some e.2
  | a :: r, e, h, he => by
    have h : (a.1 :: r.map (·.1)).Nodup := h
    obtain ⟨h1, h2⟩ := List.nodup_cons.mp h
    rcases List.mem_cons.mp he with q | q
    · subst q; simp [lk, List.find?_cons]
    · have hne : ¬ a.1 = e.1 := fun z => h1 (z ▸ List.mem_map.mpr ⟨e, q, rfl⟩)
      have := lk_mem (m := r) h2 q
      simp only [lk, List.find?_cons, decide_eq_false hne]
      exact this
theorem lk_some {κ α : Type} [DecidableEq κ] : ∀ {m : List (κ × α)} {k : κ} {v : α}, lk m k = some v → (k, v) ∈ m
  | e :: r, k, v, h => by
    by_cases q : e.1 = k
    · simp [lk, List.find?_cons, q] at h
      rw [← h, ← q]; exact List.mem_cons_self
    · simp only [lk, List.find?_cons, decide_eq_false q] at h
      exact List.mem_cons_of_mem _ (lk_some (m := r) h)
/-- the sum over a table of cells, each number weighed -/
def sumW (p : Cell → Int) (m : List (Cell × Int)) : Int := (m.map fun e => p e.1 * e.2).sum
theorem sumW_map {p : Cell → Int} {c : Cell} {n k : Int} : ∀ {m : List (Cell × Int)}, Nd m → lk m c = some n → sumW p (m.map fun e => if e.1 = c then (e.1, k) else e) = sumW p m + p c * (k - n)
  | e :: r, h, hl => by
    have h : (e.1 :: r.map (·.1)).Nodup := h
    obtain ⟨h1, h2⟩ := List.nodup_cons.mp h
    by_cases q : e.1 = c
    · have hn : e.2 = n := by simpa [lk, List.find?_cons, q] using hl
      have hr : r.map (fun e => if e.1 = c then (e.1, k) else e) = r := by
        refine (List.map_congr_left fun e' he' => ?_).trans (List.map_id r)
        have : ¬ e'.1 = c := fun z => h1 (by rw [q, ← z]; exact List.mem_map.mpr ⟨e', he', rfl⟩)
        rw [if_neg this]; rfl
      show sumW p ((if e.1 = c then (e.1, k) else e) :: r.map fun e => if e.1 = c then (e.1, k) else e) = _
      rw [if_pos q, hr]
      simp only [sumW, List.map_cons, List.sum_cons, q, ← hn, Int.mul_sub]
      omega
    · have hl2 : lk r c = some n := by simpa [lk, List.find?_cons, q] using hl
      have ih := sumW_map (p := p) (c := c) (n := n) (k := k) h2 hl2
      show sumW p ((if e.1 = c then (e.1, k) else e) :: r.map fun e => if e.1 = c then (e.1, k) else e) = _
      rw [if_neg q]
      simp only [sumW, List.map_cons, List.sum_cons] at ih ⊢
      rw [ih]
      omega
theorem sumW_bump (p : Cell → Int) {m : List (Cell × Int)} (h : Nd m) (c : Cell) : sumW p (bump m c) = sumW p m + p c := by
  unfold bump pt
  by_cases q : (m.any fun e => decide (e.1 = c)) = true
  · rw [if_pos q]
    cases hl : lk m c with
    | none =>
      exfalso
      obtain ⟨e, he, hc⟩ := List.any_eq_true.mp q
      have := lk_mem h he
      rw [of_decide_eq_true hc, hl] at this
      cases this
    | some n =>
      rw [sumW_map h hl]
      show _ + p c * (n + 1 - n) = _
      rw [show n + 1 - n = 1 by omega, Int.mul_one]
  · rw [if_neg q]
    have hl : lk m c = none := by
      cases hl : lk m c with
      | none => rfl
      | some n =>
        have := lk_some hl
        exact absurd (List.any_eq_true.mpr ⟨_, this, by simp⟩) q
    rw [hl]
    simp [sumW]
theorem Nd.bump {m : List (Cell × Int)} (h : Nd m) (c : Cell) : Nd (bump m c) := h.pt c _
theorem fold_nd : ∀ (cs : List Cell) {m : List (Cell × Int)}, Nd m → Nd (cs.foldl bump m)
  | [], _, h => h
  | c :: cs, _, h => fold_nd cs (h.bump c)
theorem fold_sum (p : Cell → Int) : ∀ (cs : List Cell) {m : List (Cell × Int)}, Nd m → sumW p (cs.foldl bump m) = sumW p m + (cs.map p).sum
  | [], m, _ => by simp
  | c :: cs, m, h => by
    show sumW p (cs.foldl bump (bump m c)) = _
    rw [fold_sum p cs (h.bump c), sumW_bump p h, List.map_cons, List.sum_cons]
    omega
theorem needs_nd (ss : List Stay) : Nd (needsL ss) := fold_nd _ List.nodup_nil
theorem needs_sum (p : Cell → Int) (ss : List Stay) : sumW p (needsL ss) = ((ss.flatMap cellsOf).map p).sum := by
  unfold needsL
  rw [fold_sum p (m := []) _ List.nodup_nil]
  simp [sumW]
theorem bump_keys {m : List (Cell × Int)} {c x : Cell} (h : x ∈ (bump m c).map (·.1)) : x ∈ m.map (·.1) ∨ x = c := by
  unfold bump at h
  rw [pt_keys] at h
  split at h
  · exact .inl h
  · rcases List.mem_append.mp h with q | q
    · exact .inl q
    · exact .inr (List.mem_singleton.mp q)
theorem fold_keys : ∀ (cs : List Cell) {m : List (Cell × Int)} {x : Cell}, x ∈ (cs.foldl bump m).map (·.1) → x ∈ m.map (·.1) ∨ x ∈ cs
  | [], _, _, h => .inl h
  | c :: cs, m, x, h => by
    rcases fold_keys cs h with q | q
    · rcases bump_keys q with q | q
      · exact .inl q
      · exact .inr (q ▸ List.mem_cons_self)
    · exact .inr (List.mem_cons_of_mem _ q)
theorem needs_keys {ss : List Stay} {e : Cell × Int} (h : e ∈ needsL ss) : ∃ s ∈ ss, e.1 ∈ cellsOf s := by
  rcases fold_keys _ (List.mem_map.mpr ⟨e, h, rfl⟩) with q | q
  · cases q
  · exact List.mem_flatMap.mp q
theorem cell_in {s : Stay} {c : Cell} (h : c ∈ cellsOf s) : c.1 = s.1 ∧ s.2.1 ≤ c.2 ∧ c.2 < s.2.2 := by
  unfold cellsOf at h
  obtain ⟨i, hi, rfl⟩ := List.mem_map.mp h
  have := List.mem_range.mp hi
  exact ⟨rfl, by show s.2.1 ≤ s.2.1 + (i : Int); omega, by show s.2.1 + (i : Int) < s.2.2; omega⟩

def P_nights_of (K : PySem.W.Frag) (A : Ad) (x0 : V) (H : Hp) (Q : VK) : Prop := ∃ (a : Addr) (s : Stay), x0 = .ref a ∧ H a = some (.tup [.int s.1, .int s.2.1, .int s.2.2]) ∧ 0 ≤ s.2.1 ∧ s.2.1 ≤ 10000 ∧ 0 ≤ s.2.2 ∧ s.2.2 ≤ 10000 ∧
  ∀ (p : Addr) (H' : Hp), H p = none → Fr [] H H' → H' p = some (.lst ((List.range (s.2.2 - s.2.1).toNat).map fun i => V.int (s.2.1 + (i : Nat)))) → Q (.ref p) H'
def sp_nights_of (K : PySem.W.Frag) (A : Ad) : Sp := fun vs H Q _ => ∃ x0, vs = [x0] ∧ P_nights_of K A x0 H Q
theorem c_nights_of {K : PySem.W.Frag} {A : Ad} {x0 : V} {H : Hp} {Q : VK} {E : XK} (h : P_nights_of K A x0 H Q) : sp_nights_of K A [x0] H Q E := ⟨_, rfl, h⟩
theorem sc_nights_of : FnScope ["stay"] ["stay"] (defScope s_nights_of) := ⟨rfl, rfl, rfl, by decide +kernel, rfl, by decide +kernel, by decide +kernel⟩
def t_nights_of (K : PySem.W.Frag) (A : Ad) : TS :=
  (tRet (tLstRg (tRg2 (tOp (rIxT K) (tVar 0) (tC (.int 1))) (tOp (rIxT K) (tVar 0) (tC (.int 2))))))
theorem pu_nights_of (T : Txt K mg A) {x0 : V} {H : Hp} {Q : VK} (h : P_nights_of K A x0 H Q) : t_nights_of K A { nx := fun _ H' => Q .non H', rt := Q } [some x0] H := by
  obtain ⟨a, s, rfl, e, b0, b1, b2, b3, k⟩ := h
  unfold t_nights_of
  walk_at "go"
  rename_i p H1 n1 f1 e1
  exact k p H1 n1 f1 e1
theorem ok_nights_of {f : Addr} {fd : FuncData} (F : Fun K "nights_of" "nights_of" s_nights_of f fd) (T : Txt K mg A)  : FnOk P w K mg base CX0 (1) f fd ["stay"] (sp_nights_of K A) := by
  refine F.ok sc_nights_of (fun vs H Q E h => ?_) (fun cdv Ar outer s H vs Q E hr h => ⟨t_nights_of K A, ?_, ?_⟩)
  · obtain ⟨x0, rfl, _⟩ := h
    rfl
  · have hu := hu_of hr
    exact (pss_one (ps_ret (pe_listRg rfl (by rfl) T.b_list (prg_2 (by rfl) T.b_range (pe_ix ix_tup (pv 0) pe_int (fun _ _ => rfl)) (pe_ix ix_tup (pv 0) pe_int (fun _ _ => rfl))))))
  · obtain ⟨x0, rfl, h⟩ := h
    exact pu_nights_of T h

/-- stays whose nights are small -/
def SmallSt (ss : List Stay) : Prop := ∀ s ∈ ss, 0 ≤ s.2.1 ∧ s.2.1 ≤ 1000 ∧ 0 ≤ s.2.2 ∧ s.2.2 ≤ 1000
def P_needs_of (K : PySem.W.Frag) (A : Ad) (x0 : V) (H : Hp) (Q : VK) : Prop := ∃ (a : Addr) (xs : List V) (ss : List Stay), x0 = .ref a ∧ H a = some (.tup xs) ∧ DaL H xs (ss.map stayD) ∧ SmallSt ss ∧ ss.length ≤ 100 ∧
  ∀ (p : Addr) (H' : Hp), H p = none → Fr [] H H' → H' p = some (.dT (cD (needsL ss))) → Q (.ref p) H'
theorem foldn (cs : List Cell) (c : Cell) (m : List (Cell × Int)) : (cs ++ [c]).foldl bump m = bump (cs.foldl bump m) c := by rw [List.foldl_append]; rfl
def sp_needs_of (K : PySem.W.Frag) (A : Ad) : Sp := fun vs H Q _ => ∃ x0, vs = [x0] ∧ P_needs_of K A x0 H Q
theorem c_needs_of {K : PySem.W.Frag} {A : Ad} {x0 : V} {H : Hp} {Q : VK} {E : XK} (h : P_needs_of K A x0 H Q) : sp_needs_of K A [x0] H Q E := ⟨_, rfl, h⟩
theorem sc_needs_of : FnScope ["party", "needs", "stay", "night", "cell"] ["party"] (defScope s_needs_of) := ⟨rfl, rfl, rfl, by decide +kernel, rfl, by decide +kernel, by decide +kernel⟩
def t_needs_of (K : PySem.W.Frag) (A : Ad) : TS :=
  (tSeq (tAsg tDNewT (gName 1))
    (tSeq (tFor (iTup K (tVar 0)) (gName 2) (tFor (iList K (tCl (sp_nights_of K A) (tCons (tVar 2) tNil))) (gName 3) (tSeq (tAsg (tTup (tCons (tOp (rIxT K) (tVar 2) (tC (.int 0))) (tCons (tVar 3) tNil))) (gName 4))
    (sDPut (tVar 1) (tVar 4) (tOp oAdd (tDGet2 (tVar 1) (tVar 4) (tC (.int 0))) (tC (.int 1)))))))
    (tRet (tVar 1))))
theorem pu_needs_of (T : Txt K mg A) {x0 : V} {H : Hp} {Q : VK} (h : P_needs_of K A x0 H Q) : t_needs_of K A { nx := fun _ H' => Q .non H', rt := Q } [some x0, none, none, none, none] H := by
  obtain ⟨a, xs, ss, rfl, e, ds, sm, hss, k⟩ := h
  unfold t_needs_of
  walk_at "go"
  rename_i p H0 n0 f0 e0
  refine f_tup (xs := xs) (fun i σ H' => (∃ v2 v3 v4, σ = [some (.ref a), some (.ref p), v2, v3, v4]) ∧ Fr [] H H' ∧ H' p = some (.dT (cD (needsL (ss.take i))))) ⟨⟨_, _, _, rfl⟩, f0, e0⟩ ?_ ?_ ?_
  · rintro i σ H' _ ⟨_, f, _⟩
    exact SqT.of (f.tup _ _ e)
  · rintro i x σ H1 hx ⟨⟨v2, v3, v4, rfl⟩, f1, e1⟩
    obtain ⟨s, b, hs, rfl, eb, _⟩ := stays_get ds hx
    have hmem := List.mem_of_getElem? hs
    obtain ⟨b0, b1, b2, b3⟩ := sm s hmem
    have hlen : (cellsOf s).length = (s.2.2 - s.2.1).toNat := cellsOf_len s
    walk_at "go"
    refine c_nights_of ⟨b, s, rfl, f1.tup _ _ eb, b0, by omega, b2, by omega, fun q H2 n2 f2 e2 => ?_⟩
    walk_at "go"
    have npq : p ≠ q := ne_of_none e1 n2
    refine f_list (xs := (List.range (s.2.2 - s.2.1).toNat).map fun i => V.int (s.2.1 + (i : Nat))) (fun j σ H' => (∃ v3 v4, σ = [some (.ref a), some (.ref p), some (.ref b), v3, v4]) ∧ Fr [] H H' ∧ Fr [p] H2 H' ∧ H' p = some (.dT (cD (((ss.take i).flatMap cellsOf ++ (cellsOf s).take j).foldl bump []))))
      ⟨⟨_, _, rfl⟩, f1.then0 f2, Fr.refl, by rw [List.take_zero, List.append_nil]; exact f2.at0 e1⟩ ?_ ?_ ?_
    · rintro j σ H' _ ⟨_, _, f, _⟩
      exact SqL.of (f.at e2 (nin1 npq.symm nin0))
    · rintro j y σ H3 hy ⟨⟨v3, v4, rfl⟩, f3, g3, e3⟩
      rw [List.getElem?_map] at hy
      have hj : j < (s.2.2 - s.2.1).toNat := by
        have := List.getElem?_eq_some_iff.mp (show ((List.range (s.2.2 - s.2.1).toNat).map fun i => V.int (s.2.1 + (i : Nat)))[j]? = some y by rw [List.getElem?_map]; exact hy)
        have h1 := this.1
        rw [List.length_map, List.length_range] at h1
        exact h1
      rw [List.getElem?_range hj] at hy
      cases hy
      have hc : (cellsOf s)[j]? = some (s.1, s.2.1 + (j : Nat)) := by
        unfold cellsOf
        rw [List.getElem?_map, List.getElem?_range hj]
        rfl
      have eb3 := f3.tup _ _ eb
      walk_at "go"
      rename_i t H4 n4 f4 e4
      have e34 := f4.at0 e3
      walk_at "go"
      refine g_dgo (k := ck (s.1, s.2.1 + (j : Nat))) (.inl e34) e4 ?_
      rw [val_cell]
      have hv : ((lk (((ss.take i).flatMap cellsOf ++ (cellsOf s).take j).foldl bump []) (s.1, s.2.1 + (j : Nat))).map V.int).getD (.int 0) = .int ((lk (((ss.take i).flatMap cellsOf ++ (cellsOf s).take j).foldl bump []) (s.1, s.2.1 + (j : Nat))).getD 0) := by
        cases lk (((ss.take i).flatMap cellsOf ++ (cellsOf s).take j).foldl bump []) (s.1, s.2.1 + (j : Nat)) <;> rfl
      rw [hv]
      walk_at "go"
      have hL : (cD (((ss.take i).flatMap cellsOf ++ (cellsOf s).take j).foldl bump [])).length < sizeLine := by
        rw [enD_len]
        have h1 := fold_len ((ss.take i).flatMap cellsOf ++ (cellsOf s).take j) []
        have h2 := flat_len (ss.take i) 1000 fun z hz => by obtain ⟨c0, c1, c2, c3⟩ := sm z (List.mem_of_mem_take hz); omega
        rw [List.length_append, List.length_take] at h1
        have h3 : (ss.take i).length ≤ 100 := by rw [List.length_take]; omega
        have h4 : 1000 * (ss.take i).length ≤ 1000 * 100 := Nat.mul_le_mul_left _ h3
        exact szM (by simp only [List.length_nil] at h1; omega)
      refine g_rdp (k := ck (s.1, s.2.1 + (j : Nat))) e34 e4 hL fun H5 f5 e5 => ?_
      walk_at "go"
      refine ⟨⟨_, _, rfl⟩, (f3.then0 f4).own1 f5 n0, (g3.then0 f4).transL f5, ?_⟩
      rw [e5, put_cell, take_more hc, ← List.append_assoc, foldn]
      rfl
    · rintro σ H3 ⟨⟨v3, v4, rfl⟩, f3, g3, e3⟩
      refine ⟨⟨_, _, _, rfl⟩, f3, ?_⟩
      rw [List.length_map, List.length_range, ← hlen, List.take_length] at e3
      rw [e3]
      unfold needsL
      rw [take_more hs, List.flatMap_append]
      simp
  · rintro σ H1 ⟨⟨v2, v3, v4, rfl⟩, f1, e1⟩
    have hl : xs.length = ss.length := by rw [ds.len, List.length_map]
    rw [hl, List.take_length] at e1
    walk_at "go"
    exact k p H1 n0 f1 e1
theorem ok_needs_of {f : Addr} {fd : FuncData} (F : Fun K "needs_of" "needs_of" s_needs_of f fd) (T : Txt K mg A) (c_nights_of : Cal P w K mg base "nights_of" 1 ["stay"] (sp_nights_of K A)) : FnOk P w K mg base CX0 (2) f fd ["party"] (sp_needs_of K A) := by
  refine F.ok sc_needs_of (fun vs H Q E h => ?_) (fun cdv Ar outer s H vs Q E hr h => ⟨t_needs_of K A, ?_, ?_⟩)
  · obtain ⟨x0, rfl, _⟩ := h
    rfl
  · have hu := hu_of hr
    exact (pss_cons (ps_set (i := 1) sc_needs_of.nd rfl (Or.inl rfl) pe_dnewT)
    (pss_cons (ps_for PassesOwn.never rfl (pi_tup (pv 0)) (pg_name (i := 2) sc_needs_of.nd rfl (Or.inl rfl)) (pss_one (ps_for PassesOwn.never rfl (pi_list (pe_cl c_nights_of (hr.mono (by first | decide | omega)) (by rfl) (pa_cons (pv 2) pa_nil))) (pg_name (i := 3) sc_needs_of.nd rfl (Or.inl rfl)) (pss_cons (ps_set (i := 4) sc_needs_of.nd rfl (Or.inl rfl) (pe_tup (pa_cons (pe_ix ix_tup (pv 2) pe_int (fun _ _ => rfl)) (pa_cons (pv 3) pa_nil))))
    (pss_one (ps_dput hu (pv 1) (pv 4) (pe_op o_add (pe_dget2 hu (pv 1) (pv 4) pe_int ⟨rfl, rfl, rfl, rfl⟩) pe_int) rfl))))))
    (pss_one (ps_ret (pv 1)))))
  · obtain ⟨x0, rfl, h⟩ := h
    exact pu_needs_of T h
theorem SmallSt.of {S : Setup} {ss : List Stay} (ok : SetupOk S) (h : ∀ s ∈ ss, StayOk S s) : SmallSt ss := fun s hs => by
  obtain ⟨_, _, h1, h2, h3⟩ := h s hs
  have := ok.n2
  exact ⟨h1, by omega, by omega, by omega⟩
theorem cell_ok {S : Setup} (ok : SetupOk S) {ss : List Stay} (h : ∀ s ∈ ss, StayOk S s) {e : Cell × Int} (he : e ∈ needsL ss) : 0 ≤ e.1.1 ∧ e.1.1 < S.rooms.length ∧ 0 ≤ e.1.2 ∧ e.1.2 < S.nights := by
  obtain ⟨s, hs, hc⟩ := needs_keys he
  obtain ⟨h1, h2, h3⟩ := cell_in hc
  obtain ⟨k0, k1, k2, k3, k4⟩ := h s hs
  rw [h1]
  exact ⟨k0, k1, by omega, by omega⟩
theorem cD_get {m : List (Cell × Int)} {i : Nat} {k : List Key} {v : V} (h : (cD m)[i]? = some (k, v)) : ∃ e, m[i]? = some e ∧ k = ck e.1 ∧ v = .int e.2 := enD_get h

def P_Lneeds (K : PySem.W.Frag) (A : Ad) (x0 : V) (H : Hp) (Q : VK) : Prop := ∃ (a : Addr) (xs : List V) (ss : List Stay), x0 = .ref a ∧ H a = some (.tup xs) ∧ DaL H xs (ss.map stayD) ∧ SmallSt ss ∧ ss.length ≤ 100 ∧
  ∀ (p : Addr) (H' : Hp), H p = none → Fr [] H H' → H' p = some (.dT (cD (needsL ss))) → Q (.ref p) H'
def sp_Lneeds (K : PySem.W.Frag) (A : Ad) : Sp := fun vs H Q _ => ∃ x0, vs = [x0] ∧ P_Lneeds K A x0 H Q
theorem c_Lneeds {K : PySem.W.Frag} {A : Ad} {x0 : V} {H : Hp} {Q : VK} {E : XK} (h : P_Lneeds K A x0 H Q) : sp_Lneeds K A [x0] H Q E := ⟨_, rfl, h⟩
theorem sc_Lneeds : FnScope ["_law_party_here", "_law_needs_here", "_law_kind", "_law_first", "_law_end", "_law_night"] ["_law_party_here"] (defScope s_Lneeds) := ⟨rfl, rfl, rfl, by decide +kernel, rfl, by decide +kernel, by decide +kernel⟩
def t_Lneeds (K : PySem.W.Frag) (A : Ad) : TS :=
  (tSeq (tAsg tDNewT (gName 1))
    (tSeq (tFor (iTup K (tVar 0)) (gTup K 3 (gCons (gName 2) (gCons (gName 3) (gCons (gName 4) gNil)))) (tFor (iRng2 (tCons (tVar 3) (tCons (tVar 4) tNil))) (gName 5) (sDPut (tVar 1) (tTup (tCons (tVar 2) (tCons (tVar 5) tNil))) (tOp oAdd (tDGet2 (tVar 1) (tTup (tCons (tVar 2) (tCons (tVar 5) tNil))) (tC (.int 0))) (tC (.int 1))))))
    (tRet (tVar 1))))
theorem pu_Lneeds (T : Txt K mg A) {x0 : V} {H : Hp} {Q : VK} (h : P_Lneeds K A x0 H Q) : t_Lneeds K A { nx := fun _ H' => Q .non H', rt := Q } [some x0, none, none, none, none, none] H := by
  obtain ⟨a, xs, ss, rfl, e, ds, sm, hss, k⟩ := h
  unfold t_Lneeds
  walk_at "go"
  rename_i p H0 n0 f0 e0
  refine f_tup (xs := xs) (fun i σ H' => (∃ v2 v3 v4 v5, σ = [some (.ref a), some (.ref p), v2, v3, v4, v5]) ∧ Fr [] H H' ∧ H' p = some (.dT (cD (needsL (ss.take i))))) ⟨⟨_, _, _, _, rfl⟩, f0, e0⟩ ?_ ?_ ?_
  · rintro i σ H' _ ⟨_, f, _⟩
    exact SqT.of (f.tup _ _ e)
  · rintro i x σ H1 hx ⟨⟨v2, v3, v4, v5, rfl⟩, f1, e1⟩
    obtain ⟨s, b, hs, rfl, eb, _⟩ := stays_get ds hx
    have hmem := List.mem_of_getElem? hs
    obtain ⟨b0, b1, b2, b3⟩ := sm s hmem
    have hlen : (cellsOf s).length = (s.2.2 - s.2.1).toNat := cellsOf_len s
    have eb1 := f1.tup _ _ eb
    walk_at "go"
    refine f_range (lo := s.2.1) (n := (s.2.2 - s.2.1).toNat) (fun j σ H' => (∃ v5, σ = [some (.ref a), some (.ref p), some (.int s.1), some (.int s.2.1), some (.int s.2.2), v5]) ∧ Fr [] H H' ∧ H' p = some (.dT (cD (((ss.take i).flatMap cellsOf ++ (cellsOf s).take j).foldl bump []))))
      ⟨⟨_, rfl⟩, f1, by rw [List.take_zero, List.append_nil]; exact e1⟩ ?_ ?_
    · rintro j σ H3 hj ⟨⟨v5, rfl⟩, f3, e3⟩
      have hc : (cellsOf s)[j]? = some (s.1, s.2.1 + (j : Nat)) := by
        unfold cellsOf
        rw [List.getElem?_map, List.getElem?_range hj]
        rfl
      walk_at "go"
      rename_i t H4 n4 f4 e4
      have e34 := f4.at0 e3
      walk_at "go"
      refine g_dgo (k := ck (s.1, s.2.1 + (j : Nat))) (.inl e34) e4 ?_
      rw [val_cell]
      have hv : ((lk (((ss.take i).flatMap cellsOf ++ (cellsOf s).take j).foldl bump []) (s.1, s.2.1 + (j : Nat))).map V.int).getD (.int 0) = .int ((lk (((ss.take i).flatMap cellsOf ++ (cellsOf s).take j).foldl bump []) (s.1, s.2.1 + (j : Nat))).getD 0) := by
        cases lk (((ss.take i).flatMap cellsOf ++ (cellsOf s).take j).foldl bump []) (s.1, s.2.1 + (j : Nat)) <;> rfl
      rw [hv]
      walk_at "go"
      rename_i t2 H5 n5 f5 e5
      have e35 := f5.at0 e34
      have hL : (cD (((ss.take i).flatMap cellsOf ++ (cellsOf s).take j).foldl bump [])).length < sizeLine := by
        rw [enD_len]
        have h1 := fold_len ((ss.take i).flatMap cellsOf ++ (cellsOf s).take j) []
        have h2 := flat_len (ss.take i) 1000 fun z hz => by obtain ⟨c0, c1, c2, c3⟩ := sm z (List.mem_of_mem_take hz); omega
        rw [List.length_append, List.length_take] at h1
        have h3 : (ss.take i).length ≤ 100 := by rw [List.length_take]; omega
        have h4 : 1000 * (ss.take i).length ≤ 1000 * 100 := Nat.mul_le_mul_left _ h3
        exact szM (by simp only [List.length_nil] at h1; omega)
      refine g_rdp (k := ck (s.1, s.2.1 + (j : Nat))) e35 e5 hL fun H6 f6 e6 => ?_
      walk_at "go"
      refine ⟨⟨_, rfl⟩, ((f3.then0 f4).then0 f5).own1 f6 n0, ?_⟩
      rw [e6, put_cell, take_more hc, ← List.append_assoc, foldn]
      rfl
    · rintro σ H3 ⟨⟨v5, rfl⟩, f3, e3⟩
      refine ⟨⟨_, _, _, _, rfl⟩, f3, ?_⟩
      rw [← hlen, List.take_length] at e3
      rw [e3]
      unfold needsL
      rw [take_more hs, List.flatMap_append]
      simp
  · rintro σ H1 ⟨⟨v2, v3, v4, v5, rfl⟩, f1, e1⟩
    have hl : xs.length = ss.length := by rw [ds.len, List.length_map]
    rw [hl, List.take_length] at e1
    walk_at "go"
    exact k p H1 n0 f1 e1
theorem ok_Lneeds {f : Addr} {fd : FuncData} (F : Fun K "_law_needs" "_law_needs" s_Lneeds f fd) (T : Txt K mg A)  : FnOk P w K mg base CX0 (1) f fd ["_law_party_here"] (sp_Lneeds K A) := by
  refine F.ok sc_Lneeds (fun vs H Q E h => ?_) (fun cdv Ar outer s H vs Q E hr h => ⟨t_Lneeds K A, ?_, ?_⟩)
  · obtain ⟨x0, rfl, _⟩ := h
    rfl
  · have hu := hu_of hr
    exact (pss_cons (ps_set (i := 1) sc_Lneeds.nd rfl (Or.inl rfl) pe_dnewT)
    (pss_cons (ps_for PassesOwn.never rfl (pi_tup (pv 0)) (pg_tup rfl (pgs_cons (pg_name (i := 2) sc_Lneeds.nd rfl (Or.inl rfl)) (pgs_cons (pg_name (i := 3) sc_Lneeds.nd rfl (Or.inl rfl)) (pgs_cons (pg_name (i := 4) sc_Lneeds.nd rfl (Or.inl rfl)) pgs_nil)))) (pss_one (ps_for PassesOwn.never rfl (pi_range2 rfl T.b_range (pa_cons (pv 3) (pa_cons (pv 4) pa_nil))) (pg_name (i := 5) sc_Lneeds.nd rfl (Or.inl rfl)) (pss_one (ps_dput hu (pv 1) (pe_tup (pa_cons (pv 2) (pa_cons (pv 5) pa_nil))) (pe_op o_add (pe_dget2 hu (pv 1) (pe_tup (pa_cons (pv 2) (pa_cons (pv 5) pa_nil))) pe_int ⟨rfl, rfl, rfl, rfl⟩) pe_int) rfl)))))
    (pss_one (ps_ret (pv 1)))))
  · obtain ⟨x0, rfl, h⟩ := h
    exact pu_Lneeds T h

/-! ### plain books: tables of parties -/
abbrev Pty := Addr × List Stay
abbrev pD (m : List (Cell × Pty)) : List (List Key × V) := enD ck (fun x : Pty => V.ref x.1) m
def nd (p : List Stay) (c : Cell) : Int := (lk (needsL p) c).getD 0
def tot (m : List (Cell × Pty)) (c : Cell) : Int := (m.map fun e => nd e.2.2 c).sum
def rmC (S : Setup) (c : Cell) : Int := S.rooms.getD c.1.toNat 0
def fitb (S : Setup) (m : List (Cell × Pty)) (p : List Stay) : Bool := (needsL p).all fun e => decide (e.2 + tot m e.1 ≤ rmC S e.1)
theorem sum_perm {l1 l2 : List Int} (h : l1.Perm l2) : l1.sum = l2.sum := by
  induction h with
  | nil => rfl
  | cons x _ ih => rw [List.sum_cons, List.sum_cons, ih]
  | swap x y l => rw [List.sum_cons, List.sum_cons, List.sum_cons, List.sum_cons]; omega
  | trans _ _ h1 h2 => exact h1.trans h2
theorem tot_perm {m1 m2 : List (Cell × Pty)} (h : m1.Perm m2) (c : Cell) : tot m1 c = tot m2 c := sum_perm (h.map _)
theorem tot_cons (e : Cell × Pty) (m : List (Cell × Pty)) (c : Cell) : tot (e :: m) c = nd e.2.2 c + tot m c := by unfold tot; rw [List.map_cons, List.sum_cons]
theorem tot_snoc (e : Cell × Pty) (m : List (Cell × Pty)) (c : Cell) : tot (m ++ [e]) c = tot m c + nd e.2.2 c := by
  unfold tot; rw [List.map_append, List.sum_append]; simp
section
variable {κ α : Type} [DecidableEq κ]
theorem Nd.perm {m1 m2 : List (κ × α)} (n : Nd m1) (h : m1.Perm m2) : Nd m2 := by
  unfold Nd at n ⊢
  exact (h.map (fun e : κ × α => e.1)).nodup_iff.mp n
theorem lk_perm {m1 m2 : List (κ × α)} (h : m1.Perm m2) (n : Nd m1) (k : κ) : lk m1 k = lk m2 k := by
  by_cases q : k ∈ m1.map (·.1)
  · obtain ⟨e, he, rfl⟩ := List.mem_map.mp q
    rw [lk_mem n he, lk_mem (n.perm h) (h.mem_iff.mp he)]
  · rw [lk_none q, lk_none fun z => q ((h.map (fun e : κ × α => e.1)).mem_iff.mpr z)]
theorem dr_perm {m1 m2 : List (κ × α)} (h : m1.Perm m2) (k : κ) : (dr m1 k).Perm (dr m2 k) := h.filter _
theorem dr_nd {m : List (κ × α)} (n : Nd m) (k : κ) : Nd (dr m k) := by
  unfold Nd dr
  exact List.Pairwise.sublist (List.Sublist.map _ List.filter_sublist) n
theorem dr_not {m : List (κ × α)} {k : κ} : k ∉ (dr m k).map (·.1) := fun q => by
  obtain ⟨e, he, z⟩ := List.mem_map.mp q
  exact (of_decide_eq_true (List.mem_filter.mp he).2) z
theorem pt_new {m : List (κ × α)} {k : κ} {v : α} (h : k ∉ m.map (·.1)) : pt m k v = m ++ [(k, v)] := by
  unfold pt
  rw [if_neg]
  intro q
  obtain ⟨e, he, z⟩ := List.any_eq_true.mp q
  exact h (List.mem_map.mpr ⟨e, he, of_decide_eq_true z⟩)
theorem pt_mid {A B : List (κ × α)} {k : κ} {w v : α} (h : Nd (A ++ (k, w) :: B)) : pt (A ++ (k, w) :: B) k v = A ++ (k, v) :: B := by
  unfold Nd at h
  rw [List.map_append, List.map_cons, List.nodup_append] at h
  obtain ⟨_, h2, h3⟩ := h
  have hB := (List.nodup_cons.mp h2).1
  have hA : k ∉ A.map (·.1) := fun z => h3 k z k List.mem_cons_self rfl
  have same : ∀ {L : List (κ × α)}, k ∉ L.map (·.1) → (L.map fun e => if e.1 = k then (e.1, v) else e) = L := fun {L} hL => by
    refine (List.map_congr_left fun e he => ?_).trans (List.map_id L)
    rw [if_neg fun z => hL (List.mem_map.mpr ⟨e, he, z⟩)]; rfl
  unfold pt
  rw [if_pos (by simp), List.map_append, List.map_cons, same hA, same hB, if_pos rfl]
theorem mem_split {m : List (κ × α)} {k : κ} {w : α} (h : lk m k = some w) : ∃ A B, m = A ++ (k, w) :: B := List.append_of_mem (lk_some h)
theorem dr_mid {A B : List (κ × α)} {k : κ} {w : α} (h : Nd (A ++ (k, w) :: B)) : dr (A ++ (k, w) :: B) k = A ++ B := by
  unfold Nd at h
  rw [List.map_append, List.map_cons, List.nodup_append] at h
  obtain ⟨_, h2, h3⟩ := h
  have hB := (List.nodup_cons.mp h2).1
  have hA : k ∉ A.map (·.1) := fun z => h3 k z k List.mem_cons_self rfl
  have same : ∀ {L : List (κ × α)}, k ∉ L.map (·.1) → (L.filter fun e => decide (e.1 ≠ k)) = L := fun {L} hL => List.filter_eq_self.mpr fun e he => decide_eq_true fun z => hL (List.mem_map.mpr ⟨e, he, z⟩)
  unfold dr
  rw [List.filter_append, List.filter_cons, same hA, same hB]
  simp
theorem pt_perm {m : List (κ × α)} {k : κ} {w : α} (n : Nd m) (h : lk m k = some w) (v : α) : (pt m k v).Perm (dr m k ++ [(k, v)]) := by
  obtain ⟨A, B, rfl⟩ := mem_split h
  rw [pt_mid n, dr_mid n]
  exact (List.perm_middle).trans (List.perm_append_comm (l₁ := [(k, v)]) (l₂ := A ++ B))
theorem dr_back {m : List (κ × α)} {k : κ} {w : α} (n : Nd m) (h : lk m k = some w) : m.Perm (dr m k ++ [(k, w)]) := by
  obtain ⟨A, B, rfl⟩ := mem_split h
  rw [dr_mid n]
  exact (List.perm_middle).trans (List.perm_append_comm (l₁ := [(k, w)]) (l₂ := A ++ B))
theorem dr_none {m : List (κ × α)} {k : κ} (h : lk m k = none) : dr m k = m := List.filter_eq_self.mpr fun e he => decide_eq_true fun z => by
  have : k ∈ m.map (·.1) := List.mem_map.mpr ⟨e, he, z⟩
  unfold lk at h
  rw [Option.map_eq_none_iff, List.find?_eq_none] at h
  exact h e he (decide_eq_true z)
end
/-! the law's table of all needs -/
def addT (T q : List (Cell × Int)) : List (Cell × Int) := q.foldl (fun T e => pt T e.1 ((lk T e.1).getD 0 + e.2)) T
theorem lk_cons {κ α : Type} [DecidableEq κ] (e : κ × α) (r : List (κ × α)) (c : κ) : lk (e :: r) c = if e.1 = c then some e.2 else lk r c := by
  unfold lk
  by_cases h : e.1 = c
  · simp [List.find?_cons, h]
  · simp [List.find?_cons, h]
theorem lk_addT (c : Cell) : ∀ (q T : List (Cell × Int)), Nd q → (lk (addT T q) c).getD 0 = (lk T c).getD 0 + (lk q c).getD 0
  | [], T, _ => by show (lk T c).getD 0 = (lk T c).getD 0 + 0; omega
  | e :: r, T, n => by
    have n1 := List.nodup_cons.mp (show (e.1 :: r.map (·.1)).Nodup from n)
    have ih := lk_addT c r (pt T e.1 ((lk T e.1).getD 0 + e.2)) n1.2
    show (lk (addT (pt T e.1 ((lk T e.1).getD 0 + e.2)) r) c).getD 0 = _
    rw [ih, lk_pt, lk_cons]
    by_cases h : c = e.1
    · have h2 : lk r e.1 = none := lk_none n1.1
      subst h
      rw [if_pos rfl, if_pos rfl, h2]
      show (lk T e.1).getD 0 + e.2 + 0 = (lk T e.1).getD 0 + e.2
      omega
    · rw [if_neg h, if_neg fun z => h z.symm]
theorem addT_nd : ∀ (q : List (Cell × Int)) {T : List (Cell × Int)}, Nd T → Nd (addT T q)
  | [], _, h => h
  | e :: r, _, h => addT_nd r (h.pt e.1 _)
theorem addT_keys {c : Cell} : ∀ (q : List (Cell × Int)) {T : List (Cell × Int)}, (c ∈ (addT T q).map (·.1) ↔ c ∈ T.map (·.1) ∨ c ∈ q.map (·.1))
  | [], T => by show c ∈ T.map (·.1) ↔ _; simp
  | e :: r, T => by
    show c ∈ (addT (pt T e.1 ((lk T e.1).getD 0 + e.2)) r).map (·.1) ↔ _
    rw [addT_keys r, pt_keys, List.map_cons, List.mem_cons]
    split
    · rename_i h
      constructor
      · rintro (a | a)
        · exact .inl a
        · exact .inr (.inr a)
      · rintro (a | a | a)
        · exact .inl a
        · exact .inl (a ▸ h)
        · exact .inr a
    · rw [List.mem_append, List.mem_singleton]
      constructor
      · rintro ((a | a) | a)
        · exact .inl a
        · exact .inr (.inl a)
        · exact .inr (.inr a)
      · rintro (a | a | a)
        · exact .inl (.inl a)
        · exact .inl (.inr a)
        · exact .inr a
def allT (m : List (Cell × Pty)) (p : List Stay) : List (Cell × Int) := m.foldl (fun T e => addT T (needsL e.2.2)) (needsL p)
theorem allT_snoc (m : List (Cell × Pty)) (e : Cell × Pty) (p : List Stay) : allT (m ++ [e]) p = addT (allT m p) (needsL e.2.2) := by unfold allT; rw [List.foldl_append]; rfl
theorem allT_of (p : List Stay) : ∀ (m : List (Cell × Pty)) (T : List (Cell × Int)), Nd T → Nd (m.foldl (fun T e => addT T (needsL e.2.2)) T) ∧ (∀ c, (lk (m.foldl (fun T e => addT T (needsL e.2.2)) T) c).getD 0 = (lk T c).getD 0 + tot m c) ∧ ∀ c, c ∈ T.map (·.1) → c ∈ (m.foldl (fun T e => addT T (needsL e.2.2)) T).map (·.1)
  | [], T, n => ⟨n, fun c => by show (lk T c).getD 0 = (lk T c).getD 0 + 0; omega, fun _ h => h⟩
  | e :: m, T, n => by
    obtain ⟨h1, h2, h3⟩ := allT_of p m (addT T (needsL e.2.2)) (addT_nd _ n)
    refine ⟨h1, fun c => ?_, fun c hc => h3 c ((addT_keys _).mpr (.inl hc))⟩
    show (lk (m.foldl (fun T e => addT T (needsL e.2.2)) (addT T (needsL e.2.2))) c).getD 0 = _
    rw [h2 c, lk_addT c _ _ (needs_nd _), tot_cons]
    unfold nd
    omega
/-- the law's test is the book's -/
theorem fit_same {S : Setup} {m : List (Cell × Pty)} {p : List Stay} (hI : ∀ c, tot m c ≤ rmC S c) : ((allT m p).all fun e => decide (e.2 ≤ rmC S e.1)) = fitb S m p := by
  obtain ⟨h1, h2, h3⟩ := allT_of p m (needsL p) (needs_nd p)
  rw [Bool.eq_iff_iff]
  unfold fitb
  rw [List.all_eq_true, List.all_eq_true]
  have val : ∀ e ∈ allT m p, e.2 = nd p e.1 + tot m e.1 := fun e he => by
    have := h2 e.1
    rw [show lk (m.foldl (fun T e => addT T (needsL e.2.2)) (needsL p)) e.1 = some e.2 from lk_mem h1 he] at this
    exact this
  constructor
  · intro h e he
    obtain ⟨e', he', hk⟩ := List.mem_map.mp (h3 e.1 (List.mem_map.mpr ⟨e, he, rfl⟩))
    have a := of_decide_eq_true (h e' he')
    rw [val e' he', hk] at a
    have b : nd p e.1 = e.2 := by unfold nd; rw [lk_mem (needs_nd p) he]; rfl
    rw [b] at a
    exact decide_eq_true a
  · intro h e he
    rw [val e he]
    refine decide_eq_true ?_
    by_cases q : e.1 ∈ (needsL p).map (·.1)
    · obtain ⟨e', he', hk⟩ := List.mem_map.mp q
      have a := of_decide_eq_true (h e' he')
      have b : nd p e'.1 = e'.2 := by unfold nd; rw [lk_mem (needs_nd p) he']; rfl
      rw [← b, hk] at a
      exact a
    · have b : nd p e.1 = 0 := by unfold nd; rw [lk_none q]; rfl
      rw [b, Int.zero_add]; exact hI e.1
/-- what fits keeps the bound -/
theorem fit_keeps {S : Setup} {m : List (Cell × Pty)} {p : List Stay} {k : Cell} {a : Addr} (hI : ∀ c, tot m c ≤ rmC S c) (hf : fitb S m p = true) : ∀ c, tot (m ++ [(k, (a, p))]) c ≤ rmC S c := fun c => by
  rw [tot_snoc]
  show tot m c + nd p c ≤ _
  unfold fitb at hf
  rw [List.all_eq_true] at hf
  by_cases q : c ∈ (needsL p).map (·.1)
  · obtain ⟨e, he, hk⟩ := List.mem_map.mp q
    have a := of_decide_eq_true (hf e he)
    have b : nd p e.1 = e.2 := by unfold nd; rw [lk_mem (needs_nd p) he]; rfl
    rw [← hk, b]; omega
  · have b : nd p c = 0 := by unfold nd; rw [lk_none q]; rfl
    have := hI c
    omega
theorem nd_pos (p : List Stay) (c : Cell) : 0 ≤ nd p c := by
  unfold nd
  have key : ∀ (cs : List Cell) (m : List (Cell × Int)), (∀ c, 0 ≤ (lk m c).getD 0) → ∀ c, 0 ≤ (lk (cs.foldl bump m) c).getD 0 := by
    intro cs
    induction cs with
    | nil => intro m h c; exact h c
    | cons a r ih =>
      intro m h c
      refine ih (bump m a) (fun c => ?_) c
      unfold bump
      rw [lk_pt]
      split
      · have := h a; show 0 ≤ (lk m a).getD 0 + 1; omega
      · exact h c
  exact key _ [] (fun c => Int.le_refl _) c
theorem tot_dr {m : List (Cell × Pty)} (n : Nd m) (k : Cell) (c : Cell) : tot (dr m k) c ≤ tot m c := by
  cases h : lk m k with
  | none => rw [dr_none h]; exact Int.le_refl _
  | some w =>
    rw [tot_perm (dr_back n h) c, tot_snoc]
    have := nd_pos w.2 c
    show tot (dr m k) c ≤ tot (dr m k) c + nd w.2 c
    omega
theorem fitb_perm {S : Setup} {m1 m2 : List (Cell × Pty)} (h : m1.Perm m2) (p : List Stay) : fitb S m1 p = fitb S m2 p := by
  unfold fitb
  congr 1
  funext e
  rw [tot_perm h e.1]

/-! ### the book -/
theorem pD_get {m : List (Cell × Pty)} {i : Nat} {k : List Key} {v : V} (h : (pD m)[i]? = some (k, v)) : ∃ e, m[i]? = some e ∧ k = ck e.1 ∧ v = .ref e.2.1 := enD_get h
theorem val_pty (m : List (Cell × Pty)) (c : Cell) : valV (pD m) (ck c) = (lk m c).map fun x : Pty => V.ref x.1 := enD_val ck_inj m c
theorem val_nd (p : List Stay) (c : Cell) : (valV (cD (needsL p)) (ck c)).getD (.int 0) = .int (nd p c) := by
  rw [val_cell]; unfold nd
  cases lk (needsL p) c <;> rfl
/-- a table of parties that stand -/
structure Kp (S : Setup) (H : Hp) (m : List (Cell × Pty)) : Prop where
  n : Nd m
  da : ∀ e ∈ m, Da H (.ref e.2.1) (partyD e.2.2)
  ok : ∀ e ∈ m, ∀ s ∈ e.2.2, StayOk S s
  l4 : ∀ e ∈ m, e.2.2.length ≤ 4
  len : m.length ≤ 60
theorem Kp.fr {S : Setup} {H H' : Hp} {l : List Addr} {m : List (Cell × Pty)} (k : Kp S H m) (f : Fr l H H') : Kp S H' m := ⟨k.n, fun e he => Da.frL f (k.da e he) (imm_party _), k.ok, k.l4, k.len⟩
theorem Kp.at {S : Setup} {H : Hp} {m : List (Cell × Pty)} (k : Kp S H m) {e : Cell × Pty} (he : e ∈ m) : ∃ xs, H e.2.1 = some (.tup xs) ∧ DaL H xs (e.2.2.map stayD) := by
  obtain ⟨a, xs, ea, h, _, r⟩ := (k.da e he).tup1
  cases ea
  exact ⟨xs, h, r⟩
def BookAt (A : Ad) (H : Hp) (b kd r : Addr) (N : Int) (m : List (Cell × Pty)) : Prop := (∃ dx, H b = some (.ins A.Book dx (F_Book r N kd))) ∧ H kd = some (.dT (pD m))
theorem rmC_at {S : Setup} {k n : Int} (h0 : 0 ≤ k) (h1 : k < S.rooms.length) : atI (S.rooms.map V.int) k = some (.int (rmC S (k, n))) := by
  have hk : k.toNat < S.rooms.length := by omega
  have e : (S.rooms.map V.int)[k.toNat]? = some (.int (rmC S (k, n))) := by
    unfold rmC
    rw [List.getElem?_map, List.getElem?_eq_getElem hk, List.getD_eq_getElem?_getD, List.getElem?_eq_getElem hk]; rfl
  have := atI_nat e
  rw [show ((k.toNat : Nat) : Int) = k by omega] at this
  exact this
def P_Book_init (K : PySem.W.Frag) (A : Ad) (x0 x1 x2 : V) (H : Hp) (Q : VK) : Prop := ∃ (p dx r : Addr) (N : Int), x0 = .ref p ∧ x1 = .ref r ∧ x2 = .int N ∧ H p = some (.ins A.Book dx []) ∧
  ∀ (kd : Addr) (H' : Hp), H kd = none → Fr [p] H H' → BookAt A H' p kd r N [] → Q .non H'
def sp_Book_init (K : PySem.W.Frag) (A : Ad) : Sp := fun vs H Q _ => ∃ x0 x1 x2, vs = [x0, x1, x2] ∧ P_Book_init K A x0 x1 x2 H Q
theorem c_Book_init {K : PySem.W.Frag} {A : Ad} {x0 x1 x2 : V} {H : Hp} {Q : VK} {E : XK} (h : P_Book_init K A x0 x1 x2 H Q) : sp_Book_init K A [x0, x1, x2] H Q E := ⟨_, _, _, rfl, h⟩
theorem sc_Book_init : FnScope ["self", "rooms", "nights"] ["self", "rooms", "nights"] (defScope s_Book_init) := ⟨rfl, rfl, rfl, by decide +kernel, rfl, by decide +kernel, by decide +kernel⟩
def t_Book_init (K : PySem.W.Frag) (A : Ad) : TS :=
  (tSeq (sFld K (tVar 0) (tVar 1) "rooms")
    (tSeq (sFld K (tVar 0) (tVar 2) "nights")
    (sFld K (tVar 0) tDNewT "kept")))
theorem pu_Book_init (T : Txt K mg A) {x0 x1 x2 : V} {H : Hp} {Q : VK} (h : P_Book_init K A x0 x1 x2 H Q) : t_Book_init K A { nx := fun _ H' => Q .non H', rt := Q } [some x0, some x1, some x2] H := by
  obtain ⟨p, dx, r, N, rfl, rfl, rfl, hp, k⟩ := h
  unfold t_Book_init
  walk_at "go"
  rename_i H1 f1 e1 H2 f2 e2 kd H3 n3 f3 e3 H4 f4 e4
  have npk : kd ≠ p := fun z => by rw [z, e2] at n3; cases n3
  exact k kd H4 ((f1.transL f2).freeL n3 (nin1 npk nin0)) (((f1.transL f2).then0 f3).transL f4) ⟨⟨dx, e4⟩, f4.at e3 (nin1 npk nin0)⟩
theorem ok_Book_init {f : Addr} {fd : FuncData} (F : Fun K "__init__" "Book.__init__" s_Book_init f fd) (T : Txt K mg A)  : FnOk P w K mg base CX0 (1) f fd ["self", "rooms", "nights"] (sp_Book_init K A) := by
  refine F.ok sc_Book_init (fun vs H Q E h => ?_) (fun cdv Ar outer s H vs Q E hr h => ⟨t_Book_init K A, ?_, ?_⟩)
  · obtain ⟨x0, x1, x2, rfl, _⟩ := h
    rfl
  · have hu := hu_of hr
    exact (pss_cons (ps_fld (pv 0) (pv 1) rfl)
    (pss_cons (ps_fld (pv 0) (pv 2) rfl)
    (pss_one (ps_fld (pv 0) pe_dnewT rfl))))
  · obtain ⟨x0, x1, x2, rfl, h⟩ := h
    exact pu_Book_init T h
def P_Book_free (K : PySem.W.Frag) (A : Ad) (x0 x1 x2 : V) (H : Hp) (Q : VK) : Prop := ∃ (b kd r : Addr) (N kind night : Int) (S : Setup) (m : List (Cell × Pty)), x0 = .ref b ∧ x1 = .int kind ∧ x2 = .int night ∧ BookAt A H b kd r N m ∧ H r = some (.tup (S.rooms.map V.int)) ∧ SetupOk S ∧ Kp S H m ∧ 0 ≤ kind ∧ kind < S.rooms.length ∧
  ∀ H', Fr [] H H' → Q (.int (rmC S (kind, night) - tot m (kind, night))) H'
def sp_Book_free (K : PySem.W.Frag) (A : Ad) : Sp := fun vs H Q _ => ∃ x0 x1 x2, vs = [x0, x1, x2] ∧ P_Book_free K A x0 x1 x2 H Q
theorem c_Book_free {K : PySem.W.Frag} {A : Ad} {x0 x1 x2 : V} {H : Hp} {Q : VK} {E : XK} (h : P_Book_free K A x0 x1 x2 H Q) : sp_Book_free K A [x0, x1, x2] H Q E := ⟨_, _, _, rfl, h⟩
theorem sc_Book_free : FnScope ["self", "kind", "night", "left", "name"] ["self", "kind", "night"] (defScope s_Book_free) := ⟨rfl, rfl, rfl, by decide +kernel, rfl, by decide +kernel, by decide +kernel⟩
def t_Book_free (K : PySem.W.Frag) (A : Ad) : TS :=
  (tSeq (tAsg (tOp (rIxT K) (tFld K (tVar 0) "rooms") (tVar 1)) (gName 3))
    (tSeq (tLock (tFor (iKeys (tFld K (tVar 0) "kept")) (gName 4) (tAug 3 (tDGet2 (tCl (sp_needs_of K A) (tCons (tDGet (tFld K (tVar 0) "kept") (tVar 4)) tNil)) (tTup (tCons (tVar 1) (tCons (tVar 2) tNil))) (tC (.int 0))) (ipI fun i j => i - j))))
    (tRet (tVar 3))))
theorem pu_Book_free (T : Txt K mg A) {x0 x1 x2 : V} {H : Hp} {Q : VK} (h : P_Book_free K A x0 x1 x2 H Q) : t_Book_free K A { nx := fun _ H' => Q .non H', rt := Q } [some x0, some x1, some x2, none, none] H := by
  obtain ⟨b, kd, r, N, kind, night, S, m, rfl, rfl, rfl, ⟨⟨dx, hb⟩, hk⟩, er, so, kp, k0, k1, k⟩ := h
  have nbk : b ≠ kd := ne_of hb hk (by intro z; cases z)
  unfold t_Book_free
  walk_at "go"
  refine g_ixT (SqT.of er) (rmC_at (n := night) k0 k1) ?_
  walk_at "go"
  refine g_lock hk trivial trivial fun od H2 f2 e2 => ?_
  have hb2 := f2.at hb (nin1 nbk nin0)
  walk_at "go"
  refine f_keysT (kvs := pD m) (fun i σ H' => (∃ v4, σ = [some (.ref b), some (.int kind), some (.int night), some (.int (rmC S (kind, night) - tot (m.take i) (kind, night))), v4]) ∧ Fr [] H2 H') ⟨⟨_, by rw [List.take_zero]; show _ = [_, _, _, some (V.int (rmC S (kind, night) - 0)), _]; rw [Int.sub_zero]; rfl⟩, Fr.refl⟩ (fun i σ H' _ ⟨_, f⟩ => f.at0 e2) ?_ ?_
  · rintro i kk v q σ H3 hi hq ⟨⟨v4, rfl⟩, f3⟩
    obtain ⟨e, he, rfl, rfl⟩ := pD_get hi
    have hmem := List.mem_of_getElem? he
    have F3 : Fr [kd] H H3 := f2.then0 f3
    obtain ⟨xs, ex, dxs⟩ := (kp.fr F3).at hmem
    have hb3 := f3.at0 hb2
    have ed := f3.at0 e2
    walk_at "go"
    refine g_rdg (k := ck e.1) (v := .ref e.2.1) (.inr ⟨_, ed⟩) hq (by rw [val_pty, lk_mem kp.n hmem]; rfl) ?_
    walk_at "go"
    refine c_needs_of ⟨e.2.1, xs, e.2.2, rfl, ex, dxs, SmallSt.of so (kp.ok e hmem), Nat.le_trans (kp.l4 e hmem) (by decide), fun p H4 n4 f4 e4 => ?_⟩
    walk_at "go"
    rename_i t H5 n5 f5 e5
    refine g_dgo (k := ck (kind, night)) (.inl (f5.at0 e4)) e5 ?_
    rw [val_nd]
    walk_at "go"
    refine ⟨⟨some (.ref q), ?_⟩, (f3.then0 f4).then0 f5⟩
    have e1 : rmC S (kind, night) - tot (m.take i) (kind, night) - nd e.2.2 (kind, night) = rmC S (kind, night) - tot (m.take (i + 1)) (kind, night) := by
      rw [take_more he, tot_snoc]; omega
    rw [← e1]; rfl
  · rintro σ H3 ⟨⟨v4, rfl⟩, f3⟩
    refine g_unl (f3.at0 e2) fun H4 f4 e4 => ?_
    rw [enD_len, List.take_length]
    walk_at "go"
    exact k H4 (((f2.then0 f3).transL f4).back hk e4)
theorem ok_Book_free {f : Addr} {fd : FuncData} (F : Fun K "free" "Book.free" s_Book_free f fd) (T : Txt K mg A) (c_needs_of : Cal P w K mg base "needs_of" 2 ["party"] (sp_needs_of K A)) : FnOk P w K mg base CX0 (3) f fd ["self", "kind", "night"] (sp_Book_free K A) := by
  refine F.ok sc_Book_free (fun vs H Q E h => ?_) (fun cdv Ar outer s H vs Q E hr h => ⟨t_Book_free K A, ?_, ?_⟩)
  · obtain ⟨x0, x1, x2, rfl, _⟩ := h
    rfl
  · have hu := hu_of hr
    exact (pss_cons (ps_set (i := 3) sc_Book_free.nd rfl (Or.inl rfl) (pe_ix ix_tup (pe_fld (pv 0) rfl) (pv 1) (fun _ _ => rfl)))
    (pss_cons (ps_lock (ps_for PassesOwn.never rfl (pi_keys (pe_fld (pv 0) rfl)) (pg_name (i := 4) sc_Book_free.nd rfl (Or.inl rfl)) (pss_one (ps_aug (i := 3) sc_Book_free.nd rfl (Or.inl rfl) (pe_dget2 hu (pe_cl c_needs_of (hr.mono (by first | decide | omega)) (by rfl) (pa_cons (pe_dget hu (pe_fld (pv 0) rfl) (pv 4) (fun _ _ => rfl)) pa_nil)) (pe_tup (pa_cons (pv 1) (pa_cons (pv 2) pa_nil))) pe_int ⟨rfl, rfl, rfl, rfl⟩) ip_sub))))
    (pss_one (ps_ret (pv 3)))))
  · obtain ⟨x0, x1, x2, rfl, h⟩ := h
    exact pu_Book_free T h
def P_Book_fits (K : PySem.W.Frag) (A : Ad) (x0 x1 : V) (H : Hp) (Q : VK) : Prop := ∃ (b kd r pa : Addr) (N : Int) (S : Setup) (m : List (Cell × Pty)) (ps : List Stay), x0 = .ref b ∧ x1 = .ref pa ∧ BookAt A H b kd r N m ∧ H r = some (.tup (S.rooms.map V.int)) ∧ SetupOk S ∧ Kp S H m ∧ Da H (.ref pa) (partyD ps) ∧ (∀ s ∈ ps, StayOk S s) ∧ ps.length ≤ 4 ∧
  ∀ H', Fr [] H H' → Q (.bl (fitb S m ps)) H'

/-- what is left, by cells -/
def lfT (S : Setup) (t : Cell → Int) (e : Cell × Int) : Cell × Int := (e.1, rmC S e.1 - e.2 - t e.1)
theorem lf_keys (S : Setup) (t : Cell → Int) (q : List (Cell × Int)) : (q.map (lfT S t)).map (·.1) = q.map (·.1) := by rw [List.map_map]; rfl
theorem key_new {q : List (Cell × Int)} {i : Nat} {e : Cell × Int} (n : Nd q) (he : q[i]? = some e) (S : Setup) (t : Cell → Int) : e.1 ∉ ((q.take i).map (lfT S t)).map (·.1) := fun z => by
  rw [lf_keys] at z
  obtain ⟨x, hx, hk⟩ := List.mem_map.mp z
  obtain ⟨j, hj⟩ := List.mem_iff_getElem?.mp hx
  have hji : j < i := by
    have := (List.getElem?_eq_some_iff.mp hj).1
    rw [List.length_take] at this; omega
  rw [List.getElem?_take_of_lt hji] at hj
  obtain ⟨h1, e1⟩ := List.getElem?_eq_some_iff.mp hj
  obtain ⟨h2, e2⟩ := List.getElem?_eq_some_iff.mp he
  have pw := List.pairwise_iff_getElem.mp (show (q.map (·.1)).Pairwise (· ≠ ·) from n) j i (by rw [List.length_map]; exact h1) (by rw [List.length_map]; exact h2) hji
  rw [List.getElem_map, List.getElem_map, e1, e2] at pw
  exact pw hk
theorem drop_of {α : Type} : ∀ {l : List α} {j : Nat} {x : α}, l[j]? = some x → l.drop j = x :: l.drop (j + 1)
  | [], j, x, h => by simp at h
  | a :: l, 0, x, h => by have e : a = x := Option.some.inj h; rw [e]; rfl
  | a :: l, j + 1, x, h => drop_of (l := l) (j := j) h
def mixT (S : Setup) (t t' : Cell → Int) (q : List (Cell × Int)) (j : Nat) : List (Cell × Int) := (q.take j).map (lfT S t') ++ (q.drop j).map (lfT S t)
theorem mix_nd {S : Setup} {t t' : Cell → Int} {q : List (Cell × Int)} {j : Nat} (n : Nd q) : Nd (mixT S t t' q j) := by
  unfold Nd mixT
  rw [List.map_append, lf_keys, lf_keys, ← List.map_append, List.take_append_drop]
  exact n
theorem mix_len {S : Setup} {t t' : Cell → Int} {q : List (Cell × Int)} {j : Nat} : (mixT S t t' q j).length = q.length := by
  unfold mixT
  rw [List.length_append, List.length_map, List.length_map, ← List.length_append, List.take_append_drop]
theorem mix_at {S : Setup} {t t' : Cell → Int} {q : List (Cell × Int)} {j : Nat} {e : Cell × Int} (he : q[j]? = some e) : mixT S t t' q j = (q.take j).map (lfT S t') ++ (e.1, rmC S e.1 - e.2 - t e.1) :: (q.drop (j + 1)).map (lfT S t) := by
  unfold mixT
  rw [drop_of he, List.map_cons]; rfl
theorem mix_step {S : Setup} {t t' : Cell → Int} {q : List (Cell × Int)} {j : Nat} {e : Cell × Int} (n : Nd q) (he : q[j]? = some e) : lk (mixT S t t' q j) e.1 = some (rmC S e.1 - e.2 - t e.1) ∧ pt (mixT S t t' q j) e.1 (rmC S e.1 - e.2 - t' e.1) = mixT S t t' q (j + 1) := by
  have nm := mix_nd (S := S) (t := t) (t' := t') (j := j) n
  rw [mix_at he] at nm ⊢
  refine ⟨lk_mem (e := (e.1, rmC S e.1 - e.2 - t e.1)) nm (by simp), ?_⟩
  rw [pt_mid nm]
  unfold mixT
  rw [take_more he, List.map_append, List.append_assoc]; rfl
theorem fit_left {S : Setup} {m : List (Cell × Pty)} {ps : List Stay} : (((needsL ps).map (lfT S (tot m))).map fun e => decide (0 ≤ e.2)).all id = fitb S m ps := by
  unfold fitb
  rw [List.map_map, List.all_map]
  congr 1
  funext e
  show decide (0 ≤ rmC S e.1 - e.2 - tot m e.1) = decide (e.2 + tot m e.1 ≤ rmC S e.1)
  exact decide_eq_decide.mpr (by omega)
theorem needs_len {S : Setup} (so : SetupOk S) {ps : List Stay} (ok : ∀ s ∈ ps, StayOk S s) (h4 : ps.length ≤ 4) : (needsL ps).length ≤ 4000 := by
  have h6 := fold_len (ps.flatMap cellsOf) []
  have h7 := flat_len ps 1000 fun z hz => by obtain ⟨q0, q1, q2, q3⟩ := SmallSt.of so ok z hz; omega
  have h9 : (needsL ps).length ≤ 0 + (ps.flatMap cellsOf).length := h6
  omega
def sp_Book_fits (K : PySem.W.Frag) (A : Ad) : Sp := fun vs H Q _ => ∃ x0 x1, vs = [x0, x1] ∧ P_Book_fits K A x0 x1 H Q
theorem c_Book_fits {K : PySem.W.Frag} {A : Ad} {x0 x1 : V} {H : Hp} {Q : VK} {E : XK} (h : P_Book_fits K A x0 x1 H Q) : sp_Book_fits K A [x0, x1] H Q E := ⟨_, _, rfl, h⟩
theorem sc_Book_fits : FnScope ["self", "party", "left", "needs", "cell", "name", "others"] ["self", "party"] (defScope s_Book_fits) := ⟨rfl, rfl, rfl, by decide +kernel, rfl, by decide +kernel, by decide +kernel⟩
def t_Book_fits (K : PySem.W.Frag) (A : Ad) : TS :=
  (tSeq (tAsg tDNewT (gName 2))
    (tSeq (tAsg (tCl (sp_needs_of K A) (tCons (tVar 1) tNil)) (gName 3))
    (tSeq (tLock (tFor (iKeys (tVar 3)) (gName 4) (sDPut (tVar 2) (tVar 4) (tOp oSub (tOp (rIxT K) (tFld K (tVar 0) "rooms") (tOp (rIxT K) (tVar 4) (tC (.int 0)))) (tDGet (tVar 3) (tVar 4))))))
    (tSeq (tLock (tFor (iKeys (tFld K (tVar 0) "kept")) (gName 5) (tSeq (tAsg (tCl (sp_needs_of K A) (tCons (tDGet (tFld K (tVar 0) "kept") (tVar 5)) tNil)) (gName 6))
    (tLock (tFor (iKeys (tVar 3)) (gName 4) (sDAug (tVar 2) (tVar 4) (tDGet2 (tVar 6) (tVar 4) (tC (.int 0))) rSub))))))
    (tRet (tCB (rAll K) (tCons (tLockE (tLc (iKeys (tVar 2)) (gName 4) tYes (tOp cGe (tDGet (tVar 2) (tVar 4)) (tC (.int 0))) [4])) tNil)))))))
theorem pu_Book_fits (T : Txt K mg A) {x0 x1 : V} {H : Hp} {Q : VK} (h : P_Book_fits K A x0 x1 H Q) : t_Book_fits K A { nx := fun _ H' => Q .non H', rt := Q } [some x0, some x1, none, none, none, none, none] H := by
  obtain ⟨b, kd, r, pa, N, S, m, ps, rfl, rfl, ⟨⟨dx, hb⟩, hk⟩, er, so, kp, dp0, okp, h4, k⟩ := h
  obtain ⟨_, xs, epa, ep, _, dxs⟩ := dp0.tup1
  cases epa
  have nbk : b ≠ kd := ne_of hb hk (by intro z; cases z)
  have nn := needs_nd ps
  have nl := needs_len so okp h4
  unfold t_Book_fits
  walk_at "go"
  rename_i lf H1 n1 f1 e1
  refine c_needs_of ⟨pa, xs, ps, rfl, f1.tup _ _ ep, DaL.frL f1 dxs (imm_stays ps), SmallSt.of so okp, Nat.le_trans h4 (by decide), fun nd H2 n2 f2 e2 => ?_⟩
  have e12 := f2.at0 e1
  have nln : lf ≠ nd := ne_of_none e1 n2
  have F2 : Fr [] H H2 := f1.then0 f2
  have nbl : b ≠ lf := ne_of_none hb n1
  have nkl : kd ≠ lf := ne_of_none hk n1
  have nbn : b ≠ nd := fun z => by rw [z] at hb; rw [f1.at0 hb] at n2; cases n2
  have nkn : kd ≠ nd := fun z => by rw [z] at hk; rw [f1.at0 hk] at n2; cases n2
  generalize hq : needsL ps = q at *
  walk_at "go"
  refine g_lock e2 trivial trivial fun od H3 f3 e3 => ?_
  have hb3 := f3.at (F2.at0 hb) (nin1 nbn nin0)
  have e13 := f3.at e12 (nin1 nln nin0)
  walk_at "go"
  refine f_keysT (kvs := cD q) (fun i σ H' => (∃ v4, σ = [some (.ref b), some (.ref pa), some (.ref lf), some (.ref nd), v4, none, none]) ∧ Fr [lf] H3 H' ∧ H' lf = some (.dT (cD ((q.take i).map (lfT S fun _ => 0))))) ⟨⟨_, rfl⟩, Fr.refl, by rw [List.take_zero]; exact e13⟩ (fun i σ H' _ ⟨_, f, _⟩ => f.at e3 (nin1 nln.symm nin0)) ?_ ?_
  · rintro i kk v t σ H4 hi ht ⟨⟨v4, rfl⟩, f4, e4⟩
    obtain ⟨e, he, rfl, rfl⟩ := cD_get hi
    have hmem := List.mem_of_getElem? he
    obtain ⟨c0, c1, _, _⟩ := cell_ok so okp (by rw [hq]; exact hmem)
    have ht2 : H4 t = some (.tup [.int e.1.1, .int e.1.2]) := ht
    have hb4 := f4.at hb3 (nin1 nbl nin0)
    have er4 := f4.tup _ _ (f3.tup _ _ (F2.tup _ _ er))
    have ed := f4.at e3 (nin1 nln.symm nin0)
    walk_at "go"
    refine g_ixT (SqT.of er4) (rmC_at (n := e.1.2) c0 c1) ?_
    walk_at "go"
    refine g_rdg (k := ck e.1) (v := .int e.2) (.inr ⟨_, ed⟩) ht (by rw [val_cell, lk_mem nn hmem]; rfl) ?_
    walk_at "go"
    refine g_rdp (k := ck e.1) e4 ht (by rw [enD_len, List.length_map, List.length_take]; exact szM (by omega)) fun H5 f5 e5 => ?_
    walk_at "go"
    refine ⟨⟨_, rfl⟩, f4.transL f5, ?_⟩
    rw [e5, put_cell, pt_new (key_new nn he S _), take_more he, List.map_append]
    show some (HO.dT (cD (_ ++ [(e.1, rmC S (e.1.1, e.1.2) - e.2)]))) = some (HO.dT (cD (_ ++ [(e.1, rmC S e.1 - e.2 - 0)])))
    rw [Int.sub_zero]
  · rintro σ H4 ⟨⟨v4, rfl⟩, f4, e4⟩
    rw [enD_len, List.take_length] at e4
    refine g_unl (f4.at e3 (nin1 nln.symm nin0)) fun H5 f5 e5 => ?_
    have e45 := f5.at e4 (nin1 nln nin0)
    have hk5 := f5.at (f4.at (f3.at (F2.at0 hk) (nin1 nkn nin0)) (nin1 nkl nin0)) (nin1 nkn nin0)
    have hb5 := f5.at (f4.at hb3 (nin1 nbl nin0)) (nin1 nbn nin0)
    have F25 : Fr [lf] H2 H5 := by
      refine ⟨fun a o ea hna => ?_, fun a xs ea => f5.tup _ _ (f4.tup _ _ (f3.tup _ _ ea))⟩
      by_cases z : a = nd
      · subst z; rw [e2] at ea; cases ea; exact e5
      · exact f5.at (f4.at (f3.at ea (nin1 z nin0)) hna) (nin1 z nin0)
    clear f3 f4 f5 e3 e13 hb3
    walk_at "go"
    refine g_lock hk5 trivial trivial fun od2 H6 f6 e6 => ?_
    have hb6 := f6.at hb5 (nin1 nbk nin0)
    have nd6 := f6.at e5 (nin1 nkn.symm nin0)
    have lf6 := f6.at e45 (nin1 nkl.symm nin0)
    walk_at "go"
    refine f_keysT (kvs := pD m) (fun i σ H' => (∃ v4 v5 v6, σ = [some (.ref b), some (.ref pa), some (.ref lf), some (.ref nd), v4, v5, v6]) ∧ Fr [lf] H6 H' ∧ H' lf = some (.dT (cD (q.map (lfT S (tot (m.take i))))))) ⟨⟨_, _, _, rfl⟩, Fr.refl, lf6⟩ (fun i σ H' _ ⟨_, f, _⟩ => f.at e6 (nin1 nkl nin0)) ?_ ?_
    · rintro i kk v t σ H7 hi ht ⟨⟨v4, v5, v6, rfl⟩, f7, e7⟩
      obtain ⟨e, he, rfl, rfl⟩ := pD_get hi
      have hmem := List.mem_of_getElem? he
      have F7 : Fr [lf, kd] H H7 := ((((F2.of0.transL (F25.mono (by simp))).transL (f6.mono (by simp))).transL (f7.mono (by simp))) : Fr [lf, kd] H H7)
      obtain ⟨ys, ex, dys⟩ := (kp.fr F7).at hmem
      have hb7 := f7.at hb6 (nin1 nbl nin0)
      have ed := f7.at e6 (nin1 nkl nin0)
      have nd7 := f7.at nd6 (nin1 nln.symm nin0)
      walk_at "go"
      refine g_rdg (k := ck e.1) (v := .ref e.2.1) (.inr ⟨_, ed⟩) ht (by rw [val_pty, lk_mem kp.n hmem]; rfl) ?_
      walk_at "go"
      refine c_needs_of ⟨e.2.1, ys, e.2.2, rfl, ex, dys, SmallSt.of so (kp.ok e hmem), Nat.le_trans (kp.l4 e hmem) (by decide), fun on H8 n8 f8 e8 => ?_⟩
      have nd8 := f8.at0 nd7
      have nno : nd ≠ on := fun z => by rw [z] at nd7; rw [nd7] at n8; cases n8
      have nlo : lf ≠ on := fun z => by rw [z] at e7; rw [e7] at n8; cases n8
      walk_at "go"
      refine g_lock nd8 trivial trivial fun od3 H9 f9 e9 => ?_
      have on9 := f9.at e8 (nin1 nno.symm nin0)
      have lf9 := f9.at (f8.at0 e7) (nin1 nln nin0)
      walk_at "go"
      refine f_keysT (kvs := cD q) (fun j σ H' => (∃ v4, σ = [some (.ref b), some (.ref pa), some (.ref lf), some (.ref nd), v4, some (.ref t), some (.ref on)]) ∧ Fr [lf] H9 H' ∧ H' lf = some (.dT (cD (mixT S (tot (m.take i)) (tot (m.take (i + 1))) q j)))) ⟨⟨_, rfl⟩, Fr.refl, by unfold mixT; rw [List.take_zero, List.drop_zero]; exact lf9⟩ (fun j σ H' _ ⟨_, f, _⟩ => f.at e9 (nin1 nln.symm nin0)) ?_ ?_
      · rintro j kk v u σ H10 hj hu ⟨⟨v4, rfl⟩, f10, e10⟩
        obtain ⟨x, hx, rfl, rfl⟩ := cD_get hj
        obtain ⟨s1, s2⟩ := mix_step (S := S) (t := tot (m.take i)) (t' := tot (m.take (i + 1))) nn hx
        have on10 := f10.at on9 (nin1 nlo.symm nin0)
        refine g_name ?_
        refine g_daug (g_var rfl (g_var rfl ?_))
        refine g_rda0 (k := ck x.1) e10 hu (by rw [val_cell, s1]; rfl) ?_
        show tDGet2 _ _ _ _ _ _
        walk_at "go"
        refine g_dgo (k := ck x.1) (.inl on10) hu ?_
        rw [val_nd]
        walk_at "go"
        refine g_rdput (k := ck x.1) e10 hu (by rw [enD_len, mix_len]; exact szM (by omega)) fun H11 f11 e11 => ?_
        refine ⟨⟨_, rfl⟩, f10.transL f11, ?_⟩
        rw [e11, put_cell, ← s2]
        have e12 : rmC S x.1 - x.2 - tot (m.take i) x.1 - Toy.nd e.2.2 x.1 = rmC S x.1 - x.2 - tot (m.take (i + 1)) x.1 := by
          rw [take_more he, tot_snoc]; omega
        rw [e12]
      · rintro σ H10 ⟨⟨v4, rfl⟩, f10, e10⟩
        rw [enD_len] at e10
        unfold mixT at e10
        rw [List.take_length, List.drop_length, List.map_nil, List.append_nil] at e10
        refine g_unl (f10.at e9 (nin1 nln.symm nin0)) fun H11 f11 e11 => ?_
        walk_at "go"
        refine ⟨⟨_, _, _, rfl⟩, ⟨fun a o ea hna => ?_, fun a xs ea => f11.tup _ _ (f10.tup _ _ (f9.tup _ _ (f8.tup _ _ (f7.tup _ _ ea))))⟩, f11.at e10 (nin1 nln nin0)⟩
        have ea8 := f8.at0 (f7.at ea hna)
        by_cases z : a = nd
        · subst z; rw [nd8] at ea8; cases ea8; exact e11
        · exact f11.at (f10.at (f9.at ea8 (nin1 z nin0)) hna) (nin1 z nin0)
    · rintro σ H7 ⟨⟨v4, v5, v6, rfl⟩, f7, e7⟩
      rw [enD_len, List.take_length] at e7
      refine g_unl (f7.at e6 (nin1 nkl nin0)) fun H8 f8 e8 => ?_
      have e78 := f8.at e7 (nin1 nkl.symm nin0)
      have F8 : Fr [lf] H5 H8 := by
        refine ⟨fun a o ea hna => ?_, fun a xs ea => f8.tup _ _ (f7.tup _ _ (f6.tup _ _ ea))⟩
        by_cases z : a = kd
        · subst z; rw [hk5] at ea; cases ea; exact e8
        · exact f8.at (f7.at (f6.at ea (nin1 z nin0)) hna) (nin1 z nin0)
      walk_at "go"
      refine g_lockE e78 trivial trivial fun od4 H9 f9 e9 => ?_
      walk_at "go"
      refine l_keysT (kvs := cD (q.map (lfT S (tot m)))) fun Dl H10 nD f10 e10 => ⟨fun i acc H' => acc = (((q.map (lfT S (tot m))).take i).map fun e => decide (0 ≤ e.2)).map V.bl ∧ Fr [] H9 H', ⟨rfl, f10⟩, fun i acc H' h => h.2.at0 e9, fun i kk v t acc H' hi ht ha ⟨ea, f⟩ => ?_, fun acc H' ha ⟨ea, f⟩ => ?_⟩
      · obtain ⟨x, hx, rfl, rfl⟩ := cD_get hi
        have hmx := List.mem_of_getElem? hx
        have ndx : Nd (q.map (lfT S (tot m))) := by unfold Nd; rw [lf_keys]; exact nn
        have hal : acc.length ≤ 4000 := by rw [ea, List.length_map, List.length_map, List.length_take, List.length_map]; omega
        walk_at "go"
        refine ⟨rfl, ?_⟩
        walk_at "go"
        refine g_rdg (k := ck x.1) (v := .int x.2) (.inr ⟨_, f.at0 e9⟩) ht (by rw [val_cell, lk_mem ndx hmx]; rfl) ?_
        walk_at "go"
        refine lcY_of ha (by walk_at "sz") fun H12 f12 e12 => ⟨?_, f.own1 f12 nD⟩
        rw [take_more hx, List.map_append, List.map_append, ea]; rfl
      · refine g_unl (f.at0 e9) fun H11 f11 e11 => ?_
        rw [enD_len, List.take_length] at ea
        have nDl : Dl ≠ lf := fun z => by rw [z, e9] at nD; cases nD
        have ha11 := f11.at ha (nin1 nDl nin0)
        subst ea
        walk_at "go"
        refine g_all (SqL.of ha11) ?_
        have ff := fit_left (S := S) (m := m) (ps := ps)
        rw [hq] at ff
        rw [ff]
        have FA : Fr [lf] H H11 := ((F2.of0.transL F25).transL F8).transL ((f9.then0 f).transL f11)
        exact k H11 (FA.drop n1)
theorem ok_Book_fits {f : Addr} {fd : FuncData} (F : Fun K "fits" "Book.fits" s_Book_fits f fd) (T : Txt K mg A) (c_needs_of : Cal P w K mg base "needs_of" 2 ["party"] (sp_needs_of K A)) : FnOk P w K mg base CX0 (3) f fd ["self", "party"] (sp_Book_fits K A) := by
  refine F.ok sc_Book_fits (fun vs H Q E h => ?_) (fun cdv Ar outer s H vs Q E hr h => ⟨t_Book_fits K A, ?_, ?_⟩)
  · obtain ⟨x0, x1, rfl, _⟩ := h
    rfl
  · have hu := hu_of hr
    exact (pss_cons (ps_set (i := 2) sc_Book_fits.nd rfl (Or.inr rfl) pe_dnewT)
    (pss_cons (ps_set (i := 3) sc_Book_fits.nd rfl (Or.inl rfl) (pe_cl c_needs_of (hr.mono (by first | decide | omega)) (by rfl) (pa_cons (pv 1) pa_nil)))
    (pss_cons (ps_lock (ps_for PassesOwn.never rfl (pi_keys (pv 3)) (pg_name (i := 4) sc_Book_fits.nd rfl (Or.inl rfl)) (pss_one (ps_dput hu (pv 2) (pv 4) (pe_op o_sub (pe_ix ix_tup (pe_fld (pv 0) rfl) (pe_ix ix_tup (pv 4) pe_int (fun _ _ => rfl)) (fun _ _ => rfl)) (pe_dget hu (pv 3) (pv 4) (fun _ _ => rfl))) rfl))))
    (pss_cons (ps_lock (ps_for PassesOwn.never rfl (pi_keys (pe_fld (pv 0) rfl)) (pg_name (i := 5) sc_Book_fits.nd rfl (Or.inl rfl)) (pss_cons (ps_set (i := 6) sc_Book_fits.nd rfl (Or.inl rfl) (pe_cl c_needs_of (hr.mono (by first | decide | omega)) (by rfl) (pa_cons (pe_dget hu (pe_fld (pv 0) rfl) (pv 5) (fun _ _ => rfl)) pa_nil)))
    (pss_one (ps_lock (ps_for PassesOwn.never rfl (pi_keys (pv 3)) (pg_name (i := 4) sc_Book_fits.nd rfl (Or.inl rfl)) (pss_one (ps_daug hu (pv 2) (pv 4) (pe_dget2 hu (pv 6) (pv 4) pe_int ⟨rfl, rfl, rfl, rfl⟩) in_sub (fun _ _ _ => rfl)))))))))
    (pss_one (ps_ret (pe_callB (cr_all rfl) (by rfl) T.b_all (by decide +kernel) (pa_cons (pe_lock (pe_lc (own := [("cell", 4)]) (g := (gName 4)) (tt := tYes) rfl sc_Book_fits.nd (pi_keys (pv 2)) (blkOk_by (N := ["self", "party", "left", "needs", "cell", "name", "others"]) (sc := defScope s_Book_fits) (own := [("cell", 4)]) (by decide +kernel)) (fun _ _ _ _ _ => (pg_name (i := 4) sc_Book_fits.nd rfl (Or.inl rfl))) (fun _ _ _ _ _ => pts_nil) (fun _ _ _ _ _ => (pe_cmpR c_ge (pe_dget hu (pv 2) (pv 4) (fun _ _ => rfl)) pe_int (nomark _))))) pa_nil))))))))
  · obtain ⟨x0, x1, rfl, h⟩ := h
    exact pu_Book_fits T h

def NmOk (m : List (Cell × Pty)) : Prop := ∀ e ∈ m, 0 ≤ e.1.1 ∧ e.1.1 < 4 ∧ 0 ≤ e.1.2 ∧ e.1.2 < 26
theorem hp_keys {m : List (Cell × Pty)} (n : Nd m) (h : NmOk m) : ((m.map (·.1)).map fun c => hp c.1 c.2).Nodup := by
  refine List.Pairwise.map _ (fun a b (hab : a ∈ m.map (·.1) ∧ b ∈ m.map (·.1) ∧ a ≠ b) => ?_) (List.Pairwise.imp_of_mem (fun {a b} ha hb hne => ⟨ha, hb, hne⟩) (show (m.map (·.1)).Pairwise (· ≠ ·) from n))
  obtain ⟨ha, hb, hne⟩ := hab
  obtain ⟨x, hx, rfl⟩ := List.mem_map.mp ha
  obtain ⟨y, hy, rfl⟩ := List.mem_map.mp hb
  obtain ⟨a0, a1, a2, a3⟩ := h x hx
  obtain ⟨b0, b1, b2, b3⟩ := h y hy
  intro e
  have q := hp_inj (a := x.1.1.toNat) (b := x.1.2.toNat) (c := y.1.1.toNat) (d := y.1.2.toNat) (by omega) (by omega) (by omega) (by omega) (by
    rw [show ((x.1.1.toNat : Nat) : Int) = x.1.1 by omega, show ((x.1.2.toNat : Nat) : Int) = x.1.2 by omega, show ((y.1.1.toNat : Nat) : Int) = y.1.1 by omega, show ((y.1.2.toNat : Nat) : Int) = y.1.2 by omega]; exact e)
  exact hne (Prod.ext (by omega) (by omega))
theorem pD_keys (m : List (Cell × Pty)) : (pD m).map (·.1) = (m.map (·.1)).map fun c => [Sum.inl c.1, Sum.inl c.2] := by
  show (m.map fun e => (ck e.1, V.ref e.2.1)).map (·.1) = _
  rw [List.map_map, List.map_map]; rfl
theorem pD_put (m : List (Cell × Pty)) (c : Cell) (x : Pty) : putK (pD m) (ck c) (.ref x.1) = pD (pt m c x) := enD_put ck_inj m c x
theorem pD_drop (m : List (Cell × Pty)) (c : Cell) : dropK (pD m) (ck c) = pD (dr m c) := enD_drop ck_inj m c
theorem lk_not {κ α : Type} [DecidableEq κ] {m : List (κ × α)} {k : κ} (h : lk m k = none) : k ∉ m.map (·.1) := fun q => by
  obtain ⟨e, he, z⟩ := List.mem_map.mp q
  unfold lk at h
  rw [Option.map_eq_none_iff, List.find?_eq_none] at h
  exact h e he (decide_eq_true z)
def P_Book_wish (K : PySem.W.Frag) (A : Ad) (x0 x1 x2 : V) (H : Hp) (Q : VK) : Prop := ∃ (b kd r t pa : Addr) (c : Cell) (N : Int) (S : Setup) (m : List (Cell × Pty)) (ps : List Stay), x0 = .ref b ∧ x1 = .ref t ∧ x2 = .ref pa ∧ H t = some (.tup [.int c.1, .int c.2]) ∧ BookAt A H b kd r N m ∧ H r = some (.tup (S.rooms.map V.int)) ∧ SetupOk S ∧ Kp S H m ∧ Da H (.ref pa) (partyD ps) ∧ (∀ s ∈ ps, StayOk S s) ∧ ps.length ≤ 4 ∧ lk m c = none ∧
  (fitb S m ps = true → ∀ H', Fr [kd] H H' → BookAt A H' b kd r N (m ++ [(c, (pa, ps))]) → Q (.bl true) H') ∧ (fitb S m ps = false → ∀ H', Fr [] H H' → Q (.bl false) H')
def sp_Book_wish (K : PySem.W.Frag) (A : Ad) : Sp := fun vs H Q _ => ∃ x0 x1 x2, vs = [x0, x1, x2] ∧ P_Book_wish K A x0 x1 x2 H Q
theorem c_Book_wish {K : PySem.W.Frag} {A : Ad} {x0 x1 x2 : V} {H : Hp} {Q : VK} {E : XK} (h : P_Book_wish K A x0 x1 x2 H Q) : sp_Book_wish K A [x0, x1, x2] H Q E := ⟨_, _, _, rfl, h⟩
theorem sc_Book_wish : FnScope ["self", "name", "party"] ["self", "name", "party"] (defScope s_Book_wish) := ⟨rfl, rfl, rfl, by decide +kernel, rfl, by decide +kernel, by decide +kernel⟩
def t_Book_wish (K : PySem.W.Frag) (A : Ad) : TS :=
  (tSeq (tIfS (tNot (tB (tMt A.Book "fits" (sp_Book_fits K A) (tVar 0) (tCons (tVar 2) tNil)))) (tRet (tC (.bl false))) tNext)
    (tSeq (sDPut (tFld K (tVar 0) "kept") (tVar 1) (tVar 2))
    (tRet (tC (.bl true)))))
theorem pu_Book_wish (T : Txt K mg A) {x0 x1 x2 : V} {H : Hp} {Q : VK} (h : P_Book_wish K A x0 x1 x2 H Q) : t_Book_wish K A { nx := fun _ H' => Q .non H', rt := Q } [some x0, some x1, some x2] H := by
  obtain ⟨b, kd, r, t, pa, c, N, S, m, ps, rfl, rfl, rfl, ht, B, er, so, kp, dp0, okp, h4, hc, k1, k0⟩ := h
  obtain ⟨⟨dx, hb⟩, hk⟩ := id B
  have nbk : b ≠ kd := ne_of hb hk (by intro z; cases z)
  unfold t_Book_wish
  walk_at "go"
  refine c_Book_fits ⟨b, kd, r, pa, N, S, m, ps, rfl, rfl, B, er, so, kp, dp0, okp, h4, fun H1 f1 => ?_⟩
  have kl := kp.len
  cases hf : fitb S m ps with
  | false =>
    walk_at "go"
    exact k0 hf H1 f1
  | true =>
    have hb1 := f1.at0 hb
    walk_at "go"
    refine g_rdp (k := ck c) (f1.at0 hk) (f1.tup _ _ ht) (by rw [enD_len]; exact szM (by omega)) fun H2 f2 e2 => ?_
    walk_at "go"
    rw [pD_put m c (pa, ps), pt_new (lk_not hc)] at e2
    exact k1 hf H2 (f2.pre0' f1) ⟨⟨dx, f2.at hb1 (nin1 nbk nin0)⟩, e2⟩
theorem ok_Book_wish {f : Addr} {fd : FuncData} (F : Fun K "wish" "Book.wish" s_Book_wish f fd) (T : Txt K mg A) (c_Book_fits : CalM P w K mg base A.Book "fits" 3 ["self", "party"] (sp_Book_fits K A)) : FnOk P w K mg base CX0 (4) f fd ["self", "name", "party"] (sp_Book_wish K A) := by
  refine F.ok sc_Book_wish (fun vs H Q E h => ?_) (fun cdv Ar outer s H vs Q E hr h => ⟨t_Book_wish K A, ?_, ?_⟩)
  · obtain ⟨x0, x1, x2, rfl, _⟩ := h
    rfl
  · have hu := hu_of hr
    exact (pss_cons (ps_if (pt_not (pt_val (pe_mt (pv 0) T.cl_Book c_Book_fits (hr.mono (by first | decide | omega)) (pa_cons (pv 2) pa_nil)))) (pss_one (ps_ret pe_bl)) pss_nil)
    (pss_cons (ps_dput hu (pe_fld (pv 0) rfl) (pv 1) (pv 2) rfl)
    (pss_one (ps_ret pe_bl))))
  · obtain ⟨x0, x1, x2, rfl, h⟩ := h
    exact pu_Book_wish T h
def P_Book_cancel (K : PySem.W.Frag) (A : Ad) (x0 x1 : V) (H : Hp) (Q : VK) : Prop := ∃ (b kd r t : Addr) (c : Cell) (N : Int) (m : List (Cell × Pty)), x0 = .ref b ∧ x1 = .ref t ∧ H t = some (.tup [.int c.1, .int c.2]) ∧ BookAt A H b kd r N m ∧
  ∀ H', Fr [kd] H H' → BookAt A H' b kd r N (dr m c) → Q (.bl (lk m c).isSome) H'
def sp_Book_cancel (K : PySem.W.Frag) (A : Ad) : Sp := fun vs H Q _ => ∃ x0 x1, vs = [x0, x1] ∧ P_Book_cancel K A x0 x1 H Q
theorem c_Book_cancel {K : PySem.W.Frag} {A : Ad} {x0 x1 : V} {H : Hp} {Q : VK} {E : XK} (h : P_Book_cancel K A x0 x1 H Q) : sp_Book_cancel K A [x0, x1] H Q E := ⟨_, _, rfl, h⟩
theorem sc_Book_cancel : FnScope ["self", "name"] ["self", "name"] (defScope s_Book_cancel) := ⟨rfl, rfl, rfl, by decide +kernel, rfl, by decide +kernel, by decide +kernel⟩
def t_Book_cancel (K : PySem.W.Frag) (A : Ad) : TS :=
  (tRet (tOp rIsNotNon (tBM K "dict" L2.DX.rPopT (tFld K (tVar 0) "kept") (tCons (tVar 1) (tCons (tC .non) tNil))) (tC .non)))
theorem pu_Book_cancel (T : Txt K mg A) {x0 x1 : V} {H : Hp} {Q : VK} (h : P_Book_cancel K A x0 x1 H Q) : t_Book_cancel K A { nx := fun _ H' => Q .non H', rt := Q } [some x0, some x1] H := by
  obtain ⟨b, kd, r, t, c, N, m, rfl, rfl, ht, B, k⟩ := h
  obtain ⟨⟨dx, hb⟩, hk⟩ := id B
  have nbk : b ≠ kd := ne_of hb hk (by intro z; cases z)
  unfold t_Book_cancel
  walk_at "go"
  refine g_popT (k := ck c) hk ht (fun v H1 hv f1 e1 => ?_) (fun hv => ?_)
  · rw [val_pty] at hv
    cases hl : lk m c with
    | none => rw [hl] at hv; cases hv
    | some w =>
      rw [hl] at hv k
      cases hv
      rw [pD_drop] at e1
      walk_at "go"
      exact k H1 f1 ⟨⟨dx, f1.at hb (nin1 nbk nin0)⟩, e1⟩
  · rw [val_pty] at hv
    cases hl : lk m c with
    | some w => rw [hl] at hv; cases hv
    | none =>
      rw [hl, dr_none hl] at k
      walk_at "go"
      exact k H Fr.refl B
theorem ok_Book_cancel {f : Addr} {fd : FuncData} (F : Fun K "cancel" "Book.cancel" s_Book_cancel f fd) (T : Txt K mg A)  : FnOk P w K mg base CX0 (1) f fd ["self", "name"] (sp_Book_cancel K A) := by
  refine F.ok sc_Book_cancel (fun vs H Q E h => ?_) (fun cdv Ar outer s H vs Q E hr h => ⟨t_Book_cancel K A, ?_, ?_⟩)
  · obtain ⟨x0, x1, rfl, _⟩ := h
    rfl
  · have hu := hu_of hr
    exact (pss_one (ps_ret (pe_cmpR c_notN (pe_bm PySem.F.plainAttrs_dict PySem.F.slot_dict_pop PySem.F.type_dict_pop (L2.DX.mt_popT (un1 hr.units)) (pe_fld (pv 0) rfl) (pa_cons (pv 1) (pa_cons pe_non pa_nil))) pe_non (nomark _))))
  · obtain ⟨x0, x1, rfl, h⟩ := h
    exact pu_Book_cancel T h
def P_Book_change (K : PySem.W.Frag) (A : Ad) (x0 x1 x2 : V) (H : Hp) (Q : VK) : Prop := ∃ (b kd r t pa : Addr) (c : Cell) (N : Int) (S : Setup) (m : List (Cell × Pty)) (ps : List Stay), x0 = .ref b ∧ x1 = .ref t ∧ x2 = .ref pa ∧ H t = some (.tup [.int c.1, .int c.2]) ∧ BookAt A H b kd r N m ∧ H r = some (.tup (S.rooms.map V.int)) ∧ SetupOk S ∧ Kp S H m ∧ Da H (.ref pa) (partyD ps) ∧ (∀ s ∈ ps, StayOk S s) ∧ ps.length ≤ 4 ∧
  (lk m c = none → Q (.bl false) H) ∧ (∀ w, lk m c = some w → ∀ H', Fr [kd] H H' → BookAt A H' b kd r N (dr m c ++ [(c, if fitb S (dr m c) ps = true then (pa, ps) else w)]) → Q (.bl (fitb S (dr m c) ps)) H')
theorem Kp.dr {S : Setup} {H : Hp} {m : List (Cell × Pty)} (k : Kp S H m) (c : Cell) : Kp S H (Lw.dr m c) :=
  ⟨dr_nd k.n c, fun e he => k.da e (List.mem_filter.mp he).1, fun e he => k.ok e (List.mem_filter.mp he).1, fun e he => k.l4 e (List.mem_filter.mp he).1, Nat.le_trans (List.length_filter_le _ _) k.len⟩
def sp_Book_change (K : PySem.W.Frag) (A : Ad) : Sp := fun vs H Q _ => ∃ x0 x1 x2, vs = [x0, x1, x2] ∧ P_Book_change K A x0 x1 x2 H Q
theorem c_Book_change {K : PySem.W.Frag} {A : Ad} {x0 x1 x2 : V} {H : Hp} {Q : VK} {E : XK} (h : P_Book_change K A x0 x1 x2 H Q) : sp_Book_change K A [x0, x1, x2] H Q E := ⟨_, _, _, rfl, h⟩
theorem sc_Book_change : FnScope ["self", "name", "party", "old", "granted"] ["self", "name", "party"] (defScope s_Book_change) := ⟨rfl, rfl, rfl, by decide +kernel, rfl, by decide +kernel, by decide +kernel⟩
def t_Book_change (K : PySem.W.Frag) (A : Ad) : TS :=
  (tSeq (tAsg (tBM K "dict" L2.DX.rPopT (tFld K (tVar 0) "kept") (tCons (tVar 1) (tCons (tC .non) tNil))) (gName 3))
    (tSeq (tIfS (tTest (tOp rIsNon (tVar 3) (tC .non))) (tRet (tC (.bl false))) tNext)
    (tSeq (tAsg (tMt A.Book "fits" (sp_Book_fits K A) (tVar 0) (tCons (tVar 2) tNil)) (gName 4))
    (tSeq (sDPut (tFld K (tVar 0) "kept") (tVar 1) (tIf (tB (tVar 4)) (tVar 2) (tVar 3)))
    (tRet (tVar 4))))))
theorem pu_Book_change (T : Txt K mg A) {x0 x1 x2 : V} {H : Hp} {Q : VK} (h : P_Book_change K A x0 x1 x2 H Q) : t_Book_change K A { nx := fun _ H' => Q .non H', rt := Q } [some x0, some x1, some x2, none, none] H := by
  obtain ⟨b, kd, r, t, pa, c, N, S, m, ps, rfl, rfl, rfl, ht, B, er, so, kp, dp0, okp, h4, k0, k1⟩ := h
  obtain ⟨⟨dx, hb⟩, hk⟩ := id B
  have nbk : b ≠ kd := ne_of hb hk (by intro z; cases z)
  unfold t_Book_change
  walk_at "go"
  refine g_popT (k := ck c) hk ht (fun v H1 hv f1 e1 => ?_) (fun hv => ?_)
  · rw [val_pty] at hv
    cases hl : lk m c with
    | none => rw [hl] at hv; cases hv
    | some w =>
      rw [hl] at hv
      cases hv
      rw [pD_drop] at e1
      have k2 := k1 w hl
      have kl := (kp.dr c).len
      walk_at "go"
      refine g_ite (fun z => by cases z) (fun _ => ?_)
      have hb1 := f1.at hb (nin1 nbk nin0)
      walk_at "go"
      refine c_Book_fits ⟨b, kd, r, pa, N, S, Lw.dr m c, ps, rfl, rfl, ⟨⟨dx, hb1⟩, e1⟩, f1.tup _ _ er, so, (kp.dr c).fr f1, Da.frL f1 dp0 (imm_party ps), okp, h4, fun H2 f2 => ?_⟩
      have hb2 := f2.at0 hb1
      generalize hg : fitb S (Lw.dr m c) ps = g at *
      walk_at "go"
      cases g with
      | true =>
        walk_at "go"
        refine g_rdp (k := ck c) (f2.at0 e1) (f2.tup _ _ (f1.tup _ _ ht)) (by rw [enD_len]; exact szM (by omega)) fun H3 f3 e3 => ?_
        walk_at "go"
        rw [pD_put (Lw.dr m c) c (pa, ps), pt_new dr_not] at e3
        exact k2 H3 ((f1.then0 f2).transL f3) ⟨⟨dx, f3.at hb2 (nin1 nbk nin0)⟩, e3⟩
      | false =>
        walk_at "go"
        refine g_rdp (k := ck c) (f2.at0 e1) (f2.tup _ _ (f1.tup _ _ ht)) (by rw [enD_len]; exact szM (by omega)) fun H3 f3 e3 => ?_
        walk_at "go"
        rw [pD_put (Lw.dr m c) c w, pt_new dr_not] at e3
        exact k2 H3 ((f1.then0 f2).transL f3) ⟨⟨dx, f3.at hb2 (nin1 nbk nin0)⟩, e3⟩
  · rw [val_pty] at hv
    cases hl : lk m c with
    | some w => rw [hl] at hv; cases hv
    | none =>
      walk_at "go"
      refine g_ite (fun _ => ?_) (fun z => absurd rfl z)
      walk_at "go"
      exact k0 hl
theorem ok_Book_change {f : Addr} {fd : FuncData} (F : Fun K "change" "Book.change" s_Book_change f fd) (T : Txt K mg A) (c_Book_fits : CalM P w K mg base A.Book "fits" 3 ["self", "party"] (sp_Book_fits K A)) : FnOk P w K mg base CX0 (4) f fd ["self", "name", "party"] (sp_Book_change K A) := by
  refine F.ok sc_Book_change (fun vs H Q E h => ?_) (fun cdv Ar outer s H vs Q E hr h => ⟨t_Book_change K A, ?_, ?_⟩)
  · obtain ⟨x0, x1, x2, rfl, _⟩ := h
    rfl
  · have hu := hu_of hr
    exact (pss_cons (ps_set (i := 3) sc_Book_change.nd rfl (Or.inl rfl) (pe_bm PySem.F.plainAttrs_dict PySem.F.slot_dict_pop PySem.F.type_dict_pop (L2.DX.mt_popT (un1 hr.units)) (pe_fld (pv 0) rfl) (pa_cons (pv 1) (pa_cons pe_non pa_nil))))
    (pss_cons (ps_if (pt_cmpR c_isN (pv 3) pe_non (nomark _)) (pss_one (ps_ret pe_bl)) pss_nil)
    (pss_cons (ps_set (i := 4) sc_Book_change.nd rfl (Or.inl rfl) (pe_mt (pv 0) T.cl_Book c_Book_fits (hr.mono (by first | decide | omega)) (pa_cons (pv 2) pa_nil)))
    (pss_cons (ps_dput hu (pe_fld (pv 0) rfl) (pv 1) (pe_ifExp (pt_val (pv 4)) (pv 2) (pv 3)) rfl)
    (pss_one (ps_ret (pv 4)))))))
  · obtain ⟨x0, x1, x2, rfl, h⟩ := h
    exact pu_Book_change T h
def P_Book_parties (K : PySem.W.Frag) (A : Ad) (x0 : V) (H : Hp) (Q : VK) : Prop := ∃ (b kd r : Addr) (N : Int) (m : List (Cell × Pty)), x0 = .ref b ∧ BookAt A H b kd r N m ∧ Nd m ∧ NmOk m ∧
  ∀ p H', H p = none → Fr [] H H' → H' p = some (.dT (pD m)) → Q (.ref p) H'
def sp_Book_parties (K : PySem.W.Frag) (A : Ad) : Sp := fun vs H Q _ => ∃ x0, vs = [x0] ∧ P_Book_parties K A x0 H Q
theorem c_Book_parties {K : PySem.W.Frag} {A : Ad} {x0 : V} {H : Hp} {Q : VK} {E : XK} (h : P_Book_parties K A x0 H Q) : sp_Book_parties K A [x0] H Q E := ⟨_, rfl, h⟩
theorem sc_Book_parties : FnScope ["self"] ["self"] (defScope s_Book_parties) := ⟨rfl, rfl, rfl, by decide +kernel, rfl, by decide +kernel, by decide +kernel⟩
def t_Book_parties (K : PySem.W.Frag) (A : Ad) : TS :=
  (tRet (tCB rDictC (tCons (tFld K (tVar 0) "kept") tNil)))
theorem pu_Book_parties (T : Txt K mg A) {x0 : V} {H : Hp} {Q : VK} (h : P_Book_parties K A x0 H Q) : t_Book_parties K A { nx := fun _ H' => Q .non H', rt := Q } [some x0] H := by
  obtain ⟨b, kd, r, N, m, rfl, ⟨⟨dx, hb⟩, hk⟩, n, nm, k⟩ := h
  unfold t_Book_parties
  walk_at "go"
  refine g_dictC (m.map (·.1)) hk (pD_keys m) (hp_keys n nm) fun p H1 n1 f1 e1 => ?_
  walk_at "go"
  exact k p H1 n1 f1 e1
theorem ok_Book_parties {f : Addr} {fd : FuncData} (F : Fun K "parties" "Book.parties" s_Book_parties f fd) (T : Txt K mg A)  : FnOk P w K mg base CX0 (1) f fd ["self"] (sp_Book_parties K A) := by
  refine F.ok sc_Book_parties (fun vs H Q E h => ?_) (fun cdv Ar outer s H vs Q E hr h => ⟨t_Book_parties K A, ?_, ?_⟩)
  · obtain ⟨x0, rfl, _⟩ := h
    rfl
  · have hu := hu_of hr
    exact (pss_one (ps_ret (pe_callTy (b_dictC (un8 hr.units)) (by rfl) T.b_dict (by decide +kernel) (pa_cons (pe_fld (pv 0) rfl) pa_nil))))
  · obtain ⟨x0, rfl, h⟩ := h
    exact pu_Book_parties T h

/-! ### the law's own book -/
theorem allT_keys (c : Cell) : ∀ (m : List (Cell × Pty)) (T : List (Cell × Int)), c ∈ (m.foldl (fun T e => addT T (needsL e.2.2)) T).map (·.1) → c ∈ T.map (·.1) ∨ ∃ e ∈ m, c ∈ (needsL e.2.2).map (·.1)
  | [], _, h => .inl h
  | e :: m, T, h => by
    rcases allT_keys c m _ h with q | ⟨x, hx, q⟩
    · rcases (addT_keys _).mp q with q | q
      · exact .inl q
      · exact .inr ⟨e, List.mem_cons_self, q⟩
    · exact .inr ⟨x, List.mem_cons_of_mem _ hx, q⟩
theorem addT_len : ∀ (q T : List (Cell × Int)), (addT T q).length ≤ T.length + q.length
  | [], _ => Nat.le_refl _
  | e :: r, T => by
    have h := addT_len r (pt T e.1 ((lk T e.1).getD 0 + e.2))
    have h2 := pt_len T e.1 ((lk T e.1).getD 0 + e.2)
    show (addT (pt T e.1 ((lk T e.1).getD 0 + e.2)) r).length ≤ T.length + (r.length + 1)
    omega
theorem allT_len : ∀ (m : List (Cell × Pty)) (T : List (Cell × Int)), (∀ e ∈ m, (needsL e.2.2).length ≤ 4000) → (m.foldl (fun T e => addT T (needsL e.2.2)) T).length ≤ T.length + 4000 * m.length
  | [], _, _ => Nat.le_refl _
  | e :: m, T, h => by
    have h1 := allT_len m (addT T (needsL e.2.2)) fun x hx => h x (List.mem_cons_of_mem _ hx)
    have h2 := addT_len (needsL e.2.2) T
    have h3 := h e List.mem_cons_self
    show (m.foldl (fun T e => addT T (needsL e.2.2)) (addT T (needsL e.2.2))).length ≤ T.length + 4000 * (m.length + 1)
    omega
theorem addT_snoc {T q : List (Cell × Int)} {j : Nat} {e : Cell × Int} (he : q[j]? = some e) : addT T (q.take (j + 1)) = pt (addT T (q.take j)) e.1 ((lk (addT T (q.take j)) e.1).getD 0 + e.2) := by
  unfold addT
  rw [take_more he, List.foldl_append]; rfl
theorem val_getD (T : List (Cell × Int)) (c : Cell) : (valV (cD T) (ck c)).getD (.int 0) = .int ((lk T c).getD 0) := by
  rw [val_cell]
  cases lk T c <;> rfl
def P_Lfits (K : PySem.W.Frag) (A : Ad) (x0 x1 x2 : V) (H : Hp) (Q : VK) : Prop := ∃ (kd pa : Addr) (S : Setup) (m : List (Cell × Pty)) (ps : List Stay), x1 = .ref kd ∧ x2 = .ref pa ∧ Da H x0 (setupD S) ∧ SetupOk S ∧ H kd = some (.dT (pD m)) ∧ Kp S H m ∧ Da H (.ref pa) (partyD ps) ∧ (∀ s ∈ ps, StayOk S s) ∧ ps.length ≤ 4 ∧ (∀ c, tot m c ≤ rmC S c) ∧
  ∀ H', Fr [] H H' → Q (.bl (fitb S m ps)) H'
def sp_Lfits (K : PySem.W.Frag) (A : Ad) : Sp := fun vs H Q _ => ∃ x0 x1 x2, vs = [x0, x1, x2] ∧ P_Lfits K A x0 x1 x2 H Q
theorem c_Lfits {K : PySem.W.Frag} {A : Ad} {x0 x1 x2 : V} {H : Hp} {Q : VK} {E : XK} (h : P_Lfits K A x0 x1 x2 H Q) : sp_Lfits K A [x0, x1, x2] H Q E := ⟨_, _, _, rfl, h⟩
theorem sc_Lfits : FnScope ["_law_setup_here", "_law_kept", "_law_party_here", "_law_total", "_law_name", "_law_needs_here", "_law_cell"] ["_law_setup_here", "_law_kept", "_law_party_here"] (defScope s_Lfits) := ⟨rfl, rfl, rfl, by decide +kernel, rfl, by decide +kernel, by decide +kernel⟩
def t_Lfits (K : PySem.W.Frag) (A : Ad) : TS :=
  (tSeq (tAsg (tCl (sp_Lneeds K A) (tCons (tVar 2) tNil)) (gName 3))
    (tSeq (tLock (tFor (iKeys (tVar 1)) (gName 4) (tSeq (tAsg (tCl (sp_Lneeds K A) (tCons (tDGet (tVar 1) (tVar 4)) tNil)) (gName 5))
    (tLock (tFor (iKeys (tVar 5)) (gName 6) (sDPut (tVar 3) (tVar 6) (tOp oAdd (tDGet2 (tVar 3) (tVar 6) (tC (.int 0))) (tDGet (tVar 5) (tVar 6)))))))))
    (tRet (tOp rEq (tCB (rLenSq K) (tCons (tLockE (tLc (iKeys (tVar 3)) (gName 6) (tTest (tOp cGt (tDGet (tVar 3) (tVar 6)) (tOp (rIxT K) (tOp (rIxT K) (tVar 0) (tC (.int 0))) (tOp (rIxT K) (tVar 6) (tC (.int 0)))))) (tVar 6) [6])) tNil)) (tC (.int 0))))))
theorem pu_Lfits (T : Txt K mg A) {x0 x1 x2 : V} {H : Hp} {Q : VK} (h : P_Lfits K A x0 x1 x2 H Q) : t_Lfits K A { nx := fun _ H' => Q .non H', rt := Q } [some x0, some x1, some x2, none, none, none, none] H := by
  obtain ⟨kd, pa, S, m, ps, rfl, rfl, dS, so, hk, kp, dp0, okp, h4, hI, k⟩ := h
  obtain ⟨s, r, pp, prs, sa⟩ := SetAt.of dS
  cases sa.e
  have e0 := sa.t
  have er := sa.r
  obtain ⟨_, xs, epa, ep, _, dxs⟩ := dp0.tup1
  cases epa
  have nl := needs_len so okp h4
  have kl := kp.len
  have nlm : ∀ e ∈ m, (needsL e.2.2).length ≤ 4000 := fun e he => needs_len so (kp.ok e he) (kp.l4 e he)
  unfold t_Lfits
  walk_at "go"
  refine c_Lneeds ⟨pa, xs, ps, rfl, ep, dxs, SmallSt.of so okp, Nat.le_trans h4 (by decide), fun tt H1 n1 f1 e1 => ?_⟩
  have nkt : kd ≠ tt := ne_of_none hk n1
  walk_at "go"
  refine g_lock (f1.at0 hk) trivial trivial fun od H2 f2 e2 => ?_
  have e12 := f2.at e1 (nin1 nkt.symm nin0)
  walk_at "go"
  refine f_keysT (kvs := pD m) (fun i σ H' => (∃ v4 v5 v6, σ = [some (.ref s), some (.ref kd), some (.ref pa), some (.ref tt), v4, v5, v6]) ∧ Fr [tt] H2 H' ∧ H' tt = some (.dT (cD (allT (m.take i) ps)))) ⟨⟨_, _, _, rfl⟩, Fr.refl, by rw [List.take_zero]; exact e12⟩ (fun i σ H' _ ⟨_, f, _⟩ => f.at e2 (nin1 nkt nin0)) ?_ ?_
  · rintro i kk v t σ H7 hi ht ⟨⟨v4, v5, v6, rfl⟩, f7, e7⟩
    obtain ⟨e, he, rfl, rfl⟩ := pD_get hi
    have hmem := List.mem_of_getElem? he
    have F7 : Fr [tt, kd] H H7 := ((f1.of0.transL (f2.mono (by simp))).transL (f7.mono (by simp)) : Fr [tt, kd] H H7)
    obtain ⟨ys, ex, dys⟩ := (kp.fr F7).at hmem
    have ed := f7.at e2 (nin1 nkt nin0)
    have nq := needs_nd e.2.2
    have nql := nlm e hmem
    have tl := allT_len (m.take i) (needsL ps) fun x hx => nlm x (List.mem_of_mem_take hx)
    rw [List.length_take] at tl
    walk_at "go"
    refine g_rdg (k := ck e.1) (v := .ref e.2.1) (.inr ⟨_, ed⟩) ht (by rw [val_pty, lk_mem kp.n hmem]; rfl) ?_
    walk_at "go"
    refine c_Lneeds ⟨e.2.1, ys, e.2.2, rfl, ex, dys, SmallSt.of so (kp.ok e hmem), Nat.le_trans (kp.l4 e hmem) (by decide), fun on H8 n8 f8 e8 => ?_⟩
    have nto : tt ≠ on := fun z => by rw [z] at e7; rw [e7] at n8; cases n8
    generalize hq : needsL e.2.2 = q at *
    walk_at "go"
    refine g_lock e8 trivial trivial fun od3 H9 f9 e9 => ?_
    have tt9 := f9.at (f8.at0 e7) (nin1 nto nin0)
    walk_at "go"
    refine f_keysT (kvs := cD q) (fun j σ H' => (∃ v6, σ = [some (.ref s), some (.ref kd), some (.ref pa), some (.ref tt), some (.ref t), some (.ref on), v6]) ∧ Fr [tt] H9 H' ∧ H' tt = some (.dT (cD (addT (allT (m.take i) ps) (q.take j))))) ⟨⟨_, rfl⟩, Fr.refl, by rw [List.take_zero]; exact tt9⟩ (fun j σ H' _ ⟨_, f, _⟩ => f.at e9 (nin1 nto.symm nin0)) ?_ ?_
    · rintro j kk v u σ H10 hj hu ⟨⟨v6, rfl⟩, f10, e10⟩
      obtain ⟨x, hx, rfl, rfl⟩ := cD_get hj
      have hmx := List.mem_of_getElem? hx
      have on10 := f10.at e9 (nin1 nto.symm nin0)
      have al := addT_len (q.take j) (allT (m.take i) ps)
      rw [List.length_take] at al
      have tl' : (allT (m.take i) ps).length ≤ (needsL ps).length + 4000 * min i m.length := tl
      walk_at "go"
      refine g_dgo (k := ck x.1) (.inl e10) hu ?_
      rw [val_getD]
      walk_at "go"
      refine g_rdg (k := ck x.1) (v := .int x.2) (.inr ⟨_, on10⟩) hu (by rw [val_cell, lk_mem nq hmx]; rfl) ?_
      walk_at "go"
      refine g_rdp (k := ck x.1) e10 hu (by rw [enD_len]; exact szM (by omega)) fun H11 f11 e11 => ?_
      walk_at "go"
      refine ⟨⟨_, rfl⟩, f10.transL f11, ?_⟩
      rw [e11, put_cell, addT_snoc hx]
    · rintro σ H10 ⟨⟨v6, rfl⟩, f10, e10⟩
      rw [enD_len, List.take_length] at e10
      refine g_unl (f10.at e9 (nin1 nto.symm nin0)) fun H11 f11 e11 => ?_
      walk_at "go"
      refine ⟨⟨_, _, _, rfl⟩, ?_, ?_⟩
      · have nH2 : H2 on = none := f7.freeL n8 (nin1 nto.symm nin0)
        exact (((f7.then0 f8).own1 f9 nH2).transL f10).own1 f11 nH2
      · rw [f11.at e10 (nin1 nto nin0), take_more he, allT_snoc, hq]
  · rintro σ H7 ⟨⟨v4, v5, v6, rfl⟩, f7, e7⟩
    rw [enD_len, List.take_length] at e7
    refine g_unl (f7.at e2 (nin1 nkt nin0)) fun H8 f8 e8 => ?_
    have e78 := f8.at e7 (nin1 nkt.symm nin0)
    have F8 : Fr [] H H8 := by
      refine ⟨fun a o ea _ => ?_, fun a xs ea => f8.tup _ _ (f7.tup _ _ (f2.tup _ _ (f1.tup _ _ ea)))⟩
      have nat : a ≠ tt := fun z => by rw [z, n1] at ea; cases ea
      by_cases z : a = kd
      · subst z; rw [hk] at ea; cases ea; exact e8
      · exact f8.at (f7.at (f2.at (f1.at0 ea) (nin1 z nin0)) (nin1 nat nin0)) (nin1 z nin0)
    obtain ⟨t1, t2, t3⟩ := allT_of ps m (needsL ps) (needs_nd ps)
    have tl : (allT m ps).length ≤ (needsL ps).length + 4000 * m.length := allT_len m (needsL ps) nlm
    have tk : ∀ e ∈ allT m ps, 0 ≤ e.1.1 ∧ e.1.1 < S.rooms.length := fun e he => by
      rcases allT_keys e.1 m (needsL ps) (List.mem_map.mpr ⟨e, he, rfl⟩) with q | ⟨x, hx, q⟩
      · obtain ⟨y, hy, hk2⟩ := List.mem_map.mp q
        obtain ⟨c0, c1, _⟩ := cell_ok so okp hy
        rw [← hk2]; exact ⟨c0, c1⟩
      · obtain ⟨y, hy, hk2⟩ := List.mem_map.mp q
        obtain ⟨c0, c1, _⟩ := cell_ok so (kp.ok x hx) hy
        rw [← hk2]; exact ⟨c0, c1⟩
    have fs := fit_same (S := S) (m := m) (p := ps) hI
    have t1' : Nd (allT m ps) := t1
    generalize allT m ps = T at *
    walk_at "go"
    refine g_lockE e78 trivial trivial fun od4 H9 f9 e9 => ?_
    walk_at "go"
    refine l_keysT (kvs := cD T) fun Dl H10 nD f10 e10 => ⟨fun i acc H' => acc.length = ((T.take i).filter fun e => !decide (e.2 ≤ rmC S e.1)).length ∧ Fr [] H9 H', ⟨rfl, f10⟩, fun i acc H' h => h.2.at0 e9, fun i kk v t acc H' hi ht ha ⟨ea, f⟩ => ?_, fun acc H' ha ⟨ea, f⟩ => ?_⟩
    · obtain ⟨x, hx, rfl, rfl⟩ := cD_get hi
      have hmx := List.mem_of_getElem? hx
      obtain ⟨c0, c1⟩ := tk x hmx
      have fm := filter_more (f := fun e : Cell × Int => !decide (e.2 ≤ rmC S e.1)) hx
      have hal : acc.length ≤ 300000 := by rw [ea]; exact Nat.le_trans (List.length_filter_le _ _) (by rw [List.length_take]; omega)
      have ht2 : H' t = some (.tup [.int x.1.1, .int x.1.2]) := ht
      have e0' := f.tup _ _ (f9.tup _ _ (F8.tup _ _ e0))
      have er' := f.tup _ _ (f9.tup _ _ (F8.tup _ _ er))
      walk_at "go"
      refine ⟨rfl, ?_⟩
      walk_at "go"
      refine g_rdg (k := ck x.1) (v := .int x.2) (.inr ⟨_, f.at0 e9⟩) ht (by rw [val_cell, lk_mem t1' hmx]; rfl) ?_
      walk_at "go"
      refine g_ixT (SqT.of er') (rmC_at (n := x.1.2) c0 c1) ?_
      walk_at "go"
      refine g_ite (fun c => ?_) (fun c => ?_)
      · walk_at "go"
        refine lcY_of ha (by walk_at "sz") fun H12 f12 e12 => ⟨?_, f.own1 f12 nD⟩
        have cc : (!decide (x.2 ≤ rmC S x.1)) = true := by
          have c' : rmC S x.1 < x.2 := c
          rw [decide_eq_false (by omega)]; rfl
        rw [fm, if_pos cc, List.length_append, List.length_append, ea]; rfl
      · walk_at "go"
        refine lcN_of ha ⟨?_, f⟩
        have cc : ¬ (!decide (x.2 ≤ rmC S x.1)) = true := by
          have c' : ¬ rmC S x.1 < x.2 := c
          rw [decide_eq_true (by omega)]; decide
        rw [fm, if_neg cc, List.append_nil]; exact ea
    · refine g_unl (f.at0 e9) fun H11 f11 e11 => ?_
      rw [enD_len, List.take_length] at ea
      have nDl : Dl ≠ tt := fun z => by rw [z, e9] at nD; cases nD
      have ha11 := f11.at ha (nin1 nDl nin0)
      walk_at "go"
      have fin : decide ((acc.length : Int) = 0) = fitb S m ps := by
        rw [← fs, Bool.eq_iff_iff, decide_eq_true_eq, List.all_eq_true]
        constructor
        · intro h e he
          have h0 : (T.filter fun e => !decide (e.2 ≤ rmC S e.1)) = [] := List.eq_nil_of_length_eq_zero (by omega)
          have := List.filter_eq_nil_iff.mp h0 e he
          simpa using this
        · intro h
          have h0 : (T.filter fun e => !decide (e.2 ≤ rmC S e.1)) = [] := List.filter_eq_nil_iff.mpr fun e he => by have := h e he; rw [this]; decide
          rw [ea, h0]; rfl
      rw [fin]
      exact k H11 ((F8.of0.transL ((f9.then0 f).transL f11)).drop n1)
theorem ok_Lfits {f : Addr} {fd : FuncData} (F : Fun K "_law_fits" "_law_fits" s_Lfits f fd) (T : Txt K mg A) (c_Lneeds : Cal P w K mg base "_law_needs" 1 ["_law_party_here"] (sp_Lneeds K A)) : FnOk P w K mg base CX0 (2) f fd ["_law_setup_here", "_law_kept", "_law_party_here"] (sp_Lfits K A) := by
  refine F.ok sc_Lfits (fun vs H Q E h => ?_) (fun cdv Ar outer s H vs Q E hr h => ⟨t_Lfits K A, ?_, ?_⟩)
  · obtain ⟨x0, x1, x2, rfl, _⟩ := h
    rfl
  · have hu := hu_of hr
    exact (pss_cons (ps_set (i := 3) sc_Lfits.nd rfl (Or.inr rfl) (pe_cl c_Lneeds (hr.mono (by first | decide | omega)) (by rfl) (pa_cons (pv 2) pa_nil)))
    (pss_cons (ps_lock (ps_for PassesOwn.never rfl (pi_keys (pv 1)) (pg_name (i := 4) sc_Lfits.nd rfl (Or.inl rfl)) (pss_cons (ps_set (i := 5) sc_Lfits.nd rfl (Or.inl rfl) (pe_cl c_Lneeds (hr.mono (by first | decide | omega)) (by rfl) (pa_cons (pe_dget hu (pv 1) (pv 4) (fun _ _ => rfl)) pa_nil)))
    (pss_one (ps_lock (ps_for PassesOwn.never rfl (pi_keys (pv 5)) (pg_name (i := 6) sc_Lfits.nd rfl (Or.inl rfl)) (pss_one (ps_dput hu (pv 3) (pv 6) (pe_op o_add (pe_dget2 hu (pv 3) (pv 6) pe_int ⟨rfl, rfl, rfl, rfl⟩) (pe_dget hu (pv 5) (pv 6) (fun _ _ => rfl))) rfl))))))))
    (pss_one (ps_ret (pe_cmpR op_eq (pe_callB b_len (by rfl) T.b_len (by decide +kernel) (pa_cons (pe_lock (pe_lc (own := [("_law_cell", 6)]) (g := (gName 6)) (tt := (tTest (tOp cGt (tDGet (tVar 3) (tVar 6)) (tOp (rIxT K) (tOp (rIxT K) (tVar 0) (tC (.int 0))) (tOp (rIxT K) (tVar 6) (tC (.int 0))))))) rfl sc_Lfits.nd (pi_keys (pv 3)) (blkOk_by (N := ["_law_setup_here", "_law_kept", "_law_party_here", "_law_total", "_law_name", "_law_needs_here", "_law_cell"]) (sc := defScope s_Lfits) (own := [("_law_cell", 6)]) (by decide +kernel)) (fun _ _ _ _ _ => (pg_name (i := 6) sc_Lfits.nd rfl (Or.inl rfl))) (fun _ _ _ _ _ => (pts_one (pt_cmpR c_gt (pe_dget hu (pv 3) (pv 6) (fun _ _ => rfl)) (pe_ix ix_tup (pe_ix ix_tup (pv 0) pe_int (fun _ _ => rfl)) (pe_ix ix_tup (pv 6) pe_int (fun _ _ => rfl)) (fun _ _ => rfl)) (nomark _)))) (fun _ _ _ _ _ => (pv 6)))) pa_nil)) pe_int (nomark _))))))
  · obtain ⟨x0, x1, x2, rfl, h⟩ := h
    exact pu_Lfits T h

def P_Lchanged (K : PySem.W.Frag) (A : Ad) (x0 x1 x2 x3 : V) (H : Hp) (Q : VK) : Prop := ∃ (kd t pa : Addr) (c : Cell) (S : Setup) (m : List (Cell × Pty)) (ps : List Stay), x1 = .ref kd ∧ x2 = .ref t ∧ x3 = .ref pa ∧ H t = some (.tup [.int c.1, .int c.2]) ∧ Da H x0 (setupD S) ∧ SetupOk S ∧ H kd = some (.dT (pD m)) ∧ Kp S H m ∧ NmOk m ∧ Da H (.ref pa) (partyD ps) ∧ (∀ s ∈ ps, StayOk S s) ∧ ps.length ≤ 4 ∧ (∀ c, tot m c ≤ rmC S c) ∧
  (lk m c = none → Q (.bl false) H) ∧ (∀ w, lk m c = some w → (fitb S (Lw.dr m c) ps = false → ∀ H', Fr [] H H' → Q (.bl false) H') ∧ (fitb S (Lw.dr m c) ps = true → ∀ H', Fr [kd] H H' → H' kd = some (.dT (pD (pt m c (pa, ps)))) → Q (.bl true) H'))
def sp_Lchanged (K : PySem.W.Frag) (A : Ad) : Sp := fun vs H Q _ => ∃ x0 x1 x2 x3, vs = [x0, x1, x2, x3] ∧ P_Lchanged K A x0 x1 x2 x3 H Q
theorem c_Lchanged {K : PySem.W.Frag} {A : Ad} {x0 x1 x2 x3 : V} {H : Hp} {Q : VK} {E : XK} (h : P_Lchanged K A x0 x1 x2 x3 H Q) : sp_Lchanged K A [x0, x1, x2, x3] H Q E := ⟨_, _, _, _, rfl, h⟩
theorem sc_Lchanged : FnScope ["_law_setup_here", "_law_kept", "_law_name", "_law_party_here", "_law_others"] ["_law_setup_here", "_law_kept", "_law_name", "_law_party_here"] (defScope s_Lchanged) := ⟨rfl, rfl, rfl, by decide +kernel, rfl, by decide +kernel, by decide +kernel⟩
def t_Lchanged (K : PySem.W.Frag) (A : Ad) : TS :=
  (tSeq (tIfS (tB (tDNotIn (tVar 2) (tVar 1))) (tRet (tC (.bl false))) tNext)
    (tSeq (tAsg (tCB rDictC (tCons (tVar 1) tNil)) (gName 4))
    (tSeq (tDrop (tBM K "dict" rPopT1 (tVar 4) (tCons (tVar 2) tNil)))
    (tSeq (tIfS (tNot (tB (tCl (sp_Lfits K A) (tCons (tVar 0) (tCons (tVar 4) (tCons (tVar 3) tNil)))))) (tRet (tC (.bl false))) tNext)
    (tSeq (sDPut (tVar 1) (tVar 2) (tVar 3))
    (tRet (tC (.bl true))))))))
theorem pu_Lchanged (T : Txt K mg A) {x0 x1 x2 x3 : V} {H : Hp} {Q : VK} (h : P_Lchanged K A x0 x1 x2 x3 H Q) : t_Lchanged K A { nx := fun _ H' => Q .non H', rt := Q } [some x0, some x1, some x2, some x3, none] H := by
  obtain ⟨kd, t, pa, c, S, m, ps, rfl, rfl, rfl, ht, dS, so, hk, kp, nm, dp0, okp, h4, hI, k0, k1⟩ := h
  have kl := kp.len
  unfold t_Lchanged
  walk_at "go"
  refine g_rdni (k := ck c) (.inl hk) ht ?_
  rw [val_pty]
  cases hl : lk m c with
  | none =>
    rw [Option.map_none, Option.isSome_none]
    walk_at "go"
    exact k0 hl
  | some w =>
    obtain ⟨k2, k3⟩ := k1 w hl
    rw [Option.map_some, Option.isSome_some]
    walk_at "go"
    refine g_dictC (m.map (·.1)) hk (pD_keys m) (hp_keys kp.n nm) fun o H1 n1 f1 e1 => ?_
    have nko : kd ≠ o := ne_of_none hk n1
    walk_at "go"
    refine g_popT1 (k := ck c) (v := .ref w.1) e1 (f1.tup _ _ ht) (by rw [val_pty, hl]; rfl) fun H2 f2 e2 => ?_
    rw [pD_drop] at e2
    have F2 : Fr [] H H2 := (f1.of0.transL f2).drop n1
    walk_at "go"
    refine c_Lfits ⟨o, pa, S, Lw.dr m c, ps, rfl, rfl, Da.frL F2 dS (imm_setup S), so, e2, (kp.dr c).fr F2, Da.frL F2 dp0 (imm_party ps), okp, h4, fun x => Int.le_trans (tot_dr kp.n c x) (hI x), fun H3 f3 => ?_⟩
    have F3 : Fr [] H H3 := F2.then0 f3
    have hk3 := F3.at0 hk
    have ht3 := F3.tup _ _ ht
    cases hf : fitb S (Lw.dr m c) ps with
    | false =>
      walk_at "go"
      exact k2 hf H3 F3
    | true =>
      walk_at "go"
      refine g_rdp (k := ck c) hk3 ht3 (by rw [enD_len]; exact szM (by omega)) fun H4 f4 e4 => ?_
      walk_at "go"
      rw [pD_put m c (pa, ps)] at e4
      exact k3 hf H4 (f4.pre0' F3) e4
theorem ok_Lchanged {f : Addr} {fd : FuncData} (F : Fun K "_law_changed" "_law_changed" s_Lchanged f fd) (T : Txt K mg A) (c_Lfits : Cal P w K mg base "_law_fits" 2 ["_law_setup_here", "_law_kept", "_law_party_here"] (sp_Lfits K A)) : FnOk P w K mg base CX0 (3) f fd ["_law_setup_here", "_law_kept", "_law_name", "_law_party_here"] (sp_Lchanged K A) := by
  refine F.ok sc_Lchanged (fun vs H Q E h => ?_) (fun cdv Ar outer s H vs Q E hr h => ⟨t_Lchanged K A, ?_, ?_⟩)
  · obtain ⟨x0, x1, x2, x3, rfl, _⟩ := h
    rfl
  · have hu := hu_of hr
    exact (pss_cons (ps_if (pt_cmp (pc_dnotin hu (pv 2) (pv 1)) rfl) (pss_one (ps_ret pe_bl)) pss_nil)
    (pss_cons (ps_set (i := 4) sc_Lchanged.nd rfl (Or.inl rfl) (pe_callTy (b_dictC (un8 hr.units)) (by rfl) T.b_dict (by decide +kernel) (pa_cons (pv 1) pa_nil)))
    (pss_cons (ps_expr (pe_bm PySem.F.plainAttrs_dict PySem.F.slot_dict_pop PySem.F.type_dict_pop (mt_popT1 (un1 hr.units)) (pv 4) (pa_cons (pv 2) pa_nil)))
    (pss_cons (ps_if (pt_not (pt_val (pe_cl c_Lfits (hr.mono (by first | decide | omega)) (by rfl) (pa_cons (pv 0) (pa_cons (pv 4) (pa_cons (pv 3) pa_nil)))))) (pss_one (ps_ret pe_bl)) pss_nil)
    (pss_cons (ps_dput hu (pv 1) (pv 2) (pv 3) rfl)
    (pss_one (ps_ret pe_bl)))))))
  · obtain ⟨x0, x1, x2, x3, rfl, h⟩ := h
    exact pu_Lchanged T h

/-! ### two tables of parties, the same entries in another order -/
def cellD (c : Cell) : PyData := .tuple [.int c.1, .int c.2]
def entP (e : Cell × Pty) : PyData := .tuple [cellD e.1, partyD e.2.2]
theorem stays_alike2 : ∀ (p q : List Stay), PySem.W.alikeAll (p.map stayD) (q.map stayD) = true
  | [], [] => rfl
  | [], _ :: _ => rfl
  | _ :: _, [] => rfl
  | s :: p, t :: q => by
    show (PySem.W.alike (stayD s) (stayD t) && PySem.W.alikeAll (p.map stayD) (q.map stayD)) = true
    rw [stays_alike2 p q]; rfl
theorem entP_alike (e f : Cell × Pty) : PySem.W.alike (entP e) (entP f) = true := by
  show (PySem.W.alike (cellD e.1) (cellD f.1) && (PySem.W.alikeAll (e.2.2.map stayD) (f.2.2.map stayD) && true)) = true
  rw [stays_alike2]; rfl
theorem srt_eq {ds es : List PyData} (h : ds.Perm es) (anti : ∀ a b, a ∈ ds → b ∈ ds → PySem.W.dataLe false id a b = true → PySem.W.dataLe false id b a = true → a = b) : srt ds = srt es :=
  List.Perm.eq_of_pairwise (le := fun a b => PySem.W.dataLe false id a b = true) (fun a b ha hb => anti a b ((srt_perm ds).mem_iff.mp ha) (h.mem_iff.mpr ((srt_perm es).mem_iff.mp hb))) (PySem.W.sort_pairwise (dle_total id) ds) (PySem.W.sort_pairwise (dle_total id) es) ((srt_perm ds).trans (h.trans (srt_perm es).symm))
theorem ent_anti {m : List (Cell × Pty)} (n : Nd m) : ∀ a b, a ∈ m.map entP → b ∈ m.map entP → PySem.W.dataLe false id a b = true → PySem.W.dataLe false id b a = true → a = b := fun a b ha hb h1 h2 => by
  obtain ⟨e, he, rfl⟩ := List.mem_map.mp ha
  obtain ⟨f, hf, rfl⟩ := List.mem_map.mp hb
  have al : PySem.W.alike (partyD e.2.2) (partyD f.2.2) = true := stays_alike2 _ _
  have al' : PySem.W.alike (partyD f.2.2) (partyD e.2.2) = true := stays_alike2 _ _
  have d1 : PySem.W.dataLt (entP f) (entP e) = false := by simpa [PySem.W.dataLe_eq] using h1
  have d2 : PySem.W.dataLt (entP e) (entP f) = false := by simpa [PySem.W.dataLe_eq] using h2
  have hk : e.1 = f.1 := by
    by_cases q : e.1 = f.1
    · exact q
    · exfalso
      have ne1 : ¬ PyData.eqv (cellD f.1) (cellD e.1) = true := fun z => q (by
        simp [cellD, PyData.eqv, PyData.eqvAll] at z
        exact (Prod.ext z.1 z.2).symm)
      have ne2 : ¬ PyData.eqv (cellD e.1) (cellD f.1) = true := fun z => q (by
        simp [cellD, PyData.eqv, PyData.eqvAll] at z
        exact Prod.ext z.1 z.2)
      unfold entP at d1 d2
      rw [PySem.W.dataLt_pair rfl al', if_neg ne1] at d1
      rw [PySem.W.dataLt_pair rfl al, if_neg ne2] at d2
      unfold cellD at d1 d2
      rw [PySem.W.dataLt_ii, decide_eq_false_iff_not] at d1 d2
      exact q (Prod.ext (by omega) (by omega))
  have e1 := lk_mem n he
  have e2 := lk_mem n hf
  rw [hk, e2] at e1
  have : e = f := Prod.ext hk (Option.some.inj e1).symm
  rw [this]
theorem imm_entP (m : List (Cell × Pty)) : immL (m.map entP) = true := immL_of fun d hd => by
  obtain ⟨e, _, rfl⟩ := List.mem_map.mp hd
  show (imm (cellD e.1) && (imm (partyD e.2.2) && true)) = true
  rw [imm_party]; rfl
theorem entP_alikes (m : List (Cell × Pty)) : PySem.W.AllAlike (m.map entP) := fun d hd d' hd' => by
  obtain ⟨s, _, rfl⟩ := List.mem_map.mp hd
  obtain ⟨s', _, rfl⟩ := List.mem_map.mp hd'
  exact entP_alike s s'
theorem entP_sortable (m : List (Cell × Pty)) : PySem.W.Sortable (m.map entP) := .inl fun d hd => by
  obtain ⟨s, _, rfl⟩ := List.mem_map.mp hd
  exact ⟨_, _, rfl⟩
theorem depth_stays : ∀ (p : List Stay), PyData.depthAll (p.map stayD) ≤ 5
  | [] => by simp [PyData.depthAll]
  | s :: p => by
    have := depth_stays p
    simp only [List.map_cons, PyData.depthAll]
    simp only [stayD, PyData.depth, PyData.depthAll]
    omega
theorem entP_depth (m : List (Cell × Pty)) : ∀ d ∈ m.map entP, d.depth ≤ 60 := fun d hd => by
  obtain ⟨s, _, rfl⟩ := List.mem_map.mp hd
  have := depth_stays s.2.2
  simp only [entP, cellD, partyD, PyData.depth, PyData.depthAll]
  omega
theorem entP_dp (m : List (Cell × Pty)) : dpL (srt (m.map entP)) ≤ 8 := dpL_le fun d hd => by
  obtain ⟨s, _, rfl⟩ := List.mem_map.mp ((srt_perm _).mem_iff.mp hd)
  have : dpL (s.2.2.map stayD) ≤ 3 := dpL_le fun d hd => by obtain ⟨s, _, rfl⟩ := List.mem_map.mp hd; simp [stayD, dp, dpL]
  simp only [entP, cellD, partyD, dp, dpL]
  omega
/-- the list of a table's entries -/
theorem ents_listP {σ : L2.St} {H : Hp} {Q : VK} {i j : Nat} {p : Addr} {m : List (Cell × Pty)} (hi : i ≠ j) (hj : j < σ.length) (hσ : σ[i]? = some (some (.ref p))) (hp : H p = some (.dT (pD m))) (nd : Nd m) (hda : ∀ e ∈ m, Da H (.ref e.2.1) (partyD e.2.2)) (hm : m.length ≤ 1000)
    (k : ∀ (l : Addr) (xs : List V) (H' : Hp), Fr [] H H' → H' l = some (.lst xs) → DaL H' xs (m.map entP) → H' p = some (.dT (pD m)) → Q (.ref l) H') :
    tLockE (tLc (iKeys (tVar i)) (gName j) tYes (tTup (tCons (tVar j) (tCons (tDGet (tVar i) (tVar j)) tNil))) [j]) σ H Q := by
  refine g_lockE hp trivial trivial fun od H2 f2 e2 => ?_
  refine g_lc (g_iK (g_var hσ (g_rkt e2 ?_)))
  refine l_keysT (kvs := pD m) fun Dl H3 nD f3 e3 => ⟨fun n acc H' => DaL H' acc ((m.take n).map entP) ∧ Fr [] H2 H' ∧ H' p = some (.frz od (.dT (pD m))), ⟨.nil, f3, f3.at0 e2⟩, fun n acc H' h => h.2.2, fun n kk v q acc H' hn hq ha ⟨ea, f, ed⟩ => ?_, fun acc H' ha ⟨ea, f, ed⟩ => ?_⟩
  · obtain ⟨e, he, rfl, rfl⟩ := pD_get hn
    have hmem := List.mem_of_getElem? he
    have hw : (wipe σ [j]).length = σ.length := wipe_length _ _
    have h1 : ((wipe σ [j]).set j (some (.ref q)))[j]? = some (some (.ref q)) := by rw [List.getElem?_set_self (by rw [hw]; exact hj)]
    have h2 : ((wipe σ [j]).set j (some (.ref q)))[i]? = some (some (.ref p)) := by
      rw [List.getElem?_set_ne (Ne.symm hi)]
      show (σ.set j none)[i]? = _
      rw [List.getElem?_set_ne (Ne.symm hi)]
      exact hσ
    refine g_name ⟨?_, ?_⟩
    · show ((σ.set j none).set j (some (.ref q))).set j none = σ.set j none
      rw [List.set_set, List.set_set]
    refine g_yes (g_iteT (g_tup (g_cons (g_var h1 (g_cons (g_dget (g_var h2 (g_var h1 ?_))))))))
    refine g_rdg (k := ck e.1) (v := .ref e.2.1) (.inr ⟨_, ed⟩) hq (by rw [val_pty, lk_mem nd hmem]; rfl) (g_nil ?_)
    refine g_newT (Nat.le_of_ble_eq_true rfl) fun t H4 n4 f4 e4 => ?_
    have hlen : acc.length ≤ 100000 := by rw [ea.len, List.length_map, List.length_take]; omega
    have hpD : p ≠ Dl := ne_of ed ha (by intro z; cases z)
    have dpt := Da.frL f4 (Da.frL f (Da.frL f2 (hda e hmem) (imm_party _)) (imm_party _)) (imm_party _)
    refine lcY_of (f4.at0 ha) (szM (by omega)) fun H5 f5 e5 => ⟨?_, (f.then0 f4).own1 f5 nD, f5.at (f4.at0 ed) (nin1 hpD nin0)⟩
    rw [take_more he, List.map_append]
    exact (DaL.frL f5 (DaL.frL f4 ea (imm_entP _)) (imm_entP _)).append (.one' (.tup (f5.tup _ _ e4) (Nat.le_of_ble_eq_true rfl) (.cons (.tup (f5.tup _ _ (f4.tup _ _ hq)) (Nat.le_of_ble_eq_true rfl) (.cons (.int _) (.one' (.int _)))) (.one' (Da.frL f5 dpt (imm_party _))))))
  · rw [enD_len, List.take_length] at ea
    refine g_unl ed fun H4 f4 e4 => ?_
    have hpD : p ≠ Dl := ne_of ed ha (by intro z; cases z)
    refine k Dl acc H4 ⟨fun a o e _ => ?_, fun a xs e => f4.tup _ _ (f.tup _ _ (f2.tup _ _ e))⟩ (f4.at ha (nin1 hpD.symm nin0)) (DaL.frL f4 ea (imm_entP _)) e4
    by_cases h : a = p
    · subst h; rw [hp] at e; cases e; exact e4
    · exact f4.at (f.at0 (f2.at e (nin1 h nin0))) (nin1 h nin0)
def P_Lsame (K : PySem.W.Frag) (A : Ad) (x0 x1 : V) (H : Hp) (Q : VK) : Prop := ∃ (p q : Addr) (m1 m2 : List (Cell × Pty)), x0 = .ref p ∧ x1 = .ref q ∧ H p = some (.dT (pD m1)) ∧ H q = some (.dT (pD m2)) ∧ m1.Perm m2 ∧ Nd m1 ∧ (∀ e ∈ m1, Da H (.ref e.2.1) (partyD e.2.2)) ∧ m1.length ≤ 1000 ∧
  ∀ H', Fr [] H H' → Q (.bl true) H'
def sp_Lsame (K : PySem.W.Frag) (A : Ad) : Sp := fun vs H Q _ => ∃ x0 x1, vs = [x0, x1] ∧ P_Lsame K A x0 x1 H Q
theorem c_Lsame {K : PySem.W.Frag} {A : Ad} {x0 x1 : V} {H : Hp} {Q : VK} {E : XK} (h : P_Lsame K A x0 x1 H Q) : sp_Lsame K A [x0, x1] H Q E := ⟨_, _, rfl, h⟩
theorem sc_Lsame : FnScope ["_law_told", "_law_due", "_law_name"] ["_law_told", "_law_due"] (defScope s_Lsame) := ⟨rfl, rfl, rfl, by decide +kernel, rfl, by decide +kernel, by decide +kernel⟩
def t_Lsame (K : PySem.W.Frag) (A : Ad) : TS :=
  (tSeq (tIfS (tNot (tB (tCB (rIsi K) (tCons (tVar 0) (tCons (tC (.ty "dict")) tNil))))) (tRet (tC (.bl false))) tNext)
    (tRet (tCl (sp_Lequal K A 12) (tCons (tCB (rSortD K) (tCons (tLockE (tLc (iKeys (tVar 0)) (gName 2) tYes (tTup (tCons (tVar 2) (tCons (tDGet (tVar 0) (tVar 2)) tNil))) [2])) tNil)) (tCons (tCB (rSortD K) (tCons (tLockE (tLc (iKeys (tVar 1)) (gName 2) tYes (tTup (tCons (tVar 2) (tCons (tDGet (tVar 1) (tVar 2)) tNil))) [2])) tNil)) tNil)))))
theorem pu_Lsame (T : Txt K mg A) {x0 x1 : V} {H : Hp} {Q : VK} (h : P_Lsame K A x0 x1 H Q) : t_Lsame K A { nx := fun _ H' => Q .non H', rt := Q } [some x0, some x1, none] H := by
  obtain ⟨p, q, m1, m2, rfl, rfl, hp, hq, hpm, nd, hda, hm, k⟩ := h
  have nd2 := nd.perm hpm
  have hm2 : m2.length ≤ 1000 := by rw [← hpm.length_eq]; exact hm
  have hda2 : ∀ e ∈ m2, Da H (.ref e.2.1) (partyD e.2.2) := fun e he => hda e (hpm.mem_iff.mpr he)
  have hs : srt (m2.map entP) = srt (m1.map entP) := (srt_eq (hpm.map entP) (ent_anti nd)).symm
  unfold t_Lsame
  walk_at "go"
  refine ents_listP (p := p) (m := m1) (by decide) (by show 2 < 3; decide) rfl hp nd hda hm fun l1 xs1 H1 f1 e1 d1 ep1 => ?_
  walk_at "go"
  refine g_srt (SqL.of e1) d1 (entP_alikes m1) (entP_sortable m1) (entP_depth m1) fun s1 H2 ys1 n2 f2 e2 r1 => ?_
  have F2 := f1.then0 f2
  walk_at "go"
  refine ents_listP (p := q) (m := m2) (by decide) (by show 2 < 3; decide) rfl (F2.at0 hq) nd2 (fun e he => Da.frL F2 (hda2 e he) (imm_party _)) hm2 fun l2 xs2 H3 f3 e3 d3 ep3 => ?_
  walk_at "go"
  refine g_srt (SqL.of e3) d3 (entP_alikes m2) (entP_sortable m2) (entP_depth m2) fun s2 H4 ys2 n4 f4 e4 r3 => ?_
  rw [hs] at r3
  have is : immL (srt (m1.map entP)) = true := immL_of fun d hd => imm_of (imm_entP m1) d ((srt_perm _).mem_iff.mp hd)
  have hl1 : ys1.length ≤ 100000 := by rw [r1.len, (srt_perm _).length_eq, List.length_map]; omega
  have hl2 : ys2.length ≤ 100000 := by rw [r3.len, (srt_perm _).length_eq, List.length_map]; omega
  walk_at "go"
  refine c_Lequal ⟨.list (srt (m1.map entP)), .lst (f4.at0 (f3.at0 e2)) (by omega) (DaL.frL f4 (DaL.frL f3 (DaL.frL f2 r1 is) is) is), .lst e4 (by omega) (DaL.frL f4 r3 is), ?_, k _ (((f1.then0 f2).then0 f3).then0 f4)⟩
  have := entP_dp m1
  simp only [dp]
  omega
theorem ok_Lsame {f : Addr} {fd : FuncData} (F : Fun K "_law_same" "_law_same" s_Lsame f fd) (T : Txt K mg A) (c_Lequal : Cal P w K mg base "_law_equal" 25 ["_law_actual", "_law_due"] (sp_Lequal K A 12)) : FnOk P w K mg base CX0 (26) f fd ["_law_told", "_law_due"] (sp_Lsame K A) := by
  refine F.ok sc_Lsame (fun vs H Q E h => ?_) (fun cdv Ar outer s H vs Q E hr h => ⟨t_Lsame K A, ?_, ?_⟩)
  · obtain ⟨x0, x1, rfl, _⟩ := h
    rfl
  · have hu := hu_of hr
    exact (pss_cons (ps_if (pt_not (pt_val (pe_callB call_isi (by rfl) T.b_isinstance (by decide +kernel) (pa_cons (pv 0) (pa_cons (pe_bltn (by rfl) T.b_dict (by decide +kernel) (v := .ty "dict") rfl) pa_nil))))) (pss_one (ps_ret pe_bl)) pss_nil)
    (pss_one (ps_ret (pe_cl c_Lequal (hr.mono (by first | decide | omega)) (by rfl) (pa_cons (pe_callB (b_sortD hr.units) (by rfl) T.b_sorted (by decide +kernel) (pa_cons (pe_lock (pe_lc (own := [("_law_name", 2)]) (g := (gName 2)) (tt := tYes) rfl sc_Lsame.nd (pi_keys (pv 0)) (blkOk_by (N := ["_law_told", "_law_due", "_law_name"]) (sc := defScope s_Lsame) (own := [("_law_name", 2)]) (by decide +kernel)) (fun _ _ _ _ _ => (pg_name (i := 2) sc_Lsame.nd rfl (Or.inl rfl))) (fun _ _ _ _ _ => pts_nil) (fun _ _ _ _ _ => (pe_tup (pa_cons (pv 2) (pa_cons (pe_dget hu (pv 0) (pv 2) (fun _ _ => rfl)) pa_nil)))))) pa_nil)) (pa_cons (pe_callB (b_sortD hr.units) (by rfl) T.b_sorted (by decide +kernel) (pa_cons (pe_lock (pe_lc (own := [("_law_name", 2)]) (g := (gName 2)) (tt := tYes) rfl sc_Lsame.nd (pi_keys (pv 1)) (blkOk_by (N := ["_law_told", "_law_due", "_law_name"]) (sc := defScope s_Lsame) (own := [("_law_name", 2)]) (by decide +kernel)) (fun _ _ _ _ _ => (pg_name (i := 2) sc_Lsame.nd rfl (Or.inl rfl))) (fun _ _ _ _ _ => pts_nil) (fun _ _ _ _ _ => (pe_tup (pa_cons (pv 2) (pa_cons (pe_dget hu (pv 1) (pv 2) (fun _ _ => rfl)) pa_nil)))))) pa_nil)) pa_nil))))))
  · obtain ⟨x0, x1, rfl, h⟩ := h
    exact pu_Lsame T h

theorem Kp.perm {S : Setup} {H : Hp} {m1 m2 : List (Cell × Pty)} (k : Kp S H m1) (h : m1.Perm m2) : Kp S H m2 := ⟨k.n.perm h, fun e he => k.da e (h.mem_iff.mpr he), fun e he => k.ok e (h.mem_iff.mpr he), fun e he => k.l4 e (h.mem_iff.mpr he), by rw [← h.length_eq]; exact k.len⟩
theorem NmOk.perm {m1 m2 : List (Cell × Pty)} (k : NmOk m1) (h : m1.Perm m2) : NmOk m2 := fun e he => k e (h.mem_iff.mpr he)
/-- the book and the law's table of the same parties -/
structure Bk (A : Ad) (S : Setup) (H : Hp) (b kd r kp : Addr) (mB mK : List (Cell × Pty)) (i : Nat) : Prop where
  B : BookAt A H b kd r S.nights mB
  k : H kp = some (.dT (pD mK))
  pm : mB.Perm mK
  ks : Kp S H mB
  nm : NmOk mB
  lt : ∀ e ∈ mB, e.1.2 < i
  hI : ∀ c, tot mB c ≤ rmC S c
  len : mB.length ≤ i
theorem Bk.fr {A : Ad} {S : Setup} {H H' : Hp} {b kd r kp : Addr} {mB mK : List (Cell × Pty)} {i : Nat} {l : List Addr} (h : Bk A S H b kd r kp mB mK i) (f : Fr l H H') (n1 : b ∉ l) (n2 : kd ∉ l) (n3 : kp ∉ l) : Bk A S H' b kd r kp mB mK i :=
  ⟨⟨by obtain ⟨dx, e⟩ := h.B.1; exact ⟨dx, f.at e n1⟩, f.at h.B.2 n2⟩, f.at h.k n3, h.pm, h.ks.fr f, h.nm, h.lt, h.hI, h.len⟩
theorem Bk.up {A : Ad} {S : Setup} {H : Hp} {b kd r kp : Addr} {mB mK : List (Cell × Pty)} {i : Nat} (h : Bk A S H b kd r kp mB mK i) : Bk A S H b kd r kp mB mK (i + 1) :=
  ⟨h.B, h.k, h.pm, h.ks, h.nm, fun e he => by have := h.lt e he; omega, h.hI, by have := h.len; omega⟩
theorem Bk.new {A : Ad} {S : Setup} {H : Hp} {b kd r kp : Addr} {mB mK : List (Cell × Pty)} {i : Nat} (h : Bk A S H b kd r kp mB mK i) (x : Int) : lk mK (x, (i : Int)) = none := lk_none fun q => by
  obtain ⟨e, he, z⟩ := List.mem_map.mp q
  have := h.lt e (h.pm.mem_iff.mpr he)
  rw [z] at this
  exact absurd this (by simp)
theorem dr_len {κ α : Type} [DecidableEq κ] (m : List (κ × α)) (k : κ) : (Lw.dr m k).length ≤ m.length := List.length_filter_le _ _
theorem dr_lt {κ α : Type} [DecidableEq κ] {m : List (κ × α)} {k : κ} {w : α} (n : Nd m) (h : lk m k = some w) : (Lw.dr m k).length + 1 = m.length := by
  rw [(dr_back n h).length_eq, List.length_append]; rfl
/-- what was handed out before -/
structure Eld (H : Hp) (L : List Addr) (el : Addr) : Prop where
  ex : ∃ (e0 e1 : Addr) (m0 m1 : List (Cell × Pty)), H el = some (.lst [.ref e0, .ref e1]) ∧ H e0 = some (.dT (pD m0)) ∧ H e1 = some (.dT (pD m1)) ∧ m0.Perm m1 ∧ Nd m0 ∧ (∀ e ∈ m0, Da H (.ref e.2.1) (partyD e.2.2)) ∧ m0.length ≤ 1000 ∧ el ∉ L ∧ e0 ∉ L ∧ e1 ∉ L
theorem Eld.fr {H H' : Hp} {L l : List Addr} {el : Addr} (h : Eld H L el) (f : Fr l H H') (s : ∀ a, a ∈ l → a ∈ L) : Eld H' L el := by
  obtain ⟨e0, e1, m0, m1, h1, h2, h3, h4, h5, h6, h7, h8, h9, h10⟩ := h.ex
  exact ⟨e0, e1, m0, m1, f.at h1 fun q => h8 (s _ q), f.at h2 fun q => h9 (s _ q), f.at h3 fun q => h10 (s _ q), h4, h5, fun e he => Da.frL f (h6 e he) (imm_party _), h7, h8, h9, h10⟩
def csK (m : List (Cell × Pty)) : List (List Int) := m.map fun e => [e.1.1, e.1.2]
theorem csK_keys (m : List (Cell × Pty)) : (pD m).map (·.1) = (csK m).map fun c => c.map Sum.inl := by
  show (m.map fun e => (ck e.1, V.ref e.2.1)).map (·.1) = _
  unfold csK
  rw [List.map_map, List.map_map]; rfl
theorem csK_alike (m : List (Cell × Pty)) : PySem.W.AllAlike ((csK m).map intsD) := fun d hd d' hd' => by
  obtain ⟨c, hc, rfl⟩ := List.mem_map.mp hd
  obtain ⟨c', hc', rfl⟩ := List.mem_map.mp hd'
  obtain ⟨e, _, rfl⟩ := List.mem_map.mp hc
  obtain ⟨e', _, rfl⟩ := List.mem_map.mp hc'
  rfl
theorem csK_sortable (m : List (Cell × Pty)) : PySem.W.Sortable ((csK m).map intsD) := .inl fun d hd => by
  obtain ⟨c, hc, rfl⟩ := List.mem_map.mp hd
  obtain ⟨e, _, rfl⟩ := List.mem_map.mp hc
  exact ⟨_, _, rfl⟩
theorem csK_small (m : List (Cell × Pty)) : ∀ c ∈ csK m, (intsD c).depth ≤ 60 ∧ c.length ≤ 1000000 := fun c hc => by
  obtain ⟨e, _, rfl⟩ := List.mem_map.mp hc
  simp [intsD, PyData.depth, PyData.depthAll]
theorem csK_get {m : List (Cell × Pty)} {H : Hp} {ys : List V} (dy : DaL H ys (srt ((csK m).map intsD))) {z : Nat} {v : V} (h : ys[z]? = some v) : ∃ (t : Addr) (e : Cell × Pty), e ∈ m ∧ v = .ref t ∧ H t = some (.tup [.int e.1.1, .int e.1.2]) := by
  obtain ⟨d, hd, dd⟩ := dy.get h
  obtain ⟨c, hc, rfl⟩ := List.mem_map.mp ((srt_perm _).mem_iff.mp (List.mem_of_getElem? hd))
  obtain ⟨e, he, rfl⟩ := List.mem_map.mp hc
  obtain ⟨t, xs, rfl, et, _, q⟩ := dd.tup1
  obtain ⟨x, y, rfl, dx, dy⟩ := q.two
  cases dx.int1
  cases dy.int1
  exact ⟨t, e, he, rfl, et⟩
def P_law (K : PySem.W.Frag) (A : Ad) (x0 : V) (H : Hp) (Q : VK) : Prop := ∃ (a : Addr) (ns : List Int), x0 = .ref a ∧ SqL K H a (ns.map V.int) ∧ ns.length ≤ 63 ∧ ∀ H', Q (.bl true) H'
def sp_law (K : PySem.W.Frag) (A : Ad) : Sp := fun vs H Q _ => ∃ x0, vs = [x0] ∧ P_law K A x0 H Q
theorem c_law {K : PySem.W.Frag} {A : Ad} {x0 : V} {H : Hp} {Q : VK} {E : XK} (h : P_law K A x0 H Q) : sp_law K A [x0] H Q E := ⟨_, rfl, h⟩
theorem sc_law : FnScope ["_law_script", "_law_draws", "_law_setup_here", "_law_book", "_law_kept", "_law_elder", "_law_k", "_law_name", "_law_party_here", "_law_pick", "_law_due", "_law_told", "_law_kind", "_law_night", "_law_taken", "_law_one"] ["_law_script"] (defScope s_law) := ⟨rfl, rfl, rfl, by decide +kernel, rfl, by decide +kernel, by decide +kernel⟩
def t_law (K : PySem.W.Frag) (A : Ad) : TS :=
  (tSeq (tAsg (tLst (tCons (tCl (sp_Lnumbers K A) (tCons (tVar 0) tNil)) (tCons (tC (.int 0)) tNil))) (gName 1))
    (tSeq (tAsg (tCl (sp_Lsetup K A) (tCons (tVar 1) tNil)) (gName 2))
    (tSeq (tAsg (tMk A.Book (sp_Book_init K A) (tCons (tOp (rIxT K) (tVar 2) (tC (.int 0))) (tCons (tOp (rIxT K) (tVar 2) (tC (.int 1))) tNil))) (gName 3))
    (tSeq (tAsg tDNewT (gName 4))
    (tSeq (tAsg (tLst (tCons tDNewT (tCons tDNewT tNil))) (gName 5))
    (tSeq (tFor (iRng1 (tCons (tOp oMod (tCl (sp_Ldraw K A) (tCons (tVar 1) tNil)) (tC (.int 26))) tNil)) (gName 6) (tSeq (tAsg (tTup (tCons (tOp oMod (tCl (sp_Ldraw K A) (tCons (tVar 1) tNil)) (tC (.int 4))) (tCons (tVar 6) tNil))) (gName 7))
    (tSeq (tAsg (tCl (sp_Lparty K A) (tCons (tVar 1) (tCons (tVar 2) tNil))) (gName 8))
    (tSeq (tAsg (tOp oMod (tCl (sp_Ldraw K A) (tCons (tVar 1) tNil)) (tC (.int 5))) (gName 9))
    (Evl.tCut (tIfS (tAnd (tTest (tOp cGt (tVar 9) (tC (.int 2)))) (tAnd (tTest (tOp cGt (tVar 6) (tC (.int 0)))) (tTest (tOp rEq (tOp oMod (tCl (sp_Ldraw K A) (tCons (tVar 1) tNil)) (tC (.int 2))) (tC (.int 0)))))) (tSeq (tAsg (tTup (tCons (tOp oMod (tCl (sp_Ldraw K A) (tCons (tVar 1) tNil)) (tC (.int 4))) (tCons (tOp oMod (tCl (sp_Ldraw K A) (tCons (tVar 1) tNil)) (tVar 6)) tNil))) (gName 7))
    (tIfS (tB (tDIn (tVar 7) (tVar 4))) (tAsg (tTup (tCons (tOp oMod (tCl (sp_Ldraw K A) (tCons (tVar 1) tNil)) (tC (.int 4))) (tCons (tVar 6) tNil))) (gName 7)) tNext)) tNext)
    (Evl.tCut (tIfS (tAnd (tTest (tOp cLt (tVar 9) (tC (.int 2)))) (tTest (tOp cGt (tVar 6) (tC (.int 0))))) (tSeq (tAsg (tTup (tCons (tOp oMod (tCl (sp_Ldraw K A) (tCons (tVar 1) tNil)) (tC (.int 4))) (tCons (tOp oMod (tCl (sp_Ldraw K A) (tCons (tVar 1) tNil)) (tVar 6)) tNil))) (gName 7))
    (tIfS (tAnd (tTest (tOp cGt (tCB rLenT (tCons (tVar 4) tNil)) (tC (.int 0)))) (tTest (tOp cGt (tOp oMod (tCl (sp_Ldraw K A) (tCons (tVar 1) tNil)) (tC (.int 4))) (tC (.int 0))))) (tAsg (tOp (rIxL K) (tCB rSortedDT (tCons (tVar 4) tNil)) (tOp oMod (tCl (sp_Ldraw K A) (tCons (tVar 1) tNil)) (tCB rLenT (tCons (tVar 4) tNil)))) (gName 7)) tNext)) tNext)
    (Evl.tCut (tIfS (tTest (tOp rEq (tVar 9) (tC (.int 0)))) (tSeq (tAsg (tDIn (tVar 7) (tVar 4)) (gName 10))
    (tSeq (tDrop (tBM K "dict" L2.DX.rPopT (tVar 4) (tCons (tVar 7) (tCons (tC .non) tNil))))
    (tAsg (tMt A.Book "cancel" (sp_Book_cancel K A) (tVar 3) (tCons (tVar 7) tNil)) (gName 11)))) (tIfS (tTest (tOp rEq (tVar 9) (tC (.int 1)))) (tSeq (tAsg (tCl (sp_Lchanged K A) (tCons (tVar 2) (tCons (tVar 4) (tCons (tVar 7) (tCons (tVar 8) tNil))))) (gName 10))
    (tAsg (tMt A.Book "change" (sp_Book_change K A) (tVar 3) (tCons (tVar 7) (tCons (tVar 8) tNil))) (gName 11))) (tSeq (tAsg (tAndV (tDNotIn (tVar 7) (tVar 4)) (tCl (sp_Lfits K A) (tCons (tVar 2) (tCons (tVar 4) (tCons (tVar 8) tNil))))) (gName 10))
    (tSeq (tIfS (tB (tVar 10)) (sDPut (tVar 4) (tVar 7) (tVar 8)) tNext)
    (tAsg (tMt A.Book "wish" (sp_Book_wish K A) (tVar 3) (tCons (tVar 7) (tCons (tVar 8) tNil))) (gName 11))))))
    (tSeq (tAsg (tOp oMod (tCl (sp_Ldraw K A) (tCons (tVar 1) tNil)) (tCB (rLenSq K) (tCons (tOp (rIxT K) (tVar 2) (tC (.int 0))) tNil))) (gName 12))
    (tSeq (tAsg (tOp oMod (tCl (sp_Ldraw K A) (tCons (tVar 1) tNil)) (tOp (rIxT K) (tVar 2) (tC (.int 1)))) (gName 13))
    (tSeq (tAsg (tCB (rSum K) (tCons (tLockE (tLc (iKeys (tVar 4)) (gName 15) tYes (tDGet2 (tCl (sp_Lneeds K A) (tCons (tDGet (tVar 4) (tVar 15)) tNil)) (tTup (tCons (tVar 12) (tCons (tVar 13) tNil))) (tC (.int 0))) [15])) tNil)) (gName 14))
    (tSeq (tIfS (tOr (tNot (tB (tCl (sp_Lequal K A 12) (tCons (tVar 11) (tCons (tVar 10) tNil))))) (tNot (tB (tCl (sp_Lequal K A 12) (tCons (tMt A.Book "free" (sp_Book_free K A) (tVar 3) (tCons (tVar 12) (tCons (tVar 13) tNil))) (tCons (tOp oSub (tOp (rIxT K) (tOp (rIxT K) (tVar 2) (tC (.int 0))) (tVar 12)) (tVar 14)) tNil)))))) (tRet (tC (.bl false))) tNext)
    (tIfS (tTest (tOp rEq (tOp oMod (tCl (sp_Ldraw K A) (tCons (tVar 1) tNil)) (tC (.int 2))) (tC (.int 0)))) (tSeq (tIfS (tOr (tNot (tB (tCl (sp_Lsame K A) (tCons (tOp (rIxL K) (tVar 5) (tC (.int 0))) (tCons (tOp (rIxL K) (tVar 5) (tC (.int 1))) tNil))))) (tNot (tB (tCl (sp_Lsame K A) (tCons (tMt A.Book "parties" (sp_Book_parties K A) (tVar 3) tNil) (tCons (tVar 4) tNil)))))) (tRet (tC (.bl false))) tNext)
    (tSeq (tAsg (tLst (tCons (tMt A.Book "parties" (sp_Book_parties K A) (tVar 3) tNil) (tCons (tCB rDictC (tCons (tVar 4) tNil)) tNil))) (gName 5))
    (tDrop (tBM0 K "dict" rDClearT (tMt A.Book "parties" (sp_Book_parties K A) (tVar 3) tNil))))) tNext))))))))))))
    (tRet (tAndV (tCl (sp_Lsame K A) (tCons (tOp (rIxL K) (tVar 5) (tC (.int 0))) (tCons (tOp (rIxL K) (tVar 5) (tC (.int 1))) tNil))) (tCl (sp_Lsame K A) (tCons (tMt A.Book "parties" (sp_Book_parties K A) (tVar 3) tNil) (tCons (tVar 4) tNil)))))))))))
theorem pu_law (T : Txt K mg A) {x0 : V} {H : Hp} {Q : VK} (h : P_law K A x0 H Q) : t_law K A { nx := fun _ H' => Q .non H', rt := Q } [some x0, none, none, none, none, none, none, none, none, none, none, none, none, none, none, none] H := by
  obtain ⟨a, ns, rfl, hS, hl, k⟩ := h
  unfold t_law
  walk_at "go"
  refine c_Lnumbers ⟨a, ns, rfl, hS, hl, fun nl ms H1 n1 f1 e1 sm hm => ?_⟩
  walk_at "go"
  rename_i d H2 n2 f2 e2
  have D2 : Draws H2 d nl := ⟨ms, 0, e2, f2.at0 e1, sm, hm, Int.le_refl _⟩
  refine c_Lsetup ⟨d, nl, rfl, D2, fun v S H3 so dS f3 D3 => ?_⟩
  obtain ⟨s, r, pp, prs, sa⟩ := SetAt.of dS
  cases sa.e
  have e0 := sa.t
  have er := sa.r
  have hn := so.n1
  have hk := so.k1
  have hk3 := so.k3
  clear hS f1 f2 f3 e1 e2 D2 n1 n2 sm hm
  walk_at "go"
  rename_i b dx H4 n4 nd4 ne4 f4 e4 ed4
  refine c_Book_init ⟨b, dx, r, S.nights, rfl, rfl, rfl, e4, fun kd H5 n5 f5 B5 => ⟨rfl, ?_⟩⟩
  have F5 : Fr [] H3 H5 := f4.own1 f5 n4
  have D5 := D3.fr F5 nin0 nin0
  walk_at "go"
  rename_i kp H6 n6 f6 e6 t0 H7 n7 f7 e7 t1 H8 n8 f8 e8 el H9 n9 f9 e9 z H10 z0 z1 f10 D10
  have bkd : b ≠ kd := by obtain ⟨⟨_, q⟩, q2⟩ := id B5; exact ne_of q q2 (by intro z; cases z)
  have kkp : kd ≠ kp := ne_of_none B5.2 n6
  have bkp : b ≠ kp := by obtain ⟨⟨_, q⟩, q2⟩ := id B5; exact ne_of_none q n6
  have F9 : Fr [] H5 H9 := ((f6.then0 f7).then0 f8).then0 f9
  have D9 := D5.fr F9 nin0 nin0
  have dnb : d ≠ b ∧ nl ≠ b := by obtain ⟨⟨_, q⟩, q2⟩ := id B5; exact D5.ne q
  have dnk : d ≠ kd ∧ nl ≠ kd := by
    obtain ⟨ms, k, h1, h2, _⟩ := id D5
    exact ⟨ne_of h1 B5.2 (by intro z; cases z), ne_of h2 B5.2 (by intro z; cases z)⟩
  have dnp : d ≠ kp ∧ nl ≠ kp := ⟨D5.new1 n6, D5.new2 n6⟩
  have bk0 : Bk A S H10 b kd r kp [] [] 0 := by
    have F10 : Fr [d] H5 H10 := f10.pre0' F9
    refine ⟨⟨?_, F10.at B5.2 (nin1 dnk.1.symm nin0)⟩, ?_, .refl _, ⟨List.nodup_nil, fun _ h => (nomatch h), fun _ h => (nomatch h), fun _ h => (nomatch h), Nat.zero_le _⟩, fun _ h => (nomatch h), fun _ h => (nomatch h), fun c => ?_, Nat.le_refl _⟩
    · obtain ⟨dx, q⟩ := B5.1; exact ⟨dx, F10.at q (nin1 dnb.1.symm nin0)⟩
    · exact f10.at ((((f7.then0 f8).then0 f9)).at0 e6) (nin1 dnp.1.symm nin0)
    · show (0 : Int) ≤ rmC S c
      unfold rmC
      rw [List.getD_eq_getElem?_getD]
      cases q : S.rooms[c.1.toNat]? with
      | none => exact Int.le_refl _
      | some z => exact (so.rm z (List.mem_of_getElem? q)).1
  have nt0d : t0 ≠ d := ((D5.fr f6 nin0 nin0).new1 n7).symm
  have nt0k : t0 ≠ kd := (ne_of_none (f6.at0 B5.2) n7).symm
  have nt0p : t0 ≠ kp := (ne_of_none e6 n7).symm
  have nt1d : t1 ≠ d := ((D5.fr (f6.then0 f7) nin0 nin0).new1 n8).symm
  have nt1k : t1 ≠ kd := (ne_of_none ((f6.then0 f7).at0 B5.2) n8).symm
  have nt1p : t1 ≠ kp := (ne_of_none (f7.at0 e6) n8).symm
  have nld : el ≠ d := ((D5.fr ((f6.then0 f7).then0 f8) nin0 nin0).new1 n9).symm
  have nlk : el ≠ kd := (ne_of_none (((f6.then0 f7).then0 f8).at0 B5.2) n9).symm
  have nlp : el ≠ kp := (ne_of_none ((f7.then0 f8).at0 e6) n9).symm
  have eld0 : Eld H10 [d, kd, kp] el := ⟨t0, t1, [], [], f10.at e9 (nin1 nld nin0), f10.at ((f8.then0 f9).at0 e7) (nin1 nt0d nin0), f10.at (f9.at0 e8) (nin1 nt1d nin0), .refl _, List.nodup_nil, fun _ h => (nomatch h), Nat.zero_le _, nin1 nld (nin1 nlk (nin1 nlp nin0)), nin1 nt0d (nin1 nt0k (nin1 nt0p nin0)), nin1 nt1d (nin1 nt1k (nin1 nt1p nin0))⟩
  have FF : Fr [d] H3 H10 := f10.pre0' (F5.then0 F9)
  have dS10 := Da.frL FF dS (imm_setup S)
  have e010 := FF.tup _ _ e0
  have er10 := FF.tup _ _ er
  clear nt0d nt0k nt0p nt1d nt1k nt1p nld nlk nlp FF F9 F5 D9 D5 D3 B5 e0 er dS sa e4 e6 e7 e8 e9 f4 f5 f6 f7 f8 f9 f10 n4 n5 n6 n7 n8 n9 nd4 ne4 ed4
  refine f_range (lo := 0) (n := (z % 26).toNat) (fun i σ H' => ∃ (el : Addr) (mB mK : List (Cell × Pty)) (v6 v7 v8 v9 v10 v11 v12 v13 v14 v15 : Option V), σ = [some (.ref a), some (.ref d), some (.ref s), some (.ref b), some (.ref kp), some (.ref el), v6, v7, v8, v9, v10, v11, v12, v13, v14, v15] ∧
    Draws H' d nl ∧ Da H' (.ref s) (setupD S) ∧ H' s = some (.tup [.ref r, .int S.nights, .int S.sellers, .ref pp, .int S.share]) ∧ H' r = some (.tup (S.rooms.map V.int)) ∧ Bk A S H' b kd r kp mB mK i ∧ Eld H' [d, kd, kp] el)
    ⟨el, [], [], _, _, _, _, _, _, _, _, _, _, rfl, D10, dS10, e010, er10, bk0, eld0⟩ ?_ ?_
  · clear D10 dS10 e010 er10 bk0 eld0
    rintro i σ H1 hi ⟨el, mB, mK, v6, v7, v8, v9, v10, v11, v12, v13, v14, v15, rfl, D1, dS1, e01, er1, bk, eld⟩
    have hi25 : i ≤ 25 := by omega
    clear hi z0 z1
    walk_at "go"
    rename_i y1 H2 y10 y11 f2 D2 t1 H3 n3 f3 e3
    refine c_Lparty ⟨d, nl, S, rfl, by walk_at "drw", so, Da.frL f3 (Da.frL f2 dS1 (imm_setup S)) (imm_setup S), fun pv ps H4 po dp4 f4 D4 => ?_⟩
    obtain ⟨pa, pxs, rfl, ep4, _, dxs4⟩ := id dp4.tup1
    walk_at "go"
    rename_i y2 H5 y20 y21 f5 D5
    have F5 : Fr [d] H1 H5 := ((f2.then0 f3).transL f4).transL f5
    have p0 : 0 ≤ y2 % 5 := by omega
    generalize y2 % 5 = pick at *
    have e3' : H5 t1 = some (.tup [.int (y1 % 4), .int (i : Int)]) := by
      have q := f5.tup _ _ (f4.tup _ _ e3)
      rw [Int.zero_add] at q; exact q
    have dp5 := Da.frL f5 dp4 (imm_party ps)
    have bk5 : Bk A S H5 b kd r kp mB mK i := bk.fr F5 (nin1 dnb.1.symm nin0) (nin1 dnk.1.symm nin0) (nin1 dnp.1.symm nin0)
    have eld5 := eld.fr F5 (by simp)
    have dS5 := Da.frL F5 dS1 (imm_setup S)
    have e05 := F5.tup _ _ e01
    have er5 := F5.tup _ _ er1
    clear F5 f2 f3 f4 f5 D2 D4 bk eld dS1 e01 er1 e3 n3 dp4 ep4 dxs4 y20 y21 D1
    refine g_cut (fun σ H' => ∃ (t : Addr) (c : Cell), σ = [some (.ref a), some (.ref d), some (.ref s), some (.ref b), some (.ref kp), some (.ref el), some (.int (0 + (i : Int))), some (.ref t), some (.ref pa), some (.int pick), v10, v11, v12, v13, v14, v15] ∧
      H' t = some (.tup [.int c.1, .int c.2]) ∧ 0 ≤ c.1 ∧ c.1 < 4 ∧ 0 ≤ c.2 ∧ c.2 ≤ i ∧ (2 ≤ pick → lk mK c = none) ∧ Fr [d] H5 H' ∧ Draws H' d nl) ?_ ?_
    · have same : ∀ {H' : Hp}, Fr [d] H5 H' → Draws H' d nl → ∃ (t : Addr) (c : Cell), [some (V.ref a), some (.ref d), some (.ref s), some (.ref b), some (.ref kp), some (.ref el), some (.int (0 + (i : Int))), some (.ref t1), some (.ref pa), some (.int pick), v10, v11, v12, v13, v14, v15] = [some (.ref a), some (.ref d), some (.ref s), some (.ref b), some (.ref kp), some (.ref el), some (.int (0 + (i : Int))), some (.ref t), some (.ref pa), some (.int pick), v10, v11, v12, v13, v14, v15] ∧
        H' t = some (.tup [.int c.1, .int c.2]) ∧ 0 ≤ c.1 ∧ c.1 < 4 ∧ 0 ≤ c.2 ∧ c.2 ≤ i ∧ (2 ≤ pick → lk mK c = none) ∧ Fr [d] H5 H' ∧ Draws H' d nl := fun f D => ⟨t1, (y1 % 4, (i : Int)), rfl, f.tup _ _ e3', by show 0 ≤ y1 % 4; omega, by show y1 % 4 < 4; omega, by show (0 : Int) ≤ (i : Int); omega, by show (i : Int) ≤ (i : Int); omega, fun _ => bk5.new _, f, D⟩
      walk_at "go"
      refine g_ite (fun c1 => ?_) (fun c1 => ?_)
      · walk_at "go"
        refine g_ite (fun c2 => ?_) (fun c2 => ?_)
        · walk_at "go"
          rename_i y3 H6 y30 y31 f6 D6
          refine g_ite (fun c3 => ?_) (fun c3 => ?_)
          · walk_at "go"
            rename_i y4 H7 y40 y41 f7 D7 y5 H8 y50 y51 f8 D8 t2 H9 n9 f9 e9
            have D9 := D8.fr f9 nin0 nin0
            have F9 : Fr [d] H5 H9 := ((f6.transL f7).transL f8).then0 f9
            refine g_rdi (k := ck (y4 % 4, y5 % (0 + (i : Int)))) (.inl (F9.at bk5.k (nin1 dnp.1.symm nin0))) e9 ?_
            rw [val_pty]
            have hm0 := Int.emod_nonneg y5 (show (0 + (i : Int)) ≠ 0 by omega)
            have hm1 := Int.emod_lt_of_pos y5 c2
            cases hl : lk mK (y4 % 4, y5 % (0 + (i : Int))) with
            | none =>
              rw [Option.map_none, Option.isSome_none]
              walk_at "go"
              exact ⟨t2, (y4 % 4, y5 % (0 + (i : Int))), rfl, e9, by show 0 ≤ y4 % 4; omega, by show y4 % 4 < 4; omega, hm0, by show y5 % (0 + (i : Int)) ≤ (i : Int); omega, fun _ => hl, F9, D9⟩
            | some w =>
              rw [Option.map_some, Option.isSome_some]
              walk_at "go"
              rename_i y6 H10 y60 y61 f10 D10 t3 H11 n11 f11 e11
              rw [Int.zero_add] at e11
              rw [Int.zero_add]
              exact ⟨t3, (y6 % 4, (i : Int)), rfl, e11, by show 0 ≤ y6 % 4; omega, by show y6 % 4 < 4; omega, by show (0 : Int) ≤ (i : Int); omega, by show (i : Int) ≤ (i : Int); omega, fun _ => bk5.new _, (F9.transL f10).then0 f11, D10.fr f11 nin0 nin0⟩
          · walk_at "go"
            exact same f6 D6
        · walk_at "go"
          exact same Fr.refl D5
      · walk_at "go"
        exact same Fr.refl D5
    · rintro σ H6 ⟨t2, c2, rfl, e6, c20, c21, c22, c23, cn, f6, D6⟩
      refine g_cut (fun σ H' => ∃ (t : Addr) (c : Cell), σ = [some (.ref a), some (.ref d), some (.ref s), some (.ref b), some (.ref kp), some (.ref el), some (.int (0 + (i : Int))), some (.ref t), some (.ref pa), some (.int pick), v10, v11, v12, v13, v14, v15] ∧
        H' t = some (.tup [.int c.1, .int c.2]) ∧ 0 ≤ c.1 ∧ c.1 < 4 ∧ 0 ≤ c.2 ∧ c.2 ≤ i ∧ (2 ≤ pick → lk mK c = none) ∧ Fr [d] H5 H' ∧ Draws H' d nl) ?_ ?_
      · walk_at "go"
        refine g_ite (fun c1 => ?_) (fun c1 => ?_)
        · walk_at "go"
          refine g_ite (fun c3 => ?_) (fun c3 => ?_)
          · walk_at "go"
            rename_i y4 H7 y40 y41 f7 D7 y5 H8 y50 y51 f8 D8 t3 H9 n9 f9 e9
            have F9 : Fr [d] H5 H9 := ((f6.transL f7).transL f8).then0 f9
            have hm0 := Int.emod_nonneg y5 (show (0 + (i : Int)) ≠ 0 by omega)
            have hm1 := Int.emod_lt_of_pos y5 c3
            have kp9 := F9.at bk5.k (nin1 dnp.1.symm nin0)
            have D9 := D8.fr f9 nin0 nin0
            have drawn : ∀ {H' : Hp}, Fr [d] H9 H' → Draws H' d nl → ∃ (t : Addr) (c : Cell), [some (V.ref a), some (.ref d), some (.ref s), some (.ref b), some (.ref kp), some (.ref el), some (.int (0 + (i : Int))), some (.ref t3), some (.ref pa), some (.int pick), v10, v11, v12, v13, v14, v15] = [some (.ref a), some (.ref d), some (.ref s), some (.ref b), some (.ref kp), some (.ref el), some (.int (0 + (i : Int))), some (.ref t), some (.ref pa), some (.int pick), v10, v11, v12, v13, v14, v15] ∧
              H' t = some (.tup [.int c.1, .int c.2]) ∧ 0 ≤ c.1 ∧ c.1 < 4 ∧ 0 ≤ c.2 ∧ c.2 ≤ i ∧ (2 ≤ pick → lk mK c = none) ∧ Fr [d] H5 H' ∧ Draws H' d nl := fun f D => ⟨t3, (y4 % 4, y5 % (0 + (i : Int))), rfl, f.tup _ _ e9, by show 0 ≤ y4 % 4; omega, by show y4 % 4 < 4; omega, hm0, by show y5 % (0 + (i : Int)) ≤ (i : Int); omega, fun z => absurd z (by omega), F9.transL f, D⟩
            refine g_lenDT kp9 ?_
            walk_at "go"
            refine g_ite (fun c4 => ?_) (fun c4 => ?_)
            · walk_at "go"
              rename_i y6 H10 y60 y61 f10 D10
              refine g_ite (fun c5 => ?_) (fun c5 => ?_)
              · have kp10 := f10.at kp9 (nin1 dnp.1.symm nin0)
                walk_at "go"
                refine g_sortedDT (csK mK) kp10 (csK_keys mK) (csK_alike mK) (csK_sortable mK) (csK_small mK) fun p H11 ys n11 f11 e11 dy => ?_
                have D11 := D10.fr f11 nin0 nin0
                have hyl : ys.length = mK.length := by rw [dy.len, (srt_perm _).length_eq, List.length_map]; unfold csK; rw [List.length_map]
                have pnd : p ≠ d := (D10.new1 n11).symm
                walk_at "go"
                rename_i y7 H12 y70 y71 f12 D12
                refine g_lenDT (f12.at (f11.at0 kp10) (nin1 dnp.1.symm nin0)) ?_
                walk_at "go"
                rw [enD_len] at c4 ⊢
                have g0 := Int.emod_nonneg y7 (show ((mK.length : Nat) : Int) ≠ 0 by omega)
                have g1 := Int.emod_lt_of_pos y7 c4
                obtain ⟨v, hv, hv2⟩ := atI_of (xs := ys) (z := y7 % ((mK.length : Nat) : Int)) g0 (by rw [hyl]; exact g1)
                obtain ⟨t4, e, he, rfl, et4⟩ := csK_get dy hv2
                refine g_ixL (SqL.of (f12.at e11 (nin1 pnd nin0))) hv ?_
                walk_at "go"
                obtain ⟨m0, m1, m2, m3⟩ := bk5.nm e (bk5.pm.mem_iff.mpr he)
                have mi := bk5.lt e (bk5.pm.mem_iff.mpr he)
                exact ⟨t4, e.1, rfl, f12.tup _ _ et4, m0, m1, m2, by omega, fun z => absurd z (by omega), ((F9.transL f10).then0 f11).transL f12, D12⟩
              · walk_at "go"
                exact drawn f10 D10
            · walk_at "go"
              exact drawn Fr.refl D9
          · walk_at "go"
            exact ⟨t2, c2, rfl, e6, c20, c21, c22, c23, cn, f6, D6⟩
        · walk_at "go"
          exact ⟨t2, c2, rfl, e6, c20, c21, c22, c23, cn, f6, D6⟩
      · clear e6 c20 c21 c22 c23 cn f6 D6 t2 c2 e3'
        rintro σ H7 ⟨t, c, rfl, et, c0, c1, c2, c3, cn, F7, D7⟩
        have bk7 : Bk A S H7 b kd r kp mB mK i := bk5.fr F7 (nin1 dnb.1.symm nin0) (nin1 dnk.1.symm nin0) (nin1 dnp.1.symm nin0)
        have eld7 := eld5.fr F7 (by simp)
        have dS7 := Da.frL F7 dS5 (imm_setup S)
        have e07 := F7.tup _ _ e05
        have er7 := F7.tup _ _ er5
        have dp7 := Da.frL F7 dp5 (imm_party ps)
        clear F7 bk5 eld5 dS5 e05 er5 dp5 D5
        refine g_cut (fun σ H' => ∃ (g : Bool) (mB mK : List (Cell × Pty)), σ = [some (.ref a), some (.ref d), some (.ref s), some (.ref b), some (.ref kp), some (.ref el), some (.int (0 + (i : Int))), some (.ref t), some (.ref pa), some (.int pick), some (.bl g), some (.bl g), v12, v13, v14, v15] ∧
          Bk A S H' b kd r kp mB mK (i + 1) ∧ Fr [kd, kp] H7 H') ?_ ?_
        · have hkK := bk7.k
          have hnB := bk7.ks.n
          have hnK := hnB.perm bk7.pm
          have kB := bk7.ks
          have kK := kB.perm bk7.pm
          have nmK := bk7.nm.perm bk7.pm
          have hlk : lk mB c = lk mK c := lk_perm bk7.pm hnB c
          have hIK : ∀ c, tot mK c ≤ rmC S c := fun c => by rw [← tot_perm bk7.pm c]; exact bk7.hI c
          have hbl := bk7.len
          have hkl : mK.length = mB.length := bk7.pm.length_eq.symm
          have bnl : b ∉ [kp] := nin1 bkp nin0
          have kdn : kd ∉ [kp] := nin1 kkp nin0
          have kpn : kp ∉ [kd] := nin1 kkp.symm nin0
          have monoB : ∀ {H1 H2 : Hp}, Fr [kd] H1 H2 → Fr [kd, kp] H1 H2 := fun f => f.mono (by simp)
          have monoK : ∀ {H1 H2 : Hp}, Fr [kp] H1 H2 → Fr [kd, kp] H1 H2 := fun f => f.mono (by simp)
          have nmD : NmOk (Lw.dr mB c) := fun e he => bk7.nm e (List.mem_filter.mp he).1
          have ltD : ∀ e ∈ Lw.dr mB c, e.1.2 < ((i + 1 : Nat) : Int) := fun e he => by have := bk7.lt e (List.mem_filter.mp he).1; omega
          have hID : ∀ x, tot (Lw.dr mB c) x ≤ rmC S x := fun x => Int.le_trans (tot_dr hnB c x) (bk7.hI x)
          walk_at "go"
          refine g_ite (fun q0 => ?_) (fun q0 => ?_)
          · walk_at "go"
            refine g_rdi (k := ck c) (.inl hkK) et ?_
            rw [val_pty, Option.isSome_map]
            walk_at "go"
            cases hl : lk mK c with
            | none =>
              refine g_popT (k := ck c) hkK et (fun v H8 hv f8 e8 => ?_) (fun hv => ?_)
              · rw [val_pty, hl] at hv; cases hv
              walk_at "go"
              refine g_rmt (fs := F_Book r S.nights kd) (dx := bk7.B.1.choose) bk7.B.1.choose_spec rfl ?_
              walk_at "go"
              refine c_Book_cancel ⟨b, kd, r, t, c, S.nights, mB, rfl, rfl, et, bk7.B, fun H8 f8 B8 => ?_⟩
              walk_at "go"
              rw [hlk, hl]
              rw [dr_none (hlk.trans hl)] at B8
              refine ⟨false, mB, mK, rfl, ⟨B8, f8.at hkK kpn, bk7.pm, kB.fr f8, bk7.nm, fun e he => by have := bk7.lt e he; omega, bk7.hI, by omega⟩, monoB f8⟩
            | some w =>
              refine g_popT (k := ck c) hkK et (fun v H8 hv f8 e8 => ?_) (fun hv => ?_)
              · have B8 : BookAt A H8 b kd r S.nights mB := ⟨by obtain ⟨dx, e⟩ := bk7.B.1; exact ⟨dx, f8.at e bnl⟩, f8.at bk7.B.2 kdn⟩
                walk_at "go"
                refine g_rmt (fs := F_Book r S.nights kd) (dx := B8.1.choose) B8.1.choose_spec rfl ?_
                walk_at "go"
                refine c_Book_cancel ⟨b, kd, r, t, c, S.nights, mB, rfl, rfl, f8.tup _ _ et, B8, fun H9 f9 B9 => ?_⟩
                walk_at "go"
                rw [hlk, hl]
                rw [pD_drop] at e8
                refine ⟨true, Lw.dr mB c, Lw.dr mK c, rfl, ⟨B9, f9.at e8 kpn, dr_perm bk7.pm c, ((kB.dr c).fr f8).fr f9, nmD, ltD, hID, by have := dr_len mB c; omega⟩, (monoK f8).transL (monoB f9)⟩
              · rw [val_pty, hl] at hv; cases hv
          · walk_at "go"
            refine g_ite (fun q1 => ?_) (fun q1 => ?_)
            · walk_at "go"
              refine c_Lchanged ⟨kp, t, pa, c, S, mK, ps, rfl, rfl, rfl, et, dS7, so, hkK, kK, nmK, dp7, po.ok, po.l4, hIK, fun hl => ?_, fun w hl => ⟨fun hf H8 f8 => ?_, fun hf H8 f8 e8 => ?_⟩⟩
              · walk_at "go"
                refine g_rmt (fs := F_Book r S.nights kd) (dx := bk7.B.1.choose) bk7.B.1.choose_spec rfl ?_
                walk_at "go"
                refine c_Book_change ⟨b, kd, r, t, pa, c, S.nights, S, mB, ps, rfl, rfl, rfl, et, bk7.B, er7, so, kB, dp7, po.ok, po.l4, fun _ => ?_, fun w hw => by rw [hlk, hl] at hw; cases hw⟩
                walk_at "go"
                exact ⟨false, mB, mK, rfl, bk7.up, Fr.refl⟩
              · have bk8 := bk7.fr f8 nin0 nin0 nin0
                walk_at "go"
                refine g_rmt (fs := F_Book r S.nights kd) (dx := bk8.B.1.choose) bk8.B.1.choose_spec rfl ?_
                walk_at "go"
                have hg : fitb S (Lw.dr mB c) ps = false := by rw [fitb_perm (dr_perm bk7.pm c)]; exact hf
                refine c_Book_change ⟨b, kd, r, t, pa, c, S.nights, S, mB, ps, rfl, rfl, rfl, f8.tup _ _ et, bk8.B, f8.tup _ _ er7, so, bk8.ks, Da.frL f8 dp7 (imm_party ps), po.ok, po.l4, fun hw => (by rw [hlk, hl] at hw; cases hw), fun w' hw H9 f9 B9 => ?_⟩
                rw [hlk, hl] at hw
                cases hw
                walk_at "go"
                rw [hg] at B9 ⊢
                have pb := dr_back hnB (hlk.trans hl)
                refine ⟨false, _, mK, rfl, ⟨B9, f9.at bk8.k kpn, pb.symm.trans bk7.pm, (kB.perm pb).fr f8 |>.fr f9, bk7.nm.perm pb, fun e he => by have := bk7.lt e (pb.mem_iff.mpr he); omega, fun x => by show tot (Lw.dr mB c ++ [(c, w)]) x ≤ _; rw [← tot_perm pb x]; exact bk7.hI x, by show (Lw.dr mB c ++ [(c, w)]).length ≤ _; rw [← pb.length_eq]; omega⟩, (monoB f9).pre0' f8⟩
              · have B8 : BookAt A H8 b kd r S.nights mB := ⟨by obtain ⟨dx, e⟩ := bk7.B.1; exact ⟨dx, f8.at e bnl⟩, f8.at bk7.B.2 kdn⟩
                walk_at "go"
                refine g_rmt (fs := F_Book r S.nights kd) (dx := B8.1.choose) B8.1.choose_spec rfl ?_
                walk_at "go"
                have hg : fitb S (Lw.dr mB c) ps = true := by rw [fitb_perm (dr_perm bk7.pm c)]; exact hf
                refine c_Book_change ⟨b, kd, r, t, pa, c, S.nights, S, mB, ps, rfl, rfl, rfl, f8.tup _ _ et, B8, f8.tup _ _ er7, so, kB.fr f8, Da.frL f8 dp7 (imm_party ps), po.ok, po.l4, fun hw => (by rw [hlk, hl] at hw; cases hw), fun w' hw H9 f9 B9 => ?_⟩
                rw [hlk, hl] at hw
                cases hw
                walk_at "go"
                rw [hg] at B9 ⊢
                have F9 : Fr [kd, kp] H7 H9 := (monoK f8).transL (monoB f9)
                have pk : (Lw.dr mB c ++ [(c, (pa, ps))]).Perm (pt mK c (pa, ps)) := (((dr_perm bk7.pm c)).append_right _).trans (pt_perm hnK hl (pa, ps)).symm
                have nN : Nd (pt mK c (pa, ps)) := hnK.pt c _
                have mem : ∀ e, e ∈ Lw.dr mB c ++ [(c, (pa, ps))] → e ∈ Lw.dr mB c ∨ e = (c, (pa, ps)) := fun e he => (List.mem_append.mp he).elim .inl fun q => .inr (List.mem_singleton.mp q)
                have dl := dr_lt hnB (hlk.trans hl)
                have kD := (kB.dr c).fr F9
                refine ⟨true, _, _, rfl, ⟨B9, f9.at e8 kpn, pk, ⟨nN.perm pk.symm, fun e he => ?_, fun e he => ?_, fun e he => ?_, ?_⟩, fun e he => ?_, fun e he => ?_, fit_keeps hID hg, ?_⟩, F9⟩
                · rcases mem e he with q | q
                  · exact kD.da e q
                  · rw [q]; exact Da.frL F9 dp7 (imm_party ps)
                · rcases mem e he with q | q
                  · exact kD.ok e q
                  · rw [q]; exact po.ok
                · rcases mem e he with q | q
                  · exact kD.l4 e q
                  · rw [q]; exact po.l4
                · rw [List.length_append]; show (Lw.dr mB c).length + 1 ≤ 60; omega
                · rcases mem e he with q | q
                  · exact nmD e q
                  · rw [q]; exact ⟨c0, c1, c2, by show c.2 < 26; omega⟩
                · rcases mem e he with q | q
                  · exact ltD e q
                  · rw [q]; show c.2 < ((i + 1 : Nat) : Int); omega
                · rw [List.length_append]; show (Lw.dr mB c).length + 1 ≤ _; omega
            · have p2 : 2 ≤ pick := by omega
              have hl := cn p2
              walk_at "go"
              refine g_rdni (k := ck c) (.inl hkK) et ?_
              rw [val_pty, hl, Option.map_none, Option.isSome_none]
              walk_at "go"
              refine c_Lfits ⟨kp, pa, S, mK, ps, rfl, rfl, dS7, so, hkK, kK, dp7, po.ok, po.l4, hIK, fun H8 f8 => ?_⟩
              have bk8 := bk7.fr f8 nin0 nin0 nin0
              have fp : fitb S mB ps = fitb S mK ps := fitb_perm bk7.pm ps
              walk_at "go"
              cases hf : fitb S mK ps with
              | false =>
                walk_at "go"
                refine g_rmt (fs := F_Book r S.nights kd) (dx := bk8.B.1.choose) bk8.B.1.choose_spec rfl ?_
                walk_at "go"
                refine c_Book_wish ⟨b, kd, r, t, pa, c, S.nights, S, mB, ps, rfl, rfl, rfl, f8.tup _ _ et, bk8.B, f8.tup _ _ er7, so, bk8.ks, Da.frL f8 dp7 (imm_party ps), po.ok, po.l4, hlk.trans hl, fun q => (by rw [fp, hf] at q; cases q), fun _ H9 f9 => ?_⟩
                walk_at "go"
                exact ⟨false, mB, mK, rfl, (bk8.fr f9 nin0 nin0 nin0).up, (f8.then0 f9).of0⟩
              | true =>
                walk_at "go"
                refine g_rdp (k := ck c) bk8.k (f8.tup _ _ et) (by rw [enD_len]; exact szM (by omega)) fun H9 f9 e9 => ?_
                rw [pD_put mK c (pa, ps), pt_new (lk_not hl)] at e9
                have B9 : BookAt A H9 b kd r S.nights mB := ⟨by obtain ⟨dx, e⟩ := bk8.B.1; exact ⟨dx, f9.at e bnl⟩, f9.at bk8.B.2 kdn⟩
                have F9 : Fr [kp] H7 H9 := f9.pre0' f8
                walk_at "go"
                refine g_rmt (fs := F_Book r S.nights kd) (dx := B9.1.choose) B9.1.choose_spec rfl ?_
                walk_at "go"
                refine c_Book_wish ⟨b, kd, r, t, pa, c, S.nights, S, mB, ps, rfl, rfl, rfl, F9.tup _ _ et, B9, F9.tup _ _ er7, so, kB.fr F9, Da.frL F9 dp7 (imm_party ps), po.ok, po.l4, hlk.trans hl, fun _ H10 f10 B10 => ?_, fun q => by rw [fp, hf] at q; cases q⟩
                walk_at "go"
                have F10 : Fr [kd, kp] H7 H10 := (monoK F9).transL (monoB f10)
                have pk : (mB ++ [(c, (pa, ps))]).Perm (mK ++ [(c, (pa, ps))]) := bk7.pm.append_right _
                have nN : Nd (mB ++ [(c, (pa, ps))]) := by rw [← pt_new (lk_not (hlk.trans hl))]; exact hnB.pt c _
                have mem : ∀ e, e ∈ mB ++ [(c, (pa, ps))] → e ∈ mB ∨ e = (c, (pa, ps)) := fun e he => (List.mem_append.mp he).elim .inl fun q => .inr (List.mem_singleton.mp q)
                have kD := kB.fr F10
                refine ⟨true, _, _, rfl, ⟨B10, f10.at e9 kpn, pk, ⟨nN, fun e he => ?_, fun e he => ?_, fun e he => ?_, ?_⟩, fun e he => ?_, fun e he => ?_, fit_keeps bk7.hI (fp.trans hf), ?_⟩, F10⟩
                · rcases mem e he with q | q
                  · exact kD.da e q
                  · rw [q]; exact Da.frL F10 dp7 (imm_party ps)
                · rcases mem e he with q | q
                  · exact kD.ok e q
                  · rw [q]; exact po.ok
                · rcases mem e he with q | q
                  · exact kD.l4 e q
                  · rw [q]; exact po.l4
                · rw [List.length_append]; show mB.length + 1 ≤ 60; omega
                · rcases mem e he with q | q
                  · exact bk7.nm e q
                  · rw [q]; exact ⟨c0, c1, c2, by show c.2 < 26; omega⟩
                · rcases mem e he with q | q
                  · have := bk7.lt e q; omega
                  · rw [q]; show c.2 < ((i + 1 : Nat) : Int); omega
                · rw [List.length_append]; show mB.length + 1 ≤ _; omega
        · rintro σ H8 ⟨g, mB, mK, rfl, bk8, F8⟩
          have dS8 := Da.frL F8 dS7 (imm_setup S)
          have e08 := F8.tup _ _ e07
          have er8 := F8.tup _ _ er7
          have eld8 := eld7.fr F8 (by simp)
          have D8 : Draws H8 d nl := D7.fr F8 (nin1 dnk.1 (nin1 dnp.1 nin0)) (nin1 dnk.2 (nin1 dnp.2 nin0))
          clear F8 bk7 dS7 e07 er7 eld7 D7 et cn dp7 po
          obtain ⟨el0, el1, m0, m1, q1, q2, q3, q4, q5, q6, q7, q8, q9, q10⟩ := eld8.ex
          walk_at "go"
          rename_i y1 H9 y10 y11 f9 D9 y2 H10 y20 y21 f10 D10
          have F10 : Fr [d] H8 H10 := f9.transL f10
          have bk10 := bk8.fr F10 (nin1 dnb.1.symm nin0) (nin1 dnk.1.symm nin0) (nin1 dnp.1.symm nin0)
          have er10 := F10.tup _ _ er8
          have e010 := F10.tup _ _ e08
          have hnK := bk10.ks.n.perm bk10.pm
          have kK := bk10.ks.perm bk10.pm
          have hbl := bk10.len
          have hkl : mK.length = mB.length := bk10.pm.length_eq.symm
          have k0 := Int.emod_nonneg y1 (show (((S.rooms.map V.int).length : Nat) : Int) ≠ 0 by rw [List.length_map]; omega)
          have k1 := Int.emod_lt_of_pos y1 (show 0 < (((S.rooms.map V.int).length : Nat) : Int) by rw [List.length_map]; omega)
          rw [List.length_map] at k1
          have k1' : y1 % (((S.rooms.map V.int).length : Nat) : Int) < S.rooms.length := by rw [List.length_map]; exact k1
          generalize y1 % (((S.rooms.map V.int).length : Nat) : Int) = kind at *
          generalize y2 % S.nights = night at *
          refine g_lockE bk10.k trivial trivial fun od H11 f11 e11 => ?_
          walk_at "go"
          refine l_keysT (kvs := pD mK) fun Dl H12 nD f12 e12 => ⟨fun n acc H' => acc = (mK.take n).map (fun e => V.int (nd e.2.2 (kind, night))) ∧ Fr [] H11 H', ⟨rfl, f12⟩, fun n acc H' h => h.2.at0 e11, fun n kk v q acc H' hn hq ha ⟨ea, f⟩ => ?_, fun acc H' ha ⟨ea, f⟩ => ?_⟩
          · obtain ⟨e, he, rfl, rfl⟩ := pD_get hn
            have hmem := List.mem_of_getElem? he
            have F11 : Fr [kp] H10 H' := f11.then0 f
            obtain ⟨xs, ex, dxs⟩ := (kK.fr F11).at hmem
            have hal : acc.length ≤ 100 := by rw [ea, List.length_map, List.length_take]; omega
            have ed := f.at0 e11
            walk_at "go"
            refine ⟨rfl, ?_⟩
            walk_at "go"
            refine g_rdg (k := ck e.1) (v := .ref e.2.1) (.inr ⟨_, ed⟩) hq (by rw [val_pty, lk_mem kK.n hmem]; rfl) ?_
            walk_at "go"
            refine c_Lneeds ⟨e.2.1, xs, e.2.2, rfl, ex, dxs, SmallSt.of so (kK.ok e hmem), Nat.le_trans (kK.l4 e hmem) (by decide), fun p H13 n13 f13 e13 => ?_⟩
            walk_at "go"
            rename_i tt H14 n14 f14 e14
            refine g_dgo (k := ck (kind, night)) (.inl (f14.at0 e13)) e14 ?_
            rw [val_nd]
            refine lcY_of (f14.at0 (f13.at0 ha)) (by walk_at "sz") fun H15 f15 e15 => ⟨?_, ((f.then0 f13).then0 f14).own1 f15 nD⟩
            rw [take_more he, List.map_append, ea]; rfl
          · rw [enD_len, List.take_length] at ea
            have nDk : Dl ≠ kp := fun z => by rw [z, e11] at nD; cases nD
            refine g_unl (f.at0 e11) fun H13 f13 e13 => ?_
            have ha13 := f13.at ha (nin1 nDk nin0)
            rw [ea] at ha13
            have F13 : Fr [] H10 H13 := ((f11.then0 f).transL f13).back bk10.k e13
            have es : ((mK.map fun e => nd e.2.2 (kind, night)).map V.int) = mK.map (fun e => V.int (nd e.2.2 (kind, night))) := by rw [List.map_map]; rfl
            walk_at "go"
            refine g_sum (ns := mK.map fun e => nd e.2.2 (kind, night)) (SqL.of (by rw [es]; exact ha13)) ?_
            have bk13 := bk10.fr F13 nin0 nin0 nin0
            have er13 := F13.tup _ _ er10
            have e013 := F13.tup _ _ e010
            have D13 := D10.fr F13 nin0 nin0
            have el13 := eld8.fr (F10.then0 F13) (by simp)
            have dS13 := Da.frL (F10.then0 F13) dS8 (imm_setup S)
            clear f11 e11 f12 e12 nD f ha f13 e13 ha13 F13 es ea
            walk_at "go"
            refine c_Lequal ⟨.bool g, .bl g, .bl g, by simp [Lw.dp], ?_⟩
            walk_at "go"
            refine g_rmt (fs := F_Book r S.nights kd) (dx := bk13.B.1.choose) bk13.B.1.choose_spec rfl ?_
            walk_at "go"
            refine c_Book_free ⟨b, kd, r, S.nights, kind, night, S, mB, rfl, rfl, rfl, bk13.B, er13, so, bk13.ks, k0, k1', fun H14 f14 => ?_⟩
            have er14 := f14.tup _ _ er13
            have e014 := f14.tup _ _ e013
            walk_at "go"
            refine g_ixT (SqT.of er14) (rmC_at (n := night) k0 k1') ?_
            walk_at "go"
            refine c_Lequal ⟨.int (rmC S (kind, night) - tot mB (kind, night)), .int _, by rw [tot_perm bk13.pm]; exact .int _, by simp [Lw.dp], ?_⟩
            have bk14 := bk13.fr f14 nin0 nin0 nin0
            have D14 := D13.fr f14 nin0 nin0
            have el14 := el13.fr f14 (by simp)
            have dS14 := Da.frL f14 dS13 (imm_setup S)
            clear bk13 er13 e013 D13 el13 dS13 f14
            walk_at "go"
            rename_i y3 H15 y30 y31 f15 D15
            have bk15 := bk14.fr f15 (nin1 dnb.1.symm nin0) (nin1 dnk.1.symm nin0) (nin1 dnp.1.symm nin0)
            have er15 := f15.tup _ _ er14
            have e015 := f15.tup _ _ e014
            have el15 := el14.fr f15 (by simp)
            have dS15 := Da.frL f15 dS14 (imm_setup S)
            clear bk14 D14 el14 dS14 er14 e014 f15
            refine g_ite (fun c5 => ?_) (fun c5 => ?_)
            · obtain ⟨el0, el1, m0, m1, q1, q2, q3, q4, q5, q6, q7, q8, q9, q10⟩ := el15.ex
              walk_at "go"
              refine c_Lsame ⟨el0, el1, m0, m1, rfl, rfl, q2, q3, q4, q5, q6, q7, fun H16 f16 => ?_⟩
              have bk16 := bk15.fr f16 nin0 nin0 nin0
              walk_at "go"
              refine g_rmt (fs := F_Book r S.nights kd) (dx := bk16.B.1.choose) bk16.B.1.choose_spec rfl ?_
              walk_at "go"
              refine c_Book_parties ⟨b, kd, r, S.nights, mB, rfl, bk16.B, bk16.ks.n, bk16.nm, fun p1 H17 n17 f17 e17 => ?_⟩
              have bk17 := bk16.fr f17 nin0 nin0 nin0
              walk_at "go"
              refine c_Lsame ⟨p1, kp, mB, mK, rfl, rfl, e17, bk17.k, bk17.pm, bk17.ks.n, bk17.ks.da, by omega, fun H18 f18 => ?_⟩
              have bk18 := bk17.fr f18 nin0 nin0 nin0
              walk_at "go"
              refine g_rmt (fs := F_Book r S.nights kd) (dx := bk18.B.1.choose) bk18.B.1.choose_spec rfl ?_
              walk_at "go"
              refine c_Book_parties ⟨b, kd, r, S.nights, mB, rfl, bk18.B, bk18.ks.n, bk18.nm, fun p2 H19 n19 f19 e19 => ?_⟩
              have bk19 := bk18.fr f19 nin0 nin0 nin0
              have nmK := bk19.nm.perm bk19.pm
              have kK19 := bk19.ks.perm bk19.pm
              walk_at "go"
              refine g_dictC (mK.map (·.1)) bk19.k (pD_keys mK) (hp_keys kK19.n nmK) fun p3 H20 n20 f20 e20 => ?_
              have bk20 := bk19.fr f20 nin0 nin0 nin0
              walk_at "go"
              rename_i el2 H21 n21 f21 e21
              have bk21 := bk20.fr f21 nin0 nin0 nin0
              refine g_rmt (fs := F_Book r S.nights kd) (dx := bk21.B.1.choose) bk21.B.1.choose_spec rfl ?_
              walk_at "go"
              refine c_Book_parties ⟨b, kd, r, S.nights, mB, rfl, bk21.B, bk21.ks.n, bk21.nm, fun p4 H22 n22 f22 e22 => ?_⟩
              walk_at "go"
              rename_i H23 f23 e23
              have G18 : Fr [] H15 H18 := (f16.then0 f17).then0 f18
              have G22 : Fr [] H15 H22 := ((((G18).then0 f19).then0 f20).then0 f21).then0 f22
              have nfree : H15 p4 = none := (((G18.then0 f19).then0 f20).then0 f21).free n22
              have G : Fr [] H15 H23 := G22.own1 f23 nfree
              have D18 := D15.fr G18 nin0 nin0
              have D19 := D18.fr f19 nin0 nin0
              have D20 := D19.fr f20 nin0 nin0
              have n4a : p2 ≠ p4 := ne_of_none (f21.at0 (f20.at0 e19)) n22
              have n4b : p3 ≠ p4 := ne_of_none (f21.at0 e20) n22
              have n4c : el2 ≠ p4 := ne_of_none e21 n22
              exact ⟨el2, mB, mK, _, _, _, _, _, _, _, _, _, _, rfl, D15.fr G nin0 nin0, Da.frL G dS15 (imm_setup S), G.tup _ _ e015, G.tup _ _ er15, bk15.fr G nin0 nin0 nin0,
                ⟨p2, p3, mB, mK, f23.at (f22.at0 e21) (nin1 n4c nin0), f23.at (f22.at0 (f21.at0 (f20.at0 e19))) (nin1 n4a nin0), f23.at (f22.at0 (f21.at0 e20)) (nin1 n4b nin0), bk15.pm, bk15.ks.n, (bk15.ks.fr G).da, by omega,
                  nin1 (D20.new1 n21).symm (nin1 (ne_of_none bk20.B.2 n21).symm (nin1 (ne_of_none bk20.k n21).symm nin0)), nin1 (D18.new1 n19).symm (nin1 (ne_of_none bk18.B.2 n19).symm (nin1 (ne_of_none bk18.k n19).symm nin0)), nin1 (D19.new1 n20).symm (nin1 (ne_of_none bk19.B.2 n20).symm (nin1 (ne_of_none bk19.k n20).symm nin0))⟩⟩
            · walk_at "go"
              exact ⟨el, mB, mK, _, _, _, _, _, _, _, _, _, _, rfl, D15, dS15, e015, er15, bk15, el15⟩
  · rintro σ H1 ⟨el, mB, mK, v6, v7, v8, v9, v10, v11, v12, v13, v14, v15, rfl, D1, dS1, e01, er1, bk, eld⟩
    obtain ⟨el0, el1, m0, m1, q1, q2, q3, q4, q5, q6, q7, q8, q9, q10⟩ := eld.ex
    have hbl := bk.len
    walk_at "go"
    refine c_Lsame ⟨el0, el1, m0, m1, rfl, rfl, q2, q3, q4, q5, q6, q7, fun H16 f16 => ?_⟩
    have bk16 := bk.fr f16 nin0 nin0 nin0
    walk_at "go"
    refine g_rmt (fs := F_Book r S.nights kd) (dx := bk16.B.1.choose) bk16.B.1.choose_spec rfl ?_
    walk_at "go"
    refine c_Book_parties ⟨b, kd, r, S.nights, mB, rfl, bk16.B, bk16.ks.n, bk16.nm, fun p1 H17 n17 f17 e17 => ?_⟩
    have bk17 := bk16.fr f17 nin0 nin0 nin0
    walk_at "go"
    refine c_Lsame ⟨p1, kp, mB, mK, rfl, rfl, e17, bk17.k, bk17.pm, bk17.ks.n, bk17.ks.da, by omega, fun H18 f18 => ?_⟩
    exact k _
theorem ok_law {f : Addr} {fd : FuncData} (F : Fun K "law" "law" s_law f fd) (T : Txt K mg A) (c_Lsetup : Cal P w K mg base "_law_setup" 3 ["_law_draws"] (sp_Lsetup K A)) (c_Book_init : CalC P w K mg base "Book" A.Book 1 ["self", "rooms", "nights"] (sp_Book_init K A)) (c_Lnumbers : Cal P w K mg base "_law_numbers" 2 ["_law_script"] (sp_Lnumbers K A)) (c_Lparty : Cal P w K mg base "_law_party" 4 ["_law_draws", "_law_setup_here"] (sp_Lparty K A)) (c_Lsame : Cal P w K mg base "_law_same" 26 ["_law_told", "_law_due"] (sp_Lsame K A)) (c_Ldraw : Cal P w K mg base "_law_draw" 2 ["_law_draws"] (sp_Ldraw K A)) (c_Book_cancel : CalM P w K mg base A.Book "cancel" 1 ["self", "name"] (sp_Book_cancel K A)) (c_Book_parties : CalM P w K mg base A.Book "parties" 1 ["self"] (sp_Book_parties K A)) (c_Lchanged : Cal P w K mg base "_law_changed" 3 ["_law_setup_here", "_law_kept", "_law_name", "_law_party_here"] (sp_Lchanged K A)) (c_Book_change : CalM P w K mg base A.Book "change" 4 ["self", "name", "party"] (sp_Book_change K A)) (c_Book_wish : CalM P w K mg base A.Book "wish" 4 ["self", "name", "party"] (sp_Book_wish K A)) (c_Lequal : Cal P w K mg base "_law_equal" 25 ["_law_actual", "_law_due"] (sp_Lequal K A 12)) (c_Lfits : Cal P w K mg base "_law_fits" 2 ["_law_setup_here", "_law_kept", "_law_party_here"] (sp_Lfits K A)) (c_Book_free : CalM P w K mg base A.Book "free" 3 ["self", "kind", "night"] (sp_Book_free K A)) (c_Lneeds : Cal P w K mg base "_law_needs" 1 ["_law_party_here"] (sp_Lneeds K A)) : FnOk P w K mg base CX0 (27) f fd ["_law_script"] (sp_law K A) := by
  refine F.ok sc_law (fun vs H Q E h => ?_) (fun cdv Ar outer s H vs Q E hr h => ⟨t_law K A, ?_, ?_⟩)
  · obtain ⟨x0, rfl, _⟩ := h
    rfl
  · have hu := hu_of hr
    exact (pss_cons (ps_set (i := 1) sc_law.nd rfl (Or.inl rfl) (pe_lst (pa_cons (pe_cl c_Lnumbers (hr.mono (by first | decide | omega)) (by rfl) (pa_cons (pv 0) pa_nil)) (pa_cons pe_int pa_nil))))
    (pss_cons (ps_set (i := 2) sc_law.nd rfl (Or.inl rfl) (pe_cl c_Lsetup (hr.mono (by first | decide | omega)) (by rfl) (pa_cons (pv 1) pa_nil)))
    (pss_cons (ps_set (i := 3) sc_law.nd rfl (Or.inl rfl) (pe_mk c_Book_init (hr.mono (by first | decide | omega)) (by rfl) (pa_cons (pe_ix ix_tup (pv 2) pe_int (fun _ _ => rfl)) (pa_cons (pe_ix ix_tup (pv 2) pe_int (fun _ _ => rfl)) pa_nil))))
    (pss_cons (ps_set (i := 4) sc_law.nd rfl (Or.inr rfl) pe_dnewT)
    (pss_cons (ps_set (i := 5) sc_law.nd rfl (Or.inl rfl) (pe_lst (pa_cons pe_dnewT (pa_cons pe_dnewT pa_nil))))
    (pss_cons (ps_for PassesOwn.never rfl (pi_range1 rfl T.b_range (pa_cons (pe_op o_mod (pe_cl c_Ldraw (hr.mono (by first | decide | omega)) (by rfl) (pa_cons (pv 1) pa_nil)) pe_int) pa_nil)) (pg_name (i := 6) sc_law.nd rfl (Or.inl rfl)) (pss_cons (ps_set (i := 7) sc_law.nd rfl (Or.inl rfl) (pe_tup (pa_cons (pe_op o_mod (pe_cl c_Ldraw (hr.mono (by first | decide | omega)) (by rfl) (pa_cons (pv 1) pa_nil)) pe_int) (pa_cons (pv 6) pa_nil))))
    (pss_cons (ps_set (i := 8) sc_law.nd rfl (Or.inl rfl) (pe_cl c_Lparty (hr.mono (by first | decide | omega)) (by rfl) (pa_cons (pv 1) (pa_cons (pv 2) pa_nil))))
    (pss_cons (ps_set (i := 9) sc_law.nd rfl (Or.inl rfl) (pe_op o_mod (pe_cl c_Ldraw (hr.mono (by first | decide | omega)) (by rfl) (pa_cons (pv 1) pa_nil)) pe_int))
    (Evl.pss_cut (ps_if (PW.pt (pw_and (pt_cmpR c_gt (pv 9) pe_int (nomark _)) (pw_and (pt_cmpR c_gt (pv 6) pe_int (nomark _)) (pw_and1 (pt_cmpR op_eq (pe_op o_mod (pe_cl c_Ldraw (hr.mono (by first | decide | omega)) (by rfl) (pa_cons (pv 1) pa_nil)) pe_int) pe_int (nomark _)))))) (pss_cons (ps_set (i := 7) sc_law.nd rfl (Or.inl rfl) (pe_tup (pa_cons (pe_op o_mod (pe_cl c_Ldraw (hr.mono (by first | decide | omega)) (by rfl) (pa_cons (pv 1) pa_nil)) pe_int) (pa_cons (pe_op o_mod (pe_cl c_Ldraw (hr.mono (by first | decide | omega)) (by rfl) (pa_cons (pv 1) pa_nil)) (pv 6)) pa_nil))))
    (pss_one (ps_if (pt_cmp (pc_din hu (pv 7) (pv 4)) rfl) (pss_one (ps_set (i := 7) sc_law.nd rfl (Or.inl rfl) (pe_tup (pa_cons (pe_op o_mod (pe_cl c_Ldraw (hr.mono (by first | decide | omega)) (by rfl) (pa_cons (pv 1) pa_nil)) pe_int) (pa_cons (pv 6) pa_nil))))) pss_nil))) pss_nil)
    (Evl.pss_cut (ps_if (PW.pt (pw_and (pt_cmpR c_lt (pv 9) pe_int (nomark _)) (pw_and1 (pt_cmpR c_gt (pv 6) pe_int (nomark _))))) (pss_cons (ps_set (i := 7) sc_law.nd rfl (Or.inl rfl) (pe_tup (pa_cons (pe_op o_mod (pe_cl c_Ldraw (hr.mono (by first | decide | omega)) (by rfl) (pa_cons (pv 1) pa_nil)) pe_int) (pa_cons (pe_op o_mod (pe_cl c_Ldraw (hr.mono (by first | decide | omega)) (by rfl) (pa_cons (pv 1) pa_nil)) (pv 6)) pa_nil))))
    (pss_one (ps_if (PW.pt (pw_and (pt_cmpR c_gt (pe_callB call_len_dT (by rfl) T.b_len (by decide +kernel) (pa_cons (pv 4) pa_nil)) pe_int (nomark _)) (pw_and1 (pt_cmpR c_gt (pe_op o_mod (pe_cl c_Ldraw (hr.mono (by first | decide | omega)) (by rfl) (pa_cons (pv 1) pa_nil)) pe_int) pe_int (nomark _))))) (pss_one (ps_set (i := 7) sc_law.nd rfl (Or.inl rfl) (pe_ix ix_list (pe_callB (b_sortedDT rfl hr.units) (by rfl) T.b_sorted (by decide +kernel) (pa_cons (pv 4) pa_nil)) (pe_op o_mod (pe_cl c_Ldraw (hr.mono (by first | decide | omega)) (by rfl) (pa_cons (pv 1) pa_nil)) (pe_callB call_len_dT (by rfl) T.b_len (by decide +kernel) (pa_cons (pv 4) pa_nil))) (fun _ _ => rfl)))) pss_nil))) pss_nil)
    (Evl.pss_cut (ps_if (pt_cmpR op_eq (pv 9) pe_int (nomark _)) (pss_cons (ps_set (i := 10) sc_law.nd rfl (Or.inl rfl) (pe_cmp (pc_din hu (pv 7) (pv 4)) rfl))
    (pss_cons (ps_expr (pe_bm PySem.F.plainAttrs_dict PySem.F.slot_dict_pop PySem.F.type_dict_pop (L2.DX.mt_popT (un1 hr.units)) (pv 4) (pa_cons (pv 7) (pa_cons pe_non pa_nil))))
    (pss_one (ps_set (i := 11) sc_law.nd rfl (Or.inl rfl) (pe_mt (pv 3) T.cl_Book c_Book_cancel (hr.mono (by first | decide | omega)) (pa_cons (pv 7) pa_nil)))))) (pss_one (ps_if (pt_cmpR op_eq (pv 9) pe_int (nomark _)) (pss_cons (ps_set (i := 10) sc_law.nd rfl (Or.inl rfl) (pe_cl c_Lchanged (hr.mono (by first | decide | omega)) (by rfl) (pa_cons (pv 2) (pa_cons (pv 4) (pa_cons (pv 7) (pa_cons (pv 8) pa_nil))))))
    (pss_one (ps_set (i := 11) sc_law.nd rfl (Or.inl rfl) (pe_mt (pv 3) T.cl_Book c_Book_change (hr.mono (by first | decide | omega)) (pa_cons (pv 7) (pa_cons (pv 8) pa_nil)))))) (pss_cons (ps_set (i := 10) sc_law.nd rfl (Or.inl rfl) (pe_and (pe_cmp (pc_dnotin hu (pv 7) (pv 4)) rfl) (pe_one (pe_cl c_Lfits (hr.mono (by first | decide | omega)) (by rfl) (pa_cons (pv 2) (pa_cons (pv 4) (pa_cons (pv 8) pa_nil)))))))
    (pss_cons (ps_if (pt_val (pv 10)) (pss_one (ps_dput hu (pv 4) (pv 7) (pv 8) rfl)) pss_nil)
    (pss_one (ps_set (i := 11) sc_law.nd rfl (Or.inl rfl) (pe_mt (pv 3) T.cl_Book c_Book_wish (hr.mono (by first | decide | omega)) (pa_cons (pv 7) (pa_cons (pv 8) pa_nil))))))))))
    (pss_cons (ps_set (i := 12) sc_law.nd rfl (Or.inr rfl) (pe_op o_mod (pe_cl c_Ldraw (hr.mono (by first | decide | omega)) (by rfl) (pa_cons (pv 1) pa_nil)) (pe_callB b_len (by rfl) T.b_len (by decide +kernel) (pa_cons (pe_ix ix_tup (pv 2) pe_int (fun _ _ => rfl)) pa_nil))))
    (pss_cons (ps_set (i := 13) sc_law.nd rfl (Or.inr rfl) (pe_op o_mod (pe_cl c_Ldraw (hr.mono (by first | decide | omega)) (by rfl) (pa_cons (pv 1) pa_nil)) (pe_ix ix_tup (pv 2) pe_int (fun _ _ => rfl))))
    (pss_cons (ps_set (i := 14) sc_law.nd rfl (Or.inl rfl) (pe_callB (cr_sum rfl) (by rfl) T.b_sum (by decide +kernel) (pa_cons (pe_lock (pe_lc (own := [("_law_one", 15)]) (g := (gName 15)) (tt := tYes) rfl sc_law.nd (pi_keys (pv 4)) (blkOk_by (N := ["_law_script", "_law_draws", "_law_setup_here", "_law_book", "_law_kept", "_law_elder", "_law_k", "_law_name", "_law_party_here", "_law_pick", "_law_due", "_law_told", "_law_kind", "_law_night", "_law_taken", "_law_one"]) (sc := defScope s_law) (own := [("_law_one", 15)]) (by decide +kernel)) (fun _ _ _ _ _ => (pg_name (i := 15) sc_law.nd rfl (Or.inl rfl))) (fun _ _ _ _ _ => pts_nil) (fun _ _ _ _ _ => (pe_dget2 hu (pe_cl c_Lneeds (hr.mono (by first | decide | omega)) (by rfl) (pa_cons (pe_dget hu (pv 4) (pv 15) (fun _ _ => rfl)) pa_nil)) (pe_tup (pa_cons (pv 12) (pa_cons (pv 13) pa_nil))) pe_int ⟨rfl, rfl, rfl, rfl⟩)))) pa_nil)))
    (pss_cons (ps_if (PW.pt (pw_or (pt_not (pt_val (pe_cl c_Lequal (hr.mono (by first | decide | omega)) (by rfl) (pa_cons (pv 11) (pa_cons (pv 10) pa_nil))))) (pw_or1 (pt_not (pt_val (pe_cl c_Lequal (hr.mono (by first | decide | omega)) (by rfl) (pa_cons (pe_mt (pv 3) T.cl_Book c_Book_free (hr.mono (by first | decide | omega)) (pa_cons (pv 12) (pa_cons (pv 13) pa_nil))) (pa_cons (pe_op o_sub (pe_ix ix_tup (pe_ix ix_tup (pv 2) pe_int (fun _ _ => rfl)) (pv 12) (fun _ _ => rfl)) (pv 14)) pa_nil)))))))) (pss_one (ps_ret pe_bl)) pss_nil)
    (pss_one (ps_if (pt_cmpR op_eq (pe_op o_mod (pe_cl c_Ldraw (hr.mono (by first | decide | omega)) (by rfl) (pa_cons (pv 1) pa_nil)) pe_int) pe_int (nomark _)) (pss_cons (ps_if (PW.pt (pw_or (pt_not (pt_val (pe_cl c_Lsame (hr.mono (by first | decide | omega)) (by rfl) (pa_cons (pe_ix ix_list (pv 5) pe_int (fun _ _ => rfl)) (pa_cons (pe_ix ix_list (pv 5) pe_int (fun _ _ => rfl)) pa_nil))))) (pw_or1 (pt_not (pt_val (pe_cl c_Lsame (hr.mono (by first | decide | omega)) (by rfl) (pa_cons (pe_mt0 (pv 3) T.cl_Book c_Book_parties (hr.mono (by first | decide | omega))) (pa_cons (pv 4) pa_nil)))))))) (pss_one (ps_ret pe_bl)) pss_nil)
    (pss_cons (ps_set (i := 5) sc_law.nd rfl (Or.inl rfl) (pe_lst (pa_cons (pe_mt0 (pv 3) T.cl_Book c_Book_parties (hr.mono (by first | decide | omega))) (pa_cons (pe_callTy (b_dictC (un8 hr.units)) (by rfl) T.b_dict (by decide +kernel) (pa_cons (pv 4) pa_nil)) pa_nil))))
    (pss_one (ps_expr (pe_dclearT (pe_mt0 (pv 3) T.cl_Book c_Book_parties (hr.mono (by first | decide | omega)))))))) pss_nil)))))))))))))
    (pss_one (ps_ret (pe_and (pe_cl c_Lsame (hr.mono (by first | decide | omega)) (by rfl) (pa_cons (pe_ix ix_list (pv 5) pe_int (fun _ _ => rfl)) (pa_cons (pe_ix ix_list (pv 5) pe_int (fun _ _ => rfl)) pa_nil))) (pe_one (pe_cl c_Lsame (hr.mono (by first | decide | omega)) (by rfl) (pa_cons (pe_mt0 (pv 3) T.cl_Book c_Book_parties (hr.mono (by first | decide | omega))) (pa_cons (pv 4) pa_nil)))))))))))))
  · obtain ⟨x0, rfl, h⟩ := h
    exact pu_law T h
end
/-! ### what the top has written -/
theorem all_mk {l : PySem.W.OpenLaw} {w : World} {K : PySem.W.Frag} {h : Heap} {mg : Str → Option Value} {fa : Addr} (X : K.In h) (G : h.Ns mainGlobals mg) (hfa : mg "law" = some (.ref fa))
    {f1 : Addr} {od1 an1 : Option Addr} {sl1 : Array (Option Value)} {oc1 kV1 dc1 pm1 cd1 ct1 : Value}
    {f2 : Addr} {od2 an2 : Option Addr} {sl2 : Array (Option Value)} {oc2 kV2 dc2 pm2 cd2 ct2 : Value}
    {f3 : Addr} {od3 an3 : Option Addr} {sl3 : Array (Option Value)} {oc3 kV3 dc3 pm3 cd3 ct3 : Value}
    {f4 : Addr} {od4 an4 : Option Addr} {sl4 : Array (Option Value)} {oc4 kV4 dc4 pm4 cd4 ct4 : Value}
    {f5 : Addr} {od5 an5 : Option Addr} {sl5 : Array (Option Value)} {oc5 kV5 dc5 pm5 cd5 ct5 : Value}
    {f6 : Addr} {od6 an6 : Option Addr} {sl6 : Array (Option Value)} {oc6 kV6 dc6 pm6 cd6 ct6 : Value}
    {f7 : Addr} {od7 an7 : Option Addr} {sl7 : Array (Option Value)} {oc7 kV7 dc7 pm7 cd7 ct7 : Value}
    {f8 : Addr} {od8 an8 : Option Addr} {sl8 : Array (Option Value)} {oc8 kV8 dc8 pm8 cd8 ct8 : Value}
    {f9 : Addr} {od9 an9 : Option Addr} {sl9 : Array (Option Value)} {oc9 kV9 dc9 pm9 cd9 ct9 : Value}
    {f10 : Addr} {od10 an10 : Option Addr} {sl10 : Array (Option Value)} {oc10 kV10 dc10 pm10 cd10 ct10 : Value}
    {f11 : Addr} {od11 an11 : Option Addr} {sl11 : Array (Option Value)} {oc11 kV11 dc11 pm11 cd11 ct11 : Value}
    {f12 : Addr} {od12 an12 : Option Addr} {sl12 : Array (Option Value)} {oc12 kV12 dc12 pm12 cd12 ct12 : Value}
    {f13 : Addr} {od13 an13 : Option Addr} {sl13 : Array (Option Value)} {oc13 kV13 dc13 pm13 cd13 ct13 : Value}
    {f14 : Addr} {od14 an14 : Option Addr} {sl14 : Array (Option Value)} {oc14 kV14 dc14 pm14 cd14 ct14 : Value}
    {f15 : Addr} {od15 an15 : Option Addr} {sl15 : Array (Option Value)} {oc15 kV15 dc15 pm15 cd15 ct15 : Value}
    {f16 : Addr} {od16 an16 : Option Addr} {sl16 : Array (Option Value)} {oc16 kV16 dc16 pm16 cd16 ct16 : Value}
    {f17 : Addr} {od17 an17 : Option Addr} {sl17 : Array (Option Value)} {oc17 kV17 dc17 pm17 cd17 ct17 : Value}
    {f18 : Addr} {od18 an18 : Option Addr} {sl18 : Array (Option Value)} {oc18 kV18 dc18 pm18 cd18 ct18 : Value}
    {f19 : Addr} {od19 an19 : Option Addr} {sl19 : Array (Option Value)} {oc19 kV19 dc19 pm19 cd19 ct19 : Value}
    {f20 : Addr} {od20 an20 : Option Addr} {sl20 : Array (Option Value)} {oc20 kV20 dc20 pm20 cd20 ct20 : Value}
    {f21 : Addr} {od21 an21 : Option Addr} {sl21 : Array (Option Value)} {oc21 kV21 dc21 pm21 cd21 ct21 : Value}
    {f22 : Addr} {od22 an22 : Option Addr} {sl22 : Array (Option Value)} {oc22 kV22 dc22 pm22 cd22 ct22 : Value}
    {C_Book : Addr}
    (aC_Book : PySem.W.nsIn K mainGlobals "Book" = some (some (.ref C_Book)))
    (a1 : PySem.W.nsIn K mainGlobals "nights_of" = some (some (.ref f1)))
    (l1 : K.lookup f1 = some ⟨oc1, od1, .func (PySem.W.fnOf "nights_of" "nights_of" (defArgs s_nights_of) (defBody s_nights_of) (defScope s_nights_of) .none kV1 dc1 pm1 an1 cd1 ct1), sl1⟩)
    (c1 : PySem.W.codeIn K cd1 "nights_of" = true)
    (k1 : PySem.W.keepIn K (.ref f1) = true)
    (a2 : PySem.W.nsIn K mainGlobals "needs_of" = some (some (.ref f2)))
    (l2 : K.lookup f2 = some ⟨oc2, od2, .func (PySem.W.fnOf "needs_of" "needs_of" (defArgs s_needs_of) (defBody s_needs_of) (defScope s_needs_of) .none kV2 dc2 pm2 an2 cd2 ct2), sl2⟩)
    (c2 : PySem.W.codeIn K cd2 "needs_of" = true)
    (k2 : PySem.W.keepIn K (.ref f2) = true)
    (a3 : PySem.W.findIn K (.ref C_Book) "__init__" = some (some (.ref f3)))
    (i3 : PySem.W.isFn K (.ref f3) = true)
    (l3 : K.lookup f3 = some ⟨oc3, od3, .func (PySem.W.fnOf "__init__" "Book.__init__" (defArgs s_Book_init) (defBody s_Book_init) (defScope s_Book_init) .none kV3 dc3 pm3 an3 cd3 ct3), sl3⟩)
    (c3 : PySem.W.codeIn K cd3 "Book.__init__" = true)
    (k3 : PySem.W.keepIn K (.ref f3) = true)
    (a4 : PySem.W.findIn K (.ref C_Book) "free" = some (some (.ref f4)))
    (i4 : PySem.W.isFn K (.ref f4) = true)
    (l4 : K.lookup f4 = some ⟨oc4, od4, .func (PySem.W.fnOf "free" "Book.free" (defArgs s_Book_free) (defBody s_Book_free) (defScope s_Book_free) .none kV4 dc4 pm4 an4 cd4 ct4), sl4⟩)
    (c4 : PySem.W.codeIn K cd4 "Book.free" = true)
    (k4 : PySem.W.keepIn K (.ref f4) = true)
    (a5 : PySem.W.findIn K (.ref C_Book) "fits" = some (some (.ref f5)))
    (i5 : PySem.W.isFn K (.ref f5) = true)
    (l5 : K.lookup f5 = some ⟨oc5, od5, .func (PySem.W.fnOf "fits" "Book.fits" (defArgs s_Book_fits) (defBody s_Book_fits) (defScope s_Book_fits) .none kV5 dc5 pm5 an5 cd5 ct5), sl5⟩)
    (c5 : PySem.W.codeIn K cd5 "Book.fits" = true)
    (k5 : PySem.W.keepIn K (.ref f5) = true)
    (a6 : PySem.W.findIn K (.ref C_Book) "wish" = some (some (.ref f6)))
    (i6 : PySem.W.isFn K (.ref f6) = true)
    (l6 : K.lookup f6 = some ⟨oc6, od6, .func (PySem.W.fnOf "wish" "Book.wish" (defArgs s_Book_wish) (defBody s_Book_wish) (defScope s_Book_wish) .none kV6 dc6 pm6 an6 cd6 ct6), sl6⟩)
    (c6 : PySem.W.codeIn K cd6 "Book.wish" = true)
    (k6 : PySem.W.keepIn K (.ref f6) = true)
    (a7 : PySem.W.findIn K (.ref C_Book) "cancel" = some (some (.ref f7)))
    (i7 : PySem.W.isFn K (.ref f7) = true)
    (l7 : K.lookup f7 = some ⟨oc7, od7, .func (PySem.W.fnOf "cancel" "Book.cancel" (defArgs s_Book_cancel) (defBody s_Book_cancel) (defScope s_Book_cancel) .none kV7 dc7 pm7 an7 cd7 ct7), sl7⟩)
    (c7 : PySem.W.codeIn K cd7 "Book.cancel" = true)
    (k7 : PySem.W.keepIn K (.ref f7) = true)
    (a8 : PySem.W.findIn K (.ref C_Book) "change" = some (some (.ref f8)))
    (i8 : PySem.W.isFn K (.ref f8) = true)
    (l8 : K.lookup f8 = some ⟨oc8, od8, .func (PySem.W.fnOf "change" "Book.change" (defArgs s_Book_change) (defBody s_Book_change) (defScope s_Book_change) .none kV8 dc8 pm8 an8 cd8 ct8), sl8⟩)
    (c8 : PySem.W.codeIn K cd8 "Book.change" = true)
    (k8 : PySem.W.keepIn K (.ref f8) = true)
    (a9 : PySem.W.findIn K (.ref C_Book) "parties" = some (some (.ref f9)))
    (i9 : PySem.W.isFn K (.ref f9) = true)
    (l9 : K.lookup f9 = some ⟨oc9, od9, .func (PySem.W.fnOf "parties" "Book.parties" (defArgs s_Book_parties) (defBody s_Book_parties) (defScope s_Book_parties) .none kV9 dc9 pm9 an9 cd9 ct9), sl9⟩)
    (c9 : PySem.W.codeIn K cd9 "Book.parties" = true)
    (k9 : PySem.W.keepIn K (.ref f9) = true)
    (a10 : PySem.W.nsIn K mainGlobals "_law_mixed" = some (some (.ref f10)))
    (l10 : K.lookup f10 = some ⟨oc10, od10, .func (PySem.W.fnOf "_law_mixed" "_law_mixed" (defArgs s_Lmixed) (defBody s_Lmixed) (defScope s_Lmixed) .none kV10 dc10 pm10 an10 cd10 ct10), sl10⟩)
    (c10 : PySem.W.codeIn K cd10 "_law_mixed" = true)
    (k10 : PySem.W.keepIn K (.ref f10) = true)
    (a11 : PySem.W.nsIn K mainGlobals "_law_numbers" = some (some (.ref f11)))
    (l11 : K.lookup f11 = some ⟨oc11, od11, .func (PySem.W.fnOf "_law_numbers" "_law_numbers" (defArgs s_Lnumbers) (defBody s_Lnumbers) (defScope s_Lnumbers) .none kV11 dc11 pm11 an11 cd11 ct11), sl11⟩)
    (c11 : PySem.W.codeIn K cd11 "_law_numbers" = true)
    (k11 : PySem.W.keepIn K (.ref f11) = true)
    (a12 : PySem.W.nsIn K mainGlobals "_law_draw" = some (some (.ref f12)))
    (l12 : K.lookup f12 = some ⟨oc12, od12, .func (PySem.W.fnOf "_law_draw" "_law_draw" (defArgs s_Ldraw) (defBody s_Ldraw) (defScope s_Ldraw) .none kV12 dc12 pm12 an12 cd12 ct12), sl12⟩)
    (c12 : PySem.W.codeIn K cd12 "_law_draw" = true)
    (k12 : PySem.W.keepIn K (.ref f12) = true)
    (a13 : PySem.W.nsIn K mainGlobals "_law_equal" = some (some (.ref f13)))
    (l13 : K.lookup f13 = some ⟨oc13, od13, .func (PySem.W.fnOf "_law_equal" "_law_equal" (defArgs s_Lequal) (defBody s_Lequal) (defScope s_Lequal) .none kV13 dc13 pm13 an13 cd13 ct13), sl13⟩)
    (c13 : PySem.W.codeIn K cd13 "_law_equal" = true)
    (k13 : PySem.W.keepIn K (.ref f13) = true)
    (a14 : PySem.W.nsIn K mainGlobals "_law_all_equal" = some (some (.ref f14)))
    (l14 : K.lookup f14 = some ⟨oc14, od14, .func (PySem.W.fnOf "_law_all_equal" "_law_all_equal" (defArgs s_Lall_equal) (defBody s_Lall_equal) (defScope s_Lall_equal) .none kV14 dc14 pm14 an14 cd14 ct14), sl14⟩)
    (c14 : PySem.W.codeIn K cd14 "_law_all_equal" = true)
    (k14 : PySem.W.keepIn K (.ref f14) = true)
    (a15 : PySem.W.nsIn K mainGlobals "_law_setup" = some (some (.ref f15)))
    (l15 : K.lookup f15 = some ⟨oc15, od15, .func (PySem.W.fnOf "_law_setup" "_law_setup" (defArgs s_Lsetup) (defBody s_Lsetup) (defScope s_Lsetup) .none kV15 dc15 pm15 an15 cd15 ct15), sl15⟩)
    (c15 : PySem.W.codeIn K cd15 "_law_setup" = true)
    (k15 : PySem.W.keepIn K (.ref f15) = true)
    (a16 : PySem.W.nsIn K mainGlobals "_law_stay" = some (some (.ref f16)))
    (l16 : K.lookup f16 = some ⟨oc16, od16, .func (PySem.W.fnOf "_law_stay" "_law_stay" (defArgs s_Lstay) (defBody s_Lstay) (defScope s_Lstay) .none kV16 dc16 pm16 an16 cd16 ct16), sl16⟩)
    (c16 : PySem.W.codeIn K cd16 "_law_stay" = true)
    (k16 : PySem.W.keepIn K (.ref f16) = true)
    (a17 : PySem.W.nsIn K mainGlobals "_law_party" = some (some (.ref f17)))
    (l17 : K.lookup f17 = some ⟨oc17, od17, .func (PySem.W.fnOf "_law_party" "_law_party" (defArgs s_Lparty) (defBody s_Lparty) (defScope s_Lparty) .none kV17 dc17 pm17 an17 cd17 ct17), sl17⟩)
    (c17 : PySem.W.codeIn K cd17 "_law_party" = true)
    (k17 : PySem.W.keepIn K (.ref f17) = true)
    (a18 : PySem.W.nsIn K mainGlobals "_law_needs" = some (some (.ref f18)))
    (l18 : K.lookup f18 = some ⟨oc18, od18, .func (PySem.W.fnOf "_law_needs" "_law_needs" (defArgs s_Lneeds) (defBody s_Lneeds) (defScope s_Lneeds) .none kV18 dc18 pm18 an18 cd18 ct18), sl18⟩)
    (c18 : PySem.W.codeIn K cd18 "_law_needs" = true)
    (k18 : PySem.W.keepIn K (.ref f18) = true)
    (a19 : PySem.W.nsIn K mainGlobals "_law_fits" = some (some (.ref f19)))
    (l19 : K.lookup f19 = some ⟨oc19, od19, .func (PySem.W.fnOf "_law_fits" "_law_fits" (defArgs s_Lfits) (defBody s_Lfits) (defScope s_Lfits) .none kV19 dc19 pm19 an19 cd19 ct19), sl19⟩)
    (c19 : PySem.W.codeIn K cd19 "_law_fits" = true)
    (k19 : PySem.W.keepIn K (.ref f19) = true)
    (a20 : PySem.W.nsIn K mainGlobals "_law_changed" = some (some (.ref f20)))
    (l20 : K.lookup f20 = some ⟨oc20, od20, .func (PySem.W.fnOf "_law_changed" "_law_changed" (defArgs s_Lchanged) (defBody s_Lchanged) (defScope s_Lchanged) .none kV20 dc20 pm20 an20 cd20 ct20), sl20⟩)
    (c20 : PySem.W.codeIn K cd20 "_law_changed" = true)
    (k20 : PySem.W.keepIn K (.ref f20) = true)
    (a21 : PySem.W.nsIn K mainGlobals "_law_same" = some (some (.ref f21)))
    (l21 : K.lookup f21 = some ⟨oc21, od21, .func (PySem.W.fnOf "_law_same" "_law_same" (defArgs s_Lsame) (defBody s_Lsame) (defScope s_Lsame) .none kV21 dc21 pm21 an21 cd21 ct21), sl21⟩)
    (c21 : PySem.W.codeIn K cd21 "_law_same" = true)
    (k21 : PySem.W.keepIn K (.ref f21) = true)
    (a22 : PySem.W.nsIn K mainGlobals "law" = some (some (.ref f22)))
    (l22 : K.lookup f22 = some ⟨oc22, od22, .func (PySem.W.fnOf "law" "law" (defArgs s_law) (defBody s_law) (defScope s_law) .none kV22 dc22 pm22 an22 cd22 ct22), sl22⟩)
    (c22 : PySem.W.codeIn K cd22 "law" = true)
    (k22 : PySem.W.keepIn K (.ref f22) = true)
    (pg_Book : PySem.W.plainGet K C_Book Str.empty = true)
    (hd_Book : PySem.W.hasDictIn K C_Book = true)
    (po_Book : PySem.W.plainOver K C_Book = true)
    (sa_Book : PySem.W.findIn K (.ref C_Book) "__setattr__" = some (some (.builtin "object.__setattr__")))
    (mk_Book : PySem.W.makesIn K C_Book = true)
    (kc_Book : PySem.W.keepIn K (.ref C_Book) = true)
    (no_Book_rooms : PySem.W.findIn K (.ref C_Book) "rooms" = some none)
    (no_Book_nights : PySem.W.findIn K (.ref C_Book) "nights" = some none)
    (no_Book_kept : PySem.W.findIn K (.ref C_Book) "kept" = some none)
    (z_list : PySem.W.nsIn K mainGlobals "list" = some none)
    (z_range : PySem.W.nsIn K mainGlobals "range" = some none)
    (z_all : PySem.W.nsIn K mainGlobals "all" = some none)
    (z_dict : PySem.W.nsIn K mainGlobals "dict" = some none)
    (z_len : PySem.W.nsIn K mainGlobals "len" = some none)
    (z_isinstance : PySem.W.nsIn K mainGlobals "isinstance" = some none)
    (z_tuple : PySem.W.nsIn K mainGlobals "tuple" = some none)
    (z_bool : PySem.W.nsIn K mainGlobals "bool" = some none)
    (z_int : PySem.W.nsIn K mainGlobals "int" = some none)
    (z_str : PySem.W.nsIn K mainGlobals "str" = some none)
    (z_min : PySem.W.nsIn K mainGlobals "min" = some none)
    (z_sorted : PySem.W.nsIn K mainGlobals "sorted" = some none)
    (z_sum : PySem.W.nsIn K mainGlobals "sum" = some none)
    : ∃ fd : FuncData, (∀ (s : Shared) (v : Value), BindsTo s fd ⟨[v], []⟩ [("_law_script", v)]) ∧ ∀ base : Heap, K.In base → base.Ns mainGlobals mg → FnOk l.prog w K mg base CX0 27 fa fd ["_law_script"] (spLaw K) := by
  have e := hfa.symm.trans (PySem.W.mg_of X G a22)
  cases e
  let A : Ad := ⟨C_Book⟩
  have T : Txt K mg A := { b_list := PySem.W.mg_none_of X G z_list, b_range := PySem.W.mg_none_of X G z_range, b_all := PySem.W.mg_none_of X G z_all, b_dict := PySem.W.mg_none_of X G z_dict, b_len := PySem.W.mg_none_of X G z_len, b_isinstance := PySem.W.mg_none_of X G z_isinstance, b_tuple := PySem.W.mg_none_of X G z_tuple, b_bool := PySem.W.mg_none_of X G z_bool, b_int := PySem.W.mg_none_of X G z_int, b_str := PySem.W.mg_none_of X G z_str, b_min := PySem.W.mg_none_of X G z_min, b_sorted := PySem.W.mg_none_of X G z_sorted, b_sum := PySem.W.mg_none_of X G z_sum, cl_Book := ⟨pg_Book, hd_Book, po_Book, sa_Book⟩, no_Book_rooms := no_Book_rooms, no_Book_nights := no_Book_nights, no_Book_kept := no_Book_kept }
  have F1 := fun_mk (st := s_nights_of) l1 c1 k1
  have b1 := F1.binds (ps := ["stay"]) fun _ _ _ _ _ _ us hl => match us, hl with | [_], _ => rfl
  have F2 := fun_mk (st := s_needs_of) l2 c2 k2
  have b2 := F2.binds (ps := ["party"]) fun _ _ _ _ _ _ us hl => match us, hl with | [_], _ => rfl
  have F3 := fun_mk (st := s_Book_init) l3 c3 k3
  have b3 := F3.binds (ps := ["self", "rooms", "nights"]) fun _ _ _ _ _ _ us hl => match us, hl with | [_, _, _], _ => rfl
  have F4 := fun_mk (st := s_Book_free) l4 c4 k4
  have b4 := F4.binds (ps := ["self", "kind", "night"]) fun _ _ _ _ _ _ us hl => match us, hl with | [_, _, _], _ => rfl
  have F5 := fun_mk (st := s_Book_fits) l5 c5 k5
  have b5 := F5.binds (ps := ["self", "party"]) fun _ _ _ _ _ _ us hl => match us, hl with | [_, _], _ => rfl
  have F6 := fun_mk (st := s_Book_wish) l6 c6 k6
  have b6 := F6.binds (ps := ["self", "name", "party"]) fun _ _ _ _ _ _ us hl => match us, hl with | [_, _, _], _ => rfl
  have F7 := fun_mk (st := s_Book_cancel) l7 c7 k7
  have b7 := F7.binds (ps := ["self", "name"]) fun _ _ _ _ _ _ us hl => match us, hl with | [_, _], _ => rfl
  have F8 := fun_mk (st := s_Book_change) l8 c8 k8
  have b8 := F8.binds (ps := ["self", "name", "party"]) fun _ _ _ _ _ _ us hl => match us, hl with | [_, _, _], _ => rfl
  have F9 := fun_mk (st := s_Book_parties) l9 c9 k9
  have b9 := F9.binds (ps := ["self"]) fun _ _ _ _ _ _ us hl => match us, hl with | [_], _ => rfl
  have F10 := fun_mk (st := s_Lmixed) l10 c10 k10
  have b10 := F10.binds (ps := ["_law_number", "_law_k"]) fun _ _ _ _ _ _ us hl => match us, hl with | [_, _], _ => rfl
  have F11 := fun_mk (st := s_Lnumbers) l11 c11 k11
  have b11 := F11.binds (ps := ["_law_script"]) fun _ _ _ _ _ _ us hl => match us, hl with | [_], _ => rfl
  have F12 := fun_mk (st := s_Ldraw) l12 c12 k12
  have b12 := F12.binds (ps := ["_law_draws"]) fun _ _ _ _ _ _ us hl => match us, hl with | [_], _ => rfl
  have F13 := fun_mk (st := s_Lequal) l13 c13 k13
  have b13 := F13.binds (ps := ["_law_actual", "_law_due"]) fun _ _ _ _ _ _ us hl => match us, hl with | [_, _], _ => rfl
  have F14 := fun_mk (st := s_Lall_equal) l14 c14 k14
  have b14 := F14.binds (ps := ["_law_actual", "_law_due"]) fun _ _ _ _ _ _ us hl => match us, hl with | [_, _], _ => rfl
  have F15 := fun_mk (st := s_Lsetup) l15 c15 k15
  have b15 := F15.binds (ps := ["_law_draws"]) fun _ _ _ _ _ _ us hl => match us, hl with | [_], _ => rfl
  have F16 := fun_mk (st := s_Lstay) l16 c16 k16
  have b16 := F16.binds (ps := ["_law_draws", "_law_setup_here"]) fun _ _ _ _ _ _ us hl => match us, hl with | [_, _], _ => rfl
  have F17 := fun_mk (st := s_Lparty) l17 c17 k17
  have b17 := F17.binds (ps := ["_law_draws", "_law_setup_here"]) fun _ _ _ _ _ _ us hl => match us, hl with | [_, _], _ => rfl
  have F18 := fun_mk (st := s_Lneeds) l18 c18 k18
  have b18 := F18.binds (ps := ["_law_party_here"]) fun _ _ _ _ _ _ us hl => match us, hl with | [_], _ => rfl
  have F19 := fun_mk (st := s_Lfits) l19 c19 k19
  have b19 := F19.binds (ps := ["_law_setup_here", "_law_kept", "_law_party_here"]) fun _ _ _ _ _ _ us hl => match us, hl with | [_, _, _], _ => rfl
  have F20 := fun_mk (st := s_Lchanged) l20 c20 k20
  have b20 := F20.binds (ps := ["_law_setup_here", "_law_kept", "_law_name", "_law_party_here"]) fun _ _ _ _ _ _ us hl => match us, hl with | [_, _, _, _], _ => rfl
  have F21 := fun_mk (st := s_Lsame) l21 c21 k21
  have b21 := F21.binds (ps := ["_law_told", "_law_due"]) fun _ _ _ _ _ _ us hl => match us, hl with | [_, _], _ => rfl
  have F22 := fun_mk (st := s_law) l22 c22 k22
  have b22 := F22.binds (ps := ["_law_script"]) fun _ _ _ _ _ _ us hl => match us, hl with | [_], _ => rfl
  refine ⟨PySem.W.fnOf "law" "law" (defArgs s_law) (defBody s_law) (defScope s_law) .none kV22 dc22 pm22 an22 cd22 ct22, fun s v => .of_eq rfl, fun base _ _ => ?_⟩
  have o_nights_of := ok_nights_of (P := l.prog) (w := w) (base := base) F1 T 
  have e_nights_of : Cal l.prog w K mg base "nights_of" 1 ["stay"] (sp_nights_of K A) := ⟨⟨_, _, o_nights_of, PySem.W.mg_of X G a1, k1, b1⟩⟩
  have o_needs_of := ok_needs_of (P := l.prog) (w := w) (base := base) F2 T e_nights_of
  have e_needs_of : Cal l.prog w K mg base "needs_of" 2 ["party"] (sp_needs_of K A) := ⟨⟨_, _, o_needs_of, PySem.W.mg_of X G a2, k2, b2⟩⟩
  have o_Book_init := ok_Book_init (P := l.prog) (w := w) (base := base) F3 T 
  have e_Book_init : CalC l.prog w K mg base "Book" A.Book 1 ["self", "rooms", "nights"] (sp_Book_init K A) := ⟨⟨_, _, o_Book_init, ⟨mk_Book, a3, i3, kc_Book⟩, PySem.W.mg_of X G aC_Book, b3⟩⟩
  have o_Book_free := ok_Book_free (P := l.prog) (w := w) (base := base) F4 T e_needs_of
  have e_Book_free : CalM l.prog w K mg base A.Book "free" 3 ["self", "kind", "night"] (sp_Book_free K A) := ⟨⟨_, _, o_Book_free, ⟨a4, i4, k4⟩, b4⟩⟩
  have o_Book_fits := ok_Book_fits (P := l.prog) (w := w) (base := base) F5 T e_needs_of
  have e_Book_fits : CalM l.prog w K mg base A.Book "fits" 3 ["self", "party"] (sp_Book_fits K A) := ⟨⟨_, _, o_Book_fits, ⟨a5, i5, k5⟩, b5⟩⟩
  have o_Book_wish := ok_Book_wish (P := l.prog) (w := w) (base := base) F6 T e_Book_fits
  have e_Book_wish : CalM l.prog w K mg base A.Book "wish" 4 ["self", "name", "party"] (sp_Book_wish K A) := ⟨⟨_, _, o_Book_wish, ⟨a6, i6, k6⟩, b6⟩⟩
  have o_Book_cancel := ok_Book_cancel (P := l.prog) (w := w) (base := base) F7 T 
  have e_Book_cancel : CalM l.prog w K mg base A.Book "cancel" 1 ["self", "name"] (sp_Book_cancel K A) := ⟨⟨_, _, o_Book_cancel, ⟨a7, i7, k7⟩, b7⟩⟩
  have o_Book_change := ok_Book_change (P := l.prog) (w := w) (base := base) F8 T e_Book_fits
  have e_Book_change : CalM l.prog w K mg base A.Book "change" 4 ["self", "name", "party"] (sp_Book_change K A) := ⟨⟨_, _, o_Book_change, ⟨a8, i8, k8⟩, b8⟩⟩
  have o_Book_parties := ok_Book_parties (P := l.prog) (w := w) (base := base) F9 T 
  have e_Book_parties : CalM l.prog w K mg base A.Book "parties" 1 ["self"] (sp_Book_parties K A) := ⟨⟨_, _, o_Book_parties, ⟨a9, i9, k9⟩, b9⟩⟩
  have o_Lmixed := ok_Lmixed (P := l.prog) (w := w) (base := base) F10 T 
  have e_Lmixed : Cal l.prog w K mg base "_law_mixed" 1 ["_law_number", "_law_k"] (sp_Lmixed K A) := ⟨⟨_, _, o_Lmixed, PySem.W.mg_of X G a10, k10, b10⟩⟩
  have o_Lnumbers := ok_Lnumbers (P := l.prog) (w := w) (base := base) F11 T e_Lmixed
  have e_Lnumbers : Cal l.prog w K mg base "_law_numbers" 2 ["_law_script"] (sp_Lnumbers K A) := ⟨⟨_, _, o_Lnumbers, PySem.W.mg_of X G a11, k11, b11⟩⟩
  have o_Ldraw := ok_Ldraw (P := l.prog) (w := w) (base := base) F12 T e_Lmixed
  have e_Ldraw : Cal l.prog w K mg base "_law_draw" 2 ["_law_draws"] (sp_Ldraw K A) := ⟨⟨_, _, o_Ldraw, PySem.W.mg_of X G a12, k12, b12⟩⟩
  have e_Lequal : Cal l.prog w K mg base "_law_equal" 25 ["_law_actual", "_law_due"] (sp_Lequal K A 12) := eq_one (P := l.prog) (w := w) (base := base) F13 T (PySem.W.mg_of X G a13) b13 F14 (PySem.W.mg_of X G a14) b14 12
  have e_Lall_equal : Cal l.prog w K mg base "_law_all_equal" 24 ["_law_actual", "_law_due"] (sp_Lall_equal K A 12) := eq_all (P := l.prog) (w := w) (base := base) F13 T (PySem.W.mg_of X G a13) b13 F14 (PySem.W.mg_of X G a14) b14 12
  have o_Lsetup := ok_Lsetup (P := l.prog) (w := w) (base := base) F15 T e_Ldraw
  have e_Lsetup : Cal l.prog w K mg base "_law_setup" 3 ["_law_draws"] (sp_Lsetup K A) := ⟨⟨_, _, o_Lsetup, PySem.W.mg_of X G a15, k15, b15⟩⟩
  have o_Lstay := ok_Lstay (P := l.prog) (w := w) (base := base) F16 T e_Ldraw
  have e_Lstay : Cal l.prog w K mg base "_law_stay" 3 ["_law_draws", "_law_setup_here"] (sp_Lstay K A) := ⟨⟨_, _, o_Lstay, PySem.W.mg_of X G a16, k16, b16⟩⟩
  have o_Lparty := ok_Lparty (P := l.prog) (w := w) (base := base) F17 T e_Lstay e_Ldraw
  have e_Lparty : Cal l.prog w K mg base "_law_party" 4 ["_law_draws", "_law_setup_here"] (sp_Lparty K A) := ⟨⟨_, _, o_Lparty, PySem.W.mg_of X G a17, k17, b17⟩⟩
  have o_Lneeds := ok_Lneeds (P := l.prog) (w := w) (base := base) F18 T 
  have e_Lneeds : Cal l.prog w K mg base "_law_needs" 1 ["_law_party_here"] (sp_Lneeds K A) := ⟨⟨_, _, o_Lneeds, PySem.W.mg_of X G a18, k18, b18⟩⟩
  have o_Lfits := ok_Lfits (P := l.prog) (w := w) (base := base) F19 T e_Lneeds
  have e_Lfits : Cal l.prog w K mg base "_law_fits" 2 ["_law_setup_here", "_law_kept", "_law_party_here"] (sp_Lfits K A) := ⟨⟨_, _, o_Lfits, PySem.W.mg_of X G a19, k19, b19⟩⟩
  have o_Lchanged := ok_Lchanged (P := l.prog) (w := w) (base := base) F20 T e_Lfits
  have e_Lchanged : Cal l.prog w K mg base "_law_changed" 3 ["_law_setup_here", "_law_kept", "_law_name", "_law_party_here"] (sp_Lchanged K A) := ⟨⟨_, _, o_Lchanged, PySem.W.mg_of X G a20, k20, b20⟩⟩
  have o_Lsame := ok_Lsame (P := l.prog) (w := w) (base := base) F21 T e_Lequal
  have e_Lsame : Cal l.prog w K mg base "_law_same" 26 ["_law_told", "_law_due"] (sp_Lsame K A) := ⟨⟨_, _, o_Lsame, PySem.W.mg_of X G a21, k21, b21⟩⟩
  exact (ok_law F22 T e_Lsetup e_Book_init e_Lnumbers e_Lparty e_Lsame e_Ldraw e_Book_cancel e_Book_parties e_Lchanged e_Book_change e_Book_wish e_Lequal e_Lfits e_Book_free e_Lneeds).imp fun vs H Q E h => h
theorem walk {l : PySem.W.OpenLaw} {q : Program} {loose : List Str} {XP : (Str → Option Value) → Heap → Prop} {YP : World → Heap → Prop} {d : DefRec} {K : Params → PySem.W.Frag} (hn : l.most = some 63) (hdf : d.params.defaults = [])
    (hY : ∀ (w : World) (h : Heap), YP w h → (K w.params).In h)
    (F : ∀ (w : World) (mg : Str → Option Value) (fa : Addr) (h : Heap), (K w.params).In h → h.Ns mainGlobals mg → mg d.name = some (.ref fa) →
      ∃ fd : FuncData, (∀ (s : Shared) (u : Value), BindsTo s fd ⟨[u], []⟩ [("_law_script", u)]) ∧ ∀ base : Heap, (K w.params).In base → base.Ns mainGlobals mg → FnOk l.prog w (K w.params) mg base CX0 27 fa fd ["_law_script"] (spLaw (K w.params))) :
    PySem.W.WalkO q loose XP YP l.row.toRowW d [] (fun f vs => PySem.call f vs) :=
  L2.walk_of (n := 63) (k := 27) (x := "_law_script") (CX := fun _ => CX0) (sp := fun w => spLaw (K w.params)) hn (by decide) hdf ⟨rfl, by decide, by decide⟩ hY F (fun _ _ a ns hl _ hS => ⟨_, rfl, a, ns, rfl, hS, hl, fun _ => rfl⟩) fun _ _ _ _ _ z => z
end Toy
open PySem PySem.W PyProof.Rows in
set_option maxRecDepth 100000 in
set_option maxHeartbeats 0 in
theorem PySem.Challenge.cw_manydoors_k04_plain_books_holds : PySem.Challenge.rw_manydoors_k04_plain_books.Holds := by
  w_on; o_law; k_head; (case hw => w_witness2)
  k_fill
  refine Toy.walk (l := PySem.Challenge.rw_manydoors_k04_plain_books) rfl rfl (fun w h Y => PySem.W.kIn_of Y) ?F
  case F =>
    intro w mg fa h KX G hmg
    refine' Toy.all_mk KX G hmg ?aC_Book ?a1 ?l1 ?c1 ?k1 ?a2 ?l2 ?c2 ?k2 ?a3 ?i3 ?l3 ?c3 ?k3 ?a4 ?i4 ?l4 ?c4 ?k4 ?a5 ?i5 ?l5 ?c5 ?k5 ?a6 ?i6 ?l6 ?c6 ?k6 ?a7 ?i7 ?l7 ?c7 ?k7 ?a8 ?i8 ?l8 ?c8 ?k8 ?a9 ?i9 ?l9 ?c9 ?k9 ?a10 ?l10 ?c10 ?k10 ?a11 ?l11 ?c11 ?k11 ?a12 ?l12 ?c12 ?k12 ?a13 ?l13 ?c13 ?k13 ?a14 ?l14 ?c14 ?k14 ?a15 ?l15 ?c15 ?k15 ?a16 ?l16 ?c16 ?k16 ?a17 ?l17 ?c17 ?k17 ?a18 ?l18 ?c18 ?k18 ?a19 ?l19 ?c19 ?k19 ?a20 ?l20 ?c20 ?k20 ?a21 ?l21 ?c21 ?k21 ?a22 ?l22 ?c22 ?k22 ?pg_Book ?hd_Book ?po_Book ?sa_Book ?mk_Book ?kc_Book ?no_Book_rooms ?no_Book_nights ?no_Book_kept ?z_list ?z_range ?z_all ?z_dict ?z_len ?z_isinstance ?z_tuple ?z_bool ?z_int ?z_str ?z_min ?z_sorted ?z_sum
    (case aC_Book => k_is)
    (case a1 => k_is)
    (case l1 => k_is)
    (case c1 => k_is)
    (case k1 => k_is)
    (case a2 => k_is)
    (case l2 => k_is)
    (case c2 => k_is)
    (case k2 => k_is)
    (case a3 => k_is)
    (case i3 => k_is)
    (case l3 => k_is)
    (case c3 => k_is)
    (case k3 => k_is)
    (case a4 => k_is)
    (case i4 => k_is)
    (case l4 => k_is)
    (case c4 => k_is)
    (case k4 => k_is)
    (case a5 => k_is)
    (case i5 => k_is)
    (case l5 => k_is)
    (case c5 => k_is)
    (case k5 => k_is)
    (case a6 => k_is)
    (case i6 => k_is)
    (case l6 => k_is)
    (case c6 => k_is)
    (case k6 => k_is)
    (case a7 => k_is)
    (case i7 => k_is)
    (case l7 => k_is)
    (case c7 => k_is)
    (case k7 => k_is)
    (case a8 => k_is)
    (case i8 => k_is)
    (case l8 => k_is)
    (case c8 => k_is)
    (case k8 => k_is)
    (case a9 => k_is)
    (case i9 => k_is)
    (case l9 => k_is)
    (case c9 => k_is)
    (case k9 => k_is)
    (case a10 => k_is)
    (case l10 => k_is)
    (case c10 => k_is)
    (case k10 => k_is)
    (case a11 => k_is)
    (case l11 => k_is)
    (case c11 => k_is)
    (case k11 => k_is)
    (case a12 => k_is)
    (case l12 => k_is)
    (case c12 => k_is)
    (case k12 => k_is)
    (case a13 => k_is)
    (case l13 => k_is)
    (case c13 => k_is)
    (case k13 => k_is)
    (case a14 => k_is)
    (case l14 => k_is)
    (case c14 => k_is)
    (case k14 => k_is)
    (case a15 => k_is)
    (case l15 => k_is)
    (case c15 => k_is)
    (case k15 => k_is)
    (case a16 => k_is)
    (case l16 => k_is)
    (case c16 => k_is)
    (case k16 => k_is)
    (case a17 => k_is)
    (case l17 => k_is)
    (case c17 => k_is)
    (case k17 => k_is)
    (case a18 => k_is)
    (case l18 => k_is)
    (case c18 => k_is)
    (case k18 => k_is)
    (case a19 => k_is)
    (case l19 => k_is)
    (case c19 => k_is)
    (case k19 => k_is)
    (case a20 => k_is)
    (case l20 => k_is)
    (case c20 => k_is)
    (case k20 => k_is)
    (case a21 => k_is)
    (case l21 => k_is)
    (case c21 => k_is)
    (case k21 => k_is)
    (case a22 => k_is)
    (case l22 => k_is)
    (case c22 => k_is)
    (case k22 => k_is)
    (case pg_Book => k_is)
    (case hd_Book => k_is)
    (case po_Book => k_is)
    (case sa_Book => k_is)
    (case mk_Book => k_is)
    (case kc_Book => k_is)
    (case no_Book_rooms => k_is)
    (case no_Book_nights => k_is)
    (case no_Book_kept => k_is)
    (case z_list => k_is)
    (case z_range => k_is)
    (case z_all => k_is)
    (case z_dict => k_is)
    (case z_len => k_is)
    (case z_isinstance => k_is)
    (case z_tuple => k_is)
    (case z_bool => k_is)
    (case z_int => k_is)
    (case z_str => k_is)
    (case z_min => k_is)
    (case z_sorted => k_is)
    (case z_sum => k_is)
#print axioms PySem.Challenge.cw_manydoors_k04_plain_books_holds


