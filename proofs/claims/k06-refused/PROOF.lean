import PyProof.Rows.All
import Wide.All
import OpenK.AllK
import Wide.FinOn
import HandS.ForMost
import HandS.IsInst
import HandS.Evl
import HandS.Walk
import KE.GoesEnum
import KE.GoesMore
import HandS.Zip
import KE.SortData
import KE.KDictCopyH
import HandS.Conv
import HandS.Finally
import HandS.ForExc
import HandS.ExcIs
import HandS.TryMany
import HandS.TupMul
import HandS.More
import HandS.Style
import KE.KIsAll
import KE.RegKIsAll
import PyProof.Rows.SeqMore
import PyProof.Rows.TupAdd
import PyProof.ReprRoads
import PyProof.Rows.RegFStrParts
import PySem.Challenge.RW_manydoors_k06_housings_are_refused
set_option Elab.async false
set_option linter.all false
set_option maxRecDepth 100000
set_option maxHeartbeats 1000000
namespace Lw
open PySem L2

/-! ### frames: what a piece of code leaves as it was -/
structure Fr (l : List Addr) (H H' : Hp) : Prop where
  keep : ∀ a o, H a = some o → a ∉ l → H' a = some o
  tup : ∀ a xs, H a = some (.tup xs) → H' a = some (.tup xs)
theorem Fr.refl {l : List Addr} {H : Hp} : Fr l H H := ⟨fun _ _ h _ => h, fun _ _ h => h⟩
theorem Fr.mono {l m : List Addr} {H H' : Hp} (f : Fr l H H') (h : ∀ a, a ∈ l → a ∈ m) : Fr m H H' := ⟨fun a o e n => f.keep a o e fun q => n (h a q), f.tup⟩
theorem Fr.of0 {m : List Addr} {H H' : Hp} (f : Fr [] H H') : Fr m H H' := f.mono fun _ q => nomatch q
theorem Fr.new {H : Hp} {p : Addr} {o : HO} (h : H p = none) : Fr [] H (upd H p o) := ⟨fun a u e _ => by rw [upd_ne (ne_of_none e h)]; exact e, fun a u e => by rw [upd_ne (ne_of_none e h)]; exact e⟩
def notTup : HO → Prop
  | .tup _ => False
  | _ => True
theorem Fr.put {H : Hp} {p : Addr} {o u : HO} (h : H p = some u) (hu : notTup u) : Fr [p] H (upd H p o) := by
  refine ⟨fun a v e n => ?_, fun a v e => ?_⟩
  · rw [upd_ne fun q => n (List.mem_singleton.mpr q)]; exact e
  · by_cases q : a = p
    · subst q; rw [h] at e; cases e; exact hu.elim
    · rw [upd_ne q]; exact e
theorem Fr.trans {l m : List Addr} {H H1 H2 : Hp} (f : Fr l H H1) (g : Fr m H1 H2) : Fr (l ++ m) H H2 :=
  ⟨fun a o e n => g.keep a o (f.keep a o e fun q => n (List.mem_append_left _ q)) fun q => n (List.mem_append_right _ q), fun a xs e => g.tup a xs (f.tup a xs e)⟩
theorem Fr.transL {l : List Addr} {H H1 H2 : Hp} (f : Fr l H H1) (g : Fr l H1 H2) : Fr l H H2 := (f.trans g).mono fun _ q => (List.mem_append.mp q).elim id id
theorem Fr.then0 {l : List Addr} {H H1 H2 : Hp} (f : Fr l H H1) (g : Fr [] H1 H2) : Fr l H H2 := f.transL g.of0
theorem Fr.pre0 {l : List Addr} {H H1 H2 : Hp} (f : Fr [] H H1) (g : Fr l H1 H2) : Fr l H H2 := f.of0.transL g
theorem Fr.pre0' {l : List Addr} {H H1 H2 : Hp} (g : Fr l H1 H2) (f : Fr [] H H1) : Fr l H H2 := f.pre0 g
/-- an address that was not tracked may be written -/
theorem Fr.drop {l : List Addr} {p : Addr} {H H' : Hp} (f : Fr (p :: l) H H') (h : H p = none) : Fr l H H' :=
  ⟨fun a o e n => f.keep a o e fun q => (List.mem_cons.mp q).elim (fun z => by rw [z, h] at e; cases e) n, f.tup⟩
theorem Fr.free {H H' : Hp} {p : Addr} (f : Fr [] H H') (h : H' p = none) : H p = none := by
  cases q : H p with
  | none => rfl
  | some o => rw [f.keep p o q (by simp)] at h; cases h
theorem Fr.freeL {l : List Addr} {H H' : Hp} {p : Addr} (f : Fr l H H') (h : H' p = none) (n : p ∉ l) : H p = none := by
  cases q : H p with
  | none => rfl
  | some o => rw [f.keep p o q n] at h; cases h
/-- new objects may change -/
theorem Fr.own {l m : List Addr} {H H' H2 : Hp} (f : Fr l H H') (g : Fr m H' H2) (n : ∀ a, a ∈ m → a ∈ l ∨ H a = none) : Fr l H H2 :=
  ⟨fun a o e na => g.keep a o (f.keep a o e na) fun q => (n a q).elim na (fun z => by rw [z] at e; cases e), fun a xs e => g.tup a xs (f.tup a xs e)⟩
theorem Fr.own1 {l : List Addr} {p : Addr} {H H' H2 : Hp} (f : Fr l H H') (g : Fr [p] H' H2) (n : H p = none) : Fr l H H2 := f.own g fun a q => .inr (by rw [List.mem_singleton.mp q]; exact n)
theorem frn0 {l : List Addr} {H : Hp} : ∀ a, a ∈ ([] : List Addr) → a ∈ l ∨ H a = none := fun _ q => nomatch q
theorem frn1 {p : Addr} {l m : List Addr} {H : Hp} (h : p ∈ l ∨ H p = none) (t : ∀ a, a ∈ m → a ∈ l ∨ H a = none) : ∀ a, a ∈ p :: m → a ∈ l ∨ H a = none := fun a q => (List.mem_cons.mp q).elim (fun e => e ▸ h) (t a)
theorem nin0 {a : Addr} : a ∉ ([] : List Addr) := by simp
theorem nin1 {a b : Addr} {l : List Addr} (h : a ≠ b) (t : a ∉ l) : a ∉ b :: l := by simp [h, t]
theorem Fr.tupAt {l : List Addr} {H H' : Hp} {a : Addr} {xs : List V} (f : Fr l H H') (h : H a = some (.tup xs)) : H' a = some (.tup xs) := f.tup a xs h
theorem Fr.at0 {H H' : Hp} {a : Addr} {o : HO} (f : Fr [] H H') (h : H a = some o) : H' a = some o := f.keep a o h nin0
theorem Fr.at {l : List Addr} {H H' : Hp} {a : Addr} {o : HO} (f : Fr l H H') (h : H a = some o) (n : a ∉ l) : H' a = some o := f.keep a o h n
theorem Fr.sql {K : PySem.W.Frag} {l : List Addr} {H H' : Hp} {a : Addr} {xs : List V} (f : Fr l H H') (h : SqL K H a xs) (n : a ∉ l) : SqL K H' a xs := by
  rcases h with (h | ⟨o, h⟩) | h
  · exact .inl (.inl (f.keep _ _ h n))
  · exact .inl (.inr ⟨o, f.keep _ _ h n⟩)
  · exact .inr h

/-! ### operators by name -/
def oAdd : R2 := rI0 fun i j => .int (i + j)
def oSub : R2 := rI0 fun i j => .int (i - j)
def oMul : R2 := rI CMul fun i j => .int (i * j)
def oMod : R2 := rI (fun _ j => 0 < j) fun i j => .int (i % j)
def oDiv : R2 := rI CDiv fun i j => .int (i / j)
def oPow : R2 := rI CPow fun i j => .int (i ^ j.toNat)
def cLt : R2 := rI0 fun i j => .bl (decide (i < j))
def cLe : R2 := rI0 fun i j => .bl (decide (i ≤ j))
def cGt : R2 := rI0 fun i j => .bl (decide (j < i))
def cGe : R2 := rI0 fun i j => .bl (decide (j ≤ i))
section
variable {X : Cx}
theorem o_add : OpR X (binaryOp .Add) oAdd := op_add
theorem o_sub : OpR X (binaryOp .Sub) oSub := op_sub
theorem o_mul : OpR X (binaryOp .Mult) oMul := op_mul
theorem o_mod : OpR X (binaryOp .Mod) oMod := op_mod
theorem o_div : OpR X (binaryOp .FloorDiv) oDiv := op_fdiv
theorem o_pow : OpR X (binaryOp .Pow) oPow := op_pow
theorem c_lt : OpR X (compareOp .Lt) cLt := op_lt
theorem c_le : OpR X (compareOp .LtE) cLe := op_le
theorem c_gt : OpR X (compareOp .Gt) cGt := op_gt
theorem c_ge : OpR X (compareOp .GtE) cGe := op_ge
/-- len -/
def rLenSq (K : PySem.W.Frag) : List V → Hp → VK → Prop := fun xs H Q => ∃ p ys, xs = [.ref p] ∧ (SqL K H p ys ∨ SqT K H p ys) ∧ Q (.int ys.length) H
def rLenStr : List V → Hp → VK → Prop := fun xs H Q => ∃ z, xs = [.str z] ∧ z.length ≤ sizeLine ∧ Q (.int z.length) H
theorem b_len : CallR X (.builtin "len") (rLenSq X.K) := call_len_seq
theorem b_lenS : CallR X (.builtin "len") rLenStr := call_len_str
/-- list(..), tuple(..) -/
def rListOf (K : PySem.W.Frag) : List V → Hp → VK → Prop := fun xs H Q => ∃ p ys, xs = [.ref p] ∧ (SqL K H p ys ∨ SqT K H p ys) ∧ ∀ l, H l = none → Q (.ref l) (upd H l (.lst ys))
def rTupOf (K : PySem.W.Frag) : List V → Hp → VK → Prop := fun xs H Q => ∃ p ys, xs = [.ref p] ∧ ((SqL K H p ys ∧ ∀ l, H l = none → Q (.ref l) (upd H l (.tup ys))) ∨ (SqT K H p ys ∧ Q (.ref p) H))
theorem b_list : CallR X (.type "list") (rListOf X.K) := call_list_of
theorem b_tuple : CallR X (.type "tuple") (rTupOf X.K) := call_tuple_of
def rMax2 : List V → Hp → VK → Prop := fun xs H Q => ∃ i j, xs = [.int i, .int j] ∧ Q (.int (if j > i then j else i)) H
def rMin2 : List V → Hp → VK → Prop := fun xs H Q => ∃ i j, xs = [.int i, .int j] ∧ Q (.int (if j < i then j else i)) H
theorem b_max2 (hc : X.calm = true) : CallR X (.builtin "max") rMax2 := call_max2 hc
theorem b_min2 (hc : X.calm = true) : CallR X (.builtin "min") rMin2 := call_min2 hc
def rIsNon : R2 := fun x y H Q => y = .non ∧ Q (.bl (decide (x = .non))) H
def rIsNotNon : R2 := fun x y H Q => y = .non ∧ Q (.bl (!decide (x = .non))) H
theorem c_isN : OpR X (compareOp .Is) rIsNon := op_isN
theorem c_notN : OpR X (compareOp .IsNot) rIsNotNon := op_notN
/-- a value's truth, as a test -/
def tTr (K : PySem.W.Frag) (ta : TE) : TT := fun σ H Q => ta σ H fun x H' => ∃ k, TruV K x H' k ∧ Q k H'
theorem pt_tr {a : Expr} {ta : TE} (ha : PE X a ta) (he : ∀ whole, isTrue a X.env whole = (do let v ← whole; standAt a.pos; holding [v] (truthy v))) : PT X a (tTr X.K ta) := pt_truth ha he

/-! ### calls -/
def tCl (sp : Sp) (t : TA) : TE := fun σ H Q => t σ H fun vs H1 => sp vs H1 Q E0
def rMt (C : Addr) (m : Str) (x : V) (H : Hp) (p : Prop) : Prop := ∃ a dx fs, x = .ref a ∧ H a = some (.ins C dx fs) ∧ fs.lookup m = none ∧ p
def tMt (C : Addr) (m : Str) (sp : Sp) (ta : TE) (t : TA) : TE := fun σ H Q => ta σ H fun x H1 => rMt C m x H1 (t σ H1 fun vs H2 => sp (x :: vs) H2 Q E0)
def tMk (C : Addr) (sp : Sp) (t : TA) : TE := fun σ H Q => t σ H fun vs H1 => ∀ x dx, H1 x = none → H1 dx = none → dx ≠ x →
  sp (.ref x :: vs) (upd (upd H1 dx (.own x)) x (.ins C dx [])) (fun v H2 => v = .non ∧ Q (.ref x) H2) E0
/-- a def of the text, to be called by its name -/
structure Cal (P : Program) (w : World) (K : PySem.W.Frag) (mg : Str → Option Value) (base : Heap) (x : Str) (k : Nat) (ps : List Str) (sp : Sp) : Prop where
  ex : ∃ f fd, FnOk P w K mg base CX0 k f fd ps sp ∧ mg x = some (.ref f) ∧ PySem.W.keepIn K (.ref f) = true ∧ Binds K fd ps []
/-- a method of the class at C -/
structure CalM (P : Program) (w : World) (K : PySem.W.Frag) (mg : Str → Option Value) (base : Heap) (C : Addr) (m : Str) (k : Nat) (ps : List Str) (sp : Sp) : Prop where
  ex : ∃ f fd, FnOk P w K mg base CX0 k f fd ps sp ∧ Meth K C m f ∧ Binds K fd ps []
/-- a class, to be called by its name -/
structure CalC (P : Program) (w : World) (K : PySem.W.Frag) (mg : Str → Option Value) (base : Heap) (x : Str) (C : Addr) (k : Nat) (ps : List Str) (sp : Sp) : Prop where
  ex : ∃ f fd, FnOk P w K mg base CX0 k f fd ps sp ∧ Mk K C f ∧ mg x = some (.ref C) ∧ Binds K fd ps []
variable {k : Nat} {ps : List Str} {sp : Sp} {x m : Str} {p pos apos : Pos} {e o : Expr} {es : List Expr} {ta : TE} {t : TA} {C : Addr}
theorem tcl_eq {E : XK} : (tCall sp [] E0 t) = tCl sp t := by
  funext σ H Q
  show (t σ H fun vs H1 => sp (vs ++ []) H1 Q E0) = (t σ H fun vs H1 => sp vs H1 Q E0)
  simp only [List.append_nil]
theorem pe_cl (c : Cal X.prog X.w X.K X.mg X.base x k ps sp) (hr : Room k X.A) (hg : Gl X x) (ha : PA X (e :: es) t) (hdb : (x == ("__debug__" : Str)) = false := by decide)
    (he : starEach (e :: es) X.env = (false, eval e X.env) :: starEach es X.env := by rfl) (hpl : (backTo pos (starEach es X.env)).any (·.1) = false := by rfl) : PE X (.Call (.Name x p) (e :: es) [] pos) (tCl sp t) := by
  obtain ⟨f, fd, F, hm, hk, hb⟩ := c.ex
  rw [← tcl_eq (E := E0)]
  exact pe_call F hr hg hm hk hb .nil pass0 ha hdb he hpl
theorem pe_cl0 (c : Cal X.prog X.w X.K X.mg X.base x k ps sp) (hr : Room k X.A) (hg : Gl X x) (hdb : (x == ("__debug__" : Str)) = false := by decide) : PE X (.Call (.Name x p) [] [] pos) (tCl sp tNil) := by
  obtain ⟨f, fd, F, hm, hk, hb⟩ := c.ex
  rw [← tcl_eq (E := E0)]
  exact pe_call0 F hr hg hm hk hb .nil pass0 hdb
theorem tmt_eq : (tMeth C m sp [] E0 ta t) = tMt C m sp ta t := by
  funext σ H Q
  show (ta σ H fun x H1 => ∃ a dx fs, x = .ref a ∧ H1 a = some (.ins C dx fs) ∧ fs.lookup m = none ∧ t σ H1 fun vs H2 => sp (x :: (vs ++ [])) H2 Q E0) = _
  simp only [List.append_nil]
  rfl
theorem tmk_eq : (tMake C sp [] E0 t) = tMk C sp t := by
  funext σ H Q
  show (t σ H fun vs H1 => ∀ x dx, H1 x = none → H1 dx = none → dx ≠ x → sp (.ref x :: (vs ++ [])) (upd (upd H1 dx (.own x)) x (.ins C dx [])) (fun v H2 => v = .non ∧ Q (.ref x) H2) E0) = _
  simp only [List.append_nil]
  rfl
theorem pe_mt {pl : Sem Bool} (he : PE X o ta) (c : Cls X.K C) (cm : CalM X.prog X.w X.K X.mg X.base C m k ps sp) (hr : Room k X.A) (ha : PA X (e :: es) t)
    (hst : starEach (e :: es) X.env = (false, eval e X.env) :: starEach es X.env := by rfl) (hpl : (backTo pos (starEach es X.env)).any (·.1) = false := by rfl)
    (ht : eval (.Call (.Attribute o m apos) (e :: es) [] pos) X.env = (do
      let ov ← eval o X.env
      standAt apos.atName
      let (f, first) ← holding [ov] (getMethod ov m pl)
      callWith pos f first (backTo pos (starEach (e :: es) X.env)) (backToKw pos (keywordEach [] X.env))) := by rfl) :
    PE X (.Call (.Attribute o m apos) (e :: es) [] pos) (tMt C m sp ta t) := by
  obtain ⟨f, fd, F, hm, hb⟩ := cm.ex
  rw [← tmt_eq]
  exact pe_meth (pl := pl) he c hm F hr hb .nil pass0 ha hst hpl ht
theorem pe_mt0 {pl : Sem Bool} (he : PE X o ta) (c : Cls X.K C) (cm : CalM X.prog X.w X.K X.mg X.base C m k ps sp) (hr : Room k X.A)
    (ht : eval (.Call (.Attribute o m apos) [] [] pos) X.env = (do
      let ov ← eval o X.env
      standAt apos.atName
      let (f, first) ← holding [ov] (getMethod ov m pl)
      callWith pos f first (backTo pos (starEach [] X.env)) (backToKw pos (keywordEach [] X.env))) := by rfl) :
    PE X (.Call (.Attribute o m apos) [] [] pos) (tMt C m sp ta tNil) := by
  obtain ⟨f, fd, F, hm, hb⟩ := cm.ex
  rw [← tmt_eq]
  exact pe_meth0 (pl := pl) he c hm F hr hb .nil pass0 ht
theorem pe_mk (cm : CalC X.prog X.w X.K X.mg X.base x C k ps sp) (hr : Room (k + 1) X.A) (hg : Gl X x) (ha : PA X (e :: es) t) (hdb : (x == ("__debug__" : Str)) = false := by decide)
    (he : starEach (e :: es) X.env = (false, eval e X.env) :: starEach es X.env := by rfl) (hpl : (backTo pos (starEach es X.env)).any (·.1) = false := by rfl) :
    PE X (.Call (.Name x p) (e :: es) [] pos) (tMk C sp t) := by
  obtain ⟨f, fd, F, hM, hm, hb⟩ := cm.ex
  rw [← tmk_eq]
  exact pe_make hM F hr hg hm hb .nil pass0 ha hdb he hpl
theorem pe_mk0 (cm : CalC X.prog X.w X.K X.mg X.base x C k ps sp) (hr : Room (k + 1) X.A) (hg : Gl X x) (hdb : (x == ("__debug__" : Str)) = false := by decide) :
    PE X (.Call (.Name x p) [] [] pos) (tMk C sp tNil) := by
  obtain ⟨f, fd, F, hM, hm, hb⟩ := cm.ex
  rw [← tmk_eq]
  exact pe_make0 hM F hr hg hm hb .nil pass0 hdb
end

/-! ### readings, one step each -/
section
variable {K : PySem.W.Frag} {σ : L2.St} {H H' : Hp} {Q : VK} {D : Ends} {i : Nat} {v x y : V} {ta tb te tc : TE} {r : R2} {t u : TS} {c d : TT} {as tr : TA} {g : TG} {a b : Int} {p C dx : Addr} {QB : Bool → Hp → Prop} {QL : List V → Hp → Prop}
theorem g_seq (h : t { D with nx := u D } σ H) : tSeq t u D σ H := h
theorem g_cut (M : L2.St → Hp → Prop) (h : t { D with nx := M } σ H) (k : ∀ σ' H', M σ' H' → u D σ' H') : Evl.tCut t u D σ H := ⟨M, h, k⟩
theorem g_next (h : D.nx σ H) : tNext D σ H := h
theorem g_brk (h : D.bk σ H) : tBreak D σ H := h
theorem g_cont (h : D.ct σ H) : tCont D σ H := h
theorem g_asg (h : te σ H (fun v H' => g v σ H' D.nx)) : tAsg te g D σ H := h
theorem g_name {QS : L2.St → Hp → Prop} (h : QS (σ.set i (some v)) H) : gName i v σ H QS := h
theorem g_ret (h : te σ H D.rt) : tRet te D σ H := h
theorem g_retN (h : D.rt .non H) : tRetN D σ H := h
theorem g_drop (h : te σ H (fun _ H' => D.nx σ H')) : tDrop te D σ H := h
theorem g_ifs (h : c σ H (fun b H' => if b = true then t D σ H' else u D σ H')) : tIfS c t u D σ H := h
theorem g_aug {ti : TIp} (hx : σ[i]? = some (some x)) (h : te σ H (fun y H1 => ti x y H1 fun z H2 => D.nx (σ.set i (some z)) H2)) : tAug i te ti D σ H := ⟨x, hx, h⟩
theorem g_ipI {f : Int → Int → Int} (h : Q (.int (f a b)) H) : ipI f (.int a) (.int b) H Q := ⟨a, b, rfl, rfl, h⟩
theorem g_var (hx : σ[i]? = some (some v)) (h : Q v H) : tVar i σ H Q := ⟨v, hx, h⟩
theorem g_c (h : Q v H) : tC v σ H Q := h
theorem g_op (h : ta σ H (fun x H1 => tb σ H1 fun y H2 => r x y H2 Q)) : tOp r ta tb σ H Q := h
theorem g_add (h : Q (.int (a + b)) H) : oAdd (.int a) (.int b) H Q := ⟨a, b, rfl, rfl, h⟩
theorem g_sub (h : Q (.int (a - b)) H) : oSub (.int a) (.int b) H Q := ⟨a, b, rfl, rfl, h⟩
theorem g_mul (hc : CMul a b) (h : Q (.int (a * b)) H) : oMul (.int a) (.int b) H Q := ⟨a, b, rfl, rfl, hc, h⟩
theorem g_mod (hc : 0 < b) (h : Q (.int (a % b)) H) : oMod (.int a) (.int b) H Q := ⟨a, b, rfl, rfl, hc, h⟩
theorem g_div (hc : CDiv a b) (h : Q (.int (a / b)) H) : oDiv (.int a) (.int b) H Q := ⟨a, b, rfl, rfl, hc, h⟩
theorem g_pow (hc : CPow a b) (h : Q (.int (a ^ b.toNat)) H) : oPow (.int a) (.int b) H Q := ⟨a, b, rfl, rfl, hc, h⟩
theorem g_lt (h : Q (.bl (decide (a < b))) H) : cLt (.int a) (.int b) H Q := ⟨a, b, rfl, rfl, h⟩
theorem g_le (h : Q (.bl (decide (a ≤ b))) H) : cLe (.int a) (.int b) H Q := ⟨a, b, rfl, rfl, h⟩
theorem g_gt (h : Q (.bl (decide (b < a))) H) : cGt (.int a) (.int b) H Q := ⟨a, b, rfl, rfl, h⟩
theorem g_ge (h : Q (.bl (decide (b ≤ a))) H) : cGe (.int a) (.int b) H Q := ⟨a, b, rfl, rfl, h⟩
theorem g_eqI (h : Q (.bl (decide (a = b))) H) : rEq (.int a) (.int b) H Q := ⟨rfl, by rw [show decide (V.int a = V.int b) = decide (a = b) from by simp]; exact h⟩
theorem g_neI (h : Q (.bl (!decide (a = b))) H) : rNe (.int a) (.int b) H Q := ⟨rfl, by rw [show decide (V.int a = V.int b) = decide (a = b) from by simp]; exact h⟩
theorem g_eqS {a b : Str} (h : Q (.bl (decide (a = b))) H) : rEq (.str a) (.str b) H Q := ⟨rfl, by rw [show decide (V.str a = V.str b) = decide (a = b) from by simp]; exact h⟩
theorem g_neS {a b : Str} (h : Q (.bl (!decide (a = b))) H) : rNe (.str a) (.str b) H Q := ⟨rfl, by rw [show decide (V.str a = V.str b) = decide (a = b) from by simp]; exact h⟩
theorem g_eqB {a b : Bool} (h : Q (.bl (decide (a = b))) H) : rEq (.bl a) (.bl b) H Q := ⟨rfl, by rw [show decide (V.bl a = V.bl b) = decide (a = b) from by simp]; exact h⟩
theorem g_isN (h : Q (.bl (decide (x = .non))) H) : rIsNon x .non H Q := ⟨rfl, h⟩
theorem g_notN (h : Q (.bl (!decide (x = .non))) H) : rIsNotNon x .non H Q := ⟨rfl, h⟩
theorem g_test (h : te σ H (fun x H' => ∃ k, x = .bl k ∧ QB k H')) : tTest te σ H QB := h
theorem g_tb (h : te σ H (fun x H' => ∃ k, x = .bl k ∧ QB k H')) : tB te σ H QB := h
theorem g_bl {k : Bool} {P : Bool → Prop} (h : P k) : ∃ k', V.bl k = V.bl k' ∧ P k' := ⟨k, rfl, h⟩
theorem g_and (h : c σ H (fun b H1 => if b = true then d σ H1 QB else QB false H1)) : tAnd c d σ H QB := h
theorem g_or (h : c σ H (fun b H1 => if b = true then QB true H1 else d σ H1 QB)) : tOr c d σ H QB := h
theorem g_not (h : c σ H (fun b H1 => QB (!b) H1)) : tNot c σ H QB := h
theorem g_andV (h : ta σ H (fun x H1 => ∃ c, x = .bl c ∧ if c = true then tb σ H1 Q else Q (.bl false) H1)) : tAndV ta tb σ H Q := h
theorem g_orV (h : ta σ H (fun x H1 => ∃ c, x = .bl c ∧ if c = true then Q (.bl true) H1 else tb σ H1 Q)) : tOrV ta tb σ H Q := h
theorem g_notV (h : ta σ H (fun x H1 => ∃ c, x = .bl c ∧ Q (.bl (!c)) H1)) : tNotV ta σ H Q := h
theorem g_ifE (h : c σ H (fun b H1 => if b = true then ta σ H1 Q else tb σ H1 Q)) : tIf c ta tb σ H Q := h
theorem g_ite {P : Prop} [Decidable P] {A B : Prop} (h1 : P → A) (h2 : ¬ P → B) : if decide P = true then A else B := by
  by_cases h : P
  · rw [if_pos (decide_eq_true h)]; exact h1 h
  · rw [if_neg (by simp [h])]; exact h2 h
theorem g_iteN {P : Prop} [Decidable P] {A B : Prop} (h1 : ¬ P → A) (h2 : P → B) : if (!decide P) = true then A else B := by
  by_cases h : P
  · rw [if_neg (by simp [h])]; exact h2 h
  · rw [if_pos (by simp [h])]; exact h1 h
theorem g_iteB {k : Bool} {A B : Prop} (h1 : k = true → A) (h2 : k = false → B) : if k = true then A else B := by
  cases k with
  | true => rw [if_pos rfl]; exact h1 rfl
  | false => rw [if_neg Bool.false_ne_true]; exact h2 rfl
theorem g_iteNB {k : Bool} {A B : Prop} (h1 : k = false → A) (h2 : k = true → B) : if (!k) = true then A else B := by
  cases k with
  | true => rw [if_neg (by decide)]; exact h2 rfl
  | false => rw [if_pos (by decide)]; exact h1 rfl
theorem g_iteT {A B : Prop} (h : A) : if true = true then A else B := by rw [if_pos rfl]; exact h
theorem g_iteF {A B : Prop} (h : B) : if false = true then A else B := by rw [if_neg Bool.false_ne_true]; exact h
theorem g_iteNT {A B : Prop} (h : B) : if (!true) = true then A else B := by rw [if_neg (by decide)]; exact h
theorem g_iteNF {A B : Prop} (h : A) : if (!false) = true then A else B := by rw [if_pos (by decide)]; exact h
theorem g_nil (h : QL [] H) : tNil σ H QL := h
theorem g_cons (h : te σ H (fun x H1 => as σ H1 fun xs H2 => QL (x :: xs) H2)) : tCons te as σ H QL := h
theorem g_cb {rr : List V → Hp → VK → Prop} (h : as σ H (fun vs H1 => rr vs H1 Q)) : tCB rr as σ H Q := h
theorem g_cl {sp : Sp} (h : as σ H (fun vs H1 => sp vs H1 Q E0)) : tCl sp as σ H Q := h
/-- a new tuple, a new list -/
def rNewT (vs : List V) (H : Hp) (Q : VK) : Prop := vs.length ≤ sizeLine ∧ ∀ p, H p = none → Q (.ref p) (upd H p (.tup vs))
def rNewL (vs : List V) (H : Hp) (Q : VK) : Prop := vs.length ≤ sizeLine ∧ ∀ p, H p = none → Q (.ref p) (upd H p (.lst vs))
theorem g_tup (h : as σ H (fun vs H1 => rNewT vs H1 Q)) : tTup as σ H Q := h
theorem g_lst (h : as σ H (fun vs H1 => rNewL vs H1 Q)) : tLst as σ H Q := h
theorem g_newT {vs : List V} (hl : vs.length ≤ sizeLine) (h : ∀ p H', H p = none → Fr [] H H' → H' p = some (.tup vs) → Q (.ref p) H') : rNewT vs H Q := ⟨hl, fun p hp => h p _ hp (Fr.new hp) upd_same⟩
theorem g_newL {vs : List V} (hl : vs.length ≤ sizeLine) (h : ∀ p H', H p = none → Fr [] H H' → H' p = some (.lst vs) → Q (.ref p) H') : rNewL vs H Q := ⟨hl, fun p hp => h p _ hp (Fr.new hp) upd_same⟩
theorem g_ixL {xs : List V} {k : Int} (h : SqL K H p xs) (ha : atI xs k = some v) (q : Q v H) : rIxL K (.ref p) (.int k) H Q := ⟨p, xs, k, v, rfl, rfl, h, ha, q⟩
theorem g_ixT {xs : List V} {k : Int} (h : SqT K H p xs) (ha : atI xs k = some v) (q : Q v H) : rIxT K (.ref p) (.int k) H Q := ⟨p, xs, k, v, rfl, rfl, h, ha, q⟩
theorem g_lenL {xs : List V} (h : SqL K H p xs) (q : Q (.int xs.length) H) : rLenSq K [.ref p] H Q := ⟨p, xs, rfl, .inl h, q⟩
theorem g_lenT {xs : List V} (h : SqT K H p xs) (q : Q (.int xs.length) H) : rLenSq K [.ref p] H Q := ⟨p, xs, rfl, .inr h, q⟩
theorem g_listL {xs : List V} (h : SqL K H p xs) (q : ∀ l H', H l = none → Fr [] H H' → H' l = some (.lst xs) → Q (.ref l) H') : rListOf K [.ref p] H Q := ⟨p, xs, rfl, .inl h, fun l hl => q l _ hl (Fr.new hl) upd_same⟩
theorem g_listT {xs : List V} (h : SqT K H p xs) (q : ∀ l H', H l = none → Fr [] H H' → H' l = some (.lst xs) → Q (.ref l) H') : rListOf K [.ref p] H Q := ⟨p, xs, rfl, .inr h, fun l hl => q l _ hl (Fr.new hl) upd_same⟩
theorem g_tupL {xs : List V} (h : SqL K H p xs) (q : ∀ l H', H l = none → Fr [] H H' → H' l = some (.tup xs) → Q (.ref l) H') : rTupOf K [.ref p] H Q := ⟨p, xs, rfl, .inl ⟨h, fun l hl => q l _ hl (Fr.new hl) upd_same⟩⟩
theorem g_max2 (q : Q (.int (if b > a then b else a)) H) : rMax2 [.int a, .int b] H Q := ⟨a, b, rfl, q⟩
theorem g_min2 (q : Q (.int (if b < a then b else a)) H) : rMin2 [.int a, .int b] H Q := ⟨a, b, rfl, q⟩
def rBM (K : PySem.W.Frag) (T : String) (x : V) (H : Hp) (P : Prop) : Prop := tyV K T x H ∧ P
theorem g_bm {T : String} {rr : V → List V → Hp → VK → Prop} (h : te σ H (fun x H1 => rBM K T x H1 (as σ H1 fun xs H2 => rr x xs H2 Q))) : tBM K T rr te as σ H Q := h
theorem g_bm0 {T : String} {rr : V → List V → Hp → VK → Prop} (h : te σ H (fun x H1 => rBM K T x H1 (rr x [] H1 Q))) : tBM0 K T rr te σ H Q := h
theorem g_bmL {xs : List V} {P : Prop} (h : H p = some (.lst xs)) (q : P) : rBM K "list" (.ref p) H P := ⟨.inl ⟨rfl, xs, SqL.of h⟩, q⟩
theorem g_append {xs : List V} (h : H p = some (.lst xs)) (hl : xs.length < sizeLine) (q : ∀ H', Fr [p] H H' → H' p = some (.lst (xs ++ [y])) → Q .non H') : rAppend (.ref p) [y] H Q := ⟨p, xs, y, rfl, rfl, h, hl, q _ (Fr.put h trivial) upd_same⟩
theorem g_clear {xs : List V} (h : H p = some (.lst xs)) (q : ∀ H', Fr [p] H H' → H' p = some (.lst []) → Q .non H') : rClear (.ref p) [] H Q := ⟨p, xs, rfl, rfl, h, q _ (Fr.put h trivial) upd_same⟩
theorem g_sub1 {to ti : TE} {ts : TSet} {QS : L2.St → Hp → Prop} (h : to σ H (fun o H1 => ti σ H1 fun i H2 => ts o i v H2 fun H3 => QS σ H3)) : gSub to ti ts v σ H QS := h
theorem g_setL {xs : List V} {k : Int} {j : Nat} {P : Hp → Prop} (h : H p = some (.lst xs)) (hj : ixN xs.length k = some j) (q : ∀ H', Fr [p] H H' → H' p = some (.lst (xs.set j v)) → P H') : rSetL (.ref p) (.int k) v H P := ⟨p, xs, k, j, rfl, rfl, h, hj, q _ (Fr.put h trivial) upd_same⟩
/-- attributes -/
def rFld (K : PySem.W.Frag) (f : Str) (x : V) (H : Hp) (Q : VK) : Prop := ∃ a C dx fs v, x = .ref a ∧ H a = some (.ins C dx fs) ∧ Cls K C ∧ NoAttr K C f ∧ fs.lookup f = some v ∧ Q v H
theorem g_fld {f : Str} (h : ta σ H (fun x H1 => rFld K f x H1 Q)) : tFld K ta f σ H Q := h
theorem g_rfld {f : Str} {fs : List (Str × V)} (h : H p = some (.ins C dx fs)) (c : Cls K C) (n : NoAttr K C f) (l : fs.lookup f = some v) (q : Q v H) : rFld K f (.ref p) H Q := ⟨p, C, dx, fs, v, rfl, h, c, n, l, q⟩
def rFldS (K : PySem.W.Frag) (f : Str) (x v : V) (H : Hp) (P : Hp → Prop) : Prop := ∃ a C dx fs, x = .ref a ∧ H a = some (.ins C dx fs) ∧ Cls K C ∧ NoAttr K C f ∧ fs.length < 1000 ∧ P (upd H a (.ins C dx (putF f v fs)))
theorem g_sfld {f : Str} (h : tb σ H (fun y H1 => ta σ H1 fun x H2 => rFldS K f x y H2 fun H3 => D.nx σ H3)) : sFld K ta tb f D σ H := h
theorem g_rflds {f : Str} {fs gs : List (Str × V)} {P : Hp → Prop} (h : H p = some (.ins C dx fs)) (c : Cls K C) (n : NoAttr K C f) (hl : fs.length < 1000) (e : putF f v fs = gs) (q : ∀ H', Fr [p] H H' → H' p = some (.ins C dx gs) → P H') : rFldS K f (.ref p) v H P :=
  ⟨p, C, dx, fs, rfl, h, c, n, hl, q _ (Fr.put h trivial) (by rw [e]; exact upd_same)⟩
def rFldA (K : PySem.W.Frag) (f : Str) (tv : TE) (rd : V → V → Hp → VK → Prop) (x : V) (σ : L2.St) (H : Hp) (D : Ends) : Prop := ∃ a C dx fs v, x = .ref a ∧ H a = some (.ins C dx fs) ∧ Cls K C ∧ NoAttr K C f ∧ fs.lookup f = some v ∧
  tv σ H fun y H2 => rd v y H2 fun z H3 => ∃ dx' fs', H3 a = some (.ins C dx' fs') ∧ fs'.length < 1000 ∧ D.nx σ (upd H3 a (.ins C dx' (putF f z fs')))
theorem g_flda {f : Str} {rd : V → V → Hp → VK → Prop} (h : ta σ H (fun x H1 => rFldA K f tb rd x σ H1 D)) : sFldAug K ta tb rd f D σ H := h
def rFldB (a C : Addr) (f : Str) (z : V) (H3 : Hp) (P : Hp → Prop) : Prop := ∃ dx' fs', H3 a = some (.ins C dx' fs') ∧ fs'.length < 1000 ∧ P (upd H3 a (.ins C dx' (putF f z fs')))
theorem g_rflda {f : Str} {fs : List (Str × V)} {rd : V → V → Hp → VK → Prop} (h : H p = some (.ins C dx fs)) (c : Cls K C) (n : NoAttr K C f) (l : fs.lookup f = some v) (q : tb σ H fun y H2 => rd v y H2 fun z H3 => rFldB p C f z H3 fun H4 => D.nx σ H4) : rFldA K f tb rd (.ref p) σ H D :=
  ⟨p, C, dx, fs, v, rfl, h, c, n, l, q⟩
theorem g_rfldb {f : Str} {fs gs : List (Str × V)} {P : Hp → Prop} (h : H p = some (.ins C dx fs)) (hl : fs.length < 1000) (e : putF f v fs = gs) (q : ∀ H', Fr [p] H H' → H' p = some (.ins C dx gs) → P H') : rFldB p C f v H P :=
  ⟨dx, fs, h, hl, q _ (Fr.put h trivial) (by rw [e]; exact upd_same)⟩
theorem g_rAdd (h : Q (.int (a + b)) H) : rAdd (.int a) (.int b) H Q := ⟨a, b, rfl, rfl, h⟩
theorem g_rSub (h : Q (.int (a - b)) H) : rSub (.int a) (.int b) H Q := ⟨a, b, rfl, rfl, h⟩
theorem g_mt {m : Str} {sp : Sp} (h : ta σ H (fun x H1 => rMt C m x H1 (as σ H1 fun vs H2 => sp (x :: vs) H2 Q E0))) : tMt C m sp ta as σ H Q := h
theorem g_rmt {m : Str} {fs : List (Str × V)} {P : Prop} (h : H p = some (.ins C dx fs)) (l : fs.lookup m = none) (q : P) : rMt C m (.ref p) H P := ⟨p, dx, fs, rfl, h, l, q⟩
def rMk (C : Addr) (sp : Sp) (vs : List V) (H1 : Hp) (Q : VK) : Prop := ∀ x dx, H1 x = none → H1 dx = none → dx ≠ x →
  sp (.ref x :: vs) (upd (upd H1 dx (.own x)) x (.ins C dx [])) (fun v H2 => v = .non ∧ Q (.ref x) H2) E0
theorem g_mk {sp : Sp} (h : as σ H (fun vs H1 => rMk C sp vs H1 Q)) : tMk C sp as σ H Q := h
theorem g_rmk {sp : Sp} {vs : List V} (k : ∀ x dx H2, H x = none → H dx = none → dx ≠ x → Fr [] H H2 → H2 x = some (.ins C dx []) → H2 dx = some (.own x) → sp (.ref x :: vs) H2 (fun v H3 => v = .non ∧ Q (.ref x) H3) E0) : rMk C sp vs H Q := by
  intro x dx nx nd ne
  refine k x dx _ nx nd ne ?_ upd_same (by rw [upd_ne ne]; exact upd_same)
  have f1 : Fr [] H (upd H dx (.own x)) := Fr.new nd
  exact f1.then0 (Fr.new (by rw [upd_ne ne.symm]; exact nx))
end

/-! ### isinstance against a built-in class -/
theorem kb_NoneType_list : kitB "NoneType" "list" = some false := by decide +kernel
theorem kb_NoneType_tuple : kitB "NoneType" "tuple" = some false := by decide +kernel
theorem kb_NoneType_bool : kitB "NoneType" "bool" = some false := by decide +kernel
theorem kb_NoneType_int : kitB "NoneType" "int" = some false := by decide +kernel
theorem kb_NoneType_str : kitB "NoneType" "str" = some false := by decide +kernel
theorem kb_NoneType_dict : kitB "NoneType" "dict" = some false := by decide +kernel
theorem kb_bool_list : kitB "bool" "list" = some false := by decide +kernel
theorem kb_bool_tuple : kitB "bool" "tuple" = some false := by decide +kernel
theorem kb_bool_bool : kitB "bool" "bool" = some true := by decide +kernel
theorem kb_bool_int : kitB "bool" "int" = some true := by decide +kernel
theorem kb_bool_str : kitB "bool" "str" = some false := by decide +kernel
theorem kb_bool_dict : kitB "bool" "dict" = some false := by decide +kernel
theorem kb_int_list : kitB "int" "list" = some false := by decide +kernel
theorem kb_int_tuple : kitB "int" "tuple" = some false := by decide +kernel
theorem kb_int_bool : kitB "int" "bool" = some false := by decide +kernel
theorem kb_int_int : kitB "int" "int" = some true := by decide +kernel
theorem kb_int_str : kitB "int" "str" = some false := by decide +kernel
theorem kb_int_dict : kitB "int" "dict" = some false := by decide +kernel
theorem kb_str_list : kitB "str" "list" = some false := by decide +kernel
theorem kb_str_tuple : kitB "str" "tuple" = some false := by decide +kernel
theorem kb_str_bool : kitB "str" "bool" = some false := by decide +kernel
theorem kb_str_int : kitB "str" "int" = some false := by decide +kernel
theorem kb_str_str : kitB "str" "str" = some true := by decide +kernel
theorem kb_str_dict : kitB "str" "dict" = some false := by decide +kernel
theorem kb_list_list : kitB "list" "list" = some true := by decide +kernel
theorem kb_list_tuple : kitB "list" "tuple" = some false := by decide +kernel
theorem kb_list_bool : kitB "list" "bool" = some false := by decide +kernel
theorem kb_list_int : kitB "list" "int" = some false := by decide +kernel
theorem kb_list_str : kitB "list" "str" = some false := by decide +kernel
theorem kb_list_dict : kitB "list" "dict" = some false := by decide +kernel
theorem kb_tuple_list : kitB "tuple" "list" = some false := by decide +kernel
theorem kb_tuple_tuple : kitB "tuple" "tuple" = some true := by decide +kernel
theorem kb_tuple_bool : kitB "tuple" "bool" = some false := by decide +kernel
theorem kb_tuple_int : kitB "tuple" "int" = some false := by decide +kernel
theorem kb_tuple_str : kitB "tuple" "str" = some false := by decide +kernel
theorem kb_tuple_dict : kitB "tuple" "dict" = some false := by decide +kernel
theorem kb_dict_list : kitB "dict" "list" = some false := by decide +kernel
theorem kb_dict_tuple : kitB "dict" "tuple" = some false := by decide +kernel
theorem kb_dict_bool : kitB "dict" "bool" = some false := by decide +kernel
theorem kb_dict_int : kitB "dict" "int" = some false := by decide +kernel
theorem kb_dict_str : kitB "dict" "str" = some false := by decide +kernel
theorem kb_dict_dict : kitB "dict" "dict" = some true := by decide +kernel

theorem g_isi {K : PySem.W.Frag} {H : Hp} {Q : VK} {x : V} {a b : String} {r : Bool} (ty : TyX K H x (.type a)) (h : kitB a b = some r) (q : Q (.bl r) H) : rIsi K [x, .ty b] H Q := ⟨x, .ty b, .type a, .type b, r, rfl, .ty b, ty, kit_ty h, q⟩
/-! ### immutable and other data -/
mutual
inductive Da (H : Hp) : V → PyData → Prop
  | non : Da H .non .none
  | bl (b : Bool) : Da H (.bl b) (.bool b)
  | int (i : Int) : Da H (.int i) (.int i)
  | str (x : Str) : Da H (.str x) (.str x)
  | lst {a : Addr} {xs : List V} {ds : List PyData} : H a = some (.lst xs) → xs.length ≤ 1000000 → DaL H xs ds → Da H (.ref a) (.list ds)
  | tup {a : Addr} {xs : List V} {ds : List PyData} : H a = some (.tup xs) → xs.length ≤ 1000000 → DaL H xs ds → Da H (.ref a) (.tuple ds)
inductive DaL (H : Hp) : List V → List PyData → Prop
  | nil : DaL H [] []
  | cons {v : V} {vs : List V} {d : PyData} {ds : List PyData} : Da H v d → DaL H vs ds → DaL H (v :: vs) (d :: ds)
end
/-! how deep -/
mutual
def dp : PyData → Nat
  | .list ds => dpL ds + 1
  | .tuple ds => dpL ds + 1
  | _ => 0
def dpL : List PyData → Nat
  | [] => 0
  | d :: ds => max (dp d) (dpL ds)
end
/-! no list within -/
mutual
def imm : PyData → Bool
  | .list _ => false
  | .tuple ds => immL ds
  | _ => true
def immL : List PyData → Bool
  | [] => true
  | d :: ds => imm d && immL ds
end
theorem DaL.len {H : Hp} : ∀ {vs : List V} {ds : List PyData}, DaL H vs ds → vs.length = ds.length
  | _, _, .nil => rfl
  | _, _, .cons _ t => by rw [List.length_cons, List.length_cons, DaL.len t]
theorem DaL.get {H : Hp} : ∀ {vs : List V} {ds : List PyData} {i : Nat} {v : V}, DaL H vs ds → vs[i]? = some v → ∃ d, ds[i]? = some d ∧ Da H v d
  | _, _, _, _, .nil, e => by simp at e
  | _, _, 0, _, .cons r _, e => by simp at e; subst e; exact ⟨_, rfl, r⟩
  | _, _, i + 1, v, .cons _ t, e => by
    obtain ⟨u, h1, h2⟩ := DaL.get (i := i) (v := v) t (by simpa using e)
    exact ⟨u, by simpa using h1, h2⟩
theorem DaL.get' {H : Hp} : ∀ {vs : List V} {ds : List PyData} {i : Nat} {d : PyData}, DaL H vs ds → ds[i]? = some d → ∃ v, vs[i]? = some v ∧ Da H v d
  | _, _, _, _, .nil, e => by simp at e
  | _, _, 0, _, .cons r _, e => by simp at e; subst e; exact ⟨_, rfl, r⟩
  | _, _, i + 1, v, .cons _ t, e => by
    obtain ⟨u, h1, h2⟩ := DaL.get' (i := i) (d := v) t (by simpa using e)
    exact ⟨u, by simpa using h1, h2⟩
theorem DaL.append {H : Hp} : ∀ {vs ws : List V} {ds es : List PyData}, DaL H vs ds → DaL H ws es → DaL H (vs ++ ws) (ds ++ es)
  | _, _, _, _, .nil, s => s
  | _, _, _, _, .cons r t, s => .cons r (DaL.append t s)
theorem dpL_get : ∀ {ds : List PyData} {i : Nat} {d : PyData}, ds[i]? = some d → dp d ≤ dpL ds
  | [], _, _, e => by simp at e
  | a :: r, 0, d, e => by simp at e; subst e; exact Nat.le_max_left _ _
  | a :: r, i + 1, d, e => Nat.le_trans (dpL_get (ds := r) (i := i) (by simpa using e)) (Nat.le_max_right _ _)
mutual
theorem Da.fr {l : List Addr} {H H' : Hp} (f : Fr l H H') : ∀ (d : PyData) (v : V), Da H v d → imm d = true → Da H' v d
  | .none, _, h, _ => by cases h; exact .non
  | .bool b, _, h, _ => by cases h; exact .bl b
  | .int i, _, h, _ => by cases h; exact .int i
  | .str x, _, h, _ => by cases h; exact .str x
  | .list ds, _, _, i => by simp [imm] at i
  | .tuple ds, _, h, i => by
    cases h with
    | tup e z r => exact .tup (f.tup _ _ e) z (DaL.fr f ds _ r (by simpa [imm] using i))
  | .dict _, _, h, _ => by cases h
theorem DaL.fr {l : List Addr} {H H' : Hp} (f : Fr l H H') : ∀ (ds : List PyData) (vs : List V), DaL H vs ds → immL ds = true → DaL H' vs ds
  | [], _, h, _ => by cases h; exact .nil
  | d :: ds, _, h, i => by
    simp only [immL, Bool.and_eq_true] at i
    cases h with
    | cons r t => exact .cons (Da.fr f d _ r i.1) (DaL.fr f ds _ t i.2)
end
mutual
theorem Da.dp {K : PySem.W.Frag} {H : Hp} : ∀ (d : PyData) (v : V), Da H v d → Dp K H v d
  | .none, _, h => by cases h; exact .non
  | .bool b, _, h => by cases h; exact .bl b
  | .int i, _, h => by cases h; exact .int i
  | .str x, _, h => by cases h; exact .str x
  | .list ds, _, h => by
    cases h with
    | lst e _ r => exact .lst (SqL.of e) (DaL.dp ds _ r)
  | .tuple ds, _, h => by
    cases h with
    | tup e _ r => exact .tup (SqT.of e) (DaL.dp ds _ r)
  | .dict _, _, h => by cases h
theorem DaL.dp {K : PySem.W.Frag} {H : Hp} : ∀ (ds : List PyData) (vs : List V), DaL H vs ds → DpAll K H vs ds
  | [], _, h => by cases h; exact .nil
  | d :: ds, _, h => by
    cases h with
    | cons r t => exact .cons (Da.dp d _ r) (DaL.dp ds _ t)
end
theorem Da.frL {l : List Addr} {H H' : Hp} (f : Fr l H H') {d : PyData} {v : V} (h : Da H v d) (i : imm d = true) : Da H' v d := Da.fr f d v h i
theorem DaL.frL {l : List Addr} {H H' : Hp} (f : Fr l H H') {ds : List PyData} {vs : List V} (h : DaL H vs ds) (i : immL ds = true) : DaL H' vs ds := DaL.fr f ds vs h i
theorem immL_append : ∀ {ds es : List PyData}, immL (ds ++ es) = (immL ds && immL es)
  | [], _ => by simp [immL]
  | d :: ds, es => by simp [immL, immL_append (ds := ds), Bool.and_assoc]
theorem dpL_append : ∀ {ds es : List PyData}, dpL (ds ++ es) = max (dpL ds) (dpL es)
  | [], _ => by simp [dpL]
  | d :: ds, es => by simp [dpL, dpL_append (ds := ds), Nat.max_assoc]

/-! ### loops and comprehensions -/
section
variable {K : PySem.W.Frag} {σ : L2.St} {H H' : Hp} {Q : VK} {D : Ends} {te tl : TE} {tt : TT} {tb : TS} {g : TG} {wi : TI} {ta : TA} {a b : Addr} {xs ys : List V} {vs : List Nat} {J : It}
def ForGo (J : It) (g : TG) (tb : TS) (D : Ends) (σ : L2.St) (H1 : Hp) : Prop := ∃ W : Nat → Nat → L2.St → Hp → Prop, (∃ m, W 0 m σ H1) ∧ ∀ i m σ H, W i m σ H →
  (J.stop i H ∧ D.nx σ H) ∨ (J.go i H ∧ ∃ N : L2.St → Hp → Prop, (∀ σ' H', N σ' H' → ∃ m', m' < m ∧ W (i + 1) m' σ' H') ∧ ∀ x H', J.yld i H x H' → g x σ H' fun σ2 H2 => tb { D with nx := N, ct := N, bk := D.nx } σ2 H2)
theorem g_for (h : wi σ H (fun J H1 => ForGo J g tb D σ H1)) : tFor wi g tb D σ H := h
def LcGo (J : It) (g : TG) (tt : TT) (te : TE) (vs : List Nat) (σ : L2.St) (Q : VK) (H1 : Hp) : Prop := ∀ D, H1 D = none → ∃ W : Nat → Nat → Hp → Prop, (∃ m, W 0 m (upd H1 D (.lst []))) ∧ ∀ i m H, W i m H →
  (J.stop i H ∧ Q (.ref D) H) ∨ (J.go i H ∧ ∃ Nx : Hp → Prop, (∀ H', Nx H' → ∃ m', m' < m ∧ W (i + 1) m' H') ∧ ∀ x H', J.yld i H x H' → g x (wipe σ vs) H' fun σ2 H2 => wipe σ2 vs = wipe σ vs ∧ tt σ2 H2 fun b H3 =>
    if b = true then te σ2 H3 fun y H4 => ∃ acc, H4 D = some (.lst acc) ∧ acc.length < sizeLine ∧ Nx (upd H4 D (.lst (acc ++ [y]))) else Nx H3)
theorem g_lc (h : wi σ H (fun J H1 => LcGo J g tt te vs σ Q H1)) : tLc wi g tt te vs σ H Q := h
variable {R : It → Hp → Prop}
def rItL (K : PySem.W.Frag) (x : V) (H : Hp) (R : It → Hp → Prop) : Prop := ∃ a, x = .ref a ∧ (∃ xs, SqL K H a xs) ∧ R (Itl K a) H
def rItT (K : PySem.W.Frag) (x : V) (H : Hp) (R : It → Hp → Prop) : Prop := ∃ a, x = .ref a ∧ (∃ xs, SqT K H a xs) ∧ R (Itt K a) H
theorem g_iL (h : tl σ H (fun x H1 => rItL K x H1 R)) : iList K tl σ H R := h
theorem g_iT (h : tl σ H (fun x H1 => rItT K x H1 R)) : iTup K tl σ H R := h
theorem g_riL (hS : SqL K H a xs) (h : R (Itl K a) H) : rItL K (.ref a) H R := ⟨a, rfl, ⟨xs, hS⟩, h⟩
theorem g_riT (hS : SqT K H a xs) (h : R (Itt K a) H) : rItT K (.ref a) H R := ⟨a, rfl, ⟨xs, hS⟩, h⟩
def rIt1 (vs : List V) (H : Hp) (R : It → Hp → Prop) : Prop := ∃ j : Int, vs = [.int j] ∧ -(2 ^ 62) ≤ j ∧ j < 2 ^ 62 ∧ R (Itr 0 j.toNat) H
def rIt2 (vs : List V) (H : Hp) (R : It → Hp → Prop) : Prop := ∃ i j : Int, vs = [.int i, .int j] ∧ (-(2 ^ 62) ≤ i ∧ i < 2 ^ 62 ∧ -(2 ^ 62) ≤ j ∧ j < 2 ^ 62) ∧ R (Itr i (j - i).toNat) H
theorem g_i1 (h : ta σ H (fun vs H1 => rIt1 vs H1 R)) : iRng1 ta σ H R := h
theorem g_i2 (h : ta σ H (fun vs H1 => rIt2 vs H1 R)) : iRng2 ta σ H R := h
theorem g_ri1 {j : Int} (h1 : -(2 ^ 62) ≤ j ∧ j < 2 ^ 62) (h : R (Itr 0 j.toNat) H) : rIt1 [.int j] H R := ⟨j, rfl, h1.1, h1.2, h⟩
theorem g_ri2 {i j : Int} (h1 : -(2 ^ 62) ≤ i ∧ i < 2 ^ 62 ∧ -(2 ^ 62) ≤ j ∧ j < 2 ^ 62) (h : R (Itr i (j - i).toNat) H) : rIt2 [.int i, .int j] H R := ⟨i, j, rfl, h1, h⟩
/-- for over a list that stands -/
theorem f_list (Pv : Nat → L2.St → Hp → Prop) (h0 : Pv 0 σ H) (hl : ∀ i σ H, i ≤ xs.length → Pv i σ H → SqL K H a xs)
    (hs : ∀ i x σ H, xs[i]? = some x → Pv i σ H → g x σ H fun σ2 H2 => tb { D with nx := Pv (i + 1), ct := Pv (i + 1), bk := D.nx } σ2 H2) (hd : ∀ σ H, Pv xs.length σ H → D.nx σ H) : ForGo (Itl K a) g tb D σ H := for_list Pv h0 hl hs hd
theorem f_tup (Pv : Nat → L2.St → Hp → Prop) (h0 : Pv 0 σ H) (hl : ∀ i σ H, i ≤ xs.length → Pv i σ H → SqT K H a xs)
    (hs : ∀ i x σ H, xs[i]? = some x → Pv i σ H → g x σ H fun σ2 H2 => tb { D with nx := Pv (i + 1), ct := Pv (i + 1), bk := D.nx } σ2 H2) (hd : ∀ σ H, Pv xs.length σ H → D.nx σ H) : ForGo (Itt K a) g tb D σ H := for_tup Pv h0 hl hs hd
theorem f_range {lo : Int} {n : Nat} (Pv : Nat → L2.St → Hp → Prop) (h0 : Pv 0 σ H)
    (hs : ∀ i σ H, i < n → Pv i σ H → g (.int (lo + i)) σ H fun σ2 H2 => tb { D with nx := Pv (i + 1), ct := Pv (i + 1), bk := D.nx } σ2 H2) (hd : ∀ σ H, Pv n σ H → D.nx σ H) : ForGo (Itr lo n) g tb D σ H := for_range Pv h0 hs hd
/-! a comprehension: what its turn is to reach -/
def lcY (Dl : Addr) (Pv : Nat → List V → Hp → Prop) (i : Nat) (y : V) (H4 : Hp) : Prop := ∃ acc, H4 Dl = some (.lst acc) ∧ acc.length < sizeLine ∧ ∃ acc', upd H4 Dl (.lst (acc ++ [y])) Dl = some (.lst acc') ∧ Pv (i + 1) acc' (upd H4 Dl (.lst (acc ++ [y])))
def lcN (Dl : Addr) (Pv : Nat → List V → Hp → Prop) (i : Nat) (H3 : Hp) : Prop := ∃ acc, H3 Dl = some (.lst acc) ∧ Pv (i + 1) acc H3
theorem lcY_of {Dl : Addr} {Pv : Nat → List V → Hp → Prop} {i : Nat} {y : V} {acc : List V} (h : H Dl = some (.lst acc)) (hl : acc.length < sizeLine) (k : ∀ H5, Fr [Dl] H H5 → H5 Dl = some (.lst (acc ++ [y])) → Pv (i + 1) (acc ++ [y]) H5) : lcY Dl Pv i y H :=
  ⟨acc, h, hl, _, upd_same, k _ (Fr.put h trivial) upd_same⟩
theorem lcN_of {Dl : Addr} {Pv : Nat → List V → Hp → Prop} {i : Nat} {acc : List V} (h : H Dl = some (.lst acc)) (k : Pv (i + 1) acc H) : lcN Dl Pv i H := ⟨acc, h, k⟩
abbrev lcStep (g : TG) (tt : TT) (te : TE) (vs : List Nat) (σ : L2.St) (Dl : Addr) (Pv : Nat → List V → Hp → Prop) (i : Nat) (x : V) (H' : Hp) : Prop :=
  g x (wipe σ vs) H' fun σ2 H2 => wipe σ2 vs = wipe σ vs ∧ tt σ2 H2 fun b H3 => if b = true then te σ2 H3 fun y H4 => lcY Dl Pv i y H4 else lcN Dl Pv i H3
theorem l_list (k : ∀ Dl H0, H Dl = none → Fr [] H H0 → H0 Dl = some (.lst []) → ∃ Pv : Nat → List V → Hp → Prop, Pv 0 [] H0 ∧ (∀ i acc H', Pv i acc H' → SqL K H' a xs) ∧
    (∀ i x acc H', xs[i]? = some x → H' Dl = some (.lst acc) → Pv i acc H' → lcStep g tt te vs σ Dl Pv i x H') ∧ (∀ acc H', H' Dl = some (.lst acc) → Pv xs.length acc H' → Q (.ref Dl) H')) : LcGo (Itl K a) g tt te vs σ Q H := by
  intro Dl hD
  obtain ⟨Pv, p0, pl, ps, pd⟩ := k Dl _ hD (Fr.new hD) upd_same
  exact lc_list (fun i H' => ∃ acc, H' Dl = some (.lst acc) ∧ Pv i acc H') ⟨[], upd_same, p0⟩ (fun i H' _ ⟨acc, _, p⟩ => pl i acc H' p) (fun i x H' hx ⟨acc, hd, p⟩ => ps i x acc H' hx hd p) (fun H' ⟨acc, hd, p⟩ => pd acc H' hd p)
theorem l_tup (k : ∀ Dl H0, H Dl = none → Fr [] H H0 → H0 Dl = some (.lst []) → ∃ Pv : Nat → List V → Hp → Prop, Pv 0 [] H0 ∧ (∀ i acc H', Pv i acc H' → SqT K H' a xs) ∧
    (∀ i x acc H', xs[i]? = some x → H' Dl = some (.lst acc) → Pv i acc H' → lcStep g tt te vs σ Dl Pv i x H') ∧ (∀ acc H', H' Dl = some (.lst acc) → Pv xs.length acc H' → Q (.ref Dl) H')) : LcGo (Itt K a) g tt te vs σ Q H := by
  intro Dl hD
  obtain ⟨Pv, p0, pl, ps, pd⟩ := k Dl _ hD (Fr.new hD) upd_same
  exact lc_tup (fun i H' => ∃ acc, H' Dl = some (.lst acc) ∧ Pv i acc H') ⟨[], upd_same, p0⟩ (fun i H' _ ⟨acc, _, p⟩ => pl i acc H' p) (fun i x H' hx ⟨acc, hd, p⟩ => ps i x acc H' hx hd p) (fun H' ⟨acc, hd, p⟩ => pd acc H' hd p)
theorem l_range {lo : Int} {n : Nat} (k : ∀ Dl H0, H Dl = none → Fr [] H H0 → H0 Dl = some (.lst []) → ∃ Pv : Nat → List V → Hp → Prop, Pv 0 [] H0 ∧
    (∀ i acc H', i < n → H' Dl = some (.lst acc) → Pv i acc H' → lcStep g tt te vs σ Dl Pv i (.int (lo + i)) H') ∧ (∀ acc H', H' Dl = some (.lst acc) → Pv n acc H' → Q (.ref Dl) H')) : LcGo (Itr lo n) g tt te vs σ Q H := by
  intro Dl hD
  obtain ⟨Pv, p0, ps, pd⟩ := k Dl _ hD (Fr.new hD) upd_same
  exact lc_range (fun i H' => ∃ acc, H' Dl = some (.lst acc) ∧ Pv i acc H') ⟨[], upd_same, p0⟩ (fun i H' hi ⟨acc, hd, p⟩ => ps i acc H' hi hd p) (fun H' ⟨acc, hd, p⟩ => pd acc H' hd p)
theorem g_and2 {A B : Prop} (a : A) (b : B) : A ∧ B := ⟨a, b⟩
theorem g_yes {QB : Bool → Hp → Prop} (h : QB true H) : tYes σ H QB := h
/-- a name's slot, ahead of a known one -/
theorem g_tr {x : V} {k : Bool} {QB : Bool → Hp → Prop} (h : TruV K x H k) (q : QB k H) : ∃ k, TruV K x H k ∧ QB k H := ⟨k, h, q⟩
theorem g_ttr {QB : Bool → Hp → Prop} (h : te σ H (fun x H' => ∃ k, TruV K x H' k ∧ QB k H')) : tTr K te σ H QB := h
end
theorem szM {n : Nat} (h : n ≤ 1000000) : n < sizeLine := Nat.lt_of_le_of_lt h (by decide)
theorem szL {n : Nat} (h : n ≤ 1000000) : n ≤ sizeLine := Nat.le_of_lt (szM h)
theorem getI {ns : List Int} {i : Nat} {x : V} (h : (ns.map V.int)[i]? = some x) : ∃ n, x = .int n ∧ ns[i]? = some n ∧ n ∈ ns := by
  rw [List.getElem?_map] at h
  cases e : ns[i]? with
  | none => rw [e] at h; cases h
  | some n => rw [e] at h; exact ⟨n, (Option.some.inj h).symm, rfl, List.mem_of_getElem? e⟩
theorem atI_of {α : Type} {xs : List α} {z : Int} (h0 : 0 ≤ z) (h : z < xs.length) : ∃ v, atI xs z = some v ∧ xs[z.toNat]? = some v := by
  have hk : z.toNat < xs.length := by omega
  have e : ((z.toNat : Nat) : Int) = z := by omega
  have q : xs[z.toNat]? = some xs[z.toNat] := List.getElem?_eq_getElem hk
  have w := atI_nat q
  rw [e] at w
  exact ⟨_, w, q⟩
theorem atI_mem {α : Type} {xs : List α} {z : Int} (h0 : 0 ≤ z) (h : z < xs.length) : ∃ v, atI xs z = some v ∧ v ∈ xs := by
  obtain ⟨v, a, b⟩ := atI_of h0 h
  exact ⟨v, a, List.mem_of_getElem? b⟩
theorem take_more {α : Type} : ∀ {l : List α} {i : Nat} {x : α}, l[i]? = some x → l.take (i + 1) = l.take i ++ [x]
  | [], i, x, h => by simp at h
  | a :: l, 0, x, h => by
    have e : a = x := Option.some.inj h
    subst e
    rfl
  | a :: l, i + 1, x, h => by
    have ih := take_more (l := l) (i := i) (x := x) h
    show a :: l.take (i + 1) = a :: l.take i ++ [x]
    rw [ih]
    rfl
theorem filter_more {α : Type} {l : List α} {i : Nat} {x : α} {f : α → Bool} (h : l[i]? = some x) : (l.take (i + 1)).filter f = (l.take i).filter f ++ (if f x = true then [x] else []) := by
  rw [take_more h, List.filter_append]
  congr 1
  by_cases q : f x = true
  · simp [q]
  · simp [q]
theorem Da.tup1 {H : Hp} {v : V} {ds : List PyData} (h : Da H v (.tuple ds)) : ∃ a xs, v = .ref a ∧ H a = some (.tup xs) ∧ xs.length ≤ 1000000 ∧ DaL H xs ds := by
  cases h with
  | tup e z r => exact ⟨_, _, rfl, e, z, r⟩
theorem Da.lst1 {H : Hp} {v : V} {ds : List PyData} (h : Da H v (.list ds)) : ∃ a xs, v = .ref a ∧ H a = some (.lst xs) ∧ xs.length ≤ 1000000 ∧ DaL H xs ds := by
  cases h with
  | lst e z r => exact ⟨_, _, rfl, e, z, r⟩
theorem DaL.two {H : Hp} {xs : List V} {d e : PyData} (h : DaL H xs [d, e]) : ∃ x y, xs = [x, y] ∧ Da H x d ∧ Da H y e := by
  cases h with
  | cons a t => cases t with
    | cons b u => cases u; exact ⟨_, _, rfl, a, b⟩
theorem DaL.three {H : Hp} {xs : List V} {d e f : PyData} (h : DaL H xs [d, e, f]) : ∃ x y z, xs = [x, y, z] ∧ Da H x d ∧ Da H y e ∧ Da H z f := by
  cases h with
  | cons a t => cases t with
    | cons b u => cases u with
      | cons c u => cases u; exact ⟨_, _, _, rfl, a, b, c⟩
theorem Da.int1 {H : Hp} {v : V} {i : Int} (h : Da H v (.int i)) : v = .int i := by cases h; rfl
theorem Da.str1 {H : Hp} {v : V} {i : Str} (h : Da H v (.str i)) : v = .str i := by cases h; rfl
theorem Da.bl1 {H : Hp} {v : V} {i : Bool} (h : Da H v (.bool i)) : v = .bl i := by cases h; rfl
theorem Da.non1 {H : Hp} {v : V} (h : Da H v .none) : v = .non := by cases h; rfl
theorem DaL.one' {H : Hp} {v : V} {d : PyData} (h : Da H v d) : DaL H [v] [d] := .cons h .nil
theorem immL_get : ∀ {ds : List PyData} {i : Nat} {d : PyData}, immL ds = true → ds[i]? = some d → imm d = true
  | [], _, _, _, e => by simp at e
  | a :: r, 0, d, h, e => by simp at e; subst e; simp [immL] at h; exact h.1
  | a :: r, i + 1, d, h, e => by simp [immL] at h; exact immL_get (ds := r) (i := i) h.2 (by simpa using e)
theorem immL_of : ∀ {ds : List PyData}, (∀ d ∈ ds, imm d = true) → immL ds = true
  | [], _ => rfl
  | a :: r, h => by simp [immL, h a List.mem_cons_self, immL_of (ds := r) fun d hd => h d (List.mem_cons_of_mem _ hd)]
theorem imm_of : ∀ {ds : List PyData}, immL ds = true → ∀ d ∈ ds, imm d = true
  | [], _, d, hd => by cases hd
  | a :: r, h, d, hd => by
    simp only [immL, Bool.and_eq_true] at h
    rcases List.mem_cons.mp hd with e | e
    · rw [e]; exact h.1
    · exact imm_of h.2 d e
theorem dpL_mem : ∀ {ds : List PyData} {d : PyData}, d ∈ ds → dp d ≤ dpL ds
  | [], _, h => by cases h
  | a :: r, d, h => by
    rcases List.mem_cons.mp h with e | e
    · rw [e]; exact Nat.le_max_left _ _
    · exact Nat.le_trans (dpL_mem e) (Nat.le_max_right _ _)
theorem dpL_le {n : Nat} : ∀ {ds : List PyData}, (∀ d ∈ ds, dp d ≤ n) → dpL ds ≤ n
  | [], _ => Nat.zero_le _
  | a :: r, h => Nat.max_le.mpr ⟨h a List.mem_cons_self, dpL_le fun d hd => h d (List.mem_cons_of_mem _ hd)⟩
theorem DaL.ints {H : Hp} : ∀ {xs : List V} {r : List Int}, DaL H xs (r.map .int) → xs = r.map V.int
  | [], [], _ => rfl
  | x :: xs, n :: r, h => by
    cases h with
    | cons a t => rw [a.int1, DaL.ints t]; rfl
  | [], _ :: _, h => by cases h
  | _ :: _, [], h => by cases h
theorem DaL.ofInts {H : Hp} : ∀ (r : List Int), DaL H (r.map V.int) (r.map .int)
  | [] => .nil
  | n :: r => .cons (.int n) (DaL.ofInts r)
theorem DaL.set {H : Hp} : ∀ {vs : List V} {ds : List PyData} {i : Nat} {v : V} {d : PyData}, DaL H vs ds → Da H v d → DaL H (vs.set i v) (ds.set i d)
  | _, _, _, _, _, .nil, _ => .nil
  | _, _, 0, _, _, .cons _ t, q => .cons q t
  | _, _, i + 1, _, _, .cons r t, q => .cons r (DaL.set (i := i) t q)
/-! slices, pop at -/
section
variable {K : PySem.W.Frag} {σ : L2.St} {H H' : Hp} {Q : VK} {te : TE} {tl th : TO} {p : Addr} {xs : List V} {lo hi : Option Int}
theorem g_sl {r : V → Option Int → Option Int → Hp → VK → Prop} (h : te σ H fun x H1 => tl σ H1 fun l H2 => th σ H2 fun u H3 => r x l u H3 Q) : tSl r te tl th σ H Q := h
theorem g_noP {QO : Option Int → Hp → Prop} (h : QO none H) : tNoPart σ H QO := h
def rPart (x : V) (H : Hp) (QO : Option Int → Hp → Prop) : Prop := ∃ i, x = .int i ∧ QO (some i) H
theorem g_part {QO : Option Int → Hp → Prop} (h : te σ H fun x H1 => rPart x H1 QO) : tPart te σ H QO := h
theorem g_rpart {i : Int} {QO : Option Int → Hp → Prop} (h : QO (some i) H) : rPart (.int i) H QO := ⟨i, rfl, h⟩
theorem g_slL (h : SqL K H p xs) (q : ∀ l H', H l = none → Fr [] H H' → H' l = some (.lst (cutV xs lo hi)) → Q (.ref l) H') : rSlL K (.ref p) lo hi H Q := ⟨p, xs, rfl, h, fun l hl => q l _ hl (Fr.new hl) upd_same⟩
theorem g_popAt {i : Int} {y : V} (h : H p = some (.lst xs)) (hl : xs.length ≤ 1000000) (h0 : 0 ≤ i) (hy : xs[i.toNat]? = some y) (q : ∀ H', Fr [p] H H' → H' p = some (.lst (xs.eraseIdx i.toNat)) → Q y H') : rPopAt (.ref p) [.int i] H Q := by
  have hlt := (List.getElem?_eq_some_iff.mp hy).1
  refine ⟨p, xs, i, i.toNat, y, rfl, rfl, h, by omega, by omega, ?_, hy, q _ (Fr.put h trivial) upd_same⟩
  refine (ixN_seq (i := i) ?_).1
  unfold ixN
  rw [if_pos h0, if_pos (by omega)]
end
theorem cut_take {xs : List V} {n : Nat} (h : n ≤ xs.length) : cutV xs none (some (n : Int)) = xs.take n := by
  unfold cutV
  rw [HT.sIx_none, HT.sIx_nat, Nat.min_eq_left h, Nat.sub_zero, List.drop_zero]
theorem DaL.take {H : Hp} : ∀ {xs : List V} {ds : List PyData} (n : Nat), DaL H xs ds → DaL H (xs.take n) (ds.take n)
  | _, _, 0, _ => .nil
  | _, _, n + 1, .nil => .nil
  | _, _, n + 1, .cons a t => .cons a (DaL.take n t)
theorem DaL.erase {H : Hp} : ∀ {xs : List V} {ds : List PyData} (n : Nat), DaL H xs ds → DaL H (xs.eraseIdx n) (ds.eraseIdx n)
  | _, _, _, .nil => .nil
  | _, _, 0, .cons _ t => t
  | _, _, n + 1, .cons a t => .cons a (DaL.erase n t)
/-- a statement that is never reached -/
def tDead : TS := fun _ _ _ => False
theorem ps_dead {X : Cx} {st : Stmt} : PS X st tDead := ⟨fun _ _ _ _ _ _ h => h.elim⟩
end Lw

namespace Lw
open PySem L2
/-! ### tables: plain lists of keys and values -/
section
variable {κ α : Type} [DecidableEq κ]
def lk (m : List (κ × α)) (k : κ) : Option α := (m.find? fun e => decide (e.1 = k)).map (·.2)
def pt (m : List (κ × α)) (k : κ) (v : α) : List (κ × α) := if (m.any fun e => decide (e.1 = k)) = true then m.map (fun e => if e.1 = k then (e.1, v) else e) else m ++ [(k, v)]
def dr (m : List (κ × α)) (k : κ) : List (κ × α) := m.filter fun e => decide (e.1 ≠ k)
/-- a table as the layer's pairs -/
def enD {κ' : Type} (f : κ → κ') (g : α → V) (m : List (κ × α)) : List (κ' × V) := m.map fun e => (f e.1, g e.2)
variable {κ' : Type} [DecidableEq κ'] {f : κ → κ'} {g : α → V}
theorem enD_dec (inj : ∀ a b, f a = f b → a = b) (a b : κ) : decide (f a = f b) = decide (a = b) := by
  by_cases h : a = b
  · subst h; simp
  · rw [decide_eq_false h, decide_eq_false fun q => h (inj _ _ q)]
theorem enD_val (inj : ∀ a b, f a = f b → a = b) (m : List (κ × α)) (k : κ) : valV (enD f g m) (f k) = (lk m k).map g := by
  induction m with
  | nil => rfl
  | cons e r ih =>
    by_cases h : e.1 = k
    · have h1 : valV (enD f g (e :: r)) (f k) = some (g e.2) := valV_pos (p := (f e.1, g e.2)) (by rw [h])
      rw [h1]; simp [lk, List.find?_cons, h]
    · have h1 : valV (enD f g (e :: r)) (f k) = valV (enD f g r) (f k) := valV_neg (p := (f e.1, g e.2)) (fun q => h (inj _ _ q))
      rw [h1, ih]; simp [lk, List.find?_cons, h]
theorem enD_any (inj : ∀ a b, f a = f b → a = b) (m : List (κ × α)) (k : κ) : ((enD f g m).any fun e => decide (e.1 = f k)) = m.any fun e => decide (e.1 = k) := by
  induction m with
  | nil => rfl
  | cons e r ih =>
    show (decide (f e.1 = f k) || (enD f g r).any fun e => decide (e.1 = f k)) = _
    rw [ih, enD_dec inj]
    rfl
theorem enD_put (inj : ∀ a b, f a = f b → a = b) (m : List (κ × α)) (k : κ) (v : α) : putK (enD f g m) (f k) (g v) = enD f g (pt m k v) := by
  unfold putK pt
  rw [enD_any inj]
  by_cases h : (m.any fun e => decide (e.1 = k)) = true
  · rw [if_pos h, if_pos h]
    unfold enD
    rw [List.map_map, List.map_map]
    refine List.map_congr_left fun e _ => ?_
    show (if f e.1 = f k then (f e.1, g v) else (f e.1, g e.2)) = _
    by_cases q : e.1 = k
    · simp [q]
    · rw [if_neg fun z => q (inj _ _ z)]; simp [q]
  · rw [if_neg h, if_neg h]
    unfold enD
    rw [List.map_append]
    rfl
theorem enD_drop (inj : ∀ a b, f a = f b → a = b) (m : List (κ × α)) (k : κ) : dropK (enD f g m) (f k) = enD f g (dr m k) := by
  unfold dropK dr enD
  rw [List.filter_map]
  congr 1
  refine List.filter_congr fun e _ => ?_
  show decide (f e.1 ≠ f k) = decide (e.1 ≠ k)
  by_cases h : e.1 = k
  · simp [h]
  · have : f e.1 ≠ f k := fun q => h (inj _ _ q)
    simp [h, this]
theorem enD_len (m : List (κ × α)) : (enD f g m).length = m.length := by unfold enD; rw [List.length_map]
theorem enD_get {m : List (κ × α)} {i : Nat} {k : κ'} {v : V} (h : (enD f g m)[i]? = some (k, v)) : ∃ e, m[i]? = some e ∧ k = f e.1 ∧ v = g e.2 := by
  unfold enD at h
  rw [List.getElem?_map] at h
  cases q : m[i]? with
  | none => rw [q] at h; cases h
  | some e => rw [q] at h; cases h; exact ⟨e, rfl, rfl, rfl⟩
theorem lk_pt (m : List (κ × α)) (k j : κ) (v : α) : lk (pt m k v) j = if j = k then some v else lk m j := by
  have h := enD_put (f := fun k : κ => k) (g := fun _ : α => V.non) (fun _ _ q => q) m k v
  unfold pt
  induction m with
  | nil =>
    by_cases e : j = k
    · simp [lk, e]
    · have : ¬ k = j := fun q => e q.symm
      simp [lk, e, this]
  | cons e r ih =>
    by_cases hk : e.1 = k
    · have ha : ((e :: r).any fun e => decide (e.1 = k)) = true := by simp [hk]
      rw [if_pos ha]
      by_cases hj : j = k
      · rw [if_pos hj]; simp [lk, List.find?_cons, hk, hj]
      · rw [if_neg hj]
        have hk2 : ¬ k = j := fun q => hj q.symm
        have : ∀ r : List (κ × α), lk (r.map fun e => if e.1 = k then (e.1, v) else e) j = lk r j := by
          intro r
          induction r with
          | nil => rfl
          | cons a t ih2 =>
            by_cases ha : a.1 = k
            · have h1 : ¬ a.1 = j := fun q => hj (q.symm.trans ha)
              simp only [List.map_cons, lk, List.find?_cons, if_pos ha, decide_eq_false h1]
              exact ih2
            · by_cases h1 : a.1 = j
              · simp only [List.map_cons, lk, List.find?_cons, if_neg ha, decide_eq_true h1]
              · simp only [List.map_cons, lk, List.find?_cons, if_neg ha, decide_eq_false h1]
                exact ih2
        exact this (e :: r)
    · have ha : ((e :: r).any fun e => decide (e.1 = k)) = r.any fun e => decide (e.1 = k) := by simp [hk]
      rw [ha]
      have ih' := ih (enD_put (f := fun k : κ => k) (g := fun _ : α => V.non) (fun _ _ q => q) r k v)
      by_cases hb : (r.any fun e => decide (e.1 = k)) = true
      · rw [if_pos hb] at ih' ⊢
        by_cases h1 : e.1 = j
        · have h2 : ¬ j = k := fun q => hk (h1.trans q)
          simp [lk, List.find?_cons, hk, h1, h2]
        · simp only [List.map_cons, if_neg hk, lk, List.find?_cons, decide_eq_false h1] at ih' ⊢
          exact ih'
      · rw [if_neg hb] at ih' ⊢
        by_cases h1 : e.1 = j
        · have h2 : ¬ j = k := fun q => hk (h1.trans q)
          simp [lk, List.find?_cons, h1, h2]
        · simp only [List.cons_append, lk, List.find?_cons, decide_eq_false h1] at ih' ⊢
          exact ih'
end
/-! ### readings of dicts -/
section
variable {K : PySem.W.Frag} {σ : L2.St} {H H' : Hp} {Q : VK} {D : Ends} {td ty te tv tx : TE} {tt : TT} {tb t : TS} {g : TG} {a b d q : Addr} {o : Obj} {kvs : List (List Key × V)} {k : List Key} {v x y z : V} {vs : List Nat} {R : It → Hp → Prop} {as : TA}
/-- may be read as a dict with tuple keys -/
abbrev RdT (H : Hp) (a : Addr) (kvs : List (List Key × V)) : Prop := Rd H a (.dT kvs)
def rDG (x y : V) (H : Hp) (Q : VK) : Prop := ∃ a v, x = .ref a ∧ DGet H a y (some v) ∧ Q v H
theorem g_dget (h : td σ H fun x H1 => ty σ H1 fun y H2 => rDG x y H2 Q) : tDGet td ty σ H Q := h
theorem g_rdg (h : Rd H a (.dT kvs)) (e : H b = some (.tup (k.map kV))) (l : valV kvs k = some v) (c : Q v H) : rDG (.ref a) (.ref b) H Q := ⟨a, v, rfl, .inr ⟨kvs, k, b, h, rfl, e, l.symm⟩, c⟩
def rDI (y x : V) (H : Hp) (Q : VK) : Prop := ∃ a o, x = .ref a ∧ DGet H a y o ∧ Q (.bl o.isSome) H
def rDNI (y x : V) (H : Hp) (Q : VK) : Prop := ∃ a o, x = .ref a ∧ DGet H a y o ∧ Q (.bl (!o.isSome)) H
theorem g_din (h : ty σ H fun y H1 => td σ H1 fun x H2 => rDI y x H2 Q) : tDIn ty td σ H Q := h
theorem g_dnin (h : ty σ H fun y H1 => td σ H1 fun x H2 => rDNI y x H2 Q) : tDNotIn ty td σ H Q := h
theorem g_rdi (h : Rd H a (.dT kvs)) (e : H b = some (.tup (k.map kV))) (c : Q (.bl (valV kvs k).isSome) H) : rDI (.ref b) (.ref a) H Q := ⟨a, _, rfl, .inr ⟨kvs, k, b, h, rfl, e, rfl⟩, c⟩
theorem g_rdni (h : Rd H a (.dT kvs)) (e : H b = some (.tup (k.map kV))) (c : Q (.bl (!(valV kvs k).isSome)) H) : rDNI (.ref b) (.ref a) H Q := ⟨a, _, rfl, .inr ⟨kvs, k, b, h, rfl, e, rfl⟩, c⟩
def rDP (x y v : V) (H : Hp) (P : Hp → Prop) : Prop := ∃ a H4, x = .ref a ∧ DPut H a y v H4 ∧ P H4
theorem g_dput (h : tv σ H fun v H1 => td σ H1 fun x H2 => ty σ H2 fun y H3 => rDP x y v H3 fun H4 => D.nx σ H4) : sDPut td ty tv D σ H := h
theorem g_rdp {P : Hp → Prop} (h : H a = some (.dT kvs)) (e : H b = some (.tup (k.map kV))) (hl : kvs.length < sizeLine) (c : ∀ H', Fr [a] H H' → H' a = some (.dT (putK kvs k v)) → P H') : rDP (.ref a) (.ref b) v H P :=
  ⟨a, _, rfl, .inr ⟨kvs, k, b, h, rfl, e, hl, rfl⟩, c _ (Fr.put h trivial) upd_same⟩
def rDG2 (x : V) (H : Hp) (P : Addr → Prop) : Prop := ∃ a, x = .ref a ∧ IsD H a ∧ P a
def rDO (a : Addr) (y z : V) (H : Hp) (Q : VK) : Prop := ∃ o, DGet H a y o ∧ Q (o.getD z) H
theorem g_dget2 (h : td σ H fun x H1 => rDG2 x H1 fun a => ty σ H1 fun y H2 => tx σ H2 fun z H3 => rDO a y z H3 Q) : tDGet2 td ty tx σ H Q := h
theorem g_dget1 (h : td σ H fun x H1 => rDG2 x H1 fun a => ty σ H1 fun y H2 => rDO a y .non H2 Q) : tDGet1 td ty σ H Q := h
theorem g_rdg2 {P : Addr → Prop} (h : Rd H a (.dT kvs)) (c : P a) : rDG2 (.ref a) H P := ⟨a, rfl, .inr ⟨kvs, h⟩, c⟩
theorem g_dgo (h : Rd H a (.dT kvs)) (e : H b = some (.tup (k.map kV))) (c : Q (((valV kvs k)).getD z) H) : rDO a (.ref b) z H Q := ⟨_, .inr ⟨kvs, k, b, h, rfl, e, rfl⟩, c⟩
theorem g_dnew (c : ∀ p H', H p = none → Fr [] H H' → H' p = some (.dT []) → Q (.ref p) H') : tDNewT σ H Q := fun p hp => c p _ hp (Fr.new hp) upd_same
theorem g_dnewK (c : ∀ p H', H p = none → Fr [] H H' → H' p = some (.dK []) → Q (.ref p) H') : tDNewK σ H Q := fun p hp => c p _ hp (Fr.new hp) upd_same
/-! a walk over a dict, which is locked meanwhile -/
def rUl (d : Addr) (od : Obj) (u : HO) (H : Hp) (P : Hp → Prop) : Prop := H d = some (.frz od u) ∧ P (upd H d u)
theorem g_unl {u : HO} {P : Hp → Prop} (h : H d = some (.frz o u)) (c : ∀ H', Fr [d] H H' → H' d = some u → P H') : rUl d o u H P := ⟨h, c _ (Fr.put h trivial) upd_same⟩
theorem g_lock {u : HO} (h : H d = some u) (m : Mut (some u)) (nt : notTup u) (c : ∀ od H0, Fr [d] H H0 → H0 d = some (.frz od u) → t ⟨fun σ' H' => rUl d od u H' fun H2 => D.nx σ' H2, fun v H' => rUl d od u H' fun H2 => D.rt v H2,
    fun σ' H' => rUl d od u H' fun H2 => D.bk σ' H2, fun σ' H' => rUl d od u H' fun H2 => D.ct σ' H2⟩ σ H0) : tLock t D σ H := ⟨d, u, h, m, fun od => c od _ (Fr.put h nt) upd_same⟩
theorem g_lockE {u : HO} (h : H d = some u) (m : Mut (some u)) (nt : notTup u) (c : ∀ od H0, Fr [d] H H0 → H0 d = some (.frz od u) → te σ H0 fun v H' => rUl d od u H' fun H2 => Q v H2) : tLockE te σ H Q := ⟨d, u, h, m, fun od => c od _ (Fr.put h nt) upd_same⟩
def rKy (x : V) (H : Hp) (R : It → Hp → Prop) : Prop := ∃ d o, x = .ref d ∧ ((∃ kvs, H d = some (.frz o (.dK kvs)) ∧ R (Itk d o kvs) H) ∨ ∃ kvs, H d = some (.frz o (.dT kvs)) ∧ R (Itkt d o kvs) H)
theorem g_iK (h : td σ H fun x H1 => rKy x H1 R) : iKeys td σ H R := h
theorem g_rkt (h : H d = some (.frz o (.dT kvs))) (c : R (Itkt d o kvs) H) : rKy (.ref d) H R := ⟨d, o, rfl, .inr ⟨kvs, h, c⟩⟩
theorem f_keysT (Pv : Nat → L2.St → Hp → Prop) (h0 : Pv 0 σ H) (hl : ∀ i σ H, i ≤ kvs.length → Pv i σ H → H d = some (.frz o (.dT kvs)))
    (hs : ∀ i k v q σ H, kvs[i]? = some (k, v) → H q = some (.tup (k.map kV)) → Pv i σ H → g (.ref q) σ H fun σ2 H2 => tb { D with nx := Pv (i + 1), ct := Pv (i + 1), bk := D.nx } σ2 H2) (hd : ∀ σ H, Pv kvs.length σ H → D.nx σ H) : ForGo (Itkt d o kvs) g tb D σ H :=
  for_it walk_keysT Pv h0 hl (fun i x σ H H' hi p y => by obtain ⟨rfl, k, v, q, h1, rfl, h3⟩ := y; exact hs i k v q σ _ h1 h3 p) hd
theorem l_keysT (c : ∀ Dl H0, H Dl = none → Fr [] H H0 → H0 Dl = some (.lst []) → ∃ Pv : Nat → List V → Hp → Prop, Pv 0 [] H0 ∧ (∀ i acc H', Pv i acc H' → H' d = some (.frz o (.dT kvs))) ∧
    (∀ i k v q acc H', kvs[i]? = some (k, v) → H' q = some (.tup (k.map kV)) → H' Dl = some (.lst acc) → Pv i acc H' → lcStep g tt te vs σ Dl Pv i (.ref q) H') ∧ (∀ acc H', H' Dl = some (.lst acc) → Pv kvs.length acc H' → Q (.ref Dl) H')) : LcGo (Itkt d o kvs) g tt te vs σ Q H := by
  intro Dl hD
  obtain ⟨Pv, p0, pl, ps, pd⟩ := c Dl _ hD (Fr.new hD) upd_same
  exact lc_it walk_keysT (fun i H' => ∃ acc, H' Dl = some (.lst acc) ∧ Pv i acc H') ⟨[], upd_same, p0⟩ (fun i H' _ ⟨acc, _, p⟩ => pl i acc H' p) (fun i x H1 H' hi ⟨acc, hd, p⟩ y => by obtain ⟨rfl, k, v, q, h1, rfl, h3⟩ := y; exact ps i k v q acc _ h1 h3 hd p) (fun H' ⟨acc, hd, p⟩ => pd acc H' hd p)
/-! targets that are tuples -/
def rGt (K : PySem.W.Frag) (n : Nat) (t : TGs) (v : V) (σ : L2.St) (H : Hp) (P : L2.St → Hp → Prop) : Prop := ∃ a xs, v = .ref a ∧ SqT K H a xs ∧ xs.length = n ∧ t xs σ H P
theorem g_gtup {n : Nat} {t : TGs} {P : L2.St → Hp → Prop} {xs : List V} (h : SqT K H a xs) (hl : xs.length = n) (c : t xs σ H P) : gTup K n t (.ref a) σ H P := ⟨a, xs, rfl, h, hl, c⟩
theorem g_gcons {t : TG} {u : TGs} {P : L2.St → Hp → Prop} {r : List V} (c : t v σ H fun σ' H' => u r σ' H' P) : gCons t u (v :: r) σ H P := ⟨v, r, rfl, c⟩
theorem g_gnil {P : L2.St → Hp → Prop} (c : P σ H) : gNil [] σ H P := ⟨rfl, c⟩
/-! enumerate, zip: a new pair a turn -/
def rEn (K : PySem.W.Frag) (vs : List V) (H : Hp) (R : It → Hp → Prop) : Prop := ∃ a xs, vs = [.ref a] ∧ SqL K H a xs ∧ R (Ite K a) H
theorem g_iE (h : as σ H fun vs H1 => rEn K vs H1 R) : iEnum K as σ H R := h
theorem g_ren {xs : List V} (h : SqL K H a xs) (c : R (Ite K a) H) : rEn K [.ref a] H R := ⟨a, xs, rfl, h, c⟩
theorem f_enum {xs : List V} (Pv : Nat → L2.St → Hp → Prop) (h0 : Pv 0 σ H) (hl : ∀ i σ H, i ≤ xs.length → Pv i σ H → SqL K H a xs)
    (hs : ∀ i x T σ H H', xs[i]? = some x → Pv i σ H → H T = none → Fr [] H H' → H' T = some (.tup [.int (i : Nat), x]) → g (.ref T) σ H' fun σ2 H2 => tb { D with nx := Pv (i + 1), ct := Pv (i + 1), bk := D.nx } σ2 H2) (hd : ∀ σ H, Pv xs.length σ H → D.nx σ H) : ForGo (Ite K a) g tb D σ H :=
  for_it walk_enum Pv h0 hl (fun i x σ H H' hi p y => by
    obtain ⟨T, u, w, rfl, h2, rfl, h4, h5⟩ := y
    cases h4
    exact hs i w T σ H _ h5 p h2 (Fr.new h2) upd_same) hd
def rZp (K : PySem.W.Frag) (vs : List V) (H : Hp) (R : It → Hp → Prop) : Prop := ∃ a b xs ys, vs = [.ref a, .ref b] ∧ SqL K H a xs ∧ SqL K H b ys ∧ R (Itz K a b) H
theorem g_iZ (h : as σ H fun vs H1 => rZp K vs H1 R) : iZip K as σ H R := h
theorem g_rzp {xs ys : List V} (h : SqL K H a xs) (h2 : SqL K H b ys) (c : R (Itz K a b) H) : rZp K [.ref a, .ref b] H R := ⟨a, b, xs, ys, rfl, h, h2, c⟩
theorem f_zip {xs ys : List V} {n : Nat} (hn : n = min xs.length ys.length) (Pv : Nat → L2.St → Hp → Prop) (h0 : Pv 0 σ H) (hl : ∀ i σ H, i ≤ n → Pv i σ H → SqL K H a xs ∧ SqL K H b ys)
    (hs : ∀ i x y T σ H H', xs[i]? = some x → ys[i]? = some y → Pv i σ H → H T = none → Fr [] H H' → H' T = some (.tup [x, y]) → g (.ref T) σ H' fun σ2 H2 => tb { D with nx := Pv (i + 1), ct := Pv (i + 1), bk := D.nx } σ2 H2) (hd : ∀ σ H, Pv n σ H → D.nx σ H) : ForGo (Itz K a b) g tb D σ H :=
  for_it (walk_zip hn) Pv h0 hl (fun i x σ H H' hi p y => by
    obtain ⟨T, u, w, rfl, h2, rfl, h4, h5⟩ := y
    exact hs i u w T σ H _ h4 h5 p h2 (Fr.new h2) upd_same) hd
/-- sum, min of a list of ints -/
theorem g_sum {ns : List Int} (h : SqL K H a (ns.map V.int)) (c : Q (.int ns.sum) H) : rSum K [.ref a] H Q := ⟨a, ns, rfl, h, c⟩
theorem g_all {bs : List Bool} (h : SqL K H a (bs.map V.bl)) (c : Q (.bl (bs.all id)) H) : rAll K [.ref a] H Q := ⟨a, bs, rfl, h, c⟩
theorem g_any {bs : List Bool} (h : SqL K H a (bs.map V.bl)) (c : Q (.bl (bs.any id)) H) : rAny K [.ref a] H Q := ⟨a, bs, rfl, h, c⟩
theorem g_catT {xs ys : List V} (h : SqT K H a xs) (h2 : SqT K H b ys) (hne : xs ≠ []) (hl : xs.length + ys.length ≤ sizeLine) (c1 : ys = [] → Q (.ref a) H) (c2 : ys ≠ [] → ∀ p H', H p = none → Fr [] H H' → H' p = some (.tup (xs ++ ys)) → Q (.ref p) H') : rCatT K (.ref a) (.ref b) H Q :=
  ⟨a, b, xs, ys, rfl, rfl, h, h2, hne, hl, c1, fun e p hp => c2 e p _ hp (Fr.new hp) upd_same⟩
theorem g_cat {xs ys : List V} (h : H a = some (.lst xs)) (h2 : H b = some (.lst ys)) (hl : xs.length + ys.length ≤ sizeLine) (c : ∀ p H', H p = none → Fr [] H H' → H' p = some (.lst (xs ++ ys)) → Q (.ref p) H') : rCat (.ref a) (.ref b) H Q :=
  ⟨a, b, xs, ys, rfl, rfl, h, h2, hl, fun p hp => c p _ hp (Fr.new hp) upd_same⟩
end
/-! ### sorted of data -/
section
open PySem.W in
/-- sorted(xs), xs a list that reads as data of one shape: a new list of the same values in their order -/
def rSortD (K : PySem.W.Frag) : List V → Hp → VK → Prop := fun vs H Q => ∃ (a : Addr) (bs : List (V × PyData)), vs = [V.ref a] ∧ SqL K H a (bs.map (·.1)) ∧ (∀ b ∈ bs, Da H b.1 b.2) ∧ AllAlike (bs.map (·.2)) ∧ Sortable (bs.map (·.2)) ∧ (∀ b ∈ bs, b.2.depth ≤ 60) ∧
  ∀ p, H p = none → Q (.ref p) (upd H p (.lst ((bs.mergeSort (dataLe false (·.2))).map (·.1))))
variable {X : Cx}
open PySem.W in
theorem eachV {s : Shared} {H : Hp} {pins : List (Addr × Obj)} {σ : L2.St} (I : Inv X pins σ H s) : ∀ (bs : List (V × PyData)) (us : List Value), Vals (bs.map (·.1)) us → (∀ b ∈ bs, Da H b.1 b.2) → EachIs (fun u (b : V × PyData) => RelV b.1 u) us bs ∧ EachIs (fun u (b : V × PyData) => ∃ as, PySem.Reads s.heap u b.2 as) us bs
  | [], us, r, _ => by cases r; exact ⟨.nil, .nil⟩
  | b :: bs, us, r, h => by
    cases r with
    | cons r1 r2 =>
      obtain ⟨e1, e2⟩ := eachV I bs _ r2 fun c hc => h c (List.mem_cons_of_mem _ hc)
      exact ⟨.cons r1 e1, .cons (Dp.reads I _ _ _ (Da.dp (K := X.K) _ _ (h b List.mem_cons_self)) r1) e2⟩
open PySem.W in
theorem eachB : ∀ {us : List Value} {bs : List (V × PyData)}, EachIs (fun u (b : V × PyData) => RelV b.1 u) us bs → Vals (bs.map (·.1)) us
  | _, _, .nil => .nil
  | _, _, .cons r t => .cons r (eachB t)
open PySem.W in
theorem b_sortD (hu : X.A.units + 64 < cLine) : CallR X (.builtin "sorted") (rSortD X.K) := by
  intro pins s σ H vs us Q I r h
  obtain ⟨a, bs, rfl, hs, hd, ha, hk, hdp, q⟩ := h
  obtain ⟨its, rv, hl, hz⟩ := I.list hs
  obtain ⟨u, rfl, ru⟩ := vals1 r
  obtain rfl : u = Value.ref a := ru
  obtain ⟨e1, e2⟩ := eachV I bs its rv hd
  rw [List.length_map] at hz
  refine sorted_data (enc := fun b : V × PyData => b.2) hl.isList e1 e2 ha hk hz (fun b hb => ?_) fun out ho eo => ?_
  · have := hdp b hb
    show X.A.units + 2 + b.2.depth < cLine
    omega
  · obtain ⟨ep, he'⟩ := PyProof.Rows.sortedAll_at s.heap its out.toArray
    have vo := eachB eo
    have hlen : ((bs.mergeSort (dataLe false fun b : V × PyData => b.2)).map (·.1)).length ≤ sizeLine := by rw [List.length_map, List.length_mergeSort]; exact hz
    exact ⟨.ref _, upd H (s.heap.objs.size + 1) (.lst _), I.laid (t' := s.toks) (fun _ _ => PyProof.Rows.sortedAll_old) (Nat.le_succ _) ⟨hlen, out, ep, vo, he'⟩, rfl, q _ (I.hok.fresh (Nat.le_succ _))⟩
open PySem.W in
theorem g_sortD {K : PySem.W.Frag} {H : Hp} {Q : VK} {a : Addr} {bs : List (V × PyData)} (hs : SqL K H a (bs.map (·.1))) (hd : ∀ b ∈ bs, Da H b.1 b.2) (ha : AllAlike (bs.map (·.2))) (hk : Sortable (bs.map (·.2))) (hdp : ∀ b ∈ bs, b.2.depth ≤ 60)
    (c : ∀ p H', H p = none → Fr [] H H' → H' p = some (.lst ((bs.mergeSort (dataLe false (·.2))).map (·.1))) → Q (.ref p) H') : rSortD K [.ref a] H Q := ⟨a, bs, rfl, hs, hd, ha, hk, hdp, fun p hp => c p _ hp (Fr.new hp) upd_same⟩
/-- the sorted data -/
def srt (ds : List PyData) : List PyData := ds.mergeSort (PySem.W.dataLe false id)
end
/-! ### d.clear() of a dict with tuple keys -/
section
variable {X : Cx}
def rDClearT : V → List V → Hp → VK → Prop := fun x vs H Q => ∃ (a : Addr) (kvs : List (List Key × V)), x = .ref a ∧ vs = [] ∧ H a = some (.dT kvs) ∧ Q .non (upd H a (.dT []))
theorem mtd_clearT : MtR X "dict.clear" rDClearT := by
  intro pins s σ H x vs v us Q I rx rv h
  obtain ⟨a, kvs, rfl, rfl, e, q⟩ := h
  obtain rfl : v = Value.ref a := rx
  cases rv
  obtain ⟨z, hd, xs, rel, o, es, ep, ho, hx, hdat, hes, _⟩ := dt_of I.hok e
  have raw : s.heap.DictRaw a es ep := ⟨o, ho, hx, hdat⟩
  have hsz : es.size ≤ sizeLine := by
    have e1 := congrArg List.length hes
    rw [Array.length_toList, List.length_map] at e1
    rw [e1, ← Paired.length rel]
    exact z
  refine call_meetsIn PySem.F.slot_dict_clear raw.typeIs PySem.F.entry_dict_clear (PySem.F.args_dict_clear_1 _) (meets_dict_clear_raw a) ⟨es, ep, raw, hsz, fun h' raw' hs => ?_⟩
  obtain ⟨o', ho', hx', hdat'⟩ := raw'
  exact ⟨.non, _, d_write (t' := s.toks) (ob := .dT []) I (by rw [e]; exact True.intro) hs ⟨o', ho'⟩ ⟨Nat.zero_le _, hd, [], .nil, o', #[], ep + 1, ho', hx', hdat', rfl, List.nodup_nil⟩, rfl, q⟩
theorem pe_dclearT {o : Expr} {to : TE} {apos cpos : Pos} (ho : PE X o to) (hbase : attributeBase o "clear" X.env (eval o X.env) = eval o X.env := by rfl) (hline : (apos.endLine == cpos.line) = true := by rfl) : PE X (.Call (.Attribute o "clear" apos) [] [] cpos) (tBM0 X.K "dict" rDClearT to) :=
  pe_bm0 PySem.F.plainAttrs_dict PySem.F.slot_dict_clear PySem.F.type_dict_clear mtd_clearT ho hbase hline
theorem g_bmT {K : PySem.W.Frag} {H : Hp} {a : Addr} {kvs : List (List Key × V)} {P : Prop} (h : H a = some (.dT kvs)) (q : P) : rBM K "dict" (.ref a) H P := ⟨.inr (.inr (.inl ⟨rfl, .inr ⟨kvs, h⟩⟩)), q⟩
theorem g_clearT {H : Hp} {a : Addr} {kvs : List (List Key × V)} {Q : VK} (h : H a = some (.dT kvs)) (q : ∀ H', Fr [a] H H' → H' a = some (.dT []) → Q .non H') : rDClearT (.ref a) [] H Q := ⟨a, kvs, rfl, rfl, h, q _ (Fr.put h trivial) upd_same⟩
end
/-! ### list(range(a, b)) -/
section
variable {σ : L2.St} {H : Hp} {Q : VK} {ta tb : TE} {a b : Int}
def rLRg (x y : V) (H : Hp) (Q : VK) : Prop := ∃ i j, x = .int i ∧ y = .int j ∧ RgOk i j ∧ ∀ q, H q = none → Q (.ref q) (upd H q (.lst (rgV i j)))
theorem g_lstRg (h : ta σ H fun x H1 => tb σ H1 fun y H2 => rLRg x y H2 Q) : tLstRg (tRg2 ta tb) σ H Q := h
theorem g_rlrg (ok : RgOk a b) (c : ∀ p H', H p = none → Fr [] H H' → H' p = some (.lst (rgV a b)) → Q (.ref p) H') : rLRg (.int a) (.int b) H Q := ⟨a, b, rfl, rfl, ok, fun p hp => c p _ hp (Fr.new hp) upd_same⟩
end
/-! ### what sorted gives, as data -/
section
open PySem.W
theorem dle_total {β : Type} (k : β → PyData) : TotalLe (dataLe false k) := sortLe_total _ false _
theorem srt_perm (ds : List PyData) : (srt ds).Perm ds := List.mergeSort_perm ds _
theorem srt_srt (ds : List PyData) : srt (srt ds) = srt ds := List.mergeSort_of_pairwise (sort_pairwise (dle_total id) ds)
theorem srt_map {β : Type} (f : β → PyData) (l : List β) : (l.mergeSort (dataLe false f)).map f = srt (l.map f) := sort_maps f fun _ _ _ _ => rfl
theorem DaL.zip {H : Hp} : ∀ {xs : List V} {ds : List PyData}, DaL H xs ds → (xs.zip ds).map (·.1) = xs ∧ (xs.zip ds).map (·.2) = ds ∧ ∀ b ∈ xs.zip ds, Da H b.1 b.2
  | _, _, .nil => ⟨rfl, rfl, fun _ h => nomatch h⟩
  | _, _, .cons a t => by
    obtain ⟨h1, h2, h3⟩ := DaL.zip t
    refine ⟨by simp [h1], by simp [h2], fun b hb => ?_⟩
    rcases List.mem_cons.mp hb with e | e
    · rw [e]; exact a
    · exact h3 b e
theorem DaL.ofBs {H : Hp} : ∀ {bs : List (V × PyData)}, (∀ b ∈ bs, Da H b.1 b.2) → DaL H (bs.map (·.1)) (bs.map (·.2))
  | [], _ => .nil
  | b :: bs, h => .cons (h b List.mem_cons_self) (DaL.ofBs fun c hc => h c (List.mem_cons_of_mem _ hc))
theorem g_srt {K : PySem.W.Frag} {H : Hp} {Q : VK} {a : Addr} {xs : List V} {ds : List PyData} (hs : SqL K H a xs) (hd : DaL H xs ds) (ha : AllAlike ds) (hk : Sortable ds) (hdp : ∀ d ∈ ds, d.depth ≤ 60)
    (c : ∀ p H' ys, H p = none → Fr [] H H' → H' p = some (.lst ys) → DaL H ys (srt ds) → Q (.ref p) H') : rSortD K [.ref a] H Q := by
  obtain ⟨z1, z2, z3⟩ := hd.zip
  refine g_sortD (bs := xs.zip ds) (by rw [z1]; exact hs) z3 (by rw [z2]; exact ha) (by rw [z2]; exact hk) (fun b hb => hdp b.2 (by rw [← z2]; exact List.mem_map.mpr ⟨b, hb, rfl⟩)) fun p H' hp f e => ?_
  refine c p H' _ hp f e ?_
  have q := DaL.ofBs (H := H) (bs := (xs.zip ds).mergeSort (dataLe false (·.2))) fun b hb => z3 b ((List.mergeSort_perm _ _).mem_iff.mp hb)
  rw [srt_map (fun b : V × PyData => b.2), z2] at q
  exact q
theorem alike_len : ∀ (n : Nat) (xs ys : List Int), alikeAll (xs.map .int) (ys.map .int) = true := fun _ => alike_ints
end
/-! ### chains, min, in, options -/
abbrev tChainT (r r' : R2) (ta tb tc : TE) : TT := tTest (tChain r r' ta tb tc)
section
variable {K : PySem.W.Frag} {σ : L2.St} {H : Hp} {Q : VK} {ta tb tc : TE} {r r' : R2} {y : V} {k : Bool} {p : Addr} {ns : List Int} {m : Int}
def rCh (r' : R2) (tc : TE) (y : V) (σ : L2.St) (Q : VK) (z : V) (H3 : Hp) : Prop := ∃ k, z = .bl k ∧ (if k = true then tc σ H3 fun w' H4 => r' y w' H4 Q else Q (.bl false) H3)
theorem g_chain (h : ta σ H fun x H1 => tb σ H1 fun y H2 => r x y H2 fun z H3 => rCh r' tc y σ Q z H3) : tChain r r' ta tb tc σ H Q := h
theorem g_rch (h : if k = true then tc σ H fun w' H4 => r' y w' H4 Q else Q (.bl false) H) : rCh r' tc y σ Q (.bl k) H := ⟨k, rfl, h⟩
theorem g_min (h : SqL K H p (ns.map V.int)) (hl : 0 < ns.length) (q : ∀ m, m ∈ ns → (∀ y, y ∈ ns → m ≤ y) → Q (.int m) H) : rMin K [.ref p] H Q := ⟨p, ns, rfl, h, hl, q⟩
theorem inI : inV (.int m) (ns.map V.int) = decide (m ∈ ns) := by
  unfold inV
  induction ns with
  | nil => rfl
  | cons a t ih =>
    rw [List.map_cons, List.any_cons, ih]
    show ((a == m) || decide (m ∈ t)) = _
    by_cases h : a = m
    · simp [h]
    · have h2 : ¬ m = a := fun z => h z.symm
      simp [h, h2]
theorem flatI : (ns.map V.int).all flatV = true := List.all_eq_true.mpr fun x hx => by obtain ⟨n, _, rfl⟩ := List.mem_map.mp hx; rfl
theorem g_ninI (h : SqL K H p (ns.map V.int)) (q : Q (.bl (!decide (m ∈ ns))) H) : rIn K true (.int m) (.ref p) H Q := ⟨p, _, rfl, .inl h, rfl, flatI, by rw [inI]; exact q⟩
theorem g_neB {a b : Bool} (h : Q (.bl (!decide (a = b))) H) : rNe (.bl a) (.bl b) H Q := ⟨rfl, by rw [show decide (V.bl a = V.bl b) = decide (a = b) from by simp]; exact h⟩
end
/-- a number, or none -/
def optV : Option Int → V
  | none => .non
  | some r => .int r
def optD : Option Int → PyData
  | none => .none
  | some r => .int r
section
variable {H : Hp} {Q : VK} {o : Option Int} {r : Int}
theorem g_isO (h : Q (.bl (decide (o = none))) H) : rIsNon (optV o) .non H Q := g_isN (by cases o <;> simpa [optV] using h)
theorem g_notO (h : Q (.bl (!decide (o = none))) H) : rIsNotNon (optV o) .non H Q := g_notN (by cases o <;> simpa [optV] using h)
theorem g_eqO (h : Q (.bl (decide (o = some r))) H) : rEq (optV o) (.int r) H Q := by
  cases o with
  | none => exact ⟨rfl, by simpa [optV] using h⟩
  | some q => exact g_eqI (by simpa using h)
theorem DaL.opts : ∀ {R : List (Option Int)}, DaL H (R.map optV) (R.map optD)
  | [] => .nil
  | none :: R => .cons .non DaL.opts
  | some r :: R => .cons (.int r) DaL.opts
theorem imm_opts {R : List (Option Int)} : immL (R.map optD) = true := immL_of fun d hd => by obtain ⟨o, _, rfl⟩ := List.mem_map.mp hd; cases o <;> rfl
theorem dp_opts {R : List (Option Int)} : dpL (R.map optD) ≤ 1 := dpL_le fun d hd => by obtain ⟨o, _, rfl⟩ := List.mem_map.mp hd; cases o <;> exact Nat.zero_le _
end
end Lw

namespace Lw
open PySem PySem.Spec PyProof.Rows L2
/-! ### enumerate(tuple) -/
set_option maxHeartbeats 4000000 in
theorem meets_enumT {v : Value} {o : Obj} {H : Heap → Prop} (B : Begins v o H) :
    Meets (Builtin.«enumerate.__new__» ⟨[.type "enumerate", v], []⟩) (fun _ R s => H s.heap ∧
      R (.ok (.ret (.ref (s.heap.push o).objs.size))) { s with heap := (s.heap.push o).push { cls := .type "enumerate", data := .fields #[.none, .bool false, .ref s.heap.objs.size, rawInt 0, .none, .none] } }) :=
  .of_wp fun prog w A R s h => by
    obtain ⟨hp, g, d, tk, os⟩ := s; obtain ⟨h1, h⟩ := h
    have hsub := sub_enumerate
    have q1 : ∀ {A' : Around} {E : Value → Shared → Prop} {Q : Value → Shared → Prop}, Q (.ref hp.objs.size) ⟨hp.push o, g, d, tk, os⟩ → wpAny (model prog w) A' (pyIter v) Q E ⟨hp, g, d, tk, os⟩ :=
      fun q => B.iter prog w _ _ ⟨hp, g, d, tk, os⟩ _ h1 q
    wp_walk using q1
    refine wpAny_stack_any fun st => wpAny_pure ?_
    split
    · rename_i c _ _ _ _ _
      cases (c == Value.type "enumerate")
      · wp_walk using q1
        exact ⟨_, rfl, h⟩
      · wp_walk using q1
        exact ⟨_, rfl, h⟩
    · wp_walk using q1
      exact ⟨_, rfl, h⟩
theorem enum_begins1 {prog : Program} {w : World} {A : Around} {E : Value → Shared → Prop} {s : Shared} {v : Value} {o : Obj} {H : Heap → Prop} {Q : Value → Shared → Prop} (B : Begins v o H) (h1 : H s.heap)
    (h : ∀ h', IsEnum h' (s.heap.objs.size + 1) s.heap.objs.size 0 .none → h'.get? s.heap.objs.size = some o → h'.objs.size = s.heap.objs.size + 2 →
      (∀ b o, s.heap.get? b = some o → h'.get? b = some o) → Q (.ref (s.heap.objs.size + 1)) { s with heap := h' }) :
    wpAny (model prog w) A (call (.type "enumerate") [v]) Q E s := by
  refine callType_new F.called_enumerate (by decide) (F.typeCall_enumerate_1 _) (F.newCall_enumerate_1 _) (fun obj => F.args_object_init_2 obj _) F.entry_enumerate_new
    (meets_enumT B) ⟨h1, ?_⟩
  have hz : (s.heap.push o).objs.size = s.heap.objs.size + 1 := Heap.size_push ..
  show _ ∧ _
  rw [hz]
  have he : IsEnum ((s.heap.push o).push { cls := .type "enumerate", data := .fields #[.none, .bool false, .ref s.heap.objs.size, rawInt 0, .none, .none] }) (s.heap.objs.size + 1) s.heap.objs.size 0 .none := by
    have := Heap.get?_push_size (s.heap.push o) (o := { cls := .type "enumerate", data := .fields #[.none, .bool false, .ref s.heap.objs.size, rawInt 0, .none, .none] }) rfl
    rw [hz] at this; exact this
  refine ⟨⟨_, he, rfl⟩, h _ he (Heap.get?_push_of_some _ (Heap.get?_push_size _ B.free)) (by rw [Heap.size_push, hz]) fun b o x => Heap.get?_push_of_some _ (Heap.get?_push_of_some _ x)⟩
/-- the tuple at a as it stands at each turn, each item in a new pair -/
def IteT (K : PySem.W.Frag) (a : Addr) : It :=
  ⟨fun i H => ∃ (xs : List V) (x : V), SqT K H a xs ∧ xs[i]? = some x, fun i H v H' => ∃ T x, v = .ref T ∧ H T = none ∧ H' = upd H T (.tup [.int (i : Nat), x]) ∧ ∀ xs, SqT K H a xs → xs[i]? = some x, fun i H => ∃ xs : List V, SqT K H a xs ∧ xs.length ≤ i⟩
theorem turn_enumT {P : Program} {w : World} {K : PySem.W.Frag} {elts : List Expr} {kk : Nat} {tpos : Pos} (a e it : Addr) :
    Turn P w K (.Tuple elts kk tpos) (IteT K a) [e, it] e (fun i h => (∃ old, IsEnum h e it ((i : Nat) : Int) old) ∧ h.IsTupleIter it a i ∧ e ≠ it) where
  mem := by simp
  obj := fun i h st b hb => by
    obtain ⟨⟨old, he⟩, ⟨o, ho, hc, hd⟩, _⟩ := st
    have e' : b = e ∨ b = it := by simpa using hb
    rcases e' with z | z
    · rw [z]; exact ⟨_, he, fun v q => nomatch q⟩
    · rw [z]; exact ⟨o, ho, fun v q => by rw [hd] at q; cases q⟩
  keep := fun i h h' st k => let ⟨⟨old, he⟩, hi, hne⟩ := st; ⟨⟨old, k e (by simp) _ he⟩, hi.at fun o q => k it (by simp) o q, hne⟩
  item := by
    intro X hP hw hK hc i pins s σ H E I hf st hg
    subst hP hw hK
    obtain ⟨⟨old, he⟩, hit, hne⟩ := st
    obtain ⟨xs, x, hq, hx⟩ := hg
    obtain ⟨its, rv, p, hz⟩ := I.tuple hq
    obtain ⟨u, hu, ru⟩ := rv.get hx
    have hel : e < s.heap.objs.size := Heap.lt_size he
    have hil : it < s.heap.objs.size := by obtain ⟨_, q, _⟩ := hit; exact Heap.lt_size q
    have hai : a ≠ it := fun z => by
      obtain ⟨o, h1, h2, n, h3⟩ := p
      obtain ⟨o', g1, g2, g3⟩ := hit
      rw [z] at h1; rw [h1] at g1; cases g1; rw [h3] at g3; cases g3
    have hae : a ≠ e := fun z => by
      obtain ⟨o, h1, h2, n, h3⟩ := p
      rw [z] at h1; cases Option.some.inj (h1.symm.trans he); cases h3
    have D := Draws.tuple (prog := X.prog) (w := X.w) (A := X.A.in1) (I.ok.hd hc) it a hai its.toArray
    have hi : i < its.toArray.size := by
      have := (List.getElem?_eq_some_iff.mp hu).1
      simpa using this
    refine wpAny_pyNext_enum_itemD D he ⟨hit, p⟩ hi hne (by simp [hne, Ne.symm hae]) fun y h' tk hy ho hst' hT hsz hk => ?_
    have hyu : y = u := by
      have hu' : its.toArray[i]? = some u := by simpa using hu
      rw [hu'] at hy; exact (Option.some.inj hy).symm
    subst hyu
    refine ⟨_, rfl, wpAny_letOwnedTupleGo_enum (s := { s with heap := h', toks := tk + 1 }) ho fun h'' he' sb => ?_⟩
    have hT2 : h''.get? s.heap.objs.size = some { cls := .type "tuple", data := .seq #[.int i tk, y] } := (sb.2 _ (Nat.ne_of_gt hel)).trans hT
    have new : ObjOk X.prog X.w (upd H s.heap.objs.size (.tup [.int (i : Nat), x])) h'' s.heap.objs.size (.tup [.int (i : Nat), x]) :=
      ⟨by show 2 ≤ sizeLine; decide, [.int i tk, y], .cons ⟨_, rfl⟩ (.cons ru .nil), ⟨_, hT2, rfl, _, rfl⟩⟩
    have I1 : Inv X pins σ (upd H s.heap.objs.size (.tup [.int (i : Nat), x])) { s with heap := h'', toks := tk + 1 } :=
      I.turnedNew (ch := [e, it]) (fun b ob hb q => (sb.2 b (fun z => hb (by simp [z]))).trans (hk b ob (fun z => hb (by simp [z])) (fun z => hb (by simp [z])) q)) hf (Nat.le_refl _) new
    refine ⟨.ref s.heap.objs.size, _, I1, rfl, ⟨_, x, rfl, I.hok.fresh (Nat.le_refl _), rfl, fun ys hy => by rw [I.tuple_inj hy hq]; exact hx⟩, ⟨⟨y, ?_⟩, hst'.1.at fun o q => (sb.2 it (Ne.symm hne)).trans q, hne⟩, fun b hb => ?_⟩
    · have e1 : ((i + 1 : Nat) : Int) = (i : Int) + 1 := by omega
      rw [e1]; exact he'
    · have hb' : b < s.heap.objs.size := by
        have e' : b = e ∨ b = it := by simpa using hb
        rcases e' with z | z
        · rw [z]; exact hel
        · rw [z]; exact hil
      rw [upd_ne (Nat.ne_of_lt hb')]
      exact (hf b hb).1
  done := by
    intro X hP hw hK hc i pins s σ H E I hf st hg
    subst hP hw hK
    obtain ⟨⟨old, he⟩, hit, hne⟩ := st
    obtain ⟨xs, hq, hx⟩ := hg
    obtain ⟨its, rv, p, hz⟩ := I.tuple hq
    obtain ⟨f0, f1, f2, f3, f4, f5⟩ := hf it (by simp)
    have hl := rv.length
    have hai : a ≠ it := fun z => by
      obtain ⟨o, h1, h2, n, h3⟩ := p
      obtain ⟨o', g1, g2, g3⟩ := hit
      rw [z] at h1; rw [h1] at g1; cases g1; rw [h3] at g3; cases g3
    have hT : s.TypeIs (.ref e) "enumerate" := ⟨_, he, rfl⟩
    unfold pyNext
    refine wpAny_bind (wpAny_attempt (wpAny_callSpecial?_slot (name := Str.ofString "__next__") hT F.slot_enumerate_next
      (wpAny_call_entry F.slot_enumerate_next hT F.entry_enumerate_next ?_ (F.args_enumerate_next_1 _))))
    show wpAny _ _ (field (.ref e) 2 >>= _) _ _ _
    refine wpAny_bind (wpAny_field he rfl (x := .ref it) rfl ?_)
    refine wpAny_bind (wpAny_nextOf_tuple_end (items := its.toArray) (show X.A.in1.handled = none from I.ok.hd hc) hit p (by simp; omega) fun h' x he' hx' => ?_)
    obtain ⟨o, ho, hcl⟩ := hx'
    refine wpAny_bind (wpAny_isInstance (T := "StopIteration") (b := true) ⟨o, ho, hcl⟩ isSubtype_stop ?_)
    exact wpAny_pure ⟨rfl, I.turned (t' := s.toks) (fun b o hb q => he' b o hb q) f0 f1 f3 f4 f5⟩
  self := fun A i s Q E st h => let ⟨⟨_, he⟩, _⟩ := st; wpAny_pyIter_enum he h
def iEnumT (K : PySem.W.Frag) (ta : TA) : TI := fun σ H R => ta σ H fun vs H1 => ∃ a xs, vs = [.ref a] ∧ SqT K H1 a xs ∧ R (IteT K a) H1
theorem pi_enumT {X : Cx} {e : Expr} {ta : TA} {p pos tpos : Pos} {elts : List Expr} {kk : Nat} (hg : Gl X "enumerate") (hm : X.mg "enumerate" = none) (ha : PA X [e] ta) (hs : starEach [e] X.env = [(false, eval e X.env)] := by rfl) :
    PI X (.Tuple elts kk tpos) (.Call (.Name "enumerate" p) [e] [] pos) (iEnumT X.K ta) := by
  refine ⟨fun pins s σ H R I h => ?_⟩
  refine Call_ (ld_blt I hg hm boot_enumerate (PyProof.Rows.callWith_type1 (thn (ha.run pos pins s σ H _ I h) fun us s1 ⟨vs, H1, I1, r1, q1⟩ => ?_) hs rfl))
  obtain ⟨a, xs, ex, hq, q⟩ := q1
  subst ex
  cases r1 with
  | cons r rr =>
    cases rr
    cases r
    obtain ⟨its, rv, p', hz⟩ := I1.tuple hq
    refine enum_begins1 (begins_tuple a its.toArray) p' fun h' he hit hsz hk => wpAny_pyIter_enum he ?_
    have I2 : Inv X pins σ H1 { s1 with heap := h' } := I1.kept (t' := s1.toks) hk
    refine ⟨s1.heap.objs.size + 1, [s1.heap.objs.size + 1, s1.heap.objs.size], _, _, H1, rfl, I2, turn_enumT a (s1.heap.objs.size + 1) s1.heap.objs.size, ⟨⟨.none, he⟩, ⟨_, hit, rfl, rfl⟩, Nat.succ_ne_self _⟩, fun b hb => ?_, q⟩
    have e' : b = s1.heap.objs.size + 1 ∨ b = s1.heap.objs.size := by simpa using hb
    have hle : s1.heap.objs.size ≤ b := by
      rcases e' with z | z
      · rw [z]; exact Nat.le_add_right _ _
      · rw [z]; exact Nat.le_refl _
    exact I1.fpOk hle (I1.hok.fresh hle)
section
variable {K : PySem.W.Frag} {σ : L2.St} {H : Hp} {D : Ends} {tb : TS} {g : TG} {a : Addr} {R : It → Hp → Prop} {as : TA}
def rEnT (K : PySem.W.Frag) (vs : List V) (H : Hp) (R : It → Hp → Prop) : Prop := ∃ a xs, vs = [.ref a] ∧ SqT K H a xs ∧ R (IteT K a) H
theorem g_iET (h : as σ H fun vs H1 => rEnT K vs H1 R) : iEnumT K as σ H R := h
theorem g_renT {xs : List V} (h : SqT K H a xs) (c : R (IteT K a) H) : rEnT K [.ref a] H R := ⟨a, xs, rfl, h, c⟩
theorem f_enumT {xs : List V} (Pv : Nat → L2.St → Hp → Prop) (h0 : Pv 0 σ H) (hl : ∀ i σ H, i ≤ xs.length → Pv i σ H → SqT K H a xs)
    (hs : ∀ i x T σ H H', xs[i]? = some x → Pv i σ H → H T = none → Fr [] H H' → H' T = some (.tup [.int (i : Nat), x]) → g (.ref T) σ H' fun σ2 H2 => tb { D with nx := Pv (i + 1), ct := Pv (i + 1), bk := D.nx } σ2 H2) (hd : ∀ σ H, Pv xs.length σ H → D.nx σ H) : ForGo (IteT K a) g tb D σ H := by
  refine ⟨fun i m σ H => m = xs.length - i ∧ i ≤ xs.length ∧ Pv i σ H, ⟨xs.length, rfl, Nat.zero_le _, h0⟩, ?_⟩
  rintro i m σ H ⟨rfl, hi, p⟩
  have qx := hl i σ H hi p
  by_cases hlt : i < xs.length
  · have hx : xs[i]? = some xs[i] := List.getElem?_eq_getElem hlt
    refine .inr ⟨⟨xs, _, qx, hx⟩, Pv (i + 1), fun σ' H' p' => ⟨xs.length - (i + 1), by omega, rfl, hlt, p'⟩, fun v H' y => ?_⟩
    obtain ⟨T, x', rfl, hT, rfl, f1⟩ := y
    exact hs i x' T σ H _ (f1 xs qx) p hT (Fr.new hT) upd_same
  · have e : i = xs.length := by omega
    subst e
    exact .inl ⟨⟨xs, qx, Nat.le_refl _⟩, hd σ H p⟩
/-! small words -/
variable {Q : VK} {te : TE} {x : V}
def rIntB : List V → Hp → VK → Prop := fun xs H Q => ∃ k, xs = [.bl k] ∧ Q (.int (if k then 1 else 0)) H
theorem b_intB {X : Cx} : CallR X (.type "int") rIntB := fun pins s σ H xs us Q I r h => call_int1 pins s σ H xs us Q I r (.inr h)
theorem g_intB {k : Bool} (h : Q (.int (if k then 1 else 0)) H) : rIntB [.bl k] H Q := ⟨k, rfl, h⟩
theorem g_slT {xs : List V} {lo hi : Option Int} (h : SqT K H a xs) (n : ¬ (HT.sIx xs.length 0 lo = 0 ∧ HT.sIx xs.length xs.length hi = xs.length)) (q : ∀ l H', H l = none → Fr [] H H' → H' l = some (.tup (cutV xs lo hi)) → Q (.ref l) H') : rSlT K (.ref a) lo hi H Q :=
  ⟨a, xs, rfl, h, n, fun l hl => q l _ hl (Fr.new hl) upd_same⟩
theorem cut_tail {x : V} {xs : List V} : cutV (x :: xs) (some 1) none = xs := by
  unfold cutV
  rw [HT.sIx_none, show (some (1 : Int)) = some (((1 : Nat) : Int)) from rfl, HT.sIx_nat, List.length_cons, Nat.min_eq_left (Nat.succ_le_succ (Nat.zero_le _)), List.drop_one, List.tail_cons]
  exact List.take_of_length_le (by omega)
theorem g_sl1 {x : V} {xs : List V} (h : SqT K H a (x :: xs)) (q : ∀ l H', H l = none → Fr [] H H' → H' l = some (.tup xs) → Q (.ref l) H') : rSlT K (.ref a) (some 1) none H Q := by
  refine g_slT h (fun z => ?_) fun l H' n f e => q l H' n f (by rw [cut_tail] at e; exact e)
  have z1 := z.1
  rw [show (some (1 : Int)) = some (((1 : Nat) : Int)) from rfl, HT.sIx_nat, List.length_cons, Nat.min_eq_left (Nat.succ_le_succ (Nat.zero_le _))] at z1
  exact absurd z1 (by decide)
theorem g_un {r : V → Hp → VK → Prop} (h : te σ H fun x H1 => r x H1 Q) : tUn r te σ H Q := h
abbrev rNeg : V → Hp → VK → Prop := rU fun i => .int (-i)
theorem g_neg {i : Int} (h : Q (.int (-i)) H) : rNeg (.int i) H Q := ⟨i, rfl, h⟩
theorem g_trC {P : Bool → Prop} {x : V} {xs : List V} (h : SqL K H a (x :: xs)) (q : P true) : ∃ k, TruV K (.ref a) H k ∧ P k := ⟨true, .inl ⟨x :: xs, h, rfl⟩, q⟩
theorem g_trN {P : Bool → Prop} (h : SqL K H a []) (q : P false) : ∃ k, TruV K (.ref a) H k ∧ P k := ⟨false, .inl ⟨[], h, rfl⟩, q⟩
end
end Lw

namespace Lw
open PySem PySem.Spec PyProof.Rows L2
/-! ### defs that may raise, classes of errors -/
structure CalX (P : Program) (w : World) (K : PySem.W.Frag) (mg : Str → Option Value) (base : Heap) (x : Str) (k : Nat) (ps : List Str) (sp : Sp) : Prop where
  ex : ∃ f fd, FnOk P w K mg base (L2.CX P w) k f fd ps sp ∧ mg x = some (.ref f) ∧ PySem.W.keepIn K (.ref f) = true ∧ Binds K fd ps []
structure ErrC (K : PySem.W.Frag) (mg : Str → Option Value) (x : Str) (C : Addr) : Prop where
  g : mg x = some (.ref C)
  k : PySem.W.keepIn K (.ref C) = true
  e : PySem.W.excIn K C [.type "ValueError", .type "Exception", .type "BaseException", .type "object"] "ValueError.__new__" = true
  s : PySem.W.subIn K (.ref C) (.type "BaseException") = some true
  t : PySem.W.typeIn K (.ref C) = some (.type "type")
def tClX (sp : Sp) (W : WX) (t : TA) : TE := fun σ H Q => t σ H fun vs H1 => sp vs H1 Q (fun cls d H' => W cls d σ H')
def tRz (C : Addr) (W : WX) : TS := fun _ σ H => W (.ref C) none σ H
section
variable {X : Cx} {k : Nat} {ps : List Str} {sp : Sp} {x m : Str} {p p2 pos pos2 : Pos} {j : Nat} {e : Expr} {es : List Expr} {t : TA} {C : Addr} {W : WX}
theorem pe_clX (c : CalX X.prog X.w X.K X.mg X.base x k ps sp) (hr : Room k X.A) (hg : Gl X x) (tk : Takes X W) (ha : PA X (e :: es) t) (hdb : (x == ("__debug__" : Str)) = false := by decide)
    (he : starEach (e :: es) X.env = (false, eval e X.env) :: starEach es X.env := by rfl) (hpl : (backTo pos (starEach es X.env)).any (·.1) = false := by rfl) : PE X (.Call (.Name x p) (e :: es) [] pos) (tClX sp W t) := by
  obtain ⟨f, fd, F, hm, hk, hb⟩ := c.ex
  exact pe_callS (E := fun σ cls d H => W cls d σ H) F hr hg hm hk hb (fun s => passAt tk s) ha hdb he hpl
theorem ps_rz (hc : X.calm = true) (tk : Takes X W) (c : ErrC X.K X.mg x C) (hg : Gl X x) (hdb : (x == ("__debug__" : Str)) = false := by decide) :
    PS X (.Raise (some (.Call (.Name x p) [.Constant (.str m) j p2] [] pos)) none pos2) (tRz C W) :=
  ps_raise hc tk (pmk_own PySem.F.excBase_ValueError c.e c.g c.k (raises_own c.s c.t) hg hdb)
/-- a class of errors, by its name -/
theorem pe_err (c : ErrC X.K X.mg x C) (hg : Gl X x) (hdb : (x == ("__debug__" : Str)) = false := by decide) : PE X (.Name x p) (tC (.ref C)) := by
  refine ⟨fun pins s σ H Q I h => ?_⟩
  exact ld_glob I hg c.g ⟨V.ref C, H, I, rfl, h⟩ hdb
end
/-- a whole number of the module, by its name -/
theorem pe_gint {X : Cx} {x : Str} {n : Int} {pos : Pos} (h : ∃ tk, X.mg x = some (.int n tk)) (hg : Gl X x) (hd : (x == ("__debug__" : Str)) = false := by decide) : PE X (.Name x pos) (tC (.int n)) := by
  obtain ⟨tk, e⟩ := h
  exact pe_glob hg e ⟨tk, rfl⟩ hd
/-! isinstance of a caught error -/
def rIsET (K : PySem.W.Frag) (D a : Addr) : List V → Hp → VK → Prop := fun xs H Q => ∃ (tp : Addr) (cs : List V) (us : List Value) (b : Bool), xs = [.ref a, .ref tp] ∧ H tp = some (.tup cs) ∧ (∀ ws, Vals cs ws → ws = us) ∧ PySem.W.kitAny K (.ref D) us = some b ∧ Q (.bl b) H
theorem call_isET {X : Cx} {a D : Addr} {oe : Obj} {pn : List (Addr × Obj)} (C : ExcC X.K D) (hz : Zc (.ref D) none oe) (hf : ∃ vs, oe.data = .fields vs) : CallR (X.suite a ((a, oe) :: pn)) (.builtin "isinstance") (rIsET X.K D a) := by
  intro pins s σ H xs us Q I r h
  obtain ⟨tp, cs, ws, b, rfl, hT, hw, e, q⟩ := h
  obtain ⟨u1, u2, rfl, r1, r2⟩ := vals2 r
  cases (show u2 = Value.ref tp from r2)
  cases (show u1 = Value.ref a from r1)
  obtain ⟨hget, _⟩ := I.pin (a, oe) (List.mem_append.mpr (.inl List.mem_cons_self))
  obtain ⟨vs, hv⟩ := hf
  have J : PySem.W.InstAt s.heap a oe D none := by
    obtain ⟨oc, od, oda, osl⟩ := oe
    obtain ⟨h1, h2⟩ := hz
    dsimp only at h1 h2 hv
    subst h1 h2 hv
    exact ⟨hget, rfl, rfl, trivial⟩
  obtain ⟨_, its, rv, o, h1, h2, n, h3⟩ := (show ObjOk X.prog X.w H s.heap tp (.tup cs) from I.hok tp _ hT)
  have e3 := hw its rv
  subst e3
  obtain ⟨oc, od, dt, sl⟩ := o
  simp only at h2 h3
  subst h2 h3
  exact PySem.W.kia_tup (PySem.W.handS_kitx_exc C.hg C.hk C.hs C.hd C.ha C.hn C.ht C.hm) I.kIn J h1 e (fun z => nomatch z) fun tk => ⟨.bl b, H, I.kept (t' := tk) fun _ _ z => z, rfl, q⟩
def rIsEd (K : PySem.W.Frag) (D a : Addr) (cls : Value) (d : Option Addr) : List V → Hp → VK → Prop := fun xs H Q => cls = .ref D ∧ d = none ∧ rIsE K D a xs H Q
def rIsETd (K : PySem.W.Frag) (D a : Addr) (cls : Value) (d : Option Addr) : List V → Hp → VK → Prop := fun xs H Q => cls = .ref D ∧ d = none ∧ rIsET K D a xs H Q
theorem call_isEd {X : Cx} {a D : Addr} {oe : Obj} {pn : List (Addr × Obj)} {cls : Value} {d : Option Addr} (C : ExcC X.K D) (hz : Zc cls d oe) (hf : ∃ vs, oe.data = .fields vs) : CallR (X.suite a ((a, oe) :: pn)) (.builtin "isinstance") (rIsEd X.K D a cls d) := by
  intro pins s σ H xs us Q I r h
  obtain ⟨rfl, rfl, h⟩ := h
  exact call_isE C hz hf pins s σ H xs us Q I r h
theorem call_isETd {X : Cx} {a D : Addr} {oe : Obj} {pn : List (Addr × Obj)} {cls : Value} {d : Option Addr} (C : ExcC X.K D) (hz : Zc cls d oe) (hf : ∃ vs, oe.data = .fields vs) : CallR (X.suite a ((a, oe) :: pn)) (.builtin "isinstance") (rIsETd X.K D a cls d) := by
  intro pins s σ H xs us Q I r h
  obtain ⟨rfl, rfl, h⟩ := h
  exact call_isET C hz hf pins s σ H xs us Q I r h
/-- try: .. except C as n: .. -/
def tTryAs (K : PySem.W.Frag) (c : Value) (i : Nat) (tb : WX → TS) (ts : Addr → Value → Option Addr → TS) (Wout : WX) : TS := fun D σ H => tb (wAs K c i ts Wout D) D σ H
theorem vals_refs : ∀ {cs : List Addr} {ws : List Value}, Vals (cs.map V.ref) ws → ws = cs.map Value.ref
  | [], [], _ => rfl
  | c :: cs, w :: ws, h => by
    cases h with
    | cons a t =>
      rw [vals_refs t, show w = Value.ref c from a]; rfl
  | [], _ :: _, h => by cases h
  | _ :: _, [], h => by cases h
section
variable {K : PySem.W.Frag} {σ : L2.St} {H : Hp} {Q : VK} {D : Ends} {sp : Sp} {W : WX} {as : TA} {C a E tp : Addr}
theorem g_clX (h : as σ H (fun vs H1 => sp vs H1 Q (fun cls d H' => W cls d σ H'))) : tClX sp W as σ H Q := h
theorem g_rz (h : W (.ref C) none σ H) : tRz C W D σ H := h
theorem g_isE {c : Addr} {b : Bool} (e : PySem.W.kitOne K (.ref E) (.ref c) = some b) (q : Q (.bl b) H) : rIsE K E a [.ref a, .ref c] H Q := ⟨.ref c, .ref c, b, rfl, fun _ r => r, e, q⟩
theorem g_isEt {c : String} {b : Bool} (e : PySem.W.kitOne K (.ref E) (.type c) = some b) (q : Q (.bl b) H) : rIsE K E a [.ref a, .ty c] H Q := ⟨.ty c, .type c, b, rfl, fun _ r => r, e, q⟩
theorem g_isET {cs : List Addr} {b : Bool} (h : H tp = some (.tup (cs.map V.ref))) (e : PySem.W.kitAny K (.ref E) (cs.map Value.ref) = some b) (q : Q (.bl b) H) : rIsET K E a [.ref a, .ref tp] H Q :=
  ⟨tp, _, _, b, rfl, h, fun _ r => vals_refs r, e, q⟩
end
end Lw

namespace Lw
open PySem PySem.Spec PyProof.Rows L2
/-! ### t + u and t * n, whatever their lengths -/
def rCatA (K : PySem.W.Frag) : R2 := fun x y H Q => ∃ a b xs ys, x = V.ref a ∧ y = V.ref b ∧ SqT K H a xs ∧ SqT K H b ys ∧ xs.length + ys.length ≤ sizeLine ∧
  (xs = [] → Q (.ref b) H) ∧ (xs ≠ [] → ys = [] → Q (.ref a) H) ∧ (xs ≠ [] → ys ≠ [] → ∀ p, H p = none → Q (.ref p) (upd H p (.tup (xs ++ ys))))
theorem cat_all {prog : Program} {w : World} {A : Around} {E : Value → Shared → Prop} {s : Shared} {t b : Addr} {vs ws : List Value} {Q : Value → Shared → Prop} (ht : IsTup s.heap t vs.toArray) (hb : IsTup s.heap b ws.toArray)
    (h0 : vs = [] → Q (.ref b) s) (h1 : vs ≠ [] → ws = [] → Q (.ref t) s) (h2 : vs ≠ [] → ws ≠ [] → Q (.ref s.heap.objs.size) { s with heap := s.heap.push { cls := .type "tuple", data := .seq (vs ++ ws).toArray } }) (hsz : vs.length + ws.length ≤ sizeLine) :
    wpAny (model prog w) A (binaryOp .Add (.ref t) (.ref b)) Q E s := by
  obtain ⟨⟨ca, da, ta, la⟩, ga, ha, na, ka⟩ := id ht
  obtain ⟨⟨cb, db, tb, lb⟩, gb, hb', nb, kb⟩ := id hb
  simp only at ha ka hb' kb
  subst ha ka hb' kb
  have e : vs.toArray ++ ws.toArray = (vs ++ ws).toArray := by simp
  by_cases hv : vs = []
  · exact concat_meets ⟨_, ga, rfl⟩ ⟨_, gb, rfl⟩ noFill_tuple_add seq_tuple_add PySem.F.slot_tuple_add PySem.F.entry_tuple_add (PySem.F.args_tuple_add_2 _ _) (tuple_addW0 t b vs.toArray ws.toArray na nb da db la lb (by simp [hv])) ⟨ga, gb, h0 hv⟩
  · by_cases hw : ws = []
    · exact concat_meets ⟨_, ga, rfl⟩ ⟨_, gb, rfl⟩ noFill_tuple_add seq_tuple_add PySem.F.slot_tuple_add PySem.F.entry_tuple_add (PySem.F.args_tuple_add_2 _ _) (tuple_addW1 t b vs.toArray ws.toArray na nb da db la lb (by simpa using hv) (by simp [hw])) ⟨ga, gb, h1 hv hw⟩
    · refine concat_meets ⟨_, ga, rfl⟩ ⟨_, gb, rfl⟩ noFill_tuple_add seq_tuple_add PySem.F.slot_tuple_add PySem.F.entry_tuple_add (PySem.F.args_tuple_add_2 _ _) (tuple_addW2 t b vs.toArray ws.toArray na nb da db la lb (by simpa using hv) (by simpa using hw) (by rw [List.size_toArray, List.size_toArray]; exact hsz)) ⟨ga, gb, ?_⟩
      rw [e]
      exact h2 hv hw
section
variable {X : Cx}
theorem op_catA : OpR X (binaryOp .Add) (rCatA X.K) := by
  intro pins s σ H x y v u Q I rx ry h
  obtain ⟨a, b, xs, ys, rfl, rfl, ha, hb, hz, q0, q1, q2⟩ := h
  cases rx
  cases ry
  obtain ⟨its, r1, p1, _⟩ := I.tuple ha
  obtain ⟨jts, r2, p2, _⟩ := I.tuple hb
  refine cat_all p1 p2 (fun z => ⟨.ref b, H, I, rfl, q0 (r1.nil_iff.mp z)⟩) (fun z z' => ⟨.ref a, H, I, rfl, q1 (fun w => z (r1.nil_iff.mpr w)) (r2.nil_iff.mp z')⟩) (fun z z' => ?_) (by rw [← r1.length, ← r2.length]; exact hz)
  refine ⟨.ref s.heap.objs.size, _, I.laid (t' := s.toks) (o := .tup (xs ++ ys)) (fun b ob q => Heap.get?_push_of_some _ q) (Nat.le_refl _) ?_, rfl, q2 (fun w => z (r1.nil_iff.mpr w)) (fun w => z' (r2.nil_iff.mpr w)) _ (I.hok.fresh (Nat.le_refl _))⟩
  exact ⟨by rw [List.length_append]; exact hz, _, r1.append r2, IsTup.new _ _⟩
theorem tuple_mulS (l : Addr) (items : Array Value) (n : Nat) (dd : Option Addr) (sl : Array (Option Value)) (x : Int) (u : Tok) (c0 : (decide (x < -(2 ^ 63)) || decide (x ≥ 2 ^ 63)) = false) (c1 : (items.isEmpty || x == 1) = true) :
    Meets (Builtin.«tuple.__mul__» ⟨[.ref l, .int x u], []⟩) (fun _ R s => s.heap.get? l = some { cls := .type "tuple", dict := dd, data := .seq items n, slots := sl } ∧ R (.ok (.ret (Value.ref l))) s) :=
  .of_wp fun prog w A R s h => by
    obtain ⟨hp, g, d, tk, os⟩ := s
    obtain ⟨hl, h⟩ := h
    have f1 := AutoSeq1.idx_int
    wp_walk using wpAny_loadPart' hl
    repeat (first
      | (refine wpAny_ite_false (decide_eq_false (by rw [c0]; exact Bool.false_ne_true)) ?_; wp_walk using wpAny_loadPart' hl)
      | (refine wpAny_ite_true (decide_eq_true c1) ?_; wp_walk using wpAny_loadPart' hl))
    exact ⟨_, rfl, h⟩
theorem tuple_mulZ (l : Addr) (items : Array Value) (n : Nat) (dd : Option Addr) (sl : Array (Option Value)) (x : Int) (u : Tok) (c0 : (decide (x < -(2 ^ 63)) || decide (x ≥ 2 ^ 63)) = false) (c1 : (items.isEmpty || x == 1) = false) (c2 : (decide (x ≤ 0) || items.isEmpty) = true) :
    Meets (Builtin.«tuple.__mul__» ⟨[.ref l, .int x u], []⟩) (fun _ R s => s.heap.get? l = some { cls := .type "tuple", dict := dd, data := .seq items n, slots := sl } ∧
      R (.ok (.ret (Value.ref s.heap.objs.size))) { s with heap := s.heap.push { cls := Value.type "tuple", data := Data.seq #[] }, toks := s.toks }) :=
  .of_wp fun prog w A R s h => by
    obtain ⟨hp, g, d, tk, os⟩ := s
    obtain ⟨hl, h⟩ := h
    have f1 := AutoSeq1.idx_int
    wp_walk using wpAny_loadPart' hl
    repeat (first
      | (refine wpAny_ite_false (decide_eq_false (by rw [c0]; exact Bool.false_ne_true)) ?_; wp_walk using wpAny_loadPart' hl)
      | (refine wpAny_ite_false (decide_eq_false (by rw [c1]; exact Bool.false_ne_true)) ?_; wp_walk using wpAny_loadPart' hl)
      | (refine wpAny_ite_true (decide_eq_true c2) ?_; wp_walk using wpAny_loadPart' hl))
    exact ⟨_, rfl, h⟩
def rMulA (K : PySem.W.Frag) : R2 := fun x y H Q => ∃ l k xs, x = V.ref l ∧ y = V.int k ∧ SqT K H l xs ∧ xs ≠ [] ∧ 0 ≤ k ∧ k ≤ 1000 ∧ xs.length ≤ 1000 ∧ (k = 1 → Q (.ref l) H) ∧ (k ≠ 1 → ∀ p, H p = none → Q (.ref p) (upd H p (.tup (List.replicate k.toNat xs).flatten)))
theorem op_mulA : OpR X (binaryOp .Mult) (rMulA X.K) := by
  intro pins s σ H x y v u Q I rx ry h
  obtain ⟨l, k, xs, rfl, rfl, hT, hne, h1, h2, hz, q1, q2⟩ := h
  by_cases hk : 2 ≤ k
  · exact op_repT pins s σ H _ _ v u Q I rx ry ⟨l, k, xs, rfl, rfl, hT, hne, hk, h2, hz, q2 (by omega)⟩
  cases rx
  obtain ⟨t, rfl⟩ := ry
  obtain ⟨its, r, ⟨⟨ca, da, ta, la⟩, ga, ha, na, ka⟩, hs⟩ := I.tuple hT
  simp only at ha ka
  subst ha ka
  have hi : its.toArray.isEmpty = false := by
    cases its with
    | nil => cases r; exact absurd rfl hne
    | cons a b => rfl
  have c0 : (decide (k < -(2 ^ 63)) || decide (k ≥ 2 ^ 63)) = false := by
    rw [decide_eq_false (by omega), decide_eq_false (by omega)] <;> rfl
  by_cases hk1 : k = 1
  · have c1 : (its.toArray.isEmpty || k == 1) = true := by rw [hk1]; simp
    refine wpAny_binaryOp_repeat_ref (T := "tuple") (U := "int") (by decide) ⟨_, ga, rfl⟩ (fun s' => typeIs_int s' k t) noFill_tuple_mul F.fills_int_mul F.slot_int_rmul repeat_tuple F.slot_int_index.lookup
      (call_meets F.slot_int_rmul (typeIs_int s k t) F.entry_int_rmul (F.args_int_rmul_2 _ _) (int_rmul_tuple k t l its.toArray na da la)
        ⟨ga, rfl, ⟨_, ga, rfl⟩, call_meets F.slot_tuple_mul ⟨_, ga, rfl⟩ F.entry_tuple_mul (F.args_tuple_mul_2 _ _) (tuple_mulS l its.toArray na da la k t c0 c1) ⟨ga, ?_⟩⟩)
    exact ⟨.ref l, H, I, rfl, q1 hk1⟩
  · have hk0 : k = 0 := by omega
    have c1 : (its.toArray.isEmpty || k == 1) = false := by rw [hi, hk0]; rfl
    have c2 : (decide (k ≤ 0) || its.toArray.isEmpty) = true := by rw [hk0]; rfl
    refine wpAny_binaryOp_repeat_ref (T := "tuple") (U := "int") (by decide) ⟨_, ga, rfl⟩ (fun s' => typeIs_int s' k t) noFill_tuple_mul F.fills_int_mul F.slot_int_rmul repeat_tuple F.slot_int_index.lookup
      (call_meets F.slot_int_rmul (typeIs_int s k t) F.entry_int_rmul (F.args_int_rmul_2 _ _) (int_rmul_tuple k t l its.toArray na da la)
        ⟨ga, rfl, ⟨_, ga, rfl⟩, call_meets F.slot_tuple_mul ⟨_, ga, rfl⟩ F.entry_tuple_mul (F.args_tuple_mul_2 _ _) (tuple_mulZ l its.toArray na da la k t c0 c1 c2) ⟨ga, ?_⟩⟩)
    have e0 : (List.replicate k.toNat xs).flatten = [] := by rw [hk0]; rfl
    have q := q2 hk1
    rw [e0] at q
    refine ⟨.ref s.heap.objs.size, _, I.laid (t' := s.toks) (o := .tup []) (fun b ob q => Heap.get?_push_of_some _ q) (Nat.le_refl _) ?_, rfl, q _ (I.hok.fresh (Nat.le_refl _))⟩
    exact ⟨Nat.zero_le _, [], .nil, IsTup.new _ _⟩
end
section
variable {K : PySem.W.Frag} {H : Hp} {Q : VK} {a b : Addr} {xs ys : List V}
theorem g_catA (h : H a = some (.tup xs)) (h2 : H b = some (.tup ys)) (hl : xs.length + ys.length ≤ sizeLine) (c : ∀ p H', Fr [] H H' → H' p = some (.tup (xs ++ ys)) → Q (.ref p) H') : rCatA K (.ref a) (.ref b) H Q := by
  refine ⟨a, b, xs, ys, rfl, rfl, SqT.of h, SqT.of h2, hl, fun e => ?_, fun e e' => ?_, fun e e' p hp => c p _ (Fr.new hp) upd_same⟩
  · subst e; exact c b H Fr.refl h2
  · subst e'
    rw [List.append_nil] at c
    exact c a H Fr.refl h
theorem g_mulA {k : Int} (h : H a = some (.tup xs)) (hne : xs ≠ []) (h1 : 0 ≤ k) (h2 : k ≤ 1000) (hz : xs.length ≤ 1000) (c : ∀ p H', Fr [] H H' → H' p = some (.tup (List.replicate k.toNat xs).flatten) → Q (.ref p) H') : rMulA K (.ref a) (.int k) H Q := by
  refine ⟨a, k, xs, rfl, rfl, SqT.of h, hne, h1, h2, hz, fun e => ?_, fun e p hp => c p _ (Fr.new hp) upd_same⟩
  subst e
  have e0 : (List.replicate (1 : Int).toNat xs).flatten = xs := by show (xs ++ [] : List V) = xs; rw [List.append_nil]
  rw [e0] at c
  exact c a H Fr.refl h
end
/-! data of any kind stands while nothing that stood is written -/
mutual
theorem Da.fr0 {H H' : Hp} (f : Fr [] H H') : ∀ (d : PyData) (v : V), Da H v d → Da H' v d
  | .none, _, h => by cases h; exact .non
  | .bool b, _, h => by cases h; exact .bl b
  | .int i, _, h => by cases h; exact .int i
  | .str x, _, h => by cases h; exact .str x
  | .list ds, _, h => by
    cases h with
    | lst e z r => exact .lst (f.at0 e) z (DaL.fr0 f ds _ r)
  | .tuple ds, _, h => by
    cases h with
    | tup e z r => exact .tup (f.tup _ _ e) z (DaL.fr0 f ds _ r)
  | .dict _, _, h => by cases h
theorem DaL.fr0 {H H' : Hp} (f : Fr [] H H') : ∀ (ds : List PyData) (vs : List V), DaL H vs ds → DaL H' vs ds
  | [], _, h => by cases h; exact .nil
  | d :: ds, _, h => by
    cases h with
    | cons r t => exact .cons (Da.fr0 f d _ r) (DaL.fr0 f ds _ t)
end
end Lw

namespace Lw
open PySem PySem.Spec PyProof.Rows PySem.Calls L2
/-! ### str(x) of nested data, where nothing is being shown yet -/
structure Tidy (d : PyData) : Prop where
  lay : PyData.layable0 d = true
  sh : PyData.intsShort 13 d = true
  ok : PyData.showable d = true
  nd : PyData.hasDict d = false
/-- str(x): the text of x itself, or what is shown of it -/
def strD : PyData → Str
  | .str x => x
  | d => d.shown
def rStrG : List V → Hp → VK → Prop := fun xs H Q => ∃ (a : Addr) (d : PyData), xs = [V.ref a] ∧ Da H (.ref a) d ∧ Tidy d ∧ Q (.str d.shown) H
theorem b_strG {X : Cx} (hgd : X.A.guards = some []) (hu : X.A.units + 200 < cLine) : CallR X (.type "str") rStrG := by
  intro pins s σ H xs us Q I r h
  obtain ⟨a, d, rfl, dd, td, q⟩ := h
  obtain ⟨u, rfl, ru⟩ := vals1 r
  cases (show u = Value.ref a from ru)
  obtain ⟨as, rr⟩ := Dp.reads I d _ _ (Da.dp (K := X.K) d _ dd) rfl
  have h2 : (PyData.canLay0 d && decide (PyData.depth d ≤ 64) && decide (PyData.weight d ≤ 2 ^ 20)) = true := td.lay
  simp only [Bool.and_eq_true, decide_eq_true_eq] at h2
  have h1 : d.depth ≤ 64 := h2.1.2
  have hz := shown_le13 td.lay td.sh
  exact str_of_reads (h₀ := s.heap) rr td.ok (fun z => by rw [td.nd] at z; cases z) hgd (by omega) (fun _ _ z => z) (fun h' u tk kp => ⟨.str d.shown, H, I.kept (t' := tk) kp, ⟨u, rfl⟩, q⟩) (by rw [sizeLine_eq]; omega)
def txtD : PyData → Str
  | .none => "None"
  | .bool b => if b then "True" else "False"
  | .int i => toString i
  | .str x => x
  | d => d.shown
def rStrA : List V → Hp → VK → Prop := fun xs H Q => ∃ (v : V) (d : PyData), xs = [v] ∧ Da H v d ∧ Tidy d ∧ Q (.str (txtD d)) H
theorem b_strA {X : Cx} (hgd : X.A.guards = some []) (hu : X.A.units + 200 < cLine) : CallR X (.type "str") rStrA := by
  intro pins s σ H xs us Q I r h
  obtain ⟨v, d, rfl, dd, td, q⟩ := h
  obtain ⟨u, rfl, ru⟩ := vals1 r
  cases dd with
  | non =>
    cases (show u = Value.none from ru)
    exact PySem.P.str_of_none ⟨.str "None", H, I.tok _, ⟨_, rfl⟩, q⟩
  | bl b =>
    cases (show u = Value.bool b from ru)
    exact PySem.P.str_of_bool ⟨.str _, H, I.tok _, ⟨_, rfl⟩, q⟩
  | int i =>
    obtain ⟨t, rfl⟩ := (show ∃ t, u = Value.int i t from ru)
    have hl : i.natAbs.log2 < 1920 := of_decide_eq_true td.ok
    exact PySem.P.str_of_int hl ⟨.str _, H, I.tok _, ⟨_, rfl⟩, q⟩
  | str x =>
    obtain ⟨t, rfl⟩ := (show ∃ t, u = Value.str x t from ru)
    exact PySem.P.str_of_str ⟨.str _, H, I, ⟨_, rfl⟩, q⟩
  | @lst a xs ds e z t => exact b_strG hgd hu pins s σ H _ _ Q I (.cons ru .nil) ⟨a, .list ds, rfl, .lst e z t, td, q⟩
  | @tup a xs ds e z t => exact b_strG hgd hu pins s σ H _ _ Q I (.cons ru .nil) ⟨a, .tuple ds, rfl, .tup e z t, td, q⟩
theorem g_strA {H : Hp} {Q : VK} {v : V} {d : PyData} (dd : Da H v d) (td : Tidy d) (q : Q (.str (txtD d)) H) : rStrA [v] H Q := ⟨v, d, rfl, dd, td, q⟩
/-! small data is tidy -/
mutual
def lite : PyData → Bool
  | .none => true
  | .bool _ => true
  | .int i => decide (i.natAbs < 10 ^ 12) || decide (i = 10 ^ 12)
  | .str x => PyData.canLay0 (.str x)
  | .list xs => liteL xs
  | .tuple xs => liteL xs
  | .dict _ => false
def liteL : List PyData → Bool
  | [] => true
  | x :: xs => lite x && liteL xs
end
theorem log2_small {n : Nat} (h : n < 10 ^ 12) : n.log2 < 40 := by
  by_cases z : n = 0
  · subst z; decide
  · exact (Nat.log2_lt z).mpr (Nat.lt_trans h (by decide))
mutual
theorem lite_lay : ∀ d : PyData, lite d = true → PyData.canLay0 d = true ∧ PyData.intsShort 13 d = true ∧ PyData.showable d = true ∧ PyData.hasDict d = false
  | .none, _ => ⟨rfl, rfl, rfl, rfl⟩
  | .bool _, _ => ⟨rfl, rfl, rfl, rfl⟩
  | .int i, h => by
    rcases Bool.or_eq_true_iff.mp (show (decide (i.natAbs < 10 ^ 12) || decide (i = 10 ^ 12)) = true from h) with h | h
    · have h : i.natAbs < 10 ^ 12 := of_decide_eq_true h
      refine ⟨rfl, ?_, ?_, rfl⟩
      · have := int_text_length_le10 (a := i) (k := 12) (by decide) h
        refine decide_eq_true ?_
        have e : (PyData.shown (.int i)) = Str.ofString (toString i) := rfl
        rw [e]
        have e2 : (Str.ofString (toString i)).length = (toString i).length := PySem.ofString_length _
        omega
      · exact decide_eq_true (Nat.lt_trans (log2_small h) (by decide))
    · have h : i = 10 ^ 12 := of_decide_eq_true h
      subst h
      exact ⟨rfl, by decide +kernel, by decide +kernel, rfl⟩
  | .str x, h => ⟨h, rfl, rfl, rfl⟩
  | .list xs, h => by
    have := lite_layL xs (by simpa [lite] using h)
    simpa [PyData.canLay0, PyData.intsShort, PyData.showable, PyData.hasDict] using this
  | .tuple xs, h => by
    have := lite_layL xs (by simpa [lite] using h)
    simpa [PyData.canLay0, PyData.intsShort, PyData.showable, PyData.hasDict] using this
  | .dict _, h => by simp [lite] at h
theorem lite_layL : ∀ xs : List PyData, liteL xs = true → PyData.canLayAll0 xs = true ∧ PyData.intsShortAll 13 xs = true ∧ PyData.showableAll xs = true ∧ PyData.hasDictAll xs = false
  | [], _ => ⟨rfl, rfl, rfl, rfl⟩
  | x :: xs, h => by
    simp only [liteL, Bool.and_eq_true] at h
    obtain ⟨a1, a2, a3, a4⟩ := lite_lay x h.1
    obtain ⟨b1, b2, b3, b4⟩ := lite_layL xs h.2
    simp [PyData.canLayAll0, PyData.intsShortAll, PyData.showableAll, PyData.hasDictAll, a1, a2, a3, a4, b1, b2, b3, b4]
end
structure Lt (w k : Nat) (d : PyData) : Prop where
  l : lite d = true
  w : d.weight ≤ w
  k : d.depth ≤ k
theorem Lt.mono {w k w' k' : Nat} {d : PyData} (h : Lt w k d) (hw : w ≤ w') (hk : k ≤ k') : Lt w' k' d := ⟨h.l, Nat.le_trans h.w hw, Nat.le_trans h.k hk⟩
theorem Lt.tidy {w k : Nat} {d : PyData} (h : Lt w k d) (hw : w ≤ 1048576) (hk : k ≤ 64) : Tidy d := by
  obtain ⟨a, b, c, e⟩ := lite_lay d h.l
  refine ⟨?_, b, c, e⟩
  show (PyData.canLay0 d && decide (PyData.depth d ≤ 64) && decide (PyData.weight d ≤ 2 ^ 20)) = true
  rw [a, decide_eq_true (Nat.le_trans h.k hk), decide_eq_true (Nat.le_trans h.w (Nat.le_trans hw (by decide)))]; rfl
theorem Lt.int {i : Int} (h : i.natAbs < 10 ^ 12) : Lt 41 0 (.int i) := by
  refine ⟨Bool.or_eq_true_iff.mpr (.inl (decide_eq_true h)), ?_, by simp [PyData.depth]⟩
  have := log2_small h
  show (if i == 0 then 0 else i.natAbs.log2 + 1) ≤ 41
  split <;> omega
theorem Lt.int12 {i : Int} (h0 : 0 ≤ i) (h : i ≤ 10 ^ 12) : Lt 41 0 (.int i) := by
  by_cases z : i.natAbs < 10 ^ 12
  · exact Lt.int z
  have y : i = 10 ^ 12 := by omega
  subst y
  exact ⟨by decide +kernel, by decide +kernel, by decide +kernel⟩
theorem Lt.all {w k : Nat} : ∀ {xs : List PyData}, (∀ x ∈ xs, Lt w k x) → liteL xs = true ∧ PyData.weightAll xs ≤ xs.length * (w + 1) ∧ PyData.depthAll xs ≤ k
  | [], _ => ⟨rfl, Nat.zero_le _, by simp [PyData.depthAll]⟩
  | x :: xs, h => by
    obtain ⟨a, b, c⟩ := Lt.all (xs := xs) fun y hy => h y (List.mem_cons_of_mem _ hy)
    have hx := h x List.mem_cons_self
    refine ⟨by simp [liteL, hx.l, a], ?_, ?_⟩
    · show PyData.weight x + 1 + PyData.weightAll xs ≤ _
      have := hx.w
      rw [List.length_cons, Nat.succ_mul]; omega
    · have := hx.k
      simp only [PyData.depthAll]; omega
theorem Lt.tup {w k n : Nat} {xs : List PyData} (h : ∀ x ∈ xs, Lt w k x) (hn : xs.length ≤ n) : Lt (n * (w + 1)) (k + 1) (.tuple xs) := by
  obtain ⟨a, b, c⟩ := Lt.all h
  refine ⟨a, ?_, by simp only [PyData.depth]; omega⟩
  show PyData.weightAll xs ≤ _
  exact Nat.le_trans b (Nat.mul_le_mul_right _ hn)
theorem Lt.lst {w k n : Nat} {xs : List PyData} (h : ∀ x ∈ xs, Lt w k x) (hn : xs.length ≤ n) : Lt (n * (w + 1)) (k + 1) (.list xs) := by
  obtain ⟨a, b, c⟩ := Lt.all h
  refine ⟨a, ?_, by simp only [PyData.depth]; omega⟩
  show PyData.weightAll xs ≤ _
  exact Nat.le_trans b (Nat.mul_le_mul_right _ hn)
/-! ### the law's own call: its frame is the first, nothing is being shown -/
structure LawG (P : Program) (w : World) (K : PySem.W.Frag) (mg : Str → Option Value) (base : Heap) (k : Nat) (f : Addr) (fd : FuncData) (ps : List Str) (sp : Sp) : Prop where
  go : ∀ (s : Shared) (H : Hp) (us : List Value) (vs : List V) (Q : VK) (E : XK), Room k callerA → Env0 P w K mg base callerA [] s H → BindsTo s fd ⟨us, []⟩ (ps.zip us) → Vals vs us → us.length = ps.length → sp vs H Q E →
    codeAny (model P w) callerA (.call (.ref f) ⟨us, []⟩) (CR CX0 [] P w H s Q E) s
theorem lawG_of {P : Program} {w : World} {K : PySem.W.Frag} {mg : Str → Option Value} {base : Heap} {k : Nat} {f : Addr} {nm qn : Str} {pars : Arguments} {bd : List Stmt} {sc : Scope} {dV kV dc pm cd ct oc : Value} {an od : Option Addr} {sl : Array (Option Value)} {N ps : List Str} {sp : Sp}
    (lk : K.lookup f = some ⟨oc, od, .func (PySem.W.fnOf nm qn pars bd sc dV kV dc pm an cd ct), sl⟩) (hc : PySem.W.codeIn K cd qn = true) (S : FnScope N ps sc)
    (B : ∀ (s : Shared) (H : Hp) (vs : List V) (Q : VK) (E : XK), Room k (callerA.deeper (envOfC qn sc s.heap.objs.size f cd)) → sp vs H Q E → ∃ t, PSs (cxOf CX0 P w K mg base N qn sc f cd callerA [] s H E) bd t ∧ t { nx := fun _ H1 => Q .non H1, rt := Q } (start N vs) H) :
    LawG P w K mg base (k + 1) f (PySem.W.fnOf nm qn pars bd sc dV kV dc pm an cd ct) ps sp := by
  constructor
  intro s H us vs Q E room e0 bind rv lu want
  have stays : ∀ b o, base.get? b = some o → s.heap.get? b = some o := fun b o q => (e0.bs b o q).1
  have inK : K.In s.heap := e0.mod.kin.keeps stays
  have noL : s.heap.NoLimit := e0.mod.nolimit.keeps stays
  have kinds : ∀ y ∈ ps.zip us, sc.names.lookup y.1 = some .local ∨ (sc.names.lookup y.1 = some .cell ∧ ((cellsFrom (s.heap.objs.size + 1) sc.names []).lookup y.1).isSome = true) := by
    rintro ⟨n, v⟩ hy
    cases S.par n (List.of_mem_zip hy).1 with
    | inl q => exact .inl q
    | inr q => exact .inr ⟨q, PySem.W.cellsFrom_some _ _ _ (.inl q)⟩
  refine codeAny_call_function (Room.depth room) (inK _ _ lk) rfl S.co S.gen rfl (PySem.W.codeRec_of inK hc) (bind _ _ _ _ ?_)
  refine wpAny_newFunctionEnv_cells S.kind kinds ?_
  intro env henv s1 ic
  subst henv
  refine ⟨noL.keeps ic.toInCall.keep, codeAny_func ?_⟩
  obtain ⟨t, deriv, done⟩ := B s H vs Q E (Room.deeper room _) want
  have start0 := inv_start (CX := CX0) (E := E) S room.hd e0 (rv.length.trans lu) rv ic
  refine wpAny_mono (deriv.run [] s1 (start N vs) H _ start0 done) ?_ fun _ _ z => z
  intro fl s2 hf
  have leave : ∀ {σ' : L2.St} {H1 : Hp} {v : V} {u : Value}, Inv (cxOf CX0 P w K mg base N qn sc f cd callerA [] s H E) [] σ' H1 s2 → RelV v u → Q v H1 → CE [] P w H s Q u s2 := by
    intro σ' H1 v u J r q
    exact ⟨v, H1, J.os, J.bare, J.base, J.hok, r, q⟩
  cases fl with
  | ret u =>
    obtain ⟨v, σ', H1, J, r, q⟩ := hf
    exact leave J r q
  | next =>
    obtain ⟨σ', H1, J, q⟩ := hf
    exact leave (v := .non) (u := .none) J rfl q
  | brk => exact (hf.choose_spec.choose_spec.2).elim
  | cont => exact (hf.choose_spec.choose_spec.2).elim
theorem Fun.law {P : Program} {w : World} {K : PySem.W.Frag} {mg : Str → Option Value} {base : Heap} {x qual : Str} {st : Stmt} {f : Addr} {fd : FuncData} {N ps : List Str} {k : Nat} {sp : Sp} (F : Fun K x qual st f fd) (S : FnScope N ps (defScope st))
    (B : ∀ (cdv : Value) (s : Shared) (H : Hp) (vs : List V) (Q : VK) (E : XK), Room k (callerA.deeper (envOfC qual (defScope st) s.heap.objs.size f cdv)) → sp vs H Q E →
      ∃ t, PSs (cxOf CX0 P w K mg base N qual (defScope st) f cdv callerA [] s H E).nox (defBody st) t ∧ t { nx := fun _ H1 => Q .non H1, rt := Q } (start N vs) H) : LawG P w K mg base (k + 1) f fd ps sp := by
  obtain ⟨oc, od, kV, doc, pm, an, cdv, ct, osl, rfl, lk, hcd⟩ := F.ex
  refine lawG_of lk hcd S ?_
  intro s H vs Q E r want
  obtain ⟨t, dv, z⟩ := B cdv s H vs Q E r want
  exact ⟨t, dv.nox, z⟩
theorem lawG_run {P : Program} {w : World} {K : PySem.W.Frag} {mg mb : Str → Option Value} {k : Nat} {fa a : Addr} {fd : FuncData} {x : Str} {sp : Sp} {s0 : Shared} {vs : List Value} {ns : List Int}
    (inK : K.In s0.heap) (glob : s0.heap.Ns mainGlobals mg) (blt : s0.heap.Ns builtinsNs mb) (bb : ∀ y : Str, y ≠ "__name__" → mb y = bootBuiltins y) (noL : s0.heap.NoLimit) (gens : s0.gens = #[])
    (script : s0.heap.get? a = some { cls := .type "list", data := .seq vs.toArray }) (intsV : IntsAre vs ns) (len : ns.length ≤ sizeLine) (room : Room k callerA)
    (F : ∀ base : Heap, K.In base → base.Ns mainGlobals mg → LawG P w K mg base k fa fd [x] sp) (bind : ∀ (s : Shared) (u : Value), BindsTo s fd ⟨[u], []⟩ [(x, u)])
    (want : ∀ H : Hp, SqL K H a (ns.map V.int) → sp [.ref a] H (fun v _ => v = .bl true) fun _ _ _ => False) :
    codeAny (model P w) callerA (.call (.ref fa) ⟨[.ref a], []⟩) (fun r s' => r = .ok (.ret (.bool true)) ∧ OldK s0.heap s'.heap ∧ s'.os = s0.os ∧ AllBare s'.gens) s0 := by
  have rv := vals_ints intsV
  have lv := intsV.length
  have main : ∀ H : Hp, (∀ b, H b ≠ none → b = a ∧ ∃ ob xs, H b = some (.frz ob (.lst xs))) → SqL K H a (ns.map V.int) → HOk P w H s0.heap → (H a ≠ none → K.lookup a = none) →
      codeAny (model P w) callerA (.call (.ref fa) ⟨[.ref a], []⟩) (fun r s' => r = .ok (.ret (.bool true)) ∧ OldK s0.heap s'.heap ∧ s'.os = s0.os ∧ AllBare s'.gens) s0 := by
    intro H only hS hok hA
    have up : ∀ {b : Addr} {o : Obj}, s0.heap.get? b = some o → H b = none → (hidT s0.heap H).get? b = some o := fun q n => hidT_get q n
    have free : ∀ {b : Addr} {o : Obj} {es : Array DictEntry} {ep : Nat}, s0.heap.get? b = some o → o.data = .dict es ep → H b = none := by
      intro b o es ep q d
      refine Classical.byContradiction fun z => ?_
      obtain ⟨rfl, _⟩ := only b z
      rw [script] at q
      cases q
      cases d
    have spaces : ∀ {b : Addr} {m : Str → Option Value}, s0.heap.Ns b m → (hidT s0.heap H).Ns b m := by
      rintro b m ⟨o, es, ep, q, d, r⟩
      exact ⟨o, es, ep, up q (free q d), d, r⟩
    have inB : K.In (hidT s0.heap H) := by
      intro b o q
      refine up (inK b o q) (Classical.byContradiction fun z => ?_)
      obtain ⟨rfl, _⟩ := only b z
      rw [hA z] at q
      cases q
    have limB : (hidT s0.heap H).NoLimit := by
      obtain ⟨mc, h1, h2⟩ := noL
      exact ⟨mc, spaces h1, h2⟩
    have modB : Mod K mg (hidT s0.heap H) := ⟨inB, spaces glob, ⟨mb, spaces blt, bb⟩, limB⟩
    have e0 : Env0 P w K mg (hidT s0.heap H) callerA [] s0 H :=
      { frames := rfl, mod := modB, bs := fun b o q => of_hidT q, bsz := Nat.le_of_eq (hidT_size _ _), funs := trivial, frf := fun b hb => absurd (show b ∈ ([] : List Addr) from hb) (by simp), hok := hok, bare := .of_eq gens }
    refine codeAny_mono ((F _ inB (spaces glob)).go s0 H [.ref a] [.ref a] _ _ room e0 (bind s0 (.ref a)) (.cons rfl .nil) rfl (want H hS)) ?_
    intro r s' h
    match r, h with
    | .error e, h => exact (show False from h).elim
    | .ok .next, h => exact (show False from h).elim
    | .ok .brk, h => exact (show False from h).elim
    | .ok .cont, h => exact (show False from h).elim
    | .ok (.ret u), h =>
      obtain ⟨v, H1, os, bare, un, hok1, r1, q⟩ := h
      cases (show v = .bl true from q)
      cases (show u = Value.bool true from r1)
      refine ⟨rfl, OldK.of_keep fun b o e => ?_, os, bare⟩
      by_cases z : H b = none
      · exact un.keep b o e z (fun y => absurd (show b ∈ ([] : List Addr) from y) (by simp)) (by simp)
      · obtain ⟨_, ob, xs, q1⟩ := only b z
        have q2 := un.frzs b ob _ q1
        have e1 := (hok b _ q1).1
        have e2 := (hok1 b _ q2).1
        rw [e] at e1
        cases e1
        exact e2
  by_cases hk : K.lookup a = none
  · refine main (fun b => if b = a then some (.frz { cls := .type "list", data := .seq vs.toArray } (.lst (ns.map V.int))) else none) ?_ (.inl (.inr ⟨{ cls := .type "list", data := .seq vs.toArray }, if_pos rfl⟩)) ?_ fun _ => hk
    · intro b z
      by_cases hb : b = a
      · exact ⟨hb, _, _, if_pos hb⟩
      · exact absurd (if_neg hb) z
    · intro b u z
      by_cases hb : b = a
      · cases (if_pos hb).symm.trans z
        subst hb
        exact ⟨script, by rw [List.length_map]; exact len, vs, _, rv, script⟩
      · cases (if_neg hb).symm.trans z
  · obtain ⟨o, ho⟩ := Option.ne_none_iff_exists'.mp hk
    have q := inK a o ho
    rw [script] at q
    cases q
    refine main (fun _ => none) (fun b z => absurd rfl z) (.inr ⟨_, vs.toArray, _, ho, rfl, rfl, rfl, by rw [List.size_toArray, lv]; exact len, by simpa using rv⟩) (fun b u z => ?_) fun z => absurd rfl z
    cases (show (none : Option HO) = some u from z)
theorem walkG {l : PySem.W.OpenLaw} {n k : Nat} {q : Program} {loose : List Str} {XP : (Str → Option Value) → Heap → Prop} {YP : World → Heap → Prop} {d : DefRec} {K : Params → PySem.W.Frag} {sp : World → Sp} {x : Str}
    (hn : l.most = some n) (hz : n ≤ sizeLine) (hd : d.params.defaults = []) (room : Room k callerA) (inK : ∀ (w : World) (h : Heap), YP w h → (K w.params).In h)
    (F : ∀ (w : World) (mg : Str → Option Value) (fa : Addr) (h : Heap), (K w.params).In h → h.Ns mainGlobals mg → mg d.name = some (.ref fa) →
      ∃ fd : FuncData, (∀ (s : Shared) (u : Value), BindsTo s fd ⟨[u], []⟩ [(x, u)]) ∧ ∀ base : Heap, (K w.params).In base → base.Ns mainGlobals mg → LawG l.prog w (K w.params) mg base k fa fd [x] (sp w))
    (want : ∀ (w : World) (H : Hp) (a : Addr) (ns : List Int), ns.length ≤ n → SqL (K w.params) H a (ns.map V.int) → sp w [.ref a] H (fun v _ => v = .bl true) fun _ _ _ => False) :
    PySem.W.WalkO q loose XP YP l.row.toRowW d [] (fun f vs => PySem.call f vs) := by
  refine Att.attach_call hn hd ?_
  intro w s0 s1 mg mb fa o pm cd doc a vs ns G Y ho hdat hcode hmg obj intsV len gens
  have KX := inK w _ Y
  obtain ⟨fd, bind, hF⟩ := F w mg fa _ KX G.T.g hmg
  exact lawG_run KX G.T.g G.T.b G.T.builtins G.T.nolimit gens obj intsV (Nat.le_trans len hz) room hF bind fun H hS => want w H a ns len hS
end Lw

namespace Lw
open PySem PySem.Spec PyProof.Rows PySem.Calls L2
/-! ### a def that is called where nothing is being shown -/
structure GFn (P : Program) (w : World) (K : PySem.W.Frag) (mg : Str → Option Value) (base : Heap) (k : Nat) (f : Addr) (fd : FuncData) (ps : List Str) (sp : Sp) : Prop where
  len : ∀ vs H Q E, sp vs H Q E → vs.length = ps.length
  run : ∀ (A : Around) (outer : List Env) (s : Shared) (H : Hp) (us : List Value) (vs : List V) (Q : VK) (E : XK), Room k A → A.guards = some [] → Env0 P w K mg base A outer s H → BindsTo s fd ⟨us, []⟩ (ps.zip us) → Vals vs us → us.length = ps.length → sp vs H Q E →
    codeAny (model P w) A (.call (.ref f) ⟨us, []⟩) (CR CX0 outer P w H s Q E) s
theorem gFn_of {P : Program} {w : World} {K : PySem.W.Frag} {mg : Str → Option Value} {base : Heap} {k : Nat} {f : Addr} {nm qn : Str} {pars : Arguments} {bd : List Stmt} {sc : Scope} {dV kV dc pm cd ct oc : Value} {an od : Option Addr} {sl : Array (Option Value)} {N ps : List Str} {sp : Sp}
    (lk : K.lookup f = some ⟨oc, od, .func (PySem.W.fnOf nm qn pars bd sc dV kV dc pm an cd ct), sl⟩) (hc : PySem.W.codeIn K cd qn = true) (S : FnScope N ps sc) (hlen : ∀ vs H Q E, sp vs H Q E → vs.length = ps.length)
    (B : ∀ (A : Around) (outer : List Env) (s : Shared) (H : Hp) (vs : List V) (Q : VK) (E : XK), A.guards = some [] → Room k (A.deeper (envOfC qn sc s.heap.objs.size f cd)) → sp vs H Q E → ∃ t, PSs (cxOf CX0 P w K mg base N qn sc f cd A outer s H E) bd t ∧ t { nx := fun _ H1 => Q .non H1, rt := Q } (start N vs) H) :
    GFn P w K mg base (k + 1) f (PySem.W.fnOf nm qn pars bd sc dV kV dc pm an cd ct) ps sp := by
  refine ⟨hlen, ?_⟩
  intro A outer s H us vs Q E room hgd e0 bind rv lu want
  have stays : ∀ b o, base.get? b = some o → s.heap.get? b = some o := fun b o q => (e0.bs b o q).1
  have inK : K.In s.heap := e0.mod.kin.keeps stays
  have noL : s.heap.NoLimit := e0.mod.nolimit.keeps stays
  have kinds : ∀ y ∈ ps.zip us, sc.names.lookup y.1 = some .local ∨ (sc.names.lookup y.1 = some .cell ∧ ((cellsFrom (s.heap.objs.size + 1) sc.names []).lookup y.1).isSome = true) := by
    rintro ⟨n, v⟩ hy
    cases S.par n (List.of_mem_zip hy).1 with
    | inl q => exact .inl q
    | inr q => exact .inr ⟨q, PySem.W.cellsFrom_some _ _ _ (.inl q)⟩
  refine codeAny_call_function (Room.depth room) (inK _ _ lk) rfl S.co S.gen rfl (PySem.W.codeRec_of inK hc) (bind _ _ _ _ ?_)
  refine wpAny_newFunctionEnv_cells S.kind kinds ?_
  intro env henv s1 ic
  subst henv
  refine ⟨noL.keeps ic.toInCall.keep, codeAny_func ?_⟩
  obtain ⟨t, deriv, done⟩ := B A outer s H vs Q E hgd (Room.deeper room _) want
  have start0 := inv_start (CX := CX0) (E := E) S room.hd e0 (rv.length.trans lu) rv ic
  refine wpAny_mono (deriv.run [] s1 (start N vs) H _ start0 done) ?_ fun _ _ z => z
  intro fl s2 hf
  have leave : ∀ {σ' : L2.St} {H1 : Hp} {v : V} {u : Value}, Inv (cxOf CX0 P w K mg base N qn sc f cd A outer s H E) [] σ' H1 s2 → RelV v u → Q v H1 → CE outer P w H s Q u s2 := by
    intro σ' H1 v u J r q
    exact ⟨v, H1, J.os, J.bare, J.base, J.hok, r, q⟩
  cases fl with
  | ret u =>
    obtain ⟨v, σ', H1, J, r, q⟩ := hf
    exact leave J r q
  | next =>
    obtain ⟨σ', H1, J, q⟩ := hf
    exact leave (v := .non) (u := .none) J rfl q
  | brk => exact (hf.choose_spec.choose_spec.2).elim
  | cont => exact (hf.choose_spec.choose_spec.2).elim
theorem Fun.gfn {P : Program} {w : World} {K : PySem.W.Frag} {mg : Str → Option Value} {base : Heap} {x qual : Str} {st : Stmt} {f : Addr} {fd : FuncData} {N ps : List Str} {k : Nat} {sp : Sp} (F : Fun K x qual st f fd) (S : FnScope N ps (defScope st)) (hlen : ∀ vs H Q E, sp vs H Q E → vs.length = ps.length)
    (B : ∀ (cdv : Value) (A : Around) (outer : List Env) (s : Shared) (H : Hp) (vs : List V) (Q : VK) (E : XK), A.guards = some [] → Room k (A.deeper (envOfC qual (defScope st) s.heap.objs.size f cdv)) → sp vs H Q E →
      ∃ t, PSs (cxOf CX0 P w K mg base N qual (defScope st) f cdv A outer s H E).nox (defBody st) t ∧ t { nx := fun _ H1 => Q .non H1, rt := Q } (start N vs) H) : GFn P w K mg base (k + 1) f fd ps sp := by
  obtain ⟨oc, od, kV, doc, pm, an, cdv, ct, osl, rfl, lk, hcd⟩ := F.ex
  refine gFn_of lk hcd S hlen ?_
  intro A outer s H vs Q E hgd r want
  obtain ⟨t, dv, z⟩ := B cdv A outer s H vs Q E hgd r want
  exact ⟨t, dv.nox, z⟩
structure CalG (P : Program) (w : World) (K : PySem.W.Frag) (mg : Str → Option Value) (base : Heap) (x : Str) (k : Nat) (ps : List Str) (sp : Sp) : Prop where
  ex : ∃ f fd, GFn P w K mg base k f fd ps sp ∧ mg x = some (.ref f) ∧ PySem.W.keepIn K (.ref f) = true ∧ Binds K fd ps []
section
variable {X : Cx} {k : Nat} {ps : List Str} {sp : Sp} {x : Str} {p pos : Pos} {e : Expr} {es : List Expr} {t : TA}
theorem pe_clG (c : CalG X.prog X.w X.K X.mg X.base x k ps sp) (hgd : X.A.guards = some []) (hr : Room k X.A) (hg : Gl X x) (ha : PA X (e :: es) t) (hdb : (x == ("__debug__" : Str)) = false := by decide)
    (he : starEach (e :: es) X.env = (false, eval e X.env) :: starEach es X.env := by rfl) (hpl : (backTo pos (starEach es X.env)).any (·.1) = false := by rfl) : PE X (.Call (.Name x p) (e :: es) [] pos) (tCl sp t) := by
  obtain ⟨f, fd, F, hm, hk, hb⟩ := c.ex
  refine ⟨fun pins s σ H Q I h => ?_⟩
  refine wpAny_Call_Name_kw (ld_glob I hg hm ?_ hdb)
  refine PySem.W.callWith_K (h₀ := X.base) I.ok.mod.kin hk (thn (ha.run pos pins s σ H _ I h) fun us s1 ⟨vs, H1, I1, r, q⟩ => ⟨I1.kIn, ?_⟩) he hpl
  have hl : us.length = ps.length := by rw [← r.length]; exact F.len _ _ _ _ q
  refine wpAny_call (codeAny_mono (F.run X.A X.stack s1 H1 us vs Q E0 hr hgd I1.env0 (by simpa using hb s1 us I1.kIn (by simpa using hl)) r hl q) fun r s' hq => ?_)
  cases r with
  | error e => exact (pass0 : Passes CX0 X E0) pins σ H1 s1 _ s' I1 hq
  | ok fl =>
    cases fl with
    | ret u => exact I1.after hq
    | next => exact False.elim hq
    | brk => exact False.elim hq
    | cont => exact False.elim hq
end
end Lw

namespace Toy
open PySem L2 Lw

/-! ### the steps as one word each -/
local macro_rules | `(tactic| walk_at "ne") => `(tactic| first
  | assumption | exact Ne.symm (by assumption)
  | ((refine' ne_of_none ?h (by assumption)); (first | (case h => walk_at "fact") | fail))
  | ((refine' Ne.symm (ne_of_none ?h (by assumption))); (first | (case h => walk_at "fact") | fail))
  | walk_at "ne2")
local macro_rules | `(tactic| walk_at "nin") => `(tactic| first | exact nin0 | (refine nin1 ?_ ?_; walk_at "ne"; walk_at "nin") | assumption)
local macro_rules | `(tactic| walk_at "fact") => `(tactic| first
  | assumption
  | ((refine' Fr.tupAt (by assumption) ?h); (first | (case h => walk_at "fact") | fail))
  | ((refine' Fr.at0 (by assumption) ?h); (first | (case h => walk_at "fact") | fail))
  | ((refine' Fr.at (by assumption) ?h ?k); (first | (case h => walk_at "fact") | fail); (first | (case k => walk_at "nin") | fail)))
local macro_rules | `(tactic| walk_at "none") => `(tactic| first
  | assumption
  | ((refine' Fr.freeL (by assumption) ?h ?k); (first | (case h => walk_at "none") | fail); (first | (case k => walk_at "nin") | fail)))
local macro_rules | `(tactic| walk_at "mem") => `(tactic| first
  | assumption | exact List.mem_cons_self
  | (refine List.mem_cons_of_mem _ ?_; walk_at "mem"))
local macro_rules | `(tactic| walk_at "frn") => `(tactic| first
  | exact frn0
  | (refine frn1 ?_ ?_; (first | exact Or.inl (by walk_at "mem") | exact Or.inr (by walk_at "none")); walk_at "frn"))
local macro_rules | `(tactic| walk_at "fr") => `(tactic| first
  | assumption
  | exact Fr.refl
  | ((refine' Fr.own ?h (by assumption) ?k); (first | (case h => walk_at "fr") | fail); (first | (case k => walk_at "frn") | fail))
  | (refine Fr.of0 ?_; walk_at "fr"))
local macro_rules | `(tactic| walk_at "sz") => `(tactic| first | exact szM (by omega) | exact szM (by simp only [List.length_map, List.length_append, List.length_cons, List.length_nil]; omega))
local macro_rules | `(tactic| walk_at "sql") => `(tactic| first
  | assumption
  | exact SqL.of (by walk_at "fact")
  | ((refine' Fr.sql (by assumption) ?h ?k); (first | (case h => walk_at "sql") | fail); (first | (case k => walk_at "nin") | fail)))
local macro_rules | `(tactic| walk_at "sqt") => `(tactic| first
  | assumption
  | exact SqT.of (by walk_at "fact"))
local macro_rules | `(tactic| walk_at "ty") => `(tactic| first
  | assumption
  | exact TyX.base TyOf.non
  | exact TyX.base (TyOf.int _)
  | exact TyX.base (TyOf.bl _)
  | exact TyX.base (TyOf.str _)
  | exact TyX.base (TyOf.lst (by walk_at "fact"))
  | exact TyX.base (TyOf.tup (by walk_at "fact"))
  | exact TyX.base (TyOf.dK (by walk_at "fact"))
  | exact TyX.base (TyOf.dT (by walk_at "fact")))
local macro_rules | `(tactic| walk_at "kb") => `(tactic| first | exact kb_NoneType_list | exact kb_NoneType_tuple | exact kb_NoneType_bool | exact kb_NoneType_int | exact kb_NoneType_str | exact kb_NoneType_dict | exact kb_bool_list | exact kb_bool_tuple | exact kb_bool_bool | exact kb_bool_int | exact kb_bool_str | exact kb_bool_dict | exact kb_int_list | exact kb_int_tuple | exact kb_int_bool | exact kb_int_int | exact kb_int_str | exact kb_int_dict | exact kb_str_list | exact kb_str_tuple | exact kb_str_bool | exact kb_str_int | exact kb_str_str | exact kb_str_dict | exact kb_list_list | exact kb_list_tuple | exact kb_list_bool | exact kb_list_int | exact kb_list_str | exact kb_list_dict | exact kb_tuple_list | exact kb_tuple_tuple | exact kb_tuple_bool | exact kb_tuple_int | exact kb_tuple_str | exact kb_tuple_dict | exact kb_dict_list | exact kb_dict_tuple | exact kb_dict_bool | exact kb_dict_int | exact kb_dict_str | exact kb_dict_dict)
local macro_rules | `(tactic| walk_at "new") => `(tactic| intro _ _ _ _ _)
local macro_rules | `(tactic| walk_at "go1") => `(tactic| first
  | with_reducible refine g_seq ?_
  | with_reducible refine g_asg ?_
  | with_reducible refine g_name ?_
  | with_reducible refine g_drop ?_
  | with_reducible refine g_ret ?_
  | with_reducible refine g_for ?_
  | with_reducible refine g_lc ?_
  | with_reducible refine g_iL ?_
  | with_reducible refine g_iT ?_
  | with_reducible refine g_i1 ?_
  | with_reducible refine g_i2 ?_
  | with_reducible refine g_yes ?_
  | with_reducible refine g_ttr ?_
  | ((with_reducible refine' g_riL ?h ?_); (first | (case h => walk_at "sql") | fail))
  | ((with_reducible refine' g_riT ?h ?_); (first | (case h => walk_at "sqt") | fail))
  | ((with_reducible refine' g_ri1 ?h ?_); (first | (case h => (first | exact ⟨by decide, by decide⟩ | exact ⟨by omega, by omega⟩ | exact ⟨by simp only [List.length_map]; omega, by simp only [List.length_map]; omega⟩)) | fail))
  | ((with_reducible refine' g_ri2 ?h ?_); (first | (case h => (first | exact ⟨by decide, by decide, by decide, by decide⟩ | exact ⟨by omega, by omega, by omega, by omega⟩)) | fail))
  | with_reducible refine g_retN ?_
  | with_reducible refine g_next ?_
  | with_reducible refine g_cont ?_
  | with_reducible refine g_brk ?_
  | with_reducible refine g_ifs ?_
  | with_reducible refine g_test ?_
  | with_reducible refine g_tb ?_
  | with_reducible refine g_and ?_
  | with_reducible refine g_or ?_
  | with_reducible refine g_not ?_
  | with_reducible refine g_andV ?_
  | with_reducible refine g_orV ?_
  | with_reducible refine g_notV ?_
  | with_reducible refine g_ifE ?_
  | ((with_reducible refine' g_var ?h ?_); (first | (case h => exact rfl) | fail))
  | with_reducible refine g_c ?_
  | with_reducible refine g_op ?_
  | with_reducible refine g_cb ?_
  | with_reducible refine g_cl ?_
  | with_reducible refine g_nil ?_
  | with_reducible refine g_cons ?_
  | with_reducible refine g_tup ?_
  | with_reducible refine g_lst ?_
  | with_reducible refine g_fld ?_
  | with_reducible refine g_sfld ?_
  | with_reducible refine g_sub1 ?_
  | with_reducible refine g_flda ?_
  | with_reducible refine g_rAdd ?_
  | with_reducible refine g_rSub ?_
  | ((with_reducible refine' g_rfldb ?h ?l ?e ?_); (first | (case h => walk_at "fact") | fail); (first | (case l => exact Nat.le_of_ble_eq_true rfl) | fail); (first | (case e => exact rfl) | fail); intro _ _ _)
  | with_reducible refine g_mt ?_
  | with_reducible refine g_mk ?_
  | ((with_reducible refine g_rmk ?_); intro _ _ _ _ _ _ _ _ _)
  | with_reducible refine g_bm ?_
  | with_reducible refine g_bm0 ?_
  | with_reducible refine g_bl ?_
  | with_reducible refine g_add ?_
  | with_reducible refine g_sub ?_
  | with_reducible refine g_lt ?_
  | with_reducible refine g_le ?_
  | with_reducible refine g_gt ?_
  | with_reducible refine g_ge ?_
  | with_reducible refine g_eqI ?_
  | with_reducible refine g_neI ?_
  | with_reducible refine g_eqS ?_
  | with_reducible refine g_neS ?_
  | with_reducible refine g_eqB ?_
  | with_reducible refine g_isN ?_
  | with_reducible refine g_notN ?_
  | with_reducible refine g_max2 ?_
  | with_reducible refine g_min2 ?_
  | with_reducible refine g_ipI ?_
  | with_reducible refine g_iteT ?_
  | with_reducible refine g_iteF ?_
  | with_reducible refine g_iteNT ?_
  | with_reducible refine g_iteNF ?_
  | ((with_reducible refine' g_aug ?h ?_); (first | (case h => exact rfl) | fail))
  | ((with_reducible refine' g_mod ?h ?_); (first | (case h => (first | decide | omega | assumption | (simp only [List.length_map]; omega))) | fail))
  | ((with_reducible refine' g_div ?h ?_); (first | (case h => (first | exact ⟨by decide, by decide⟩ | assumption)) | fail))
  | ((with_reducible refine' g_pow ?h ?_); (first | (case h => (first | exact ⟨by decide, by decide, by decide⟩ | assumption)) | fail))
  | ((with_reducible refine' g_mul ?h ?_); (first | (case h => (first | exact Or.inr ⟨by decide, by decide⟩ | exact Or.inl ⟨by decide, by decide⟩ | exact Or.inr ⟨by omega, by omega⟩ | exact Or.inl ⟨by omega, by omega⟩ | assumption)) | fail))
  | ((with_reducible refine' g_newT ?h ?_); (first | (case h => exact Nat.le_of_ble_eq_true rfl) | fail); walk_at "new")
  | ((with_reducible refine' g_newL ?h ?_); (first | (case h => exact Nat.le_of_ble_eq_true rfl) | fail); walk_at "new")
  | ((with_reducible refine' g_lenL ?h ?_); (first | (case h => walk_at "sql") | fail))
  | ((with_reducible refine' g_lenT ?h ?_); (first | (case h => walk_at "sqt") | fail))
  | ((with_reducible refine' g_ixL ?h ?k ?_); (first | (case h => walk_at "sql") | fail); (first | (case k => exact rfl) | fail))
  | ((with_reducible refine' g_ixT ?h ?k ?_); (first | (case h => walk_at "sqt") | fail); (first | (case k => exact rfl) | fail))
  | ((with_reducible refine' g_listL ?h ?_); (first | (case h => walk_at "sql") | fail); walk_at "new")
  | ((with_reducible refine' g_listT ?h ?_); (first | (case h => walk_at "sqt") | fail); walk_at "new")
  | ((with_reducible refine' g_tupL ?h ?_); (first | (case h => walk_at "sql") | fail); walk_at "new")
  | ((with_reducible refine' g_bmL ?h ?_); (first | (case h => walk_at "fact") | fail))
  | ((with_reducible refine' g_isi ?h ?k ?_); (first | (case h => walk_at "ty") | fail); (first | (case k => walk_at "kb") | fail))
  | ((with_reducible refine' g_append ?h ?l ?_); (first | (case h => walk_at "fact") | fail); (first | (case l => walk_at "sz") | fail); intro _ _ _)
  | ((with_reducible refine' g_rmt ?h ?l ?_); (first | (case h => walk_at "fact") | fail); (first | (case l => exact rfl) | fail))
  | with_reducible refine g_sl ?_
  | with_reducible refine g_noP ?_
  | with_reducible refine g_part ?_
  | with_reducible refine g_rpart ?_
  | ((with_reducible refine' g_slL ?h ?_); (first | (case h => walk_at "sql") | fail); walk_at "new")
  | walk_at "go2"
  | walk_at "go3"
  | walk_at "go4"
  | walk_at "own")
local macro_rules | `(tactic| walk_at "go") => `(tactic| repeat walk_at "go1")
local macro_rules | `(tactic| walk_at "rdt") => `(tactic| first
  | exact Or.inl (by walk_at "fact")
  | exact Or.inr ⟨_, by walk_at "fact"⟩)
local macro_rules | `(tactic| walk_at "go2") => `(tactic| first
  | with_reducible refine g_dget ?_
  | with_reducible refine g_din ?_
  | with_reducible refine g_dnin ?_
  | with_reducible refine g_dput ?_
  | with_reducible refine g_dget2 ?_
  | with_reducible refine g_dget1 ?_
  | with_reducible refine g_iK ?_
  | with_reducible refine g_iE ?_
  | with_reducible refine g_iZ ?_
  | with_reducible refine g_gcons ?_
  | with_reducible refine g_chain ?_
  | with_reducible refine g_rch ?_
  | with_reducible refine g_isO ?_
  | with_reducible refine g_notO ?_
  | with_reducible refine g_eqO ?_
  | with_reducible refine g_neB ?_
  | ((with_reducible refine' g_ninI ?h ?_); (first | (case h => walk_at "sql") | fail))
  | with_reducible refine g_gnil ?_
  | with_reducible refine g_lstRg ?_
  | ((with_reducible refine' g_gtup ?h ?l ?_); (first | (case h => walk_at "sqt") | fail); (first | (case l => exact rfl) | fail))
  | ((with_reducible refine g_dnew ?_); walk_at "new")
  | ((with_reducible refine g_dnewK ?_); walk_at "new")
  | ((with_reducible refine' g_unl ?h ?_); (first | (case h => walk_at "fact") | fail); intro _ _ _)
  | ((with_reducible refine' g_rdg2 ?h ?_); (first | (case h => walk_at "rdt") | fail))
  | ((with_reducible refine' g_rkt ?h ?_); (first | (case h => walk_at "fact") | fail))
  | ((with_reducible refine' g_ren ?h ?_); (first | (case h => walk_at "sql") | fail))
  | ((with_reducible refine' g_rzp ?h ?k ?_); (first | (case h => walk_at "sql") | fail); (first | (case k => walk_at "sql") | fail))
  | ((with_reducible refine' g_bmT ?h ?_); (first | (case h => walk_at "fact") | fail))
  | ((with_reducible refine' g_clearT ?h ?_); (first | (case h => walk_at "fact") | fail); intro _ _ _)
  | ((with_reducible refine' g_rlrg ?h ?_); (first | (case h => exact RgOk.of_le (by omega) (by omega) (by omega) (by omega)) | fail); walk_at "new"))
local macro_rules | `(tactic| walk_at "go3") => `(tactic| first
  | with_reducible refine g_clX ?_
  | with_reducible refine g_rz ?_)

def top (i : Nat) : Stmt := PySem.Challenge.pw_manydoors_k06_housings_are_refused.main.body.getD i (.Pass ⟨0, 0, 0, 0⟩)
abbrev s_is_integer : Stmt := top 9
abbrev s_is_from : Stmt := top 10
abbrev s_nights_of : Stmt := top 11
abbrev s_meet : Stmt := top 12
abbrev s_check_room : Stmt := top 13
abbrev s_check_given : Stmt := top 14
abbrev s_housing : Stmt := top 15
abbrev s_Lmixed : Stmt := top 17
abbrev s_Lnumbers : Stmt := top 18
abbrev s_Ldraw : Stmt := top 19
abbrev s_Lsetup : Stmt := top 20
abbrev s_Lstay : Stmt := top 21
abbrev s_Lmeet : Stmt := top 22
abbrev s_Lfits : Stmt := top 24
abbrev s_Lstays : Stmt := top 23
abbrev s_Lorder : Stmt := top 25
abbrev s_Lgiven : Stmt := top 26
abbrev s_Lgood : Stmt := top 27
abbrev s_Lrefused : Stmt := top 28
abbrev s_law : Stmt := top 29
/-- where the classes stand -/
structure Ad where
  ManydoorsError : Addr
  BadSetup : Addr
  BadDeed : Addr
  BadStay : Addr
  BadHistory : Addr
  BadText : Addr
  BadLine : Addr
structure Txt (K : PySem.W.Frag) (mg : Str → Option Value) (A : Ad) : Prop where
  b_isinstance : mg "isinstance" = none
  b_int : mg "int" = none
  b_bool : mg "bool" = none
  b_list : mg "list" = none
  b_range : mg "range" = none
  b_max : mg "max" = none
  b_min : mg "min" = none
  b_len : mg "len" = none
  b_enumerate : mg "enumerate" = none
  b_sorted : mg "sorted" = none
  b_tuple : mg "tuple" = none
  b_str : mg "str" = none
  x_ManydoorsError : ErrC K mg "ManydoorsError" A.ManydoorsError
  x_BadSetup : ErrC K mg "BadSetup" A.BadSetup
  x_BadDeed : ErrC K mg "BadDeed" A.BadDeed
  x_BadStay : ErrC K mg "BadStay" A.BadStay
  x_BadHistory : ErrC K mg "BadHistory" A.BadHistory
  x_BadText : ErrC K mg "BadText" A.BadText
  x_BadLine : ErrC K mg "BadLine" A.BadLine
  ec_BadStay : ExcC K A.BadStay
  k_self : PySem.W.subIn K (.ref A.BadStay) (.ref A.BadStay) = some true
  k_many : PySem.W.kitOne K (.ref A.BadStay) (.ref A.ManydoorsError) = some true
  k_oth : PySem.W.kitAny K (.ref A.BadStay) [.ref A.BadDeed, .ref A.BadHistory, .ref A.BadLine, .ref A.BadSetup, .ref A.BadText] = some false
def spLaw (K : PySem.W.Frag) : Sp := fun vs H Q _ => ∃ x0, vs = [x0] ∧ ∃ (a : Addr) (ns : List Int), x0 = .ref a ∧ SqL K H a (ns.map V.int) ∧ ns.length ≤ 63 ∧ ∀ H', Q (.bl true) H'

section
variable {P : Program} {w : World} {K : PySem.W.Frag} {mg : Str → Option Value} {base : Heap} {A : Ad}
def P_Lmixed (K : PySem.W.Frag) (A : Ad) (x0 x1 : V) (H : Hp) (Q : VK) : Prop := ∃ a b : Int, x0 = .int a ∧ x1 = .int b ∧ ∀ n : Int, 0 ≤ n → n < 2147483647 → Q (.int n) H
def sp_Lmixed (K : PySem.W.Frag) (A : Ad) : Sp := fun vs H Q _ => ∃ x0 x1, vs = [x0, x1] ∧ P_Lmixed K A x0 x1 H Q
theorem c_Lmixed {K : PySem.W.Frag} {A : Ad} {x0 x1 : V} {H : Hp} {Q : VK} {E : XK} (h : P_Lmixed K A x0 x1 H Q) : sp_Lmixed K A [x0, x1] H Q E := ⟨_, _, rfl, h⟩
theorem sc_Lmixed : FnScope ["_law_number", "_law_k", "_law_step"] ["_law_number", "_law_k"] (defScope s_Lmixed) := ⟨rfl, rfl, rfl, by decide +kernel, rfl, by decide +kernel, by decide +kernel⟩
def t_Lmixed (K : PySem.W.Frag) (A : Ad) : TS :=
  (tSeq (tAsg (tOp oMod (tOp oAdd (tOp oAdd (tOp oMul (tVar 0) (tC (.int 48271))) (tOp oMul (tVar 1) (tC (.int 69621)))) (tC (.int 12345))) (tC (.int 2147483647))) (gName 2))
    (tRet (tOp oMod (tOp oAdd (tOp oMul (tVar 2) (tOp oAdd (tOp oDiv (tVar 2) (tC (.int 65536))) (tC (.int 3)))) (tVar 1)) (tC (.int 2147483647)))))
theorem pu_Lmixed (T : Txt K mg A) {x0 x1 : V} {H : Hp} {Q : VK} (h : P_Lmixed K A x0 x1 H Q) : t_Lmixed K A { nx := fun _ H' => Q .non H', rt := Q } [some x0, some x1, none] H := by
  obtain ⟨a, b, rfl, rfl, k⟩ := h
  unfold t_Lmixed
  walk_at "go"
  exact k _ (Int.emod_nonneg _ (by decide)) (Int.emod_lt_of_pos _ (by decide))
theorem ok_Lmixed {f : Addr} {fd : FuncData} (F : Fun K "_law_mixed" "_law_mixed" s_Lmixed f fd) (T : Txt K mg A)  : FnOk P w K mg base CX0 (1) f fd ["_law_number", "_law_k"] (sp_Lmixed K A) := by
  refine F.ok sc_Lmixed (fun vs H Q E h => ?_) (fun cdv Ar outer s H vs Q E hr h => ⟨t_Lmixed K A, ?_, ?_⟩)
  · obtain ⟨x0, x1, rfl, _⟩ := h
    rfl
  · have hu := hu_of hr
    exact (pss_cons (ps_set (i := 2) sc_Lmixed.nd rfl (Or.inl rfl) (pe_op o_mod (pe_op o_add (pe_op o_add (pe_op o_mul (pv 0) pe_int) (pe_op o_mul (pv 1) pe_int)) pe_int) pe_int))
    (pss_one (ps_ret (pe_op o_mod (pe_op o_add (pe_op o_mul (pv 2) (pe_op o_add (pe_op o_div (pv 2) pe_int) pe_int)) (pv 1)) pe_int))))
  · obtain ⟨x0, x1, rfl, h⟩ := h
    exact pu_Lmixed T h
def Sml (ms : List Int) : Prop := ∀ m ∈ ms, 0 ≤ m ∧ m < 1000000
theorem Sml.snoc {ms : List Int} (h : Sml ms) (z : Int) : Sml (ms ++ [z % 1000000]) := fun m hm => by
  rcases List.mem_append.mp hm with q | q
  · exact h m q
  · rw [List.mem_singleton.mp q]; exact ⟨Int.emod_nonneg _ (by decide), Int.emod_lt_of_pos _ (by decide)⟩
def P_Lnumbers (K : PySem.W.Frag) (A : Ad) (x0 : V) (H : Hp) (Q : VK) : Prop := ∃ (a : Addr) (ns : List Int), x0 = .ref a ∧ SqL K H a (ns.map V.int) ∧ ns.length ≤ 63 ∧
  ∀ (l : Addr) (ms : List Int) (H' : Hp), H l = none → Fr [] H H' → H' l = some (.lst (ms.map V.int)) → Sml ms → ms.length ≤ 10000 → Q (.ref l) H'
def sp_Lnumbers (K : PySem.W.Frag) (A : Ad) : Sp := fun vs H Q _ => ∃ x0, vs = [x0] ∧ P_Lnumbers K A x0 H Q
theorem c_Lnumbers {K : PySem.W.Frag} {A : Ad} {x0 : V} {H : Hp} {Q : VK} {E : XK} (h : P_Lnumbers K A x0 H Q) : sp_Lnumbers K A [x0] H Q E := ⟨_, rfl, h⟩
theorem sc_Lnumbers : FnScope ["_law_script", "_law_numbers_here", "_law_cell", "_law_rest", "_law_k"] ["_law_script"] (defScope s_Lnumbers) := ⟨rfl, rfl, rfl, by decide +kernel, rfl, by decide +kernel, by decide +kernel⟩
def t_Lnumbers (K : PySem.W.Frag) (A : Ad) : TS :=
  (tSeq (tAsg (tLst tNil) (gName 1))
    (tSeq (tFor (iList K (tVar 0)) (gName 2) (tIfS (tTest (tOp cGe (tVar 2) (tOp oPow (tC (.int 10)) (tC (.int 18))))) (tSeq (tAsg (tVar 2) (gName 3))
    (tFor (iRng1 (tCons (tC (.int 60)) tNil)) (gName 4) (tIfS (tTest (tOp cGt (tVar 3) (tC (.int 0)))) (tSeq (tDrop (tBM K "list" rAppend (tVar 1) (tCons (tOp oMod (tVar 3) (tC (.int 1000000))) tNil)))
    (tAsg (tOp oDiv (tVar 3) (tC (.int 1000000))) (gName 3))) tNext))) (tSeq (tDrop (tBM K "list" rAppend (tVar 1) (tCons (tOp oMod (tVar 2) (tC (.int 1000000))) tNil)))
    (tFor (iRng1 (tCons (tC (.int 5)) tNil)) (gName 4) (tDrop (tBM K "list" rAppend (tVar 1) (tCons (tOp oMod (tCl (sp_Lmixed K A) (tCons (tCl (sp_Lmixed K A) (tCons (tOp oMod (tVar 2) (tC (.int 2147483647))) (tCons (tVar 4) tNil))) (tCons (tOp oAdd (tVar 4) (tC (.int 7))) tNil))) (tC (.int 1000000))) tNil)))))))
    (tRet (tVar 1))))
theorem pu_Lnumbers (T : Txt K mg A) {x0 : V} {H : Hp} {Q : VK} (h : P_Lnumbers K A x0 H Q) : t_Lnumbers K A { nx := fun _ H' => Q .non H', rt := Q } [some x0, none, none, none, none] H := by
  obtain ⟨a, ns, rfl, hS, hl, k⟩ := h
  unfold t_Lnumbers
  walk_at "go"
  rename_i l H0 nl f0 e0
  refine f_list (xs := ns.map V.int) (fun i σ H' => ∃ (ms : List Int) (v1 v2 v3 : Option V), σ = [some (.ref a), some (.ref l), v1, v2, v3] ∧ Fr [] H H' ∧ H' l = some (.lst (ms.map V.int)) ∧ Sml ms ∧ ms.length ≤ 60 * i)
    ⟨[], none, none, none, rfl, f0, e0, fun _ q => (nomatch q), Nat.zero_le _⟩ ?_ ?_ ?_
  · rintro i σ H' _ ⟨ms, v1, v2, v3, rfl, f, e, s, hm⟩
    exact f.sql hS nin0
  · rintro i x σ H1 hx ⟨ms, v1, v2, v3, rfl, f1, e1, s1, hm⟩
    obtain ⟨n, rfl, hn, hmem⟩ := getI hx
    have hi : i < 63 := Nat.lt_of_lt_of_le ((List.getElem?_eq_some_iff.mp hn).1) hl
    walk_at "go"
    refine g_ite (fun c => ?_) (fun c => ?_)
    · walk_at "go"
      refine f_range (lo := 0) (n := 60) (fun j σ H' => ∃ (ms : List Int) (r : Int) (v3 : Option V), σ = [some (.ref a), some (.ref l), some (.int n), some (.int r), v3] ∧ Fr [] H H' ∧ H' l = some (.lst (ms.map V.int)) ∧ Sml ms ∧ ms.length ≤ 60 * i + j)
        ⟨ms, n, v3, rfl, f1, e1, s1, by omega⟩ ?_ ?_
      · rintro j σ H2 hj ⟨ms2, r, v3, rfl, f2, e2, s2, hm2⟩
        walk_at "go"
        refine g_ite (fun c => ?_) (fun c => ?_)
        · walk_at "go"
          rename_i H3 f3 e3
          exact ⟨ms2 ++ [r % 1000000], _, _, rfl, f2.own1 f3 nl, by rw [e3, List.map_append] <;> rfl, s2.snoc r, by rw [List.length_append]; exact Nat.add_le_add_right hm2 1⟩
        · walk_at "go"
          exact ⟨ms2, _, _, rfl, f2, e2, s2, by omega⟩
      · rintro σ H2 ⟨ms2, r, v3, rfl, f2, e2, s2, hm2⟩
        exact ⟨ms2, _, _, _, rfl, f2, e2, s2, by omega⟩
    · walk_at "go"
      rename_i H3 f3 e3
      refine f_range (lo := 0) (n := 5) (fun j σ H' => ∃ (ms : List Int) (v2 v3 : Option V), σ = [some (.ref a), some (.ref l), some (.int n), v2, v3] ∧ Fr [] H H' ∧ H' l = some (.lst (ms.map V.int)) ∧ Sml ms ∧ ms.length ≤ 60 * i + 1 + j)
        ⟨ms ++ [n % 1000000], v2, v3, rfl, f1.own1 f3 nl, by rw [e3, List.map_append] <;> rfl, s1.snoc n, by rw [List.length_append]; exact Nat.add_le_add_right hm 1⟩ ?_ ?_
      · rintro j σ H4 hj ⟨ms2, v2, v3, rfl, f4, e4, s4, hm4⟩
        walk_at "go"
        refine c_Lmixed ⟨_, _, rfl, rfl, fun z _ _ => ?_⟩
        walk_at "go"
        refine c_Lmixed ⟨_, _, rfl, rfl, fun z2 _ _ => ?_⟩
        walk_at "go"
        rename_i H5 f5 e5
        exact ⟨ms2 ++ [z2 % 1000000], _, _, rfl, f4.own1 f5 nl, by rw [e5, List.map_append] <;> rfl, s4.snoc z2, by rw [List.length_append]; exact Nat.add_le_add_right hm4 1⟩
      · rintro σ H4 ⟨ms2, v2, v3, rfl, f4, e4, s4, hm4⟩
        exact ⟨ms2, _, _, _, rfl, f4, e4, s4, by omega⟩
  · rintro σ H1 ⟨ms, v1, v2, v3, rfl, f1, e1, s1, hm⟩
    walk_at "go"
    rw [List.length_map] at hm
    exact k l ms H1 nl f1 e1 s1 (by omega)
theorem ok_Lnumbers {f : Addr} {fd : FuncData} (F : Fun K "_law_numbers" "_law_numbers" s_Lnumbers f fd) (T : Txt K mg A) (c_Lmixed : Cal P w K mg base "_law_mixed" 1 ["_law_number", "_law_k"] (sp_Lmixed K A)) : FnOk P w K mg base CX0 (2) f fd ["_law_script"] (sp_Lnumbers K A) := by
  refine F.ok sc_Lnumbers (fun vs H Q E h => ?_) (fun cdv Ar outer s H vs Q E hr h => ⟨t_Lnumbers K A, ?_, ?_⟩)
  · obtain ⟨x0, rfl, _⟩ := h
    rfl
  · have hu := hu_of hr
    exact (pss_cons (ps_set (i := 1) sc_Lnumbers.nd rfl (Or.inl rfl) (pe_lst pa_nil))
    (pss_cons (ps_for PassesOwn.never rfl (pi_list (pv 0)) (pg_name (i := 2) sc_Lnumbers.nd rfl (Or.inl rfl)) (pss_one (ps_if (pt_cmpR c_ge (pv 2) (pe_op o_pow pe_int pe_int) (nomark _)) (pss_cons (ps_set (i := 3) sc_Lnumbers.nd rfl (Or.inl rfl) (pv 2))
    (pss_one (ps_for PassesOwn.never rfl (pi_range1 rfl T.b_range (pa_cons pe_int pa_nil)) (pg_name (i := 4) sc_Lnumbers.nd rfl (Or.inl rfl)) (pss_one (ps_if (pt_cmpR c_gt (pv 3) pe_int (nomark _)) (pss_cons (ps_expr (pe_bm PySem.F.plainAttrs_list PySem.F.slot_list_append PySem.F.type_list_append mt_append (pv 1) (pa_cons (pe_op o_mod (pv 3) pe_int) pa_nil)))
    (pss_one (ps_set (i := 3) sc_Lnumbers.nd rfl (Or.inl rfl) (pe_op o_div (pv 3) pe_int)))) pss_nil))))) (pss_cons (ps_expr (pe_bm PySem.F.plainAttrs_list PySem.F.slot_list_append PySem.F.type_list_append mt_append (pv 1) (pa_cons (pe_op o_mod (pv 2) pe_int) pa_nil)))
    (pss_one (ps_for PassesOwn.never rfl (pi_range1 rfl T.b_range (pa_cons pe_int pa_nil)) (pg_name (i := 4) sc_Lnumbers.nd rfl (Or.inl rfl)) (pss_one (ps_expr (pe_bm PySem.F.plainAttrs_list PySem.F.slot_list_append PySem.F.type_list_append mt_append (pv 1) (pa_cons (pe_op o_mod (pe_cl c_Lmixed (hr.mono (by first | decide | omega)) (by rfl) (pa_cons (pe_cl c_Lmixed (hr.mono (by first | decide | omega)) (by rfl) (pa_cons (pe_op o_mod (pv 2) pe_int) (pa_cons (pv 4) pa_nil))) (pa_cons (pe_op o_add (pv 4) pe_int) pa_nil))) pe_int) pa_nil))))))))))
    (pss_one (ps_ret (pv 1)))))
  · obtain ⟨x0, rfl, h⟩ := h
    exact pu_Lnumbers T h
/-- the draws: a list of the numbers' list and a place -/
def Draws (H : Hp) (d l : Addr) : Prop := ∃ (ms : List Int) (k : Int), H d = some (.lst [.ref l, .int k]) ∧ H l = some (.lst (ms.map V.int)) ∧ Sml ms ∧ ms.length ≤ 10000 ∧ 0 ≤ k
theorem Draws.fr {H H' : Hp} {d l : Addr} {m : List Addr} (h : Draws H d l) (f : Fr m H H') (n1 : d ∉ m) (n2 : l ∉ m) : Draws H' d l := by
  obtain ⟨ms, k, h1, h2, h3⟩ := h
  exact ⟨ms, k, f.at h1 n1, f.at h2 n2, h3⟩
def P_Ldraw (K : PySem.W.Frag) (A : Ad) (x0 : V) (H : Hp) (Q : VK) : Prop := ∃ (d l : Addr), x0 = .ref d ∧ Draws H d l ∧
  ∀ (n : Int) (H' : Hp), 0 ≤ n → n < 1000000 → Fr [d] H H' → Draws H' d l → Q (.int n) H'
def sp_Ldraw (K : PySem.W.Frag) (A : Ad) : Sp := fun vs H Q _ => ∃ x0, vs = [x0] ∧ P_Ldraw K A x0 H Q
theorem c_Ldraw {K : PySem.W.Frag} {A : Ad} {x0 : V} {H : Hp} {Q : VK} {E : XK} (h : P_Ldraw K A x0 H Q) : sp_Ldraw K A [x0] H Q E := ⟨_, rfl, h⟩
theorem sc_Ldraw : FnScope ["_law_draws", "_law_at", "_law_first"] ["_law_draws"] (defScope s_Ldraw) := ⟨rfl, rfl, rfl, by decide +kernel, rfl, by decide +kernel, by decide +kernel⟩
def t_Ldraw (K : PySem.W.Frag) (A : Ad) : TS :=
  (tSeq (tAsg (tOp (rIxL K) (tVar 0) (tC (.int 1))) (gName 1))
    (tSeq (tAsg (tOp oAdd (tVar 1) (tC (.int 1))) (gSub (tVar 0) (tC (.int 1)) rSetL))
    (tSeq (tIfS (tTest (tOp cLt (tVar 1) (tCB (rLenSq K) (tCons (tOp (rIxL K) (tVar 0) (tC (.int 0))) tNil)))) (tRet (tOp (rIxL K) (tOp (rIxL K) (tVar 0) (tC (.int 0))) (tVar 1))) tNext)
    (tSeq (tAsg (tOp oAdd (tC (.int 1)) (tVar 1)) (gName 2))
    (tSeq (tIfS (tTest (tOp cGt (tCB (rLenSq K) (tCons (tOp (rIxL K) (tVar 0) (tC (.int 0))) tNil)) (tC (.int 0)))) (tAsg (tOp oAdd (tVar 2) (tOp oMul (tC (.int 1009)) (tOp (rIxL K) (tOp (rIxL K) (tVar 0) (tC (.int 0))) (tC (.int 0))))) (gName 2)) tNext)
    (tRet (tOp oMod (tCl (sp_Lmixed K A) (tCons (tCl (sp_Lmixed K A) (tCons (tVar 2) (tCons (tVar 1) tNil))) (tCons (tC (.int 5)) tNil))) (tC (.int 1000000)))))))))
theorem pu_Ldraw (T : Txt K mg A) {x0 : V} {H : Hp} {Q : VK} (h : P_Ldraw K A x0 H Q) : t_Ldraw K A { nx := fun _ H' => Q .non H', rt := Q } [some x0, none, none] H := by
  obtain ⟨d, l, rfl, ⟨ms, k, hd, hL, sm, hlen, hk⟩, q⟩ := h
  unfold t_Ldraw
  walk_at "go"
  refine g_setL hd (j := 1) rfl fun H1 f1 e1 => ?_
  have nld : l ≠ d := fun z => by
    subst z
    rw [hd] at hL
    have e := congrArg List.length (HO.lst.inj (Option.some.inj hL))
    cases ms with
    | nil => cases e
    | cons a r => cases HO.lst.inj (Option.some.inj hL)
  have hL1 : H1 l = some (.lst (ms.map V.int)) := f1.at hL (nin1 nld nin0)
  have D1 : Draws H1 d l := ⟨ms, k + 1, e1, hL1, sm, hlen, by omega⟩
  have e1' : H1 d = some (.lst [.ref l, .int (k + 1)]) := e1
  walk_at "go"
  rw [List.length_map]
  refine g_ite (fun c => ?_) (fun c => ?_)
  · walk_at "go"
    obtain ⟨v, hv, hv2⟩ := atI_of (xs := ms.map V.int) hk (by rw [List.length_map]; exact c)
    obtain ⟨n, rfl, _, hmem⟩ := getI hv2
    refine g_ixL (SqL.of hL1) hv ?_
    exact q n H1 (sm n hmem).1 (sm n hmem).2 f1 D1
  · have fin : ∀ n : Int, Q (.int (n % 1000000)) H1 := fun n => q _ H1 (Int.emod_nonneg _ (by decide)) (Int.emod_lt_of_pos _ (by decide)) f1 D1
    walk_at "go"
    rw [List.length_map]
    refine g_ite (fun c2 => ?_) (fun c2 => ?_)
    · walk_at "go"
      obtain ⟨v, hv, hv2⟩ := atI_of (xs := ms.map V.int) (z := 0) (Int.le_refl _) (by rw [List.length_map]; exact c2)
      obtain ⟨n, rfl, _, hmem⟩ := getI hv2
      refine g_ixL (SqL.of hL1) hv ?_
      walk_at "go"
      refine c_Lmixed ⟨_, _, rfl, rfl, fun z _ _ => ?_⟩
      walk_at "go"
      refine c_Lmixed ⟨_, _, rfl, rfl, fun z2 _ _ => ?_⟩
      walk_at "go"
      exact fin z2
    · walk_at "go"
      refine c_Lmixed ⟨_, _, rfl, rfl, fun z _ _ => ?_⟩
      walk_at "go"
      refine c_Lmixed ⟨_, _, rfl, rfl, fun z2 _ _ => ?_⟩
      walk_at "go"
      exact fin z2
theorem ok_Ldraw {f : Addr} {fd : FuncData} (F : Fun K "_law_draw" "_law_draw" s_Ldraw f fd) (T : Txt K mg A) (c_Lmixed : Cal P w K mg base "_law_mixed" 1 ["_law_number", "_law_k"] (sp_Lmixed K A)) : FnOk P w K mg base CX0 (2) f fd ["_law_draws"] (sp_Ldraw K A) := by
  refine F.ok sc_Ldraw (fun vs H Q E h => ?_) (fun cdv Ar outer s H vs Q E hr h => ⟨t_Ldraw K A, ?_, ?_⟩)
  · obtain ⟨x0, rfl, _⟩ := h
    rfl
  · have hu := hu_of hr
    exact (pss_cons (ps_set (i := 1) sc_Ldraw.nd rfl (Or.inl rfl) (pe_ix ix_list (pv 0) pe_int (fun _ _ => rfl)))
    (pss_cons (ps_asg (pe_op o_add (pv 1) pe_int) (pg_sub (pv 0) pe_int set_list))
    (pss_cons (ps_if (pt_cmpR c_lt (pv 1) (pe_callB b_len (by rfl) T.b_len (by decide +kernel) (pa_cons (pe_ix ix_list (pv 0) pe_int (fun _ _ => rfl)) pa_nil)) (nomark _)) (pss_one (ps_ret (pe_ix ix_list (pe_ix ix_list (pv 0) pe_int (fun _ _ => rfl)) (pv 1) (fun _ _ => rfl)))) pss_nil)
    (pss_cons (ps_set (i := 2) sc_Ldraw.nd rfl (Or.inl rfl) (pe_op o_add pe_int (pv 1)))
    (pss_cons (ps_if (pt_cmpR c_gt (pe_callB b_len (by rfl) T.b_len (by decide +kernel) (pa_cons (pe_ix ix_list (pv 0) pe_int (fun _ _ => rfl)) pa_nil)) pe_int (nomark _)) (pss_one (ps_set (i := 2) sc_Ldraw.nd rfl (Or.inl rfl) (pe_op o_add (pv 2) (pe_op o_mul pe_int (pe_ix ix_list (pe_ix ix_list (pv 0) pe_int (fun _ _ => rfl)) pe_int (fun _ _ => rfl)))))) pss_nil)
    (pss_one (ps_ret (pe_op o_mod (pe_cl c_Lmixed (hr.mono (by first | decide | omega)) (by rfl) (pa_cons (pe_cl c_Lmixed (hr.mono (by first | decide | omega)) (by rfl) (pa_cons (pv 2) (pa_cons (pv 1) pa_nil))) (pa_cons pe_int pa_nil))) pe_int))))))))
  · obtain ⟨x0, rfl, h⟩ := h
    exact pu_Ldraw T h
theorem Draws.new1 {H : Hp} {d l p : Addr} (h : Draws H d l) (e : H p = none) : d ≠ p := by
  obtain ⟨ms, k, h1, h2, _⟩ := h
  exact ne_of_none h1 e
theorem Draws.new2 {H : Hp} {d l p : Addr} (h : Draws H d l) (e : H p = none) : l ≠ p := by
  obtain ⟨ms, k, h1, h2, _⟩ := h
  exact ne_of_none h2 e
theorem Draws.ne {H : Hp} {d l p C dx : Addr} {fs : List (Str × V)} (h : Draws H d l) (e : H p = some (.ins C dx fs)) : d ≠ p ∧ l ≠ p := by
  obtain ⟨ms, k, h1, h2, _⟩ := h
  exact ⟨ne_of h1 e (by intro z; cases z), ne_of h2 e (by intro z; cases z)⟩
theorem Draws.ne' {H : Hp} {d l p : Addr} {xs : List V} (h : Draws H d l) (e : H p = some (.lst xs)) (n : xs.length ≠ 2) : d ≠ p := by
  obtain ⟨ms, k, h1, h2, _⟩ := h
  exact ne_of h1 e (by intro z; cases z; exact n rfl)
local macro_rules | `(tactic| walk_at "drw") => `(tactic| first
  | assumption
  | ((refine' Draws.fr ?h (by assumption) ?k ?l); (first | (case h => walk_at "drw") | fail); (first | (case k => walk_at "nin") | fail); (first | (case l => walk_at "nin") | fail)))
local macro_rules | `(tactic| walk_at "ne2") => `(tactic| first
  | exact Draws.new1 (by walk_at "drw") (by assumption) | exact Draws.new2 (by walk_at "drw") (by assumption)
  | exact Ne.symm (Draws.new1 (by walk_at "drw") (by assumption)) | exact Ne.symm (Draws.new2 (by walk_at "drw") (by assumption)))
local macro_rules | `(tactic| walk_at "go3") => `(tactic| ((with_reducible show sp_Ldraw _ _ _ _ _ _); refine' c_Ldraw ⟨_, _, rfl, ?D, ?_⟩; (first | (case D => walk_at "drw") | fail); intro _ _ _ _ _ _))


/-! ### setups, stays and parties as data -/
structure Setup where
  rooms : List Int
  nights : Int
  sellers : Int
  prices : List (List Int)
  share : Int
def rowD (r : List Int) : PyData := .tuple (r.map .int)
def setupD (S : Setup) : PyData := .tuple [rowD S.rooms, .int S.nights, .int S.sellers, .tuple (S.prices.map rowD), .int S.share]
structure SetupOk (S : Setup) : Prop where
  k1 : 1 ≤ S.rooms.length
  k3 : S.rooms.length ≤ 3
  rm : ∀ z ∈ S.rooms, 0 ≤ z ∧ z ≤ 4
  n1 : 1 ≤ S.nights
  n2 : S.nights ≤ 12
  s1 : 1 ≤ S.sellers
  s2 : S.sellers ≤ 4
  pl : S.prices.length = S.rooms.length
  pn : ∀ r ∈ S.prices, r.length = S.nights.toNat ∧ ∀ z ∈ r, 0 ≤ z ∧ z ≤ 1000000
  h1 : 0 ≤ S.share
  h2 : S.share ≤ 100
theorem imm_row (r : List Int) : imm (rowD r) = true := immL_of fun d hd => by obtain ⟨n, _, rfl⟩ := List.mem_map.mp hd; rfl
theorem imm_setup (S : Setup) : imm (setupD S) = true := by
  have h : immL (S.prices.map rowD) = true := immL_of fun d hd => by obtain ⟨r, _, rfl⟩ := List.mem_map.mp hd; exact imm_row r
  simp [setupD, imm, immL, h, imm_row]
/-- the parts of a setup in the heap -/
structure SetAt (H : Hp) (x : V) (S : Setup) (s r p : Addr) (ps : List V) : Prop where
  e : x = .ref s
  t : H s = some (.tup [.ref r, .int S.nights, .int S.sellers, .ref p, .int S.share])
  r : H r = some (.tup (S.rooms.map V.int))
  p : H p = some (.tup ps)
  ps : DaL H ps (S.prices.map rowD)
theorem SetAt.of {H : Hp} {x : V} {S : Setup} (h : Da H x (setupD S)) : ∃ s r p ps, SetAt H x S s r p ps := by
  obtain ⟨s, xs, rfl, e, _, q⟩ := h.tup1
  cases q with
  | cons a q => cases q with
    | cons b q => cases q with
      | cons c q => cases q with
        | cons d q => cases q with
          | cons f q =>
            cases q
            obtain ⟨r, rs, rfl, er, _, qr⟩ := a.tup1
            obtain ⟨p, ps, rfl, ep, _, qp⟩ := d.tup1
            cases b.int1
            cases c.int1
            cases f.int1
            rw [DaL.ints qr] at er
            exact ⟨s, r, p, ps, rfl, e, er, ep, qp⟩
theorem SetAt.row {H : Hp} {x : V} {S : Setup} {s r p : Addr} {ps : List V} (h : SetAt H x S s r p ps) {k : Nat} {row : List Int} (e : S.prices[k]? = some row) : ∃ a, ps[k]? = some (.ref a) ∧ H a = some (.tup (row.map V.int)) := by
  obtain ⟨v, hv, dv⟩ := h.ps.get' (i := k) (d := rowD row) (by rw [List.getElem?_map, e]; rfl)
  obtain ⟨a, xs, rfl, ea, _, q⟩ := dv.tup1
  rw [DaL.ints q] at ea
  exact ⟨a, hv, ea⟩
/-- a stay: kind, first, end -/
abbrev Stay := Int × Int × Int
def stayD (s : Stay) : PyData := .tuple [.int s.1, .int s.2.1, .int s.2.2]
def partyD (ss : List Stay) : PyData := .tuple (ss.map stayD)
def StayOk (S : Setup) (s : Stay) : Prop := 0 ≤ s.1 ∧ s.1 < S.rooms.length ∧ 0 ≤ s.2.1 ∧ s.2.1 < s.2.2 ∧ s.2.2 ≤ S.nights
theorem imm_stay (s : Stay) : imm (stayD s) = true := rfl
theorem imm_stays (ss : List Stay) : immL (ss.map stayD) = true := immL_of fun d hd => by obtain ⟨n, _, rfl⟩ := List.mem_map.mp hd; rfl
theorem imm_party (ss : List Stay) : imm (partyD ss) = true := imm_stays ss
theorem stay_at {H : Hp} {v : V} {s : Stay} (h : Da H v (stayD s)) : ∃ a, v = .ref a ∧ H a = some (.tup [.int s.1, .int s.2.1, .int s.2.2]) := by
  obtain ⟨a, xs, rfl, e, _, q⟩ := h.tup1
  obtain ⟨x, y, z, rfl, dx, dy, dz⟩ := q.three
  cases dx.int1
  cases dy.int1
  cases dz.int1
  exact ⟨a, rfl, e⟩
theorem stays_get {H : Hp} {xs : List V} {ss : List Stay} {i : Nat} {x : V} (h : DaL H xs (ss.map stayD)) (e : xs[i]? = some x) : ∃ s a, ss[i]? = some s ∧ x = .ref a ∧ H a = some (.tup [.int s.1, .int s.2.1, .int s.2.2]) ∧ Da H x (stayD s) := by
  obtain ⟨d, hd, dd⟩ := h.get e
  rw [List.getElem?_map] at hd
  cases q : ss[i]? with
  | none => rw [q] at hd; cases hd
  | some s =>
    rw [q] at hd
    cases hd
    obtain ⟨a, rfl, ea⟩ := stay_at dd
    exact ⟨s, a, rfl, rfl, ea, dd⟩

/-! ### setups, stays and parties are drawn -/
def P_Lsetup (K : PySem.W.Frag) (A : Ad) (x0 : V) (H : Hp) (Q : VK) : Prop := ∃ (d l : Addr), x0 = .ref d ∧ Draws H d l ∧
  ∀ (v : V) (S : Setup) (H' : Hp), SetupOk S → Da H' v (setupD S) → Fr [d] H H' → Draws H' d l → Q v H'
def sp_Lsetup (K : PySem.W.Frag) (A : Ad) : Sp := fun vs H Q _ => ∃ x0, vs = [x0] ∧ P_Lsetup K A x0 H Q
theorem c_Lsetup {K : PySem.W.Frag} {A : Ad} {x0 : V} {H : Hp} {Q : VK} {E : XK} (h : P_Lsetup K A x0 H Q) : sp_Lsetup K A [x0] H Q E := ⟨_, rfl, h⟩
theorem sc_Lsetup : FnScope ["_law_draws", "_law_rooms", "_law_nights", "_law_prices", "_law_k", "_law_t"] ["_law_draws"] (defScope s_Lsetup) := ⟨rfl, rfl, rfl, by decide +kernel, rfl, by decide +kernel, by decide +kernel⟩
def t_Lsetup (K : PySem.W.Frag) (A : Ad) : TS :=
  (tSeq (tAsg (tCB (rTupOf K) (tCons (tLc (iRng1 (tCons (tOp oAdd (tC (.int 1)) (tOp oMod (tCl (sp_Ldraw K A) (tCons (tVar 0) tNil)) (tC (.int 3)))) tNil)) (gName 4) tYes (tOp oMod (tCl (sp_Ldraw K A) (tCons (tVar 0) tNil)) (tC (.int 5))) [4]) tNil)) (gName 1))
    (tSeq (tAsg (tOp oAdd (tC (.int 1)) (tOp oMod (tCl (sp_Ldraw K A) (tCons (tVar 0) tNil)) (tC (.int 12)))) (gName 2))
    (tSeq (tAsg (tLst tNil) (gName 3))
    (tSeq (tFor (iRng1 (tCons (tCB (rLenSq K) (tCons (tVar 1) tNil)) tNil)) (gName 4) (tDrop (tBM K "list" rAppend (tVar 3) (tCons (tCB (rTupOf K) (tCons (tLc (iRng1 (tCons (tVar 2) tNil)) (gName 5) tYes (tOp (rIxL K) (tLst (tCons (tOp oMod (tCl (sp_Ldraw K A) (tCons (tVar 0) tNil)) (tC (.int 200))) (tCons (tC (.int 0)) (tCons (tOp oPow (tC (.int 10)) (tC (.int 6))) (tCons (tOp oMod (tCl (sp_Ldraw K A) (tCons (tVar 0) tNil)) (tC (.int 1000001))) tNil))))) (tOp oMod (tCl (sp_Ldraw K A) (tCons (tVar 0) tNil)) (tC (.int 4)))) [5]) tNil)) tNil))))
    (tRet (tTup (tCons (tVar 1) (tCons (tVar 2) (tCons (tOp oAdd (tC (.int 1)) (tOp oMod (tCl (sp_Ldraw K A) (tCons (tVar 0) tNil)) (tC (.int 4)))) (tCons (tCB (rTupOf K) (tCons (tVar 3) tNil)) (tCons (tOp (rIxL K) (tLst (tCons (tOp oMod (tCl (sp_Ldraw K A) (tCons (tVar 0) tNil)) (tC (.int 101))) (tCons (tC (.int 0)) (tCons (tC (.int 100)) tNil)))) (tOp oMod (tCl (sp_Ldraw K A) (tCons (tVar 0) tNil)) (tC (.int 3)))) tNil)))))))))))
theorem pu_Lsetup (T : Txt K mg A) {x0 : V} {H : Hp} {Q : VK} (h : P_Lsetup K A x0 H Q) : t_Lsetup K A { nx := fun _ H' => Q .non H', rt := Q } [some x0, none, none, none, none, none] H := by
  obtain ⟨d, l, rfl, D0, k⟩ := h
  unfold t_Lsetup
  walk_at "go"
  rename_i z H1 z0 z1 f1 D1
  refine l_range (lo := 0) (n := (1 + z % 3).toNat) fun Dl H2 nD f2 e2 => ⟨fun i acc H' => ∃ r : List Int, acc = r.map V.int ∧ r.length = i ∧ (∀ y ∈ r, 0 ≤ y ∧ y ≤ 4) ∧ Fr [d] H1 H' ∧ Draws H' d l, ⟨[], rfl, rfl, fun _ q => (nomatch q), f2.of0, D1.fr f2 nin0 nin0⟩, fun i acc H' hi ha ⟨r, e, hr, hm, f, D⟩ => ?_, fun acc H' ha ⟨r, e, hr, hm, f, D⟩ => ?_⟩
  · walk_at "go"
    refine ⟨rfl, ?_⟩
    walk_at "go"
    rename_i y H3 y0 y1 f3 D3
    have nd : Dl ≠ d := (D1.new1 nD).symm
    have nl : Dl ≠ l := (D1.new2 nD).symm
    refine lcY_of (f3.at ha (nin1 nd nin0)) (by rw [e]; walk_at "sz") fun H5 f5 e5 => ⟨r ++ [y % 5], by rw [e, List.map_append]; rfl, by rw [List.length_append, hr]; rfl, fun q hq => ?_, ?_, D3.fr f5 (nin1 nd.symm nin0) (nin1 nl.symm nin0)⟩
    · rcases List.mem_append.mp hq with h | h
      · exact hm q h
      · rw [List.mem_singleton.mp h]; omega
    · exact (f.transL f3).own1 f5 nD
  · subst e
    walk_at "go"
    rename_i rt H3 n3 f3 e3 w H4 w0 w1 f4 D4 pl H5 n5 f5 e5
    have nd : d ≠ pl := D4.new1 n5
    have nl : l ≠ pl := D4.new2 n5
    have er : H5 rt = some (.tup (r.map V.int)) := by walk_at "fact"
    have D5 : Draws H5 d l := D4.fr f5 nin0 nin0
    have npl : H pl = none := by walk_at "none"
    have F5 : Fr [d] H H5 := by walk_at "fr"
    rw [List.length_map]
    clear f1 D1 nD f2 e2 f D ha n3 f3 e3 f4 D4 f5 n5
    have hrl : r.length ≤ 3 ∧ 1 ≤ r.length := by omega
    refine f_range (lo := 0) (n := r.length) (fun i σ H' => ∃ (v4 v5 : Option V) (rows : List (List Int)) (xs : List V), σ = [some (.ref d), some (.ref rt), some (.int (1 + w % 12)), some (.ref pl), v4, v5] ∧ Fr [d] H H' ∧ Draws H' d l ∧ H' rt = some (.tup (r.map V.int)) ∧
      H' pl = some (.lst xs) ∧ DaL H' xs (rows.map rowD) ∧ rows.length = i ∧ ∀ q ∈ rows, q.length = (1 + w % 12).toNat ∧ ∀ y ∈ q, 0 ≤ y ∧ y ≤ 1000000)
      ⟨_, _, [], [], rfl, F5, D5, er, e5, .nil, rfl, fun _ q => (nomatch q)⟩ ?_ ?_
    · rintro i σ H6 hi ⟨v4, v5, rows, xs, rfl, f6, D6, er6, ep6, dr, hri, hq⟩
      have hxl : xs.length ≤ 10 := by rw [dr.len, List.length_map]; omega
      walk_at "go"
      refine l_range (lo := 0) (n := (1 + w % 12).toNat) fun Dl H7 nD f7 e7 => ⟨fun j acc H' => ∃ q : List Int, acc = q.map V.int ∧ q.length = j ∧ (∀ y ∈ q, 0 ≤ y ∧ y ≤ 1000000) ∧ Fr [d] H6 H' ∧ Draws H' d l, ⟨[], rfl, rfl, fun _ q => (nomatch q), f7.of0, D6.fr f7 nin0 nin0⟩, fun j acc H' hj ha ⟨q, e, hr, hm, f, D⟩ => ?_, fun acc H' ha ⟨q, e, hql, hm, f, D⟩ => ?_⟩
      · walk_at "go"
        refine ⟨rfl, ?_⟩
        walk_at "go"
        rename_i y1 H8 y10 y11 f8 D8 y2 H9 y20 y21 f9 D9 t H10 n10 f10 e10 y3 H11 y30 y31 f11 D11
        have hnd : Dl ≠ d := (D6.new1 nD).symm
        have hnl : Dl ≠ l := (D6.new2 nD).symm
        have htd : t ≠ d := (D9.new1 n10).symm
        obtain ⟨v, hv, hmem⟩ := atI_mem (xs := [V.int (y1 % 200), V.int 0, V.int (10 ^ Int.toNat 6), V.int (y2 % 1000001)]) (z := y3 % 4) (by omega) (by show y3 % 4 < 4; omega)
        obtain ⟨y, rfl, hy⟩ : ∃ y, v = .int y ∧ 0 ≤ y ∧ y ≤ 1000000 := by
          rcases List.mem_cons.mp hmem with h | hmem
          · exact ⟨_, h, by omega, by omega⟩
          rcases List.mem_cons.mp hmem with h | hmem
          · exact ⟨_, h, by omega, by omega⟩
          rcases List.mem_cons.mp hmem with h | hmem
          · exact ⟨_, h, by decide, by decide⟩
          · exact ⟨_, List.mem_singleton.mp hmem, by omega, by omega⟩
        refine g_ixL (SqL.of (f11.at e10 (nin1 htd nin0))) hv ?_
        have hD : H11 Dl = some (.lst acc) := f11.at (f10.at0 (f9.at (f8.at ha (nin1 hnd nin0)) (nin1 hnd nin0))) (nin1 hnd nin0)
        refine lcY_of hD (by rw [e]; walk_at "sz") fun H12 f12 e12 => ⟨q ++ [y], by rw [e, List.map_append]; rfl, by rw [List.length_append, hr]; rfl, fun z hz => ?_, ?_, D11.fr f12 (nin1 hnd.symm nin0) (nin1 hnl.symm nin0)⟩
        · rcases List.mem_append.mp hz with h | h
          · exact hm z h
          · rw [List.mem_singleton.mp h]; exact hy
        · exact ((((f.transL f8).transL f9).then0 f10).transL f11).own1 f12 nD
      · subst e
        have hpd : pl ≠ d := nd.symm
        have ep7 : H' pl = some (.lst xs) := f.at ep6 (nin1 hpd nin0)
        have hql2 : q.length ≤ 12 := by omega
        walk_at "go"
        rename_i t H8 n8 f8 e8 H9 f9 e9
        exact ⟨_, _, rows ++ [q], _, rfl, ((f6.transL f).then0 f8).own1 f9 npl, (D.fr f8 nin0 nin0).fr f9 (nin1 nd nin0) (nin1 nl nin0), f9.tup _ _ (f8.tup _ _ (f.tup _ _ er6)), e9,
          by rw [List.map_append]; exact (DaL.frL f9 (DaL.frL f8 (DaL.frL f dr (immL_of fun d hd => by obtain ⟨r, _, rfl⟩ := List.mem_map.mp hd; exact imm_row r)) (immL_of fun d hd => by obtain ⟨r, _, rfl⟩ := List.mem_map.mp hd; exact imm_row r)) (immL_of fun d hd => by obtain ⟨r, _, rfl⟩ := List.mem_map.mp hd; exact imm_row r)).append (.one' (.tup (f9.tup _ _ e8) (by rw [List.length_map]; omega) (.ofInts q))),
          by rw [List.length_append, hri]; rfl, fun z hz => (List.mem_append.mp hz).elim (hq z) fun h => by rw [List.mem_singleton.mp h]; exact ⟨hql, hm⟩⟩
    · rintro σ H6 ⟨v4, v5, rows, xs, rfl, f6, D6, er6, ep6, dr, hri, hq⟩
      have hxl : xs.length ≤ 10 := by rw [dr.len, List.length_map]; omega
      have hpd : pl ≠ d := nd.symm
      walk_at "go"
      rename_i m H7 m0 m1 f7 D7 pt H8 n8 f8 e8 y1 H9 y10 y11 f9 D9 t H10 n10 f10 e10 y2 H11 y20 y21 f11 D11
      have htd : t ≠ d := (D9.new1 n10).symm
      obtain ⟨v, hv, hmem⟩ := atI_mem (xs := [V.int (y1 % 101), V.int 0, V.int 100]) (z := y2 % 3) (by omega) (by show y2 % 3 < 3; omega)
      obtain ⟨y, rfl, hy⟩ : ∃ y, v = .int y ∧ 0 ≤ y ∧ y ≤ 100 := by
        rcases List.mem_cons.mp hmem with h | hmem
        · exact ⟨_, h, by omega, by omega⟩
        rcases List.mem_cons.mp hmem with h | hmem
        · exact ⟨_, h, by omega, by omega⟩
        · exact ⟨_, List.mem_singleton.mp hmem, by decide, by decide⟩
      refine g_ixL (SqL.of (f11.at e10 (nin1 htd nin0))) hv ?_
      walk_at "go"
      rename_i st H12 n12 f12 e12
      have ir : immL (rows.map rowD) = true := immL_of fun d hd => by obtain ⟨r, _, rfl⟩ := List.mem_map.mp hd; exact imm_row r
      have F : Fr [d] H6 H12 := by walk_at "fr"
      refine k _ ⟨r, 1 + w % 12, 1 + m % 4, rows, y⟩ H12 ⟨hrl.2, hrl.1, hm, by show 1 ≤ 1 + w % 12; omega, by show 1 + w % 12 ≤ 12; omega, by show 1 ≤ 1 + m % 4; omega, by show 1 + m % 4 ≤ 4; omega, hri, hq, hy.1, hy.2⟩ (.tup e12 (Nat.le_of_ble_eq_true rfl) ?_) (f6.transL F) (D11.fr f12 nin0 nin0)
      exact .cons (.tup (F.tup _ _ er6) (by rw [List.length_map]; omega) (.ofInts r)) (.cons (.int _) (.cons (.int _) (.cons (.tup (f12.tup _ _ (f11.tup _ _ (f10.tup _ _ (f9.tup _ _ e8)))) (by omega) (DaL.frL F dr ir)) (.one' (.int _)))))
theorem ok_Lsetup {f : Addr} {fd : FuncData} (F : Fun K "_law_setup" "_law_setup" s_Lsetup f fd) (T : Txt K mg A) (c_Ldraw : Cal P w K mg base "_law_draw" 2 ["_law_draws"] (sp_Ldraw K A)) : FnOk P w K mg base CX0 (3) f fd ["_law_draws"] (sp_Lsetup K A) := by
  refine F.ok sc_Lsetup (fun vs H Q E h => ?_) (fun cdv Ar outer s H vs Q E hr h => ⟨t_Lsetup K A, ?_, ?_⟩)
  · obtain ⟨x0, rfl, _⟩ := h
    rfl
  · have hu := hu_of hr
    exact (pss_cons (ps_set (i := 1) sc_Lsetup.nd rfl (Or.inl rfl) (pe_callTy b_tuple (by rfl) T.b_tuple (by decide +kernel) (pa_cons (pe_lc (own := [("_law_k", 4)]) (g := (gName 4)) (tt := tYes) rfl sc_Lsetup.nd (pi_range1 rfl T.b_range (pa_cons (pe_op o_add pe_int (pe_op o_mod (pe_cl c_Ldraw (hr.mono (by first | decide | omega)) (by rfl) (pa_cons (pv 0) pa_nil)) pe_int)) pa_nil)) (blkOk_by (N := ["_law_draws", "_law_rooms", "_law_nights", "_law_prices", "_law_k", "_law_t"]) (sc := defScope s_Lsetup) (own := [("_law_k", 4)]) (by decide +kernel)) (fun _ _ _ _ _ => (pg_name (i := 4) sc_Lsetup.nd rfl (Or.inl rfl))) (fun _ _ _ _ _ => pts_nil) (fun _ _ _ _ _ => (pe_op o_mod (pe_cl c_Ldraw (hr.mono (by first | decide | omega)) (by rfl) (pa_cons (pv 0) pa_nil)) pe_int))) pa_nil)))
    (pss_cons (ps_set (i := 2) sc_Lsetup.nd rfl (Or.inl rfl) (pe_op o_add pe_int (pe_op o_mod (pe_cl c_Ldraw (hr.mono (by first | decide | omega)) (by rfl) (pa_cons (pv 0) pa_nil)) pe_int)))
    (pss_cons (ps_set (i := 3) sc_Lsetup.nd rfl (Or.inl rfl) (pe_lst pa_nil))
    (pss_cons (ps_for PassesOwn.never rfl (pi_range1 rfl T.b_range (pa_cons (pe_callB b_len (by rfl) T.b_len (by decide +kernel) (pa_cons (pv 1) pa_nil)) pa_nil)) (pg_name (i := 4) sc_Lsetup.nd rfl (Or.inl rfl)) (pss_one (ps_expr (pe_bm PySem.F.plainAttrs_list PySem.F.slot_list_append PySem.F.type_list_append mt_append (pv 3) (pa_cons (pe_callTy b_tuple (by rfl) T.b_tuple (by decide +kernel) (pa_cons (pe_lc (own := [("_law_t", 5)]) (g := (gName 5)) (tt := tYes) rfl sc_Lsetup.nd (pi_range1 rfl T.b_range (pa_cons (pv 2) pa_nil)) (blkOk_by (N := ["_law_draws", "_law_rooms", "_law_nights", "_law_prices", "_law_k", "_law_t"]) (sc := defScope s_Lsetup) (own := [("_law_t", 5)]) (by decide +kernel)) (fun _ _ _ _ _ => (pg_name (i := 5) sc_Lsetup.nd rfl (Or.inl rfl))) (fun _ _ _ _ _ => pts_nil) (fun _ _ _ _ _ => (pe_ix ix_list (pe_lst (pa_cons (pe_op o_mod (pe_cl c_Ldraw (hr.mono (by first | decide | omega)) (by rfl) (pa_cons (pv 0) pa_nil)) pe_int) (pa_cons pe_int (pa_cons (pe_op o_pow pe_int pe_int) (pa_cons (pe_op o_mod (pe_cl c_Ldraw (hr.mono (by first | decide | omega)) (by rfl) (pa_cons (pv 0) pa_nil)) pe_int) pa_nil))))) (pe_op o_mod (pe_cl c_Ldraw (hr.mono (by first | decide | omega)) (by rfl) (pa_cons (pv 0) pa_nil)) pe_int) (fun _ _ => rfl)))) pa_nil)) pa_nil)))))
    (pss_one (ps_ret (pe_tup (pa_cons (pv 1) (pa_cons (pv 2) (pa_cons (pe_op o_add pe_int (pe_op o_mod (pe_cl c_Ldraw (hr.mono (by first | decide | omega)) (by rfl) (pa_cons (pv 0) pa_nil)) pe_int)) (pa_cons (pe_callTy b_tuple (by rfl) T.b_tuple (by decide +kernel) (pa_cons (pv 3) pa_nil)) (pa_cons (pe_ix ix_list (pe_lst (pa_cons (pe_op o_mod (pe_cl c_Ldraw (hr.mono (by first | decide | omega)) (by rfl) (pa_cons (pv 0) pa_nil)) pe_int) (pa_cons pe_int (pa_cons pe_int pa_nil)))) (pe_op o_mod (pe_cl c_Ldraw (hr.mono (by first | decide | omega)) (by rfl) (pa_cons (pv 0) pa_nil)) pe_int) (fun _ _ => rfl)) pa_nil))))))))))))
  · obtain ⟨x0, rfl, h⟩ := h
    exact pu_Lsetup T h
def P_Lstay (K : PySem.W.Frag) (A : Ad) (x0 x1 : V) (H : Hp) (Q : VK) : Prop := ∃ (d l : Addr) (S : Setup), x0 = .ref d ∧ Draws H d l ∧ SetupOk S ∧ Da H x1 (setupD S) ∧
  ∀ (v : V) (s : Stay) (H' : Hp), StayOk S s → Da H' v (stayD s) → Fr [d] H H' → Draws H' d l → Q v H'
def sp_Lstay (K : PySem.W.Frag) (A : Ad) : Sp := fun vs H Q _ => ∃ x0 x1, vs = [x0, x1] ∧ P_Lstay K A x0 x1 H Q
theorem c_Lstay {K : PySem.W.Frag} {A : Ad} {x0 x1 : V} {H : Hp} {Q : VK} {E : XK} (h : P_Lstay K A x0 x1 H Q) : sp_Lstay K A [x0, x1] H Q E := ⟨_, _, rfl, h⟩
theorem sc_Lstay : FnScope ["_law_draws", "_law_setup_here", "_law_first", "_law_most"] ["_law_draws", "_law_setup_here"] (defScope s_Lstay) := ⟨rfl, rfl, rfl, by decide +kernel, rfl, by decide +kernel, by decide +kernel⟩
def t_Lstay (K : PySem.W.Frag) (A : Ad) : TS :=
  (tSeq (tAsg (tOp oMod (tCl (sp_Ldraw K A) (tCons (tVar 0) tNil)) (tOp (rIxT K) (tVar 1) (tC (.int 1)))) (gName 2))
    (tSeq (tAsg (tOp oSub (tOp (rIxT K) (tVar 1) (tC (.int 1))) (tVar 2)) (gName 3))
    (tRet (tTup (tCons (tOp oMod (tCl (sp_Ldraw K A) (tCons (tVar 0) tNil)) (tCB (rLenSq K) (tCons (tOp (rIxT K) (tVar 1) (tC (.int 0))) tNil))) (tCons (tVar 2) (tCons (tOp oAdd (tOp oAdd (tVar 2) (tC (.int 1))) (tOp oMod (tCl (sp_Ldraw K A) (tCons (tVar 0) tNil)) (tOp (rIxL K) (tLst (tCons (tVar 3) (tCons (tCB rMin2 (tCons (tVar 3) (tCons (tC (.int 3)) tNil))) tNil))) (tOp oMod (tCl (sp_Ldraw K A) (tCons (tVar 0) tNil)) (tC (.int 2)))))) tNil)))))))
theorem pu_Lstay (T : Txt K mg A) {x0 x1 : V} {H : Hp} {Q : VK} (h : P_Lstay K A x0 x1 H Q) : t_Lstay K A { nx := fun _ H' => Q .non H', rt := Q } [some x0, some x1, none, none] H := by
  obtain ⟨d, l, S, rfl, D0, ok, dS, k⟩ := h
  obtain ⟨s, r, p, ps, sa⟩ := SetAt.of dS
  cases sa.e
  have e0 := sa.t
  have er := sa.r
  have hn := ok.n1
  have hk := ok.k1
  unfold t_Lstay
  walk_at "go"
  rename_i y1 H1 y10 y11 f1 D1 y2 H2 y20 y21 f2 D2 y3 H3 y30 y31 f3 D3 t H4 n4 f4 e4 y4 H5 y40 y41 f5 D5
  have htd : t ≠ d := (D3.new1 n4).symm
  have b0 := Int.emod_nonneg y1 (show S.nights ≠ 0 by omega)
  have b1 := Int.emod_lt_of_pos y1 (show 0 < S.nights by omega)
  have g0 := Int.emod_nonneg y2 (show ((S.rooms.length : Nat) : Int) ≠ 0 by omega)
  have g1 := Int.emod_lt_of_pos y2 (show 0 < ((S.rooms.length : Nat) : Int) by omega)
  obtain ⟨v, hv, hmem⟩ := atI_mem (xs := [V.int (S.nights - y1 % S.nights), V.int (if (3 : Int) < S.nights - y1 % S.nights then 3 else S.nights - y1 % S.nights)]) (z := y4 % 2) (by omega) (by show y4 % 2 < 2; omega)
  obtain ⟨y, rfl, hy⟩ : ∃ y, v = .int y ∧ 0 < y ∧ y ≤ S.nights - y1 % S.nights := by
    rcases List.mem_cons.mp hmem with h | hmem
    · exact ⟨_, h, by omega, by omega⟩
    · exact ⟨_, List.mem_singleton.mp hmem, by split <;> omega, by split <;> omega⟩
  refine g_ixL (SqL.of (f5.at e4 (nin1 htd nin0))) hv ?_
  obtain ⟨hy0, hy1⟩ := hy
  walk_at "go"
  rename_i st H6 n6 f6 e6
  have k0 := Int.emod_nonneg y3 (show y ≠ 0 by omega)
  have k1 := Int.emod_lt_of_pos y3 hy0
  rw [List.length_map] at e6
  exact k _ (y2 % (S.rooms.length : Int), y1 % S.nights, y1 % S.nights + 1 + y3 % y) H6 ⟨g0, g1, b0, by show y1 % S.nights < y1 % S.nights + 1 + y3 % y; omega, by show y1 % S.nights + 1 + y3 % y ≤ S.nights; omega⟩
    (.tup e6 (Nat.le_of_ble_eq_true rfl) (.cons (.int _) (.cons (.int _) (.one' (.int _))))) (by walk_at "fr") (D5.fr f6 nin0 nin0)
theorem ok_Lstay {f : Addr} {fd : FuncData} (F : Fun K "_law_stay" "_law_stay" s_Lstay f fd) (T : Txt K mg A) (c_Ldraw : Cal P w K mg base "_law_draw" 2 ["_law_draws"] (sp_Ldraw K A)) : FnOk P w K mg base CX0 (3) f fd ["_law_draws", "_law_setup_here"] (sp_Lstay K A) := by
  refine F.ok sc_Lstay (fun vs H Q E h => ?_) (fun cdv Ar outer s H vs Q E hr h => ⟨t_Lstay K A, ?_, ?_⟩)
  · obtain ⟨x0, x1, rfl, _⟩ := h
    rfl
  · have hu := hu_of hr
    exact (pss_cons (ps_set (i := 2) sc_Lstay.nd rfl (Or.inl rfl) (pe_op o_mod (pe_cl c_Ldraw (hr.mono (by first | decide | omega)) (by rfl) (pa_cons (pv 0) pa_nil)) (pe_ix ix_tup (pv 1) pe_int (fun _ _ => rfl))))
    (pss_cons (ps_set (i := 3) sc_Lstay.nd rfl (Or.inl rfl) (pe_op o_sub (pe_ix ix_tup (pv 1) pe_int (fun _ _ => rfl)) (pv 2)))
    (pss_one (ps_ret (pe_tup (pa_cons (pe_op o_mod (pe_cl c_Ldraw (hr.mono (by first | decide | omega)) (by rfl) (pa_cons (pv 0) pa_nil)) (pe_callB b_len (by rfl) T.b_len (by decide +kernel) (pa_cons (pe_ix ix_tup (pv 1) pe_int (fun _ _ => rfl)) pa_nil))) (pa_cons (pv 2) (pa_cons (pe_op o_add (pe_op o_add (pv 2) pe_int) (pe_op o_mod (pe_cl c_Ldraw (hr.mono (by first | decide | omega)) (by rfl) (pa_cons (pv 0) pa_nil)) (pe_ix ix_list (pe_lst (pa_cons (pv 3) (pa_cons (pe_callB (b_min2 rfl) (by rfl) T.b_min (by decide +kernel) (pa_cons (pv 3) (pa_cons pe_int pa_nil))) pa_nil))) (pe_op o_mod (pe_cl c_Ldraw (hr.mono (by first | decide | omega)) (by rfl) (pa_cons (pv 0) pa_nil)) pe_int) (fun _ _ => rfl)))) pa_nil))))))))
  · obtain ⟨x0, x1, rfl, h⟩ := h
    exact pu_Lstay T h
theorem stays_alike (ss : List Stay) : PySem.W.AllAlike (ss.map stayD) := fun d hd d' hd' => by
  obtain ⟨s, _, rfl⟩ := List.mem_map.mp hd
  obtain ⟨s', _, rfl⟩ := List.mem_map.mp hd'
  rfl
theorem stays_sortable (ss : List Stay) : PySem.W.Sortable (ss.map stayD) := .inl fun d hd => by
  obtain ⟨s, _, rfl⟩ := List.mem_map.mp hd
  exact ⟨_, _, rfl⟩
theorem stays_depth (ss : List Stay) : ∀ d ∈ ss.map stayD, d.depth ≤ 60 := fun d hd => by
  obtain ⟨s, _, rfl⟩ := List.mem_map.mp hd
  simp [stayD, PyData.depth, PyData.depthAll]
/-- stays in their order -/
def ssrt (ss : List Stay) : List Stay := ss.mergeSort (PySem.W.dataLe false stayD)
theorem ssrt_map (ss : List Stay) : (ssrt ss).map stayD = srt (ss.map stayD) := srt_map stayD ss
theorem ssrt_perm (ss : List Stay) : (ssrt ss).Perm ss := List.mergeSort_perm ss _
theorem ssrt_ssrt (ss : List Stay) : ssrt (ssrt ss) = ssrt ss := List.mergeSort_of_pairwise (PySem.W.sort_pairwise (dle_total stayD) ss)
/-- a party of the setup -/
structure PartyOk (S : Setup) (ss : List Stay) : Prop where
  l1 : 1 ≤ ss.length
  l4 : ss.length ≤ 4
  ok : ∀ s ∈ ss, StayOk S s
  so : ssrt ss = ss

/-! ### what is a setup -/
def isI : PyData → Bool
  | .int _ => true
  | _ => false
def isF (lo hi : Int) : PyData → Bool
  | .int i => decide (lo ≤ i) && decide (i ≤ hi)
  | _ => false
def rowOk (n : Int) : PyData → Bool
  | .tuple r => decide ((r.length : Int) = n) && r.all (isF 0 1000000)
  | _ => false
def pricesOk (k n : Int) : PyData → Bool
  | .tuple ps => decide ((ps.length : Int) = k) && ps.all (rowOk n)
  | _ => false
def intOf : PyData → Int
  | .int i => i
  | _ => 0
def roomsOk : PyData → Bool
  | .tuple rs => decide (1 ≤ (rs.length : Int)) && decide ((rs.length : Int) ≤ 3) && rs.all (isF 0 4)
  | _ => false
def lenOf : PyData → Int
  | .tuple rs => rs.length
  | _ => 0
def isSet : PyData → Bool
  | .tuple [r, n, s, p, h] => roomsOk r && (isF 1 12 n && isF 1 4 s) && (pricesOk (lenOf r) (intOf n) p && isF 0 100 h)
  | _ => false
theorem isF_int {lo hi : Int} {d : PyData} (h : isF lo hi d = true) : ∃ i, d = .int i ∧ lo ≤ i ∧ i ≤ hi := by
  cases d with
  | int i =>
    rw [isF, Bool.and_eq_true] at h
    exact ⟨i, rfl, of_decide_eq_true h.1, of_decide_eq_true h.2⟩
  | _ => cases h

/-! ### rooms for stays, plainly -/
def st0 : Stay := (0, 0, 0)
def stG (ss : List Stay) (j : Nat) : Stay := ss.getD j st0
def meetB (s t : Stay) : Bool := decide (s.1 = t.1) && (decide (s.2.1 < t.2.2) && decide (t.2.1 < s.2.2))
def cov (kind night : Int) (s : Stay) : Bool := decide (s.1 = kind) && (decide (s.2.1 ≤ night) && decide (night < s.2.2))
def Fits (S : Setup) (ss : List Stay) : Prop := ∀ k n : Nat, k < S.rooms.length → (n : Int) < S.nights → ((ss.filter (cov k n)).length : Int) ≤ S.rooms.getD k 0
def rmG (R : List (Option Int)) (j : Nat) : Option Int := R.getD j none
def tkn (ss : List Stay) (R : List (Option Int)) (t : Stay) (i : Nat) : List Int := (List.range i).filterMap fun j => (rmG R j).bind fun r => if meetB (stG ss j) t = true then some r else none
def free (t : List Int) (m : Nat) : List Int := ((List.range m).map fun i : Nat => (i : Int)).filter fun r => decide (r ∉ t)
abbrev rooms (S : Setup) (t : Stay) : Int := S.rooms.getD t.1.toNat 0
structure Good (S : Setup) (ss : List Stay) (R : List (Option Int)) : Prop where
  len : R.length = ss.length
  rng : ∀ j r, rmG R j = some r → 0 ≤ r ∧ r < rooms S (stG ss j)
  ncl : ∀ j l r, rmG R j = some r → rmG R l = some r → j ≠ l → meetB (stG ss j) (stG ss l) = false
theorem meet_sym {s t : Stay} : meetB s t = meetB t s := by
  unfold meetB
  rw [Bool.eq_iff_iff]
  simp only [Bool.and_eq_true, decide_eq_true_eq]
  constructor <;> (intro ⟨a, b, c⟩; exact ⟨a.symm, c, b⟩)
theorem rm_lt {R : List (Option Int)} {j : Nat} {r : Int} (h : rmG R j = some r) : j < R.length := by
  unfold rmG at h
  rw [List.getD_eq_getElem?_getD] at h
  by_cases q : j < R.length
  · exact q
  · rw [List.getElem?_eq_none (by omega)] at h; cases h
theorem rm_set {R : List (Option Int)} {k j : Nat} {v : Option Int} (hk : k < R.length) : rmG (R.set k v) j = if j = k then v else rmG R j := by
  unfold rmG
  rw [List.getD_eq_getElem?_getD, List.getD_eq_getElem?_getD, List.getElem?_set]
  by_cases q : k = j
  · subst q; simp [hk]
  · have q2 : ¬ j = k := fun z => q z.symm
    simp [q, q2]
theorem stG_mem {ss : List Stay} {k : Nat} (hk : k < ss.length) : stG ss k ∈ ss := by
  unfold stG
  rw [List.getD_eq_getElem?_getD, List.getElem?_eq_getElem hk]; exact List.getElem_mem hk
theorem stG_of {ss : List Stay} {k : Nat} {s : Stay} (h : ss[k]? = some s) : stG ss k = s := by
  unfold stG
  rw [List.getD_eq_getElem?_getD, h]; rfl
theorem rm_of {R : List (Option Int)} {k : Nat} {s : Option Int} (h : R[k]? = some s) : rmG R k = s := by
  unfold rmG
  rw [List.getD_eq_getElem?_getD, h]; rfl
theorem map_getD {α : Type} (ss : List α) (d : α) : (List.range ss.length).map (fun j => ss.getD j d) = ss := by
  refine List.ext_getElem (by simp) fun i h1 h2 => ?_
  rw [List.getElem_map, List.getElem_range, List.getD_eq_getElem?_getD, List.getElem?_eq_getElem h2]; rfl
theorem filter_idx (ss : List Stay) (p : Stay → Bool) : ((List.range ss.length).filter fun j => p (stG ss j)).length = (ss.filter p).length := by
  have h := congrArg (List.filter p) (map_getD ss st0)
  rw [List.filter_map] at h
  have h2 := congrArg List.length h
  rw [List.length_map] at h2
  exact h2
theorem mem_tkn {ss : List Stay} {R : List (Option Int)} {t : Stay} {i : Nat} {r : Int} : r ∈ tkn ss R t i ↔ ∃ j, j < i ∧ rmG R j = some r ∧ meetB (stG ss j) t = true := by
  unfold tkn
  rw [List.mem_filterMap]
  constructor
  · rintro ⟨j, hj, h⟩
    cases e : rmG R j with
    | none => rw [e] at h; cases h
    | some q =>
      rw [e] at h
      by_cases m : meetB (stG ss j) t = true
      · have h' : (if meetB (stG ss j) t = true then some q else none) = some r := h
        rw [if_pos m] at h'
        exact ⟨j, List.mem_range.mp hj, e.trans h', m⟩
      · have h' : (if meetB (stG ss j) t = true then some q else none) = some r := h
        rw [if_neg m] at h'; cases h'
  · rintro ⟨j, hj, e, m⟩
    refine ⟨j, List.mem_range.mpr hj, ?_⟩
    rw [e]
    show (if meetB (stG ss j) t = true then some r else none) = some r
    rw [if_pos m]
theorem tkn_more {ss : List Stay} {R : List (Option Int)} {t : Stay} {i : Nat} : tkn ss R t (i + 1) = tkn ss R t i ++ (match rmG R i with | some r => if meetB (stG ss i) t = true then [r] else [] | none => []) := by
  unfold tkn
  rw [List.range_succ, List.filterMap_append]
  congr 1
  cases e : rmG R i with
  | none => simp [e]
  | some r =>
    by_cases m : meetB (stG ss i) t = true
    · simp [e, m]
    · simp [e, m]
theorem tkn_len {ss : List Stay} {R : List (Option Int)} {t : Stay} {i : Nat} : (tkn ss R t i).length ≤ i := by
  unfold tkn
  exact Nat.le_trans (List.length_filterMap_le _ _) (by rw [List.length_range]; exact Nat.le_refl _)
theorem free_mem {t : List Int} {m : Nat} {r : Int} (h : r ∈ free t m) : 0 ≤ r ∧ r < m ∧ r ∉ t := by
  obtain ⟨h1, h2⟩ := List.mem_filter.mp h
  obtain ⟨i, hi, rfl⟩ := List.mem_map.mp h1
  have := List.mem_range.mp hi
  exact ⟨by omega, by omega, of_decide_eq_true h2⟩
theorem free_ne {S : Setup} {ss : List Stay} {R : List (Option Int)} {k : Nat} (G : Good S ss R) (F : Fits S ss) (ok : ∀ s ∈ ss, StayOk S s) (hk : k < ss.length) (hn : rmG R k = none) (ho : ∀ j r, rmG R j = some r → (stG ss j).2.1 ≤ (stG ss k).2.1) :
    free (tkn ss R (stG ss k) ss.length) (rooms S (stG ss k)).toNat ≠ [] := by
  intro hf
  have okk : StayOk S (stG ss k) := ok _ (stG_mem hk)
  obtain ⟨o1, o2, o3, o4, o5⟩ := okk
  generalize ht : stG ss k = t at *
  let TI := (List.range ss.length).filter fun j => (rmG R j).isSome && meetB (stG ss j) t
  have sub1 : ((List.range (rooms S t).toNat).map fun i : Nat => (i : Int)) ⊆ TI.map fun j => (rmG R j).getD 0 := by
    intro r hr
    have hnf : r ∉ free (tkn ss R t ss.length) (rooms S t).toNat := by rw [hf]; simp
    have hin : r ∈ tkn ss R t ss.length := by
      by_cases q : r ∈ tkn ss R t ss.length
      · exact q
      · exact absurd (List.mem_filter.mpr ⟨hr, decide_eq_true q⟩) hnf
    obtain ⟨j, hj, e, m⟩ := mem_tkn.mp hin
    exact List.mem_map.mpr ⟨j, List.mem_filter.mpr ⟨List.mem_range.mpr hj, by rw [e, m]; rfl⟩, by rw [e]; rfl⟩
  have nd1 : ((List.range (rooms S t).toNat).map fun i : Nat => (i : Int)).Nodup := List.Pairwise.map _ (fun a b h => by intro q; exact h (by omega)) List.nodup_range
  have l1 := List.Nodup.length_le_of_subset nd1 sub1
  rw [List.length_map, List.length_range, List.length_map] at l1
  let CI := (List.range ss.length).filter fun j => cov t.1 t.2.1 (stG ss j)
  have kn : k ∉ TI := fun q => by
    have := (List.mem_filter.mp q).2
    rw [hn] at this; cases this
  have sub2 : (k :: TI) ⊆ CI := by
    intro j hj
    rcases List.mem_cons.mp hj with h | h
    · rw [h]
      refine List.mem_filter.mpr ⟨List.mem_range.mpr hk, ?_⟩
      rw [ht]; unfold cov; simp; omega
    · obtain ⟨h1, h2⟩ := List.mem_filter.mp h
      rw [Bool.and_eq_true] at h2
      obtain ⟨r, hr⟩ := Option.isSome_iff_exists.mp h2.1
      have hle := ho j r hr
      refine List.mem_filter.mpr ⟨h1, ?_⟩
      have hm := h2.2
      unfold meetB at hm
      simp only [Bool.and_eq_true, decide_eq_true_eq] at hm
      unfold cov
      simp only [Bool.and_eq_true, decide_eq_true_eq]
      exact ⟨hm.1, hle, hm.2.2⟩
  have nd2 : (k :: TI).Nodup := List.nodup_cons.mpr ⟨kn, List.Pairwise.filter _ List.nodup_range⟩
  have l2 := List.Nodup.length_le_of_subset nd2 sub2
  have l3 : CI.length = (ss.filter (cov t.1 t.2.1)).length := filter_idx ss (cov t.1 t.2.1)
  have l4 := F t.1.toNat t.2.1.toNat (by omega) (by omega)
  rw [show ((t.1.toNat : Nat) : Int) = t.1 by omega, show ((t.2.1.toNat : Nat) : Int) = t.2.1 by omega, ← l3] at l4
  have l5 : (CI.length : Int) ≤ rooms S t := l4
  rw [List.length_cons] at l2
  omega
theorem Good.set {S : Setup} {ss : List Stay} {R : List (Option Int)} {k : Nat} {r : Int} (G : Good S ss R) (hk : k < ss.length) (hr : r ∈ free (tkn ss R (stG ss k) ss.length) (rooms S (stG ss k)).toNat) : Good S ss (R.set k (some r)) := by
  obtain ⟨r0, r1, r2⟩ := free_mem hr
  have hk' : k < R.length := by rw [G.len]; exact hk
  have key : ∀ l, l ≠ k → rmG R l = some r → meetB (stG ss l) (stG ss k) = false := fun l hl e => by
    cases q : meetB (stG ss l) (stG ss k) with
    | false => rfl
    | true => exact absurd (mem_tkn.mpr ⟨l, by rw [← G.len]; exact rm_lt e, e, q⟩) r2
  refine ⟨by rw [List.length_set]; exact G.len, fun j q h => ?_, fun j l q h1 h2 hne => ?_⟩
  · rw [rm_set hk'] at h
    by_cases e : j = k
    · rw [if_pos e] at h; cases h; rw [e]; exact ⟨r0, by omega⟩
    · rw [if_neg e] at h; exact G.rng j q h
  · rw [rm_set hk'] at h1 h2
    by_cases e : j = k
    · rw [if_pos e] at h1; cases h1
      have e2 : l ≠ k := fun z => hne (e.trans z.symm)
      rw [if_neg e2] at h2
      rw [e, meet_sym]; exact key l e2 h2
    · rw [if_neg e] at h1
      by_cases e2 : l = k
      · rw [if_pos e2] at h2; cases h2
        rw [e2]; exact key j e h1
      · rw [if_neg e2] at h2; exact G.ncl j l q h1 h2 hne
/-! the order -/
def le2 (ss : List Stay) : Nat → Nat → Bool := fun p q => decide ((stG ss p).2.1 < (stG ss q).2.1 ∨ ((stG ss p).2.1 = (stG ss q).2.1 ∧ (p : Int) ≤ (q : Int)))
def ord (ss : List Stay) (is : List Nat) : List Nat := is.mergeSort (le2 ss)
theorem le2_trans (ss : List Stay) : ∀ a b c, le2 ss a b = true → le2 ss b c = true → le2 ss a c = true := fun a b c h1 h2 => by
  unfold le2 at *
  simp only [decide_eq_true_eq] at *
  omega
theorem le2_total (ss : List Stay) : ∀ a b, (le2 ss a b || le2 ss b a) = true := fun a b => by
  unfold le2
  simp only [Bool.or_eq_true, decide_eq_true_eq]
  omega
theorem ord_pw (ss : List Stay) (is : List Nat) : (ord ss is).Pairwise fun a b => le2 ss a b = true := List.pairwise_mergeSort (le2_trans ss) (le2_total ss) is
theorem ord_perm (ss : List Stay) (is : List Nat) : (ord ss is).Perm is := List.mergeSort_perm is _
theorem ord_filter (ss : List Stay) (is : List Nat) (p : Nat → Bool) : ord ss (is.filter p) = (ord ss is).filter p :=
  List.Perm.eq_of_pairwise (le := fun a b => le2 ss a b = true) (fun a b _ _ h1 h2 => by
    unfold le2 at h1 h2
    simp only [decide_eq_true_eq] at h1 h2
    omega) (ord_pw ss _) ((ord_pw ss is).filter p) ((ord_perm ss _).trans ((ord_perm ss is).filter p).symm)
theorem ord_le {ss : List Stay} {is : List Nat} {i j : Nat} {a b : Nat} (hij : i < j) (ha : (ord ss is)[i]? = some a) (hb : (ord ss is)[j]? = some b) : (stG ss a).2.1 ≤ (stG ss b).2.1 := by
  obtain ⟨h1, e1⟩ := List.getElem?_eq_some_iff.mp ha
  obtain ⟨h2, e2⟩ := List.getElem?_eq_some_iff.mp hb
  have := List.pairwise_iff_getElem.mp (ord_pw ss is) i j h1 h2 hij
  rw [e1, e2] at this
  unfold le2 at this
  simp only [decide_eq_true_eq] at this
  omega
theorem take_le {ss : List Stay} {is : List Nat} {i : Nat} {a b : Nat} (ha : a ∈ (ord ss is).take i) (hb : (ord ss is)[i]? = some b) : (stG ss a).2.1 ≤ (stG ss b).2.1 := by
  obtain ⟨j, hj⟩ := List.mem_iff_getElem?.mp ha
  have hji : j < i := by
    have := (List.getElem?_eq_some_iff.mp hj).1
    rw [List.length_take] at this; omega
  rw [List.getElem?_take_of_lt hji] at hj
  exact ord_le hji hj hb
theorem ord_nodup {ss : List Stay} {is : List Nat} (h : is.Nodup) : (ord ss is).Nodup := (ord_perm ss is).symm.nodup h
theorem take_new {l : List Nat} {i b : Nat} (h : l.Nodup) (hb : l[i]? = some b) : b ∉ l.take i := fun q => by
  obtain ⟨j, hj⟩ := List.mem_iff_getElem?.mp q
  have hji : j < i := by
    have := (List.getElem?_eq_some_iff.mp hj).1
    rw [List.length_take] at this; omega
  rw [List.getElem?_take_of_lt hji] at hj
  obtain ⟨h1, e1⟩ := List.getElem?_eq_some_iff.mp hj
  obtain ⟨h2, e2⟩ := List.getElem?_eq_some_iff.mp hb
  exact List.pairwise_iff_getElem.mp h j i h1 h2 hji (e1.trans e2.symm)
/-! given rooms, and all rooms -/
structure Given (S : Setup) (ss : List Stay) (night : Int) (R : List (Option Int)) : Prop where
  g : Good S ss R
  n : ∀ j, j < ss.length → (rmG R j = none ↔ night < (stG ss j).2.1)
def pick0 (S : Setup) (ss : List Stay) (R : List (Option Int)) (k : Nat) : Int := (free (tkn ss R (stG ss k) ss.length) (rooms S (stG ss k)).toNat).headD 0
def stepR (S : Setup) (ss : List Stay) (R : List (Option Int)) (k : Nat) : List (Option Int) := R.set k (some (pick0 S ss R k))
structure HS (S : Setup) (ss : List Stay) (R0 : List (Option Int)) (ks : List Nat) (R : List (Option Int)) : Prop where
  g : Good S ss R
  o : ∀ j, j ∉ ks → rmG R j = rmG R0 j
  y : ∀ j, j ∈ ks → (rmG R j).isSome = true
theorem head_mem {l : List Int} (h : l ≠ []) : l.headD 0 ∈ l := by
  cases l with
  | nil => exact absurd rfl h
  | cons a r => exact List.mem_cons_self
theorem HS.step {S : Setup} {ss : List Stay} {night : Int} {R0 R : List (Option Int)} {ks : List Nat} {k : Nat} (h : HS S ss R0 ks R) (F : Fits S ss) (ok : ∀ s ∈ ss, StayOk S s) (gv : Given S ss night R0) (hk : k < ss.length) (hn : k ∉ ks) (h0 : rmG R0 k = none) (hle : ∀ j ∈ ks, (stG ss j).2.1 ≤ (stG ss k).2.1) :
    free (tkn ss R (stG ss k) ss.length) (rooms S (stG ss k)).toNat ≠ [] ∧ HS S ss R0 (ks ++ [k]) (stepR S ss R k) := by
  have hRk : rmG R k = none := by rw [h.o k hn]; exact h0
  have hnk := (gv.n k hk).mp h0
  have ho : ∀ j r, rmG R j = some r → (stG ss j).2.1 ≤ (stG ss k).2.1 := fun j r e => by
    by_cases q : j ∈ ks
    · exact hle j q
    · rw [h.o j q] at e
      have hj : j < ss.length := by rw [← gv.g.len]; exact rm_lt e
      have hnn : ¬ night < (stG ss j).2.1 := fun z => by have := (gv.n j hj).mpr z; rw [e] at this; cases this
      omega
  have fne := free_ne h.g F ok hk hRk ho
  have hkR : k < R.length := by rw [h.g.len]; exact hk
  refine ⟨fne, h.g.set hk (head_mem fne), fun j hj => ?_, fun j hj => ?_⟩
  · unfold stepR
    rw [rm_set hkR, if_neg fun z => hj (by rw [z]; simp)]
    exact h.o j fun q => hj (List.mem_append_left _ q)
  · unfold stepR
    rw [rm_set hkR]
    by_cases z : j = k
    · rw [if_pos z]; rfl
    · rw [if_neg z]
      rcases List.mem_append.mp hj with q | q
      · exact h.y j q
      · exact absurd (List.mem_singleton.mp q) z
def left (ss : List Stay) (R0 : List (Option Int)) : List Nat := (ord ss (List.range ss.length)).filter fun k => decide (rmG R0 k = none)
def housed (S : Setup) (ss : List Stay) (R0 : List (Option Int)) (i : Nat) : List (Option Int) := ((left ss R0).take i).foldl (stepR S ss) R0
theorem left_mem {ss : List Stay} {R0 : List (Option Int)} {k : Nat} : k ∈ left ss R0 ↔ k < ss.length ∧ rmG R0 k = none := by
  unfold left
  rw [List.mem_filter, (ord_perm ss _).mem_iff, List.mem_range, decide_eq_true_eq]
theorem left_nodup {ss : List Stay} {R0 : List (Option Int)} : (left ss R0).Nodup := List.Pairwise.filter _ (ord_nodup List.nodup_range)
theorem left_ord (ss : List Stay) (R0 : List (Option Int)) : left ss R0 = ord ss ((List.range ss.length).filter fun k => decide (rmG R0 k = none)) := (ord_filter ss _ _).symm
theorem housed_more {S : Setup} {ss : List Stay} {R0 : List (Option Int)} {i k : Nat} (h : (left ss R0)[i]? = some k) : housed S ss R0 (i + 1) = stepR S ss (housed S ss R0 i) k := by
  unfold housed
  rw [take_more h, List.foldl_append]; rfl
theorem housed_hs {S : Setup} {ss : List Stay} {night : Int} {R0 : List (Option Int)} (F : Fits S ss) (ok : ∀ s ∈ ss, StayOk S s) (gv : Given S ss night R0) : ∀ i, i ≤ (left ss R0).length → HS S ss R0 ((left ss R0).take i) (housed S ss R0 i)
  | 0, _ => ⟨gv.g, fun _ _ => rfl, fun _ h => nomatch h⟩
  | i + 1, hi => by
    have ih := housed_hs F ok gv i (by omega)
    have e : (left ss R0)[i]? = some ((left ss R0)[i]) := List.getElem?_eq_getElem (by omega)
    generalize (left ss R0)[i] = k at e
    obtain ⟨hk, h0⟩ := left_mem.mp (List.mem_of_getElem? e)
    have st := ih.step F ok gv hk (take_new left_nodup e) h0 fun j hj => by
      rw [left_ord] at hj e
      exact take_le hj e
    rw [housed_more e, take_more e]
    exact st.2
theorem housed_free {S : Setup} {ss : List Stay} {night : Int} {R0 : List (Option Int)} (F : Fits S ss) (ok : ∀ s ∈ ss, StayOk S s) (gv : Given S ss night R0) {i k : Nat} (e : (left ss R0)[i]? = some k) :
    free (tkn ss (housed S ss R0 i) (stG ss k) ss.length) (rooms S (stG ss k)).toNat ≠ [] := by
  obtain ⟨hk, h0⟩ := left_mem.mp (List.mem_of_getElem? e)
  have hi := (List.getElem?_eq_some_iff.mp e).1
  exact ((housed_hs F ok gv i (by omega)).step F ok gv hk (take_new left_nodup e) h0 fun j hj => by
    rw [left_ord] at hj e
    exact take_le hj e).1
abbrev housedAll (S : Setup) (ss : List Stay) (R0 : List (Option Int)) : List (Option Int) := housed S ss R0 (left ss R0).length
/-- all have rooms, the given ones stay -/
theorem housed_all {S : Setup} {ss : List Stay} {night : Int} {R0 : List (Option Int)} (F : Fits S ss) (ok : ∀ s ∈ ss, StayOk S s) (gv : Given S ss night R0) : Good S ss (housedAll S ss R0) ∧ (∀ j, j < ss.length → (rmG (housedAll S ss R0) j).isSome = true) ∧ ∀ j r, rmG R0 j = some r → rmG (housedAll S ss R0) j = some r := by
  have h := housed_hs F ok gv (left ss R0).length (Nat.le_refl _)
  rw [List.take_length] at h
  refine ⟨h.g, fun j hj => ?_, fun j r e => ?_⟩
  · cases q : rmG R0 j with
    | none => exact h.y j (left_mem.mpr ⟨hj, q⟩)
    | some r =>
      have e2 := h.o j fun z => by (have := (left_mem.mp z).2; rw [q] at this; cases this)
      rw [e2, q]; rfl
  · have e2 := h.o j fun z => by (have := (left_mem.mp z).2; rw [e] at this; cases this)
    rw [e2]; exact e
/-- the law's own walk: over all, by order -/
def housedL (S : Setup) (ss : List Stay) (R0 : List (Option Int)) (i : Nat) : List (Option Int) := (((ord ss (List.range ss.length)).take i).filter fun k => decide (rmG R0 k = none)).foldl (stepR S ss) R0
theorem housedL_all (S : Setup) (ss : List Stay) (R0 : List (Option Int)) : housedL S ss R0 ss.length = housedAll S ss R0 := by
  have hl : (ord ss (List.range ss.length)).length = ss.length := by rw [(ord_perm ss _).length_eq, List.length_range]
  unfold housedL housedAll housed left
  rw [List.take_length, List.take_of_length_le (by rw [hl]; exact Nat.le_refl _)]
theorem housedL_hs {S : Setup} {ss : List Stay} {night : Int} {R0 : List (Option Int)} (F : Fits S ss) (ok : ∀ s ∈ ss, StayOk S s) (gv : Given S ss night R0) : ∀ i, i ≤ ss.length → HS S ss R0 (((ord ss (List.range ss.length)).take i).filter fun k => decide (rmG R0 k = none)) (housedL S ss R0 i)
  | 0, _ => ⟨gv.g, fun _ _ => rfl, fun _ h => nomatch h⟩
  | i + 1, hi => by
    have ih := housedL_hs F ok gv i (by omega)
    have hl : (ord ss (List.range ss.length)).length = ss.length := by rw [(ord_perm ss _).length_eq, List.length_range]
    have e : (ord ss (List.range ss.length))[i]? = some ((ord ss (List.range ss.length))[i]) := List.getElem?_eq_getElem (by omega)
    generalize (ord ss (List.range ss.length))[i] = k at e
    have hk : k < ss.length := List.mem_range.mp ((ord_perm ss _).mem_iff.mp (List.mem_of_getElem? e))
    have hnk := take_new (ord_nodup List.nodup_range) e
    unfold housedL
    rw [take_more e, List.filter_append]
    by_cases q : rmG R0 k = none
    · have st := ih.step F ok gv hk (fun z => hnk (List.mem_filter.mp z).1) q fun j hj => take_le (List.mem_filter.mp hj).1 e
      have : ([k].filter fun k => decide (rmG R0 k = none)) = [k] := by simp [q]
      rw [this, List.foldl_append]
      exact st.2
    · have : ([k].filter fun k => decide (rmG R0 k = none)) = [] := by simp [q]
      rw [this, List.append_nil]
      exact ih
theorem housedL_step {S : Setup} {ss : List Stay} {night : Int} {R0 : List (Option Int)} (F : Fits S ss) (ok : ∀ s ∈ ss, StayOk S s) (gv : Given S ss night R0) {i k : Nat} (e : (ord ss (List.range ss.length))[i]? = some k) :
    k < ss.length ∧ rmG (housedL S ss R0 i) k = rmG R0 k ∧ (rmG R0 k ≠ none → housedL S ss R0 (i + 1) = housedL S ss R0 i) ∧ (rmG R0 k = none → free (tkn ss (housedL S ss R0 i) (stG ss k) ss.length) (rooms S (stG ss k)).toNat ≠ [] ∧ housedL S ss R0 (i + 1) = stepR S ss (housedL S ss R0 i) k) := by
  have hl : (ord ss (List.range ss.length)).length = ss.length := by rw [(ord_perm ss _).length_eq, List.length_range]
  have hi := (List.getElem?_eq_some_iff.mp e).1
  have ih := housedL_hs F ok gv i (by omega)
  have hk : k < ss.length := List.mem_range.mp ((ord_perm ss _).mem_iff.mp (List.mem_of_getElem? e))
  have hnk := take_new (ord_nodup List.nodup_range) e
  refine ⟨hk, ih.o k fun z => hnk (List.mem_filter.mp z).1, fun q => ?_, fun q => ?_⟩
  · unfold housedL
    rw [take_more e, List.filter_append]
    have : ([k].filter fun k => decide (rmG R0 k = none)) = [] := by simp [q]
    rw [this, List.append_nil]
  · refine ⟨(ih.step F ok gv hk (fun z => hnk (List.mem_filter.mp z).1) q fun j hj => take_le (List.mem_filter.mp hj).1 e).1, ?_⟩
    unfold housedL
    rw [take_more e, List.filter_append]
    have : ([k].filter fun k => decide (rmG R0 k = none)) = [k] := by simp [q]
    rw [this, List.foldl_append]; rfl
/-! the law's drawn rooms -/
structure GI (S : Setup) (ss : List Stay) (night : Int) (i : Nat) (R : List (Option Int)) : Prop where
  g : Good S ss R
  y : ∀ j, (rmG R j).isSome = true ↔ j ∈ (ord ss (List.range ss.length)).take i ∧ (stG ss j).2.1 ≤ night
theorem GI.start (S : Setup) (ss : List Stay) (night : Int) : GI S ss night 0 (ss.map fun _ => none) := by
  have hn : ∀ j, rmG (ss.map fun _ => (none : Option Int)) j = none := fun j => by
    unfold rmG
    rw [List.getD_eq_getElem?_getD, List.getElem?_map]
    cases ss[j]? <;> rfl
  refine ⟨⟨by rw [List.length_map], fun j r h => by (rw [hn] at h; cases h), fun j l r h => by (rw [hn] at h; cases h)⟩, fun j => ⟨fun h => by (rw [hn] at h; cases h), fun h => nomatch h.1⟩⟩
theorem GI.free {S : Setup} {ss : List Stay} {night : Int} {i k : Nat} {R : List (Option Int)} (h : GI S ss night i R) (F : Fits S ss) (ok : ∀ s ∈ ss, StayOk S s) (e : (ord ss (List.range ss.length))[i]? = some k) : k < ss.length ∧ free (tkn ss R (stG ss k) ss.length) (rooms S (stG ss k)).toNat ≠ [] := by
  have hk : k < ss.length := List.mem_range.mp ((ord_perm ss _).mem_iff.mp (List.mem_of_getElem? e))
  have hnk := take_new (ord_nodup List.nodup_range) e
  refine ⟨hk, free_ne h.g F ok hk ?_ fun j r hr => take_le ((h.y j).mp (by rw [hr]; rfl)).1 e⟩
  cases q : rmG R k with
  | none => rfl
  | some r => exact absurd ((h.y k).mp (by rw [q]; rfl)).1 hnk
theorem GI.skip {S : Setup} {ss : List Stay} {night : Int} {i k : Nat} {R : List (Option Int)} (h : GI S ss night i R) (e : (ord ss (List.range ss.length))[i]? = some k) (hn : ¬ (stG ss k).2.1 ≤ night) : GI S ss night (i + 1) R := by
  refine ⟨h.g, fun j => (h.y j).trans ⟨fun ⟨a, b⟩ => ⟨by rw [take_more e]; exact List.mem_append_left _ a, b⟩, fun ⟨a, b⟩ => ⟨?_, b⟩⟩⟩
  rw [take_more e] at a
  rcases List.mem_append.mp a with a | a
  · exact a
  · rw [List.mem_singleton.mp a] at b; exact absurd b hn
theorem GI.more {S : Setup} {ss : List Stay} {night : Int} {i k : Nat} {r : Int} {R : List (Option Int)} (h : GI S ss night i R) (e : (ord ss (List.range ss.length))[i]? = some k) (hk : k < ss.length) (hn : (stG ss k).2.1 ≤ night) (hr : r ∈ Toy.free (tkn ss R (stG ss k) ss.length) (rooms S (stG ss k)).toNat) : GI S ss night (i + 1) (R.set k (some r)) := by
  have hkR : k < R.length := by rw [h.g.len]; exact hk
  refine ⟨h.g.set hk hr, fun j => ?_⟩
  rw [rm_set hkR, take_more e, List.mem_append]
  by_cases q : j = k
  · subst q; simp [hn]
  · rw [if_neg q]
    refine (h.y j).trans ⟨fun ⟨a, b⟩ => ⟨.inl a, b⟩, fun ⟨a, b⟩ => ⟨?_, b⟩⟩
    rcases a with a | a
    · exact a
    · exact absurd (List.mem_singleton.mp a) q
theorem GI.fin {S : Setup} {ss : List Stay} {night : Int} {R : List (Option Int)} (h : GI S ss night ss.length R) : Given S ss night R := by
  have hl : (ord ss (List.range ss.length)).length = ss.length := by rw [(ord_perm ss _).length_eq, List.length_range]
  refine ⟨h.g, fun j hj => ?_⟩
  have y := h.y j
  rw [List.take_of_length_le (by rw [hl]; exact Nat.le_refl _)] at y
  have m : j ∈ ord ss (List.range ss.length) := (ord_perm ss _).mem_iff.mpr (List.mem_range.mpr hj)
  constructor
  · intro q
    by_cases z : (stG ss j).2.1 ≤ night
    · have := y.mpr ⟨m, z⟩; rw [q] at this; cases this
    · omega
  · intro q
    cases w : rmG R j with
    | none => rfl
    | some r => have := (y.mp (by rw [w]; rfl)).2; omega

/-- the type of data -/
def tyD : PyData → String
  | .none => "NoneType"
  | .bool _ => "bool"
  | .int _ => "int"
  | .str _ => "str"
  | .list _ => "list"
  | .tuple _ => "tuple"
  | .dict _ => "dict"
theorem Da.ty {K : PySem.W.Frag} {H : Hp} {v : V} {d : PyData} (h : Da H v d) : TyX K H v (.type (tyD d)) := by
  cases h with
  | non => exact TyX.base TyOf.non
  | bl b => exact TyX.base (TyOf.bl _)
  | int i => exact TyX.base (TyOf.int _)
  | str x => exact TyX.base (TyOf.str _)
  | lst e z r => exact TyX.base (TyOf.lst e)
  | tup e z r => exact TyX.base (TyOf.tup e)
def isTupD : PyData → Bool
  | .tuple _ => true
  | _ => false
theorem kit_tup {d : PyData} (h : ∀ m, d ≠ .dict m) : kitB (tyD d) "tuple" = some (isTupD d) := by
  cases d with
  | none => exact kb_NoneType_tuple
  | bool b => exact kb_bool_tuple
  | int i => exact kb_int_tuple
  | str s => exact kb_str_tuple
  | list l => exact kb_list_tuple
  | tuple l => exact kb_tuple_tuple
  | dict m => exact absurd rfl (h m)
theorem nodict {H : Hp} {v : V} {d : PyData} (h : Da H v d) : ∀ m, d ≠ .dict m := fun m e => by subst e; cases h
theorem g_isTup {K : PySem.W.Frag} {H : Hp} {Q : VK} {v : V} {d : PyData} (h : Da H v d) (q : Q (.bl (isTupD d)) H) : rIsi K [v, .ty "tuple"] H Q := g_isi (Da.ty h) (kit_tup (nodict h)) q
def P_is_integer (K : PySem.W.Frag) (A : Ad) (x0 : V) (H : Hp) (Q : VK) : Prop := ∃ d, Da H x0 d ∧ Q (.bl (isI d)) H
def sp_is_integer (K : PySem.W.Frag) (A : Ad) : Sp := fun vs H Q _ => ∃ x0, vs = [x0] ∧ P_is_integer K A x0 H Q
theorem c_is_integer {K : PySem.W.Frag} {A : Ad} {x0 : V} {H : Hp} {Q : VK} {E : XK} (h : P_is_integer K A x0 H Q) : sp_is_integer K A [x0] H Q E := ⟨_, rfl, h⟩
theorem sc_is_integer : FnScope ["value"] ["value"] (defScope s_is_integer) := ⟨rfl, rfl, rfl, by decide +kernel, rfl, by decide +kernel, by decide +kernel⟩
def t_is_integer (K : PySem.W.Frag) (A : Ad) : TS :=
  (tRet (tAndV (tCB (rIsi K) (tCons (tVar 0) (tCons (tC (.ty "int")) tNil))) (tNotV (tCB (rIsi K) (tCons (tVar 0) (tCons (tC (.ty "bool")) tNil))))))
theorem pu_is_integer (T : Txt K mg A) {x0 : V} {H : Hp} {Q : VK} (h : P_is_integer K A x0 H Q) : t_is_integer K A { nx := fun _ H' => Q .non H', rt := Q } [some x0] H := by
  obtain ⟨d, dd, k⟩ := h
  unfold t_is_integer
  cases dd with
  | non => walk_at "go"; exact k
  | bl b => walk_at "go"; exact k
  | int i => walk_at "go"; exact k
  | str x => walk_at "go"; exact k
  | lst e z r => walk_at "go"; exact k
  | tup e z r => walk_at "go"; exact k
theorem ok_is_integer {f : Addr} {fd : FuncData} (F : Fun K "is_integer" "is_integer" s_is_integer f fd) (T : Txt K mg A)  : FnOk P w K mg base CX0 (1) f fd ["value"] (sp_is_integer K A) := by
  refine F.ok sc_is_integer (fun vs H Q E h => ?_) (fun cdv Ar outer s H vs Q E hr h => ⟨t_is_integer K A, ?_, ?_⟩)
  · obtain ⟨x0, rfl, _⟩ := h
    rfl
  · have hu := hu_of hr
    exact (pss_one (ps_ret (pe_and (pe_callB call_isi (by rfl) T.b_isinstance (by decide +kernel) (pa_cons (pv 0) (pa_cons (pe_bltn (by rfl) T.b_int (by decide +kernel) (v := .ty "int") rfl) pa_nil))) (pe_one (pe_not (pe_callB call_isi (by rfl) T.b_isinstance (by decide +kernel) (pa_cons (pv 0) (pa_cons (pe_bltn (by rfl) T.b_bool (by decide +kernel) (v := .ty "bool") rfl) pa_nil))))))))
  · obtain ⟨x0, rfl, h⟩ := h
    exact pu_is_integer T h
def P_is_from (K : PySem.W.Frag) (A : Ad) (x0 x1 x2 : V) (H : Hp) (Q : VK) : Prop := ∃ (d : PyData) (lo hi : Int), Da H x0 d ∧ x1 = .int lo ∧ x2 = .int hi ∧ Q (.bl (isF lo hi d)) H
def sp_is_from (K : PySem.W.Frag) (A : Ad) : Sp := fun vs H Q _ => ∃ x0 x1 x2, vs = [x0, x1, x2] ∧ P_is_from K A x0 x1 x2 H Q
theorem c_is_from {K : PySem.W.Frag} {A : Ad} {x0 x1 x2 : V} {H : Hp} {Q : VK} {E : XK} (h : P_is_from K A x0 x1 x2 H Q) : sp_is_from K A [x0, x1, x2] H Q E := ⟨_, _, _, rfl, h⟩
theorem sc_is_from : FnScope ["value", "least", "most"] ["value", "least", "most"] (defScope s_is_from) := ⟨rfl, rfl, rfl, by decide +kernel, rfl, by decide +kernel, by decide +kernel⟩
def t_is_from (K : PySem.W.Frag) (A : Ad) : TS :=
  (tRet (tAndV (tCl (sp_is_integer K A) (tCons (tVar 0) tNil)) (tChain cLe cLe (tVar 1) (tVar 0) (tVar 2))))
theorem pu_is_from (T : Txt K mg A) {x0 x1 x2 : V} {H : Hp} {Q : VK} (h : P_is_from K A x0 x1 x2 H Q) : t_is_from K A { nx := fun _ H' => Q .non H', rt := Q } [some x0, some x1, some x2] H := by
  obtain ⟨d, lo, hi, dd, rfl, rfl, k⟩ := h
  unfold t_is_from
  walk_at "go"
  refine c_is_integer ⟨d, dd, ?_⟩
  cases dd with
  | int i =>
    walk_at "go"
    refine g_iteT ?_
    walk_at "go"
    have e : isF lo hi (.int i) = (decide (lo ≤ i) && decide (i ≤ hi)) := rfl
    rw [e] at k
    by_cases h : lo ≤ i
    · rw [decide_eq_true h, Bool.true_and] at k
      refine g_ite (fun _ => ?_) (fun z => absurd h z)
      walk_at "go"
      exact k
    · rw [decide_eq_false h, Bool.false_and] at k
      refine g_ite (fun z => absurd z h) (fun _ => ?_)
      exact k
  | _ =>
    walk_at "go"
    exact k
theorem ok_is_from {f : Addr} {fd : FuncData} (F : Fun K "is_from" "is_from" s_is_from f fd) (T : Txt K mg A) (c_is_integer : Cal P w K mg base "is_integer" 1 ["value"] (sp_is_integer K A)) : FnOk P w K mg base CX0 (2) f fd ["value", "least", "most"] (sp_is_from K A) := by
  refine F.ok sc_is_from (fun vs H Q E h => ?_) (fun cdv Ar outer s H vs Q E hr h => ⟨t_is_from K A, ?_, ?_⟩)
  · obtain ⟨x0, x1, x2, rfl, _⟩ := h
    rfl
  · have hu := hu_of hr
    exact (pss_one (ps_ret (pe_and (pe_cl c_is_integer (hr.mono (by first | decide | omega)) (by rfl) (pa_cons (pv 0) pa_nil)) (pe_one (pe_chain c_le c_le (pv 1) (pv 0) (pv 2))))))
  · obtain ⟨x0, x1, x2, rfl, h⟩ := h
    exact pu_is_from T h
theorem isF_imp {lo hi : Int} {H : Hp} {v : V} {d : PyData} (h : Da H v d) (q : isF lo hi d = true) : ∃ i, v = .int i ∧ d = .int i ∧ lo ≤ i ∧ i ≤ hi := by
  obtain ⟨i, rfl, h1, h2⟩ := isF_int q
  exact ⟨i, h.int1, rfl, h1, h2⟩
/-- all([is_from(x, lo, hi) for x in xs]) as booleans -/
theorem all_snoc {α : Type} {f : α → Bool} {l : List α} {i : Nat} {x : α} (h : l[i]? = some x) : (l.take (i + 1)).map f = (l.take i).map f ++ [f x] := by rw [take_more h, List.map_append]; rfl
theorem all_id {α : Type} (f : α → Bool) (l : List α) : (l.map f).all id = l.all f := by rw [List.all_map]; rfl

def P_nights_of (K : PySem.W.Frag) (A : Ad) (x0 : V) (H : Hp) (Q : VK) : Prop := ∃ (a : Addr) (s : Stay), x0 = .ref a ∧ H a = some (.tup [.int s.1, .int s.2.1, .int s.2.2]) ∧ 0 ≤ s.2.1 ∧ s.2.1 ≤ 10000 ∧ 0 ≤ s.2.2 ∧ s.2.2 ≤ 10000 ∧
  ∀ (p : Addr) (H' : Hp), H p = none → Fr [] H H' → H' p = some (.lst ((List.range (s.2.2 - s.2.1).toNat).map fun i => V.int (s.2.1 + (i : Nat)))) → Q (.ref p) H'
def sp_nights_of (K : PySem.W.Frag) (A : Ad) : Sp := fun vs H Q _ => ∃ x0, vs = [x0] ∧ P_nights_of K A x0 H Q
theorem c_nights_of {K : PySem.W.Frag} {A : Ad} {x0 : V} {H : Hp} {Q : VK} {E : XK} (h : P_nights_of K A x0 H Q) : sp_nights_of K A [x0] H Q E := ⟨_, rfl, h⟩
theorem sc_nights_of : FnScope ["stay"] ["stay"] (defScope s_nights_of) := ⟨rfl, rfl, rfl, by decide +kernel, rfl, by decide +kernel, by decide +kernel⟩
def t_nights_of (K : PySem.W.Frag) (A : Ad) : TS :=
  (tRet (tLstRg (tRg2 (tOp (rIxT K) (tVar 0) (tC (.int 1))) (tOp (rIxT K) (tVar 0) (tC (.int 2))))))
theorem pu_nights_of (T : Txt K mg A) {x0 : V} {H : Hp} {Q : VK} (h : P_nights_of K A x0 H Q) : t_nights_of K A { nx := fun _ H' => Q .non H', rt := Q } [some x0] H := by
  obtain ⟨a, s, rfl, e, b0, b1, b2, b3, k⟩ := h
  unfold t_nights_of
  walk_at "go"
  rename_i p H1 n1 f1 e1
  exact k p H1 n1 f1 e1
theorem ok_nights_of {f : Addr} {fd : FuncData} (F : Fun K "nights_of" "nights_of" s_nights_of f fd) (T : Txt K mg A)  : FnOk P w K mg base CX0 (1) f fd ["stay"] (sp_nights_of K A) := by
  refine F.ok sc_nights_of (fun vs H Q E h => ?_) (fun cdv Ar outer s H vs Q E hr h => ⟨t_nights_of K A, ?_, ?_⟩)
  · obtain ⟨x0, rfl, _⟩ := h
    rfl
  · have hu := hu_of hr
    exact (pss_one (ps_ret (pe_listRg rfl (by rfl) T.b_list (prg_2 (by rfl) T.b_range (pe_ix ix_tup (pv 0) pe_int (fun _ _ => rfl)) (pe_ix ix_tup (pv 0) pe_int (fun _ _ => rfl))))))
  · obtain ⟨x0, rfl, h⟩ := h
    exact pu_nights_of T h

theorem meet_mm {s t : Stay} (hs : s.2.1 < s.2.2) (ht : t.2.1 < t.2.2) : meetB s t = (decide (s.1 = t.1) && decide ((if t.2.1 > s.2.1 then t.2.1 else s.2.1) < (if t.2.2 < s.2.2 then t.2.2 else s.2.2))) := by
  unfold meetB
  rw [Bool.eq_iff_iff]
  simp only [Bool.and_eq_true, decide_eq_true_eq]
  split <;> split <;> omega
def P_meet (K : PySem.W.Frag) (A : Ad) (x0 x1 : V) (H : Hp) (Q : VK) : Prop := ∃ (s t : Stay), Da H x0 (stayD s) ∧ Da H x1 (stayD t) ∧ s.2.1 < s.2.2 ∧ t.2.1 < t.2.2 ∧ Q (.bl (meetB s t)) H
def sp_meet (K : PySem.W.Frag) (A : Ad) : Sp := fun vs H Q _ => ∃ x0 x1, vs = [x0, x1] ∧ P_meet K A x0 x1 H Q
theorem c_meet {K : PySem.W.Frag} {A : Ad} {x0 x1 : V} {H : Hp} {Q : VK} {E : XK} (h : P_meet K A x0 x1 H Q) : sp_meet K A [x0, x1] H Q E := ⟨_, _, rfl, h⟩
theorem sc_meet : FnScope ["first", "second"] ["first", "second"] (defScope s_meet) := ⟨rfl, rfl, rfl, by decide +kernel, rfl, by decide +kernel, by decide +kernel⟩
def t_meet (K : PySem.W.Frag) (A : Ad) : TS :=
  (tRet (tAndV (tOp rEq (tOp (rIxT K) (tVar 0) (tC (.int 0))) (tOp (rIxT K) (tVar 1) (tC (.int 0)))) (tOp cLt (tCB rMax2 (tCons (tOp (rIxT K) (tVar 0) (tC (.int 1))) (tCons (tOp (rIxT K) (tVar 1) (tC (.int 1))) tNil))) (tCB rMin2 (tCons (tOp (rIxT K) (tVar 0) (tC (.int 2))) (tCons (tOp (rIxT K) (tVar 1) (tC (.int 2))) tNil))))))
theorem pu_meet (T : Txt K mg A) {x0 x1 : V} {H : Hp} {Q : VK} (h : P_meet K A x0 x1 H Q) : t_meet K A { nx := fun _ H' => Q .non H', rt := Q } [some x0, some x1] H := by
  obtain ⟨s, t, ds, dt, hs, ht, k⟩ := h
  obtain ⟨a, rfl, ea⟩ := stay_at ds
  obtain ⟨b, rfl, eb⟩ := stay_at dt
  rw [meet_mm hs ht] at k
  unfold t_meet
  walk_at "go"
  refine g_iteB (fun c => ?_) (fun c => ?_)
  · walk_at "go"
    rw [c, Bool.true_and] at k
    exact k
  · rw [c, Bool.false_and] at k
    exact k
theorem ok_meet {f : Addr} {fd : FuncData} (F : Fun K "meet" "meet" s_meet f fd) (T : Txt K mg A)  : FnOk P w K mg base CX0 (1) f fd ["first", "second"] (sp_meet K A) := by
  refine F.ok sc_meet (fun vs H Q E h => ?_) (fun cdv Ar outer s H vs Q E hr h => ⟨t_meet K A, ?_, ?_⟩)
  · obtain ⟨x0, x1, rfl, _⟩ := h
    rfl
  · have hu := hu_of hr
    exact (pss_one (ps_ret (pe_and (pe_cmpR op_eq (pe_ix ix_tup (pv 0) pe_int (fun _ _ => rfl)) (pe_ix ix_tup (pv 1) pe_int (fun _ _ => rfl)) (nomark _)) (pe_one (pe_cmpR c_lt (pe_callB (b_max2 rfl) (by rfl) T.b_max (by decide +kernel) (pa_cons (pe_ix ix_tup (pv 0) pe_int (fun _ _ => rfl)) (pa_cons (pe_ix ix_tup (pv 1) pe_int (fun _ _ => rfl)) pa_nil))) (pe_callB (b_min2 rfl) (by rfl) T.b_min (by decide +kernel) (pa_cons (pe_ix ix_tup (pv 0) pe_int (fun _ _ => rfl)) (pa_cons (pe_ix ix_tup (pv 1) pe_int (fun _ _ => rfl)) pa_nil))) (nomark _))))))
  · obtain ⟨x0, x1, rfl, h⟩ := h
    exact pu_meet T h
/-! ### the inn's rooms: refused stays -/
def FitS (S : Setup) (ss : List Stay) (s : Stay) : Prop := ∀ n : Int, s.2.1 ≤ n → n < s.2.2 → ((ss.filter (cov s.1 n)).length : Int) ≤ rooms S s
theorem fits_of {S : Setup} {ss : List Stay} (so : SetupOk S) (h : ∀ s ∈ ss, FitS S ss s) : Fits S ss := fun k n hk hn => by
  by_cases z : ss.filter (cov k n) = []
  · rw [z]
    have : S.rooms.getD k 0 = S.rooms[k] := by rw [List.getD_eq_getElem?_getD, List.getElem?_eq_getElem hk]; rfl
    rw [this]
    exact (so.rm _ (List.getElem_mem hk)).1
  · obtain ⟨s, hs⟩ := List.exists_mem_of_ne_nil _ z
    obtain ⟨hs1, hs2⟩ := List.mem_filter.mp hs
    unfold cov at hs2
    rw [Bool.and_eq_true, Bool.and_eq_true, decide_eq_true_eq, decide_eq_true_eq, decide_eq_true_eq] at hs2
    have := h s hs1 n hs2.2.1 hs2.2.2
    rw [hs2.1] at this
    show _ ≤ S.rooms.getD k 0
    have e : rooms S s = S.rooms.getD k 0 := by
      show S.rooms.getD s.1.toNat 0 = _
      rw [hs2.1, show ((k : Int)).toNat = k by omega]
    rw [← e]; exact this
def P_check_room (K : PySem.W.Frag) (A : Ad) (x0 x1 : V) (H : Hp) (Q : VK) (E : XK) : Prop := ∃ (r p : Addr) (xs : List V) (S : Setup) (ss : List Stay), x0 = .ref r ∧ x1 = .ref p ∧ H r = some (.tup (S.rooms.map V.int)) ∧ H p = some (.lst xs) ∧ DaL H xs (ss.map stayD) ∧ ss.length ≤ 100 ∧ SetupOk S ∧ (∀ s ∈ ss, StayOk S s) ∧
  (Fits S ss → ∀ H', Fr [] H H' → Q .non H') ∧ (¬ Fits S ss → ∀ H', Fr [] H H' → E (.ref A.BadStay) none H')
theorem room_at {S : Setup} {s : Stay} (ok : StayOk S s) : atI (S.rooms.map V.int) s.1 = some (.int (rooms S s)) := by
  obtain ⟨o1, o2, _⟩ := ok
  have hk : s.1.toNat < S.rooms.length := by omega
  have e : (S.rooms.map V.int)[s.1.toNat]? = some (.int (rooms S s)) := by
    unfold rooms
    rw [List.getElem?_map, List.getElem?_eq_getElem hk, List.getD_eq_getElem?_getD, List.getElem?_eq_getElem hk]; rfl
  have := atI_nat e
  rw [show ((s.1.toNat : Nat) : Int) = s.1 by omega] at this
  exact this
theorem meet_one {s : Stay} (k n : Int) (h : s.2.1 < s.2.2) : meetB s (k, n, n + 1) = cov k n s := by
  unfold meetB cov
  rw [Bool.eq_iff_iff]
  simp only [Bool.and_eq_true, decide_eq_true_eq]
  omega
def sp_check_room (K : PySem.W.Frag) (A : Ad) : Sp := fun vs H Q E => ∃ x0 x1, vs = [x0, x1] ∧ P_check_room K A x0 x1 H Q E
theorem c_check_room {K : PySem.W.Frag} {A : Ad} {x0 x1 : V} {H : Hp} {Q : VK} {E : XK} (h : P_check_room K A x0 x1 H Q E) : sp_check_room K A [x0, x1] H Q E := ⟨_, _, rfl, h⟩
theorem sc_check_room : FnScope ["rooms", "stays", "stay", "night", "one", "other"] ["rooms", "stays"] (defScope s_check_room) := ⟨rfl, rfl, rfl, by decide +kernel, rfl, by decide +kernel, by decide +kernel⟩
def t_check_room (K : PySem.W.Frag) (A : Ad) (E : XK) : TS :=
  (tFor (iList K (tVar 1)) (gName 2) (tFor (iList K (tCl (sp_nights_of K A) (tCons (tVar 2) tNil))) (gName 3) (tSeq (tAsg (tTup (tCons (tOp (rIxT K) (tVar 2) (tC (.int 0))) (tCons (tVar 3) (tCons (tOp oAdd (tVar 3) (tC (.int 1))) tNil)))) (gName 4))
    (tIfS (tTest (tOp cGt (tCB (rLenSq K) (tCons (tLc (iList K (tVar 1)) (gName 5) (tB (tCl (sp_meet K A) (tCons (tVar 5) (tCons (tVar 4) tNil)))) (tVar 5) [5]) tNil)) (tOp (rIxT K) (tVar 0) (tOp (rIxT K) (tVar 2) (tC (.int 0)))))) (tRz A.BadStay (fun cls d _ H => E cls d H)) tNext))))
theorem pu_check_room (T : Txt K mg A) {x0 x1 : V} {H : Hp} {Q : VK} {E : XK} (h : P_check_room K A x0 x1 H Q E) : t_check_room K A E { nx := fun _ H' => Q .non H', rt := Q } [some x0, some x1, none, none, none, none] H := by
  obtain ⟨r, p, xs, S, ss, rfl, rfl, er, ep, ds, hl, so, ok, k, ke⟩ := h
  have hxl : xs.length = ss.length := by rw [ds.len, List.length_map]
  unfold t_check_room
  walk_at "go"
  refine f_list (xs := xs) (fun i σ H' => ∃ v2 v3 v4 v5, σ = [some (.ref r), some (.ref p), v2, v3, v4, v5] ∧ Fr [] H H' ∧ ∀ s ∈ ss.take i, FitS S ss s) ⟨_, _, _, _, rfl, Fr.refl, fun _ h => nomatch h⟩ (fun i σ H' _ ⟨_, _, _, _, _, f, _⟩ => SqL.of (f.at0 ep)) ?_ ?_
  · rintro i x σ H1 hx ⟨v2, v3, v4, v5, rfl, f1, hfit⟩
    obtain ⟨s, a, hs, rfl, ea, _⟩ := stays_get ds hx
    have oks := ok s (List.mem_of_getElem? hs)
    obtain ⟨o1, o2, o3, o4, o5⟩ := id oks
    have n12 := so.n2
    walk_at "go"
    refine c_nights_of ⟨a, s, rfl, f1.tup _ _ ea, o3, by omega, by omega, by omega, fun q H2 n2 f2 e2 => ?_⟩
    walk_at "go"
    refine f_list (xs := (List.range (s.2.2 - s.2.1).toNat).map fun i => V.int (s.2.1 + (i : Nat))) (fun j σ H' => ∃ v3 v4 v5, σ = [some (.ref r), some (.ref p), some (.ref a), v3, v4, v5] ∧ Fr [] H2 H' ∧ ∀ m : Nat, m < j → ((ss.filter (cov s.1 (s.2.1 + (m : Nat)))).length : Int) ≤ rooms S s) ⟨_, _, _, rfl, Fr.refl, fun _ h => absurd h (by omega)⟩ (fun i σ H' _ ⟨_, _, _, _, f, _⟩ => SqL.of (f.at0 e2)) ?_ ?_
    · rintro j y σ H3 hy ⟨v3, v4, v5, rfl, f3, hm3⟩
      have hj : j < (s.2.2 - s.2.1).toNat := by have := (List.getElem?_eq_some_iff.mp hy).1; simpa using this
      rw [List.getElem?_map, List.getElem?_range hj] at hy
      cases hy
      have F3 : Fr [] H H3 := (f1.then0 f2).then0 f3
      have ea3 := F3.tup _ _ ea
      have er3 := F3.tup _ _ er
      walk_at "go"
      rename_i t H4 n4 f4 e4
      have F4 : Fr [] H H4 := F3.then0 f4
      have ep4 := F4.at0 ep
      have er4 := F4.tup _ _ er
      have ea4 := F4.tup _ _ ea
      walk_at "go"
      refine l_list (xs := xs) fun Dl H5 nD f5 e5 => ⟨fun m acc H' => Fr [] H4 H' ∧ acc.length = ((ss.take m).filter (cov s.1 (s.2.1 + (j : Nat)))).length, ⟨f5, rfl⟩, fun m acc H' ⟨f, _⟩ => SqL.of (f.at0 ep4), fun m x acc H' hx ha ⟨f, hacc⟩ => ?_, fun acc H' ha ⟨f, hacc⟩ => ?_⟩
      · obtain ⟨u, b, hu, rfl, eb, du⟩ := stays_get ds hx
        have oku := ok u (List.mem_of_getElem? hu)
        have hul := (List.getElem?_eq_some_iff.mp hu).1
        have FF : Fr [] H H' := F4.then0 f
        have fm := filter_more (f := cov s.1 (s.2.1 + (j : Nat))) hu
        have hal : acc.length ≤ 100 := by rw [hacc]; exact Nat.le_trans (List.length_filter_le _ _) (by rw [List.length_take]; omega)
        walk_at "go"
        refine ⟨rfl, ?_⟩
        walk_at "go"
        refine c_meet ⟨u, (s.1, s.2.1 + (j : Nat), s.2.1 + (j : Nat) + 1), Da.frL FF du rfl, .tup (f.tup _ _ e4) (Nat.le_of_ble_eq_true rfl) (.cons (.int _) (.cons (.int _) (.one' (.int _)))), oku.2.2.2.1, by show s.2.1 + (j : Nat) < s.2.1 + (j : Nat) + 1; omega, ?_⟩
        rw [meet_one _ _ oku.2.2.2.1]
        walk_at "go"
        by_cases c : cov s.1 (s.2.1 + (j : Nat)) u = true
        · rw [c]
          walk_at "go"
          refine lcY_of ha (by walk_at "sz") fun H6 f6 e6 => ⟨f.own1 f6 nD, ?_⟩
          rw [fm, if_pos c, List.length_append, List.length_append, hacc]; rfl
        · rw [(by simpa using c : cov s.1 (s.2.1 + (j : Nat)) u = false)]
          walk_at "go"
          refine lcN_of ha ⟨f, ?_⟩
          rw [fm, if_neg c, List.append_nil]; exact hacc
      · rw [hxl, List.take_length] at hacc
        have er5 := f.tup _ _ er4
        have ea5 := f.tup _ _ ea4
        walk_at "go"
        refine g_ixT (SqT.of er5) (room_at oks) ?_
        walk_at "go"
        refine g_ite (fun c => ?_) (fun c => ?_)
        · walk_at "go"
          refine ke (fun F => ?_) _ (F4.then0 f)
          have hF := F s.1.toNat (s.2.1 + (j : Nat)).toNat (by omega) (by omega)
          rw [show ((s.1.toNat : Nat) : Int) = s.1 by omega, show (((s.2.1 + (j : Nat)).toNat : Nat) : Int) = s.2.1 + (j : Nat) by omega, ← hacc] at hF
          have hF : (acc.length : Int) ≤ rooms S s := hF
          omega
        · walk_at "go"
          refine ⟨_, _, _, rfl, (f3.then0 f4).then0 f, fun m hm => ?_⟩
          by_cases z : m = j
          · subst z; rw [← hacc]; omega
          · exact hm3 m (by omega)
    · rintro σ H3 ⟨v3, v4, v5, rfl, f3, hm3⟩
      refine ⟨_, _, _, _, rfl, (f1.then0 f2).then0 f3, fun t ht => ?_⟩
      rw [take_more hs] at ht
      rcases List.mem_append.mp ht with q | q
      · exact hfit t q
      · rw [List.mem_singleton.mp q]
        intro n hn1 hn2
        have := hm3 (n - s.2.1).toNat (by rw [List.length_map, List.length_range]; omega)
        rw [show s.2.1 + (((n - s.2.1).toNat : Nat) : Int) = n by omega] at this
        exact this
  · rintro σ H1 ⟨v2, v3, v4, v5, rfl, f1, hfit⟩
    walk_at "go"
    rw [hxl, List.take_length] at hfit
    exact k (fits_of so hfit) H1 f1
theorem ok_check_room {f : Addr} {fd : FuncData} (F : Fun K "check_room" "check_room" s_check_room f fd) (T : Txt K mg A) (c_nights_of : Cal P w K mg base "nights_of" 1 ["stay"] (sp_nights_of K A)) (c_meet : Cal P w K mg base "meet" 1 ["first", "second"] (sp_meet K A)) : FnOk P w K mg base (L2.CX P w) (2) f fd ["rooms", "stays"] (sp_check_room K A) := by
  refine F.okX sc_check_room (fun vs H Q E h => ?_) (fun cdv Ar outer s H vs Q E hr h => ⟨t_check_room K A E, ?_, ?_⟩)
  · obtain ⟨x0, x1, rfl, _⟩ := h
    rfl
  · have hu := hu_of hr
    exact (pss_one (ps_for (passes_of rfl) rfl (pi_list (pv 1)) (pg_name (i := 2) sc_check_room.nd rfl (Or.inl rfl)) (pss_one (ps_for (passes_of rfl) rfl (pi_list (pe_cl c_nights_of (hr.mono (by first | decide | omega)) (by rfl) (pa_cons (pv 2) pa_nil))) (pg_name (i := 3) sc_check_room.nd rfl (Or.inl rfl)) (pss_cons (ps_set (i := 4) sc_check_room.nd rfl (Or.inr rfl) (pe_tup (pa_cons (pe_ix ix_tup (pv 2) pe_int (fun _ _ => rfl)) (pa_cons (pv 3) (pa_cons (pe_op o_add (pv 3) pe_int) pa_nil)))))
    (pss_one (ps_if (pt_cmpR c_gt (pe_callB b_len (by rfl) T.b_len (by decide +kernel) (pa_cons (pe_lc (own := [("other", 5)]) (g := (gName 5)) (tt := (tB (tCl (sp_meet K A) (tCons (tVar 5) (tCons (tVar 4) tNil))))) rfl sc_check_room.nd (pi_list (pv 1)) (blkOk_by (N := ["rooms", "stays", "stay", "night", "one", "other"]) (sc := defScope s_check_room) (own := [("other", 5)]) (by decide +kernel)) (fun _ _ _ _ _ => (pg_name (i := 5) sc_check_room.nd rfl (Or.inl rfl))) (fun _ _ _ _ _ => (pts_one (pt_val (pe_cl c_meet (hr.mono (by first | decide | omega)) (by rfl) (pa_cons (pv 5) (pa_cons (pv 4) pa_nil)))))) (fun _ _ _ _ _ => (pv 5))) pa_nil)) (pe_ix ix_tup (pv 0) (pe_ix ix_tup (pv 2) pe_int (fun _ _ => rfl)) (fun _ _ => rfl)) (nomark _)) (pss_one (ps_rz rfl (takes_of rfl rfl rfl rfl) T.x_BadStay (by rfl))) pss_nil)))))))
  · obtain ⟨x0, x1, rfl, h⟩ := h
    exact pu_check_room T h
theorem optV_non {o : Option Int} : optV o = .non ↔ o = none := by cases o <;> simp [optV]
theorem opt_at {R : List (Option Int)} {i : Nat} (h : i < R.length) : (R.map optV)[i]? = some (optV (rmG R i)) := by
  rw [List.getElem?_map, List.getElem?_eq_getElem h]
  unfold rmG
  rw [List.getD_eq_getElem?_getD, List.getElem?_eq_getElem h]; rfl
theorem stays_at {H : Hp} {xs : List V} {ss : List Stay} {i : Nat} (h : DaL H xs (ss.map stayD)) (hi : i < ss.length) : ∃ a, xs[i]? = some (.ref a) ∧ H a = some (.tup [.int (stG ss i).1, .int (stG ss i).2.1, .int (stG ss i).2.2]) ∧ Da H (.ref a) (stayD (stG ss i)) := by
  obtain ⟨v, hv, dv⟩ := h.get' (i := i) (d := stayD (stG ss i)) (by
    unfold stG
    rw [List.getElem?_map, List.getElem?_eq_getElem hi, List.getD_eq_getElem?_getD, List.getElem?_eq_getElem hi]; rfl)
  obtain ⟨a, rfl, ea⟩ := stay_at dv
  exact ⟨a, hv, ea, dv⟩
/-- what stands in a list of rooms -/
inductive Gv
  | n
  | i (z : Int)
  | b (x : Bool)
def gV : Gv → V
  | .n => .non
  | .i z => .int z
  | .b x => .bl x
def gD : Gv → PyData
  | .n => .none
  | .i z => .int z
  | .b x => .bool x
def gO : Gv → Option Int
  | .i z => some z
  | _ => none
def gG (G : List Gv) (j : Nat) : Gv := G.getD j .n
theorem da_gv {H : Hp} (g : Gv) : Da H (gV g) (gD g) := by cases g <;> constructor
theorem gG_at {G : List Gv} {i : Nat} (h : i < G.length) : (G.map gV)[i]? = some (gV (gG G i)) := by
  rw [List.getElem?_map, List.getElem?_eq_getElem h]
  unfold gG
  rw [List.getD_eq_getElem?_getD, List.getElem?_eq_getElem h]; rfl
def clash (ss : List Stay) (G : List Gv) (j k : Nat) : Bool := match gG G j, gG G k with
  | .i a, .i b => decide (a = b) && meetB (stG ss j) (stG ss k)
  | _, _ => false
def okK (S : Setup) (ss : List Stay) (night : Int) (G : List Gv) (k : Nat) : Bool := match gG G k with
  | .n => decide (night < (stG ss k).2.1)
  | .b _ => false
  | .i z => !decide (night < (stG ss k).2.1) && (decide (0 ≤ z) && decide (z ≤ rooms S (stG ss k) - 1)) && (List.range k).all fun j => !clash ss G j k
def goodG (S : Setup) (ss : List Stay) (night : Int) (G : List Gv) : Bool := decide (G.length = ss.length) && (List.range ss.length).all (okK S ss night G)
theorem good_no {S : Setup} {ss : List Stay} {night : Int} {G : List Gv} {k : Nat} (hk : k < ss.length) (h : okK S ss night G k = false) : goodG S ss night G = false := by
  have : (List.range ss.length).all (okK S ss night G) = false := List.all_eq_false.mpr ⟨k, List.mem_range.mpr hk, by rw [h]; decide⟩
  show (_ && _) = false
  rw [this, Bool.and_false]
theorem good_yes {S : Setup} {ss : List Stay} {night : Int} {G : List Gv} (hl : G.length = ss.length) (h : ∀ k, k < ss.length → okK S ss night G k = true) : goodG S ss night G = true := by
  show (_ && _) = true
  rw [decide_eq_true hl, Bool.true_and]
  exact List.all_eq_true.mpr fun k hk => h k (List.mem_range.mp hk)
theorem okK_n {S : Setup} {ss : List Stay} {night : Int} {G : List Gv} {k : Nat} (e : gG G k = .n) : okK S ss night G k = decide (night < (stG ss k).2.1) := by unfold okK; rw [e]
theorem okK_b {S : Setup} {ss : List Stay} {night : Int} {G : List Gv} {k : Nat} {x : Bool} (e : gG G k = .b x) : okK S ss night G k = false := by unfold okK; rw [e]
theorem okK_i {S : Setup} {ss : List Stay} {night : Int} {G : List Gv} {k : Nat} {z : Int} (e : gG G k = .i z) : okK S ss night G k = (!decide (night < (stG ss k).2.1) && (decide (0 ≤ z) && decide (z ≤ rooms S (stG ss k) - 1)) && (List.range k).all fun j => !clash ss G j k) := by unfold okK; rw [e]
theorem clash_i {ss : List Stay} {G : List Gv} {j k : Nat} {a b : Int} (h1 : gG G j = .i a) (h2 : gG G k = .i b) : clash ss G j k = (decide (a = b) && meetB (stG ss j) (stG ss k)) := by unfold clash; rw [h1, h2]
theorem clash_n {ss : List Stay} {G : List Gv} {j k : Nat} (h1 : gG G j = .n) : clash ss G j k = false := by unfold clash; rw [h1]
def P_check_given (K : PySem.W.Frag) (A : Ad) (x0 x1 x2 x3 : V) (H : Hp) (Q : VK) (E : XK) : Prop := ∃ (r p g : Addr) (xs : List V) (S : Setup) (ss : List Stay) (night : Int) (G : List Gv), x0 = .ref r ∧ x1 = .ref p ∧ x2 = .int night ∧ x3 = .ref g ∧ H r = some (.tup (S.rooms.map V.int)) ∧ H p = some (.lst xs) ∧ DaL H xs (ss.map stayD) ∧ ss.length ≤ 100 ∧ (∀ s ∈ ss, StayOk S s) ∧
  H g = some (.lst (G.map gV)) ∧ (goodG S ss night G = true → ∀ H', Fr [] H H' → Q .non H') ∧ (goodG S ss night G = false → ∀ H', Fr [] H H' → E (.ref A.BadStay) none H')
def sp_check_given (K : PySem.W.Frag) (A : Ad) : Sp := fun vs H Q E => ∃ x0 x1 x2 x3, vs = [x0, x1, x2, x3] ∧ P_check_given K A x0 x1 x2 x3 H Q E
theorem c_check_given {K : PySem.W.Frag} {A : Ad} {x0 x1 x2 x3 : V} {H : Hp} {Q : VK} {E : XK} (h : P_check_given K A x0 x1 x2 x3 H Q E) : sp_check_given K A [x0, x1, x2, x3] H Q E := ⟨_, _, _, _, rfl, h⟩
theorem sc_check_given : FnScope ["rooms", "stays", "night", "given", "index", "stay", "room", "before"] ["rooms", "stays", "night", "given"] (defScope s_check_given) := ⟨rfl, rfl, rfl, by decide +kernel, rfl, by decide +kernel, by decide +kernel⟩
def t_check_given (K : PySem.W.Frag) (A : Ad) (E : XK) : TS :=
  (tSeq (tIfS (tTest (tOp rNe (tCB (rLenSq K) (tCons (tVar 3) tNil)) (tCB (rLenSq K) (tCons (tVar 1) tNil)))) (tRz A.BadStay (fun cls d _ H => E cls d H)) tNext)
    (tFor (iEnum K (tCons (tVar 1) tNil)) (gTup K 2 (gCons (gName 4) (gCons (gName 5) gNil))) (tSeq (tAsg (tOp (rIxL K) (tVar 3) (tVar 4)) (gName 6))
    (tSeq (tIfS (tTest (tOp rNe (tOp rIsNon (tVar 6) (tC .non)) (tOp cGt (tOp (rIxT K) (tVar 5) (tC (.int 1))) (tVar 2)))) (tRz A.BadStay (fun cls d _ H => E cls d H)) tNext)
    (tSeq (tIfS (tAnd (tTest (tOp rIsNotNon (tVar 6) (tC .non))) (tNot (tB (tCl (sp_is_from K A) (tCons (tVar 6) (tCons (tC (.int 0)) (tCons (tOp oSub (tOp (rIxT K) (tVar 0) (tOp (rIxT K) (tVar 5) (tC (.int 0)))) (tC (.int 1))) tNil))))))) (tRz A.BadStay (fun cls d _ H => E cls d H)) tNext)
    (tFor (iRng1 (tCons (tVar 4) tNil)) (gName 7) (tIfS (tAnd (tTest (tOp rIsNotNon (tVar 6) (tC .non))) (tAnd (tTest (tOp rEq (tOp (rIxL K) (tVar 3) (tVar 7)) (tVar 6))) (tB (tCl (sp_meet K A) (tCons (tOp (rIxL K) (tVar 1) (tVar 7)) (tCons (tVar 5) tNil)))))) (tRz A.BadStay (fun cls d _ H => E cls d H)) tNext)))))))
theorem pu_check_given (T : Txt K mg A) {x0 x1 x2 x3 : V} {H : Hp} {Q : VK} {E : XK} (h : P_check_given K A x0 x1 x2 x3 H Q E) : t_check_given K A E { nx := fun _ H' => Q .non H', rt := Q } [some x0, some x1, some x2, some x3, none, none, none, none] H := by
  obtain ⟨r, p, g, xs, S, ss, night, G, rfl, rfl, rfl, rfl, er, ep, ds, hl, ok, eg, k, ke⟩ := h
  have hxl : xs.length = ss.length := by rw [ds.len, List.length_map]
  unfold t_check_given
  walk_at "go"
  refine g_iteN (fun c => ?_) (fun c => ?_)
  · walk_at "go"
    refine ke ?_ H Fr.refl
    show (_ && _) = false
    rw [decide_eq_false (fun z => c (by rw [List.length_map, hxl, z])), Bool.false_and]
  have hRl : G.length = ss.length := by rw [List.length_map] at c; omega
  walk_at "go"
  refine f_enum (xs := xs) (fun i σ H' => ∃ v4 v5 v6 v7, σ = [some (.ref r), some (.ref p), some (.int night), some (.ref g), v4, v5, v6, v7] ∧ Fr [] H H' ∧ ∀ k, k < i → okK S ss night G k = true) ⟨_, _, _, _, rfl, Fr.refl, fun _ h => absurd h (by omega)⟩ (fun i σ H' _ ⟨_, _, _, _, _, f, _⟩ => SqL.of (f.at0 ep)) ?_ ?_
  · rintro i x t σ H1 H2 hx ⟨v4, v5, v6, v7, rfl, f1, hok⟩ nt ft et
    have hi : i < ss.length := by have := (List.getElem?_eq_some_iff.mp hx).1; omega
    obtain ⟨a, hx2, ea, da⟩ := stays_at ds hi
    rw [hx] at hx2; cases hx2
    have oks := ok _ (stG_mem hi)
    have F2 : Fr [] H H2 := f1.then0 ft
    have ea2 := F2.tup _ _ ea
    have er2 := F2.tup _ _ er
    have eg2 := F2.at0 eg
    have ep2 := F2.at0 ep
    have oat := gG_at (G := G) (i := i) (by omega)
    have bad : okK S ss night G i = false → ∀ H', Fr [] H H' → E (.ref A.BadStay) none H' := fun h => ke (good_no hi h)
    have step : okK S ss night G i = true → ∀ k, k < i + 1 → okK S ss night G k = true := fun h k hk => by
      by_cases z : k = i
      · rw [z]; exact h
      · exact hok k (by omega)
    have on := okK_n (S := S) (ss := ss) (night := night) (G := G) (k := i)
    have ob := fun x => okK_b (S := S) (ss := ss) (night := night) (G := G) (k := i) (x := x)
    have oi := fun x => okK_i (S := S) (ss := ss) (night := night) (G := G) (k := i) (z := x)
    have cl := fun j a b => clash_i (ss := ss) (G := G) (j := j) (k := i) (a := a) (b := b)
    have cn := fun j => clash_n (ss := ss) (G := G) (j := j) (k := i)
    generalize ho : gG G i = o at on ob oi oat cl
    generalize hs : stG ss i = s at *
    walk_at "go"
    refine g_ixL (SqL.of eg2) (atI_nat oat) ?_
    cases o with
    | n =>
      have on := on rfl
      walk_at "go"
      refine g_iteN (fun c => ?_) (fun c => ?_)
      · walk_at "go"
        refine bad ?_ H2 F2
        rw [on]
        refine decide_eq_false fun z => c ?_
        rw [decide_eq_true z]; rfl
      have c2 : true = decide (night < s.2.1) := c
      have hn : night < s.2.1 := of_decide_eq_true c2.symm
      walk_at "go"
      refine g_iteN (fun c => absurd rfl c) (fun _ => ?_)
      walk_at "go"
      refine f_range (lo := 0) (n := i) (fun j σ H' => ∃ v7, σ = [some (.ref r), some (.ref p), some (.int night), some (.ref g), some (.int i), some (.ref a), some .non, v7] ∧ Fr [] H H') ⟨_, rfl, F2⟩ ?_ ?_
      · rintro j σ H3 hj ⟨v7, rfl, f3⟩
        walk_at "go"
        refine g_iteN (fun c => absurd rfl c) (fun _ => ?_)
        walk_at "go"
        exact ⟨_, rfl, f3⟩
      · rintro σ H3 ⟨v7, rfl, f3⟩
        exact ⟨_, _, _, _, rfl, f3, step (by rw [on]; exact decide_eq_true hn)⟩
    | b x =>
      have ob := ob x rfl
      walk_at "go"
      refine g_iteN (fun c => ?_) (fun c => ?_)
      · walk_at "go"
        exact bad ob H2 F2
      walk_at "go"
      refine g_iteN (fun _ => ?_) (fun c => by cases c)
      walk_at "go"
      refine g_ixT (SqT.of er2) (room_at oks) ?_
      walk_at "go"
      refine c_is_from ⟨.bool x, 0, _, .bl x, rfl, rfl, ?_⟩
      walk_at "go"
      refine g_iteNB (fun _ => ?_) (fun z => nomatch z)
      walk_at "go"
      exact bad ob H2 F2
    | i q =>
      have oi2 := oi q rfl
      walk_at "go"
      refine g_iteN (fun c => ?_) (fun c => ?_)
      · walk_at "go"
        refine bad ?_ H2 F2
        rw [oi2]
        have : night < s.2.1 := Classical.byContradiction fun z => c (by rw [decide_eq_false z]; rfl)
        rw [decide_eq_true this]; rfl
      have c2 : false = decide (night < s.2.1) := c
      have hn : ¬ night < s.2.1 := of_decide_eq_false c2.symm
      rw [decide_eq_false hn, Bool.not_false, Bool.true_and] at oi2
      walk_at "go"
      refine g_iteN (fun _ => ?_) (fun c => by cases c)
      walk_at "go"
      refine g_ixT (SqT.of er2) (room_at oks) ?_
      walk_at "go"
      refine c_is_from ⟨.int q, 0, _, .int q, rfl, rfl, ?_⟩
      have isf : isF 0 (rooms S s - 1) (.int q) = (decide (0 ≤ q) && decide (q ≤ rooms S s - 1)) := rfl
      rw [isf]
      walk_at "go"
      refine g_iteNB (fun c => ?_) (fun c => ?_)
      · walk_at "go"
        refine bad ?_ H2 F2
        rw [oi2, c]; rfl
      rw [c, Bool.true_and] at oi2
      walk_at "go"
      refine f_range (lo := 0) (n := i) (fun j σ H' => ∃ v7, σ = [some (.ref r), some (.ref p), some (.int night), some (.ref g), some (.int i), some (.ref a), some (.int q), v7] ∧ Fr [] H H' ∧ ∀ m, m < j → clash ss G m i = false) ⟨_, rfl, F2, fun _ h => absurd h (by omega)⟩ ?_ ?_
      · rintro j σ H3 hj ⟨v7, rfl, f3, hc⟩
        obtain ⟨b, hb, eb, db⟩ := stays_at ds (show j < ss.length by omega)
        have okj := ok _ (stG_mem (show j < ss.length by omega))
        have hokj := hok j hj
        have more : clash ss G j i = false → ∀ m, m < j + 1 → clash ss G m i = false := fun h m hm => by
          by_cases z : m = j
          · rw [z]; exact h
          · exact hc m (by omega)
        have cn := cn j
        have cl := fun a => cl j a q
        have ojb := fun x => okK_b (S := S) (ss := ss) (night := night) (G := G) (k := j) (x := x)
        have ojat := gG_at (G := G) (i := j) (by omega)
        generalize hoj : gG G j = oj at ojat cn cl ojb
        walk_at "go"
        refine g_iteN (fun _ => ?_) (fun c => by cases c)
        walk_at "go"
        refine g_ixL (SqL.of (f3.at0 eg)) (show atI (G.map gV) (0 + (j : Int)) = _ from by rw [Int.zero_add]; exact atI_nat ojat) ?_
        cases oj with
        | b x =>
          rw [ojb x rfl] at hokj
          cases hokj
        | n =>
          have cn := cn rfl
          walk_at "go"
          refine ⟨rfl, ?_⟩
          walk_at "go"
          exact ⟨_, rfl, f3, more cn⟩
        | i w =>
          have cl := cl w rfl rfl
          walk_at "go"
          refine g_eqI ?_
          walk_at "go"
          refine g_ite (fun c => ?_) (fun c => ?_)
          · subst c
            rw [decide_eq_true rfl, Bool.true_and] at cl
            walk_at "go"
            refine g_ixL (SqL.of (f3.at0 ep)) (show atI xs (0 + (j : Int)) = _ from by rw [Int.zero_add]; exact atI_nat hb) ?_
            walk_at "go"
            refine c_meet ⟨stG ss j, s, Da.frL f3 db rfl, Da.frL f3 da rfl, okj.2.2.2.1, oks.2.2.2.1, ?_⟩
            rw [← cl]
            walk_at "go"
            refine g_iteB (fun c => ?_) (fun c => ?_)
            · walk_at "go"
              refine bad ?_ H3 f3
              rw [oi2]
              exact List.all_eq_false.mpr ⟨j, List.mem_range.mpr hj, by rw [c]; decide⟩
            · walk_at "go"
              exact ⟨_, rfl, f3, more c⟩
          · rw [decide_eq_false c, Bool.false_and] at cl
            walk_at "go"
            exact ⟨_, rfl, f3, more cl⟩
      · rintro σ H3 ⟨v7, rfl, f3, hc⟩
        refine ⟨_, _, _, _, rfl, f3, step ?_⟩
        rw [oi2]
        exact List.all_eq_true.mpr fun j hj => by rw [hc j (List.mem_range.mp hj)]; rfl
  · rintro σ H1 ⟨v4, v5, v6, v7, rfl, f1, hok⟩
    walk_at "go"
    rw [hxl] at hok
    exact k (good_yes hRl hok) H1 f1
theorem ok_check_given {f : Addr} {fd : FuncData} (F : Fun K "check_given" "check_given" s_check_given f fd) (T : Txt K mg A) (c_is_from : Cal P w K mg base "is_from" 2 ["value", "least", "most"] (sp_is_from K A)) (c_meet : Cal P w K mg base "meet" 1 ["first", "second"] (sp_meet K A)) : FnOk P w K mg base (L2.CX P w) (3) f fd ["rooms", "stays", "night", "given"] (sp_check_given K A) := by
  refine F.okX sc_check_given (fun vs H Q E h => ?_) (fun cdv Ar outer s H vs Q E hr h => ⟨t_check_given K A E, ?_, ?_⟩)
  · obtain ⟨x0, x1, x2, x3, rfl, _⟩ := h
    rfl
  · have hu := hu_of hr
    exact (pss_cons (ps_if (pt_cmpR op_ne (pe_callB b_len (by rfl) T.b_len (by decide +kernel) (pa_cons (pv 3) pa_nil)) (pe_callB b_len (by rfl) T.b_len (by decide +kernel) (pa_cons (pv 1) pa_nil)) (nomark _)) (pss_one (ps_rz rfl (takes_of rfl rfl rfl rfl) T.x_BadStay (by rfl))) pss_nil)
    (pss_one (ps_for (passes_of rfl) rfl (pi_enum (by rfl) T.b_enumerate (pa_cons (pv 1) pa_nil)) (pg_tup rfl (pgs_cons (pg_name (i := 4) sc_check_given.nd rfl (Or.inl rfl)) (pgs_cons (pg_name (i := 5) sc_check_given.nd rfl (Or.inl rfl)) pgs_nil))) (pss_cons (ps_set (i := 6) sc_check_given.nd rfl (Or.inl rfl) (pe_ix ix_list (pv 3) (pv 4) (fun _ _ => rfl)))
    (pss_cons (ps_if (pt_cmpR op_ne (pe_cmpR c_isN (pv 6) pe_non (nomark _)) (pe_cmpR c_gt (pe_ix ix_tup (pv 5) pe_int (fun _ _ => rfl)) (pv 2) (nomark _)) (nomark _)) (pss_one (ps_rz rfl (takes_of rfl rfl rfl rfl) T.x_BadStay (by rfl))) pss_nil)
    (pss_cons (ps_if (PW.pt (pw_and (pt_cmpR c_notN (pv 6) pe_non (nomark _)) (pw_and1 (pt_not (pt_val (pe_cl c_is_from (hr.mono (by first | decide | omega)) (by rfl) (pa_cons (pv 6) (pa_cons pe_int (pa_cons (pe_op o_sub (pe_ix ix_tup (pv 0) (pe_ix ix_tup (pv 5) pe_int (fun _ _ => rfl)) (fun _ _ => rfl)) pe_int) pa_nil))))))))) (pss_one (ps_rz rfl (takes_of rfl rfl rfl rfl) T.x_BadStay (by rfl))) pss_nil)
    (pss_one (ps_for (passes_of rfl) rfl (pi_range1 rfl T.b_range (pa_cons (pv 4) pa_nil)) (pg_name (i := 7) sc_check_given.nd rfl (Or.inl rfl)) (pss_one (ps_if (PW.pt (pw_and (pt_cmpR c_notN (pv 6) pe_non (nomark _)) (pw_and (pt_cmpR op_eq (pe_ix ix_list (pv 3) (pv 7) (fun _ _ => rfl)) (pv 6) (nomark _)) (pw_and1 (pt_val (pe_cl c_meet (hr.mono (by first | decide | omega)) (by rfl) (pa_cons (pe_ix ix_list (pv 1) (pv 7) (fun _ _ => rfl)) (pa_cons (pv 5) pa_nil)))))))) (pss_one (ps_rz rfl (takes_of rfl rfl rfl rfl) T.x_BadStay (by rfl))) pss_nil))))))))))
  · obtain ⟨x0, x1, x2, x3, rfl, h⟩ := h
    exact pu_check_given T h

def pairD (ss : List Stay) (i : Nat) : PyData := .tuple [.int (stG ss i).2.1, .int i]
theorem srt_pairs (ss : List Stay) (is : List Nat) : srt (is.map (pairD ss)) = (ord ss is).map (pairD ss) := by
  rw [← srt_map (pairD ss) is]
  have e : PySem.W.dataLe false (pairD ss) = le2 ss := PySem.W.dataLe_ii (fun i : Nat => (stG ss i).2.1) (fun i : Nat => (i : Int))
  rw [e]; rfl
theorem pairs_alike (ss : List Stay) (is : List Nat) : PySem.W.AllAlike (is.map (pairD ss)) := fun d hd d' hd' => by
  obtain ⟨s, _, rfl⟩ := List.mem_map.mp hd
  obtain ⟨s', _, rfl⟩ := List.mem_map.mp hd'
  rfl
theorem pairs_sortable (ss : List Stay) (is : List Nat) : PySem.W.Sortable (is.map (pairD ss)) := .inl fun d hd => by
  obtain ⟨s, _, rfl⟩ := List.mem_map.mp hd
  exact ⟨_, _, rfl⟩
theorem pairs_depth (ss : List Stay) (is : List Nat) : ∀ d ∈ is.map (pairD ss), d.depth ≤ 60 := fun d hd => by
  obtain ⟨s, _, rfl⟩ := List.mem_map.mp hd
  simp [pairD, PyData.depth, PyData.depthAll]
theorem imm_pairs (ss : List Stay) (is : List Nat) : immL (is.map (pairD ss)) = true := immL_of fun d hd => by obtain ⟨n, _, rfl⟩ := List.mem_map.mp hd; rfl
theorem pair_get {H : Hp} {xs : List V} {ss : List Stay} {is : List Nat} {i : Nat} {x : V} (h : DaL H xs (is.map (pairD ss))) (e : xs[i]? = some x) : ∃ n a, is[i]? = some n ∧ x = .ref a ∧ H a = some (.tup [.int (stG ss n).2.1, .int n]) := by
  obtain ⟨d, hd, dd⟩ := h.get e
  rw [List.getElem?_map] at hd
  cases q : is[i]? with
  | none => rw [q] at hd; cases hd
  | some s =>
    rw [q] at hd
    cases hd
    obtain ⟨a, xs, rfl, ea, _, r⟩ := dd.tup1
    obtain ⟨y0, y1, rfl, d0, d1⟩ := r.two
    cases d0.int1; cases d1.int1
    exact ⟨s, a, rfl, rfl, ea⟩
theorem free_more (t : List Int) (m : Nat) : free t (m + 1) = free t m ++ if (m : Int) ∉ t then [(m : Int)] else [] := by
  unfold free
  rw [List.range_succ, List.map_append, List.filter_append]
  congr 1
  by_cases h : (m : Int) ∈ t
  · rw [if_neg (by simpa using h)]; simp [h]
  · rw [if_pos h]; simp [h]
theorem free_len (t : List Int) (m : Nat) : (free t m).length ≤ m := by
  unfold free
  exact Nat.le_trans (List.length_filter_le _ _) (by rw [List.length_map, List.length_range]; exact Nat.le_refl _)
theorem free_head {t : List Int} {n : Nat} (h : free t n ≠ []) : ∀ y ∈ free t n, (free t n).headD 0 ≤ y := by
  have pw : (free t n).Pairwise fun a b => a < b := List.Pairwise.filter _ (List.Pairwise.map _ (fun a b (h : a < b) => by omega) List.pairwise_lt_range)
  cases q : free t n with
  | nil => exact absurd q h
  | cons a r =>
    rw [q] at pw
    intro y hy
    rcases List.mem_cons.mp hy with e | e
    · rw [e]; exact Int.le_refl _
    · exact Int.le_of_lt (List.rel_of_pairwise_cons pw e)
theorem opts_set (R : List (Option Int)) (k : Nat) (m : Int) : (R.map optV).set k (.int m) = (R.set k (some m)).map optV := by rw [List.map_set]; rfl
def noneIx (R : List (Option Int)) (i : Nat) : List Nat := (List.range i).filter fun k => decide (rmG R k = none)
theorem noneIx_more (R : List (Option Int)) (i : Nat) : noneIx R (i + 1) = noneIx R i ++ if rmG R i = none then [i] else [] := by
  unfold noneIx
  rw [List.range_succ, List.filter_append]
  congr 1
  by_cases h : rmG R i = none
  · rw [if_pos h]; simp [h]
  · rw [if_neg h]; simp [h]
theorem noneIx_len (R : List (Option Int)) (i : Nat) : (noneIx R i).length ≤ i := by
  unfold noneIx
  exact Nat.le_trans (List.length_filter_le _ _) (by rw [List.length_range]; exact Nat.le_refl _)
theorem good_given {S : Setup} {ss : List Stay} {night : Int} {G : List Gv} (h : goodG S ss night G = true) : G.map gV = (G.map gO).map optV ∧ Given S ss night (G.map gO) := by
  have h : (decide (G.length = ss.length) && (List.range ss.length).all (okK S ss night G)) = true := h
  rw [Bool.and_eq_true, decide_eq_true_eq] at h
  obtain ⟨hl, ha⟩ := h
  have ha : ∀ k, k < ss.length → okK S ss night G k = true := fun k hk => List.all_eq_true.mp ha k (List.mem_range.mpr hk)
  have rg : ∀ j, j < ss.length → rmG (G.map gO) j = gO (gG G j) := fun j hj => by
    unfold rmG gG
    rw [List.getD_eq_getElem?_getD, List.getD_eq_getElem?_getD, List.getElem?_map, List.getElem?_eq_getElem (by omega)]; rfl
  have lt : ∀ {j r}, rmG (G.map gO) j = some r → j < ss.length := fun h => by have := rm_lt h; rw [List.length_map] at this; omega
  have gi : ∀ {j r}, rmG (G.map gO) j = some r → gG G j = .i r := fun {j r} h => by
    rw [rg j (lt h)] at h
    generalize gG G j = o at h
    cases o with
    | i z => rw [Option.some.inj h]
    | n => cases h
    | b x => cases h
  refine ⟨?_, ⟨by rw [List.length_map]; exact hl, fun j r hj => ?_, fun j l r hj hl' hne => ?_⟩, fun j hj => ?_⟩
  · rw [List.map_map]
    refine List.ext_getElem? fun j => ?_
    by_cases hj : j < G.length
    · have := ha j (by omega)
      have e : gG G j = G[j] := by unfold gG; rw [List.getD_eq_getElem?_getD, List.getElem?_eq_getElem hj]; rfl
      rw [List.getElem?_map, List.getElem?_map, List.getElem?_eq_getElem hj, ← e]
      generalize hg : gG G j = o at *
      cases o with
      | n => rfl
      | i z => rfl
      | b x => rw [okK_b hg] at this; cases this
    · rw [List.getElem?_eq_none (by rw [List.length_map]; omega), List.getElem?_eq_none (by rw [List.length_map]; omega)]
  · have := ha j (lt hj)
    rw [okK_i (gi hj)] at this
    simp only [Bool.and_eq_true, decide_eq_true_eq] at this
    omega
  · have main : ∀ a b : Nat, a < b → rmG (G.map gO) a = some r → rmG (G.map gO) b = some r → meetB (stG ss a) (stG ss b) = false := fun a b hab h1 h2 => by
      have := ha b (lt h2)
      rw [okK_i (gi h2)] at this
      rw [Bool.and_eq_true] at this
      have := List.all_eq_true.mp this.2 a (List.mem_range.mpr hab)
      rw [clash_i (gi h1) (gi h2), decide_eq_true rfl, Bool.true_and] at this
      simpa using this
    rcases Nat.lt_or_gt_of_ne hne with q | q
    · exact main j l q hj hl'
    · rw [meet_sym]; exact main l j q hl' hj
  · have := ha j hj
    rw [rg j hj]
    generalize hg : gG G j = o at *
    cases o with
    | n => rw [okK_n hg] at this; exact ⟨fun _ => of_decide_eq_true this, fun _ => rfl⟩
    | b x => rw [okK_b hg] at this; cases this
    | i z =>
      rw [okK_i hg] at this
      simp only [Bool.and_eq_true, Bool.not_eq_true', decide_eq_false_iff_not] at this
      exact ⟨fun h => (by cases h), fun h => absurd h this.1.1⟩
def P_housing (K : PySem.W.Frag) (A : Ad) (x0 x1 x2 x3 : V) (H : Hp) (Q : VK) (E : XK) : Prop := ∃ (r p g : Addr) (xs : List V) (S : Setup) (ss : List Stay) (night : Int) (G : List Gv), x0 = .ref r ∧ x1 = .ref p ∧ x2 = .int night ∧ x3 = .ref g ∧ H r = some (.tup (S.rooms.map V.int)) ∧ H p = some (.lst xs) ∧ DaL H xs (ss.map stayD) ∧ ss.length ≤ 100 ∧ SetupOk S ∧ (∀ s ∈ ss, StayOk S s) ∧
  H g = some (.lst (G.map gV)) ∧ (Fits S ss → goodG S ss night G = true → ∀ f H', H f = none → Fr [] H H' → H' f = some (.lst ((housedAll S ss (G.map gO)).map optV)) → Q (.ref f) H') ∧
  (¬ Fits S ss → ∀ H', Fr [] H H' → E (.ref A.BadStay) none H') ∧ (goodG S ss night G = false → ∀ H', Fr [] H H' → E (.ref A.BadStay) none H')
def sp_housing (K : PySem.W.Frag) (A : Ad) : Sp := fun vs H Q E => ∃ x0 x1 x2 x3, vs = [x0, x1, x2, x3] ∧ P_housing K A x0 x1 x2 x3 H Q E
theorem c_housing {K : PySem.W.Frag} {A : Ad} {x0 x1 x2 x3 : V} {H : Hp} {Q : VK} {E : XK} (h : P_housing K A x0 x1 x2 x3 H Q E) : sp_housing K A [x0, x1, x2, x3] H Q E := ⟨_, _, _, _, rfl, h⟩
theorem sc_housing : FnScope ["rooms", "stays", "night", "given", "found", "left", "_", "index", "taken", "other", "room"] ["rooms", "stays", "night", "given"] (defScope s_housing) := ⟨rfl, rfl, rfl, by decide +kernel, rfl, by decide +kernel, by decide +kernel⟩
def t_housing (K : PySem.W.Frag) (A : Ad) (E : XK) : TS :=
  (tSeq (tDrop (tClX (sp_check_room K A) (fun cls d _ H => E cls d H) (tCons (tVar 0) (tCons (tVar 1) tNil))))
    (tSeq (tDrop (tClX (sp_check_given K A) (fun cls d _ H => E cls d H) (tCons (tVar 0) (tCons (tVar 1) (tCons (tVar 2) (tCons (tVar 3) tNil))))))
    (tSeq (tAsg (tCB (rListOf K) (tCons (tVar 3) tNil)) (gName 4))
    (tSeq (tAsg (tLc (iRng1 (tCons (tCB (rLenSq K) (tCons (tVar 1) tNil)) tNil)) (gName 7) (tTest (tOp rIsNon (tOp (rIxL K) (tVar 4) (tVar 7)) (tC .non))) (tVar 7) [7]) (gName 5))
    (tSeq (tFor (iList K (tCB (rSortD K) (tCons (tLc (iList K (tVar 5)) (gName 7) tYes (tTup (tCons (tOp (rIxT K) (tOp (rIxL K) (tVar 1) (tVar 7)) (tC (.int 1))) (tCons (tVar 7) tNil))) [7]) tNil))) (gTup K 2 (gCons (gName 6) (gCons (gName 7) gNil))) (tSeq (tAsg (tLst tNil) (gName 8))
    (tSeq (tFor (iEnum K (tCons (tVar 4) tNil)) (gTup K 2 (gCons (gName 9) (gCons (gName 10) gNil))) (tIfS (tAnd (tTest (tOp rIsNotNon (tVar 10) (tC .non))) (tB (tCl (sp_meet K A) (tCons (tOp (rIxL K) (tVar 1) (tVar 9)) (tCons (tOp (rIxL K) (tVar 1) (tVar 7)) tNil))))) (tDrop (tBM K "list" rAppend (tVar 8) (tCons (tVar 10) tNil))) tNext))
    (tAsg (tCB (rMin K) (tCons (tLc (iRng1 (tCons (tOp (rIxT K) (tVar 0) (tOp (rIxT K) (tOp (rIxL K) (tVar 1) (tVar 7)) (tC (.int 0)))) tNil)) (gName 10) (tTest (tOp (rIn K true) (tVar 10) (tVar 8))) (tVar 10) [10]) tNil)) (gSub (tVar 4) (tVar 7) rSetL)))))
    (tRet (tVar 4)))))))
theorem pu_housing (T : Txt K mg A) {x0 x1 x2 x3 : V} {H : Hp} {Q : VK} {E : XK} (h : P_housing K A x0 x1 x2 x3 H Q E) : t_housing K A E { nx := fun _ H' => Q .non H', rt := Q } [some x0, some x1, some x2, some x3, none, none, none, none, none, none, none] H := by
  obtain ⟨r, p, g, xs, S, ss, night, G, rfl, rfl, rfl, rfl, er, ep, ds, hl, so, ok, eg, k, ke1, ke2⟩ := h
  have hxl : xs.length = ss.length := by rw [ds.len, List.length_map]
  unfold t_housing
  walk_at "go"
  refine c_check_room ⟨r, p, xs, S, ss, rfl, rfl, er, ep, ds, hl, so, ok, fun F H1 f1 => ?_, fun F H1 f1 => ke1 F H1 f1⟩
  walk_at "go"
  refine c_check_given ⟨r, p, g, xs, S, ss, night, G, rfl, rfl, rfl, rfl, f1.tup _ _ er, f1.at0 ep, DaL.frL f1 ds (imm_stays ss), hl, ok, f1.at0 eg, fun gg H2 f2 => ?_, fun gg H2 f2 => ke2 gg H2 (f1.then0 f2)⟩
  obtain ⟨egv, gv⟩ := good_given gg
  rw [egv] at eg
  have k := k F gg
  generalize G.map gO = R at *
  have hRl := gv.g.len
  have F2 : Fr [] H H2 := f1.then0 f2
  have eg2 := F2.at0 eg
  have ep2 := F2.at0 ep
  walk_at "go"
  rename_i f H3 n3 f3 e3
  have nf : H f = none := F2.free n3
  have ep3 := f3.at0 ep2
  walk_at "go"
  refine l_range (lo := 0) (n := ((xs.length : Nat) : Int).toNat) fun Dl H4 nD f4 e4 => ⟨fun i acc H' => Fr [] H3 H' ∧ acc = (noneIx R i).map fun k => V.int (k : Nat), ⟨f4, rfl⟩, fun i acc H' hi ha ⟨f5, hacc⟩ => ?_, fun acc H5 ha ⟨f5, hacc⟩ => ?_⟩
  · have hi' : i < R.length := by omega
    have hal : acc.length ≤ 100 := by rw [hacc, List.length_map]; have := noneIx_len R i; omega
    walk_at "go"
    refine ⟨rfl, ?_⟩
    walk_at "go"
    refine g_ixL (SqL.of (f5.at0 e3)) (show atI (R.map optV) (0 + (i : Int)) = _ from by rw [Int.zero_add]; exact atI_nat (opt_at hi')) ?_
    walk_at "go"
    refine g_ite (fun c => ?_) (fun c => ?_)
    · walk_at "go"
      refine lcY_of ha (by walk_at "sz") fun H6 f6 e6 => ⟨f5.own1 f6 nD, ?_⟩
      rw [noneIx_more, if_pos (optV_non.mp c), List.map_append, hacc, Int.zero_add]; rfl
    · refine lcN_of ha ⟨f5, ?_⟩
      rw [noneIx_more, if_neg (fun z => c (optV_non.mpr z)), List.append_nil]; exact hacc
  have hle : ((xs.length : Nat) : Int).toNat = ss.length := by omega
  rw [hle] at hacc
  generalize his : noneIx R ss.length = is at hacc
  have hisl : is.length ≤ 100 := by rw [← his]; have := noneIx_len R ss.length; omega
  have hism : ∀ n ∈ is, n < ss.length := fun n hn => by rw [← his] at hn; exact List.mem_range.mp (List.mem_filter.mp hn).1
  have e5f := f5.at0 e3
  have e5p := f5.at0 ep3
  subst hacc
  have F5 : Fr [] H H5 := (F2.then0 f3).then0 f5
  have ds5 := DaL.frL F5 ds (imm_stays ss)
  have er5 := F5.tup _ _ er
  walk_at "go"
  refine l_list (xs := is.map fun k => V.int (k : Nat)) fun Dp H6 nP f6 e6 => ⟨fun i acc H' => Fr [] H5 H' ∧ DaL H' acc ((is.take i).map (pairD ss)), ⟨f6, .nil⟩, fun i acc H' ⟨f7, _⟩ => SqL.of (f7.at0 ha), fun i x acc H' hx hac ⟨f7, r7⟩ => ?_, fun acc H7 hac ⟨f7, r7⟩ => ?_⟩
  · have hi : i < is.length := by have := (List.getElem?_eq_some_iff.mp hx).1; rwa [List.length_map] at this
    have hn : is[i]? = some is[i] := List.getElem?_eq_getElem hi
    rw [List.getElem?_map, hn] at hx
    cases hx
    generalize is[i] = n at hn
    obtain ⟨a, hxa, ea, da⟩ := stays_at ds5 (hism n (List.mem_of_getElem? hn))
    have hal : acc.length ≤ 100 := by rw [r7.len, List.length_map, List.length_take]; omega
    have ea7 := f7.tup _ _ ea
    walk_at "go"
    refine ⟨rfl, ?_⟩
    walk_at "go"
    refine g_ixL (SqL.of (f7.at0 e5p)) (atI_nat hxa) ?_
    walk_at "go"
    rename_i t H8 n8 f8 e8
    refine lcY_of (f8.at0 hac) (by walk_at "sz") fun H9 f9 e9 => ⟨(f7.then0 f8).own1 f9 nP, ?_⟩
    rw [take_more hn, List.map_append]
    exact (DaL.frL f9 (DaL.frL f8 r7 (imm_pairs ss _)) (imm_pairs ss _)).append (.one' (.tup (f9.tup _ _ e8) (Nat.le_of_ble_eq_true rfl) (.cons (.int _) (.one' (.int _)))))
  rw [List.length_map, List.take_length] at r7
  walk_at "go"
  refine g_srt (SqL.of hac) r7 (pairs_alike ss is) (pairs_sortable ss is) (pairs_depth ss is) fun sp H8 ys n8 f8 e8 r8 => ?_
  rw [srt_pairs, ← his, show ord ss (noneIx R ss.length) = left ss R from (left_ord ss R).symm] at r8
  have F8 : Fr [] H H8 := (F5.then0 f7).then0 f8
  have e8f : H8 f = some (.lst (R.map optV)) := f8.at0 (f7.at0 e5f)
  have nsf : sp ≠ f := by intro z; rw [z] at n8; rw [f7.at0 e5f] at n8; cases n8
  have hyl : ys.length = (left ss R).length := by rw [r8.len, List.length_map]
  replace r8 := DaL.frL f8 r8 (imm_pairs ss _)
  walk_at "go"
  refine f_list (xs := ys) (fun i σ H' => ∃ v6 v7 v8 v9 v10, σ = [some (.ref r), some (.ref p), some (.int night), some (.ref g), some (.ref f), some (.ref Dl), v6, v7, v8, v9, v10] ∧ Fr [f] H8 H' ∧ H' f = some (.lst ((housed S ss R i).map optV))) ⟨_, _, _, _, _, rfl, Fr.refl, e8f⟩ (fun i σ H' _ ⟨_, _, _, _, _, _, f9, _⟩ => SqL.of (f9.at e8 (nin1 nsf nin0))) ?_ ?_
  · rintro i x σ H9 hx ⟨v6, v7, v8, v9, v10, rfl, f9, e9⟩
    obtain ⟨n, a, hn, rfl, ea⟩ := pair_get r8 hx
    obtain ⟨hnl, hn0⟩ := left_mem.mp (List.mem_of_getElem? hn)
    have hil := (List.getElem?_eq_some_iff.mp hn).1
    have hs := housed_hs F ok gv i (by omega)
    have fne := housed_free F ok gv hn
    generalize hRc : housed S ss R i = Rc at *
    have hRcl := hs.g.len
    obtain ⟨b, hxb, eb, db⟩ := stays_at ds hnl
    have okn := ok _ (stG_mem hnl)
    have npf : p ≠ f := ne_of_none ep nf
    have FF : Fr [] H H9 := F8.own1 f9 nf
    have ep9 : H9 p = some (.lst xs) := FF.at0 ep
    have ea9 := f9.tup _ _ ea
    generalize ht : stG ss n = t at *
    walk_at "go"
    rename_i tk H10 n10 f10 e10
    have ntf : tk ≠ f := fun z => by rw [z, e9] at n10; cases n10
    have ntp : tk ≠ p := fun z => by rw [z, ep9] at n10; cases n10
    have e10f := f10.at0 e9
    walk_at "go"
    refine f_enum (xs := Rc.map optV) (fun m σ H' => ∃ v9 v10, σ = [some (.ref r), some (.ref p), some (.int night), some (.ref g), some (.ref f), some (.ref Dl), some (.int t.2.1), some (.int n), some (.ref tk), v9, v10] ∧ Fr [tk] H10 H' ∧ H' tk = some (.lst ((tkn ss Rc t m).map V.int))) ⟨_, _, rfl, Fr.refl, e10⟩ (fun m σ H' _ ⟨_, _, _, f, _⟩ => SqL.of (f.at e10f (nin1 ntf.symm nin0))) ?_ ?_
    · rintro m x T σ H11 H12 hx ⟨v9, v10, rfl, f11, e11⟩ nT fT eT
      have hm : m < Rc.length := by have := (List.getElem?_eq_some_iff.mp hx).1; rwa [List.length_map] at this
      rw [opt_at hm] at hx
      cases hx
      obtain ⟨c, hxc, ec, dc⟩ := stays_at ds (show m < ss.length by omega)
      have okm := ok _ (stG_mem (show m < ss.length by omega))
      have FG : Fr [] H H12 := (((FF.then0 f10).own1 f11 (FF.free n10)).then0 fT)
      have e12 := fT.at0 e11
      have ep12 := FG.at0 ep
      have tm := tkn_more (ss := ss) (R := Rc) (t := t) (i := m)
      have htl := tkn_len (ss := ss) (R := Rc) (t := t) (i := m)
      generalize ho : rmG Rc m = o at *
      walk_at "go"
      cases o with
      | none =>
        refine g_iteN (fun c => absurd rfl c) (fun _ => ?_)
        walk_at "go"
        refine ⟨_, _, rfl, f11.then0 fT, ?_⟩
        rw [tm]; simpa using e12
      | some q =>
        refine g_iteN (fun _ => ?_) (fun c => by cases c)
        walk_at "go"
        refine g_ixL (SqL.of ep12) (atI_nat hxc) ?_
        walk_at "go"
        refine g_ixL (SqL.of ep12) (atI_nat hxb) ?_
        walk_at "go"
        refine c_meet ⟨stG ss m, t, Da.frL FG dc rfl, Da.frL FG db rfl, okm.2.2.2.1, okn.2.2.2.1, ?_⟩
        by_cases c : meetB (stG ss m) t = true
        · rw [c]
          walk_at "go"
          rename_i H13 f13 e13
          refine ⟨_, _, rfl, (f11.then0 fT).transL f13, ?_⟩
          rw [tm, e13]
          simp [c, optV]
        · rw [(by simpa using c : meetB (stG ss m) t = false)]
          walk_at "go"
          refine ⟨_, _, rfl, f11.then0 fT, ?_⟩
          rw [tm]
          simpa [c] using e12
    · rintro σ H11 ⟨v9, v10, rfl, f11, e11⟩
      rw [List.length_map, hRcl] at e11
      have FG : Fr [] H H11 := ((FF.then0 f10).own1 f11 (FF.free n10))
      have ep11 := FG.at0 ep
      have er11 := FG.tup _ _ er
      have eb11 := FG.tup _ _ eb
      have e11f := f11.at e10f (nin1 ntf.symm nin0)
      have rng0 : 0 ≤ rooms S t ∧ rooms S t ≤ 4 := by
        obtain ⟨o1, o2, _⟩ := id okn
        have hk : t.1.toNat < S.rooms.length := by omega
        have : rooms S t = S.rooms[t.1.toNat] := by unfold rooms; rw [List.getD_eq_getElem?_getD, List.getElem?_eq_getElem hk]; rfl
        rw [this]; exact so.rm _ (List.getElem_mem hk)
      walk_at "go"
      refine g_ixL (SqL.of ep11) (atI_nat hxb) ?_
      walk_at "go"
      refine g_ixT (SqT.of er11) (room_at okn) ?_
      walk_at "go"
      refine l_range (lo := 0) (n := (rooms S t).toNat) fun Dm H12 nM f12 e12 => ⟨fun m acc H' => Fr [] H11 H' ∧ acc = (free (tkn ss Rc t ss.length) m).map V.int, ⟨f12, rfl⟩, fun m acc H' hm ha' ⟨f13, hacc'⟩ => ?_, fun acc H' ha' ⟨f13, hacc'⟩ => ?_⟩
      · have hal : acc.length ≤ 100 := by rw [hacc', List.length_map]; have := free_len (tkn ss Rc t ss.length) m; omega
        have e13 := f13.at0 e11
        walk_at "go"
        refine ⟨rfl, ?_⟩
        walk_at "go"
        refine g_iteN (fun c => ?_) (fun c => ?_)
        · walk_at "go"
          refine lcY_of ha' (by walk_at "sz") fun H14 f14 e14 => ⟨f13.own1 f14 nM, ?_⟩
          rw [Int.zero_add] at c ⊢
          rw [free_more, if_pos c, List.map_append, hacc']; rfl
        · refine lcN_of ha' ⟨f13, ?_⟩
          rw [Int.zero_add] at c
          rw [free_more, if_neg (by simpa using c), List.append_nil]; exact hacc'
      · subst hacc'
        have e13f := f13.at0 e11f
        walk_at "go"
        refine g_min (SqL.of ha') (List.length_pos_iff.mpr fne) fun m hm1 hm2 => ?_
        have hm : m = pick0 S ss Rc n := by
          unfold pick0
          rw [ht]
          have a1 := free_head fne m hm1
          have a2 := hm2 _ (head_mem fne)
          omega
        walk_at "go"
        refine g_setL e13f (j := n) (Evl.ixN_nat (by rw [List.length_map]; omega)) fun H14 f14 e14 => ?_
        walk_at "go"
        refine ⟨_, _, _, _, _, rfl, ?_, ?_⟩
        · have n10' : H8 tk = none := f9.freeL n10 (nin1 ntf nin0)
          exact ((((f9.then0 f10).own1 f11 n10').then0 f13).transL f14)
        · rw [housed_more hn, hRc, e14, opts_set, hm]; rfl
  · rintro σ H9 ⟨v6, v7, v8, v9, v10, rfl, f9, e9⟩
    walk_at "go"
    rw [hyl] at e9
    exact k f H9 nf (F8.own1 f9 nf) e9
theorem ok_housing {f : Addr} {fd : FuncData} (F : Fun K "housing" "housing" s_housing f fd) (T : Txt K mg A) (c_check_room : CalX P w K mg base "check_room" 2 ["rooms", "stays"] (sp_check_room K A)) (c_check_given : CalX P w K mg base "check_given" 3 ["rooms", "stays", "night", "given"] (sp_check_given K A)) (c_meet : Cal P w K mg base "meet" 1 ["first", "second"] (sp_meet K A)) : FnOk P w K mg base (L2.CX P w) (4) f fd ["rooms", "stays", "night", "given"] (sp_housing K A) := by
  refine F.okX sc_housing (fun vs H Q E h => ?_) (fun cdv Ar outer s H vs Q E hr h => ⟨t_housing K A E, ?_, ?_⟩)
  · obtain ⟨x0, x1, x2, x3, rfl, _⟩ := h
    rfl
  · have hu := hu_of hr
    exact (pss_cons (ps_expr (pe_clX c_check_room (hr.mono (by first | decide | omega)) (by rfl) (takes_of rfl rfl rfl rfl) (pa_cons (pv 0) (pa_cons (pv 1) pa_nil))))
    (pss_cons (ps_expr (pe_clX c_check_given (hr.mono (by first | decide | omega)) (by rfl) (takes_of rfl rfl rfl rfl) (pa_cons (pv 0) (pa_cons (pv 1) (pa_cons (pv 2) (pa_cons (pv 3) pa_nil))))))
    (pss_cons (ps_set (i := 4) sc_housing.nd rfl (Or.inr rfl) (pe_callTy b_list (by rfl) T.b_list (by decide +kernel) (pa_cons (pv 3) pa_nil)))
    (pss_cons (ps_setLc (i := 5) (own := [("index", 7)]) (g := (gName 7)) (tt := (tTest (tOp rIsNon (tOp (rIxL K) (tVar 4) (tVar 7)) (tC .non)))) rfl sc_housing.nd rfl rfl (sw_true rfl rfl rfl (by decide +kernel)) (pi_range1 rfl T.b_range (pa_cons (pe_callB b_len (by rfl) T.b_len (by decide +kernel) (pa_cons (pv 1) pa_nil)) pa_nil)) (blkOk_by (N := ["rooms", "stays", "night", "given", "found", "left", "_", "index", "taken", "other", "room"]) (sc := defScope s_housing) (own := [("index", 7)]) (by decide +kernel)) (fun _ _ _ _ _ => (pg_name (i := 7) sc_housing.nd rfl (Or.inl rfl))) (fun _ _ _ _ _ => (pts_one (pt_cmpR c_isN (pe_ix ix_list (pv 4) (pv 7) (fun _ _ => rfl)) pe_non (nomark _)))) (fun _ _ _ _ _ => (pv 7)))
    (pss_cons (ps_for (passes_of rfl) rfl (pi_list (pe_callB (b_sortD hr.units) (by rfl) T.b_sorted (by decide +kernel) (pa_cons (pe_lc (own := [("index", 7)]) (g := (gName 7)) (tt := tYes) rfl sc_housing.nd (pi_list (pv 5)) (blkOk_by (N := ["rooms", "stays", "night", "given", "found", "left", "_", "index", "taken", "other", "room"]) (sc := defScope s_housing) (own := [("index", 7)]) (by decide +kernel)) (fun _ _ _ _ _ => (pg_name (i := 7) sc_housing.nd rfl (Or.inl rfl))) (fun _ _ _ _ _ => pts_nil) (fun _ _ _ _ _ => (pe_tup (pa_cons (pe_ix ix_tup (pe_ix ix_list (pv 1) (pv 7) (fun _ _ => rfl)) pe_int (fun _ _ => rfl)) (pa_cons (pv 7) pa_nil))))) pa_nil))) (pg_tup rfl (pgs_cons (pg_name (i := 6) sc_housing.nd rfl (Or.inl rfl)) (pgs_cons (pg_name (i := 7) sc_housing.nd rfl (Or.inl rfl)) pgs_nil))) (pss_cons (ps_set (i := 8) sc_housing.nd rfl (Or.inr rfl) (pe_lst pa_nil))
    (pss_cons (ps_for (passes_of rfl) rfl (pi_enum (by rfl) T.b_enumerate (pa_cons (pv 4) pa_nil)) (pg_tup rfl (pgs_cons (pg_name (i := 9) sc_housing.nd rfl (Or.inl rfl)) (pgs_cons (pg_name (i := 10) sc_housing.nd rfl (Or.inl rfl)) pgs_nil))) (pss_one (ps_if (PW.pt (pw_and (pt_cmpR c_notN (pv 10) pe_non (nomark _)) (pw_and1 (pt_val (pe_cl c_meet (hr.mono (by first | decide | omega)) (by rfl) (pa_cons (pe_ix ix_list (pv 1) (pv 9) (fun _ _ => rfl)) (pa_cons (pe_ix ix_list (pv 1) (pv 7) (fun _ _ => rfl)) pa_nil))))))) (pss_one (ps_expr (pe_bm PySem.F.plainAttrs_list PySem.F.slot_list_append PySem.F.type_list_append mt_append (pv 8) (pa_cons (pv 10) pa_nil)))) pss_nil)))
    (pss_one (ps_asg (pe_callB (cr_min rfl) (by rfl) T.b_min (by decide +kernel) (pa_cons (pe_lc (own := [("room", 10)]) (g := (gName 10)) (tt := (tTest (tOp (rIn K true) (tVar 10) (tVar 8)))) rfl sc_housing.nd (pi_range1 rfl T.b_range (pa_cons (pe_ix ix_tup (pv 0) (pe_ix ix_tup (pe_ix ix_list (pv 1) (pv 7) (fun _ _ => rfl)) pe_int (fun _ _ => rfl)) (fun _ _ => rfl)) pa_nil)) (blkOk_by (N := ["rooms", "stays", "night", "given", "found", "left", "_", "index", "taken", "other", "room"]) (sc := defScope s_housing) (own := [("room", 10)]) (by decide +kernel)) (fun _ _ _ _ _ => (pg_name (i := 10) sc_housing.nd rfl (Or.inl rfl))) (fun _ _ _ _ _ => (pts_one (pt_cmpR op_notIn_seq (pv 10) (pv 8) rfl))) (fun _ _ _ _ _ => (pv 10))) pa_nil)) (pg_sub (pv 4) (pv 7) set_list))))))
    (pss_one (ps_ret (pv 4))))))))
  · obtain ⟨x0, x1, x2, x3, rfl, h⟩ := h
    exact pu_housing T h

/-! ### the law's own rooms -/
def P_Lmeet (K : PySem.W.Frag) (A : Ad) (x0 x1 : V) (H : Hp) (Q : VK) : Prop := ∃ (s t : Stay), Da H x0 (stayD s) ∧ Da H x1 (stayD t) ∧ Q (.bl (meetB s t)) H
def sp_Lmeet (K : PySem.W.Frag) (A : Ad) : Sp := fun vs H Q _ => ∃ x0 x1, vs = [x0, x1] ∧ P_Lmeet K A x0 x1 H Q
theorem c_Lmeet {K : PySem.W.Frag} {A : Ad} {x0 x1 : V} {H : Hp} {Q : VK} {E : XK} (h : P_Lmeet K A x0 x1 H Q) : sp_Lmeet K A [x0, x1] H Q E := ⟨_, _, rfl, h⟩
theorem sc_Lmeet : FnScope ["_law_first", "_law_second"] ["_law_first", "_law_second"] (defScope s_Lmeet) := ⟨rfl, rfl, rfl, by decide +kernel, rfl, by decide +kernel, by decide +kernel⟩
def t_Lmeet (K : PySem.W.Frag) (A : Ad) : TS :=
  (tRet (tAndV (tOp rEq (tOp (rIxT K) (tVar 0) (tC (.int 0))) (tOp (rIxT K) (tVar 1) (tC (.int 0)))) (tAndV (tOp cLt (tOp (rIxT K) (tVar 0) (tC (.int 1))) (tOp (rIxT K) (tVar 1) (tC (.int 2)))) (tOp cLt (tOp (rIxT K) (tVar 1) (tC (.int 1))) (tOp (rIxT K) (tVar 0) (tC (.int 2)))))))
theorem pu_Lmeet (T : Txt K mg A) {x0 x1 : V} {H : Hp} {Q : VK} (h : P_Lmeet K A x0 x1 H Q) : t_Lmeet K A { nx := fun _ H' => Q .non H', rt := Q } [some x0, some x1] H := by
  obtain ⟨s, t, ds, dt, k⟩ := h
  obtain ⟨a, rfl, ea⟩ := stay_at ds
  obtain ⟨b, rfl, eb⟩ := stay_at dt
  unfold meetB at k
  unfold t_Lmeet
  walk_at "go"
  refine g_iteB (fun c => ?_) (fun c => ?_)
  · rw [c, Bool.true_and] at k
    walk_at "go"
    refine g_iteB (fun c => ?_) (fun c => ?_)
    · rw [c, Bool.true_and] at k
      walk_at "go"
      exact k
    · rw [c, Bool.false_and] at k
      exact k
  · rw [c, Bool.false_and] at k
    exact k
theorem ok_Lmeet {f : Addr} {fd : FuncData} (F : Fun K "_law_meet" "_law_meet" s_Lmeet f fd) (T : Txt K mg A)  : FnOk P w K mg base CX0 (1) f fd ["_law_first", "_law_second"] (sp_Lmeet K A) := by
  refine F.ok sc_Lmeet (fun vs H Q E h => ?_) (fun cdv Ar outer s H vs Q E hr h => ⟨t_Lmeet K A, ?_, ?_⟩)
  · obtain ⟨x0, x1, rfl, _⟩ := h
    rfl
  · have hu := hu_of hr
    exact (pss_one (ps_ret (pe_and (pe_cmpR op_eq (pe_ix ix_tup (pv 0) pe_int (fun _ _ => rfl)) (pe_ix ix_tup (pv 1) pe_int (fun _ _ => rfl)) (nomark _)) (pe_and (pe_cmpR c_lt (pe_ix ix_tup (pv 0) pe_int (fun _ _ => rfl)) (pe_ix ix_tup (pv 1) pe_int (fun _ _ => rfl)) (nomark _)) (pe_one (pe_cmpR c_lt (pe_ix ix_tup (pv 1) pe_int (fun _ _ => rfl)) (pe_ix ix_tup (pv 0) pe_int (fun _ _ => rfl)) (nomark _)))))))
  · obtain ⟨x0, x1, rfl, h⟩ := h
    exact pu_Lmeet T h
def P_Lfits (K : PySem.W.Frag) (A : Ad) (x0 x1 : V) (H : Hp) (Q : VK) : Prop := ∃ (p : Addr) (xs : List V) (S : Setup) (ss : List Stay), x1 = .ref p ∧ Da H x0 (setupD S) ∧ SetupOk S ∧ H p = some (.lst xs) ∧ DaL H xs (ss.map stayD) ∧ ss.length ≤ 100 ∧
  ∀ b H', (b = true ↔ Fits S ss) → Fr [] H H' → Q (.bl b) H'
def sp_Lfits (K : PySem.W.Frag) (A : Ad) : Sp := fun vs H Q _ => ∃ x0 x1, vs = [x0, x1] ∧ P_Lfits K A x0 x1 H Q
theorem c_Lfits {K : PySem.W.Frag} {A : Ad} {x0 x1 : V} {H : Hp} {Q : VK} {E : XK} (h : P_Lfits K A x0 x1 H Q) : sp_Lfits K A [x0, x1] H Q E := ⟨_, _, rfl, h⟩
theorem sc_Lfits : FnScope ["_law_setup_here", "_law_stays_here", "_law_kind", "_law_night", "_law_one"] ["_law_setup_here", "_law_stays_here"] (defScope s_Lfits) := ⟨rfl, rfl, rfl, by decide +kernel, rfl, by decide +kernel, by decide +kernel⟩
def t_Lfits (K : PySem.W.Frag) (A : Ad) : TS :=
  (tSeq (tFor (iRng1 (tCons (tCB (rLenSq K) (tCons (tOp (rIxT K) (tVar 0) (tC (.int 0))) tNil)) tNil)) (gName 2) (tFor (iRng1 (tCons (tOp (rIxT K) (tVar 0) (tC (.int 1))) tNil)) (gName 3) (tIfS (tTest (tOp cGt (tCB (rLenSq K) (tCons (tLc (iList K (tVar 1)) (gName 4) (tAnd (tTest (tOp rEq (tOp (rIxT K) (tVar 4) (tC (.int 0))) (tVar 2))) (tChainT cLe cLt (tOp (rIxT K) (tVar 4) (tC (.int 1))) (tVar 3) (tOp (rIxT K) (tVar 4) (tC (.int 2))))) (tVar 4) [4]) tNil)) (tOp (rIxT K) (tOp (rIxT K) (tVar 0) (tC (.int 0))) (tVar 2)))) (tRet (tC (.bl false))) tNext)))
    (tRet (tC (.bl true))))
theorem pu_Lfits (T : Txt K mg A) {x0 x1 : V} {H : Hp} {Q : VK} (h : P_Lfits K A x0 x1 H Q) : t_Lfits K A { nx := fun _ H' => Q .non H', rt := Q } [some x0, some x1, none, none, none] H := by
  obtain ⟨p, xs, S, ss, rfl, dS, so, ep, ds, hl, k⟩ := h
  obtain ⟨s, r, pp, ps, sa⟩ := SetAt.of dS
  cases sa.e
  have e0 := sa.t
  have er := sa.r
  have k3 := so.k3
  have n12 := so.n2
  have n1 := so.n1
  have hxl : xs.length = ss.length := by rw [ds.len, List.length_map]
  unfold t_Lfits
  walk_at "go"
  rw [List.length_map]
  have hn : ((S.rooms.length : Nat) : Int).toNat = S.rooms.length := by omega
  refine f_range (lo := 0) (n := ((S.rooms.length : Nat) : Int).toNat) (fun i σ H' => ∃ v2 v3 v4, σ = [some (.ref s), some (.ref p), v2, v3, v4] ∧ Fr [] H H' ∧ ∀ k n : Nat, k < i → (n : Int) < S.nights → ((ss.filter (cov k n)).length : Int) ≤ S.rooms.getD k 0) ⟨_, _, _, rfl, Fr.refl, fun _ _ h => absurd h (by omega)⟩ ?_ ?_
  · rintro i σ H1 hi ⟨v2, v3, v4, rfl, f1, h1⟩
    have e01 := f1.tup _ _ e0
    walk_at "go"
    refine f_range (lo := 0) (n := S.nights.toNat) (fun j σ H' => ∃ v3 v4, σ = [some (.ref s), some (.ref p), some (.int (0 + i)), v3, v4] ∧ Fr [] H H' ∧ ∀ n : Nat, n < j → ((ss.filter (cov i n)).length : Int) ≤ S.rooms.getD i 0) ⟨_, _, rfl, f1, fun _ h => absurd h (by omega)⟩ ?_ ?_
    · rintro j σ H2 hj ⟨v3, v4, rfl, f2, h2⟩
      have ep2 := f2.at0 ep
      walk_at "go"
      refine l_list (xs := xs) fun Dl H5 nD f5 e5 => ⟨fun m acc H' => Fr [] H2 H' ∧ acc.length = ((ss.take m).filter (cov i j)).length, ⟨f5, rfl⟩, fun m acc H' ⟨f, _⟩ => SqL.of (f.at0 ep2), fun m x acc H' hx ha ⟨f, hacc⟩ => ?_, fun acc H' ha ⟨f, hacc⟩ => ?_⟩
      · obtain ⟨u, b, hu, rfl, eb, du⟩ := stays_get ds hx
        have hul := (List.getElem?_eq_some_iff.mp hu).1
        have fm := filter_more (f := cov i j) hu
        have hal : acc.length ≤ 100 := by rw [hacc]; exact Nat.le_trans (List.length_filter_le _ _) (by rw [List.length_take]; omega)
        have eb' := f.tup _ _ (f2.tup _ _ eb)
        have no : ¬ cov i j u = true → lcN Dl (fun m acc H' => Fr [] H2 H' ∧ acc.length = ((ss.take m).filter (cov i j)).length) m H' := fun c => by
          refine lcN_of ha ⟨f, ?_⟩
          rw [fm, if_neg c, List.append_nil]; exact hacc
        have cc : cov i j u = true → u.1 = i ∧ u.2.1 ≤ j ∧ (j : Int) < u.2.2 := fun z => by
          unfold cov at z
          simp only [Bool.and_eq_true, decide_eq_true_eq] at z
          exact z
        walk_at "go"
        refine ⟨rfl, ?_⟩
        walk_at "go"
        refine g_ite (fun c1 => ?_) (fun c1 => no fun z => c1 (by have := cc z; omega))
        · walk_at "go"
          refine g_ite (fun c2 => ?_) (fun c2 => ?_)
          · walk_at "go"
            refine g_ite (fun c3 => ?_) (fun c3 => no fun z => c3 (by have := cc z; omega))
            · walk_at "go"
              refine lcY_of ha (by walk_at "sz") fun H6 f6 e6 => ⟨f.own1 f6 nD, ?_⟩
              have c : cov i j u = true := by unfold cov; simp only [Bool.and_eq_true, decide_eq_true_eq]; omega
              rw [fm, if_pos c, List.length_append, List.length_append, hacc]; rfl
          · walk_at "go"
            exact no fun z => c2 (by have := cc z; omega)
      · rw [hxl, List.take_length] at hacc
        have F3 := f2.then0 f
        have e03 := F3.tup _ _ e0
        have er3 := F3.tup _ _ er
        walk_at "go"
        have hrt : atI (S.rooms.map V.int) (0 + (i : Int)) = some (.int (S.rooms.getD i 0)) := by
          rw [Int.zero_add]
          have hik : i < S.rooms.length := by omega
          refine atI_nat ?_
          rw [List.getElem?_map, List.getElem?_eq_getElem hik, List.getD_eq_getElem?_getD, List.getElem?_eq_getElem hik]; rfl
        refine g_ixT (SqT.of er3) hrt ?_
        walk_at "go"
        refine g_ite (fun c => ?_) (fun c => ?_)
        · walk_at "go"
          exact k false _ ⟨fun h => (by cases h), fun F => absurd (F i j (by omega) (by omega)) (by rw [← hacc]; omega)⟩ F3
        · walk_at "go"
          refine ⟨_, _, rfl, F3, fun n hn' => ?_⟩
          by_cases q : n = j
          · subst q; rw [← hacc]; omega
          · exact h2 n (by omega)
    · rintro σ H2 ⟨v3, v4, rfl, f2, h2⟩
      refine ⟨_, _, _, rfl, f2, fun k' n hk' hn' => ?_⟩
      by_cases q : k' = i
      · subst q; exact h2 n (by omega)
      · exact h1 k' n (by omega) hn'
  · rintro σ H1 ⟨v2, v3, v4, rfl, f1, h1⟩
    walk_at "go"
    exact k true H1 ⟨fun _ => (fun k' n hk' hn' => h1 k' n (by omega) hn'), fun _ => rfl⟩ f1
theorem ok_Lfits {f : Addr} {fd : FuncData} (F : Fun K "_law_fits" "_law_fits" s_Lfits f fd) (T : Txt K mg A)  : FnOk P w K mg base CX0 (1) f fd ["_law_setup_here", "_law_stays_here"] (sp_Lfits K A) := by
  refine F.ok sc_Lfits (fun vs H Q E h => ?_) (fun cdv Ar outer s H vs Q E hr h => ⟨t_Lfits K A, ?_, ?_⟩)
  · obtain ⟨x0, x1, rfl, _⟩ := h
    rfl
  · have hu := hu_of hr
    exact (pss_cons (ps_for PassesOwn.never rfl (pi_range1 rfl T.b_range (pa_cons (pe_callB b_len (by rfl) T.b_len (by decide +kernel) (pa_cons (pe_ix ix_tup (pv 0) pe_int (fun _ _ => rfl)) pa_nil)) pa_nil)) (pg_name (i := 2) sc_Lfits.nd rfl (Or.inr rfl)) (pss_one (ps_for PassesOwn.never rfl (pi_range1 rfl T.b_range (pa_cons (pe_ix ix_tup (pv 0) pe_int (fun _ _ => rfl)) pa_nil)) (pg_name (i := 3) sc_Lfits.nd rfl (Or.inr rfl)) (pss_one (ps_if (pt_cmpR c_gt (pe_callB b_len (by rfl) T.b_len (by decide +kernel) (pa_cons (pe_lc (own := [("_law_one", 4)]) (g := (gName 4)) (tt := (tAnd (tTest (tOp rEq (tOp (rIxT K) (tVar 4) (tC (.int 0))) (tVar 2))) (tChainT cLe cLt (tOp (rIxT K) (tVar 4) (tC (.int 1))) (tVar 3) (tOp (rIxT K) (tVar 4) (tC (.int 2)))))) rfl sc_Lfits.nd (pi_list (pv 1)) (blkOk_by (N := ["_law_setup_here", "_law_stays_here", "_law_kind", "_law_night", "_law_one"]) (sc := defScope s_Lfits) (own := [("_law_one", 4)]) (by decide +kernel)) (fun _ _ _ _ _ => (pg_name (i := 4) sc_Lfits.nd rfl (Or.inl rfl))) (fun _ _ _ _ _ => (pts_one (PW.pt (pw_and (pt_cmpR op_eq (pe_ix ix_tup (pv 4) pe_int (fun _ _ => rfl)) (pv 2) (nomark _)) (pw_and1 (pt_chain c_le c_lt (pe_ix ix_tup (pv 4) pe_int (fun _ _ => rfl)) (pv 3) (pe_ix ix_tup (pv 4) pe_int (fun _ _ => rfl)))))))) (fun _ _ _ _ _ => (pv 4))) pa_nil)) (pe_ix ix_tup (pe_ix ix_tup (pv 0) pe_int (fun _ _ => rfl)) (pv 2) (fun _ _ => rfl)) (nomark _)) (pss_one (ps_ret pe_bl)) pss_nil)))))
    (pss_one (ps_ret pe_bl)))
  · obtain ⟨x0, x1, rfl, h⟩ := h
    exact pu_Lfits T h
theorem Fits.nil {S : Setup} (so : SetupOk S) : Fits S [] := fun k n hk _ => by
  have : S.rooms.getD k 0 = S.rooms[k] := by rw [List.getD_eq_getElem?_getD, List.getElem?_eq_getElem hk]; rfl
  rw [this]
  exact (so.rm _ (List.getElem_mem hk)).1
def P_Lstays (K : PySem.W.Frag) (A : Ad) (x0 x1 x2 : V) (H : Hp) (Q : VK) : Prop := ∃ (d l : Addr) (S : Setup) (m : Int), x0 = .ref d ∧ x2 = .int m ∧ 0 ≤ m ∧ m ≤ 90 ∧ Draws H d l ∧ SetupOk S ∧ Da H x1 (setupD S) ∧
  ∀ (p : Addr) (ss : List Stay) (xs : List V) (H' : Hp), H p = none → Fr [d] H H' → Draws H' d l → H' p = some (.lst xs) → DaL H' xs (ss.map stayD) → (ss.length : Int) ≤ m → (∀ s ∈ ss, StayOk S s) → Fits S ss → Q (.ref p) H'
def sp_Lstays (K : PySem.W.Frag) (A : Ad) : Sp := fun vs H Q _ => ∃ x0 x1 x2, vs = [x0, x1, x2] ∧ P_Lstays K A x0 x1 x2 H Q
theorem c_Lstays {K : PySem.W.Frag} {A : Ad} {x0 x1 x2 : V} {H : Hp} {Q : VK} {E : XK} (h : P_Lstays K A x0 x1 x2 H Q) : sp_Lstays K A [x0, x1, x2] H Q E := ⟨_, _, _, rfl, h⟩
theorem sc_Lstays : FnScope ["_law_draws", "_law_setup_here", "_law_many", "_law_stays_here", "_law_k", "_law_stay_here"] ["_law_draws", "_law_setup_here", "_law_many"] (defScope s_Lstays) := ⟨rfl, rfl, rfl, by decide +kernel, rfl, by decide +kernel, by decide +kernel⟩
def t_Lstays (K : PySem.W.Frag) (A : Ad) : TS :=
  (tSeq (tAsg (tLst tNil) (gName 3))
    (tSeq (tFor (iRng1 (tCons (tVar 2) tNil)) (gName 4) (tSeq (tAsg (tCl (sp_Lstay K A) (tCons (tVar 0) (tCons (tVar 1) tNil))) (gName 5))
    (tIfS (tB (tCl (sp_Lfits K A) (tCons (tVar 1) (tCons (tOp rCat (tVar 3) (tLst (tCons (tVar 5) tNil))) tNil)))) (tDrop (tBM K "list" rAppend (tVar 3) (tCons (tVar 5) tNil))) tNext)))
    (tRet (tVar 3))))
theorem pu_Lstays (T : Txt K mg A) {x0 x1 x2 : V} {H : Hp} {Q : VK} (h : P_Lstays K A x0 x1 x2 H Q) : t_Lstays K A { nx := fun _ H' => Q .non H', rt := Q } [some x0, some x1, some x2, none, none, none] H := by
  obtain ⟨d, l, S, m, rfl, rfl, hm0, hm, D0, so, dS, k⟩ := h
  unfold t_Lstays
  walk_at "go"
  rename_i p H1 n1 f1 e1
  have npd : p ≠ d := (D0.new1 n1).symm
  have npl : p ≠ l := (D0.new2 n1).symm
  refine f_range (lo := 0) (n := m.toNat) (fun i σ H' => ∃ (v4 v5 : Option V) (ss : List Stay) (xs : List V), σ = [some (.ref d), some x1, some (.int m), some (.ref p), v4, v5] ∧ Fr [d] H H' ∧ Draws H' d l ∧ H' p = some (.lst xs) ∧ DaL H' xs (ss.map stayD) ∧ ss.length ≤ i ∧ (∀ s ∈ ss, StayOk S s) ∧ Fits S ss)
    ⟨_, _, [], [], rfl, f1.of0, D0.fr f1 nin0 nin0, e1, .nil, Nat.zero_le _, fun _ h => (nomatch h), Fits.nil so⟩ ?_ ?_
  · rintro i σ H2 hi ⟨v4, v5, ss, xs, rfl, f2, D2, e2, ds, hsl, ok, F⟩
    have hxl : xs.length = ss.length := by rw [ds.len, List.length_map]
    walk_at "go"
    refine c_Lstay ⟨d, l, S, rfl, D2, so, Da.frL f2 dS (imm_setup S), fun v s H3 sok dv f3 D3 => ?_⟩
    have e3 := f3.at e2 (nin1 npd nin0)
    have ds3 := DaL.frL f3 ds (imm_stays ss)
    walk_at "go"
    rename_i q H4 n4 f4 e4
    refine g_cat (f4.at0 e3) e4 (szL (by simp only [List.length_cons, List.length_nil]; omega)) fun c H5 n5 f5 e5 => ?_
    have F5 : Fr [d] H H5 := ((f2.transL f3).then0 f4).then0 f5
    have e5p := f5.at0 (f4.at0 e3)
    have ds5 := DaL.frL (f4.then0 f5) ds3 (imm_stays ss)
    have dv5 := Da.frL (f4.then0 f5) dv (imm_stay s)
    have D5 : Draws H5 d l := (D3.fr f4 nin0 nin0).fr f5 nin0 nin0
    walk_at "go"
    refine c_Lfits ⟨c, _, S, ss ++ [s], rfl, Da.frL F5 dS (imm_setup S), so, e5, by rw [List.map_append]; exact ds5.append (.one' dv5), by rw [List.length_append, List.length_singleton]; omega, fun b H6 hb f6 => ?_⟩
    have e6p := f6.at0 e5p
    have hal : xs.length ≤ 100 := by omega
    cases b with
    | true =>
      walk_at "go"
      rename_i H7 f7 e7
      refine ⟨_, _, ss ++ [s], _, rfl, (F5.then0 f6).own1 f7 n1, (D5.fr f6 nin0 nin0).fr f7 (nin1 npd.symm nin0) (nin1 npl.symm nin0), e7, ?_, by rw [List.length_append, List.length_singleton]; omega, fun z hz => ?_, hb.mp rfl⟩
      · rw [List.map_append]
        exact (DaL.frL f7 (DaL.frL f6 ds5 (imm_stays ss)) (imm_stays ss)).append (.one' (Da.frL f7 (Da.frL f6 dv5 (imm_stay s)) (imm_stay s)))
      · rcases List.mem_append.mp hz with h | h
        · exact ok z h
        · rw [List.mem_singleton.mp h]; exact sok
    | false =>
      walk_at "go"
      exact ⟨_, _, ss, xs, rfl, F5.then0 f6, D5.fr f6 nin0 nin0, e6p, DaL.frL f6 ds5 (imm_stays ss), by omega, ok, F⟩
  · rintro σ H2 ⟨v4, v5, ss, xs, rfl, f2, D2, e2, ds, hsl, ok, F⟩
    walk_at "go"
    exact k p ss xs H2 n1 f2 D2 e2 ds (by omega) ok F
theorem ok_Lstays {f : Addr} {fd : FuncData} (F : Fun K "_law_stays" "_law_stays" s_Lstays f fd) (T : Txt K mg A) (c_Lstay : Cal P w K mg base "_law_stay" 3 ["_law_draws", "_law_setup_here"] (sp_Lstay K A)) (c_Lfits : Cal P w K mg base "_law_fits" 1 ["_law_setup_here", "_law_stays_here"] (sp_Lfits K A)) : FnOk P w K mg base CX0 (4) f fd ["_law_draws", "_law_setup_here", "_law_many"] (sp_Lstays K A) := by
  refine F.ok sc_Lstays (fun vs H Q E h => ?_) (fun cdv Ar outer s H vs Q E hr h => ⟨t_Lstays K A, ?_, ?_⟩)
  · obtain ⟨x0, x1, x2, rfl, _⟩ := h
    rfl
  · have hu := hu_of hr
    exact (pss_cons (ps_set (i := 3) sc_Lstays.nd rfl (Or.inl rfl) (pe_lst pa_nil))
    (pss_cons (ps_for PassesOwn.never rfl (pi_range1 rfl T.b_range (pa_cons (pv 2) pa_nil)) (pg_name (i := 4) sc_Lstays.nd rfl (Or.inl rfl)) (pss_cons (ps_set (i := 5) sc_Lstays.nd rfl (Or.inl rfl) (pe_cl c_Lstay (hr.mono (by first | decide | omega)) (by rfl) (pa_cons (pv 0) (pa_cons (pv 1) pa_nil))))
    (pss_one (ps_if (pt_val (pe_cl c_Lfits (hr.mono (by first | decide | omega)) (by rfl) (pa_cons (pv 1) (pa_cons (pe_op op_cat (pv 3) (pe_lst (pa_cons (pv 5) pa_nil))) pa_nil)))) (pss_one (ps_expr (pe_bm PySem.F.plainAttrs_list PySem.F.slot_list_append PySem.F.type_list_append mt_append (pv 3) (pa_cons (pv 5) pa_nil)))) pss_nil))))
    (pss_one (ps_ret (pv 3)))))
  · obtain ⟨x0, x1, x2, rfl, h⟩ := h
    exact pu_Lstays T h
def P_Lorder (K : PySem.W.Frag) (A : Ad) (x0 : V) (H : Hp) (Q : VK) : Prop := ∃ (p : Addr) (xs : List V) (ss : List Stay), x0 = .ref p ∧ H p = some (.lst xs) ∧ DaL H xs (ss.map stayD) ∧ ss.length ≤ 100 ∧
  ∀ (q : Addr) (H' : Hp), H q = none → Fr [] H H' → H' q = some (.lst ((ord ss (List.range ss.length)).map fun k => V.int (k : Nat))) → Q (.ref q) H'
def sp_Lorder (K : PySem.W.Frag) (A : Ad) : Sp := fun vs H Q _ => ∃ x0, vs = [x0] ∧ P_Lorder K A x0 H Q
theorem c_Lorder {K : PySem.W.Frag} {A : Ad} {x0 : V} {H : Hp} {Q : VK} {E : XK} (h : P_Lorder K A x0 H Q) : sp_Lorder K A [x0] H Q E := ⟨_, rfl, h⟩
theorem sc_Lorder : FnScope ["_law_stays_here", "_law_pair", "_law_k"] ["_law_stays_here"] (defScope s_Lorder) := ⟨rfl, rfl, rfl, by decide +kernel, rfl, by decide +kernel, by decide +kernel⟩
def t_Lorder (K : PySem.W.Frag) (A : Ad) : TS :=
  (tRet (tLc (iList K (tCB (rSortD K) (tCons (tLc (iRng1 (tCons (tCB (rLenSq K) (tCons (tVar 0) tNil)) tNil)) (gName 2) tYes (tTup (tCons (tOp (rIxT K) (tOp (rIxL K) (tVar 0) (tVar 2)) (tC (.int 1))) (tCons (tVar 2) tNil))) [2]) tNil))) (gName 1) tYes (tOp (rIxT K) (tVar 1) (tC (.int 1))) [1]))
theorem pu_Lorder (T : Txt K mg A) {x0 : V} {H : Hp} {Q : VK} (h : P_Lorder K A x0 H Q) : t_Lorder K A { nx := fun _ H' => Q .non H', rt := Q } [some x0, none, none] H := by
  obtain ⟨p, xs, ss, rfl, ep, ds, hl, k⟩ := h
  have hxl : xs.length = ss.length := by rw [ds.len, List.length_map]
  unfold t_Lorder
  walk_at "go"
  refine l_range (lo := 0) (n := ((xs.length : Nat) : Int).toNat) fun Dp H6 nP f6 e6 => ⟨fun i acc H' => Fr [] H H' ∧ DaL H' acc ((List.range i).map (pairD ss)), ⟨f6, .nil⟩, fun i acc H' hi hac ⟨f7, r7⟩ => ?_, fun acc H7 hac ⟨f7, r7⟩ => ?_⟩
  · have hi' : i < ss.length := by omega
    obtain ⟨a, hxa, ea, da⟩ := stays_at ds hi'
    have hal : acc.length ≤ 100 := by rw [r7.len, List.length_map, List.length_range]; omega
    have ea7 := f7.tup _ _ ea
    walk_at "go"
    refine ⟨rfl, ?_⟩
    walk_at "go"
    refine g_ixL (SqL.of (f7.at0 ep)) (show atI xs (0 + (i : Int)) = _ from by rw [Int.zero_add]; exact atI_nat hxa) ?_
    walk_at "go"
    rename_i t H8 n8 f8 e8
    refine lcY_of (f8.at0 hac) (by walk_at "sz") fun H9 f9 e9 => ⟨(f7.then0 f8).own1 f9 nP, ?_⟩
    rw [List.range_succ, List.map_append]
    exact (DaL.frL f9 (DaL.frL f8 r7 (imm_pairs ss _)) (imm_pairs ss _)).append (.one' (.tup (f9.tup _ _ e8) (Nat.le_of_ble_eq_true rfl) (.cons (.int _) (.one' (by rw [Int.zero_add]; exact .int _)))))
  have hn : ((xs.length : Nat) : Int).toNat = ss.length := by omega
  rw [hn] at r7
  walk_at "go"
  refine g_srt (SqL.of hac) r7 (pairs_alike ss _) (pairs_sortable ss _) (pairs_depth ss _) fun sp H8 ys n8 f8 e8 r8 => ?_
  rw [srt_pairs] at r8
  replace r8 := DaL.frL f8 r8 (imm_pairs ss _)
  have hyl : ys.length = (ord ss (List.range ss.length)).length := by rw [r8.len, List.length_map]
  have hol : (ord ss (List.range ss.length)).length = ss.length := by rw [(ord_perm ss _).length_eq, List.length_range]
  walk_at "go"
  refine l_list (xs := ys) fun Dq H9 nQ f9 e9 => ⟨fun i acc H' => Fr [] H8 H' ∧ acc = ((ord ss (List.range ss.length)).take i).map fun k => V.int (k : Nat), ⟨f9, rfl⟩, fun i acc H' ⟨f10, _⟩ => SqL.of (f10.at0 e8), fun i x acc H' hx hacq ⟨f10, hacc⟩ => ?_, fun acc H10 hacq ⟨f10, hacc⟩ => ?_⟩
  · obtain ⟨n, a, hn', rfl, ea⟩ := pair_get r8 hx
    have hal : acc.length ≤ 100 := by rw [hacc, List.length_map, List.length_take]; omega
    have ea' := f10.tup _ _ ea
    walk_at "go"
    refine ⟨rfl, ?_⟩
    walk_at "go"
    refine lcY_of hacq (by walk_at "sz") fun H11 f11 e11 => ⟨f10.own1 f11 nQ, ?_⟩
    rw [take_more hn', List.map_append, hacc]; rfl
  · rw [hyl, List.take_length] at hacc
    subst hacc
    walk_at "go"
    have F8 : Fr [] H H8 := f7.then0 f8
    exact k Dq H10 (F8.free nQ) (F8.then0 f10) hacq
theorem ok_Lorder {f : Addr} {fd : FuncData} (F : Fun K "_law_order" "_law_order" s_Lorder f fd) (T : Txt K mg A)  : FnOk P w K mg base CX0 (1) f fd ["_law_stays_here"] (sp_Lorder K A) := by
  refine F.ok sc_Lorder (fun vs H Q E h => ?_) (fun cdv Ar outer s H vs Q E hr h => ⟨t_Lorder K A, ?_, ?_⟩)
  · obtain ⟨x0, rfl, _⟩ := h
    rfl
  · have hu := hu_of hr
    exact (pss_one (ps_ret (pe_lc (own := [("_law_pair", 1)]) (g := (gName 1)) (tt := tYes) rfl sc_Lorder.nd (pi_list (pe_callB (b_sortD hr.units) (by rfl) T.b_sorted (by decide +kernel) (pa_cons (pe_lc (own := [("_law_k", 2)]) (g := (gName 2)) (tt := tYes) rfl sc_Lorder.nd (pi_range1 rfl T.b_range (pa_cons (pe_callB b_len (by rfl) T.b_len (by decide +kernel) (pa_cons (pv 0) pa_nil)) pa_nil)) (blkOk_by (N := ["_law_stays_here", "_law_pair", "_law_k"]) (sc := defScope s_Lorder) (own := [("_law_k", 2)]) (by decide +kernel)) (fun _ _ _ _ _ => (pg_name (i := 2) sc_Lorder.nd rfl (Or.inl rfl))) (fun _ _ _ _ _ => pts_nil) (fun _ _ _ _ _ => (pe_tup (pa_cons (pe_ix ix_tup (pe_ix ix_list (pv 0) (pv 2) (fun _ _ => rfl)) pe_int (fun _ _ => rfl)) (pa_cons (pv 2) pa_nil))))) pa_nil))) (blkOk_by (N := ["_law_stays_here", "_law_pair", "_law_k"]) (sc := defScope s_Lorder) (own := [("_law_pair", 1)]) (by decide +kernel)) (fun _ _ _ _ _ => (pg_name (i := 1) sc_Lorder.nd rfl (Or.inl rfl))) (fun _ _ _ _ _ => pts_nil) (fun _ _ _ _ _ => (pe_ix ix_tup (pv 1) pe_int (fun _ _ => rfl))))))
  · obtain ⟨x0, rfl, h⟩ := h
    exact pu_Lorder T h

theorem rooms_le {S : Setup} {t : Stay} (so : SetupOk S) (ok : StayOk S t) : 0 ≤ rooms S t ∧ rooms S t ≤ 4 := by
  obtain ⟨o1, o2, _⟩ := ok
  have hk : t.1.toNat < S.rooms.length := by omega
  have : rooms S t = S.rooms[t.1.toNat] := by unfold rooms; rw [List.getD_eq_getElem?_getD, List.getElem?_eq_getElem hk]; rfl
  rw [this]; exact so.rm _ (List.getElem_mem hk)
def P_Lgiven (K : PySem.W.Frag) (A : Ad) (x0 x1 x2 x3 : V) (H : Hp) (Q : VK) : Prop := ∃ (d l p : Addr) (xs : List V) (S : Setup) (ss : List Stay) (night : Int), x0 = .ref d ∧ x2 = .ref p ∧ x3 = .int night ∧ Draws H d l ∧ Da H x1 (setupD S) ∧ SetupOk S ∧ p ≠ d ∧ H p = some (.lst xs) ∧ DaL H xs (ss.map stayD) ∧ ss.length ≤ 100 ∧ (∀ s ∈ ss, StayOk S s) ∧ Fits S ss ∧
  ∀ (q : Addr) (R : List (Option Int)) (H' : Hp), H q = none → Fr [d] H H' → Draws H' d l → H' q = some (.lst (R.map optV)) → Given S ss night R → Q (.ref q) H'
def sp_Lgiven (K : PySem.W.Frag) (A : Ad) : Sp := fun vs H Q _ => ∃ x0 x1 x2 x3, vs = [x0, x1, x2, x3] ∧ P_Lgiven K A x0 x1 x2 x3 H Q
theorem c_Lgiven {K : PySem.W.Frag} {A : Ad} {x0 x1 x2 x3 : V} {H : Hp} {Q : VK} {E : XK} (h : P_Lgiven K A x0 x1 x2 x3 H Q) : sp_Lgiven K A [x0, x1, x2, x3] H Q E := ⟨_, _, _, _, rfl, h⟩
theorem sc_Lgiven : FnScope ["_law_draws", "_law_setup_here", "_law_stays_here", "_law_night", "_law_rooms", "_law_k", "_law_taken", "_law_free", "_law_stay_here", "_law_j", "_law_room"] ["_law_draws", "_law_setup_here", "_law_stays_here", "_law_night"] (defScope s_Lgiven) := ⟨rfl, rfl, rfl, by decide +kernel, rfl, by decide +kernel, by decide +kernel⟩
def t_Lgiven (K : PySem.W.Frag) (A : Ad) : TS :=
  (tSeq (tAsg (tLc (iList K (tVar 2)) (gName 8) tYes (tC .non) [8]) (gName 4))
    (tSeq (tFor (iList K (tCl (sp_Lorder K A) (tCons (tVar 2) tNil))) (gName 5) (tIfS (tTest (tOp cLe (tOp (rIxT K) (tOp (rIxL K) (tVar 2) (tVar 5)) (tC (.int 1))) (tVar 3))) (tSeq (tAsg (tLc (iRng1 (tCons (tCB (rLenSq K) (tCons (tVar 2) tNil)) tNil)) (gName 9) (tAnd (tTest (tOp rIsNotNon (tOp (rIxL K) (tVar 4) (tVar 9)) (tC .non))) (tB (tCl (sp_Lmeet K A) (tCons (tOp (rIxL K) (tVar 2) (tVar 9)) (tCons (tOp (rIxL K) (tVar 2) (tVar 5)) tNil))))) (tOp (rIxL K) (tVar 4) (tVar 9)) [9]) (gName 6))
    (tSeq (tAsg (tLc (iRng1 (tCons (tOp (rIxT K) (tOp (rIxT K) (tVar 1) (tC (.int 0))) (tOp (rIxT K) (tOp (rIxL K) (tVar 2) (tVar 5)) (tC (.int 0)))) tNil)) (gName 10) (tTest (tOp (rIn K true) (tVar 10) (tVar 6))) (tVar 10) [10]) (gName 7))
    (tAsg (tOp (rIxL K) (tVar 7) (tOp oMod (tCl (sp_Ldraw K A) (tCons (tVar 0) tNil)) (tCB (rLenSq K) (tCons (tVar 7) tNil)))) (gSub (tVar 4) (tVar 5) rSetL)))) tNext))
    (tRet (tVar 4))))
theorem pu_Lgiven (T : Txt K mg A) {x0 x1 x2 x3 : V} {H : Hp} {Q : VK} (h : P_Lgiven K A x0 x1 x2 x3 H Q) : t_Lgiven K A { nx := fun _ H' => Q .non H', rt := Q } [some x0, some x1, some x2, some x3, none, none, none, none, none, none, none] H := by
  obtain ⟨d, l, p, xs, S, ss, night, rfl, rfl, rfl, D0, dS, so, npd, ep, ds, hl, ok, F, k⟩ := h
  obtain ⟨s, r, pp, ps, sa⟩ := SetAt.of dS
  cases sa.e
  have e0 := sa.t
  have er := sa.r
  have hxl : xs.length = ss.length := by rw [ds.len, List.length_map]
  unfold t_Lgiven
  walk_at "go"
  refine l_list (xs := xs) fun f H1 nf f1 e1 => ⟨fun i acc H' => Fr [] H H' ∧ acc = ((ss.take i).map fun _ => (none : Option Int)).map optV, ⟨f1, rfl⟩, fun i acc H' ⟨f2, _⟩ => SqL.of (f2.at0 ep), fun i x acc H' hx ha ⟨f2, hacc⟩ => ?_, fun acc H1 e1 ⟨f1, hacc⟩ => ?_⟩
  · obtain ⟨u, b, hu, rfl, eb, du⟩ := stays_get ds hx
    have hal : acc.length ≤ 100 := by rw [hacc, List.length_map, List.length_map, List.length_take]; omega
    walk_at "go"
    refine ⟨rfl, ?_⟩
    walk_at "go"
    refine lcY_of ha (by walk_at "sz") fun H11 f11 e11 => ⟨f2.own1 f11 nf, ?_⟩
    rw [take_more hu, List.map_append, List.map_append, hacc]; rfl
  rw [hxl, List.take_length] at hacc
  subst hacc
  walk_at "go"
  refine c_Lorder ⟨p, xs, ss, rfl, f1.at0 ep, DaL.frL f1 ds (imm_stays ss), hl, fun q H2 n2 f2 e2 => ?_⟩
  have F2 : Fr [] H H2 := f1.then0 f2
  have nqf : q ≠ f := fun z => by rw [z, e1] at n2; cases n2
  have e2f := f2.at0 e1
  have D2 : Draws H2 d l := D0.fr F2 nin0 nin0
  have nfd : f ≠ d := (D0.new1 nf).symm
  have nfl : f ≠ l := (D0.new2 nf).symm
  have nqd : q ≠ d := ((D0.fr f1 nin0 nin0).new1 n2).symm
  have hol : (ord ss (List.range ss.length)).length = ss.length := by rw [(ord_perm ss _).length_eq, List.length_range]
  walk_at "go"
  refine f_list (xs := (ord ss (List.range ss.length)).map fun k => V.int (k : Nat)) (fun i σ H' => ∃ (v5 v6 v7 v8 v9 v10 : Option V) (R : List (Option Int)), σ = [some (.ref d), some (.ref s), some (.ref p), some (.int night), some (.ref f), v5, v6, v7, v8, v9, v10] ∧ Fr [f, d] H2 H' ∧ Draws H' d l ∧ H' f = some (.lst (R.map optV)) ∧ GI S ss night i R) ⟨_, _, _, _, _, _, _, rfl, Fr.refl, D2, e2f, GI.start S ss night⟩ (fun i σ H' _ ⟨_, _, _, _, _, _, _, _, f9, _⟩ => SqL.of (f9.at e2 (nin1 nqf (nin1 nqd nin0)))) ?_ ?_
  · rintro i x σ H9 hx ⟨v5, v6, v7, v8, v9, v10, Rc, rfl, f9, D9, e9, gi⟩
    have hi : i < (ord ss (List.range ss.length)).length := by have := (List.getElem?_eq_some_iff.mp hx).1; rwa [List.length_map] at this
    have hn : (ord ss (List.range ss.length))[i]? = some (ord ss (List.range ss.length))[i] := List.getElem?_eq_getElem hi
    rw [List.getElem?_map, hn] at hx
    cases hx
    generalize (ord ss (List.range ss.length))[i] = n at hn
    obtain ⟨hnl, fne⟩ := gi.free F ok hn
    have hRcl := gi.g.len
    obtain ⟨b, hxb, eb, db⟩ := stays_at ds hnl
    have okn := ok _ (stG_mem hnl)
    have gskip := gi.skip hn
    have gmore := fun hle r => gi.more (r := r) hn hnl hle
    have FF : Fr [d] H H9 := (F2.of0.own f9 (frn1 (.inr nf) (frn1 (.inl (by simp)) frn0)))
    have ep9 : H9 p = some (.lst xs) := FF.at ep (nin1 npd nin0)
    have eb9 := FF.tup _ _ eb
    generalize ht : stG ss n = t at *
    have rng0 := rooms_le so okn
    walk_at "go"
    refine g_ixL (SqL.of ep9) (atI_nat hxb) ?_
    walk_at "go"
    refine g_ite (fun c => ?_) (fun c => ?_)
    · walk_at "go"
      refine l_range (lo := 0) (n := ((xs.length : Nat) : Int).toNat) fun Dl H10 nD f10 e10 => ⟨fun m acc H' => Fr [] H9 H' ∧ acc = (tkn ss Rc t m).map V.int, ⟨f10, rfl⟩, fun m acc H' hm ha ⟨f11, hacc⟩ => ?_, fun acc H11 ha ⟨f11, hacc⟩ => ?_⟩
      · have hm' : m < ss.length := by omega
        obtain ⟨c', hxc, ec, dc⟩ := stays_at ds hm'
        have FG := FF.then0 f11
        have ep11 := f11.at0 ep9
        have e11 := f11.at0 e9
        have tm := tkn_more (ss := ss) (R := Rc) (t := t) (i := m)
        have htl := tkn_len (ss := ss) (R := Rc) (t := t) (i := m)
        have hal : acc.length ≤ 100 := by rw [hacc, List.length_map]; omega
        have om := opt_at (R := Rc) (i := m) (by omega)
        generalize ho : rmG Rc m = o at *
        have iom : atI (Rc.map optV) (0 + (m : Int)) = some (optV o) := by rw [Int.zero_add]; exact atI_nat om
        have ixm : atI xs (0 + (m : Int)) = some (.ref c') := by rw [Int.zero_add]; exact atI_nat hxc
        walk_at "go"
        refine ⟨rfl, ?_⟩
        walk_at "go"
        refine g_ixL (SqL.of e11) iom ?_
        walk_at "go"
        cases o with
        | none =>
          refine g_iteN (fun c => absurd rfl c) (fun _ => ?_)
          walk_at "go"
          refine lcN_of ha ⟨f11, ?_⟩
          rw [tm, hacc]; simp
        | some z =>
          refine g_iteN (fun _ => ?_) (fun c => by cases c)
          walk_at "go"
          refine g_ixL (SqL.of ep11) ixm ?_
          walk_at "go"
          refine g_ixL (SqL.of ep11) (atI_nat hxb) ?_
          walk_at "go"
          refine c_Lmeet ⟨stG ss m, t, Da.frL FG dc rfl, Da.frL FG db rfl, ?_⟩
          by_cases c : meetB (stG ss m) t = true
          · rw [c]
            walk_at "go"
            refine g_ixL (SqL.of e11) iom ?_
            refine lcY_of ha (by walk_at "sz") fun H13 f13 e13 => ⟨f11.own1 f13 nD, ?_⟩
            rw [tm, hacc]
            simp [c, optV]
          · rw [(by simpa using c : meetB (stG ss m) t = false)]
            walk_at "go"
            refine lcN_of ha ⟨f11, ?_⟩
            rw [tm, hacc]
            simp [c]
      have hm : ((xs.length : Nat) : Int).toNat = ss.length := by omega
      rw [hm] at hacc
      subst hacc
      have FG := FF.then0 f11
      have e0' := FG.tup _ _ e0
      have er' := FG.tup _ _ er
      have ep' := f11.at0 ep9
      have eb' := f11.tup _ _ eb9
      have e11f := f11.at0 e9
      walk_at "go"
      refine g_ixL (SqL.of ep') (atI_nat hxb) ?_
      walk_at "go"
      refine g_ixT (SqT.of er') (room_at okn) ?_
      walk_at "go"
      refine l_range (lo := 0) (n := (rooms S t).toNat) fun Dm H12 nM f12 e12 => ⟨fun m acc H' => Fr [] H11 H' ∧ acc = (free (tkn ss Rc t ss.length) m).map V.int, ⟨f12, rfl⟩, fun m acc H' hm ha' ⟨f13, hacc'⟩ => ?_, fun acc H13 ha' ⟨f13, hacc'⟩ => ?_⟩
      · have hal : acc.length ≤ 100 := by rw [hacc', List.length_map]; have := free_len (tkn ss Rc t ss.length) m; omega
        have e13 := f13.at0 ha
        walk_at "go"
        refine ⟨rfl, ?_⟩
        walk_at "go"
        refine g_iteN (fun c => ?_) (fun c => ?_)
        · walk_at "go"
          refine lcY_of ha' (by walk_at "sz") fun H14 f14 e14 => ⟨f13.own1 f14 nM, ?_⟩
          rw [Int.zero_add] at c ⊢
          rw [free_more, if_pos c, List.map_append, hacc']; rfl
        · refine lcN_of ha' ⟨f13, ?_⟩
          rw [Int.zero_add] at c
          rw [free_more, if_neg (by simpa using c), List.append_nil]; exact hacc'
      · subst hacc'
        have e13f := f13.at0 e11f
        have D13 : Draws H13 d l := (D9.fr f11 nin0 nin0).fr f13 nin0 nin0
        have nMd : Dm ≠ d := ((D9.fr f11 nin0 nin0).new1 nM).symm
        generalize hfr : free (tkn ss Rc t ss.length) (rooms S t).toNat = fr at *
        have hpos : 0 < fr.length := List.length_pos_iff.mpr fne
        walk_at "go"
        rename_i z H14 z0 z1 f14 D14
        have ha14 := f14.at ha' (nin1 nMd nin0)
        walk_at "go"
        rw [List.length_map]
        have g0 := Int.emod_nonneg z (show ((fr.length : Nat) : Int) ≠ 0 by omega)
        have g1 := Int.emod_lt_of_pos z (show 0 < ((fr.length : Nat) : Int) by omega)
        obtain ⟨v, hv, hmem⟩ := atI_mem (xs := fr.map V.int) g0 (by rw [List.length_map]; exact g1)
        obtain ⟨rm, hrm, rfl⟩ := List.mem_map.mp hmem
        refine g_ixL (SqL.of ha14) hv ?_
        walk_at "go"
        have e14f := f14.at e13f (nin1 nfd nin0)
        refine g_setL e14f (j := n) (Evl.ixN_nat (by rw [List.length_map]; omega)) fun H15 f15 e15 => ?_
        walk_at "go"
        refine ⟨_, _, _, _, _, _, Rc.set n (some rm), rfl, ((((f9.then0 f11).then0 f13).trans f14).trans f15).mono (by intro x hx; simp only [List.mem_append, List.mem_cons, List.not_mem_nil, or_false] at hx ⊢; rcases hx with ((h | h) | h) | h <;> simp [h]), D14.fr f15 (nin1 nfd.symm nin0) (nin1 nfl.symm nin0), by rw [e15, opts_set], gmore c rm hrm⟩
    · walk_at "go"
      exact ⟨_, _, _, _, _, _, Rc, rfl, f9, D9, e9, gskip c⟩
  · rintro σ H9 ⟨v5, v6, v7, v8, v9, v10, R, rfl, f9, D9, e9, gi⟩
    rw [List.length_map, hol] at gi
    walk_at "go"
    exact k f R H9 nf (F2.of0.own f9 (frn1 (.inr nf) (frn1 (.inl (by simp)) frn0))) D9 e9 gi.fin
theorem ok_Lgiven {f : Addr} {fd : FuncData} (F : Fun K "_law_given" "_law_given" s_Lgiven f fd) (T : Txt K mg A) (c_Lorder : Cal P w K mg base "_law_order" 1 ["_law_stays_here"] (sp_Lorder K A)) (c_Ldraw : Cal P w K mg base "_law_draw" 2 ["_law_draws"] (sp_Ldraw K A)) (c_Lmeet : Cal P w K mg base "_law_meet" 1 ["_law_first", "_law_second"] (sp_Lmeet K A)) : FnOk P w K mg base CX0 (3) f fd ["_law_draws", "_law_setup_here", "_law_stays_here", "_law_night"] (sp_Lgiven K A) := by
  refine F.ok sc_Lgiven (fun vs H Q E h => ?_) (fun cdv Ar outer s H vs Q E hr h => ⟨t_Lgiven K A, ?_, ?_⟩)
  · obtain ⟨x0, x1, x2, x3, rfl, _⟩ := h
    rfl
  · have hu := hu_of hr
    exact (pss_cons (ps_set (i := 4) sc_Lgiven.nd rfl (Or.inr rfl) (pe_lc (own := [("_law_stay_here", 8)]) (g := (gName 8)) (tt := tYes) rfl sc_Lgiven.nd (pi_list (pv 2)) (blkOk_by (N := ["_law_draws", "_law_setup_here", "_law_stays_here", "_law_night", "_law_rooms", "_law_k", "_law_taken", "_law_free", "_law_stay_here", "_law_j", "_law_room"]) (sc := defScope s_Lgiven) (own := [("_law_stay_here", 8)]) (by decide +kernel)) (fun _ _ _ _ _ => (pg_name (i := 8) sc_Lgiven.nd rfl (Or.inl rfl))) (fun _ _ _ _ _ => pts_nil) (fun _ _ _ _ _ => pe_non)))
    (pss_cons (ps_for PassesOwn.never rfl (pi_list (pe_cl c_Lorder (hr.mono (by first | decide | omega)) (by rfl) (pa_cons (pv 2) pa_nil))) (pg_name (i := 5) sc_Lgiven.nd rfl (Or.inr rfl)) (pss_one (ps_if (pt_cmpR c_le (pe_ix ix_tup (pe_ix ix_list (pv 2) (pv 5) (fun _ _ => rfl)) pe_int (fun _ _ => rfl)) (pv 3) (nomark _)) (pss_cons (ps_set (i := 6) sc_Lgiven.nd rfl (Or.inr rfl) (pe_lc (own := [("_law_j", 9)]) (g := (gName 9)) (tt := (tAnd (tTest (tOp rIsNotNon (tOp (rIxL K) (tVar 4) (tVar 9)) (tC .non))) (tB (tCl (sp_Lmeet K A) (tCons (tOp (rIxL K) (tVar 2) (tVar 9)) (tCons (tOp (rIxL K) (tVar 2) (tVar 5)) tNil)))))) rfl sc_Lgiven.nd (pi_range1 rfl T.b_range (pa_cons (pe_callB b_len (by rfl) T.b_len (by decide +kernel) (pa_cons (pv 2) pa_nil)) pa_nil)) (blkOk_by (N := ["_law_draws", "_law_setup_here", "_law_stays_here", "_law_night", "_law_rooms", "_law_k", "_law_taken", "_law_free", "_law_stay_here", "_law_j", "_law_room"]) (sc := defScope s_Lgiven) (own := [("_law_j", 9)]) (by decide +kernel)) (fun _ _ _ _ _ => (pg_name (i := 9) sc_Lgiven.nd rfl (Or.inl rfl))) (fun _ _ _ _ _ => (pts_one (PW.pt (pw_and (pt_cmpR c_notN (pe_ix ix_list (pv 4) (pv 9) (fun _ _ => rfl)) pe_non (nomark _)) (pw_and1 (pt_val (pe_cl c_Lmeet (hr.mono (by first | decide | omega)) (by rfl) (pa_cons (pe_ix ix_list (pv 2) (pv 9) (fun _ _ => rfl)) (pa_cons (pe_ix ix_list (pv 2) (pv 5) (fun _ _ => rfl)) pa_nil))))))))) (fun _ _ _ _ _ => (pe_ix ix_list (pv 4) (pv 9) (fun _ _ => rfl)))))
    (pss_cons (ps_setLc (i := 7) (own := [("_law_room", 10)]) (g := (gName 10)) (tt := (tTest (tOp (rIn K true) (tVar 10) (tVar 6)))) rfl sc_Lgiven.nd rfl rfl (sw_true rfl rfl rfl (by decide +kernel)) (pi_range1 rfl T.b_range (pa_cons (pe_ix ix_tup (pe_ix ix_tup (pv 1) pe_int (fun _ _ => rfl)) (pe_ix ix_tup (pe_ix ix_list (pv 2) (pv 5) (fun _ _ => rfl)) pe_int (fun _ _ => rfl)) (fun _ _ => rfl)) pa_nil)) (blkOk_by (N := ["_law_draws", "_law_setup_here", "_law_stays_here", "_law_night", "_law_rooms", "_law_k", "_law_taken", "_law_free", "_law_stay_here", "_law_j", "_law_room"]) (sc := defScope s_Lgiven) (own := [("_law_room", 10)]) (by decide +kernel)) (fun _ _ _ _ _ => (pg_name (i := 10) sc_Lgiven.nd rfl (Or.inl rfl))) (fun _ _ _ _ _ => (pts_one (pt_cmpR op_notIn_seq (pv 10) (pv 6) rfl))) (fun _ _ _ _ _ => (pv 10)))
    (pss_one (ps_asg (pe_ix ix_list (pv 7) (pe_op o_mod (pe_cl c_Ldraw (hr.mono (by first | decide | omega)) (by rfl) (pa_cons (pv 0) pa_nil)) (pe_callB b_len (by rfl) T.b_len (by decide +kernel) (pa_cons (pv 7) pa_nil))) (fun _ _ => rfl)) (pg_sub (pv 4) (pv 5) set_list))))) pss_nil)))
    (pss_one (ps_ret (pv 4)))))
  · obtain ⟨x0, x1, x2, x3, rfl, h⟩ := h
    exact pu_Lgiven T h

def P_Lgood (K : PySem.W.Frag) (A : Ad) (x0 x1 x2 x3 : V) (H : Hp) (Q : VK) : Prop := ∃ (p g : Addr) (xs : List V) (S : Setup) (ss : List Stay) (night : Int) (G : List Gv), x1 = .ref p ∧ x2 = .int night ∧ x3 = .ref g ∧ Da H x0 (setupD S) ∧ SetupOk S ∧ H p = some (.lst xs) ∧ DaL H xs (ss.map stayD) ∧ ss.length ≤ 100 ∧ (∀ s ∈ ss, StayOk S s) ∧
  H g = some (.lst (G.map gV)) ∧ G.length = ss.length ∧ ∀ b H', (b = true ↔ Fits S ss ∧ goodG S ss night G = true) → Fr [] H H' → Q (.bl b) H'
def sp_Lgood (K : PySem.W.Frag) (A : Ad) : Sp := fun vs H Q _ => ∃ x0 x1 x2 x3, vs = [x0, x1, x2, x3] ∧ P_Lgood K A x0 x1 x2 x3 H Q
theorem c_Lgood {K : PySem.W.Frag} {A : Ad} {x0 x1 x2 x3 : V} {H : Hp} {Q : VK} {E : XK} (h : P_Lgood K A x0 x1 x2 x3 H Q) : sp_Lgood K A [x0, x1, x2, x3] H Q E := ⟨_, _, _, _, rfl, h⟩
theorem sc_Lgood : FnScope ["_law_setup_here", "_law_stays_here", "_law_night", "_law_given_here", "_law_k", "_law_j"] ["_law_setup_here", "_law_stays_here", "_law_night", "_law_given_here"] (defScope s_Lgood) := ⟨rfl, rfl, rfl, by decide +kernel, rfl, by decide +kernel, by decide +kernel⟩
def t_Lgood (K : PySem.W.Frag) (A : Ad) : TS :=
  (tSeq (tIfS (tNot (tB (tCl (sp_Lfits K A) (tCons (tVar 0) (tCons (tVar 1) tNil))))) (tRet (tC (.bl false))) tNext)
    (tSeq (tFor (iRng1 (tCons (tCB (rLenSq K) (tCons (tVar 1) tNil)) tNil)) (gName 4) (tSeq (tIfS (tTest (tOp rNe (tOp rIsNon (tOp (rIxL K) (tVar 3) (tVar 4)) (tC .non)) (tOp cGt (tOp (rIxT K) (tOp (rIxL K) (tVar 1) (tVar 4)) (tC (.int 1))) (tVar 2)))) (tRet (tC (.bl false))) tNext)
    (tSeq (tIfS (tB (tCB (rIsi K) (tCons (tOp (rIxL K) (tVar 3) (tVar 4)) (tCons (tC (.ty "bool")) tNil)))) (tRet (tC (.bl false))) tNext)
    (tSeq (tIfS (tAnd (tTest (tOp rIsNotNon (tOp (rIxL K) (tVar 3) (tVar 4)) (tC .non))) (tOr (tTest (tOp cLt (tOp (rIxL K) (tVar 3) (tVar 4)) (tC (.int 0)))) (tTest (tOp cGe (tOp (rIxL K) (tVar 3) (tVar 4)) (tOp (rIxT K) (tOp (rIxT K) (tVar 0) (tC (.int 0))) (tOp (rIxT K) (tOp (rIxL K) (tVar 1) (tVar 4)) (tC (.int 0)))))))) (tRet (tC (.bl false))) tNext)
    (tFor (iRng1 (tCons (tVar 4) tNil)) (gName 5) (tIfS (tAnd (tTest (tOp rIsNotNon (tOp (rIxL K) (tVar 3) (tVar 5)) (tC .non))) (tAnd (tTest (tOp rEq (tOp (rIxL K) (tVar 3) (tVar 5)) (tOp (rIxL K) (tVar 3) (tVar 4)))) (tB (tCl (sp_Lmeet K A) (tCons (tOp (rIxL K) (tVar 1) (tVar 5)) (tCons (tOp (rIxL K) (tVar 1) (tVar 4)) tNil)))))) (tRet (tC (.bl false))) tNext))))))
    (tRet (tC (.bl true)))))
theorem pu_Lgood (T : Txt K mg A) {x0 x1 x2 x3 : V} {H : Hp} {Q : VK} (h : P_Lgood K A x0 x1 x2 x3 H Q) : t_Lgood K A { nx := fun _ H' => Q .non H', rt := Q } [some x0, some x1, some x2, some x3, none, none] H := by
  obtain ⟨p, g, xs, S, ss, night, G, rfl, rfl, rfl, dS, so, ep, ds, hl, ok, eg, hRl, k⟩ := h
  have hxl : xs.length = ss.length := by rw [ds.len, List.length_map]
  unfold t_Lgood
  walk_at "go"
  refine c_Lfits ⟨p, xs, S, ss, rfl, dS, so, ep, ds, hl, fun b H1 hb f1 => ?_⟩
  walk_at "go"
  refine g_iteNB (fun c => ?_) (fun c => ?_)
  · walk_at "go"
    exact k false H1 ⟨fun z => (by cases z), fun z => absurd (hb.mpr z.1) (by rw [c]; decide)⟩ f1
  have F := hb.mp c
  obtain ⟨s, r, pp, ps, sa⟩ := SetAt.of dS
  cases sa.e
  have e0 := sa.t
  have er := sa.r
  clear hb
  have ep1 := f1.at0 ep
  walk_at "go"
  have hn : ((xs.length : Nat) : Int).toNat = ss.length := by omega
  refine f_range (lo := 0) (n := ((xs.length : Nat) : Int).toNat) (fun i σ H' => ∃ v4 v5, σ = [some (.ref s), some (.ref p), some (.int night), some (.ref g), v4, v5] ∧ Fr [] H H' ∧ ∀ k, k < i → okK S ss night G k = true) ⟨_, _, rfl, f1, fun _ h => absurd h (by omega)⟩ ?_ ?_
  · rintro i σ H2 hi ⟨v4, v5, rfl, f2, hok⟩
    have hi : i < ss.length := by omega
    obtain ⟨a, hxa, ea, da⟩ := stays_at ds hi
    have oks := ok _ (stG_mem hi)
    have ea2 := f2.tup _ _ ea
    have er2 := f2.tup _ _ er
    have e02 := f2.tup _ _ e0
    have eg2 := f2.at0 eg
    have ep2 := f2.at0 ep
    have oat : atI (G.map gV) (0 + (i : Int)) = some (gV (gG G i)) := by rw [Int.zero_add]; exact atI_nat (gG_at (G := G) (i := i) (by omega))
    have xat : atI xs (0 + (i : Int)) = some (.ref a) := by rw [Int.zero_add]; exact atI_nat hxa
    have bad : okK S ss night G i = false → Q (.bl false) H2 := fun h => k false H2 ⟨fun z => (by cases z), fun z => by rw [good_no hi h] at z; cases z.2⟩ f2
    have step : okK S ss night G i = true → ∀ k, k < i + 1 → okK S ss night G k = true := fun h k hk => by
      by_cases z : k = i
      · rw [z]; exact h
      · exact hok k (by omega)
    have on := okK_n (S := S) (ss := ss) (night := night) (G := G) (k := i)
    have ob := fun x => okK_b (S := S) (ss := ss) (night := night) (G := G) (k := i) (x := x)
    have oi := fun x => okK_i (S := S) (ss := ss) (night := night) (G := G) (k := i) (z := x)
    have cl := fun j a b => clash_i (ss := ss) (G := G) (j := j) (k := i) (a := a) (b := b)
    have cn := fun j => clash_n (ss := ss) (G := G) (j := j) (k := i)
    generalize ho : gG G i = o at on ob oi oat cl
    generalize hs : stG ss i = st at *
    clear f1 ep1
    walk_at "go"
    refine g_ixL (SqL.of eg2) oat ?_
    walk_at "go"
    refine g_ixL (SqL.of ep2) xat ?_
    cases o with
    | n =>
      have on2 := on rfl
      walk_at "go"
      refine g_iteN (fun c => ?_) (fun c => ?_)
      · walk_at "go"
        refine bad ?_
        rw [on2]
        refine decide_eq_false fun z => c ?_
        rw [decide_eq_true z]; rfl
      have c2 : true = decide (night < st.2.1) := c
      walk_at "go"
      refine g_ixL (SqL.of eg2) oat ?_
      walk_at "go"
      refine g_ixL (SqL.of eg2) oat ?_
      walk_at "go"
      refine g_iteN (fun c => absurd rfl c) (fun _ => ?_)
      walk_at "go"
      rw [show (0 + (i : Int)).toNat = i by omega]
      refine f_range (lo := 0) (n := i) (fun j σ H' => ∃ v5, σ = [some (.ref s), some (.ref p), some (.int night), some (.ref g), some (.int (0 + (i : Int))), v5] ∧ H' = H2) ⟨_, rfl, rfl⟩ ?_ ?_
      · rintro j σ H' hj ⟨v5, rfl, rfl⟩
        have hokj := hok j hj
        have ojb := fun x => okK_b (S := S) (ss := ss) (night := night) (G := G) (k := j) (x := x)
        have ojat : atI (G.map gV) (0 + (j : Int)) = some (gV (gG G j)) := by rw [Int.zero_add]; exact atI_nat (gG_at (G := G) (i := j) (by omega))
        generalize hoj : gG G j = oj at ojat ojb
        walk_at "go"
        refine g_ixL (SqL.of eg2) ojat ?_
        cases oj with
        | b x =>
          rw [ojb x rfl] at hokj
          cases hokj
        | n =>
          walk_at "go"
          refine g_iteN (fun c => absurd rfl c) (fun _ => ?_)
          walk_at "go"
          exact ⟨_, rfl, rfl⟩
        | i w =>
          walk_at "go"
          refine g_iteN (fun _ => ?_) (fun c => by cases c)
          walk_at "go"
          refine g_ixL (SqL.of eg2) ojat ?_
          walk_at "go"
          refine g_ixL (SqL.of eg2) oat ?_
          refine ⟨rfl, ?_⟩
          walk_at "go"
          exact ⟨_, rfl, rfl⟩
      · rintro σ H' ⟨v5, rfl, rfl⟩
        exact ⟨_, _, rfl, f2, step (by rw [on2]; exact c2.symm)⟩
    | b x =>
      have ob2 := ob x rfl
      walk_at "go"
      refine g_iteN (fun c => ?_) (fun c => ?_)
      · walk_at "go"
        exact bad ob2
      walk_at "go"
      refine g_ixL (SqL.of eg2) oat ?_
      walk_at "go"
      exact bad ob2
    | i q =>
      have oi2 := oi q rfl
      walk_at "go"
      refine g_iteN (fun c => ?_) (fun c => ?_)
      · walk_at "go"
        refine bad ?_
        rw [oi2]
        have : night < st.2.1 := Classical.byContradiction fun z => c (by rw [decide_eq_false z]; rfl)
        rw [decide_eq_true this]; rfl
      have c2 : false = decide (night < st.2.1) := c
      rw [← c2, Bool.not_false, Bool.true_and] at oi2
      walk_at "go"
      refine g_ixL (SqL.of eg2) oat ?_
      walk_at "go"
      refine g_ixL (SqL.of eg2) oat ?_
      walk_at "go"
      refine g_iteN (fun _ => ?_) (fun c => by cases c)
      walk_at "go"
      refine g_ixL (SqL.of eg2) oat ?_
      refine g_c ?_
      refine g_lt ?_
      walk_at "go"
      refine g_ite (fun c3 => ?_) (fun c3 => ?_)
      · walk_at "go"
        refine bad ?_
        rw [oi2, decide_eq_false (show ¬ 0 ≤ q by omega)]; rfl
      walk_at "go"
      refine g_ixL (SqL.of eg2) oat ?_
      walk_at "go"
      refine g_ixL (SqL.of ep2) xat ?_
      walk_at "go"
      refine g_ixT (SqT.of er2) (room_at oks) ?_
      refine g_ge ?_
      walk_at "go"
      refine g_ite (fun c4 => ?_) (fun c4 => ?_)
      · walk_at "go"
        refine bad ?_
        rw [oi2, decide_eq_false (show ¬ q ≤ rooms S st - 1 by omega), Bool.and_false]; rfl
      rw [decide_eq_true (show 0 ≤ q by omega), decide_eq_true (show q ≤ rooms S st - 1 by omega), Bool.and_self, Bool.true_and] at oi2
      walk_at "go"
      rw [show (0 + (i : Int)).toNat = i by omega]
      refine f_range (lo := 0) (n := i) (fun j σ H' => ∃ v5, σ = [some (.ref s), some (.ref p), some (.int night), some (.ref g), some (.int (0 + (i : Int))), v5] ∧ Fr [] H H' ∧ ∀ m, m < j → clash ss G m i = false) ⟨_, rfl, f2, fun _ h => absurd h (by omega)⟩ ?_ ?_
      · rintro j σ H3 hj ⟨v5, rfl, f3, hc⟩
        obtain ⟨b, hb, eb, db⟩ := stays_at ds (show j < ss.length by omega)
        have hokj := hok j hj
        have more : clash ss G j i = false → ∀ m, m < j + 1 → clash ss G m i = false := fun h m hm => by
          by_cases z : m = j
          · rw [z]; exact h
          · exact hc m (by omega)
        have cn := cn j
        have cl := fun a => cl j a q
        have ojb := fun x => okK_b (S := S) (ss := ss) (night := night) (G := G) (k := j) (x := x)
        have ojat : atI (G.map gV) (0 + (j : Int)) = some (gV (gG G j)) := by rw [Int.zero_add]; exact atI_nat (gG_at (G := G) (i := j) (by omega))
        have xjat : atI xs (0 + (j : Int)) = some (.ref b) := by rw [Int.zero_add]; exact atI_nat hb
        generalize hoj : gG G j = oj at ojat cn cl ojb
        have eg3 := f3.at0 eg
        have ep3 := f3.at0 ep
        walk_at "go"
        refine g_ixL (SqL.of eg3) ojat ?_
        cases oj with
        | b x =>
          rw [ojb x rfl] at hokj
          cases hokj
        | n =>
          have cn2 := cn rfl
          walk_at "go"
          refine g_iteN (fun c => absurd rfl c) (fun _ => ?_)
          walk_at "go"
          exact ⟨_, rfl, f3, more cn2⟩
        | i w =>
          have cl2 := cl w rfl rfl
          walk_at "go"
          refine g_iteN (fun _ => ?_) (fun c => by cases c)
          walk_at "go"
          refine g_ixL (SqL.of eg3) ojat ?_
          walk_at "go"
          refine g_ixL (SqL.of eg3) oat ?_
          refine g_eqI ?_
          walk_at "go"
          refine g_ite (fun c => ?_) (fun c => ?_)
          · rw [decide_eq_true c, Bool.true_and] at cl2
            walk_at "go"
            refine g_ixL (SqL.of ep3) xjat ?_
            walk_at "go"
            refine g_ixL (SqL.of ep3) xat ?_
            walk_at "go"
            refine c_Lmeet ⟨stG ss j, st, Da.frL f3 db rfl, Da.frL f3 da rfl, ?_⟩
            rw [← cl2]
            walk_at "go"
            refine g_iteB (fun c => ?_) (fun c => ?_)
            · walk_at "go"
              refine k false H3 ⟨fun z => (by cases z), fun z => ?_⟩ f3
              have bad2 : okK S ss night G i = false := by
                rw [oi2]
                exact List.all_eq_false.mpr ⟨j, List.mem_range.mpr hj, by rw [c]; decide⟩
              rw [good_no hi bad2] at z
              cases z.2
            · walk_at "go"
              exact ⟨_, rfl, f3, more c⟩
          · rw [decide_eq_false c, Bool.false_and] at cl2
            walk_at "go"
            exact ⟨_, rfl, f3, more cl2⟩
      · rintro σ H3 ⟨v5, rfl, f3, hc⟩
        refine ⟨_, _, rfl, f3, step ?_⟩
        rw [oi2]
        exact List.all_eq_true.mpr fun j hj => by rw [hc j (List.mem_range.mp hj)]; rfl
  · rintro σ H2 ⟨v4, v5, rfl, f2, hok⟩
    walk_at "go"
    rw [hn] at hok
    exact k true H2 ⟨fun _ => ⟨F, good_yes hRl hok⟩, fun _ => rfl⟩ f2
theorem ok_Lgood {f : Addr} {fd : FuncData} (F : Fun K "_law_good" "_law_good" s_Lgood f fd) (T : Txt K mg A) (c_Lfits : Cal P w K mg base "_law_fits" 1 ["_law_setup_here", "_law_stays_here"] (sp_Lfits K A)) (c_Lmeet : Cal P w K mg base "_law_meet" 1 ["_law_first", "_law_second"] (sp_Lmeet K A)) : FnOk P w K mg base CX0 (2) f fd ["_law_setup_here", "_law_stays_here", "_law_night", "_law_given_here"] (sp_Lgood K A) := by
  refine F.ok sc_Lgood (fun vs H Q E h => ?_) (fun cdv Ar outer s H vs Q E hr h => ⟨t_Lgood K A, ?_, ?_⟩)
  · obtain ⟨x0, x1, x2, x3, rfl, _⟩ := h
    rfl
  · have hu := hu_of hr
    exact (pss_cons (ps_if (pt_not (pt_val (pe_cl c_Lfits (hr.mono (by first | decide | omega)) (by rfl) (pa_cons (pv 0) (pa_cons (pv 1) pa_nil))))) (pss_one (ps_ret pe_bl)) pss_nil)
    (pss_cons (ps_for PassesOwn.never rfl (pi_range1 rfl T.b_range (pa_cons (pe_callB b_len (by rfl) T.b_len (by decide +kernel) (pa_cons (pv 1) pa_nil)) pa_nil)) (pg_name (i := 4) sc_Lgood.nd rfl (Or.inl rfl)) (pss_cons (ps_if (pt_cmpR op_ne (pe_cmpR c_isN (pe_ix ix_list (pv 3) (pv 4) (fun _ _ => rfl)) pe_non (nomark _)) (pe_cmpR c_gt (pe_ix ix_tup (pe_ix ix_list (pv 1) (pv 4) (fun _ _ => rfl)) pe_int (fun _ _ => rfl)) (pv 2) (nomark _)) (nomark _)) (pss_one (ps_ret pe_bl)) pss_nil)
    (pss_cons (ps_if (pt_val (pe_callB call_isi (by rfl) T.b_isinstance (by decide +kernel) (pa_cons (pe_ix ix_list (pv 3) (pv 4) (fun _ _ => rfl)) (pa_cons (pe_bltn (by rfl) T.b_bool (by decide +kernel) (v := .ty "bool") rfl) pa_nil)))) (pss_one (ps_ret pe_bl)) pss_nil)
    (pss_cons (ps_if (PW.pt (pw_and (pt_cmpR c_notN (pe_ix ix_list (pv 3) (pv 4) (fun _ _ => rfl)) pe_non (nomark _)) (pw_and1 (PW.pt (pw_or (pt_cmpR c_lt (pe_ix ix_list (pv 3) (pv 4) (fun _ _ => rfl)) pe_int (nomark _)) (pw_or1 (pt_cmpR c_ge (pe_ix ix_list (pv 3) (pv 4) (fun _ _ => rfl)) (pe_ix ix_tup (pe_ix ix_tup (pv 0) pe_int (fun _ _ => rfl)) (pe_ix ix_tup (pe_ix ix_list (pv 1) (pv 4) (fun _ _ => rfl)) pe_int (fun _ _ => rfl)) (fun _ _ => rfl)) (nomark _)))))))) (pss_one (ps_ret pe_bl)) pss_nil)
    (pss_one (ps_for PassesOwn.never rfl (pi_range1 rfl T.b_range (pa_cons (pv 4) pa_nil)) (pg_name (i := 5) sc_Lgood.nd rfl (Or.inl rfl)) (pss_one (ps_if (PW.pt (pw_and (pt_cmpR c_notN (pe_ix ix_list (pv 3) (pv 5) (fun _ _ => rfl)) pe_non (nomark _)) (pw_and (pt_cmpR op_eq (pe_ix ix_list (pv 3) (pv 5) (fun _ _ => rfl)) (pe_ix ix_list (pv 3) (pv 4) (fun _ _ => rfl)) (nomark _)) (pw_and1 (pt_val (pe_cl c_Lmeet (hr.mono (by first | decide | omega)) (by rfl) (pa_cons (pe_ix ix_list (pv 1) (pv 5) (fun _ _ => rfl)) (pa_cons (pe_ix ix_list (pv 1) (pv 4) (fun _ _ => rfl)) pa_nil)))))))) (pss_one (ps_ret pe_bl)) pss_nil))))))))
    (pss_one (ps_ret pe_bl))))
  · obtain ⟨x0, x1, x2, x3, rfl, h⟩ := h
    exact pu_Lgood T h

theorem lt_gv {g : Gv} (h : ∀ z, g = .i z → -1 ≤ z ∧ z ≤ 1000) : Lt 41 0 (gD g) := by
  cases g with
  | n => exact ⟨by decide +kernel, by decide +kernel, by decide +kernel⟩
  | b x => cases x <;> exact ⟨by decide +kernel, by decide +kernel, by decide +kernel⟩
  | i z => have := h z rfl; exact Lt.int (by omega)
theorem lt_st {S : Setup} {s : Stay} (so : SetupOk S) (h : StayOk S s) : Lt 200 1 (stayD s) := by
  obtain ⟨q1, q2, q3, q4, q5⟩ := h
  have hk3 := so.k3
  have hn2 := so.n2
  refine (Lt.tup (n := 3) (w := 41) (k := 0) (fun x hx => ?_) (Nat.le_of_ble_eq_true rfl)).mono (by decide) (by decide)
  simp only [List.mem_cons, List.not_mem_nil, or_false] at hx
  rcases hx with rfl | rfl | rfl <;> exact Lt.int (by omega)
theorem dal_gv {H : Hp} : ∀ G : List Gv, DaL H (G.map gV) (G.map gD)
  | [] => .nil
  | g :: G => .cons (da_gv g) (dal_gv G)
theorem imm_gv (G : List Gv) : immL (G.map gD) = true := immL_of fun d hd => by
  obtain ⟨g, _, rfl⟩ := List.mem_map.mp hd
  cases g <;> rfl
def handD (ss : List Stay) (G : List Gv) : PyData := .list [.list (ss.map stayD), .list (G.map gD)]
theorem tidy_hand {S : Setup} {ss : List Stay} {G : List Gv} (so : SetupOk S) (ok : ∀ s ∈ ss, StayOk S s) (hl : ss.length ≤ 100) (hg : G.length ≤ 100) (hz : ∀ g ∈ G, ∀ z, g = .i z → -1 ≤ z ∧ z ≤ 1000) : Tidy (handD ss G) := by
  have l1 : Lt 30000 3 (.list (ss.map stayD)) := (Lt.lst (n := 100) (w := 200) (k := 1) (fun x hx => by obtain ⟨s, hs, rfl⟩ := List.mem_map.mp hx; exact lt_st so (ok s hs)) (by rw [List.length_map]; exact hl)).mono (by decide) (by decide)
  have l2 : Lt 30000 3 (.list (G.map gD)) := (Lt.lst (n := 100) (w := 41) (k := 0) (fun x hx => by obtain ⟨g, hg, rfl⟩ := List.mem_map.mp hx; exact lt_gv (hz g hg)) (by rw [List.length_map]; exact hg)).mono (by decide) (by decide)
  have : Lt 100000 5 (handD ss G) := (Lt.lst (n := 2) (w := 30000) (k := 3) (fun x hx => by
    simp only [List.mem_cons, List.not_mem_nil, or_false] at hx
    rcases hx with rfl | rfl
    · exact l1
    · exact l2) (Nat.le_of_ble_eq_true rfl)).mono (by decide) (by decide)
  exact this.tidy (by decide) (by decide)
theorem housing_one {K : PySem.W.Frag} {A : Ad} {x0 x1 x2 x3 : V} {H : Hp} {Q : VK} {E : XK} (h : ∃ (r p g : Addr) (xs : List V) (S : Setup) (ss : List Stay) (night : Int) (G : List Gv), x0 = .ref r ∧ x1 = .ref p ∧ x2 = .int night ∧ x3 = .ref g ∧ H r = some (.tup (S.rooms.map V.int)) ∧ H p = some (.lst xs) ∧ DaL H xs (ss.map stayD) ∧ ss.length ≤ 100 ∧ SetupOk S ∧ (∀ s ∈ ss, StayOk S s) ∧
  H g = some (.lst (G.map gV)) ∧ (Fits S ss → goodG S ss night G = true → ∀ f H', H f = none → Fr [] H H' → H' f = some (.lst ((housedAll S ss (G.map gO)).map optV)) → Q (.ref f) H') ∧
  (¬ (Fits S ss ∧ goodG S ss night G = true) → ∀ H', Fr [] H H' → E (.ref A.BadStay) none H')) : P_housing K A x0 x1 x2 x3 H Q E := by
  obtain ⟨r, p, g, xs, S, ss, night, G, h1, h2, h3, h4, h5, h6, h7, h8, h9, h10, h11, kq, ke⟩ := h
  exact ⟨r, p, g, xs, S, ss, night, G, h1, h2, h3, h4, h5, h6, h7, h8, h9, h10, h11, kq, fun no => ke fun z => no z.1, fun no => ke fun z => by rw [no] at z; cases z.2⟩
def P_Lrefused (K : PySem.W.Frag) (A : Ad) (x0 x1 x2 x3 : V) (H : Hp) (Q : VK) : Prop := ∃ (p g : Addr) (xs : List V) (S : Setup) (ss : List Stay) (night : Int) (G : List Gv), x1 = .ref p ∧ x2 = .int night ∧ x3 = .ref g ∧ Da H x0 (setupD S) ∧ SetupOk S ∧ H p = some (.lst xs) ∧ DaL H xs (ss.map stayD) ∧ ss.length ≤ 100 ∧ (∀ s ∈ ss, StayOk S s) ∧
  H g = some (.lst (G.map gV)) ∧ G.length ≤ 100 ∧ (∀ g ∈ G, ∀ z, g = .i z → -1 ≤ z ∧ z ≤ 1000) ∧ ∀ b H', (b = true ↔ ¬ (Fits S ss ∧ goodG S ss night G = true)) → Fr [] H H' → Q (.bl b) H'
def sp_Lrefused (K : PySem.W.Frag) (A : Ad) : Sp := fun vs H Q _ => ∃ x0 x1 x2 x3, vs = [x0, x1, x2, x3] ∧ P_Lrefused K A x0 x1 x2 x3 H Q
theorem c_Lrefused {K : PySem.W.Frag} {A : Ad} {x0 x1 x2 x3 : V} {H : Hp} {Q : VK} {E : XK} (h : P_Lrefused K A x0 x1 x2 x3 H Q) : sp_Lrefused K A [x0, x1, x2, x3] H Q E := ⟨_, _, _, _, rfl, h⟩
theorem sc_Lrefused : FnScope ["_law_setup_here", "_law_stays_here", "_law_night", "_law_given_here", "_law_handed", "e"] ["_law_setup_here", "_law_stays_here", "_law_night", "_law_given_here"] (defScope s_Lrefused) := ⟨rfl, rfl, rfl, by decide +kernel, rfl, by decide +kernel, by decide +kernel⟩
def t_Lrefused (K : PySem.W.Frag) (A : Ad) : TS :=
  (tSeq (tAsg (tLst (tCons (tCB (rListOf K) (tCons (tVar 1) tNil)) (tCons (tCB (rListOf K) (tCons (tVar 3) tNil)) tNil))) (gName 4))
    (tSeq (tTryAs K (.ref A.BadStay) 5 (fun W0 => (tDrop (tClX (sp_housing K A) W0 (tCons (tOp (rIxT K) (tVar 0) (tC (.int 0))) (tCons (tOp (rIxL K) (tVar 4) (tC (.int 0))) (tCons (tVar 2) (tCons (tOp (rIxL K) (tVar 4) (tC (.int 1))) tNil)))))))
    (fun a0 cls0 d0 => (tRet (tAndV (tOp rEq (tCB rStrA (tCons (tVar 4) tNil)) (tCB rStrA (tCons (tLst (tCons (tCB (rListOf K) (tCons (tVar 1) tNil)) (tCons (tCB (rListOf K) (tCons (tVar 3) tNil)) tNil))) tNil))) (tAndV (tCB (rIsEd K A.BadStay a0 cls0 d0) (tCons (tVar 5) (tCons (tC (.ref A.ManydoorsError)) tNil))) (tNotV (tCB (rIsETd K A.BadStay a0 cls0 d0) (tCons (tVar 5) (tCons (tTup (tCons (tC (.ref A.BadDeed)) (tCons (tC (.ref A.BadHistory)) (tCons (tC (.ref A.BadLine)) (tCons (tC (.ref A.BadSetup)) (tCons (tC (.ref A.BadText)) tNil)))))) tNil)))))))) (fun _ _ _ _ => False))
    (tRet (tC (.bl false)))))
theorem pu_Lrefused (T : Txt K mg A) {x0 x1 x2 x3 : V} {H : Hp} {Q : VK} (h : P_Lrefused K A x0 x1 x2 x3 H Q) : t_Lrefused K A { nx := fun _ H' => Q .non H', rt := Q } [some x0, some x1, some x2, some x3, none, none] H := by
  obtain ⟨p, g, xs, S, ss, night, G, rfl, rfl, rfl, dS, so, ep, ds, hl, ok, eg, hgl, hz, k⟩ := h
  have hxl : xs.length = ss.length := by rw [ds.len, List.length_map]
  obtain ⟨s, r, pp, ps, sa⟩ := SetAt.of dS
  cases sa.e
  have e0 := sa.t
  have er := sa.r
  unfold t_Lrefused
  walk_at "go"
  rename_i p1 H1 n1 f1 e1 g1 H2 n2 f2 e2 L H3 n3 f3 e3
  have F3 := (f1.then0 f2).then0 f3
  have e13 := (f2.then0 f3).at0 e1
  have e23 := f3.at0 e2
  have e03 := F3.tup _ _ e0
  have er3 := F3.tup _ _ er
  have ep3 := F3.at0 ep
  have eg3 := F3.at0 eg
  have ds3 := DaL.frL F3 ds (imm_stays ss)
  clear f1 f2 f3 e1 e2 n1 n2 n3 dS sa e0 er ep eg ds
  unfold tTryAs
  walk_at "go"
  have td := tidy_hand so ok hl hgl hz
  refine c_housing (housing_one ⟨r, p1, g1, xs, S, ss, night, G, rfl, rfl, rfl, rfl, er3, e13, ds3, hl, so, ok, e23, fun F gg f H4 _ f4 _ => ?_, fun no H4 f4 => ?_⟩)
  · walk_at "go"
    exact k false H4 ⟨fun z => (by cases z), fun z => absurd ⟨F, gg⟩ z⟩ (F3.then0 f4)
  · refine ⟨true, PySem.W.exm_ref T.x_BadStay.s T.ec_BadStay.hd T.x_BadStay.t T.k_self, fun _ a n => ?_, fun z => nomatch z⟩
    have F4 := F3.then0 f4
    have e34 := f4.at0 e3
    have ep4 := f4.at0 ep3
    have eg4 := f4.at0 eg3
    have ds4 := DaL.frL f4 ds3 (imm_stays ss)
    have dh : Da H4 (.ref L) (handD ss G) := .lst e34 (Nat.le_of_ble_eq_true rfl) (.cons (.lst (f4.at0 e13) (by omega) ds4) (.one' (.lst (f4.at0 e23) (by rw [List.length_map]; omega) (dal_gv G))))
    clear e3 e13 e23 e03 er3 ep3 eg3 F3 f4 ds3
    walk_at "go"
    refine g_strA dh td ?_
    walk_at "go"
    rename_i p5 H5 n5 f5 e5 g6 H6 n6 f6 e6 L7 H7 n7 f7 e7
    have F67 := f6.then0 f7
    have F57 := f5.then0 F67
    have dh7 : Da H7 (.ref L7) (handD ss G) := .lst e7 (Nat.le_of_ble_eq_true rfl) (.cons (.lst (F67.at0 e5) (by omega) (DaL.frL F57 ds4 (imm_stays ss))) (.one' (.lst (f7.at0 e6) (by rw [List.length_map]; omega) (dal_gv G))))
    refine g_strA dh7 td ?_
    walk_at "go"
    refine g_iteB (fun _ => ?_) (fun z => absurd (decide_eq_true rfl) (by rw [z]; decide))
    walk_at "go"
    refine ⟨rfl, rfl, g_isE T.k_many ?_⟩
    walk_at "go"
    rename_i t H8 n8 f8 e8
    refine ⟨rfl, rfl, g_isET (cs := [A.BadDeed, A.BadHistory, A.BadLine, A.BadSetup, A.BadText]) e8 T.k_oth ?_⟩
    walk_at "go"
    exact k true H8 ⟨fun _ => no, fun _ => rfl⟩ ((F4.then0 F57).then0 f8)
theorem ok_Lrefused {f : Addr} {fd : FuncData} (F : Fun K "_law_refused" "_law_refused" s_Lrefused f fd) (T : Txt K mg A) (c_housing : CalX P w K mg base "housing" 4 ["rooms", "stays", "night", "given"] (sp_housing K A)) : GFn P w K mg base (5) f fd ["_law_setup_here", "_law_stays_here", "_law_night", "_law_given_here"] (sp_Lrefused K A) := by
  refine Fun.gfn F sc_Lrefused (fun vs H Q E h => ?_) (fun cdv Ar outer s H vs Q E hgd hr h => ⟨t_Lrefused K A, ?_, ?_⟩)
  · obtain ⟨x0, x1, x2, x3, rfl, _⟩ := h
    rfl
  · have hu := hu_of hr
    exact (pss_cons (ps_set (i := 4) sc_Lrefused.nd rfl (Or.inl rfl) (pe_lst (pa_cons (pe_callTy b_list (by rfl) T.b_list (by decide +kernel) (pa_cons (pv 1) pa_nil)) (pa_cons (pe_callTy b_list (by rfl) T.b_list (by decide +kernel) (pa_cons (pv 3) pa_nil)) pa_nil))))
    (pss_cons (ps_try_as rfl rfl sc_Lrefused.nd (i := 5) rfl rfl ⟨by rfl, by decide, .inl T.x_BadStay.g⟩ takes_none5 (fun W0 pn0 xe0 tkW0 pw0 => (pss_one (ps_expr (pe_clX c_housing (hr.mono (by first | decide | omega)) (by rfl) tkW0 (pa_cons (pe_ix ix_tup (pv 0) pe_int (fun _ _ => rfl)) (pa_cons (pe_ix ix_list (pv 4) pe_int (fun _ _ => rfl)) (pa_cons (pv 2) (pa_cons (pe_ix ix_list (pv 4) pe_int (fun _ _ => rfl)) pa_nil))))))))
    (fun a0 oe0 cls0 d0 pn0 hz0 hf0 => (pss_one (ps_ret (pe_and (pe_cmpR op_eq (pe_callTy (b_strA hgd (Nat.lt_of_le_of_lt (Nat.add_le_add_right (Nat.le_add_right _ _) 200) hr.un)) (by rfl) T.b_str (by decide +kernel) (pa_cons (pv 4) pa_nil)) (pe_callTy (b_strA hgd (Nat.lt_of_le_of_lt (Nat.add_le_add_right (Nat.le_add_right _ _) 200) hr.un)) (by rfl) T.b_str (by decide +kernel) (pa_cons (pe_lst (pa_cons (pe_callTy b_list (by rfl) T.b_list (by decide +kernel) (pa_cons (pv 1) pa_nil)) (pa_cons (pe_callTy b_list (by rfl) T.b_list (by decide +kernel) (pa_cons (pv 3) pa_nil)) pa_nil))) pa_nil)) (nomark _)) (pe_and (pe_callB (call_isEd T.ec_BadStay hz0 hf0) (by rfl) T.b_isinstance (by decide +kernel) (pa_cons (pv 5) (pa_cons (pe_err T.x_ManydoorsError (by rfl)) pa_nil))) (pe_one (pe_not (pe_callB (call_isETd T.ec_BadStay hz0 hf0) (by rfl) T.b_isinstance (by decide +kernel) (pa_cons (pv 5) (pa_cons (pe_tup (pa_cons (pe_err T.x_BadDeed (by rfl)) (pa_cons (pe_err T.x_BadHistory (by rfl)) (pa_cons (pe_err T.x_BadLine (by rfl)) (pa_cons (pe_err T.x_BadSetup (by rfl)) (pa_cons (pe_err T.x_BadText (by rfl)) pa_nil)))))) pa_nil)))))))))))
    (pss_one (ps_ret pe_bl))))
  · obtain ⟨x0, x1, x2, x3, rfl, h⟩ := h
    exact pu_Lrefused T h

def rInsert : V → List V → Hp → VK → Prop := fun x vs H Q => ∃ (l : Addr) (xs : List V) (i : Int) (y : V), x = .ref l ∧ vs = [.int i, y] ∧ H l = some (.lst xs) ∧ xs.length < sizeLine ∧ 0 ≤ i ∧ i < 2 ^ 63 ∧ Q .non (upd H l (.lst (xs.take i.toNat ++ [y] ++ xs.drop i.toNat)))
theorem g_insert {H : Hp} {Q : VK} {l : Addr} {xs : List V} {i : Int} {y : V} (h : H l = some (.lst xs)) (hl : xs.length < sizeLine) (h0 : 0 ≤ i) (h1 : i < 2 ^ 63) (q : ∀ H', Fr [l] H H' → H' l = some (.lst (xs.take i.toNat ++ [y] ++ xs.drop i.toNat)) → Q .non H') : rInsert (.ref l) [.int i, y] H Q :=
  ⟨l, xs, i, y, rfl, rfl, h, hl, h0, h1, q _ (Fr.put h trivial) upd_same⟩
def P_law (K : PySem.W.Frag) (A : Ad) (x0 : V) (H : Hp) (Q : VK) : Prop := ∃ (a : Addr) (ns : List Int), x0 = .ref a ∧ SqL K H a (ns.map V.int) ∧ ns.length ≤ 63 ∧ ∀ H', Q (.bl true) H'
def sp_law (K : PySem.W.Frag) (A : Ad) : Sp := fun vs H Q _ => ∃ x0, vs = [x0] ∧ P_law K A x0 H Q
theorem c_law {K : PySem.W.Frag} {A : Ad} {x0 : V} {H : Hp} {Q : VK} {E : XK} (h : P_law K A x0 H Q) : sp_law K A [x0] H Q E := ⟨_, rfl, h⟩
theorem sc_law : FnScope ["_law_script", "_law_draws", "_law_setup_here", "_law_stays_here", "_law_night", "_law_given_here", "_law_pick", "_law_at", "_law_kind", "_law_first", "_law_k", "_law_spot"] ["_law_script"] (defScope s_law) := ⟨rfl, rfl, rfl, by decide +kernel, rfl, by decide +kernel, by decide +kernel⟩
def t_spoil (K : PySem.W.Frag) (A : Ad) : TS :=
  (tIfS (tTest (tOp rEq (tVar 6) (tC (.int 0)))) (tSeq (tAsg (tOp oMod (tCl (sp_Ldraw K A) (tCons (tVar 1) tNil)) (tCB (rLenSq K) (tCons (tOp (rIxT K) (tVar 2) (tC (.int 0))) tNil))) (gName 8))
    (tSeq (tAsg (tOp oMod (tCl (sp_Ldraw K A) (tCons (tVar 1) tNil)) (tOp (rIxT K) (tVar 2) (tC (.int 1)))) (gName 9))
    (tFor (iRng1 (tCons (tOp oAdd (tC (.int 1)) (tOp oMod (tCl (sp_Ldraw K A) (tCons (tVar 1) tNil)) (tC (.int 3)))) tNil)) (gName 10) (tSeq (tAsg (tOp oMod (tCl (sp_Ldraw K A) (tCons (tVar 1) tNil)) (tOp oAdd (tCB (rLenSq K) (tCons (tVar 3) tNil)) (tC (.int 1)))) (gName 11))
    (tSeq (tDrop (tBM K "list" rInsert (tVar 3) (tCons (tVar 11) (tCons (tTup (tCons (tVar 8) (tCons (tVar 9) (tCons (tOp oAdd (tVar 9) (tC (.int 1))) tNil)))) tNil))))
    (tDrop (tBM K "list" rInsert (tVar 5) (tCons (tVar 11) (tCons (tOp (rIxL K) (tLst (tCons (tC .non) (tCons (tOp oMod (tVar 10) (tCB rMax2 (tCons (tC (.int 1)) (tCons (tOp (rIxT K) (tOp (rIxT K) (tVar 2) (tC (.int 0))) (tVar 8)) tNil)))) tNil))) (tCB rIntB (tCons (tOp cLe (tVar 9) (tVar 4)) tNil))) tNil))))))))) (tIfS (tAnd (tTest (tOp rEq (tVar 6) (tC (.int 1)))) (tAnd (tTest (tOp cGt (tCB (rLenSq K) (tCons (tVar 3) tNil)) (tC (.int 0)))) (tTest (tOp rIsNotNon (tOp (rIxL K) (tVar 5) (tVar 7)) (tC .non))))) (tAsg (tOp (rIxL K) (tLst (tCons (tUn rNeg (tC (.int 1))) (tCons (tOp (rIxT K) (tOp (rIxT K) (tVar 2) (tC (.int 0))) (tOp (rIxT K) (tOp (rIxL K) (tVar 3) (tVar 7)) (tC (.int 0)))) (tCons (tC .non) (tCons (tC (.int 99)) (tCons (tOp oMod (tCl (sp_Ldraw K A) (tCons (tVar 1) tNil)) (tC (.int 4))) (tCons (tC (.bl true)) (tCons (tC (.bl false)) tNil)))))))) (tOp oMod (tCl (sp_Ldraw K A) (tCons (tVar 1) tNil)) (tC (.int 7)))) (gSub (tVar 5) (tVar 7) rSetL)) (tIfS (tAnd (tTest (tOp rEq (tVar 6) (tC (.int 2)))) (tAnd (tTest (tOp cGt (tCB (rLenSq K) (tCons (tVar 3) tNil)) (tC (.int 0)))) (tTest (tOp rIsNon (tOp (rIxL K) (tVar 5) (tVar 7)) (tC .non))))) (tAsg (tOp oMod (tCl (sp_Ldraw K A) (tCons (tVar 1) tNil)) (tC (.int 4))) (gSub (tVar 5) (tVar 7) rSetL)) (tIfS (tAnd (tTest (tOp rEq (tVar 6) (tC (.int 3)))) (tTest (tOp cGt (tCB (rLenSq K) (tCons (tVar 3) tNil)) (tC (.int 1))))) (tAsg (tOp (rIxL K) (tVar 5) (tOp oMod (tCl (sp_Ldraw K A) (tCons (tVar 1) tNil)) (tCB (rLenSq K) (tCons (tVar 3) tNil)))) (gSub (tVar 5) (tVar 7) rSetL)) tNext))))
def t_law (K : PySem.W.Frag) (A : Ad) : TS :=
  (tSeq (tAsg (tLst (tCons (tCl (sp_Lnumbers K A) (tCons (tVar 0) tNil)) (tCons (tC (.int 0)) tNil))) (gName 1))
    (tSeq (tAsg (tCl (sp_Lsetup K A) (tCons (tVar 1) tNil)) (gName 2))
    (tSeq (tAsg (tCl (sp_Lstays K A) (tCons (tVar 1) (tCons (tVar 2) (tCons (tOp oAdd (tC (.int 1)) (tOp oMod (tCl (sp_Ldraw K A) (tCons (tVar 1) tNil)) (tC (.int 20)))) tNil)))) (gName 3))
    (tSeq (tAsg (tOp oSub (tOp oMod (tCl (sp_Ldraw K A) (tCons (tVar 1) tNil)) (tOp oAdd (tOp (rIxT K) (tVar 2) (tC (.int 1))) (tC (.int 1)))) (tC (.int 1))) (gName 4))
    (tSeq (tAsg (tCl (sp_Lgiven K A) (tCons (tVar 1) (tCons (tVar 2) (tCons (tVar 3) (tCons (tVar 4) tNil))))) (gName 5))
    (tSeq (tAsg (tOp oMod (tCl (sp_Ldraw K A) (tCons (tVar 1) tNil)) (tC (.int 5))) (gName 6))
    (tSeq (tAsg (tOp oMod (tCl (sp_Ldraw K A) (tCons (tVar 1) tNil)) (tCB rMax2 (tCons (tC (.int 1)) (tCons (tCB (rLenSq K) (tCons (tVar 3) tNil)) tNil)))) (gName 7))
    (tSeq (t_spoil K A)
    (tSeq (tIfS (tOr (tNot (tB (tCl (sp_Lrefused K A) (tCons (tVar 2) (tCons (tVar 3) (tCons (tVar 4) (tCons (tOp rCat (tVar 5) (tLst (tCons (tC .non) tNil))) tNil))))))) (tNot (tB (tCl (sp_Lrefused K A) (tCons (tVar 2) (tCons (tOp rCat (tVar 3) (tLst (tCons (tTup (tCons (tC (.int 0)) (tCons (tC (.int 0)) (tCons (tC (.int 1)) tNil)))) tNil))) (tCons (tVar 4) (tCons (tVar 5) tNil)))))))) (tRet (tC (.bl false))) tNext)
    (tRet (tOp rNe (tCl (sp_Lrefused K A) (tCons (tVar 2) (tCons (tVar 3) (tCons (tVar 4) (tCons (tVar 5) tNil))))) (tCl (sp_Lgood K A) (tCons (tVar 2) (tCons (tVar 3) (tCons (tVar 4) (tCons (tVar 5) tNil))))))))))))))))
structure KI (H : Hp) (d l sp p g : Addr) (S : Setup) (n : Nat) (ss : List Stay) (G : List Gv) : Prop where
  D : Draws H d l
  dS : Da H (.ref sp) (setupD S)
  pd : p ≠ d
  gd : g ≠ d
  pg : p ≠ g
  pl : p ≠ l
  gl : g ≠ l
  ep : ∃ xs, H p = some (.lst xs) ∧ DaL H xs (ss.map stayD)
  eg : H g = some (.lst (G.map gV))
  len : G.length = ss.length
  le : ss.length ≤ n
  ok : ∀ s ∈ ss, StayOk S s
  hz : ∀ x ∈ G, ∀ z, x = .i z → -1 ≤ z ∧ z ≤ 1000
section
variable {H H' : Hp} {d l sp p g : Addr} {S : Setup} {n m : Nat} {ss : List Stay} {G : List Gv}
theorem KI.draw (h : KI H d l sp p g S n ss G) (f : Fr [d] H H') (D : Draws H' d l) : KI H' d l sp p g S n ss G := by
  obtain ⟨xs, e, dx⟩ := h.ep
  exact ⟨D, Da.frL f h.dS (imm_setup S), h.pd, h.gd, h.pg, h.pl, h.gl, ⟨xs, f.at e (nin1 h.pd nin0), DaL.frL f dx (imm_stays ss)⟩, f.at h.eg (nin1 h.gd nin0), h.len, h.le, h.ok, h.hz⟩
theorem KI.f0 (h : KI H d l sp p g S n ss G) (f : Fr [] H H') : KI H' d l sp p g S n ss G := h.draw f.of0 (h.D.fr f nin0 nin0)
theorem KI.mono (h : KI H d l sp p g S n ss G) (q : n ≤ m) : KI H d l sp p g S m ss G := ⟨h.D, h.dS, h.pd, h.gd, h.pg, h.pl, h.gl, h.ep, h.eg, h.len, Nat.le_trans h.le q, h.ok, h.hz⟩
theorem KI.setG (h : KI H d l sp p g S n ss G) {i : Nat} {x : Gv} (f : Fr [g] H H') (e : H' g = some (.lst ((G.map gV).set i (gV x)))) (hx : ∀ z, x = .i z → -1 ≤ z ∧ z ≤ 1000) : KI H' d l sp p g S n ss (G.set i x) := by
  obtain ⟨xs, ep, dx⟩ := h.ep
  refine ⟨h.D.fr f (nin1 h.gd.symm nin0) (nin1 h.gl.symm nin0), Da.frL f h.dS (imm_setup S), h.pd, h.gd, h.pg, h.pl, h.gl, ⟨xs, f.at ep (nin1 h.pg nin0), DaL.frL f dx (imm_stays ss)⟩, by rw [e, List.map_set], by rw [List.length_set]; exact h.len, h.le, h.ok, fun y hy => ?_⟩
  rcases List.mem_or_eq_of_mem_set hy with q | q
  · exact h.hz y q
  · rw [q]; exact hx
theorem ins_mem {α : Type} {xs : List α} {i : Nat} {y z : α} (h : z ∈ xs.take i ++ [y] ++ xs.drop i) : z ∈ xs ∨ z = y := by
  rcases List.mem_append.mp h with h | h
  · rcases List.mem_append.mp h with h | h
    · exact .inl (List.mem_of_mem_take h)
    · exact .inr (List.mem_singleton.mp h)
  · exact .inl (List.mem_of_mem_drop h)
theorem ins_len {α : Type} {xs : List α} {i : Nat} {y : α} (h : i ≤ xs.length) : (xs.take i ++ [y] ++ xs.drop i).length = xs.length + 1 := by
  rw [List.length_append, List.length_append, List.length_take, List.length_drop]; show _ + 1 + _ = _; omega
theorem DaL.dropN {H : Hp} : ∀ {xs : List V} {ds : List PyData} (n : Nat), DaL H xs ds → DaL H (xs.drop n) (ds.drop n)
  | _, _, 0, h => h
  | _, _, n + 1, .nil => .nil
  | _, _, n + 1, .cons _ t => DaL.dropN n t
theorem DaL.takeN {H : Hp} : ∀ {xs : List V} {ds : List PyData} (n : Nat), DaL H xs ds → DaL H (xs.take n) (ds.take n)
  | _, _, 0, _ => .nil
  | _, _, n + 1, .nil => .nil
  | _, _, n + 1, .cons h t => .cons h (DaL.takeN n t)
theorem ins_map {α β : Type} (f : α → β) (xs : List α) (i : Nat) (y : α) : (xs.take i ++ [y] ++ xs.drop i).map f = (xs.map f).take i ++ [f y] ++ (xs.map f).drop i := by
  rw [List.map_append, List.map_append, List.map_take, List.map_drop]; rfl
end
abbrev lkS (a d sp p g : Addr) (night pick at' : Int) (v8 v9 v10 v11 : Option V) : L2.St := [some (.ref a), some (.ref d), some (.ref sp), some (.ref p), some (.int night), some (.ref g), some (.int pick), some (.int at'), v8, v9, v10, v11]
theorem spoil (T : Txt K mg A) {H : Hp} {a d l sp p g : Addr} {S : Setup} {ss : List Stay} {G : List Gv} {night pick at' : Int} {D : Ends} (so : SetupOk S) (ki : KI H d l sp p g S 20 ss G) (h0 : 0 ≤ at') (h1 : 0 < ss.length → at' < ss.length)
    (nx : ∀ ss' G' H' v8 v9 v10 v11, KI H' d l sp p g S 24 ss' G' → D.nx (lkS a d sp p g night pick at' v8 v9 v10 v11) H') : t_spoil K A D (lkS a d sp p g night pick at' none none none none) H := by
  have hk1 := so.k1
  have hn1 := so.n1
  have D0 := ki.D
  obtain ⟨sp', r, pp, prs, sa⟩ := SetAt.of ki.dS
  cases sa.e
  have e0 := sa.t
  have er := sa.r
  obtain ⟨xs, ep, dx⟩ := ki.ep
  have eg := ki.eg
  have hlen := ki.len
  have hle := ki.le
  have hxl : xs.length = ss.length := by rw [dx.len, List.length_map]
  clear sa
  unfold t_spoil
  walk_at "go"
  refine g_ite (fun c => ?_) (fun c => ?_)
  · walk_at "go"
    rename_i y1 H1 y10 y11 f1 D1 y2 H2 y20 y21 f2 D2 y3 H3 y30 y31 f3 D3
    have ki3 := ((ki.draw f1 D1).draw f2 D2).draw f3 D3
    rw [List.length_map]
    have a0 := Int.emod_nonneg y1 (show ((S.rooms.length : Nat) : Int) ≠ 0 by omega)
    have a1 := Int.emod_lt_of_pos y1 (show 0 < ((S.rooms.length : Nat) : Int) by omega)
    have b0 := Int.emod_nonneg y2 (show S.nights ≠ 0 by omega)
    have b1 := Int.emod_lt_of_pos y2 (show 0 < S.nights by omega)
    generalize y1 % (S.rooms.length : Int) = kd at *
    generalize y2 % S.nights = fs at *
    clear f1 f2 f3 D1 D2 D3 D0 e0 er ep dx eg hlen hle hxl ki
    refine f_range (lo := 0) (n := (1 + y3 % 3).toNat) (fun i σ H' => ∃ ss G v10 v11, σ = lkS a d sp p g night pick at' (some (.int kd)) (some (.int fs)) v10 v11 ∧ KI H' d l sp p g S (20 + i) ss G) ⟨ss, G, _, _, rfl, ki3⟩ ?_ ?_
    · rintro i σ H4 hi ⟨ss, G, v10, v11, rfl, ki4⟩
      have hi3 : i < 3 := by omega
      clear ki3 h1
      have D4 := ki4.D
      have hlen := ki4.len
      have hle := ki4.le
      obtain ⟨xs, ep0, dx0⟩ := ki4.ep
      have hxl : xs.length = ss.length := by rw [dx0.len, List.length_map]
      walk_at "go"
      rename_i y H5 y0 y1 f5 D5
      have ki5 := ki4.draw f5 D5
      have e5 := f5.at ep0 (nin1 ki4.pd nin0)
      have dx5 := DaL.frL f5 dx0 (imm_stays ss)
      clear ki4 D4 ep0 dx0 f5
      have eg5 := ki5.eg
      walk_at "go"
      rename_i t H6 n6 f6 e6
      obtain ⟨sn, hsn⟩ : ∃ n : Nat, y % ((xs.length : Int) + 1) = (n : Int) := ⟨(y % ((xs.length : Int) + 1)).toNat, by have := Int.emod_nonneg y (show ((xs.length : Int) + 1) ≠ 0 by omega); omega⟩
      have hsn1 : sn ≤ ss.length := by have := Int.emod_lt_of_pos y (show 0 < ((xs.length : Int) + 1) by omega); omega
      rw [hsn]
      refine g_insert (f6.at0 e5) (by rw [sizeLine_eq]; omega) (by omega) (by omega) fun H7 f7 e7 => ?_
      rw [show ((sn : Nat) : Int).toNat = sn by omega] at e7
      have so2 : StayOk S ((kd, fs, fs + 1) : Stay) := ⟨a0, a1, b0, by show fs < fs + 1; omega, by show fs + 1 ≤ S.nights; omega⟩
      have dx7 : DaL H7 (xs.take sn ++ [V.ref t] ++ xs.drop sn) ((ss.take sn ++ [((kd, fs, fs + 1) : Stay)] ++ ss.drop sn).map stayD) := by
        rw [ins_map]
        have q := DaL.frL f7 (DaL.frL f6 dx5 (imm_stays ss)) (imm_stays ss)
        exact ((DaL.takeN sn q).append (.one' (.tup (f7.tup _ _ e6) (Nat.le_of_ble_eq_true rfl) (.cons (.int _) (.cons (.int _) (.one' (.int _))))))).append (DaL.dropN sn q)
      have D7 : Draws H7 d l := (D5.fr f6 nin0 nin0).fr f7 (nin1 ki5.pd.symm nin0) (nin1 ki5.pl.symm nin0)
      have eg7 := f7.at (f6.at0 eg5) (nin1 ki5.pg.symm nin0)
      have dS7 := Da.frL f7 (Da.frL f6 ki5.dS (imm_setup S)) (imm_setup S)
      obtain ⟨sp', r', pp', prs', sa⟩ := SetAt.of dS7
      cases sa.e
      have e07 := sa.t
      have er7 := sa.r
      have ok5 := ki5.ok
      have hz5 := ki5.hz
      have pd := ki5.pd
      have gd := ki5.gd
      have pg := ki5.pg
      have pl := ki5.pl
      have gl := ki5.gl
      clear f7 f6 e6 n6 e5 dx5 eg5 ki5 D5 sa
      have hsl := ins_len (y := V.ref t) (show sn ≤ xs.length by omega)
      generalize hxs : xs.take sn ++ [V.ref t] ++ xs.drop sn = xs2 at *
      walk_at "go"
      refine g_ixT (SqT.of er7) (room_at so2) ?_
      walk_at "go"
      rename_i q H8 n8 f8 e8
      have hif : (if decide (fs ≤ night) = true then (1 : Int) else 0) = 0 ∨ (if decide (fs ≤ night) = true then (1 : Int) else 0) = 1 := by split <;> simp
      have rm0 : 0 ≤ rooms S ((kd, fs, fs + 1) : Stay) ∧ rooms S ((kd, fs, fs + 1) : Stay) ≤ 4 := rooms_le so so2
      have ⟨x, hx, hxz⟩ : ∃ x : Gv, atI [V.non, V.int ((0 + (i : Int)) % (if rooms S ((kd, fs, fs + 1) : Stay) > 1 then rooms S ((kd, fs, fs + 1) : Stay) else 1))] (if decide (fs ≤ night) = true then (1 : Int) else 0) = some (gV x) ∧ ∀ z, x = .i z → -1 ≤ z ∧ z ≤ 1000 := by
        rcases hif with h | h
        · rw [h]
          exact ⟨.n, rfl, fun z hz => by cases hz⟩
        · rw [h]
          refine ⟨.i _, rfl, fun z hz => ?_⟩
          cases hz
          have m0 : 0 < (if rooms S ((kd, fs, fs + 1) : Stay) > 1 then rooms S ((kd, fs, fs + 1) : Stay) else 1) := by split <;> omega
          have m1 := Int.emod_nonneg (0 + (i : Int)) (Int.ne_of_gt m0)
          have m2 := Int.emod_lt_of_pos (0 + (i : Int)) m0
          have m3 : (if rooms S ((kd, fs, fs + 1) : Stay) > 1 then rooms S ((kd, fs, fs + 1) : Stay) else 1) ≤ 4 := by split <;> omega
          omega
      refine g_intB ?_
      refine g_ixL (SqL.of e8) hx ?_
      walk_at "go"
      have hgl : (G.map gV).length = ss.length := by rw [List.length_map]; exact hlen
      refine g_insert (f8.at0 eg7) (by rw [sizeLine_eq]; omega) (by omega) (by omega) fun H9 f9 e9 => ?_
      rw [show ((sn : Nat) : Int).toNat = sn by omega, ← ins_map] at e9
      walk_at "go"
      have F9 := f8
      refine ⟨ss.take sn ++ [((kd, fs, fs + 1) : Stay)] ++ ss.drop sn, G.take sn ++ [x] ++ G.drop sn, _, _, rfl, ⟨(D7.fr f8 nin0 nin0).fr f9 (nin1 gd.symm nin0) (nin1 gl.symm nin0), Da.frL f9 (Da.frL f8 dS7 (imm_setup S)) (imm_setup S), pd, gd, pg, pl, gl, ⟨xs2, f9.at (f8.at0 e7) (nin1 pg nin0), DaL.frL f9 (DaL.frL f8 dx7 (imm_stays _)) (imm_stays _)⟩, e9, ?_, ?_, fun z hz => ?_, fun z hz => ?_⟩⟩
      · rw [ins_len (by omega), ins_len hsn1]; omega
      · rw [ins_len hsn1]; omega
      · rcases ins_mem hz with h | h
        · exact ok5 z h
        · rw [h]; exact so2
      · rcases ins_mem hz with h | h
        · exact hz5 z h
        · rw [h]; exact hxz
    · rintro σ H4 ⟨ss, G, v10, v11, rfl, ki4⟩
      exact nx _ _ _ _ _ _ _ (ki4.mono (by omega))
  · have setOk : ∀ {n : Nat} {x : Gv} {H' : Hp} {D2 : Ends} {σ : L2.St}, n < ss.length → KI H' d l sp p g S 20 ss G → (∀ z, x = .i z → -1 ≤ z ∧ z ≤ 1000) → (∀ H2, KI H2 d l sp p g S 20 ss (G.set n x) → D2.nx σ H2) → rSetL (.ref g) (.int (n : Int)) (gV x) H' fun H3 => D2.nx σ H3 := fun {n x H' D2 σ} hn ki2 hx kk => by
      refine g_setL ki2.eg (j := n) (Evl.ixN_nat (by rw [List.length_map]; omega)) fun H3 f3 e3 => kk H3 (ki2.setG f3 e3 hx)
    walk_at "go"
    refine g_ite (fun c => ?_) (fun c => ?_)
    · walk_at "go"
      refine g_ite (fun c2 => ?_) (fun c2 => ?_)
      · have hl0 : 0 < ss.length := by omega
        have h1 := h1 hl0
        obtain ⟨an, rfl⟩ : ∃ n : Nat, at' = (n : Int) := ⟨at'.toNat, by omega⟩
        have han : an < ss.length := by omega
        have gat := atI_nat (gG_at (G := G) (i := an) (by omega))
        obtain ⟨b, hb, eb, db⟩ := stays_at dx han
        have okb := ki.ok _ (stG_mem han)
        walk_at "go"
        refine g_ixL (SqL.of eg) gat ?_
        walk_at "go"
        have fall : D.nx (lkS a d sp p g night pick (an : Int) none none none none) H := nx _ _ _ _ _ _ _ (ki.mono (by decide))
        refine g_iteN (fun c3 => ?_) (fun c3 => ?_)
        · walk_at "go"
          refine g_un ?_
          refine g_c ?_
          refine g_neg ?_
          walk_at "go"
          refine g_ixL (SqL.of ep) (atI_nat hb) ?_
          walk_at "go"
          refine g_ixT (SqT.of er) (room_at okb) ?_
          walk_at "go"
          rename_i y1 H1 y10 y11 f1 D1 q H2 n2 f2 e2 y3 H3 y30 y31 f3 D3
          have nqd : q ≠ d := (D1.new1 n2).symm
          have ki3 := ((ki.draw f1 D1).f0 f2).draw f3 D3
          have rm := rooms_le so okb
          obtain ⟨v, hv, hmem⟩ := atI_mem (xs := [V.int (-1), .int (rooms S (stG ss an)), .non, .int 99, .int (y1 % 4), .bl true, .bl false]) (z := y3 % 7) (by omega) (by show y3 % 7 < 7; omega)
          refine g_ixL (SqL.of (f3.at e2 (nin1 nqd nin0))) hv ?_
          have ⟨x, hx, hxz⟩ : ∃ x : Gv, v = gV x ∧ ∀ z, x = .i z → -1 ≤ z ∧ z ≤ 1000 := by
            simp only [List.mem_cons, List.not_mem_nil, or_false] at hmem
            rcases hmem with h | h | h | h | h | h | h
            · exact ⟨.i _, h, fun z hz => by cases hz; omega⟩
            · exact ⟨.i _, h, fun z hz => by cases hz; omega⟩
            · exact ⟨.n, h, fun z hz => by cases hz⟩
            · exact ⟨.i _, h, fun z hz => by cases hz; omega⟩
            · exact ⟨.i _, h, fun z hz => by cases hz; omega⟩
            · exact ⟨.b _, h, fun z hz => by cases hz⟩
            · exact ⟨.b _, h, fun z hz => by cases hz⟩
          subst hx
          walk_at "go"
          exact setOk han ki3 hxz fun H2 ki2 => nx _ _ _ _ _ _ _ (ki2.mono (by decide))
        · walk_at "go"
          refine g_ite (fun z => absurd z (by omega)) (fun _ => ?_)
          walk_at "go"
          refine g_ite (fun z => absurd z (by omega)) (fun _ => ?_)
          walk_at "go"
          exact fall
      · walk_at "go"
        refine g_ite (fun z => absurd z (by omega)) (fun _ => ?_)
        walk_at "go"
        refine g_ite (fun z => absurd z (by omega)) (fun _ => ?_)
        walk_at "go"
        exact nx _ _ _ _ _ _ _ (ki.mono (by decide))
    · walk_at "go"
      refine g_ite (fun c => ?_) (fun c => ?_)
      · walk_at "go"
        refine g_ite (fun c2 => ?_) (fun c2 => ?_)
        · have hl0 : 0 < ss.length := by omega
          have h1 := h1 hl0
          obtain ⟨an, rfl⟩ : ∃ n : Nat, at' = (n : Int) := ⟨at'.toNat, by omega⟩
          have han : an < ss.length := by omega
          have gat := atI_nat (gG_at (G := G) (i := an) (by omega))
          walk_at "go"
          refine g_ixL (SqL.of eg) gat ?_
          walk_at "go"
          refine g_ite (fun c3 => ?_) (fun c3 => ?_)
          · walk_at "go"
            rename_i y H1 y0 y1 f1 D1
            refine setOk (x := .i (y % 4)) han (ki.draw f1 D1) (fun z hz => by cases hz; omega) fun H2 ki2 => nx _ _ _ _ _ _ _ (ki2.mono (by decide))
          · walk_at "go"
            refine g_ite (fun z => absurd z (by omega)) (fun _ => ?_)
            walk_at "go"
            exact nx _ _ _ _ _ _ _ (ki.mono (by decide))
        · walk_at "go"
          refine g_ite (fun z => absurd z (by omega)) (fun _ => ?_)
          walk_at "go"
          exact nx _ _ _ _ _ _ _ (ki.mono (by decide))
      · walk_at "go"
        refine g_ite (fun c => ?_) (fun c => ?_)
        · walk_at "go"
          refine g_ite (fun c2 => ?_) (fun c2 => ?_)
          · have hl0 : 0 < ss.length := by omega
            have h1 := h1 hl0
            obtain ⟨an, rfl⟩ : ∃ n : Nat, at' = (n : Int) := ⟨at'.toNat, by omega⟩
            have han : an < ss.length := by omega
            walk_at "go"
            rename_i y H1 y0 y1 f1 D1
            refine g_lenL (SqL.of (f1.at ep (nin1 ki.pd nin0))) ?_
            have q0 := Int.emod_nonneg y (show ((xs.length : Nat) : Int) ≠ 0 by omega)
            have q1 := Int.emod_lt_of_pos y (show 0 < ((xs.length : Nat) : Int) by omega)
            obtain ⟨m, hm⟩ : ∃ m : Nat, y % (xs.length : Int) = (m : Int) := ⟨(y % (xs.length : Int)).toNat, by omega⟩
            walk_at "go"
            rw [hm]
            have hml : m < G.length := by omega
            refine g_ixL (SqL.of (f1.at eg (nin1 ki.gd nin0))) (atI_nat (gG_at hml)) ?_
            walk_at "go"
            have hmem : gG G m ∈ G := by
              unfold gG
              rw [List.getD_eq_getElem?_getD, List.getElem?_eq_getElem hml]
              exact List.getElem_mem hml
            refine setOk (x := gG G m) han (ki.draw f1 D1) (ki.hz _ hmem) fun H2 ki2 => nx _ _ _ _ _ _ _ (ki2.mono (by decide))
          · walk_at "go"
            exact nx _ _ _ _ _ _ _ (ki.mono (by decide))
        · walk_at "go"
          exact nx _ _ _ _ _ _ _ (ki.mono (by decide))

theorem pu_law (T : Txt K mg A) {x0 : V} {H : Hp} {Q : VK} (h : P_law K A x0 H Q) : t_law K A { nx := fun _ H' => Q .non H', rt := Q } [some x0, none, none, none, none, none, none, none, none, none, none, none] H := by
  obtain ⟨a, ns, rfl, hS, hl, k⟩ := h
  unfold t_law
  walk_at "go"
  refine c_Lnumbers ⟨a, ns, rfl, hS, hl, fun nl ms H1 n1 f1 e1 sm hm => ?_⟩
  walk_at "go"
  rename_i d H2 n2 f2 e2
  have D2 : Draws H2 d nl := ⟨ms, 0, e2, f2.at0 e1, sm, hm, Int.le_refl _⟩
  refine c_Lsetup ⟨d, nl, rfl, D2, fun sv S H3 so dS f3 D3 => ?_⟩
  clear hS f1 f2 f3 e1 e2 D2 n1 n2 sm hm
  obtain ⟨sp, r, pp, prs, sa⟩ := SetAt.of dS
  cases sa.e
  have e0 := sa.t
  clear sa
  walk_at "go"
  rename_i y H4 y0 y1 f4 D4
  have hn1 := so.n1
  refine c_Lstays ⟨d, nl, S, 1 + y % 20, rfl, rfl, by omega, by omega, D4, so, Da.frL f4 dS (imm_setup S), fun p ss xs H5 n5 f5 D5 e5 dx5 hl5 ok F => ?_⟩
  have F5 := f4.transL f5
  have dS5 := Da.frL F5 dS (imm_setup S)
  have e05 := F5.tup _ _ e0
  have npd : p ≠ d := (D4.new1 n5).symm
  have npl : p ≠ nl := (D4.new2 n5).symm
  clear f4 f5 F5 dS e0 D3 D4 n5
  walk_at "go"
  rename_i z H6 z0 z1 f6 D6
  have e6 := f6.at e5 (nin1 npd nin0)
  refine c_Lgiven ⟨d, nl, p, xs, S, ss, z % (S.nights + 1) - 1, rfl, rfl, rfl, D6, Da.frL f6 dS5 (imm_setup S), so, npd, e6, DaL.frL f6 dx5 (imm_stays ss), by omega, ok, F, fun g R H7 n7 f7 D7 e7 gv => ?_⟩
  have ki7 : KI H7 d nl sp p g S 20 ss ((R.map fun o => match o with | some z => Gv.i z | none => Gv.n)) := by
    have e67 := f7.at e6 (nin1 npd nin0)
    refine ⟨D7, Da.frL f7 (Da.frL f6 dS5 (imm_setup S)) (imm_setup S), npd, (D6.new1 n7).symm, (fun z => by rw [z] at e6; rw [e6] at n7; cases n7), npl, (D6.new2 n7).symm, ⟨xs, e67, DaL.frL f7 (DaL.frL f6 dx5 (imm_stays ss)) (imm_stays ss)⟩, ?_, ?_, by omega, ok, fun x hx z hz => ?_⟩
    · rw [e7, List.map_map]
      congr 3
      funext o
      cases o <;> rfl
    · rw [List.length_map]; exact gv.g.len
    · obtain ⟨o, ho, rfl⟩ := List.mem_map.mp hx
      cases o with
      | none => cases hz
      | some w =>
        cases hz
        obtain ⟨j, hj⟩ := List.mem_iff_getElem?.mp ho
        have hj2 := gv.g.rng j z (rm_of hj)
        have hjl := rm_lt (rm_of hj)
        have := rooms_le so (ok _ (stG_mem (by rw [← gv.g.len]; exact hjl)))
        omega
  generalize (R.map fun o => match o with | some z => Gv.i z | none => Gv.n) = G at ki7
  have hl20 := ki7.le
  generalize z % (S.nights + 1) - 1 = night at *
  clear e7 gv f7 f6 e6 e5 dx5 dS5 e05 D6 D5 D7 n7 hl5
  have D7 := ki7.D
  obtain ⟨xs7, ep7, dx7⟩ := ki7.ep
  have hxl7 : xs7.length = ss.length := by rw [dx7.len, List.length_map]
  walk_at "go"
  rename_i y1 H8 y10 y11 f8 D8 y2 H9 y20 y21 f9 D9
  have ki9 := (ki7.draw f8 D8).draw f9 D9
  have mx : 0 < (if (xs7.length : Int) > 1 then (xs7.length : Int) else 1) := by split <;> omega
  have q0 := Int.emod_nonneg y2 (Int.ne_of_gt mx)
  have q1 := Int.emod_lt_of_pos y2 mx
  have q2 : 0 < ss.length → y2 % (if (xs7.length : Int) > 1 then (xs7.length : Int) else 1) < ss.length := fun h => by
    have : (if (xs7.length : Int) > 1 then (xs7.length : Int) else 1) = ss.length := by split <;> omega
    omega
  generalize y2 % (if (xs7.length : Int) > 1 then (xs7.length : Int) else 1) = at' at *
  clear ki7 D7 ep7 dx7 f8 D8 f9 D9
  refine spoil T so ki9 q0 q2 fun ss G H1 v8 v9 v10 v11 ki => ?_
  clear ki9 q0 q1 q2 mx ok F hxl7 hl20
  obtain ⟨xs, ep, dx⟩ := ki.ep
  have eg := ki.eg
  have dS1 := ki.dS
  have hlen := ki.len
  have hle := ki.le
  have ok := ki.ok
  have hz := ki.hz
  have hxl : xs.length = ss.length := by rw [dx.len, List.length_map]
  clear ki
  walk_at "go"
  rename_i t H2 n2 f2 e2
  refine g_cat (f2.at0 eg) e2 (szL (by rw [List.length_map]; simp only [List.length_cons, List.length_nil]; omega)) fun c H3 n3 f3 e3 => ?_
  have F3 := f2.then0 f3
  have e3' : H3 c = some (.lst ((G ++ [Gv.n]).map gV)) := by rw [e3, List.map_append]; rfl
  have eg3 := F3.at0 eg
  have ep3 := F3.at0 ep
  have dx3 := DaL.frL F3 dx (imm_stays ss)
  have dS3 := Da.frL F3 dS1 (imm_setup S)
  clear f2 f3 F3 e2 e3 n2 n3 eg ep dx dS1
  walk_at "go"
  refine c_Lrefused ⟨p, c, xs, S, ss, night, G ++ [Gv.n], rfl, rfl, rfl, dS3, so, ep3, dx3, by omega, ok, e3', by rw [List.length_append]; show _ + 1 ≤ _; omega, fun x hx z e => ?_, fun b H4 hb f4 => ?_⟩
  · rcases List.mem_append.mp hx with q | q
    · exact hz x q z e
    · rw [List.mem_singleton.mp q] at e; cases e
  have hbt : b = true := hb.mpr fun z => by
    have z2 : (decide ((G ++ [Gv.n]).length = ss.length) && _) = true := z.2
    rw [decide_eq_false (by rw [List.length_append]; show ¬ _ + 1 = _; omega)] at z2
    cases z2
  subst hbt
  have eg4 := f4.at0 eg3
  have ep4 := f4.at0 ep3
  have dx4 := DaL.frL f4 dx3 (imm_stays ss)
  have dS4 := Da.frL f4 dS3 (imm_setup S)
  clear hb f4 eg3 ep3 dx3 dS3 e3'
  walk_at "go"
  rename_i t5 H5 n5 f5 e5 l6 H6 n6 f6 e6
  have F6 := f5.then0 f6
  refine g_cat (F6.at0 ep4) e6 (szL (by simp only [List.length_cons, List.length_nil]; omega)) fun c7 H7 n7 f7 e7 => ?_
  have F7 := F6.then0 f7
  have eg7 := F7.at0 eg4
  have ep7 := F7.at0 ep4
  have dx7 := DaL.frL F7 dx4 (imm_stays ss)
  have dS7 := Da.frL F7 dS4 (imm_setup S)
  have et7 := (f6.then0 f7).tup _ _ e5
  have hn1 := so.n1
  have hk1 := so.k1
  have dx7' : DaL H7 (xs ++ [V.ref t5]) ((ss ++ [((0, 0, 1) : Stay)]).map stayD) := by
    rw [List.map_append]
    exact dx7.append (.one' (.tup et7 (Nat.le_of_ble_eq_true rfl) (.cons (.int _) (.cons (.int _) (.one' (.int _))))))
  clear f5 f6 f7 F6 F7 e5 e6 n5 n6 n7 eg4 ep4 dx4 dS4 et7
  walk_at "go"
  refine c_Lrefused ⟨c7, g, _, S, ss ++ [((0, 0, 1) : Stay)], night, G, rfl, rfl, rfl, dS7, so, e7, dx7', by rw [List.length_append]; show _ + 1 ≤ _; omega, fun x hx => ?_, eg7, by omega, hz, fun b H8 hb f8 => ?_⟩
  · rcases List.mem_append.mp hx with q | q
    · exact ok x q
    · rw [List.mem_singleton.mp q]
      exact ⟨Int.le_refl _, by show (0 : Int) < S.rooms.length; omega, Int.le_refl _, by decide, hn1⟩
  have hbt : b = true := hb.mpr fun z => by
    have z2 : (decide (G.length = (ss ++ [((0, 0, 1) : Stay)]).length) && _) = true := z.2
    rw [decide_eq_false (by rw [List.length_append]; show ¬ _ = _ + 1; omega)] at z2
    cases z2
  subst hbt
  have eg8 := f8.at0 eg7
  have ep8 := f8.at0 ep7
  have dx8 := DaL.frL f8 dx7 (imm_stays ss)
  have dS8 := Da.frL f8 dS7 (imm_setup S)
  clear hb f8 eg7 ep7 dx7 dS7 e7 dx7'
  walk_at "go"
  refine c_Lrefused ⟨p, g, xs, S, ss, night, G, rfl, rfl, rfl, dS8, so, ep8, dx8, by omega, ok, eg8, by omega, hz, fun b1 H9 hb1 f9 => ?_⟩
  walk_at "go"
  refine c_Lgood ⟨p, g, xs, S, ss, night, G, rfl, rfl, rfl, Da.frL f9 dS8 (imm_setup S), so, f9.at0 ep8, DaL.frL f9 dx8 (imm_stays ss), by omega, ok, f9.at0 eg8, hlen, fun b2 H10 hb2 f10 => ?_⟩
  refine ⟨rfl, ?_⟩
  have hne : (!decide (V.bl b1 = V.bl b2)) = true := by
    cases b1 <;> cases b2 <;> simp_all
  rw [hne]
  exact k _
theorem ok_law {f : Addr} {fd : FuncData} (F : Fun K "law" "law" s_law f fd) (T : Txt K mg A) (c_Lsetup : Cal P w K mg base "_law_setup" 3 ["_law_draws"] (sp_Lsetup K A)) (c_Lstays : Cal P w K mg base "_law_stays" 4 ["_law_draws", "_law_setup_here", "_law_many"] (sp_Lstays K A)) (c_Lgiven : Cal P w K mg base "_law_given" 3 ["_law_draws", "_law_setup_here", "_law_stays_here", "_law_night"] (sp_Lgiven K A)) (c_Lnumbers : Cal P w K mg base "_law_numbers" 2 ["_law_script"] (sp_Lnumbers K A)) (c_Ldraw : Cal P w K mg base "_law_draw" 2 ["_law_draws"] (sp_Ldraw K A)) (c_Lrefused : CalG P w K mg base "_law_refused" 5 ["_law_setup_here", "_law_stays_here", "_law_night", "_law_given_here"] (sp_Lrefused K A)) (c_Lgood : Cal P w K mg base "_law_good" 2 ["_law_setup_here", "_law_stays_here", "_law_night", "_law_given_here"] (sp_Lgood K A)) : LawG P w K mg base (6) f fd ["_law_script"] (sp_law K A) := by
  refine Fun.law F sc_law (fun cdv s H vs Q E hr h => ⟨t_law K A, ?_, ?_⟩)
  · have hu := hu_of hr
    exact (pss_cons (ps_set (i := 1) sc_law.nd rfl (Or.inl rfl) (pe_lst (pa_cons (pe_cl c_Lnumbers (hr.mono (by first | decide | omega)) (by rfl) (pa_cons (pv 0) pa_nil)) (pa_cons pe_int pa_nil))))
    (pss_cons (ps_set (i := 2) sc_law.nd rfl (Or.inl rfl) (pe_cl c_Lsetup (hr.mono (by first | decide | omega)) (by rfl) (pa_cons (pv 1) pa_nil)))
    (pss_cons (ps_set (i := 3) sc_law.nd rfl (Or.inl rfl) (pe_cl c_Lstays (hr.mono (by first | decide | omega)) (by rfl) (pa_cons (pv 1) (pa_cons (pv 2) (pa_cons (pe_op o_add pe_int (pe_op o_mod (pe_cl c_Ldraw (hr.mono (by first | decide | omega)) (by rfl) (pa_cons (pv 1) pa_nil)) pe_int)) pa_nil)))))
    (pss_cons (ps_set (i := 4) sc_law.nd rfl (Or.inl rfl) (pe_op o_sub (pe_op o_mod (pe_cl c_Ldraw (hr.mono (by first | decide | omega)) (by rfl) (pa_cons (pv 1) pa_nil)) (pe_op o_add (pe_ix ix_tup (pv 2) pe_int (fun _ _ => rfl)) pe_int)) pe_int))
    (pss_cons (ps_set (i := 5) sc_law.nd rfl (Or.inl rfl) (pe_cl c_Lgiven (hr.mono (by first | decide | omega)) (by rfl) (pa_cons (pv 1) (pa_cons (pv 2) (pa_cons (pv 3) (pa_cons (pv 4) pa_nil))))))
    (pss_cons (ps_set (i := 6) sc_law.nd rfl (Or.inl rfl) (pe_op o_mod (pe_cl c_Ldraw (hr.mono (by first | decide | omega)) (by rfl) (pa_cons (pv 1) pa_nil)) pe_int))
    (pss_cons (ps_set (i := 7) sc_law.nd rfl (Or.inl rfl) (pe_op o_mod (pe_cl c_Ldraw (hr.mono (by first | decide | omega)) (by rfl) (pa_cons (pv 1) pa_nil)) (pe_callB (b_max2 rfl) (by rfl) T.b_max (by decide +kernel) (pa_cons pe_int (pa_cons (pe_callB b_len (by rfl) T.b_len (by decide +kernel) (pa_cons (pv 3) pa_nil)) pa_nil)))))
    (pss_cons (ps_if (pt_cmpR op_eq (pv 6) pe_int (nomark _)) (pss_cons (ps_set (i := 8) sc_law.nd rfl (Or.inl rfl) (pe_op o_mod (pe_cl c_Ldraw (hr.mono (by first | decide | omega)) (by rfl) (pa_cons (pv 1) pa_nil)) (pe_callB b_len (by rfl) T.b_len (by decide +kernel) (pa_cons (pe_ix ix_tup (pv 2) pe_int (fun _ _ => rfl)) pa_nil))))
    (pss_cons (ps_set (i := 9) sc_law.nd rfl (Or.inl rfl) (pe_op o_mod (pe_cl c_Ldraw (hr.mono (by first | decide | omega)) (by rfl) (pa_cons (pv 1) pa_nil)) (pe_ix ix_tup (pv 2) pe_int (fun _ _ => rfl))))
    (pss_one (ps_for PassesOwn.never rfl (pi_range1 rfl T.b_range (pa_cons (pe_op o_add pe_int (pe_op o_mod (pe_cl c_Ldraw (hr.mono (by first | decide | omega)) (by rfl) (pa_cons (pv 1) pa_nil)) pe_int)) pa_nil)) (pg_name (i := 10) sc_law.nd rfl (Or.inl rfl)) (pss_cons (ps_set (i := 11) sc_law.nd rfl (Or.inl rfl) (pe_op o_mod (pe_cl c_Ldraw (hr.mono (by first | decide | omega)) (by rfl) (pa_cons (pv 1) pa_nil)) (pe_op o_add (pe_callB b_len (by rfl) T.b_len (by decide +kernel) (pa_cons (pv 3) pa_nil)) pe_int)))
    (pss_cons (ps_expr (pe_bm PySem.F.plainAttrs_list PySem.F.slot_list_insert PySem.F.type_list_insert mt_insert (pv 3) (pa_cons (pv 11) (pa_cons (pe_tup (pa_cons (pv 8) (pa_cons (pv 9) (pa_cons (pe_op o_add (pv 9) pe_int) pa_nil)))) pa_nil))))
    (pss_one (ps_expr (pe_bm PySem.F.plainAttrs_list PySem.F.slot_list_insert PySem.F.type_list_insert mt_insert (pv 5) (pa_cons (pv 11) (pa_cons (pe_ix ix_list (pe_lst (pa_cons pe_non (pa_cons (pe_op o_mod (pv 10) (pe_callB (b_max2 rfl) (by rfl) T.b_max (by decide +kernel) (pa_cons pe_int (pa_cons (pe_ix ix_tup (pe_ix ix_tup (pv 2) pe_int (fun _ _ => rfl)) (pv 8) (fun _ _ => rfl)) pa_nil)))) pa_nil))) (pe_callTy b_intB (by rfl) T.b_int (by decide +kernel) (pa_cons (pe_cmpR c_le (pv 9) (pv 4) (nomark _)) pa_nil)) (fun _ _ => rfl)) pa_nil))))))))))) (pss_one (ps_if (PW.pt (pw_and (pt_cmpR op_eq (pv 6) pe_int (nomark _)) (pw_and (pt_cmpR c_gt (pe_callB b_len (by rfl) T.b_len (by decide +kernel) (pa_cons (pv 3) pa_nil)) pe_int (nomark _)) (pw_and1 (pt_cmpR c_notN (pe_ix ix_list (pv 5) (pv 7) (fun _ _ => rfl)) pe_non (nomark _)))))) (pss_one (ps_asg (pe_ix ix_list (pe_lst (pa_cons (pe_un un_neg pe_int) (pa_cons (pe_ix ix_tup (pe_ix ix_tup (pv 2) pe_int (fun _ _ => rfl)) (pe_ix ix_tup (pe_ix ix_list (pv 3) (pv 7) (fun _ _ => rfl)) pe_int (fun _ _ => rfl)) (fun _ _ => rfl)) (pa_cons pe_non (pa_cons pe_int (pa_cons (pe_op o_mod (pe_cl c_Ldraw (hr.mono (by first | decide | omega)) (by rfl) (pa_cons (pv 1) pa_nil)) pe_int) (pa_cons pe_bl (pa_cons pe_bl pa_nil)))))))) (pe_op o_mod (pe_cl c_Ldraw (hr.mono (by first | decide | omega)) (by rfl) (pa_cons (pv 1) pa_nil)) pe_int) (fun _ _ => rfl)) (pg_sub (pv 5) (pv 7) set_list))) (pss_one (ps_if (PW.pt (pw_and (pt_cmpR op_eq (pv 6) pe_int (nomark _)) (pw_and (pt_cmpR c_gt (pe_callB b_len (by rfl) T.b_len (by decide +kernel) (pa_cons (pv 3) pa_nil)) pe_int (nomark _)) (pw_and1 (pt_cmpR c_isN (pe_ix ix_list (pv 5) (pv 7) (fun _ _ => rfl)) pe_non (nomark _)))))) (pss_one (ps_asg (pe_op o_mod (pe_cl c_Ldraw (hr.mono (by first | decide | omega)) (by rfl) (pa_cons (pv 1) pa_nil)) pe_int) (pg_sub (pv 5) (pv 7) set_list))) (pss_one (ps_if (PW.pt (pw_and (pt_cmpR op_eq (pv 6) pe_int (nomark _)) (pw_and1 (pt_cmpR c_gt (pe_callB b_len (by rfl) T.b_len (by decide +kernel) (pa_cons (pv 3) pa_nil)) pe_int (nomark _))))) (pss_one (ps_asg (pe_ix ix_list (pv 5) (pe_op o_mod (pe_cl c_Ldraw (hr.mono (by first | decide | omega)) (by rfl) (pa_cons (pv 1) pa_nil)) (pe_callB b_len (by rfl) T.b_len (by decide +kernel) (pa_cons (pv 3) pa_nil))) (fun _ _ => rfl)) (pg_sub (pv 5) (pv 7) set_list))) pss_nil)))))))
    (pss_cons (ps_if (PW.pt (pw_or (pt_not (pt_val (pe_clG c_Lrefused rfl (hr.mono (by first | decide | omega)) (by rfl) (pa_cons (pv 2) (pa_cons (pv 3) (pa_cons (pv 4) (pa_cons (pe_op op_cat (pv 5) (pe_lst (pa_cons pe_non pa_nil))) pa_nil))))))) (pw_or1 (pt_not (pt_val (pe_clG c_Lrefused rfl (hr.mono (by first | decide | omega)) (by rfl) (pa_cons (pv 2) (pa_cons (pe_op op_cat (pv 3) (pe_lst (pa_cons (pe_tup (pa_cons pe_int (pa_cons pe_int (pa_cons pe_int pa_nil)))) pa_nil))) (pa_cons (pv 4) (pa_cons (pv 5) pa_nil)))))))))) (pss_one (ps_ret pe_bl)) pss_nil)
    (pss_one (ps_ret (pe_cmpR op_ne (pe_clG c_Lrefused rfl (hr.mono (by first | decide | omega)) (by rfl) (pa_cons (pv 2) (pa_cons (pv 3) (pa_cons (pv 4) (pa_cons (pv 5) pa_nil))))) (pe_cl c_Lgood (hr.mono (by first | decide | omega)) (by rfl) (pa_cons (pv 2) (pa_cons (pv 3) (pa_cons (pv 4) (pa_cons (pv 5) pa_nil))))) (nomark _)))))))))))))
  · obtain ⟨x0, rfl, h⟩ := h
    exact pu_law T h

end
/-! ### what the top has written -/
theorem all_mk {l : PySem.W.OpenLaw} {w : World} {K : PySem.W.Frag} {h : Heap} {mg : Str → Option Value} {fa : Addr} (X : K.In h) (G : h.Ns mainGlobals mg) (hfa : mg "law" = some (.ref fa))
    {f1 : Addr} {od1 an1 : Option Addr} {sl1 : Array (Option Value)} {oc1 kV1 dc1 pm1 cd1 ct1 : Value}
    {f2 : Addr} {od2 an2 : Option Addr} {sl2 : Array (Option Value)} {oc2 kV2 dc2 pm2 cd2 ct2 : Value}
    {f3 : Addr} {od3 an3 : Option Addr} {sl3 : Array (Option Value)} {oc3 kV3 dc3 pm3 cd3 ct3 : Value}
    {f4 : Addr} {od4 an4 : Option Addr} {sl4 : Array (Option Value)} {oc4 kV4 dc4 pm4 cd4 ct4 : Value}
    {f5 : Addr} {od5 an5 : Option Addr} {sl5 : Array (Option Value)} {oc5 kV5 dc5 pm5 cd5 ct5 : Value}
    {f6 : Addr} {od6 an6 : Option Addr} {sl6 : Array (Option Value)} {oc6 kV6 dc6 pm6 cd6 ct6 : Value}
    {f7 : Addr} {od7 an7 : Option Addr} {sl7 : Array (Option Value)} {oc7 kV7 dc7 pm7 cd7 ct7 : Value}
    {f8 : Addr} {od8 an8 : Option Addr} {sl8 : Array (Option Value)} {oc8 kV8 dc8 pm8 cd8 ct8 : Value}
    {f9 : Addr} {od9 an9 : Option Addr} {sl9 : Array (Option Value)} {oc9 kV9 dc9 pm9 cd9 ct9 : Value}
    {f10 : Addr} {od10 an10 : Option Addr} {sl10 : Array (Option Value)} {oc10 kV10 dc10 pm10 cd10 ct10 : Value}
    {f11 : Addr} {od11 an11 : Option Addr} {sl11 : Array (Option Value)} {oc11 kV11 dc11 pm11 cd11 ct11 : Value}
    {f12 : Addr} {od12 an12 : Option Addr} {sl12 : Array (Option Value)} {oc12 kV12 dc12 pm12 cd12 ct12 : Value}
    {f13 : Addr} {od13 an13 : Option Addr} {sl13 : Array (Option Value)} {oc13 kV13 dc13 pm13 cd13 ct13 : Value}
    {f14 : Addr} {od14 an14 : Option Addr} {sl14 : Array (Option Value)} {oc14 kV14 dc14 pm14 cd14 ct14 : Value}
    {f15 : Addr} {od15 an15 : Option Addr} {sl15 : Array (Option Value)} {oc15 kV15 dc15 pm15 cd15 ct15 : Value}
    {f16 : Addr} {od16 an16 : Option Addr} {sl16 : Array (Option Value)} {oc16 kV16 dc16 pm16 cd16 ct16 : Value}
    {f17 : Addr} {od17 an17 : Option Addr} {sl17 : Array (Option Value)} {oc17 kV17 dc17 pm17 cd17 ct17 : Value}
    {f18 : Addr} {od18 an18 : Option Addr} {sl18 : Array (Option Value)} {oc18 kV18 dc18 pm18 cd18 ct18 : Value}
    {f19 : Addr} {od19 an19 : Option Addr} {sl19 : Array (Option Value)} {oc19 kV19 dc19 pm19 cd19 ct19 : Value}
    {f20 : Addr} {od20 an20 : Option Addr} {sl20 : Array (Option Value)} {oc20 kV20 dc20 pm20 cd20 ct20 : Value}
    {C_ManydoorsError : Addr}
    {C_BadSetup : Addr}
    {C_BadDeed : Addr}
    {C_BadStay : Addr}
    {C_BadHistory : Addr}
    {C_BadText : Addr}
    {C_BadLine : Addr}
    (a1 : PySem.W.nsIn K mainGlobals "is_integer" = some (some (.ref f1)))
    (l1 : K.lookup f1 = some ⟨oc1, od1, .func (PySem.W.fnOf "is_integer" "is_integer" (defArgs s_is_integer) (defBody s_is_integer) (defScope s_is_integer) .none kV1 dc1 pm1 an1 cd1 ct1), sl1⟩)
    (c1 : PySem.W.codeIn K cd1 "is_integer" = true)
    (k1 : PySem.W.keepIn K (.ref f1) = true)
    (a2 : PySem.W.nsIn K mainGlobals "is_from" = some (some (.ref f2)))
    (l2 : K.lookup f2 = some ⟨oc2, od2, .func (PySem.W.fnOf "is_from" "is_from" (defArgs s_is_from) (defBody s_is_from) (defScope s_is_from) .none kV2 dc2 pm2 an2 cd2 ct2), sl2⟩)
    (c2 : PySem.W.codeIn K cd2 "is_from" = true)
    (k2 : PySem.W.keepIn K (.ref f2) = true)
    (a3 : PySem.W.nsIn K mainGlobals "nights_of" = some (some (.ref f3)))
    (l3 : K.lookup f3 = some ⟨oc3, od3, .func (PySem.W.fnOf "nights_of" "nights_of" (defArgs s_nights_of) (defBody s_nights_of) (defScope s_nights_of) .none kV3 dc3 pm3 an3 cd3 ct3), sl3⟩)
    (c3 : PySem.W.codeIn K cd3 "nights_of" = true)
    (k3 : PySem.W.keepIn K (.ref f3) = true)
    (a4 : PySem.W.nsIn K mainGlobals "meet" = some (some (.ref f4)))
    (l4 : K.lookup f4 = some ⟨oc4, od4, .func (PySem.W.fnOf "meet" "meet" (defArgs s_meet) (defBody s_meet) (defScope s_meet) .none kV4 dc4 pm4 an4 cd4 ct4), sl4⟩)
    (c4 : PySem.W.codeIn K cd4 "meet" = true)
    (k4 : PySem.W.keepIn K (.ref f4) = true)
    (a5 : PySem.W.nsIn K mainGlobals "check_room" = some (some (.ref f5)))
    (l5 : K.lookup f5 = some ⟨oc5, od5, .func (PySem.W.fnOf "check_room" "check_room" (defArgs s_check_room) (defBody s_check_room) (defScope s_check_room) .none kV5 dc5 pm5 an5 cd5 ct5), sl5⟩)
    (c5 : PySem.W.codeIn K cd5 "check_room" = true)
    (k5 : PySem.W.keepIn K (.ref f5) = true)
    (a6 : PySem.W.nsIn K mainGlobals "check_given" = some (some (.ref f6)))
    (l6 : K.lookup f6 = some ⟨oc6, od6, .func (PySem.W.fnOf "check_given" "check_given" (defArgs s_check_given) (defBody s_check_given) (defScope s_check_given) .none kV6 dc6 pm6 an6 cd6 ct6), sl6⟩)
    (c6 : PySem.W.codeIn K cd6 "check_given" = true)
    (k6 : PySem.W.keepIn K (.ref f6) = true)
    (a7 : PySem.W.nsIn K mainGlobals "housing" = some (some (.ref f7)))
    (l7 : K.lookup f7 = some ⟨oc7, od7, .func (PySem.W.fnOf "housing" "housing" (defArgs s_housing) (defBody s_housing) (defScope s_housing) .none kV7 dc7 pm7 an7 cd7 ct7), sl7⟩)
    (c7 : PySem.W.codeIn K cd7 "housing" = true)
    (k7 : PySem.W.keepIn K (.ref f7) = true)
    (a8 : PySem.W.nsIn K mainGlobals "_law_mixed" = some (some (.ref f8)))
    (l8 : K.lookup f8 = some ⟨oc8, od8, .func (PySem.W.fnOf "_law_mixed" "_law_mixed" (defArgs s_Lmixed) (defBody s_Lmixed) (defScope s_Lmixed) .none kV8 dc8 pm8 an8 cd8 ct8), sl8⟩)
    (c8 : PySem.W.codeIn K cd8 "_law_mixed" = true)
    (k8 : PySem.W.keepIn K (.ref f8) = true)
    (a9 : PySem.W.nsIn K mainGlobals "_law_numbers" = some (some (.ref f9)))
    (l9 : K.lookup f9 = some ⟨oc9, od9, .func (PySem.W.fnOf "_law_numbers" "_law_numbers" (defArgs s_Lnumbers) (defBody s_Lnumbers) (defScope s_Lnumbers) .none kV9 dc9 pm9 an9 cd9 ct9), sl9⟩)
    (c9 : PySem.W.codeIn K cd9 "_law_numbers" = true)
    (k9 : PySem.W.keepIn K (.ref f9) = true)
    (a10 : PySem.W.nsIn K mainGlobals "_law_draw" = some (some (.ref f10)))
    (l10 : K.lookup f10 = some ⟨oc10, od10, .func (PySem.W.fnOf "_law_draw" "_law_draw" (defArgs s_Ldraw) (defBody s_Ldraw) (defScope s_Ldraw) .none kV10 dc10 pm10 an10 cd10 ct10), sl10⟩)
    (c10 : PySem.W.codeIn K cd10 "_law_draw" = true)
    (k10 : PySem.W.keepIn K (.ref f10) = true)
    (a11 : PySem.W.nsIn K mainGlobals "_law_setup" = some (some (.ref f11)))
    (l11 : K.lookup f11 = some ⟨oc11, od11, .func (PySem.W.fnOf "_law_setup" "_law_setup" (defArgs s_Lsetup) (defBody s_Lsetup) (defScope s_Lsetup) .none kV11 dc11 pm11 an11 cd11 ct11), sl11⟩)
    (c11 : PySem.W.codeIn K cd11 "_law_setup" = true)
    (k11 : PySem.W.keepIn K (.ref f11) = true)
    (a12 : PySem.W.nsIn K mainGlobals "_law_stay" = some (some (.ref f12)))
    (l12 : K.lookup f12 = some ⟨oc12, od12, .func (PySem.W.fnOf "_law_stay" "_law_stay" (defArgs s_Lstay) (defBody s_Lstay) (defScope s_Lstay) .none kV12 dc12 pm12 an12 cd12 ct12), sl12⟩)
    (c12 : PySem.W.codeIn K cd12 "_law_stay" = true)
    (k12 : PySem.W.keepIn K (.ref f12) = true)
    (a13 : PySem.W.nsIn K mainGlobals "_law_meet" = some (some (.ref f13)))
    (l13 : K.lookup f13 = some ⟨oc13, od13, .func (PySem.W.fnOf "_law_meet" "_law_meet" (defArgs s_Lmeet) (defBody s_Lmeet) (defScope s_Lmeet) .none kV13 dc13 pm13 an13 cd13 ct13), sl13⟩)
    (c13 : PySem.W.codeIn K cd13 "_law_meet" = true)
    (k13 : PySem.W.keepIn K (.ref f13) = true)
    (a14 : PySem.W.nsIn K mainGlobals "_law_fits" = some (some (.ref f14)))
    (l14 : K.lookup f14 = some ⟨oc14, od14, .func (PySem.W.fnOf "_law_fits" "_law_fits" (defArgs s_Lfits) (defBody s_Lfits) (defScope s_Lfits) .none kV14 dc14 pm14 an14 cd14 ct14), sl14⟩)
    (c14 : PySem.W.codeIn K cd14 "_law_fits" = true)
    (k14 : PySem.W.keepIn K (.ref f14) = true)
    (a15 : PySem.W.nsIn K mainGlobals "_law_stays" = some (some (.ref f15)))
    (l15 : K.lookup f15 = some ⟨oc15, od15, .func (PySem.W.fnOf "_law_stays" "_law_stays" (defArgs s_Lstays) (defBody s_Lstays) (defScope s_Lstays) .none kV15 dc15 pm15 an15 cd15 ct15), sl15⟩)
    (c15 : PySem.W.codeIn K cd15 "_law_stays" = true)
    (k15 : PySem.W.keepIn K (.ref f15) = true)
    (a16 : PySem.W.nsIn K mainGlobals "_law_order" = some (some (.ref f16)))
    (l16 : K.lookup f16 = some ⟨oc16, od16, .func (PySem.W.fnOf "_law_order" "_law_order" (defArgs s_Lorder) (defBody s_Lorder) (defScope s_Lorder) .none kV16 dc16 pm16 an16 cd16 ct16), sl16⟩)
    (c16 : PySem.W.codeIn K cd16 "_law_order" = true)
    (k16 : PySem.W.keepIn K (.ref f16) = true)
    (a17 : PySem.W.nsIn K mainGlobals "_law_given" = some (some (.ref f17)))
    (l17 : K.lookup f17 = some ⟨oc17, od17, .func (PySem.W.fnOf "_law_given" "_law_given" (defArgs s_Lgiven) (defBody s_Lgiven) (defScope s_Lgiven) .none kV17 dc17 pm17 an17 cd17 ct17), sl17⟩)
    (c17 : PySem.W.codeIn K cd17 "_law_given" = true)
    (k17 : PySem.W.keepIn K (.ref f17) = true)
    (a18 : PySem.W.nsIn K mainGlobals "_law_good" = some (some (.ref f18)))
    (l18 : K.lookup f18 = some ⟨oc18, od18, .func (PySem.W.fnOf "_law_good" "_law_good" (defArgs s_Lgood) (defBody s_Lgood) (defScope s_Lgood) .none kV18 dc18 pm18 an18 cd18 ct18), sl18⟩)
    (c18 : PySem.W.codeIn K cd18 "_law_good" = true)
    (k18 : PySem.W.keepIn K (.ref f18) = true)
    (a19 : PySem.W.nsIn K mainGlobals "_law_refused" = some (some (.ref f19)))
    (l19 : K.lookup f19 = some ⟨oc19, od19, .func (PySem.W.fnOf "_law_refused" "_law_refused" (defArgs s_Lrefused) (defBody s_Lrefused) (defScope s_Lrefused) .none kV19 dc19 pm19 an19 cd19 ct19), sl19⟩)
    (c19 : PySem.W.codeIn K cd19 "_law_refused" = true)
    (k19 : PySem.W.keepIn K (.ref f19) = true)
    (a20 : PySem.W.nsIn K mainGlobals "law" = some (some (.ref f20)))
    (l20 : K.lookup f20 = some ⟨oc20, od20, .func (PySem.W.fnOf "law" "law" (defArgs s_law) (defBody s_law) (defScope s_law) .none kV20 dc20 pm20 an20 cd20 ct20), sl20⟩)
    (c20 : PySem.W.codeIn K cd20 "law" = true)
    (k20 : PySem.W.keepIn K (.ref f20) = true)
    (aC_ManydoorsError : PySem.W.nsIn K mainGlobals "ManydoorsError" = some (some (.ref C_ManydoorsError)))
    (kx_ManydoorsError : PySem.W.keepIn K (.ref C_ManydoorsError) = true)
    (ex_ManydoorsError : PySem.W.excIn K C_ManydoorsError [.type "ValueError", .type "Exception", .type "BaseException", .type "object"] "ValueError.__new__" = true)
    (sx_ManydoorsError : PySem.W.subIn K (.ref C_ManydoorsError) (.type "BaseException") = some true)
    (tx_ManydoorsError : PySem.W.typeIn K (.ref C_ManydoorsError) = some (.type "type"))
    (aC_BadSetup : PySem.W.nsIn K mainGlobals "BadSetup" = some (some (.ref C_BadSetup)))
    (kx_BadSetup : PySem.W.keepIn K (.ref C_BadSetup) = true)
    (ex_BadSetup : PySem.W.excIn K C_BadSetup [.type "ValueError", .type "Exception", .type "BaseException", .type "object"] "ValueError.__new__" = true)
    (sx_BadSetup : PySem.W.subIn K (.ref C_BadSetup) (.type "BaseException") = some true)
    (tx_BadSetup : PySem.W.typeIn K (.ref C_BadSetup) = some (.type "type"))
    (aC_BadDeed : PySem.W.nsIn K mainGlobals "BadDeed" = some (some (.ref C_BadDeed)))
    (kx_BadDeed : PySem.W.keepIn K (.ref C_BadDeed) = true)
    (ex_BadDeed : PySem.W.excIn K C_BadDeed [.type "ValueError", .type "Exception", .type "BaseException", .type "object"] "ValueError.__new__" = true)
    (sx_BadDeed : PySem.W.subIn K (.ref C_BadDeed) (.type "BaseException") = some true)
    (tx_BadDeed : PySem.W.typeIn K (.ref C_BadDeed) = some (.type "type"))
    (aC_BadStay : PySem.W.nsIn K mainGlobals "BadStay" = some (some (.ref C_BadStay)))
    (kx_BadStay : PySem.W.keepIn K (.ref C_BadStay) = true)
    (ex_BadStay : PySem.W.excIn K C_BadStay [.type "ValueError", .type "Exception", .type "BaseException", .type "object"] "ValueError.__new__" = true)
    (sx_BadStay : PySem.W.subIn K (.ref C_BadStay) (.type "BaseException") = some true)
    (tx_BadStay : PySem.W.typeIn K (.ref C_BadStay) = some (.type "type"))
    (aC_BadHistory : PySem.W.nsIn K mainGlobals "BadHistory" = some (some (.ref C_BadHistory)))
    (kx_BadHistory : PySem.W.keepIn K (.ref C_BadHistory) = true)
    (ex_BadHistory : PySem.W.excIn K C_BadHistory [.type "ValueError", .type "Exception", .type "BaseException", .type "object"] "ValueError.__new__" = true)
    (sx_BadHistory : PySem.W.subIn K (.ref C_BadHistory) (.type "BaseException") = some true)
    (tx_BadHistory : PySem.W.typeIn K (.ref C_BadHistory) = some (.type "type"))
    (aC_BadText : PySem.W.nsIn K mainGlobals "BadText" = some (some (.ref C_BadText)))
    (kx_BadText : PySem.W.keepIn K (.ref C_BadText) = true)
    (ex_BadText : PySem.W.excIn K C_BadText [.type "ValueError", .type "Exception", .type "BaseException", .type "object"] "ValueError.__new__" = true)
    (sx_BadText : PySem.W.subIn K (.ref C_BadText) (.type "BaseException") = some true)
    (tx_BadText : PySem.W.typeIn K (.ref C_BadText) = some (.type "type"))
    (aC_BadLine : PySem.W.nsIn K mainGlobals "BadLine" = some (some (.ref C_BadLine)))
    (kx_BadLine : PySem.W.keepIn K (.ref C_BadLine) = true)
    (ex_BadLine : PySem.W.excIn K C_BadLine [.type "ValueError", .type "Exception", .type "BaseException", .type "object"] "ValueError.__new__" = true)
    (sx_BadLine : PySem.W.subIn K (.ref C_BadLine) (.type "BaseException") = some true)
    (tx_BadLine : PySem.W.typeIn K (.ref C_BadLine) = some (.type "type"))
    (y1_BadStay : PySem.W.findIn K (.ref C_BadStay) "__getattribute__" = some (some (.builtin "BaseException.__getattribute__")))
    (y2_BadStay : PySem.W.findIn K (.ref C_BadStay) "__getattr__" = some none)
    (y3_BadStay : PySem.W.hasDictIn K C_BadStay = true)
    (y4_BadStay : PySem.W.findIn K (.ref C_BadStay) "__class__" = some (some (.builtin "object.__class__")))
    (y5_BadStay : PySem.W.specialIn K (.builtin "object.__class__") "__get__" = some (some (.builtin "getset_descriptor.__get__")))
    (y6_BadStay : PySem.W.takesIn K (.builtin "object.__class__") = some true)
    (y7_BadStay : PySem.W.mroIn K C_BadStay (.type "object") = some true)
    (q_k_self : PySem.W.subIn K (.ref C_BadStay) (.ref C_BadStay) = some true)
    (q_k_many : PySem.W.kitOne K (.ref C_BadStay) (.ref C_ManydoorsError) = some true)
    (q_k_oth : PySem.W.kitAny K (.ref C_BadStay) [.ref C_BadDeed, .ref C_BadHistory, .ref C_BadLine, .ref C_BadSetup, .ref C_BadText] = some false)
    (z_isinstance : PySem.W.nsIn K mainGlobals "isinstance" = some none)
    (z_int : PySem.W.nsIn K mainGlobals "int" = some none)
    (z_bool : PySem.W.nsIn K mainGlobals "bool" = some none)
    (z_list : PySem.W.nsIn K mainGlobals "list" = some none)
    (z_range : PySem.W.nsIn K mainGlobals "range" = some none)
    (z_max : PySem.W.nsIn K mainGlobals "max" = some none)
    (z_min : PySem.W.nsIn K mainGlobals "min" = some none)
    (z_len : PySem.W.nsIn K mainGlobals "len" = some none)
    (z_enumerate : PySem.W.nsIn K mainGlobals "enumerate" = some none)
    (z_sorted : PySem.W.nsIn K mainGlobals "sorted" = some none)
    (z_tuple : PySem.W.nsIn K mainGlobals "tuple" = some none)
    (z_str : PySem.W.nsIn K mainGlobals "str" = some none)
    : ∃ fd : FuncData, (∀ (s : Shared) (v : Value), BindsTo s fd ⟨[v], []⟩ [("_law_script", v)]) ∧ ∀ base : Heap, K.In base → base.Ns mainGlobals mg → LawG l.prog w K mg base 6 fa fd ["_law_script"] (spLaw K) := by
  have e := hfa.symm.trans (PySem.W.mg_of X G a20)
  cases e
  let A : Ad := ⟨C_ManydoorsError, C_BadSetup, C_BadDeed, C_BadStay, C_BadHistory, C_BadText, C_BadLine⟩
  have T : Txt K mg A := { b_isinstance := PySem.W.mg_none_of X G z_isinstance, b_int := PySem.W.mg_none_of X G z_int, b_bool := PySem.W.mg_none_of X G z_bool, b_list := PySem.W.mg_none_of X G z_list, b_range := PySem.W.mg_none_of X G z_range, b_max := PySem.W.mg_none_of X G z_max, b_min := PySem.W.mg_none_of X G z_min, b_len := PySem.W.mg_none_of X G z_len, b_enumerate := PySem.W.mg_none_of X G z_enumerate, b_sorted := PySem.W.mg_none_of X G z_sorted, b_tuple := PySem.W.mg_none_of X G z_tuple, b_str := PySem.W.mg_none_of X G z_str, x_ManydoorsError := ⟨PySem.W.mg_of X G aC_ManydoorsError, kx_ManydoorsError, ex_ManydoorsError, sx_ManydoorsError, tx_ManydoorsError⟩, x_BadSetup := ⟨PySem.W.mg_of X G aC_BadSetup, kx_BadSetup, ex_BadSetup, sx_BadSetup, tx_BadSetup⟩, x_BadDeed := ⟨PySem.W.mg_of X G aC_BadDeed, kx_BadDeed, ex_BadDeed, sx_BadDeed, tx_BadDeed⟩, x_BadStay := ⟨PySem.W.mg_of X G aC_BadStay, kx_BadStay, ex_BadStay, sx_BadStay, tx_BadStay⟩, x_BadHistory := ⟨PySem.W.mg_of X G aC_BadHistory, kx_BadHistory, ex_BadHistory, sx_BadHistory, tx_BadHistory⟩, x_BadText := ⟨PySem.W.mg_of X G aC_BadText, kx_BadText, ex_BadText, sx_BadText, tx_BadText⟩, x_BadLine := ⟨PySem.W.mg_of X G aC_BadLine, kx_BadLine, ex_BadLine, sx_BadLine, tx_BadLine⟩, ec_BadStay := ⟨y1_BadStay, y2_BadStay, sx_BadStay, y3_BadStay, y4_BadStay, y5_BadStay, y6_BadStay, y7_BadStay⟩, k_self := q_k_self, k_many := q_k_many, k_oth := q_k_oth }
  have F1 := fun_mk (st := s_is_integer) l1 c1 k1
  have b1 := F1.binds (ps := ["value"]) fun _ _ _ _ _ _ us hl => match us, hl with | [_], _ => rfl
  have F2 := fun_mk (st := s_is_from) l2 c2 k2
  have b2 := F2.binds (ps := ["value", "least", "most"]) fun _ _ _ _ _ _ us hl => match us, hl with | [_, _, _], _ => rfl
  have F3 := fun_mk (st := s_nights_of) l3 c3 k3
  have b3 := F3.binds (ps := ["stay"]) fun _ _ _ _ _ _ us hl => match us, hl with | [_], _ => rfl
  have F4 := fun_mk (st := s_meet) l4 c4 k4
  have b4 := F4.binds (ps := ["first", "second"]) fun _ _ _ _ _ _ us hl => match us, hl with | [_, _], _ => rfl
  have F5 := fun_mk (st := s_check_room) l5 c5 k5
  have b5 := F5.binds (ps := ["rooms", "stays"]) fun _ _ _ _ _ _ us hl => match us, hl with | [_, _], _ => rfl
  have F6 := fun_mk (st := s_check_given) l6 c6 k6
  have b6 := F6.binds (ps := ["rooms", "stays", "night", "given"]) fun _ _ _ _ _ _ us hl => match us, hl with | [_, _, _, _], _ => rfl
  have F7 := fun_mk (st := s_housing) l7 c7 k7
  have b7 := F7.binds (ps := ["rooms", "stays", "night", "given"]) fun _ _ _ _ _ _ us hl => match us, hl with | [_, _, _, _], _ => rfl
  have F8 := fun_mk (st := s_Lmixed) l8 c8 k8
  have b8 := F8.binds (ps := ["_law_number", "_law_k"]) fun _ _ _ _ _ _ us hl => match us, hl with | [_, _], _ => rfl
  have F9 := fun_mk (st := s_Lnumbers) l9 c9 k9
  have b9 := F9.binds (ps := ["_law_script"]) fun _ _ _ _ _ _ us hl => match us, hl with | [_], _ => rfl
  have F10 := fun_mk (st := s_Ldraw) l10 c10 k10
  have b10 := F10.binds (ps := ["_law_draws"]) fun _ _ _ _ _ _ us hl => match us, hl with | [_], _ => rfl
  have F11 := fun_mk (st := s_Lsetup) l11 c11 k11
  have b11 := F11.binds (ps := ["_law_draws"]) fun _ _ _ _ _ _ us hl => match us, hl with | [_], _ => rfl
  have F12 := fun_mk (st := s_Lstay) l12 c12 k12
  have b12 := F12.binds (ps := ["_law_draws", "_law_setup_here"]) fun _ _ _ _ _ _ us hl => match us, hl with | [_, _], _ => rfl
  have F13 := fun_mk (st := s_Lmeet) l13 c13 k13
  have b13 := F13.binds (ps := ["_law_first", "_law_second"]) fun _ _ _ _ _ _ us hl => match us, hl with | [_, _], _ => rfl
  have F14 := fun_mk (st := s_Lfits) l14 c14 k14
  have b14 := F14.binds (ps := ["_law_setup_here", "_law_stays_here"]) fun _ _ _ _ _ _ us hl => match us, hl with | [_, _], _ => rfl
  have F15 := fun_mk (st := s_Lstays) l15 c15 k15
  have b15 := F15.binds (ps := ["_law_draws", "_law_setup_here", "_law_many"]) fun _ _ _ _ _ _ us hl => match us, hl with | [_, _, _], _ => rfl
  have F16 := fun_mk (st := s_Lorder) l16 c16 k16
  have b16 := F16.binds (ps := ["_law_stays_here"]) fun _ _ _ _ _ _ us hl => match us, hl with | [_], _ => rfl
  have F17 := fun_mk (st := s_Lgiven) l17 c17 k17
  have b17 := F17.binds (ps := ["_law_draws", "_law_setup_here", "_law_stays_here", "_law_night"]) fun _ _ _ _ _ _ us hl => match us, hl with | [_, _, _, _], _ => rfl
  have F18 := fun_mk (st := s_Lgood) l18 c18 k18
  have b18 := F18.binds (ps := ["_law_setup_here", "_law_stays_here", "_law_night", "_law_given_here"]) fun _ _ _ _ _ _ us hl => match us, hl with | [_, _, _, _], _ => rfl
  have F19 := fun_mk (st := s_Lrefused) l19 c19 k19
  have b19 := F19.binds (ps := ["_law_setup_here", "_law_stays_here", "_law_night", "_law_given_here"]) fun _ _ _ _ _ _ us hl => match us, hl with | [_, _, _, _], _ => rfl
  have F20 := fun_mk (st := s_law) l20 c20 k20
  have b20 := F20.binds (ps := ["_law_script"]) fun _ _ _ _ _ _ us hl => match us, hl with | [_], _ => rfl
  refine ⟨PySem.W.fnOf "law" "law" (defArgs s_law) (defBody s_law) (defScope s_law) .none kV20 dc20 pm20 an20 cd20 ct20, fun s v => .of_eq rfl, fun base _ _ => ?_⟩
  have o_is_integer := ok_is_integer (P := l.prog) (w := w) (base := base) F1 T 
  have e_is_integer : Cal l.prog w K mg base "is_integer" 1 ["value"] (sp_is_integer K A) := ⟨⟨_, _, o_is_integer, PySem.W.mg_of X G a1, k1, b1⟩⟩
  have o_is_from := ok_is_from (P := l.prog) (w := w) (base := base) F2 T e_is_integer
  have e_is_from : Cal l.prog w K mg base "is_from" 2 ["value", "least", "most"] (sp_is_from K A) := ⟨⟨_, _, o_is_from, PySem.W.mg_of X G a2, k2, b2⟩⟩
  have o_nights_of := ok_nights_of (P := l.prog) (w := w) (base := base) F3 T 
  have e_nights_of : Cal l.prog w K mg base "nights_of" 1 ["stay"] (sp_nights_of K A) := ⟨⟨_, _, o_nights_of, PySem.W.mg_of X G a3, k3, b3⟩⟩
  have o_meet := ok_meet (P := l.prog) (w := w) (base := base) F4 T 
  have e_meet : Cal l.prog w K mg base "meet" 1 ["first", "second"] (sp_meet K A) := ⟨⟨_, _, o_meet, PySem.W.mg_of X G a4, k4, b4⟩⟩
  have o_check_room := ok_check_room (P := l.prog) (w := w) (base := base) F5 T e_nights_of e_meet
  have e_check_room : CalX l.prog w K mg base "check_room" 2 ["rooms", "stays"] (sp_check_room K A) := ⟨⟨_, _, o_check_room, PySem.W.mg_of X G a5, k5, b5⟩⟩
  have o_check_given := ok_check_given (P := l.prog) (w := w) (base := base) F6 T e_is_from e_meet
  have e_check_given : CalX l.prog w K mg base "check_given" 3 ["rooms", "stays", "night", "given"] (sp_check_given K A) := ⟨⟨_, _, o_check_given, PySem.W.mg_of X G a6, k6, b6⟩⟩
  have o_housing := ok_housing (P := l.prog) (w := w) (base := base) F7 T e_check_room e_check_given e_meet
  have e_housing : CalX l.prog w K mg base "housing" 4 ["rooms", "stays", "night", "given"] (sp_housing K A) := ⟨⟨_, _, o_housing, PySem.W.mg_of X G a7, k7, b7⟩⟩
  have o_Lmixed := ok_Lmixed (P := l.prog) (w := w) (base := base) F8 T 
  have e_Lmixed : Cal l.prog w K mg base "_law_mixed" 1 ["_law_number", "_law_k"] (sp_Lmixed K A) := ⟨⟨_, _, o_Lmixed, PySem.W.mg_of X G a8, k8, b8⟩⟩
  have o_Lnumbers := ok_Lnumbers (P := l.prog) (w := w) (base := base) F9 T e_Lmixed
  have e_Lnumbers : Cal l.prog w K mg base "_law_numbers" 2 ["_law_script"] (sp_Lnumbers K A) := ⟨⟨_, _, o_Lnumbers, PySem.W.mg_of X G a9, k9, b9⟩⟩
  have o_Ldraw := ok_Ldraw (P := l.prog) (w := w) (base := base) F10 T e_Lmixed
  have e_Ldraw : Cal l.prog w K mg base "_law_draw" 2 ["_law_draws"] (sp_Ldraw K A) := ⟨⟨_, _, o_Ldraw, PySem.W.mg_of X G a10, k10, b10⟩⟩
  have o_Lsetup := ok_Lsetup (P := l.prog) (w := w) (base := base) F11 T e_Ldraw
  have e_Lsetup : Cal l.prog w K mg base "_law_setup" 3 ["_law_draws"] (sp_Lsetup K A) := ⟨⟨_, _, o_Lsetup, PySem.W.mg_of X G a11, k11, b11⟩⟩
  have o_Lstay := ok_Lstay (P := l.prog) (w := w) (base := base) F12 T e_Ldraw
  have e_Lstay : Cal l.prog w K mg base "_law_stay" 3 ["_law_draws", "_law_setup_here"] (sp_Lstay K A) := ⟨⟨_, _, o_Lstay, PySem.W.mg_of X G a12, k12, b12⟩⟩
  have o_Lmeet := ok_Lmeet (P := l.prog) (w := w) (base := base) F13 T 
  have e_Lmeet : Cal l.prog w K mg base "_law_meet" 1 ["_law_first", "_law_second"] (sp_Lmeet K A) := ⟨⟨_, _, o_Lmeet, PySem.W.mg_of X G a13, k13, b13⟩⟩
  have o_Lfits := ok_Lfits (P := l.prog) (w := w) (base := base) F14 T 
  have e_Lfits : Cal l.prog w K mg base "_law_fits" 1 ["_law_setup_here", "_law_stays_here"] (sp_Lfits K A) := ⟨⟨_, _, o_Lfits, PySem.W.mg_of X G a14, k14, b14⟩⟩
  have o_Lstays := ok_Lstays (P := l.prog) (w := w) (base := base) F15 T e_Lstay e_Lfits
  have e_Lstays : Cal l.prog w K mg base "_law_stays" 4 ["_law_draws", "_law_setup_here", "_law_many"] (sp_Lstays K A) := ⟨⟨_, _, o_Lstays, PySem.W.mg_of X G a15, k15, b15⟩⟩
  have o_Lorder := ok_Lorder (P := l.prog) (w := w) (base := base) F16 T 
  have e_Lorder : Cal l.prog w K mg base "_law_order" 1 ["_law_stays_here"] (sp_Lorder K A) := ⟨⟨_, _, o_Lorder, PySem.W.mg_of X G a16, k16, b16⟩⟩
  have o_Lgiven := ok_Lgiven (P := l.prog) (w := w) (base := base) F17 T e_Lorder e_Ldraw e_Lmeet
  have e_Lgiven : Cal l.prog w K mg base "_law_given" 3 ["_law_draws", "_law_setup_here", "_law_stays_here", "_law_night"] (sp_Lgiven K A) := ⟨⟨_, _, o_Lgiven, PySem.W.mg_of X G a17, k17, b17⟩⟩
  have o_Lgood := ok_Lgood (P := l.prog) (w := w) (base := base) F18 T e_Lfits e_Lmeet
  have e_Lgood : Cal l.prog w K mg base "_law_good" 2 ["_law_setup_here", "_law_stays_here", "_law_night", "_law_given_here"] (sp_Lgood K A) := ⟨⟨_, _, o_Lgood, PySem.W.mg_of X G a18, k18, b18⟩⟩
  have o_Lrefused := ok_Lrefused (P := l.prog) (w := w) (base := base) F19 T e_housing
  have e_Lrefused : CalG l.prog w K mg base "_law_refused" 5 ["_law_setup_here", "_law_stays_here", "_law_night", "_law_given_here"] (sp_Lrefused K A) := ⟨⟨_, _, o_Lrefused, PySem.W.mg_of X G a19, k19, b19⟩⟩
  have o := ok_law (P := l.prog) (w := w) (base := base) F20 T e_Lsetup e_Lstays e_Lgiven e_Lnumbers e_Ldraw e_Lrefused e_Lgood
  exact ⟨fun s H us vs Q E r e b v u h => o.go s H us vs Q E r e b v u h⟩
theorem walk {l : PySem.W.OpenLaw} {q : Program} {loose : List Str} {XP : (Str → Option Value) → Heap → Prop} {YP : World → Heap → Prop} {d : DefRec} {K : Params → PySem.W.Frag} (hn : l.most = some 63) (hdf : d.params.defaults = [])
    (hY : ∀ (w : World) (h : Heap), YP w h → (K w.params).In h)
    (F : ∀ (w : World) (mg : Str → Option Value) (fa : Addr) (h : Heap), (K w.params).In h → h.Ns mainGlobals mg → mg d.name = some (.ref fa) →
      ∃ fd : FuncData, (∀ (s : Shared) (u : Value), BindsTo s fd ⟨[u], []⟩ [("_law_script", u)]) ∧ ∀ base : Heap, (K w.params).In base → base.Ns mainGlobals mg → LawG l.prog w (K w.params) mg base 6 fa fd ["_law_script"] (spLaw (K w.params))) :
    PySem.W.WalkO q loose XP YP l.row.toRowW d [] (fun f vs => PySem.call f vs) :=
  walkG (n := 63) (k := 6) (x := "_law_script") (sp := fun w => spLaw (K w.params)) hn (by decide) hdf ⟨rfl, by decide, by decide⟩ hY F (fun _ _ a ns hl hS => ⟨_, rfl, a, ns, rfl, hS, hl, fun _ => rfl⟩)
end Toy
open PySem PySem.W PyProof.Rows in
set_option maxRecDepth 100000 in
set_option maxHeartbeats 0 in
theorem PySem.Challenge.cw_manydoors_k06_housings_are_refused_holds : PySem.Challenge.rw_manydoors_k06_housings_are_refused.Holds := by
  w_on; o_law; k_head; (case hw => w_witness2)
  k_fill
  refine Toy.walk (l := PySem.Challenge.rw_manydoors_k06_housings_are_refused) rfl rfl (fun w h Y => PySem.W.kIn_of Y) ?F
  case F =>
    intro w mg fa h KX G hmg
    refine' Toy.all_mk KX G hmg ?a1 ?l1 ?c1 ?k1 ?a2 ?l2 ?c2 ?k2 ?a3 ?l3 ?c3 ?k3 ?a4 ?l4 ?c4 ?k4 ?a5 ?l5 ?c5 ?k5 ?a6 ?l6 ?c6 ?k6 ?a7 ?l7 ?c7 ?k7 ?a8 ?l8 ?c8 ?k8 ?a9 ?l9 ?c9 ?k9 ?a10 ?l10 ?c10 ?k10 ?a11 ?l11 ?c11 ?k11 ?a12 ?l12 ?c12 ?k12 ?a13 ?l13 ?c13 ?k13 ?a14 ?l14 ?c14 ?k14 ?a15 ?l15 ?c15 ?k15 ?a16 ?l16 ?c16 ?k16 ?a17 ?l17 ?c17 ?k17 ?a18 ?l18 ?c18 ?k18 ?a19 ?l19 ?c19 ?k19 ?a20 ?l20 ?c20 ?k20 ?aC_ManydoorsError ?kx_ManydoorsError ?ex_ManydoorsError ?sx_ManydoorsError ?tx_ManydoorsError ?aC_BadSetup ?kx_BadSetup ?ex_BadSetup ?sx_BadSetup ?tx_BadSetup ?aC_BadDeed ?kx_BadDeed ?ex_BadDeed ?sx_BadDeed ?tx_BadDeed ?aC_BadStay ?kx_BadStay ?ex_BadStay ?sx_BadStay ?tx_BadStay ?aC_BadHistory ?kx_BadHistory ?ex_BadHistory ?sx_BadHistory ?tx_BadHistory ?aC_BadText ?kx_BadText ?ex_BadText ?sx_BadText ?tx_BadText ?aC_BadLine ?kx_BadLine ?ex_BadLine ?sx_BadLine ?tx_BadLine ?y1_BadStay ?y2_BadStay ?y3_BadStay ?y4_BadStay ?y5_BadStay ?y6_BadStay ?y7_BadStay ?q_k_self ?q_k_many ?q_k_oth ?z_isinstance ?z_int ?z_bool ?z_list ?z_range ?z_max ?z_min ?z_len ?z_enumerate ?z_sorted ?z_tuple ?z_str
    (case a1 => k_is)
    (case l1 => k_is)
    (case c1 => k_is)
    (case k1 => k_is)
    (case a2 => k_is)
    (case l2 => k_is)
    (case c2 => k_is)
    (case k2 => k_is)
    (case a3 => k_is)
    (case l3 => k_is)
    (case c3 => k_is)
    (case k3 => k_is)
    (case a4 => k_is)
    (case l4 => k_is)
    (case c4 => k_is)
    (case k4 => k_is)
    (case a5 => k_is)
    (case l5 => k_is)
    (case c5 => k_is)
    (case k5 => k_is)
    (case a6 => k_is)
    (case l6 => k_is)
    (case c6 => k_is)
    (case k6 => k_is)
    (case a7 => k_is)
    (case l7 => k_is)
    (case c7 => k_is)
    (case k7 => k_is)
    (case a8 => k_is)
    (case l8 => k_is)
    (case c8 => k_is)
    (case k8 => k_is)
    (case a9 => k_is)
    (case l9 => k_is)
    (case c9 => k_is)
    (case k9 => k_is)
    (case a10 => k_is)
    (case l10 => k_is)
    (case c10 => k_is)
    (case k10 => k_is)
    (case a11 => k_is)
    (case l11 => k_is)
    (case c11 => k_is)
    (case k11 => k_is)
    (case a12 => k_is)
    (case l12 => k_is)
    (case c12 => k_is)
    (case k12 => k_is)
    (case a13 => k_is)
    (case l13 => k_is)
    (case c13 => k_is)
    (case k13 => k_is)
    (case a14 => k_is)
    (case l14 => k_is)
    (case c14 => k_is)
    (case k14 => k_is)
    (case a15 => k_is)
    (case l15 => k_is)
    (case c15 => k_is)
    (case k15 => k_is)
    (case a16 => k_is)
    (case l16 => k_is)
    (case c16 => k_is)
    (case k16 => k_is)
    (case a17 => k_is)
    (case l17 => k_is)
    (case c17 => k_is)
    (case k17 => k_is)
    (case a18 => k_is)
    (case l18 => k_is)
    (case c18 => k_is)
    (case k18 => k_is)
    (case a19 => k_is)
    (case l19 => k_is)
    (case c19 => k_is)
    (case k19 => k_is)
    (case a20 => k_is)
    (case l20 => k_is)
    (case c20 => k_is)
    (case k20 => k_is)
    (case aC_ManydoorsError => k_is)
    (case kx_ManydoorsError => k_is)
    (case ex_ManydoorsError => k_exc)
    (case sx_ManydoorsError => k_is)
    (case tx_ManydoorsError => k_is)
    (case aC_BadSetup => k_is)
    (case kx_BadSetup => k_is)
    (case ex_BadSetup => k_exc)
    (case sx_BadSetup => k_is)
    (case tx_BadSetup => k_is)
    (case aC_BadDeed => k_is)
    (case kx_BadDeed => k_is)
    (case ex_BadDeed => k_exc)
    (case sx_BadDeed => k_is)
    (case tx_BadDeed => k_is)
    (case aC_BadStay => k_is)
    (case kx_BadStay => k_is)
    (case ex_BadStay => k_exc)
    (case sx_BadStay => k_is)
    (case tx_BadStay => k_is)
    (case aC_BadHistory => k_is)
    (case kx_BadHistory => k_is)
    (case ex_BadHistory => k_exc)
    (case sx_BadHistory => k_is)
    (case tx_BadHistory => k_is)
    (case aC_BadText => k_is)
    (case kx_BadText => k_is)
    (case ex_BadText => k_exc)
    (case sx_BadText => k_is)
    (case tx_BadText => k_is)
    (case aC_BadLine => k_is)
    (case kx_BadLine => k_is)
    (case ex_BadLine => k_exc)
    (case sx_BadLine => k_is)
    (case tx_BadLine => k_is)
    (case y1_BadStay => k_is)
    (case y2_BadStay => k_is)
    (case y3_BadStay => k_is)
    (case y4_BadStay => k_is)
    (case y5_BadStay => k_is)
    (case y6_BadStay => k_is)
    (case y7_BadStay => k_is)
    (case q_k_self => k_is)
    (case q_k_many => kit_is)
    (case q_k_oth => kit_is)
    (case z_isinstance => k_is)
    (case z_int => k_is)
    (case z_bool => k_is)
    (case z_list => k_is)
    (case z_range => k_is)
    (case z_max => k_is)
    (case z_min => k_is)
    (case z_len => k_is)
    (case z_enumerate => k_is)
    (case z_sorted => k_is)
    (case z_tuple => k_is)
    (case z_str => k_is)
#print axioms PySem.Challenge.cw_manydoors_k06_housings_are_refused_holds


