import PyProof.Rows.All
import Wide.All
import OpenK.AllK
import Wide.FinOn
import HandS.ForMost
import HandS.IsInst
import HandS.Evl
import HandS.Walk
import KE.GoesEnum
import KE.GoesMore
import HandS.Zip
import KE.SortData
import KE.KDictCopyH
import HandS.Conv
import HandS.Finally
import HandS.ForExc
import HandS.ExcIs
import HandS.TryMany
import HandS.TupMul
import HandS.TupAny
import HandS.Style
import KE.KIsAll
import KE.RegKIsAll
import PyProof.Rows.SeqMore
import PyProof.Rows.TupAdd
import PyProof.ReprRoads
import PyProof.Rows.RegFStrParts
import PyProof.TupleOfSeq
import KE.KDictOf
import KE.KDictSum
import HandS.DictTup
import HandS.TupLen
import HandS.Deep
import PySem.Challenge.RW_manydoors_k02_deeds_are_checked
set_option Elab.async false
set_option linter.all false
set_option maxRecDepth 100000
set_option maxHeartbeats 1000000
namespace Lw
open PySem L2

/-! ### frames: what a piece of code leaves as it was -/
structure Fr (l : List Addr) (H H' : Hp) : Prop where
  keep : ∀ a o, H a = some o → a ∉ l → H' a = some o
  tup : ∀ a xs, H a = some (.tup xs) → H' a = some (.tup xs)
theorem Fr.refl {l : List Addr} {H : Hp} : Fr l H H := ⟨fun _ _ h _ => h, fun _ _ h => h⟩
theorem Fr.mono {l m : List Addr} {H H' : Hp} (f : Fr l H H') (h : ∀ a, a ∈ l → a ∈ m) : Fr m H H' := ⟨fun a o e n => f.keep a o e fun q => n (h a q), f.tup⟩
theorem Fr.of0 {m : List Addr} {H H' : Hp} (f : Fr [] H H') : Fr m H H' := f.mono fun _ q => nomatch q
theorem Fr.new {H : Hp} {p : Addr} {o : HO} (h : H p = none) : Fr [] H (upd H p o) := ⟨fun a u e _ => by rw [upd_ne (ne_of_none e h)]; exact e, fun a u e => by rw [upd_ne (ne_of_none e h)]; exact e⟩
def notTup : HO → Prop
  | .tup _ => False
  | _ => True
theorem Fr.put {H : Hp} {p : Addr} {o u : HO} (h : H p = some u) (hu : notTup u) : Fr [p] H (upd H p o) := by
  refine ⟨fun a v e n => ?_, fun a v e => ?_⟩
  · rw [upd_ne fun q => n (List.mem_singleton.mpr q)]; exact e
  · by_cases q : a = p
    · subst q; rw [h] at e; cases e; exact hu.elim
    · rw [upd_ne q]; exact e
theorem Fr.trans {l m : List Addr} {H H1 H2 : Hp} (f : Fr l H H1) (g : Fr m H1 H2) : Fr (l ++ m) H H2 :=
  ⟨fun a o e n => g.keep a o (f.keep a o e fun q => n (List.mem_append_left _ q)) fun q => n (List.mem_append_right _ q), fun a xs e => g.tup a xs (f.tup a xs e)⟩
theorem Fr.transL {l : List Addr} {H H1 H2 : Hp} (f : Fr l H H1) (g : Fr l H1 H2) : Fr l H H2 := (f.trans g).mono fun _ q => (List.mem_append.mp q).elim id id
theorem Fr.then0 {l : List Addr} {H H1 H2 : Hp} (f : Fr l H H1) (g : Fr [] H1 H2) : Fr l H H2 := f.transL g.of0
theorem Fr.pre0 {l : List Addr} {H H1 H2 : Hp} (f : Fr [] H H1) (g : Fr l H1 H2) : Fr l H H2 := f.of0.transL g
theorem Fr.pre0' {l : List Addr} {H H1 H2 : Hp} (g : Fr l H1 H2) (f : Fr [] H H1) : Fr l H H2 := f.pre0 g
/-- an address that was not tracked may be written -/
theorem Fr.drop {l : List Addr} {p : Addr} {H H' : Hp} (f : Fr (p :: l) H H') (h : H p = none) : Fr l H H' :=
  ⟨fun a o e n => f.keep a o e fun q => (List.mem_cons.mp q).elim (fun z => by rw [z, h] at e; cases e) n, f.tup⟩
theorem Fr.free {H H' : Hp} {p : Addr} (f : Fr [] H H') (h : H' p = none) : H p = none := by
  cases q : H p with
  | none => rfl
  | some o => rw [f.keep p o q (by simp)] at h; cases h
theorem Fr.freeL {l : List Addr} {H H' : Hp} {p : Addr} (f : Fr l H H') (h : H' p = none) (n : p ∉ l) : H p = none := by
  cases q : H p with
  | none => rfl
  | some o => rw [f.keep p o q n] at h; cases h
/-- new objects may change -/
theorem Fr.own {l m : List Addr} {H H' H2 : Hp} (f : Fr l H H') (g : Fr m H' H2) (n : ∀ a, a ∈ m → a ∈ l ∨ H a = none) : Fr l H H2 :=
  ⟨fun a o e na => g.keep a o (f.keep a o e na) fun q => (n a q).elim na (fun z => by rw [z] at e; cases e), fun a xs e => g.tup a xs (f.tup a xs e)⟩
theorem Fr.own1 {l : List Addr} {p : Addr} {H H' H2 : Hp} (f : Fr l H H') (g : Fr [p] H' H2) (n : H p = none) : Fr l H H2 := f.own g fun a q => .inr (by rw [List.mem_singleton.mp q]; exact n)
theorem frn0 {l : List Addr} {H : Hp} : ∀ a, a ∈ ([] : List Addr) → a ∈ l ∨ H a = none := fun _ q => nomatch q
theorem frn1 {p : Addr} {l m : List Addr} {H : Hp} (h : p ∈ l ∨ H p = none) (t : ∀ a, a ∈ m → a ∈ l ∨ H a = none) : ∀ a, a ∈ p :: m → a ∈ l ∨ H a = none := fun a q => (List.mem_cons.mp q).elim (fun e => e ▸ h) (t a)
theorem nin0 {a : Addr} : a ∉ ([] : List Addr) := by simp
theorem nin1 {a b : Addr} {l : List Addr} (h : a ≠ b) (t : a ∉ l) : a ∉ b :: l := by simp [h, t]
theorem Fr.tupAt {l : List Addr} {H H' : Hp} {a : Addr} {xs : List V} (f : Fr l H H') (h : H a = some (.tup xs)) : H' a = some (.tup xs) := f.tup a xs h
theorem Fr.at0 {H H' : Hp} {a : Addr} {o : HO} (f : Fr [] H H') (h : H a = some o) : H' a = some o := f.keep a o h nin0
theorem Fr.at {l : List Addr} {H H' : Hp} {a : Addr} {o : HO} (f : Fr l H H') (h : H a = some o) (n : a ∉ l) : H' a = some o := f.keep a o h n
theorem Fr.sql {K : PySem.W.Frag} {l : List Addr} {H H' : Hp} {a : Addr} {xs : List V} (f : Fr l H H') (h : SqL K H a xs) (n : a ∉ l) : SqL K H' a xs := by
  rcases h with (h | ⟨o, h⟩) | h
  · exact .inl (.inl (f.keep _ _ h n))
  · exact .inl (.inr ⟨o, f.keep _ _ h n⟩)
  · exact .inr h

/-! ### operators by name -/
def oAdd : R2 := rI0 fun i j => .int (i + j)
def oSub : R2 := rI0 fun i j => .int (i - j)
def oMul : R2 := rI CMul fun i j => .int (i * j)
def oMod : R2 := rI (fun _ j => 0 < j) fun i j => .int (i % j)
def oDiv : R2 := rI CDiv fun i j => .int (i / j)
def oPow : R2 := rI CPow fun i j => .int (i ^ j.toNat)
def cLt : R2 := rI0 fun i j => .bl (decide (i < j))
def cLe : R2 := rI0 fun i j => .bl (decide (i ≤ j))
def cGt : R2 := rI0 fun i j => .bl (decide (j < i))
def cGe : R2 := rI0 fun i j => .bl (decide (j ≤ i))
section
variable {X : Cx}
theorem o_add : OpR X (binaryOp .Add) oAdd := op_add
theorem o_sub : OpR X (binaryOp .Sub) oSub := op_sub
theorem o_mul : OpR X (binaryOp .Mult) oMul := op_mul
theorem o_mod : OpR X (binaryOp .Mod) oMod := op_mod
theorem o_div : OpR X (binaryOp .FloorDiv) oDiv := op_fdiv
theorem o_pow : OpR X (binaryOp .Pow) oPow := op_pow
theorem c_lt : OpR X (compareOp .Lt) cLt := op_lt
theorem c_le : OpR X (compareOp .LtE) cLe := op_le
theorem c_gt : OpR X (compareOp .Gt) cGt := op_gt
theorem c_ge : OpR X (compareOp .GtE) cGe := op_ge
/-- len -/
def rLenSq (K : PySem.W.Frag) : List V → Hp → VK → Prop := fun xs H Q => ∃ p ys, xs = [.ref p] ∧ (SqL K H p ys ∨ SqT K H p ys) ∧ Q (.int ys.length) H
def rLenStr : List V → Hp → VK → Prop := fun xs H Q => ∃ z, xs = [.str z] ∧ z.length ≤ sizeLine ∧ Q (.int z.length) H
theorem b_len : CallR X (.builtin "len") (rLenSq X.K) := call_len_seq
theorem b_lenS : CallR X (.builtin "len") rLenStr := call_len_str
/-- list(..), tuple(..) -/
def rListOf (K : PySem.W.Frag) : List V → Hp → VK → Prop := fun xs H Q => ∃ p ys, xs = [.ref p] ∧ (SqL K H p ys ∨ SqT K H p ys) ∧ ∀ l, H l = none → Q (.ref l) (upd H l (.lst ys))
def rTupOf (K : PySem.W.Frag) : List V → Hp → VK → Prop := fun xs H Q => ∃ p ys, xs = [.ref p] ∧ ((SqL K H p ys ∧ ∀ l, H l = none → Q (.ref l) (upd H l (.tup ys))) ∨ (SqT K H p ys ∧ Q (.ref p) H))
theorem b_list : CallR X (.type "list") (rListOf X.K) := call_list_of
theorem b_tuple : CallR X (.type "tuple") (rTupOf X.K) := call_tuple_of
def rMax2 : List V → Hp → VK → Prop := fun xs H Q => ∃ i j, xs = [.int i, .int j] ∧ Q (.int (if j > i then j else i)) H
def rMin2 : List V → Hp → VK → Prop := fun xs H Q => ∃ i j, xs = [.int i, .int j] ∧ Q (.int (if j < i then j else i)) H
theorem b_max2 (hc : X.calm = true) : CallR X (.builtin "max") rMax2 := call_max2 hc
theorem b_min2 (hc : X.calm = true) : CallR X (.builtin "min") rMin2 := call_min2 hc
def rIsNon : R2 := fun x y H Q => y = .non ∧ Q (.bl (decide (x = .non))) H
def rIsNotNon : R2 := fun x y H Q => y = .non ∧ Q (.bl (!decide (x = .non))) H
theorem c_isN : OpR X (compareOp .Is) rIsNon := op_isN
theorem c_notN : OpR X (compareOp .IsNot) rIsNotNon := op_notN
/-- a value's truth, as a test -/
def tTr (K : PySem.W.Frag) (ta : TE) : TT := fun σ H Q => ta σ H fun x H' => ∃ k, TruV K x H' k ∧ Q k H'
theorem pt_tr {a : Expr} {ta : TE} (ha : PE X a ta) (he : ∀ whole, isTrue a X.env whole = (do let v ← whole; standAt a.pos; holding [v] (truthy v))) : PT X a (tTr X.K ta) := pt_truth ha he

/-! ### calls -/
def tCl (sp : Sp) (t : TA) : TE := fun σ H Q => t σ H fun vs H1 => sp vs H1 Q E0
def rMt (C : Addr) (m : Str) (x : V) (H : Hp) (p : Prop) : Prop := ∃ a dx fs, x = .ref a ∧ H a = some (.ins C dx fs) ∧ fs.lookup m = none ∧ p
def tMt (C : Addr) (m : Str) (sp : Sp) (ta : TE) (t : TA) : TE := fun σ H Q => ta σ H fun x H1 => rMt C m x H1 (t σ H1 fun vs H2 => sp (x :: vs) H2 Q E0)
def tMk (C : Addr) (sp : Sp) (t : TA) : TE := fun σ H Q => t σ H fun vs H1 => ∀ x dx, H1 x = none → H1 dx = none → dx ≠ x →
  sp (.ref x :: vs) (upd (upd H1 dx (.own x)) x (.ins C dx [])) (fun v H2 => v = .non ∧ Q (.ref x) H2) E0
/-- a def of the text, to be called by its name -/
structure Cal (P : Program) (w : World) (K : PySem.W.Frag) (mg : Str → Option Value) (base : Heap) (x : Str) (k : Nat) (ps : List Str) (sp : Sp) : Prop where
  ex : ∃ f fd, FnOk P w K mg base CX0 k f fd ps sp ∧ mg x = some (.ref f) ∧ PySem.W.keepIn K (.ref f) = true ∧ Binds K fd ps []
/-- a method of the class at C -/
structure CalM (P : Program) (w : World) (K : PySem.W.Frag) (mg : Str → Option Value) (base : Heap) (C : Addr) (m : Str) (k : Nat) (ps : List Str) (sp : Sp) : Prop where
  ex : ∃ f fd, FnOk P w K mg base CX0 k f fd ps sp ∧ Meth K C m f ∧ Binds K fd ps []
/-- a class, to be called by its name -/
structure CalC (P : Program) (w : World) (K : PySem.W.Frag) (mg : Str → Option Value) (base : Heap) (x : Str) (C : Addr) (k : Nat) (ps : List Str) (sp : Sp) : Prop where
  ex : ∃ f fd, FnOk P w K mg base CX0 k f fd ps sp ∧ Mk K C f ∧ mg x = some (.ref C) ∧ Binds K fd ps []
variable {k : Nat} {ps : List Str} {sp : Sp} {x m : Str} {p pos apos : Pos} {e o : Expr} {es : List Expr} {ta : TE} {t : TA} {C : Addr}
theorem tcl_eq {E : XK} : (tCall sp [] E0 t) = tCl sp t := by
  funext σ H Q
  show (t σ H fun vs H1 => sp (vs ++ []) H1 Q E0) = (t σ H fun vs H1 => sp vs H1 Q E0)
  simp only [List.append_nil]
theorem pe_cl (c : Cal X.prog X.w X.K X.mg X.base x k ps sp) (hr : Room k X.A) (hg : Gl X x) (ha : PA X (e :: es) t) (hdb : (x == ("__debug__" : Str)) = false := by decide)
    (he : starEach (e :: es) X.env = (false, eval e X.env) :: starEach es X.env := by rfl) (hpl : (backTo pos (starEach es X.env)).any (·.1) = false := by rfl) : PE X (.Call (.Name x p) (e :: es) [] pos) (tCl sp t) := by
  obtain ⟨f, fd, F, hm, hk, hb⟩ := c.ex
  rw [← tcl_eq (E := E0)]
  exact pe_call F hr hg hm hk hb .nil pass0 ha hdb he hpl
theorem pe_cl0 (c : Cal X.prog X.w X.K X.mg X.base x k ps sp) (hr : Room k X.A) (hg : Gl X x) (hdb : (x == ("__debug__" : Str)) = false := by decide) : PE X (.Call (.Name x p) [] [] pos) (tCl sp tNil) := by
  obtain ⟨f, fd, F, hm, hk, hb⟩ := c.ex
  rw [← tcl_eq (E := E0)]
  exact pe_call0 F hr hg hm hk hb .nil pass0 hdb
theorem tmt_eq : (tMeth C m sp [] E0 ta t) = tMt C m sp ta t := by
  funext σ H Q
  show (ta σ H fun x H1 => ∃ a dx fs, x = .ref a ∧ H1 a = some (.ins C dx fs) ∧ fs.lookup m = none ∧ t σ H1 fun vs H2 => sp (x :: (vs ++ [])) H2 Q E0) = _
  simp only [List.append_nil]
  rfl
theorem tmk_eq : (tMake C sp [] E0 t) = tMk C sp t := by
  funext σ H Q
  show (t σ H fun vs H1 => ∀ x dx, H1 x = none → H1 dx = none → dx ≠ x → sp (.ref x :: (vs ++ [])) (upd (upd H1 dx (.own x)) x (.ins C dx [])) (fun v H2 => v = .non ∧ Q (.ref x) H2) E0) = _
  simp only [List.append_nil]
  rfl
theorem pe_mt {pl : Sem Bool} (he : PE X o ta) (c : Cls X.K C) (cm : CalM X.prog X.w X.K X.mg X.base C m k ps sp) (hr : Room k X.A) (ha : PA X (e :: es) t)
    (hst : starEach (e :: es) X.env = (false, eval e X.env) :: starEach es X.env := by rfl) (hpl : (backTo pos (starEach es X.env)).any (·.1) = false := by rfl)
    (ht : eval (.Call (.Attribute o m apos) (e :: es) [] pos) X.env = (do
      let ov ← eval o X.env
      standAt apos.atName
      let (f, first) ← holding [ov] (getMethod ov m pl)
      callWith pos f first (backTo pos (starEach (e :: es) X.env)) (backToKw pos (keywordEach [] X.env))) := by rfl) :
    PE X (.Call (.Attribute o m apos) (e :: es) [] pos) (tMt C m sp ta t) := by
  obtain ⟨f, fd, F, hm, hb⟩ := cm.ex
  rw [← tmt_eq]
  exact pe_meth (pl := pl) he c hm F hr hb .nil pass0 ha hst hpl ht
theorem pe_mt0 {pl : Sem Bool} (he : PE X o ta) (c : Cls X.K C) (cm : CalM X.prog X.w X.K X.mg X.base C m k ps sp) (hr : Room k X.A)
    (ht : eval (.Call (.Attribute o m apos) [] [] pos) X.env = (do
      let ov ← eval o X.env
      standAt apos.atName
      let (f, first) ← holding [ov] (getMethod ov m pl)
      callWith pos f first (backTo pos (starEach [] X.env)) (backToKw pos (keywordEach [] X.env))) := by rfl) :
    PE X (.Call (.Attribute o m apos) [] [] pos) (tMt C m sp ta tNil) := by
  obtain ⟨f, fd, F, hm, hb⟩ := cm.ex
  rw [← tmt_eq]
  exact pe_meth0 (pl := pl) he c hm F hr hb .nil pass0 ht
theorem pe_mk (cm : CalC X.prog X.w X.K X.mg X.base x C k ps sp) (hr : Room (k + 1) X.A) (hg : Gl X x) (ha : PA X (e :: es) t) (hdb : (x == ("__debug__" : Str)) = false := by decide)
    (he : starEach (e :: es) X.env = (false, eval e X.env) :: starEach es X.env := by rfl) (hpl : (backTo pos (starEach es X.env)).any (·.1) = false := by rfl) :
    PE X (.Call (.Name x p) (e :: es) [] pos) (tMk C sp t) := by
  obtain ⟨f, fd, F, hM, hm, hb⟩ := cm.ex
  rw [← tmk_eq]
  exact pe_make hM F hr hg hm hb .nil pass0 ha hdb he hpl
theorem pe_mk0 (cm : CalC X.prog X.w X.K X.mg X.base x C k ps sp) (hr : Room (k + 1) X.A) (hg : Gl X x) (hdb : (x == ("__debug__" : Str)) = false := by decide) :
    PE X (.Call (.Name x p) [] [] pos) (tMk C sp tNil) := by
  obtain ⟨f, fd, F, hM, hm, hb⟩ := cm.ex
  rw [← tmk_eq]
  exact pe_make0 hM F hr hg hm hb .nil pass0 hdb
end

/-! ### readings, one step each -/
section
variable {K : PySem.W.Frag} {σ : L2.St} {H H' : Hp} {Q : VK} {D : Ends} {i : Nat} {v x y : V} {ta tb te tc : TE} {r : R2} {t u : TS} {c d : TT} {as tr : TA} {g : TG} {a b : Int} {p C dx : Addr} {QB : Bool → Hp → Prop} {QL : List V → Hp → Prop}
theorem g_seq (h : t { D with nx := u D } σ H) : tSeq t u D σ H := h
theorem g_cut (M : L2.St → Hp → Prop) (h : t { D with nx := M } σ H) (k : ∀ σ' H', M σ' H' → u D σ' H') : Evl.tCut t u D σ H := ⟨M, h, k⟩
theorem g_next (h : D.nx σ H) : tNext D σ H := h
theorem g_brk (h : D.bk σ H) : tBreak D σ H := h
theorem g_cont (h : D.ct σ H) : tCont D σ H := h
theorem g_asg (h : te σ H (fun v H' => g v σ H' D.nx)) : tAsg te g D σ H := h
theorem g_name {QS : L2.St → Hp → Prop} (h : QS (σ.set i (some v)) H) : gName i v σ H QS := h
theorem g_ret (h : te σ H D.rt) : tRet te D σ H := h
theorem g_retN (h : D.rt .non H) : tRetN D σ H := h
theorem g_drop (h : te σ H (fun _ H' => D.nx σ H')) : tDrop te D σ H := h
theorem g_ifs (h : c σ H (fun b H' => if b = true then t D σ H' else u D σ H')) : tIfS c t u D σ H := h
theorem g_aug {ti : TIp} (hx : σ[i]? = some (some x)) (h : te σ H (fun y H1 => ti x y H1 fun z H2 => D.nx (σ.set i (some z)) H2)) : tAug i te ti D σ H := ⟨x, hx, h⟩
theorem g_ipI {f : Int → Int → Int} (h : Q (.int (f a b)) H) : ipI f (.int a) (.int b) H Q := ⟨a, b, rfl, rfl, h⟩
theorem g_var (hx : σ[i]? = some (some v)) (h : Q v H) : tVar i σ H Q := ⟨v, hx, h⟩
theorem g_c (h : Q v H) : tC v σ H Q := h
theorem g_op (h : ta σ H (fun x H1 => tb σ H1 fun y H2 => r x y H2 Q)) : tOp r ta tb σ H Q := h
theorem g_add (h : Q (.int (a + b)) H) : oAdd (.int a) (.int b) H Q := ⟨a, b, rfl, rfl, h⟩
theorem g_sub (h : Q (.int (a - b)) H) : oSub (.int a) (.int b) H Q := ⟨a, b, rfl, rfl, h⟩
theorem g_mul (hc : CMul a b) (h : Q (.int (a * b)) H) : oMul (.int a) (.int b) H Q := ⟨a, b, rfl, rfl, hc, h⟩
theorem g_mod (hc : 0 < b) (h : Q (.int (a % b)) H) : oMod (.int a) (.int b) H Q := ⟨a, b, rfl, rfl, hc, h⟩
theorem g_div (hc : CDiv a b) (h : Q (.int (a / b)) H) : oDiv (.int a) (.int b) H Q := ⟨a, b, rfl, rfl, hc, h⟩
theorem g_pow (hc : CPow a b) (h : Q (.int (a ^ b.toNat)) H) : oPow (.int a) (.int b) H Q := ⟨a, b, rfl, rfl, hc, h⟩
theorem g_lt (h : Q (.bl (decide (a < b))) H) : cLt (.int a) (.int b) H Q := ⟨a, b, rfl, rfl, h⟩
theorem g_le (h : Q (.bl (decide (a ≤ b))) H) : cLe (.int a) (.int b) H Q := ⟨a, b, rfl, rfl, h⟩
theorem g_gt (h : Q (.bl (decide (b < a))) H) : cGt (.int a) (.int b) H Q := ⟨a, b, rfl, rfl, h⟩
theorem g_ge (h : Q (.bl (decide (b ≤ a))) H) : cGe (.int a) (.int b) H Q := ⟨a, b, rfl, rfl, h⟩
theorem g_eqI (h : Q (.bl (decide (a = b))) H) : rEq (.int a) (.int b) H Q := ⟨rfl, by rw [show decide (V.int a = V.int b) = decide (a = b) from by simp]; exact h⟩
theorem g_neI (h : Q (.bl (!decide (a = b))) H) : rNe (.int a) (.int b) H Q := ⟨rfl, by rw [show decide (V.int a = V.int b) = decide (a = b) from by simp]; exact h⟩
theorem g_eqS {a b : Str} (h : Q (.bl (decide (a = b))) H) : rEq (.str a) (.str b) H Q := ⟨rfl, by rw [show decide (V.str a = V.str b) = decide (a = b) from by simp]; exact h⟩
theorem g_neS {a b : Str} (h : Q (.bl (!decide (a = b))) H) : rNe (.str a) (.str b) H Q := ⟨rfl, by rw [show decide (V.str a = V.str b) = decide (a = b) from by simp]; exact h⟩
theorem g_eqB {a b : Bool} (h : Q (.bl (decide (a = b))) H) : rEq (.bl a) (.bl b) H Q := ⟨rfl, by rw [show decide (V.bl a = V.bl b) = decide (a = b) from by simp]; exact h⟩
theorem g_isN (h : Q (.bl (decide (x = .non))) H) : rIsNon x .non H Q := ⟨rfl, h⟩
theorem g_notN (h : Q (.bl (!decide (x = .non))) H) : rIsNotNon x .non H Q := ⟨rfl, h⟩
theorem g_test (h : te σ H (fun x H' => ∃ k, x = .bl k ∧ QB k H')) : tTest te σ H QB := h
theorem g_tb (h : te σ H (fun x H' => ∃ k, x = .bl k ∧ QB k H')) : tB te σ H QB := h
theorem g_bl {k : Bool} {P : Bool → Prop} (h : P k) : ∃ k', V.bl k = V.bl k' ∧ P k' := ⟨k, rfl, h⟩
theorem g_and (h : c σ H (fun b H1 => if b = true then d σ H1 QB else QB false H1)) : tAnd c d σ H QB := h
theorem g_or (h : c σ H (fun b H1 => if b = true then QB true H1 else d σ H1 QB)) : tOr c d σ H QB := h
theorem g_not (h : c σ H (fun b H1 => QB (!b) H1)) : tNot c σ H QB := h
theorem g_andV (h : ta σ H (fun x H1 => ∃ c, x = .bl c ∧ if c = true then tb σ H1 Q else Q (.bl false) H1)) : tAndV ta tb σ H Q := h
theorem g_orV (h : ta σ H (fun x H1 => ∃ c, x = .bl c ∧ if c = true then Q (.bl true) H1 else tb σ H1 Q)) : tOrV ta tb σ H Q := h
theorem g_notV (h : ta σ H (fun x H1 => ∃ c, x = .bl c ∧ Q (.bl (!c)) H1)) : tNotV ta σ H Q := h
theorem g_ifE (h : c σ H (fun b H1 => if b = true then ta σ H1 Q else tb σ H1 Q)) : tIf c ta tb σ H Q := h
theorem g_ite {P : Prop} [Decidable P] {A B : Prop} (h1 : P → A) (h2 : ¬ P → B) : if decide P = true then A else B := by
  by_cases h : P
  · rw [if_pos (decide_eq_true h)]; exact h1 h
  · rw [if_neg (by simp [h])]; exact h2 h
theorem g_iteN {P : Prop} [Decidable P] {A B : Prop} (h1 : ¬ P → A) (h2 : P → B) : if (!decide P) = true then A else B := by
  by_cases h : P
  · rw [if_neg (by simp [h])]; exact h2 h
  · rw [if_pos (by simp [h])]; exact h1 h
theorem g_iteB {k : Bool} {A B : Prop} (h1 : k = true → A) (h2 : k = false → B) : if k = true then A else B := by
  cases k with
  | true => rw [if_pos rfl]; exact h1 rfl
  | false => rw [if_neg Bool.false_ne_true]; exact h2 rfl
theorem g_iteNB {k : Bool} {A B : Prop} (h1 : k = false → A) (h2 : k = true → B) : if (!k) = true then A else B := by
  cases k with
  | true => rw [if_neg (by decide)]; exact h2 rfl
  | false => rw [if_pos (by decide)]; exact h1 rfl
theorem g_iteT {A B : Prop} (h : A) : if true = true then A else B := by rw [if_pos rfl]; exact h
theorem g_iteF {A B : Prop} (h : B) : if false = true then A else B := by rw [if_neg Bool.false_ne_true]; exact h
theorem g_iteNT {A B : Prop} (h : B) : if (!true) = true then A else B := by rw [if_neg (by decide)]; exact h
theorem g_iteNF {A B : Prop} (h : A) : if (!false) = true then A else B := by rw [if_pos (by decide)]; exact h
theorem g_nil (h : QL [] H) : tNil σ H QL := h
theorem g_cons (h : te σ H (fun x H1 => as σ H1 fun xs H2 => QL (x :: xs) H2)) : tCons te as σ H QL := h
theorem g_cb {rr : List V → Hp → VK → Prop} (h : as σ H (fun vs H1 => rr vs H1 Q)) : tCB rr as σ H Q := h
theorem g_cl {sp : Sp} (h : as σ H (fun vs H1 => sp vs H1 Q E0)) : tCl sp as σ H Q := h
/-- a new tuple, a new list -/
def rNewT (vs : List V) (H : Hp) (Q : VK) : Prop := vs.length ≤ sizeLine ∧ ∀ p, H p = none → Q (.ref p) (upd H p (.tup vs))
def rNewL (vs : List V) (H : Hp) (Q : VK) : Prop := vs.length ≤ sizeLine ∧ ∀ p, H p = none → Q (.ref p) (upd H p (.lst vs))
theorem g_tup (h : as σ H (fun vs H1 => rNewT vs H1 Q)) : tTup as σ H Q := h
theorem g_lst (h : as σ H (fun vs H1 => rNewL vs H1 Q)) : tLst as σ H Q := h
theorem g_newT {vs : List V} (hl : vs.length ≤ sizeLine) (h : ∀ p H', H p = none → Fr [] H H' → H' p = some (.tup vs) → Q (.ref p) H') : rNewT vs H Q := ⟨hl, fun p hp => h p _ hp (Fr.new hp) upd_same⟩
theorem g_newL {vs : List V} (hl : vs.length ≤ sizeLine) (h : ∀ p H', H p = none → Fr [] H H' → H' p = some (.lst vs) → Q (.ref p) H') : rNewL vs H Q := ⟨hl, fun p hp => h p _ hp (Fr.new hp) upd_same⟩
theorem g_ixL {xs : List V} {k : Int} (h : SqL K H p xs) (ha : atI xs k = some v) (q : Q v H) : rIxL K (.ref p) (.int k) H Q := ⟨p, xs, k, v, rfl, rfl, h, ha, q⟩
theorem g_ixT {xs : List V} {k : Int} (h : SqT K H p xs) (ha : atI xs k = some v) (q : Q v H) : rIxT K (.ref p) (.int k) H Q := ⟨p, xs, k, v, rfl, rfl, h, ha, q⟩
theorem g_lenL {xs : List V} (h : SqL K H p xs) (q : Q (.int xs.length) H) : rLenSq K [.ref p] H Q := ⟨p, xs, rfl, .inl h, q⟩
theorem g_lenT {xs : List V} (h : SqT K H p xs) (q : Q (.int xs.length) H) : rLenSq K [.ref p] H Q := ⟨p, xs, rfl, .inr h, q⟩
theorem g_listL {xs : List V} (h : SqL K H p xs) (q : ∀ l H', H l = none → Fr [] H H' → H' l = some (.lst xs) → Q (.ref l) H') : rListOf K [.ref p] H Q := ⟨p, xs, rfl, .inl h, fun l hl => q l _ hl (Fr.new hl) upd_same⟩
theorem g_listT {xs : List V} (h : SqT K H p xs) (q : ∀ l H', H l = none → Fr [] H H' → H' l = some (.lst xs) → Q (.ref l) H') : rListOf K [.ref p] H Q := ⟨p, xs, rfl, .inr h, fun l hl => q l _ hl (Fr.new hl) upd_same⟩
theorem g_tupL {xs : List V} (h : SqL K H p xs) (q : ∀ l H', H l = none → Fr [] H H' → H' l = some (.tup xs) → Q (.ref l) H') : rTupOf K [.ref p] H Q := ⟨p, xs, rfl, .inl ⟨h, fun l hl => q l _ hl (Fr.new hl) upd_same⟩⟩
theorem g_max2 (q : Q (.int (if b > a then b else a)) H) : rMax2 [.int a, .int b] H Q := ⟨a, b, rfl, q⟩
theorem g_min2 (q : Q (.int (if b < a then b else a)) H) : rMin2 [.int a, .int b] H Q := ⟨a, b, rfl, q⟩
def rBM (K : PySem.W.Frag) (T : String) (x : V) (H : Hp) (P : Prop) : Prop := tyV K T x H ∧ P
theorem g_bm {T : String} {rr : V → List V → Hp → VK → Prop} (h : te σ H (fun x H1 => rBM K T x H1 (as σ H1 fun xs H2 => rr x xs H2 Q))) : tBM K T rr te as σ H Q := h
theorem g_bm0 {T : String} {rr : V → List V → Hp → VK → Prop} (h : te σ H (fun x H1 => rBM K T x H1 (rr x [] H1 Q))) : tBM0 K T rr te σ H Q := h
theorem g_bmL {xs : List V} {P : Prop} (h : H p = some (.lst xs)) (q : P) : rBM K "list" (.ref p) H P := ⟨.inl ⟨rfl, xs, SqL.of h⟩, q⟩
theorem g_append {xs : List V} (h : H p = some (.lst xs)) (hl : xs.length < sizeLine) (q : ∀ H', Fr [p] H H' → H' p = some (.lst (xs ++ [y])) → Q .non H') : rAppend (.ref p) [y] H Q := ⟨p, xs, y, rfl, rfl, h, hl, q _ (Fr.put h trivial) upd_same⟩
theorem g_clear {xs : List V} (h : H p = some (.lst xs)) (q : ∀ H', Fr [p] H H' → H' p = some (.lst []) → Q .non H') : rClear (.ref p) [] H Q := ⟨p, xs, rfl, rfl, h, q _ (Fr.put h trivial) upd_same⟩
theorem g_sub1 {to ti : TE} {ts : TSet} {QS : L2.St → Hp → Prop} (h : to σ H (fun o H1 => ti σ H1 fun i H2 => ts o i v H2 fun H3 => QS σ H3)) : gSub to ti ts v σ H QS := h
theorem g_setL {xs : List V} {k : Int} {j : Nat} {P : Hp → Prop} (h : H p = some (.lst xs)) (hj : ixN xs.length k = some j) (q : ∀ H', Fr [p] H H' → H' p = some (.lst (xs.set j v)) → P H') : rSetL (.ref p) (.int k) v H P := ⟨p, xs, k, j, rfl, rfl, h, hj, q _ (Fr.put h trivial) upd_same⟩
/-- attributes -/
def rFld (K : PySem.W.Frag) (f : Str) (x : V) (H : Hp) (Q : VK) : Prop := ∃ a C dx fs v, x = .ref a ∧ H a = some (.ins C dx fs) ∧ Cls K C ∧ NoAttr K C f ∧ fs.lookup f = some v ∧ Q v H
theorem g_fld {f : Str} (h : ta σ H (fun x H1 => rFld K f x H1 Q)) : tFld K ta f σ H Q := h
theorem g_rfld {f : Str} {fs : List (Str × V)} (h : H p = some (.ins C dx fs)) (c : Cls K C) (n : NoAttr K C f) (l : fs.lookup f = some v) (q : Q v H) : rFld K f (.ref p) H Q := ⟨p, C, dx, fs, v, rfl, h, c, n, l, q⟩
def rFldS (K : PySem.W.Frag) (f : Str) (x v : V) (H : Hp) (P : Hp → Prop) : Prop := ∃ a C dx fs, x = .ref a ∧ H a = some (.ins C dx fs) ∧ Cls K C ∧ NoAttr K C f ∧ fs.length < 1000 ∧ P (upd H a (.ins C dx (putF f v fs)))
theorem g_sfld {f : Str} (h : tb σ H (fun y H1 => ta σ H1 fun x H2 => rFldS K f x y H2 fun H3 => D.nx σ H3)) : sFld K ta tb f D σ H := h
theorem g_rflds {f : Str} {fs gs : List (Str × V)} {P : Hp → Prop} (h : H p = some (.ins C dx fs)) (c : Cls K C) (n : NoAttr K C f) (hl : fs.length < 1000) (e : putF f v fs = gs) (q : ∀ H', Fr [p] H H' → H' p = some (.ins C dx gs) → P H') : rFldS K f (.ref p) v H P :=
  ⟨p, C, dx, fs, rfl, h, c, n, hl, q _ (Fr.put h trivial) (by rw [e]; exact upd_same)⟩
def rFldA (K : PySem.W.Frag) (f : Str) (tv : TE) (rd : V → V → Hp → VK → Prop) (x : V) (σ : L2.St) (H : Hp) (D : Ends) : Prop := ∃ a C dx fs v, x = .ref a ∧ H a = some (.ins C dx fs) ∧ Cls K C ∧ NoAttr K C f ∧ fs.lookup f = some v ∧
  tv σ H fun y H2 => rd v y H2 fun z H3 => ∃ dx' fs', H3 a = some (.ins C dx' fs') ∧ fs'.length < 1000 ∧ D.nx σ (upd H3 a (.ins C dx' (putF f z fs')))
theorem g_flda {f : Str} {rd : V → V → Hp → VK → Prop} (h : ta σ H (fun x H1 => rFldA K f tb rd x σ H1 D)) : sFldAug K ta tb rd f D σ H := h
def rFldB (a C : Addr) (f : Str) (z : V) (H3 : Hp) (P : Hp → Prop) : Prop := ∃ dx' fs', H3 a = some (.ins C dx' fs') ∧ fs'.length < 1000 ∧ P (upd H3 a (.ins C dx' (putF f z fs')))
theorem g_rflda {f : Str} {fs : List (Str × V)} {rd : V → V → Hp → VK → Prop} (h : H p = some (.ins C dx fs)) (c : Cls K C) (n : NoAttr K C f) (l : fs.lookup f = some v) (q : tb σ H fun y H2 => rd v y H2 fun z H3 => rFldB p C f z H3 fun H4 => D.nx σ H4) : rFldA K f tb rd (.ref p) σ H D :=
  ⟨p, C, dx, fs, v, rfl, h, c, n, l, q⟩
theorem g_rfldb {f : Str} {fs gs : List (Str × V)} {P : Hp → Prop} (h : H p = some (.ins C dx fs)) (hl : fs.length < 1000) (e : putF f v fs = gs) (q : ∀ H', Fr [p] H H' → H' p = some (.ins C dx gs) → P H') : rFldB p C f v H P :=
  ⟨dx, fs, h, hl, q _ (Fr.put h trivial) (by rw [e]; exact upd_same)⟩
theorem g_rAdd (h : Q (.int (a + b)) H) : rAdd (.int a) (.int b) H Q := ⟨a, b, rfl, rfl, h⟩
theorem g_rSub (h : Q (.int (a - b)) H) : rSub (.int a) (.int b) H Q := ⟨a, b, rfl, rfl, h⟩
theorem g_mt {m : Str} {sp : Sp} (h : ta σ H (fun x H1 => rMt C m x H1 (as σ H1 fun vs H2 => sp (x :: vs) H2 Q E0))) : tMt C m sp ta as σ H Q := h
theorem g_rmt {m : Str} {fs : List (Str × V)} {P : Prop} (h : H p = some (.ins C dx fs)) (l : fs.lookup m = none) (q : P) : rMt C m (.ref p) H P := ⟨p, dx, fs, rfl, h, l, q⟩
def rMk (C : Addr) (sp : Sp) (vs : List V) (H1 : Hp) (Q : VK) : Prop := ∀ x dx, H1 x = none → H1 dx = none → dx ≠ x →
  sp (.ref x :: vs) (upd (upd H1 dx (.own x)) x (.ins C dx [])) (fun v H2 => v = .non ∧ Q (.ref x) H2) E0
theorem g_mk {sp : Sp} (h : as σ H (fun vs H1 => rMk C sp vs H1 Q)) : tMk C sp as σ H Q := h
theorem g_rmk {sp : Sp} {vs : List V} (k : ∀ x dx H2, H x = none → H dx = none → dx ≠ x → Fr [] H H2 → H2 x = some (.ins C dx []) → H2 dx = some (.own x) → sp (.ref x :: vs) H2 (fun v H3 => v = .non ∧ Q (.ref x) H3) E0) : rMk C sp vs H Q := by
  intro x dx nx nd ne
  refine k x dx _ nx nd ne ?_ upd_same (by rw [upd_ne ne]; exact upd_same)
  have f1 : Fr [] H (upd H dx (.own x)) := Fr.new nd
  exact f1.then0 (Fr.new (by rw [upd_ne ne.symm]; exact nx))
end

/-! ### isinstance against a built-in class -/
theorem kb_NoneType_list : kitB "NoneType" "list" = some false := by decide +kernel
theorem kb_NoneType_tuple : kitB "NoneType" "tuple" = some false := by decide +kernel
theorem kb_NoneType_bool : kitB "NoneType" "bool" = some false := by decide +kernel
theorem kb_NoneType_int : kitB "NoneType" "int" = some false := by decide +kernel
theorem kb_NoneType_str : kitB "NoneType" "str" = some false := by decide +kernel
theorem kb_NoneType_dict : kitB "NoneType" "dict" = some false := by decide +kernel
theorem kb_bool_list : kitB "bool" "list" = some false := by decide +kernel
theorem kb_bool_tuple : kitB "bool" "tuple" = some false := by decide +kernel
theorem kb_bool_bool : kitB "bool" "bool" = some true := by decide +kernel
theorem kb_bool_int : kitB "bool" "int" = some true := by decide +kernel
theorem kb_bool_str : kitB "bool" "str" = some false := by decide +kernel
theorem kb_bool_dict : kitB "bool" "dict" = some false := by decide +kernel
theorem kb_int_list : kitB "int" "list" = some false := by decide +kernel
theorem kb_int_tuple : kitB "int" "tuple" = some false := by decide +kernel
theorem kb_int_bool : kitB "int" "bool" = some false := by decide +kernel
theorem kb_int_int : kitB "int" "int" = some true := by decide +kernel
theorem kb_int_str : kitB "int" "str" = some false := by decide +kernel
theorem kb_int_dict : kitB "int" "dict" = some false := by decide +kernel
theorem kb_str_list : kitB "str" "list" = some false := by decide +kernel
theorem kb_str_tuple : kitB "str" "tuple" = some false := by decide +kernel
theorem kb_str_bool : kitB "str" "bool" = some false := by decide +kernel
theorem kb_str_int : kitB "str" "int" = some false := by decide +kernel
theorem kb_str_str : kitB "str" "str" = some true := by decide +kernel
theorem kb_str_dict : kitB "str" "dict" = some false := by decide +kernel
theorem kb_list_list : kitB "list" "list" = some true := by decide +kernel
theorem kb_list_tuple : kitB "list" "tuple" = some false := by decide +kernel
theorem kb_list_bool : kitB "list" "bool" = some false := by decide +kernel
theorem kb_list_int : kitB "list" "int" = some false := by decide +kernel
theorem kb_list_str : kitB "list" "str" = some false := by decide +kernel
theorem kb_list_dict : kitB "list" "dict" = some false := by decide +kernel
theorem kb_tuple_list : kitB "tuple" "list" = some false := by decide +kernel
theorem kb_tuple_tuple : kitB "tuple" "tuple" = some true := by decide +kernel
theorem kb_tuple_bool : kitB "tuple" "bool" = some false := by decide +kernel
theorem kb_tuple_int : kitB "tuple" "int" = some false := by decide +kernel
theorem kb_tuple_str : kitB "tuple" "str" = some false := by decide +kernel
theorem kb_tuple_dict : kitB "tuple" "dict" = some false := by decide +kernel
theorem kb_dict_list : kitB "dict" "list" = some false := by decide +kernel
theorem kb_dict_tuple : kitB "dict" "tuple" = some false := by decide +kernel
theorem kb_dict_bool : kitB "dict" "bool" = some false := by decide +kernel
theorem kb_dict_int : kitB "dict" "int" = some false := by decide +kernel
theorem kb_dict_str : kitB "dict" "str" = some false := by decide +kernel
theorem kb_dict_dict : kitB "dict" "dict" = some true := by decide +kernel

theorem g_isi {K : PySem.W.Frag} {H : Hp} {Q : VK} {x : V} {a b : String} {r : Bool} (ty : TyX K H x (.type a)) (h : kitB a b = some r) (q : Q (.bl r) H) : rIsi K [x, .ty b] H Q := ⟨x, .ty b, .type a, .type b, r, rfl, .ty b, ty, kit_ty h, q⟩
/-! ### immutable and other data -/
mutual
inductive Da (H : Hp) : V → PyData → Prop
  | non : Da H .non .none
  | bl (b : Bool) : Da H (.bl b) (.bool b)
  | int (i : Int) : Da H (.int i) (.int i)
  | str (x : Str) : Da H (.str x) (.str x)
  | lst {a : Addr} {xs : List V} {ds : List PyData} : H a = some (.lst xs) → xs.length ≤ 1000000 → DaL H xs ds → Da H (.ref a) (.list ds)
  | tup {a : Addr} {xs : List V} {ds : List PyData} : H a = some (.tup xs) → xs.length ≤ 1000000 → DaL H xs ds → Da H (.ref a) (.tuple ds)
inductive DaL (H : Hp) : List V → List PyData → Prop
  | nil : DaL H [] []
  | cons {v : V} {vs : List V} {d : PyData} {ds : List PyData} : Da H v d → DaL H vs ds → DaL H (v :: vs) (d :: ds)
end
/-! how deep -/
mutual
def dp : PyData → Nat
  | .list ds => dpL ds + 1
  | .tuple ds => dpL ds + 1
  | _ => 0
def dpL : List PyData → Nat
  | [] => 0
  | d :: ds => max (dp d) (dpL ds)
end
/-! no list within -/
mutual
def imm : PyData → Bool
  | .list _ => false
  | .tuple ds => immL ds
  | _ => true
def immL : List PyData → Bool
  | [] => true
  | d :: ds => imm d && immL ds
end
theorem DaL.len {H : Hp} : ∀ {vs : List V} {ds : List PyData}, DaL H vs ds → vs.length = ds.length
  | _, _, .nil => rfl
  | _, _, .cons _ t => by rw [List.length_cons, List.length_cons, DaL.len t]
theorem DaL.get {H : Hp} : ∀ {vs : List V} {ds : List PyData} {i : Nat} {v : V}, DaL H vs ds → vs[i]? = some v → ∃ d, ds[i]? = some d ∧ Da H v d
  | _, _, _, _, .nil, e => by simp at e
  | _, _, 0, _, .cons r _, e => by simp at e; subst e; exact ⟨_, rfl, r⟩
  | _, _, i + 1, v, .cons _ t, e => by
    obtain ⟨u, h1, h2⟩ := DaL.get (i := i) (v := v) t (by simpa using e)
    exact ⟨u, by simpa using h1, h2⟩
theorem DaL.get' {H : Hp} : ∀ {vs : List V} {ds : List PyData} {i : Nat} {d : PyData}, DaL H vs ds → ds[i]? = some d → ∃ v, vs[i]? = some v ∧ Da H v d
  | _, _, _, _, .nil, e => by simp at e
  | _, _, 0, _, .cons r _, e => by simp at e; subst e; exact ⟨_, rfl, r⟩
  | _, _, i + 1, v, .cons _ t, e => by
    obtain ⟨u, h1, h2⟩ := DaL.get' (i := i) (d := v) t (by simpa using e)
    exact ⟨u, by simpa using h1, h2⟩
theorem DaL.append {H : Hp} : ∀ {vs ws : List V} {ds es : List PyData}, DaL H vs ds → DaL H ws es → DaL H (vs ++ ws) (ds ++ es)
  | _, _, _, _, .nil, s => s
  | _, _, _, _, .cons r t, s => .cons r (DaL.append t s)
theorem dpL_get : ∀ {ds : List PyData} {i : Nat} {d : PyData}, ds[i]? = some d → dp d ≤ dpL ds
  | [], _, _, e => by simp at e
  | a :: r, 0, d, e => by simp at e; subst e; exact Nat.le_max_left _ _
  | a :: r, i + 1, d, e => Nat.le_trans (dpL_get (ds := r) (i := i) (by simpa using e)) (Nat.le_max_right _ _)
mutual
theorem Da.fr {l : List Addr} {H H' : Hp} (f : Fr l H H') : ∀ (d : PyData) (v : V), Da H v d → imm d = true → Da H' v d
  | .none, _, h, _ => by cases h; exact .non
  | .bool b, _, h, _ => by cases h; exact .bl b
  | .int i, _, h, _ => by cases h; exact .int i
  | .str x, _, h, _ => by cases h; exact .str x
  | .list ds, _, _, i => by simp [imm] at i
  | .tuple ds, _, h, i => by
    cases h with
    | tup e z r => exact .tup (f.tup _ _ e) z (DaL.fr f ds _ r (by simpa [imm] using i))
  | .dict _, _, h, _ => by cases h
theorem DaL.fr {l : List Addr} {H H' : Hp} (f : Fr l H H') : ∀ (ds : List PyData) (vs : List V), DaL H vs ds → immL ds = true → DaL H' vs ds
  | [], _, h, _ => by cases h; exact .nil
  | d :: ds, _, h, i => by
    simp only [immL, Bool.and_eq_true] at i
    cases h with
    | cons r t => exact .cons (Da.fr f d _ r i.1) (DaL.fr f ds _ t i.2)
end
mutual
theorem Da.dp {K : PySem.W.Frag} {H : Hp} : ∀ (d : PyData) (v : V), Da H v d → Dp K H v d
  | .none, _, h => by cases h; exact .non
  | .bool b, _, h => by cases h; exact .bl b
  | .int i, _, h => by cases h; exact .int i
  | .str x, _, h => by cases h; exact .str x
  | .list ds, _, h => by
    cases h with
    | lst e _ r => exact .lst (SqL.of e) (DaL.dp ds _ r)
  | .tuple ds, _, h => by
    cases h with
    | tup e _ r => exact .tup (SqT.of e) (DaL.dp ds _ r)
  | .dict _, _, h => by cases h
theorem DaL.dp {K : PySem.W.Frag} {H : Hp} : ∀ (ds : List PyData) (vs : List V), DaL H vs ds → DpAll K H vs ds
  | [], _, h => by cases h; exact .nil
  | d :: ds, _, h => by
    cases h with
    | cons r t => exact .cons (Da.dp d _ r) (DaL.dp ds _ t)
end
theorem Da.frL {l : List Addr} {H H' : Hp} (f : Fr l H H') {d : PyData} {v : V} (h : Da H v d) (i : imm d = true) : Da H' v d := Da.fr f d v h i
theorem DaL.frL {l : List Addr} {H H' : Hp} (f : Fr l H H') {ds : List PyData} {vs : List V} (h : DaL H vs ds) (i : immL ds = true) : DaL H' vs ds := DaL.fr f ds vs h i
theorem immL_append : ∀ {ds es : List PyData}, immL (ds ++ es) = (immL ds && immL es)
  | [], _ => by simp [immL]
  | d :: ds, es => by simp [immL, immL_append (ds := ds), Bool.and_assoc]
theorem dpL_append : ∀ {ds es : List PyData}, dpL (ds ++ es) = max (dpL ds) (dpL es)
  | [], _ => by simp [dpL]
  | d :: ds, es => by simp [dpL, dpL_append (ds := ds), Nat.max_assoc]

/-! ### loops and comprehensions -/
section
variable {K : PySem.W.Frag} {σ : L2.St} {H H' : Hp} {Q : VK} {D : Ends} {te tl : TE} {tt : TT} {tb : TS} {g : TG} {wi : TI} {ta : TA} {a b : Addr} {xs ys : List V} {vs : List Nat} {J : It}
def ForGo (J : It) (g : TG) (tb : TS) (D : Ends) (σ : L2.St) (H1 : Hp) : Prop := ∃ W : Nat → Nat → L2.St → Hp → Prop, (∃ m, W 0 m σ H1) ∧ ∀ i m σ H, W i m σ H →
  (J.stop i H ∧ D.nx σ H) ∨ (J.go i H ∧ ∃ N : L2.St → Hp → Prop, (∀ σ' H', N σ' H' → ∃ m', m' < m ∧ W (i + 1) m' σ' H') ∧ ∀ x H', J.yld i H x H' → g x σ H' fun σ2 H2 => tb { D with nx := N, ct := N, bk := D.nx } σ2 H2)
theorem g_for (h : wi σ H (fun J H1 => ForGo J g tb D σ H1)) : tFor wi g tb D σ H := h
def LcGo (J : It) (g : TG) (tt : TT) (te : TE) (vs : List Nat) (σ : L2.St) (Q : VK) (H1 : Hp) : Prop := ∀ D, H1 D = none → ∃ W : Nat → Nat → Hp → Prop, (∃ m, W 0 m (upd H1 D (.lst []))) ∧ ∀ i m H, W i m H →
  (J.stop i H ∧ Q (.ref D) H) ∨ (J.go i H ∧ ∃ Nx : Hp → Prop, (∀ H', Nx H' → ∃ m', m' < m ∧ W (i + 1) m' H') ∧ ∀ x H', J.yld i H x H' → g x (wipe σ vs) H' fun σ2 H2 => wipe σ2 vs = wipe σ vs ∧ tt σ2 H2 fun b H3 =>
    if b = true then te σ2 H3 fun y H4 => ∃ acc, H4 D = some (.lst acc) ∧ acc.length < sizeLine ∧ Nx (upd H4 D (.lst (acc ++ [y]))) else Nx H3)
theorem g_lc (h : wi σ H (fun J H1 => LcGo J g tt te vs σ Q H1)) : tLc wi g tt te vs σ H Q := h
variable {R : It → Hp → Prop}
def rItL (K : PySem.W.Frag) (x : V) (H : Hp) (R : It → Hp → Prop) : Prop := ∃ a, x = .ref a ∧ (∃ xs, SqL K H a xs) ∧ R (Itl K a) H
def rItT (K : PySem.W.Frag) (x : V) (H : Hp) (R : It → Hp → Prop) : Prop := ∃ a, x = .ref a ∧ (∃ xs, SqT K H a xs) ∧ R (Itt K a) H
theorem g_iL (h : tl σ H (fun x H1 => rItL K x H1 R)) : iList K tl σ H R := h
theorem g_iT (h : tl σ H (fun x H1 => rItT K x H1 R)) : iTup K tl σ H R := h
theorem g_riL (hS : SqL K H a xs) (h : R (Itl K a) H) : rItL K (.ref a) H R := ⟨a, rfl, ⟨xs, hS⟩, h⟩
theorem g_riT (hS : SqT K H a xs) (h : R (Itt K a) H) : rItT K (.ref a) H R := ⟨a, rfl, ⟨xs, hS⟩, h⟩
def rIt1 (vs : List V) (H : Hp) (R : It → Hp → Prop) : Prop := ∃ j : Int, vs = [.int j] ∧ -(2 ^ 62) ≤ j ∧ j < 2 ^ 62 ∧ R (Itr 0 j.toNat) H
def rIt2 (vs : List V) (H : Hp) (R : It → Hp → Prop) : Prop := ∃ i j : Int, vs = [.int i, .int j] ∧ (-(2 ^ 62) ≤ i ∧ i < 2 ^ 62 ∧ -(2 ^ 62) ≤ j ∧ j < 2 ^ 62) ∧ R (Itr i (j - i).toNat) H
theorem g_i1 (h : ta σ H (fun vs H1 => rIt1 vs H1 R)) : iRng1 ta σ H R := h
theorem g_i2 (h : ta σ H (fun vs H1 => rIt2 vs H1 R)) : iRng2 ta σ H R := h
theorem g_ri1 {j : Int} (h1 : -(2 ^ 62) ≤ j ∧ j < 2 ^ 62) (h : R (Itr 0 j.toNat) H) : rIt1 [.int j] H R := ⟨j, rfl, h1.1, h1.2, h⟩
theorem g_ri2 {i j : Int} (h1 : -(2 ^ 62) ≤ i ∧ i < 2 ^ 62 ∧ -(2 ^ 62) ≤ j ∧ j < 2 ^ 62) (h : R (Itr i (j - i).toNat) H) : rIt2 [.int i, .int j] H R := ⟨i, j, rfl, h1, h⟩
/-- for over a list that stands -/
theorem f_list (Pv : Nat → L2.St → Hp → Prop) (h0 : Pv 0 σ H) (hl : ∀ i σ H, i ≤ xs.length → Pv i σ H → SqL K H a xs)
    (hs : ∀ i x σ H, xs[i]? = some x → Pv i σ H → g x σ H fun σ2 H2 => tb { D with nx := Pv (i + 1), ct := Pv (i + 1), bk := D.nx } σ2 H2) (hd : ∀ σ H, Pv xs.length σ H → D.nx σ H) : ForGo (Itl K a) g tb D σ H := for_list Pv h0 hl hs hd
theorem f_tup (Pv : Nat → L2.St → Hp → Prop) (h0 : Pv 0 σ H) (hl : ∀ i σ H, i ≤ xs.length → Pv i σ H → SqT K H a xs)
    (hs : ∀ i x σ H, xs[i]? = some x → Pv i σ H → g x σ H fun σ2 H2 => tb { D with nx := Pv (i + 1), ct := Pv (i + 1), bk := D.nx } σ2 H2) (hd : ∀ σ H, Pv xs.length σ H → D.nx σ H) : ForGo (Itt K a) g tb D σ H := for_tup Pv h0 hl hs hd
theorem f_range {lo : Int} {n : Nat} (Pv : Nat → L2.St → Hp → Prop) (h0 : Pv 0 σ H)
    (hs : ∀ i σ H, i < n → Pv i σ H → g (.int (lo + i)) σ H fun σ2 H2 => tb { D with nx := Pv (i + 1), ct := Pv (i + 1), bk := D.nx } σ2 H2) (hd : ∀ σ H, Pv n σ H → D.nx σ H) : ForGo (Itr lo n) g tb D σ H := for_range Pv h0 hs hd
/-! a comprehension: what its turn is to reach -/
def lcY (Dl : Addr) (Pv : Nat → List V → Hp → Prop) (i : Nat) (y : V) (H4 : Hp) : Prop := ∃ acc, H4 Dl = some (.lst acc) ∧ acc.length < sizeLine ∧ ∃ acc', upd H4 Dl (.lst (acc ++ [y])) Dl = some (.lst acc') ∧ Pv (i + 1) acc' (upd H4 Dl (.lst (acc ++ [y])))
def lcN (Dl : Addr) (Pv : Nat → List V → Hp → Prop) (i : Nat) (H3 : Hp) : Prop := ∃ acc, H3 Dl = some (.lst acc) ∧ Pv (i + 1) acc H3
theorem lcY_of {Dl : Addr} {Pv : Nat → List V → Hp → Prop} {i : Nat} {y : V} {acc : List V} (h : H Dl = some (.lst acc)) (hl : acc.length < sizeLine) (k : ∀ H5, Fr [Dl] H H5 → H5 Dl = some (.lst (acc ++ [y])) → Pv (i + 1) (acc ++ [y]) H5) : lcY Dl Pv i y H :=
  ⟨acc, h, hl, _, upd_same, k _ (Fr.put h trivial) upd_same⟩
theorem lcN_of {Dl : Addr} {Pv : Nat → List V → Hp → Prop} {i : Nat} {acc : List V} (h : H Dl = some (.lst acc)) (k : Pv (i + 1) acc H) : lcN Dl Pv i H := ⟨acc, h, k⟩
abbrev lcStep (g : TG) (tt : TT) (te : TE) (vs : List Nat) (σ : L2.St) (Dl : Addr) (Pv : Nat → List V → Hp → Prop) (i : Nat) (x : V) (H' : Hp) : Prop :=
  g x (wipe σ vs) H' fun σ2 H2 => wipe σ2 vs = wipe σ vs ∧ tt σ2 H2 fun b H3 => if b = true then te σ2 H3 fun y H4 => lcY Dl Pv i y H4 else lcN Dl Pv i H3
theorem l_list (k : ∀ Dl H0, H Dl = none → Fr [] H H0 → H0 Dl = some (.lst []) → ∃ Pv : Nat → List V → Hp → Prop, Pv 0 [] H0 ∧ (∀ i acc H', Pv i acc H' → SqL K H' a xs) ∧
    (∀ i x acc H', xs[i]? = some x → H' Dl = some (.lst acc) → Pv i acc H' → lcStep g tt te vs σ Dl Pv i x H') ∧ (∀ acc H', H' Dl = some (.lst acc) → Pv xs.length acc H' → Q (.ref Dl) H')) : LcGo (Itl K a) g tt te vs σ Q H := by
  intro Dl hD
  obtain ⟨Pv, p0, pl, ps, pd⟩ := k Dl _ hD (Fr.new hD) upd_same
  exact lc_list (fun i H' => ∃ acc, H' Dl = some (.lst acc) ∧ Pv i acc H') ⟨[], upd_same, p0⟩ (fun i H' _ ⟨acc, _, p⟩ => pl i acc H' p) (fun i x H' hx ⟨acc, hd, p⟩ => ps i x acc H' hx hd p) (fun H' ⟨acc, hd, p⟩ => pd acc H' hd p)
theorem l_tup (k : ∀ Dl H0, H Dl = none → Fr [] H H0 → H0 Dl = some (.lst []) → ∃ Pv : Nat → List V → Hp → Prop, Pv 0 [] H0 ∧ (∀ i acc H', Pv i acc H' → SqT K H' a xs) ∧
    (∀ i x acc H', xs[i]? = some x → H' Dl = some (.lst acc) → Pv i acc H' → lcStep g tt te vs σ Dl Pv i x H') ∧ (∀ acc H', H' Dl = some (.lst acc) → Pv xs.length acc H' → Q (.ref Dl) H')) : LcGo (Itt K a) g tt te vs σ Q H := by
  intro Dl hD
  obtain ⟨Pv, p0, pl, ps, pd⟩ := k Dl _ hD (Fr.new hD) upd_same
  exact lc_tup (fun i H' => ∃ acc, H' Dl = some (.lst acc) ∧ Pv i acc H') ⟨[], upd_same, p0⟩ (fun i H' _ ⟨acc, _, p⟩ => pl i acc H' p) (fun i x H' hx ⟨acc, hd, p⟩ => ps i x acc H' hx hd p) (fun H' ⟨acc, hd, p⟩ => pd acc H' hd p)
theorem l_range {lo : Int} {n : Nat} (k : ∀ Dl H0, H Dl = none → Fr [] H H0 → H0 Dl = some (.lst []) → ∃ Pv : Nat → List V → Hp → Prop, Pv 0 [] H0 ∧
    (∀ i acc H', i < n → H' Dl = some (.lst acc) → Pv i acc H' → lcStep g tt te vs σ Dl Pv i (.int (lo + i)) H') ∧ (∀ acc H', H' Dl = some (.lst acc) → Pv n acc H' → Q (.ref Dl) H')) : LcGo (Itr lo n) g tt te vs σ Q H := by
  intro Dl hD
  obtain ⟨Pv, p0, ps, pd⟩ := k Dl _ hD (Fr.new hD) upd_same
  exact lc_range (fun i H' => ∃ acc, H' Dl = some (.lst acc) ∧ Pv i acc H') ⟨[], upd_same, p0⟩ (fun i H' hi ⟨acc, hd, p⟩ => ps i acc H' hi hd p) (fun H' ⟨acc, hd, p⟩ => pd acc H' hd p)
theorem g_and2 {A B : Prop} (a : A) (b : B) : A ∧ B := ⟨a, b⟩
theorem g_yes {QB : Bool → Hp → Prop} (h : QB true H) : tYes σ H QB := h
/-- a name's slot, ahead of a known one -/
theorem g_tr {x : V} {k : Bool} {QB : Bool → Hp → Prop} (h : TruV K x H k) (q : QB k H) : ∃ k, TruV K x H k ∧ QB k H := ⟨k, h, q⟩
theorem g_ttr {QB : Bool → Hp → Prop} (h : te σ H (fun x H' => ∃ k, TruV K x H' k ∧ QB k H')) : tTr K te σ H QB := h
end
theorem szM {n : Nat} (h : n ≤ 1000000) : n < sizeLine := Nat.lt_of_le_of_lt h (by decide)
theorem szL {n : Nat} (h : n ≤ 1000000) : n ≤ sizeLine := Nat.le_of_lt (szM h)
theorem getI {ns : List Int} {i : Nat} {x : V} (h : (ns.map V.int)[i]? = some x) : ∃ n, x = .int n ∧ ns[i]? = some n ∧ n ∈ ns := by
  rw [List.getElem?_map] at h
  cases e : ns[i]? with
  | none => rw [e] at h; cases h
  | some n => rw [e] at h; exact ⟨n, (Option.some.inj h).symm, rfl, List.mem_of_getElem? e⟩
theorem atI_of {α : Type} {xs : List α} {z : Int} (h0 : 0 ≤ z) (h : z < xs.length) : ∃ v, atI xs z = some v ∧ xs[z.toNat]? = some v := by
  have hk : z.toNat < xs.length := by omega
  have e : ((z.toNat : Nat) : Int) = z := by omega
  have q : xs[z.toNat]? = some xs[z.toNat] := List.getElem?_eq_getElem hk
  have w := atI_nat q
  rw [e] at w
  exact ⟨_, w, q⟩
theorem atI_mem {α : Type} {xs : List α} {z : Int} (h0 : 0 ≤ z) (h : z < xs.length) : ∃ v, atI xs z = some v ∧ v ∈ xs := by
  obtain ⟨v, a, b⟩ := atI_of h0 h
  exact ⟨v, a, List.mem_of_getElem? b⟩
theorem take_more {α : Type} : ∀ {l : List α} {i : Nat} {x : α}, l[i]? = some x → l.take (i + 1) = l.take i ++ [x]
  | [], i, x, h => by simp at h
  | a :: l, 0, x, h => by
    have e : a = x := Option.some.inj h
    subst e
    rfl
  | a :: l, i + 1, x, h => by
    have ih := take_more (l := l) (i := i) (x := x) h
    show a :: l.take (i + 1) = a :: l.take i ++ [x]
    rw [ih]
    rfl
theorem filter_more {α : Type} {l : List α} {i : Nat} {x : α} {f : α → Bool} (h : l[i]? = some x) : (l.take (i + 1)).filter f = (l.take i).filter f ++ (if f x = true then [x] else []) := by
  rw [take_more h, List.filter_append]
  congr 1
  by_cases q : f x = true
  · simp [q]
  · simp [q]
theorem Da.tup1 {H : Hp} {v : V} {ds : List PyData} (h : Da H v (.tuple ds)) : ∃ a xs, v = .ref a ∧ H a = some (.tup xs) ∧ xs.length ≤ 1000000 ∧ DaL H xs ds := by
  cases h with
  | tup e z r => exact ⟨_, _, rfl, e, z, r⟩
theorem Da.lst1 {H : Hp} {v : V} {ds : List PyData} (h : Da H v (.list ds)) : ∃ a xs, v = .ref a ∧ H a = some (.lst xs) ∧ xs.length ≤ 1000000 ∧ DaL H xs ds := by
  cases h with
  | lst e z r => exact ⟨_, _, rfl, e, z, r⟩
theorem DaL.two {H : Hp} {xs : List V} {d e : PyData} (h : DaL H xs [d, e]) : ∃ x y, xs = [x, y] ∧ Da H x d ∧ Da H y e := by
  cases h with
  | cons a t => cases t with
    | cons b u => cases u; exact ⟨_, _, rfl, a, b⟩
theorem DaL.three {H : Hp} {xs : List V} {d e f : PyData} (h : DaL H xs [d, e, f]) : ∃ x y z, xs = [x, y, z] ∧ Da H x d ∧ Da H y e ∧ Da H z f := by
  cases h with
  | cons a t => cases t with
    | cons b u => cases u with
      | cons c u => cases u; exact ⟨_, _, _, rfl, a, b, c⟩
theorem Da.int1 {H : Hp} {v : V} {i : Int} (h : Da H v (.int i)) : v = .int i := by cases h; rfl
theorem Da.str1 {H : Hp} {v : V} {i : Str} (h : Da H v (.str i)) : v = .str i := by cases h; rfl
theorem Da.bl1 {H : Hp} {v : V} {i : Bool} (h : Da H v (.bool i)) : v = .bl i := by cases h; rfl
theorem Da.non1 {H : Hp} {v : V} (h : Da H v .none) : v = .non := by cases h; rfl
theorem DaL.one' {H : Hp} {v : V} {d : PyData} (h : Da H v d) : DaL H [v] [d] := .cons h .nil
theorem immL_get : ∀ {ds : List PyData} {i : Nat} {d : PyData}, immL ds = true → ds[i]? = some d → imm d = true
  | [], _, _, _, e => by simp at e
  | a :: r, 0, d, h, e => by simp at e; subst e; simp [immL] at h; exact h.1
  | a :: r, i + 1, d, h, e => by simp [immL] at h; exact immL_get (ds := r) (i := i) h.2 (by simpa using e)
theorem immL_of : ∀ {ds : List PyData}, (∀ d ∈ ds, imm d = true) → immL ds = true
  | [], _ => rfl
  | a :: r, h => by simp [immL, h a List.mem_cons_self, immL_of (ds := r) fun d hd => h d (List.mem_cons_of_mem _ hd)]
theorem imm_of : ∀ {ds : List PyData}, immL ds = true → ∀ d ∈ ds, imm d = true
  | [], _, d, hd => by cases hd
  | a :: r, h, d, hd => by
    simp only [immL, Bool.and_eq_true] at h
    rcases List.mem_cons.mp hd with e | e
    · rw [e]; exact h.1
    · exact imm_of h.2 d e
theorem dpL_mem : ∀ {ds : List PyData} {d : PyData}, d ∈ ds → dp d ≤ dpL ds
  | [], _, h => by cases h
  | a :: r, d, h => by
    rcases List.mem_cons.mp h with e | e
    · rw [e]; exact Nat.le_max_left _ _
    · exact Nat.le_trans (dpL_mem e) (Nat.le_max_right _ _)
theorem dpL_le {n : Nat} : ∀ {ds : List PyData}, (∀ d ∈ ds, dp d ≤ n) → dpL ds ≤ n
  | [], _ => Nat.zero_le _
  | a :: r, h => Nat.max_le.mpr ⟨h a List.mem_cons_self, dpL_le fun d hd => h d (List.mem_cons_of_mem _ hd)⟩
theorem DaL.ints {H : Hp} : ∀ {xs : List V} {r : List Int}, DaL H xs (r.map .int) → xs = r.map V.int
  | [], [], _ => rfl
  | x :: xs, n :: r, h => by
    cases h with
    | cons a t => rw [a.int1, DaL.ints t]; rfl
  | [], _ :: _, h => by cases h
  | _ :: _, [], h => by cases h
theorem DaL.ofInts {H : Hp} : ∀ (r : List Int), DaL H (r.map V.int) (r.map .int)
  | [] => .nil
  | n :: r => .cons (.int n) (DaL.ofInts r)
theorem DaL.set {H : Hp} : ∀ {vs : List V} {ds : List PyData} {i : Nat} {v : V} {d : PyData}, DaL H vs ds → Da H v d → DaL H (vs.set i v) (ds.set i d)
  | _, _, _, _, _, .nil, _ => .nil
  | _, _, 0, _, _, .cons _ t, q => .cons q t
  | _, _, i + 1, _, _, .cons r t, q => .cons r (DaL.set (i := i) t q)
/-! slices, pop at -/
section
variable {K : PySem.W.Frag} {σ : L2.St} {H H' : Hp} {Q : VK} {te : TE} {tl th : TO} {p : Addr} {xs : List V} {lo hi : Option Int}
theorem g_sl {r : V → Option Int → Option Int → Hp → VK → Prop} (h : te σ H fun x H1 => tl σ H1 fun l H2 => th σ H2 fun u H3 => r x l u H3 Q) : tSl r te tl th σ H Q := h
theorem g_noP {QO : Option Int → Hp → Prop} (h : QO none H) : tNoPart σ H QO := h
def rPart (x : V) (H : Hp) (QO : Option Int → Hp → Prop) : Prop := ∃ i, x = .int i ∧ QO (some i) H
theorem g_part {QO : Option Int → Hp → Prop} (h : te σ H fun x H1 => rPart x H1 QO) : tPart te σ H QO := h
theorem g_rpart {i : Int} {QO : Option Int → Hp → Prop} (h : QO (some i) H) : rPart (.int i) H QO := ⟨i, rfl, h⟩
theorem g_slL (h : SqL K H p xs) (q : ∀ l H', H l = none → Fr [] H H' → H' l = some (.lst (cutV xs lo hi)) → Q (.ref l) H') : rSlL K (.ref p) lo hi H Q := ⟨p, xs, rfl, h, fun l hl => q l _ hl (Fr.new hl) upd_same⟩
theorem g_popAt {i : Int} {y : V} (h : H p = some (.lst xs)) (hl : xs.length ≤ 1000000) (h0 : 0 ≤ i) (hy : xs[i.toNat]? = some y) (q : ∀ H', Fr [p] H H' → H' p = some (.lst (xs.eraseIdx i.toNat)) → Q y H') : rPopAt (.ref p) [.int i] H Q := by
  have hlt := (List.getElem?_eq_some_iff.mp hy).1
  refine ⟨p, xs, i, i.toNat, y, rfl, rfl, h, by omega, by omega, ?_, hy, q _ (Fr.put h trivial) upd_same⟩
  refine (ixN_seq (i := i) ?_).1
  unfold ixN
  rw [if_pos h0, if_pos (by omega)]
end
theorem cut_take {xs : List V} {n : Nat} (h : n ≤ xs.length) : cutV xs none (some (n : Int)) = xs.take n := by
  unfold cutV
  rw [HT.sIx_none, HT.sIx_nat, Nat.min_eq_left h, Nat.sub_zero, List.drop_zero]
theorem DaL.take {H : Hp} : ∀ {xs : List V} {ds : List PyData} (n : Nat), DaL H xs ds → DaL H (xs.take n) (ds.take n)
  | _, _, 0, _ => .nil
  | _, _, n + 1, .nil => .nil
  | _, _, n + 1, .cons a t => .cons a (DaL.take n t)
theorem DaL.erase {H : Hp} : ∀ {xs : List V} {ds : List PyData} (n : Nat), DaL H xs ds → DaL H (xs.eraseIdx n) (ds.eraseIdx n)
  | _, _, _, .nil => .nil
  | _, _, 0, .cons _ t => t
  | _, _, n + 1, .cons a t => .cons a (DaL.erase n t)
/-- a statement that is never reached -/
def tDead : TS := fun _ _ _ => False
theorem ps_dead {X : Cx} {st : Stmt} : PS X st tDead := ⟨fun _ _ _ _ _ _ h => h.elim⟩
end Lw

namespace Lw
open PySem L2
/-! ### tables: plain lists of keys and values -/
section
variable {κ α : Type} [DecidableEq κ]
def lk (m : List (κ × α)) (k : κ) : Option α := (m.find? fun e => decide (e.1 = k)).map (·.2)
def pt (m : List (κ × α)) (k : κ) (v : α) : List (κ × α) := if (m.any fun e => decide (e.1 = k)) = true then m.map (fun e => if e.1 = k then (e.1, v) else e) else m ++ [(k, v)]
def dr (m : List (κ × α)) (k : κ) : List (κ × α) := m.filter fun e => decide (e.1 ≠ k)
/-- a table as the layer's pairs -/
def enD {κ' : Type} (f : κ → κ') (g : α → V) (m : List (κ × α)) : List (κ' × V) := m.map fun e => (f e.1, g e.2)
variable {κ' : Type} [DecidableEq κ'] {f : κ → κ'} {g : α → V}
theorem enD_dec (inj : ∀ a b, f a = f b → a = b) (a b : κ) : decide (f a = f b) = decide (a = b) := by
  by_cases h : a = b
  · subst h; simp
  · rw [decide_eq_false h, decide_eq_false fun q => h (inj _ _ q)]
theorem enD_val (inj : ∀ a b, f a = f b → a = b) (m : List (κ × α)) (k : κ) : valV (enD f g m) (f k) = (lk m k).map g := by
  induction m with
  | nil => rfl
  | cons e r ih =>
    by_cases h : e.1 = k
    · have h1 : valV (enD f g (e :: r)) (f k) = some (g e.2) := valV_pos (p := (f e.1, g e.2)) (by rw [h])
      rw [h1]; simp [lk, List.find?_cons, h]
    · have h1 : valV (enD f g (e :: r)) (f k) = valV (enD f g r) (f k) := valV_neg (p := (f e.1, g e.2)) (fun q => h (inj _ _ q))
      rw [h1, ih]; simp [lk, List.find?_cons, h]
theorem enD_any (inj : ∀ a b, f a = f b → a = b) (m : List (κ × α)) (k : κ) : ((enD f g m).any fun e => decide (e.1 = f k)) = m.any fun e => decide (e.1 = k) := by
  induction m with
  | nil => rfl
  | cons e r ih =>
    show (decide (f e.1 = f k) || (enD f g r).any fun e => decide (e.1 = f k)) = _
    rw [ih, enD_dec inj]
    rfl
theorem enD_put (inj : ∀ a b, f a = f b → a = b) (m : List (κ × α)) (k : κ) (v : α) : putK (enD f g m) (f k) (g v) = enD f g (pt m k v) := by
  unfold putK pt
  rw [enD_any inj]
  by_cases h : (m.any fun e => decide (e.1 = k)) = true
  · rw [if_pos h, if_pos h]
    unfold enD
    rw [List.map_map, List.map_map]
    refine List.map_congr_left fun e _ => ?_
    show (if f e.1 = f k then (f e.1, g v) else (f e.1, g e.2)) = _
    by_cases q : e.1 = k
    · simp [q]
    · rw [if_neg fun z => q (inj _ _ z)]; simp [q]
  · rw [if_neg h, if_neg h]
    unfold enD
    rw [List.map_append]
    rfl
theorem enD_drop (inj : ∀ a b, f a = f b → a = b) (m : List (κ × α)) (k : κ) : dropK (enD f g m) (f k) = enD f g (dr m k) := by
  unfold dropK dr enD
  rw [List.filter_map]
  congr 1
  refine List.filter_congr fun e _ => ?_
  show decide (f e.1 ≠ f k) = decide (e.1 ≠ k)
  by_cases h : e.1 = k
  · simp [h]
  · have : f e.1 ≠ f k := fun q => h (inj _ _ q)
    simp [h, this]
theorem enD_len (m : List (κ × α)) : (enD f g m).length = m.length := by unfold enD; rw [List.length_map]
theorem enD_get {m : List (κ × α)} {i : Nat} {k : κ'} {v : V} (h : (enD f g m)[i]? = some (k, v)) : ∃ e, m[i]? = some e ∧ k = f e.1 ∧ v = g e.2 := by
  unfold enD at h
  rw [List.getElem?_map] at h
  cases q : m[i]? with
  | none => rw [q] at h; cases h
  | some e => rw [q] at h; cases h; exact ⟨e, rfl, rfl, rfl⟩
theorem lk_pt (m : List (κ × α)) (k j : κ) (v : α) : lk (pt m k v) j = if j = k then some v else lk m j := by
  have h := enD_put (f := fun k : κ => k) (g := fun _ : α => V.non) (fun _ _ q => q) m k v
  unfold pt
  induction m with
  | nil =>
    by_cases e : j = k
    · simp [lk, e]
    · have : ¬ k = j := fun q => e q.symm
      simp [lk, e, this]
  | cons e r ih =>
    by_cases hk : e.1 = k
    · have ha : ((e :: r).any fun e => decide (e.1 = k)) = true := by simp [hk]
      rw [if_pos ha]
      by_cases hj : j = k
      · rw [if_pos hj]; simp [lk, List.find?_cons, hk, hj]
      · rw [if_neg hj]
        have hk2 : ¬ k = j := fun q => hj q.symm
        have : ∀ r : List (κ × α), lk (r.map fun e => if e.1 = k then (e.1, v) else e) j = lk r j := by
          intro r
          induction r with
          | nil => rfl
          | cons a t ih2 =>
            by_cases ha : a.1 = k
            · have h1 : ¬ a.1 = j := fun q => hj (q.symm.trans ha)
              simp only [List.map_cons, lk, List.find?_cons, if_pos ha, decide_eq_false h1]
              exact ih2
            · by_cases h1 : a.1 = j
              · simp only [List.map_cons, lk, List.find?_cons, if_neg ha, decide_eq_true h1]
              · simp only [List.map_cons, lk, List.find?_cons, if_neg ha, decide_eq_false h1]
                exact ih2
        exact this (e :: r)
    · have ha : ((e :: r).any fun e => decide (e.1 = k)) = r.any fun e => decide (e.1 = k) := by simp [hk]
      rw [ha]
      have ih' := ih (enD_put (f := fun k : κ => k) (g := fun _ : α => V.non) (fun _ _ q => q) r k v)
      by_cases hb : (r.any fun e => decide (e.1 = k)) = true
      · rw [if_pos hb] at ih' ⊢
        by_cases h1 : e.1 = j
        · have h2 : ¬ j = k := fun q => hk (h1.trans q)
          simp [lk, List.find?_cons, hk, h1, h2]
        · simp only [List.map_cons, if_neg hk, lk, List.find?_cons, decide_eq_false h1] at ih' ⊢
          exact ih'
      · rw [if_neg hb] at ih' ⊢
        by_cases h1 : e.1 = j
        · have h2 : ¬ j = k := fun q => hk (h1.trans q)
          simp [lk, List.find?_cons, h1, h2]
        · simp only [List.cons_append, lk, List.find?_cons, decide_eq_false h1] at ih' ⊢
          exact ih'
end
/-! ### readings of dicts -/
section
variable {K : PySem.W.Frag} {σ : L2.St} {H H' : Hp} {Q : VK} {D : Ends} {td ty te tv tx : TE} {tt : TT} {tb t : TS} {g : TG} {a b d q : Addr} {o : Obj} {kvs : List (List Key × V)} {k : List Key} {v x y z : V} {vs : List Nat} {R : It → Hp → Prop} {as : TA}
/-- may be read as a dict with tuple keys -/
abbrev RdT (H : Hp) (a : Addr) (kvs : List (List Key × V)) : Prop := Rd H a (.dT kvs)
def rDG (x y : V) (H : Hp) (Q : VK) : Prop := ∃ a v, x = .ref a ∧ DGet H a y (some v) ∧ Q v H
theorem g_dget (h : td σ H fun x H1 => ty σ H1 fun y H2 => rDG x y H2 Q) : tDGet td ty σ H Q := h
theorem g_rdg (h : Rd H a (.dT kvs)) (e : H b = some (.tup (k.map kV))) (l : valV kvs k = some v) (c : Q v H) : rDG (.ref a) (.ref b) H Q := ⟨a, v, rfl, .inr ⟨kvs, k, b, h, rfl, e, l.symm⟩, c⟩
def rDI (y x : V) (H : Hp) (Q : VK) : Prop := ∃ a o, x = .ref a ∧ DGet H a y o ∧ Q (.bl o.isSome) H
def rDNI (y x : V) (H : Hp) (Q : VK) : Prop := ∃ a o, x = .ref a ∧ DGet H a y o ∧ Q (.bl (!o.isSome)) H
theorem g_din (h : ty σ H fun y H1 => td σ H1 fun x H2 => rDI y x H2 Q) : tDIn ty td σ H Q := h
theorem g_dnin (h : ty σ H fun y H1 => td σ H1 fun x H2 => rDNI y x H2 Q) : tDNotIn ty td σ H Q := h
theorem g_rdi (h : Rd H a (.dT kvs)) (e : H b = some (.tup (k.map kV))) (c : Q (.bl (valV kvs k).isSome) H) : rDI (.ref b) (.ref a) H Q := ⟨a, _, rfl, .inr ⟨kvs, k, b, h, rfl, e, rfl⟩, c⟩
theorem g_rdni (h : Rd H a (.dT kvs)) (e : H b = some (.tup (k.map kV))) (c : Q (.bl (!(valV kvs k).isSome)) H) : rDNI (.ref b) (.ref a) H Q := ⟨a, _, rfl, .inr ⟨kvs, k, b, h, rfl, e, rfl⟩, c⟩
def rDP (x y v : V) (H : Hp) (P : Hp → Prop) : Prop := ∃ a H4, x = .ref a ∧ DPut H a y v H4 ∧ P H4
theorem g_dput (h : tv σ H fun v H1 => td σ H1 fun x H2 => ty σ H2 fun y H3 => rDP x y v H3 fun H4 => D.nx σ H4) : sDPut td ty tv D σ H := h
theorem g_rdp {P : Hp → Prop} (h : H a = some (.dT kvs)) (e : H b = some (.tup (k.map kV))) (hl : kvs.length < sizeLine) (c : ∀ H', Fr [a] H H' → H' a = some (.dT (putK kvs k v)) → P H') : rDP (.ref a) (.ref b) v H P :=
  ⟨a, _, rfl, .inr ⟨kvs, k, b, h, rfl, e, hl, rfl⟩, c _ (Fr.put h trivial) upd_same⟩
def rDG2 (x : V) (H : Hp) (P : Addr → Prop) : Prop := ∃ a, x = .ref a ∧ IsD H a ∧ P a
def rDO (a : Addr) (y z : V) (H : Hp) (Q : VK) : Prop := ∃ o, DGet H a y o ∧ Q (o.getD z) H
theorem g_dget2 (h : td σ H fun x H1 => rDG2 x H1 fun a => ty σ H1 fun y H2 => tx σ H2 fun z H3 => rDO a y z H3 Q) : tDGet2 td ty tx σ H Q := h
theorem g_dget1 (h : td σ H fun x H1 => rDG2 x H1 fun a => ty σ H1 fun y H2 => rDO a y .non H2 Q) : tDGet1 td ty σ H Q := h
theorem g_rdg2 {P : Addr → Prop} (h : Rd H a (.dT kvs)) (c : P a) : rDG2 (.ref a) H P := ⟨a, rfl, .inr ⟨kvs, h⟩, c⟩
theorem g_dgo (h : Rd H a (.dT kvs)) (e : H b = some (.tup (k.map kV))) (c : Q (((valV kvs k)).getD z) H) : rDO a (.ref b) z H Q := ⟨_, .inr ⟨kvs, k, b, h, rfl, e, rfl⟩, c⟩
theorem g_dnew (c : ∀ p H', H p = none → Fr [] H H' → H' p = some (.dT []) → Q (.ref p) H') : tDNewT σ H Q := fun p hp => c p _ hp (Fr.new hp) upd_same
theorem g_dnewK (c : ∀ p H', H p = none → Fr [] H H' → H' p = some (.dK []) → Q (.ref p) H') : tDNewK σ H Q := fun p hp => c p _ hp (Fr.new hp) upd_same
/-! a walk over a dict, which is locked meanwhile -/
def rUl (d : Addr) (od : Obj) (u : HO) (H : Hp) (P : Hp → Prop) : Prop := H d = some (.frz od u) ∧ P (upd H d u)
theorem g_unl {u : HO} {P : Hp → Prop} (h : H d = some (.frz o u)) (c : ∀ H', Fr [d] H H' → H' d = some u → P H') : rUl d o u H P := ⟨h, c _ (Fr.put h trivial) upd_same⟩
theorem g_lock {u : HO} (h : H d = some u) (m : Mut (some u)) (nt : notTup u) (c : ∀ od H0, Fr [d] H H0 → H0 d = some (.frz od u) → t ⟨fun σ' H' => rUl d od u H' fun H2 => D.nx σ' H2, fun v H' => rUl d od u H' fun H2 => D.rt v H2,
    fun σ' H' => rUl d od u H' fun H2 => D.bk σ' H2, fun σ' H' => rUl d od u H' fun H2 => D.ct σ' H2⟩ σ H0) : tLock t D σ H := ⟨d, u, h, m, fun od => c od _ (Fr.put h nt) upd_same⟩
theorem g_lockE {u : HO} (h : H d = some u) (m : Mut (some u)) (nt : notTup u) (c : ∀ od H0, Fr [d] H H0 → H0 d = some (.frz od u) → te σ H0 fun v H' => rUl d od u H' fun H2 => Q v H2) : tLockE te σ H Q := ⟨d, u, h, m, fun od => c od _ (Fr.put h nt) upd_same⟩
def rKy (x : V) (H : Hp) (R : It → Hp → Prop) : Prop := ∃ d o, x = .ref d ∧ ((∃ kvs, H d = some (.frz o (.dK kvs)) ∧ R (Itk d o kvs) H) ∨ ∃ kvs, H d = some (.frz o (.dT kvs)) ∧ R (Itkt d o kvs) H)
theorem g_iK (h : td σ H fun x H1 => rKy x H1 R) : iKeys td σ H R := h
theorem g_rkt (h : H d = some (.frz o (.dT kvs))) (c : R (Itkt d o kvs) H) : rKy (.ref d) H R := ⟨d, o, rfl, .inr ⟨kvs, h, c⟩⟩
theorem f_keysT (Pv : Nat → L2.St → Hp → Prop) (h0 : Pv 0 σ H) (hl : ∀ i σ H, i ≤ kvs.length → Pv i σ H → H d = some (.frz o (.dT kvs)))
    (hs : ∀ i k v q σ H, kvs[i]? = some (k, v) → H q = some (.tup (k.map kV)) → Pv i σ H → g (.ref q) σ H fun σ2 H2 => tb { D with nx := Pv (i + 1), ct := Pv (i + 1), bk := D.nx } σ2 H2) (hd : ∀ σ H, Pv kvs.length σ H → D.nx σ H) : ForGo (Itkt d o kvs) g tb D σ H :=
  for_it walk_keysT Pv h0 hl (fun i x σ H H' hi p y => by obtain ⟨rfl, k, v, q, h1, rfl, h3⟩ := y; exact hs i k v q σ _ h1 h3 p) hd
theorem l_keysT (c : ∀ Dl H0, H Dl = none → Fr [] H H0 → H0 Dl = some (.lst []) → ∃ Pv : Nat → List V → Hp → Prop, Pv 0 [] H0 ∧ (∀ i acc H', Pv i acc H' → H' d = some (.frz o (.dT kvs))) ∧
    (∀ i k v q acc H', kvs[i]? = some (k, v) → H' q = some (.tup (k.map kV)) → H' Dl = some (.lst acc) → Pv i acc H' → lcStep g tt te vs σ Dl Pv i (.ref q) H') ∧ (∀ acc H', H' Dl = some (.lst acc) → Pv kvs.length acc H' → Q (.ref Dl) H')) : LcGo (Itkt d o kvs) g tt te vs σ Q H := by
  intro Dl hD
  obtain ⟨Pv, p0, pl, ps, pd⟩ := c Dl _ hD (Fr.new hD) upd_same
  exact lc_it walk_keysT (fun i H' => ∃ acc, H' Dl = some (.lst acc) ∧ Pv i acc H') ⟨[], upd_same, p0⟩ (fun i H' _ ⟨acc, _, p⟩ => pl i acc H' p) (fun i x H1 H' hi ⟨acc, hd, p⟩ y => by obtain ⟨rfl, k, v, q, h1, rfl, h3⟩ := y; exact ps i k v q acc _ h1 h3 hd p) (fun H' ⟨acc, hd, p⟩ => pd acc H' hd p)
/-! targets that are tuples -/
def rGt (K : PySem.W.Frag) (n : Nat) (t : TGs) (v : V) (σ : L2.St) (H : Hp) (P : L2.St → Hp → Prop) : Prop := ∃ a xs, v = .ref a ∧ SqT K H a xs ∧ xs.length = n ∧ t xs σ H P
theorem g_gtup {n : Nat} {t : TGs} {P : L2.St → Hp → Prop} {xs : List V} (h : SqT K H a xs) (hl : xs.length = n) (c : t xs σ H P) : gTup K n t (.ref a) σ H P := ⟨a, xs, rfl, h, hl, c⟩
theorem g_gcons {t : TG} {u : TGs} {P : L2.St → Hp → Prop} {r : List V} (c : t v σ H fun σ' H' => u r σ' H' P) : gCons t u (v :: r) σ H P := ⟨v, r, rfl, c⟩
theorem g_gnil {P : L2.St → Hp → Prop} (c : P σ H) : gNil [] σ H P := ⟨rfl, c⟩
/-! enumerate, zip: a new pair a turn -/
def rEn (K : PySem.W.Frag) (vs : List V) (H : Hp) (R : It → Hp → Prop) : Prop := ∃ a xs, vs = [.ref a] ∧ SqL K H a xs ∧ R (Ite K a) H
theorem g_iE (h : as σ H fun vs H1 => rEn K vs H1 R) : iEnum K as σ H R := h
theorem g_ren {xs : List V} (h : SqL K H a xs) (c : R (Ite K a) H) : rEn K [.ref a] H R := ⟨a, xs, rfl, h, c⟩
theorem f_enum {xs : List V} (Pv : Nat → L2.St → Hp → Prop) (h0 : Pv 0 σ H) (hl : ∀ i σ H, i ≤ xs.length → Pv i σ H → SqL K H a xs)
    (hs : ∀ i x T σ H H', xs[i]? = some x → Pv i σ H → H T = none → Fr [] H H' → H' T = some (.tup [.int (i : Nat), x]) → g (.ref T) σ H' fun σ2 H2 => tb { D with nx := Pv (i + 1), ct := Pv (i + 1), bk := D.nx } σ2 H2) (hd : ∀ σ H, Pv xs.length σ H → D.nx σ H) : ForGo (Ite K a) g tb D σ H :=
  for_it walk_enum Pv h0 hl (fun i x σ H H' hi p y => by
    obtain ⟨T, u, w, rfl, h2, rfl, h4, h5⟩ := y
    cases h4
    exact hs i w T σ H _ h5 p h2 (Fr.new h2) upd_same) hd
def rZp (K : PySem.W.Frag) (vs : List V) (H : Hp) (R : It → Hp → Prop) : Prop := ∃ a b xs ys, vs = [.ref a, .ref b] ∧ SqL K H a xs ∧ SqL K H b ys ∧ R (Itz K a b) H
theorem g_iZ (h : as σ H fun vs H1 => rZp K vs H1 R) : iZip K as σ H R := h
theorem g_rzp {xs ys : List V} (h : SqL K H a xs) (h2 : SqL K H b ys) (c : R (Itz K a b) H) : rZp K [.ref a, .ref b] H R := ⟨a, b, xs, ys, rfl, h, h2, c⟩
theorem f_zip {xs ys : List V} {n : Nat} (hn : n = min xs.length ys.length) (Pv : Nat → L2.St → Hp → Prop) (h0 : Pv 0 σ H) (hl : ∀ i σ H, i ≤ n → Pv i σ H → SqL K H a xs ∧ SqL K H b ys)
    (hs : ∀ i x y T σ H H', xs[i]? = some x → ys[i]? = some y → Pv i σ H → H T = none → Fr [] H H' → H' T = some (.tup [x, y]) → g (.ref T) σ H' fun σ2 H2 => tb { D with nx := Pv (i + 1), ct := Pv (i + 1), bk := D.nx } σ2 H2) (hd : ∀ σ H, Pv n σ H → D.nx σ H) : ForGo (Itz K a b) g tb D σ H :=
  for_it (walk_zip hn) Pv h0 hl (fun i x σ H H' hi p y => by
    obtain ⟨T, u, w, rfl, h2, rfl, h4, h5⟩ := y
    exact hs i u w T σ H _ h4 h5 p h2 (Fr.new h2) upd_same) hd
/-- sum, min of a list of ints -/
theorem g_sum {ns : List Int} (h : SqL K H a (ns.map V.int)) (c : Q (.int ns.sum) H) : rSum K [.ref a] H Q := ⟨a, ns, rfl, h, c⟩
theorem g_all {bs : List Bool} (h : SqL K H a (bs.map V.bl)) (c : Q (.bl (bs.all id)) H) : rAll K [.ref a] H Q := ⟨a, bs, rfl, h, c⟩
theorem g_any {bs : List Bool} (h : SqL K H a (bs.map V.bl)) (c : Q (.bl (bs.any id)) H) : rAny K [.ref a] H Q := ⟨a, bs, rfl, h, c⟩
theorem g_catT {xs ys : List V} (h : SqT K H a xs) (h2 : SqT K H b ys) (hne : xs ≠ []) (hl : xs.length + ys.length ≤ sizeLine) (c1 : ys = [] → Q (.ref a) H) (c2 : ys ≠ [] → ∀ p H', H p = none → Fr [] H H' → H' p = some (.tup (xs ++ ys)) → Q (.ref p) H') : rCatT K (.ref a) (.ref b) H Q :=
  ⟨a, b, xs, ys, rfl, rfl, h, h2, hne, hl, c1, fun e p hp => c2 e p _ hp (Fr.new hp) upd_same⟩
theorem g_cat {xs ys : List V} (h : H a = some (.lst xs)) (h2 : H b = some (.lst ys)) (hl : xs.length + ys.length ≤ sizeLine) (c : ∀ p H', H p = none → Fr [] H H' → H' p = some (.lst (xs ++ ys)) → Q (.ref p) H') : rCat (.ref a) (.ref b) H Q :=
  ⟨a, b, xs, ys, rfl, rfl, h, h2, hl, fun p hp => c p _ hp (Fr.new hp) upd_same⟩
end
/-! ### sorted of data -/
section
open PySem.W in
/-- sorted(xs), xs a list that reads as data of one shape: a new list of the same values in their order -/
def rSortD (K : PySem.W.Frag) : List V → Hp → VK → Prop := fun vs H Q => ∃ (a : Addr) (bs : List (V × PyData)), vs = [V.ref a] ∧ SqL K H a (bs.map (·.1)) ∧ (∀ b ∈ bs, Da H b.1 b.2) ∧ AllAlike (bs.map (·.2)) ∧ Sortable (bs.map (·.2)) ∧ (∀ b ∈ bs, b.2.depth ≤ 60) ∧
  ∀ p, H p = none → Q (.ref p) (upd H p (.lst ((bs.mergeSort (dataLe false (·.2))).map (·.1))))
variable {X : Cx}
open PySem.W in
theorem eachV {s : Shared} {H : Hp} {pins : List (Addr × Obj)} {σ : L2.St} (I : Inv X pins σ H s) : ∀ (bs : List (V × PyData)) (us : List Value), Vals (bs.map (·.1)) us → (∀ b ∈ bs, Da H b.1 b.2) → EachIs (fun u (b : V × PyData) => RelV b.1 u) us bs ∧ EachIs (fun u (b : V × PyData) => ∃ as, PySem.Reads s.heap u b.2 as) us bs
  | [], us, r, _ => by cases r; exact ⟨.nil, .nil⟩
  | b :: bs, us, r, h => by
    cases r with
    | cons r1 r2 =>
      obtain ⟨e1, e2⟩ := eachV I bs _ r2 fun c hc => h c (List.mem_cons_of_mem _ hc)
      exact ⟨.cons r1 e1, .cons (Dp.reads I _ _ _ (Da.dp (K := X.K) _ _ (h b List.mem_cons_self)) r1) e2⟩
open PySem.W in
theorem eachB : ∀ {us : List Value} {bs : List (V × PyData)}, EachIs (fun u (b : V × PyData) => RelV b.1 u) us bs → Vals (bs.map (·.1)) us
  | _, _, .nil => .nil
  | _, _, .cons r t => .cons r (eachB t)
open PySem.W in
theorem b_sortD (hu : X.A.units + 64 < cLine) : CallR X (.builtin "sorted") (rSortD X.K) := by
  intro pins s σ H vs us Q I r h
  obtain ⟨a, bs, rfl, hs, hd, ha, hk, hdp, q⟩ := h
  obtain ⟨its, rv, hl, hz⟩ := I.list hs
  obtain ⟨u, rfl, ru⟩ := vals1 r
  obtain rfl : u = Value.ref a := ru
  obtain ⟨e1, e2⟩ := eachV I bs its rv hd
  rw [List.length_map] at hz
  refine sorted_data (enc := fun b : V × PyData => b.2) hl.isList e1 e2 ha hk hz (fun b hb => ?_) fun out ho eo => ?_
  · have := hdp b hb
    show X.A.units + 2 + b.2.depth < cLine
    omega
  · obtain ⟨ep, he'⟩ := PyProof.Rows.sortedAll_at s.heap its out.toArray
    have vo := eachB eo
    have hlen : ((bs.mergeSort (dataLe false fun b : V × PyData => b.2)).map (·.1)).length ≤ sizeLine := by rw [List.length_map, List.length_mergeSort]; exact hz
    exact ⟨.ref _, upd H (s.heap.objs.size + 1) (.lst _), I.laid (t' := s.toks) (fun _ _ => PyProof.Rows.sortedAll_old) (Nat.le_succ _) ⟨hlen, out, ep, vo, he'⟩, rfl, q _ (I.hok.fresh (Nat.le_succ _))⟩
open PySem.W in
theorem g_sortD {K : PySem.W.Frag} {H : Hp} {Q : VK} {a : Addr} {bs : List (V × PyData)} (hs : SqL K H a (bs.map (·.1))) (hd : ∀ b ∈ bs, Da H b.1 b.2) (ha : AllAlike (bs.map (·.2))) (hk : Sortable (bs.map (·.2))) (hdp : ∀ b ∈ bs, b.2.depth ≤ 60)
    (c : ∀ p H', H p = none → Fr [] H H' → H' p = some (.lst ((bs.mergeSort (dataLe false (·.2))).map (·.1))) → Q (.ref p) H') : rSortD K [.ref a] H Q := ⟨a, bs, rfl, hs, hd, ha, hk, hdp, fun p hp => c p _ hp (Fr.new hp) upd_same⟩
/-- the sorted data -/
def srt (ds : List PyData) : List PyData := ds.mergeSort (PySem.W.dataLe false id)
end
/-! ### d.clear() of a dict with tuple keys -/
section
variable {X : Cx}
def rDClearT : V → List V → Hp → VK → Prop := fun x vs H Q => ∃ (a : Addr) (kvs : List (List Key × V)), x = .ref a ∧ vs = [] ∧ H a = some (.dT kvs) ∧ Q .non (upd H a (.dT []))
theorem mtd_clearT : MtR X "dict.clear" rDClearT := by
  intro pins s σ H x vs v us Q I rx rv h
  obtain ⟨a, kvs, rfl, rfl, e, q⟩ := h
  obtain rfl : v = Value.ref a := rx
  cases rv
  obtain ⟨z, hd, xs, rel, o, es, ep, ho, hx, hdat, hes, _⟩ := dt_of I.hok e
  have raw : s.heap.DictRaw a es ep := ⟨o, ho, hx, hdat⟩
  have hsz : es.size ≤ sizeLine := by
    have e1 := congrArg List.length hes
    rw [Array.length_toList, List.length_map] at e1
    rw [e1, ← Paired.length rel]
    exact z
  refine call_meetsIn PySem.F.slot_dict_clear raw.typeIs PySem.F.entry_dict_clear (PySem.F.args_dict_clear_1 _) (meets_dict_clear_raw a) ⟨es, ep, raw, hsz, fun h' raw' hs => ?_⟩
  obtain ⟨o', ho', hx', hdat'⟩ := raw'
  exact ⟨.non, _, d_write (t' := s.toks) (ob := .dT []) I (by rw [e]; exact True.intro) hs ⟨o', ho'⟩ ⟨Nat.zero_le _, hd, [], .nil, o', #[], ep + 1, ho', hx', hdat', rfl, List.nodup_nil⟩, rfl, q⟩
theorem pe_dclearT {o : Expr} {to : TE} {apos cpos : Pos} (ho : PE X o to) (hbase : attributeBase o "clear" X.env (eval o X.env) = eval o X.env := by rfl) (hline : (apos.endLine == cpos.line) = true := by rfl) : PE X (.Call (.Attribute o "clear" apos) [] [] cpos) (tBM0 X.K "dict" rDClearT to) :=
  pe_bm0 PySem.F.plainAttrs_dict PySem.F.slot_dict_clear PySem.F.type_dict_clear mtd_clearT ho hbase hline
theorem g_bmT {K : PySem.W.Frag} {H : Hp} {a : Addr} {kvs : List (List Key × V)} {P : Prop} (h : H a = some (.dT kvs)) (q : P) : rBM K "dict" (.ref a) H P := ⟨.inr (.inr (.inl ⟨rfl, .inr ⟨kvs, h⟩⟩)), q⟩
theorem g_clearT {H : Hp} {a : Addr} {kvs : List (List Key × V)} {Q : VK} (h : H a = some (.dT kvs)) (q : ∀ H', Fr [a] H H' → H' a = some (.dT []) → Q .non H') : rDClearT (.ref a) [] H Q := ⟨a, kvs, rfl, rfl, h, q _ (Fr.put h trivial) upd_same⟩
end
/-! ### list(range(a, b)) -/
section
variable {σ : L2.St} {H : Hp} {Q : VK} {ta tb : TE} {a b : Int}
def rLRg (x y : V) (H : Hp) (Q : VK) : Prop := ∃ i j, x = .int i ∧ y = .int j ∧ RgOk i j ∧ ∀ q, H q = none → Q (.ref q) (upd H q (.lst (rgV i j)))
theorem g_lstRg (h : ta σ H fun x H1 => tb σ H1 fun y H2 => rLRg x y H2 Q) : tLstRg (tRg2 ta tb) σ H Q := h
theorem g_rlrg (ok : RgOk a b) (c : ∀ p H', H p = none → Fr [] H H' → H' p = some (.lst (rgV a b)) → Q (.ref p) H') : rLRg (.int a) (.int b) H Q := ⟨a, b, rfl, rfl, ok, fun p hp => c p _ hp (Fr.new hp) upd_same⟩
end
/-! ### what sorted gives, as data -/
section
open PySem.W
theorem dle_total {β : Type} (k : β → PyData) : TotalLe (dataLe false k) := sortLe_total _ false _
theorem srt_perm (ds : List PyData) : (srt ds).Perm ds := List.mergeSort_perm ds _
theorem srt_srt (ds : List PyData) : srt (srt ds) = srt ds := List.mergeSort_of_pairwise (sort_pairwise (dle_total id) ds)
theorem srt_map {β : Type} (f : β → PyData) (l : List β) : (l.mergeSort (dataLe false f)).map f = srt (l.map f) := sort_maps f fun _ _ _ _ => rfl
theorem DaL.zip {H : Hp} : ∀ {xs : List V} {ds : List PyData}, DaL H xs ds → (xs.zip ds).map (·.1) = xs ∧ (xs.zip ds).map (·.2) = ds ∧ ∀ b ∈ xs.zip ds, Da H b.1 b.2
  | _, _, .nil => ⟨rfl, rfl, fun _ h => nomatch h⟩
  | _, _, .cons a t => by
    obtain ⟨h1, h2, h3⟩ := DaL.zip t
    refine ⟨by simp [h1], by simp [h2], fun b hb => ?_⟩
    rcases List.mem_cons.mp hb with e | e
    · rw [e]; exact a
    · exact h3 b e
theorem DaL.ofBs {H : Hp} : ∀ {bs : List (V × PyData)}, (∀ b ∈ bs, Da H b.1 b.2) → DaL H (bs.map (·.1)) (bs.map (·.2))
  | [], _ => .nil
  | b :: bs, h => .cons (h b List.mem_cons_self) (DaL.ofBs fun c hc => h c (List.mem_cons_of_mem _ hc))
theorem g_srt {K : PySem.W.Frag} {H : Hp} {Q : VK} {a : Addr} {xs : List V} {ds : List PyData} (hs : SqL K H a xs) (hd : DaL H xs ds) (ha : AllAlike ds) (hk : Sortable ds) (hdp : ∀ d ∈ ds, d.depth ≤ 60)
    (c : ∀ p H' ys, H p = none → Fr [] H H' → H' p = some (.lst ys) → DaL H ys (srt ds) → Q (.ref p) H') : rSortD K [.ref a] H Q := by
  obtain ⟨z1, z2, z3⟩ := hd.zip
  refine g_sortD (bs := xs.zip ds) (by rw [z1]; exact hs) z3 (by rw [z2]; exact ha) (by rw [z2]; exact hk) (fun b hb => hdp b.2 (by rw [← z2]; exact List.mem_map.mpr ⟨b, hb, rfl⟩)) fun p H' hp f e => ?_
  refine c p H' _ hp f e ?_
  have q := DaL.ofBs (H := H) (bs := (xs.zip ds).mergeSort (dataLe false (·.2))) fun b hb => z3 b ((List.mergeSort_perm _ _).mem_iff.mp hb)
  rw [srt_map (fun b : V × PyData => b.2), z2] at q
  exact q
theorem alike_len : ∀ (n : Nat) (xs ys : List Int), alikeAll (xs.map .int) (ys.map .int) = true := fun _ => alike_ints
end
/-! ### chains, min, in, options -/
abbrev tChainT (r r' : R2) (ta tb tc : TE) : TT := tTest (tChain r r' ta tb tc)
section
variable {K : PySem.W.Frag} {σ : L2.St} {H : Hp} {Q : VK} {ta tb tc : TE} {r r' : R2} {y : V} {k : Bool} {p : Addr} {ns : List Int} {m : Int}
def rCh (r' : R2) (tc : TE) (y : V) (σ : L2.St) (Q : VK) (z : V) (H3 : Hp) : Prop := ∃ k, z = .bl k ∧ (if k = true then tc σ H3 fun w' H4 => r' y w' H4 Q else Q (.bl false) H3)
theorem g_chain (h : ta σ H fun x H1 => tb σ H1 fun y H2 => r x y H2 fun z H3 => rCh r' tc y σ Q z H3) : tChain r r' ta tb tc σ H Q := h
theorem g_rch (h : if k = true then tc σ H fun w' H4 => r' y w' H4 Q else Q (.bl false) H) : rCh r' tc y σ Q (.bl k) H := ⟨k, rfl, h⟩
theorem g_min (h : SqL K H p (ns.map V.int)) (hl : 0 < ns.length) (q : ∀ m, m ∈ ns → (∀ y, y ∈ ns → m ≤ y) → Q (.int m) H) : rMin K [.ref p] H Q := ⟨p, ns, rfl, h, hl, q⟩
theorem inI : inV (.int m) (ns.map V.int) = decide (m ∈ ns) := by
  unfold inV
  induction ns with
  | nil => rfl
  | cons a t ih =>
    rw [List.map_cons, List.any_cons, ih]
    show ((a == m) || decide (m ∈ t)) = _
    by_cases h : a = m
    · simp [h]
    · have h2 : ¬ m = a := fun z => h z.symm
      simp [h, h2]
theorem flatI : (ns.map V.int).all flatV = true := List.all_eq_true.mpr fun x hx => by obtain ⟨n, _, rfl⟩ := List.mem_map.mp hx; rfl
theorem g_ninI (h : SqL K H p (ns.map V.int)) (q : Q (.bl (!decide (m ∈ ns))) H) : rIn K true (.int m) (.ref p) H Q := ⟨p, _, rfl, .inl h, rfl, flatI, by rw [inI]; exact q⟩
theorem g_neB {a b : Bool} (h : Q (.bl (!decide (a = b))) H) : rNe (.bl a) (.bl b) H Q := ⟨rfl, by rw [show decide (V.bl a = V.bl b) = decide (a = b) from by simp]; exact h⟩
end
/-- a number, or none -/
def optV : Option Int → V
  | none => .non
  | some r => .int r
def optD : Option Int → PyData
  | none => .none
  | some r => .int r
section
variable {H : Hp} {Q : VK} {o : Option Int} {r : Int}
theorem g_isO (h : Q (.bl (decide (o = none))) H) : rIsNon (optV o) .non H Q := g_isN (by cases o <;> simpa [optV] using h)
theorem g_notO (h : Q (.bl (!decide (o = none))) H) : rIsNotNon (optV o) .non H Q := g_notN (by cases o <;> simpa [optV] using h)
theorem g_eqO (h : Q (.bl (decide (o = some r))) H) : rEq (optV o) (.int r) H Q := by
  cases o with
  | none => exact ⟨rfl, by simpa [optV] using h⟩
  | some q => exact g_eqI (by simpa using h)
theorem DaL.opts : ∀ {R : List (Option Int)}, DaL H (R.map optV) (R.map optD)
  | [] => .nil
  | none :: R => .cons .non DaL.opts
  | some r :: R => .cons (.int r) DaL.opts
theorem imm_opts {R : List (Option Int)} : immL (R.map optD) = true := immL_of fun d hd => by obtain ⟨o, _, rfl⟩ := List.mem_map.mp hd; cases o <;> rfl
theorem dp_opts {R : List (Option Int)} : dpL (R.map optD) ≤ 1 := dpL_le fun d hd => by obtain ⟨o, _, rfl⟩ := List.mem_map.mp hd; cases o <;> exact Nat.zero_le _
end
end Lw

namespace Lw
open PySem L2 PySem.W PySem.Calls PyProof.Rows PySem.Spec
/-! ### more of dicts with tuple keys: len, dict(d), sorted(d), d.pop(k) -/
section
variable {X : Cx}
theorem raw_of {P : Program} {w : World} {h : Heap} {a : Addr} {xs : List (List Key × Addr × Value)} (m : h.DictOfH (tupleKind (mixKind P w)) a xs) : ∃ es ep, h.DictRaw a es ep ∧ es.size = xs.length ∧ ∀ (i : Nat) (hi : i < es.size), ∃ x, xs[i]? = some x ∧ es[i].key = .ref x.2.1 := by
  obtain ⟨o, es, ep, h1, h2, h3, h4, h5, h6⟩ := m
  have hs : es.size = xs.length := by
    have e := congrArg List.length h4
    rw [Array.length_toList, List.length_map] at e
    exact e
  refine ⟨es, ep, ⟨o, h1, h2, h3⟩, hs, fun i hi => ?_⟩
  have e : es.toList[i]? = (xs.map _)[i]? := congrArg (fun l => l[i]?) h4
  rw [List.getElem?_map, List.getElem?_eq_getElem (by rw [Array.length_toList]; exact hi)] at e
  have hx : xs[i]? = some (xs[i]'(by omega)) := List.getElem?_eq_getElem (by omega)
  rw [hx] at e
  refine ⟨_, hx, ?_⟩
  have e2 := Option.some.inj e
  rw [Array.getElem_toList] at e2
  rw [e2]; rfl
/-- len(d) -/
theorem g_lenDT {H : Hp} {Q : VK} {a : Addr} {kvs : List (List Key × V)} (h : H a = some (.dT kvs)) (q : Q (.int kvs.length) H) : rLenT [.ref a] H Q := ⟨a, kvs, rfl, h, q⟩
/-- d.pop(k), k there -/
def rPopT1 : V → List V → Hp → VK → Prop := fun x xs H Q => ∃ (a b : Addr) (kvs : List (List Key × V)) (k : List Key) (v : V), x = .ref a ∧ xs = [.ref b] ∧ H a = some (.dT kvs) ∧ H b = some (.tup (k.map kV)) ∧ valV kvs k = some v ∧ Q v (upd H a (.dT (dropK kvs k)))
theorem mt_popT1 (hu : X.A.units + 1 < cLine) : MtR X "dict.pop" rPopT1 := by
  intro pins s σ H x xs v us Q I rx rxs h
  obtain ⟨a, b, kvs, k, v0, rfl, rfl, ha, hb, hv, q⟩ := h
  cases rx
  obtain ⟨u1, rfl, r1⟩ := vals1 rxs
  cases r1
  obtain ⟨z, hd, xs', rel, dd⟩ := dt_of I.hok ha
  have hz : xs'.length ≤ sizeLine := by rw [← Paired.length rel]; exact z
  have r := rel.val k
  rw [hv] at r
  obtain ⟨p, hp⟩ : ∃ p, atKey xs' k = some p := by
    cases e : atKey xs' k with
    | none => rw [e] at r; exact (show False from r).elim
    | some p => exact ⟨p, rfl⟩
  rw [hp] at r
  have rv : RelV v0 p.2 := r
  refine call_pop_heap (hsz := hz) (.inl rfl) (PySem.F.args_dict_pop_2 _ _) (tupleKind_room_in1 hu) (key_of I.hok hb) hd dd hp fun h' dd' hs => ?_
  obtain ⟨o, es, ep, hq, h2, h3, h4, _, h5⟩ := dd'
  have I2 : Inv X pins σ (upd H a (.dT (dropK kvs k))) { s with heap := h', toks := s.toks + (tupleKind (mixKind X.prog X.w)).draws k } :=
    d_write I (by rw [ha]; exact True.intro) hs ⟨o, hq⟩ ⟨Nat.le_trans (dropK_le kvs k) z, hd, _, (L2.DX.KT_drop k rel).keeps (fun c ys ec => (by rw [upd_ne (ne_of ec ha (fun z => nomatch z))]; exact ec)), o, es, ep, hq, h2, h3, h4, h5⟩
  show EP X pins σ Q p.2 _
  exact ⟨v0, _, I2, rv, q⟩
/-- dict(d): a copy; the keys' hashes differ -/
def rDictT (P : Program) (w : World) : List V → Hp → VK → Prop := fun vs H Q => ∃ (a : Addr) (kvs : List (List Key × V)), vs = [.ref a] ∧ H a = some (.dT kvs) ∧ (kvs.map fun e => (tupleKind (mixKind P w)).hash e.1).Nodup ∧ ∀ p, H p = none → Q (.ref p) (upd H p (.dT kvs))
theorem b_dictT (hu : X.A.units + 8 < cLine) : CallR X (.type "dict") (rDictT X.prog X.w) := by
  intro pins s σ H vs us Q I r h
  obtain ⟨a, kvs, rfl, ha, hh, q⟩ := h
  obtain ⟨u, rfl, ru⟩ := vals1 r
  obtain rfl : u = Value.ref a := ru
  obtain ⟨z, hoS, xs, rel, ho⟩ := dt_of I.hok ha
  have hz : xs.length ≤ sizeLine := by rw [← Paired.length rel]; exact z
  have hm : (s.heap.objs.size == sysModules) = false := beq_eq_false_iff_ne.mpr (Nat.ne_of_gt I.big)
  refine callType_codes (Q₁ := fun obj s₁ => obj = .ref s.heap.objs.size ∧ s₁ = { s with heap := s.heap.push { cls := .type "dict", data := .dict #[] } }) F.kt_called_dict (F.kt_typeCall_dict_1 _) F.entry_dict_init (kt_code_dict_new _ ⟨rfl, rfl⟩) ?_
  rintro obj s₁ ⟨rfl, rfl⟩
  have hnew : (s.heap.push { cls := .type "dict", data := .dict #[] }).DictOfH (tupleKind (mixKind X.prog X.w)) s.heap.objs.size [] := Heap.DictOfH.new s.heap
  have ho' : (s.heap.push { cls := .type "dict", data := .dict #[] }).DictOfH (tupleKind (mixKind X.prog X.w)) a xs := by
    obtain ⟨o, es, ep, h1, h2, h3, h4, h5, h6⟩ := id ho
    exact ⟨o, es, ep, Heap.get?_push_of_some _ h1, h2, h3, h4, fun x hx => by obtain ⟨o2, its, n, g1, g2, g3, g4⟩ := h5 x hx; exact ⟨o2, its, n, Heap.get?_push_of_some _ g1, g2, g3, g4⟩, h6⟩
  have hdo : s.heap.objs.size ≠ a := by
    obtain ⟨_, _, _, hg, _⟩ := ho
    exact fun e => absurd (Heap.lt_size hg) (by rw [e]; exact Nat.lt_irrefl _)
  refine ⟨hnew.typeIs, F.args_dict_init_2 _ _, ?_⟩
  unfold Builtin.«dict.__init__»
  refine wpAny_bind ?_
  unfold Builtin.Dict.selfAndRest
  refine wpAny_bind (wpAny_notOrdered_dict hnew.typeIs ?_)
  show wpAny _ _ (pure (s.heap.objs.size, [Value.ref a])) _ _ _
  refine wpAny_pure ?_
  show wpAny _ _ (Builtin.Dict.updateFrom "dict.__init__" s.heap.objs.size (.ref a) [] .none) _ _ _
  unfold Builtin.Dict.updateFrom
  refine wpAny_bind (wpAny_typeOf ho'.typeIs ?_)
  rw [if_neg (by decide)]
  refine wpAny_bind ?_
  unfold Builtin.Dict.merge
  refine wpAny_bind ?_
  unfold Builtin.Dict.readDirectly
  refine wpAny_bind (wpAny_isInstance ho'.typeIs isSubtype_dict_dict ?_)
  simp only [Bool.not_true, Bool.false_eq_true, if_false]
  refine wpAny_bind (wpAny_specialOf ho'.typeIs F.slot_dict_iter.lookup (wpAny_pure ?_))
  simp only [beq_self_eq_true, if_true]
  refine wpAny_bind (wpAny_pure ?_)
  have hty : ∀ x ∈ xs, Shared.TypeIs { s with heap := s.heap.push { cls := .type "dict", data := .dict #[] } } (.ref x.2.1) "tuple" := fun x hx => by
    obtain ⟨o, es, ep, h1, h2, h3, h4, h5, h6⟩ := id ho'
    obtain ⟨o2, its, n, g1, g2, g3, g4⟩ := h5 x hx
    exact ⟨o2, g1, g2⟩
  have hap : (xs.map fun x => (tupleKind (mixKind X.prog X.w)).hash x.1).Nodup := by
    have e : (xs.map fun x => (tupleKind (mixKind X.prog X.w)).hash x.1) = kvs.map fun e => (tupleKind (mixKind X.prog X.w)).hash e.1 := by
      clear hty ho' ho hnew hz z hh ha q
      induction rel with
      | nil => rfl
      | cons h _ ih => rw [List.map_cons, List.map_cons, ih, h.1]
    rw [e]; exact hh
  have hn : (xs.map (·.1)).Nodup := ho.nodup
  refine wpAny_mergeDict_heap (hsz := by simpa using hz) ?room hdo hoS hnew ho' (.inr ⟨hty, hap⟩) fun h' hd' _ hs' => ?_
  case room => exact (show X.A.units + 1 + 1 < cLine by omega)
  show wpAny _ _ (Builtin.Dict.addKeywords s.heap.objs.size [] >>= _) _ _ _
  rw [storedAllH_nil_of_nodup xs hn] at hd'
  refine wpAny_bind (wpAny_pure (wpAny_pure ⟨rfl, ?_⟩))
  obtain ⟨o, es, ep, h1, h2, h3, h4, h5, h6⟩ := hd'
  exact ⟨.ref s.heap.objs.size, upd H s.heap.objs.size (.dT kvs), I.laid (t' := s.toks) (fun b u e => (hs'.2 b (Nat.ne_of_lt (Heap.lt_size e))).trans (Heap.get?_push_of_some _ e)) (Nat.le_refl _)
    ⟨z, hm, xs, rel.keeps (fun c ys ec => by rw [upd_ne (ne_of_none ec (I.hok.fresh (Nat.le_refl _)))]; exact ec), o, es, ep, h1, h2, h3, h4, h6⟩, rfl, q _ (I.hok.fresh (Nat.le_refl _))⟩
/-- sorted(d): the keys, all tuples of ints, in their order -/
def intsD (c : List Int) : PyData := .tuple (c.map .int)
def rSortedDT : List V → Hp → VK → Prop := fun vs H Q => ∃ (a : Addr) (kvs : List (List Key × V)) (cs : List (List Int)), vs = [.ref a] ∧ H a = some (.dT kvs) ∧ kvs.map (·.1) = cs.map (fun c => c.map Sum.inl) ∧ AllAlike (cs.map intsD) ∧ Sortable (cs.map intsD) ∧ (∀ c ∈ cs, (intsD c).depth ≤ 60 ∧ c.length ≤ 1000000) ∧
  ∀ p ys, H p = none → DaL H ys (srt (cs.map intsD)) → Q (.ref p) (upd H p (.lst ys))
theorem reads_ints {h : Heap} : ∀ {ns : List Int} {us : List Value}, Vals (ns.map V.int) us → PySem.ReadsAll h us (ns.map .int) []
  | [], _, .nil => .nil
  | n :: ns, u :: us, h => by
    cases h with
    | cons r t =>
      obtain ⟨tk, rfl⟩ := r
      exact .cons (as := []) (bs := []) (.int n tk) (reads_ints t)
theorem each_idx {α β : Type} {R : α → β → Prop} : ∀ {us : List α} {bs : List β}, us.length = bs.length → (∀ (i : Nat) u b, us[i]? = some u → bs[i]? = some b → R u b) → EachIs R us bs
  | [], [], _, _ => .nil
  | u :: us, b :: bs, hl, h => .cons (h 0 u b rfl rfl) (each_idx (by simpa using hl) fun i x y hx hy => h (i + 1) x y (by simpa using hx) (by simpa using hy))
  | [], _ :: _, hl, _ => by simp at hl
  | _ :: _, [], hl, _ => by simp at hl
theorem each_refs {γ : Type} : ∀ {us : List Value} {bs : List (Addr × γ)}, EachIs (fun u (b : Addr × γ) => u = .ref b.1) us bs → Vals (bs.map fun b => V.ref b.1) us
  | _, _, .nil => .nil
  | _, _, .cons r t => .cons r (each_refs t)
theorem da_refs {γ : Type} {H : Hp} {f : γ → PyData} : ∀ {bs : List (Addr × γ)}, (∀ b ∈ bs, Da H (.ref b.1) (f b.2)) → DaL H (bs.map fun b => V.ref b.1) (bs.map fun b => f b.2)
  | [], _ => .nil
  | b :: bs, h => .cons (h b List.mem_cons_self) (da_refs fun c hc => h c (List.mem_cons_of_mem _ hc))
theorem b_sortedDT (hcalm : X.calm = true) (hu : X.A.units + 64 < cLine) : CallR X (.builtin "sorted") rSortedDT := by
  intro pins s σ H vs us Q I r h
  obtain ⟨a, kvs, cs, rfl, ha, hks, hal, hsrt, hdp, q⟩ := h
  obtain ⟨u, rfl, ru⟩ := vals1 r
  obtain rfl : u = Value.ref a := ru
  obtain ⟨z, lo, xs, rel, dd⟩ := dt_of I.hok ha
  obtain ⟨es, ep, raw, hes, hkey⟩ := raw_of dd
  have hl : kvs.length = xs.length := Paired.length rel
  have hcl : cs.length = kvs.length := by have e := congrArg List.length hks; rw [List.length_map, List.length_map] at e; exact e.symm
  have hz : es.size ≤ sizeLine := by rw [hes, ← hl]; exact z
  -- the keys, each with its address
  have hat : ∀ (i : Nat) (x : List Key × Addr × Value) (c : List Int), xs[i]? = some x → cs[i]? = some c → H x.2.1 = some (.tup (c.map V.int)) := fun i x c hx hc => by
    obtain ⟨y, hy, e1, e2, _⟩ := L2.DX.pget rel hx
    have e3 : (kvs.map (·.1))[i]? = (cs.map fun c => c.map Sum.inl)[i]? := by rw [hks]
    rw [List.getElem?_map, List.getElem?_map, hy, hc] at e3
    have e4 : y.1 = c.map Sum.inl := Option.some.inj e3
    rw [e4, List.map_map] at e2
    exact e2
  refine Calls.call_function_entry PyProof.Rows.kind_sorted PyProof.Rows.plain_sorted PyProof.Rows.entry_sorted (PyProof.Rows.args_sorted1 _) ?_
  unfold Builtin.«sorted»
  refine wpAny_bind (m := checkCount "sorted" 1 1 _) (wpAny_pure ?_)
  refine wpAny_bind (PySem.W.kdu_collect (A := X.A.in1) (KdlSrc.rawDict lo) (I.ok.hd hcalm) raw hz fun h' tk acc hk hacc => ?_)
  have I1 : Inv X pins σ H { s with heap := h', toks := tk } := I.kept hk
  let bs : List (Addr × List Int) := (xs.map fun x => x.2.1).zip cs
  have hbl : bs.length = cs.length := by
    show ((xs.map fun x => x.2.1).zip cs).length = _
    rw [List.length_zip, List.length_map]; omega
  have hb2 : bs.map (fun b => b.2) = cs := List.map_snd_zip (by rw [List.length_map]; omega)
  have hbe : bs.map (fun b => intsD b.2) = cs.map intsD := by rw [← hb2, List.map_map]; rfl
  have hbat : ∀ b ∈ bs, H b.1 = some (.tup (b.2.map V.int)) := fun b hb => by
    obtain ⟨i, hi⟩ := List.mem_iff_getElem?.mp hb
    obtain ⟨h1, h2⟩ := List.getElem?_zip_eq_some.mp hi
    rw [List.getElem?_map] at h1
    cases e : xs[i]? with
    | none => rw [e] at h1; cases h1
    | some x =>
      rw [e] at h1
      have := Option.some.inj h1
      rw [← this]
      exact hat i x b.2 e h2
  have hbd : ∀ b ∈ bs, b.2 ∈ cs := fun b hb => by rw [← hb2]; exact List.mem_map.mpr ⟨b, hb, rfl⟩
  have hal' : acc.toList.length = bs.length := by rw [Array.length_toList, hacc.1, hbl]; omega
  have E1 : EachIs (fun u (b : Addr × List Int) => u = .ref b.1) acc.toList bs := each_idx hal' fun i u b hu hb => by
    obtain ⟨hi, hv⟩ := hacc.2 i u (by rw [← Array.getElem?_toList]; exact hu)
    obtain ⟨x, hx, hk2⟩ := hkey i hi
    obtain ⟨h1, h2⟩ := List.getElem?_zip_eq_some.mp hb
    rw [List.getElem?_map, hx] at h1
    rw [hv, hk2, ← Option.some.inj h1]
  have hpl : acc.toList.length ≤ sizeLine := by rw [hal', hbl, hcl]; exact z
  refine wpAny_bind (wpAny_newList ?_ hpl)
  have hoL : (h'.push (seqObj "list" acc.toList.toArray 0)).get? h'.objs.size = some (seqObj "list" acc.toList.toArray 0) := Heap.get?_push_size _ rfl
  have E2 : EachIs (fun v (b : Addr × List Int) => ∃ as, PySem.Reads (h'.push (seqObj "list" acc.toList.toArray 0)) v (intsD b.2) as ∧ h'.objs.size ∉ as) acc.toList bs := each_idx hal' fun i u b hu hb => by
    have hm := List.mem_of_getElem? hb
    obtain ⟨_, its, r, o, g1, g2, n, g3⟩ := (show ObjOk X.prog X.w H h' b.1 (.tup (b.2.map V.int)) from I1.hok b.1 _ (hbat b hm))
    have hu2 : u = .ref b.1 := by
      obtain ⟨hi, hv⟩ := hacc.2 i u (by rw [← Array.getElem?_toList]; exact hu)
      obtain ⟨x, hx, hk2⟩ := hkey i hi
      obtain ⟨h1, h2⟩ := List.getElem?_zip_eq_some.mp hb
      rw [List.getElem?_map, hx] at h1
      rw [hv, hk2, ← Option.some.inj h1]
    rw [hu2]
    exact ⟨[], .tuple (Heap.get?_push_of_some _ g1) g2 g3 (by simpa using reads_ints r), by simp⟩
  show wpAny _ _ _ _ _ { s with heap := h'.push (seqObj "list" acc.toList.toArray 0), toks := tk }
  refine wpAny_bind (wpAny_holding (list_sort_data (s := { s with heap := h'.push (seqObj "list" acc.toList.toArray 0), toks := tk }) (enc := fun b : Addr × List Int => intsD b.2) hoL E1 E2 (by rw [hbe]; exact hal) (by rw [hbe]; exact hsrt) (by rw [hbl, hcl]; exact z) (fun b hb => ?_) fun out ho eo => ?_))
  · have := (hdp b.2 (hbd b hb)).1
    show X.A.units + 1 + 1 + (intsD b.2).depth < cLine
    omega
  obtain ⟨e', he'⟩ := PyProof.Rows.sortedHeap_at (vs := acc.toList) (out := out.toArray) hoL
  have hys : DaL H ((bs.mergeSort (dataLe false fun b : Addr × List Int => intsD b.2)).map fun b => V.ref b.1) (srt (cs.map intsD)) := by
    rw [← hbe, ← srt_map (fun b : Addr × List Int => intsD b.2) bs]
    refine da_refs fun b hb => ?_
    have hm := (List.mergeSort_perm _ _).mem_iff.mp hb
    exact .tup (hbat b hm) (by rw [List.length_map]; exact (hdp b.2 (hbd b hm)).2) (DaL.ofInts b.2)
  have hlen : ((bs.mergeSort (dataLe false fun b : Addr × List Int => intsD b.2)).map fun b => V.ref b.1).length ≤ sizeLine := by
    rw [List.length_map, List.length_mergeSort, hbl, hcl]; exact z
  refine wpAny_pure ⟨_, rfl, .ref h'.objs.size, upd H h'.objs.size (.lst _), I1.laid (t' := tk) (fun b u e => ?_) (Nat.le_refl _)
    (show ObjOk X.prog X.w _ _ _ (.lst _) from ⟨hlen, out, e', each_refs eo, he'⟩), rfl, q _ _ (I1.hok.fresh (Nat.le_refl _)) hys⟩
  have hb : b < h'.objs.size := Heap.lt_size e
  rw [PyProof.Rows.sortedHeap_old (Nat.ne_of_lt hb) (by rw [size_push']; exact Nat.lt_succ_of_lt hb)]
  exact Heap.get?_push_of_some _ e
end
/-! ### the hashes of small pairs differ -/
def hp (a b : Int) : Int := reduceHash (Builtin.Tuple.tupleHashOf [hashInt a, hashInt b])
theorem pair_hash (P : Program) (w : World) (a b : Int) : (tupleKind (mixKind P w)).hash [.inl a, .inl b] = hp a b := by
  show reduceHash (Builtin.Tuple.tupleHashOf [keyH w (.inl a), keyH w (.inl b)]) = _
  unfold hp keyH
  rfl
theorem hp_nd : ((List.range 104).map fun i => hp ((i / 26 : Nat) : Int) ((i % 26 : Nat) : Int)).Nodup := by decide +kernel
theorem hp_inj {a b c d : Nat} (ha : a < 4) (hb : b < 26) (hc : c < 4) (hd : d < 26) (e : hp a b = hp c d) : a = c ∧ b = d := by
  have pw := List.pairwise_iff_getElem.mp hp_nd
  have key : ∀ i j : Nat, i < j → j < 104 → hp ((i / 26 : Nat) : Int) ((i % 26 : Nat) : Int) ≠ hp ((j / 26 : Nat) : Int) ((j % 26 : Nat) : Int) := fun i j hij hj => by
    have h := pw i j (by rw [List.length_map, List.length_range]; omega) (by rw [List.length_map, List.length_range]; omega) hij
    rw [List.getElem_map, List.getElem_map, List.getElem_range, List.getElem_range] at h
    exact h
  have e1 : (26 * a + b) / 26 = a := by omega
  have e2 : (26 * a + b) % 26 = b := by omega
  have e3 : (26 * c + d) / 26 = c := by omega
  have e4 : (26 * c + d) % 26 = d := by omega
  rcases Nat.lt_trichotomy (26 * a + b) (26 * c + d) with h | h | h
  · have := key _ _ h (by omega)
    rw [e1, e2, e3, e4] at this
    exact absurd e this
  · omega
  · have := key _ _ h (by omega)
    rw [e1, e2, e3, e4] at this
    exact absurd e.symm this
theorem map_keys {f : List Key → Int} {g : Int × Int → Int} (hf : ∀ c : Int × Int, f [Sum.inl c.1, Sum.inl c.2] = g c) : ∀ {kvs : List (List Key × V)} {cs : List (Int × Int)}, kvs.map (·.1) = cs.map (fun c => [Sum.inl c.1, Sum.inl c.2]) → (kvs.map fun e => f e.1) = cs.map g
  | [], [], _ => rfl
  | e :: kvs, c :: cs, h => by
    rw [List.map_cons, List.map_cons] at h
    injection h with h1 h2
    rw [List.map_cons, List.map_cons, map_keys hf h2, h1, hf]
  | [], _ :: _, h => by cases h
  | _ :: _, [], h => by cases h
/-- dict(d) where the keys are pairs of ints -/
def rDictC : List V → Hp → VK → Prop := fun vs H Q => ∃ (a : Addr) (kvs : List (List Key × V)) (cs : List (Int × Int)), vs = [.ref a] ∧ H a = some (.dT kvs) ∧ kvs.map (·.1) = cs.map (fun c => [Sum.inl c.1, Sum.inl c.2]) ∧ (cs.map fun c => hp c.1 c.2).Nodup ∧ ∀ p, H p = none → Q (.ref p) (upd H p (.dT kvs))
theorem b_dictC {X : Cx} (hu : X.A.units + 8 < cLine) : CallR X (.type "dict") rDictC := by
  intro pins s σ H vs us Q I r h
  obtain ⟨a, kvs, cs, rfl, ha, hk, hh, q⟩ := h
  refine b_dictT hu pins s σ H _ us Q I r ⟨a, kvs, rfl, ha, ?_, q⟩
  have e := map_keys (f := (tupleKind (mixKind X.prog X.w)).hash) (g := fun c => hp c.1 c.2) (fun c => pair_hash _ _ c.1 c.2) hk
  rw [e]; exact hh
theorem g_dictC {H : Hp} {Q : VK} {a : Addr} {kvs : List (List Key × V)} (cs : List (Int × Int)) (h : H a = some (.dT kvs)) (hk : kvs.map (·.1) = cs.map (fun c => [Sum.inl c.1, Sum.inl c.2])) (hn : (cs.map fun c => hp c.1 c.2).Nodup) (q : ∀ p H', H p = none → Fr [] H H' → H' p = some (.dT kvs) → Q (.ref p) H') : rDictC [.ref a] H Q :=
  ⟨a, kvs, cs, rfl, h, hk, hn, fun p e => q p _ e (Fr.new e) upd_same⟩
theorem g_sortedDT {H : Hp} {Q : VK} {a : Addr} {kvs : List (List Key × V)} (cs : List (List Int)) (h : H a = some (.dT kvs)) (hk : kvs.map (·.1) = cs.map (fun c => c.map Sum.inl)) (ha : AllAlike (cs.map intsD)) (hs : Sortable (cs.map intsD)) (hd : ∀ c ∈ cs, (intsD c).depth ≤ 60 ∧ c.length ≤ 1000000)
    (q : ∀ p H' ys, H p = none → Fr [] H H' → H' p = some (.lst ys) → DaL H' ys (srt (cs.map intsD)) → Q (.ref p) H') : rSortedDT [.ref a] H Q :=
  ⟨a, kvs, cs, rfl, h, hk, ha, hs, hd, fun p ys e d => q p _ ys e (Fr.new e) upd_same (DaL.frL (Fr.new e) d (immL_of fun d hd => by
    obtain ⟨c, _, rfl⟩ := List.mem_map.mp ((srt_perm _).mem_iff.mp hd)
    exact immL_of fun d hd => by obtain ⟨n, _, rfl⟩ := List.mem_map.mp hd; rfl))⟩
theorem g_popT {H : Hp} {Q : VK} {a b : Addr} {kvs : List (List Key × V)} {k : List Key} {d : V} (h : H a = some (.dT kvs)) (hb : H b = some (.tup (k.map kV))) (q1 : ∀ v H', valV kvs k = some v → Fr [a] H H' → H' a = some (.dT (dropK kvs k)) → Q v H') (q2 : valV kvs k = none → Q d H) : L2.DX.rPopT (.ref a) [.ref b, d] H Q :=
  ⟨a, kvs, k, b, d, rfl, rfl, h, hb, fun v e => q1 v _ e (Fr.put h trivial) upd_same, q2⟩
theorem g_popT1 {H : Hp} {Q : VK} {a b : Addr} {kvs : List (List Key × V)} {k : List Key} {v : V} (h : H a = some (.dT kvs)) (hb : H b = some (.tup (k.map kV))) (hv : valV kvs k = some v) (q : ∀ H', Fr [a] H H' → H' a = some (.dT (dropK kvs k)) → Q v H') : rPopT1 (.ref a) [.ref b] H Q :=
  ⟨a, b, kvs, k, v, rfl, rfl, h, hb, hv, q _ (Fr.put h trivial) upd_same⟩
/-- a place that was changed and is as it was -/
theorem Fr.back {p : Addr} {u : HO} {H H' : Hp} (f : Fr [p] H H') (h : H p = some u) (h' : H' p = some u) : Fr [] H H' := ⟨fun a o e _ => by
  by_cases q : a = p
  · subst q; rw [h] at e; cases e; exact h'
  · exact f.at e (nin1 q nin0), f.tup⟩
/-- d[k] -= x -/
def rDA (a : Addr) (y : V) (v : V) (tv : TE) (rd : V → V → Hp → VK → Prop) (σ : L2.St) (H : Hp) (P : Hp → Prop) : Prop := tv σ H fun y2 H3 => rd v y2 H3 fun z H4 => ∃ H5, DPut H4 a y z H5 ∧ P H5
def rDA0 (x y : V) (tv : TE) (rd : V → V → Hp → VK → Prop) (σ : L2.St) (H : Hp) (P : Hp → Prop) : Prop := ∃ a v, x = .ref a ∧ DGet H a y (some v) ∧ rDA a y v tv rd σ H P
theorem g_daug {td ty tv : TE} {rd : V → V → Hp → VK → Prop} {D : Ends} {σ : L2.St} {H : Hp} (h : td σ H fun x H1 => ty σ H1 fun y H2 => rDA0 x y tv rd σ H2 fun H5 => D.nx σ H5) : sDAug td ty tv rd D σ H := h
theorem g_rda0 {a b : Addr} {kvs : List (List Key × V)} {k : List Key} {v : V} {tv : TE} {rd : V → V → Hp → VK → Prop} {σ : L2.St} {H : Hp} {P : Hp → Prop} (h : H a = some (.dT kvs)) (hb : H b = some (.tup (k.map kV))) (hv : valV kvs k = some v) (q : rDA a (.ref b) v tv rd σ H P) : rDA0 (.ref a) (.ref b) tv rd σ H P :=
  ⟨a, v, rfl, .inr ⟨kvs, k, b, .inl h, rfl, hb, hv.symm⟩, q⟩
theorem g_rdput {a b : Addr} {kvs : List (List Key × V)} {k : List Key} {v : V} {H : Hp} {P : Hp → Prop} (h : H a = some (.dT kvs)) (e : H b = some (.tup (k.map kV))) (hl : kvs.length < sizeLine) (c : ∀ H', Fr [a] H H' → H' a = some (.dT (putK kvs k v)) → P H') : ∃ H5, DPut H a (.ref b) v H5 ∧ P H5 :=
  ⟨_, .inr ⟨kvs, k, b, h, rfl, e, hl, rfl⟩, c _ (Fr.put h trivial) upd_same⟩
theorem un1 {u c : Nat} (h : u + 64 < c) : u + 1 < c := by omega
theorem un8 {u c : Nat} (h : u + 64 < c) : u + 8 < c := by omega
end Lw

namespace Lw
open PySem PySem.Spec PyProof.Rows L2
/-! ### enumerate(tuple) -/
set_option maxHeartbeats 4000000 in
theorem meets_enumT {v : Value} {o : Obj} {H : Heap → Prop} (B : Begins v o H) :
    Meets (Builtin.«enumerate.__new__» ⟨[.type "enumerate", v], []⟩) (fun _ R s => H s.heap ∧
      R (.ok (.ret (.ref (s.heap.push o).objs.size))) { s with heap := (s.heap.push o).push { cls := .type "enumerate", data := .fields #[.none, .bool false, .ref s.heap.objs.size, rawInt 0, .none, .none] } }) :=
  .of_wp fun prog w A R s h => by
    obtain ⟨hp, g, d, tk, os⟩ := s; obtain ⟨h1, h⟩ := h
    have hsub := sub_enumerate
    have q1 : ∀ {A' : Around} {E : Value → Shared → Prop} {Q : Value → Shared → Prop}, Q (.ref hp.objs.size) ⟨hp.push o, g, d, tk, os⟩ → wpAny (model prog w) A' (pyIter v) Q E ⟨hp, g, d, tk, os⟩ :=
      fun q => B.iter prog w _ _ ⟨hp, g, d, tk, os⟩ _ h1 q
    wp_walk using q1
    refine wpAny_stack_any fun st => wpAny_pure ?_
    split
    · rename_i c _ _ _ _ _
      cases (c == Value.type "enumerate")
      · wp_walk using q1
        exact ⟨_, rfl, h⟩
      · wp_walk using q1
        exact ⟨_, rfl, h⟩
    · wp_walk using q1
      exact ⟨_, rfl, h⟩
theorem enum_begins1 {prog : Program} {w : World} {A : Around} {E : Value → Shared → Prop} {s : Shared} {v : Value} {o : Obj} {H : Heap → Prop} {Q : Value → Shared → Prop} (B : Begins v o H) (h1 : H s.heap)
    (h : ∀ h', IsEnum h' (s.heap.objs.size + 1) s.heap.objs.size 0 .none → h'.get? s.heap.objs.size = some o → h'.objs.size = s.heap.objs.size + 2 →
      (∀ b o, s.heap.get? b = some o → h'.get? b = some o) → Q (.ref (s.heap.objs.size + 1)) { s with heap := h' }) :
    wpAny (model prog w) A (call (.type "enumerate") [v]) Q E s := by
  refine callType_new F.called_enumerate (by decide) (F.typeCall_enumerate_1 _) (F.newCall_enumerate_1 _) (fun obj => F.args_object_init_2 obj _) F.entry_enumerate_new
    (meets_enumT B) ⟨h1, ?_⟩
  have hz : (s.heap.push o).objs.size = s.heap.objs.size + 1 := Heap.size_push ..
  show _ ∧ _
  rw [hz]
  have he : IsEnum ((s.heap.push o).push { cls := .type "enumerate", data := .fields #[.none, .bool false, .ref s.heap.objs.size, rawInt 0, .none, .none] }) (s.heap.objs.size + 1) s.heap.objs.size 0 .none := by
    have := Heap.get?_push_size (s.heap.push o) (o := { cls := .type "enumerate", data := .fields #[.none, .bool false, .ref s.heap.objs.size, rawInt 0, .none, .none] }) rfl
    rw [hz] at this; exact this
  refine ⟨⟨_, he, rfl⟩, h _ he (Heap.get?_push_of_some _ (Heap.get?_push_size _ B.free)) (by rw [Heap.size_push, hz]) fun b o x => Heap.get?_push_of_some _ (Heap.get?_push_of_some _ x)⟩
/-- the tuple at a as it stands at each turn, each item in a new pair -/
def IteT (K : PySem.W.Frag) (a : Addr) : It :=
  ⟨fun i H => ∃ (xs : List V) (x : V), SqT K H a xs ∧ xs[i]? = some x, fun i H v H' => ∃ T x, v = .ref T ∧ H T = none ∧ H' = upd H T (.tup [.int (i : Nat), x]) ∧ ∀ xs, SqT K H a xs → xs[i]? = some x, fun i H => ∃ xs : List V, SqT K H a xs ∧ xs.length ≤ i⟩
theorem turn_enumT {P : Program} {w : World} {K : PySem.W.Frag} {elts : List Expr} {kk : Nat} {tpos : Pos} (a e it : Addr) :
    Turn P w K (.Tuple elts kk tpos) (IteT K a) [e, it] e (fun i h => (∃ old, IsEnum h e it ((i : Nat) : Int) old) ∧ h.IsTupleIter it a i ∧ e ≠ it) where
  mem := by simp
  obj := fun i h st b hb => by
    obtain ⟨⟨old, he⟩, ⟨o, ho, hc, hd⟩, _⟩ := st
    have e' : b = e ∨ b = it := by simpa using hb
    rcases e' with z | z
    · rw [z]; exact ⟨_, he, fun v q => nomatch q⟩
    · rw [z]; exact ⟨o, ho, fun v q => by rw [hd] at q; cases q⟩
  keep := fun i h h' st k => let ⟨⟨old, he⟩, hi, hne⟩ := st; ⟨⟨old, k e (by simp) _ he⟩, hi.at fun o q => k it (by simp) o q, hne⟩
  item := by
    intro X hP hw hK hc i pins s σ H E I hf st hg
    subst hP hw hK
    obtain ⟨⟨old, he⟩, hit, hne⟩ := st
    obtain ⟨xs, x, hq, hx⟩ := hg
    obtain ⟨its, rv, p, hz⟩ := I.tuple hq
    obtain ⟨u, hu, ru⟩ := rv.get hx
    have hel : e < s.heap.objs.size := Heap.lt_size he
    have hil : it < s.heap.objs.size := by obtain ⟨_, q, _⟩ := hit; exact Heap.lt_size q
    have hai : a ≠ it := fun z => by
      obtain ⟨o, h1, h2, n, h3⟩ := p
      obtain ⟨o', g1, g2, g3⟩ := hit
      rw [z] at h1; rw [h1] at g1; cases g1; rw [h3] at g3; cases g3
    have hae : a ≠ e := fun z => by
      obtain ⟨o, h1, h2, n, h3⟩ := p
      rw [z] at h1; cases Option.some.inj (h1.symm.trans he); cases h3
    have D := Draws.tuple (prog := X.prog) (w := X.w) (A := X.A.in1) (I.ok.hd hc) it a hai its.toArray
    have hi : i < its.toArray.size := by
      have := (List.getElem?_eq_some_iff.mp hu).1
      simpa using this
    refine wpAny_pyNext_enum_itemD D he ⟨hit, p⟩ hi hne (by simp [hne, Ne.symm hae]) fun y h' tk hy ho hst' hT hsz hk => ?_
    have hyu : y = u := by
      have hu' : its.toArray[i]? = some u := by simpa using hu
      rw [hu'] at hy; exact (Option.some.inj hy).symm
    subst hyu
    refine ⟨_, rfl, wpAny_letOwnedTupleGo_enum (s := { s with heap := h', toks := tk + 1 }) ho fun h'' he' sb => ?_⟩
    have hT2 : h''.get? s.heap.objs.size = some { cls := .type "tuple", data := .seq #[.int i tk, y] } := (sb.2 _ (Nat.ne_of_gt hel)).trans hT
    have new : ObjOk X.prog X.w (upd H s.heap.objs.size (.tup [.int (i : Nat), x])) h'' s.heap.objs.size (.tup [.int (i : Nat), x]) :=
      ⟨by show 2 ≤ sizeLine; decide, [.int i tk, y], .cons ⟨_, rfl⟩ (.cons ru .nil), ⟨_, hT2, rfl, _, rfl⟩⟩
    have I1 : Inv X pins σ (upd H s.heap.objs.size (.tup [.int (i : Nat), x])) { s with heap := h'', toks := tk + 1 } :=
      I.turnedNew (ch := [e, it]) (fun b ob hb q => (sb.2 b (fun z => hb (by simp [z]))).trans (hk b ob (fun z => hb (by simp [z])) (fun z => hb (by simp [z])) q)) hf (Nat.le_refl _) new
    refine ⟨.ref s.heap.objs.size, _, I1, rfl, ⟨_, x, rfl, I.hok.fresh (Nat.le_refl _), rfl, fun ys hy => by rw [I.tuple_inj hy hq]; exact hx⟩, ⟨⟨y, ?_⟩, hst'.1.at fun o q => (sb.2 it (Ne.symm hne)).trans q, hne⟩, fun b hb => ?_⟩
    · have e1 : ((i + 1 : Nat) : Int) = (i : Int) + 1 := by omega
      rw [e1]; exact he'
    · have hb' : b < s.heap.objs.size := by
        have e' : b = e ∨ b = it := by simpa using hb
        rcases e' with z | z
        · rw [z]; exact hel
        · rw [z]; exact hil
      rw [upd_ne (Nat.ne_of_lt hb')]
      exact (hf b hb).1
  done := by
    intro X hP hw hK hc i pins s σ H E I hf st hg
    subst hP hw hK
    obtain ⟨⟨old, he⟩, hit, hne⟩ := st
    obtain ⟨xs, hq, hx⟩ := hg
    obtain ⟨its, rv, p, hz⟩ := I.tuple hq
    obtain ⟨f0, f1, f2, f3, f4, f5⟩ := hf it (by simp)
    have hl := rv.length
    have hai : a ≠ it := fun z => by
      obtain ⟨o, h1, h2, n, h3⟩ := p
      obtain ⟨o', g1, g2, g3⟩ := hit
      rw [z] at h1; rw [h1] at g1; cases g1; rw [h3] at g3; cases g3
    have hT : s.TypeIs (.ref e) "enumerate" := ⟨_, he, rfl⟩
    unfold pyNext
    refine wpAny_bind (wpAny_attempt (wpAny_callSpecial?_slot (name := Str.ofString "__next__") hT F.slot_enumerate_next
      (wpAny_call_entry F.slot_enumerate_next hT F.entry_enumerate_next ?_ (F.args_enumerate_next_1 _))))
    show wpAny _ _ (field (.ref e) 2 >>= _) _ _ _
    refine wpAny_bind (wpAny_field he rfl (x := .ref it) rfl ?_)
    refine wpAny_bind (wpAny_nextOf_tuple_end (items := its.toArray) (show X.A.in1.handled = none from I.ok.hd hc) hit p (by simp; omega) fun h' x he' hx' => ?_)
    obtain ⟨o, ho, hcl⟩ := hx'
    refine wpAny_bind (wpAny_isInstance (T := "StopIteration") (b := true) ⟨o, ho, hcl⟩ isSubtype_stop ?_)
    exact wpAny_pure ⟨rfl, I.turned (t' := s.toks) (fun b o hb q => he' b o hb q) f0 f1 f3 f4 f5⟩
  self := fun A i s Q E st h => let ⟨⟨_, he⟩, _⟩ := st; wpAny_pyIter_enum he h
def iEnumT (K : PySem.W.Frag) (ta : TA) : TI := fun σ H R => ta σ H fun vs H1 => ∃ a xs, vs = [.ref a] ∧ SqT K H1 a xs ∧ R (IteT K a) H1
theorem pi_enumT {X : Cx} {e : Expr} {ta : TA} {p pos tpos : Pos} {elts : List Expr} {kk : Nat} (hg : Gl X "enumerate") (hm : X.mg "enumerate" = none) (ha : PA X [e] ta) (hs : starEach [e] X.env = [(false, eval e X.env)] := by rfl) :
    PI X (.Tuple elts kk tpos) (.Call (.Name "enumerate" p) [e] [] pos) (iEnumT X.K ta) := by
  refine ⟨fun pins s σ H R I h => ?_⟩
  refine Call_ (ld_blt I hg hm boot_enumerate (PyProof.Rows.callWith_type1 (thn (ha.run pos pins s σ H _ I h) fun us s1 ⟨vs, H1, I1, r1, q1⟩ => ?_) hs rfl))
  obtain ⟨a, xs, ex, hq, q⟩ := q1
  subst ex
  cases r1 with
  | cons r rr =>
    cases rr
    cases r
    obtain ⟨its, rv, p', hz⟩ := I1.tuple hq
    refine enum_begins1 (begins_tuple a its.toArray) p' fun h' he hit hsz hk => wpAny_pyIter_enum he ?_
    have I2 : Inv X pins σ H1 { s1 with heap := h' } := I1.kept (t' := s1.toks) hk
    refine ⟨s1.heap.objs.size + 1, [s1.heap.objs.size + 1, s1.heap.objs.size], _, _, H1, rfl, I2, turn_enumT a (s1.heap.objs.size + 1) s1.heap.objs.size, ⟨⟨.none, he⟩, ⟨_, hit, rfl, rfl⟩, Nat.succ_ne_self _⟩, fun b hb => ?_, q⟩
    have e' : b = s1.heap.objs.size + 1 ∨ b = s1.heap.objs.size := by simpa using hb
    have hle : s1.heap.objs.size ≤ b := by
      rcases e' with z | z
      · rw [z]; exact Nat.le_add_right _ _
      · rw [z]; exact Nat.le_refl _
    exact I1.fpOk hle (I1.hok.fresh hle)
section
variable {K : PySem.W.Frag} {σ : L2.St} {H : Hp} {D : Ends} {tb : TS} {g : TG} {a : Addr} {R : It → Hp → Prop} {as : TA}
def rEnT (K : PySem.W.Frag) (vs : List V) (H : Hp) (R : It → Hp → Prop) : Prop := ∃ a xs, vs = [.ref a] ∧ SqT K H a xs ∧ R (IteT K a) H
theorem g_iET (h : as σ H fun vs H1 => rEnT K vs H1 R) : iEnumT K as σ H R := h
theorem g_renT {xs : List V} (h : SqT K H a xs) (c : R (IteT K a) H) : rEnT K [.ref a] H R := ⟨a, xs, rfl, h, c⟩
theorem f_enumT {xs : List V} (Pv : Nat → L2.St → Hp → Prop) (h0 : Pv 0 σ H) (hl : ∀ i σ H, i ≤ xs.length → Pv i σ H → SqT K H a xs)
    (hs : ∀ i x T σ H H', xs[i]? = some x → Pv i σ H → H T = none → Fr [] H H' → H' T = some (.tup [.int (i : Nat), x]) → g (.ref T) σ H' fun σ2 H2 => tb { D with nx := Pv (i + 1), ct := Pv (i + 1), bk := D.nx } σ2 H2) (hd : ∀ σ H, Pv xs.length σ H → D.nx σ H) : ForGo (IteT K a) g tb D σ H := by
  refine ⟨fun i m σ H => m = xs.length - i ∧ i ≤ xs.length ∧ Pv i σ H, ⟨xs.length, rfl, Nat.zero_le _, h0⟩, ?_⟩
  rintro i m σ H ⟨rfl, hi, p⟩
  have qx := hl i σ H hi p
  by_cases hlt : i < xs.length
  · have hx : xs[i]? = some xs[i] := List.getElem?_eq_getElem hlt
    refine .inr ⟨⟨xs, _, qx, hx⟩, Pv (i + 1), fun σ' H' p' => ⟨xs.length - (i + 1), by omega, rfl, hlt, p'⟩, fun v H' y => ?_⟩
    obtain ⟨T, x', rfl, hT, rfl, f1⟩ := y
    exact hs i x' T σ H _ (f1 xs qx) p hT (Fr.new hT) upd_same
  · have e : i = xs.length := by omega
    subst e
    exact .inl ⟨⟨xs, qx, Nat.le_refl _⟩, hd σ H p⟩
/-! small words -/
variable {Q : VK} {te : TE} {x : V}
def rIntB : List V → Hp → VK → Prop := fun xs H Q => ∃ k, xs = [.bl k] ∧ Q (.int (if k then 1 else 0)) H
theorem b_intB {X : Cx} : CallR X (.type "int") rIntB := fun pins s σ H xs us Q I r h => call_int1 pins s σ H xs us Q I r (.inr h)
theorem g_intB {k : Bool} (h : Q (.int (if k then 1 else 0)) H) : rIntB [.bl k] H Q := ⟨k, rfl, h⟩
theorem g_slT {xs : List V} {lo hi : Option Int} (h : SqT K H a xs) (n : ¬ (HT.sIx xs.length 0 lo = 0 ∧ HT.sIx xs.length xs.length hi = xs.length)) (q : ∀ l H', H l = none → Fr [] H H' → H' l = some (.tup (cutV xs lo hi)) → Q (.ref l) H') : rSlT K (.ref a) lo hi H Q :=
  ⟨a, xs, rfl, h, n, fun l hl => q l _ hl (Fr.new hl) upd_same⟩
theorem cut_tail {x : V} {xs : List V} : cutV (x :: xs) (some 1) none = xs := by
  unfold cutV
  rw [HT.sIx_none, show (some (1 : Int)) = some (((1 : Nat) : Int)) from rfl, HT.sIx_nat, List.length_cons, Nat.min_eq_left (Nat.succ_le_succ (Nat.zero_le _)), List.drop_one, List.tail_cons]
  exact List.take_of_length_le (by omega)
theorem g_sl1 {x : V} {xs : List V} (h : SqT K H a (x :: xs)) (q : ∀ l H', H l = none → Fr [] H H' → H' l = some (.tup xs) → Q (.ref l) H') : rSlT K (.ref a) (some 1) none H Q := by
  refine g_slT h (fun z => ?_) fun l H' n f e => q l H' n f (by rw [cut_tail] at e; exact e)
  have z1 := z.1
  rw [show (some (1 : Int)) = some (((1 : Nat) : Int)) from rfl, HT.sIx_nat, List.length_cons, Nat.min_eq_left (Nat.succ_le_succ (Nat.zero_le _))] at z1
  exact absurd z1 (by decide)
theorem g_un {r : V → Hp → VK → Prop} (h : te σ H fun x H1 => r x H1 Q) : tUn r te σ H Q := h
abbrev rNeg : V → Hp → VK → Prop := rU fun i => .int (-i)
theorem g_neg {i : Int} (h : Q (.int (-i)) H) : rNeg (.int i) H Q := ⟨i, rfl, h⟩
theorem g_trC {P : Bool → Prop} {x : V} {xs : List V} (h : SqL K H a (x :: xs)) (q : P true) : ∃ k, TruV K (.ref a) H k ∧ P k := ⟨true, .inl ⟨x :: xs, h, rfl⟩, q⟩
theorem g_trN {P : Bool → Prop} (h : SqL K H a []) (q : P false) : ∃ k, TruV K (.ref a) H k ∧ P k := ⟨false, .inl ⟨[], h, rfl⟩, q⟩
end
end Lw

namespace Lw
open PySem PySem.Spec PyProof.Rows L2
/-! ### x in a tuple of data -/
section
variable {X : Cx} {K : PySem.W.Frag} {H : Hp} {Q : VK} {x y : V} {d e : PyData} {ds : List PyData}
def rInDT (K : PySem.W.Frag) : R2 := fun x y H Q => ∃ d ds, Dp K H x d ∧ Dp K H y (.tuple ds) ∧ d.canLay0 = true ∧ PyData.canLayAll0 ds = true ∧ d.depth ≤ 60 ∧ Q (.bl (ds.any fun z => PyData.eqv z d)) H
theorem op_inDT (hu : X.A.units + 64 < cLine) : OpR X (compareOp .In) (rInDT X.K) := by
  intro pins s σ H x y v u Q I rx ry h
  obtain ⟨d, ds, hd, he, sd, se, sz, q⟩ := h
  obtain ⟨as, r1⟩ := Dp.reads I d x v hd rx
  obtain ⟨bs, r2⟩ := Dp.reads I (.tuple ds) y u he ry
  have h2 : min (PyData.depthAll ds) d.depth ≤ d.depth := Nat.min_le_right _ _
  exact SeqAt.in_tuple_reads r2 r1 se sd (by omega) ⟨.bl _, H, I, rfl, q⟩
theorem g_inDT (dx : Da H x d) (dy : Da H y (.tuple ds)) (s1 : d.canLay0 = true) (s2 : PyData.canLayAll0 ds = true) (hz : d.depth ≤ 60) (q : Q (.bl (ds.any fun z => PyData.eqv z d)) H) : rInDT K x y H Q :=
  ⟨d, ds, Da.dp _ _ dx, Da.dp _ _ dy, s1, s2, hz, q⟩
theorem g_eqDD (dx : Da H x d) (dy : Da H y e) (s1 : SeqAt.shaped d = true) (s2 : SeqAt.shaped e = true) (q : Q (.bl (PyData.eqv d e)) H) : rEqD K x y H Q := ⟨d, e, Da.dp _ _ dx, Da.dp _ _ dy, s1, s2, q⟩
/-! ### slices that may be whole -/
theorem g_slA {a : Addr} {xs : List V} {lo hi : Option Int} (h : SqT K H a xs) (q1 : HT.sIx xs.length 0 lo = 0 ∧ HT.sIx xs.length xs.length hi = xs.length → Q (.ref a) H)
    (q2 : ¬ (HT.sIx xs.length 0 lo = 0 ∧ HT.sIx xs.length xs.length hi = xs.length) → ∀ l H', H l = none → Fr [] H H' → H' l = some (.tup (cutV xs lo hi)) → Q (.ref l) H') : rSlA K (.ref a) lo hi H Q :=
  ⟨a, xs, rfl, h, q1, fun n l hl => q2 n l _ hl (Fr.new hl) upd_same⟩
/-! ### list of a dict with tuple keys -/
def rListDT : List V → Hp → VK → Prop := fun xs H Q => ∃ d kvs, xs = [V.ref d] ∧ Rd H d (.dT kvs) ∧ ∀ p bs, H p = none → IsKeys H kvs bs → Q (.ref p) (upd H p (.lst (bs.map V.ref)))
theorem b_listDT (hc : X.calm = true) : CallR X (.type "list") rListDT := call_list_dT hc
theorem g_listDT {a : Addr} {kvs : List (List Key × V)} (h : H a = some (.dT kvs)) (q : ∀ p bs H', H p = none → Fr [] H H' → IsKeys H kvs bs → H' p = some (.lst (bs.map V.ref)) → Q (.ref p) H') : rListDT [.ref a] H Q :=
  ⟨a, kvs, rfl, .inl h, fun p bs n k => q p bs _ n (Fr.new n) k upd_same⟩
end
/-! l.extend(m) -/
theorem g_extend {H : Hp} {Q : VK} {l b : Addr} {xs zs : List V} (h : H l = some (.lst xs)) (h2 : H b = some (.lst zs)) (hl : xs.length + zs.length ≤ sizeLine) (q : ∀ H', Fr [l] H H' → H' l = some (.lst (xs ++ zs)) → Q .non H') : rExtend (.ref l) [.ref b] H Q :=
  ⟨l, b, xs, zs, rfl, rfl, h, h2, hl, q _ (Fr.put h trivial) upd_same⟩
/-! frames -/
theorem Fr.in1 {l : List Addr} {a : Addr} {H H' : Hp} (f : Fr [a] H H') (h : a ∈ l) : Fr l H H' := f.mono fun x hx => by rw [List.mem_singleton.mp hx]; exact h
theorem Fr.in2 {l : List Addr} {a b : Addr} {H H' : Hp} (f : Fr [a, b] H H') (h : a ∈ l) (h2 : b ∈ l) : Fr l H H' := f.mono fun x hx => by
  rcases List.mem_cons.mp hx with q | q
  · rw [q]; exact h
  · rw [List.mem_singleton.mp q]; exact h2
theorem Fr.back1 {l : List Addr} {p : Addr} {u : HO} {H H' : Hp} (f : Fr (p :: l) H H') (h : H p = some u) (h' : H' p = some u) : Fr l H H' := ⟨fun a o e n => by
  by_cases z : a = p
  · rw [z] at e ⊢; rw [h] at e; cases e; exact h'
  · exact f.keep a o e (nin1 z n), f.tup⟩
end Lw

namespace Lw
open PySem PySem.Spec PyProof.Rows L2
/-! ### defs that may raise, classes of errors -/
structure CalX (P : Program) (w : World) (K : PySem.W.Frag) (mg : Str → Option Value) (base : Heap) (x : Str) (k : Nat) (ps : List Str) (sp : Sp) : Prop where
  ex : ∃ f fd, FnOk P w K mg base (L2.CX P w) k f fd ps sp ∧ mg x = some (.ref f) ∧ PySem.W.keepIn K (.ref f) = true ∧ Binds K fd ps []
structure ErrC (K : PySem.W.Frag) (mg : Str → Option Value) (x : Str) (C : Addr) : Prop where
  g : mg x = some (.ref C)
  k : PySem.W.keepIn K (.ref C) = true
  e : PySem.W.excIn K C [.type "ValueError", .type "Exception", .type "BaseException", .type "object"] "ValueError.__new__" = true
  s : PySem.W.subIn K (.ref C) (.type "BaseException") = some true
  t : PySem.W.typeIn K (.ref C) = some (.type "type")
def tClX (sp : Sp) (W : WX) (t : TA) : TE := fun σ H Q => t σ H fun vs H1 => sp vs H1 Q (fun cls d H' => W cls d σ H')
def tRz (C : Addr) (W : WX) : TS := fun _ σ H => W (.ref C) none σ H
section
variable {X : Cx} {k : Nat} {ps : List Str} {sp : Sp} {x m : Str} {p p2 pos pos2 : Pos} {j : Nat} {e : Expr} {es : List Expr} {t : TA} {C : Addr} {W : WX}
theorem pe_clX (c : CalX X.prog X.w X.K X.mg X.base x k ps sp) (hr : Room k X.A) (hg : Gl X x) (tk : Takes X W) (ha : PA X (e :: es) t) (hdb : (x == ("__debug__" : Str)) = false := by decide)
    (he : starEach (e :: es) X.env = (false, eval e X.env) :: starEach es X.env := by rfl) (hpl : (backTo pos (starEach es X.env)).any (·.1) = false := by rfl) : PE X (.Call (.Name x p) (e :: es) [] pos) (tClX sp W t) := by
  obtain ⟨f, fd, F, hm, hk, hb⟩ := c.ex
  exact pe_callS (E := fun σ cls d H => W cls d σ H) F hr hg hm hk hb (fun s => passAt tk s) ha hdb he hpl
theorem ps_rz (hc : X.calm = true) (tk : Takes X W) (c : ErrC X.K X.mg x C) (hg : Gl X x) (hdb : (x == ("__debug__" : Str)) = false := by decide) :
    PS X (.Raise (some (.Call (.Name x p) [.Constant (.str m) j p2] [] pos)) none pos2) (tRz C W) :=
  ps_raise hc tk (pmk_own PySem.F.excBase_ValueError c.e c.g c.k (raises_own c.s c.t) hg hdb)
/-- a class of errors, by its name -/
theorem pe_err (c : ErrC X.K X.mg x C) (hg : Gl X x) (hdb : (x == ("__debug__" : Str)) = false := by decide) : PE X (.Name x p) (tC (.ref C)) := by
  refine ⟨fun pins s σ H Q I h => ?_⟩
  exact ld_glob I hg c.g ⟨V.ref C, H, I, rfl, h⟩ hdb
end
/-- a whole number of the module, by its name -/
theorem pe_gint {X : Cx} {x : Str} {n : Int} {pos : Pos} (h : ∃ tk, X.mg x = some (.int n tk)) (hg : Gl X x) (hd : (x == ("__debug__" : Str)) = false := by decide) : PE X (.Name x pos) (tC (.int n)) := by
  obtain ⟨tk, e⟩ := h
  exact pe_glob hg e ⟨tk, rfl⟩ hd
/-! isinstance of a caught error -/
def rIsET (K : PySem.W.Frag) (D a : Addr) : List V → Hp → VK → Prop := fun xs H Q => ∃ (tp : Addr) (cs : List V) (us : List Value) (b : Bool), xs = [.ref a, .ref tp] ∧ H tp = some (.tup cs) ∧ (∀ ws, Vals cs ws → ws = us) ∧ PySem.W.kitAny K (.ref D) us = some b ∧ Q (.bl b) H
theorem call_isET {X : Cx} {a D : Addr} {oe : Obj} {pn : List (Addr × Obj)} (C : ExcC X.K D) (hz : Zc (.ref D) none oe) (hf : ∃ vs, oe.data = .fields vs) : CallR (X.suite a ((a, oe) :: pn)) (.builtin "isinstance") (rIsET X.K D a) := by
  intro pins s σ H xs us Q I r h
  obtain ⟨tp, cs, ws, b, rfl, hT, hw, e, q⟩ := h
  obtain ⟨u1, u2, rfl, r1, r2⟩ := vals2 r
  cases (show u2 = Value.ref tp from r2)
  cases (show u1 = Value.ref a from r1)
  obtain ⟨hget, _⟩ := I.pin (a, oe) (List.mem_append.mpr (.inl List.mem_cons_self))
  obtain ⟨vs, hv⟩ := hf
  have J : PySem.W.InstAt s.heap a oe D none := by
    obtain ⟨oc, od, oda, osl⟩ := oe
    obtain ⟨h1, h2⟩ := hz
    dsimp only at h1 h2 hv
    subst h1 h2 hv
    exact ⟨hget, rfl, rfl, trivial⟩
  obtain ⟨_, its, rv, o, h1, h2, n, h3⟩ := (show ObjOk X.prog X.w H s.heap tp (.tup cs) from I.hok tp _ hT)
  have e3 := hw its rv
  subst e3
  obtain ⟨oc, od, dt, sl⟩ := o
  simp only at h2 h3
  subst h2 h3
  exact PySem.W.kia_tup (PySem.W.handS_kitx_exc C.hg C.hk C.hs C.hd C.ha C.hn C.ht C.hm) I.kIn J h1 e (fun z => nomatch z) fun tk => ⟨.bl b, H, I.kept (t' := tk) fun _ _ z => z, rfl, q⟩
def rIsEd (K : PySem.W.Frag) (D a : Addr) (cls : Value) (d : Option Addr) : List V → Hp → VK → Prop := fun xs H Q => cls = .ref D ∧ d = none ∧ rIsE K D a xs H Q
def rIsETd (K : PySem.W.Frag) (D a : Addr) (cls : Value) (d : Option Addr) : List V → Hp → VK → Prop := fun xs H Q => cls = .ref D ∧ d = none ∧ rIsET K D a xs H Q
theorem call_isEd {X : Cx} {a D : Addr} {oe : Obj} {pn : List (Addr × Obj)} {cls : Value} {d : Option Addr} (C : ExcC X.K D) (hz : Zc cls d oe) (hf : ∃ vs, oe.data = .fields vs) : CallR (X.suite a ((a, oe) :: pn)) (.builtin "isinstance") (rIsEd X.K D a cls d) := by
  intro pins s σ H xs us Q I r h
  obtain ⟨rfl, rfl, h⟩ := h
  exact call_isE C hz hf pins s σ H xs us Q I r h
theorem call_isETd {X : Cx} {a D : Addr} {oe : Obj} {pn : List (Addr × Obj)} {cls : Value} {d : Option Addr} (C : ExcC X.K D) (hz : Zc cls d oe) (hf : ∃ vs, oe.data = .fields vs) : CallR (X.suite a ((a, oe) :: pn)) (.builtin "isinstance") (rIsETd X.K D a cls d) := by
  intro pins s σ H xs us Q I r h
  obtain ⟨rfl, rfl, h⟩ := h
  exact call_isET C hz hf pins s σ H xs us Q I r h
/-- try: .. except C as n: .. -/
def tTryAs (K : PySem.W.Frag) (c : Value) (i : Nat) (tb : WX → TS) (ts : Addr → Value → Option Addr → TS) (Wout : WX) : TS := fun D σ H => tb (wAs K c i ts Wout D) D σ H
theorem vals_refs : ∀ {cs : List Addr} {ws : List Value}, Vals (cs.map V.ref) ws → ws = cs.map Value.ref
  | [], [], _ => rfl
  | c :: cs, w :: ws, h => by
    cases h with
    | cons a t =>
      rw [vals_refs t, show w = Value.ref c from a]; rfl
  | [], _ :: _, h => by cases h
  | _ :: _, [], h => by cases h
section
variable {K : PySem.W.Frag} {σ : L2.St} {H : Hp} {Q : VK} {D : Ends} {sp : Sp} {W : WX} {as : TA} {C a E tp : Addr}
theorem g_clX (h : as σ H (fun vs H1 => sp vs H1 Q (fun cls d H' => W cls d σ H'))) : tClX sp W as σ H Q := h
theorem g_rz (h : W (.ref C) none σ H) : tRz C W D σ H := h
theorem g_isE {c : Addr} {b : Bool} (e : PySem.W.kitOne K (.ref E) (.ref c) = some b) (q : Q (.bl b) H) : rIsE K E a [.ref a, .ref c] H Q := ⟨.ref c, .ref c, b, rfl, fun _ r => r, e, q⟩
theorem g_isEt {c : String} {b : Bool} (e : PySem.W.kitOne K (.ref E) (.type c) = some b) (q : Q (.bl b) H) : rIsE K E a [.ref a, .ty c] H Q := ⟨.ty c, .type c, b, rfl, fun _ r => r, e, q⟩
theorem g_isET {cs : List Addr} {b : Bool} (h : H tp = some (.tup (cs.map V.ref))) (e : PySem.W.kitAny K (.ref E) (cs.map Value.ref) = some b) (q : Q (.bl b) H) : rIsET K E a [.ref a, .ref tp] H Q :=
  ⟨tp, _, _, b, rfl, h, fun _ r => vals_refs r, e, q⟩
end
end Lw

namespace Lw
open PySem PySem.Spec PyProof.Rows L2
/-! ### t + u and t * n, whatever their lengths -/
def rCatA (K : PySem.W.Frag) : R2 := fun x y H Q => ∃ a b xs ys, x = V.ref a ∧ y = V.ref b ∧ SqT K H a xs ∧ SqT K H b ys ∧ xs.length + ys.length ≤ sizeLine ∧
  (xs = [] → Q (.ref b) H) ∧ (xs ≠ [] → ys = [] → Q (.ref a) H) ∧ (xs ≠ [] → ys ≠ [] → ∀ p, H p = none → Q (.ref p) (upd H p (.tup (xs ++ ys))))
theorem cat_all {prog : Program} {w : World} {A : Around} {E : Value → Shared → Prop} {s : Shared} {t b : Addr} {vs ws : List Value} {Q : Value → Shared → Prop} (ht : IsTup s.heap t vs.toArray) (hb : IsTup s.heap b ws.toArray)
    (h0 : vs = [] → Q (.ref b) s) (h1 : vs ≠ [] → ws = [] → Q (.ref t) s) (h2 : vs ≠ [] → ws ≠ [] → Q (.ref s.heap.objs.size) { s with heap := s.heap.push { cls := .type "tuple", data := .seq (vs ++ ws).toArray } }) (hsz : vs.length + ws.length ≤ sizeLine) :
    wpAny (model prog w) A (binaryOp .Add (.ref t) (.ref b)) Q E s := by
  obtain ⟨⟨ca, da, ta, la⟩, ga, ha, na, ka⟩ := id ht
  obtain ⟨⟨cb, db, tb, lb⟩, gb, hb', nb, kb⟩ := id hb
  simp only at ha ka hb' kb
  subst ha ka hb' kb
  have e : vs.toArray ++ ws.toArray = (vs ++ ws).toArray := by simp
  by_cases hv : vs = []
  · exact concat_meets ⟨_, ga, rfl⟩ ⟨_, gb, rfl⟩ noFill_tuple_add seq_tuple_add PySem.F.slot_tuple_add PySem.F.entry_tuple_add (PySem.F.args_tuple_add_2 _ _) (tuple_addW0 t b vs.toArray ws.toArray na nb da db la lb (by simp [hv])) ⟨ga, gb, h0 hv⟩
  · by_cases hw : ws = []
    · exact concat_meets ⟨_, ga, rfl⟩ ⟨_, gb, rfl⟩ noFill_tuple_add seq_tuple_add PySem.F.slot_tuple_add PySem.F.entry_tuple_add (PySem.F.args_tuple_add_2 _ _) (tuple_addW1 t b vs.toArray ws.toArray na nb da db la lb (by simpa using hv) (by simp [hw])) ⟨ga, gb, h1 hv hw⟩
    · refine concat_meets ⟨_, ga, rfl⟩ ⟨_, gb, rfl⟩ noFill_tuple_add seq_tuple_add PySem.F.slot_tuple_add PySem.F.entry_tuple_add (PySem.F.args_tuple_add_2 _ _) (tuple_addW2 t b vs.toArray ws.toArray na nb da db la lb (by simpa using hv) (by simpa using hw) (by rw [List.size_toArray, List.size_toArray]; exact hsz)) ⟨ga, gb, ?_⟩
      rw [e]
      exact h2 hv hw
section
variable {X : Cx}
theorem op_catA : OpR X (binaryOp .Add) (rCatA X.K) := by
  intro pins s σ H x y v u Q I rx ry h
  obtain ⟨a, b, xs, ys, rfl, rfl, ha, hb, hz, q0, q1, q2⟩ := h
  cases rx
  cases ry
  obtain ⟨its, r1, p1, _⟩ := I.tuple ha
  obtain ⟨jts, r2, p2, _⟩ := I.tuple hb
  refine cat_all p1 p2 (fun z => ⟨.ref b, H, I, rfl, q0 (r1.nil_iff.mp z)⟩) (fun z z' => ⟨.ref a, H, I, rfl, q1 (fun w => z (r1.nil_iff.mpr w)) (r2.nil_iff.mp z')⟩) (fun z z' => ?_) (by rw [← r1.length, ← r2.length]; exact hz)
  refine ⟨.ref s.heap.objs.size, _, I.laid (t' := s.toks) (o := .tup (xs ++ ys)) (fun b ob q => Heap.get?_push_of_some _ q) (Nat.le_refl _) ?_, rfl, q2 (fun w => z (r1.nil_iff.mpr w)) (fun w => z' (r2.nil_iff.mpr w)) _ (I.hok.fresh (Nat.le_refl _))⟩
  exact ⟨by rw [List.length_append]; exact hz, _, r1.append r2, IsTup.new _ _⟩
theorem tuple_mulS (l : Addr) (items : Array Value) (n : Nat) (dd : Option Addr) (sl : Array (Option Value)) (x : Int) (u : Tok) (c0 : (decide (x < -(2 ^ 63)) || decide (x ≥ 2 ^ 63)) = false) (c1 : (items.isEmpty || x == 1) = true) :
    Meets (Builtin.«tuple.__mul__» ⟨[.ref l, .int x u], []⟩) (fun _ R s => s.heap.get? l = some { cls := .type "tuple", dict := dd, data := .seq items n, slots := sl } ∧ R (.ok (.ret (Value.ref l))) s) :=
  .of_wp fun prog w A R s h => by
    obtain ⟨hp, g, d, tk, os⟩ := s
    obtain ⟨hl, h⟩ := h
    have f1 := AutoSeq1.idx_int
    wp_walk using wpAny_loadPart' hl
    repeat (first
      | (refine wpAny_ite_false (decide_eq_false (by rw [c0]; exact Bool.false_ne_true)) ?_; wp_walk using wpAny_loadPart' hl)
      | (refine wpAny_ite_true (decide_eq_true c1) ?_; wp_walk using wpAny_loadPart' hl))
    exact ⟨_, rfl, h⟩
theorem tuple_mulZ (l : Addr) (items : Array Value) (n : Nat) (dd : Option Addr) (sl : Array (Option Value)) (x : Int) (u : Tok) (c0 : (decide (x < -(2 ^ 63)) || decide (x ≥ 2 ^ 63)) = false) (c1 : (items.isEmpty || x == 1) = false) (c2 : (decide (x ≤ 0) || items.isEmpty) = true) :
    Meets (Builtin.«tuple.__mul__» ⟨[.ref l, .int x u], []⟩) (fun _ R s => s.heap.get? l = some { cls := .type "tuple", dict := dd, data := .seq items n, slots := sl } ∧
      R (.ok (.ret (Value.ref s.heap.objs.size))) { s with heap := s.heap.push { cls := Value.type "tuple", data := Data.seq #[] }, toks := s.toks }) :=
  .of_wp fun prog w A R s h => by
    obtain ⟨hp, g, d, tk, os⟩ := s
    obtain ⟨hl, h⟩ := h
    have f1 := AutoSeq1.idx_int
    wp_walk using wpAny_loadPart' hl
    repeat (first
      | (refine wpAny_ite_false (decide_eq_false (by rw [c0]; exact Bool.false_ne_true)) ?_; wp_walk using wpAny_loadPart' hl)
      | (refine wpAny_ite_false (decide_eq_false (by rw [c1]; exact Bool.false_ne_true)) ?_; wp_walk using wpAny_loadPart' hl)
      | (refine wpAny_ite_true (decide_eq_true c2) ?_; wp_walk using wpAny_loadPart' hl))
    exact ⟨_, rfl, h⟩
def rMulA (K : PySem.W.Frag) : R2 := fun x y H Q => ∃ l k xs, x = V.ref l ∧ y = V.int k ∧ SqT K H l xs ∧ xs ≠ [] ∧ 0 ≤ k ∧ k ≤ 1000 ∧ xs.length ≤ 1000 ∧ (k = 1 → Q (.ref l) H) ∧ (k ≠ 1 → ∀ p, H p = none → Q (.ref p) (upd H p (.tup (List.replicate k.toNat xs).flatten)))
theorem op_mulA : OpR X (binaryOp .Mult) (rMulA X.K) := by
  intro pins s σ H x y v u Q I rx ry h
  obtain ⟨l, k, xs, rfl, rfl, hT, hne, h1, h2, hz, q1, q2⟩ := h
  by_cases hk : 2 ≤ k
  · exact op_repT pins s σ H _ _ v u Q I rx ry ⟨l, k, xs, rfl, rfl, hT, hne, hk, h2, hz, q2 (by omega)⟩
  cases rx
  obtain ⟨t, rfl⟩ := ry
  obtain ⟨its, r, ⟨⟨ca, da, ta, la⟩, ga, ha, na, ka⟩, hs⟩ := I.tuple hT
  simp only at ha ka
  subst ha ka
  have hi : its.toArray.isEmpty = false := by
    cases its with
    | nil => cases r; exact absurd rfl hne
    | cons a b => rfl
  have c0 : (decide (k < -(2 ^ 63)) || decide (k ≥ 2 ^ 63)) = false := by
    rw [decide_eq_false (by omega), decide_eq_false (by omega)] <;> rfl
  by_cases hk1 : k = 1
  · have c1 : (its.toArray.isEmpty || k == 1) = true := by rw [hk1]; simp
    refine wpAny_binaryOp_repeat_ref (T := "tuple") (U := "int") (by decide) ⟨_, ga, rfl⟩ (fun s' => typeIs_int s' k t) noFill_tuple_mul F.fills_int_mul F.slot_int_rmul repeat_tuple F.slot_int_index.lookup
      (call_meets F.slot_int_rmul (typeIs_int s k t) F.entry_int_rmul (F.args_int_rmul_2 _ _) (int_rmul_tuple k t l its.toArray na da la)
        ⟨ga, rfl, ⟨_, ga, rfl⟩, call_meets F.slot_tuple_mul ⟨_, ga, rfl⟩ F.entry_tuple_mul (F.args_tuple_mul_2 _ _) (tuple_mulS l its.toArray na da la k t c0 c1) ⟨ga, ?_⟩⟩)
    exact ⟨.ref l, H, I, rfl, q1 hk1⟩
  · have hk0 : k = 0 := by omega
    have c1 : (its.toArray.isEmpty || k == 1) = false := by rw [hi, hk0]; rfl
    have c2 : (decide (k ≤ 0) || its.toArray.isEmpty) = true := by rw [hk0]; rfl
    refine wpAny_binaryOp_repeat_ref (T := "tuple") (U := "int") (by decide) ⟨_, ga, rfl⟩ (fun s' => typeIs_int s' k t) noFill_tuple_mul F.fills_int_mul F.slot_int_rmul repeat_tuple F.slot_int_index.lookup
      (call_meets F.slot_int_rmul (typeIs_int s k t) F.entry_int_rmul (F.args_int_rmul_2 _ _) (int_rmul_tuple k t l its.toArray na da la)
        ⟨ga, rfl, ⟨_, ga, rfl⟩, call_meets F.slot_tuple_mul ⟨_, ga, rfl⟩ F.entry_tuple_mul (F.args_tuple_mul_2 _ _) (tuple_mulZ l its.toArray na da la k t c0 c1 c2) ⟨ga, ?_⟩⟩)
    have e0 : (List.replicate k.toNat xs).flatten = [] := by rw [hk0]; rfl
    have q := q2 hk1
    rw [e0] at q
    refine ⟨.ref s.heap.objs.size, _, I.laid (t' := s.toks) (o := .tup []) (fun b ob q => Heap.get?_push_of_some _ q) (Nat.le_refl _) ?_, rfl, q _ (I.hok.fresh (Nat.le_refl _))⟩
    exact ⟨Nat.zero_le _, [], .nil, IsTup.new _ _⟩
end
section
variable {K : PySem.W.Frag} {H : Hp} {Q : VK} {a b : Addr} {xs ys : List V}
theorem g_catA (h : H a = some (.tup xs)) (h2 : H b = some (.tup ys)) (hl : xs.length + ys.length ≤ sizeLine) (c : ∀ p H', Fr [] H H' → H' p = some (.tup (xs ++ ys)) → Q (.ref p) H') : rCatA K (.ref a) (.ref b) H Q := by
  refine ⟨a, b, xs, ys, rfl, rfl, SqT.of h, SqT.of h2, hl, fun e => ?_, fun e e' => ?_, fun e e' p hp => c p _ (Fr.new hp) upd_same⟩
  · subst e; exact c b H Fr.refl h2
  · subst e'
    rw [List.append_nil] at c
    exact c a H Fr.refl h
theorem g_mulA {k : Int} (h : H a = some (.tup xs)) (hne : xs ≠ []) (h1 : 0 ≤ k) (h2 : k ≤ 1000) (hz : xs.length ≤ 1000) (c : ∀ p H', Fr [] H H' → H' p = some (.tup (List.replicate k.toNat xs).flatten) → Q (.ref p) H') : rMulA K (.ref a) (.int k) H Q := by
  refine ⟨a, k, xs, rfl, rfl, SqT.of h, hne, h1, h2, hz, fun e => ?_, fun e p hp => c p _ (Fr.new hp) upd_same⟩
  subst e
  have e0 : (List.replicate (1 : Int).toNat xs).flatten = xs := by show (xs ++ [] : List V) = xs; rw [List.append_nil]
  rw [e0] at c
  exact c a H Fr.refl h
end
/-! data of any kind stands while nothing that stood is written -/
mutual
theorem Da.fr0 {H H' : Hp} (f : Fr [] H H') : ∀ (d : PyData) (v : V), Da H v d → Da H' v d
  | .none, _, h => by cases h; exact .non
  | .bool b, _, h => by cases h; exact .bl b
  | .int i, _, h => by cases h; exact .int i
  | .str x, _, h => by cases h; exact .str x
  | .list ds, _, h => by
    cases h with
    | lst e z r => exact .lst (f.at0 e) z (DaL.fr0 f ds _ r)
  | .tuple ds, _, h => by
    cases h with
    | tup e z r => exact .tup (f.tup _ _ e) z (DaL.fr0 f ds _ r)
  | .dict _, _, h => by cases h
theorem DaL.fr0 {H H' : Hp} (f : Fr [] H H') : ∀ (ds : List PyData) (vs : List V), DaL H vs ds → DaL H' vs ds
  | [], _, h => by cases h; exact .nil
  | d :: ds, _, h => by
    cases h with
    | cons r t => exact .cons (Da.fr0 f d _ r) (DaL.fr0 f ds _ t)
end
end Lw

namespace Lw
open PySem PySem.Spec PyProof.Rows PySem.Calls L2
/-! ### str(x) of nested data, where nothing is being shown yet -/
structure Tidy (d : PyData) : Prop where
  lay : PyData.layable0 d = true
  sh : PyData.intsShort 13 d = true
  ok : PyData.showable d = true
  nd : PyData.hasDict d = false
/-- str(x): the text of x itself, or what is shown of it -/
def strD : PyData → Str
  | .str x => x
  | d => d.shown
def rStrG : List V → Hp → VK → Prop := fun xs H Q => ∃ (a : Addr) (d : PyData), xs = [V.ref a] ∧ Da H (.ref a) d ∧ Tidy d ∧ Q (.str d.shown) H
theorem b_strG {X : Cx} (hgd : X.A.guards = some []) (hu : X.A.units + 200 < cLine) : CallR X (.type "str") rStrG := by
  intro pins s σ H xs us Q I r h
  obtain ⟨a, d, rfl, dd, td, q⟩ := h
  obtain ⟨u, rfl, ru⟩ := vals1 r
  cases (show u = Value.ref a from ru)
  obtain ⟨as, rr⟩ := Dp.reads I d _ _ (Da.dp (K := X.K) d _ dd) rfl
  have h2 : (PyData.canLay0 d && decide (PyData.depth d ≤ 64) && decide (PyData.weight d ≤ 2 ^ 20)) = true := td.lay
  simp only [Bool.and_eq_true, decide_eq_true_eq] at h2
  have h1 : d.depth ≤ 64 := h2.1.2
  have hz := shown_le13 td.lay td.sh
  exact str_of_reads (h₀ := s.heap) rr td.ok (fun z => by rw [td.nd] at z; cases z) hgd (by omega) (fun _ _ z => z) (fun h' u tk kp => ⟨.str d.shown, H, I.kept (t' := tk) kp, ⟨u, rfl⟩, q⟩) (by rw [sizeLine_eq]; omega)
def txtD : PyData → Str
  | .none => "None"
  | .bool b => if b then "True" else "False"
  | .int i => toString i
  | .str x => x
  | d => d.shown
def rStrA : List V → Hp → VK → Prop := fun xs H Q => ∃ (v : V) (d : PyData), xs = [v] ∧ Da H v d ∧ Tidy d ∧ Q (.str (txtD d)) H
theorem b_strA {X : Cx} (hgd : X.A.guards = some []) (hu : X.A.units + 200 < cLine) : CallR X (.type "str") rStrA := by
  intro pins s σ H xs us Q I r h
  obtain ⟨v, d, rfl, dd, td, q⟩ := h
  obtain ⟨u, rfl, ru⟩ := vals1 r
  cases dd with
  | non =>
    cases (show u = Value.none from ru)
    exact PySem.P.str_of_none ⟨.str "None", H, I.tok _, ⟨_, rfl⟩, q⟩
  | bl b =>
    cases (show u = Value.bool b from ru)
    exact PySem.P.str_of_bool ⟨.str _, H, I.tok _, ⟨_, rfl⟩, q⟩
  | int i =>
    obtain ⟨t, rfl⟩ := (show ∃ t, u = Value.int i t from ru)
    have hl : i.natAbs.log2 < 1920 := of_decide_eq_true td.ok
    exact PySem.P.str_of_int hl ⟨.str _, H, I.tok _, ⟨_, rfl⟩, q⟩
  | str x =>
    obtain ⟨t, rfl⟩ := (show ∃ t, u = Value.str x t from ru)
    exact PySem.P.str_of_str ⟨.str _, H, I, ⟨_, rfl⟩, q⟩
  | @lst a xs ds e z t => exact b_strG hgd hu pins s σ H _ _ Q I (.cons ru .nil) ⟨a, .list ds, rfl, .lst e z t, td, q⟩
  | @tup a xs ds e z t => exact b_strG hgd hu pins s σ H _ _ Q I (.cons ru .nil) ⟨a, .tuple ds, rfl, .tup e z t, td, q⟩
theorem g_strA {H : Hp} {Q : VK} {v : V} {d : PyData} (dd : Da H v d) (td : Tidy d) (q : Q (.str (txtD d)) H) : rStrA [v] H Q := ⟨v, d, rfl, dd, td, q⟩
/-! small data is tidy -/
mutual
def lite : PyData → Bool
  | .none => true
  | .bool _ => true
  | .int i => decide (i.natAbs < 10 ^ 12) || decide (i = 10 ^ 12)
  | .str x => PyData.canLay0 (.str x)
  | .list xs => liteL xs
  | .tuple xs => liteL xs
  | .dict _ => false
def liteL : List PyData → Bool
  | [] => true
  | x :: xs => lite x && liteL xs
end
theorem log2_small {n : Nat} (h : n < 10 ^ 12) : n.log2 < 40 := by
  by_cases z : n = 0
  · subst z; decide
  · exact (Nat.log2_lt z).mpr (Nat.lt_trans h (by decide))
mutual
theorem lite_lay : ∀ d : PyData, lite d = true → PyData.canLay0 d = true ∧ PyData.intsShort 13 d = true ∧ PyData.showable d = true ∧ PyData.hasDict d = false
  | .none, _ => ⟨rfl, rfl, rfl, rfl⟩
  | .bool _, _ => ⟨rfl, rfl, rfl, rfl⟩
  | .int i, h => by
    rcases Bool.or_eq_true_iff.mp (show (decide (i.natAbs < 10 ^ 12) || decide (i = 10 ^ 12)) = true from h) with h | h
    · have h : i.natAbs < 10 ^ 12 := of_decide_eq_true h
      refine ⟨rfl, ?_, ?_, rfl⟩
      · have := int_text_length_le10 (a := i) (k := 12) (by decide) h
        refine decide_eq_true ?_
        have e : (PyData.shown (.int i)) = Str.ofString (toString i) := rfl
        rw [e]
        have e2 : (Str.ofString (toString i)).length = (toString i).length := PySem.ofString_length _
        omega
      · exact decide_eq_true (Nat.lt_trans (log2_small h) (by decide))
    · have h : i = 10 ^ 12 := of_decide_eq_true h
      subst h
      exact ⟨rfl, by decide +kernel, by decide +kernel, rfl⟩
  | .str x, h => ⟨h, rfl, rfl, rfl⟩
  | .list xs, h => by
    have := lite_layL xs (by simpa [lite] using h)
    simpa [PyData.canLay0, PyData.intsShort, PyData.showable, PyData.hasDict] using this
  | .tuple xs, h => by
    have := lite_layL xs (by simpa [lite] using h)
    simpa [PyData.canLay0, PyData.intsShort, PyData.showable, PyData.hasDict] using this
  | .dict _, h => by simp [lite] at h
theorem lite_layL : ∀ xs : List PyData, liteL xs = true → PyData.canLayAll0 xs = true ∧ PyData.intsShortAll 13 xs = true ∧ PyData.showableAll xs = true ∧ PyData.hasDictAll xs = false
  | [], _ => ⟨rfl, rfl, rfl, rfl⟩
  | x :: xs, h => by
    simp only [liteL, Bool.and_eq_true] at h
    obtain ⟨a1, a2, a3, a4⟩ := lite_lay x h.1
    obtain ⟨b1, b2, b3, b4⟩ := lite_layL xs h.2
    simp [PyData.canLayAll0, PyData.intsShortAll, PyData.showableAll, PyData.hasDictAll, a1, a2, a3, a4, b1, b2, b3, b4]
end
structure Lt (w k : Nat) (d : PyData) : Prop where
  l : lite d = true
  w : d.weight ≤ w
  k : d.depth ≤ k
theorem Lt.mono {w k w' k' : Nat} {d : PyData} (h : Lt w k d) (hw : w ≤ w') (hk : k ≤ k') : Lt w' k' d := ⟨h.l, Nat.le_trans h.w hw, Nat.le_trans h.k hk⟩
theorem Lt.tidy {w k : Nat} {d : PyData} (h : Lt w k d) (hw : w ≤ 1048576) (hk : k ≤ 64) : Tidy d := by
  obtain ⟨a, b, c, e⟩ := lite_lay d h.l
  refine ⟨?_, b, c, e⟩
  show (PyData.canLay0 d && decide (PyData.depth d ≤ 64) && decide (PyData.weight d ≤ 2 ^ 20)) = true
  rw [a, decide_eq_true (Nat.le_trans h.k hk), decide_eq_true (Nat.le_trans h.w (Nat.le_trans hw (by decide)))]; rfl
theorem Lt.int {i : Int} (h : i.natAbs < 10 ^ 12) : Lt 41 0 (.int i) := by
  refine ⟨Bool.or_eq_true_iff.mpr (.inl (decide_eq_true h)), ?_, by simp [PyData.depth]⟩
  have := log2_small h
  show (if i == 0 then 0 else i.natAbs.log2 + 1) ≤ 41
  split <;> omega
theorem Lt.int12 {i : Int} (h0 : 0 ≤ i) (h : i ≤ 10 ^ 12) : Lt 41 0 (.int i) := by
  by_cases z : i.natAbs < 10 ^ 12
  · exact Lt.int z
  have y : i = 10 ^ 12 := by omega
  subst y
  exact ⟨by decide +kernel, by decide +kernel, by decide +kernel⟩
theorem Lt.all {w k : Nat} : ∀ {xs : List PyData}, (∀ x ∈ xs, Lt w k x) → liteL xs = true ∧ PyData.weightAll xs ≤ xs.length * (w + 1) ∧ PyData.depthAll xs ≤ k
  | [], _ => ⟨rfl, Nat.zero_le _, by simp [PyData.depthAll]⟩
  | x :: xs, h => by
    obtain ⟨a, b, c⟩ := Lt.all (xs := xs) fun y hy => h y (List.mem_cons_of_mem _ hy)
    have hx := h x List.mem_cons_self
    refine ⟨by simp [liteL, hx.l, a], ?_, ?_⟩
    · show PyData.weight x + 1 + PyData.weightAll xs ≤ _
      have := hx.w
      rw [List.length_cons, Nat.succ_mul]; omega
    · have := hx.k
      simp only [PyData.depthAll]; omega
theorem Lt.tup {w k n : Nat} {xs : List PyData} (h : ∀ x ∈ xs, Lt w k x) (hn : xs.length ≤ n) : Lt (n * (w + 1)) (k + 1) (.tuple xs) := by
  obtain ⟨a, b, c⟩ := Lt.all h
  refine ⟨a, ?_, by simp only [PyData.depth]; omega⟩
  show PyData.weightAll xs ≤ _
  exact Nat.le_trans b (Nat.mul_le_mul_right _ hn)
theorem Lt.lst {w k n : Nat} {xs : List PyData} (h : ∀ x ∈ xs, Lt w k x) (hn : xs.length ≤ n) : Lt (n * (w + 1)) (k + 1) (.list xs) := by
  obtain ⟨a, b, c⟩ := Lt.all h
  refine ⟨a, ?_, by simp only [PyData.depth]; omega⟩
  show PyData.weightAll xs ≤ _
  exact Nat.le_trans b (Nat.mul_le_mul_right _ hn)
/-! ### the law's own call: its frame is the first, nothing is being shown -/
structure LawG (P : Program) (w : World) (K : PySem.W.Frag) (mg : Str → Option Value) (base : Heap) (k : Nat) (f : Addr) (fd : FuncData) (ps : List Str) (sp : Sp) : Prop where
  go : ∀ (s : Shared) (H : Hp) (us : List Value) (vs : List V) (Q : VK) (E : XK), Room k callerA → Env0 P w K mg base callerA [] s H → BindsTo s fd ⟨us, []⟩ (ps.zip us) → Vals vs us → us.length = ps.length → sp vs H Q E →
    codeAny (model P w) callerA (.call (.ref f) ⟨us, []⟩) (CR CX0 [] P w H s Q E) s
theorem lawG_of {P : Program} {w : World} {K : PySem.W.Frag} {mg : Str → Option Value} {base : Heap} {k : Nat} {f : Addr} {nm qn : Str} {pars : Arguments} {bd : List Stmt} {sc : Scope} {dV kV dc pm cd ct oc : Value} {an od : Option Addr} {sl : Array (Option Value)} {N ps : List Str} {sp : Sp}
    (lk : K.lookup f = some ⟨oc, od, .func (PySem.W.fnOf nm qn pars bd sc dV kV dc pm an cd ct), sl⟩) (hc : PySem.W.codeIn K cd qn = true) (S : FnScope N ps sc)
    (B : ∀ (s : Shared) (H : Hp) (vs : List V) (Q : VK) (E : XK), Room k (callerA.deeper (envOfC qn sc s.heap.objs.size f cd)) → sp vs H Q E → ∃ t, PSs (cxOf CX0 P w K mg base N qn sc f cd callerA [] s H E) bd t ∧ t { nx := fun _ H1 => Q .non H1, rt := Q } (start N vs) H) :
    LawG P w K mg base (k + 1) f (PySem.W.fnOf nm qn pars bd sc dV kV dc pm an cd ct) ps sp := by
  constructor
  intro s H us vs Q E room e0 bind rv lu want
  have stays : ∀ b o, base.get? b = some o → s.heap.get? b = some o := fun b o q => (e0.bs b o q).1
  have inK : K.In s.heap := e0.mod.kin.keeps stays
  have noL : s.heap.NoLimit := e0.mod.nolimit.keeps stays
  have kinds : ∀ y ∈ ps.zip us, sc.names.lookup y.1 = some .local ∨ (sc.names.lookup y.1 = some .cell ∧ ((cellsFrom (s.heap.objs.size + 1) sc.names []).lookup y.1).isSome = true) := by
    rintro ⟨n, v⟩ hy
    cases S.par n (List.of_mem_zip hy).1 with
    | inl q => exact .inl q
    | inr q => exact .inr ⟨q, PySem.W.cellsFrom_some _ _ _ (.inl q)⟩
  refine codeAny_call_function (Room.depth room) (inK _ _ lk) rfl S.co S.gen rfl (PySem.W.codeRec_of inK hc) (bind _ _ _ _ ?_)
  refine wpAny_newFunctionEnv_cells S.kind kinds ?_
  intro env henv s1 ic
  subst henv
  refine ⟨noL.keeps ic.toInCall.keep, codeAny_func ?_⟩
  obtain ⟨t, deriv, done⟩ := B s H vs Q E (Room.deeper room _) want
  have start0 := inv_start (CX := CX0) (E := E) S room.hd e0 (rv.length.trans lu) rv ic
  refine wpAny_mono (deriv.run [] s1 (start N vs) H _ start0 done) ?_ fun _ _ z => z
  intro fl s2 hf
  have leave : ∀ {σ' : L2.St} {H1 : Hp} {v : V} {u : Value}, Inv (cxOf CX0 P w K mg base N qn sc f cd callerA [] s H E) [] σ' H1 s2 → RelV v u → Q v H1 → CE [] P w H s Q u s2 := by
    intro σ' H1 v u J r q
    exact ⟨v, H1, J.os, J.bare, J.base, J.hok, r, q⟩
  cases fl with
  | ret u =>
    obtain ⟨v, σ', H1, J, r, q⟩ := hf
    exact leave J r q
  | next =>
    obtain ⟨σ', H1, J, q⟩ := hf
    exact leave (v := .non) (u := .none) J rfl q
  | brk => exact (hf.choose_spec.choose_spec.2).elim
  | cont => exact (hf.choose_spec.choose_spec.2).elim
theorem Fun.law {P : Program} {w : World} {K : PySem.W.Frag} {mg : Str → Option Value} {base : Heap} {x qual : Str} {st : Stmt} {f : Addr} {fd : FuncData} {N ps : List Str} {k : Nat} {sp : Sp} (F : Fun K x qual st f fd) (S : FnScope N ps (defScope st))
    (B : ∀ (cdv : Value) (s : Shared) (H : Hp) (vs : List V) (Q : VK) (E : XK), Room k (callerA.deeper (envOfC qual (defScope st) s.heap.objs.size f cdv)) → sp vs H Q E →
      ∃ t, PSs (cxOf CX0 P w K mg base N qual (defScope st) f cdv callerA [] s H E).nox (defBody st) t ∧ t { nx := fun _ H1 => Q .non H1, rt := Q } (start N vs) H) : LawG P w K mg base (k + 1) f fd ps sp := by
  obtain ⟨oc, od, kV, doc, pm, an, cdv, ct, osl, rfl, lk, hcd⟩ := F.ex
  refine lawG_of lk hcd S ?_
  intro s H vs Q E r want
  obtain ⟨t, dv, z⟩ := B cdv s H vs Q E r want
  exact ⟨t, dv.nox, z⟩
theorem lawG_run {P : Program} {w : World} {K : PySem.W.Frag} {mg mb : Str → Option Value} {k : Nat} {fa a : Addr} {fd : FuncData} {x : Str} {sp : Sp} {s0 : Shared} {vs : List Value} {ns : List Int}
    (inK : K.In s0.heap) (glob : s0.heap.Ns mainGlobals mg) (blt : s0.heap.Ns builtinsNs mb) (bb : ∀ y : Str, y ≠ "__name__" → mb y = bootBuiltins y) (noL : s0.heap.NoLimit) (gens : s0.gens = #[])
    (script : s0.heap.get? a = some { cls := .type "list", data := .seq vs.toArray }) (intsV : IntsAre vs ns) (len : ns.length ≤ sizeLine) (room : Room k callerA)
    (F : ∀ base : Heap, K.In base → base.Ns mainGlobals mg → LawG P w K mg base k fa fd [x] sp) (bind : ∀ (s : Shared) (u : Value), BindsTo s fd ⟨[u], []⟩ [(x, u)])
    (want : ∀ H : Hp, SqL K H a (ns.map V.int) → sp [.ref a] H (fun v _ => v = .bl true) fun _ _ _ => False) :
    codeAny (model P w) callerA (.call (.ref fa) ⟨[.ref a], []⟩) (fun r s' => r = .ok (.ret (.bool true)) ∧ OldK s0.heap s'.heap ∧ s'.os = s0.os ∧ AllBare s'.gens) s0 := by
  have rv := vals_ints intsV
  have lv := intsV.length
  have main : ∀ H : Hp, (∀ b, H b ≠ none → b = a ∧ ∃ ob xs, H b = some (.frz ob (.lst xs))) → SqL K H a (ns.map V.int) → HOk P w H s0.heap → (H a ≠ none → K.lookup a = none) →
      codeAny (model P w) callerA (.call (.ref fa) ⟨[.ref a], []⟩) (fun r s' => r = .ok (.ret (.bool true)) ∧ OldK s0.heap s'.heap ∧ s'.os = s0.os ∧ AllBare s'.gens) s0 := by
    intro H only hS hok hA
    have up : ∀ {b : Addr} {o : Obj}, s0.heap.get? b = some o → H b = none → (hidT s0.heap H).get? b = some o := fun q n => hidT_get q n
    have free : ∀ {b : Addr} {o : Obj} {es : Array DictEntry} {ep : Nat}, s0.heap.get? b = some o → o.data = .dict es ep → H b = none := by
      intro b o es ep q d
      refine Classical.byContradiction fun z => ?_
      obtain ⟨rfl, _⟩ := only b z
      rw [script] at q
      cases q
      cases d
    have spaces : ∀ {b : Addr} {m : Str → Option Value}, s0.heap.Ns b m → (hidT s0.heap H).Ns b m := by
      rintro b m ⟨o, es, ep, q, d, r⟩
      exact ⟨o, es, ep, up q (free q d), d, r⟩
    have inB : K.In (hidT s0.heap H) := by
      intro b o q
      refine up (inK b o q) (Classical.byContradiction fun z => ?_)
      obtain ⟨rfl, _⟩ := only b z
      rw [hA z] at q
      cases q
    have limB : (hidT s0.heap H).NoLimit := by
      obtain ⟨mc, h1, h2⟩ := noL
      exact ⟨mc, spaces h1, h2⟩
    have modB : Mod K mg (hidT s0.heap H) := ⟨inB, spaces glob, ⟨mb, spaces blt, bb⟩, limB⟩
    have e0 : Env0 P w K mg (hidT s0.heap H) callerA [] s0 H :=
      { frames := rfl, mod := modB, bs := fun b o q => of_hidT q, bsz := Nat.le_of_eq (hidT_size _ _), funs := trivial, frf := fun b hb => absurd (show b ∈ ([] : List Addr) from hb) (by simp), hok := hok, bare := .of_eq gens }
    refine codeAny_mono ((F _ inB (spaces glob)).go s0 H [.ref a] [.ref a] _ _ room e0 (bind s0 (.ref a)) (.cons rfl .nil) rfl (want H hS)) ?_
    intro r s' h
    match r, h with
    | .error e, h => exact (show False from h).elim
    | .ok .next, h => exact (show False from h).elim
    | .ok .brk, h => exact (show False from h).elim
    | .ok .cont, h => exact (show False from h).elim
    | .ok (.ret u), h =>
      obtain ⟨v, H1, os, bare, un, hok1, r1, q⟩ := h
      cases (show v = .bl true from q)
      cases (show u = Value.bool true from r1)
      refine ⟨rfl, OldK.of_keep fun b o e => ?_, os, bare⟩
      by_cases z : H b = none
      · exact un.keep b o e z (fun y => absurd (show b ∈ ([] : List Addr) from y) (by simp)) (by simp)
      · obtain ⟨_, ob, xs, q1⟩ := only b z
        have q2 := un.frzs b ob _ q1
        have e1 := (hok b _ q1).1
        have e2 := (hok1 b _ q2).1
        rw [e] at e1
        cases e1
        exact e2
  by_cases hk : K.lookup a = none
  · refine main (fun b => if b = a then some (.frz { cls := .type "list", data := .seq vs.toArray } (.lst (ns.map V.int))) else none) ?_ (.inl (.inr ⟨{ cls := .type "list", data := .seq vs.toArray }, if_pos rfl⟩)) ?_ fun _ => hk
    · intro b z
      by_cases hb : b = a
      · exact ⟨hb, _, _, if_pos hb⟩
      · exact absurd (if_neg hb) z
    · intro b u z
      by_cases hb : b = a
      · cases (if_pos hb).symm.trans z
        subst hb
        exact ⟨script, by rw [List.length_map]; exact len, vs, _, rv, script⟩
      · cases (if_neg hb).symm.trans z
  · obtain ⟨o, ho⟩ := Option.ne_none_iff_exists'.mp hk
    have q := inK a o ho
    rw [script] at q
    cases q
    refine main (fun _ => none) (fun b z => absurd rfl z) (.inr ⟨_, vs.toArray, _, ho, rfl, rfl, rfl, by rw [List.size_toArray, lv]; exact len, by simpa using rv⟩) (fun b u z => ?_) fun z => absurd rfl z
    cases (show (none : Option HO) = some u from z)
theorem walkG {l : PySem.W.OpenLaw} {n k : Nat} {q : Program} {loose : List Str} {XP : (Str → Option Value) → Heap → Prop} {YP : World → Heap → Prop} {d : DefRec} {K : Params → PySem.W.Frag} {sp : World → Sp} {x : Str}
    (hn : l.most = some n) (hz : n ≤ sizeLine) (hd : d.params.defaults = []) (room : Room k callerA) (inK : ∀ (w : World) (h : Heap), YP w h → (K w.params).In h)
    (F : ∀ (w : World) (mg : Str → Option Value) (fa : Addr) (h : Heap), (K w.params).In h → h.Ns mainGlobals mg → mg d.name = some (.ref fa) →
      ∃ fd : FuncData, (∀ (s : Shared) (u : Value), BindsTo s fd ⟨[u], []⟩ [(x, u)]) ∧ ∀ base : Heap, (K w.params).In base → base.Ns mainGlobals mg → LawG l.prog w (K w.params) mg base k fa fd [x] (sp w))
    (want : ∀ (w : World) (H : Hp) (a : Addr) (ns : List Int), ns.length ≤ n → SqL (K w.params) H a (ns.map V.int) → sp w [.ref a] H (fun v _ => v = .bl true) fun _ _ _ => False) :
    PySem.W.WalkO q loose XP YP l.row.toRowW d [] (fun f vs => PySem.call f vs) := by
  refine Att.attach_call hn hd ?_
  intro w s0 s1 mg mb fa o pm cd doc a vs ns G Y ho hdat hcode hmg obj intsV len gens
  have KX := inK w _ Y
  obtain ⟨fd, bind, hF⟩ := F w mg fa _ KX G.T.g hmg
  exact lawG_run KX G.T.g G.T.b G.T.builtins G.T.nolimit gens obj intsV (Nat.le_trans len hz) room hF bind fun H hS => want w H a ns len hS
end Lw

namespace Lw
open PySem PySem.Spec PyProof.Rows L2
/-! ### sorted(t), t a tuple of data of one shape -/
open PySem.W in
def rSortDU (K : PySem.W.Frag) : List V → Hp → VK → Prop := fun vs H Q => ∃ (a : Addr) (bs : List (V × PyData)), vs = [V.ref a] ∧ SqT K H a (bs.map (·.1)) ∧ (∀ b ∈ bs, Da H b.1 b.2) ∧ AllAlike (bs.map (·.2)) ∧ Sortable (bs.map (·.2)) ∧ (∀ b ∈ bs, b.2.depth ≤ 60) ∧
  ∀ p, H p = none → Q (.ref p) (upd H p (.lst ((bs.mergeSort (dataLe false (·.2))).map (·.1))))
open PySem.W in
theorem b_sortDU {X : Cx} (hu : X.A.units + 64 < cLine) : CallR X (.builtin "sorted") (rSortDU X.K) := by
  intro pins s σ H vs us Q I r h
  obtain ⟨a, bs, rfl, hs, hd, ha, hk, hdp, q⟩ := h
  obtain ⟨its, rv, hl, hz⟩ := I.tuple hs
  obtain ⟨u, rfl, ru⟩ := vals1 r
  obtain rfl : u = Value.ref a := ru
  obtain ⟨e1, e2⟩ := eachV I bs its rv hd
  rw [List.length_map] at hz
  obtain ⟨o, ho, hc, n, hdat⟩ := hl
  have hlen : its.length = bs.length := e1.length
  refine Calls.call_function_entry PyProof.Rows.kind_sorted PyProof.Rows.plain_sorted PyProof.Rows.entry_sorted (PyProof.Rows.args_sorted1 _) ?_
  unfold Builtin.«sorted»
  refine wpAny_bind (m := checkCount "sorted" 1 1 _) (wpAny_pure ?_)
  refine wpAny_bind (wpAny_collect_seq a (.inr rfl) ho hc hdat (fun h' kp => ?_) (by rw [List.size_toArray, hlen]; exact hz))
  have I1 : Inv X pins σ H { s with heap := h' } := I.kept (t' := s.toks) kp
  have hpl : its.toArray.toList.length ≤ sizeLine := by rw [List.toList_toArray, hlen]; exact hz
  refine wpAny_bind (wpAny_newList ?_ hpl)
  rw [List.toList_toArray] at *
  have hoL : (h'.push (seqObj "list" its.toArray 0)).get? h'.objs.size = some (seqObj "list" its.toArray 0) := Heap.get?_push_size _ rfl
  have er' : EachIs (fun v (b : V × PyData) => ∃ as, PySem.Reads (sortingHeap (h'.push (seqObj "list" its.toArray 0)) h'.objs.size its) v b.2 as) its bs := e2.mono fun _ _ ⟨as, r⟩ => ⟨as, PyProof.Rows.Reads.keeps (fun b o e => sortingHeap_old (Nat.ne_of_lt (Heap.lt_size (kp b o e))) (Heap.get?_push_of_some _ (kp b o e))) r⟩
  refine wpAny_bind (wpAny_holding (wpAny_call_entry slot_list_sort ⟨_, hoL, rfl⟩ entry_list_sort (list_sort_vals (κ := dataKind (sortingHeap (h'.push (seqObj "list" its.toArray 0)) h'.objs.size its) (bs.map (·.2))) hoL
    (SortsAt.data (s := { s with heap := sortingHeap (h'.push (seqObj "list" its.toArray 0)) h'.objs.size its }) (each_map (R := fun v d => ∃ as, PySem.Reads (sortingHeap (h'.push (seqObj "list" its.toArray 0)) h'.objs.size its) v d as) (fun b : V × PyData => b.2) er') ha hk (bound_map fun b hb => ?_)) (by rw [hlen]; exact hz) ⟨.none, rfl, ?_⟩) (args_list_sort _)))
  · have := hdp b hb
    show X.A.units + 1 + 1 + b.2.depth < cLine
    omega
  have eo := sortVals_data (enc := fun b : V × PyData => b.2) false e1 er' ha
  generalize hout : sortVals (dataKind (sortingHeap (h'.push (seqObj "list" its.toArray 0)) h'.objs.size its) (bs.map (·.2))) false its its = out at *
  have ho2 : out.length = bs.length := by rw [← hout, sortVals_length false rfl]; exact hlen
  obtain ⟨ep, he'⟩ := PyProof.Rows.sortedHeap_at (vs := its) (out := out.toArray) hoL
  have vo := eachB eo
  have hlen2 : ((bs.mergeSort (dataLe false fun b : V × PyData => b.2)).map (·.1)).length ≤ sizeLine := by rw [List.length_map, List.length_mergeSort]; exact hz
  show wpAny _ _ _ _ _ _
  refine wpAny_pure ⟨_, rfl, .ref h'.objs.size, upd H h'.objs.size (.lst _), I1.laid (t' := s.toks) (fun b u e => ?_) (Nat.le_refl _)
    (show ObjOk X.prog X.w _ _ _ (.lst _) from ⟨hlen2, out, ep, vo, he'⟩), rfl, q _ (I1.hok.fresh (Nat.le_refl _))⟩
  rw [PyProof.Rows.sortedHeap_old (Nat.ne_of_lt (Heap.lt_size e)) (by rw [size_push']; exact Nat.lt_succ_of_lt (Heap.lt_size e))]
  exact Heap.get?_push_of_some _ e
theorem g_srtU {K : PySem.W.Frag} {H : Hp} {Q : VK} {a : Addr} {xs : List V} {ds : List PyData} (hs : SqT K H a xs) (hd : DaL H xs ds) (ha : PySem.W.AllAlike ds) (hk : PySem.W.Sortable ds) (hdp : ∀ d ∈ ds, d.depth ≤ 60)
    (c : ∀ p H' ys, H p = none → Fr [] H H' → H' p = some (.lst ys) → DaL H ys (srt ds) → Q (.ref p) H') : rSortDU K [.ref a] H Q := by
  obtain ⟨z1, z2, z3⟩ := hd.zip
  refine ⟨a, xs.zip ds, rfl, by rw [z1]; exact hs, z3, by rw [z2]; exact ha, by rw [z2]; exact hk, fun b hb => hdp b.2 (by rw [← z2]; exact List.mem_map.mpr ⟨b, hb, rfl⟩), fun p hp => ?_⟩
  have q := DaL.ofBs (H := H) (bs := (xs.zip ds).mergeSort (PySem.W.dataLe false (·.2))) fun b hb => z3 b ((List.mergeSort_perm _ _).mem_iff.mp hb)
  rw [srt_map (fun b : V × PyData => b.2), z2] at q
  exact c p _ _ hp (Fr.new hp) upd_same q
end Lw

namespace Toy
open PySem L2 Lw

/-! ### the steps as one word each -/
local macro_rules | `(tactic| walk_at "ne") => `(tactic| first
  | assumption | exact Ne.symm (by assumption)
  | ((refine' ne_of_none ?h (by assumption)); (first | (case h => walk_at "fact") | fail))
  | ((refine' Ne.symm (ne_of_none ?h (by assumption))); (first | (case h => walk_at "fact") | fail))
  | walk_at "ne2")
local macro_rules | `(tactic| walk_at "nin") => `(tactic| first | exact nin0 | (refine nin1 ?_ ?_; walk_at "ne"; walk_at "nin") | assumption)
local macro_rules | `(tactic| walk_at "fact") => `(tactic| first
  | assumption
  | ((refine' Fr.tupAt (by assumption) ?h); (first | (case h => walk_at "fact") | fail))
  | ((refine' Fr.at0 (by assumption) ?h); (first | (case h => walk_at "fact") | fail))
  | ((refine' Fr.at (by assumption) ?h ?k); (first | (case h => walk_at "fact") | fail); (first | (case k => walk_at "nin") | fail)))
local macro_rules | `(tactic| walk_at "none") => `(tactic| first
  | assumption
  | ((refine' Fr.freeL (by assumption) ?h ?k); (first | (case h => walk_at "none") | fail); (first | (case k => walk_at "nin") | fail)))
local macro_rules | `(tactic| walk_at "mem") => `(tactic| first
  | assumption | exact List.mem_cons_self
  | (refine List.mem_cons_of_mem _ ?_; walk_at "mem"))
local macro_rules | `(tactic| walk_at "frn") => `(tactic| first
  | exact frn0
  | (refine frn1 ?_ ?_; (first | exact Or.inl (by walk_at "mem") | exact Or.inr (by walk_at "none")); walk_at "frn"))
local macro_rules | `(tactic| walk_at "fr") => `(tactic| first
  | assumption
  | exact Fr.refl
  | ((refine' Fr.own ?h (by assumption) ?k); (first | (case h => walk_at "fr") | fail); (first | (case k => walk_at "frn") | fail))
  | (refine Fr.of0 ?_; walk_at "fr"))
local macro_rules | `(tactic| walk_at "sz") => `(tactic| first | exact szM (by omega) | exact szM (by simp only [List.length_map, List.length_append, List.length_cons, List.length_nil]; omega))
local macro_rules | `(tactic| walk_at "sql") => `(tactic| first
  | assumption
  | exact SqL.of (by walk_at "fact")
  | ((refine' Fr.sql (by assumption) ?h ?k); (first | (case h => walk_at "sql") | fail); (first | (case k => walk_at "nin") | fail)))
local macro_rules | `(tactic| walk_at "sqt") => `(tactic| first
  | assumption
  | exact SqT.of (by walk_at "fact"))
local macro_rules | `(tactic| walk_at "ty") => `(tactic| first
  | assumption
  | exact TyX.base TyOf.non
  | exact TyX.base (TyOf.int _)
  | exact TyX.base (TyOf.bl _)
  | exact TyX.base (TyOf.str _)
  | exact TyX.base (TyOf.lst (by walk_at "fact"))
  | exact TyX.base (TyOf.tup (by walk_at "fact"))
  | exact TyX.base (TyOf.dK (by walk_at "fact"))
  | exact TyX.base (TyOf.dT (by walk_at "fact")))
local macro_rules | `(tactic| walk_at "kb") => `(tactic| first | exact kb_NoneType_list | exact kb_NoneType_tuple | exact kb_NoneType_bool | exact kb_NoneType_int | exact kb_NoneType_str | exact kb_NoneType_dict | exact kb_bool_list | exact kb_bool_tuple | exact kb_bool_bool | exact kb_bool_int | exact kb_bool_str | exact kb_bool_dict | exact kb_int_list | exact kb_int_tuple | exact kb_int_bool | exact kb_int_int | exact kb_int_str | exact kb_int_dict | exact kb_str_list | exact kb_str_tuple | exact kb_str_bool | exact kb_str_int | exact kb_str_str | exact kb_str_dict | exact kb_list_list | exact kb_list_tuple | exact kb_list_bool | exact kb_list_int | exact kb_list_str | exact kb_list_dict | exact kb_tuple_list | exact kb_tuple_tuple | exact kb_tuple_bool | exact kb_tuple_int | exact kb_tuple_str | exact kb_tuple_dict | exact kb_dict_list | exact kb_dict_tuple | exact kb_dict_bool | exact kb_dict_int | exact kb_dict_str | exact kb_dict_dict)
local macro_rules | `(tactic| walk_at "new") => `(tactic| intro _ _ _ _ _)
local macro_rules | `(tactic| walk_at "go1") => `(tactic| first
  | with_reducible refine g_seq ?_
  | with_reducible refine g_asg ?_
  | with_reducible refine g_name ?_
  | with_reducible refine g_drop ?_
  | with_reducible refine g_ret ?_
  | with_reducible refine g_for ?_
  | with_reducible refine g_lc ?_
  | with_reducible refine g_iL ?_
  | with_reducible refine g_iT ?_
  | with_reducible refine g_i1 ?_
  | with_reducible refine g_i2 ?_
  | with_reducible refine g_yes ?_
  | with_reducible refine g_ttr ?_
  | ((with_reducible refine' g_riL ?h ?_); (first | (case h => walk_at "sql") | fail))
  | ((with_reducible refine' g_riT ?h ?_); (first | (case h => walk_at "sqt") | fail))
  | ((with_reducible refine' g_ri1 ?h ?_); (first | (case h => (first | exact ⟨by decide, by decide⟩ | exact ⟨by omega, by omega⟩ | exact ⟨by simp only [List.length_map]; omega, by simp only [List.length_map]; omega⟩)) | fail))
  | ((with_reducible refine' g_ri2 ?h ?_); (first | (case h => (first | exact ⟨by decide, by decide, by decide, by decide⟩ | exact ⟨by omega, by omega, by omega, by omega⟩)) | fail))
  | with_reducible refine g_retN ?_
  | with_reducible refine g_next ?_
  | with_reducible refine g_cont ?_
  | with_reducible refine g_brk ?_
  | with_reducible refine g_ifs ?_
  | with_reducible refine g_test ?_
  | with_reducible refine g_tb ?_
  | with_reducible refine g_and ?_
  | with_reducible refine g_or ?_
  | with_reducible refine g_not ?_
  | with_reducible refine g_andV ?_
  | with_reducible refine g_orV ?_
  | with_reducible refine g_notV ?_
  | with_reducible refine g_ifE ?_
  | ((with_reducible refine' g_var ?h ?_); (first | (case h => exact rfl) | fail))
  | with_reducible refine g_c ?_
  | with_reducible refine g_op ?_
  | with_reducible refine g_cb ?_
  | with_reducible refine g_cl ?_
  | with_reducible refine g_nil ?_
  | with_reducible refine g_cons ?_
  | with_reducible refine g_tup ?_
  | with_reducible refine g_lst ?_
  | with_reducible refine g_fld ?_
  | with_reducible refine g_sfld ?_
  | with_reducible refine g_sub1 ?_
  | with_reducible refine g_flda ?_
  | with_reducible refine g_rAdd ?_
  | with_reducible refine g_rSub ?_
  | ((with_reducible refine' g_rfldb ?h ?l ?e ?_); (first | (case h => walk_at "fact") | fail); (first | (case l => exact Nat.le_of_ble_eq_true rfl) | fail); (first | (case e => exact rfl) | fail); intro _ _ _)
  | with_reducible refine g_mt ?_
  | with_reducible refine g_mk ?_
  | ((with_reducible refine g_rmk ?_); intro _ _ _ _ _ _ _ _ _)
  | with_reducible refine g_bm ?_
  | with_reducible refine g_bm0 ?_
  | with_reducible refine g_bl ?_
  | with_reducible refine g_add ?_
  | with_reducible refine g_sub ?_
  | with_reducible refine g_lt ?_
  | with_reducible refine g_le ?_
  | with_reducible refine g_gt ?_
  | with_reducible refine g_ge ?_
  | with_reducible refine g_eqI ?_
  | with_reducible refine g_neI ?_
  | with_reducible refine g_eqS ?_
  | with_reducible refine g_neS ?_
  | with_reducible refine g_eqB ?_
  | with_reducible refine g_isN ?_
  | with_reducible refine g_notN ?_
  | with_reducible refine g_max2 ?_
  | with_reducible refine g_min2 ?_
  | with_reducible refine g_ipI ?_
  | with_reducible refine g_iteT ?_
  | with_reducible refine g_iteF ?_
  | with_reducible refine g_iteNT ?_
  | with_reducible refine g_iteNF ?_
  | ((with_reducible refine' g_aug ?h ?_); (first | (case h => exact rfl) | fail))
  | ((with_reducible refine' g_mod ?h ?_); (first | (case h => (first | decide | omega | assumption | (simp only [List.length_map]; omega))) | fail))
  | ((with_reducible refine' g_div ?h ?_); (first | (case h => (first | exact ⟨by decide, by decide⟩ | assumption)) | fail))
  | ((with_reducible refine' g_pow ?h ?_); (first | (case h => (first | exact ⟨by decide, by decide, by decide⟩ | assumption)) | fail))
  | ((with_reducible refine' g_mul ?h ?_); (first | (case h => (first | exact Or.inr ⟨by decide, by decide⟩ | exact Or.inl ⟨by decide, by decide⟩ | exact Or.inr ⟨by omega, by omega⟩ | exact Or.inl ⟨by omega, by omega⟩ | assumption)) | fail))
  | ((with_reducible refine' g_newT ?h ?_); (first | (case h => exact Nat.le_of_ble_eq_true rfl) | fail); walk_at "new")
  | ((with_reducible refine' g_newL ?h ?_); (first | (case h => exact Nat.le_of_ble_eq_true rfl) | fail); walk_at "new")
  | ((with_reducible refine' g_lenL ?h ?_); (first | (case h => walk_at "sql") | fail))
  | ((with_reducible refine' g_lenT ?h ?_); (first | (case h => walk_at "sqt") | fail))
  | ((with_reducible refine' g_ixL ?h ?k ?_); (first | (case h => walk_at "sql") | fail); (first | (case k => exact rfl) | fail))
  | ((with_reducible refine' g_ixT ?h ?k ?_); (first | (case h => walk_at "sqt") | fail); (first | (case k => exact rfl) | fail))
  | ((with_reducible refine' g_listL ?h ?_); (first | (case h => walk_at "sql") | fail); walk_at "new")
  | ((with_reducible refine' g_listT ?h ?_); (first | (case h => walk_at "sqt") | fail); walk_at "new")
  | ((with_reducible refine' g_tupL ?h ?_); (first | (case h => walk_at "sql") | fail); walk_at "new")
  | ((with_reducible refine' g_bmL ?h ?_); (first | (case h => walk_at "fact") | fail))
  | ((with_reducible refine' g_isi ?h ?k ?_); (first | (case h => walk_at "ty") | fail); (first | (case k => walk_at "kb") | fail))
  | ((with_reducible refine' g_append ?h ?l ?_); (first | (case h => walk_at "fact") | fail); (first | (case l => walk_at "sz") | fail); intro _ _ _)
  | ((with_reducible refine' g_rmt ?h ?l ?_); (first | (case h => walk_at "fact") | fail); (first | (case l => exact rfl) | fail))
  | with_reducible refine g_sl ?_
  | with_reducible refine g_noP ?_
  | with_reducible refine g_part ?_
  | with_reducible refine g_rpart ?_
  | ((with_reducible refine' g_slL ?h ?_); (first | (case h => walk_at "sql") | fail); walk_at "new")
  | walk_at "go2"
  | walk_at "go3"
  | walk_at "go4"
  | walk_at "own")
local macro_rules | `(tactic| walk_at "go") => `(tactic| repeat walk_at "go1")
local macro_rules | `(tactic| walk_at "rdt") => `(tactic| first
  | exact Or.inl (by walk_at "fact")
  | exact Or.inr ⟨_, by walk_at "fact"⟩)
local macro_rules | `(tactic| walk_at "go2") => `(tactic| first
  | with_reducible refine g_dget ?_
  | with_reducible refine g_din ?_
  | with_reducible refine g_dnin ?_
  | with_reducible refine g_dput ?_
  | with_reducible refine g_dget2 ?_
  | with_reducible refine g_dget1 ?_
  | with_reducible refine g_iK ?_
  | with_reducible refine g_iE ?_
  | with_reducible refine g_iZ ?_
  | with_reducible refine g_gcons ?_
  | with_reducible refine g_chain ?_
  | with_reducible refine g_rch ?_
  | with_reducible refine g_isO ?_
  | with_reducible refine g_notO ?_
  | with_reducible refine g_eqO ?_
  | with_reducible refine g_neB ?_
  | ((with_reducible refine' g_ninI ?h ?_); (first | (case h => walk_at "sql") | fail))
  | with_reducible refine g_gnil ?_
  | with_reducible refine g_lstRg ?_
  | ((with_reducible refine' g_gtup ?h ?l ?_); (first | (case h => walk_at "sqt") | fail); (first | (case l => exact rfl) | fail))
  | ((with_reducible refine g_dnew ?_); walk_at "new")
  | ((with_reducible refine g_dnewK ?_); walk_at "new")
  | ((with_reducible refine' g_unl ?h ?_); (first | (case h => walk_at "fact") | fail); intro _ _ _)
  | ((with_reducible refine' g_rdg2 ?h ?_); (first | (case h => walk_at "rdt") | fail))
  | ((with_reducible refine' g_rkt ?h ?_); (first | (case h => walk_at "fact") | fail))
  | ((with_reducible refine' g_ren ?h ?_); (first | (case h => walk_at "sql") | fail))
  | ((with_reducible refine' g_rzp ?h ?k ?_); (first | (case h => walk_at "sql") | fail); (first | (case k => walk_at "sql") | fail))
  | ((with_reducible refine' g_bmT ?h ?_); (first | (case h => walk_at "fact") | fail))
  | ((with_reducible refine' g_clearT ?h ?_); (first | (case h => walk_at "fact") | fail); intro _ _ _)
  | ((with_reducible refine' g_rlrg ?h ?_); (first | (case h => exact RgOk.of_le (by omega) (by omega) (by omega) (by omega)) | fail); walk_at "new"))
local macro_rules | `(tactic| walk_at "go4") => `(tactic| first
  | with_reducible refine g_iET ?_
  | with_reducible refine g_iZA ?_
  | with_reducible refine g_pcons ?_
  | with_reducible refine g_pnil ?_
  | ((with_reducible refine g_disp ?_); walk_at "new")
  | ((with_reducible refine g_dispT1 ?_); walk_at "new")
  | with_reducible refine g_nget ?_
  | with_reducible refine g_nin ?_
  | with_reducible refine g_nnin ?_
  | with_reducible refine g_nget2 ?_
  | with_reducible refine g_nput ?_
  | with_reducible refine g_dpop1 ?_
  | with_reducible refine g_un ?_
  | with_reducible refine g_freeze ?_
  | with_reducible refine g_neg ?_
  | with_reducible refine g_intB ?_
  | with_reducible refine g_daug ?_
  | ((with_reducible refine g_nnew ?_); intro _ _ _ _ _)
  | ((with_reducible refine' g_renT ?h ?_); (first | (case h => walk_at "sqt") | fail))
  | ((with_reducible refine' g_rzaT ?h ?k ?_); (first | (case h => walk_at "sqt") | fail); (first | (case k => walk_at "sqt") | fail))
  | ((with_reducible refine' g_rdg2K ?h ?_); (first | (case h => walk_at "rdt") | fail))
  | ((with_reducible refine' g_rdgS ?h ?l ?_); (first | (case h => walk_at "rdt") | fail); (first | (case l => exact rfl) | fail))
  | ((with_reducible refine' g_rdpS ?h ?l ?e ?_); (first | (case h => walk_at "fact") | fail); (first | (case l => exact Nat.le_of_ble_eq_true rfl) | fail); (first | (case e => exact rfl) | fail); intro _ _ _)
  | ((with_reducible refine' g_rkk ?h ?_); (first | (case h => walk_at "fact") | fail))
  | ((with_reducible refine' g_sl1 ?h ?_); (first | (case h => walk_at "sqt") | fail); walk_at "new"))
local macro_rules | `(tactic| walk_at "go3") => `(tactic| first
  | with_reducible refine g_clX ?_
  | with_reducible refine g_rz ?_)

def top (i : Nat) : Stmt := PySem.Challenge.pw_manydoors_k02_deeds_are_checked.main.body.getD i (.Pass ⟨0, 0, 0, 0⟩)
abbrev s_is_integer : Stmt := top 10
abbrev s_is_from : Stmt := top 11
abbrev s_is_stay : Stmt := top 12
abbrev s_is_party : Stmt := top 13
abbrev s_is_deed : Stmt := top 14
abbrev s_check_deed : Stmt := top 15
abbrev s_Lmixed : Stmt := top 17
abbrev s_Lnumbers : Stmt := top 18
abbrev s_Ldraw : Stmt := top 19
abbrev s_Lsetup : Stmt := top 20
abbrev s_Lstay : Stmt := top 21
abbrev s_Lparty : Stmt := top 22
abbrev s_Lis_deed : Stmt := top 23
abbrev s_Lbad_party : Stmt := top 24
abbrev s_law : Stmt := top 25
/-- where the classes stand -/
structure Ad where
  ManydoorsError : Addr
  BadSetup : Addr
  BadDeed : Addr
  BadStay : Addr
  BadHistory : Addr
  BadText : Addr
  BadLine : Addr
structure Txt (K : PySem.W.Frag) (mg : Str → Option Value) (A : Ad) : Prop where
  b_isinstance : mg "isinstance" = none
  b_int : mg "int" = none
  b_bool : mg "bool" = none
  b_tuple : mg "tuple" = none
  b_len : mg "len" = none
  b_all : mg "all" = none
  b_list : mg "list" = none
  b_sorted : mg "sorted" = none
  b_range : mg "range" = none
  b_min : mg "min" = none
  b_str : mg "str" = none
  x_ManydoorsError : ErrC K mg "ManydoorsError" A.ManydoorsError
  x_BadSetup : ErrC K mg "BadSetup" A.BadSetup
  x_BadDeed : ErrC K mg "BadDeed" A.BadDeed
  x_BadStay : ErrC K mg "BadStay" A.BadStay
  x_BadHistory : ErrC K mg "BadHistory" A.BadHistory
  x_BadText : ErrC K mg "BadText" A.BadText
  x_BadLine : ErrC K mg "BadLine" A.BadLine
  ec_BadDeed : ExcC K A.BadDeed
  k_self : PySem.W.subIn K (.ref A.BadDeed) (.ref A.BadDeed) = some true
  k_many : PySem.W.kitOne K (.ref A.BadDeed) (.ref A.ManydoorsError) = some true
  k_oth : PySem.W.kitAny K (.ref A.BadDeed) [.ref A.BadHistory, .ref A.BadLine, .ref A.BadSetup, .ref A.BadStay, .ref A.BadText] = some false
  g_PARTY : ∃ tk, mg "PARTY" = some (.int 4 tk)
def spLaw (K : PySem.W.Frag) : Sp := fun vs H Q _ => ∃ x0, vs = [x0] ∧ ∃ (a : Addr) (ns : List Int), x0 = .ref a ∧ SqL K H a (ns.map V.int) ∧ ns.length ≤ 63 ∧ ∀ H', Q (.bl true) H'

section
variable {P : Program} {w : World} {K : PySem.W.Frag} {mg : Str → Option Value} {base : Heap} {A : Ad}
def P_Lmixed (K : PySem.W.Frag) (A : Ad) (x0 x1 : V) (H : Hp) (Q : VK) : Prop := ∃ a b : Int, x0 = .int a ∧ x1 = .int b ∧ ∀ n : Int, 0 ≤ n → n < 2147483647 → Q (.int n) H
def sp_Lmixed (K : PySem.W.Frag) (A : Ad) : Sp := fun vs H Q _ => ∃ x0 x1, vs = [x0, x1] ∧ P_Lmixed K A x0 x1 H Q
theorem c_Lmixed {K : PySem.W.Frag} {A : Ad} {x0 x1 : V} {H : Hp} {Q : VK} {E : XK} (h : P_Lmixed K A x0 x1 H Q) : sp_Lmixed K A [x0, x1] H Q E := ⟨_, _, rfl, h⟩
theorem sc_Lmixed : FnScope ["_law_number", "_law_k", "_law_step"] ["_law_number", "_law_k"] (defScope s_Lmixed) := ⟨rfl, rfl, rfl, by decide +kernel, rfl, by decide +kernel, by decide +kernel⟩
def t_Lmixed (K : PySem.W.Frag) (A : Ad) : TS :=
  (tSeq (tAsg (tOp oMod (tOp oAdd (tOp oAdd (tOp oMul (tVar 0) (tC (.int 48271))) (tOp oMul (tVar 1) (tC (.int 69621)))) (tC (.int 12345))) (tC (.int 2147483647))) (gName 2))
    (tRet (tOp oMod (tOp oAdd (tOp oMul (tVar 2) (tOp oAdd (tOp oDiv (tVar 2) (tC (.int 65536))) (tC (.int 3)))) (tVar 1)) (tC (.int 2147483647)))))
theorem pu_Lmixed (T : Txt K mg A) {x0 x1 : V} {H : Hp} {Q : VK} (h : P_Lmixed K A x0 x1 H Q) : t_Lmixed K A { nx := fun _ H' => Q .non H', rt := Q } [some x0, some x1, none] H := by
  obtain ⟨a, b, rfl, rfl, k⟩ := h
  unfold t_Lmixed
  walk_at "go"
  exact k _ (Int.emod_nonneg _ (by decide)) (Int.emod_lt_of_pos _ (by decide))
theorem ok_Lmixed {f : Addr} {fd : FuncData} (F : Fun K "_law_mixed" "_law_mixed" s_Lmixed f fd) (T : Txt K mg A)  : FnOk P w K mg base CX0 (1) f fd ["_law_number", "_law_k"] (sp_Lmixed K A) := by
  refine F.ok sc_Lmixed (fun vs H Q E h => ?_) (fun cdv Ar outer s H vs Q E hr h => ⟨t_Lmixed K A, ?_, ?_⟩)
  · obtain ⟨x0, x1, rfl, _⟩ := h
    rfl
  · have hu := hu_of hr
    exact (pss_cons (ps_set (i := 2) sc_Lmixed.nd rfl (Or.inl rfl) (pe_op o_mod (pe_op o_add (pe_op o_add (pe_op o_mul (pv 0) pe_int) (pe_op o_mul (pv 1) pe_int)) pe_int) pe_int))
    (pss_one (ps_ret (pe_op o_mod (pe_op o_add (pe_op o_mul (pv 2) (pe_op o_add (pe_op o_div (pv 2) pe_int) pe_int)) (pv 1)) pe_int))))
  · obtain ⟨x0, x1, rfl, h⟩ := h
    exact pu_Lmixed T h
def Sml (ms : List Int) : Prop := ∀ m ∈ ms, 0 ≤ m ∧ m < 1000000
theorem Sml.snoc {ms : List Int} (h : Sml ms) (z : Int) : Sml (ms ++ [z % 1000000]) := fun m hm => by
  rcases List.mem_append.mp hm with q | q
  · exact h m q
  · rw [List.mem_singleton.mp q]; exact ⟨Int.emod_nonneg _ (by decide), Int.emod_lt_of_pos _ (by decide)⟩
def P_Lnumbers (K : PySem.W.Frag) (A : Ad) (x0 : V) (H : Hp) (Q : VK) : Prop := ∃ (a : Addr) (ns : List Int), x0 = .ref a ∧ SqL K H a (ns.map V.int) ∧ ns.length ≤ 63 ∧
  ∀ (l : Addr) (ms : List Int) (H' : Hp), H l = none → Fr [] H H' → H' l = some (.lst (ms.map V.int)) → Sml ms → ms.length ≤ 10000 → Q (.ref l) H'
def sp_Lnumbers (K : PySem.W.Frag) (A : Ad) : Sp := fun vs H Q _ => ∃ x0, vs = [x0] ∧ P_Lnumbers K A x0 H Q
theorem c_Lnumbers {K : PySem.W.Frag} {A : Ad} {x0 : V} {H : Hp} {Q : VK} {E : XK} (h : P_Lnumbers K A x0 H Q) : sp_Lnumbers K A [x0] H Q E := ⟨_, rfl, h⟩
theorem sc_Lnumbers : FnScope ["_law_script", "_law_numbers_here", "_law_cell", "_law_rest", "_law_k"] ["_law_script"] (defScope s_Lnumbers) := ⟨rfl, rfl, rfl, by decide +kernel, rfl, by decide +kernel, by decide +kernel⟩
def t_Lnumbers (K : PySem.W.Frag) (A : Ad) : TS :=
  (tSeq (tAsg (tLst tNil) (gName 1))
    (tSeq (tFor (iList K (tVar 0)) (gName 2) (tIfS (tTest (tOp cGe (tVar 2) (tOp oPow (tC (.int 10)) (tC (.int 18))))) (tSeq (tAsg (tVar 2) (gName 3))
    (tFor (iRng1 (tCons (tC (.int 60)) tNil)) (gName 4) (tIfS (tTest (tOp cGt (tVar 3) (tC (.int 0)))) (tSeq (tDrop (tBM K "list" rAppend (tVar 1) (tCons (tOp oMod (tVar 3) (tC (.int 1000000))) tNil)))
    (tAsg (tOp oDiv (tVar 3) (tC (.int 1000000))) (gName 3))) tNext))) (tSeq (tDrop (tBM K "list" rAppend (tVar 1) (tCons (tOp oMod (tVar 2) (tC (.int 1000000))) tNil)))
    (tFor (iRng1 (tCons (tC (.int 5)) tNil)) (gName 4) (tDrop (tBM K "list" rAppend (tVar 1) (tCons (tOp oMod (tCl (sp_Lmixed K A) (tCons (tCl (sp_Lmixed K A) (tCons (tOp oMod (tVar 2) (tC (.int 2147483647))) (tCons (tVar 4) tNil))) (tCons (tOp oAdd (tVar 4) (tC (.int 7))) tNil))) (tC (.int 1000000))) tNil)))))))
    (tRet (tVar 1))))
theorem pu_Lnumbers (T : Txt K mg A) {x0 : V} {H : Hp} {Q : VK} (h : P_Lnumbers K A x0 H Q) : t_Lnumbers K A { nx := fun _ H' => Q .non H', rt := Q } [some x0, none, none, none, none] H := by
  obtain ⟨a, ns, rfl, hS, hl, k⟩ := h
  unfold t_Lnumbers
  walk_at "go"
  rename_i l H0 nl f0 e0
  refine f_list (xs := ns.map V.int) (fun i σ H' => ∃ (ms : List Int) (v1 v2 v3 : Option V), σ = [some (.ref a), some (.ref l), v1, v2, v3] ∧ Fr [] H H' ∧ H' l = some (.lst (ms.map V.int)) ∧ Sml ms ∧ ms.length ≤ 60 * i)
    ⟨[], none, none, none, rfl, f0, e0, fun _ q => (nomatch q), Nat.zero_le _⟩ ?_ ?_ ?_
  · rintro i σ H' _ ⟨ms, v1, v2, v3, rfl, f, e, s, hm⟩
    exact f.sql hS nin0
  · rintro i x σ H1 hx ⟨ms, v1, v2, v3, rfl, f1, e1, s1, hm⟩
    obtain ⟨n, rfl, hn, hmem⟩ := getI hx
    have hi : i < 63 := Nat.lt_of_lt_of_le ((List.getElem?_eq_some_iff.mp hn).1) hl
    walk_at "go"
    refine g_ite (fun c => ?_) (fun c => ?_)
    · walk_at "go"
      refine f_range (lo := 0) (n := 60) (fun j σ H' => ∃ (ms : List Int) (r : Int) (v3 : Option V), σ = [some (.ref a), some (.ref l), some (.int n), some (.int r), v3] ∧ Fr [] H H' ∧ H' l = some (.lst (ms.map V.int)) ∧ Sml ms ∧ ms.length ≤ 60 * i + j)
        ⟨ms, n, v3, rfl, f1, e1, s1, by omega⟩ ?_ ?_
      · rintro j σ H2 hj ⟨ms2, r, v3, rfl, f2, e2, s2, hm2⟩
        walk_at "go"
        refine g_ite (fun c => ?_) (fun c => ?_)
        · walk_at "go"
          rename_i H3 f3 e3
          exact ⟨ms2 ++ [r % 1000000], _, _, rfl, f2.own1 f3 nl, by rw [e3, List.map_append] <;> rfl, s2.snoc r, by rw [List.length_append]; exact Nat.add_le_add_right hm2 1⟩
        · walk_at "go"
          exact ⟨ms2, _, _, rfl, f2, e2, s2, by omega⟩
      · rintro σ H2 ⟨ms2, r, v3, rfl, f2, e2, s2, hm2⟩
        exact ⟨ms2, _, _, _, rfl, f2, e2, s2, by omega⟩
    · walk_at "go"
      rename_i H3 f3 e3
      refine f_range (lo := 0) (n := 5) (fun j σ H' => ∃ (ms : List Int) (v2 v3 : Option V), σ = [some (.ref a), some (.ref l), some (.int n), v2, v3] ∧ Fr [] H H' ∧ H' l = some (.lst (ms.map V.int)) ∧ Sml ms ∧ ms.length ≤ 60 * i + 1 + j)
        ⟨ms ++ [n % 1000000], v2, v3, rfl, f1.own1 f3 nl, by rw [e3, List.map_append] <;> rfl, s1.snoc n, by rw [List.length_append]; exact Nat.add_le_add_right hm 1⟩ ?_ ?_
      · rintro j σ H4 hj ⟨ms2, v2, v3, rfl, f4, e4, s4, hm4⟩
        walk_at "go"
        refine c_Lmixed ⟨_, _, rfl, rfl, fun z _ _ => ?_⟩
        walk_at "go"
        refine c_Lmixed ⟨_, _, rfl, rfl, fun z2 _ _ => ?_⟩
        walk_at "go"
        rename_i H5 f5 e5
        exact ⟨ms2 ++ [z2 % 1000000], _, _, rfl, f4.own1 f5 nl, by rw [e5, List.map_append] <;> rfl, s4.snoc z2, by rw [List.length_append]; exact Nat.add_le_add_right hm4 1⟩
      · rintro σ H4 ⟨ms2, v2, v3, rfl, f4, e4, s4, hm4⟩
        exact ⟨ms2, _, _, _, rfl, f4, e4, s4, by omega⟩
  · rintro σ H1 ⟨ms, v1, v2, v3, rfl, f1, e1, s1, hm⟩
    walk_at "go"
    rw [List.length_map] at hm
    exact k l ms H1 nl f1 e1 s1 (by omega)
theorem ok_Lnumbers {f : Addr} {fd : FuncData} (F : Fun K "_law_numbers" "_law_numbers" s_Lnumbers f fd) (T : Txt K mg A) (c_Lmixed : Cal P w K mg base "_law_mixed" 1 ["_law_number", "_law_k"] (sp_Lmixed K A)) : FnOk P w K mg base CX0 (2) f fd ["_law_script"] (sp_Lnumbers K A) := by
  refine F.ok sc_Lnumbers (fun vs H Q E h => ?_) (fun cdv Ar outer s H vs Q E hr h => ⟨t_Lnumbers K A, ?_, ?_⟩)
  · obtain ⟨x0, rfl, _⟩ := h
    rfl
  · have hu := hu_of hr
    exact (pss_cons (ps_set (i := 1) sc_Lnumbers.nd rfl (Or.inl rfl) (pe_lst pa_nil))
    (pss_cons (ps_for PassesOwn.never rfl (pi_list (pv 0)) (pg_name (i := 2) sc_Lnumbers.nd rfl (Or.inl rfl)) (pss_one (ps_if (pt_cmpR c_ge (pv 2) (pe_op o_pow pe_int pe_int) (nomark _)) (pss_cons (ps_set (i := 3) sc_Lnumbers.nd rfl (Or.inl rfl) (pv 2))
    (pss_one (ps_for PassesOwn.never rfl (pi_range1 rfl T.b_range (pa_cons pe_int pa_nil)) (pg_name (i := 4) sc_Lnumbers.nd rfl (Or.inl rfl)) (pss_one (ps_if (pt_cmpR c_gt (pv 3) pe_int (nomark _)) (pss_cons (ps_expr (pe_bm PySem.F.plainAttrs_list PySem.F.slot_list_append PySem.F.type_list_append mt_append (pv 1) (pa_cons (pe_op o_mod (pv 3) pe_int) pa_nil)))
    (pss_one (ps_set (i := 3) sc_Lnumbers.nd rfl (Or.inl rfl) (pe_op o_div (pv 3) pe_int)))) pss_nil))))) (pss_cons (ps_expr (pe_bm PySem.F.plainAttrs_list PySem.F.slot_list_append PySem.F.type_list_append mt_append (pv 1) (pa_cons (pe_op o_mod (pv 2) pe_int) pa_nil)))
    (pss_one (ps_for PassesOwn.never rfl (pi_range1 rfl T.b_range (pa_cons pe_int pa_nil)) (pg_name (i := 4) sc_Lnumbers.nd rfl (Or.inl rfl)) (pss_one (ps_expr (pe_bm PySem.F.plainAttrs_list PySem.F.slot_list_append PySem.F.type_list_append mt_append (pv 1) (pa_cons (pe_op o_mod (pe_cl c_Lmixed (hr.mono (by first | decide | omega)) (by rfl) (pa_cons (pe_cl c_Lmixed (hr.mono (by first | decide | omega)) (by rfl) (pa_cons (pe_op o_mod (pv 2) pe_int) (pa_cons (pv 4) pa_nil))) (pa_cons (pe_op o_add (pv 4) pe_int) pa_nil))) pe_int) pa_nil))))))))))
    (pss_one (ps_ret (pv 1)))))
  · obtain ⟨x0, rfl, h⟩ := h
    exact pu_Lnumbers T h
/-- the draws: a list of the numbers' list and a place -/
def Draws (H : Hp) (d l : Addr) : Prop := ∃ (ms : List Int) (k : Int), H d = some (.lst [.ref l, .int k]) ∧ H l = some (.lst (ms.map V.int)) ∧ Sml ms ∧ ms.length ≤ 10000 ∧ 0 ≤ k
theorem Draws.fr {H H' : Hp} {d l : Addr} {m : List Addr} (h : Draws H d l) (f : Fr m H H') (n1 : d ∉ m) (n2 : l ∉ m) : Draws H' d l := by
  obtain ⟨ms, k, h1, h2, h3⟩ := h
  exact ⟨ms, k, f.at h1 n1, f.at h2 n2, h3⟩
def P_Ldraw (K : PySem.W.Frag) (A : Ad) (x0 : V) (H : Hp) (Q : VK) : Prop := ∃ (d l : Addr), x0 = .ref d ∧ Draws H d l ∧
  ∀ (n : Int) (H' : Hp), 0 ≤ n → n < 1000000 → Fr [d] H H' → Draws H' d l → Q (.int n) H'
def sp_Ldraw (K : PySem.W.Frag) (A : Ad) : Sp := fun vs H Q _ => ∃ x0, vs = [x0] ∧ P_Ldraw K A x0 H Q
theorem c_Ldraw {K : PySem.W.Frag} {A : Ad} {x0 : V} {H : Hp} {Q : VK} {E : XK} (h : P_Ldraw K A x0 H Q) : sp_Ldraw K A [x0] H Q E := ⟨_, rfl, h⟩
theorem sc_Ldraw : FnScope ["_law_draws", "_law_at", "_law_first"] ["_law_draws"] (defScope s_Ldraw) := ⟨rfl, rfl, rfl, by decide +kernel, rfl, by decide +kernel, by decide +kernel⟩
def t_Ldraw (K : PySem.W.Frag) (A : Ad) : TS :=
  (tSeq (tAsg (tOp (rIxL K) (tVar 0) (tC (.int 1))) (gName 1))
    (tSeq (tAsg (tOp oAdd (tVar 1) (tC (.int 1))) (gSub (tVar 0) (tC (.int 1)) rSetL))
    (tSeq (tIfS (tTest (tOp cLt (tVar 1) (tCB (rLenSq K) (tCons (tOp (rIxL K) (tVar 0) (tC (.int 0))) tNil)))) (tRet (tOp (rIxL K) (tOp (rIxL K) (tVar 0) (tC (.int 0))) (tVar 1))) tNext)
    (tSeq (tAsg (tOp oAdd (tC (.int 1)) (tVar 1)) (gName 2))
    (tSeq (tIfS (tTest (tOp cGt (tCB (rLenSq K) (tCons (tOp (rIxL K) (tVar 0) (tC (.int 0))) tNil)) (tC (.int 0)))) (tAsg (tOp oAdd (tVar 2) (tOp oMul (tC (.int 1009)) (tOp (rIxL K) (tOp (rIxL K) (tVar 0) (tC (.int 0))) (tC (.int 0))))) (gName 2)) tNext)
    (tRet (tOp oMod (tCl (sp_Lmixed K A) (tCons (tCl (sp_Lmixed K A) (tCons (tVar 2) (tCons (tVar 1) tNil))) (tCons (tC (.int 5)) tNil))) (tC (.int 1000000)))))))))
theorem pu_Ldraw (T : Txt K mg A) {x0 : V} {H : Hp} {Q : VK} (h : P_Ldraw K A x0 H Q) : t_Ldraw K A { nx := fun _ H' => Q .non H', rt := Q } [some x0, none, none] H := by
  obtain ⟨d, l, rfl, ⟨ms, k, hd, hL, sm, hlen, hk⟩, q⟩ := h
  unfold t_Ldraw
  walk_at "go"
  refine g_setL hd (j := 1) rfl fun H1 f1 e1 => ?_
  have nld : l ≠ d := fun z => by
    subst z
    rw [hd] at hL
    have e := congrArg List.length (HO.lst.inj (Option.some.inj hL))
    cases ms with
    | nil => cases e
    | cons a r => cases HO.lst.inj (Option.some.inj hL)
  have hL1 : H1 l = some (.lst (ms.map V.int)) := f1.at hL (nin1 nld nin0)
  have D1 : Draws H1 d l := ⟨ms, k + 1, e1, hL1, sm, hlen, by omega⟩
  have e1' : H1 d = some (.lst [.ref l, .int (k + 1)]) := e1
  walk_at "go"
  rw [List.length_map]
  refine g_ite (fun c => ?_) (fun c => ?_)
  · walk_at "go"
    obtain ⟨v, hv, hv2⟩ := atI_of (xs := ms.map V.int) hk (by rw [List.length_map]; exact c)
    obtain ⟨n, rfl, _, hmem⟩ := getI hv2
    refine g_ixL (SqL.of hL1) hv ?_
    exact q n H1 (sm n hmem).1 (sm n hmem).2 f1 D1
  · have fin : ∀ n : Int, Q (.int (n % 1000000)) H1 := fun n => q _ H1 (Int.emod_nonneg _ (by decide)) (Int.emod_lt_of_pos _ (by decide)) f1 D1
    walk_at "go"
    rw [List.length_map]
    refine g_ite (fun c2 => ?_) (fun c2 => ?_)
    · walk_at "go"
      obtain ⟨v, hv, hv2⟩ := atI_of (xs := ms.map V.int) (z := 0) (Int.le_refl _) (by rw [List.length_map]; exact c2)
      obtain ⟨n, rfl, _, hmem⟩ := getI hv2
      refine g_ixL (SqL.of hL1) hv ?_
      walk_at "go"
      refine c_Lmixed ⟨_, _, rfl, rfl, fun z _ _ => ?_⟩
      walk_at "go"
      refine c_Lmixed ⟨_, _, rfl, rfl, fun z2 _ _ => ?_⟩
      walk_at "go"
      exact fin z2
    · walk_at "go"
      refine c_Lmixed ⟨_, _, rfl, rfl, fun z _ _ => ?_⟩
      walk_at "go"
      refine c_Lmixed ⟨_, _, rfl, rfl, fun z2 _ _ => ?_⟩
      walk_at "go"
      exact fin z2
theorem ok_Ldraw {f : Addr} {fd : FuncData} (F : Fun K "_law_draw" "_law_draw" s_Ldraw f fd) (T : Txt K mg A) (c_Lmixed : Cal P w K mg base "_law_mixed" 1 ["_law_number", "_law_k"] (sp_Lmixed K A)) : FnOk P w K mg base CX0 (2) f fd ["_law_draws"] (sp_Ldraw K A) := by
  refine F.ok sc_Ldraw (fun vs H Q E h => ?_) (fun cdv Ar outer s H vs Q E hr h => ⟨t_Ldraw K A, ?_, ?_⟩)
  · obtain ⟨x0, rfl, _⟩ := h
    rfl
  · have hu := hu_of hr
    exact (pss_cons (ps_set (i := 1) sc_Ldraw.nd rfl (Or.inl rfl) (pe_ix ix_list (pv 0) pe_int (fun _ _ => rfl)))
    (pss_cons (ps_asg (pe_op o_add (pv 1) pe_int) (pg_sub (pv 0) pe_int set_list))
    (pss_cons (ps_if (pt_cmpR c_lt (pv 1) (pe_callB b_len (by rfl) T.b_len (by decide +kernel) (pa_cons (pe_ix ix_list (pv 0) pe_int (fun _ _ => rfl)) pa_nil)) (nomark _)) (pss_one (ps_ret (pe_ix ix_list (pe_ix ix_list (pv 0) pe_int (fun _ _ => rfl)) (pv 1) (fun _ _ => rfl)))) pss_nil)
    (pss_cons (ps_set (i := 2) sc_Ldraw.nd rfl (Or.inl rfl) (pe_op o_add pe_int (pv 1)))
    (pss_cons (ps_if (pt_cmpR c_gt (pe_callB b_len (by rfl) T.b_len (by decide +kernel) (pa_cons (pe_ix ix_list (pv 0) pe_int (fun _ _ => rfl)) pa_nil)) pe_int (nomark _)) (pss_one (ps_set (i := 2) sc_Ldraw.nd rfl (Or.inl rfl) (pe_op o_add (pv 2) (pe_op o_mul pe_int (pe_ix ix_list (pe_ix ix_list (pv 0) pe_int (fun _ _ => rfl)) pe_int (fun _ _ => rfl)))))) pss_nil)
    (pss_one (ps_ret (pe_op o_mod (pe_cl c_Lmixed (hr.mono (by first | decide | omega)) (by rfl) (pa_cons (pe_cl c_Lmixed (hr.mono (by first | decide | omega)) (by rfl) (pa_cons (pv 2) (pa_cons (pv 1) pa_nil))) (pa_cons pe_int pa_nil))) pe_int))))))))
  · obtain ⟨x0, rfl, h⟩ := h
    exact pu_Ldraw T h
theorem Draws.new1 {H : Hp} {d l p : Addr} (h : Draws H d l) (e : H p = none) : d ≠ p := by
  obtain ⟨ms, k, h1, h2, _⟩ := h
  exact ne_of_none h1 e
theorem Draws.new2 {H : Hp} {d l p : Addr} (h : Draws H d l) (e : H p = none) : l ≠ p := by
  obtain ⟨ms, k, h1, h2, _⟩ := h
  exact ne_of_none h2 e
theorem Draws.ne {H : Hp} {d l p C dx : Addr} {fs : List (Str × V)} (h : Draws H d l) (e : H p = some (.ins C dx fs)) : d ≠ p ∧ l ≠ p := by
  obtain ⟨ms, k, h1, h2, _⟩ := h
  exact ⟨ne_of h1 e (by intro z; cases z), ne_of h2 e (by intro z; cases z)⟩
theorem Draws.ne' {H : Hp} {d l p : Addr} {xs : List V} (h : Draws H d l) (e : H p = some (.lst xs)) (n : xs.length ≠ 2) : d ≠ p := by
  obtain ⟨ms, k, h1, h2, _⟩ := h
  exact ne_of h1 e (by intro z; cases z; exact n rfl)
local macro_rules | `(tactic| walk_at "drw") => `(tactic| first
  | assumption
  | ((refine' Draws.fr ?h (by assumption) ?k ?l); (first | (case h => walk_at "drw") | fail); (first | (case k => walk_at "nin") | fail); (first | (case l => walk_at "nin") | fail)))
local macro_rules | `(tactic| walk_at "ne2") => `(tactic| first
  | exact Draws.new1 (by walk_at "drw") (by assumption) | exact Draws.new2 (by walk_at "drw") (by assumption)
  | exact Ne.symm (Draws.new1 (by walk_at "drw") (by assumption)) | exact Ne.symm (Draws.new2 (by walk_at "drw") (by assumption)))
local macro_rules | `(tactic| walk_at "go3") => `(tactic| ((with_reducible show sp_Ldraw _ _ _ _ _ _); refine' c_Ldraw ⟨_, _, rfl, ?D, ?_⟩; (first | (case D => walk_at "drw") | fail); intro _ _ _ _ _ _))


/-! ### setups, stays and parties as data -/
structure Setup where
  rooms : List Int
  nights : Int
  sellers : Int
  prices : List (List Int)
  share : Int
def rowD (r : List Int) : PyData := .tuple (r.map .int)
def setupD (S : Setup) : PyData := .tuple [rowD S.rooms, .int S.nights, .int S.sellers, .tuple (S.prices.map rowD), .int S.share]
structure SetupOk (S : Setup) : Prop where
  k1 : 1 ≤ S.rooms.length
  k3 : S.rooms.length ≤ 3
  rm : ∀ z ∈ S.rooms, 0 ≤ z ∧ z ≤ 4
  n1 : 1 ≤ S.nights
  n2 : S.nights ≤ 12
  s1 : 1 ≤ S.sellers
  s2 : S.sellers ≤ 4
  pl : S.prices.length = S.rooms.length
  pn : ∀ r ∈ S.prices, r.length = S.nights.toNat ∧ ∀ z ∈ r, 0 ≤ z ∧ z ≤ 1000000
  h1 : 0 ≤ S.share
  h2 : S.share ≤ 100
theorem imm_row (r : List Int) : imm (rowD r) = true := immL_of fun d hd => by obtain ⟨n, _, rfl⟩ := List.mem_map.mp hd; rfl
theorem imm_setup (S : Setup) : imm (setupD S) = true := by
  have h : immL (S.prices.map rowD) = true := immL_of fun d hd => by obtain ⟨r, _, rfl⟩ := List.mem_map.mp hd; exact imm_row r
  simp [setupD, imm, immL, h, imm_row]
/-- the parts of a setup in the heap -/
structure SetAt (H : Hp) (x : V) (S : Setup) (s r p : Addr) (ps : List V) : Prop where
  e : x = .ref s
  t : H s = some (.tup [.ref r, .int S.nights, .int S.sellers, .ref p, .int S.share])
  r : H r = some (.tup (S.rooms.map V.int))
  p : H p = some (.tup ps)
  ps : DaL H ps (S.prices.map rowD)
theorem SetAt.of {H : Hp} {x : V} {S : Setup} (h : Da H x (setupD S)) : ∃ s r p ps, SetAt H x S s r p ps := by
  obtain ⟨s, xs, rfl, e, _, q⟩ := h.tup1
  cases q with
  | cons a q => cases q with
    | cons b q => cases q with
      | cons c q => cases q with
        | cons d q => cases q with
          | cons f q =>
            cases q
            obtain ⟨r, rs, rfl, er, _, qr⟩ := a.tup1
            obtain ⟨p, ps, rfl, ep, _, qp⟩ := d.tup1
            cases b.int1
            cases c.int1
            cases f.int1
            rw [DaL.ints qr] at er
            exact ⟨s, r, p, ps, rfl, e, er, ep, qp⟩
theorem SetAt.row {H : Hp} {x : V} {S : Setup} {s r p : Addr} {ps : List V} (h : SetAt H x S s r p ps) {k : Nat} {row : List Int} (e : S.prices[k]? = some row) : ∃ a, ps[k]? = some (.ref a) ∧ H a = some (.tup (row.map V.int)) := by
  obtain ⟨v, hv, dv⟩ := h.ps.get' (i := k) (d := rowD row) (by rw [List.getElem?_map, e]; rfl)
  obtain ⟨a, xs, rfl, ea, _, q⟩ := dv.tup1
  rw [DaL.ints q] at ea
  exact ⟨a, hv, ea⟩
/-- a stay: kind, first, end -/
abbrev Stay := Int × Int × Int
def stayD (s : Stay) : PyData := .tuple [.int s.1, .int s.2.1, .int s.2.2]
def partyD (ss : List Stay) : PyData := .tuple (ss.map stayD)
def StayOk (S : Setup) (s : Stay) : Prop := 0 ≤ s.1 ∧ s.1 < S.rooms.length ∧ 0 ≤ s.2.1 ∧ s.2.1 < s.2.2 ∧ s.2.2 ≤ S.nights
theorem imm_stay (s : Stay) : imm (stayD s) = true := rfl
theorem imm_stays (ss : List Stay) : immL (ss.map stayD) = true := immL_of fun d hd => by obtain ⟨n, _, rfl⟩ := List.mem_map.mp hd; rfl
theorem imm_party (ss : List Stay) : imm (partyD ss) = true := imm_stays ss
theorem stay_at {H : Hp} {v : V} {s : Stay} (h : Da H v (stayD s)) : ∃ a, v = .ref a ∧ H a = some (.tup [.int s.1, .int s.2.1, .int s.2.2]) := by
  obtain ⟨a, xs, rfl, e, _, q⟩ := h.tup1
  obtain ⟨x, y, z, rfl, dx, dy, dz⟩ := q.three
  cases dx.int1
  cases dy.int1
  cases dz.int1
  exact ⟨a, rfl, e⟩
theorem stays_get {H : Hp} {xs : List V} {ss : List Stay} {i : Nat} {x : V} (h : DaL H xs (ss.map stayD)) (e : xs[i]? = some x) : ∃ s a, ss[i]? = some s ∧ x = .ref a ∧ H a = some (.tup [.int s.1, .int s.2.1, .int s.2.2]) ∧ Da H x (stayD s) := by
  obtain ⟨d, hd, dd⟩ := h.get e
  rw [List.getElem?_map] at hd
  cases q : ss[i]? with
  | none => rw [q] at hd; cases hd
  | some s =>
    rw [q] at hd
    cases hd
    obtain ⟨a, rfl, ea⟩ := stay_at dd
    exact ⟨s, a, rfl, rfl, ea, dd⟩

/-! ### setups, stays and parties are drawn -/
def P_Lsetup (K : PySem.W.Frag) (A : Ad) (x0 : V) (H : Hp) (Q : VK) : Prop := ∃ (d l : Addr), x0 = .ref d ∧ Draws H d l ∧
  ∀ (v : V) (S : Setup) (H' : Hp), SetupOk S → Da H' v (setupD S) → Fr [d] H H' → Draws H' d l → Q v H'
def sp_Lsetup (K : PySem.W.Frag) (A : Ad) : Sp := fun vs H Q _ => ∃ x0, vs = [x0] ∧ P_Lsetup K A x0 H Q
theorem c_Lsetup {K : PySem.W.Frag} {A : Ad} {x0 : V} {H : Hp} {Q : VK} {E : XK} (h : P_Lsetup K A x0 H Q) : sp_Lsetup K A [x0] H Q E := ⟨_, rfl, h⟩
theorem sc_Lsetup : FnScope ["_law_draws", "_law_rooms", "_law_nights", "_law_prices", "_law_k", "_law_t"] ["_law_draws"] (defScope s_Lsetup) := ⟨rfl, rfl, rfl, by decide +kernel, rfl, by decide +kernel, by decide +kernel⟩
def t_Lsetup (K : PySem.W.Frag) (A : Ad) : TS :=
  (tSeq (tAsg (tCB (rTupOf K) (tCons (tLc (iRng1 (tCons (tOp oAdd (tC (.int 1)) (tOp oMod (tCl (sp_Ldraw K A) (tCons (tVar 0) tNil)) (tC (.int 3)))) tNil)) (gName 4) tYes (tOp oMod (tCl (sp_Ldraw K A) (tCons (tVar 0) tNil)) (tC (.int 5))) [4]) tNil)) (gName 1))
    (tSeq (tAsg (tOp oAdd (tC (.int 1)) (tOp oMod (tCl (sp_Ldraw K A) (tCons (tVar 0) tNil)) (tC (.int 12)))) (gName 2))
    (tSeq (tAsg (tLst tNil) (gName 3))
    (tSeq (tFor (iRng1 (tCons (tCB (rLenSq K) (tCons (tVar 1) tNil)) tNil)) (gName 4) (tDrop (tBM K "list" rAppend (tVar 3) (tCons (tCB (rTupOf K) (tCons (tLc (iRng1 (tCons (tVar 2) tNil)) (gName 5) tYes (tOp (rIxL K) (tLst (tCons (tOp oMod (tCl (sp_Ldraw K A) (tCons (tVar 0) tNil)) (tC (.int 200))) (tCons (tC (.int 0)) (tCons (tOp oPow (tC (.int 10)) (tC (.int 6))) (tCons (tOp oMod (tCl (sp_Ldraw K A) (tCons (tVar 0) tNil)) (tC (.int 1000001))) tNil))))) (tOp oMod (tCl (sp_Ldraw K A) (tCons (tVar 0) tNil)) (tC (.int 4)))) [5]) tNil)) tNil))))
    (tRet (tTup (tCons (tVar 1) (tCons (tVar 2) (tCons (tOp oAdd (tC (.int 1)) (tOp oMod (tCl (sp_Ldraw K A) (tCons (tVar 0) tNil)) (tC (.int 4)))) (tCons (tCB (rTupOf K) (tCons (tVar 3) tNil)) (tCons (tOp (rIxL K) (tLst (tCons (tOp oMod (tCl (sp_Ldraw K A) (tCons (tVar 0) tNil)) (tC (.int 101))) (tCons (tC (.int 0)) (tCons (tC (.int 100)) tNil)))) (tOp oMod (tCl (sp_Ldraw K A) (tCons (tVar 0) tNil)) (tC (.int 3)))) tNil)))))))))))
theorem pu_Lsetup (T : Txt K mg A) {x0 : V} {H : Hp} {Q : VK} (h : P_Lsetup K A x0 H Q) : t_Lsetup K A { nx := fun _ H' => Q .non H', rt := Q } [some x0, none, none, none, none, none] H := by
  obtain ⟨d, l, rfl, D0, k⟩ := h
  unfold t_Lsetup
  walk_at "go"
  rename_i z H1 z0 z1 f1 D1
  refine l_range (lo := 0) (n := (1 + z % 3).toNat) fun Dl H2 nD f2 e2 => ⟨fun i acc H' => ∃ r : List Int, acc = r.map V.int ∧ r.length = i ∧ (∀ y ∈ r, 0 ≤ y ∧ y ≤ 4) ∧ Fr [d] H1 H' ∧ Draws H' d l, ⟨[], rfl, rfl, fun _ q => (nomatch q), f2.of0, D1.fr f2 nin0 nin0⟩, fun i acc H' hi ha ⟨r, e, hr, hm, f, D⟩ => ?_, fun acc H' ha ⟨r, e, hr, hm, f, D⟩ => ?_⟩
  · walk_at "go"
    refine ⟨rfl, ?_⟩
    walk_at "go"
    rename_i y H3 y0 y1 f3 D3
    have nd : Dl ≠ d := (D1.new1 nD).symm
    have nl : Dl ≠ l := (D1.new2 nD).symm
    refine lcY_of (f3.at ha (nin1 nd nin0)) (by rw [e]; walk_at "sz") fun H5 f5 e5 => ⟨r ++ [y % 5], by rw [e, List.map_append]; rfl, by rw [List.length_append, hr]; rfl, fun q hq => ?_, ?_, D3.fr f5 (nin1 nd.symm nin0) (nin1 nl.symm nin0)⟩
    · rcases List.mem_append.mp hq with h | h
      · exact hm q h
      · rw [List.mem_singleton.mp h]; omega
    · exact (f.transL f3).own1 f5 nD
  · subst e
    walk_at "go"
    rename_i rt H3 n3 f3 e3 w H4 w0 w1 f4 D4 pl H5 n5 f5 e5
    have nd : d ≠ pl := D4.new1 n5
    have nl : l ≠ pl := D4.new2 n5
    have er : H5 rt = some (.tup (r.map V.int)) := by walk_at "fact"
    have D5 : Draws H5 d l := D4.fr f5 nin0 nin0
    have npl : H pl = none := by walk_at "none"
    have F5 : Fr [d] H H5 := by walk_at "fr"
    rw [List.length_map]
    clear f1 D1 nD f2 e2 f D ha n3 f3 e3 f4 D4 f5 n5
    have hrl : r.length ≤ 3 ∧ 1 ≤ r.length := by omega
    refine f_range (lo := 0) (n := r.length) (fun i σ H' => ∃ (v4 v5 : Option V) (rows : List (List Int)) (xs : List V), σ = [some (.ref d), some (.ref rt), some (.int (1 + w % 12)), some (.ref pl), v4, v5] ∧ Fr [d] H H' ∧ Draws H' d l ∧ H' rt = some (.tup (r.map V.int)) ∧
      H' pl = some (.lst xs) ∧ DaL H' xs (rows.map rowD) ∧ rows.length = i ∧ ∀ q ∈ rows, q.length = (1 + w % 12).toNat ∧ ∀ y ∈ q, 0 ≤ y ∧ y ≤ 1000000)
      ⟨_, _, [], [], rfl, F5, D5, er, e5, .nil, rfl, fun _ q => (nomatch q)⟩ ?_ ?_
    · rintro i σ H6 hi ⟨v4, v5, rows, xs, rfl, f6, D6, er6, ep6, dr, hri, hq⟩
      have hxl : xs.length ≤ 10 := by rw [dr.len, List.length_map]; omega
      walk_at "go"
      refine l_range (lo := 0) (n := (1 + w % 12).toNat) fun Dl H7 nD f7 e7 => ⟨fun j acc H' => ∃ q : List Int, acc = q.map V.int ∧ q.length = j ∧ (∀ y ∈ q, 0 ≤ y ∧ y ≤ 1000000) ∧ Fr [d] H6 H' ∧ Draws H' d l, ⟨[], rfl, rfl, fun _ q => (nomatch q), f7.of0, D6.fr f7 nin0 nin0⟩, fun j acc H' hj ha ⟨q, e, hr, hm, f, D⟩ => ?_, fun acc H' ha ⟨q, e, hql, hm, f, D⟩ => ?_⟩
      · walk_at "go"
        refine ⟨rfl, ?_⟩
        walk_at "go"
        rename_i y1 H8 y10 y11 f8 D8 y2 H9 y20 y21 f9 D9 t H10 n10 f10 e10 y3 H11 y30 y31 f11 D11
        have hnd : Dl ≠ d := (D6.new1 nD).symm
        have hnl : Dl ≠ l := (D6.new2 nD).symm
        have htd : t ≠ d := (D9.new1 n10).symm
        obtain ⟨v, hv, hmem⟩ := atI_mem (xs := [V.int (y1 % 200), V.int 0, V.int (10 ^ Int.toNat 6), V.int (y2 % 1000001)]) (z := y3 % 4) (by omega) (by show y3 % 4 < 4; omega)
        obtain ⟨y, rfl, hy⟩ : ∃ y, v = .int y ∧ 0 ≤ y ∧ y ≤ 1000000 := by
          rcases List.mem_cons.mp hmem with h | hmem
          · exact ⟨_, h, by omega, by omega⟩
          rcases List.mem_cons.mp hmem with h | hmem
          · exact ⟨_, h, by omega, by omega⟩
          rcases List.mem_cons.mp hmem with h | hmem
          · exact ⟨_, h, by decide, by decide⟩
          · exact ⟨_, List.mem_singleton.mp hmem, by omega, by omega⟩
        refine g_ixL (SqL.of (f11.at e10 (nin1 htd nin0))) hv ?_
        have hD : H11 Dl = some (.lst acc) := f11.at (f10.at0 (f9.at (f8.at ha (nin1 hnd nin0)) (nin1 hnd nin0))) (nin1 hnd nin0)
        refine lcY_of hD (by rw [e]; walk_at "sz") fun H12 f12 e12 => ⟨q ++ [y], by rw [e, List.map_append]; rfl, by rw [List.length_append, hr]; rfl, fun z hz => ?_, ?_, D11.fr f12 (nin1 hnd.symm nin0) (nin1 hnl.symm nin0)⟩
        · rcases List.mem_append.mp hz with h | h
          · exact hm z h
          · rw [List.mem_singleton.mp h]; exact hy
        · exact ((((f.transL f8).transL f9).then0 f10).transL f11).own1 f12 nD
      · subst e
        have hpd : pl ≠ d := nd.symm
        have ep7 : H' pl = some (.lst xs) := f.at ep6 (nin1 hpd nin0)
        have hql2 : q.length ≤ 12 := by omega
        walk_at "go"
        rename_i t H8 n8 f8 e8 H9 f9 e9
        exact ⟨_, _, rows ++ [q], _, rfl, ((f6.transL f).then0 f8).own1 f9 npl, (D.fr f8 nin0 nin0).fr f9 (nin1 nd nin0) (nin1 nl nin0), f9.tup _ _ (f8.tup _ _ (f.tup _ _ er6)), e9,
          by rw [List.map_append]; exact (DaL.frL f9 (DaL.frL f8 (DaL.frL f dr (immL_of fun d hd => by obtain ⟨r, _, rfl⟩ := List.mem_map.mp hd; exact imm_row r)) (immL_of fun d hd => by obtain ⟨r, _, rfl⟩ := List.mem_map.mp hd; exact imm_row r)) (immL_of fun d hd => by obtain ⟨r, _, rfl⟩ := List.mem_map.mp hd; exact imm_row r)).append (.one' (.tup (f9.tup _ _ e8) (by rw [List.length_map]; omega) (.ofInts q))),
          by rw [List.length_append, hri]; rfl, fun z hz => (List.mem_append.mp hz).elim (hq z) fun h => by rw [List.mem_singleton.mp h]; exact ⟨hql, hm⟩⟩
    · rintro σ H6 ⟨v4, v5, rows, xs, rfl, f6, D6, er6, ep6, dr, hri, hq⟩
      have hxl : xs.length ≤ 10 := by rw [dr.len, List.length_map]; omega
      have hpd : pl ≠ d := nd.symm
      walk_at "go"
      rename_i m H7 m0 m1 f7 D7 pt H8 n8 f8 e8 y1 H9 y10 y11 f9 D9 t H10 n10 f10 e10 y2 H11 y20 y21 f11 D11
      have htd : t ≠ d := (D9.new1 n10).symm
      obtain ⟨v, hv, hmem⟩ := atI_mem (xs := [V.int (y1 % 101), V.int 0, V.int 100]) (z := y2 % 3) (by omega) (by show y2 % 3 < 3; omega)
      obtain ⟨y, rfl, hy⟩ : ∃ y, v = .int y ∧ 0 ≤ y ∧ y ≤ 100 := by
        rcases List.mem_cons.mp hmem with h | hmem
        · exact ⟨_, h, by omega, by omega⟩
        rcases List.mem_cons.mp hmem with h | hmem
        · exact ⟨_, h, by omega, by omega⟩
        · exact ⟨_, List.mem_singleton.mp hmem, by decide, by decide⟩
      refine g_ixL (SqL.of (f11.at e10 (nin1 htd nin0))) hv ?_
      walk_at "go"
      rename_i st H12 n12 f12 e12
      have ir : immL (rows.map rowD) = true := immL_of fun d hd => by obtain ⟨r, _, rfl⟩ := List.mem_map.mp hd; exact imm_row r
      have F : Fr [d] H6 H12 := by walk_at "fr"
      refine k _ ⟨r, 1 + w % 12, 1 + m % 4, rows, y⟩ H12 ⟨hrl.2, hrl.1, hm, by show 1 ≤ 1 + w % 12; omega, by show 1 + w % 12 ≤ 12; omega, by show 1 ≤ 1 + m % 4; omega, by show 1 + m % 4 ≤ 4; omega, hri, hq, hy.1, hy.2⟩ (.tup e12 (Nat.le_of_ble_eq_true rfl) ?_) (f6.transL F) (D11.fr f12 nin0 nin0)
      exact .cons (.tup (F.tup _ _ er6) (by rw [List.length_map]; omega) (.ofInts r)) (.cons (.int _) (.cons (.int _) (.cons (.tup (f12.tup _ _ (f11.tup _ _ (f10.tup _ _ (f9.tup _ _ e8)))) (by omega) (DaL.frL F dr ir)) (.one' (.int _)))))
theorem ok_Lsetup {f : Addr} {fd : FuncData} (F : Fun K "_law_setup" "_law_setup" s_Lsetup f fd) (T : Txt K mg A) (c_Ldraw : Cal P w K mg base "_law_draw" 2 ["_law_draws"] (sp_Ldraw K A)) : FnOk P w K mg base CX0 (3) f fd ["_law_draws"] (sp_Lsetup K A) := by
  refine F.ok sc_Lsetup (fun vs H Q E h => ?_) (fun cdv Ar outer s H vs Q E hr h => ⟨t_Lsetup K A, ?_, ?_⟩)
  · obtain ⟨x0, rfl, _⟩ := h
    rfl
  · have hu := hu_of hr
    exact (pss_cons (ps_set (i := 1) sc_Lsetup.nd rfl (Or.inl rfl) (pe_callTy b_tuple (by rfl) T.b_tuple (by decide +kernel) (pa_cons (pe_lc (own := [("_law_k", 4)]) (g := (gName 4)) (tt := tYes) rfl sc_Lsetup.nd (pi_range1 rfl T.b_range (pa_cons (pe_op o_add pe_int (pe_op o_mod (pe_cl c_Ldraw (hr.mono (by first | decide | omega)) (by rfl) (pa_cons (pv 0) pa_nil)) pe_int)) pa_nil)) (blkOk_by (N := ["_law_draws", "_law_rooms", "_law_nights", "_law_prices", "_law_k", "_law_t"]) (sc := defScope s_Lsetup) (own := [("_law_k", 4)]) (by decide +kernel)) (fun _ _ _ _ _ => (pg_name (i := 4) sc_Lsetup.nd rfl (Or.inl rfl))) (fun _ _ _ _ _ => pts_nil) (fun _ _ _ _ _ => (pe_op o_mod (pe_cl c_Ldraw (hr.mono (by first | decide | omega)) (by rfl) (pa_cons (pv 0) pa_nil)) pe_int))) pa_nil)))
    (pss_cons (ps_set (i := 2) sc_Lsetup.nd rfl (Or.inl rfl) (pe_op o_add pe_int (pe_op o_mod (pe_cl c_Ldraw (hr.mono (by first | decide | omega)) (by rfl) (pa_cons (pv 0) pa_nil)) pe_int)))
    (pss_cons (ps_set (i := 3) sc_Lsetup.nd rfl (Or.inl rfl) (pe_lst pa_nil))
    (pss_cons (ps_for PassesOwn.never rfl (pi_range1 rfl T.b_range (pa_cons (pe_callB b_len (by rfl) T.b_len (by decide +kernel) (pa_cons (pv 1) pa_nil)) pa_nil)) (pg_name (i := 4) sc_Lsetup.nd rfl (Or.inl rfl)) (pss_one (ps_expr (pe_bm PySem.F.plainAttrs_list PySem.F.slot_list_append PySem.F.type_list_append mt_append (pv 3) (pa_cons (pe_callTy b_tuple (by rfl) T.b_tuple (by decide +kernel) (pa_cons (pe_lc (own := [("_law_t", 5)]) (g := (gName 5)) (tt := tYes) rfl sc_Lsetup.nd (pi_range1 rfl T.b_range (pa_cons (pv 2) pa_nil)) (blkOk_by (N := ["_law_draws", "_law_rooms", "_law_nights", "_law_prices", "_law_k", "_law_t"]) (sc := defScope s_Lsetup) (own := [("_law_t", 5)]) (by decide +kernel)) (fun _ _ _ _ _ => (pg_name (i := 5) sc_Lsetup.nd rfl (Or.inl rfl))) (fun _ _ _ _ _ => pts_nil) (fun _ _ _ _ _ => (pe_ix ix_list (pe_lst (pa_cons (pe_op o_mod (pe_cl c_Ldraw (hr.mono (by first | decide | omega)) (by rfl) (pa_cons (pv 0) pa_nil)) pe_int) (pa_cons pe_int (pa_cons (pe_op o_pow pe_int pe_int) (pa_cons (pe_op o_mod (pe_cl c_Ldraw (hr.mono (by first | decide | omega)) (by rfl) (pa_cons (pv 0) pa_nil)) pe_int) pa_nil))))) (pe_op o_mod (pe_cl c_Ldraw (hr.mono (by first | decide | omega)) (by rfl) (pa_cons (pv 0) pa_nil)) pe_int) (fun _ _ => rfl)))) pa_nil)) pa_nil)))))
    (pss_one (ps_ret (pe_tup (pa_cons (pv 1) (pa_cons (pv 2) (pa_cons (pe_op o_add pe_int (pe_op o_mod (pe_cl c_Ldraw (hr.mono (by first | decide | omega)) (by rfl) (pa_cons (pv 0) pa_nil)) pe_int)) (pa_cons (pe_callTy b_tuple (by rfl) T.b_tuple (by decide +kernel) (pa_cons (pv 3) pa_nil)) (pa_cons (pe_ix ix_list (pe_lst (pa_cons (pe_op o_mod (pe_cl c_Ldraw (hr.mono (by first | decide | omega)) (by rfl) (pa_cons (pv 0) pa_nil)) pe_int) (pa_cons pe_int (pa_cons pe_int pa_nil)))) (pe_op o_mod (pe_cl c_Ldraw (hr.mono (by first | decide | omega)) (by rfl) (pa_cons (pv 0) pa_nil)) pe_int) (fun _ _ => rfl)) pa_nil))))))))))))
  · obtain ⟨x0, rfl, h⟩ := h
    exact pu_Lsetup T h
def P_Lstay (K : PySem.W.Frag) (A : Ad) (x0 x1 : V) (H : Hp) (Q : VK) : Prop := ∃ (d l : Addr) (S : Setup), x0 = .ref d ∧ Draws H d l ∧ SetupOk S ∧ Da H x1 (setupD S) ∧
  ∀ (v : V) (s : Stay) (H' : Hp), StayOk S s → Da H' v (stayD s) → Fr [d] H H' → Draws H' d l → Q v H'
def sp_Lstay (K : PySem.W.Frag) (A : Ad) : Sp := fun vs H Q _ => ∃ x0 x1, vs = [x0, x1] ∧ P_Lstay K A x0 x1 H Q
theorem c_Lstay {K : PySem.W.Frag} {A : Ad} {x0 x1 : V} {H : Hp} {Q : VK} {E : XK} (h : P_Lstay K A x0 x1 H Q) : sp_Lstay K A [x0, x1] H Q E := ⟨_, _, rfl, h⟩
theorem sc_Lstay : FnScope ["_law_draws", "_law_setup_here", "_law_first", "_law_most"] ["_law_draws", "_law_setup_here"] (defScope s_Lstay) := ⟨rfl, rfl, rfl, by decide +kernel, rfl, by decide +kernel, by decide +kernel⟩
def t_Lstay (K : PySem.W.Frag) (A : Ad) : TS :=
  (tSeq (tAsg (tOp oMod (tCl (sp_Ldraw K A) (tCons (tVar 0) tNil)) (tOp (rIxT K) (tVar 1) (tC (.int 1)))) (gName 2))
    (tSeq (tAsg (tOp oSub (tOp (rIxT K) (tVar 1) (tC (.int 1))) (tVar 2)) (gName 3))
    (tRet (tTup (tCons (tOp oMod (tCl (sp_Ldraw K A) (tCons (tVar 0) tNil)) (tCB (rLenSq K) (tCons (tOp (rIxT K) (tVar 1) (tC (.int 0))) tNil))) (tCons (tVar 2) (tCons (tOp oAdd (tOp oAdd (tVar 2) (tC (.int 1))) (tOp oMod (tCl (sp_Ldraw K A) (tCons (tVar 0) tNil)) (tOp (rIxL K) (tLst (tCons (tVar 3) (tCons (tCB rMin2 (tCons (tVar 3) (tCons (tC (.int 3)) tNil))) tNil))) (tOp oMod (tCl (sp_Ldraw K A) (tCons (tVar 0) tNil)) (tC (.int 2)))))) tNil)))))))
theorem pu_Lstay (T : Txt K mg A) {x0 x1 : V} {H : Hp} {Q : VK} (h : P_Lstay K A x0 x1 H Q) : t_Lstay K A { nx := fun _ H' => Q .non H', rt := Q } [some x0, some x1, none, none] H := by
  obtain ⟨d, l, S, rfl, D0, ok, dS, k⟩ := h
  obtain ⟨s, r, p, ps, sa⟩ := SetAt.of dS
  cases sa.e
  have e0 := sa.t
  have er := sa.r
  have hn := ok.n1
  have hk := ok.k1
  unfold t_Lstay
  walk_at "go"
  rename_i y1 H1 y10 y11 f1 D1 y2 H2 y20 y21 f2 D2 y3 H3 y30 y31 f3 D3 t H4 n4 f4 e4 y4 H5 y40 y41 f5 D5
  have htd : t ≠ d := (D3.new1 n4).symm
  have b0 := Int.emod_nonneg y1 (show S.nights ≠ 0 by omega)
  have b1 := Int.emod_lt_of_pos y1 (show 0 < S.nights by omega)
  have g0 := Int.emod_nonneg y2 (show ((S.rooms.length : Nat) : Int) ≠ 0 by omega)
  have g1 := Int.emod_lt_of_pos y2 (show 0 < ((S.rooms.length : Nat) : Int) by omega)
  obtain ⟨v, hv, hmem⟩ := atI_mem (xs := [V.int (S.nights - y1 % S.nights), V.int (if (3 : Int) < S.nights - y1 % S.nights then 3 else S.nights - y1 % S.nights)]) (z := y4 % 2) (by omega) (by show y4 % 2 < 2; omega)
  obtain ⟨y, rfl, hy⟩ : ∃ y, v = .int y ∧ 0 < y ∧ y ≤ S.nights - y1 % S.nights := by
    rcases List.mem_cons.mp hmem with h | hmem
    · exact ⟨_, h, by omega, by omega⟩
    · exact ⟨_, List.mem_singleton.mp hmem, by split <;> omega, by split <;> omega⟩
  refine g_ixL (SqL.of (f5.at e4 (nin1 htd nin0))) hv ?_
  obtain ⟨hy0, hy1⟩ := hy
  walk_at "go"
  rename_i st H6 n6 f6 e6
  have k0 := Int.emod_nonneg y3 (show y ≠ 0 by omega)
  have k1 := Int.emod_lt_of_pos y3 hy0
  rw [List.length_map] at e6
  exact k _ (y2 % (S.rooms.length : Int), y1 % S.nights, y1 % S.nights + 1 + y3 % y) H6 ⟨g0, g1, b0, by show y1 % S.nights < y1 % S.nights + 1 + y3 % y; omega, by show y1 % S.nights + 1 + y3 % y ≤ S.nights; omega⟩
    (.tup e6 (Nat.le_of_ble_eq_true rfl) (.cons (.int _) (.cons (.int _) (.one' (.int _))))) (by walk_at "fr") (D5.fr f6 nin0 nin0)
theorem ok_Lstay {f : Addr} {fd : FuncData} (F : Fun K "_law_stay" "_law_stay" s_Lstay f fd) (T : Txt K mg A) (c_Ldraw : Cal P w K mg base "_law_draw" 2 ["_law_draws"] (sp_Ldraw K A)) : FnOk P w K mg base CX0 (3) f fd ["_law_draws", "_law_setup_here"] (sp_Lstay K A) := by
  refine F.ok sc_Lstay (fun vs H Q E h => ?_) (fun cdv Ar outer s H vs Q E hr h => ⟨t_Lstay K A, ?_, ?_⟩)
  · obtain ⟨x0, x1, rfl, _⟩ := h
    rfl
  · have hu := hu_of hr
    exact (pss_cons (ps_set (i := 2) sc_Lstay.nd rfl (Or.inl rfl) (pe_op o_mod (pe_cl c_Ldraw (hr.mono (by first | decide | omega)) (by rfl) (pa_cons (pv 0) pa_nil)) (pe_ix ix_tup (pv 1) pe_int (fun _ _ => rfl))))
    (pss_cons (ps_set (i := 3) sc_Lstay.nd rfl (Or.inl rfl) (pe_op o_sub (pe_ix ix_tup (pv 1) pe_int (fun _ _ => rfl)) (pv 2)))
    (pss_one (ps_ret (pe_tup (pa_cons (pe_op o_mod (pe_cl c_Ldraw (hr.mono (by first | decide | omega)) (by rfl) (pa_cons (pv 0) pa_nil)) (pe_callB b_len (by rfl) T.b_len (by decide +kernel) (pa_cons (pe_ix ix_tup (pv 1) pe_int (fun _ _ => rfl)) pa_nil))) (pa_cons (pv 2) (pa_cons (pe_op o_add (pe_op o_add (pv 2) pe_int) (pe_op o_mod (pe_cl c_Ldraw (hr.mono (by first | decide | omega)) (by rfl) (pa_cons (pv 0) pa_nil)) (pe_ix ix_list (pe_lst (pa_cons (pv 3) (pa_cons (pe_callB (b_min2 rfl) (by rfl) T.b_min (by decide +kernel) (pa_cons (pv 3) (pa_cons pe_int pa_nil))) pa_nil))) (pe_op o_mod (pe_cl c_Ldraw (hr.mono (by first | decide | omega)) (by rfl) (pa_cons (pv 0) pa_nil)) pe_int) (fun _ _ => rfl)))) pa_nil))))))))
  · obtain ⟨x0, x1, rfl, h⟩ := h
    exact pu_Lstay T h
theorem stays_alike (ss : List Stay) : PySem.W.AllAlike (ss.map stayD) := fun d hd d' hd' => by
  obtain ⟨s, _, rfl⟩ := List.mem_map.mp hd
  obtain ⟨s', _, rfl⟩ := List.mem_map.mp hd'
  rfl
theorem stays_sortable (ss : List Stay) : PySem.W.Sortable (ss.map stayD) := .inl fun d hd => by
  obtain ⟨s, _, rfl⟩ := List.mem_map.mp hd
  exact ⟨_, _, rfl⟩
theorem stays_depth (ss : List Stay) : ∀ d ∈ ss.map stayD, d.depth ≤ 60 := fun d hd => by
  obtain ⟨s, _, rfl⟩ := List.mem_map.mp hd
  simp [stayD, PyData.depth, PyData.depthAll]
/-- stays in their order -/
def ssrt (ss : List Stay) : List Stay := ss.mergeSort (PySem.W.dataLe false stayD)
theorem ssrt_map (ss : List Stay) : (ssrt ss).map stayD = srt (ss.map stayD) := srt_map stayD ss
theorem ssrt_perm (ss : List Stay) : (ssrt ss).Perm ss := List.mergeSort_perm ss _
theorem ssrt_ssrt (ss : List Stay) : ssrt (ssrt ss) = ssrt ss := List.mergeSort_of_pairwise (PySem.W.sort_pairwise (dle_total stayD) ss)
/-- a party of the setup -/
structure PartyOk (S : Setup) (ss : List Stay) : Prop where
  l1 : 1 ≤ ss.length
  l4 : ss.length ≤ 4
  ok : ∀ s ∈ ss, StayOk S s
  so : ssrt ss = ss

def P_Lparty (K : PySem.W.Frag) (A : Ad) (x0 x1 : V) (H : Hp) (Q : VK) : Prop := ∃ (d l : Addr) (S : Setup), x0 = .ref d ∧ Draws H d l ∧ SetupOk S ∧ Da H x1 (setupD S) ∧
  ∀ (v : V) (ss : List Stay) (H' : Hp), PartyOk S ss → Da H' v (partyD ss) → Fr [d] H H' → Draws H' d l → Q v H'
def sp_Lparty (K : PySem.W.Frag) (A : Ad) : Sp := fun vs H Q _ => ∃ x0 x1, vs = [x0, x1] ∧ P_Lparty K A x0 x1 H Q
theorem c_Lparty {K : PySem.W.Frag} {A : Ad} {x0 x1 : V} {H : Hp} {Q : VK} {E : XK} (h : P_Lparty K A x0 x1 H Q) : sp_Lparty K A [x0, x1] H Q E := ⟨_, _, rfl, h⟩
theorem sc_Lparty : FnScope ["_law_draws", "_law_setup_here", "_law_many", "_law_stays", "_law_k"] ["_law_draws", "_law_setup_here"] (defScope s_Lparty) := ⟨rfl, rfl, rfl, by decide +kernel, rfl, by decide +kernel, by decide +kernel⟩
def t_Lparty (K : PySem.W.Frag) (A : Ad) : TS :=
  (tSeq (tAsg (tOp (rIxL K) (tLst (tCons (tC (.int 1)) (tCons (tC (.int 1)) (tCons (tC (.int 1)) (tCons (tC (.int 2)) (tCons (tC (.int 2)) (tCons (tC (.int 3)) (tCons (tC (.int 4)) tNil)))))))) (tOp oMod (tCl (sp_Ldraw K A) (tCons (tVar 0) tNil)) (tC (.int 7)))) (gName 2))
    (tSeq (tAsg (tLc (iRng1 (tCons (tVar 2) tNil)) (gName 4) tYes (tCl (sp_Lstay K A) (tCons (tVar 0) (tCons (tVar 1) tNil))) [4]) (gName 3))
    (Evl.tCut (tIfS (tAnd (tTest (tOp cGt (tVar 2) (tC (.int 1)))) (tTest (tOp rEq (tOp oMod (tCl (sp_Ldraw K A) (tCons (tVar 0) tNil)) (tC (.int 4))) (tC (.int 0))))) (tAsg (tOp (rIxL K) (tVar 3) (tC (.int 0))) (gSub (tVar 3) (tC (.int 1)) rSetL)) tNext)
    (tRet (tCB (rTupOf K) (tCons (tCB (rSortD K) (tCons (tVar 3) tNil)) tNil))))))
theorem pu_Lparty (T : Txt K mg A) {x0 x1 : V} {H : Hp} {Q : VK} (h : P_Lparty K A x0 x1 H Q) : t_Lparty K A { nx := fun _ H' => Q .non H', rt := Q } [some x0, some x1, none, none, none] H := by
  obtain ⟨d, l, S, rfl, D0, ok, dS, k⟩ := h
  unfold t_Lparty
  walk_at "go"
  rename_i t H1 n1 f1 e1 y H2 y0 y1 f2 D2
  have htd : t ≠ d := ((D0.fr f1 nin0 nin0).ne' e1 (by decide)).symm
  obtain ⟨v, hv, hmem⟩ := atI_mem (xs := [V.int 1, V.int 1, V.int 1, V.int 2, V.int 2, V.int 3, V.int 4]) (z := y % 7) (by omega) (by show y % 7 < 7; omega)
  obtain ⟨m, rfl, hm1, hm4⟩ : ∃ m, v = .int m ∧ 1 ≤ m ∧ m ≤ 4 := by
    simp only [List.mem_cons, List.not_mem_nil, or_false] at hmem
    rcases hmem with h | h | h | h | h | h | h <;> exact ⟨_, h, by decide, by decide⟩
  refine g_ixL (SqL.of (f2.at e1 (nin1 htd nin0))) hv ?_
  have F2 : Fr [d] H H2 := f2.pre0' f1
  have dS2 := Da.frL F2 dS (imm_setup S)
  walk_at "go"
  refine l_range (lo := 0) (n := m.toNat) fun Dl H3 nD f3 e3 => ⟨fun i acc H' => ∃ ss : List Stay, DaL H' acc (ss.map stayD) ∧ ss.length = i ∧ (∀ s ∈ ss, StayOk S s) ∧ Fr [d] H2 H' ∧ Draws H' d l, ⟨[], .nil, rfl, fun _ q => (nomatch q), f3.of0, D2.fr f3 nin0 nin0⟩, fun i acc H' hi ha ⟨ss, ds, hs, hk, f, D⟩ => ?_, fun acc H' ha ⟨ss, ds, hs, hk, f, D⟩ => ?_⟩
  · walk_at "go"
    refine ⟨rfl, ?_⟩
    walk_at "go"
    refine c_Lstay ⟨d, l, S, rfl, D, ok, Da.frL f dS2 (imm_setup S), fun v s H4 so dv f4 D4 => ?_⟩
    have hnd : Dl ≠ d := (D2.new1 nD).symm
    have hnl : Dl ≠ l := (D2.new2 nD).symm
    have hac : acc.length ≤ 100 := by rw [ds.len, List.length_map]; omega
    refine lcY_of (f4.at ha (nin1 hnd nin0)) (by walk_at "sz") fun H5 f5 e5 => ⟨ss ++ [s], ?_, by rw [List.length_append, hs]; rfl, fun z hz => ?_, (f.transL f4).own1 f5 nD, D4.fr f5 (nin1 hnd.symm nin0) (nin1 hnl.symm nin0)⟩
    · rw [List.map_append]
      exact (DaL.frL f5 (DaL.frL f4 ds (imm_stays ss)) (imm_stays ss)).append (.one' (Da.frL f5 dv rfl))
    · rcases List.mem_append.mp hz with h | h
      · exact hk z h
      · rw [List.mem_singleton.mp h]; exact so
  · have hnd : Dl ≠ d := (D2.new1 nD).symm
    have hnl : Dl ≠ l := (D2.new2 nD).symm
    have nDH : H Dl = none := F2.freeL nD (nin1 hnd nin0)
    have hac : acc.length = ss.length := by rw [ds.len, List.length_map]
    walk_at "go"
    refine g_cut (fun σ H' => ∃ (v4 : Option V) (acc : List V) (ss : List Stay), σ = [some (.ref d), some x1, some (.int m), some (.ref Dl), v4] ∧ H' Dl = some (.lst acc) ∧ DaL H' acc (ss.map stayD) ∧ 1 ≤ ss.length ∧ ss.length ≤ 4 ∧ (∀ s ∈ ss, StayOk S s) ∧ Fr [d] H H' ∧ Draws H' d l) ?_ ?_
    · walk_at "go"
      refine g_ite (fun c => ?_) (fun c => ?_)
      · walk_at "go"
        rename_i z H4 z0 z1 f4 D4
        refine g_ite (fun c2 => ?_) (fun c2 => ?_)
        · obtain ⟨w, hw, hw2⟩ := atI_of (xs := acc) (z := 0) (Int.le_refl _) (by omega)
          obtain ⟨s, a, hs0, rfl, _, da⟩ := stays_get ds hw2
          have ha4 : H4 Dl = some (.lst acc) := f4.at ha (nin1 hnd nin0)
          walk_at "go"
          refine g_ixL (SqL.of ha4) hw ?_
          walk_at "go"
          refine g_setL ha4 (j := 1) (by unfold ixN; rw [if_pos (by decide), if_pos (by omega)]; rfl) fun H5 f5 e5 => ?_
          walk_at "go"
          refine ⟨_, _, ss.set 1 s, rfl, e5, ?_, by rw [List.length_set]; omega, by rw [List.length_set]; omega, fun z hz => ?_, ((F2.transL f).transL f4).own1 f5 nDH, D4.fr f5 (nin1 hnd.symm nin0) (nin1 hnl.symm nin0)⟩
          · rw [List.map_set]
            exact (DaL.frL f5 (DaL.frL f4 ds (imm_stays ss)) (imm_stays ss)).set (Da.frL f5 (Da.frL f4 da rfl) rfl)
          · rcases List.mem_or_eq_of_mem_set hz with h | h
            · exact hk z h
            · rw [h]; exact hk s (List.mem_of_getElem? hs0)
        · walk_at "go"
          exact ⟨_, _, ss, rfl, f4.at ha (nin1 hnd nin0), DaL.frL f4 ds (imm_stays ss), by omega, by omega, hk, (F2.transL f).transL f4, D4⟩
      · walk_at "go"
        exact ⟨_, _, ss, rfl, ha, ds, by omega, by omega, hk, F2.transL f, D⟩
    · rintro σ H4 ⟨v4, acc, ss, rfl, ha, ds, h1, h4, hk, F4, D4⟩
      walk_at "go"
      refine g_srt (SqL.of ha) ds (stays_alike ss) (stays_sortable ss) (stays_depth ss) fun p H5 ys n5 f5 e5 dy => ?_
      rw [← ssrt_map] at dy
      have dy5 := DaL.frL f5 dy (imm_stays _)
      have hy : ys.length = ss.length := by rw [dy.len, List.length_map, (ssrt_perm ss).length_eq]
      walk_at "go"
      rename_i q H6 n6 f6 e6
      exact k _ (ssrt ss) H6 ⟨by rw [(ssrt_perm ss).length_eq]; exact h1, by rw [(ssrt_perm ss).length_eq]; exact h4, fun s hs => hk s ((ssrt_perm ss).mem_iff.mp hs), ssrt_ssrt ss⟩ (.tup e6 (by omega) (DaL.frL f6 dy5 (imm_stays _))) ((F4.then0 f5).then0 f6) ((D4.fr f5 nin0 nin0).fr f6 nin0 nin0)
theorem ok_Lparty {f : Addr} {fd : FuncData} (F : Fun K "_law_party" "_law_party" s_Lparty f fd) (T : Txt K mg A) (c_Lstay : Cal P w K mg base "_law_stay" 3 ["_law_draws", "_law_setup_here"] (sp_Lstay K A)) (c_Ldraw : Cal P w K mg base "_law_draw" 2 ["_law_draws"] (sp_Ldraw K A)) : FnOk P w K mg base CX0 (4) f fd ["_law_draws", "_law_setup_here"] (sp_Lparty K A) := by
  refine F.ok sc_Lparty (fun vs H Q E h => ?_) (fun cdv Ar outer s H vs Q E hr h => ⟨t_Lparty K A, ?_, ?_⟩)
  · obtain ⟨x0, x1, rfl, _⟩ := h
    rfl
  · have hu := hu_of hr
    exact (pss_cons (ps_set (i := 2) sc_Lparty.nd rfl (Or.inl rfl) (pe_ix ix_list (pe_lst (pa_cons pe_int (pa_cons pe_int (pa_cons pe_int (pa_cons pe_int (pa_cons pe_int (pa_cons pe_int (pa_cons pe_int pa_nil)))))))) (pe_op o_mod (pe_cl c_Ldraw (hr.mono (by first | decide | omega)) (by rfl) (pa_cons (pv 0) pa_nil)) pe_int) (fun _ _ => rfl)))
    (pss_cons (ps_setLc (i := 3) (own := [("_law_k", 4)]) (g := (gName 4)) (tt := tYes) rfl sc_Lparty.nd rfl rfl (sw_true rfl rfl rfl (by decide +kernel)) (pi_range1 rfl T.b_range (pa_cons (pv 2) pa_nil)) (blkOk_by (N := ["_law_draws", "_law_setup_here", "_law_many", "_law_stays", "_law_k"]) (sc := defScope s_Lparty) (own := [("_law_k", 4)]) (by decide +kernel)) (fun _ _ _ _ _ => (pg_name (i := 4) sc_Lparty.nd rfl (Or.inl rfl))) (fun _ _ _ _ _ => pts_nil) (fun _ _ _ _ _ => (pe_cl c_Lstay (hr.mono (by first | decide | omega)) (by rfl) (pa_cons (pv 0) (pa_cons (pv 1) pa_nil)))))
    (Evl.pss_cut (ps_if (PW.pt (pw_and (pt_cmpR c_gt (pv 2) pe_int (nomark _)) (pw_and1 (pt_cmpR op_eq (pe_op o_mod (pe_cl c_Ldraw (hr.mono (by first | decide | omega)) (by rfl) (pa_cons (pv 0) pa_nil)) pe_int) pe_int (nomark _))))) (pss_one (ps_asg (pe_ix ix_list (pv 3) pe_int (fun _ _ => rfl)) (pg_sub (pv 3) pe_int set_list))) pss_nil)
    (pss_one (ps_ret (pe_callTy b_tuple (by rfl) T.b_tuple (by decide +kernel) (pa_cons (pe_callB (b_sortD hr.units) (by rfl) T.b_sorted (by decide +kernel) (pa_cons (pv 3) pa_nil)) pa_nil)))))))
  · obtain ⟨x0, x1, rfl, h⟩ := h
    exact pu_Lparty T h

/-! ### what is a setup -/
def isI : PyData → Bool
  | .int _ => true
  | _ => false
def isF (lo hi : Int) : PyData → Bool
  | .int i => decide (lo ≤ i) && decide (i ≤ hi)
  | _ => false
def rowOk (n : Int) : PyData → Bool
  | .tuple r => decide ((r.length : Int) = n) && r.all (isF 0 1000000)
  | _ => false
def pricesOk (k n : Int) : PyData → Bool
  | .tuple ps => decide ((ps.length : Int) = k) && ps.all (rowOk n)
  | _ => false
def intOf : PyData → Int
  | .int i => i
  | _ => 0
def roomsOk : PyData → Bool
  | .tuple rs => decide (1 ≤ (rs.length : Int)) && decide ((rs.length : Int) ≤ 3) && rs.all (isF 0 4)
  | _ => false
def lenOf : PyData → Int
  | .tuple rs => rs.length
  | _ => 0
def isSet : PyData → Bool
  | .tuple [r, n, s, p, h] => roomsOk r && (isF 1 12 n && isF 1 4 s) && (pricesOk (lenOf r) (intOf n) p && isF 0 100 h)
  | _ => false
theorem isF_int {lo hi : Int} {d : PyData} (h : isF lo hi d = true) : ∃ i, d = .int i ∧ lo ≤ i ∧ i ≤ hi := by
  cases d with
  | int i =>
    rw [isF, Bool.and_eq_true] at h
    exact ⟨i, rfl, of_decide_eq_true h.1, of_decide_eq_true h.2⟩
  | _ => cases h

/-- the type of data -/
def tyD : PyData → String
  | .none => "NoneType"
  | .bool _ => "bool"
  | .int _ => "int"
  | .str _ => "str"
  | .list _ => "list"
  | .tuple _ => "tuple"
  | .dict _ => "dict"
theorem Da.ty {K : PySem.W.Frag} {H : Hp} {v : V} {d : PyData} (h : Da H v d) : TyX K H v (.type (tyD d)) := by
  cases h with
  | non => exact TyX.base TyOf.non
  | bl b => exact TyX.base (TyOf.bl _)
  | int i => exact TyX.base (TyOf.int _)
  | str x => exact TyX.base (TyOf.str _)
  | lst e z r => exact TyX.base (TyOf.lst e)
  | tup e z r => exact TyX.base (TyOf.tup e)
def isTupD : PyData → Bool
  | .tuple _ => true
  | _ => false
theorem kit_tup {d : PyData} (h : ∀ m, d ≠ .dict m) : kitB (tyD d) "tuple" = some (isTupD d) := by
  cases d with
  | none => exact kb_NoneType_tuple
  | bool b => exact kb_bool_tuple
  | int i => exact kb_int_tuple
  | str s => exact kb_str_tuple
  | list l => exact kb_list_tuple
  | tuple l => exact kb_tuple_tuple
  | dict m => exact absurd rfl (h m)
theorem nodict {H : Hp} {v : V} {d : PyData} (h : Da H v d) : ∀ m, d ≠ .dict m := fun m e => by subst e; cases h
theorem g_isTup {K : PySem.W.Frag} {H : Hp} {Q : VK} {v : V} {d : PyData} (h : Da H v d) (q : Q (.bl (isTupD d)) H) : rIsi K [v, .ty "tuple"] H Q := g_isi (Da.ty h) (kit_tup (nodict h)) q
def P_is_integer (K : PySem.W.Frag) (A : Ad) (x0 : V) (H : Hp) (Q : VK) : Prop := ∃ d, Da H x0 d ∧ Q (.bl (isI d)) H
def sp_is_integer (K : PySem.W.Frag) (A : Ad) : Sp := fun vs H Q _ => ∃ x0, vs = [x0] ∧ P_is_integer K A x0 H Q
theorem c_is_integer {K : PySem.W.Frag} {A : Ad} {x0 : V} {H : Hp} {Q : VK} {E : XK} (h : P_is_integer K A x0 H Q) : sp_is_integer K A [x0] H Q E := ⟨_, rfl, h⟩
theorem sc_is_integer : FnScope ["value"] ["value"] (defScope s_is_integer) := ⟨rfl, rfl, rfl, by decide +kernel, rfl, by decide +kernel, by decide +kernel⟩
def t_is_integer (K : PySem.W.Frag) (A : Ad) : TS :=
  (tRet (tAndV (tCB (rIsi K) (tCons (tVar 0) (tCons (tC (.ty "int")) tNil))) (tNotV (tCB (rIsi K) (tCons (tVar 0) (tCons (tC (.ty "bool")) tNil))))))
theorem pu_is_integer (T : Txt K mg A) {x0 : V} {H : Hp} {Q : VK} (h : P_is_integer K A x0 H Q) : t_is_integer K A { nx := fun _ H' => Q .non H', rt := Q } [some x0] H := by
  obtain ⟨d, dd, k⟩ := h
  unfold t_is_integer
  cases dd with
  | non => walk_at "go"; exact k
  | bl b => walk_at "go"; exact k
  | int i => walk_at "go"; exact k
  | str x => walk_at "go"; exact k
  | lst e z r => walk_at "go"; exact k
  | tup e z r => walk_at "go"; exact k
theorem ok_is_integer {f : Addr} {fd : FuncData} (F : Fun K "is_integer" "is_integer" s_is_integer f fd) (T : Txt K mg A)  : FnOk P w K mg base CX0 (1) f fd ["value"] (sp_is_integer K A) := by
  refine F.ok sc_is_integer (fun vs H Q E h => ?_) (fun cdv Ar outer s H vs Q E hr h => ⟨t_is_integer K A, ?_, ?_⟩)
  · obtain ⟨x0, rfl, _⟩ := h
    rfl
  · have hu := hu_of hr
    exact (pss_one (ps_ret (pe_and (pe_callB call_isi (by rfl) T.b_isinstance (by decide +kernel) (pa_cons (pv 0) (pa_cons (pe_bltn (by rfl) T.b_int (by decide +kernel) (v := .ty "int") rfl) pa_nil))) (pe_one (pe_not (pe_callB call_isi (by rfl) T.b_isinstance (by decide +kernel) (pa_cons (pv 0) (pa_cons (pe_bltn (by rfl) T.b_bool (by decide +kernel) (v := .ty "bool") rfl) pa_nil))))))))
  · obtain ⟨x0, rfl, h⟩ := h
    exact pu_is_integer T h
def P_is_from (K : PySem.W.Frag) (A : Ad) (x0 x1 x2 : V) (H : Hp) (Q : VK) : Prop := ∃ (d : PyData) (lo hi : Int), Da H x0 d ∧ x1 = .int lo ∧ x2 = .int hi ∧ Q (.bl (isF lo hi d)) H
def sp_is_from (K : PySem.W.Frag) (A : Ad) : Sp := fun vs H Q _ => ∃ x0 x1 x2, vs = [x0, x1, x2] ∧ P_is_from K A x0 x1 x2 H Q
theorem c_is_from {K : PySem.W.Frag} {A : Ad} {x0 x1 x2 : V} {H : Hp} {Q : VK} {E : XK} (h : P_is_from K A x0 x1 x2 H Q) : sp_is_from K A [x0, x1, x2] H Q E := ⟨_, _, _, rfl, h⟩
theorem sc_is_from : FnScope ["value", "least", "most"] ["value", "least", "most"] (defScope s_is_from) := ⟨rfl, rfl, rfl, by decide +kernel, rfl, by decide +kernel, by decide +kernel⟩
def t_is_from (K : PySem.W.Frag) (A : Ad) : TS :=
  (tRet (tAndV (tCl (sp_is_integer K A) (tCons (tVar 0) tNil)) (tChain cLe cLe (tVar 1) (tVar 0) (tVar 2))))
theorem pu_is_from (T : Txt K mg A) {x0 x1 x2 : V} {H : Hp} {Q : VK} (h : P_is_from K A x0 x1 x2 H Q) : t_is_from K A { nx := fun _ H' => Q .non H', rt := Q } [some x0, some x1, some x2] H := by
  obtain ⟨d, lo, hi, dd, rfl, rfl, k⟩ := h
  unfold t_is_from
  walk_at "go"
  refine c_is_integer ⟨d, dd, ?_⟩
  cases dd with
  | int i =>
    walk_at "go"
    refine g_iteT ?_
    walk_at "go"
    have e : isF lo hi (.int i) = (decide (lo ≤ i) && decide (i ≤ hi)) := rfl
    rw [e] at k
    by_cases h : lo ≤ i
    · rw [decide_eq_true h, Bool.true_and] at k
      refine g_ite (fun _ => ?_) (fun z => absurd h z)
      walk_at "go"
      exact k
    · rw [decide_eq_false h, Bool.false_and] at k
      refine g_ite (fun z => absurd z h) (fun _ => ?_)
      exact k
  | _ =>
    walk_at "go"
    exact k
theorem ok_is_from {f : Addr} {fd : FuncData} (F : Fun K "is_from" "is_from" s_is_from f fd) (T : Txt K mg A) (c_is_integer : Cal P w K mg base "is_integer" 1 ["value"] (sp_is_integer K A)) : FnOk P w K mg base CX0 (2) f fd ["value", "least", "most"] (sp_is_from K A) := by
  refine F.ok sc_is_from (fun vs H Q E h => ?_) (fun cdv Ar outer s H vs Q E hr h => ⟨t_is_from K A, ?_, ?_⟩)
  · obtain ⟨x0, x1, x2, rfl, _⟩ := h
    rfl
  · have hu := hu_of hr
    exact (pss_one (ps_ret (pe_and (pe_cl c_is_integer (hr.mono (by first | decide | omega)) (by rfl) (pa_cons (pv 0) pa_nil)) (pe_one (pe_chain c_le c_le (pv 1) (pv 0) (pv 2))))))
  · obtain ⟨x0, x1, x2, rfl, h⟩ := h
    exact pu_is_from T h
theorem isF_imp {lo hi : Int} {H : Hp} {v : V} {d : PyData} (h : Da H v d) (q : isF lo hi d = true) : ∃ i, v = .int i ∧ d = .int i ∧ lo ≤ i ∧ i ≤ hi := by
  obtain ⟨i, rfl, h1, h2⟩ := isF_int q
  exact ⟨i, h.int1, rfl, h1, h2⟩
/-- all([is_from(x, lo, hi) for x in xs]) as booleans -/
theorem all_snoc {α : Type} {f : α → Bool} {l : List α} {i : Nat} {x : α} (h : l[i]? = some x) : (l.take (i + 1)).map f = (l.take i).map f ++ [f x] := by rw [take_more h, List.map_append]; rfl
theorem all_id {α : Type} (f : α → Bool) (l : List α) : (l.map f).all id = l.all f := by rw [List.all_map]; rfl

/-! ### what is a deed -/
def isSt (k n : Int) : PyData → Bool
  | .tuple [a, b, c] => isF 0 (k - 1) a && isF 0 (n - 1) b && isF (intOf b + 1) n c
  | _ => false
def isPty (k n : Int) : PyData → Bool
  | .tuple ds => decide (1 ≤ (ds.length : Int)) && decide ((ds.length : Int) ≤ 4) && ds.all (isSt k n) && PyData.eqv (.list ds) (.list (srt ds))
  | _ => false
def dWish (k n : Int) : List PyData → Bool
  | [p] => isPty k n p
  | _ => false
def dCan : List PyData → Bool
  | [z] => isI z && decide (0 ≤ intOf z)
  | _ => false
def dChg (k n : Int) : List PyData → Bool
  | [z, p] => isI z && decide (0 ≤ intOf z) && isPty k n p
  | _ => false
def isDd (k n : Int) : PyData → Bool
  | .tuple (h :: r) =>
    if PyData.eqv h (.str "wish") = true then dWish k n r
    else if PyData.eqv h (.str "cancel") = true then dCan r
    else if PyData.eqv h (.str "change") = true then dChg k n r
    else false
  | _ => false
theorem dWish_len {k n : Int} {r : List PyData} (h : ¬ (r.length = 1)) : dWish k n r = false := by
  match r, h with
  | [], _ => rfl
  | [_], h => exact absurd rfl h
  | _ :: _ :: _, _ => rfl
theorem dCan_len {r : List PyData} (h : ¬ (r.length = 1)) : dCan r = false := by
  match r, h with
  | [], _ => rfl
  | [_], h => exact absurd rfl h
  | _ :: _ :: _, _ => rfl
theorem dChg_len {k n : Int} {r : List PyData} (h : ¬ (r.length = 2)) : dChg k n r = false := by
  match r, h with
  | [], _ => rfl
  | [_], _ => rfl
  | [_, _], h => exact absurd rfl h
  | _ :: _ :: _ :: _, _ => rfl
theorem isI_int {H : Hp} {v : V} {d : PyData} (h : Da H v d) (q : isI d = true) : ∃ i, v = .int i ∧ d = .int i := by
  cases d with
  | int i => exact ⟨i, h.int1, rfl⟩
  | _ => cases q
def HdOk : PyData → Prop
  | .tuple (h :: _) => SeqAt.shaped h = true
  | _ => True
theorem isSt_stay {k n : Int} {d : PyData} (h : isSt k n d = true) : ∃ s : Stay, d = stayD s := by
  unfold isSt at h
  split at h
  · rename_i a b c
    simp only [Bool.and_eq_true] at h
    obtain ⟨i, rfl, _, _⟩ := isF_int h.1.1
    obtain ⟨j, rfl, _, _⟩ := isF_int h.1.2
    obtain ⟨l, rfl, _, _⟩ := isF_int h.2
    exact ⟨(i, j, l), rfl⟩
  · cases h
theorem all_stays {k n : Int} : ∀ {ds : List PyData}, ds.all (isSt k n) = true → ∃ ss : List Stay, ds = ss.map stayD
  | [], _ => ⟨[], rfl⟩
  | d :: ds, h => by
    rw [List.all_cons, Bool.and_eq_true] at h
    obtain ⟨s, rfl⟩ := isSt_stay h.1
    obtain ⟨ss, rfl⟩ := all_stays h.2
    exact ⟨s :: ss, rfl⟩
theorem canLay_stays : ∀ ss : List Stay, PyData.canLayAll0 (ss.map stayD) = true
  | [] => rfl
  | s :: ss => by
    rw [List.map_cons, PyData.canLayAll0, canLay_stays ss]; rfl
theorem depth_stays : ∀ ss : List Stay, PyData.depthAll (ss.map stayD) ≤ 3
  | [] => by simp [PyData.depthAll]
  | s :: ss => by
    have := depth_stays ss
    have h : (stayD s).depth ≤ 3 := by simp [stayD, PyData.depth, PyData.depthAll]
    simp only [List.map_cons, PyData.depthAll]; omega
theorem stays_shaped (ss : List Stay) : SeqAt.shaped (.list (ss.map stayD)) = true := by
  have := depth_stays ss
  have h : PyData.depth (.list (ss.map stayD)) ≤ 64 := by simp only [PyData.depth]; omega
  rw [SeqAt.shaped, PyData.canLay0, canLay_stays, decide_eq_true h]; rfl
theorem gtup3 {H : Hp} {xs : List V} {ds : List PyData} (h : DaL H xs ds) (hl : (xs.length : Int) = 3) : ∃ a b c r n s, xs = [a, b, c] ∧ ds = [r, n, s] ∧ Da H a r ∧ Da H b n ∧ Da H c s := by
  cases h with
  | nil => cases hl
  | cons h1 h => cases h with
    | nil => cases hl
    | cons h2 h => cases h with
      | nil => cases hl
      | cons h3 h => cases h with
        | nil => exact ⟨_, _, _, _, _, _, rfl, rfl, h1, h2, h3⟩
        | cons h4 h => simp only [List.length_cons] at hl; omega
theorem atI0 {v : V} {vs : List V} : atI (v :: vs) 0 = some v := by
  have : (v :: vs)[0]? = some v := rfl
  exact atI_nat this
theorem gtup1 {H : Hp} {xs : List V} {ds : List PyData} (h : DaL H xs ds) (hl : ds.length = 1) : ∃ a r, xs = [a] ∧ ds = [r] ∧ Da H a r := by
  cases h with
  | nil => cases hl
  | cons h1 h => cases h with
    | nil => exact ⟨_, _, rfl, rfl, h1⟩
    | cons h2 h => simp only [List.length_cons] at hl; omega
theorem g_neDD {K : PySem.W.Frag} {H : Hp} {Q : VK} {x y : V} {d e : PyData} (dx : Da H x d) (dy : Da H y e) (s1 : SeqAt.shaped d = true) (s2 : SeqAt.shaped e = true) (q : Q (.bl (!PyData.eqv d e)) H) : rNeD K x y H Q := ⟨d, e, Da.dp _ _ dx, Da.dp _ _ dy, s1, s2, q⟩
theorem gtup2 {H : Hp} {xs : List V} {ds : List PyData} (h : DaL H xs ds) (hl : (xs.length : Int) = 2) : ∃ a b r n, xs = [a, b] ∧ ds = [r, n] ∧ Da H a r ∧ Da H b n := by
  cases h with
  | nil => cases hl
  | cons h1 h => cases h with
    | nil => cases hl
    | cons h2 h => cases h with
      | nil => exact ⟨_, _, _, _, rfl, rfl, h1, h2⟩
      | cons h3 h => simp only [List.length_cons] at hl; omega
theorem isSt_len {k n : Int} {ds : List PyData} (h : ¬ (ds.length : Int) = 3) : isSt k n (.tuple ds) = false := by
  match ds, h with
  | [], _ => rfl
  | [_], _ => rfl
  | [_, _], _ => rfl
  | [_, _, _], h => exact absurd rfl h
  | _ :: _ :: _ :: _ :: _, _ => rfl
def P_is_stay (K : PySem.W.Frag) (A : Ad) (x0 x1 x2 : V) (H : Hp) (Q : VK) : Prop := ∃ (d : PyData) (k n : Int), Da H x0 d ∧ x1 = .int k ∧ x2 = .int n ∧ Q (.bl (isSt k n d)) H
def sp_is_stay (K : PySem.W.Frag) (A : Ad) : Sp := fun vs H Q _ => ∃ x0 x1 x2, vs = [x0, x1, x2] ∧ P_is_stay K A x0 x1 x2 H Q
theorem c_is_stay {K : PySem.W.Frag} {A : Ad} {x0 x1 x2 : V} {H : Hp} {Q : VK} {E : XK} (h : P_is_stay K A x0 x1 x2 H Q) : sp_is_stay K A [x0, x1, x2] H Q E := ⟨_, _, _, rfl, h⟩
theorem sc_is_stay : FnScope ["stay", "kinds", "nights"] ["stay", "kinds", "nights"] (defScope s_is_stay) := ⟨rfl, rfl, rfl, by decide +kernel, rfl, by decide +kernel, by decide +kernel⟩
def t_is_stay (K : PySem.W.Frag) (A : Ad) : TS :=
  (tSeq (tIfS (tOr (tNot (tB (tCB (rIsi K) (tCons (tVar 0) (tCons (tC (.ty "tuple")) tNil))))) (tTest (tOp rNe (tCB (rLenSq K) (tCons (tVar 0) tNil)) (tC (.int 3))))) (tRet (tC (.bl false))) tNext)
    (tSeq (tIfS (tOr (tNot (tB (tCl (sp_is_from K A) (tCons (tOp (rIxT K) (tVar 0) (tC (.int 0))) (tCons (tC (.int 0)) (tCons (tOp oSub (tVar 1) (tC (.int 1))) tNil)))))) (tNot (tB (tCl (sp_is_from K A) (tCons (tOp (rIxT K) (tVar 0) (tC (.int 1))) (tCons (tC (.int 0)) (tCons (tOp oSub (tVar 2) (tC (.int 1))) tNil))))))) (tRet (tC (.bl false))) tNext)
    (tRet (tCl (sp_is_from K A) (tCons (tOp (rIxT K) (tVar 0) (tC (.int 2))) (tCons (tOp oAdd (tOp (rIxT K) (tVar 0) (tC (.int 1))) (tC (.int 1))) (tCons (tVar 2) tNil)))))))
theorem pu_is_stay (T : Txt K mg A) {x0 x1 x2 : V} {H : Hp} {Q : VK} (h : P_is_stay K A x0 x1 x2 H Q) : t_is_stay K A { nx := fun _ H' => Q .non H', rt := Q } [some x0, some x1, some x2] H := by
  obtain ⟨d, kk, n, dd, rfl, rfl, k⟩ := h
  unfold t_is_stay
  walk_at "go"
  refine g_isTup dd ?_
  walk_at "go"
  refine g_iteNB (fun h => ?_) (fun h => ?_)
  · walk_at "go"
    cases d with
    | tuple _ => cases h
    | _ => exact k
  cases d with
  | tuple ds =>
    obtain ⟨a, xs, rfl, ea, hz, dx⟩ := dd.tup1
    have hxl : xs.length = ds.length := dx.len
    walk_at "go"
    refine g_iteN (fun hn => ?_) (fun hn => ?_)
    · walk_at "go"
      rw [isSt_len (by rw [← hxl]; exact hn)] at k
      exact k
    obtain ⟨v1, v2, v3, r, n2, s, rfl, rfl, d1, d2, d3⟩ := gtup3 dx hn
    have is : isSt kk n (.tuple [r, n2, s]) = (isF 0 (kk - 1) r && isF 0 (n - 1) n2 && isF (intOf n2 + 1) n s) := rfl
    rw [is] at k
    walk_at "go"
    refine c_is_from ⟨r, 0, kk - 1, d1, rfl, rfl, ?_⟩
    walk_at "go"
    refine g_iteNB (fun c4 => ?_) (fun c4 => ?_)
    · walk_at "go"
      rw [c4] at k
      exact k
    walk_at "go"
    refine c_is_from ⟨n2, 0, n - 1, d2, rfl, rfl, ?_⟩
    walk_at "go"
    refine g_iteNB (fun c5 => ?_) (fun c5 => ?_)
    · walk_at "go"
      rw [c5, Bool.and_false] at k
      exact k
    obtain ⟨nn, rfl, rfl, _, _⟩ := isF_imp d2 c5
    rw [c4, c5] at k
    walk_at "go"
    exact c_is_from ⟨s, nn + 1, n, d3, rfl, rfl, k⟩
  | _ => cases h
theorem ok_is_stay {f : Addr} {fd : FuncData} (F : Fun K "is_stay" "is_stay" s_is_stay f fd) (T : Txt K mg A) (c_is_from : Cal P w K mg base "is_from" 2 ["value", "least", "most"] (sp_is_from K A)) : FnOk P w K mg base CX0 (3) f fd ["stay", "kinds", "nights"] (sp_is_stay K A) := by
  refine F.ok sc_is_stay (fun vs H Q E h => ?_) (fun cdv Ar outer s H vs Q E hr h => ⟨t_is_stay K A, ?_, ?_⟩)
  · obtain ⟨x0, x1, x2, rfl, _⟩ := h
    rfl
  · have hu := hu_of hr
    exact (pss_cons (ps_if (PW.pt (pw_or (pt_not (pt_val (pe_callB call_isi (by rfl) T.b_isinstance (by decide +kernel) (pa_cons (pv 0) (pa_cons (pe_bltn (by rfl) T.b_tuple (by decide +kernel) (v := .ty "tuple") rfl) pa_nil))))) (pw_or1 (pt_cmpR op_ne (pe_callB b_len (by rfl) T.b_len (by decide +kernel) (pa_cons (pv 0) pa_nil)) pe_int (nomark _))))) (pss_one (ps_ret pe_bl)) pss_nil)
    (pss_cons (ps_if (PW.pt (pw_or (pt_not (pt_val (pe_cl c_is_from (hr.mono (by first | decide | omega)) (by rfl) (pa_cons (pe_ix ix_tup (pv 0) pe_int (fun _ _ => rfl)) (pa_cons pe_int (pa_cons (pe_op o_sub (pv 1) pe_int) pa_nil)))))) (pw_or1 (pt_not (pt_val (pe_cl c_is_from (hr.mono (by first | decide | omega)) (by rfl) (pa_cons (pe_ix ix_tup (pv 0) pe_int (fun _ _ => rfl)) (pa_cons pe_int (pa_cons (pe_op o_sub (pv 2) pe_int) pa_nil))))))))) (pss_one (ps_ret pe_bl)) pss_nil)
    (pss_one (ps_ret (pe_cl c_is_from (hr.mono (by first | decide | omega)) (by rfl) (pa_cons (pe_ix ix_tup (pv 0) pe_int (fun _ _ => rfl)) (pa_cons (pe_op o_add (pe_ix ix_tup (pv 0) pe_int (fun _ _ => rfl)) pe_int) (pa_cons (pv 2) pa_nil))))))))
  · obtain ⟨x0, x1, x2, rfl, h⟩ := h
    exact pu_is_stay T h
def P_is_party (K : PySem.W.Frag) (A : Ad) (x0 x1 x2 : V) (H : Hp) (Q : VK) : Prop := ∃ (d : PyData) (k n : Int), Da H x0 d ∧ x1 = .int k ∧ x2 = .int n ∧ ∀ H', Fr [] H H' → Q (.bl (isPty k n d)) H'
def sp_is_party (K : PySem.W.Frag) (A : Ad) : Sp := fun vs H Q _ => ∃ x0 x1 x2, vs = [x0, x1, x2] ∧ P_is_party K A x0 x1 x2 H Q
theorem c_is_party {K : PySem.W.Frag} {A : Ad} {x0 x1 x2 : V} {H : Hp} {Q : VK} {E : XK} (h : P_is_party K A x0 x1 x2 H Q) : sp_is_party K A [x0, x1, x2] H Q E := ⟨_, _, _, rfl, h⟩
theorem sc_is_party : FnScope ["party", "kinds", "nights", "stay"] ["party", "kinds", "nights"] (defScope s_is_party) := ⟨rfl, rfl, rfl, by decide +kernel, rfl, by decide +kernel, by decide +kernel⟩
def t_is_party (K : PySem.W.Frag) (A : Ad) : TS :=
  (tSeq (tIfS (tOr (tNot (tB (tCB (rIsi K) (tCons (tVar 0) (tCons (tC (.ty "tuple")) tNil))))) (tNot (tChainT cLe cLe (tC (.int 1)) (tCB (rLenSq K) (tCons (tVar 0) tNil)) (tC (.int 4))))) (tRet (tC (.bl false))) tNext)
    (tSeq (tIfS (tNot (tB (tCB (rAll K) (tCons (tLc (iTup K (tVar 0)) (gName 3) tYes (tCl (sp_is_stay K A) (tCons (tVar 3) (tCons (tVar 1) (tCons (tVar 2) tNil)))) [3]) tNil)))) (tRet (tC (.bl false))) tNext)
    (tRet (tOp (rEqD K) (tCB (rListOf K) (tCons (tVar 0) tNil)) (tCB (rSortDU K) (tCons (tVar 0) tNil))))))
theorem pu_is_party (T : Txt K mg A) {x0 x1 x2 : V} {H : Hp} {Q : VK} (h : P_is_party K A x0 x1 x2 H Q) : t_is_party K A { nx := fun _ H' => Q .non H', rt := Q } [some x0, some x1, some x2, none] H := by
  obtain ⟨d, kk, n, dd, rfl, rfl, k⟩ := h
  unfold t_is_party
  walk_at "go"
  refine g_isTup dd ?_
  walk_at "go"
  refine g_iteNB (fun h => ?_) (fun h => ?_)
  · walk_at "go"
    have := k H Fr.refl
    cases d with
    | tuple _ => cases h
    | _ => exact this
  cases d with
  | tuple ds =>
    obtain ⟨a, ys, rfl, eb, hz2, dy⟩ := dd.tup1
    have hyl : ys.length = ds.length := dy.len
    have is : isPty kk n (.tuple ds) = (decide (1 ≤ (ds.length : Int)) && decide ((ds.length : Int) ≤ 4) && ds.all (isSt kk n) && PyData.eqv (.list ds) (.list (srt ds))) := rfl
    rw [is] at k
    clear is
    walk_at "go"
    rw [hyl]
    refine g_ite (fun c1 => ?_) (fun c1 => ?_)
    · walk_at "go"
      refine g_iteN (fun c2 => ?_) (fun c2 => ?_)
      · walk_at "go"
        have := k H Fr.refl
        rw [decide_eq_false c2, Bool.and_false, Bool.false_and, Bool.false_and] at this
        exact this
      · walk_at "go"
        refine l_tup (xs := ys) fun Dl H2 nD f2 e2 => ⟨fun j acc H' => acc = ((ds.take j).map (isSt kk n)).map V.bl ∧ Fr [] H H', ⟨rfl, f2⟩, fun j acc H' q => SqT.of (q.2.tup _ _ eb), fun j y acc H' hy ha ⟨ea', f⟩ => ?_, fun acc H1 ha ⟨ea', f⟩ => ?_⟩
        · obtain ⟨e', he', de'⟩ := (DaL.fr0 f _ _ dy).get hy
          walk_at "go"
          refine ⟨rfl, ?_⟩
          walk_at "go"
          refine c_is_stay ⟨e', kk, n, de', rfl, rfl, ?_⟩
          have hal : acc.length ≤ 1000000 := by
            have := (List.getElem?_eq_some_iff.mp hy).1
            rw [ea', List.length_map, List.length_map, List.length_take]; omega
          refine lcY_of ha (szM hal) fun H3 f3 e3 => ⟨?_, f.own1 f3 nD⟩
          rw [ea', all_snoc he', List.map_append]; rfl
        · rw [hyl, List.take_length] at ea'
          walk_at "go"
          rw [ea'] at ha
          refine g_all (SqL.of ha) ?_
          rw [all_id]
          walk_at "go"
          refine g_iteNB (fun c3 => ?_) (fun c3 => ?_)
          · walk_at "go"
            have := k H1 f
            rw [c3, Bool.and_false, Bool.false_and] at this
            exact this
          · have eb1 := f.tup _ _ eb
            have dy1 := DaL.fr0 f _ _ dy
            rw [c3, decide_eq_true c1, decide_eq_true c2] at k
            obtain ⟨ss, rfl⟩ := all_stays c3
            rw [List.length_map] at c1 c2 hyl
            clear f2 e2 nD dd eb dy ha ea'
            walk_at "go"
            rename_i p2 H2 n2 f2 e2
            have eb2 := f2.tup _ _ eb1
            have dy2 := DaL.frL f2 dy1 (imm_stays ss)
            clear eb1 dy1
            have hyl2 : ys.length ≤ 1000000 := by omega
            refine g_srtU (SqT.of eb2) dy2 (stays_alike ss) (stays_sortable ss) (stays_depth ss) fun p3 H3 ys3 n3 f3 e3 dy3 => ?_
            have hy3 : ys3.length = ss.length := by rw [dy3.len, (srt_perm _).length_eq, List.length_map]
            have F3 : Fr [] H H3 := (f.then0 f2).then0 f3
            rw [← ssrt_map] at dy3
            have dy3 := DaL.frL f3 dy3 (imm_stays _)
            have i3 : Da H3 (.ref p3) (.list ((ssrt ss).map stayD)) := .lst e3 (by omega) dy3
            have kk := k H3 F3
            rw [← ssrt_map] at kk
            exact g_eqDD (.lst (f3.at0 e2) hyl2 (DaL.frL f3 dy2 (imm_stays ss))) i3 (stays_shaped _) (stays_shaped _) kk
    · walk_at "go"
      have := k H Fr.refl
      rw [decide_eq_false c1, Bool.false_and, Bool.false_and, Bool.false_and] at this
      exact this
  | _ => cases h
theorem ok_is_party {f : Addr} {fd : FuncData} (F : Fun K "is_party" "is_party" s_is_party f fd) (T : Txt K mg A) (c_is_stay : Cal P w K mg base "is_stay" 3 ["stay", "kinds", "nights"] (sp_is_stay K A)) : FnOk P w K mg base CX0 (4) f fd ["party", "kinds", "nights"] (sp_is_party K A) := by
  refine F.ok sc_is_party (fun vs H Q E h => ?_) (fun cdv Ar outer s H vs Q E hr h => ⟨t_is_party K A, ?_, ?_⟩)
  · obtain ⟨x0, x1, x2, rfl, _⟩ := h
    rfl
  · have hu := hu_of hr
    exact (pss_cons (ps_if (PW.pt (pw_or (pt_not (pt_val (pe_callB call_isi (by rfl) T.b_isinstance (by decide +kernel) (pa_cons (pv 0) (pa_cons (pe_bltn (by rfl) T.b_tuple (by decide +kernel) (v := .ty "tuple") rfl) pa_nil))))) (pw_or1 (pt_not (pt_chain c_le c_le pe_int (pe_callB b_len (by rfl) T.b_len (by decide +kernel) (pa_cons (pv 0) pa_nil)) (pe_gint T.g_PARTY (by rfl))))))) (pss_one (ps_ret pe_bl)) pss_nil)
    (pss_cons (ps_if (pt_not (pt_val (pe_callB (cr_all rfl) (by rfl) T.b_all (by decide +kernel) (pa_cons (pe_lc (own := [("stay", 3)]) (g := (gName 3)) (tt := tYes) rfl sc_is_party.nd (pi_tup (pv 0)) (blkOk_by (N := ["party", "kinds", "nights", "stay"]) (sc := defScope s_is_party) (own := [("stay", 3)]) (by decide +kernel)) (fun _ _ _ _ _ => (pg_name (i := 3) sc_is_party.nd rfl (Or.inl rfl))) (fun _ _ _ _ _ => pts_nil) (fun _ _ _ _ _ => (pe_cl c_is_stay (hr.mono (by first | decide | omega)) (by rfl) (pa_cons (pv 3) (pa_cons (pv 1) (pa_cons (pv 2) pa_nil)))))) pa_nil)))) (pss_one (ps_ret pe_bl)) pss_nil)
    (pss_one (ps_ret (pe_cmpR (op_eqD hr.units) (pe_callTy b_list (by rfl) T.b_list (by decide +kernel) (pa_cons (pv 0) pa_nil)) (pe_callB (b_sortDU hr.units) (by rfl) T.b_sorted (by decide +kernel) (pa_cons (pv 0) pa_nil)) (nomark _))))))
  · obtain ⟨x0, x1, x2, rfl, h⟩ := h
    exact pu_is_party T h
theorem eqv_str {d : PyData} {x : Str} (h : PyData.eqv d (.str x) = true) : d = .str x := by
  cases d with
  | str y =>
    have h : (y == x) = true := by simpa [PyData.eqv] using h
    rw [beq_iff_eq] at h
    rw [h]
  | _ => simp [PyData.eqv] at h
def P_is_deed (K : PySem.W.Frag) (A : Ad) (x0 x1 x2 : V) (H : Hp) (Q : VK) : Prop := ∃ (d : PyData) (k n : Int), Da H x0 d ∧ HdOk d ∧ x1 = .int k ∧ x2 = .int n ∧ ∀ H', Fr [] H H' → Q (.bl (isDd k n d)) H'
def sp_is_deed (K : PySem.W.Frag) (A : Ad) : Sp := fun vs H Q _ => ∃ x0 x1 x2, vs = [x0, x1, x2] ∧ P_is_deed K A x0 x1 x2 H Q
theorem c_is_deed {K : PySem.W.Frag} {A : Ad} {x0 x1 x2 : V} {H : Hp} {Q : VK} {E : XK} (h : P_is_deed K A x0 x1 x2 H Q) : sp_is_deed K A [x0, x1, x2] H Q E := ⟨_, _, _, rfl, h⟩
theorem sc_is_deed : FnScope ["deed", "kinds", "nights"] ["deed", "kinds", "nights"] (defScope s_is_deed) := ⟨rfl, rfl, rfl, by decide +kernel, rfl, by decide +kernel, by decide +kernel⟩
def t_is_deed (K : PySem.W.Frag) (A : Ad) : TS :=
  (tSeq (tIfS (tOr (tNot (tB (tCB (rIsi K) (tCons (tVar 0) (tCons (tC (.ty "tuple")) tNil))))) (tNot (tTr K (tVar 0)))) (tRet (tC (.bl false))) tNext)
    (tSeq (tIfS (tTest (tOp (rEqD K) (tOp (rIxT K) (tVar 0) (tC (.int 0))) (tC (.str "wish")))) (tRet (tAndV (tOp rEq (tCB (rLenSq K) (tCons (tVar 0) tNil)) (tC (.int 2))) (tCl (sp_is_party K A) (tCons (tOp (rIxT K) (tVar 0) (tC (.int 1))) (tCons (tVar 1) (tCons (tVar 2) tNil)))))) tNext)
    (tSeq (tIfS (tTest (tOp (rEqD K) (tOp (rIxT K) (tVar 0) (tC (.int 0))) (tC (.str "cancel")))) (tRet (tAndV (tOp rEq (tCB (rLenSq K) (tCons (tVar 0) tNil)) (tC (.int 2))) (tAndV (tCl (sp_is_integer K A) (tCons (tOp (rIxT K) (tVar 0) (tC (.int 1))) tNil)) (tOp cGe (tOp (rIxT K) (tVar 0) (tC (.int 1))) (tC (.int 0)))))) tNext)
    (tSeq (tIfS (tOr (tTest (tOp (rNeD K) (tOp (rIxT K) (tVar 0) (tC (.int 0))) (tC (.str "change")))) (tTest (tOp rNe (tCB (rLenSq K) (tCons (tVar 0) tNil)) (tC (.int 3))))) (tRet (tC (.bl false))) tNext)
    (tRet (tAndV (tCl (sp_is_integer K A) (tCons (tOp (rIxT K) (tVar 0) (tC (.int 1))) tNil)) (tAndV (tOp cGe (tOp (rIxT K) (tVar 0) (tC (.int 1))) (tC (.int 0))) (tCl (sp_is_party K A) (tCons (tOp (rIxT K) (tVar 0) (tC (.int 2))) (tCons (tVar 1) (tCons (tVar 2) tNil)))))))))))
theorem pu_is_deed (T : Txt K mg A) {x0 x1 x2 : V} {H : Hp} {Q : VK} (h : P_is_deed K A x0 x1 x2 H Q) : t_is_deed K A { nx := fun _ H' => Q .non H', rt := Q } [some x0, some x1, some x2] H := by
  obtain ⟨d, kk, n, dd, hok, rfl, rfl, k⟩ := h
  unfold t_is_deed
  walk_at "go"
  refine g_isTup dd ?_
  walk_at "go"
  refine g_iteNB (fun h => ?_) (fun h => ?_)
  · walk_at "go"
    have := k H Fr.refl
    cases d with
    | tuple _ => cases h
    | _ => exact this
  cases d with
  | tuple ds =>
    obtain ⟨a, ys, rfl, eb, hz2, dy⟩ := dd.tup1
    walk_at "go"
    refine ⟨!ys.isEmpty, .inr (.inl ⟨ys, SqT.of eb, rfl⟩), ?_⟩
    cases dy with
    | nil =>
      refine g_iteNB (fun _ => ?_) (fun z => nomatch z)
      walk_at "go"
      exact k H Fr.refl
    | @cons v vs h0 r d0 dr =>
      have hvl : vs.length = r.length := dr.len
      have is : isDd kk n (.tuple (h0 :: r)) = (if PyData.eqv h0 (.str "wish") = true then dWish kk n r else if PyData.eqv h0 (.str "cancel") = true then dCan r else if PyData.eqv h0 (.str "change") = true then dChg kk n r else false) := rfl
      rw [is] at k
      refine g_iteNB (fun z => nomatch z) fun _ => ?_
      walk_at "go"
      refine g_ixT (SqT.of eb) atI0 ?_
      walk_at "go"
      refine g_eqDD d0 (.str _) hok (by decide +kernel) ?_
      walk_at "go"
      refine g_iteB (fun c => ?_) (fun c => ?_)
      · rw [if_pos c] at k
        walk_at "go"
        rw [List.length_cons, hvl]
        refine g_ite (fun hn => ?_) (fun hn => ?_)
        · obtain ⟨p, dp, rfl, rfl, d1⟩ := gtup1 dr (by omega)
          walk_at "go"
          exact c_is_party ⟨dp, kk, n, d1, rfl, rfl, fun H' f => k H' f⟩
        · have := k H Fr.refl
          rw [dWish_len (by omega)] at this
          exact this
      · rw [if_neg (by rw [c]; decide)] at k
        walk_at "go"
        refine g_ixT (SqT.of eb) atI0 ?_
        walk_at "go"
        refine g_eqDD d0 (.str _) hok (by decide +kernel) ?_
        walk_at "go"
        refine g_iteB (fun c => ?_) (fun c => ?_)
        · rw [if_pos c] at k
          walk_at "go"
          rw [List.length_cons, hvl]
          refine g_ite (fun hn => ?_) (fun hn => ?_)
          · obtain ⟨p, dp, rfl, rfl, d1⟩ := gtup1 dr (by omega)
            have k := k H Fr.refl
            have k : Q (.bl (isI dp && decide (0 ≤ intOf dp))) H := k
            walk_at "go"
            refine c_is_integer ⟨dp, d1, ?_⟩
            walk_at "go"
            refine g_iteB (fun c2 => ?_) (fun c2 => ?_)
            · obtain ⟨i, rfl, rfl⟩ := isI_int d1 c2
              walk_at "go"
              exact k
            · rw [c2] at k
              exact k
          · have := k H Fr.refl
            rw [dCan_len (by omega)] at this
            exact this
        · rw [if_neg (by rw [c]; decide)] at k
          walk_at "go"
          refine g_ixT (SqT.of eb) atI0 ?_
          walk_at "go"
          refine g_neDD d0 (.str _) hok (by decide +kernel) ?_
          walk_at "go"
          refine g_iteNB (fun c => ?_) (fun c => ?_)
          · rw [if_neg (by rw [c]; decide)] at k
            walk_at "go"
            exact k H Fr.refl
          · rw [if_pos c] at k
            walk_at "go"
            rw [List.length_cons, hvl]
            refine g_iteN (fun hn => ?_) (fun hn => ?_)
            · walk_at "go"
              have := k H Fr.refl
              rw [dChg_len (by omega)] at this
              exact this
            · obtain ⟨p, p2, dp, dp2, rfl, rfl, d1, d2⟩ := gtup2 dr (by rw [hvl]; omega)
              have k : ∀ H', Fr [] H H' → Q (.bl (isI dp && decide (0 ≤ intOf dp) && isPty kk n dp2)) H' := k
              walk_at "go"
              refine c_is_integer ⟨dp, d1, ?_⟩
              walk_at "go"
              refine g_iteB (fun c2 => ?_) (fun c2 => ?_)
              · obtain ⟨i, rfl, rfl⟩ := isI_int d1 c2
                have k : ∀ H', Fr [] H H' → Q (.bl (decide (0 ≤ i) && isPty kk n dp2)) H' := k
                walk_at "go"
                refine g_ite (fun c3 => ?_) (fun c3 => ?_)
                · walk_at "go"
                  refine c_is_party ⟨dp2, kk, n, d2, rfl, rfl, fun H' f => ?_⟩
                  have := k H' f
                  rw [decide_eq_true c3] at this
                  exact this
                · have := k H Fr.refl
                  rw [decide_eq_false c3] at this
                  exact this
              · have := k H Fr.refl
                rw [c2] at this
                exact this
  | _ => cases h
theorem ok_is_deed {f : Addr} {fd : FuncData} (F : Fun K "is_deed" "is_deed" s_is_deed f fd) (T : Txt K mg A) (c_is_integer : Cal P w K mg base "is_integer" 1 ["value"] (sp_is_integer K A)) (c_is_party : Cal P w K mg base "is_party" 4 ["party", "kinds", "nights"] (sp_is_party K A)) : FnOk P w K mg base CX0 (5) f fd ["deed", "kinds", "nights"] (sp_is_deed K A) := by
  refine F.ok sc_is_deed (fun vs H Q E h => ?_) (fun cdv Ar outer s H vs Q E hr h => ⟨t_is_deed K A, ?_, ?_⟩)
  · obtain ⟨x0, x1, x2, rfl, _⟩ := h
    rfl
  · have hu := hu_of hr
    exact (pss_cons (ps_if (PW.pt (pw_or (pt_not (pt_val (pe_callB call_isi (by rfl) T.b_isinstance (by decide +kernel) (pa_cons (pv 0) (pa_cons (pe_bltn (by rfl) T.b_tuple (by decide +kernel) (v := .ty "tuple") rfl) pa_nil))))) (pw_or1 (pt_not (pt_tr (pv 0) (by intro _; rfl)))))) (pss_one (ps_ret pe_bl)) pss_nil)
    (pss_cons (ps_if (pt_cmpR (op_eqD hr.units) (pe_ix ix_tup (pv 0) pe_int (fun _ _ => rfl)) pe_str (nomark _)) (pss_one (ps_ret (pe_and (pe_cmpR op_eq (pe_callB b_len (by rfl) T.b_len (by decide +kernel) (pa_cons (pv 0) pa_nil)) pe_int (nomark _)) (pe_one (pe_cl c_is_party (hr.mono (by first | decide | omega)) (by rfl) (pa_cons (pe_ix ix_tup (pv 0) pe_int (fun _ _ => rfl)) (pa_cons (pv 1) (pa_cons (pv 2) pa_nil)))))))) pss_nil)
    (pss_cons (ps_if (pt_cmpR (op_eqD hr.units) (pe_ix ix_tup (pv 0) pe_int (fun _ _ => rfl)) pe_str (nomark _)) (pss_one (ps_ret (pe_and (pe_cmpR op_eq (pe_callB b_len (by rfl) T.b_len (by decide +kernel) (pa_cons (pv 0) pa_nil)) pe_int (nomark _)) (pe_and (pe_cl c_is_integer (hr.mono (by first | decide | omega)) (by rfl) (pa_cons (pe_ix ix_tup (pv 0) pe_int (fun _ _ => rfl)) pa_nil)) (pe_one (pe_cmpR c_ge (pe_ix ix_tup (pv 0) pe_int (fun _ _ => rfl)) pe_int (nomark _))))))) pss_nil)
    (pss_cons (ps_if (PW.pt (pw_or (pt_cmpR (op_neD hr.units) (pe_ix ix_tup (pv 0) pe_int (fun _ _ => rfl)) pe_str (nomark _)) (pw_or1 (pt_cmpR op_ne (pe_callB b_len (by rfl) T.b_len (by decide +kernel) (pa_cons (pv 0) pa_nil)) pe_int (nomark _))))) (pss_one (ps_ret pe_bl)) pss_nil)
    (pss_one (ps_ret (pe_and (pe_cl c_is_integer (hr.mono (by first | decide | omega)) (by rfl) (pa_cons (pe_ix ix_tup (pv 0) pe_int (fun _ _ => rfl)) pa_nil)) (pe_and (pe_cmpR c_ge (pe_ix ix_tup (pv 0) pe_int (fun _ _ => rfl)) pe_int (nomark _)) (pe_one (pe_cl c_is_party (hr.mono (by first | decide | omega)) (by rfl) (pa_cons (pe_ix ix_tup (pv 0) pe_int (fun _ _ => rfl)) (pa_cons (pv 1) (pa_cons (pv 2) pa_nil)))))))))))))
  · obtain ⟨x0, x1, x2, rfl, h⟩ := h
    exact pu_is_deed T h
def P_check_deed (K : PySem.W.Frag) (A : Ad) (x0 x1 : V) (H : Hp) (Q : VK) (E : XK) : Prop := ∃ (S : Setup) (d : PyData), Da H x0 (setupD S) ∧ Da H x1 d ∧ HdOk d ∧
  (isDd S.rooms.length S.nights d = true → ∀ H', Fr [] H H' → Q .non H') ∧ (isDd S.rooms.length S.nights d = false → ∀ H', Fr [] H H' → E (.ref A.BadDeed) none H')
def sp_check_deed (K : PySem.W.Frag) (A : Ad) : Sp := fun vs H Q E => ∃ x0 x1, vs = [x0, x1] ∧ P_check_deed K A x0 x1 H Q E
theorem c_check_deed {K : PySem.W.Frag} {A : Ad} {x0 x1 : V} {H : Hp} {Q : VK} {E : XK} (h : P_check_deed K A x0 x1 H Q E) : sp_check_deed K A [x0, x1] H Q E := ⟨_, _, rfl, h⟩
theorem sc_check_deed : FnScope ["setup", "deed"] ["setup", "deed"] (defScope s_check_deed) := ⟨rfl, rfl, rfl, by decide +kernel, rfl, by decide +kernel, by decide +kernel⟩
def t_check_deed (K : PySem.W.Frag) (A : Ad) (E : XK) : TS :=
  (tIfS (tNot (tB (tCl (sp_is_deed K A) (tCons (tVar 1) (tCons (tCB (rLenSq K) (tCons (tOp (rIxT K) (tVar 0) (tC (.int 0))) tNil)) (tCons (tOp (rIxT K) (tVar 0) (tC (.int 1))) tNil)))))) (tRz A.BadDeed (fun cls d _ H => E cls d H)) tNext)
theorem pu_check_deed (T : Txt K mg A) {x0 x1 : V} {H : Hp} {Q : VK} {E : XK} (h : P_check_deed K A x0 x1 H Q E) : t_check_deed K A E { nx := fun _ H' => Q .non H', rt := Q } [some x0, some x1] H := by
  obtain ⟨S, d, dS, dd, hok, kq, ke⟩ := h
  obtain ⟨s, r, p, ps, sa⟩ := SetAt.of dS
  cases sa.e
  have e0 := sa.t
  have er := sa.r
  unfold t_check_deed
  walk_at "go"
  have hrl : ((S.rooms.map V.int).length : Int) = (S.rooms.length : Int) := by rw [List.length_map]
  rw [hrl]
  refine c_is_deed ⟨d, S.rooms.length, S.nights, dd, hok, rfl, rfl, fun H' f => ?_⟩
  walk_at "go"
  refine g_iteNB (fun c => ?_) (fun c => ?_)
  · walk_at "go"
    exact ke c H' f
  · walk_at "go"
    exact kq c H' f
theorem ok_check_deed {f : Addr} {fd : FuncData} (F : Fun K "check_deed" "check_deed" s_check_deed f fd) (T : Txt K mg A) (c_is_deed : Cal P w K mg base "is_deed" 5 ["deed", "kinds", "nights"] (sp_is_deed K A)) : FnOk P w K mg base (L2.CX P w) (6) f fd ["setup", "deed"] (sp_check_deed K A) := by
  refine F.okX sc_check_deed (fun vs H Q E h => ?_) (fun cdv Ar outer s H vs Q E hr h => ⟨t_check_deed K A E, ?_, ?_⟩)
  · obtain ⟨x0, x1, rfl, _⟩ := h
    rfl
  · have hu := hu_of hr
    exact (pss_one (ps_if (pt_not (pt_val (pe_cl c_is_deed (hr.mono (by first | decide | omega)) (by rfl) (pa_cons (pv 1) (pa_cons (pe_callB b_len (by rfl) T.b_len (by decide +kernel) (pa_cons (pe_ix ix_tup (pv 0) pe_int (fun _ _ => rfl)) pa_nil)) (pa_cons (pe_ix ix_tup (pv 0) pe_int (fun _ _ => rfl)) pa_nil)))))) (pss_one (ps_rz rfl (takes_of rfl rfl rfl rfl) T.x_BadDeed (by rfl))) pss_nil))
  · obtain ⟨x0, x1, rfl, h⟩ := h
    exact pu_check_deed T h

/-! ### data that stay as they are while the draws go on -/
def KD (d : Addr) (H : Hp) (v : V) (e : PyData) : Prop := ∀ H', Fr [d] H H' → Da H' v e
def KDL (d : Addr) (H : Hp) (xs : List V) (ds : List PyData) : Prop := ∀ H', Fr [d] H H' → DaL H' xs ds
section
variable {d a : Addr} {H H' : Hp} {v : V} {e : PyData} {xs : List V} {ds : List PyData}
theorem KD.imm (h : Da H v e) (i : imm e = true) : KD d H v e := fun _ f => Da.frL f h i
theorem KD.da (h : KD d H v e) : Da H v e := h H Fr.refl.of0
theorem KD.fr (h : KD d H v e) (f : Fr [d] H H') : KD d H' v e := fun _ g => h _ (f.transL g)
theorem KD.fr0 (h : KD d H v e) (f : Fr [] H H') : KD d H' v e := h.fr f.of0
theorem KD.int (i : Int) : KD d H (.int i) (.int i) := fun _ _ => .int i
theorem KD.non : KD d H .non .none := fun _ _ => .non
theorem KD.bl (b : Bool) : KD d H (.bl b) (.bool b) := fun _ _ => .bl b
theorem KD.str (s : Str) : KD d H (.str s) (.str s) := fun _ _ => .str s
theorem KDL.nil : KDL d H [] [] := fun _ _ => .nil
theorem KDL.cons (h : KD d H v e) (t : KDL d H xs ds) : KDL d H (v :: xs) (e :: ds) := fun _ f => .cons (h _ f) (t _ f)
theorem KDL.fr (h : KDL d H xs ds) (f : Fr [d] H H') : KDL d H' xs ds := fun _ g => h _ (f.transL g)
theorem KD.tup (e : H a = some (.tup xs)) (hl : xs.length ≤ 1000000) (t : KDL d H xs ds) : KD d H (.ref a) (.tuple ds) := fun _ f => .tup (f.tup _ _ e) hl (t _ f)
theorem KD.lst (e : H a = some (.lst xs)) (ne : a ≠ d) (hl : xs.length ≤ 1000000) (t : KDL d H xs ds) : KD d H (.ref a) (.list ds) := fun _ f => .lst (f.at e (nin1 ne nin0)) hl (t _ f)
theorem KDL.app {ys : List V} {es : List PyData} (h : KDL d H xs ds) (t : KDL d H ys es) : KDL d H (xs ++ ys) (ds ++ es) := fun _ f => (h _ f).append (t _ f)
theorem KDL.rep (h : KD d H v e) : ∀ n : Nat, KDL d H (List.replicate n v) (List.replicate n e)
  | 0 => .nil
  | n + 1 => .cons h (KDL.rep h n)
theorem DaL.takeN {H : Hp} : ∀ {xs : List V} {ds : List PyData} (n : Nat), DaL H xs ds → DaL H (xs.take n) (ds.take n)
  | _, _, 0, _ => .nil
  | _, _, n + 1, .nil => .nil
  | _, _, n + 1, .cons h t => .cons h (DaL.takeN n t)
theorem KDL.take (h : KDL d H xs ds) (n : Nat) : KDL d H (xs.take n) (ds.take n) := fun _ f => DaL.takeN n (h _ f)
end
/-! ### what is no stay, no party -/
theorem isF_iff {lo hi i : Int} : isF lo hi (.int i) = true ↔ lo ≤ i ∧ i ≤ hi := by
  show (decide _ && decide _) = true ↔ _
  rw [Bool.and_eq_true, decide_eq_true_eq, decide_eq_true_eq]
theorem isSt3 {k n a b c : Int} : isSt k n (.tuple [.int a, .int b, .int c]) = true ↔ (0 ≤ a ∧ a ≤ k - 1) ∧ (0 ≤ b ∧ b ≤ n - 1) ∧ b + 1 ≤ c ∧ c ≤ n := by
  show (isF _ _ _ && isF _ _ _ && isF (b + 1) n (.int c)) = true ↔ _
  rw [Bool.and_eq_true, Bool.and_eq_true, isF_iff, isF_iff, isF_iff, and_assoc]
theorem st_no {k n a b c : Int} (h : ¬ ((0 ≤ a ∧ a ≤ k - 1) ∧ (0 ≤ b ∧ b ≤ n - 1) ∧ b + 1 ≤ c ∧ c ≤ n)) : isSt k n (.tuple [.int a, .int b, .int c]) = false := Bool.eq_false_iff.mpr fun z => h (isSt3.mp z)
theorem pty_no {k n : Int} {ds : List PyData} {e : PyData} (he : e ∈ ds) (h : isSt k n e = false) : isPty k n (.tuple ds) = false := by
  have : ds.all (isSt k n) = false := List.all_eq_false.mpr ⟨e, he, by rw [h]; decide⟩
  show (decide _ && decide _ && _ && _) = false
  rw [this, Bool.and_false, Bool.false_and]
theorem pty_len {k n : Int} {ds : List PyData} (h : ¬ (1 ≤ ds.length ∧ ds.length ≤ 4)) : isPty k n (.tuple ds) = false := by
  show (decide _ && decide _ && _ && _) = false
  by_cases z : 1 ≤ ds.length
  · rw [decide_eq_false (show ¬ (ds.length : Int) ≤ 4 by omega), Bool.and_false, Bool.false_and, Bool.false_and]
  · rw [decide_eq_false (show ¬ 1 ≤ (ds.length : Int) by omega), Bool.false_and, Bool.false_and, Bool.false_and]
theorem eqv_stay (s t : Stay) : PyData.eqv (stayD s) (stayD t) = true ↔ s = t := by
  simp [stayD, PyData.eqv, PyData.eqvAll, Prod.ext_iff]
theorem eqv_stays : ∀ (ss ts : List Stay), PyData.eqvAll (ss.map stayD) (ts.map stayD) = true ↔ ss = ts
  | [], [] => by simp [PyData.eqvAll]
  | [], _ :: _ => by simp [PyData.eqvAll]
  | _ :: _, [] => by simp [PyData.eqvAll]
  | s :: ss, t :: ts => by
    rw [List.map_cons, List.map_cons, PyData.eqvAll, Bool.and_eq_true, eqv_stay, eqv_stays ss ts, List.cons.injEq]
theorem eqv_list (ss ts : List Stay) : PyData.eqv (.list (ss.map stayD)) (.list (ts.map stayD)) = true ↔ ss = ts := by
  rw [PyData.eqv]; exact eqv_stays ss ts
theorem pty_ok {S : Setup} {ss : List Stay} (h : PartyOk S ss) : isPty S.rooms.length S.nights (partyD ss) = true := by
  have h1 := h.l1
  have h4 := h.l4
  have ha : (ss.map stayD).all (isSt S.rooms.length S.nights) = true := List.all_eq_true.mpr fun x hx => by
    obtain ⟨s, hs, rfl⟩ := List.mem_map.mp hx
    obtain ⟨q1, q2, q3, q4, q5⟩ := h.ok s hs
    exact isSt3.mpr ⟨⟨q1, by omega⟩, ⟨q3, by omega⟩, by omega, q5⟩
  show (decide _ && decide _ && _ && _) = true
  rw [ha, ← ssrt_map, h.so, (eqv_list ss ss).mpr rfl, decide_eq_true (by rw [List.length_map]; omega), decide_eq_true (by rw [List.length_map]; omega)]; rfl
theorem rep_ok {S : Setup} {s : Stay} {n : Nat} (h : StayOk S s) (h1 : 1 ≤ n) (h4 : n ≤ 4) : PartyOk S (List.replicate n s) :=
  ⟨by rw [List.length_replicate]; exact h1, by rw [List.length_replicate]; exact h4, fun t ht => by rw [List.eq_of_mem_replicate ht]; exact h, by
    have := (ssrt_perm (List.replicate n s))
    exact List.perm_replicate.mp this⟩
theorem le_no {k n : Int} (h1 : 1 ≤ k) (h2 : 1 ≤ n) (h : ¬ (k = 1 ∧ n = 1)) : PySem.W.dataLe false stayD (k - 1, 0, n) (0, 0, 1) = false := by
  show (!PyProof.Rows.lexLt PyProof.Rows.itemOrd (PySem.W.keyToks (stayD (0, 0, 1))) (PySem.W.keyToks (stayD (k - 1, 0, n)))) = false
  by_cases z : 0 < k - 1
  · simp [stayD, PySem.W.keyToks, PySem.W.keyToksAll, PyProof.Rows.lexLt, PyProof.Rows.itemLt, z]
    intro; omega
  · have e : k - 1 = 0 := by omega
    have z2 : 1 < n := by omega
    simp [stayD, PySem.W.keyToks, PySem.W.keyToksAll, PyProof.Rows.lexLt, PyProof.Rows.itemLt, e, z2]
theorem turned_no {k n : Int} (h1 : 1 ≤ k) (h2 : 1 ≤ n) (h : ¬ (k = 1 ∧ n = 1)) {m : Nat} (hm : 1 ≤ m) : isPty k n (.tuple ((List.replicate m ((k - 1, 0, n) : Stay) ++ [(0, 0, 1)]).map stayD)) = false := by
  refine Bool.eq_false_iff.mpr fun z => ?_
  have z : (decide _ && decide _ && _ && PyData.eqv (.list _) (.list (srt _))) = true := z
  rw [Bool.and_eq_true] at z
  have z2 := z.2
  rw [← ssrt_map, eqv_list] at z2
  have pw : (ssrt (List.replicate m ((k - 1, 0, n) : Stay) ++ [(0, 0, 1)])).Pairwise (fun a b => PySem.W.dataLe false stayD a b = true) := PySem.W.sort_pairwise (dle_total stayD) _
  rw [← z2] at pw
  obtain ⟨m', rfl⟩ : ∃ m', m = m' + 1 := ⟨m - 1, by omega⟩
  rw [List.replicate_succ, List.cons_append] at pw
  have := (List.pairwise_cons.mp pw).1 (0, 0, 1) (List.mem_append_right _ List.mem_cons_self)
  rw [le_no h1 h2 h] at this
  cases this
/-- the list of stays that are none -/
theorem ltS {xs : List PyData} (h : ∀ x ∈ xs, Lt 41 0 x) (hl : xs.length ≤ 4) : Lt 200 1 (.tuple xs) := (Lt.tup (n := 4) h hl).mono (by decide) (by decide)
theorem ltI {z : Int} (h : -100 ≤ z ∧ z ≤ 100) : Lt 41 0 (.int z) := Lt.int (by omega)
theorem lt0 {e : PyData} (h : e = .none ∨ e = .bool false ∨ e = .str "0") : Lt 41 0 e := by
  rcases h with rfl | rfl | rfl <;> exact ⟨by decide +kernel, by decide +kernel, by decide +kernel⟩
theorem ltS2 {a b : PyData} (h1 : Lt 41 0 a) (h2 : Lt 41 0 b) : Lt 200 1 (.tuple [a, b]) := ltS (fun x hx => by
    simp only [List.mem_cons, List.not_mem_nil, or_false] at hx
    rcases hx with rfl | rfl <;> assumption) (Nat.le_of_ble_eq_true rfl)
theorem ltS3 {a b c : PyData} (h1 : Lt 41 0 a) (h2 : Lt 41 0 b) (h3 : Lt 41 0 c) : Lt 200 1 (.tuple [a, b, c]) := ltS (fun x hx => by
    simp only [List.mem_cons, List.not_mem_nil, or_false] at hx
    rcases hx with rfl | rfl | rfl <;> assumption) (Nat.le_of_ble_eq_true rfl)
theorem ltS4 {a b c d : PyData} (h1 : Lt 41 0 a) (h2 : Lt 41 0 b) (h3 : Lt 41 0 c) (h4 : Lt 41 0 d) : Lt 200 1 (.tuple [a, b, c, d]) := ltS (fun x hx => by
    simp only [List.mem_cons, List.not_mem_nil, or_false] at hx
    rcases hx with rfl | rfl | rfl | rfl <;> assumption) (Nat.le_of_ble_eq_true rfl)
theorem ltL3 {a b c : PyData} (h1 : Lt 41 0 a) (h2 : Lt 41 0 b) (h3 : Lt 41 0 c) : Lt 200 1 (.list [a, b, c]) := (Lt.lst (n := 3) (fun x hx => by
    simp only [List.mem_cons, List.not_mem_nil, or_false] at hx
    rcases hx with rfl | rfl | rfl <;> assumption) (Nat.le_of_ble_eq_true rfl)).mono (by decide) (by decide)
/-- a value that is kept and is no stay -/
def NoSt (d : Addr) (k n : Int) (H : Hp) (v : V) : Prop := ∃ e, KD d H v e ∧ isSt k n e = false ∧ Lt 200 1 e
theorem NoSt.of {d a : Addr} {H : Hp} {k n : Int} {x y z : V} {p q r : PyData} (e : H a = some (.tup [x, y, z])) (hx : KD d H x p) (hy : KD d H y q) (hz : KD d H z r) (h : isSt k n (.tuple [p, q, r]) = false) (l1 : Lt 41 0 p) (l2 : Lt 41 0 q) (l3 : Lt 41 0 r) : NoSt d k n H (.ref a) :=
  ⟨_, .tup e (Nat.le_of_ble_eq_true rfl) (.cons hx (.cons hy (.cons hz .nil))), h, ltS3 l1 l2 l3⟩
theorem NoSt.three {d a : Addr} {H : Hp} {k n x y z : Int} (e : H a = some (.tup [.int x, .int y, .int z])) (hx : -100 ≤ x ∧ x ≤ 100) (hy : -100 ≤ y ∧ y ≤ 100) (hz : -100 ≤ z ∧ z ≤ 100) (h : ¬ ((0 ≤ x ∧ x ≤ k - 1) ∧ (0 ≤ y ∧ y ≤ n - 1) ∧ y + 1 ≤ z ∧ z ≤ n)) : NoSt d k n H (.ref a) :=
  .of e (.int x) (.int y) (.int z) (st_no h) (ltI hx) (ltI hy) (ltI hz)
theorem st_1 {k n : Int} {p q r : PyData} (h : isF 0 (k - 1) p = false) : isSt k n (.tuple [p, q, r]) = false := by
  show (isF _ _ _ && _ && _) = false
  rw [h]; rfl
theorem st_2 {k n : Int} {p q r : PyData} (h : isF 0 (n - 1) q = false) : isSt k n (.tuple [p, q, r]) = false := by
  show (_ && isF _ _ _ && _) = false
  rw [h, Bool.and_false]; rfl
theorem st_3 {k n : Int} {p q r : PyData} (h : isF (intOf q + 1) n r = false) : isSt k n (.tuple [p, q, r]) = false := by
  show (_ && _ && isF _ _ _) = false
  rw [h, Bool.and_false]
theorem atI1 {u v : V} {vs : List V} : atI (u :: v :: vs) 1 = some v := by
  have : (u :: v :: vs)[1]? = some v := rfl
  exact atI_nat this
def P_Lbad_party (K : PySem.W.Frag) (A : Ad) (x0 x1 : V) (H : Hp) (Q : VK) : Prop := ∃ (d l : Addr) (S : Setup), x0 = .ref d ∧ Draws H d l ∧ SetupOk S ∧ Da H x1 (setupD S) ∧
  ∀ (v : V) (e : PyData) (H' : Hp), KD d H' v e → isPty S.rooms.length S.nights e = false → Lt 5000 3 e → Fr [d] H H' → Draws H' d l → Q v H'
def sp_Lbad_party (K : PySem.W.Frag) (A : Ad) : Sp := fun vs H Q _ => ∃ x0 x1, vs = [x0, x1] ∧ P_Lbad_party K A x0 x1 H Q
theorem c_Lbad_party {K : PySem.W.Frag} {A : Ad} {x0 x1 : V} {H : Hp} {Q : VK} {E : XK} (h : P_Lbad_party K A x0 x1 H Q) : sp_Lbad_party K A [x0, x1] H Q E := ⟨_, _, rfl, h⟩
theorem sc_Lbad_party : FnScope ["_law_draws", "_law_setup_here", "_law_kind", "_law_first", "_law_end", "_law_stay_here", "_law_bad", "_law_one", "_law_at", "_law_whole", "_law_turned"] ["_law_draws", "_law_setup_here"] (defScope s_Lbad_party) := ⟨rfl, rfl, rfl, by decide +kernel, rfl, by decide +kernel, by decide +kernel⟩
def t_bad3 (K : PySem.W.Frag) (A : Ad) : TS :=
  (tRet (tOp (rIxL K) (tLst (tCons (tTup tNil) (tCons (tOp (Lw.rMulA K) (tTup (tCons (tVar 5) tNil)) (tC (.int 5))) (tCons (tLst (tCons (tVar 5) tNil)) (tCons (tVar 5) (tCons (tC .non) (tCons (tVar 10) (tCons (tC (.str "party")) tNil)))))))) (tOp oMod (tCl (sp_Ldraw K A) (tCons (tVar 0) tNil)) (tC (.int 7)))))
def t_bad2 (K : PySem.W.Frag) (A : Ad) : TS :=
  (tIfS (tTest (tOp cGt (tOp oMod (tCl (sp_Ldraw K A) (tCons (tVar 0) tNil)) (tC (.int 3))) (tC (.int 0)))) (tSeq (tAsg (tOp (rIxL K) (tVar 6) (tOp oMod (tCl (sp_Ldraw K A) (tCons (tVar 0) tNil)) (tC (.int 17)))) (gName 7))
    (tSeq (tAsg (tOp oMod (tCl (sp_Ldraw K A) (tCons (tVar 0) tNil)) (tC (.int 4))) (gName 8))
    (tRet (tSl (rSlA K) (tOp (Lw.rCatA K) (tOp (Lw.rCatA K) (tOp (Lw.rMulA K) (tTup (tCons (tVar 5) tNil)) (tVar 8)) (tTup (tCons (tVar 7) tNil))) (tOp (Lw.rMulA K) (tTup (tCons (tVar 5) tNil)) (tC (.int 3)))) tNoPart (tPart (tOp oAdd (tOp oAdd (tVar 8) (tC (.int 1))) (tOp oMod (tCl (sp_Ldraw K A) (tCons (tVar 0) tNil)) (tOp oSub (tC (.int 4)) (tVar 8))))))))) tNext)
def t_bad1 (K : PySem.W.Frag) (A : Ad) : TS :=
  (tAsg (tLst (tCons (tTup (tCons (tCB (rLenSq K) (tCons (tOp (rIxT K) (tVar 1) (tC (.int 0))) tNil)) (tCons (tVar 3) (tCons (tVar 4) tNil)))) (tCons (tTup (tCons (tUn rNeg (tC (.int 1))) (tCons (tVar 3) (tCons (tVar 4) tNil)))) (tCons (tTup (tCons (tVar 2) (tCons (tUn rNeg (tC (.int 1))) (tCons (tVar 4) tNil)))) (tCons (tTup (tCons (tVar 2) (tCons (tVar 3) (tCons (tVar 3) tNil)))) (tCons (tTup (tCons (tVar 2) (tCons (tVar 4) (tCons (tVar 3) tNil)))) (tCons (tTup (tCons (tVar 2) (tCons (tVar 3) (tCons (tOp oAdd (tOp (rIxT K) (tVar 1) (tC (.int 1))) (tC (.int 1))) tNil)))) (tCons (tTup (tCons (tVar 2) (tCons (tVar 3) tNil))) (tCons (tTup (tCons (tVar 2) (tCons (tVar 3) (tCons (tVar 4) (tCons (tC (.int 0)) tNil))))) (tCons (tLst (tCons (tVar 2) (tCons (tVar 3) (tCons (tVar 4) tNil)))) (tCons (tTup (tCons (tC .non) (tCons (tVar 3) (tCons (tVar 4) tNil)))) (tCons (tTup (tCons (tVar 2) (tCons (tC (.str "0")) (tCons (tVar 4) tNil)))) (tCons (tTup (tCons (tVar 2) (tCons (tOp (rIxT K) (tVar 1) (tC (.int 1))) (tCons (tOp oAdd (tOp (rIxT K) (tVar 1) (tC (.int 1))) (tC (.int 1))) tNil)))) (tCons (tTup (tCons (tC (.bl false)) (tCons (tVar 3) (tCons (tVar 4) tNil)))) (tCons (tTup (tCons (tVar 2) (tCons (tC (.bl false)) (tCons (tVar 4) tNil)))) (tCons (tTup (tCons (tVar 2) (tCons (tVar 3) (tCons (tC .non) tNil)))) (tCons (tC .non) (tCons (tC (.int 5)) tNil)))))))))))))))))) (gName 6))
def t_Lbad_party (K : PySem.W.Frag) (A : Ad) : TS :=
  (tSeq (tAsg (tCl (sp_Lstay K A) (tCons (tVar 0) (tCons (tVar 1) tNil))) (gTup K 3 (gCons (gName 2) (gCons (gName 3) (gCons (gName 4) gNil)))))
    (tSeq (tAsg (tTup (tCons (tVar 2) (tCons (tVar 3) (tCons (tVar 4) tNil)))) (gName 5))
    (tSeq (t_bad1 K A)
    (tSeq (t_bad2 K A)
    (tSeq (tAsg (tTup (tCons (tOp oSub (tCB (rLenSq K) (tCons (tOp (rIxT K) (tVar 1) (tC (.int 0))) tNil)) (tC (.int 1))) (tCons (tC (.int 0)) (tCons (tOp (rIxT K) (tVar 1) (tC (.int 1))) tNil)))) (gName 9))
    (tSeq (tAsg (tOp (Lw.rCatA K) (tOp (Lw.rMulA K) (tTup (tCons (tVar 9) tNil)) (tOp oAdd (tC (.int 1)) (tOp oMod (tCl (sp_Ldraw K A) (tCons (tVar 0) tNil)) (tC (.int 2))))) (tTup (tCons (tTup (tCons (tC (.int 0)) (tCons (tC (.int 0)) (tCons (tC (.int 1)) tNil)))) tNil))) (gName 10))
    (tSeq (tIfS (tTest (tOp (rEqD K) (tVar 9) (tTup (tCons (tC (.int 0)) (tCons (tC (.int 0)) (tCons (tC (.int 1)) tNil)))))) (tAsg (tTup tNil) (gName 10)) tNext)
    (t_bad3 K A))))))))
theorem bad1 (T : Txt K mg A) {H : Hp} {d l sp r pp st : Addr} {S : Setup} {a b c : Int} {D : Ends} {x1 : Option V} (hx1 : x1 = some (.ref sp)) (D0 : Draws H d l) (ok : SetupOk S) (so : StayOk S (a, b, c))
    (e0 : ∀ H', Fr [] H H' → H' sp = some (.tup [.ref r, .int S.nights, .int S.sellers, .ref pp, .int S.share])) (er : ∀ H', Fr [] H H' → H' r = some (.tup (S.rooms.map V.int)))
    (nx : ∀ L xs H', Fr [] H H' → H' L = some (.lst xs) → L ≠ d → xs.length = 17 → (∀ v ∈ xs, NoSt d S.rooms.length S.nights H' v) → D.nx [some (.ref d), x1, some (.int a), some (.int b), some (.int c), some (.ref st), some (.ref L), none, none, none, none] H') :
    t_bad1 K A D [some (.ref d), x1, some (.int a), some (.int b), some (.int c), some (.ref st), none, none, none, none, none] H := by
  obtain ⟨h1, h2, h3, h4, h5⟩ := so
  have h1 : 0 ≤ a := h1
  have h2 : a < S.rooms.length := h2
  have h3 : 0 ≤ b := h3
  have h4 : b < c := h4
  have h5 : c ≤ S.nights := h5
  have hn2 := ok.n2
  have hk3 := ok.k3
  unfold t_bad1
  walk_at "go"
  refine g_var (v := .ref sp) (by rw [hx1]; rfl) ?_
  refine g_c ?_
  refine g_ixT (SqT.of (e0 H Fr.refl)) atI0 ?_
  walk_at "go"
  refine g_lenT (SqT.of (er H Fr.refl)) ?_
  rw [List.length_map]
  walk_at "go"
  rename_i p0 G0 m0 f0 i0 p1 G1 m1 f1 i1 p2 G2 m2 f2 i2 p3 G3 m3 f3 i3 p4 G4 m4 f4 i4
  have F4 : Fr [] H G4 := (((f0.then0 f1).then0 f2).then0 f3).then0 f4
  refine g_var (v := .ref sp) (by rw [hx1]; rfl) ?_
  refine g_c ?_
  refine g_ixT (SqT.of (e0 _ F4)) atI1 ?_
  walk_at "go"
  rename_i p5 G5 m5 f5 i5 p6 G6 m6 f6 i6 p7 G7 m7 f7 i7 p8 G8 m8 f8 i8 p9 G9 m9 f9 i9 p10 G10 m10 f10 i10
  have F10 : Fr [] H G10 := (((((F4.then0 f5).then0 f6).then0 f7).then0 f8).then0 f9).then0 f10
  have n8 : p8 ≠ d := ((D0.fr (((F4.then0 f5).then0 f6).then0 f7) nin0 nin0).new1 m8).symm
  refine g_var (v := .ref sp) (by rw [hx1]; rfl) ?_
  refine g_c ?_
  refine g_ixT (SqT.of (e0 _ F10)) atI1 ?_
  walk_at "go"
  refine g_var (v := .ref sp) (by rw [hx1]; rfl) ?_
  refine g_c ?_
  refine g_ixT (SqT.of (e0 _ F10)) atI1 ?_
  walk_at "go"
  rename_i p11 G11 m11 f11 i11 p12 G12 m12 f12 i12 p13 G13 m13 f13 i13 p14 G14 m14 f14 i14 L H' mL fL eL
  have k13 := f14.then0 fL
  have k12 := f13.then0 k13
  have k11 := f12.then0 k12
  have k10 := f11.then0 k11
  have k9 := f10.then0 k10
  have k8 := f9.then0 k9
  have k7 := f8.then0 k8
  have k6 := f7.then0 k7
  have k5 := f6.then0 k6
  have k4 := f5.then0 k5
  have k3 := f4.then0 k4
  have k2 := f3.then0 k3
  have k1 := f2.then0 k2
  have k0 := f1.then0 k1
  refine nx L _ H' (F10.then0 k10) eL ((D0.fr (((((F10.then0 f11).then0 f12).then0 f13).then0 f14)) nin0 nin0).new1 mL).symm rfl fun v hv => ?_
  clear F4 F10 f0 f1 f2 f3 f4 f5 f6 f7 f8 f9 f10 f11 f12 f13 f14 m0 m1 m2 m3 m4 m5 m6 m7 m9 m10 m11 m12 m13 m14 eL nx e0 er
  have la : Lt 41 0 (.int a) := ltI (by omega)
  have lb : Lt 41 0 (.int b) := ltI (by omega)
  have lc : Lt 41 0 (.int c) := ltI (by omega)
  simp only [List.mem_cons, List.not_mem_nil, or_false] at hv
  rcases hv with rfl | rfl | rfl | rfl | rfl | rfl | rfl | rfl | rfl | rfl | rfl | rfl | rfl | rfl | rfl | rfl | rfl
  · exact .three (k0.tup _ _ i0) (by omega) (by omega) (by omega) (by omega)
  · exact .three (k1.tup _ _ i1) (by omega) (by omega) (by omega) (by omega)
  · exact .three (k2.tup _ _ i2) (by omega) (by omega) (by omega) (by omega)
  · exact .three (k3.tup _ _ i3) (by omega) (by omega) (by omega) (by omega)
  · exact .three (k4.tup _ _ i4) (by omega) (by omega) (by omega) (by omega)
  · exact .three (k5.tup _ _ i5) (by omega) (by omega) (by omega) (by omega)
  · exact ⟨_, .tup (k6.tup _ _ i6) (Nat.le_of_ble_eq_true rfl) (.cons (.int a) (.cons (.int b) .nil)), rfl, ltS2 la lb⟩
  · exact ⟨_, .tup (k7.tup _ _ i7) (Nat.le_of_ble_eq_true rfl) (.cons (.int a) (.cons (.int b) (.cons (.int c) (.cons (.int 0) .nil)))), rfl, ltS4 la lb lc (ltI (by omega))⟩
  · exact ⟨_, .lst (k8.at0 i8) n8 (Nat.le_of_ble_eq_true rfl) (.cons (.int a) (.cons (.int b) (.cons (.int c) .nil))), rfl, ltL3 la lb lc⟩
  · exact .of (k9.tup _ _ i9) .non (.int b) (.int c) (st_1 rfl) (lt0 (.inl rfl)) lb lc
  · exact .of (k10.tup _ _ i10) (.int a) (.str "0") (.int c) (st_2 rfl) la (lt0 (.inr (.inr rfl))) lc
  · exact .three (k11.tup _ _ i11) (by omega) (by omega) (by omega) (by omega)
  · exact .of (k12.tup _ _ i12) (.bl false) (.int b) (.int c) (st_1 rfl) (lt0 (.inr (.inl rfl))) lb lc
  · exact .of (k13.tup _ _ i13) (.int a) (.bl false) (.int c) (st_2 rfl) la (lt0 (.inr (.inl rfl))) lc
  · exact .of (fL.tup _ _ i14) (.int a) (.int b) .non (st_3 rfl) la lb (lt0 (.inl rfl))
  · exact ⟨_, .non, rfl, (lt0 (.inl rfl)).mono (by decide) (by decide)⟩
  · exact ⟨_, .int 5, rfl, (ltI (z := 5) (by omega)).mono (by decide) (by decide)⟩

theorem cut_take {xs : List V} {n : Nat} (h : n ≤ xs.length) : cutV xs none (some (n : Int)) = xs.take n := by
  unfold cutV
  rw [HT.sIx_none, HT.sIx_nat, Nat.min_eq_left h]
  rfl
theorem flat1 {α : Type} (x : α) : ∀ n : Nat, (List.replicate n [x]).flatten = List.replicate n x
  | 0 => rfl
  | n + 1 => by rw [List.replicate_succ, List.flatten_cons, flat1 x n, List.replicate_succ]; rfl
theorem g_slTo {K : PySem.W.Frag} {H : Hp} {Q : VK} {a : Addr} {xs : List V} {n : Nat} {z : Int} (hz : z = (n : Int)) (h : H a = some (.tup xs)) (hn : n ≤ xs.length) (q : ∀ l H', Fr [] H H' → H' l = some (.tup (xs.take n)) → Q (.ref l) H') : rSlA K (.ref a) none (some z) H Q := by
  subst hz
  refine g_slA (SqT.of h) (fun w => ?_) fun w l H' _ f e => ?_
  · have w2 := w.2
    rw [HT.sIx_nat, Nat.min_eq_left hn] at w2
    have := q a H Fr.refl
    rw [w2, List.take_length] at this
    exact this h
  · rw [cut_take hn] at e; exact q l H' f e
theorem ltP {xs : List PyData} (h : ∀ x ∈ xs, Lt 200 1 x) (hl : xs.length ≤ 10) : Lt 5000 3 (.tuple xs) := (Lt.tup (n := 10) h hl).mono (by decide) (by decide)
theorem bad2 (T : Txt K mg A) {H : Hp} {d l sp st L : Addr} {S : Setup} {a b c : Int} {xs : List V} {D : Ends} {Q : VK} (D0 : Draws H d l) (ok : SetupOk S) (so : StayOk S (a, b, c))
    (est : H st = some (.tup [.int a, .int b, .int c])) (eL : H L = some (.lst xs)) (nL : L ≠ d) (hl : xs.length = 17) (hx : ∀ v ∈ xs, NoSt d S.rooms.length S.nights H v) (hD : D.rt = Q)
    (k : ∀ (v : V) (e : PyData) (H' : Hp), KD d H' v e → isPty S.rooms.length S.nights e = false → Lt 5000 3 e → Fr [d] H H' → Draws H' d l → Q v H')
    (nx : ∀ H', Fr [d] H H' → Draws H' d l → D.nx [some (.ref d), some (.ref sp), some (.int a), some (.int b), some (.int c), some (.ref st), some (.ref L), none, none, none, none] H') :
    t_bad2 K A D [some (.ref d), some (.ref sp), some (.int a), some (.int b), some (.int c), some (.ref st), some (.ref L), none, none, none, none] H := by
  obtain ⟨h1, h2, h3, h4, h5⟩ := so
  have h1 : 0 ≤ a := h1
  have h2 : a < S.rooms.length := h2
  have h3 : 0 ≤ b := h3
  have h4 : b < c := h4
  have h5 : c ≤ S.nights := h5
  have hn2 := ok.n2
  have hk3 := ok.k3
  cases hD
  unfold t_bad2
  walk_at "go"
  rename_i z H1 z0 z1 f1 D1
  refine g_ite (fun c1 => ?_) (fun c1 => ?_)
  · walk_at "go"
    rename_i y H2 y0 y1 f2 D2
    have F2 := f1.transL f2
    have eL2 := F2.at eL (nin1 nL nin0)
    obtain ⟨v, hv, hv2⟩ := atI_of (xs := xs) (z := y % 17) (by omega) (by omega)
    obtain ⟨e, ke, se, le⟩ := hx v (List.mem_of_getElem? hv2)
    refine g_ixL (SqL.of eL2) hv ?_
    have est2 := F2.tup _ _ est
    have ke2 := ke.fr F2
    clear eL2 D1 f1 f2 eL hv hv2
    walk_at "go"
    rename_i w H3 w0 w1 f3 D3 p4 H4 n4 f4 e4
    have est3 := f3.tup _ _ est2
    have ke3 := ke2.fr f3
    have F3 := F2.transL f3
    have kst : KD d H3 (.ref st) (.tuple [.int a, .int b, .int c]) := .tup est3 (Nat.le_of_ble_eq_true rfl) (.cons (.int a) (.cons (.int b) (.cons (.int c) .nil)))
    obtain ⟨at', hat⟩ : ∃ n : Nat, w % 4 = (n : Int) := ⟨(w % 4).toNat, by omega⟩
    rw [hat]
    have hat4 : at' < 4 := by omega
    clear est2 est3 ke2 F2 f3 D2
    refine g_mulA e4 (by simp) (by omega) (by omega) (Nat.le_of_ble_eq_true rfl) fun p5 H5 f5 e5 => ?_
    rw [flat1] at e5
    walk_at "go"
    rename_i p6 H6 n6 f6 e6
    refine g_catA (f6.tup _ _ e5) e6 (by rw [List.length_replicate]; exact Nat.le_trans (show _ ≤ 10 by simp; omega) (by decide)) fun p7 H7 f7 e7 => ?_
    walk_at "go"
    rename_i p8 H8 n8 f8 e8
    refine g_mulA e8 (by simp) (by omega) (by omega) (Nat.le_of_ble_eq_true rfl) fun p9 H9 f9 e9 => ?_
    rw [flat1] at e9
    walk_at "go"
    refine g_catA (f9.tup _ _ (f8.tup _ _ e7)) e9 (Nat.le_trans (show _ ≤ 10 by simp; omega) (by decide)) fun p10 H10 f10 e10 => ?_
    have G : Fr [] H3 H10 := (((((f4.then0 f5).then0 f6).then0 f7).then0 f8).then0 f9).then0 f10
    have D10 := D3.fr G nin0 nin0
    have kst10 := kst.fr0 G
    have ke10 := ke3.fr0 G
    have F10 := F3.then0 G
    clear f4 f5 f6 f7 f8 f9 f10 e4 e5 e6 e7 e8 e9 n4 n6 n8 G D3 kst ke3 F3
    walk_at "go"
    rename_i u H11 u0 u1 f11 D11
    have hu0 := Int.emod_nonneg u (show (4 - (at' : Int)) ≠ 0 by omega)
    have hu1 := Int.emod_lt_of_pos u (show 0 < 4 - (at' : Int) by omega)
    obtain ⟨m, hm⟩ : ∃ m : Nat, u % (4 - (at' : Int)) = (m : Int) := ⟨(u % (4 - (at' : Int))).toNat, by omega⟩
    rw [hm]
    refine g_slTo (n := at' + 1 + m) (by omega) (f11.tup _ _ e10) (by simp; omega) fun q H12 f12 e12 => ?_
    have F12 := (F10.transL f11).then0 f12
    have kd : KDL d H12 ((List.replicate at' (V.ref st) ++ [v] ++ List.replicate (3 : Int).toNat (V.ref st)).take (at' + 1 + m)) ((List.replicate at' (PyData.tuple [.int a, .int b, .int c]) ++ [e] ++ List.replicate (3 : Int).toNat (PyData.tuple [.int a, .int b, .int c])).take (at' + 1 + m)) :=
      (((KDL.rep kst10 at').app (.cons ke10 .nil)).app (KDL.rep kst10 _)).take _ |>.fr f11 |>.fr f12.of0
    refine k _ _ H12 (.tup e12 (by simp; omega) kd) ?_ ?_ F12 (D11.fr f12 nin0 nin0)
    · refine pty_no (e := e) ?_ se
      refine List.mem_take_iff_getElem.mpr ⟨at', by simp; omega, ?_⟩
      simp
    · refine ltP (fun x hx => ?_) (by simp; omega)
      have hx := List.mem_of_mem_take hx
      have l3 : Lt 200 1 (.tuple [.int a, .int b, .int c]) := ltS3 (ltI (by omega)) (ltI (by omega)) (ltI (by omega))
      rcases List.mem_append.mp hx with q | q
      · rcases List.mem_append.mp q with q | q
        · rw [List.eq_of_mem_replicate q]; exact l3
        · rw [List.mem_singleton.mp q]; exact le
      · rw [List.eq_of_mem_replicate q]; exact l3
  · walk_at "go"
    exact nx H1 f1 D1
def NoPt (d : Addr) (k n : Int) (H : Hp) (v : V) : Prop := ∃ e, KD d H v e ∧ isPty k n e = false ∧ Lt 5000 3 e
theorem bad3 (T : Txt K mg A) {H : Hp} {d l sp st L pw : Addr} {S : Setup} {a b c : Int} {t : V} {v7 v8 : Option V} {D : Ends} {Q : VK} (D0 : Draws H d l) (ok : SetupOk S) (so : StayOk S (a, b, c))
    (est : H st = some (.tup [.int a, .int b, .int c])) (kt : NoPt d S.rooms.length S.nights H t) (hD : D.rt = Q)
    (k : ∀ (v : V) (e : PyData) (H' : Hp), KD d H' v e → isPty S.rooms.length S.nights e = false → Lt 5000 3 e → Fr [d] H H' → Draws H' d l → Q v H') :
    t_bad3 K A D [some (.ref d), some (.ref sp), some (.int a), some (.int b), some (.int c), some (.ref st), some (.ref L), v7, v8, some (.ref pw), some t] H := by
  obtain ⟨h1, h2, h3, h4, h5⟩ := so
  have h1 : 0 ≤ a := h1
  have h2 : a < S.rooms.length := h2
  have h3 : 0 ≤ b := h3
  have h4 : b < c := h4
  have h5 : c ≤ S.nights := h5
  have hn2 := ok.n2
  have hk3 := ok.k3
  cases hD
  have kst : KD d H (.ref st) (.tuple [.int a, .int b, .int c]) := .tup est (Nat.le_of_ble_eq_true rfl) (.cons (.int a) (.cons (.int b) (.cons (.int c) .nil)))
  have lst : Lt 200 1 (.tuple [.int a, .int b, .int c]) := ltS3 (ltI (by omega)) (ltI (by omega)) (ltI (by omega))
  clear est
  unfold t_bad3
  walk_at "go"
  rename_i p1 H1 n1 f1 e1 p2 H2 n2 f2 e2
  refine g_mulA e2 (by simp) (by omega) (by omega) (Nat.le_of_ble_eq_true rfl) fun p3 H3 f3 e3 => ?_
  rw [flat1] at e3
  have F3 := (f1.then0 f2).then0 f3
  have e13 := (f2.then0 f3).tup _ _ e1
  clear f1 f2 f3 e1 e2 n1 n2
  walk_at "go"
  rename_i p4 H4 n4 f4 e4 q H5 n5 f5 e5 y H6 y0 y1 f6 D6
  have F5 := (F3.then0 f4).then0 f5
  have n4d : p4 ≠ d := ((D0.fr F3 nin0 nin0).new1 n4).symm
  have nqd : q ≠ d := ((D0.fr (F3.then0 f4) nin0 nin0).new1 n5).symm
  have G3 := f4.then0 f5
  obtain ⟨v, hv, hv2⟩ := atI_of (xs := [V.ref p1, .ref p3, .ref p4, .ref st, .non, t, .str "party"]) (z := y % 7) (by omega) (by show y % 7 < 7; omega)
  refine g_ixL (SqL.of (f6.at e5 (nin1 nqd nin0))) hv ?_
  have no : NoPt d S.rooms.length S.nights H5 v := by
    have hm := List.mem_of_getElem? hv2
    simp only [List.mem_cons, List.not_mem_nil, or_false] at hm
    rcases hm with rfl | rfl | rfl | rfl | rfl | rfl | rfl
    · exact ⟨_, .tup (G3.tup _ _ e13) (Nat.zero_le _) .nil, rfl, ltP (xs := []) (fun x hx => nomatch hx) (Nat.zero_le _)⟩
    · exact ⟨_, .tup (G3.tup _ _ e3) (by simp) (KDL.rep (kst.fr0 F5) _), pty_len (by simp), ltP (fun x hx => by rw [List.eq_of_mem_replicate hx]; exact lst) (by simp)⟩
    · exact ⟨_, .lst (f5.at0 e4) n4d (Nat.le_of_ble_eq_true rfl) (.cons (kst.fr0 F5) .nil), rfl, (Lt.lst (n := 1) (w := 200) (k := 1) (fun x hx => by rw [List.mem_singleton.mp hx]; exact lst) (Nat.le_refl _)).mono (by decide) (by decide)⟩
    · exact ⟨_, kst.fr0 F5, pty_no (e := .int a) List.mem_cons_self rfl, lst.mono (by decide) (by decide)⟩
    · exact ⟨_, .non, rfl, (lt0 (.inl rfl)).mono (by decide) (by decide)⟩
    · obtain ⟨e, h1, h2, h3⟩ := kt
      exact ⟨e, h1.fr0 F5, h2, h3⟩
    · exact ⟨_, .str _, rfl, ⟨by decide +kernel, by decide +kernel, by decide +kernel⟩⟩
  obtain ⟨e, h1, h2, h3⟩ := no
  exact k _ _ H6 (h1.fr f6) h2 h3 (F5.of0.transL f6) D6
theorem pu_Lbad_party (T : Txt K mg A) {x0 x1 : V} {H : Hp} {Q : VK} (h : P_Lbad_party K A x0 x1 H Q) : t_Lbad_party K A { nx := fun _ H' => Q .non H', rt := Q } [some x0, some x1, none, none, none, none, none, none, none, none, none] H := by
  obtain ⟨d, l, S, rfl, D0, ok, dS, k⟩ := h
  obtain ⟨sp, r, pp, ps, sa⟩ := SetAt.of dS
  cases sa.e
  have e0 := sa.t
  have er := sa.r
  have hk1 := ok.k1
  have hk3 := ok.k3
  have hn1 := ok.n1
  have hn2 := ok.n2
  unfold t_Lbad_party
  walk_at "go"
  refine c_Lstay ⟨d, l, S, rfl, D0, ok, dS, fun v s H1 so dv f1 D1 => ?_⟩
  obtain ⟨sa1, rfl, ea1⟩ := stay_at dv
  obtain ⟨a, b, c⟩ := s
  have e01 := f1.tup _ _ e0
  have er1 := f1.tup _ _ er
  clear dS sa e0 er D0 dv
  walk_at "go"
  rename_i st H2 n2 f2 est
  have D2 := D1.fr f2 nin0 nin0
  have e02 := f2.tup _ _ e01
  have er2 := f2.tup _ _ er1
  have F2 := f1.then0 f2
  clear e01 er1 ea1 f1 f2 n2 D1
  refine bad1 (sp := sp) (r := r) (pp := pp) (a := a) (b := b) (c := c) (S := S) (l := l) T rfl D2 ok so (fun H' f => f.tup _ _ e02) (fun H' f => f.tup _ _ er2) fun L xs H3 f3 eL nL hl hx => ?_
  refine g_seq ?_
  have F3 := F2.then0 f3
  refine bad2 (Q := Q) (l := l) (S := S) (xs := xs) T (D2.fr f3 nin0 nin0) ok so (f3.tup _ _ est) eL nL hl hx rfl (fun v e H' a1 a2 a3 a4 a5 => k v e H' a1 a2 a3 (F3.transL a4) a5) fun H4 f4 D4 => ?_
  have e04 := f4.tup _ _ (f3.tup _ _ e02)
  have er4 := f4.tup _ _ (f3.tup _ _ er2)
  have est4 := f4.tup _ _ (f3.tup _ _ est)
  have F4 := F3.transL f4
  obtain ⟨h1, h2, h3, h4, h5⟩ := so
  have h1 : 0 ≤ a := h1
  have h2 : a < S.rooms.length := h2
  have h3 : 0 ≤ b := h3
  have h4 : b < c := h4
  have h5 : c ≤ S.nights := h5
  clear eL hl hx f3 f4 F3 F2 est e02 er2 D2
  walk_at "go"
  rename_i pw H5 n5 f5 e5 p6 H6 n6 f6 e6 y H7 y0 y1 f7 D7
  rw [List.length_map] at e5
  refine g_mulA (f7.tup _ _ e6) (by simp) (by omega) (by omega) (Nat.le_of_ble_eq_true rfl) fun p8 H8 f8 e8 => ?_
  rw [flat1] at e8
  have ew : H8 pw = some (.tup [.int (S.rooms.length - 1), .int 0, .int S.nights]) := f8.tup _ _ (f7.tup _ _ (f6.tup _ _ e5))
  have F8 := ((F4.transL ((f5.then0 f6).of0)).transL f7).then0 f8
  have est8 := f8.tup _ _ (f7.tup _ _ ((f5.then0 f6).tup _ _ est4))
  have D8 := D7.fr f8 nin0 nin0
  have hm1 : 1 ≤ (1 + y % 2).toNat := by omega
  have hm2 : (1 + y % 2).toNat ≤ 2 := by omega
  generalize (1 + y % 2).toNat = m at *
  clear D7 D4 f5 f6 f7 f8 e5 e6 est4 n5 n6 e04 er4 F4
  walk_at "go"
  rename_i p9 H9 n9 f9 e9 p10 H10 n10 f10 e10
  refine g_catA ((f9.then0 f10).tup _ _ e8) e10 (Nat.le_trans (show _ ≤ 10 by simp; omega) (by decide)) fun p11 H11 f11 e11 => ?_
  have F11 := ((F8.then0 f9).then0 f10).then0 f11
  have e911 := (f10.then0 f11).tup _ _ e9
  have ew11 := ((f9.then0 f10).then0 f11).tup _ _ ew
  have est11 := ((f9.then0 f10).then0 f11).tup _ _ est8
  have D11 := D8.fr ((f9.then0 f10).then0 f11) nin0 nin0
  clear f9 f10 f11 e9 e10 e8 n9 n10 ew est8 D8 F8
  walk_at "go"
  rename_i p12 H12 n12 f12 e12
  have F12 := F11.then0 f12
  have D12 := D11.fr f12 nin0 nin0
  have ew12 := f12.tup _ _ ew11
  have est12 := f12.tup _ _ est11
  refine g_eqDD (d := stayD (S.rooms.length - 1, 0, S.nights)) (e := stayD (0, 0, 1)) (.tup ew12 (Nat.le_of_ble_eq_true rfl) (DaL.ofInts [_, _, _])) (.tup e12 (Nat.le_of_ble_eq_true rfl) (DaL.ofInts [_, _, _])) rfl rfl ?_
  walk_at "go"
  refine g_iteB (fun c1 => ?_) (fun c1 => ?_)
  · walk_at "go"
    rename_i p13 H13 n13 f13 e13
    refine bad3 (Q := Q) (l := l) (S := S) T (D12.fr f13 nin0 nin0) ok ⟨h1, h2, h3, h4, h5⟩ (f13.tup _ _ est12) ⟨_, .tup e13 (Nat.zero_le _) .nil, rfl, ltP (xs := []) (fun x hx => nomatch hx) (Nat.zero_le _)⟩ rfl fun v e H' a1 a2 a3 a4 a5 => k v e H' a1 a2 a3 ((F12.then0 f13).transL a4) a5
  · walk_at "go"
    have hne : ¬ ((S.rooms.length : Int) = 1 ∧ S.nights = 1) := fun z => by
      rw [Bool.eq_false_iff] at c1
      exact c1 ((eqv_stay _ _).mpr (by rw [z.1, z.2]; rfl))
    have kd : KD d H12 (.ref p11) (.tuple ((List.replicate m (((S.rooms.length : Int) - 1, 0, S.nights) : Stay) ++ [(0, 0, 1)]).map stayD)) := by
      rw [List.map_append, List.map_replicate]
      refine .tup (f12.tup _ _ e11) (by simp; omega) ((KDL.rep (.tup ew12 (Nat.le_of_ble_eq_true rfl) (.cons (.int _) (.cons (.int _) (.cons (.int _) .nil)))) m).app (.cons (.tup (f12.tup _ _ e911) (Nat.le_of_ble_eq_true rfl) (.cons (.int _) (.cons (.int _) (.cons (.int _) .nil)))) .nil))
    refine bad3 (Q := Q) (l := l) (S := S) T D12 ok ⟨h1, h2, h3, h4, h5⟩ est12 ⟨_, kd, turned_no (by omega) hn1 hne hm1, ltP (fun x hx => ?_) (by simp; omega)⟩ rfl fun v e H' a1 a2 a3 a4 a5 => k v e H' a1 a2 a3 (F12.transL a4) a5
    obtain ⟨s, hs, rfl⟩ := List.mem_map.mp hx
    rcases List.mem_append.mp hs with q | q
    · rw [List.eq_of_mem_replicate q]
      exact ltS3 (ltI (z := S.rooms.length - 1) (by omega)) (ltI (z := 0) (by omega)) (ltI (z := S.nights) (by omega))
    · rw [List.mem_singleton.mp q]
      exact ltS3 (ltI (z := 0) (by omega)) (ltI (z := 0) (by omega)) (ltI (z := 1) (by omega))
theorem ok_Lbad_party {f : Addr} {fd : FuncData} (F : Fun K "_law_bad_party" "_law_bad_party" s_Lbad_party f fd) (T : Txt K mg A) (c_Lstay : Cal P w K mg base "_law_stay" 3 ["_law_draws", "_law_setup_here"] (sp_Lstay K A)) (c_Ldraw : Cal P w K mg base "_law_draw" 2 ["_law_draws"] (sp_Ldraw K A)) : FnOk P w K mg base CX0 (4) f fd ["_law_draws", "_law_setup_here"] (sp_Lbad_party K A) := by
  refine F.ok sc_Lbad_party (fun vs H Q E h => ?_) (fun cdv Ar outer s H vs Q E hr h => ⟨t_Lbad_party K A, ?_, ?_⟩)
  · obtain ⟨x0, x1, rfl, _⟩ := h
    rfl
  · have hu := hu_of hr
    exact (pss_cons (ps_asg (pe_cl c_Lstay (hr.mono (by first | decide | omega)) (by rfl) (pa_cons (pv 0) (pa_cons (pv 1) pa_nil))) (pg_tup rfl (pgs_cons (pg_name (i := 2) sc_Lbad_party.nd rfl (Or.inl rfl)) (pgs_cons (pg_name (i := 3) sc_Lbad_party.nd rfl (Or.inl rfl)) (pgs_cons (pg_name (i := 4) sc_Lbad_party.nd rfl (Or.inl rfl)) pgs_nil)))))
    (pss_cons (ps_set (i := 5) sc_Lbad_party.nd rfl (Or.inl rfl) (pe_tup (pa_cons (pv 2) (pa_cons (pv 3) (pa_cons (pv 4) pa_nil)))))
    (pss_cons (ps_set (i := 6) sc_Lbad_party.nd rfl (Or.inl rfl) (pe_lst (pa_cons (pe_tup (pa_cons (pe_callB b_len (by rfl) T.b_len (by decide +kernel) (pa_cons (pe_ix ix_tup (pv 1) pe_int (fun _ _ => rfl)) pa_nil)) (pa_cons (pv 3) (pa_cons (pv 4) pa_nil)))) (pa_cons (pe_tup (pa_cons (pe_un un_neg pe_int) (pa_cons (pv 3) (pa_cons (pv 4) pa_nil)))) (pa_cons (pe_tup (pa_cons (pv 2) (pa_cons (pe_un un_neg pe_int) (pa_cons (pv 4) pa_nil)))) (pa_cons (pe_tup (pa_cons (pv 2) (pa_cons (pv 3) (pa_cons (pv 3) pa_nil)))) (pa_cons (pe_tup (pa_cons (pv 2) (pa_cons (pv 4) (pa_cons (pv 3) pa_nil)))) (pa_cons (pe_tup (pa_cons (pv 2) (pa_cons (pv 3) (pa_cons (pe_op o_add (pe_ix ix_tup (pv 1) pe_int (fun _ _ => rfl)) pe_int) pa_nil)))) (pa_cons (pe_tup (pa_cons (pv 2) (pa_cons (pv 3) pa_nil))) (pa_cons (pe_tup (pa_cons (pv 2) (pa_cons (pv 3) (pa_cons (pv 4) (pa_cons pe_int pa_nil))))) (pa_cons (pe_lst (pa_cons (pv 2) (pa_cons (pv 3) (pa_cons (pv 4) pa_nil)))) (pa_cons (pe_tup (pa_cons pe_non (pa_cons (pv 3) (pa_cons (pv 4) pa_nil)))) (pa_cons (pe_tup (pa_cons (pv 2) (pa_cons pe_str (pa_cons (pv 4) pa_nil)))) (pa_cons (pe_tup (pa_cons (pv 2) (pa_cons (pe_ix ix_tup (pv 1) pe_int (fun _ _ => rfl)) (pa_cons (pe_op o_add (pe_ix ix_tup (pv 1) pe_int (fun _ _ => rfl)) pe_int) pa_nil)))) (pa_cons (pe_tup (pa_cons pe_bl (pa_cons (pv 3) (pa_cons (pv 4) pa_nil)))) (pa_cons (pe_tup (pa_cons (pv 2) (pa_cons pe_bl (pa_cons (pv 4) pa_nil)))) (pa_cons (pe_tup (pa_cons (pv 2) (pa_cons (pv 3) (pa_cons pe_non pa_nil)))) (pa_cons pe_non (pa_cons pe_int pa_nil)))))))))))))))))))
    (pss_cons (ps_if (pt_cmpR c_gt (pe_op o_mod (pe_cl c_Ldraw (hr.mono (by first | decide | omega)) (by rfl) (pa_cons (pv 0) pa_nil)) pe_int) pe_int (nomark _)) (pss_cons (ps_set (i := 7) sc_Lbad_party.nd rfl (Or.inl rfl) (pe_ix ix_list (pv 6) (pe_op o_mod (pe_cl c_Ldraw (hr.mono (by first | decide | omega)) (by rfl) (pa_cons (pv 0) pa_nil)) pe_int) (fun _ _ => rfl)))
    (pss_cons (ps_set (i := 8) sc_Lbad_party.nd rfl (Or.inl rfl) (pe_op o_mod (pe_cl c_Ldraw (hr.mono (by first | decide | omega)) (by rfl) (pa_cons (pv 0) pa_nil)) pe_int))
    (pss_one (ps_ret (pe_slice sl_tupA (pe_op Lw.op_catA (pe_op Lw.op_catA (pe_op Lw.op_mulA (pe_tup (pa_cons (pv 5) pa_nil)) (pv 8)) (pe_tup (pa_cons (pv 7) pa_nil))) (pe_op Lw.op_mulA (pe_tup (pa_cons (pv 5) pa_nil)) pe_int)) po_none (po_some (pe_op o_add (pe_op o_add (pv 8) pe_int) (pe_op o_mod (pe_cl c_Ldraw (hr.mono (by first | decide | omega)) (by rfl) (pa_cons (pv 0) pa_nil)) (pe_op o_sub pe_int (pv 8)))))))))) pss_nil)
    (pss_cons (ps_set (i := 9) sc_Lbad_party.nd rfl (Or.inl rfl) (pe_tup (pa_cons (pe_op o_sub (pe_callB b_len (by rfl) T.b_len (by decide +kernel) (pa_cons (pe_ix ix_tup (pv 1) pe_int (fun _ _ => rfl)) pa_nil)) pe_int) (pa_cons pe_int (pa_cons (pe_ix ix_tup (pv 1) pe_int (fun _ _ => rfl)) pa_nil)))))
    (pss_cons (ps_set (i := 10) sc_Lbad_party.nd rfl (Or.inl rfl) (pe_op Lw.op_catA (pe_op Lw.op_mulA (pe_tup (pa_cons (pv 9) pa_nil)) (pe_op o_add pe_int (pe_op o_mod (pe_cl c_Ldraw (hr.mono (by first | decide | omega)) (by rfl) (pa_cons (pv 0) pa_nil)) pe_int))) (pe_tup (pa_cons (pe_tup (pa_cons pe_int (pa_cons pe_int (pa_cons pe_int pa_nil)))) pa_nil))))
    (pss_cons (ps_if (pt_cmpR (op_eqD hr.units) (pv 9) (pe_tup (pa_cons pe_int (pa_cons pe_int (pa_cons pe_int pa_nil)))) (nomark _)) (pss_one (ps_set (i := 10) sc_Lbad_party.nd rfl (Or.inl rfl) (pe_tup pa_nil))) pss_nil)
    (pss_one (ps_ret (pe_ix ix_list (pe_lst (pa_cons (pe_tup pa_nil) (pa_cons (pe_op Lw.op_mulA (pe_tup (pa_cons (pv 5) pa_nil)) pe_int) (pa_cons (pe_lst (pa_cons (pv 5) pa_nil)) (pa_cons (pv 5) (pa_cons pe_non (pa_cons (pv 10) (pa_cons pe_str pa_nil)))))))) (pe_op o_mod (pe_cl c_Ldraw (hr.mono (by first | decide | omega)) (by rfl) (pa_cons (pv 0) pa_nil)) pe_int) (fun _ _ => rfl)))))))))))
  · obtain ⟨x0, x1, rfl, h⟩ := h
    exact pu_Lbad_party T h

def P_Lis_deed (K : PySem.W.Frag) (A : Ad) (x0 x1 : V) (H : Hp) (Q : VK) : Prop := ∃ (S : Setup) (d : PyData), Da H x0 (setupD S) ∧ Da H x1 d ∧ HdOk d ∧ ∀ H', Fr [] H H' → Q (.bl (isDd S.rooms.length S.nights d)) H'
def sp_Lis_deed (K : PySem.W.Frag) (A : Ad) : Sp := fun vs H Q _ => ∃ x0 x1, vs = [x0, x1] ∧ P_Lis_deed K A x0 x1 H Q
theorem c_Lis_deed {K : PySem.W.Frag} {A : Ad} {x0 x1 : V} {H : Hp} {Q : VK} {E : XK} (h : P_Lis_deed K A x0 x1 H Q) : sp_Lis_deed K A [x0, x1] H Q E := ⟨_, _, rfl, h⟩
theorem sc_Lis_deed : FnScope ["_law_setup_here", "_law_deed", "e"] ["_law_setup_here", "_law_deed"] (defScope s_Lis_deed) := ⟨rfl, rfl, rfl, by decide +kernel, rfl, by decide +kernel, by decide +kernel⟩
def t_Lis_deed (K : PySem.W.Frag) (A : Ad) : TS :=
  (tSeq (tTryAs K (.ref A.BadDeed) 2 (fun W0 => (tIfS (tTest (tOp rIsNotNon (tClX (sp_check_deed K A) W0 (tCons (tVar 0) (tCons (tVar 1) tNil))) (tC .non))) (tRet (tC .non)) tNext))
    (fun a0 cls0 d0 => (tSeq (tIfS (tOr (tNot (tB (tCB (rIsEd K A.BadDeed a0 cls0 d0) (tCons (tVar 2) (tCons (tC (.ref A.ManydoorsError)) tNil))))) (tB (tCB (rIsETd K A.BadDeed a0 cls0 d0) (tCons (tVar 2) (tCons (tTup (tCons (tC (.ref A.BadHistory)) (tCons (tC (.ref A.BadLine)) (tCons (tC (.ref A.BadSetup)) (tCons (tC (.ref A.BadStay)) (tCons (tC (.ref A.BadText)) tNil)))))) tNil))))) (tRet (tC .non)) tNext)
    (tRet (tC (.bl false))))) (fun _ _ _ _ => False))
    (tRet (tC (.bl true))))
theorem pu_Lis_deed (T : Txt K mg A) {x0 x1 : V} {H : Hp} {Q : VK} (h : P_Lis_deed K A x0 x1 H Q) : t_Lis_deed K A { nx := fun _ H' => Q .non H', rt := Q } [some x0, some x1, none] H := by
  obtain ⟨S, d, dS, dd, hok, k⟩ := h
  unfold t_Lis_deed
  walk_at "go"
  unfold tTryAs
  walk_at "go"
  refine c_check_deed ⟨S, d, dS, dd, hok, fun hs H' f => ?_, fun hs H' f => ?_⟩
  · walk_at "go"
    have := k H' f
    rw [hs] at this
    exact this
  · refine ⟨true, PySem.W.exm_ref T.x_BadDeed.s T.ec_BadDeed.hd T.x_BadDeed.t T.k_self, fun _ a n => ?_, fun z => nomatch z⟩
    walk_at "go"
    refine ⟨rfl, rfl, g_isE T.k_many ?_⟩
    walk_at "go"
    rename_i t H2 n2 f2 e2
    refine ⟨rfl, rfl, g_isET (cs := [A.BadHistory, A.BadLine, A.BadSetup, A.BadStay, A.BadText]) e2 T.k_oth ?_⟩
    walk_at "go"
    have kk := k H2 (f.then0 f2)
    rw [hs] at kk
    exact kk
theorem ok_Lis_deed {f : Addr} {fd : FuncData} (F : Fun K "_law_is_deed" "_law_is_deed" s_Lis_deed f fd) (T : Txt K mg A) (c_check_deed : CalX P w K mg base "check_deed" 6 ["setup", "deed"] (sp_check_deed K A)) : FnOk P w K mg base CX0 (7) f fd ["_law_setup_here", "_law_deed"] (sp_Lis_deed K A) := by
  refine F.ok sc_Lis_deed (fun vs H Q E h => ?_) (fun cdv Ar outer s H vs Q E hr h => ⟨t_Lis_deed K A, ?_, ?_⟩)
  · obtain ⟨x0, x1, rfl, _⟩ := h
    rfl
  · have hu := hu_of hr
    exact (pss_cons (ps_try_as rfl rfl sc_Lis_deed.nd (i := 2) rfl rfl ⟨by rfl, by decide, .inl T.x_BadDeed.g⟩ takes_none5 (fun W0 pn0 xe0 tkW0 pw0 => (pss_one (ps_if (pt_cmpR c_notN (pe_clX c_check_deed (hr.mono (by first | decide | omega)) (by rfl) tkW0 (pa_cons (pv 0) (pa_cons (pv 1) pa_nil))) pe_non (nomark _)) (pss_one (ps_ret pe_non)) pss_nil)))
    (fun a0 oe0 cls0 d0 pn0 hz0 hf0 => (pss_cons (ps_if (PW.pt (pw_or (pt_not (pt_val (pe_callB (call_isEd T.ec_BadDeed hz0 hf0) (by rfl) T.b_isinstance (by decide +kernel) (pa_cons (pv 2) (pa_cons (pe_err T.x_ManydoorsError (by rfl)) pa_nil))))) (pw_or1 (pt_val (pe_callB (call_isETd T.ec_BadDeed hz0 hf0) (by rfl) T.b_isinstance (by decide +kernel) (pa_cons (pv 2) (pa_cons (pe_tup (pa_cons (pe_err T.x_BadHistory (by rfl)) (pa_cons (pe_err T.x_BadLine (by rfl)) (pa_cons (pe_err T.x_BadSetup (by rfl)) (pa_cons (pe_err T.x_BadStay (by rfl)) (pa_cons (pe_err T.x_BadText (by rfl)) pa_nil)))))) pa_nil))))))) (pss_one (ps_ret pe_non)) pss_nil)
    (pss_one (ps_ret pe_bl)))))
    (pss_one (ps_ret pe_bl)))
  · obtain ⟨x0, x1, rfl, h⟩ := h
    exact pu_Lis_deed T h
def P_law (K : PySem.W.Frag) (A : Ad) (x0 : V) (H : Hp) (Q : VK) : Prop := ∃ (a : Addr) (ns : List Int), x0 = .ref a ∧ SqL K H a (ns.map V.int) ∧ ns.length ≤ 63 ∧ ∀ H', Q (.bl true) H'
def sp_law (K : PySem.W.Frag) (A : Ad) : Sp := fun vs H Q _ => ∃ x0, vs = [x0] ∧ P_law K A x0 H Q
theorem c_law {K : PySem.W.Frag} {A : Ad} {x0 : V} {H : Hp} {Q : VK} {E : XK} (h : P_law K A x0 H Q) : sp_law K A [x0] H Q E := ⟨_, rfl, h⟩
theorem sc_law : FnScope ["_law_script", "_law_draws", "_law_setup_here", "_law_party_here", "_law_number", "_law_deed", "_law_k", "_law_wrong", "_law_bad", "_law_pick", "_law_kept"] ["_law_script"] (defScope s_law) := ⟨rfl, rfl, rfl, by decide +kernel, rfl, by decide +kernel, by decide +kernel⟩
def t_wrongs (K : PySem.W.Frag) (A : Ad) : TS :=
  (tAsg (tLst (tCons (tTup (tCons (tC (.str "wish")) (tCons (tVar 7) tNil))) (tCons (tTup (tCons (tC (.str "change")) (tCons (tVar 4) (tCons (tVar 7) tNil)))) (tCons (tTup (tCons (tC (.str "wish")) (tCons (tVar 3) (tCons (tC (.int 0)) tNil)))) (tCons (tTup (tCons (tC (.str "wish")) tNil)) (tCons (tLst (tCons (tC (.str "wish")) (tCons (tVar 3) tNil))) (tCons (tTup (tCons (tC (.str "Wish")) (tCons (tVar 3) tNil))) (tCons (tTup (tCons (tC (.str "cancel")) tNil)) (tCons (tTup (tCons (tC (.str "cancel")) (tCons (tUn rNeg (tC (.int 1))) tNil))) (tCons (tTup (tCons (tC (.str "cancel")) (tCons (tC (.int 0)) (tCons (tC (.int 1)) tNil)))) (tCons (tTup (tCons (tC (.str "cancel")) (tCons (tC .non) tNil))) (tCons (tTup (tCons (tC (.str "cancel")) (tCons (tC (.bl true)) tNil))) (tCons (tTup (tCons (tC (.str "change")) (tCons (tUn rNeg (tC (.int 1))) (tCons (tVar 3) tNil)))) (tCons (tTup (tCons (tC (.str "change")) (tCons (tVar 3) tNil))) (tCons (tTup (tCons (tC (.str "change")) (tCons (tVar 4) tNil))) (tCons (tTup (tCons (tC (.str "change")) (tCons (tC (.bl false)) (tCons (tVar 3) tNil)))) (tCons (tTup (tCons (tC (.str "change")) (tCons (tVar 3) (tCons (tVar 4) tNil)))) (tCons (tC .non) (tCons (tTup tNil) (tCons (tC (.str "wish")) (tCons (tC (.int 5)) (tCons (tTup (tCons (tC (.str "cancel")) (tCons (tC (.str "0")) tNil))) (tCons (tTup (tCons (tC (.str "give")) (tCons (tC (.int 0)) (tCons (tC (.int 0)) tNil)))) (tCons (tTup (tCons (tC .non) (tCons (tVar 3) tNil))) tNil)))))))))))))))))))))))) (gName 8))
def t_rights (K : PySem.W.Frag) (A : Ad) : TS :=
  (tFor (iList K (tLst (tCons (tTup (tCons (tC (.str "wish")) (tCons (tVar 3) tNil))) (tCons (tTup (tCons (tC (.str "cancel")) (tCons (tVar 4) tNil))) (tCons (tTup (tCons (tC (.str "change")) (tCons (tVar 4) (tCons (tVar 3) tNil)))) (tCons (tTup (tCons (tC (.str "wish")) (tCons (tOp (Lw.rMulA K) (tTup (tCons (tTup (tCons (tOp oSub (tCB (rLenSq K) (tCons (tOp (rIxT K) (tVar 2) (tC (.int 0))) tNil)) (tC (.int 1))) (tCons (tC (.int 0)) (tCons (tOp (rIxT K) (tVar 2) (tC (.int 1))) tNil)))) tNil)) (tC (.int 4))) tNil))) tNil)))))) (gName 5) (tIfS (tTest (tOp rNotB (tCl (sp_Lis_deed K A) (tCons (tVar 2) (tCons (tVar 5) tNil))) (tC (.bl true)))) (tRet (tC (.bl false))) tNext))
def t_law (K : PySem.W.Frag) (A : Ad) : TS :=
  (tSeq (tAsg (tLst (tCons (tCl (sp_Lnumbers K A) (tCons (tVar 0) tNil)) (tCons (tC (.int 0)) tNil))) (gName 1))
    (tSeq (tAsg (tCl (sp_Lsetup K A) (tCons (tVar 1) tNil)) (gName 2))
    (tSeq (tAsg (tCl (sp_Lparty K A) (tCons (tVar 1) (tCons (tVar 2) tNil))) (gName 3))
    (tSeq (tAsg (tOp (rIxL K) (tLst (tCons (tOp oMod (tCl (sp_Ldraw K A) (tCons (tVar 1) tNil)) (tC (.int 50))) (tCons (tCl (sp_Ldraw K A) (tCons (tVar 1) tNil)) (tCons (tOp oPow (tC (.int 10)) (tC (.int 12))) tNil)))) (tOp oMod (tCl (sp_Ldraw K A) (tCons (tVar 1) tNil)) (tC (.int 3)))) (gName 4))
    (tSeq (t_rights K A)
    (tSeq (tFor (iRng1 (tCons (tC (.int 4)) tNil)) (gName 6) (tSeq (tAsg (tCl (sp_Lbad_party K A) (tCons (tVar 1) (tCons (tVar 2) tNil))) (gName 7))
    (tSeq (t_wrongs K A)
    (tSeq (tAsg (tOp oMod (tCl (sp_Ldraw K A) (tCons (tVar 1) tNil)) (tC (.int 40))) (gName 9))
    (Evl.tCut (tIfS (tTest (tOp cGt (tVar 9) (tC (.int 22)))) (tAsg (tOp oMod (tVar 9) (tC (.int 2))) (gName 9)) tNext)
    (tSeq (tAsg (tCB rStrA (tCons (tOp (rIxL K) (tVar 8) (tVar 9)) tNil)) (gName 10))
    (tIfS (tOr (tTest (tOp rNotB (tCl (sp_Lis_deed K A) (tCons (tVar 2) (tCons (tOp (rIxL K) (tVar 8) (tVar 9)) tNil))) (tC (.bl false)))) (tTest (tOp rNe (tCB rStrA (tCons (tOp (rIxL K) (tVar 8) (tVar 9)) tNil)) (tVar 10)))) (tRet (tC (.bl false))) tNext)))))))
    (tRet (tC (.bl true)))))))))
theorem dd_eq {k n : Int} {h : PyData} {r : List PyData} : isDd k n (.tuple (h :: r)) = (if PyData.eqv h (.str "wish") = true then dWish k n r else if PyData.eqv h (.str "cancel") = true then dCan r else if PyData.eqv h (.str "change") = true then dChg k n r else false) := rfl
theorem dd_wish {k n : Int} {r : List PyData} : isDd k n (.tuple (.str "wish" :: r)) = dWish k n r := by
  have h : PyData.eqv (.str "wish") (.str "wish") = true := by decide +kernel
  rw [dd_eq, if_pos h]
theorem dd_can {k n : Int} {r : List PyData} : isDd k n (.tuple (.str "cancel" :: r)) = dCan r := by
  have h1 : ¬ PyData.eqv (.str "cancel") (.str "wish") = true := by decide +kernel
  have h : PyData.eqv (.str "cancel") (.str "cancel") = true := by decide +kernel
  rw [dd_eq, if_neg h1, if_pos h]
theorem dd_chg {k n : Int} {r : List PyData} : isDd k n (.tuple (.str "change" :: r)) = dChg k n r := by
  have h1 : ¬ PyData.eqv (.str "change") (.str "wish") = true := by decide +kernel
  have h2 : ¬ PyData.eqv (.str "change") (.str "cancel") = true := by decide +kernel
  have h : PyData.eqv (.str "change") (.str "change") = true := by decide +kernel
  rw [dd_eq, if_neg h1, if_neg h2, if_pos h]
theorem dd_oth {k n : Int} {h : PyData} {r : List PyData} (h1 : PyData.eqv h (.str "wish") = false) (h2 : PyData.eqv h (.str "cancel") = false) (h3 : PyData.eqv h (.str "change") = false) : isDd k n (.tuple (h :: r)) = false := by
  rw [dd_eq, h1, h2, h3]; rfl
theorem hd_str {x : Str} {r : List PyData} (h : SeqAt.shaped (.str x) = true) : HdOk (.tuple (.str x :: r)) := h
theorem hdW {r : List PyData} : HdOk (.tuple (.str "wish" :: r)) := hd_str (by decide +kernel)
theorem hdC {r : List PyData} : HdOk (.tuple (.str "cancel" :: r)) := hd_str (by decide +kernel)
theorem hdG {r : List PyData} : HdOk (.tuple (.str "change" :: r)) := hd_str (by decide +kernel)
abbrev lwS (a d : Addr) (x2 : Option V) (pv : V) (z : Int) (v5 v6 v7 v8 v9 v10 : Option V) : L2.St := [some (.ref a), some (.ref d), x2, some pv, some (.int z), v5, v6, v7, v8, v9, v10]
theorem rights (T : Txt K mg A) {H : Hp} {a d sp : Addr} {S : Setup} {pv : V} {ss : List Stay} {z : Int} {D : Ends} (so : SetupOk S) (dS : Da H (.ref sp) (setupD S)) (po : PartyOk S ss) (dp : Da H pv (partyD ss)) (hz : 0 ≤ z)
    (nx : ∀ v5 H', Fr [] H H' → D.nx (lwS a d (some (.ref sp)) pv z v5 none none none none none) H') : t_rights K A D (lwS a d (some (.ref sp)) pv z none none none none none none) H := by
  obtain ⟨sp', r, pp, prs, sa⟩ := SetAt.of dS
  cases sa.e
  have e0 := sa.t
  have er := sa.r
  have hk1 := so.k1
  have hn1 := so.n1
  unfold t_rights
  walk_at "go"
  rename_i p1 H1 n1 f1 e1 p2 H2 n2 f2 e2 p3 H3 n3 f3 e3 p4 H4 n4 f4 e4 p5 H5 n5 f5 e5
  refine g_mulA e5 (by simp) (by omega) (by omega) (Nat.le_of_ble_eq_true rfl) fun p6 H6 f6 e6 => ?_
  rw [flat1] at e6
  rw [List.length_map] at e4
  have G5 := f5.then0 f6
  have G4 := f4.then0 G5
  have G3 := f3.then0 G4
  have G2 := f2.then0 G3
  have e41 := G5.tup _ _ e4
  have e31 := G4.tup _ _ e3
  have e21 := G3.tup _ _ e2
  have e11 := G2.tup _ _ e1
  have F6 := f1.then0 G2
  have dp6 := Da.frL F6 dp (imm_party ss)
  have dS6 := Da.frL F6 dS (imm_setup S)
  clear f1 f2 f3 f4 f5 f6 e1 e2 e3 e4 e5 n1 n2 n3 n4 n5 G2 G3 G4 G5 e0 er sa dS dp
  walk_at "go"
  rename_i p7 H7 n7 f7 e7 L H8 n8 f8 e8
  have F78 := f7.then0 f8
  have F8 := F6.then0 F78
  have ok : ∀ v ∈ [V.ref p1, .ref p2, .ref p3, .ref p7], ∃ e, Da H8 v e ∧ HdOk e ∧ isDd S.rooms.length S.nights e = true := fun v hv => by
    have dp8 := Da.frL F78 dp6 (imm_party ss)
    simp only [List.mem_cons, List.not_mem_nil, or_false] at hv
    rcases hv with rfl | rfl | rfl | rfl
    · exact ⟨_, .tup (F78.tup _ _ e11) (Nat.le_of_ble_eq_true rfl) (.cons (.str _) (.one' dp8)), hdW, by rw [dd_wish]; exact pty_ok po⟩
    · exact ⟨_, .tup (F78.tup _ _ e21) (Nat.le_of_ble_eq_true rfl) (.cons (.str _) (.one' (.int z))), hdC, by rw [dd_can]; exact decide_eq_true hz⟩
    · refine ⟨_, .tup (F78.tup _ _ e31) (Nat.le_of_ble_eq_true rfl) (.cons (.str _) (.cons (.int z) (.one' dp8))), hdG, ?_⟩
      rw [dd_chg]
      show (true && decide (0 ≤ z) && isPty _ _ _) = true
      rw [pty_ok po, decide_eq_true hz]; rfl
    · have so4 : StayOk S (((S.rooms.length : Int) - 1, 0, S.nights) : Stay) := ⟨by show (0:Int) ≤ S.rooms.length - 1; omega, by show (S.rooms.length:Int) - 1 < _; omega, Int.le_refl _, by show (0:Int) < S.nights; omega, Int.le_refl _⟩
      refine ⟨.tuple [.str "wish", partyD (List.replicate 4 ((S.rooms.length : Int) - 1, 0, S.nights))], .tup (f8.tup _ _ e7) (Nat.le_of_ble_eq_true rfl) (.cons (.str _) (.one' ?_)), hdW, ?_⟩
      · unfold partyD
        rw [List.map_replicate]
        exact .tup (F78.tup _ _ e6) (by simp) (KDL.rep (d := 0) (.tup (F78.tup _ _ e41) (Nat.le_of_ble_eq_true rfl) (.cons (.int _) (.cons (.int _) (.cons (.int _) .nil)))) 4 _ Fr.refl.of0)
      · rw [dd_wish]; exact pty_ok (rep_ok so4 (by decide) (by decide))
  have dS8 := Da.frL F78 dS6 (imm_setup S)
  clear dS6 dp6 e41 e31 e21 e11 e6 F78 f7 f8 e7 n7 n8 F6
  refine f_list (xs := [V.ref p1, .ref p2, .ref p3, .ref p7]) (fun i σ H' => (∃ v5, σ = lwS a d (some (.ref sp)) pv z v5 none none none none none) ∧ Fr [] H8 H') ⟨⟨_, rfl⟩, Fr.refl⟩ (fun i σ H' _ ⟨_, f⟩ => SqL.of (f.at0 e8)) ?_ ?_
  · rintro i v σ H9 hv ⟨⟨v5, rfl⟩, f9⟩
    obtain ⟨e, de, he, ie⟩ := ok v (List.mem_of_getElem? hv)
    walk_at "go"
    refine c_Lis_deed ⟨S, e, Da.frL f9 dS8 (imm_setup S), Da.fr0 f9 _ _ de, he, fun H10 f10 => ?_⟩
    rw [ie]
    walk_at "go"
    refine ⟨true, true, rfl, rfl, ?_⟩
    walk_at "go"
    refine g_iteNB (fun z => nomatch z) fun _ => ?_
    walk_at "go"
    exact ⟨⟨_, rfl⟩, f9.then0 f10⟩
  · rintro σ H9 ⟨⟨v5, rfl⟩, f9⟩
    exact nx v5 H9 (F8.then0 f9)
theorem ltD {xs : List PyData} (h : ∀ x ∈ xs, Lt 5000 3 x) (hl : xs.length ≤ 4) : Lt 100000 6 (.tuple xs) := (Lt.tup (n := 4) h hl).mono (by decide) (by decide)
theorem ltD1 {a : PyData} (h1 : Lt 5000 3 a) : Lt 100000 6 (.tuple [a]) := ltD (fun x hx => by rw [List.mem_singleton.mp hx]; exact h1) (Nat.le_of_ble_eq_true rfl)
theorem ltD2 {a b : PyData} (h1 : Lt 5000 3 a) (h2 : Lt 5000 3 b) : Lt 100000 6 (.tuple [a, b]) := ltD (fun x hx => by
    simp only [List.mem_cons, List.not_mem_nil, or_false] at hx
    rcases hx with rfl | rfl <;> assumption) (Nat.le_of_ble_eq_true rfl)
theorem ltD3 {a b c : PyData} (h1 : Lt 5000 3 a) (h2 : Lt 5000 3 b) (h3 : Lt 5000 3 c) : Lt 100000 6 (.tuple [a, b, c]) := ltD (fun x hx => by
    simp only [List.mem_cons, List.not_mem_nil, or_false] at hx
    rcases hx with rfl | rfl | rfl <;> assumption) (Nat.le_of_ble_eq_true rfl)
theorem lt53 {e : PyData} (h : Lt 41 0 e) : Lt 5000 3 e := h.mono (by decide) (by decide)
theorem ltStr {x : Str} (h : lite (.str x) = true) (w : PyData.weight (.str x) ≤ 41) : Lt 41 0 (.str x) := ⟨h, w, by simp [PyData.depth]⟩
theorem lW : Lt 5000 3 (.str "wish") := lt53 (ltStr (by decide +kernel) (by decide +kernel))
theorem lW2 : Lt 5000 3 (.str "Wish") := lt53 (ltStr (by decide +kernel) (by decide +kernel))
theorem lC : Lt 5000 3 (.str "cancel") := lt53 (ltStr (by decide +kernel) (by decide +kernel))
theorem lG : Lt 5000 3 (.str "change") := lt53 (ltStr (by decide +kernel) (by decide +kernel))
theorem lV : Lt 5000 3 (.str "give") := lt53 (ltStr (by decide +kernel) (by decide +kernel))
theorem lZ : Lt 5000 3 (.str "0") := lt53 (ltStr (by decide +kernel) (by decide +kernel))
theorem lN : Lt 5000 3 .none := lt53 ⟨by decide +kernel, by decide +kernel, by decide +kernel⟩
theorem lB (b : Bool) : Lt 5000 3 (.bool b) := by cases b <;> exact lt53 ⟨by decide +kernel, by decide +kernel, by decide +kernel⟩
theorem lI {z : Int} (h : -1 ≤ z) (h2 : z ≤ 10 ^ 12) : Lt 5000 3 (.int z) := by
  by_cases q : 0 ≤ z
  · exact lt53 (Lt.int12 q h2)
  · exact lt53 (Lt.int (by omega))
theorem lt_party {S : Setup} {ss : List Stay} (so : SetupOk S) (h : PartyOk S ss) : Lt 5000 3 (partyD ss) := by
  have hk3 := so.k3
  have hn2 := so.n2
  have h4 := h.l4
  refine ltP (fun x hx => ?_) (by rw [List.length_map]; omega)
  obtain ⟨s, hs, rfl⟩ := List.mem_map.mp hx
  obtain ⟨q1, q2, q3, q4, q5⟩ := h.ok s hs
  exact ltS3 (ltI (by omega)) (ltI (by omega)) (ltI (by omega))
def NoDd (d : Addr) (k n : Int) (H : Hp) (v : V) : Prop := ∃ e, KD d H v e ∧ HdOk e ∧ isDd k n e = false ∧ Lt 100000 6 e
theorem wrongs (T : Txt K mg A) {H : Hp} {a d l : Addr} {x2 : Option V} {S : Setup} {pv w : V} {ss : List Stay} {ew : PyData} {z : Int} {v5 v6 v8 v9 v10 : Option V} {D : Ends} (D0 : Draws H d l) (so : SetupOk S) (po : PartyOk S ss) (dp : Da H pv (partyD ss)) (hz : 0 ≤ z) (hz2 : z ≤ 10 ^ 12)
    (kw : KD d H w ew) (bw : isPty S.rooms.length S.nights ew = false) (lw : Lt 5000 3 ew)
    (nx : ∀ L xs H', Fr [] H H' → H' L = some (.lst xs) → L ≠ d → xs.length = 23 → (∀ v ∈ xs, NoDd d S.rooms.length S.nights H' v) → D.nx (lwS a d x2 pv z v5 v6 (some w) (some (.ref L)) v9 v10) H') :
    t_wrongs K A D (lwS a d x2 pv z v5 v6 (some w) v8 v9 v10) H := by
  have kp : KD d H pv (partyD ss) := .imm dp (imm_party ss)
  have lp := lt_party so po
  unfold t_wrongs
  walk_at "go"
  rename_i p0 H0 m0 f0 i0 p1 H1 m1 f1 i1 p2 H2 m2 f2 i2 p3 H3 m3 f3 i3 p4 H4 m4 f4 i4 p5 H5 m5 f5 i5 p6 H6 m6 f6 i6 p7 H7 m7 f7 i7 p8 H8 m8 f8 i8 p9 H9 m9 f9 i9 p10 H10 m10 f10 i10 p11 H11 m11 f11 i11 p12 H12 m12 f12 i12 p13 H13 m13 f13 i13 p14 H14 m14 f14 i14 p15 H15 m15 f15 i15 p16 H16 m16 f16 i16 p17 H17 m17 f17 i17 p18 H18 m18 f18 i18 p19 H19 m19 f19 i19 L H' mL fL eL
  have k19 := fL
  have k18 := f19.then0 k19
  have k17 := f18.then0 k18
  have k16 := f17.then0 k17
  have k15 := f16.then0 k16
  have k14 := f15.then0 k15
  have k13 := f14.then0 k14
  have k12 := f13.then0 k13
  have k11 := f12.then0 k12
  have k10 := f11.then0 k11
  have k9 := f10.then0 k10
  have k8 := f9.then0 k9
  have k7 := f8.then0 k8
  have k6 := f7.then0 k7
  have k5 := f6.then0 k6
  have k4 := f5.then0 k5
  have k3 := f4.then0 k4
  have k2 := f3.then0 k3
  have k1 := f2.then0 k2
  have k0 := f1.then0 k1
  have F3 : Fr [] H H3 := ((f0.then0 f1).then0 f2).then0 f3
  have F19 : Fr [] H H19 := (((((((((((((((F3.then0 f4).then0 f5).then0 f6).then0 f7).then0 f8).then0 f9).then0 f10).then0 f11).then0 f12).then0 f13).then0 f14).then0 f15).then0 f16).then0 f17).then0 f18).then0 f19
  have F : Fr [] H H' := f0.then0 k0
  have n4 : p4 ≠ d := ((D0.fr F3 nin0 nin0).new1 m4).symm
  refine nx L _ H' F eL ((D0.fr F19 nin0 nin0).new1 mL).symm rfl fun v hv => ?_
  have kw := kw.fr0 F
  have kp := kp.fr0 F
  have lz : Lt 5000 3 (.int z) := lI (by omega) hz2
  have l0 : Lt 5000 3 (.int 0) := lI (by decide) (by decide)
  have l1 : Lt 5000 3 (.int (-1)) := lI (by decide) (by decide)
  clear f0 f1 f2 f3 f4 f5 f6 f7 f8 f9 f10 f11 f12 f13 f14 f15 f16 f17 f18 f19 F3 F19 F m0 m1 m2 m3 m4 m5 m6 m7 m8 m9 m10 m11 m12 m13 m14 m15 m16 m17 m18 m19 mL eL nx
  simp only [List.mem_cons, List.not_mem_nil, or_false] at hv
  rcases hv with rfl | rfl | rfl | rfl | rfl | rfl | rfl | rfl | rfl | rfl | rfl | rfl | rfl | rfl | rfl | rfl | rfl | rfl | rfl | rfl | rfl | rfl | rfl
  · exact ⟨_, .tup (k0.tup _ _ i0) (Nat.le_of_ble_eq_true rfl) (.cons (.str _) (.cons kw .nil)), hdW, by rw [dd_wish]; exact bw, ltD2 lW lw⟩
  · exact ⟨_, .tup (k1.tup _ _ i1) (Nat.le_of_ble_eq_true rfl) (.cons (.str _) (.cons (.int z) (.cons kw .nil))), hdG, by rw [dd_chg]; show (_ && _ && isPty _ _ _) = false; rw [bw, Bool.and_false], ltD3 lG lz lw⟩
  · exact ⟨_, .tup (k2.tup _ _ i2) (Nat.le_of_ble_eq_true rfl) (.cons (.str _) (.cons kp (.cons (.int 0) .nil))), hdW, by rw [dd_wish]; rfl, ltD3 lW lp l0⟩
  · exact ⟨_, .tup (k3.tup _ _ i3) (Nat.le_of_ble_eq_true rfl) (.cons (.str _) .nil), hdW, by rw [dd_wish]; rfl, ltD1 lW⟩
  · exact ⟨_, .lst (k4.at0 i4) n4 (Nat.le_of_ble_eq_true rfl) (.cons (.str _) (.cons kp .nil)), trivial, rfl, (Lt.lst (n := 2) (w := 5000) (k := 3) (fun x hx => by
      simp only [List.mem_cons, List.not_mem_nil, or_false] at hx
      rcases hx with rfl | rfl
      · exact lW
      · exact lp) (Nat.le_of_ble_eq_true rfl)).mono (by decide) (by decide)⟩
  · exact ⟨_, .tup (k5.tup _ _ i5) (Nat.le_of_ble_eq_true rfl) (.cons (.str _) (.cons kp .nil)), hd_str (by decide +kernel), dd_oth (by decide +kernel) (by decide +kernel) (by decide +kernel), ltD2 lW2 lp⟩
  · exact ⟨_, .tup (k6.tup _ _ i6) (Nat.le_of_ble_eq_true rfl) (.cons (.str _) .nil), hdC, by rw [dd_can]; rfl, ltD1 lC⟩
  · exact ⟨_, .tup (k7.tup _ _ i7) (Nat.le_of_ble_eq_true rfl) (.cons (.str _) (.cons (.int (-1)) .nil)), hdC, by rw [dd_can]; rfl, ltD2 lC l1⟩
  · exact ⟨_, .tup (k8.tup _ _ i8) (Nat.le_of_ble_eq_true rfl) (.cons (.str _) (.cons (.int 0) (.cons (.int 1) .nil))), hdC, by rw [dd_can]; rfl, ltD3 lC l0 (lI (by decide) (by decide))⟩
  · exact ⟨_, .tup (k9.tup _ _ i9) (Nat.le_of_ble_eq_true rfl) (.cons (.str _) (.cons .non .nil)), hdC, by rw [dd_can]; rfl, ltD2 lC lN⟩
  · exact ⟨_, .tup (k10.tup _ _ i10) (Nat.le_of_ble_eq_true rfl) (.cons (.str _) (.cons (.bl true) .nil)), hdC, by rw [dd_can]; rfl, ltD2 lC (lB _)⟩
  · exact ⟨_, .tup (k11.tup _ _ i11) (Nat.le_of_ble_eq_true rfl) (.cons (.str _) (.cons (.int (-1)) (.cons kp .nil))), hdG, by rw [dd_chg]; rfl, ltD3 lG l1 lp⟩
  · exact ⟨_, .tup (k12.tup _ _ i12) (Nat.le_of_ble_eq_true rfl) (.cons (.str _) (.cons kp .nil)), hdG, by rw [dd_chg]; rfl, ltD2 lG lp⟩
  · exact ⟨_, .tup (k13.tup _ _ i13) (Nat.le_of_ble_eq_true rfl) (.cons (.str _) (.cons (.int z) .nil)), hdG, by rw [dd_chg]; rfl, ltD2 lG lz⟩
  · exact ⟨_, .tup (k14.tup _ _ i14) (Nat.le_of_ble_eq_true rfl) (.cons (.str _) (.cons (.bl false) (.cons kp .nil))), hdG, by rw [dd_chg]; rfl, ltD3 lG (lB _) lp⟩
  · exact ⟨_, .tup (k15.tup _ _ i15) (Nat.le_of_ble_eq_true rfl) (.cons (.str _) (.cons kp (.cons (.int z) .nil))), hdG, by rw [dd_chg]; rfl, ltD3 lG lp lz⟩
  · exact ⟨_, .non, trivial, rfl, lN.mono (by decide) (by decide)⟩
  · exact ⟨_, .tup (k16.tup _ _ i16) (Nat.zero_le _) .nil, trivial, rfl, ltD (xs := []) (fun x hx => nomatch hx) (Nat.zero_le _)⟩
  · exact ⟨_, .str _, trivial, rfl, lW.mono (by decide) (by decide)⟩
  · exact ⟨_, .int 5, trivial, rfl, (lI (z := 5) (by decide) (by decide)).mono (by decide) (by decide)⟩
  · exact ⟨_, .tup (k17.tup _ _ i17) (Nat.le_of_ble_eq_true rfl) (.cons (.str _) (.cons (.str _) .nil)), hdC, by rw [dd_can]; rfl, ltD2 lC lZ⟩
  · exact ⟨_, .tup (k18.tup _ _ i18) (Nat.le_of_ble_eq_true rfl) (.cons (.str _) (.cons (.int 0) (.cons (.int 0) .nil))), hd_str (by decide +kernel), dd_oth (by decide +kernel) (by decide +kernel) (by decide +kernel), ltD3 lV l0 l0⟩
  · exact ⟨_, .tup (k19.tup _ _ i19) (Nat.le_of_ble_eq_true rfl) (.cons .non (.cons kp .nil)), (show SeqAt.shaped .none = true from by decide +kernel), dd_oth (by decide +kernel) (by decide +kernel) (by decide +kernel), ltD2 lN lp⟩
theorem pu_law (T : Txt K mg A) {x0 : V} {H : Hp} {Q : VK} (h : P_law K A x0 H Q) : t_law K A { nx := fun _ H' => Q .non H', rt := Q } [some x0, none, none, none, none, none, none, none, none, none, none] H := by
  obtain ⟨a, ns, rfl, hS, hl, k⟩ := h
  unfold t_law
  walk_at "go"
  refine c_Lnumbers ⟨a, ns, rfl, hS, hl, fun nl ms H1 n1 f1 e1 sm hm => ?_⟩
  walk_at "go"
  rename_i d H2 n2 f2 e2
  have D2 : Draws H2 d nl := ⟨ms, 0, e2, f2.at0 e1, sm, hm, Int.le_refl _⟩
  refine c_Lsetup ⟨d, nl, rfl, D2, fun sv S H3 so dS f3 D3 => ?_⟩
  clear hS f1 f2 f3 e1 e2 D2 n1 n2 sm hm
  walk_at "go"
  refine c_Lparty ⟨d, nl, S, rfl, D3, so, dS, fun pv ss H4 po dp f4 D4 => ?_⟩
  have dS4 := Da.frL f4 dS (imm_setup S)
  clear f4 dS D3
  walk_at "go"
  rename_i y1 H5 y10 y11 f5 D5 y2 H6 y20 y21 f6 D6 p7 H7 n7 f7 e7 y3 H8 y30 y31 f8 D8
  have n7d : p7 ≠ d := (D6.new1 n7).symm
  obtain ⟨v, hv, hmem⟩ := atI_mem (xs := [V.int (y1 % 50), .int y2, .int (10 ^ (12 : Int).toNat)]) (z := y3 % 3) (by omega) (by show y3 % 3 < 3; omega)
  obtain ⟨z, rfl, hz, hz2⟩ : ∃ z, v = .int z ∧ 0 ≤ z ∧ z ≤ 10 ^ 12 := by
    simp only [List.mem_cons, List.not_mem_nil, or_false] at hmem
    rcases hmem with h | h | h
    · exact ⟨_, h, by omega, by omega⟩
    · exact ⟨_, h, by omega, by omega⟩
    · exact ⟨_, h, by decide, by decide⟩
  refine g_ixL (SqL.of (f8.at e7 (nin1 n7d nin0))) hv ?_
  have F8 := ((f5.transL f6).transL f7.of0).transL f8
  have dS8 := Da.frL F8 dS4 (imm_setup S)
  have dp8 := Da.frL F8 dp (imm_party ss)
  clear f5 f6 f7 f8 e7 n7 F8 dS4 dp D6 D5 D4 hv hmem y1 y10 y11 y2 y20 y21 y3 y30 y31
  obtain ⟨sp, r, pp, prs, sa⟩ := SetAt.of dS8
  cases sa.e
  clear sa
  walk_at "go"
  refine rights (a := a) T so dS8 po dp8 hz fun v5 H9 f9 => ?_
  have dS9 := Da.frL f9 dS8 (imm_setup S)
  have dp9 := Da.frL f9 dp8 (imm_party ss)
  have D9 := D8.fr f9 nin0 nin0
  clear dS8 dp8 D8 f9
  walk_at "go"
  refine f_range (lo := 0) (n := 4) (fun i σ H' => (∃ v5 v6 v7 v8 v9 v10, σ = lwS a d (some (.ref sp)) pv z v5 v6 v7 v8 v9 v10) ∧ Draws H' d nl ∧ Da H' (.ref sp) (setupD S) ∧ Da H' pv (partyD ss)) ⟨⟨_, _, _, _, _, _, rfl⟩, D9, dS9, dp9⟩ ?_ ?_
  · clear dS9 dp9 D9
    rintro i σ H1 hi ⟨⟨v5, v6, v7, v8, v9, v10, rfl⟩, D1, dS1, dp1⟩
    walk_at "go"
    refine c_Lbad_party ⟨d, nl, S, rfl, D1, so, dS1, fun w ew H2 kw bw lw f2 D2 => ?_⟩
    have dS2 := Da.frL f2 dS1 (imm_setup S)
    have dp2 := Da.frL f2 dp1 (imm_party ss)
    clear dS1 dp1 D1 f2
    walk_at "go"
    refine wrongs (S := S) (ss := ss) (l := nl) T D2 so po dp2 hz hz2 kw bw lw fun L xs H3 f3 eL nL hxl hx => ?_
    have D3 := D2.fr f3 nin0 nin0
    have dS3 := Da.frL f3 dS2 (imm_setup S)
    have dp3 := Da.frL f3 dp2 (imm_party ss)
    clear dS2 dp2 D2 f3 kw
    walk_at "go"
    rename_i y H5 y0 y1 f5 D5
    have eL5 := f5.at eL (nin1 nL nin0)
    have dS5 := Da.frL f5 dS3 (imm_setup S)
    have dp5 := Da.frL f5 dp3 (imm_party ss)
    have hx5 : ∀ v ∈ xs, NoDd d S.rooms.length S.nights H5 v := fun v hv => by
      obtain ⟨e, a1, a2⟩ := hx v hv
      exact ⟨e, a1.fr f5, a2⟩
    clear dS3 dp3 D3 f5 hx eL
    refine g_cut (fun σ H' => ∃ p, 0 ≤ p ∧ p ≤ 22 ∧ σ = lwS a d (some (.ref sp)) pv z v5 (some (.int (0 + (i : Int)))) (some w) (some (.ref L)) (some (.int p)) v10 ∧ H' = H5) ?_ ?_
    · walk_at "go"
      refine g_ite (fun c => ?_) (fun c => ?_)
      · walk_at "go"
        exact ⟨_, by omega, by omega, rfl, rfl⟩
      · walk_at "go"
        exact ⟨_, by omega, by omega, rfl, rfl⟩
    · rintro σ H' ⟨p, hp0, hp1, rfl, rfl⟩
      obtain ⟨v, hv, hv2⟩ := atI_of (xs := xs) (z := p) hp0 (by omega)
      obtain ⟨e, ke, he, be, le⟩ := hx5 v (List.mem_of_getElem? hv2)
      walk_at "go"
      refine g_ixL (SqL.of eL5) hv ?_
      walk_at "go"
      refine g_strA ke.da (le.tidy (by decide) (by decide)) ?_
      walk_at "go"
      refine g_ixL (SqL.of eL5) hv ?_
      walk_at "go"
      refine c_Lis_deed ⟨S, e, dS5, ke.da, he, fun H6 f6 => ?_⟩
      rw [be]
      walk_at "go"
      refine ⟨false, false, rfl, rfl, ?_⟩
      walk_at "go"
      refine g_iteNB (fun z => nomatch z) fun _ => ?_
      walk_at "go"
      refine g_ixL (SqL.of (f6.at0 eL5)) hv ?_
      walk_at "go"
      refine g_strA (ke.fr0 f6).da (le.tidy (by decide) (by decide)) ?_
      walk_at "go"
      refine g_iteN (fun q => absurd rfl q) fun _ => ?_
      walk_at "go"
      exact ⟨⟨_, _, _, _, _, _, rfl⟩, D5.fr f6 nin0 nin0, Da.frL f6 dS5 (imm_setup S), Da.frL f6 dp5 (imm_party ss)⟩
  · rintro σ H1 ⟨⟨v5, v6, v7, v8, v9, v10, rfl⟩, D1, dS1, dp1⟩
    walk_at "go"
    exact k _
theorem ok_law {f : Addr} {fd : FuncData} (F : Fun K "law" "law" s_law f fd) (T : Txt K mg A) (c_Lsetup : Cal P w K mg base "_law_setup" 3 ["_law_draws"] (sp_Lsetup K A)) (c_Lparty : Cal P w K mg base "_law_party" 4 ["_law_draws", "_law_setup_here"] (sp_Lparty K A)) (c_Lnumbers : Cal P w K mg base "_law_numbers" 2 ["_law_script"] (sp_Lnumbers K A)) (c_Lbad_party : Cal P w K mg base "_law_bad_party" 4 ["_law_draws", "_law_setup_here"] (sp_Lbad_party K A)) (c_Ldraw : Cal P w K mg base "_law_draw" 2 ["_law_draws"] (sp_Ldraw K A)) (c_Lis_deed : Cal P w K mg base "_law_is_deed" 7 ["_law_setup_here", "_law_deed"] (sp_Lis_deed K A)) : LawG P w K mg base (8) f fd ["_law_script"] (sp_law K A) := by
  refine Fun.law F sc_law (fun cdv s H vs Q E hr h => ⟨t_law K A, ?_, ?_⟩)
  · have hu := hu_of hr
    exact (pss_cons (ps_set (i := 1) sc_law.nd rfl (Or.inl rfl) (pe_lst (pa_cons (pe_cl c_Lnumbers (hr.mono (by first | decide | omega)) (by rfl) (pa_cons (pv 0) pa_nil)) (pa_cons pe_int pa_nil))))
    (pss_cons (ps_set (i := 2) sc_law.nd rfl (Or.inl rfl) (pe_cl c_Lsetup (hr.mono (by first | decide | omega)) (by rfl) (pa_cons (pv 1) pa_nil)))
    (pss_cons (ps_set (i := 3) sc_law.nd rfl (Or.inl rfl) (pe_cl c_Lparty (hr.mono (by first | decide | omega)) (by rfl) (pa_cons (pv 1) (pa_cons (pv 2) pa_nil))))
    (pss_cons (ps_set (i := 4) sc_law.nd rfl (Or.inl rfl) (pe_ix ix_list (pe_lst (pa_cons (pe_op o_mod (pe_cl c_Ldraw (hr.mono (by first | decide | omega)) (by rfl) (pa_cons (pv 1) pa_nil)) pe_int) (pa_cons (pe_cl c_Ldraw (hr.mono (by first | decide | omega)) (by rfl) (pa_cons (pv 1) pa_nil)) (pa_cons (pe_op o_pow pe_int pe_int) pa_nil)))) (pe_op o_mod (pe_cl c_Ldraw (hr.mono (by first | decide | omega)) (by rfl) (pa_cons (pv 1) pa_nil)) pe_int) (fun _ _ => rfl)))
    (pss_cons (ps_for PassesOwn.never rfl (pi_list (pe_lst (pa_cons (pe_tup (pa_cons pe_str (pa_cons (pv 3) pa_nil))) (pa_cons (pe_tup (pa_cons pe_str (pa_cons (pv 4) pa_nil))) (pa_cons (pe_tup (pa_cons pe_str (pa_cons (pv 4) (pa_cons (pv 3) pa_nil)))) (pa_cons (pe_tup (pa_cons pe_str (pa_cons (pe_op Lw.op_mulA (pe_tup (pa_cons (pe_tup (pa_cons (pe_op o_sub (pe_callB b_len (by rfl) T.b_len (by decide +kernel) (pa_cons (pe_ix ix_tup (pv 2) pe_int (fun _ _ => rfl)) pa_nil)) pe_int) (pa_cons pe_int (pa_cons (pe_ix ix_tup (pv 2) pe_int (fun _ _ => rfl)) pa_nil)))) pa_nil)) pe_int) pa_nil))) pa_nil)))))) (pg_name (i := 5) sc_law.nd rfl (Or.inl rfl)) (pss_one (ps_if (pt_cmpR op_notBl (pe_cl c_Lis_deed (hr.mono (by first | decide | omega)) (by rfl) (pa_cons (pv 2) (pa_cons (pv 5) pa_nil))) pe_bl (nomark _)) (pss_one (ps_ret pe_bl)) pss_nil)))
    (pss_cons (ps_for PassesOwn.never rfl (pi_range1 rfl T.b_range (pa_cons pe_int pa_nil)) (pg_name (i := 6) sc_law.nd rfl (Or.inl rfl)) (pss_cons (ps_set (i := 7) sc_law.nd rfl (Or.inl rfl) (pe_cl c_Lbad_party (hr.mono (by first | decide | omega)) (by rfl) (pa_cons (pv 1) (pa_cons (pv 2) pa_nil))))
    (pss_cons (ps_set (i := 8) sc_law.nd rfl (Or.inl rfl) (pe_lst (pa_cons (pe_tup (pa_cons pe_str (pa_cons (pv 7) pa_nil))) (pa_cons (pe_tup (pa_cons pe_str (pa_cons (pv 4) (pa_cons (pv 7) pa_nil)))) (pa_cons (pe_tup (pa_cons pe_str (pa_cons (pv 3) (pa_cons pe_int pa_nil)))) (pa_cons (pe_tup (pa_cons pe_str pa_nil)) (pa_cons (pe_lst (pa_cons pe_str (pa_cons (pv 3) pa_nil))) (pa_cons (pe_tup (pa_cons pe_str (pa_cons (pv 3) pa_nil))) (pa_cons (pe_tup (pa_cons pe_str pa_nil)) (pa_cons (pe_tup (pa_cons pe_str (pa_cons (pe_un un_neg pe_int) pa_nil))) (pa_cons (pe_tup (pa_cons pe_str (pa_cons pe_int (pa_cons pe_int pa_nil)))) (pa_cons (pe_tup (pa_cons pe_str (pa_cons pe_non pa_nil))) (pa_cons (pe_tup (pa_cons pe_str (pa_cons pe_bl pa_nil))) (pa_cons (pe_tup (pa_cons pe_str (pa_cons (pe_un un_neg pe_int) (pa_cons (pv 3) pa_nil)))) (pa_cons (pe_tup (pa_cons pe_str (pa_cons (pv 3) pa_nil))) (pa_cons (pe_tup (pa_cons pe_str (pa_cons (pv 4) pa_nil))) (pa_cons (pe_tup (pa_cons pe_str (pa_cons pe_bl (pa_cons (pv 3) pa_nil)))) (pa_cons (pe_tup (pa_cons pe_str (pa_cons (pv 3) (pa_cons (pv 4) pa_nil)))) (pa_cons pe_non (pa_cons (pe_tup pa_nil) (pa_cons pe_str (pa_cons pe_int (pa_cons (pe_tup (pa_cons pe_str (pa_cons pe_str pa_nil))) (pa_cons (pe_tup (pa_cons pe_str (pa_cons pe_int (pa_cons pe_int pa_nil)))) (pa_cons (pe_tup (pa_cons pe_non (pa_cons (pv 3) pa_nil))) pa_nil)))))))))))))))))))))))))
    (pss_cons (ps_set (i := 9) sc_law.nd rfl (Or.inl rfl) (pe_op o_mod (pe_cl c_Ldraw (hr.mono (by first | decide | omega)) (by rfl) (pa_cons (pv 1) pa_nil)) pe_int))
    (Evl.pss_cut (ps_if (pt_cmpR c_gt (pv 9) pe_int (nomark _)) (pss_one (ps_set (i := 9) sc_law.nd rfl (Or.inl rfl) (pe_op o_mod (pv 9) pe_int))) pss_nil)
    (pss_cons (ps_set (i := 10) sc_law.nd rfl (Or.inl rfl) (pe_callTy (b_strA rfl (Nat.lt_of_le_of_lt (Nat.add_le_add_right (Nat.le_add_right _ _) 200) hr.un)) (by rfl) T.b_str (by decide +kernel) (pa_cons (pe_ix ix_list (pv 8) (pv 9) (fun _ _ => rfl)) pa_nil)))
    (pss_one (ps_if (PW.pt (pw_or (pt_cmpR op_notBl (pe_cl c_Lis_deed (hr.mono (by first | decide | omega)) (by rfl) (pa_cons (pv 2) (pa_cons (pe_ix ix_list (pv 8) (pv 9) (fun _ _ => rfl)) pa_nil))) pe_bl (nomark _)) (pw_or1 (pt_cmpR op_ne (pe_callTy (b_strA rfl (Nat.lt_of_le_of_lt (Nat.add_le_add_right (Nat.le_add_right _ _) 200) hr.un)) (by rfl) T.b_str (by decide +kernel) (pa_cons (pe_ix ix_list (pv 8) (pv 9) (fun _ _ => rfl)) pa_nil)) (pv 10) (nomark _))))) (pss_one (ps_ret pe_bl)) pss_nil))))))))
    (pss_one (ps_ret pe_bl))))))))
  · obtain ⟨x0, rfl, h⟩ := h
    exact pu_law T h

end
/-! ### what the top has written -/
theorem all_mk {l : PySem.W.OpenLaw} {w : World} {K : PySem.W.Frag} {h : Heap} {mg : Str → Option Value} {fa : Addr} (X : K.In h) (G : h.Ns mainGlobals mg) (hfa : mg "law" = some (.ref fa))
    {f1 : Addr} {od1 an1 : Option Addr} {sl1 : Array (Option Value)} {oc1 kV1 dc1 pm1 cd1 ct1 : Value}
    {f2 : Addr} {od2 an2 : Option Addr} {sl2 : Array (Option Value)} {oc2 kV2 dc2 pm2 cd2 ct2 : Value}
    {f3 : Addr} {od3 an3 : Option Addr} {sl3 : Array (Option Value)} {oc3 kV3 dc3 pm3 cd3 ct3 : Value}
    {f4 : Addr} {od4 an4 : Option Addr} {sl4 : Array (Option Value)} {oc4 kV4 dc4 pm4 cd4 ct4 : Value}
    {f5 : Addr} {od5 an5 : Option Addr} {sl5 : Array (Option Value)} {oc5 kV5 dc5 pm5 cd5 ct5 : Value}
    {f6 : Addr} {od6 an6 : Option Addr} {sl6 : Array (Option Value)} {oc6 kV6 dc6 pm6 cd6 ct6 : Value}
    {f7 : Addr} {od7 an7 : Option Addr} {sl7 : Array (Option Value)} {oc7 kV7 dc7 pm7 cd7 ct7 : Value}
    {f8 : Addr} {od8 an8 : Option Addr} {sl8 : Array (Option Value)} {oc8 kV8 dc8 pm8 cd8 ct8 : Value}
    {f9 : Addr} {od9 an9 : Option Addr} {sl9 : Array (Option Value)} {oc9 kV9 dc9 pm9 cd9 ct9 : Value}
    {f10 : Addr} {od10 an10 : Option Addr} {sl10 : Array (Option Value)} {oc10 kV10 dc10 pm10 cd10 ct10 : Value}
    {f11 : Addr} {od11 an11 : Option Addr} {sl11 : Array (Option Value)} {oc11 kV11 dc11 pm11 cd11 ct11 : Value}
    {f12 : Addr} {od12 an12 : Option Addr} {sl12 : Array (Option Value)} {oc12 kV12 dc12 pm12 cd12 ct12 : Value}
    {f13 : Addr} {od13 an13 : Option Addr} {sl13 : Array (Option Value)} {oc13 kV13 dc13 pm13 cd13 ct13 : Value}
    {f14 : Addr} {od14 an14 : Option Addr} {sl14 : Array (Option Value)} {oc14 kV14 dc14 pm14 cd14 ct14 : Value}
    {f15 : Addr} {od15 an15 : Option Addr} {sl15 : Array (Option Value)} {oc15 kV15 dc15 pm15 cd15 ct15 : Value}
    {C_ManydoorsError : Addr}
    {C_BadSetup : Addr}
    {C_BadDeed : Addr}
    {C_BadStay : Addr}
    {C_BadHistory : Addr}
    {C_BadText : Addr}
    {C_BadLine : Addr}
    {tk_PARTY : Tok}
    (a1 : PySem.W.nsIn K mainGlobals "is_integer" = some (some (.ref f1)))
    (l1 : K.lookup f1 = some ⟨oc1, od1, .func (PySem.W.fnOf "is_integer" "is_integer" (defArgs s_is_integer) (defBody s_is_integer) (defScope s_is_integer) .none kV1 dc1 pm1 an1 cd1 ct1), sl1⟩)
    (c1 : PySem.W.codeIn K cd1 "is_integer" = true)
    (k1 : PySem.W.keepIn K (.ref f1) = true)
    (a2 : PySem.W.nsIn K mainGlobals "is_from" = some (some (.ref f2)))
    (l2 : K.lookup f2 = some ⟨oc2, od2, .func (PySem.W.fnOf "is_from" "is_from" (defArgs s_is_from) (defBody s_is_from) (defScope s_is_from) .none kV2 dc2 pm2 an2 cd2 ct2), sl2⟩)
    (c2 : PySem.W.codeIn K cd2 "is_from" = true)
    (k2 : PySem.W.keepIn K (.ref f2) = true)
    (a3 : PySem.W.nsIn K mainGlobals "is_stay" = some (some (.ref f3)))
    (l3 : K.lookup f3 = some ⟨oc3, od3, .func (PySem.W.fnOf "is_stay" "is_stay" (defArgs s_is_stay) (defBody s_is_stay) (defScope s_is_stay) .none kV3 dc3 pm3 an3 cd3 ct3), sl3⟩)
    (c3 : PySem.W.codeIn K cd3 "is_stay" = true)
    (k3 : PySem.W.keepIn K (.ref f3) = true)
    (a4 : PySem.W.nsIn K mainGlobals "is_party" = some (some (.ref f4)))
    (l4 : K.lookup f4 = some ⟨oc4, od4, .func (PySem.W.fnOf "is_party" "is_party" (defArgs s_is_party) (defBody s_is_party) (defScope s_is_party) .none kV4 dc4 pm4 an4 cd4 ct4), sl4⟩)
    (c4 : PySem.W.codeIn K cd4 "is_party" = true)
    (k4 : PySem.W.keepIn K (.ref f4) = true)
    (a5 : PySem.W.nsIn K mainGlobals "is_deed" = some (some (.ref f5)))
    (l5 : K.lookup f5 = some ⟨oc5, od5, .func (PySem.W.fnOf "is_deed" "is_deed" (defArgs s_is_deed) (defBody s_is_deed) (defScope s_is_deed) .none kV5 dc5 pm5 an5 cd5 ct5), sl5⟩)
    (c5 : PySem.W.codeIn K cd5 "is_deed" = true)
    (k5 : PySem.W.keepIn K (.ref f5) = true)
    (a6 : PySem.W.nsIn K mainGlobals "check_deed" = some (some (.ref f6)))
    (l6 : K.lookup f6 = some ⟨oc6, od6, .func (PySem.W.fnOf "check_deed" "check_deed" (defArgs s_check_deed) (defBody s_check_deed) (defScope s_check_deed) .none kV6 dc6 pm6 an6 cd6 ct6), sl6⟩)
    (c6 : PySem.W.codeIn K cd6 "check_deed" = true)
    (k6 : PySem.W.keepIn K (.ref f6) = true)
    (a7 : PySem.W.nsIn K mainGlobals "_law_mixed" = some (some (.ref f7)))
    (l7 : K.lookup f7 = some ⟨oc7, od7, .func (PySem.W.fnOf "_law_mixed" "_law_mixed" (defArgs s_Lmixed) (defBody s_Lmixed) (defScope s_Lmixed) .none kV7 dc7 pm7 an7 cd7 ct7), sl7⟩)
    (c7 : PySem.W.codeIn K cd7 "_law_mixed" = true)
    (k7 : PySem.W.keepIn K (.ref f7) = true)
    (a8 : PySem.W.nsIn K mainGlobals "_law_numbers" = some (some (.ref f8)))
    (l8 : K.lookup f8 = some ⟨oc8, od8, .func (PySem.W.fnOf "_law_numbers" "_law_numbers" (defArgs s_Lnumbers) (defBody s_Lnumbers) (defScope s_Lnumbers) .none kV8 dc8 pm8 an8 cd8 ct8), sl8⟩)
    (c8 : PySem.W.codeIn K cd8 "_law_numbers" = true)
    (k8 : PySem.W.keepIn K (.ref f8) = true)
    (a9 : PySem.W.nsIn K mainGlobals "_law_draw" = some (some (.ref f9)))
    (l9 : K.lookup f9 = some ⟨oc9, od9, .func (PySem.W.fnOf "_law_draw" "_law_draw" (defArgs s_Ldraw) (defBody s_Ldraw) (defScope s_Ldraw) .none kV9 dc9 pm9 an9 cd9 ct9), sl9⟩)
    (c9 : PySem.W.codeIn K cd9 "_law_draw" = true)
    (k9 : PySem.W.keepIn K (.ref f9) = true)
    (a10 : PySem.W.nsIn K mainGlobals "_law_setup" = some (some (.ref f10)))
    (l10 : K.lookup f10 = some ⟨oc10, od10, .func (PySem.W.fnOf "_law_setup" "_law_setup" (defArgs s_Lsetup) (defBody s_Lsetup) (defScope s_Lsetup) .none kV10 dc10 pm10 an10 cd10 ct10), sl10⟩)
    (c10 : PySem.W.codeIn K cd10 "_law_setup" = true)
    (k10 : PySem.W.keepIn K (.ref f10) = true)
    (a11 : PySem.W.nsIn K mainGlobals "_law_stay" = some (some (.ref f11)))
    (l11 : K.lookup f11 = some ⟨oc11, od11, .func (PySem.W.fnOf "_law_stay" "_law_stay" (defArgs s_Lstay) (defBody s_Lstay) (defScope s_Lstay) .none kV11 dc11 pm11 an11 cd11 ct11), sl11⟩)
    (c11 : PySem.W.codeIn K cd11 "_law_stay" = true)
    (k11 : PySem.W.keepIn K (.ref f11) = true)
    (a12 : PySem.W.nsIn K mainGlobals "_law_party" = some (some (.ref f12)))
    (l12 : K.lookup f12 = some ⟨oc12, od12, .func (PySem.W.fnOf "_law_party" "_law_party" (defArgs s_Lparty) (defBody s_Lparty) (defScope s_Lparty) .none kV12 dc12 pm12 an12 cd12 ct12), sl12⟩)
    (c12 : PySem.W.codeIn K cd12 "_law_party" = true)
    (k12 : PySem.W.keepIn K (.ref f12) = true)
    (a13 : PySem.W.nsIn K mainGlobals "_law_is_deed" = some (some (.ref f13)))
    (l13 : K.lookup f13 = some ⟨oc13, od13, .func (PySem.W.fnOf "_law_is_deed" "_law_is_deed" (defArgs s_Lis_deed) (defBody s_Lis_deed) (defScope s_Lis_deed) .none kV13 dc13 pm13 an13 cd13 ct13), sl13⟩)
    (c13 : PySem.W.codeIn K cd13 "_law_is_deed" = true)
    (k13 : PySem.W.keepIn K (.ref f13) = true)
    (a14 : PySem.W.nsIn K mainGlobals "_law_bad_party" = some (some (.ref f14)))
    (l14 : K.lookup f14 = some ⟨oc14, od14, .func (PySem.W.fnOf "_law_bad_party" "_law_bad_party" (defArgs s_Lbad_party) (defBody s_Lbad_party) (defScope s_Lbad_party) .none kV14 dc14 pm14 an14 cd14 ct14), sl14⟩)
    (c14 : PySem.W.codeIn K cd14 "_law_bad_party" = true)
    (k14 : PySem.W.keepIn K (.ref f14) = true)
    (a15 : PySem.W.nsIn K mainGlobals "law" = some (some (.ref f15)))
    (l15 : K.lookup f15 = some ⟨oc15, od15, .func (PySem.W.fnOf "law" "law" (defArgs s_law) (defBody s_law) (defScope s_law) .none kV15 dc15 pm15 an15 cd15 ct15), sl15⟩)
    (c15 : PySem.W.codeIn K cd15 "law" = true)
    (k15 : PySem.W.keepIn K (.ref f15) = true)
    (aC_ManydoorsError : PySem.W.nsIn K mainGlobals "ManydoorsError" = some (some (.ref C_ManydoorsError)))
    (kx_ManydoorsError : PySem.W.keepIn K (.ref C_ManydoorsError) = true)
    (ex_ManydoorsError : PySem.W.excIn K C_ManydoorsError [.type "ValueError", .type "Exception", .type "BaseException", .type "object"] "ValueError.__new__" = true)
    (sx_ManydoorsError : PySem.W.subIn K (.ref C_ManydoorsError) (.type "BaseException") = some true)
    (tx_ManydoorsError : PySem.W.typeIn K (.ref C_ManydoorsError) = some (.type "type"))
    (aC_BadSetup : PySem.W.nsIn K mainGlobals "BadSetup" = some (some (.ref C_BadSetup)))
    (kx_BadSetup : PySem.W.keepIn K (.ref C_BadSetup) = true)
    (ex_BadSetup : PySem.W.excIn K C_BadSetup [.type "ValueError", .type "Exception", .type "BaseException", .type "object"] "ValueError.__new__" = true)
    (sx_BadSetup : PySem.W.subIn K (.ref C_BadSetup) (.type "BaseException") = some true)
    (tx_BadSetup : PySem.W.typeIn K (.ref C_BadSetup) = some (.type "type"))
    (aC_BadDeed : PySem.W.nsIn K mainGlobals "BadDeed" = some (some (.ref C_BadDeed)))
    (kx_BadDeed : PySem.W.keepIn K (.ref C_BadDeed) = true)
    (ex_BadDeed : PySem.W.excIn K C_BadDeed [.type "ValueError", .type "Exception", .type "BaseException", .type "object"] "ValueError.__new__" = true)
    (sx_BadDeed : PySem.W.subIn K (.ref C_BadDeed) (.type "BaseException") = some true)
    (tx_BadDeed : PySem.W.typeIn K (.ref C_BadDeed) = some (.type "type"))
    (aC_BadStay : PySem.W.nsIn K mainGlobals "BadStay" = some (some (.ref C_BadStay)))
    (kx_BadStay : PySem.W.keepIn K (.ref C_BadStay) = true)
    (ex_BadStay : PySem.W.excIn K C_BadStay [.type "ValueError", .type "Exception", .type "BaseException", .type "object"] "ValueError.__new__" = true)
    (sx_BadStay : PySem.W.subIn K (.ref C_BadStay) (.type "BaseException") = some true)
    (tx_BadStay : PySem.W.typeIn K (.ref C_BadStay) = some (.type "type"))
    (aC_BadHistory : PySem.W.nsIn K mainGlobals "BadHistory" = some (some (.ref C_BadHistory)))
    (kx_BadHistory : PySem.W.keepIn K (.ref C_BadHistory) = true)
    (ex_BadHistory : PySem.W.excIn K C_BadHistory [.type "ValueError", .type "Exception", .type "BaseException", .type "object"] "ValueError.__new__" = true)
    (sx_BadHistory : PySem.W.subIn K (.ref C_BadHistory) (.type "BaseException") = some true)
    (tx_BadHistory : PySem.W.typeIn K (.ref C_BadHistory) = some (.type "type"))
    (aC_BadText : PySem.W.nsIn K mainGlobals "BadText" = some (some (.ref C_BadText)))
    (kx_BadText : PySem.W.keepIn K (.ref C_BadText) = true)
    (ex_BadText : PySem.W.excIn K C_BadText [.type "ValueError", .type "Exception", .type "BaseException", .type "object"] "ValueError.__new__" = true)
    (sx_BadText : PySem.W.subIn K (.ref C_BadText) (.type "BaseException") = some true)
    (tx_BadText : PySem.W.typeIn K (.ref C_BadText) = some (.type "type"))
    (aC_BadLine : PySem.W.nsIn K mainGlobals "BadLine" = some (some (.ref C_BadLine)))
    (kx_BadLine : PySem.W.keepIn K (.ref C_BadLine) = true)
    (ex_BadLine : PySem.W.excIn K C_BadLine [.type "ValueError", .type "Exception", .type "BaseException", .type "object"] "ValueError.__new__" = true)
    (sx_BadLine : PySem.W.subIn K (.ref C_BadLine) (.type "BaseException") = some true)
    (tx_BadLine : PySem.W.typeIn K (.ref C_BadLine) = some (.type "type"))
    (gk_PARTY : PySem.W.nsIn K mainGlobals "PARTY" = some (some (.int 4 tk_PARTY)))
    (y1_BadDeed : PySem.W.findIn K (.ref C_BadDeed) "__getattribute__" = some (some (.builtin "BaseException.__getattribute__")))
    (y2_BadDeed : PySem.W.findIn K (.ref C_BadDeed) "__getattr__" = some none)
    (y3_BadDeed : PySem.W.hasDictIn K C_BadDeed = true)
    (y4_BadDeed : PySem.W.findIn K (.ref C_BadDeed) "__class__" = some (some (.builtin "object.__class__")))
    (y5_BadDeed : PySem.W.specialIn K (.builtin "object.__class__") "__get__" = some (some (.builtin "getset_descriptor.__get__")))
    (y6_BadDeed : PySem.W.takesIn K (.builtin "object.__class__") = some true)
    (y7_BadDeed : PySem.W.mroIn K C_BadDeed (.type "object") = some true)
    (q_k_self : PySem.W.subIn K (.ref C_BadDeed) (.ref C_BadDeed) = some true)
    (q_k_many : PySem.W.kitOne K (.ref C_BadDeed) (.ref C_ManydoorsError) = some true)
    (q_k_oth : PySem.W.kitAny K (.ref C_BadDeed) [.ref C_BadHistory, .ref C_BadLine, .ref C_BadSetup, .ref C_BadStay, .ref C_BadText] = some false)
    (z_isinstance : PySem.W.nsIn K mainGlobals "isinstance" = some none)
    (z_int : PySem.W.nsIn K mainGlobals "int" = some none)
    (z_bool : PySem.W.nsIn K mainGlobals "bool" = some none)
    (z_tuple : PySem.W.nsIn K mainGlobals "tuple" = some none)
    (z_len : PySem.W.nsIn K mainGlobals "len" = some none)
    (z_all : PySem.W.nsIn K mainGlobals "all" = some none)
    (z_list : PySem.W.nsIn K mainGlobals "list" = some none)
    (z_sorted : PySem.W.nsIn K mainGlobals "sorted" = some none)
    (z_range : PySem.W.nsIn K mainGlobals "range" = some none)
    (z_min : PySem.W.nsIn K mainGlobals "min" = some none)
    (z_str : PySem.W.nsIn K mainGlobals "str" = some none)
    : ∃ fd : FuncData, (∀ (s : Shared) (v : Value), BindsTo s fd ⟨[v], []⟩ [("_law_script", v)]) ∧ ∀ base : Heap, K.In base → base.Ns mainGlobals mg → LawG l.prog w K mg base 8 fa fd ["_law_script"] (spLaw K) := by
  have e := hfa.symm.trans (PySem.W.mg_of X G a15)
  cases e
  let A : Ad := ⟨C_ManydoorsError, C_BadSetup, C_BadDeed, C_BadStay, C_BadHistory, C_BadText, C_BadLine⟩
  have T : Txt K mg A := { b_isinstance := PySem.W.mg_none_of X G z_isinstance, b_int := PySem.W.mg_none_of X G z_int, b_bool := PySem.W.mg_none_of X G z_bool, b_tuple := PySem.W.mg_none_of X G z_tuple, b_len := PySem.W.mg_none_of X G z_len, b_all := PySem.W.mg_none_of X G z_all, b_list := PySem.W.mg_none_of X G z_list, b_sorted := PySem.W.mg_none_of X G z_sorted, b_range := PySem.W.mg_none_of X G z_range, b_min := PySem.W.mg_none_of X G z_min, b_str := PySem.W.mg_none_of X G z_str, g_PARTY := ⟨_, PySem.W.mg_of X G gk_PARTY⟩, x_ManydoorsError := ⟨PySem.W.mg_of X G aC_ManydoorsError, kx_ManydoorsError, ex_ManydoorsError, sx_ManydoorsError, tx_ManydoorsError⟩, x_BadSetup := ⟨PySem.W.mg_of X G aC_BadSetup, kx_BadSetup, ex_BadSetup, sx_BadSetup, tx_BadSetup⟩, x_BadDeed := ⟨PySem.W.mg_of X G aC_BadDeed, kx_BadDeed, ex_BadDeed, sx_BadDeed, tx_BadDeed⟩, x_BadStay := ⟨PySem.W.mg_of X G aC_BadStay, kx_BadStay, ex_BadStay, sx_BadStay, tx_BadStay⟩, x_BadHistory := ⟨PySem.W.mg_of X G aC_BadHistory, kx_BadHistory, ex_BadHistory, sx_BadHistory, tx_BadHistory⟩, x_BadText := ⟨PySem.W.mg_of X G aC_BadText, kx_BadText, ex_BadText, sx_BadText, tx_BadText⟩, x_BadLine := ⟨PySem.W.mg_of X G aC_BadLine, kx_BadLine, ex_BadLine, sx_BadLine, tx_BadLine⟩, ec_BadDeed := ⟨y1_BadDeed, y2_BadDeed, sx_BadDeed, y3_BadDeed, y4_BadDeed, y5_BadDeed, y6_BadDeed, y7_BadDeed⟩, k_self := q_k_self, k_many := q_k_many, k_oth := q_k_oth }
  have F1 := fun_mk (st := s_is_integer) l1 c1 k1
  have b1 := F1.binds (ps := ["value"]) fun _ _ _ _ _ _ us hl => match us, hl with | [_], _ => rfl
  have F2 := fun_mk (st := s_is_from) l2 c2 k2
  have b2 := F2.binds (ps := ["value", "least", "most"]) fun _ _ _ _ _ _ us hl => match us, hl with | [_, _, _], _ => rfl
  have F3 := fun_mk (st := s_is_stay) l3 c3 k3
  have b3 := F3.binds (ps := ["stay", "kinds", "nights"]) fun _ _ _ _ _ _ us hl => match us, hl with | [_, _, _], _ => rfl
  have F4 := fun_mk (st := s_is_party) l4 c4 k4
  have b4 := F4.binds (ps := ["party", "kinds", "nights"]) fun _ _ _ _ _ _ us hl => match us, hl with | [_, _, _], _ => rfl
  have F5 := fun_mk (st := s_is_deed) l5 c5 k5
  have b5 := F5.binds (ps := ["deed", "kinds", "nights"]) fun _ _ _ _ _ _ us hl => match us, hl with | [_, _, _], _ => rfl
  have F6 := fun_mk (st := s_check_deed) l6 c6 k6
  have b6 := F6.binds (ps := ["setup", "deed"]) fun _ _ _ _ _ _ us hl => match us, hl with | [_, _], _ => rfl
  have F7 := fun_mk (st := s_Lmixed) l7 c7 k7
  have b7 := F7.binds (ps := ["_law_number", "_law_k"]) fun _ _ _ _ _ _ us hl => match us, hl with | [_, _], _ => rfl
  have F8 := fun_mk (st := s_Lnumbers) l8 c8 k8
  have b8 := F8.binds (ps := ["_law_script"]) fun _ _ _ _ _ _ us hl => match us, hl with | [_], _ => rfl
  have F9 := fun_mk (st := s_Ldraw) l9 c9 k9
  have b9 := F9.binds (ps := ["_law_draws"]) fun _ _ _ _ _ _ us hl => match us, hl with | [_], _ => rfl
  have F10 := fun_mk (st := s_Lsetup) l10 c10 k10
  have b10 := F10.binds (ps := ["_law_draws"]) fun _ _ _ _ _ _ us hl => match us, hl with | [_], _ => rfl
  have F11 := fun_mk (st := s_Lstay) l11 c11 k11
  have b11 := F11.binds (ps := ["_law_draws", "_law_setup_here"]) fun _ _ _ _ _ _ us hl => match us, hl with | [_, _], _ => rfl
  have F12 := fun_mk (st := s_Lparty) l12 c12 k12
  have b12 := F12.binds (ps := ["_law_draws", "_law_setup_here"]) fun _ _ _ _ _ _ us hl => match us, hl with | [_, _], _ => rfl
  have F13 := fun_mk (st := s_Lis_deed) l13 c13 k13
  have b13 := F13.binds (ps := ["_law_setup_here", "_law_deed"]) fun _ _ _ _ _ _ us hl => match us, hl with | [_, _], _ => rfl
  have F14 := fun_mk (st := s_Lbad_party) l14 c14 k14
  have b14 := F14.binds (ps := ["_law_draws", "_law_setup_here"]) fun _ _ _ _ _ _ us hl => match us, hl with | [_, _], _ => rfl
  have F15 := fun_mk (st := s_law) l15 c15 k15
  have b15 := F15.binds (ps := ["_law_script"]) fun _ _ _ _ _ _ us hl => match us, hl with | [_], _ => rfl
  refine ⟨PySem.W.fnOf "law" "law" (defArgs s_law) (defBody s_law) (defScope s_law) .none kV15 dc15 pm15 an15 cd15 ct15, fun s v => .of_eq rfl, fun base _ _ => ?_⟩
  have o_is_integer := ok_is_integer (P := l.prog) (w := w) (base := base) F1 T 
  have e_is_integer : Cal l.prog w K mg base "is_integer" 1 ["value"] (sp_is_integer K A) := ⟨⟨_, _, o_is_integer, PySem.W.mg_of X G a1, k1, b1⟩⟩
  have o_is_from := ok_is_from (P := l.prog) (w := w) (base := base) F2 T e_is_integer
  have e_is_from : Cal l.prog w K mg base "is_from" 2 ["value", "least", "most"] (sp_is_from K A) := ⟨⟨_, _, o_is_from, PySem.W.mg_of X G a2, k2, b2⟩⟩
  have o_is_stay := ok_is_stay (P := l.prog) (w := w) (base := base) F3 T e_is_from
  have e_is_stay : Cal l.prog w K mg base "is_stay" 3 ["stay", "kinds", "nights"] (sp_is_stay K A) := ⟨⟨_, _, o_is_stay, PySem.W.mg_of X G a3, k3, b3⟩⟩
  have o_is_party := ok_is_party (P := l.prog) (w := w) (base := base) F4 T e_is_stay
  have e_is_party : Cal l.prog w K mg base "is_party" 4 ["party", "kinds", "nights"] (sp_is_party K A) := ⟨⟨_, _, o_is_party, PySem.W.mg_of X G a4, k4, b4⟩⟩
  have o_is_deed := ok_is_deed (P := l.prog) (w := w) (base := base) F5 T e_is_integer e_is_party
  have e_is_deed : Cal l.prog w K mg base "is_deed" 5 ["deed", "kinds", "nights"] (sp_is_deed K A) := ⟨⟨_, _, o_is_deed, PySem.W.mg_of X G a5, k5, b5⟩⟩
  have o_check_deed := ok_check_deed (P := l.prog) (w := w) (base := base) F6 T e_is_deed
  have e_check_deed : CalX l.prog w K mg base "check_deed" 6 ["setup", "deed"] (sp_check_deed K A) := ⟨⟨_, _, o_check_deed, PySem.W.mg_of X G a6, k6, b6⟩⟩
  have o_Lmixed := ok_Lmixed (P := l.prog) (w := w) (base := base) F7 T 
  have e_Lmixed : Cal l.prog w K mg base "_law_mixed" 1 ["_law_number", "_law_k"] (sp_Lmixed K A) := ⟨⟨_, _, o_Lmixed, PySem.W.mg_of X G a7, k7, b7⟩⟩
  have o_Lnumbers := ok_Lnumbers (P := l.prog) (w := w) (base := base) F8 T e_Lmixed
  have e_Lnumbers : Cal l.prog w K mg base "_law_numbers" 2 ["_law_script"] (sp_Lnumbers K A) := ⟨⟨_, _, o_Lnumbers, PySem.W.mg_of X G a8, k8, b8⟩⟩
  have o_Ldraw := ok_Ldraw (P := l.prog) (w := w) (base := base) F9 T e_Lmixed
  have e_Ldraw : Cal l.prog w K mg base "_law_draw" 2 ["_law_draws"] (sp_Ldraw K A) := ⟨⟨_, _, o_Ldraw, PySem.W.mg_of X G a9, k9, b9⟩⟩
  have o_Lsetup := ok_Lsetup (P := l.prog) (w := w) (base := base) F10 T e_Ldraw
  have e_Lsetup : Cal l.prog w K mg base "_law_setup" 3 ["_law_draws"] (sp_Lsetup K A) := ⟨⟨_, _, o_Lsetup, PySem.W.mg_of X G a10, k10, b10⟩⟩
  have o_Lstay := ok_Lstay (P := l.prog) (w := w) (base := base) F11 T e_Ldraw
  have e_Lstay : Cal l.prog w K mg base "_law_stay" 3 ["_law_draws", "_law_setup_here"] (sp_Lstay K A) := ⟨⟨_, _, o_Lstay, PySem.W.mg_of X G a11, k11, b11⟩⟩
  have o_Lparty := ok_Lparty (P := l.prog) (w := w) (base := base) F12 T e_Lstay e_Ldraw
  have e_Lparty : Cal l.prog w K mg base "_law_party" 4 ["_law_draws", "_law_setup_here"] (sp_Lparty K A) := ⟨⟨_, _, o_Lparty, PySem.W.mg_of X G a12, k12, b12⟩⟩
  have o_Lis_deed := ok_Lis_deed (P := l.prog) (w := w) (base := base) F13 T e_check_deed
  have e_Lis_deed : Cal l.prog w K mg base "_law_is_deed" 7 ["_law_setup_here", "_law_deed"] (sp_Lis_deed K A) := ⟨⟨_, _, o_Lis_deed, PySem.W.mg_of X G a13, k13, b13⟩⟩
  have o_Lbad_party := ok_Lbad_party (P := l.prog) (w := w) (base := base) F14 T e_Lstay e_Ldraw
  have e_Lbad_party : Cal l.prog w K mg base "_law_bad_party" 4 ["_law_draws", "_law_setup_here"] (sp_Lbad_party K A) := ⟨⟨_, _, o_Lbad_party, PySem.W.mg_of X G a14, k14, b14⟩⟩
  have o := ok_law (P := l.prog) (w := w) (base := base) F15 T e_Lsetup e_Lparty e_Lnumbers e_Lbad_party e_Ldraw e_Lis_deed
  exact ⟨fun s H us vs Q E r e b v u h => o.go s H us vs Q E r e b v u h⟩
theorem walk {l : PySem.W.OpenLaw} {q : Program} {loose : List Str} {XP : (Str → Option Value) → Heap → Prop} {YP : World → Heap → Prop} {d : DefRec} {K : Params → PySem.W.Frag} (hn : l.most = some 63) (hdf : d.params.defaults = [])
    (hY : ∀ (w : World) (h : Heap), YP w h → (K w.params).In h)
    (F : ∀ (w : World) (mg : Str → Option Value) (fa : Addr) (h : Heap), (K w.params).In h → h.Ns mainGlobals mg → mg d.name = some (.ref fa) →
      ∃ fd : FuncData, (∀ (s : Shared) (u : Value), BindsTo s fd ⟨[u], []⟩ [("_law_script", u)]) ∧ ∀ base : Heap, (K w.params).In base → base.Ns mainGlobals mg → LawG l.prog w (K w.params) mg base 8 fa fd ["_law_script"] (spLaw (K w.params))) :
    PySem.W.WalkO q loose XP YP l.row.toRowW d [] (fun f vs => PySem.call f vs) :=
  walkG (n := 63) (k := 8) (x := "_law_script") (sp := fun w => spLaw (K w.params)) hn (by decide) hdf ⟨rfl, by decide, by decide⟩ hY F (fun _ _ a ns hl hS => ⟨_, rfl, a, ns, rfl, hS, hl, fun _ => rfl⟩)
end Toy
open PySem PySem.W PyProof.Rows in
set_option maxRecDepth 100000 in
set_option maxHeartbeats 0 in
theorem PySem.Challenge.cw_manydoors_k02_deeds_are_checked_holds : PySem.Challenge.rw_manydoors_k02_deeds_are_checked.Holds := by
  w_on; o_law; k_head; (case hw => w_witness2)
  k_fill
  refine Toy.walk (l := PySem.Challenge.rw_manydoors_k02_deeds_are_checked) rfl rfl (fun w h Y => PySem.W.kIn_of Y) ?F
  case F =>
    intro w mg fa h KX G hmg
    refine' Toy.all_mk KX G hmg ?a1 ?l1 ?c1 ?k1 ?a2 ?l2 ?c2 ?k2 ?a3 ?l3 ?c3 ?k3 ?a4 ?l4 ?c4 ?k4 ?a5 ?l5 ?c5 ?k5 ?a6 ?l6 ?c6 ?k6 ?a7 ?l7 ?c7 ?k7 ?a8 ?l8 ?c8 ?k8 ?a9 ?l9 ?c9 ?k9 ?a10 ?l10 ?c10 ?k10 ?a11 ?l11 ?c11 ?k11 ?a12 ?l12 ?c12 ?k12 ?a13 ?l13 ?c13 ?k13 ?a14 ?l14 ?c14 ?k14 ?a15 ?l15 ?c15 ?k15 ?aC_ManydoorsError ?kx_ManydoorsError ?ex_ManydoorsError ?sx_ManydoorsError ?tx_ManydoorsError ?aC_BadSetup ?kx_BadSetup ?ex_BadSetup ?sx_BadSetup ?tx_BadSetup ?aC_BadDeed ?kx_BadDeed ?ex_BadDeed ?sx_BadDeed ?tx_BadDeed ?aC_BadStay ?kx_BadStay ?ex_BadStay ?sx_BadStay ?tx_BadStay ?aC_BadHistory ?kx_BadHistory ?ex_BadHistory ?sx_BadHistory ?tx_BadHistory ?aC_BadText ?kx_BadText ?ex_BadText ?sx_BadText ?tx_BadText ?aC_BadLine ?kx_BadLine ?ex_BadLine ?sx_BadLine ?tx_BadLine ?gk_PARTY ?y1_BadDeed ?y2_BadDeed ?y3_BadDeed ?y4_BadDeed ?y5_BadDeed ?y6_BadDeed ?y7_BadDeed ?q_k_self ?q_k_many ?q_k_oth ?z_isinstance ?z_int ?z_bool ?z_tuple ?z_len ?z_all ?z_list ?z_sorted ?z_range ?z_min ?z_str
    (case a1 => k_is)
    (case l1 => k_is)
    (case c1 => k_is)
    (case k1 => k_is)
    (case a2 => k_is)
    (case l2 => k_is)
    (case c2 => k_is)
    (case k2 => k_is)
    (case a3 => k_is)
    (case l3 => k_is)
    (case c3 => k_is)
    (case k3 => k_is)
    (case a4 => k_is)
    (case l4 => k_is)
    (case c4 => k_is)
    (case k4 => k_is)
    (case a5 => k_is)
    (case l5 => k_is)
    (case c5 => k_is)
    (case k5 => k_is)
    (case a6 => k_is)
    (case l6 => k_is)
    (case c6 => k_is)
    (case k6 => k_is)
    (case a7 => k_is)
    (case l7 => k_is)
    (case c7 => k_is)
    (case k7 => k_is)
    (case a8 => k_is)
    (case l8 => k_is)
    (case c8 => k_is)
    (case k8 => k_is)
    (case a9 => k_is)
    (case l9 => k_is)
    (case c9 => k_is)
    (case k9 => k_is)
    (case a10 => k_is)
    (case l10 => k_is)
    (case c10 => k_is)
    (case k10 => k_is)
    (case a11 => k_is)
    (case l11 => k_is)
    (case c11 => k_is)
    (case k11 => k_is)
    (case a12 => k_is)
    (case l12 => k_is)
    (case c12 => k_is)
    (case k12 => k_is)
    (case a13 => k_is)
    (case l13 => k_is)
    (case c13 => k_is)
    (case k13 => k_is)
    (case a14 => k_is)
    (case l14 => k_is)
    (case c14 => k_is)
    (case k14 => k_is)
    (case a15 => k_is)
    (case l15 => k_is)
    (case c15 => k_is)
    (case k15 => k_is)
    (case aC_ManydoorsError => k_is)
    (case kx_ManydoorsError => k_is)
    (case ex_ManydoorsError => k_exc)
    (case sx_ManydoorsError => k_is)
    (case tx_ManydoorsError => k_is)
    (case aC_BadSetup => k_is)
    (case kx_BadSetup => k_is)
    (case ex_BadSetup => k_exc)
    (case sx_BadSetup => k_is)
    (case tx_BadSetup => k_is)
    (case aC_BadDeed => k_is)
    (case kx_BadDeed => k_is)
    (case ex_BadDeed => k_exc)
    (case sx_BadDeed => k_is)
    (case tx_BadDeed => k_is)
    (case aC_BadStay => k_is)
    (case kx_BadStay => k_is)
    (case ex_BadStay => k_exc)
    (case sx_BadStay => k_is)
    (case tx_BadStay => k_is)
    (case aC_BadHistory => k_is)
    (case kx_BadHistory => k_is)
    (case ex_BadHistory => k_exc)
    (case sx_BadHistory => k_is)
    (case tx_BadHistory => k_is)
    (case aC_BadText => k_is)
    (case kx_BadText => k_is)
    (case ex_BadText => k_exc)
    (case sx_BadText => k_is)
    (case tx_BadText => k_is)
    (case aC_BadLine => k_is)
    (case kx_BadLine => k_is)
    (case ex_BadLine => k_exc)
    (case sx_BadLine => k_is)
    (case tx_BadLine => k_is)
    (case gk_PARTY => k_is)
    (case y1_BadDeed => k_is)
    (case y2_BadDeed => k_is)
    (case y3_BadDeed => k_is)
    (case y4_BadDeed => k_is)
    (case y5_BadDeed => k_is)
    (case y6_BadDeed => k_is)
    (case y7_BadDeed => k_is)
    (case q_k_self => k_is)
    (case q_k_many => kit_is)
    (case q_k_oth => kit_is)
    (case z_isinstance => k_is)
    (case z_int => k_is)
    (case z_bool => k_is)
    (case z_tuple => k_is)
    (case z_len => k_is)
    (case z_all => k_is)
    (case z_list => k_is)
    (case z_sorted => k_is)
    (case z_range => k_is)
    (case z_min => k_is)
    (case z_str => k_is)
#print axioms PySem.Challenge.cw_manydoors_k02_deeds_are_checked_holds


