import PyProof.Rows.All
import Wide.All
import OpenK.AllK
import Wide.FinOn
import HandS.ForMost
import HandS.IsInst
import HandS.Evl
import HandS.Conv
import HandS.Deep
import HandS.DeepEq
import HandS.DictTup
import HandS.Finally
import HandS.More
import HandS.TupAny
import HandS.TupLen
import HandS.Walk
import HandS.Zip
import KE.GoesEnum
import KE.GoesMore
import KE.KDictCopyH
import KE.KDictDisplayH
import KE.KDictKeyed
import KE.KDictOf
import KE.KDictSum
import KE.KeyNested
import KE.SortData
import HandS.Base
import HandS.Dict
import HandS.DictEq
import PySem.Challenge.RW_manydoors_k12_answers_of_desks_are_new
set_option Elab.async false
set_option linter.all false
set_option maxRecDepth 100000
set_option maxHeartbeats 1000000
namespace Lw
open PySem L2
structure Fr (l:List Addr) (H H':Hp) : Prop where
  keep:∀ a o,H a=some o→a∉l→H' a=some o
  tup:∀ a xs,H a=some (.tup xs)→H' a=some (.tup xs)
theorem Fr.refl {l:List Addr} {H:Hp}:Fr l H H:=⟨fun _ _ h _=>h,fun _ _ h=>h⟩
theorem Fr.mono {l m:List Addr} {H H':Hp} (f:Fr l H H') (h:∀ a,a∈l→a∈m) : Fr m H H':=⟨fun a o e n=>f.keep a o e fun q=>n (h a q),f.tup⟩
theorem Fr.of0 {m:List Addr} {H H':Hp} (f:Fr [] H H') : Fr m H H':=f.mono fun _ q=>nomatch q
theorem Fr.new {H:Hp} {p:Addr} {o:HO} (h:H p=none) : Fr [] H (upd H p o):=⟨fun a u e _=>by rw [upd_ne (ne_of_none e h)];exact e,fun a u e=>by rw [upd_ne (ne_of_none e h)];exact e⟩
def notTup:HO→Prop
  | .tup _=>False
  | _=>True
theorem Fr.put {H:Hp} {p:Addr} {o u:HO} (h:H p=some u) (hu : notTup u) : Fr [p] H (upd H p o):=by
  refine ⟨fun a v e n=>?_,fun a v e=>?_⟩
  · rw [upd_ne fun q=>n (List.mem_singleton.mpr q)];exact e
  · by_cases q : a=p
    · subst q;rw [h] at e;cases e;exact hu.elim
    · rw [upd_ne q];exact e
theorem Fr.trans {l m:List Addr} {H H1 H2:Hp} (f:Fr l H H1) (g:Fr m H1 H2) : Fr (l++m) H H2:=
  ⟨fun a o e n=>g.keep a o (f.keep a o e fun q=>n (List.mem_append_left _ q)) fun q=>n (List.mem_append_right _ q),fun a xs e=>g.tup a xs (f.tup a xs e)⟩
theorem Fr.transL {l:List Addr} {H H1 H2:Hp} (f:Fr l H H1) (g:Fr l H1 H2) : Fr l H H2:=(f.trans g).mono fun _ q=>(List.mem_append.mp q).elim id id
theorem Fr.then0 {l:List Addr} {H H1 H2:Hp} (f:Fr l H H1) (g:Fr [] H1 H2) : Fr l H H2:=f.transL g.of0
theorem Fr.pre0 {l:List Addr} {H H1 H2:Hp} (f:Fr [] H H1) (g:Fr l H1 H2) : Fr l H H2:=f.of0.transL g
theorem Fr.pre0' {l:List Addr} {H H1 H2:Hp} (g:Fr l H1 H2) (f:Fr [] H H1) : Fr l H H2:=f.pre0 g
theorem Fr.drop {l:List Addr} {p:Addr} {H H':Hp} (f:Fr (p::l) H H') (h:H p=none) : Fr l H H':=
  ⟨fun a o e n=>f.keep a o e fun q=>(List.mem_cons.mp q).elim (fun z=>by rw [z,h] at e;cases e) n,f.tup⟩
theorem Fr.free {H H':Hp} {p:Addr} (f:Fr [] H H') (h:H' p=none) : H p=none:=by
  cases q:H p with
  | none=>rfl
  | some o=>rw [f.keep p o q (by simp)] at h;cases h
theorem Fr.freeL {l:List Addr} {H H':Hp} {p:Addr} (f:Fr l H H') (h:H' p=none) (n : p∉l) : H p=none:=by
  cases q:H p with
  | none=>rfl
  | some o=>rw [f.keep p o q n] at h;cases h
theorem Fr.own {l m:List Addr} {H H' H2:Hp} (f:Fr l H H') (g:Fr m H' H2) (n:∀ a,a∈m→a∈l∨H a=none) : Fr l H H2:=
  ⟨fun a o e na=>g.keep a o (f.keep a o e na) fun q=>(n a q).elim na (fun z=>by rw [z] at e;cases e),fun a xs e=>g.tup a xs (f.tup a xs e)⟩
theorem Fr.own1 {l:List Addr} {p:Addr} {H H' H2:Hp} (f:Fr l H H') (g:Fr [p] H' H2) (n:H p=none) : Fr l H H2:=f.own g fun a q=>.inr (by rw [List.mem_singleton.mp q];exact n)
theorem frn0 {l:List Addr} {H:Hp}:∀ a,a∈([] : List Addr)→a∈l∨H a=none:=fun _ q=>nomatch q
theorem frn1 {p:Addr} {l m:List Addr} {H:Hp} (h : p∈l∨H p=none) (t:∀ a,a∈m→a∈l∨H a=none) : ∀ a,a∈p::m→a∈l∨H a=none:=fun a q=>(List.mem_cons.mp q).elim (fun e=>e ▸ h) (t a)
theorem nin0 {a:Addr} : a∉([] : List Addr):=by simp
theorem nin1 {a b:Addr} {l:List Addr} (h : a≠b) (t : a∉l) : a∉b::l:=by simp [h,t]
theorem Fr.tupAt {l:List Addr} {H H':Hp} {a:Addr} {xs:List V} (f:Fr l H H') (h:H a=some (.tup xs)) : H' a=some (.tup xs):=f.tup a xs h
theorem Fr.at0 {H H':Hp} {a:Addr} {o:HO} (f:Fr [] H H') (h:H a=some o) : H' a=some o:=f.keep a o h nin0
theorem Fr.at {l:List Addr} {H H':Hp} {a:Addr} {o:HO} (f:Fr l H H') (h:H a=some o) (n : a∉l) : H' a=some o:=f.keep a o h n
theorem Fr.sql {K:PySem.W.Frag} {l:List Addr} {H H':Hp} {a:Addr} {xs:List V} (f:Fr l H H') (h:SqL K H a xs) (n : a∉l) : SqL K H' a xs:=by
  rcases h with (h | ⟨o,h⟩) | h
  · exact .inl (.inl (f.keep _ _ h n))
  · exact .inl (.inr ⟨o,f.keep _ _ h n⟩)
  · exact .inr h
def oAdd:R2:=rI0 fun i j=>.int (i + j)
def oSub:R2:=rI0 fun i j=>.int (i - j)
def oMul:R2:=rI CMul fun i j=>.int (i * j)
def oMod:R2:=rI (fun _ j=>0 < j) fun i j=>.int (i % j)
def oDiv:R2:=rI CDiv fun i j=>.int (i / j)
def oPow:R2:=rI CPow fun i j=>.int (i ^ j.toNat)
def cLt:R2:=rI0 fun i j=>.bl (decide (i < j))
def cLe:R2:=rI0 fun i j=>.bl (decide (i≤j))
def cGt:R2:=rI0 fun i j=>.bl (decide (j < i))
def cGe:R2:=rI0 fun i j=>.bl (decide (j≤i))
section
variable {X:Cx}
theorem o_add:OpR X (binaryOp .Add) oAdd:=op_add
theorem o_sub:OpR X (binaryOp .Sub) oSub:=op_sub
theorem o_mul:OpR X (binaryOp .Mult) oMul:=op_mul
theorem o_mod:OpR X (binaryOp .Mod) oMod:=op_mod
theorem o_div:OpR X (binaryOp .FloorDiv) oDiv:=op_fdiv
theorem o_pow:OpR X (binaryOp .Pow) oPow:=op_pow
theorem c_lt:OpR X (compareOp .Lt) cLt:=op_lt
theorem c_le:OpR X (compareOp .LtE) cLe:=op_le
theorem c_gt:OpR X (compareOp .Gt) cGt:=op_gt
theorem c_ge:OpR X (compareOp .GtE) cGe:=op_ge
def rLenSq (K:PySem.W.Frag) : List V→Hp→VK→Prop:=fun xs H Q=>∃ p ys,xs=[.ref p]∧(SqL K H p ys∨SqT K H p ys)∧Q (.int ys.length) H
theorem b_len:CallR X (.builtin "len") (rLenSq X.K):=call_len_seq
def rListOf (K:PySem.W.Frag) : List V→Hp→VK→Prop:=fun xs H Q=>∃ p ys,xs=[.ref p]∧(SqL K H p ys∨SqT K H p ys)∧∀ l,H l=none→Q (.ref l) (upd H l (.lst ys))
def rTupOf (K:PySem.W.Frag) : List V→Hp→VK→Prop:=fun xs H Q=>∃ p ys,xs=[.ref p]∧((SqL K H p ys∧∀ l,H l=none→Q (.ref l) (upd H l (.tup ys)))∨(SqT K H p ys∧Q (.ref p) H))
theorem b_list:CallR X (.type "list") (rListOf X.K):=call_list_of
theorem b_tuple:CallR X (.type "tuple") (rTupOf X.K):=call_tuple_of
def rMax2:List V→Hp→VK→Prop:=fun xs H Q=>∃ i j,xs=[.int i,.int j]∧Q (.int (if j > i then j else i)) H
def rMin2:List V→Hp→VK→Prop:=fun xs H Q=>∃ i j,xs=[.int i,.int j]∧Q (.int (if j < i then j else i)) H
theorem b_max2 (hc:X.calm=true) : CallR X (.builtin "max") rMax2:=call_max2 hc
theorem b_min2 (hc:X.calm=true) : CallR X (.builtin "min") rMin2:=call_min2 hc
def rIsNon:R2:=fun x y H Q=>y=.non∧Q (.bl (decide (x=.non))) H
def rIsNotNon:R2:=fun x y H Q=>y=.non∧Q (.bl (!decide (x=.non))) H
theorem c_isN:OpR X (compareOp .Is) rIsNon:=op_isN
theorem c_notN:OpR X (compareOp .IsNot) rIsNotNon:=op_notN
def tTr (K:PySem.W.Frag) (ta:TE) : TT:=fun σ H Q=>ta σ H fun x H'=>∃ k,TruV K x H' k∧Q k H'
theorem pt_tr {a:Expr} {ta:TE} (ha:PE X a ta) (he:∀ whole,isTrue a X.env whole=(do let v ← whole;standAt a.pos;holding [v] (truthy v))) : PT X a (tTr X.K ta):=pt_truth ha he
def tCl (sp:Sp) (t:TA) : TE:=fun σ H Q=>t σ H fun vs H1=>sp vs H1 Q E0
def rMt (C:Addr) (m:Str) (x:V) (H:Hp) (p:Prop) : Prop:=∃ a dx fs,x=.ref a∧H a=some (.ins C dx fs)∧fs.lookup m=none∧p
def tMt (C:Addr) (m:Str) (sp:Sp) (ta:TE) (t:TA) : TE:=fun σ H Q=>ta σ H fun x H1=>rMt C m x H1 (t σ H1 fun vs H2=>sp (x::vs) H2 Q E0)
def tMk (C:Addr) (sp:Sp) (t:TA) : TE:=fun σ H Q=>t σ H fun vs H1=>∀ x dx,H1 x=none→H1 dx=none→dx≠x→
  sp (.ref x::vs) (upd (upd H1 dx (.own x)) x (.ins C dx [])) (fun v H2=>v=.non∧Q (.ref x) H2) E0
structure Cal (P:Program) (w:World) (K:PySem.W.Frag) (mg:Str→Option Value) (base:Heap) (x:Str) (k:Nat) (ps:List Str) (sp:Sp) : Prop where
  ex:∃ f fd,FnOk P w K mg base CX0 k f fd ps sp∧mg x=some (.ref f)∧PySem.W.keepIn K (.ref f)=true∧Binds K fd ps []
structure CalM (P:Program) (w:World) (K:PySem.W.Frag) (mg:Str→Option Value) (base:Heap) (C:Addr) (m:Str) (k:Nat) (ps:List Str) (sp:Sp) : Prop where
  ex:∃ f fd,FnOk P w K mg base CX0 k f fd ps sp∧Meth K C m f∧Binds K fd ps []
structure CalC (P:Program) (w:World) (K:PySem.W.Frag) (mg:Str→Option Value) (base:Heap) (x:Str) (C:Addr) (k:Nat) (ps:List Str) (sp:Sp) : Prop where
  ex:∃ f fd,FnOk P w K mg base CX0 k f fd ps sp∧Mk K C f∧mg x=some (.ref C)∧Binds K fd ps []
variable {k:Nat} {ps:List Str} {sp:Sp} {x m:Str} {p pos apos:Pos} {e o:Expr} {es:List Expr} {ta:TE} {t:TA} {C:Addr}
theorem tcl_eq {E:XK}:(tCall sp [] E0 t)=tCl sp t:=by
  funext σ H Q
  show (t σ H fun vs H1=>sp (vs++[]) H1 Q E0)=(t σ H fun vs H1=>sp vs H1 Q E0)
  simp only [List.append_nil]
theorem pe_cl (c:Cal X.prog X.w X.K X.mg X.base x k ps sp) (hr:Room k X.A) (hg:Gl X x) (ha:PA X (e::es) t) (hdb:(x == ("__debug__" : Str))=false:=by decide)
    (he : starEach (e::es) X.env=(false,eval e X.env)::starEach es X.env:=by rfl) (hpl:(backTo pos (starEach es X.env)).any (·.1)=false:=by rfl) : PE X (.Call (.Name x p) (e::es) [] pos) (tCl sp t):=by
  obtain ⟨f,fd,F,hm,hk,hb⟩:=c.ex
  rw [← tcl_eq (E:=E0)]
  exact pe_call F hr hg hm hk hb .nil pass0 ha hdb he hpl
theorem tmt_eq:(tMeth C m sp [] E0 ta t)=tMt C m sp ta t:=by
  funext σ H Q
  show (ta σ H fun x H1=>∃ a dx fs,x=.ref a∧H1 a=some (.ins C dx fs)∧fs.lookup m=none∧t σ H1 fun vs H2=>sp (x::(vs++[])) H2 Q E0)=_
  simp only [List.append_nil]
  rfl
theorem tmk_eq:(tMake C sp [] E0 t)=tMk C sp t:=by
  funext σ H Q
  show (t σ H fun vs H1=>∀ x dx,H1 x=none→H1 dx=none→dx≠x→sp (.ref x::(vs++[])) (upd (upd H1 dx (.own x)) x (.ins C dx [])) (fun v H2=>v=.non∧Q (.ref x) H2) E0)=_
  simp only [List.append_nil]
  rfl
theorem pe_mt {pl:Sem Bool} (he:PE X o ta) (c:Cls X.K C) (cm:CalM X.prog X.w X.K X.mg X.base C m k ps sp) (hr:Room k X.A) (ha:PA X (e::es) t)
    (hst : starEach (e::es) X.env=(false,eval e X.env)::starEach es X.env:=by rfl) (hpl:(backTo pos (starEach es X.env)).any (·.1)=false:=by rfl)
    (ht : eval (.Call (.Attribute o m apos) (e::es) [] pos) X.env=(do
      let ov ← eval o X.env
      standAt apos.atName
      let (f,first) ← holding [ov] (getMethod ov m pl)
      callWith pos f first (backTo pos (starEach (e::es) X.env)) (backToKw pos (keywordEach [] X.env))):=by rfl) :
    PE X (.Call (.Attribute o m apos) (e::es) [] pos) (tMt C m sp ta t):=by
  obtain ⟨f,fd,F,hm,hb⟩:=cm.ex
  rw [← tmt_eq]
  exact pe_meth (pl:=pl) he c hm F hr hb .nil pass0 ha hst hpl ht
theorem pe_mt0 {pl:Sem Bool} (he:PE X o ta) (c:Cls X.K C) (cm:CalM X.prog X.w X.K X.mg X.base C m k ps sp) (hr:Room k X.A)
    (ht : eval (.Call (.Attribute o m apos) [] [] pos) X.env=(do
      let ov ← eval o X.env
      standAt apos.atName
      let (f,first) ← holding [ov] (getMethod ov m pl)
      callWith pos f first (backTo pos (starEach [] X.env)) (backToKw pos (keywordEach [] X.env))):=by rfl) :
    PE X (.Call (.Attribute o m apos) [] [] pos) (tMt C m sp ta tNil):=by
  obtain ⟨f,fd,F,hm,hb⟩:=cm.ex
  rw [← tmt_eq]
  exact pe_meth0 (pl:=pl) he c hm F hr hb .nil pass0 ht
theorem pe_mk (cm:CalC X.prog X.w X.K X.mg X.base x C k ps sp) (hr:Room (k + 1) X.A) (hg:Gl X x) (ha:PA X (e::es) t) (hdb:(x == ("__debug__" : Str))=false:=by decide)
    (he : starEach (e::es) X.env=(false,eval e X.env)::starEach es X.env:=by rfl) (hpl:(backTo pos (starEach es X.env)).any (·.1)=false:=by rfl) :
    PE X (.Call (.Name x p) (e::es) [] pos) (tMk C sp t):=by
  obtain ⟨f,fd,F,hM,hm,hb⟩:=cm.ex
  rw [← tmk_eq]
  exact pe_make hM F hr hg hm hb .nil pass0 ha hdb he hpl
end
section
variable {K:PySem.W.Frag} {σ:L2.St} {H H':Hp} {Q:VK} {D:Ends} {i:Nat} {v x y:V} {ta tb te tc:TE} {r:R2} {t u:TS} {c d:TT} {as tr:TA} {g:TG} {a b:Int} {p C dx:Addr} {QB:Bool→Hp→Prop} {QL:List V→Hp→Prop}
theorem g_seq (h : t { D with nx:=u D } σ H) : tSeq t u D σ H:=h
theorem g_cut (M:L2.St→Hp→Prop) (h : t { D with nx:=M } σ H) (k:∀ σ' H',M σ' H'→u D σ' H') : Evl.tCut t u D σ H:=⟨M,h,k⟩
theorem g_next (h:D.nx σ H) : tNext D σ H:=h
theorem g_brk (h:D.bk σ H) : tBreak D σ H:=h
theorem g_cont (h:D.ct σ H) : tCont D σ H:=h
theorem g_asg (h : te σ H (fun v H'=>g v σ H' D.nx)) : tAsg te g D σ H:=h
theorem g_name {QS:L2.St→Hp→Prop} (h:QS (σ.set i (some v)) H) : gName i v σ H QS:=h
theorem g_ret (h : te σ H D.rt) : tRet te D σ H:=h
theorem g_retN (h:D.rt .non H) : tRetN D σ H:=h
theorem g_drop (h : te σ H (fun _ H'=>D.nx σ H')) : tDrop te D σ H:=h
theorem g_ifs (h : c σ H (fun b H'=>if b=true then t D σ H' else u D σ H')) : tIfS c t u D σ H:=h
theorem g_aug {ti:TIp} (hx : σ[i]? = some (some x)) (h : te σ H (fun y H1=>ti x y H1 fun z H2=>D.nx (σ.set i (some z)) H2)) : tAug i te ti D σ H:=⟨x,hx,h⟩
theorem g_ipI {f:Int→Int→Int} (h:Q (.int (f a b)) H) : ipI f (.int a) (.int b) H Q:=⟨a,b,rfl,rfl,h⟩
theorem g_var (hx : σ[i]? = some (some v)) (h:Q v H) : tVar i σ H Q:=⟨v,hx,h⟩
theorem g_c (h:Q v H) : tC v σ H Q:=h
theorem g_op (h : ta σ H (fun x H1=>tb σ H1 fun y H2=>r x y H2 Q)) : tOp r ta tb σ H Q:=h
theorem g_add (h:Q (.int (a + b)) H) : oAdd (.int a) (.int b) H Q:=⟨a,b,rfl,rfl,h⟩
theorem g_sub (h:Q (.int (a - b)) H) : oSub (.int a) (.int b) H Q:=⟨a,b,rfl,rfl,h⟩
theorem g_mul (hc:CMul a b) (h:Q (.int (a * b)) H) : oMul (.int a) (.int b) H Q:=⟨a,b,rfl,rfl,hc,h⟩
theorem g_mod (hc : 0 < b) (h:Q (.int (a % b)) H) : oMod (.int a) (.int b) H Q:=⟨a,b,rfl,rfl,hc,h⟩
theorem g_div (hc:CDiv a b) (h:Q (.int (a / b)) H) : oDiv (.int a) (.int b) H Q:=⟨a,b,rfl,rfl,hc,h⟩
theorem g_pow (hc:CPow a b) (h:Q (.int (a ^ b.toNat)) H) : oPow (.int a) (.int b) H Q:=⟨a,b,rfl,rfl,hc,h⟩
theorem g_lt (h:Q (.bl (decide (a < b))) H) : cLt (.int a) (.int b) H Q:=⟨a,b,rfl,rfl,h⟩
theorem g_le (h:Q (.bl (decide (a≤b))) H) : cLe (.int a) (.int b) H Q:=⟨a,b,rfl,rfl,h⟩
theorem g_gt (h:Q (.bl (decide (b < a))) H) : cGt (.int a) (.int b) H Q:=⟨a,b,rfl,rfl,h⟩
theorem g_ge (h:Q (.bl (decide (b≤a))) H) : cGe (.int a) (.int b) H Q:=⟨a,b,rfl,rfl,h⟩
theorem g_eqI (h:Q (.bl (decide (a=b))) H) : rEq (.int a) (.int b) H Q:=⟨rfl,by rw [show decide (V.int a=V.int b)=decide (a=b) from by simp];exact h⟩
theorem g_neI (h:Q (.bl (!decide (a=b))) H) : rNe (.int a) (.int b) H Q:=⟨rfl,by rw [show decide (V.int a=V.int b)=decide (a=b) from by simp];exact h⟩
theorem g_eqS {a b:Str} (h:Q (.bl (decide (a=b))) H) : rEq (.str a) (.str b) H Q:=⟨rfl,by rw [show decide (V.str a=V.str b)=decide (a=b) from by simp];exact h⟩
theorem g_neS {a b:Str} (h:Q (.bl (!decide (a=b))) H) : rNe (.str a) (.str b) H Q:=⟨rfl,by rw [show decide (V.str a=V.str b)=decide (a=b) from by simp];exact h⟩
theorem g_eqB {a b:Bool} (h:Q (.bl (decide (a=b))) H) : rEq (.bl a) (.bl b) H Q:=⟨rfl,by rw [show decide (V.bl a=V.bl b)=decide (a=b) from by simp];exact h⟩
theorem g_isN (h:Q (.bl (decide (x=.non))) H) : rIsNon x .non H Q:=⟨rfl,h⟩
theorem g_notN (h:Q (.bl (!decide (x=.non))) H) : rIsNotNon x .non H Q:=⟨rfl,h⟩
theorem g_test (h : te σ H (fun x H'=>∃ k,x=.bl k∧QB k H')) : tTest te σ H QB:=h
theorem g_tb (h : te σ H (fun x H'=>∃ k,x=.bl k∧QB k H')) : tB te σ H QB:=h
theorem g_bl {k:Bool} {P:Bool→Prop} (h:P k) : ∃ k',V.bl k=V.bl k'∧P k':=⟨k,rfl,h⟩
theorem g_and (h : c σ H (fun b H1=>if b=true then d σ H1 QB else QB false H1)) : tAnd c d σ H QB:=h
theorem g_or (h : c σ H (fun b H1=>if b=true then QB true H1 else d σ H1 QB)) : tOr c d σ H QB:=h
theorem g_not (h : c σ H (fun b H1=>QB (!b) H1)) : tNot c σ H QB:=h
theorem g_andV (h : ta σ H (fun x H1=>∃ c,x=.bl c∧if c=true then tb σ H1 Q else Q (.bl false) H1)) : tAndV ta tb σ H Q:=h
theorem g_orV (h : ta σ H (fun x H1=>∃ c,x=.bl c∧if c=true then Q (.bl true) H1 else tb σ H1 Q)) : tOrV ta tb σ H Q:=h
theorem g_notV (h : ta σ H (fun x H1=>∃ c,x=.bl c∧Q (.bl (!c)) H1)) : tNotV ta σ H Q:=h
theorem g_ifE (h : c σ H (fun b H1=>if b=true then ta σ H1 Q else tb σ H1 Q)) : tIf c ta tb σ H Q:=h
theorem g_ite {P:Prop} [Decidable P] {A B:Prop} (h1:P→A) (h2 : ¬ P→B) : if decide P=true then A else B:=by
  by_cases h:P
  · rw [if_pos (decide_eq_true h)];exact h1 h
  · rw [if_neg (by simp [h])];exact h2 h
theorem g_iteN {P:Prop} [Decidable P] {A B:Prop} (h1 : ¬ P→A) (h2:P→B) : if (!decide P)=true then A else B:=by
  by_cases h:P
  · rw [if_neg (by simp [h])];exact h2 h
  · rw [if_pos (by simp [h])];exact h1 h
theorem g_iteB {k:Bool} {A B:Prop} (h1 : k=true→A) (h2 : k=false→B) : if k=true then A else B:=by
  cases k with
  | true=>rw [if_pos rfl];exact h1 rfl
  | false=>rw [if_neg Bool.false_ne_true];exact h2 rfl
theorem g_iteT {A B:Prop} (h:A) : if true=true then A else B:=by rw [if_pos rfl];exact h
theorem g_iteF {A B:Prop} (h:B) : if false=true then A else B:=by rw [if_neg Bool.false_ne_true];exact h
theorem g_iteNT {A B:Prop} (h:B) : if (!true)=true then A else B:=by rw [if_neg (by decide)];exact h
theorem g_iteNF {A B:Prop} (h:A) : if (!false)=true then A else B:=by rw [if_pos (by decide)];exact h
theorem g_nil (h:QL [] H) : tNil σ H QL:=h
theorem g_cons (h : te σ H (fun x H1=>as σ H1 fun xs H2=>QL (x::xs) H2)) : tCons te as σ H QL:=h
theorem g_cb {rr:List V→Hp→VK→Prop} (h : as σ H (fun vs H1=>rr vs H1 Q)) : tCB rr as σ H Q:=h
theorem g_cl {sp:Sp} (h : as σ H (fun vs H1=>sp vs H1 Q E0)) : tCl sp as σ H Q:=h
def rNewT (vs:List V) (H:Hp) (Q:VK) : Prop:=vs.length≤sizeLine∧∀ p,H p=none→Q (.ref p) (upd H p (.tup vs))
def rNewL (vs:List V) (H:Hp) (Q:VK) : Prop:=vs.length≤sizeLine∧∀ p,H p=none→Q (.ref p) (upd H p (.lst vs))
theorem g_tup (h : as σ H (fun vs H1=>rNewT vs H1 Q)) : tTup as σ H Q:=h
theorem g_lst (h : as σ H (fun vs H1=>rNewL vs H1 Q)) : tLst as σ H Q:=h
theorem g_newT {vs:List V} (hl : vs.length≤sizeLine) (h:∀ p H',H p=none→Fr [] H H'→H' p=some (.tup vs)→Q (.ref p) H') : rNewT vs H Q:=⟨hl,fun p hp=>h p _ hp (Fr.new hp) upd_same⟩
theorem g_newL {vs:List V} (hl : vs.length≤sizeLine) (h:∀ p H',H p=none→Fr [] H H'→H' p=some (.lst vs)→Q (.ref p) H') : rNewL vs H Q:=⟨hl,fun p hp=>h p _ hp (Fr.new hp) upd_same⟩
theorem g_ixL {xs:List V} {k:Int} (h:SqL K H p xs) (ha : atI xs k=some v) (q:Q v H) : rIxL K (.ref p) (.int k) H Q:=⟨p,xs,k,v,rfl,rfl,h,ha,q⟩
theorem g_ixT {xs:List V} {k:Int} (h:SqT K H p xs) (ha : atI xs k=some v) (q:Q v H) : rIxT K (.ref p) (.int k) H Q:=⟨p,xs,k,v,rfl,rfl,h,ha,q⟩
theorem g_lenL {xs:List V} (h:SqL K H p xs) (q:Q (.int xs.length) H) : rLenSq K [.ref p] H Q:=⟨p,xs,rfl,.inl h,q⟩
theorem g_lenT {xs:List V} (h:SqT K H p xs) (q:Q (.int xs.length) H) : rLenSq K [.ref p] H Q:=⟨p,xs,rfl,.inr h,q⟩
theorem g_listL {xs:List V} (h:SqL K H p xs) (q:∀ l H',H l=none→Fr [] H H'→H' l=some (.lst xs)→Q (.ref l) H') : rListOf K [.ref p] H Q:=⟨p,xs,rfl,.inl h,fun l hl=>q l _ hl (Fr.new hl) upd_same⟩
theorem g_listT {xs:List V} (h:SqT K H p xs) (q:∀ l H',H l=none→Fr [] H H'→H' l=some (.lst xs)→Q (.ref l) H') : rListOf K [.ref p] H Q:=⟨p,xs,rfl,.inr h,fun l hl=>q l _ hl (Fr.new hl) upd_same⟩
theorem g_tupL {xs:List V} (h:SqL K H p xs) (q:∀ l H',H l=none→Fr [] H H'→H' l=some (.tup xs)→Q (.ref l) H') : rTupOf K [.ref p] H Q:=⟨p,xs,rfl,.inl ⟨h,fun l hl=>q l _ hl (Fr.new hl) upd_same⟩⟩
theorem g_max2 (q:Q (.int (if b > a then b else a)) H) : rMax2 [.int a,.int b] H Q:=⟨a,b,rfl,q⟩
theorem g_min2 (q:Q (.int (if b < a then b else a)) H) : rMin2 [.int a,.int b] H Q:=⟨a,b,rfl,q⟩
def rBM (K:PySem.W.Frag) (T:String) (x:V) (H:Hp) (P:Prop) : Prop:=tyV K T x H∧P
theorem g_bm {T:String} {rr:V→List V→Hp→VK→Prop} (h : te σ H (fun x H1=>rBM K T x H1 (as σ H1 fun xs H2=>rr x xs H2 Q))) : tBM K T rr te as σ H Q:=h
theorem g_bm0 {T:String} {rr:V→List V→Hp→VK→Prop} (h : te σ H (fun x H1=>rBM K T x H1 (rr x [] H1 Q))) : tBM0 K T rr te σ H Q:=h
theorem g_bmL {xs:List V} {P:Prop} (h:H p=some (.lst xs)) (q:P) : rBM K "list" (.ref p) H P:=⟨.inl ⟨rfl,xs,SqL.of h⟩,q⟩
theorem g_append {xs:List V} (h:H p=some (.lst xs)) (hl : xs.length < sizeLine) (q:∀ H',Fr [p] H H'→H' p=some (.lst (xs++[y]))→Q .non H') : rAppend (.ref p) [y] H Q:=⟨p,xs,y,rfl,rfl,h,hl,q _ (Fr.put h trivial) upd_same⟩
theorem g_sub1 {to ti:TE} {ts:TSet} {QS:L2.St→Hp→Prop} (h : to σ H (fun o H1=>ti σ H1 fun i H2=>ts o i v H2 fun H3=>QS σ H3)) : gSub to ti ts v σ H QS:=h
theorem g_setL {xs:List V} {k:Int} {j:Nat} {P:Hp→Prop} (h:H p=some (.lst xs)) (hj : ixN xs.length k=some j) (q:∀ H',Fr [p] H H'→H' p=some (.lst (xs.set j v))→P H') : rSetL (.ref p) (.int k) v H P:=⟨p,xs,k,j,rfl,rfl,h,hj,q _ (Fr.put h trivial) upd_same⟩
def rFld (K:PySem.W.Frag) (f:Str) (x:V) (H:Hp) (Q:VK) : Prop:=∃ a C dx fs v,x=.ref a∧H a=some (.ins C dx fs)∧Cls K C∧NoAttr K C f∧fs.lookup f=some v∧Q v H
theorem g_fld {f:Str} (h : ta σ H (fun x H1=>rFld K f x H1 Q)) : tFld K ta f σ H Q:=h
theorem g_rfld {f:Str} {fs:List (Str×V)} (h:H p=some (.ins C dx fs)) (c:Cls K C) (n:NoAttr K C f) (l : fs.lookup f=some v) (q:Q v H) : rFld K f (.ref p) H Q:=⟨p,C,dx,fs,v,rfl,h,c,n,l,q⟩
def rFldS (K:PySem.W.Frag) (f:Str) (x v:V) (H:Hp) (P:Hp→Prop) : Prop:=∃ a C dx fs,x=.ref a∧H a=some (.ins C dx fs)∧Cls K C∧NoAttr K C f∧fs.length < 1000∧P (upd H a (.ins C dx (putF f v fs)))
theorem g_sfld {f:Str} (h : tb σ H (fun y H1=>ta σ H1 fun x H2=>rFldS K f x y H2 fun H3=>D.nx σ H3)) : sFld K ta tb f D σ H:=h
theorem g_rflds {f:Str} {fs gs:List (Str×V)} {P:Hp→Prop} (h:H p=some (.ins C dx fs)) (c:Cls K C) (n:NoAttr K C f) (hl : fs.length < 1000) (e : putF f v fs=gs) (q:∀ H',Fr [p] H H'→H' p=some (.ins C dx gs)→P H') : rFldS K f (.ref p) v H P:=
  ⟨p,C,dx,fs,rfl,h,c,n,hl,q _ (Fr.put h trivial) (by rw [e];exact upd_same)⟩
def rFldA (K:PySem.W.Frag) (f:Str) (tv:TE) (rd:V→V→Hp→VK→Prop) (x:V) (σ:L2.St) (H:Hp) (D:Ends) : Prop:=∃ a C dx fs v,x=.ref a∧H a=some (.ins C dx fs)∧Cls K C∧NoAttr K C f∧fs.lookup f=some v∧
  tv σ H fun y H2=>rd v y H2 fun z H3=>∃ dx' fs',H3 a=some (.ins C dx' fs')∧fs'.length < 1000∧D.nx σ (upd H3 a (.ins C dx' (putF f z fs')))
theorem g_flda {f:Str} {rd:V→V→Hp→VK→Prop} (h : ta σ H (fun x H1=>rFldA K f tb rd x σ H1 D)) : sFldAug K ta tb rd f D σ H:=h
def rFldB (a C:Addr) (f:Str) (z:V) (H3:Hp) (P:Hp→Prop) : Prop:=∃ dx' fs',H3 a=some (.ins C dx' fs')∧fs'.length < 1000∧P (upd H3 a (.ins C dx' (putF f z fs')))
theorem g_rflda {f:Str} {fs:List (Str×V)} {rd:V→V→Hp→VK→Prop} (h:H p=some (.ins C dx fs)) (c:Cls K C) (n:NoAttr K C f) (l : fs.lookup f=some v) (q : tb σ H fun y H2=>rd v y H2 fun z H3=>rFldB p C f z H3 fun H4=>D.nx σ H4) : rFldA K f tb rd (.ref p) σ H D:=
  ⟨p,C,dx,fs,v,rfl,h,c,n,l,q⟩
theorem g_rfldb {f:Str} {fs gs:List (Str×V)} {P:Hp→Prop} (h:H p=some (.ins C dx fs)) (hl : fs.length < 1000) (e : putF f v fs=gs) (q:∀ H',Fr [p] H H'→H' p=some (.ins C dx gs)→P H') : rFldB p C f v H P:=
  ⟨dx,fs,h,hl,q _ (Fr.put h trivial) (by rw [e];exact upd_same)⟩
theorem g_rAdd (h:Q (.int (a + b)) H) : rAdd (.int a) (.int b) H Q:=⟨a,b,rfl,rfl,h⟩
theorem g_rSub (h:Q (.int (a - b)) H) : rSub (.int a) (.int b) H Q:=⟨a,b,rfl,rfl,h⟩
theorem g_mt {m:Str} {sp:Sp} (h : ta σ H (fun x H1=>rMt C m x H1 (as σ H1 fun vs H2=>sp (x::vs) H2 Q E0))) : tMt C m sp ta as σ H Q:=h
theorem g_rmt {m:Str} {fs:List (Str×V)} {P:Prop} (h:H p=some (.ins C dx fs)) (l : fs.lookup m=none) (q:P) : rMt C m (.ref p) H P:=⟨p,dx,fs,rfl,h,l,q⟩
def rMk (C:Addr) (sp:Sp) (vs:List V) (H1:Hp) (Q:VK) : Prop:=∀ x dx,H1 x=none→H1 dx=none→dx≠x→
  sp (.ref x::vs) (upd (upd H1 dx (.own x)) x (.ins C dx [])) (fun v H2=>v=.non∧Q (.ref x) H2) E0
theorem g_mk {sp:Sp} (h : as σ H (fun vs H1=>rMk C sp vs H1 Q)) : tMk C sp as σ H Q:=h
theorem g_rmk {sp:Sp} {vs:List V} (k:∀ x dx H2,H x=none→H dx=none→dx≠x→Fr [] H H2→H2 x=some (.ins C dx [])→H2 dx=some (.own x)→sp (.ref x::vs) H2 (fun v H3=>v=.non∧Q (.ref x) H3) E0) : rMk C sp vs H Q:=by
  intro x dx nx nd ne
  refine k x dx _ nx nd ne ?_ upd_same (by rw [upd_ne ne];exact upd_same)
  have f1:Fr [] H (upd H dx (.own x)):=Fr.new nd
  exact f1.then0 (Fr.new (by rw [upd_ne ne.symm];exact nx))
end
theorem kb_NoneType_list : kitB "NoneType" "list" = some false:=by decide +kernel
theorem kb_NoneType_tuple : kitB "NoneType" "tuple" = some false:=by decide +kernel
theorem kb_NoneType_bool : kitB "NoneType" "bool" = some false:=by decide +kernel
theorem kb_NoneType_int : kitB "NoneType" "int" = some false:=by decide +kernel
theorem kb_NoneType_str : kitB "NoneType" "str" = some false:=by decide +kernel
theorem kb_NoneType_dict : kitB "NoneType" "dict" = some false:=by decide +kernel
theorem kb_bool_list : kitB "bool" "list" = some false:=by decide +kernel
theorem kb_bool_tuple : kitB "bool" "tuple" = some false:=by decide +kernel
theorem kb_bool_bool : kitB "bool" "bool" = some true:=by decide +kernel
theorem kb_bool_int : kitB "bool" "int" = some true:=by decide +kernel
theorem kb_bool_str : kitB "bool" "str" = some false:=by decide +kernel
theorem kb_bool_dict : kitB "bool" "dict" = some false:=by decide +kernel
theorem kb_int_list : kitB "int" "list" = some false:=by decide +kernel
theorem kb_int_tuple : kitB "int" "tuple" = some false:=by decide +kernel
theorem kb_int_bool : kitB "int" "bool" = some false:=by decide +kernel
theorem kb_int_int : kitB "int" "int" = some true:=by decide +kernel
theorem kb_int_str : kitB "int" "str" = some false:=by decide +kernel
theorem kb_int_dict : kitB "int" "dict" = some false:=by decide +kernel
theorem kb_str_list : kitB "str" "list" = some false:=by decide +kernel
theorem kb_str_tuple : kitB "str" "tuple" = some false:=by decide +kernel
theorem kb_str_bool : kitB "str" "bool" = some false:=by decide +kernel
theorem kb_str_int : kitB "str" "int" = some false:=by decide +kernel
theorem kb_str_str : kitB "str" "str" = some true:=by decide +kernel
theorem kb_str_dict : kitB "str" "dict" = some false:=by decide +kernel
theorem kb_list_list : kitB "list" "list" = some true:=by decide +kernel
theorem kb_list_tuple : kitB "list" "tuple" = some false:=by decide +kernel
theorem kb_list_bool : kitB "list" "bool" = some false:=by decide +kernel
theorem kb_list_int : kitB "list" "int" = some false:=by decide +kernel
theorem kb_list_str : kitB "list" "str" = some false:=by decide +kernel
theorem kb_list_dict : kitB "list" "dict" = some false:=by decide +kernel
theorem kb_tuple_list : kitB "tuple" "list" = some false:=by decide +kernel
theorem kb_tuple_tuple : kitB "tuple" "tuple" = some true:=by decide +kernel
theorem kb_tuple_bool : kitB "tuple" "bool" = some false:=by decide +kernel
theorem kb_tuple_int : kitB "tuple" "int" = some false:=by decide +kernel
theorem kb_tuple_str : kitB "tuple" "str" = some false:=by decide +kernel
theorem kb_tuple_dict : kitB "tuple" "dict" = some false:=by decide +kernel
theorem kb_dict_list : kitB "dict" "list" = some false:=by decide +kernel
theorem kb_dict_tuple : kitB "dict" "tuple" = some false:=by decide +kernel
theorem kb_dict_bool : kitB "dict" "bool" = some false:=by decide +kernel
theorem kb_dict_int : kitB "dict" "int" = some false:=by decide +kernel
theorem kb_dict_str : kitB "dict" "str" = some false:=by decide +kernel
theorem kb_dict_dict : kitB "dict" "dict" = some true:=by decide +kernel
theorem g_isi {K:PySem.W.Frag} {H:Hp} {Q:VK} {x:V} {a b:String} {r:Bool} (ty:TyX K H x (.type a)) (h : kitB a b=some r) (q:Q (.bl r) H) : rIsi K [x,.ty b] H Q:=⟨x,.ty b,.type a,.type b,r,rfl,.ty b,ty,kit_ty h,q⟩
mutual
inductive Da (H:Hp) : V→PyData→Prop
  | non:Da H .non .none
  | bl (b:Bool) : Da H (.bl b) (.bool b)
  | int (i:Int) : Da H (.int i) (.int i)
  | str (x:Str) : Da H (.str x) (.str x)
  | lst {a:Addr} {xs:List V} {ds:List PyData}:H a=some (.lst xs)→xs.length≤1000000→DaL H xs ds→Da H (.ref a) (.list ds)
  | tup {a:Addr} {xs:List V} {ds:List PyData}:H a=some (.tup xs)→xs.length≤1000000→DaL H xs ds→Da H (.ref a) (.tuple ds)
inductive DaL (H:Hp) : List V→List PyData→Prop
  | nil:DaL H [] []
  | cons {v:V} {vs:List V} {d:PyData} {ds:List PyData}:Da H v d→DaL H vs ds→DaL H (v::vs) (d::ds)
end
mutual
def dp:PyData→Nat
  | .list ds=>dpL ds + 1
  | .tuple ds=>dpL ds + 1
  | _=>0
def dpL:List PyData→Nat
  | []=>0
  | d::ds=>max (dp d) (dpL ds)
end
mutual
def imm:PyData→Bool
  | .list _=>false
  | .tuple ds=>immL ds
  | _=>true
def immL:List PyData→Bool
  | []=>true
  | d::ds=>imm d && immL ds
end
theorem DaL.len {H:Hp}:∀ {vs:List V} {ds:List PyData},DaL H vs ds→vs.length=ds.length
  | _,_,.nil=>rfl
  | _,_,.cons _ t=>by rw [List.length_cons,List.length_cons,DaL.len t]
theorem DaL.get {H:Hp}:∀ {vs:List V} {ds:List PyData} {i:Nat} {v:V},DaL H vs ds→vs[i]? = some v→∃ d,ds[i]? = some d∧Da H v d
  | _,_,_,_,.nil,e=>by simp at e
  | _,_,0,_,.cons r _,e=>by simp at e;subst e;exact ⟨_,rfl,r⟩
  | _,_,i + 1,v,.cons _ t,e=>by
    obtain ⟨u,h1,h2⟩:=DaL.get (i:=i) (v:=v) t (by simpa using e)
    exact ⟨u,by simpa using h1,h2⟩
theorem DaL.get' {H:Hp}:∀ {vs:List V} {ds:List PyData} {i:Nat} {d:PyData},DaL H vs ds→ds[i]? = some d→∃ v,vs[i]? = some v∧Da H v d
  | _,_,_,_,.nil,e=>by simp at e
  | _,_,0,_,.cons r _,e=>by simp at e;subst e;exact ⟨_,rfl,r⟩
  | _,_,i + 1,v,.cons _ t,e=>by
    obtain ⟨u,h1,h2⟩:=DaL.get' (i:=i) (d:=v) t (by simpa using e)
    exact ⟨u,by simpa using h1,h2⟩
theorem DaL.append {H:Hp}:∀ {vs ws:List V} {ds es:List PyData},DaL H vs ds→DaL H ws es→DaL H (vs++ws) (ds++es)
  | _,_,_,_,.nil,s=>s
  | _,_,_,_,.cons r t,s=>.cons r (DaL.append t s)
theorem dpL_get:∀ {ds:List PyData} {i:Nat} {d:PyData},ds[i]? = some d→dp d≤dpL ds
  | [],_,_,e=>by simp at e
  | a::r,0,d,e=>by simp at e;subst e;exact Nat.le_max_left _ _
  | a::r,i + 1,d,e=>Nat.le_trans (dpL_get (ds:=r) (i:=i) (by simpa using e)) (Nat.le_max_right _ _)
mutual
theorem Da.fr {l:List Addr} {H H':Hp} (f:Fr l H H') : ∀ (d:PyData) (v:V),Da H v d→imm d=true→Da H' v d
  | .none,_,h,_=>by cases h;exact .non
  | .bool b,_,h,_=>by cases h;exact .bl b
  | .int i,_,h,_=>by cases h;exact .int i
  | .str x,_,h,_=>by cases h;exact .str x
  | .list ds,_,_,i=>by simp [imm] at i
  | .tuple ds,_,h,i=>by
    cases h with
    | tup e z r=>exact .tup (f.tup _ _ e) z (DaL.fr f ds _ r (by simpa [imm] using i))
  | .dict _,_,h,_=>by cases h
theorem DaL.fr {l:List Addr} {H H':Hp} (f:Fr l H H') : ∀ (ds:List PyData) (vs:List V),DaL H vs ds→immL ds=true→DaL H' vs ds
  | [],_,h,_=>by cases h;exact .nil
  | d::ds,_,h,i=>by
    simp only [immL,Bool.and_eq_true] at i
    cases h with
    | cons r t=>exact .cons (Da.fr f d _ r i.1) (DaL.fr f ds _ t i.2)
end
mutual
theorem Da.dp {K:PySem.W.Frag} {H:Hp}:∀ (d:PyData) (v:V),Da H v d→Dp K H v d
  | .none,_,h=>by cases h;exact .non
  | .bool b,_,h=>by cases h;exact .bl b
  | .int i,_,h=>by cases h;exact .int i
  | .str x,_,h=>by cases h;exact .str x
  | .list ds,_,h=>by
    cases h with
    | lst e _ r=>exact .lst (SqL.of e) (DaL.dp ds _ r)
  | .tuple ds,_,h=>by
    cases h with
    | tup e _ r=>exact .tup (SqT.of e) (DaL.dp ds _ r)
  | .dict _,_,h=>by cases h
theorem DaL.dp {K:PySem.W.Frag} {H:Hp}:∀ (ds:List PyData) (vs:List V),DaL H vs ds→DpAll K H vs ds
  | [],_,h=>by cases h;exact .nil
  | d::ds,_,h=>by
    cases h with
    | cons r t=>exact .cons (Da.dp d _ r) (DaL.dp ds _ t)
end
theorem Da.frL {l:List Addr} {H H':Hp} (f:Fr l H H') {d:PyData} {v:V} (h:Da H v d) (i : imm d=true) : Da H' v d:=Da.fr f d v h i
theorem DaL.frL {l:List Addr} {H H':Hp} (f:Fr l H H') {ds:List PyData} {vs:List V} (h:DaL H vs ds) (i : immL ds=true) : DaL H' vs ds:=DaL.fr f ds vs h i
theorem immL_append:∀ {ds es:List PyData},immL (ds++es)=(immL ds && immL es)
  | [],_=>by simp [immL]
  | d::ds,es=>by simp [immL,immL_append (ds:=ds),Bool.and_assoc]
theorem dpL_append:∀ {ds es:List PyData},dpL (ds++es)=max (dpL ds) (dpL es)
  | [],_=>by simp [dpL]
  | d::ds,es=>by simp [dpL,dpL_append (ds:=ds),Nat.max_assoc]
section
variable {K:PySem.W.Frag} {σ:L2.St} {H H':Hp} {Q:VK} {D:Ends} {te tl:TE} {tt:TT} {tb:TS} {g:TG} {wi:TI} {ta:TA} {a b:Addr} {xs ys:List V} {vs:List Nat} {J:It}
def ForGo (J:It) (g:TG) (tb:TS) (D:Ends) (σ:L2.St) (H1:Hp) : Prop:=∃ W:Nat→Nat→L2.St→Hp→Prop,(∃ m,W 0 m σ H1)∧∀ i m σ H,W i m σ H→
  (J.stop i H∧D.nx σ H)∨(J.go i H∧∃ N:L2.St→Hp→Prop,(∀ σ' H',N σ' H'→∃ m',m' < m∧W (i + 1) m' σ' H')∧∀ x H',J.yld i H x H'→g x σ H' fun σ2 H2=>tb { D with nx:=N,ct:=N,bk:=D.nx } σ2 H2)
theorem g_for (h : wi σ H (fun J H1=>ForGo J g tb D σ H1)) : tFor wi g tb D σ H:=h
def LcGo (J:It) (g:TG) (tt:TT) (te:TE) (vs:List Nat) (σ:L2.St) (Q:VK) (H1:Hp) : Prop:=∀ D,H1 D=none→∃ W:Nat→Nat→Hp→Prop,(∃ m,W 0 m (upd H1 D (.lst [])))∧∀ i m H,W i m H→
  (J.stop i H∧Q (.ref D) H)∨(J.go i H∧∃ Nx:Hp→Prop,(∀ H',Nx H'→∃ m',m' < m∧W (i + 1) m' H')∧∀ x H',J.yld i H x H'→g x (wipe σ vs) H' fun σ2 H2=>wipe σ2 vs=wipe σ vs∧tt σ2 H2 fun b H3=>
    if b=true then te σ2 H3 fun y H4=>∃ acc,H4 D=some (.lst acc)∧acc.length < sizeLine∧Nx (upd H4 D (.lst (acc++[y]))) else Nx H3)
theorem g_lc (h : wi σ H (fun J H1=>LcGo J g tt te vs σ Q H1)) : tLc wi g tt te vs σ H Q:=h
variable {R:It→Hp→Prop}
def rItL (K:PySem.W.Frag) (x:V) (H:Hp) (R:It→Hp→Prop) : Prop:=∃ a,x=.ref a∧(∃ xs,SqL K H a xs)∧R (Itl K a) H
def rItT (K:PySem.W.Frag) (x:V) (H:Hp) (R:It→Hp→Prop) : Prop:=∃ a,x=.ref a∧(∃ xs,SqT K H a xs)∧R (Itt K a) H
theorem g_iL (h : tl σ H (fun x H1=>rItL K x H1 R)) : iList K tl σ H R:=h
theorem g_iT (h : tl σ H (fun x H1=>rItT K x H1 R)) : iTup K tl σ H R:=h
theorem g_riL (hS:SqL K H a xs) (h:R (Itl K a) H) : rItL K (.ref a) H R:=⟨a,rfl,⟨xs,hS⟩,h⟩
theorem g_riT (hS:SqT K H a xs) (h:R (Itt K a) H) : rItT K (.ref a) H R:=⟨a,rfl,⟨xs,hS⟩,h⟩
def rIt1 (vs:List V) (H:Hp) (R:It→Hp→Prop) : Prop:=∃ j:Int,vs=[.int j]∧-(2 ^ 62)≤j∧j < 2 ^ 62∧R (Itr 0 j.toNat) H
def rIt2 (vs:List V) (H:Hp) (R:It→Hp→Prop) : Prop:=∃ i j:Int,vs=[.int i,.int j]∧(-(2 ^ 62)≤i∧i < 2 ^ 62∧-(2 ^ 62)≤j∧j < 2 ^ 62)∧R (Itr i (j - i).toNat) H
theorem g_i1 (h : ta σ H (fun vs H1=>rIt1 vs H1 R)) : iRng1 ta σ H R:=h
theorem g_i2 (h : ta σ H (fun vs H1=>rIt2 vs H1 R)) : iRng2 ta σ H R:=h
theorem g_ri1 {j:Int} (h1 : -(2 ^ 62)≤j∧j < 2 ^ 62) (h:R (Itr 0 j.toNat) H) : rIt1 [.int j] H R:=⟨j,rfl,h1.1,h1.2,h⟩
theorem g_ri2 {i j:Int} (h1 : -(2 ^ 62)≤i∧i < 2 ^ 62∧-(2 ^ 62)≤j∧j < 2 ^ 62) (h:R (Itr i (j - i).toNat) H) : rIt2 [.int i,.int j] H R:=⟨i,j,rfl,h1,h⟩
theorem f_list (Pv:Nat→L2.St→Hp→Prop) (h0:Pv 0 σ H) (hl:∀ i σ H,i≤xs.length→Pv i σ H→SqL K H a xs)
    (hs:∀ i x σ H,xs[i]? = some x→Pv i σ H→g x σ H fun σ2 H2=>tb { D with nx:=Pv (i + 1),ct:=Pv (i + 1),bk:=D.nx } σ2 H2) (hd:∀ σ H,Pv xs.length σ H→D.nx σ H) : ForGo (Itl K a) g tb D σ H:=for_list Pv h0 hl hs hd
theorem f_tup (Pv:Nat→L2.St→Hp→Prop) (h0:Pv 0 σ H) (hl:∀ i σ H,i≤xs.length→Pv i σ H→SqT K H a xs)
    (hs:∀ i x σ H,xs[i]? = some x→Pv i σ H→g x σ H fun σ2 H2=>tb { D with nx:=Pv (i + 1),ct:=Pv (i + 1),bk:=D.nx } σ2 H2) (hd:∀ σ H,Pv xs.length σ H→D.nx σ H) : ForGo (Itt K a) g tb D σ H:=for_tup Pv h0 hl hs hd
theorem f_range {lo:Int} {n:Nat} (Pv:Nat→L2.St→Hp→Prop) (h0:Pv 0 σ H)
    (hs:∀ i σ H,i < n→Pv i σ H→g (.int (lo + i)) σ H fun σ2 H2=>tb { D with nx:=Pv (i + 1),ct:=Pv (i + 1),bk:=D.nx } σ2 H2) (hd:∀ σ H,Pv n σ H→D.nx σ H) : ForGo (Itr lo n) g tb D σ H:=for_range Pv h0 hs hd
def lcY (Dl:Addr) (Pv:Nat→List V→Hp→Prop) (i:Nat) (y:V) (H4:Hp) : Prop:=∃ acc,H4 Dl=some (.lst acc)∧acc.length < sizeLine∧∃ acc',upd H4 Dl (.lst (acc++[y])) Dl=some (.lst acc')∧Pv (i + 1) acc' (upd H4 Dl (.lst (acc++[y])))
def lcN (Dl:Addr) (Pv:Nat→List V→Hp→Prop) (i:Nat) (H3:Hp) : Prop:=∃ acc,H3 Dl=some (.lst acc)∧Pv (i + 1) acc H3
theorem lcY_of {Dl:Addr} {Pv:Nat→List V→Hp→Prop} {i:Nat} {y:V} {acc:List V} (h:H Dl=some (.lst acc)) (hl : acc.length < sizeLine) (k:∀ H5,Fr [Dl] H H5→H5 Dl=some (.lst (acc++[y]))→Pv (i + 1) (acc++[y]) H5) : lcY Dl Pv i y H:=
  ⟨acc,h,hl,_,upd_same,k _ (Fr.put h trivial) upd_same⟩
theorem lcN_of {Dl:Addr} {Pv:Nat→List V→Hp→Prop} {i:Nat} {acc:List V} (h:H Dl=some (.lst acc)) (k:Pv (i + 1) acc H) : lcN Dl Pv i H:=⟨acc,h,k⟩
abbrev lcStep (g:TG) (tt:TT) (te:TE) (vs:List Nat) (σ:L2.St) (Dl:Addr) (Pv:Nat→List V→Hp→Prop) (i:Nat) (x:V) (H':Hp) : Prop:=
  g x (wipe σ vs) H' fun σ2 H2=>wipe σ2 vs=wipe σ vs∧tt σ2 H2 fun b H3=>if b=true then te σ2 H3 fun y H4=>lcY Dl Pv i y H4 else lcN Dl Pv i H3
theorem l_list (k:∀ Dl H0,H Dl=none→Fr [] H H0→H0 Dl=some (.lst [])→∃ Pv:Nat→List V→Hp→Prop,Pv 0 [] H0∧(∀ i acc H',Pv i acc H'→SqL K H' a xs)∧
    (∀ i x acc H',xs[i]? = some x→H' Dl=some (.lst acc)→Pv i acc H'→lcStep g tt te vs σ Dl Pv i x H')∧(∀ acc H',H' Dl=some (.lst acc)→Pv xs.length acc H'→Q (.ref Dl) H')) : LcGo (Itl K a) g tt te vs σ Q H:=by
  intro Dl hD
  obtain ⟨Pv,p0,pl,ps,pd⟩:=k Dl _ hD (Fr.new hD) upd_same
  exact lc_list (fun i H'=>∃ acc,H' Dl=some (.lst acc)∧Pv i acc H') ⟨[],upd_same,p0⟩ (fun i H' _ ⟨acc,_,p⟩=>pl i acc H' p) (fun i x H' hx ⟨acc,hd,p⟩=>ps i x acc H' hx hd p) (fun H' ⟨acc,hd,p⟩=>pd acc H' hd p)
theorem l_tup (k:∀ Dl H0,H Dl=none→Fr [] H H0→H0 Dl=some (.lst [])→∃ Pv:Nat→List V→Hp→Prop,Pv 0 [] H0∧(∀ i acc H',Pv i acc H'→SqT K H' a xs)∧
    (∀ i x acc H',xs[i]? = some x→H' Dl=some (.lst acc)→Pv i acc H'→lcStep g tt te vs σ Dl Pv i x H')∧(∀ acc H',H' Dl=some (.lst acc)→Pv xs.length acc H'→Q (.ref Dl) H')) : LcGo (Itt K a) g tt te vs σ Q H:=by
  intro Dl hD
  obtain ⟨Pv,p0,pl,ps,pd⟩:=k Dl _ hD (Fr.new hD) upd_same
  exact lc_tup (fun i H'=>∃ acc,H' Dl=some (.lst acc)∧Pv i acc H') ⟨[],upd_same,p0⟩ (fun i H' _ ⟨acc,_,p⟩=>pl i acc H' p) (fun i x H' hx ⟨acc,hd,p⟩=>ps i x acc H' hx hd p) (fun H' ⟨acc,hd,p⟩=>pd acc H' hd p)
theorem l_range {lo:Int} {n:Nat} (k:∀ Dl H0,H Dl=none→Fr [] H H0→H0 Dl=some (.lst [])→∃ Pv:Nat→List V→Hp→Prop,Pv 0 [] H0∧
    (∀ i acc H',i < n→H' Dl=some (.lst acc)→Pv i acc H'→lcStep g tt te vs σ Dl Pv i (.int (lo + i)) H')∧(∀ acc H',H' Dl=some (.lst acc)→Pv n acc H'→Q (.ref Dl) H')) : LcGo (Itr lo n) g tt te vs σ Q H:=by
  intro Dl hD
  obtain ⟨Pv,p0,ps,pd⟩:=k Dl _ hD (Fr.new hD) upd_same
  exact lc_range (fun i H'=>∃ acc,H' Dl=some (.lst acc)∧Pv i acc H') ⟨[],upd_same,p0⟩ (fun i H' hi ⟨acc,hd,p⟩=>ps i acc H' hi hd p) (fun H' ⟨acc,hd,p⟩=>pd acc H' hd p)
theorem g_yes {QB:Bool→Hp→Prop} (h:QB true H) : tYes σ H QB:=h
theorem g_ttr {QB:Bool→Hp→Prop} (h : te σ H (fun x H'=>∃ k,TruV K x H' k∧QB k H')) : tTr K te σ H QB:=h
end
theorem szM {n:Nat} (h : n≤1000000) : n < sizeLine:=Nat.lt_of_le_of_lt h (by decide)
theorem szL {n:Nat} (h : n≤1000000) : n≤sizeLine:=Nat.le_of_lt (szM h)
theorem getI {ns:List Int} {i:Nat} {x:V} (h:(ns.map V.int)[i]? = some x) : ∃ n,x=.int n∧ns[i]? = some n∧n∈ns:=by
  rw [List.getElem?_map] at h
  cases e : ns[i]? with
  | none=>rw [e] at h;cases h
  | some n=>rw [e] at h;exact ⟨n,(Option.some.inj h).symm,rfl,List.mem_of_getElem? e⟩
theorem atI_of {α:Type} {xs:List α} {z:Int} (h0 : 0≤z) (h : z < xs.length) : ∃ v,atI xs z=some v∧xs[z.toNat]? = some v:=by
  have hk : z.toNat < xs.length:=by omega
  have e:((z.toNat:Nat) : Int)=z:=by omega
  have q : xs[z.toNat]? = some xs[z.toNat]:=List.getElem?_eq_getElem hk
  have w:=atI_nat q
  rw [e] at w
  exact ⟨_,w,q⟩
theorem atI_mem {α:Type} {xs:List α} {z:Int} (h0 : 0≤z) (h : z < xs.length) : ∃ v,atI xs z=some v∧v∈xs:=by
  obtain ⟨v,a,b⟩:=atI_of h0 h
  exact ⟨v,a,List.mem_of_getElem? b⟩
theorem take_more {α:Type}:∀ {l:List α} {i:Nat} {x : α},l[i]? = some x→l.take (i + 1)=l.take i++[x]
  | [],i,x,h=>by simp at h
  | a::l,0,x,h=>by
    have e : a=x:=Option.some.inj h
    subst e
    rfl
  | a::l,i + 1,x,h=>by
    have ih:=take_more (l:=l) (i:=i) (x:=x) h
    show a::l.take (i + 1)=a::l.take i++[x]
    rw [ih]
    rfl
theorem filter_more {α:Type} {l:List α} {i:Nat} {x : α} {f : α→Bool} (h : l[i]? = some x) : (l.take (i + 1)).filter f=(l.take i).filter f++(if f x=true then [x] else []):=by
  rw [take_more h,List.filter_append]
  congr 1
  by_cases q : f x=true
  · simp [q]
  · simp [q]
theorem Da.tup1 {H:Hp} {v:V} {ds:List PyData} (h:Da H v (.tuple ds)) : ∃ a xs,v=.ref a∧H a=some (.tup xs)∧xs.length≤1000000∧DaL H xs ds:=by
  cases h with
  | tup e z r=>exact ⟨_,_,rfl,e,z,r⟩
theorem DaL.two {H:Hp} {xs:List V} {d e:PyData} (h:DaL H xs [d,e]) : ∃ x y,xs=[x,y]∧Da H x d∧Da H y e:=by
  cases h with
  | cons a t=>cases t with
    | cons b u=>cases u;exact ⟨_,_,rfl,a,b⟩
theorem DaL.three {H:Hp} {xs:List V} {d e f:PyData} (h:DaL H xs [d,e,f]) : ∃ x y z,xs=[x,y,z]∧Da H x d∧Da H y e∧Da H z f:=by
  cases h with
  | cons a t=>cases t with
    | cons b u=>cases u with
      | cons c u=>cases u;exact ⟨_,_,_,rfl,a,b,c⟩
theorem Da.int1 {H:Hp} {v:V} {i:Int} (h:Da H v (.int i)) : v=.int i:=by cases h;rfl
theorem Da.str1 {H:Hp} {v:V} {i:Str} (h:Da H v (.str i)) : v=.str i:=by cases h;rfl
theorem DaL.one' {H:Hp} {v:V} {d:PyData} (h:Da H v d) : DaL H [v] [d]:=.cons h .nil
theorem immL_of:∀ {ds:List PyData},(∀ d∈ds,imm d=true)→immL ds=true
  | [],_=>rfl
  | a::r,h=>by simp [immL,h a List.mem_cons_self,immL_of (ds:=r) fun d hd=>h d (List.mem_cons_of_mem _ hd)]
theorem dpL_le {n:Nat}:∀ {ds:List PyData},(∀ d∈ds,dp d≤n)→dpL ds≤n
  | [],_=>Nat.zero_le _
  | a::r,h=>Nat.max_le.mpr ⟨h a List.mem_cons_self,dpL_le fun d hd=>h d (List.mem_cons_of_mem _ hd)⟩
theorem DaL.ints {H:Hp}:∀ {xs:List V} {r:List Int},DaL H xs (r.map .int)→xs=r.map V.int
  | [],[],_=>rfl
  | x::xs,n::r,h=>by
    cases h with
    | cons a t=>rw [a.int1,DaL.ints t];rfl
  | [],_::_,h=>by cases h
  | _::_,[],h=>by cases h
theorem DaL.ofInts {H:Hp}:∀ (r:List Int),DaL H (r.map V.int) (r.map .int)
  | []=>.nil
  | n::r=>.cons (.int n) (DaL.ofInts r)
theorem DaL.set {H:Hp}:∀ {vs:List V} {ds:List PyData} {i:Nat} {v:V} {d:PyData},DaL H vs ds→Da H v d→DaL H (vs.set i v) (ds.set i d)
  | _,_,_,_,_,.nil,_=>.nil
  | _,_,0,_,_,.cons _ t,q=>.cons q t
  | _,_,i + 1,_,_,.cons r t,q=>.cons r (DaL.set (i:=i) t q)
section
variable {K:PySem.W.Frag} {σ:L2.St} {H H':Hp} {Q:VK} {te:TE} {tl th:TO} {p:Addr} {xs:List V} {lo hi:Option Int}
theorem g_sl {r:V→Option Int→Option Int→Hp→VK→Prop} (h : te σ H fun x H1=>tl σ H1 fun l H2=>th σ H2 fun u H3=>r x l u H3 Q) : tSl r te tl th σ H Q:=h
theorem g_noP {QO:Option Int→Hp→Prop} (h:QO none H) : tNoPart σ H QO:=h
def rPart (x:V) (H:Hp) (QO:Option Int→Hp→Prop) : Prop:=∃ i,x=.int i∧QO (some i) H
theorem g_part {QO:Option Int→Hp→Prop} (h : te σ H fun x H1=>rPart x H1 QO) : tPart te σ H QO:=h
theorem g_rpart {i:Int} {QO:Option Int→Hp→Prop} (h:QO (some i) H) : rPart (.int i) H QO:=⟨i,rfl,h⟩
theorem g_slL (h:SqL K H p xs) (q:∀ l H',H l=none→Fr [] H H'→H' l=some (.lst (cutV xs lo hi))→Q (.ref l) H') : rSlL K (.ref p) lo hi H Q:=⟨p,xs,rfl,h,fun l hl=>q l _ hl (Fr.new hl) upd_same⟩
theorem g_popAt {i:Int} {y:V} (h:H p=some (.lst xs)) (hl : xs.length≤1000000) (h0 : 0≤i) (hy : xs[i.toNat]? = some y) (q:∀ H',Fr [p] H H'→H' p=some (.lst (xs.eraseIdx i.toNat))→Q y H') : rPopAt (.ref p) [.int i] H Q:=by
  have hlt:=(List.getElem?_eq_some_iff.mp hy).1
  refine ⟨p,xs,i,i.toNat,y,rfl,rfl,h,by omega,by omega,?_,hy,q _ (Fr.put h trivial) upd_same⟩
  refine (ixN_seq (i:=i) ?_).1
  unfold ixN
  rw [if_pos h0,if_pos (by omega)]
end
theorem DaL.take {H:Hp}:∀ {xs:List V} {ds:List PyData} (n:Nat),DaL H xs ds→DaL H (xs.take n) (ds.take n)
  | _,_,0,_=>.nil
  | _,_,n + 1,.nil=>.nil
  | _,_,n + 1,.cons a t=>.cons a (DaL.take n t)
def tDead:TS:=fun _ _ _=>False
theorem ps_dead {X:Cx} {st:Stmt}:PS X st tDead:=⟨fun _ _ _ _ _ _ h=>h.elim⟩
end Lw
namespace Lw
open PySem L2
section
variable {κ α:Type} [DecidableEq κ]
def lk (m:List (κ×α)) (k : κ) : Option α:=(m.find? fun e=>decide (e.1=k)).map (·.2)
def pt (m:List (κ×α)) (k : κ) (v : α) : List (κ×α):=if (m.any fun e=>decide (e.1=k))=true then m.map (fun e=>if e.1=k then (e.1,v) else e) else m++[(k,v)]
def dr (m:List (κ×α)) (k : κ) : List (κ×α):=m.filter fun e=>decide (e.1≠k)
def enD {κ':Type} (f : κ→κ') (g : α→V) (m:List (κ×α)) : List (κ'×V):=m.map fun e=>(f e.1,g e.2)
variable {κ':Type} [DecidableEq κ'] {f : κ→κ'} {g : α→V}
theorem enD_dec (inj:∀ a b,f a=f b→a=b) (a b : κ) : decide (f a=f b)=decide (a=b):=by
  by_cases h : a=b
  · subst h;simp
  · rw [decide_eq_false h,decide_eq_false fun q=>h (inj _ _ q)]
theorem enD_val (inj:∀ a b,f a=f b→a=b) (m:List (κ×α)) (k : κ) : valV (enD f g m) (f k)=(lk m k).map g:=by
  induction m with
  | nil=>rfl
  | cons e r ih=>
    by_cases h : e.1=k
    · have h1 : valV (enD f g (e::r)) (f k)=some (g e.2):=valV_pos (p:=(f e.1,g e.2)) (by rw [h])
      rw [h1];simp [lk,List.find?_cons,h]
    · have h1 : valV (enD f g (e::r)) (f k)=valV (enD f g r) (f k):=valV_neg (p:=(f e.1,g e.2)) (fun q=>h (inj _ _ q))
      rw [h1,ih];simp [lk,List.find?_cons,h]
theorem enD_any (inj:∀ a b,f a=f b→a=b) (m:List (κ×α)) (k : κ) : ((enD f g m).any fun e=>decide (e.1=f k))=m.any fun e=>decide (e.1=k):=by
  induction m with
  | nil=>rfl
  | cons e r ih=>
    show (decide (f e.1=f k) || (enD f g r).any fun e=>decide (e.1=f k))=_
    rw [ih,enD_dec inj]
    rfl
theorem enD_put (inj:∀ a b,f a=f b→a=b) (m:List (κ×α)) (k : κ) (v : α) : putK (enD f g m) (f k) (g v)=enD f g (pt m k v):=by
  unfold putK pt
  rw [enD_any inj]
  by_cases h:(m.any fun e=>decide (e.1=k))=true
  · rw [if_pos h,if_pos h]
    unfold enD
    rw [List.map_map,List.map_map]
    refine List.map_congr_left fun e _=>?_
    show (if f e.1=f k then (f e.1,g v) else (f e.1,g e.2))=_
    by_cases q : e.1=k
    · simp [q]
    · rw [if_neg fun z=>q (inj _ _ z)];simp [q]
  · rw [if_neg h,if_neg h]
    unfold enD
    rw [List.map_append]
    rfl
theorem enD_drop (inj:∀ a b,f a=f b→a=b) (m:List (κ×α)) (k : κ) : dropK (enD f g m) (f k)=enD f g (dr m k):=by
  unfold dropK dr enD
  rw [List.filter_map]
  congr 1
  refine List.filter_congr fun e _=>?_
  show decide (f e.1≠f k)=decide (e.1≠k)
  by_cases h : e.1=k
  · simp [h]
  · have : f e.1≠f k:=fun q=>h (inj _ _ q)
    simp [h,this]
theorem enD_len (m:List (κ×α)) : (enD f g m).length=m.length:=by unfold enD;rw [List.length_map]
theorem enD_get {m:List (κ×α)} {i:Nat} {k : κ'} {v:V} (h:(enD f g m)[i]? = some (k,v)) : ∃ e,m[i]? = some e∧k=f e.1∧v=g e.2:=by
  unfold enD at h
  rw [List.getElem?_map] at h
  cases q : m[i]? with
  | none=>rw [q] at h;cases h
  | some e=>rw [q] at h;cases h;exact ⟨e,rfl,rfl,rfl⟩
theorem lk_pt (m:List (κ×α)) (k j : κ) (v : α) : lk (pt m k v) j=if j=k then some v else lk m j:=by
  have h:=enD_put (f:=fun k : κ=>k) (g:=fun _ : α=>V.non) (fun _ _ q=>q) m k v
  unfold pt
  induction m with
  | nil=>
    by_cases e : j=k
    · simp [lk,e]
    · have : ¬ k=j:=fun q=>e q.symm
      simp [lk,e,this]
  | cons e r ih=>
    by_cases hk : e.1=k
    · have ha:((e::r).any fun e=>decide (e.1=k))=true:=by simp [hk]
      rw [if_pos ha]
      by_cases hj : j=k
      · rw [if_pos hj];simp [lk,List.find?_cons,hk,hj]
      · rw [if_neg hj]
        have hk2 : ¬ k=j:=fun q=>hj q.symm
        have:∀ r:List (κ×α),lk (r.map fun e=>if e.1=k then (e.1,v) else e) j=lk r j:=by
          intro r
          induction r with
          | nil=>rfl
          | cons a t ih2=>
            by_cases ha : a.1=k
            · have h1 : ¬ a.1=j:=fun q=>hj (q.symm.trans ha)
              simp only [List.map_cons,lk,List.find?_cons,if_pos ha,decide_eq_false h1]
              exact ih2
            · by_cases h1 : a.1=j
              · simp only [List.map_cons,lk,List.find?_cons,if_neg ha,decide_eq_true h1]
              · simp only [List.map_cons,lk,List.find?_cons,if_neg ha,decide_eq_false h1]
                exact ih2
        exact this (e::r)
    · have ha:((e::r).any fun e=>decide (e.1=k))=r.any fun e=>decide (e.1=k):=by simp [hk]
      rw [ha]
      have ih':=ih (enD_put (f:=fun k : κ=>k) (g:=fun _ : α=>V.non) (fun _ _ q=>q) r k v)
      by_cases hb:(r.any fun e=>decide (e.1=k))=true
      · rw [if_pos hb] at ih' ⊢
        by_cases h1 : e.1=j
        · have h2 : ¬ j=k:=fun q=>hk (h1.trans q)
          simp [lk,List.find?_cons,hk,h1,h2]
        · simp only [List.map_cons,if_neg hk,lk,List.find?_cons,decide_eq_false h1] at ih' ⊢
          exact ih'
      · rw [if_neg hb] at ih' ⊢
        by_cases h1 : e.1=j
        · have h2 : ¬ j=k:=fun q=>hk (h1.trans q)
          simp [lk,List.find?_cons,h1,h2]
        · simp only [List.cons_append,lk,List.find?_cons,decide_eq_false h1] at ih' ⊢
          exact ih'
end
section
variable {K:PySem.W.Frag} {σ:L2.St} {H H':Hp} {Q:VK} {D:Ends} {td ty te tv tx:TE} {tt:TT} {tb t:TS} {g:TG} {a b d q:Addr} {o:Obj} {kvs:List (List Key×V)} {k:List Key} {v x y z:V} {vs:List Nat} {R:It→Hp→Prop} {as:TA}
def rDG (x y:V) (H:Hp) (Q:VK) : Prop:=∃ a v,x=.ref a∧DGet H a y (some v)∧Q v H
theorem g_dget (h : td σ H fun x H1=>ty σ H1 fun y H2=>rDG x y H2 Q) : tDGet td ty σ H Q:=h
theorem g_rdg (h:Rd H a (.dT kvs)) (e:H b=some (.tup (k.map kV))) (l : valV kvs k=some v) (c:Q v H) : rDG (.ref a) (.ref b) H Q:=⟨a,v,rfl,.inr ⟨kvs,k,b,h,rfl,e,l.symm⟩,c⟩
def rDI (y x:V) (H:Hp) (Q:VK) : Prop:=∃ a o,x=.ref a∧DGet H a y o∧Q (.bl o.isSome) H
def rDNI (y x:V) (H:Hp) (Q:VK) : Prop:=∃ a o,x=.ref a∧DGet H a y o∧Q (.bl (!o.isSome)) H
theorem g_din (h : ty σ H fun y H1=>td σ H1 fun x H2=>rDI y x H2 Q) : tDIn ty td σ H Q:=h
theorem g_dnin (h : ty σ H fun y H1=>td σ H1 fun x H2=>rDNI y x H2 Q) : tDNotIn ty td σ H Q:=h
def rDP (x y v:V) (H:Hp) (P:Hp→Prop) : Prop:=∃ a H4,x=.ref a∧DPut H a y v H4∧P H4
theorem g_dput (h : tv σ H fun v H1=>td σ H1 fun x H2=>ty σ H2 fun y H3=>rDP x y v H3 fun H4=>D.nx σ H4) : sDPut td ty tv D σ H:=h
theorem g_rdp {P:Hp→Prop} (h:H a=some (.dT kvs)) (e:H b=some (.tup (k.map kV))) (hl : kvs.length < sizeLine) (c:∀ H',Fr [a] H H'→H' a=some (.dT (putK kvs k v))→P H') : rDP (.ref a) (.ref b) v H P:=
  ⟨a,_,rfl,.inr ⟨kvs,k,b,h,rfl,e,hl,rfl⟩,c _ (Fr.put h trivial) upd_same⟩
def rDG2 (x:V) (H:Hp) (P:Addr→Prop) : Prop:=∃ a,x=.ref a∧IsD H a∧P a
def rDO (a:Addr) (y z:V) (H:Hp) (Q:VK) : Prop:=∃ o,DGet H a y o∧Q (o.getD z) H
theorem g_dget2 (h : td σ H fun x H1=>rDG2 x H1 fun a=>ty σ H1 fun y H2=>tx σ H2 fun z H3=>rDO a y z H3 Q) : tDGet2 td ty tx σ H Q:=h
theorem g_dget1 (h : td σ H fun x H1=>rDG2 x H1 fun a=>ty σ H1 fun y H2=>rDO a y .non H2 Q) : tDGet1 td ty σ H Q:=h
theorem g_rdg2 {P:Addr→Prop} (h:Rd H a (.dT kvs)) (c:P a) : rDG2 (.ref a) H P:=⟨a,rfl,.inr ⟨kvs,h⟩,c⟩
theorem g_dgo (h:Rd H a (.dT kvs)) (e:H b=some (.tup (k.map kV))) (c:Q (((valV kvs k)).getD z) H) : rDO a (.ref b) z H Q:=⟨_,.inr ⟨kvs,k,b,h,rfl,e,rfl⟩,c⟩
theorem g_dnew (c:∀ p H',H p=none→Fr [] H H'→H' p=some (.dT [])→Q (.ref p) H') : tDNewT σ H Q:=fun p hp=>c p _ hp (Fr.new hp) upd_same
theorem g_dnewK (c:∀ p H',H p=none→Fr [] H H'→H' p=some (.dK [])→Q (.ref p) H') : tDNewK σ H Q:=fun p hp=>c p _ hp (Fr.new hp) upd_same
def rUl (d:Addr) (od:Obj) (u:HO) (H:Hp) (P:Hp→Prop) : Prop:=H d=some (.frz od u)∧P (upd H d u)
theorem g_unl {u:HO} {P:Hp→Prop} (h:H d=some (.frz o u)) (c:∀ H',Fr [d] H H'→H' d=some u→P H') : rUl d o u H P:=⟨h,c _ (Fr.put h trivial) upd_same⟩
theorem g_lock {u:HO} (h:H d=some u) (m:Mut (some u)) (nt : notTup u) (c:∀ od H0,Fr [d] H H0→H0 d=some (.frz od u)→t ⟨fun σ' H'=>rUl d od u H' fun H2=>D.nx σ' H2,fun v H'=>rUl d od u H' fun H2=>D.rt v H2,
    fun σ' H'=>rUl d od u H' fun H2=>D.bk σ' H2,fun σ' H'=>rUl d od u H' fun H2=>D.ct σ' H2⟩ σ H0) : tLock t D σ H:=⟨d,u,h,m,fun od=>c od _ (Fr.put h nt) upd_same⟩
theorem g_lockE {u:HO} (h:H d=some u) (m:Mut (some u)) (nt : notTup u) (c:∀ od H0,Fr [d] H H0→H0 d=some (.frz od u)→te σ H0 fun v H'=>rUl d od u H' fun H2=>Q v H2) : tLockE te σ H Q:=⟨d,u,h,m,fun od=>c od _ (Fr.put h nt) upd_same⟩
def rKy (x:V) (H:Hp) (R:It→Hp→Prop) : Prop:=∃ d o,x=.ref d∧((∃ kvs,H d=some (.frz o (.dK kvs))∧R (Itk d o kvs) H)∨∃ kvs,H d=some (.frz o (.dT kvs))∧R (Itkt d o kvs) H)
theorem g_iK (h : td σ H fun x H1=>rKy x H1 R) : iKeys td σ H R:=h
theorem g_rkt (h:H d=some (.frz o (.dT kvs))) (c:R (Itkt d o kvs) H) : rKy (.ref d) H R:=⟨d,o,rfl,.inr ⟨kvs,h,c⟩⟩
theorem f_keysT (Pv:Nat→L2.St→Hp→Prop) (h0:Pv 0 σ H) (hl:∀ i σ H,i≤kvs.length→Pv i σ H→H d=some (.frz o (.dT kvs)))
    (hs:∀ i k v q σ H,kvs[i]? = some (k,v)→H q=some (.tup (k.map kV))→Pv i σ H→g (.ref q) σ H fun σ2 H2=>tb { D with nx:=Pv (i + 1),ct:=Pv (i + 1),bk:=D.nx } σ2 H2) (hd:∀ σ H,Pv kvs.length σ H→D.nx σ H) : ForGo (Itkt d o kvs) g tb D σ H:=
  for_it walk_keysT Pv h0 hl (fun i x σ H H' hi p y=>by obtain ⟨rfl,k,v,q,h1,rfl,h3⟩:=y;exact hs i k v q σ _ h1 h3 p) hd
theorem l_keysT (c:∀ Dl H0,H Dl=none→Fr [] H H0→H0 Dl=some (.lst [])→∃ Pv:Nat→List V→Hp→Prop,Pv 0 [] H0∧(∀ i acc H',Pv i acc H'→H' d=some (.frz o (.dT kvs)))∧
    (∀ i k v q acc H',kvs[i]? = some (k,v)→H' q=some (.tup (k.map kV))→H' Dl=some (.lst acc)→Pv i acc H'→lcStep g tt te vs σ Dl Pv i (.ref q) H')∧(∀ acc H',H' Dl=some (.lst acc)→Pv kvs.length acc H'→Q (.ref Dl) H')) : LcGo (Itkt d o kvs) g tt te vs σ Q H:=by
  intro Dl hD
  obtain ⟨Pv,p0,pl,ps,pd⟩:=c Dl _ hD (Fr.new hD) upd_same
  exact lc_it walk_keysT (fun i H'=>∃ acc,H' Dl=some (.lst acc)∧Pv i acc H') ⟨[],upd_same,p0⟩ (fun i H' _ ⟨acc,_,p⟩=>pl i acc H' p) (fun i x H1 H' hi ⟨acc,hd,p⟩ y=>by obtain ⟨rfl,k,v,q,h1,rfl,h3⟩:=y;exact ps i k v q acc _ h1 h3 hd p) (fun H' ⟨acc,hd,p⟩=>pd acc H' hd p)
theorem g_gtup {n:Nat} {t:TGs} {P:L2.St→Hp→Prop} {xs:List V} (h:SqT K H a xs) (hl : xs.length=n) (c : t xs σ H P) : gTup K n t (.ref a) σ H P:=⟨a,xs,rfl,h,hl,c⟩
theorem g_gcons {t:TG} {u:TGs} {P:L2.St→Hp→Prop} {r:List V} (c : t v σ H fun σ' H'=>u r σ' H' P) : gCons t u (v::r) σ H P:=⟨v,r,rfl,c⟩
theorem g_gnil {P:L2.St→Hp→Prop} (c:P σ H) : gNil [] σ H P:=⟨rfl,c⟩
def rEn (K:PySem.W.Frag) (vs:List V) (H:Hp) (R:It→Hp→Prop) : Prop:=∃ a xs,vs=[.ref a]∧SqL K H a xs∧R (Ite K a) H
theorem g_iE (h : as σ H fun vs H1=>rEn K vs H1 R) : iEnum K as σ H R:=h
theorem g_ren {xs:List V} (h:SqL K H a xs) (c:R (Ite K a) H) : rEn K [.ref a] H R:=⟨a,xs,rfl,h,c⟩
theorem f_enum {xs:List V} (Pv:Nat→L2.St→Hp→Prop) (h0:Pv 0 σ H) (hl:∀ i σ H,i≤xs.length→Pv i σ H→SqL K H a xs)
    (hs:∀ i x T σ H H',xs[i]? = some x→Pv i σ H→H T=none→Fr [] H H'→H' T=some (.tup [.int (i:Nat),x])→g (.ref T) σ H' fun σ2 H2=>tb { D with nx:=Pv (i + 1),ct:=Pv (i + 1),bk:=D.nx } σ2 H2) (hd:∀ σ H,Pv xs.length σ H→D.nx σ H) : ForGo (Ite K a) g tb D σ H:=
  for_it walk_enum Pv h0 hl (fun i x σ H H' hi p y=>by
    obtain ⟨T,u,w,rfl,h2,rfl,h4,h5⟩:=y
    cases h4
    exact hs i w T σ H _ h5 p h2 (Fr.new h2) upd_same) hd
def rZp (K:PySem.W.Frag) (vs:List V) (H:Hp) (R:It→Hp→Prop) : Prop:=∃ a b xs ys,vs=[.ref a,.ref b]∧SqL K H a xs∧SqL K H b ys∧R (Itz K a b) H
theorem g_iZ (h : as σ H fun vs H1=>rZp K vs H1 R) : iZip K as σ H R:=h
theorem g_rzp {xs ys:List V} (h:SqL K H a xs) (h2:SqL K H b ys) (c:R (Itz K a b) H) : rZp K [.ref a,.ref b] H R:=⟨a,b,xs,ys,rfl,h,h2,c⟩
theorem g_sum {ns:List Int} (h:SqL K H a (ns.map V.int)) (c:Q (.int ns.sum) H) : rSum K [.ref a] H Q:=⟨a,ns,rfl,h,c⟩
theorem g_all {bs:List Bool} (h:SqL K H a (bs.map V.bl)) (c:Q (.bl (bs.all id)) H) : rAll K [.ref a] H Q:=⟨a,bs,rfl,h,c⟩
theorem g_any {bs:List Bool} (h:SqL K H a (bs.map V.bl)) (c:Q (.bl (bs.any id)) H) : rAny K [.ref a] H Q:=⟨a,bs,rfl,h,c⟩
theorem g_catT {xs ys:List V} (h:SqT K H a xs) (h2:SqT K H b ys) (hne : xs≠[]) (hl : xs.length + ys.length≤sizeLine) (c1 : ys=[]→Q (.ref a) H) (c2 : ys≠[]→∀ p H',H p=none→Fr [] H H'→H' p=some (.tup (xs++ys))→Q (.ref p) H') : rCatT K (.ref a) (.ref b) H Q:=
  ⟨a,b,xs,ys,rfl,rfl,h,h2,hne,hl,c1,fun e p hp=>c2 e p _ hp (Fr.new hp) upd_same⟩
theorem g_cat {xs ys:List V} (h:H a=some (.lst xs)) (h2:H b=some (.lst ys)) (hl : xs.length + ys.length≤sizeLine) (c:∀ p H',H p=none→Fr [] H H'→H' p=some (.lst (xs++ys))→Q (.ref p) H') : rCat (.ref a) (.ref b) H Q:=
  ⟨a,b,xs,ys,rfl,rfl,h,h2,hl,fun p hp=>c p _ hp (Fr.new hp) upd_same⟩
end
section
open PySem.W in
def rSortD (K:PySem.W.Frag) : List V→Hp→VK→Prop:=fun vs H Q=>∃ (a:Addr) (bs:List (V×PyData)),vs=[V.ref a]∧SqL K H a (bs.map (·.1))∧(∀ b∈bs,Da H b.1 b.2)∧AllAlike (bs.map (·.2))∧Sortable (bs.map (·.2))∧(∀ b∈bs,b.2.depth≤60)∧
  ∀ p,H p=none→Q (.ref p) (upd H p (.lst ((bs.mergeSort (dataLe false (·.2))).map (·.1))))
variable {X:Cx}
open PySem.W in
theorem eachV {s:Shared} {H:Hp} {pins:List (Addr×Obj)} {σ:L2.St} (I:Inv X pins σ H s) : ∀ (bs:List (V×PyData)) (us:List Value),Vals (bs.map (·.1)) us→(∀ b∈bs,Da H b.1 b.2)→EachIs (fun u (b:V×PyData)=>RelV b.1 u) us bs∧EachIs (fun u (b:V×PyData)=>∃ as,PySem.Reads s.heap u b.2 as) us bs
  | [],us,r,_=>by cases r;exact ⟨.nil,.nil⟩
  | b::bs,us,r,h=>by
    cases r with
    | cons r1 r2=>
      obtain ⟨e1,e2⟩:=eachV I bs _ r2 fun c hc=>h c (List.mem_cons_of_mem _ hc)
      exact ⟨.cons r1 e1,.cons (Dp.reads I _ _ _ (Da.dp (K:=X.K) _ _ (h b List.mem_cons_self)) r1) e2⟩
open PySem.W in
theorem eachB:∀ {us:List Value} {bs:List (V×PyData)},EachIs (fun u (b:V×PyData)=>RelV b.1 u) us bs→Vals (bs.map (·.1)) us
  | _,_,.nil=>.nil
  | _,_,.cons r t=>.cons r (eachB t)
open PySem.W in
theorem b_sortD (hu:X.A.units + 64 < cLine) : CallR X (.builtin "sorted") (rSortD X.K):=by
  intro pins s σ H vs us Q I r h
  obtain ⟨a,bs,rfl,hs,hd,ha,hk,hdp,q⟩:=h
  obtain ⟨its,rv,hl,hz⟩:=I.list hs
  obtain ⟨u,rfl,ru⟩:=vals1 r
  obtain rfl : u=Value.ref a:=ru
  obtain ⟨e1,e2⟩:=eachV I bs its rv hd
  rw [List.length_map] at hz
  refine sorted_data (enc:=fun b:V×PyData=>b.2) hl.isList e1 e2 ha hk hz (fun b hb=>?_) fun out ho eo=>?_
  · have:=hdp b hb
    show X.A.units + 2 + b.2.depth < cLine
    omega
  · obtain ⟨ep,he'⟩:=PyProof.Rows.sortedAll_at s.heap its out.toArray
    have vo:=eachB eo
    have hlen:((bs.mergeSort (dataLe false fun b:V×PyData=>b.2)).map (·.1)).length≤sizeLine:=by rw [List.length_map,List.length_mergeSort];exact hz
    exact ⟨.ref _,upd H (s.heap.objs.size + 1) (.lst _),I.laid (t':=s.toks) (fun _ _=>PyProof.Rows.sortedAll_old) (Nat.le_succ _) ⟨hlen,out,ep,vo,he'⟩,rfl,q _ (I.hok.fresh (Nat.le_succ _))⟩
open PySem.W in
theorem g_sortD {K:PySem.W.Frag} {H:Hp} {Q:VK} {a:Addr} {bs:List (V×PyData)} (hs:SqL K H a (bs.map (·.1))) (hd:∀ b∈bs,Da H b.1 b.2) (ha:AllAlike (bs.map (·.2))) (hk:Sortable (bs.map (·.2))) (hdp:∀ b∈bs,b.2.depth≤60)
    (c:∀ p H',H p=none→Fr [] H H'→H' p=some (.lst ((bs.mergeSort (dataLe false (·.2))).map (·.1)))→Q (.ref p) H') : rSortD K [.ref a] H Q:=⟨a,bs,rfl,hs,hd,ha,hk,hdp,fun p hp=>c p _ hp (Fr.new hp) upd_same⟩
def srt (ds:List PyData) : List PyData:=ds.mergeSort (PySem.W.dataLe false id)
end
section
variable {X:Cx}
def rDClearT:V→List V→Hp→VK→Prop:=fun x vs H Q=>∃ (a:Addr) (kvs:List (List Key×V)),x=.ref a∧vs=[]∧H a=some (.dT kvs)∧Q .non (upd H a (.dT []))
theorem mtd_clearT:MtR X "dict.clear" rDClearT:=by
  intro pins s σ H x vs v us Q I rx rv h
  obtain ⟨a,kvs,rfl,rfl,e,q⟩:=h
  obtain rfl : v=Value.ref a:=rx
  cases rv
  obtain ⟨z,hd,xs,rel,o,es,ep,ho,hx,hdat,hes,_⟩:=dt_of I.hok e
  have raw : s.heap.DictRaw a es ep:=⟨o,ho,hx,hdat⟩
  have hsz : es.size≤sizeLine:=by
    have e1:=congrArg List.length hes
    rw [Array.length_toList,List.length_map] at e1
    rw [e1,← Paired.length rel]
    exact z
  refine call_meetsIn PySem.F.slot_dict_clear raw.typeIs PySem.F.entry_dict_clear (PySem.F.args_dict_clear_1 _) (meets_dict_clear_raw a) ⟨es,ep,raw,hsz,fun h' raw' hs=>?_⟩
  obtain ⟨o',ho',hx',hdat'⟩:=raw'
  exact ⟨.non,_,d_write (t':=s.toks) (ob:=.dT []) I (by rw [e];exact True.intro) hs ⟨o',ho'⟩ ⟨Nat.zero_le _,hd,[],.nil,o',#[],ep + 1,ho',hx',hdat',rfl,List.nodup_nil⟩,rfl,q⟩
theorem pe_dclearT {o:Expr} {to:TE} {apos cpos:Pos} (ho:PE X o to) (hbase : attributeBase o "clear" X.env (eval o X.env)=eval o X.env:=by rfl) (hline:(apos.endLine == cpos.line)=true:=by rfl) : PE X (.Call (.Attribute o "clear" apos) [] [] cpos) (tBM0 X.K "dict" rDClearT to):=
  pe_bm0 PySem.F.plainAttrs_dict PySem.F.slot_dict_clear PySem.F.type_dict_clear mtd_clearT ho hbase hline
theorem g_bmT {K:PySem.W.Frag} {H:Hp} {a:Addr} {kvs:List (List Key×V)} {P:Prop} (h:H a=some (.dT kvs)) (q:P) : rBM K "dict" (.ref a) H P:=⟨.inr (.inr (.inl ⟨rfl,.inr ⟨kvs,h⟩⟩)),q⟩
theorem g_clearT {H:Hp} {a:Addr} {kvs:List (List Key×V)} {Q:VK} (h:H a=some (.dT kvs)) (q:∀ H',Fr [a] H H'→H' a=some (.dT [])→Q .non H') : rDClearT (.ref a) [] H Q:=⟨a,kvs,rfl,rfl,h,q _ (Fr.put h trivial) upd_same⟩
end
section
variable {σ:L2.St} {H:Hp} {Q:VK} {ta tb:TE} {a b:Int}
def rLRg (x y:V) (H:Hp) (Q:VK) : Prop:=∃ i j,x=.int i∧y=.int j∧RgOk i j∧∀ q,H q=none→Q (.ref q) (upd H q (.lst (rgV i j)))
theorem g_lstRg (h : ta σ H fun x H1=>tb σ H1 fun y H2=>rLRg x y H2 Q) : tLstRg (tRg2 ta tb) σ H Q:=h
theorem g_rlrg (ok:RgOk a b) (c:∀ p H',H p=none→Fr [] H H'→H' p=some (.lst (rgV a b))→Q (.ref p) H') : rLRg (.int a) (.int b) H Q:=⟨a,b,rfl,rfl,ok,fun p hp=>c p _ hp (Fr.new hp) upd_same⟩
end
section
open PySem.W
theorem dle_total {β:Type} (k : β→PyData) : TotalLe (dataLe false k):=sortLe_total _ false _
theorem srt_perm (ds:List PyData) : (srt ds).Perm ds:=List.mergeSort_perm ds _
theorem srt_map {β:Type} (f : β→PyData) (l:List β) : (l.mergeSort (dataLe false f)).map f=srt (l.map f):=sort_maps f fun _ _ _ _=>rfl
theorem DaL.zip {H:Hp}:∀ {xs:List V} {ds:List PyData},DaL H xs ds→(xs.zip ds).map (·.1)=xs∧(xs.zip ds).map (·.2)=ds∧∀ b∈xs.zip ds,Da H b.1 b.2
  | _,_,.nil=>⟨rfl,rfl,fun _ h=>nomatch h⟩
  | _,_,.cons a t=>by
    obtain ⟨h1,h2,h3⟩:=DaL.zip t
    refine ⟨by simp [h1],by simp [h2],fun b hb=>?_⟩
    rcases List.mem_cons.mp hb with e | e
    · rw [e];exact a
    · exact h3 b e
theorem DaL.ofBs {H:Hp}:∀ {bs:List (V×PyData)},(∀ b∈bs,Da H b.1 b.2)→DaL H (bs.map (·.1)) (bs.map (·.2))
  | [],_=>.nil
  | b::bs,h=>.cons (h b List.mem_cons_self) (DaL.ofBs fun c hc=>h c (List.mem_cons_of_mem _ hc))
theorem g_srt {K:PySem.W.Frag} {H:Hp} {Q:VK} {a:Addr} {xs:List V} {ds:List PyData} (hs:SqL K H a xs) (hd:DaL H xs ds) (ha:AllAlike ds) (hk:Sortable ds) (hdp:∀ d∈ds,d.depth≤60)
    (c:∀ p H' ys,H p=none→Fr [] H H'→H' p=some (.lst ys)→DaL H ys (srt ds)→Q (.ref p) H') : rSortD K [.ref a] H Q:=by
  obtain ⟨z1,z2,z3⟩:=hd.zip
  refine g_sortD (bs:=xs.zip ds) (by rw [z1];exact hs) z3 (by rw [z2];exact ha) (by rw [z2];exact hk) (fun b hb=>hdp b.2 (by rw [← z2];exact List.mem_map.mpr ⟨b,hb,rfl⟩)) fun p H' hp f e=>?_
  refine c p H' _ hp f e ?_
  have q:=DaL.ofBs (H:=H) (bs:=(xs.zip ds).mergeSort (dataLe false (·.2))) fun b hb=>z3 b ((List.mergeSort_perm _ _).mem_iff.mp hb)
  rw [srt_map (fun b:V×PyData=>b.2),z2] at q
  exact q
end
section
variable {K:PySem.W.Frag} {σ:L2.St} {H:Hp} {Q:VK} {ta tb tc:TE} {r r':R2} {y:V} {k:Bool} {p:Addr} {ns:List Int} {m:Int}
def rCh (r':R2) (tc:TE) (y:V) (σ:L2.St) (Q:VK) (z:V) (H3:Hp) : Prop:=∃ k,z=.bl k∧(if k=true then tc σ H3 fun w' H4=>r' y w' H4 Q else Q (.bl false) H3)
theorem g_chain (h : ta σ H fun x H1=>tb σ H1 fun y H2=>r x y H2 fun z H3=>rCh r' tc y σ Q z H3) : tChain r r' ta tb tc σ H Q:=h
theorem g_rch (h : if k=true then tc σ H fun w' H4=>r' y w' H4 Q else Q (.bl false) H) : rCh r' tc y σ Q (.bl k) H:=⟨k,rfl,h⟩
theorem g_min (h:SqL K H p (ns.map V.int)) (hl : 0 < ns.length) (q:∀ m,m∈ns→(∀ y,y∈ns→m≤y)→Q (.int m) H) : rMin K [.ref p] H Q:=⟨p,ns,rfl,h,hl,q⟩
theorem inI : inV (.int m) (ns.map V.int)=decide (m∈ns):=by
  unfold inV
  induction ns with
  | nil=>rfl
  | cons a t ih=>
    rw [List.map_cons,List.any_cons,ih]
    show ((a == m) || decide (m∈t))=_
    by_cases h : a=m
    · simp [h]
    · have h2 : ¬ m=a:=fun z=>h z.symm
      simp [h,h2]
theorem flatI:(ns.map V.int).all flatV=true:=List.all_eq_true.mpr fun x hx=>by obtain ⟨n,_,rfl⟩:=List.mem_map.mp hx;rfl
theorem g_ninI (h:SqL K H p (ns.map V.int)) (q:Q (.bl (!decide (m∈ns))) H) : rIn K true (.int m) (.ref p) H Q:=⟨p,_,rfl,.inl h,rfl,flatI,by rw [inI];exact q⟩
theorem g_neB {a b:Bool} (h:Q (.bl (!decide (a=b))) H) : rNe (.bl a) (.bl b) H Q:=⟨rfl,by rw [show decide (V.bl a=V.bl b)=decide (a=b) from by simp];exact h⟩
end
def optV:Option Int→V
  | none=>.non
  | some r=>.int r
section
variable {H:Hp} {Q:VK} {o:Option Int} {r:Int}
theorem g_isO (h:Q (.bl (decide (o=none))) H) : rIsNon (optV o) .non H Q:=g_isN (by cases o <;> simpa [optV] using h)
theorem g_notO (h:Q (.bl (!decide (o=none))) H) : rIsNotNon (optV o) .non H Q:=g_notN (by cases o <;> simpa [optV] using h)
theorem g_eqO (h:Q (.bl (decide (o=some r))) H) : rEq (optV o) (.int r) H Q:=by
  cases o with
  | none=>exact ⟨rfl,by simpa [optV] using h⟩
  | some q=>exact g_eqI (by simpa using h)
end
end Lw
namespace Lw
open PySem L2 PySem.W PySem.Calls PyProof.Rows PySem.Spec
section
variable {X:Cx}
theorem raw_of {P:Program} {w:World} {h:Heap} {a:Addr} {xs:List (List Key×Addr×Value)} (m : h.DictOfH (tupleKind (mixKind P w)) a xs) : ∃ es ep,h.DictRaw a es ep∧es.size=xs.length∧∀ (i:Nat) (hi : i < es.size),∃ x,xs[i]? = some x∧es[i].key=.ref x.2.1:=by
  obtain ⟨o,es,ep,h1,h2,h3,h4,h5,h6⟩:=m
  have hs : es.size=xs.length:=by
    have e:=congrArg List.length h4
    rw [Array.length_toList,List.length_map] at e
    exact e
  refine ⟨es,ep,⟨o,h1,h2,h3⟩,hs,fun i hi=>?_⟩
  have e : es.toList[i]? = (xs.map _)[i]?:=congrArg (fun l=>l[i]?) h4
  rw [List.getElem?_map,List.getElem?_eq_getElem (by rw [Array.length_toList];exact hi)] at e
  have hx : xs[i]? = some (xs[i]'(by omega)):=List.getElem?_eq_getElem (by omega)
  rw [hx] at e
  refine ⟨_,hx,?_⟩
  have e2:=Option.some.inj e
  rw [Array.getElem_toList] at e2
  rw [e2];rfl
theorem g_lenDT {H:Hp} {Q:VK} {a:Addr} {kvs:List (List Key×V)} (h:H a=some (.dT kvs)) (q:Q (.int kvs.length) H) : rLenT [.ref a] H Q:=⟨a,kvs,rfl,h,q⟩
def rDictT (P:Program) (w:World) : List V→Hp→VK→Prop:=fun vs H Q=>∃ (a:Addr) (kvs:List (List Key×V)),vs=[.ref a]∧H a=some (.dT kvs)∧(kvs.map fun e=>(tupleKind (mixKind P w)).hash e.1).Nodup∧∀ p,H p=none→Q (.ref p) (upd H p (.dT kvs))
theorem b_dictT (hu:X.A.units + 8 < cLine) : CallR X (.type "dict") (rDictT X.prog X.w):=by
  intro pins s σ H vs us Q I r h
  obtain ⟨a,kvs,rfl,ha,hh,q⟩:=h
  obtain ⟨u,rfl,ru⟩:=vals1 r
  obtain rfl : u=Value.ref a:=ru
  obtain ⟨z,hoS,xs,rel,ho⟩:=dt_of I.hok ha
  have hz : xs.length≤sizeLine:=by rw [← Paired.length rel];exact z
  have hm:(s.heap.objs.size == sysModules)=false:=beq_eq_false_iff_ne.mpr (Nat.ne_of_gt I.big)
  refine callType_codes (Q₁:=fun obj s₁=>obj=.ref s.heap.objs.size∧s₁ = { s with heap:=s.heap.push { cls:=.type "dict",data:=.dict #[] } }) F.kt_called_dict (F.kt_typeCall_dict_1 _) F.entry_dict_init (kt_code_dict_new _ ⟨rfl,rfl⟩) ?_
  rintro obj s₁ ⟨rfl,rfl⟩
  have hnew:(s.heap.push { cls:=.type "dict",data:=.dict #[] }).DictOfH (tupleKind (mixKind X.prog X.w)) s.heap.objs.size []:=Heap.DictOfH.new s.heap
  have ho':(s.heap.push { cls:=.type "dict",data:=.dict #[] }).DictOfH (tupleKind (mixKind X.prog X.w)) a xs:=by
    obtain ⟨o,es,ep,h1,h2,h3,h4,h5,h6⟩:=id ho
    exact ⟨o,es,ep,Heap.get?_push_of_some _ h1,h2,h3,h4,fun x hx=>by obtain ⟨o2,its,n,g1,g2,g3,g4⟩:=h5 x hx;exact ⟨o2,its,n,Heap.get?_push_of_some _ g1,g2,g3,g4⟩,h6⟩
  have hdo : s.heap.objs.size≠a:=by
    obtain ⟨_,_,_,hg,_⟩:=ho
    exact fun e=>absurd (Heap.lt_size hg) (by rw [e];exact Nat.lt_irrefl _)
  refine ⟨hnew.typeIs,F.args_dict_init_2 _ _,?_⟩
  unfold Builtin.«dict.__init__»
  refine wpAny_bind ?_
  unfold Builtin.Dict.selfAndRest
  refine wpAny_bind (wpAny_notOrdered_dict hnew.typeIs ?_)
  show wpAny _ _ (pure (s.heap.objs.size,[Value.ref a])) _ _ _
  refine wpAny_pure ?_
  show wpAny _ _ (Builtin.Dict.updateFrom "dict.__init__" s.heap.objs.size (.ref a) [] .none) _ _ _
  unfold Builtin.Dict.updateFrom
  refine wpAny_bind (wpAny_typeOf ho'.typeIs ?_)
  rw [if_neg (by decide)]
  refine wpAny_bind ?_
  unfold Builtin.Dict.merge
  refine wpAny_bind ?_
  unfold Builtin.Dict.readDirectly
  refine wpAny_bind (wpAny_isInstance ho'.typeIs isSubtype_dict_dict ?_)
  simp only [Bool.not_true,Bool.false_eq_true,if_false]
  refine wpAny_bind (wpAny_specialOf ho'.typeIs F.slot_dict_iter.lookup (wpAny_pure ?_))
  simp only [beq_self_eq_true,if_true]
  refine wpAny_bind (wpAny_pure ?_)
  have hty:∀ x∈xs,Shared.TypeIs { s with heap:=s.heap.push { cls:=.type "dict",data:=.dict #[] } } (.ref x.2.1) "tuple":=fun x hx=>by
    obtain ⟨o,es,ep,h1,h2,h3,h4,h5,h6⟩:=id ho'
    obtain ⟨o2,its,n,g1,g2,g3,g4⟩:=h5 x hx
    exact ⟨o2,g1,g2⟩
  have hap:(xs.map fun x=>(tupleKind (mixKind X.prog X.w)).hash x.1).Nodup:=by
    have e:(xs.map fun x=>(tupleKind (mixKind X.prog X.w)).hash x.1)=kvs.map fun e=>(tupleKind (mixKind X.prog X.w)).hash e.1:=by
      clear hty ho' ho hnew hz z hh ha q
      induction rel with
      | nil=>rfl
      | cons h _ ih=>rw [List.map_cons,List.map_cons,ih,h.1]
    rw [e];exact hh
  have hn:(xs.map (·.1)).Nodup:=ho.nodup
  refine wpAny_mergeDict_heap (hsz:=by simpa using hz) ?room hdo hoS hnew ho' (.inr ⟨hty,hap⟩) fun h' hd' _ hs'=>?_
  case room=>exact (show X.A.units + 1 + 1 < cLine by omega)
  show wpAny _ _ (Builtin.Dict.addKeywords s.heap.objs.size [] >>= _) _ _ _
  rw [storedAllH_nil_of_nodup xs hn] at hd'
  refine wpAny_bind (wpAny_pure (wpAny_pure ⟨rfl,?_⟩))
  obtain ⟨o,es,ep,h1,h2,h3,h4,h5,h6⟩:=hd'
  exact ⟨.ref s.heap.objs.size,upd H s.heap.objs.size (.dT kvs),I.laid (t':=s.toks) (fun b u e=>(hs'.2 b (Nat.ne_of_lt (Heap.lt_size e))).trans (Heap.get?_push_of_some _ e)) (Nat.le_refl _)
    ⟨z,hm,xs,rel.keeps (fun c ys ec=>by rw [upd_ne (ne_of_none ec (I.hok.fresh (Nat.le_refl _)))];exact ec),o,es,ep,h1,h2,h3,h4,h6⟩,rfl,q _ (I.hok.fresh (Nat.le_refl _))⟩
def intsD (c:List Int) : PyData:=.tuple (c.map .int)
def rSortedDT:List V→Hp→VK→Prop:=fun vs H Q=>∃ (a:Addr) (kvs:List (List Key×V)) (cs:List (List Int)),vs=[.ref a]∧H a=some (.dT kvs)∧kvs.map (·.1)=cs.map (fun c=>c.map Sum.inl)∧AllAlike (cs.map intsD)∧Sortable (cs.map intsD)∧(∀ c∈cs,(intsD c).depth≤60∧c.length≤1000000)∧
  ∀ p ys,H p=none→DaL H ys (srt (cs.map intsD))→Q (.ref p) (upd H p (.lst ys))
theorem reads_ints {h:Heap}:∀ {ns:List Int} {us:List Value},Vals (ns.map V.int) us→PySem.ReadsAll h us (ns.map .int) []
  | [],_,.nil=>.nil
  | n::ns,u::us,h=>by
    cases h with
    | cons r t=>
      obtain ⟨tk,rfl⟩:=r
      exact .cons (as:=[]) (bs:=[]) (.int n tk) (reads_ints t)
theorem each_idx {α β:Type} {R : α→β→Prop}:∀ {us:List α} {bs:List β},us.length=bs.length→(∀ (i:Nat) u b,us[i]? = some u→bs[i]? = some b→R u b)→EachIs R us bs
  | [],[],_,_=>.nil
  | u::us,b::bs,hl,h=>.cons (h 0 u b rfl rfl) (each_idx (by simpa using hl) fun i x y hx hy=>h (i + 1) x y (by simpa using hx) (by simpa using hy))
  | [],_::_,hl,_=>by simp at hl
  | _::_,[],hl,_=>by simp at hl
theorem each_refs {γ:Type}:∀ {us:List Value} {bs:List (Addr×γ)},EachIs (fun u (b:Addr×γ)=>u=.ref b.1) us bs→Vals (bs.map fun b=>V.ref b.1) us
  | _,_,.nil=>.nil
  | _,_,.cons r t=>.cons r (each_refs t)
theorem da_refs {γ:Type} {H:Hp} {f : γ→PyData}:∀ {bs:List (Addr×γ)},(∀ b∈bs,Da H (.ref b.1) (f b.2))→DaL H (bs.map fun b=>V.ref b.1) (bs.map fun b=>f b.2)
  | [],_=>.nil
  | b::bs,h=>.cons (h b List.mem_cons_self) (da_refs fun c hc=>h c (List.mem_cons_of_mem _ hc))
theorem b_sortedDT (hcalm:X.calm=true) (hu:X.A.units + 64 < cLine) : CallR X (.builtin "sorted") rSortedDT:=by
  intro pins s σ H vs us Q I r h
  obtain ⟨a,kvs,cs,rfl,ha,hks,hal,hsrt,hdp,q⟩:=h
  obtain ⟨u,rfl,ru⟩:=vals1 r
  obtain rfl : u=Value.ref a:=ru
  obtain ⟨z,lo,xs,rel,dd⟩:=dt_of I.hok ha
  obtain ⟨es,ep,raw,hes,hkey⟩:=raw_of dd
  have hl : kvs.length=xs.length:=Paired.length rel
  have hcl : cs.length=kvs.length:=by have e:=congrArg List.length hks;rw [List.length_map,List.length_map] at e;exact e.symm
  have hz : es.size≤sizeLine:=by rw [hes,← hl];exact z
  have hat:∀ (i:Nat) (x:List Key×Addr×Value) (c:List Int),xs[i]? = some x→cs[i]? = some c→H x.2.1=some (.tup (c.map V.int)):=fun i x c hx hc=>by
    obtain ⟨y,hy,e1,e2,_⟩:=L2.DX.pget rel hx
    have e3:(kvs.map (·.1))[i]? = (cs.map fun c=>c.map Sum.inl)[i]?:=by rw [hks]
    rw [List.getElem?_map,List.getElem?_map,hy,hc] at e3
    have e4 : y.1=c.map Sum.inl:=Option.some.inj e3
    rw [e4,List.map_map] at e2
    exact e2
  refine Calls.call_function_entry PyProof.Rows.kind_sorted PyProof.Rows.plain_sorted PyProof.Rows.entry_sorted (PyProof.Rows.args_sorted1 _) ?_
  unfold Builtin.«sorted»
  refine wpAny_bind (m:=checkCount "sorted" 1 1 _) (wpAny_pure ?_)
  refine wpAny_bind (PySem.W.kdu_collect (A:=X.A.in1) (KdlSrc.rawDict lo) (I.ok.hd hcalm) raw hz fun h' tk acc hk hacc=>?_)
  have I1:Inv X pins σ H { s with heap:=h',toks:=tk }:=I.kept hk
  let bs:List (Addr×List Int):=(xs.map fun x=>x.2.1).zip cs
  have hbl : bs.length=cs.length:=by
    show ((xs.map fun x=>x.2.1).zip cs).length=_
    rw [List.length_zip,List.length_map];omega
  have hb2 : bs.map (fun b=>b.2)=cs:=List.map_snd_zip (by rw [List.length_map];omega)
  have hbe : bs.map (fun b=>intsD b.2)=cs.map intsD:=by rw [← hb2,List.map_map];rfl
  have hbat:∀ b∈bs,H b.1=some (.tup (b.2.map V.int)):=fun b hb=>by
    obtain ⟨i,hi⟩:=List.mem_iff_getElem?.mp hb
    obtain ⟨h1,h2⟩:=List.getElem?_zip_eq_some.mp hi
    rw [List.getElem?_map] at h1
    cases e : xs[i]? with
    | none=>rw [e] at h1;cases h1
    | some x=>
      rw [e] at h1
      have:=Option.some.inj h1
      rw [← this]
      exact hat i x b.2 e h2
  have hbd:∀ b∈bs,b.2∈cs:=fun b hb=>by rw [← hb2];exact List.mem_map.mpr ⟨b,hb,rfl⟩
  have hal' : acc.toList.length=bs.length:=by rw [Array.length_toList,hacc.1,hbl];omega
  have E1:EachIs (fun u (b:Addr×List Int)=>u=.ref b.1) acc.toList bs:=each_idx hal' fun i u b hu hb=>by
    obtain ⟨hi,hv⟩:=hacc.2 i u (by rw [← Array.getElem?_toList];exact hu)
    obtain ⟨x,hx,hk2⟩:=hkey i hi
    obtain ⟨h1,h2⟩:=List.getElem?_zip_eq_some.mp hb
    rw [List.getElem?_map,hx] at h1
    rw [hv,hk2,← Option.some.inj h1]
  have hpl : acc.toList.length≤sizeLine:=by rw [hal',hbl,hcl];exact z
  refine wpAny_bind (wpAny_newList ?_ hpl)
  have hoL:(h'.push (seqObj "list" acc.toList.toArray 0)).get? h'.objs.size=some (seqObj "list" acc.toList.toArray 0):=Heap.get?_push_size _ rfl
  have E2:EachIs (fun v (b:Addr×List Int)=>∃ as,PySem.Reads (h'.push (seqObj "list" acc.toList.toArray 0)) v (intsD b.2) as∧h'.objs.size∉as) acc.toList bs:=each_idx hal' fun i u b hu hb=>by
    have hm:=List.mem_of_getElem? hb
    obtain ⟨_,its,r,o,g1,g2,n,g3⟩:=(show ObjOk X.prog X.w H h' b.1 (.tup (b.2.map V.int)) from I1.hok b.1 _ (hbat b hm))
    have hu2 : u=.ref b.1:=by
      obtain ⟨hi,hv⟩:=hacc.2 i u (by rw [← Array.getElem?_toList];exact hu)
      obtain ⟨x,hx,hk2⟩:=hkey i hi
      obtain ⟨h1,h2⟩:=List.getElem?_zip_eq_some.mp hb
      rw [List.getElem?_map,hx] at h1
      rw [hv,hk2,← Option.some.inj h1]
    rw [hu2]
    exact ⟨[],.tuple (Heap.get?_push_of_some _ g1) g2 g3 (by simpa using reads_ints r),by simp⟩
  show wpAny _ _ _ _ _ { s with heap:=h'.push (seqObj "list" acc.toList.toArray 0),toks:=tk }
  refine wpAny_bind (wpAny_holding (list_sort_data (s:={ s with heap:=h'.push (seqObj "list" acc.toList.toArray 0),toks:=tk }) (enc:=fun b:Addr×List Int=>intsD b.2) hoL E1 E2 (by rw [hbe];exact hal) (by rw [hbe];exact hsrt) (by rw [hbl,hcl];exact z) (fun b hb=>?_) fun out ho eo=>?_))
  · have:=(hdp b.2 (hbd b hb)).1
    show X.A.units + 1 + 1 + (intsD b.2).depth < cLine
    omega
  obtain ⟨e',he'⟩:=PyProof.Rows.sortedHeap_at (vs:=acc.toList) (out:=out.toArray) hoL
  have hys:DaL H ((bs.mergeSort (dataLe false fun b:Addr×List Int=>intsD b.2)).map fun b=>V.ref b.1) (srt (cs.map intsD)):=by
    rw [← hbe,← srt_map (fun b:Addr×List Int=>intsD b.2) bs]
    refine da_refs fun b hb=>?_
    have hm:=(List.mergeSort_perm _ _).mem_iff.mp hb
    exact .tup (hbat b hm) (by rw [List.length_map];exact (hdp b.2 (hbd b hm)).2) (DaL.ofInts b.2)
  have hlen:((bs.mergeSort (dataLe false fun b:Addr×List Int=>intsD b.2)).map fun b=>V.ref b.1).length≤sizeLine:=by
    rw [List.length_map,List.length_mergeSort,hbl,hcl];exact z
  refine wpAny_pure ⟨_,rfl,.ref h'.objs.size,upd H h'.objs.size (.lst _),I1.laid (t':=tk) (fun b u e=>?_) (Nat.le_refl _)
    (show ObjOk X.prog X.w _ _ _ (.lst _) from ⟨hlen,out,e',each_refs eo,he'⟩),rfl,q _ _ (I1.hok.fresh (Nat.le_refl _)) hys⟩
  have hb : b < h'.objs.size:=Heap.lt_size e
  rw [PyProof.Rows.sortedHeap_old (Nat.ne_of_lt hb) (by rw [size_push'];exact Nat.lt_succ_of_lt hb)]
  exact Heap.get?_push_of_some _ e
end
def hp (a b:Int) : Int:=reduceHash (Builtin.Tuple.tupleHashOf [hashInt a,hashInt b])
theorem pair_hash (P:Program) (w:World) (a b:Int) : (tupleKind (mixKind P w)).hash [.inl a,.inl b]=hp a b:=by
  show reduceHash (Builtin.Tuple.tupleHashOf [keyH w (.inl a),keyH w (.inl b)])=_
  unfold hp keyH
  rfl
theorem hp_nd:((List.range 104).map fun i=>hp ((i / 26:Nat) : Int) ((i % 26:Nat) : Int)).Nodup:=by decide +kernel
theorem hp_inj {a b c d:Nat} (ha : a < 4) (hb : b < 26) (hc : c < 4) (hd : d < 26) (e : hp a b=hp c d) : a=c∧b=d:=by
  have pw:=List.pairwise_iff_getElem.mp hp_nd
  have key:∀ i j:Nat,i < j→j < 104→hp ((i / 26:Nat) : Int) ((i % 26:Nat) : Int)≠hp ((j / 26:Nat) : Int) ((j % 26:Nat) : Int):=fun i j hij hj=>by
    have h:=pw i j (by rw [List.length_map,List.length_range];omega) (by rw [List.length_map,List.length_range];omega) hij
    rw [List.getElem_map,List.getElem_map,List.getElem_range,List.getElem_range] at h
    exact h
  have e1:(26 * a + b) / 26=a:=by omega
  have e2:(26 * a + b) % 26=b:=by omega
  have e3:(26 * c + d) / 26=c:=by omega
  have e4:(26 * c + d) % 26=d:=by omega
  rcases Nat.lt_trichotomy (26 * a + b) (26 * c + d) with h | h | h
  · have:=key _ _ h (by omega)
    rw [e1,e2,e3,e4] at this
    exact absurd e this
  · omega
  · have:=key _ _ h (by omega)
    rw [e1,e2,e3,e4] at this
    exact absurd e.symm this
theorem map_keys {f:List Key→Int} {g:Int×Int→Int} (hf:∀ c:Int×Int,f [Sum.inl c.1,Sum.inl c.2]=g c) : ∀ {kvs:List (List Key×V)} {cs:List (Int×Int)},kvs.map (·.1)=cs.map (fun c=>[Sum.inl c.1,Sum.inl c.2])→(kvs.map fun e=>f e.1)=cs.map g
  | [],[],_=>rfl
  | e::kvs,c::cs,h=>by
    rw [List.map_cons,List.map_cons] at h
    injection h with h1 h2
    rw [List.map_cons,List.map_cons,map_keys hf h2,h1,hf]
  | [],_::_,h=>by cases h
  | _::_,[],h=>by cases h
def rDictC:List V→Hp→VK→Prop:=fun vs H Q=>∃ (a:Addr) (kvs:List (List Key×V)) (cs:List (Int×Int)),vs=[.ref a]∧H a=some (.dT kvs)∧kvs.map (·.1)=cs.map (fun c=>[Sum.inl c.1,Sum.inl c.2])∧(cs.map fun c=>hp c.1 c.2).Nodup∧∀ p,H p=none→Q (.ref p) (upd H p (.dT kvs))
theorem b_dictC {X:Cx} (hu:X.A.units + 8 < cLine) : CallR X (.type "dict") rDictC:=by
  intro pins s σ H vs us Q I r h
  obtain ⟨a,kvs,cs,rfl,ha,hk,hh,q⟩:=h
  refine b_dictT hu pins s σ H _ us Q I r ⟨a,kvs,rfl,ha,?_,q⟩
  have e:=map_keys (f:=(tupleKind (mixKind X.prog X.w)).hash) (g:=fun c=>hp c.1 c.2) (fun c=>pair_hash _ _ c.1 c.2) hk
  rw [e];exact hh
theorem g_dictC {H:Hp} {Q:VK} {a:Addr} {kvs:List (List Key×V)} (cs:List (Int×Int)) (h:H a=some (.dT kvs)) (hk : kvs.map (·.1)=cs.map (fun c=>[Sum.inl c.1,Sum.inl c.2])) (hn:(cs.map fun c=>hp c.1 c.2).Nodup) (q:∀ p H',H p=none→Fr [] H H'→H' p=some (.dT kvs)→Q (.ref p) H') : rDictC [.ref a] H Q:=
  ⟨a,kvs,cs,rfl,h,hk,hn,fun p e=>q p _ e (Fr.new e) upd_same⟩
theorem g_sortedDT {H:Hp} {Q:VK} {a:Addr} {kvs:List (List Key×V)} (cs:List (List Int)) (h:H a=some (.dT kvs)) (hk : kvs.map (·.1)=cs.map (fun c=>c.map Sum.inl)) (ha:AllAlike (cs.map intsD)) (hs:Sortable (cs.map intsD)) (hd:∀ c∈cs,(intsD c).depth≤60∧c.length≤1000000)
    (q:∀ p H' ys,H p=none→Fr [] H H'→H' p=some (.lst ys)→DaL H' ys (srt (cs.map intsD))→Q (.ref p) H') : rSortedDT [.ref a] H Q:=
  ⟨a,kvs,cs,rfl,h,hk,ha,hs,hd,fun p ys e d=>q p _ ys e (Fr.new e) upd_same (DaL.frL (Fr.new e) d (immL_of fun d hd=>by
    obtain ⟨c,_,rfl⟩:=List.mem_map.mp ((srt_perm _).mem_iff.mp hd)
    exact immL_of fun d hd=>by obtain ⟨n,_,rfl⟩:=List.mem_map.mp hd;rfl))⟩
theorem g_popT {H:Hp} {Q:VK} {a b:Addr} {kvs:List (List Key×V)} {k:List Key} {d:V} (h:H a=some (.dT kvs)) (hb:H b=some (.tup (k.map kV))) (q1:∀ v H',valV kvs k=some v→Fr [a] H H'→H' a=some (.dT (dropK kvs k))→Q v H') (q2 : valV kvs k=none→Q d H) : L2.DX.rPopT (.ref a) [.ref b,d] H Q:=
  ⟨a,kvs,k,b,d,rfl,rfl,h,hb,fun v e=>q1 v _ e (Fr.put h trivial) upd_same,q2⟩
theorem Fr.back {p:Addr} {u:HO} {H H':Hp} (f:Fr [p] H H') (h:H p=some u) (h':H' p=some u) : Fr [] H H':=⟨fun a o e _=>by
  by_cases q : a=p
  · subst q;rw [h] at e;cases e;exact h'
  · exact f.at e (nin1 q nin0),f.tup⟩
def rDA (a:Addr) (y:V) (v:V) (tv:TE) (rd:V→V→Hp→VK→Prop) (σ:L2.St) (H:Hp) (P:Hp→Prop) : Prop:=tv σ H fun y2 H3=>rd v y2 H3 fun z H4=>∃ H5,DPut H4 a y z H5∧P H5
def rDA0 (x y:V) (tv:TE) (rd:V→V→Hp→VK→Prop) (σ:L2.St) (H:Hp) (P:Hp→Prop) : Prop:=∃ a v,x=.ref a∧DGet H a y (some v)∧rDA a y v tv rd σ H P
theorem g_daug {td ty tv:TE} {rd:V→V→Hp→VK→Prop} {D:Ends} {σ:L2.St} {H:Hp} (h : td σ H fun x H1=>ty σ H1 fun y H2=>rDA0 x y tv rd σ H2 fun H5=>D.nx σ H5) : sDAug td ty tv rd D σ H:=h
theorem g_rda0 {a b:Addr} {kvs:List (List Key×V)} {k:List Key} {v:V} {tv:TE} {rd:V→V→Hp→VK→Prop} {σ:L2.St} {H:Hp} {P:Hp→Prop} (h:H a=some (.dT kvs)) (hb:H b=some (.tup (k.map kV))) (hv : valV kvs k=some v) (q : rDA a (.ref b) v tv rd σ H P) : rDA0 (.ref a) (.ref b) tv rd σ H P:=
  ⟨a,v,rfl,.inr ⟨kvs,k,b,.inl h,rfl,hb,hv.symm⟩,q⟩
theorem g_rdput {a b:Addr} {kvs:List (List Key×V)} {k:List Key} {v:V} {H:Hp} {P:Hp→Prop} (h:H a=some (.dT kvs)) (e:H b=some (.tup (k.map kV))) (hl : kvs.length < sizeLine) (c:∀ H',Fr [a] H H'→H' a=some (.dT (putK kvs k v))→P H') : ∃ H5,DPut H a (.ref b) v H5∧P H5:=
  ⟨_,.inr ⟨kvs,k,b,h,rfl,e,hl,rfl⟩,c _ (Fr.put h trivial) upd_same⟩
theorem un1 {u c:Nat} (h : u + 64 < c) : u + 1 < c:=by omega
theorem un8 {u c:Nat} (h : u + 64 < c) : u + 8 < c:=by omega
end Lw
namespace Lw
open PySem L2
def LsAt (H:Hp) (a:Addr) (ds:List PyData) : Prop:=immL ds=true∧∃ vs,H a=some (.lst vs)∧DaL H vs ds
theorem LsAt.fr {l:List Addr} {H H':Hp} {a:Addr} {ds:List PyData} (h:LsAt H a ds) (f:Fr l H H') (n : a∉l) : LsAt H' a ds:=by
  obtain ⟨i,vs,e,d⟩:=h
  exact ⟨i,vs,f.at e n,DaL.frL f d i⟩
theorem LsAt.of {H:Hp} {a:Addr} {vs:List V} {ds:List PyData} (e:H a=some (.lst vs)) (d:DaL H vs ds) (i : immL ds=true) : LsAt H a ds:=⟨i,vs,e,d⟩
theorem LsAt.nil {H:Hp} {a:Addr} (e:H a=some (.lst [])) : LsAt H a []:=⟨rfl,[],e,.nil⟩
theorem LsAt.da {H:Hp} {a:Addr} {ds:List PyData} (h:LsAt H a ds) (hl : ds.length≤1000000) : Da H (.ref a) (.list ds):=by
  obtain ⟨i,vs,e,d⟩:=h
  exact .lst e (by rw [d.len];exact hl) d
theorem LsAt.snoc {H H':Hp} {a:Addr} {vs:List V} {ds:List PyData} {v:V} {d:PyData} (r:DaL H vs ds) (i : immL ds=true) (dv:Da H v d) (id : imm d=true) (f:Fr [a] H H') (e:H' a=some (.lst (vs++[v]))) : LsAt H' a (ds++[d]):=by
  refine ⟨by rw [immL_append,i];simp [immL,id],_,e,?_⟩
  exact (DaL.frL f r i).append (.one' (Da.frL f dv id))
theorem immL_map {α:Type} {f : α→PyData} (h:∀ x,imm (f x)=true) (l:List α) : immL (l.map f)=true:=immL_of fun d hd=>by obtain ⟨x,_,rfl⟩:=List.mem_map.mp hd;exact h x
abbrev DkR (H:Hp) : List (Key×V)→List (Int×PyData)→Prop:=Paired fun p e=>p.1=Sum.inl e.1∧Da H p.2 e.2∧imm e.2=true
def DkAt (H:Hp) (a:Addr) (m:List (Int×PyData)) : Prop:=∃ kvs,H a=some (.dK kvs)∧DkR H kvs m
theorem DkR.fr {l:List Addr} {H H':Hp} {kvs:List (Key×V)} {m:List (Int×PyData)} (r:DkR H kvs m) (f:Fr l H H') : DkR H' kvs m:=Paired.mapP r fun p q z=>⟨z.1,Da.frL f z.2.1 z.2.2,z.2.2⟩
theorem DkAt.fr {l:List Addr} {H H':Hp} {a:Addr} {m:List (Int×PyData)} (h:DkAt H a m) (f:Fr l H H') (n : a∉l) : DkAt H' a m:=by
  obtain ⟨kvs,e,r⟩:=h
  exact ⟨kvs,f.at e n,r.fr f⟩
theorem DkAt.nil {H:Hp} {a:Addr} (e:H a=some (.dK [])) : DkAt H a []:=⟨[],e,.nil⟩
theorem DkR.len {H:Hp} {kvs:List (Key×V)} {m:List (Int×PyData)} (r:DkR H kvs m) : kvs.length=m.length:=Paired.length r
theorem DkR.val {H:Hp} {kvs:List (Key×V)} {m:List (Int×PyData)} (r:DkR H kvs m) (k:Int) : (lk m k=none→valV kvs (.inl k)=none)∧∀ d,lk m k=some d→∃ v,valV kvs (.inl k)=some v∧Da H v d∧imm d=true:=by
  induction r with
  | nil=>exact ⟨fun _=>rfl,fun d h=>by cases h⟩
  | @cons p q ps qs h t ih=>
    obtain ⟨h1,h2,h3⟩:=h
    by_cases e : q.1=k
    · have c : lk (q::qs) k=some q.2:=by simp [lk,List.find?_cons,e]
      rw [c,valV_pos (by rw [h1,e])]
      exact ⟨fun z=>(by cases z),fun d z=>(by cases z;exact ⟨_,rfl,h2,h3⟩)⟩
    · have c : lk (q::qs) k=lk qs k:=by simp [lk,List.find?_cons,e]
      rw [c,valV_neg (fun z=>e (by rw [h1] at z;exact Sum.inl.inj z))]
      exact ih
theorem DkR.isS {H:Hp} {kvs:List (Key×V)} {m:List (Int×PyData)} (r:DkR H kvs m) (k:Int) : (valV kvs (.inl k)).isSome=(lk m k).isSome:=by
  obtain ⟨h1,h2⟩:=r.val k
  cases e : lk m k with
  | none=>rw [h1 e];rfl
  | some d=>obtain ⟨v,hv,_⟩:=h2 d e;rw [hv];rfl
theorem lk_any2 {κ α:Type} [DecidableEq κ] (m:List (κ×α)) (k : κ) : (m.any fun e=>decide (e.1=k))=(lk m k).isSome:=by
  induction m with
  | nil=>rfl
  | cons e r ih=>
    by_cases h : e.1=k
    · simp [lk,List.find?_cons,h]
    · have c : lk (e::r) k=lk r k:=by simp [lk,List.find?_cons,h]
      rw [c,← ih];simp [h]
theorem DkR.put {H:Hp} {kvs:List (Key×V)} {m:List (Int×PyData)} (r:DkR H kvs m) (k:Int) {v:V} {d:PyData} (dv:Da H v d) (id : imm d=true) : DkR H (putK kvs (.inl k) v) (pt m k d):=by
  have e:(kvs.any fun kv=>decide (kv.1=Sum.inl k))=(m.any fun e=>decide (e.1=k)):=by rw [valV_any,r.isS,lk_any2]
  unfold putK pt
  rw [e]
  by_cases q:(m.any fun e=>decide (e.1=k))=true
  · rw [if_pos q,if_pos q]
    clear q e
    induction r with
    | nil=>exact .nil
    | @cons p q ps qs h t ih=>
      rw [List.map_cons,List.map_cons]
      refine .cons ?_ ih
      obtain ⟨h1,h2,h3⟩:=h
      by_cases e : q.1=k
      · rw [if_pos (by rw [h1,e]),if_pos e];exact ⟨h1,dv,id⟩
      · rw [if_neg (fun z=>e (by rw [h1] at z;exact Sum.inl.inj z)),if_neg e];exact ⟨h1,h2,h3⟩
  · rw [if_neg q,if_neg q];exact Paired.snoc r ⟨rfl,dv,id⟩
theorem DkR.drop {H:Hp} {kvs:List (Key×V)} {m:List (Int×PyData)} (r:DkR H kvs m) (k:Int) : DkR H (dropK kvs (.inl k)) (dr m k):=by
  unfold dropK dr
  induction r with
  | nil=>exact .nil
  | @cons p q ps qs h t ih=>
    obtain ⟨h1,h2,h3⟩:=h
    by_cases e : q.1=k
    · have a : decide (p.1≠(Sum.inl k:Key))=false:=by rw [h1,e];simp
      have b : decide (q.1≠k)=false:=by simp [e]
      simp only [List.filter_cons,a,b];exact ih
    · have a : decide (p.1≠(Sum.inl k:Key))=true:=by rw [h1];exact decide_eq_true fun z=>e (Sum.inl.inj z)
      have b : decide (q.1≠k)=true:=decide_eq_true e
      simp only [List.filter_cons,a,b];exact .cons ⟨h1,h2,h3⟩ ih
theorem DkR.get {H:Hp} {kvs:List (Key×V)} {m:List (Int×PyData)} (r:DkR H kvs m) : ∀ {i:Nat} {k:Key} {v:V},kvs[i]? = some (k,v)→∃ e,m[i]? = some e∧k=Sum.inl e.1∧Da H v e.2:=by
  induction r with
  | nil=>intro i k v h;simp at h
  | @cons p q ps qs h t ih=>
    intro i k v hi
    cases i with
    | zero=>simp at hi;subst hi;exact ⟨q,rfl,h.1,h.2.1⟩
    | succ i=>obtain ⟨e,h1,h2⟩:=ih (i:=i) (by simpa using hi);exact ⟨e,by simpa using h1,h2⟩
section
variable {K:PySem.W.Frag} {σ:L2.St} {H H':Hp} {Q:VK} {D:Ends} {td ty te tv tx:TE} {tt:TT} {tb t:TS} {g:TG} {a b d q:Addr} {o:Obj} {kvs:List (Key×V)} {k:Key} {v x y z:V} {vs:List Nat} {R:It→Hp→Prop} {as:TA}
theorem g_rdgK (k:Key) (h:Rd H a (.dK kvs)) (l : valV kvs k=some v) (c:Q v H) : rDG (.ref a) (kV k) H Q:=⟨a,v,rfl,.inl ⟨kvs,k,h,rfl,l.symm⟩,c⟩
theorem g_rdgI {i:Int} (h:Rd H a (.dK kvs)) (l : valV kvs (.inl i)=some v) (c:Q v H) : rDG (.ref a) (.int i) H Q:=g_rdgK (.inl i) h l c
theorem g_rdgS {s:Str} (h:Rd H a (.dK kvs)) (l : valV kvs (.inr s)=some v) (c:Q v H) : rDG (.ref a) (.str s) H Q:=g_rdgK (.inr s) h l c
theorem g_rdniI {i:Int} (h:Rd H a (.dK kvs)) (c:Q (.bl (!(valV kvs (.inl i)).isSome)) H) : rDNI (.int i) (.ref a) H Q:=⟨a,_,rfl,.inl ⟨kvs,.inl i,h,rfl,rfl⟩,c⟩
theorem g_rdpI {i:Int} {P:Hp→Prop} (h:H a=some (.dK kvs)) (hl : kvs.length < sizeLine) (c:∀ H',Fr [a] H H'→H' a=some (.dK (putK kvs (.inl i) v))→P H') : rDP (.ref a) (.int i) v H P:=
  ⟨a,_,rfl,.inl ⟨kvs,.inl i,h,rfl,hl,rfl⟩,c _ (Fr.put h trivial) upd_same⟩
theorem g_rdpS {s:Str} {gs:List (Key×V)} {P:Hp→Prop} (h:H a=some (.dK kvs)) (hl : kvs.length < sizeLine) (e : putK kvs (.inr s) v=gs) (c:∀ H',Fr [a] H H'→H' a=some (.dK gs)→P H') : rDP (.ref a) (.str s) v H P:=
  ⟨a,_,rfl,.inl ⟨kvs,.inr s,h,rfl,hl,rfl⟩,c _ (Fr.put h trivial) (by rw [e];exact upd_same)⟩
theorem g_rdg2K {P:Addr→Prop} (h:Rd H a (.dK kvs)) (c:P a) : rDG2 (.ref a) H P:=⟨a,rfl,.inl ⟨kvs,h⟩,c⟩
theorem g_dgoI {i:Int} (h:Rd H a (.dK kvs)) (c:Q ((valV kvs (.inl i)).getD z) H) : rDO a (.int i) z H Q:=⟨_,.inl ⟨kvs,.inl i,h,rfl,rfl⟩,c⟩
theorem g_rkk (h:H d=some (.frz o (.dK kvs))) (c:R (Itk d o kvs) H) : rKy (.ref d) H R:=⟨d,o,rfl,.inl ⟨kvs,h,c⟩⟩
theorem f_keysK (Pv:Nat→L2.St→Hp→Prop) (h0:Pv 0 σ H) (hl:∀ i σ H,i≤kvs.length→Pv i σ H→H d=some (.frz o (.dK kvs)))
    (hs:∀ i k v σ H,kvs[i]? = some (k,v)→Pv i σ H→g (kV k) σ H fun σ2 H2=>tb { D with nx:=Pv (i + 1),ct:=Pv (i + 1),bk:=D.nx } σ2 H2) (hd:∀ σ H,Pv kvs.length σ H→D.nx σ H) : ForGo (Itk d o kvs) g tb D σ H:=
  for_it walk_keys Pv h0 hl (fun i x σ H H' hi p y=>by obtain ⟨rfl,k,v,h1,rfl⟩:=y;exact hs i k v σ _ h1 p) hd
def rPopI (a:Addr) (y:V) (H:Hp) (Q:VK) : Prop:=∃ kvs k v,H a=some (.dK kvs)∧y=kV k∧valV kvs k=some v∧Q v (upd H a (.dK (dropK kvs k)))
theorem g_dpop1 (h : td σ H fun x H1=>rDG2 x H1 fun a=>ty σ H1 fun y H2=>rPopI a y H2 Q) : tDPop1 td ty σ H Q:=h
theorem g_rpopI {i:Int} (h:H a=some (.dK kvs)) (l : valV kvs (.inl i)=some v) (c:∀ H',Fr [a] H H'→H' a=some (.dK (dropK kvs (.inl i)))→Q v H') : rPopI a (.int i) H Q:=⟨kvs,.inl i,v,h,rfl,l,c _ (Fr.put h trivial) upd_same⟩
theorem g_unlK {u:HO} (h:H d=some (.frz o u)) {P:Hp→Prop} (c:∀ H',Fr [d] H H'→H' d=some u→P H') : rUl d o u H P:=g_unl h c
end
def rLenD:List V→Hp→VK→Prop:=fun xs H Q=>∃ a kvs,xs=[V.ref a]∧H a=some (.dK kvs)∧Q (.int kvs.length) H
theorem b_lenD {X:Cx}:CallR X (.builtin "len") rLenD:=call_lenD
theorem g_lenDK {H:Hp} {Q:VK} {a:Addr} {kvs:List (Key×V)} (h:H a=some (.dK kvs)) (q:Q (.int kvs.length) H) : rLenD [.ref a] H Q:=⟨a,kvs,rfl,h,q⟩
section
variable {σ:L2.St} {H:Hp} {Q:VK} {trs:List (TE×TE)} {tk tv:TE}
def rDs (p:Addr) (ps:List (V×V)) (H2:Hp) (Q:VK) : Prop:=H2 p=some (.dK [])∧∃ kvs:List (Key×V),ps=kvs.map (fun kv=>(kV kv.1,kv.2))∧kvs.length≤15∧Q (.ref p) (upd H2 p (.dK (mergeK [] kvs)))
theorem g_disp (h:∀ p H0,H p=none→Fr [] H H0→H0 p=some (.dK [])→tPairs trs σ H0 fun ps H2=>rDs p ps H2 Q) : tDisp trs σ H Q:=fun p hp=>h p _ hp (Fr.new hp) upd_same
theorem g_pcons {QP:List (V×V)→Hp→Prop} {r:List (TE×TE)} (h : tk σ H fun x H1=>tv σ H1 fun y H2=>tPairs r σ H2 fun ps H3=>QP ((x,y)::ps) H3) : tPairs ((tk,tv)::r) σ H QP:=h
theorem g_pnil {QP:List (V×V)→Hp→Prop} (h:QP [] H) : tPairs [] σ H QP:=h
end
section
variable {K:PySem.W.Frag} {σ:L2.St} {H H':Hp} {D:Ends} {tb:TS} {g:TG} {a b:Addr} {R:It→Hp→Prop} {as:TA}
def rZA (K:PySem.W.Frag) (vs:List V) (H:Hp) (R:It→Hp→Prop) : Prop:=∃ a b xs ys,vs=[.ref a,.ref b]∧((SqL K H a xs∧SqL K H b ys∧R (Itz K a b) H)∨(SqT K H a xs∧SqT K H b ys∧R (RZ.ItzT K a b) H))
theorem g_iZA (h : as σ H fun vs H1=>rZA K vs H1 R) : RZ.iZipA K as σ H R:=h
theorem g_rzaT {xs ys:List V} (h:SqT K H a xs) (h2:SqT K H b ys) (c:R (RZ.ItzT K a b) H) : rZA K [.ref a,.ref b] H R:=⟨a,b,xs,ys,rfl,.inr ⟨h,h2,c⟩⟩
theorem f_zipT {xs ys:List V} (hl : xs.length=ys.length) (Pv:Nat→L2.St→Hp→Prop) (h0:Pv 0 σ H) (hq:∀ i σ H,Pv i σ H→SqT K H a xs∧SqT K H b ys)
    (hs:∀ i x y T σ H H',xs[i]? = some x→ys[i]? = some y→Pv i σ H→H T=none→Fr [] H H'→H' T=some (.tup [x,y])→g (.ref T) σ H' fun σ2 H2=>tb { D with nx:=Pv (i + 1),ct:=Pv (i + 1),bk:=D.nx } σ2 H2) (hd:∀ σ H,Pv xs.length σ H→D.nx σ H) : ForGo (RZ.ItzT K a b) g tb D σ H:=
  RZ.for_zipT hl Pv h0 hq (fun i x y T σ H h1 h2 p hT=>hs i x y T σ H _ h1 h2 p hT (Fr.new hT) upd_same) hd
end
def AL (H:Hp) (l:List Addr) : Prop:=l.Nodup∧∀ a∈l,∃ o,H a=some o
theorem AL.fr0 {H H':Hp} {l:List Addr} (s:AL H l) (f:Fr [] H H') : AL H' l:=⟨s.1,fun a h=>by obtain ⟨o,e⟩:=s.2 a h;exact ⟨o,f.at0 e⟩⟩
theorem AL.new {H H':Hp} {l:List Addr} {p:Addr} {o:HO} (s:AL H l) (f:Fr [] H H') (n:H p=none) (e:H' p=some o) : AL H' (p::l):=
  ⟨List.nodup_cons.mpr ⟨fun q=>by (obtain ⟨o,e⟩:=s.2 p q;rw [n] at e;cases e),s.1⟩,fun a h=>(List.mem_cons.mp h).elim (fun q=>q ▸ ⟨o,e⟩) ((s.fr0 f).2 a)⟩
theorem AL.nin {H:Hp} {l:List Addr} {p:Addr} (s:AL H l) (n:H p=none) : p∉l:=fun q=>by obtain ⟨o,e⟩:=s.2 p q;rw [n] at e;cases e
theorem AL.part {H H':Hp} {os os' rest:List Addr} (s:AL H (os++rest)) (f:Fr os H H') (s':AL H' os') (n:∀ a∈os',a∈os∨H a=none) : AL H' (os'++rest):=by
  obtain ⟨n0,al⟩:=s
  have n1:=List.nodup_append.mp n0
  refine ⟨List.nodup_append.mpr ⟨s'.1,n1.2.1,fun a ha b hb e=>?_⟩,fun a ha=>?_⟩
  · subst e
    rcases n a ha with h | h
    · exact n1.2.2 a h a hb rfl
    · obtain ⟨o,e⟩:=al a (List.mem_append_right _ hb);rw [h] at e;cases e
  · rcases List.mem_append.mp ha with h | h
    · exact s'.2 a h
    · obtain ⟨o,e⟩:=al a (List.mem_append_right _ h)
      exact ⟨o,f.at e fun q=>n1.2.2 a q a h rfl⟩
theorem AL.perm {H:Hp} {l m:List Addr} (s:AL H l) (p : l.Perm m) : AL H m:=⟨p.nodup_iff.mp s.1,fun a h=>s.2 a (p.mem_iff.mpr h)⟩
theorem AL.apart {H:Hp} {os rest:List Addr} (s:AL H (os++rest)) {a:Addr} (h : a∈rest) : a∉os:=fun q=>(List.nodup_append.mp s.1).2.2 a q a h rfl
theorem AL.left {H:Hp} {os rest:List Addr} (s:AL H (os++rest)) : AL H os:=⟨(List.nodup_append.mp s.1).1,fun a h=>s.2 a (List.mem_append_left _ h)⟩
theorem AL.right {H:Hp} {os rest:List Addr} (s:AL H (os++rest)) : AL H rest:=⟨(List.nodup_append.mp s.1).2.1,fun a h=>s.2 a (List.mem_append_right _ h)⟩
end Lw
namespace Lw
open PySem PySem.Spec PyProof.Rows L2
set_option maxHeartbeats 4000000 in
theorem meets_enumT {v:Value} {o:Obj} {H:Heap→Prop} (B:Begins v o H) :
    Meets (Builtin.«enumerate.__new__» ⟨[.type "enumerate",v],[]⟩) (fun _ R s=>H s.heap∧
      R (.ok (.ret (.ref (s.heap.push o).objs.size))) { s with heap:=(s.heap.push o).push { cls:=.type "enumerate",data:=.fields #[.none,.bool false,.ref s.heap.objs.size,rawInt 0,.none,.none] } }):=
  .of_wp fun prog w A R s h=>by
    obtain ⟨hp,g,d,tk,os⟩:=s;obtain ⟨h1,h⟩:=h
    have hsub:=sub_enumerate
    have q1:∀ {A':Around} {E:Value→Shared→Prop} {Q:Value→Shared→Prop},Q (.ref hp.objs.size) ⟨hp.push o,g,d,tk,os⟩→wpAny (model prog w) A' (pyIter v) Q E ⟨hp,g,d,tk,os⟩:=
      fun q=>B.iter prog w _ _ ⟨hp,g,d,tk,os⟩ _ h1 q
    wp_walk using q1
    refine wpAny_stack_any fun st=>wpAny_pure ?_
    split
    · rename_i c _ _ _ _ _
      cases (c == Value.type "enumerate")
      · wp_walk using q1
        exact ⟨_,rfl,h⟩
      · wp_walk using q1
        exact ⟨_,rfl,h⟩
    · wp_walk using q1
      exact ⟨_,rfl,h⟩
theorem enum_begins1 {prog:Program} {w:World} {A:Around} {E:Value→Shared→Prop} {s:Shared} {v:Value} {o:Obj} {H:Heap→Prop} {Q:Value→Shared→Prop} (B:Begins v o H) (h1:H s.heap)
    (h:∀ h',IsEnum h' (s.heap.objs.size + 1) s.heap.objs.size 0 .none→h'.get? s.heap.objs.size=some o→h'.objs.size=s.heap.objs.size + 2→
      (∀ b o,s.heap.get? b=some o→h'.get? b=some o)→Q (.ref (s.heap.objs.size + 1)) { s with heap:=h' }) :
    wpAny (model prog w) A (call (.type "enumerate") [v]) Q E s:=by
  refine callType_new F.called_enumerate (by decide) (F.typeCall_enumerate_1 _) (F.newCall_enumerate_1 _) (fun obj=>F.args_object_init_2 obj _) F.entry_enumerate_new
    (meets_enumT B) ⟨h1,?_⟩
  have hz:(s.heap.push o).objs.size=s.heap.objs.size + 1:=Heap.size_push ..
  show _∧_
  rw [hz]
  have he:IsEnum ((s.heap.push o).push { cls:=.type "enumerate",data:=.fields #[.none,.bool false,.ref s.heap.objs.size,rawInt 0,.none,.none] }) (s.heap.objs.size + 1) s.heap.objs.size 0 .none:=by
    have:=Heap.get?_push_size (s.heap.push o) (o:={ cls:=.type "enumerate",data:=.fields #[.none,.bool false,.ref s.heap.objs.size,rawInt 0,.none,.none] }) rfl
    rw [hz] at this;exact this
  refine ⟨⟨_,he,rfl⟩,h _ he (Heap.get?_push_of_some _ (Heap.get?_push_size _ B.free)) (by rw [Heap.size_push,hz]) fun b o x=>Heap.get?_push_of_some _ (Heap.get?_push_of_some _ x)⟩
def IteT (K:PySem.W.Frag) (a:Addr) : It:=
  ⟨fun i H=>∃ (xs:List V) (x:V),SqT K H a xs∧xs[i]? = some x,fun i H v H'=>∃ T x,v=.ref T∧H T=none∧H'=upd H T (.tup [.int (i:Nat),x])∧∀ xs,SqT K H a xs→xs[i]? = some x,fun i H=>∃ xs:List V,SqT K H a xs∧xs.length≤i⟩
theorem turn_enumT {P:Program} {w:World} {K:PySem.W.Frag} {elts:List Expr} {kk:Nat} {tpos:Pos} (a e it:Addr) :
    Turn P w K (.Tuple elts kk tpos) (IteT K a) [e,it] e (fun i h=>(∃ old,IsEnum h e it ((i:Nat) : Int) old)∧h.IsTupleIter it a i∧e≠it) where
  mem:=by simp
  obj:=fun i h st b hb=>by
    obtain ⟨⟨old,he⟩,⟨o,ho,hc,hd⟩,_⟩:=st
    have e' : b=e∨b=it:=by simpa using hb
    rcases e' with z | z
    · rw [z];exact ⟨_,he,fun v q=>nomatch q⟩
    · rw [z];exact ⟨o,ho,fun v q=>by rw [hd] at q;cases q⟩
  keep:=fun i h h' st k=>let ⟨⟨old,he⟩,hi,hne⟩:=st;⟨⟨old,k e (by simp) _ he⟩,hi.at fun o q=>k it (by simp) o q,hne⟩
  item:=by
    intro X hP hw hK hc i pins s σ H E I hf st hg
    subst hP hw hK
    obtain ⟨⟨old,he⟩,hit,hne⟩:=st
    obtain ⟨xs,x,hq,hx⟩:=hg
    obtain ⟨its,rv,p,hz⟩:=I.tuple hq
    obtain ⟨u,hu,ru⟩:=rv.get hx
    have hel : e < s.heap.objs.size:=Heap.lt_size he
    have hil : it < s.heap.objs.size:=by obtain ⟨_,q,_⟩:=hit;exact Heap.lt_size q
    have hai : a≠it:=fun z=>by
      obtain ⟨o,h1,h2,n,h3⟩:=p
      obtain ⟨o',g1,g2,g3⟩:=hit
      rw [z] at h1;rw [h1] at g1;cases g1;rw [h3] at g3;cases g3
    have hae : a≠e:=fun z=>by
      obtain ⟨o,h1,h2,n,h3⟩:=p
      rw [z] at h1;cases Option.some.inj (h1.symm.trans he);cases h3
    have D:=Draws.tuple (prog:=X.prog) (w:=X.w) (A:=X.A.in1) (I.ok.hd hc) it a hai its.toArray
    have hi : i < its.toArray.size:=by
      have:=(List.getElem?_eq_some_iff.mp hu).1
      simpa using this
    refine wpAny_pyNext_enum_itemD D he ⟨hit,p⟩ hi hne (by simp [hne,Ne.symm hae]) fun y h' tk hy ho hst' hT hsz hk=>?_
    have hyu : y=u:=by
      have hu' : its.toArray[i]? = some u:=by simpa using hu
      rw [hu'] at hy;exact (Option.some.inj hy).symm
    subst hyu
    refine ⟨_,rfl,wpAny_letOwnedTupleGo_enum (s:={ s with heap:=h',toks:=tk + 1 }) ho fun h'' he' sb=>?_⟩
    have hT2 : h''.get? s.heap.objs.size=some { cls:=.type "tuple",data:=.seq #[.int i tk,y] }:=(sb.2 _ (Nat.ne_of_gt hel)).trans hT
    have new:ObjOk X.prog X.w (upd H s.heap.objs.size (.tup [.int (i:Nat),x])) h'' s.heap.objs.size (.tup [.int (i:Nat),x]):=
      ⟨by show 2≤sizeLine;decide,[.int i tk,y],.cons ⟨_,rfl⟩ (.cons ru .nil),⟨_,hT2,rfl,_,rfl⟩⟩
    have I1:Inv X pins σ (upd H s.heap.objs.size (.tup [.int (i:Nat),x])) { s with heap:=h'',toks:=tk + 1 }:=
      I.turnedNew (ch:=[e,it]) (fun b ob hb q=>(sb.2 b (fun z=>hb (by simp [z]))).trans (hk b ob (fun z=>hb (by simp [z])) (fun z=>hb (by simp [z])) q)) hf (Nat.le_refl _) new
    refine ⟨.ref s.heap.objs.size,_,I1,rfl,⟨_,x,rfl,I.hok.fresh (Nat.le_refl _),rfl,fun ys hy=>by rw [I.tuple_inj hy hq];exact hx⟩,⟨⟨y,?_⟩,hst'.1.at fun o q=>(sb.2 it (Ne.symm hne)).trans q,hne⟩,fun b hb=>?_⟩
    · have e1:((i + 1:Nat) : Int)=(i:Int) + 1:=by omega
      rw [e1];exact he'
    · have hb' : b < s.heap.objs.size:=by
        have e' : b=e∨b=it:=by simpa using hb
        rcases e' with z | z
        · rw [z];exact hel
        · rw [z];exact hil
      rw [upd_ne (Nat.ne_of_lt hb')]
      exact (hf b hb).1
  done:=by
    intro X hP hw hK hc i pins s σ H E I hf st hg
    subst hP hw hK
    obtain ⟨⟨old,he⟩,hit,hne⟩:=st
    obtain ⟨xs,hq,hx⟩:=hg
    obtain ⟨its,rv,p,hz⟩:=I.tuple hq
    obtain ⟨f0,f1,f2,f3,f4,f5⟩:=hf it (by simp)
    have hl:=rv.length
    have hai : a≠it:=fun z=>by
      obtain ⟨o,h1,h2,n,h3⟩:=p
      obtain ⟨o',g1,g2,g3⟩:=hit
      rw [z] at h1;rw [h1] at g1;cases g1;rw [h3] at g3;cases g3
    have hT : s.TypeIs (.ref e) "enumerate":=⟨_,he,rfl⟩
    unfold pyNext
    refine wpAny_bind (wpAny_attempt (wpAny_callSpecial?_slot (name:=Str.ofString "__next__") hT F.slot_enumerate_next
      (wpAny_call_entry F.slot_enumerate_next hT F.entry_enumerate_next ?_ (F.args_enumerate_next_1 _))))
    show wpAny _ _ (field (.ref e) 2 >>= _) _ _ _
    refine wpAny_bind (wpAny_field he rfl (x:=.ref it) rfl ?_)
    refine wpAny_bind (wpAny_nextOf_tuple_end (items:=its.toArray) (show X.A.in1.handled=none from I.ok.hd hc) hit p (by simp;omega) fun h' x he' hx'=>?_)
    obtain ⟨o,ho,hcl⟩:=hx'
    refine wpAny_bind (wpAny_isInstance (T:="StopIteration") (b:=true) ⟨o,ho,hcl⟩ isSubtype_stop ?_)
    exact wpAny_pure ⟨rfl,I.turned (t':=s.toks) (fun b o hb q=>he' b o hb q) f0 f1 f3 f4 f5⟩
  self:=fun A i s Q E st h=>let ⟨⟨_,he⟩,_⟩:=st;wpAny_pyIter_enum he h
def iEnumT (K:PySem.W.Frag) (ta:TA) : TI:=fun σ H R=>ta σ H fun vs H1=>∃ a xs,vs=[.ref a]∧SqT K H1 a xs∧R (IteT K a) H1
theorem pi_enumT {X:Cx} {e:Expr} {ta:TA} {p pos tpos:Pos} {elts:List Expr} {kk:Nat} (hg:Gl X "enumerate") (hm:X.mg "enumerate" = none) (ha:PA X [e] ta) (hs : starEach [e] X.env=[(false,eval e X.env)]:=by rfl) :
    PI X (.Tuple elts kk tpos) (.Call (.Name "enumerate" p) [e] [] pos) (iEnumT X.K ta):=by
  refine ⟨fun pins s σ H R I h=>?_⟩
  refine Call_ (ld_blt I hg hm boot_enumerate (PyProof.Rows.callWith_type1 (thn (ha.run pos pins s σ H _ I h) fun us s1 ⟨vs,H1,I1,r1,q1⟩=>?_) hs rfl))
  obtain ⟨a,xs,ex,hq,q⟩:=q1
  subst ex
  cases r1 with
  | cons r rr=>
    cases rr
    cases r
    obtain ⟨its,rv,p',hz⟩:=I1.tuple hq
    refine enum_begins1 (begins_tuple a its.toArray) p' fun h' he hit hsz hk=>wpAny_pyIter_enum he ?_
    have I2:Inv X pins σ H1 { s1 with heap:=h' }:=I1.kept (t':=s1.toks) hk
    refine ⟨s1.heap.objs.size + 1,[s1.heap.objs.size + 1,s1.heap.objs.size],_,_,H1,rfl,I2,turn_enumT a (s1.heap.objs.size + 1) s1.heap.objs.size,⟨⟨.none,he⟩,⟨_,hit,rfl,rfl⟩,Nat.succ_ne_self _⟩,fun b hb=>?_,q⟩
    have e' : b=s1.heap.objs.size + 1∨b=s1.heap.objs.size:=by simpa using hb
    have hle : s1.heap.objs.size≤b:=by
      rcases e' with z | z
      · rw [z];exact Nat.le_add_right _ _
      · rw [z];exact Nat.le_refl _
    exact I1.fpOk hle (I1.hok.fresh hle)
section
variable {K:PySem.W.Frag} {σ:L2.St} {H:Hp} {D:Ends} {tb:TS} {g:TG} {a:Addr} {R:It→Hp→Prop} {as:TA}
def rEnT (K:PySem.W.Frag) (vs:List V) (H:Hp) (R:It→Hp→Prop) : Prop:=∃ a xs,vs=[.ref a]∧SqT K H a xs∧R (IteT K a) H
theorem g_iET (h : as σ H fun vs H1=>rEnT K vs H1 R) : iEnumT K as σ H R:=h
theorem g_renT {xs:List V} (h:SqT K H a xs) (c:R (IteT K a) H) : rEnT K [.ref a] H R:=⟨a,xs,rfl,h,c⟩
theorem f_enumT {xs:List V} (Pv:Nat→L2.St→Hp→Prop) (h0:Pv 0 σ H) (hl:∀ i σ H,i≤xs.length→Pv i σ H→SqT K H a xs)
    (hs:∀ i x T σ H H',xs[i]? = some x→Pv i σ H→H T=none→Fr [] H H'→H' T=some (.tup [.int (i:Nat),x])→g (.ref T) σ H' fun σ2 H2=>tb { D with nx:=Pv (i + 1),ct:=Pv (i + 1),bk:=D.nx } σ2 H2) (hd:∀ σ H,Pv xs.length σ H→D.nx σ H) : ForGo (IteT K a) g tb D σ H:=by
  refine ⟨fun i m σ H=>m=xs.length - i∧i≤xs.length∧Pv i σ H,⟨xs.length,rfl,Nat.zero_le _,h0⟩,?_⟩
  rintro i m σ H ⟨rfl,hi,p⟩
  have qx:=hl i σ H hi p
  by_cases hlt : i < xs.length
  · have hx : xs[i]? = some xs[i]:=List.getElem?_eq_getElem hlt
    refine .inr ⟨⟨xs,_,qx,hx⟩,Pv (i + 1),fun σ' H' p'=>⟨xs.length - (i + 1),by omega,rfl,hlt,p'⟩,fun v H' y=>?_⟩
    obtain ⟨T,x',rfl,hT,rfl,f1⟩:=y
    exact hs i x' T σ H _ (f1 xs qx) p hT (Fr.new hT) upd_same
  · have e : i=xs.length:=by omega
    subst e
    exact .inl ⟨⟨xs,qx,Nat.le_refl _⟩,hd σ H p⟩
variable {Q:VK} {te:TE} {x:V}
def rIntB:List V→Hp→VK→Prop:=fun xs H Q=>∃ k,xs=[.bl k]∧Q (.int (if k then 1 else 0)) H
theorem b_intB {X:Cx}:CallR X (.type "int") rIntB:=fun pins s σ H xs us Q I r h=>call_int1 pins s σ H xs us Q I r (.inr h)
theorem g_intB {k:Bool} (h:Q (.int (if k then 1 else 0)) H) : rIntB [.bl k] H Q:=⟨k,rfl,h⟩
theorem g_slT {xs:List V} {lo hi:Option Int} (h:SqT K H a xs) (n : ¬ (HT.sIx xs.length 0 lo=0∧HT.sIx xs.length xs.length hi=xs.length)) (q:∀ l H',H l=none→Fr [] H H'→H' l=some (.tup (cutV xs lo hi))→Q (.ref l) H') : rSlT K (.ref a) lo hi H Q:=
  ⟨a,xs,rfl,h,n,fun l hl=>q l _ hl (Fr.new hl) upd_same⟩
theorem cut_tail {x:V} {xs:List V} : cutV (x::xs) (some 1) none=xs:=by
  unfold cutV
  rw [HT.sIx_none,show (some (1:Int))=some (((1:Nat) : Int)) from rfl,HT.sIx_nat,List.length_cons,Nat.min_eq_left (Nat.succ_le_succ (Nat.zero_le _)),List.drop_one,List.tail_cons]
  exact List.take_of_length_le (by omega)
theorem g_sl1 {x:V} {xs:List V} (h:SqT K H a (x::xs)) (q:∀ l H',H l=none→Fr [] H H'→H' l=some (.tup xs)→Q (.ref l) H') : rSlT K (.ref a) (some 1) none H Q:=by
  refine g_slT h (fun z=>?_) fun l H' n f e=>q l H' n f (by rw [cut_tail] at e;exact e)
  have z1:=z.1
  rw [show (some (1:Int))=some (((1:Nat) : Int)) from rfl,HT.sIx_nat,List.length_cons,Nat.min_eq_left (Nat.succ_le_succ (Nat.zero_le _))] at z1
  exact absurd z1 (by decide)
theorem g_un {r:V→Hp→VK→Prop} (h : te σ H fun x H1=>r x H1 Q) : tUn r te σ H Q:=h
abbrev rNeg:V→Hp→VK→Prop:=rU fun i=>.int (-i)
theorem g_neg {i:Int} (h:Q (.int (-i)) H) : rNeg (.int i) H Q:=⟨i,rfl,h⟩
theorem g_trC {P:Bool→Prop} {x:V} {xs:List V} (h:SqL K H a (x::xs)) (q:P true) : ∃ k,TruV K (.ref a) H k∧P k:=⟨true,.inl ⟨x::xs,h,rfl⟩,q⟩
theorem g_trN {P:Bool→Prop} (h:SqL K H a []) (q:P false) : ∃ k,TruV K (.ref a) H k∧P k:=⟨false,.inl ⟨[],h,rfl⟩,q⟩
end
end Lw
namespace Lw
open PySem L2
mutual
def nkOk:NestedKey→Bool
  | .num _=>true
  | .tup ks=>nkOks ks
  | .none=>false
  | .text _=>false
def nkOks:List NestedKey→Bool
  | []=>true
  | k::ks=>nkOk k && nkOks ks
end
mutual
def nkH:NestedKey→Int
  | .num i=>hashInt i
  | .tup ks=>reduceHash (Builtin.Tuple.tupleHashOf (nkHs ks))
  | .none=>0
  | .text _=>0
def nkHs:List NestedKey→List Int
  | []=>[]
  | k::ks=>nkH k::nkHs ks
end
mutual
theorem nkH_eq (w:World) : ∀ k:NestedKey,nkOk k=true→nkH k=k.hash w
  | .num i,_=>rfl
  | .tup ks,h=>by
    show reduceHash (Builtin.Tuple.tupleHashOf (nkHs ks))=reduceHash (Builtin.Tuple.tupleHashOf (NestedKey.hashes w ks))
    rw [nkHs_eq w ks (by simpa [nkOk] using h)]
  | .none,h=>by simp [nkOk] at h
  | .text _,h=>by simp [nkOk] at h
theorem nkHs_eq (w:World) : ∀ ks:List NestedKey,nkOks ks=true→nkHs ks=NestedKey.hashes w ks
  | [],_=>rfl
  | k::ks,h=>by
    simp only [nkOks,Bool.and_eq_true] at h
    show nkH k::nkHs ks=NestedKey.hash w k::NestedKey.hashes w ks
    rw [nkH_eq w k h.1,nkHs_eq w ks h.2]
end
mutual
theorem imm_nk:∀ k:NestedKey,imm k.data=true
  | .num _=>rfl
  | .none=>rfl
  | .text _=>rfl
  | .tup ks=>imm_nks ks
theorem imm_nks:∀ ks:List NestedKey,immL (NestedKey.datas ks)=true
  | []=>rfl
  | k::ks=>by
    show (imm k.data && immL (NestedKey.datas ks))=true
    rw [imm_nk k,imm_nks ks];rfl
end
section
variable {X:Cx} {pins:List (Addr×Obj)} {σ:L2.St} {H:Hp} {s:Shared}
mutual
theorem nk_is (I:Inv X pins σ H s) : ∀ (k:NestedKey) (v:V) (u:Value),nkOk k=true→Da H v k.data→RelV v u→NestedIs s.heap k u
  | .num i,v,u,_,h,r=>by
    cases h.int1
    obtain ⟨tk,rfl⟩:=r
    exact .int i tk
  | .tup ks,v,u,ok,h,r=>by
    obtain ⟨a,xs,rfl,e,_,q⟩:=Da.tup1 (ds:=NestedKey.datas ks) h
    obtain rfl : u=Value.ref a:=r
    obtain ⟨_,its,rr,o,g1,g2,n,g3⟩:=(show ObjOk X.prog X.w H s.heap a (.tup xs) from I.hok a _ e)
    exact .tup g1 g2 g3 (nks_is I ks xs its.toArray.toList (by simpa [nkOk] using ok) q (by simpa using rr))
  | .none,_,_,ok,_,_=>by simp [nkOk] at ok
  | .text _,_,_,ok,_,_=>by simp [nkOk] at ok
theorem nks_is (I:Inv X pins σ H s) : ∀ (ks:List NestedKey) (vs:List V) (us:List Value),nkOks ks=true→DaL H vs (NestedKey.datas ks)→Vals vs us→NestedAll s.heap ks us
  | [],_,_,_,h,r=>by
    cases h
    cases r
    exact .nil
  | k::ks,_,_,ok,h,r=>by
    simp only [nkOks,Bool.and_eq_true] at ok
    cases h with
    | cons h1 h2=>cases r with
      | cons r1 r2=>exact .cons (nk_is I k _ _ ok.1 h1 r1) (nks_is I ks _ _ ok.2 h2 r2)
end
end
def nkE (x:NestedKey×Addr×Value) : DictEntry:=⟨nkH x.1,.ref x.2.1,x.2.2⟩
def nkObj (a:Addr) (xs:List (NestedKey×Addr×Value)) : HO:=.ext fun h=>∃ o es ep,h.get? a=some o∧o.ExactDict∧o.data=.dict es ep∧es.toList=xs.map nkE
abbrev NKey (H:Hp) (b:Addr) (k:NestedKey) : Prop:=nkOk k=true∧k.depth≤8∧Da H (.ref b) k.data
abbrev NT (H:Hp) : List (NestedKey×V)→List (NestedKey×Addr×Value)→Prop:=Paired fun p q=>p.1=q.1∧NKey H q.2.1 p.1∧RelV p.2 q.2.2
def NkAt (H:Hp) (a:Addr) (kvs:List (NestedKey×V)) : Prop:=kvs.length≤sizeLine∧(a == sysModules)=false∧∃ xs,H a=some (nkObj a xs)∧NT H kvs xs∧(xs.map (·.1)).Nodup
theorem NT.fr {l:List Addr} {H H':Hp} {kvs:List (NestedKey×V)} {xs:List (NestedKey×Addr×Value)} (r:NT H kvs xs) (f:Fr l H H') : NT H' kvs xs:=
  Paired.mapP r fun p q z=>⟨z.1,⟨z.2.1.1,z.2.1.2.1,Da.frL f z.2.1.2.2 (imm_nk _)⟩,z.2.2⟩
theorem NkAt.fr {l:List Addr} {H H':Hp} {a:Addr} {kvs:List (NestedKey×V)} (h:NkAt H a kvs) (f:Fr l H H') (n : a∉l) : NkAt H' a kvs:=by
  obtain ⟨h1,h2,xs,h3,h4,h5⟩:=h
  exact ⟨h1,h2,xs,f.at h3 n,h4.fr f,h5⟩
theorem NT.val {H:Hp} {kvs:List (NestedKey×V)} {xs:List (NestedKey×Addr×Value)} (r:NT H kvs xs) (k:NestedKey) : RelO (lk kvs k) ((atKey xs k).map (·.2)):=by
  induction r with
  | nil=>exact True.intro
  | @cons p q ps qs h t ih=>
    obtain ⟨h1,_,h2⟩:=h
    by_cases e : p.1=k
    · have e' : q.1=k:=h1.symm.trans e
      have b : atKey (q::qs) k=some q.2:=by simp [atKey,List.find?_cons,e']
      have c : lk (p::ps) k=some p.2:=by simp [lk,List.find?_cons,e]
      rw [c,b];exact h2
    · have e' : ¬ q.1=k:=fun z=>e (h1.trans z)
      have b : atKey (q::qs) k=atKey qs k:=by simp [atKey,List.find?_cons,e']
      have c : lk (p::ps) k=lk ps k:=by simp [lk,List.find?_cons,e]
      rw [c,b];exact ih
theorem lk_any {κ α:Type} [DecidableEq κ] (m:List (κ×α)) (k : κ) : (m.any fun e=>decide (e.1=k))=(lk m k).isSome:=by
  induction m with
  | nil=>rfl
  | cons e r ih=>
    by_cases h : e.1=k
    · simp [lk,List.find?_cons,h]
    · have c : lk (e::r) k=lk r k:=by simp [lk,List.find?_cons,h]
      rw [c,← ih];simp [h]
theorem NT.put {H:Hp} {kvs:List (NestedKey×V)} {xs:List (NestedKey×Addr×Value)} (r:NT H kvs xs) (k:NestedKey) {b:Addr} {y:V} {u:Value} (hb:NKey H b k) (ry:RelV y u) : NT H (pt kvs k y) (storedH xs k b u):=by
  have e:(kvs.any fun kv=>decide (kv.1=k))=(atKey xs k).isSome:=by
    rw [lk_any,(r.val k).isSome_eq,Option.isSome_map]
  unfold pt storedH
  rw [e]
  by_cases q:(atKey xs k).isSome=true
  · rw [if_pos q,if_pos q]
    clear q e
    induction r with
    | nil=>exact .nil
    | @cons p q ps qs h t ih=>
      rw [List.map_cons,List.map_cons]
      refine .cons ?_ ih
      obtain ⟨h1,h2,h3⟩:=h
      unfold putAt
      by_cases e : p.1=k
      · rw [if_pos e,if_pos (h1.symm.trans e)];exact ⟨h1,h2,ry⟩
      · rw [if_neg e,if_neg (fun z=>e (h1.trans z))];exact ⟨h1,h2,h3⟩
  · rw [if_neg q,if_neg q];exact Paired.snoc r ⟨rfl,hb,ry⟩
section
variable {X:Cx} {pins:List (Addr×Obj)} {σ:L2.St} {H:Hp} {s:Shared} {a b:Addr} {kvs:List (NestedKey×V)} {k:NestedKey} {A:Around} {E:Value→Shared→Prop} {v:V} {r:Value}
def NGet (H:Hp) (a:Addr) (y:V) (o:Option V) : Prop:=∃ kvs k b,NkAt H a kvs∧y=.ref b∧NKey H b k∧o=lk kvs k
def NPut (H:Hp) (a:Addr) (y v:V) (P:Hp→Prop) : Prop:=∃ kvs k b,NkAt H a kvs∧y=.ref b∧NKey H b k∧kvs.length < sizeLine∧∀ H',Fr [a] H H'→NkAt H' a (pt kvs k v)→P H'
end
def tNGet (td ty:TE) : TE:=fun σ H Q=>td σ H fun x H1=>ty σ H1 fun y H2=>∃ a v,x=.ref a∧NGet H2 a y (some v)∧Q v H2
def tNIn (ty td:TE) : TE:=fun σ H Q=>ty σ H fun y H1=>td σ H1 fun x H2=>∃ a o,x=.ref a∧NGet H2 a y o∧Q (.bl o.isSome) H2
def tNNotIn (ty td:TE) : TE:=fun σ H Q=>ty σ H fun y H1=>td σ H1 fun x H2=>∃ a o,x=.ref a∧NGet H2 a y o∧Q (.bl (!o.isSome)) H2
def tNGet2 (td ty tx:TE) : TE:=fun σ H Q=>td σ H fun x H1=>∃ a,x=.ref a∧(∃ kvs,NkAt H1 a kvs)∧ty σ H1 fun y H2=>tx σ H2 fun z H3=>∃ o,NGet H3 a y o∧Q (o.getD z) H3
def sNPut (td ty tv:TE) : TS:=fun D σ H=>tv σ H fun v H1=>td σ H1 fun x H2=>ty σ H2 fun y H3=>∃ a,x=.ref a∧NPut H3 a y v fun H4=>D.nx σ H4
def tNNew:TE:=fun _ H Q=>∀ p,H p=none→(∀ H',Fr [] H H'→NkAt H' p []→Q (.ref p) H')
section
variable {X:Cx} {td ty tx tv:TE} {o i e f value:Expr} {pos pos' cpos apos:Pos}
end
section
variable {σ:L2.St} {H:Hp} {Q:VK} {D:Ends} {td ty tv tx:TE} {a b:Addr} {kvs:List (NestedKey×V)} {k:NestedKey} {v z:V}
def rNG (x y:V) (H:Hp) (Q:VK) : Prop:=∃ a v,x=.ref a∧NGet H a y (some v)∧Q v H
theorem g_nget (h : td σ H fun x H1=>ty σ H1 fun y H2=>rNG x y H2 Q) : tNGet td ty σ H Q:=h
def rNI (y x:V) (H:Hp) (Q:VK) : Prop:=∃ a o,x=.ref a∧NGet H a y o∧Q (.bl o.isSome) H
def rNNI (y x:V) (H:Hp) (Q:VK) : Prop:=∃ a o,x=.ref a∧NGet H a y o∧Q (.bl (!o.isSome)) H
theorem g_nin (h : ty σ H fun y H1=>td σ H1 fun x H2=>rNI y x H2 Q) : tNIn ty td σ H Q:=h
theorem g_nnin (h : ty σ H fun y H1=>td σ H1 fun x H2=>rNNI y x H2 Q) : tNNotIn ty td σ H Q:=h
def rNG2 (x:V) (H:Hp) (P:Addr→Prop) : Prop:=∃ a,x=.ref a∧(∃ kvs,NkAt H a kvs)∧P a
def rNO (a:Addr) (y z:V) (H:Hp) (Q:VK) : Prop:=∃ o,NGet H a y o∧Q (o.getD z) H
theorem g_nget2 (h : td σ H fun x H1=>rNG2 x H1 fun a=>ty σ H1 fun y H2=>tx σ H2 fun z H3=>rNO a y z H3 Q) : tNGet2 td ty tx σ H Q:=h
def rNP (x y v:V) (H:Hp) (P:Hp→Prop) : Prop:=∃ a,x=.ref a∧NPut H a y v P
theorem g_nput (h : tv σ H fun v H1=>td σ H1 fun x H2=>ty σ H2 fun y H3=>rNP x y v H3 fun H4=>D.nx σ H4) : sNPut td ty tv D σ H:=h
theorem g_nnew (c:∀ p H',H p=none→Fr [] H H'→NkAt H' p []→Q (.ref p) H') : tNNew σ H Q:=fun p hp H' f n=>c p H' hp f n
end
end Lw
namespace Lw
open PySem PySem.Spec PyProof.Rows L2
section
variable {X:Cx} {K:PySem.W.Frag} {H:Hp} {Q:VK} {x y:V} {d e:PyData} {ds:List PyData}
def rInDT (K:PySem.W.Frag) : R2:=fun x y H Q=>∃ d ds,Dp K H x d∧Dp K H y (.tuple ds)∧d.canLay0=true∧PyData.canLayAll0 ds=true∧d.depth≤60∧Q (.bl (ds.any fun z=>PyData.eqv z d)) H
theorem op_inDT (hu:X.A.units + 64 < cLine) : OpR X (compareOp .In) (rInDT X.K):=by
  intro pins s σ H x y v u Q I rx ry h
  obtain ⟨d,ds,hd,he,sd,se,sz,q⟩:=h
  obtain ⟨as,r1⟩:=Dp.reads I d x v hd rx
  obtain ⟨bs,r2⟩:=Dp.reads I (.tuple ds) y u he ry
  have h2 : min (PyData.depthAll ds) d.depth≤d.depth:=Nat.min_le_right _ _
  exact SeqAt.in_tuple_reads r2 r1 se sd (by omega) ⟨.bl _,H,I,rfl,q⟩
theorem g_inDT (dx:Da H x d) (dy:Da H y (.tuple ds)) (s1 : d.canLay0=true) (s2:PyData.canLayAll0 ds=true) (hz : d.depth≤60) (q:Q (.bl (ds.any fun z=>PyData.eqv z d)) H) : rInDT K x y H Q:=
  ⟨d,ds,Da.dp _ _ dx,Da.dp _ _ dy,s1,s2,hz,q⟩
theorem g_eqDD (dx:Da H x d) (dy:Da H y e) (s1:SeqAt.shaped d=true) (s2:SeqAt.shaped e=true) (q:Q (.bl (PyData.eqv d e)) H) : rEqD K x y H Q:=⟨d,e,Da.dp _ _ dx,Da.dp _ _ dy,s1,s2,q⟩
theorem g_slA {a:Addr} {xs:List V} {lo hi:Option Int} (h:SqT K H a xs) (q1:HT.sIx xs.length 0 lo=0∧HT.sIx xs.length xs.length hi=xs.length→Q (.ref a) H)
    (q2 : ¬ (HT.sIx xs.length 0 lo=0∧HT.sIx xs.length xs.length hi=xs.length)→∀ l H',H l=none→Fr [] H H'→H' l=some (.tup (cutV xs lo hi))→Q (.ref l) H') : rSlA K (.ref a) lo hi H Q:=
  ⟨a,xs,rfl,h,q1,fun n l hl=>q2 n l _ hl (Fr.new hl) upd_same⟩
def rListDT:List V→Hp→VK→Prop:=fun xs H Q=>∃ d kvs,xs=[V.ref d]∧Rd H d (.dT kvs)∧∀ p bs,H p=none→IsKeys H kvs bs→Q (.ref p) (upd H p (.lst (bs.map V.ref)))
theorem b_listDT (hc:X.calm=true) : CallR X (.type "list") rListDT:=call_list_dT hc
theorem g_listDT {a:Addr} {kvs:List (List Key×V)} (h:H a=some (.dT kvs)) (q:∀ p bs H',H p=none→Fr [] H H'→IsKeys H kvs bs→H' p=some (.lst (bs.map V.ref))→Q (.ref p) H') : rListDT [.ref a] H Q:=
  ⟨a,kvs,rfl,.inl h,fun p bs n k=>q p bs _ n (Fr.new n) k upd_same⟩
end
theorem Fr.in1 {l:List Addr} {a:Addr} {H H':Hp} (f:Fr [a] H H') (h : a∈l) : Fr l H H':=f.mono fun x hx=>by rw [List.mem_singleton.mp hx];exact h
theorem Fr.in2 {l:List Addr} {a b:Addr} {H H':Hp} (f:Fr [a,b] H H') (h : a∈l) (h2 : b∈l) : Fr l H H':=f.mono fun x hx=>by
  rcases List.mem_cons.mp hx with q | q
  · rw [q];exact h
  · rw [List.mem_singleton.mp q];exact h2
theorem Fr.back1 {l:List Addr} {p:Addr} {u:HO} {H H':Hp} (f:Fr (p::l) H H') (h:H p=some u) (h':H' p=some u) : Fr l H H':=⟨fun a o e n=>by
  by_cases z : a=p
  · rw [z] at e ⊢;rw [h] at e;cases e;exact h'
  · exact f.keep a o e (nin1 z n),f.tup⟩
end Lw
namespace Lw
open PySem PySem.Spec PyProof.Rows L2
def tDispT1 (tk tv:TE) : TE:=fun σ H Q=>∀ p,H p=none→tk σ (upd H p (.dT [])) fun x H1=>tv σ H1 fun y H2=>H2 p=some (.dT [])∧∃ (b:Addr) (k:List Key),x=.ref b∧H2 b=some (.tup (k.map kV))∧Q (.ref p) (upd H2 p (.dT [(k,y)]))
section
variable {σ:L2.St} {H:Hp} {Q:VK} {tk tv:TE}
def rDs1 (p:Addr) (x y:V) (H2:Hp) (Q:VK) : Prop:=H2 p=some (.dT [])∧∃ (b:Addr) (k:List Key),x=.ref b∧H2 b=some (.tup (k.map kV))∧Q (.ref p) (upd H2 p (.dT [(k,y)]))
theorem g_dispT1 (h:∀ p H0,H p=none→Fr [] H H0→H0 p=some (.dT [])→tk σ H0 fun x H1=>tv σ H1 fun y H2=>rDs1 p x y H2 Q) : tDispT1 tk tv σ H Q:=fun p hp=>h p _ hp (Fr.new hp) upd_same
end
def tFreeze (td:TE) : TE:=fun σ H Q=>td σ H fun x H1=>∃ d u,x=.ref d∧H1 d=some u∧Mut (some u)∧∀ od,Q x (upd H1 d (.frz od u))
def rFrz (x:V) (H:Hp) (Q:VK) : Prop:=∃ d u,x=V.ref d∧H d=some u∧Mut (some u)∧∀ od,Q x (upd H d (.frz od u))
theorem g_freeze {td:TE} {σ:L2.St} {H:Hp} {Q:VK} (h : td σ H fun x H1=>rFrz x H1 Q) : tFreeze td σ H Q:=h
end Lw
namespace Lw
open PySem PySem.W PySem.Calls PyProof.Rows L2
structure Heads (ds:List PyData) : Prop where
  tup:∀ d,d∈ds→∃ (k:Int) (r:List PyData),d=.tuple (.int k::r)
  one:∀ (k:Int) (r r':List PyData),PyData.tuple (.int k::r)∈ds→PyData.tuple (.int k::r')∈ds→r=r'
  self:∀ d,d∈ds→alike d d=true
theorem heads_unique {h:Heap} {ds:List PyData} (hh:Heads ds) {v:Value} {d d':PyData} {as bs:List Addr} (hd : d∈ds) (hd' : d'∈ds) (r:Reads h v d as) (r':Reads h v d' bs) : d=d':=by
  obtain ⟨k,x,rfl⟩:=hh.tup d hd
  obtain ⟨k',x',rfl⟩:=hh.tup d' hd'
  cases r with
  | @tuple l o xs n _ _ h1 h2 h3 h4=>
    cases r' with
    | @tuple _ o' xs' n' _ _ k1 k2 k3 k4=>
      rw [h1] at k1
      cases k1
      rw [h3] at k3
      cases k3
      cases q : xs.toList with
      | nil=>rw [q] at h4;cases h4
      | cons f fr=>
        rw [q] at h4 k4
        cases h4 with
        | cons a1 a2=>
          cases k4 with
          | cons b1 b2=>
            have e : k=k':=by cases a1;cases b1;rfl
            subst e
            rw [hh.one k x x' hd hd']
theorem headKind_some {h:Heap} {ds:List PyData} (hh:Heads ds) {v:Value} {d:PyData} {as:List Addr} (hd : d∈ds) (r:Reads h v d as) : (dataKind h ds).keyOf v=some (keyToks d):=by
  have q:∃ d,d∈ds∧∃ as,Reads h v d as:=⟨d,hd,as,r⟩
  have e:(dataKind h ds).keyOf v=some (keyToks q.choose):=by
    show (open Classical in if q:∃ d,d∈ds∧∃ as,Reads h v d as then some (keyToks q.choose) else none)=_
    rw [dif_pos q]
  obtain ⟨h1,as',h2⟩:=q.choose_spec
  rw [e,heads_unique hh h1 hd h2 r]
section
variable {prog:Program} {w:World} {A:Around} {s:Shared}
theorem katLex_heads {b fin:Bool} {Q:Bool→Shared→Prop} {k k':Int} {r r':List PyData} {vs ws:List Value} {as bs:List Addr} (hk : k≠k') (ra:ReadsAll s.heap vs (.int k::r) as) (rb:ReadsAll s.heap ws (.int k'::r') bs)
    (hu:A.units < cLine) (hq:Q (lexLt itemOrd (keyToksAll (.int k::r)) (keyToksAll (.int k'::r'))) s) : KatLex prog w A b fin Q (vs.zip ws) 0 s:=by
  have hx:PyData.eqv (.int k) (.int k')=false:=by simp [PyData.eqv,hk]
  have h1 : alike (.int k) (.int k')=true:=by simp [alike]
  have hu':A.units + min (PyData.int k).depth (PyData.int k').depth < cLine:=by simpa [PyData.depth] using hu
  cases ra with
  | cons a1 a2=>
    cases rb with
    | cons b1 b2=>
      rw [List.zip_cons_cons]
      refine kat_cons (eqAt_alike (.int k) (.int k') A s _ _ _ _ a1 b1 h1 hu' prog w _ _ ?_)
      rw [dataLt_all_no h1 hx] at hq
      rw [hx]
      exact kat_no (oneLt_alike (fun _ t=>by simp) a1 b1 h1 (by simp) hu' hq)
theorem SortsAt.heads {vs:List Value} {ds:List PyData} (e:EachIs (fun v d=>∃ as,Reads s.heap v d as) vs ds) (hh:Heads ds) (hu:∀ d,d∈ds→A.units + d.depth < cLine) : SortsAt prog w A s (dataKind s.heap ds) vs:=by
  have room:∀ {d d':PyData},d∈ds→A.units + min d.depth d'.depth < cLine:=fun {d d'} hd=>Nat.lt_of_le_of_lt (Nat.add_le_add_left (Nat.min_le_left _ _) _) (hu d hd)
  have ht:∀ d,d∈ds→∃ x r,d=PyData.tuple (x::r):=fun d hd=>by obtain ⟨k,r,e⟩:=hh.tup d hd;exact ⟨_,_,e⟩
  refine ⟨fun v hv=>?_,?_⟩
  · obtain ⟨d,hd,as,r⟩:=e.left v hv
    exact ⟨_,headKind_some hh hd r⟩
  · refine ⟨tuples' (dataType (.int 0) != Value.type "tuple"),?_,fun h2 E Q hq=>?_⟩
    · intro E x y a b Q ha hb hq
      obtain ⟨d,as,hd,ra,rfl⟩:=dataKind_inv ha
      obtain ⟨d',as',hd',rb,rfl⟩:=dataKind_inv hb
      have hroom:=room (d':=d') hd
      have hself:=hh.self d hd
      obtain ⟨k1,r1,rfl⟩:=hh.tup d hd
      obtain ⟨k2,r2,rfl⟩:=hh.tup d' hd'
      have hq':Q (dataLt (.tuple (.int k1::r1)) (.tuple (.int k2::r2))) s:=hq
      rw [dataLt_tuple] at hq'
      cases ra with
      | @tuple l o xs n _ _ h1 h2 h3 h4=>
        cases rb with
        | @tuple l' o' xs' n' _ _ k1' k2' k3' k4'=>
          have n1 : xs.size=(PyData.int k1::r1).length:=by simpa using SeqAt.ReadsAll.length _ _ _ h4
          have n2 : xs'.size=(PyData.int k2::r2).length:=by simpa using SeqAt.ReadsAll.length _ _ _ k4'
          by_cases hk : k1=k2
          · subst hk
            have e0:=hh.one k1 r1 r2 hd hd'
            subst e0
            refine kat_lt h1 h3 k1' k3' (katLex_alike (.int k1::r1) (.int k1::r1) 0 _ _ _ _ h4 k4' (by simpa [alike] using hself) (by have q:=SeqAt.room_in hroom;omega) (fun hb _ x r t ex=>?_) (by rw [n1,n2]) hq')
            obtain ⟨rfl,rfl⟩:=List.cons.inj ex
            exact fun q=>by cases q
          · refine kat_lt h1 h3 k1' k3' (katLex_heads hk h4 k4' ?_ hq')
            have q:=SeqAt.room_in hroom
            omega
    · obtain ⟨fs,t1,t2,t3⟩:=each_katTups e ht
      refine kat_kind (T:=dataType (.int 0)) t1 (by omega) (fun f hf=>?_) (beq_self_eq_true _) hq
      obtain ⟨x,r,as,m1,m2⟩:=t3 f hf
      obtain ⟨k,r',ek⟩:=hh.tup _ m1
      injection ek with ek
      injection ek with ek1 ek2
      have hx : dataType x=dataType (.int 0):=by rw [ek1];rfl
      rw [← hx]
      exact looks_reads m2
variable {E:Value→Shared→Prop} {β:Type} {vs:List Value} {bs:List β} {enc : β→PyData} {R:Value→β→Prop}
end
end Lw
namespace Lw
open PySem PySem.Spec PyProof.Rows L2
theorem DkR.keys {H:Hp} {kvs:List (Key×V)} {m:List (Int×PyData)} (r:DkR H kvs m) : kvs.map (·.1)=(m.map (·.1)).map Sum.inl:=by
  induction r with
  | nil=>rfl
  | cons h _ ih=>rw [List.map_cons,List.map_cons,List.map_cons,ih,h.1]
end Lw
namespace Lw
open PySem L2 PySem.W PySem.Calls PyProof.Rows PySem.Spec
section
variable {prog:Program} {w:World} {K:Type} [DecidableEq K] {knd:HeapKind prog w K} {A:Around} {E:Value→Shared→Prop} {s:Shared}
theorem samePairsT {nm:String} {a b:Addr} {ka kb:List (K×Addr×Value)} {Q:Bool→Shared→Prop} (ha:(a == sysModules)=false) (hb:(b == sysModules)=false)
    (da : s.heap.DictOfH knd a ka) (db : s.heap.DictOfH knd b kb) (hu : knd.room A) (hl : ka.length=kb.length) (hits:∀ x∈ka,∃ (j:Nat) (p:Addr×Value),kb[j]? = some (x.1,p)∧SeqAt.EqP prog w A s x.2.2 p.2 true) (h:Q true s) :
    wpAny (model prog w) A (Builtin.Dict.samePairs nm a b) Q E s:=by
  obtain ⟨oa,es,ep,hoa,_,hda,hka,hia,hna⟩:=da
  obtain ⟨ob,es',ep',hob,_,hdb,hkb,hib,hnb⟩:=db
  have hla : es.size=ka.length:=size_of_entries hka
  have hlb : es'.size=kb.length:=size_of_entries hkb
  unfold Builtin.Dict.samePairs Builtin.Dict.showsAll
  rw [if_neg (show ¬ (a == sysModules)=true by rw [ha];exact Bool.false_ne_true),if_neg (show ¬ (b == sysModules)=true by rw [hb];exact Bool.false_ne_true)]
  refine wpAny_bind (wpAny_pure (wpAny_bind (wpAny_pure ?_)))
  refine wpAny_bind (wpAny_dictEntries hoa hda ?_)
  dsimp only
  refine wpAny_bind (wpAny_dictEntries hob hdb ?_)
  have hsz : es.size=es'.size:=by omega
  rw [if_neg (by rw [hsz];simp)]
  refine wpAny_bind (wpAny_dictEpoch hoa hda ?_)
  refine wpAny_bind ?_
  rw [Std.Legacy.Range.forIn_eq_forIn_range']
  simp only [Std.Legacy.Range.size,Nat.sub_zero,Nat.add_sub_cancel,Nat.div_one]
  refine wpAny_forIn_list _
    (fun rest q s'=>s'=s∧q=(none,())∧∃ i,rest=List.range' i (es.size - i)∧i≤es.size)
    _ ?_ ?_ _ _ ⟨rfl,rfl,0,by simp,Nat.zero_le _⟩
  · rintro x rest q s' ⟨rfl,rfl,i,hr,hi⟩
    have hlt : i < es.size:=by
      rcases Nat.lt_or_ge i es.size with h | h
      · exact h
      · rw [Nat.sub_eq_zero_of_le h] at hr;simp at hr
    obtain ⟨rfl,hrest⟩ : x=i∧rest=List.range' (i + 1) (es.size - (i + 1)):=by
      have e : es.size - i=(es.size - (i + 1)) + 1:=by omega
      rw [e,List.range'_succ] at hr
      injection hr with h1 h2
      exact ⟨h1,h2⟩
    refine wpAny_bind (wpAny_dictEntries hoa hda ?_)
    rw [Array.getElem?_eq_getElem hlt]
    obtain ⟨⟨k,c,v⟩,hkv⟩ : ∃ y,ka[x]? = some y:=⟨ka[x]'(by rw [← hla];exact hlt),List.getElem?_eq_getElem _⟩
    have hmem:(k,c,v)∈ka:=List.mem_of_getElem? hkv
    have hex : es[x]=⟨knd.hash k,.ref c,v⟩:=by
      have e1 : es[x]? = some ⟨knd.hash k,.ref c,v⟩:=by rw [entry_at hka x,hkv];rfl
      rw [Array.getElem?_eq_getElem hlt] at e1
      exact Option.some.inj e1
    obtain ⟨j0,p0,hj0,heq⟩:=hits _ hmem
    show wpAny _ _ (holding [es[x].key,es[x].val] _ >>= _) _ _ _
    rw [hex]
    have hkey : knd.is s'.heap k c:=hia _ hmem
    refine wpAny_bind (wpAny_holding (wpAny_bind (wpAny_dictFind_heap hu hkey hob hdb hkb hib hnb ?_ ?_)))
    · intro hno;exact absurd hj0 (hno j0 p0)
    · intro j p hj
      have hjj : j=j0∧p=p0:=by
        have e:=idxH_unique hnb hj hj0
        subst e
        rw [hj] at hj0
        injection hj0 with h1
        injection h1 with h2 h3
        exact ⟨rfl,h3⟩
      obtain ⟨rfl,rfl⟩:=hjj
      have hej : es'[j]? = some ⟨knd.hash k,.ref p.1,p.2⟩:=by rw [entry_at hkb j,hj];rfl
      refine wpAny_bind (wpAny_dictEntries hob hdb ?_)
      rw [hej]
      refine wpAny_holding (heq _ _ ?_)
      show wpAny _ _ (if (!true)=true then _ else _) _ _ _
      rw [if_neg (by decide)]
      refine wpAny_bind (wpAny_dictEpoch hoa hda ?_)
      rw [if_neg (by simp)]
      exact wpAny_pure ⟨rfl,rfl,x + 1,hrest,hlt⟩
  · rintro q s' ⟨rfl,rfl,i,hr,hi⟩
    exact wpAny_pure h
theorem rcT_dicts {a b:Addr} {ka kb:List (K×Addr×Value)} (ha:(a == sysModules)=false) (hb:(b == sysModules)=false)
    (da : s.heap.DictOfH knd a ka) (db : s.heap.DictOfH knd b kb) (hu:A.units < cLine) (hr : knd.room A.in1) (hl : ka.length=kb.length) (hits:∀ x∈ka,∃ (j:Nat) (p:Addr×Value),kb[j]? = some (x.1,p)∧SeqAt.EqP prog w A.in1 s x.2.2 p.2 true) (E Q:Value→Shared→Prop) (h:Q (.bool true) s) : wpAny (model prog w) A (richCompare .Eq (.ref a) (.ref b)) Q E s:=by
  refine wpAny_richCompare_same_room (op:=.Eq) da.typeIs db.typeIs PySem.F.slot_dict_eq (wpAny_call_entry PySem.F.slot_dict_eq da.typeIs PySem.F.entry_dict_eq ?_ (PySem.F.args_dict_eq_2 _ _)) hu
  show wpAny _ _ (Builtin.Dict.dictSlotArgs "__eq__" ⟨[.ref a,.ref b],[]⟩ >>= _) _ _ s
  refine wpAny_bind ?_
  unfold Builtin.Dict.dictSlotArgs
  refine wpAny_bind (wpAny_notOrdered_dict da.typeIs ?_)
  show wpAny _ _ (pure (Value.ref a,Value.ref b)) _ _ s
  refine wpAny_pure ?_
  refine wpAny_bind (wpAny_isInstance (T:="dict") db.typeIs PySem.F.sub_dict_dict ?_)
  simp only [Bool.not_true,Bool.false_eq_true,if_false]
  refine wpAny_bind (wpAny_pure (wpAny_bind (wpAny_pure ?_)))
  refine wpAny_bind (samePairsT ha hb da db hr hl hits ?_)
  refine wpAny_pure ⟨_,rfl,?_,?_⟩
  · exact fun x=>nomatch x
  · simpa using h
end
end Lw
namespace PySem.SeqAt
open AutoSeq1 (wpAny_loadPart')
open MeetsSeq MeetsSeq2 MeetsSeq3 SeqRoads2
section
variable {prog:Program} {w:World}
theorem ne_loopP (l b:Addr) (xs ys:Array Value) (n n2:Nat) (dd dd2:Option Addr) (sl sl2:Array (Option Value)) (hsz : xs.size=ys.size) (k:Nat) :
    ∀ i:Nat,xs.size - i=k→MeetsIn prog w (Builtin.«list.__eq__.loop» ⟨[.ref l,.ref b,rawInt i,rawInt 3],[]⟩)
      (fun A R s=>s.heap.get? l=some { cls:=.type "list",dict:=dd,data:=.seq xs n,slots:=sl }∧s.heap.get? b=some { cls:=.type "list",dict:=dd2,data:=.seq ys n2,slots:=sl2 }∧
        (∀ j (h1 : j < xs.size) (h2 : j < ys.size),EqP prog w A.in1 s xs[j] ys[j] true)∧R (.ok (.ret (.bool false))) s):=by
  induction k with
  | zero=>
    intro i hk A R s h
    obtain ⟨hp,g,d,tk,os⟩:=s;obtain ⟨hl,hb,he,h⟩:=h
    wp_walk using wpAny_loadPart' hl,wpAny_loadPart' hb
    have q1 : xs[((i:Nat) : Int).toNat]? = none:=by simp;omega
    have q2 : ys[((i:Nat) : Int).toNat]? = none:=by simp;omega
    rw [q1,q2]
    wp_walk using wpAny_loadPart' hl,wpAny_loadPart' hb
    show R (.ok (.ret (.bool (xs.size != ys.size)))) _
    rw [show (xs.size != ys.size)=false from by simp [hsz]]
    exact h
  | succ k ih=>
    intro i hk A R s h
    obtain ⟨hp,g,d,tk,os⟩:=s;obtain ⟨hl,hb,he,h⟩:=h
    wp_walk using wpAny_loadPart' hl,wpAny_loadPart' hb
    have l1 : i < xs.size:=by omega
    have l2 : i < ys.size:=by omega
    have q1 : xs[((i:Nat) : Int).toNat]? = some xs[i]:=by simp [l1]
    have q2 : ys[((i:Nat) : Int).toNat]? = some ys[i]:=by simp [l2]
    have hc:((i:Int) + 1)=((i + 1:Nat) : Int):=by push_cast;rfl
    rw [q1,q2]
    refine wpAny_bind (he i l1 l2 _ _ ?_)
    wp_walk
    rw [hc]
    exact ⟨plainId_quiet plain_eq_loop _,codeAny_builtin entry_eq_loop (by rw [Around.under_plainId plain_eq_loop _];exact ih (i + 1) (by omega) A R _ ⟨hl,hb,he,h⟩)⟩
theorem list_neP (l b:Addr) (xs ys:Array Value) (n n2:Nat) (dd dd2:Option Addr) (sl sl2:Array (Option Value)) (hsz : xs.size=ys.size) :
    MeetsIn prog w (Builtin.«list.__ne__» ⟨[.ref l,.ref b],[]⟩)
      (fun A R s=>s.heap.get? l=some { cls:=.type "list",dict:=dd,data:=.seq xs n,slots:=sl }∧s.heap.get? b=some { cls:=.type "list",dict:=dd2,data:=.seq ys n2,slots:=sl2 }∧
        (∀ j (h1 : j < xs.size) (h2 : j < ys.size),EqP prog w A.in1 s xs[j] ys[j] true)∧R (.ok (.ret (.bool false))) s):=by
  intro A R s h
  obtain ⟨hp,g,d,tk,os⟩:=s;obtain ⟨hl,hb,he,h⟩:=h
  have f3:=AutoSeq1.sub_list_list
  have hne : ¬ (xs.size != ys.size)=true:=by simp [hsz]
  wp_walk using wpAny_loadPart' hl,wpAny_loadPart' hb
  exact ⟨plainId_quiet plain_eq_loop _,codeAny_builtin entry_eq_loop (by rw [Around.under_plainId plain_eq_loop _];exact ne_loopP l b xs ys n n2 dd dd2 sl sl2 hsz _ 0 rfl A R _ ⟨hl,hb,he,h⟩)⟩
theorem neP_lists {A:Around} {s:Shared} {l b:Addr} {xs ys:Array Value} (hl : s.heap.IsList l xs) (hb : s.heap.IsList b ys) (hsz : xs.size=ys.size) (hu:A.units < cLine)
    (he:∀ j (h1 : j < xs.size) (h2 : j < ys.size),EqP prog w A.in1 s xs[j] ys[j] true) (E Q:Value→Shared→Prop) (h:Q (.bool false) s) : wpAny (model prog w) A (richCompare .NotEq (.ref l) (.ref b)) Q E s:=by
  obtain ⟨⟨cls,dd,data,sl⟩,ho,hc,n,hd⟩:=id hl
  obtain ⟨⟨cls2,dd2,data2,sl2⟩,ho2,hc2,n2,hd2⟩:=id hb
  simp only at hc hd hc2 hd2
  subst hc hd hc2 hd2
  have ta : s.TypeIs (.ref l) "list":=⟨_,ho,rfl⟩
  have tb : s.TypeIs (.ref b) "list":=⟨_,ho2,rfl⟩
  exact wpAny_richCompare_same_room (op:=.NotEq) ta tb F.slot_list_ne (call_meetsIn F.slot_list_ne ta F.entry_list_ne (F.args_list_ne_2 _ _) (list_neP l b xs ys n n2 dd dd2 sl sl2 hsz)
    ⟨ho,ho2,he,show Value.bool false≠Value.notImplemented∧Q (.bool false) s from ⟨(fun x=>nomatch x),h⟩⟩) hu
end
end PySem.SeqAt
namespace Lw
open PySem L2 PySem.W PySem.Calls PyProof.Rows PySem.Spec
def EqU1 (K:PySem.W.Frag) (H:Hp) (E:V→V→Prop) (x y:V) : Prop:=
  EqR K H E x y∨∃ a b ks ls,x=.ref a∧y=.ref b∧H a=some (.dT ks)∧H b=some (.dT ls)∧ks.length=ls.length∧∀ p∈ks,∃ (j:Nat) (u:V),ls[j]? = some (p.1,u)∧E p.2 u
def EqU (K:PySem.W.Frag) (H:Hp) : Nat→V→V→Prop
  | 0=>fun _ _=>False
  | n + 1=>fun x y=>(x=y∧flatB x=true)∨(∃ a,x=.ref a∧y=.ref a)∨EqU1 K H (EqU K H n) x y∨∃ d,Dp K H x d∧Dp K H y d∧d.canLay0=true∧d.depth≤n
section
variable {X:Cx} {pins:List (Addr×Obj)} {σ:L2.St} {H:Hp} {s:Shared}
theorem paired_mem {α β:Type} {R : α→β→Prop} {xs:List α} {ys:List β} (p:Paired R xs ys) : ∀ x∈xs,∃ y∈ys,R x y:=by
  induction p with
  | nil=>intro x h;exact nomatch h
  | cons h _ ih=>
    intro x hx
    rcases List.mem_cons.mp hx with rfl | q
    · exact ⟨_,List.mem_cons_self,h⟩
    · obtain ⟨y,hy,r⟩:=ih x q;exact ⟨y,List.mem_cons_of_mem _ hy,r⟩
theorem paired_at {α β:Type} {R : α→β→Prop} {xs:List α} {ys:List β} (p:Paired R xs ys) : ∀ {i:Nat} {x : α},xs[i]? = some x→∃ y,ys[i]? = some y∧R x y:=by
  induction p with
  | nil=>intro i x h;simp at h
  | cons h _ ih=>
    intro i x hx
    cases i with
    | zero=>simp at hx;subst hx;exact ⟨_,by simp,h⟩
    | succ i=>obtain ⟨y,hy,r⟩:=ih (i:=i) (x:=x) (by simpa using hx);exact ⟨y,by simpa using hy,r⟩
theorem paired_mem2 {α β:Type} {R : α→β→Prop} {xs:List α} {ys:List β} (p:Paired R xs ys) : ∀ y∈ys,∃ x∈xs,R x y:=by
  induction p with
  | nil=>intro x h;exact nomatch h
  | cons h _ ih=>
    intro y hy
    rcases List.mem_cons.mp hy with rfl | q
    · exact ⟨_,List.mem_cons_self,h⟩
    · obtain ⟨x,hx,r⟩:=ih y q;exact ⟨x,List.mem_cons_of_mem _ hx,r⟩
theorem eqU1_run (I:Inv X pins σ H s) {A:Around} {F:V→V→Prop} (hu:A.units + 1 < cLine) (ih:∀ x y v u,F x y→RelV x v→RelV y u→SeqAt.EqP X.prog X.w A.in1 s v u true) {x y:V} {v u:Value} (h:EqU1 X.K H F x y) (rx:RelV x v) (ry:RelV y u)
    (E Q:Value→Shared→Prop) (q:Q (.bool true) s) : wpAny (model X.prog X.w) A (richCompare .Eq v u) Q E s:=by
  rcases h with h | ⟨a,b,ks,ls,rfl,rfl,ha,hb,hl,hp⟩
  · exact eqR_run I (by omega) ih h rx ry E Q q
  · cases (show v=Value.ref a from rx)
    cases (show u=Value.ref b from ry)
    obtain ⟨_,ya,xa,pa,oa,ea,na,ga,ca,da,ma,na'⟩:=(show ObjOk X.prog X.w H s.heap a (.dT ks) from I.hok a _ ha)
    obtain ⟨_,yb,xb,pb,ob,eb,nb,gb,cb,db,mb,nb'⟩:=(show ObjOk X.prog X.w H s.heap b (.dT ls) from I.hok b _ hb)
    have key:∀ {kvs:List (List Key×V)} {zs:List (List Key×Addr×Value)},Paired (fun (p:List Key×V) (q:List Key×Addr×Value)=>p.1=q.1∧H q.2.1=some (.tup (p.1.map kV))∧RelV p.2 q.2.2) kvs zs→∀ z∈zs,(tupleKind (mixKind X.prog X.w)).is s.heap z.1 z.2.1:=by
      intro kvs zs pz z hz
      obtain ⟨p,_,e1,e2,_⟩:=paired_mem2 pz z hz
      rw [← e1]
      exact key_of I.hok e2
    refine rcT_dicts (knd:=tupleKind (mixKind X.prog X.w)) (ka:=xa) (kb:=xb) ya yb ⟨oa,ea,na,ga,ca,da,ma,key pa,na'⟩ ⟨ob,eb,nb,gb,cb,db,mb,key pb,nb'⟩ (by omega) (by show A.units + 1 < cLine;exact hu) (by rw [← pa.length,← pb.length];exact hl) (fun z hz=>?_) E Q q
    obtain ⟨p,hpm,e1,_,r1⟩:=paired_mem2 pa z hz
    obtain ⟨j,u,hj,hF⟩:=hp p hpm
    obtain ⟨z2,hz2,e2,_,r2⟩:=paired_at pb hj
    refine ⟨j,z2.2,?_,ih _ _ _ _ hF r1 r2⟩
    rw [hz2,← e1]
    exact congrArg some (Prod.ext e2.symm rfl)
theorem eqU_run (I:Inv X pins σ H s) : ∀ (n:Nat) (A:Around),A.units + n + 1 < cLine→∀ (x y:V) (v u:Value),EqU X.K H n x y→RelV x v→RelV y u→SeqAt.EqP X.prog X.w A s v u true
  | 0,_,_,_,_,_,_,h,_,_=>(show False from h).elim
  | n + 1,A,hu,x,y,v,u,h,rx,ry=>by
    rcases h with ⟨rfl,f⟩ | ⟨a,rfl,rfl⟩ | h | ⟨d,h1,h2,h3,h4⟩
    · exact (eqAt_same rx ry f).eqP
    · cases (show v=Value.ref a from rx)
      cases (show u=Value.ref a from ry)
      exact (SeqAt.EqAt.same _).eqP
    rotate_left
    · obtain ⟨as,r1⟩:=Dp.reads I d x v h1 rx
      obtain ⟨bs,r2⟩:=Dp.reads I d y u h2 ry
      have e:=SeqAt.eqAt_reads d d A s v u as bs r1 r2 h3 h3 (by have:=Nat.min_le_left d.depth d.depth;omega)
      rw [SeqAt.eqv_refl d h3] at e
      exact e.eqP
    · have step:=eqU1_run I (A:=A) (by omega) (eqU_run I n A.in1 (by show A.units + 1 + n + 1 < cLine;omega)) h rx ry
      obtain ⟨a,b,rfl,rfl⟩ : ∃ a b,x=.ref a∧y=.ref b:=by
        rcases h with (⟨a,b,_,_,e1,e2,_⟩ | ⟨a,b,_,_,e1,e2,_⟩) | ⟨a,b,_,_,e1,e2,_⟩
        · exact ⟨a,b,e1,e2⟩
        · exact ⟨a,b,e1,e2⟩
        · exact ⟨a,b,e1,e2⟩
      cases (show v=Value.ref a from rx)
      cases (show u=Value.ref b from ry)
      by_cases e : a=b
      · subst e
        exact (SeqAt.EqAt.same _).eqP
      · exact SeqAt.eqP_refs e step
end
section
variable {X:Cx}
def rDictK:List V→Hp→VK→Prop:=fun xs H Q=>∃ (a:Addr) (kvs:List (Key×V)),xs=[.ref a]∧Rd H a (.dK kvs)∧∀ p,H p=none→Q (.ref p) (upd H p (.dK kvs))
theorem b_dictK:CallR X (.type "dict") rDictK:=call_dictD
theorem g_dictK {H:Hp} {Q:VK} {a:Addr} {kvs:List (Key×V)} (h:Rd H a (.dK kvs)) (q:∀ p H',H p=none→Fr [] H H'→H' p=some (.dK kvs)→Q (.ref p) H') : rDictK [.ref a] H Q:=⟨a,kvs,rfl,h,fun p hp=>q p _ hp (Fr.new hp) upd_same⟩
theorem g_repQ {H:Hp} {Q:VK} {a:Addr} {xs:List V} {k:Int} (h:H a=some (.lst xs)) (h1 : -(2 ^ 63)≤k∧k < 2 ^ 63) (hz : xs.length * k.toNat≤1000000) (q:∀ p H',H p=none→Fr [] H H'→H' p=some (.lst (List.replicate k.toNat xs).flatten)→Q (.ref p) H') : rRep (.ref a) (.int k) H Q:=
  ⟨a,k,xs,rfl,rfl,h,h1.1,h1.2,szL hz,fun p hp=>q p _ hp (Fr.new hp) upd_same⟩
def rNeU (K:PySem.W.Frag) : R2:=fun x y H Q=>∃ n a b xs ys,n≤60∧x=.ref a∧y=.ref b∧SqL K H a xs∧SqL K H b ys∧Paired (EqU K H n) xs ys∧Q (.bl false) H
theorem op_neU (hu:X.A.units + 64 < cLine) : OpR X (compareOp .NotEq) (rNeU X.K):=by
  intro pins s σ H x y v u Q I rx ry h
  obtain ⟨n,a,b,xs,ys,hn,rfl,rfl,ha,hb,hp,q⟩:=h
  cases (show v=Value.ref a from rx)
  cases (show u=Value.ref b from ry)
  obtain ⟨us,r1,p1,_⟩:=I.list ha
  obtain ⟨ws,r2,p2,_⟩:=I.list hb
  have hsz : us.toArray.size=ws.toArray.size:=by
    rw [List.size_toArray,List.size_toArray,← r1.length,← r2.length]
    exact Paired.length hp
  refine SeqAt.neP_lists p1.isList p2.isList hsz (by omega) (fun j h1 h2=>?_) _ _ ⟨.bl false,H,I,rfl,q⟩
  have k:=items_run (A:=X.A.in1) (fun x y v u=>eqU_run I n X.A.in1 (by show X.A.units + 1 + n + 1 < cLine;omega) x y v u) hp r1 r2 j (by simpa using h1) (by simpa using h2)
  simpa using k
theorem g_neU {K:PySem.W.Frag} {H:Hp} {Q:VK} {a b:Addr} {xs ys:List V} (n:Nat) (hn : n≤60) (ha:SqL K H a xs) (hb:SqL K H b ys) (hp:Paired (EqU K H n) xs ys) (q:Q (.bl false) H) : rNeU K (.ref a) (.ref b) H Q:=⟨n,a,b,xs,ys,hn,rfl,rfl,ha,hb,hp,q⟩
end
end Lw
namespace Lw
open PySem L2
section
variable {K:PySem.W.Frag} {σ:L2.St} {H H':Hp} {Q:VK} {D:Ends} {i j:Nat} {v x y:V} {ta tb te tc:TE} {r:R2} {t u w:TS} {c d:TT} {as tr:TA} {g:TG} {a b:Int} {p C dx:Addr} {QB:Bool→Hp→Prop} {QL:List V→Hp→Prop} {xs:List V} {k:Int} {f s:Str} {fs:List (Str×V)}
theorem j_cv (hx : σ[i]? = some (some v)) (h : as σ H fun xs H2=>QL (v::xs) H2) : tCons (tVar i) as σ H QL:=g_cons (g_var hx h)
theorem j_cv1 (hx : σ[i]? = some (some v)) (h:QL [v] H) : tCons (tVar i) tNil σ H QL:=g_cons (g_var hx (g_nil h))
theorem j_cc (h : as σ H fun xs H2=>QL (v::xs) H2) : tCons (tC v) as σ H QL:=g_cons (g_c h)
theorem j_cc1 (h:QL [v] H) : tCons (tC v) tNil σ H QL:=g_cons (g_c (g_nil h))
theorem j_ov (hx : σ[i]? = some (some x)) (h : tb σ H fun y H2=>r x y H2 Q) : tOp r (tVar i) tb σ H Q:=g_op (g_var hx h)
theorem j_ovc (hx : σ[i]? = some (some x)) (h : r x y H Q) : tOp r (tVar i) (tC y) σ H Q:=g_op (g_var hx (g_c h))
theorem j_ovv (hx : σ[i]? = some (some x)) (hy : σ[j]? = some (some y)) (h : r x y H Q) : tOp r (tVar i) (tVar j) σ H Q:=g_op (g_var hx (g_var hy h))
theorem j_ix (hx : σ[i]? = some (some (.ref p))) (h:SqT K H p xs) (ha : atI xs k=some v) (q:Q v H) : tOp (rIxT K) (tVar i) (tC (.int k)) σ H Q:=g_op (g_var hx (g_c (g_ixT h ha q)))
theorem j_cix (h:SqT K H p xs) (ha : atI xs k=some v) (q:Q v H) : tC (.int k) σ H fun y H2=>rIxT K (.ref p) y H2 Q:=g_c (g_ixT h ha q)
theorem j_fv (hx : σ[i]? = some (some (.ref p))) (h:H p=some (.ins C dx fs)) (c:Cls K C) (n:NoAttr K C f) (l : fs.lookup f=some v) (q:Q v H) : tFld K (tVar i) f σ H Q:=g_fld (g_var hx (g_rfld h c n l q))
theorem j_dv0 (hx : σ[i]? = some (some x)) (h : tb σ H fun y H2=>rDG x y H2 Q) : tDGet (tVar i) tb σ H Q:=g_dget (g_var hx h)
theorem j_mv {m:Str} {sp:Sp} (hx : σ[i]? = some (some (.ref p))) (h:H p=some (.ins C dx fs)) (l : fs.lookup m=none) (q : as σ H fun vs H2=>sp (.ref p::vs) H2 Q E0) : tMt C m sp (tVar i) as σ H Q:=g_mt (g_var hx (g_rmt h l q))
theorem j_es {a b:Str} {P:Bool→Hp→Prop} (h:P (decide (a=b)) H) : tC (.str b) σ H fun y H2=>rEq (.str a) y H2 fun x H'=>∃ k,x=.bl k∧P k H':=g_c (g_eqS (g_bl h))
theorem j_it (h : te σ H fun x H'=>∃ k,x=.bl k∧if k=true then t D σ H' else u D σ H') : tIfS (tTest te) t u D σ H:=g_ifs (g_test h)
theorem j_itb (h : te σ H fun x H'=>∃ k,x=.bl k∧if k=true then t D σ H' else u D σ H') : tIfS (tB te) t u D σ H:=g_ifs (g_tb h)
theorem j_sa (h : te σ H fun v H'=>g v σ H' (u D)) : tSeq (tAsg te g) u D σ H:=h
theorem j_sd (h : te σ H fun _ H'=>u D σ H') : tSeq (tDrop te) u D σ H:=h
theorem j_sit (h : te σ H fun x H'=>∃ k,x=.bl k∧if k=true then t { D with nx:=u D } σ H' else w { D with nx:=u D } σ H') : tSeq (tIfS (tTest te) t w) u D σ H:=h
theorem j_sitb (h : te σ H fun x H'=>∃ k,x=.bl k∧if k=true then t { D with nx:=u D } σ H' else w { D with nx:=u D } σ H') : tSeq (tIfS (tB te) t w) u D σ H:=h
theorem j_si (h : c σ H fun b H'=>if b=true then t { D with nx:=u D } σ H' else w { D with nx:=u D } σ H') : tSeq (tIfS c t w) u D σ H:=h
end
end Lw
namespace Toy
open PySem L2 Lw
local macro_rules | `(tactic| walk_at "ne_")=>`(tactic| first | assumption | exact Ne.symm (by assumption) | ((refine' ne_of_none ?h (by assumption));(first | (case h=>walk_at "fact_") | fail)) | ((refine' Ne.symm (ne_of_none ?h (by assumption)));(first | (case h=>walk_at "fact_") | fail)) | walk_at "ne2_")
local macro_rules | `(tactic| walk_at "ne")=>`(tactic| first | walk_at "ne_" | fail)
local macro_rules | `(tactic| walk_at "nin_")=>`(tactic| first | exact nin0 | (refine nin1 ?_ ?_;walk_at "ne_";walk_at "nin_") | assumption)
local macro_rules | `(tactic| walk_at "nin")=>`(tactic| first | walk_at "nin_" | fail)
local macro_rules | `(tactic| walk_at "fact_")=>`(tactic| first | assumption | ((refine' Fr.tupAt (by assumption) ?h);(first | (case h=>walk_at "fact_") | fail)) | ((refine' Fr.at0 (by assumption) ?h);(first | (case h=>walk_at "fact_") | fail)) | ((refine' Fr.at (by assumption) ?h ?k);(first | (case h=>walk_at "fact_") | fail);(first | (case k=>walk_at "nin_") | fail)))
local macro_rules | `(tactic| walk_at "fact")=>`(tactic| first | walk_at "fact_" | fail)
local macro_rules | `(tactic| walk_at "none_")=>`(tactic| first | assumption | ((refine' Fr.freeL (by assumption) ?h ?k);(first | (case h=>walk_at "none_") | fail);(first | (case k=>walk_at "nin_") | fail)))
local macro_rules | `(tactic| walk_at "none")=>`(tactic| first | walk_at "none_" | fail)
local macro_rules | `(tactic| walk_at "mem_")=>`(tactic| first | assumption | exact List.mem_cons_self | (refine List.mem_cons_of_mem _ ?_;walk_at "mem_"))
local macro_rules | `(tactic| walk_at "mem")=>`(tactic| first | walk_at "mem_" | fail)
local macro_rules | `(tactic| walk_at "frn_")=>`(tactic| first | exact frn0 | (refine frn1 ?_ ?_;(first | exact Or.inl (by walk_at "mem") | exact Or.inr (by walk_at "none"));walk_at "frn_"))
local macro_rules | `(tactic| walk_at "frn")=>`(tactic| first | walk_at "frn_" | fail)
local macro_rules | `(tactic| walk_at "fr_")=>`(tactic| first | assumption | exact Fr.refl | ((refine' Fr.own ?h (by assumption) ?k);(first | (case h=>walk_at "fr_") | fail);(first | (case k=>walk_at "frn_") | fail)) | (refine Fr.of0 ?_;walk_at "fr_"))
local macro_rules | `(tactic| walk_at "fr")=>`(tactic| first | walk_at "fr_" | fail)
local macro_rules | `(tactic| walk_at "sz_")=>`(tactic| first | exact szM (by omega) | exact szM (by simp only [List.length_map,List.length_append,List.length_cons,List.length_nil];omega))
local macro_rules | `(tactic| walk_at "sz")=>`(tactic| first | walk_at "sz_" | fail)
local macro_rules | `(tactic| walk_at "sql_")=>`(tactic| first | assumption | exact SqL.of (by walk_at "fact") | ((refine' Fr.sql (by assumption) ?h ?k);(first | (case h=>walk_at "sql_") | fail);(first | (case k=>walk_at "nin_") | fail)))
local macro_rules | `(tactic| walk_at "sql")=>`(tactic| first | walk_at "sql_" | fail)
local macro_rules | `(tactic| walk_at "sqt_")=>`(tactic| first | assumption | exact SqT.of (by walk_at "fact"))
local macro_rules | `(tactic| walk_at "sqt")=>`(tactic| first | walk_at "sqt_" | fail)
local macro_rules | `(tactic| walk_at "ty_")=>`(tactic| first | exact TyX.base (TyOf.tup (by walk_at "fact")) | exact TyX.base (TyOf.dK (by walk_at "fact")) | exact TyX.base (TyOf.dT (by walk_at "fact")))
local macro_rules | `(tactic| walk_at "ty_")=>`(tactic| first | assumption | exact TyX.base TyOf.non | exact TyX.base (TyOf.int _) | exact TyX.base (TyOf.bl _) | exact TyX.base (TyOf.str _) | exact TyX.base (TyOf.lst (by walk_at "fact")))
local macro_rules | `(tactic| walk_at "ty")=>`(tactic| first | walk_at "ty_" | fail)
local macro_rules | `(tactic| walk_at "kb_")=>`(tactic| first | exact kb_NoneType_list | exact kb_NoneType_tuple | exact kb_NoneType_bool | exact kb_NoneType_int | exact kb_NoneType_str | exact kb_NoneType_dict | exact kb_bool_list | exact kb_bool_tuple | exact kb_bool_bool | exact kb_bool_int | exact kb_bool_str | exact kb_bool_dict | exact kb_int_list | exact kb_int_tuple | exact kb_int_bool | exact kb_int_int | exact kb_int_str | exact kb_int_dict | exact kb_str_list | exact kb_str_tuple | exact kb_str_bool | exact kb_str_int | exact kb_str_str | exact kb_str_dict | exact kb_list_list | exact kb_list_tuple | exact kb_list_bool | exact kb_list_int | exact kb_list_str | exact kb_list_dict | exact kb_tuple_list | exact kb_tuple_tuple | exact kb_tuple_bool | exact kb_tuple_int | exact kb_tuple_str | exact kb_tuple_dict | exact kb_dict_list | exact kb_dict_tuple | exact kb_dict_bool | exact kb_dict_int | exact kb_dict_str | exact kb_dict_dict)
local macro_rules | `(tactic| walk_at "kb")=>`(tactic| first | walk_at "kb_" | fail)
local macro_rules | `(tactic| walk_at "new_")=>`(tactic| intro _ _ _ _ _)
local macro_rules | `(tactic| walk_at "new")=>`(tactic| first | walk_at "new_" | fail)
local macro_rules | `(tactic| walk_at "go1_")=>`(tactic| first | walk_at "go2_" | walk_at "go3_" | walk_at "go4_" | walk_at "own_")
local macro_rules | `(tactic| walk_at "go1_")=>`(tactic| first | ((with_reducible refine' g_rmt ?h ?l ?_);(first | (case h=>walk_at "fact_") | fail);(first | (case l=>exact rfl) | fail)) | with_reducible refine g_sl ?_ | with_reducible refine g_noP ?_ | with_reducible refine g_part ?_ | with_reducible refine g_rpart ?_ | ((with_reducible refine' g_slL ?h ?_);(first | (case h=>walk_at "sql_") | fail);walk_at "new_"))
local macro_rules | `(tactic| walk_at "go1_")=>`(tactic| first | ((with_reducible refine' g_listL ?h ?_);(first | (case h=>walk_at "sql_") | fail);walk_at "new_") | ((with_reducible refine' g_listT ?h ?_);(first | (case h=>walk_at "sqt_") | fail);walk_at "new_") | ((with_reducible refine' g_tupL ?h ?_);(first | (case h=>walk_at "sql_") | fail);walk_at "new_") | ((with_reducible refine' g_bmL ?h ?_);(first | (case h=>walk_at "fact_") | fail)) | ((with_reducible refine' g_isi ?h ?k ?_);(first | (case h=>walk_at "ty_") | fail);(first | (case k=>walk_at "kb_") | fail)) | ((with_reducible refine' g_append ?h ?l ?_);(first | (case h=>walk_at "fact_") | fail);(first | (case l=>walk_at "sz_") | fail);intro _ _ _))
local macro_rules | `(tactic| walk_at "go1_")=>`(tactic| first | ((with_reducible refine' g_newT ?h ?_);(first | (case h=>exact Nat.le_of_ble_eq_true rfl) | fail);walk_at "new_") | ((with_reducible refine' g_newL ?h ?_);(first | (case h=>exact Nat.le_of_ble_eq_true rfl) | fail);walk_at "new_") | ((with_reducible refine' g_lenL ?h ?_);(first | (case h=>walk_at "sql_") | fail)) | ((with_reducible refine' g_lenT ?h ?_);(first | (case h=>walk_at "sqt_") | fail)) | ((with_reducible refine' g_ixL ?h ?k ?_);(first | (case h=>walk_at "sql_") | fail);(first | (case k=>exact rfl) | fail)) | ((with_reducible refine' g_ixT ?h ?k ?_);(first | (case h=>walk_at "sqt_") | fail);(first | (case k=>exact rfl) | fail)))
local macro_rules | `(tactic| walk_at "go1_")=>`(tactic| first | with_reducible refine g_iteNF ?_ | ((with_reducible refine' g_aug ?h ?_);(first | (case h=>exact rfl) | fail)) | ((with_reducible refine' g_mod ?h ?_);(first | (case h=>(first | decide | omega | assumption | (simp only [List.length_map];omega))) | fail)) | ((with_reducible refine' g_div ?h ?_);(first | (case h=>(first | exact ⟨by decide,by decide⟩ | assumption)) | fail)) | ((with_reducible refine' g_pow ?h ?_);(first | (case h=>(first | exact ⟨by decide,by decide,by decide⟩ | assumption)) | fail)) | ((with_reducible refine' g_mul ?h ?_);(first | (case h=>(first | exact Or.inr ⟨by decide,by decide⟩ | exact Or.inl ⟨by decide,by decide⟩ | exact Or.inr ⟨by omega,by omega⟩ | exact Or.inl ⟨by omega,by omega⟩ | assumption)) | fail)))
local macro_rules | `(tactic| walk_at "go1_")=>`(tactic| first | with_reducible refine g_max2 ?_ | with_reducible refine g_min2 ?_ | with_reducible refine g_ipI ?_ | with_reducible refine g_iteT ?_ | with_reducible refine g_iteF ?_ | with_reducible refine g_iteNT ?_)
local macro_rules | `(tactic| walk_at "go1_")=>`(tactic| first | with_reducible refine g_neI ?_ | with_reducible refine g_eqS ?_ | with_reducible refine g_neS ?_ | with_reducible refine g_eqB ?_ | with_reducible refine g_isN ?_ | with_reducible refine g_notN ?_)
local macro_rules | `(tactic| walk_at "go1_")=>`(tactic| first | with_reducible refine g_sub ?_ | with_reducible refine g_lt ?_ | with_reducible refine g_le ?_ | with_reducible refine g_gt ?_ | with_reducible refine g_ge ?_ | with_reducible refine g_eqI ?_)
local macro_rules | `(tactic| walk_at "go1_")=>`(tactic| first | with_reducible refine g_mk ?_ | ((with_reducible refine g_rmk ?_);intro _ _ _ _ _ _ _ _ _) | with_reducible refine g_bm ?_ | with_reducible refine g_bm0 ?_ | with_reducible refine g_bl ?_ | with_reducible refine g_add ?_)
local macro_rules | `(tactic| walk_at "go1_")=>`(tactic| first | with_reducible refine g_sub1 ?_ | with_reducible refine g_flda ?_ | with_reducible refine g_rAdd ?_ | with_reducible refine g_rSub ?_ | ((with_reducible refine' g_rfldb ?h ?l ?e ?_);(first | (case h=>walk_at "fact_") | fail);(first | (case l=>exact Nat.le_of_ble_eq_true rfl) | fail);(first | (case e=>exact rfl) | fail);intro _ _ _) | with_reducible refine g_mt ?_)
local macro_rules | `(tactic| walk_at "go1_")=>`(tactic| first | with_reducible refine g_nil ?_ | with_reducible refine g_cons ?_ | with_reducible refine g_tup ?_ | with_reducible refine g_lst ?_ | with_reducible refine g_fld ?_ | with_reducible refine g_sfld ?_)
local macro_rules | `(tactic| walk_at "go1_")=>`(tactic| first | with_reducible refine g_ifE ?_ | ((with_reducible refine' g_var ?h ?_);(first | (case h=>exact rfl) | fail)) | with_reducible refine g_c ?_ | with_reducible refine g_op ?_ | with_reducible refine g_cb ?_ | with_reducible refine g_cl ?_)
local macro_rules | `(tactic| walk_at "go1_")=>`(tactic| first | with_reducible refine g_and ?_ | with_reducible refine g_or ?_ | with_reducible refine g_not ?_ | with_reducible refine g_andV ?_ | with_reducible refine g_orV ?_ | with_reducible refine g_notV ?_)
local macro_rules | `(tactic| walk_at "go1_")=>`(tactic| first | with_reducible refine g_next ?_ | with_reducible refine g_cont ?_ | with_reducible refine g_brk ?_ | with_reducible refine g_ifs ?_ | with_reducible refine g_test ?_ | with_reducible refine g_tb ?_)
local macro_rules | `(tactic| walk_at "go1_")=>`(tactic| first | with_reducible refine g_ttr ?_ | ((with_reducible refine' g_riL ?h ?_);(first | (case h=>walk_at "sql_") | fail)) | ((with_reducible refine' g_riT ?h ?_);(first | (case h=>walk_at "sqt_") | fail)) | ((with_reducible refine' g_ri1 ?h ?_);(first | (case h=>(first | exact ⟨by decide,by decide⟩ | exact ⟨by omega,by omega⟩ | exact ⟨by simp only [List.length_map];omega,by simp only [List.length_map];omega⟩)) | fail)) | ((with_reducible refine' g_ri2 ?h ?_);(first | (case h=>(first | exact ⟨by decide,by decide,by decide,by decide⟩ | exact ⟨by omega,by omega,by omega,by omega⟩)) | fail)) | with_reducible refine g_retN ?_)
local macro_rules | `(tactic| walk_at "go1_")=>`(tactic| first | with_reducible refine g_lc ?_ | with_reducible refine g_iL ?_ | with_reducible refine g_iT ?_ | with_reducible refine g_i1 ?_ | with_reducible refine g_i2 ?_ | with_reducible refine g_yes ?_)
local macro_rules | `(tactic| walk_at "go1_")=>`(tactic| first | with_reducible refine g_seq ?_ | with_reducible refine g_asg ?_ | with_reducible refine g_name ?_ | with_reducible refine g_drop ?_ | with_reducible refine g_ret ?_ | with_reducible refine g_for ?_)
local macro_rules | `(tactic| walk_at "go1")=>`(tactic| first | walk_at "go1_" | fail)
local macro_rules | `(tactic| walk_at "go_")=>`(tactic| skip)
local macro_rules | `(tactic| walk_at "go_")=>`(tactic| (walk_at "go1_";walk_at "go_"))
local macro_rules | `(tactic| walk_at "go")=>`(tactic| first | walk_at "go_" | fail)
local macro_rules | `(tactic| walk_at "rdt_")=>`(tactic| first | exact Or.inl (by walk_at "fact") | exact Or.inr ⟨_,by walk_at "fact"⟩)
local macro_rules | `(tactic| walk_at "rdt")=>`(tactic| first | walk_at "rdt_" | fail)
local macro_rules | `(tactic| walk_at "go2_")=>`(tactic| first | ((with_reducible refine' g_rkt ?h ?_);(first | (case h=>walk_at "fact_") | fail)) | ((with_reducible refine' g_ren ?h ?_);(first | (case h=>walk_at "sql_") | fail)) | ((with_reducible refine' g_rzp ?h ?k ?_);(first | (case h=>walk_at "sql_") | fail);(first | (case k=>walk_at "sql_") | fail)) | ((with_reducible refine' g_bmT ?h ?_);(first | (case h=>walk_at "fact_") | fail)) | ((with_reducible refine' g_clearT ?h ?_);(first | (case h=>walk_at "fact_") | fail);intro _ _ _) | ((with_reducible refine' g_rlrg ?h ?_);(first | (case h=>exact RgOk.of_le (by omega) (by omega) (by omega) (by omega)) | fail);walk_at "new_"))
local macro_rules | `(tactic| walk_at "go2_")=>`(tactic| first | with_reducible refine g_lstRg ?_ | ((with_reducible refine' g_gtup ?h ?l ?_);(first | (case h=>walk_at "sqt_") | fail);(first | (case l=>exact rfl) | fail)) | ((with_reducible refine g_dnew ?_);walk_at "new_") | ((with_reducible refine g_dnewK ?_);walk_at "new_") | ((with_reducible refine' g_unl ?h ?_);(first | (case h=>walk_at "fact_") | fail);intro _ _ _) | ((with_reducible refine' g_rdg2 ?h ?_);(first | (case h=>walk_at "rdt_") | fail)))
local macro_rules | `(tactic| walk_at "go2_")=>`(tactic| first | with_reducible refine g_isO ?_ | with_reducible refine g_notO ?_ | with_reducible refine g_eqO ?_ | with_reducible refine g_neB ?_ | ((with_reducible refine' g_ninI ?h ?_);(first | (case h=>walk_at "sql_") | fail)) | with_reducible refine g_gnil ?_)
local macro_rules | `(tactic| walk_at "go2_")=>`(tactic| first | with_reducible refine g_iK ?_ | with_reducible refine g_iE ?_ | with_reducible refine g_iZ ?_ | with_reducible refine g_gcons ?_ | with_reducible refine g_chain ?_ | with_reducible refine g_rch ?_)
local macro_rules | `(tactic| walk_at "go2_")=>`(tactic| first | with_reducible refine g_dget ?_ | with_reducible refine g_din ?_ | with_reducible refine g_dnin ?_ | with_reducible refine g_dput ?_ | with_reducible refine g_dget2 ?_ | with_reducible refine g_dget1 ?_)
local macro_rules | `(tactic| walk_at "go2")=>`(tactic| first | walk_at "go2_" | fail)
local macro_rules | `(tactic| walk_at "go4_")=>`(tactic| ((with_reducible refine' g_sl1 ?h ?_);(first | (case h=>walk_at "sqt_") | fail);walk_at "new_"))
local macro_rules | `(tactic| walk_at "go4_")=>`(tactic| first | ((with_reducible refine' g_renT ?h ?_);(first | (case h=>walk_at "sqt_") | fail)) | ((with_reducible refine' g_rzaT ?h ?k ?_);(first | (case h=>walk_at "sqt_") | fail);(first | (case k=>walk_at "sqt_") | fail)) | ((with_reducible refine' g_rdg2K ?h ?_);(first | (case h=>walk_at "rdt_") | fail)) | ((with_reducible refine' g_rdgS ?h ?l ?_);(first | (case h=>walk_at "rdt_") | fail);(first | (case l=>exact rfl) | fail)) | ((with_reducible refine' g_rdpS ?h ?l ?e ?_);(first | (case h=>walk_at "fact_") | fail);(first | (case l=>exact Nat.le_of_ble_eq_true rfl) | fail);(first | (case e=>exact rfl) | fail);intro _ _ _) | ((with_reducible refine' g_rkk ?h ?_);(first | (case h=>walk_at "fact_") | fail)))
local macro_rules | `(tactic| walk_at "go4_")=>`(tactic| first | with_reducible refine g_un ?_ | with_reducible refine g_freeze ?_ | with_reducible refine g_neg ?_ | with_reducible refine g_intB ?_ | with_reducible refine g_daug ?_ | ((with_reducible refine g_nnew ?_);intro _ _ _ _ _))
local macro_rules | `(tactic| walk_at "go4_")=>`(tactic| first | with_reducible refine g_nget ?_ | with_reducible refine g_nin ?_ | with_reducible refine g_nnin ?_ | with_reducible refine g_nget2 ?_ | with_reducible refine g_nput ?_ | with_reducible refine g_dpop1 ?_)
local macro_rules | `(tactic| walk_at "go4_")=>`(tactic| first | with_reducible refine g_iET ?_ | with_reducible refine g_iZA ?_ | with_reducible refine g_pcons ?_ | with_reducible refine g_pnil ?_ | ((with_reducible refine g_disp ?_);walk_at "new_") | ((with_reducible refine g_dispT1 ?_);walk_at "new_"))
local macro_rules | `(tactic| walk_at "go4")=>`(tactic| first | walk_at "go4_" | fail)
def top (i:Nat) : Stmt:=PySem.Challenge.pw_manydoors_k12_answers_of_desks_are_new.main.body.getD i (.Pass ⟨0,0,0,0⟩)
abbrev s_is_integer:Stmt:=top 4
abbrev s_is_from:Stmt:=top 5
abbrev s_nights_of:Stmt:=top 6
abbrev s_meet:Stmt:=top 7
abbrev s_check_room:Stmt:=top 12
abbrev s_check_given:Stmt:=top 13
abbrev s_housing:Stmt:=top 14
abbrev s_needs_of:Stmt:=top 8
abbrev s_price_of:Stmt:=top 9
abbrev s_kept_of:Stmt:=top 10
abbrev s_Book_init:Stmt:=inClass (top 11) 0
abbrev s_Book_free:Stmt:=inClass (top 11) 1
abbrev s_Book_fits:Stmt:=inClass (top 11) 2
abbrev s_Book_wish:Stmt:=inClass (top 11) 3
abbrev s_Book_cancel:Stmt:=inClass (top 11) 4
abbrev s_Book_change:Stmt:=inClass (top 11) 5
abbrev s_Book_parties:Stmt:=inClass (top 11) 6
abbrev s_Seller_init:Stmt:=inClass (top 16) 0
abbrev s_Seller_bodies:Stmt:=inClass (top 16) 1
abbrev s_Seller_answers:Stmt:=inClass (top 16) 2
abbrev s_Seller_voucher:Stmt:=inClass (top 16) 4
abbrev s_Seller_must_wait:Stmt:=inClass (top 16) 5
abbrev s_Seller_lack:Stmt:=inClass (top 16) 6
abbrev s_Seller_add:Stmt:=inClass (top 16) 8
abbrev s_Seller_prices:Stmt:=inClass (top 16) 11
abbrev s_Seller_write:Stmt:=inClass (top 16) 12
abbrev s_Seller_cancel:Stmt:=inClass (top 16) 9
abbrev s_Seller_keep:Stmt:=inClass (top 16) 10
abbrev s_Seller_do:Stmt:=inClass (top 16) 7
abbrev s_Seller_ask:Stmt:=inClass (top 16) 3
abbrev s_Seller_close:Stmt:=inClass (top 16) 14
abbrev s_Seller_reopen:Stmt:=inClass (top 16) 15
abbrev s_Seller_handle:Stmt:=inClass (top 16) 13
abbrev s_House_init:Stmt:=inClass (top 18) 0
abbrev s_House_bodies:Stmt:=inClass (top 18) 1
abbrev s_House_cells:Stmt:=inClass (top 18) 3
abbrev s_House_look:Stmt:=inClass (top 18) 4
abbrev s_House_decide:Stmt:=inClass (top 18) 6
abbrev s_House_closed:Stmt:=inClass (top 18) 5
abbrev s_House_handle:Stmt:=inClass (top 18) 2
abbrev s_House_give:Stmt:=inClass (top 18) 7
abbrev s_House_want:Stmt:=inClass (top 18) 8
abbrev s_Lmixed:Stmt:=top 20
abbrev s_Lnumbers:Stmt:=top 21
abbrev s_Ldraw:Stmt:=top 22
abbrev s_Lequal:Stmt:=top 23
abbrev s_Lall_equal:Stmt:=top 24
abbrev s_Lsetup:Stmt:=top 25
abbrev s_Lstay:Stmt:=top 26
abbrev s_Lparty:Stmt:=top 27
abbrev s_Lneeds:Stmt:=top 28
abbrev s_Lseller_keeps:Stmt:=top 29
abbrev s_Lhouse_keeps:Stmt:=top 30
abbrev s_law:Stmt:=top 31
structure Ad where
  Book:Addr
  Seller:Addr
  House:Addr
structure Txt (K:PySem.W.Frag) (mg:Str→Option Value) (A:Ad) : Prop where
  b_isinstance : mg "isinstance" = none
  b_int : mg "int" = none
  b_bool : mg "bool" = none
  b_list : mg "list" = none
  b_range : mg "range" = none
  b_max : mg "max" = none
  b_min : mg "min" = none
  b_len : mg "len" = none
  b_enumerate : mg "enumerate" = none
  b_sorted : mg "sorted" = none
  b_sum : mg "sum" = none
  b_all : mg "all" = none
  b_dict : mg "dict" = none
  b_any : mg "any" = none
  b_tuple : mg "tuple" = none
  b_zip : mg "zip" = none
  b_str : mg "str" = none
  cl_Book:Cls K A.Book
  no_Book_rooms:NoAttr K A.Book "rooms"
  no_Book_nights:NoAttr K A.Book "nights"
  no_Book_kept:NoAttr K A.Book "kept"
  cl_Seller:Cls K A.Seller
  no_Seller_setup:NoAttr K A.Seller "setup"
  no_Seller_number:NoAttr K A.Seller "number"
  no_Seller_free:NoAttr K A.Seller "free"
  no_Seller_vouchers:NoAttr K A.Seller "vouchers"
  no_Seller_book:NoAttr K A.Seller "book"
  no_Seller_closing:NoAttr K A.Seller "closing"
  no_Seller_asked:NoAttr K A.Seller "asked"
  no_Seller_waiting:NoAttr K A.Seller "waiting"
  no_Seller_count:NoAttr K A.Seller "count"
  no_Seller_outgoing:NoAttr K A.Seller "outgoing"
  no_Seller_told:NoAttr K A.Seller "told"
  cl_House:Cls K A.House
  no_House_sellers:NoAttr K A.House "sellers"
  no_House_stock:NoAttr K A.House "stock"
  no_House_books:NoAttr K A.House "books"
  no_House_queue:NoAttr K A.House "queue"
  no_House_round:NoAttr K A.House "round"
  no_House_counts:NoAttr K A.House "counts"
  no_House_outgoing:NoAttr K A.House "outgoing"
def F_Book (rooms:Addr) (nights:Int) (kept:Addr) : List (Str×V):=[("rooms",.ref rooms),("nights",.int nights),("kept",.ref kept)]
def F_Seller (setup:V) (number:Int) (free:Addr) (vouchers:Addr) (book:Addr) (closing:V) (asked:Addr) (waiting:Addr) (count:Int) (outgoing:Addr) (told:Addr) : List (Str×V):=[("setup",setup),("number",.int number),("free",.ref free),("vouchers",.ref vouchers),("book",.ref book),("closing",closing),("asked",.ref asked),("waiting",.ref waiting),("count",.int count),("outgoing",.ref outgoing),("told",.ref told)]
def F_House (sellers:Int) (stock:Addr) (books:Addr) (queue:Addr) (round:V) (counts:Addr) (outgoing:Addr) : List (Str×V):=[("sellers",.int sellers),("stock",.ref stock),("books",.ref books),("queue",.ref queue),("round",round),("counts",.ref counts),("outgoing",.ref outgoing)]
def spLaw (K:PySem.W.Frag) : Sp:=fun vs H Q _=>∃ x0,vs=[x0]∧∃ (a:Addr) (ns:List Int),x0=.ref a∧SqL K H a (ns.map V.int)∧ns.length≤63∧∀ H',Q (.bl true) H'
local macro_rules | `(tactic| walk_at "own_")=>`(tactic| first | ((with_reducible refine' g_rfld (f:="outgoing") (C:=Ad.House _) ?h (Txt.cl_House (by assumption)) (Txt.no_House_outgoing (by assumption)) ?l ?_);(case h=>walk_at "fact_");(case l=>exact rfl)) | ((with_reducible refine' g_rflds (f:="outgoing") (C:=Ad.House _) ?h (Txt.cl_House (by assumption)) (Txt.no_House_outgoing (by assumption)) ?l ?e ?_);(case h=>walk_at "fact_");(case l=>exact Nat.le_of_ble_eq_true rfl);(case e=>exact rfl);intro _ _ _) | ((with_reducible refine' g_rflda (f:="outgoing") (C:=Ad.House _) ?h (Txt.cl_House (by assumption)) (Txt.no_House_outgoing (by assumption)) ?l ?_);(case h=>walk_at "fact_");(case l=>exact rfl)))
local macro_rules | `(tactic| walk_at "own_")=>`(tactic| first | ((with_reducible refine' g_rfld (f:="round") (C:=Ad.House _) ?h (Txt.cl_House (by assumption)) (Txt.no_House_round (by assumption)) ?l ?_);(case h=>walk_at "fact_");(case l=>exact rfl)) | ((with_reducible refine' g_rflds (f:="round") (C:=Ad.House _) ?h (Txt.cl_House (by assumption)) (Txt.no_House_round (by assumption)) ?l ?e ?_);(case h=>walk_at "fact_");(case l=>exact Nat.le_of_ble_eq_true rfl);(case e=>exact rfl);intro _ _ _) | ((with_reducible refine' g_rflda (f:="round") (C:=Ad.House _) ?h (Txt.cl_House (by assumption)) (Txt.no_House_round (by assumption)) ?l ?_);(case h=>walk_at "fact_");(case l=>exact rfl)) | ((with_reducible refine' g_rfld (f:="counts") (C:=Ad.House _) ?h (Txt.cl_House (by assumption)) (Txt.no_House_counts (by assumption)) ?l ?_);(case h=>walk_at "fact_");(case l=>exact rfl)) | ((with_reducible refine' g_rflds (f:="counts") (C:=Ad.House _) ?h (Txt.cl_House (by assumption)) (Txt.no_House_counts (by assumption)) ?l ?e ?_);(case h=>walk_at "fact_");(case l=>exact Nat.le_of_ble_eq_true rfl);(case e=>exact rfl);intro _ _ _) | ((with_reducible refine' g_rflda (f:="counts") (C:=Ad.House _) ?h (Txt.cl_House (by assumption)) (Txt.no_House_counts (by assumption)) ?l ?_);(case h=>walk_at "fact_");(case l=>exact rfl)))
local macro_rules | `(tactic| walk_at "own_")=>`(tactic| first | ((with_reducible refine' g_rfld (f:="books") (C:=Ad.House _) ?h (Txt.cl_House (by assumption)) (Txt.no_House_books (by assumption)) ?l ?_);(case h=>walk_at "fact_");(case l=>exact rfl)) | ((with_reducible refine' g_rflds (f:="books") (C:=Ad.House _) ?h (Txt.cl_House (by assumption)) (Txt.no_House_books (by assumption)) ?l ?e ?_);(case h=>walk_at "fact_");(case l=>exact Nat.le_of_ble_eq_true rfl);(case e=>exact rfl);intro _ _ _) | ((with_reducible refine' g_rflda (f:="books") (C:=Ad.House _) ?h (Txt.cl_House (by assumption)) (Txt.no_House_books (by assumption)) ?l ?_);(case h=>walk_at "fact_");(case l=>exact rfl)) | ((with_reducible refine' g_rfld (f:="queue") (C:=Ad.House _) ?h (Txt.cl_House (by assumption)) (Txt.no_House_queue (by assumption)) ?l ?_);(case h=>walk_at "fact_");(case l=>exact rfl)) | ((with_reducible refine' g_rflds (f:="queue") (C:=Ad.House _) ?h (Txt.cl_House (by assumption)) (Txt.no_House_queue (by assumption)) ?l ?e ?_);(case h=>walk_at "fact_");(case l=>exact Nat.le_of_ble_eq_true rfl);(case e=>exact rfl);intro _ _ _) | ((with_reducible refine' g_rflda (f:="queue") (C:=Ad.House _) ?h (Txt.cl_House (by assumption)) (Txt.no_House_queue (by assumption)) ?l ?_);(case h=>walk_at "fact_");(case l=>exact rfl)))
local macro_rules | `(tactic| walk_at "own_")=>`(tactic| first | ((with_reducible refine' g_rfld (f:="sellers") (C:=Ad.House _) ?h (Txt.cl_House (by assumption)) (Txt.no_House_sellers (by assumption)) ?l ?_);(case h=>walk_at "fact_");(case l=>exact rfl)) | ((with_reducible refine' g_rflds (f:="sellers") (C:=Ad.House _) ?h (Txt.cl_House (by assumption)) (Txt.no_House_sellers (by assumption)) ?l ?e ?_);(case h=>walk_at "fact_");(case l=>exact Nat.le_of_ble_eq_true rfl);(case e=>exact rfl);intro _ _ _) | ((with_reducible refine' g_rflda (f:="sellers") (C:=Ad.House _) ?h (Txt.cl_House (by assumption)) (Txt.no_House_sellers (by assumption)) ?l ?_);(case h=>walk_at "fact_");(case l=>exact rfl)) | ((with_reducible refine' g_rfld (f:="stock") (C:=Ad.House _) ?h (Txt.cl_House (by assumption)) (Txt.no_House_stock (by assumption)) ?l ?_);(case h=>walk_at "fact_");(case l=>exact rfl)) | ((with_reducible refine' g_rflds (f:="stock") (C:=Ad.House _) ?h (Txt.cl_House (by assumption)) (Txt.no_House_stock (by assumption)) ?l ?e ?_);(case h=>walk_at "fact_");(case l=>exact Nat.le_of_ble_eq_true rfl);(case e=>exact rfl);intro _ _ _) | ((with_reducible refine' g_rflda (f:="stock") (C:=Ad.House _) ?h (Txt.cl_House (by assumption)) (Txt.no_House_stock (by assumption)) ?l ?_);(case h=>walk_at "fact_");(case l=>exact rfl)))
local macro_rules | `(tactic| walk_at "own_")=>`(tactic| first | ((with_reducible refine' g_rfld (f:="outgoing") (C:=Ad.Seller _) ?h (Txt.cl_Seller (by assumption)) (Txt.no_Seller_outgoing (by assumption)) ?l ?_);(case h=>walk_at "fact_");(case l=>exact rfl)) | ((with_reducible refine' g_rflds (f:="outgoing") (C:=Ad.Seller _) ?h (Txt.cl_Seller (by assumption)) (Txt.no_Seller_outgoing (by assumption)) ?l ?e ?_);(case h=>walk_at "fact_");(case l=>exact Nat.le_of_ble_eq_true rfl);(case e=>exact rfl);intro _ _ _) | ((with_reducible refine' g_rflda (f:="outgoing") (C:=Ad.Seller _) ?h (Txt.cl_Seller (by assumption)) (Txt.no_Seller_outgoing (by assumption)) ?l ?_);(case h=>walk_at "fact_");(case l=>exact rfl)) | ((with_reducible refine' g_rfld (f:="told") (C:=Ad.Seller _) ?h (Txt.cl_Seller (by assumption)) (Txt.no_Seller_told (by assumption)) ?l ?_);(case h=>walk_at "fact_");(case l=>exact rfl)) | ((with_reducible refine' g_rflds (f:="told") (C:=Ad.Seller _) ?h (Txt.cl_Seller (by assumption)) (Txt.no_Seller_told (by assumption)) ?l ?e ?_);(case h=>walk_at "fact_");(case l=>exact Nat.le_of_ble_eq_true rfl);(case e=>exact rfl);intro _ _ _) | ((with_reducible refine' g_rflda (f:="told") (C:=Ad.Seller _) ?h (Txt.cl_Seller (by assumption)) (Txt.no_Seller_told (by assumption)) ?l ?_);(case h=>walk_at "fact_");(case l=>exact rfl)))
local macro_rules | `(tactic| walk_at "own_")=>`(tactic| first | ((with_reducible refine' g_rfld (f:="waiting") (C:=Ad.Seller _) ?h (Txt.cl_Seller (by assumption)) (Txt.no_Seller_waiting (by assumption)) ?l ?_);(case h=>walk_at "fact_");(case l=>exact rfl)) | ((with_reducible refine' g_rflds (f:="waiting") (C:=Ad.Seller _) ?h (Txt.cl_Seller (by assumption)) (Txt.no_Seller_waiting (by assumption)) ?l ?e ?_);(case h=>walk_at "fact_");(case l=>exact Nat.le_of_ble_eq_true rfl);(case e=>exact rfl);intro _ _ _) | ((with_reducible refine' g_rflda (f:="waiting") (C:=Ad.Seller _) ?h (Txt.cl_Seller (by assumption)) (Txt.no_Seller_waiting (by assumption)) ?l ?_);(case h=>walk_at "fact_");(case l=>exact rfl)) | ((with_reducible refine' g_rfld (f:="count") (C:=Ad.Seller _) ?h (Txt.cl_Seller (by assumption)) (Txt.no_Seller_count (by assumption)) ?l ?_);(case h=>walk_at "fact_");(case l=>exact rfl)) | ((with_reducible refine' g_rflds (f:="count") (C:=Ad.Seller _) ?h (Txt.cl_Seller (by assumption)) (Txt.no_Seller_count (by assumption)) ?l ?e ?_);(case h=>walk_at "fact_");(case l=>exact Nat.le_of_ble_eq_true rfl);(case e=>exact rfl);intro _ _ _) | ((with_reducible refine' g_rflda (f:="count") (C:=Ad.Seller _) ?h (Txt.cl_Seller (by assumption)) (Txt.no_Seller_count (by assumption)) ?l ?_);(case h=>walk_at "fact_");(case l=>exact rfl)))
local macro_rules | `(tactic| walk_at "own_")=>`(tactic| first | ((with_reducible refine' g_rfld (f:="closing") (C:=Ad.Seller _) ?h (Txt.cl_Seller (by assumption)) (Txt.no_Seller_closing (by assumption)) ?l ?_);(case h=>walk_at "fact_");(case l=>exact rfl)) | ((with_reducible refine' g_rflds (f:="closing") (C:=Ad.Seller _) ?h (Txt.cl_Seller (by assumption)) (Txt.no_Seller_closing (by assumption)) ?l ?e ?_);(case h=>walk_at "fact_");(case l=>exact Nat.le_of_ble_eq_true rfl);(case e=>exact rfl);intro _ _ _) | ((with_reducible refine' g_rflda (f:="closing") (C:=Ad.Seller _) ?h (Txt.cl_Seller (by assumption)) (Txt.no_Seller_closing (by assumption)) ?l ?_);(case h=>walk_at "fact_");(case l=>exact rfl)) | ((with_reducible refine' g_rfld (f:="asked") (C:=Ad.Seller _) ?h (Txt.cl_Seller (by assumption)) (Txt.no_Seller_asked (by assumption)) ?l ?_);(case h=>walk_at "fact_");(case l=>exact rfl)) | ((with_reducible refine' g_rflds (f:="asked") (C:=Ad.Seller _) ?h (Txt.cl_Seller (by assumption)) (Txt.no_Seller_asked (by assumption)) ?l ?e ?_);(case h=>walk_at "fact_");(case l=>exact Nat.le_of_ble_eq_true rfl);(case e=>exact rfl);intro _ _ _) | ((with_reducible refine' g_rflda (f:="asked") (C:=Ad.Seller _) ?h (Txt.cl_Seller (by assumption)) (Txt.no_Seller_asked (by assumption)) ?l ?_);(case h=>walk_at "fact_");(case l=>exact rfl)))
local macro_rules | `(tactic| walk_at "own_")=>`(tactic| first | ((with_reducible refine' g_rfld (f:="vouchers") (C:=Ad.Seller _) ?h (Txt.cl_Seller (by assumption)) (Txt.no_Seller_vouchers (by assumption)) ?l ?_);(case h=>walk_at "fact_");(case l=>exact rfl)) | ((with_reducible refine' g_rflds (f:="vouchers") (C:=Ad.Seller _) ?h (Txt.cl_Seller (by assumption)) (Txt.no_Seller_vouchers (by assumption)) ?l ?e ?_);(case h=>walk_at "fact_");(case l=>exact Nat.le_of_ble_eq_true rfl);(case e=>exact rfl);intro _ _ _) | ((with_reducible refine' g_rflda (f:="vouchers") (C:=Ad.Seller _) ?h (Txt.cl_Seller (by assumption)) (Txt.no_Seller_vouchers (by assumption)) ?l ?_);(case h=>walk_at "fact_");(case l=>exact rfl)) | ((with_reducible refine' g_rfld (f:="book") (C:=Ad.Seller _) ?h (Txt.cl_Seller (by assumption)) (Txt.no_Seller_book (by assumption)) ?l ?_);(case h=>walk_at "fact_");(case l=>exact rfl)) | ((with_reducible refine' g_rflds (f:="book") (C:=Ad.Seller _) ?h (Txt.cl_Seller (by assumption)) (Txt.no_Seller_book (by assumption)) ?l ?e ?_);(case h=>walk_at "fact_");(case l=>exact Nat.le_of_ble_eq_true rfl);(case e=>exact rfl);intro _ _ _) | ((with_reducible refine' g_rflda (f:="book") (C:=Ad.Seller _) ?h (Txt.cl_Seller (by assumption)) (Txt.no_Seller_book (by assumption)) ?l ?_);(case h=>walk_at "fact_");(case l=>exact rfl)))
local macro_rules | `(tactic| walk_at "own_")=>`(tactic| first | ((with_reducible refine' g_rfld (f:="number") (C:=Ad.Seller _) ?h (Txt.cl_Seller (by assumption)) (Txt.no_Seller_number (by assumption)) ?l ?_);(case h=>walk_at "fact_");(case l=>exact rfl)) | ((with_reducible refine' g_rflds (f:="number") (C:=Ad.Seller _) ?h (Txt.cl_Seller (by assumption)) (Txt.no_Seller_number (by assumption)) ?l ?e ?_);(case h=>walk_at "fact_");(case l=>exact Nat.le_of_ble_eq_true rfl);(case e=>exact rfl);intro _ _ _) | ((with_reducible refine' g_rflda (f:="number") (C:=Ad.Seller _) ?h (Txt.cl_Seller (by assumption)) (Txt.no_Seller_number (by assumption)) ?l ?_);(case h=>walk_at "fact_");(case l=>exact rfl)) | ((with_reducible refine' g_rfld (f:="free") (C:=Ad.Seller _) ?h (Txt.cl_Seller (by assumption)) (Txt.no_Seller_free (by assumption)) ?l ?_);(case h=>walk_at "fact_");(case l=>exact rfl)) | ((with_reducible refine' g_rflds (f:="free") (C:=Ad.Seller _) ?h (Txt.cl_Seller (by assumption)) (Txt.no_Seller_free (by assumption)) ?l ?e ?_);(case h=>walk_at "fact_");(case l=>exact Nat.le_of_ble_eq_true rfl);(case e=>exact rfl);intro _ _ _) | ((with_reducible refine' g_rflda (f:="free") (C:=Ad.Seller _) ?h (Txt.cl_Seller (by assumption)) (Txt.no_Seller_free (by assumption)) ?l ?_);(case h=>walk_at "fact_");(case l=>exact rfl)))
local macro_rules | `(tactic| walk_at "own_")=>`(tactic| first | ((with_reducible refine' g_rfld (f:="kept") (C:=Ad.Book _) ?h (Txt.cl_Book (by assumption)) (Txt.no_Book_kept (by assumption)) ?l ?_);(case h=>walk_at "fact_");(case l=>exact rfl)) | ((with_reducible refine' g_rflds (f:="kept") (C:=Ad.Book _) ?h (Txt.cl_Book (by assumption)) (Txt.no_Book_kept (by assumption)) ?l ?e ?_);(case h=>walk_at "fact_");(case l=>exact Nat.le_of_ble_eq_true rfl);(case e=>exact rfl);intro _ _ _) | ((with_reducible refine' g_rflda (f:="kept") (C:=Ad.Book _) ?h (Txt.cl_Book (by assumption)) (Txt.no_Book_kept (by assumption)) ?l ?_);(case h=>walk_at "fact_");(case l=>exact rfl)) | ((with_reducible refine' g_rfld (f:="setup") (C:=Ad.Seller _) ?h (Txt.cl_Seller (by assumption)) (Txt.no_Seller_setup (by assumption)) ?l ?_);(case h=>walk_at "fact_");(case l=>exact rfl)) | ((with_reducible refine' g_rflds (f:="setup") (C:=Ad.Seller _) ?h (Txt.cl_Seller (by assumption)) (Txt.no_Seller_setup (by assumption)) ?l ?e ?_);(case h=>walk_at "fact_");(case l=>exact Nat.le_of_ble_eq_true rfl);(case e=>exact rfl);intro _ _ _) | ((with_reducible refine' g_rflda (f:="setup") (C:=Ad.Seller _) ?h (Txt.cl_Seller (by assumption)) (Txt.no_Seller_setup (by assumption)) ?l ?_);(case h=>walk_at "fact_");(case l=>exact rfl)))
local macro_rules | `(tactic| walk_at "own_")=>`(tactic| first | ((with_reducible refine' g_rfld (f:="rooms") (C:=Ad.Book _) ?h (Txt.cl_Book (by assumption)) (Txt.no_Book_rooms (by assumption)) ?l ?_);(case h=>walk_at "fact_");(case l=>exact rfl)) | ((with_reducible refine' g_rflds (f:="rooms") (C:=Ad.Book _) ?h (Txt.cl_Book (by assumption)) (Txt.no_Book_rooms (by assumption)) ?l ?e ?_);(case h=>walk_at "fact_");(case l=>exact Nat.le_of_ble_eq_true rfl);(case e=>exact rfl);intro _ _ _) | ((with_reducible refine' g_rflda (f:="rooms") (C:=Ad.Book _) ?h (Txt.cl_Book (by assumption)) (Txt.no_Book_rooms (by assumption)) ?l ?_);(case h=>walk_at "fact_");(case l=>exact rfl)) | ((with_reducible refine' g_rfld (f:="nights") (C:=Ad.Book _) ?h (Txt.cl_Book (by assumption)) (Txt.no_Book_nights (by assumption)) ?l ?_);(case h=>walk_at "fact_");(case l=>exact rfl)) | ((with_reducible refine' g_rflds (f:="nights") (C:=Ad.Book _) ?h (Txt.cl_Book (by assumption)) (Txt.no_Book_nights (by assumption)) ?l ?e ?_);(case h=>walk_at "fact_");(case l=>exact Nat.le_of_ble_eq_true rfl);(case e=>exact rfl);intro _ _ _) | ((with_reducible refine' g_rflda (f:="nights") (C:=Ad.Book _) ?h (Txt.cl_Book (by assumption)) (Txt.no_Book_nights (by assumption)) ?l ?_);(case h=>walk_at "fact_");(case l=>exact rfl)))
local macro_rules | `(tactic| walk_at "own")=>`(tactic| first | walk_at "own_" | fail)
local macro_rules | `(tactic| walk_at "12")=>`(tactic| ((with_reducible refine' g_ri1 ?h ?_);(first | (case h=>(first | exact ⟨by decide,by decide⟩ | exact ⟨by omega,by omega⟩ | exact ⟨by simp only [List.length_map];omega,by simp only [List.length_map];omega⟩)) | fail)))
local macro_rules | `(tactic| walk_at "11")=>`(tactic| ((with_reducible refine' g_mul ?h ?_);(first | (case h=>(first | exact Or.inr ⟨by decide,by decide⟩ | exact Or.inl ⟨by decide,by decide⟩ | exact Or.inr ⟨by omega,by omega⟩ | exact Or.inl ⟨by omega,by omega⟩ | assumption)) | fail)))
local macro_rules | `(tactic| walk_at "10")=>`(tactic| ((with_reducible refine' j_fv (f:="stock") (C:=Ad.House _) ?k ?h (Txt.cl_House (by assumption)) (Txt.no_House_stock (by assumption)) ?l ?_);(case k=>exact rfl);(case h=>walk_at "fact");(case l=>exact rfl)))
local macro_rules | `(tactic| walk_at "9")=>`(tactic| ((with_reducible refine' j_fv (f:="free") (C:=Ad.Seller _) ?k ?h (Txt.cl_Seller (by assumption)) (Txt.no_Seller_free (by assumption)) ?l ?_);(case k=>exact rfl);(case h=>walk_at "fact");(case l=>exact rfl)))
local macro_rules | `(tactic| walk_at "8")=>`(tactic| ((with_reducible refine' g_append ?h ?l ?_);(case h=>walk_at "fact");(case l=>walk_at "sz");intro _ _ _))
local macro_rules | `(tactic| walk_at "7")=>`(tactic| ((with_reducible refine' g_isi ?h ?k ?_);(case h=>walk_at "ty");(case k=>walk_at "kb")))
local macro_rules | `(tactic| walk_at "6")=>`(tactic| ((with_reducible refine' j_mv ?h ?k ?l ?_);(case h=>exact rfl);(case k=>walk_at "fact");(case l=>exact rfl)))
local macro_rules | `(tactic| walk_at "5")=>`(tactic| ((with_reducible refine' g_newT ?h ?_);(case h=>exact Nat.le_of_ble_eq_true rfl);walk_at "new"))
local macro_rules | `(tactic| walk_at "4")=>`(tactic| ((with_reducible refine' j_ovc ?h ?_);(case h=>exact rfl)))
local macro_rules | `(tactic| walk_at "3")=>`(tactic| ((with_reducible refine' j_ix ?h ?k ?l ?_);(case h=>exact rfl);(case k=>walk_at "sqt");(case l=>exact rfl)))
local macro_rules | `(tactic| walk_at "2")=>`(tactic| ((with_reducible refine' j_cv1 ?h ?_);(case h=>exact rfl)))
local macro_rules | `(tactic| walk_at "1")=>`(tactic| ((with_reducible refine' j_cv ?h ?_);(case h=>exact rfl)))
local macro_rules | `(tactic| walk_at "0")=>`(tactic| ((with_reducible refine' g_var ?h ?_);(case h=>exact rfl)))
section
variable {P:Program} {w:World} {K:PySem.W.Frag} {mg:Str→Option Value} {base:Heap} {A:Ad}
def P_Lmixed (K:PySem.W.Frag) (A:Ad) (x0 x1:V) (H:Hp) (Q:VK) : Prop:=∃ a b:Int,x0=.int a∧x1=.int b∧∀ n:Int,0≤n→n < 2147483647→Q (.int n) H
def sp_Lmixed (K:PySem.W.Frag) (A:Ad) : Sp:=fun vs H Q _=>∃ x0 x1,vs=[x0,x1]∧P_Lmixed K A x0 x1 H Q
theorem c_Lmixed {K:PySem.W.Frag} {A:Ad} {x0 x1:V} {H:Hp} {Q:VK} {E:XK} (h:P_Lmixed K A x0 x1 H Q) : sp_Lmixed K A [x0,x1] H Q E:=⟨_,_,rfl,h⟩
theorem sc_Lmixed:FnScope ["_law_number","_law_k","_law_step"] ["_law_number","_law_k"] (defScope s_Lmixed):=⟨rfl,rfl,rfl,by decide +kernel,rfl,by decide +kernel,by decide +kernel⟩
def t_Lmixed (K:PySem.W.Frag) (A:Ad) : TS:=
  (tSeq (tAsg (tOp oMod (tOp oAdd (tOp oAdd (tOp oMul (tVar 0) (tC (.int 48271))) (tOp oMul (tVar 1) (tC (.int 69621)))) (tC (.int 12345))) (tC (.int 2147483647))) (gName 2))
    (tRet (tOp oMod (tOp oAdd (tOp oMul (tVar 2) (tOp oAdd (tOp oDiv (tVar 2) (tC (.int 65536))) (tC (.int 3)))) (tVar 1)) (tC (.int 2147483647)))))
theorem pu_Lmixed (T:Txt K mg A) {x0 x1:V} {H:Hp} {Q:VK} (h:P_Lmixed K A x0 x1 H Q) : t_Lmixed K A { nx:=fun _ H'=>Q .non H',rt:=Q } [some x0,some x1,none] H:=by
  obtain ⟨a,b,rfl,rfl,k⟩:=h
  unfold t_Lmixed
  ((with_reducible refine j_sa (g_op (g_op (g_op ?_))));walk_at "4";walk_at "11";walk_at "4";walk_at "11";(with_reducible refine g_add (g_c (g_add (g_c ?_))));(with_reducible refine' g_mod ?h2 ?_);(first | (case h2=>(first | decide | omega | assumption | (simp only [List.length_map];omega))) | fail);(with_reducible refine g_name (g_ret (g_op (g_op ?_))));(with_reducible refine' j_ov ?h4 ?_);(case h4=>exact rfl);(with_reducible refine g_op ?_);walk_at "4";(with_reducible refine' g_div ?h6 ?_);(first | (case h6=>(first | exact ⟨by decide,by decide⟩ | assumption)) | fail);(with_reducible refine g_c (g_add ?_));walk_at "11";walk_at "0";(with_reducible refine g_add (g_c ?_));(with_reducible refine' g_mod ?h9 ?_);(first | (case h9=>(first | decide | omega | assumption | (simp only [List.length_map];omega))) | fail))
  exact k _ (Int.emod_nonneg _ (by decide)) (Int.emod_lt_of_pos _ (by decide))
theorem ok_Lmixed {f:Addr} {fd:FuncData} (F:Fun K "_law_mixed" "_law_mixed" s_Lmixed f fd) (T:Txt K mg A)  : FnOk P w K mg base CX0 (1) f fd ["_law_number","_law_k"] (sp_Lmixed K A):=by
  refine F.ok sc_Lmixed (fun vs H Q E h=>?_) (fun cdv Ar outer s H vs Q E hr h=>⟨t_Lmixed K A,?_,?_⟩)
  · obtain ⟨x0,x1,rfl,_⟩:=h
    rfl
  · have hu:=hu_of hr
    exact (pss_cons (ps_set (i:=2) sc_Lmixed.nd rfl (Or.inl rfl) (pe_op o_mod (pe_op o_add (pe_op o_add (pe_op o_mul (pv 0) pe_int) (pe_op o_mul (pv 1) pe_int)) pe_int) pe_int))
    (pss_one (ps_ret (pe_op o_mod (pe_op o_add (pe_op o_mul (pv 2) (pe_op o_add (pe_op o_div (pv 2) pe_int) pe_int)) (pv 1)) pe_int))))
  · obtain ⟨x0,x1,rfl,h⟩:=h
    exact pu_Lmixed T h
def Sml (ms:List Int) : Prop:=∀ m∈ms,0≤m∧m < 1000000
theorem Sml.snoc {ms:List Int} (h:Sml ms) (z:Int) : Sml (ms++[z % 1000000]):=fun m hm=>by
  rcases List.mem_append.mp hm with q | q
  · exact h m q
  · rw [List.mem_singleton.mp q];exact ⟨Int.emod_nonneg _ (by decide),Int.emod_lt_of_pos _ (by decide)⟩
def P_Lnumbers (K:PySem.W.Frag) (A:Ad) (x0:V) (H:Hp) (Q:VK) : Prop:=∃ (a:Addr) (ns:List Int),x0=.ref a∧SqL K H a (ns.map V.int)∧ns.length≤63∧
  ∀ (l:Addr) (ms:List Int) (H':Hp),H l=none→Fr [] H H'→H' l=some (.lst (ms.map V.int))→Sml ms→ms.length≤10000→Q (.ref l) H'
def sp_Lnumbers (K:PySem.W.Frag) (A:Ad) : Sp:=fun vs H Q _=>∃ x0,vs=[x0]∧P_Lnumbers K A x0 H Q
theorem c_Lnumbers {K:PySem.W.Frag} {A:Ad} {x0:V} {H:Hp} {Q:VK} {E:XK} (h:P_Lnumbers K A x0 H Q) : sp_Lnumbers K A [x0] H Q E:=⟨_,rfl,h⟩
theorem sc_Lnumbers:FnScope ["_law_script","_law_numbers_here","_law_cell","_law_rest","_law_k"] ["_law_script"] (defScope s_Lnumbers):=⟨rfl,rfl,rfl,by decide +kernel,rfl,by decide +kernel,by decide +kernel⟩
def t_Lnumbers (K:PySem.W.Frag) (A:Ad) : TS:=
  (tSeq (tAsg (tLst tNil) (gName 1))
    (tSeq (tFor (iList K (tVar 0)) (gName 2) (tIfS (tTest (tOp cGe (tVar 2) (tOp oPow (tC (.int 10)) (tC (.int 18))))) (tSeq (tAsg (tVar 2) (gName 3))
    (tFor (iRng1 (tCons (tC (.int 60)) tNil)) (gName 4) (tIfS (tTest (tOp cGt (tVar 3) (tC (.int 0)))) (tSeq (tDrop (tBM K "list" rAppend (tVar 1) (tCons (tOp oMod (tVar 3) (tC (.int 1000000))) tNil)))
    (tAsg (tOp oDiv (tVar 3) (tC (.int 1000000))) (gName 3))) tNext))) (tSeq (tDrop (tBM K "list" rAppend (tVar 1) (tCons (tOp oMod (tVar 2) (tC (.int 1000000))) tNil)))
    (tFor (iRng1 (tCons (tC (.int 5)) tNil)) (gName 4) (tDrop (tBM K "list" rAppend (tVar 1) (tCons (tOp oMod (tCl (sp_Lmixed K A) (tCons (tCl (sp_Lmixed K A) (tCons (tOp oMod (tVar 2) (tC (.int 2147483647))) (tCons (tVar 4) tNil))) (tCons (tOp oAdd (tVar 4) (tC (.int 7))) tNil))) (tC (.int 1000000))) tNil)))))))
    (tRet (tVar 1))))
theorem pu_Lnumbers (T:Txt K mg A) {x0:V} {H:Hp} {Q:VK} (h:P_Lnumbers K A x0 H Q) : t_Lnumbers K A { nx:=fun _ H'=>Q .non H',rt:=Q } [some x0,none,none,none,none] H:=by
  obtain ⟨a,ns,rfl,hS,hl,k⟩:=h
  unfold t_Lnumbers
  ((with_reducible refine j_sa (g_lst (g_nil ?_)));(with_reducible refine' g_newL ?h11 ?_);(case h11=>exact Nat.le_of_ble_eq_true rfl);walk_at "new";(with_reducible refine g_name (g_seq (g_for (g_iL ?_))));walk_at "0";(with_reducible refine' g_riL ?h13 ?_);(case h13=>walk_at "sql"))
  rename_i l H0 nl f0 e0
  refine f_list (xs:=ns.map V.int) (fun i σ H'=>∃ (ms:List Int) (v1 v2 v3:Option V),σ=[some (.ref a),some (.ref l),v1,v2,v3]∧Fr [] H H'∧H' l=some (.lst (ms.map V.int))∧Sml ms∧ms.length≤60 * i)
    ⟨[],none,none,none,rfl,f0,e0,fun _ q=>(nomatch q),Nat.zero_le _⟩ ?_ ?_ ?_
  · rintro i σ H' _ ⟨ms,v1,v2,v3,rfl,f,e,s,hm⟩
    exact f.sql hS nin0
  · rintro i x σ H1 hx ⟨ms,v1,v2,v3,rfl,f1,e1,s1,hm⟩
    obtain ⟨n,rfl,hn,hmem⟩:=getI hx
    have hi : i < 63:=Nat.lt_of_lt_of_le ((List.getElem?_eq_some_iff.mp hn).1) hl
    ((with_reducible refine g_name (j_it ?_));(with_reducible refine' j_ov ?h15 ?_);(case h15=>exact rfl);(with_reducible refine g_op (g_c (g_c ?_)));(with_reducible refine' g_pow ?h17 ?_);(first | (case h17=>(first | exact ⟨by decide,by decide,by decide⟩ | assumption)) | fail);(with_reducible refine g_ge (g_bl ?_)))
    refine g_ite (fun c=>?_) (fun c=>?_)
    · ((with_reducible refine j_sa ?_);walk_at "0";(with_reducible refine g_name (g_for (g_i1 (j_cc1 ?_))));walk_at "12")
      refine f_range (lo:=0) (n:=60) (fun j σ H'=>∃ (ms:List Int) (r:Int) (v3:Option V),σ=[some (.ref a),some (.ref l),some (.int n),some (.int r),v3]∧Fr [] H H'∧H' l=some (.lst (ms.map V.int))∧Sml ms∧ms.length≤60 * i + j)
        ⟨ms,n,v3,rfl,f1,e1,s1,by omega⟩ ?_ ?_
      · rintro j σ H2 hj ⟨ms2,r,v3,rfl,f2,e2,s2,hm2⟩
        ((with_reducible refine g_name (j_it ?_));walk_at "4";(with_reducible refine g_gt (g_bl ?_)))
        refine g_ite (fun c=>?_) (fun c=>?_)
        · ((with_reducible refine j_sd (g_bm ?_));walk_at "0";(with_reducible refine' g_bmL ?h24 ?_);(case h24=>walk_at "fact");(with_reducible refine g_cons ?_);walk_at "4";(with_reducible refine' g_mod ?h26 ?_);(first | (case h26=>(first | decide | omega | assumption | (simp only [List.length_map];omega))) | fail);(with_reducible refine g_nil ?_);walk_at "8";(with_reducible refine g_asg ?_);walk_at "4";(with_reducible refine' g_div ?h29 ?_);(first | (case h29=>(first | exact ⟨by decide,by decide⟩ | assumption)) | fail);(with_reducible refine g_name ?_))
          rename_i H3 f3 e3
          exact ⟨ms2++[r % 1000000],_,_,rfl,f2.own1 f3 nl,by rw [e3,List.map_append] <;> rfl,s2.snoc r,by rw [List.length_append];exact Nat.add_le_add_right hm2 1⟩
        · ((with_reducible refine g_next ?_))
          exact ⟨ms2,_,_,rfl,f2,e2,s2,by omega⟩
      · rintro σ H2 ⟨ms2,r,v3,rfl,f2,e2,s2,hm2⟩
        exact ⟨ms2,_,_,_,rfl,f2,e2,s2,by omega⟩
    · ((with_reducible refine j_sd (g_bm ?_));walk_at "0";(with_reducible refine' g_bmL ?h33 ?_);(case h33=>walk_at "fact");(with_reducible refine g_cons ?_);walk_at "4";(with_reducible refine' g_mod ?h35 ?_);(first | (case h35=>(first | decide | omega | assumption | (simp only [List.length_map];omega))) | fail);(with_reducible refine g_nil ?_);walk_at "8";(with_reducible refine g_for (g_i1 (j_cc1 ?_)));walk_at "12")
      rename_i H3 f3 e3
      refine f_range (lo:=0) (n:=5) (fun j σ H'=>∃ (ms:List Int) (v2 v3:Option V),σ=[some (.ref a),some (.ref l),some (.int n),v2,v3]∧Fr [] H H'∧H' l=some (.lst (ms.map V.int))∧Sml ms∧ms.length≤60 * i + 1 + j)
        ⟨ms++[n % 1000000],v2,v3,rfl,f1.own1 f3 nl,by rw [e3,List.map_append] <;> rfl,s1.snoc n,by rw [List.length_append];exact Nat.add_le_add_right hm 1⟩ ?_ ?_
      · rintro j σ H4 hj ⟨ms2,v2,v3,rfl,f4,e4,s4,hm4⟩
        ((with_reducible refine g_name (g_drop (g_bm ?_)));walk_at "0";(with_reducible refine' g_bmL ?h39 ?_);(case h39=>walk_at "fact");(with_reducible refine g_cons (g_op (g_cl (g_cons (g_cl (g_cons ?_))))));walk_at "4";(with_reducible refine' g_mod ?h41 ?_);(first | (case h41=>(first | decide | omega | assumption | (simp only [List.length_map];omega))) | fail);walk_at "2")
        refine c_Lmixed ⟨_,_,rfl,rfl,fun z _ _=>?_⟩
        ((with_reducible refine g_cons ?_);walk_at "4";(with_reducible refine g_add (g_nil ?_)))
        refine c_Lmixed ⟨_,_,rfl,rfl,fun z2 _ _=>?_⟩
        ((with_reducible refine g_c ?_);(with_reducible refine' g_mod ?h45 ?_);(first | (case h45=>(first | decide | omega | assumption | (simp only [List.length_map];omega))) | fail);(with_reducible refine g_nil ?_);walk_at "8")
        rename_i H5 f5 e5
        exact ⟨ms2++[z2 % 1000000],_,_,rfl,f4.own1 f5 nl,by rw [e5,List.map_append] <;> rfl,s4.snoc z2,by rw [List.length_append];exact Nat.add_le_add_right hm4 1⟩
      · rintro σ H4 ⟨ms2,v2,v3,rfl,f4,e4,s4,hm4⟩
        exact ⟨ms2,_,_,_,rfl,f4,e4,s4,by omega⟩
  · rintro σ H1 ⟨ms,v1,v2,v3,rfl,f1,e1,s1,hm⟩
    ((with_reducible refine g_ret ?_);walk_at "0")
    rw [List.length_map] at hm
    exact k l ms H1 nl f1 e1 s1 (by omega)
theorem ok_Lnumbers {f:Addr} {fd:FuncData} (F:Fun K "_law_numbers" "_law_numbers" s_Lnumbers f fd) (T:Txt K mg A) (c_Lmixed:Cal P w K mg base "_law_mixed" 1 ["_law_number","_law_k"] (sp_Lmixed K A)) : FnOk P w K mg base CX0 (2) f fd ["_law_script"] (sp_Lnumbers K A):=by
  refine F.ok sc_Lnumbers (fun vs H Q E h=>?_) (fun cdv Ar outer s H vs Q E hr h=>⟨t_Lnumbers K A,?_,?_⟩)
  · obtain ⟨x0,rfl,_⟩:=h
    rfl
  · have hu:=hu_of hr
    exact (pss_cons (ps_set (i:=1) sc_Lnumbers.nd rfl (Or.inl rfl) (pe_lst pa_nil))
    (pss_cons (ps_for PassesOwn.never rfl (pi_list (pv 0)) (pg_name (i:=2) sc_Lnumbers.nd rfl (Or.inl rfl)) (pss_one (ps_if (pt_cmpR c_ge (pv 2) (pe_op o_pow pe_int pe_int) (nomark _)) (pss_cons (ps_set (i:=3) sc_Lnumbers.nd rfl (Or.inl rfl) (pv 2))
    (pss_one (ps_for PassesOwn.never rfl (pi_range1 rfl T.b_range (pa_cons pe_int pa_nil)) (pg_name (i:=4) sc_Lnumbers.nd rfl (Or.inl rfl)) (pss_one (ps_if (pt_cmpR c_gt (pv 3) pe_int (nomark _)) (pss_cons (ps_expr (pe_bm PySem.F.plainAttrs_list PySem.F.slot_list_append PySem.F.type_list_append mt_append (pv 1) (pa_cons (pe_op o_mod (pv 3) pe_int) pa_nil)))
    (pss_one (ps_set (i:=3) sc_Lnumbers.nd rfl (Or.inl rfl) (pe_op o_div (pv 3) pe_int)))) pss_nil))))) (pss_cons (ps_expr (pe_bm PySem.F.plainAttrs_list PySem.F.slot_list_append PySem.F.type_list_append mt_append (pv 1) (pa_cons (pe_op o_mod (pv 2) pe_int) pa_nil)))
    (pss_one (ps_for PassesOwn.never rfl (pi_range1 rfl T.b_range (pa_cons pe_int pa_nil)) (pg_name (i:=4) sc_Lnumbers.nd rfl (Or.inl rfl)) (pss_one (ps_expr (pe_bm PySem.F.plainAttrs_list PySem.F.slot_list_append PySem.F.type_list_append mt_append (pv 1) (pa_cons (pe_op o_mod (pe_cl c_Lmixed (hr.mono (by first | decide | omega)) (by rfl) (pa_cons (pe_cl c_Lmixed (hr.mono (by first | decide | omega)) (by rfl) (pa_cons (pe_op o_mod (pv 2) pe_int) (pa_cons (pv 4) pa_nil))) (pa_cons (pe_op o_add (pv 4) pe_int) pa_nil))) pe_int) pa_nil))))))))))
    (pss_one (ps_ret (pv 1)))))
  · obtain ⟨x0,rfl,h⟩:=h
    exact pu_Lnumbers T h
def Draws (H:Hp) (d l:Addr) : Prop:=∃ (ms:List Int) (k:Int),H d=some (.lst [.ref l,.int k])∧H l=some (.lst (ms.map V.int))∧Sml ms∧ms.length≤10000∧0≤k
theorem Draws.fr {H H':Hp} {d l:Addr} {m:List Addr} (h:Draws H d l) (f:Fr m H H') (n1 : d∉m) (n2 : l∉m) : Draws H' d l:=by
  obtain ⟨ms,k,h1,h2,h3⟩:=h
  exact ⟨ms,k,f.at h1 n1,f.at h2 n2,h3⟩
def P_Ldraw (K:PySem.W.Frag) (A:Ad) (x0:V) (H:Hp) (Q:VK) : Prop:=∃ (d l:Addr),x0=.ref d∧Draws H d l∧
  ∀ (n:Int) (H':Hp),0≤n→n < 1000000→Fr [d] H H'→Draws H' d l→Q (.int n) H'
def sp_Ldraw (K:PySem.W.Frag) (A:Ad) : Sp:=fun vs H Q _=>∃ x0,vs=[x0]∧P_Ldraw K A x0 H Q
theorem c_Ldraw {K:PySem.W.Frag} {A:Ad} {x0:V} {H:Hp} {Q:VK} {E:XK} (h:P_Ldraw K A x0 H Q) : sp_Ldraw K A [x0] H Q E:=⟨_,rfl,h⟩
theorem sc_Ldraw:FnScope ["_law_draws","_law_at","_law_first"] ["_law_draws"] (defScope s_Ldraw):=⟨rfl,rfl,rfl,by decide +kernel,rfl,by decide +kernel,by decide +kernel⟩
def t_Ldraw (K:PySem.W.Frag) (A:Ad) : TS:=
  (tSeq (tAsg (tOp (rIxL K) (tVar 0) (tC (.int 1))) (gName 1))
    (tSeq (tAsg (tOp oAdd (tVar 1) (tC (.int 1))) (gSub (tVar 0) (tC (.int 1)) rSetL))
    (tSeq (tIfS (tTest (tOp cLt (tVar 1) (tCB (rLenSq K) (tCons (tOp (rIxL K) (tVar 0) (tC (.int 0))) tNil)))) (tRet (tOp (rIxL K) (tOp (rIxL K) (tVar 0) (tC (.int 0))) (tVar 1))) tNext)
    (tSeq (tAsg (tOp oAdd (tC (.int 1)) (tVar 1)) (gName 2))
    (tSeq (tIfS (tTest (tOp cGt (tCB (rLenSq K) (tCons (tOp (rIxL K) (tVar 0) (tC (.int 0))) tNil)) (tC (.int 0)))) (tAsg (tOp oAdd (tVar 2) (tOp oMul (tC (.int 1009)) (tOp (rIxL K) (tOp (rIxL K) (tVar 0) (tC (.int 0))) (tC (.int 0))))) (gName 2)) tNext)
    (tRet (tOp oMod (tCl (sp_Lmixed K A) (tCons (tCl (sp_Lmixed K A) (tCons (tVar 2) (tCons (tVar 1) tNil))) (tCons (tC (.int 5)) tNil))) (tC (.int 1000000)))))))))
theorem pu_Ldraw (T:Txt K mg A) {x0:V} {H:Hp} {Q:VK} (h:P_Ldraw K A x0 H Q) : t_Ldraw K A { nx:=fun _ H'=>Q .non H',rt:=Q } [some x0,none,none] H:=by
  obtain ⟨d,l,rfl,⟨ms,k,hd,hL,sm,hlen,hk⟩,q⟩:=h
  unfold t_Ldraw
  ((with_reducible refine j_sa ?_);walk_at "4";(with_reducible refine' g_ixL ?h49 ?k49 ?_);(case h49=>walk_at "sql");(case k49=>exact rfl);(with_reducible refine g_name (j_sa ?_));walk_at "4";(with_reducible refine g_add (g_sub1 ?_));walk_at "0";(with_reducible refine g_c ?_))
  refine g_setL hd (j:=1) rfl fun H1 f1 e1=>?_
  have nld : l≠d:=fun z=>by
    subst z
    rw [hd] at hL
    have e:=congrArg List.length (HO.lst.inj (Option.some.inj hL))
    cases ms with
    | nil=>cases e
    | cons a r=>cases HO.lst.inj (Option.some.inj hL)
  have hL1:H1 l=some (.lst (ms.map V.int)):=f1.at hL (nin1 nld nin0)
  have D1:Draws H1 d l:=⟨ms,k + 1,e1,hL1,sm,hlen,by omega⟩
  have e1':H1 d=some (.lst [.ref l,.int (k + 1)]):=e1
  ((with_reducible refine j_sit ?_);(with_reducible refine' j_ov ?h54 ?_);(case h54=>exact rfl);(with_reducible refine g_cb (g_cons ?_));walk_at "4";(with_reducible refine' g_ixL ?h56 ?k56 ?_);(case h56=>walk_at "sql");(case k56=>exact rfl);(with_reducible refine g_nil ?_);(with_reducible refine' g_lenL ?h58 ?_);(case h58=>walk_at "sql");(with_reducible refine g_lt (g_bl ?_)))
  rw [List.length_map]
  refine g_ite (fun c=>?_) (fun c=>?_)
  · ((with_reducible refine g_ret (g_op ?_));walk_at "4";(with_reducible refine' g_ixL ?h61 ?k61 ?_);(case h61=>walk_at "sql");(case k61=>exact rfl);walk_at "0")
    obtain ⟨v,hv,hv2⟩:=atI_of (xs:=ms.map V.int) hk (by rw [List.length_map];exact c)
    obtain ⟨n,rfl,_,hmem⟩:=getI hv2
    refine g_ixL (SqL.of hL1) hv ?_
    exact q n H1 (sm n hmem).1 (sm n hmem).2 f1 D1
  · have fin:∀ n:Int,Q (.int (n % 1000000)) H1:=fun n=>q _ H1 (Int.emod_nonneg _ (by decide)) (Int.emod_lt_of_pos _ (by decide)) f1 D1
    ((with_reducible refine g_next (j_sa (g_op (g_c ?_))));walk_at "0";(with_reducible refine g_add (g_name (j_sit (g_op (g_cb (g_cons ?_))))));walk_at "4";(with_reducible refine' g_ixL ?h64 ?k64 ?_);(case h64=>walk_at "sql");(case k64=>exact rfl);(with_reducible refine g_nil ?_);(with_reducible refine' g_lenL ?h66 ?_);(case h66=>walk_at "sql");(with_reducible refine g_c (g_gt (g_bl ?_))))
    rw [List.length_map]
    refine g_ite (fun c2=>?_) (fun c2=>?_)
    · ((with_reducible refine g_asg ?_);(with_reducible refine' j_ov ?h69 ?_);(case h69=>exact rfl);(with_reducible refine g_op (g_c (g_op ?_)));walk_at "4";(with_reducible refine' g_ixL ?h71 ?k71 ?_);(case h71=>walk_at "sql");(case k71=>exact rfl);(with_reducible refine g_c ?_))
      obtain ⟨v,hv,hv2⟩:=atI_of (xs:=ms.map V.int) (z:=0) (Int.le_refl _) (by rw [List.length_map];exact c2)
      obtain ⟨n,rfl,_,hmem⟩:=getI hv2
      refine g_ixL (SqL.of hL1) hv ?_
      (walk_at "11";(with_reducible refine g_add (g_name (g_ret (g_op (g_cl (g_cons (g_cl ?_)))))));walk_at "1";walk_at "2")
      refine c_Lmixed ⟨_,_,rfl,rfl,fun z _ _=>?_⟩
      ((with_reducible refine j_cc1 ?_))
      refine c_Lmixed ⟨_,_,rfl,rfl,fun z2 _ _=>?_⟩
      ((with_reducible refine g_c ?_);(with_reducible refine' g_mod ?h76 ?_);(first | (case h76=>(first | decide | omega | assumption | (simp only [List.length_map];omega))) | fail))
      exact fin z2
    · ((with_reducible refine g_next (g_ret (g_op (g_cl (g_cons (g_cl ?_))))));walk_at "1";walk_at "2")
      refine c_Lmixed ⟨_,_,rfl,rfl,fun z _ _=>?_⟩
      ((with_reducible refine j_cc1 ?_))
      refine c_Lmixed ⟨_,_,rfl,rfl,fun z2 _ _=>?_⟩
      ((with_reducible refine g_c ?_);(with_reducible refine' g_mod ?h80 ?_);(first | (case h80=>(first | decide | omega | assumption | (simp only [List.length_map];omega))) | fail))
      exact fin z2
theorem ok_Ldraw {f:Addr} {fd:FuncData} (F:Fun K "_law_draw" "_law_draw" s_Ldraw f fd) (T:Txt K mg A) (c_Lmixed:Cal P w K mg base "_law_mixed" 1 ["_law_number","_law_k"] (sp_Lmixed K A)) : FnOk P w K mg base CX0 (2) f fd ["_law_draws"] (sp_Ldraw K A):=by
  refine F.ok sc_Ldraw (fun vs H Q E h=>?_) (fun cdv Ar outer s H vs Q E hr h=>⟨t_Ldraw K A,?_,?_⟩)
  · obtain ⟨x0,rfl,_⟩:=h
    rfl
  · have hu:=hu_of hr
    exact (pss_cons (ps_set (i:=1) sc_Ldraw.nd rfl (Or.inl rfl) (pe_ix ix_list (pv 0) pe_int (fun _ _=>rfl)))
    (pss_cons (ps_asg (pe_op o_add (pv 1) pe_int) (pg_sub (pv 0) pe_int set_list))
    (pss_cons (ps_if (pt_cmpR c_lt (pv 1) (pe_callB b_len (by rfl) T.b_len (by decide +kernel) (pa_cons (pe_ix ix_list (pv 0) pe_int (fun _ _=>rfl)) pa_nil)) (nomark _)) (pss_one (ps_ret (pe_ix ix_list (pe_ix ix_list (pv 0) pe_int (fun _ _=>rfl)) (pv 1) (fun _ _=>rfl)))) pss_nil)
    (pss_cons (ps_set (i:=2) sc_Ldraw.nd rfl (Or.inl rfl) (pe_op o_add pe_int (pv 1)))
    (pss_cons (ps_if (pt_cmpR c_gt (pe_callB b_len (by rfl) T.b_len (by decide +kernel) (pa_cons (pe_ix ix_list (pv 0) pe_int (fun _ _=>rfl)) pa_nil)) pe_int (nomark _)) (pss_one (ps_set (i:=2) sc_Ldraw.nd rfl (Or.inl rfl) (pe_op o_add (pv 2) (pe_op o_mul pe_int (pe_ix ix_list (pe_ix ix_list (pv 0) pe_int (fun _ _=>rfl)) pe_int (fun _ _=>rfl)))))) pss_nil)
    (pss_one (ps_ret (pe_op o_mod (pe_cl c_Lmixed (hr.mono (by first | decide | omega)) (by rfl) (pa_cons (pe_cl c_Lmixed (hr.mono (by first | decide | omega)) (by rfl) (pa_cons (pv 2) (pa_cons (pv 1) pa_nil))) (pa_cons pe_int pa_nil))) pe_int))))))))
  · obtain ⟨x0,rfl,h⟩:=h
    exact pu_Ldraw T h
theorem Draws.new1 {H:Hp} {d l p:Addr} (h:Draws H d l) (e:H p=none) : d≠p:=by
  obtain ⟨ms,k,h1,h2,_⟩:=h
  exact ne_of_none h1 e
theorem Draws.new2 {H:Hp} {d l p:Addr} (h:Draws H d l) (e:H p=none) : l≠p:=by
  obtain ⟨ms,k,h1,h2,_⟩:=h
  exact ne_of_none h2 e
theorem Draws.ne {H:Hp} {d l p C dx:Addr} {fs:List (Str×V)} (h:Draws H d l) (e:H p=some (.ins C dx fs)) : d≠p∧l≠p:=by
  obtain ⟨ms,k,h1,h2,_⟩:=h
  exact ⟨ne_of h1 e (by intro z;cases z),ne_of h2 e (by intro z;cases z)⟩
theorem Draws.ne' {H:Hp} {d l p:Addr} {xs:List V} (h:Draws H d l) (e:H p=some (.lst xs)) (n : xs.length≠2) : d≠p:=by
  obtain ⟨ms,k,h1,h2,_⟩:=h
  exact ne_of h1 e (by intro z;cases z;exact n rfl)
local macro_rules | `(tactic| walk_at "drw_")=>`(tactic| first | assumption | ((refine' Draws.fr ?h (by assumption) ?k ?l);(first | (case h=>walk_at "drw_") | fail);(first | (case k=>walk_at "nin_") | fail);(first | (case l=>walk_at "nin_") | fail)))
local macro_rules | `(tactic| walk_at "drw")=>`(tactic| first | walk_at "drw_" | fail)
local macro_rules | `(tactic| walk_at "ne2_")=>`(tactic| first | exact Draws.new1 (by walk_at "drw") (by assumption) | exact Draws.new2 (by walk_at "drw") (by assumption) | exact Ne.symm (Draws.new1 (by walk_at "drw") (by assumption)) | exact Ne.symm (Draws.new2 (by walk_at "drw") (by assumption)))
local macro_rules | `(tactic| walk_at "ne2")=>`(tactic| first | walk_at "ne2_" | fail)
local macro_rules | `(tactic| walk_at "go3_")=>`(tactic| ((with_reducible show sp_Ldraw _ _ _ _ _ _);refine' c_Ldraw ⟨_,_,rfl,?D,?_⟩;(first | (case D=>walk_at "drw_") | fail);intro _ _ _ _ _ _))
local macro_rules | `(tactic| walk_at "go3")=>`(tactic| first | walk_at "go3_" | fail)
def SeqD (H:Hp) (x:V) (ds:List PyData) : Prop:=∃ (a:Addr) (xs:List V),x=.ref a∧(H a=some (.lst xs)∨H a=some (.tup xs))∧xs.length≤1000000∧DaL H xs ds
def P_Lequal (K:PySem.W.Frag) (A:Ad) (m:Nat) (x0 x1:V) (H:Hp) (Q:VK) : Prop:=∃ d:PyData,Da H x0 d∧Da H x1 d∧dp d≤m∧Q (.bl true) H
def P_Lall_equal (K:PySem.W.Frag) (A:Ad) (m:Nat) (x0 x1:V) (H:Hp) (Q:VK) : Prop:=∃ ds:List PyData,SeqD H x0 ds∧SeqD H x1 ds∧dpL ds + 1≤m∧Q (.bl true) H
def sp_Lequal (K:PySem.W.Frag) (A:Ad) (m:Nat) : Sp:=fun vs H Q _=>∃ x0 x1,vs=[x0,x1]∧P_Lequal K A m x0 x1 H Q
theorem c_Lequal {K:PySem.W.Frag} {A:Ad} {m:Nat} {x0 x1:V} {H:Hp} {Q:VK} {E:XK} (h:P_Lequal K A m x0 x1 H Q) : sp_Lequal K A m [x0,x1] H Q E:=⟨_,_,rfl,h⟩
def sp_Lall_equal (K:PySem.W.Frag) (A:Ad) (m:Nat) : Sp:=fun vs H Q _=>∃ x0 x1,vs=[x0,x1]∧P_Lall_equal K A m x0 x1 H Q
theorem c_Lall_equal {K:PySem.W.Frag} {A:Ad} {m:Nat} {x0 x1:V} {H:Hp} {Q:VK} {E:XK} (h:P_Lall_equal K A m x0 x1 H Q) : sp_Lall_equal K A m [x0,x1] H Q E:=⟨_,_,rfl,h⟩
theorem sc_Lequal:FnScope ["_law_actual","_law_due"] ["_law_actual","_law_due"] (defScope s_Lequal):=⟨rfl,rfl,rfl,by decide +kernel,rfl,by decide +kernel,by decide +kernel⟩
def t_Lequal (K:PySem.W.Frag) (A:Ad) (m:Nat) : TS:=
  (tSeq (tIfS (tB (tCB (rIsi K) (tCons (tVar 1) (tCons (tC (.ty "list")) tNil)))) (tSeq (tIfS (tOr (tNot (tB (tCB (rIsi K) (tCons (tVar 0) (tCons (tC (.ty "list")) tNil))))) (tTest (tOp rNe (tCB (rLenSq K) (tCons (tVar 0) tNil)) (tCB (rLenSq K) (tCons (tVar 1) tNil))))) (tRet (tC (.bl false))) tNext)
    (tRet (tCl (sp_Lall_equal K A m) (tCons (tVar 0) (tCons (tVar 1) tNil))))) tNext)
    (tSeq (tIfS (tB (tCB (rIsi K) (tCons (tVar 1) (tCons (tC (.ty "tuple")) tNil)))) (tSeq (tIfS (tOr (tNot (tB (tCB (rIsi K) (tCons (tVar 0) (tCons (tC (.ty "tuple")) tNil))))) (tTest (tOp rNe (tCB (rLenSq K) (tCons (tVar 0) tNil)) (tCB (rLenSq K) (tCons (tVar 1) tNil))))) (tRet (tC (.bl false))) tNext)
    (tRet (tCl (sp_Lall_equal K A m) (tCons (tVar 0) (tCons (tVar 1) tNil))))) tNext)
    (tSeq (tIfS (tB (tCB (rIsi K) (tCons (tVar 1) (tCons (tC (.ty "bool")) tNil)))) (tRet (tAndV (tCB (rIsi K) (tCons (tVar 0) (tCons (tC (.ty "bool")) tNil))) (tOp rEq (tVar 0) (tVar 1)))) tNext)
    (tSeq (tIfS (tB (tCB (rIsi K) (tCons (tVar 1) (tCons (tC (.ty "int")) tNil)))) (tRet (tAndV (tCB (rIsi K) (tCons (tVar 0) (tCons (tC (.ty "int")) tNil))) (tAndV (tNotV (tCB (rIsi K) (tCons (tVar 0) (tCons (tC (.ty "bool")) tNil)))) (tOp rEq (tVar 0) (tVar 1))))) tNext)
    (tSeq (tIfS (tB (tCB (rIsi K) (tCons (tVar 1) (tCons (tC (.ty "str")) tNil)))) (tRet (tAndV (tCB (rIsi K) (tCons (tVar 0) (tCons (tC (.ty "str")) tNil))) (tOp rEq (tVar 0) (tVar 1)))) tNext)
    (tRet (tOp rIsNon (tVar 0) (tC .non))))))))
theorem pu_Lequal (T:Txt K mg A) {m:Nat} {x0 x1:V} {H:Hp} {Q:VK} (h:P_Lequal K A m x0 x1 H Q) : t_Lequal K A m { nx:=fun _ H'=>Q .non H',rt:=Q } [some x0,some x1] H:=by
  obtain ⟨d,h0,h1,hm,q⟩:=h
  unfold t_Lequal
  cases h0 with
  | non=>
    cases h1
    ((with_reducible refine j_sitb (g_cb ?_));walk_at "1";(with_reducible refine j_cc1 ?_);walk_at "7";(with_reducible refine g_bl (g_iteF (g_next (j_sitb (g_cb ?_)))));walk_at "1";(with_reducible refine j_cc1 ?_);walk_at "7";(with_reducible refine g_bl (g_iteF (g_next (j_sitb (g_cb ?_)))));walk_at "1";(with_reducible refine j_cc1 ?_);walk_at "7";(with_reducible refine g_bl (g_iteF (g_next (j_sitb (g_cb ?_)))));walk_at "1";(with_reducible refine j_cc1 ?_);walk_at "7";(with_reducible refine g_bl (g_iteF (g_next (j_sitb (g_cb ?_)))));walk_at "1";(with_reducible refine j_cc1 ?_);walk_at "7";(with_reducible refine g_bl (g_iteF (g_next (g_ret ?_))));walk_at "4";(with_reducible refine g_isN ?_))
    exact q
  | bl b=>
    cases h1
    ((with_reducible refine j_sitb (g_cb ?_));walk_at "1";(with_reducible refine j_cc1 ?_);walk_at "7";(with_reducible refine g_bl (g_iteF (g_next (j_sitb (g_cb ?_)))));walk_at "1";(with_reducible refine j_cc1 ?_);walk_at "7";(with_reducible refine g_bl (g_iteF (g_next (j_sitb (g_cb ?_)))));walk_at "1";(with_reducible refine j_cc1 ?_);walk_at "7";(with_reducible refine g_bl (g_iteT (g_ret (g_andV (g_cb ?_)))));walk_at "1";(with_reducible refine j_cc1 ?_);walk_at "7";(with_reducible refine g_bl (g_iteT ?_));(with_reducible refine' j_ovv ?h102 ?k102 ?_);(case h102=>exact rfl);(case k102=>exact rfl);(with_reducible refine g_eqB ?_))
    simpa using q
  | int i=>
    cases h1
    ((with_reducible refine j_sitb (g_cb ?_));walk_at "1";(with_reducible refine j_cc1 ?_);walk_at "7";(with_reducible refine g_bl (g_iteF (g_next (j_sitb (g_cb ?_)))));walk_at "1";(with_reducible refine j_cc1 ?_);walk_at "7";(with_reducible refine g_bl (g_iteF (g_next (j_sitb (g_cb ?_)))));walk_at "1";(with_reducible refine j_cc1 ?_);walk_at "7";(with_reducible refine g_bl (g_iteF (g_next (j_sitb (g_cb ?_)))));walk_at "1";(with_reducible refine j_cc1 ?_);walk_at "7";(with_reducible refine g_bl (g_iteT (g_ret (g_andV (g_cb ?_)))));walk_at "1";(with_reducible refine j_cc1 ?_);walk_at "7";(with_reducible refine g_bl (g_iteT (g_andV (g_notV (g_cb ?_)))));walk_at "1";(with_reducible refine j_cc1 ?_);walk_at "7";(with_reducible refine g_bl (g_bl (g_iteNF ?_)));(with_reducible refine' j_ovv ?h117 ?k117 ?_);(case h117=>exact rfl);(case k117=>exact rfl);(with_reducible refine g_eqI ?_))
    simpa using q
  | str z=>
    cases h1
    ((with_reducible refine j_sitb (g_cb ?_));walk_at "1";(with_reducible refine j_cc1 ?_);walk_at "7";(with_reducible refine g_bl (g_iteF (g_next (j_sitb (g_cb ?_)))));walk_at "1";(with_reducible refine j_cc1 ?_);walk_at "7";(with_reducible refine g_bl (g_iteF (g_next (j_sitb (g_cb ?_)))));walk_at "1";(with_reducible refine j_cc1 ?_);walk_at "7";(with_reducible refine g_bl (g_iteF (g_next (j_sitb (g_cb ?_)))));walk_at "1";(with_reducible refine j_cc1 ?_);walk_at "7";(with_reducible refine g_bl (g_iteF (g_next (j_sitb (g_cb ?_)))));walk_at "1";(with_reducible refine j_cc1 ?_);walk_at "7";(with_reducible refine g_bl (g_iteT (g_ret (g_andV (g_cb ?_)))));walk_at "1";(with_reducible refine j_cc1 ?_);walk_at "7";(with_reducible refine g_bl (g_iteT ?_));(with_reducible refine' j_ovv ?h132 ?k132 ?_);(case h132=>exact rfl);(case k132=>exact rfl);(with_reducible refine g_eqS ?_))
    simpa using q
  | lst e0 z0 r0=>
    cases h1 with
    | lst e1 z1 r1=>
      ((with_reducible refine j_sitb (g_cb ?_));walk_at "1";(with_reducible refine j_cc1 ?_);walk_at "7";(with_reducible refine g_bl (g_iteT (j_si (g_or (g_not (g_tb (g_cb ?_)))))));walk_at "1";(with_reducible refine j_cc1 ?_);walk_at "7";(with_reducible refine g_bl (g_iteNT (g_test (g_op (g_cb ?_)))));walk_at "2";(with_reducible refine' g_lenL ?h139 ?_);(case h139=>walk_at "sql");(with_reducible refine g_cb ?_);walk_at "2";(with_reducible refine' g_lenL ?h141 ?_);(case h141=>walk_at "sql");(with_reducible refine g_neI (g_bl ?_)))
      refine g_iteN (fun c=>absurd (by rw [r0.len,r1.len]) c) (fun c=>?_)
      ((with_reducible refine g_next (g_ret (g_cl ?_)));walk_at "1";walk_at "2")
      refine c_Lall_equal ⟨_,⟨_,_,rfl,.inl e0,z0,r0⟩,⟨_,_,rfl,.inl e1,z1,r1⟩,?_,q⟩
      simpa [dp] using hm
  | tup e0 z0 r0=>
    cases h1 with
    | tup e1 z1 r1=>
      ((with_reducible refine j_sitb (g_cb ?_));walk_at "1";(with_reducible refine j_cc1 ?_);walk_at "7";(with_reducible refine g_bl (g_iteF (g_next (j_sitb (g_cb ?_)))));walk_at "1";(with_reducible refine j_cc1 ?_);walk_at "7";(with_reducible refine g_bl (g_iteT (j_si (g_or (g_not (g_tb (g_cb ?_)))))));walk_at "1";(with_reducible refine j_cc1 ?_);walk_at "7";(with_reducible refine g_bl (g_iteNT (g_test (g_op (g_cb ?_)))));walk_at "2";(with_reducible refine' g_lenT ?h151 ?_);(case h151=>walk_at "sqt");(with_reducible refine g_cb ?_);walk_at "2";(with_reducible refine' g_lenT ?h153 ?_);(case h153=>walk_at "sqt");(with_reducible refine g_neI (g_bl ?_)))
      refine g_iteN (fun c=>absurd (by rw [r0.len,r1.len]) c) (fun c=>?_)
      ((with_reducible refine g_next (g_ret (g_cl ?_)));walk_at "1";walk_at "2")
      refine c_Lall_equal ⟨_,⟨_,_,rfl,.inr e0,z0,r0⟩,⟨_,_,rfl,.inr e1,z1,r1⟩,?_,q⟩
      simpa [dp] using hm
theorem ok_Lequal {f:Addr} {fd:FuncData} (F:Fun K "_law_equal" "_law_equal" s_Lequal f fd) (T:Txt K mg A) {m:Nat} (c_Lall_equal:Cal P w K mg base "_law_all_equal" (2 * m) ["_law_actual","_law_due"] (sp_Lall_equal K A m)) : FnOk P w K mg base CX0 (2 * m + 1) f fd ["_law_actual","_law_due"] (sp_Lequal K A m):=by
  refine F.ok sc_Lequal (fun vs H Q E h=>?_) (fun cdv Ar outer s H vs Q E hr h=>⟨t_Lequal K A m,?_,?_⟩)
  · obtain ⟨x0,x1,rfl,_⟩:=h
    rfl
  · have hu:=hu_of hr
    exact (pss_cons (ps_if (pt_val (pe_callB call_isi (by rfl) T.b_isinstance (by decide +kernel) (pa_cons (pv 1) (pa_cons (pe_bltn (by rfl) T.b_list (by decide +kernel) (v:=.ty "list") rfl) pa_nil)))) (pss_cons (ps_if (PW.pt (pw_or (pt_not (pt_val (pe_callB call_isi (by rfl) T.b_isinstance (by decide +kernel) (pa_cons (pv 0) (pa_cons (pe_bltn (by rfl) T.b_list (by decide +kernel) (v:=.ty "list") rfl) pa_nil))))) (pw_or1 (pt_cmpR op_ne (pe_callB b_len (by rfl) T.b_len (by decide +kernel) (pa_cons (pv 0) pa_nil)) (pe_callB b_len (by rfl) T.b_len (by decide +kernel) (pa_cons (pv 1) pa_nil)) (nomark _))))) (pss_one (ps_ret pe_bl)) pss_nil)
    (pss_one (ps_ret (pe_cl c_Lall_equal (hr.mono (by first | decide | omega)) (by rfl) (pa_cons (pv 0) (pa_cons (pv 1) pa_nil)))))) pss_nil)
    (pss_cons (ps_if (pt_val (pe_callB call_isi (by rfl) T.b_isinstance (by decide +kernel) (pa_cons (pv 1) (pa_cons (pe_bltn (by rfl) T.b_tuple (by decide +kernel) (v:=.ty "tuple") rfl) pa_nil)))) (pss_cons (ps_if (PW.pt (pw_or (pt_not (pt_val (pe_callB call_isi (by rfl) T.b_isinstance (by decide +kernel) (pa_cons (pv 0) (pa_cons (pe_bltn (by rfl) T.b_tuple (by decide +kernel) (v:=.ty "tuple") rfl) pa_nil))))) (pw_or1 (pt_cmpR op_ne (pe_callB b_len (by rfl) T.b_len (by decide +kernel) (pa_cons (pv 0) pa_nil)) (pe_callB b_len (by rfl) T.b_len (by decide +kernel) (pa_cons (pv 1) pa_nil)) (nomark _))))) (pss_one (ps_ret pe_bl)) pss_nil)
    (pss_one (ps_ret (pe_cl c_Lall_equal (hr.mono (by first | decide | omega)) (by rfl) (pa_cons (pv 0) (pa_cons (pv 1) pa_nil)))))) pss_nil)
    (pss_cons (ps_if (pt_val (pe_callB call_isi (by rfl) T.b_isinstance (by decide +kernel) (pa_cons (pv 1) (pa_cons (pe_bltn (by rfl) T.b_bool (by decide +kernel) (v:=.ty "bool") rfl) pa_nil)))) (pss_one (ps_ret (pe_and (pe_callB call_isi (by rfl) T.b_isinstance (by decide +kernel) (pa_cons (pv 0) (pa_cons (pe_bltn (by rfl) T.b_bool (by decide +kernel) (v:=.ty "bool") rfl) pa_nil))) (pe_one (pe_cmpR op_eq (pv 0) (pv 1) (nomark _)))))) pss_nil)
    (pss_cons (ps_if (pt_val (pe_callB call_isi (by rfl) T.b_isinstance (by decide +kernel) (pa_cons (pv 1) (pa_cons (pe_bltn (by rfl) T.b_int (by decide +kernel) (v:=.ty "int") rfl) pa_nil)))) (pss_one (ps_ret (pe_and (pe_callB call_isi (by rfl) T.b_isinstance (by decide +kernel) (pa_cons (pv 0) (pa_cons (pe_bltn (by rfl) T.b_int (by decide +kernel) (v:=.ty "int") rfl) pa_nil))) (pe_and (pe_not (pe_callB call_isi (by rfl) T.b_isinstance (by decide +kernel) (pa_cons (pv 0) (pa_cons (pe_bltn (by rfl) T.b_bool (by decide +kernel) (v:=.ty "bool") rfl) pa_nil)))) (pe_one (pe_cmpR op_eq (pv 0) (pv 1) (nomark _))))))) pss_nil)
    (pss_cons (ps_if (pt_val (pe_callB call_isi (by rfl) T.b_isinstance (by decide +kernel) (pa_cons (pv 1) (pa_cons (pe_bltn (by rfl) T.b_str (by decide +kernel) (v:=.ty "str") rfl) pa_nil)))) (pss_one (ps_ret (pe_and (pe_callB call_isi (by rfl) T.b_isinstance (by decide +kernel) (pa_cons (pv 0) (pa_cons (pe_bltn (by rfl) T.b_str (by decide +kernel) (v:=.ty "str") rfl) pa_nil))) (pe_one (pe_cmpR op_eq (pv 0) (pv 1) (nomark _)))))) pss_nil)
    (pss_one (ps_ret (pe_cmpR c_isN (pv 0) pe_non (nomark _)))))))))
  · obtain ⟨x0,x1,rfl,h⟩:=h
    exact pu_Lequal T h
theorem sc_Lall_equal:FnScope ["_law_actual","_law_due","_law_k"] ["_law_actual","_law_due"] (defScope s_Lall_equal):=⟨rfl,rfl,rfl,by decide +kernel,rfl,by decide +kernel,by decide +kernel⟩
def t_Lall_equal (K:PySem.W.Frag) (A:Ad) (m:Nat) : TS:=
  (tSeq (tFor (iRng1 (tCons (tCB (rLenSq K) (tCons (tVar 1) tNil)) tNil)) (gName 2) (tIfS (tNot (tB (tCl (sp_Lequal K A m) (tCons (tOp (rIx K) (tVar 0) (tVar 2)) (tCons (tOp (rIx K) (tVar 1) (tVar 2)) tNil))))) (tRet (tC (.bl false))) tNext))
    (tRet (tC (.bl true))))
theorem g_lenS {xs:List V} {H:Hp} {Q:VK} {p:Addr} (h:H p=some (.lst xs)∨H p=some (.tup xs)) (q:Q (.int xs.length) H) : rLenSq K [.ref p] H Q:=h.elim (fun e=>g_lenL (SqL.of e) q) (fun e=>g_lenT (SqT.of e) q)
theorem g_ixS {xs:List V} {H:Hp} {Q:VK} {p:Addr} {i:Int} {v:V} (h:H p=some (.lst xs)∨H p=some (.tup xs)) (ha : atI xs i=some v) (q:Q v H) : rIx K (.ref p) (.int i) H Q:=
  h.elim (fun e=>.inl (g_ixL (SqL.of e) ha q)) (fun e=>.inr (.inl (g_ixT (SqT.of e) ha q)))
theorem pu_Lall_equal (T:Txt K mg A) {m:Nat} {x0 x1:V} {H:Hp} {Q:VK} (h:P_Lall_equal K A (m + 1) x0 x1 H Q) : t_Lall_equal K A m { nx:=fun _ H'=>Q .non H',rt:=Q } [some x0,some x1,none] H:=by
  obtain ⟨ds,⟨a,xs,rfl,ha,hz,ra⟩,⟨b,ys,rfl,hb,hy,rb⟩,hm,q⟩:=h
  unfold t_Lall_equal
  ((with_reducible refine g_seq (g_for (g_i1 (g_cons (g_cb ?_)))));walk_at "2")
  refine g_lenS hb ?_
  ((with_reducible refine g_nil ?_);walk_at "12")
  have hl:=ra.len
  have hk:=rb.len
  refine f_range (lo:=0) (fun i σ H'=>(∃ v,σ=[some (.ref a),some (.ref b),v])∧H'=H) ⟨⟨_,rfl⟩,rfl⟩ ?_ ?_
  · rintro i σ H' hi ⟨⟨v,rfl⟩,rfl⟩
    have hi2 : i < xs.length:=by omega
    have hi3 : i < ys.length:=by omega
    obtain ⟨d,hd,dd⟩:=ra.get (List.getElem?_eq_getElem hi2)
    obtain ⟨d',hd',dd'⟩:=rb.get (List.getElem?_eq_getElem hi3)
    rw [hd] at hd'
    cases hd'
    ((with_reducible refine g_name (g_ifs (g_not (g_tb (g_cl (g_cons ?_))))));(with_reducible refine' j_ovv ?h159 ?k159 ?_);(case h159=>exact rfl);(case k159=>exact rfl))
    refine g_ixS ha (v:=xs[i]) (by rw [Int.zero_add];exact atI_nat (List.getElem?_eq_getElem hi2)) ?_
    ((with_reducible refine g_cons ?_);(with_reducible refine' j_ovv ?h161 ?k161 ?_);(case h161=>exact rfl);(case k161=>exact rfl))
    refine g_ixS hb (v:=ys[i]) (by rw [Int.zero_add];exact atI_nat (List.getElem?_eq_getElem hi3)) ?_
    ((with_reducible refine g_nil ?_))
    refine c_Lequal ⟨d,dd,dd',?_,?_⟩
    · have:=dpL_get hd
      omega
    · ((with_reducible refine g_bl (g_iteNT (g_next ?_))))
      exact ⟨⟨_,rfl⟩,rfl⟩
  · rintro σ H' ⟨⟨v,rfl⟩,rfl⟩
    ((with_reducible refine g_ret (g_c ?_)))
    exact q
theorem ok_Lall_equal {f:Addr} {fd:FuncData} (F:Fun K "_law_all_equal" "_law_all_equal" s_Lall_equal f fd) (T:Txt K mg A) {m:Nat} (c_Lequal:Cal P w K mg base "_law_equal" (2 * m + 1) ["_law_actual","_law_due"] (sp_Lequal K A m)) : FnOk P w K mg base CX0 (2 * m + 2) f fd ["_law_actual","_law_due"] (sp_Lall_equal K A (m + 1)):=by
  refine F.ok sc_Lall_equal (fun vs H Q E h=>?_) (fun cdv Ar outer s H vs Q E hr h=>⟨t_Lall_equal K A m,?_,?_⟩)
  · obtain ⟨x0,x1,rfl,_⟩:=h
    rfl
  · have hu:=hu_of hr
    exact (pss_cons (ps_for PassesOwn.never rfl (pi_range1 rfl T.b_range (pa_cons (pe_callB b_len (by rfl) T.b_len (by decide +kernel) (pa_cons (pv 1) pa_nil)) pa_nil)) (pg_name (i:=2) sc_Lall_equal.nd rfl (Or.inl rfl)) (pss_one (ps_if (pt_not (pt_val (pe_cl c_Lequal (hr.mono (by first | decide | omega)) (by rfl) (pa_cons (pe_ix ix_seq (pv 0) (pv 2) (fun _ _=>rfl)) (pa_cons (pe_ix ix_seq (pv 1) (pv 2) (fun _ _=>rfl)) pa_nil))))) (pss_one (ps_ret pe_bl)) pss_nil)))
    (pss_one (ps_ret pe_bl)))
  · obtain ⟨x0,x1,rfl,h⟩:=h
    exact pu_Lall_equal T h
theorem eq_all {fE fA:Addr} {fdE fdA:FuncData} (FE:Fun K "_law_equal" "_law_equal" s_Lequal fE fdE) (T:Txt K mg A) (hE : mg "_law_equal" = some (.ref fE)) (bE:Binds K fdE ["_law_actual","_law_due"] [])
    (FA:Fun K "_law_all_equal" "_law_all_equal" s_Lall_equal fA fdA) (hA : mg "_law_all_equal" = some (.ref fA)) (bA:Binds K fdA ["_law_actual","_law_due"] []) :
    ∀ m:Nat,Cal P w K mg base "_law_all_equal" (2 * m) ["_law_actual","_law_due"] (sp_Lall_equal K A m)
  | 0=>by
    have no:∀ vs H Q E,¬ sp_Lall_equal K A 0 vs H Q E:=fun vs H Q E h=>by
      obtain ⟨x0,x1,_,ds,_,_,hm,_⟩:=h
      omega
    exact ⟨fA,fdA,⟨fun vs H Q E h=>absurd h (no vs H Q E),fun A outer s H args us vs Q E _ _ _ _ h=>absurd h (no vs H Q E)⟩,hA,FA.kp,bA⟩
  | m + 1=>⟨fA,fdA,ok_Lall_equal FA T ⟨fE,fdE,ok_Lequal FE T (eq_all FE T hE bE FA hA bA m),hE,FE.kp,bE⟩,hA,FA.kp,bA⟩
theorem eq_one {fE fA:Addr} {fdE fdA:FuncData} (FE:Fun K "_law_equal" "_law_equal" s_Lequal fE fdE) (T:Txt K mg A) (hE : mg "_law_equal" = some (.ref fE)) (bE:Binds K fdE ["_law_actual","_law_due"] [])
    (FA:Fun K "_law_all_equal" "_law_all_equal" s_Lall_equal fA fdA) (hA : mg "_law_all_equal" = some (.ref fA)) (bA:Binds K fdA ["_law_actual","_law_due"] []) (m:Nat) :
    Cal P w K mg base "_law_equal" (2 * m + 1) ["_law_actual","_law_due"] (sp_Lequal K A m):=⟨fE,fdE,ok_Lequal FE T (eq_all FE T hE bE FA hA bA m),hE,FE.kp,bE⟩
structure Setup where
  rooms:List Int
  nights:Int
  sellers:Int
  prices:List (List Int)
  share:Int
def rowD (r:List Int) : PyData:=.tuple (r.map .int)
def setupD (S:Setup) : PyData:=.tuple [rowD S.rooms,.int S.nights,.int S.sellers,.tuple (S.prices.map rowD),.int S.share]
structure SetupOk (S:Setup) : Prop where
  k1 : 1≤S.rooms.length
  k3:S.rooms.length≤3
  rm:∀ z∈S.rooms,0≤z∧z≤4
  n1 : 1≤S.nights
  n2:S.nights≤12
  s1 : 1≤S.sellers
  s2:S.sellers≤4
  pl:S.prices.length=S.rooms.length
  pn:∀ r∈S.prices,r.length=S.nights.toNat∧∀ z∈r,0≤z∧z≤1000000
  h1 : 0≤S.share
  h2:S.share≤100
theorem imm_row (r:List Int) : imm (rowD r)=true:=immL_of fun d hd=>by obtain ⟨n,_,rfl⟩:=List.mem_map.mp hd;rfl
theorem imm_setup (S:Setup) : imm (setupD S)=true:=by
  have h : immL (S.prices.map rowD)=true:=immL_of fun d hd=>by obtain ⟨r,_,rfl⟩:=List.mem_map.mp hd;exact imm_row r
  simp [setupD,imm,immL,h,imm_row]
structure SetAt (H:Hp) (x:V) (S:Setup) (s r p:Addr) (ps:List V) : Prop where
  e : x=.ref s
  t:H s=some (.tup [.ref r,.int S.nights,.int S.sellers,.ref p,.int S.share])
  r:H r=some (.tup (S.rooms.map V.int))
  p:H p=some (.tup ps)
  ps:DaL H ps (S.prices.map rowD)
theorem SetAt.of {H:Hp} {x:V} {S:Setup} (h:Da H x (setupD S)) : ∃ s r p ps,SetAt H x S s r p ps:=by
  obtain ⟨s,xs,rfl,e,_,q⟩:=h.tup1
  cases q with
  | cons a q=>cases q with
    | cons b q=>cases q with
      | cons c q=>cases q with
        | cons d q=>cases q with
          | cons f q=>
            cases q
            obtain ⟨r,rs,rfl,er,_,qr⟩:=a.tup1
            obtain ⟨p,ps,rfl,ep,_,qp⟩:=d.tup1
            cases b.int1
            cases c.int1
            cases f.int1
            rw [DaL.ints qr] at er
            exact ⟨s,r,p,ps,rfl,e,er,ep,qp⟩
theorem SetAt.row {H:Hp} {x:V} {S:Setup} {s r p:Addr} {ps:List V} (h:SetAt H x S s r p ps) {k:Nat} {row:List Int} (e:S.prices[k]? = some row) : ∃ a,ps[k]? = some (.ref a)∧H a=some (.tup (row.map V.int)):=by
  obtain ⟨v,hv,dv⟩:=h.ps.get' (i:=k) (d:=rowD row) (by rw [List.getElem?_map,e];rfl)
  obtain ⟨a,xs,rfl,ea,_,q⟩:=dv.tup1
  rw [DaL.ints q] at ea
  exact ⟨a,hv,ea⟩
abbrev Stay:=Int×Int×Int
def stayD (s:Stay) : PyData:=.tuple [.int s.1,.int s.2.1,.int s.2.2]
def partyD (ss:List Stay) : PyData:=.tuple (ss.map stayD)
def StayOk (S:Setup) (s:Stay) : Prop:=0≤s.1∧s.1 < S.rooms.length∧0≤s.2.1∧s.2.1 < s.2.2∧s.2.2≤S.nights
theorem imm_stay (s:Stay) : imm (stayD s)=true:=rfl
theorem imm_stays (ss:List Stay) : immL (ss.map stayD)=true:=immL_of fun d hd=>by obtain ⟨n,_,rfl⟩:=List.mem_map.mp hd;rfl
theorem imm_party (ss:List Stay) : imm (partyD ss)=true:=imm_stays ss
theorem stay_at {H:Hp} {v:V} {s:Stay} (h:Da H v (stayD s)) : ∃ a,v=.ref a∧H a=some (.tup [.int s.1,.int s.2.1,.int s.2.2]):=by
  obtain ⟨a,xs,rfl,e,_,q⟩:=h.tup1
  obtain ⟨x,y,z,rfl,dx,dy,dz⟩:=q.three
  cases dx.int1
  cases dy.int1
  cases dz.int1
  exact ⟨a,rfl,e⟩
theorem stays_get {H:Hp} {xs:List V} {ss:List Stay} {i:Nat} {x:V} (h:DaL H xs (ss.map stayD)) (e : xs[i]? = some x) : ∃ s a,ss[i]? = some s∧x=.ref a∧H a=some (.tup [.int s.1,.int s.2.1,.int s.2.2])∧Da H x (stayD s):=by
  obtain ⟨d,hd,dd⟩:=h.get e
  rw [List.getElem?_map] at hd
  cases q : ss[i]? with
  | none=>rw [q] at hd;cases hd
  | some s=>
    rw [q] at hd
    cases hd
    obtain ⟨a,rfl,ea⟩:=stay_at dd
    exact ⟨s,a,rfl,rfl,ea,dd⟩
def P_Lsetup (K:PySem.W.Frag) (A:Ad) (x0:V) (H:Hp) (Q:VK) : Prop:=∃ (d l:Addr),x0=.ref d∧Draws H d l∧
  ∀ (v:V) (S:Setup) (H':Hp),SetupOk S→Da H' v (setupD S)→Fr [d] H H'→Draws H' d l→Q v H'
def sp_Lsetup (K:PySem.W.Frag) (A:Ad) : Sp:=fun vs H Q _=>∃ x0,vs=[x0]∧P_Lsetup K A x0 H Q
theorem c_Lsetup {K:PySem.W.Frag} {A:Ad} {x0:V} {H:Hp} {Q:VK} {E:XK} (h:P_Lsetup K A x0 H Q) : sp_Lsetup K A [x0] H Q E:=⟨_,rfl,h⟩
theorem sc_Lsetup:FnScope ["_law_draws","_law_rooms","_law_nights","_law_prices","_law_k","_law_t"] ["_law_draws"] (defScope s_Lsetup):=⟨rfl,rfl,rfl,by decide +kernel,rfl,by decide +kernel,by decide +kernel⟩
def t_Lsetup (K:PySem.W.Frag) (A:Ad) : TS:=
  (tSeq (tAsg (tCB (rTupOf K) (tCons (tLc (iRng1 (tCons (tOp oAdd (tC (.int 1)) (tOp oMod (tCl (sp_Ldraw K A) (tCons (tVar 0) tNil)) (tC (.int 3)))) tNil)) (gName 4) tYes (tOp oMod (tCl (sp_Ldraw K A) (tCons (tVar 0) tNil)) (tC (.int 5))) [4]) tNil)) (gName 1))
    (tSeq (tAsg (tOp oAdd (tC (.int 1)) (tOp oMod (tCl (sp_Ldraw K A) (tCons (tVar 0) tNil)) (tC (.int 12)))) (gName 2))
    (tSeq (tAsg (tLst tNil) (gName 3))
    (tSeq (tFor (iRng1 (tCons (tCB (rLenSq K) (tCons (tVar 1) tNil)) tNil)) (gName 4) (tDrop (tBM K "list" rAppend (tVar 3) (tCons (tCB (rTupOf K) (tCons (tLc (iRng1 (tCons (tVar 2) tNil)) (gName 5) tYes (tOp (rIxL K) (tLst (tCons (tOp oMod (tCl (sp_Ldraw K A) (tCons (tVar 0) tNil)) (tC (.int 200))) (tCons (tC (.int 0)) (tCons (tOp oPow (tC (.int 10)) (tC (.int 6))) (tCons (tOp oMod (tCl (sp_Ldraw K A) (tCons (tVar 0) tNil)) (tC (.int 1000001))) tNil))))) (tOp oMod (tCl (sp_Ldraw K A) (tCons (tVar 0) tNil)) (tC (.int 4)))) [5]) tNil)) tNil))))
    (tRet (tTup (tCons (tVar 1) (tCons (tVar 2) (tCons (tOp oAdd (tC (.int 1)) (tOp oMod (tCl (sp_Ldraw K A) (tCons (tVar 0) tNil)) (tC (.int 4)))) (tCons (tCB (rTupOf K) (tCons (tVar 3) tNil)) (tCons (tOp (rIxL K) (tLst (tCons (tOp oMod (tCl (sp_Ldraw K A) (tCons (tVar 0) tNil)) (tC (.int 101))) (tCons (tC (.int 0)) (tCons (tC (.int 100)) tNil)))) (tOp oMod (tCl (sp_Ldraw K A) (tCons (tVar 0) tNil)) (tC (.int 3)))) tNil)))))))))))
theorem pu_Lsetup (T:Txt K mg A) {x0:V} {H:Hp} {Q:VK} (h:P_Lsetup K A x0 H Q) : t_Lsetup K A { nx:=fun _ H'=>Q .non H',rt:=Q } [some x0,none,none,none,none,none] H:=by
  obtain ⟨d,l,rfl,D0,k⟩:=h
  unfold t_Lsetup
  walk_at "go"
  rename_i z H1 z0 z1 f1 D1
  refine l_range (lo:=0) (n:=(1 + z % 3).toNat) fun Dl H2 nD f2 e2=>⟨fun i acc H'=>∃ r:List Int,acc=r.map V.int∧r.length=i∧(∀ y∈r,0≤y∧y≤4)∧Fr [d] H1 H'∧Draws H' d l,⟨[],rfl,rfl,fun _ q=>(nomatch q),f2.of0,D1.fr f2 nin0 nin0⟩,fun i acc H' hi ha ⟨r,e,hr,hm,f,D⟩=>?_,fun acc H' ha ⟨r,e,hr,hm,f,D⟩=>?_⟩
  · walk_at "go"
    refine ⟨rfl,?_⟩
    walk_at "go"
    rename_i y H3 y0 y1 f3 D3
    have nd:Dl≠d:=(D1.new1 nD).symm
    have nl:Dl≠l:=(D1.new2 nD).symm
    refine lcY_of (f3.at ha (nin1 nd nin0)) (by rw [e];walk_at "sz") fun H5 f5 e5=>⟨r++[y % 5],by rw [e,List.map_append];rfl,by rw [List.length_append,hr];rfl,fun q hq=>?_,?_,D3.fr f5 (nin1 nd.symm nin0) (nin1 nl.symm nin0)⟩
    · rcases List.mem_append.mp hq with h | h
      · exact hm q h
      · rw [List.mem_singleton.mp h];omega
    · exact (f.transL f3).own1 f5 nD
  · subst e
    walk_at "go"
    rename_i rt H3 n3 f3 e3 w H4 w0 w1 f4 D4 pl H5 n5 f5 e5
    have nd : d≠pl:=D4.new1 n5
    have nl : l≠pl:=D4.new2 n5
    have er:H5 rt=some (.tup (r.map V.int)):=by walk_at "fact"
    have D5:Draws H5 d l:=D4.fr f5 nin0 nin0
    have npl:H pl=none:=by walk_at "none"
    have F5:Fr [d] H H5:=by walk_at "fr"
    rw [List.length_map]
    clear f1 D1 nD f2 e2 f D ha n3 f3 e3 f4 D4 f5 n5
    have hrl : r.length≤3∧1≤r.length:=by omega
    refine f_range (lo:=0) (n:=r.length) (fun i σ H'=>∃ (v4 v5:Option V) (rows:List (List Int)) (xs:List V),σ=[some (.ref d),some (.ref rt),some (.int (1 + w % 12)),some (.ref pl),v4,v5]∧Fr [d] H H'∧Draws H' d l∧H' rt=some (.tup (r.map V.int))∧
      H' pl=some (.lst xs)∧DaL H' xs (rows.map rowD)∧rows.length=i∧∀ q∈rows,q.length=(1 + w % 12).toNat∧∀ y∈q,0≤y∧y≤1000000)
      ⟨_,_,[],[],rfl,F5,D5,er,e5,.nil,rfl,fun _ q=>(nomatch q)⟩ ?_ ?_
    · rintro i σ H6 hi ⟨v4,v5,rows,xs,rfl,f6,D6,er6,ep6,dr,hri,hq⟩
      have hxl : xs.length≤10:=by rw [dr.len,List.length_map];omega
      walk_at "go"
      refine l_range (lo:=0) (n:=(1 + w % 12).toNat) fun Dl H7 nD f7 e7=>⟨fun j acc H'=>∃ q:List Int,acc=q.map V.int∧q.length=j∧(∀ y∈q,0≤y∧y≤1000000)∧Fr [d] H6 H'∧Draws H' d l,⟨[],rfl,rfl,fun _ q=>(nomatch q),f7.of0,D6.fr f7 nin0 nin0⟩,fun j acc H' hj ha ⟨q,e,hr,hm,f,D⟩=>?_,fun acc H' ha ⟨q,e,hql,hm,f,D⟩=>?_⟩
      · walk_at "go"
        refine ⟨rfl,?_⟩
        walk_at "go"
        rename_i y1 H8 y10 y11 f8 D8 y2 H9 y20 y21 f9 D9 t H10 n10 f10 e10 y3 H11 y30 y31 f11 D11
        have hnd:Dl≠d:=(D6.new1 nD).symm
        have hnl:Dl≠l:=(D6.new2 nD).symm
        have htd : t≠d:=(D9.new1 n10).symm
        obtain ⟨v,hv,hmem⟩:=atI_mem (xs:=[V.int (y1 % 200),V.int 0,V.int (10 ^ Int.toNat 6),V.int (y2 % 1000001)]) (z:=y3 % 4) (by omega) (by show y3 % 4 < 4;omega)
        obtain ⟨y,rfl,hy⟩ : ∃ y,v=.int y∧0≤y∧y≤1000000:=by
          rcases List.mem_cons.mp hmem with h | hmem
          · exact ⟨_,h,by omega,by omega⟩
          rcases List.mem_cons.mp hmem with h | hmem
          · exact ⟨_,h,by omega,by omega⟩
          rcases List.mem_cons.mp hmem with h | hmem
          · exact ⟨_,h,by decide,by decide⟩
          · exact ⟨_,List.mem_singleton.mp hmem,by omega,by omega⟩
        refine g_ixL (SqL.of (f11.at e10 (nin1 htd nin0))) hv ?_
        have hD:H11 Dl=some (.lst acc):=f11.at (f10.at0 (f9.at (f8.at ha (nin1 hnd nin0)) (nin1 hnd nin0))) (nin1 hnd nin0)
        refine lcY_of hD (by rw [e];walk_at "sz") fun H12 f12 e12=>⟨q++[y],by rw [e,List.map_append];rfl,by rw [List.length_append,hr];rfl,fun z hz=>?_,?_,D11.fr f12 (nin1 hnd.symm nin0) (nin1 hnl.symm nin0)⟩
        · rcases List.mem_append.mp hz with h | h
          · exact hm z h
          · rw [List.mem_singleton.mp h];exact hy
        · exact ((((f.transL f8).transL f9).then0 f10).transL f11).own1 f12 nD
      · subst e
        have hpd : pl≠d:=nd.symm
        have ep7:H' pl=some (.lst xs):=f.at ep6 (nin1 hpd nin0)
        have hql2 : q.length≤12:=by omega
        walk_at "go"
        rename_i t H8 n8 f8 e8 H9 f9 e9
        exact ⟨_,_,rows++[q],_,rfl,((f6.transL f).then0 f8).own1 f9 npl,(D.fr f8 nin0 nin0).fr f9 (nin1 nd nin0) (nin1 nl nin0),f9.tup _ _ (f8.tup _ _ (f.tup _ _ er6)),e9,
          by rw [List.map_append];exact (DaL.frL f9 (DaL.frL f8 (DaL.frL f dr (immL_of fun d hd=>by obtain ⟨r,_,rfl⟩:=List.mem_map.mp hd;exact imm_row r)) (immL_of fun d hd=>by obtain ⟨r,_,rfl⟩:=List.mem_map.mp hd;exact imm_row r)) (immL_of fun d hd=>by obtain ⟨r,_,rfl⟩:=List.mem_map.mp hd;exact imm_row r)).append (.one' (.tup (f9.tup _ _ e8) (by rw [List.length_map];omega) (.ofInts q))),
          by rw [List.length_append,hri];rfl,fun z hz=>(List.mem_append.mp hz).elim (hq z) fun h=>by rw [List.mem_singleton.mp h];exact ⟨hql,hm⟩⟩
    · rintro σ H6 ⟨v4,v5,rows,xs,rfl,f6,D6,er6,ep6,dr,hri,hq⟩
      have hxl : xs.length≤10:=by rw [dr.len,List.length_map];omega
      have hpd : pl≠d:=nd.symm
      walk_at "go"
      rename_i m H7 m0 m1 f7 D7 pt H8 n8 f8 e8 y1 H9 y10 y11 f9 D9 t H10 n10 f10 e10 y2 H11 y20 y21 f11 D11
      have htd : t≠d:=(D9.new1 n10).symm
      obtain ⟨v,hv,hmem⟩:=atI_mem (xs:=[V.int (y1 % 101),V.int 0,V.int 100]) (z:=y2 % 3) (by omega) (by show y2 % 3 < 3;omega)
      obtain ⟨y,rfl,hy⟩ : ∃ y,v=.int y∧0≤y∧y≤100:=by
        rcases List.mem_cons.mp hmem with h | hmem
        · exact ⟨_,h,by omega,by omega⟩
        rcases List.mem_cons.mp hmem with h | hmem
        · exact ⟨_,h,by omega,by omega⟩
        · exact ⟨_,List.mem_singleton.mp hmem,by decide,by decide⟩
      refine g_ixL (SqL.of (f11.at e10 (nin1 htd nin0))) hv ?_
      walk_at "go"
      rename_i st H12 n12 f12 e12
      have ir : immL (rows.map rowD)=true:=immL_of fun d hd=>by obtain ⟨r,_,rfl⟩:=List.mem_map.mp hd;exact imm_row r
      have F:Fr [d] H6 H12:=by walk_at "fr"
      refine k _ ⟨r,1 + w % 12,1 + m % 4,rows,y⟩ H12 ⟨hrl.2,hrl.1,hm,by show 1≤1 + w % 12;omega,by show 1 + w % 12≤12;omega,by show 1≤1 + m % 4;omega,by show 1 + m % 4≤4;omega,hri,hq,hy.1,hy.2⟩ (.tup e12 (Nat.le_of_ble_eq_true rfl) ?_) (f6.transL F) (D11.fr f12 nin0 nin0)
      exact .cons (.tup (F.tup _ _ er6) (by rw [List.length_map];omega) (.ofInts r)) (.cons (.int _) (.cons (.int _) (.cons (.tup (f12.tup _ _ (f11.tup _ _ (f10.tup _ _ (f9.tup _ _ e8)))) (by omega) (DaL.frL F dr ir)) (.one' (.int _)))))
theorem ok_Lsetup {f:Addr} {fd:FuncData} (F:Fun K "_law_setup" "_law_setup" s_Lsetup f fd) (T:Txt K mg A) (c_Ldraw:Cal P w K mg base "_law_draw" 2 ["_law_draws"] (sp_Ldraw K A)) : FnOk P w K mg base CX0 (3) f fd ["_law_draws"] (sp_Lsetup K A):=by
  refine F.ok sc_Lsetup (fun vs H Q E h=>?_) (fun cdv Ar outer s H vs Q E hr h=>⟨t_Lsetup K A,?_,?_⟩)
  · obtain ⟨x0,rfl,_⟩:=h
    rfl
  · have hu:=hu_of hr
    exact (pss_cons (ps_set (i:=1) sc_Lsetup.nd rfl (Or.inl rfl) (pe_callTy b_tuple (by rfl) T.b_tuple (by decide +kernel) (pa_cons (pe_lc (own:=[("_law_k",4)]) (g:=(gName 4)) (tt:=tYes) rfl sc_Lsetup.nd (pi_range1 rfl T.b_range (pa_cons (pe_op o_add pe_int (pe_op o_mod (pe_cl c_Ldraw (hr.mono (by first | decide | omega)) (by rfl) (pa_cons (pv 0) pa_nil)) pe_int)) pa_nil)) (blkOk_by (N:=["_law_draws","_law_rooms","_law_nights","_law_prices","_law_k","_law_t"]) (sc:=defScope s_Lsetup) (own:=[("_law_k",4)]) (by decide +kernel)) (fun _ _ _ _ _=>(pg_name (i:=4) sc_Lsetup.nd rfl (Or.inl rfl))) (fun _ _ _ _ _=>pts_nil) (fun _ _ _ _ _=>(pe_op o_mod (pe_cl c_Ldraw (hr.mono (by first | decide | omega)) (by rfl) (pa_cons (pv 0) pa_nil)) pe_int))) pa_nil)))
    (pss_cons (ps_set (i:=2) sc_Lsetup.nd rfl (Or.inl rfl) (pe_op o_add pe_int (pe_op o_mod (pe_cl c_Ldraw (hr.mono (by first | decide | omega)) (by rfl) (pa_cons (pv 0) pa_nil)) pe_int)))
    (pss_cons (ps_set (i:=3) sc_Lsetup.nd rfl (Or.inl rfl) (pe_lst pa_nil))
    (pss_cons (ps_for PassesOwn.never rfl (pi_range1 rfl T.b_range (pa_cons (pe_callB b_len (by rfl) T.b_len (by decide +kernel) (pa_cons (pv 1) pa_nil)) pa_nil)) (pg_name (i:=4) sc_Lsetup.nd rfl (Or.inl rfl)) (pss_one (ps_expr (pe_bm PySem.F.plainAttrs_list PySem.F.slot_list_append PySem.F.type_list_append mt_append (pv 3) (pa_cons (pe_callTy b_tuple (by rfl) T.b_tuple (by decide +kernel) (pa_cons (pe_lc (own:=[("_law_t",5)]) (g:=(gName 5)) (tt:=tYes) rfl sc_Lsetup.nd (pi_range1 rfl T.b_range (pa_cons (pv 2) pa_nil)) (blkOk_by (N:=["_law_draws","_law_rooms","_law_nights","_law_prices","_law_k","_law_t"]) (sc:=defScope s_Lsetup) (own:=[("_law_t",5)]) (by decide +kernel)) (fun _ _ _ _ _=>(pg_name (i:=5) sc_Lsetup.nd rfl (Or.inl rfl))) (fun _ _ _ _ _=>pts_nil) (fun _ _ _ _ _=>(pe_ix ix_list (pe_lst (pa_cons (pe_op o_mod (pe_cl c_Ldraw (hr.mono (by first | decide | omega)) (by rfl) (pa_cons (pv 0) pa_nil)) pe_int) (pa_cons pe_int (pa_cons (pe_op o_pow pe_int pe_int) (pa_cons (pe_op o_mod (pe_cl c_Ldraw (hr.mono (by first | decide | omega)) (by rfl) (pa_cons (pv 0) pa_nil)) pe_int) pa_nil))))) (pe_op o_mod (pe_cl c_Ldraw (hr.mono (by first | decide | omega)) (by rfl) (pa_cons (pv 0) pa_nil)) pe_int) (fun _ _=>rfl)))) pa_nil)) pa_nil)))))
    (pss_one (ps_ret (pe_tup (pa_cons (pv 1) (pa_cons (pv 2) (pa_cons (pe_op o_add pe_int (pe_op o_mod (pe_cl c_Ldraw (hr.mono (by first | decide | omega)) (by rfl) (pa_cons (pv 0) pa_nil)) pe_int)) (pa_cons (pe_callTy b_tuple (by rfl) T.b_tuple (by decide +kernel) (pa_cons (pv 3) pa_nil)) (pa_cons (pe_ix ix_list (pe_lst (pa_cons (pe_op o_mod (pe_cl c_Ldraw (hr.mono (by first | decide | omega)) (by rfl) (pa_cons (pv 0) pa_nil)) pe_int) (pa_cons pe_int (pa_cons pe_int pa_nil)))) (pe_op o_mod (pe_cl c_Ldraw (hr.mono (by first | decide | omega)) (by rfl) (pa_cons (pv 0) pa_nil)) pe_int) (fun _ _=>rfl)) pa_nil))))))))))))
  · obtain ⟨x0,rfl,h⟩:=h
    exact pu_Lsetup T h
def P_Lstay (K:PySem.W.Frag) (A:Ad) (x0 x1:V) (H:Hp) (Q:VK) : Prop:=∃ (d l:Addr) (S:Setup),x0=.ref d∧Draws H d l∧SetupOk S∧Da H x1 (setupD S)∧
  ∀ (v:V) (s:Stay) (H':Hp),StayOk S s→Da H' v (stayD s)→Fr [d] H H'→Draws H' d l→Q v H'
def sp_Lstay (K:PySem.W.Frag) (A:Ad) : Sp:=fun vs H Q _=>∃ x0 x1,vs=[x0,x1]∧P_Lstay K A x0 x1 H Q
theorem c_Lstay {K:PySem.W.Frag} {A:Ad} {x0 x1:V} {H:Hp} {Q:VK} {E:XK} (h:P_Lstay K A x0 x1 H Q) : sp_Lstay K A [x0,x1] H Q E:=⟨_,_,rfl,h⟩
theorem sc_Lstay:FnScope ["_law_draws","_law_setup_here","_law_first","_law_most"] ["_law_draws","_law_setup_here"] (defScope s_Lstay):=⟨rfl,rfl,rfl,by decide +kernel,rfl,by decide +kernel,by decide +kernel⟩
def t_Lstay (K:PySem.W.Frag) (A:Ad) : TS:=
  (tSeq (tAsg (tOp oMod (tCl (sp_Ldraw K A) (tCons (tVar 0) tNil)) (tOp (rIxT K) (tVar 1) (tC (.int 1)))) (gName 2))
    (tSeq (tAsg (tOp oSub (tOp (rIxT K) (tVar 1) (tC (.int 1))) (tVar 2)) (gName 3))
    (tRet (tTup (tCons (tOp oMod (tCl (sp_Ldraw K A) (tCons (tVar 0) tNil)) (tCB (rLenSq K) (tCons (tOp (rIxT K) (tVar 1) (tC (.int 0))) tNil))) (tCons (tVar 2) (tCons (tOp oAdd (tOp oAdd (tVar 2) (tC (.int 1))) (tOp oMod (tCl (sp_Ldraw K A) (tCons (tVar 0) tNil)) (tOp (rIxL K) (tLst (tCons (tVar 3) (tCons (tCB rMin2 (tCons (tVar 3) (tCons (tC (.int 3)) tNil))) tNil))) (tOp oMod (tCl (sp_Ldraw K A) (tCons (tVar 0) tNil)) (tC (.int 2)))))) tNil)))))))
theorem pu_Lstay (T:Txt K mg A) {x0 x1:V} {H:Hp} {Q:VK} (h:P_Lstay K A x0 x1 H Q) : t_Lstay K A { nx:=fun _ H'=>Q .non H',rt:=Q } [some x0,some x1,none,none] H:=by
  obtain ⟨d,l,S,rfl,D0,ok,dS,k⟩:=h
  obtain ⟨s,r,p,ps,sa⟩:=SetAt.of dS
  cases sa.e
  have e0:=sa.t
  have er:=sa.r
  have hn:=ok.n1
  have hk:=ok.k1
  unfold t_Lstay
  walk_at "go"
  rename_i y1 H1 y10 y11 f1 D1 y2 H2 y20 y21 f2 D2 y3 H3 y30 y31 f3 D3 t H4 n4 f4 e4 y4 H5 y40 y41 f5 D5
  have htd : t≠d:=(D3.new1 n4).symm
  have b0:=Int.emod_nonneg y1 (show S.nights≠0 by omega)
  have b1:=Int.emod_lt_of_pos y1 (show 0 < S.nights by omega)
  have g0:=Int.emod_nonneg y2 (show ((S.rooms.length:Nat) : Int)≠0 by omega)
  have g1:=Int.emod_lt_of_pos y2 (show 0 < ((S.rooms.length:Nat) : Int) by omega)
  obtain ⟨v,hv,hmem⟩:=atI_mem (xs:=[V.int (S.nights - y1 % S.nights),V.int (if (3:Int) < S.nights - y1 % S.nights then 3 else S.nights - y1 % S.nights)]) (z:=y4 % 2) (by omega) (by show y4 % 2 < 2;omega)
  obtain ⟨y,rfl,hy⟩ : ∃ y,v=.int y∧0 < y∧y≤S.nights - y1 % S.nights:=by
    rcases List.mem_cons.mp hmem with h | hmem
    · exact ⟨_,h,by omega,by omega⟩
    · exact ⟨_,List.mem_singleton.mp hmem,by split <;> omega,by split <;> omega⟩
  refine g_ixL (SqL.of (f5.at e4 (nin1 htd nin0))) hv ?_
  obtain ⟨hy0,hy1⟩:=hy
  walk_at "go"
  rename_i st H6 n6 f6 e6
  have k0:=Int.emod_nonneg y3 (show y≠0 by omega)
  have k1:=Int.emod_lt_of_pos y3 hy0
  rw [List.length_map] at e6
  exact k _ (y2 % (S.rooms.length:Int),y1 % S.nights,y1 % S.nights + 1 + y3 % y) H6 ⟨g0,g1,b0,by show y1 % S.nights < y1 % S.nights + 1 + y3 % y;omega,by show y1 % S.nights + 1 + y3 % y≤S.nights;omega⟩
    (.tup e6 (Nat.le_of_ble_eq_true rfl) (.cons (.int _) (.cons (.int _) (.one' (.int _))))) (by walk_at "fr") (D5.fr f6 nin0 nin0)
theorem ok_Lstay {f:Addr} {fd:FuncData} (F:Fun K "_law_stay" "_law_stay" s_Lstay f fd) (T:Txt K mg A) (c_Ldraw:Cal P w K mg base "_law_draw" 2 ["_law_draws"] (sp_Ldraw K A)) : FnOk P w K mg base CX0 (3) f fd ["_law_draws","_law_setup_here"] (sp_Lstay K A):=by
  refine F.ok sc_Lstay (fun vs H Q E h=>?_) (fun cdv Ar outer s H vs Q E hr h=>⟨t_Lstay K A,?_,?_⟩)
  · obtain ⟨x0,x1,rfl,_⟩:=h
    rfl
  · have hu:=hu_of hr
    exact (pss_cons (ps_set (i:=2) sc_Lstay.nd rfl (Or.inl rfl) (pe_op o_mod (pe_cl c_Ldraw (hr.mono (by first | decide | omega)) (by rfl) (pa_cons (pv 0) pa_nil)) (pe_ix ix_tup (pv 1) pe_int (fun _ _=>rfl))))
    (pss_cons (ps_set (i:=3) sc_Lstay.nd rfl (Or.inl rfl) (pe_op o_sub (pe_ix ix_tup (pv 1) pe_int (fun _ _=>rfl)) (pv 2)))
    (pss_one (ps_ret (pe_tup (pa_cons (pe_op o_mod (pe_cl c_Ldraw (hr.mono (by first | decide | omega)) (by rfl) (pa_cons (pv 0) pa_nil)) (pe_callB b_len (by rfl) T.b_len (by decide +kernel) (pa_cons (pe_ix ix_tup (pv 1) pe_int (fun _ _=>rfl)) pa_nil))) (pa_cons (pv 2) (pa_cons (pe_op o_add (pe_op o_add (pv 2) pe_int) (pe_op o_mod (pe_cl c_Ldraw (hr.mono (by first | decide | omega)) (by rfl) (pa_cons (pv 0) pa_nil)) (pe_ix ix_list (pe_lst (pa_cons (pv 3) (pa_cons (pe_callB (b_min2 rfl) (by rfl) T.b_min (by decide +kernel) (pa_cons (pv 3) (pa_cons pe_int pa_nil))) pa_nil))) (pe_op o_mod (pe_cl c_Ldraw (hr.mono (by first | decide | omega)) (by rfl) (pa_cons (pv 0) pa_nil)) pe_int) (fun _ _=>rfl)))) pa_nil))))))))
  · obtain ⟨x0,x1,rfl,h⟩:=h
    exact pu_Lstay T h
theorem stays_alike (ss:List Stay) : PySem.W.AllAlike (ss.map stayD):=fun d hd d' hd'=>by
  obtain ⟨s,_,rfl⟩:=List.mem_map.mp hd
  obtain ⟨s',_,rfl⟩:=List.mem_map.mp hd'
  rfl
theorem stays_sortable (ss:List Stay) : PySem.W.Sortable (ss.map stayD):=.inl fun d hd=>by
  obtain ⟨s,_,rfl⟩:=List.mem_map.mp hd
  exact ⟨_,_,rfl⟩
theorem stays_depth (ss:List Stay) : ∀ d∈ss.map stayD,d.depth≤60:=fun d hd=>by
  obtain ⟨s,_,rfl⟩:=List.mem_map.mp hd
  simp [stayD,PyData.depth,PyData.depthAll]
def ssrt (ss:List Stay) : List Stay:=ss.mergeSort (PySem.W.dataLe false stayD)
theorem ssrt_map (ss:List Stay) : (ssrt ss).map stayD=srt (ss.map stayD):=srt_map stayD ss
theorem ssrt_perm (ss:List Stay) : (ssrt ss).Perm ss:=List.mergeSort_perm ss _
theorem ssrt_ssrt (ss:List Stay) : ssrt (ssrt ss)=ssrt ss:=List.mergeSort_of_pairwise (PySem.W.sort_pairwise (dle_total stayD) ss)
structure PartyOk (S:Setup) (ss:List Stay) : Prop where
  l1 : 1≤ss.length
  l4 : ss.length≤4
  ok:∀ s∈ss,StayOk S s
  so : ssrt ss=ss
def P_Lparty (K:PySem.W.Frag) (A:Ad) (x0 x1:V) (H:Hp) (Q:VK) : Prop:=∃ (d l:Addr) (S:Setup),x0=.ref d∧Draws H d l∧SetupOk S∧Da H x1 (setupD S)∧
  ∀ (v:V) (ss:List Stay) (H':Hp),PartyOk S ss→Da H' v (partyD ss)→Fr [d] H H'→Draws H' d l→Q v H'
def sp_Lparty (K:PySem.W.Frag) (A:Ad) : Sp:=fun vs H Q _=>∃ x0 x1,vs=[x0,x1]∧P_Lparty K A x0 x1 H Q
theorem c_Lparty {K:PySem.W.Frag} {A:Ad} {x0 x1:V} {H:Hp} {Q:VK} {E:XK} (h:P_Lparty K A x0 x1 H Q) : sp_Lparty K A [x0,x1] H Q E:=⟨_,_,rfl,h⟩
theorem sc_Lparty:FnScope ["_law_draws","_law_setup_here","_law_many","_law_stays","_law_k"] ["_law_draws","_law_setup_here"] (defScope s_Lparty):=⟨rfl,rfl,rfl,by decide +kernel,rfl,by decide +kernel,by decide +kernel⟩
def t_Lparty (K:PySem.W.Frag) (A:Ad) : TS:=
  (tSeq (tAsg (tOp (rIxL K) (tLst (tCons (tC (.int 1)) (tCons (tC (.int 1)) (tCons (tC (.int 1)) (tCons (tC (.int 2)) (tCons (tC (.int 2)) (tCons (tC (.int 3)) (tCons (tC (.int 4)) tNil)))))))) (tOp oMod (tCl (sp_Ldraw K A) (tCons (tVar 0) tNil)) (tC (.int 7)))) (gName 2))
    (tSeq (tAsg (tLc (iRng1 (tCons (tVar 2) tNil)) (gName 4) tYes (tCl (sp_Lstay K A) (tCons (tVar 0) (tCons (tVar 1) tNil))) [4]) (gName 3))
    (Evl.tCut (tIfS (tAnd (tTest (tOp cGt (tVar 2) (tC (.int 1)))) (tTest (tOp rEq (tOp oMod (tCl (sp_Ldraw K A) (tCons (tVar 0) tNil)) (tC (.int 4))) (tC (.int 0))))) (tAsg (tOp (rIxL K) (tVar 3) (tC (.int 0))) (gSub (tVar 3) (tC (.int 1)) rSetL)) tNext)
    (tRet (tCB (rTupOf K) (tCons (tCB (rSortD K) (tCons (tVar 3) tNil)) tNil))))))
theorem pu_Lparty (T:Txt K mg A) {x0 x1:V} {H:Hp} {Q:VK} (h:P_Lparty K A x0 x1 H Q) : t_Lparty K A { nx:=fun _ H'=>Q .non H',rt:=Q } [some x0,some x1,none,none,none] H:=by
  obtain ⟨d,l,S,rfl,D0,ok,dS,k⟩:=h
  unfold t_Lparty
  walk_at "go"
  rename_i t H1 n1 f1 e1 y H2 y0 y1 f2 D2
  have htd : t≠d:=((D0.fr f1 nin0 nin0).ne' e1 (by decide)).symm
  obtain ⟨v,hv,hmem⟩:=atI_mem (xs:=[V.int 1,V.int 1,V.int 1,V.int 2,V.int 2,V.int 3,V.int 4]) (z:=y % 7) (by omega) (by show y % 7 < 7;omega)
  obtain ⟨m,rfl,hm1,hm4⟩ : ∃ m,v=.int m∧1≤m∧m≤4:=by
    simp only [List.mem_cons,List.not_mem_nil,or_false] at hmem
    rcases hmem with h | h | h | h | h | h | h <;> exact ⟨_,h,by decide,by decide⟩
  refine g_ixL (SqL.of (f2.at e1 (nin1 htd nin0))) hv ?_
  have F2:Fr [d] H H2:=f2.pre0' f1
  have dS2:=Da.frL F2 dS (imm_setup S)
  walk_at "go"
  refine l_range (lo:=0) (n:=m.toNat) fun Dl H3 nD f3 e3=>⟨fun i acc H'=>∃ ss:List Stay,DaL H' acc (ss.map stayD)∧ss.length=i∧(∀ s∈ss,StayOk S s)∧Fr [d] H2 H'∧Draws H' d l,⟨[],.nil,rfl,fun _ q=>(nomatch q),f3.of0,D2.fr f3 nin0 nin0⟩,fun i acc H' hi ha ⟨ss,ds,hs,hk,f,D⟩=>?_,fun acc H' ha ⟨ss,ds,hs,hk,f,D⟩=>?_⟩
  · walk_at "go"
    refine ⟨rfl,?_⟩
    walk_at "go"
    refine c_Lstay ⟨d,l,S,rfl,D,ok,Da.frL f dS2 (imm_setup S),fun v s H4 so dv f4 D4=>?_⟩
    have hnd:Dl≠d:=(D2.new1 nD).symm
    have hnl:Dl≠l:=(D2.new2 nD).symm
    have hac : acc.length≤100:=by rw [ds.len,List.length_map];omega
    refine lcY_of (f4.at ha (nin1 hnd nin0)) (by walk_at "sz") fun H5 f5 e5=>⟨ss++[s],?_,by rw [List.length_append,hs];rfl,fun z hz=>?_,(f.transL f4).own1 f5 nD,D4.fr f5 (nin1 hnd.symm nin0) (nin1 hnl.symm nin0)⟩
    · rw [List.map_append]
      exact (DaL.frL f5 (DaL.frL f4 ds (imm_stays ss)) (imm_stays ss)).append (.one' (Da.frL f5 dv rfl))
    · rcases List.mem_append.mp hz with h | h
      · exact hk z h
      · rw [List.mem_singleton.mp h];exact so
  · have hnd:Dl≠d:=(D2.new1 nD).symm
    have hnl:Dl≠l:=(D2.new2 nD).symm
    have nDH:H Dl=none:=F2.freeL nD (nin1 hnd nin0)
    have hac : acc.length=ss.length:=by rw [ds.len,List.length_map]
    walk_at "go"
    refine g_cut (fun σ H'=>∃ (v4:Option V) (acc:List V) (ss:List Stay),σ=[some (.ref d),some x1,some (.int m),some (.ref Dl),v4]∧H' Dl=some (.lst acc)∧DaL H' acc (ss.map stayD)∧1≤ss.length∧ss.length≤4∧(∀ s∈ss,StayOk S s)∧Fr [d] H H'∧Draws H' d l) ?_ ?_
    · walk_at "go"
      refine g_ite (fun c=>?_) (fun c=>?_)
      · walk_at "go"
        rename_i z H4 z0 z1 f4 D4
        refine g_ite (fun c2=>?_) (fun c2=>?_)
        · obtain ⟨w,hw,hw2⟩:=atI_of (xs:=acc) (z:=0) (Int.le_refl _) (by omega)
          obtain ⟨s,a,hs0,rfl,_,da⟩:=stays_get ds hw2
          have ha4:H4 Dl=some (.lst acc):=f4.at ha (nin1 hnd nin0)
          walk_at "go"
          refine g_ixL (SqL.of ha4) hw ?_
          walk_at "go"
          refine g_setL ha4 (j:=1) (by unfold ixN;rw [if_pos (by decide),if_pos (by omega)];rfl) fun H5 f5 e5=>?_
          walk_at "go"
          refine ⟨_,_,ss.set 1 s,rfl,e5,?_,by rw [List.length_set];omega,by rw [List.length_set];omega,fun z hz=>?_,((F2.transL f).transL f4).own1 f5 nDH,D4.fr f5 (nin1 hnd.symm nin0) (nin1 hnl.symm nin0)⟩
          · rw [List.map_set]
            exact (DaL.frL f5 (DaL.frL f4 ds (imm_stays ss)) (imm_stays ss)).set (Da.frL f5 (Da.frL f4 da rfl) rfl)
          · rcases List.mem_or_eq_of_mem_set hz with h | h
            · exact hk z h
            · rw [h];exact hk s (List.mem_of_getElem? hs0)
        · walk_at "go"
          exact ⟨_,_,ss,rfl,f4.at ha (nin1 hnd nin0),DaL.frL f4 ds (imm_stays ss),by omega,by omega,hk,(F2.transL f).transL f4,D4⟩
      · walk_at "go"
        exact ⟨_,_,ss,rfl,ha,ds,by omega,by omega,hk,F2.transL f,D⟩
    · rintro σ H4 ⟨v4,acc,ss,rfl,ha,ds,h1,h4,hk,F4,D4⟩
      walk_at "go"
      refine g_srt (SqL.of ha) ds (stays_alike ss) (stays_sortable ss) (stays_depth ss) fun p H5 ys n5 f5 e5 dy=>?_
      rw [← ssrt_map] at dy
      have dy5:=DaL.frL f5 dy (imm_stays _)
      have hy : ys.length=ss.length:=by rw [dy.len,List.length_map,(ssrt_perm ss).length_eq]
      walk_at "go"
      rename_i q H6 n6 f6 e6
      exact k _ (ssrt ss) H6 ⟨by rw [(ssrt_perm ss).length_eq];exact h1,by rw [(ssrt_perm ss).length_eq];exact h4,fun s hs=>hk s ((ssrt_perm ss).mem_iff.mp hs),ssrt_ssrt ss⟩ (.tup e6 (by omega) (DaL.frL f6 dy5 (imm_stays _))) ((F4.then0 f5).then0 f6) ((D4.fr f5 nin0 nin0).fr f6 nin0 nin0)
theorem ok_Lparty {f:Addr} {fd:FuncData} (F:Fun K "_law_party" "_law_party" s_Lparty f fd) (T:Txt K mg A) (c_Lstay:Cal P w K mg base "_law_stay" 3 ["_law_draws","_law_setup_here"] (sp_Lstay K A)) (c_Ldraw:Cal P w K mg base "_law_draw" 2 ["_law_draws"] (sp_Ldraw K A)) : FnOk P w K mg base CX0 (4) f fd ["_law_draws","_law_setup_here"] (sp_Lparty K A):=by
  refine F.ok sc_Lparty (fun vs H Q E h=>?_) (fun cdv Ar outer s H vs Q E hr h=>⟨t_Lparty K A,?_,?_⟩)
  · obtain ⟨x0,x1,rfl,_⟩:=h
    rfl
  · have hu:=hu_of hr
    exact (pss_cons (ps_set (i:=2) sc_Lparty.nd rfl (Or.inl rfl) (pe_ix ix_list (pe_lst (pa_cons pe_int (pa_cons pe_int (pa_cons pe_int (pa_cons pe_int (pa_cons pe_int (pa_cons pe_int (pa_cons pe_int pa_nil)))))))) (pe_op o_mod (pe_cl c_Ldraw (hr.mono (by first | decide | omega)) (by rfl) (pa_cons (pv 0) pa_nil)) pe_int) (fun _ _=>rfl)))
    (pss_cons (ps_setLc (i:=3) (own:=[("_law_k",4)]) (g:=(gName 4)) (tt:=tYes) rfl sc_Lparty.nd rfl rfl (sw_true rfl rfl rfl (by decide +kernel)) (pi_range1 rfl T.b_range (pa_cons (pv 2) pa_nil)) (blkOk_by (N:=["_law_draws","_law_setup_here","_law_many","_law_stays","_law_k"]) (sc:=defScope s_Lparty) (own:=[("_law_k",4)]) (by decide +kernel)) (fun _ _ _ _ _=>(pg_name (i:=4) sc_Lparty.nd rfl (Or.inl rfl))) (fun _ _ _ _ _=>pts_nil) (fun _ _ _ _ _=>(pe_cl c_Lstay (hr.mono (by first | decide | omega)) (by rfl) (pa_cons (pv 0) (pa_cons (pv 1) pa_nil)))))
    (Evl.pss_cut (ps_if (PW.pt (pw_and (pt_cmpR c_gt (pv 2) pe_int (nomark _)) (pw_and1 (pt_cmpR op_eq (pe_op o_mod (pe_cl c_Ldraw (hr.mono (by first | decide | omega)) (by rfl) (pa_cons (pv 0) pa_nil)) pe_int) pe_int (nomark _))))) (pss_one (ps_asg (pe_ix ix_list (pv 3) pe_int (fun _ _=>rfl)) (pg_sub (pv 3) pe_int set_list))) pss_nil)
    (pss_one (ps_ret (pe_callTy b_tuple (by rfl) T.b_tuple (by decide +kernel) (pa_cons (pe_callB (b_sortD hr.units) (by rfl) T.b_sorted (by decide +kernel) (pa_cons (pv 3) pa_nil)) pa_nil)))))))
  · obtain ⟨x0,x1,rfl,h⟩:=h
    exact pu_Lparty T h
def st0:Stay:=(0,0,0)
def stG (ss:List Stay) (j:Nat) : Stay:=ss.getD j st0
def meetB (s t:Stay) : Bool:=decide (s.1=t.1) && (decide (s.2.1 < t.2.2) && decide (t.2.1 < s.2.2))
def cov (kind night:Int) (s:Stay) : Bool:=decide (s.1=kind) && (decide (s.2.1≤night) && decide (night < s.2.2))
def Fits (S:Setup) (ss:List Stay) : Prop:=∀ k n:Nat,k < S.rooms.length→(n:Int) < S.nights→((ss.filter (cov k n)).length:Int)≤S.rooms.getD k 0
def rmG (R:List (Option Int)) (j:Nat) : Option Int:=R.getD j none
def tkn (ss:List Stay) (R:List (Option Int)) (t:Stay) (i:Nat) : List Int:=(List.range i).filterMap fun j=>(rmG R j).bind fun r=>if meetB (stG ss j) t=true then some r else none
def free (t:List Int) (m:Nat) : List Int:=((List.range m).map fun i:Nat=>(i:Int)).filter fun r=>decide (r∉t)
abbrev rooms (S:Setup) (t:Stay) : Int:=S.rooms.getD t.1.toNat 0
structure Good (S:Setup) (ss:List Stay) (R:List (Option Int)) : Prop where
  len:R.length=ss.length
  rng:∀ j r,rmG R j=some r→0≤r∧r < rooms S (stG ss j)
  ncl:∀ j l r,rmG R j=some r→rmG R l=some r→j≠l→meetB (stG ss j) (stG ss l)=false
theorem meet_sym {s t:Stay} : meetB s t=meetB t s:=by
  unfold meetB
  rw [Bool.eq_iff_iff]
  simp only [Bool.and_eq_true,decide_eq_true_eq]
  constructor <;> (intro ⟨a,b,c⟩;exact ⟨a.symm,c,b⟩)
theorem rm_lt {R:List (Option Int)} {j:Nat} {r:Int} (h : rmG R j=some r) : j < R.length:=by
  unfold rmG at h
  rw [List.getD_eq_getElem?_getD] at h
  by_cases q : j < R.length
  · exact q
  · rw [List.getElem?_eq_none (by omega)] at h;cases h
theorem rm_set {R:List (Option Int)} {k j:Nat} {v:Option Int} (hk : k < R.length) : rmG (R.set k v) j=if j=k then v else rmG R j:=by
  unfold rmG
  rw [List.getD_eq_getElem?_getD,List.getD_eq_getElem?_getD,List.getElem?_set]
  by_cases q : k=j
  · subst q;simp [hk]
  · have q2 : ¬ j=k:=fun z=>q z.symm
    simp [q,q2]
theorem stG_mem {ss:List Stay} {k:Nat} (hk : k < ss.length) : stG ss k∈ss:=by
  unfold stG
  rw [List.getD_eq_getElem?_getD,List.getElem?_eq_getElem hk];exact List.getElem_mem hk
theorem map_getD {α:Type} (ss:List α) (d : α) : (List.range ss.length).map (fun j=>ss.getD j d)=ss:=by
  refine List.ext_getElem (by simp) fun i h1 h2=>?_
  rw [List.getElem_map,List.getElem_range,List.getD_eq_getElem?_getD,List.getElem?_eq_getElem h2];rfl
theorem filter_idx (ss:List Stay) (p:Stay→Bool) : ((List.range ss.length).filter fun j=>p (stG ss j)).length=(ss.filter p).length:=by
  have h:=congrArg (List.filter p) (map_getD ss st0)
  rw [List.filter_map] at h
  have h2:=congrArg List.length h
  rw [List.length_map] at h2
  exact h2
theorem mem_tkn {ss:List Stay} {R:List (Option Int)} {t:Stay} {i:Nat} {r:Int} : r∈tkn ss R t i↔∃ j,j < i∧rmG R j=some r∧meetB (stG ss j) t=true:=by
  unfold tkn
  rw [List.mem_filterMap]
  constructor
  · rintro ⟨j,hj,h⟩
    cases e : rmG R j with
    | none=>rw [e] at h;cases h
    | some q=>
      rw [e] at h
      by_cases m : meetB (stG ss j) t=true
      · have h':(if meetB (stG ss j) t=true then some q else none)=some r:=h
        rw [if_pos m] at h'
        exact ⟨j,List.mem_range.mp hj,e.trans h',m⟩
      · have h':(if meetB (stG ss j) t=true then some q else none)=some r:=h
        rw [if_neg m] at h';cases h'
  · rintro ⟨j,hj,e,m⟩
    refine ⟨j,List.mem_range.mpr hj,?_⟩
    rw [e]
    show (if meetB (stG ss j) t=true then some r else none)=some r
    rw [if_pos m]
theorem tkn_more {ss:List Stay} {R:List (Option Int)} {t:Stay} {i:Nat} : tkn ss R t (i + 1)=tkn ss R t i++(match rmG R i with | some r=>if meetB (stG ss i) t=true then [r] else [] | none=>[]):=by
  unfold tkn
  rw [List.range_succ,List.filterMap_append]
  congr 1
  cases e : rmG R i with
  | none=>simp [e]
  | some r=>
    by_cases m : meetB (stG ss i) t=true
    · simp [e,m]
    · simp [e,m]
theorem tkn_len {ss:List Stay} {R:List (Option Int)} {t:Stay} {i:Nat}:(tkn ss R t i).length≤i:=by
  unfold tkn
  exact Nat.le_trans (List.length_filterMap_le _ _) (by rw [List.length_range];exact Nat.le_refl _)
theorem free_mem {t:List Int} {m:Nat} {r:Int} (h : r∈free t m) : 0≤r∧r < m∧r∉t:=by
  obtain ⟨h1,h2⟩:=List.mem_filter.mp h
  obtain ⟨i,hi,rfl⟩:=List.mem_map.mp h1
  have:=List.mem_range.mp hi
  exact ⟨by omega,by omega,of_decide_eq_true h2⟩
theorem free_ne {S:Setup} {ss:List Stay} {R:List (Option Int)} {k:Nat} (G:Good S ss R) (F:Fits S ss) (ok:∀ s∈ss,StayOk S s) (hk : k < ss.length) (hn : rmG R k=none) (ho:∀ j r,rmG R j=some r→(stG ss j).2.1≤(stG ss k).2.1) :
    free (tkn ss R (stG ss k) ss.length) (rooms S (stG ss k)).toNat≠[]:=by
  intro hf
  have okk:StayOk S (stG ss k):=ok _ (stG_mem hk)
  obtain ⟨o1,o2,o3,o4,o5⟩:=okk
  generalize ht : stG ss k=t at *
  let TI:=(List.range ss.length).filter fun j=>(rmG R j).isSome && meetB (stG ss j) t
  have sub1:((List.range (rooms S t).toNat).map fun i:Nat=>(i:Int)) ⊆ TI.map fun j=>(rmG R j).getD 0:=by
    intro r hr
    have hnf : r∉free (tkn ss R t ss.length) (rooms S t).toNat:=by rw [hf];simp
    have hin : r∈tkn ss R t ss.length:=by
      by_cases q : r∈tkn ss R t ss.length
      · exact q
      · exact absurd (List.mem_filter.mpr ⟨hr,decide_eq_true q⟩) hnf
    obtain ⟨j,hj,e,m⟩:=mem_tkn.mp hin
    exact List.mem_map.mpr ⟨j,List.mem_filter.mpr ⟨List.mem_range.mpr hj,by rw [e,m];rfl⟩,by rw [e];rfl⟩
  have nd1:((List.range (rooms S t).toNat).map fun i:Nat=>(i:Int)).Nodup:=List.Pairwise.map _ (fun a b h=>by intro q;exact h (by omega)) List.nodup_range
  have l1:=List.Nodup.length_le_of_subset nd1 sub1
  rw [List.length_map,List.length_range,List.length_map] at l1
  let CI:=(List.range ss.length).filter fun j=>cov t.1 t.2.1 (stG ss j)
  have kn : k∉TI:=fun q=>by
    have:=(List.mem_filter.mp q).2
    rw [hn] at this;cases this
  have sub2:(k::TI) ⊆ CI:=by
    intro j hj
    rcases List.mem_cons.mp hj with h | h
    · rw [h]
      refine List.mem_filter.mpr ⟨List.mem_range.mpr hk,?_⟩
      rw [ht];unfold cov;simp;omega
    · obtain ⟨h1,h2⟩:=List.mem_filter.mp h
      rw [Bool.and_eq_true] at h2
      obtain ⟨r,hr⟩:=Option.isSome_iff_exists.mp h2.1
      have hle:=ho j r hr
      refine List.mem_filter.mpr ⟨h1,?_⟩
      have hm:=h2.2
      unfold meetB at hm
      simp only [Bool.and_eq_true,decide_eq_true_eq] at hm
      unfold cov
      simp only [Bool.and_eq_true,decide_eq_true_eq]
      exact ⟨hm.1,hle,hm.2.2⟩
  have nd2:(k::TI).Nodup:=List.nodup_cons.mpr ⟨kn,List.Pairwise.filter _ List.nodup_range⟩
  have l2:=List.Nodup.length_le_of_subset nd2 sub2
  have l3:CI.length=(ss.filter (cov t.1 t.2.1)).length:=filter_idx ss (cov t.1 t.2.1)
  have l4:=F t.1.toNat t.2.1.toNat (by omega) (by omega)
  rw [show ((t.1.toNat:Nat) : Int)=t.1 by omega,show ((t.2.1.toNat:Nat) : Int)=t.2.1 by omega,← l3] at l4
  have l5:(CI.length:Int)≤rooms S t:=l4
  rw [List.length_cons] at l2
  omega
theorem Good.set {S:Setup} {ss:List Stay} {R:List (Option Int)} {k:Nat} {r:Int} (G:Good S ss R) (hk : k < ss.length) (hr : r∈free (tkn ss R (stG ss k) ss.length) (rooms S (stG ss k)).toNat) : Good S ss (R.set k (some r)):=by
  obtain ⟨r0,r1,r2⟩:=free_mem hr
  have hk' : k < R.length:=by rw [G.len];exact hk
  have key:∀ l,l≠k→rmG R l=some r→meetB (stG ss l) (stG ss k)=false:=fun l hl e=>by
    cases q : meetB (stG ss l) (stG ss k) with
    | false=>rfl
    | true=>exact absurd (mem_tkn.mpr ⟨l,by rw [← G.len];exact rm_lt e,e,q⟩) r2
  refine ⟨by rw [List.length_set];exact G.len,fun j q h=>?_,fun j l q h1 h2 hne=>?_⟩
  · rw [rm_set hk'] at h
    by_cases e : j=k
    · rw [if_pos e] at h;cases h;rw [e];exact ⟨r0,by omega⟩
    · rw [if_neg e] at h;exact G.rng j q h
  · rw [rm_set hk'] at h1 h2
    by_cases e : j=k
    · rw [if_pos e] at h1;cases h1
      have e2 : l≠k:=fun z=>hne (e.trans z.symm)
      rw [if_neg e2] at h2
      rw [e,meet_sym];exact key l e2 h2
    · rw [if_neg e] at h1
      by_cases e2 : l=k
      · rw [if_pos e2] at h2;cases h2
        rw [e2];exact key j e h1
      · rw [if_neg e2] at h2;exact G.ncl j l q h1 h2 hne
def le2 (ss:List Stay) : Nat→Nat→Bool:=fun p q=>decide ((stG ss p).2.1 < (stG ss q).2.1∨((stG ss p).2.1=(stG ss q).2.1∧(p:Int)≤(q:Int)))
def ord (ss:List Stay) (is:List Nat) : List Nat:=is.mergeSort (le2 ss)
theorem le2_trans (ss:List Stay) : ∀ a b c,le2 ss a b=true→le2 ss b c=true→le2 ss a c=true:=fun a b c h1 h2=>by
  unfold le2 at *
  simp only [decide_eq_true_eq] at *
  omega
theorem le2_total (ss:List Stay) : ∀ a b,(le2 ss a b || le2 ss b a)=true:=fun a b=>by
  unfold le2
  simp only [Bool.or_eq_true,decide_eq_true_eq]
  omega
theorem ord_pw (ss:List Stay) (is:List Nat) : (ord ss is).Pairwise fun a b=>le2 ss a b=true:=List.pairwise_mergeSort (le2_trans ss) (le2_total ss) is
theorem ord_perm (ss:List Stay) (is:List Nat) : (ord ss is).Perm is:=List.mergeSort_perm is _
theorem ord_filter (ss:List Stay) (is:List Nat) (p:Nat→Bool) : ord ss (is.filter p)=(ord ss is).filter p:=
  List.Perm.eq_of_pairwise (le:=fun a b=>le2 ss a b=true) (fun a b _ _ h1 h2=>by
    unfold le2 at h1 h2
    simp only [decide_eq_true_eq] at h1 h2
    omega) (ord_pw ss _) ((ord_pw ss is).filter p) ((ord_perm ss _).trans ((ord_perm ss is).filter p).symm)
theorem ord_le {ss:List Stay} {is:List Nat} {i j:Nat} {a b:Nat} (hij : i < j) (ha:(ord ss is)[i]? = some a) (hb:(ord ss is)[j]? = some b) : (stG ss a).2.1≤(stG ss b).2.1:=by
  obtain ⟨h1,e1⟩:=List.getElem?_eq_some_iff.mp ha
  obtain ⟨h2,e2⟩:=List.getElem?_eq_some_iff.mp hb
  have:=List.pairwise_iff_getElem.mp (ord_pw ss is) i j h1 h2 hij
  rw [e1,e2] at this
  unfold le2 at this
  simp only [decide_eq_true_eq] at this
  omega
theorem take_le {ss:List Stay} {is:List Nat} {i:Nat} {a b:Nat} (ha : a∈(ord ss is).take i) (hb:(ord ss is)[i]? = some b) : (stG ss a).2.1≤(stG ss b).2.1:=by
  obtain ⟨j,hj⟩:=List.mem_iff_getElem?.mp ha
  have hji : j < i:=by
    have:=(List.getElem?_eq_some_iff.mp hj).1
    rw [List.length_take] at this;omega
  rw [List.getElem?_take_of_lt hji] at hj
  exact ord_le hji hj hb
theorem ord_nodup {ss:List Stay} {is:List Nat} (h : is.Nodup) : (ord ss is).Nodup:=(ord_perm ss is).symm.nodup h
theorem take_new {l:List Nat} {i b:Nat} (h : l.Nodup) (hb : l[i]? = some b) : b∉l.take i:=fun q=>by
  obtain ⟨j,hj⟩:=List.mem_iff_getElem?.mp q
  have hji : j < i:=by
    have:=(List.getElem?_eq_some_iff.mp hj).1
    rw [List.length_take] at this;omega
  rw [List.getElem?_take_of_lt hji] at hj
  obtain ⟨h1,e1⟩:=List.getElem?_eq_some_iff.mp hj
  obtain ⟨h2,e2⟩:=List.getElem?_eq_some_iff.mp hb
  exact List.pairwise_iff_getElem.mp h j i h1 h2 hji (e1.trans e2.symm)
structure Given (S:Setup) (ss:List Stay) (night:Int) (R:List (Option Int)) : Prop where
  g:Good S ss R
  n:∀ j,j < ss.length→(rmG R j=none↔night < (stG ss j).2.1)
def pick0 (S:Setup) (ss:List Stay) (R:List (Option Int)) (k:Nat) : Int:=(free (tkn ss R (stG ss k) ss.length) (rooms S (stG ss k)).toNat).headD 0
def stepR (S:Setup) (ss:List Stay) (R:List (Option Int)) (k:Nat) : List (Option Int):=R.set k (some (pick0 S ss R k))
structure HS (S:Setup) (ss:List Stay) (R0:List (Option Int)) (ks:List Nat) (R:List (Option Int)) : Prop where
  g:Good S ss R
  o:∀ j,j∉ks→rmG R j=rmG R0 j
  y:∀ j,j∈ks→(rmG R j).isSome=true
theorem head_mem {l:List Int} (h : l≠[]) : l.headD 0∈l:=by
  cases l with
  | nil=>exact absurd rfl h
  | cons a r=>exact List.mem_cons_self
theorem HS.step {S:Setup} {ss:List Stay} {night:Int} {R0 R:List (Option Int)} {ks:List Nat} {k:Nat} (h:HS S ss R0 ks R) (F:Fits S ss) (ok:∀ s∈ss,StayOk S s) (gv:Given S ss night R0) (hk : k < ss.length) (hn : k∉ks) (h0 : rmG R0 k=none) (hle:∀ j∈ks,(stG ss j).2.1≤(stG ss k).2.1) :
    free (tkn ss R (stG ss k) ss.length) (rooms S (stG ss k)).toNat≠[]∧HS S ss R0 (ks++[k]) (stepR S ss R k):=by
  have hRk : rmG R k=none:=by rw [h.o k hn];exact h0
  have hnk:=(gv.n k hk).mp h0
  have ho:∀ j r,rmG R j=some r→(stG ss j).2.1≤(stG ss k).2.1:=fun j r e=>by
    by_cases q : j∈ks
    · exact hle j q
    · rw [h.o j q] at e
      have hj : j < ss.length:=by rw [← gv.g.len];exact rm_lt e
      have hnn : ¬ night < (stG ss j).2.1:=fun z=>by have:=(gv.n j hj).mpr z;rw [e] at this;cases this
      omega
  have fne:=free_ne h.g F ok hk hRk ho
  have hkR : k < R.length:=by rw [h.g.len];exact hk
  refine ⟨fne,h.g.set hk (head_mem fne),fun j hj=>?_,fun j hj=>?_⟩
  · unfold stepR
    rw [rm_set hkR,if_neg fun z=>hj (by rw [z];simp)]
    exact h.o j fun q=>hj (List.mem_append_left _ q)
  · unfold stepR
    rw [rm_set hkR]
    by_cases z : j=k
    · rw [if_pos z];rfl
    · rw [if_neg z]
      rcases List.mem_append.mp hj with q | q
      · exact h.y j q
      · exact absurd (List.mem_singleton.mp q) z
def left (ss:List Stay) (R0:List (Option Int)) : List Nat:=(ord ss (List.range ss.length)).filter fun k=>decide (rmG R0 k=none)
def housed (S:Setup) (ss:List Stay) (R0:List (Option Int)) (i:Nat) : List (Option Int):=((left ss R0).take i).foldl (stepR S ss) R0
theorem left_mem {ss:List Stay} {R0:List (Option Int)} {k:Nat} : k∈left ss R0↔k < ss.length∧rmG R0 k=none:=by
  unfold left
  rw [List.mem_filter,(ord_perm ss _).mem_iff,List.mem_range,decide_eq_true_eq]
theorem left_nodup {ss:List Stay} {R0:List (Option Int)}:(left ss R0).Nodup:=List.Pairwise.filter _ (ord_nodup List.nodup_range)
theorem left_ord (ss:List Stay) (R0:List (Option Int)) : left ss R0=ord ss ((List.range ss.length).filter fun k=>decide (rmG R0 k=none)):=(ord_filter ss _ _).symm
theorem housed_more {S:Setup} {ss:List Stay} {R0:List (Option Int)} {i k:Nat} (h:(left ss R0)[i]? = some k) : housed S ss R0 (i + 1)=stepR S ss (housed S ss R0 i) k:=by
  unfold housed
  rw [take_more h,List.foldl_append];rfl
theorem housed_hs {S:Setup} {ss:List Stay} {night:Int} {R0:List (Option Int)} (F:Fits S ss) (ok:∀ s∈ss,StayOk S s) (gv:Given S ss night R0) : ∀ i,i≤(left ss R0).length→HS S ss R0 ((left ss R0).take i) (housed S ss R0 i)
  | 0,_=>⟨gv.g,fun _ _=>rfl,fun _ h=>nomatch h⟩
  | i + 1,hi=>by
    have ih:=housed_hs F ok gv i (by omega)
    have e:(left ss R0)[i]? = some ((left ss R0)[i]):=List.getElem?_eq_getElem (by omega)
    generalize (left ss R0)[i]=k at e
    obtain ⟨hk,h0⟩:=left_mem.mp (List.mem_of_getElem? e)
    have st:=ih.step F ok gv hk (take_new left_nodup e) h0 fun j hj=>by
      rw [left_ord] at hj e
      exact take_le hj e
    rw [housed_more e,take_more e]
    exact st.2
theorem housed_free {S:Setup} {ss:List Stay} {night:Int} {R0:List (Option Int)} (F:Fits S ss) (ok:∀ s∈ss,StayOk S s) (gv:Given S ss night R0) {i k:Nat} (e:(left ss R0)[i]? = some k) :
    free (tkn ss (housed S ss R0 i) (stG ss k) ss.length) (rooms S (stG ss k)).toNat≠[]:=by
  obtain ⟨hk,h0⟩:=left_mem.mp (List.mem_of_getElem? e)
  have hi:=(List.getElem?_eq_some_iff.mp e).1
  exact ((housed_hs F ok gv i (by omega)).step F ok gv hk (take_new left_nodup e) h0 fun j hj=>by
    rw [left_ord] at hj e
    exact take_le hj e).1
abbrev housedAll (S:Setup) (ss:List Stay) (R0:List (Option Int)) : List (Option Int):=housed S ss R0 (left ss R0).length
theorem housed_all {S:Setup} {ss:List Stay} {night:Int} {R0:List (Option Int)} (F:Fits S ss) (ok:∀ s∈ss,StayOk S s) (gv:Given S ss night R0) : Good S ss (housedAll S ss R0)∧(∀ j,j < ss.length→(rmG (housedAll S ss R0) j).isSome=true)∧∀ j r,rmG R0 j=some r→rmG (housedAll S ss R0) j=some r:=by
  have h:=housed_hs F ok gv (left ss R0).length (Nat.le_refl _)
  rw [List.take_length] at h
  refine ⟨h.g,fun j hj=>?_,fun j r e=>?_⟩
  · cases q : rmG R0 j with
    | none=>exact h.y j (left_mem.mpr ⟨hj,q⟩)
    | some r=>
      have e2:=h.o j fun z=>by (have:=(left_mem.mp z).2;rw [q] at this;cases this)
      rw [e2,q];rfl
  · have e2:=h.o j fun z=>by (have:=(left_mem.mp z).2;rw [e] at this;cases this)
    rw [e2];exact e
structure GI (S:Setup) (ss:List Stay) (night:Int) (i:Nat) (R:List (Option Int)) : Prop where
  g:Good S ss R
  y:∀ j,(rmG R j).isSome=true↔j∈(ord ss (List.range ss.length)).take i∧(stG ss j).2.1≤night
theorem GI.start (S:Setup) (ss:List Stay) (night:Int) : GI S ss night 0 (ss.map fun _=>none):=by
  have hn:∀ j,rmG (ss.map fun _=>(none:Option Int)) j=none:=fun j=>by
    unfold rmG
    rw [List.getD_eq_getElem?_getD,List.getElem?_map]
    cases ss[j]? <;> rfl
  refine ⟨⟨by rw [List.length_map],fun j r h=>by (rw [hn] at h;cases h),fun j l r h=>by (rw [hn] at h;cases h)⟩,fun j=>⟨fun h=>by (rw [hn] at h;cases h),fun h=>nomatch h.1⟩⟩
theorem GI.free {S:Setup} {ss:List Stay} {night:Int} {i k:Nat} {R:List (Option Int)} (h:GI S ss night i R) (F:Fits S ss) (ok:∀ s∈ss,StayOk S s) (e:(ord ss (List.range ss.length))[i]? = some k) : k < ss.length∧free (tkn ss R (stG ss k) ss.length) (rooms S (stG ss k)).toNat≠[]:=by
  have hk : k < ss.length:=List.mem_range.mp ((ord_perm ss _).mem_iff.mp (List.mem_of_getElem? e))
  have hnk:=take_new (ord_nodup List.nodup_range) e
  refine ⟨hk,free_ne h.g F ok hk ?_ fun j r hr=>take_le ((h.y j).mp (by rw [hr];rfl)).1 e⟩
  cases q : rmG R k with
  | none=>rfl
  | some r=>exact absurd ((h.y k).mp (by rw [q];rfl)).1 hnk
theorem GI.skip {S:Setup} {ss:List Stay} {night:Int} {i k:Nat} {R:List (Option Int)} (h:GI S ss night i R) (e:(ord ss (List.range ss.length))[i]? = some k) (hn : ¬ (stG ss k).2.1≤night) : GI S ss night (i + 1) R:=by
  refine ⟨h.g,fun j=>(h.y j).trans ⟨fun ⟨a,b⟩=>⟨by rw [take_more e];exact List.mem_append_left _ a,b⟩,fun ⟨a,b⟩=>⟨?_,b⟩⟩⟩
  rw [take_more e] at a
  rcases List.mem_append.mp a with a | a
  · exact a
  · rw [List.mem_singleton.mp a] at b;exact absurd b hn
theorem GI.more {S:Setup} {ss:List Stay} {night:Int} {i k:Nat} {r:Int} {R:List (Option Int)} (h:GI S ss night i R) (e:(ord ss (List.range ss.length))[i]? = some k) (hk : k < ss.length) (hn:(stG ss k).2.1≤night) (hr : r∈Toy.free (tkn ss R (stG ss k) ss.length) (rooms S (stG ss k)).toNat) : GI S ss night (i + 1) (R.set k (some r)):=by
  have hkR : k < R.length:=by rw [h.g.len];exact hk
  refine ⟨h.g.set hk hr,fun j=>?_⟩
  rw [rm_set hkR,take_more e,List.mem_append]
  by_cases q : j=k
  · subst q;simp [hn]
  · rw [if_neg q]
    refine (h.y j).trans ⟨fun ⟨a,b⟩=>⟨.inl a,b⟩,fun ⟨a,b⟩=>⟨?_,b⟩⟩
    rcases a with a | a
    · exact a
    · exact absurd (List.mem_singleton.mp a) q
theorem GI.fin {S:Setup} {ss:List Stay} {night:Int} {R:List (Option Int)} (h:GI S ss night ss.length R) : Given S ss night R:=by
  have hl:(ord ss (List.range ss.length)).length=ss.length:=by rw [(ord_perm ss _).length_eq,List.length_range]
  refine ⟨h.g,fun j hj=>?_⟩
  have y:=h.y j
  rw [List.take_of_length_le (by rw [hl];exact Nat.le_refl _)] at y
  have m : j∈ord ss (List.range ss.length):=(ord_perm ss _).mem_iff.mpr (List.mem_range.mpr hj)
  constructor
  · intro q
    by_cases z:(stG ss j).2.1≤night
    · have:=y.mpr ⟨m,z⟩;rw [q] at this;cases this
    · omega
  · intro q
    cases w : rmG R j with
    | none=>rfl
    | some r=>have:=(y.mp (by rw [w];rfl)).2;omega
def P_is_integer (K:PySem.W.Frag) (A:Ad) (x0:V) (H:Hp) (Q:VK) : Prop:=∃ z:Int,x0=.int z∧Q (.bl true) H
def sp_is_integer (K:PySem.W.Frag) (A:Ad) : Sp:=fun vs H Q _=>∃ x0,vs=[x0]∧P_is_integer K A x0 H Q
theorem c_is_integer {K:PySem.W.Frag} {A:Ad} {x0:V} {H:Hp} {Q:VK} {E:XK} (h:P_is_integer K A x0 H Q) : sp_is_integer K A [x0] H Q E:=⟨_,rfl,h⟩
theorem sc_is_integer:FnScope ["value"] ["value"] (defScope s_is_integer):=⟨rfl,rfl,rfl,by decide +kernel,rfl,by decide +kernel,by decide +kernel⟩
def t_is_integer (K:PySem.W.Frag) (A:Ad) : TS:=
  (tRet (tAndV (tCB (rIsi K) (tCons (tVar 0) (tCons (tC (.ty "int")) tNil))) (tNotV (tCB (rIsi K) (tCons (tVar 0) (tCons (tC (.ty "bool")) tNil))))))
theorem pu_is_integer (T:Txt K mg A) {x0:V} {H:Hp} {Q:VK} (h:P_is_integer K A x0 H Q) : t_is_integer K A { nx:=fun _ H'=>Q .non H',rt:=Q } [some x0] H:=by
  obtain ⟨z,rfl,k⟩:=h
  unfold t_is_integer
  walk_at "go"
  exact k
theorem ok_is_integer {f:Addr} {fd:FuncData} (F:Fun K "is_integer" "is_integer" s_is_integer f fd) (T:Txt K mg A)  : FnOk P w K mg base CX0 (1) f fd ["value"] (sp_is_integer K A):=by
  refine F.ok sc_is_integer (fun vs H Q E h=>?_) (fun cdv Ar outer s H vs Q E hr h=>⟨t_is_integer K A,?_,?_⟩)
  · obtain ⟨x0,rfl,_⟩:=h
    rfl
  · have hu:=hu_of hr
    exact (pss_one (ps_ret (pe_and (pe_callB call_isi (by rfl) T.b_isinstance (by decide +kernel) (pa_cons (pv 0) (pa_cons (pe_bltn (by rfl) T.b_int (by decide +kernel) (v:=.ty "int") rfl) pa_nil))) (pe_one (pe_not (pe_callB call_isi (by rfl) T.b_isinstance (by decide +kernel) (pa_cons (pv 0) (pa_cons (pe_bltn (by rfl) T.b_bool (by decide +kernel) (v:=.ty "bool") rfl) pa_nil))))))))
  · obtain ⟨x0,rfl,h⟩:=h
    exact pu_is_integer T h
def P_is_from (K:PySem.W.Frag) (A:Ad) (x0 x1 x2:V) (H:Hp) (Q:VK) : Prop:=∃ z a b:Int,x0=.int z∧x1=.int a∧x2=.int b∧Q (.bl (decide (a≤z) && decide (z≤b))) H
def sp_is_from (K:PySem.W.Frag) (A:Ad) : Sp:=fun vs H Q _=>∃ x0 x1 x2,vs=[x0,x1,x2]∧P_is_from K A x0 x1 x2 H Q
theorem c_is_from {K:PySem.W.Frag} {A:Ad} {x0 x1 x2:V} {H:Hp} {Q:VK} {E:XK} (h:P_is_from K A x0 x1 x2 H Q) : sp_is_from K A [x0,x1,x2] H Q E:=⟨_,_,_,rfl,h⟩
theorem sc_is_from:FnScope ["value","least","most"] ["value","least","most"] (defScope s_is_from):=⟨rfl,rfl,rfl,by decide +kernel,rfl,by decide +kernel,by decide +kernel⟩
def t_is_from (K:PySem.W.Frag) (A:Ad) : TS:=
  (tRet (tAndV (tCl (sp_is_integer K A) (tCons (tVar 0) tNil)) (tChain cLe cLe (tVar 1) (tVar 0) (tVar 2))))
theorem pu_is_from (T:Txt K mg A) {x0 x1 x2:V} {H:Hp} {Q:VK} (h:P_is_from K A x0 x1 x2 H Q) : t_is_from K A { nx:=fun _ H'=>Q .non H',rt:=Q } [some x0,some x1,some x2] H:=by
  obtain ⟨z,a,b,rfl,rfl,rfl,k⟩:=h
  unfold t_is_from
  walk_at "go"
  refine c_is_integer ⟨_,rfl,?_⟩
  walk_at "go"
  refine g_ite (fun c=>?_) (fun c=>?_)
  · walk_at "go"
    rw [decide_eq_true c,Bool.true_and] at k
    exact k
  · rw [decide_eq_false c,Bool.false_and] at k
    exact k
theorem ok_is_from {f:Addr} {fd:FuncData} (F:Fun K "is_from" "is_from" s_is_from f fd) (T:Txt K mg A) (c_is_integer:Cal P w K mg base "is_integer" 1 ["value"] (sp_is_integer K A)) : FnOk P w K mg base CX0 (2) f fd ["value","least","most"] (sp_is_from K A):=by
  refine F.ok sc_is_from (fun vs H Q E h=>?_) (fun cdv Ar outer s H vs Q E hr h=>⟨t_is_from K A,?_,?_⟩)
  · obtain ⟨x0,x1,x2,rfl,_⟩:=h
    rfl
  · have hu:=hu_of hr
    exact (pss_one (ps_ret (pe_and (pe_cl c_is_integer (hr.mono (by first | decide | omega)) (by rfl) (pa_cons (pv 0) pa_nil)) (pe_one (pe_chain c_le c_le (pv 1) (pv 0) (pv 2))))))
  · obtain ⟨x0,x1,x2,rfl,h⟩:=h
    exact pu_is_from T h
def P_nights_of (K:PySem.W.Frag) (A:Ad) (x0:V) (H:Hp) (Q:VK) : Prop:=∃ (a:Addr) (s:Stay),x0=.ref a∧H a=some (.tup [.int s.1,.int s.2.1,.int s.2.2])∧0≤s.2.1∧s.2.1≤10000∧0≤s.2.2∧s.2.2≤10000∧
  ∀ (p:Addr) (H':Hp),H p=none→Fr [] H H'→H' p=some (.lst ((List.range (s.2.2 - s.2.1).toNat).map fun i=>V.int (s.2.1 + (i:Nat))))→Q (.ref p) H'
def sp_nights_of (K:PySem.W.Frag) (A:Ad) : Sp:=fun vs H Q _=>∃ x0,vs=[x0]∧P_nights_of K A x0 H Q
theorem c_nights_of {K:PySem.W.Frag} {A:Ad} {x0:V} {H:Hp} {Q:VK} {E:XK} (h:P_nights_of K A x0 H Q) : sp_nights_of K A [x0] H Q E:=⟨_,rfl,h⟩
theorem sc_nights_of:FnScope ["stay"] ["stay"] (defScope s_nights_of):=⟨rfl,rfl,rfl,by decide +kernel,rfl,by decide +kernel,by decide +kernel⟩
def t_nights_of (K:PySem.W.Frag) (A:Ad) : TS:=
  (tRet (tLstRg (tRg2 (tOp (rIxT K) (tVar 0) (tC (.int 1))) (tOp (rIxT K) (tVar 0) (tC (.int 2))))))
theorem pu_nights_of (T:Txt K mg A) {x0:V} {H:Hp} {Q:VK} (h:P_nights_of K A x0 H Q) : t_nights_of K A { nx:=fun _ H'=>Q .non H',rt:=Q } [some x0] H:=by
  obtain ⟨a,s,rfl,e,b0,b1,b2,b3,k⟩:=h
  unfold t_nights_of
  ((with_reducible refine g_ret (g_lstRg ?_));walk_at "3";walk_at "3";(with_reducible refine' g_rlrg ?h166 ?_);(case h166=>exact RgOk.of_le (by omega) (by omega) (by omega) (by omega));walk_at "new")
  rename_i p H1 n1 f1 e1
  exact k p H1 n1 f1 e1
theorem ok_nights_of {f:Addr} {fd:FuncData} (F:Fun K "nights_of" "nights_of" s_nights_of f fd) (T:Txt K mg A)  : FnOk P w K mg base CX0 (1) f fd ["stay"] (sp_nights_of K A):=by
  refine F.ok sc_nights_of (fun vs H Q E h=>?_) (fun cdv Ar outer s H vs Q E hr h=>⟨t_nights_of K A,?_,?_⟩)
  · obtain ⟨x0,rfl,_⟩:=h
    rfl
  · have hu:=hu_of hr
    exact (pss_one (ps_ret (pe_listRg rfl (by rfl) T.b_list (prg_2 (by rfl) T.b_range (pe_ix ix_tup (pv 0) pe_int (fun _ _=>rfl)) (pe_ix ix_tup (pv 0) pe_int (fun _ _=>rfl))))))
  · obtain ⟨x0,rfl,h⟩:=h
    exact pu_nights_of T h
theorem meet_mm {s t:Stay} (hs : s.2.1 < s.2.2) (ht : t.2.1 < t.2.2) : meetB s t=(decide (s.1=t.1) && decide ((if t.2.1 > s.2.1 then t.2.1 else s.2.1) < (if t.2.2 < s.2.2 then t.2.2 else s.2.2))):=by
  unfold meetB
  rw [Bool.eq_iff_iff]
  simp only [Bool.and_eq_true,decide_eq_true_eq]
  split <;> split <;> omega
def P_meet (K:PySem.W.Frag) (A:Ad) (x0 x1:V) (H:Hp) (Q:VK) : Prop:=∃ (s t:Stay),Da H x0 (stayD s)∧Da H x1 (stayD t)∧s.2.1 < s.2.2∧t.2.1 < t.2.2∧Q (.bl (meetB s t)) H
def sp_meet (K:PySem.W.Frag) (A:Ad) : Sp:=fun vs H Q _=>∃ x0 x1,vs=[x0,x1]∧P_meet K A x0 x1 H Q
theorem c_meet {K:PySem.W.Frag} {A:Ad} {x0 x1:V} {H:Hp} {Q:VK} {E:XK} (h:P_meet K A x0 x1 H Q) : sp_meet K A [x0,x1] H Q E:=⟨_,_,rfl,h⟩
theorem sc_meet:FnScope ["first","second"] ["first","second"] (defScope s_meet):=⟨rfl,rfl,rfl,by decide +kernel,rfl,by decide +kernel,by decide +kernel⟩
def t_meet (K:PySem.W.Frag) (A:Ad) : TS:=
  (tRet (tAndV (tOp rEq (tOp (rIxT K) (tVar 0) (tC (.int 0))) (tOp (rIxT K) (tVar 1) (tC (.int 0)))) (tOp cLt (tCB rMax2 (tCons (tOp (rIxT K) (tVar 0) (tC (.int 1))) (tCons (tOp (rIxT K) (tVar 1) (tC (.int 1))) tNil))) (tCB rMin2 (tCons (tOp (rIxT K) (tVar 0) (tC (.int 2))) (tCons (tOp (rIxT K) (tVar 1) (tC (.int 2))) tNil))))))
theorem pu_meet (T:Txt K mg A) {x0 x1:V} {H:Hp} {Q:VK} (h:P_meet K A x0 x1 H Q) : t_meet K A { nx:=fun _ H'=>Q .non H',rt:=Q } [some x0,some x1] H:=by
  obtain ⟨s,t,ds,dt,hs,ht,k⟩:=h
  obtain ⟨a,rfl,ea⟩:=stay_at ds
  obtain ⟨b,rfl,eb⟩:=stay_at dt
  rw [meet_mm hs ht] at k
  unfold t_meet
  walk_at "go"
  refine g_iteB (fun c=>?_) (fun c=>?_)
  · walk_at "go"
    rw [c,Bool.true_and] at k
    exact k
  · rw [c,Bool.false_and] at k
    exact k
theorem ok_meet {f:Addr} {fd:FuncData} (F:Fun K "meet" "meet" s_meet f fd) (T:Txt K mg A)  : FnOk P w K mg base CX0 (1) f fd ["first","second"] (sp_meet K A):=by
  refine F.ok sc_meet (fun vs H Q E h=>?_) (fun cdv Ar outer s H vs Q E hr h=>⟨t_meet K A,?_,?_⟩)
  · obtain ⟨x0,x1,rfl,_⟩:=h
    rfl
  · have hu:=hu_of hr
    exact (pss_one (ps_ret (pe_and (pe_cmpR op_eq (pe_ix ix_tup (pv 0) pe_int (fun _ _=>rfl)) (pe_ix ix_tup (pv 1) pe_int (fun _ _=>rfl)) (nomark _)) (pe_one (pe_cmpR c_lt (pe_callB (b_max2 rfl) (by rfl) T.b_max (by decide +kernel) (pa_cons (pe_ix ix_tup (pv 0) pe_int (fun _ _=>rfl)) (pa_cons (pe_ix ix_tup (pv 1) pe_int (fun _ _=>rfl)) pa_nil))) (pe_callB (b_min2 rfl) (by rfl) T.b_min (by decide +kernel) (pa_cons (pe_ix ix_tup (pv 0) pe_int (fun _ _=>rfl)) (pa_cons (pe_ix ix_tup (pv 1) pe_int (fun _ _=>rfl)) pa_nil))) (nomark _))))))
  · obtain ⟨x0,x1,rfl,h⟩:=h
    exact pu_meet T h
def P_check_room (K:PySem.W.Frag) (A:Ad) (x0 x1:V) (H:Hp) (Q:VK) : Prop:=∃ (r p:Addr) (xs:List V) (S:Setup) (ss:List Stay),x0=.ref r∧x1=.ref p∧H r=some (.tup (S.rooms.map V.int))∧H p=some (.lst xs)∧DaL H xs (ss.map stayD)∧ss.length≤100∧SetupOk S∧(∀ s∈ss,StayOk S s)∧Fits S ss∧
  ∀ H',Fr [] H H'→Q .non H'
theorem room_at {S:Setup} {s:Stay} (ok:StayOk S s) : atI (S.rooms.map V.int) s.1=some (.int (rooms S s)):=by
  obtain ⟨o1,o2,_⟩:=ok
  have hk : s.1.toNat < S.rooms.length:=by omega
  have e:(S.rooms.map V.int)[s.1.toNat]? = some (.int (rooms S s)):=by
    unfold rooms
    rw [List.getElem?_map,List.getElem?_eq_getElem hk,List.getD_eq_getElem?_getD,List.getElem?_eq_getElem hk];rfl
  have:=atI_nat e
  rw [show ((s.1.toNat:Nat) : Int)=s.1 by omega] at this
  exact this
theorem meet_one {s:Stay} (k n:Int) (h : s.2.1 < s.2.2) : meetB s (k,n,n + 1)=cov k n s:=by
  unfold meetB cov
  rw [Bool.eq_iff_iff]
  simp only [Bool.and_eq_true,decide_eq_true_eq]
  omega
def sp_check_room (K:PySem.W.Frag) (A:Ad) : Sp:=fun vs H Q _=>∃ x0 x1,vs=[x0,x1]∧P_check_room K A x0 x1 H Q
theorem c_check_room {K:PySem.W.Frag} {A:Ad} {x0 x1:V} {H:Hp} {Q:VK} {E:XK} (h:P_check_room K A x0 x1 H Q) : sp_check_room K A [x0,x1] H Q E:=⟨_,_,rfl,h⟩
theorem sc_check_room:FnScope ["rooms","stays","stay","night","one","other"] ["rooms","stays"] (defScope s_check_room):=⟨rfl,rfl,rfl,by decide +kernel,rfl,by decide +kernel,by decide +kernel⟩
def t_check_room (K:PySem.W.Frag) (A:Ad) : TS:=
  (tFor (iList K (tVar 1)) (gName 2) (tFor (iList K (tCl (sp_nights_of K A) (tCons (tVar 2) tNil))) (gName 3) (tSeq (tAsg (tTup (tCons (tOp (rIxT K) (tVar 2) (tC (.int 0))) (tCons (tVar 3) (tCons (tOp oAdd (tVar 3) (tC (.int 1))) tNil)))) (gName 4))
    (tIfS (tTest (tOp cGt (tCB (rLenSq K) (tCons (tLc (iList K (tVar 1)) (gName 5) (tB (tCl (sp_meet K A) (tCons (tVar 5) (tCons (tVar 4) tNil)))) (tVar 5) [5]) tNil)) (tOp (rIxT K) (tVar 0) (tOp (rIxT K) (tVar 2) (tC (.int 0)))))) tDead tNext))))
theorem pu_check_room (T:Txt K mg A) {x0 x1:V} {H:Hp} {Q:VK} (h:P_check_room K A x0 x1 H Q) : t_check_room K A { nx:=fun _ H'=>Q .non H',rt:=Q } [some x0,some x1,none,none,none,none] H:=by
  obtain ⟨r,p,xs,S,ss,rfl,rfl,er,ep,ds,hl,so,ok,F,k⟩:=h
  have hxl : xs.length=ss.length:=by rw [ds.len,List.length_map]
  unfold t_check_room
  walk_at "go"
  refine f_list (xs:=xs) (fun i σ H'=>∃ v2 v3 v4 v5,σ=[some (.ref r),some (.ref p),v2,v3,v4,v5]∧Fr [] H H') ⟨_,_,_,_,rfl,Fr.refl⟩ (fun i σ H' _ ⟨_,_,_,_,_,f⟩=>SqL.of (f.at0 ep)) ?_ ?_
  · rintro i x σ H1 hx ⟨v2,v3,v4,v5,rfl,f1⟩
    obtain ⟨s,a,hs,rfl,ea,_⟩:=stays_get ds hx
    have oks:=ok s (List.mem_of_getElem? hs)
    obtain ⟨o1,o2,o3,o4,o5⟩:=id oks
    have n12:=so.n2
    walk_at "go"
    refine c_nights_of ⟨a,s,rfl,f1.tup _ _ ea,o3,by omega,by omega,by omega,fun q H2 n2 f2 e2=>?_⟩
    walk_at "go"
    refine f_list (xs:=(List.range (s.2.2 - s.2.1).toNat).map fun i=>V.int (s.2.1 + (i:Nat))) (fun j σ H'=>∃ v3 v4 v5,σ=[some (.ref r),some (.ref p),some (.ref a),v3,v4,v5]∧Fr [] H2 H') ⟨_,_,_,rfl,Fr.refl⟩ (fun i σ H' _ ⟨_,_,_,_,f⟩=>SqL.of (f.at0 e2)) ?_ ?_
    · rintro j y σ H3 hy ⟨v3,v4,v5,rfl,f3⟩
      have hj : j < (s.2.2 - s.2.1).toNat:=by have:=(List.getElem?_eq_some_iff.mp hy).1;simpa using this
      rw [List.getElem?_map,List.getElem?_range hj] at hy
      cases hy
      have F3:Fr [] H H3:=(f1.then0 f2).then0 f3
      have ea3:=F3.tup _ _ ea
      have er3:=F3.tup _ _ er
      walk_at "go"
      rename_i t H4 n4 f4 e4
      have F4:Fr [] H H4:=F3.then0 f4
      have ep4:=F4.at0 ep
      have er4:=F4.tup _ _ er
      have ea4:=F4.tup _ _ ea
      walk_at "go"
      refine l_list (xs:=xs) fun Dl H5 nD f5 e5=>⟨fun m acc H'=>Fr [] H4 H'∧acc.length=((ss.take m).filter (cov s.1 (s.2.1 + (j:Nat)))).length,⟨f5,rfl⟩,fun m acc H' ⟨f,_⟩=>SqL.of (f.at0 ep4),fun m x acc H' hx ha ⟨f,hacc⟩=>?_,fun acc H' ha ⟨f,hacc⟩=>?_⟩
      · obtain ⟨u,b,hu,rfl,eb,du⟩:=stays_get ds hx
        have oku:=ok u (List.mem_of_getElem? hu)
        have hul:=(List.getElem?_eq_some_iff.mp hu).1
        have FF:Fr [] H H':=F4.then0 f
        have fm:=filter_more (f:=cov s.1 (s.2.1 + (j:Nat))) hu
        have hal : acc.length≤100:=by rw [hacc];exact Nat.le_trans (List.length_filter_le _ _) (by rw [List.length_take];omega)
        walk_at "go"
        refine ⟨rfl,?_⟩
        walk_at "go"
        refine c_meet ⟨u,(s.1,s.2.1 + (j:Nat),s.2.1 + (j:Nat) + 1),Da.frL FF du rfl,.tup (f.tup _ _ e4) (Nat.le_of_ble_eq_true rfl) (.cons (.int _) (.cons (.int _) (.one' (.int _)))),oku.2.2.2.1,by show s.2.1 + (j:Nat) < s.2.1 + (j:Nat) + 1;omega,?_⟩
        rw [meet_one _ _ oku.2.2.2.1]
        walk_at "go"
        by_cases c : cov s.1 (s.2.1 + (j:Nat)) u=true
        · rw [c]
          walk_at "go"
          refine lcY_of ha (by walk_at "sz") fun H6 f6 e6=>⟨f.own1 f6 nD,?_⟩
          rw [fm,if_pos c,List.length_append,List.length_append,hacc];rfl
        · rw [(by simpa using c : cov s.1 (s.2.1 + (j:Nat)) u=false)]
          walk_at "go"
          refine lcN_of ha ⟨f,?_⟩
          rw [fm,if_neg c,List.append_nil];exact hacc
      · rw [hxl,List.take_length] at hacc
        have er5:=f.tup _ _ er4
        have ea5:=f.tup _ _ ea4
        walk_at "go"
        refine g_ixT (SqT.of er5) (room_at oks) ?_
        walk_at "go"
        have hF:=F s.1.toNat (s.2.1 + (j:Nat)).toNat (by omega) (by omega)
        rw [show ((s.1.toNat:Nat) : Int)=s.1 by omega,show (((s.2.1 + (j:Nat)).toNat:Nat) : Int)=s.2.1 + (j:Nat) by omega,← hacc] at hF
        refine g_ite (fun c=>absurd hF (by show ¬ ((acc.length:Int)≤rooms S s);omega)) (fun _=>?_)
        walk_at "go"
        exact ⟨_,_,_,rfl,(f3.then0 f4).then0 f⟩
    · rintro σ H3 ⟨v3,v4,v5,rfl,f3⟩
      exact ⟨_,_,_,_,rfl,(f1.then0 f2).then0 f3⟩
  · rintro σ H1 ⟨v2,v3,v4,v5,rfl,f1⟩
    walk_at "go"
    exact k H1 f1
theorem ok_check_room {f:Addr} {fd:FuncData} (F:Fun K "check_room" "check_room" s_check_room f fd) (T:Txt K mg A) (c_nights_of:Cal P w K mg base "nights_of" 1 ["stay"] (sp_nights_of K A)) (c_meet:Cal P w K mg base "meet" 1 ["first","second"] (sp_meet K A)) : FnOk P w K mg base CX0 (2) f fd ["rooms","stays"] (sp_check_room K A):=by
  refine F.ok sc_check_room (fun vs H Q E h=>?_) (fun cdv Ar outer s H vs Q E hr h=>⟨t_check_room K A,?_,?_⟩)
  · obtain ⟨x0,x1,rfl,_⟩:=h
    rfl
  · have hu:=hu_of hr
    exact (pss_one (ps_for PassesOwn.never rfl (pi_list (pv 1)) (pg_name (i:=2) sc_check_room.nd rfl (Or.inl rfl)) (pss_one (ps_for PassesOwn.never rfl (pi_list (pe_cl c_nights_of (hr.mono (by first | decide | omega)) (by rfl) (pa_cons (pv 2) pa_nil))) (pg_name (i:=3) sc_check_room.nd rfl (Or.inl rfl)) (pss_cons (ps_set (i:=4) sc_check_room.nd rfl (Or.inr rfl) (pe_tup (pa_cons (pe_ix ix_tup (pv 2) pe_int (fun _ _=>rfl)) (pa_cons (pv 3) (pa_cons (pe_op o_add (pv 3) pe_int) pa_nil)))))
    (pss_one (ps_if (pt_cmpR c_gt (pe_callB b_len (by rfl) T.b_len (by decide +kernel) (pa_cons (pe_lc (own:=[("other",5)]) (g:=(gName 5)) (tt:=(tB (tCl (sp_meet K A) (tCons (tVar 5) (tCons (tVar 4) tNil))))) rfl sc_check_room.nd (pi_list (pv 1)) (blkOk_by (N:=["rooms","stays","stay","night","one","other"]) (sc:=defScope s_check_room) (own:=[("other",5)]) (by decide +kernel)) (fun _ _ _ _ _=>(pg_name (i:=5) sc_check_room.nd rfl (Or.inl rfl))) (fun _ _ _ _ _=>(pts_one (pt_val (pe_cl c_meet (hr.mono (by first | decide | omega)) (by rfl) (pa_cons (pv 5) (pa_cons (pv 4) pa_nil)))))) (fun _ _ _ _ _=>(pv 5))) pa_nil)) (pe_ix ix_tup (pv 0) (pe_ix ix_tup (pv 2) pe_int (fun _ _=>rfl)) (fun _ _=>rfl)) (nomark _)) (pss_one ps_dead) pss_nil)))))))
  · obtain ⟨x0,x1,rfl,h⟩:=h
    exact pu_check_room T h
theorem optV_non {o:Option Int} : optV o=.non↔o=none:=by cases o <;> simp [optV]
theorem opt_at {R:List (Option Int)} {i:Nat} (h : i < R.length) : (R.map optV)[i]? = some (optV (rmG R i)):=by
  rw [List.getElem?_map,List.getElem?_eq_getElem h]
  unfold rmG
  rw [List.getD_eq_getElem?_getD,List.getElem?_eq_getElem h];rfl
theorem stays_at {H:Hp} {xs:List V} {ss:List Stay} {i:Nat} (h:DaL H xs (ss.map stayD)) (hi : i < ss.length) : ∃ a,xs[i]? = some (.ref a)∧H a=some (.tup [.int (stG ss i).1,.int (stG ss i).2.1,.int (stG ss i).2.2])∧Da H (.ref a) (stayD (stG ss i)):=by
  obtain ⟨v,hv,dv⟩:=h.get' (i:=i) (d:=stayD (stG ss i)) (by
    unfold stG
    rw [List.getElem?_map,List.getElem?_eq_getElem hi,List.getD_eq_getElem?_getD,List.getElem?_eq_getElem hi];rfl)
  obtain ⟨a,rfl,ea⟩:=stay_at dv
  exact ⟨a,hv,ea,dv⟩
def P_check_given (K:PySem.W.Frag) (A:Ad) (x0 x1 x2 x3:V) (H:Hp) (Q:VK) : Prop:=∃ (r p g:Addr) (xs:List V) (S:Setup) (ss:List Stay) (night:Int) (R:List (Option Int)),x0=.ref r∧x1=.ref p∧x2=.int night∧x3=.ref g∧H r=some (.tup (S.rooms.map V.int))∧H p=some (.lst xs)∧DaL H xs (ss.map stayD)∧ss.length≤100∧(∀ s∈ss,StayOk S s)∧
  H g=some (.lst (R.map optV))∧Given S ss night R∧∀ H',Fr [] H H'→Q .non H'
def sp_check_given (K:PySem.W.Frag) (A:Ad) : Sp:=fun vs H Q _=>∃ x0 x1 x2 x3,vs=[x0,x1,x2,x3]∧P_check_given K A x0 x1 x2 x3 H Q
theorem c_check_given {K:PySem.W.Frag} {A:Ad} {x0 x1 x2 x3:V} {H:Hp} {Q:VK} {E:XK} (h:P_check_given K A x0 x1 x2 x3 H Q) : sp_check_given K A [x0,x1,x2,x3] H Q E:=⟨_,_,_,_,rfl,h⟩
theorem sc_check_given:FnScope ["rooms","stays","night","given","index","stay","room","before"] ["rooms","stays","night","given"] (defScope s_check_given):=⟨rfl,rfl,rfl,by decide +kernel,rfl,by decide +kernel,by decide +kernel⟩
def t_check_given (K:PySem.W.Frag) (A:Ad) : TS:=
  (tSeq (tIfS (tTest (tOp rNe (tCB (rLenSq K) (tCons (tVar 3) tNil)) (tCB (rLenSq K) (tCons (tVar 1) tNil)))) tDead tNext)
    (tFor (iEnum K (tCons (tVar 1) tNil)) (gTup K 2 (gCons (gName 4) (gCons (gName 5) gNil))) (tSeq (tAsg (tOp (rIxL K) (tVar 3) (tVar 4)) (gName 6))
    (tSeq (tIfS (tTest (tOp rNe (tOp rIsNon (tVar 6) (tC .non)) (tOp cGt (tOp (rIxT K) (tVar 5) (tC (.int 1))) (tVar 2)))) tDead tNext)
    (tSeq (tIfS (tAnd (tTest (tOp rIsNotNon (tVar 6) (tC .non))) (tNot (tB (tCl (sp_is_from K A) (tCons (tVar 6) (tCons (tC (.int 0)) (tCons (tOp oSub (tOp (rIxT K) (tVar 0) (tOp (rIxT K) (tVar 5) (tC (.int 0)))) (tC (.int 1))) tNil))))))) tDead tNext)
    (tFor (iRng1 (tCons (tVar 4) tNil)) (gName 7) (tIfS (tAnd (tTest (tOp rIsNotNon (tVar 6) (tC .non))) (tAnd (tTest (tOp rEq (tOp (rIxL K) (tVar 3) (tVar 7)) (tVar 6))) (tB (tCl (sp_meet K A) (tCons (tOp (rIxL K) (tVar 1) (tVar 7)) (tCons (tVar 5) tNil)))))) tDead tNext)))))))
theorem pu_check_given (T:Txt K mg A) {x0 x1 x2 x3:V} {H:Hp} {Q:VK} (h:P_check_given K A x0 x1 x2 x3 H Q) : t_check_given K A { nx:=fun _ H'=>Q .non H',rt:=Q } [some x0,some x1,some x2,some x3,none,none,none,none] H:=by
  obtain ⟨r,p,g,xs,S,ss,night,R,rfl,rfl,rfl,rfl,er,ep,ds,hl,ok,eg,gv,k⟩:=h
  have hxl : xs.length=ss.length:=by rw [ds.len,List.length_map]
  have hRl:=gv.g.len
  unfold t_check_given
  walk_at "go"
  refine g_iteN (fun c=>absurd (by rw [List.length_map,hxl,hRl]) c) (fun _=>?_)
  walk_at "go"
  refine f_enum (xs:=xs) (fun i σ H'=>∃ v4 v5 v6 v7,σ=[some (.ref r),some (.ref p),some (.int night),some (.ref g),v4,v5,v6,v7]∧Fr [] H H') ⟨_,_,_,_,rfl,Fr.refl⟩ (fun i σ H' _ ⟨_,_,_,_,_,f⟩=>SqL.of (f.at0 ep)) ?_ ?_
  · rintro i x t σ H1 H2 hx ⟨v4,v5,v6,v7,rfl,f1⟩ nt ft et
    have hi : i < ss.length:=by have:=(List.getElem?_eq_some_iff.mp hx).1;omega
    obtain ⟨a,hx2,ea,da⟩:=stays_at ds hi
    rw [hx] at hx2;cases hx2
    have oks:=ok _ (stG_mem hi)
    have gn:=gv.n i hi
    have rg:=gv.g.rng i
    have nc:=gv.g.ncl i
    have F2:Fr [] H H2:=f1.then0 ft
    have ea2:=F2.tup _ _ ea
    have er2:=F2.tup _ _ er
    have eg2:=F2.at0 eg
    have ep2:=F2.at0 ep
    have oat:=opt_at (R:=R) (i:=i) (by omega)
    generalize ho : rmG R i=o at gn rg nc oat
    generalize hs : stG ss i=s at *
    walk_at "go"
    refine g_ixL (SqL.of eg2) (atI_nat oat) ?_
    walk_at "go"
    refine g_iteN (fun c=>absurd (decide_eq_decide.mpr (optV_non.trans gn)) c) (fun _=>?_)
    walk_at "go"
    cases o with
    | none=>
      refine g_iteN (fun c=>absurd rfl c) (fun _=>?_)
      walk_at "go"
      refine f_range (lo:=0) (n:=i) (fun j σ H'=>∃ v7,σ=[some (.ref r),some (.ref p),some (.int night),some (.ref g),some (.int i),some (.ref a),some .non,v7]∧Fr [] H H') ⟨_,rfl,F2⟩ ?_ ?_
      · rintro j σ H3 hj ⟨v7,rfl,f3⟩
        walk_at "go"
        refine g_iteN (fun c=>absurd rfl c) (fun _=>?_)
        walk_at "go"
        exact ⟨_,rfl,f3⟩
      · rintro σ H3 ⟨v7,rfl,f3⟩
        exact ⟨_,_,_,_,rfl,f3⟩
    | some q=>
      obtain ⟨q0,q1⟩:=rg q rfl
      refine g_iteN (fun _=>?_) (fun c=>by cases c)
      walk_at "go"
      refine g_ixT (SqT.of er2) (room_at oks) ?_
      walk_at "go"
      refine c_is_from ⟨q,0,_,rfl,rfl,rfl,?_⟩
      rw [decide_eq_true q0,decide_eq_true (show q≤rooms S s - 1 by omega),Bool.and_self]
      walk_at "go"
      refine f_range (lo:=0) (n:=i) (fun j σ H'=>∃ v7,σ=[some (.ref r),some (.ref p),some (.int night),some (.ref g),some (.int i),some (.ref a),some (.int q),v7]∧Fr [] H H') ⟨_,rfl,F2⟩ ?_ ?_
      · rintro j σ H3 hj ⟨v7,rfl,f3⟩
        obtain ⟨b,hb,eb,db⟩:=stays_at ds (show j < ss.length by omega)
        have okj:=ok _ (stG_mem (show j < ss.length by omega))
        walk_at "go"
        refine g_iteN (fun _=>?_) (fun c=>by cases c)
        walk_at "go"
        refine g_ixL (SqL.of (f3.at0 eg)) (show atI (R.map optV) (0 + (j:Int))=_ from by rw [Int.zero_add];exact atI_nat (opt_at (by omega))) ?_
        walk_at "go"
        refine g_ite (fun c=>?_) (fun c=>?_)
        · walk_at "go"
          refine g_ixL (SqL.of (f3.at0 ep)) (show atI xs (0 + (j:Int))=_ from by rw [Int.zero_add];exact atI_nat hb) ?_
          walk_at "go"
          refine c_meet ⟨stG ss j,s,Da.frL f3 db rfl,Da.frL f3 da rfl,okj.2.2.2.1,oks.2.2.2.1,?_⟩
          have:=nc j q rfl c (by omega)
          rw [meet_sym] at this
          rw [this]
          walk_at "go"
          exact ⟨_,rfl,f3⟩
        · walk_at "go"
          exact ⟨_,rfl,f3⟩
      · rintro σ H3 ⟨v7,rfl,f3⟩
        exact ⟨_,_,_,_,rfl,f3⟩
  · rintro σ H1 ⟨v4,v5,v6,v7,rfl,f1⟩
    walk_at "go"
    exact k H1 f1
theorem ok_check_given {f:Addr} {fd:FuncData} (F:Fun K "check_given" "check_given" s_check_given f fd) (T:Txt K mg A) (c_is_from:Cal P w K mg base "is_from" 2 ["value","least","most"] (sp_is_from K A)) (c_meet:Cal P w K mg base "meet" 1 ["first","second"] (sp_meet K A)) : FnOk P w K mg base CX0 (3) f fd ["rooms","stays","night","given"] (sp_check_given K A):=by
  refine F.ok sc_check_given (fun vs H Q E h=>?_) (fun cdv Ar outer s H vs Q E hr h=>⟨t_check_given K A,?_,?_⟩)
  · obtain ⟨x0,x1,x2,x3,rfl,_⟩:=h
    rfl
  · have hu:=hu_of hr
    exact (pss_cons (ps_if (pt_cmpR op_ne (pe_callB b_len (by rfl) T.b_len (by decide +kernel) (pa_cons (pv 3) pa_nil)) (pe_callB b_len (by rfl) T.b_len (by decide +kernel) (pa_cons (pv 1) pa_nil)) (nomark _)) (pss_one ps_dead) pss_nil)
    (pss_one (ps_for PassesOwn.never rfl (pi_enum (by rfl) T.b_enumerate (pa_cons (pv 1) pa_nil)) (pg_tup rfl (pgs_cons (pg_name (i:=4) sc_check_given.nd rfl (Or.inl rfl)) (pgs_cons (pg_name (i:=5) sc_check_given.nd rfl (Or.inl rfl)) pgs_nil))) (pss_cons (ps_set (i:=6) sc_check_given.nd rfl (Or.inl rfl) (pe_ix ix_list (pv 3) (pv 4) (fun _ _=>rfl)))
    (pss_cons (ps_if (pt_cmpR op_ne (pe_cmpR c_isN (pv 6) pe_non (nomark _)) (pe_cmpR c_gt (pe_ix ix_tup (pv 5) pe_int (fun _ _=>rfl)) (pv 2) (nomark _)) (nomark _)) (pss_one ps_dead) pss_nil)
    (pss_cons (ps_if (PW.pt (pw_and (pt_cmpR c_notN (pv 6) pe_non (nomark _)) (pw_and1 (pt_not (pt_val (pe_cl c_is_from (hr.mono (by first | decide | omega)) (by rfl) (pa_cons (pv 6) (pa_cons pe_int (pa_cons (pe_op o_sub (pe_ix ix_tup (pv 0) (pe_ix ix_tup (pv 5) pe_int (fun _ _=>rfl)) (fun _ _=>rfl)) pe_int) pa_nil))))))))) (pss_one ps_dead) pss_nil)
    (pss_one (ps_for PassesOwn.never rfl (pi_range1 rfl T.b_range (pa_cons (pv 4) pa_nil)) (pg_name (i:=7) sc_check_given.nd rfl (Or.inl rfl)) (pss_one (ps_if (PW.pt (pw_and (pt_cmpR c_notN (pv 6) pe_non (nomark _)) (pw_and (pt_cmpR op_eq (pe_ix ix_list (pv 3) (pv 7) (fun _ _=>rfl)) (pv 6) (nomark _)) (pw_and1 (pt_val (pe_cl c_meet (hr.mono (by first | decide | omega)) (by rfl) (pa_cons (pe_ix ix_list (pv 1) (pv 7) (fun _ _=>rfl)) (pa_cons (pv 5) pa_nil)))))))) (pss_one ps_dead) pss_nil))))))))))
  · obtain ⟨x0,x1,x2,x3,rfl,h⟩:=h
    exact pu_check_given T h
def pairD (ss:List Stay) (i:Nat) : PyData:=.tuple [.int (stG ss i).2.1,.int i]
theorem srt_pairs (ss:List Stay) (is:List Nat) : srt (is.map (pairD ss))=(ord ss is).map (pairD ss):=by
  rw [← srt_map (pairD ss) is]
  have e:PySem.W.dataLe false (pairD ss)=le2 ss:=PySem.W.dataLe_ii (fun i:Nat=>(stG ss i).2.1) (fun i:Nat=>(i:Int))
  rw [e];rfl
theorem pairs_alike (ss:List Stay) (is:List Nat) : PySem.W.AllAlike (is.map (pairD ss)):=fun d hd d' hd'=>by
  obtain ⟨s,_,rfl⟩:=List.mem_map.mp hd
  obtain ⟨s',_,rfl⟩:=List.mem_map.mp hd'
  rfl
theorem pairs_sortable (ss:List Stay) (is:List Nat) : PySem.W.Sortable (is.map (pairD ss)):=.inl fun d hd=>by
  obtain ⟨s,_,rfl⟩:=List.mem_map.mp hd
  exact ⟨_,_,rfl⟩
theorem pairs_depth (ss:List Stay) (is:List Nat) : ∀ d∈is.map (pairD ss),d.depth≤60:=fun d hd=>by
  obtain ⟨s,_,rfl⟩:=List.mem_map.mp hd
  simp [pairD,PyData.depth,PyData.depthAll]
theorem imm_pairs (ss:List Stay) (is:List Nat) : immL (is.map (pairD ss))=true:=immL_of fun d hd=>by obtain ⟨n,_,rfl⟩:=List.mem_map.mp hd;rfl
theorem pair_get {H:Hp} {xs:List V} {ss:List Stay} {is:List Nat} {i:Nat} {x:V} (h:DaL H xs (is.map (pairD ss))) (e : xs[i]? = some x) : ∃ n a,is[i]? = some n∧x=.ref a∧H a=some (.tup [.int (stG ss n).2.1,.int n]):=by
  obtain ⟨d,hd,dd⟩:=h.get e
  rw [List.getElem?_map] at hd
  cases q : is[i]? with
  | none=>rw [q] at hd;cases hd
  | some s=>
    rw [q] at hd
    cases hd
    obtain ⟨a,xs,rfl,ea,_,r⟩:=dd.tup1
    obtain ⟨y0,y1,rfl,d0,d1⟩:=r.two
    cases d0.int1;cases d1.int1
    exact ⟨s,a,rfl,rfl,ea⟩
theorem free_more (t:List Int) (m:Nat) : free t (m + 1)=free t m++if (m:Int)∉t then [(m:Int)] else []:=by
  unfold free
  rw [List.range_succ,List.map_append,List.filter_append]
  congr 1
  by_cases h:(m:Int)∈t
  · rw [if_neg (by simpa using h)];simp [h]
  · rw [if_pos h];simp [h]
theorem free_len (t:List Int) (m:Nat) : (free t m).length≤m:=by
  unfold free
  exact Nat.le_trans (List.length_filter_le _ _) (by rw [List.length_map,List.length_range];exact Nat.le_refl _)
theorem free_head {t:List Int} {n:Nat} (h : free t n≠[]) : ∀ y∈free t n,(free t n).headD 0≤y:=by
  have pw:(free t n).Pairwise fun a b=>a < b:=List.Pairwise.filter _ (List.Pairwise.map _ (fun a b (h : a < b)=>by omega) List.pairwise_lt_range)
  cases q : free t n with
  | nil=>exact absurd q h
  | cons a r=>
    rw [q] at pw
    intro y hy
    rcases List.mem_cons.mp hy with e | e
    · rw [e];exact Int.le_refl _
    · exact Int.le_of_lt (List.rel_of_pairwise_cons pw e)
theorem opts_set (R:List (Option Int)) (k:Nat) (m:Int) : (R.map optV).set k (.int m)=(R.set k (some m)).map optV:=by rw [List.map_set];rfl
def noneIx (R:List (Option Int)) (i:Nat) : List Nat:=(List.range i).filter fun k=>decide (rmG R k=none)
theorem noneIx_more (R:List (Option Int)) (i:Nat) : noneIx R (i + 1)=noneIx R i++if rmG R i=none then [i] else []:=by
  unfold noneIx
  rw [List.range_succ,List.filter_append]
  congr 1
  by_cases h : rmG R i=none
  · rw [if_pos h];simp [h]
  · rw [if_neg h];simp [h]
theorem noneIx_len (R:List (Option Int)) (i:Nat) : (noneIx R i).length≤i:=by
  unfold noneIx
  exact Nat.le_trans (List.length_filter_le _ _) (by rw [List.length_range];exact Nat.le_refl _)
def P_housing (K:PySem.W.Frag) (A:Ad) (x0 x1 x2 x3:V) (H:Hp) (Q:VK) : Prop:=∃ (r p g:Addr) (xs:List V) (S:Setup) (ss:List Stay) (night:Int) (R:List (Option Int)),x0=.ref r∧x1=.ref p∧x2=.int night∧x3=.ref g∧H r=some (.tup (S.rooms.map V.int))∧H p=some (.lst xs)∧DaL H xs (ss.map stayD)∧ss.length≤100∧SetupOk S∧(∀ s∈ss,StayOk S s)∧Fits S ss∧
  H g=some (.lst (R.map optV))∧Given S ss night R∧∀ f H',H f=none→Fr [] H H'→H' f=some (.lst ((housedAll S ss R).map optV))→Q (.ref f) H'
def sp_housing (K:PySem.W.Frag) (A:Ad) : Sp:=fun vs H Q _=>∃ x0 x1 x2 x3,vs=[x0,x1,x2,x3]∧P_housing K A x0 x1 x2 x3 H Q
theorem c_housing {K:PySem.W.Frag} {A:Ad} {x0 x1 x2 x3:V} {H:Hp} {Q:VK} {E:XK} (h:P_housing K A x0 x1 x2 x3 H Q) : sp_housing K A [x0,x1,x2,x3] H Q E:=⟨_,_,_,_,rfl,h⟩
theorem sc_housing:FnScope ["rooms","stays","night","given","found","left","_","index","taken","other","room"] ["rooms","stays","night","given"] (defScope s_housing):=⟨rfl,rfl,rfl,by decide +kernel,rfl,by decide +kernel,by decide +kernel⟩
def t_housing (K:PySem.W.Frag) (A:Ad) : TS:=
  (tSeq (tDrop (tCl (sp_check_room K A) (tCons (tVar 0) (tCons (tVar 1) tNil))))
    (tSeq (tDrop (tCl (sp_check_given K A) (tCons (tVar 0) (tCons (tVar 1) (tCons (tVar 2) (tCons (tVar 3) tNil))))))
    (tSeq (tAsg (tCB (rListOf K) (tCons (tVar 3) tNil)) (gName 4))
    (tSeq (tAsg (tLc (iRng1 (tCons (tCB (rLenSq K) (tCons (tVar 1) tNil)) tNil)) (gName 7) (tTest (tOp rIsNon (tOp (rIxL K) (tVar 4) (tVar 7)) (tC .non))) (tVar 7) [7]) (gName 5))
    (tSeq (tFor (iList K (tCB (rSortD K) (tCons (tLc (iList K (tVar 5)) (gName 7) tYes (tTup (tCons (tOp (rIxT K) (tOp (rIxL K) (tVar 1) (tVar 7)) (tC (.int 1))) (tCons (tVar 7) tNil))) [7]) tNil))) (gTup K 2 (gCons (gName 6) (gCons (gName 7) gNil))) (tSeq (tAsg (tLst tNil) (gName 8))
    (tSeq (tFor (iEnum K (tCons (tVar 4) tNil)) (gTup K 2 (gCons (gName 9) (gCons (gName 10) gNil))) (tIfS (tAnd (tTest (tOp rIsNotNon (tVar 10) (tC .non))) (tB (tCl (sp_meet K A) (tCons (tOp (rIxL K) (tVar 1) (tVar 9)) (tCons (tOp (rIxL K) (tVar 1) (tVar 7)) tNil))))) (tDrop (tBM K "list" rAppend (tVar 8) (tCons (tVar 10) tNil))) tNext))
    (tAsg (tCB (rMin K) (tCons (tLc (iRng1 (tCons (tOp (rIxT K) (tVar 0) (tOp (rIxT K) (tOp (rIxL K) (tVar 1) (tVar 7)) (tC (.int 0)))) tNil)) (gName 10) (tTest (tOp (rIn K true) (tVar 10) (tVar 8))) (tVar 10) [10]) tNil)) (gSub (tVar 4) (tVar 7) rSetL)))))
    (tRet (tVar 4)))))))
theorem pu_housing (T:Txt K mg A) {x0 x1 x2 x3:V} {H:Hp} {Q:VK} (h:P_housing K A x0 x1 x2 x3 H Q) : t_housing K A { nx:=fun _ H'=>Q .non H',rt:=Q } [some x0,some x1,some x2,some x3,none,none,none,none,none,none,none] H:=by
  obtain ⟨r,p,g,xs,S,ss,night,R,rfl,rfl,rfl,rfl,er,ep,ds,hl,so,ok,F,eg,gv,k⟩:=h
  have hxl : xs.length=ss.length:=by rw [ds.len,List.length_map]
  have hRl:=gv.g.len
  unfold t_housing
  walk_at "go"
  refine c_check_room ⟨r,p,xs,S,ss,rfl,rfl,er,ep,ds,hl,so,ok,F,fun H1 f1=>?_⟩
  walk_at "go"
  refine c_check_given ⟨r,p,g,xs,S,ss,night,R,rfl,rfl,rfl,rfl,f1.tup _ _ er,f1.at0 ep,DaL.frL f1 ds (imm_stays ss),hl,ok,f1.at0 eg,gv,fun H2 f2=>?_⟩
  have F2:Fr [] H H2:=f1.then0 f2
  have eg2:=F2.at0 eg
  have ep2:=F2.at0 ep
  walk_at "go"
  rename_i f H3 n3 f3 e3
  have nf:H f=none:=F2.free n3
  have ep3:=f3.at0 ep2
  walk_at "go"
  refine l_range (lo:=0) (n:=((xs.length:Nat) : Int).toNat) fun Dl H4 nD f4 e4=>⟨fun i acc H'=>Fr [] H3 H'∧acc=(noneIx R i).map fun k=>V.int (k:Nat),⟨f4,rfl⟩,fun i acc H' hi ha ⟨f5,hacc⟩=>?_,fun acc H5 ha ⟨f5,hacc⟩=>?_⟩
  · have hi' : i < R.length:=by omega
    have hal : acc.length≤100:=by rw [hacc,List.length_map];have:=noneIx_len R i;omega
    walk_at "go"
    refine ⟨rfl,?_⟩
    walk_at "go"
    refine g_ixL (SqL.of (f5.at0 e3)) (show atI (R.map optV) (0 + (i:Int))=_ from by rw [Int.zero_add];exact atI_nat (opt_at hi')) ?_
    walk_at "go"
    refine g_ite (fun c=>?_) (fun c=>?_)
    · walk_at "go"
      refine lcY_of ha (by walk_at "sz") fun H6 f6 e6=>⟨f5.own1 f6 nD,?_⟩
      rw [noneIx_more,if_pos (optV_non.mp c),List.map_append,hacc,Int.zero_add];rfl
    · refine lcN_of ha ⟨f5,?_⟩
      rw [noneIx_more,if_neg (fun z=>c (optV_non.mpr z)),List.append_nil];exact hacc
  have hle:((xs.length:Nat) : Int).toNat=ss.length:=by omega
  rw [hle] at hacc
  generalize his : noneIx R ss.length=is at hacc
  have hisl : is.length≤100:=by rw [← his];have:=noneIx_len R ss.length;omega
  have hism:∀ n∈is,n < ss.length:=fun n hn=>by rw [← his] at hn;exact List.mem_range.mp (List.mem_filter.mp hn).1
  have e5f:=f5.at0 e3
  have e5p:=f5.at0 ep3
  subst hacc
  have F5:Fr [] H H5:=(F2.then0 f3).then0 f5
  have ds5:=DaL.frL F5 ds (imm_stays ss)
  have er5:=F5.tup _ _ er
  walk_at "go"
  refine l_list (xs:=is.map fun k=>V.int (k:Nat)) fun Dp H6 nP f6 e6=>⟨fun i acc H'=>Fr [] H5 H'∧DaL H' acc ((is.take i).map (pairD ss)),⟨f6,.nil⟩,fun i acc H' ⟨f7,_⟩=>SqL.of (f7.at0 ha),fun i x acc H' hx hac ⟨f7,r7⟩=>?_,fun acc H7 hac ⟨f7,r7⟩=>?_⟩
  · have hi : i < is.length:=by have:=(List.getElem?_eq_some_iff.mp hx).1;rwa [List.length_map] at this
    have hn : is[i]? = some is[i]:=List.getElem?_eq_getElem hi
    rw [List.getElem?_map,hn] at hx
    cases hx
    generalize is[i]=n at hn
    obtain ⟨a,hxa,ea,da⟩:=stays_at ds5 (hism n (List.mem_of_getElem? hn))
    have hal : acc.length≤100:=by rw [r7.len,List.length_map,List.length_take];omega
    have ea7:=f7.tup _ _ ea
    walk_at "go"
    refine ⟨rfl,?_⟩
    walk_at "go"
    refine g_ixL (SqL.of (f7.at0 e5p)) (atI_nat hxa) ?_
    walk_at "go"
    rename_i t H8 n8 f8 e8
    refine lcY_of (f8.at0 hac) (by walk_at "sz") fun H9 f9 e9=>⟨(f7.then0 f8).own1 f9 nP,?_⟩
    rw [take_more hn,List.map_append]
    exact (DaL.frL f9 (DaL.frL f8 r7 (imm_pairs ss _)) (imm_pairs ss _)).append (.one' (.tup (f9.tup _ _ e8) (Nat.le_of_ble_eq_true rfl) (.cons (.int _) (.one' (.int _)))))
  rw [List.length_map,List.take_length] at r7
  walk_at "go"
  refine g_srt (SqL.of hac) r7 (pairs_alike ss is) (pairs_sortable ss is) (pairs_depth ss is) fun sp H8 ys n8 f8 e8 r8=>?_
  rw [srt_pairs,← his,show ord ss (noneIx R ss.length)=left ss R from (left_ord ss R).symm] at r8
  have F8:Fr [] H H8:=(F5.then0 f7).then0 f8
  have e8f:H8 f=some (.lst (R.map optV)):=f8.at0 (f7.at0 e5f)
  have nsf : sp≠f:=by intro z;rw [z] at n8;rw [f7.at0 e5f] at n8;cases n8
  have hyl : ys.length=(left ss R).length:=by rw [r8.len,List.length_map]
  replace r8:=DaL.frL f8 r8 (imm_pairs ss _)
  walk_at "go"
  refine f_list (xs:=ys) (fun i σ H'=>∃ v6 v7 v8 v9 v10,σ=[some (.ref r),some (.ref p),some (.int night),some (.ref g),some (.ref f),some (.ref Dl),v6,v7,v8,v9,v10]∧Fr [f] H8 H'∧H' f=some (.lst ((housed S ss R i).map optV))) ⟨_,_,_,_,_,rfl,Fr.refl,e8f⟩ (fun i σ H' _ ⟨_,_,_,_,_,_,f9,_⟩=>SqL.of (f9.at e8 (nin1 nsf nin0))) ?_ ?_
  · rintro i x σ H9 hx ⟨v6,v7,v8,v9,v10,rfl,f9,e9⟩
    obtain ⟨n,a,hn,rfl,ea⟩:=pair_get r8 hx
    obtain ⟨hnl,hn0⟩:=left_mem.mp (List.mem_of_getElem? hn)
    have hil:=(List.getElem?_eq_some_iff.mp hn).1
    have hs:=housed_hs F ok gv i (by omega)
    have fne:=housed_free F ok gv hn
    generalize hRc : housed S ss R i=Rc at *
    have hRcl:=hs.g.len
    obtain ⟨b,hxb,eb,db⟩:=stays_at ds hnl
    have okn:=ok _ (stG_mem hnl)
    have npf : p≠f:=ne_of_none ep nf
    have FF:Fr [] H H9:=F8.own1 f9 nf
    have ep9:H9 p=some (.lst xs):=FF.at0 ep
    have ea9:=f9.tup _ _ ea
    generalize ht : stG ss n=t at *
    walk_at "go"
    rename_i tk H10 n10 f10 e10
    have ntf : tk≠f:=fun z=>by rw [z,e9] at n10;cases n10
    have ntp : tk≠p:=fun z=>by rw [z,ep9] at n10;cases n10
    have e10f:=f10.at0 e9
    walk_at "go"
    refine f_enum (xs:=Rc.map optV) (fun m σ H'=>∃ v9 v10,σ=[some (.ref r),some (.ref p),some (.int night),some (.ref g),some (.ref f),some (.ref Dl),some (.int t.2.1),some (.int n),some (.ref tk),v9,v10]∧Fr [tk] H10 H'∧H' tk=some (.lst ((tkn ss Rc t m).map V.int))) ⟨_,_,rfl,Fr.refl,e10⟩ (fun m σ H' _ ⟨_,_,_,f,_⟩=>SqL.of (f.at e10f (nin1 ntf.symm nin0))) ?_ ?_
    · rintro m x T σ H11 H12 hx ⟨v9,v10,rfl,f11,e11⟩ nT fT eT
      have hm : m < Rc.length:=by have:=(List.getElem?_eq_some_iff.mp hx).1;rwa [List.length_map] at this
      rw [opt_at hm] at hx
      cases hx
      obtain ⟨c,hxc,ec,dc⟩:=stays_at ds (show m < ss.length by omega)
      have okm:=ok _ (stG_mem (show m < ss.length by omega))
      have FG:Fr [] H H12:=(((FF.then0 f10).own1 f11 (FF.free n10)).then0 fT)
      have e12:=fT.at0 e11
      have ep12:=FG.at0 ep
      have tm:=tkn_more (ss:=ss) (R:=Rc) (t:=t) (i:=m)
      have htl:=tkn_len (ss:=ss) (R:=Rc) (t:=t) (i:=m)
      generalize ho : rmG Rc m=o at *
      walk_at "go"
      cases o with
      | none=>
        refine g_iteN (fun c=>absurd rfl c) (fun _=>?_)
        walk_at "go"
        refine ⟨_,_,rfl,f11.then0 fT,?_⟩
        rw [tm];simpa using e12
      | some q=>
        refine g_iteN (fun _=>?_) (fun c=>by cases c)
        walk_at "go"
        refine g_ixL (SqL.of ep12) (atI_nat hxc) ?_
        walk_at "go"
        refine g_ixL (SqL.of ep12) (atI_nat hxb) ?_
        walk_at "go"
        refine c_meet ⟨stG ss m,t,Da.frL FG dc rfl,Da.frL FG db rfl,okm.2.2.2.1,okn.2.2.2.1,?_⟩
        by_cases c : meetB (stG ss m) t=true
        · rw [c]
          walk_at "go"
          rename_i H13 f13 e13
          refine ⟨_,_,rfl,(f11.then0 fT).transL f13,?_⟩
          rw [tm,e13]
          simp [c,optV]
        · rw [(by simpa using c : meetB (stG ss m) t=false)]
          walk_at "go"
          refine ⟨_,_,rfl,f11.then0 fT,?_⟩
          rw [tm]
          simpa [c] using e12
    · rintro σ H11 ⟨v9,v10,rfl,f11,e11⟩
      rw [List.length_map,hRcl] at e11
      have FG:Fr [] H H11:=((FF.then0 f10).own1 f11 (FF.free n10))
      have ep11:=FG.at0 ep
      have er11:=FG.tup _ _ er
      have eb11:=FG.tup _ _ eb
      have e11f:=f11.at e10f (nin1 ntf.symm nin0)
      have rng0 : 0≤rooms S t∧rooms S t≤4:=by
        obtain ⟨o1,o2,_⟩:=id okn
        have hk : t.1.toNat < S.rooms.length:=by omega
        have : rooms S t=S.rooms[t.1.toNat]:=by unfold rooms;rw [List.getD_eq_getElem?_getD,List.getElem?_eq_getElem hk];rfl
        rw [this];exact so.rm _ (List.getElem_mem hk)
      walk_at "go"
      refine g_ixL (SqL.of ep11) (atI_nat hxb) ?_
      walk_at "go"
      refine g_ixT (SqT.of er11) (room_at okn) ?_
      walk_at "go"
      refine l_range (lo:=0) (n:=(rooms S t).toNat) fun Dm H12 nM f12 e12=>⟨fun m acc H'=>Fr [] H11 H'∧acc=(free (tkn ss Rc t ss.length) m).map V.int,⟨f12,rfl⟩,fun m acc H' hm ha' ⟨f13,hacc'⟩=>?_,fun acc H' ha' ⟨f13,hacc'⟩=>?_⟩
      · have hal : acc.length≤100:=by rw [hacc',List.length_map];have:=free_len (tkn ss Rc t ss.length) m;omega
        have e13:=f13.at0 e11
        walk_at "go"
        refine ⟨rfl,?_⟩
        walk_at "go"
        refine g_iteN (fun c=>?_) (fun c=>?_)
        · walk_at "go"
          refine lcY_of ha' (by walk_at "sz") fun H14 f14 e14=>⟨f13.own1 f14 nM,?_⟩
          rw [Int.zero_add] at c ⊢
          rw [free_more,if_pos c,List.map_append,hacc'];rfl
        · refine lcN_of ha' ⟨f13,?_⟩
          rw [Int.zero_add] at c
          rw [free_more,if_neg (by simpa using c),List.append_nil];exact hacc'
      · subst hacc'
        have e13f:=f13.at0 e11f
        walk_at "go"
        refine g_min (SqL.of ha') (List.length_pos_iff.mpr fne) fun m hm1 hm2=>?_
        have hm : m=pick0 S ss Rc n:=by
          unfold pick0
          rw [ht]
          have a1:=free_head fne m hm1
          have a2:=hm2 _ (head_mem fne)
          omega
        walk_at "go"
        refine g_setL e13f (j:=n) (Evl.ixN_nat (by rw [List.length_map];omega)) fun H14 f14 e14=>?_
        walk_at "go"
        refine ⟨_,_,_,_,_,rfl,?_,?_⟩
        · have n10':H8 tk=none:=f9.freeL n10 (nin1 ntf nin0)
          exact ((((f9.then0 f10).own1 f11 n10').then0 f13).transL f14)
        · rw [housed_more hn,hRc,e14,opts_set,hm];rfl
  · rintro σ H9 ⟨v6,v7,v8,v9,v10,rfl,f9,e9⟩
    walk_at "go"
    rw [hyl] at e9
    exact k f H9 nf (F8.own1 f9 nf) e9
theorem ok_housing {f:Addr} {fd:FuncData} (F:Fun K "housing" "housing" s_housing f fd) (T:Txt K mg A) (c_check_room:Cal P w K mg base "check_room" 2 ["rooms","stays"] (sp_check_room K A)) (c_check_given:Cal P w K mg base "check_given" 3 ["rooms","stays","night","given"] (sp_check_given K A)) (c_meet:Cal P w K mg base "meet" 1 ["first","second"] (sp_meet K A)) : FnOk P w K mg base CX0 (4) f fd ["rooms","stays","night","given"] (sp_housing K A):=by
  refine F.ok sc_housing (fun vs H Q E h=>?_) (fun cdv Ar outer s H vs Q E hr h=>⟨t_housing K A,?_,?_⟩)
  · obtain ⟨x0,x1,x2,x3,rfl,_⟩:=h
    rfl
  · have hu:=hu_of hr
    exact (pss_cons (ps_expr (pe_cl c_check_room (hr.mono (by first | decide | omega)) (by rfl) (pa_cons (pv 0) (pa_cons (pv 1) pa_nil))))
    (pss_cons (ps_expr (pe_cl c_check_given (hr.mono (by first | decide | omega)) (by rfl) (pa_cons (pv 0) (pa_cons (pv 1) (pa_cons (pv 2) (pa_cons (pv 3) pa_nil))))))
    (pss_cons (ps_set (i:=4) sc_housing.nd rfl (Or.inr rfl) (pe_callTy b_list (by rfl) T.b_list (by decide +kernel) (pa_cons (pv 3) pa_nil)))
    (pss_cons (ps_setLc (i:=5) (own:=[("index",7)]) (g:=(gName 7)) (tt:=(tTest (tOp rIsNon (tOp (rIxL K) (tVar 4) (tVar 7)) (tC .non)))) rfl sc_housing.nd rfl rfl (sw_true rfl rfl rfl (by decide +kernel)) (pi_range1 rfl T.b_range (pa_cons (pe_callB b_len (by rfl) T.b_len (by decide +kernel) (pa_cons (pv 1) pa_nil)) pa_nil)) (blkOk_by (N:=["rooms","stays","night","given","found","left","_","index","taken","other","room"]) (sc:=defScope s_housing) (own:=[("index",7)]) (by decide +kernel)) (fun _ _ _ _ _=>(pg_name (i:=7) sc_housing.nd rfl (Or.inl rfl))) (fun _ _ _ _ _=>(pts_one (pt_cmpR c_isN (pe_ix ix_list (pv 4) (pv 7) (fun _ _=>rfl)) pe_non (nomark _)))) (fun _ _ _ _ _=>(pv 7)))
    (pss_cons (ps_for PassesOwn.never rfl (pi_list (pe_callB (b_sortD hr.units) (by rfl) T.b_sorted (by decide +kernel) (pa_cons (pe_lc (own:=[("index",7)]) (g:=(gName 7)) (tt:=tYes) rfl sc_housing.nd (pi_list (pv 5)) (blkOk_by (N:=["rooms","stays","night","given","found","left","_","index","taken","other","room"]) (sc:=defScope s_housing) (own:=[("index",7)]) (by decide +kernel)) (fun _ _ _ _ _=>(pg_name (i:=7) sc_housing.nd rfl (Or.inl rfl))) (fun _ _ _ _ _=>pts_nil) (fun _ _ _ _ _=>(pe_tup (pa_cons (pe_ix ix_tup (pe_ix ix_list (pv 1) (pv 7) (fun _ _=>rfl)) pe_int (fun _ _=>rfl)) (pa_cons (pv 7) pa_nil))))) pa_nil))) (pg_tup rfl (pgs_cons (pg_name (i:=6) sc_housing.nd rfl (Or.inl rfl)) (pgs_cons (pg_name (i:=7) sc_housing.nd rfl (Or.inl rfl)) pgs_nil))) (pss_cons (ps_set (i:=8) sc_housing.nd rfl (Or.inr rfl) (pe_lst pa_nil))
    (pss_cons (ps_for PassesOwn.never rfl (pi_enum (by rfl) T.b_enumerate (pa_cons (pv 4) pa_nil)) (pg_tup rfl (pgs_cons (pg_name (i:=9) sc_housing.nd rfl (Or.inl rfl)) (pgs_cons (pg_name (i:=10) sc_housing.nd rfl (Or.inl rfl)) pgs_nil))) (pss_one (ps_if (PW.pt (pw_and (pt_cmpR c_notN (pv 10) pe_non (nomark _)) (pw_and1 (pt_val (pe_cl c_meet (hr.mono (by first | decide | omega)) (by rfl) (pa_cons (pe_ix ix_list (pv 1) (pv 9) (fun _ _=>rfl)) (pa_cons (pe_ix ix_list (pv 1) (pv 7) (fun _ _=>rfl)) pa_nil))))))) (pss_one (ps_expr (pe_bm PySem.F.plainAttrs_list PySem.F.slot_list_append PySem.F.type_list_append mt_append (pv 8) (pa_cons (pv 10) pa_nil)))) pss_nil)))
    (pss_one (ps_asg (pe_callB (cr_min rfl) (by rfl) T.b_min (by decide +kernel) (pa_cons (pe_lc (own:=[("room",10)]) (g:=(gName 10)) (tt:=(tTest (tOp (rIn K true) (tVar 10) (tVar 8)))) rfl sc_housing.nd (pi_range1 rfl T.b_range (pa_cons (pe_ix ix_tup (pv 0) (pe_ix ix_tup (pe_ix ix_list (pv 1) (pv 7) (fun _ _=>rfl)) pe_int (fun _ _=>rfl)) (fun _ _=>rfl)) pa_nil)) (blkOk_by (N:=["rooms","stays","night","given","found","left","_","index","taken","other","room"]) (sc:=defScope s_housing) (own:=[("room",10)]) (by decide +kernel)) (fun _ _ _ _ _=>(pg_name (i:=10) sc_housing.nd rfl (Or.inl rfl))) (fun _ _ _ _ _=>(pts_one (pt_cmpR op_notIn_seq (pv 10) (pv 8) rfl))) (fun _ _ _ _ _=>(pv 10))) pa_nil)) (pg_sub (pv 4) (pv 7) set_list))))))
    (pss_one (ps_ret (pv 4))))))))
  · obtain ⟨x0,x1,x2,x3,rfl,h⟩:=h
    exact pu_housing T h
abbrev Cell:=Int×Int
def ck (c:Cell) : List Key:=[.inl c.1,.inl c.2]
theorem ck_inj:∀ a b:Cell,ck a=ck b→a=b:=fun a b h=>by
  obtain ⟨a1,a2⟩:=a
  obtain ⟨b1,b2⟩:=b
  unfold ck at h
  simp only [List.cons.injEq,Sum.inl.injEq,and_true] at h
  rw [h.1,h.2]
abbrev cD (m:List (Cell×Int)) : List (List Key×V):=enD ck V.int m
def cellsOf (s:Stay) : List Cell:=(List.range (s.2.2 - s.2.1).toNat).map fun i=>(s.1,s.2.1 + (i:Nat))
def bump (m:List (Cell×Int)) (c:Cell) : List (Cell×Int):=pt m c ((lk m c).getD 0 + 1)
def needsL (ss:List Stay) : List (Cell×Int):=(ss.flatMap cellsOf).foldl bump []
theorem pt_len {κ α:Type} [DecidableEq κ] (m:List (κ×α)) (k : κ) (v : α) : (pt m k v).length≤m.length + 1:=by
  unfold pt
  split
  · rw [List.length_map];omega
  · rw [List.length_append];simp
theorem fold_len:∀ (cs:List Cell) (m:List (Cell×Int)),(cs.foldl bump m).length≤m.length + cs.length
  | [],_=>Nat.le_refl _
  | c::cs,m=>by
    have h:=fold_len cs (bump m c)
    have h2:(bump m c).length≤m.length + 1:=pt_len m c _
    show (cs.foldl bump (bump m c)).length≤m.length + (cs.length + 1)
    omega
theorem val_cell (m:List (Cell×Int)) (c:Cell) : valV (cD m) (ck c)=(lk m c).map V.int:=enD_val ck_inj m c
theorem put_cell (m:List (Cell×Int)) (c:Cell) (v:Int) : putK (cD m) (ck c) (.int v)=cD (pt m c v):=enD_put ck_inj m c v
theorem cellsOf_len (s:Stay) : (cellsOf s).length=(s.2.2 - s.2.1).toNat:=by unfold cellsOf;rw [List.length_map,List.length_range]
theorem flat_len:∀ (ss:List Stay) (n:Nat),(∀ s∈ss,(s.2.2 - s.2.1).toNat≤n)→(ss.flatMap cellsOf).length≤n * ss.length
  | [],_,_=>by simp
  | s::ss,n,h=>by
    have h1:=flat_len ss n fun z hz=>h z (List.mem_cons_of_mem _ hz)
    have h2:=h s List.mem_cons_self
    rw [List.flatMap_cons,List.length_append,cellsOf_len,List.length_cons,Nat.mul_succ]
    omega
def Nd {κ α:Type} (m:List (κ×α)) : Prop:=(m.map (·.1)).Nodup
theorem pt_keys {κ α:Type} [DecidableEq κ] (m:List (κ×α)) (k : κ) (v : α) : (pt m k v).map (·.1)=if k∈m.map (·.1) then m.map (·.1) else m.map (·.1)++[k]:=by
  have h:(m.any fun e=>decide (e.1=k))=decide (k∈m.map (·.1)):=by
    induction m with
    | nil=>simp
    | cons e r ih=>
      rw [List.any_cons,ih]
      by_cases q : e.1=k
      · simp [q]
      · have q2 : ¬ k=e.1:=fun z=>q z.symm
        simp [q,q2]
  unfold pt
  rw [h]
  by_cases q : k∈m.map (·.1)
  · rw [if_pos (decide_eq_true q),if_pos q,List.map_map]
    refine List.map_congr_left fun e _=>?_
    show (if e.1=k then (e.1,v) else e).1=e.1
    split <;> rfl
  · rw [if_neg (by simpa using q),if_neg q,List.map_append]
    rfl
theorem Nd.pt {κ α:Type} [DecidableEq κ] {m:List (κ×α)} (h:Nd m) (k : κ) (v : α) : Nd (pt m k v):=by
  unfold Nd
  rw [pt_keys]
  split
  · exact h
  · rename_i q
    exact List.nodup_append.mpr ⟨h,by simp,fun a ha b hb=>by rw [List.mem_singleton.mp hb];exact fun z=>q (z ▸ ha)⟩
theorem lk_none {κ α:Type} [DecidableEq κ] : ∀ {m:List (κ×α)} {k : κ},k∉m.map (·.1)→lk m k=none
  | [],_,_=>rfl
  | e::r,k,h=>by
    have h1 : ¬ e.1=k:=fun z=>h (by simp [z])
    have h2 : k∉r.map (·.1):=fun z=>h (by simp [z])
    have:=lk_none (m:=r) h2
    simp only [lk,List.find?_cons,decide_eq_false h1]
    exact this
theorem lk_mem {κ α:Type} [DecidableEq κ] : ∀ {m:List (κ×α)} {e : κ×α},Nd m→e∈m→lk m e.1=some e.2
  | a::r,e,h,he=>by
    have h:(a.1::r.map (·.1)).Nodup:=h
    obtain ⟨h1,h2⟩:=List.nodup_cons.mp h
    rcases List.mem_cons.mp he with q | q
    · subst q;simp [lk,List.find?_cons]
    · have hne : ¬ a.1=e.1:=fun z=>h1 (z ▸ List.mem_map.mpr ⟨e,q,rfl⟩)
      have:=lk_mem (m:=r) h2 q
      simp only [lk,List.find?_cons,decide_eq_false hne]
      exact this
theorem lk_some {κ α:Type} [DecidableEq κ] : ∀ {m:List (κ×α)} {k : κ} {v : α},lk m k=some v→(k,v)∈m
  | e::r,k,v,h=>by
    by_cases q : e.1=k
    · simp [lk,List.find?_cons,q] at h
      rw [← h,← q];exact List.mem_cons_self
    · simp only [lk,List.find?_cons,decide_eq_false q] at h
      exact List.mem_cons_of_mem _ (lk_some (m:=r) h)
def sumW (p:Cell→Int) (m:List (Cell×Int)) : Int:=(m.map fun e=>p e.1 * e.2).sum
theorem sumW_map {p:Cell→Int} {c:Cell} {n k:Int}:∀ {m:List (Cell×Int)},Nd m→lk m c=some n→sumW p (m.map fun e=>if e.1=c then (e.1,k) else e)=sumW p m + p c * (k - n)
  | e::r,h,hl=>by
    have h:(e.1::r.map (·.1)).Nodup:=h
    obtain ⟨h1,h2⟩:=List.nodup_cons.mp h
    by_cases q : e.1=c
    · have hn : e.2=n:=by simpa [lk,List.find?_cons,q] using hl
      have hr : r.map (fun e=>if e.1=c then (e.1,k) else e)=r:=by
        refine (List.map_congr_left fun e' he'=>?_).trans (List.map_id r)
        have : ¬ e'.1=c:=fun z=>h1 (by rw [q,← z];exact List.mem_map.mpr ⟨e',he',rfl⟩)
        rw [if_neg this];rfl
      show sumW p ((if e.1=c then (e.1,k) else e)::r.map fun e=>if e.1=c then (e.1,k) else e)=_
      rw [if_pos q,hr]
      simp only [sumW,List.map_cons,List.sum_cons,q,← hn,Int.mul_sub]
      omega
    · have hl2 : lk r c=some n:=by simpa [lk,List.find?_cons,q] using hl
      have ih:=sumW_map (p:=p) (c:=c) (n:=n) (k:=k) h2 hl2
      show sumW p ((if e.1=c then (e.1,k) else e)::r.map fun e=>if e.1=c then (e.1,k) else e)=_
      rw [if_neg q]
      simp only [sumW,List.map_cons,List.sum_cons] at ih ⊢
      rw [ih]
      omega
theorem sumW_bump (p:Cell→Int) {m:List (Cell×Int)} (h:Nd m) (c:Cell) : sumW p (bump m c)=sumW p m + p c:=by
  unfold bump pt
  by_cases q:(m.any fun e=>decide (e.1=c))=true
  · rw [if_pos q]
    cases hl : lk m c with
    | none=>
      exfalso
      obtain ⟨e,he,hc⟩:=List.any_eq_true.mp q
      have:=lk_mem h he
      rw [of_decide_eq_true hc,hl] at this
      cases this
    | some n=>
      rw [sumW_map h hl]
      show _ + p c * (n + 1 - n)=_
      rw [show n + 1 - n=1 by omega,Int.mul_one]
  · rw [if_neg q]
    have hl : lk m c=none:=by
      cases hl : lk m c with
      | none=>rfl
      | some n=>
        have:=lk_some hl
        exact absurd (List.any_eq_true.mpr ⟨_,this,by simp⟩) q
    rw [hl]
    simp [sumW]
theorem Nd.bump {m:List (Cell×Int)} (h:Nd m) (c:Cell) : Nd (bump m c):=h.pt c _
theorem fold_nd:∀ (cs:List Cell) {m:List (Cell×Int)},Nd m→Nd (cs.foldl bump m)
  | [],_,h=>h
  | c::cs,_,h=>fold_nd cs (h.bump c)
theorem fold_sum (p:Cell→Int) : ∀ (cs:List Cell) {m:List (Cell×Int)},Nd m→sumW p (cs.foldl bump m)=sumW p m + (cs.map p).sum
  | [],m,_=>by simp
  | c::cs,m,h=>by
    show sumW p (cs.foldl bump (bump m c))=_
    rw [fold_sum p cs (h.bump c),sumW_bump p h,List.map_cons,List.sum_cons]
    omega
theorem needs_nd (ss:List Stay) : Nd (needsL ss):=fold_nd _ List.nodup_nil
theorem needs_sum (p:Cell→Int) (ss:List Stay) : sumW p (needsL ss)=((ss.flatMap cellsOf).map p).sum:=by
  unfold needsL
  rw [fold_sum p (m:=[]) _ List.nodup_nil]
  simp [sumW]
theorem bump_keys {m:List (Cell×Int)} {c x:Cell} (h : x∈(bump m c).map (·.1)) : x∈m.map (·.1)∨x=c:=by
  unfold bump at h
  rw [pt_keys] at h
  split at h
  · exact .inl h
  · rcases List.mem_append.mp h with q | q
    · exact .inl q
    · exact .inr (List.mem_singleton.mp q)
theorem fold_keys:∀ (cs:List Cell) {m:List (Cell×Int)} {x:Cell},x∈(cs.foldl bump m).map (·.1)→x∈m.map (·.1)∨x∈cs
  | [],_,_,h=>.inl h
  | c::cs,m,x,h=>by
    rcases fold_keys cs h with q | q
    · rcases bump_keys q with q | q
      · exact .inl q
      · exact .inr (q ▸ List.mem_cons_self)
    · exact .inr (List.mem_cons_of_mem _ q)
theorem needs_keys {ss:List Stay} {e:Cell×Int} (h : e∈needsL ss) : ∃ s∈ss,e.1∈cellsOf s:=by
  rcases fold_keys _ (List.mem_map.mpr ⟨e,h,rfl⟩) with q | q
  · cases q
  · exact List.mem_flatMap.mp q
theorem cell_in {s:Stay} {c:Cell} (h : c∈cellsOf s) : c.1=s.1∧s.2.1≤c.2∧c.2 < s.2.2:=by
  unfold cellsOf at h
  obtain ⟨i,hi,rfl⟩:=List.mem_map.mp h
  have:=List.mem_range.mp hi
  exact ⟨rfl,by show s.2.1≤s.2.1 + (i:Int);omega,by show s.2.1 + (i:Int) < s.2.2;omega⟩
def SmallSt (ss:List Stay) : Prop:=∀ s∈ss,0≤s.2.1∧s.2.1≤1000∧0≤s.2.2∧s.2.2≤1000
theorem foldn (cs:List Cell) (c:Cell) (m:List (Cell×Int)) : (cs++[c]).foldl bump m=bump (cs.foldl bump m) c:=by rw [List.foldl_append];rfl
theorem SmallSt.of {S:Setup} {ss:List Stay} (ok:SetupOk S) (h:∀ s∈ss,StayOk S s) : SmallSt ss:=fun s hs=>by
  obtain ⟨_,_,h1,h2,h3⟩:=h s hs
  have:=ok.n2
  exact ⟨h1,by omega,by omega,by omega⟩
theorem cell_ok {S:Setup} (ok:SetupOk S) {ss:List Stay} (h:∀ s∈ss,StayOk S s) {e:Cell×Int} (he : e∈needsL ss) : 0≤e.1.1∧e.1.1 < S.rooms.length∧0≤e.1.2∧e.1.2 < S.nights:=by
  obtain ⟨s,hs,hc⟩:=needs_keys he
  obtain ⟨h1,h2,h3⟩:=cell_in hc
  obtain ⟨k0,k1,k2,k3,k4⟩:=h s hs
  rw [h1]
  exact ⟨k0,k1,by omega,by omega⟩
theorem cD_get {m:List (Cell×Int)} {i:Nat} {k:List Key} {v:V} (h:(cD m)[i]? = some (k,v)) : ∃ e,m[i]? = some e∧k=ck e.1∧v=.int e.2:=enD_get h
def P_needs_of (K:PySem.W.Frag) (A:Ad) (x0:V) (H:Hp) (Q:VK) : Prop:=∃ (a:Addr) (xs:List V) (ss:List Stay),x0=.ref a∧H a=some (.tup xs)∧DaL H xs (ss.map stayD)∧SmallSt ss∧ss.length≤100∧
  ∀ (p:Addr) (H':Hp),H p=none→Fr [] H H'→H' p=some (.dT (cD (needsL ss)))→Q (.ref p) H'
def sp_needs_of (K:PySem.W.Frag) (A:Ad) : Sp:=fun vs H Q _=>∃ x0,vs=[x0]∧P_needs_of K A x0 H Q
theorem c_needs_of {K:PySem.W.Frag} {A:Ad} {x0:V} {H:Hp} {Q:VK} {E:XK} (h:P_needs_of K A x0 H Q) : sp_needs_of K A [x0] H Q E:=⟨_,rfl,h⟩
theorem sc_needs_of:FnScope ["party","needs","stay","night","cell"] ["party"] (defScope s_needs_of):=⟨rfl,rfl,rfl,by decide +kernel,rfl,by decide +kernel,by decide +kernel⟩
def t_needs_of (K:PySem.W.Frag) (A:Ad) : TS:=
  (tSeq (tAsg tDNewT (gName 1))
    (tSeq (tFor (iTup K (tVar 0)) (gName 2) (tFor (iList K (tCl (sp_nights_of K A) (tCons (tVar 2) tNil))) (gName 3) (tSeq (tAsg (tTup (tCons (tOp (rIxT K) (tVar 2) (tC (.int 0))) (tCons (tVar 3) tNil))) (gName 4))
    (sDPut (tVar 1) (tVar 4) (tOp oAdd (tDGet2 (tVar 1) (tVar 4) (tC (.int 0))) (tC (.int 1)))))))
    (tRet (tVar 1))))
theorem pu_needs_of (T:Txt K mg A) {x0:V} {H:Hp} {Q:VK} (h:P_needs_of K A x0 H Q) : t_needs_of K A { nx:=fun _ H'=>Q .non H',rt:=Q } [some x0,none,none,none,none] H:=by
  obtain ⟨a,xs,ss,rfl,e,ds,sm,hss,k⟩:=h
  unfold t_needs_of
  ((with_reducible refine j_sa ?_);(with_reducible refine g_dnew ?_);walk_at "new";(with_reducible refine g_name (g_seq (g_for (g_iT ?_))));walk_at "0";(with_reducible refine' g_riT ?h170 ?_);(case h170=>walk_at "sqt"))
  rename_i p H0 n0 f0 e0
  refine f_tup (xs:=xs) (fun i σ H'=>(∃ v2 v3 v4,σ=[some (.ref a),some (.ref p),v2,v3,v4])∧Fr [] H H'∧H' p=some (.dT (cD (needsL (ss.take i))))) ⟨⟨_,_,_,rfl⟩,f0,e0⟩ ?_ ?_ ?_
  · rintro i σ H' _ ⟨_,f,_⟩
    exact SqT.of (f.tup _ _ e)
  · rintro i x σ H1 hx ⟨⟨v2,v3,v4,rfl⟩,f1,e1⟩
    obtain ⟨s,b,hs,rfl,eb,_⟩:=stays_get ds hx
    have hmem:=List.mem_of_getElem? hs
    obtain ⟨b0,b1,b2,b3⟩:=sm s hmem
    have hlen:(cellsOf s).length=(s.2.2 - s.2.1).toNat:=cellsOf_len s
    ((with_reducible refine g_name (g_for (g_iL (g_cl ?_))));walk_at "2")
    refine c_nights_of ⟨b,s,rfl,f1.tup _ _ eb,b0,by omega,b2,by omega,fun q H2 n2 f2 e2=>?_⟩
    ((with_reducible refine' g_riL ?h172 ?_);(case h172=>walk_at "sql"))
    have npq : p≠q:=ne_of_none e1 n2
    refine f_list (xs:=(List.range (s.2.2 - s.2.1).toNat).map fun i=>V.int (s.2.1 + (i:Nat))) (fun j σ H'=>(∃ v3 v4,σ=[some (.ref a),some (.ref p),some (.ref b),v3,v4])∧Fr [] H H'∧Fr [p] H2 H'∧H' p=some (.dT (cD (((ss.take i).flatMap cellsOf++(cellsOf s).take j).foldl bump []))))
      ⟨⟨_,_,rfl⟩,f1.then0 f2,Fr.refl,by rw [List.take_zero,List.append_nil];exact f2.at0 e1⟩ ?_ ?_ ?_
    · rintro j σ H' _ ⟨_,_,f,_⟩
      exact SqL.of (f.at e2 (nin1 npq.symm nin0))
    · rintro j y σ H3 hy ⟨⟨v3,v4,rfl⟩,f3,g3,e3⟩
      rw [List.getElem?_map] at hy
      have hj : j < (s.2.2 - s.2.1).toNat:=by
        have:=List.getElem?_eq_some_iff.mp (show ((List.range (s.2.2 - s.2.1).toNat).map fun i=>V.int (s.2.1 + (i:Nat)))[j]? = some y by rw [List.getElem?_map];exact hy)
        have h1:=this.1
        rw [List.length_map,List.length_range] at h1
        exact h1
      rw [List.getElem?_range hj] at hy
      cases hy
      have hc:(cellsOf s)[j]? = some (s.1,s.2.1 + (j:Nat)):=by
        unfold cellsOf
        rw [List.getElem?_map,List.getElem?_range hj]
        rfl
      have eb3:=f3.tup _ _ eb
      ((with_reducible refine g_name (j_sa (g_tup (g_cons ?_))));walk_at "3";walk_at "2";walk_at "5";(with_reducible refine g_name (g_dput (g_op (g_dget2 ?_))));walk_at "0";(with_reducible refine' g_rdg2 ?h175 ?_);(case h175=>walk_at "rdt");walk_at "0";(with_reducible refine g_c ?_))
      rename_i t H4 n4 f4 e4
      have e34:=f4.at0 e3
      skip
      refine g_dgo (k:=ck (s.1,s.2.1 + (j:Nat))) (.inl e34) e4 ?_
      rw [val_cell]
      have hv:((lk (((ss.take i).flatMap cellsOf++(cellsOf s).take j).foldl bump []) (s.1,s.2.1 + (j:Nat))).map V.int).getD (.int 0)=.int ((lk (((ss.take i).flatMap cellsOf++(cellsOf s).take j).foldl bump []) (s.1,s.2.1 + (j:Nat))).getD 0):=by
        cases lk (((ss.take i).flatMap cellsOf++(cellsOf s).take j).foldl bump []) (s.1,s.2.1 + (j:Nat)) <;> rfl
      rw [hv]
      ((with_reducible refine g_c (g_add ?_));walk_at "0";walk_at "0")
      have hL:(cD (((ss.take i).flatMap cellsOf++(cellsOf s).take j).foldl bump [])).length < sizeLine:=by
        rw [enD_len]
        have h1:=fold_len ((ss.take i).flatMap cellsOf++(cellsOf s).take j) []
        have h2:=flat_len (ss.take i) 1000 fun z hz=>by obtain ⟨c0,c1,c2,c3⟩:=sm z (List.mem_of_mem_take hz);omega
        rw [List.length_append,List.length_take] at h1
        have h3:(ss.take i).length≤100:=by rw [List.length_take];omega
        have h4 : 1000 * (ss.take i).length≤1000 * 100:=Nat.mul_le_mul_left _ h3
        exact szM (by simp only [List.length_nil] at h1;omega)
      refine g_rdp (k:=ck (s.1,s.2.1 + (j:Nat))) e34 e4 hL fun H5 f5 e5=>?_
      skip
      refine ⟨⟨_,_,rfl⟩,(f3.then0 f4).own1 f5 n0,(g3.then0 f4).transL f5,?_⟩
      rw [e5,put_cell,take_more hc,← List.append_assoc,foldn]
      rfl
    · rintro σ H3 ⟨⟨v3,v4,rfl⟩,f3,g3,e3⟩
      refine ⟨⟨_,_,_,rfl⟩,f3,?_⟩
      rw [List.length_map,List.length_range,← hlen,List.take_length] at e3
      rw [e3]
      unfold needsL
      rw [take_more hs,List.flatMap_append]
      simp
  · rintro σ H1 ⟨⟨v2,v3,v4,rfl⟩,f1,e1⟩
    have hl : xs.length=ss.length:=by rw [ds.len,List.length_map]
    rw [hl,List.take_length] at e1
    ((with_reducible refine g_ret ?_);walk_at "0")
    exact k p H1 n0 f1 e1
theorem ok_needs_of {f:Addr} {fd:FuncData} (F:Fun K "needs_of" "needs_of" s_needs_of f fd) (T:Txt K mg A) (c_nights_of:Cal P w K mg base "nights_of" 1 ["stay"] (sp_nights_of K A)) : FnOk P w K mg base CX0 (2) f fd ["party"] (sp_needs_of K A):=by
  refine F.ok sc_needs_of (fun vs H Q E h=>?_) (fun cdv Ar outer s H vs Q E hr h=>⟨t_needs_of K A,?_,?_⟩)
  · obtain ⟨x0,rfl,_⟩:=h
    rfl
  · have hu:=hu_of hr
    exact (pss_cons (ps_set (i:=1) sc_needs_of.nd rfl (Or.inl rfl) pe_dnewT)
    (pss_cons (ps_for PassesOwn.never rfl (pi_tup (pv 0)) (pg_name (i:=2) sc_needs_of.nd rfl (Or.inl rfl)) (pss_one (ps_for PassesOwn.never rfl (pi_list (pe_cl c_nights_of (hr.mono (by first | decide | omega)) (by rfl) (pa_cons (pv 2) pa_nil))) (pg_name (i:=3) sc_needs_of.nd rfl (Or.inl rfl)) (pss_cons (ps_set (i:=4) sc_needs_of.nd rfl (Or.inl rfl) (pe_tup (pa_cons (pe_ix ix_tup (pv 2) pe_int (fun _ _=>rfl)) (pa_cons (pv 3) pa_nil))))
    (pss_one (ps_dput hu (pv 1) (pv 4) (pe_op o_add (pe_dget2 hu (pv 1) (pv 4) pe_int ⟨rfl,rfl,rfl,rfl⟩) pe_int) rfl))))))
    (pss_one (ps_ret (pv 1)))))
  · obtain ⟨x0,rfl,h⟩:=h
    exact pu_needs_of T h
def P_Lneeds (K:PySem.W.Frag) (A:Ad) (x0:V) (H:Hp) (Q:VK) : Prop:=∃ (a:Addr) (xs:List V) (ss:List Stay),x0=.ref a∧H a=some (.tup xs)∧DaL H xs (ss.map stayD)∧SmallSt ss∧ss.length≤100∧
  ∀ (p:Addr) (H':Hp),H p=none→Fr [] H H'→H' p=some (.dT (cD (needsL ss)))→Q (.ref p) H'
def sp_Lneeds (K:PySem.W.Frag) (A:Ad) : Sp:=fun vs H Q _=>∃ x0,vs=[x0]∧P_Lneeds K A x0 H Q
theorem c_Lneeds {K:PySem.W.Frag} {A:Ad} {x0:V} {H:Hp} {Q:VK} {E:XK} (h:P_Lneeds K A x0 H Q) : sp_Lneeds K A [x0] H Q E:=⟨_,rfl,h⟩
theorem sc_Lneeds:FnScope ["_law_party_here","_law_needs_here","_law_kind","_law_first","_law_end","_law_night"] ["_law_party_here"] (defScope s_Lneeds):=⟨rfl,rfl,rfl,by decide +kernel,rfl,by decide +kernel,by decide +kernel⟩
def t_Lneeds (K:PySem.W.Frag) (A:Ad) : TS:=
  (tSeq (tAsg tDNewT (gName 1))
    (tSeq (tFor (iTup K (tVar 0)) (gTup K 3 (gCons (gName 2) (gCons (gName 3) (gCons (gName 4) gNil)))) (tFor (iRng2 (tCons (tVar 3) (tCons (tVar 4) tNil))) (gName 5) (sDPut (tVar 1) (tTup (tCons (tVar 2) (tCons (tVar 5) tNil))) (tOp oAdd (tDGet2 (tVar 1) (tTup (tCons (tVar 2) (tCons (tVar 5) tNil))) (tC (.int 0))) (tC (.int 1))))))
    (tRet (tVar 1))))
theorem pu_Lneeds (T:Txt K mg A) {x0:V} {H:Hp} {Q:VK} (h:P_Lneeds K A x0 H Q) : t_Lneeds K A { nx:=fun _ H'=>Q .non H',rt:=Q } [some x0,none,none,none,none,none] H:=by
  obtain ⟨a,xs,ss,rfl,e,ds,sm,hss,k⟩:=h
  unfold t_Lneeds
  walk_at "go"
  rename_i p H0 n0 f0 e0
  refine f_tup (xs:=xs) (fun i σ H'=>(∃ v2 v3 v4 v5,σ=[some (.ref a),some (.ref p),v2,v3,v4,v5])∧Fr [] H H'∧H' p=some (.dT (cD (needsL (ss.take i))))) ⟨⟨_,_,_,_,rfl⟩,f0,e0⟩ ?_ ?_ ?_
  · rintro i σ H' _ ⟨_,f,_⟩
    exact SqT.of (f.tup _ _ e)
  · rintro i x σ H1 hx ⟨⟨v2,v3,v4,v5,rfl⟩,f1,e1⟩
    obtain ⟨s,b,hs,rfl,eb,_⟩:=stays_get ds hx
    have hmem:=List.mem_of_getElem? hs
    obtain ⟨b0,b1,b2,b3⟩:=sm s hmem
    have hlen:(cellsOf s).length=(s.2.2 - s.2.1).toNat:=cellsOf_len s
    have eb1:=f1.tup _ _ eb
    walk_at "go"
    refine f_range (lo:=s.2.1) (n:=(s.2.2 - s.2.1).toNat) (fun j σ H'=>(∃ v5,σ=[some (.ref a),some (.ref p),some (.int s.1),some (.int s.2.1),some (.int s.2.2),v5])∧Fr [] H H'∧H' p=some (.dT (cD (((ss.take i).flatMap cellsOf++(cellsOf s).take j).foldl bump []))))
      ⟨⟨_,rfl⟩,f1,by rw [List.take_zero,List.append_nil];exact e1⟩ ?_ ?_
    · rintro j σ H3 hj ⟨⟨v5,rfl⟩,f3,e3⟩
      have hc:(cellsOf s)[j]? = some (s.1,s.2.1 + (j:Nat)):=by
        unfold cellsOf
        rw [List.getElem?_map,List.getElem?_range hj]
        rfl
      walk_at "go"
      rename_i t H4 n4 f4 e4
      have e34:=f4.at0 e3
      walk_at "go"
      refine g_dgo (k:=ck (s.1,s.2.1 + (j:Nat))) (.inl e34) e4 ?_
      rw [val_cell]
      have hv:((lk (((ss.take i).flatMap cellsOf++(cellsOf s).take j).foldl bump []) (s.1,s.2.1 + (j:Nat))).map V.int).getD (.int 0)=.int ((lk (((ss.take i).flatMap cellsOf++(cellsOf s).take j).foldl bump []) (s.1,s.2.1 + (j:Nat))).getD 0):=by
        cases lk (((ss.take i).flatMap cellsOf++(cellsOf s).take j).foldl bump []) (s.1,s.2.1 + (j:Nat)) <;> rfl
      rw [hv]
      walk_at "go"
      rename_i t2 H5 n5 f5 e5
      have e35:=f5.at0 e34
      have hL:(cD (((ss.take i).flatMap cellsOf++(cellsOf s).take j).foldl bump [])).length < sizeLine:=by
        rw [enD_len]
        have h1:=fold_len ((ss.take i).flatMap cellsOf++(cellsOf s).take j) []
        have h2:=flat_len (ss.take i) 1000 fun z hz=>by obtain ⟨c0,c1,c2,c3⟩:=sm z (List.mem_of_mem_take hz);omega
        rw [List.length_append,List.length_take] at h1
        have h3:(ss.take i).length≤100:=by rw [List.length_take];omega
        have h4 : 1000 * (ss.take i).length≤1000 * 100:=Nat.mul_le_mul_left _ h3
        exact szM (by simp only [List.length_nil] at h1;omega)
      refine g_rdp (k:=ck (s.1,s.2.1 + (j:Nat))) e35 e5 hL fun H6 f6 e6=>?_
      walk_at "go"
      refine ⟨⟨_,rfl⟩,((f3.then0 f4).then0 f5).own1 f6 n0,?_⟩
      rw [e6,put_cell,take_more hc,← List.append_assoc,foldn]
      rfl
    · rintro σ H3 ⟨⟨v5,rfl⟩,f3,e3⟩
      refine ⟨⟨_,_,_,_,rfl⟩,f3,?_⟩
      rw [← hlen,List.take_length] at e3
      rw [e3]
      unfold needsL
      rw [take_more hs,List.flatMap_append]
      simp
  · rintro σ H1 ⟨⟨v2,v3,v4,v5,rfl⟩,f1,e1⟩
    have hl : xs.length=ss.length:=by rw [ds.len,List.length_map]
    rw [hl,List.take_length] at e1
    walk_at "go"
    exact k p H1 n0 f1 e1
theorem ok_Lneeds {f:Addr} {fd:FuncData} (F:Fun K "_law_needs" "_law_needs" s_Lneeds f fd) (T:Txt K mg A)  : FnOk P w K mg base CX0 (1) f fd ["_law_party_here"] (sp_Lneeds K A):=by
  refine F.ok sc_Lneeds (fun vs H Q E h=>?_) (fun cdv Ar outer s H vs Q E hr h=>⟨t_Lneeds K A,?_,?_⟩)
  · obtain ⟨x0,rfl,_⟩:=h
    rfl
  · have hu:=hu_of hr
    exact (pss_cons (ps_set (i:=1) sc_Lneeds.nd rfl (Or.inl rfl) pe_dnewT)
    (pss_cons (ps_for PassesOwn.never rfl (pi_tup (pv 0)) (pg_tup rfl (pgs_cons (pg_name (i:=2) sc_Lneeds.nd rfl (Or.inl rfl)) (pgs_cons (pg_name (i:=3) sc_Lneeds.nd rfl (Or.inl rfl)) (pgs_cons (pg_name (i:=4) sc_Lneeds.nd rfl (Or.inl rfl)) pgs_nil)))) (pss_one (ps_for PassesOwn.never rfl (pi_range2 rfl T.b_range (pa_cons (pv 3) (pa_cons (pv 4) pa_nil))) (pg_name (i:=5) sc_Lneeds.nd rfl (Or.inl rfl)) (pss_one (ps_dput hu (pv 1) (pe_tup (pa_cons (pv 2) (pa_cons (pv 5) pa_nil))) (pe_op o_add (pe_dget2 hu (pv 1) (pe_tup (pa_cons (pv 2) (pa_cons (pv 5) pa_nil))) pe_int ⟨rfl,rfl,rfl,rfl⟩) pe_int) rfl)))))
    (pss_one (ps_ret (pv 1)))))
  · obtain ⟨x0,rfl,h⟩:=h
    exact pu_Lneeds T h
def prc (S:Setup) (c:Cell) : Int:=((S.prices.getD c.1.toNat []).getD c.2.toNat 0)
theorem prc_at {S:Setup} (ok:SetupOk S) {H:Hp} {x:V} {s r p:Addr} {ps:List V} (h:SetAt H x S s r p ps) {c:Cell} (h0 : 0≤c.1) (h1 : c.1 < S.rooms.length) (h2 : 0≤c.2) (h3 : c.2 < S.nights) :
    ∃ (a:Addr) (row:List Int),atI ps c.1=some (.ref a)∧H a=some (.tup (row.map V.int))∧atI (row.map V.int) c.2=some (.int (prc S c))∧0≤prc S c∧prc S c≤1000000:=by
  have e1 : c.1=((c.1.toNat:Nat) : Int):=by omega
  have e2 : c.2=((c.2.toNat:Nat) : Int):=by omega
  have hp:=ok.pl
  have hk : c.1.toNat < S.prices.length:=by omega
  have hr:S.prices[c.1.toNat]? = some S.prices[c.1.toNat]:=List.getElem?_eq_getElem hk
  obtain ⟨a,ha,ea⟩:=h.row hr
  obtain ⟨hl,hb⟩:=ok.pn _ (List.getElem_mem hk)
  have ht : c.2.toNat < (S.prices[c.1.toNat]).length:=by omega
  have hv : prc S c=(S.prices[c.1.toNat])[c.2.toNat]:=by
    unfold prc
    simp [List.getD_eq_getElem?_getD,hr,List.getElem?_eq_getElem ht]
  refine ⟨a,S.prices[c.1.toNat],by rw [e1];exact atI_nat ha,ea,?_,?_⟩
  · rw [e2]
    refine atI_nat ?_
    rw [List.getElem?_map,List.getElem?_eq_getElem ht,hv]
    rfl
  · rw [hv]
    exact hb _ (List.getElem_mem ht)
def priceS (S:Setup) (ss:List Stay) : Int:=((ss.flatMap cellsOf).map (prc S)).sum
def keptS (S:Setup) (ss:List Stay) : Int:=((ss.flatMap cellsOf).map fun c=>prc S c * S.share / 100).sum
def P_price_of (K:PySem.W.Frag) (A:Ad) (x0 x1:V) (H:Hp) (Q:VK) : Prop:=∃ (S:Setup) (a:Addr) (xs:List V) (ss:List Stay),SetupOk S∧Da H x0 (setupD S)∧x1=.ref a∧H a=some (.tup xs)∧DaL H xs (ss.map stayD)∧(∀ s∈ss,StayOk S s)∧ss.length≤100∧
  ∀ H',Fr [] H H'→Q (.int (priceS S ss)) H'
def sp_price_of (K:PySem.W.Frag) (A:Ad) : Sp:=fun vs H Q _=>∃ x0 x1,vs=[x0,x1]∧P_price_of K A x0 x1 H Q
theorem c_price_of {K:PySem.W.Frag} {A:Ad} {x0 x1:V} {H:Hp} {Q:VK} {E:XK} (h:P_price_of K A x0 x1 H Q) : sp_price_of K A [x0,x1] H Q E:=⟨_,_,rfl,h⟩
theorem sc_price_of:FnScope ["setup","party","needs","cell"] ["setup","party"] (defScope s_price_of):=⟨rfl,rfl,rfl,by decide +kernel,rfl,by decide +kernel,by decide +kernel⟩
def t_price_of (K:PySem.W.Frag) (A:Ad) : TS:=
  (tSeq (tAsg (tCl (sp_needs_of K A) (tCons (tVar 1) tNil)) (gName 2))
    (tRet (tCB (rSum K) (tCons (tLockE (tLc (iKeys (tVar 2)) (gName 3) tYes (tOp oMul (tOp (rIxT K) (tOp (rIxT K) (tOp (rIxT K) (tVar 0) (tC (.int 3))) (tOp (rIxT K) (tVar 3) (tC (.int 0)))) (tOp (rIxT K) (tVar 3) (tC (.int 1)))) (tDGet (tVar 2) (tVar 3))) [3])) tNil))))
theorem pu_price_of (T:Txt K mg A) {x0 x1:V} {H:Hp} {Q:VK} (h:P_price_of K A x0 x1 H Q) : t_price_of K A { nx:=fun _ H'=>Q .non H',rt:=Q } [some x0,some x1,none,none] H:=by
  obtain ⟨S,a,xs,ss,ok,dS,rfl,ex,ds,hk,hss,k⟩:=h
  unfold t_price_of
  ((with_reducible refine j_sa (g_cl ?_));walk_at "2")
  refine c_needs_of ⟨a,xs,ss,rfl,ex,ds,SmallSt.of ok hk,hss,fun p H1 n1 f1 e1=>?_⟩
  obtain ⟨s,r,pr,ps,sa⟩:=SetAt.of (Da.frL f1 dS (imm_setup S))
  cases sa.e
  ((with_reducible refine g_name (g_ret (g_cb (g_cons ?_)))))
  refine g_lockE e1 trivial trivial fun od H2 f2 e2=>?_
  have es2:=f2.tup _ _ sa.t
  have ep2:=f2.tup _ _ sa.p
  ((with_reducible refine g_lc (g_iK ?_));walk_at "0";(with_reducible refine' g_rkt ?h182 ?_);(case h182=>walk_at "fact"))
  refine l_keysT (kvs:=cD (needsL ss)) fun Dl H3 nD f3 e3=>⟨fun i acc H'=>acc=((needsL ss).take i).map (fun e=>V.int (prc S e.1 * e.2))∧Fr [] H2 H'∧H' p=some (.frz od (.dT (cD (needsL ss)))),⟨rfl,f3,f3.at0 e2⟩,fun i acc H' h=>h.2.2,fun i kk v q acc H' hi hq ha ⟨ea,f,ed⟩=>?_,fun acc H' ha ⟨ea,f,ed⟩=>?_⟩
  · obtain ⟨e,he,rfl,rfl⟩:=cD_get hi
    have hmem:=List.mem_of_getElem? he
    obtain ⟨c0,c1,c2,c3⟩:=cell_ok ok hk hmem
    obtain ⟨b,row,h1,h2,h3,h4,h5⟩:=prc_at ok sa c0 c1 c2 c3
    have hq2:H' q=some (.tup [.int e.1.1,.int e.1.2]):=hq
    have h2':=f.tup _ _ (f2.tup _ _ h2)
    have es3:=f.tup _ _ es2
    have ep3:=f.tup _ _ ep2
    ((with_reducible refine g_name ?_))
    refine ⟨rfl,?_⟩
    ((with_reducible refine g_yes (g_iteT (g_op (g_op (g_op ?_)))));walk_at "3";walk_at "3")
    refine g_ixT (SqT.of ep3) h1 ?_
    (walk_at "3")
    refine g_ixT (SqT.of h2') h3 ?_
    ((with_reducible refine' j_dv0 ?h185 ?_);(case h185=>exact rfl);walk_at "0")
    refine g_rdg (k:=ck e.1) (v:=.int e.2) (.inr ⟨_,ed⟩) hq (by rw [val_cell,lk_mem (needs_nd ss) hmem];rfl) ?_
    (walk_at "11")
    have hlen : acc.length≤100000:=by
      rw [ea,List.length_map,List.length_take]
      have h6:=fold_len (ss.flatMap cellsOf) []
      have h7:=flat_len ss 1000 fun z hz=>by obtain ⟨q0,q1,q2,q3⟩:=SmallSt.of ok hk z hz;omega
      have h8 : 1000 * ss.length≤1000 * 100:=Nat.mul_le_mul_left _ hss
      have h9:(needsL ss).length≤0 + (ss.flatMap cellsOf).length:=h6
      omega
    refine lcY_of ha (by walk_at "sz") fun H5 f5 e5=>⟨?_,f.own1 f5 nD,f5.at ed (nin1 (ne_of ed ha (by intro z;cases z)) nin0)⟩
    rw [take_more he,List.map_append,ea]
    rfl
  · refine g_unl ed fun H4 f4 e4=>?_
    rw [enD_len,List.take_length] at ea
    have ha4:H4 Dl=some (.lst acc):=f4.at ha (nin1 (ne_of ha ed (by intro z;cases z)) nin0)
    ((with_reducible refine g_nil ?_))
    rw [ea] at ha4
    refine g_sum (ns:=(needsL ss).map fun e=>prc S e.1 * e.2) (SqL.of (by rw [ha4,List.map_map];rfl)) ?_
    have hs:((needsL ss).map fun e=>prc S e.1 * e.2).sum=priceS S ss:=needs_sum (prc S) ss
    rw [hs]
    exact k H4 (((f1.own1 f2 n1).then0 f).own1 f4 n1)
theorem ok_price_of {f:Addr} {fd:FuncData} (F:Fun K "price_of" "price_of" s_price_of f fd) (T:Txt K mg A) (c_needs_of:Cal P w K mg base "needs_of" 2 ["party"] (sp_needs_of K A)) : FnOk P w K mg base CX0 (3) f fd ["setup","party"] (sp_price_of K A):=by
  refine F.ok sc_price_of (fun vs H Q E h=>?_) (fun cdv Ar outer s H vs Q E hr h=>⟨t_price_of K A,?_,?_⟩)
  · obtain ⟨x0,x1,rfl,_⟩:=h
    rfl
  · have hu:=hu_of hr
    exact (pss_cons (ps_set (i:=2) sc_price_of.nd rfl (Or.inr rfl) (pe_cl c_needs_of (hr.mono (by first | decide | omega)) (by rfl) (pa_cons (pv 1) pa_nil)))
    (pss_one (ps_ret (pe_callB (cr_sum rfl) (by rfl) T.b_sum (by decide +kernel) (pa_cons (pe_lock (pe_lc (own:=[("cell",3)]) (g:=(gName 3)) (tt:=tYes) rfl sc_price_of.nd (pi_keys (pv 2)) (blkOk_by (N:=["setup","party","needs","cell"]) (sc:=defScope s_price_of) (own:=[("cell",3)]) (by decide +kernel)) (fun _ _ _ _ _=>(pg_name (i:=3) sc_price_of.nd rfl (Or.inl rfl))) (fun _ _ _ _ _=>pts_nil) (fun _ _ _ _ _=>(pe_op o_mul (pe_ix ix_tup (pe_ix ix_tup (pe_ix ix_tup (pv 0) pe_int (fun _ _=>rfl)) (pe_ix ix_tup (pv 3) pe_int (fun _ _=>rfl)) (fun _ _=>rfl)) (pe_ix ix_tup (pv 3) pe_int (fun _ _=>rfl)) (fun _ _=>rfl)) (pe_dget hu (pv 2) (pv 3) (fun _ _=>rfl)))))) pa_nil)))))
  · obtain ⟨x0,x1,rfl,h⟩:=h
    exact pu_price_of T h
def P_kept_of (K:PySem.W.Frag) (A:Ad) (x0 x1:V) (H:Hp) (Q:VK) : Prop:=∃ (S:Setup) (a:Addr) (xs:List V) (ss:List Stay),SetupOk S∧Da H x0 (setupD S)∧x1=.ref a∧H a=some (.tup xs)∧DaL H xs (ss.map stayD)∧(∀ s∈ss,StayOk S s)∧ss.length≤100∧
  ∀ H',Fr [] H H'→Q (.int (keptS S ss)) H'
def sp_kept_of (K:PySem.W.Frag) (A:Ad) : Sp:=fun vs H Q _=>∃ x0 x1,vs=[x0,x1]∧P_kept_of K A x0 x1 H Q
theorem c_kept_of {K:PySem.W.Frag} {A:Ad} {x0 x1:V} {H:Hp} {Q:VK} {E:XK} (h:P_kept_of K A x0 x1 H Q) : sp_kept_of K A [x0,x1] H Q E:=⟨_,_,rfl,h⟩
theorem sc_kept_of:FnScope ["setup","party","needs","total","kind","night"] ["setup","party"] (defScope s_kept_of):=⟨rfl,rfl,rfl,by decide +kernel,rfl,by decide +kernel,by decide +kernel⟩
def t_kept_of (K:PySem.W.Frag) (A:Ad) : TS:=
  (tSeq (tAsg (tCl (sp_needs_of K A) (tCons (tVar 1) tNil)) (gName 2))
    (tSeq (tAsg (tC (.int 0)) (gName 3))
    (tSeq (tLock (tFor (iKeys (tVar 2)) (gTup K 2 (gCons (gName 4) (gCons (gName 5) gNil))) (tAug 3 (tOp oMul (tOp oDiv (tOp oMul (tOp (rIxT K) (tOp (rIxT K) (tOp (rIxT K) (tVar 0) (tC (.int 3))) (tVar 4)) (tVar 5)) (tOp (rIxT K) (tVar 0) (tC (.int 4)))) (tC (.int 100))) (tDGet (tVar 2) (tTup (tCons (tVar 4) (tCons (tVar 5) tNil))))) (ipI fun i j=>i + j))))
    (tRet (tVar 3)))))
theorem pu_kept_of (T:Txt K mg A) {x0 x1:V} {H:Hp} {Q:VK} (h:P_kept_of K A x0 x1 H Q) : t_kept_of K A { nx:=fun _ H'=>Q .non H',rt:=Q } [some x0,some x1,none,none,none,none] H:=by
  obtain ⟨S,a,xs,ss,ok,dS,rfl,ex,ds,hk,hss,k⟩:=h
  unfold t_kept_of
  ((with_reducible refine j_sa (g_cl ?_));walk_at "2")
  refine c_needs_of ⟨a,xs,ss,rfl,ex,ds,SmallSt.of ok hk,hss,fun p H1 n1 f1 e1=>?_⟩
  obtain ⟨s,r,pr,ps,sa⟩:=SetAt.of (Da.frL f1 dS (imm_setup S))
  cases sa.e
  ((with_reducible refine g_name (j_sa (g_c (g_name (g_seq ?_))))))
  refine g_lock e1 trivial trivial fun od H2 f2 e2=>?_
  have es2:=f2.tup _ _ sa.t
  have ep2:=f2.tup _ _ sa.p
  ((with_reducible refine g_for (g_iK ?_));walk_at "0";(with_reducible refine' g_rkt ?h190 ?_);(case h190=>walk_at "fact"))
  refine f_keysT (kvs:=cD (needsL ss)) (fun i σ H'=>∃ v4 v5,σ=[some (.ref s),some (.ref a),some (.ref p),some (.int (((needsL ss).take i).map fun e=>prc S e.1 * S.share / 100 * e.2).sum),v4,v5]∧Fr [] H2 H') ⟨_,_,rfl,Fr.refl⟩ ?_ ?_ ?_
  · rintro i σ H' _ ⟨_,_,_,f⟩
    exact f.at0 e2
  · rintro i kk v q σ H3 hi hq ⟨v4,v5,rfl,f3⟩
    obtain ⟨e,he,rfl,rfl⟩:=cD_get hi
    have hmem:=List.mem_of_getElem? he
    obtain ⟨c0,c1,c2,c3⟩:=cell_ok ok hk hmem
    obtain ⟨b,row,h1,h2,h3,h4,h5⟩:=prc_at ok sa c0 c1 c2 c3
    have hq2:H3 q=some (.tup [.int e.1.1,.int e.1.2]):=hq
    have h2':=f3.tup _ _ (f2.tup _ _ h2)
    have es3:=f3.tup _ _ es2
    have ep3:=f3.tup _ _ ep2
    ((with_reducible refine' g_gtup ?h191 ?l191 ?_);(case h191=>walk_at "sqt");(case l191=>exact rfl);(with_reducible refine g_gcons (g_name (g_gcons (g_name (g_gnil ?_)))));(with_reducible refine' g_aug ?h193 ?_);(case h193=>exact rfl);(with_reducible refine g_op (g_op (g_op (g_op (g_op ?_)))));walk_at "3";walk_at "0")
    refine g_ixT (SqT.of ep3) h1 ?_
    (walk_at "0")
    refine g_ixT (SqT.of h2') h3 ?_
    have hs0:=ok.h1
    have hs1:=ok.h2
    have hm : 0≤prc S e.1 * S.share∧prc S e.1 * S.share≤1000000 * 100:=⟨Int.mul_nonneg h4 hs0,Int.mul_le_mul h5 hs1 hs0 (by decide)⟩
    generalize hz : prc S e.1 * S.share=z at hm
    have hz1 : 0≤z / 100∧z / 100≤1000000:=by omega
    (walk_at "3";walk_at "11";(with_reducible refine g_c ?_);(with_reducible refine' g_div ?h196 ?_);(first | (case h196=>(first | exact ⟨by decide,by decide⟩ | assumption)) | fail);(with_reducible refine' j_dv0 ?h197 ?_);(case h197=>exact rfl);(with_reducible refine g_tup ?_);walk_at "1";walk_at "2";walk_at "5")
    rw [hz]
    skip
    rename_i t H4 n4 f4 e4
    have e24:=f4.at0 (f3.at0 e2)
    refine g_rdg (k:=ck e.1) (v:=.int e.2) (.inr ⟨_,e24⟩) e4 (by rw [val_cell,lk_mem (needs_nd ss) hmem];rfl) ?_
    generalize hz2 : z / 100=z2 at hz1
    (walk_at "11";(with_reducible refine g_ipI ?_))
    refine ⟨some (.int e.1.1),some (.int e.1.2),?_,f3.then0 f4⟩
    rw [take_more he,List.map_append,List.sum_append]
    simp only [List.map_cons,List.map_nil,List.sum_cons,List.sum_nil,hz,hz2,Int.add_zero]
    rfl
  · rintro σ H3 ⟨v4,v5,rfl,f3⟩
    rw [enD_len,List.take_length]
    ((with_reducible refine' g_unl ?h200 ?_);(case h200=>walk_at "fact");intro _ _ _;(with_reducible refine g_ret ?_);walk_at "0")
    rename_i H4 f4 e4
    have hs:((needsL ss).map fun e=>prc S e.1 * S.share / 100 * e.2).sum=keptS S ss:=needs_sum (fun c=>prc S c * S.share / 100) ss
    rw [hs]
    exact k H4 (((f1.own1 f2 n1).then0 f3).own1 f4 n1)
theorem ok_kept_of {f:Addr} {fd:FuncData} (F:Fun K "kept_of" "kept_of" s_kept_of f fd) (T:Txt K mg A) (c_needs_of:Cal P w K mg base "needs_of" 2 ["party"] (sp_needs_of K A)) : FnOk P w K mg base CX0 (3) f fd ["setup","party"] (sp_kept_of K A):=by
  refine F.ok sc_kept_of (fun vs H Q E h=>?_) (fun cdv Ar outer s H vs Q E hr h=>⟨t_kept_of K A,?_,?_⟩)
  · obtain ⟨x0,x1,rfl,_⟩:=h
    rfl
  · have hu:=hu_of hr
    exact (pss_cons (ps_set (i:=2) sc_kept_of.nd rfl (Or.inl rfl) (pe_cl c_needs_of (hr.mono (by first | decide | omega)) (by rfl) (pa_cons (pv 1) pa_nil)))
    (pss_cons (ps_set (i:=3) sc_kept_of.nd rfl (Or.inl rfl) pe_int)
    (pss_cons (ps_lock (ps_for PassesOwn.never rfl (pi_keys (pv 2)) (pg_tup rfl (pgs_cons (pg_name (i:=4) sc_kept_of.nd rfl (Or.inl rfl)) (pgs_cons (pg_name (i:=5) sc_kept_of.nd rfl (Or.inl rfl)) pgs_nil))) (pss_one (ps_aug (i:=3) sc_kept_of.nd rfl (Or.inl rfl) (pe_op o_mul (pe_op o_div (pe_op o_mul (pe_ix ix_tup (pe_ix ix_tup (pe_ix ix_tup (pv 0) pe_int (fun _ _=>rfl)) (pv 4) (fun _ _=>rfl)) (pv 5) (fun _ _=>rfl)) (pe_ix ix_tup (pv 0) pe_int (fun _ _=>rfl))) pe_int) (pe_dget hu (pv 2) (pe_tup (pa_cons (pv 4) (pa_cons (pv 5) pa_nil))) (fun _ _=>rfl))) ip_add))))
    (pss_one (ps_ret (pv 3))))))
  · obtain ⟨x0,x1,rfl,h⟩:=h
    exact pu_kept_of T h
abbrev Pty:=Addr×List Stay
abbrev pD (m:List (Cell×Pty)) : List (List Key×V):=enD ck (fun x:Pty=>V.ref x.1) m
def nd (p:List Stay) (c:Cell) : Int:=(lk (needsL p) c).getD 0
def tot (m:List (Cell×Pty)) (c:Cell) : Int:=(m.map fun e=>nd e.2.2 c).sum
def rmC (S:Setup) (c:Cell) : Int:=S.rooms.getD c.1.toNat 0
def fitb (S:Setup) (m:List (Cell×Pty)) (p:List Stay) : Bool:=(needsL p).all fun e=>decide (e.2 + tot m e.1≤rmC S e.1)
theorem tot_snoc (e:Cell×Pty) (m:List (Cell×Pty)) (c:Cell) : tot (m++[e]) c=tot m c + nd e.2.2 c:=by
  unfold tot;rw [List.map_append,List.sum_append];simp
section
variable {κ α:Type} [DecidableEq κ]
theorem Nd.perm {m1 m2:List (κ×α)} (n:Nd m1) (h : m1.Perm m2) : Nd m2:=by
  unfold Nd at n ⊢
  exact (h.map (fun e : κ×α=>e.1)).nodup_iff.mp n
theorem dr_nd {m:List (κ×α)} (n:Nd m) (k : κ) : Nd (dr m k):=by
  unfold Nd dr
  exact List.Pairwise.sublist (List.Sublist.map _ List.filter_sublist) n
theorem dr_not {m:List (κ×α)} {k : κ} : k∉(dr m k).map (·.1):=fun q=>by
  obtain ⟨e,he,z⟩:=List.mem_map.mp q
  exact (of_decide_eq_true (List.mem_filter.mp he).2) z
theorem pt_new {m:List (κ×α)} {k : κ} {v : α} (h : k∉m.map (·.1)) : pt m k v=m++[(k,v)]:=by
  unfold pt
  rw [if_neg]
  intro q
  obtain ⟨e,he,z⟩:=List.any_eq_true.mp q
  exact h (List.mem_map.mpr ⟨e,he,of_decide_eq_true z⟩)
theorem pt_mid {A B:List (κ×α)} {k : κ} {w v : α} (h:Nd (A++(k,w)::B)) : pt (A++(k,w)::B) k v=A++(k,v)::B:=by
  unfold Nd at h
  rw [List.map_append,List.map_cons,List.nodup_append] at h
  obtain ⟨_,h2,h3⟩:=h
  have hB:=(List.nodup_cons.mp h2).1
  have hA : k∉A.map (·.1):=fun z=>h3 k z k List.mem_cons_self rfl
  have same:∀ {L:List (κ×α)},k∉L.map (·.1)→(L.map fun e=>if e.1=k then (e.1,v) else e)=L:=fun {L} hL=>by
    refine (List.map_congr_left fun e he=>?_).trans (List.map_id L)
    rw [if_neg fun z=>hL (List.mem_map.mpr ⟨e,he,z⟩)];rfl
  unfold pt
  rw [if_pos (by simp),List.map_append,List.map_cons,same hA,same hB,if_pos rfl]
theorem dr_none {m:List (κ×α)} {k : κ} (h : lk m k=none) : dr m k=m:=List.filter_eq_self.mpr fun e he=>decide_eq_true fun z=>by
  have : k∈m.map (·.1):=List.mem_map.mpr ⟨e,he,z⟩
  unfold lk at h
  rw [Option.map_eq_none_iff,List.find?_eq_none] at h
  exact h e he (decide_eq_true z)
end
theorem lk_not {κ α:Type} [DecidableEq κ] {m:List (κ×α)} {k : κ} (h : lk m k=none) : k∉m.map (·.1):=fun q=>by
  obtain ⟨e,he,z⟩:=List.mem_map.mp q
  unfold lk at h
  rw [Option.map_eq_none_iff,List.find?_eq_none] at h
  exact h e he (decide_eq_true z)
theorem rmC_at {S:Setup} {k n:Int} (h0 : 0≤k) (h1 : k < S.rooms.length) : atI (S.rooms.map V.int) k=some (.int (rmC S (k,n))):=by
  have hk : k.toNat < S.rooms.length:=by omega
  have e:(S.rooms.map V.int)[k.toNat]? = some (.int (rmC S (k,n))):=by
    unfold rmC
    rw [List.getElem?_map,List.getElem?_eq_getElem hk,List.getD_eq_getElem?_getD,List.getElem?_eq_getElem hk];rfl
  have:=atI_nat e
  rw [show ((k.toNat:Nat) : Int)=k by omega] at this
  exact this
theorem lk_cons {κ α:Type} [DecidableEq κ] (e : κ×α) (r:List (κ×α)) (c : κ) : lk (e::r) c=if e.1=c then some e.2 else lk r c:=by
  unfold lk
  by_cases h : e.1=c
  · simp [List.find?_cons,h]
  · simp [List.find?_cons,h]
theorem nd_pos (p:List Stay) (c:Cell) : 0≤nd p c:=by
  unfold nd
  have key:∀ (cs:List Cell) (m:List (Cell×Int)),(∀ c,0≤(lk m c).getD 0)→∀ c,0≤(lk (cs.foldl bump m) c).getD 0:=by
    intro cs
    induction cs with
    | nil=>intro m h c;exact h c
    | cons a r ih=>
      intro m h c
      refine ih (bump m a) (fun c=>?_) c
      unfold bump
      rw [lk_pt]
      split
      · have:=h a;show 0≤(lk m a).getD 0 + 1;omega
      · exact h c
  exact key _ [] (fun c=>Int.le_refl _) c
theorem pD_get {m:List (Cell×Pty)} {i:Nat} {k:List Key} {v:V} (h:(pD m)[i]? = some (k,v)) : ∃ e,m[i]? = some e∧k=ck e.1∧v=.ref e.2.1:=enD_get h
theorem val_pty (m:List (Cell×Pty)) (c:Cell) : valV (pD m) (ck c)=(lk m c).map fun x:Pty=>V.ref x.1:=enD_val ck_inj m c
theorem val_ndB (p:List Stay) (c:Cell) : (valV (cD (needsL p)) (ck c)).getD (.int 0)=.int (nd p c):=by
  rw [val_cell];unfold nd
  cases lk (needsL p) c <;> rfl
structure Kp (S:Setup) (H:Hp) (m:List (Cell×Pty)) : Prop where
  n:Nd m
  da:∀ e∈m,Da H (.ref e.2.1) (partyD e.2.2)
  ok:∀ e∈m,∀ s∈e.2.2,StayOk S s
  l4:∀ e∈m,e.2.2.length≤4
  len : m.length≤60
theorem Kp.fr {S:Setup} {H H':Hp} {l:List Addr} {m:List (Cell×Pty)} (k:Kp S H m) (f:Fr l H H') : Kp S H' m:=⟨k.n,fun e he=>Da.frL f (k.da e he) (imm_party _),k.ok,k.l4,k.len⟩
theorem Kp.at {S:Setup} {H:Hp} {m:List (Cell×Pty)} (k:Kp S H m) {e:Cell×Pty} (he : e∈m) : ∃ xs,H e.2.1=some (.tup xs)∧DaL H xs (e.2.2.map stayD):=by
  obtain ⟨a,xs,ea,h,_,r⟩:=(k.da e he).tup1
  cases ea
  exact ⟨xs,h,r⟩
def BookAt (A:Ad) (H:Hp) (b kd r:Addr) (N:Int) (m:List (Cell×Pty)) : Prop:=(∃ dx,H b=some (.ins A.Book dx (F_Book r N kd)))∧H kd=some (.dT (pD m))
def P_Book_init (K:PySem.W.Frag) (A:Ad) (x0 x1 x2:V) (H:Hp) (Q:VK) : Prop:=∃ (p dx r:Addr) (N:Int),x0=.ref p∧x1=.ref r∧x2=.int N∧H p=some (.ins A.Book dx [])∧
  ∀ (kd:Addr) (H':Hp),H kd=none→Fr [p] H H'→BookAt A H' p kd r N []→Q .non H'
def sp_Book_init (K:PySem.W.Frag) (A:Ad) : Sp:=fun vs H Q _=>∃ x0 x1 x2,vs=[x0,x1,x2]∧P_Book_init K A x0 x1 x2 H Q
theorem c_Book_init {K:PySem.W.Frag} {A:Ad} {x0 x1 x2:V} {H:Hp} {Q:VK} {E:XK} (h:P_Book_init K A x0 x1 x2 H Q) : sp_Book_init K A [x0,x1,x2] H Q E:=⟨_,_,_,rfl,h⟩
theorem sc_Book_init:FnScope ["self","rooms","nights"] ["self","rooms","nights"] (defScope s_Book_init):=⟨rfl,rfl,rfl,by decide +kernel,rfl,by decide +kernel,by decide +kernel⟩
def t_Book_init (K:PySem.W.Frag) (A:Ad) : TS:=
  (tSeq (sFld K (tVar 0) (tVar 1) "rooms")
    (tSeq (sFld K (tVar 0) (tVar 2) "nights")
    (sFld K (tVar 0) tDNewT "kept")))
theorem pu_Book_init (T:Txt K mg A) {x0 x1 x2:V} {H:Hp} {Q:VK} (h:P_Book_init K A x0 x1 x2 H Q) : t_Book_init K A { nx:=fun _ H'=>Q .non H',rt:=Q } [some x0,some x1,some x2] H:=by
  obtain ⟨p,dx,r,N,rfl,rfl,rfl,hp,k⟩:=h
  unfold t_Book_init
  walk_at "go"
  rename_i H1 f1 e1 H2 f2 e2 kd H3 n3 f3 e3 H4 f4 e4
  have npk : kd≠p:=fun z=>by rw [z,e2] at n3;cases n3
  exact k kd H4 ((f1.transL f2).freeL n3 (nin1 npk nin0)) (((f1.transL f2).then0 f3).transL f4) ⟨⟨dx,e4⟩,f4.at e3 (nin1 npk nin0)⟩
theorem ok_Book_init {f:Addr} {fd:FuncData} (F:Fun K "__init__" "Book.__init__" s_Book_init f fd) (T:Txt K mg A)  : FnOk P w K mg base CX0 (1) f fd ["self","rooms","nights"] (sp_Book_init K A):=by
  refine F.ok sc_Book_init (fun vs H Q E h=>?_) (fun cdv Ar outer s H vs Q E hr h=>⟨t_Book_init K A,?_,?_⟩)
  · obtain ⟨x0,x1,x2,rfl,_⟩:=h
    rfl
  · have hu:=hu_of hr
    exact (pss_cons (ps_fld (pv 0) (pv 1) rfl)
    (pss_cons (ps_fld (pv 0) (pv 2) rfl)
    (pss_one (ps_fld (pv 0) pe_dnewT rfl))))
  · obtain ⟨x0,x1,x2,rfl,h⟩:=h
    exact pu_Book_init T h
def P_Book_free (K:PySem.W.Frag) (A:Ad) (x0 x1 x2:V) (H:Hp) (Q:VK) : Prop:=∃ (b kd r:Addr) (N kind night:Int) (S:Setup) (m:List (Cell×Pty)),x0=.ref b∧x1=.int kind∧x2=.int night∧BookAt A H b kd r N m∧H r=some (.tup (S.rooms.map V.int))∧SetupOk S∧Kp S H m∧0≤kind∧kind < S.rooms.length∧
  ∀ H',Fr [] H H'→Q (.int (rmC S (kind,night) - tot m (kind,night))) H'
def sp_Book_free (K:PySem.W.Frag) (A:Ad) : Sp:=fun vs H Q _=>∃ x0 x1 x2,vs=[x0,x1,x2]∧P_Book_free K A x0 x1 x2 H Q
theorem sc_Book_free:FnScope ["self","kind","night","left","name"] ["self","kind","night"] (defScope s_Book_free):=⟨rfl,rfl,rfl,by decide +kernel,rfl,by decide +kernel,by decide +kernel⟩
def t_Book_free (K:PySem.W.Frag) (A:Ad) : TS:=
  (tSeq (tAsg (tOp (rIxT K) (tFld K (tVar 0) "rooms") (tVar 1)) (gName 3))
    (tSeq (tLock (tFor (iKeys (tFld K (tVar 0) "kept")) (gName 4) (tAug 3 (tDGet2 (tCl (sp_needs_of K A) (tCons (tDGet (tFld K (tVar 0) "kept") (tVar 4)) tNil)) (tTup (tCons (tVar 1) (tCons (tVar 2) tNil))) (tC (.int 0))) (ipI fun i j=>i - j))))
    (tRet (tVar 3))))
theorem pu_Book_free (T:Txt K mg A) {x0 x1 x2:V} {H:Hp} {Q:VK} (h:P_Book_free K A x0 x1 x2 H Q) : t_Book_free K A { nx:=fun _ H'=>Q .non H',rt:=Q } [some x0,some x1,some x2,none,none] H:=by
  obtain ⟨b,kd,r,N,kind,night,S,m,rfl,rfl,rfl,⟨⟨dx,hb⟩,hk⟩,er,so,kp,k0,k1,k⟩:=h
  have nbk : b≠kd:=ne_of hb hk (by intro z;cases z)
  unfold t_Book_free
  walk_at "go"
  refine g_ixT (SqT.of er) (rmC_at (n:=night) k0 k1) ?_
  walk_at "go"
  refine g_lock hk trivial trivial fun od H2 f2 e2=>?_
  have hb2:=f2.at hb (nin1 nbk nin0)
  walk_at "go"
  refine f_keysT (kvs:=pD m) (fun i σ H'=>(∃ v4,σ=[some (.ref b),some (.int kind),some (.int night),some (.int (rmC S (kind,night) - tot (m.take i) (kind,night))),v4])∧Fr [] H2 H') ⟨⟨_,by rw [List.take_zero];show _=[_,_,_,some (V.int (rmC S (kind,night) - 0)),_];rw [Int.sub_zero];rfl⟩,Fr.refl⟩ (fun i σ H' _ ⟨_,f⟩=>f.at0 e2) ?_ ?_
  · rintro i kk v q σ H3 hi hq ⟨⟨v4,rfl⟩,f3⟩
    obtain ⟨e,he,rfl,rfl⟩:=pD_get hi
    have hmem:=List.mem_of_getElem? he
    have F3:Fr [kd] H H3:=f2.then0 f3
    obtain ⟨xs,ex,dxs⟩:=(kp.fr F3).at hmem
    have hb3:=f3.at0 hb2
    have ed:=f3.at0 e2
    walk_at "go"
    refine g_rdg (k:=ck e.1) (v:=.ref e.2.1) (.inr ⟨_,ed⟩) hq (by rw [val_pty,lk_mem kp.n hmem];rfl) ?_
    walk_at "go"
    refine c_needs_of ⟨e.2.1,xs,e.2.2,rfl,ex,dxs,SmallSt.of so (kp.ok e hmem),Nat.le_trans (kp.l4 e hmem) (by decide),fun p H4 n4 f4 e4=>?_⟩
    walk_at "go"
    rename_i t H5 n5 f5 e5
    refine g_dgo (k:=ck (kind,night)) (.inl (f5.at0 e4)) e5 ?_
    rw [val_ndB]
    walk_at "go"
    refine ⟨⟨some (.ref q),?_⟩,(f3.then0 f4).then0 f5⟩
    have e1 : rmC S (kind,night) - tot (m.take i) (kind,night) - nd e.2.2 (kind,night)=rmC S (kind,night) - tot (m.take (i + 1)) (kind,night):=by
      rw [take_more he,tot_snoc];omega
    rw [← e1];rfl
  · rintro σ H3 ⟨⟨v4,rfl⟩,f3⟩
    refine g_unl (f3.at0 e2) fun H4 f4 e4=>?_
    rw [enD_len,List.take_length]
    walk_at "go"
    exact k H4 (((f2.then0 f3).transL f4).back hk e4)
theorem ok_Book_free {f:Addr} {fd:FuncData} (F:Fun K "free" "Book.free" s_Book_free f fd) (T:Txt K mg A) (c_needs_of:Cal P w K mg base "needs_of" 2 ["party"] (sp_needs_of K A)) : FnOk P w K mg base CX0 (3) f fd ["self","kind","night"] (sp_Book_free K A):=by
  refine F.ok sc_Book_free (fun vs H Q E h=>?_) (fun cdv Ar outer s H vs Q E hr h=>⟨t_Book_free K A,?_,?_⟩)
  · obtain ⟨x0,x1,x2,rfl,_⟩:=h
    rfl
  · have hu:=hu_of hr
    exact (pss_cons (ps_set (i:=3) sc_Book_free.nd rfl (Or.inl rfl) (pe_ix ix_tup (pe_fld (pv 0) rfl) (pv 1) (fun _ _=>rfl)))
    (pss_cons (ps_lock (ps_for PassesOwn.never rfl (pi_keys (pe_fld (pv 0) rfl)) (pg_name (i:=4) sc_Book_free.nd rfl (Or.inl rfl)) (pss_one (ps_aug (i:=3) sc_Book_free.nd rfl (Or.inl rfl) (pe_dget2 hu (pe_cl c_needs_of (hr.mono (by first | decide | omega)) (by rfl) (pa_cons (pe_dget hu (pe_fld (pv 0) rfl) (pv 4) (fun _ _=>rfl)) pa_nil)) (pe_tup (pa_cons (pv 1) (pa_cons (pv 2) pa_nil))) pe_int ⟨rfl,rfl,rfl,rfl⟩) ip_sub))))
    (pss_one (ps_ret (pv 3)))))
  · obtain ⟨x0,x1,x2,rfl,h⟩:=h
    exact pu_Book_free T h
def P_Book_fits (K:PySem.W.Frag) (A:Ad) (x0 x1:V) (H:Hp) (Q:VK) : Prop:=∃ (b kd r pa:Addr) (N:Int) (S:Setup) (m:List (Cell×Pty)) (ps:List Stay),x0=.ref b∧x1=.ref pa∧BookAt A H b kd r N m∧H r=some (.tup (S.rooms.map V.int))∧SetupOk S∧Kp S H m∧Da H (.ref pa) (partyD ps)∧(∀ s∈ps,StayOk S s)∧ps.length≤4∧
  ∀ H',Fr [] H H'→Q (.bl (fitb S m ps)) H'
def lfT (S:Setup) (t:Cell→Int) (e:Cell×Int) : Cell×Int:=(e.1,rmC S e.1 - e.2 - t e.1)
theorem lf_keys (S:Setup) (t:Cell→Int) (q:List (Cell×Int)) : (q.map (lfT S t)).map (·.1)=q.map (·.1):=by rw [List.map_map];rfl
theorem key_new {q:List (Cell×Int)} {i:Nat} {e:Cell×Int} (n:Nd q) (he : q[i]? = some e) (S:Setup) (t:Cell→Int) : e.1∉((q.take i).map (lfT S t)).map (·.1):=fun z=>by
  rw [lf_keys] at z
  obtain ⟨x,hx,hk⟩:=List.mem_map.mp z
  obtain ⟨j,hj⟩:=List.mem_iff_getElem?.mp hx
  have hji : j < i:=by
    have:=(List.getElem?_eq_some_iff.mp hj).1
    rw [List.length_take] at this;omega
  rw [List.getElem?_take_of_lt hji] at hj
  obtain ⟨h1,e1⟩:=List.getElem?_eq_some_iff.mp hj
  obtain ⟨h2,e2⟩:=List.getElem?_eq_some_iff.mp he
  have pw:=List.pairwise_iff_getElem.mp (show (q.map (·.1)).Pairwise (·≠·) from n) j i (by rw [List.length_map];exact h1) (by rw [List.length_map];exact h2) hji
  rw [List.getElem_map,List.getElem_map,e1,e2] at pw
  exact pw hk
theorem drop_of {α:Type}:∀ {l:List α} {j:Nat} {x : α},l[j]? = some x→l.drop j=x::l.drop (j + 1)
  | [],j,x,h=>by simp at h
  | a::l,0,x,h=>by have e : a=x:=Option.some.inj h;rw [e];rfl
  | a::l,j + 1,x,h=>drop_of (l:=l) (j:=j) h
def mixT (S:Setup) (t t':Cell→Int) (q:List (Cell×Int)) (j:Nat) : List (Cell×Int):=(q.take j).map (lfT S t')++(q.drop j).map (lfT S t)
theorem mix_nd {S:Setup} {t t':Cell→Int} {q:List (Cell×Int)} {j:Nat} (n:Nd q) : Nd (mixT S t t' q j):=by
  unfold Nd mixT
  rw [List.map_append,lf_keys,lf_keys,← List.map_append,List.take_append_drop]
  exact n
theorem mix_len {S:Setup} {t t':Cell→Int} {q:List (Cell×Int)} {j:Nat}:(mixT S t t' q j).length=q.length:=by
  unfold mixT
  rw [List.length_append,List.length_map,List.length_map,← List.length_append,List.take_append_drop]
theorem mix_at {S:Setup} {t t':Cell→Int} {q:List (Cell×Int)} {j:Nat} {e:Cell×Int} (he : q[j]? = some e) : mixT S t t' q j=(q.take j).map (lfT S t')++(e.1,rmC S e.1 - e.2 - t e.1)::(q.drop (j + 1)).map (lfT S t):=by
  unfold mixT
  rw [drop_of he,List.map_cons];rfl
theorem mix_step {S:Setup} {t t':Cell→Int} {q:List (Cell×Int)} {j:Nat} {e:Cell×Int} (n:Nd q) (he : q[j]? = some e) : lk (mixT S t t' q j) e.1=some (rmC S e.1 - e.2 - t e.1)∧pt (mixT S t t' q j) e.1 (rmC S e.1 - e.2 - t' e.1)=mixT S t t' q (j + 1):=by
  have nm:=mix_nd (S:=S) (t:=t) (t':=t') (j:=j) n
  rw [mix_at he] at nm ⊢
  refine ⟨lk_mem (e:=(e.1,rmC S e.1 - e.2 - t e.1)) nm (by simp),?_⟩
  rw [pt_mid nm]
  unfold mixT
  rw [take_more he,List.map_append,List.append_assoc];rfl
theorem fit_left {S:Setup} {m:List (Cell×Pty)} {ps:List Stay}:(((needsL ps).map (lfT S (tot m))).map fun e=>decide (0≤e.2)).all id=fitb S m ps:=by
  unfold fitb
  rw [List.map_map,List.all_map]
  congr 1
  funext e
  show decide (0≤rmC S e.1 - e.2 - tot m e.1)=decide (e.2 + tot m e.1≤rmC S e.1)
  exact decide_eq_decide.mpr (by omega)
theorem needs_len {S:Setup} (so:SetupOk S) {ps:List Stay} (ok:∀ s∈ps,StayOk S s) (h4 : ps.length≤4) : (needsL ps).length≤4000:=by
  have h6:=fold_len (ps.flatMap cellsOf) []
  have h7:=flat_len ps 1000 fun z hz=>by obtain ⟨q0,q1,q2,q3⟩:=SmallSt.of so ok z hz;omega
  have h9:(needsL ps).length≤0 + (ps.flatMap cellsOf).length:=h6
  omega
def sp_Book_fits (K:PySem.W.Frag) (A:Ad) : Sp:=fun vs H Q _=>∃ x0 x1,vs=[x0,x1]∧P_Book_fits K A x0 x1 H Q
theorem c_Book_fits {K:PySem.W.Frag} {A:Ad} {x0 x1:V} {H:Hp} {Q:VK} {E:XK} (h:P_Book_fits K A x0 x1 H Q) : sp_Book_fits K A [x0,x1] H Q E:=⟨_,_,rfl,h⟩
theorem sc_Book_fits:FnScope ["self","party","left","needs","cell","name","others"] ["self","party"] (defScope s_Book_fits):=⟨rfl,rfl,rfl,by decide +kernel,rfl,by decide +kernel,by decide +kernel⟩
def t_Book_fits (K:PySem.W.Frag) (A:Ad) : TS:=
  (tSeq (tAsg tDNewT (gName 2))
    (tSeq (tAsg (tCl (sp_needs_of K A) (tCons (tVar 1) tNil)) (gName 3))
    (tSeq (tLock (tFor (iKeys (tVar 3)) (gName 4) (sDPut (tVar 2) (tVar 4) (tOp oSub (tOp (rIxT K) (tFld K (tVar 0) "rooms") (tOp (rIxT K) (tVar 4) (tC (.int 0)))) (tDGet (tVar 3) (tVar 4))))))
    (tSeq (tLock (tFor (iKeys (tFld K (tVar 0) "kept")) (gName 5) (tSeq (tAsg (tCl (sp_needs_of K A) (tCons (tDGet (tFld K (tVar 0) "kept") (tVar 5)) tNil)) (gName 6))
    (tLock (tFor (iKeys (tVar 3)) (gName 4) (sDAug (tVar 2) (tVar 4) (tDGet2 (tVar 6) (tVar 4) (tC (.int 0))) rSub))))))
    (tRet (tCB (rAll K) (tCons (tLockE (tLc (iKeys (tVar 2)) (gName 4) tYes (tOp cGe (tDGet (tVar 2) (tVar 4)) (tC (.int 0))) [4])) tNil)))))))
theorem pu_Book_fits (T:Txt K mg A) {x0 x1:V} {H:Hp} {Q:VK} (h:P_Book_fits K A x0 x1 H Q) : t_Book_fits K A { nx:=fun _ H'=>Q .non H',rt:=Q } [some x0,some x1,none,none,none,none,none] H:=by
  obtain ⟨b,kd,r,pa,N,S,m,ps,rfl,rfl,⟨⟨dx,hb⟩,hk⟩,er,so,kp,dp0,okp,h4,k⟩:=h
  obtain ⟨_,xs,epa,ep,_,dxs⟩:=dp0.tup1
  cases epa
  have nbk : b≠kd:=ne_of hb hk (by intro z;cases z)
  have nn:=needs_nd ps
  have nl:=needs_len so okp h4
  unfold t_Book_fits
  walk_at "go"
  rename_i lf H1 n1 f1 e1
  refine c_needs_of ⟨pa,xs,ps,rfl,f1.tup _ _ ep,DaL.frL f1 dxs (imm_stays ps),SmallSt.of so okp,Nat.le_trans h4 (by decide),fun nd H2 n2 f2 e2=>?_⟩
  have e12:=f2.at0 e1
  have nln : lf≠nd:=ne_of_none e1 n2
  have F2:Fr [] H H2:=f1.then0 f2
  have nbl : b≠lf:=ne_of_none hb n1
  have nkl : kd≠lf:=ne_of_none hk n1
  have nbn : b≠nd:=fun z=>by rw [z] at hb;rw [f1.at0 hb] at n2;cases n2
  have nkn : kd≠nd:=fun z=>by rw [z] at hk;rw [f1.at0 hk] at n2;cases n2
  generalize hq : needsL ps=q at *
  walk_at "go"
  refine g_lock e2 trivial trivial fun od H3 f3 e3=>?_
  have hb3:=f3.at (F2.at0 hb) (nin1 nbn nin0)
  have e13:=f3.at e12 (nin1 nln nin0)
  walk_at "go"
  refine f_keysT (kvs:=cD q) (fun i σ H'=>(∃ v4,σ=[some (.ref b),some (.ref pa),some (.ref lf),some (.ref nd),v4,none,none])∧Fr [lf] H3 H'∧H' lf=some (.dT (cD ((q.take i).map (lfT S fun _=>0))))) ⟨⟨_,rfl⟩,Fr.refl,by rw [List.take_zero];exact e13⟩ (fun i σ H' _ ⟨_,f,_⟩=>f.at e3 (nin1 nln.symm nin0)) ?_ ?_
  · rintro i kk v t σ H4 hi ht ⟨⟨v4,rfl⟩,f4,e4⟩
    obtain ⟨e,he,rfl,rfl⟩:=cD_get hi
    have hmem:=List.mem_of_getElem? he
    obtain ⟨c0,c1,_,_⟩:=cell_ok so okp (by rw [hq];exact hmem)
    have ht2:H4 t=some (.tup [.int e.1.1,.int e.1.2]):=ht
    have hb4:=f4.at hb3 (nin1 nbl nin0)
    have er4:=f4.tup _ _ (f3.tup _ _ (F2.tup _ _ er))
    have ed:=f4.at e3 (nin1 nln.symm nin0)
    walk_at "go"
    refine g_ixT (SqT.of er4) (rmC_at (n:=e.1.2) c0 c1) ?_
    walk_at "go"
    refine g_rdg (k:=ck e.1) (v:=.int e.2) (.inr ⟨_,ed⟩) ht (by rw [val_cell,lk_mem nn hmem];rfl) ?_
    walk_at "go"
    refine g_rdp (k:=ck e.1) e4 ht (by rw [enD_len,List.length_map,List.length_take];exact szM (by omega)) fun H5 f5 e5=>?_
    walk_at "go"
    refine ⟨⟨_,rfl⟩,f4.transL f5,?_⟩
    rw [e5,put_cell,pt_new (key_new nn he S _),take_more he,List.map_append]
    show some (HO.dT (cD (_++[(e.1,rmC S (e.1.1,e.1.2) - e.2)])))=some (HO.dT (cD (_++[(e.1,rmC S e.1 - e.2 - 0)])))
    rw [Int.sub_zero]
  · rintro σ H4 ⟨⟨v4,rfl⟩,f4,e4⟩
    rw [enD_len,List.take_length] at e4
    refine g_unl (f4.at e3 (nin1 nln.symm nin0)) fun H5 f5 e5=>?_
    have e45:=f5.at e4 (nin1 nln nin0)
    have hk5:=f5.at (f4.at (f3.at (F2.at0 hk) (nin1 nkn nin0)) (nin1 nkl nin0)) (nin1 nkn nin0)
    have hb5:=f5.at (f4.at hb3 (nin1 nbl nin0)) (nin1 nbn nin0)
    have F25:Fr [lf] H2 H5:=by
      refine ⟨fun a o ea hna=>?_,fun a xs ea=>f5.tup _ _ (f4.tup _ _ (f3.tup _ _ ea))⟩
      by_cases z : a=nd
      · subst z;rw [e2] at ea;cases ea;exact e5
      · exact f5.at (f4.at (f3.at ea (nin1 z nin0)) hna) (nin1 z nin0)
    clear f3 f4 f5 e3 e13 hb3
    walk_at "go"
    refine g_lock hk5 trivial trivial fun od2 H6 f6 e6=>?_
    have hb6:=f6.at hb5 (nin1 nbk nin0)
    have nd6:=f6.at e5 (nin1 nkn.symm nin0)
    have lf6:=f6.at e45 (nin1 nkl.symm nin0)
    walk_at "go"
    refine f_keysT (kvs:=pD m) (fun i σ H'=>(∃ v4 v5 v6,σ=[some (.ref b),some (.ref pa),some (.ref lf),some (.ref nd),v4,v5,v6])∧Fr [lf] H6 H'∧H' lf=some (.dT (cD (q.map (lfT S (tot (m.take i))))))) ⟨⟨_,_,_,rfl⟩,Fr.refl,lf6⟩ (fun i σ H' _ ⟨_,f,_⟩=>f.at e6 (nin1 nkl nin0)) ?_ ?_
    · rintro i kk v t σ H7 hi ht ⟨⟨v4,v5,v6,rfl⟩,f7,e7⟩
      obtain ⟨e,he,rfl,rfl⟩:=pD_get hi
      have hmem:=List.mem_of_getElem? he
      have F7:Fr [lf,kd] H H7:=((((F2.of0.transL (F25.mono (by simp))).transL (f6.mono (by simp))).transL (f7.mono (by simp))) : Fr [lf,kd] H H7)
      obtain ⟨ys,ex,dys⟩:=(kp.fr F7).at hmem
      have hb7:=f7.at hb6 (nin1 nbl nin0)
      have ed:=f7.at e6 (nin1 nkl nin0)
      have nd7:=f7.at nd6 (nin1 nln.symm nin0)
      walk_at "go"
      refine g_rdg (k:=ck e.1) (v:=.ref e.2.1) (.inr ⟨_,ed⟩) ht (by rw [val_pty,lk_mem kp.n hmem];rfl) ?_
      walk_at "go"
      refine c_needs_of ⟨e.2.1,ys,e.2.2,rfl,ex,dys,SmallSt.of so (kp.ok e hmem),Nat.le_trans (kp.l4 e hmem) (by decide),fun on H8 n8 f8 e8=>?_⟩
      have nd8:=f8.at0 nd7
      have nno : nd≠on:=fun z=>by rw [z] at nd7;rw [nd7] at n8;cases n8
      have nlo : lf≠on:=fun z=>by rw [z] at e7;rw [e7] at n8;cases n8
      walk_at "go"
      refine g_lock nd8 trivial trivial fun od3 H9 f9 e9=>?_
      have on9:=f9.at e8 (nin1 nno.symm nin0)
      have lf9:=f9.at (f8.at0 e7) (nin1 nln nin0)
      walk_at "go"
      refine f_keysT (kvs:=cD q) (fun j σ H'=>(∃ v4,σ=[some (.ref b),some (.ref pa),some (.ref lf),some (.ref nd),v4,some (.ref t),some (.ref on)])∧Fr [lf] H9 H'∧H' lf=some (.dT (cD (mixT S (tot (m.take i)) (tot (m.take (i + 1))) q j)))) ⟨⟨_,rfl⟩,Fr.refl,by unfold mixT;rw [List.take_zero,List.drop_zero];exact lf9⟩ (fun j σ H' _ ⟨_,f,_⟩=>f.at e9 (nin1 nln.symm nin0)) ?_ ?_
      · rintro j kk v u σ H10 hj hu ⟨⟨v4,rfl⟩,f10,e10⟩
        obtain ⟨x,hx,rfl,rfl⟩:=cD_get hj
        obtain ⟨s1,s2⟩:=mix_step (S:=S) (t:=tot (m.take i)) (t':=tot (m.take (i + 1))) nn hx
        have on10:=f10.at on9 (nin1 nlo.symm nin0)
        refine g_name ?_
        refine g_daug (g_var rfl (g_var rfl ?_))
        refine g_rda0 (k:=ck x.1) e10 hu (by rw [val_cell,s1];rfl) ?_
        show tDGet2 _ _ _ _ _ _
        walk_at "go"
        refine g_dgo (k:=ck x.1) (.inl on10) hu ?_
        rw [val_ndB]
        walk_at "go"
        refine g_rdput (k:=ck x.1) e10 hu (by rw [enD_len,mix_len];exact szM (by omega)) fun H11 f11 e11=>?_
        refine ⟨⟨_,rfl⟩,f10.transL f11,?_⟩
        rw [e11,put_cell,← s2]
        have e12 : rmC S x.1 - x.2 - tot (m.take i) x.1 - Toy.nd e.2.2 x.1=rmC S x.1 - x.2 - tot (m.take (i + 1)) x.1:=by
          rw [take_more he,tot_snoc];omega
        rw [e12]
      · rintro σ H10 ⟨⟨v4,rfl⟩,f10,e10⟩
        rw [enD_len] at e10
        unfold mixT at e10
        rw [List.take_length,List.drop_length,List.map_nil,List.append_nil] at e10
        refine g_unl (f10.at e9 (nin1 nln.symm nin0)) fun H11 f11 e11=>?_
        walk_at "go"
        refine ⟨⟨_,_,_,rfl⟩,⟨fun a o ea hna=>?_,fun a xs ea=>f11.tup _ _ (f10.tup _ _ (f9.tup _ _ (f8.tup _ _ (f7.tup _ _ ea))))⟩,f11.at e10 (nin1 nln nin0)⟩
        have ea8:=f8.at0 (f7.at ea hna)
        by_cases z : a=nd
        · subst z;rw [nd8] at ea8;cases ea8;exact e11
        · exact f11.at (f10.at (f9.at ea8 (nin1 z nin0)) hna) (nin1 z nin0)
    · rintro σ H7 ⟨⟨v4,v5,v6,rfl⟩,f7,e7⟩
      rw [enD_len,List.take_length] at e7
      refine g_unl (f7.at e6 (nin1 nkl nin0)) fun H8 f8 e8=>?_
      have e78:=f8.at e7 (nin1 nkl.symm nin0)
      have F8:Fr [lf] H5 H8:=by
        refine ⟨fun a o ea hna=>?_,fun a xs ea=>f8.tup _ _ (f7.tup _ _ (f6.tup _ _ ea))⟩
        by_cases z : a=kd
        · subst z;rw [hk5] at ea;cases ea;exact e8
        · exact f8.at (f7.at (f6.at ea (nin1 z nin0)) hna) (nin1 z nin0)
      walk_at "go"
      refine g_lockE e78 trivial trivial fun od4 H9 f9 e9=>?_
      walk_at "go"
      refine l_keysT (kvs:=cD (q.map (lfT S (tot m)))) fun Dl H10 nD f10 e10=>⟨fun i acc H'=>acc=(((q.map (lfT S (tot m))).take i).map fun e=>decide (0≤e.2)).map V.bl∧Fr [] H9 H',⟨rfl,f10⟩,fun i acc H' h=>h.2.at0 e9,fun i kk v t acc H' hi ht ha ⟨ea,f⟩=>?_,fun acc H' ha ⟨ea,f⟩=>?_⟩
      · obtain ⟨x,hx,rfl,rfl⟩:=cD_get hi
        have hmx:=List.mem_of_getElem? hx
        have ndx:Nd (q.map (lfT S (tot m))):=by unfold Nd;rw [lf_keys];exact nn
        have hal : acc.length≤4000:=by rw [ea,List.length_map,List.length_map,List.length_take,List.length_map];omega
        walk_at "go"
        refine ⟨rfl,?_⟩
        walk_at "go"
        refine g_rdg (k:=ck x.1) (v:=.int x.2) (.inr ⟨_,f.at0 e9⟩) ht (by rw [val_cell,lk_mem ndx hmx];rfl) ?_
        walk_at "go"
        refine lcY_of ha (by walk_at "sz") fun H12 f12 e12=>⟨?_,f.own1 f12 nD⟩
        rw [take_more hx,List.map_append,List.map_append,ea];rfl
      · refine g_unl (f.at0 e9) fun H11 f11 e11=>?_
        rw [enD_len,List.take_length] at ea
        have nDl:Dl≠lf:=fun z=>by rw [z,e9] at nD;cases nD
        have ha11:=f11.at ha (nin1 nDl nin0)
        subst ea
        walk_at "go"
        refine g_all (SqL.of ha11) ?_
        have ff:=fit_left (S:=S) (m:=m) (ps:=ps)
        rw [hq] at ff
        rw [ff]
        have FA:Fr [lf] H H11:=((F2.of0.transL F25).transL F8).transL ((f9.then0 f).transL f11)
        exact k H11 (FA.drop n1)
theorem ok_Book_fits {f:Addr} {fd:FuncData} (F:Fun K "fits" "Book.fits" s_Book_fits f fd) (T:Txt K mg A) (c_needs_of:Cal P w K mg base "needs_of" 2 ["party"] (sp_needs_of K A)) : FnOk P w K mg base CX0 (3) f fd ["self","party"] (sp_Book_fits K A):=by
  refine F.ok sc_Book_fits (fun vs H Q E h=>?_) (fun cdv Ar outer s H vs Q E hr h=>⟨t_Book_fits K A,?_,?_⟩)
  · obtain ⟨x0,x1,rfl,_⟩:=h
    rfl
  · have hu:=hu_of hr
    exact (pss_cons (ps_set (i:=2) sc_Book_fits.nd rfl (Or.inr rfl) pe_dnewT)
    (pss_cons (ps_set (i:=3) sc_Book_fits.nd rfl (Or.inl rfl) (pe_cl c_needs_of (hr.mono (by first | decide | omega)) (by rfl) (pa_cons (pv 1) pa_nil)))
    (pss_cons (ps_lock (ps_for PassesOwn.never rfl (pi_keys (pv 3)) (pg_name (i:=4) sc_Book_fits.nd rfl (Or.inl rfl)) (pss_one (ps_dput hu (pv 2) (pv 4) (pe_op o_sub (pe_ix ix_tup (pe_fld (pv 0) rfl) (pe_ix ix_tup (pv 4) pe_int (fun _ _=>rfl)) (fun _ _=>rfl)) (pe_dget hu (pv 3) (pv 4) (fun _ _=>rfl))) rfl))))
    (pss_cons (ps_lock (ps_for PassesOwn.never rfl (pi_keys (pe_fld (pv 0) rfl)) (pg_name (i:=5) sc_Book_fits.nd rfl (Or.inl rfl)) (pss_cons (ps_set (i:=6) sc_Book_fits.nd rfl (Or.inl rfl) (pe_cl c_needs_of (hr.mono (by first | decide | omega)) (by rfl) (pa_cons (pe_dget hu (pe_fld (pv 0) rfl) (pv 5) (fun _ _=>rfl)) pa_nil)))
    (pss_one (ps_lock (ps_for PassesOwn.never rfl (pi_keys (pv 3)) (pg_name (i:=4) sc_Book_fits.nd rfl (Or.inl rfl)) (pss_one (ps_daug hu (pv 2) (pv 4) (pe_dget2 hu (pv 6) (pv 4) pe_int ⟨rfl,rfl,rfl,rfl⟩) in_sub (fun _ _ _=>rfl)))))))))
    (pss_one (ps_ret (pe_callB (cr_all rfl) (by rfl) T.b_all (by decide +kernel) (pa_cons (pe_lock (pe_lc (own:=[("cell",4)]) (g:=(gName 4)) (tt:=tYes) rfl sc_Book_fits.nd (pi_keys (pv 2)) (blkOk_by (N:=["self","party","left","needs","cell","name","others"]) (sc:=defScope s_Book_fits) (own:=[("cell",4)]) (by decide +kernel)) (fun _ _ _ _ _=>(pg_name (i:=4) sc_Book_fits.nd rfl (Or.inl rfl))) (fun _ _ _ _ _=>pts_nil) (fun _ _ _ _ _=>(pe_cmpR c_ge (pe_dget hu (pv 2) (pv 4) (fun _ _=>rfl)) pe_int (nomark _))))) pa_nil))))))))
  · obtain ⟨x0,x1,rfl,h⟩:=h
    exact pu_Book_fits T h
def NmOk (m:List (Cell×Pty)) : Prop:=∀ e∈m,0≤e.1.1∧e.1.1 < 4∧0≤e.1.2∧e.1.2 < 26
theorem hp_keys {m:List (Cell×Pty)} (n:Nd m) (h:NmOk m) : ((m.map (·.1)).map fun c=>hp c.1 c.2).Nodup:=by
  refine List.Pairwise.map _ (fun a b (hab : a∈m.map (·.1)∧b∈m.map (·.1)∧a≠b)=>?_) (List.Pairwise.imp_of_mem (fun {a b} ha hb hne=>⟨ha,hb,hne⟩) (show (m.map (·.1)).Pairwise (·≠·) from n))
  obtain ⟨ha,hb,hne⟩:=hab
  obtain ⟨x,hx,rfl⟩:=List.mem_map.mp ha
  obtain ⟨y,hy,rfl⟩:=List.mem_map.mp hb
  obtain ⟨a0,a1,a2,a3⟩:=h x hx
  obtain ⟨b0,b1,b2,b3⟩:=h y hy
  intro e
  have q:=hp_inj (a:=x.1.1.toNat) (b:=x.1.2.toNat) (c:=y.1.1.toNat) (d:=y.1.2.toNat) (by omega) (by omega) (by omega) (by omega) (by
    rw [show ((x.1.1.toNat:Nat) : Int)=x.1.1 by omega,show ((x.1.2.toNat:Nat) : Int)=x.1.2 by omega,show ((y.1.1.toNat:Nat) : Int)=y.1.1 by omega,show ((y.1.2.toNat:Nat) : Int)=y.1.2 by omega];exact e)
  exact hne (Prod.ext (by omega) (by omega))
theorem pD_keys (m:List (Cell×Pty)) : (pD m).map (·.1)=(m.map (·.1)).map fun c=>[Sum.inl c.1,Sum.inl c.2]:=by
  show (m.map fun e=>(ck e.1,V.ref e.2.1)).map (·.1)=_
  rw [List.map_map,List.map_map];rfl
theorem pD_put (m:List (Cell×Pty)) (c:Cell) (x:Pty) : putK (pD m) (ck c) (.ref x.1)=pD (pt m c x):=enD_put ck_inj m c x
theorem pD_drop (m:List (Cell×Pty)) (c:Cell) : dropK (pD m) (ck c)=pD (dr m c):=enD_drop ck_inj m c
def P_Book_wish (K:PySem.W.Frag) (A:Ad) (x0 x1 x2:V) (H:Hp) (Q:VK) : Prop:=∃ (b kd r t pa:Addr) (c:Cell) (N:Int) (S:Setup) (m:List (Cell×Pty)) (ps:List Stay),x0=.ref b∧x1=.ref t∧x2=.ref pa∧H t=some (.tup [.int c.1,.int c.2])∧BookAt A H b kd r N m∧H r=some (.tup (S.rooms.map V.int))∧SetupOk S∧Kp S H m∧Da H (.ref pa) (partyD ps)∧(∀ s∈ps,StayOk S s)∧ps.length≤4∧lk m c=none∧
  (fitb S m ps=true→∀ H',Fr [kd] H H'→BookAt A H' b kd r N (m++[(c,(pa,ps))])→Q (.bl true) H')∧(fitb S m ps=false→∀ H',Fr [] H H'→Q (.bl false) H')
def sp_Book_wish (K:PySem.W.Frag) (A:Ad) : Sp:=fun vs H Q _=>∃ x0 x1 x2,vs=[x0,x1,x2]∧P_Book_wish K A x0 x1 x2 H Q
theorem c_Book_wish {K:PySem.W.Frag} {A:Ad} {x0 x1 x2:V} {H:Hp} {Q:VK} {E:XK} (h:P_Book_wish K A x0 x1 x2 H Q) : sp_Book_wish K A [x0,x1,x2] H Q E:=⟨_,_,_,rfl,h⟩
theorem sc_Book_wish:FnScope ["self","name","party"] ["self","name","party"] (defScope s_Book_wish):=⟨rfl,rfl,rfl,by decide +kernel,rfl,by decide +kernel,by decide +kernel⟩
def t_Book_wish (K:PySem.W.Frag) (A:Ad) : TS:=
  (tSeq (tIfS (tNot (tB (tMt A.Book "fits" (sp_Book_fits K A) (tVar 0) (tCons (tVar 2) tNil)))) (tRet (tC (.bl false))) tNext)
    (tSeq (sDPut (tFld K (tVar 0) "kept") (tVar 1) (tVar 2))
    (tRet (tC (.bl true)))))
theorem pu_Book_wish (T:Txt K mg A) {x0 x1 x2:V} {H:Hp} {Q:VK} (h:P_Book_wish K A x0 x1 x2 H Q) : t_Book_wish K A { nx:=fun _ H'=>Q .non H',rt:=Q } [some x0,some x1,some x2] H:=by
  obtain ⟨b,kd,r,t,pa,c,N,S,m,ps,rfl,rfl,rfl,ht,B,er,so,kp,dp0,okp,h4,hc,k1,k0⟩:=h
  obtain ⟨⟨dx,hb⟩,hk⟩:=id B
  have nbk : b≠kd:=ne_of hb hk (by intro z;cases z)
  unfold t_Book_wish
  walk_at "go"
  refine c_Book_fits ⟨b,kd,r,pa,N,S,m,ps,rfl,rfl,B,er,so,kp,dp0,okp,h4,fun H1 f1=>?_⟩
  have kl:=kp.len
  cases hf : fitb S m ps with
  | false=>
    walk_at "go"
    exact k0 hf H1 f1
  | true=>
    have hb1:=f1.at0 hb
    walk_at "go"
    refine g_rdp (k:=ck c) (f1.at0 hk) (f1.tup _ _ ht) (by rw [enD_len];exact szM (by omega)) fun H2 f2 e2=>?_
    walk_at "go"
    rw [pD_put m c (pa,ps),pt_new (lk_not hc)] at e2
    exact k1 hf H2 (f2.pre0' f1) ⟨⟨dx,f2.at hb1 (nin1 nbk nin0)⟩,e2⟩
theorem ok_Book_wish {f:Addr} {fd:FuncData} (F:Fun K "wish" "Book.wish" s_Book_wish f fd) (T:Txt K mg A) (c_Book_fits:CalM P w K mg base A.Book "fits" 3 ["self","party"] (sp_Book_fits K A)) : FnOk P w K mg base CX0 (4) f fd ["self","name","party"] (sp_Book_wish K A):=by
  refine F.ok sc_Book_wish (fun vs H Q E h=>?_) (fun cdv Ar outer s H vs Q E hr h=>⟨t_Book_wish K A,?_,?_⟩)
  · obtain ⟨x0,x1,x2,rfl,_⟩:=h
    rfl
  · have hu:=hu_of hr
    exact (pss_cons (ps_if (pt_not (pt_val (pe_mt (pv 0) T.cl_Book c_Book_fits (hr.mono (by first | decide | omega)) (pa_cons (pv 2) pa_nil)))) (pss_one (ps_ret pe_bl)) pss_nil)
    (pss_cons (ps_dput hu (pe_fld (pv 0) rfl) (pv 1) (pv 2) rfl)
    (pss_one (ps_ret pe_bl))))
  · obtain ⟨x0,x1,x2,rfl,h⟩:=h
    exact pu_Book_wish T h
def P_Book_cancel (K:PySem.W.Frag) (A:Ad) (x0 x1:V) (H:Hp) (Q:VK) : Prop:=∃ (b kd r t:Addr) (c:Cell) (N:Int) (m:List (Cell×Pty)),x0=.ref b∧x1=.ref t∧H t=some (.tup [.int c.1,.int c.2])∧BookAt A H b kd r N m∧
  ∀ H',Fr [kd] H H'→BookAt A H' b kd r N (dr m c)→Q (.bl (lk m c).isSome) H'
def sp_Book_cancel (K:PySem.W.Frag) (A:Ad) : Sp:=fun vs H Q _=>∃ x0 x1,vs=[x0,x1]∧P_Book_cancel K A x0 x1 H Q
theorem sc_Book_cancel:FnScope ["self","name"] ["self","name"] (defScope s_Book_cancel):=⟨rfl,rfl,rfl,by decide +kernel,rfl,by decide +kernel,by decide +kernel⟩
def t_Book_cancel (K:PySem.W.Frag) (A:Ad) : TS:=
  (tRet (tOp rIsNotNon (tBM K "dict" L2.DX.rPopT (tFld K (tVar 0) "kept") (tCons (tVar 1) (tCons (tC .non) tNil))) (tC .non)))
theorem pu_Book_cancel (T:Txt K mg A) {x0 x1:V} {H:Hp} {Q:VK} (h:P_Book_cancel K A x0 x1 H Q) : t_Book_cancel K A { nx:=fun _ H'=>Q .non H',rt:=Q } [some x0,some x1] H:=by
  obtain ⟨b,kd,r,t,c,N,m,rfl,rfl,ht,B,k⟩:=h
  obtain ⟨⟨dx,hb⟩,hk⟩:=id B
  have nbk : b≠kd:=ne_of hb hk (by intro z;cases z)
  unfold t_Book_cancel
  walk_at "go"
  refine g_popT (k:=ck c) hk ht (fun v H1 hv f1 e1=>?_) (fun hv=>?_)
  · rw [val_pty] at hv
    cases hl : lk m c with
    | none=>rw [hl] at hv;cases hv
    | some w=>
      rw [hl] at hv k
      cases hv
      rw [pD_drop] at e1
      walk_at "go"
      exact k H1 f1 ⟨⟨dx,f1.at hb (nin1 nbk nin0)⟩,e1⟩
  · rw [val_pty] at hv
    cases hl : lk m c with
    | some w=>rw [hl] at hv;cases hv
    | none=>
      rw [hl,dr_none hl] at k
      walk_at "go"
      exact k H Fr.refl B
theorem ok_Book_cancel {f:Addr} {fd:FuncData} (F:Fun K "cancel" "Book.cancel" s_Book_cancel f fd) (T:Txt K mg A)  : FnOk P w K mg base CX0 (1) f fd ["self","name"] (sp_Book_cancel K A):=by
  refine F.ok sc_Book_cancel (fun vs H Q E h=>?_) (fun cdv Ar outer s H vs Q E hr h=>⟨t_Book_cancel K A,?_,?_⟩)
  · obtain ⟨x0,x1,rfl,_⟩:=h
    rfl
  · have hu:=hu_of hr
    exact (pss_one (ps_ret (pe_cmpR c_notN (pe_bm PySem.F.plainAttrs_dict PySem.F.slot_dict_pop PySem.F.type_dict_pop (L2.DX.mt_popT (un1 hr.units)) (pe_fld (pv 0) rfl) (pa_cons (pv 1) (pa_cons pe_non pa_nil))) pe_non (nomark _))))
  · obtain ⟨x0,x1,rfl,h⟩:=h
    exact pu_Book_cancel T h
def P_Book_change (K:PySem.W.Frag) (A:Ad) (x0 x1 x2:V) (H:Hp) (Q:VK) : Prop:=∃ (b kd r t pa:Addr) (c:Cell) (N:Int) (S:Setup) (m:List (Cell×Pty)) (ps:List Stay),x0=.ref b∧x1=.ref t∧x2=.ref pa∧H t=some (.tup [.int c.1,.int c.2])∧BookAt A H b kd r N m∧H r=some (.tup (S.rooms.map V.int))∧SetupOk S∧Kp S H m∧Da H (.ref pa) (partyD ps)∧(∀ s∈ps,StayOk S s)∧ps.length≤4∧
  (lk m c=none→Q (.bl false) H)∧(∀ w,lk m c=some w→∀ H',Fr [kd] H H'→BookAt A H' b kd r N (dr m c++[(c,if fitb S (dr m c) ps=true then (pa,ps) else w)])→Q (.bl (fitb S (dr m c) ps)) H')
theorem Kp.dr {S:Setup} {H:Hp} {m:List (Cell×Pty)} (k:Kp S H m) (c:Cell) : Kp S H (Lw.dr m c):=
  ⟨dr_nd k.n c,fun e he=>k.da e (List.mem_filter.mp he).1,fun e he=>k.ok e (List.mem_filter.mp he).1,fun e he=>k.l4 e (List.mem_filter.mp he).1,Nat.le_trans (List.length_filter_le _ _) k.len⟩
def sp_Book_change (K:PySem.W.Frag) (A:Ad) : Sp:=fun vs H Q _=>∃ x0 x1 x2,vs=[x0,x1,x2]∧P_Book_change K A x0 x1 x2 H Q
theorem sc_Book_change:FnScope ["self","name","party","old","granted"] ["self","name","party"] (defScope s_Book_change):=⟨rfl,rfl,rfl,by decide +kernel,rfl,by decide +kernel,by decide +kernel⟩
def t_Book_change (K:PySem.W.Frag) (A:Ad) : TS:=
  (tSeq (tAsg (tBM K "dict" L2.DX.rPopT (tFld K (tVar 0) "kept") (tCons (tVar 1) (tCons (tC .non) tNil))) (gName 3))
    (tSeq (tIfS (tTest (tOp rIsNon (tVar 3) (tC .non))) (tRet (tC (.bl false))) tNext)
    (tSeq (tAsg (tMt A.Book "fits" (sp_Book_fits K A) (tVar 0) (tCons (tVar 2) tNil)) (gName 4))
    (tSeq (sDPut (tFld K (tVar 0) "kept") (tVar 1) (tIf (tB (tVar 4)) (tVar 2) (tVar 3)))
    (tRet (tVar 4))))))
theorem pu_Book_change (T:Txt K mg A) {x0 x1 x2:V} {H:Hp} {Q:VK} (h:P_Book_change K A x0 x1 x2 H Q) : t_Book_change K A { nx:=fun _ H'=>Q .non H',rt:=Q } [some x0,some x1,some x2,none,none] H:=by
  obtain ⟨b,kd,r,t,pa,c,N,S,m,ps,rfl,rfl,rfl,ht,B,er,so,kp,dp0,okp,h4,k0,k1⟩:=h
  obtain ⟨⟨dx,hb⟩,hk⟩:=id B
  have nbk : b≠kd:=ne_of hb hk (by intro z;cases z)
  unfold t_Book_change
  walk_at "go"
  refine g_popT (k:=ck c) hk ht (fun v H1 hv f1 e1=>?_) (fun hv=>?_)
  · rw [val_pty] at hv
    cases hl : lk m c with
    | none=>rw [hl] at hv;cases hv
    | some w=>
      rw [hl] at hv
      cases hv
      rw [pD_drop] at e1
      have k2:=k1 w hl
      have kl:=(kp.dr c).len
      walk_at "go"
      refine g_ite (fun z=>by cases z) (fun _=>?_)
      have hb1:=f1.at hb (nin1 nbk nin0)
      walk_at "go"
      refine c_Book_fits ⟨b,kd,r,pa,N,S,Lw.dr m c,ps,rfl,rfl,⟨⟨dx,hb1⟩,e1⟩,f1.tup _ _ er,so,(kp.dr c).fr f1,Da.frL f1 dp0 (imm_party ps),okp,h4,fun H2 f2=>?_⟩
      have hb2:=f2.at0 hb1
      generalize hg : fitb S (Lw.dr m c) ps=g at *
      walk_at "go"
      cases g with
      | true=>
        walk_at "go"
        refine g_rdp (k:=ck c) (f2.at0 e1) (f2.tup _ _ (f1.tup _ _ ht)) (by rw [enD_len];exact szM (by omega)) fun H3 f3 e3=>?_
        walk_at "go"
        rw [pD_put (Lw.dr m c) c (pa,ps),pt_new dr_not] at e3
        exact k2 H3 ((f1.then0 f2).transL f3) ⟨⟨dx,f3.at hb2 (nin1 nbk nin0)⟩,e3⟩
      | false=>
        walk_at "go"
        refine g_rdp (k:=ck c) (f2.at0 e1) (f2.tup _ _ (f1.tup _ _ ht)) (by rw [enD_len];exact szM (by omega)) fun H3 f3 e3=>?_
        walk_at "go"
        rw [pD_put (Lw.dr m c) c w,pt_new dr_not] at e3
        exact k2 H3 ((f1.then0 f2).transL f3) ⟨⟨dx,f3.at hb2 (nin1 nbk nin0)⟩,e3⟩
  · rw [val_pty] at hv
    cases hl : lk m c with
    | some w=>rw [hl] at hv;cases hv
    | none=>
      walk_at "go"
      refine g_ite (fun _=>?_) (fun z=>absurd rfl z)
      walk_at "go"
      exact k0 hl
theorem ok_Book_change {f:Addr} {fd:FuncData} (F:Fun K "change" "Book.change" s_Book_change f fd) (T:Txt K mg A) (c_Book_fits:CalM P w K mg base A.Book "fits" 3 ["self","party"] (sp_Book_fits K A)) : FnOk P w K mg base CX0 (4) f fd ["self","name","party"] (sp_Book_change K A):=by
  refine F.ok sc_Book_change (fun vs H Q E h=>?_) (fun cdv Ar outer s H vs Q E hr h=>⟨t_Book_change K A,?_,?_⟩)
  · obtain ⟨x0,x1,x2,rfl,_⟩:=h
    rfl
  · have hu:=hu_of hr
    exact (pss_cons (ps_set (i:=3) sc_Book_change.nd rfl (Or.inl rfl) (pe_bm PySem.F.plainAttrs_dict PySem.F.slot_dict_pop PySem.F.type_dict_pop (L2.DX.mt_popT (un1 hr.units)) (pe_fld (pv 0) rfl) (pa_cons (pv 1) (pa_cons pe_non pa_nil))))
    (pss_cons (ps_if (pt_cmpR c_isN (pv 3) pe_non (nomark _)) (pss_one (ps_ret pe_bl)) pss_nil)
    (pss_cons (ps_set (i:=4) sc_Book_change.nd rfl (Or.inl rfl) (pe_mt (pv 0) T.cl_Book c_Book_fits (hr.mono (by first | decide | omega)) (pa_cons (pv 2) pa_nil)))
    (pss_cons (ps_dput hu (pe_fld (pv 0) rfl) (pv 1) (pe_ifExp (pt_val (pv 4)) (pv 2) (pv 3)) rfl)
    (pss_one (ps_ret (pv 4)))))))
  · obtain ⟨x0,x1,x2,rfl,h⟩:=h
    exact pu_Book_change T h
def P_Book_parties (K:PySem.W.Frag) (A:Ad) (x0:V) (H:Hp) (Q:VK) : Prop:=∃ (b kd r:Addr) (N:Int) (m:List (Cell×Pty)),x0=.ref b∧BookAt A H b kd r N m∧Nd m∧NmOk m∧
  ∀ p H',H p=none→Fr [] H H'→H' p=some (.dT (pD m))→Q (.ref p) H'
def sp_Book_parties (K:PySem.W.Frag) (A:Ad) : Sp:=fun vs H Q _=>∃ x0,vs=[x0]∧P_Book_parties K A x0 H Q
theorem c_Book_parties {K:PySem.W.Frag} {A:Ad} {x0:V} {H:Hp} {Q:VK} {E:XK} (h:P_Book_parties K A x0 H Q) : sp_Book_parties K A [x0] H Q E:=⟨_,rfl,h⟩
theorem sc_Book_parties:FnScope ["self"] ["self"] (defScope s_Book_parties):=⟨rfl,rfl,rfl,by decide +kernel,rfl,by decide +kernel,by decide +kernel⟩
def t_Book_parties (K:PySem.W.Frag) (A:Ad) : TS:=
  (tRet (tCB rDictC (tCons (tFld K (tVar 0) "kept") tNil)))
theorem pu_Book_parties (T:Txt K mg A) {x0:V} {H:Hp} {Q:VK} (h:P_Book_parties K A x0 H Q) : t_Book_parties K A { nx:=fun _ H'=>Q .non H',rt:=Q } [some x0] H:=by
  obtain ⟨b,kd,r,N,m,rfl,⟨⟨dx,hb⟩,hk⟩,n,nm,k⟩:=h
  unfold t_Book_parties
  walk_at "go"
  refine g_dictC (m.map (·.1)) hk (pD_keys m) (hp_keys n nm) fun p H1 n1 f1 e1=>?_
  walk_at "go"
  exact k p H1 n1 f1 e1
theorem ok_Book_parties {f:Addr} {fd:FuncData} (F:Fun K "parties" "Book.parties" s_Book_parties f fd) (T:Txt K mg A)  : FnOk P w K mg base CX0 (1) f fd ["self"] (sp_Book_parties K A):=by
  refine F.ok sc_Book_parties (fun vs H Q E h=>?_) (fun cdv Ar outer s H vs Q E hr h=>⟨t_Book_parties K A,?_,?_⟩)
  · obtain ⟨x0,rfl,_⟩:=h
    rfl
  · have hu:=hu_of hr
    exact (pss_one (ps_ret (pe_callTy (b_dictC (un8 hr.units)) (by rfl) T.b_dict (by decide +kernel) (pa_cons (pe_fld (pv 0) rfl) pa_nil))))
  · obtain ⟨x0,rfl,h⟩:=h
    exact pu_Book_parties T h
def CellOk (S:Setup) (c:Cell) : Prop:=0≤c.1∧c.1 < S.rooms.length∧0≤c.2∧c.2 < S.nights
def rowC (N:Nat) (k:Nat) : List Cell:=(List.range N).map fun t:Nat=>((k:Int),(t:Int))
def cellsK (N k:Nat) : List Cell:=(List.range k).flatMap (rowC N)
def cellsAll (S:Setup) : List Cell:=cellsK S.nights.toNat S.rooms.length
theorem mem_row {N k:Nat} {c:Cell} : c∈rowC N k↔c.1=k∧0≤c.2∧c.2 < N:=by
  unfold rowC
  rw [List.mem_map]
  constructor
  · rintro ⟨t,ht,rfl⟩
    have:=List.mem_range.mp ht
    exact ⟨rfl,by show (0:Int)≤(t:Int);omega,by show (t:Int) < (N:Int);omega⟩
  · rintro ⟨h1,h2,h3⟩
    exact ⟨c.2.toNat,List.mem_range.mpr (by omega),Prod.ext h1.symm (by show ((c.2.toNat:Nat) : Int)=c.2;omega)⟩
theorem mem_cellsK {N k:Nat} {c:Cell} : c∈cellsK N k↔0≤c.1∧c.1 < k∧0≤c.2∧c.2 < N:=by
  unfold cellsK
  rw [List.mem_flatMap]
  constructor
  · rintro ⟨i,hi,h⟩
    have h1:=List.mem_range.mp hi
    obtain ⟨a,b,c'⟩:=mem_row.mp h
    exact ⟨by omega,by omega,b,c'⟩
  · rintro ⟨h1,h2,h3,h4⟩
    exact ⟨c.1.toNat,List.mem_range.mpr (by omega),mem_row.mpr ⟨by omega,h3,h4⟩⟩
theorem cellsK_succ (N k:Nat) : cellsK N (k + 1)=cellsK N k++rowC N k:=by
  unfold cellsK
  rw [List.range_succ,List.flatMap_append];simp
theorem rowC_succ (N k:Nat) : rowC (N + 1) k=rowC N k++[((k:Int),(N:Int))]:=by
  unfold rowC
  rw [List.range_succ,List.map_append];rfl
theorem row_nd (k:Nat) : ∀ N:Nat,(rowC N k).Nodup
  | 0=>List.nodup_nil
  | N + 1=>by
    rw [rowC_succ]
    refine List.nodup_append.mpr ⟨row_nd k N,by simp,fun a ha b hb e=>?_⟩
    rw [List.mem_singleton.mp hb] at e
    subst e
    have:=(mem_row.mp ha).2.2
    exact absurd this (by show ¬ (N:Int) < (N:Int);omega)
theorem cellsK_nd (N:Nat) : ∀ k:Nat,(cellsK N k).Nodup
  | 0=>List.nodup_nil
  | k + 1=>by
    rw [cellsK_succ]
    refine List.nodup_append.mpr ⟨cellsK_nd N k,row_nd k N,fun a ha b hb e=>?_⟩
    subst e
    have h1:=(mem_cellsK.mp ha).2.1
    have h2:=(mem_row.mp hb).1
    omega
theorem mem_cells {S:Setup} {c:Cell} (hn : 1≤S.nights) : c∈cellsAll S↔CellOk S c:=by
  unfold cellsAll CellOk
  rw [mem_cellsK]
  constructor
  · rintro ⟨a,b,c',d⟩;exact ⟨a,b,c',by omega⟩
  · rintro ⟨a,b,c',d⟩;exact ⟨a,b,c',by omega⟩
theorem cells_len (S:Setup) : (cellsAll S).length=S.rooms.length * S.nights.toNat:=by
  have key:∀ (N k:Nat),(cellsK N k).length=k * N:=by
    intro N k
    induction k with
    | zero=>simp [cellsK]
    | succ k ih=>rw [cellsK_succ,List.length_append,ih];unfold rowC;rw [List.length_map,List.length_range,Nat.succ_mul]
  exact key _ _
def fset (f:Cell→Int) (c:Cell) (v:Int) : Cell→Int:=fun x=>if x=c then v else f x
theorem fset_same {f:Cell→Int} {c:Cell} {v:Int} : fset f c v c=v:=by unfold fset;rw [if_pos rfl]
theorem fset_ne {f:Cell→Int} {c x:Cell} {v:Int} (h : x≠c) : fset f c v x=f x:=by unfold fset;rw [if_neg h]
def tabF (cs:List Cell) (f:Cell→Int) : List (Cell×Int):=cs.map fun c=>(c,f c)
abbrev stT (S:Setup) (f:Cell→Int) : List (Cell×Int):=tabF (cellsAll S) f
theorem tab_keys (cs:List Cell) (f:Cell→Int) : (tabF cs f).map (·.1)=cs:=by
  unfold tabF;rw [List.map_map];exact (List.map_congr_left fun _ _=>rfl).trans (List.map_id cs)
theorem tab_nd {cs:List Cell} (h : cs.Nodup) (f:Cell→Int) : Nd (tabF cs f):=by unfold Nd;rw [tab_keys];exact h
theorem lk_tab {cs:List Cell} (n : cs.Nodup) {f:Cell→Int} {c:Cell} (h : c∈cs) : lk (tabF cs f) c=some (f c):=lk_mem (e:=(c,f c)) (tab_nd n f) (List.mem_map.mpr ⟨c,h,rfl⟩)
theorem pt_tab {cs:List Cell} {f:Cell→Int} {c:Cell} {v:Int} (h : c∈cs) : pt (tabF cs f) c v=tabF cs (fset f c v):=by
  unfold pt
  have a:((tabF cs f).any fun e=>decide (e.1=c))=true:=List.any_eq_true.mpr ⟨(c,f c),List.mem_map.mpr ⟨c,h,rfl⟩,by simp⟩
  rw [if_pos a]
  unfold tabF
  rw [List.map_map]
  refine List.map_congr_left fun x _=>?_
  show (if x=c then (x,v) else (x,f x))=(x,fset f c v x)
  unfold fset
  by_cases q : x=c
  · rw [if_pos q,if_pos q]
  · rw [if_neg q,if_neg q]
theorem cells_nd (S:Setup) : (cellsAll S).Nodup:=cellsK_nd _ _
theorem st_get {S:Setup} (so:SetupOk S) {f:Cell→Int} {c:Cell} (h:CellOk S c) : valV (cD (stT S f)) (ck c)=some (.int (f c)):=by
  rw [val_cell,lk_tab (cells_nd S) ((mem_cells so.n1).mpr h)];rfl
theorem st_put {S:Setup} (so:SetupOk S) {f:Cell→Int} {c:Cell} {v:Int} (h:CellOk S c) : putK (cD (stT S f)) (ck c) (.int v)=cD (stT S (fset f c v)):=by
  rw [put_cell,pt_tab ((mem_cells so.n1).mpr h)]
theorem st_len {S:Setup} (so:SetupOk S) (f:Cell→Int) : (cD (stT S f)).length≤36:=by
  rw [enD_len]
  unfold stT tabF
  rw [List.length_map,cells_len]
  have h1:=so.k3
  have h2:=so.n2
  have h3:S.nights.toNat≤12:=by omega
  exact Nat.le_trans (Nat.mul_le_mul h1 h3) (by decide)
theorem st_lt {S:Setup} (so:SetupOk S) (f:Cell→Int) : (cD (stT S f)).length < sizeLine:=szM (Nat.le_trans (st_len so f) (by decide))
abbrev Lack:=List (Cell×Int)
abbrev Ask:=Int×Int×Lack
inductive Row
  | sold (n:Int) (p:List Stay) (a b:Int)
  | cancelled (n a b:Int)
  | changed (n:Int) (p:List Stay) (a b c d:Int)
inductive UpB
  | ask (n:Int) (l:Lack)
  | closed (cs:List Int)
  | back (c:Cell)
  | entry (r:Row)
inductive DnB
  | give (c:Cell)
  | close (cs:List Cell)
  | opn (cs:List Int) (an:Option (Int×Bool))
  | want (c:Cell)
def cellD (c:Cell) : PyData:=.tuple [.int c.1,.int c.2]
def lackD (l:Lack) : PyData:=.tuple (l.map fun e=>.tuple [cellD e.1,.int e.2])
def cellsD (l:List Cell) : PyData:=.tuple (l.map cellD)
def askD (a:Ask) : PyData:=.tuple [.int a.1,.int a.2.1,lackD a.2.2]
def roundD:Option Ask→PyData
  | none=>.none
  | some a=>askD a
def ansD:Option (Int×Bool)→PyData
  | none=>.none
  | some a=>.tuple [.int a.1,.bool a.2]
def rowB:Row→PyData
  | .sold n p a b=>.tuple [.str "sold",.int n,partyD p,.int a,.int b]
  | .cancelled n a b=>.tuple [.str "cancelled",.int n,.int a,.int b]
  | .changed n p a b c d=>.tuple [.str "changed",.int n,partyD p,.int a,.int b,.int c,.int d]
def upD:UpB→PyData
  | .ask n l=>.tuple [.str "ask",.int n,lackD l]
  | .closed cs=>.tuple [.str "closed",rowD cs]
  | .back c=>.tuple [.str "back",.int c.1,.int c.2]
  | .entry r=>.tuple [.str "entry",rowB r]
def dnD:DnB→PyData
  | .give c=>.tuple [.str "give",.int c.1,.int c.2]
  | .close cs=>.tuple [.str "close",cellsD cs]
  | .opn cs an=>.tuple [.str "open",rowD cs,ansD an]
  | .want c=>.tuple [.str "want",.int c.1,.int c.2]
def outD (e:Int×DnB) : PyData:=.tuple [.int e.1,dnD e.2]
theorem imm_cell (c:Cell) : imm (cellD c)=true:=rfl
theorem imm_lack (l:Lack) : imm (lackD l)=true:=immL_map (fun _=>rfl) l
theorem imm_cells (l:List Cell) : imm (cellsD l)=true:=immL_map imm_cell l
theorem imm_ask (a:Ask) : imm (askD a)=true:=by
  show (true && (true && (imm (lackD a.2.2) && true)))=true
  rw [imm_lack];rfl
theorem imm_round (r:Option Ask) : imm (roundD r)=true:=by
  cases r with
  | none=>rfl
  | some a=>exact imm_ask a
theorem imm_ans (a:Option (Int×Bool)) : imm (ansD a)=true:=by cases a <;> rfl
theorem imm_rowB (r:Row) : imm (rowB r)=true:=by
  cases r with
  | sold n p a b=>
    show (true && (true && (imm (partyD p) && true)))=true
    rw [imm_party];rfl
  | cancelled n a b=>rfl
  | changed n p a b c d=>
    show (true && (true && (imm (partyD p) && true)))=true
    rw [imm_party];rfl
theorem imm_up (b:UpB) : imm (upD b)=true:=by
  cases b with
  | ask n l=>
    show (true && (true && (imm (lackD l) && true)))=true
    rw [imm_lack];rfl
  | closed cs=>
    show (true && (imm (rowD cs) && true))=true
    rw [imm_row];rfl
  | back c=>rfl
  | entry r=>
    show (true && (imm (rowB r) && true))=true
    rw [imm_rowB];rfl
theorem imm_dn (b:DnB) : imm (dnD b)=true:=by
  cases b with
  | give c=>rfl
  | close cs=>
    show (true && (imm (cellsD cs) && true))=true
    rw [imm_cells];rfl
  | opn cs an=>
    show (true && (imm (rowD cs) && (imm (ansD an) && true)))=true
    rw [imm_row,imm_ans];rfl
  | want c=>rfl
theorem imm_out (e:Int×DnB) : imm (outD e)=true:=by
  show (true && (imm (dnD e.2) && true))=true
  rw [imm_dn];rfl
theorem cell_at {H:Hp} {v:V} {c:Cell} (h:Da H v (cellD c)) : ∃ a,v=.ref a∧H a=some (.tup [.int c.1,.int c.2]):=by
  obtain ⟨a,xs,rfl,e,_,q⟩:=h.tup1
  obtain ⟨x,y,rfl,dx,dy⟩:=q.two
  cases dx.int1
  cases dy.int1
  exact ⟨a,rfl,e⟩
theorem lack_get {H:Hp} {xs:List V} {l:Lack} {i:Nat} {x:V} (h:DaL H xs (l.map fun e=>.tuple [cellD e.1,.int e.2])) (hx : xs[i]? = some x) : ∃ e b c,l[i]? = some e∧x=.ref b∧H b=some (.tup [.ref c,.int e.2])∧H c=some (.tup [.int e.1.1,.int e.1.2]):=by
  obtain ⟨d,hd,dd⟩:=h.get hx
  rw [List.getElem?_map] at hd
  cases q : l[i]? with
  | none=>rw [q] at hd;cases hd
  | some e=>
    rw [q] at hd
    cases hd
    obtain ⟨b,ys,rfl,eb,_,r⟩:=dd.tup1
    obtain ⟨u,v,rfl,du,dv⟩:=r.two
    obtain ⟨c,rfl,ec⟩:=cell_at du
    cases dv.int1
    exact ⟨e,b,c,rfl,rfl,eb,ec⟩
theorem cells_get {H:Hp} {xs:List V} {l:List Cell} {i:Nat} {x:V} (h:DaL H xs (l.map cellD)) (hx : xs[i]? = some x) : ∃ c a,l[i]? = some c∧x=.ref a∧H a=some (.tup [.int c.1,.int c.2]):=by
  obtain ⟨d,hd,dd⟩:=h.get hx
  rw [List.getElem?_map] at hd
  cases q : l[i]? with
  | none=>rw [q] at hd;cases hd
  | some c=>
    rw [q] at hd
    cases hd
    obtain ⟨a,rfl,ea⟩:=cell_at dd
    exact ⟨c,a,rfl,rfl,ea⟩
theorem ask_at {H:Hp} {v:V} {a:Ask} (h:Da H v (askD a)) : ∃ p l xs,v=.ref p∧H p=some (.tup [.int a.1,.int a.2.1,.ref l])∧H l=some (.tup xs)∧DaL H xs (a.2.2.map fun e=>.tuple [cellD e.1,.int e.2]):=by
  obtain ⟨p,ys,rfl,e,_,q⟩:=h.tup1
  obtain ⟨x,y,z,rfl,dx,dy,dz⟩:=q.three
  cases dx.int1
  cases dy.int1
  obtain ⟨l,xs,rfl,el,_,r⟩:=Da.tup1 dz
  exact ⟨p,l,xs,rfl,e,el,r⟩
theorem ints_at {H:Hp} {v:V} {r:List Int} (h:Da H v (rowD r)) : ∃ p,v=.ref p∧H p=some (.tup (r.map V.int)):=by
  obtain ⟨p,xs,rfl,e,_,q⟩:=h.tup1
  rw [DaL.ints q] at e
  exact ⟨p,rfl,e⟩
structure HM where
  st:Cell→Int
  bk:List (List Row)
  qu:List Ask
  rd:Option Ask
  ct:List (Int×List Int)
  out:List (Int×DnB)
abbrev lackC (a:Ask) : List Cell:=a.2.2.map (·.1)
def LackOk (S:Setup) (l:Lack) : Prop:=(∀ e∈l,CellOk S e.1)∧l.length≤36
def closeL (n:Nat) (a:Ask) : List (Int×DnB):=(List.range n).map fun s:Nat=>((s:Int),DnB.close (lackC a))
def HM.look (n:Nat) (M:HM) : HM:=
  match M.rd,M.qu with
  | none,a::q=>{ M with rd:=some a,qu:=q,ct:=[],out:=M.out++closeL n a }
  | _,_=>M
def addZ (f:Cell→Int) (l:List (Cell×Int)) : Cell→Int:=l.foldl (fun f e=>fset f e.1 (f e.1 + e.2)) f
def subZ (f:Cell→Int) (l:List (Cell×Int)) : Cell→Int:=l.foldl (fun f e=>fset f e.1 (f e.1 - e.2)) f
def minI (a b:Int) : Int:=if b < a then b else a
def backZ:(Cell→Int)→List (Cell×Int)→List Int×(Cell→Int)
  | f,[]=>([],f)
  | f,e::r=>let z:=backZ (fset f e.1 (f e.1 - minI e.2 (f e.1))) r;(minI e.2 (f e.1)::z.1,z.2)
def opensZ (a:Ask) (g:Bool) (ct:List (Int×List Int)) (f:Cell→Int) : Nat→(Cell→Int)×List (Int×DnB)
  | 0=>(f,[])
  | s + 1=>let z:=opensZ a g ct f s;let b:=backZ z.1 ((lackC a).zip ((lk ct (s:Int)).getD []));(b.2,z.2++[((s:Int),DnB.opn b.1 (if (s:Int)=a.1 then some (a.2.1,g) else none))])
def grantZ (f:Cell→Int) (l:Lack) : Bool:=l.all fun e=>decide (e.2≤f e.1)
def HM.decide (n:Nat) (M:HM) : HM:=
  match M.rd with
  | none=>M
  | some a=>
    let g:=grantZ M.st a.2.2
    let z:=opensZ a g M.ct (if g=true then subZ M.st a.2.2 else M.st) n
    HM.look n { M with st:=z.1,out:=M.out++z.2,rd:=none }
def HM.closed (n:Nat) (s:Int) (cs:List Int) (M:HM) : HM:=
  match M.rd with
  | none=>M
  | some a=>
    let M1:HM:={ M with st:=addZ M.st ((lackC a).zip cs),ct:=pt M.ct s cs }
    if M1.ct.length=n then M1.decide n else M1
def HM.handle (n:Nat) (s:Int) (b:UpB) (M:HM) : HM:=
  match b with
  | .ask k l=>HM.look n { M with qu:=M.qu++[(s,k,l)] }
  | .closed cs=>M.closed n s cs
  | .back c=>{ M with st:=fset M.st c (M.st c + 1) }
  | .entry r=>{ M with bk:=M.bk.set s.toNat (M.bk.getD s.toNat []++[r]) }
structure HM.Ok (S:Setup) (M:HM) : Prop where
  qk:∀ a∈M.qu,LackOk S a.2.2
  rk:∀ a,M.rd=some a→LackOk S a.2.2
  cl:∀ a,M.rd=some a→∀ e∈M.ct,e.2.length=a.2.2.length
  ck:∀ e∈M.ct,0≤e.1∧e.1 < S.sellers
  cn:Nd M.ct
  bl:M.bk.length=S.sellers.toNat
theorem look_ok {S:Setup} {n:Nat} {M:HM} (h:M.Ok S) : (HM.look n M).Ok S:=by
  unfold HM.look
  split
  · rename_i a q h1 h2
    refine ⟨fun x hx=>h.qk x (by rw [h2];exact List.mem_cons_of_mem _ hx),fun x hx=>?_,fun _ _ e he=>(nomatch he),fun e he=>(nomatch he),List.nodup_nil,h.bl⟩
    rw [← Option.some.inj hx]
    exact h.qk a (by rw [h2];exact List.mem_cons_self)
  · exact h
theorem decide_ok {S:Setup} {n:Nat} {M:HM} (h:M.Ok S) : (HM.decide n M).Ok S:=by
  unfold HM.decide
  split
  · exact h
  · exact look_ok ⟨h.qk,fun x hx=>(by cases hx),fun x hx=>(by cases hx),h.ck,h.cn,h.bl⟩
theorem pt_mem {κ α:Type} [DecidableEq κ] {m:List (κ×α)} {k : κ} {v : α} {e : κ×α} (h : e∈pt m k v) : e∈m∨e=(k,v):=by
  unfold pt at h
  split at h
  · obtain ⟨x,hx,rfl⟩:=List.mem_map.mp h
    by_cases q : x.1=k
    · rw [if_pos q];exact .inr (by rw [q])
    · rw [if_neg q];exact .inl hx
  · rcases List.mem_append.mp h with q | q
    · exact .inl q
    · exact .inr (List.mem_singleton.mp q)
theorem closed_ok {S:Setup} {n:Nat} {M:HM} {s:Int} {cs:List Int} (h:M.Ok S) (hs : 0≤s∧s < S.sellers) (hc:∀ a,M.rd=some a→cs.length=a.2.2.length) : (HM.closed n s cs M).Ok S:=by
  unfold HM.closed
  split
  · exact h
  · rename_i a ha
    have h1:HM.Ok S { M with st:=addZ M.st ((lackC a).zip cs),ct:=pt M.ct s cs }:=by
      refine ⟨h.qk,h.rk,fun x hx e he=>?_,fun e he=>?_,h.cn.pt _ _,h.bl⟩
      · rcases pt_mem he with q | q
        · exact h.cl x hx e q
        · rw [q];exact hc x hx
      · rcases pt_mem he with q | q
        · exact h.ck e q
        · rw [q];exact hs
    show HM.Ok S (if _ then _ else _)
    split
    · exact decide_ok h1
    · exact h1
def UpOk (S:Setup) (M:HM) : UpB→Prop
  | .ask _ l=>LackOk S l
  | .closed cs=>∃ a,M.rd=some a∧cs.length=a.2.2.length
  | .back c=>CellOk S c
  | .entry _=>True
theorem handle_ok {S:Setup} {n:Nat} {M:HM} {s:Int} {b:UpB} (h:M.Ok S) (hs : 0≤s∧s < S.sellers) (hb:UpOk S M b) : (HM.handle n s b M).Ok S:=by
  cases b with
  | ask k l=>
    refine look_ok ⟨fun x hx=>?_,h.rk,h.cl,h.ck,h.cn,h.bl⟩
    rcases List.mem_append.mp hx with q | q
    · exact h.qk x q
    · rw [List.mem_singleton.mp q];exact hb
  | closed cs=>
    obtain ⟨a,h1,h2⟩:=hb
    exact closed_ok h hs fun x hx=>by rw [h1] at hx;cases hx;exact h2
  | back c=>exact ⟨h.qk,h.rk,h.cl,h.ck,h.cn,h.bl⟩
  | entry r=>exact ⟨h.qk,h.rk,h.cl,h.ck,h.cn,by show (M.bk.set _ _).length=_;rw [List.length_set];exact h.bl⟩
theorem full_mem {n:Nat}:∀ (m:List (Int×List Int)),Nd m→(∀ e∈m,0≤e.1∧e.1 < n)→m.length=n→∀ s:Nat,s < n→∃ cs,lk m (s:Int)=some cs:=by
  intro m hn hk hl s hs
  cases h : lk m (s:Int) with
  | some cs=>exact ⟨cs,rfl⟩
  | none=>
    exfalso
    have nk:=lk_not h
    have key:∀ (n:Nat) (l:List Int),l.Nodup→(∀ x∈l,0≤x∧x < n)→l.length≤n:=by
      intro n
      induction n with
      | zero=>
        intro l _ hl
        cases l with
        | nil=>exact Nat.le_refl _
        | cons a r=>have:=hl a List.mem_cons_self;omega
      | succ n ih=>
        intro l nd hl
        have h1:=ih (l.filter fun x=>decide (x≠(n:Int))) (List.Pairwise.sublist List.filter_sublist nd) fun x hx=>by
          obtain ⟨hx,hq⟩:=List.mem_filter.mp hx
          have:=hl x hx
          have hq:=of_decide_eq_true hq
          omega
        have h2 : l.length≤(l.filter fun x=>decide (x≠(n:Int))).length + 1:=by
          clear h1 hl ih
          induction l with
          | nil=>exact Nat.zero_le _
          | cons a r ih=>
            have nd':=List.nodup_cons.mp nd
            by_cases q : a=(n:Int)
            · have e:(r.filter fun x=>decide (x≠(n:Int)))=r:=List.filter_eq_self.mpr fun x hx=>decide_eq_true fun z=>nd'.1 (by rw [q,← z];exact hx)
              rw [List.filter_cons_of_neg (by simp [q]),e];exact Nat.le_refl _
            · rw [List.filter_cons_of_pos (by simp [q])]
              have:=ih nd'.2
              simp only [List.length_cons];omega
        omega
    have nl:(m.map fun e:Int×List Int=>e.1).Nodup:=hn
    have:=key n ((s:Int)::m.map fun e:Int×List Int=>e.1) (List.nodup_cons.mpr ⟨nk,nl⟩) fun x hx=>by
      rcases List.mem_cons.mp hx with q | q
      · rw [q];omega
      · obtain ⟨e,he,rfl⟩:=List.mem_map.mp q;exact hk e he
    rw [List.length_cons,List.length_map] at this
    omega
inductive Deed
  | wish (p:List Stay)
  | cancel (k:Int)
  | change (k:Int) (p:List Stay)
def deedD:Deed→PyData
  | .wish p=>.tuple [.str "wish",partyD p]
  | .cancel k=>.tuple [.str "cancel",.int k]
  | .change k p=>.tuple [.str "change",.int k,partyD p]
def Deed.party:Deed→List Stay
  | .wish p=>p
  | .cancel _=>[]
  | .change _ p=>p
structure SM where
  fr:Cell→Int
  vo:List (Int×List Stay)
  bk:List Row
  cl:Option (List Cell)
  ask:List (Int×Deed)
  wt:List (Int×Deed)
  n:Int
  out:List UpB
  told:List (Int×Bool)
def voD (m:List (Int×List Stay)) : List (Int×PyData):=m.map fun e=>(e.1,partyD e.2)
def askT (m:List (Int×Deed)) : List (Int×PyData):=m.map fun e=>(e.1,deedD e.2)
def wtD (e:Int×Deed) : PyData:=.tuple [.int e.1,deedD e.2]
def tellD (e:Int×Bool) : PyData:=.tuple [.int e.1,.bool e.2]
def closD:Option (List Cell)→PyData
  | none=>.none
  | some cs=>cellsD cs
theorem imm_deed (d:Deed) : imm (deedD d)=true:=by
  cases d with
  | wish p=>
    show (true && (imm (partyD p) && true))=true
    rw [imm_party];rfl
  | cancel k=>rfl
  | change k p=>
    show (true && (true && (imm (partyD p) && true)))=true
    rw [imm_party];rfl
theorem imm_wt (e:Int×Deed) : imm (wtD e)=true:=by
  show (true && (imm (deedD e.2) && true))=true
  rw [imm_deed];rfl
theorem imm_tell (e:Int×Bool) : imm (tellD e)=true:=rfl
theorem imm_clos (c:Option (List Cell)) : imm (closD c)=true:=by
  cases c with
  | none=>rfl
  | some cs=>exact imm_cells cs
def SM.old (M:SM) : Deed→List Stay
  | .wish _=>[]
  | .cancel k=>(lk M.vo k).getD []
  | .change k _=>(lk M.vo k).getD []
def isCh (k:Int) : Deed→Bool
  | .change j _=>decide (j=k)
  | _=>false
def SM.pend (M:SM) (k:Int) : Bool:=M.ask.any fun e=>isCh k e.2
def cellsN (p:List Stay) : List Cell:=(needsL p).map (·.1)
def SM.shut (M:SM) (cs:List Cell) : Bool:=
  match M.cl with
  | none=>false
  | some l=>cs.any fun c=>decide (c∈l)
def SM.waits (M:SM) (d:Deed) : Bool:=
  (match d with
    | .wish _=>false
    | .cancel k=>M.pend k
    | .change k _=>M.pend k) || M.shut (cellsN d.party++cellsN (M.old d))
def scell (l:List Cell) : List Cell:=l.mergeSort (PySem.W.dataLe false cellD)
theorem scell_perm (l:List Cell) : (scell l).Perm l:=List.mergeSort_perm l _
theorem scell_map (l:List Cell) : (scell l).map cellD=srt (l.map cellD):=srt_map cellD l
def lackC1 (p o:List Stay) (c:Cell) : Option (Cell×Int):=if nd o c < nd p c then some (c,nd p c - nd o c) else none
def lackL (p o:List Stay) : Lack:=(scell (cellsN p)).filterMap (lackC1 p o)
def SM.row (r:Row) (M:SM) : SM:={ M with bk:=M.bk++[r],out:=M.out++[.entry r] }
def soldR (S:Setup) (n:Int) (p:List Stay) : Row:=.sold n p (priceS S p) (keptS S p)
def canR (S:Setup) (n:Int) (p:List Stay) : Row:=.cancelled n (priceS S p) (keptS S p)
def chgR (S:Setup) (n:Int) (p o:List Stay) : Row:=.changed n p (priceS S p) (keptS S p) (priceS S o) (keptS S o)
def SM.tell (n:Int) (g:Bool) (M:SM) : SM:={ M with told:=M.told++[(n,g)] }
def SM.keep (S:Setup) (n:Int) (d:Deed) (M:SM) : SM:=
  match d with
  | .wish p=>SM.row (soldR S n p) { M with vo:=pt M.vo n p }
  | .change k p=>SM.row (chgR S k p ((lk M.vo k).getD [])) { M with vo:=pt M.vo k p }
  | .cancel _=>M
def SM.has (M:SM) (l:Lack) : Bool:=l.all fun e=>decide (e.2≤M.fr e.1)
def SM.deal (S:Setup) (n:Int) (d:Deed) (p o:List Stay) (M:SM) : SM:=
  if M.has (lackL p o)=true then SM.tell n true (SM.keep S n d { M with fr:=fun c=>M.fr c - nd p c + nd o c })
  else { M with ask:=pt M.ask n d,out:=M.out++[.ask n (lackL p o)] }
def SM.doit (S:Setup) (n:Int) (d:Deed) (M:SM) : SM:=
  match d with
  | .wish p=>M.deal S n d p []
  | .cancel k=>
    match lk M.vo k with
    | none=>M.tell n false
    | some o=>SM.tell n true (SM.row (canR S k o) { M with fr:=fun c=>M.fr c + nd o c,vo:=dr M.vo k })
  | .change k p=>
    match lk M.vo k with
    | none=>M.tell n false
    | some o=>M.deal S n d p o
def SM.asked (S:Setup) (d:Deed) (M:SM) : SM:=
  let M1:SM:={ M with n:=M.n + 1 }
  if M.waits d=true then { M1 with wt:=M.wt++[(M.n,d)] } else M1.doit S M.n d
def SM.answered (S:Setup) (n:Int) (g:Bool) (M:SM) : SM:=
  match lk M.ask n with
  | none=>M
  | some d=>
    let M1:SM:={ M with ask:=dr M.ask n }
    SM.tell n g (if g=true then SM.keep S n d { M1 with fr:=fun c=>M1.fr c + max 0 (nd (M1.old d) c - nd d.party c) } else M1)
def SM.again (S:Setup) (M:SM) (e:Int×Deed) : SM:=if M.waits e.2=true then { M with wt:=M.wt++[e] } else M.doit S e.1 e.2
def SM.reopen (S:Setup) (cs:List Int) (an:Option (Int×Bool)) (M:SM) : SM:=
  let M1:SM:={ M with fr:=addZ M.fr ((M.cl.getD []).zip cs),cl:=none }
  let M2:=match an with
    | none=>M1
    | some a=>M1.answered S a.1 a.2
  M2.wt.foldl (SM.again S) { M2 with wt:=[] }
def SM.close (cs:List Cell) (M:SM) : SM:={ M with fr:=fun c=>if c∈cs then 0 else M.fr c,cl:=some cs,out:=M.out++[.closed (cs.map M.fr)] }
def SM.handle (S:Setup) (b:DnB) (M:SM) : SM:=
  match b with
  | .give c=>{ M with fr:=fset M.fr c (M.fr c + 1) }
  | .close cs=>M.close cs
  | .opn cs an=>M.reopen S cs an
  | .want c=>if 0 < M.fr c then { M with fr:=fset M.fr c (M.fr c - 1),out:=M.out++[.back c] } else M
def PtyOk (S:Setup) (p:List Stay) : Prop:=(∀ s∈p,StayOk S s)∧p.length≤4
def DeedOk (S:Setup) : Deed→Prop
  | .wish p=>PtyOk S p
  | .cancel _=>True
  | .change _ p=>PtyOk S p
theorem PtyOk.nil {S:Setup}:PtyOk S []:=⟨fun _ h=>(nomatch h),Nat.zero_le _⟩
theorem DeedOk.party {S:Setup} {d:Deed} (h:DeedOk S d) : PtyOk S d.party:=by
  cases d with
  | wish p=>exact h
  | cancel k=>exact PtyOk.nil
  | change k p=>exact h
def AskOk (vo:List (Int×List Stay)) : Deed→Prop
  | .wish _=>True
  | .cancel _=>False
  | .change k _=>(lk vo k).isSome=true
structure SM.Ok (S:Setup) (M:SM) : Prop where
  vk:∀ e∈M.vo,PtyOk S e.2
  vn:Nd M.vo
  ak:∀ e∈M.ask,DeedOk S e.2
  an:Nd M.ask
  ac:∀ e∈M.ask,AskOk M.vo e.2
  wk:∀ e∈M.wt,DeedOk S e.2
  ck:∀ cs,M.cl=some cs→(∀ c∈cs,CellOk S c)∧cs.length≤36
theorem SM.Ok.old {S:Setup} {M:SM} (m:M.Ok S) (d:Deed) : PtyOk S (M.old d):=by
  have key:∀ k,PtyOk S ((lk M.vo k).getD []):=fun k=>by
    cases h : lk M.vo k with
    | none=>exact PtyOk.nil
    | some p=>exact m.vk _ (lk_some h)
  cases d with
  | wish p=>exact PtyOk.nil
  | cancel k=>exact key k
  | change k p=>exact key k
theorem lk_pt_some {κ α:Type} [DecidableEq κ] {m:List (κ×α)} {k j : κ} {v : α} (h:(lk m k).isSome=true) : (lk (pt m j v) k).isSome=true:=by
  rw [lk_pt];split
  · rfl
  · exact h
theorem AskOk.pt {vo:List (Int×List Stay)} {d:Deed} (h:AskOk vo d) (n:Int) (p:List Stay) : AskOk (pt vo n p) d:=by
  cases d with
  | wish _=>exact h
  | cancel _=>exact h
  | change k _=>exact lk_pt_some h
theorem keep_ok {S:Setup} {M:SM} {n:Int} {d:Deed} (m:M.Ok S) (hd:DeedOk S d) : (M.keep S n d).Ok S:=by
  have key:∀ (k:Int) (p:List Stay),PtyOk S p→∀ e∈pt M.vo k p,PtyOk S e.2:=fun k p hp e he=>by
    rcases pt_mem he with q | q
    · exact m.vk e q
    · rw [q];exact hp
  cases d with
  | wish p=>exact ⟨key n p hd,m.vn.pt _ _,m.ak,m.an,fun e he=>(m.ac e he).pt _ _,m.wk,m.ck⟩
  | cancel k=>exact m
  | change k p=>exact ⟨key k p hd,m.vn.pt _ _,m.ak,m.an,fun e he=>(m.ac e he).pt _ _,m.wk,m.ck⟩
theorem deal_ok {S:Setup} {M:SM} {n:Int} {d:Deed} {p o:List Stay} (m:M.Ok S) (hd:DeedOk S d) (ha:AskOk M.vo d) : (M.deal S n d p o).Ok S:=by
  unfold SM.deal
  split
  · have h:=keep_ok (n:=n) (d:=d) (M:={ M with fr:=fun c=>M.fr c - nd p c + nd o c }) ⟨m.vk,m.vn,m.ak,m.an,m.ac,m.wk,m.ck⟩ hd
    exact ⟨h.vk,h.vn,h.ak,h.an,h.ac,h.wk,h.ck⟩
  · refine ⟨m.vk,m.vn,fun e he=>?_,m.an.pt _ _,fun e he=>?_,m.wk,m.ck⟩
    · rcases pt_mem he with q | q
      · exact m.ak e q
      · rw [q];exact hd
    · rcases pt_mem he with q | q
      · exact m.ac e q
      · rw [q];exact ha
theorem lk_dr_ne {κ α:Type} [DecidableEq κ] {m:List (κ×α)} {k j : κ} (h : j≠k) : lk (dr m k) j=lk m j:=by
  induction m with
  | nil=>rfl
  | cons e r ih=>
    unfold dr
    by_cases q : e.1=k
    · have a : decide (e.1≠k)=false:=by simp [q]
      have b : lk (e::r) j=lk r j:=by rw [lk_cons,if_neg fun z=>h (z.symm.trans q)]
      simp only [List.filter_cons,a];rw [b];exact ih
    · have a : decide (e.1≠k)=true:=decide_eq_true q
      simp only [List.filter_cons,a,if_true]
      rw [lk_cons,lk_cons]
      split
      · rfl
      · exact ih
def SM.clear (M:SM) : Deed→Prop
  | .wish _=>True
  | .cancel k=>M.pend k=false
  | .change k _=>M.pend k=false
theorem SM.clear_of {M:SM} {d:Deed} (h:M.waits d=false) : M.clear d:=by
  unfold SM.waits at h
  cases d with
  | wish p=>trivial
  | cancel k=>exact (Bool.or_eq_false_iff.mp h).1
  | change k p=>exact (Bool.or_eq_false_iff.mp h).1
theorem doit_ok {S:Setup} {M:SM} {n:Int} {d:Deed} (m:M.Ok S) (hd:DeedOk S d) (hc:M.clear d) : (M.doit S n d).Ok S:=by
  cases d with
  | wish p=>exact deal_ok m hd trivial
  | cancel k=>
    show SM.Ok S (match lk M.vo k with | none=>_ | some o=>_)
    cases h : lk M.vo k with
    | none=>exact ⟨m.vk,m.vn,m.ak,m.an,m.ac,m.wk,m.ck⟩
    | some o=>
      refine ⟨fun e he=>m.vk e (List.mem_filter.mp he).1,dr_nd m.vn k,m.ak,m.an,fun e he=>?_,m.wk,m.ck⟩
      have h1:=m.ac e he
      cases q : e.2 with
      | wish _=>trivial
      | cancel _=>rw [q] at h1;exact h1
      | change j p=>
        rw [q] at h1
        have hj : j≠k:=fun z=>by
          have hp:M.pend k=false:=hc
          unfold SM.pend at hp
          have:=List.any_eq_false.mp hp e he
          rw [q] at this
          exact this (decide_eq_true z)
        show (lk (dr M.vo k) j).isSome=true
        rw [lk_dr_ne hj];exact h1
  | change k p=>
    show SM.Ok S (match lk M.vo k with | none=>_ | some o=>_)
    cases h : lk M.vo k with
    | none=>exact ⟨m.vk,m.vn,m.ak,m.an,m.ac,m.wk,m.ck⟩
    | some o=>exact deal_ok m hd (by show (lk M.vo k).isSome=true;rw [h];rfl)
theorem asked_ok {S:Setup} {M:SM} {d:Deed} (m:M.Ok S) (hd:DeedOk S d) : (M.asked S d).Ok S:=by
  unfold SM.asked
  by_cases h:M.waits d=true
  · show SM.Ok S (if M.waits d=true then _ else _)
    rw [if_pos h]
    refine ⟨m.vk,m.vn,m.ak,m.an,m.ac,fun e he=>?_,m.ck⟩
    rcases List.mem_append.mp he with q | q
    · exact m.wk e q
    · rw [List.mem_singleton.mp q];exact hd
  · show SM.Ok S (if M.waits d=true then _ else _)
    rw [if_neg h]
    have hc:=SM.clear_of (M:=M) (d:=d) (by simpa using h)
    exact doit_ok (M:={ M with n:=M.n + 1 }) ⟨m.vk,m.vn,m.ak,m.an,m.ac,m.wk,m.ck⟩ hd (by cases d <;> exact hc)
theorem again_ok {S:Setup} {M:SM} {e:Int×Deed} (m:M.Ok S) (hd:DeedOk S e.2) : (M.again S e).Ok S:=by
  unfold SM.again
  by_cases h:M.waits e.2=true
  · rw [if_pos h]
    refine ⟨m.vk,m.vn,m.ak,m.an,m.ac,fun x hx=>?_,m.ck⟩
    rcases List.mem_append.mp hx with q | q
    · exact m.wk x q
    · rw [List.mem_singleton.mp q];exact hd
  · rw [if_neg h]
    exact doit_ok m hd (SM.clear_of (by simpa using h))
theorem agains_ok {S:Setup}:∀ (l:List (Int×Deed)) {M:SM},M.Ok S→(∀ e∈l,DeedOk S e.2)→(l.foldl (SM.again S) M).Ok S
  | [],_,m,_=>m
  | e::l,_,m,h=>agains_ok l (again_ok m (h e List.mem_cons_self)) fun x hx=>h x (List.mem_cons_of_mem _ hx)
theorem answered_ok {S:Setup} {M:SM} {n:Int} {g:Bool} (m:M.Ok S) : (M.answered S n g).Ok S:=by
  unfold SM.answered
  cases h : lk M.ask n with
  | none=>exact m
  | some d=>
    have hd:=m.ak _ (lk_some h)
    have m1:SM.Ok S { M with ask:=dr M.ask n }:=⟨m.vk,m.vn,fun e he=>m.ak e (List.mem_filter.mp he).1,dr_nd m.an n,fun e he=>m.ac e (List.mem_filter.mp he).1,m.wk,m.ck⟩
    cases g with
    | false=>exact ⟨m1.vk,m1.vn,m1.ak,m1.an,m1.ac,m1.wk,m1.ck⟩
    | true=>
      have k:=keep_ok (n:=n) (d:=d) (M:={ M with ask:=dr M.ask n,fr:=fun c=>M.fr c + max 0 (nd (SM.old { M with ask:=dr M.ask n } d) c - nd d.party c) }) ⟨m1.vk,m1.vn,m1.ak,m1.an,m1.ac,m1.wk,m1.ck⟩ hd
      exact ⟨k.vk,k.vn,k.ak,k.an,k.ac,k.wk,k.ck⟩
def DnOk (S:Setup) (M:SM) : DnB→Prop
  | .give c=>CellOk S c
  | .want c=>CellOk S c
  | .close cs=>(∀ c∈cs,CellOk S c)∧cs.length≤36
  | .opn cs an=>(∃ l,M.cl=some l∧cs.length=l.length)∧∀ a,an=some a→(lk M.ask a.1).isSome=true
structure SP where
  p:Addr
  fr:Addr
  vo:Addr
  bk:Addr
  ask:Addr
  wt:Addr
  out:Addr
  told:Addr
def SP.os (s:SP) : List Addr:=[s.p,s.fr,s.vo,s.bk,s.ask,s.wt,s.out,s.told]
structure SPNd (s:SP) : Prop where
  p_fr : s.p≠s.fr
  p_vo : s.p≠s.vo
  p_bk : s.p≠s.bk
  p_ask : s.p≠s.ask
  p_wt : s.p≠s.wt
  p_out : s.p≠s.out
  p_told : s.p≠s.told
  fr_vo : s.fr≠s.vo
  fr_bk : s.fr≠s.bk
  fr_ask : s.fr≠s.ask
  fr_wt : s.fr≠s.wt
  fr_out : s.fr≠s.out
  fr_told : s.fr≠s.told
  vo_bk : s.vo≠s.bk
  vo_ask : s.vo≠s.ask
  vo_wt : s.vo≠s.wt
  vo_out : s.vo≠s.out
  vo_told : s.vo≠s.told
  bk_ask : s.bk≠s.ask
  bk_wt : s.bk≠s.wt
  bk_out : s.bk≠s.out
  bk_told : s.bk≠s.told
  ask_wt : s.ask≠s.wt
  ask_out : s.ask≠s.out
  ask_told : s.ask≠s.told
  wt_out : s.wt≠s.out
  wt_told : s.wt≠s.told
  out_told : s.out≠s.told
theorem SPNd.of {s:SP} (n : s.os.Nodup) : SPNd s:=by
  unfold SP.os at n
  simp only [List.nodup_cons,List.mem_cons,List.not_mem_nil,or_false,not_or,not_false_eq_true,and_true,List.nodup_nil] at n
  obtain ⟨⟨p_fr,p_vo,p_bk,p_ask,p_wt,p_out,p_told⟩,⟨fr_vo,fr_bk,fr_ask,fr_wt,fr_out,fr_told⟩,⟨vo_bk,vo_ask,vo_wt,vo_out,vo_told⟩,⟨bk_ask,bk_wt,bk_out,bk_told⟩,⟨ask_wt,ask_out,ask_told⟩,⟨wt_out,wt_told⟩,out_told⟩:=n
  exact ⟨p_fr,p_vo,p_bk,p_ask,p_wt,p_out,p_told,fr_vo,fr_bk,fr_ask,fr_wt,fr_out,fr_told,vo_bk,vo_ask,vo_wt,vo_out,vo_told,bk_ask,bk_wt,bk_out,bk_told,ask_wt,ask_out,ask_told,wt_out,wt_told,out_told⟩
structure SCore (H:Hp) (S:Setup) (s:SP) (clv:V) (M:SM) : Prop where
  fr:H s.fr=some (.dT (cD (stT S M.fr)))
  vo:DkAt H s.vo (voD M.vo)
  bk:LsAt H s.bk ((M.bk).map rowB)
  ask:DkAt H s.ask (askT M.ask)
  wt:LsAt H s.wt ((M.wt).map wtD)
  out:LsAt H s.out ((M.out).map upD)
  told:LsAt H s.told ((M.told).map tellD)
  clv:Da H clv (closD M.cl)
theorem SCore.frm {l:List Addr} {H H':Hp} {S:Setup} {s:SP} {clv:V} {M:SM} (c:SCore H S s clv M) (f:Fr l H H') (n:∀ a∈s.os,a∉l) : SCore H' S s clv M:=
  ⟨f.at c.fr (n _ (by simp [SP.os])),c.vo.fr f (n _ (by simp [SP.os])),c.bk.fr f (n _ (by simp [SP.os])),c.ask.fr f (n _ (by simp [SP.os])),c.wt.fr f (n _ (by simp [SP.os])),c.out.fr f (n _ (by simp [SP.os])),c.told.fr f (n _ (by simp [SP.os])),Da.frL f c.clv (imm_clos _)⟩
theorem SCore.w_fr {H H':Hp} {S:Setup} {s:SP} {clv:V} {M:SM} {v:Cell→Int} (c:SCore H S s clv M) (n:SPNd s) (f:Fr [s.fr] H H') (e:H' s.fr=some (.dT (cD (stT S v)))) : SCore H' S s clv { M with fr:=v }:=
  ⟨e,c.vo.fr f (nin1 n.fr_vo.symm nin0),c.bk.fr f (nin1 n.fr_bk.symm nin0),c.ask.fr f (nin1 n.fr_ask.symm nin0),c.wt.fr f (nin1 n.fr_wt.symm nin0),c.out.fr f (nin1 n.fr_out.symm nin0),c.told.fr f (nin1 n.fr_told.symm nin0),Da.frL f c.clv (imm_clos _)⟩
theorem SCore.w_vo {H H':Hp} {S:Setup} {s:SP} {clv:V} {M:SM} {v:List (Int×List Stay)} (c:SCore H S s clv M) (n:SPNd s) (f:Fr [s.vo] H H') (e:DkAt H' s.vo (voD v)) : SCore H' S s clv { M with vo:=v }:=
  ⟨f.at c.fr (nin1 n.fr_vo nin0),e,c.bk.fr f (nin1 n.vo_bk.symm nin0),c.ask.fr f (nin1 n.vo_ask.symm nin0),c.wt.fr f (nin1 n.vo_wt.symm nin0),c.out.fr f (nin1 n.vo_out.symm nin0),c.told.fr f (nin1 n.vo_told.symm nin0),Da.frL f c.clv (imm_clos _)⟩
theorem SCore.w_bk {H H':Hp} {S:Setup} {s:SP} {clv:V} {M:SM} {v:List Row} (c:SCore H S s clv M) (n:SPNd s) (f:Fr [s.bk] H H') (e:LsAt H' s.bk ((v).map rowB)) : SCore H' S s clv { M with bk:=v }:=
  ⟨f.at c.fr (nin1 n.fr_bk nin0),c.vo.fr f (nin1 n.vo_bk nin0),e,c.ask.fr f (nin1 n.bk_ask.symm nin0),c.wt.fr f (nin1 n.bk_wt.symm nin0),c.out.fr f (nin1 n.bk_out.symm nin0),c.told.fr f (nin1 n.bk_told.symm nin0),Da.frL f c.clv (imm_clos _)⟩
theorem SCore.w_ask {H H':Hp} {S:Setup} {s:SP} {clv:V} {M:SM} {v:List (Int×Deed)} (c:SCore H S s clv M) (n:SPNd s) (f:Fr [s.ask] H H') (e:DkAt H' s.ask (askT v)) : SCore H' S s clv { M with ask:=v }:=
  ⟨f.at c.fr (nin1 n.fr_ask nin0),c.vo.fr f (nin1 n.vo_ask nin0),c.bk.fr f (nin1 n.bk_ask nin0),e,c.wt.fr f (nin1 n.ask_wt.symm nin0),c.out.fr f (nin1 n.ask_out.symm nin0),c.told.fr f (nin1 n.ask_told.symm nin0),Da.frL f c.clv (imm_clos _)⟩
theorem SCore.w_wt {H H':Hp} {S:Setup} {s:SP} {clv:V} {M:SM} {v:List (Int×Deed)} (c:SCore H S s clv M) (n:SPNd s) (f:Fr [s.wt] H H') (e:LsAt H' s.wt ((v).map wtD)) : SCore H' S s clv { M with wt:=v }:=
  ⟨f.at c.fr (nin1 n.fr_wt nin0),c.vo.fr f (nin1 n.vo_wt nin0),c.bk.fr f (nin1 n.bk_wt nin0),c.ask.fr f (nin1 n.ask_wt nin0),e,c.out.fr f (nin1 n.wt_out.symm nin0),c.told.fr f (nin1 n.wt_told.symm nin0),Da.frL f c.clv (imm_clos _)⟩
theorem SCore.w_out {H H':Hp} {S:Setup} {s:SP} {clv:V} {M:SM} {v:List UpB} (c:SCore H S s clv M) (n:SPNd s) (f:Fr [s.out] H H') (e:LsAt H' s.out ((v).map upD)) : SCore H' S s clv { M with out:=v }:=
  ⟨f.at c.fr (nin1 n.fr_out nin0),c.vo.fr f (nin1 n.vo_out nin0),c.bk.fr f (nin1 n.bk_out nin0),c.ask.fr f (nin1 n.ask_out nin0),c.wt.fr f (nin1 n.wt_out nin0),e,c.told.fr f (nin1 n.out_told.symm nin0),Da.frL f c.clv (imm_clos _)⟩
theorem SCore.w_told {H H':Hp} {S:Setup} {s:SP} {clv:V} {M:SM} {v:List (Int×Bool)} (c:SCore H S s clv M) (n:SPNd s) (f:Fr [s.told] H H') (e:LsAt H' s.told ((v).map tellD)) : SCore H' S s clv { M with told:=v }:=
  ⟨f.at c.fr (nin1 n.fr_told nin0),c.vo.fr f (nin1 n.vo_told nin0),c.bk.fr f (nin1 n.bk_told nin0),c.ask.fr f (nin1 n.ask_told nin0),c.wt.fr f (nin1 n.wt_told nin0),c.out.fr f (nin1 n.out_told nin0),e,Da.frL f c.clv (imm_clos _)⟩
theorem SCore.w_p {H H':Hp} {S:Setup} {s:SP} {clv:V} {M:SM} (c:SCore H S s clv M) (n:SPNd s) (f:Fr [s.p] H H') : SCore H' S s clv M:=
  ⟨f.at c.fr (nin1 n.p_fr.symm nin0),c.vo.fr f (nin1 n.p_vo.symm nin0),c.bk.fr f (nin1 n.p_bk.symm nin0),c.ask.fr f (nin1 n.p_ask.symm nin0),c.wt.fr f (nin1 n.p_wt.symm nin0),c.out.fr f (nin1 n.p_out.symm nin0),c.told.fr f (nin1 n.p_told.symm nin0),Da.frL f c.clv (imm_clos _)⟩
def rStP (st cd:Addr) (z:V) (H:Hp) (P:Hp→Prop) : Prop:=∃ H5,DPut H st (.ref cd) z H5∧P H5
theorem g_stA {S:Setup} (so:SetupOk S) {st cd:Addr} {c:Cell} {g:Cell→Int} {tv:TE} {rd:V→V→Hp→VK→Prop} {σ:L2.St} {H:Hp} {P:Hp→Prop} (ok:CellOk S c) (h:H st=some (.dT (cD (stT S g)))) (hc:H cd=some (.tup [.int c.1,.int c.2]))
    (q : tv σ H fun y2 H3=>rd (.int (g c)) y2 H3 fun z H4=>rStP st cd z H4 P) : rDA0 (.ref st) (.ref cd) tv rd σ H P:=g_rda0 (k:=ck c) h hc (st_get so ok) q
theorem g_stP {S:Setup} (so:SetupOk S) {st cd:Addr} {c:Cell} {g:Cell→Int} {v:Int} {H:Hp} {P:Hp→Prop} (ok:CellOk S c) (h:H st=some (.dT (cD (stT S g)))) (hc:H cd=some (.tup [.int c.1,.int c.2]))
    (q:∀ H',Fr [st] H H'→H' st=some (.dT (cD (stT S (fset g c v))))→P H') : rStP st cd (.int v) H P:=
  g_rdput (k:=ck c) h hc (st_lt so g) fun H' f e=>q H' f (by rw [e,st_put so ok])
theorem g_stG {S:Setup} (so:SetupOk S) {st cd:Addr} {c:Cell} {g:Cell→Int} {H:Hp} {Q:VK} (ok:CellOk S c) (h:H st=some (.dT (cD (stT S g)))) (hc:H cd=some (.tup [.int c.1,.int c.2])) (q:Q (.int (g c)) H) : rDG (.ref st) (.ref cd) H Q:=
  g_rdg (k:=ck c) (.inl h) hc (st_get so ok) q
theorem g_stD {S:Setup} (so:SetupOk S) {st cd:Addr} {c:Cell} {g:Cell→Int} {v:Int} {H:Hp} {P:Hp→Prop} (ok:CellOk S c) (h:H st=some (.dT (cD (stT S g)))) (hc:H cd=some (.tup [.int c.1,.int c.2]))
    (q:∀ H',Fr [st] H H'→H' st=some (.dT (cD (stT S (fset g c v))))→P H') : rDP (.ref st) (.ref cd) (.int v) H P:=
  g_rdp (k:=ck c) h hc (st_lt so g) fun H' f e=>q H' f (by rw [e,st_put so ok])
theorem tab_snoc (cs:List Cell) (c:Cell) (f:Cell→Int) : tabF (cs++[c]) f=tabF cs f++[(c,f c)]:=by unfold tabF;rw [List.map_append];rfl
theorem tab_put {cs:List Cell} {c:Cell} (f:Cell→Int) (h : c∉cs) : putK (cD (tabF cs f)) (ck c) (.int (f c))=cD (tabF (cs++[c]) f):=by
  rw [put_cell,pt_new (by rw [tab_keys];exact h),tab_snoc]
theorem new_cell {N i j:Nat}:((i:Int),(j:Int))∉cellsK N i++rowC j i:=fun q=>by
  rcases List.mem_append.mp q with h | h
  · have:=(mem_cellsK.mp h).2.1
    exact absurd this (by show ¬ (i:Int) < (i:Int);omega)
  · have:=(mem_row.mp h).2.2
    exact absurd this (by show ¬ (j:Int) < (j:Int);omega)
theorem lk_mp {α β:Type} (f : α→β) (m:List (Int×α)) (k:Int) : lk (m.map fun e=>(e.1,f e.2)) k=(lk m k).map f:=by
  induction m with
  | nil=>rfl
  | cons e r ih=>
    rw [List.map_cons,lk_cons,lk_cons]
    by_cases h : e.1=k
    · rw [if_pos h,if_pos h];rfl
    · rw [if_neg h,if_neg h];exact ih
theorem pt_mp {α β:Type} (f : α→β) (m:List (Int×α)) (k:Int) (v : α) : pt (m.map fun e=>(e.1,f e.2)) k (f v)=(pt m k v).map fun e=>(e.1,f e.2):=by
  have ha:((m.map fun e=>(e.1,f e.2)).any fun e=>decide (e.1=k))=m.any fun e=>decide (e.1=k):=by rw [List.any_map];rfl
  unfold pt
  rw [ha]
  split
  · rw [List.map_map,List.map_map]
    refine List.map_congr_left fun e _=>?_
    show (if e.1=k then (e.1,f v) else (e.1,f e.2))=(fun e:Int×α=>(e.1,f e.2)) (if e.1=k then (e.1,v) else e)
    split <;> rfl
  · rw [List.map_append];rfl
theorem dr_mp {α β:Type} (f : α→β) (m:List (Int×α)) (k:Int) : dr (m.map fun e=>(e.1,f e.2)) k=(dr m k).map fun e=>(e.1,f e.2):=by
  unfold dr
  rw [List.filter_map];rfl
theorem DkR.look {α:Type} {f : α→PyData} {H:Hp} {kvs:List (Key×V)} {m:List (Int×α)} (r:DkR H kvs (m.map fun e=>(e.1,f e.2))) (k:Int) :
    (lk m k=none∧valV kvs (.inl k)=none)∨∃ v x,lk m k=some x∧valV kvs (.inl k)=some v∧Da H v (f x):=by
  obtain ⟨h1,h2⟩:=r.val k
  rw [lk_mp] at h1
  cases q : lk m k with
  | none=>exact .inl ⟨rfl,h1 (by rw [q];rfl)⟩
  | some x=>
    obtain ⟨v,e,d,_⟩:=h2 (f x) (by rw [lk_mp,q];rfl)
    exact .inr ⟨v,x,rfl,e,d⟩
theorem subZ_snoc (f:Cell→Int) (l:List (Cell×Int)) (e:Cell×Int) : subZ f (l++[e])=fset (subZ f l) e.1 (subZ f l e.1 - e.2):=by unfold subZ;rw [List.foldl_append];rfl
theorem addZ_snoc (f:Cell→Int) (l:List (Cell×Int)) (e:Cell×Int) : addZ f (l++[e])=fset (addZ f l) e.1 (addZ f l e.1 + e.2):=by unfold addZ;rw [List.foldl_append];rfl
theorem zip_get {α β:Type} {l:List α} {m:List β} {i:Nat} {a : α} {b : β} (h1 : l[i]? = some a) (h2 : m[i]? = some b) : (l.zip m)[i]? = some (a,b):=List.getElem?_zip_eq_some.mpr ⟨h1,h2⟩
theorem al_put {H H':Hp} {l:List Addr} {p:Addr} {o:HO} (s:AL H l) (f:Fr [p] H H') (e:H' p=some o) : AL H' l:=⟨s.1,fun a ha=>by
  by_cases z : a=p
  · rw [z];exact ⟨_,e⟩
  · obtain ⟨u,q⟩:=s.2 a ha;exact ⟨u,f.at q (nin1 z nin0)⟩⟩
structure HP where
  p:Addr
  st:Addr
  bk:Addr
  qu:Addr
  ct:Addr
  out:Addr
  bs:List Addr
def HP.os (h:HP) : List Addr:=h.p::h.st::h.bk::h.qu::h.ct::h.out::h.bs
abbrev BksAt (H:Hp) (bs:List Addr) (m:List (List Row)) : Prop:=Paired (fun b r=>LsAt H b (r.map rowB)) bs m
theorem BksAt.fr {l:List Addr} {H H':Hp} {bs:List Addr} {m:List (List Row)} (h:BksAt H bs m) (f:Fr l H H') (n:∀ b∈bs,b∉l) : BksAt H' bs m:=by
  induction h with
  | nil=>exact .nil
  | cons r t ih=>exact .cons (r.fr f (n _ List.mem_cons_self)) (ih fun b hb=>n b (List.mem_cons_of_mem _ hb))
structure HCore (H:Hp) (S:Setup) (h:HP) (rdv:V) (M:HM) : Prop where
  st:H h.st=some (.dT (cD (stT S M.st)))
  bk:H h.bk=some (.lst (h.bs.map V.ref))
  bs:BksAt H h.bs M.bk
  qu:LsAt H h.qu (M.qu.map askD)
  rd:Da H rdv (roundD M.rd)
  ct:DkAt H h.ct (M.ct.map fun e=>(e.1,rowD e.2))
  out:LsAt H h.out (M.out.map outD)
theorem HCore.fr {l:List Addr} {H H':Hp} {S:Setup} {h:HP} {rdv:V} {M:HM} (c:HCore H S h rdv M) (f:Fr l H H') (n:∀ a∈h.st::h.bk::h.qu::h.ct::h.out::h.bs,a∉l) : HCore H' S h rdv M:=
  ⟨f.at c.st (n _ (by simp)),f.at c.bk (n _ (by simp)),c.bs.fr f fun b hb=>n b (by simp [hb]),c.qu.fr f (n _ (by simp)),Da.frL f c.rd (imm_round _),c.ct.fr f (n _ (by simp)),c.out.fr f (n _ (by simp))⟩
structure HNd (h:HP) : Prop where
  n1 : h.st≠h.bk
  n2 : h.st≠h.qu
  n3 : h.st≠h.ct
  n4 : h.st≠h.out
  n5 : h.bk≠h.qu
  n6 : h.bk≠h.ct
  n7 : h.bk≠h.out
  n8 : h.qu≠h.ct
  n9 : h.qu≠h.out
  n10 : h.ct≠h.out
  p1 : h.p≠h.st
  p2 : h.p≠h.bk
  p3 : h.p≠h.qu
  p4 : h.p≠h.ct
  p5 : h.p≠h.out
  b0 : h.p∉h.bs
  b1 : h.st∉h.bs
  b2 : h.bk∉h.bs
  b3 : h.qu∉h.bs
  b4 : h.ct∉h.bs
  b5 : h.out∉h.bs
  bn : h.bs.Nodup
theorem HNd.of {h:HP} (n : h.os.Nodup) : HNd h:=by
  unfold HP.os at n
  simp only [List.nodup_cons,List.mem_cons,not_or] at n
  obtain ⟨⟨a1,a2,a3,a4,a5,a6⟩,⟨b1,b2,b3,b4,b5⟩,⟨c1,c2,c3,c4⟩,⟨d1,d2,d3⟩,⟨e1,e2⟩,f1,g⟩:=n
  exact ⟨b1,b2,b3,b4,c1,c2,c3,d1,d2,e1,a1,a2,a3,a4,a5,a6,b5,c4,d3,e2,f1,g⟩
theorem nin_bs {bs:List Addr} {a:Addr} (n : a∉bs) : ∀ b∈bs,b∉[a]:=fun b hb q=>n (by rw [← List.mem_singleton.mp q];exact hb)
theorem HCore.wst {H H':Hp} {S:Setup} {h:HP} {rdv:V} {M:HM} {g:Cell→Int} (c:HCore H S h rdv M) (n:HNd h) (f:Fr [h.st] H H') (e:H' h.st=some (.dT (cD (stT S g)))) : HCore H' S h rdv { M with st:=g }:=
  ⟨e,f.at c.bk (nin1 n.n1.symm nin0),c.bs.fr f (nin_bs n.b1),c.qu.fr f (nin1 n.n2.symm nin0),Da.frL f c.rd (imm_round _),c.ct.fr f (nin1 n.n3.symm nin0),c.out.fr f (nin1 n.n4.symm nin0)⟩
theorem HCore.wqu {H H':Hp} {S:Setup} {h:HP} {rdv:V} {M:HM} {q:List Ask} (c:HCore H S h rdv M) (n:HNd h) (f:Fr [h.qu] H H') (e:LsAt H' h.qu (q.map askD)) : HCore H' S h rdv { M with qu:=q }:=
  ⟨f.at c.st (nin1 n.n2 nin0),f.at c.bk (nin1 n.n5 nin0),c.bs.fr f (nin_bs n.b3),e,Da.frL f c.rd (imm_round _),c.ct.fr f (nin1 n.n8.symm nin0),c.out.fr f (nin1 n.n9.symm nin0)⟩
theorem HCore.wct {H H':Hp} {S:Setup} {h:HP} {rdv:V} {M:HM} {q:List (Int×List Int)} (c:HCore H S h rdv M) (n:HNd h) (f:Fr [h.ct] H H') (e:DkAt H' h.ct (q.map fun e=>(e.1,rowD e.2))) : HCore H' S h rdv { M with ct:=q }:=
  ⟨f.at c.st (nin1 n.n3 nin0),f.at c.bk (nin1 n.n6 nin0),c.bs.fr f (nin_bs n.b4),c.qu.fr f (nin1 n.n8 nin0),Da.frL f c.rd (imm_round _),e,c.out.fr f (nin1 n.n10.symm nin0)⟩
theorem HCore.wout {H H':Hp} {S:Setup} {h:HP} {rdv:V} {M:HM} {q:List (Int×DnB)} (c:HCore H S h rdv M) (n:HNd h) (f:Fr [h.out] H H') (e:LsAt H' h.out (q.map outD)) : HCore H' S h rdv { M with out:=q }:=
  ⟨f.at c.st (nin1 n.n4 nin0),f.at c.bk (nin1 n.n7 nin0),c.bs.fr f (nin_bs n.b5),c.qu.fr f (nin1 n.n9 nin0),Da.frL f c.rd (imm_round _),c.ct.fr f (nin1 n.n10 nin0),e⟩
theorem Paired.nth {α β:Type} {F : α→β→Prop}:∀ {l:List α} {m:List β} {i:Nat} {a : α},Paired F l m→l[i]? = some a→∃ b,m[i]? = some b∧F a b
  | _,_,_,_,.nil,e=>by simp at e
  | _,_,0,_,.cons r _,e=>by simp at e;subst e;exact ⟨_,rfl,r⟩
  | _,_,i + 1,a,.cons _ t,e=>by
    obtain ⟨b,h1,h2⟩:=Paired.nth (i:=i) (a:=a) t (by simpa using e)
    exact ⟨b,by simpa using h1,h2⟩
theorem BksAt.put {H H':Hp}:∀ {bs:List Addr} {m:List (List Row)} {i:Nat} {b:Addr} {r:List Row},BksAt H bs m→bs.Nodup→bs[i]? = some b→Fr [b] H H'→LsAt H' b (r.map rowB)→BksAt H' bs (m.set i r)
  | _,_,_,_,_,.nil,_,e,_,_=>by simp at e
  | _,_,0,_,_,.cons _ t,nd,e,f,l=>by
    simp at e;subst e
    exact .cons l (BksAt.fr t f (nin_bs (List.nodup_cons.mp nd).1))
  | _,_,i + 1,b,r,.cons (a:=x) (l₁:=xs) h t,nd,e,f,l=>by
    have e' : xs[i]? = some b:=by simpa using e
    have nb : x≠b:=fun z=>(List.nodup_cons.mp nd).1 (z ▸ List.mem_of_getElem? e')
    exact .cons (h.fr f (nin1 nb nin0)) (BksAt.put (i:=i) t (List.nodup_cons.mp nd).2 e' f l)
theorem HCore.wbs {H H':Hp} {S:Setup} {h:HP} {rdv:V} {M:HM} {i:Nat} {b:Addr} {r:List Row} (c:HCore H S h rdv M) (n:HNd h) (hb : h.bs[i]? = some b) (f:Fr [b] H H') (e:LsAt H' b (r.map rowB)) : HCore H' S h rdv { M with bk:=M.bk.set i r }:=by
  have mb : b∈h.bs:=List.mem_of_getElem? hb
  have ne:∀ {a:Addr},a∉h.bs→a≠b:=fun q z=>q (z ▸ mb)
  exact ⟨f.at c.st (nin1 (ne n.b1) nin0),f.at c.bk (nin1 (ne n.b2) nin0),c.bs.put n.bn hb f e,c.qu.fr f (nin1 (ne n.b3) nin0),Da.frL f c.rd (imm_round _),c.ct.fr f (nin1 (ne n.b4) nin0),c.out.fr f (nin1 (ne n.b5) nin0)⟩
def HouseAt (A:Ad) (H:Hp) (h:HP) (S:Setup) (M:HM) : Prop:=(∃ dx rdv,H h.p=some (.ins A.House dx (F_House S.sellers h.st h.bk h.qu rdv h.ct h.out))∧HCore H S h rdv M)∧AL H h.os
theorem HouseAt.fr {A:Ad} {l:List Addr} {H H':Hp} {h:HP} {S:Setup} {M:HM} (x:HouseAt A H h S M) (f:Fr l H H') (n:∀ a∈h.os,a∉l) : HouseAt A H' h S M:=by
  obtain ⟨⟨dx,rdv,e,c⟩,al⟩:=x
  exact ⟨⟨dx,rdv,f.at e (n _ (by simp [HP.os])),c.fr f fun a ha=>n a (by unfold HP.os;exact List.mem_cons_of_mem _ ha)⟩,al.1,fun a ha=>by obtain ⟨o,q⟩:=al.2 a ha;exact ⟨o,f.at q (n a ha)⟩⟩
def HRes (A:Ad) (H:Hp) (h:HP) (S:Setup) (M:HM) (Q:Hp→Prop) : Prop:=∀ (h':HP) (H':Hp),h'.p=h.p→Fr h.os H H'→(∀ a∈h'.os,a∈h.os∨H a=none)→HouseAt A H' h' S M→Q H'
def HM.start (S:Setup) : HM:=⟨rmC S,List.replicate S.sellers.toNat [],[],none,[],[]⟩
theorem HM.start_ok {S:Setup}:(HM.start S).Ok S:=⟨fun _ h=>(nomatch h),fun _ h=>(by cases h),fun _ h=>(by cases h),fun _ h=>(nomatch h),List.nodup_nil,List.length_replicate⟩
def P_House_init (K:PySem.W.Frag) (A:Ad) (x0 x1:V) (H:Hp) (Q:VK) : Prop:=∃ (p dx:Addr) (S:Setup),x0=.ref p∧H p=some (.ins A.House dx [])∧Da H x1 (setupD S)∧SetupOk S∧
  ∀ (h:HP) (H':Hp),h.p=p→Fr [p] H H'→(∀ a∈h.os,a=p∨H a=none)→HouseAt A H' h S (HM.start S)→Q .non H'
def sp_House_init (K:PySem.W.Frag) (A:Ad) : Sp:=fun vs H Q _=>∃ x0 x1,vs=[x0,x1]∧P_House_init K A x0 x1 H Q
theorem c_House_init {K:PySem.W.Frag} {A:Ad} {x0 x1:V} {H:Hp} {Q:VK} {E:XK} (h:P_House_init K A x0 x1 H Q) : sp_House_init K A [x0,x1] H Q E:=⟨_,_,rfl,h⟩
theorem sc_House_init:FnScope ["self","setup","kind","many","night","_"] ["self","setup"] (defScope s_House_init):=⟨rfl,rfl,rfl,by decide +kernel,rfl,by decide +kernel,by decide +kernel⟩
def t_House_init (K:PySem.W.Frag) (A:Ad) : TS:=
  (tSeq (sFld K (tVar 0) (tOp (rIxT K) (tVar 1) (tC (.int 2))) "sellers")
    (tSeq (sFld K (tVar 0) tDNewT "stock")
    (tSeq (tFor (iEnumT K (tCons (tOp (rIxT K) (tVar 1) (tC (.int 0))) tNil)) (gTup K 2 (gCons (gName 2) (gCons (gName 3) gNil))) (tFor (iRng1 (tCons (tOp (rIxT K) (tVar 1) (tC (.int 1))) tNil)) (gName 4) (sDPut (tFld K (tVar 0) "stock") (tTup (tCons (tVar 2) (tCons (tVar 4) tNil))) (tVar 3))))
    (tSeq (sFld K (tVar 0) (tLc (iRng1 (tCons (tOp (rIxT K) (tVar 1) (tC (.int 2))) tNil)) (gName 5) tYes (tLst tNil) [5]) "books")
    (tSeq (sFld K (tVar 0) (tLst tNil) "queue")
    (tSeq (sFld K (tVar 0) (tC .non) "round")
    (tSeq (sFld K (tVar 0) tDNewK "counts")
    (sFld K (tVar 0) (tLst tNil) "outgoing"))))))))
theorem pu_House_init (T:Txt K mg A) {x0 x1:V} {H:Hp} {Q:VK} (h:P_House_init K A x0 x1 H Q) : t_House_init K A { nx:=fun _ H'=>Q .non H',rt:=Q } [some x0,some x1,none,none,none,none] H:=by
  obtain ⟨p,dx,S,rfl,hp,dS,so,k⟩:=h
  obtain ⟨s,r,pp,prs,sa⟩:=SetAt.of dS
  cases sa.e
  have e0:=sa.t
  have er:=sa.r
  have hn:=so.n1
  have hn2:=so.n2
  have hs1:=so.s1
  have hs2:=so.s2
  have hk:=so.k1
  unfold t_House_init
  ((with_reducible refine g_seq (g_sfld ?_));walk_at "3";walk_at "0";(with_reducible refine' g_rflds (f:="sellers") (C:=Ad.House _) ?h203 (Txt.cl_House (by assumption)) (Txt.no_House_sellers (by assumption)) ?l203 ?e203 ?_);(case h203=>walk_at "fact");(case l203=>exact Nat.le_of_ble_eq_true rfl);(case e203=>exact rfl);intro _ _ _;(with_reducible refine g_seq (g_sfld ?_));(with_reducible refine g_dnew ?_);walk_at "new";walk_at "0";(with_reducible refine' g_rflds (f:="stock") (C:=Ad.House _) ?h206 (Txt.cl_House (by assumption)) (Txt.no_House_stock (by assumption)) ?l206 ?e206 ?_);(case h206=>walk_at "fact");(case l206=>exact Nat.le_of_ble_eq_true rfl);(case e206=>exact rfl);intro _ _ _;(with_reducible refine g_seq (g_for (g_iET (g_cons ?_))));walk_at "3";(with_reducible refine g_nil ?_);(with_reducible refine' g_renT ?h209 ?_);(case h209=>walk_at "sqt"))
  rename_i H1 f1 e1 st H2 n2 f2 e2 H3 f3 e3
  have nsp : st≠p:=(ne_of_none e1 n2).symm
  have e23:=f3.at e2 (nin1 nsp nin0)
  have F3:Fr [p] H H3:=(f1.then0 f2).transL f3
  have er3:=F3.tup _ _ er
  have e03:=F3.tup _ _ e0
  have nst:H st=none:=f1.freeL n2 (nin1 nsp nin0)
  refine f_enumT (xs:=S.rooms.map V.int) (fun i σ H'=>(∃ v2 v3 v4 v5,σ=[some (.ref p),some (.ref s),v2,v3,v4,v5])∧Fr [st] H3 H'∧H' st=some (.dT (cD (tabF (cellsK S.nights.toNat i) (rmC S))))) ⟨⟨_,_,_,_,rfl⟩,Fr.refl,e23⟩ (fun i σ H' _ ⟨_,f,_⟩=>SqT.of (f.tup _ _ er3)) ?_ ?_
  · rintro i x t σ H4 H5 hx ⟨⟨v2,v3,v4,v5,rfl⟩,f4,e4⟩ nt f5 e5
    obtain ⟨z,rfl,hz,_⟩:=getI hx
    have hi:=(List.getElem?_eq_some_iff.mp hz).1
    have e45:=f5.at0 e4
    have rz : rmC S ((i:Int),0)=z:=by unfold rmC;rw [List.getD_eq_getElem?_getD];show (S.rooms[((i:Nat) : Int).toNat]?).getD 0=z;rw [Int.toNat_natCast,hz];rfl
    have ep5:=f5.at0 (f4.at e3 (nin1 nsp.symm nin0))
    have e05:=f5.tup _ _ (f4.tup _ _ e03)
    ((with_reducible refine' g_gtup ?h210 ?l210 ?_);(case h210=>walk_at "sqt");(case l210=>exact rfl);(with_reducible refine g_gcons (g_name (g_gcons (g_name (g_gnil (g_for (g_i1 (g_cons ?_))))))));walk_at "3";(with_reducible refine g_nil ?_);walk_at "12")
    refine f_range (lo:=0) (n:=S.nights.toNat) (fun j σ H'=>(∃ v4 v5,σ=[some (.ref p),some (.ref s),some (.int (i:Nat)),some (.int z),v4,v5])∧Fr [st] H5 H'∧H' st=some (.dT (cD (tabF (cellsK S.nights.toNat i++rowC j i) (rmC S))))) ⟨⟨_,_,rfl⟩,Fr.refl,by rw [show rowC 0 i=[] from rfl,List.append_nil];exact e45⟩ ?_ ?_
    · rintro j σ H6 hj ⟨⟨v4,v5,rfl⟩,f6,e6⟩
      have ep6:=f6.at ep5 (nin1 nsp.symm nin0)
      have hl6:(cD (tabF (cellsK S.nights.toNat i++rowC j i) (rmC S))).length≤100000:=by
        rw [enD_len];unfold tabF;rw [List.length_map,List.length_append]
        have h1:(cellsK S.nights.toNat i).length≤3 * 12:=by
          have key:∀ (N k:Nat),(cellsK N k).length=k * N:=by
            intro N k
            induction k with
            | zero=>simp [cellsK]
            | succ k ih=>rw [cellsK_succ,List.length_append,ih];unfold rowC;rw [List.length_map,List.length_range,Nat.succ_mul]
          rw [key]
          exact Nat.mul_le_mul (by have:=so.k3;omega) (by omega)
        have h2:(rowC j i).length=j:=by unfold rowC;rw [List.length_map,List.length_range]
        omega
      ((with_reducible refine g_name (g_dput ?_));walk_at "0";walk_at "10";(with_reducible refine g_tup ?_);walk_at "1";walk_at "2";walk_at "5")
      rename_i q H7 n7 f7 e7
      rw [Int.zero_add] at e7
      have ep7:=f7.at0 ep6
      skip
      refine g_rdp (k:=ck ((i:Int),(j:Int))) (f7.at0 e6) e7 (szM (by omega)) fun H8 f8 e8=>?_
      skip
      refine ⟨⟨_,_,rfl⟩,(f6.then0 f7).transL f8,?_⟩
      rw [e8,← rz]
      have : rmC S ((i:Int),0)=rmC S ((i:Int),(j:Int)):=rfl
      rw [this,tab_put (rmC S) new_cell,List.append_assoc,← rowC_succ]
    · rintro σ H6 ⟨⟨v4,v5,rfl⟩,f6,e6⟩
      refine ⟨⟨_,_,_,_,rfl⟩,(f4.then0 f5).transL f6,?_⟩
      rw [e6,← cellsK_succ]
  · rintro σ H4 ⟨⟨v2,v3,v4,v5,rfl⟩,f4,e4⟩
    rw [List.length_map] at e4
    have ep4:=f4.at e3 (nin1 nsp.symm nin0)
    have e04:=f4.tup _ _ e03
    have al4:AL H4 [st,p]:=⟨List.nodup_cons.mpr ⟨nin1 nsp nin0,by simp⟩,fun a ha=>by
      rcases List.mem_cons.mp ha with q | q
      · rw [q];exact ⟨_,e4⟩
      · rw [List.mem_singleton.mp q];exact ⟨_,ep4⟩⟩
    have F4:Fr [p] H H4:=F3.own1 f4 nst
    have fr4:∀ a∈[st,p],a=p∨H a=none:=fun a ha=>by
      rcases List.mem_cons.mp ha with q | q
      · rw [q];exact .inr nst
      · exact .inl (List.mem_singleton.mp q)
    clear e1 e2 e23 e3 f1 f2 f3 F3 er3 e03 n2 f4
    ((with_reducible refine g_seq (g_sfld (g_lc (g_i1 (g_cons ?_)))));walk_at "3";(with_reducible refine g_nil ?_);walk_at "12")
    refine l_range (lo:=0) (n:=(S.sellers).toNat) fun Dl H5 nD f5 e5=>⟨fun i acc H'=>∃ bs:List Addr,acc=bs.map V.ref∧BksAt H' bs (List.replicate i [])∧Fr [] H4 H'∧AL H' (bs++[Dl,st,p])∧∀ b∈bs,H4 b=none,⟨[],rfl,.nil,f5,al4.new f5 nD e5,fun _ h=>(nomatch h)⟩,fun i acc H' hi ha ⟨bs,ea,hb,f,al,fr⟩=>?_,fun acc H' ha ⟨bs,ea,hb,f,al,fr⟩=>?_⟩
    · ((with_reducible refine g_name ?_))
      refine ⟨rfl,?_⟩
      ((with_reducible refine g_yes (g_iteT (g_lst (g_nil ?_))));(with_reducible refine' g_newL ?h219 ?_);(case h219=>exact Nat.le_of_ble_eq_true rfl);walk_at "new")
      rename_i q H6 n6 f6 e6
      have hal : acc.length≤100:=by rw [ea,List.length_map,Paired.length hb,List.length_replicate];omega
      refine lcY_of (f6.at0 ha) (szM (by omega)) fun H7 f7 e7=>⟨bs++[q],by rw [ea,List.map_append];rfl,?_,(f.then0 f6).own1 f7 nD,?_,fun b hb'=>?_⟩
      · have nq : q≠Dl:=(ne_of_none ha n6).symm
        have nDb:∀ b∈bs,b∉[Dl]:=fun b hb' z=>(List.nodup_append.mp al.1).2.2 b hb' Dl (by simp) (List.mem_singleton.mp z)
        rw [List.replicate_succ']
        exact Paired.snoc (BksAt.fr (BksAt.fr hb f6 fun b _=>nin0) f7 nDb) (LsAt.nil (f7.at e6 (nin1 nq nin0)))
      · have a1:=al.new f6 n6 e6
        have a2:AL H7 (q::(bs++[Dl,st,p])):=⟨a1.1,fun a ha'=>by
          by_cases z : a=Dl
          · rw [z];exact ⟨_,e7⟩
          · obtain ⟨o,eo⟩:=a1.2 a ha';exact ⟨o,f7.at eo (nin1 z nin0)⟩⟩
        refine a2.perm ?_
        rw [List.append_assoc]
        exact (List.perm_middle).symm
      · rcases List.mem_append.mp hb' with z | z
        · exact fr b z
        · rw [List.mem_singleton.mp z];exact f.free n6
    · have hp5:=f.at0 ep4
      (walk_at "0";(with_reducible refine' g_rflds (f:="books") (C:=Ad.House _) ?h220 (Txt.cl_House (by assumption)) (Txt.no_House_books (by assumption)) ?l220 ?e220 ?_);(case h220=>walk_at "fact");(case l220=>exact Nat.le_of_ble_eq_true rfl);(case e220=>exact rfl);intro _ _ _;(with_reducible refine g_seq (g_sfld (g_lst (g_nil ?_))));(with_reducible refine' g_newL ?h222 ?_);(case h222=>exact Nat.le_of_ble_eq_true rfl);walk_at "new";walk_at "0";(with_reducible refine' g_rflds (f:="queue") (C:=Ad.House _) ?h223 (Txt.cl_House (by assumption)) (Txt.no_House_queue (by assumption)) ?l223 ?e223 ?_);(case h223=>walk_at "fact");(case l223=>exact Nat.le_of_ble_eq_true rfl);(case e223=>exact rfl);intro _ _ _;(with_reducible refine g_seq (g_sfld (g_c ?_)));walk_at "0";(with_reducible refine' g_rflds (f:="round") (C:=Ad.House _) ?h225 (Txt.cl_House (by assumption)) (Txt.no_House_round (by assumption)) ?l225 ?e225 ?_);(case h225=>walk_at "fact");(case l225=>exact Nat.le_of_ble_eq_true rfl);(case e225=>exact rfl);intro _ _ _;(with_reducible refine g_seq (g_sfld ?_));(with_reducible refine g_dnewK ?_);walk_at "new";walk_at "0";(with_reducible refine' g_rflds (f:="counts") (C:=Ad.House _) ?h228 (Txt.cl_House (by assumption)) (Txt.no_House_counts (by assumption)) ?l228 ?e228 ?_);(case h228=>walk_at "fact");(case l228=>exact Nat.le_of_ble_eq_true rfl);(case e228=>exact rfl);intro _ _ _;(with_reducible refine g_sfld (g_lst (g_nil ?_)));(with_reducible refine' g_newL ?h230 ?_);(case h230=>exact Nat.le_of_ble_eq_true rfl);walk_at "new";walk_at "0";(with_reducible refine' g_rflds (f:="outgoing") (C:=Ad.House _) ?h231 (Txt.cl_House (by assumption)) (Txt.no_House_outgoing (by assumption)) ?l231 ?e231 ?_);(case h231=>walk_at "fact");(case l231=>exact Nat.le_of_ble_eq_true rfl);(case e231=>exact rfl);intro _ _ _)
      rename_i H6 f6 e6 qu H7 n7 f7 e7 H8 f8 e8 H9 f9 e9 ct H10 n10 f10 e10 H11 f11 e11 out H12 n12 f12 e12 H13 f13 e13
      have up:∀ {l:List Addr} {H1 H2:Hp} {e:HO},AL H1 l→Fr [p] H1 H2→H2 p=some e→AL H2 l:=fun s f e=>⟨s.1,fun a ha=>by
        by_cases z : a=p
        · rw [z];exact ⟨_,e⟩
        · obtain ⟨o,eo⟩:=s.2 a ha;exact ⟨o,f.at eo (nin1 z nin0)⟩⟩
      have a6:=up al f6 e6
      have a7:=a6.new f7 n7 e7
      have a9:=up (up a7 f8 e8) f9 e9
      have a10:=a9.new f10 n10 e10
      have a11:=up a10 f11 e11
      have a12:=a11.new f12 n12 e12
      have a13:=up a12 f13 e13
      have F:Fr [p] H' H13:=((((((f6.then0 f7).transL f8).transL f9).then0 f10).transL f11).then0 f12).transL f13
      have aos:AL H13 (HP.os ⟨p,st,Dl,qu,ct,out,bs⟩):=by
        refine a13.perm ?_
        show ([out,ct,qu]++(bs++[Dl,st,p])).Perm ([p,st,Dl,qu,ct,out]++bs)
        refine (List.Perm.append_left [out,ct,qu] (List.perm_append_comm (l₁:=bs) (l₂:=[Dl,st,p]))).trans ?_
        rw [← List.append_assoc]
        exact (List.reverse_perm [p,st,Dl,qu,ct,out]).append_right bs
      have nd:=HNd.of aos.1
      have qf:∀ {a:Addr},H4 a=none→a≠p→H a=none:=fun z np=>F4.freeL z (nin1 np nin0)
      have nqu:H' qu=none:=f6.freeL n7 (nin1 nd.p3.symm nin0)
      have nct:H' ct=none:=(((f6.then0 f7).transL f8).transL f9).freeL n10 (nin1 nd.p4.symm nin0)
      have nout:H' out=none:=(((((f6.then0 f7).transL f8).transL f9).then0 f10).transL f11).freeL n12 (nin1 nd.p5.symm nin0)
      rw [ea] at ha
      refine k ⟨p,st,Dl,qu,ct,out,bs⟩ H13 rfl ((F4.then0 f).transL F) (fun a ha'=>?_) ⟨⟨dx,.non,e13,?_⟩,aos⟩
      · have ha' : a=p∨a=st∨a=Dl∨a=qu∨a=ct∨a=out∨a∈bs:=by simpa [HP.os] using ha'
        rcases ha' with z | z | z | z | z | z | z
        · exact .inl z
        · rw [z];exact .inr nst
        · rw [z];exact .inr (qf nD nd.p2.symm)
        · rw [z];exact .inr (qf (f.free nqu) nd.p3.symm)
        · rw [z];exact .inr (qf (f.free nct) nd.p4.symm)
        · rw [z];exact .inr (qf (f.free nout) nd.p5.symm)
        · exact .inr (qf (fr a z) fun w=>nd.b0 (by rw [← w];exact z))
      · refine ⟨F.at (f.at0 e4) (nin1 nd.p1.symm nin0),F.at ha (nin1 nd.p2.symm nin0),BksAt.fr hb F (nin_bs nd.b0),?_,.non,?_,?_⟩
        · exact LsAt.nil (f13.at (f12.at0 (f11.at (f10.at0 (f9.at (f8.at e7 (nin1 nd.p3.symm nin0)) (nin1 nd.p3.symm nin0))) (nin1 nd.p3.symm nin0))) (nin1 nd.p3.symm nin0))
        · exact DkAt.nil (f13.at (f12.at0 (f11.at e10 (nin1 nd.p4.symm nin0))) (nin1 nd.p4.symm nin0))
        · exact LsAt.nil (f13.at e12 (nin1 nd.p5.symm nin0))
theorem ok_House_init {f:Addr} {fd:FuncData} (F:Fun K "__init__" "House.__init__" s_House_init f fd) (T:Txt K mg A)  : FnOk P w K mg base CX0 (1) f fd ["self","setup"] (sp_House_init K A):=by
  refine F.ok sc_House_init (fun vs H Q E h=>?_) (fun cdv Ar outer s H vs Q E hr h=>⟨t_House_init K A,?_,?_⟩)
  · obtain ⟨x0,x1,rfl,_⟩:=h
    rfl
  · have hu:=hu_of hr
    exact (pss_cons (ps_fld (pv 0) (pe_ix ix_tup (pv 1) pe_int (fun _ _=>rfl)) rfl)
    (pss_cons (ps_fld (pv 0) pe_dnewT rfl)
    (pss_cons (ps_for PassesOwn.never rfl (pi_enumT (by rfl) T.b_enumerate (pa_cons (pe_ix ix_tup (pv 1) pe_int (fun _ _=>rfl)) pa_nil)) (pg_tup rfl (pgs_cons (pg_name (i:=2) sc_House_init.nd rfl (Or.inl rfl)) (pgs_cons (pg_name (i:=3) sc_House_init.nd rfl (Or.inl rfl)) pgs_nil))) (pss_one (ps_for PassesOwn.never rfl (pi_range1 rfl T.b_range (pa_cons (pe_ix ix_tup (pv 1) pe_int (fun _ _=>rfl)) pa_nil)) (pg_name (i:=4) sc_House_init.nd rfl (Or.inl rfl)) (pss_one (ps_dput hu (pe_fld (pv 0) rfl) (pe_tup (pa_cons (pv 2) (pa_cons (pv 4) pa_nil))) (pv 3) rfl)))))
    (pss_cons (ps_fld (pv 0) (pe_lc (own:=[("_",5)]) (g:=(gName 5)) (tt:=tYes) rfl sc_House_init.nd (pi_range1 rfl T.b_range (pa_cons (pe_ix ix_tup (pv 1) pe_int (fun _ _=>rfl)) pa_nil)) (blkOk_by (N:=["self","setup","kind","many","night","_"]) (sc:=defScope s_House_init) (own:=[("_",5)]) (by decide +kernel)) (fun _ _ _ _ _=>(pg_name (i:=5) sc_House_init.nd rfl (Or.inl rfl))) (fun _ _ _ _ _=>pts_nil) (fun _ _ _ _ _=>(pe_lst pa_nil))) rfl)
    (pss_cons (ps_fld (pv 0) (pe_lst pa_nil) rfl)
    (pss_cons (ps_fld (pv 0) pe_non rfl)
    (pss_cons (ps_fld (pv 0) pe_dnewK rfl)
    (pss_one (ps_fld (pv 0) (pe_lst pa_nil) rfl)))))))))
  · obtain ⟨x0,x1,rfl,h⟩:=h
    exact pu_House_init T h
def P_House_bodies (K:PySem.W.Frag) (A:Ad) (x0:V) (H:Hp) (Q:VK) : Prop:=∃ (h:HP) (S:Setup) (M:HM),x0=.ref h.p∧HouseAt A H h S M∧
  ∀ (o:Addr) (H':Hp),H o=none→Fr [h.p] H H'→HouseAt A H' { h with out:=o } S { M with out:=[] }→LsAt H' h.out (M.out.map outD)→Q (.ref h.out) H'
def sp_House_bodies (K:PySem.W.Frag) (A:Ad) : Sp:=fun vs H Q _=>∃ x0,vs=[x0]∧P_House_bodies K A x0 H Q
theorem c_House_bodies {K:PySem.W.Frag} {A:Ad} {x0:V} {H:Hp} {Q:VK} {E:XK} (h:P_House_bodies K A x0 H Q) : sp_House_bodies K A [x0] H Q E:=⟨_,rfl,h⟩
theorem sc_House_bodies:FnScope ["self","found"] ["self"] (defScope s_House_bodies):=⟨rfl,rfl,rfl,by decide +kernel,rfl,by decide +kernel,by decide +kernel⟩
def t_House_bodies (K:PySem.W.Frag) (A:Ad) : TS:=
  (tSeq (tAsg (tFld K (tVar 0) "outgoing") (gName 1))
    (tSeq (sFld K (tVar 0) (tLst tNil) "outgoing")
    (tRet (tVar 1))))
theorem pu_House_bodies (T:Txt K mg A) {x0:V} {H:Hp} {Q:VK} (h:P_House_bodies K A x0 H Q) : t_House_bodies K A { nx:=fun _ H'=>Q .non H',rt:=Q } [some x0,none] H:=by
  obtain ⟨h,S,M,rfl,⟨⟨dx,rdv,e,c⟩,al⟩,k⟩:=h
  have nd:=HNd.of al.1
  unfold t_House_bodies
  ((with_reducible refine j_sa ?_);(with_reducible refine' j_fv (f:="outgoing") (C:=Ad.House _) ?k233 ?h233 (Txt.cl_House (by assumption)) (Txt.no_House_outgoing (by assumption)) ?l233 ?_);(case k233=>exact rfl);(case h233=>walk_at "fact");(case l233=>exact rfl);(with_reducible refine g_name (g_seq (g_sfld (g_lst (g_nil ?_)))));(with_reducible refine' g_newL ?h235 ?_);(case h235=>exact Nat.le_of_ble_eq_true rfl);walk_at "new";walk_at "0";(with_reducible refine' g_rflds (f:="outgoing") (C:=Ad.House _) ?h236 (Txt.cl_House (by assumption)) (Txt.no_House_outgoing (by assumption)) ?l236 ?e236 ?_);(case h236=>walk_at "fact");(case l236=>exact Nat.le_of_ble_eq_true rfl);(case e236=>exact rfl);intro _ _ _;(with_reducible refine g_ret ?_);walk_at "0")
  rename_i o H1 n1 f1 e1 H2 f2 e2
  have a1:=al.new f1 n1 e1
  have no : o∉h.os:=(List.nodup_cons.mp a1.1).1
  have np:∀ {a:Addr},a≠h.p→a∉[h.p]:=fun q=>nin1 q nin0
  have nop : o≠h.p:=fun z=>no (by rw [z];simp [HP.os])
  have F:Fr [h.p] H H2:=f2.pre0' f1
  refine k o H2 n1 F ⟨⟨dx,rdv,e2,?_⟩,?_⟩ (c.out.fr F (np nd.p5.symm))
  · exact ⟨F.at c.st (np nd.p1.symm),F.at c.bk (np nd.p2.symm),c.bs.fr F (nin_bs nd.b0),c.qu.fr F (np nd.p3.symm),Da.frL F c.rd (imm_round _),c.ct.fr F (np nd.p4.symm),LsAt.nil (f2.at e1 (np nop))⟩
  · have s2:AL H2 (o::h.os):=⟨a1.1,fun a ha=>by
      by_cases z : a=h.p
      · rw [z];exact ⟨_,e2⟩
      · obtain ⟨u,eu⟩:=a1.2 a ha;exact ⟨u,f2.at eu (np z)⟩⟩
    have p1:(o::h.os).Perm (h.out::(h.p::h.st::h.bk::h.qu::h.ct::o::h.bs)):=by
      unfold HP.os
      refine (List.perm_middle (l₁:=[o,h.p,h.st,h.bk,h.qu,h.ct]) (l₂:=h.bs) (a:=h.out)).trans ?_
      exact List.Perm.cons _ (List.perm_middle (l₁:=[h.p,h.st,h.bk,h.qu,h.ct]) (l₂:=h.bs) (a:=o)).symm
    have s3:=s2.perm p1
    exact ⟨(List.nodup_cons.mp s3.1).2,fun a ha=>s3.2 a (List.mem_cons_of_mem _ ha)⟩
theorem ok_House_bodies {f:Addr} {fd:FuncData} (F:Fun K "bodies" "House.bodies" s_House_bodies f fd) (T:Txt K mg A)  : FnOk P w K mg base CX0 (1) f fd ["self"] (sp_House_bodies K A):=by
  refine F.ok sc_House_bodies (fun vs H Q E h=>?_) (fun cdv Ar outer s H vs Q E hr h=>⟨t_House_bodies K A,?_,?_⟩)
  · obtain ⟨x0,rfl,_⟩:=h
    rfl
  · have hu:=hu_of hr
    exact (pss_cons (ps_set (i:=1) sc_House_bodies.nd rfl (Or.inl rfl) (pe_fld (pv 0) rfl))
    (pss_cons (ps_fld (pv 0) (pe_lst pa_nil) rfl)
    (pss_one (ps_ret (pv 1)))))
  · obtain ⟨x0,rfl,h⟩:=h
    exact pu_House_bodies T h
def P_House_cells (K:PySem.W.Frag) (A:Ad) (x0:V) (H:Hp) (Q:VK) : Prop:=∃ (h:HP) (S:Setup) (M:HM) (a:Ask),x0=.ref h.p∧HouseAt A H h S M∧M.rd=some a∧a.2.2.length≤1000∧
  ∀ (t:Addr) (xs:List V) (H':Hp),Fr [] H H'→H' t=some (.tup xs)→DaL H' xs ((lackC a).map cellD)→Q (.ref t) H'
def sp_House_cells (K:PySem.W.Frag) (A:Ad) : Sp:=fun vs H Q _=>∃ x0,vs=[x0]∧P_House_cells K A x0 H Q
theorem c_House_cells {K:PySem.W.Frag} {A:Ad} {x0:V} {H:Hp} {Q:VK} {E:XK} (h:P_House_cells K A x0 H Q) : sp_House_cells K A [x0] H Q E:=⟨_,rfl,h⟩
theorem sc_House_cells:FnScope ["self","cell","_"] ["self"] (defScope s_House_cells):=⟨rfl,rfl,rfl,by decide +kernel,rfl,by decide +kernel,by decide +kernel⟩
def t_House_cells (K:PySem.W.Frag) (A:Ad) : TS:=
  (tRet (tCB (rTupOf K) (tCons (tLc (iTup K (tOp (rIxT K) (tFld K (tVar 0) "round") (tC (.int 2)))) (gTup K 2 (gCons (gName 1) (gCons (gName 2) gNil))) tYes (tVar 1) [1,2]) tNil)))
theorem pu_House_cells (T:Txt K mg A) {x0:V} {H:Hp} {Q:VK} (h:P_House_cells K A x0 H Q) : t_House_cells K A { nx:=fun _ H'=>Q .non H',rt:=Q } [some x0,none,none] H:=by
  obtain ⟨h,S,M,a,rfl,⟨⟨dx,rdv,e,c⟩,al⟩,hr,hl,k⟩:=h
  have drd:=c.rd
  rw [hr] at drd
  obtain ⟨p,l,xs,rfl,ep,el,dxs⟩:=ask_at drd
  unfold t_House_cells
  ((with_reducible refine g_ret (g_cb (g_cons (g_lc (g_iT (g_op ?_))))));(with_reducible refine' j_fv (f:="round") (C:=Ad.House _) ?k239 ?h239 (Txt.cl_House (by assumption)) (Txt.no_House_round (by assumption)) ?l239 ?_);(case k239=>exact rfl);(case h239=>walk_at "fact");(case l239=>exact rfl);(with_reducible refine' j_cix ?k240 ?l240 ?_);(case k240=>walk_at "sqt");(case l240=>exact rfl);(with_reducible refine' g_riT ?h241 ?_);(case h241=>walk_at "sqt"))
  refine l_tup (xs:=xs) fun Dl H1 nD f1 e1=>⟨fun i acc H'=>DaL H' acc (((lackC a).take i).map cellD)∧Fr [] H H',⟨.nil,f1⟩,fun i acc H' q=>SqT.of (q.2.tup _ _ el),fun i x acc H' hx ha ⟨da,f⟩=>?_,fun acc H' ha ⟨da,f⟩=>?_⟩
  · obtain ⟨y,b,cc,hy,rfl,eb,ec⟩:=lack_get (DaL.frL f dxs (immL_map (fun _=>rfl) _)) hx
    have hy2:(lackC a)[i]? = some y.1:=by rw [List.getElem?_map,hy];rfl
    have hac : acc.length≤1000:=by rw [da.len,List.length_map,List.length_take,List.length_map];omega
    ((with_reducible refine' g_gtup ?h242 ?l242 ?_);(case h242=>walk_at "sqt");(case l242=>exact rfl);(with_reducible refine g_gcons (g_name (g_gcons (g_name (g_gnil ?_))))))
    refine ⟨rfl,?_⟩
    ((with_reducible refine g_yes (g_iteT ?_));walk_at "0")
    refine lcY_of ha (szM (by omega)) fun H2 f2 e2=>⟨?_,f.own1 f2 nD⟩
    rw [take_more hy2,List.map_append]
    exact (DaL.frL f2 da (immL_map imm_cell _)).append (.one' (.tup (f2.tup _ _ ec) (Nat.le_of_ble_eq_true rfl) (.cons (.int _) (.one' (.int _)))))
  · have hxl : xs.length=a.2.2.length:=by rw [dxs.len,List.length_map]
    have ht:(lackC a).take xs.length=lackC a:=List.take_of_length_le (by rw [List.length_map,hxl];exact Nat.le_refl _)
    rw [ht] at da
    ((with_reducible refine g_nil ?_);(with_reducible refine' g_tupL ?h246 ?_);(case h246=>walk_at "sql");walk_at "new")
    rename_i t H2 n2 f2 e2
    exact k t acc H2 (f.then0 f2) e2 (DaL.frL f2 da (immL_map imm_cell _))
theorem ok_House_cells {f:Addr} {fd:FuncData} (F:Fun K "cells" "House.cells" s_House_cells f fd) (T:Txt K mg A)  : FnOk P w K mg base CX0 (1) f fd ["self"] (sp_House_cells K A):=by
  refine F.ok sc_House_cells (fun vs H Q E h=>?_) (fun cdv Ar outer s H vs Q E hr h=>⟨t_House_cells K A,?_,?_⟩)
  · obtain ⟨x0,rfl,_⟩:=h
    rfl
  · have hu:=hu_of hr
    exact (pss_one (ps_ret (pe_callTy b_tuple (by rfl) T.b_tuple (by decide +kernel) (pa_cons (pe_lc (own:=[("cell",1),("_",2)]) (g:=(gTup K 2 (gCons (gName 1) (gCons (gName 2) gNil)))) (tt:=tYes) rfl sc_House_cells.nd (pi_tup (pe_ix ix_tup (pe_fld (pv 0) rfl) pe_int (fun _ _=>rfl))) (blkOk_by (N:=["self","cell","_"]) (sc:=defScope s_House_cells) (own:=[("cell",1),("_",2)]) (by decide +kernel)) (fun _ _ _ _ _=>(pg_tup rfl (pgs_cons (pg_name (i:=1) sc_House_cells.nd rfl (Or.inl rfl)) (pgs_cons (pg_name (i:=2) sc_House_cells.nd rfl (Or.inl rfl)) pgs_nil)))) (fun _ _ _ _ _=>pts_nil) (fun _ _ _ _ _=>(pv 1))) pa_nil))))
  · obtain ⟨x0,rfl,h⟩:=h
    exact pu_House_cells T h
theorem take_range {α:Type} (f:Nat→α) (n i:Nat) (hi : i < n) : ((List.range n).map f).take (i + 1)=((List.range n).map f).take i++[f i]:=by
  refine take_more ?_
  rw [List.getElem?_map,List.getElem?_range hi];rfl
theorem closeD {H:Hp} {c t s:Addr} {xs:List V} {i:Nat} {a:Ask} (et:H t=some (.tup xs)) (dt:DaL H xs ((lackC a).map cellD)) (es:H s=some (.tup [.str "close",.ref t])) (ec:H c=some (.tup [.int (i:Nat),.ref s])) (hl : a.2.2.length≤1000) : Da H (.ref c) (outD ((i:Int),DnB.close (lackC a))):=by
  refine .tup ec (Nat.le_of_ble_eq_true rfl) (.cons (.int _) (.one' (.tup es (Nat.le_of_ble_eq_true rfl) (.cons (.str _) (.one' (.tup et ?_ dt))))))
  rw [dt.len,List.length_map,List.length_map];omega
def P_House_look (K:PySem.W.Frag) (A:Ad) (x0:V) (H:Hp) (Q:VK) : Prop:=∃ (h:HP) (S:Setup) (M:HM),x0=.ref h.p∧HouseAt A H h S M∧SetupOk S∧M.Ok S∧M.out.length≤100000∧M.qu.length≤100000∧HRes A H h S (M.look S.sellers.toNat) fun H'=>Q .non H'
def sp_House_look (K:PySem.W.Frag) (A:Ad) : Sp:=fun vs H Q _=>∃ x0,vs=[x0]∧P_House_look K A x0 H Q
theorem c_House_look {K:PySem.W.Frag} {A:Ad} {x0:V} {H:Hp} {Q:VK} {E:XK} (h:P_House_look K A x0 H Q) : sp_House_look K A [x0] H Q E:=⟨_,rfl,h⟩
theorem sc_House_look:FnScope ["self","seller"] ["self"] (defScope s_House_look):=⟨rfl,rfl,rfl,by decide +kernel,rfl,by decide +kernel,by decide +kernel⟩
def t_House_look (K:PySem.W.Frag) (A:Ad) : TS:=
  (tIfS (tAnd (tTest (tOp rIsNon (tFld K (tVar 0) "round") (tC .non))) (tTr K (tFld K (tVar 0) "queue"))) (tSeq (sFld K (tVar 0) (tBM K "list" rPopAt (tFld K (tVar 0) "queue") (tCons (tC (.int 0)) tNil)) "round")
    (tSeq (sFld K (tVar 0) tDNewK "counts")
    (tFor (iRng1 (tCons (tFld K (tVar 0) "sellers") tNil)) (gName 1) (tDrop (tBM K "list" rAppend (tFld K (tVar 0) "outgoing") (tCons (tTup (tCons (tVar 1) (tCons (tTup (tCons (tC (.str "close")) (tCons (tMt A.House "cells" (sp_House_cells K A) (tVar 0) tNil) tNil))) tNil))) tNil)))))) tNext)
theorem pu_House_look (T:Txt K mg A) {x0:V} {H:Hp} {Q:VK} (h:P_House_look K A x0 H Q) : t_House_look K A { nx:=fun _ H'=>Q .non H',rt:=Q } [some x0,none] H:=by
  obtain ⟨h,S,M,rfl,⟨⟨dx,rdv,e,c⟩,al⟩,so,mo,hol,hql,k⟩:=h
  have nd:=HNd.of al.1
  have cq:=c.qu
  have hs1:=so.s1
  have hs2:=so.s2
  unfold t_House_look
  have e':H h.p=some (.ins A.House dx [("sellers",.int S.sellers),("stock",.ref h.st),("books",.ref h.bk),("queue",.ref h.qu),("round",rdv),("counts",.ref h.ct),("outgoing",.ref h.out)]):=e
  ((with_reducible refine g_ifs (g_and (g_test (g_op ?_))));(with_reducible refine' j_fv (f:="round") (C:=Ad.House _) ?k248 ?h248 (Txt.cl_House (by assumption)) (Txt.no_House_round (by assumption)) ?l248 ?_);(case k248=>exact rfl);(case h248=>walk_at "fact");(case l248=>exact rfl);(with_reducible refine g_c (g_isN (g_bl ?_))))
  have same:M.look S.sellers.toNat=M→Q .non H:=fun z=>k h H rfl Fr.refl (fun a ha=>.inl ha) (by rw [z];exact ⟨⟨dx,rdv,e,c⟩,al⟩)
  refine g_ite (fun hr=>?_) (fun hr=>?_)
  · have hrn:M.rd=none:=by
      cases q:M.rd with
      | none=>rfl
      | some a=>
        have:=c.rd
        rw [q,hr] at this
        cases this
    obtain ⟨iq,vs,eq,dq⟩:=id cq
    ((with_reducible refine g_ttr ?_);(with_reducible refine' j_fv (f:="queue") (C:=Ad.House _) ?k251 ?h251 (Txt.cl_House (by assumption)) (Txt.no_House_queue (by assumption)) ?l251 ?_);(case k251=>exact rfl);(case h251=>walk_at "fact");(case l251=>exact rfl))
    cases hq:M.qu with
    | nil=>
      rw [hq] at dq
      cases dq
      refine g_trN (SqL.of eq) ?_
      ((with_reducible refine g_iteF (g_next ?_)))
      exact same (by unfold HM.look;rw [hrn,hq])
    | cons a q=>
      have hlk:M.look S.sellers.toNat = { M with rd:=some a,qu:=q,ct:=[],out:=M.out++closeL S.sellers.toNat a }:=by unfold HM.look;rw [hrn,hq]
      rw [hq] at dq
      cases dq with
      | @cons v vs d ds dv dvs=>
      have hvl:(v::vs).length≤1000000:=by
        have:=dvs.len
        rw [List.length_map] at this
        rw [hq,List.length_cons] at hql
        rw [List.length_cons];omega
      refine g_trC (SqL.of eq) ?_
      ((with_reducible refine g_iteT (g_seq (g_sfld (g_bm ?_))));(with_reducible refine' j_fv (f:="queue") (C:=Ad.House _) ?k254 ?h254 (Txt.cl_House (by assumption)) (Txt.no_House_queue (by assumption)) ?l254 ?_);(case k254=>exact rfl);(case h254=>walk_at "fact");(case l254=>exact rfl);(with_reducible refine' g_bmL ?h255 ?_);(case h255=>walk_at "fact");(with_reducible refine j_cc1 ?_))
      refine g_popAt (i:=0) eq hvl (Int.le_refl _) rfl fun H1 f1 e1=>?_
      have ep1:=f1.at e' (nin1 nd.p3 nin0)
      (walk_at "0";(with_reducible refine' g_rflds (f:="round") (C:=Ad.House _) ?h257 (Txt.cl_House (by assumption)) (Txt.no_House_round (by assumption)) ?l257 ?e257 ?_);(case h257=>walk_at "fact");(case l257=>exact Nat.le_of_ble_eq_true rfl);(case e257=>exact rfl);intro _ _ _;(with_reducible refine g_seq (g_sfld ?_));(with_reducible refine g_dnewK ?_);walk_at "new";walk_at "0";(with_reducible refine' g_rflds (f:="counts") (C:=Ad.House _) ?h260 (Txt.cl_House (by assumption)) (Txt.no_House_counts (by assumption)) ?l260 ?e260 ?_);(case h260=>walk_at "fact");(case l260=>exact Nat.le_of_ble_eq_true rfl);(case e260=>exact rfl);intro _ _ _;(with_reducible refine g_for (g_i1 (g_cons ?_)));(with_reducible refine' j_fv (f:="sellers") (C:=Ad.House _) ?k262 ?h262 (Txt.cl_House (by assumption)) (Txt.no_House_sellers (by assumption)) ?l262 ?_);(case k262=>exact rfl);(case h262=>walk_at "fact");(case l262=>exact rfl);(with_reducible refine g_nil ?_);walk_at "12")
      rename_i H2 f2 e2 ct H3 n3 f3 e3 H4 f4 e4
      have nct:H ct=none:=by
        refine f1.freeL (f2.freeL n3 ?_) ?_
        · exact nin1 (ne_of_none e2 n3).symm nin0
        · exact nin1 (fun z=>by rw [z] at n3;rw [f2.at e1 (nin1 nd.p3.symm nin0)] at n3;cases n3) nin0
      have nc:∀ a∈h.os,a≠ct:=fun a ha z=>by obtain ⟨o,q⟩:=al.2 a ha;rw [z,nct] at q;cases q
      have ncp:=nc h.p (by simp [HP.os])
      have nco:=nc h.out (by simp [HP.os])
      have F4:Fr [h.qu,h.p] H H4:=((f1.mono (by simp)).transL ((f2.mono (by simp) : Fr [h.qu,h.p] H1 H2))).then0 f3 |>.transL (f4.mono (by simp))
      have dv4:=Da.frL F4 dv (imm_ask a)
      have c4:HCore H4 S { h with ct:=ct } v { M with rd:=some a,qu:=q,ct:=[] }:=by
        refine ⟨F4.at c.st (nin1 nd.n2 (nin1 nd.p1.symm nin0)),F4.at c.bk (nin1 nd.n5 (nin1 nd.p2.symm nin0)),c.bs.fr F4 (fun b hb=>nin1 (fun z=>nd.b3 (z ▸ hb)) (nin1 (fun z=>nd.b0 (z ▸ hb)) nin0)),?_,dv4,DkAt.nil (f4.at e3 (nin1 ncp.symm nin0)),c.out.fr F4 (nin1 nd.n9.symm (nin1 nd.p5.symm nin0))⟩
        have iqq : immL (q.map askD)=true:=immL_map imm_ask q
        exact ⟨iqq,vs,f4.at (f3.at0 (f2.at e1 (nin1 nd.p3.symm nin0))) (nin1 nd.p3.symm nin0),DaL.frL F4 dvs iqq⟩
      have al4:AL H4 (HP.os { h with ct:=ct }):=by
        have s1:AL H1 h.os:=⟨al.1,fun a ha=>by
          by_cases z : a=h.qu
          · rw [z];exact ⟨_,e1⟩
          · obtain ⟨o,q⟩:=al.2 a ha;exact ⟨o,f1.at q (nin1 z nin0)⟩⟩
        have s2:AL H2 h.os:=⟨al.1,fun a ha=>by
          by_cases z : a=h.p
          · rw [z];exact ⟨_,e2⟩
          · obtain ⟨o,q⟩:=s1.2 a ha;exact ⟨o,f2.at q (nin1 z nin0)⟩⟩
        have s3:=s2.new f3 n3 e3
        have s4:AL H4 (ct::h.os):=⟨s3.1,fun a ha=>by
          by_cases z : a=h.p
          · rw [z];exact ⟨_,e4⟩
          · obtain ⟨o,q⟩:=s3.2 a ha;exact ⟨o,f4.at q (nin1 z nin0)⟩⟩
        have p1:(ct::h.os).Perm (h.ct::(h.p::h.st::h.bk::h.qu::ct::h.out::h.bs)):=by
          unfold HP.os
          refine (List.perm_middle (l₁:=[ct,h.p,h.st,h.bk,h.qu]) (l₂:=h.out::h.bs) (a:=h.ct)).trans ?_
          exact List.Perm.cons _ (List.perm_middle (l₁:=[h.p,h.st,h.bk,h.qu]) (l₂:=h.out::h.bs) (a:=ct)).symm
        have s5:=s4.perm p1
        exact ⟨(List.nodup_cons.mp s5.1).2,fun a ha=>s5.2 a (List.mem_cons_of_mem _ ha)⟩
      have nd4:=HNd.of al4.1
      have e4':H4 h.p=some (.ins A.House dx (F_House S.sellers h.st h.bk h.qu v ct h.out)):=e4
      have hal : a.2.2.length≤36:=(mo.qk a (by rw [hq];exact List.mem_cons_self)).2
      have own4:∀ x∈HP.os { h with ct:=ct },x∈h.os∨H x=none:=fun x hx=>by
        have hx' : x=h.p∨x=h.st∨x=h.bk∨x=h.qu∨x=ct∨x=h.out∨x∈h.bs:=by simpa [HP.os] using hx
        rcases hx' with z | z | z | z | z | z | z
        · exact .inl (by rw [z];simp [HP.os])
        · exact .inl (by rw [z];simp [HP.os])
        · exact .inl (by rw [z];simp [HP.os])
        · exact .inl (by rw [z];simp [HP.os])
        · exact .inr (by rw [z];exact nct)
        · exact .inl (by rw [z];simp [HP.os])
        · exact .inl (by simp [HP.os,z])
      have F4':Fr h.os H H4:=F4.mono fun x hx=>by
        rcases List.mem_cons.mp hx with z | z
        · rw [z];simp [HP.os]
        · rw [List.mem_singleton.mp z];simp [HP.os]
      have hos : h.out∈h.os:=by simp [HP.os]
      clear F4 e1 e2 e3 e4 f1 f2 f3 f4 n3 ep1 dvs dv eq cq c e e'
      skip
      refine f_range (lo:=0) (n:=S.sellers.toNat) (fun i σ H'=>(∃ v1,σ=[some (.ref h.p),v1])∧Fr [h.out] H4 H'∧LsAt H' h.out ((M.out++(closeL S.sellers.toNat a).take i).map outD)) ⟨⟨_,rfl⟩,Fr.refl,by rw [List.take_zero,List.append_nil];exact c4.out⟩ ?_ ?_
      · rintro i σ H5 hi ⟨⟨v1,rfl⟩,f5,o5⟩
        obtain ⟨io,os,eo,dox⟩:=id o5
        have hosl : os.length≤200000:=by
          rw [dox.len,List.length_map,List.length_append,List.length_take]
          unfold closeL
          rw [List.length_map,List.length_range];omega
        have e5:=f5.at e4' (nin1 nd4.p5 nin0)
        have c5:HouseAt A H5 { h with ct:=ct } S { M with rd:=some a,qu:=q,ct:=[],out:=M.out++(closeL S.sellers.toNat a).take i }:=⟨⟨dx,v,e5,c4.wout nd4 f5 o5⟩,al4.1,fun x hx=>by
          by_cases z : x=h.out
          · rw [z];exact ⟨_,eo⟩
          · obtain ⟨o,q⟩:=al4.2 x hx;exact ⟨o,f5.at q (nin1 z nin0)⟩⟩
        ((with_reducible refine g_name (g_drop (g_bm ?_)));(with_reducible refine' j_fv (f:="outgoing") (C:=Ad.House _) ?k265 ?h265 (Txt.cl_House (by assumption)) (Txt.no_House_outgoing (by assumption)) ?l265 ?_);(case k265=>exact rfl);(case h265=>walk_at "fact");(case l265=>exact rfl);(with_reducible refine' g_bmL ?h266 ?_);(case h266=>walk_at "fact");(with_reducible refine g_cons (g_tup ?_));walk_at "1";(with_reducible refine g_cons (g_tup (j_cc (g_cons ?_))));walk_at "6";(with_reducible refine g_nil ?_))
        refine c_House_cells ⟨{ h with ct:=ct },S,{ M with rd:=some a,qu:=q,ct:=[],out:=M.out++(closeL S.sellers.toNat a).take i },a,rfl,c5,rfl,by omega,fun t ts H6 f6 et dt=>?_⟩
        have eo6:=f6.at0 eo
        ((with_reducible refine g_nil ?_);walk_at "5";(with_reducible refine g_nil ?_);walk_at "5";(with_reducible refine g_nil ?_);walk_at "8")
        rename_i s H7 n7 f7 e7 cc H8 n8 f8 e8 H9 f9 e9
        refine ⟨⟨_,rfl⟩,(((f5.then0 f6).then0 f7).then0 f8).transL f9,?_⟩
        have ic : imm (outD ((i:Int),DnB.close (lackC a)))=true:=imm_out _
        rw [show (closeL S.sellers.toNat a).take (i + 1)=(closeL S.sellers.toNat a).take i++[((i:Int),DnB.close (lackC a))] from take_range _ _ _ hi,← List.append_assoc,List.map_append]
        rw [Int.zero_add] at e8
        exact LsAt.snoc (DaL.frL f8 (DaL.frL f7 (DaL.frL f6 dox io) io) io) io (closeD (f8.tup _ _ (f7.tup _ _ et)) (DaL.frL f8 (DaL.frL f7 dt (immL_map imm_cell _)) (immL_map imm_cell _)) (f8.tup _ _ e7) e8 (by omega)) ic f9 e9
      · rintro σ H5 ⟨⟨v1,rfl⟩,f5,o5⟩
        have ht:(closeL S.sellers.toNat a).take S.sellers.toNat=closeL S.sellers.toNat a:=List.take_of_length_le (by unfold closeL;rw [List.length_map,List.length_range];exact Nat.le_refl _)
        rw [ht] at o5
        skip
        refine k { h with ct:=ct } H5 rfl (F4'.transL (f5.mono fun x hx=>by rw [List.mem_singleton.mp hx];exact hos)) own4 ?_
        rw [hlk]
        refine ⟨⟨dx,v,f5.at e4' (nin1 nd4.p5 nin0),c4.wout nd4 f5 o5⟩,al4.1,fun x hx=>?_⟩
        by_cases z : x=h.out
        · obtain ⟨_,os,eo,_⟩:=o5;rw [z];exact ⟨_,eo⟩
        · obtain ⟨o,q⟩:=al4.2 x hx;exact ⟨o,f5.at q (nin1 z nin0)⟩
  · ((with_reducible refine g_iteF (g_next ?_)))
    exact same (by
      unfold HM.look
      cases q:M.rd with
      | none=>exact absurd (by have:=c.rd;rw [q] at this;cases this;rfl) hr
      | some a=>rfl)
theorem ok_House_look {f:Addr} {fd:FuncData} (F:Fun K "look" "House.look" s_House_look f fd) (T:Txt K mg A) (c_House_cells:CalM P w K mg base A.House "cells" 1 ["self"] (sp_House_cells K A)) : FnOk P w K mg base CX0 (2) f fd ["self"] (sp_House_look K A):=by
  refine F.ok sc_House_look (fun vs H Q E h=>?_) (fun cdv Ar outer s H vs Q E hr h=>⟨t_House_look K A,?_,?_⟩)
  · obtain ⟨x0,rfl,_⟩:=h
    rfl
  · have hu:=hu_of hr
    exact (pss_one (ps_if (PW.pt (pw_and (pt_cmpR c_isN (pe_fld (pv 0) rfl) pe_non (nomark _)) (pw_and1 (pt_tr (pe_fld (pv 0) rfl) (by intro _;rfl))))) (pss_cons (ps_fld (pv 0) (pe_bm PySem.F.plainAttrs_list PySem.F.slot_list_pop PySem.F.type_list_pop mt_popAt (pe_fld (pv 0) rfl) (pa_cons pe_int pa_nil)) rfl)
    (pss_cons (ps_fld (pv 0) pe_dnewK rfl)
    (pss_one (ps_for PassesOwn.never rfl (pi_range1 rfl T.b_range (pa_cons (pe_fld (pv 0) rfl) pa_nil)) (pg_name (i:=1) sc_House_look.nd rfl (Or.inl rfl)) (pss_one (ps_expr (pe_bm PySem.F.plainAttrs_list PySem.F.slot_list_append PySem.F.type_list_append mt_append (pe_fld (pv 0) rfl) (pa_cons (pe_tup (pa_cons (pv 1) (pa_cons (pe_tup (pa_cons pe_str (pa_cons (pe_mt0 (pv 0) T.cl_House c_House_cells (hr.mono (by first | decide | omega))) pa_nil))) pa_nil))) pa_nil)))))))) pss_nil))
  · obtain ⟨x0,rfl,h⟩:=h
    exact pu_House_look T h
theorem HRes.pre {A:Ad} {H H5:Hp} {h:HP} {S:Setup} {M:HM} {Q:Hp→Prop} (k:HRes A H h S M Q) (F:Fr h.os H H5) : HRes A H5 h S M Q:=fun h' H' e f own at'=>
  k h' H' e (F.transL f) (fun a ha=>(own a ha).elim .inl fun z=>by
    by_cases q : a∈h.os
    · exact .inl q
    · exact .inr (F.freeL z q)) at'
theorem backZ_snoc:∀ (l:List (Cell×Int)) (f:Cell→Int) (e:Cell×Int),backZ f (l++[e])=((backZ f l).1++[minI e.2 ((backZ f l).2 e.1)],fset (backZ f l).2 e.1 ((backZ f l).2 e.1 - minI e.2 ((backZ f l).2 e.1)))
  | [],f,e=>rfl
  | x::l,f,e=>by
    show backZ f (x::(l++[e]))=_
    unfold backZ
    rw [backZ_snoc l]
    rfl
theorem backZ_len:∀ (l:List (Cell×Int)) (f:Cell→Int),(backZ f l).1.length=l.length
  | [],_=>rfl
  | x::l,f=>by unfold backZ;show _ + 1=_ + 1;rw [backZ_len l]
theorem grant_map (f:Cell→Int) (l:Lack) : ((l.map fun e=>decide (e.2≤f e.1)).all id)=grantZ f l:=by
  unfold grantZ
  rw [List.all_map];rfl
theorem openD {H:Hp} {c t s:Addr} {i:Nat} {b:List Int} {an:V} {ans:Option (Int×Bool)} (et:H t=some (.tup (b.map V.int))) (hb : b.length≤1000) (da:Da H an (ansD ans)) (es:H s=some (.tup [.str "open",.ref t,an])) (ec:H c=some (.tup [.int (i:Nat),.ref s])) : Da H (.ref c) (outD ((i:Int),DnB.opn b ans)):=
  .tup ec (Nat.le_of_ble_eq_true rfl) (.cons (.int _) (.one' (.tup es (Nat.le_of_ble_eq_true rfl) (.cons (.str _) (.cons (.tup et (by rw [List.length_map];omega) (.ofInts b)) (.one' da))))))
theorem opensZ_len (a:Ask) (g:Bool) (ct:List (Int×List Int)) (f:Cell→Int) : ∀ n,(opensZ a g ct f n).2.length=n
  | 0=>rfl
  | n + 1=>by
    simp only [opensZ,List.length_append,opensZ_len a g ct f n,List.length_cons,List.length_nil]
def P_House_decide (K:PySem.W.Frag) (A:Ad) (x0:V) (H:Hp) (Q:VK) : Prop:=∃ (h:HP) (S:Setup) (M:HM) (a:Ask),x0=.ref h.p∧HouseAt A H h S M∧SetupOk S∧M.Ok S∧M.rd=some a∧M.ct.length=S.sellers.toNat∧M.out.length≤50000∧M.qu.length≤50000∧HRes A H h S (M.decide S.sellers.toNat) fun H'=>Q .non H'
def sp_House_decide (K:PySem.W.Frag) (A:Ad) : Sp:=fun vs H Q _=>∃ x0,vs=[x0]∧P_House_decide K A x0 H Q
theorem c_House_decide {K:PySem.W.Frag} {A:Ad} {x0:V} {H:Hp} {Q:VK} {E:XK} (h:P_House_decide K A x0 H Q) : sp_House_decide K A [x0] H Q E:=⟨_,rfl,h⟩
theorem sc_House_decide:FnScope ["self","asker","number","lack","granted","cell","many","seller","back","answer"] ["self"] (defScope s_House_decide):=⟨rfl,rfl,rfl,by decide +kernel,rfl,by decide +kernel,by decide +kernel⟩
def t_House_decide (K:PySem.W.Frag) (A:Ad) : TS:=
  (tSeq (tAsg (tFld K (tVar 0) "round") (gTup K 3 (gCons (gName 1) (gCons (gName 2) (gCons (gName 3) gNil)))))
    (tSeq (tAsg (tCB (rAll K) (tCons (tLc (iTup K (tVar 3)) (gTup K 2 (gCons (gName 5) (gCons (gName 6) gNil))) tYes (tOp cGe (tDGet (tFld K (tVar 0) "stock") (tVar 5)) (tVar 6)) [5,6]) tNil)) (gName 4))
    (Evl.tCut (tIfS (tB (tVar 4)) (tFor (iTup K (tVar 3)) (gTup K 2 (gCons (gName 5) (gCons (gName 6) gNil))) (sDAug (tFld K (tVar 0) "stock") (tVar 5) (tVar 6) rSub)) tNext)
    (tSeq (tFor (iRng1 (tCons (tFld K (tVar 0) "sellers") tNil)) (gName 7) (tSeq (tAsg (tLst tNil) (gName 8))
    (tSeq (tFor (RZ.iZipA K (tCons (tMt A.House "cells" (sp_House_cells K A) (tVar 0) tNil) (tCons (tDGet (tFld K (tVar 0) "counts") (tVar 7)) tNil))) (gTup K 2 (gCons (gName 5) (gCons (gName 6) gNil))) (tSeq (tDrop (tBM K "list" rAppend (tVar 8) (tCons (tCB rMin2 (tCons (tVar 6) (tCons (tDGet (tFld K (tVar 0) "stock") (tVar 5)) tNil))) tNil)))
    (sDAug (tFld K (tVar 0) "stock") (tVar 5) (tOp (rIxL K) (tVar 8) (tUn rNeg (tC (.int 1)))) rSub)))
    (Evl.tCut (tAsg (tIf (tTest (tOp rEq (tVar 7) (tVar 1))) (tTup (tCons (tVar 2) (tCons (tVar 4) tNil))) (tC .non)) (gName 9))
    (tDrop (tBM K "list" rAppend (tFld K (tVar 0) "outgoing") (tCons (tTup (tCons (tVar 7) (tCons (tTup (tCons (tC (.str "open")) (tCons (tCB (rTupOf K) (tCons (tVar 8) tNil)) (tCons (tVar 9) tNil)))) tNil))) tNil)))))))
    (tSeq (sFld K (tVar 0) (tC .non) "round")
    (tDrop (tMt A.House "look" (sp_House_look K A) (tVar 0) tNil)))))))
theorem pu_House_decide (T:Txt K mg A) {x0:V} {H:Hp} {Q:VK} (h:P_House_decide K A x0 H Q) : t_House_decide K A { nx:=fun _ H'=>Q .non H',rt:=Q } [some x0,none,none,none,none,none,none,none,none,none] H:=by
  obtain ⟨h,S,M,a,rfl,⟨⟨dx,rdv,e,c⟩,al⟩,so,mo,hr,hct,hol,hql,k⟩:=h
  have nd:=HNd.of al.1
  have hs1:=so.s1
  have hs2:=so.s2
  have drd:=c.rd
  rw [hr] at drd
  obtain ⟨p0,l0,xs,rfl,ep0,el0,dxs⟩:=ask_at drd
  obtain ⟨hlk,hll⟩:=mo.rk a hr
  have il : immL (a.2.2.map fun e=>(PyData.tuple [cellD e.1,.int e.2]))=true:=immL_map (fun _=>rfl) _
  have hxl : xs.length=a.2.2.length:=by rw [dxs.len,List.length_map]
  have hcl:(lackC a).length=a.2.2.length:=by rw [List.length_map]
  have hdec:M.decide S.sellers.toNat=HM.look S.sellers.toNat { M with st:=(opensZ a (grantZ M.st a.2.2) M.ct (if grantZ M.st a.2.2=true then subZ M.st a.2.2 else M.st) S.sellers.toNat).1,out:=M.out++(opensZ a (grantZ M.st a.2.2) M.ct (if grantZ M.st a.2.2=true then subZ M.st a.2.2 else M.st) S.sellers.toNat).2,rd:=none }:=by
    unfold HM.decide;rw [hr]
  rw [hdec] at k
  unfold t_House_decide
  have e':H h.p=some (.ins A.House dx [("sellers",.int S.sellers),("stock",.ref h.st),("books",.ref h.bk),("queue",.ref h.qu),("round",.ref p0),("counts",.ref h.ct),("outgoing",.ref h.out)]):=e
  ((with_reducible refine j_sa ?_);(with_reducible refine' j_fv (f:="round") (C:=Ad.House _) ?k275 ?h275 (Txt.cl_House (by assumption)) (Txt.no_House_round (by assumption)) ?l275 ?_);(case k275=>exact rfl);(case h275=>walk_at "fact");(case l275=>exact rfl);(with_reducible refine' g_gtup ?h276 ?l276 ?_);(case h276=>walk_at "sqt");(case l276=>exact rfl);(with_reducible refine g_gcons (g_name (g_gcons (g_name (g_gcons (g_name (g_gnil (j_sa (g_cb (g_cons (g_lc (g_iT ?_))))))))))));walk_at "0";(with_reducible refine' g_riT ?h278 ?_);(case h278=>walk_at "sqt"))
  refine l_tup (xs:=xs) fun Dl H1 nD f1 e1=>⟨fun i acc H'=>acc=((a.2.2.take i).map fun e=>decide (e.2≤M.st e.1)).map V.bl∧Fr [] H H',⟨rfl,f1⟩,fun i acc H' q=>SqT.of (q.2.tup _ _ el0),fun i x acc H' hx ha ⟨da,f⟩=>?_,fun acc H' ha ⟨da,f⟩=>?_⟩
  · obtain ⟨y,b,cc,hy,rfl,eb,ec⟩:=lack_get (DaL.frL f dxs il) hx
    have hac : acc.length≤1000:=by rw [da,List.length_map,List.length_map,List.length_take];omega
    have hyk:=hlk y (List.mem_of_getElem? hy)
    have e1':=f.at0 e'
    ((with_reducible refine' g_gtup ?h279 ?l279 ?_);(case h279=>walk_at "sqt");(case l279=>exact rfl);(with_reducible refine g_gcons (g_name (g_gcons (g_name (g_gnil ?_))))))
    refine ⟨rfl,?_⟩
    ((with_reducible refine g_yes (g_iteT (g_op (g_dget ?_))));walk_at "10";walk_at "0")
    refine g_stG so hyk (f.at0 c.st) ec ?_
    (walk_at "0";(with_reducible refine g_ge ?_))
    refine lcY_of ha (szM (by omega)) fun H2 f2 e2=>⟨?_,f.own1 f2 nD⟩
    rw [take_more hy,List.map_append,List.map_append,da];rfl
  · have ht : a.2.2.take xs.length=a.2.2:=List.take_of_length_le (by rw [hxl];exact Nat.le_refl _)
    rw [ht] at da
    rw [da] at ha
    ((with_reducible refine g_nil ?_))
    refine g_all (SqL.of ha) ?_
    rw [grant_map]
    have e2':=f.at0 e'
    have el2:=f.tup _ _ el0
    have dxs2:=DaL.frL f dxs il
    have c2:=c.fr f fun _ _=>nin0
    have al2:=al.fr0 f
    have k2:=k.pre f.of0
    clear k e' el0 dxs c al e ep0 drd f1 e1 nD ha da f
    generalize hg : grantZ M.st a.2.2=g at *
    generalize hz:(if g=true then subZ M.st a.2.2 else M.st)=z0 at *
    ((with_reducible refine g_name ?_))
    refine g_cut (fun σ H3=>(∃ v5 v6,σ=[some (.ref h.p),some (.int a.1),some (.int a.2.1),some (.ref l0),some (.bl g),v5,v6,none,none,none])∧Fr [h.st] H' H3∧H3 h.st=some (.dT (cD (stT S z0)))) ?_ ?_
    · cases hgc : g with
      | false=>
        subst hgc
        ((with_reducible refine j_itb ?_);walk_at "0";(with_reducible refine g_bl (g_iteF (g_next ?_))))
        have : z0=M.st:=by rw [← hz];rfl
        exact ⟨⟨_,_,rfl⟩,Fr.refl,by rw [this];exact c2.st⟩
      | true=>
        subst hgc
        have hz' : z0=subZ M.st a.2.2:=by rw [← hz];rfl
        ((with_reducible refine j_itb ?_);walk_at "0";(with_reducible refine g_bl (g_iteT (g_for (g_iT ?_))));walk_at "0";(with_reducible refine' g_riT ?h289 ?_);(case h289=>walk_at "sqt"))
        refine f_tup (xs:=xs) (fun i σ H3=>(∃ v5 v6,σ=[some (.ref h.p),some (.int a.1),some (.int a.2.1),some (.ref l0),some (.bl true),v5,v6,none,none,none])∧Fr [h.st] H' H3∧H3 h.st=some (.dT (cD (stT S (subZ M.st (a.2.2.take i)))))) ⟨⟨_,_,rfl⟩,Fr.refl,c2.st⟩ (fun i σ H3 _ ⟨_,f,_⟩=>SqT.of (f.tup _ _ el2)) ?_ ?_
        · rintro i x σ H3 hx ⟨⟨v5,v6,rfl⟩,f3,s3⟩
          obtain ⟨y,b,cc,hy,rfl,eb,ec⟩:=lack_get (DaL.frL f3 dxs2 il) hx
          have hyk:=hlk y (List.mem_of_getElem? hy)
          have ep3:=f3.at e2' (nin1 nd.p1 nin0)
          ((with_reducible refine' g_gtup ?h290 ?l290 ?_);(case h290=>walk_at "sqt");(case l290=>exact rfl);(with_reducible refine g_gcons (g_name (g_gcons (g_name (g_gnil (g_daug ?_))))));walk_at "10";walk_at "0")
          refine g_stA so hyk s3 ec ?_
          (walk_at "0";(with_reducible refine g_rSub ?_))
          refine g_stP so hyk s3 ec fun H4 f4 e4=>?_
          refine ⟨⟨_,_,rfl⟩,f3.transL f4,?_⟩
          rw [e4,take_more hy,subZ_snoc]
        · rintro σ H3 ⟨⟨v5,v6,rfl⟩,f3,s3⟩
          have ht : a.2.2.take xs.length=a.2.2:=List.take_of_length_le (by rw [hxl];exact Nat.le_refl _)
          rw [ht,← hz'] at s3
          exact ⟨⟨_,_,rfl⟩,f3,s3⟩
    · rintro σ H3 ⟨⟨v5,v6,rfl⟩,f3,e3⟩
      have c3:HCore H3 S h (.ref p0) { M with st:=z0 }:=c2.wst nd f3 e3
      have al3:=al_put al2 f3 e3
      have ep3:=f3.at e2' (nin1 nd.p1 nin0)
      have k3:=k2.pre (f3.mono fun x hx=>by rw [List.mem_singleton.mp hx];simp [HP.os])
      clear k2 c2 al2 e2' f3 el2 dxs2
      ((with_reducible refine g_seq (g_for (g_i1 (g_cons ?_))));(with_reducible refine' j_fv (f:="sellers") (C:=Ad.House _) ?k294 ?h294 (Txt.cl_House (by assumption)) (Txt.no_House_sellers (by assumption)) ?l294 ?_);(case k294=>exact rfl);(case h294=>walk_at "fact");(case l294=>exact rfl);(with_reducible refine g_nil ?_);walk_at "12")
      refine f_range (lo:=0) (n:=S.sellers.toNat) (fun i σ H'=>(∃ v5 v6 v7 v8 v9,σ=[some (.ref h.p),some (.int a.1),some (.int a.2.1),some (.ref l0),some (.bl g),v5,v6,v7,v8,v9])∧Fr [h.st,h.out] H3 H'∧H' h.st=some (.dT (cD (stT S (opensZ a g M.ct z0 i).1)))∧LsAt H' h.out ((M.out++(opensZ a g M.ct z0 i).2).map outD))
        ⟨⟨_,_,_,_,_,rfl⟩,Fr.refl,e3,by show LsAt H3 h.out ((M.out++[]).map outD);rw [List.append_nil];exact c3.out⟩ ?_ ?_
      · rintro i σ H4 hi ⟨⟨v5,v6,v7,v8,v9,rfl⟩,f4,s4,o4⟩
        obtain ⟨cs,hcs⟩:=full_mem M.ct mo.cn (fun e he=>by have:=mo.ck e he;omega) hct i hi
        have hcsl : cs.length=a.2.2.length:=mo.cl a hr ((i:Int),cs) (lk_some hcs)
        generalize hZ : opensZ a g M.ct z0 i=Z at *
        have hZl:Z.2.length=i:=by rw [← hZ];exact opensZ_len a g M.ct z0 i
        have ep4:=f4.at ep3 (nin1 nd.p1 (nin1 nd.p5 nin0))
        have n2:∀ {x:Addr},x≠h.st→x≠h.out→x∉[h.st,h.out]:=fun q r=>nin1 q (nin1 r nin0)
        have c4:HCore H4 S h (.ref p0) { M with st:=Z.1,out:=M.out++Z.2 }:=⟨s4,f4.at c3.bk (n2 nd.n1.symm nd.n7),c3.bs.fr f4 (fun b hb=>n2 (fun z=>nd.b1 (z ▸ hb)) (fun z=>nd.b5 (z ▸ hb))),c3.qu.fr f4 (n2 nd.n2.symm nd.n9),Da.frL f4 c3.rd (imm_round _),c3.ct.fr f4 (n2 nd.n3.symm nd.n10),o4⟩
        have al4:AL H4 h.os:=⟨al3.1,fun x hx=>by
          by_cases z : x=h.st
          · rw [z];exact ⟨_,s4⟩
          · by_cases z2 : x=h.out
            · obtain ⟨_,os,eo,_⟩:=o4;rw [z2];exact ⟨_,eo⟩
            · obtain ⟨u,q⟩:=al3.2 x hx;exact ⟨u,f4.at q (n2 z z2)⟩⟩
        have e4':H4 h.p=some (.ins A.House dx (F_House S.sellers h.st h.bk h.qu (.ref p0) h.ct h.out)):=ep4
        ((with_reducible refine g_name (j_sa (g_lst (g_nil ?_))));(with_reducible refine' g_newL ?h297 ?_);(case h297=>exact Nat.le_of_ble_eq_true rfl);walk_at "new";(with_reducible refine g_name (g_seq (g_for (g_iZA (g_cons ?_)))));walk_at "6";(with_reducible refine g_nil ?_))
        rename_i bl H5 n5 f5 e5
        have al5:=(al4.new f5 n5 e5)
        have nbl : bl∉h.os:=(List.nodup_cons.mp al5.1).1
        have nbs : bl≠h.st:=fun z=>nbl (by rw [z];simp [HP.os])
        have nbo : bl≠h.out:=fun z=>nbl (by rw [z];simp [HP.os])
        have nbp : bl≠h.p:=fun z=>nbl (by rw [z];simp [HP.os])
        have nbc : bl≠h.ct:=fun z=>nbl (by rw [z];simp [HP.os])
        refine c_House_cells ⟨h,S,{ M with st:=Z.1,out:=M.out++Z.2 },a,rfl,⟨⟨dx,.ref p0,f5.at0 e4',c4.fr f5 fun _ _=>nin0⟩,al4.fr0 f5⟩,hr,by omega,fun t ts H6 f6 et dt=>?_⟩
        have ep6:=f6.at0 (f5.at0 ep4)
        have eb6:=f6.at0 e5
        have htl : ts.length=a.2.2.length:=by rw [dt.len,List.length_map,hcl]
        obtain ⟨kvs,ek,rk⟩:=c4.ct.fr (f5.then0 f6) (fun q=>nomatch q)
        obtain ⟨cv,hcv,dcv,_⟩:=(rk.val (i:Int)).2 (rowD cs) (lk_mem (e:=((i:Int),rowD cs)) (by
          show ((M.ct.map fun e=>(e.1,rowD e.2)).map fun e=>e.1).Nodup
          rw [List.map_map]
          exact mo.cn) (List.mem_map.mpr ⟨((i:Int),cs),lk_some hcs,rfl⟩))
        obtain ⟨cp,rfl,ecp⟩:=ints_at dcv
        ((with_reducible refine g_cons (g_dget ?_));(with_reducible refine' j_fv (f:="counts") (C:=Ad.House _) ?k301 ?h301 (Txt.cl_House (by assumption)) (Txt.no_House_counts (by assumption)) ?l301 ?_);(case k301=>exact rfl);(case h301=>walk_at "fact");(case l301=>exact rfl);walk_at "0")
        rw [Int.zero_add]
        refine g_rdgI (.inl ek) hcv ?_
        ((with_reducible refine g_nil ?_);(with_reducible refine' g_rzaT ?h303 ?k303 ?_);(case h303=>walk_at "sqt");(case k303=>walk_at "sqt"))
        have s6:=f6.at0 (f5.at0 s4)
        refine f_zipT (xs:=ts) (ys:=cs.map V.int) (by rw [List.length_map,htl,hcsl]) (fun j σ H'=>(∃ v5 v6,σ=[some (.ref h.p),some (.int a.1),some (.int a.2.1),some (.ref l0),some (.bl g),v5,v6,some (.int (i:Nat)),some (.ref bl),v9])∧Fr [h.st,bl] H6 H'∧H' h.st=some (.dT (cD (stT S (backZ Z.1 (((lackC a).zip cs).take j)).2)))∧H' bl=some (.lst ((backZ Z.1 (((lackC a).zip cs).take j)).1.map V.int)))
          ⟨⟨_,_,rfl⟩,Fr.refl,s6,eb6⟩ (fun j σ H' ⟨_,f,_,_⟩=>⟨SqT.of (f.tup _ _ et),SqT.of (f.tup _ _ ecp)⟩) ?_ ?_
        · rintro j x y T σ H7 H8 hx hy ⟨⟨v5,v6,rfl⟩,f7,s7,b7⟩ nT f8 e8
          obtain ⟨w,ca,hw,rfl,eca⟩:=cells_get (DaL.frL f8 (DaL.frL f7 dt (immL_map imm_cell _)) (immL_map imm_cell _)) hx
          obtain ⟨m,rfl,hm,_⟩:=getI hy
          have hwk:CellOk S w:=by
            obtain ⟨e,he,z⟩:=List.mem_map.mp (List.mem_of_getElem? hw)
            rw [← z];exact hlk e he
          have hzip:=zip_get hw hm
          have hj : j < cs.length:=(List.getElem?_eq_some_iff.mp hm).1
          have ep8:=f8.at0 (f7.at ep6 (nin1 nd.p1 (nin1 nbp.symm nin0)))
          have s8:=f8.at0 s7
          have b8:=f8.at0 b7
          rw [take_more hzip,backZ_snoc]
          have hbz:(backZ Z.1 (((lackC a).zip cs).take j)).1.length≤100:=by
            rw [backZ_len,List.length_take];omega
          generalize hB : backZ Z.1 (((lackC a).zip cs).take j)=B at *
          ((with_reducible refine' g_gtup ?h304 ?l304 ?_);(case h304=>walk_at "sqt");(case l304=>exact rfl);(with_reducible refine g_gcons (g_name (g_gcons (g_name (g_gnil (j_sd (g_bm ?_)))))));walk_at "0";(with_reducible refine' g_bmL ?h306 ?_);(case h306=>walk_at "fact");(with_reducible refine g_cons (g_cb ?_));walk_at "1";(with_reducible refine g_cons (g_dget ?_));walk_at "10";walk_at "0")
          refine g_stG so hwk s8 eca ?_
          ((with_reducible refine g_nil (g_min2 (g_nil ?_)));walk_at "8";(with_reducible refine g_daug ?_);walk_at "10";walk_at "0")
          rename_i H9 f9 e9
          have hmin:(if B.2 w < m then B.2 w else m)=minI m (B.2 w):=rfl
          rw [hmin] at e9
          have s9:=f9.at s8 (nin1 nbs.symm nin0)
          have ep9:=f9.at ep8 (nin1 nbp.symm nin0)
          have eca9:=f9.tup _ _ eca
          skip
          refine g_stA so hwk s9 eca9 ?_
          refine g_op (g_var rfl (g_un (g_c (g_neg ?_))))
          refine g_ixL (SqL.of e9) (v:=.int (minI m (B.2 w))) (atI_last _ _) ?_
          ((with_reducible refine g_rSub ?_))
          refine g_stP so hwk s9 eca9 fun H10 f10 e10=>?_
          refine ⟨⟨_,_,rfl⟩,?_,e10,?_⟩
          · exact ((f7.then0 f8).transL (f9.mono fun x hx=>by rw [List.mem_singleton.mp hx];simp)).transL (f10.mono fun x hx=>by rw [List.mem_singleton.mp hx];simp)
          · rw [f10.at e9 (nin1 nbs nin0),List.map_append];rfl
        · rintro σ H7 ⟨⟨v5,v6,rfl⟩,f7,s7,b7⟩
          have hfull:((lackC a).zip cs).take ts.length=(lackC a).zip cs:=List.take_of_length_le (by rw [List.length_zip,hcl,htl,hcsl];omega)
          rw [hfull] at s7 b7
          have hbz:(backZ Z.1 ((lackC a).zip cs)).1.length≤100:=by rw [backZ_len,List.length_zip,hcl];omega
          have hstep : opensZ a g M.ct z0 (i + 1)=((backZ Z.1 ((lackC a).zip cs)).2,Z.2++[((i:Int),DnB.opn (backZ Z.1 ((lackC a).zip cs)).1 (if (i:Int)=a.1 then some (a.2.1,g) else none))]):=by
            show (let z:=opensZ a g M.ct z0 i;let b:=backZ z.1 ((lackC a).zip ((lk M.ct (i:Int)).getD []));(b.2,z.2++[((i:Int),DnB.opn b.1 (if (i:Int)=a.1 then some (a.2.1,g) else none))]))=_
            rw [hZ,hcs];rfl
          rw [hstep]
          generalize backZ Z.1 ((lackC a).zip cs)=B at *
          have ep7:=f7.at ep6 (nin1 nd.p1 (nin1 nbp.symm nin0))
          have o7:LsAt H7 h.out ((M.out++Z.2).map outD):=(o4.fr (f5.then0 f6) (fun q=>nomatch q)).fr f7 (nin1 nd.n4.symm (nin1 nbo.symm nin0))
          obtain ⟨io,os,eo,dox⟩:=id o7
          have hosl : os.length≤60000:=by
            rw [dox.len,List.length_map,List.length_append];omega
          have F7:Fr [h.st,h.out] H3 H7:=(f4.then0 (f5.then0 f6)).own f7 fun x hx=>by
            rcases List.mem_cons.mp hx with q | q
            · exact .inl (by rw [q];simp)
            · rw [List.mem_singleton.mp q];exact .inr (f4.freeL n5 (n2 nbs nbo))
          refine g_cut (fun σ H8=>∃ an ans,σ=[some (.ref h.p),some (.int a.1),some (.int a.2.1),some (.ref l0),some (.bl g),v5,v6,some (.int (i:Nat)),some (.ref bl),some an]∧Fr [] H7 H8∧Da H8 an (ansD ans)∧(if (i:Int)=a.1 then some (a.2.1,g) else none)=ans) ?_ ?_
          · ((with_reducible refine g_asg (g_ifE (g_test ?_)));(with_reducible refine' j_ovv ?h313 ?k313 ?_);(case h313=>exact rfl);(case k313=>exact rfl);(with_reducible refine g_eqI (g_bl ?_)))
            refine g_ite (fun q=>?_) (fun q=>?_)
            · ((with_reducible refine g_tup ?_);walk_at "1";walk_at "2";walk_at "5";(with_reducible refine g_name ?_))
              rename_i an H8 n8 f8 e8
              exact ⟨.ref an,some (a.2.1,g),rfl,f8,.tup e8 (Nat.le_of_ble_eq_true rfl) (.cons (.int _) (.one' (.bl _))),if_pos q⟩
            · ((with_reducible refine g_c (g_name ?_)))
              exact ⟨.non,none,rfl,Fr.refl,.non,if_neg q⟩
          · rintro σ H8 ⟨an,ans,rfl,f8,dan,hans⟩
            have ep8:=f8.at0 ep7
            have b8:=f8.at0 b7
            have eo8:=f8.at0 eo
            ((with_reducible refine g_drop (g_bm ?_));(with_reducible refine' j_fv (f:="outgoing") (C:=Ad.House _) ?k319 ?h319 (Txt.cl_House (by assumption)) (Txt.no_House_outgoing (by assumption)) ?l319 ?_);(case k319=>exact rfl);(case h319=>walk_at "fact");(case l319=>exact rfl);(with_reducible refine' g_bmL ?h320 ?_);(case h320=>walk_at "fact");(with_reducible refine g_cons (g_tup ?_));walk_at "1";(with_reducible refine g_cons (g_tup (j_cc (g_cons (g_cb ?_)))));walk_at "2";(with_reducible refine' g_tupL ?h323 ?_);(case h323=>walk_at "sql");walk_at "new";walk_at "2";walk_at "5";(with_reducible refine g_nil ?_);walk_at "5";(with_reducible refine g_nil ?_);walk_at "8")
            rename_i tb H9 n9 f9 e9 s H10 n10 f10 e10 cc H11 n11 f11 e11 H12 f12 e12
            have F11:Fr [] H7 H11:=((f8.then0 f9).then0 f10).then0 f11
            refine ⟨⟨_,_,_,_,_,rfl⟩,(F7.then0 F11).transL (f12.mono fun x hx=>by rw [List.mem_singleton.mp hx];simp),f12.at (F11.at0 s7) (nin1 nd.n4 nin0),?_⟩
            rw [← List.append_assoc,List.map_append,hans]
            have ic : imm (outD ((i:Int),DnB.opn B.1 ans))=true:=imm_out _
            exact LsAt.snoc (DaL.frL F11 dox io) io (openD (f11.tup _ _ (f10.tup _ _ e9)) (by omega) (Da.frL ((f9.then0 f10).then0 f11) dan (imm_ans _)) (f11.tup _ _ e10) e11) ic f12 e12
      · rintro σ H4 ⟨⟨v5,v6,v7,v8,v9,rfl⟩,f4,s4,o4⟩
        have n2:∀ {x:Addr},x≠h.st→x≠h.out→x∉[h.st,h.out]:=fun q r=>nin1 q (nin1 r nin0)
        have hZl:(opensZ a g M.ct z0 S.sellers.toNat).2.length=S.sellers.toNat:=opensZ_len a g M.ct z0 _
        generalize hZ : opensZ a g M.ct z0 S.sellers.toNat=Z at *
        have ep4:=f4.at ep3 (nin1 nd.p1 (nin1 nd.p5 nin0))
        ((with_reducible refine g_seq (g_sfld (g_c ?_)));walk_at "0";(with_reducible refine' g_rflds (f:="round") (C:=Ad.House _) ?h327 (Txt.cl_House (by assumption)) (Txt.no_House_round (by assumption)) ?l327 ?e327 ?_);(case h327=>walk_at "fact");(case l327=>exact Nat.le_of_ble_eq_true rfl);(case e327=>exact rfl);intro _ _ _;(with_reducible refine g_drop ?_);walk_at "6";(with_reducible refine g_nil ?_))
        rename_i H5 f5 e5
        have e5':H5 h.p=some (.ins A.House dx (F_House S.sellers h.st h.bk h.qu .non h.ct h.out)):=e5
        have np:∀ {x:Addr},x≠h.p→x∉[h.p]:=fun q=>nin1 q nin0
        have c5:HCore H5 S h .non { M with st:=Z.1,out:=M.out++Z.2,rd:=none }:=by
          refine ⟨f5.at s4 (np nd.p1.symm),f5.at (f4.at c3.bk (n2 nd.n1.symm nd.n7)) (np nd.p2.symm),BksAt.fr (BksAt.fr c3.bs f4 (fun b hb=>n2 (fun z=>nd.b1 (z ▸ hb)) (fun z=>nd.b5 (z ▸ hb)))) f5 (nin_bs nd.b0),(c3.qu.fr f4 (n2 nd.n2.symm nd.n9)).fr f5 (np nd.p3.symm),.non,(c3.ct.fr f4 (n2 nd.n3.symm nd.n10)).fr f5 (np nd.p4.symm),o4.fr f5 (np nd.p5.symm)⟩
        have F5:Fr h.os H3 H5:=(f4.mono fun x hx=>by
          rcases List.mem_cons.mp hx with q | q
          · rw [q];simp [HP.os]
          · rw [List.mem_singleton.mp q];simp [HP.os]).transL (f5.mono fun x hx=>by rw [List.mem_singleton.mp hx];simp [HP.os])
        have al5:AL H5 h.os:=⟨al3.1,fun x hx=>by
          by_cases z : x=h.st
          · rw [z];exact ⟨_,c5.st⟩
          · by_cases z2 : x=h.out
            · obtain ⟨_,os,eo,_⟩:=c5.out;rw [z2];exact ⟨_,eo⟩
            · by_cases z3 : x=h.p
              · rw [z3];exact ⟨_,e5⟩
              · obtain ⟨u,q⟩:=al3.2 x hx;exact ⟨u,f5.at (f4.at q (n2 z z2)) (np z3)⟩⟩
        skip
        refine c_House_look ⟨h,S,{ M with st:=Z.1,out:=M.out++Z.2,rd:=none },rfl,⟨⟨dx,.non,e5',c5⟩,al5⟩,so,⟨mo.qk,fun x hx=>(by cases hx),fun x hx=>(by cases hx),mo.ck,mo.cn,mo.bl⟩,?_,by show M.qu.length≤_;omega,?_⟩
        · show (M.out++Z.2).length≤_
          rw [List.length_append];omega
        · intro h' H' hp f own at'
          exact k3.pre F5 h' H' hp f own at'
theorem ok_House_decide {f:Addr} {fd:FuncData} (F:Fun K "decide" "House.decide" s_House_decide f fd) (T:Txt K mg A) (c_House_look:CalM P w K mg base A.House "look" 2 ["self"] (sp_House_look K A)) (c_House_cells:CalM P w K mg base A.House "cells" 1 ["self"] (sp_House_cells K A)) : FnOk P w K mg base CX0 (3) f fd ["self"] (sp_House_decide K A):=by
  refine F.ok sc_House_decide (fun vs H Q E h=>?_) (fun cdv Ar outer s H vs Q E hr h=>⟨t_House_decide K A,?_,?_⟩)
  · obtain ⟨x0,rfl,_⟩:=h
    rfl
  · have hu:=hu_of hr
    exact (pss_cons (ps_asg (pe_fld (pv 0) rfl) (pg_tup rfl (pgs_cons (pg_name (i:=1) sc_House_decide.nd rfl (Or.inl rfl)) (pgs_cons (pg_name (i:=2) sc_House_decide.nd rfl (Or.inl rfl)) (pgs_cons (pg_name (i:=3) sc_House_decide.nd rfl (Or.inl rfl)) pgs_nil)))))
    (pss_cons (ps_set (i:=4) sc_House_decide.nd rfl (Or.inl rfl) (pe_callB (cr_all rfl) (by rfl) T.b_all (by decide +kernel) (pa_cons (pe_lc (own:=[("cell",5),("many",6)]) (g:=(gTup K 2 (gCons (gName 5) (gCons (gName 6) gNil)))) (tt:=tYes) rfl sc_House_decide.nd (pi_tup (pv 3)) (blkOk_by (N:=["self","asker","number","lack","granted","cell","many","seller","back","answer"]) (sc:=defScope s_House_decide) (own:=[("cell",5),("many",6)]) (by decide +kernel)) (fun _ _ _ _ _=>(pg_tup rfl (pgs_cons (pg_name (i:=5) sc_House_decide.nd rfl (Or.inl rfl)) (pgs_cons (pg_name (i:=6) sc_House_decide.nd rfl (Or.inl rfl)) pgs_nil)))) (fun _ _ _ _ _=>pts_nil) (fun _ _ _ _ _=>(pe_cmpR c_ge (pe_dget hu (pe_fld (pv 0) rfl) (pv 5) (fun _ _=>rfl)) (pv 6) (nomark _)))) pa_nil)))
    (Evl.pss_cut (ps_if (pt_val (pv 4)) (pss_one (ps_for PassesOwn.never rfl (pi_tup (pv 3)) (pg_tup rfl (pgs_cons (pg_name (i:=5) sc_House_decide.nd rfl (Or.inl rfl)) (pgs_cons (pg_name (i:=6) sc_House_decide.nd rfl (Or.inl rfl)) pgs_nil))) (pss_one (ps_daug hu (pe_fld (pv 0) rfl) (pv 5) (pv 6) in_sub (fun _ _ _=>rfl))))) pss_nil)
    (pss_cons (ps_for PassesOwn.never rfl (pi_range1 rfl T.b_range (pa_cons (pe_fld (pv 0) rfl) pa_nil)) (pg_name (i:=7) sc_House_decide.nd rfl (Or.inl rfl)) (pss_cons (ps_set (i:=8) sc_House_decide.nd rfl (Or.inl rfl) (pe_lst pa_nil))
    (pss_cons (ps_for PassesOwn.never rfl (RZ.pi_zipA (by rfl) T.b_zip (pa_cons (pe_mt0 (pv 0) T.cl_House c_House_cells (hr.mono (by first | decide | omega))) (pa_cons (pe_dget hu (pe_fld (pv 0) rfl) (pv 7) (fun _ _=>rfl)) pa_nil))) (pg_tup rfl (pgs_cons (pg_name (i:=5) sc_House_decide.nd rfl (Or.inl rfl)) (pgs_cons (pg_name (i:=6) sc_House_decide.nd rfl (Or.inl rfl)) pgs_nil))) (pss_cons (ps_expr (pe_bm PySem.F.plainAttrs_list PySem.F.slot_list_append PySem.F.type_list_append mt_append (pv 8) (pa_cons (pe_callB (b_min2 rfl) (by rfl) T.b_min (by decide +kernel) (pa_cons (pv 6) (pa_cons (pe_dget hu (pe_fld (pv 0) rfl) (pv 5) (fun _ _=>rfl)) pa_nil))) pa_nil)))
    (pss_one (ps_daug hu (pe_fld (pv 0) rfl) (pv 5) (pe_ix ix_list (pv 8) (pe_un un_neg pe_int) (fun _ _=>rfl)) in_sub (fun _ _ _=>rfl)))))
    (Evl.pss_cut (ps_set (i:=9) sc_House_decide.nd rfl (Or.inl rfl) (pe_ifExp (pt_cmpR op_eq (pv 7) (pv 1) (nomark _)) (pe_tup (pa_cons (pv 2) (pa_cons (pv 4) pa_nil))) pe_non))
    (pss_one (ps_expr (pe_bm PySem.F.plainAttrs_list PySem.F.slot_list_append PySem.F.type_list_append mt_append (pe_fld (pv 0) rfl) (pa_cons (pe_tup (pa_cons (pv 7) (pa_cons (pe_tup (pa_cons pe_str (pa_cons (pe_callTy b_tuple (by rfl) T.b_tuple (by decide +kernel) (pa_cons (pv 8) pa_nil)) (pa_cons (pv 9) pa_nil)))) pa_nil))) pa_nil))))))))
    (pss_cons (ps_fld (pv 0) pe_non rfl)
    (pss_one (ps_expr (pe_mt0 (pv 0) T.cl_House c_House_look (hr.mono (by first | decide | omega))))))))))
  · obtain ⟨x0,rfl,h⟩:=h
    exact pu_House_decide T h
def HM.gives (c:Cell) (M:HM) : Bool:=M.rd.isNone && Decidable.decide (0 < M.st c)
def HM.give (s:Int) (c:Cell) (M:HM) : HM:=if M.gives c=true then { M with st:=fset M.st c (M.st c - 1),out:=M.out++[(s,DnB.give c)] } else M
def HM.want (s:Int) (c:Cell) (M:HM) : HM:={ M with out:=M.out++[(s,DnB.want c)] }
theorem HouseAt.res {A:Ad} {H H':Hp} {h:HP} {S:Setup} {M':HM} {dx:Addr} {rdv:V} {Q:Hp→Prop} {p:Addr} {o:HO} (al:AL H h.os) (k:HRes A H h S M' Q) (f:Fr [p] H H') (hp : p∈h.os) (e:H' p=some o) (e':H' h.p=some (.ins A.House dx (F_House S.sellers h.st h.bk h.qu rdv h.ct h.out))) (c:HCore H' S h rdv M') : Q H':=
  k h H' rfl (f.mono fun x hx=>by rw [List.mem_singleton.mp hx];exact hp) (fun a ha=>.inl ha) ⟨⟨dx,rdv,e',c⟩,al_put al f e⟩
def P_House_closed (K:PySem.W.Frag) (A:Ad) (x0 x1 x2:V) (H:Hp) (Q:VK) : Prop:=∃ (h:HP) (S:Setup) (M:HM) (a:Ask) (s:Int) (cs:List Int),x0=.ref h.p∧x1=.int s∧Da H x2 (rowD cs)∧HouseAt A H h S M∧SetupOk S∧M.Ok S∧M.rd=some a∧cs.length=a.2.2.length∧0≤s∧s < S.sellers∧M.out.length≤50000∧M.qu.length≤50000∧HRes A H h S (M.closed S.sellers.toNat s cs) fun H'=>Q .non H'
def sp_House_closed (K:PySem.W.Frag) (A:Ad) : Sp:=fun vs H Q _=>∃ x0 x1 x2,vs=[x0,x1,x2]∧P_House_closed K A x0 x1 x2 H Q
theorem c_House_closed {K:PySem.W.Frag} {A:Ad} {x0 x1 x2:V} {H:Hp} {Q:VK} {E:XK} (h:P_House_closed K A x0 x1 x2 H Q) : sp_House_closed K A [x0,x1,x2] H Q E:=⟨_,_,_,rfl,h⟩
theorem sc_House_closed:FnScope ["self","seller","counts","cell","many"] ["self","seller","counts"] (defScope s_House_closed):=⟨rfl,rfl,rfl,by decide +kernel,rfl,by decide +kernel,by decide +kernel⟩
def t_House_closed (K:PySem.W.Frag) (A:Ad) : TS:=
  (tSeq (tFor (RZ.iZipA K (tCons (tMt A.House "cells" (sp_House_cells K A) (tVar 0) tNil) (tCons (tVar 2) tNil))) (gTup K 2 (gCons (gName 3) (gCons (gName 4) gNil))) (sDAug (tFld K (tVar 0) "stock") (tVar 3) (tVar 4) rAdd))
    (tSeq (sDPut (tFld K (tVar 0) "counts") (tVar 1) (tVar 2))
    (tIfS (tTest (tOp rEq (tCB rLenD (tCons (tFld K (tVar 0) "counts") tNil)) (tFld K (tVar 0) "sellers"))) (tDrop (tMt A.House "decide" (sp_House_decide K A) (tVar 0) tNil)) tNext)))
theorem pu_House_closed (T:Txt K mg A) {x0 x1 x2:V} {H:Hp} {Q:VK} (h:P_House_closed K A x0 x1 x2 H Q) : t_House_closed K A { nx:=fun _ H'=>Q .non H',rt:=Q } [some x0,some x1,some x2,none,none] H:=by
  obtain ⟨h,S,M,a,s,cs,rfl,rfl,dcs,⟨⟨dx,rdv,e,c⟩,al⟩,so,mo,hr,hcl,hs0,hs1,hol,hql,k⟩:=h
  have nd:=HNd.of al.1
  have hss1:=so.s1
  have hss2:=so.s2
  obtain ⟨cp,rfl,ecp⟩:=ints_at dcs
  obtain ⟨hlk,hll⟩:=mo.rk a hr
  have hcl2:(lackC a).length=a.2.2.length:=by rw [List.length_map]
  unfold t_House_closed
  ((with_reducible refine g_seq (g_for (g_iZA (g_cons ?_))));walk_at "6";(with_reducible refine g_nil ?_))
  refine c_House_cells ⟨h,S,M,a,rfl,⟨⟨dx,rdv,e,c⟩,al⟩,hr,by omega,fun t ts H1 f1 et dt=>?_⟩
  have htl : ts.length=a.2.2.length:=by rw [dt.len,List.length_map,hcl2]
  have e1:=f1.at0 e
  have e1':H1 h.p=some (.ins A.House dx [("sellers",.int S.sellers),("stock",.ref h.st),("books",.ref h.bk),("queue",.ref h.qu),("round",rdv),("counts",.ref h.ct),("outgoing",.ref h.out)]):=e1
  have c1:=c.fr f1 fun _ _=>nin0
  have al1:=al.fr0 f1
  have k1:=k.pre f1.of0
  have ecp1:=f1.tup _ _ ecp
  have dcs1:=Da.frL f1 dcs (imm_row cs)
  clear k e c al ecp dcs f1 e1
  (walk_at "2";(with_reducible refine' g_rzaT ?h332 ?k332 ?_);(case h332=>walk_at "sqt");(case k332=>walk_at "sqt"))
  refine f_zipT (xs:=ts) (ys:=cs.map V.int) (by rw [List.length_map,htl,hcl]) (fun j σ H'=>(∃ v3 v4,σ=[some (.ref h.p),some (.int s),some (.ref cp),v3,v4])∧Fr [h.st] H1 H'∧H' h.st=some (.dT (cD (stT S (addZ M.st (((lackC a).zip cs).take j)))))) ⟨⟨_,_,rfl⟩,Fr.refl,c1.st⟩ (fun j σ H' ⟨_,f,_⟩=>⟨SqT.of (f.tup _ _ et),SqT.of (f.tup _ _ ecp1)⟩) ?_ ?_
  · rintro j x y T σ H2 H3 hx hy ⟨⟨v3,v4,rfl⟩,f2,s2⟩ nT f3 e3
    obtain ⟨w,ca,hw,rfl,eca⟩:=cells_get (DaL.frL f3 (DaL.frL f2 dt (immL_map imm_cell _)) (immL_map imm_cell _)) hx
    obtain ⟨m,rfl,hm,_⟩:=getI hy
    have hwk:CellOk S w:=by
      obtain ⟨e,he,z⟩:=List.mem_map.mp (List.mem_of_getElem? hw)
      rw [← z];exact hlk e he
    have hzip:=zip_get hw hm
    have s3:=f3.at0 s2
    have ep3:=f3.at0 (f2.at e1' (nin1 nd.p1 nin0))
    rw [take_more hzip,addZ_snoc]
    generalize addZ M.st (((lackC a).zip cs).take j)=g at *
    ((with_reducible refine' g_gtup ?h333 ?l333 ?_);(case h333=>walk_at "sqt");(case l333=>exact rfl);(with_reducible refine g_gcons (g_name (g_gcons (g_name (g_gnil (g_daug ?_))))));walk_at "10";walk_at "0")
    refine g_stA so hwk s3 eca ?_
    (walk_at "0";(with_reducible refine g_rAdd ?_))
    refine g_stP so hwk s3 eca fun H4 f4 e4=>?_
    exact ⟨⟨_,_,rfl⟩,(f2.then0 f3).transL f4,e4⟩
  · rintro σ H2 ⟨⟨v3,v4,rfl⟩,f2,s2⟩
    have hfull:((lackC a).zip cs).take ts.length=(lackC a).zip cs:=List.take_of_length_le (by rw [List.length_zip,hcl2,htl,hcl];omega)
    rw [hfull] at s2
    have c2:HCore H2 S h rdv { M with st:=addZ M.st ((lackC a).zip cs) }:=c1.wst nd f2 s2
    have e2:=f2.at e1' (nin1 nd.p1 nin0)
    have al2:=al_put al1 f2 s2
    have k2:=k1.pre (f2.mono fun x hx=>by rw [List.mem_singleton.mp hx];simp [HP.os])
    have dcs2:=Da.frL f2 dcs1 (imm_row cs)
    clear k1 c1 al1 e1' f2 s2 dcs1
    obtain ⟨kvs,ek,rk⟩:=id c2.ct
    have hctl:M.ct.length≤1000000:=by
      have h1:=c2.ct
      obtain ⟨kvs',ek',rk'⟩:=h1
      have:∀ (n:Nat) (l:List Int),l.Nodup→(∀ x∈l,0≤x∧x < n)→l.length≤n:=by
        intro n
        induction n with
        | zero=>
          intro l _ hl
          cases l with
          | nil=>exact Nat.le_refl _
          | cons a r=>have:=hl a List.mem_cons_self;omega
        | succ n ih=>
          intro l nd hl
          have h1:=ih (l.filter fun x=>decide (x≠(n:Int))) (List.Pairwise.sublist List.filter_sublist nd) fun x hx=>by
            obtain ⟨hx,hq⟩:=List.mem_filter.mp hx
            have:=hl x hx
            have hq:=of_decide_eq_true hq
            omega
          have h2 : l.length≤(l.filter fun x=>decide (x≠(n:Int))).length + 1:=by
            clear h1 hl ih
            induction l with
            | nil=>exact Nat.zero_le _
            | cons a r ih=>
              have nd':=List.nodup_cons.mp nd
              by_cases q : a=(n:Int)
              · have e:(r.filter fun x=>decide (x≠(n:Int)))=r:=List.filter_eq_self.mpr fun x hx=>decide_eq_true fun z=>nd'.1 (by rw [q,← z];exact hx)
                rw [List.filter_cons_of_neg (by simp [q]),e];exact Nat.le_refl _
              · rw [List.filter_cons_of_pos (by simp [q])]
                have:=ih nd'.2
                simp only [List.length_cons];omega
          omega
      have nl:(M.ct.map fun e:Int×List Int=>e.1).Nodup:=mo.cn
      have:=this S.sellers.toNat _ nl fun x hx=>by
        obtain ⟨e,he,rfl⟩:=List.mem_map.mp hx
        have:=mo.ck e he;omega
      rw [List.length_map] at this
      omega
    have hkl : kvs.length=M.ct.length:=by rw [rk.len,List.length_map]
    ((with_reducible refine g_seq (g_dput ?_));walk_at "0";(with_reducible refine' j_fv (f:="counts") (C:=Ad.House _) ?k337 ?h337 (Txt.cl_House (by assumption)) (Txt.no_House_counts (by assumption)) ?l337 ?_);(case k337=>exact rfl);(case h337=>walk_at "fact");(case l337=>exact rfl);walk_at "0")
    refine g_rdpI ek (szM (by omega)) fun H3 f3 e3=>?_
    have hpt : pt (M.ct.map fun e=>(e.1,rowD e.2)) s (rowD cs)=(pt M.ct s cs).map fun e=>(e.1,rowD e.2):=by
      unfold pt
      have ha:((M.ct.map fun e=>(e.1,rowD e.2)).any fun e=>decide (e.1=s))=M.ct.any fun e=>decide (e.1=s):=by rw [List.any_map];rfl
      rw [ha]
      split
      · rw [List.map_map,List.map_map]
        refine List.map_congr_left fun x _=>?_
        show (if x.1=s then (x.1,rowD cs) else (x.1,rowD x.2))=_
        by_cases q : x.1=s
        · simp [q]
        · simp [q]
      · rw [List.map_append];rfl
    have ct3:DkAt H3 h.ct ((pt M.ct s cs).map fun e=>(e.1,rowD e.2)):=by
      refine ⟨_,e3,?_⟩
      rw [← hpt]
      exact (rk.fr f3).put s (Da.frL f3 dcs2 (imm_row cs)) (imm_row cs)
    have c3:HCore H3 S h rdv { M with st:=addZ M.st ((lackC a).zip cs),ct:=pt M.ct s cs }:=c2.wct nd f3 ct3
    have ep3:=f3.at e2 (nin1 nd.p4 nin0)
    have al3:=al_put al2 f3 e3
    have k3:=k2.pre (f3.mono fun x hx=>by rw [List.mem_singleton.mp hx];simp [HP.os])
    have hcm:M.closed S.sellers.toNat s cs=if (pt M.ct s cs).length=S.sellers.toNat then HM.decide S.sellers.toNat { M with st:=addZ M.st ((lackC a).zip cs),ct:=pt M.ct s cs } else { M with st:=addZ M.st ((lackC a).zip cs),ct:=pt M.ct s cs }:=by
      unfold HM.closed;rw [hr]
    rw [hcm] at k3
    have mo3:HM.Ok S { M with st:=addZ M.st ((lackC a).zip cs),ct:=pt M.ct s cs }:=by
      refine ⟨mo.qk,mo.rk,fun x hx e he=>?_,fun e he=>?_,mo.cn.pt _ _,mo.bl⟩
      · rcases pt_mem he with q | q
        · exact mo.cl x hx e q
        · rw [q];rw [hr] at hx;cases hx;exact hcl
      · rcases pt_mem he with q | q
        · exact mo.ck e q
        · rw [q];exact ⟨hs0,hs1⟩
    clear k2 c2 al2 e2 hpt hcm ek rk f3
    obtain ⟨kvs3,ek3,rk3⟩:=id ct3
    ((with_reducible refine j_it (g_op (g_cb (g_cons ?_))));(with_reducible refine' j_fv (f:="counts") (C:=Ad.House _) ?k339 ?h339 (Txt.cl_House (by assumption)) (Txt.no_House_counts (by assumption)) ?l339 ?_);(case k339=>exact rfl);(case h339=>walk_at "fact");(case l339=>exact rfl);(with_reducible refine g_nil ?_))
    refine g_lenDK ek3 ?_
    ((with_reducible refine' j_fv (f:="sellers") (C:=Ad.House _) ?k341 ?h341 (Txt.cl_House (by assumption)) (Txt.no_House_sellers (by assumption)) ?l341 ?_);(case k341=>exact rfl);(case h341=>walk_at "fact");(case l341=>exact rfl);(with_reducible refine g_eqI (g_bl ?_)))
    have hl3 : kvs3.length=(pt M.ct s cs).length:=by rw [rk3.len,List.length_map]
    refine g_ite (fun q=>?_) (fun q=>?_)
    · have q':(pt M.ct s cs).length=S.sellers.toNat:=by omega
      rw [if_pos q'] at k3
      ((with_reducible refine g_drop ?_);walk_at "6";(with_reducible refine g_nil ?_))
      exact c_House_decide ⟨h,S,{ M with st:=addZ M.st ((lackC a).zip cs),ct:=pt M.ct s cs },a,rfl,⟨⟨dx,rdv,ep3,c3⟩,al3⟩,so,mo3,hr,q',hol,hql,k3⟩
    · have q' : ¬ (pt M.ct s cs).length=S.sellers.toNat:=by omega
      rw [if_neg q'] at k3
      ((with_reducible refine g_next ?_))
      exact k3 h H3 rfl Fr.refl (fun a ha=>.inl ha) ⟨⟨dx,rdv,ep3,c3⟩,al3⟩
theorem ok_House_closed {f:Addr} {fd:FuncData} (F:Fun K "closed" "House.closed" s_House_closed f fd) (T:Txt K mg A) (c_House_cells:CalM P w K mg base A.House "cells" 1 ["self"] (sp_House_cells K A)) (c_House_decide:CalM P w K mg base A.House "decide" 3 ["self"] (sp_House_decide K A)) : FnOk P w K mg base CX0 (4) f fd ["self","seller","counts"] (sp_House_closed K A):=by
  refine F.ok sc_House_closed (fun vs H Q E h=>?_) (fun cdv Ar outer s H vs Q E hr h=>⟨t_House_closed K A,?_,?_⟩)
  · obtain ⟨x0,x1,x2,rfl,_⟩:=h
    rfl
  · have hu:=hu_of hr
    exact (pss_cons (ps_for PassesOwn.never rfl (RZ.pi_zipA (by rfl) T.b_zip (pa_cons (pe_mt0 (pv 0) T.cl_House c_House_cells (hr.mono (by first | decide | omega))) (pa_cons (pv 2) pa_nil))) (pg_tup rfl (pgs_cons (pg_name (i:=3) sc_House_closed.nd rfl (Or.inl rfl)) (pgs_cons (pg_name (i:=4) sc_House_closed.nd rfl (Or.inl rfl)) pgs_nil))) (pss_one (ps_daug hu (pe_fld (pv 0) rfl) (pv 3) (pv 4) in_add (fun _ _ _=>rfl))))
    (pss_cons (ps_dput hu (pe_fld (pv 0) rfl) (pv 1) (pv 2) rfl)
    (pss_one (ps_if (pt_cmpR op_eq (pe_callB b_lenD (by rfl) T.b_len (by decide +kernel) (pa_cons (pe_fld (pv 0) rfl) pa_nil)) (pe_fld (pv 0) rfl) (nomark _)) (pss_one (ps_expr (pe_mt0 (pv 0) T.cl_House c_House_decide (hr.mono (by first | decide | omega))))) pss_nil))))
  · obtain ⟨x0,x1,x2,rfl,h⟩:=h
    exact pu_House_closed T h
def P_House_handle (K:PySem.W.Frag) (A:Ad) (x0 x1 x2:V) (H:Hp) (Q:VK) : Prop:=∃ (h:HP) (S:Setup) (M:HM) (s:Int) (b:UpB),x0=.ref h.p∧x1=.int s∧Da H x2 (upD b)∧HouseAt A H h S M∧SetupOk S∧M.Ok S∧UpOk S M b∧0≤s∧s < S.sellers∧M.out.length≤40000∧M.qu.length≤40000∧(∀ r∈M.bk,r.length≤40000)∧HRes A H h S (M.handle S.sellers.toNat s b) fun H'=>Q .non H'
def sp_House_handle (K:PySem.W.Frag) (A:Ad) : Sp:=fun vs H Q _=>∃ x0 x1 x2,vs=[x0,x1,x2]∧P_House_handle K A x0 x1 x2 H Q
theorem c_House_handle {K:PySem.W.Frag} {A:Ad} {x0 x1 x2:V} {H:Hp} {Q:VK} {E:XK} (h:P_House_handle K A x0 x1 x2 H Q) : sp_House_handle K A [x0,x1,x2] H Q E:=⟨_,_,_,rfl,h⟩
theorem sc_House_handle:FnScope ["self","seller","body","word"] ["self","seller","body"] (defScope s_House_handle):=⟨rfl,rfl,rfl,by decide +kernel,rfl,by decide +kernel,by decide +kernel⟩
def t_House_handle (K:PySem.W.Frag) (A:Ad) : TS:=
  (tSeq (tAsg (tOp (rIxT K) (tVar 2) (tC (.int 0))) (gName 3))
    (tIfS (tTest (tOp rEq (tVar 3) (tC (.str "ask")))) (tSeq (tDrop (tBM K "list" rAppend (tFld K (tVar 0) "queue") (tCons (tOp (rCatT K) (tTup (tCons (tVar 1) tNil)) (tSl (rSlT K) (tVar 2) (tPart (tC (.int 1))) tNoPart)) tNil)))
    (tDrop (tMt A.House "look" (sp_House_look K A) (tVar 0) tNil))) (tIfS (tTest (tOp rEq (tVar 3) (tC (.str "closed")))) (tDrop (tMt A.House "closed" (sp_House_closed K A) (tVar 0) (tCons (tVar 1) (tCons (tOp (rIxT K) (tVar 2) (tC (.int 1))) tNil)))) (tIfS (tTest (tOp rEq (tVar 3) (tC (.str "back")))) (sDAug (tFld K (tVar 0) "stock") (tTup (tCons (tOp (rIxT K) (tVar 2) (tC (.int 1))) (tCons (tOp (rIxT K) (tVar 2) (tC (.int 2))) tNil))) (tC (.int 1)) rAdd) (tDrop (tBM K "list" rAppend (tOp (rIxL K) (tFld K (tVar 0) "books") (tVar 1)) (tCons (tOp (rIxT K) (tVar 2) (tC (.int 1))) tNil)))))))
theorem pu_House_handle (T:Txt K mg A) {x0 x1 x2:V} {H:Hp} {Q:VK} (h:P_House_handle K A x0 x1 x2 H Q) : t_House_handle K A { nx:=fun _ H'=>Q .non H',rt:=Q } [some x0,some x1,some x2,none] H:=by
  obtain ⟨h,S,M,s,b,rfl,rfl,db,⟨⟨dx,rdv,e,c⟩,al⟩,so,mo,hb,hs0,hs1,hol,hql,hbl,k⟩:=h
  have nd:=HNd.of al.1
  have hss1:=so.s1
  have hss2:=so.s2
  unfold t_House_handle
  cases b with
  | ask n l=>
    obtain ⟨p,ys,rfl,ep,_,q⟩:=db.tup1
    obtain ⟨x,y,z,rfl,dx',dy,dz⟩:=q.three
    cases dx'.str1
    cases dy.int1
    have e':H h.p=some (.ins A.House dx [("sellers",.int S.sellers),("stock",.ref h.st),("books",.ref h.bk),("queue",.ref h.qu),("round",rdv),("counts",.ref h.ct),("outgoing",.ref h.out)]):=e
    obtain ⟨iq,qs,eq,dq⟩:=id c.qu
    have hqsl : qs.length≤50000:=by rw [dq.len,List.length_map];omega
    ((with_reducible refine j_sa ?_);walk_at "3";(with_reducible refine g_name (j_it ?_));walk_at "4";(with_reducible refine g_eqS (g_bl ?_)))
    refine g_ite (fun q=>?_) (fun q=>absurd rfl q)
    ((with_reducible refine j_sd (g_bm ?_));(with_reducible refine' j_fv (f:="queue") (C:=Ad.House _) ?k350 ?h350 (Txt.cl_House (by assumption)) (Txt.no_House_queue (by assumption)) ?l350 ?_);(case k350=>exact rfl);(case h350=>walk_at "fact");(case l350=>exact rfl);(with_reducible refine' g_bmL ?h351 ?_);(case h351=>walk_at "fact");(with_reducible refine g_cons (g_op (g_tup ?_)));walk_at "2";walk_at "5";(with_reducible refine g_sl ?_);walk_at "0";(with_reducible refine g_part (g_c (g_rpart (g_noP ?_))));(with_reducible refine' g_sl1 ?h355 ?_);(case h355=>walk_at "sqt");walk_at "new")
    rename_i t1 H1 n1 f1 e1 t2 H2 n2 f2 e2
    refine g_catT (xs:=[.int s]) (ys:=[.int n,z]) (SqT.of (f2.tup _ _ e1)) (SqT.of e2) (by simp) (Nat.le_of_ble_eq_true rfl) (fun q=>by cases q) fun _ t3 H3 n3 f3 e3=>?_
    have F3:Fr [] H H3:=(f1.then0 f2).then0 f3
    have eq3:=F3.at0 eq
    ((with_reducible refine g_nil ?_);walk_at "8";(with_reducible refine g_drop (g_mt ?_));walk_at "0")
    rename_i H4 f4 e4
    have da:Da H3 (.ref t3) (askD (s,n,l)):=.tup e3 (Nat.le_of_ble_eq_true rfl) (.cons (.int _) (.cons (.int _) (.one' (Da.frL F3 dz (imm_lack l)))))
    have c3:=c.fr F3 fun _ _=>nin0
    have q4:LsAt H4 h.qu ((M.qu++[(s,n,l)]).map askD):=by
      rw [List.map_append]
      exact LsAt.snoc (DaL.frL F3 dq iq) iq da (imm_ask _) f4 e4
    have c4:HCore H4 S h rdv { M with qu:=M.qu++[(s,n,l)] }:=c3.wqu nd f4 q4
    have ep4:=f4.at (F3.at0 e') (nin1 nd.p3 nin0)
    have al4:=al_put (al.fr0 F3) f4 e4
    ((with_reducible refine' g_rmt ?h358 ?l358 ?_);(case h358=>walk_at "fact");(case l358=>exact rfl);(with_reducible refine g_nil ?_))
    refine c_House_look ⟨h,S,{ M with qu:=M.qu++[(s,n,l)] },rfl,⟨⟨dx,rdv,ep4,c4⟩,al4⟩,so,⟨fun x hx=>?_,mo.rk,mo.cl,mo.ck,mo.cn,mo.bl⟩,by show M.out.length≤_;omega,?_,?_⟩
    · rcases List.mem_append.mp hx with q | q
      · exact mo.qk x q
      · rw [List.mem_singleton.mp q];exact hb
    · show (M.qu++_).length≤_
      rw [List.length_append];show M.qu.length + 1≤_;omega
    · exact k.pre (F3.of0.transL (f4.mono fun x hx=>by rw [List.mem_singleton.mp hx];simp [HP.os]))
  | closed cs=>
    obtain ⟨p,ys,rfl,ep,_,q⟩:=db.tup1
    obtain ⟨x,y,rfl,dx',dy⟩:=q.two
    cases dx'.str1
    obtain ⟨a,hr,hcl⟩:=hb
    ((with_reducible refine j_sa ?_);walk_at "3";(with_reducible refine g_name (j_it ?_));walk_at "4";(with_reducible refine g_eqS (g_bl ?_)))
    refine g_ite (fun q=>absurd q (by decide)) (fun _=>?_)
    ((with_reducible refine j_it ?_);walk_at "4";(with_reducible refine g_eqS (g_bl ?_)))
    refine g_ite (fun q=>?_) (fun q=>absurd rfl q)
    ((with_reducible refine g_drop ?_);walk_at "6";walk_at "1";(with_reducible refine g_cons ?_);walk_at "3";(with_reducible refine g_nil ?_))
    exact c_House_closed ⟨h,S,M,a,s,cs,rfl,rfl,dy,⟨⟨dx,rdv,e,c⟩,al⟩,so,mo,hr,hcl,hs0,hs1,by omega,by omega,k⟩
  | back w=>
    obtain ⟨p,ys,rfl,ep,_,q⟩:=db.tup1
    obtain ⟨x,y,z,rfl,dx',dy,dz⟩:=q.three
    cases dx'.str1
    cases dy.int1
    cases dz.int1
    have hw:CellOk S w:=hb
    have e':H h.p=some (.ins A.House dx [("sellers",.int S.sellers),("stock",.ref h.st),("books",.ref h.bk),("queue",.ref h.qu),("round",rdv),("counts",.ref h.ct),("outgoing",.ref h.out)]):=e
    ((with_reducible refine j_sa ?_);walk_at "3";(with_reducible refine g_name (j_it ?_));walk_at "4";(with_reducible refine g_eqS (g_bl ?_)))
    refine g_ite (fun q=>absurd q (by decide)) (fun _=>?_)
    ((with_reducible refine j_it ?_);walk_at "4";(with_reducible refine g_eqS (g_bl ?_)))
    refine g_ite (fun q=>absurd q (by decide)) (fun _=>?_)
    ((with_reducible refine j_it ?_);walk_at "4";(with_reducible refine g_eqS (g_bl ?_)))
    refine g_ite (fun q=>?_) (fun q=>absurd rfl q)
    ((with_reducible refine g_daug ?_);walk_at "10";(with_reducible refine g_tup (g_cons ?_));walk_at "3";(with_reducible refine g_cons ?_);walk_at "3";(with_reducible refine g_nil ?_);walk_at "5")
    rename_i t H1 n1 f1 e1
    have c1:=c.fr f1 fun _ _=>nin0
    refine g_stA so hw c1.st e1 ?_
    ((with_reducible refine g_c (g_rAdd ?_)))
    refine g_stP so hw c1.st e1 fun H2 f2 e2=>?_
    exact HouseAt.res (al.fr0 f1) (k.pre f1.of0) f2 (by simp [HP.os]) e2 (f2.at (f1.at0 e') (nin1 nd.p1 nin0)) (c1.wst nd f2 e2)
  | entry r=>
    obtain ⟨p,ys,rfl,ep,_,q⟩:=db.tup1
    obtain ⟨x,y,rfl,dx',dy⟩:=q.two
    cases dx'.str1
    have e':H h.p=some (.ins A.House dx [("sellers",.int S.sellers),("stock",.ref h.st),("books",.ref h.bk),("queue",.ref h.qu),("round",rdv),("counts",.ref h.ct),("outgoing",.ref h.out)]):=e
    have hbsl : h.bs.length=S.sellers.toNat:=(Paired.length c.bs).trans mo.bl
    have hsl : s.toNat < h.bs.length:=by omega
    obtain ⟨bb,hbb⟩ : ∃ bb,h.bs[s.toNat]? = some bb:=⟨_,List.getElem?_eq_getElem hsl⟩
    obtain ⟨rows,hrows,lb⟩:=Paired.nth c.bs hbb
    obtain ⟨ib,vb,eb,dvb⟩:=id lb
    have hvl : vb.length≤50000:=by
      rw [dvb.len,List.length_map]
      have:=hbl rows (List.mem_of_getElem? hrows);omega
    have ixb : atI (h.bs.map V.ref) s=some (.ref bb):=by
      have:=atI_nat (j:=s.toNat) (show (h.bs.map V.ref)[s.toNat]? = some (.ref bb) by rw [List.getElem?_map,hbb];rfl)
      rw [show ((s.toNat:Nat) : Int)=s by omega] at this
      exact this
    ((with_reducible refine j_sa ?_);walk_at "3";(with_reducible refine g_name (j_it ?_));walk_at "4";(with_reducible refine g_eqS (g_bl ?_)))
    refine g_ite (fun q=>absurd q (by decide)) (fun _=>?_)
    ((with_reducible refine j_it ?_);walk_at "4";(with_reducible refine g_eqS (g_bl ?_)))
    refine g_ite (fun q=>absurd q (by decide)) (fun _=>?_)
    ((with_reducible refine j_it ?_);walk_at "4";(with_reducible refine g_eqS (g_bl ?_)))
    refine g_ite (fun q=>absurd q (by decide)) (fun _=>?_)
    ((with_reducible refine g_drop (g_bm (g_op ?_)));(with_reducible refine' j_fv (f:="books") (C:=Ad.House _) ?k388 ?h388 (Txt.cl_House (by assumption)) (Txt.no_House_books (by assumption)) ?l388 ?_);(case k388=>exact rfl);(case h388=>walk_at "fact");(case l388=>exact rfl);walk_at "0")
    refine g_ixL (SqL.of c.bk) ixb ?_
    ((with_reducible refine' g_bmL ?h389 ?_);(case h389=>walk_at "fact");(with_reducible refine g_cons ?_);walk_at "3";(with_reducible refine g_nil ?_);walk_at "8")
    rename_i H1 f1 e1
    have hgd:M.bk.getD s.toNat []=rows:=by rw [List.getD_eq_getElem?_getD,hrows];rfl
    have l1:LsAt H1 bb ((rows++[r]).map rowB):=by
      rw [List.map_append]
      exact LsAt.snoc dvb ib dy (imm_rowB r) f1 e1
    have c1:=c.wbs nd hbb f1 l1
    have kk:M.handle S.sellers.toNat s (.entry r) = { M with bk:=M.bk.set s.toNat (rows++[r]) }:=by
      show ({ M with bk:=M.bk.set s.toNat (M.bk.getD s.toNat []++[r]) }:HM)=_
      rw [hgd]
    rw [kk] at k
    exact HouseAt.res al k f1 (by simp [HP.os,List.mem_of_getElem? hbb]) e1 (f1.at e' (nin1 (fun z=>nd.b0 (by rw [z];exact List.mem_of_getElem? hbb)) nin0)) c1
theorem ok_House_handle {f:Addr} {fd:FuncData} (F:Fun K "handle" "House.handle" s_House_handle f fd) (T:Txt K mg A) (c_House_look:CalM P w K mg base A.House "look" 2 ["self"] (sp_House_look K A)) (c_House_closed:CalM P w K mg base A.House "closed" 4 ["self","seller","counts"] (sp_House_closed K A)) : FnOk P w K mg base CX0 (5) f fd ["self","seller","body"] (sp_House_handle K A):=by
  refine F.ok sc_House_handle (fun vs H Q E h=>?_) (fun cdv Ar outer s H vs Q E hr h=>⟨t_House_handle K A,?_,?_⟩)
  · obtain ⟨x0,x1,x2,rfl,_⟩:=h
    rfl
  · have hu:=hu_of hr
    exact (pss_cons (ps_set (i:=3) sc_House_handle.nd rfl (Or.inl rfl) (pe_ix ix_tup (pv 2) pe_int (fun _ _=>rfl)))
    (pss_one (ps_if (pt_cmpR op_eq (pv 3) pe_str (nomark _)) (pss_cons (ps_expr (pe_bm PySem.F.plainAttrs_list PySem.F.slot_list_append PySem.F.type_list_append mt_append (pe_fld (pv 0) rfl) (pa_cons (pe_op op_catT (pe_tup (pa_cons (pv 1) pa_nil)) (pe_slice sl_tup (pv 2) (po_some pe_int) po_none)) pa_nil)))
    (pss_one (ps_expr (pe_mt0 (pv 0) T.cl_House c_House_look (hr.mono (by first | decide | omega)))))) (pss_one (ps_if (pt_cmpR op_eq (pv 3) pe_str (nomark _)) (pss_one (ps_expr (pe_mt (pv 0) T.cl_House c_House_closed (hr.mono (by first | decide | omega)) (pa_cons (pv 1) (pa_cons (pe_ix ix_tup (pv 2) pe_int (fun _ _=>rfl)) pa_nil))))) (pss_one (ps_if (pt_cmpR op_eq (pv 3) pe_str (nomark _)) (pss_one (ps_daug hu (pe_fld (pv 0) rfl) (pe_tup (pa_cons (pe_ix ix_tup (pv 2) pe_int (fun _ _=>rfl)) (pa_cons (pe_ix ix_tup (pv 2) pe_int (fun _ _=>rfl)) pa_nil))) pe_int in_add (fun _ _ _=>rfl))) (pss_one (ps_expr (pe_bm PySem.F.plainAttrs_list PySem.F.slot_list_append PySem.F.type_list_append mt_append (pe_ix ix_list (pe_fld (pv 0) rfl) (pv 1) (fun _ _=>rfl)) (pa_cons (pe_ix ix_tup (pv 2) pe_int (fun _ _=>rfl)) pa_nil)))))))))))
  · obtain ⟨x0,x1,x2,rfl,h⟩:=h
    exact pu_House_handle T h
def P_House_give (K:PySem.W.Frag) (A:Ad) (x0 x1 x2 x3:V) (H:Hp) (Q:VK) : Prop:=∃ (h:HP) (S:Setup) (M:HM) (s:Int) (w:Cell),x0=.ref h.p∧x1=.int s∧x2=.int w.1∧x3=.int w.2∧HouseAt A H h S M∧SetupOk S∧CellOk S w∧M.out.length≤50000∧HRes A H h S (M.give s w) fun H'=>Q (.bl (M.gives w)) H'
theorem giveD {H:Hp} {c s:Addr} {t:Int} {w:Cell} (es:H s=some (.tup [.str "give",.int w.1,.int w.2])) (ec:H c=some (.tup [.int t,.ref s])) : Da H (.ref c) (outD (t,DnB.give w)):=
  .tup ec (Nat.le_of_ble_eq_true rfl) (.cons (.int _) (.one' (.tup es (Nat.le_of_ble_eq_true rfl) (.cons (.str _) (.cons (.int _) (.one' (.int _)))))))
theorem wantD {H:Hp} {c s:Addr} {t:Int} {w:Cell} (es:H s=some (.tup [.str "want",.int w.1,.int w.2])) (ec:H c=some (.tup [.int t,.ref s])) : Da H (.ref c) (outD (t,DnB.want w)):=
  .tup ec (Nat.le_of_ble_eq_true rfl) (.cons (.int _) (.one' (.tup es (Nat.le_of_ble_eq_true rfl) (.cons (.str _) (.cons (.int _) (.one' (.int _)))))))
def sp_House_give (K:PySem.W.Frag) (A:Ad) : Sp:=fun vs H Q _=>∃ x0 x1 x2 x3,vs=[x0,x1,x2,x3]∧P_House_give K A x0 x1 x2 x3 H Q
theorem sc_House_give:FnScope ["self","seller","kind","night"] ["self","seller","kind","night"] (defScope s_House_give):=⟨rfl,rfl,rfl,by decide +kernel,rfl,by decide +kernel,by decide +kernel⟩
def t_House_give (K:PySem.W.Frag) (A:Ad) : TS:=
  (tSeq (tIfS (tOr (tTest (tOp rIsNotNon (tFld K (tVar 0) "round") (tC .non))) (tTest (tOp cLt (tDGet (tFld K (tVar 0) "stock") (tTup (tCons (tVar 2) (tCons (tVar 3) tNil)))) (tC (.int 1))))) (tRet (tC (.bl false))) tNext)
    (tSeq (sDAug (tFld K (tVar 0) "stock") (tTup (tCons (tVar 2) (tCons (tVar 3) tNil))) (tC (.int 1)) rSub)
    (tSeq (tDrop (tBM K "list" rAppend (tFld K (tVar 0) "outgoing") (tCons (tTup (tCons (tVar 1) (tCons (tTup (tCons (tC (.str "give")) (tCons (tVar 2) (tCons (tVar 3) tNil)))) tNil))) tNil)))
    (tRet (tC (.bl true))))))
theorem pu_House_give (T:Txt K mg A) {x0 x1 x2 x3:V} {H:Hp} {Q:VK} (h:P_House_give K A x0 x1 x2 x3 H Q) : t_House_give K A { nx:=fun _ H'=>Q .non H',rt:=Q } [some x0,some x1,some x2,some x3] H:=by
  obtain ⟨h,S,M,s,w,rfl,rfl,rfl,rfl,⟨⟨dx,rdv,e,c⟩,al⟩,so,hw,hol,k⟩:=h
  have nd:=HNd.of al.1
  have e':H h.p=some (.ins A.House dx [("sellers",.int S.sellers),("stock",.ref h.st),("books",.ref h.bk),("queue",.ref h.qu),("round",rdv),("counts",.ref h.ct),("outgoing",.ref h.out)]):=e
  unfold t_House_give
  ((with_reducible refine j_si (g_or (g_test (g_op ?_))));(with_reducible refine' j_fv (f:="round") (C:=Ad.House _) ?k393 ?h393 (Txt.cl_House (by assumption)) (Txt.no_House_round (by assumption)) ?l393 ?_);(case k393=>exact rfl);(case h393=>walk_at "fact");(case l393=>exact rfl);(with_reducible refine g_c (g_notN (g_bl ?_))))
  refine g_iteN (fun hr=>?_) (fun hr=>?_)
  · have hrs:M.rd.isNone=false:=by
      cases q:M.rd with
      | none=>exact absurd (by have:=c.rd;rw [q] at this;cases this;rfl) hr
      | some a=>rfl
    have hg:M.gives w=false:=by unfold HM.gives;rw [hrs];rfl
    rw [hg] at k
    ((with_reducible refine g_iteT (g_ret (g_c ?_))))
    exact k h H rfl Fr.refl (fun a ha=>.inl ha) (by unfold HM.give;rw [hg];exact ⟨⟨dx,rdv,e,c⟩,al⟩)
  · have hrn:M.rd=none:=by
      cases q:M.rd with
      | none=>rfl
      | some a=>have:=c.rd;rw [q,hr] at this;cases this
    ((with_reducible refine g_test (g_op (g_dget ?_)));walk_at "10";(with_reducible refine g_tup ?_);walk_at "1";walk_at "2";walk_at "5")
    rename_i t H1 n1 f1 e1
    have c1:=c.fr f1 fun _ _=>nin0
    refine g_stG so hw c1.st e1 ?_
    ((with_reducible refine g_c (g_lt (g_bl ?_))))
    refine g_ite (fun hq=>?_) (fun hq=>?_)
    · have hg:M.gives w=false:=by unfold HM.gives;rw [hrn,decide_eq_false (by omega)];rfl
      rw [hg] at k
      ((with_reducible refine g_ret (g_c ?_)))
      exact k h H1 rfl f1.of0 (fun a ha=>.inl ha) (by unfold HM.give;rw [hg];exact ⟨⟨dx,rdv,f1.at0 e,c1⟩,al.fr0 f1⟩)
    · have hg:M.gives w=true:=by unfold HM.gives;rw [hrn,decide_eq_true (by omega)];rfl
      have hgm:M.give s w = { M with st:=fset M.st w (M.st w - 1),out:=M.out++[(s,DnB.give w)] }:=by unfold HM.give;rw [if_pos hg]
      rw [hg,hgm] at k
      ((with_reducible refine g_next (g_seq (g_daug ?_)));walk_at "10";(with_reducible refine g_tup ?_);walk_at "1";walk_at "2";walk_at "5")
      rename_i t2 H2 n2 f2 e2
      have c2:=c1.fr f2 fun _ _=>nin0
      refine g_stA so hw c2.st e2 ?_
      ((with_reducible refine g_c (g_rSub ?_)))
      refine g_stP so hw c2.st e2 fun H3 f3 e3=>?_
      have c3:=c2.wst nd f3 e3
      have ep3:=f3.at (f2.at0 (f1.at0 e')) (nin1 nd.p1 nin0)
      have al3:=al_put ((al.fr0 f1).fr0 f2) f3 e3
      have k3:=k.pre ((f1.then0 f2).of0.transL (f3.mono fun x hx=>by rw [List.mem_singleton.mp hx];simp [HP.os] : Fr h.os H2 H3))
      obtain ⟨io,os,eo,dox⟩:=id c3.out
      have hosl : os.length≤60000:=by have z : os.length=(M.out.map outD).length:=dox.len;rw [z,List.length_map];omega
      clear k c c1 c2 f1 f2 f3
      ((with_reducible refine j_sd (g_bm ?_));(with_reducible refine' j_fv (f:="outgoing") (C:=Ad.House _) ?k404 ?h404 (Txt.cl_House (by assumption)) (Txt.no_House_outgoing (by assumption)) ?l404 ?_);(case k404=>exact rfl);(case h404=>walk_at "fact");(case l404=>exact rfl);(with_reducible refine' g_bmL ?h405 ?_);(case h405=>walk_at "fact");(with_reducible refine g_cons (g_tup ?_));walk_at "1";(with_reducible refine g_cons (g_tup (j_cc ?_)));walk_at "1";walk_at "2";walk_at "5";(with_reducible refine g_nil ?_);walk_at "5";(with_reducible refine g_nil ?_);walk_at "8";(with_reducible refine g_ret (g_c ?_)))
      rename_i s1 H4 n4 f4 e4 c4 H5 n5 f5 e5 H6 f6 e6
      have F5:Fr [] H3 H5:=f4.then0 f5
      have c5:=c3.fr F5 fun _ _=>nin0
      have o6:LsAt H6 h.out ((M.out++[(s,DnB.give w)]).map outD):=by
        rw [List.map_append]
        exact LsAt.snoc (DaL.frL F5 dox io) io (giveD (f5.tup _ _ e4) e5) (imm_out _) f6 e6
      exact HouseAt.res (al3.fr0 F5) (k3.pre F5.of0) f6 (by simp [HP.os]) e6 (f6.at (F5.at0 ep3) (nin1 nd.p5 nin0)) (c5.wout nd f6 o6)
theorem ok_House_give {f:Addr} {fd:FuncData} (F:Fun K "give" "House.give" s_House_give f fd) (T:Txt K mg A)  : FnOk P w K mg base CX0 (1) f fd ["self","seller","kind","night"] (sp_House_give K A):=by
  refine F.ok sc_House_give (fun vs H Q E h=>?_) (fun cdv Ar outer s H vs Q E hr h=>⟨t_House_give K A,?_,?_⟩)
  · obtain ⟨x0,x1,x2,x3,rfl,_⟩:=h
    rfl
  · have hu:=hu_of hr
    exact (pss_cons (ps_if (PW.pt (pw_or (pt_cmpR c_notN (pe_fld (pv 0) rfl) pe_non (nomark _)) (pw_or1 (pt_cmpR c_lt (pe_dget hu (pe_fld (pv 0) rfl) (pe_tup (pa_cons (pv 2) (pa_cons (pv 3) pa_nil))) (fun _ _=>rfl)) pe_int (nomark _))))) (pss_one (ps_ret pe_bl)) pss_nil)
    (pss_cons (ps_daug hu (pe_fld (pv 0) rfl) (pe_tup (pa_cons (pv 2) (pa_cons (pv 3) pa_nil))) pe_int in_sub (fun _ _ _=>rfl))
    (pss_cons (ps_expr (pe_bm PySem.F.plainAttrs_list PySem.F.slot_list_append PySem.F.type_list_append mt_append (pe_fld (pv 0) rfl) (pa_cons (pe_tup (pa_cons (pv 1) (pa_cons (pe_tup (pa_cons pe_str (pa_cons (pv 2) (pa_cons (pv 3) pa_nil)))) pa_nil))) pa_nil)))
    (pss_one (ps_ret pe_bl)))))
  · obtain ⟨x0,x1,x2,x3,rfl,h⟩:=h
    exact pu_House_give T h
def P_House_want (K:PySem.W.Frag) (A:Ad) (x0 x1 x2 x3:V) (H:Hp) (Q:VK) : Prop:=∃ (h:HP) (S:Setup) (M:HM) (s:Int) (w:Cell),x0=.ref h.p∧x1=.int s∧x2=.int w.1∧x3=.int w.2∧HouseAt A H h S M∧M.out.length≤50000∧HRes A H h S (M.want s w) fun H'=>Q .non H'
def sp_House_want (K:PySem.W.Frag) (A:Ad) : Sp:=fun vs H Q _=>∃ x0 x1 x2 x3,vs=[x0,x1,x2,x3]∧P_House_want K A x0 x1 x2 x3 H Q
theorem sc_House_want:FnScope ["self","seller","kind","night"] ["self","seller","kind","night"] (defScope s_House_want):=⟨rfl,rfl,rfl,by decide +kernel,rfl,by decide +kernel,by decide +kernel⟩
def t_House_want (K:PySem.W.Frag) (A:Ad) : TS:=
  (tDrop (tBM K "list" rAppend (tFld K (tVar 0) "outgoing") (tCons (tTup (tCons (tVar 1) (tCons (tTup (tCons (tC (.str "want")) (tCons (tVar 2) (tCons (tVar 3) tNil)))) tNil))) tNil)))
theorem pu_House_want (T:Txt K mg A) {x0 x1 x2 x3:V} {H:Hp} {Q:VK} (h:P_House_want K A x0 x1 x2 x3 H Q) : t_House_want K A { nx:=fun _ H'=>Q .non H',rt:=Q } [some x0,some x1,some x2,some x3] H:=by
  obtain ⟨h,S,M,s,w,rfl,rfl,rfl,rfl,⟨⟨dx,rdv,e,c⟩,al⟩,hol,k⟩:=h
  have nd:=HNd.of al.1
  have e':H h.p=some (.ins A.House dx [("sellers",.int S.sellers),("stock",.ref h.st),("books",.ref h.bk),("queue",.ref h.qu),("round",rdv),("counts",.ref h.ct),("outgoing",.ref h.out)]):=e
  obtain ⟨io,os,eo,dox⟩:=id c.out
  have hosl : os.length≤60000:=by rw [dox.len,List.length_map];omega
  unfold t_House_want
  ((with_reducible refine g_drop (g_bm ?_));(with_reducible refine' j_fv (f:="outgoing") (C:=Ad.House _) ?k412 ?h412 (Txt.cl_House (by assumption)) (Txt.no_House_outgoing (by assumption)) ?l412 ?_);(case k412=>exact rfl);(case h412=>walk_at "fact");(case l412=>exact rfl);(with_reducible refine' g_bmL ?h413 ?_);(case h413=>walk_at "fact");(with_reducible refine g_cons (g_tup ?_));walk_at "1";(with_reducible refine g_cons (g_tup (j_cc ?_)));walk_at "1";walk_at "2";walk_at "5";(with_reducible refine g_nil ?_);walk_at "5";(with_reducible refine g_nil ?_);walk_at "8")
  rename_i s1 H4 n4 f4 e4 c4 H5 n5 f5 e5 H6 f6 e6
  have F5:Fr [] H H5:=f4.then0 f5
  have c5:=c.fr F5 fun _ _=>nin0
  have o6:LsAt H6 h.out ((M.out++[(s,DnB.want w)]).map outD):=by
    rw [List.map_append]
    exact LsAt.snoc (DaL.frL F5 dox io) io (wantD (f5.tup _ _ e4) e5) (imm_out _) f6 e6
  exact HouseAt.res (al.fr0 F5) (k.pre F5.of0) f6 (by simp [HP.os]) e6 (f6.at (F5.at0 e') (nin1 nd.p5 nin0)) (c5.wout nd f6 o6)
theorem ok_House_want {f:Addr} {fd:FuncData} (F:Fun K "want" "House.want" s_House_want f fd) (T:Txt K mg A)  : FnOk P w K mg base CX0 (1) f fd ["self","seller","kind","night"] (sp_House_want K A):=by
  refine F.ok sc_House_want (fun vs H Q E h=>?_) (fun cdv Ar outer s H vs Q E hr h=>⟨t_House_want K A,?_,?_⟩)
  · obtain ⟨x0,x1,x2,x3,rfl,_⟩:=h
    rfl
  · have hu:=hu_of hr
    exact (pss_one (ps_expr (pe_bm PySem.F.plainAttrs_list PySem.F.slot_list_append PySem.F.type_list_append mt_append (pe_fld (pv 0) rfl) (pa_cons (pe_tup (pa_cons (pv 1) (pa_cons (pe_tup (pa_cons pe_str (pa_cons (pv 2) (pa_cons (pv 3) pa_nil)))) pa_nil))) pa_nil))))
  · obtain ⟨x0,x1,x2,x3,rfl,h⟩:=h
    exact pu_House_want T h
def SellerAt (A:Ad) (H:Hp) (s:SP) (S:Setup) (num:Int) (M:SM) : Prop:=(∃ dx sv clv,H s.p=some (.ins A.Seller dx (F_Seller sv num s.fr s.vo s.bk clv s.ask s.wt M.n s.out s.told))∧Da H sv (setupD S)∧SCore H S s clv M)∧AL H s.os
theorem SellerAt.frm {A:Ad} {l:List Addr} {H H':Hp} {s:SP} {S:Setup} {num:Int} {M:SM} (x:SellerAt A H s S num M) (f:Fr l H H') (n:∀ a∈s.os,a∉l) : SellerAt A H' s S num M:=by
  obtain ⟨⟨dx,sv,clv,e,d,c⟩,al⟩:=x
  exact ⟨⟨dx,sv,clv,f.at e (n _ (by simp [SP.os])),Da.frL f d (imm_setup S),c.frm f n⟩,al.1,fun a ha=>by obtain ⟨o,q⟩:=al.2 a ha;exact ⟨o,f.at q (n a ha)⟩⟩
theorem SellerAt.f0 {A:Ad} {H H':Hp} {s:SP} {S:Setup} {num:Int} {M:SM} (x:SellerAt A H s S num M) (f:Fr [] H H') : SellerAt A H' s S num M:=x.frm f fun _ _=>nin0
theorem SellerAt.nd {A:Ad} {H:Hp} {s:SP} {S:Setup} {num:Int} {M:SM} (x:SellerAt A H s S num M) : SPNd s:=SPNd.of x.2.1
theorem SellerAt.up {A:Ad} {H H':Hp} {s:SP} {S:Setup} {num:Int} {M M':SM} {X:Addr} {u:HO} (x:SellerAt A H s S num M) (hp : s.p≠X) (f:Fr [X] H H') (e:H' X=some u) (c:∀ clv,SCore H S s clv M→SCore H' S s clv M') (hn:M'.n=M.n) : SellerAt A H' s S num M':=by
  obtain ⟨⟨dx,sv,clv,ep,d,c0⟩,al⟩:=x
  refine ⟨⟨dx,sv,clv,by rw [hn];exact f.at ep (nin1 hp nin0),Da.frL f d (imm_setup S),c clv c0⟩,al.1,fun a ha=>?_⟩
  by_cases z : a=X
  · rw [z];exact ⟨_,e⟩
  · obtain ⟨o,q⟩:=al.2 a ha;exact ⟨o,f.at q (nin1 z nin0)⟩
section
variable {A:Ad} {H H':Hp} {s:SP} {S:Setup} {num:Int} {M:SM}
theorem SellerAt.w_fr {v:Cell→Int} (x:SellerAt A H s S num M) (f:Fr [s.fr] H H') (e:H' s.fr=some (.dT (cD (stT S v)))) : SellerAt A H' s S num { M with fr:=v }:=x.up x.nd.p_fr f e (fun _ c=>c.w_fr x.nd f e) rfl
theorem SellerAt.w_vo {v:List (Int×List Stay)} (x:SellerAt A H s S num M) (f:Fr [s.vo] H H') (e:DkAt H' s.vo (voD v)) : SellerAt A H' s S num { M with vo:=v }:=by
  obtain ⟨kvs,e1,_⟩:=id e
  exact x.up x.nd.p_vo f e1 (fun _ c=>c.w_vo x.nd f e) rfl
theorem SellerAt.w_bk {v:List Row} (x:SellerAt A H s S num M) (f:Fr [s.bk] H H') (e:LsAt H' s.bk (v.map rowB)) : SellerAt A H' s S num { M with bk:=v }:=by
  obtain ⟨_,vs,e1,_⟩:=id e
  exact x.up x.nd.p_bk f e1 (fun _ c=>c.w_bk x.nd f e) rfl
theorem SellerAt.w_ask {v:List (Int×Deed)} (x:SellerAt A H s S num M) (f:Fr [s.ask] H H') (e:DkAt H' s.ask (askT v)) : SellerAt A H' s S num { M with ask:=v }:=by
  obtain ⟨kvs,e1,_⟩:=id e
  exact x.up x.nd.p_ask f e1 (fun _ c=>c.w_ask x.nd f e) rfl
theorem SellerAt.w_wt {v:List (Int×Deed)} (x:SellerAt A H s S num M) (f:Fr [s.wt] H H') (e:LsAt H' s.wt (v.map wtD)) : SellerAt A H' s S num { M with wt:=v }:=by
  obtain ⟨_,vs,e1,_⟩:=id e
  exact x.up x.nd.p_wt f e1 (fun _ c=>c.w_wt x.nd f e) rfl
theorem SellerAt.w_out {v:List UpB} (x:SellerAt A H s S num M) (f:Fr [s.out] H H') (e:LsAt H' s.out (v.map upD)) : SellerAt A H' s S num { M with out:=v }:=by
  obtain ⟨_,vs,e1,_⟩:=id e
  exact x.up x.nd.p_out f e1 (fun _ c=>c.w_out x.nd f e) rfl
theorem SellerAt.w_told {v:List (Int×Bool)} (x:SellerAt A H s S num M) (f:Fr [s.told] H H') (e:LsAt H' s.told (v.map tellD)) : SellerAt A H' s S num { M with told:=v }:=by
  obtain ⟨_,vs,e1,_⟩:=id e
  exact x.up x.nd.p_told f e1 (fun _ c=>c.w_told x.nd f e) rfl
end
def SStep (A:Ad) (H:Hp) (s:SP) (S:Setup) (num:Int) (M:SM) (Q:Hp→Prop) : Prop:=∀ H':Hp,Fr s.os H H'→SellerAt A H' s S num M→Q H'
theorem SStep.pre {A:Ad} {H H1:Hp} {s:SP} {S:Setup} {num:Int} {M:SM} {Q:Hp→Prop} (k:SStep A H s S num M Q) (f:Fr s.os H H1) : SStep A H1 s S num M Q:=fun H' f' x=>k H' (f.transL f') x
def SM.start:SM:=⟨fun _=>0,[],[],none,[],[],0,[],[]⟩
theorem SM.start_ok {S:Setup}:SM.start.Ok S:=⟨fun _ h=>(nomatch h),List.nodup_nil,fun _ h=>(nomatch h),List.nodup_nil,fun _ h=>(nomatch h),fun _ h=>(nomatch h),fun _ h=>(by cases h)⟩
def P_Seller_init (K:PySem.W.Frag) (A:Ad) (x0 x1 x2:V) (H:Hp) (Q:VK) : Prop:=∃ (p dx:Addr) (S:Setup) (num:Int),x0=.ref p∧H p=some (.ins A.Seller dx [])∧Da H x1 (setupD S)∧x2=.int num∧SetupOk S∧
  ∀ (s:SP) (H':Hp),s.p=p→Fr [p] H H'→(∀ a∈s.os,a=p∨H a=none)→SellerAt A H' s S num SM.start→Q .non H'
def sp_Seller_init (K:PySem.W.Frag) (A:Ad) : Sp:=fun vs H Q _=>∃ x0 x1 x2,vs=[x0,x1,x2]∧P_Seller_init K A x0 x1 x2 H Q
theorem c_Seller_init {K:PySem.W.Frag} {A:Ad} {x0 x1 x2:V} {H:Hp} {Q:VK} {E:XK} (h:P_Seller_init K A x0 x1 x2 H Q) : sp_Seller_init K A [x0,x1,x2] H Q E:=⟨_,_,_,rfl,h⟩
theorem sc_Seller_init:FnScope ["self","setup","number","kind","night"] ["self","setup","number"] (defScope s_Seller_init):=⟨rfl,rfl,rfl,by decide +kernel,rfl,by decide +kernel,by decide +kernel⟩
def t_Seller_init (K:PySem.W.Frag) (A:Ad) : TS:=
  (tSeq (sFld K (tVar 0) (tVar 1) "setup")
    (tSeq (sFld K (tVar 0) (tVar 2) "number")
    (tSeq (sFld K (tVar 0) tDNewT "free")
    (tSeq (tFor (iRng1 (tCons (tCB (rLenSq K) (tCons (tOp (rIxT K) (tVar 1) (tC (.int 0))) tNil)) tNil)) (gName 3) (tFor (iRng1 (tCons (tOp (rIxT K) (tVar 1) (tC (.int 1))) tNil)) (gName 4) (sDPut (tFld K (tVar 0) "free") (tTup (tCons (tVar 3) (tCons (tVar 4) tNil))) (tC (.int 0)))))
    (tSeq (sFld K (tVar 0) tDNewK "vouchers")
    (tSeq (sFld K (tVar 0) (tLst tNil) "book")
    (tSeq (sFld K (tVar 0) (tC .non) "closing")
    (tSeq (sFld K (tVar 0) tDNewK "asked")
    (tSeq (sFld K (tVar 0) (tLst tNil) "waiting")
    (tSeq (sFld K (tVar 0) (tC (.int 0)) "count")
    (tSeq (sFld K (tVar 0) (tLst tNil) "outgoing")
    (sFld K (tVar 0) (tLst tNil) "told"))))))))))))
theorem pu_Seller_init (T:Txt K mg A) {x0 x1 x2:V} {H:Hp} {Q:VK} (h:P_Seller_init K A x0 x1 x2 H Q) : t_Seller_init K A { nx:=fun _ H'=>Q .non H',rt:=Q } [some x0,some x1,some x2,none,none] H:=by
  obtain ⟨p,dx,S,num,rfl,hp,dS,rfl,so,k⟩:=h
  obtain ⟨s,r,pp,prs,sa⟩:=SetAt.of dS
  cases sa.e
  have e0:=sa.t
  have er:=sa.r
  have hn:=so.n1
  have hn2:=so.n2
  have hk:=so.k1
  unfold t_Seller_init
  ((with_reducible refine g_seq (g_sfld ?_));walk_at "0";walk_at "0";(with_reducible refine' g_rflds (f:="setup") (C:=Ad.Seller _) ?h419 (Txt.cl_Seller (by assumption)) (Txt.no_Seller_setup (by assumption)) ?l419 ?e419 ?_);(case h419=>walk_at "fact");(case l419=>exact Nat.le_of_ble_eq_true rfl);(case e419=>exact rfl);intro _ _ _;(with_reducible refine g_seq (g_sfld ?_));walk_at "0";walk_at "0";(with_reducible refine' g_rflds (f:="number") (C:=Ad.Seller _) ?h421 (Txt.cl_Seller (by assumption)) (Txt.no_Seller_number (by assumption)) ?l421 ?e421 ?_);(case h421=>walk_at "fact");(case l421=>exact Nat.le_of_ble_eq_true rfl);(case e421=>exact rfl);intro _ _ _;(with_reducible refine g_seq (g_sfld ?_));(with_reducible refine g_dnew ?_);walk_at "new";walk_at "0";(with_reducible refine' g_rflds (f:="free") (C:=Ad.Seller _) ?h424 (Txt.cl_Seller (by assumption)) (Txt.no_Seller_free (by assumption)) ?l424 ?e424 ?_);(case h424=>walk_at "fact");(case l424=>exact Nat.le_of_ble_eq_true rfl);(case e424=>exact rfl);intro _ _ _;(with_reducible refine g_seq (g_for (g_i1 (g_cons (g_cb (g_cons ?_))))));walk_at "3";(with_reducible refine g_nil ?_);(with_reducible refine' g_lenT ?h427 ?_);(case h427=>walk_at "sqt");(with_reducible refine g_nil ?_))
  rename_i H1 f1 e1 H2 f2 e2 st H3 n3 f3 e3 H4 f4 e4
  have nsp : st≠p:=(ne_of_none e2 n3).symm
  have e34:=f4.at e3 (nin1 nsp nin0)
  have F4:Fr [p] H H4:=((f1.transL f2).then0 f3).transL f4
  have er4:=F4.tup _ _ er
  have e04:=F4.tup _ _ e0
  have nst:H st=none:=f1.freeL (f2.freeL n3 (nin1 nsp nin0)) (nin1 nsp nin0)
  have rl:(S.rooms.map V.int).length=S.rooms.length:=List.length_map _
  have hk3:=so.k3
  rw [rl]
  refine g_ri1 ⟨by omega,by omega⟩ ?_
  rw [Int.toNat_natCast]
  refine f_range (lo:=0) (n:=S.rooms.length) (fun i σ H'=>(∃ v3 v4,σ=[some (.ref p),some (.ref s),some (.int num),v3,v4])∧Fr [st] H4 H'∧H' st=some (.dT (cD (tabF (cellsK S.nights.toNat i) fun _=>0)))) ⟨⟨_,_,rfl⟩,Fr.refl,e34⟩ ?_ ?_
  · rintro i σ H5 hi ⟨⟨v3,v4,rfl⟩,f5,e5⟩
    have ep5:=f5.at e4 (nin1 nsp.symm nin0)
    have e05:=f5.tup _ _ e04
    ((with_reducible refine g_name (g_for (g_i1 (g_cons ?_))));walk_at "3";(with_reducible refine g_nil ?_);walk_at "12")
    simp only [Int.zero_add]
    refine f_range (lo:=0) (n:=S.nights.toNat) (fun j σ H'=>(∃ v4,σ=[some (.ref p),some (.ref s),some (.int num),some (.int (i:Nat)),v4])∧Fr [st] H5 H'∧H' st=some (.dT (cD (tabF (cellsK S.nights.toNat i++rowC j i) fun _=>0)))) ⟨⟨_,rfl⟩,Fr.refl,by rw [show rowC 0 i=[] from rfl,List.append_nil];exact e5⟩ ?_ ?_
    · rintro j σ H6 hj ⟨⟨v4,rfl⟩,f6,e6⟩
      have ep6:=f6.at ep5 (nin1 nsp.symm nin0)
      have hl6:(cD (tabF (cellsK S.nights.toNat i++rowC j i) fun _=>0)).length≤100000:=by
        rw [enD_len];unfold tabF;rw [List.length_map,List.length_append]
        have h1:(cellsK S.nights.toNat i).length≤3 * 12:=by
          have key:∀ (N k:Nat),(cellsK N k).length=k * N:=by
            intro N k
            induction k with
            | zero=>simp [cellsK]
            | succ k ih=>rw [cellsK_succ,List.length_append,ih];unfold rowC;rw [List.length_map,List.length_range,Nat.succ_mul]
          rw [key]
          exact Nat.mul_le_mul (by have:=so.k3;omega) (by omega)
        have h2:(rowC j i).length=j:=by unfold rowC;rw [List.length_map,List.length_range]
        omega
      ((with_reducible refine g_name (g_dput (g_c ?_)));walk_at "9";(with_reducible refine g_tup ?_);walk_at "1";walk_at "2";walk_at "5")
      rename_i q H7 n7 f7 e7
      rw [Int.zero_add] at e7
      have ep7:=f7.at0 ep6
      skip
      refine g_rdp (k:=ck ((i:Int),(j:Int))) (f7.at0 e6) e7 (szM (by omega)) fun H8 f8 e8=>?_
      refine ⟨⟨_,rfl⟩,(f6.then0 f7).transL f8,?_⟩
      rw [e8]
      have:=tab_put (fun _=>0) (new_cell (N:=S.nights.toNat) (i:=i) (j:=j))
      rw [this,List.append_assoc,← rowC_succ]
    · rintro σ H6 ⟨⟨v4,rfl⟩,f6,e6⟩
      refine ⟨⟨_,_,rfl⟩,f5.transL f6,?_⟩
      rw [e6,← cellsK_succ]
  · rintro σ H5 ⟨⟨v3,v4,rfl⟩,f5,e5⟩
    have ep5:=f5.at e4 (nin1 nsp.symm nin0)
    have al5:AL H5 [st,p]:=⟨List.nodup_cons.mpr ⟨nin1 nsp nin0,by simp⟩,fun a ha=>by
      rcases List.mem_cons.mp ha with q | q
      · rw [q];exact ⟨_,e5⟩
      · rw [List.mem_singleton.mp q];exact ⟨_,ep5⟩⟩
    have F5:Fr [p] H H5:=F4.own1 f5 nst
    clear e1 e2 e34 e3 f1 f2 f3 f4 F4 er4 e04 n3 f5 rl
    ((with_reducible refine g_seq (g_sfld ?_));(with_reducible refine g_dnewK ?_);walk_at "new";walk_at "0";(with_reducible refine' g_rflds (f:="vouchers") (C:=Ad.Seller _) ?h435 (Txt.cl_Seller (by assumption)) (Txt.no_Seller_vouchers (by assumption)) ?l435 ?e435 ?_);(case h435=>walk_at "fact");(case l435=>exact Nat.le_of_ble_eq_true rfl);(case e435=>exact rfl);intro _ _ _;(with_reducible refine g_seq (g_sfld (g_lst (g_nil ?_))));(with_reducible refine' g_newL ?h437 ?_);(case h437=>exact Nat.le_of_ble_eq_true rfl);walk_at "new";walk_at "0";(with_reducible refine' g_rflds (f:="book") (C:=Ad.Seller _) ?h438 (Txt.cl_Seller (by assumption)) (Txt.no_Seller_book (by assumption)) ?l438 ?e438 ?_);(case h438=>walk_at "fact");(case l438=>exact Nat.le_of_ble_eq_true rfl);(case e438=>exact rfl);intro _ _ _;(with_reducible refine g_seq (g_sfld (g_c ?_)));walk_at "0";(with_reducible refine' g_rflds (f:="closing") (C:=Ad.Seller _) ?h440 (Txt.cl_Seller (by assumption)) (Txt.no_Seller_closing (by assumption)) ?l440 ?e440 ?_);(case h440=>walk_at "fact");(case l440=>exact Nat.le_of_ble_eq_true rfl);(case e440=>exact rfl);intro _ _ _;(with_reducible refine g_seq (g_sfld ?_));(with_reducible refine g_dnewK ?_);walk_at "new";walk_at "0";(with_reducible refine' g_rflds (f:="asked") (C:=Ad.Seller _) ?h443 (Txt.cl_Seller (by assumption)) (Txt.no_Seller_asked (by assumption)) ?l443 ?e443 ?_);(case h443=>walk_at "fact");(case l443=>exact Nat.le_of_ble_eq_true rfl);(case e443=>exact rfl);intro _ _ _;(with_reducible refine g_seq (g_sfld (g_lst (g_nil ?_))));(with_reducible refine' g_newL ?h445 ?_);(case h445=>exact Nat.le_of_ble_eq_true rfl);walk_at "new";walk_at "0";(with_reducible refine' g_rflds (f:="waiting") (C:=Ad.Seller _) ?h446 (Txt.cl_Seller (by assumption)) (Txt.no_Seller_waiting (by assumption)) ?l446 ?e446 ?_);(case h446=>walk_at "fact");(case l446=>exact Nat.le_of_ble_eq_true rfl);(case e446=>exact rfl);intro _ _ _;(with_reducible refine g_seq (g_sfld (g_c ?_)));walk_at "0";(with_reducible refine' g_rflds (f:="count") (C:=Ad.Seller _) ?h448 (Txt.cl_Seller (by assumption)) (Txt.no_Seller_count (by assumption)) ?l448 ?e448 ?_);(case h448=>walk_at "fact");(case l448=>exact Nat.le_of_ble_eq_true rfl);(case e448=>exact rfl);intro _ _ _;(with_reducible refine g_seq (g_sfld (g_lst (g_nil ?_))));(with_reducible refine' g_newL ?h450 ?_);(case h450=>exact Nat.le_of_ble_eq_true rfl);walk_at "new";walk_at "0";(with_reducible refine' g_rflds (f:="outgoing") (C:=Ad.Seller _) ?h451 (Txt.cl_Seller (by assumption)) (Txt.no_Seller_outgoing (by assumption)) ?l451 ?e451 ?_);(case h451=>walk_at "fact");(case l451=>exact Nat.le_of_ble_eq_true rfl);(case e451=>exact rfl);intro _ _ _;(with_reducible refine g_sfld (g_lst (g_nil ?_)));(with_reducible refine' g_newL ?h453 ?_);(case h453=>exact Nat.le_of_ble_eq_true rfl);walk_at "new";walk_at "0";(with_reducible refine' g_rflds (f:="told") (C:=Ad.Seller _) ?h454 (Txt.cl_Seller (by assumption)) (Txt.no_Seller_told (by assumption)) ?l454 ?e454 ?_);(case h454=>walk_at "fact");(case l454=>exact Nat.le_of_ble_eq_true rfl);(case e454=>exact rfl);intro _ _ _)
    rename_i vo H6 n6 f6 e6 H7 f7 e7 bk H8 n8 f8 e8 H9 f9 e9 H10 f10 e10 ak H11 n11 f11 e11 H12 f12 e12 wt H13 n13 f13 e13 H14 f14 e14 H15 f15 e15 ou H16 n16 f16 e16 H17 f17 e17 td H18 n18 f18 e18 H19 f19 e19
    have up:∀ {Ha Hb:Hp} {l:List Addr} {u:HO},AL Ha l→Fr [p] Ha Hb→Hb p=some u→AL Hb l:=fun x f e=>⟨x.1,fun a ha=>by
      by_cases z : a=p
      · rw [z];exact ⟨_,e⟩
      · obtain ⟨o,q⟩:=x.2 a ha;exact ⟨o,f.at q (nin1 z nin0)⟩⟩
    have a7:=up (al5.new f6 n6 e6) f7 e7
    have a10:=up (up (a7.new f8 n8 e8) f9 e9) f10 e10
    have a12:=up (a10.new f11 n11 e11) f12 e12
    have a15:=up (up (a12.new f13 n13 e13) f14 e14) f15 e15
    have a17:=up (a15.new f16 n16 e16) f17 e17
    have a19:=up (a17.new f18 n18 e18) f19 e19
    have aos:AL H19 (SP.os ⟨p,st,vo,bk,ak,wt,ou,td⟩):=a19.perm (List.reverse_perm [p,st,vo,bk,ak,wt,ou,td])
    have nd:=SPNd.of aos.1
    have F7:Fr [p] H H7:=(F5.then0 f6).transL f7
    have F10:Fr [p] H H10:=((F7.then0 f8).transL f9).transL f10
    have F12:Fr [p] H H12:=(F10.then0 f11).transL f12
    have F15:Fr [p] H H15:=((F12.then0 f13).transL f14).transL f15
    have F17:Fr [p] H H17:=(F15.then0 f16).transL f17
    have F19:Fr [p] H H19:=(F17.then0 f18).transL f19
    have G17:Fr [p] H16 H19:=(f17.then0 f18).transL f19
    have G15:Fr [p] H13 H19:=((f14.transL f15).then0 f16).transL G17
    have G12:Fr [p] H11 H19:=(f12.then0 f13).transL G15
    have G9:Fr [p] H8 H19:=((f9.transL f10).then0 f11).transL G12
    have G7:Fr [p] H6 H19:=(f7.then0 f8).transL G9
    have np:∀ {a:Addr},a≠p→a∉[p]:=fun q=>nin1 q nin0
    refine k ⟨p,st,vo,bk,ak,wt,ou,td⟩ H19 rfl F19 (fun a ha=>?_) ⟨⟨dx,.ref s,.non,e19,Da.frL F19 dS (imm_setup S),⟨(f6.pre0 G7).at e5 (np nd.p_fr.symm),?_,?_,?_,?_,?_,?_,.non⟩⟩,aos⟩
    · have ha' : a=p∨a=st∨a=vo∨a=bk∨a=ak∨a=wt∨a=ou∨a=td:=by simpa [SP.os] using ha
      rcases ha' with z | z | z | z | z | z | z | z
      · exact .inl z
      · rw [z];exact .inr nst
      · rw [z];exact .inr (F5.freeL n6 (np nd.p_vo.symm))
      · rw [z];exact .inr (F7.freeL n8 (np nd.p_bk.symm))
      · rw [z];exact .inr (F10.freeL n11 (np nd.p_ask.symm))
      · rw [z];exact .inr (F12.freeL n13 (np nd.p_wt.symm))
      · rw [z];exact .inr (F15.freeL n16 (np nd.p_out.symm))
      · rw [z];exact .inr (F17.freeL n18 (np nd.p_told.symm))
    · exact DkAt.nil (G7.at e6 (np nd.p_vo.symm))
    · exact LsAt.nil (G9.at e8 (np nd.p_bk.symm))
    · exact DkAt.nil (G12.at e11 (np nd.p_ask.symm))
    · exact LsAt.nil (G15.at e13 (np nd.p_wt.symm))
    · exact LsAt.nil (G17.at e16 (np nd.p_out.symm))
    · exact LsAt.nil (f19.at e18 (np nd.p_told.symm))
theorem ok_Seller_init {f:Addr} {fd:FuncData} (F:Fun K "__init__" "Seller.__init__" s_Seller_init f fd) (T:Txt K mg A)  : FnOk P w K mg base CX0 (1) f fd ["self","setup","number"] (sp_Seller_init K A):=by
  refine F.ok sc_Seller_init (fun vs H Q E h=>?_) (fun cdv Ar outer s H vs Q E hr h=>⟨t_Seller_init K A,?_,?_⟩)
  · obtain ⟨x0,x1,x2,rfl,_⟩:=h
    rfl
  · have hu:=hu_of hr
    exact (pss_cons (ps_fld (pv 0) (pv 1) rfl)
    (pss_cons (ps_fld (pv 0) (pv 2) rfl)
    (pss_cons (ps_fld (pv 0) pe_dnewT rfl)
    (pss_cons (ps_for PassesOwn.never rfl (pi_range1 rfl T.b_range (pa_cons (pe_callB b_len (by rfl) T.b_len (by decide +kernel) (pa_cons (pe_ix ix_tup (pv 1) pe_int (fun _ _=>rfl)) pa_nil)) pa_nil)) (pg_name (i:=3) sc_Seller_init.nd rfl (Or.inl rfl)) (pss_one (ps_for PassesOwn.never rfl (pi_range1 rfl T.b_range (pa_cons (pe_ix ix_tup (pv 1) pe_int (fun _ _=>rfl)) pa_nil)) (pg_name (i:=4) sc_Seller_init.nd rfl (Or.inl rfl)) (pss_one (ps_dput hu (pe_fld (pv 0) rfl) (pe_tup (pa_cons (pv 3) (pa_cons (pv 4) pa_nil))) pe_int rfl)))))
    (pss_cons (ps_fld (pv 0) pe_dnewK rfl)
    (pss_cons (ps_fld (pv 0) (pe_lst pa_nil) rfl)
    (pss_cons (ps_fld (pv 0) pe_non rfl)
    (pss_cons (ps_fld (pv 0) pe_dnewK rfl)
    (pss_cons (ps_fld (pv 0) (pe_lst pa_nil) rfl)
    (pss_cons (ps_fld (pv 0) pe_int rfl)
    (pss_cons (ps_fld (pv 0) (pe_lst pa_nil) rfl)
    (pss_one (ps_fld (pv 0) (pe_lst pa_nil) rfl)))))))))))))
  · obtain ⟨x0,x1,x2,rfl,h⟩:=h
    exact pu_Seller_init T h
def P_Seller_bodies (K:PySem.W.Frag) (A:Ad) (x0:V) (H:Hp) (Q:VK) : Prop:=∃ (s:SP) (S:Setup) (num:Int) (M:SM),x0=.ref s.p∧SellerAt A H s S num M∧
  ∀ (o:Addr) (H':Hp),H o=none→Fr [s.p] H H'→SellerAt A H' { s with out:=o } S num { M with out:=[] }→LsAt H' s.out (M.out.map upD)→Q (.ref s.out) H'
def sp_Seller_bodies (K:PySem.W.Frag) (A:Ad) : Sp:=fun vs H Q _=>∃ x0,vs=[x0]∧P_Seller_bodies K A x0 H Q
theorem c_Seller_bodies {K:PySem.W.Frag} {A:Ad} {x0:V} {H:Hp} {Q:VK} {E:XK} (h:P_Seller_bodies K A x0 H Q) : sp_Seller_bodies K A [x0] H Q E:=⟨_,rfl,h⟩
theorem sc_Seller_bodies:FnScope ["self","found"] ["self"] (defScope s_Seller_bodies):=⟨rfl,rfl,rfl,by decide +kernel,rfl,by decide +kernel,by decide +kernel⟩
def t_Seller_bodies (K:PySem.W.Frag) (A:Ad) : TS:=
  (tSeq (tAsg (tFld K (tVar 0) "outgoing") (gName 1))
    (tSeq (sFld K (tVar 0) (tLst tNil) "outgoing")
    (tRet (tVar 1))))
theorem pu_Seller_bodies (T:Txt K mg A) {x0:V} {H:Hp} {Q:VK} (h:P_Seller_bodies K A x0 H Q) : t_Seller_bodies K A { nx:=fun _ H'=>Q .non H',rt:=Q } [some x0,none] H:=by
  obtain ⟨s,S,num,M,rfl,x,k⟩:=h
  have nd:=x.nd
  obtain ⟨⟨dx,sv,clv,e,dS,c⟩,al⟩:=x
  unfold t_Seller_bodies
  ((with_reducible refine j_sa ?_);(with_reducible refine' j_fv (f:="outgoing") (C:=Ad.Seller _) ?k456 ?h456 (Txt.cl_Seller (by assumption)) (Txt.no_Seller_outgoing (by assumption)) ?l456 ?_);(case k456=>exact rfl);(case h456=>walk_at "fact");(case l456=>exact rfl);(with_reducible refine g_name (g_seq (g_sfld (g_lst (g_nil ?_)))));(with_reducible refine' g_newL ?h458 ?_);(case h458=>exact Nat.le_of_ble_eq_true rfl);walk_at "new";walk_at "0";(with_reducible refine' g_rflds (f:="outgoing") (C:=Ad.Seller _) ?h459 (Txt.cl_Seller (by assumption)) (Txt.no_Seller_outgoing (by assumption)) ?l459 ?e459 ?_);(case h459=>walk_at "fact");(case l459=>exact Nat.le_of_ble_eq_true rfl);(case e459=>exact rfl);intro _ _ _;(with_reducible refine g_ret ?_);walk_at "0")
  rename_i o H1 n1 f1 e1 H2 f2 e2
  have a1:=al.new f1 n1 e1
  have no : o∉s.os:=(List.nodup_cons.mp a1.1).1
  have np:∀ {a:Addr},a≠s.p→a∉[s.p]:=fun q=>nin1 q nin0
  have nop : o≠s.p:=fun z=>no (by rw [z];simp [SP.os])
  have F:Fr [s.p] H H2:=f2.pre0' f1
  refine k o H2 n1 F ⟨⟨dx,sv,clv,e2,Da.frL F dS (imm_setup S),⟨F.at c.fr (np nd.p_fr.symm),c.vo.fr F (np nd.p_vo.symm),c.bk.fr F (np nd.p_bk.symm),c.ask.fr F (np nd.p_ask.symm),c.wt.fr F (np nd.p_wt.symm),LsAt.nil (f2.at e1 (np nop)),c.told.fr F (np nd.p_told.symm),Da.frL F c.clv (imm_clos _)⟩⟩,?_⟩ (c.out.fr F (np nd.p_out.symm))
  have s2:AL H2 (o::s.os):=⟨a1.1,fun a ha=>by
    by_cases z : a=s.p
    · rw [z];exact ⟨_,e2⟩
    · obtain ⟨u,eu⟩:=a1.2 a ha;exact ⟨u,f2.at eu (np z)⟩⟩
  have p1:(o::s.os).Perm (s.out::[s.p,s.fr,s.vo,s.bk,s.ask,s.wt,o,s.told]):=by
    unfold SP.os
    refine (List.perm_middle (l₁:=[o,s.p,s.fr,s.vo,s.bk,s.ask,s.wt]) (l₂:=[s.told]) (a:=s.out)).trans ?_
    exact List.Perm.cons _ (List.perm_middle (l₁:=[s.p,s.fr,s.vo,s.bk,s.ask,s.wt]) (l₂:=[s.told]) (a:=o)).symm
  have s3:=s2.perm p1
  exact ⟨(List.nodup_cons.mp s3.1).2,fun a ha=>s3.2 a (List.mem_cons_of_mem _ ha)⟩
theorem ok_Seller_bodies {f:Addr} {fd:FuncData} (F:Fun K "bodies" "Seller.bodies" s_Seller_bodies f fd) (T:Txt K mg A)  : FnOk P w K mg base CX0 (1) f fd ["self"] (sp_Seller_bodies K A):=by
  refine F.ok sc_Seller_bodies (fun vs H Q E h=>?_) (fun cdv Ar outer s H vs Q E hr h=>⟨t_Seller_bodies K A,?_,?_⟩)
  · obtain ⟨x0,rfl,_⟩:=h
    rfl
  · have hu:=hu_of hr
    exact (pss_cons (ps_set (i:=1) sc_Seller_bodies.nd rfl (Or.inl rfl) (pe_fld (pv 0) rfl))
    (pss_cons (ps_fld (pv 0) (pe_lst pa_nil) rfl)
    (pss_one (ps_ret (pv 1)))))
  · obtain ⟨x0,rfl,h⟩:=h
    exact pu_Seller_bodies T h
def P_Seller_answers (K:PySem.W.Frag) (A:Ad) (x0:V) (H:Hp) (Q:VK) : Prop:=∃ (s:SP) (S:Setup) (num:Int) (M:SM),x0=.ref s.p∧SellerAt A H s S num M∧
  ∀ (o:Addr) (H':Hp),H o=none→Fr [s.p] H H'→SellerAt A H' { s with told:=o } S num { M with told:=[] }→LsAt H' s.told (M.told.map tellD)→Q (.ref s.told) H'
def sp_Seller_answers (K:PySem.W.Frag) (A:Ad) : Sp:=fun vs H Q _=>∃ x0,vs=[x0]∧P_Seller_answers K A x0 H Q
theorem c_Seller_answers {K:PySem.W.Frag} {A:Ad} {x0:V} {H:Hp} {Q:VK} {E:XK} (h:P_Seller_answers K A x0 H Q) : sp_Seller_answers K A [x0] H Q E:=⟨_,rfl,h⟩
theorem sc_Seller_answers:FnScope ["self","found"] ["self"] (defScope s_Seller_answers):=⟨rfl,rfl,rfl,by decide +kernel,rfl,by decide +kernel,by decide +kernel⟩
def t_Seller_answers (K:PySem.W.Frag) (A:Ad) : TS:=
  (tSeq (tAsg (tFld K (tVar 0) "told") (gName 1))
    (tSeq (sFld K (tVar 0) (tLst tNil) "told")
    (tRet (tVar 1))))
theorem pu_Seller_answers (T:Txt K mg A) {x0:V} {H:Hp} {Q:VK} (h:P_Seller_answers K A x0 H Q) : t_Seller_answers K A { nx:=fun _ H'=>Q .non H',rt:=Q } [some x0,none] H:=by
  obtain ⟨s,S,num,M,rfl,x,k⟩:=h
  have nd:=x.nd
  obtain ⟨⟨dx,sv,clv,e,dS,c⟩,al⟩:=x
  unfold t_Seller_answers
  ((with_reducible refine j_sa ?_);(with_reducible refine' j_fv (f:="told") (C:=Ad.Seller _) ?k462 ?h462 (Txt.cl_Seller (by assumption)) (Txt.no_Seller_told (by assumption)) ?l462 ?_);(case k462=>exact rfl);(case h462=>walk_at "fact");(case l462=>exact rfl);(with_reducible refine g_name (g_seq (g_sfld (g_lst (g_nil ?_)))));(with_reducible refine' g_newL ?h464 ?_);(case h464=>exact Nat.le_of_ble_eq_true rfl);walk_at "new";walk_at "0";(with_reducible refine' g_rflds (f:="told") (C:=Ad.Seller _) ?h465 (Txt.cl_Seller (by assumption)) (Txt.no_Seller_told (by assumption)) ?l465 ?e465 ?_);(case h465=>walk_at "fact");(case l465=>exact Nat.le_of_ble_eq_true rfl);(case e465=>exact rfl);intro _ _ _;(with_reducible refine g_ret ?_);walk_at "0")
  rename_i o H1 n1 f1 e1 H2 f2 e2
  have a1:=al.new f1 n1 e1
  have no : o∉s.os:=(List.nodup_cons.mp a1.1).1
  have np:∀ {a:Addr},a≠s.p→a∉[s.p]:=fun q=>nin1 q nin0
  have nop : o≠s.p:=fun z=>no (by rw [z];simp [SP.os])
  have F:Fr [s.p] H H2:=f2.pre0' f1
  refine k o H2 n1 F ⟨⟨dx,sv,clv,e2,Da.frL F dS (imm_setup S),⟨F.at c.fr (np nd.p_fr.symm),c.vo.fr F (np nd.p_vo.symm),c.bk.fr F (np nd.p_bk.symm),c.ask.fr F (np nd.p_ask.symm),c.wt.fr F (np nd.p_wt.symm),c.out.fr F (np nd.p_out.symm),LsAt.nil (f2.at e1 (np nop)),Da.frL F c.clv (imm_clos _)⟩⟩,?_⟩ (c.told.fr F (np nd.p_told.symm))
  have s2:AL H2 (o::s.os):=⟨a1.1,fun a ha=>by
    by_cases z : a=s.p
    · rw [z];exact ⟨_,e2⟩
    · obtain ⟨u,eu⟩:=a1.2 a ha;exact ⟨u,f2.at eu (np z)⟩⟩
  have p1:(o::s.os).Perm (s.told::[s.p,s.fr,s.vo,s.bk,s.ask,s.wt,s.out,o]):=by
    unfold SP.os
    refine (List.perm_middle (l₁:=[o,s.p,s.fr,s.vo,s.bk,s.ask,s.wt,s.out]) (l₂:=[]) (a:=s.told)).trans ?_
    exact List.Perm.cons _ (List.perm_middle (l₁:=[s.p,s.fr,s.vo,s.bk,s.ask,s.wt,s.out]) (l₂:=[]) (a:=o)).symm
  have s3:=s2.perm p1
  exact ⟨(List.nodup_cons.mp s3.1).2,fun a ha=>s3.2 a (List.mem_cons_of_mem _ ha)⟩
theorem ok_Seller_answers {f:Addr} {fd:FuncData} (F:Fun K "answers" "Seller.answers" s_Seller_answers f fd) (T:Txt K mg A)  : FnOk P w K mg base CX0 (1) f fd ["self"] (sp_Seller_answers K A):=by
  refine F.ok sc_Seller_answers (fun vs H Q E h=>?_) (fun cdv Ar outer s H vs Q E hr h=>⟨t_Seller_answers K A,?_,?_⟩)
  · obtain ⟨x0,rfl,_⟩:=h
    rfl
  · have hu:=hu_of hr
    exact (pss_cons (ps_set (i:=1) sc_Seller_answers.nd rfl (Or.inl rfl) (pe_fld (pv 0) rfl))
    (pss_cons (ps_fld (pv 0) (pe_lst pa_nil) rfl)
    (pss_one (ps_ret (pv 1)))))
  · obtain ⟨x0,rfl,h⟩:=h
    exact pu_Seller_answers T h
def P_Seller_voucher (K:PySem.W.Frag) (A:Ad) (x0 x1:V) (H:Hp) (Q:VK) : Prop:=∃ (s:SP) (S:Setup) (num:Int) (M:SM) (d:Deed),x0=.ref s.p∧SellerAt A H s S num M∧Da H x1 (deedD d)∧
  ∀ (v:V) (H':Hp),Fr [] H H'→Da H' v (partyD (M.old d))→Q v H'
def sp_Seller_voucher (K:PySem.W.Frag) (A:Ad) : Sp:=fun vs H Q _=>∃ x0 x1,vs=[x0,x1]∧P_Seller_voucher K A x0 x1 H Q
theorem c_Seller_voucher {K:PySem.W.Frag} {A:Ad} {x0 x1:V} {H:Hp} {Q:VK} {E:XK} (h:P_Seller_voucher K A x0 x1 H Q) : sp_Seller_voucher K A [x0,x1] H Q E:=⟨_,_,rfl,h⟩
theorem sc_Seller_voucher:FnScope ["self","deed"] ["self","deed"] (defScope s_Seller_voucher):=⟨rfl,rfl,rfl,by decide +kernel,rfl,by decide +kernel,by decide +kernel⟩
def t_Seller_voucher (K:PySem.W.Frag) (A:Ad) : TS:=
  (tRet (tIf (tTest (tOp rEq (tOp (rIxT K) (tVar 1) (tC (.int 0))) (tC (.str "wish")))) (tTup tNil) (tDGet2 (tFld K (tVar 0) "vouchers") (tOp (rIxT K) (tVar 1) (tC (.int 1))) (tTup tNil))))
theorem pu_Seller_voucher (T:Txt K mg A) {x0 x1:V} {H:Hp} {Q:VK} (h:P_Seller_voucher K A x0 x1 H Q) : t_Seller_voucher K A { nx:=fun _ H'=>Q .non H',rt:=Q } [some x0,some x1] H:=by
  obtain ⟨s,S,num,M,d,rfl,x,dd,k⟩:=h
  have nd:=x.nd
  obtain ⟨⟨dx,sv,clv,e,dS,c⟩,al⟩:=x
  obtain ⟨kvs,ev,rv⟩:=c.vo
  obtain ⟨a,xs,rfl,ea,_,q⟩ : ∃ a xs,x1=.ref a∧H a=some (.tup xs)∧xs.length≤1000000∧DaL H xs (match d with | .wish p=>[.str "wish",partyD p] | .cancel k=>[.str "cancel",.int k] | .change k p=>[.str "change",.int k,partyD p]):=by
    cases d <;> exact dd.tup1
  unfold t_Seller_voucher
  cases d with
  | wish p=>
    obtain ⟨x,y,rfl,d1,d2⟩:=q.two
    cases d1.str1
    ((with_reducible refine g_ret (g_ifE (g_test (g_op ?_))));walk_at "3";(with_reducible refine j_es ?_))
    refine g_ite (fun _=>?_) (fun z=>absurd rfl z)
    ((with_reducible refine g_tup (g_nil ?_));walk_at "5")
    rename_i t H1 n1 f1 e1
    exact k _ H1 f1 (.tup e1 (Nat.zero_le _) .nil)
  | cancel kk=>
    obtain ⟨x,y,rfl,d1,d2⟩:=q.two
    cases d1.str1
    cases d2.int1
    ((with_reducible refine g_ret (g_ifE (g_test (g_op ?_))));walk_at "3";(with_reducible refine j_es ?_))
    refine g_ite (fun z=>absurd z (by decide)) (fun _=>?_)
    ((with_reducible refine g_dget2 ?_);(with_reducible refine' j_fv (f:="vouchers") (C:=Ad.Seller _) ?k473 ?h473 (Txt.cl_Seller (by assumption)) (Txt.no_Seller_vouchers (by assumption)) ?l473 ?_);(case k473=>exact rfl);(case h473=>walk_at "fact");(case l473=>exact rfl);(with_reducible refine' g_rdg2K ?h474 ?_);(case h474=>walk_at "rdt");walk_at "3";(with_reducible refine g_tup (g_nil ?_));walk_at "5")
    rename_i t H1 n1 f1 e1
    refine g_dgoI (.inl (f1.at0 ev)) ?_
    rcases DkR.look rv kk with ⟨h1,h2⟩ | ⟨v,p,h1,h2,h3⟩
    · rw [h2];exact k _ H1 f1 (by show Da H1 (.ref t) (partyD ((lk M.vo kk).getD []));rw [h1];exact .tup e1 (Nat.zero_le _) .nil)
    · rw [h2];exact k _ H1 f1 (by show Da H1 v (partyD ((lk M.vo kk).getD []));rw [h1];exact Da.frL f1 h3 (imm_party _))
  | change kk p=>
    obtain ⟨x,y,z,rfl,d1,d2,d3⟩:=q.three
    cases d1.str1
    cases d2.int1
    ((with_reducible refine g_ret (g_ifE (g_test (g_op ?_))));walk_at "3";(with_reducible refine j_es ?_))
    refine g_ite (fun z=>absurd z (by decide)) (fun _=>?_)
    ((with_reducible refine g_dget2 ?_);(with_reducible refine' j_fv (f:="vouchers") (C:=Ad.Seller _) ?k479 ?h479 (Txt.cl_Seller (by assumption)) (Txt.no_Seller_vouchers (by assumption)) ?l479 ?_);(case k479=>exact rfl);(case h479=>walk_at "fact");(case l479=>exact rfl);(with_reducible refine' g_rdg2K ?h480 ?_);(case h480=>walk_at "rdt");walk_at "3";(with_reducible refine g_tup (g_nil ?_));walk_at "5")
    rename_i t H1 n1 f1 e1
    refine g_dgoI (.inl (f1.at0 ev)) ?_
    rcases DkR.look rv kk with ⟨h1,h2⟩ | ⟨v,p,h1,h2,h3⟩
    · rw [h2];exact k _ H1 f1 (by show Da H1 (.ref t) (partyD ((lk M.vo kk).getD []));rw [h1];exact .tup e1 (Nat.zero_le _) .nil)
    · rw [h2];exact k _ H1 f1 (by show Da H1 v (partyD ((lk M.vo kk).getD []));rw [h1];exact Da.frL f1 h3 (imm_party _))
theorem ok_Seller_voucher {f:Addr} {fd:FuncData} (F:Fun K "voucher" "Seller.voucher" s_Seller_voucher f fd) (T:Txt K mg A)  : FnOk P w K mg base CX0 (1) f fd ["self","deed"] (sp_Seller_voucher K A):=by
  refine F.ok sc_Seller_voucher (fun vs H Q E h=>?_) (fun cdv Ar outer s H vs Q E hr h=>⟨t_Seller_voucher K A,?_,?_⟩)
  · obtain ⟨x0,x1,rfl,_⟩:=h
    rfl
  · have hu:=hu_of hr
    exact (pss_one (ps_ret (pe_ifExp (pt_cmpR op_eq (pe_ix ix_tup (pv 1) pe_int (fun _ _=>rfl)) pe_str (nomark _)) (pe_tup pa_nil) (pe_dget2 hu (pe_fld (pv 0) rfl) (pe_ix ix_tup (pv 1) pe_int (fun _ _=>rfl)) (pe_tup pa_nil) ⟨rfl,rfl,rfl,rfl⟩))))
  · obtain ⟨x0,x1,rfl,h⟩:=h
    exact pu_Seller_voucher T h
def csN (m:List (Cell×Int)) : List (List Int):=m.map fun e=>[e.1.1,e.1.2]
theorem csN_keys (m:List (Cell×Int)) : (cD m).map (·.1)=(csN m).map fun c=>c.map Sum.inl:=by
  show (m.map fun e=>(ck e.1,V.int e.2)).map (·.1)=_
  unfold csN
  rw [List.map_map,List.map_map];rfl
theorem csN_alike (m:List (Cell×Int)) : PySem.W.AllAlike ((csN m).map intsD):=fun d hd d' hd'=>by
  obtain ⟨c,hc,rfl⟩:=List.mem_map.mp hd
  obtain ⟨c',hc',rfl⟩:=List.mem_map.mp hd'
  obtain ⟨e,_,rfl⟩:=List.mem_map.mp hc
  obtain ⟨e',_,rfl⟩:=List.mem_map.mp hc'
  rfl
theorem csN_sortable (m:List (Cell×Int)) : PySem.W.Sortable ((csN m).map intsD):=.inl fun d hd=>by
  obtain ⟨c,hc,rfl⟩:=List.mem_map.mp hd
  obtain ⟨e,_,rfl⟩:=List.mem_map.mp hc
  exact ⟨_,_,rfl⟩
theorem csN_small (m:List (Cell×Int)) : ∀ c∈csN m,(intsD c).depth≤60∧c.length≤1000000:=fun c hc=>by
  obtain ⟨e,_,rfl⟩:=List.mem_map.mp hc
  simp [intsD,PyData.depth,PyData.depthAll]
theorem csN_get {m:List (Cell×Int)} {H:Hp} {ys:List V} (dy:DaL H ys (srt ((csN m).map intsD))) {z:Nat} {v:V} (h : ys[z]? = some v) : ∃ (t:Addr) (e:Cell×Int),e∈m∧v=.ref t∧H t=some (.tup [.int e.1.1,.int e.1.2]):=by
  obtain ⟨d,hd,dd⟩:=dy.get h
  obtain ⟨c,hc,rfl⟩:=List.mem_map.mp ((srt_perm _).mem_iff.mp (List.mem_of_getElem? hd))
  obtain ⟨e,he,rfl⟩:=List.mem_map.mp hc
  obtain ⟨t,xs,rfl,et,_,q⟩:=dd.tup1
  obtain ⟨x,y,rfl,dx,dy⟩:=q.two
  cases dx.int1
  cases dy.int1
  exact ⟨t,e,he,rfl,et⟩
theorem imm_csN (m:List (Cell×Int)) : immL (srt ((csN m).map intsD))=true:=immL_of fun d hd=>by
  obtain ⟨c,_,rfl⟩:=List.mem_map.mp ((srt_perm _).mem_iff.mp hd)
  exact immL_map (fun _=>rfl) c
theorem needs_le {S:Setup} (so:SetupOk S) {ss:List Stay} (ok:∀ s∈ss,StayOk S s) : (needsL ss).length≤36:=by
  have h:=List.Nodup.length_le_of_subset (l₁:=(needsL ss).map fun e:Cell×Int=>e.1) (l₂:=cellsAll S) (needs_nd ss) fun c hc=>by
    obtain ⟨e,he,rfl⟩:=List.mem_map.mp hc
    exact (mem_cells so.n1).mpr (cell_ok so ok he)
  rw [List.length_map,cells_len] at h
  have h1:=so.k3
  have h2:=so.n2
  exact Nat.le_trans h (Nat.le_trans (Nat.mul_le_mul h1 (show S.nights.toNat≤12 by omega)) (by decide))
def headD:Deed→PyData
  | .wish p=>.tuple [.str "wish",partyD p]
  | .cancel k=>.tuple [.str "cancel",.int k]
  | .change k _=>.tuple [.str "change",.int k]
theorem lay_stays:∀ p:List Stay,PyData.canLayAll0 (p.map stayD)=true∧PyData.depthAll (p.map stayD)≤1
  | []=>⟨by simp [PyData.canLayAll0],by simp [PyData.depthAll]⟩
  | s::p=>by
    obtain ⟨h1,h2⟩:=lay_stays p
    refine ⟨?_,?_⟩
    · simp [PyData.canLayAll0,PyData.canLay0,stayD,h1]
    · simp only [List.map_cons,PyData.depthAll,stayD,PyData.depth];omega
theorem lay_party (p:List Stay) : (partyD p).canLay0=true∧(partyD p).depth≤2:=by
  obtain ⟨h1,h2⟩:=lay_stays p
  refine ⟨?_,?_⟩
  · show PyData.canLay0 (.tuple _)=true
    simp only [PyData.canLay0];exact h1
  · show PyData.depth (.tuple _)≤2
    simp only [PyData.depth];omega
theorem head_shaped (d:Deed) : SeqAt.shaped (headD d)=true:=by
  cases d with
  | wish p=>
    obtain ⟨h1,h2⟩:=lay_party p
    show (_ && _)=true
    rw [Bool.and_eq_true]
    refine ⟨by simp [headD,PyData.canLay0,PyData.canLayAll0,h1];decide +kernel,decide_eq_true ?_⟩
    simp only [headD,PyData.depth,PyData.depthAll];omega
  | cancel k=>simp [SeqAt.shaped,headD,PyData.canLay0,PyData.canLayAll0,PyData.depth,PyData.depthAll];decide +kernel
  | change k p=>simp [SeqAt.shaped,headD,PyData.canLay0,PyData.canLayAll0,PyData.depth,PyData.depthAll];decide +kernel
theorem imm_head (d:Deed) : imm (headD d)=true:=by
  cases d with
  | wish p=>show (true && (imm (partyD p) && true))=true;rw [imm_party];rfl
  | cancel k=>rfl
  | change k p=>rfl
theorem int_beq (a b:Int) : (a == b)=decide (a=b):=by
  by_cases h : a=b <;> simp [h]
theorem head_eqv (d:Deed) (k:Int) : PyData.eqv (headD d) (.tuple [.str "change",.int k])=isCh k d:=by
  have h1:((Str.ofString "wish") == (Str.ofString "change"))=false:=by decide
  have h2:((Str.ofString "cancel") == (Str.ofString "change"))=false:=by decide
  cases d with
  | wish p=>
    simp only [headD,PyData.eqv,PyData.eqvAll,isCh]
    rw [h1,Bool.false_and]
  | cancel j=>
    simp only [headD,PyData.eqv,PyData.eqvAll,isCh]
    rw [h2,Bool.false_and]
  | change j p=>simp [headD,PyData.eqv,PyData.eqvAll,isCh,int_beq]
theorem g_slD {K:PySem.W.Frag} {H:Hp} {Q:VK} {v:V} {d:Deed} (dv:Da H v (deedD d)) (k:∀ w H',Fr [] H H'→Da H' w (headD d)→Q w H') : rSlA K v none (some 2) H Q:=by
  cases d with
  | wish p=>
    obtain ⟨a,xs,rfl,ea,_,q⟩:=dv.tup1
    obtain ⟨x,y,rfl,d1,d2⟩:=q.two
    exact g_slA (SqT.of ea) (fun _=>k _ H Fr.refl dv) fun n=>absurd (show HT.sIx 2 0 none=0∧HT.sIx 2 2 (some 2)=2 by decide) n
  | cancel j=>
    obtain ⟨a,xs,rfl,ea,_,q⟩:=dv.tup1
    obtain ⟨x,y,rfl,d1,d2⟩:=q.two
    exact g_slA (SqT.of ea) (fun _=>k _ H Fr.refl dv) fun n=>absurd (show HT.sIx 2 0 none=0∧HT.sIx 2 2 (some 2)=2 by decide) n
  | change j p=>
    obtain ⟨a,xs,rfl,ea,_,q⟩:=dv.tup1
    obtain ⟨x,y,z,rfl,d1,d2,d3⟩:=q.three
    refine g_slA (SqT.of ea) (fun n=>absurd n (show ¬ (HT.sIx 3 0 none=0∧HT.sIx 3 3 (some 2)=3) by decide)) fun _ l H' n f e=>k _ H' f ?_
    have e':H' l=some (.tup [x,y]):=e
    cases d1.str1
    cases d2.int1
    exact .tup e' (Nat.le_of_ble_eq_true rfl) (.cons (.str _) (.one' (.int _)))
theorem cell_eqv (a b:Cell) : PyData.eqv (cellD a) (cellD b)=decide (a=b):=by
  obtain ⟨a1,a2⟩:=a
  obtain ⟨b1,b2⟩:=b
  simp only [cellD,PyData.eqv,PyData.eqvAll,int_beq,Bool.and_true,Prod.mk.injEq]
  rw [Bool.decide_and]
theorem cells_any (cs:List Cell) (c:Cell) : ((cs.map cellD).any fun z=>PyData.eqv z (cellD c))=decide (c∈cs):=by
  induction cs with
  | nil=>rfl
  | cons x cs ih=>
    rw [List.map_cons,List.any_cons,ih,cell_eqv]
    by_cases h : x=c
    · simp [h]
    · simp [h,Ne.symm h]
theorem lay_cells:∀ cs:List Cell,PyData.canLayAll0 (cs.map cellD)=true
  | []=>by simp [PyData.canLayAll0]
  | c::cs=>by simp [PyData.canLayAll0,cellD,PyData.canLay0,lay_cells cs]
theorem g_inC {K:PySem.W.Frag} {H:Hp} {Q:VK} {x y:V} {c:Cell} {cs:List Cell} (dx:Da H x (cellD c)) (dy:Da H y (cellsD cs)) (q:Q (.bl (decide (c∈cs))) H) : rInDT K x y H Q:=
  g_inDT dx dy (by simp [cellD,PyData.canLay0,PyData.canLayAll0]) (lay_cells cs) (by simp [cellD,PyData.depth,PyData.depthAll]) (by rw [cells_any];exact q)
theorem keys_cells {H:Hp}:∀ {m:List (Cell×Int)} {bs:List Addr},IsKeys H (cD m) bs→DaL H (bs.map V.ref) ((m.map (·.1)).map cellD)
  | [],_,h=>by cases h;exact .nil
  | e::m,_,h=>by
    cases h with
    | cons h1 h2=>exact .cons (.tup h1 (Nat.le_of_ble_eq_true rfl) (.cons (.int _) (.one' (.int _)))) (keys_cells h2)
def SM.pd (M:SM) : Deed→Bool
  | .wish _=>false
  | .cancel k=>M.pend k
  | .change k _=>M.pend k
theorem waits_def (M:SM) (d:Deed) : M.waits d=(M.pd d || M.shut (cellsN d.party++cellsN (M.old d))):=by cases d <;> rfl
theorem party_tup {H:Hp} {v:V} {p:List Stay} (h:Da H v (partyD p)) : ∃ a xs,v=.ref a∧H a=some (.tup xs)∧DaL H xs (p.map stayD):=by
  obtain ⟨a,xs,e,ea,_,q⟩:=h.tup1
  exact ⟨a,xs,e,ea,q⟩
def deedL:Deed→List PyData
  | .wish p=>[.str "wish",partyD p]
  | .cancel k=>[.str "cancel",.int k]
  | .change k p=>[.str "change",.int k,partyD p]
theorem deed_tup {H:Hp} {v:V} {d:Deed} (h:Da H v (deedD d)) : ∃ a xs,v=.ref a∧H a=some (.tup xs)∧DaL H xs (deedL d):=by
  cases d <;> (obtain ⟨a,xs,e,ea,_,q⟩:=h.tup1;exact ⟨a,xs,e,ea,q⟩)
def nameOf:Deed→Option Int
  | .wish _=>none
  | .cancel k=>some k
  | .change k _=>some k
theorem pd_named {M:SM} {d:Deed} {k:Int} (h : nameOf d=some k) : M.pd d=M.pend k:=by
  cases d with
  | wish p=>cases h
  | cancel j=>cases h;rfl
  | change j p=>cases h;rfl
theorem deed_sort {H:Hp} {xs:List V} {d:Deed} (q:DaL H xs (deedL d)) : (∃ y p,d=.wish p∧xs=[.str "wish",y]∧Da H y (partyD p))∨∃ w kk rest,xs=.str w::.int kk::rest∧w≠"wish"∧nameOf d=some kk:=by
  cases d with
  | wish p=>
    obtain ⟨x,y,rfl,d1,d2⟩:=q.two
    cases d1.str1
    exact .inl ⟨y,p,rfl,rfl,d2⟩
  | cancel k=>
    obtain ⟨x,y,rfl,d1,d2⟩:=q.two
    cases d1.str1
    cases d2.int1
    exact .inr ⟨_,_,_,rfl,by decide,rfl⟩
  | change k p=>
    obtain ⟨x,y,z,rfl,d1,d2,d3⟩:=q.three
    cases d1.str1
    cases d2.int1
    exact .inr ⟨_,_,_,rfl,by decide,rfl⟩
def P_Seller_must_wait (K:PySem.W.Frag) (A:Ad) (x0 x1:V) (H:Hp) (Q:VK) : Prop:=∃ (s:SP) (S:Setup) (num:Int) (M:SM) (d:Deed),x0=.ref s.p∧SellerAt A H s S num M∧Da H x1 (deedD d)∧SetupOk S∧M.Ok S∧DeedOk S d∧
  ∀ H':Hp,Fr [] H H'→Q (.bl (M.waits d)) H'
def sp_Seller_must_wait (K:PySem.W.Frag) (A:Ad) : Sp:=fun vs H Q _=>∃ x0 x1,vs=[x0,x1]∧P_Seller_must_wait K A x0 x1 H Q
theorem c_Seller_must_wait {K:PySem.W.Frag} {A:Ad} {x0 x1:V} {H:Hp} {Q:VK} {E:XK} (h:P_Seller_must_wait K A x0 x1 H Q) : sp_Seller_must_wait K A [x0,x1] H Q E:=⟨_,_,rfl,h⟩
theorem sc_Seller_must_wait:FnScope ["self","deed","number","party","cells","cell"] ["self","deed"] (defScope s_Seller_must_wait):=⟨rfl,rfl,rfl,by decide +kernel,rfl,by decide +kernel,by decide +kernel⟩
def t_Seller_must_wait (K:PySem.W.Frag) (A:Ad) : TS:=
  (Evl.tCut (tIfS (tTest (tOp rNe (tOp (rIxT K) (tVar 1) (tC (.int 0))) (tC (.str "wish")))) (tLock (tFor (iKeys (tFld K (tVar 0) "asked")) (gName 2) (tIfS (tTest (tOp (rEqD K) (tSl (rSlA K) (tDGet (tFld K (tVar 0) "asked") (tVar 2)) tNoPart (tPart (tC (.int 2)))) (tTup (tCons (tC (.str "change")) (tCons (tOp (rIxT K) (tVar 1) (tC (.int 1))) tNil))))) (tRet (tC (.bl true))) tNext))) tNext)
    (tSeq (tIfS (tTest (tOp rIsNon (tFld K (tVar 0) "closing") (tC .non))) (tRet (tC (.bl false))) tNext)
    (Evl.tCut (tAsg (tIf (tTest (tOp rEq (tOp (rIxT K) (tVar 1) (tC (.int 0))) (tC (.str "cancel")))) (tTup tNil) (tOp (rIxT K) (tVar 1) (tUn rNeg (tC (.int 1))))) (gName 3))
    (tSeq (tAsg (tOp rCat (tCB rListDT (tCons (tCl (sp_needs_of K A) (tCons (tVar 3) tNil)) tNil)) (tCB rListDT (tCons (tCl (sp_needs_of K A) (tCons (tMt A.Seller "voucher" (sp_Seller_voucher K A) (tVar 0) (tCons (tVar 1) tNil)) tNil)) tNil))) (gName 4))
    (tRet (tCB (rAny K) (tCons (tLc (iList K (tVar 4)) (gName 5) tYes (tOp (rInDT K) (tVar 5) (tFld K (tVar 0) "closing")) [5]) tNil)))))))
theorem pu_Seller_must_wait (T:Txt K mg A) {x0 x1:V} {H:Hp} {Q:VK} (h:P_Seller_must_wait K A x0 x1 H Q) : t_Seller_must_wait K A { nx:=fun _ H'=>Q .non H',rt:=Q } [some x0,some x1,none,none,none,none] H:=by
  obtain ⟨s,S,num,M,d,rfl,x,dd,so,mo,dok,k⟩:=h
  have nd:=x.nd
  have x':=x
  obtain ⟨⟨dx,sv,clv,e,dS,c⟩,al⟩:=x'
  obtain ⟨kvs,ek,rk⟩:=c.ask
  obtain ⟨a,xs,rfl,ea,q⟩:=deed_tup dd
  unfold t_Seller_must_wait
  refine g_cut (fun σ H'=>(∃ v2,σ=[some (.ref s.p),some (.ref a),v2,none,none,none])∧Fr [] H H'∧M.pd d=false) ?_ ?_
  · rcases deed_sort q with ⟨y,p,rfl,rfl,_⟩ | ⟨w,kk,rest,rfl,hw,hn⟩
    · ((with_reducible refine j_it (g_op ?_));walk_at "3";(with_reducible refine g_c (g_neS (g_bl ?_))))
      refine g_iteN (fun z=>absurd rfl z) (fun _=>?_)
      ((with_reducible refine g_next ?_))
      exact ⟨⟨_,rfl⟩,Fr.refl,rfl⟩
    · have at0 : atI (.str w::.int kk::rest) 0=some (V.str w):=atI_nat (show (V.str w::V.int kk::rest)[0]? = some _ from rfl)
      have at1 : atI (.str w::.int kk::rest) 1=some (V.int kk):=atI_nat (show (V.str w::V.int kk::rest)[1]? = some _ from rfl)
      ((with_reducible refine j_it (g_op ?_));walk_at "4")
      refine g_ixT (SqT.of ea) at0 ?_
      ((with_reducible refine g_c (g_neS (g_bl ?_))))
      refine g_iteN (fun _=>?_) (fun z=>absurd z hw)
      refine g_lock ek trivial trivial fun od H1 f1 e1=>?_
      have ep1:=f1.at e (nin1 nd.p_ask nin0)
      have ea1:=f1.tup _ _ ea
      ((with_reducible refine g_for (g_iK ?_));(with_reducible refine' j_fv (f:="asked") (C:=Ad.Seller _) ?k488 ?h488 (Txt.cl_Seller (by assumption)) (Txt.no_Seller_asked (by assumption)) ?l488 ?_);(case k488=>exact rfl);(case h488=>walk_at "fact");(case l488=>exact rfl);(with_reducible refine' g_rkk ?h489 ?_);(case h489=>walk_at "fact"))
      have hpd:=pd_named (M:=M) hn
      refine f_keysK (kvs:=kvs) (fun i σ H'=>(∃ v2,σ=[some (.ref s.p),some (.ref a),v2,none,none,none])∧Fr [] H1 H'∧(M.ask.take i).any (fun e=>isCh kk e.2)=false) ⟨⟨_,rfl⟩,Fr.refl,rfl⟩ (fun i σ H' _ ⟨_,f,_⟩=>f.at0 e1) ?_ ?_
      · rintro i key v σ H2 hi ⟨⟨v2,rfl⟩,f2,hno⟩
        obtain ⟨y,hy,rfl,_⟩:=DkR.get rk hi
        have ⟨z,hz,hyz⟩ : ∃ z,M.ask[i]? = some z∧(z.1,deedD z.2)=y:=by
          unfold askT at hy
          rw [List.getElem?_map] at hy
          cases q:M.ask[i]? with
          | none=>rw [q] at hy;cases hy
          | some z=>rw [q] at hy;exact ⟨z,rfl,Option.some.inj hy⟩
        subst hyz
        have hl : lk M.ask z.1=some z.2:=lk_mem mo.an (List.mem_of_getElem? hz)
        rcases DkR.look rk z.1 with ⟨h1,_⟩ | ⟨dv,zz,h1,h2,h3⟩
        · rw [hl] at h1;cases h1
        rw [hl] at h1
        cases h1
        have ep2:=f2.at0 ep1
        have ea2:=f2.tup _ _ ea1
        have ek2:=f2.at0 e1
        have dz2:=Da.frL (f1.then0 f2) h3 (imm_deed z.2)
        ((with_reducible refine g_name (j_it (g_op (g_sl (g_dget ?_)))));(with_reducible refine' j_fv (f:="asked") (C:=Ad.Seller _) ?k491 ?h491 (Txt.cl_Seller (by assumption)) (Txt.no_Seller_asked (by assumption)) ?l491 ?_);(case k491=>exact rfl);(case h491=>walk_at "fact");(case l491=>exact rfl);walk_at "0")
        refine g_rdgI (.inr ⟨_,ek2⟩) h2 ?_
        ((with_reducible refine g_noP (g_part (g_c (g_rpart ?_)))))
        refine g_slD dz2 fun w2 H3 f3 dw=>?_
        have ea3:=f3.tup _ _ ea2
        ((with_reducible refine g_tup (j_cc (g_cons ?_)));walk_at "4")
        refine g_ixT (SqT.of ea3) at1 ?_
        ((with_reducible refine g_nil ?_);walk_at "5")
        rename_i t H4 n4 f4 e4
        refine g_eqDD (Da.frL f4 dw (imm_head _)) (.tup e4 (Nat.le_of_ble_eq_true rfl) (.cons (.str _) (.one' (.int _)))) (head_shaped _) (head_shaped (.change kk [])) ?_
        rw [head_eqv]
        ((with_reducible refine g_bl ?_))
        have tk:(M.ask.take (i + 1)).any (fun e=>isCh kk e.2)=isCh kk z.2:=by rw [take_more hz,List.any_append,hno];simp
        refine g_iteB (fun hch=>?_) (fun hch=>?_)
        · ((with_reducible refine g_ret (g_c ?_));(with_reducible refine' g_unl ?h497 ?_);(case h497=>walk_at "fact");intro _ _ _)
          rename_i H5 f5 e5
          have F:Fr [] H H5:=((((f1.then0 f2).then0 f3).then0 f4).transL f5).back ek e5
          have hw:M.waits d=true:=by
            rw [waits_def,hpd]
            have:M.pend kk=true:=List.any_eq_true.mpr ⟨z,List.mem_of_getElem? hz,hch⟩
            rw [this];rfl
          have:=k H5 F
          rw [hw] at this
          exact this
        · ((with_reducible refine g_next ?_))
          exact ⟨⟨_,rfl⟩,(f2.then0 f3).then0 f4,by rw [tk];exact hch⟩
      · rintro σ H2 ⟨⟨v2,rfl⟩,f2,hno⟩
        have hkl : kvs.length=M.ask.length:=by rw [rk.len];unfold askT;rw [List.length_map]
        rw [hkl,List.take_length] at hno
        refine g_unlK (f2.at0 e1) fun H5 f5 e5=>?_
        exact ⟨⟨_,rfl⟩,((f1.then0 f2).transL f5).back ek e5,hpd.trans hno⟩
  · rintro σ H1 ⟨⟨v2,rfl⟩,f1,hp⟩
    have c1:=c.frm f1 fun _ _=>nin0
    have e1:=f1.at0 e
    have dc1:=c1.clv
    cases hc:M.cl with
    | none=>
      rw [hc] at dc1
      cases dc1
      ((with_reducible refine j_sit (g_op ?_));(with_reducible refine' j_fv (f:="closing") (C:=Ad.Seller _) ?k500 ?h500 (Txt.cl_Seller (by assumption)) (Txt.no_Seller_closing (by assumption)) ?l500 ?_);(case k500=>exact rfl);(case h500=>walk_at "fact");(case l500=>exact rfl);(with_reducible refine g_c (g_isN (g_bl ?_))))
      refine g_ite (fun _=>?_) (fun z=>absurd rfl z)
      ((with_reducible refine g_ret (g_c ?_)))
      have hw:M.waits d=false:=by rw [waits_def,hp];unfold SM.shut;rw [hc];rfl
      have:=k H1 f1
      rw [hw] at this
      exact this
    | some cl=>
      rw [hc] at dc1
      have dcl:=dc1
      obtain ⟨b,cs,rfl,eb,_,qb⟩:=dc1.tup1
      ((with_reducible refine j_sit (g_op ?_));(with_reducible refine' j_fv (f:="closing") (C:=Ad.Seller _) ?k504 ?h504 (Txt.cl_Seller (by assumption)) (Txt.no_Seller_closing (by assumption)) ?l504 ?_);(case k504=>exact rfl);(case h504=>walk_at "fact");(case l504=>exact rfl);(with_reducible refine g_c (g_isN (g_bl ?_))))
      refine g_ite (fun z=>by cases z) (fun _=>?_)
      ((with_reducible refine g_next ?_))
      refine g_cut (fun σ H'=>(∃ pv,σ=[some (.ref s.p),some (.ref a),v2,some pv,none,none]∧Da H' pv (partyD d.party))∧Fr [] H1 H') ?_ ?_
      · have ea1:=f1.tup _ _ ea
        have q1:=DaL.frL f1 q (by cases d with
          | wish p=>show (true && (imm (partyD p) && true))=true;rw [imm_party];rfl
          | cancel k=>rfl
          | change k p=>show (true && (true && (imm (partyD p) && true)))=true;rw [imm_party];rfl)
        cases d with
        | wish p=>
          obtain ⟨x,y,rfl,d1,d2⟩:=q1.two
          cases d1.str1
          ((with_reducible refine g_asg (g_ifE (g_test (g_op ?_))));walk_at "3";(with_reducible refine j_es ?_))
          refine g_ite (fun z=>absurd z (by decide)) (fun _=>?_)
          ((with_reducible refine' j_ov ?h509 ?_);(case h509=>exact rfl);(with_reducible refine g_un (g_c (g_neg ?_)));(with_reducible refine' g_ixT ?h511 ?k511 ?_);(case h511=>walk_at "sqt");(case k511=>exact rfl);(with_reducible refine g_name ?_))
          exact ⟨⟨_,rfl,d2⟩,Fr.refl⟩
        | cancel kk=>
          obtain ⟨x,y,rfl,d1,d2⟩:=q1.two
          cases d1.str1
          ((with_reducible refine g_asg (g_ifE (g_test (g_op ?_))));walk_at "3";(with_reducible refine j_es ?_))
          refine g_ite (fun _=>?_) (fun z=>absurd rfl z)
          ((with_reducible refine g_tup (g_nil ?_));walk_at "5";(with_reducible refine g_name ?_))
          rename_i t H2 n2 f2 e2
          exact ⟨⟨_,rfl,.tup e2 (Nat.zero_le _) .nil⟩,f2⟩
        | change kk p=>
          obtain ⟨x,y,z,rfl,d1,d2,d3⟩:=q1.three
          cases d1.str1
          ((with_reducible refine g_asg (g_ifE (g_test (g_op ?_))));walk_at "3";(with_reducible refine j_es ?_))
          refine g_ite (fun z=>absurd z (by decide)) (fun _=>?_)
          ((with_reducible refine' j_ov ?h519 ?_);(case h519=>exact rfl);(with_reducible refine g_un (g_c (g_neg ?_)));(with_reducible refine' g_ixT ?h521 ?k521 ?_);(case h521=>walk_at "sqt");(case k521=>exact rfl);(with_reducible refine g_name ?_))
          exact ⟨⟨_,rfl,d3⟩,Fr.refl⟩
      · rintro σ H2 ⟨⟨pv,rfl,dp⟩,f2⟩
        obtain ⟨pa,ps,rfl,ep,dps⟩:=party_tup dp
        have hpo:=dok.party
        have hoo:=mo.old d
        have e2:=f2.at0 e1
        ((with_reducible refine j_sa (g_op (g_cb (g_cons (g_cl ?_)))));walk_at "2")
        refine c_needs_of ⟨pa,ps,d.party,rfl,ep,dps,SmallSt.of so hpo.1,Nat.le_trans hpo.2 (by decide),fun nq H3 n3 f3 e3=>?_⟩
        ((with_reducible refine g_nil ?_))
        refine g_listDT e3 fun l1 bs1 H4 n4 f4 k4 e4=>?_
        have F4:Fr [] H H4:=((f1.then0 f2).then0 f3).then0 f4
        have dc1:=keys_cells k4
        ((with_reducible refine g_cb (g_cons (g_cl (g_cons ?_))));walk_at "6";walk_at "2")
        refine c_Seller_voucher ⟨s,S,num,M,d,rfl,x.f0 F4,Da.frL F4 dd (imm_deed d),fun ov H5 f5 dv=>?_⟩
        obtain ⟨oa,os,rfl,eo,dos⟩:=party_tup dv
        ((with_reducible refine g_nil ?_))
        refine c_needs_of ⟨oa,os,M.old d,rfl,eo,dos,SmallSt.of so hoo.1,Nat.le_trans hoo.2 (by decide),fun nq2 H6 n6 f6 e6=>?_⟩
        ((with_reducible refine g_nil ?_))
        refine g_listDT e6 fun l2 bs2 H7 n7 f7 k7 e7=>?_
        have dc2:=keys_cells k7
        have F47:Fr [] H4 H7:=(f5.then0 f6).then0 f7
        skip
        have hl1:(bs1.map V.ref).length≤36:=by rw [dc1.len,List.length_map,List.length_map];exact needs_le so hpo.1
        have hl2:(bs2.map V.ref).length≤36:=by rw [dc2.len,List.length_map,List.length_map];exact needs_le so hoo.1
        refine g_cat (F47.at0 e4) e7 (Nat.le_of_lt (szM (by omega))) fun cl0 H8 n8 f8 e8=>?_
        have i1:∀ m:List (Cell×Int),immL ((m.map (·.1)).map cellD)=true:=fun m=>immL_map imm_cell _
        have dcs:DaL H8 (bs1.map V.ref++bs2.map V.ref) ((cellsN d.party++cellsN (M.old d)).map cellD):=by
          rw [List.map_append]
          exact (DaL.frL ((f4.then0 F47).then0 f8) dc1 (i1 _)).append (DaL.frL (f7.then0 f8) dc2 (i1 _))
        have F8:Fr [] H1 H8:=((((f2.then0 f3).then0 f4).then0 F47).then0 f8)
        have e8p:=F8.at0 e1
        have dcl8:=Da.frL F8 dcl (imm_cells cl)
        clear e2 F47 f3 f4 f5 f6 f7 f8 e3 e4 e6 e7 dc1 dc2 k4 k7 dos dps dv dp n3 n4 n6 n7 n8 F4 ep eo
        ((with_reducible refine g_name (g_ret (g_cb (g_cons (g_lc (g_iL ?_))))));walk_at "0";(with_reducible refine' g_riL ?h529 ?_);(case h529=>walk_at "sql"))
        refine l_list (xs:=bs1.map V.ref++bs2.map V.ref) fun Dl H9 nD f9 e9=>⟨fun i acc H'=>acc=(((cellsN d.party++cellsN (M.old d)).take i).map fun c=>decide (c∈cl)).map V.bl∧Fr [] H8 H',⟨rfl,f9⟩,fun i acc H' q=>SqL.of (q.2.at0 e8),fun i x acc H' hx ha ⟨ea',f⟩=>?_,fun acc H' ha ⟨ea',f⟩=>?_⟩
        · obtain ⟨cc,ca,hcc,rfl,eca⟩:=cells_get (DaL.frL f dcs (immL_map imm_cell _)) hx
          have ep':=f.at0 e8p
          ((with_reducible refine g_name ?_))
          refine ⟨rfl,?_⟩
          ((with_reducible refine g_yes (g_iteT ?_));(with_reducible refine' j_ov ?h532 ?_);(case h532=>exact rfl);(with_reducible refine' j_fv (f:="closing") (C:=Ad.Seller _) ?k533 ?h533 (Txt.cl_Seller (by assumption)) (Txt.no_Seller_closing (by assumption)) ?l533 ?_);(case k533=>exact rfl);(case h533=>walk_at "fact");(case l533=>exact rfl))
          refine g_inC (.tup eca (Nat.le_of_ble_eq_true rfl) (.cons (.int _) (.one' (.int _)))) (Da.frL f dcl8 (imm_cells cl)) ?_
          have hal : acc.length≤100:=by rw [ea',List.length_map,List.length_map,List.length_take,← List.length_map (f:=cellD),← dcs.len,List.length_append];omega
          refine lcY_of ha (szM (by omega)) fun H2 f2 e2=>⟨?_,f.own1 f2 nD⟩
          rw [ea',take_more hcc,List.map_append,List.map_append];rfl
        · have hl:(bs1.map V.ref++bs2.map V.ref).length=(cellsN d.party++cellsN (M.old d)).length:=by rw [dcs.len,List.length_map]
          rw [hl,List.take_length] at ea'
          rw [ea'] at ha
          ((with_reducible refine g_nil ?_))
          refine g_any (SqL.of ha) ?_
          have hw:M.waits d=(((cellsN d.party++cellsN (M.old d)).map fun c=>decide (c∈cl)).any id):=by
            rw [waits_def,hp,Bool.false_or,List.any_map];unfold SM.shut;rw [hc];rfl
          have:=k H' (f1.then0 (F8.then0 f))
          rw [hw] at this
          exact this
theorem ok_Seller_must_wait {f:Addr} {fd:FuncData} (F:Fun K "must_wait" "Seller.must_wait" s_Seller_must_wait f fd) (T:Txt K mg A) (c_needs_of:Cal P w K mg base "needs_of" 2 ["party"] (sp_needs_of K A)) (c_Seller_voucher:CalM P w K mg base A.Seller "voucher" 1 ["self","deed"] (sp_Seller_voucher K A)) : FnOk P w K mg base CX0 (3) f fd ["self","deed"] (sp_Seller_must_wait K A):=by
  refine F.ok sc_Seller_must_wait (fun vs H Q E h=>?_) (fun cdv Ar outer s H vs Q E hr h=>⟨t_Seller_must_wait K A,?_,?_⟩)
  · obtain ⟨x0,x1,rfl,_⟩:=h
    rfl
  · have hu:=hu_of hr
    exact (Evl.pss_cut (ps_if (pt_cmpR op_ne (pe_ix ix_tup (pv 1) pe_int (fun _ _=>rfl)) pe_str (nomark _)) (pss_one (ps_lock (ps_for PassesOwn.never rfl (pi_keys (pe_fld (pv 0) rfl)) (pg_name (i:=2) sc_Seller_must_wait.nd rfl (Or.inl rfl)) (pss_one (ps_if (pt_cmpR (op_eqD hr.units) (pe_slice sl_tupA (pe_dget hu (pe_fld (pv 0) rfl) (pv 2) (fun _ _=>rfl)) po_none (po_some pe_int)) (pe_tup (pa_cons pe_str (pa_cons (pe_ix ix_tup (pv 1) pe_int (fun _ _=>rfl)) pa_nil))) (nomark _)) (pss_one (ps_ret pe_bl)) pss_nil))))) pss_nil)
    (pss_cons (ps_if (pt_cmpR c_isN (pe_fld (pv 0) rfl) pe_non (nomark _)) (pss_one (ps_ret pe_bl)) pss_nil)
    (Evl.pss_cut (ps_set (i:=3) sc_Seller_must_wait.nd rfl (Or.inl rfl) (pe_ifExp (pt_cmpR op_eq (pe_ix ix_tup (pv 1) pe_int (fun _ _=>rfl)) pe_str (nomark _)) (pe_tup pa_nil) (pe_ix ix_tup (pv 1) (pe_un un_neg pe_int) (fun _ _=>rfl))))
    (pss_cons (ps_set (i:=4) sc_Seller_must_wait.nd rfl (Or.inl rfl) (pe_op op_cat (pe_callTy (b_listDT rfl) (by rfl) T.b_list (by decide +kernel) (pa_cons (pe_cl c_needs_of (hr.mono (by first | decide | omega)) (by rfl) (pa_cons (pv 3) pa_nil)) pa_nil)) (pe_callTy (b_listDT rfl) (by rfl) T.b_list (by decide +kernel) (pa_cons (pe_cl c_needs_of (hr.mono (by first | decide | omega)) (by rfl) (pa_cons (pe_mt (pv 0) T.cl_Seller c_Seller_voucher (hr.mono (by first | decide | omega)) (pa_cons (pv 1) pa_nil)) pa_nil)) pa_nil))))
    (pss_one (ps_ret (pe_callB (cr_any rfl) (by rfl) T.b_any (by decide +kernel) (pa_cons (pe_lc (own:=[("cell",5)]) (g:=(gName 5)) (tt:=tYes) rfl sc_Seller_must_wait.nd (pi_list (pv 4)) (blkOk_by (N:=["self","deed","number","party","cells","cell"]) (sc:=defScope s_Seller_must_wait) (own:=[("cell",5)]) (by decide +kernel)) (fun _ _ _ _ _=>(pg_name (i:=5) sc_Seller_must_wait.nd rfl (Or.inl rfl))) (fun _ _ _ _ _=>pts_nil) (fun _ _ _ _ _=>(pe_cmpR (op_inDT hr.units) (pv 5) (pe_fld (pv 0) rfl) rfl))) pa_nil))))))))
  · obtain ⟨x0,x1,rfl,h⟩:=h
    exact pu_Seller_must_wait T h
structure SM.Sz (b:Nat) (M:SM) : Prop where
  bk:M.bk.length + M.wt.length≤b
  out:M.out.length + M.wt.length≤b
  told:M.told.length + M.wt.length≤b
  vo:M.vo.length + M.wt.length≤b
  ask:M.ask.length + M.wt.length≤b
theorem pt_len1 {κ α:Type} [DecidableEq κ] (m:List (κ×α)) (k : κ) (v : α) : (pt m k v).length≤m.length + 1:=by
  unfold pt
  split
  · rw [List.length_map];exact Nat.le_succ _
  · rw [List.length_append];exact Nat.le_refl _
theorem dr_len1 {κ α:Type} [DecidableEq κ] (m:List (κ×α)) (k : κ) : (dr m k).length≤m.length:=List.length_filter_le ..
theorem SM.Sz.mono {b c:Nat} {M:SM} (s:M.Sz b) (h : b≤c) : M.Sz c:=⟨Nat.le_trans s.bk h,Nat.le_trans s.out h,Nat.le_trans s.told h,Nat.le_trans s.vo h,Nat.le_trans s.ask h⟩
theorem doit_sz {S:Setup} {b:Nat} {M:SM} {n:Int} {d:Deed} (s:M.Sz b) : (M.doit S n d).Sz (b + 1):=by
  obtain ⟨h1,h2,h3,h4,h5⟩:=s
  have deal:∀ p o,(M.deal S n d p o).Sz (b + 1):=fun p o=>by
    unfold SM.deal
    split
    · cases d with
      | wish q=>
        have:=pt_len1 M.vo n q
        exact ⟨by simp [SM.tell,SM.keep,SM.row];omega,by simp [SM.tell,SM.keep,SM.row];omega,by simp [SM.tell,SM.keep,SM.row];omega,by simp [SM.tell,SM.keep,SM.row];omega,by simp [SM.tell,SM.keep,SM.row];omega⟩
      | cancel k=>exact ⟨by simp [SM.tell,SM.keep];omega,by simp [SM.tell,SM.keep];omega,by simp [SM.tell,SM.keep];omega,by simp [SM.tell,SM.keep];omega,by simp [SM.tell,SM.keep];omega⟩
      | change k q=>
        have:=pt_len1 M.vo k q
        exact ⟨by simp [SM.tell,SM.keep,SM.row];omega,by simp [SM.tell,SM.keep,SM.row];omega,by simp [SM.tell,SM.keep,SM.row];omega,by simp [SM.tell,SM.keep,SM.row];omega,by simp [SM.tell,SM.keep,SM.row];omega⟩
    · have:=pt_len1 M.ask n d
      exact ⟨by simp;omega,by simp;omega,by simp;omega,by simp;omega,by simp;omega⟩
  have tl:(M.tell n false).Sz (b + 1):=⟨by simp [SM.tell];omega,by simp [SM.tell];omega,by simp [SM.tell];omega,by simp [SM.tell];omega,by simp [SM.tell];omega⟩
  cases d with
  | wish p=>exact deal p []
  | cancel k=>
    show SM.Sz (b + 1) (match lk M.vo k with | none=>_ | some o=>_)
    cases lk M.vo k with
    | none=>exact tl
    | some o=>
      have:=dr_len1 M.vo k
      exact ⟨by simp [SM.tell,SM.row];omega,by simp [SM.tell,SM.row];omega,by simp [SM.tell,SM.row];omega,by simp [SM.tell,SM.row];omega,by simp [SM.tell,SM.row];omega⟩
  | change k p=>
    show SM.Sz (b + 1) (match lk M.vo k with | none=>_ | some o=>_)
    cases lk M.vo k with
    | none=>exact tl
    | some o=>exact deal p o
theorem again_sz {S:Setup} {b:Nat} {M:SM} {e:Int×Deed} (s:M.Sz b) : (M.again S e).Sz (b + 1):=by
  unfold SM.again
  split
  · obtain ⟨h1,h2,h3,h4,h5⟩:=s
    exact ⟨by simp;omega,by simp;omega,by simp;omega,by simp;omega,by simp;omega⟩
  · exact doit_sz s
theorem agains_sz {S:Setup}:∀ (l:List (Int×Deed)) {b:Nat} {M:SM},M.Sz b→(l.foldl (SM.again S) M).Sz (b + l.length)
  | [],_,_,s=>s
  | e::l,b,_,s=>by
    have:=agains_sz (S:=S) l (again_sz (S:=S) (e:=e) s)
    rw [List.length_cons,show b + (l.length + 1)=b + 1 + l.length by omega]
    exact this
theorem answered_sz {S:Setup} {b:Nat} {M:SM} {n:Int} {g:Bool} (s:M.Sz b) : (M.answered S n g).Sz (b + 1):=by
  unfold SM.answered
  cases lk M.ask n with
  | none=>exact s.mono (Nat.le_succ _)
  | some d=>
    obtain ⟨h1,h2,h3,h4,h5⟩:=s
    have:=dr_len1 M.ask n
    cases g with
    | false=>exact ⟨by simp [SM.tell];omega,by simp [SM.tell];omega,by simp [SM.tell];omega,by simp [SM.tell];omega,by simp [SM.tell];omega⟩
    | true=>
      cases d with
      | wish q=>
        have:=pt_len1 M.vo n q
        exact ⟨by simp [SM.tell,SM.keep,SM.row];omega,by simp [SM.tell,SM.keep,SM.row];omega,by simp [SM.tell,SM.keep,SM.row];omega,by simp [SM.tell,SM.keep,SM.row];omega,by simp [SM.tell,SM.keep,SM.row];omega⟩
      | cancel k=>exact ⟨by simp [SM.tell,SM.keep];omega,by simp [SM.tell,SM.keep];omega,by simp [SM.tell,SM.keep];omega,by simp [SM.tell,SM.keep];omega,by simp [SM.tell,SM.keep];omega⟩
      | change k q=>
        have:=pt_len1 M.vo k q
        exact ⟨by simp [SM.tell,SM.keep,SM.row];omega,by simp [SM.tell,SM.keep,SM.row];omega,by simp [SM.tell,SM.keep,SM.row];omega,by simp [SM.tell,SM.keep,SM.row];omega,by simp [SM.tell,SM.keep,SM.row];omega⟩
theorem csN_cells (m:List (Cell×Int)) : (csN m).map intsD=(m.map (·.1)).map cellD:=by
  unfold csN
  rw [List.map_map,List.map_map];rfl
theorem val_nd {p:List Stay} {c:Cell}:((valV (cD (needsL p)) (ck c)).getD (.int 0))=.int (nd p c):=by
  rw [val_cell]
  unfold nd
  cases lk (needsL p) c <;> rfl
theorem val_nd1 {p:List Stay} {c:Cell} (h : c∈cellsN p) : valV (cD (needsL p)) (ck c)=some (.int (nd p c)):=by
  obtain ⟨e,he,rfl⟩:=List.mem_map.mp h
  have h1:=lk_mem (needs_nd p) he
  rw [val_cell,h1]
  unfold nd
  rw [h1];rfl
theorem scell_nd (p:List Stay) : (scell (cellsN p)).Nodup:=(scell_perm _).nodup_iff.mpr (needs_nd p)
theorem lack_keys {p o:List Stay} {l:List Cell} {e:Cell×Int} (h : e∈l.filterMap (lackC1 p o)) : e.1∈l:=by
  obtain ⟨c,hc,q⟩:=List.mem_filterMap.mp h
  unfold lackC1 at q
  split at q
  · cases q;exact hc
  · cases q
theorem lack_nd (p o:List Stay) : ∀ {l:List Cell},l.Nodup→Nd (l.filterMap (lackC1 p o))
  | [],_=>List.nodup_nil
  | c::l,h=>by
    obtain ⟨h1,h2⟩:=List.nodup_cons.mp h
    have ih:=lack_nd p o h2
    rw [List.filterMap_cons]
    cases q : lackC1 p o c with
    | none=>exact ih
    | some e=>
      have : e.1=c:=by
        unfold lackC1 at q
        split at q
        · cases q;rfl
        · cases q
      refine List.nodup_cons.mpr ⟨fun z=>?_,ih⟩
      obtain ⟨e',he',z'⟩:=List.mem_map.mp z
      have z2 : e'.1=e.1:=z'
      exact h1 (by rw [← this,← z2];exact lack_keys he')
theorem lackL_ok {S:Setup} (so:SetupOk S) {p o:List Stay} (hp:PtyOk S p) : ∀ e∈lackL p o,CellOk S e.1:=fun e he=>by
  obtain ⟨x,hx,z⟩:=List.mem_map.mp ((scell_perm _).mem_iff.mp (lack_keys he))
  rw [← z];exact cell_ok so hp.1 hx
theorem lackL_len {S:Setup} (so:SetupOk S) {p o:List Stay} (hp:PtyOk S p) : (lackL p o).length≤36:=by
  refine Nat.le_trans (List.length_filterMap_le _ _) ?_
  rw [(scell_perm _).length_eq]
  unfold cellsN
  rw [List.length_map]
  exact needs_le so hp.1
def P_Seller_lack (K:PySem.W.Frag) (A:Ad) (x0 x1:V) (H:Hp) (Q:VK) : Prop:=∃ (s:SP) (S:Setup) (num:Int) (M:SM) (d:Deed),x0=.ref s.p∧SellerAt A H s S num M∧Da H x1 (deedD d)∧SetupOk S∧M.Ok S∧DeedOk S d∧(∀ k,d≠.cancel k)∧
  ∀ (p:Addr) (H':Hp),H p=none→Fr [] H H'→H' p=some (.dT (cD (lackL d.party (M.old d))))→Q (.ref p) H'
def sp_Seller_lack (K:PySem.W.Frag) (A:Ad) : Sp:=fun vs H Q _=>∃ x0 x1,vs=[x0,x1]∧P_Seller_lack K A x0 x1 H Q
theorem c_Seller_lack {K:PySem.W.Frag} {A:Ad} {x0 x1:V} {H:Hp} {Q:VK} {E:XK} (h:P_Seller_lack K A x0 x1 H Q) : sp_Seller_lack K A [x0,x1] H Q E:=⟨_,_,rfl,h⟩
theorem sc_Seller_lack:FnScope ["self","deed","needs","old","lack","cell"] ["self","deed"] (defScope s_Seller_lack):=⟨rfl,rfl,rfl,by decide +kernel,rfl,by decide +kernel,by decide +kernel⟩
def t_Seller_lack (K:PySem.W.Frag) (A:Ad) : TS:=
  (tSeq (tAsg (tCl (sp_needs_of K A) (tCons (tOp (rIxT K) (tVar 1) (tUn rNeg (tC (.int 1)))) tNil)) (gName 2))
    (tSeq (tAsg (tCl (sp_needs_of K A) (tCons (tMt A.Seller "voucher" (sp_Seller_voucher K A) (tVar 0) (tCons (tVar 1) tNil)) tNil)) (gName 3))
    (tSeq (tAsg tDNewT (gName 4))
    (tSeq (tFor (iList K (tCB rSortedDT (tCons (tVar 2) tNil))) (gName 5) (tIfS (tTest (tOp cGt (tDGet (tVar 2) (tVar 5)) (tDGet2 (tVar 3) (tVar 5) (tC (.int 0))))) (sDPut (tVar 4) (tVar 5) (tOp oSub (tDGet (tVar 2) (tVar 5)) (tDGet2 (tVar 3) (tVar 5) (tC (.int 0))))) tNext))
    (tRet (tVar 4))))))
theorem pu_Seller_lack (T:Txt K mg A) {x0 x1:V} {H:Hp} {Q:VK} (h:P_Seller_lack K A x0 x1 H Q) : t_Seller_lack K A { nx:=fun _ H'=>Q .non H',rt:=Q } [some x0,some x1,none,none,none,none] H:=by
  obtain ⟨s,S,num,M,d,rfl,x,dd,so,mo,dok,nc,k⟩:=h
  obtain ⟨a,xs,rfl,ea,q⟩:=deed_tup dd
  have ⟨pv,hl,dpv⟩ : ∃ pv,atI xs (-1)=some pv∧Da H pv (partyD d.party):=by
    cases d with
    | wish p=>obtain ⟨x,y,rfl,d1,d2⟩:=q.two;exact ⟨y,rfl,d2⟩
    | cancel kk=>exact absurd rfl (nc kk)
    | change kk p=>obtain ⟨x,y,z,rfl,d1,d2,d3⟩:=q.three;exact ⟨z,rfl,d3⟩
  obtain ⟨pa,ps,rfl,ep,dps⟩:=party_tup dpv
  have hpo:=dok.party
  have hoo:=mo.old d
  obtain ⟨⟨dx,sv,clv,e,dS,c⟩,al⟩:=id x
  unfold t_Seller_lack
  ((with_reducible refine j_sa (g_cl (g_cons ?_)));(with_reducible refine' j_ov ?h536 ?_);(case h536=>exact rfl);(with_reducible refine g_un (g_c (g_neg ?_))))
  refine g_ixT (SqT.of ea) hl ?_
  ((with_reducible refine g_nil ?_))
  refine c_needs_of ⟨pa,ps,d.party,rfl,ep,dps,SmallSt.of so hpo.1,Nat.le_trans hpo.2 (by decide),fun nq H1 n1 f1 e1=>?_⟩
  have ep1:=f1.at0 e
  ((with_reducible refine g_name (j_sa (g_cl (g_cons ?_))));walk_at "6";walk_at "2")
  refine c_Seller_voucher ⟨s,S,num,M,d,rfl,x.f0 f1,Da.frL f1 dd (imm_deed d),fun ov H2 f2 dv=>?_⟩
  obtain ⟨oa,os,rfl,eo,dos⟩:=party_tup dv
  ((with_reducible refine g_nil ?_))
  refine c_needs_of ⟨oa,os,M.old d,rfl,eo,dos,SmallSt.of so hoo.1,Nat.le_trans hoo.2 (by decide),fun nq2 H3 n3 f3 e3=>?_⟩
  ((with_reducible refine g_name (j_sa ?_));(with_reducible refine g_dnew ?_);walk_at "new";(with_reducible refine g_name (g_seq (g_for (g_iL (g_cb ?_)))));walk_at "2")
  rename_i lq H4 n4 f4 e4
  have en4:=f4.at0 ((f2.then0 f3).at0 e1)
  have eo4:=f4.at0 e3
  refine g_sortedDT (csN (needsL d.party)) en4 (csN_keys _) (csN_alike _) (csN_sortable _) (csN_small _) fun sl H5 ys n5 f5 e5 dy=>?_
  have dy:DaL H5 ys ((scell (cellsN d.party)).map cellD):=by rw [csN_cells,← scell_map] at dy;exact dy
  have en5:=f5.at0 en4
  have eo5:=f5.at0 eo4
  have el5:=f5.at0 e4
  have nlq:H lq=none:=f1.free (f2.free (f3.free n4))
  have F5:Fr [] H H5:=(((f1.then0 f2).then0 f3).then0 f4).then0 f5
  have nnl : nq≠lq:=ne_of_none ((f2.then0 f3).at0 e1) n4
  have nol : nq2≠lq:=ne_of_none e3 n4
  have nsl : sl≠lq:=fun z=>by rw [z,e4] at n5;cases n5
  clear f1 f2 f3 f4 f5 e1 e3 e4 en4 eo4 n1 n3 n4 n5 dos dv eo
  ((with_reducible refine' g_riL ?h544 ?_);(case h544=>walk_at "sql"))
  refine f_list (xs:=ys) (fun i σ H'=>(∃ v5,σ=[some (.ref s.p),some (.ref a),some (.ref nq),some (.ref nq2),some (.ref lq),v5])∧Fr [lq] H5 H'∧H' lq=some (.dT (cD (((scell (cellsN d.party)).take i).filterMap (lackC1 d.party (M.old d)))))) ⟨⟨_,rfl⟩,Fr.refl,el5⟩ (fun i σ H' _ ⟨_,f,_⟩=>SqL.of (f.at e5 (nin1 nsl nin0))) ?_ ?_
  · rintro i y σ H6 hy ⟨⟨v5,rfl⟩,f6,e6⟩
    obtain ⟨cc,ca,hcc,rfl,eca⟩:=cells_get (DaL.frL f6 dy (immL_map imm_cell _)) hy
    have en6:=f6.at en5 (nin1 nnl nin0)
    have eo6:=f6.at eo5 (nin1 nol nin0)
    have hcm : cc∈cellsN d.party:=(scell_perm _).mem_iff.mp (List.mem_of_getElem? hcc)
    have tk:=take_more hcc
    ((with_reducible refine g_name (j_it (g_op ?_)));(with_reducible refine' j_dv0 ?h546 ?_);(case h546=>exact rfl);walk_at "0")
    refine g_rdg (k:=ck cc) (.inl en6) eca (val_nd1 hcm) ?_
    ((with_reducible refine g_dget2 ?_);walk_at "0";(with_reducible refine' g_rdg2 ?h548 ?_);(case h548=>walk_at "rdt");walk_at "0";(with_reducible refine g_c ?_))
    refine g_dgo (k:=ck cc) (.inl eo6) eca ?_
    rw [val_nd]
    ((with_reducible refine g_gt (g_bl ?_)))
    refine g_ite (fun hlt=>?_) (fun hlt=>?_)
    · ((with_reducible refine g_dput (g_op ?_));(with_reducible refine' j_dv0 ?h552 ?_);(case h552=>exact rfl);walk_at "0")
      refine g_rdg (k:=ck cc) (.inl en6) eca (val_nd1 hcm) ?_
      ((with_reducible refine g_dget2 ?_);walk_at "0";(with_reducible refine' g_rdg2 ?h554 ?_);(case h554=>walk_at "rdt");walk_at "0";(with_reducible refine g_c ?_))
      refine g_dgo (k:=ck cc) (.inl eo6) eca ?_
      rw [val_nd]
      ((with_reducible refine g_sub ?_);walk_at "0";walk_at "0")
      refine g_rdp (k:=ck cc) e6 eca (szM ?_) fun H7 f7 e7=>?_
      · rw [enD_len]
        refine Nat.le_trans (List.length_filterMap_le _ _) (Nat.le_trans (List.length_take_le' _ _) ?_)
        rw [(scell_perm _).length_eq]
        unfold cellsN
        rw [List.length_map]
        exact Nat.le_trans (needs_le so hpo.1) (by decide)
      skip
      refine ⟨⟨_,rfl⟩,f6.transL f7,?_⟩
      have ni : cc∉(scell (cellsN d.party)).take i:=by
        have:=(scell_nd d.party).sublist (List.take_sublist (i + 1) _)
        rw [tk] at this
        exact fun z=>(List.nodup_append.mp this).2.2 cc z cc (by simp) rfl
      have hc1 : lackC1 d.party (M.old d) cc=some (cc,nd d.party cc - nd (M.old d) cc):=by unfold lackC1;rw [if_pos hlt]
      rw [e7,put_cell,pt_new (fun z=>by obtain ⟨e',he',z'⟩:=List.mem_map.mp z;have z2 : e'.1=cc:=z';exact ni (by rw [← z2];exact lack_keys he')),tk,List.filterMap_append,List.filterMap_cons,hc1]
      rfl
    · ((with_reducible refine g_next ?_))
      refine ⟨⟨_,rfl⟩,f6,?_⟩
      have hc1 : lackC1 d.party (M.old d) cc=none:=by unfold lackC1;rw [if_neg hlt]
      rw [e6,tk,List.filterMap_append,List.filterMap_cons,hc1,List.filterMap_nil,List.append_nil]
  · rintro σ H6 ⟨⟨v5,rfl⟩,f6,e6⟩
    have hl : ys.length=(scell (cellsN d.party)).length:=by rw [dy.len,List.length_map]
    rw [hl,List.take_length] at e6
    ((with_reducible refine g_ret ?_);walk_at "0")
    exact k lq H6 nlq (F5.own1 f6 nlq) e6
theorem ok_Seller_lack {f:Addr} {fd:FuncData} (F:Fun K "lack" "Seller.lack" s_Seller_lack f fd) (T:Txt K mg A) (c_needs_of:Cal P w K mg base "needs_of" 2 ["party"] (sp_needs_of K A)) (c_Seller_voucher:CalM P w K mg base A.Seller "voucher" 1 ["self","deed"] (sp_Seller_voucher K A)) : FnOk P w K mg base CX0 (3) f fd ["self","deed"] (sp_Seller_lack K A):=by
  refine F.ok sc_Seller_lack (fun vs H Q E h=>?_) (fun cdv Ar outer s H vs Q E hr h=>⟨t_Seller_lack K A,?_,?_⟩)
  · obtain ⟨x0,x1,rfl,_⟩:=h
    rfl
  · have hu:=hu_of hr
    exact (pss_cons (ps_set (i:=2) sc_Seller_lack.nd rfl (Or.inl rfl) (pe_cl c_needs_of (hr.mono (by first | decide | omega)) (by rfl) (pa_cons (pe_ix ix_tup (pv 1) (pe_un un_neg pe_int) (fun _ _=>rfl)) pa_nil)))
    (pss_cons (ps_set (i:=3) sc_Seller_lack.nd rfl (Or.inl rfl) (pe_cl c_needs_of (hr.mono (by first | decide | omega)) (by rfl) (pa_cons (pe_mt (pv 0) T.cl_Seller c_Seller_voucher (hr.mono (by first | decide | omega)) (pa_cons (pv 1) pa_nil)) pa_nil)))
    (pss_cons (ps_set (i:=4) sc_Seller_lack.nd rfl (Or.inl rfl) pe_dnewT)
    (pss_cons (ps_for PassesOwn.never rfl (pi_list (pe_callB (b_sortedDT rfl hr.units) (by rfl) T.b_sorted (by decide +kernel) (pa_cons (pv 2) pa_nil))) (pg_name (i:=5) sc_Seller_lack.nd rfl (Or.inl rfl)) (pss_one (ps_if (pt_cmpR c_gt (pe_dget hu (pv 2) (pv 5) (fun _ _=>rfl)) (pe_dget2 hu (pv 3) (pv 5) pe_int ⟨rfl,rfl,rfl,rfl⟩) (nomark _)) (pss_one (ps_dput hu (pv 4) (pv 5) (pe_op o_sub (pe_dget hu (pv 2) (pv 5) (fun _ _=>rfl)) (pe_dget2 hu (pv 3) (pv 5) pe_int ⟨rfl,rfl,rfl,rfl⟩)) rfl)) pss_nil)))
    (pss_one (ps_ret (pv 4)))))))
  · obtain ⟨x0,x1,rfl,h⟩:=h
    exact pu_Seller_lack T h
def addM (f:Cell→Int) (z:Int) (m:List (Cell×Int)) : Cell→Int:=fun c=>f c + z * (lk m c).getD 0
theorem addM_nil (f:Cell→Int) (z:Int) : addM f z []=f:=funext fun c=>by unfold addM;show f c + z * 0=f c;rw [Int.mul_zero,Int.add_zero]
theorem lk_app {κ α:Type} [DecidableEq κ] (m:List (κ×α)) (e : κ×α) (c : κ) : lk (m++[e]) c=match lk m c with | some v=>some v | none=>if e.1=c then some e.2 else none:=by
  induction m with
  | nil=>rw [List.nil_append,lk_cons];rfl
  | cons x m ih=>
    rw [List.cons_append,lk_cons,lk_cons,ih]
    split <;> rfl
theorem addM_snoc (f:Cell→Int) (z:Int) {m:List (Cell×Int)} {e:Cell×Int} (h : e.1∉m.map (·.1)) : fset (addM f z m) e.1 (addM f z m e.1 + z * e.2)=addM f z (m++[e]):=funext fun c=>by
  have h0:=lk_none h
  unfold fset addM
  rw [lk_app]
  by_cases q : c=e.1
  · subst q;rw [if_pos rfl,h0];simp
  · rw [if_neg q]
    cases lk m c with
    | some v=>rfl
    | none=>simp [Ne.symm q]
def P_Seller_add (K:PySem.W.Frag) (A:Ad) (x0 x1 x2:V) (H:Hp) (Q:VK) : Prop:=∃ (s:SP) (S:Setup) (num:Int) (M:SM) (n:Addr) (m:List (Cell×Int)) (z:Int),x0=.ref s.p∧SellerAt A H s S num M∧x1=.ref n∧x2=.int z∧H n=some (.dT (cD m))∧n∉s.os∧SetupOk S∧Nd m∧(∀ e∈m,CellOk S e.1)∧(-1≤z∧z≤1)∧
  ∀ H':Hp,Fr [s.fr] H H'→SellerAt A H' s S num { M with fr:=addM M.fr z m }→Q .non H'
def sp_Seller_add (K:PySem.W.Frag) (A:Ad) : Sp:=fun vs H Q _=>∃ x0 x1 x2,vs=[x0,x1,x2]∧P_Seller_add K A x0 x1 x2 H Q
theorem c_Seller_add {K:PySem.W.Frag} {A:Ad} {x0 x1 x2:V} {H:Hp} {Q:VK} {E:XK} (h:P_Seller_add K A x0 x1 x2 H Q) : sp_Seller_add K A [x0,x1,x2] H Q E:=⟨_,_,_,rfl,h⟩
theorem sc_Seller_add:FnScope ["self","needs","many","cell"] ["self","needs","many"] (defScope s_Seller_add):=⟨rfl,rfl,rfl,by decide +kernel,rfl,by decide +kernel,by decide +kernel⟩
def t_Seller_add (K:PySem.W.Frag) (A:Ad) : TS:=
  (tLock (tFor (iKeys (tVar 1)) (gName 3) (sDAug (tFld K (tVar 0) "free") (tVar 3) (tOp oMul (tVar 2) (tDGet (tVar 1) (tVar 3))) rAdd)))
theorem pu_Seller_add (T:Txt K mg A) {x0 x1 x2:V} {H:Hp} {Q:VK} (h:P_Seller_add K A x0 x1 x2 H Q) : t_Seller_add K A { nx:=fun _ H'=>Q .non H',rt:=Q } [some x0,some x1,some x2,none] H:=by
  obtain ⟨s,S,num,M,n,m,z,rfl,x,rfl,rfl,en,nn,so,mn,mk,⟨hz1,hz2⟩,k⟩:=h
  have nd:=x.nd
  have nnp : s.p≠n:=fun q=>nn (by rw [← q];simp [SP.os])
  have nnf : s.fr≠n:=fun q=>nn (by rw [← q];simp [SP.os])
  obtain ⟨⟨dx,sv,clv,e,dS,c⟩,al⟩:=id x
  unfold t_Seller_add
  refine g_lock en trivial trivial fun od H1 f1 e1=>?_
  have ep1:=f1.at e (nin1 nnp nin0)
  have ef1:=f1.at c.fr (nin1 nnf nin0)
  ((with_reducible refine g_for (g_iK ?_));walk_at "0";(with_reducible refine' g_rkt ?h560 ?_);(case h560=>walk_at "fact"))
  refine f_keysT (kvs:=cD m) (fun i σ H'=>(∃ v3,σ=[some (.ref s.p),some (.ref n),some (.int z),v3])∧Fr [s.fr] H1 H'∧H' s.fr=some (.dT (cD (stT S (addM M.fr z (m.take i)))))) ⟨⟨_,rfl⟩,Fr.refl,by rw [List.take_zero,addM_nil];exact ef1⟩ (fun i σ H' _ ⟨_,f,_⟩=>f.at e1 (nin1 nnf.symm nin0)) ?_ ?_
  · rintro i kk v q σ H2 hi hq ⟨⟨v3,rfl⟩,f2,e2⟩
    obtain ⟨y,hy,rfl,rfl⟩:=cD_get hi
    have hyk:=mk y (List.mem_of_getElem? hy)
    have ep2:=f2.at ep1 (nin1 nd.p_fr nin0)
    have en2:=f2.at e1 (nin1 nnf.symm nin0)
    have hyl : lk m y.1=some y.2:=lk_mem mn (List.mem_of_getElem? hy)
    ((with_reducible refine g_name (g_daug ?_));walk_at "9";walk_at "0")
    refine g_stA so hyk e2 hq ?_
    ((with_reducible refine' j_ov ?h562 ?_);(case h562=>exact rfl);(with_reducible refine' j_dv0 ?h563 ?_);(case h563=>exact rfl);walk_at "0")
    refine g_rdg (k:=ck y.1) (.inr ⟨_,en2⟩) hq (v:=.int y.2) (by rw [val_cell,hyl];rfl) ?_
    (walk_at "11";(with_reducible refine g_rAdd ?_))
    refine g_stP so hyk e2 hq fun H3 f3 e3=>?_
    have tk:=take_more hy
    have ni : y.1∉(m.take i).map (·.1):=fun w=>by
      have h1:((m.take (i + 1)).map (·.1)).Nodup:=mn.sublist ((List.take_sublist (i + 1) m).map _)
      rw [tk,List.map_append] at h1
      exact (List.nodup_append.mp h1).2.2 _ w _ (List.mem_singleton.mpr rfl) rfl
    refine ⟨⟨_,rfl⟩,f2.transL f3,?_⟩
    rw [e3,tk,← addM_snoc M.fr z ni]
  · rintro σ H2 ⟨⟨v3,rfl⟩,f2,e2⟩
    have hl:(cD m).length=m.length:=enD_len _
    rw [hl,List.take_length] at e2
    ((with_reducible refine' g_unl ?h565 ?_);(case h565=>walk_at "fact");intro _ _ _)
    rename_i H3 f3 e3
    have F:Fr [s.fr] H H3:=Fr.back1 (((f1.mono (by simp) : Fr [n,s.fr] H H1).transL (f2.mono (by simp))).transL (f3.mono (by simp))) en e3
    exact k H3 F (x.w_fr F (f3.at e2 (nin1 nnf nin0)))
theorem ok_Seller_add {f:Addr} {fd:FuncData} (F:Fun K "add" "Seller.add" s_Seller_add f fd) (T:Txt K mg A)  : FnOk P w K mg base CX0 (1) f fd ["self","needs","many"] (sp_Seller_add K A):=by
  refine F.ok sc_Seller_add (fun vs H Q E h=>?_) (fun cdv Ar outer s H vs Q E hr h=>⟨t_Seller_add K A,?_,?_⟩)
  · obtain ⟨x0,x1,x2,rfl,_⟩:=h
    rfl
  · have hu:=hu_of hr
    exact (pss_one (ps_lock (ps_for PassesOwn.never rfl (pi_keys (pv 1)) (pg_name (i:=3) sc_Seller_add.nd rfl (Or.inl rfl)) (pss_one (ps_daug hu (pe_fld (pv 0) rfl) (pv 3) (pe_op o_mul (pv 2) (pe_dget hu (pv 1) (pv 3) (fun _ _=>rfl))) in_add (fun _ _ _=>rfl))))))
  · obtain ⟨x0,x1,x2,rfl,h⟩:=h
    exact pu_Seller_add T h
def P_Seller_prices (K:PySem.W.Frag) (A:Ad) (x0 x1:V) (H:Hp) (Q:VK) : Prop:=∃ (s:SP) (S:Setup) (num:Int) (M:SM) (p:List Stay),x0=.ref s.p∧SellerAt A H s S num M∧Da H x1 (partyD p)∧SetupOk S∧PtyOk S p∧
  ∀ (t:Addr) (H':Hp),Fr [] H H'→H' t=some (.tup [.int (priceS S p),.int (keptS S p)])→Q (.ref t) H'
def sp_Seller_prices (K:PySem.W.Frag) (A:Ad) : Sp:=fun vs H Q _=>∃ x0 x1,vs=[x0,x1]∧P_Seller_prices K A x0 x1 H Q
theorem c_Seller_prices {K:PySem.W.Frag} {A:Ad} {x0 x1:V} {H:Hp} {Q:VK} {E:XK} (h:P_Seller_prices K A x0 x1 H Q) : sp_Seller_prices K A [x0,x1] H Q E:=⟨_,_,rfl,h⟩
theorem sc_Seller_prices:FnScope ["self","party"] ["self","party"] (defScope s_Seller_prices):=⟨rfl,rfl,rfl,by decide +kernel,rfl,by decide +kernel,by decide +kernel⟩
def t_Seller_prices (K:PySem.W.Frag) (A:Ad) : TS:=
  (tRet (tTup (tCons (tCl (sp_price_of K A) (tCons (tFld K (tVar 0) "setup") (tCons (tVar 1) tNil))) (tCons (tCl (sp_kept_of K A) (tCons (tFld K (tVar 0) "setup") (tCons (tVar 1) tNil))) tNil))))
theorem pu_Seller_prices (T:Txt K mg A) {x0 x1:V} {H:Hp} {Q:VK} (h:P_Seller_prices K A x0 x1 H Q) : t_Seller_prices K A { nx:=fun _ H'=>Q .non H',rt:=Q } [some x0,some x1] H:=by
  obtain ⟨s,S,num,M,p,rfl,x,dp,so,po,k⟩:=h
  obtain ⟨⟨dx,sv,clv,e,dS,c⟩,al⟩:=id x
  obtain ⟨a,xs,rfl,ea,dxs⟩:=party_tup dp
  unfold t_Seller_prices
  ((with_reducible refine g_ret (g_tup (g_cons (g_cl (g_cons ?_)))));(with_reducible refine' j_fv (f:="setup") (C:=Ad.Seller _) ?k567 ?h567 (Txt.cl_Seller (by assumption)) (Txt.no_Seller_setup (by assumption)) ?l567 ?_);(case k567=>exact rfl);(case h567=>walk_at "fact");(case l567=>exact rfl);walk_at "2")
  refine c_price_of ⟨S,a,xs,p,so,dS,rfl,ea,dxs,po.1,Nat.le_trans po.2 (by decide),fun H1 f1=>?_⟩
  have e1:=f1.at0 e
  have ip : immL (p.map stayD)=true:=imm_party p
  ((with_reducible refine g_cons (g_cl (g_cons ?_)));(with_reducible refine' j_fv (f:="setup") (C:=Ad.Seller _) ?k569 ?h569 (Txt.cl_Seller (by assumption)) (Txt.no_Seller_setup (by assumption)) ?l569 ?_);(case k569=>exact rfl);(case h569=>walk_at "fact");(case l569=>exact rfl);walk_at "2")
  refine c_kept_of ⟨S,a,xs,p,so,Da.frL f1 dS (imm_setup S),rfl,f1.tup _ _ ea,DaL.frL f1 dxs ip,po.1,Nat.le_trans po.2 (by decide),fun H2 f2=>?_⟩
  ((with_reducible refine g_nil ?_);walk_at "5")
  rename_i t H3 n3 f3 e3
  exact k t H3 ((f1.then0 f2).then0 f3) e3
theorem ok_Seller_prices {f:Addr} {fd:FuncData} (F:Fun K "prices" "Seller.prices" s_Seller_prices f fd) (T:Txt K mg A) (c_price_of:Cal P w K mg base "price_of" 3 ["setup","party"] (sp_price_of K A)) (c_kept_of:Cal P w K mg base "kept_of" 3 ["setup","party"] (sp_kept_of K A)) : FnOk P w K mg base CX0 (4) f fd ["self","party"] (sp_Seller_prices K A):=by
  refine F.ok sc_Seller_prices (fun vs H Q E h=>?_) (fun cdv Ar outer s H vs Q E hr h=>⟨t_Seller_prices K A,?_,?_⟩)
  · obtain ⟨x0,x1,rfl,_⟩:=h
    rfl
  · have hu:=hu_of hr
    exact (pss_one (ps_ret (pe_tup (pa_cons (pe_cl c_price_of (hr.mono (by first | decide | omega)) (by rfl) (pa_cons (pe_fld (pv 0) rfl) (pa_cons (pv 1) pa_nil))) (pa_cons (pe_cl c_kept_of (hr.mono (by first | decide | omega)) (by rfl) (pa_cons (pe_fld (pv 0) rfl) (pa_cons (pv 1) pa_nil))) pa_nil)))))
  · obtain ⟨x0,x1,rfl,h⟩:=h
    exact pu_Seller_prices T h
def P_Seller_write (K:PySem.W.Frag) (A:Ad) (x0 x1:V) (H:Hp) (Q:VK) : Prop:=∃ (s:SP) (S:Setup) (num:Int) (M:SM) (r:Row),x0=.ref s.p∧SellerAt A H s S num M∧Da H x1 (rowB r)∧M.Sz 100000∧
  ∀ H':Hp,Fr [s.bk,s.out] H H'→SellerAt A H' s S num (M.row r)→Q .non H'
def sp_Seller_write (K:PySem.W.Frag) (A:Ad) : Sp:=fun vs H Q _=>∃ x0 x1,vs=[x0,x1]∧P_Seller_write K A x0 x1 H Q
theorem c_Seller_write {K:PySem.W.Frag} {A:Ad} {x0 x1:V} {H:Hp} {Q:VK} {E:XK} (h:P_Seller_write K A x0 x1 H Q) : sp_Seller_write K A [x0,x1] H Q E:=⟨_,_,rfl,h⟩
theorem sc_Seller_write:FnScope ["self","row"] ["self","row"] (defScope s_Seller_write):=⟨rfl,rfl,rfl,by decide +kernel,rfl,by decide +kernel,by decide +kernel⟩
def t_Seller_write (K:PySem.W.Frag) (A:Ad) : TS:=
  (tSeq (tDrop (tBM K "list" rAppend (tFld K (tVar 0) "book") (tCons (tVar 1) tNil)))
    (tDrop (tBM K "list" rAppend (tFld K (tVar 0) "outgoing") (tCons (tTup (tCons (tC (.str "entry")) (tCons (tVar 1) tNil))) tNil))))
theorem pu_Seller_write (T:Txt K mg A) {x0 x1:V} {H:Hp} {Q:VK} (h:P_Seller_write K A x0 x1 H Q) : t_Seller_write K A { nx:=fun _ H'=>Q .non H',rt:=Q } [some x0,some x1] H:=by
  obtain ⟨s,S,num,M,r,rfl,x,dr,sz,k⟩:=h
  have nd:=x.nd
  obtain ⟨⟨dx,sv,clv,e,dS,c⟩,al⟩:=id x
  obtain ⟨ib,bs,eb,db⟩:=c.bk
  obtain ⟨io,os,eo,dox⟩:=c.out
  have hb : bs.length≤200000:=by rw [db.len,List.length_map];have:=sz.bk;omega
  have ho : os.length≤200000:=by rw [dox.len,List.length_map];have:=sz.out;omega
  unfold t_Seller_write
  ((with_reducible refine j_sd (g_bm ?_));(with_reducible refine' j_fv (f:="book") (C:=Ad.Seller _) ?k572 ?h572 (Txt.cl_Seller (by assumption)) (Txt.no_Seller_book (by assumption)) ?l572 ?_);(case k572=>exact rfl);(case h572=>walk_at "fact");(case l572=>exact rfl);(with_reducible refine' g_bmL ?h573 ?_);(case h573=>walk_at "fact");walk_at "2";walk_at "8";(with_reducible refine g_drop (g_bm (g_fld ?_)));walk_at "0")
  rename_i H1 f1 e1
  have ep1:=f1.at e (nin1 nd.p_bk nin0)
  have eo1:=f1.at eo (nin1 nd.bk_out.symm nin0)
  have x1':=x.w_bk (v:=M.bk++[r]) f1 (by rw [List.map_append];exact LsAt.snoc db ib dr (imm_rowB r) f1 e1)
  have dr1:=Da.frL f1 dr (imm_rowB r)
  ((with_reducible refine' g_rfld (f:="outgoing") (C:=Ad.Seller _) ?h575 (Txt.cl_Seller (by assumption)) (Txt.no_Seller_outgoing (by assumption)) ?l575 ?_);(case h575=>walk_at "fact");(case l575=>exact rfl);(with_reducible refine' g_bmL ?h576 ?_);(case h576=>walk_at "fact");(with_reducible refine g_cons (g_tup (j_cc ?_)));walk_at "2";walk_at "5";(with_reducible refine g_nil ?_);walk_at "8")
  rename_i t H2 n2 f2 e2 H3 f3 e3
  refine k H3 (((f1.mono (by simp) : Fr [s.bk,s.out] H H1).then0 f2).transL (f3.mono (by simp))) ?_
  refine (x1'.f0 f2).w_out (v:=M.out++[.entry r]) f3 ?_
  rw [List.map_append]
  exact LsAt.snoc (DaL.frL f2 (DaL.frL f1 dox io) io) io (.tup e2 (Nat.le_of_ble_eq_true rfl) (.cons (.str _) (.one' (Da.frL f2 dr1 (imm_rowB r))))) (imm_up _) f3 e3
theorem ok_Seller_write {f:Addr} {fd:FuncData} (F:Fun K "write" "Seller.write" s_Seller_write f fd) (T:Txt K mg A)  : FnOk P w K mg base CX0 (1) f fd ["self","row"] (sp_Seller_write K A):=by
  refine F.ok sc_Seller_write (fun vs H Q E h=>?_) (fun cdv Ar outer s H vs Q E hr h=>⟨t_Seller_write K A,?_,?_⟩)
  · obtain ⟨x0,x1,rfl,_⟩:=h
    rfl
  · have hu:=hu_of hr
    exact (pss_cons (ps_expr (pe_bm PySem.F.plainAttrs_list PySem.F.slot_list_append PySem.F.type_list_append mt_append (pe_fld (pv 0) rfl) (pa_cons (pv 1) pa_nil)))
    (pss_one (ps_expr (pe_bm PySem.F.plainAttrs_list PySem.F.slot_list_append PySem.F.type_list_append mt_append (pe_fld (pv 0) rfl) (pa_cons (pe_tup (pa_cons pe_str (pa_cons (pv 1) pa_nil))) pa_nil)))))
  · obtain ⟨x0,x1,rfl,h⟩:=h
    exact pu_Seller_write T h
theorem SP.m_p (s:SP) : s.p∈s.os:=by simp [SP.os]
theorem SP.m_fr (s:SP) : s.fr∈s.os:=by simp [SP.os]
theorem SP.m_vo (s:SP) : s.vo∈s.os:=by simp [SP.os]
theorem SP.m_bk (s:SP) : s.bk∈s.os:=by simp [SP.os]
theorem SP.m_ask (s:SP) : s.ask∈s.os:=by simp [SP.os]
theorem SP.m_wt (s:SP) : s.wt∈s.os:=by simp [SP.os]
theorem SP.m_out (s:SP) : s.out∈s.os:=by simp [SP.os]
theorem SP.m_told (s:SP) : s.told∈s.os:=by simp [SP.os]
theorem addM_needs (f:Cell→Int) (p:List Stay) : addM f 1 (needsL p)=fun c=>f c + nd p c:=funext fun c=>by unfold addM nd;rw [Int.one_mul]
theorem needs_cells {S:Setup} (so:SetupOk S) {p:List Stay} (hp:PtyOk S p) : ∀ e∈needsL p,CellOk S e.1:=fun e he=>cell_ok so hp.1 he
theorem vo_len {H:Hp} {kvs:List (Key×V)} {m:List (Int×List Stay)} (r:DkR H kvs (voD m)) : kvs.length=m.length:=by rw [r.len];unfold voD;rw [List.length_map]
theorem SellerAt.parts {A:Ad} {H:Hp} {s:SP} {S:Setup} {num:Int} {M:SM} (x:SellerAt A H s S num M) : ∃ dx sv clv,H s.p=some (.ins A.Seller dx (F_Seller sv num s.fr s.vo s.bk clv s.ask s.wt M.n s.out s.told))∧Da H sv (setupD S)∧SCore H S s clv M:=x.1
theorem SellerAt.nin {A:Ad} {H:Hp} {s:SP} {S:Setup} {num:Int} {M:SM} (x:SellerAt A H s S num M) {a:Addr} (n:H a=none) : a∉s.os:=x.2.nin n
def P_Seller_cancel (K:PySem.W.Frag) (A:Ad) (x0 x1 x2:V) (H:Hp) (Q:VK) : Prop:=∃ (s:SP) (S:Setup) (num:Int) (M:SM) (n k:Int) (o:List Stay),x0=.ref s.p∧SellerAt A H s S num M∧x1=.int n∧x2=.int k∧lk M.vo k=some o∧SetupOk S∧M.Ok S∧M.Sz 99000∧
  SStep A H s S num (SM.tell n true (SM.row (canR S k o) { M with fr:=fun c=>M.fr c + nd o c,vo:=dr M.vo k })) (fun H'=>Q .non H')
def sp_Seller_cancel (K:PySem.W.Frag) (A:Ad) : Sp:=fun vs H Q _=>∃ x0 x1 x2,vs=[x0,x1,x2]∧P_Seller_cancel K A x0 x1 x2 H Q
theorem c_Seller_cancel {K:PySem.W.Frag} {A:Ad} {x0 x1 x2:V} {H:Hp} {Q:VK} {E:XK} (h:P_Seller_cancel K A x0 x1 x2 H Q) : sp_Seller_cancel K A [x0,x1,x2] H Q E:=⟨_,_,_,rfl,h⟩
theorem sc_Seller_cancel:FnScope ["self","number","voucher","party"] ["self","number","voucher"] (defScope s_Seller_cancel):=⟨rfl,rfl,rfl,by decide +kernel,rfl,by decide +kernel,by decide +kernel⟩
def t_Seller_cancel (K:PySem.W.Frag) (A:Ad) : TS:=
  (tSeq (tAsg (tDPop1 (tFld K (tVar 0) "vouchers") (tVar 2)) (gName 3))
    (tSeq (tDrop (tMt A.Seller "add" (sp_Seller_add K A) (tVar 0) (tCons (tCl (sp_needs_of K A) (tCons (tVar 3) tNil)) (tCons (tC (.int 1)) tNil))))
    (tSeq (tDrop (tMt A.Seller "write" (sp_Seller_write K A) (tVar 0) (tCons (tOp (rCatT K) (tTup (tCons (tC (.str "cancelled")) (tCons (tVar 2) tNil))) (tMt A.Seller "prices" (sp_Seller_prices K A) (tVar 0) (tCons (tVar 3) tNil))) tNil)))
    (tDrop (tBM K "list" rAppend (tFld K (tVar 0) "told") (tCons (tTup (tCons (tVar 1) (tCons (tC (.bl true)) tNil))) tNil))))))
theorem pu_Seller_cancel (T:Txt K mg A) {x0 x1 x2:V} {H:Hp} {Q:VK} (h:P_Seller_cancel K A x0 x1 x2 H Q) : t_Seller_cancel K A { nx:=fun _ H'=>Q .non H',rt:=Q } [some x0,some x1,some x2,none] H:=by
  obtain ⟨s,S,num,M,n,k,o,rfl,x,rfl,rfl,ho,so,mo,sz,kk⟩:=h
  have nd0:=x.nd
  obtain ⟨dx,sv,clv,e,dS,c⟩:=x.parts
  obtain ⟨kvs,ev,rv⟩:=c.vo
  have hoo:PtyOk S o:=mo.vk _ (lk_some ho)
  rcases DkR.look rv k with ⟨h1,_⟩ | ⟨pv,z,h1,h2,h3⟩
  · rw [ho] at h1;cases h1
  rw [ho] at h1
  cases h1
  unfold t_Seller_cancel
  ((with_reducible refine j_sa (g_dpop1 ?_));(with_reducible refine' j_fv (f:="vouchers") (C:=Ad.Seller _) ?k580 ?h580 (Txt.cl_Seller (by assumption)) (Txt.no_Seller_vouchers (by assumption)) ?l580 ?_);(case k580=>exact rfl);(case h580=>walk_at "fact");(case l580=>exact rfl);(with_reducible refine' g_rdg2K ?h581 ?_);(case h581=>walk_at "rdt");walk_at "0")
  refine g_rpopI ev h2 fun H1 f1 e1=>?_
  have x1:=x.w_vo (v:=dr M.vo k) f1 ⟨_,e1,by unfold voD;rw [← dr_mp];exact (rv.fr f1).drop k⟩
  have dp1:=Da.frL f1 h3 (imm_party o)
  obtain ⟨pa,ps,rfl,ep,dps⟩:=party_tup dp1
  obtain ⟨dx1,sv1,clv1,e1p,_,_⟩:=x1.parts
  ((with_reducible refine g_name (j_sd ?_));walk_at "6";(with_reducible refine g_cons (g_cl ?_));walk_at "2")
  refine c_needs_of ⟨pa,ps,o,rfl,ep,dps,SmallSt.of so hoo.1,Nat.le_trans hoo.2 (by decide),fun nq H2 n2 f2 e2=>?_⟩
  ((with_reducible refine j_cc1 ?_))
  refine c_Seller_add ⟨s,S,num,_,nq,needsL o,1,rfl,x1.f0 f2,rfl,rfl,e2,x1.nin n2,so,needs_nd o,needs_cells so hoo,⟨by decide,by decide⟩,fun H3 f3 x3=>?_⟩
  obtain ⟨dx3,sv3,clv3,e3p,_,_⟩:=x3.parts
  have dp3:=Da.frL f3 (Da.frL f2 dp1 (imm_party o)) (imm_party o)
  ((with_reducible refine j_sd ?_);walk_at "6";(with_reducible refine g_cons (g_op (g_tup (j_cc ?_))));walk_at "2";walk_at "5";walk_at "6";walk_at "2")
  rename_i t H4 n4 f4 e4
  have e4p:=f4.at0 e3p
  skip
  refine c_Seller_prices ⟨s,S,num,_,o,rfl,x3.f0 f4,Da.frL f4 dp3 (imm_party o),so,hoo,fun t2 H5 f5 e5=>?_⟩
  refine g_catT (SqT.of (f5.at0 e4)) (SqT.of e5) (by simp) (Nat.le_of_ble_eq_true rfl) (fun z=>by cases z) (fun _ t3 H6 n6 f6 e6=>?_)
  have x6:=((x3.f0 f4).f0 f5).f0 f6
  obtain ⟨dx6,sv6,clv6,e6p,_,_⟩:=x6.parts
  ((with_reducible refine g_nil ?_))
  have hvl:=dr_len1 M.vo k
  refine c_Seller_write ⟨s,S,num,_,canR S k o,rfl,x6,.tup e6 (Nat.le_of_ble_eq_true rfl) (.cons (.str _) (.cons (.int _) (.cons (.int _) (.one' (.int _))))),⟨Nat.le_trans sz.bk (by decide),Nat.le_trans sz.out (by decide),Nat.le_trans sz.told (by decide),by have:=sz.vo;show (dr M.vo k).length + M.wt.length≤_;omega,Nat.le_trans sz.ask (by decide)⟩,fun H7 f7 x7=>?_⟩
  obtain ⟨dx7,sv7,clv7,e7p,_,c7⟩:=x7.parts
  obtain ⟨it,ts,et,dt⟩:=c7.told
  have htl : ts.length≤200000:=by rw [dt.len,List.length_map];have:=sz.told;show M.told.length≤_;omega
  ((with_reducible refine g_drop (g_bm ?_));(with_reducible refine' j_fv (f:="told") (C:=Ad.Seller _) ?k589 ?h589 (Txt.cl_Seller (by assumption)) (Txt.no_Seller_told (by assumption)) ?l589 ?_);(case k589=>exact rfl);(case h589=>walk_at "fact");(case l589=>exact rfl);(with_reducible refine' g_bmL ?h590 ?_);(case h590=>walk_at "fact");(with_reducible refine g_cons (g_tup ?_));walk_at "1";(with_reducible refine j_cc1 ?_);walk_at "5";(with_reducible refine g_nil ?_);walk_at "8")
  rename_i t8 H8 n8 f8 e8 H9 f9 e9
  have x9:=(x7.f0 f8).w_told (v:=M.told++[(n,true)]) f9 (by rw [List.map_append];exact LsAt.snoc (DaL.frL f8 dt it) it (.tup e8 (Nat.le_of_ble_eq_true rfl) (.cons (.int _) (.one' (.bl _)))) rfl f9 e9)
  refine kk H9 ?_ ?_
  · exact (((((((((f1.in1 s.m_vo).then0 f2).transL (f3.in1 s.m_fr)).then0 f4).then0 f5).then0 f6).transL (f7.in2 s.m_bk s.m_out)).then0 f8).transL (f9.in1 s.m_told))
  · have h:=x9
    rw [addM_needs] at h
    exact h
theorem ok_Seller_cancel {f:Addr} {fd:FuncData} (F:Fun K "cancel" "Seller.cancel" s_Seller_cancel f fd) (T:Txt K mg A) (c_Seller_add:CalM P w K mg base A.Seller "add" 1 ["self","needs","many"] (sp_Seller_add K A)) (c_Seller_write:CalM P w K mg base A.Seller "write" 1 ["self","row"] (sp_Seller_write K A)) (c_needs_of:Cal P w K mg base "needs_of" 2 ["party"] (sp_needs_of K A)) (c_Seller_prices:CalM P w K mg base A.Seller "prices" 4 ["self","party"] (sp_Seller_prices K A)) : FnOk P w K mg base CX0 (5) f fd ["self","number","voucher"] (sp_Seller_cancel K A):=by
  refine F.ok sc_Seller_cancel (fun vs H Q E h=>?_) (fun cdv Ar outer s H vs Q E hr h=>⟨t_Seller_cancel K A,?_,?_⟩)
  · obtain ⟨x0,x1,x2,rfl,_⟩:=h
    rfl
  · have hu:=hu_of hr
    exact (pss_cons (ps_set (i:=3) sc_Seller_cancel.nd rfl (Or.inl rfl) (pe_dpop1 (pe_fld (pv 0) rfl) (pv 2) ⟨rfl,rfl,rfl,rfl⟩))
    (pss_cons (ps_expr (pe_mt (pv 0) T.cl_Seller c_Seller_add (hr.mono (by first | decide | omega)) (pa_cons (pe_cl c_needs_of (hr.mono (by first | decide | omega)) (by rfl) (pa_cons (pv 3) pa_nil)) (pa_cons pe_int pa_nil))))
    (pss_cons (ps_expr (pe_mt (pv 0) T.cl_Seller c_Seller_write (hr.mono (by first | decide | omega)) (pa_cons (pe_op op_catT (pe_tup (pa_cons pe_str (pa_cons (pv 2) pa_nil))) (pe_mt (pv 0) T.cl_Seller c_Seller_prices (hr.mono (by first | decide | omega)) (pa_cons (pv 3) pa_nil))) pa_nil)))
    (pss_one (ps_expr (pe_bm PySem.F.plainAttrs_list PySem.F.slot_list_append PySem.F.type_list_append mt_append (pe_fld (pv 0) rfl) (pa_cons (pe_tup (pa_cons (pv 1) (pa_cons pe_bl pa_nil))) pa_nil)))))))
  · obtain ⟨x0,x1,x2,rfl,h⟩:=h
    exact pu_Seller_cancel T h
def spM (f:Cell→Int) (p:List Stay) (m:List (Cell×Int)) : Cell→Int:=fun c=>f c + match lk m c with
  | some v=>max 0 (v - nd p c)
  | none=>0
theorem spM_nil (f:Cell→Int) (p:List Stay) : spM f p []=f:=funext fun c=>by show f c + 0=f c;omega
theorem spM_snoc (f:Cell→Int) (p:List Stay) {m:List (Cell×Int)} {e:Cell×Int} (h : e.1∉m.map (·.1)) : fset (spM f p m) e.1 (spM f p m e.1 + max 0 (e.2 - nd p e.1))=spM f p (m++[e]):=funext fun c=>by
  have h0:=lk_none h
  unfold fset spM
  rw [lk_app]
  by_cases q : c=e.1
  · subst q;rw [if_pos rfl,h0];simp
  · rw [if_neg q]
    cases lk m c with
    | some v=>rfl
    | none=>simp [Ne.symm q]
theorem spM_needs (f:Cell→Int) (p o:List Stay) : spM f p (needsL o)=fun c=>f c + max 0 (nd o c - nd p c):=funext fun c=>by
  unfold spM
  have h:=nd_pos p c
  have e : nd o c=(lk (needsL o) c).getD 0:=rfl
  cases q : lk (needsL o) c with
  | some v=>rw [e,q];rfl
  | none=>
    rw [e,q]
    show f c + 0=f c + max 0 (0 - nd p c)
    omega
def SM.kept (S:Setup) (n:Int) (d:Deed) (M:SM) : SM:=SM.keep S n d { M with fr:=fun c=>M.fr c + max 0 (nd (M.old d) c - nd d.party c) }
def P_Seller_keep (K:PySem.W.Frag) (A:Ad) (x0 x1 x2:V) (H:Hp) (Q:VK) : Prop:=∃ (s:SP) (S:Setup) (num:Int) (M:SM) (n:Int) (d:Deed),x0=.ref s.p∧SellerAt A H s S num M∧x1=.int n∧Da H x2 (deedD d)∧SetupOk S∧M.Ok S∧DeedOk S d∧AskOk M.vo d∧M.Sz 99000∧
  SStep A H s S num (M.kept S n d) (fun H'=>Q .non H')
def sp_Seller_keep (K:PySem.W.Frag) (A:Ad) : Sp:=fun vs H Q _=>∃ x0 x1 x2,vs=[x0,x1,x2]∧P_Seller_keep K A x0 x1 x2 H Q
theorem c_Seller_keep {K:PySem.W.Frag} {A:Ad} {x0 x1 x2:V} {H:Hp} {Q:VK} {E:XK} (h:P_Seller_keep K A x0 x1 x2 H Q) : sp_Seller_keep K A [x0,x1,x2] H Q E:=⟨_,_,_,rfl,h⟩
theorem sc_Seller_keep:FnScope ["self","number","deed","party","old","needs","spare","cell"] ["self","number","deed"] (defScope s_Seller_keep):=⟨rfl,rfl,rfl,by decide +kernel,rfl,by decide +kernel,by decide +kernel⟩
def t_Seller_keep (K:PySem.W.Frag) (A:Ad) : TS:=
  (tSeq (tAsg (tOp (rIxT K) (tVar 2) (tUn rNeg (tC (.int 1)))) (gName 3))
    (tSeq (tIfS (tTest (tOp rEq (tOp (rIxT K) (tVar 2) (tC (.int 0))) (tC (.str "wish")))) (tSeq (sDPut (tFld K (tVar 0) "vouchers") (tVar 1) (tVar 3))
    (tSeq (tDrop (tMt A.Seller "write" (sp_Seller_write K A) (tVar 0) (tCons (tOp (rCatT K) (tTup (tCons (tC (.str "sold")) (tCons (tVar 1) (tCons (tVar 3) tNil)))) (tMt A.Seller "prices" (sp_Seller_prices K A) (tVar 0) (tCons (tVar 3) tNil))) tNil)))
    tRetN)) tNext)
    (tSeq (tAsg (tDGet (tFld K (tVar 0) "vouchers") (tOp (rIxT K) (tVar 2) (tC (.int 1)))) (gName 4))
    (tSeq (tAsg (tCl (sp_needs_of K A) (tCons (tVar 3) tNil)) (gName 5))
    (tSeq (tAsg (tCl (sp_needs_of K A) (tCons (tVar 4) tNil)) (gName 6))
    (tSeq (tLock (tFor (iKeys (tVar 6)) (gName 7) (sDAug (tFld K (tVar 0) "free") (tVar 7) (tCB rMax2 (tCons (tC (.int 0)) (tCons (tOp oSub (tDGet (tVar 6) (tVar 7)) (tDGet2 (tVar 5) (tVar 7) (tC (.int 0)))) tNil))) rAdd)))
    (tSeq (sDPut (tFld K (tVar 0) "vouchers") (tOp (rIxT K) (tVar 2) (tC (.int 1))) (tVar 3))
    (tDrop (tMt A.Seller "write" (sp_Seller_write K A) (tVar 0) (tCons (tOp (rCatT K) (tOp (rCatT K) (tTup (tCons (tC (.str "changed")) (tCons (tOp (rIxT K) (tVar 2) (tC (.int 1))) (tCons (tVar 3) tNil)))) (tMt A.Seller "prices" (sp_Seller_prices K A) (tVar 0) (tCons (tVar 3) tNil))) (tMt A.Seller "prices" (sp_Seller_prices K A) (tVar 0) (tCons (tVar 4) tNil))) tNil))))))))))
theorem pu_Seller_keep (T:Txt K mg A) {x0 x1 x2:V} {H:Hp} {Q:VK} (h:P_Seller_keep K A x0 x1 x2 H Q) : t_Seller_keep K A { nx:=fun _ H'=>Q .non H',rt:=Q } [some x0,some x1,some x2,none,none,none,none,none] H:=by
  obtain ⟨s,S,num,M,n,d,rfl,x,rfl,dd,so,mo,dok,ak,sz,kk⟩:=h
  have nd0:=x.nd
  obtain ⟨dx,sv,clv,e,dS,c⟩:=x.parts
  obtain ⟨kvs,ev,rv⟩:=c.vo
  have hvl : kvs.length≤200000:=by rw [vo_len rv];have:=sz.vo;omega
  obtain ⟨a,xs,rfl,ea,q⟩:=deed_tup dd
  unfold t_Seller_keep
  cases d with
  | cancel k=>exact absurd ak id
  | wish p=>
    obtain ⟨w,y,rfl,d1,d2⟩:=q.two
    cases d1.str1
    have hpo:PtyOk S p:=dok
    ((with_reducible refine j_sa ?_);(with_reducible refine' j_ov ?h595 ?_);(case h595=>exact rfl);(with_reducible refine g_un (g_c (g_neg ?_)));(with_reducible refine' g_ixT ?h597 ?k597 ?_);(case h597=>walk_at "sqt");(case k597=>exact rfl);(with_reducible refine g_name (j_sit (g_op ?_)));walk_at "3";(with_reducible refine j_es ?_))
    refine g_ite (fun _=>?_) (fun z=>absurd rfl z)
    ((with_reducible refine g_seq (g_dput ?_));walk_at "0";(with_reducible refine' j_fv (f:="vouchers") (C:=Ad.Seller _) ?k601 ?h601 (Txt.cl_Seller (by assumption)) (Txt.no_Seller_vouchers (by assumption)) ?l601 ?_);(case k601=>exact rfl);(case h601=>walk_at "fact");(case l601=>exact rfl);walk_at "0")
    refine g_rdpI ev (szM (by omega)) fun H1 f1 e1=>?_
    have x1:=x.w_vo (v:=pt M.vo n p) f1 ⟨_,e1,by unfold voD;rw [← pt_mp];exact (rv.fr f1).put n (Da.frL f1 d2 (imm_party p)) (imm_party p)⟩
    have dp1:=Da.frL f1 d2 (imm_party p)
    obtain ⟨dx1,sv1,clv1,e1p,_,_⟩:=x1.parts
    ((with_reducible refine j_sd ?_);walk_at "6";(with_reducible refine g_cons (g_op (g_tup (j_cc ?_))));walk_at "1";walk_at "2";walk_at "5";walk_at "6";walk_at "2")
    rename_i t H4 n4 f4 e4
    have e4p:=f4.at0 e1p
    skip
    refine c_Seller_prices ⟨s,S,num,_,p,rfl,x1.f0 f4,Da.frL f4 dp1 (imm_party p),so,hpo,fun t2 H5 f5 e5=>?_⟩
    refine g_catT (SqT.of (f5.at0 e4)) (SqT.of e5) (by simp) (Nat.le_of_ble_eq_true rfl) (fun z=>by cases z) (fun _ t3 H6 n6 f6 e6=>?_)
    have x6:=((x1.f0 f4).f0 f5).f0 f6
    obtain ⟨dx6,sv6,clv6,e6p,_,_⟩:=x6.parts
    have dp6:=Da.frL ((f4.then0 f5).then0 f6) dp1 (imm_party p)
    ((with_reducible refine g_nil ?_))
    have hpl:=pt_len1 M.vo n p
    refine c_Seller_write ⟨s,S,num,_,soldR S n p,rfl,x6,.tup e6 (Nat.le_of_ble_eq_true rfl) (.cons (.str _) (.cons (.int _) (.cons dp6 (.cons (.int _) (.one' (.int _)))))),⟨Nat.le_trans sz.bk (by decide),Nat.le_trans sz.out (by decide),Nat.le_trans sz.told (by decide),by have:=sz.vo;show (pt M.vo n p).length + M.wt.length≤_;omega,Nat.le_trans sz.ask (by decide)⟩,fun H7 f7 x7=>?_⟩
    ((with_reducible refine g_retN ?_))
    refine kk H7 ?_ ?_
    · exact (((f1.in1 s.m_vo).then0 f4).then0 f5).then0 f6 |>.transL (f7.in2 s.m_bk s.m_out)
    · have hz:(fun c=>M.fr c + max 0 (nd (M.old (.wish p)) c - nd (Deed.wish p).party c))=M.fr:=funext fun c=>by
        have h:=nd_pos p c
        show M.fr c + max 0 (0 - nd p c)=M.fr c
        omega
      unfold SM.kept
      rw [hz]
      exact x7
  | change k p=>
    obtain ⟨w,y,z,rfl,d1,d2,d3⟩:=q.three
    cases d1.str1
    cases d2.int1
    have hpo:PtyOk S p:=dok
    ((with_reducible refine j_sa ?_);(with_reducible refine' j_ov ?h607 ?_);(case h607=>exact rfl);(with_reducible refine g_un (g_c (g_neg ?_)));(with_reducible refine' g_ixT ?h609 ?k609 ?_);(case h609=>walk_at "sqt");(case k609=>exact rfl);(with_reducible refine g_name (j_sit (g_op ?_)));walk_at "3";(with_reducible refine j_es ?_))
    refine g_ite (fun z=>absurd z (by decide)) (fun _=>?_)
    ((with_reducible refine g_next (j_sa (g_dget ?_)));(with_reducible refine' j_fv (f:="vouchers") (C:=Ad.Seller _) ?k613 ?h613 (Txt.cl_Seller (by assumption)) (Txt.no_Seller_vouchers (by assumption)) ?l613 ?_);(case k613=>exact rfl);(case h613=>walk_at "fact");(case l613=>exact rfl);walk_at "3")
    have hso:(lk M.vo k).isSome=true:=ak
    rcases DkR.look rv k with ⟨h1,_⟩ | ⟨pv,o,h1,h2,h3⟩
    · rw [h1] at hso;cases hso
    have hoo:PtyOk S o:=mo.vk _ (lk_some h1)
    refine g_rdgI (.inl ev) h2 ?_
    obtain ⟨pa,ps,rfl,ep,dps⟩:=party_tup d3
    obtain ⟨oa,os,rfl,eo,dos⟩:=party_tup h3
    ((with_reducible refine g_name (j_sa (g_cl ?_)));walk_at "2")
    refine c_needs_of ⟨pa,ps,p,rfl,ep,dps,SmallSt.of so hpo.1,Nat.le_trans hpo.2 (by decide),fun nq H1 n1 f1 e1=>?_⟩
    ((with_reducible refine g_name (j_sa (g_cl ?_)));walk_at "2")
    refine c_needs_of ⟨oa,os,o,rfl,f1.tup _ _ eo,DaL.frL f1 dos (imm_party o),SmallSt.of so hoo.1,Nat.le_trans hoo.2 (by decide),fun sq H2 n2 f2 e2=>?_⟩
    have x2:=(x.f0 f1).f0 f2
    obtain ⟨dx2,sv2,clv2,e2p,_,c2⟩:=x2.parts
    have en2:=f2.at0 e1
    have F2:Fr [] H H2:=f1.then0 f2
    have ns : sq∉s.os:=(x.f0 f1).nin n2
    have nsf : s.fr≠sq:=fun q=>ns (by rw [← q];exact s.m_fr)
    have nsp : s.p≠sq:=fun q=>ns (by rw [← q];exact s.m_p)
    have nnq : nq∉s.os:=x.nin n1
    have nqf : nq≠s.fr:=fun q=>nnq (by rw [q];exact s.m_fr)
    have nqs : nq≠sq:=ne_of_none e1 n2
    refine g_lock e2 trivial trivial fun od H3 f3 e3=>?_
    have ep3:=f3.at e2p (nin1 nsp nin0)
    have ef3:=f3.at c2.fr (nin1 nsf nin0)
    have en3:=f3.at en2 (nin1 nqs nin0)
    ((with_reducible refine g_for (g_iK ?_));walk_at "0";(with_reducible refine' g_rkt ?h617 ?_);(case h617=>walk_at "fact"))
    refine f_keysT (kvs:=cD (needsL o)) (fun i σ H'=>(∃ v7,σ=[some (.ref s.p),some (.int n),some (.ref a),some (.ref pa),some (.ref oa),some (.ref nq),some (.ref sq),v7])∧Fr [s.fr] H3 H'∧H' s.fr=some (.dT (cD (stT S (spM M.fr p ((needsL o).take i)))))) ⟨⟨_,rfl⟩,Fr.refl,by rw [List.take_zero,spM_nil];exact ef3⟩ (fun i σ H' _ ⟨_,f,_⟩=>f.at e3 (nin1 nsf.symm nin0)) ?_ ?_
    · rintro i ke v q σ H4 hi hq ⟨⟨v7,rfl⟩,f4,e4⟩
      obtain ⟨y,hy,rfl,rfl⟩:=cD_get hi
      have hyk:=needs_cells so hoo y (List.mem_of_getElem? hy)
      have ep4:=f4.at ep3 (nin1 nd0.p_fr nin0)
      have es4:=f4.at e3 (nin1 nsf.symm nin0)
      have en4:=f4.at en3 (nin1 nqf nin0)
      have hyl : lk (needsL o) y.1=some y.2:=lk_mem (needs_nd o) (List.mem_of_getElem? hy)
      ((with_reducible refine g_name (g_daug ?_));walk_at "9";walk_at "0")
      refine g_stA so hyk e4 hq ?_
      ((with_reducible refine g_cb (j_cc (g_cons (g_op ?_))));(with_reducible refine' j_dv0 ?h620 ?_);(case h620=>exact rfl);walk_at "0")
      refine g_rdg (k:=ck y.1) (.inr ⟨_,es4⟩) hq (v:=.int y.2) (by rw [val_cell,hyl];rfl) ?_
      ((with_reducible refine g_dget2 ?_);walk_at "0";(with_reducible refine' g_rdg2 ?h622 ?_);(case h622=>walk_at "rdt");walk_at "0";(with_reducible refine g_c ?_))
      refine g_dgo (k:=ck y.1) (.inl en4) hq ?_
      rw [val_nd]
      ((with_reducible refine g_sub (g_nil (g_max2 (g_rAdd ?_)))))
      have hmx:(if y.2 - nd p y.1 > 0 then y.2 - nd p y.1 else 0)=max 0 (y.2 - nd p y.1):=by
        split <;> omega
      rw [hmx]
      refine g_stP so hyk e4 hq fun H5 f5 e5=>?_
      have tk:=take_more hy
      have ni : y.1∉((needsL o).take i).map (·.1):=fun w=>by
        have h1:(((needsL o).take (i + 1)).map (·.1)).Nodup:=(needs_nd o).sublist ((List.take_sublist (i + 1) (needsL o)).map _)
        rw [tk,List.map_append] at h1
        exact (List.nodup_append.mp h1).2.2 _ w _ (List.mem_singleton.mpr rfl) rfl
      refine ⟨⟨_,rfl⟩,f4.transL f5,?_⟩
      rw [e5,tk,← spM_snoc M.fr p ni]
    · rintro σ H4 ⟨⟨v7,rfl⟩,f4,e4⟩
      have hl:(cD (needsL o)).length=(needsL o).length:=enD_len _
      rw [hl,List.take_length,spM_needs] at e4
      refine g_unlK (f4.at e3 (nin1 nsf.symm nin0)) fun H5 f5 e5=>?_
      have F5:Fr [s.fr] H2 H5:=Fr.back1 (((f3.mono (by simp) : Fr [sq,s.fr] H2 H3).transL (f4.mono (by simp))).transL (f5.mono (by simp))) e2 e5
      have x5:=x2.w_fr F5 (f5.at e4 (nin1 nsf nin0))
      obtain ⟨dx5,sv5,clv5,e5p,_,c5⟩:=x5.parts
      have G5:Fr [s.fr] H H5:=F5.pre0' F2
      have ea5:=G5.tup _ _ ea
      have ev5:=G5.at ev (nin1 nd0.fr_vo.symm nin0)
      have rv5:=rv.fr G5
      have dn5:=Da.frL G5 d3 (imm_party p)
      have do5:=Da.frL G5 h3 (imm_party o)
      clear f1 f2 f3 f4 f5 e1 e2 e3 e4 e5 en2 en3 ep3 ef3 F2 e2p c2 x2 n1 n2
      ((with_reducible refine g_seq (g_dput ?_));walk_at "0";(with_reducible refine' j_fv (f:="vouchers") (C:=Ad.Seller _) ?k626 ?h626 (Txt.cl_Seller (by assumption)) (Txt.no_Seller_vouchers (by assumption)) ?l626 ?_);(case k626=>exact rfl);(case h626=>walk_at "fact");(case l626=>exact rfl);walk_at "3")
      refine g_rdpI ev5 (szM (by omega)) fun H6 f6 e6=>?_
      have x6:=x5.w_vo (v:=pt M.vo k p) f6 ⟨_,e6,by unfold voD;rw [← pt_mp];exact (rv5.fr f6).put k (Da.frL f6 dn5 (imm_party p)) (imm_party p)⟩
      have dn6:=Da.frL f6 dn5 (imm_party p)
      have do6:=Da.frL f6 do5 (imm_party o)
      have ea6:=f6.tup _ _ ea5
      obtain ⟨dx6,sv6,clv6,e6p,_,_⟩:=x6.parts
      ((with_reducible refine g_drop ?_);walk_at "6";(with_reducible refine g_cons (g_op (g_op (g_tup (j_cc (g_cons ?_))))));walk_at "3";walk_at "2";walk_at "5";walk_at "6";walk_at "2")
      rename_i t H7 n7 f7 e7
      have e7p:=f7.at0 e6p
      skip
      refine c_Seller_prices ⟨s,S,num,_,p,rfl,x6.f0 f7,Da.frL f7 dn6 (imm_party p),so,hpo,fun t2 H8 f8 e8=>?_⟩
      refine g_catT (SqT.of (f8.at0 e7)) (SqT.of e8) (by simp) (Nat.le_of_ble_eq_true rfl) (fun z=>by cases z) (fun _ t3 H9 n9 f9 e9=>?_)
      have F9:=(f7.then0 f8).then0 f9
      have x9:=x6.f0 F9
      obtain ⟨dx9,sv9,clv9,e9p,_,_⟩:=x9.parts
      (walk_at "6";walk_at "2")
      refine c_Seller_prices ⟨s,S,num,_,o,rfl,x9,Da.frL F9 do6 (imm_party o),so,hoo,fun t4 H10 f10 e10=>?_⟩
      refine g_catT (SqT.of (f10.at0 e9)) (SqT.of e10) (by simp) (Nat.le_of_ble_eq_true rfl) (fun z=>by cases z) (fun _ t5 H11 n11 f11 e11=>?_)
      have F11:=(F9.then0 f10).then0 f11
      have x11:=x6.f0 F11
      obtain ⟨dx11,sv11,clv11,e11p,_,_⟩:=x11.parts
      ((with_reducible refine g_nil ?_))
      have hpl:=pt_len1 M.vo k p
      refine c_Seller_write ⟨s,S,num,_,chgR S k p o,rfl,x11,.tup e11 (Nat.le_of_ble_eq_true rfl) (.cons (.str _) (.cons (.int _) (.cons (Da.frL F11 dn6 (imm_party p)) (.cons (.int _) (.cons (.int _) (.cons (.int _) (.one' (.int _)))))))),⟨Nat.le_trans sz.bk (by decide),Nat.le_trans sz.out (by decide),Nat.le_trans sz.told (by decide),by have:=sz.vo;show (pt M.vo k p).length + M.wt.length≤_;omega,Nat.le_trans sz.ask (by decide)⟩,fun H12 f12 x12=>?_⟩
      skip
      refine kk H12 ?_ ?_
      · exact (((G5.in1 s.m_fr).transL (f6.in1 s.m_vo)).then0 F11).transL (f12.in2 s.m_bk s.m_out)
      · have hz:SM.kept S n (.change k p) M=SM.row (chgR S k p o) { M with fr:=fun c=>M.fr c + max 0 (nd o c - nd p c),vo:=pt M.vo k p }:=by
          show SM.row (chgR S k p ((lk M.vo k).getD [])) { M with fr:=fun c=>M.fr c + max 0 (nd ((lk M.vo k).getD []) c - nd p c),vo:=pt M.vo k p } = _
          rw [h1];rfl
        rw [hz]
        exact x12
theorem ok_Seller_keep {f:Addr} {fd:FuncData} (F:Fun K "keep" "Seller.keep" s_Seller_keep f fd) (T:Txt K mg A) (c_needs_of:Cal P w K mg base "needs_of" 2 ["party"] (sp_needs_of K A)) (c_Seller_write:CalM P w K mg base A.Seller "write" 1 ["self","row"] (sp_Seller_write K A)) (c_Seller_prices:CalM P w K mg base A.Seller "prices" 4 ["self","party"] (sp_Seller_prices K A)) : FnOk P w K mg base CX0 (5) f fd ["self","number","deed"] (sp_Seller_keep K A):=by
  refine F.ok sc_Seller_keep (fun vs H Q E h=>?_) (fun cdv Ar outer s H vs Q E hr h=>⟨t_Seller_keep K A,?_,?_⟩)
  · obtain ⟨x0,x1,x2,rfl,_⟩:=h
    rfl
  · have hu:=hu_of hr
    exact (pss_cons (ps_set (i:=3) sc_Seller_keep.nd rfl (Or.inl rfl) (pe_ix ix_tup (pv 2) (pe_un un_neg pe_int) (fun _ _=>rfl)))
    (pss_cons (ps_if (pt_cmpR op_eq (pe_ix ix_tup (pv 2) pe_int (fun _ _=>rfl)) pe_str (nomark _)) (pss_cons (ps_dput hu (pe_fld (pv 0) rfl) (pv 1) (pv 3) rfl)
    (pss_cons (ps_expr (pe_mt (pv 0) T.cl_Seller c_Seller_write (hr.mono (by first | decide | omega)) (pa_cons (pe_op op_catT (pe_tup (pa_cons pe_str (pa_cons (pv 1) (pa_cons (pv 3) pa_nil)))) (pe_mt (pv 0) T.cl_Seller c_Seller_prices (hr.mono (by first | decide | omega)) (pa_cons (pv 3) pa_nil))) pa_nil)))
    (pss_one ps_retN))) pss_nil)
    (pss_cons (ps_set (i:=4) sc_Seller_keep.nd rfl (Or.inl rfl) (pe_dget hu (pe_fld (pv 0) rfl) (pe_ix ix_tup (pv 2) pe_int (fun _ _=>rfl)) (fun _ _=>rfl)))
    (pss_cons (ps_set (i:=5) sc_Seller_keep.nd rfl (Or.inl rfl) (pe_cl c_needs_of (hr.mono (by first | decide | omega)) (by rfl) (pa_cons (pv 3) pa_nil)))
    (pss_cons (ps_set (i:=6) sc_Seller_keep.nd rfl (Or.inl rfl) (pe_cl c_needs_of (hr.mono (by first | decide | omega)) (by rfl) (pa_cons (pv 4) pa_nil)))
    (pss_cons (ps_lock (ps_for PassesOwn.never rfl (pi_keys (pv 6)) (pg_name (i:=7) sc_Seller_keep.nd rfl (Or.inl rfl)) (pss_one (ps_daug hu (pe_fld (pv 0) rfl) (pv 7) (pe_callB (b_max2 rfl) (by rfl) T.b_max (by decide +kernel) (pa_cons pe_int (pa_cons (pe_op o_sub (pe_dget hu (pv 6) (pv 7) (fun _ _=>rfl)) (pe_dget2 hu (pv 5) (pv 7) pe_int ⟨rfl,rfl,rfl,rfl⟩)) pa_nil))) in_add (fun _ _ _=>rfl)))))
    (pss_cons (ps_dput hu (pe_fld (pv 0) rfl) (pe_ix ix_tup (pv 2) pe_int (fun _ _=>rfl)) (pv 3) rfl)
    (pss_one (ps_expr (pe_mt (pv 0) T.cl_Seller c_Seller_write (hr.mono (by first | decide | omega)) (pa_cons (pe_op op_catT (pe_op op_catT (pe_tup (pa_cons pe_str (pa_cons (pe_ix ix_tup (pv 2) pe_int (fun _ _=>rfl)) (pa_cons (pv 3) pa_nil)))) (pe_mt (pv 0) T.cl_Seller c_Seller_prices (hr.mono (by first | decide | omega)) (pa_cons (pv 3) pa_nil))) (pe_mt (pv 0) T.cl_Seller c_Seller_prices (hr.mono (by first | decide | omega)) (pa_cons (pv 4) pa_nil))) pa_nil)))))))))))
  · obtain ⟨x0,x1,x2,rfl,h⟩:=h
    exact pu_Seller_keep T h
theorem lackN (p o:List Stay) (c:Cell) : lackC1 p o c=none∨lackC1 p o c=some (c,nd p c - nd o c):=by
  unfold lackC1;split
  · exact .inr rfl
  · exact .inl rfl
theorem lk_filterMap (p o:List Stay) (c:Cell) : ∀ {l:List Cell},(c∈l∨nd p c≤nd o c)→(lk (l.filterMap (lackC1 p o)) c).getD 0=max 0 (nd p c - nd o c)
  | [],h=>by
    have h : nd p c≤nd o c:=h.resolve_left (fun z=>nomatch z)
    show (0:Int)=_
    omega
  | x::l,h=>by
    rw [List.filterMap_cons]
    by_cases q : x=c
    · subst q
      unfold lackC1
      by_cases r : nd o x < nd p x
      · rw [if_pos r]
        show (lk ((x,nd p x - nd o x)::_) x).getD 0=_
        rw [lk_cons,if_pos rfl]
        show nd p x - nd o x=_
        omega
      · rw [if_neg r]
        exact lk_filterMap p o x (.inr (by omega))
    · have h' : c∈l∨nd p c≤nd o c:=h.imp (fun z=>(List.mem_cons.mp z).resolve_left fun w=>q w.symm) id
      rcases lackN p o x with e | e
      · rw [e];exact lk_filterMap p o c h'
      · rw [e]
        show (lk ((x,_)::_) c).getD 0=_
        rw [lk_cons,if_neg q]
        exact lk_filterMap p o c h'
theorem lk_lack (p o:List Stay) (c:Cell) : (lk (lackL p o) c).getD 0=max 0 (nd p c - nd o c):=by
  refine lk_filterMap p o c ?_
  by_cases h : c∈cellsN p
  · exact .inl ((scell_perm _).mem_iff.mpr h)
  · refine .inr ?_
    have : nd p c=0:=by unfold nd;rw [lk_none h];rfl
    rw [this];exact nd_pos o c
theorem addM_lack (f:Cell→Int) (p o:List Stay) : (fun c=>addM f (-1) (lackL p o) c + max 0 (nd o c - nd p c))=fun c=>f c - nd p c + nd o c:=funext fun c=>by
  unfold addM
  rw [lk_lack]
  omega
theorem tell_at {A:Ad} {H H1 H2:Hp} {s:SP} {S:Setup} {num:Int} {M:SM} {t:Addr} {n:Int} {g:Bool} {ts:List V} (x:SellerAt A H s S num M) (dt:DaL H ts (M.told.map tellD)) (f1:Fr [] H H1) (e1:H1 t=some (.tup [.int n,.bl g])) (f2:Fr [s.told] H1 H2) (e2:H2 s.told=some (.lst (ts++[.ref t]))) : SellerAt A H2 s S num (SM.tell n g M):=by
  have it : immL (M.told.map tellD)=true:=immL_map imm_tell _
  refine (x.f0 f1).w_told (v:=M.told++[(n,g)]) f2 ?_
  rw [List.map_append]
  exact LsAt.snoc (DaL.frL f1 dt it) it (.tup e1 (Nat.le_of_ble_eq_true rfl) (.cons (.int _) (.one' (.bl _)))) rfl f2 e2
theorem doit_none {S:Setup} {M:SM} {n k:Int} {d:Deed} (h : nameOf d=some k) (e : lk M.vo k=none) : M.doit S n d=M.tell n false:=by
  cases d with
  | wish p=>cases h
  | cancel j=>
    cases h
    show (match lk M.vo _ with | none=>_ | some o=>_)=_
    rw [e]
  | change j p=>
    cases h
    show (match lk M.vo _ with | none=>_ | some o=>_)=_
    rw [e]
def P_Seller_do (K:PySem.W.Frag) (A:Ad) (x0 x1 x2:V) (H:Hp) (Q:VK) : Prop:=∃ (s:SP) (S:Setup) (num:Int) (M:SM) (n:Int) (d:Deed),x0=.ref s.p∧SellerAt A H s S num M∧x1=.int n∧Da H x2 (deedD d)∧SetupOk S∧M.Ok S∧DeedOk S d∧M.Sz 98000∧
  SStep A H s S num (M.doit S n d) (fun H'=>Q .non H')
def sp_Seller_do (K:PySem.W.Frag) (A:Ad) : Sp:=fun vs H Q _=>∃ x0 x1 x2,vs=[x0,x1,x2]∧P_Seller_do K A x0 x1 x2 H Q
theorem c_Seller_do {K:PySem.W.Frag} {A:Ad} {x0 x1 x2:V} {H:Hp} {Q:VK} {E:XK} (h:P_Seller_do K A x0 x1 x2 H Q) : sp_Seller_do K A [x0,x1,x2] H Q E:=⟨_,_,_,rfl,h⟩
theorem sc_Seller_do:FnScope ["self","number","deed","lack","cell"] ["self","number","deed"] (defScope s_Seller_do):=⟨rfl,rfl,rfl,by decide +kernel,rfl,by decide +kernel,by decide +kernel⟩
def t_Seller_do (K:PySem.W.Frag) (A:Ad) : TS:=
  (Evl.tCut (tIfS (tAnd (tTest (tOp rNe (tOp (rIxT K) (tVar 2) (tC (.int 0))) (tC (.str "wish")))) (tB (tDNotIn (tOp (rIxT K) (tVar 2) (tC (.int 1))) (tFld K (tVar 0) "vouchers")))) (tSeq (tDrop (tBM K "list" rAppend (tFld K (tVar 0) "told") (tCons (tTup (tCons (tVar 1) (tCons (tC (.bl false)) tNil))) tNil)))
    tRetN) tNext)
    (Evl.tCut (tIfS (tTest (tOp rEq (tOp (rIxT K) (tVar 2) (tC (.int 0))) (tC (.str "cancel")))) (tSeq (tDrop (tMt A.Seller "cancel" (sp_Seller_cancel K A) (tVar 0) (tCons (tVar 1) (tCons (tOp (rIxT K) (tVar 2) (tC (.int 1))) tNil))))
    tRetN) tNext)
    (tSeq (tAsg (tMt A.Seller "lack" (sp_Seller_lack K A) (tVar 0) (tCons (tVar 2) tNil)) (gName 3))
    (tIfS (tB (tCB (rAll K) (tCons (tLockE (tLc (iKeys (tVar 3)) (gName 4) tYes (tOp cGe (tDGet (tFld K (tVar 0) "free") (tVar 4)) (tDGet (tVar 3) (tVar 4))) [4])) tNil))) (tSeq (tDrop (tMt A.Seller "add" (sp_Seller_add K A) (tVar 0) (tCons (tVar 3) (tCons (tUn rNeg (tC (.int 1))) tNil))))
    (tSeq (tDrop (tMt A.Seller "keep" (sp_Seller_keep K A) (tVar 0) (tCons (tVar 1) (tCons (tVar 2) tNil))))
    (tDrop (tBM K "list" rAppend (tFld K (tVar 0) "told") (tCons (tTup (tCons (tVar 1) (tCons (tC (.bl true)) tNil))) tNil))))) (tSeq (sDPut (tFld K (tVar 0) "asked") (tVar 1) (tVar 2))
    (tDrop (tBM K "list" rAppend (tFld K (tVar 0) "outgoing") (tCons (tTup (tCons (tC (.str "ask")) (tCons (tVar 1) (tCons (tCB (rTupOf K) (tCons (tLockE (tLc (iKeys (tVar 3)) (gName 4) tYes (tTup (tCons (tVar 4) (tCons (tDGet (tVar 3) (tVar 4)) tNil))) [4])) tNil)) tNil)))) tNil))))))))
theorem pu_Seller_do (T:Txt K mg A) {x0 x1 x2:V} {H:Hp} {Q:VK} (h:P_Seller_do K A x0 x1 x2 H Q) : t_Seller_do K A { nx:=fun _ H'=>Q .non H',rt:=Q } [some x0,some x1,some x2,none,none] H:=by
  obtain ⟨s,S,num,M,n,d,rfl,x,rfl,dd,so,mo,dok,sz,kk⟩:=h
  have nd0:=x.nd
  obtain ⟨dx,sv,clv,e,dS,c⟩:=x.parts
  obtain ⟨kvs,ev,rv⟩:=c.vo
  obtain ⟨it,ts,et,dt⟩:=c.told
  have htl : ts.length≤200000:=by rw [dt.len,List.length_map];have:=sz.told;omega
  obtain ⟨a,xs,rfl,ea,q⟩:=deed_tup dd
  unfold t_Seller_do
  refine g_cut (fun σ H'=>σ=[some (.ref s.p),some (.int n),some (.ref a),none,none]∧H'=H∧∀ k,nameOf d=some k→(lk M.vo k).isSome=true) ?_ ?_
  · rcases deed_sort q with ⟨y,p,rfl,rfl,_⟩ | ⟨w,k,rest,rfl,hw,hn⟩
    · ((with_reducible refine g_ifs (g_and (g_test (g_op ?_))));walk_at "3";(with_reducible refine g_c (g_neS (g_bl ?_))))
      refine g_iteN (fun z=>absurd rfl z) (fun _=>?_)
      ((with_reducible refine g_iteF (g_next ?_)))
      exact ⟨rfl,rfl,fun k z=>(by cases z)⟩
    · have at0 : atI (.str w::.int k::rest) 0=some (V.str w):=atI_nat (show (V.str w::V.int k::rest)[0]? = some _ from rfl)
      have at1 : atI (.str w::.int k::rest) 1=some (V.int k):=atI_nat (show (V.str w::V.int k::rest)[1]? = some _ from rfl)
      ((with_reducible refine g_ifs (g_and (g_test (g_op ?_))));walk_at "4")
      refine g_ixT (SqT.of ea) at0 ?_
      ((with_reducible refine g_c (g_neS (g_bl ?_))))
      refine g_iteN (fun _=>?_) (fun z=>absurd z hw)
      ((with_reducible refine g_tb (g_dnin ?_));walk_at "4")
      refine g_ixT (SqT.of ea) at1 ?_
      ((with_reducible refine' j_fv (f:="vouchers") (C:=Ad.Seller _) ?k636 ?h636 (Txt.cl_Seller (by assumption)) (Txt.no_Seller_vouchers (by assumption)) ?l636 ?_);(case k636=>exact rfl);(case h636=>walk_at "fact");(case l636=>exact rfl))
      refine g_rdniI (.inl ev) ?_
      rcases DkR.look rv k with ⟨h1,h2⟩ | ⟨pv,o,h1,h2,h3⟩
      · rw [h2,show (none:Option V).isSome=false from rfl]
        ((with_reducible refine g_bl (g_iteNF (j_sd (g_bm ?_))));(with_reducible refine' j_fv (f:="told") (C:=Ad.Seller _) ?k638 ?h638 (Txt.cl_Seller (by assumption)) (Txt.no_Seller_told (by assumption)) ?l638 ?_);(case k638=>exact rfl);(case h638=>walk_at "fact");(case l638=>exact rfl);(with_reducible refine' g_bmL ?h639 ?_);(case h639=>walk_at "fact");(with_reducible refine g_cons (g_tup ?_));walk_at "1";(with_reducible refine j_cc1 ?_);walk_at "5";(with_reducible refine g_nil ?_);walk_at "8";(with_reducible refine g_retN ?_))
        rename_i t H1 n1 f1 e1 H2 f2 e2
        refine kk H2 ((f2.in1 s.m_told).pre0' f1) ?_
        rw [doit_none hn h1]
        exact tell_at x dt f1 e1 f2 e2
      · rw [h2]
        ((with_reducible refine g_bl ?_))
        exact ⟨rfl,rfl,fun j z=>by rw [hn] at z;cases z;rw [h1];rfl⟩
  · rintro σ H1 ⟨rfl,rfl,hv⟩
    refine g_cut (fun σ H'=>σ=[some (.ref s.p),some (.int n),some (.ref a),none,none]∧H'=H1∧(∀ k,d≠.cancel k)∧AskOk M.vo d∧M.doit S n d=M.deal S n d d.party (M.old d)) ?_ ?_
    · cases d with
      | wish p=>
        obtain ⟨w,y,rfl,d1,d2⟩:=q.two
        cases d1.str1
        ((with_reducible refine j_it (g_op ?_));walk_at "3";(with_reducible refine j_es ?_))
        refine g_ite (fun z=>absurd z (by decide)) (fun _=>?_)
        ((with_reducible refine g_next ?_))
        exact ⟨rfl,rfl,fun k z=>(by cases z),trivial,rfl⟩
      | cancel k=>
        obtain ⟨w,y,rfl,d1,d2⟩:=q.two
        cases d1.str1
        cases d2.int1
        ((with_reducible refine j_it (g_op ?_));walk_at "3";(with_reducible refine j_es ?_))
        refine g_ite (fun _=>?_) (fun z=>absurd rfl z)
        ((with_reducible refine j_sd ?_);walk_at "6";walk_at "1";(with_reducible refine g_cons ?_);walk_at "3";(with_reducible refine g_nil ?_))
        have hs:=hv k rfl
        cases h : lk M.vo k with
        | none=>rw [h] at hs;cases hs
        | some o=>
          refine c_Seller_cancel ⟨s,S,num,M,n,k,o,rfl,x,rfl,rfl,h,so,mo,sz.mono (by decide),fun H4 f4 x4=>?_⟩
          ((with_reducible refine g_retN ?_))
          refine kk H4 f4 ?_
          have hd:M.doit S n (.cancel k)=SM.tell n true (SM.row (canR S k o) { M with fr:=fun c=>M.fr c + nd o c,vo:=dr M.vo k }):=by
            show (match lk M.vo k with | none=>_ | some o=>_)=_
            rw [h]
          rw [hd]
          exact x4
      | change k p=>
        obtain ⟨w,y,z,rfl,d1,d2,d3⟩:=q.three
        cases d1.str1
        cases d2.int1
        ((with_reducible refine j_it (g_op ?_));walk_at "3";(with_reducible refine j_es ?_))
        refine g_ite (fun z=>absurd z (by decide)) (fun _=>?_)
        ((with_reducible refine g_next ?_))
        have hs:=hv k rfl
        refine ⟨rfl,rfl,fun k z=>(by cases z),hs,?_⟩
        show (match lk M.vo k with | none=>_ | some o=>_)=_
        have ho:M.old (.change k p)=(lk M.vo k).getD []:=rfl
        rw [ho]
        cases h : lk M.vo k with
        | none=>rw [h] at hs;cases hs
        | some o=>rfl
    · rintro σ H2 ⟨rfl,rfl,nc,ak,hd⟩
      ((with_reducible refine j_sa ?_);walk_at "6";walk_at "2")
      refine c_Seller_lack ⟨s,S,num,M,d,rfl,x,dd,so,mo,dok,nc,fun lq H3 n3 f3 e3=>?_⟩
      have hpo:=dok.party
      have hlk:=lackL_ok so (p:=d.party) (o:=M.old d) hpo
      have hln:=lackL_len so (p:=d.party) (o:=M.old d) hpo
      have hnd:Nd (lackL d.party (M.old d)):=lack_nd _ _ (scell_nd _)
      have nl : lq∉s.os:=x.nin n3
      have nlp : s.p≠lq:=fun q=>nl (by rw [← q];exact s.m_p)
      have nlf : s.fr≠lq:=fun q=>nl (by rw [← q];exact s.m_fr)
      have x3:=x.f0 f3
      obtain ⟨dx3,sv3,clv3,e3p,_,c3⟩:=x3.parts
      refine g_lockE e3 trivial trivial fun od H4 f4 e4=>?_
      have e4p:=f4.at e3p (nin1 nlp nin0)
      have e4f:=f4.at c3.fr (nin1 nlf nin0)
      have dd4:=Da.frL (f4.pre0' f3) dd (imm_deed d)
      ((with_reducible refine g_lc (g_iK ?_));walk_at "0";(with_reducible refine' g_rkt ?h659 ?_);(case h659=>walk_at "fact"))
      refine l_keysT (kvs:=cD (lackL d.party (M.old d))) fun Dl H5 nD f5 e5=>⟨fun i acc H'=>acc=(((lackL d.party (M.old d)).take i).map fun e=>decide (e.2≤M.fr e.1)).map V.bl∧Fr [] H4 H',⟨rfl,f5⟩,fun i acc H' h=>h.2.at0 e4,fun i ke v q acc H' hi hq ha ⟨ea',f⟩=>?_,fun acc H' ha ⟨ea',f⟩=>?_⟩
      · obtain ⟨y,hy,rfl,rfl⟩:=cD_get hi
        have hyl : lk (lackL d.party (M.old d)) y.1=some y.2:=lk_mem hnd (List.mem_of_getElem? hy)
        have hyk:=hlk y (List.mem_of_getElem? hy)
        have ep':=f.at0 e4p
        have ef':=f.at0 e4f
        have el':=f.at0 e4
        ((with_reducible refine g_name ?_))
        refine ⟨rfl,?_⟩
        ((with_reducible refine g_yes (g_iteT (g_op (g_dget ?_))));walk_at "9";walk_at "0")
        refine g_stG so hyk ef' hq ?_
        ((with_reducible refine' j_dv0 ?h662 ?_);(case h662=>exact rfl);walk_at "0")
        refine g_rdg (k:=ck y.1) (.inr ⟨_,el'⟩) hq (v:=.int y.2) (by rw [val_cell,hyl];rfl) ?_
        ((with_reducible refine g_ge ?_))
        have hal : acc.length≤100:=by rw [ea',List.length_map,List.length_map,List.length_take];omega
        refine lcY_of ha (szM (by omega)) fun H6 f6 e6=>⟨?_,f.own1 f6 nD⟩
        rw [ea',take_more hy,List.map_append,List.map_append];rfl
      · have hl:(cD (lackL d.party (M.old d))).length=(lackL d.party (M.old d)).length:=enD_len _
        rw [hl,List.take_length] at ea'
        rw [ea'] at ha
        ((with_reducible refine' g_unl ?h664 ?_);(case h664=>walk_at "fact");intro _ _ _)
        rename_i H6 f6 e6
        have F6:Fr [] H3 H6:=((f4.then0 f).transL f6).back e3 e6
        have hd6:=f6.at ha (nin1 (fun z=>by rw [z,e4] at nD;cases nD) nin0)
        have x6:=x3.f0 F6
        have dd6:=Da.frL (F6.pre0' f3) dd (imm_deed d)
        obtain ⟨dx6,sv6,clv6,e6p,_,c6⟩:=x6.parts
        clear f4 f6 e4 e4p e4f dd4 f nD
        refine g_all (SqL.of hd6) ?_
        have hall:(((lackL d.party (M.old d)).map fun e=>decide (e.2≤M.fr e.1)).all id)=M.has (lackL d.party (M.old d)):=by rw [List.all_map];rfl
        rw [hall]
        ((with_reducible refine g_bl ?_))
        refine g_iteB (fun hh=>?_) (fun hh=>?_)
        · ((with_reducible refine j_sd ?_);walk_at "6";walk_at "1";(with_reducible refine g_cons (g_un (g_c (g_neg (g_nil ?_))))))
          refine c_Seller_add ⟨s,S,num,M,lq,lackL d.party (M.old d),-1,rfl,x6,rfl,rfl,e6,nl,so,hnd,hlk,⟨by decide,by decide⟩,fun H7 f7 x7=>?_⟩
          have dd7:=Da.frL f7 dd6 (imm_deed d)
          obtain ⟨dx7,sv7,clv7,e7p,_,c7⟩:=x7.parts
          ((with_reducible refine j_sd ?_);walk_at "6";walk_at "1";walk_at "2")
          refine c_Seller_keep ⟨s,S,num,_,n,d,rfl,x7,rfl,dd7,so,⟨mo.vk,mo.vn,mo.ak,mo.an,mo.ac,mo.wk,mo.ck⟩,dok,ak,⟨Nat.le_trans sz.bk (by decide),Nat.le_trans sz.out (by decide),Nat.le_trans sz.told (by decide),Nat.le_trans sz.vo (by decide),Nat.le_trans sz.ask (by decide)⟩,fun H8 f8 x8=>?_⟩
          obtain ⟨dx8,sv8,clv8,e8p,_,c8⟩:=x8.parts
          obtain ⟨it8,ts8,et8,dt8⟩:=c8.told
          have hd1:SM.kept S n d { M with fr:=addM M.fr (-1) (lackL d.party (M.old d)) } = SM.keep S n d { M with fr:=fun c=>M.fr c - nd d.party c + nd (M.old d) c }:=by
            unfold SM.kept
            have h0:SM.old { M with fr:=addM M.fr (-1) (lackL d.party (M.old d)) } d=M.old d:=by cases d <;> rfl
            rw [h0,addM_lack]
          have htl8 : ts8.length≤200000:=by
            rw [dt8.len,List.length_map,hd1]
            have h0:(SM.keep S n d { M with fr:=fun c=>M.fr c - nd d.party c + nd (M.old d) c }).told=M.told:=by cases d <;> rfl
            rw [h0];have:=sz.told;omega
          ((with_reducible refine g_drop (g_bm ?_));(with_reducible refine' j_fv (f:="told") (C:=Ad.Seller _) ?k670 ?h670 (Txt.cl_Seller (by assumption)) (Txt.no_Seller_told (by assumption)) ?l670 ?_);(case k670=>exact rfl);(case h670=>walk_at "fact");(case l670=>exact rfl);(with_reducible refine' g_bmL ?h671 ?_);(case h671=>walk_at "fact");(with_reducible refine g_cons (g_tup ?_));walk_at "1";(with_reducible refine j_cc1 ?_);walk_at "5";(with_reducible refine g_nil ?_);walk_at "8")
          rename_i t H9 n9 f9 e9 H10 f10 e10
          refine kk H10 ((((Fr.of0 (F6.pre0' f3)).transL (f7.in1 s.m_fr)).transL f8).then0 f9 |>.transL (f10.in1 s.m_told)) ?_
          have x10:=tell_at x8 dt8 f9 e9 f10 e10
          rw [hd1] at x10
          rw [hd]
          unfold SM.deal
          rw [if_pos hh]
          exact x10
        · ((with_reducible refine g_seq (g_dput ?_));walk_at "0";(with_reducible refine' j_fv (f:="asked") (C:=Ad.Seller _) ?k676 ?h676 (Txt.cl_Seller (by assumption)) (Txt.no_Seller_asked (by assumption)) ?l676 ?_);(case k676=>exact rfl);(case h676=>walk_at "fact");(case l676=>exact rfl);walk_at "0")
          obtain ⟨akv,eak,rak⟩:=c6.ask
          have hakl : akv.length≤200000:=by rw [rak.len];unfold askT;rw [List.length_map];have:=sz.ask;omega
          refine g_rdpI eak (szM (by omega)) fun H7 f7 e7=>?_
          have x7:=x6.w_ask (v:=pt M.ask n d) f7 ⟨_,e7,by unfold askT;rw [← pt_mp];exact (rak.fr f7).put n (Da.frL f7 dd6 (imm_deed d)) (imm_deed d)⟩
          obtain ⟨dx7,sv7,clv7,e7p,_,c7⟩:=x7.parts
          have e7l:=f7.at e6 (nin1 (fun q=>nl (by rw [q];exact s.m_ask)) nin0)
          obtain ⟨io,os,eo,dox⟩:=c7.out
          have hol : os.length≤200000:=by rw [dox.len,List.length_map];have:=sz.out;show M.out.length≤_;omega
          ((with_reducible refine g_drop (g_bm ?_));(with_reducible refine' j_fv (f:="outgoing") (C:=Ad.Seller _) ?k678 ?h678 (Txt.cl_Seller (by assumption)) (Txt.no_Seller_outgoing (by assumption)) ?l678 ?_);(case k678=>exact rfl);(case h678=>walk_at "fact");(case l678=>exact rfl);(with_reducible refine' g_bmL ?h679 ?_);(case h679=>walk_at "fact");(with_reducible refine g_cons (g_tup (j_cc ?_)));walk_at "1";(with_reducible refine g_cons (g_cb (g_cons ?_))))
          refine g_lockE e7l trivial trivial fun od2 H8 f8 e8=>?_
          ((with_reducible refine g_lc (g_iK ?_));walk_at "0";(with_reducible refine' g_rkt ?h683 ?_);(case h683=>walk_at "fact"))
          refine l_keysT (kvs:=cD (lackL d.party (M.old d))) fun D2 H9 n9 f9 e9=>⟨fun i acc H'=>DaL H' acc (((lackL d.party (M.old d)).take i).map fun e=>.tuple [cellD e.1,.int e.2])∧Fr [] H8 H',⟨.nil,f9⟩,fun i acc H' h=>h.2.at0 e8,fun i ke v q acc H' hi hq ha ⟨da,f⟩=>?_,fun acc H' ha ⟨da,f⟩=>?_⟩
          · obtain ⟨y,hy,rfl,rfl⟩:=cD_get hi
            have hyl : lk (lackL d.party (M.old d)) y.1=some y.2:=lk_mem hnd (List.mem_of_getElem? hy)
            have el':=f.at0 e8
            ((with_reducible refine g_name ?_))
            refine ⟨rfl,?_⟩
            ((with_reducible refine g_yes (g_iteT (g_tup ?_)));walk_at "1";(with_reducible refine g_cons ?_);(with_reducible refine' j_dv0 ?h687 ?_);(case h687=>exact rfl);walk_at "0")
            refine g_rdg (k:=ck y.1) (.inr ⟨_,el'⟩) hq (v:=.int y.2) (by rw [val_cell,hyl];rfl) ?_
            ((with_reducible refine g_nil ?_);walk_at "5")
            rename_i t2 H10 n10 f10 e10
            have ilk:∀ l:List (Cell×Int),immL (l.map fun e=>PyData.tuple [cellD e.1,.int e.2])=true:=fun l=>immL_map (fun _=>rfl) l
            have hal : acc.length≤100:=by rw [da.len,List.length_map,List.length_take];omega
            refine lcY_of (f10.at0 ha) (szM (by omega)) fun H11 f11 e11=>⟨?_,(f.then0 f10).own1 f11 n9⟩
            rw [take_more hy,List.map_append]
            refine (DaL.frL f11 (DaL.frL f10 da (ilk _)) (ilk _)).append (.one' (.tup (f11.tup _ _ e10) (Nat.le_of_ble_eq_true rfl) (.cons (.tup (f11.tup _ _ (f10.tup _ _ hq)) (Nat.le_of_ble_eq_true rfl) (.cons (.int _) (.one' (.int _)))) (.one' (.int _)))))
          · rw [hl,List.take_length] at da
            ((with_reducible refine' g_unl ?h689 ?_);(case h689=>walk_at "fact");intro _ _ _;(with_reducible refine g_nil ?_);(with_reducible refine' g_tupL ?h691 ?_);(case h691=>walk_at "sql");walk_at "new";(with_reducible refine g_nil ?_);walk_at "5";(with_reducible refine g_nil ?_))
            rename_i H10 f10 e10 l H11 n11 f11 e11 t H12 n12 f12 e12
            have ilk : immL ((lackL d.party (M.old d)).map fun e=>PyData.tuple [cellD e.1,.int e.2])=true:=immL_map (fun _=>rfl) _
            have F10:Fr [] H7 H10:=((f8.then0 f).transL f10).back e7l e10
            have F12:Fr [] H7 H12:=(F10.then0 f11).then0 f12
            have da12:=DaL.frL ((f10.then0 f11).then0 f12) da ilk
            have hac : acc.length≤1000000:=by rw [da.len,List.length_map];omega
            refine g_append (F12.at0 eo) (szM (by omega)) fun H13 f13 e13=>?_
            have x13:=(x7.f0 F12).w_out (v:=M.out++[.ask n (lackL d.party (M.old d))]) f13 (by
              rw [List.map_append]
              exact LsAt.snoc (DaL.frL F12 dox io) io (.tup e12 (Nat.le_of_ble_eq_true rfl) (.cons (.str _) (.cons (.int _) (.one' (.tup (f12.tup _ _ e11) hac da12))))) (imm_up _) f13 e13)
            skip
            refine kk H13 (((Fr.of0 (F6.pre0' f3)).transL (f7.in1 s.m_ask)).then0 F12 |>.transL (f13.in1 s.m_out)) ?_
            rw [hd]
            unfold SM.deal
            rw [if_neg (by rw [hh];decide)]
            exact x13
theorem ok_Seller_do {f:Addr} {fd:FuncData} (F:Fun K "do" "Seller.do" s_Seller_do f fd) (T:Txt K mg A) (c_Seller_lack:CalM P w K mg base A.Seller "lack" 3 ["self","deed"] (sp_Seller_lack K A)) (c_Seller_cancel:CalM P w K mg base A.Seller "cancel" 5 ["self","number","voucher"] (sp_Seller_cancel K A)) (c_Seller_add:CalM P w K mg base A.Seller "add" 1 ["self","needs","many"] (sp_Seller_add K A)) (c_Seller_keep:CalM P w K mg base A.Seller "keep" 5 ["self","number","deed"] (sp_Seller_keep K A)) : FnOk P w K mg base CX0 (6) f fd ["self","number","deed"] (sp_Seller_do K A):=by
  refine F.ok sc_Seller_do (fun vs H Q E h=>?_) (fun cdv Ar outer s H vs Q E hr h=>⟨t_Seller_do K A,?_,?_⟩)
  · obtain ⟨x0,x1,x2,rfl,_⟩:=h
    rfl
  · have hu:=hu_of hr
    exact (Evl.pss_cut (ps_if (PW.pt (pw_and (pt_cmpR op_ne (pe_ix ix_tup (pv 2) pe_int (fun _ _=>rfl)) pe_str (nomark _)) (pw_and1 (pt_cmp (pc_dnotin hu (pe_ix ix_tup (pv 2) pe_int (fun _ _=>rfl)) (pe_fld (pv 0) rfl)) rfl)))) (pss_cons (ps_expr (pe_bm PySem.F.plainAttrs_list PySem.F.slot_list_append PySem.F.type_list_append mt_append (pe_fld (pv 0) rfl) (pa_cons (pe_tup (pa_cons (pv 1) (pa_cons pe_bl pa_nil))) pa_nil)))
    (pss_one ps_retN)) pss_nil)
    (Evl.pss_cut (ps_if (pt_cmpR op_eq (pe_ix ix_tup (pv 2) pe_int (fun _ _=>rfl)) pe_str (nomark _)) (pss_cons (ps_expr (pe_mt (pv 0) T.cl_Seller c_Seller_cancel (hr.mono (by first | decide | omega)) (pa_cons (pv 1) (pa_cons (pe_ix ix_tup (pv 2) pe_int (fun _ _=>rfl)) pa_nil))))
    (pss_one ps_retN)) pss_nil)
    (pss_cons (ps_set (i:=3) sc_Seller_do.nd rfl (Or.inr rfl) (pe_mt (pv 0) T.cl_Seller c_Seller_lack (hr.mono (by first | decide | omega)) (pa_cons (pv 2) pa_nil)))
    (pss_one (ps_if (pt_val (pe_callB (cr_all rfl) (by rfl) T.b_all (by decide +kernel) (pa_cons (pe_lock (pe_lc (own:=[("cell",4)]) (g:=(gName 4)) (tt:=tYes) rfl sc_Seller_do.nd (pi_keys (pv 3)) (blkOk_by (N:=["self","number","deed","lack","cell"]) (sc:=defScope s_Seller_do) (own:=[("cell",4)]) (by decide +kernel)) (fun _ _ _ _ _=>(pg_name (i:=4) sc_Seller_do.nd rfl (Or.inl rfl))) (fun _ _ _ _ _=>pts_nil) (fun _ _ _ _ _=>(pe_cmpR c_ge (pe_dget hu (pe_fld (pv 0) rfl) (pv 4) (fun _ _=>rfl)) (pe_dget hu (pv 3) (pv 4) (fun _ _=>rfl)) (nomark _))))) pa_nil))) (pss_cons (ps_expr (pe_mt (pv 0) T.cl_Seller c_Seller_add (hr.mono (by first | decide | omega)) (pa_cons (pv 3) (pa_cons (pe_un un_neg pe_int) pa_nil))))
    (pss_cons (ps_expr (pe_mt (pv 0) T.cl_Seller c_Seller_keep (hr.mono (by first | decide | omega)) (pa_cons (pv 1) (pa_cons (pv 2) pa_nil))))
    (pss_one (ps_expr (pe_bm PySem.F.plainAttrs_list PySem.F.slot_list_append PySem.F.type_list_append mt_append (pe_fld (pv 0) rfl) (pa_cons (pe_tup (pa_cons (pv 1) (pa_cons pe_bl pa_nil))) pa_nil)))))) (pss_cons (ps_dput hu (pe_fld (pv 0) rfl) (pv 1) (pv 2) rfl)
    (pss_one (ps_expr (pe_bm PySem.F.plainAttrs_list PySem.F.slot_list_append PySem.F.type_list_append mt_append (pe_fld (pv 0) rfl) (pa_cons (pe_tup (pa_cons pe_str (pa_cons (pv 1) (pa_cons (pe_callTy b_tuple (by rfl) T.b_tuple (by decide +kernel) (pa_cons (pe_lock (pe_lc (own:=[("cell",4)]) (g:=(gName 4)) (tt:=tYes) rfl sc_Seller_do.nd (pi_keys (pv 3)) (blkOk_by (N:=["self","number","deed","lack","cell"]) (sc:=defScope s_Seller_do) (own:=[("cell",4)]) (by decide +kernel)) (fun _ _ _ _ _=>(pg_name (i:=4) sc_Seller_do.nd rfl (Or.inl rfl))) (fun _ _ _ _ _=>pts_nil) (fun _ _ _ _ _=>(pe_tup (pa_cons (pv 4) (pa_cons (pe_dget hu (pv 3) (pv 4) (fun _ _=>rfl)) pa_nil)))))) pa_nil)) pa_nil)))) pa_nil))))))))))
  · obtain ⟨x0,x1,x2,rfl,h⟩:=h
    exact pu_Seller_do T h
theorem SellerAt.w_p {A:Ad} {H H':Hp} {s:SP} {S:Setup} {num:Int} {M:SM} {dx:Addr} {sv clv:V} {n':Int} {c':Option (List Cell)} (x:SellerAt A H s S num M) (f:Fr [s.p] H H')
    (e:H' s.p=some (.ins A.Seller dx (F_Seller sv num s.fr s.vo s.bk clv s.ask s.wt n' s.out s.told))) (dS:Da H sv (setupD S)) (dc:Da H' clv (closD c')) : SellerAt A H' s S num { M with n:=n',cl:=c' }:=by
  have nd:=x.nd
  obtain ⟨⟨dx0,sv0,clv0,e0,d0,c0⟩,al⟩:=x
  have c:=c0.w_p nd f
  refine ⟨⟨dx,sv,clv,e,Da.frL f dS (imm_setup S),⟨c.fr,c.vo,c.bk,c.ask,c.wt,c.out,c.told,dc⟩⟩,al.1,fun a ha=>?_⟩
  by_cases z : a=s.p
  · rw [z];exact ⟨_,e⟩
  · obtain ⟨o,q⟩:=al.2 a ha;exact ⟨o,f.at q (nin1 z nin0)⟩
theorem wait_at {A:Ad} {H H1 H2:Hp} {s:SP} {S:Setup} {num:Int} {M:SM} {t:Addr} {n:Int} {d:Deed} {v:V} {ts:List V} (x:SellerAt A H s S num M) (dt:DaL H ts (M.wt.map wtD)) (f1:Fr [] H H1) (e1:H1 t=some (.tup [.int n,v])) (dv:Da H v (deedD d)) (f2:Fr [s.wt] H1 H2) (e2:H2 s.wt=some (.lst (ts++[.ref t]))) : SellerAt A H2 s S num { M with wt:=M.wt++[(n,d)] }:=by
  have it : immL (M.wt.map wtD)=true:=immL_map imm_wt _
  refine (x.f0 f1).w_wt (v:=M.wt++[(n,d)]) f2 ?_
  rw [List.map_append]
  exact LsAt.snoc (DaL.frL f1 dt it) it (.tup e1 (Nat.le_of_ble_eq_true rfl) (.cons (.int _) (.one' (Da.frL f1 dv (imm_deed d))))) (imm_wt (n,d)) f2 e2
def P_Seller_ask (K:PySem.W.Frag) (A:Ad) (x0 x1:V) (H:Hp) (Q:VK) : Prop:=∃ (s:SP) (S:Setup) (num:Int) (M:SM) (d:Deed),x0=.ref s.p∧SellerAt A H s S num M∧Da H x1 (deedD d)∧SetupOk S∧M.Ok S∧DeedOk S d∧M.Sz 98000∧(-1000000≤M.n∧M.n≤1000000)∧
  SStep A H s S num (M.asked S d) (fun H'=>Q (.int M.n) H')
def sp_Seller_ask (K:PySem.W.Frag) (A:Ad) : Sp:=fun vs H Q _=>∃ x0 x1,vs=[x0,x1]∧P_Seller_ask K A x0 x1 H Q
theorem c_Seller_ask {K:PySem.W.Frag} {A:Ad} {x0 x1:V} {H:Hp} {Q:VK} {E:XK} (h:P_Seller_ask K A x0 x1 H Q) : sp_Seller_ask K A [x0,x1] H Q E:=⟨_,_,rfl,h⟩
theorem sc_Seller_ask:FnScope ["self","deed","number"] ["self","deed"] (defScope s_Seller_ask):=⟨rfl,rfl,rfl,by decide +kernel,rfl,by decide +kernel,by decide +kernel⟩
def t_Seller_ask (K:PySem.W.Frag) (A:Ad) : TS:=
  (tSeq (tAsg (tFld K (tVar 0) "count") (gName 2))
    (tSeq (sFldAug K (tVar 0) (tC (.int 1)) rAdd "count")
    (tSeq (tIfS (tB (tMt A.Seller "must_wait" (sp_Seller_must_wait K A) (tVar 0) (tCons (tVar 1) tNil))) (tDrop (tBM K "list" rAppend (tFld K (tVar 0) "waiting") (tCons (tTup (tCons (tVar 2) (tCons (tVar 1) tNil))) tNil))) (tDrop (tMt A.Seller "do" (sp_Seller_do K A) (tVar 0) (tCons (tVar 2) (tCons (tVar 1) tNil)))))
    (tRet (tVar 2)))))
theorem pu_Seller_ask (T:Txt K mg A) {x0 x1:V} {H:Hp} {Q:VK} (h:P_Seller_ask K A x0 x1 H Q) : t_Seller_ask K A { nx:=fun _ H'=>Q .non H',rt:=Q } [some x0,some x1,none] H:=by
  obtain ⟨s,S,num,M,d,rfl,x,dd,so,mo,dok,sz,⟨hn1,hn2⟩,kk⟩:=h
  have nd0:=x.nd
  obtain ⟨dx,sv,clv,e,dS,c⟩:=x.parts
  unfold t_Seller_ask
  ((with_reducible refine j_sa ?_);(with_reducible refine' j_fv (f:="count") (C:=Ad.Seller _) ?k695 ?h695 (Txt.cl_Seller (by assumption)) (Txt.no_Seller_count (by assumption)) ?l695 ?_);(case k695=>exact rfl);(case h695=>walk_at "fact");(case l695=>exact rfl);(with_reducible refine g_name (g_seq (g_flda ?_)));walk_at "0";(with_reducible refine' g_rflda (f:="count") (C:=Ad.Seller _) ?h697 (Txt.cl_Seller (by assumption)) (Txt.no_Seller_count (by assumption)) ?l697 ?_);(case h697=>walk_at "fact");(case l697=>exact rfl);(with_reducible refine g_c (g_rAdd ?_));(with_reducible refine' g_rfldb ?h699 ?l699 ?e699 ?_);(case h699=>walk_at "fact");(case l699=>exact Nat.le_of_ble_eq_true rfl);(case e699=>exact rfl);intro _ _ _;(with_reducible refine j_sitb ?_);walk_at "6";walk_at "2")
  rename_i H1 f1 e1
  have x1':=x.w_p (n':=M.n + 1) (c':=M.cl) f1 e1 dS (Da.frL f1 c.clv (imm_clos _))
  have x1:SellerAt A H1 s S num { M with n:=M.n + 1 }:=x1'
  have mo1:SM.Ok S { M with n:=M.n + 1 }:=⟨mo.vk,mo.vn,mo.ak,mo.an,mo.ac,mo.wk,mo.ck⟩
  have sz1:SM.Sz 98000 { M with n:=M.n + 1 }:=⟨sz.bk,sz.out,sz.told,sz.vo,sz.ask⟩
  have hw1:SM.waits { M with n:=M.n + 1 } d=M.waits d:=by cases d <;> rfl
  have dd1:=Da.frL f1 dd (imm_deed d)
  obtain ⟨dx1,sv1,clv1,e1p,_,c1⟩:=x1.parts
  have e1p:H1 s.p=some (.ins A.Seller dx1 (F_Seller sv1 num s.fr s.vo s.bk clv1 s.ask s.wt (M.n + 1) s.out s.told)):=e1p
  clear e1 c
  skip
  refine c_Seller_must_wait ⟨s,S,num,_,d,rfl,x1,dd1,so,mo1,dok,fun H2 f2=>?_⟩
  have x2:=x1.f0 f2
  have dd2:=Da.frL f2 dd1 (imm_deed d)
  obtain ⟨dx2,sv2,clv2,e2p,_,c2⟩:=x2.parts
  have e2p:H2 s.p=some (.ins A.Seller dx2 (F_Seller sv2 num s.fr s.vo s.bk clv2 s.ask s.wt (M.n + 1) s.out s.told)):=e2p
  obtain ⟨iw,ws,ew,dw⟩:=c2.wt
  have hwl : ws.length≤200000:=by rw [dw.len,List.length_map];have:=sz.bk;show M.wt.length≤_;omega
  have F2:Fr s.os H H2:=(f1.in1 s.m_p).then0 f2
  rw [hw1]
  ((with_reducible refine g_bl ?_))
  refine g_iteB (fun hh=>?_) (fun hh=>?_)
  · ((with_reducible refine g_drop (g_bm ?_));(with_reducible refine' j_fv (f:="waiting") (C:=Ad.Seller _) ?k703 ?h703 (Txt.cl_Seller (by assumption)) (Txt.no_Seller_waiting (by assumption)) ?l703 ?_);(case k703=>exact rfl);(case h703=>walk_at "fact");(case l703=>exact rfl);(with_reducible refine' g_bmL ?h704 ?_);(case h704=>walk_at "fact");(with_reducible refine g_cons (g_tup ?_));walk_at "1";walk_at "2";walk_at "5";(with_reducible refine g_nil ?_);walk_at "8";(with_reducible refine g_ret ?_);walk_at "0")
    rename_i t H3 n3 f3 e3 H4 f4 e4
    have hd:M.asked S d = { M with n:=M.n + 1,wt:=M.wt++[(M.n,d)] }:=if_pos hh
    refine kk H4 ((F2.then0 f3).transL (f4.in1 s.m_wt)) ?_
    rw [hd]
    exact wait_at x2 dw f3 e3 dd2 f4 e4
  · ((with_reducible refine g_drop ?_);walk_at "6";walk_at "1";walk_at "2")
    refine c_Seller_do ⟨s,S,num,_,M.n,d,rfl,x2,rfl,dd2,so,mo1,dok,sz1,fun H5 f5 x5=>?_⟩
    have hd:M.asked S d=SM.doit S M.n d { M with n:=M.n + 1 }:=if_neg (by rw [hh];decide)
    ((with_reducible refine g_ret ?_);walk_at "0")
    refine kk H5 (F2.transL f5) ?_
    rw [hd]
    exact x5
theorem ok_Seller_ask {f:Addr} {fd:FuncData} (F:Fun K "ask" "Seller.ask" s_Seller_ask f fd) (T:Txt K mg A) (c_Seller_must_wait:CalM P w K mg base A.Seller "must_wait" 3 ["self","deed"] (sp_Seller_must_wait K A)) (c_Seller_do:CalM P w K mg base A.Seller "do" 6 ["self","number","deed"] (sp_Seller_do K A)) : FnOk P w K mg base CX0 (7) f fd ["self","deed"] (sp_Seller_ask K A):=by
  refine F.ok sc_Seller_ask (fun vs H Q E h=>?_) (fun cdv Ar outer s H vs Q E hr h=>⟨t_Seller_ask K A,?_,?_⟩)
  · obtain ⟨x0,x1,rfl,_⟩:=h
    rfl
  · have hu:=hu_of hr
    exact (pss_cons (ps_set (i:=2) sc_Seller_ask.nd rfl (Or.inl rfl) (pe_fld (pv 0) rfl))
    (pss_cons (ps_fldaug (pv 0) pe_int in_add)
    (pss_cons (ps_if (pt_val (pe_mt (pv 0) T.cl_Seller c_Seller_must_wait (hr.mono (by first | decide | omega)) (pa_cons (pv 1) pa_nil))) (pss_one (ps_expr (pe_bm PySem.F.plainAttrs_list PySem.F.slot_list_append PySem.F.type_list_append mt_append (pe_fld (pv 0) rfl) (pa_cons (pe_tup (pa_cons (pv 2) (pa_cons (pv 1) pa_nil))) pa_nil)))) (pss_one (ps_expr (pe_mt (pv 0) T.cl_Seller c_Seller_do (hr.mono (by first | decide | omega)) (pa_cons (pv 2) (pa_cons (pv 1) pa_nil))))))
    (pss_one (ps_ret (pv 2))))))
  · obtain ⟨x0,x1,rfl,h⟩:=h
    exact pu_Seller_ask T h
def clM (f:Cell→Int) (l:List Cell) : Cell→Int:=fun c=>if c∈l then 0 else f c
theorem clM_nil (f:Cell→Int) : clM f []=f:=funext fun c=>by unfold clM;rw [if_neg (fun h=>nomatch h)]
theorem clM_snoc (f:Cell→Int) (l:List Cell) (c:Cell) : fset (clM f l) c 0=clM f (l++[c]):=funext fun x=>by
  unfold fset clM
  by_cases h : x=c
  · rw [if_pos h,if_pos (by rw [h];simp)]
  · rw [if_neg h]
    by_cases q : x∈l
    · rw [if_pos q,if_pos (by simp [q])]
    · rw [if_neg q,if_neg (by simp [q,h])]
def P_Seller_close (K:PySem.W.Frag) (A:Ad) (x0 x1:V) (H:Hp) (Q:VK) : Prop:=∃ (s:SP) (S:Setup) (num:Int) (M:SM) (cs:List Cell),x0=.ref s.p∧SellerAt A H s S num M∧Da H x1 (cellsD cs)∧SetupOk S∧(∀ c∈cs,CellOk S c)∧cs.length≤36∧M.Sz 98000∧
  SStep A H s S num (M.close cs) (fun H'=>Q .non H')
def sp_Seller_close (K:PySem.W.Frag) (A:Ad) : Sp:=fun vs H Q _=>∃ x0 x1,vs=[x0,x1]∧P_Seller_close K A x0 x1 H Q
theorem c_Seller_close {K:PySem.W.Frag} {A:Ad} {x0 x1:V} {H:Hp} {Q:VK} {E:XK} (h:P_Seller_close K A x0 x1 H Q) : sp_Seller_close K A [x0,x1] H Q E:=⟨_,_,rfl,h⟩
theorem sc_Seller_close:FnScope ["self","cells","counts","cell"] ["self","cells"] (defScope s_Seller_close):=⟨rfl,rfl,rfl,by decide +kernel,rfl,by decide +kernel,by decide +kernel⟩
def t_Seller_close (K:PySem.W.Frag) (A:Ad) : TS:=
  (tSeq (tAsg (tCB (rTupOf K) (tCons (tLc (iTup K (tVar 1)) (gName 3) tYes (tDGet (tFld K (tVar 0) "free") (tVar 3)) [3]) tNil)) (gName 2))
    (tSeq (tFor (iTup K (tVar 1)) (gName 3) (sDPut (tFld K (tVar 0) "free") (tVar 3) (tC (.int 0))))
    (tSeq (sFld K (tVar 0) (tVar 1) "closing")
    (tDrop (tBM K "list" rAppend (tFld K (tVar 0) "outgoing") (tCons (tTup (tCons (tC (.str "closed")) (tCons (tVar 2) tNil))) tNil))))))
theorem pu_Seller_close (T:Txt K mg A) {x0 x1:V} {H:Hp} {Q:VK} (h:P_Seller_close K A x0 x1 H Q) : t_Seller_close K A { nx:=fun _ H'=>Q .non H',rt:=Q } [some x0,some x1,none,none] H:=by
  obtain ⟨s,S,num,M,cs,rfl,x,dc,so,ck0,hcl,sz,kk⟩:=h
  have nd0:=x.nd
  obtain ⟨dx,sv,clv,e,dS,c⟩:=x.parts
  obtain ⟨a,xs,rfl,ea,_,dxs⟩:=dc.tup1
  have hxl : xs.length=cs.length:=by rw [dxs.len,List.length_map]
  have ic : immL (cs.map cellD)=true:=immL_map imm_cell _
  unfold t_Seller_close
  ((with_reducible refine j_sa (g_cb (g_cons (g_lc (g_iT ?_)))));walk_at "0";(with_reducible refine' g_riT ?h711 ?_);(case h711=>walk_at "sqt"))
  refine l_tup (xs:=xs) fun Dl H1 nD f1 e1=>⟨fun i acc H'=>acc=((cs.take i).map M.fr).map V.int∧Fr [] H H',⟨rfl,f1⟩,fun i acc H' q=>SqT.of (q.2.tup _ _ ea),fun i y acc H' hy ha ⟨ea',f⟩=>?_,fun acc H' ha ⟨ea',f⟩=>?_⟩
  · obtain ⟨cc,ca,hcc,rfl,eca⟩:=cells_get (DaL.frL f dxs ic) hy
    have hck:=ck0 cc (List.mem_of_getElem? hcc)
    have ep':=f.at0 e
    have ef':=f.at0 c.fr
    ((with_reducible refine g_name ?_))
    refine ⟨rfl,?_⟩
    ((with_reducible refine g_yes (g_iteT (g_dget ?_)));walk_at "9";walk_at "0")
    refine g_stG so hck ef' eca ?_
    have hal : acc.length≤100:=by rw [ea',List.length_map,List.length_map,List.length_take];omega
    refine lcY_of ha (szM (by omega)) fun H2 f2 e2=>⟨?_,f.own1 f2 nD⟩
    rw [ea',take_more hcc,List.map_append,List.map_append];rfl
  · rw [hxl,List.take_length] at ea'
    ((with_reducible refine g_nil ?_);(with_reducible refine' g_tupL ?h715 ?_);(case h715=>walk_at "sql");walk_at "new";(with_reducible refine g_name (g_seq (g_for (g_iT ?_))));walk_at "0";(with_reducible refine' g_riT ?h717 ?_);(case h717=>walk_at "sqt"))
    rename_i t H2 n2 f2 e2
    have F2:Fr [] H H2:=f.then0 f2
    have ep2:=F2.at0 e
    have ef2:=F2.at0 c.fr
    have ea2:=F2.tup _ _ ea
    have dxs2:=DaL.frL F2 dxs ic
    clear e1 f1 f2 f ha nD
    skip
    refine f_tup (xs:=xs) (fun i σ H'=>(∃ v3,σ=[some (.ref s.p),some (.ref a),some (.ref t),v3])∧Fr [s.fr] H2 H'∧H' s.fr=some (.dT (cD (stT S (clM M.fr (cs.take i)))))) ⟨⟨_,rfl⟩,Fr.refl,by rw [List.take_zero,clM_nil];exact ef2⟩ (fun i σ H' _ ⟨_,f,_⟩=>SqT.of (f.tup _ _ ea2)) ?_ ?_
    · rintro i y σ H3 hy ⟨⟨v3,rfl⟩,f3,e3⟩
      obtain ⟨cc,ca,hcc,rfl,eca⟩:=cells_get (DaL.frL f3 dxs2 ic) hy
      have hck:=ck0 cc (List.mem_of_getElem? hcc)
      have ep3:=f3.at ep2 (nin1 nd0.p_fr nin0)
      ((with_reducible refine g_name (g_dput (g_c ?_)));walk_at "9";walk_at "0")
      refine g_stD so hck e3 eca fun H4 f4 e4=>?_
      refine ⟨⟨_,rfl⟩,f3.transL f4,?_⟩
      rw [e4,take_more hcc,clM_snoc]
    · rintro σ H3 ⟨⟨v3,rfl⟩,f3,e3⟩
      rw [hxl,List.take_length] at e3
      have x3:=(x.f0 F2).w_fr f3 e3
      obtain ⟨dx3,sv3,clv3,e3p,dS3,c3⟩:=x3.parts
      have da3:Da H3 (.ref a) (cellsD cs):=Da.frL (f3.pre0' F2) dc (imm_cells cs)
      have et3:=f3.tup _ _ e2
      have G3:Fr [s.fr] H H3:=f3.pre0' F2
      clear e ep2 ef2 f3 e3 F2
      ((with_reducible refine g_seq (g_sfld ?_));walk_at "0";walk_at "0";(with_reducible refine' g_rflds (f:="closing") (C:=Ad.Seller _) ?h720 (Txt.cl_Seller (by assumption)) (Txt.no_Seller_closing (by assumption)) ?l720 ?e720 ?_);(case h720=>walk_at "fact");(case l720=>exact Nat.le_of_ble_eq_true rfl);(case e720=>exact rfl);intro _ _ _;(with_reducible refine g_drop (g_bm ?_));(with_reducible refine' j_fv (f:="outgoing") (C:=Ad.Seller _) ?k722 ?h722 (Txt.cl_Seller (by assumption)) (Txt.no_Seller_outgoing (by assumption)) ?l722 ?_);(case k722=>exact rfl);(case h722=>walk_at "fact");(case l722=>exact rfl))
      rename_i H4 f4 e4
      have x4:=x3.w_p (n':=M.n) (c':=some cs) f4 e4 dS3 (Da.frL f4 da3 (imm_cells cs))
      obtain ⟨io,os,eo,dox⟩:=c3.out
      have hol : os.length≤200000:=by rw [dox.len,List.length_map];have:=sz.out;show M.out.length≤_;omega
      have eo4:=f4.at eo (nin1 nd0.p_out.symm nin0)
      ((with_reducible refine' g_bmL ?h723 ?_);(case h723=>walk_at "fact");(with_reducible refine g_cons (g_tup (j_cc ?_)));walk_at "2";walk_at "5";(with_reducible refine g_nil ?_);walk_at "8")
      rename_i t5 H5 n5 f5 e5 H6 f6 e6
      have dts:Da H5 (.ref t) (rowD (cs.map M.fr)):=by
        have h:=f5.tup _ _ (f4.tup _ _ et3)
        rw [ea'] at h
        exact .tup h (by rw [List.length_map,List.length_map];omega) (DaL.ofInts _)
      refine kk H6 ((((G3.in1 s.m_fr).transL (f4.in1 s.m_p)).then0 f5).transL (f6.in1 s.m_out)) ?_
      refine (x4.f0 f5).w_out (v:=M.out++[.closed (cs.map M.fr)]) f6 ?_
      rw [List.map_append]
      exact LsAt.snoc (DaL.frL f5 (DaL.frL f4 dox io) io) io (.tup e5 (Nat.le_of_ble_eq_true rfl) (.cons (.str _) (.one' dts))) (imm_up _) f6 e6
theorem ok_Seller_close {f:Addr} {fd:FuncData} (F:Fun K "close" "Seller.close" s_Seller_close f fd) (T:Txt K mg A)  : FnOk P w K mg base CX0 (1) f fd ["self","cells"] (sp_Seller_close K A):=by
  refine F.ok sc_Seller_close (fun vs H Q E h=>?_) (fun cdv Ar outer s H vs Q E hr h=>⟨t_Seller_close K A,?_,?_⟩)
  · obtain ⟨x0,x1,rfl,_⟩:=h
    rfl
  · have hu:=hu_of hr
    exact (pss_cons (ps_set (i:=2) sc_Seller_close.nd rfl (Or.inl rfl) (pe_callTy b_tuple (by rfl) T.b_tuple (by decide +kernel) (pa_cons (pe_lc (own:=[("cell",3)]) (g:=(gName 3)) (tt:=tYes) rfl sc_Seller_close.nd (pi_tup (pv 1)) (blkOk_by (N:=["self","cells","counts","cell"]) (sc:=defScope s_Seller_close) (own:=[("cell",3)]) (by decide +kernel)) (fun _ _ _ _ _=>(pg_name (i:=3) sc_Seller_close.nd rfl (Or.inl rfl))) (fun _ _ _ _ _=>pts_nil) (fun _ _ _ _ _=>(pe_dget hu (pe_fld (pv 0) rfl) (pv 3) (fun _ _=>rfl)))) pa_nil)))
    (pss_cons (ps_for PassesOwn.never rfl (pi_tup (pv 1)) (pg_name (i:=3) sc_Seller_close.nd rfl (Or.inl rfl)) (pss_one (ps_dput hu (pe_fld (pv 0) rfl) (pv 3) pe_int rfl)))
    (pss_cons (ps_fld (pv 0) (pv 1) rfl)
    (pss_one (ps_expr (pe_bm PySem.F.plainAttrs_list PySem.F.slot_list_append PySem.F.type_list_append mt_append (pe_fld (pv 0) rfl) (pa_cons (pe_tup (pa_cons pe_str (pa_cons (pv 2) pa_nil))) pa_nil)))))))
  · obtain ⟨x0,x1,rfl,h⟩:=h
    exact pu_Seller_close T h
def SM.ans (S:Setup) (an:Option (Int×Bool)) (M:SM) : SM:=match an with
  | none=>M
  | some a=>M.answered S a.1 a.2
theorem reopen_def (S:Setup) (cs:List Int) (an:Option (Int×Bool)) (M:SM) : M.reopen S cs an=((SM.ans S an { M with fr:=addZ M.fr ((M.cl.getD []).zip cs),cl:=none }).wt.foldl (SM.again S) { (SM.ans S an { M with fr:=addZ M.fr ((M.cl.getD []).zip cs),cl:=none }) with wt:=[] }):=by cases an <;> rfl
theorem ans_ok {S:Setup} {an:Option (Int×Bool)} {M:SM} (m:M.Ok S) : (SM.ans S an M).Ok S:=by
  cases an with
  | none=>exact m
  | some a=>exact answered_ok m
theorem ans_sz {S:Setup} {an:Option (Int×Bool)} {b:Nat} {M:SM} (m:M.Sz b) : (SM.ans S an M).Sz (b + 1):=by
  cases an with
  | none=>exact m.mono (Nat.le_succ _)
  | some a=>exact answered_sz m
def P_Seller_reopen (K:PySem.W.Frag) (A:Ad) (x0 x1 x2:V) (H:Hp) (Q:VK) : Prop:=∃ (s:SP) (S:Setup) (num:Int) (M:SM) (cs:List Int) (an:Option (Int×Bool)) (l:List Cell),x0=.ref s.p∧SellerAt A H s S num M∧Da H x1 (rowD cs)∧Da H x2 (ansD an)∧SetupOk S∧M.Ok S∧M.Sz 1000∧M.cl=some l∧cs.length=l.length∧(∀ a,an=some a→(lk M.ask a.1).isSome=true)∧
  ∀ (o:Addr) (H':Hp),H o=none→Fr s.os H H'→SellerAt A H' { s with wt:=o } S num (M.reopen S cs an)→Q .non H'
def sp_Seller_reopen (K:PySem.W.Frag) (A:Ad) : Sp:=fun vs H Q _=>∃ x0 x1 x2,vs=[x0,x1,x2]∧P_Seller_reopen K A x0 x1 x2 H Q
theorem c_Seller_reopen {K:PySem.W.Frag} {A:Ad} {x0 x1 x2:V} {H:Hp} {Q:VK} {E:XK} (h:P_Seller_reopen K A x0 x1 x2 H Q) : sp_Seller_reopen K A [x0,x1,x2] H Q E:=⟨_,_,_,rfl,h⟩
theorem sc_Seller_reopen:FnScope ["self","counts","answer","cell","many","number","granted","deed","waiting"] ["self","counts","answer"] (defScope s_Seller_reopen):=⟨rfl,rfl,rfl,by decide +kernel,rfl,by decide +kernel,by decide +kernel⟩
def t_Seller_reopen (K:PySem.W.Frag) (A:Ad) : TS:=
  (tSeq (tFor (RZ.iZipA K (tCons (tFld K (tVar 0) "closing") (tCons (tVar 1) tNil))) (gTup K 2 (gCons (gName 3) (gCons (gName 4) gNil))) (sDAug (tFld K (tVar 0) "free") (tVar 3) (tVar 4) rAdd))
    (tSeq (sFld K (tVar 0) (tC .non) "closing")
    (Evl.tCut (tIfS (tTest (tOp rIsNotNon (tVar 2) (tC .non))) (tSeq (tAsg (tVar 2) (gTup K 2 (gCons (gName 5) (gCons (gName 6) gNil))))
    (tSeq (tAsg (tDPop1 (tFld K (tVar 0) "asked") (tVar 5)) (gName 7))
    (Evl.tCut (tIfS (tTr K (tVar 6)) (tDrop (tMt A.Seller "keep" (sp_Seller_keep K A) (tVar 0) (tCons (tVar 5) (tCons (tVar 7) tNil)))) tNext)
    (tDrop (tBM K "list" rAppend (tFld K (tVar 0) "told") (tCons (tTup (tCons (tVar 5) (tCons (tVar 6) tNil))) tNil)))))) tNext)
    (tSeq (tAsg (tFld K (tVar 0) "waiting") (gName 8))
    (tSeq (sFld K (tVar 0) (tLst tNil) "waiting")
    (tFor (iList K (tVar 8)) (gTup K 2 (gCons (gName 5) (gCons (gName 7) gNil))) (tIfS (tB (tMt A.Seller "must_wait" (sp_Seller_must_wait K A) (tVar 0) (tCons (tVar 7) tNil))) (tDrop (tBM K "list" rAppend (tFld K (tVar 0) "waiting") (tCons (tTup (tCons (tVar 5) (tCons (tVar 7) tNil))) tNil))) (tDrop (tMt A.Seller "do" (sp_Seller_do K A) (tVar 0) (tCons (tVar 5) (tCons (tVar 7) tNil)))))))))))
theorem pu_Seller_reopen (T:Txt K mg A) {x0 x1 x2:V} {H:Hp} {Q:VK} (h:P_Seller_reopen K A x0 x1 x2 H Q) : t_Seller_reopen K A { nx:=fun _ H'=>Q .non H',rt:=Q } [some x0,some x1,some x2,none,none,none,none,none,none] H:=by
  obtain ⟨s,S,num,M,cs,an,l,rfl,x,dcs,dan,so,mo,sz,hcl,hl,han,kk⟩:=h
  have nd0:=x.nd
  obtain ⟨dx,sv,clv,e,dS,c⟩:=x.parts
  have dcl:=c.clv
  rw [hcl] at dcl
  obtain ⟨hlk,hll⟩:=mo.ck l hcl
  obtain ⟨b,ts,rfl,eb,_,dts⟩:=dcl.tup1
  obtain ⟨cp,rfl,ecp⟩:=ints_at dcs
  have htl : ts.length=l.length:=by rw [dts.len,List.length_map]
  have ic : immL (l.map cellD)=true:=immL_map imm_cell _
  unfold t_Seller_reopen
  ((with_reducible refine g_seq (g_for (g_iZA (g_cons ?_))));(with_reducible refine' j_fv (f:="closing") (C:=Ad.Seller _) ?k727 ?h727 (Txt.cl_Seller (by assumption)) (Txt.no_Seller_closing (by assumption)) ?l727 ?_);(case k727=>exact rfl);(case h727=>walk_at "fact");(case l727=>exact rfl);walk_at "2";(with_reducible refine' g_rzaT ?h728 ?k728 ?_);(case h728=>walk_at "sqt");(case k728=>walk_at "sqt"))
  refine f_zipT (xs:=ts) (ys:=cs.map V.int) (by rw [List.length_map,htl,hl]) (fun j σ H'=>(∃ v3 v4,σ=[some (.ref s.p),some (.ref cp),some x2,v3,v4,none,none,none,none])∧Fr [s.fr] H H'∧H' s.fr=some (.dT (cD (stT S (addZ M.fr ((l.zip cs).take j)))))) ⟨⟨_,_,rfl⟩,Fr.refl,c.fr⟩ (fun j σ H' ⟨_,f,_⟩=>⟨SqT.of (f.tup _ _ eb),SqT.of (f.tup _ _ ecp)⟩) ?_ ?_
  · rintro j x y T σ H2 H3 hx hy ⟨⟨v3,v4,rfl⟩,f2,s2⟩ nT f3 e3
    obtain ⟨w,ca,hw,rfl,eca⟩:=cells_get (DaL.frL f3 (DaL.frL f2 dts ic) ic) hx
    obtain ⟨m,rfl,hm,_⟩:=getI hy
    have hwk:=hlk w (List.mem_of_getElem? hw)
    have hzip:=zip_get hw hm
    have s3:=f3.at0 s2
    have ep3:=f3.at0 (f2.at e (nin1 nd0.p_fr nin0))
    rw [take_more hzip,addZ_snoc]
    generalize addZ M.fr ((l.zip cs).take j)=g at *
    ((with_reducible refine' g_gtup ?h729 ?l729 ?_);(case h729=>walk_at "sqt");(case l729=>exact rfl);(with_reducible refine g_gcons (g_name (g_gcons (g_name (g_gnil (g_daug ?_))))));walk_at "9";walk_at "0")
    refine g_stA so hwk s3 eca ?_
    (walk_at "0";(with_reducible refine g_rAdd ?_))
    refine g_stP so hwk s3 eca fun H4 f4 e4=>?_
    exact ⟨⟨_,_,rfl⟩,(f2.then0 f3).transL f4,e4⟩
  · rintro σ H2 ⟨⟨v3,v4,rfl⟩,f2,s2⟩
    have hfull:(l.zip cs).take ts.length=l.zip cs:=List.take_of_length_le (by rw [List.length_zip,htl,hl];omega)
    rw [hfull] at s2
    have x2':=x.w_fr f2 s2
    have e2:=f2.at e (nin1 nd0.p_fr nin0)
    have dan2:=Da.frL f2 dan (imm_ans an)
    ((with_reducible refine g_seq (g_sfld (g_c ?_)));walk_at "0";(with_reducible refine' g_rflds (f:="closing") (C:=Ad.Seller _) ?h733 (Txt.cl_Seller (by assumption)) (Txt.no_Seller_closing (by assumption)) ?l733 ?e733 ?_);(case h733=>walk_at "fact");(case l733=>exact Nat.le_of_ble_eq_true rfl);(case e733=>exact rfl);intro _ _ _)
    rename_i H3 f3 e3
    have x3:=x2'.w_p (n':=M.n) (c':=none) f3 e3 (Da.frL f2 dS (imm_setup S)) .non
    have dan3:=Da.frL f3 dan2 (imm_ans an)
    have F3:Fr s.os H H3:=(f2.in1 s.m_fr).transL (f3.in1 s.m_p)
    have mo1:SM.Ok S { M with fr:=addZ M.fr (l.zip cs),cl:=none }:=⟨mo.vk,mo.vn,mo.ak,mo.an,mo.ac,mo.wk,fun _ h=>(by cases h)⟩
    have sz1:SM.Sz 1000 { M with fr:=addZ M.fr (l.zip cs),cl:=none }:=⟨sz.bk,sz.out,sz.told,sz.vo,sz.ask⟩
    have hre:=reopen_def S cs an M
    rw [hcl] at hre
    have han1:∀ a,an=some a→(lk (SM.ask { M with fr:=addZ M.fr (l.zip cs),cl:=none }) a.1).isSome=true:=han
    have hre1:M.reopen S cs an=((SM.ans S an { M with fr:=addZ M.fr (l.zip cs),cl:=none }).wt.foldl (SM.again S) { (SM.ans S an { M with fr:=addZ M.fr (l.zip cs),cl:=none }) with wt:=[] }):=hre
    rw [hre1] at kk
    have x3:SellerAt A H3 s S num { M with fr:=addZ M.fr (l.zip cs),cl:=none }:=x3
    clear hre hre1 han x2' x e e2 e3 f2 f3 s2 dan dan2 dcs dcl dts c dS hcl hfull eb ecp mo sz hlk hll
    generalize hM1 : { M with fr:=addZ M.fr (l.zip cs),cl:=none } = M1 at *
    refine g_cut (fun σ H'=>(∃ v3 v4 v5 v6 v7,σ=[some (.ref s.p),some (.ref cp),some x2,v3,v4,v5,v6,v7,none])∧Fr s.os H3 H'∧SellerAt A H' s S num (SM.ans S an M1)) ?_ ?_
    · cases an with
      | none=>
        cases dan3
        ((with_reducible refine j_it ?_);walk_at "4";(with_reducible refine g_notN (g_bl ?_)))
        refine g_iteN (fun z=>absurd rfl z) (fun _=>?_)
        ((with_reducible refine g_next ?_))
        exact ⟨⟨_,_,_,_,_,rfl⟩,Fr.refl,x3⟩
      | some a=>
        obtain ⟨t,ws,rfl,et,_,qt⟩:=Da.tup1 dan3
        obtain ⟨y,z,rfl,d1,d2⟩:=qt.two
        cases d1.int1
        have hz : z=.bl a.2:=by cases d2;rfl
        subst hz
        have hs:=han1 a rfl
        obtain ⟨dx3,sv3,clv3,e3p,_,c3⟩:=x3.parts
        obtain ⟨akv,eak,rak⟩:=c3.ask
        rcases DkR.look rak a.1 with ⟨h1,_⟩ | ⟨dv,d,h1,h2,h3⟩
        · rw [h1] at hs;cases hs
        have hdk:=mo1.ak _ (lk_some h1)
        have hac:=mo1.ac _ (lk_some h1)
        ((with_reducible refine j_it ?_);walk_at "4";(with_reducible refine g_notN (g_bl ?_)))
        refine g_iteN (fun _=>?_) (fun z=>by cases z)
        ((with_reducible refine j_sa ?_);walk_at "0";(with_reducible refine' g_gtup ?h740 ?l740 ?_);(case h740=>walk_at "sqt");(case l740=>exact rfl);(with_reducible refine g_gcons (g_name (g_gcons (g_name (g_gnil (j_sa (g_dpop1 ?_)))))));(with_reducible refine' j_fv (f:="asked") (C:=Ad.Seller _) ?k742 ?h742 (Txt.cl_Seller (by assumption)) (Txt.no_Seller_asked (by assumption)) ?l742 ?_);(case k742=>exact rfl);(case h742=>walk_at "fact");(case l742=>exact rfl);(with_reducible refine' g_rdg2K ?h743 ?_);(case h743=>walk_at "rdt");walk_at "0")
        refine g_rpopI eak h2 fun H4 f4 e4=>?_
        have x4:=x3.w_ask (v:=dr M1.ask a.1) f4 ⟨_,e4,by unfold askT;rw [← dr_mp];exact (rak.fr f4).drop a.1⟩
        have dd4:=Da.frL f4 h3 (imm_deed d)
        have mo4:SM.Ok S { M1 with ask:=dr M1.ask a.1 }:=⟨mo1.vk,mo1.vn,fun e he=>mo1.ak e (List.mem_filter.mp he).1,dr_nd mo1.an _,fun e he=>mo1.ac e (List.mem_filter.mp he).1,mo1.wk,mo1.ck⟩
        have hdl:=dr_len1 M1.ask a.1
        have sz4:SM.Sz 1000 { M1 with ask:=dr M1.ask a.1 }:=⟨sz1.bk,sz1.out,sz1.told,sz1.vo,by have:=sz1.ask;show (dr M1.ask a.1).length + M1.wt.length≤_;omega⟩
        have hans:SM.ans S (some a) M1=SM.tell a.1 a.2 (if a.2=true then SM.kept S a.1 d { M1 with ask:=dr M1.ask a.1 } else { M1 with ask:=dr M1.ask a.1 }):=by
          show M1.answered S a.1 a.2=_
          unfold SM.answered
          rw [h1];rfl
        rw [hans]
        have hac2:AskOk (SM.vo { M1 with ask:=dr M1.ask a.1 }) d:=hac
        have ht:(if a.2=true then SM.kept S a.1 d { M1 with ask:=dr M1.ask a.1 } else { M1 with ask:=dr M1.ask a.1 }).told=M1.told:=by
          split
          · cases d <;> rfl
          · rfl
        have htl:=sz1.told
        generalize hM2 : { M1 with ask:=dr M1.ask a.1 } = M2 at *
        ((with_reducible refine g_name ?_))
        refine g_cut (fun σ H'=>σ=[some (.ref s.p),some (.ref cp),some (.ref t),v3,v4,some (.int a.1),some (.bl a.2),some dv,none]∧Fr s.os H4 H'∧SellerAt A H' s S num (if a.2=true then SM.kept S a.1 d M2 else M2)) ?_ ?_
        · obtain ⟨dx4,sv4,clv4,e4p,_,c4⟩:=x4.parts
          ((with_reducible refine g_ifs (g_ttr ?_));walk_at "0")
          refine ⟨a.2,(show TruV K (.bl a.2) H4 a.2 from rfl),?_⟩
          refine g_iteB (fun hg=>?_) (fun hg=>?_)
          · ((with_reducible refine g_drop ?_);walk_at "6";walk_at "1";walk_at "2")
            refine c_Seller_keep ⟨s,S,num,M2,a.1,d,rfl,x4,rfl,dd4,so,mo4,hdk,hac2,sz4.mono (by decide),fun H5 f5 x5=>?_⟩
            skip
            exact ⟨rfl,f5,by rw [if_pos hg];exact x5⟩
          · ((with_reducible refine g_next ?_))
            exact ⟨rfl,Fr.refl,by rw [if_neg (by rw [hg];decide)];exact x4⟩
        · rintro σ H5 ⟨rfl,f5,x5⟩
          obtain ⟨dx5,sv5,clv5,e5p,_,c5⟩:=x5.parts
          obtain ⟨it,us,eu,du⟩:=c5.told
          have hul : us.length≤200000:=by rw [du.len,List.length_map,ht];omega
          ((with_reducible refine g_drop (g_bm ?_));(with_reducible refine' j_fv (f:="told") (C:=Ad.Seller _) ?k749 ?h749 (Txt.cl_Seller (by assumption)) (Txt.no_Seller_told (by assumption)) ?l749 ?_);(case k749=>exact rfl);(case h749=>walk_at "fact");(case l749=>exact rfl);(with_reducible refine' g_bmL ?h750 ?_);(case h750=>walk_at "fact");(with_reducible refine g_cons (g_tup ?_));walk_at "1";walk_at "2";walk_at "5";(with_reducible refine g_nil ?_);walk_at "8")
          rename_i t6 H6 n6 f6 e6 H7 f7 e7
          exact ⟨⟨_,_,_,_,_,rfl⟩,(((f4.in1 s.m_ask).transL f5).then0 f6).transL (f7.in1 s.m_told),tell_at x5 du f6 e6 f7 e7⟩
    · rintro σ H4 ⟨⟨v3,v4,v5,v6,v7,rfl⟩,f4,x4⟩
      have mo4:=ans_ok (an:=an) mo1
      have sz4:=ans_sz (S:=S) (an:=an) sz1
      generalize SM.ans S an M1=M4 at *
      obtain ⟨dx4,sv4,clv4,e4p,dS4,c4⟩:=x4.parts
      obtain ⟨iw,ws,ew,dw⟩:=c4.wt
      have al4:=x4.2
      have nd4:=x4.nd
      ((with_reducible refine j_sa ?_);(with_reducible refine' j_fv (f:="waiting") (C:=Ad.Seller _) ?k754 ?h754 (Txt.cl_Seller (by assumption)) (Txt.no_Seller_waiting (by assumption)) ?l754 ?_);(case k754=>exact rfl);(case h754=>walk_at "fact");(case l754=>exact rfl);(with_reducible refine g_name (g_seq (g_sfld (g_lst (g_nil ?_)))));(with_reducible refine' g_newL ?h756 ?_);(case h756=>exact Nat.le_of_ble_eq_true rfl);walk_at "new";walk_at "0";(with_reducible refine' g_rflds (f:="waiting") (C:=Ad.Seller _) ?h757 (Txt.cl_Seller (by assumption)) (Txt.no_Seller_waiting (by assumption)) ?l757 ?e757 ?_);(case h757=>walk_at "fact");(case l757=>exact Nat.le_of_ble_eq_true rfl);(case e757=>exact rfl);intro _ _ _;(with_reducible refine g_for (g_iL ?_));walk_at "0")
      rename_i o H5 n5 f5 e5 H6 f6 e6
      have np:∀ {a:Addr},a≠s.p→a∉[s.p]:=fun q=>nin1 q nin0
      have no : o∉s.os:=x4.nin n5
      have nos:∀ a∈s.os,a≠o:=fun a ha z=>no (by rw [← z];exact ha)
      have nop : o≠s.p:=(nos _ s.m_p).symm
      have F:Fr [s.p] H4 H6:=f6.pre0' f5
      have a5:=al4.new f5 n5 e5
      have x6:SellerAt A H6 { s with wt:=o } S num { M4 with wt:=[] }:=by
        refine ⟨⟨dx4,sv4,clv4,e6,Da.frL F dS4 (imm_setup S),⟨F.at c4.fr (np nd4.p_fr.symm),c4.vo.fr F (np nd4.p_vo.symm),c4.bk.fr F (np nd4.p_bk.symm),c4.ask.fr F (np nd4.p_ask.symm),LsAt.nil (f6.at e5 (np nop)),c4.out.fr F (np nd4.p_out.symm),c4.told.fr F (np nd4.p_told.symm),Da.frL F c4.clv (imm_clos _)⟩⟩,?_⟩
        have s2:AL H6 (o::s.os):=⟨a5.1,fun a ha=>by
          by_cases z : a=s.p
          · rw [z];exact ⟨_,e6⟩
          · obtain ⟨u,eu⟩:=a5.2 a ha;exact ⟨u,f6.at eu (np z)⟩⟩
        have p1:(o::s.os).Perm (s.wt::[s.p,s.fr,s.vo,s.bk,s.ask,o,s.out,s.told]):=by
          unfold SP.os
          refine (List.perm_middle (l₁:=[o,s.p,s.fr,s.vo,s.bk,s.ask]) (l₂:=[s.out,s.told]) (a:=s.wt)).trans ?_
          exact List.Perm.cons _ (List.perm_middle (l₁:=[s.p,s.fr,s.vo,s.bk,s.ask]) (l₂:=[s.out,s.told]) (a:=o)).symm
        have s3:=s2.perm p1
        exact ⟨(List.nodup_cons.mp s3.1).2,fun a ha=>s3.2 a (List.mem_cons_of_mem _ ha)⟩
      have hos':∀ a∈SP.os { s with wt:=o },a∈s.os∨a=o:=fun a ha=>by
        have ha' : a=s.p∨a=s.fr∨a=s.vo∨a=s.bk∨a=s.ask∨a=o∨a=s.out∨a=s.told:=by simpa [SP.os] using ha
        rcases ha' with z | z | z | z | z | z | z | z
        · exact .inl (by rw [z];exact s.m_p)
        · exact .inl (by rw [z];exact s.m_fr)
        · exact .inl (by rw [z];exact s.m_vo)
        · exact .inl (by rw [z];exact s.m_bk)
        · exact .inl (by rw [z];exact s.m_ask)
        · exact .inr z
        · exact .inl (by rw [z];exact s.m_out)
        · exact .inl (by rw [z];exact s.m_told)
      have nwt : s.wt∉SP.os { s with wt:=o }:=by
        have h1:=nos s.wt s.m_wt
        unfold SP.os
        simp only [List.mem_cons,List.not_mem_nil,or_false,not_or]
        exact ⟨nd4.p_wt.symm,nd4.fr_wt.symm,nd4.vo_wt.symm,nd4.bk_wt.symm,nd4.ask_wt.symm,h1,nd4.wt_out,nd4.wt_told⟩
      have ew6:=F.at ew (np nd4.p_wt.symm)
      have dw6:=DaL.frL F dw iw
      have F4:Fr s.os H H4:=F3.transL f4
      have no0:H o=none:=F4.freeL n5 no
      have F6:Fr s.os H H6:=F4.transL (F.in1 s.m_p)
      have mo6:SM.Ok S { M4 with wt:=[] }:=⟨mo4.vk,mo4.vn,mo4.ak,mo4.an,mo4.ac,fun _ h=>(nomatch h),mo4.ck⟩
      have hwl:M4.wt.length≤1001:=by have:=sz4.bk;omega
      have sz6:SM.Sz 1001 { M4 with wt:=[] }:=⟨by have:=sz4.bk;show M4.bk.length + 0≤_;omega,by have:=sz4.out;show M4.out.length + 0≤_;omega,by have:=sz4.told;show M4.told.length + 0≤_;omega,by have:=sz4.vo;show M4.vo.length + 0≤_;omega,by have:=sz4.ask;show M4.ask.length + 0≤_;omega⟩
      have hwk:=mo4.wk
      have hwsl : ws.length=M4.wt.length:=by rw [dw.len,List.length_map]
      clear e6 e5 f5 f6 F c4 e4p ew dw al4 a5 f4 F3 x3 mo4 sz4 mo1 sz1 han1
      refine g_riL (SqL.of ew6) ?_
      refine f_list (xs:=ws) (fun i σ H'=>(∃ v5 v6 v7,σ=[some (.ref s.p),some (.ref cp),some x2,v3,v4,v5,v6,v7,some (.ref s.wt)])∧Fr (SP.os { s with wt:=o }) H6 H'∧SellerAt A H' { s with wt:=o } S num ((M4.wt.take i).foldl (SM.again S) { M4 with wt:=[] })) ⟨⟨_,_,_,rfl⟩,Fr.refl,x6⟩ (fun i σ H' _ ⟨_,f,_⟩=>SqL.of (f.at ew6 nwt)) ?_ ?_
      · rintro i y σ H7 hy ⟨⟨v5,v6,v7,rfl⟩,f7,x7⟩
        have moi:=agains_ok (S:=S) (M4.wt.take i) mo6 (fun e he=>hwk e (List.mem_of_mem_take he))
        have szi:=(agains_sz (S:=S) (M4.wt.take i) sz6).mono (show 1001 + (M4.wt.take i).length≤3000 by rw [List.length_take];omega)
        obtain ⟨z,hz,dz⟩:=(DaL.frL f7 dw6 iw).get hy
        rw [List.getElem?_map] at hz
        have ⟨ei,hei,hez⟩ : ∃ ei,M4.wt[i]? = some ei∧wtD ei=z:=by
          cases q:M4.wt[i]? with
          | none=>rw [q] at hz;cases hz
          | some ei=>rw [q] at hz;exact ⟨ei,rfl,Option.some.inj hz⟩
        subst hez
        have hek:=hwk ei (List.mem_of_getElem? hei)
        rw [take_more hei,List.foldl_append]
        generalize (M4.wt.take i).foldl (SM.again S) { M4 with wt:=[] } = Mi at *
        obtain ⟨t,us,rfl,et,_,qt⟩:=Da.tup1 dz
        obtain ⟨u1,u2,rfl,d1,d2⟩:=qt.two
        cases d1.int1
        obtain ⟨dx7,sv7,clv7,e7p,_,c7⟩:=x7.parts
        obtain ⟨iw7,ws7,ew7,dw7⟩:=c7.wt
        have hwl7 : ws7.length≤200000:=by rw [dw7.len,List.length_map];have:=szi.bk;omega
        ((with_reducible refine' g_gtup ?h759 ?l759 ?_);(case h759=>walk_at "sqt");(case l759=>exact rfl);(with_reducible refine g_gcons (g_name (g_gcons (g_name (g_gnil (j_itb ?_))))));walk_at "6";walk_at "2")
        refine c_Seller_must_wait ⟨{ s with wt:=o },S,num,Mi,ei.2,rfl,x7,d2,so,moi,hek,fun H8 f8=>?_⟩
        have x8:=x7.f0 f8
        have d8:=Da.frL f8 d2 (imm_deed _)
        obtain ⟨dx8,sv8,clv8,e8p,_,_⟩:=x8.parts
        have ew8:=f8.at0 ew7
        have dw8:=DaL.frL f8 dw7 iw7
        ((with_reducible refine g_bl ?_))
        refine g_iteB (fun hh=>?_) (fun hh=>?_)
        · ((with_reducible refine g_drop (g_bm ?_));(with_reducible refine' j_fv (f:="waiting") (C:=Ad.Seller _) ?k763 ?h763 (Txt.cl_Seller (by assumption)) (Txt.no_Seller_waiting (by assumption)) ?l763 ?_);(case k763=>exact rfl);(case h763=>walk_at "fact");(case l763=>exact rfl);(with_reducible refine' g_bmL ?h764 ?_);(case h764=>walk_at "fact");(with_reducible refine g_cons (g_tup ?_));walk_at "1";walk_at "2";walk_at "5";(with_reducible refine g_nil ?_);walk_at "8")
          rename_i t9 H9 n9 f9 e9 H10 f10 e10
          have hd:SM.again S Mi ei = { Mi with wt:=Mi.wt++[ei] }:=if_pos hh
          refine ⟨⟨_,_,_,rfl⟩,((f7.then0 f8).then0 f9).transL (f10.in1 (SP.m_wt _)),?_⟩
          show SellerAt A H10 _ S num (SM.again S Mi ei)
          rw [hd]
          exact wait_at x8 dw8 f9 e9 d8 f10 e10
        · ((with_reducible refine g_drop ?_);walk_at "6";walk_at "1";walk_at "2")
          refine c_Seller_do ⟨{ s with wt:=o },S,num,Mi,ei.1,ei.2,rfl,x8,rfl,d8,so,moi,hek,szi.mono (by decide),fun H9 f9 x9=>?_⟩
          have hd:SM.again S Mi ei=Mi.doit S ei.1 ei.2:=if_neg (by rw [hh];decide)
          skip
          refine ⟨⟨_,_,_,rfl⟩,(f7.then0 f8).transL f9,?_⟩
          show SellerAt A H9 _ S num (SM.again S Mi ei)
          rw [hd]
          exact x9
      · rintro σ H7 ⟨⟨v5,v6,v7,rfl⟩,f7,x7⟩
        rw [hwsl,List.take_length] at x7
        exact kk o H7 no0 (F6.own f7 fun a ha=>(hos' a ha).imp id fun q=>by rw [q];exact no0) x7
theorem ok_Seller_reopen {f:Addr} {fd:FuncData} (F:Fun K "reopen" "Seller.reopen" s_Seller_reopen f fd) (T:Txt K mg A) (c_Seller_must_wait:CalM P w K mg base A.Seller "must_wait" 3 ["self","deed"] (sp_Seller_must_wait K A)) (c_Seller_keep:CalM P w K mg base A.Seller "keep" 5 ["self","number","deed"] (sp_Seller_keep K A)) (c_Seller_do:CalM P w K mg base A.Seller "do" 6 ["self","number","deed"] (sp_Seller_do K A)) : FnOk P w K mg base CX0 (7) f fd ["self","counts","answer"] (sp_Seller_reopen K A):=by
  refine F.ok sc_Seller_reopen (fun vs H Q E h=>?_) (fun cdv Ar outer s H vs Q E hr h=>⟨t_Seller_reopen K A,?_,?_⟩)
  · obtain ⟨x0,x1,x2,rfl,_⟩:=h
    rfl
  · have hu:=hu_of hr
    exact (pss_cons (ps_for PassesOwn.never rfl (RZ.pi_zipA (by rfl) T.b_zip (pa_cons (pe_fld (pv 0) rfl) (pa_cons (pv 1) pa_nil))) (pg_tup rfl (pgs_cons (pg_name (i:=3) sc_Seller_reopen.nd rfl (Or.inl rfl)) (pgs_cons (pg_name (i:=4) sc_Seller_reopen.nd rfl (Or.inl rfl)) pgs_nil))) (pss_one (ps_daug hu (pe_fld (pv 0) rfl) (pv 3) (pv 4) in_add (fun _ _ _=>rfl))))
    (pss_cons (ps_fld (pv 0) pe_non rfl)
    (Evl.pss_cut (ps_if (pt_cmpR c_notN (pv 2) pe_non (nomark _)) (pss_cons (ps_asg (pv 2) (pg_tup rfl (pgs_cons (pg_name (i:=5) sc_Seller_reopen.nd rfl (Or.inl rfl)) (pgs_cons (pg_name (i:=6) sc_Seller_reopen.nd rfl (Or.inl rfl)) pgs_nil))))
    (pss_cons (ps_set (i:=7) sc_Seller_reopen.nd rfl (Or.inl rfl) (pe_dpop1 (pe_fld (pv 0) rfl) (pv 5) ⟨rfl,rfl,rfl,rfl⟩))
    (Evl.pss_cut (ps_if (pt_tr (pv 6) (by intro _;rfl)) (pss_one (ps_expr (pe_mt (pv 0) T.cl_Seller c_Seller_keep (hr.mono (by first | decide | omega)) (pa_cons (pv 5) (pa_cons (pv 7) pa_nil))))) pss_nil)
    (pss_one (ps_expr (pe_bm PySem.F.plainAttrs_list PySem.F.slot_list_append PySem.F.type_list_append mt_append (pe_fld (pv 0) rfl) (pa_cons (pe_tup (pa_cons (pv 5) (pa_cons (pv 6) pa_nil))) pa_nil))))))) pss_nil)
    (pss_cons (ps_set (i:=8) sc_Seller_reopen.nd rfl (Or.inl rfl) (pe_fld (pv 0) rfl))
    (pss_cons (ps_fld (pv 0) (pe_lst pa_nil) rfl)
    (pss_one (ps_for PassesOwn.never rfl (pi_list (pv 8)) (pg_tup rfl (pgs_cons (pg_name (i:=5) sc_Seller_reopen.nd rfl (Or.inl rfl)) (pgs_cons (pg_name (i:=7) sc_Seller_reopen.nd rfl (Or.inl rfl)) pgs_nil))) (pss_one (ps_if (pt_val (pe_mt (pv 0) T.cl_Seller c_Seller_must_wait (hr.mono (by first | decide | omega)) (pa_cons (pv 7) pa_nil))) (pss_one (ps_expr (pe_bm PySem.F.plainAttrs_list PySem.F.slot_list_append PySem.F.type_list_append mt_append (pe_fld (pv 0) rfl) (pa_cons (pe_tup (pa_cons (pv 5) (pa_cons (pv 7) pa_nil))) pa_nil)))) (pss_one (ps_expr (pe_mt (pv 0) T.cl_Seller c_Seller_do (hr.mono (by first | decide | omega)) (pa_cons (pv 5) (pa_cons (pv 7) pa_nil))))))))))))))
  · obtain ⟨x0,x1,x2,rfl,h⟩:=h
    exact pu_Seller_reopen T h
def SRes (A:Ad) (H:Hp) (s:SP) (S:Setup) (num:Int) (M:SM) (Q:Hp→Prop) : Prop:=∀ (s':SP) (H':Hp),s'.p=s.p→Fr s.os H H'→(∀ a∈s'.os,a∈s.os∨H a=none)→SellerAt A H' s' S num M→Q H'
def P_Seller_handle (K:PySem.W.Frag) (A:Ad) (x0 x1:V) (H:Hp) (Q:VK) : Prop:=∃ (s:SP) (S:Setup) (num:Int) (M:SM) (b:DnB),x0=.ref s.p∧SellerAt A H s S num M∧Da H x1 (dnD b)∧SetupOk S∧M.Ok S∧DnOk S M b∧M.Sz 1000∧
  SRes A H s S num (M.handle S b) (fun H'=>Q .non H')
def sp_Seller_handle (K:PySem.W.Frag) (A:Ad) : Sp:=fun vs H Q _=>∃ x0 x1,vs=[x0,x1]∧P_Seller_handle K A x0 x1 H Q
theorem c_Seller_handle {K:PySem.W.Frag} {A:Ad} {x0 x1:V} {H:Hp} {Q:VK} {E:XK} (h:P_Seller_handle K A x0 x1 H Q) : sp_Seller_handle K A [x0,x1] H Q E:=⟨_,_,rfl,h⟩
theorem sc_Seller_handle:FnScope ["self","body","word"] ["self","body"] (defScope s_Seller_handle):=⟨rfl,rfl,rfl,by decide +kernel,rfl,by decide +kernel,by decide +kernel⟩
def t_Seller_handle (K:PySem.W.Frag) (A:Ad) : TS:=
  (tSeq (tAsg (tOp (rIxT K) (tVar 1) (tC (.int 0))) (gName 2))
    (tIfS (tTest (tOp rEq (tVar 2) (tC (.str "give")))) (sDAug (tFld K (tVar 0) "free") (tSl (rSlT K) (tVar 1) (tPart (tC (.int 1))) tNoPart) (tC (.int 1)) rAdd) (tIfS (tTest (tOp rEq (tVar 2) (tC (.str "close")))) (tDrop (tMt A.Seller "close" (sp_Seller_close K A) (tVar 0) (tCons (tOp (rIxT K) (tVar 1) (tC (.int 1))) tNil))) (tIfS (tTest (tOp rEq (tVar 2) (tC (.str "open")))) (tDrop (tMt A.Seller "reopen" (sp_Seller_reopen K A) (tVar 0) (tCons (tOp (rIxT K) (tVar 1) (tC (.int 1))) (tCons (tOp (rIxT K) (tVar 1) (tC (.int 2))) tNil)))) (tIfS (tAnd (tTest (tOp rEq (tVar 2) (tC (.str "want")))) (tTest (tOp cGt (tDGet (tFld K (tVar 0) "free") (tSl (rSlT K) (tVar 1) (tPart (tC (.int 1))) tNoPart)) (tC (.int 0))))) (tSeq (sDAug (tFld K (tVar 0) "free") (tSl (rSlT K) (tVar 1) (tPart (tC (.int 1))) tNoPart) (tC (.int 1)) rSub)
    (tDrop (tBM K "list" rAppend (tFld K (tVar 0) "outgoing") (tCons (tOp (rCatT K) (tTup (tCons (tC (.str "back")) tNil)) (tSl (rSlT K) (tVar 1) (tPart (tC (.int 1))) tNoPart)) tNil)))) tNext)))))
theorem pu_Seller_handle (T:Txt K mg A) {x0 x1:V} {H:Hp} {Q:VK} (h:P_Seller_handle K A x0 x1 H Q) : t_Seller_handle K A { nx:=fun _ H'=>Q .non H',rt:=Q } [some x0,some x1,none] H:=by
  obtain ⟨s,S,num,M,b,rfl,x,db,so,mo,bok,sz,kk⟩:=h
  have nd0:=x.nd
  obtain ⟨dx,sv,clv,e,dS,c⟩:=x.parts
  have k0:∀ H':Hp,Fr s.os H H'→SellerAt A H' s S num (M.handle S b)→Q .non H':=fun H' f z=>kk s H' rfl f (fun a ha=>.inl ha) z
  unfold t_Seller_handle
  cases b with
  | give w=>
    obtain ⟨a,xs,rfl,ea,_,q⟩:=Da.tup1 db
    obtain ⟨u1,u2,u3,rfl,d1,d2,d3⟩:=q.three
    cases d1.str1
    cases d2.int1
    cases d3.int1
    have hw:CellOk S w:=bok
    ((with_reducible refine j_sa ?_);walk_at "3";(with_reducible refine g_name (j_it ?_));walk_at "4";(with_reducible refine g_eqS (g_bl ?_)))
    refine g_ite (fun _=>?_) (fun z=>absurd rfl z)
    ((with_reducible refine g_daug ?_);walk_at "9";(with_reducible refine g_sl ?_);walk_at "0";(with_reducible refine g_part (g_c (g_rpart (g_noP ?_))));(with_reducible refine' g_sl1 ?h774 ?_);(case h774=>walk_at "sqt");walk_at "new")
    rename_i t H1 n1 f1 e1
    refine g_stA so hw (f1.at0 c.fr) e1 ?_
    ((with_reducible refine g_c (g_rAdd ?_)))
    refine g_stP so hw (f1.at0 c.fr) e1 fun H2 f2 e2=>?_
    skip
    exact k0 H2 ((f2.in1 s.m_fr).pre0' f1) ((x.f0 f1).w_fr f2 e2)
  | close cs=>
    obtain ⟨a,xs,rfl,ea,_,q⟩:=Da.tup1 db
    obtain ⟨u1,u2,rfl,d1,d2⟩:=q.two
    cases d1.str1
    ((with_reducible refine j_sa ?_);walk_at "3";(with_reducible refine g_name (j_it ?_));walk_at "4";(with_reducible refine g_eqS (g_bl ?_)))
    refine g_ite (fun z=>absurd z (by decide)) (fun _=>?_)
    ((with_reducible refine j_it ?_);walk_at "4";(with_reducible refine g_eqS (g_bl ?_)))
    refine g_ite (fun _=>?_) (fun z=>absurd rfl z)
    ((with_reducible refine g_drop ?_);walk_at "6";(with_reducible refine g_cons ?_);walk_at "3";(with_reducible refine g_nil ?_))
    refine c_Seller_close ⟨s,S,num,M,cs,rfl,x,d2,so,bok.1,bok.2,sz.mono (by decide),fun H1 f1 x1=>?_⟩
    skip
    exact k0 H1 f1 x1
  | opn cs an=>
    obtain ⟨a,xs,rfl,ea,_,q⟩:=Da.tup1 db
    obtain ⟨u1,u2,u3,rfl,d1,d2,d3⟩:=q.three
    cases d1.str1
    obtain ⟨⟨l,hcl,hl⟩,han⟩:=bok
    ((with_reducible refine j_sa ?_);walk_at "3";(with_reducible refine g_name (j_it ?_));walk_at "4";(with_reducible refine g_eqS (g_bl ?_)))
    refine g_ite (fun z=>absurd z (by decide)) (fun _=>?_)
    ((with_reducible refine j_it ?_);walk_at "4";(with_reducible refine g_eqS (g_bl ?_)))
    refine g_ite (fun z=>absurd z (by decide)) (fun _=>?_)
    ((with_reducible refine j_it ?_);walk_at "4";(with_reducible refine g_eqS (g_bl ?_)))
    refine g_ite (fun _=>?_) (fun z=>absurd rfl z)
    ((with_reducible refine g_drop ?_);walk_at "6";(with_reducible refine g_cons ?_);walk_at "3";(with_reducible refine g_cons ?_);walk_at "3";(with_reducible refine g_nil ?_))
    refine c_Seller_reopen ⟨s,S,num,M,cs,an,l,rfl,x,d2,d3,so,mo,sz,hcl,hl,han,fun o H1 n1 f1 x1=>?_⟩
    skip
    refine kk { s with wt:=o } H1 rfl f1 (fun a ha=>?_) x1
    have ha' : a=s.p∨a=s.fr∨a=s.vo∨a=s.bk∨a=s.ask∨a=o∨a=s.out∨a=s.told:=by simpa [SP.os] using ha
    rcases ha' with z | z | z | z | z | z | z | z
    · exact .inl (by rw [z];exact s.m_p)
    · exact .inl (by rw [z];exact s.m_fr)
    · exact .inl (by rw [z];exact s.m_vo)
    · exact .inl (by rw [z];exact s.m_bk)
    · exact .inl (by rw [z];exact s.m_ask)
    · exact .inr (by rw [z];exact n1)
    · exact .inl (by rw [z];exact s.m_out)
    · exact .inl (by rw [z];exact s.m_told)
  | want w=>
    obtain ⟨a,xs,rfl,ea,_,q⟩:=Da.tup1 db
    obtain ⟨u1,u2,u3,rfl,d1,d2,d3⟩:=q.three
    cases d1.str1
    cases d2.int1
    cases d3.int1
    have hw:CellOk S w:=bok
    ((with_reducible refine j_sa ?_);walk_at "3";(with_reducible refine g_name (j_it ?_));walk_at "4";(with_reducible refine g_eqS (g_bl ?_)))
    refine g_ite (fun z=>absurd z (by decide)) (fun _=>?_)
    ((with_reducible refine j_it ?_);walk_at "4";(with_reducible refine g_eqS (g_bl ?_)))
    refine g_ite (fun z=>absurd z (by decide)) (fun _=>?_)
    ((with_reducible refine j_it ?_);walk_at "4";(with_reducible refine g_eqS (g_bl ?_)))
    refine g_ite (fun z=>absurd z (by decide)) (fun _=>?_)
    ((with_reducible refine g_ifs (g_and (g_test ?_)));walk_at "4";(with_reducible refine g_eqS (g_bl ?_)))
    refine g_ite (fun _=>?_) (fun z=>absurd rfl z)
    ((with_reducible refine g_test (g_op (g_dget ?_)));walk_at "9";(with_reducible refine g_sl ?_);walk_at "0";(with_reducible refine g_part (g_c (g_rpart (g_noP ?_))));(with_reducible refine' g_sl1 ?h807 ?_);(case h807=>walk_at "sqt");walk_at "new")
    rename_i t H1 n1 f1 e1
    have x1:=x.f0 f1
    have ef1:=f1.at0 c.fr
    have ep1:=f1.at0 e
    have ea1:=f1.tup _ _ ea
    refine g_stG so hw ef1 e1 ?_
    ((with_reducible refine g_c (g_gt (g_bl ?_))))
    refine g_ite (fun hp=>?_) (fun hp=>?_)
    · ((with_reducible refine g_seq (g_daug ?_));walk_at "9";(with_reducible refine g_sl ?_);walk_at "0";(with_reducible refine g_part (g_c (g_rpart (g_noP ?_))));(with_reducible refine' g_sl1 ?h812 ?_);(case h812=>walk_at "sqt");walk_at "new")
      rename_i t2 H2 n2 f2 e2
      have ef2:=f2.at0 ef1
      refine g_stA so hw ef2 e2 ?_
      ((with_reducible refine g_c (g_rSub ?_)))
      refine g_stP so hw ef2 e2 fun H3 f3 e3=>?_
      have x3:=(x1.f0 f2).w_fr f3 e3
      have ea3:=f3.tup _ _ (f2.tup _ _ ea1)
      obtain ⟨dx3,sv3,clv3,e3p,_,c3⟩:=x3.parts
      obtain ⟨io,os,eo,dox⟩:=c3.out
      have hol : os.length≤200000:=by rw [dox.len,List.length_map];have:=sz.out;show M.out.length≤_;omega
      have F3:Fr s.os H H3:=((f3.in1 s.m_fr).pre0' f2).pre0' f1
      clear e1 e2 e3 f1 f2 f3 ef1 ef2 ep1 n1 n2
      ((with_reducible refine g_drop (g_bm ?_));(with_reducible refine' j_fv (f:="outgoing") (C:=Ad.Seller _) ?k815 ?h815 (Txt.cl_Seller (by assumption)) (Txt.no_Seller_outgoing (by assumption)) ?l815 ?_);(case k815=>exact rfl);(case h815=>walk_at "fact");(case l815=>exact rfl);(with_reducible refine' g_bmL ?h816 ?_);(case h816=>walk_at "fact");(with_reducible refine g_cons (g_op (g_tup (j_cc1 ?_))));walk_at "5";(with_reducible refine g_sl ?_);walk_at "0";(with_reducible refine g_part (g_c (g_rpart (g_noP ?_))));(with_reducible refine' g_sl1 ?h820 ?_);(case h820=>walk_at "sqt");walk_at "new")
      rename_i t4 H4 n4 f4 e4 t5 H5 n5 f5 e5
      refine g_catT (SqT.of (f5.at0 e4)) (SqT.of e5) (by simp) (Nat.le_of_ble_eq_true rfl) (fun z=>by cases z) (fun _ t6 H6 n6 f6 e6=>?_)
      have F6:Fr [] H3 H6:=(f4.then0 f5).then0 f6
      ((with_reducible refine g_nil ?_);walk_at "8")
      rename_i H7 f7 e7
      refine k0 H7 ((F3.then0 F6).transL (f7.in1 s.m_out)) ?_
      have hd:M.handle S (.want w) = { M with fr:=fset M.fr w (M.fr w - 1),out:=M.out++[.back w] }:=if_pos hp
      rw [hd]
      refine (x3.f0 F6).w_out (v:=M.out++[.back w]) f7 ?_
      rw [List.map_append]
      exact LsAt.snoc (DaL.frL F6 dox io) io (.tup e6 (Nat.le_of_ble_eq_true rfl) (.cons (.str _) (.cons (.int _) (.one' (.int _))))) (imm_up (.back w)) f7 e7
    · ((with_reducible refine g_next ?_))
      refine k0 H1 f1.of0 ?_
      have hd:M.handle S (.want w)=M:=if_neg hp
      rw [hd];exact x1
theorem ok_Seller_handle {f:Addr} {fd:FuncData} (F:Fun K "handle" "Seller.handle" s_Seller_handle f fd) (T:Txt K mg A) (c_Seller_close:CalM P w K mg base A.Seller "close" 1 ["self","cells"] (sp_Seller_close K A)) (c_Seller_reopen:CalM P w K mg base A.Seller "reopen" 7 ["self","counts","answer"] (sp_Seller_reopen K A)) : FnOk P w K mg base CX0 (8) f fd ["self","body"] (sp_Seller_handle K A):=by
  refine F.ok sc_Seller_handle (fun vs H Q E h=>?_) (fun cdv Ar outer s H vs Q E hr h=>⟨t_Seller_handle K A,?_,?_⟩)
  · obtain ⟨x0,x1,rfl,_⟩:=h
    rfl
  · have hu:=hu_of hr
    exact (pss_cons (ps_set (i:=2) sc_Seller_handle.nd rfl (Or.inl rfl) (pe_ix ix_tup (pv 1) pe_int (fun _ _=>rfl)))
    (pss_one (ps_if (pt_cmpR op_eq (pv 2) pe_str (nomark _)) (pss_one (ps_daug hu (pe_fld (pv 0) rfl) (pe_slice sl_tup (pv 1) (po_some pe_int) po_none) pe_int in_add (fun _ _ _=>rfl))) (pss_one (ps_if (pt_cmpR op_eq (pv 2) pe_str (nomark _)) (pss_one (ps_expr (pe_mt (pv 0) T.cl_Seller c_Seller_close (hr.mono (by first | decide | omega)) (pa_cons (pe_ix ix_tup (pv 1) pe_int (fun _ _=>rfl)) pa_nil)))) (pss_one (ps_if (pt_cmpR op_eq (pv 2) pe_str (nomark _)) (pss_one (ps_expr (pe_mt (pv 0) T.cl_Seller c_Seller_reopen (hr.mono (by first | decide | omega)) (pa_cons (pe_ix ix_tup (pv 1) pe_int (fun _ _=>rfl)) (pa_cons (pe_ix ix_tup (pv 1) pe_int (fun _ _=>rfl)) pa_nil))))) (pss_one (ps_if (PW.pt (pw_and (pt_cmpR op_eq (pv 2) pe_str (nomark _)) (pw_and1 (pt_cmpR c_gt (pe_dget hu (pe_fld (pv 0) rfl) (pe_slice sl_tup (pv 1) (po_some pe_int) po_none) (fun _ _=>rfl)) pe_int (nomark _))))) (pss_cons (ps_daug hu (pe_fld (pv 0) rfl) (pe_slice sl_tup (pv 1) (po_some pe_int) po_none) pe_int in_sub (fun _ _ _=>rfl))
    (pss_one (ps_expr (pe_bm PySem.F.plainAttrs_list PySem.F.slot_list_append PySem.F.type_list_append mt_append (pe_fld (pv 0) rfl) (pa_cons (pe_op op_catT (pe_tup (pa_cons pe_str pa_nil)) (pe_slice sl_tup (pv 1) (po_some pe_int) po_none)) pa_nil))))) pss_nil)))))))))
  · obtain ⟨x0,x1,rfl,h⟩:=h
    exact pu_Seller_handle T h
def EP (l:List Addr) (H:Hp) (v:V) : Prop:=∃ (a:Addr) (t c:V) (D:PyData),v=.ref a∧dp D≤11∧∀ H',Fr l H H'→H' a=some (.lst [t,c])∧Da H' t D∧Da H' c D
theorem EP.step {l l' m:List Addr} {H H':Hp} {v:V} (h:EP l H v) (f:Fr l' H H') (n1:∀ a∈l',a∈l∨H a=none) (n2:∀ a∈m,a∈l∨H a=none) : EP m H' v:=by
  obtain ⟨a,t,c,D,rfl,d,k⟩:=h
  exact ⟨a,t,c,D,rfl,d,fun H2 g=>k H2 ((Fr.refl.own f n1).own g n2)⟩
def giveF (f:Cell→Int) (cs:List Cell) : Cell→Int:=cs.foldl (fun f c=>fset f c (f c + 1)) f
theorem giveF_snoc (f:Cell→Int) (cs:List Cell) (c:Cell) : giveF f (cs++[c])=fset (giveF f cs) c (giveF f cs c + 1):=by
  unfold giveF;rw [List.foldl_append];rfl
theorem bump_at (m:List (Cell×Int)) (c x:Cell) : (lk (bump m c) x).getD 0=(lk m x).getD 0 + if x=c then 1 else 0:=by
  unfold bump
  rw [lk_pt]
  by_cases h : x=c
  · subst h;simp
  · have h2 : ¬ c=x:=fun z=>h z.symm
    simp [h,h2]
theorem giveF_at:∀ (cs:List Cell) (f:Cell→Int) (m:List (Cell×Int)) (x:Cell),giveF f cs x + (lk m x).getD 0=f x + (lk (cs.foldl bump m) x).getD 0
  | [],_,_,_=>rfl
  | c::cs,f,m,x=>by
    have h:=giveF_at cs (fset f c (f c + 1)) (bump m c) x
    rw [bump_at] at h
    show giveF (fset f c (f c + 1)) cs x + _=f x + (lk (cs.foldl bump (bump m c)) x).getD 0
    unfold fset at h ⊢
    by_cases q : x=c
    · subst q;simp at h ⊢;omega
    · simp [q] at h ⊢;omega
theorem giveF_party (f:Cell→Int) (p:List Stay) (x:Cell) : giveF f (p.flatMap cellsOf) x=f x + nd p x:=by
  have h:=giveF_at (p.flatMap cellsOf) f [] x
  have e:(lk ([] : List (Cell×Int)) x).getD 0=0:=rfl
  rw [e] at h
  unfold nd needsL
  omega
structure MK (S:Setup) (i:Nat) (M:SM) : Prop where
  ok:M.Ok S
  fr:∀ c,0≤M.fr c
  n:M.n=(i:Int)
  ask:M.ask=[]
  wt:M.wt=[]
  cl:M.cl=none
  out:M.out=[]
  told:M.told=[]
  bk:M.bk.length=i
  vo:M.vo.length=i
  vk:∀ e∈M.vo,e.1 < (i:Int)
theorem MK.setF {S:Setup} {i:Nat} {M:SM} (m:MK S i M) {f:Cell→Int} (h:∀ c,0≤f c) : MK S i { M with fr:=f }:=
  ⟨⟨m.ok.vk,m.ok.vn,m.ok.ak,m.ok.an,m.ok.ac,m.ok.wk,m.ok.ck⟩,h,m.n,m.ask,m.wt,m.cl,m.out,m.told,m.bk,m.vo,m.vk⟩
theorem MK.sz {S:Setup} {i:Nat} {M:SM} (m:MK S i M) (h : i≤100) : M.Sz 100:=
  ⟨by rw [m.bk,m.wt];simpa using h,by rw [m.out,m.wt];simp,by rw [m.told,m.wt];simp,by rw [m.vo,m.wt];simpa using h,by rw [m.ask,m.wt];simp⟩
theorem nd_nil (c:Cell) : nd [] c=0:=rfl
theorem MK.wish {S:Setup} {i:Nat} {M:SM} (m:MK S i M) {p:List Stay} (hp:PtyOk S p) (hn:∀ c,nd p c≤M.fr c) :
    ∃ r,(M.asked S (.wish p)).out=[.entry r]∧(M.asked S (.wish p)).told=[((i:Int),true)]∧MK S (i + 1) { M.asked S (.wish p) with out:=[],told:=[] }:=by
  have ok:=asked_ok (d:=.wish p) m.ok hp
  have w:M.waits (.wish p)=false:=by unfold SM.waits SM.shut;rw [m.cl];rfl
  have has:SM.has { M with n:=M.n + 1 } (lackL p [])=true:=by
    unfold SM.has
    refine List.all_eq_true.mpr fun e he=>?_
    unfold lackL at he
    obtain ⟨c,_,hc⟩:=List.mem_filterMap.mp he
    unfold lackC1 at hc
    split at hc
    · have:=Option.some.inj hc
      subst this
      have:=hn c
      exact decide_eq_true (by rw [nd_nil];show nd p c - 0≤M.fr c;omega)
    · cases hc
  have e:M.asked S (.wish p)=SM.tell M.n true (SM.keep S M.n (.wish p) { M with n:=M.n + 1,fr:=fun c=>M.fr c - nd p c + nd [] c }):=by
    unfold SM.asked
    show (if M.waits (.wish p)=true then _ else _)=_
    rw [if_neg (by rw [w];decide)]
    show SM.deal S M.n (.wish p) p [] { M with n:=M.n + 1 } = _
    unfold SM.deal
    rw [if_pos has]
  have nk:M.n∉M.vo.map (·.1):=fun z=>by
    obtain ⟨x,hx,q⟩:=List.mem_map.mp z
    have:=m.vk x hx
    rw [m.n] at q;omega
  have hv:(pt M.vo M.n p).length=i + 1:=by
    have h:=congrArg List.length (pt_keys M.vo M.n p)
    rw [if_neg nk,List.length_map,List.length_append,List.length_map,m.vo] at h
    simpa using h
  rw [e] at ok ⊢
  refine ⟨_,by show M.out++_=_;rw [m.out];rfl,by show M.told++_=_;rw [m.told,m.n];rfl,⟨ok.vk,ok.vn,ok.ak,ok.an,ok.ac,ok.wk,ok.ck⟩,fun c=>?_,?_,m.ask,m.wt,m.cl,rfl,rfl,?_,hv,fun x hx=>?_⟩
  · have:=hn c
    show 0≤M.fr c - nd p c + nd [] c
    rw [nd_nil];omega
  · show M.n + 1=_
    rw [m.n];rfl
  · show (M.bk++_).length=_
    rw [List.length_append,m.bk];rfl
  · rcases pt_mem hx with q | q
    · have:=m.vk x q;omega
    · rw [q];show M.n < _;rw [m.n];omega
theorem PartyOk.pty {S:Setup} {p:List Stay} (h:PartyOk S p) : PtyOk S p:=⟨h.ok,h.l4⟩
theorem PtyOk.cell {S:Setup} {p:List Stay} (h:PtyOk S p) {s:Stay} (hs : s∈p) {j:Nat} (hj : j < (s.2.2 - s.2.1).toNat) : CellOk S (s.1,s.2.1 + (j:Nat)):=by
  obtain ⟨c0,c1,c2,c3,c4⟩:=h.1 s hs
  exact ⟨by first | assumption | omega,by first | assumption | omega,by show (0:Int)≤s.2.1 + (j:Nat);omega,by show s.2.1 + (j:Nat) < S.nights;omega⟩
theorem EqU.same {K:PySem.W.Frag} {H:Hp} {v:V} {d:PyData} (h:Da H v d) (n:Nat) : EqU K H (n + 1) v v:=by
  cases h with
  | non=>exact .inl ⟨rfl,rfl⟩
  | bl b=>exact .inl ⟨rfl,rfl⟩
  | int i=>exact .inl ⟨rfl,rfl⟩
  | str x=>exact .inl ⟨rfl,rfl⟩
  | lst _ _ _=>exact .inr (.inl ⟨_,rfl,rfl⟩)
  | tup _ _ _=>exact .inr (.inl ⟨_,rfl,rfl⟩)
theorem EqU.sames {K:PySem.W.Frag} {H:Hp} (n:Nat) : ∀ {vs:List V} {ds:List PyData},DaL H vs ds→Paired (EqU K H (n + 1)) vs vs
  | _,_,.nil=>.nil
  | _,_,.cons r t=>.cons (EqU.same r n) (EqU.sames n t)
theorem dpL_map {α:Type} {f : α→PyData} {n:Nat} (h:∀ x,dp (f x)≤n) (l:List α) : dpL (l.map f)≤n:=dpL_le fun d hd=>by obtain ⟨x,_,rfl⟩:=List.mem_map.mp hd;exact h x
theorem dp_party (p:List Stay) : dp (partyD p)≤4:=by
  have : dpL (p.map stayD)≤3:=dpL_le fun d hd=>by obtain ⟨s,_,rfl⟩:=List.mem_map.mp hd;simp [stayD,dp,dpL]
  simp only [partyD,dp];omega
theorem dp_rowB (r:Row) : dp (rowB r)≤6:=by
  cases r with
  | sold n p a b=>have:=dp_party p;simp only [rowB,dp,dpL];omega
  | cancelled n a b=>simp [rowB,dp,dpL]
  | changed n p a b c d=>have:=dp_party p;simp only [rowB,dp,dpL];omega
theorem dp_tell (e:Int×Bool) : dp (tellD e)≤1:=by simp [tellD,dp,dpL]
theorem dp_cells (l:List Cell) : dp (cellsD l)≤2:=by
  have : dpL (l.map cellD)≤1:=dpL_le fun d hd=>by obtain ⟨s,_,rfl⟩:=List.mem_map.mp hd;simp [cellD,dp,dpL]
  simp only [cellsD,dp];omega
theorem dp_ints (r:List Int) : dp (rowD r)≤1:=by
  have : dpL (r.map PyData.int)≤0:=dpL_le fun d hd=>by obtain ⟨s,_,rfl⟩:=List.mem_map.mp hd;simp [dp]
  simp only [rowD,dp];omega
theorem dp_lack (l:Lack) : dpL (l.map fun e=>(PyData.tuple [cellD e.1,.int e.2]))≤2:=dpL_le fun d hd=>by
  obtain ⟨e,_,rfl⟩:=List.mem_map.mp hd
  simp [cellD,dp,dpL]
theorem dp_up (b:UpB) : dp (upD b)≤7:=by
  cases b with
  | ask n l=>have:=dp_lack l;simp only [upD,lackD,dp,dpL];omega
  | closed cs=>have:=dp_ints cs;simp only [upD,dp,dpL];omega
  | back c=>simp [upD,dp,dpL]
  | entry r=>have:=dp_rowB r;simp only [upD,dp,dpL];omega
theorem dp_dn (b:DnB) : dp (dnD b)≤4:=by
  cases b with
  | give c=>simp [dnD,dp,dpL]
  | close cs=>have:=dp_cells cs;simp only [dnD,dp,dpL];omega
  | opn cs an=>
    have:=dp_ints cs
    cases an with
    | none=>simp only [dnD,ansD,dp,dpL];omega
    | some a=>simp only [dnD,ansD,dp,dpL];omega
  | want c=>simp [dnD,dp,dpL]
theorem dp_out (e:Int×DnB) : dp (outD e)≤5:=by
  have:=dp_dn e.2
  simp only [outD,dp,dpL];omega
theorem cells_hp {S:Setup} (so:SetupOk S) : ((cellsAll S).map fun c=>hp c.1 c.2).Nodup:=by
  refine List.pairwise_map.mpr ((cells_nd S).imp_of_mem fun {a b} ha hb ne e=>ne ?_)
  obtain ⟨a1,a2,a3,a4⟩:=(mem_cells so.n1).mp ha
  obtain ⟨b1,b2,b3,b4⟩:=(mem_cells so.n1).mp hb
  have h1:=so.k3
  have h2:=so.n2
  have ea:((a.1.toNat:Nat) : Int)=a.1:=by omega
  have eb:((a.2.toNat:Nat) : Int)=a.2:=by omega
  have ec:((b.1.toNat:Nat) : Int)=b.1:=by omega
  have ed:((b.2.toNat:Nat) : Int)=b.2:=by omega
  have h:=hp_inj (a:=a.1.toNat) (b:=a.2.toNat) (c:=b.1.toNat) (d:=b.2.toNat) (by omega) (by omega) (by omega) (by omega) (by rw [ea,eb,ec,ed];exact e)
  exact Prod.ext (by omega) (by omega)
theorem st_keys (S:Setup) (f:Cell→Int) : (cD (stT S f)).map (·.1)=(cellsAll S).map fun c=>[Sum.inl c.1,Sum.inl c.2]:=by
  show ((stT S f).map fun e=>(ck e.1,V.int e.2)).map (·.1)=_
  rw [List.map_map]
  have h:=congrArg (fun l=>l.map ck) (tab_keys (cellsAll S) f)
  rw [List.map_map] at h
  exact h
theorem EqU.ints {K:PySem.W.Frag} {H:Hp} {a b:Addr} {n:Nat} {m:List (Cell×Int)} (ha:H a=some (.dT (cD m))) (hb:H b=some (.dT (cD m))) : EqU K H (n + 2) (.ref a) (.ref b):=by
  refine .inr (.inr (.inl (.inr ⟨a,b,_,_,rfl,rfl,ha,hb,rfl,fun p hp=>?_⟩)))
  obtain ⟨j,hj,e⟩:=List.getElem_of_mem hp
  refine ⟨j,p.2,by rw [List.getElem?_eq_getElem hj,e],?_⟩
  obtain ⟨c,_,rfl⟩:=List.mem_map.mp hp
  exact .inl ⟨rfl,rfl⟩
theorem find_nd:∀ {kvs:List (Key×V)} {k:Key} {v:V},(kvs.map (·.1)).Nodup→(k,v)∈kvs→kvs.find? (fun kv=>decide (kv.1=k))=some (k,v)
  | [],_,_,_,h=>nomatch h
  | q::r,k,v,nk,h=>by
    rw [List.map_cons,List.nodup_cons] at nk
    rw [List.find?_cons]
    by_cases z : q.1=k
    · rw [decide_eq_true z]
      rcases List.mem_cons.mp h with w | w
      · exact congrArg some w.symm
      · exact absurd (List.mem_map.mpr ⟨_,w,z.symm⟩) nk.1
    · rw [decide_eq_false z]
      rcases List.mem_cons.mp h with w | w
      · rw [← w] at z;exact absurd rfl z
      · exact find_nd nk.2 w
theorem EqU.tab {K:PySem.W.Frag} {H:Hp} {a b:Addr} {n:Nat} {kvs:List (Key×V)} {m:List (Int×PyData)} (ha:H a=some (.dK kvs)) (hb:H b=some (.dK kvs)) (r:DkR H kvs m) (nm:Nd m) : EqU K H (n + 2) (.ref a) (.ref b):=by
  refine .inr (.inr (.inl (.inl (.inr ⟨a,b,_,_,rfl,rfl,ha,hb,rfl,fun p hp=>?_⟩))))
  obtain ⟨i,hi,e⟩:=List.getElem_of_mem hp
  obtain ⟨k,v⟩:=p
  obtain ⟨x,hx,hk,hv⟩:=r.get (i:=i) (k:=k) (v:=v) (by rw [List.getElem?_eq_getElem hi,e])
  obtain ⟨u,h1,h2,_⟩:=(r.val x.1).2 x.2 (lk_mem (e:=x) nm (List.mem_of_getElem? hx))
  refine ⟨v,?_,EqU.same hv n⟩
  have nk:(kvs.map (·.1)).Nodup:=by
    rw [r.keys]
    exact List.pairwise_map.mpr (List.Pairwise.imp (fun h e=>h (Sum.inl.inj e)) nm)
  unfold valV
  rw [find_nd nk hp];rfl
theorem EqU.lists {K:PySem.W.Frag} {H:Hp} {a b:Addr} {n:Nat} {xs:List V} {ds:List PyData} (ha:H a=some (.lst xs)) (hb:H b=some (.lst xs)) (d:DaL H xs ds) : EqU K H (n + 2) (.ref a) (.ref b):=
  .inr (.inr (.inl (.inl (.inl ⟨a,b,xs,xs,rfl,rfl,SqL.of ha,SqL.of hb,EqU.sames n d⟩))))
structure KB (H0 H:Hp) (d l:Addr) (os:List Addr) (le:Addr) (vs:List V) : Prop where
  D:Draws H d l
  al:AL H (os++[le,d,l])
  f:Fr [d] H0 H
  nw:∀ a∈os++[le],H0 a=none
  el:H le=some (.lst vs)
  ep:∀ v∈vs,EP (os++[le,d]) H v
section
variable {H0 H H':Hp} {d l le:Addr} {os os':List Addr} {vs:List V}
theorem KB.d0 (x:KB H0 H d l os le vs) {a:Addr} (h:H a=none) : H0 a=none:=x.f.freeL h fun w=>by
  obtain ⟨ms,k,e,_⟩:=x.D;rw [List.mem_singleton.mp w,e] at h;cases h
theorem KB.res (x:KB H0 H d l os le vs) (f:Fr os H H') (n:∀ a∈os',a∈os∨H a=none) (al:AL H' os') : KB H0 H' d l os' le vs:=by
  have hd : d∉os:=x.al.apart (by simp)
  have hl : l∉os:=x.al.apart (by simp)
  have hle : le∉os:=x.al.apart (by simp)
  refine ⟨x.D.fr f hd hl,x.al.part f al n,x.f.own f (fun a ha=>.inr (x.nw a (List.mem_append_left _ ha))),fun a ha=>?_,f.at x.el hle,fun v hv=>(x.ep v hv).step f (fun a ha=>.inl (List.mem_append_left _ ha)) (fun a ha=>?_)⟩
  · rcases List.mem_append.mp ha with q | q
    · rcases n a q with z | z
      · exact x.nw a (List.mem_append_left _ z)
      · exact x.d0 z
    · exact x.nw a (List.mem_append_right _ q)
  · rcases List.mem_append.mp ha with q | q
    · exact (n a q).imp (List.mem_append_left _) id
    · exact .inl (List.mem_append_right _ q)
theorem KB.far (x:KB H0 H d l os le vs) : d∉os∧l∉os∧le∉os∧le≠d∧le≠l∧d≠l:=by
  have h:=x.al.right.1
  simp only [List.nodup_cons,List.mem_cons,List.not_mem_nil,or_false,not_or,not_false_iff,and_true,List.nodup_nil] at h
  exact ⟨x.al.apart (by simp),x.al.apart (by simp),x.al.apart (by simp),h.1.1,h.1.2,h.2⟩
theorem KB.off (x:KB H0 H d l os le vs) {m:List Addr} (hm:∀ a∈m,a=d∨a=le) : ∀ a∈os,a∉m:=fun a ha q=>by
  rcases hm a q with z | z
  · rw [z] at ha;exact x.far.1 ha
  · rw [z] at ha;exact x.far.2.2.1 ha
theorem KB.put (x:KB H0 H d l os le vs) {m:List Addr} {vs':List V} (f:Fr m H H') (hm:∀ a∈m,a=d∨a=le) (D:Draws H' d l) (el:H' le=some (.lst vs')) (ep:∀ v∈vs',v∈vs∨EP (os++[le,d]) H' v) : KB H0 H' d l os le vs':=by
  refine ⟨D,⟨x.al.1,fun a ha=>?_⟩,x.f.own f (fun a ha=>(hm a ha).elim (fun z=>.inl (by rw [z];exact List.mem_cons_self)) (fun z=>.inr (x.nw a (by rw [z];simp)))),x.nw,el,fun v hv=>?_⟩
  · rcases List.mem_append.mp ha with q | q
    · obtain ⟨o,e⟩:=x.al.left.2 a q
      exact ⟨o,f.at e (x.off hm a q)⟩
    · obtain ⟨ms,k,e1,e2,_⟩:=D
      simp only [List.mem_cons,List.not_mem_nil,or_false] at q
      rcases q with z | z | z
      · rw [z];exact ⟨_,el⟩
      · rw [z];exact ⟨_,e1⟩
      · rw [z];exact ⟨_,e2⟩
  · rcases ep v hv with q | q
    · exact (x.ep v q).step f (fun a ha=>.inl (List.mem_append_right _ ((hm a ha).elim (fun z=>by rw [z];simp) (fun z=>by rw [z];simp)))) (fun a ha=>.inl ha)
    · exact q
theorem KB.draw (x:KB H0 H d l os le vs) (f:Fr [d] H H') (D:Draws H' d l) : KB H0 H' d l os le vs:=
  x.put f (fun a ha=>.inl (List.mem_singleton.mp ha)) D (f.at x.el (nin1 x.far.2.2.2.1 nin0)) fun v hv=>.inl hv
theorem KB.offd (x:KB H0 H d l os le vs) : ∀ a∈os,a∉[d]:=x.off fun a ha=>.inl (List.mem_singleton.mp ha)
theorem KB.f0 (x:KB H0 H d l os le vs) (f:Fr [] H H') : KB H0 H' d l os le vs:=
  x.put f (fun a ha=>nomatch ha) (x.D.fr f nin0 nin0) (f.at0 x.el) fun v hv=>.inl hv
theorem KB.start {p dx:Addr} (D:Draws H d l) (dl : d≠l) {H2 H3:Hp} (f2:Fr [] H H2) (al:AL H2 os) (own:∀ a∈os,H a=none) (n3:H2 le=none) (f3:Fr [] H2 H3) (e3:H3 le=some (.lst [])) : KB H H3 d l os le []:=by
  have D2:=D.fr f2 nin0 nin0
  have base:∀ {G:Hp},Draws G d l→AL G ([]++[d,l]):=fun D=>by
    obtain ⟨ms,kk,q1,q2,_⟩:=D
    refine ⟨by simp [dl],fun x hx=>?_⟩
    rcases List.mem_cons.mp hx with z | z
    · rw [z];exact ⟨_,q1⟩
    · rw [List.mem_singleton.mp z];exact ⟨_,q2⟩
  have b1:AL H2 (os++[d,l]):=(base D).part f2 al fun a ha=>.inr (own a ha)
  refine ⟨D2.fr f3 nin0 nin0,(b1.new f3 n3 e3).perm ?_,(f2.then0 f3).of0,fun a ha=>?_,e3,fun v hv=>nomatch hv⟩
  · show (le::(os++[d,l])).Perm (os++le::[d,l])
    exact List.perm_middle.symm
  · rcases List.mem_append.mp ha with q | q
    · exact own a q
    · rw [List.mem_singleton.mp q];exact f2.free n3
end
def P_Lseller_keeps (K:PySem.W.Frag) (A:Ad) (x0 x1:V) (H:Hp) (Q:VK) : Prop:=∃ (d l:Addr) (S:Setup),x0=.ref d∧d≠l∧Draws H d l∧SetupOk S∧Da H x1 (setupD S)∧
  ∀ H',Fr [d] H H'→Draws H' d l→Q (.bl true) H'
def sp_Lseller_keeps (K:PySem.W.Frag) (A:Ad) : Sp:=fun vs H Q _=>∃ x0 x1,vs=[x0,x1]∧P_Lseller_keeps K A x0 x1 H Q
theorem c_Lseller_keeps {K:PySem.W.Frag} {A:Ad} {x0 x1:V} {H:Hp} {Q:VK} {E:XK} (h:P_Lseller_keeps K A x0 x1 H Q) : sp_Lseller_keeps K A [x0,x1] H Q E:=⟨_,_,rfl,h⟩
theorem sc_Lseller_keeps:FnScope ["_law_draws","_law_setup_here","_law_seller","_law_elder","_law_k","_law_party_here","_law_stay_here","_law_night","_law_kept","_law_told","_law_pair"] ["_law_draws","_law_setup_here"] (defScope s_Lseller_keeps):=⟨rfl,rfl,rfl,by decide +kernel,rfl,by decide +kernel,by decide +kernel⟩
abbrev t0_Lseller_keeps (K:PySem.W.Frag) (A:Ad) : TS:=(tDrop (tBM K "list" rAppend (tVar 3) (tCons (tLst (tCons (tVar 9) (tCons (tLst (tCons (tCB (rListOf K) (tCons (tOp (rIxL K) (tVar 9) (tC (.int 0))) tNil)) (tCons (tCB (rListOf K) (tCons (tOp (rIxL K) (tVar 9) (tC (.int 1))) tNil)) tNil))) tNil))) tNil)))
abbrev t1_Lseller_keeps (K:PySem.W.Frag) (A:Ad) : TS:=(tIfS (tTest (tOp (rNeU K) (tVar 8) (tLst (tCons (tFld K (tVar 2) "vouchers") (tCons (tFld K (tVar 2) "book") (tCons (tFld K (tVar 2) "free") (tCons (tFld K (tVar 2) "waiting") tNil))))))) (tRet (tC (.bl false))) tNext)
abbrev t2_Lseller_keeps (K:PySem.W.Frag) (A:Ad) : TS:=(tIfS (tNot (tB (tCl (sp_Lequal K A 12) (tCons (tOp (rIxL K) (tVar 10) (tC (.int 0))) (tCons (tOp (rIxL K) (tVar 10) (tC (.int 1))) tNil))))) (tRet (tC (.bl false))) tNext)
abbrev t3_Lseller_keeps (K:PySem.W.Frag) (A:Ad) : TS:=(tIfS (tNot (tB (tCl (sp_Lequal K A 12) (tCons (tLst (tCons (tMt A.Seller "bodies" (sp_Seller_bodies K A) (tVar 2) tNil) (tCons (tMt A.Seller "answers" (sp_Seller_answers K A) (tVar 2) tNil) tNil))) (tCons (tLst (tCons (tLst tNil) (tCons (tLst tNil) tNil))) tNil))))) (tRet (tC (.bl false))) tNext)
abbrev t4_Lseller_keeps (K:PySem.W.Frag) (A:Ad) : TS:=(tSeq (tFor (iList K (tVar 3)) (gName 10) (t2_Lseller_keeps K A))
    (tSeq (t0_Lseller_keeps K A)
    (t1_Lseller_keeps K A)))
abbrev t5_Lseller_keeps (K:PySem.W.Frag) (A:Ad) : TS:=(tDrop (tBM K "list" rAppend (tOp (rIxL K) (tVar 9) (tC (.int 1))) (tCons (tC (.int 0)) tNil)))
abbrev t6_Lseller_keeps (K:PySem.W.Frag) (A:Ad) : TS:=(tDrop (tBM K "list" rAppend (tOp (rIxL K) (tVar 9) (tC (.int 0))) (tCons (tC (.int 0)) tNil)))
abbrev t7_Lseller_keeps (K:PySem.W.Frag) (A:Ad) : TS:=(tSeq (t5_Lseller_keeps K A)
    (tSeq (t3_Lseller_keeps K A)
    (t4_Lseller_keeps K A)))
abbrev t8_Lseller_keeps (K:PySem.W.Frag) (A:Ad) : TS:=(tIfS (tOr (tNot (tB (tCB (rIsi K) (tCons (tOp (rIxL K) (tVar 9) (tC (.int 0))) (tCons (tC (.ty "list")) tNil))))) (tNot (tB (tCB (rIsi K) (tCons (tOp (rIxL K) (tVar 9) (tC (.int 1))) (tCons (tC (.ty "list")) tNil)))))) (tRet (tC (.bl false))) tNext)
abbrev t9_Lseller_keeps (K:PySem.W.Frag) (A:Ad) : TS:=(tAsg (tLst (tCons (tMt A.Seller "bodies" (sp_Seller_bodies K A) (tVar 2) tNil) (tCons (tMt A.Seller "answers" (sp_Seller_answers K A) (tVar 2) tNil) tNil))) (gName 9))
abbrev t10_Lseller_keeps (K:PySem.W.Frag) (A:Ad) : TS:=(tSeq (t8_Lseller_keeps K A)
    (tSeq (t6_Lseller_keeps K A)
    (t7_Lseller_keeps K A)))
abbrev t11_Lseller_keeps (K:PySem.W.Frag) (A:Ad) : TS:=(tAsg (tLst (tCons (tCB rDictK (tCons (tFld K (tVar 2) "vouchers") tNil)) (tCons (tCB (rListOf K) (tCons (tFld K (tVar 2) "book") tNil)) (tCons (tCB rDictC (tCons (tFld K (tVar 2) "free") tNil)) (tCons (tCB (rListOf K) (tCons (tFld K (tVar 2) "waiting") tNil)) tNil))))) (gName 8))
abbrev t12_Lseller_keeps (K:PySem.W.Frag) (A:Ad) : TS:=(tDrop (tMt A.Seller "ask" (sp_Seller_ask K A) (tVar 2) (tCons (tTup (tCons (tC (.str "wish")) (tCons (tVar 5) tNil))) tNil)))
abbrev t13_Lseller_keeps (K:PySem.W.Frag) (A:Ad) : TS:=(tSeq (t11_Lseller_keeps K A)
    (tSeq (t9_Lseller_keeps K A)
    (t10_Lseller_keeps K A)))
abbrev t14_Lseller_keeps (K:PySem.W.Frag) (A:Ad) : TS:=(tDrop (tMt A.Seller "handle" (sp_Seller_handle K A) (tVar 2) (tCons (tTup (tCons (tC (.str "give")) (tCons (tOp (rIxT K) (tVar 6) (tC (.int 0))) (tCons (tVar 7) tNil)))) tNil)))
abbrev t15_Lseller_keeps (K:PySem.W.Frag) (A:Ad) : TS:=(tFor (iRng2 (tCons (tOp (rIxT K) (tVar 6) (tC (.int 1))) (tCons (tOp (rIxT K) (tVar 6) (tC (.int 2))) tNil))) (gName 7) (t14_Lseller_keeps K A))
abbrev t16_Lseller_keeps (K:PySem.W.Frag) (A:Ad) : TS:=(tAsg (tCl (sp_Lparty K A) (tCons (tVar 0) (tCons (tVar 1) tNil))) (gName 5))
abbrev t17_Lseller_keeps (K:PySem.W.Frag) (A:Ad) : TS:=(tSeq (tFor (iTup K (tVar 5)) (gName 6) (t15_Lseller_keeps K A))
    (tSeq (t12_Lseller_keeps K A)
    (t13_Lseller_keeps K A)))
abbrev t18_Lseller_keeps (K:PySem.W.Frag) (A:Ad) : TS:=(tFor (iRng1 (tCons (tOp oMod (tCl (sp_Ldraw K A) (tCons (tVar 0) tNil)) (tC (.int 13))) tNil)) (gName 4) (tSeq (t16_Lseller_keeps K A)
    (t17_Lseller_keeps K A)))
abbrev t19_Lseller_keeps (K:PySem.W.Frag) (A:Ad) : TS:=(tRet (tOp rEq (tCB (rLenSq K) (tCons (tFld K (tVar 2) "book") tNil)) (tCB rLenD (tCons (tFld K (tVar 2) "vouchers") tNil))))
abbrev t20_Lseller_keeps (K:PySem.W.Frag) (A:Ad) : TS:=(tAsg (tMk A.Seller (sp_Seller_init K A) (tCons (tVar 1) (tCons (tC (.int 0)) tNil))) (gName 2))
abbrev t21_Lseller_keeps (K:PySem.W.Frag) (A:Ad) : TS:=(tSeq (tAsg (tLst tNil) (gName 3))
    (tSeq (t18_Lseller_keeps K A)
    (t19_Lseller_keeps K A)))
def t_Lseller_keeps (K:PySem.W.Frag) (A:Ad) : TS:=
  (tSeq (t20_Lseller_keeps K A)
    (t21_Lseller_keeps K A))
theorem sk_tail (T:Txt K mg A) {D:Ends} {σ:L2.St} {H H1:Hp} {d l le kp t1 ao at_ kv kb kf kw:Addr} {x1 v4 v5 v6 v7 v10:Option V} {S:Setup} {s:SP} {M:SM} {vs ovs tvs bvs wvs:List V} {ods tds bds wds:List PyData} {kvs:List (Key×V)}
    (hσ : σ=[some (.ref d),x1,some (.ref s.p),some (.ref le),v4,v5,v6,v7,some (.ref kp),some (.ref t1),v10]) (ks:KB H H1 d l s.os le vs) (hv : vs.length≤100) (sa:SellerAt A H1 s S 0 M)
    (eA:H1 t1=some (.lst [.ref ao,.ref at_])) (eB:H1 ao=some (.lst (ovs++[.int 0]))) (eC:H1 at_=some (.lst (tvs++[.int 0])))
    (nA : t1∉s.os) (nB : ao∉s.os) (nC : at_∉s.os) (nL:∀ a∈[le,d],t1≠a∧ao≠a∧at_≠a) (dov:DaL H1 ovs ods) (dtv:DaL H1 tvs tds) (io : immL ods=true) (it : immL tds=true) (hlo : ovs.length≤1000) (hlt : tvs.length≤1000) (po : dpL ods≤7) (pt_ : dpL tds≤1)
    (eK:H1 kp=some (.lst [.ref kv,.ref kb,.ref kf,.ref kw])) (nK:∀ a∈[kp,kv,kb,kf,kw],a≠le) (kv1:H1 kv=some (.dK kvs)) (kb1:H1 kb=some (.lst bvs)) (kf1:H1 kf=some (.dT (cD (stT S M.fr)))) (kw1:H1 kw=some (.lst wvs))
    (xv1:H1 s.vo=some (.dK kvs)) (xb1:H1 s.bk=some (.lst bvs)) (xw1:H1 s.wt=some (.lst wvs)) (r1:DkR H1 kvs (voD M.vo)) (vn:Nd M.vo) (db:DaL H1 bvs bds) (dw:DaL H1 wvs wds) (ib : immL bds=true) (iw : immL wds=true)
    (k:∀ (H':Hp) (w10:Option V) (vs':List V),KB H H' d l s.os le vs'→SellerAt A H' s S 0 M→vs'.length≤vs.length + 1→Fr [le] H1 H'→D.nx [some (.ref d),x1,some (.ref s.p),some (.ref le),v4,v5,v6,v7,some (.ref kp),some (.ref t1),w10] H') :
    t4_Lseller_keeps K A D σ H1:=by
  subst hσ
  have el:=ks.el
  have hple : s.p≠le:=fun z=>ks.far.2.2.1 (by rw [← z];simp [SP.os])
  obtain ⟨dx4,sv4,clv4,e4,dS4,c4⟩:=sa.parts
  walk_at "go"
  refine f_list (fun j σ H'=>∃ v10,σ=[some (.ref d),x1,some (.ref s.p),some (.ref le),v4,v5,v6,v7,some (.ref kp),some (.ref t1),v10]∧H'=H1) ⟨_,rfl,rfl⟩ (fun j σ H' _ ⟨_,_,q⟩=>by rw [q];exact SqL.of el) ?_ ?_
  · rintro j x σ H' hx ⟨w10,rfl,hq⟩
    rw [hq]
    obtain ⟨pr,t,c,Dd,rfl,hd,hk⟩:=ks.ep x (List.mem_of_getElem? hx)
    obtain ⟨w1,w2,w3⟩:=hk H1 Fr.refl
    walk_at "go"
    refine c_Lequal ⟨Dd,w2,w3,by omega,?_⟩
    walk_at "go"
    exact ⟨_,rfl,rfl⟩
  · rintro σ H' ⟨w10,rfl,hq⟩
    rw [hq]
    walk_at "go"
    rename_i ca H2 n2 f2 e2 cb H3 n3 f3 e3 pc H4 n4 f4 e4' pr H5 n5 f5 e5 H6 f6 e6 kq H7 n7 f7 e7
    obtain ⟨m1,m2,m3,m4,m5,m6⟩:=ks.far
    have F5:Fr [] H1 H5:=((f2.then0 f3).then0 f4).then0 f5
    have F6:Fr [le] H1 H6:=F5.of0.transL f6
    have F7:Fr [le] H1 H7:=F6.then0 f7
    have fresh:∀ {a:Addr},H1 a=none→a∉s.os++[le,d]:=fun {a} h z=>by
      rcases List.mem_append.mp z with q | q
      · exact sa.nin h q
      · have q2 : a∈[le,d,l]:=by
          simp only [List.mem_cons,List.not_mem_nil,or_false] at q ⊢
          rcases q with q | q
          · exact .inl q
          · exact .inr (.inl q)
        obtain ⟨u,w⟩:=ks.al.2 a (List.mem_append_right _ q2);rw [h] at w;cases w
    have n3':H1 cb=none:=f2.free n3
    have n4':H1 pc=none:=(f2.then0 f3).free n4
    have n5':H1 pr=none:=((f2.then0 f3).then0 f4).free n5
    have old:∀ {a:Addr},a∉s.os→(∀ b∈[le,d],a≠b)→a∉s.os++[le,d]:=fun h1 h2 z=>(List.mem_append.mp z).elim h1 fun q=>h2 _ q rfl
    have nle:∀ {a:Addr},a∉s.os++[le,d]→a∉[le]:=fun h z=>h (by rw [List.mem_singleton.mp z];simp)
    have oA:=old nA fun b hb=>(nL b hb).1
    have oB:=old nB fun b hb=>(nL b hb).2.1
    have oC:=old nC fun b hb=>(nL b hb).2.2
    have D6:=ks.D.fr F6 (nin1 m4.symm nin0) (nin1 m5.symm nin0)
    have ks6:KB H H6 d l s.os le (vs++[.ref pr]):=ks.put F6 (fun a ha=>.inr (List.mem_singleton.mp ha)) D6 e6 fun v hv=>by
      rcases List.mem_append.mp hv with q | q
      · exact .inl q
      · refine .inr ?_
        rw [List.mem_singleton.mp q]
        refine ⟨pr,.ref t1,.ref pc,.list [.list (ods++[.int 0]),.list (tds++[.int 0])],rfl,by simp only [dp,dpL,dpL_append];omega,fun H' g=>⟨g.at (f6.at e5 (nle (fresh n5'))) (fresh n5'),?_,?_⟩⟩
        · refine .lst (g.at (F6.at eA (nle oA)) oA) (Nat.le_of_ble_eq_true rfl) (.cons (.lst (g.at (F6.at eB (nle oB)) oB) (by rw [List.length_append];simp;omega) ?_) (.one' (.lst (g.at (F6.at eC (nle oC)) oC) (by rw [List.length_append];simp;omega) ?_)))
          · exact (DaL.frL g (DaL.frL F6 dov io) io).append (.one' (.int _))
          · exact (DaL.frL g (DaL.frL F6 dtv it) it).append (.one' (.int _))
        · have g2:=fresh n2
          have g3:=fresh n3'
          have g4:=fresh n4'
          have a2:=f6.at (f5.at0 (f4.at0 (f3.at0 e2))) (nle g2)
          have a3:=f6.at (f5.at0 (f4.at0 e3)) (nle g3)
          have a4:=f6.at (f5.at0 e4') (nle g4)
          refine .lst (g.at a4 g4) (Nat.le_of_ble_eq_true rfl) (.cons (.lst (g.at a2 g2) (by rw [List.length_append];simp;omega) ?_) (.one' (.lst (g.at a3 g3) (by rw [List.length_append];simp;omega) ?_)))
          · exact (DaL.frL g (DaL.frL F6 dov io) io).append (.one' (.int _))
          · exact (DaL.frL g (DaL.frL F6 dtv it) it).append (.one' (.int _))
    have ks7:=ks6.f0 f7
    have sa7:=sa.frm F7 fun a ha=>nin1 (fun z=>m3 (z ▸ ha)) nin0
    have nk:∀ {a:Addr},a∈[kp,kv,kb,kf,kw]→a∉[le]:=fun h=>nin1 (nK _ h) nin0
    have no:∀ {a:Addr},a∈s.os→a∉[le]:=fun h=>nin1 (fun z=>m3 (z ▸ h)) nin0
    refine g_neU 2 (by decide) (SqL.of (F7.at eK (nk (by simp)))) (SqL.of e7) ?_ ?_
    · refine .cons (EqU.tab (F7.at kv1 (nk (by simp))) (F7.at xv1 (no (by simp [SP.os]))) (r1.fr F7) ?_) (.cons (EqU.lists (F7.at kb1 (nk (by simp))) (F7.at xb1 (no (by simp [SP.os]))) (DaL.frL F7 db ib)) (.cons (EqU.ints (F7.at kf1 (nk (by simp))) (F7.at c4.fr (no (by simp [SP.os])))) (.cons (EqU.lists (F7.at kw1 (nk (by simp))) (F7.at xw1 (no (by simp [SP.os]))) (DaL.frL F7 dw iw)) .nil)))
      have h:=vn
      unfold Nd voD at *
      rw [List.map_map];exact h
    · walk_at "go"
      exact k H7 _ _ ks7 sa7 (by rw [List.length_append];simp) F7
set_option maxHeartbeats 8000000 in
theorem pu_Lseller_keeps (T:Txt K mg A) {x0 x1:V} {H:Hp} {Q:VK} (h:P_Lseller_keeps K A x0 x1 H Q) : t_Lseller_keeps K A { nx:=fun _ H'=>Q .non H',rt:=Q } [some x0,some x1,none,none,none,none,none,none,none,none,none] H:=by
  obtain ⟨d,l,S,rfl,dl,D,so,dS,k⟩:=h
  unfold t_Lseller_keeps
  walk_at "go"
  rename_i p dx H1 n1 nd1 ne1 f1 e1 ed1
  refine c_Seller_init ⟨p,dx,S,0,rfl,e1,Da.frL f1 dS (imm_setup S),rfl,so,fun s H2 hp f2 own2 sa2=>⟨rfl,?_⟩⟩
  have F2:Fr [] H H2:=f1.own1 f2 n1
  have dS2:=Da.frL F2 dS (imm_setup S)
  have D2:=D.fr F2 nin0 nin0
  have own:∀ a∈s.os,H a=none:=fun a ha=>(own2 a ha).elim (fun z=>by rw [z];exact n1) (fun z=>f1.free z)
  walk_at "go"
  rename_i le H3 n3 f3 e3 z H4 z0 z1 f4 D4
  have ks:KB H H3 d l s.os le []:=KB.start (p:=p) (dx:=dx) D dl F2 sa2.2 own n3 f3 e3
  have sa3:=sa2.f0 f3
  have mk:MK S 0 SM.start:=⟨⟨fun _ h=>(nomatch h),List.nodup_nil,fun _ h=>(nomatch h),List.nodup_nil,fun _ h=>(nomatch h),fun _ h=>(nomatch h),fun _ h=>nomatch h⟩,fun c=>Int.le_refl _,rfl,rfl,rfl,rfl,rfl,rfl,rfl,rfl,fun _ h=>(nomatch h)⟩
  have dS3:=Da.frL f3 dS2 (imm_setup S)
  clear own own2 f1 f2 f3 F2 e1 ed1 n1 nd1 ne1 n3 e3 D D2 dS dS2 sa2
  have ks4:=ks.draw f4 D4
  have sa4:=sa3.frm f4 ks.offd
  have dS4:=Da.frL f4 dS3 (imm_setup S)
  clear ks dS3 f4 D4 sa3
  refine f_range (lo:=0) (n:=(z % 13).toNat) (fun i σ H'=>∃ (s:SP) (M:SM) (vs:List V) (v4 v5 v6 v7 v8 v9 v10:Option V),σ=[some (.ref d),some x1,some (.ref p),some (.ref le),v4,v5,v6,v7,v8,v9,v10]∧s.p=p∧KB H H' d l s.os le vs∧SellerAt A H' s S 0 M∧vs.length≤i∧MK S i M∧Da H' x1 (setupD S))
    ⟨s,_,[],none,none,none,none,none,none,none,rfl,hp,ks4,sa4,Nat.le_refl _,mk,dS4⟩ ?_ ?_
  · clear ks4 sa4 dS4 mk hp s H3 H4
    rintro i σ H1 hi ⟨s,M,vs,v4,v5,v6,v7,v8,v9,v10,rfl,hp,ks,sa,hv,mk,dS⟩
    have hi12 : i≤12:=by omega
    walk_at "go"
    refine c_Lparty ⟨d,l,S,rfl,ks.D,so,dS,fun pv ss H2 pok dp f2 D2=>?_⟩
    have ks2:=ks.draw f2 D2
    have sa2:=sa.frm f2 ks.offd
    have dS2:=Da.frL f2 dS (imm_setup S)
    obtain ⟨pa,xs,rfl,ep,_,dx⟩:=dp.tup1
    clear ks sa dS f2 D2 H1
    have pty:=pok.pty
    have n2:=so.n2
    walk_at "go"
    refine f_tup (fun j σ H'=>∃ (s:SP) (v6 v7:Option V),σ=[some (.ref d),some x1,some (.ref p),some (.ref le),some (.int (0 + (i:Int))),some (.ref pa),v6,v7,v8,v9,v10]∧s.p=p∧KB H H' d l s.os le vs∧SellerAt A H' s S 0 { M with fr:=giveF M.fr ((ss.take j).flatMap cellsOf) }∧H' pa=some (.tup xs)∧DaL H' xs (ss.map stayD)∧Da H' x1 (setupD S))
      ⟨s,v6,v7,rfl,hp,ks2,sa2,ep,dx,dS2⟩ (fun j σ H' _ ⟨_,_,_,_,_,_,_,q,_⟩=>SqT.of q) ?_ ?_
    · clear ks2 sa2 ep dx dS2 dp hp
      rintro j xv σ H3 hx ⟨s,v6,v7,rfl,hp,ks,sat,ep,dx,dS⟩
      obtain ⟨dd,hdd,dst⟩:=dx.get hx
      rw [List.getElem?_map] at hdd
      obtain ⟨st,hst,rfl⟩:=Option.map_eq_some_iff.mp hdd
      obtain ⟨ta,rfl,es⟩:=stay_at dst
      have smem : st∈ss:=List.mem_of_getElem? hst
      obtain ⟨c0,c1,c2,c3,c4⟩:=pok.ok st smem
      walk_at "go"
      refine f_range (lo:=st.2.1) (n:=(st.2.2 - st.2.1).toNat) (fun q σ H'=>∃ (s:SP) (v7:Option V),σ=[some (.ref d),some x1,some (.ref p),some (.ref le),some (.int (0 + (i:Int))),some (.ref pa),some (.ref ta),v7,v8,v9,v10]∧s.p=p∧KB H H' d l s.os le vs∧SellerAt A H' s S 0 { M with fr:=giveF M.fr ((ss.take j).flatMap cellsOf++(cellsOf st).take q) }∧H' pa=some (.tup xs)∧H' ta=some (.tup [.int st.1,.int st.2.1,.int st.2.2])∧DaL H' xs (ss.map stayD)∧Da H' x1 (setupD S))
        ⟨s,v7,rfl,hp,ks,by rw [List.take_zero,List.append_nil];exact sat,ep,es,dx,dS⟩ ?_ ?_
      · clear ks sat ep dx dS hp es dst
        rintro q σ H4 hq ⟨s,v7,rfl,hp,ks,sat,ep,es,dx,dS⟩
        subst hp
        obtain ⟨dx0,sv,clv,e,dS1,c⟩:=sat.parts
        walk_at "go"
        rename_i t H5 n5 f5 e5
        have ks5:=ks.f0 f5
        refine c_Seller_handle ⟨s,S,0,_,.give (st.1,st.2.1 + (q:Int)),rfl,sat.f0 f5,.tup e5 (Nat.le_of_ble_eq_true rfl) (.cons (.str _) (.cons (.int _) (.cons (.int _) .nil))),so,⟨mk.ok.vk,mk.ok.vn,mk.ok.ak,mk.ok.an,mk.ok.ac,mk.ok.wk,mk.ok.ck⟩,pty.cell smem hq,?_,fun s' H6 hp6 f6 n6 sa6=>?_⟩
        · obtain ⟨z1,z2,z3,z4,z5⟩:=mk.sz (by omega : i≤100)
          exact (SM.Sz.mono (b:=100) ⟨z1,z2,z3,z4,z5⟩ (by decide))
        have ks6:=ks5.res f6 n6 sa6.2
        have hc:(cellsOf st)[q]? = some (st.1,st.2.1 + (q:Nat)):=by
          unfold cellsOf
          rw [List.getElem?_map,List.getElem?_range hq];rfl
        walk_at "go"
        refine ⟨s',_,rfl,hp6,ks6,?_,f6.tupAt (f5.tupAt ep),f6.tupAt (f5.tupAt es),DaL.frL f6 (DaL.frL f5 dx (imm_stays _)) (imm_stays _),Da.frL f6 (Da.frL f5 dS (imm_setup S)) (imm_setup S)⟩
        rw [take_more hc,← List.append_assoc,giveF_snoc]
        exact sa6
      · clear ks sat ep dx dS hp es dst
        rintro σ H4 ⟨s,v7,rfl,hp,ks,sat,ep,es,dx,dS⟩
        walk_at "go"
        refine ⟨s,_,_,rfl,hp,ks,?_,ep,dx,dS⟩
        rw [← cellsOf_len,List.take_length] at sat
        rw [take_more hst,List.flatMap_append]
        simpa using sat
    clear ks2 sa2 ep dx dS2 dp hp s H2
    rintro σ H2 ⟨s,v6,v7,rfl,hp,ks,sat,ep,dx,dS⟩
    have hl : xs.length=ss.length:=by rw [dx.len,List.length_map]
    rw [hl,List.take_length] at sat
    have mk1:MK S i { M with fr:=giveF M.fr (ss.flatMap cellsOf) }:=mk.setF fun c=>by rw [giveF_party];have:=mk.fr c;have:=nd_pos ss c;omega
    obtain ⟨r,ho,ht,mk2⟩:=mk1.wish pty fun c=>by
      show nd ss c≤giveF M.fr (ss.flatMap cellsOf) c
      rw [giveF_party];have:=mk.fr c;omega
    have sz1:=mk1.sz (by omega : i≤100)
    have ok1:=mk1.ok
    generalize hM1:({ M with fr:=giveF M.fr (ss.flatMap cellsOf) }:SM)=M1 at *
    have hn1:=mk1.n
    clear mk mk1 hM1
    subst hp
    obtain ⟨dx0,sv,clv,e,dS1,c⟩:=sat.parts
    walk_at "go"
    rename_i t H3 n3 f3 e3
    have ks3:=ks.f0 f3
    have dp3:Da H3 (.ref pa) (partyD ss):=Da.frL f3 (.tup ep (by have:=pok.l4;omega) dx) (imm_party ss)
    refine c_Seller_ask ⟨s,S,0,M1,.wish ss,rfl,sat.f0 f3,.tup e3 (Nat.le_of_ble_eq_true rfl) (.cons (.str _) (.one' dp3)),so,ok1,pty,sz1.mono (by decide),⟨by omega,by omega⟩,fun H4 f4 sa4=>?_⟩
    have ks4:=ks3.res f4 (fun a ha=>.inl ha) sa4.2
    have dS4:=Da.frL f4 (Da.frL f3 dS (imm_setup S)) (imm_setup S)
    generalize M1.asked S (.wish ss)=M2 at *
    clear ks ks3 sat e dS1 c dp3 f3 f4 e3 n3 ep dx dS
    obtain ⟨dx0,sv,clv,e,dS1,c⟩:=sa4.parts
    obtain ⟨kvs,ekv,rkv⟩:=id c.vo
    obtain ⟨ib,bvs,ebk,dbk⟩:=id c.bk
    obtain ⟨iw,wvs,ewt,dwt⟩:=id c.wt
    have efr:=c.fr
    walk_at "go"
    refine g_dictK (.inl ekv) fun kv H5 n5 f5 e5=>?_
    walk_at "go"
    rename_i kb H6 n6 f6 e6
    refine g_dictC (cellsAll S) (by walk_at "fact") (st_keys S _) (cells_hp so) fun kf H7 n7 f7 e7=>?_
    walk_at "go"
    rename_i kw H8 n8 f8 e8 kp H9 n9 f9 e9
    have nd:=sa4.nd
    have sa9:=((((sa4.f0 f5).f0 f6).f0 f7).f0 f8).f0 f9
    have q1:=nd.p_out
    have q2:=nd.p_told
    have q3:=nd.out_told
    have q4:=nd.p_vo
    have q5:=nd.p_bk
    have q6:=nd.p_fr
    have q7:=nd.p_wt
    refine c_Seller_bodies ⟨s,S,0,M2,rfl,sa9,fun o H10 n10 f10 sa10 lo10=>?_⟩
    obtain ⟨dx1,sv1,clv1,e10,dS10,c10⟩:=sa10.parts
    obtain ⟨io,ovs,eo,dov⟩:=id lo10
    walk_at "go"
    refine c_Seller_answers ⟨{ s with out:=o },S,0,{ M2 with out:=[] },rfl,sa10,fun o2 H11 n11 f11 sa11 lt11=>?_⟩
    obtain ⟨dx2,sv2,clv2,e11,dS11,c11⟩:=sa11.parts
    obtain ⟨it,tvs,et,dtv⟩:=id lt11
    dsimp only at f11 et e11 dtv
    have hlo : ovs.length≤1000:=by rw [dov.len,List.length_map,ho];simp
    have hlt : tvs.length≤1000:=by rw [dtv.len,List.length_map,ht];simp
    walk_at "go"
    rename_i t1 H12 n12 f12 e12 H13 f13 e13 H14 f14 e14
    dsimp only at e12 f14 e14
    have out9:H9 s.out≠none:=fun z=>by
      obtain ⟨_,_,w,_⟩:=(c.out.fr f5 nin0).fr f6 nin0 |>.fr f7 nin0 |>.fr f8 nin0 |>.fr f9 nin0
      rw [w] at z;cases z
    have told9:H9 s.told≠none:=fun z=>by
      obtain ⟨_,_,w,_⟩:=(c.told.fr f5 nin0).fr f6 nin0 |>.fr f7 nin0 |>.fr f8 nin0 |>.fr f9 nin0
      rw [w] at z;cases z
    have r1 : s.out≠o:=fun z=>out9 (z ▸ n10)
    have r2 : s.told≠o:=fun z=>told9 (z ▸ n10)
    have r3 : s.out≠o2:=fun z=>by rw [← z] at n11;rw [eo] at n11;cases n11
    have r4 : s.told≠o2:=fun z=>by
      obtain ⟨_,_,w,_⟩:=id c10.told
      rw [← z] at n11
      have w2:H10 s.told=_:=w
      rw [w2] at n11;cases n11
    have off:∀ a∈({ s with out:=o,told:=o2 }:SP).os,a≠s.out∧a≠s.told:=fun a ha=>by
      simp only [SP.os,List.mem_cons,List.not_mem_nil,or_false] at ha
      rcases ha with z | z | z | z | z | z | z | z <;> rw [z]
      · exact ⟨nd.p_out,nd.p_told⟩
      · exact ⟨nd.fr_out,nd.fr_told⟩
      · exact ⟨nd.vo_out,nd.vo_told⟩
      · exact ⟨nd.bk_out,nd.bk_told⟩
      · exact ⟨nd.ask_out,nd.ask_told⟩
      · exact ⟨nd.wt_out,nd.wt_told⟩
      · exact ⟨r1.symm,r2.symm⟩
      · exact ⟨r3.symm,r4.symm⟩
    have sa14:=((sa11.f0 f12).frm f13 fun a ha=>nin1 (off a ha).1 nin0).frm f14 fun a ha=>nin1 (off a ha).2 nin0
    dsimp only at sa14
    refine c_Seller_bodies ⟨{ s with out:=o,told:=o2 },S,0,{ M2 with out:=[],told:=[] },rfl,sa14,fun o3 H15 n15 f15 sa15 lo15=>?_⟩
    obtain ⟨dx3,sv3,clv3,e15,dS15,c15⟩:=sa15.parts
    dsimp only at e15 f15
    walk_at "go"
    refine c_Seller_answers ⟨{ s with out:=o3,told:=o2 },S,0,{ M2 with out:=[],told:=[] },rfl,sa15,fun o4 H16 n16 f16 sa16 lt16=>?_⟩
    obtain ⟨_,o1vs,eo1,dov1⟩:=id lo15
    obtain ⟨_,t1vs,et1,dtv1⟩:=id lt16
    dsimp only at f16 eo1 et1 dov1 dtv1
    have g1 : o≠s.p:=(off o (by simp [SP.os])).1 |> fun _=>fun z=>by rw [z] at n10;rw [f9.at0 (f8.at0 (f7.at0 (f6.at0 (f5.at0 e))))] at n10;cases n10
    walk_at "go"
    rename_i t2 H17 n17 f17 e17 la H18 n18 f18 e18 lb H19 n19 f19 e19 t3 H20 n20 f20 e20
    dsimp only at e17
    have eA:H20 t1=some (.lst [.ref s.out,.ref s.told]):=by walk_at "fact"
    have eB:H20 s.out=some (.lst (ovs++[.int 0])):=by walk_at "fact"
    have eC:H20 s.told=some (.lst (tvs++[.int 0])):=by walk_at "fact"
    have mp : s.p∈s.os:=by simp [SP.os]
    have mo : s.out∈s.os:=by simp [SP.os]
    have mt : s.told∈s.os:=by simp [SP.os]
    have hn9:Fr [] H4 H9:=(((f5.then0 f6).then0 f7).then0 f8).then0 f9
    have in1:∀ {a b:Addr},b∈s.os→a∈[b]→a∈s.os∨H4 a=none:=fun hb ha=>.inl (by rw [List.mem_singleton.mp ha];exact hb)
    have F14:Fr s.os H4 H14:=(((((Fr.refl.own hn9 frn0).own f10 fun a=>in1 mp).own f11 fun a=>in1 mp).own f12 frn0).own f13 fun a=>in1 mo).own f14 fun a=>in1 mt
    have F20:Fr s.os H4 H20:=(((((F14.own f15 fun a=>in1 mp).own f16 fun a=>in1 mp).own f17 frn0).own f18 frn0).own f19 frn0).own f20 frn0
    have n4o:H4 o=none:=hn9.free n10
    have sub3:∀ a∈[s.p,s.out,s.told],a∈s.os:=fun a ha=>by
      simp only [List.mem_cons,List.not_mem_nil,or_false] at ha
      rcases ha with z | z | z <;> rw [z] <;> assumption
    have in2:∀ {a b:Addr},b∈[s.p,s.out,s.told]→a∈[b]→a∈[s.p,s.out,s.told]∨H9 a=none:=fun hb ha=>.inl (by rw [List.mem_singleton.mp ha];exact hb)
    have ip : s.p∈[s.p,s.out,s.told]:=by simp
    have iq : s.out∈[s.p,s.out,s.told]:=by simp
    have ir : s.told∈[s.p,s.out,s.told]:=by simp
    have J:Fr [s.p,s.out,s.told] H9 H20:=((((((((((Fr.refl.own f10 fun a=>in2 ip).own f11 fun a=>in2 ip).own f12 frn0).own f13 fun a=>in2 iq).own f14 fun a=>in2 ir).own f15 fun a=>in2 ip).own f16 fun a=>in2 ip).own f17 frn0).own f18 frn0).own f19 frn0).own f20 frn0
    have far:∀ {a:Addr},H4 a=none→a∉[s.p,s.out,s.told]:=fun h z=>sa4.nin h (sub3 _ z)
    have n4b:H4 kb=none:=f5.free n6
    have n4f:H4 kf=none:=(f5.then0 f6).free n7
    have n4w:H4 kw=none:=((f5.then0 f6).then0 f7).free n8
    have n4k:H4 kp=none:=(((f5.then0 f6).then0 f7).then0 f8).free n9
    have eK:H20 kp=some (.lst [.ref kv,.ref kb,.ref kf,.ref kw]):=J.at e9 (far n4k)
    have kv20:H20 kv=some (.dK kvs):=J.at (f9.at0 (f8.at0 (f7.at0 (f6.at0 e5)))) (far n5)
    have kb20:H20 kb=some (.lst bvs):=J.at (f9.at0 (f8.at0 (f7.at0 e6))) (far n4b)
    have kf20:H20 kf=some (.dT (cD (stT S M2.fr))):=J.at (f9.at0 (f8.at0 e7)) (far n4f)
    have kw20:H20 kw=some (.lst wvs):=J.at (f9.at0 e8) (far n4w)
    have xv20:H20 s.vo=some (.dK kvs):=J.at (hn9.at0 ekv) (by simp [nd.p_vo.symm,nd.vo_out,nd.vo_told])
    have xb20:H20 s.bk=some (.lst bvs):=J.at (hn9.at0 ebk) (by simp [nd.p_bk.symm,nd.bk_out,nd.bk_told])
    have xw20:H20 s.wt=some (.lst wvs):=J.at (hn9.at0 ewt) (by simp [nd.p_wt.symm,nd.wt_out,nd.wt_told])
    have r20:DkR H20 kvs (voD M2.vo):=(rkv.fr hn9).fr J
    have db20:DaL H20 bvs (M2.bk.map rowB):=DaL.frL J (DaL.frL hn9 dbk (immL_map imm_rowB _)) (immL_map imm_rowB _)
    have dw20:DaL H20 wvs (M2.wt.map wtD):=DaL.frL J (DaL.frL hn9 dwt (immL_map imm_wt _)) (immL_map imm_wt _)
    have hT:Fr [] H16 H20:=((f17.then0 f18).then0 f19).then0 f20
    have sa20:SellerAt A H20 { s with out:=o3,told:=o4 } S 0 { M2 with out:=[],told:=[] }:=sa16.f0 hT
    have alive14:∀ a∈s.os,∃ u,H14 a=some u:=fun a ha=>by
      simp only [SP.os,List.mem_cons,List.not_mem_nil,or_false] at ha
      rcases ha with z | z | z | z | z | z | z | z <;> rw [z]
      · exact sa14.2.2 _ (by simp [SP.os])
      · exact sa14.2.2 _ (by simp [SP.os])
      · exact sa14.2.2 _ (by simp [SP.os])
      · exact sa14.2.2 _ (by simp [SP.os])
      · exact sa14.2.2 _ (by simp [SP.os])
      · exact sa14.2.2 _ (by simp [SP.os])
      · exact ⟨_,f14.at e13 (nin1 q3 nin0)⟩
      · exact ⟨_,e14⟩
    have alive15:∀ a∈s.os,∃ u,H15 a=some u:=fun a ha=>by
      by_cases z : a=s.p
      · rw [z];exact ⟨_,e15⟩
      · obtain ⟨u,w⟩:=alive14 a ha;exact ⟨u,f15.at w (nin1 z nin0)⟩
    have n4o3:H4 o3=none:=F14.freeL n15 fun w=>by obtain ⟨u,w2⟩:=alive14 _ w;rw [n15] at w2;cases w2
    have n4o4:H4 o4=none:=(F14.own f15 fun a=>in1 mp).freeL n16 fun w=>by obtain ⟨u,w2⟩:=alive15 _ w;rw [n16] at w2;cases w2
    have own20:∀ a∈({ s with out:=o3,told:=o4 }:SP).os,a∈s.os∨H4 a=none:=fun a ha=>by
      simp only [SP.os,List.mem_cons,List.not_mem_nil,or_false] at ha ⊢
      rcases ha with z | z | z | z | z | z | z | z <;> rw [z]
      all_goals first
        | exact .inl (by simp)
        | exact .inr n4o3
        | exact .inr n4o4
    have ks20:=ks4.res F20 own20 sa20.2
    have dS20:=Da.frL F20 dS4 (imm_setup S)
    have dov20:DaL H20 ovs (M2.out.map upD):=DaL.frL (((((((((f11.trans f12).trans f13).trans f14).trans f15).trans f16).trans f17).trans f18).trans f19).trans f20) dov (immL_map imm_up _)
    have dtv20:DaL H20 tvs (M2.told.map tellD):=DaL.frL ((((((((f12.trans f13).trans f14).trans f15).trans f16).trans f17).trans f18).trans f19).trans f20) dtv (immL_map imm_tell _)
    have hb : o1vs=[]:=by cases dov1;rfl
    have hc : t1vs=[]:=by cases dtv1;rfl
    have x1o:H20 o=some (.lst []):=by rw [hb] at eo1;exact hT.at0 (f16.at eo1 (nin1 g1 nin0))
    have x1t:H20 o2=some (.lst []):=by rw [hc] at et1;exact hT.at0 et1
    have y1:H20 t2=some (.lst [.ref o,.ref o2]):=f20.at0 (f19.at0 (f18.at0 e17))
    have y2:H20 la=some (.lst []):=f20.at0 (f19.at0 e18)
    have y3:H20 lb=some (.lst []):=f20.at0 e19
    have e20s:=sa20.parts
    have no3:∀ a∈({ s with out:=o3,told:=o4 }:SP).os,a≠s.out∧a≠s.told:=fun a ha=>by
      have k1 : s.out≠o3:=fun z=>by obtain ⟨u,w⟩:=alive14 _ mo;rw [z,n15] at w;cases w
      have k2 : s.told≠o3:=fun z=>by obtain ⟨u,w⟩:=alive14 _ mt;rw [z,n15] at w;cases w
      have k3 : s.out≠o4:=fun z=>by obtain ⟨u,w⟩:=alive15 _ mo;rw [z,n16] at w;cases w
      have k4 : s.told≠o4:=fun z=>by obtain ⟨u,w⟩:=alive15 _ mt;rw [z,n16] at w;cases w
      simp only [SP.os,List.mem_cons,List.not_mem_nil,or_false] at ha
      rcases ha with z | z | z | z | z | z | z | z <;> rw [z]
      · exact ⟨nd.p_out,nd.p_told⟩
      · exact ⟨nd.fr_out,nd.fr_told⟩
      · exact ⟨nd.vo_out,nd.vo_told⟩
      · exact ⟨nd.bk_out,nd.bk_told⟩
      · exact ⟨nd.ask_out,nd.ask_told⟩
      · exact ⟨nd.wt_out,nd.wt_told⟩
      · exact ⟨k1.symm,k2.symm⟩
      · exact ⟨k3.symm,k4.symm⟩
    have et14:H14 t1=some (.lst [.ref s.out,.ref s.told]):=f14.at (f13.at e12 (nin1 (fun z=>by rw [z] at n12;rw [f11.at eo (nin1 q1.symm nin0)] at n12;cases n12) nin0)) (nin1 (fun z=>by rw [z] at n12;rw [et] at n12;cases n12) nin0)
    have ntp : t1≠s.p:=fun z=>by rw [z,e11] at n12;cases n12
    have nto:∀ a∈s.os,a≠t1:=fun a ha z=>by
      have h:∃ u,H11 a=some u:=by
        simp only [SP.os,List.mem_cons,List.not_mem_nil,or_false] at ha
        rcases ha with y | y | y | y | y | y | y | y <;> rw [y]
        · exact sa11.2.2 _ (by simp [SP.os])
        · exact sa11.2.2 _ (by simp [SP.os])
        · exact sa11.2.2 _ (by simp [SP.os])
        · exact sa11.2.2 _ (by simp [SP.os])
        · exact sa11.2.2 _ (by simp [SP.os])
        · exact sa11.2.2 _ (by simp [SP.os])
        · exact ⟨_,f11.at eo (nin1 q1.symm nin0)⟩
        · exact ⟨_,et⟩
      obtain ⟨u,w⟩:=h
      rw [z,n12] at w;cases w
    have nt3:∀ a∈({ s with out:=o3,told:=o4 }:SP).os,a≠t1:=fun a ha=>by
      simp only [SP.os,List.mem_cons,List.not_mem_nil,or_false] at ha
      have k1 : o3≠t1:=fun z=>by rw [z,et14] at n15;cases n15
      have k2 : o4≠t1:=fun z=>by rw [z,f15.at et14 (nin1 ntp nin0)] at n16;cases n16
      rcases ha with z | z | z | z | z | z | z | z <;> rw [z]
      all_goals first
        | exact k1
        | exact k2
        | exact nto _ (by simp [SP.os])
    have z1:H4 t1=none:=((hn9.of0 (m:=[s.p])).transL f10 |>.transL f11).freeL n12 fun w=>by rw [List.mem_singleton.mp w,e11] at n12;cases n12
    have al4:=fun a (ha : a∈[le,d,l])=>ks4.al.2 a (List.mem_append_right _ ha)
    have ne4:∀ a∈[le,d,l],H4 a≠none:=fun a ha z=>by obtain ⟨u,w⟩:=al4 a ha;rw [z] at w;cases w
    have vn2:=mk2.ok.vn
    clear alive14 alive15 own20 in1 in2 J F14 hT n4o n4o3 n4o4 dov1 dtv1 e12 e13 e14 e15 e18 e19 e10 e11 e5 e6 e7 e8 e9 f5 f6 f7 f8 f9 f10 f11 f12 f13 f14 f15 f16 f17 f18 f19 n6 n7 n8 n9 n10 n11 n12 n15 n16 n17 n18 n19 n20 sa9 sa10 sa11 sa14 sa15 sa16 c c10 c11 c15 eo et eo1 et1 lo10 lt11 lo15 lt16 dS10 dS11 dS15 rkv dbk dwt ekv ebk ewt efr hn9 e dS1 sub3
    refine c_Lequal ⟨.list [.list [],.list []],.lst y1 (Nat.le_of_ble_eq_true rfl) (.cons (.lst x1o (Nat.zero_le _) .nil) (.one' (.lst x1t (Nat.zero_le _) .nil))),.lst e20 (Nat.le_of_ble_eq_true rfl) (.cons (.lst y2 (Nat.zero_le _) .nil) (.one' (.lst y3 (Nat.zero_le _) .nil))),by simp [dp,dpL],?_⟩
    refine g_bl (g_iteNT (g_next ?_))
    have q9:∀ a∈[le,d],t1≠a∧s.out≠a∧s.told≠a:=fun a ha=>by
      have h1 : a∈[le,d,l]:=by
        simp only [List.mem_cons,List.not_mem_nil,or_false] at ha ⊢
        rcases ha with q | q
        · exact .inl q
        · exact .inr (.inl q)
      exact ⟨fun z=>ne4 a h1 (z ▸ z1),fun z=>ks4.al.apart h1 (z ▸ mo),fun z=>ks4.al.apart h1 (z ▸ mt)⟩
    have q10:∀ a∈[kp,kv,kb,kf,kw],a≠le:=fun a ha z=>by
      have:H4 a=none:=by
        simp only [List.mem_cons,List.not_mem_nil,or_false] at ha
        rcases ha with q | q | q | q | q <;> rw [q] <;> assumption
      exact ne4 le (by simp) (z ▸ this)
    refine sk_tail (s:={ s with out:=o3,told:=o4 }) T rfl ks20 (by omega) sa20 eA eB eC (fun z=>nt3 _ z rfl) (fun z=>(no3 _ z).1 rfl) (fun z=>(no3 _ z).2 rfl) q9 dov20 dtv20 (immL_map imm_up _) (immL_map imm_tell _) hlo hlt (dpL_map dp_up _) (dpL_map dp_tell _) eK q10 kv20 kb20 kf20 kw20 xv20 xb20 xw20 r20 vn2 db20 dw20 (immL_map imm_rowB _) (immL_map imm_wt _) (fun H' w10 vs' ks' sa' hv' f'=>?_)
    exact ⟨{ s with out:=o3,told:=o4 },{ M2 with out:=[],told:=[] },vs',_,_,_,_,_,_,_,rfl,rfl,ks',sa',by omega,mk2,Da.frL f' dS20 (imm_setup S)⟩
  · clear ks4 sa4 dS4 mk hp s H3 H4
    rintro σ H1 ⟨s,M,vs,v4,v5,v6,v7,v8,v9,v10,rfl,hp,ks,sa,hv,mk,dS⟩
    obtain ⟨dx,sv,clv,e,dS1,c⟩:=sa.parts
    subst hp
    obtain ⟨kvs,ekv,rkv⟩:=id c.vo
    obtain ⟨ib,bvs,ebk,dbk⟩:=id c.bk
    walk_at "go"
    refine g_lenDK (by walk_at "fact") ?_
    walk_at "go"
    have hl : bvs.length=kvs.length:=by
      rw [dbk.len,List.length_map,rkv.len,mk.bk]
      unfold voD
      rw [List.length_map,mk.vo]
    rw [hl,decide_eq_true rfl]
    exact k H1 ks.f ks.D
theorem ok_Lseller_keeps {f:Addr} {fd:FuncData} (F:Fun K "_law_seller_keeps" "_law_seller_keeps" s_Lseller_keeps f fd) (T:Txt K mg A) (c_Seller_init:CalC P w K mg base "Seller" A.Seller 1 ["self","setup","number"] (sp_Seller_init K A)) (c_Lparty:Cal P w K mg base "_law_party" 4 ["_law_draws","_law_setup_here"] (sp_Lparty K A)) (c_Seller_ask:CalM P w K mg base A.Seller "ask" 7 ["self","deed"] (sp_Seller_ask K A)) (c_Ldraw:Cal P w K mg base "_law_draw" 2 ["_law_draws"] (sp_Ldraw K A)) (c_Seller_bodies:CalM P w K mg base A.Seller "bodies" 1 ["self"] (sp_Seller_bodies K A)) (c_Seller_answers:CalM P w K mg base A.Seller "answers" 1 ["self"] (sp_Seller_answers K A)) (c_Lequal:Cal P w K mg base "_law_equal" 25 ["_law_actual","_law_due"] (sp_Lequal K A 12)) (c_Seller_handle:CalM P w K mg base A.Seller "handle" 8 ["self","body"] (sp_Seller_handle K A)) : FnOk P w K mg base CX0 (26) f fd ["_law_draws","_law_setup_here"] (sp_Lseller_keeps K A):=by
  refine F.ok sc_Lseller_keeps (fun vs H Q E h=>?_) (fun cdv Ar outer s H vs Q E hr h=>⟨t_Lseller_keeps K A,?_,?_⟩)
  · obtain ⟨x0,x1,rfl,_⟩:=h
    rfl
  · have hu:=hu_of hr
    exact (pss_cons (ps_set (i:=2) sc_Lseller_keeps.nd rfl (Or.inl rfl) (pe_mk c_Seller_init (hr.mono (by first | decide | omega)) (by rfl) (pa_cons (pv 1) (pa_cons pe_int pa_nil))))
    (pss_cons (ps_set (i:=3) sc_Lseller_keeps.nd rfl (Or.inl rfl) (pe_lst pa_nil))
    (pss_cons (ps_for PassesOwn.never rfl (pi_range1 rfl T.b_range (pa_cons (pe_op o_mod (pe_cl c_Ldraw (hr.mono (by first | decide | omega)) (by rfl) (pa_cons (pv 0) pa_nil)) pe_int) pa_nil)) (pg_name (i:=4) sc_Lseller_keeps.nd rfl (Or.inl rfl)) (pss_cons (ps_set (i:=5) sc_Lseller_keeps.nd rfl (Or.inl rfl) (pe_cl c_Lparty (hr.mono (by first | decide | omega)) (by rfl) (pa_cons (pv 0) (pa_cons (pv 1) pa_nil))))
    (pss_cons (ps_for PassesOwn.never rfl (pi_tup (pv 5)) (pg_name (i:=6) sc_Lseller_keeps.nd rfl (Or.inl rfl)) (pss_one (ps_for PassesOwn.never rfl (pi_range2 rfl T.b_range (pa_cons (pe_ix ix_tup (pv 6) pe_int (fun _ _=>rfl)) (pa_cons (pe_ix ix_tup (pv 6) pe_int (fun _ _=>rfl)) pa_nil))) (pg_name (i:=7) sc_Lseller_keeps.nd rfl (Or.inl rfl)) (pss_one (ps_expr (pe_mt (pv 2) T.cl_Seller c_Seller_handle (hr.mono (by first | decide | omega)) (pa_cons (pe_tup (pa_cons pe_str (pa_cons (pe_ix ix_tup (pv 6) pe_int (fun _ _=>rfl)) (pa_cons (pv 7) pa_nil)))) pa_nil)))))))
    (pss_cons (ps_expr (pe_mt (pv 2) T.cl_Seller c_Seller_ask (hr.mono (by first | decide | omega)) (pa_cons (pe_tup (pa_cons pe_str (pa_cons (pv 5) pa_nil))) pa_nil)))
    (pss_cons (ps_set (i:=8) sc_Lseller_keeps.nd rfl (Or.inl rfl) (pe_lst (pa_cons (pe_callTy b_dictK (by rfl) T.b_dict (by decide +kernel) (pa_cons (pe_fld (pv 2) rfl) pa_nil)) (pa_cons (pe_callTy b_list (by rfl) T.b_list (by decide +kernel) (pa_cons (pe_fld (pv 2) rfl) pa_nil)) (pa_cons (pe_callTy (b_dictC (un8 hr.units)) (by rfl) T.b_dict (by decide +kernel) (pa_cons (pe_fld (pv 2) rfl) pa_nil)) (pa_cons (pe_callTy b_list (by rfl) T.b_list (by decide +kernel) (pa_cons (pe_fld (pv 2) rfl) pa_nil)) pa_nil))))))
    (pss_cons (ps_set (i:=9) sc_Lseller_keeps.nd rfl (Or.inl rfl) (pe_lst (pa_cons (pe_mt0 (pv 2) T.cl_Seller c_Seller_bodies (hr.mono (by first | decide | omega))) (pa_cons (pe_mt0 (pv 2) T.cl_Seller c_Seller_answers (hr.mono (by first | decide | omega))) pa_nil))))
    (pss_cons (ps_if (PW.pt (pw_or (pt_not (pt_val (pe_callB call_isi (by rfl) T.b_isinstance (by decide +kernel) (pa_cons (pe_ix ix_list (pv 9) pe_int (fun _ _=>rfl)) (pa_cons (pe_bltn (by rfl) T.b_list (by decide +kernel) (v:=.ty "list") rfl) pa_nil))))) (pw_or1 (pt_not (pt_val (pe_callB call_isi (by rfl) T.b_isinstance (by decide +kernel) (pa_cons (pe_ix ix_list (pv 9) pe_int (fun _ _=>rfl)) (pa_cons (pe_bltn (by rfl) T.b_list (by decide +kernel) (v:=.ty "list") rfl) pa_nil)))))))) (pss_one (ps_ret pe_bl)) pss_nil)
    (pss_cons (ps_expr (pe_bm PySem.F.plainAttrs_list PySem.F.slot_list_append PySem.F.type_list_append mt_append (pe_ix ix_list (pv 9) pe_int (fun _ _=>rfl)) (pa_cons pe_int pa_nil)))
    (pss_cons (ps_expr (pe_bm PySem.F.plainAttrs_list PySem.F.slot_list_append PySem.F.type_list_append mt_append (pe_ix ix_list (pv 9) pe_int (fun _ _=>rfl)) (pa_cons pe_int pa_nil)))
    (pss_cons (ps_if (pt_not (pt_val (pe_cl c_Lequal (hr.mono (by first | decide | omega)) (by rfl) (pa_cons (pe_lst (pa_cons (pe_mt0 (pv 2) T.cl_Seller c_Seller_bodies (hr.mono (by first | decide | omega))) (pa_cons (pe_mt0 (pv 2) T.cl_Seller c_Seller_answers (hr.mono (by first | decide | omega))) pa_nil))) (pa_cons (pe_lst (pa_cons (pe_lst pa_nil) (pa_cons (pe_lst pa_nil) pa_nil))) pa_nil))))) (pss_one (ps_ret pe_bl)) pss_nil)
    (pss_cons (ps_for PassesOwn.never rfl (pi_list (pv 3)) (pg_name (i:=10) sc_Lseller_keeps.nd rfl (Or.inl rfl)) (pss_one (ps_if (pt_not (pt_val (pe_cl c_Lequal (hr.mono (by first | decide | omega)) (by rfl) (pa_cons (pe_ix ix_list (pv 10) pe_int (fun _ _=>rfl)) (pa_cons (pe_ix ix_list (pv 10) pe_int (fun _ _=>rfl)) pa_nil))))) (pss_one (ps_ret pe_bl)) pss_nil)))
    (pss_cons (ps_expr (pe_bm PySem.F.plainAttrs_list PySem.F.slot_list_append PySem.F.type_list_append mt_append (pv 3) (pa_cons (pe_lst (pa_cons (pv 9) (pa_cons (pe_lst (pa_cons (pe_callTy b_list (by rfl) T.b_list (by decide +kernel) (pa_cons (pe_ix ix_list (pv 9) pe_int (fun _ _=>rfl)) pa_nil)) (pa_cons (pe_callTy b_list (by rfl) T.b_list (by decide +kernel) (pa_cons (pe_ix ix_list (pv 9) pe_int (fun _ _=>rfl)) pa_nil)) pa_nil))) pa_nil))) pa_nil)))
    (pss_one (ps_if (pt_cmpR (op_neU hr.units) (pv 8) (pe_lst (pa_cons (pe_fld (pv 2) rfl) (pa_cons (pe_fld (pv 2) rfl) (pa_cons (pe_fld (pv 2) rfl) (pa_cons (pe_fld (pv 2) rfl) pa_nil))))) (nomark _)) (pss_one (ps_ret pe_bl)) pss_nil))))))))))))))
    (pss_one (ps_ret (pe_cmpR op_eq (pe_callB b_len (by rfl) T.b_len (by decide +kernel) (pa_cons (pe_fld (pv 2) rfl) pa_nil)) (pe_callB b_lenD (by rfl) T.b_len (by decide +kernel) (pa_cons (pe_fld (pv 2) rfl) pa_nil)) (nomark _)))))))
  · obtain ⟨x0,x1,rfl,h⟩:=h
    exact pu_Lseller_keeps T h
def Twn (H:Hp) (c b:Addr) : Prop:=∃ xs ds,H c=some (.lst xs)∧H b=some (.lst xs)∧DaL H xs ds∧immL ds=true
theorem Twn.fr {l:List Addr} {H H':Hp} {c b:Addr} (h:Twn H c b) (f:Fr l H H') (n1 : c∉l) (n2 : b∉l) : Twn H' c b:=by
  obtain ⟨xs,ds,e1,e2,d,i⟩:=h
  exact ⟨xs,ds,f.at e1 n1,f.at e2 n2,DaL.frL f d i,i⟩
theorem Twn.frs {l:List Addr} {H H':Hp} {cs bs:List Addr} (h:Paired (Twn H) cs bs) (f:Fr l H H') (n1:∀ c∈cs,c∉l) (n2:∀ b∈bs,b∉l) : Paired (Twn H') cs bs:=by
  induction h with
  | nil=>exact .nil
  | cons r t ih=>exact .cons (r.fr f (n1 _ List.mem_cons_self) (n2 _ List.mem_cons_self)) (ih (fun c hc=>n1 c (List.mem_cons_of_mem _ hc)) fun b hb=>n2 b (List.mem_cons_of_mem _ hb))
theorem Twn.eq {K:PySem.W.Frag} {H:Hp} {n:Nat} {cs bs:List Addr} (h:Paired (Twn H) cs bs) : Paired (EqU K H (n + 2)) (cs.map V.ref) (bs.map V.ref):=by
  induction h with
  | nil=>exact .nil
  | cons r t ih=>
    obtain ⟨xs,ds,e1,e2,d,_⟩:=r
    exact .cons (EqU.lists e1 e2 d) ih
structure HK (S:Setup) (i:Nat) (M:HM) : Prop where
  ok:M.Ok S
  out:M.out=[]
  qu:M.qu.length≤i
  bk:∀ r∈M.bk,r.length≤i
  z : i=0→M=HM.start S
theorem HK.step {S:Setup} {i:Nat} {M:HM} (m:HK S i M) (so:SetupOk S) {s k:Int} {lk:Lack} {r:Row} (h0 : 0≤s) (h1 : s < S.sellers) (hl:LackOk S lk) :
    (HM.handle S.sellers.toNat s (.ask k lk) M).Ok S∧(HM.handle S.sellers.toNat s (.ask k lk) M).out.length≤10∧(HM.handle S.sellers.toNat s (.ask k lk) M).qu.length≤i + 1∧(∀ r∈(HM.handle S.sellers.toNat s (.ask k lk) M).bk,r.length≤i)∧
    HK S (i + 1) { HM.handle S.sellers.toNat s (.entry r) (HM.handle S.sellers.toNat s (.ask k lk) M) with out:=[] }∧
    (i=0→(HM.handle S.sellers.toNat s (.entry r) (HM.handle S.sellers.toNat s (.ask k lk) M)).out.length=S.sellers.toNat):=by
  have o1:=handle_ok (n:=S.sellers.toNat) (s:=s) (b:=.ask k lk) m.ok ⟨h0,h1⟩ hl
  have hs4:=so.s2
  have ho:(HM.handle S.sellers.toNat s (.ask k lk) M).out.length≤10∧(i=0→(HM.handle S.sellers.toNat s (.ask k lk) M).out.length=S.sellers.toNat):=by
    show (HM.look S.sellers.toNat { M with qu:=M.qu++[(s,k,lk)] }).out.length≤10∧(i=0→(HM.look S.sellers.toNat { M with qu:=M.qu++[(s,k,lk)] }).out.length=_)
    unfold HM.look
    constructor
    · split
      · show (M.out++_).length≤10
        rw [m.out,List.nil_append]
        unfold closeL
        rw [List.length_map,List.length_range];omega
      · rw [m.out];simp
    · intro z
      rw [m.z z]
      show (([] : List (Int×DnB))++closeL S.sellers.toNat (s,k,lk)).length=_
      unfold closeL
      rw [List.nil_append,List.length_map,List.length_range]
  have hq:(HM.handle S.sellers.toNat s (.ask k lk) M).qu.length≤i + 1:=by
    show (HM.look S.sellers.toNat { M with qu:=M.qu++[(s,k,lk)] }).qu.length≤_
    have hm:=m.qu
    unfold HM.look
    split
    · rename_i a q _ h2
      have h2:M.qu++[(s,k,lk)]=a::q:=h2
      have:=congrArg List.length h2
      rw [List.length_append,List.length_cons,List.length_cons,List.length_nil] at this
      show q.length≤_
      omega
    · show (M.qu++_).length≤_
      rw [List.length_append];simp;exact hm
  have hb:(HM.handle S.sellers.toNat s (.ask k lk) M).bk=M.bk:=by
    show (HM.look S.sellers.toNat { M with qu:=M.qu++[(s,k,lk)] }).bk=_
    unfold HM.look
    split <;> rfl
  have o2:=handle_ok (n:=S.sellers.toNat) (s:=s) (b:=.entry r) o1 ⟨h0,h1⟩ trivial
  refine ⟨o1,ho.1,hq,fun x hx=>m.bk x (by rw [← hb];exact hx),⟨⟨o2.qk,o2.rk,o2.cl,o2.ck,o2.cn,o2.bl⟩,rfl,hq,fun x hx=>?_,fun z=>absurd z (Nat.succ_ne_zero _)⟩,ho.2⟩
  have hx : x∈(HM.handle S.sellers.toNat s (.ask k lk) M).bk.set s.toNat ((HM.handle S.sellers.toNat s (.ask k lk) M).bk.getD s.toNat []++[r]):=hx
  rw [hb] at hx
  rcases List.mem_or_eq_of_mem_set hx with q | q
  · exact Nat.le_succ_of_le (m.bk x q)
  · rw [q,List.length_append]
    have hlt : s.toNat < M.bk.length:=by rw [m.ok.bl];omega
    have:=m.bk _ (List.getElem_mem hlt)
    rw [List.getD_eq_getElem?_getD,List.getElem?_eq_getElem hlt]
    show M.bk[s.toNat].length + 1≤i + 1
    omega
def P_Lhouse_keeps (K:PySem.W.Frag) (A:Ad) (x0 x1:V) (H:Hp) (Q:VK) : Prop:=∃ (d l:Addr) (S:Setup),x0=.ref d∧d≠l∧Draws H d l∧SetupOk S∧Da H x1 (setupD S)∧
  ∀ H',Fr [d] H H'→Draws H' d l→Q (.bl true) H'
def sp_Lhouse_keeps (K:PySem.W.Frag) (A:Ad) : Sp:=fun vs H Q _=>∃ x0 x1,vs=[x0,x1]∧P_Lhouse_keeps K A x0 x1 H Q
theorem c_Lhouse_keeps {K:PySem.W.Frag} {A:Ad} {x0 x1:V} {H:Hp} {Q:VK} {E:XK} (h:P_Lhouse_keeps K A x0 x1 H Q) : sp_Lhouse_keeps K A [x0,x1] H Q E:=⟨_,_,rfl,h⟩
theorem sc_Lhouse_keeps:FnScope ["_law_draws","_law_setup_here","_law_house","_law_elder","_law_k","_law_s","_law_needs_here","_law_kept","_law_told","_law_pair","_law_cell","_law_book"] ["_law_draws","_law_setup_here"] (defScope s_Lhouse_keeps):=⟨rfl,rfl,rfl,by decide +kernel,rfl,by decide +kernel,by decide +kernel⟩
abbrev t0_Lhouse_keeps (K:PySem.W.Frag) (A:Ad) : TS:=(tIfS (tNot (tB (tCl (sp_Lequal K A 12) (tCons (tOp (rIxL K) (tVar 9) (tC (.int 0))) (tCons (tOp (rIxL K) (tVar 9) (tC (.int 1))) tNil))))) (tRet (tC (.bl false))) tNext)
abbrev t1_Lhouse_keeps (K:PySem.W.Frag) (A:Ad) : TS:=(tIfS (tOr (tNot (tB (tCl (sp_Lequal K A 12) (tCons (tMt A.House "bodies" (sp_House_bodies K A) (tVar 2) tNil) (tCons (tLst tNil) tNil))))) (tTest (tOp (rNeU K) (tVar 7) (tLst (tCons (tFld K (tVar 2) "stock") (tCons (tFld K (tVar 2) "books") (tCons (tFld K (tVar 2) "queue") (tCons (tFld K (tVar 2) "round") tNil)))))))) (tRet (tC (.bl false))) tNext)
abbrev t2_Lhouse_keeps (K:PySem.W.Frag) (A:Ad) : TS:=(tDrop (tBM K "list" rAppend (tVar 3) (tCons (tLst (tCons (tVar 8) (tCons (tCB (rListOf K) (tCons (tVar 8) tNil)) tNil))) tNil)))
abbrev t3_Lhouse_keeps (K:PySem.W.Frag) (A:Ad) : TS:=(tSeq (tFor (iList K (tVar 3)) (gName 9) (t0_Lhouse_keeps K A))
    (t1_Lhouse_keeps K A))
abbrev t4_Lhouse_keeps (K:PySem.W.Frag) (A:Ad) : TS:=(tDrop (tBM K "list" rAppend (tVar 8) (tCons (tC (.int 0)) tNil)))
abbrev t5_Lhouse_keeps (K:PySem.W.Frag) (A:Ad) : TS:=(tIfS (tAnd (tTest (tOp rEq (tVar 4) (tC (.int 0)))) (tTest (tOp rNe (tCB (rLenSq K) (tCons (tVar 8) tNil)) (tOp (rIxT K) (tVar 1) (tC (.int 2)))))) (tRet (tC (.bl false))) tNext)
abbrev t6_Lhouse_keeps (K:PySem.W.Frag) (A:Ad) : TS:=(tSeq (t4_Lhouse_keeps K A)
    (tSeq (t2_Lhouse_keeps K A)
    (t3_Lhouse_keeps K A)))
abbrev t7_Lhouse_keeps (K:PySem.W.Frag) (A:Ad) : TS:=(tAsg (tMt A.House "bodies" (sp_House_bodies K A) (tVar 2) tNil) (gName 8))
abbrev t8_Lhouse_keeps (K:PySem.W.Frag) (A:Ad) : TS:=(tAsg (tLst (tCons (tCB rDictC (tCons (tFld K (tVar 2) "stock") tNil)) (tCons (tLc (iList K (tFld K (tVar 2) "books")) (gName 11) tYes (tCB (rListOf K) (tCons (tVar 11) tNil)) [11]) (tCons (tCB (rListOf K) (tCons (tFld K (tVar 2) "queue") tNil)) (tCons (tFld K (tVar 2) "round") tNil))))) (gName 7))
abbrev t9_Lhouse_keeps (K:PySem.W.Frag) (A:Ad) : TS:=(tSeq (t7_Lhouse_keeps K A)
    (tSeq (t5_Lhouse_keeps K A)
    (t6_Lhouse_keeps K A)))
abbrev t10_Lhouse_keeps (K:PySem.W.Frag) (A:Ad) : TS:=(tDrop (tMt A.House "handle" (sp_House_handle K A) (tVar 2) (tCons (tVar 5) (tCons (tTup (tCons (tC (.str "entry")) (tCons (tTup (tCons (tC (.str "cancelled")) (tCons (tVar 4) (tCons (tC (.int 1)) (tCons (tC (.int 0)) tNil))))) tNil))) tNil))))
abbrev t11_Lhouse_keeps (K:PySem.W.Frag) (A:Ad) : TS:=(tDrop (tMt A.House "handle" (sp_House_handle K A) (tVar 2) (tCons (tVar 5) (tCons (tTup (tCons (tC (.str "ask")) (tCons (tVar 4) (tCons (tCB (rTupOf K) (tCons (tLc (iList K (tCB rSortedDT (tCons (tVar 6) tNil))) (gName 10) tYes (tTup (tCons (tVar 10) (tCons (tDGet (tVar 6) (tVar 10)) tNil))) [10]) tNil)) tNil)))) tNil))))
abbrev t12_Lhouse_keeps (K:PySem.W.Frag) (A:Ad) : TS:=(tSeq (t10_Lhouse_keeps K A)
    (tSeq (t8_Lhouse_keeps K A)
    (t9_Lhouse_keeps K A)))
abbrev t13_Lhouse_keeps (K:PySem.W.Frag) (A:Ad) : TS:=(tAsg (tCl (sp_Lneeds K A) (tCons (tCl (sp_Lparty K A) (tCons (tVar 0) (tCons (tVar 1) tNil))) tNil)) (gName 6))
abbrev t14_Lhouse_keeps (K:PySem.W.Frag) (A:Ad) : TS:=(tAsg (tOp oMod (tCl (sp_Ldraw K A) (tCons (tVar 0) tNil)) (tOp (rIxT K) (tVar 1) (tC (.int 2)))) (gName 5))
abbrev t15_Lhouse_keeps (K:PySem.W.Frag) (A:Ad) : TS:=(tSeq (t13_Lhouse_keeps K A)
    (tSeq (t11_Lhouse_keeps K A)
    (t12_Lhouse_keeps K A)))
abbrev t16_Lhouse_keeps (K:PySem.W.Frag) (A:Ad) : TS:=(tFor (iRng1 (tCons (tOp oMod (tCl (sp_Ldraw K A) (tCons (tVar 0) tNil)) (tC (.int 8))) tNil)) (gName 4) (tSeq (t14_Lhouse_keeps K A)
    (t15_Lhouse_keeps K A)))
abbrev t17_Lhouse_keeps (K:PySem.W.Frag) (A:Ad) : TS:=(tAsg (tMk A.House (sp_House_init K A) (tCons (tVar 1) tNil)) (gName 2))
abbrev t18_Lhouse_keeps (K:PySem.W.Frag) (A:Ad) : TS:=(tSeq (tAsg (tLst tNil) (gName 3))
    (tSeq (t16_Lhouse_keeps K A)
    (tRet (tC (.bl true)))))
def t_Lhouse_keeps (K:PySem.W.Frag) (A:Ad) : TS:=
  (tSeq (t17_Lhouse_keeps K A)
    (t18_Lhouse_keeps K A))
theorem EqU.data {K:PySem.W.Frag} {H:Hp} {v u:V} {d:PyData} {n:Nat} (h1:Da H v d) (h2:Da H u d) (h3 : d.canLay0=true) (h4 : d.depth≤n) : EqU K H (n + 1) v u:=.inr (.inr (.inr ⟨d,Da.dp _ _ h1,Da.dp _ _ h2,h3,h4⟩))
theorem lay_lack:∀ l:Lack,PyData.canLayAll0 (l.map fun e=>.tuple [cellD e.1,.int e.2])=true∧PyData.depthAll (l.map fun e=>.tuple [cellD e.1,.int e.2])≤3
  | []=>⟨rfl,by simp [PyData.depthAll]⟩
  | e::l=>by
    obtain ⟨h1,h2⟩:=lay_lack l
    refine ⟨by simp [PyData.canLayAll0,PyData.canLay0,cellD] at h1 ⊢;exact h1,?_⟩
    simp [PyData.depthAll,PyData.depth,cellD] at h2 ⊢
    omega
theorem lay_round (r:Option Ask) : (roundD r).canLay0=true∧(roundD r).depth≤8:=by
  cases r with
  | none=>exact ⟨rfl,by simp [roundD,PyData.depth]⟩
  | some a=>
    obtain ⟨h1,h2⟩:=lay_lack a.2.2
    refine ⟨by simp [roundD,askD,lackD,PyData.canLay0,PyData.canLayAll0] at h1 ⊢;exact h1,?_⟩
    simp [roundD,askD,lackD,PyData.depth,PyData.depthAll] at h2 ⊢
    omega
theorem KB.other {H0 H H':Hp} {d l le ao:Addr} {os:List Addr} {vs:List V} (x:KB H0 H d l os le vs) (f:Fr [ao] H H') (n : ao∉os) (nl:∀ a∈[le,d,l],ao≠a) (n0:H0 ao=none) (ep:∀ v∈vs,EP (ao::(os++[le,d])) H v) : KB H0 H' d l os le vs:=by
  have h1:=nl le (by simp)
  have h2:=nl d (by simp)
  have h3:=nl l (by simp)
  refine ⟨x.D.fr f (nin1 h2.symm nin0) (nin1 h3.symm nin0),⟨x.al.1,fun a ha=>?_⟩,x.f.own1 f n0,x.nw,f.at x.el (nin1 h1.symm nin0),fun v hv=>(ep v hv).step f (fun a ha=>.inl (by rw [List.mem_singleton.mp ha];exact List.mem_cons_self)) fun a ha=>.inl (List.mem_cons_of_mem _ ha)⟩
  obtain ⟨u,w⟩:=x.al.2 a ha
  refine ⟨u,f.at w (nin1 (fun z=>?_) nin0)⟩
  rcases List.mem_append.mp ha with q | q
  · exact n (z ▸ q)
  · exact nl a q z.symm
theorem hk_tail (T:Txt K mg A) {D:Ends} {σ:L2.St} {H H1:Hp} {d l le kp ao kf kb kq:Addr} {x1 v4 v5 v6 v9 v10 v11:Option V} {S:Setup} {h:HP} {M:HM} {vs ovs qvs:List V} {ods qds:List PyData} {cs:List Addr} {rdv:V} {dx0:Addr}
    (hσ : σ=[some (.ref d),x1,some (.ref h.p),some (.ref le),v4,v5,v6,some (.ref kp),some (.ref ao),v9,v10,v11]) (ks:KB H H1 d l h.os le vs) (ep:∀ v∈vs,EP (ao::(h.os++[le,d])) H1 v) (hv : vs.length≤100) (ho:HouseAt A H1 h S { M with out:=[] })
    (e0:H1 h.p=some (.ins A.House dx0 (F_House S.sellers h.st h.bk h.qu rdv h.ct h.out)))
    (eB:H1 ao=some (.lst ovs)) (nB : ao∉h.os) (nL:∀ a∈[le,d,l],ao≠a) (n0:H ao=none) (dov:DaL H1 ovs ods) (io : immL ods=true) (hlo : ovs.length≤1000) (po : dpL ods≤5)
    {rd0:V} (eK:H1 kp=some (.lst [.ref kf,.ref kb,.ref kq,rd0])) (nK:∀ a∈kp::kf::kb::kq::cs,a≠le∧a≠ao∧a∉h.os) (kf1:H1 kf=some (.dT (cD (stT S M.st)))) (kb1:H1 kb=some (.lst (cs.map V.ref))) (kq1:H1 kq=some (.lst qvs)) (tw:Paired (Twn H1) cs h.bs)
    (xq1:H1 h.qu=some (.lst qvs)) (dq:DaL H1 qvs qds) (iq : immL qds=true) (dr:Da H1 rd0 (roundD M.rd))
    (k:∀ (H':Hp) (h':HP) (w9:Option V) (vs':List V) (m:List Addr),h'.p=h.p→KB H H' d l h'.os le vs'→HouseAt A H' h' S { M with out:=[] }→vs'.length≤vs.length + 1→Fr m H1 H'→D.nx [some (.ref d),x1,some (.ref h.p),some (.ref le),v4,v5,v6,some (.ref kp),some (.ref ao),w9,v10,v11] H') :
    t6_Lhouse_keeps K A D σ H1:=by
  subst hσ
  have el:=ks.el
  obtain ⟨m1,m2,m3,m4,m5,m6⟩:=ks.far
  have hple : h.p≠le:=fun z=>m3 (by rw [← z];simp [HP.os])
  have hpao : h.p≠ao:=fun z=>nB (by rw [← z];simp [HP.os])
  have nao : le≠ao:=fun z=>nL le (by simp) z.symm
  walk_at "go"
  rename_i H2 f2 e2 cc H3 n3 f3 e3 pr H4 n4 f4 e4 H5 f5 e5
  have ks2:=ks.other f2 nB nL n0 ep
  have ho2:=ho.fr f2 fun a ha=>nin1 (fun z=>nB (z ▸ ha)) nin0
  have n4':H2 pr=none:=f3.free n4
  have fresh:∀ {a:Addr},H2 a=none→a∉h.os++[le,d]:=fun {a} h1 z=>by
    have q2 : a∈h.os++[le,d,l]:=by
      simp only [List.mem_append,List.mem_cons,List.not_mem_nil,or_false] at z ⊢
      rcases z with q | q | q
      · exact .inl q
      · exact .inr (.inl q)
      · exact .inr (.inr (.inl q))
    obtain ⟨u,w⟩:=ks2.al.2 a q2;rw [h1] at w;cases w
  have nle:∀ {a:Addr},a∉h.os++[le,d]→a∉[le]:=fun h z=>h (by rw [List.mem_singleton.mp z];simp)
  have oB : ao∉h.os++[le,d]:=fun z=>by
    simp only [List.mem_append,List.mem_cons,List.not_mem_nil,or_false] at z
    rcases z with q | q | q
    · exact nB q
    · exact nL le (by simp) q
    · exact nL d (by simp) q
  have G4:Fr [] H2 H4:=f3.then0 f4
  have G5:Fr [le] H2 H5:=G4.of0.transL f5
  have D5:=ks2.D.fr G5 (nin1 m4.symm nin0) (nin1 m5.symm nin0)
  have ks5:KB H H5 d l h.os le (vs++[.ref pr]):=ks2.put G5 (fun a ha=>.inr (List.mem_singleton.mp ha)) D5 e5 fun v hv=>by
    rcases List.mem_append.mp hv with q | q
    · exact .inl q
    · refine .inr ?_
      rw [List.mem_singleton.mp q]
      have dl:∀ {G:Hp},Fr (h.os++[le,d]) H5 G→DaL G (ovs++[.int 0]) (ods++[.int 0]):=fun g=>(DaL.frL g (DaL.frL G5 (DaL.frL f2 dov io) io) io).append (.one' (.int _))
      exact ⟨pr,.ref ao,.ref cc,.list (ods++[.int 0]),rfl,by simp only [dp,dpL,dpL_append];omega,fun H' g=>⟨g.at (f5.at e4 (nle (fresh n4'))) (fresh n4'),
        .lst (g.at (G5.at e2 (nle oB)) oB) (by rw [List.length_append];simp;omega) (dl g),.lst (g.at (f5.at (f4.at0 e3) (nle (fresh n3))) (fresh n3)) (by rw [List.length_append];simp;omega) (dl g)⟩⟩
  have ho5:=ho2.fr G5 fun a ha=>nin1 (fun z=>m3 (z ▸ ha)) nin0
  have e05:H5 h.p=some (.ins A.House dx0 (F_House S.sellers h.st h.bk h.qu rdv h.ct h.out)):=G5.at (f2.at e0 (nin1 hpao nin0)) (nin1 hple nin0)
  refine f_list (fun j σ H'=>∃ w9,σ=[some (.ref d),x1,some (.ref h.p),some (.ref le),v4,v5,v6,some (.ref kp),some (.ref ao),w9,v10,v11]∧H'=H5) ⟨_,rfl,rfl⟩ (fun j σ H' _ ⟨_,_,q⟩=>by rw [q];exact SqL.of e5) ?_ ?_
  · rintro j x σ H' hx ⟨w9,rfl,hq⟩
    rw [hq]
    obtain ⟨pr,t,c,Dd,rfl,hd,hk⟩:=ks5.ep x (List.mem_of_getElem? hx)
    obtain ⟨w1,w2,w3⟩:=hk H5 Fr.refl
    walk_at "go"
    refine c_Lequal ⟨Dd,w2,w3,by omega,?_⟩
    walk_at "go"
    exact ⟨_,rfl,rfl⟩
  rintro σ H' ⟨w9,rfl,hq⟩
  rw [hq]
  clear hq H'
  walk_at "go"
  refine c_House_bodies ⟨h,S,{ M with out:=[] },rfl,ho5,fun o H6 n6 f6 ho6 lo6=>?_⟩
  obtain ⟨⟨dx6,rd6,e6,c6⟩,al6⟩:=id ho6
  dsimp only at e6
  have ks6:KB H H6 d l ({ h with out:=o }:HP).os le (vs++[.ref pr]):=ks5.res (f6.mono fun a ha=>by rw [List.mem_singleton.mp ha];simp [HP.os]) (fun a ha=>by
    simp only [HP.os,List.mem_cons] at ha ⊢
    rcases ha with z | z | z | z | z | z | z
    · exact .inl (.inl z)
    · exact .inl (.inr (.inl z))
    · exact .inl (.inr (.inr (.inl z)))
    · exact .inl (.inr (.inr (.inr (.inl z))))
    · exact .inl (.inr (.inr (.inr (.inr (.inl z)))))
    · rw [z];exact .inr n6
    · exact .inl (.inr (.inr (.inr (.inr (.inr (.inr z))))))) al6
  walk_at "go"
  rename_i ne H7 n7 f7 e7
  refine c_Lequal ⟨.list [],(lo6.fr f7 nin0).da (Nat.zero_le _),.lst e7 (Nat.zero_le _) .nil,by simp [dp,dpL],?_⟩
  have ebk6:=c6.bk
  walk_at "go"
  rename_i kn H8 n8 f8 e8
  have G8:Fr [] H6 H8:=f7.then0 f8
  have J:Fr [ao,le,h.p] H1 H8:=((f2.mono fun a ha=>by rw [List.mem_singleton.mp ha];simp).transL (G5.mono fun a ha=>by rw [List.mem_singleton.mp ha];simp)).transL (f6.mono fun a ha=>by rw [List.mem_singleton.mp ha];simp) |>.then0 G8
  have nj:∀ {a:Addr},a∈kp::kf::kb::kq::cs→a∉[ao,le,h.p]:=fun ha=>by
    obtain ⟨q1,q2,q3⟩:=nK _ ha
    exact nin1 q2 (nin1 q1 (nin1 (fun z=>q3 (by rw [z];simp [HP.os])) nin0))
  have hnd:=ho.2.1
  have nh:∀ {a:Addr},a∈h.os→a≠h.p→a∉[ao,le,h.p]:=fun ha hp=>nin1 (fun z=>nB (z ▸ ha)) (nin1 (fun z=>m3 (z ▸ ha)) (nin1 hp nin0))
  have hpn:∀ {a:Addr},a∈h.st::h.bk::h.qu::h.ct::h.out::h.bs→a≠h.p:=fun ha z=>(List.nodup_cons.mp hnd).1 (z ▸ ha)
  have hin:∀ {a:Addr},a∈h.st::h.bk::h.qu::h.ct::h.out::h.bs→a∈h.os:=fun ha=>List.mem_cons_of_mem _ ha
  have inb:∀ {b:Addr},b∈h.bs→b∈h.st::h.bk::h.qu::h.ct::h.out::h.bs:=fun hb=>List.mem_cons_of_mem _ (List.mem_cons_of_mem _ (List.mem_cons_of_mem _ (List.mem_cons_of_mem _ (List.mem_cons_of_mem _ hb))))
  have inq : h.qu∈h.st::h.bk::h.qu::h.ct::h.out::h.bs:=by simp
  have tw8:Paired (Twn H8) cs h.bs:=Twn.frs tw J (fun c hc=>nj (by simp [hc])) fun b hb=>nh (hin (inb hb)) (hpn (inb hb))
  have hl:=lay_round M.rd
  refine g_neU 10 (by decide) (SqL.of (J.at eK (nj (by simp)))) (SqL.of e8) ?_ ?_
  · refine .cons (EqU.ints (J.at kf1 (nj (by simp))) (G8.at0 c6.st)) (.cons ?_ (.cons (EqU.lists (J.at kq1 (nj (by simp))) (J.at xq1 (nh (hin inq) (hpn inq))) (DaL.frL J dq iq)) (.cons (EqU.data (Da.frL J dr (imm_round _)) (Da.frL G8 c6.rd (imm_round _)) hl.1 (Nat.le_trans hl.2 (by decide))) .nil)))
    exact .inr (.inr (.inl (.inl (.inl ⟨kb,h.bk,_,_,rfl,rfl,SqL.of (J.at kb1 (nj (by simp))),SqL.of (G8.at0 ebk6),Twn.eq tw8⟩))))
  · walk_at "go"
    exact k H8 { h with out:=o } _ _ _ rfl (ks6.f0 G8) (ho6.fr G8 fun _ _=>nin0) (by rw [List.length_append];simp) J
theorem hk_turn (T:Txt K mg A) {D:Ends} {σ:L2.St} {H H1:Hp} {d l le:Addr} {v5 v6 v7 v8 v9 v10 v11:Option V} {S:Setup} {h:HP} {M:HM} {vs:List V} {i:Nat} {xa r pp:Addr}
    (hσ : σ=[some (.ref d),some (.ref xa),some (.ref h.p),some (.ref le),some (.int (0 + (i:Int))),v5,v6,v7,v8,v9,v10,v11]) (ks:KB H H1 d l h.os le vs) (hv : vs.length≤50) (ho:HouseAt A H1 h S M) (so:SetupOk S) (hi : i≤10)
    (et:H1 xa=some (.tup [.ref r,.int S.nights,.int S.sellers,.ref pp,.int S.share])) (mk:HK S (i + 1) { M with out:=[] }) (hz : i=0→M.out.length=S.sellers.toNat) (hlo:M.out.length≤100)
    (k:∀ (H':Hp) (h':HP) (w7 w8 w9 w11:Option V) (vs':List V) (m:List Addr),h'.p=h.p→KB H H' d l h'.os le vs'→HouseAt A H' h' S { M with out:=[] }→vs'.length≤vs.length + 1→Fr m H1 H'→D.nx [some (.ref d),some (.ref xa),some (.ref h.p),some (.ref le),some (.int (0 + (i:Int))),v5,v6,w7,w8,w9,v10,w11] H') :
    tSeq (t8_Lhouse_keeps K A) (t9_Lhouse_keeps K A) D σ H1:=by
  subst hσ
  obtain ⟨⟨dx,rdv,e,c⟩,al⟩:=id ho
  have est:=c.st
  have ebk:=c.bk
  obtain ⟨iq,qvs,eq_,dq⟩:=id c.qu
  walk_at "go"
  refine g_dictC (cellsAll S) (by walk_at "fact") (st_keys S _) (cells_hp so) fun kf H2 n2 f2 e2=>?_
  walk_at "go"
  have hbl : h.bs.length≤4:=by
    have h1:=Paired.length c.bs
    have h2:M.bk.length=S.sellers.toNat:=mk.ok.bl
    have:=so.s2;omega
  have hnd:=ho.2.1
  have hpn:∀ {a:Addr},a∈h.st::h.bk::h.qu::h.ct::h.out::h.bs→a≠h.p:=fun ha z=>(List.nodup_cons.mp hnd).1 (z ▸ ha)
  have inb:∀ {b:Addr},b∈h.bs→b∈h.st::h.bk::h.qu::h.ct::h.out::h.bs:=fun hb=>List.mem_cons_of_mem _ (List.mem_cons_of_mem _ (List.mem_cons_of_mem _ (List.mem_cons_of_mem _ (List.mem_cons_of_mem _ hb))))
  refine l_list (xs:=h.bs.map V.ref) fun Dl H3 nD f3 e3=>⟨fun i acc H'=>∃ cs:List Addr,acc=cs.map V.ref∧Paired (Twn H') cs (h.bs.take i)∧Fr [] H2 H'∧(∀ c∈cs,H2 c=none∧c≠Dl),⟨[],rfl,.nil,f3,fun _ q=>nomatch q⟩,fun i acc H' ⟨_,_,_,f,_⟩=>SqL.of (f.at0 (f2.at0 ebk)),fun j x acc H' hx ha ⟨cs,ea,tw,f,fr⟩=>?_,fun acc H' ha ⟨cs,ea,tw,f,fr⟩=>?_⟩
  · rw [List.getElem?_map] at hx
    obtain ⟨b,hb,rfl⟩:=Option.map_eq_some_iff.mp hx
    obtain ⟨rr,hr,ir,bvs,eb,db⟩:=paired_at c.bs hb
    have eb':=f.at0 (f2.at0 eb)
    have hcl : acc.length≤4:=by
      have h1:=Paired.length tw
      rw [ea,List.length_map,h1,List.length_take];omega
    have nbD : b≠Dl:=fun z=>by rw [← z,f2.at0 eb] at nD;cases nD
    walk_at "go"
    refine ⟨rfl,?_⟩
    walk_at "go"
    rename_i c1 H4 n4 f4 e4
    have ncD : c1≠Dl:=fun z=>by rw [z,ha] at n4;cases n4
    refine lcY_of (f4.at0 ha) (szM (by omega)) fun H5 f5 e5=>⟨cs++[c1],by rw [List.map_append,← ea];rfl,?_,(f.then0 f4).own1 f5 nD,fun x hx'=>?_⟩
    · rw [take_more hb]
      refine Paired.snoc (Twn.frs (Twn.frs tw f4 (fun _ _=>nin0) fun _ _=>nin0) f5 (fun c hc=>nin1 (fr c hc).2 nin0) fun b' hb'=>nin1 (fun z=>?_) nin0) ⟨bvs,_,f5.at e4 (nin1 ncD nin0),f5.at (f4.at0 eb') (nin1 nbD nin0),DaL.frL f5 (DaL.frL f4 (DaL.frL f (DaL.frL f2 db ir) ir) ir) ir,ir⟩
      obtain ⟨o,q⟩:=al.2 b' (List.mem_cons_of_mem _ (inb (List.mem_of_mem_take hb')))
      rw [← z,f2.at0 q] at nD;cases nD
    · rcases List.mem_append.mp hx' with q | q
      · exact fr x q
      · rw [List.mem_singleton.mp q];exact ⟨f.free n4,ncD⟩
  rw [List.length_map,List.take_length] at tw
  have F':Fr [] H1 H':=f2.then0 f
  have e1:=F'.at0 e
  have eq1:=F'.at0 eq_
  have ekf1:=f.at0 e2
  walk_at "go"
  rename_i kq H4 n4 f4 e4 kp H5 n5 f5 e5
  have F5:Fr [] H1 H5:=(F'.then0 f4).then0 f5
  have ho5:=ho.fr F5 fun _ _=>nin0
  refine c_House_bodies ⟨h,S,M,rfl,ho5,fun o H6 n6 f6 ho6 lo6=>?_⟩
  obtain ⟨io,ovs,eo,dov⟩:=id lo6
  obtain ⟨⟨dx6,rd6,e6,c6⟩,al6⟩:=id ho6
  have et6:=f6.tupAt (F5.tupAt et)
  have hol : ovs.length=M.out.length:=by rw [dov.len,List.length_map]
  obtain ⟨m1,m2,m3,m4,m5,m6⟩:=ks.far
  have iout : h.out∈h.os:=by simp [HP.os]
  have ip : h.p∈h.os:=by simp [HP.os]
  have n6':H1 o=none:=F5.free n6
  have hsub:∀ a∈({ h with out:=o }:HP).os,a∈h.os∨a=o:=fun a ha=>by
    simp only [HP.os,List.mem_cons] at ha ⊢
    rcases ha with z | z | z | z | z | z | z
    · exact .inl (.inl z)
    · exact .inl (.inr (.inl z))
    · exact .inl (.inr (.inr (.inl z)))
    · exact .inl (.inr (.inr (.inr (.inl z))))
    · exact .inl (.inr (.inr (.inr (.inr (.inl z)))))
    · exact .inr z
    · exact .inl (.inr (.inr (.inr (.inr (.inr (.inr z))))))
  have J6:Fr [h.p] H1 H6:=F5.of0.transL f6
  have ks6:KB H H6 d l ({ h with out:=o }:HP).os le vs:=ks.res (J6.mono fun a ha=>by rw [List.mem_singleton.mp ha];exact ip) (fun a ha=>(hsub a ha).imp id fun z=>by rw [z];exact n6') al6
  have ep6:∀ v∈vs,EP (h.out::(({ h with out:=o }:HP).os++[le,d])) H6 v:=fun v hv=>(ks.ep v hv).step J6 (fun a ha=>.inl (List.mem_append_left _ (by rw [List.mem_singleton.mp ha];exact ip))) fun a ha=>by
    rcases List.mem_cons.mp ha with z | z
    · rw [z];exact .inl (List.mem_append_left _ iout)
    · rcases List.mem_append.mp z with q | q
      · exact (hsub a q).elim (fun w=>.inl (List.mem_append_left _ w)) fun w=>.inr (by rw [w];exact n6')
      · exact .inl (List.mem_append_right _ q)
  have aliveo : h.out≠o:=fun z=>by obtain ⟨u,w⟩:=al.2 _ iout;rw [z,n6'] at w;cases w
  have nB : h.out∉({ h with out:=o }:HP).os:=fun z=>by
    have hn:=hnd
    simp only [HP.os,List.nodup_cons,List.mem_cons,not_or] at hn z
    rcases z with w | w | w | w | w | w | w
    · exact hn.1.2.2.2.2.1 w.symm
    · exact hn.2.1.2.2.2.1 w.symm
    · exact hn.2.2.1.2.2.1 w.symm
    · exact hn.2.2.2.1.2.1 w.symm
    · exact hn.2.2.2.2.1.1 w.symm
    · exact aliveo w
    · exact hn.2.2.2.2.2.1 w
  have nL:∀ a∈[le,d,l],h.out≠a:=fun a ha z=>ks.al.apart ha (z ▸ iout)
  have new:∀ {a:Addr} {u:HO},H1 a=none→H5 a=some u→a≠le∧a≠h.out∧a∉({ h with out:=o }:HP).os:=fun {a u} g1 g2=>by
    refine ⟨fun z=>?_,fun z=>?_,fun z=>?_⟩
    · rw [z,ks.el] at g1;cases g1
    · obtain ⟨u,w⟩:=al.2 _ iout;rw [z,w] at g1;cases g1
    · rcases hsub a z with q | q
      · obtain ⟨u,w⟩:=al.2 _ q;rw [w] at g1;cases g1
      · rw [q,n6] at g2;cases g2
  have nD1:H1 Dl=none:=f2.free nD
  have nq1:H1 kq=none:=F'.free n4
  have np1:H1 kp=none:=(F'.then0 f4).free n5
  have gkf:H5 kf=some (.dT (cD (stT S M.st))):=f5.at0 (f4.at0 ekf1)
  have gD:H5 Dl=some (.lst (cs.map V.ref)):=by rw [← ea];exact f5.at0 (f4.at0 ha)
  have gq:H5 kq=some (.lst qvs):=f5.at0 e4
  have nK:∀ a∈kp::kf::Dl::kq::cs,a≠le∧a≠h.out∧a∉({ h with out:=o }:HP).os:=fun a hm=>by
    rcases List.mem_cons.mp hm with q | hm
    · rw [q];exact new np1 e5
    rcases List.mem_cons.mp hm with q | hm
    · rw [q];exact new n2 gkf
    rcases List.mem_cons.mp hm with q | hm
    · rw [q];exact new nD1 gD
    rcases List.mem_cons.mp hm with q | hm
    · rw [q];exact new nq1 gq
    · obtain ⟨b,_,xs,ds,q1,_⟩:=paired_mem tw a hm
      exact new (f2.free (fr a hm).1) (f5.at0 (f4.at0 q1))
  have off:∀ {a:Addr},a∈kp::kf::Dl::kq::cs→a∉[h.p]:=fun hm=>nin1 (fun z=>(nK _ hm).2.2 (by rw [z];simp [HP.os])) nin0
  have tw6:Paired (Twn H6) cs h.bs:=Twn.frs (Twn.frs tw (f4.then0 f5) (fun _ _=>nin0) fun _ _=>nin0) f6 (fun c hc=>off (by simp [hc])) fun b hb=>nin1 (hpn (inb hb)) nin0
  have tl:=fun (D:Ends) (σ:L2.St) (w9 w10 w11:Option V) hσ kk=>hk_tail (K:=K) (mg:=mg) (A:=A) T (D:=D) (σ:=σ) (h:={ h with out:=o }) (v9:=w9) (v10:=w10) (v11:=w11) (x1:=some (.ref xa)) (v4:=some (.int (0 + (i:Int)))) (v5:=v5) (v6:=v6) hσ ks6 ep6 (by omega) ho6 e6 eo nB nL (ks.nw _ (List.mem_append_left _ iout)) dov io (by omega) (dpL_map dp_out _) (f6.at e5 (off (by simp))) nK (f6.at gkf (off (by simp))) (f6.at gD (off (by simp))) (f6.at gq (off (by simp))) tw6 (f6.at (F5.at0 eq_) (nin1 (hpn (by simp)) nin0)) (DaL.frL J6 dq iq) iq (Da.frL J6 c.rd (imm_round _)) kk
  walk_at "go"
  refine g_ite (fun c0=>?_) (fun c0=>?_)
  · walk_at "go"
    refine g_iteN (fun w=>absurd ?_ w) (fun _=>?_)
    · have:=hz (by omega)
      have:=so.s1
      omega
    · refine g_next (tl _ _ _ _ _ rfl fun H' h' w9 vs' m hp ks' ho' hv' f'=>?_)
      exact k H' h' _ _ _ _ vs' _ hp ks' ho' hv' (J6.trans f')
  · refine g_iteF (g_next (tl _ _ _ _ _ rfl fun H' h' w9 vs' m hp ks' ho' hv' f'=>?_))
    exact k H' h' _ _ _ _ vs' _ hp ks' ho' hv' (J6.trans f')
theorem pu_Lhouse_keeps (T:Txt K mg A) {x0 x1:V} {H:Hp} {Q:VK} (h:P_Lhouse_keeps K A x0 x1 H Q) : t_Lhouse_keeps K A { nx:=fun _ H'=>Q .non H',rt:=Q } [some x0,some x1,none,none,none,none,none,none,none,none,none,none] H:=by
  obtain ⟨d,l,S,rfl,dl,D,so,dS,k⟩:=h
  obtain ⟨xa,r,pp,prs,sa⟩:=SetAt.of dS
  cases sa.e
  have et0:=sa.t
  have hs0 : 0 < S.sellers:=by have:=so.s1;omega
  have hs4:=so.s2
  unfold t_Lhouse_keeps
  walk_at "go"
  rename_i p dx H1 n1 nd1 ne1 f1 e1 ed1
  refine c_House_init ⟨p,dx,S,rfl,e1,Da.frL f1 dS (imm_setup S),so,fun h H2 hp f2 own2 ho2=>⟨rfl,?_⟩⟩
  have F2:Fr [] H H2:=f1.own1 f2 n1
  have dS2:=Da.frL F2 dS (imm_setup S)
  have et2:=F2.tupAt et0
  have D2:=D.fr F2 nin0 nin0
  have own:∀ a∈h.os,H a=none:=fun a ha=>(own2 a ha).elim (fun z=>by rw [z];exact n1) (fun z=>f1.free z)
  walk_at "go"
  rename_i le H3 n3 f3 e3 z H4 z0 z1 f4 D4
  have ks:KB H H3 d l h.os le []:=KB.start (p:=p) (dx:=dx) D dl F2 ho2.2 own n3 f3 e3
  have ho3:=ho2.fr f3 fun _ _=>nin0
  have mk:HK S 0 (HM.start S):=⟨HM.start_ok,rfl,Nat.le_refl _,fun r hr=>by
    have:=List.eq_of_mem_replicate (show r∈List.replicate S.sellers.toNat [] from hr)
    rw [this];exact Nat.le_refl _,fun _=>rfl⟩
  have dS3:=Da.frL f3 dS2 (imm_setup S)
  have et4:=f4.tupAt (f3.tupAt et2)
  clear own own2 f1 f2 f3 F2 e1 ed1 n1 nd1 ne1 n3 e3 D D2 dS dS2 ho2 et0 et2 sa
  have ks4:=ks.draw f4 D4
  have ho4:=ho3.fr f4 ks.offd
  have dS4:=Da.frL f4 dS3 (imm_setup S)
  clear ks dS3 f4 D4 ho3
  refine f_range (lo:=0) (n:=(z % 8).toNat) (fun i σ H'=>∃ (h:HP) (M:HM) (vs:List V) (v4 v5 v6 v7 v8 v9 v10 v11:Option V),σ=[some (.ref d),some (.ref xa),some (.ref p),some (.ref le),v4,v5,v6,v7,v8,v9,v10,v11]∧h.p=p∧KB H H' d l h.os le vs∧HouseAt A H' h S M∧vs.length≤i∧HK S i M∧Da H' (.ref xa) (setupD S)∧H' xa=some (.tup [.ref r,.int S.nights,.int S.sellers,.ref pp,.int S.share]))
    ⟨h,_,[],none,none,none,none,none,none,none,none,rfl,hp,ks4,ho4,Nat.le_refl _,mk,dS4,et4⟩ ?_ ?_
  · clear ks4 ho4 dS4 mk hp h et4 H3 H4
    rintro i σ H1 hi ⟨h,M,vs,v4,v5,v6,v7,v8,v9,v10,v11,rfl,hp,ks,ho,hv,mk,dS,et⟩
    have hi8 : i≤8:=by omega
    have D1:=ks.D
    walk_at "go"
    rename_i y H2 y0 y1 f2 D2
    generalize hs : y % S.sellers=s
    have s0 : 0≤s:=by rw [← hs];exact Int.emod_nonneg _ (by omega)
    have s1 : s < S.sellers:=by rw [← hs];exact Int.emod_lt_of_pos _ hs0
    have ks2:=ks.draw f2 D2
    have ho2:=ho.fr f2 ks.offd
    have dS2:=Da.frL f2 dS (imm_setup S)
    refine c_Lparty ⟨d,l,S,rfl,ks2.D,so,dS2,fun pv ps H3 po dp3 f3 D3=>?_⟩
    have ks3:=ks2.draw f3 D3
    have ho3:=ho2.fr f3 ks2.offd
    have dS3:=Da.frL f3 dS2 (imm_setup S)
    have et3:=f3.tupAt (f2.tupAt et)
    obtain ⟨pa,xs,rfl,ep,_,dxs⟩:=id dp3.tup1
    clear ks ks2 ho ho2 dS dS2 D1 D2 D3 f2 f3 et y0 y1 hs
    walk_at "go"
    refine c_Lneeds ⟨pa,xs,ps,rfl,ep,dxs,SmallSt.of so po.ok,Nat.le_trans po.l4 (by decide),fun nt H4 n4 f4 e4=>?_⟩
    have hnl:=needs_le so po.ok
    subst hp
    obtain ⟨⟨dx0,rdv,e0,c0⟩,al0⟩:=id ho3
    walk_at "go"
    refine g_sortedDT (csN (needsL ps)) e4 (csN_keys _) (csN_alike _) (csN_sortable _) (csN_small _) fun q5 H5 ys n5 f5 e5 dy=>?_
    have hyl : ys.length=(needsL ps).length:=by rw [dy.len,(srt_perm _).length_eq,List.length_map];unfold csN;rw [List.length_map]
    have e45:=f5.at0 e4
    walk_at "go"
    refine l_list (xs:=ys) fun Dl H6 nD f6 e6=>⟨fun i acc H'=>∃ lk:Lack,lk.length=i∧(∀ e∈lk,CellOk S e.1)∧DaL H' acc (lk.map fun e=>.tuple [cellD e.1,.int e.2])∧Fr [] H5 H',⟨[],rfl,fun _ q=>(nomatch q),.nil,f6⟩,fun i acc H' ⟨_,_,_,_,f⟩=>SqL.of (f.at0 e5),fun i x acc H' hx ha ⟨lk,hl,ho,da,f⟩=>?_,fun acc H' ha ⟨lk,hl,hlo,da,f⟩=>?_⟩
    · obtain ⟨t,e,he,rfl,et⟩:=csN_get (DaL.frL f dy (imm_csN _)) hx
      have hi:=(List.getElem?_eq_some_iff.mp hx).1
      have hac : acc.length≤100:=by rw [da.len,List.length_map];omega
      have e2':=f.at0 e45
      walk_at "go"
      refine ⟨rfl,?_⟩
      walk_at "go"
      refine g_rdg (k:=ck e.1) (v:=.int e.2) (.inl e2') et (by rw [val_cell,lk_mem (needs_nd ps) he];rfl) ?_
      walk_at "go"
      rename_i q H7 n7 f7 e7
      refine lcY_of (f7.at0 ha) (szM (by omega)) fun H8 f8 e8=>⟨lk++[e],by rw [List.length_append,hl];rfl,fun x hx'=>?_,?_,(f.then0 f7).own1 f8 nD⟩
      · rcases List.mem_append.mp hx' with q | q
        · exact ho x q
        · rw [List.mem_singleton.mp q];exact cell_ok so po.ok he
      · rw [List.map_append]
        have il : immL (lk.map fun e=>(PyData.tuple [cellD e.1,.int e.2]))=true:=immL_map (fun _=>rfl) _
        exact (DaL.frL f8 (DaL.frL f7 da il) il).append (.one' (.tup (f8.tup _ _ e7) (Nat.le_of_ble_eq_true rfl) (.cons (.tup (f8.tup _ _ (f7.tup _ _ et)) (Nat.le_of_ble_eq_true rfl) (.cons (.int _) (.one' (.int _)))) (.one' (.int _)))))
    have hac : acc.length≤100:=by rw [da.len,List.length_map];omega
    have F:Fr [] H3 H':=(f4.then0 f5).then0 f
    have ks6:=ks3.f0 F
    have ho6:=ho3.fr F fun _ _=>nin0
    have dS6:=Da.frL F dS3 (imm_setup S)
    have et6:=F.tupAt et3
    have e06:=F.at0 e0
    clear e4 e5 e45 e6 f4 f5 f6 f n4 n5 nD F ks3 ho3 dS3 et3 e0 c0 al0 dp3 ep dxs dy
    obtain ⟨o1,b1,b2,b3,mk2,hz⟩:=mk.step (s:=s) (k:=(0 + (i:Int))) (lk:=lk) (r:=.cancelled (0 + (i:Int)) 1 0) so s0 s1 ⟨hlo,by omega⟩
    walk_at "go"
    rename_i la H7 n7 f7 e7 ta H8 n8 f8 e8
    have F8:Fr [] H' H8:=f7.then0 f8
    have ks8:=ks6.f0 F8
    have ho8:=ho6.fr F8 fun _ _=>nin0
    have il : immL (lk.map fun e=>(PyData.tuple [cellD e.1,.int e.2]))=true:=immL_map (fun _=>rfl) _
    refine c_House_handle ⟨h,S,M,s,.ask (0 + (i:Int)) lk,rfl,rfl,.tup e8 (Nat.le_of_ble_eq_true rfl) (.cons (.str _) (.cons (.int _) (.one' (.tup (f8.tupAt e7) (by omega) (DaL.frL F8 da il))))),ho8,so,mk.ok,⟨hlo,by omega⟩,s0,s1,by rw [mk.out];simp,by have:=mk.qu;omega,fun r hr=>by have:=mk.bk r hr;omega,fun h2 H9 hp9 f9 n9 ho9=>?_⟩
    have ks9:=ks8.res f9 n9 ho9.2
    have dS9:=Da.frL f9 (Da.frL F8 dS6 (imm_setup S)) (imm_setup S)
    have et9:=f9.tupAt (F8.tupAt et6)
    clear e7 e8 f7 f8 f9 n7 n8 n9 ks6 ks8 ho6 ho8 dS6 et6 F8 da ha e06
    obtain ⟨⟨dx2,rdv2,e9,c9⟩,al9⟩:=id ho9
    rw [hp9] at e9
    walk_at "go"
    rename_i tb H10 n10 f10 e10 tc H11 n11 f11 e11
    have F11:Fr [] H9 H11:=f10.then0 f11
    have ks11:=ks9.f0 F11
    have ho11:=ho9.fr F11 fun _ _=>nin0
    refine c_House_handle ⟨h2,S,_,s,.entry (.cancelled (0 + (i:Int)) 1 0),by rw [hp9],rfl,.tup e11 (Nat.le_of_ble_eq_true rfl) (.cons (.str _) (.one' (.tup (f11.tupAt e10) (Nat.le_of_ble_eq_true rfl) (.cons (.str _) (.cons (.int _) (.cons (.int _) (.one' (.int _)))))))),ho11,so,o1,trivial,s0,s1,by omega,by omega,fun r hr=>by have:=b3 r hr;omega,fun h3 H12 hp12 f12 n12 ho12=>?_⟩
    have ks12:=ks11.res f12 n12 ho12.2
    have dS12:=Da.frL f12 (Da.frL F11 dS9 (imm_setup S)) (imm_setup S)
    have et12:=f12.tupAt (F11.tupAt et9)
    have hb12:(HM.handle S.sellers.toNat s (.entry (.cancelled (0 + (i:Int)) 1 0)) (HM.handle S.sellers.toNat s (.ask (0 + (i:Int)) lk) M)).out.length≤100:=Nat.le_trans b1 (by decide)
    refine g_next ?_
    refine hk_turn T (h:=h3) (S:=S) (by rw [hp12,hp9] <;> rfl) ks12 (by omega) ho12 so (by omega) et12 mk2 hz hb12 fun H' h' w7 w8 w9 w11 vs' m hp' ks' ho' hv' f'=>?_
    exact ⟨h',_,vs',_,_,_,_,_,_,_,_,by rw [hp12,hp9] <;> rfl,by rw [hp',hp12,hp9],ks',ho',by omega,mk2,Da.frL f' dS12 (imm_setup S),f'.tupAt et12⟩
  · clear ks4 ho4 dS4 mk hp h et4 H3 H4
    rintro σ H1 ⟨h,M,vs,v4,v5,v6,v7,v8,v9,v10,v11,rfl,hp,ks,ho,hv,mk,dS,et⟩
    walk_at "go"
    exact k _ ks.f ks.D
theorem ok_Lhouse_keeps {f:Addr} {fd:FuncData} (F:Fun K "_law_house_keeps" "_law_house_keeps" s_Lhouse_keeps f fd) (T:Txt K mg A) (c_House_init:CalC P w K mg base "House" A.House 1 ["self","setup"] (sp_House_init K A)) (c_Lneeds:Cal P w K mg base "_law_needs" 1 ["_law_party_here"] (sp_Lneeds K A)) (c_House_handle:CalM P w K mg base A.House "handle" 5 ["self","seller","body"] (sp_House_handle K A)) (c_House_bodies:CalM P w K mg base A.House "bodies" 1 ["self"] (sp_House_bodies K A)) (c_Ldraw:Cal P w K mg base "_law_draw" 2 ["_law_draws"] (sp_Ldraw K A)) (c_Lparty:Cal P w K mg base "_law_party" 4 ["_law_draws","_law_setup_here"] (sp_Lparty K A)) (c_Lequal:Cal P w K mg base "_law_equal" 25 ["_law_actual","_law_due"] (sp_Lequal K A 12)) : FnOk P w K mg base CX0 (26) f fd ["_law_draws","_law_setup_here"] (sp_Lhouse_keeps K A):=by
  refine F.ok sc_Lhouse_keeps (fun vs H Q E h=>?_) (fun cdv Ar outer s H vs Q E hr h=>⟨t_Lhouse_keeps K A,?_,?_⟩)
  · obtain ⟨x0,x1,rfl,_⟩:=h
    rfl
  · have hu:=hu_of hr
    exact (pss_cons (ps_set (i:=2) sc_Lhouse_keeps.nd rfl (Or.inl rfl) (pe_mk c_House_init (hr.mono (by first | decide | omega)) (by rfl) (pa_cons (pv 1) pa_nil)))
    (pss_cons (ps_set (i:=3) sc_Lhouse_keeps.nd rfl (Or.inl rfl) (pe_lst pa_nil))
    (pss_cons (ps_for PassesOwn.never rfl (pi_range1 rfl T.b_range (pa_cons (pe_op o_mod (pe_cl c_Ldraw (hr.mono (by first | decide | omega)) (by rfl) (pa_cons (pv 0) pa_nil)) pe_int) pa_nil)) (pg_name (i:=4) sc_Lhouse_keeps.nd rfl (Or.inl rfl)) (pss_cons (ps_set (i:=5) sc_Lhouse_keeps.nd rfl (Or.inl rfl) (pe_op o_mod (pe_cl c_Ldraw (hr.mono (by first | decide | omega)) (by rfl) (pa_cons (pv 0) pa_nil)) (pe_ix ix_tup (pv 1) pe_int (fun _ _=>rfl))))
    (pss_cons (ps_set (i:=6) sc_Lhouse_keeps.nd rfl (Or.inr rfl) (pe_cl c_Lneeds (hr.mono (by first | decide | omega)) (by rfl) (pa_cons (pe_cl c_Lparty (hr.mono (by first | decide | omega)) (by rfl) (pa_cons (pv 0) (pa_cons (pv 1) pa_nil))) pa_nil)))
    (pss_cons (ps_expr (pe_mt (pv 2) T.cl_House c_House_handle (hr.mono (by first | decide | omega)) (pa_cons (pv 5) (pa_cons (pe_tup (pa_cons pe_str (pa_cons (pv 4) (pa_cons (pe_callTy b_tuple (by rfl) T.b_tuple (by decide +kernel) (pa_cons (pe_lc (own:=[("_law_cell",10)]) (g:=(gName 10)) (tt:=tYes) rfl sc_Lhouse_keeps.nd (pi_list (pe_callB (b_sortedDT rfl hr.units) (by rfl) T.b_sorted (by decide +kernel) (pa_cons (pv 6) pa_nil))) (blkOk_by (N:=["_law_draws","_law_setup_here","_law_house","_law_elder","_law_k","_law_s","_law_needs_here","_law_kept","_law_told","_law_pair","_law_cell","_law_book"]) (sc:=defScope s_Lhouse_keeps) (own:=[("_law_cell",10)]) (by decide +kernel)) (fun _ _ _ _ _=>(pg_name (i:=10) sc_Lhouse_keeps.nd rfl (Or.inl rfl))) (fun _ _ _ _ _=>pts_nil) (fun _ _ _ _ _=>(pe_tup (pa_cons (pv 10) (pa_cons (pe_dget hu (pv 6) (pv 10) (fun _ _=>rfl)) pa_nil))))) pa_nil)) pa_nil)))) pa_nil))))
    (pss_cons (ps_expr (pe_mt (pv 2) T.cl_House c_House_handle (hr.mono (by first | decide | omega)) (pa_cons (pv 5) (pa_cons (pe_tup (pa_cons pe_str (pa_cons (pe_tup (pa_cons pe_str (pa_cons (pv 4) (pa_cons pe_int (pa_cons pe_int pa_nil))))) pa_nil))) pa_nil))))
    (pss_cons (ps_set (i:=7) sc_Lhouse_keeps.nd rfl (Or.inl rfl) (pe_lst (pa_cons (pe_callTy (b_dictC (un8 hr.units)) (by rfl) T.b_dict (by decide +kernel) (pa_cons (pe_fld (pv 2) rfl) pa_nil)) (pa_cons (pe_lc (own:=[("_law_book",11)]) (g:=(gName 11)) (tt:=tYes) rfl sc_Lhouse_keeps.nd (pi_list (pe_fld (pv 2) rfl)) (blkOk_by (N:=["_law_draws","_law_setup_here","_law_house","_law_elder","_law_k","_law_s","_law_needs_here","_law_kept","_law_told","_law_pair","_law_cell","_law_book"]) (sc:=defScope s_Lhouse_keeps) (own:=[("_law_book",11)]) (by decide +kernel)) (fun _ _ _ _ _=>(pg_name (i:=11) sc_Lhouse_keeps.nd rfl (Or.inl rfl))) (fun _ _ _ _ _=>pts_nil) (fun _ _ _ _ _=>(pe_callTy b_list (by rfl) T.b_list (by decide +kernel) (pa_cons (pv 11) pa_nil)))) (pa_cons (pe_callTy b_list (by rfl) T.b_list (by decide +kernel) (pa_cons (pe_fld (pv 2) rfl) pa_nil)) (pa_cons (pe_fld (pv 2) rfl) pa_nil))))))
    (pss_cons (ps_set (i:=8) sc_Lhouse_keeps.nd rfl (Or.inl rfl) (pe_mt0 (pv 2) T.cl_House c_House_bodies (hr.mono (by first | decide | omega))))
    (pss_cons (ps_if (PW.pt (pw_and (pt_cmpR op_eq (pv 4) pe_int (nomark _)) (pw_and1 (pt_cmpR op_ne (pe_callB b_len (by rfl) T.b_len (by decide +kernel) (pa_cons (pv 8) pa_nil)) (pe_ix ix_tup (pv 1) pe_int (fun _ _=>rfl)) (nomark _))))) (pss_one (ps_ret pe_bl)) pss_nil)
    (pss_cons (ps_expr (pe_bm PySem.F.plainAttrs_list PySem.F.slot_list_append PySem.F.type_list_append mt_append (pv 8) (pa_cons pe_int pa_nil)))
    (pss_cons (ps_expr (pe_bm PySem.F.plainAttrs_list PySem.F.slot_list_append PySem.F.type_list_append mt_append (pv 3) (pa_cons (pe_lst (pa_cons (pv 8) (pa_cons (pe_callTy b_list (by rfl) T.b_list (by decide +kernel) (pa_cons (pv 8) pa_nil)) pa_nil))) pa_nil)))
    (pss_cons (ps_for PassesOwn.never rfl (pi_list (pv 3)) (pg_name (i:=9) sc_Lhouse_keeps.nd rfl (Or.inl rfl)) (pss_one (ps_if (pt_not (pt_val (pe_cl c_Lequal (hr.mono (by first | decide | omega)) (by rfl) (pa_cons (pe_ix ix_list (pv 9) pe_int (fun _ _=>rfl)) (pa_cons (pe_ix ix_list (pv 9) pe_int (fun _ _=>rfl)) pa_nil))))) (pss_one (ps_ret pe_bl)) pss_nil)))
    (pss_one (ps_if (PW.pt (pw_or (pt_not (pt_val (pe_cl c_Lequal (hr.mono (by first | decide | omega)) (by rfl) (pa_cons (pe_mt0 (pv 2) T.cl_House c_House_bodies (hr.mono (by first | decide | omega))) (pa_cons (pe_lst pa_nil) pa_nil))))) (pw_or1 (pt_cmpR (op_neU hr.units) (pv 7) (pe_lst (pa_cons (pe_fld (pv 2) rfl) (pa_cons (pe_fld (pv 2) rfl) (pa_cons (pe_fld (pv 2) rfl) (pa_cons (pe_fld (pv 2) rfl) pa_nil))))) (nomark _))))) (pss_one (ps_ret pe_bl)) pss_nil)))))))))))))
    (pss_one (ps_ret pe_bl)))))
  · obtain ⟨x0,x1,rfl,h⟩:=h
    exact pu_Lhouse_keeps T h
theorem wish_q {K:PySem.W.Frag} {A:Ad} {b kd r t pa:Addr} {c:Cell} {N:Int} {S:Setup} {ps:List Stay} {H:Hp} {Q:VK} (et:H t=some (.tup [.int c.1,.int c.2])) (ba:BookAt A H b kd r N []) (er:H r=some (.tup (S.rooms.map V.int))) (so:SetupOk S) (dp:Da H (.ref pa) (partyD ps)) (ok:∀ s∈ps,StayOk S s) (l4 : ps.length≤4)
    (k:∀ (g:Bool) (m:List (Cell×Pty)) (H':Hp),Fr [kd] H H'→BookAt A H' b kd r N m→m=(if g=true then [(c,(pa,ps))] else [])→fitb S [] ps=g→Q (.bl g) H') : P_Book_wish K A (.ref b) (.ref t) (.ref pa) H Q:=
  ⟨b,kd,r,t,pa,c,N,S,[],ps,rfl,rfl,rfl,et,ba,er,so,⟨List.nodup_nil,fun _ h=>(nomatch h),fun _ h=>(nomatch h),fun _ h=>(nomatch h),Nat.zero_le _⟩,dp,ok,l4,rfl,fun hf H' f ba'=>k true _ H' f ba' rfl hf,fun hf H' f=>k false [] H' f.of0 (by obtain ⟨⟨dx,e1⟩,e2⟩:=ba;exact ⟨⟨dx,f.at0 e1⟩,f.at0 e2⟩) rfl hf⟩
theorem fits_one {S:Setup} {s:Stay} (so:SetupOk S) (ok:StayOk S s) (h : fitb S [] [s]=true) : Fits S [s]:=fun k n hk hn=>by
  obtain ⟨c0,c1,c2,c3,c4⟩:=ok
  by_cases z : cov k n s=true
  · rw [List.filter_cons_of_pos z]
    have hc : s.1=k∧s.2.1≤n∧(n:Int) < s.2.2:=by
      unfold cov at z
      rw [Bool.and_eq_true,Bool.and_eq_true] at z
      exact ⟨of_decide_eq_true z.1,of_decide_eq_true z.2.1,of_decide_eq_true z.2.2⟩
    have hm:((k:Int),(n:Int))∈[s].flatMap cellsOf:=by
      rw [List.flatMap_cons,List.flatMap_nil,List.append_nil]
      unfold cellsOf
      refine List.mem_map.mpr ⟨(n - s.2.1).toNat,List.mem_range.mpr (by omega),Prod.ext hc.1 ?_⟩
      show s.2.1 + (((n:Int) - s.2.1).toNat:Int)=n
      omega
    have hn1 : 1≤nd [s] ((k:Int),(n:Int)):=by
      have h1:=giveF_party (fun _=>0) [s] ((k:Int),(n:Int))
      have key:∀ (cs:List Cell) (f:Cell→Int) (c:Cell),c∈cs→f c + 1≤giveF f cs c∧∀ x,f x≤giveF f cs x:=by
        intro cs
        induction cs with
        | nil=>intro f c h;exact nomatch h
        | cons a r ih=>
          intro f c h
          have mono:∀ (r:List Cell) (f:Cell→Int) (x:Cell),f x≤giveF f r x:=by
            intro r
            induction r with
            | nil=>intro f x;exact Int.le_refl _
            | cons b r ih=>
              intro f x
              have:=ih (fset f b (f b + 1)) x
              show f x≤giveF (fset f b (f b + 1)) r x
              unfold fset at this ⊢
              by_cases q : x=b
              · subst q;simp at this ⊢;omega
              · simp [q] at this ⊢;omega
          refine ⟨?_,mono _ f⟩
          show f c + 1≤giveF (fset f a (f a + 1)) r c
          rcases List.mem_cons.mp h with q | q
          · have:=mono r (fset f a (f a + 1)) c
            rw [q] at this ⊢
            rw [fset_same] at this
            exact this
          · have h2:=(ih (fset f a (f a + 1)) c q).1
            have : f c≤fset f a (f a + 1) c:=by
              by_cases q2 : c=a
              · rw [q2,fset_same];omega
              · rw [fset_ne q2];exact Int.le_refl _
            omega
      have h2:=(key _ (fun _=>0) _ hm).1
      omega
    have hl:(lk (needsL [s]) ((k:Int),(n:Int)))=some (nd [s] ((k:Int),(n:Int))):=by
      unfold nd at hn1 ⊢
      cases q : lk (needsL [s]) ((k:Int),(n:Int)) with
      | none=>rw [q] at hn1;simp at hn1
      | some v=>rfl
    have hf:=List.all_eq_true.mp h _ (lk_some hl)
    have hf:=of_decide_eq_true hf
    have e1 : rmC S ((k:Int),(n:Int))=S.rooms.getD k 0:=by unfold rmC;simp
    have e2 : tot [] ((k:Int),(n:Int))=0:=rfl
    simp only [] at hf
    rw [e1,e2] at hf
    simp only [List.filter_nil,List.length_cons,List.length_nil]
    omega
  · rw [List.filter_cons_of_neg z]
    simp only [List.filter_nil,List.length_nil]
    have:S.rooms.getD k 0=S.rooms[k]:=by rw [List.getD_eq_getElem?_getD,List.getElem?_eq_getElem hk];rfl
    rw [this]
    exact (so.rm _ (List.getElem_mem hk)).1
def P_law (K:PySem.W.Frag) (A:Ad) (x0:V) (H:Hp) (Q:VK) : Prop:=∃ (a:Addr) (ns:List Int),x0=.ref a∧SqL K H a (ns.map V.int)∧ns.length≤63∧∀ H',Q (.bl true) H'
def sp_law (K:PySem.W.Frag) (A:Ad) : Sp:=fun vs H Q _=>∃ x0,vs=[x0]∧P_law K A x0 H Q
theorem sc_law:FnScope ["_law_script","_law_draws","_law_setup_here","_law_stay_here","_law_book","_law_granted","_law_given","_law_rooms"] ["_law_script"] (defScope s_law):=⟨rfl,rfl,rfl,by decide +kernel,rfl,by decide +kernel,by decide +kernel⟩
def t_law (K:PySem.W.Frag) (A:Ad) : TS:=
  (tSeq (tAsg (tLst (tCons (tCl (sp_Lnumbers K A) (tCons (tVar 0) tNil)) (tCons (tC (.int 0)) tNil))) (gName 1))
    (tSeq (tAsg (tCl (sp_Lsetup K A) (tCons (tVar 1) tNil)) (gName 2))
    (tSeq (tIfS (tOr (tNot (tB (tCl (sp_Lseller_keeps K A) (tCons (tVar 1) (tCons (tVar 2) tNil))))) (tNot (tB (tCl (sp_Lhouse_keeps K A) (tCons (tVar 1) (tCons (tVar 2) tNil)))))) (tRet (tC (.bl false))) tNext)
    (tSeq (tAsg (tCl (sp_Lstay K A) (tCons (tVar 1) (tCons (tVar 2) tNil))) (gName 3))
    (tSeq (tAsg (tMk A.Book (sp_Book_init K A) (tCons (tOp (rIxT K) (tVar 2) (tC (.int 0))) (tCons (tOp (rIxT K) (tVar 2) (tC (.int 1))) tNil))) (gName 4))
    (tSeq (tAsg (tMt A.Book "wish" (sp_Book_wish K A) (tVar 4) (tCons (tTup (tCons (tC (.int 0)) (tCons (tC (.int 0)) tNil))) (tCons (tTup (tCons (tVar 3) tNil)) tNil))) (gName 5))
    (tSeq (tDrop (tBM0 K "dict" rDClearT (tMt A.Book "parties" (sp_Book_parties K A) (tVar 4) tNil)))
    (tSeq (tIfS (tTest (tOp rNe (tOp rEq (tCB rLenT (tCons (tMt A.Book "parties" (sp_Book_parties K A) (tVar 4) tNil) tNil)) (tC (.int 1))) (tVar 5))) (tRet (tC (.bl false))) tNext)
    (tSeq (tAsg (tOp rRep (tLst (tCons (tC .non) tNil)) (tCB rIntB (tCons (tVar 5) tNil))) (gName 6))
    (tSeq (tAsg (tCl (sp_housing K A) (tCons (tOp (rIxT K) (tVar 2) (tC (.int 0))) (tCons (tOp rRep (tLst (tCons (tVar 3) tNil)) (tCB rIntB (tCons (tVar 5) tNil))) (tCons (tUn rNeg (tC (.int 1))) (tCons (tVar 6) tNil))))) (gName 7))
    (tSeq (tDrop (tBM K "list" rAppend (tVar 7) (tCons (tC (.int 0)) tNil)))
    (tRet (tCl (sp_Lequal K A 12) (tCons (tVar 6) (tCons (tOp rRep (tLst (tCons (tC .non) tNil)) (tCB rIntB (tCons (tVar 5) tNil))) tNil)))))))))))))))
theorem pu_law (T:Txt K mg A) {x0:V} {H:Hp} {Q:VK} (h:P_law K A x0 H Q) : t_law K A { nx:=fun _ H'=>Q .non H',rt:=Q } [some x0,none,none,none,none,none,none,none] H:=by
  obtain ⟨a,ns,rfl,hS,hl,k⟩:=h
  unfold t_law
  walk_at "go"
  refine c_Lnumbers ⟨a,ns,rfl,hS,hl,fun nl ms H1 n1 f1 e1 sm hm=>?_⟩
  walk_at "go"
  rename_i d H2 n2 f2 e2
  have D2:Draws H2 d nl:=⟨ms,0,e2,f2.at0 e1,sm,hm,Int.le_refl _⟩
  have ndl : d≠nl:=(ne_of_none e1 n2).symm
  refine c_Lsetup ⟨d,nl,rfl,D2,fun sv S H3 so dS f3 D3=>?_⟩
  clear hS f1 f2 f3 e1 e2 D2 n1 n2 sm hm
  obtain ⟨xa,r,pp,prs,sa⟩:=SetAt.of dS
  cases sa.e
  have et3:=sa.t
  have er3:=sa.r
  walk_at "go"
  refine c_Lseller_keeps ⟨d,nl,S,rfl,ndl,D3,so,dS,fun H4 f4 D4=>?_⟩
  have dS4:=Da.frL f4 dS (imm_setup S)
  walk_at "go"
  refine c_Lhouse_keeps ⟨d,nl,S,rfl,ndl,D4,so,dS4,fun H5 f5 D5=>?_⟩
  have dS5:=Da.frL f5 dS4 (imm_setup S)
  walk_at "go"
  refine c_Lstay ⟨d,nl,S,rfl,D5,so,dS5,fun v st H6 sok dst f6 D6=>?_⟩
  obtain ⟨sta,rfl,est⟩:=stay_at dst
  have et6:=f6.tupAt (f5.tupAt (f4.tupAt et3))
  have er6:=f6.tupAt (f5.tupAt (f4.tupAt er3))
  clear f4 f5 f6 D3 D4 D5 dS dS4 dS5 et3 er3 sa
  walk_at "go"
  rename_i b dx H8 n8 nd8 ne8 f8 e8 ed8
  refine c_Book_init ⟨b,dx,r,S.nights,rfl,rfl,rfl,e8,fun kd H9 nkd f9 ba9=>⟨rfl,?_⟩⟩
  have F9:Fr [] H6 H9:=f8.own1 f9 n8
  have er9:=F9.tupAt er6
  have et9:=F9.tupAt et6
  have est9:=F9.tupAt est
  have dst9:=Da.frL F9 dst (imm_stay st)
  clear f8 f9 e8 ed8 n8 nd8 ne8 F9 er6 et6 est dst D6
  obtain ⟨⟨dxb,eb⟩,ek⟩:=id ba9
  walk_at "go"
  rename_i t H10 n10 f10 e10 pt H11 n11 f11 e11
  have F11:Fr [] H9 H11:=f10.then0 f11
  refine c_Book_wish (wish_q (c:=((0:Int),(0:Int))) (S:=S) (ps:=[st]) (f11.tupAt e10) ⟨⟨dxb,F11.at0 eb⟩,F11.at0 ek⟩ (F11.tupAt er9) so (.tup e11 (Nat.le_of_ble_eq_true rfl) (.one' (Da.frL F11 dst9 (imm_stay st)))) (fun s hs=>by rw [List.mem_singleton.mp hs];exact sok) (by simp) fun g m H12 f12 ba12 hm hg=>?_)
  have er12:=f12.tupAt (F11.tupAt er9)
  have et12:=f12.tupAt (F11.tupAt et9)
  have est12:=f12.tupAt (F11.tupAt est9)
  have dst12:=Da.frL f12 (Da.frL F11 dst9 (imm_stay st)) (imm_stay st)
  clear f10 f11 F11 e10 e11 n10 n11 er9 et9 est9 dst9 ba9 eb ek f12
  obtain ⟨⟨dx2,eb⟩,ek⟩:=id ba12
  have hnd:Nd m:=by rw [hm];split <;> simp [Nd]
  have hok:NmOk m:=by
    rw [hm];split
    · intro e he;rw [List.mem_singleton.mp he];exact ⟨by simp,by simp,by simp,by simp⟩
    · intro e he;exact nomatch he
  walk_at "go"
  refine c_Book_parties ⟨b,kd,r,S.nights,m,rfl,ba12,hnd,hok,fun p1 H13 n13 f13 e13=>?_⟩
  walk_at "go"
  rename_i H14 f14 e14
  have ba14:BookAt A H14 b kd r S.nights m:=⟨⟨dx2,f14.at (f13.at0 eb) (nin1 (ne_of_none eb n13) nin0)⟩,f14.at (f13.at0 ek) (nin1 (ne_of_none ek n13) nin0)⟩
  refine c_Book_parties ⟨b,kd,r,S.nights,m,rfl,ba14,hnd,hok,fun p2 H15 n15 f15 e15=>?_⟩
  walk_at "go"
  refine g_lenDT e15 ?_
  walk_at "go"
  refine g_iteN (fun w=>absurd ?_ w) (fun _=>?_)
  · rw [enD_len,hm];cases g <;> rfl
  have tupT:∀ {a:Addr} {xs:List V},H12 a=some (.tup xs)→H15 a=some (.tup xs):=fun h=>f15.tupAt (f14.tupAt (f13.tupAt h))
  have er15:=tupT er12
  have et15:=tupT et12
  have est15:=tupT est12
  clear f13 f14 f15 e13 e14 n13 ba14 e15 n15 hnd hok ek eb ba12 hm dst12 er12 et12 est12 tupT
  refine g_next ?_
  cases g with
  | true=>
    walk_at "go"
    rename_i u H16 n16 f16 e16
    refine g_repQ e16 ⟨by decide,by decide⟩ (by simp) fun gv H17 n17 f17 e17=>?_
    have e17':H17 gv=some (.lst [.non]):=e17
    walk_at "go"
    rename_i w H18 n18 f18 e18
    refine g_repQ e18 ⟨by decide,by decide⟩ (by simp) fun sv H19 n19 f19 e19=>?_
    have e19':H19 sv=some (.lst [.ref sta]):=e19
    have F:Fr [] H15 H19:=((f16.then0 f17).then0 f18).then0 f19
    walk_at "go"
    have gvn:Given S [st] (-1) [none]:=by
      have rn:∀ j,rmG [none] j=none:=fun j=>by
        unfold rmG
        cases j <;> rfl
      refine ⟨⟨rfl,fun j r h=>(by rw [rn] at h;cases h),fun j l r h=>(by rw [rn] at h;cases h)⟩,fun j hj=>⟨fun _=>?_,fun _=>rn j⟩⟩
      cases j with
      | zero=>obtain ⟨c0,c1,c2,c3,c4⟩:=sok;show (-1:Int) < st.2.1;omega
      | succ j=>exact absurd hj (by simp)
    refine c_housing ⟨r,sv,gv,[.ref sta],S,[st],-1,[none],rfl,rfl,rfl,rfl,F.tupAt er15,e19',.one' (F.tupAt est15 |> fun q=>.tup q (Nat.le_of_ble_eq_true rfl) (.cons (.int _) (.cons (.int _) (.one' (.int _))))),by simp,so,(fun s hs=>by rw [List.mem_singleton.mp hs];exact sok),(fits_one so sok hg),f19.at0 (f18.at0 e17'),gvn,fun f H20 n20 f20 e20=>?_⟩
    have hlen:((housedAll S [st] [none]).map optV).length≤1000:=by
      rw [List.length_map,(housed_all (fits_one so sok hg) (fun s hs=>by rw [List.mem_singleton.mp hs];exact sok) gvn).1.len]
      simp
    have e20g:H20 gv=some (.lst [.non]):=f20.at0 (f19.at0 (f18.at0 e17'))
    have ngf : gv≠f:=ne_of_none (f19.at0 (f18.at0 e17')) n20
    clear f16 f17 f18 f19 e16 e17 e17' e18 e19 e19' f20
    walk_at "go"
    rename_i H21 f21 e21 z H22 n22 f22 e22
    refine g_repQ e22 ⟨by decide,by decide⟩ (by simp) fun y H23 n23 f23 e23=>?_
    have e23':H23 y=some (.lst [.non]):=e23
    walk_at "go"
    refine c_Lequal ⟨.list [.none],.lst (f23.at0 (f22.at0 (f21.at e20g (nin1 ngf nin0)))) (by decide) (.one' .non),.lst e23' (by decide) (.one' .non),by simp [dp,dpL],?_⟩
    exact k _
  | false=>
    walk_at "go"
    rename_i u H16 n16 f16 e16
    refine g_repQ e16 ⟨by decide,by decide⟩ (by simp) fun gv H17 n17 f17 e17=>?_
    have e17':H17 gv=some (.lst []):=e17
    walk_at "go"
    rename_i w H18 n18 f18 e18
    refine g_repQ e18 ⟨by decide,by decide⟩ (by simp) fun sv H19 n19 f19 e19=>?_
    have e19':H19 sv=some (.lst []):=e19
    have F:Fr [] H15 H19:=((f16.then0 f17).then0 f18).then0 f19
    walk_at "go"
    have gvn:Given S [] (-1) []:=by
      have rn:∀ j,rmG [] j=none:=fun j=>by
        unfold rmG
        cases j <;> rfl
      refine ⟨⟨rfl,fun j r h=>(by rw [rn] at h;cases h),fun j l r h=>(by rw [rn] at h;cases h)⟩,fun j hj=>⟨fun _=>?_,fun _=>rn j⟩⟩
      exact absurd hj (Nat.not_lt_zero _)
    refine c_housing ⟨r,sv,gv,[],S,[],-1,[],rfl,rfl,rfl,rfl,F.tupAt er15,e19',.nil,by simp,so,(fun _ h=>absurd h List.not_mem_nil),(fun k n hk _=>by have:=(so.rm _ (List.getElem_mem hk)).1;rw [show S.rooms.getD k 0=S.rooms[k] from by rw [List.getD_eq_getElem?_getD,List.getElem?_eq_getElem hk];rfl];simpa using this),f19.at0 (f18.at0 e17'),gvn,fun f H20 n20 f20 e20=>?_⟩
    have hlen:((housedAll S [] []).map optV).length≤1000:=by
      rw [List.length_map,(housed_all (fun k n hk _=>by have:=(so.rm _ (List.getElem_mem hk)).1;rw [show S.rooms.getD k 0=S.rooms[k] from by rw [List.getD_eq_getElem?_getD,List.getElem?_eq_getElem hk];rfl];simpa using this) (fun _ h=>absurd h List.not_mem_nil) gvn).1.len]
      simp
    have e20g:H20 gv=some (.lst []):=f20.at0 (f19.at0 (f18.at0 e17'))
    have ngf : gv≠f:=ne_of_none (f19.at0 (f18.at0 e17')) n20
    clear f16 f17 f18 f19 e16 e17 e17' e18 e19 e19' f20
    walk_at "go"
    rename_i H21 f21 e21 z H22 n22 f22 e22
    refine g_repQ e22 ⟨by decide,by decide⟩ (by simp) fun y H23 n23 f23 e23=>?_
    have e23':H23 y=some (.lst []):=e23
    walk_at "go"
    refine c_Lequal ⟨.list [],.lst (f23.at0 (f22.at0 (f21.at e20g (nin1 ngf nin0)))) (by decide) (.nil),.lst e23' (by decide) (.nil),by simp [dp,dpL],?_⟩
    exact k _
theorem ok_law {f:Addr} {fd:FuncData} (F:Fun K "law" "law" s_law f fd) (T:Txt K mg A) (c_Lsetup:Cal P w K mg base "_law_setup" 3 ["_law_draws"] (sp_Lsetup K A)) (c_Lstay:Cal P w K mg base "_law_stay" 3 ["_law_draws","_law_setup_here"] (sp_Lstay K A)) (c_Book_init:CalC P w K mg base "Book" A.Book 1 ["self","rooms","nights"] (sp_Book_init K A)) (c_Book_wish:CalM P w K mg base A.Book "wish" 4 ["self","name","party"] (sp_Book_wish K A)) (c_housing:Cal P w K mg base "housing" 4 ["rooms","stays","night","given"] (sp_housing K A)) (c_Lequal:Cal P w K mg base "_law_equal" 25 ["_law_actual","_law_due"] (sp_Lequal K A 12)) (c_Lnumbers:Cal P w K mg base "_law_numbers" 2 ["_law_script"] (sp_Lnumbers K A)) (c_Lseller_keeps:Cal P w K mg base "_law_seller_keeps" 26 ["_law_draws","_law_setup_here"] (sp_Lseller_keeps K A)) (c_Lhouse_keeps:Cal P w K mg base "_law_house_keeps" 26 ["_law_draws","_law_setup_here"] (sp_Lhouse_keeps K A)) (c_Book_parties:CalM P w K mg base A.Book "parties" 1 ["self"] (sp_Book_parties K A)) : FnOk P w K mg base CX0 (27) f fd ["_law_script"] (sp_law K A):=by
  refine F.ok sc_law (fun vs H Q E h=>?_) (fun cdv Ar outer s H vs Q E hr h=>⟨t_law K A,?_,?_⟩)
  · obtain ⟨x0,rfl,_⟩:=h
    rfl
  · have hu:=hu_of hr
    exact (pss_cons (ps_set (i:=1) sc_law.nd rfl (Or.inl rfl) (pe_lst (pa_cons (pe_cl c_Lnumbers (hr.mono (by first | decide | omega)) (by rfl) (pa_cons (pv 0) pa_nil)) (pa_cons pe_int pa_nil))))
    (pss_cons (ps_set (i:=2) sc_law.nd rfl (Or.inl rfl) (pe_cl c_Lsetup (hr.mono (by first | decide | omega)) (by rfl) (pa_cons (pv 1) pa_nil)))
    (pss_cons (ps_if (PW.pt (pw_or (pt_not (pt_val (pe_cl c_Lseller_keeps (hr.mono (by first | decide | omega)) (by rfl) (pa_cons (pv 1) (pa_cons (pv 2) pa_nil))))) (pw_or1 (pt_not (pt_val (pe_cl c_Lhouse_keeps (hr.mono (by first | decide | omega)) (by rfl) (pa_cons (pv 1) (pa_cons (pv 2) pa_nil)))))))) (pss_one (ps_ret pe_bl)) pss_nil)
    (pss_cons (ps_set (i:=3) sc_law.nd rfl (Or.inl rfl) (pe_cl c_Lstay (hr.mono (by first | decide | omega)) (by rfl) (pa_cons (pv 1) (pa_cons (pv 2) pa_nil))))
    (pss_cons (ps_set (i:=4) sc_law.nd rfl (Or.inl rfl) (pe_mk c_Book_init (hr.mono (by first | decide | omega)) (by rfl) (pa_cons (pe_ix ix_tup (pv 2) pe_int (fun _ _=>rfl)) (pa_cons (pe_ix ix_tup (pv 2) pe_int (fun _ _=>rfl)) pa_nil))))
    (pss_cons (ps_set (i:=5) sc_law.nd rfl (Or.inl rfl) (pe_mt (pv 4) T.cl_Book c_Book_wish (hr.mono (by first | decide | omega)) (pa_cons (pe_tup (pa_cons pe_int (pa_cons pe_int pa_nil))) (pa_cons (pe_tup (pa_cons (pv 3) pa_nil)) pa_nil))))
    (pss_cons (ps_expr (pe_dclearT (pe_mt0 (pv 4) T.cl_Book c_Book_parties (hr.mono (by first | decide | omega)))))
    (pss_cons (ps_if (pt_cmpR op_ne (pe_cmpR op_eq (pe_callB call_len_dT (by rfl) T.b_len (by decide +kernel) (pa_cons (pe_mt0 (pv 4) T.cl_Book c_Book_parties (hr.mono (by first | decide | omega))) pa_nil)) pe_int (nomark _)) (pv 5) (nomark _)) (pss_one (ps_ret pe_bl)) pss_nil)
    (pss_cons (ps_set (i:=6) sc_law.nd rfl (Or.inl rfl) (pe_op op_rep (pe_lst (pa_cons pe_non pa_nil)) (pe_callTy b_intB (by rfl) T.b_int (by decide +kernel) (pa_cons (pv 5) pa_nil))))
    (pss_cons (ps_set (i:=7) sc_law.nd rfl (Or.inl rfl) (pe_cl c_housing (hr.mono (by first | decide | omega)) (by rfl) (pa_cons (pe_ix ix_tup (pv 2) pe_int (fun _ _=>rfl)) (pa_cons (pe_op op_rep (pe_lst (pa_cons (pv 3) pa_nil)) (pe_callTy b_intB (by rfl) T.b_int (by decide +kernel) (pa_cons (pv 5) pa_nil))) (pa_cons (pe_un un_neg pe_int) (pa_cons (pv 6) pa_nil))))))
    (pss_cons (ps_expr (pe_bm PySem.F.plainAttrs_list PySem.F.slot_list_append PySem.F.type_list_append mt_append (pv 7) (pa_cons pe_int pa_nil)))
    (pss_one (ps_ret (pe_cl c_Lequal (hr.mono (by first | decide | omega)) (by rfl) (pa_cons (pv 6) (pa_cons (pe_op op_rep (pe_lst (pa_cons pe_non pa_nil)) (pe_callTy b_intB (by rfl) T.b_int (by decide +kernel) (pa_cons (pv 5) pa_nil))) pa_nil))))))))))))))))
  · obtain ⟨x0,rfl,h⟩:=h
    exact pu_law T h
end
theorem all_mk {l:PySem.W.OpenLaw} {w:World} {K:PySem.W.Frag} {h:Heap} {mg:Str→Option Value} {fa:Addr} (X:K.In h) (G : h.Ns mainGlobals mg) (hfa : mg "law" = some (.ref fa))
    {f1:Addr} {od1 an1:Option Addr} {sl1:Array (Option Value)} {oc1 kV1 dc1 pm1 cd1 ct1:Value}
    {f2:Addr} {od2 an2:Option Addr} {sl2:Array (Option Value)} {oc2 kV2 dc2 pm2 cd2 ct2:Value}
    {f3:Addr} {od3 an3:Option Addr} {sl3:Array (Option Value)} {oc3 kV3 dc3 pm3 cd3 ct3:Value}
    {f4:Addr} {od4 an4:Option Addr} {sl4:Array (Option Value)} {oc4 kV4 dc4 pm4 cd4 ct4:Value}
    {f5:Addr} {od5 an5:Option Addr} {sl5:Array (Option Value)} {oc5 kV5 dc5 pm5 cd5 ct5:Value}
    {f6:Addr} {od6 an6:Option Addr} {sl6:Array (Option Value)} {oc6 kV6 dc6 pm6 cd6 ct6:Value}
    {f7:Addr} {od7 an7:Option Addr} {sl7:Array (Option Value)} {oc7 kV7 dc7 pm7 cd7 ct7:Value}
    {f8:Addr} {od8 an8:Option Addr} {sl8:Array (Option Value)} {oc8 kV8 dc8 pm8 cd8 ct8:Value}
    {f9:Addr} {od9 an9:Option Addr} {sl9:Array (Option Value)} {oc9 kV9 dc9 pm9 cd9 ct9:Value}
    {f10:Addr} {od10 an10:Option Addr} {sl10:Array (Option Value)} {oc10 kV10 dc10 pm10 cd10 ct10:Value}
    {f11:Addr} {od11 an11:Option Addr} {sl11:Array (Option Value)} {oc11 kV11 dc11 pm11 cd11 ct11:Value}
    {f12:Addr} {od12 an12:Option Addr} {sl12:Array (Option Value)} {oc12 kV12 dc12 pm12 cd12 ct12:Value}
    {f13:Addr} {od13 an13:Option Addr} {sl13:Array (Option Value)} {oc13 kV13 dc13 pm13 cd13 ct13:Value}
    {f14:Addr} {od14 an14:Option Addr} {sl14:Array (Option Value)} {oc14 kV14 dc14 pm14 cd14 ct14:Value}
    {f15:Addr} {od15 an15:Option Addr} {sl15:Array (Option Value)} {oc15 kV15 dc15 pm15 cd15 ct15:Value}
    {f16:Addr} {od16 an16:Option Addr} {sl16:Array (Option Value)} {oc16 kV16 dc16 pm16 cd16 ct16:Value}
    {f17:Addr} {od17 an17:Option Addr} {sl17:Array (Option Value)} {oc17 kV17 dc17 pm17 cd17 ct17:Value}
    {f18:Addr} {od18 an18:Option Addr} {sl18:Array (Option Value)} {oc18 kV18 dc18 pm18 cd18 ct18:Value}
    {f19:Addr} {od19 an19:Option Addr} {sl19:Array (Option Value)} {oc19 kV19 dc19 pm19 cd19 ct19:Value}
    {f20:Addr} {od20 an20:Option Addr} {sl20:Array (Option Value)} {oc20 kV20 dc20 pm20 cd20 ct20:Value}
    {f21:Addr} {od21 an21:Option Addr} {sl21:Array (Option Value)} {oc21 kV21 dc21 pm21 cd21 ct21:Value}
    {f22:Addr} {od22 an22:Option Addr} {sl22:Array (Option Value)} {oc22 kV22 dc22 pm22 cd22 ct22:Value}
    {f23:Addr} {od23 an23:Option Addr} {sl23:Array (Option Value)} {oc23 kV23 dc23 pm23 cd23 ct23:Value}
    {f24:Addr} {od24 an24:Option Addr} {sl24:Array (Option Value)} {oc24 kV24 dc24 pm24 cd24 ct24:Value}
    {f25:Addr} {od25 an25:Option Addr} {sl25:Array (Option Value)} {oc25 kV25 dc25 pm25 cd25 ct25:Value}
    {f26:Addr} {od26 an26:Option Addr} {sl26:Array (Option Value)} {oc26 kV26 dc26 pm26 cd26 ct26:Value}
    {f27:Addr} {od27 an27:Option Addr} {sl27:Array (Option Value)} {oc27 kV27 dc27 pm27 cd27 ct27:Value}
    {f28:Addr} {od28 an28:Option Addr} {sl28:Array (Option Value)} {oc28 kV28 dc28 pm28 cd28 ct28:Value}
    {f29:Addr} {od29 an29:Option Addr} {sl29:Array (Option Value)} {oc29 kV29 dc29 pm29 cd29 ct29:Value}
    {f30:Addr} {od30 an30:Option Addr} {sl30:Array (Option Value)} {oc30 kV30 dc30 pm30 cd30 ct30:Value}
    {f31:Addr} {od31 an31:Option Addr} {sl31:Array (Option Value)} {oc31 kV31 dc31 pm31 cd31 ct31:Value}
    {f32:Addr} {od32 an32:Option Addr} {sl32:Array (Option Value)} {oc32 kV32 dc32 pm32 cd32 ct32:Value}
    {f33:Addr} {od33 an33:Option Addr} {sl33:Array (Option Value)} {oc33 kV33 dc33 pm33 cd33 ct33:Value}
    {f34:Addr} {od34 an34:Option Addr} {sl34:Array (Option Value)} {oc34 kV34 dc34 pm34 cd34 ct34:Value}
    {f35:Addr} {od35 an35:Option Addr} {sl35:Array (Option Value)} {oc35 kV35 dc35 pm35 cd35 ct35:Value}
    {f36:Addr} {od36 an36:Option Addr} {sl36:Array (Option Value)} {oc36 kV36 dc36 pm36 cd36 ct36:Value}
    {f37:Addr} {od37 an37:Option Addr} {sl37:Array (Option Value)} {oc37 kV37 dc37 pm37 cd37 ct37:Value}
    {f38:Addr} {od38 an38:Option Addr} {sl38:Array (Option Value)} {oc38 kV38 dc38 pm38 cd38 ct38:Value}
    {f39:Addr} {od39 an39:Option Addr} {sl39:Array (Option Value)} {oc39 kV39 dc39 pm39 cd39 ct39:Value}
    {f40:Addr} {od40 an40:Option Addr} {sl40:Array (Option Value)} {oc40 kV40 dc40 pm40 cd40 ct40:Value}
    {f41:Addr} {od41 an41:Option Addr} {sl41:Array (Option Value)} {oc41 kV41 dc41 pm41 cd41 ct41:Value}
    {f42:Addr} {od42 an42:Option Addr} {sl42:Array (Option Value)} {oc42 kV42 dc42 pm42 cd42 ct42:Value}
    {f43:Addr} {od43 an43:Option Addr} {sl43:Array (Option Value)} {oc43 kV43 dc43 pm43 cd43 ct43:Value}
    {f44:Addr} {od44 an44:Option Addr} {sl44:Array (Option Value)} {oc44 kV44 dc44 pm44 cd44 ct44:Value}
    {f45:Addr} {od45 an45:Option Addr} {sl45:Array (Option Value)} {oc45 kV45 dc45 pm45 cd45 ct45:Value}
    {f46:Addr} {od46 an46:Option Addr} {sl46:Array (Option Value)} {oc46 kV46 dc46 pm46 cd46 ct46:Value}
    {f47:Addr} {od47 an47:Option Addr} {sl47:Array (Option Value)} {oc47 kV47 dc47 pm47 cd47 ct47:Value}
    {f48:Addr} {od48 an48:Option Addr} {sl48:Array (Option Value)} {oc48 kV48 dc48 pm48 cd48 ct48:Value}
    {f49:Addr} {od49 an49:Option Addr} {sl49:Array (Option Value)} {oc49 kV49 dc49 pm49 cd49 ct49:Value}
    {f50:Addr} {od50 an50:Option Addr} {sl50:Array (Option Value)} {oc50 kV50 dc50 pm50 cd50 ct50:Value}
    {f51:Addr} {od51 an51:Option Addr} {sl51:Array (Option Value)} {oc51 kV51 dc51 pm51 cd51 ct51:Value}
    {f52:Addr} {od52 an52:Option Addr} {sl52:Array (Option Value)} {oc52 kV52 dc52 pm52 cd52 ct52:Value}
    {f53:Addr} {od53 an53:Option Addr} {sl53:Array (Option Value)} {oc53 kV53 dc53 pm53 cd53 ct53:Value}
    {f54:Addr} {od54 an54:Option Addr} {sl54:Array (Option Value)} {oc54 kV54 dc54 pm54 cd54 ct54:Value}
    {C_Book:Addr}
    {C_Seller:Addr}
    {C_House:Addr}
    (aC_Book:PySem.W.nsIn K mainGlobals "Book" = some (some (.ref C_Book)))
    (aC_Seller:PySem.W.nsIn K mainGlobals "Seller" = some (some (.ref C_Seller)))
    (aC_House:PySem.W.nsIn K mainGlobals "House" = some (some (.ref C_House)))
    (a1:PySem.W.nsIn K mainGlobals "is_integer" = some (some (.ref f1)))
    (l1:K.lookup f1=some ⟨oc1,od1,.func (PySem.W.fnOf "is_integer" "is_integer" (defArgs s_is_integer) (defBody s_is_integer) (defScope s_is_integer) .none kV1 dc1 pm1 an1 cd1 ct1),sl1⟩)
    (c1:PySem.W.codeIn K cd1 "is_integer" = true)
    (k1:PySem.W.keepIn K (.ref f1)=true)
    (a2:PySem.W.nsIn K mainGlobals "is_from" = some (some (.ref f2)))
    (l2:K.lookup f2=some ⟨oc2,od2,.func (PySem.W.fnOf "is_from" "is_from" (defArgs s_is_from) (defBody s_is_from) (defScope s_is_from) .none kV2 dc2 pm2 an2 cd2 ct2),sl2⟩)
    (c2:PySem.W.codeIn K cd2 "is_from" = true)
    (k2:PySem.W.keepIn K (.ref f2)=true)
    (a3:PySem.W.nsIn K mainGlobals "nights_of" = some (some (.ref f3)))
    (l3:K.lookup f3=some ⟨oc3,od3,.func (PySem.W.fnOf "nights_of" "nights_of" (defArgs s_nights_of) (defBody s_nights_of) (defScope s_nights_of) .none kV3 dc3 pm3 an3 cd3 ct3),sl3⟩)
    (c3:PySem.W.codeIn K cd3 "nights_of" = true)
    (k3:PySem.W.keepIn K (.ref f3)=true)
    (a4:PySem.W.nsIn K mainGlobals "meet" = some (some (.ref f4)))
    (l4:K.lookup f4=some ⟨oc4,od4,.func (PySem.W.fnOf "meet" "meet" (defArgs s_meet) (defBody s_meet) (defScope s_meet) .none kV4 dc4 pm4 an4 cd4 ct4),sl4⟩)
    (c4:PySem.W.codeIn K cd4 "meet" = true)
    (k4:PySem.W.keepIn K (.ref f4)=true)
    (a5:PySem.W.nsIn K mainGlobals "check_room" = some (some (.ref f5)))
    (l5:K.lookup f5=some ⟨oc5,od5,.func (PySem.W.fnOf "check_room" "check_room" (defArgs s_check_room) (defBody s_check_room) (defScope s_check_room) .none kV5 dc5 pm5 an5 cd5 ct5),sl5⟩)
    (c5:PySem.W.codeIn K cd5 "check_room" = true)
    (k5:PySem.W.keepIn K (.ref f5)=true)
    (a6:PySem.W.nsIn K mainGlobals "check_given" = some (some (.ref f6)))
    (l6:K.lookup f6=some ⟨oc6,od6,.func (PySem.W.fnOf "check_given" "check_given" (defArgs s_check_given) (defBody s_check_given) (defScope s_check_given) .none kV6 dc6 pm6 an6 cd6 ct6),sl6⟩)
    (c6:PySem.W.codeIn K cd6 "check_given" = true)
    (k6:PySem.W.keepIn K (.ref f6)=true)
    (a7:PySem.W.nsIn K mainGlobals "housing" = some (some (.ref f7)))
    (l7:K.lookup f7=some ⟨oc7,od7,.func (PySem.W.fnOf "housing" "housing" (defArgs s_housing) (defBody s_housing) (defScope s_housing) .none kV7 dc7 pm7 an7 cd7 ct7),sl7⟩)
    (c7:PySem.W.codeIn K cd7 "housing" = true)
    (k7:PySem.W.keepIn K (.ref f7)=true)
    (a8:PySem.W.nsIn K mainGlobals "needs_of" = some (some (.ref f8)))
    (l8:K.lookup f8=some ⟨oc8,od8,.func (PySem.W.fnOf "needs_of" "needs_of" (defArgs s_needs_of) (defBody s_needs_of) (defScope s_needs_of) .none kV8 dc8 pm8 an8 cd8 ct8),sl8⟩)
    (c8:PySem.W.codeIn K cd8 "needs_of" = true)
    (k8:PySem.W.keepIn K (.ref f8)=true)
    (a9:PySem.W.nsIn K mainGlobals "price_of" = some (some (.ref f9)))
    (l9:K.lookup f9=some ⟨oc9,od9,.func (PySem.W.fnOf "price_of" "price_of" (defArgs s_price_of) (defBody s_price_of) (defScope s_price_of) .none kV9 dc9 pm9 an9 cd9 ct9),sl9⟩)
    (c9:PySem.W.codeIn K cd9 "price_of" = true)
    (k9:PySem.W.keepIn K (.ref f9)=true)
    (a10:PySem.W.nsIn K mainGlobals "kept_of" = some (some (.ref f10)))
    (l10:K.lookup f10=some ⟨oc10,od10,.func (PySem.W.fnOf "kept_of" "kept_of" (defArgs s_kept_of) (defBody s_kept_of) (defScope s_kept_of) .none kV10 dc10 pm10 an10 cd10 ct10),sl10⟩)
    (c10:PySem.W.codeIn K cd10 "kept_of" = true)
    (k10:PySem.W.keepIn K (.ref f10)=true)
    (a11:PySem.W.findIn K (.ref C_Book) "__init__" = some (some (.ref f11)))
    (i11:PySem.W.isFn K (.ref f11)=true)
    (l11:K.lookup f11=some ⟨oc11,od11,.func (PySem.W.fnOf "__init__" "Book.__init__" (defArgs s_Book_init) (defBody s_Book_init) (defScope s_Book_init) .none kV11 dc11 pm11 an11 cd11 ct11),sl11⟩)
    (c11:PySem.W.codeIn K cd11 "Book.__init__" = true)
    (k11:PySem.W.keepIn K (.ref f11)=true)
    (a12:PySem.W.findIn K (.ref C_Book) "free" = some (some (.ref f12)))
    (i12:PySem.W.isFn K (.ref f12)=true)
    (l12:K.lookup f12=some ⟨oc12,od12,.func (PySem.W.fnOf "free" "Book.free" (defArgs s_Book_free) (defBody s_Book_free) (defScope s_Book_free) .none kV12 dc12 pm12 an12 cd12 ct12),sl12⟩)
    (c12:PySem.W.codeIn K cd12 "Book.free" = true)
    (k12:PySem.W.keepIn K (.ref f12)=true)
    (a13:PySem.W.findIn K (.ref C_Book) "fits" = some (some (.ref f13)))
    (i13:PySem.W.isFn K (.ref f13)=true)
    (l13:K.lookup f13=some ⟨oc13,od13,.func (PySem.W.fnOf "fits" "Book.fits" (defArgs s_Book_fits) (defBody s_Book_fits) (defScope s_Book_fits) .none kV13 dc13 pm13 an13 cd13 ct13),sl13⟩)
    (c13:PySem.W.codeIn K cd13 "Book.fits" = true)
    (k13:PySem.W.keepIn K (.ref f13)=true)
    (a14:PySem.W.findIn K (.ref C_Book) "wish" = some (some (.ref f14)))
    (i14:PySem.W.isFn K (.ref f14)=true)
    (l14:K.lookup f14=some ⟨oc14,od14,.func (PySem.W.fnOf "wish" "Book.wish" (defArgs s_Book_wish) (defBody s_Book_wish) (defScope s_Book_wish) .none kV14 dc14 pm14 an14 cd14 ct14),sl14⟩)
    (c14:PySem.W.codeIn K cd14 "Book.wish" = true)
    (k14:PySem.W.keepIn K (.ref f14)=true)
    (a15:PySem.W.findIn K (.ref C_Book) "cancel" = some (some (.ref f15)))
    (i15:PySem.W.isFn K (.ref f15)=true)
    (l15:K.lookup f15=some ⟨oc15,od15,.func (PySem.W.fnOf "cancel" "Book.cancel" (defArgs s_Book_cancel) (defBody s_Book_cancel) (defScope s_Book_cancel) .none kV15 dc15 pm15 an15 cd15 ct15),sl15⟩)
    (c15:PySem.W.codeIn K cd15 "Book.cancel" = true)
    (k15:PySem.W.keepIn K (.ref f15)=true)
    (a16:PySem.W.findIn K (.ref C_Book) "change" = some (some (.ref f16)))
    (i16:PySem.W.isFn K (.ref f16)=true)
    (l16:K.lookup f16=some ⟨oc16,od16,.func (PySem.W.fnOf "change" "Book.change" (defArgs s_Book_change) (defBody s_Book_change) (defScope s_Book_change) .none kV16 dc16 pm16 an16 cd16 ct16),sl16⟩)
    (c16:PySem.W.codeIn K cd16 "Book.change" = true)
    (k16:PySem.W.keepIn K (.ref f16)=true)
    (a17:PySem.W.findIn K (.ref C_Book) "parties" = some (some (.ref f17)))
    (i17:PySem.W.isFn K (.ref f17)=true)
    (l17:K.lookup f17=some ⟨oc17,od17,.func (PySem.W.fnOf "parties" "Book.parties" (defArgs s_Book_parties) (defBody s_Book_parties) (defScope s_Book_parties) .none kV17 dc17 pm17 an17 cd17 ct17),sl17⟩)
    (c17:PySem.W.codeIn K cd17 "Book.parties" = true)
    (k17:PySem.W.keepIn K (.ref f17)=true)
    (a18:PySem.W.findIn K (.ref C_Seller) "__init__" = some (some (.ref f18)))
    (i18:PySem.W.isFn K (.ref f18)=true)
    (l18:K.lookup f18=some ⟨oc18,od18,.func (PySem.W.fnOf "__init__" "Seller.__init__" (defArgs s_Seller_init) (defBody s_Seller_init) (defScope s_Seller_init) .none kV18 dc18 pm18 an18 cd18 ct18),sl18⟩)
    (c18:PySem.W.codeIn K cd18 "Seller.__init__" = true)
    (k18:PySem.W.keepIn K (.ref f18)=true)
    (a19:PySem.W.findIn K (.ref C_Seller) "bodies" = some (some (.ref f19)))
    (i19:PySem.W.isFn K (.ref f19)=true)
    (l19:K.lookup f19=some ⟨oc19,od19,.func (PySem.W.fnOf "bodies" "Seller.bodies" (defArgs s_Seller_bodies) (defBody s_Seller_bodies) (defScope s_Seller_bodies) .none kV19 dc19 pm19 an19 cd19 ct19),sl19⟩)
    (c19:PySem.W.codeIn K cd19 "Seller.bodies" = true)
    (k19:PySem.W.keepIn K (.ref f19)=true)
    (a20:PySem.W.findIn K (.ref C_Seller) "answers" = some (some (.ref f20)))
    (i20:PySem.W.isFn K (.ref f20)=true)
    (l20:K.lookup f20=some ⟨oc20,od20,.func (PySem.W.fnOf "answers" "Seller.answers" (defArgs s_Seller_answers) (defBody s_Seller_answers) (defScope s_Seller_answers) .none kV20 dc20 pm20 an20 cd20 ct20),sl20⟩)
    (c20:PySem.W.codeIn K cd20 "Seller.answers" = true)
    (k20:PySem.W.keepIn K (.ref f20)=true)
    (a21:PySem.W.findIn K (.ref C_Seller) "voucher" = some (some (.ref f21)))
    (i21:PySem.W.isFn K (.ref f21)=true)
    (l21:K.lookup f21=some ⟨oc21,od21,.func (PySem.W.fnOf "voucher" "Seller.voucher" (defArgs s_Seller_voucher) (defBody s_Seller_voucher) (defScope s_Seller_voucher) .none kV21 dc21 pm21 an21 cd21 ct21),sl21⟩)
    (c21:PySem.W.codeIn K cd21 "Seller.voucher" = true)
    (k21:PySem.W.keepIn K (.ref f21)=true)
    (a22:PySem.W.findIn K (.ref C_Seller) "must_wait" = some (some (.ref f22)))
    (i22:PySem.W.isFn K (.ref f22)=true)
    (l22:K.lookup f22=some ⟨oc22,od22,.func (PySem.W.fnOf "must_wait" "Seller.must_wait" (defArgs s_Seller_must_wait) (defBody s_Seller_must_wait) (defScope s_Seller_must_wait) .none kV22 dc22 pm22 an22 cd22 ct22),sl22⟩)
    (c22:PySem.W.codeIn K cd22 "Seller.must_wait" = true)
    (k22:PySem.W.keepIn K (.ref f22)=true)
    (a23:PySem.W.findIn K (.ref C_Seller) "lack" = some (some (.ref f23)))
    (i23:PySem.W.isFn K (.ref f23)=true)
    (l23:K.lookup f23=some ⟨oc23,od23,.func (PySem.W.fnOf "lack" "Seller.lack" (defArgs s_Seller_lack) (defBody s_Seller_lack) (defScope s_Seller_lack) .none kV23 dc23 pm23 an23 cd23 ct23),sl23⟩)
    (c23:PySem.W.codeIn K cd23 "Seller.lack" = true)
    (k23:PySem.W.keepIn K (.ref f23)=true)
    (a24:PySem.W.findIn K (.ref C_Seller) "add" = some (some (.ref f24)))
    (i24:PySem.W.isFn K (.ref f24)=true)
    (l24:K.lookup f24=some ⟨oc24,od24,.func (PySem.W.fnOf "add" "Seller.add" (defArgs s_Seller_add) (defBody s_Seller_add) (defScope s_Seller_add) .none kV24 dc24 pm24 an24 cd24 ct24),sl24⟩)
    (c24:PySem.W.codeIn K cd24 "Seller.add" = true)
    (k24:PySem.W.keepIn K (.ref f24)=true)
    (a25:PySem.W.findIn K (.ref C_Seller) "prices" = some (some (.ref f25)))
    (i25:PySem.W.isFn K (.ref f25)=true)
    (l25:K.lookup f25=some ⟨oc25,od25,.func (PySem.W.fnOf "prices" "Seller.prices" (defArgs s_Seller_prices) (defBody s_Seller_prices) (defScope s_Seller_prices) .none kV25 dc25 pm25 an25 cd25 ct25),sl25⟩)
    (c25:PySem.W.codeIn K cd25 "Seller.prices" = true)
    (k25:PySem.W.keepIn K (.ref f25)=true)
    (a26:PySem.W.findIn K (.ref C_Seller) "write" = some (some (.ref f26)))
    (i26:PySem.W.isFn K (.ref f26)=true)
    (l26:K.lookup f26=some ⟨oc26,od26,.func (PySem.W.fnOf "write" "Seller.write" (defArgs s_Seller_write) (defBody s_Seller_write) (defScope s_Seller_write) .none kV26 dc26 pm26 an26 cd26 ct26),sl26⟩)
    (c26:PySem.W.codeIn K cd26 "Seller.write" = true)
    (k26:PySem.W.keepIn K (.ref f26)=true)
    (a27:PySem.W.findIn K (.ref C_Seller) "cancel" = some (some (.ref f27)))
    (i27:PySem.W.isFn K (.ref f27)=true)
    (l27:K.lookup f27=some ⟨oc27,od27,.func (PySem.W.fnOf "cancel" "Seller.cancel" (defArgs s_Seller_cancel) (defBody s_Seller_cancel) (defScope s_Seller_cancel) .none kV27 dc27 pm27 an27 cd27 ct27),sl27⟩)
    (c27:PySem.W.codeIn K cd27 "Seller.cancel" = true)
    (k27:PySem.W.keepIn K (.ref f27)=true)
    (a28:PySem.W.findIn K (.ref C_Seller) "keep" = some (some (.ref f28)))
    (i28:PySem.W.isFn K (.ref f28)=true)
    (l28:K.lookup f28=some ⟨oc28,od28,.func (PySem.W.fnOf "keep" "Seller.keep" (defArgs s_Seller_keep) (defBody s_Seller_keep) (defScope s_Seller_keep) .none kV28 dc28 pm28 an28 cd28 ct28),sl28⟩)
    (c28:PySem.W.codeIn K cd28 "Seller.keep" = true)
    (k28:PySem.W.keepIn K (.ref f28)=true)
    (a29:PySem.W.findIn K (.ref C_Seller) "do" = some (some (.ref f29)))
    (i29:PySem.W.isFn K (.ref f29)=true)
    (l29:K.lookup f29=some ⟨oc29,od29,.func (PySem.W.fnOf "do" "Seller.do" (defArgs s_Seller_do) (defBody s_Seller_do) (defScope s_Seller_do) .none kV29 dc29 pm29 an29 cd29 ct29),sl29⟩)
    (c29:PySem.W.codeIn K cd29 "Seller.do" = true)
    (k29:PySem.W.keepIn K (.ref f29)=true)
    (a30:PySem.W.findIn K (.ref C_Seller) "ask" = some (some (.ref f30)))
    (i30:PySem.W.isFn K (.ref f30)=true)
    (l30:K.lookup f30=some ⟨oc30,od30,.func (PySem.W.fnOf "ask" "Seller.ask" (defArgs s_Seller_ask) (defBody s_Seller_ask) (defScope s_Seller_ask) .none kV30 dc30 pm30 an30 cd30 ct30),sl30⟩)
    (c30:PySem.W.codeIn K cd30 "Seller.ask" = true)
    (k30:PySem.W.keepIn K (.ref f30)=true)
    (a31:PySem.W.findIn K (.ref C_Seller) "close" = some (some (.ref f31)))
    (i31:PySem.W.isFn K (.ref f31)=true)
    (l31:K.lookup f31=some ⟨oc31,od31,.func (PySem.W.fnOf "close" "Seller.close" (defArgs s_Seller_close) (defBody s_Seller_close) (defScope s_Seller_close) .none kV31 dc31 pm31 an31 cd31 ct31),sl31⟩)
    (c31:PySem.W.codeIn K cd31 "Seller.close" = true)
    (k31:PySem.W.keepIn K (.ref f31)=true)
    (a32:PySem.W.findIn K (.ref C_Seller) "reopen" = some (some (.ref f32)))
    (i32:PySem.W.isFn K (.ref f32)=true)
    (l32:K.lookup f32=some ⟨oc32,od32,.func (PySem.W.fnOf "reopen" "Seller.reopen" (defArgs s_Seller_reopen) (defBody s_Seller_reopen) (defScope s_Seller_reopen) .none kV32 dc32 pm32 an32 cd32 ct32),sl32⟩)
    (c32:PySem.W.codeIn K cd32 "Seller.reopen" = true)
    (k32:PySem.W.keepIn K (.ref f32)=true)
    (a33:PySem.W.findIn K (.ref C_Seller) "handle" = some (some (.ref f33)))
    (i33:PySem.W.isFn K (.ref f33)=true)
    (l33:K.lookup f33=some ⟨oc33,od33,.func (PySem.W.fnOf "handle" "Seller.handle" (defArgs s_Seller_handle) (defBody s_Seller_handle) (defScope s_Seller_handle) .none kV33 dc33 pm33 an33 cd33 ct33),sl33⟩)
    (c33:PySem.W.codeIn K cd33 "Seller.handle" = true)
    (k33:PySem.W.keepIn K (.ref f33)=true)
    (a34:PySem.W.findIn K (.ref C_House) "__init__" = some (some (.ref f34)))
    (i34:PySem.W.isFn K (.ref f34)=true)
    (l34:K.lookup f34=some ⟨oc34,od34,.func (PySem.W.fnOf "__init__" "House.__init__" (defArgs s_House_init) (defBody s_House_init) (defScope s_House_init) .none kV34 dc34 pm34 an34 cd34 ct34),sl34⟩)
    (c34:PySem.W.codeIn K cd34 "House.__init__" = true)
    (k34:PySem.W.keepIn K (.ref f34)=true)
    (a35:PySem.W.findIn K (.ref C_House) "bodies" = some (some (.ref f35)))
    (i35:PySem.W.isFn K (.ref f35)=true)
    (l35:K.lookup f35=some ⟨oc35,od35,.func (PySem.W.fnOf "bodies" "House.bodies" (defArgs s_House_bodies) (defBody s_House_bodies) (defScope s_House_bodies) .none kV35 dc35 pm35 an35 cd35 ct35),sl35⟩)
    (c35:PySem.W.codeIn K cd35 "House.bodies" = true)
    (k35:PySem.W.keepIn K (.ref f35)=true)
    (a36:PySem.W.findIn K (.ref C_House) "cells" = some (some (.ref f36)))
    (i36:PySem.W.isFn K (.ref f36)=true)
    (l36:K.lookup f36=some ⟨oc36,od36,.func (PySem.W.fnOf "cells" "House.cells" (defArgs s_House_cells) (defBody s_House_cells) (defScope s_House_cells) .none kV36 dc36 pm36 an36 cd36 ct36),sl36⟩)
    (c36:PySem.W.codeIn K cd36 "House.cells" = true)
    (k36:PySem.W.keepIn K (.ref f36)=true)
    (a37:PySem.W.findIn K (.ref C_House) "look" = some (some (.ref f37)))
    (i37:PySem.W.isFn K (.ref f37)=true)
    (l37:K.lookup f37=some ⟨oc37,od37,.func (PySem.W.fnOf "look" "House.look" (defArgs s_House_look) (defBody s_House_look) (defScope s_House_look) .none kV37 dc37 pm37 an37 cd37 ct37),sl37⟩)
    (c37:PySem.W.codeIn K cd37 "House.look" = true)
    (k37:PySem.W.keepIn K (.ref f37)=true)
    (a38:PySem.W.findIn K (.ref C_House) "decide" = some (some (.ref f38)))
    (i38:PySem.W.isFn K (.ref f38)=true)
    (l38:K.lookup f38=some ⟨oc38,od38,.func (PySem.W.fnOf "decide" "House.decide" (defArgs s_House_decide) (defBody s_House_decide) (defScope s_House_decide) .none kV38 dc38 pm38 an38 cd38 ct38),sl38⟩)
    (c38:PySem.W.codeIn K cd38 "House.decide" = true)
    (k38:PySem.W.keepIn K (.ref f38)=true)
    (a39:PySem.W.findIn K (.ref C_House) "closed" = some (some (.ref f39)))
    (i39:PySem.W.isFn K (.ref f39)=true)
    (l39:K.lookup f39=some ⟨oc39,od39,.func (PySem.W.fnOf "closed" "House.closed" (defArgs s_House_closed) (defBody s_House_closed) (defScope s_House_closed) .none kV39 dc39 pm39 an39 cd39 ct39),sl39⟩)
    (c39:PySem.W.codeIn K cd39 "House.closed" = true)
    (k39:PySem.W.keepIn K (.ref f39)=true)
    (a40:PySem.W.findIn K (.ref C_House) "handle" = some (some (.ref f40)))
    (i40:PySem.W.isFn K (.ref f40)=true)
    (l40:K.lookup f40=some ⟨oc40,od40,.func (PySem.W.fnOf "handle" "House.handle" (defArgs s_House_handle) (defBody s_House_handle) (defScope s_House_handle) .none kV40 dc40 pm40 an40 cd40 ct40),sl40⟩)
    (c40:PySem.W.codeIn K cd40 "House.handle" = true)
    (k40:PySem.W.keepIn K (.ref f40)=true)
    (a41:PySem.W.findIn K (.ref C_House) "give" = some (some (.ref f41)))
    (i41:PySem.W.isFn K (.ref f41)=true)
    (l41:K.lookup f41=some ⟨oc41,od41,.func (PySem.W.fnOf "give" "House.give" (defArgs s_House_give) (defBody s_House_give) (defScope s_House_give) .none kV41 dc41 pm41 an41 cd41 ct41),sl41⟩)
    (c41:PySem.W.codeIn K cd41 "House.give" = true)
    (k41:PySem.W.keepIn K (.ref f41)=true)
    (a42:PySem.W.findIn K (.ref C_House) "want" = some (some (.ref f42)))
    (i42:PySem.W.isFn K (.ref f42)=true)
    (l42:K.lookup f42=some ⟨oc42,od42,.func (PySem.W.fnOf "want" "House.want" (defArgs s_House_want) (defBody s_House_want) (defScope s_House_want) .none kV42 dc42 pm42 an42 cd42 ct42),sl42⟩)
    (c42:PySem.W.codeIn K cd42 "House.want" = true)
    (k42:PySem.W.keepIn K (.ref f42)=true)
    (a43:PySem.W.nsIn K mainGlobals "_law_mixed" = some (some (.ref f43)))
    (l43:K.lookup f43=some ⟨oc43,od43,.func (PySem.W.fnOf "_law_mixed" "_law_mixed" (defArgs s_Lmixed) (defBody s_Lmixed) (defScope s_Lmixed) .none kV43 dc43 pm43 an43 cd43 ct43),sl43⟩)
    (c43:PySem.W.codeIn K cd43 "_law_mixed" = true)
    (k43:PySem.W.keepIn K (.ref f43)=true)
    (a44:PySem.W.nsIn K mainGlobals "_law_numbers" = some (some (.ref f44)))
    (l44:K.lookup f44=some ⟨oc44,od44,.func (PySem.W.fnOf "_law_numbers" "_law_numbers" (defArgs s_Lnumbers) (defBody s_Lnumbers) (defScope s_Lnumbers) .none kV44 dc44 pm44 an44 cd44 ct44),sl44⟩)
    (c44:PySem.W.codeIn K cd44 "_law_numbers" = true)
    (k44:PySem.W.keepIn K (.ref f44)=true)
    (a45:PySem.W.nsIn K mainGlobals "_law_draw" = some (some (.ref f45)))
    (l45:K.lookup f45=some ⟨oc45,od45,.func (PySem.W.fnOf "_law_draw" "_law_draw" (defArgs s_Ldraw) (defBody s_Ldraw) (defScope s_Ldraw) .none kV45 dc45 pm45 an45 cd45 ct45),sl45⟩)
    (c45:PySem.W.codeIn K cd45 "_law_draw" = true)
    (k45:PySem.W.keepIn K (.ref f45)=true)
    (a46:PySem.W.nsIn K mainGlobals "_law_equal" = some (some (.ref f46)))
    (l46:K.lookup f46=some ⟨oc46,od46,.func (PySem.W.fnOf "_law_equal" "_law_equal" (defArgs s_Lequal) (defBody s_Lequal) (defScope s_Lequal) .none kV46 dc46 pm46 an46 cd46 ct46),sl46⟩)
    (c46:PySem.W.codeIn K cd46 "_law_equal" = true)
    (k46:PySem.W.keepIn K (.ref f46)=true)
    (a47:PySem.W.nsIn K mainGlobals "_law_all_equal" = some (some (.ref f47)))
    (l47:K.lookup f47=some ⟨oc47,od47,.func (PySem.W.fnOf "_law_all_equal" "_law_all_equal" (defArgs s_Lall_equal) (defBody s_Lall_equal) (defScope s_Lall_equal) .none kV47 dc47 pm47 an47 cd47 ct47),sl47⟩)
    (c47:PySem.W.codeIn K cd47 "_law_all_equal" = true)
    (k47:PySem.W.keepIn K (.ref f47)=true)
    (a48:PySem.W.nsIn K mainGlobals "_law_setup" = some (some (.ref f48)))
    (l48:K.lookup f48=some ⟨oc48,od48,.func (PySem.W.fnOf "_law_setup" "_law_setup" (defArgs s_Lsetup) (defBody s_Lsetup) (defScope s_Lsetup) .none kV48 dc48 pm48 an48 cd48 ct48),sl48⟩)
    (c48:PySem.W.codeIn K cd48 "_law_setup" = true)
    (k48:PySem.W.keepIn K (.ref f48)=true)
    (a49:PySem.W.nsIn K mainGlobals "_law_stay" = some (some (.ref f49)))
    (l49:K.lookup f49=some ⟨oc49,od49,.func (PySem.W.fnOf "_law_stay" "_law_stay" (defArgs s_Lstay) (defBody s_Lstay) (defScope s_Lstay) .none kV49 dc49 pm49 an49 cd49 ct49),sl49⟩)
    (c49:PySem.W.codeIn K cd49 "_law_stay" = true)
    (k49:PySem.W.keepIn K (.ref f49)=true)
    (a50:PySem.W.nsIn K mainGlobals "_law_party" = some (some (.ref f50)))
    (l50:K.lookup f50=some ⟨oc50,od50,.func (PySem.W.fnOf "_law_party" "_law_party" (defArgs s_Lparty) (defBody s_Lparty) (defScope s_Lparty) .none kV50 dc50 pm50 an50 cd50 ct50),sl50⟩)
    (c50:PySem.W.codeIn K cd50 "_law_party" = true)
    (k50:PySem.W.keepIn K (.ref f50)=true)
    (a51:PySem.W.nsIn K mainGlobals "_law_needs" = some (some (.ref f51)))
    (l51:K.lookup f51=some ⟨oc51,od51,.func (PySem.W.fnOf "_law_needs" "_law_needs" (defArgs s_Lneeds) (defBody s_Lneeds) (defScope s_Lneeds) .none kV51 dc51 pm51 an51 cd51 ct51),sl51⟩)
    (c51:PySem.W.codeIn K cd51 "_law_needs" = true)
    (k51:PySem.W.keepIn K (.ref f51)=true)
    (a52:PySem.W.nsIn K mainGlobals "_law_seller_keeps" = some (some (.ref f52)))
    (l52:K.lookup f52=some ⟨oc52,od52,.func (PySem.W.fnOf "_law_seller_keeps" "_law_seller_keeps" (defArgs s_Lseller_keeps) (defBody s_Lseller_keeps) (defScope s_Lseller_keeps) .none kV52 dc52 pm52 an52 cd52 ct52),sl52⟩)
    (c52:PySem.W.codeIn K cd52 "_law_seller_keeps" = true)
    (k52:PySem.W.keepIn K (.ref f52)=true)
    (a53:PySem.W.nsIn K mainGlobals "_law_house_keeps" = some (some (.ref f53)))
    (l53:K.lookup f53=some ⟨oc53,od53,.func (PySem.W.fnOf "_law_house_keeps" "_law_house_keeps" (defArgs s_Lhouse_keeps) (defBody s_Lhouse_keeps) (defScope s_Lhouse_keeps) .none kV53 dc53 pm53 an53 cd53 ct53),sl53⟩)
    (c53:PySem.W.codeIn K cd53 "_law_house_keeps" = true)
    (k53:PySem.W.keepIn K (.ref f53)=true)
    (a54:PySem.W.nsIn K mainGlobals "law" = some (some (.ref f54)))
    (l54:K.lookup f54=some ⟨oc54,od54,.func (PySem.W.fnOf "law" "law" (defArgs s_law) (defBody s_law) (defScope s_law) .none kV54 dc54 pm54 an54 cd54 ct54),sl54⟩)
    (c54:PySem.W.codeIn K cd54 "law" = true)
    (k54:PySem.W.keepIn K (.ref f54)=true)
    (pg_Book:PySem.W.plainGet K C_Book Str.empty=true)
    (hd_Book:PySem.W.hasDictIn K C_Book=true)
    (po_Book:PySem.W.plainOver K C_Book=true)
    (sa_Book:PySem.W.findIn K (.ref C_Book) "__setattr__" = some (some (.builtin "object.__setattr__")))
    (mk_Book:PySem.W.makesIn K C_Book=true)
    (kc_Book:PySem.W.keepIn K (.ref C_Book)=true)
    (no_Book_rooms:PySem.W.findIn K (.ref C_Book) "rooms" = some none)
    (no_Book_nights:PySem.W.findIn K (.ref C_Book) "nights" = some none)
    (no_Book_kept:PySem.W.findIn K (.ref C_Book) "kept" = some none)
    (pg_Seller:PySem.W.plainGet K C_Seller Str.empty=true)
    (hd_Seller:PySem.W.hasDictIn K C_Seller=true)
    (po_Seller:PySem.W.plainOver K C_Seller=true)
    (sa_Seller:PySem.W.findIn K (.ref C_Seller) "__setattr__" = some (some (.builtin "object.__setattr__")))
    (mk_Seller:PySem.W.makesIn K C_Seller=true)
    (kc_Seller:PySem.W.keepIn K (.ref C_Seller)=true)
    (no_Seller_setup:PySem.W.findIn K (.ref C_Seller) "setup" = some none)
    (no_Seller_number:PySem.W.findIn K (.ref C_Seller) "number" = some none)
    (no_Seller_free:PySem.W.findIn K (.ref C_Seller) "free" = some none)
    (no_Seller_vouchers:PySem.W.findIn K (.ref C_Seller) "vouchers" = some none)
    (no_Seller_book:PySem.W.findIn K (.ref C_Seller) "book" = some none)
    (no_Seller_closing:PySem.W.findIn K (.ref C_Seller) "closing" = some none)
    (no_Seller_asked:PySem.W.findIn K (.ref C_Seller) "asked" = some none)
    (no_Seller_waiting:PySem.W.findIn K (.ref C_Seller) "waiting" = some none)
    (no_Seller_count:PySem.W.findIn K (.ref C_Seller) "count" = some none)
    (no_Seller_outgoing:PySem.W.findIn K (.ref C_Seller) "outgoing" = some none)
    (no_Seller_told:PySem.W.findIn K (.ref C_Seller) "told" = some none)
    (pg_House:PySem.W.plainGet K C_House Str.empty=true)
    (hd_House:PySem.W.hasDictIn K C_House=true)
    (po_House:PySem.W.plainOver K C_House=true)
    (sa_House:PySem.W.findIn K (.ref C_House) "__setattr__" = some (some (.builtin "object.__setattr__")))
    (mk_House:PySem.W.makesIn K C_House=true)
    (kc_House:PySem.W.keepIn K (.ref C_House)=true)
    (no_House_sellers:PySem.W.findIn K (.ref C_House) "sellers" = some none)
    (no_House_stock:PySem.W.findIn K (.ref C_House) "stock" = some none)
    (no_House_books:PySem.W.findIn K (.ref C_House) "books" = some none)
    (no_House_queue:PySem.W.findIn K (.ref C_House) "queue" = some none)
    (no_House_round:PySem.W.findIn K (.ref C_House) "round" = some none)
    (no_House_counts:PySem.W.findIn K (.ref C_House) "counts" = some none)
    (no_House_outgoing:PySem.W.findIn K (.ref C_House) "outgoing" = some none)
    (z_isinstance:PySem.W.nsIn K mainGlobals "isinstance" = some none)
    (z_int:PySem.W.nsIn K mainGlobals "int" = some none)
    (z_bool:PySem.W.nsIn K mainGlobals "bool" = some none)
    (z_list:PySem.W.nsIn K mainGlobals "list" = some none)
    (z_range:PySem.W.nsIn K mainGlobals "range" = some none)
    (z_max:PySem.W.nsIn K mainGlobals "max" = some none)
    (z_min:PySem.W.nsIn K mainGlobals "min" = some none)
    (z_len:PySem.W.nsIn K mainGlobals "len" = some none)
    (z_enumerate:PySem.W.nsIn K mainGlobals "enumerate" = some none)
    (z_sorted:PySem.W.nsIn K mainGlobals "sorted" = some none)
    (z_sum:PySem.W.nsIn K mainGlobals "sum" = some none)
    (z_all:PySem.W.nsIn K mainGlobals "all" = some none)
    (z_dict:PySem.W.nsIn K mainGlobals "dict" = some none)
    (z_any:PySem.W.nsIn K mainGlobals "any" = some none)
    (z_tuple:PySem.W.nsIn K mainGlobals "tuple" = some none)
    (z_zip:PySem.W.nsIn K mainGlobals "zip" = some none)
    (z_str:PySem.W.nsIn K mainGlobals "str" = some none)
    : ∃ fd:FuncData,(∀ (s:Shared) (v:Value),BindsTo s fd ⟨[v],[]⟩ [("_law_script",v)])∧∀ base:Heap,K.In base→base.Ns mainGlobals mg→FnOk l.prog w K mg base CX0 27 fa fd ["_law_script"] (spLaw K):=by
  have e:=hfa.symm.trans (PySem.W.mg_of X G a54)
  cases e
  let A:Ad:=⟨C_Book,C_Seller,C_House⟩
  have T:Txt K mg A:={ b_isinstance:=PySem.W.mg_none_of X G z_isinstance,b_int:=PySem.W.mg_none_of X G z_int,b_bool:=PySem.W.mg_none_of X G z_bool,b_list:=PySem.W.mg_none_of X G z_list,b_range:=PySem.W.mg_none_of X G z_range,b_max:=PySem.W.mg_none_of X G z_max,b_min:=PySem.W.mg_none_of X G z_min,b_len:=PySem.W.mg_none_of X G z_len,b_enumerate:=PySem.W.mg_none_of X G z_enumerate,b_sorted:=PySem.W.mg_none_of X G z_sorted,b_sum:=PySem.W.mg_none_of X G z_sum,b_all:=PySem.W.mg_none_of X G z_all,b_dict:=PySem.W.mg_none_of X G z_dict,b_any:=PySem.W.mg_none_of X G z_any,b_tuple:=PySem.W.mg_none_of X G z_tuple,b_zip:=PySem.W.mg_none_of X G z_zip,b_str:=PySem.W.mg_none_of X G z_str,cl_Book:=⟨pg_Book,hd_Book,po_Book,sa_Book⟩,no_Book_rooms:=no_Book_rooms,no_Book_nights:=no_Book_nights,no_Book_kept:=no_Book_kept,cl_Seller:=⟨pg_Seller,hd_Seller,po_Seller,sa_Seller⟩,no_Seller_setup:=no_Seller_setup,no_Seller_number:=no_Seller_number,no_Seller_free:=no_Seller_free,no_Seller_vouchers:=no_Seller_vouchers,no_Seller_book:=no_Seller_book,no_Seller_closing:=no_Seller_closing,no_Seller_asked:=no_Seller_asked,no_Seller_waiting:=no_Seller_waiting,no_Seller_count:=no_Seller_count,no_Seller_outgoing:=no_Seller_outgoing,no_Seller_told:=no_Seller_told,cl_House:=⟨pg_House,hd_House,po_House,sa_House⟩,no_House_sellers:=no_House_sellers,no_House_stock:=no_House_stock,no_House_books:=no_House_books,no_House_queue:=no_House_queue,no_House_round:=no_House_round,no_House_counts:=no_House_counts,no_House_outgoing:=no_House_outgoing }
  have F1:=fun_mk (st:=s_is_integer) l1 c1 k1
  have b1:=F1.binds (ps:=["value"]) fun _ _ _ _ _ _ us hl=>match us,hl with | [_],_=>rfl
  have F2:=fun_mk (st:=s_is_from) l2 c2 k2
  have b2:=F2.binds (ps:=["value","least","most"]) fun _ _ _ _ _ _ us hl=>match us,hl with | [_,_,_],_=>rfl
  have F3:=fun_mk (st:=s_nights_of) l3 c3 k3
  have b3:=F3.binds (ps:=["stay"]) fun _ _ _ _ _ _ us hl=>match us,hl with | [_],_=>rfl
  have F4:=fun_mk (st:=s_meet) l4 c4 k4
  have b4:=F4.binds (ps:=["first","second"]) fun _ _ _ _ _ _ us hl=>match us,hl with | [_,_],_=>rfl
  have F5:=fun_mk (st:=s_check_room) l5 c5 k5
  have b5:=F5.binds (ps:=["rooms","stays"]) fun _ _ _ _ _ _ us hl=>match us,hl with | [_,_],_=>rfl
  have F6:=fun_mk (st:=s_check_given) l6 c6 k6
  have b6:=F6.binds (ps:=["rooms","stays","night","given"]) fun _ _ _ _ _ _ us hl=>match us,hl with | [_,_,_,_],_=>rfl
  have F7:=fun_mk (st:=s_housing) l7 c7 k7
  have b7:=F7.binds (ps:=["rooms","stays","night","given"]) fun _ _ _ _ _ _ us hl=>match us,hl with | [_,_,_,_],_=>rfl
  have F8:=fun_mk (st:=s_needs_of) l8 c8 k8
  have b8:=F8.binds (ps:=["party"]) fun _ _ _ _ _ _ us hl=>match us,hl with | [_],_=>rfl
  have F9:=fun_mk (st:=s_price_of) l9 c9 k9
  have b9:=F9.binds (ps:=["setup","party"]) fun _ _ _ _ _ _ us hl=>match us,hl with | [_,_],_=>rfl
  have F10:=fun_mk (st:=s_kept_of) l10 c10 k10
  have b10:=F10.binds (ps:=["setup","party"]) fun _ _ _ _ _ _ us hl=>match us,hl with | [_,_],_=>rfl
  have F11:=fun_mk (st:=s_Book_init) l11 c11 k11
  have b11:=F11.binds (ps:=["self","rooms","nights"]) fun _ _ _ _ _ _ us hl=>match us,hl with | [_,_,_],_=>rfl
  have F12:=fun_mk (st:=s_Book_free) l12 c12 k12
  have b12:=F12.binds (ps:=["self","kind","night"]) fun _ _ _ _ _ _ us hl=>match us,hl with | [_,_,_],_=>rfl
  have F13:=fun_mk (st:=s_Book_fits) l13 c13 k13
  have b13:=F13.binds (ps:=["self","party"]) fun _ _ _ _ _ _ us hl=>match us,hl with | [_,_],_=>rfl
  have F14:=fun_mk (st:=s_Book_wish) l14 c14 k14
  have b14:=F14.binds (ps:=["self","name","party"]) fun _ _ _ _ _ _ us hl=>match us,hl with | [_,_,_],_=>rfl
  have F15:=fun_mk (st:=s_Book_cancel) l15 c15 k15
  have b15:=F15.binds (ps:=["self","name"]) fun _ _ _ _ _ _ us hl=>match us,hl with | [_,_],_=>rfl
  have F16:=fun_mk (st:=s_Book_change) l16 c16 k16
  have b16:=F16.binds (ps:=["self","name","party"]) fun _ _ _ _ _ _ us hl=>match us,hl with | [_,_,_],_=>rfl
  have F17:=fun_mk (st:=s_Book_parties) l17 c17 k17
  have b17:=F17.binds (ps:=["self"]) fun _ _ _ _ _ _ us hl=>match us,hl with | [_],_=>rfl
  have F18:=fun_mk (st:=s_Seller_init) l18 c18 k18
  have b18:=F18.binds (ps:=["self","setup","number"]) fun _ _ _ _ _ _ us hl=>match us,hl with | [_,_,_],_=>rfl
  have F19:=fun_mk (st:=s_Seller_bodies) l19 c19 k19
  have b19:=F19.binds (ps:=["self"]) fun _ _ _ _ _ _ us hl=>match us,hl with | [_],_=>rfl
  have F20:=fun_mk (st:=s_Seller_answers) l20 c20 k20
  have b20:=F20.binds (ps:=["self"]) fun _ _ _ _ _ _ us hl=>match us,hl with | [_],_=>rfl
  have F21:=fun_mk (st:=s_Seller_voucher) l21 c21 k21
  have b21:=F21.binds (ps:=["self","deed"]) fun _ _ _ _ _ _ us hl=>match us,hl with | [_,_],_=>rfl
  have F22:=fun_mk (st:=s_Seller_must_wait) l22 c22 k22
  have b22:=F22.binds (ps:=["self","deed"]) fun _ _ _ _ _ _ us hl=>match us,hl with | [_,_],_=>rfl
  have F23:=fun_mk (st:=s_Seller_lack) l23 c23 k23
  have b23:=F23.binds (ps:=["self","deed"]) fun _ _ _ _ _ _ us hl=>match us,hl with | [_,_],_=>rfl
  have F24:=fun_mk (st:=s_Seller_add) l24 c24 k24
  have b24:=F24.binds (ps:=["self","needs","many"]) fun _ _ _ _ _ _ us hl=>match us,hl with | [_,_,_],_=>rfl
  have F25:=fun_mk (st:=s_Seller_prices) l25 c25 k25
  have b25:=F25.binds (ps:=["self","party"]) fun _ _ _ _ _ _ us hl=>match us,hl with | [_,_],_=>rfl
  have F26:=fun_mk (st:=s_Seller_write) l26 c26 k26
  have b26:=F26.binds (ps:=["self","row"]) fun _ _ _ _ _ _ us hl=>match us,hl with | [_,_],_=>rfl
  have F27:=fun_mk (st:=s_Seller_cancel) l27 c27 k27
  have b27:=F27.binds (ps:=["self","number","voucher"]) fun _ _ _ _ _ _ us hl=>match us,hl with | [_,_,_],_=>rfl
  have F28:=fun_mk (st:=s_Seller_keep) l28 c28 k28
  have b28:=F28.binds (ps:=["self","number","deed"]) fun _ _ _ _ _ _ us hl=>match us,hl with | [_,_,_],_=>rfl
  have F29:=fun_mk (st:=s_Seller_do) l29 c29 k29
  have b29:=F29.binds (ps:=["self","number","deed"]) fun _ _ _ _ _ _ us hl=>match us,hl with | [_,_,_],_=>rfl
  have F30:=fun_mk (st:=s_Seller_ask) l30 c30 k30
  have b30:=F30.binds (ps:=["self","deed"]) fun _ _ _ _ _ _ us hl=>match us,hl with | [_,_],_=>rfl
  have F31:=fun_mk (st:=s_Seller_close) l31 c31 k31
  have b31:=F31.binds (ps:=["self","cells"]) fun _ _ _ _ _ _ us hl=>match us,hl with | [_,_],_=>rfl
  have F32:=fun_mk (st:=s_Seller_reopen) l32 c32 k32
  have b32:=F32.binds (ps:=["self","counts","answer"]) fun _ _ _ _ _ _ us hl=>match us,hl with | [_,_,_],_=>rfl
  have F33:=fun_mk (st:=s_Seller_handle) l33 c33 k33
  have b33:=F33.binds (ps:=["self","body"]) fun _ _ _ _ _ _ us hl=>match us,hl with | [_,_],_=>rfl
  have F34:=fun_mk (st:=s_House_init) l34 c34 k34
  have b34:=F34.binds (ps:=["self","setup"]) fun _ _ _ _ _ _ us hl=>match us,hl with | [_,_],_=>rfl
  have F35:=fun_mk (st:=s_House_bodies) l35 c35 k35
  have b35:=F35.binds (ps:=["self"]) fun _ _ _ _ _ _ us hl=>match us,hl with | [_],_=>rfl
  have F36:=fun_mk (st:=s_House_cells) l36 c36 k36
  have b36:=F36.binds (ps:=["self"]) fun _ _ _ _ _ _ us hl=>match us,hl with | [_],_=>rfl
  have F37:=fun_mk (st:=s_House_look) l37 c37 k37
  have b37:=F37.binds (ps:=["self"]) fun _ _ _ _ _ _ us hl=>match us,hl with | [_],_=>rfl
  have F38:=fun_mk (st:=s_House_decide) l38 c38 k38
  have b38:=F38.binds (ps:=["self"]) fun _ _ _ _ _ _ us hl=>match us,hl with | [_],_=>rfl
  have F39:=fun_mk (st:=s_House_closed) l39 c39 k39
  have b39:=F39.binds (ps:=["self","seller","counts"]) fun _ _ _ _ _ _ us hl=>match us,hl with | [_,_,_],_=>rfl
  have F40:=fun_mk (st:=s_House_handle) l40 c40 k40
  have b40:=F40.binds (ps:=["self","seller","body"]) fun _ _ _ _ _ _ us hl=>match us,hl with | [_,_,_],_=>rfl
  have F41:=fun_mk (st:=s_House_give) l41 c41 k41
  have b41:=F41.binds (ps:=["self","seller","kind","night"]) fun _ _ _ _ _ _ us hl=>match us,hl with | [_,_,_,_],_=>rfl
  have F42:=fun_mk (st:=s_House_want) l42 c42 k42
  have b42:=F42.binds (ps:=["self","seller","kind","night"]) fun _ _ _ _ _ _ us hl=>match us,hl with | [_,_,_,_],_=>rfl
  have F43:=fun_mk (st:=s_Lmixed) l43 c43 k43
  have b43:=F43.binds (ps:=["_law_number","_law_k"]) fun _ _ _ _ _ _ us hl=>match us,hl with | [_,_],_=>rfl
  have F44:=fun_mk (st:=s_Lnumbers) l44 c44 k44
  have b44:=F44.binds (ps:=["_law_script"]) fun _ _ _ _ _ _ us hl=>match us,hl with | [_],_=>rfl
  have F45:=fun_mk (st:=s_Ldraw) l45 c45 k45
  have b45:=F45.binds (ps:=["_law_draws"]) fun _ _ _ _ _ _ us hl=>match us,hl with | [_],_=>rfl
  have F46:=fun_mk (st:=s_Lequal) l46 c46 k46
  have b46:=F46.binds (ps:=["_law_actual","_law_due"]) fun _ _ _ _ _ _ us hl=>match us,hl with | [_,_],_=>rfl
  have F47:=fun_mk (st:=s_Lall_equal) l47 c47 k47
  have b47:=F47.binds (ps:=["_law_actual","_law_due"]) fun _ _ _ _ _ _ us hl=>match us,hl with | [_,_],_=>rfl
  have F48:=fun_mk (st:=s_Lsetup) l48 c48 k48
  have b48:=F48.binds (ps:=["_law_draws"]) fun _ _ _ _ _ _ us hl=>match us,hl with | [_],_=>rfl
  have F49:=fun_mk (st:=s_Lstay) l49 c49 k49
  have b49:=F49.binds (ps:=["_law_draws","_law_setup_here"]) fun _ _ _ _ _ _ us hl=>match us,hl with | [_,_],_=>rfl
  have F50:=fun_mk (st:=s_Lparty) l50 c50 k50
  have b50:=F50.binds (ps:=["_law_draws","_law_setup_here"]) fun _ _ _ _ _ _ us hl=>match us,hl with | [_,_],_=>rfl
  have F51:=fun_mk (st:=s_Lneeds) l51 c51 k51
  have b51:=F51.binds (ps:=["_law_party_here"]) fun _ _ _ _ _ _ us hl=>match us,hl with | [_],_=>rfl
  have F52:=fun_mk (st:=s_Lseller_keeps) l52 c52 k52
  have b52:=F52.binds (ps:=["_law_draws","_law_setup_here"]) fun _ _ _ _ _ _ us hl=>match us,hl with | [_,_],_=>rfl
  have F53:=fun_mk (st:=s_Lhouse_keeps) l53 c53 k53
  have b53:=F53.binds (ps:=["_law_draws","_law_setup_here"]) fun _ _ _ _ _ _ us hl=>match us,hl with | [_,_],_=>rfl
  have F54:=fun_mk (st:=s_law) l54 c54 k54
  have b54:=F54.binds (ps:=["_law_script"]) fun _ _ _ _ _ _ us hl=>match us,hl with | [_],_=>rfl
  refine ⟨PySem.W.fnOf "law" "law" (defArgs s_law) (defBody s_law) (defScope s_law) .none kV54 dc54 pm54 an54 cd54 ct54,fun s v=>.of_eq rfl,fun base _ _=>?_⟩
  have o_is_integer:=ok_is_integer (P:=l.prog) (w:=w) (base:=base) F1 T
  have e_is_integer:Cal l.prog w K mg base "is_integer" 1 ["value"] (sp_is_integer K A):=⟨⟨_,_,o_is_integer,PySem.W.mg_of X G a1,k1,b1⟩⟩
  have o_is_from:=ok_is_from (P:=l.prog) (w:=w) (base:=base) F2 T e_is_integer
  have e_is_from:Cal l.prog w K mg base "is_from" 2 ["value","least","most"] (sp_is_from K A):=⟨⟨_,_,o_is_from,PySem.W.mg_of X G a2,k2,b2⟩⟩
  have o_nights_of:=ok_nights_of (P:=l.prog) (w:=w) (base:=base) F3 T
  have e_nights_of:Cal l.prog w K mg base "nights_of" 1 ["stay"] (sp_nights_of K A):=⟨⟨_,_,o_nights_of,PySem.W.mg_of X G a3,k3,b3⟩⟩
  have o_meet:=ok_meet (P:=l.prog) (w:=w) (base:=base) F4 T
  have e_meet:Cal l.prog w K mg base "meet" 1 ["first","second"] (sp_meet K A):=⟨⟨_,_,o_meet,PySem.W.mg_of X G a4,k4,b4⟩⟩
  have o_check_room:=ok_check_room (P:=l.prog) (w:=w) (base:=base) F5 T e_nights_of e_meet
  have e_check_room:Cal l.prog w K mg base "check_room" 2 ["rooms","stays"] (sp_check_room K A):=⟨⟨_,_,o_check_room,PySem.W.mg_of X G a5,k5,b5⟩⟩
  have o_check_given:=ok_check_given (P:=l.prog) (w:=w) (base:=base) F6 T e_is_from e_meet
  have e_check_given:Cal l.prog w K mg base "check_given" 3 ["rooms","stays","night","given"] (sp_check_given K A):=⟨⟨_,_,o_check_given,PySem.W.mg_of X G a6,k6,b6⟩⟩
  have o_housing:=ok_housing (P:=l.prog) (w:=w) (base:=base) F7 T e_check_room e_check_given e_meet
  have e_housing:Cal l.prog w K mg base "housing" 4 ["rooms","stays","night","given"] (sp_housing K A):=⟨⟨_,_,o_housing,PySem.W.mg_of X G a7,k7,b7⟩⟩
  have o_needs_of:=ok_needs_of (P:=l.prog) (w:=w) (base:=base) F8 T e_nights_of
  have e_needs_of:Cal l.prog w K mg base "needs_of" 2 ["party"] (sp_needs_of K A):=⟨⟨_,_,o_needs_of,PySem.W.mg_of X G a8,k8,b8⟩⟩
  have o_price_of:=ok_price_of (P:=l.prog) (w:=w) (base:=base) F9 T e_needs_of
  have e_price_of:Cal l.prog w K mg base "price_of" 3 ["setup","party"] (sp_price_of K A):=⟨⟨_,_,o_price_of,PySem.W.mg_of X G a9,k9,b9⟩⟩
  have o_kept_of:=ok_kept_of (P:=l.prog) (w:=w) (base:=base) F10 T e_needs_of
  have e_kept_of:Cal l.prog w K mg base "kept_of" 3 ["setup","party"] (sp_kept_of K A):=⟨⟨_,_,o_kept_of,PySem.W.mg_of X G a10,k10,b10⟩⟩
  have o_Book_init:=ok_Book_init (P:=l.prog) (w:=w) (base:=base) F11 T
  have e_Book_init:CalC l.prog w K mg base "Book" A.Book 1 ["self","rooms","nights"] (sp_Book_init K A):=⟨⟨_,_,o_Book_init,⟨mk_Book,a11,i11,kc_Book⟩,PySem.W.mg_of X G aC_Book,b11⟩⟩
  have o_Book_free:=ok_Book_free (P:=l.prog) (w:=w) (base:=base) F12 T e_needs_of
  have e_Book_free:CalM l.prog w K mg base A.Book "free" 3 ["self","kind","night"] (sp_Book_free K A):=⟨⟨_,_,o_Book_free,⟨a12,i12,k12⟩,b12⟩⟩
  have o_Book_fits:=ok_Book_fits (P:=l.prog) (w:=w) (base:=base) F13 T e_needs_of
  have e_Book_fits:CalM l.prog w K mg base A.Book "fits" 3 ["self","party"] (sp_Book_fits K A):=⟨⟨_,_,o_Book_fits,⟨a13,i13,k13⟩,b13⟩⟩
  have o_Book_wish:=ok_Book_wish (P:=l.prog) (w:=w) (base:=base) F14 T e_Book_fits
  have e_Book_wish:CalM l.prog w K mg base A.Book "wish" 4 ["self","name","party"] (sp_Book_wish K A):=⟨⟨_,_,o_Book_wish,⟨a14,i14,k14⟩,b14⟩⟩
  have o_Book_cancel:=ok_Book_cancel (P:=l.prog) (w:=w) (base:=base) F15 T
  have e_Book_cancel:CalM l.prog w K mg base A.Book "cancel" 1 ["self","name"] (sp_Book_cancel K A):=⟨⟨_,_,o_Book_cancel,⟨a15,i15,k15⟩,b15⟩⟩
  have o_Book_change:=ok_Book_change (P:=l.prog) (w:=w) (base:=base) F16 T e_Book_fits
  have e_Book_change:CalM l.prog w K mg base A.Book "change" 4 ["self","name","party"] (sp_Book_change K A):=⟨⟨_,_,o_Book_change,⟨a16,i16,k16⟩,b16⟩⟩
  have o_Book_parties:=ok_Book_parties (P:=l.prog) (w:=w) (base:=base) F17 T
  have e_Book_parties:CalM l.prog w K mg base A.Book "parties" 1 ["self"] (sp_Book_parties K A):=⟨⟨_,_,o_Book_parties,⟨a17,i17,k17⟩,b17⟩⟩
  have o_Seller_init:=ok_Seller_init (P:=l.prog) (w:=w) (base:=base) F18 T
  have e_Seller_init:CalC l.prog w K mg base "Seller" A.Seller 1 ["self","setup","number"] (sp_Seller_init K A):=⟨⟨_,_,o_Seller_init,⟨mk_Seller,a18,i18,kc_Seller⟩,PySem.W.mg_of X G aC_Seller,b18⟩⟩
  have o_Seller_bodies:=ok_Seller_bodies (P:=l.prog) (w:=w) (base:=base) F19 T
  have e_Seller_bodies:CalM l.prog w K mg base A.Seller "bodies" 1 ["self"] (sp_Seller_bodies K A):=⟨⟨_,_,o_Seller_bodies,⟨a19,i19,k19⟩,b19⟩⟩
  have o_Seller_answers:=ok_Seller_answers (P:=l.prog) (w:=w) (base:=base) F20 T
  have e_Seller_answers:CalM l.prog w K mg base A.Seller "answers" 1 ["self"] (sp_Seller_answers K A):=⟨⟨_,_,o_Seller_answers,⟨a20,i20,k20⟩,b20⟩⟩
  have o_Seller_voucher:=ok_Seller_voucher (P:=l.prog) (w:=w) (base:=base) F21 T
  have e_Seller_voucher:CalM l.prog w K mg base A.Seller "voucher" 1 ["self","deed"] (sp_Seller_voucher K A):=⟨⟨_,_,o_Seller_voucher,⟨a21,i21,k21⟩,b21⟩⟩
  have o_Seller_must_wait:=ok_Seller_must_wait (P:=l.prog) (w:=w) (base:=base) F22 T e_needs_of e_Seller_voucher
  have e_Seller_must_wait:CalM l.prog w K mg base A.Seller "must_wait" 3 ["self","deed"] (sp_Seller_must_wait K A):=⟨⟨_,_,o_Seller_must_wait,⟨a22,i22,k22⟩,b22⟩⟩
  have o_Seller_lack:=ok_Seller_lack (P:=l.prog) (w:=w) (base:=base) F23 T e_needs_of e_Seller_voucher
  have e_Seller_lack:CalM l.prog w K mg base A.Seller "lack" 3 ["self","deed"] (sp_Seller_lack K A):=⟨⟨_,_,o_Seller_lack,⟨a23,i23,k23⟩,b23⟩⟩
  have o_Seller_add:=ok_Seller_add (P:=l.prog) (w:=w) (base:=base) F24 T
  have e_Seller_add:CalM l.prog w K mg base A.Seller "add" 1 ["self","needs","many"] (sp_Seller_add K A):=⟨⟨_,_,o_Seller_add,⟨a24,i24,k24⟩,b24⟩⟩
  have o_Seller_prices:=ok_Seller_prices (P:=l.prog) (w:=w) (base:=base) F25 T e_price_of e_kept_of
  have e_Seller_prices:CalM l.prog w K mg base A.Seller "prices" 4 ["self","party"] (sp_Seller_prices K A):=⟨⟨_,_,o_Seller_prices,⟨a25,i25,k25⟩,b25⟩⟩
  have o_Seller_write:=ok_Seller_write (P:=l.prog) (w:=w) (base:=base) F26 T
  have e_Seller_write:CalM l.prog w K mg base A.Seller "write" 1 ["self","row"] (sp_Seller_write K A):=⟨⟨_,_,o_Seller_write,⟨a26,i26,k26⟩,b26⟩⟩
  have o_Seller_cancel:=ok_Seller_cancel (P:=l.prog) (w:=w) (base:=base) F27 T e_Seller_add e_Seller_write e_needs_of e_Seller_prices
  have e_Seller_cancel:CalM l.prog w K mg base A.Seller "cancel" 5 ["self","number","voucher"] (sp_Seller_cancel K A):=⟨⟨_,_,o_Seller_cancel,⟨a27,i27,k27⟩,b27⟩⟩
  have o_Seller_keep:=ok_Seller_keep (P:=l.prog) (w:=w) (base:=base) F28 T e_needs_of e_Seller_write e_Seller_prices
  have e_Seller_keep:CalM l.prog w K mg base A.Seller "keep" 5 ["self","number","deed"] (sp_Seller_keep K A):=⟨⟨_,_,o_Seller_keep,⟨a28,i28,k28⟩,b28⟩⟩
  have o_Seller_do:=ok_Seller_do (P:=l.prog) (w:=w) (base:=base) F29 T e_Seller_lack e_Seller_cancel e_Seller_add e_Seller_keep
  have e_Seller_do:CalM l.prog w K mg base A.Seller "do" 6 ["self","number","deed"] (sp_Seller_do K A):=⟨⟨_,_,o_Seller_do,⟨a29,i29,k29⟩,b29⟩⟩
  have o_Seller_ask:=ok_Seller_ask (P:=l.prog) (w:=w) (base:=base) F30 T e_Seller_must_wait e_Seller_do
  have e_Seller_ask:CalM l.prog w K mg base A.Seller "ask" 7 ["self","deed"] (sp_Seller_ask K A):=⟨⟨_,_,o_Seller_ask,⟨a30,i30,k30⟩,b30⟩⟩
  have o_Seller_close:=ok_Seller_close (P:=l.prog) (w:=w) (base:=base) F31 T
  have e_Seller_close:CalM l.prog w K mg base A.Seller "close" 1 ["self","cells"] (sp_Seller_close K A):=⟨⟨_,_,o_Seller_close,⟨a31,i31,k31⟩,b31⟩⟩
  have o_Seller_reopen:=ok_Seller_reopen (P:=l.prog) (w:=w) (base:=base) F32 T e_Seller_must_wait e_Seller_keep e_Seller_do
  have e_Seller_reopen:CalM l.prog w K mg base A.Seller "reopen" 7 ["self","counts","answer"] (sp_Seller_reopen K A):=⟨⟨_,_,o_Seller_reopen,⟨a32,i32,k32⟩,b32⟩⟩
  have o_Seller_handle:=ok_Seller_handle (P:=l.prog) (w:=w) (base:=base) F33 T e_Seller_close e_Seller_reopen
  have e_Seller_handle:CalM l.prog w K mg base A.Seller "handle" 8 ["self","body"] (sp_Seller_handle K A):=⟨⟨_,_,o_Seller_handle,⟨a33,i33,k33⟩,b33⟩⟩
  have o_House_init:=ok_House_init (P:=l.prog) (w:=w) (base:=base) F34 T
  have e_House_init:CalC l.prog w K mg base "House" A.House 1 ["self","setup"] (sp_House_init K A):=⟨⟨_,_,o_House_init,⟨mk_House,a34,i34,kc_House⟩,PySem.W.mg_of X G aC_House,b34⟩⟩
  have o_House_bodies:=ok_House_bodies (P:=l.prog) (w:=w) (base:=base) F35 T
  have e_House_bodies:CalM l.prog w K mg base A.House "bodies" 1 ["self"] (sp_House_bodies K A):=⟨⟨_,_,o_House_bodies,⟨a35,i35,k35⟩,b35⟩⟩
  have o_House_cells:=ok_House_cells (P:=l.prog) (w:=w) (base:=base) F36 T
  have e_House_cells:CalM l.prog w K mg base A.House "cells" 1 ["self"] (sp_House_cells K A):=⟨⟨_,_,o_House_cells,⟨a36,i36,k36⟩,b36⟩⟩
  have o_House_look:=ok_House_look (P:=l.prog) (w:=w) (base:=base) F37 T e_House_cells
  have e_House_look:CalM l.prog w K mg base A.House "look" 2 ["self"] (sp_House_look K A):=⟨⟨_,_,o_House_look,⟨a37,i37,k37⟩,b37⟩⟩
  have o_House_decide:=ok_House_decide (P:=l.prog) (w:=w) (base:=base) F38 T e_House_look e_House_cells
  have e_House_decide:CalM l.prog w K mg base A.House "decide" 3 ["self"] (sp_House_decide K A):=⟨⟨_,_,o_House_decide,⟨a38,i38,k38⟩,b38⟩⟩
  have o_House_closed:=ok_House_closed (P:=l.prog) (w:=w) (base:=base) F39 T e_House_cells e_House_decide
  have e_House_closed:CalM l.prog w K mg base A.House "closed" 4 ["self","seller","counts"] (sp_House_closed K A):=⟨⟨_,_,o_House_closed,⟨a39,i39,k39⟩,b39⟩⟩
  have o_House_handle:=ok_House_handle (P:=l.prog) (w:=w) (base:=base) F40 T e_House_look e_House_closed
  have e_House_handle:CalM l.prog w K mg base A.House "handle" 5 ["self","seller","body"] (sp_House_handle K A):=⟨⟨_,_,o_House_handle,⟨a40,i40,k40⟩,b40⟩⟩
  have o_House_give:=ok_House_give (P:=l.prog) (w:=w) (base:=base) F41 T
  have e_House_give:CalM l.prog w K mg base A.House "give" 1 ["self","seller","kind","night"] (sp_House_give K A):=⟨⟨_,_,o_House_give,⟨a41,i41,k41⟩,b41⟩⟩
  have o_House_want:=ok_House_want (P:=l.prog) (w:=w) (base:=base) F42 T
  have e_House_want:CalM l.prog w K mg base A.House "want" 1 ["self","seller","kind","night"] (sp_House_want K A):=⟨⟨_,_,o_House_want,⟨a42,i42,k42⟩,b42⟩⟩
  have o_Lmixed:=ok_Lmixed (P:=l.prog) (w:=w) (base:=base) F43 T
  have e_Lmixed:Cal l.prog w K mg base "_law_mixed" 1 ["_law_number","_law_k"] (sp_Lmixed K A):=⟨⟨_,_,o_Lmixed,PySem.W.mg_of X G a43,k43,b43⟩⟩
  have o_Lnumbers:=ok_Lnumbers (P:=l.prog) (w:=w) (base:=base) F44 T e_Lmixed
  have e_Lnumbers:Cal l.prog w K mg base "_law_numbers" 2 ["_law_script"] (sp_Lnumbers K A):=⟨⟨_,_,o_Lnumbers,PySem.W.mg_of X G a44,k44,b44⟩⟩
  have o_Ldraw:=ok_Ldraw (P:=l.prog) (w:=w) (base:=base) F45 T e_Lmixed
  have e_Ldraw:Cal l.prog w K mg base "_law_draw" 2 ["_law_draws"] (sp_Ldraw K A):=⟨⟨_,_,o_Ldraw,PySem.W.mg_of X G a45,k45,b45⟩⟩
  have e_Lequal:Cal l.prog w K mg base "_law_equal" 25 ["_law_actual","_law_due"] (sp_Lequal K A 12):=eq_one (P:=l.prog) (w:=w) (base:=base) F46 T (PySem.W.mg_of X G a46) b46 F47 (PySem.W.mg_of X G a47) b47 12
  have e_Lall_equal:Cal l.prog w K mg base "_law_all_equal" 24 ["_law_actual","_law_due"] (sp_Lall_equal K A 12):=eq_all (P:=l.prog) (w:=w) (base:=base) F46 T (PySem.W.mg_of X G a46) b46 F47 (PySem.W.mg_of X G a47) b47 12
  have o_Lsetup:=ok_Lsetup (P:=l.prog) (w:=w) (base:=base) F48 T e_Ldraw
  have e_Lsetup:Cal l.prog w K mg base "_law_setup" 3 ["_law_draws"] (sp_Lsetup K A):=⟨⟨_,_,o_Lsetup,PySem.W.mg_of X G a48,k48,b48⟩⟩
  have o_Lstay:=ok_Lstay (P:=l.prog) (w:=w) (base:=base) F49 T e_Ldraw
  have e_Lstay:Cal l.prog w K mg base "_law_stay" 3 ["_law_draws","_law_setup_here"] (sp_Lstay K A):=⟨⟨_,_,o_Lstay,PySem.W.mg_of X G a49,k49,b49⟩⟩
  have o_Lparty:=ok_Lparty (P:=l.prog) (w:=w) (base:=base) F50 T e_Lstay e_Ldraw
  have e_Lparty:Cal l.prog w K mg base "_law_party" 4 ["_law_draws","_law_setup_here"] (sp_Lparty K A):=⟨⟨_,_,o_Lparty,PySem.W.mg_of X G a50,k50,b50⟩⟩
  have o_Lneeds:=ok_Lneeds (P:=l.prog) (w:=w) (base:=base) F51 T
  have e_Lneeds:Cal l.prog w K mg base "_law_needs" 1 ["_law_party_here"] (sp_Lneeds K A):=⟨⟨_,_,o_Lneeds,PySem.W.mg_of X G a51,k51,b51⟩⟩
  have o_Lseller_keeps:=ok_Lseller_keeps (P:=l.prog) (w:=w) (base:=base) F52 T e_Seller_init e_Lparty e_Seller_ask e_Ldraw e_Seller_bodies e_Seller_answers e_Lequal e_Seller_handle
  have e_Lseller_keeps:Cal l.prog w K mg base "_law_seller_keeps" 26 ["_law_draws","_law_setup_here"] (sp_Lseller_keeps K A):=⟨⟨_,_,o_Lseller_keeps,PySem.W.mg_of X G a52,k52,b52⟩⟩
  have o_Lhouse_keeps:=ok_Lhouse_keeps (P:=l.prog) (w:=w) (base:=base) F53 T e_House_init e_Lneeds e_House_handle e_House_bodies e_Ldraw e_Lparty e_Lequal
  have e_Lhouse_keeps:Cal l.prog w K mg base "_law_house_keeps" 26 ["_law_draws","_law_setup_here"] (sp_Lhouse_keeps K A):=⟨⟨_,_,o_Lhouse_keeps,PySem.W.mg_of X G a53,k53,b53⟩⟩
  exact (ok_law F54 T e_Lsetup e_Lstay e_Book_init e_Book_wish e_housing e_Lequal e_Lnumbers e_Lseller_keeps e_Lhouse_keeps e_Book_parties).imp fun vs H Q E h=>h
theorem walk {l:PySem.W.OpenLaw} {q:Program} {loose:List Str} {XP:(Str→Option Value)→Heap→Prop} {YP:World→Heap→Prop} {d:DefRec} {K:Params→PySem.W.Frag} (hn : l.most=some 63) (hdf : d.params.defaults=[])
    (hY:∀ (w:World) (h:Heap),YP w h→(K w.params).In h)
    (F:∀ (w:World) (mg:Str→Option Value) (fa:Addr) (h:Heap),(K w.params).In h→h.Ns mainGlobals mg→mg d.name=some (.ref fa)→
      ∃ fd:FuncData,(∀ (s:Shared) (u:Value),BindsTo s fd ⟨[u],[]⟩ [("_law_script",u)])∧∀ base:Heap,(K w.params).In base→base.Ns mainGlobals mg→FnOk l.prog w (K w.params) mg base CX0 27 fa fd ["_law_script"] (spLaw (K w.params))) :
    PySem.W.WalkO q loose XP YP l.row.toRowW d [] (fun f vs=>PySem.call f vs):=
  L2.walk_of (n:=63) (k:=27) (x:="_law_script") (CX:=fun _=>CX0) (sp:=fun w=>spLaw (K w.params)) hn (by decide) hdf ⟨rfl,by decide,by decide⟩ hY F (fun _ _ a ns hl _ hS=>⟨_,rfl,a,ns,rfl,hS,hl,fun _=>rfl⟩) fun _ _ _ _ _ z=>z
end Toy
open PySem PySem.W PyProof.Rows in
set_option maxRecDepth 100000 in
set_option maxHeartbeats 0 in
theorem PySem.Challenge.cw_manydoors_k12_answers_of_desks_are_new_holds : PySem.Challenge.rw_manydoors_k12_answers_of_desks_are_new.Holds := by
  w_on;o_law;k_head;(case hw=>w_witness2)
  k_fill
  refine Toy.walk (l:=PySem.Challenge.rw_manydoors_k12_answers_of_desks_are_new) rfl rfl (fun w h Y=>PySem.W.kIn_of Y) ?F
  case F=>
    intro w mg fa h KX G hmg
    refine' Toy.all_mk KX G hmg ?aC_Book ?aC_Seller ?aC_House ?a1 ?l1 ?c1 ?k1 ?a2 ?l2 ?c2 ?k2 ?a3 ?l3 ?c3 ?k3 ?a4 ?l4 ?c4 ?k4 ?a5 ?l5 ?c5 ?k5 ?a6 ?l6 ?c6 ?k6 ?a7 ?l7 ?c7 ?k7 ?a8 ?l8 ?c8 ?k8 ?a9 ?l9 ?c9 ?k9 ?a10 ?l10 ?c10 ?k10 ?a11 ?i11 ?l11 ?c11 ?k11 ?a12 ?i12 ?l12 ?c12 ?k12 ?a13 ?i13 ?l13 ?c13 ?k13 ?a14 ?i14 ?l14 ?c14 ?k14 ?a15 ?i15 ?l15 ?c15 ?k15 ?a16 ?i16 ?l16 ?c16 ?k16 ?a17 ?i17 ?l17 ?c17 ?k17 ?a18 ?i18 ?l18 ?c18 ?k18 ?a19 ?i19 ?l19 ?c19 ?k19 ?a20 ?i20 ?l20 ?c20 ?k20 ?a21 ?i21 ?l21 ?c21 ?k21 ?a22 ?i22 ?l22 ?c22 ?k22 ?a23 ?i23 ?l23 ?c23 ?k23 ?a24 ?i24 ?l24 ?c24 ?k24 ?a25 ?i25 ?l25 ?c25 ?k25 ?a26 ?i26 ?l26 ?c26 ?k26 ?a27 ?i27 ?l27 ?c27 ?k27 ?a28 ?i28 ?l28 ?c28 ?k28 ?a29 ?i29 ?l29 ?c29 ?k29 ?a30 ?i30 ?l30 ?c30 ?k30 ?a31 ?i31 ?l31 ?c31 ?k31 ?a32 ?i32 ?l32 ?c32 ?k32 ?a33 ?i33 ?l33 ?c33 ?k33 ?a34 ?i34 ?l34 ?c34 ?k34 ?a35 ?i35 ?l35 ?c35 ?k35 ?a36 ?i36 ?l36 ?c36 ?k36 ?a37 ?i37 ?l37 ?c37 ?k37 ?a38 ?i38 ?l38 ?c38 ?k38 ?a39 ?i39 ?l39 ?c39 ?k39 ?a40 ?i40 ?l40 ?c40 ?k40 ?a41 ?i41 ?l41 ?c41 ?k41 ?a42 ?i42 ?l42 ?c42 ?k42 ?a43 ?l43 ?c43 ?k43 ?a44 ?l44 ?c44 ?k44 ?a45 ?l45 ?c45 ?k45 ?a46 ?l46 ?c46 ?k46 ?a47 ?l47 ?c47 ?k47 ?a48 ?l48 ?c48 ?k48 ?a49 ?l49 ?c49 ?k49 ?a50 ?l50 ?c50 ?k50 ?a51 ?l51 ?c51 ?k51 ?a52 ?l52 ?c52 ?k52 ?a53 ?l53 ?c53 ?k53 ?a54 ?l54 ?c54 ?k54 ?pg_Book ?hd_Book ?po_Book ?sa_Book ?mk_Book ?kc_Book ?no_Book_rooms ?no_Book_nights ?no_Book_kept ?pg_Seller ?hd_Seller ?po_Seller ?sa_Seller ?mk_Seller ?kc_Seller ?no_Seller_setup ?no_Seller_number ?no_Seller_free ?no_Seller_vouchers ?no_Seller_book ?no_Seller_closing ?no_Seller_asked ?no_Seller_waiting ?no_Seller_count ?no_Seller_outgoing ?no_Seller_told ?pg_House ?hd_House ?po_House ?sa_House ?mk_House ?kc_House ?no_House_sellers ?no_House_stock ?no_House_books ?no_House_queue ?no_House_round ?no_House_counts ?no_House_outgoing ?z_isinstance ?z_int ?z_bool ?z_list ?z_range ?z_max ?z_min ?z_len ?z_enumerate ?z_sorted ?z_sum ?z_all ?z_dict ?z_any ?z_tuple ?z_zip ?z_str
    (case aC_Book=>k_is)
    (case aC_Seller=>k_is)
    (case aC_House=>k_is)
    (case a1=>k_is)
    (case l1=>k_is)
    (case c1=>k_is)
    (case k1=>k_is)
    (case a2=>k_is)
    (case l2=>k_is)
    (case c2=>k_is)
    (case k2=>k_is)
    (case a3=>k_is)
    (case l3=>k_is)
    (case c3=>k_is)
    (case k3=>k_is)
    (case a4=>k_is)
    (case l4=>k_is)
    (case c4=>k_is)
    (case k4=>k_is)
    (case a5=>k_is)
    (case l5=>k_is)
    (case c5=>k_is)
    (case k5=>k_is)
    (case a6=>k_is)
    (case l6=>k_is)
    (case c6=>k_is)
    (case k6=>k_is)
    (case a7=>k_is)
    (case l7=>k_is)
    (case c7=>k_is)
    (case k7=>k_is)
    (case a8=>k_is)
    (case l8=>k_is)
    (case c8=>k_is)
    (case k8=>k_is)
    (case a9=>k_is)
    (case l9=>k_is)
    (case c9=>k_is)
    (case k9=>k_is)
    (case a10=>k_is)
    (case l10=>k_is)
    (case c10=>k_is)
    (case k10=>k_is)
    (case a11=>k_is)
    (case i11=>k_is)
    (case l11=>k_is)
    (case c11=>k_is)
    (case k11=>k_is)
    (case a12=>k_is)
    (case i12=>k_is)
    (case l12=>k_is)
    (case c12=>k_is)
    (case k12=>k_is)
    (case a13=>k_is)
    (case i13=>k_is)
    (case l13=>k_is)
    (case c13=>k_is)
    (case k13=>k_is)
    (case a14=>k_is)
    (case i14=>k_is)
    (case l14=>k_is)
    (case c14=>k_is)
    (case k14=>k_is)
    (case a15=>k_is)
    (case i15=>k_is)
    (case l15=>k_is)
    (case c15=>k_is)
    (case k15=>k_is)
    (case a16=>k_is)
    (case i16=>k_is)
    (case l16=>k_is)
    (case c16=>k_is)
    (case k16=>k_is)
    (case a17=>k_is)
    (case i17=>k_is)
    (case l17=>k_is)
    (case c17=>k_is)
    (case k17=>k_is)
    (case a18=>k_is)
    (case i18=>k_is)
    (case l18=>k_is)
    (case c18=>k_is)
    (case k18=>k_is)
    (case a19=>k_is)
    (case i19=>k_is)
    (case l19=>k_is)
    (case c19=>k_is)
    (case k19=>k_is)
    (case a20=>k_is)
    (case i20=>k_is)
    (case l20=>k_is)
    (case c20=>k_is)
    (case k20=>k_is)
    (case a21=>k_is)
    (case i21=>k_is)
    (case l21=>k_is)
    (case c21=>k_is)
    (case k21=>k_is)
    (case a22=>k_is)
    (case i22=>k_is)
    (case l22=>k_is)
    (case c22=>k_is)
    (case k22=>k_is)
    (case a23=>k_is)
    (case i23=>k_is)
    (case l23=>k_is)
    (case c23=>k_is)
    (case k23=>k_is)
    (case a24=>k_is)
    (case i24=>k_is)
    (case l24=>k_is)
    (case c24=>k_is)
    (case k24=>k_is)
    (case a25=>k_is)
    (case i25=>k_is)
    (case l25=>k_is)
    (case c25=>k_is)
    (case k25=>k_is)
    (case a26=>k_is)
    (case i26=>k_is)
    (case l26=>k_is)
    (case c26=>k_is)
    (case k26=>k_is)
    (case a27=>k_is)
    (case i27=>k_is)
    (case l27=>k_is)
    (case c27=>k_is)
    (case k27=>k_is)
    (case a28=>k_is)
    (case i28=>k_is)
    (case l28=>k_is)
    (case c28=>k_is)
    (case k28=>k_is)
    (case a29=>k_is)
    (case i29=>k_is)
    (case l29=>k_is)
    (case c29=>k_is)
    (case k29=>k_is)
    (case a30=>k_is)
    (case i30=>k_is)
    (case l30=>k_is)
    (case c30=>k_is)
    (case k30=>k_is)
    (case a31=>k_is)
    (case i31=>k_is)
    (case l31=>k_is)
    (case c31=>k_is)
    (case k31=>k_is)
    (case a32=>k_is)
    (case i32=>k_is)
    (case l32=>k_is)
    (case c32=>k_is)
    (case k32=>k_is)
    (case a33=>k_is)
    (case i33=>k_is)
    (case l33=>k_is)
    (case c33=>k_is)
    (case k33=>k_is)
    (case a34=>k_is)
    (case i34=>k_is)
    (case l34=>k_is)
    (case c34=>k_is)
    (case k34=>k_is)
    (case a35=>k_is)
    (case i35=>k_is)
    (case l35=>k_is)
    (case c35=>k_is)
    (case k35=>k_is)
    (case a36=>k_is)
    (case i36=>k_is)
    (case l36=>k_is)
    (case c36=>k_is)
    (case k36=>k_is)
    (case a37=>k_is)
    (case i37=>k_is)
    (case l37=>k_is)
    (case c37=>k_is)
    (case k37=>k_is)
    (case a38=>k_is)
    (case i38=>k_is)
    (case l38=>k_is)
    (case c38=>k_is)
    (case k38=>k_is)
    (case a39=>k_is)
    (case i39=>k_is)
    (case l39=>k_is)
    (case c39=>k_is)
    (case k39=>k_is)
    (case a40=>k_is)
    (case i40=>k_is)
    (case l40=>k_is)
    (case c40=>k_is)
    (case k40=>k_is)
    (case a41=>k_is)
    (case i41=>k_is)
    (case l41=>k_is)
    (case c41=>k_is)
    (case k41=>k_is)
    (case a42=>k_is)
    (case i42=>k_is)
    (case l42=>k_is)
    (case c42=>k_is)
    (case k42=>k_is)
    (case a43=>k_is)
    (case l43=>k_is)
    (case c43=>k_is)
    (case k43=>k_is)
    (case a44=>k_is)
    (case l44=>k_is)
    (case c44=>k_is)
    (case k44=>k_is)
    (case a45=>k_is)
    (case l45=>k_is)
    (case c45=>k_is)
    (case k45=>k_is)
    (case a46=>k_is)
    (case l46=>k_is)
    (case c46=>k_is)
    (case k46=>k_is)
    (case a47=>k_is)
    (case l47=>k_is)
    (case c47=>k_is)
    (case k47=>k_is)
    (case a48=>k_is)
    (case l48=>k_is)
    (case c48=>k_is)
    (case k48=>k_is)
    (case a49=>k_is)
    (case l49=>k_is)
    (case c49=>k_is)
    (case k49=>k_is)
    (case a50=>k_is)
    (case l50=>k_is)
    (case c50=>k_is)
    (case k50=>k_is)
    (case a51=>k_is)
    (case l51=>k_is)
    (case c51=>k_is)
    (case k51=>k_is)
    (case a52=>k_is)
    (case l52=>k_is)
    (case c52=>k_is)
    (case k52=>k_is)
    (case a53=>k_is)
    (case l53=>k_is)
    (case c53=>k_is)
    (case k53=>k_is)
    (case a54=>k_is)
    (case l54=>k_is)
    (case c54=>k_is)
    (case k54=>k_is)
    (case pg_Book=>k_is)
    (case hd_Book=>k_is)
    (case po_Book=>k_is)
    (case sa_Book=>k_is)
    (case mk_Book=>k_is)
    (case kc_Book=>k_is)
    (case no_Book_rooms=>k_is)
    (case no_Book_nights=>k_is)
    (case no_Book_kept=>k_is)
    (case pg_Seller=>k_is)
    (case hd_Seller=>k_is)
    (case po_Seller=>k_is)
    (case sa_Seller=>k_is)
    (case mk_Seller=>k_is)
    (case kc_Seller=>k_is)
    (case no_Seller_setup=>k_is)
    (case no_Seller_number=>k_is)
    (case no_Seller_free=>k_is)
    (case no_Seller_vouchers=>k_is)
    (case no_Seller_book=>k_is)
    (case no_Seller_closing=>k_is)
    (case no_Seller_asked=>k_is)
    (case no_Seller_waiting=>k_is)
    (case no_Seller_count=>k_is)
    (case no_Seller_outgoing=>k_is)
    (case no_Seller_told=>k_is)
    (case pg_House=>k_is)
    (case hd_House=>k_is)
    (case po_House=>k_is)
    (case sa_House=>k_is)
    (case mk_House=>k_is)
    (case kc_House=>k_is)
    (case no_House_sellers=>k_is)
    (case no_House_stock=>k_is)
    (case no_House_books=>k_is)
    (case no_House_queue=>k_is)
    (case no_House_round=>k_is)
    (case no_House_counts=>k_is)
    (case no_House_outgoing=>k_is)
    (case z_isinstance=>k_is)
    (case z_int=>k_is)
    (case z_bool=>k_is)
    (case z_list=>k_is)
    (case z_range=>k_is)
    (case z_max=>k_is)
    (case z_min=>k_is)
    (case z_len=>k_is)
    (case z_enumerate=>k_is)
    (case z_sorted=>k_is)
    (case z_sum=>k_is)
    (case z_all=>k_is)
    (case z_dict=>k_is)
    (case z_any=>k_is)
    (case z_tuple=>k_is)
    (case z_zip=>k_is)
    (case z_str=>k_is)
#print axioms PySem.Challenge.cw_manydoors_k12_answers_of_desks_are_new_holds
