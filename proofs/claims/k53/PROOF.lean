import PyProof.Rows.All
import Wide.All
import OpenK.AllK
import Wide.FinOn
import PyProof.EqAt
import PyProof.EqKinds
import PyProof.TupleCall
import HandS.DeepEq
import HandS.ForMost
import HandS.Walk
import HandS.Conv
import HandS.IsInst
import HandS.ForExc
import HandS.NoneIn
import HandS.Property
import HandS.Flt
import HandS.ExcIs
import HandS.TryMany
import HandS.ExcInit
import HandS.ExcField
import HandS.Codes
import HandS.More
import HandS.Star
import HandS.DictComp
import HandS.Deep
import HandS.Defaults
import HandS.TupSets
import HandS.Zip
import HandS.Strs
import HandS.Small
import HandS.Style
import HandS.Flow
import HandS.TupAny
import HandS.ClsMeth
import HandS.MethStar
import HandS.WrittenGet
import HandS.SetKeys
import HandS.RaiseFrom
import HandS.CallSlots
import HandS.TupLen
import KE.GoesMore
import KE.GoesZip
import KE.KDictZip
import KE.KDictPairs
import KE.KStateDown
import HandS.Head0
import HandS.Head1
import HandS.Head2
import HandS.HeadEnd
import HandS.HeadHook1
import HandS.HeadHook2
import HandS.HeadHook3
import HandS.Head3
import PySem.Challenge.RW_halfmeshes_k53_books_refused

set_option Elab.async false
set_option linter.all false
set_option maxRecDepth 100000
set_option maxHeartbeats 4000000
set_option synthInstance.maxHeartbeats 4000000
set_option synthInstance.maxSize 100000
namespace RD
class W1 (B:Prop) (A:outParam Prop):Prop where
 go:A→B
class Wn (B:Prop) (A:outParam Prop):Prop where
 go:A→B
instance (priority:=low) wn0 (A:Prop):Wn A A:=⟨id⟩
instance (priority:=high) wnS (C:Prop) (B:Prop) (A:Prop) [a:W1 C B] [b:Wn B A]:Wn C A:=⟨fun h=>a.go (b.go h)⟩
theorem stp {B A:Prop} [w:Wn B A] (h:A):B:=w.go h
theorem st1 {B A:Prop} [w:W1 B A] (h:A):B:=w.go h
end RD
namespace RD
open PySem PySem.Spec PyProof.Rows L2
section
variable {σ s:L2.St} {H:Hp} {Q:VK} {nx bk ct:L2.St→Hp→Prop} {rt:VK} {te ta tb tc:TE} {t u:TS} {c c2:TT} {v x:V} {ox:Option V} {i:Nat} {QB:Bool→Hp→Prop}
theorem seq (h:t ⟨u ⟨nx,rt,bk,ct⟩,rt,bk,ct⟩ σ H):tSeq t u ⟨nx,rt,bk,ct⟩ σ H:=h
instance i_seq  : RD.W1 (tSeq t u ⟨nx,rt,bk,ct⟩ σ H) (t ⟨u ⟨nx,rt,bk,ct⟩,rt,bk,ct⟩ σ H):=⟨fun h=>seq h⟩
theorem asg {g:TG} (h:te σ H fun x H1=>g x σ H1 nx):tAsg te g ⟨nx,rt,bk,ct⟩ σ H:=h
instance i_asg {g:TG}:RD.W1 (tAsg te g ⟨nx,rt,bk,ct⟩ σ H) (te σ H fun x H1=>g x σ H1 nx):=⟨fun h=>asg h⟩
theorem ret (h:te σ H rt):tRet te ⟨nx,rt,bk,ct⟩ σ H:=h
instance i_ret  : RD.W1 (tRet te ⟨nx,rt,bk,ct⟩ σ H) (te σ H rt):=⟨fun h=>ret h⟩
theorem retN (h:rt .non H):tRetN ⟨nx,rt,bk,ct⟩ σ H:=h
instance i_retN  : RD.W1 (tRetN ⟨nx,rt,bk,ct⟩ σ H) (rt .non H):=⟨fun h=>retN h⟩
theorem drp (h:te σ H fun _ H1=>nx σ H1):tDrop te ⟨nx,rt,bk,ct⟩ σ H:=h
instance i_drp  : RD.W1 (tDrop te ⟨nx,rt,bk,ct⟩ σ H) (te σ H fun _ H1=>nx σ H1):=⟨fun h=>drp h⟩
theorem ifs (h:c σ H fun b H1=>if b=true then t ⟨nx,rt,bk,ct⟩ σ H1 else u ⟨nx,rt,bk,ct⟩ σ H1):tIfS c t u ⟨nx,rt,bk,ct⟩ σ H:=h
instance i_ifs  : RD.W1 (tIfS c t u ⟨nx,rt,bk,ct⟩ σ H) (c σ H fun b H1=>if b=true then t ⟨nx,rt,bk,ct⟩ σ H1 else u ⟨nx,rt,bk,ct⟩ σ H1):=⟨fun h=>ifs h⟩
theorem nxt (h:nx σ H):tNext ⟨nx,rt,bk,ct⟩ σ H:=h
instance i_nxt  : RD.W1 (tNext ⟨nx,rt,bk,ct⟩ σ H) (nx σ H):=⟨fun h=>nxt h⟩
theorem brk (h:bk σ H):tBreak ⟨nx,rt,bk,ct⟩ σ H:=h
instance i_brk  : RD.W1 (tBreak ⟨nx,rt,bk,ct⟩ σ H) (bk σ H):=⟨fun h=>brk h⟩
theorem cnt (h:ct σ H):tCont ⟨nx,rt,bk,ct⟩ σ H:=h
instance i_cnt  : RD.W1 (tCont ⟨nx,rt,bk,ct⟩ σ H) (ct σ H):=⟨fun h=>cnt h⟩
theorem aug {ti:TIp} (h:tVar i σ H fun x _=>te σ H fun y H1=>ti x y H1 fun z H2=>gName i z σ H2 nx):tAug i te ti ⟨nx,rt,bk,ct⟩ σ H:=h
instance i_aug {ti:TIp}:RD.W1 (tAug i te ti ⟨nx,rt,bk,ct⟩ σ H) (tVar i σ H fun x _=>te σ H fun y H1=>ti x y H1 fun z H2=>gName i z σ H2 nx):=⟨fun h=>aug h⟩
theorem gn0 {QG:L2.St→Hp→Prop} (h:QG (some v :: s) H):gName 0 v (ox :: s) H QG:=h
instance i_gn0 {QG:L2.St→Hp→Prop}:RD.W1 (gName 0 v (ox :: s) H QG) (QG (some v :: s) H):=⟨fun h=>gn0 h⟩
theorem gnS {QG:L2.St→Hp→Prop} (h:gName i v s H fun s' H'=>QG (ox :: s') H'):gName (i + 1) v (ox :: s) H QG:=h
instance i_gnS {QG:L2.St→Hp→Prop}:RD.W1 (gName (i + 1) v (ox :: s) H QG) (gName i v s H fun s' H'=>QG (ox :: s') H'):=⟨fun h=>gnS h⟩
theorem var0 (h:Q v H):tVar 0 (some v :: s) H Q:=⟨v,rfl,h⟩
instance i_var0  : RD.W1 (tVar 0 (some v :: s) H Q) (Q v H):=⟨fun h=>var0 h⟩
theorem varS (h:tVar i s H Q):tVar (i + 1) (ox :: s) H Q:=by
 obtain ⟨v,e,q⟩:=h
 exact ⟨v,by simpa using e,q⟩
instance i_varS  : RD.W1 (tVar (i + 1) (ox :: s) H Q) (tVar i s H Q):=⟨fun h=>varS h⟩
theorem cst (h:Q v H):tC v σ H Q:=h
instance i_cst  : RD.W1 (tC v σ H Q) (Q v H):=⟨fun h=>cst h⟩
theorem op {r:R2} (h:ta σ H fun x H1=>tb σ H1 fun y H2=>r x y H2 Q):tOp r ta tb σ H Q:=h
instance i_op {r:R2}:RD.W1 (tOp r ta tb σ H Q) (ta σ H fun x H1=>tb σ H1 fun y H2=>r x y H2 Q):=⟨fun h=>op h⟩
theorem un {r:V→Hp→VK→Prop} (h:ta σ H fun x H1=>r x H1 Q):tUn r ta σ H Q:=h
instance i_un {r:V→Hp→VK→Prop}:RD.W1 (tUn r ta σ H Q) (ta σ H fun x H1=>r x H1 Q):=⟨fun h=>un h⟩
theorem i0 {g:Int→Int→V} {a b:Int} (h:Q (g a b) H):rI0 g (.int a) (.int b) H Q:=⟨a,b,rfl,rfl,h⟩
instance i_i0 {g:Int→Int→V} {a b:Int}:RD.W1 (rI0 g (.int a) (.int b) H Q) (Q (g a b) H):=⟨fun h=>i0 h⟩
theorem iC {C:Int→Int→Prop} {g:Int→Int→V} {a b:Int} (hc:C a b) (h:Q (g a b) H):rI C g (.int a) (.int b) H Q:=⟨a,b,rfl,rfl,hc,h⟩
theorem u0 {g:Int→V} {a:Int} (h:Q (g a) H):rU g (.int a) H Q:=⟨a,rfl,h⟩
instance i_u0 {g:Int→V} {a:Int}:RD.W1 (rU g (.int a) H Q) (Q (g a) H):=⟨fun h=>u0 h⟩
theorem dI {a b:Int}:decide (V.int a=V.int b)=decide (a=b):=by
 by_cases e:a=b
 ·rw [decide_eq_true e,e,decide_eq_true rfl]
 ·rw [decide_eq_false e,decide_eq_false fun z=>e (V.int.inj z)]
theorem dB {a b:Bool}:decide (V.bl a=V.bl b)=decide (a=b):=by
 by_cases e:a=b
 ·rw [decide_eq_true e,e,decide_eq_true rfl]
 ·rw [decide_eq_false e,decide_eq_false fun z=>e (V.bl.inj z)]
theorem dS {a b:Str}:decide (V.str a=V.str b)=decide (a=b):=by
 by_cases e:a=b
 ·rw [decide_eq_true e,e,decide_eq_true rfl]
 ·rw [decide_eq_false e,decide_eq_false fun z=>e (V.str.inj z)]
theorem eqI {a b:Int} (h:Q (.bl (decide (a=b))) H):rEq (.int a) (.int b) H Q:=⟨rfl,by rw [dI]; exact h⟩
instance i_eqI {a b:Int}:RD.W1 (rEq (.int a) (.int b) H Q) (Q (.bl (decide (a=b))) H):=⟨fun h=>eqI h⟩
theorem neI {a b:Int} (h:Q (.bl (!decide (a=b))) H):rNe (.int a) (.int b) H Q:=⟨rfl,by rw [dI]; exact h⟩
instance i_neI {a b:Int}:RD.W1 (rNe (.int a) (.int b) H Q) (Q (.bl (!decide (a=b))) H):=⟨fun h=>neI h⟩
theorem eqB {a b:Bool} (h:Q (.bl (decide (a=b))) H):rEq (.bl a) (.bl b) H Q:=⟨rfl,by rw [dB]; exact h⟩
instance i_eqB {a b:Bool}:RD.W1 (rEq (.bl a) (.bl b) H Q) (Q (.bl (decide (a=b))) H):=⟨fun h=>eqB h⟩
theorem neB {a b:Bool} (h:Q (.bl (!decide (a=b))) H):rNe (.bl a) (.bl b) H Q:=⟨rfl,by rw [dB]; exact h⟩
instance i_neB {a b:Bool}:RD.W1 (rNe (.bl a) (.bl b) H Q) (Q (.bl (!decide (a=b))) H):=⟨fun h=>neB h⟩
theorem eqS {a b:Str} (h:Q (.bl (decide (a=b))) H):rEq (.str a) (.str b) H Q:=⟨rfl,by rw [dS]; exact h⟩
instance i_eqS {a b:Str}:RD.W1 (rEq (.str a) (.str b) H Q) (Q (.bl (decide (a=b))) H):=⟨fun h=>eqS h⟩
theorem neS {a b:Str} (h:Q (.bl (!decide (a=b))) H):rNe (.str a) (.str b) H Q:=⟨rfl,by rw [dS]; exact h⟩
instance i_neS {a b:Str}:RD.W1 (rNe (.str a) (.str b) H Q) (Q (.bl (!decide (a=b))) H):=⟨fun h=>neS h⟩
theorem tst (h:te σ H fun x H'=>∃ k,x = .bl k∧QB k H'):tTest te σ H QB:=h
instance i_tst  : RD.W1 (tTest te σ H QB) (te σ H fun x H'=>∃ k,x = .bl k∧QB k H'):=⟨fun h=>tst h⟩
theorem tb' (h:te σ H fun x H'=>∃ k,x = .bl k∧QB k H'):tB te σ H QB:=h
instance i_tbx  : RD.W1 (tB te σ H QB) (te σ H fun x H'=>∃ k,x = .bl k∧QB k H'):=⟨fun h=>tb' h⟩
theorem exb {b:Bool} {P:Bool→Prop} (h:P b):∃ k,V.bl b = .bl k∧P k:=⟨b,rfl,h⟩
instance i_exb {b:Bool} {P:Bool→Prop}:RD.W1 (∃ k,V.bl b = .bl k∧P k) (P b):=⟨fun h=>exb h⟩
theorem and (h:c σ H fun b H1=>if b=true then c2 σ H1 QB else QB false H1):tAnd c c2 σ H QB:=h
instance i_and  : RD.W1 (tAnd c c2 σ H QB) (c σ H fun b H1=>if b=true then c2 σ H1 QB else QB false H1):=⟨fun h=>and h⟩
theorem or (h:c σ H fun b H1=>if b=true then QB true H1 else c2 σ H1 QB):tOr c c2 σ H QB:=h
instance i_or  : RD.W1 (tOr c c2 σ H QB) (c σ H fun b H1=>if b=true then QB true H1 else c2 σ H1 QB):=⟨fun h=>or h⟩
theorem not (h:c σ H fun b H1=>QB (!b) H1):tNot c σ H QB:=h
instance i_not  : RD.W1 (tNot c σ H QB) (c σ H fun b H1=>QB (!b) H1):=⟨fun h=>not h⟩
theorem andV (h:ta σ H fun x H1=>∃ k,x = .bl k∧if k=true then tb σ H1 Q else Q (.bl false) H1):tAndV ta tb σ H Q:=h
instance i_andV  : RD.W1 (tAndV ta tb σ H Q) (ta σ H fun x H1=>∃ k,x = .bl k∧if k=true then tb σ H1 Q else Q (.bl false) H1):=⟨fun h=>andV h⟩
theorem orV (h:ta σ H fun x H1=>∃ k,x = .bl k∧if k=true then Q (.bl true) H1 else tb σ H1 Q):tOrV ta tb σ H Q:=h
instance i_orV  : RD.W1 (tOrV ta tb σ H Q) (ta σ H fun x H1=>∃ k,x = .bl k∧if k=true then Q (.bl true) H1 else tb σ H1 Q):=⟨fun h=>orV h⟩
theorem notV (h:ta σ H fun x H1=>∃ k,x = .bl k∧Q (.bl (!k)) H1):tNotV ta σ H Q:=h
instance i_notV  : RD.W1 (tNotV ta σ H Q) (ta σ H fun x H1=>∃ k,x = .bl k∧Q (.bl (!k)) H1):=⟨fun h=>notV h⟩
theorem tif (h:c σ H fun b H1=>if b=true then ta σ H1 Q else tb σ H1 Q):tIf c ta tb σ H Q:=h
instance i_tif  : RD.W1 (tIf c ta tb σ H Q) (c σ H fun b H1=>if b=true then ta σ H1 Q else tb σ H1 Q):=⟨fun h=>tif h⟩
theorem yes (h:QB true H):tYes σ H QB:=h
instance i_yes  : RD.W1 (tYes σ H QB) (QB true H):=⟨fun h=>yes h⟩
theorem chain {r r':R2} (h:ta σ H fun x H1=>tb σ H1 fun y H2=>r x y H2 fun z H3=>∃ k,z = .bl k∧(if k=true then tc σ H3 fun w' H4=>r' y w' H4 Q else Q (.bl false) H3)):tChain r r' ta tb tc σ H Q:=h
instance i_chain {r r':R2}:RD.W1 (tChain r r' ta tb tc σ H Q) (ta σ H fun x H1=>tb σ H1 fun y H2=>r x y H2 fun z H3=>∃ k,z = .bl k∧(if k=true then tc σ H3 fun w' H4=>r' y w' H4 Q else Q (.bl false) H3)):=⟨fun h=>chain h⟩
theorem nil {QA:List V→Hp→Prop} (h:QA [] H):tNil σ H QA:=h
instance i_nil {QA:List V→Hp→Prop}:RD.W1 (tNil σ H QA) (QA [] H):=⟨fun h=>nil h⟩
theorem cons {QA:List V→Hp→Prop} {tr:TA} (h:ta σ H fun x H1=>tr σ H1 fun xs H2=>QA (x :: xs) H2):tCons ta tr σ H QA:=h
instance i_cons {QA:List V→Hp→Prop} {tr:TA}:RD.W1 (tCons ta tr σ H QA) (ta σ H fun x H1=>tr σ H1 fun xs H2=>QA (x :: xs) H2):=⟨fun h=>cons h⟩
theorem cb {r:List V→Hp→VK→Prop} {tr:TA} (h:tr σ H fun vs H1=>r vs H1 Q):tCB r tr σ H Q:=h
instance i_cb {r:List V→Hp→VK→Prop} {tr:TA}:RD.W1 (tCB r tr σ H Q) (tr σ H fun vs H1=>r vs H1 Q):=⟨fun h=>cb h⟩
theorem call {sp:Sp} {dvs:List V} {E:XK} {tr:TA} (h:tr σ H fun vs H1=>sp (vs++dvs) H1 Q E):tCall sp dvs E tr σ H Q:=h
instance i_call {sp:Sp} {dvs:List V} {E:XK} {tr:TA}:RD.W1 (tCall sp dvs E tr σ H Q) (tr σ H fun vs H1=>sp (vs++dvs) H1 Q E):=⟨fun h=>call h⟩
theorem tup {tr:TA} (h:tr σ H fun xs H1=>xs.length≤sizeLine∧∀ p,H1 p=none→Q (.ref p) (upd H1 p (.tup xs))):tTup tr σ H Q:=h
instance i_tup {tr:TA}:RD.W1 (tTup tr σ H Q) (tr σ H fun xs H1=>xs.length≤sizeLine∧∀ p,H1 p=none→Q (.ref p) (upd H1 p (.tup xs))):=⟨fun h=>tup h⟩
theorem lst {tr:TA} (h:tr σ H fun xs H1=>xs.length≤sizeLine∧∀ p,H1 p=none→Q (.ref p) (upd H1 p (.lst xs))):tLst tr σ H Q:=h
theorem sl {r:V→Option Int→Option Int→Hp→VK→Prop} {tl th:TO} (h:te σ H fun x H1=>tl σ H1 fun l H2=>th σ H2 fun u H3=>r x l u H3 Q):L2.tSl r te tl th σ H Q:=h
instance i_sl {r:V→Option Int→Option Int→Hp→VK→Prop} {tl th:TO}:RD.W1 (L2.tSl r te tl th σ H Q) (te σ H fun x H1=>tl σ H1 fun l H2=>th σ H2 fun u H3=>r x l u H3 Q):=⟨fun h=>sl h⟩
theorem nop {QO:Option Int→Hp→Prop} (h:QO none H):tNoPart σ H QO:=h
instance i_nop {QO:Option Int→Hp→Prop}:RD.W1 (tNoPart σ H QO) (QO none H):=⟨fun h=>nop h⟩
theorem prt {QO:Option Int→Hp→Prop} (h:te σ H fun x H1=>∃ i,x = .int i∧QO (some i) H1):tPart te σ H QO:=h
instance i_prt {QO:Option Int→Hp→Prop}:RD.W1 (tPart te σ H QO) (te σ H fun x H1=>∃ i,x = .int i∧QO (some i) H1):=⟨fun h=>prt h⟩
theorem exi {a:Int} {P:Int→Prop} (h:P a):∃ k,V.int a = .int k∧P k:=⟨a,rfl,h⟩
instance i_exi {a:Int} {P:Int→Prop}:RD.W1 (∃ k,V.int a = .int k∧P k) (P a):=⟨fun h=>exi h⟩
theorem bm {K:PySem.W.Frag} {Ty:String} {r:V→List V→Hp→VK→Prop} {tr:TA} (h:te σ H fun x H1=>tyV K Ty x H1∧tr σ H1 fun xs H2=>r x xs H2 Q):tBM K Ty r te tr σ H Q:=h
instance i_bm {K:PySem.W.Frag} {Ty:String} {r:V→List V→Hp→VK→Prop} {tr:TA}:RD.W1 (tBM K Ty r te tr σ H Q) (te σ H fun x H1=>tyV K Ty x H1∧tr σ H1 fun xs H2=>r x xs H2 Q):=⟨fun h=>bm h⟩
theorem bm0 {K:PySem.W.Frag} {Ty:String} {r:V→List V→Hp→VK→Prop} (h:te σ H fun x H1=>tyV K Ty x H1∧r x [] H1 Q):tBM0 K Ty r te σ H Q:=h
instance i_bm0 {K:PySem.W.Frag} {Ty:String} {r:V→List V→Hp→VK→Prop}:RD.W1 (tBM0 K Ty r te σ H Q) (te σ H fun x H1=>tyV K Ty x H1∧r x [] H1 Q):=⟨fun h=>bm0 h⟩
theorem fld {K:PySem.W.Frag} {f:Str} (h:ta σ H fun x H1=>∃ a C dx fs v,x = .ref a∧H1 a=some (.ins C dx fs)∧Cls K C∧NoAttr K C f∧fs.lookup f=some v∧Q v H1):tFld K ta f σ H Q:=h
instance i_fld {K:PySem.W.Frag} {f:Str}:RD.W1 (tFld K ta f σ H Q) (ta σ H fun x H1=>∃ a C dx fs v,x = .ref a∧H1 a=some (.ins C dx fs)∧Cls K C∧NoAttr K C f∧fs.lookup f=some v∧Q v H1):=⟨fun h=>fld h⟩
theorem meth {C:Addr} {m:Str} {sp:Sp} {dvs:List V} {E:XK} {tr:TA} (h:ta σ H fun x H1=>∃ a dx fs,x = .ref a∧H1 a=some (.ins C dx fs)∧fs.lookup m=none∧tr σ H1 fun vs H2=>sp (x :: (vs++dvs)) H2 Q E):tMeth C m sp dvs E ta tr σ H Q:=h
instance i_meth {C:Addr} {m:Str} {sp:Sp} {dvs:List V} {E:XK} {tr:TA}:RD.W1 (tMeth C m sp dvs E ta tr σ H Q) (ta σ H fun x H1=>∃ a dx fs,x = .ref a∧H1 a=some (.ins C dx fs)∧fs.lookup m=none∧tr σ H1 fun vs H2=>sp (x :: (vs++dvs)) H2 Q E):=⟨fun h=>meth h⟩
def MKE (C:Addr) (sp:Sp) (dvs:List V) (E:XK) (vs:List V) (H1:Hp) (Q:VK):Prop:=∀ x dx,H1 x=none→H1 dx=none→dx ≠ x→sp (.ref x :: (vs++dvs)) (upd (upd H1 dx (.own x)) x (.ins C dx [])) (fun v H2=>v = .non∧Q (.ref x) H2) E
theorem make {C:Addr} {sp:Sp} {dvs:List V} {E:XK} {tr:TA} (h:tr σ H fun vs H1=>MKE C sp dvs E vs H1 Q):tMake C sp dvs E tr σ H Q:=h
instance i_make {C:Addr} {sp:Sp} {dvs:List V} {E:XK} {tr:TA}:RD.W1 (tMake C sp dvs E tr σ H Q) (tr σ H fun vs H1=>MKE C sp dvs E vs H1 Q):=⟨fun h=>make h⟩
theorem dput {td ty tv:TE} (h:tv σ H fun v H1=>td σ H1 fun x H2=>ty σ H2 fun y H3=>∃ a H4,x = .ref a∧DPut H3 a y v H4∧nx σ H4):sDPut td ty tv ⟨nx,rt,bk,ct⟩ σ H:=h
instance i_dput {td ty tv:TE}:RD.W1 (sDPut td ty tv ⟨nx,rt,bk,ct⟩ σ H) (tv σ H fun v H1=>td σ H1 fun x H2=>ty σ H2 fun y H3=>∃ a H4,x = .ref a∧DPut H3 a y v H4∧nx σ H4):=⟨fun h=>dput h⟩
theorem dget {td ty:TE} (h:td σ H fun x H1=>ty σ H1 fun y H2=>∃ a v,x = .ref a∧DGet H2 a y (some v)∧Q v H2):tDGet td ty σ H Q:=h
instance i_dget {td ty:TE}:RD.W1 (tDGet td ty σ H Q) (td σ H fun x H1=>ty σ H1 fun y H2=>∃ a v,x = .ref a∧DGet H2 a y (some v)∧Q v H2):=⟨fun h=>dget h⟩
theorem din {td ty:TE} (h:ty σ H fun y H1=>td σ H1 fun x H2=>∃ a o,x = .ref a∧DGet H2 a y o∧Q (.bl o.isSome) H2):tDIn ty td σ H Q:=h
instance i_din {td ty:TE}:RD.W1 (tDIn ty td σ H Q) (ty σ H fun y H1=>td σ H1 fun x H2=>∃ a o,x = .ref a∧DGet H2 a y o∧Q (.bl o.isSome) H2):=⟨fun h=>din h⟩
theorem dnin {td ty:TE} (h:ty σ H fun y H1=>td σ H1 fun x H2=>∃ a o,x = .ref a∧DGet H2 a y o∧Q (.bl (!o.isSome)) H2):tDNotIn ty td σ H Q:=h
instance i_dnin {td ty:TE}:RD.W1 (tDNotIn ty td σ H Q) (ty σ H fun y H1=>td σ H1 fun x H2=>∃ a o,x = .ref a∧DGet H2 a y o∧Q (.bl (!o.isSome)) H2):=⟨fun h=>dnin h⟩
theorem dnew (h:∀ p,H p=none→Q (.ref p) (upd H p (.dK []))):tDNewK σ H Q:=h
instance i_dnew  : RD.W1 (tDNewK σ H Q) (∀ p,H p=none→Q (.ref p) (upd H p (.dK []))):=⟨fun h=>dnew h⟩
theorem sfld {K:PySem.W.Frag} {tv:TE} {f:Str} (h:tv σ H fun y H1=>ta σ H1 fun x H2=>∃ a C dx fs,x = .ref a∧H2 a=some (.ins C dx fs)∧Cls K C∧NoAttr K C f∧fs.length < 1000∧nx σ (upd H2 a (.ins C dx (putF f y fs)))):sFld K ta tv f ⟨nx,rt,bk,ct⟩ σ H:=h
instance i_sfld {K:PySem.W.Frag} {tv:TE} {f:Str}:RD.W1 (sFld K ta tv f ⟨nx,rt,bk,ct⟩ σ H) (tv σ H fun y H1=>ta σ H1 fun x H2=>∃ a C dx fs,x = .ref a∧H2 a=some (.ins C dx fs)∧Cls K C∧NoAttr K C f∧fs.length < 1000∧nx σ (upd H2 a (.ins C dx (putF f y fs)))):=⟨fun h=>sfld h⟩
theorem lrg {tr:L2.St→Hp→(Int→Int→Hp→Prop)→Prop} (h:tr σ H fun a b H1=>RgOk a b∧∀ q,H1 q=none→Q (.ref q) (upd H1 q (.lst (rgV a b)))):tLstRg tr σ H Q:=h
instance i_lrg {tr:L2.St→Hp→(Int→Int→Hp→Prop)→Prop}:RD.W1 (tLstRg tr σ H Q) (tr σ H fun a b H1=>RgOk a b∧∀ q,H1 q=none→Q (.ref q) (upd H1 q (.lst (rgV a b)))):=⟨fun h=>lrg h⟩
theorem rg1 {QR:Int→Int→Hp→Prop} (h:ta σ H fun x H1=>∃ n,x = .int n∧QR 0 n H1):tRg1 ta σ H QR:=h
instance i_rg1 {QR:Int→Int→Hp→Prop}:RD.W1 (tRg1 ta σ H QR) (ta σ H fun x H1=>∃ n,x = .int n∧QR 0 n H1):=⟨fun h=>rg1 h⟩
theorem bT {A B:Prop} (h:A):if true=true then A else B:=iteT h
instance i_bT {A B:Prop}:RD.W1 (if true=true then A else B) (A):=⟨fun h=>bT h⟩
theorem nbF {A B:Prop} (h:A):if (!false)=true then A else B:=iteT h
theorem nbT {A B:Prop} (h:B):if (!true)=true then A else B:=iteF h
theorem bF {A B:Prop} (h:B):if false=true then A else B:=iteF h
instance i_bF {A B:Prop}:RD.W1 (if false=true then A else B) (B):=⟨fun h=>bF h⟩
theorem dec {p A B:Prop} [Decidable p] (h1:p→A) (h2:¬ p→B):if decide p=true then A else B:=ite2 (fun e=>h1 (of_decide_eq_true e)) fun e=>h2 fun z=>e (decide_eq_true z)
theorem ndec {p A B:Prop} [Decidable p] (h1:¬ p→A) (h2:p→B):if (!decide p)=true then A else B:=by
 by_cases e:p
 ·rw [decide_eq_true e]; exact iteF (h2 e)
 ·rw [decide_eq_false e]; exact iteT (h1 e)
theorem decT {p A B:Prop} [Decidable p] (e:p) (h:A):if decide p=true then A else B:=by rw [decide_eq_true e]; exact iteT h
theorem decF {p A B:Prop} [Decidable p] (e:¬ p) (h:B):if decide p=true then A else B:=by rw [decide_eq_false e]; exact iteF h
theorem ixL {K:PySem.W.Frag} {a:Addr} {xs:List V} {k:Int} (h:SqL K H a xs) (ha:atI xs k=some v) (q:Q v H):rIxL K (.ref a) (.int k) H Q:=⟨a,xs,k,v,rfl,rfl,h,ha,q⟩
theorem ixT {K:PySem.W.Frag} {a:Addr} {xs:List V} {k:Int} (h:SqT K H a xs) (ha:atI xs k=some v) (q:Q v H):rIxT K (.ref a) (.int k) H Q:=⟨a,xs,k,v,rfl,rfl,h,ha,q⟩
theorem setL {a:Addr} {xs:List V} {k:Int} {j:Nat} {QH:Hp→Prop} (h:H a=some (.lst xs)) (hk:ixN xs.length k=some j) (q:QH (upd H a (.lst (xs.set j v)))):rSetL (.ref a) (.int k) v H QH:=⟨a,xs,k,j,rfl,rfl,h,hk,q⟩
theorem gsub {to ti:TE} {ts:TSet} {QG:L2.St→Hp→Prop} (h:to σ H fun o H1=>ti σ H1 fun i H2=>ts o i v H2 fun H3=>QG σ H3):gSub to ti ts v σ H QG:=h
instance i_gsub {to ti:TE} {ts:TSet} {QG:L2.St→Hp→Prop}:RD.W1 (gSub to ti ts v σ H QG) (to σ H fun o H1=>ti σ H1 fun i H2=>ts o i v H2 fun H3=>QG σ H3):=⟨fun h=>gsub h⟩
theorem app {a:Addr} {xs:List V} {y:V} (h:H a=some (.lst xs)) (hl:xs.length < sizeLine) (q:Q .non (upd H a (.lst (xs++[y])))):rAppend (.ref a) [y] H Q:=⟨a,xs,y,rfl,rfl,h,hl,q⟩
theorem cat {a b:Addr} {xs ys:List V} (h:H a=some (.lst xs)) (h':H b=some (.lst ys)) (hl:xs.length + ys.length≤sizeLine) (q:∀ p,H p=none→Q (.ref p) (upd H p (.lst (xs++ys)))):rCat (.ref a) (.ref b) H Q:=⟨a,b,xs,ys,rfl,rfl,h,h',hl,q⟩
theorem slL {K:PySem.W.Frag} {a:Addr} {xs:List V} {lo hi:Option Int} (h:SqL K H a xs) (q:∀ p,H p=none→Q (.ref p) (upd H p (.lst (cutV xs lo hi)))):rSlL K (.ref a) lo hi H Q:=⟨a,xs,rfl,h,q⟩
theorem eqD {K:PySem.W.Frag} {x y:V} {d e:PyData} (h1:Dp K H x d) (h2:Dp K H y e) (s1:SeqAt.shaped d=true) (s2:SeqAt.shaped e=true) (q:Q (.bl (PyData.eqv d e)) H):rEqD K x y H Q:=⟨d,e,h1,h2,s1,s2,q⟩
theorem neD {K:PySem.W.Frag} {x y:V} {d e:PyData} (h1:Dp K H x d) (h2:Dp K H y e) (s1:SeqAt.shaped d=true) (s2:SeqAt.shaped e=true) (q:Q (.bl (!PyData.eqv d e)) H):rNeD K x y H Q:=⟨d,e,h1,h2,s1,s2,q⟩
theorem tyL {K:PySem.W.Frag} {a:Addr} {xs:List V} (h:SqL K H a xs):tyV K "list" (.ref a) H:=Or.inl ⟨rfl,_,h⟩
theorem gtup2 {K:PySem.W.Frag} {i j:Nat} {T:Addr} {x y:V} {QG:L2.St→Hp→Prop} (h:SqT K H T [x,y]) (q:gName i x σ H fun σ1 H1=>gName j y σ1 H1 QG):gTup K 2 (gCons (gName i) (gCons (gName j) gNil)) (.ref T) σ H QG:=⟨T,[x,y],rfl,h,rfl,x,[y],rfl,y,[],rfl,rfl,q⟩
theorem whl (W:Nat→L2.St→Hp→Prop) (m:Nat) (h0:W m σ H) (hs:∀ m σ H,W m σ H→c σ H fun b H1=>if b=true then ∃ N:L2.St→Hp→Prop,(∀ σ' H',N σ' H'→∃ m',m' < m∧W m' σ' H')∧t ⟨N,rt,nx,N⟩ σ H1 else nx σ H1):tWhile c t ⟨nx,rt,bk,ct⟩ σ H:=⟨W,⟨m,h0⟩,hs⟩
theorem wN {m:Nat} {W:Nat→L2.St→Hp→Prop} (h:t ⟨fun σ' H'=>∃ m',m' < m∧W m' σ' H',rt,nx,fun σ' H'=>∃ m',m' < m∧W m' σ' H'⟩ σ H):∃ N:L2.St→Hp→Prop,(∀ σ' H',N σ' H'→∃ m',m' < m∧W m' σ' H')∧t ⟨N,rt,nx,N⟩ σ H:=⟨_,fun _ _ h=>h,h⟩
def FR (J:It) (g:TG) (t:TS) (nx:L2.St→Hp→Prop) (rt:VK) (σ : L2.St) (H:Hp):Prop:=∃ W:Nat→Nat→L2.St→Hp→Prop,(∃ m,W 0 m σ H)∧∀ i m σ H,W i m σ H →
 (J.stop i H∧nx σ H)∨(J.go i H∧∃ N:L2.St→Hp→Prop,(∀ σ' H',N σ' H'→∃ m',m' < m∧W (i + 1) m' σ' H')∧∀ x H',J.yld i H x H'→g x σ H' fun σ2 H2=>t ⟨N,rt,nx,N⟩ σ2 H2)
def LR (J:It) (g:TG) (tt:TT) (te:TE) (vs:List Nat) (σ : L2.St) (H:Hp) (Q:VK):Prop:=∀ D,H D=none→∃ W:Nat→Nat→Hp→Prop,(∃ m,W 0 m (upd H D (.lst [])))∧∀ i m H,W i m H →
 (J.stop i H∧Q (.ref D) H)∨(J.go i H∧∃ Nx:Hp→Prop,(∀ H',Nx H'→∃ m',m' < m∧W (i + 1) m' H')∧∀ x H',J.yld i H x H'→g x (wipe σ vs) H' fun σ2 H2=>wipe σ2 vs=wipe σ vs∧tt σ2 H2 fun b H3 =>
  if b=true then te σ2 H3 fun y H4=>∃ acc,H4 D=some (.lst acc)∧acc.length < sizeLine∧Nx (upd H4 D (.lst (acc++[y]))) else Nx H3)
theorem for_ {wi:TI} {g:TG} (h:wi σ H fun J H1=>FR J g t nx rt σ H1):tFor wi g t ⟨nx,rt,bk,ct⟩ σ H:=h
instance i_for_ {wi:TI} {g:TG}:RD.W1 (tFor wi g t ⟨nx,rt,bk,ct⟩ σ H) (wi σ H fun J H1=>FR J g t nx rt σ H1):=⟨fun h=>for_ h⟩
theorem lc_ {wi:TI} {g:TG} {tt:TT} {vs:List Nat} (h:wi σ H fun J H1=>LR J g tt te vs σ H1 Q):tLc wi g tt te vs σ H Q:=h
instance i_lc_ {wi:TI} {g:TG} {tt:TT} {vs:List Nat}:RD.W1 (tLc wi g tt te vs σ H Q) (wi σ H fun J H1=>LR J g tt te vs σ H1 Q):=⟨fun h=>lc_ h⟩
theorem iL {K:PySem.W.Frag} {R:It→Hp→Prop} (h:te σ H fun x H1=>∃ a,x = .ref a∧(∃ xs,SqL K H1 a xs)∧R (Itl K a) H1):iList K te σ H R:=h
instance i_iL {K:PySem.W.Frag} {R:It→Hp→Prop}:RD.W1 (iList K te σ H R) (te σ H fun x H1=>∃ a,x = .ref a∧(∃ xs,SqL K H1 a xs)∧R (Itl K a) H1):=⟨fun h=>iL h⟩
theorem iT {K:PySem.W.Frag} {R:It→Hp→Prop} (h:te σ H fun x H1=>∃ a,x = .ref a∧(∃ xs,SqT K H1 a xs)∧R (Itt K a) H1):iTup K te σ H R:=h
instance i_iT {K:PySem.W.Frag} {R:It→Hp→Prop}:RD.W1 (iTup K te σ H R) (te σ H fun x H1=>∃ a,x = .ref a∧(∃ xs,SqT K H1 a xs)∧R (Itt K a) H1):=⟨fun h=>iT h⟩
theorem iR1 {tr:TA} {R:It→Hp→Prop} (h:tr σ H fun vs H1=>∃ j:Int,vs=[.int j] ∧ -(2 ^ 62)≤j∧j < 2 ^ 62∧R (Itr 0 j.toNat) H1):iRng1 tr σ H R:=h
instance i_iR1 {tr:TA} {R:It→Hp→Prop}:RD.W1 (iRng1 tr σ H R) (tr σ H fun vs H1=>∃ j:Int,vs=[.int j] ∧ -(2 ^ 62)≤j∧j < 2 ^ 62∧R (Itr 0 j.toNat) H1):=⟨fun h=>iR1 h⟩
theorem iR2 {tr:TA} {R:It→Hp→Prop} (h:tr σ H fun vs H1=>∃ i j:Int,vs=[.int i,.int j]∧(-(2 ^ 62)≤i∧i < 2 ^ 62 ∧ -(2 ^ 62)≤j∧j < 2 ^ 62)∧R (Itr i (j - i).toNat) H1):iRng2 tr σ H R:=h
instance i_iR2 {tr:TA} {R:It→Hp→Prop}:RD.W1 (iRng2 tr σ H R) (tr σ H fun vs H1=>∃ i j:Int,vs=[.int i,.int j]∧(-(2 ^ 62)≤i∧i < 2 ^ 62 ∧ -(2 ^ 62)≤j∧j < 2 ^ 62)∧R (Itr i (j - i).toNat) H1):=⟨fun h=>iR2 h⟩
theorem iE {K:PySem.W.Frag} {tr:TA} {R:It→Hp→Prop} (h:tr σ H fun vs H1=>∃ a xs,vs=[.ref a]∧SqL K H1 a xs∧R (Ite K a) H1):iEnum K tr σ H R:=h
instance i_iE {K:PySem.W.Frag} {tr:TA} {R:It→Hp→Prop}:RD.W1 (iEnum K tr σ H R) (tr σ H fun vs H1=>∃ a xs,vs=[.ref a]∧SqL K H1 a xs∧R (Ite K a) H1):=⟨fun h=>iE h⟩
theorem iZ {K:PySem.W.Frag} {tr:TA} {R:It→Hp→Prop} (h:tr σ H fun vs H1=>∃ a b xs ys,vs=[.ref a,.ref b]∧SqL K H1 a xs∧SqL K H1 b ys∧R (Itz K a b) H1):iZip K tr σ H R:=h
instance i_iZ {K:PySem.W.Frag} {tr:TA} {R:It→Hp→Prop}:RD.W1 (iZip K tr σ H R) (tr σ H fun vs H1=>∃ a b xs ys,vs=[.ref a,.ref b]∧SqL K H1 a xs∧SqL K H1 b ys∧R (Itz K a b) H1):=⟨fun h=>iZ h⟩
theorem iS {R:It→Hp→Prop} (h:te σ H fun v H1=>∃ x,v = .str x∧R (Its x) H1):iStr te σ H R:=h
instance i_iS {R:It→Hp→Prop}:RD.W1 (iStr te σ H R) (te σ H fun v H1=>∃ x,v = .str x∧R (Its x) H1):=⟨fun h=>iS h⟩
theorem goL {K:PySem.W.Frag} {g:TG} {a:Addr} {xs:List V} (hq:SqL K H a xs) (Pv:Nat→L2.St→Hp→Prop) (h0:Pv 0 σ H) (hG:∀ i σ H,i≤xs.length→Pv i σ H→SqL K H a xs)
  (turn:∀ i x σ H,xs[i]? = some x→Pv i σ H→g x σ H fun σ2 H2=>t ⟨Pv (i + 1),rt,nx,Pv (i + 1)⟩ σ2 H2) (hd:∀ σ H,Pv xs.length σ H→nx σ H) :
  ∃ a',V.ref a = .ref a'∧(∃ ys,SqL K H a' ys)∧FR (Itl K a') g t nx rt σ H:=⟨a,rfl,⟨_,hq⟩,for_list (D:=⟨nx,rt,nx,nx⟩) Pv h0 hG turn hd⟩
theorem goR {g:TG} {z:Int} {n:Nat} (hz:z.toNat=n) (hz2:z < 1000000000) (hz1 : -1000000000 < z) (Pv:Nat→L2.St→Hp→Prop) (h0:Pv 0 σ H)
  (turn:∀ i σ H,i < n→Pv i σ H→g (.int (i:Nat)) σ H fun σ2 H2=>t ⟨Pv (i + 1),rt,nx,Pv (i + 1)⟩ σ2 H2) (hd:∀ σ H,Pv n σ H→nx σ H) :
  ∃ j:Int,[V.int z]=[.int j] ∧ -(2 ^ 62)≤j∧j < 2 ^ 62∧FR (Itr 0 j.toNat) g t nx rt σ H:=by
 subst hz
 refine ⟨z,rfl,by omega,by omega,for_range (D:=⟨nx,rt,nx,nx⟩) Pv h0 (fun i σ H hi hp=>?_) hd⟩
 have e:(0 + (i:Int))=((i:Nat):Int):=by omega
 rw [e]
 exact turn i σ H hi hp
theorem goR2 {g:TG} {y z:Int} {n:Nat} (hz:(z - y).toNat=n) (hb : -1000000000 < y∧y < 1000000000 ∧ -1000000000 < z∧z < 1000000000) (Pv:Nat→L2.St→Hp→Prop) (h0:Pv 0 σ H)
  (turn:∀ i σ H,i < n→Pv i σ H→g (.int (y + i)) σ H fun σ2 H2=>t ⟨Pv (i + 1),rt,nx,Pv (i + 1)⟩ σ2 H2) (hd:∀ σ H,Pv n σ H→nx σ H) :
  ∃ i j:Int,[V.int y,V.int z]=[.int i,.int j]∧(-(2 ^ 62)≤i∧i < 2 ^ 62 ∧ -(2 ^ 62)≤j∧j < 2 ^ 62)∧FR (Itr i (j - i).toNat) g t nx rt σ H:=by
 subst hz
 exact ⟨y,z,rfl,⟨by omega,by omega,by omega,by omega⟩,for_range (D:=⟨nx,rt,nx,nx⟩) Pv h0 turn hd⟩
theorem same_new {H:Hp} {p:Addr} {o:HO} (h:H p=none):Same H (upd H p o):=fun b x e=>by
 rw [upd_ne (ne_of_none e h)]
 exact e
theorem same_mut {H H':Hp} {p:Addr} {o:HO} (e:Same H H') (h:H p=none):Same H (upd H' p o):=fun a u ha=>by
 rw [upd_ne (ne_of_none ha h)]
 exact e a u ha
def pick {α β : Type} (p : α→Bool) (f : α→β):List α→List β
 | []=>[]
 | a :: r=>if p a=true then f a :: pick p f r else pick p f r
theorem pick_app {α β : Type} {p : α→Bool} {f : α→β}:∀ (l r:List α),pick p f (l++r)=pick p f l++pick p f r
 | [],r=>rfl
 | a :: l,r=>by
  show (if p a=true then f a :: pick p f (l++r) else pick p f (l++r))=(if p a=true then f a :: pick p f l else pick p f l)++pick p f r
  rw [pick_app l r]
  by_cases h:p a=true
  ·rw [if_pos h,if_pos h]; rfl
  ·rw [if_neg h,if_neg h]
theorem pick_len {α β : Type} {p : α→Bool} {f : α→β}:∀ (l:List α),(pick p f l).length≤l.length
 | []=>Nat.le_refl _
 | a :: l=>by
  show (if p a=true then f a :: pick p f l else pick p f l).length≤l.length + 1
  have:=pick_len (p:=p) (f:=f) l
  by_cases h:p a=true
  ·rw [if_pos h,List.length_cons]; omega
  ·rw [if_neg h]; omega
theorem pick_all {α β : Type} {p : α→Bool} {f : α→β} (h:∀ a,p a=true):∀ (l:List α),pick p f l=l.map f
 | []=>rfl
 | a :: l=>by
  show (if p a=true then f a :: pick p f l else pick p f l)=f a :: l.map f
  rw [if_pos (h a),pick_all h l]
theorem pick_filter {α β : Type} {p : α→Bool} {f : α→β}:∀ (l:List α),pick p f l=(l.filter p).map f
 | []=>rfl
 | a :: l=>by
  show (if p a=true then f a :: pick p f l else pick p f l)=_
  by_cases h:p a=true
  ·rw [if_pos h,List.filter_cons_of_pos h,List.map_cons,pick_filter l]
  ·rw [if_neg h,List.filter_cons_of_neg h,pick_filter l]
theorem take_one {α : Type} {l:List α} {i:Nat} {x : α} (h:l[i]? = some x):l.take (i + 1)=l.take i++[x]:=by
 rw [List.take_add_one,h]; rfl
theorem lcAny {J:It} {g:TG} {tt:TT} {vs:List Nat} {n:Nat} {G:Hp→Prop} {Y:Nat→Hp→V→Hp→Prop} (w:Walk J n G Y) {α : Type} (al:List α) (hal:al.length=n) (hsz:n≤sizeLine) (p : α→Bool) (f : α→V) (h0G:G H) (hGs:∀ H',Same H H'→G H')
  (hY:∀ i H1 x H2,Same H H1→Y i H1 x H2→Same H1 H2)
  (turn:∀ i a x H1 H2 (Q':VK) (R':Hp→Prop),al[i]? = some a→Same H H1→Y i H1 x H2→(p a=true→∀ H4,Same H2 H4→Q' (f a) H4)→(p a=false→∀ H4,Same H2 H4→R' H4) →
   g x (wipe σ vs) H2 fun σ2 H3=>wipe σ2 vs=wipe σ vs∧tt σ2 H3 fun b H5=>if b=true then te σ2 H5 Q' else R' H5)
  (hd:∀ H' q,H q=none→Same H H'→H' q=some (.lst (pick p f al))→Q (.ref q) H'):LR J g tt te vs σ H Q:=by
 intro D hD
 refine lc_it w (fun i H1=>Same H H1∧H1 D=some (.lst (pick p f (al.take i)))) ⟨same_new hD,by rw [upd_same]; rfl⟩ (fun i H1 _ hp=>hGs _ hp.1) (fun i x H1 H2 hi hp y=>?_) (fun H1 hp=>?_)
 ·have hi':i < al.length:=by omega
  have ga:al[i]? = some al[i]:=List.getElem?_eq_getElem hi'
  have sm:=hY i H1 x H2 hp.1 y
  refine turn i al[i] x H1 H2 _ _ ga hp.1 y (fun ht H4 s4=>?_) (fun hf H4 s4=>?_)
  ·have e4:H4 D=some (.lst (pick p f (al.take i))):=s4 _ _ (sm _ _ hp.2)
   refine ⟨_,e4,?_,same_mut ((hp.1.trans sm).trans s4) hD,?_⟩
   ·have:=pick_len (p:=p) (f:=f) (al.take i)
    rw [List.length_take] at this
    exact Nat.lt_of_lt_of_le (Nat.lt_of_le_of_lt this (by omega:min i al.length < n)) hsz
   ·rw [upd_same,take_one ga,pick_app]
    show _=some (HO.lst (_++(if p al[i]=true then [f al[i]] else [])))
    rw [if_pos ht]
  ·have e4:H4 D=some (.lst (pick p f (al.take i))):=s4 _ _ (sm _ _ hp.2)
   refine ⟨(hp.1.trans sm).trans s4,?_⟩
   rw [e4,take_one ga,pick_app]
   show _=some (HO.lst (_++(if p al[i]=true then [f al[i]] else [])))
   rw [if_neg (by rw [hf]; exact Bool.false_ne_true),List.append_nil]
 ·have e:=hp.2
  rw [← hal,List.take_length] at e
  exact hd H1 D hD hp.1 e
theorem lcR {g:TG} {tt:TT} {vs:List Nat} {z:Int} {n:Nat} (hz:z.toNat=n) (hz2:z < 1000000) (hz1 : -1000000 < z) (p:Nat→Bool) (f:Nat→V)
  (turn:∀ i H1 (Q':VK) (R':Hp→Prop),i < n→Same H H1→(p i=true→∀ H4,Same H1 H4→Q' (f i) H4)→(p i=false→∀ H4,Same H1 H4→R' H4) →
   g (.int (i:Nat)) (wipe σ vs) H1 fun σ2 H3=>wipe σ2 vs=wipe σ vs∧tt σ2 H3 fun b H5=>if b=true then te σ2 H5 Q' else R' H5)
  (hd:∀ H' q,H q=none→Same H H'→H' q=some (.lst (pick p f (List.range n)))→Q (.ref q) H') :
  ∃ j:Int,[V.int z]=[.int j] ∧ -(2 ^ 62)≤j∧j < 2 ^ 62∧LR (Itr 0 j.toNat) g tt te vs σ H Q:=by
 subst hz
 have hs:z.toNat≤sizeLine:=Nat.le_trans (by omega:z.toNat≤1000000) (by decide)
 refine ⟨z,rfl,by omega,by omega,lcAny (walk_range (lo:=0) (n:=z.toNat)) (List.range z.toNat) (List.length_range) hs p f trivial (fun _ _=>trivial) (fun i H1 x H2 s y=>?_) (fun i b x H1 H2 Q' R' hb s y kT kF=>?_) hd⟩
 ·obtain ⟨rfl,_⟩:=y
  exact Same.refl _
 ·obtain ⟨rfl,rfl⟩:=y
  obtain ⟨hi,e⟩:=List.getElem?_eq_some_iff.mp hb
  rw [List.getElem_range] at e
  subst e
  rw [List.length_range] at hi
  have e:(0 + (i:Int))=((i:Nat):Int):=by omega
  show g (V.int (0 + (i:Int))) _ _ _
  rw [e]
  exact turn i _ Q' R' hi s kT kF
end
end RD

namespace RD
open PySem PySem.Spec PyProof.Rows L2
def rLen (K:PySem.W.Frag):List V→Hp→VK→Prop:=fun xs H Q=>∃ p ys,xs=[.ref p]∧(SqL K H p ys∨SqT K H p ys)∧Q (.int ys.length) H
def rLenD:List V→Hp→VK→Prop:=fun xs H Q=>∃ a kvs,xs=[V.ref a]∧H a=some (.dK kvs)∧Q (.int kvs.length) H
def rLenS:List V→Hp→VK→Prop:=fun xs H Q=>∃ z,xs=[.str z]∧z.length≤sizeLine∧Q (.int z.length) H
def rListOf (K:PySem.W.Frag):List V→Hp→VK→Prop:=fun xs H Q=>∃ p ys,xs=[.ref p]∧(SqL K H p ys∨SqT K H p ys)∧∀ l,H l=none→Q (.ref l) (upd H l (.lst ys))
def rInt:List V→Hp→VK→Prop:=fun xs H Q=>(∃ i,xs=[.int i]∧Q (.int i) H)∨∃ k,xs=[.bl k]∧Q (.int (if k then 1 else 0)) H
def rAbs:List V→Hp→VK→Prop:=fun xs H Q=>∃ i,xs=[.int i]∧Q (.int (if i < 0 then -i else i)) H
def rMax2:List V→Hp→VK→Prop:=fun xs H Q=>∃ i j,xs=[.int i,.int j]∧Q (.int (if j > i then j else i)) H
def rMin2:List V→Hp→VK→Prop:=fun xs H Q=>∃ i j,xs=[.int i,.int j]∧Q (.int (if j < i then j else i)) H
def rStrI:List V→Hp→VK→Prop:=fun xs H Q=>∃ i,xs=[.int i]∧i.natAbs.log2 < 1920∧Q (.str (toString i)) H
def rIntS:List V→Hp→VK→Prop:=fun xs H Q=>∃ a n,xs=[.str a]∧PySem.intText? a=some n∧a.length≤640∧Q (.int n) H
def tTru (K:PySem.W.Frag) (ta:TE):TT:=fun σ H Q=>ta σ H fun x H'=>∃ k,TruV K x H' k∧Q k H'
section
variable {X:Cx} {K:PySem.W.Frag} {e o:Expr} {es:List Expr} {ta to tv te:TE} {tr:TA} {f name:Str} {pos apos cpos pos' p tpos:Pos} {Ty id:String} {r:V→List V→Hp→VK→Prop} {tg:Expr} {kk:Nat}
theorem k_len (h:X.K=K):CallR X (.builtin "len") (rLen K):=by subst h; exact call_len_seq
theorem k_lenS:CallR X (.builtin "len") rLenS:=call_len_str
theorem k_list (h:X.K=K):CallR X (.type "list") (rListOf K):=by subst h; exact call_list_of
theorem k_int:CallR X (.type "int") rInt:=call_int1
theorem k_abs:CallR X (.builtin "abs") rAbs:=call_abs
theorem k_strI:CallR X (.type "str") rStrI:=call_str_int
theorem k_all (h:X.K=K) (hc:X.calm=true):CallR X (.builtin "all") (rAll K):=by subst h; exact cr_all hc
theorem k_ixL (h:X.K=K):IxR X (rIxL K):=by subst h; exact ix_list
theorem k_ixT (h:X.K=K):IxR X (rIxT K):=by subst h; exact ix_tup
theorem k_slL (h:X.K=K):SlR X (rSlL K):=by subst h; exact sl_list
theorem k_slT (h:X.K=K):SlR X (rSlT K):=by subst h; exact sl_tup
theorem k_in (h:X.K=K):OpR X (compareOp .In) (rIn K false):=by subst h; exact op_in_seq
theorem k_notin (h:X.K=K):OpR X (compareOp .NotIn) (rIn K true):=by subst h; exact op_notIn_seq
theorem k_eqD (h:X.K=K) (hu:X.A.units + 64 < cLine):OpR X (compareOp .Eq) (rEqD K):=by subst h; exact op_eqD hu
theorem k_neD (h:X.K=K) (hu:X.A.units + 64 < cLine):OpR X (compareOp .NotEq) (rNeD K):=by subst h; exact op_neD hu
theorem k_bm (h:X.K=K) (pa:PlainAttrs Ty) (slot:Slot Ty name id) (hty:typeOf (.builtin id)=pure (.type "method_descriptor")) (hm:MtR X id r) (ho:PE X o to) (ha:PA X (e :: es) tr)
  (hbase:attributeBase o name X.env (eval o X.env)=eval o X.env:=by rfl)
  (hfew:((backTo cpos (starEach (e :: es) X.env)).all (fun x=>!x.1) && (backToKw cpos (keywordEach [] X.env)).all (fun x=>x.1.isSome)
   && decide ((e :: es).length + ([]:List Keyword).length + (if ([]:List Keyword).isEmpty then 0 else 1) < 30))=true:=by rfl)
  (hline:(apos.endLine == cpos.line)=true:=by rfl) (hs:starEach (e :: es) X.env=(false,eval e X.env) :: starEach es X.env:=by rfl) (hplain:(backTo cpos (starEach es X.env)).any (·.1)=false:=by rfl) :
  PE X (.Call (.Attribute o name apos) (e :: es) [] cpos) (tBM K Ty r to tr):=by subst h; exact pe_bm pa slot hty hm ho ha hbase hfew hline hs hplain
theorem k_bm0 (h:X.K=K) (pa:PlainAttrs Ty) (slot:Slot Ty name id) (hty:typeOf (.builtin id)=pure (.type "method_descriptor")) (hm:MtR X id r) (ho:PE X o to)
  (hbase:attributeBase o name X.env (eval o X.env)=eval o X.env:=by rfl) (hline:(apos.endLine == cpos.line)=true:=by rfl):PE X (.Call (.Attribute o name apos) [] [] cpos) (tBM0 K Ty r to):=by subst h; exact pe_bm0 pa slot hty hm ho hbase hline
theorem k_fld (h:X.K=K) (he:PE X e ta) (hb:attributeBase e f X.env (eval e X.env)=eval e X.env):PE X (.Attribute e f pos) (tFld K ta f):=by subst h; exact pe_fld he hb
theorem k_sfld {value:Expr} (h:X.K=K) (ha:PE X o ta) (hv:PE X value tv) (hs:swapsWith value (some (.Attribute o f pos')) pos.line X.env=pure false):PS X (.Assign [.Attribute o f pos'] value pos) (sFld K ta tv f):=by subst h; exact ps_fld ha hv hs
theorem k_pil (h:X.K=K) (hl:PE X e ta):PI X tg e (iList K ta):=by subst h; exact pi_list hl
theorem k_gtup {t:TGs} {n:Nat} (h:X.K=K) (hc:X.calm=true) (hp:PGs X es t)
  (hn:(assignEach es X.env).length=n:=by rfl) (hst:(assignEach es X.env).findIdx? (·.1)=none:=by rfl):PG X (.Tuple es kk pos) (gTup K n t):=by subst h; exact pg_tup hc hp hn hst
theorem k_tru (h:X.K=K) (ha:PE X e ta) (he:∀ whole,isTrue e X.env whole=(do let v ← whole; standAt e.pos; holding [v] (truthy v))):PT X e (tTru K ta):=by subst h; exact pt_truth ha he
end
section
variable {σ s:L2.St} {H:Hp} {Q:VK} {K:PySem.W.Frag} {a:Addr} {xs:List V} {n m:Int} {ta:TE} {QB:Bool→Hp→Prop}
theorem len (h:SqL K H a xs) (q:Q (.int xs.length) H):rLen K [.ref a] H Q:=⟨a,xs,rfl,.inl h,q⟩
theorem lenT (h:SqT K H a xs) (q:Q (.int xs.length) H):rLen K [.ref a] H Q:=⟨a,xs,rfl,.inr h,q⟩
theorem lenS {z:Str} (h:z.length≤sizeLine) (q:Q (.int z.length) H):rLenS [.str z] H Q:=⟨z,rfl,h,q⟩
theorem list (h:SqL K H a xs) (q:∀ l,H l=none→Q (.ref l) (upd H l (.lst xs))):rListOf K [.ref a] H Q:=⟨a,xs,rfl,.inl h,q⟩
theorem int1 (q:Q (.int n) H):rInt [.int n] H Q := .inl ⟨n,rfl,q⟩
instance i_int1  : RD.W1 (rInt [.int n] H Q) (Q (.int n) H):=⟨fun h=>int1 h⟩
theorem abs1 (q:Q (.int (if n < 0 then -n else n)) H):rAbs [.int n] H Q:=⟨n,rfl,q⟩
instance i_abs1  : RD.W1 (rAbs [.int n] H Q) (Q (.int (if n < 0 then -n else n)) H):=⟨fun h=>abs1 h⟩
theorem max2 (q:Q (.int (if m > n then m else n)) H):rMax2 [.int n,.int m] H Q:=⟨n,m,rfl,q⟩
instance i_max2  : RD.W1 (rMax2 [.int n,.int m] H Q) (Q (.int (if m > n then m else n)) H):=⟨fun h=>max2 h⟩
theorem min2 (q:Q (.int (if m < n then m else n)) H):rMin2 [.int n,.int m] H Q:=⟨n,m,rfl,q⟩
instance i_min2  : RD.W1 (rMin2 [.int n,.int m] H Q) (Q (.int (if m < n then m else n)) H):=⟨fun h=>min2 h⟩
theorem tru (h:ta σ H fun x H'=>∃ k,TruV K x H' k∧QB k H'):tTru K ta σ H QB:=h
instance i_tru  : RD.W1 (tTru K ta σ H QB) (ta σ H fun x H'=>∃ k,TruV K x H' k∧QB k H'):=⟨fun h=>tru h⟩
theorem truL (h:SqL K H a xs) {P:Bool→Prop} (q:P (!xs.isEmpty)):∃ k,TruV K (.ref a) H k∧P k:=⟨_,.inl ⟨xs,h,rfl⟩,q⟩
theorem all1 {bs:List Bool} (h:SqL K H a (bs.map V.bl)) (q:Q (.bl (bs.all id)) H):rAll K [.ref a] H Q:=⟨a,bs,rfl,h,q⟩
end
def tCut (t u:TS):TS:=fun D σ H=>∃ W:L2.St→Hp→Prop,t ⟨W,D.rt,D.bk,D.ct⟩ σ H∧∀ σ1 H1,W σ1 H1→u D σ1 H1
theorem pss_cut {X:Cx} {s0:Stmt} {more:List Stmt} {t u:TS} (a:PS X s0 t) (b:PSs X more u):PSs X (s0 :: more) (tCut t u):=by
 refine ⟨fun pins s σ H D J hw=>?_⟩
 obtain ⟨W,h1,h2⟩:=hw
 refine wpAny_execs_cons (thn (a.run pins s σ H ⟨W,D.rt,D.bk,D.ct⟩ J h1) fun fl s1 q=>?_)
 cases fl with
 | next =>
  obtain ⟨σ1,H1,J1,q1⟩:=q
  exact b.run pins s1 σ1 H1 D J1 (h2 σ1 H1 q1)
 | _=>exact q
theorem cut {t u:TS} {σ : L2.St} {H:Hp} {nx bk ct:L2.St→Hp→Prop} {rt:VK} (W:L2.St→Hp→Prop) (h1:t ⟨W,rt,bk,ct⟩ σ H) (h2:∀ σ1 H1,W σ1 H1→u ⟨nx,rt,bk,ct⟩ σ1 H1):tCut t u ⟨nx,rt,bk,ct⟩ σ H:=⟨W,h1,h2⟩
end RD
namespace RD
open PySem PySem.Spec PyProof.Rows L2
theorem pe_gl {X:Cx} {x z:Str} {pos:Pos} (hg:Gl X x) (hm:∃ t,X.mg x=some (.str z t)) (hd:(x == ("__debug__" : Str))=false:=by decide):PE X (.Name x pos) (tC (.str z)):=by
 obtain ⟨t,h⟩:=hm
 exact pe_glob hg h ⟨t,rfl⟩ hd
theorem pe_glI {X:Cx} {x:Str} {z:Int} {pos:Pos} (hg:Gl X x) (hm:∃ t,X.mg x=some (.int z t)) (hd:(x == ("__debug__" : Str))=false:=by decide):PE X (.Name x pos) (tC (.int z)):=by
 obtain ⟨t,h⟩:=hm
 exact pe_glob hg h ⟨t,rfl⟩ hd
end RD

namespace RD
open PySem PySem.Spec PyProof.Rows L2
section
variable {X:Cx} {CX:CXT} {n:Nat} {f C:Addr} {fd:FuncData} {ps:List Str} {sp:Sp} {E:XK} {K:PySem.W.Frag}
theorem call_own {Ar:Around} {pins:List (Addr × Obj)} {σ : L2.St} {H:Hp} {s:Shared} {Q:VK} {vs:List V} {us:List Value} (hfr:Ar.frames=X.A.frames) (room:Room n Ar) (F:FnOk X.prog X.w X.K X.mg X.base CX n f fd ps sp) (hb:Binds X.K fd ps []) (hx:Passes CX X E)
  (J:Inv X pins σ H s) (rv:Vals vs us) (hs:sp vs H Q E):wpAny (model X.prog X.w) Ar (PySem.call (.ref f) us) (EP X pins σ Q) X.xe s:=by
 have e:=J.env0
 have e0:Env0 X.prog X.w X.K X.mg X.base Ar X.stack s H:=⟨by rw [hfr]; exact e.frames,e.mod,e.bs,e.bsz,e.funs,e.frf,e.hok,e.bare⟩
 have hl:us.length=ps.length:=rv.length.symm.trans (F.len _ _ _ _ hs)
 have bb:=hb s us J.kIn (by rw [List.append_nil]; exact hl)
 rw [List.append_nil] at bb
 refine wpAny_call (codeAny_mono (F.run Ar X.stack s H ⟨us,[]⟩ us vs Q E room e0 bb rv hs) ?_)
 intro rr s' hq
 cases rr with
 | error er=>exact hx pins σ H s er s' J hq
 | ok fl =>
  cases fl with
  | ret u=>exact J.after hq
  | next=>exact hq.elim
  | brk=>exact hq.elim
  | cont=>exact hq.elim
def rLenOwn (C:Addr) (sp:Sp) (E:XK):List V→Hp→VK→Prop:=fun xs H Q=>∃ a dx fs,xs=[.ref a]∧H a=some (.ins C dx fs)∧sp [.ref a] H (fun v H'=>∃ z:Int,v = .int z∧0≤z∧z < 2 ^ 63∧Q (.int z) H') E
theorem k_lenOwn (hr:Room (n + 1) X.A) (F:FnOk X.prog X.w X.K X.mg X.base CX n f fd ps sp) (hs:PySem.W.findIn X.K (.ref C) "__len__" = some (some (.ref f))) (hf:PySem.W.isFn X.K (.ref f)=true) (hb:Binds X.K fd ps []) (hx:Passes CX X E) :
  CallR X (.builtin "len") (rLenOwn C sp E):=by
 intro pins s σ H xs us Q I r hw
 obtain ⟨a,dx,fs,rfl,ha,hsp⟩:=hw
 obtain ⟨u,rfl,rx⟩:=vals1 r
 cases rx
 obtain ⟨_,O,_⟩:=ins_get I.hok ha
 obtain ⟨_,O,_⟩:=O.look
 obtain ⟨_,hF⟩:=I.fr
 refine PySem.W.len_K hF I.ok.mod.kin O hs hf (wpAny_mono (call_own rfl hr.in1 F hb hx I r hsp) ?_ fun _ _ z=>z)
 rintro v s' ⟨y,H',I',ry,z,rfl,h0,h1,q⟩
 obtain ⟨t,rfl⟩:=ry
 exact ⟨⟨h0,h1⟩,.int z,H',I'.tok _,⟨_,rfl⟩,q⟩
def rInOwn (C:Addr) (sp:Sp) (E:XK) (neg:Bool):R2:=fun x y H Q=>∃ a dx fs,y = .ref a∧H a=some (.ins C dx fs)∧sp [.ref a,x] H (fun v H'=>∃ b,v = .bl b∧Q (.bl (if neg then !b else b)) H') E
def rEqOwn (K:PySem.W.Frag) (C:Addr) (sp:Sp) (E:XK):R2:=fun x y H Q=>∃ a dx fs tb,x = .ref a∧H a=some (.ins C dx fs)∧TyX K H y tb∧PySem.W.notFirst K C tb=true∧sp [.ref a,y] H (fun v H'=>∃ b,v = .bl b∧Q (.bl b) H') E
end
end RD

namespace RD
open PySem PySem.Spec PyProof.Rows L2
section
variable {X:Cx} {C:Addr} {bmB:List Value} {B newId initId:String}
end
section
variable {X:Cx} {CX:CXT} {k:Nat} {f C:Addr} {fd:FuncData} {ps:List Str} {sp:Sp} {E:L2.St→XK} {x:Str} {p pos:Pos} {e:Expr} {es:List Expr} {t:TA}
def tMakeS (C:Addr) (sp:Sp) (E:L2.St→XK) (t:TA):TE:=fun σ H Q=>t σ H fun vs H1=>MKE C sp [] (E σ) vs H1 Q
end
def tWhen (p:Prop) (t:TS):TS:=fun D σ H=>p∧t D σ H
theorem pss_when {X:Cx} {sts:List Stmt} {t:TS} {p:Prop} (h:p→PSs X sts t):PSs X sts (tWhen p t):=⟨fun pins s σ H D I hw=>(h hw.1).run pins s σ H D I hw.2⟩
theorem exm_self {K:PySem.W.Frag} {S:Addr} (h1:PySem.W.subIn K (.ref S) (.type "BaseException")=some true) (h2:PySem.W.isClsIn K S=true) (h3:PySem.W.typeIn K (.ref S)=some (.type "type")) (h4:PySem.W.subIn K (.ref S) (.ref S)=some true) :
  PySem.W.exmOne K (.ref S) (.ref S)=some true:=by
 have e1:(PySem.W.subIn K (.ref S) (.type "BaseException") == some true)=true:=by rw [h1] <;> rfl
 have e2:((PySem.W.clsIn K S).isSome && PySem.W.typeIn K (.ref S) == some (.type "type"))=true:=by
  have h2':(PySem.W.clsIn K S).isSome=true:=h2
  rw [h2',h3] <;> rfl
 show (if (PySem.W.subIn K (.ref S) (.type "BaseException") == some true)=true then (if ((PySem.W.clsIn K S).isSome && PySem.W.typeIn K (.ref S) == some (.type "type"))=true then PySem.W.subIn K (.ref S) (.ref S) else none) else none)=some true
 rw [if_pos e1,if_pos e2]
 exact h4
end RD

namespace MM
def it (f:Nat→Nat):Nat→Nat→Nat
 | 0,h=>h
 | i + 1,h=>f (it f i h)
structure PermOn (f:Nat→Nat) (n:Nat):Prop where
 lt:∀ x,x < n→f x < n
 inj:∀ x y,x < n→y < n→f x=f y→x=y
section
variable {f:Nat→Nat} {n:Nat}
theorem least {P:Nat→Prop}:∀ k,P k→∃ m,P m∧m≤k∧∀ j,j < m→¬ P j:=by
 intro k
 induction k using Nat.strongRecOn with
 | ind k ih =>
  intro hk
  by_cases c:∃ j,j < k∧P j
  ·obtain ⟨j,hj,pj⟩:=c
   obtain ⟨m,pm,hm,hl⟩:=ih j hj pj
   exact ⟨m,pm,by omega,hl⟩
  ·exact ⟨k,hk,Nat.le_refl _,fun j hj pj=>c ⟨j,hj,pj⟩⟩
structure Per (f:Nat→Nat) (h k:Nat):Prop where
 pos : 0 < k
 back:it f k h=h
 least:∀ j,0 < j→j < k→it f j h ≠ h
def cycGo (f:Nat→Nat) (h0:Nat):Nat→Nat→List Nat
 | 0,_=>[]
 | k + 1,x=>if x=h0 then [] else x :: cycGo f h0 k (f x)
def cyc (f:Nat→Nat) (n h:Nat):List Nat:=h :: cycGo f h n (f h)
def isMin (f:Nat→Nat) (n h:Nat):Bool:=(cyc f n h).all fun x=>decide (h≤x)
def rnds (f:Nat→Nat) (n:Nat):Nat→List (List Nat)
 | 0=>[]
 | m + 1=>rnds f n m++(if isMin f n m=true then [cyc f n m] else [])
end
def fn (st:List Nat) (x:Nat):Nat:=st.getD x 0
def tw (h:Nat):Nat:=if h % 2=0 then h + 1 else h - 1
def inv (ns:List Nat):List Nat:=(List.range ns.length).map fun h=>ns.idxOf h
def stp (ns:List Nat) (b:Bool):List Nat:=if b=true then ns else (inv ns).map tw
structure IsMesh (ns:List Nat):Prop where
 perm:ns.Perm (List.range ns.length)
 even:ns.length % 2=0
theorem tw_tw (h:Nat):tw (tw h)=h:=by
 unfold tw
 by_cases q:h % 2=0
 ·rw [if_pos q,if_neg (by omega)]; omega
 ·rw [if_neg q,if_pos (by omega)]; omega
theorem tw_inj {a b:Nat} (e:tw a=tw b):a=b:=by rw [← tw_tw a,e,tw_tw]
theorem tw_lt {h n:Nat} (hn:n % 2=0) (hh:h < n):tw h < n:=by
 unfold tw
 by_cases q:h % 2=0
 ·rw [if_pos q]; omega
 ·rw [if_neg q]; omega
theorem fn_at {st:List Nat} {x:Nat} (h:x < st.length):st[x]? = some (fn st x):=by
 unfold fn
 rw [List.getD_eq_getElem?_getD,List.getElem?_eq_getElem h]
 rfl
section
variable {ns:List Nat}
theorem IsMesh.lt (m:IsMesh ns) {x:Nat} (h:x∈ns):x < ns.length:=List.mem_range.mp (m.perm.mem_iff.mp h)
theorem IsMesh.mem (m:IsMesh ns) {x:Nat} (h:x < ns.length):x∈ns:=m.perm.mem_iff.mpr (List.mem_range.mpr h)
theorem IsMesh.nodup (m:IsMesh ns):ns.Nodup:=m.perm.nodup_iff.mpr List.nodup_range
theorem fn_mem {st:List Nat} {x:Nat} (h:x < st.length):fn st x∈st:=List.mem_of_getElem? (fn_at h)
theorem IsMesh.fnp (m:IsMesh ns):PermOn (fn ns) ns.length where
 lt:=fun x hx=>m.lt (fn_mem hx)
 inj:=fun x y hx hy e=>by
  have h1:=fn_at hx
  have h2:=fn_at hy
  rw [e,← h2] at h1
  exact (List.getElem?_inj hx m.nodup).mp h1
theorem inv_len:(inv ns).length=ns.length:=by unfold inv; rw [List.length_map,List.length_range]
theorem idx_lt {x:Nat} (h:x∈ns):ns.idxOf x < ns.length:=List.idxOf_lt_length_iff.mpr h
theorem idx_at {x:Nat} (h:x∈ns):ns[ns.idxOf x]? = some x:=by
 rw [List.getElem?_eq_getElem (idx_lt h),List.getElem_idxOf (idx_lt h)]
theorem inv_at {x:Nat} (h:x < ns.length):(inv ns)[x]? = some (ns.idxOf x):=by
 unfold inv
 rw [List.getElem?_map,List.getElem?_range h]
 rfl
theorem IsMesh.idx_inj (m:IsMesh ns) {x y:Nat} (hx:x∈ns) (hy:y∈ns) (e:ns.idxOf x=ns.idxOf y):x=y:=by
 have h1:=idx_at hx
 have h2:=idx_at hy
 rw [e,h2] at h1
 exact (Option.some.inj h1).symm
theorem stp_len (b:Bool):(stp ns b).length=ns.length:=by
 cases b
 ·show ((inv ns).map tw).length=_
  rw [List.length_map,inv_len]
 ·rfl
theorem stp_at {x:Nat} (h:x < ns.length):(stp ns false)[x]? = some (tw (ns.idxOf x)):=by
 show ((inv ns).map tw)[x]? = _
 rw [List.getElem?_map,inv_at h]
 rfl
theorem fn_stp {x:Nat} (h:x < ns.length):fn (stp ns false) x=tw (ns.idxOf x):=by
 have:=fn_at (st:=stp ns false) (x:=x) (by rw [stp_len]; exact h)
 rw [stp_at h] at this
 exact (Option.some.inj this).symm
theorem IsMesh.stp (m:IsMesh ns) (b:Bool):PermOn (fn (stp ns b)) ns.length:=by
 cases b
 ·refine ⟨fun x hx=>?_,fun x y hx hy e=>?_⟩
  ·rw [fn_stp hx]
   exact tw_lt m.even (idx_lt (m.mem hx))
  ·rw [fn_stp hx,fn_stp hy] at e
   exact m.idx_inj (m.mem hx) (m.mem hy) (tw_inj e)
 ·exact m.fnp
end
end MM

namespace Pf
open PySem PySem.Spec PyProof.Rows L2
theorem sq {K:PySem.W.Frag} {H:Hp} {a:Addr} {xs:List V} (h:H a=some (.lst xs)):SqL K H a xs := .inl (.inl h)
theorem st {K:PySem.W.Frag} {H:Hp} {a:Addr} {xs:List V} (h:H a=some (.tup xs)):SqT K H a xs := .inl (.inl h)
theorem szl {n:Nat} (h:n≤100000):n≤sizeLine:=Nat.le_trans h (by decide)
theorem szt {n:Nat} (h:n < 100000):n < sizeLine:=Nat.lt_of_lt_of_le h (by decide)
abbrev vn (n:Nat):V := .int (n:Int)
def vns (l:List Nat):List V:=l.map vn
theorem at_n {xs:List V} {j:Nat} {v:V} (h:xs[j]? = some v):atI xs ((j:Nat):Int)=some v:=atI_nat h
theorem ix_n {n j:Nat} (h:j < n):ixN n ((j:Nat):Int)=some j:=by
 unfold ixN
 rw [if_pos (by omega),if_pos (by omega),Int.toNat_natCast]
theorem cut_to (xs:List V) (k:Nat):cutV xs none (some (k:Int))=xs.take k:=by
 unfold cutV
 rw [HT.sIx_none,HT.sIx_nat]
 show List.take (min k xs.length - 0) xs=_
 rw [Nat.sub_zero]
 by_cases h:k≤xs.length
 ·rw [Nat.min_eq_left h]
 ·rw [Nat.min_eq_right (by omega),List.take_length,List.take_of_length_le (by omega)]
theorem cut_from (xs:List V) (k:Nat):cutV xs (some (k:Int)) none=xs.drop k:=by
 unfold cutV
 rw [HT.sIx_none,HT.sIx_nat]
 by_cases h:k≤xs.length
 ·rw [Nat.min_eq_left h]
  exact List.take_of_length_le (by rw [List.length_drop]; exact Nat.le_refl _)
 ·rw [Nat.min_eq_right (by omega),List.drop_of_length_le (Nat.le_refl _),List.drop_of_length_le (by omega),List.take_nil]
def dI (l:List Int):PyData := .list (l.map PyData.int)
def dN (l:List Nat):PyData:=dI (l.map fun n:Nat=>(n:Int))
def dLL (l:List (List Nat)):PyData := .list (l.map dN)
structure LL (H:Hp) (p:Addr) (ps:List Addr) (xss:List (List Nat)):Prop where
 top:H p=some (.lst (ps.map V.ref))
 each:Paired (fun q xs=>H q=some (.lst (vns xs))) ps xss
theorem paired_imp {α β : Type} {F G : α→β→Prop} (k:∀ a b,F a b→G a b):∀ {l:List α} {m:List β},Paired F l m→Paired G l m
 | _,_,.nil => .nil
 | _,_,.cons r t => .cons (k _ _ r) (paired_imp k t)
theorem LL.same {H H':Hp} {p:Addr} {ps:List Addr} {xss:List (List Nat)} (h:LL H p ps xss) (s:Same H H'):LL H' p ps xss:=⟨s _ _ h.top,paired_imp (fun _ _ e=>s _ _ e) h.each⟩
theorem paired_len {α β : Type} {F : α→β→Prop}:∀ {l:List α} {m:List β},Paired F l m→l.length=m.length
 | _,_,.nil=>rfl
 | _,_,.cons _ t=>by rw [List.length_cons,List.length_cons,paired_len t]
theorem paired_mem {α β : Type} {F : α→β→Prop}:∀ {l:List α} {m:List β},Paired F l m→∀ a∈l,∃ b∈m,F a b
 | _,_,.nil,_,h=>by cases h
 | _,_,.cons (a:=x) (b:=y) r t,a,h=>by
  rcases List.mem_cons.mp h with rfl | h
  ·exact ⟨y,List.mem_cons_self,r⟩
  ·obtain ⟨b,hb,f⟩:=paired_mem t a h
   exact ⟨b,List.mem_cons_of_mem _ hb,f⟩
theorem same_but {H H':Hp} {p:Addr} {o:HO} (h:Same H H') (hp:H p=none):Same H (upd H' p o):=RD.same_mut h hp
def SameX (a:Addr) (H H':Hp):Prop:=∀ b o,H b=some o→b ≠ a→H' b=some o
theorem SameX.refl (a:Addr) (H:Hp):SameX a H H:=fun _ _ h _=>h
theorem SameX.trans {a:Addr} {H H1 H2:Hp} (x:SameX a H H1) (y:SameX a H1 H2):SameX a H H2:=fun b o h hb=>y b o (x b o h hb) hb
theorem Same.x {a:Addr} {H H1:Hp} (x:Same H H1):SameX a H H1:=fun b o h _=>x b o h
theorem SameX.put {a:Addr} {H H1:Hp} {o:HO} (x:SameX a H H1):SameX a H (upd H1 a o):=fun b u h hb=>by rw [upd_ne hb]; exact x b u h hb
theorem SameX.same {a:Addr} {H H1:Hp} (x:SameX a H H1) (h:H a=none):Same H H1:=fun b o e=>x b o e (ne_of_none e h)
theorem SameX.mut {a:Addr} {H H':Hp} {p:Addr} {o:HO} (e:SameX a H H') (h:H p=none):SameX a H (upd H' p o):=fun b u hb hn=>by
 rw [upd_ne (ne_of_none hb h)]
 exact e b u hb hn
theorem SameX.free {a:Addr} {H H':Hp} (e:SameX a H H') {l:Addr} (h:H' l=Option.none) (hl:l ≠ a):H l=Option.none:=by
 cases q:H l with
 | none=>rfl
 | some o =>
  rw [e l o q hl] at h
  cases h
theorem SameX.under {t:Addr} {H H1 H2:Hp} (x:SameX t H1 H2) (s:Same H H1) (n:H t=none):Same H H2:=fun b o e=>x b o (s b o e) (ne_of_none e n)
end Pf

namespace RD
open PySem PySem.Spec PyProof.Rows L2
section
variable {σ : L2.St} {H:Hp} {Q:VK} {a b:Addr} {xs zs:List V}
theorem pop {y:V} (h:H a=some (.lst (xs++[y]))) (q:Q y (upd H a (.lst xs))):rPop (.ref a) [] H Q:=⟨a,xs++[y],y,rfl,rfl,h,by simp,by rw [List.dropLast_concat]; exact q⟩
theorem ext (h:H a=some (.lst xs)) (h':H b=some (.lst zs)) (hl:xs.length + zs.length≤sizeLine) (q:Q .non (upd H a (.lst (xs++zs)))):rExtend (.ref a) [.ref b] H Q:=⟨a,b,xs,zs,rfl,rfl,h,h',hl,q⟩
theorem prop {C:Addr} {sp:Sp} {dvs:List V} {E:XK} {ta:TE} (h:ta σ H fun x H1=>∃ a dx fs,x = .ref a∧H1 a=some (.ins C dx fs)∧sp (.ref a :: dvs) H1 Q E):tProp C sp dvs E ta σ H Q:=h
instance i_prop {C:Addr} {sp:Sp} {dvs:List V} {E:XK} {ta:TE}:RD.W1 (tProp C sp dvs E ta σ H Q) (ta σ H fun x H1=>∃ a dx fs,x = .ref a∧H1 a=some (.ins C dx fs)∧sp (.ref a :: dvs) H1 Q E):=⟨fun h=>prop h⟩
theorem lcP {K:PySem.W.Frag} {te:TE} {g:TG} {tt:TT} {vs:List Nat} {qs:List Addr} {β : Type} (ds:List β) (hq:SqL K H a (qs.map V.ref)) (hl:qs.length=ds.length) (hsz:qs.length≤sizeLine) (p : β→Bool) (f : β→V)
  (turn:∀ (i:Nat) c d H1 (Q':VK) (R':Hp→Prop),qs[i]? = some c→ds[i]? = some d→Same H H1→(p d=true→∀ H4,Same H1 H4→Q' (f d) H4)→(p d=false→∀ H4,Same H1 H4→R' H4) →
   g (.ref c) (wipe σ vs) H1 fun σ2 H3=>wipe σ2 vs=wipe σ vs∧tt σ2 H3 fun b H5=>if b=true then te σ2 H5 Q' else R' H5)
  (hd:∀ H' q,H q=none→Same H H'→H' q=some (.lst (pick p f ds))→Q (.ref q) H') :
  ∃ a',V.ref a = .ref a'∧(∃ ys,SqL K H a' ys)∧LR (Itl K a') g tt te vs σ H Q:=by
 refine ⟨a,rfl,⟨_,hq⟩,lcAny (walk_list (K:=K) (a:=a) (xs:=qs.map V.ref)) ds (by rw [List.length_map]; exact hl.symm) (by rw [List.length_map]; exact hsz) p f hq (fun H' s=>s.seq hq) (fun i H1 x H2 s y=>?_) (fun i b x H1 H2 Q' R' hb s y kT kF=>?_) hd⟩
 ·obtain ⟨rfl,_⟩:=y
  exact Same.refl _
 ·obtain ⟨rfl,y⟩:=y
  rw [List.getElem?_map] at y
  cases e:qs[i]? with
  | none=>rw [e] at y; cases y
  | some c =>
   rw [e] at y
   cases y
   exact turn i c b _ Q' R' e hb s kT kF
theorem ipi {f:Int→Int→Int} {i j:Int} (q:Q (.int (f i j)) H):ipI f (.int i) (.int j) H Q:=⟨i,j,rfl,rfl,q⟩
instance i_ipi {f:Int→Int→Int} {i j:Int}:RD.W1 (ipI f (.int i) (.int j) H Q) (Q (.int (f i j)) H):=⟨fun h=>ipi h⟩
theorem slT {K:PySem.W.Frag} {lo hi:Option Int} (h:SqT K H a xs) (hn:¬ (HT.sIx xs.length 0 lo=0∧HT.sIx xs.length xs.length hi=xs.length)) (q:∀ p,H p=none→Q (.ref p) (upd H p (.tup (cutV xs lo hi)))):rSlT K (.ref a) lo hi H Q:=⟨a,xs,rfl,h,hn,q⟩
end
end RD
namespace Pf
open PySem PySem.Spec PyProof.Rows L2
theorem paired_at {α β : Type} {F : α→β→Prop}:∀ {l:List α} {m:List β},Paired F l m→∀ {i:Nat} {a : α} {b : β},l[i]? = some a→m[i]? = some b→F a b
 | _,_,.nil,i,a,b,h,_=>by cases h
 | _,_,.cons r t,0,a,b,h,h'=>by
  cases h
  cases h'
  exact r
 | _,_,.cons r t,i + 1,a,b,h,h'=>paired_at t (by simpa using h) (by simpa using h')
end Pf

namespace RD
open PySem PySem.Spec PyProof.Rows L2 PySem.W
def wManyA (K:PySem.W.Frag) (i:Nat) (Wo:WX) (D:Ends):List (Value × (Addr→Value→Option Addr→TS))→WX
 | []=>Wo
 | (c,ts) :: r=>fun cls d σ H=>∃ b,PySem.W.exmOne K cls c=some b∧(b=true→∀ a,H a=none→ts a cls d ⟨fun σ' H'=>D.nx (σ'.set i none) H',D.rt,fun σ' H'=>D.bk (σ'.set i none) H',fun σ' H'=>D.ct (σ'.set i none) H'⟩ (σ.set i (some (.ref a))) H)∧(b=false→wManyA K i Wo D r cls d σ H)
inductive HdsA (X:Cx) (n:Str):List ExceptHandler→List (Value × (Addr→Value→Option Addr→TS))→Prop
 | nil:HdsA X n [] []
 | cons {x:Str} {c:Value} {ts:Addr→Value→Option Addr→TS} {b0:Stmt} {suite:List Stmt} {np pos':Pos} {hs:List ExceptHandler} {l:List (Value × (Addr→Value→Option Addr→TS))} (hc:Names X x c)
   (su:∀ (a:Addr) (oe:Obj) (cls:Value) (d:Option Addr) (pn:List (Addr × Obj)),Zc cls d oe→(∃ vs,oe.data = .fields vs)→PSs (X.suite a ((a,oe) :: pn)) (b0 :: suite) (ts a cls d)) (r:HdsA X n hs l) :
   HdsA X n (.ExceptHandler (some (.Name x np)) (some n) (b0 :: suite) pos' :: hs) ((c,ts) :: l)
section
variable {X:Cx} {body:List Stmt} {h0:ExceptHandler} {hds:List ExceptHandler} {l:List (Value × (Addr→Value→Option Addr→TS))} {pos:Pos} {tb:WX→TS} {Wo:WX} {n:Str} {i:Nat}
theorem ps_try_manyA (hs:X.stack=X.env :: X.outer) (hf:X.env.frame=some X.env.locals) (hN:X.N.Nodup) (hi:X.N[i]? = some n) (hln:X.env.kindOf n=some .local) (tk:Takes X Wo)
  (hb:∀ (W:WX) (pn:List (Addr × Obj)) (xe:Value→Shared→Prop),Takes (X.tr pn xe) W→PassesOwn (model X.prog X.w) X.A X.env xe→PSs (X.tr pn xe) body (tb W))
  (hh:HdsA X n (h0 :: hds) l):PS X (.Try body (h0 :: hds) [] [] pos) (fun D σ H=>tb (wManyA X.K i Wo D l) D σ H):=by
 refine ⟨fun pins s σ H D I hw=>?_⟩
 have ok:=I.ok
 have hfr:X.A.frames=some (X.env :: X.outer):=by rw [ok.frames,hs]
 have hloc:Loc X.env.scope n := .inl hln
 refine wpAny_Try_except (wpAny_mono ((hb (wManyA X.K i Wo D l) (X.pn++pins) (fun e s1=>wpAny (model X.prog X.w) X.A (noteFrame e X.env) (fun _ s2=>wpAny (model X.prog X.w) X.A (setFlight e none) (fun _ s3=>wpAny (model X.prog X.w) X.A (handleBy e X.env (h0 :: hds)) (SP X pins D) X.xe s3) X.xe s2) X.xe s1) (fun u s' xx=>?_) PassesOwn.looking).run [] s σ H D (I.toTry _) hw) (fun fl s1 hsp=>?_) (fun e s1 he=>he))
 ·obtain ⟨a,B,sI,pins',σ',H',cls,d,rfl,J',nb,up,sky,na,os,ag,ww⟩:=xx
  have J:Inv X pins σ' H' sI:=J'.ofTry ok
  have sk:Sky B (X.env :: X.outer) a (Zc cls d) X.env.locals s'.heap:=by rw [← hs]; exact sky
  show wpAny (model X.prog X.w) X.A (noteFrame (.ref a) X.env) _ _ _
  refine Sky.land Zc.steady hfr hf sk fun k3 f3 u3=>?_
  have J3:Inv X pins σ' H' { s' with heap:=k3 }:=J.landed nb f3.1 (up.trans u3) os ag
  obtain ⟨o3,v3,e3,z3,d3⟩:=f3.there
  have nfr:a ∉ frs (X.env :: X.outer):=fun hm=>by
   obtain ⟨_,o',e',hnf⟩:=f3.2.2.1.mem hm
   rw [e3] at e'; cases e'; exact hnf _ d3
  have nL:a ≠ X.env.locals:=fun z=>nfr (List.mem_filterMap.mpr ⟨X.env,List.mem_cons_self,by rw [hf,z]⟩)
  have nF:a ∉ X.fs:=fun hm=>by
   obtain ⟨e,he,q⟩:=List.mem_filterMap.mp hm; exact nfr (List.mem_filterMap.mpr ⟨e,List.mem_cons_of_mem _ he,q⟩)
  have S3:=J3.suite e3 d3 na nL nF
  have go:∀ {hd':List ExceptHandler} {l':List (Value × (Addr→Value→Option Addr→TS))},HdsA X n hd' l'→wManyA X.K i Wo D l' cls d σ' H'→wpAny (model X.prog X.w) X.A (handleBy (.ref a) X.env hd') (SP X pins D) X.xe { s' with heap:=k3 }:=by
   intro hd' l' hk
   induction hk with
   | nil =>
    intro w0
    refine wpAny_handleBy_nil ?_
    obtain ⟨k1,k2,k4,oe,vs,Tb,oT,ts',he,hz,hd,h1,hr⟩:=id f3
    unfold PySem.passOn
    refine wpAny_bind (wpAny_field he hd h1 ?_)
    rw [if_neg (show ¬ ((Value.ref Tb == Value.none)=true) from by simp)]
    have fin:wpAny (model X.prog X.w) X.A (setFlight (.ref a) X.env.frame) (fun _ s4=>wpAny (model X.prog X.w) X.A (throw (.ref a):Sem Flow) (SP X pins D) X.xe s4) X.xe { s' with heap:=k3 }:=by
     rw [hf]
     refine HandSPX.setFlight_upZ f3 fun h4 hh4 up4=>wpAny_throw (tk _ _ ⟨a,B,sI,pins,σ',H',cls,d,rfl,J,nb,(up.trans u3).trans up4,.inr (.inr (by rw [hs]; exact hh4)),na,os,ag,w0⟩)
    first | exact wpAny_bind (wpAny_pure (wpAny_bind fin)) | exact wpAny_bind fin
   | @cons x c ts b0 suite np pos' hds2 l2 hc hsu r ih =>
    intro w0
    obtain ⟨b,hb1,hyes,hno⟩:=w0
    refine wpAny_handleBy_cons (codeAny_handlers_test ?_) (by intro q; cases q)
    have LT:PySem.W.Looks (model X.prog X.w) k3 (typeOf (.ref a)) cls:=fun A Q E s k q=>wpAny_typeOf_ref (k _ _ e3) (by rw [z3.1]; exact q)
    have LM:=PySem.W.exm_one (M:=model X.prog X.w) (J3.kIn) LT hb1
    have test:∀ {Q:Value→Shared→Prop} {E:Value→Shared→Prop},Q c { s' with heap:=k3 }→wpAny (model X.prog X.w) (X.A.mark (some (.ref a))) (eval (.Name x np) X.env) Q E { s' with heap:=k3 }:=fun {Q E} q=>by
     obtain ⟨hg,hdbg,hm | ⟨hm,hv,hnn⟩⟩:=hc
     ·exact ld_glob (X:=X.suite a ((a,o3) :: (X.pn++pins))) S3 hg hm q hdbg
     ·exact ld_blt (X:=X.suite a ((a,o3) :: (X.pn++pins))) S3 hg hm hv q hnn hdbg
    refine test (LM.here ?_)
    cases b with
    | true =>
     refine codeAny_handlers_suite_as (HandSPX.lands_againZ f3 fun h4 f4 up4=>?_)
     have J4:Inv X pins σ' H' { s' with heap:=h4 }:=J.landed nb f4.1 ((up.trans u3).trans up4) os ag
     obtain ⟨o4,v4,e4,z4,d4⟩:=f4.there
     have S4:=J4.suite e4 d4 na nL nF
     refine store_ok (X:=X.suite a ((a,o4) :: (X.pn++pins))) (v := .ref a) S4 hN hi hloc rfl (fun s5 S5=>?_) (.inr hln)
     refine wpAny_mono ((hsu a o4 cls d (X.pn++pins) z4 ⟨_,d4⟩).run [] s5 _ H' _ S5 (hyes rfl a na)) (fun f s6 hsp=>?_) (fun _ _ z=>False.elim z)
     have end_:∀ {σ6:L2.St} {H6:Hp} {Q:Shared→Prop},Inv (X.suite a ((a,o4) :: (X.pn++pins))) [] σ6 H6 s6→(∀ s7,Inv X pins (σ6.set i none) H6 s7→Q s7)→wpAny (model X.prog X.w) X.A (do bindName X.env n .none; unbindBehindTheSuite X.env n pos') (fun _ s7=>Q s7) X.xe s6:=fun {σ6 H6 Q} S6 hq=>gone_ok (S6.unsuite ok) hN hi hln hq
     cases f with
     | next=>obtain ⟨σ6,H6,S6,q6⟩:=hsp; exact end_ S6 fun s7 J7=>⟨_,_,J7,q6⟩
     | brk=>obtain ⟨σ6,H6,S6,q6⟩:=hsp; exact end_ S6 fun s7 J7=>⟨_,_,J7,q6⟩
     | cont=>obtain ⟨σ6,H6,S6,q6⟩:=hsp; exact end_ S6 fun s7 J7=>⟨_,_,J7,q6⟩
     | ret u=>obtain ⟨v6,σ6,H6,S6,r6,q6⟩:=hsp; exact end_ S6 fun s7 J7=>⟨_,_,_,J7,r6,q6⟩
    | false =>
     show wpAny _ X.A (handleBy (.ref a) X.env hds2) _ _ _
     exact ih (hno rfl)
  exact go hh ww
 ·cases fl with
  | next=>obtain ⟨σ',H',J',q⟩:=hsp; exact wpAny_execs_nil ⟨σ',H',J'.ofTry ok,q⟩
  | brk=>obtain ⟨σ',H',J',q⟩:=hsp; exact ⟨σ',H',J'.ofTry ok,q⟩
  | cont=>obtain ⟨σ',H',J',q⟩:=hsp; exact ⟨σ',H',J'.ofTry ok,q⟩
  | ret u=>obtain ⟨v,σ',H',J',r,q⟩:=hsp; exact ⟨v,σ',H',J'.ofTry ok,r,q⟩
end
section
variable {prog:Program} {w:World} {A:Around} {E:Value→Shared→Prop} {s:Shared} {K:Frag} {x D:Addr} {ox:Obj} {od:Obj}
end
def rIsX (K:PySem.W.Frag) (D a dd:Addr):List V→Hp→VK→Prop:=fun xs H Q=>∃ (c:V) (cv:Value) (b:Bool) (fs:List (Str × V)),xs=[.ref a,c]∧(∀ u,RelV c u→u=cv)∧H dd=some (.xd fs)∧PySem.W.kitOne K (.ref D) cv=some b∧Q (.bl b) H
end RD

namespace RD
open PySem PySem.Spec PyProof.Rows L2
def oexB (K:PySem.W.Frag) (C:Addr):Bool:=match K.lookup C with
 | some ⟨.type "type", _,.cls cd,sl⟩=>(match cd.mro,sl.toList with
  | .ref D :: bm,[_,_,_,_,some (.builtin n),_]=>D == C && n == "ValueError.__new__" && !cd.hasDel && cd.hasDict && HandSPX.refsVE bm
  | _,_=>false)
 | _=>false
theorem oex_cls {K:PySem.W.Frag} {C:Addr} (q:oexB K C=true):∃ nm qn N bs bm sn sub ab col dd k0 k1 k2 k3 k5,K.lookup C=some (excClassObj nm qn C N bs bm true sn sub ab col dd k0 k1 k2 k3 k5 "ValueError.__new__")∧HandSPX.refsVE bm=true:=by
 unfold oexB at q
 split at q
 ·rename_i dd cd sl ho
  split at q
  ·rename_i D bm k0 k1 k2 k3 n k5 hm hs
   simp only [Bool.and_eq_true,beq_iff_eq,Bool.not_eq_true'] at q
   obtain ⟨⟨⟨⟨rfl,rfl⟩,hdel⟩,hdi⟩,ht⟩:=q
   obtain ⟨nm,bs,mro,N,qn,hd,sn,sub,ab,col,del⟩:=cd
   dsimp only at hm hdel hdi
   subst hm hdel hdi
   have hsl:sl = #[k0,k1,k2,k3,some (.builtin "ValueError.__new__"),k5]:=by
    obtain ⟨l⟩:=sl
    simp only at hs; rw [hs]
   subst hsl
   exact ⟨nm,qn,N,bs,bm,sn,sub,ab,col,dd,k0,k1,k2,k3,k5,ho,ht⟩
  ·cases q
 ·cases q
theorem oexC {K:PySem.W.Frag} {C:Addr} (q:oexB K C=true) (h1:PySem.W.findIn K (.ref C) "__setattr__" = some (some (.builtin "object.__setattr__"))) (h2:PySem.W.subIn K (.ref C) (.type "BaseException")=some true) (h3:PySem.W.typeIn K (.ref C)=some (.type "type")) (h4:PySem.W.keepIn K (.ref C)=true):OexC K C:=⟨oex_cls q,h1,h2,h3,h4⟩
def sp_exi1 (C:Addr) (f:Str):Sp:=fun vs H Q _=>∃ (a:Addr) (v:V),vs=[.ref a,v]∧H a=some (exo a C none)∧∀ dx,H dx=none→dx ≠ a→Q .non (upd (upd H dx (exd dx [(f,v)])) a (exo a C (some dx)))
def sp_exi2 (C:Addr) (f g:Str):Sp:=fun vs H Q _=>∃ (a:Addr) (v u:V),vs=[.ref a,v,u]∧H a=some (exo a C none)∧∀ dx,H dx=none→dx ≠ a→Q .non (upd (upd (upd H dx (exd dx [(f,v)])) a (exo a C (some dx))) dx (exd dx [(g,u),(f,v)]))
theorem mk1 {C:Addr} {f:Str} {v:V} {H:Hp} {W:XK} (q:∀ dx,H dx=none→W (.ref C) (some dx) (upd H dx (.xd [(f,v)]))) :
  [v].length≤1000∧∀ a,H a=none→sp_exi1 C f (.ref a :: ([v]++[])) (upd H a (exo a C none)) (fun x H2=>x = .non∧∃ (d:Addr) (fs:List (Str × V)),H2 a=some (exo a C (some d))∧H2 d=some (exd d fs)∧H d=none∧W (.ref C) (some d) (upd (L2.del H2 a) d (.xd fs))) (fun _ _ _=>False):=by
 refine ⟨(show 1≤1000 by decide),fun a na=>⟨a,v,rfl,upd_same,fun dx ndx ne=>⟨rfl,dx,[(f,v)],upd_same,by rw [upd_ne ne,upd_same],by rw [upd_ne ne] at ndx; exact ndx,?_⟩⟩⟩
 rw [upd_ne ne] at ndx
 have e:upd (L2.del (upd (upd (upd H a (exo a C none)) dx (exd dx [(f,v)])) a (exo a C (some dx))) a) dx (.xd [(f,v)])=upd H dx (.xd [(f,v)]):=by
  funext b
  by_cases h:b=dx
  ·subst h; rw [upd_same,upd_same]
  ·rw [upd_ne h,upd_ne h]
   by_cases h2:b=a
   ·subst h2; rw [del_same,na]
   ·rw [del_ne h2,upd_ne h2,upd_ne h,upd_ne h2]
 rw [e]
 exact q dx ndx
theorem mk2 {C:Addr} {f g:Str} {v u:V} {H:Hp} {W:XK} (q:∀ dx,H dx=none→W (.ref C) (some dx) (upd H dx (.xd [(g,u),(f,v)]))) :
  [v,u].length≤1000∧∀ a,H a=none→sp_exi2 C f g (.ref a :: ([v,u]++[])) (upd H a (exo a C none)) (fun x H2=>x = .non∧∃ (d:Addr) (fs:List (Str × V)),H2 a=some (exo a C (some d))∧H2 d=some (exd d fs)∧H d=none∧W (.ref C) (some d) (upd (L2.del H2 a) d (.xd fs))) (fun _ _ _=>False):=by
 refine ⟨(show 2≤1000 by decide),fun a na=>⟨a,v,u,rfl,upd_same,fun dx ndx ne=>⟨rfl,dx,[(g,u),(f,v)],by rw [upd_ne ne.symm,upd_same],upd_same,by rw [upd_ne ne] at ndx; exact ndx,?_⟩⟩⟩
 rw [upd_ne ne] at ndx
 have e:upd (L2.del (upd (upd (upd (upd H a (exo a C none)) dx (exd dx [(f,v)])) a (exo a C (some dx))) dx (exd dx [(g,u),(f,v)])) a) dx (.xd [(g,u),(f,v)])=upd H dx (.xd [(g,u),(f,v)]):=by
  funext b
  by_cases h:b=dx
  ·subst h; rw [upd_same,upd_same]
  ·rw [upd_ne h,upd_ne h]
   by_cases h2:b=a
   ·subst h2; rw [del_same,na]
   ·rw [del_ne h2,upd_ne h,upd_ne h2,upd_ne h,upd_ne h2]
 rw [e]
 exact q dx ndx
theorem ost {K:PySem.W.Frag} {f:Str} {to te:TE} {σ : L2.St} {H:Hp} {nx bk ct:L2.St→Hp→Prop} {rt:VK} (h:te σ H fun y H1=>to σ H1 fun x H2=>∃ a C:Addr,x = .ref a∧OexC K C∧PySem.W.findIn K (.ref C) f=some none ∧
 ((H2 a=some (exo a C none)∧∀ dx,H2 dx=none→dx ≠ a→nx σ (upd (upd H2 dx (exd dx [(f,y)])) a (exo a C (some dx)))) ∨
  ∃ (dx:Addr) (fs:List (Str × V)),H2 a=some (exo a C (some dx))∧H2 dx=some (exd dx fs)∧fs.length≤900∧nx σ (upd H2 dx (exd dx ((f,y) :: fs))))):tOst K f to te ⟨nx,rt,bk,ct⟩ σ H:=h
instance i_ost {K:PySem.W.Frag} {f:Str} {to te:TE} {σ : L2.St} {H:Hp} {nx bk ct:L2.St→Hp→Prop} {rt:VK}:RD.W1 (tOst K f to te ⟨nx,rt,bk,ct⟩ σ H) (te σ H fun y H1=>to σ H1 fun x H2=>∃ a C:Addr,x = .ref a∧OexC K C∧PySem.W.findIn K (.ref C) f=some none ∧
 ((H2 a=some (exo a C none)∧∀ dx,H2 dx=none→dx ≠ a→nx σ (upd (upd H2 dx (exd dx [(f,y)])) a (exo a C (some dx)))) ∨
  ∃ (dx:Addr) (fs:List (Str × V)),H2 a=some (exo a C (some dx))∧H2 dx=some (exd dx fs)∧fs.length≤900∧nx σ (upd H2 dx (exd dx ((f,y) :: fs))))):=⟨fun h=>ost h⟩
end RD

namespace RD
open PySem PySem.Spec PyProof.Rows L2
theorem star {K:PySem.W.Frag} {te:TE} {t:TA} {σ : L2.St} {H:Hp} {QA:List V→Hp→Prop} (h:te σ H fun x H1=>∃ p xs,x=V.ref p∧(SqT K H1 p xs∨SqL K H1 p xs)∧t σ H1 fun ys H2=>QA (xs++ys) H2):StX.tStar K te t σ H QA:=h
instance i_star {K:PySem.W.Frag} {te:TE} {t:TA} {σ : L2.St} {H:Hp} {QA:List V→Hp→Prop}:RD.W1 (StX.tStar K te t σ H QA) (te σ H fun x H1=>∃ p xs,x=V.ref p∧(SqT K H1 p xs∨SqL K H1 p xs)∧t σ H1 fun ys H2=>QA (xs++ys) H2):=⟨fun h=>star h⟩
end RD

namespace RD
open PySem PySem.Spec PyProof.Rows L2
theorem callS {sp:Sp} {E:L2.St→XK} {tr:TA} {σ : L2.St} {H:Hp} {Q:VK} (h:tr σ H fun vs H1=>sp vs H1 Q (E σ)):tCallS sp E tr σ H Q:=h
theorem xf {a C:Addr} {cls:Value} {d:Option Addr} {f:Str} {te:TE} {σ : L2.St} {H:Hp} {Q:VK} (h:te σ H fun x H1=>x = .ref a∧cls = .ref C∧∃ (dd:Addr) (fs:List (Str × V)) (v:V),d=some dd∧H1 dd=some (.xd fs)∧fs.lookup f=some v∧Q v H1):tXf a cls d C f te σ H Q:=h
instance i_xf {a C:Addr} {cls:Value} {d:Option Addr} {f:Str} {te:TE} {σ : L2.St} {H:Hp} {Q:VK}:RD.W1 (tXf a cls d C f te σ H Q) (te σ H fun x H1=>x = .ref a∧cls = .ref C∧∃ (dd:Addr) (fs:List (Str × V)) (v:V),d=some dd∧H1 dd=some (.xd fs)∧fs.lookup f=some v∧Q v H1):=⟨fun h=>xf h⟩
theorem isE {K:PySem.W.Frag} {D a c:Addr} {b:Bool} {H:Hp} {Q:VK} (k:PySem.W.kitOne K (.ref D) (.ref c)=some b) (q:Q (.bl b) H):rIsE K D a [.ref a,.ref c] H Q:=⟨_,_,b,rfl,fun u r=>r,k,q⟩
end RD
namespace RD
open PySem PySem.Spec PyProof.Rows L2
end RD

namespace Pf
open PySem PySem.Spec PyProof.Rows L2
def kvN (p:Nat × Nat):Key × V:=(Sum.inl (p.1:Int),vn p.2)
theorem val_kvN':∀ (ps:List (Nat × Nat)) (x y:Nat),(ps.map (·.1)).Nodup→(x,y)∈ps→valV (ps.map kvN) (Sum.inl (x:Int):Key)=some (vn y)
 | q :: r,x,y,hn,h=>by
  rw [List.map_cons,List.nodup_cons] at hn
  rw [List.map_cons]
  rcases List.mem_cons.mp h with h | h
  ·subst h
   exact valV_pos (p:=kvN (x,y)) rfl
  ·have e:¬ q.1=x:=fun z=>hn.1 (by rw [z]; exact List.mem_map.mpr ⟨(x,y),h,rfl⟩)
   rw [valV_neg fun z=>e (Int.ofNat.inj (Sum.inl.inj z))]
   exact val_kvN' r x y hn.2 h
section
variable {X:Cx}
theorem swDc {kx vx:Expr} {gs:List Comprehension} {scope:Scope} {pos py:Pos} {y:Str} {l:Nat} {env:Env} (h1:env.scope.kind = .function) (h2:env.scope.names.lookup y=some .local) (h3:(py.line == pos.line)=true)
  (h4:(scope.names.any fun (n,k)=>n == y && (k == .local || k == .cell))=false):swapsWith (.DictComp kx vx gs scope pos) (some (.Name y py)) l env=pure true:=by
 have k2:env.kindOf y=some .local:=h2
 have k1:env.blockKind = .function:=by unfold Env.blockKind; rw [h1]; rfl
 unfold swapsWith
 simp only [k1,k2,h4,Expr.pos,h3]
 rfl
theorem setDc {i:Nat} {y:Str} {py:Pos} {kx vx tg iter:Expr} {ifs:List Expr} {scope:Scope} {own:List (Str × Nat)} {pos spos:Pos} {wi:TI} {g:TG} {tt:TT} {tk tv:TE} (hc:X.calm=true) (hN:X.N.Nodup) (hy:X.N[i]? = some y) (hyl:X.env.scope.names.lookup y=some .local)
  (hsw:swapsWith (.DictComp kx vx [⟨tg,iter,ifs,0⟩] scope pos) (some (.Name y py)) spos.line X.env=pure true) (hi:PI X tg iter wi) (ok:BlkOk X.N X.env.scope scope own)
  (hg:∀ (s:Shared) (H:Hp) (C:Addr) (cl:List (Str × Addr)) (fp:List Addr),PG (X.blk s H scope (compEnvC scope cl C X.env) fp) tg g) (ht:∀ (s:Shared) (H:Hp) (C:Addr) (cl:List (Str × Addr)) (fp:List Addr),PTs (X.blk s H scope (compEnvC scope cl C X.env) fp) ifs tt)
  (hk:∀ (s:Shared) (H:Hp) (C:Addr) (cl:List (Str × Addr)) (fp:List Addr),PE (X.blk s H scope (compEnvC scope cl C X.env) fp) kx tk)
  (he:∀ (s:Shared) (H:Hp) (C:Addr) (cl:List (Str × Addr)) (fp:List Addr),PE (X.blk s H scope (compEnvC scope cl C X.env) fp) vx tv) (hs:∀ x,foldedSetIterable iter X.env x=pure x:=by intro _; rfl) :
  PS X (.Assign [.Name y py] (.DictComp kx vx [⟨tg,iter,ifs,0⟩] scope pos) spos) (tAsg (tDc wi g tt tk tv (own.map (·.2))) (gName i)):=by
 refine ⟨fun pins s σ H D I h=>?_⟩
 rw [exec_Assign_Name_used _ _ _ _ hsw]
 refine wpAny_bind (wpAny_standAt (wpAny_bind ?_))
 show wpAny _ X.A (do let _ ← comprehension (.DictComp kx vx [⟨tg,iter,ifs,0⟩] scope pos) scope X.env (firstIterPos [⟨tg,iter,ifs,0⟩] pos) newDict false (eval iter X.env) (some (assign (.Name y py) X.env))) _ _ s
 have h:tDc wi g tt tk tv (own.map (·.2)) σ H (fun x H1=>gName i x σ H1 D.nx):=h
 refine wpAny_bind (thn (dc_core (Qf:=fun _ s'=>SP X pins D .next s') hc hN I hi ok hg ht hk he hs h fun L C s' m H' I' q hn f=>?_) fun _ s' hq=>wpAny_pure (wpAny_pure hq))
 show wpAny _ _ (assign (.Name y py) X.env (.ref L)) _ _ _
 obtain ⟨f0,f1,f2,f3,f4,f5⟩:=f
 refine wpAny_assign_Name (store_ok2 (v:=V.ref L) I' hN hy (.inl hyl) rfl (fun s2 I2 ⟨a,sb,ha⟩=>?_) (.inr hyl))
 have haC:C ≠ a:=by
  rcases ha with z | z
  ·rw [z]; exact f1
  ·exact fun e=>f4 y a z e.symm
 exact ⟨m,hn.sameBut sb haC,fun h3 sb3=>⟨_,H',I2.turned (t':=s2.toks) (fun b o hb e=>(sb3.2 b hb).trans e) f0 f1 f3 f4 f5,q⟩⟩
end
end Pf

namespace RD
open PySem PySem.Spec PyProof.Rows L2
end RD
namespace RD
open PySem PySem.Spec PyProof.Rows L2
def tInVals (ty td:TE):TE:=fun σ H Q=>ty σ H fun y H1=>td σ H1 fun x H2=>∃ d o kvs,x = .ref d∧H2 d=some (.frz o (.dK kvs))∧flatV y=true∧kvs.all (fun p=>flatV p.2)=true∧Q (.bl (inV y (kvs.map (·.2)))) H2
def rRepS:R2:=fun x y H Q=>∃ (l:List Nat) (k:Int),x = .str ⟨l.toArray⟩∧y = .int k∧0≤k∧k < 2 ^ 62∧l.length * k.toNat≤1000000∧Q (.str ⟨(List.replicate k.toNat l).flatten.toArray⟩) H
def tLockT (t:TT):TT:=fun σ H QB=>∃ d u,H d=some u∧Mut (some u)∧∀ od,t σ (upd H d (.frz od u)) fun b H'=>H' d=some (.frz od u)∧QB b (upd H' d u)
end RD

namespace RD
open PySem PySem.Spec PyProof.Rows L2
end RD
namespace RD
open PySem PySem.Spec PyProof.Rows L2
end RD

namespace Pf
open PySem PySem.Spec PyProof.Rows L2
def pF (F:Nat→Nat) (L:List Nat):List (Nat × Nat):=L.map fun x=>(x,F x)
def FU (H:Hp) (d:Addr) (F:Nat→Nat) (L:List Nat):Prop:=H d=some (.dK ((pF F L).map kvN))
def FD (H:Hp) (d:Addr) (F:Nat→Nat) (L:List Nat):Prop:=Rd H d (.dK ((pF F L).map kvN))
theorem FU.rd {H:Hp} {d:Addr} {F:Nat→Nat} {L:List Nat} (h:FU H d F L):FD H d F L := .inl h
theorem FD.same {H H':Hp} {d:Addr} {F:Nat→Nat} {L:List Nat} (h:FD H d F L) (s:Same H H'):FD H' d F L:=by
 rcases h with h | ⟨o,h⟩
 ·exact .inl (s _ _ h)
 ·exact .inr ⟨o,s _ _ h⟩
theorem FU.same {H H':Hp} {d:Addr} {F:Nat→Nat} {L:List Nat} (h:FU H d F L) (s:Same H H'):FU H' d F L:=s _ _ h
theorem pF_fst (F:Nat→Nat) (L:List Nat):(pF F L).map (·.1)=L:=by
 unfold pF
 rw [List.map_map]
 exact List.map_id L
theorem FD.get {H:Hp} {d:Addr} {F:Nat→Nat} {L:List Nat} (h:FD H d F L) (hn:L.Nodup) {x:Nat} (hx:x∈L):DGet H d (vn x) (some (vn (F x))) :=
 .inl ⟨_,Sum.inl (x:Int),h,rfl,(val_kvN' (pF F L) x (F x) (by rw [pF_fst]; exact hn) (List.mem_map.mpr ⟨x,hx,rfl⟩)).symm⟩
theorem FD.ne {H:Hp} {d p:Addr} {F:Nat→Nat} {L:List Nat} (h:FD H d F L) (n:H p=none):d ≠ p:=by
 rcases h with h | ⟨o,h⟩ <;> exact ne_of_none h n
theorem FD.upd {H:Hp} {d p:Addr} {F:Nat→Nat} {L:List Nat} {o:HO} (h:FD H d F L) (n:d ≠ p):FD (upd H p o) d F L:=by
 rcases h with h | ⟨o',h⟩
 ·exact .inl (by rw [upd_ne n]; exact h)
 ·exact .inr ⟨o',by rw [upd_ne n]; exact h⟩
end Pf
namespace RD
open PySem PySem.Spec PyProof.Rows L2 Pf
section
variable {σ : L2.St} {H:Hp} {Q:VK} {nx bk ct:L2.St→Hp→Prop} {rt:VK} {t:TS} {g:TG}
def rSrtD (xs:List V) (H:Hp) (Q:VK):Prop:=∃ (a:Addr) (kvs:List (Key × V)) (ks:List Int),xs=[.ref a]∧Rd H a (.dK kvs)∧kvs.map (·.1)=ks.map Sum.inl∧ks.length < 64∧∀ (ys:List Int) (p:Addr),ys.Perm ks→ys.Pairwise (·≤·)→H p=none→Q (.ref p) (upd H p (.lst (ys.map V.int)))
def SqS (K:PySem.W.Frag) (H:Hp) (a:Addr) (xs:List V):Prop:=SqL K H a xs∨SqT K H a xs
theorem seqT {K:PySem.W.Frag} {H H':Hp} {a:Addr} {xs:List V} (e:Same H H') (h:SqT K H a xs):SqT K H' a xs:=by
 rcases h with (h | ⟨o,h⟩) | h
 ·exact .inl (.inl (e _ _ h))
 ·exact .inl (.inr ⟨o,e _ _ h⟩)
 ·exact .inr h
theorem SqS.same {K:PySem.W.Frag} {H H':Hp} {a:Addr} {xs:List V} (h:SqS K H a xs) (e:Same H H'):SqS K H' a xs:=by
 rcases h with h | h
 ·exact .inl (e.seq h)
 ·exact .inr (seqT e h)
def IS (K:PySem.W.Frag) (R:It→Hp→Prop) (x:V) (H1:Hp):Prop:=∃ a,x = .ref a∧((∃ xs,SqL K H1 a xs)∧R (Itl K a) H1∨(∃ xs,SqT K H1 a xs)∧R (Itt K a) H1)
def iSeq (K:PySem.W.Frag) (te:TE):TI:=fun σ H R=>te σ H (IS K R)
theorem iSq {K:PySem.W.Frag} {te:TE} {R:It→Hp→Prop} (h:te σ H (IS K R)):iSeq K te σ H R:=h
instance i_iSq {K:PySem.W.Frag} {te:TE} {R:It→Hp→Prop}:RD.W1 (iSeq K te σ H R) (te σ H (IS K R)):=⟨fun h=>iSq h⟩
theorem callN {n m:Nat} {sp:Sp} {gV:List V→List V→List V} {E:XK} {ta tk:TA} (h:ta σ H fun vs H1=>tk σ H1 fun zs H2=>vs.length=n∧zs.length=m∧sp (gV vs zs) H2 Q E):tCallN n m sp gV E ta tk σ H Q:=h
instance i_callN {n m:Nat} {sp:Sp} {gV:List V→List V→List V} {E:XK} {ta tk:TA}:RD.W1 (tCallN n m sp gV E ta tk σ H Q) (ta σ H fun vs H1=>tk σ H1 fun zs H2=>vs.length=n∧zs.length=m∧sp (gV vs zs) H2 Q E):=⟨fun h=>callN h⟩
end
end RD
namespace Pf
open PySem PySem.Spec PyProof.Rows L2
def TP (H:Hp) (q:Addr) (p:Nat × Nat):Prop:=H q=some (.tup [vn p.1,vn p.2])
theorem tps_same {H H':Hp} (s:Same H H') {qs:List Addr} {W:List (Nat × Nat)} (h:Paired (TP H) qs W):Paired (TP H') qs W:=paired_imp (fun _ _ e=>s _ _ e) h
def Ties (K:PySem.W.Frag) (H:Hp) (a:Addr) (ts:List (Nat × Nat)):Prop:=∃ qs,RD.SqS K H a (qs.map V.ref)∧Paired (TP H) qs ts
theorem Ties.same {K:PySem.W.Frag} {H H':Hp} {a:Addr} {ts:List (Nat × Nat)} (h:Ties K H a ts) (s:Same H H'):Ties K H' a ts:=by
 obtain ⟨qs,h1,h2⟩:=h
 exact ⟨qs,h1.same s,tps_same s h2⟩
end Pf

namespace RD
open PySem PySem.Spec PyProof.Rows L2
def rTupOf (K:PySem.W.Frag) (xs:List V) (H:Hp) (Q:VK):Prop:=∃ p ys,xs=[.ref p]∧((SqL K H p ys∧∀ l,H l=none→Q (.ref l) (upd H l (.tup ys)))∨(SqT K H p ys∧Q (.ref p) H))
theorem k_tupOf {X:Cx} {K:PySem.W.Frag} (h:X.K=K):CallR X (.type "tuple") (rTupOf K):=by subst h; exact call_tuple_of
section
variable {σ : L2.St} {H:Hp} {Q:VK}
theorem tupL {K:PySem.W.Frag} {a:Addr} {ys:List V} (h:SqL K H a ys) (q:∀ l,H l=none→Q (.ref l) (upd H l (.tup ys))):rTupOf K [.ref a] H Q:=⟨a,ys,rfl,.inl ⟨h,q⟩⟩
theorem gtup3 {K:PySem.W.Frag} {i j k:Nat} {T:Addr} {x y z:V} {QG:L2.St→Hp→Prop} (h:SqT K H T [x,y,z]) (q:gName i x σ H fun σ1 H1=>gName j y σ1 H1 fun σ2 H2=>gName k z σ2 H2 QG):gTup K 3 (gCons (gName i) (gCons (gName j) (gCons (gName k) gNil))) (.ref T) σ H QG:=⟨T,[x,y,z],rfl,h,rfl,x,[y,z],rfl,y,[z],rfl,z,[],rfl,rfl,q⟩
theorem gtup4 {K:PySem.W.Frag} {i j k l:Nat} {T:Addr} {x y z u:V} {QG:L2.St→Hp→Prop} (h:SqT K H T [x,y,z,u]) (q:gName i x σ H fun σ1 H1=>gName j y σ1 H1 fun σ2 H2=>gName k z σ2 H2 fun σ3 H3=>gName l u σ3 H3 QG):gTup K 4 (gCons (gName i) (gCons (gName j) (gCons (gName k) (gCons (gName l) gNil)))) (.ref T) σ H QG:=⟨T,[x,y,z,u],rfl,h,rfl,x,[y,z,u],rfl,y,[z,u],rfl,z,[u],rfl,u,[],rfl,rfl,q⟩
end
end RD

namespace RD
open PySem PySem.Spec PyProof.Rows L2 SX
abbrev vst (l:List Nat):V := .str (S l)
def vsts (ls:List (List Nat)):List V:=ls.map vst
theorem vsts_len (ls:List (List Nat)):(vsts ls).length=ls.length:=List.length_map _
theorem vsts_app (a b:List (List Nat)):vsts (a++b)=vsts a++vsts b:=List.map_append
theorem vsts_at {ls:List (List Nat)} {i:Nat} {l:List Nat} (h:ls[i]? = some l):(vsts ls)[i]? = some (vst l):=by unfold vsts; rw [List.getElem?_map,h]; rfl
theorem of_vsts {ls:List (List Nat)} {i:Nat} {x:V} (h:(vsts ls)[i]? = some x):∃ l,ls[i]? = some l∧x=vst l:=by
 unfold vsts at h
 rw [List.getElem?_map] at h
 cases e:ls[i]? with
 | none=>rw [e] at h; cases h
 | some l=>rw [e] at h; exact ⟨l,rfl,(Option.some.inj h).symm⟩
theorem l0:Str.ofString "" = S []:=by decide +kernel
theorem dstr {a b:List Nat}:decide (S a=S b)=decide (a=b):=by
 by_cases e:a=b
 ·rw [decide_eq_true e,e,decide_eq_true rfl]
 ·rw [decide_eq_false e,decide_eq_false fun z=>e (S_inj z)]
def rSgn (neg:Bool):R2:=fun x y H Q=>∃ (c:Nat) (z:Str),x = .str ⟨#[c]⟩∧y = .str z∧Q (.bl (if neg=true then !decide (c∈z.cps.toList) else decide (c∈z.cps.toList))) H
theorem k_sgn {X:Cx}:OpR X (compareOp .In) (rSgn false):=op_in_sign
def rSplit:V→List V→Hp→VK→Prop:=fun x xs H Q=>∃ a b,x = .str a∧xs=[.str b]∧(b.length == 0)=false∧a.length + 2≤sizeLine∧rNewStrs (Txt.split a b) H Q
def rJoin (K:PySem.W.Frag):V→List V→Hp→VK→Prop:=fun x xs H Q=>∃ a p,∃ ys:List Str,x = .str a∧xs=[.ref p]∧(SqL K H p (ys.map V.str)∨SqT K H p (ys.map V.str))∧(ys.map (·.length)).sum + ys.length * a.length≤16777216∧Q (.str (Txt.join a ys)) H
theorem k_split {X:Cx} {o e:Expr} {to te:TE} {apos pos:Pos} (ho:PE X o to) (he:PE X e te) (hs:starEach [e] X.env=[(false,eval e X.env)]:=by rfl) (hbase:attributeBase o "split" X.env (eval o X.env)=eval o X.env:=by rfl) (hline:(apos.endLine == pos.line)=true:=by rfl) :
  PE X (.Call (.Attribute o "split" apos) [e] [] pos) (tM1 rSplit to te):=pe_split ho he hs hbase hline
theorem k_join {X:Cx} {K:PySem.W.Frag} {o e:Expr} {to te:TE} {apos pos:Pos} (h:X.K=K) (ho:PE X o to) (he:PE X e te) (hs:starEach [e] X.env=[(false,eval e X.env)]:=by rfl) (hbase:attributeBase o "join" X.env (eval o X.env)=eval o X.env:=by rfl) (hline:(apos.endLine == pos.line)=true:=by rfl) :
  PE X (.Call (.Attribute o "join" apos) [e] [] pos) (tM1 (rJoin K) to te):=by subst h; exact pe_join ho he hs hbase hline
def rAddS:R2:=fun x y H Q=>∃ i j,x = .str i∧y = .str j∧i.length + j.length≤sizeLine∧Q (.str (i++j)) H
theorem k_addS {X:Cx}:OpR X (binaryOp .Add) rAddS:=op_add_str
section
variable {σ : L2.St} {H:Hp} {Q:VK} {nx bk ct:L2.St→Hp→Prop} {rt:VK} {te to:TE} {t:TS} {K:PySem.W.Frag}
theorem m1 {r:V→List V→Hp→VK→Prop} (h:to σ H fun x H1=>(∃ a,x = .str a)∧te σ H1 fun y H2=>r x [y] H2 Q):tM1 r to te σ H Q:=h
instance i_m1 {r:V→List V→Hp→VK→Prop}:RD.W1 (tM1 r to te σ H Q) (to σ H fun x H1=>(∃ a,x = .str a)∧te σ H1 fun y H2=>r x [y] H2 Q):=⟨fun h=>m1 h⟩
theorem splt {l:List Nat} {c:Nat} (hc:c < 256) (hl:l.length≤1000000) (q:∀ p,H p=none→Q (.ref p) (upd H p (.lst (vsts (TL.spl [c] 0 [] l))))) :
  rSplit (vst l) [vst [c]] H Q:=by
 refine ⟨S l,S [c],rfl,rfl,rfl,by rw [S_len]; exact Nat.le_trans (by omega:l.length + 2≤1000002) (by decide),fun p np=>?_⟩
 rw [split_S (by simp) (by simpa using hc),List.map_map]
 exact q p np
theorem sum_le:∀ (ls:List (List Nat)) (k:Nat),(∀ l∈ls,l.length≤k)→((ls.map S).map (·.length)).sum + ls.length≤ls.length * (k + 1)
 | [],_,_=>by simp
 | l :: r,k,h=>by
  have h1:=sum_le r k fun x hx=>h x (List.mem_cons_of_mem _ hx)
  have h2:=h l List.mem_cons_self
  simp only [List.map_cons,List.sum_cons,List.length_cons,Nat.succ_mul,S_len] at h1 ⊢
  omega
theorem jnd {p:Addr} {c k:Nat} {ls:List (List Nat)} (hs:SqL K H p (vsts ls)) (hk:∀ l∈ls,l.length≤k) (hb:ls.length * (k + 1)≤16777216) (q:Q (vst (TL.joinL [c] ls)) H) :
  rJoin K (vst [c]) [.ref p] H Q:=by
 refine ⟨S [c],p,ls.map S,rfl,rfl,.inl (by rw [List.map_map]; exact hs),?_,?_⟩
 ·have:=sum_le ls k hk
  rw [S_len,List.length_map]
  show _ + _ * 1≤_
  omega
 ·rw [join_S]
  exact q
theorem strN {n:Nat} (h:n < 1000000000) (q:Q (vst (TL.numL n)) H):rStrI [Pf.vn n] H Q:=by
 refine ⟨(n:Int),rfl,?_,?_⟩
 ·have:(n:Int).natAbs=n:=rfl
  rw [this]
  exact Nat.lt_of_le_of_lt (Nat.log2_le_self n |> fun h2=>Nat.le_of_lt_succ (by
   have:n.log2 < 30:=by
    by_cases z:n=0
    ·subst z; decide
    ·exact (Nat.log2_lt z).mpr (Nat.lt_of_lt_of_le h (by decide))
   omega:n.log2 < 30 + 1)) (by decide)
 ·have e:=num_S n
  show Q (.str (Str.ofString (toString ((n:Nat):Int)))) H
  rw [e]
  exact q
theorem ixS {l:List Nat} {i:Int} {c:Nat} (hl:l.length≤1000000) (ha:atI l i=some c) (q:Q (vst [c]) H):rIxS (vst l) (.int i) H Q:=⟨S l,i,c,rfl,rfl,by rw [S_len]; exact Nat.le_trans hl (by decide),ha,q⟩
theorem isg {c:Nat} {l:List Nat} (q:Q (.bl (decide (c∈l))) H):rSgn false (vst [c]) (vst l) H Q:=⟨c,S l,rfl,rfl,q⟩
theorem adds {a b:List Nat} (h:a.length + b.length≤1000000) (q:Q (vst (a++b)) H):rAddS (vst a) (vst b) H Q:=by
 refine ⟨S a,S b,rfl,rfl,by rw [S_len,S_len]; exact Nat.le_trans h (by decide),?_⟩
 rw [S_cat]
 exact q
end
end RD

namespace RD
open PySem PySem.Spec PyProof.Rows L2 PySem.W
def rRpart:V→List V→Hp→VK→Prop:=fun x xs H Q=>∃ a b,x = .str a∧xs=[.str b]∧(b.length == 0)=false∧a.length≤sizeLine ∧
  ∀ p,H p=none→Q (.ref p) (upd H p (.tup [.str (Txt.rpartition a b).1,.str (Txt.rpartition a b).2.1,.str (Txt.rpartition a b).2.2]))
theorem mt_rpart {X:Cx}:MtR X "str.rpartition" rRpart:=by
 intro pins sh σ H x xs v us Q J rx rs hh
 obtain ⟨a,b,rfl,rfl,hb,hz,hh⟩:=hh
 obtain ⟨t,rfl⟩:=rx
 cases rs with
 | cons r1 rs =>
  cases rs
  obtain ⟨u,rfl⟩:=r1
  refine call_meets F.slot_str_rpartition (typeIs_str _ _ _) F.entry_str_rpartition (F.args_str_rpartition_2 _ _) (meets_str_rpartition a b t u hb hz) ?_
  unfold Txt.rpartition at hh
  revert hh
  cases Builtin.Str.lastOccurrence a b 0 a.length with
  | none=>intro hh; exact laid_parts J hh
  | some i=>intro hh; exact laid_parts J hh
theorem k_rpart {X:Cx} {o e:Expr} {to te:TE} {apos pos:Pos} (ho:PE X o to) (he:PE X e te) (hs:starEach [e] X.env=[(false,eval e X.env)]:=by rfl) (hbase:attributeBase o "rpartition" X.env (eval o X.env)=eval o X.env:=by rfl) (hline:(apos.endLine == pos.line)=true:=by rfl) :
  PE X (.Call (.Attribute o "rpartition" apos) [e] [] pos) (tM1 rRpart to te):=pe_m1 F.slot_str_rpartition F.type_str_rpartition mt_rpart ho he hs hbase hline
theorem pgs_star {X:Cx} {e:Expr} {es:List Expr} {t:TG} {u:TGs} {p:Pos} (h1:PG X e t) (h2:PGs X es u)
  (hs:(assignEach (.Starred e p :: es) X.env).map (·.2)=assign e X.env :: (assignEach es X.env).map (·.2):=by rfl):PGs X (.Starred e p :: es) (gCons t u):=by
 refine ⟨fun pins sh σ H vs us Q J r hh=>?_⟩
 obtain ⟨v,vr,e1,hh⟩:=hh
 subst e1
 cases r with
 | cons r rr =>
  rw [hs]
  refine assignInOrder_cons (thn (h1.run pins sh σ H _ _ _ J r hh) fun _ s1 ⟨σ1,H1,J1,q1⟩=>?_)
  exact h2.run pins s1 σ1 H1 _ _ Q J1 rr q1
def gStar (K:PySem.W.Frag) (t:TGs):TG:=fun v σ H Q=>∃ (a:Addr) (x:V) (r:List V),v = .ref a∧(SqL K H a (x :: r)∨SqT K H a (x :: r))∧r.length≤16000∧∀ D,H D=none→t [x,.ref D] σ (upd H D (.lst r)) Q
section
variable {prog:Program} {w:World} {A:Around} {E:Value→Shared→Prop} {s:Shared}
theorem star_list {l:Addr} {items:Array Value} {Q:List Value→Shared→Prop} (hl:s.heap.IsList l items) (hh:A.handled=none) (h1 : 1≤items.size) (hz:items.size≤16384)
  (q:∀ (h':Heap) (tk:Nat),(∀ b o,b ≠ s.heap.objs.size→s.heap.get? b=some o→h'.get? b=some o)→Q (items.toList.take 1++[.ref h'.objs.size]++[]) { s with heap:=h'.push { cls := .type "list", data := .seq (items.toList.drop 1).toArray },toks:=tk }):wpAny (model prog w) A (unpackItems (.ref l) 2 (some 1)) Q E s:=by
 have hlt:l ≠ s.heap.objs.size:=by obtain ⟨o,ho,_⟩:=hl; exact Nat.ne_of_lt (Heap.lt_size ho)
 unfold unpackItems
 refine wpAny_bind ?_
 unfold notIterableAtAll
 refine wpAny_bind (wpAny_specialOf hl.typeIs slot_list_iter.lookup ?_)
 refine wpAny_pure ?_
 simp only [Bool.false_eq_true,if_false]
 refine wpAny_bind (wpAny_holding (wpAny_pyIter_list hl ?_))
 refine wpAny_bind (wpAny_holding (kun_draw hlt 1 0 _ _ ⟨_,Heap.get?_push_size _ rfl,rfl,rfl⟩ (hl.push _) (by omega) fun ha hita hsa=>?_))
 have hla:ha.IsList l items:=(hl.push _).extBut hsa.extBut hlt
 rw [Nat.zero_add] at hita
 have hita':=hita
 obtain ⟨oi,hoi,_⟩:=hita'
 have hla':=hla
 obtain ⟨ol,hol,_⟩:=hla'
 rw [List.drop_zero]
 have hfl:(items.toList.take 1).length=1:=by rw [List.length_take,Array.length_toList]; omega
 rw [if_neg (show ¬ ((items.toList.take 1).length < 1) by rw [hfl]; omega)]
 refine wpAny_bind (wpAny_holding (kun_collect (s:={ s with heap:=ha }) (T := "list_iterator") (.inr (.inr (.inl rfl))) (Walks.list (A:=A.in1) hh s.heap.objs.size l hlt items) (fun j u st=>st.1.typeIs) (k:=1) (by omega) ⟨hita,hla⟩ (Heap.lt_size hoi) (Heap.lt_size hol) (fun hb tk hk=>?_) (by rw [sizeLine_eq]; omega)))
 have hrl:(items.toList.drop 1).length=items.size - 1:=by rw [List.length_drop,Array.length_toList]
 show wpAny _ _ (if (items.toList.drop 1).length < 2 - 1 - 1 then _ else _) _ _ _
 rw [if_neg (by omega)]
 show wpAny _ _ (newList ((items.toList.drop 1).take ((items.toList.drop 1).length - (2 - 1 - 1))) >>= fun d=>pure (items.toList.take 1++[d]++(items.toList.drop 1).drop ((items.toList.drop 1).length - (2 - 1 - 1)))) _ _ _
 rw [show (items.toList.drop 1).length - (2 - 1 - 1)=(items.toList.drop 1).length by omega,List.take_length,List.drop_length]
 refine wpAny_bind (wpAny_newList (wpAny_pure ?_) (by rw [hrl,sizeLine_eq]; omega))
 exact q hb tk fun b o hne e=>hk b o hne (hsa.extBut b o hne (Heap.get?_push_of_some _ e))
theorem star_tup {l:Addr} {items:Array Value} {Q:List Value→Shared→Prop} (hl:IsTup s.heap l items) (hh:A.handled=none) (h1 : 1≤items.size) (hz:items.size≤16384)
  (q:∀ (h':Heap) (tk:Nat),(∀ b o,b ≠ s.heap.objs.size→s.heap.get? b=some o→h'.get? b=some o)→Q (items.toList.take 1++[.ref h'.objs.size]++[]) { s with heap:=h'.push { cls := .type "list", data := .seq (items.toList.drop 1).toArray },toks:=tk }):wpAny (model prog w) A (unpackItems (.ref l) 2 (some 1)) Q E s:=by
 have hlt:l ≠ s.heap.objs.size:=by obtain ⟨o,ho,_⟩:=hl; exact Nat.ne_of_lt (Heap.lt_size ho)
 unfold unpackItems
 refine wpAny_bind ?_
 unfold notIterableAtAll
 refine wpAny_bind (wpAny_specialOf hl.typeIs slot_tuple_iter.lookup ?_)
 refine wpAny_pure ?_
 simp only [Bool.false_eq_true,if_false]
 refine wpAny_bind (wpAny_holding (iter_tuple hl ?_))
 refine wpAny_bind (wpAny_holding (draw_tuple hlt 1 0 _ _ ⟨_,Heap.get?_push_size _ rfl,rfl,rfl⟩ (hl.push _) (by omega) fun ha hita hsa=>?_))
 have hla:IsTup ha l items:=(hl.push _).extBut hsa.extBut hlt
 rw [Nat.zero_add] at hita
 have hita':=hita
 obtain ⟨oi,hoi,_⟩:=hita'
 have hla':=hla
 obtain ⟨ol,hol,_⟩:=hla'
 rw [List.drop_zero]
 have hfl:(items.toList.take 1).length=1:=by rw [List.length_take,Array.length_toList]; omega
 rw [if_neg (show ¬ ((items.toList.take 1).length < 1) by rw [hfl]; omega)]
 refine wpAny_bind (wpAny_holding (kun_collect (s:={ s with heap:=ha }) (T := "tuple_iterator") (.inr (.inr (.inr rfl))) (Walks.tuple (A:=A.in1) hh s.heap.objs.size l hlt items) (fun j u st=>st.1.typeIs) (k:=1) (by omega) ⟨hita,hla⟩ (Heap.lt_size hoi) (Heap.lt_size hol) (fun hb tk hk=>?_) (by rw [sizeLine_eq]; omega)))
 have hrl:(items.toList.drop 1).length=items.size - 1:=by rw [List.length_drop,Array.length_toList]
 show wpAny _ _ (if (items.toList.drop 1).length < 2 - 1 - 1 then _ else _) _ _ _
 rw [if_neg (by omega)]
 show wpAny _ _ (newList ((items.toList.drop 1).take ((items.toList.drop 1).length - (2 - 1 - 1))) >>= fun d=>pure (items.toList.take 1++[d]++(items.toList.drop 1).drop ((items.toList.drop 1).length - (2 - 1 - 1)))) _ _ _
 rw [show (items.toList.drop 1).length - (2 - 1 - 1)=(items.toList.drop 1).length by omega,List.take_length,List.drop_length]
 refine wpAny_bind (wpAny_newList (wpAny_pure ?_) (by rw [hrl,sizeLine_eq]; omega))
 exact q hb tk fun b o hne e=>hk b o hne (hsa.extBut b o hne (Heap.get?_push_of_some _ e))
end
theorem pg_star {X:Cx} {es:List Expr} {k:Nat} {t:TGs} {pos:Pos} (hc:X.calm=true) (h:PGs X es t)
  (hn:(assignEach es X.env).length=2:=by rfl) (hst:(assignEach es X.env).findIdx? (·.1)=some 1:=by rfl):PG X (.Tuple es k pos) (gStar X.K t):=by
 refine ⟨fun pins sh σ H v u Q J r hw=>?_⟩
 obtain ⟨a,x,rs,e1,hq,hl,hw⟩:=hw
 subst e1
 cases r
 rw [PyProof.Rows.assign_Tuple]
 refine wpAny_bind (wpAny_standAt ?_)
 unfold unpack
 rw [hn,hst]
 have fin:∀ (its:List Value),Vals (x :: rs) its→∀ (h':Heap) (tk:Nat),(∀ b o,b ≠ sh.heap.objs.size→sh.heap.get? b=some o→h'.get? b=some o) →
   wpAny (model X.prog X.w) X.A (assignInOrder ((assignEach es X.env).map (·.2)) (its.toArray.toList.take 1++[.ref h'.objs.size]++[])) (fun _ s'=>∃ σ' H',Inv X pins σ' H' s'∧Q σ' H') X.xe { sh with heap:=h'.push { cls := .type "list", data := .seq (its.toArray.toList.drop 1).toArray },toks:=tk }:=by
  intro its rv h' tk hk
  cases rv with
  | cons rx rr =>
   have J1:Inv X pins σ H { sh with heap:=h',toks:=tk }:=J.kept (t':=tk) fun b o e=>hk b o (Nat.ne_of_lt (Heap.lt_size e)) e
   have hf:H h'.objs.size=none:=J1.hok.fresh (Nat.le_refl _)
   have J2:Inv X pins σ (upd H h'.objs.size (.lst rs)) { sh with heap:=h'.push { cls := .type "list", data := .seq _ },toks:=tk }:=J1.laid (t':=tk) (fun b u e=>Heap.get?_push_of_some _ e) (Nat.le_refl _) ⟨Nat.le_trans hl (by decide),_,0,rr,Heap.get?_push_size _ rfl⟩
   exact h.run pins _ σ _ [x,.ref h'.objs.size] _ Q J2 (.cons rx (.cons rfl .nil)) (hw _ hf)
 rcases hq with hq | hq
 ·obtain ⟨its,rv,pl,hz⟩:=J.list hq
  have hl':sh.heap.IsList a its.toArray:=by
   obtain ⟨o,m,e,c,d,q⟩:=pl
   exact ⟨o,e,c,m,q⟩
  have hsz:its.toArray.size=rs.length + 1:=by rw [List.size_toArray,← rv.length]; rfl
  exact wpAny_bind (wpAny_holding (star_list hl' (J.ok.hd hc) (by omega) (by omega) fun h' tk hk=>fin its rv h' tk hk))
 ·obtain ⟨its,rv,pl,hz⟩:=J.tuple hq
  have hsz:its.toArray.size=rs.length + 1:=by rw [List.size_toArray,← rv.length]; rfl
  exact wpAny_bind (wpAny_holding (star_tup pl (J.ok.hd hc) (by omega) (by omega) fun h' tk hk=>fin its rv h' tk hk))
theorem k_star {X:Cx} {K:PySem.W.Frag} {es:List Expr} {k:Nat} {t:TGs} {pos:Pos} (hK:X.K=K) (h:PGs X es t) (hc:X.calm=true:=by rfl)
  (hn:(assignEach es X.env).length=2:=by rfl) (hst:(assignEach es X.env).findIdx? (·.1)=some 1:=by rfl):PG X (.Tuple es k pos) (gStar K t):=by subst hK; exact pg_star hc h hn hst
structure FunV (K:PySem.W.Frag) (x qual:Str) (st:Stmt) (f:Addr) (fd:FuncData):Prop where
 ex:∃ (oc:Value) (od:Option Addr) (dV kV doc pm:Value) (an:Option Addr) (cdv ct:Value) (osl:Array (Option Value)),
  fd=PySem.W.fnOf x qual (defArgs st) (defBody st) (defScope st) dV kV doc pm an cdv ct∧K.lookup f=some ⟨oc,od,.func fd,osl⟩∧PySem.W.codeIn K cdv qual=true
 kp:PySem.W.keepIn K (.ref f)=true
section
variable {P:Program} {w:World} {K:PySem.W.Frag} {mg:Str→Option Value} {base:Heap}
theorem FunV.ok {x qual:Str} {st:Stmt} {f:Addr} {fd:FuncData} {N ps:List Str} {k:Nat} {sp:Sp} (F:FunV K x qual st f fd) (S:FnScope N ps (defScope st)) (len:∀ vs H Q E,sp vs H Q E→vs.length=ps.length)
  (hbody:∀ (cdv:Value) (A:Around) (outer:List Env) (s:Shared) (H:Hp) (vs:List V) (Q:VK) (E:XK),Room k (A.deeper (envOfC qual (defScope st) s.heap.objs.size f cdv))→sp vs H Q E →
   ∃ t,PSs (cxOf CX0 P w K mg base N qual (defScope st) f cdv A outer s H E).nox (defBody st) t∧t { nx:=fun _ H'=>Q .non H',rt:=Q } (start N vs) H):FnOk P w K mg base CX0 (k + 1) f fd ps sp:=by
 obtain ⟨oc,od,dV,kV,doc,pm,an,cdv,ct,osl,rfl,lk,hcd⟩:=F.ex
 refine fn_of lk hcd S len fun A outer s H vs Q E hr hsp=>?_
 obtain ⟨t,h,q⟩:=hbody cdv A outer s H vs Q E hr hsp
 exact ⟨t,h.nox,q⟩
end
end RD

namespace RDT
open PySem PySem.Spec PyProof.Rows L2 PySem.W
def fstep (l:List Str) (v:Str):List Str:=if l.any (· == v) then l else l++[v]
def fmet (val:Nat→Str) (i:Nat):List Str:=((List.range i).map val).foldl fstep []
theorem fmet_succ (val:Nat→Str) (i:Nat):fmet val (i + 1)=fstep (fmet val i) (val i):=by
 unfold fmet; rw [List.range_succ,List.map_append,List.foldl_append]; rfl
theorem fstep_len (l:List Str) (v:Str):(fstep l v).length=if l.any (· == v) then l.length else l.length + 1:=by
 unfold fstep; split <;> simp
theorem fmet_le (val:Nat→Str):∀ i,(fmet val i).length≤i
 | 0=>Nat.le_refl _
 | i + 1=>by
  have ih:=fmet_le val i
  rw [fmet_succ,fstep_len]
  split <;> omega
theorem fstep_any (l:List Str) (v k:Str):(fstep l v).any (· == k)=(l.any (· == k) || decide (k=v)):=by
 unfold fstep
 by_cases h:l.any (· == v)=true
 ·rw [if_pos h]
  by_cases e:k=v
  ·subst e; rw [h]; simp
  ·simp [e]
 ·rw [if_neg h,List.any_append]
  by_cases e:k=v
  ·subst e; simp
  ·have hb:(v == k)=false:=by simpa [beq_iff_eq] using (fun h':v=k=>e h'.symm)
   simp [hb,e]
section
variable {prog:Program} {w:World} {A:Around} {R:Result→Shared→Prop} {I:Addr} {fp wr:List Addr} {G:Array GenState→Array GenState→Prop} {n:Nat} {P:Nat→Value→Prop} {St:Nat→Shared→Prop}
theorem set_loopK (W:WalksS prog w A.in1 I fp wr G n P St) (S:Addr) (hSf:S ∉ fp)
  (val:Nat→Str) (hval:∀ i v,P i v→∃ t,v = .str (val i) t) (hb:n + 1 < scanBound) :
  ∀ (k i:Nat) (s:Shared),n - i=k→i≤n→St i s →
   s.heap.SetOf (PySem.strKind prog w) S (fun k'=>(fmet val i).any (· == k')) (fmet val i).length →
   (∀ s',Moved (S :: wr) G s s'→s'.heap.SetOf (PySem.strKind prog w) S (fun k'=>(fmet val n).any (· == k')) (fmet val n).length→R (.ok (.ret .none)) s') →
   codeAny (model prog w) A (.builtin "set.update.loop" ⟨[.ref S,.ref I],[]⟩) R s:=by
 have hSw:S ∉ wr:=fun h=>hSf (W.sub _ h)
 have hsub:∀ b∈wr,b∈S :: wr:=fun b hb=>List.mem_cons_of_mem _ hb
 intro k
 induction k with
 | zero =>
  intro i s hk hi hst hS hR
  have hin:i=n:=by omega
  subst hin
  refine codeAny_builtin PyProof.Rows.F.entry_set_update_loop ?_
  rw [Around.under_plainId PyProof.Rows.F.plain_set_update_loop _]
  show wpAny _ A.in1 (pyNext (.ref I) >>= _) _ _ s
  refine wpAny_bind (W.done s _ _ hst fun s' hm=>?_)
  show wpAny _ A.in1 (ret Value.none) _ _ s'
  exact wpAny_pure (hR s' (hm.mono hsub) (by
   obtain ⟨o,es,ep,t,ho,rest⟩:=hS
   exact ⟨o,es,ep,t,hm.heap S _ hSw ho,rest⟩))
 | succ k ih =>
  intro i s hk hi hst hS hR
  have hlt:i < n:=by omega
  refine codeAny_builtin PyProof.Rows.F.entry_set_update_loop ?_
  rw [Around.under_plainId PyProof.Rows.F.plain_set_update_loop _]
  show wpAny _ A.in1 (pyNext (.ref I) >>= _) _ _ s
  refine wpAny_bind (W.item i s _ _ hlt hst fun v s' hP hst' hm=>?_)
  obtain ⟨t,rfl⟩:=hval i v hP
  have hS':s'.heap.SetOf (PySem.strKind prog w) S (fun k'=>(fmet val i).any (· == k')) (fmet val i).length:=by
   obtain ⟨o,es,ep,tb,ho,rest⟩:=hS
   exact ⟨o,es,ep,tb,hm.heap S _ hSw ho,rest⟩
  show wpAny _ A.in1 (holding [Value.str (val i) t] (setAdd S (.str (val i) t)) >>= _) _ _ s'
  refine wpAny_bind (wpAny_holding ?_)
  unfold setAdd
  refine wpAny_holding ?_
  refine wpAny_bind ((PySem.strKind prog w).pyHash (k:=val i) (strKind_is _ _ _ _) ?_)
  have hroom:(fmet val i).length + 1 < scanBound:=by have:=fmet_le val i; omega
  refine wpAny_setAddHashed_of (knd:=PySem.strKind prog w) (s:={ s' with toks:=s'.toks + 1 }) (strKind_is _ _ _ _) rfl hS' hroom fun h' hsb hS2=>?_

  have hSi:h'.SetOf (PySem.strKind prog w) S (fun k'=>(fmet val (i + 1)).any (· == k')) (fmet val (i + 1)).length :=
   SetOf_congr hS2 (fun k'=>by rw [fmet_succ,fstep_any]) (by rw [fmet_succ,fstep_len])
  refine wpAny_pure ⟨plainId_quiet PyProof.Rows.F.plain_set_update_loop _,ih (i + 1) _ (by omega) hlt (W.frame _ s' _ _ hst' (Nat.le_succ _) fun b hb o e=>?_) hSi fun s'' hm'' hS''=>?_⟩
  ·rw [hsb.2 b (fun h:b=S=>hSf (by rw [← h]; exact hb))]; exact e
  ·refine hR s'' (Moved.trans W.gtrans ((hm.mono hsub).then_heap (Nat.le_succ _) fun b o hb e=>?_) hm'') hS''
   rw [hsb.2 b (fun h:b=S=>hb (by rw [h]; exact List.mem_cons_self))]; exact e
end
theorem str_at:∀ {vs:List Value} {xs:List Str},PyProof.Rows.StrsAre vs xs→∀ (i:Nat) (v:Value),vs[i]? = some v→∃ t,v = .str (xs.getD i Str.empty) t
 | _,_,.nil,i,v,h=>by simp at h
 | _,_,.cons n t hr,0,v,h=>by simp at h; exact ⟨t,by rw [← h]; rfl⟩
 | _,_,.cons n t hr,i + 1,v,h=>by
  simp only [List.getElem?_cons_succ] at h
  obtain ⟨t',e⟩:=str_at hr i v h
  exact ⟨t',by rw [e]; rfl⟩
section
variable {prog:Program} {w:World} {A:Around} {E:Value→Shared→Prop} {s:Shared}
set_option maxHeartbeats 8000000 in
theorem set_callT {l:Addr} {items:Array Value} {xs:List Str} {Q:Value→Shared→Prop}
  (hh:A.handled=none) (hl:s.heap.IsList l items) (hi:PyProof.Rows.StrsAre items.toList xs) (hb:items.size + 1 < scanBound)
  (h:∀ (h':Heap) (tk:Nat),h'.SetOf (PySem.strKind prog w) s.heap.objs.size (fun k'=>(fmet (fun i=>xs.getD i Str.empty) items.size).any (· == k')) (fmet (fun i=>xs.getD i Str.empty) items.size).length →
   (∀ b o,b < s.heap.objs.size→s.heap.get? b=some o→h'.get? b=some o)→Q (.ref s.heap.objs.size) { s with heap:=h',toks:=tk }) :
  wpAny (model prog w) A (call (.type "set") [.ref l]) Q E s:=by
 obtain ⟨c,tl,hmro⟩:=PySem.F.called_set.mro
 have hmade:=PySem.F.called_set.made
 have hsub:=PySem.F.called_set.sub
 refine wpAny_call (codeAny_of_tree ?_)
 show wpAny _ _ (callAny (.type "set") _) _ _ _
 refine wpAny_pure ⟨Code.quiet_builtin _ (by decide +kernel),codeAny_builtin PySem.F.entry_type_call ?_⟩
 rw [Around.under_plain (weight_type_call_type "set" [.ref l] []) rfl]
 have h1:=PySem.F.called_set.notType
 have h2:=PySem.F.called_set.canCreate
 have hct:=PySem.F.typeCall_set_1 (.ref l)
 repeat (any_goals (first | assumption | wp_step))

 refine codeAny_mono (code_set_new_1 (.ref l) (E:=E) (Q₁:=fun obj s₁=>∃ led:Bool,obj = .ref s.heap.objs.size∧s₁ = { s with heap:=s.heap.push { cls := .type "set", dict:=none,data := .set #[] 0 (.fresh 0 0 led) } }) fun led=>⟨led,rfl,rfl⟩) fun r s₁ hr=>?_
 cases r with
 | error e=>exact hr
 | ok fl =>
  cases fl with
  | ret obj =>
   obtain ⟨led,rfl,rfl⟩:=hr
   have hS:(s.heap.push { cls := .type "set", dict:=none,data := .set #[] 0 (.fresh 0 0 led) }).get? s.heap.objs.size=some { cls := .type "set", dict:=none,data := .set #[] 0 (.fresh 0 0 led) }:=Heap.get?_push_size _ rfl
   have hT:Shared.TypeIs { s with heap:=s.heap.push { cls := .type "set", dict:=none,data := .set #[] 0 (.fresh 0 0 led) } } (.ref s.heap.objs.size) "set" := ⟨_,hS,rfl⟩
   have hli:=PySem.F.called_set.init.lookup
   have hbi:=PySem.F.called_set.init.bind (.ref s.heap.objs.size)
   repeat (any_goals (first | assumption | wp_step))

   refine codeAny_mono (codeAny_call_builtin (R:=wants (fun r s₂=>r = .none∧∃ h' tk,s₂ = { s with heap:=h',toks:=tk } ∧
     h'.SetOf (PySem.strKind prog w) s.heap.objs.size (fun k'=>(fmet (fun i=>xs.getD i Str.empty) items.size).any (· == k')) (fmet (fun i=>xs.getD i Str.empty) items.size).length ∧
     (∀ b o,b < s.heap.objs.size→s.heap.get? b=some o→h'.get? b=some o)) E) PySem.F.called_set.init.plain PySem.F.entry_set_init (check_set_init_1 hT ?_)) fun r₂ s₂ hr₂=>?_
   ·obtain ⟨ol,hol,hcl,nl,hdl⟩:=hl
    obtain ⟨ocls,odict,odata,oslots⟩:=ol
    simp only at hcl hdl
    subst hcl; subst hdl
    have hol':(s.heap.push { cls := .type "set", dict:=none,data := .set #[] 0 (.fresh 0 0 led) }).get? l=some { cls := .type "list", dict:=odict,data := .seq items nl,slots:=oslots }:=Heap.get?_push_of_some _ hol
    have hsls:=PySem.F.sub_list_set
    have hslf:=PySem.F.sub_list_frozenset
    have hne:(Value.type "list" == Value.type "dict")=false:=by decide
    have hl1:(s.heap.push { cls := .type "set", dict:=none,data := .set #[] 0 (.fresh 0 0 led) }).IsList l items:=⟨_,hol',rfl,nl,rfl⟩
    unfold Builtin.«set.__init__» noKeywords Builtin.Frozenset.updateFrom
    generalize hPI:pyIter=PI
    wp_walk
    subst hPI

    refine wpAny_pyIter_list hl1 ?_
    refine wpAny_bind (wpAny_runValue ?_)
    have hlS:l < s.heap.objs.size:=Heap.lt_size hol
    have hh3:A.in1.in1.in1.handled=none:=by simp [hh]
    have hneI:l ≠ (s.heap.push { cls := .type "set", dict:=none,data := .set #[] 0 (.fresh 0 0 led) }).objs.size:=by
     rw [Heap.size_push]; exact Nat.ne_of_lt (Nat.lt_succ_of_lt hlS)
    have hSf:s.heap.objs.size ∉ [(s.heap.push { cls := .type "set", dict:=none,data := .set #[] 0 (.fresh 0 0 led) }).objs.size,l]:=by
     rw [Heap.size_push]; simp only [List.mem_cons,List.mem_singleton,List.not_mem_nil,or_false,not_or]
     exact ⟨Nat.ne_of_lt (Nat.lt_succ_self _),Nat.ne_of_gt hlS⟩
    have hval:∀ (i:Nat) (v:Value),items[i]? = some v→∃ t,v = .str ((fun i=>xs.getD i Str.empty) i) t:=fun i v hv =>
     str_at hi i v (by rw [Array.getElem?_toList]; exact hv)
    refine set_loopK ((Walks.list hh3 _ l hneI items).toS) s.heap.objs.size
     hSf (fun i=>xs.getD i Str.empty) hval hb (items.size - 0) 0 _ (by omega) (Nat.zero_le _)
     ⟨⟨_,Heap.get?_push_size _ rfl,rfl,rfl⟩,(hl1.push _)⟩ ?hS0 ?hR
    case hS0 =>
     have hget:((s.heap.push { cls := .type "set", dict:=none,data := .set #[] 0 (.fresh 0 0 led) }).push { cls := .type "list_iterator", data := .fields #[.ref l,.int 0 0] }).get? s.heap.objs.size
       = some { cls := .type "set", dict:=none,data := .set #[] 0 (.fresh 0 0 led) }:=Heap.get?_push_of_some _ hS
     exact PyProof.Rows.SetOf_congr ((PyProof.Rows.setObjOf_fresh (knd:=PySem.strKind prog w) led).setOf hget (by unfold scanBound; omega)) (fun _=>rfl) rfl
    case hR =>
     intro s' hm hS'
     obtain ⟨h',g',d',tk',os'⟩:=s'
     have eg:g'=s.gens:=hm.gens
     have ed:d'=s.drawn:=hm.drawn
     have eo:os'=s.os:=hm.os
     subst eg; subst ed; subst eo
     show wpAny _ _ _ _ _ _
     refine wpAny_pure ?_
     show wpAny _ _ (ret Value.none) _ _ _
     refine wpAny_pure ⟨rfl,h',tk',rfl,hS',fun b o hb e=>?_⟩
     have hb1:b ≠ s.heap.objs.size:=Nat.ne_of_lt hb
     have hb2:b ≠ (s.heap.push { cls := .type "set", dict:=none,data := .set #[] 0 (.fresh 0 0 led) }).objs.size:=by
      rw [Heap.size_push]; exact Nat.ne_of_lt (Nat.lt_succ_of_lt hb)
     exact hm.heap b o (by simp only [List.mem_cons,List.mem_singleton,List.not_mem_nil,or_false,not_or]; exact ⟨hb1,hb2⟩) (Heap.get?_push_of_some _ (Heap.get?_push_of_some _ e))

   ·cases r₂ with
    | error e=>exact hr₂
    | ok fl₂ =>
     cases fl₂ with
     | ret r =>
      obtain ⟨rfl,h',tk,rfl,hS',hk'⟩:=hr₂
      repeat (any_goals (first | assumption | wp_step))
      exact h _ _ hS' hk'
     | _=>exact hr₂.elim
  | _=>exact hr.elim

end
theorem strs_vals:∀ {ys:List Str} {us:List Value},Vals (ys.map V.str) us→PyProof.Rows.StrsAre us ys
 | [],_,.nil => .nil
 | n :: ns,_,.cons r t=>by
  obtain ⟨k,rfl⟩:=r
  exact .cons n k (strs_vals t)
def ddT (ys:List Str):List Str:=fmet (fun i=>ys.getD i Str.empty) ys.length
def tLenSetT (K:PySem.W.Frag) (ta:TE):TE:=fun σ H Q=>ta σ H fun x H1=>∃ (l:Addr) (ys:List Str),x = .ref l∧SqL K H1 l (ys.map V.str)∧ys.length≤4000∧Q (.int ((ddT ys).length:Nat)) H1
theorem pe_lenSetT {X:Cx} {a:Expr} {ta:TE} {p p2 q pos:Pos} (hg:Gl X "len") (hm:X.mg "len" = none) (hg2:Gl X "set") (hm2:X.mg "set" = none) (ha:PE X a ta) (hc:X.calm=true:=by rfl)
  (na:starEach [a] X.env=(false,eval a X.env) :: starEach [] X.env:=by rfl):PE X (.Call (.Name "len" p) [.Call (.Name "set" p2) [a] [] q] [] pos) (tLenSetT X.K ta):=by
 refine ⟨fun pins s σ H Q I h=>?_⟩
 refine Call_ (ld_blt I hg hm boot_len ?_)
 refine PyProof.Rows.callWith_builtin1 (PyProof.Rows.args_cons ?_ rfl) rfl rfl
 refine Call_ (ld_blt I hg2 hm2 boot_set ?_)
 refine PyProof.Rows.callWith_type1 (PyProof.Rows.args_cons (thn (ha.run pins s σ H _ I h) fun v s1 ⟨x,H1,I1,r1,q1⟩=>PyProof.Rows.args_nil ?_) na) na rfl
 obtain ⟨l,ys,rfl,hq,hl,q1⟩:=q1
 cases r1
 obtain ⟨its,r,pl,hz⟩:=I1.list hq
 have hlen:its.toArray.size=ys.length:=by rw [List.size_toArray,← r.length,List.length_map]
 refine set_callT (I1.ok.hd hc) pl.isList (by simpa using strs_vals r) (by rw [hlen]; unfold scanBound; omega) fun h' tk hS hk=>?_
 refine PyProof.Rows.args_nil ?_
 rw [hlen] at hS
 obtain ⟨o,es,ep,t,ho,hex,hd,_,_,_,hf,hn⟩:=hS
 have hle:(fmet (fun i=>ys.getD i Str.empty) ys.length).length≤ys.length:=fmet_le _ _
 have I2:Inv X pins σ H1 { s1 with heap:=h',toks:=tk }:=I1.kept fun b o e=>hk b o (Heap.lt_size e) e
 exact call_len_set ho hex hd hf (by rw [hn] <;> omega) ⟨.int (ddT ys).length,H1,I2.tok _,⟨_,by rw [hn]; rfl⟩,q1⟩
theorem k_lenSetT {X:Cx} {K:PySem.W.Frag} {a:Expr} {ta:TE} {p p2 q pos:Pos} (hK:X.K=K) (hg:Gl X "len") (hm:X.mg "len" = none) (hg2:Gl X "set") (hm2:X.mg "set" = none) (ha:PE X a ta) (hc:X.calm=true:=by rfl)
  (na:starEach [a] X.env=(false,eval a X.env) :: starEach [] X.env:=by rfl):PE X (.Call (.Name "len" p) [.Call (.Name "set" p2) [a] [] q] [] pos) (tLenSetT K ta):=by subst hK; exact pe_lenSetT hg hm hg2 hm2 ha hc na
end RDT

namespace PR
abbrev Tx:=List Nat
def tx (s:String):Tx:=s.toList.map Char.toNat
def spc (c:Nat) (l:Tx):List Tx:=TL.spl [c] 0 [] l
def rpt (c:Nat):Tx→Tx × Tx × Tx
 | []=>([],[],[])
 | x :: r=>match rpt c r with
  | (_,[],q)=>if x=c then ([],[c],q) else ([],[],x :: q)
  | (p,d :: e,q)=>(x :: p,d :: e,q)
theorem rpt_none {c:Nat}:∀ {l:Tx},c ∉ l→rpt c l=([],[],l)
 | [],_=>rfl
 | x :: r,h=>by
  rw [rpt,rpt_none (fun z=>h (List.mem_cons_of_mem _ z))]
  exact if_neg fun e=>h (by rw [e]; exact List.mem_cons_self)
theorem rpt_some {c:Nat} {q:Tx} (h:c ∉ q):∀ p:Tx,rpt c (p++c :: q)=(p,[c],q)
 | []=>by
  show rpt c (c :: q)=_
  rw [rpt,rpt_none h]
  exact if_pos rfl
 | x :: p=>by
  show rpt c (x :: (p++c :: q))=_
  rw [rpt,rpt_some h p]
def firstC:Tx:=tx "abcdefghijklmnopqrstuvwxyz"
def charC:Tx:=tx "abcdefghijklmnopqrstuvwxyz0123456789"
def resv:List Tx:=["routine", "script", "given", "let", "make", "drop", "if", "else", "end", "new", "round", "tell", "call", "next", "prev", "twin", "face", "corner", "some"].map tx
def links:List Tx:=["next", "prev", "twin"].map tx
def kinds:List Tx:=["face", "corner"].map tx
def labL:List Tx:=["new", "bear", "round", "some"].map tx
def half:Tx:=tx "half"
def isWord (t:Tx):Bool:=decide (1≤t.length) && (decide (t.length≤8) && t.all fun c=>decide (c∈charC))
def isName (t:Tx):Bool:=isWord t && ((match t with | c :: _=>decide (c∈firstC) | []=>false) && !decide (t∈resv))
abbrev Path:=Tx × List Tx
def pathOf (t:Tx):Option Path:=match spc 46 t with
 | []=>none
 | n :: ls=>if isWord n=true∧ls.length≤4∧(∀ l∈ls,l∈links) then some (n,ls) else none
abbrev Side:=Tx × Path
def sideOf (t:Tx):Option Side :=
 let r:=rpt 46 t
 if r.2.1 ≠ []∧r.2.2∈kinds then (pathOf r.1).map fun p=>(r.2.2,p) else (pathOf t).map fun p=>([],p)
structure Cond where
 kind:Tx
 left:Path
 right:Path
 eq:Bool
def condOf:List Tx→Option Cond
 | [a,o,b]=>if o=tx "==" ∨ o=tx "!=" then
   match sideOf a,sideOf b with
   | some x,some y=>if x.1=y.1 then some ⟨x.1,x.2,y.2,decide (o=tx "==")⟩ else none
   | _,_=>none
  else none
 | _=>none
inductive Stm
 | rout
 | scr
 | call (x:Tx) (hs nw:List Tx)
 | given (c:Cond)
 | iff (c:Cond) (to:Option Nat)
 | els (to:Option Nat)
 | fin
 | let_ (x:Tx) (p:Path)
 | take (x k:Tx) (p:Path)
 | make (x y:Tx)
 | drop (x:Tx) (k:Option Tx)
 | new (k x:Tx)
 | link (x f v:Tx)
 | bear (x f v:Tx)
 | round (x f v:Tx)
 | some_ (x:Tx) (k:Option Tx) (v:Tx)
 | tell (xs:List Tx)
structure Form where
 stm:Stm
 uses:List (Tx × Tx)
 bound:List (Tx × Tx)
def Form.good (f:Form):Bool:=decide ((∀ b∈f.bound,isName b.1=true)∧(f.bound.map Prod.fst).Nodup∧∀ u∈f.uses,isWord u.1=true)
def letF:List Tx→Option Form
 | [_,x,e,s]=>if e=tx "=" then (sideOf s).map fun d=>if d.1=[] then ⟨.let_ x d.2,[(d.2.1,half)],[(x,half)]⟩ else ⟨.take x d.1 d.2,[(d.2.1,half)],[(x,d.1)]⟩ else none
 | _=>none
def writeF (w v:Tx):Option Form :=
 let r:=rpt 46 w
 if r.2.2=tx "next" ∨ r.2.2=tx "prev" then some ⟨.link r.1 r.2.2 v,[(r.1,half),(v,half)],[]⟩
 else if r.2.2∈kinds then some ⟨.bear r.1 r.2.2 v,[(r.1,half),(v,r.2.2)],[]⟩
 else if r.2.2=tx "some" then some ⟨.some_ r.1 none v,[(r.1,tx "label"),(v,half)],[]⟩
 else none
def roundF:List Tx→Option Form
 | [_,w,e,v]=>let r:=rpt 46 w
  if e=tx "=" ∧ r.2.2∈kinds then some ⟨.round r.1 r.2.2 v,[(r.1,half),(v,r.2.2)],[]⟩ else none
 | _=>none
def condF (h:Tx) (ws:List Tx):Option Form:=(condOf ws).map fun c=>⟨if h=tx "given" then .given c else .iff c none,[(c.left.1,half),(c.right.1,half)],[]⟩
def tellF (ws:List Tx):Option Form:=if 1≤ws.length∧ws.length≤3 then some ⟨.tell ws,ws.map fun x=>(x,half),[]⟩ else none
def fw8 (h:Tx) (ws:List Tx):Option Form:=if ws.length=2∧ws.getD 0 []=tx "=" then writeF h (ws.getD 1 []) else none
def fw7 (line h:Tx) (ws:List Tx):Option Form:=if line=tx "else" then some ⟨.els none,[],[]⟩ else if line=tx "end" then some ⟨.fin,[],[]⟩ else fw8 h ws
def fw6 (line h:Tx) (ws:List Tx):Option Form:=if h=tx "new" ∧ ws.length=2∧ws.getD 0 []∈kinds then some ⟨.new (ws.getD 0 []) (ws.getD 1 []),[],[(ws.getD 1 [],ws.getD 0 [])]⟩ else fw7 line h ws
def fw5 (line h:Tx) (ws:List Tx):Option Form:=if h=tx "drop" ∧ ws.length=1 then some ⟨.drop (ws.getD 0 []) none,[(ws.getD 0 [],tx "any")],[]⟩ else fw6 line h ws
def fw4 (line h:Tx) (ws:List Tx):Option Form:=if h=tx "make" ∧ ws.length=2 then some ⟨.make (ws.getD 0 []) (ws.getD 1 []),[],[(ws.getD 0 [],half),(ws.getD 1 [],half)]⟩ else fw5 line h ws
def fw3 (line h:Tx) (ws:List Tx):Option Form:=if h=tx "tell" then tellF ws else fw4 line h ws
def fw2 (line h:Tx) (ws:List Tx):Option Form:=if h=tx "round" then roundF (h :: ws) else fw3 line h ws
def fw1 (line h:Tx) (ws:List Tx):Option Form:=if h=tx "let" then letF (h :: ws) else fw2 line h ws
def fw0 (line h:Tx) (ws:List Tx):Option Form:=if h=tx "given" ∨ h=tx "if" then condF h ws else fw1 line h ws
def formW (line:Tx):List Tx→Option Form
 | []=>none
 | h :: ws=>fw0 line h ws
def formOf (line:Tx):Option Form:=formW line (spc 32 line)
def rightK (k need:Tx):Bool:=if need=tx "label" then decide (k∈kinds) else decide (need=k∨need=tx "any")
def firstL (line word:Tx):Option (List Tx):=match spc 32 line with
 | []=>none
 | h :: ns=>if h=word∧2≤ns.length∧ns.length≤4∧(∀ n∈ns,isName n=true)∧(ns.drop 1).Nodup then some ns else none
abbrev Scope:=List (Tx × Tx)
def kindIn (s:Scope) (x:Tx):Option Tx:=(s.find? fun e=>decide (e.1=x)).map (·.2)
def kindOf:List Scope→Tx→Option Tx
 | [],_=>none
 | s :: r,x=>match kindIn s x with
  | some k=>some k
  | none=>kindOf r x
inductive Err
 | bad (n:Nat)
 | unk (n:Nat) (x:Tx)
 | knd (n:Nat) (x:Tx)
def check (sc:List Scope) (n:Nat):List (Tx × Tx)→Option Err
 | []=>none
 | u :: r=>match kindOf sc u.1 with
  | none=>some (.unk n u.1)
  | some k=>if rightK k u.2=true then check sc n r else some (.knd n u.1)
def isFree (sc:List Scope) (f:Form):Bool:=f.bound.all fun b=>(kindOf sc b.1).isNone
structure Rdr where
 stms:List Stm
 blocks:List (Nat × Bool)
 lab:Bool
 scopes:List Scope
def headS:Stm→String
 | .rout => "routine"
 | .scr => "script"
 | .call _ _ _ => "call"
 | .given _ => "given"
 | .iff _ _ => "if"
 | .els _ => "else"
 | .fin => "end"
 | .let_ _ _ => "let"
 | .take _ _ _ => "take"
 | .make _ _ => "make"
 | .drop _ _ => "drop"
 | .new _ _ => "new"
 | .link _ _ _ => "link"
 | .bear _ _ _ => "bear"
 | .round _ _ _ => "round"
 | .some_ _ _ _ => "some"
 | .tell _ => "tell"
def isLab:Stm→Bool
 | .new _ _ | .bear _ _ _ | .round _ _ _ | .some_ _ _ _=>true
 | _=>false
def mayStand (r:Rdr) (n at_:Nat):Stm→Bool
 | .given _=>match r.stms.getLast? with
  | some .rout=>true
  | some (.given _)=>true
  | _=>false
 | .tell _=>decide (at_ + 1=n) && r.blocks.isEmpty
 | .els _=>match r.blocks.getLast? with
  | some b=>!b.2
  | none=>false
 | .fin=>!r.blocks.isEmpty
 | .iff c _=>decide (r.blocks.length < 3) && ((decide (c.kind=[]) && (c.left.2.isEmpty && c.right.2.isEmpty)) || !r.lab)
 | .drop _ _=>true
 | s=>isLab s || !r.lab
def resolve (sc:List Scope):Stm→Stm
 | .drop x _ => .drop x (kindOf sc x)
 | .some_ x _ v => .some_ x (kindOf sc x) v
 | s=>s
def retarget (k:Nat):Stm→Stm
 | .iff c _ => .iff c (some k)
 | .els _ => .els (some k)
 | s=>s
def labels:Stm→Bool
 | .drop _ k=>decide (k ≠ some half)
 | s=>isLab s
def add (r:Rdr) (at_:Nat) (s:Stm):Rdr :=
 let lab:=r.lab || labels s
 let stms:=r.stms++[s]
 match s with
 | .iff _ _=>⟨stms,r.blocks++[(at_,false)],lab,r.scopes++[[]]⟩
 | .els _=>⟨stms.modify ((r.blocks.getLast?.getD (0,false)).1) (retarget (at_ + 1)),r.blocks.dropLast++[(at_,true)],lab,r.scopes.dropLast++[[]]⟩
 | .fin=>⟨stms.modify ((r.blocks.getLast?.getD (0,false)).1) (retarget at_),r.blocks.dropLast,lab,r.scopes.dropLast⟩
 | _=>⟨stms,r.blocks,lab,r.scopes⟩
def bindS (sc:List Scope) (b:List (Tx × Tx)):List Scope:=sc.dropLast++[sc.getLast?.getD []++b]
def isDropH (lab:Bool):Stm→Bool
 | .drop _ k=>decide (k=some half) && lab
 | _=>false
def readLine (r:Rdr) (n off at_:Nat) (line:Tx):Except Err Rdr :=
 match formOf line with
 | none => .error (.bad (off + at_ + 1))
 | some f =>
  if (decide (60 < at_) || (!f.good || (!mayStand r n at_ f.stm || !isFree r.scopes f)))=true then .error (.bad (off + at_ + 1))
  else match check r.scopes (off + at_ + 1) f.uses with
   | some e => .error e
   | none =>
    if isDropH r.lab (resolve r.scopes f.stm)=true then .error (.bad (off + at_ + 1))
    else let r2:=add r at_ (resolve r.scopes f.stm); .ok { r2 with scopes:=bindS r2.scopes f.bound }
def readLines (n off:Nat):Nat→Rdr→List Tx→Except Err Rdr
 | _,r,[] => .ok r
 | at_,r,l :: ls=>match readLine r n off at_ l with
  | .error e => .error e
  | .ok r2=>readLines n off (at_ + 1) r2 ls
structure Rt where
 names:List Tx
 told:List Tx
 lines:List Tx
 stms:List Stm
def toldOf:List Stm→List Tx:=fun l=>match l.getLast? with
 | some (.tell xs)=>xs
 | _=>[]
def read (lines:List Tx) (off:Nat):Except Err Rt:=match lines with
 | [] => .error (.bad (off + 1))
 | l :: ls=>match firstL l (tx "routine") with
  | none => .error (.bad (off + 1))
  | some names=>match readLines lines.length off 1 ⟨[.rout],[],false,[(names.drop 1).map fun x=>(x,half)]⟩ ls with
   | .error e => .error e
   | .ok r=>if r.blocks.isEmpty=true then .ok ⟨names,toldOf r.stms,lines,r.stms⟩ else .error (.bad (off + lines.length + 1))
def readRoutine (t:Tx):Except Err Rt:=read (spc 10 t) 0
end PR

namespace RD
open PySem PySem.Spec PyProof.Rows L2 SX PR
theorem lit (s:String):Str.ofString s=S (tx s):=TL.ext_tl (TL.tl_ofString s)
theorem eqV_str (a b:Str):eqV (.str a) (.str b)=decide (a=b):=by
 show (a == b)=_
 by_cases h:a=b
 ·subst h; simp
 ·simp [h]
theorem in_txs (t:Tx):∀ ls:List Tx,inV (vst t) (vsts ls)=decide (t∈ls)
 | []=>rfl
 | a :: ls=>by
  have ih:=in_txs t ls
  unfold inV vsts at ih ⊢
  rw [List.map_cons,List.any_cons,ih]
  have e:eqV (vst a) (vst t)=decide (a=t):=by
   show eqV (.str (S a)) (.str (S t))=_
   rw [eqV_str,dstr]
  rw [e]
  by_cases h:a=t
  ·subst h; simp
  ·have:¬ t=a:=fun z=>h z.symm
   simp [h,this]
theorem flat_txs (ls:List Tx):(vsts ls).all flatV=true:=by
 rw [List.all_eq_true]
 intro x hx
 unfold vsts at hx
 obtain ⟨l,_,rfl⟩:=List.mem_map.mp hx
 rfl
theorem pre1 {c:Nat} {l:Tx} {i:Nat}:TL.pre [c] (l.drop i)=true↔l[i]? = some c:=by
 unfold TL.pre
 have e:l[i]? = (l.drop i)[0]? := by rw [List.getElem?_drop,Nat.add_zero]
 rw [e]
 cases l.drop i with
 | nil=>simp
 | cons a r=>simp
theorem rpartition_S (x:Tx) (c:Nat):Txt.rpartition (S x) (S [c])=(S (rpt c x).1,S (rpt c x).2.1,S (rpt c x).2.2):=by
 have hy:TL.tl (S [c]) ≠ []:=by
  show [c] ≠ []
  simp
 have ai:∀ i,StrLaws.At (S x) (S [c]) (S x).length i↔x[i]? = some c:=fun i=>by
  rw [TL.at_iff hy i]
  exact pre1
 unfold Txt.rpartition
 rcases StrLaws.last_spec (S x) (S [c]) with ⟨e,hn⟩ | ⟨i,e,hi,hk⟩
 ·rw [e,rpt_none (c:=c) (l:=x) (fun hm=>by
   obtain ⟨i,hi,he⟩:=List.getElem_of_mem hm
   exact hn i ((ai i).mpr (by rw [List.getElem?_eq_getElem hi,he])))]
  rfl
 ·rw [e]
  have h1:=(ai i).mp hi
  obtain ⟨hlt,he⟩:=List.getElem?_eq_some_iff.mp h1
  have hx:x=x.take i++c :: x.drop (i + 1):=by
   rw [← he,← List.drop_eq_getElem_cons hlt,List.take_append_drop]
  have hq:c ∉ x.drop (i + 1):=fun hm=>by
   obtain ⟨j,hj,hje⟩:=List.getElem_of_mem hm
   rw [List.getElem_drop] at hje
   rw [List.length_drop] at hj
   exact hk (i + 1 + j) (by omega) ((ai _).mpr (by rw [List.getElem?_eq_getElem (by omega),hje]))
  have er:rpt c x=(x.take i,[c],x.drop (i + 1)):=by
   have:=rpt_some hq (x.take i)
   rw [← hx] at this
   exact this
  rw [er]
  refine Prod.ext ?_ (Prod.ext rfl ?_)
  ·refine TL.ext_tl ?_
   show TL.tl (Builtin.Str.strSub (S x) 0 i)=x.take i
   rw [TL.tl_strSub]
   show List.take (i - 0) (List.drop 0 x)=_
   rw [Nat.sub_zero,List.drop_zero]
  ·refine TL.ext_tl ?_
   show TL.tl (Builtin.Str.strSub (S x) (i + (S [c]).length) (S x).length)=x.drop (i + 1)
   rw [TL.tl_strSub,S_len,S_len]
   show List.take (x.length - (i + 1)) (List.drop (i + 1) x)=_
   exact List.take_of_length_le (by rw [List.length_drop]; exact Nat.le_refl _)
section
variable {σ : L2.St} {H:Hp} {Q:VK} {QB:Bool→Hp→Prop} {nx bk ct:L2.St→Hp→Prop} {rt:VK} {te to:TE} {t:TS} {K:PySem.W.Frag}
theorem inT {a:Addr} {x:Tx} {ls:List Tx} (h:SqT K H a (vsts ls)) (q:Q (.bl (decide (x∈ls))) H):rIn K false (vst x) (.ref a) H Q:=⟨a,_,rfl,.inr h,rfl,flat_txs ls,by rw [in_txs]; exact q⟩
theorem ninT {a:Addr} {x:Tx} {ls:List Tx} (h:SqT K H a (vsts ls)) (q:Q (.bl (!decide (x∈ls))) H):rIn K true (vst x) (.ref a) H Q:=⟨a,_,rfl,.inr h,rfl,flat_txs ls,by rw [in_txs]; exact q⟩
theorem inLt {a:Addr} {x:Tx} {ls:List Tx} (h:SqL K H a (vsts ls)) (q:Q (.bl (decide (x∈ls))) H):rIn K false (vst x) (.ref a) H Q:=⟨a,_,rfl,.inl h,rfl,flat_txs ls,by rw [in_txs]; exact q⟩
theorem cstT {s:String} (h:Q (vst (tx s)) H):tC (.str (Str.ofString s)) σ H Q:=by
 show Q (.str (Str.ofString s)) H
 rw [lit]
 exact h
instance i_cstT {s:String}:RD.W1 (tC (.str (Str.ofString s)) σ H Q) (Q (vst (tx s)) H):=⟨fun h=>cstT h⟩
theorem eqTx {a b:Tx} (q:Q (.bl (decide (a=b))) H):rEq (vst a) (vst b) H Q:=eqS (by rw [dstr]; exact q)
instance i_eqTx {a b:Tx}:RD.W1 (rEq (vst a) (vst b) H Q) (Q (.bl (decide (a=b))) H):=⟨fun h=>eqTx h⟩
theorem neTx {a b:Tx} (q:Q (.bl (!decide (a=b))) H):rNe (vst a) (vst b) H Q:=neS (by rw [dstr]; exact q)
instance i_neTx {a b:Tx}:RD.W1 (rNe (vst a) (vst b) H Q) (Q (.bl (!decide (a=b))) H):=⟨fun h=>neTx h⟩
theorem truTs {a:Addr} {xs:List V} {P:Bool→Prop} (h:SqT K H a xs) (q:P (!xs.isEmpty)):∃ k,TruV K (.ref a) H k∧P k:=⟨_,.inr (.inl ⟨_,h,rfl⟩),q⟩
theorem truSx {x:Tx} {P:Bool→Prop} (hl:x.length≤1000000) (q:P (!x.isEmpty)):∃ k,TruV K (vst x) H k∧P k:=by
 refine ⟨!x.isEmpty,⟨by rw [S_len]; exact Nat.le_trans hl (by decide),?_⟩,q⟩
 rw [S_len]
 cases x with
 | nil=>rfl
 | cons c r =>
  show true=_
  rw [List.length_cons]
  have:(((r.length + 1:Nat):Int) != 0)=true:=by
   rw [bne_iff_ne]
   omega
  exact this.symm
theorem truS0 {P:Bool→Prop} (q:P false):∃ k,TruV K (vst []) H k∧P k:=truSx (by simp) q
theorem truS1 {c:Nat} {r:Tx} {P:Bool→Prop} (hl:(c :: r).length≤1000000) (q:P true):∃ k,TruV K (vst (c :: r)) H k∧P k:=truSx hl q
theorem lcS {g:TG} {tt:TT} {vs:List Nat} {l:Tx} (hz:l.length≤1000000) (p:Nat→Bool) (f:Nat→V)
  (turn:∀ (i:Nat) c H1 (Q':VK) (R':Hp→Prop),l[i]? = some c→Same H H1→(p c=true→∀ H4,Same H1 H4→Q' (f c) H4)→(p c=false→∀ H4,Same H1 H4→R' H4) →
   g (vst [c]) (wipe σ vs) H1 fun σ2 H3=>wipe σ2 vs=wipe σ vs∧tt σ2 H3 fun b H5=>if b=true then te σ2 H5 Q' else R' H5)
  (hd:∀ H' q,H q=none→Same H H'→H' q=some (.lst (pick p f l))→Q (.ref q) H') :
  ∃ z,vst l = .str z∧LR (Its z) g tt te vs σ H Q:=by
 have e:(S l).cps.size=l.length:=by simp
 refine ⟨S l,rfl,lcAny (walk_str (z:=S l)) l e.symm (by rw [e]; exact Nat.le_trans hz (by decide)) p f trivial (fun _ _=>trivial) (fun i H1 x H2 s y=>?_) (fun i b x H1 H2 Q' R' hb s y kT kF=>?_) hd⟩
 ·obtain ⟨rfl,_⟩:=y
  exact Same.refl _
 ·obtain ⟨e2,c,hc,rfl⟩:=y
  subst e2
  have hc':l[i]? = some c:=by rw [← hc]; simp
  rw [hc'] at hb
  cases hb
  exact turn i b _ Q' R' hc' s kT kF
theorem lcTx {g:TG} {tt:TT} {vs:List Nat} {a:Addr} {ls:List Tx} (hq:SqL K H a (vsts ls)) (hz:ls.length≤1000000) (p:Tx→Bool) (f:Tx→V)
  (turn:∀ (i:Nat) x H1 (Q':VK) (R':Hp→Prop),ls[i]? = some x→Same H H1→(p x=true→∀ H4,Same H1 H4→Q' (f x) H4)→(p x=false→∀ H4,Same H1 H4→R' H4) →
   g (vst x) (wipe σ vs) H1 fun σ2 H3=>wipe σ2 vs=wipe σ vs∧tt σ2 H3 fun b H5=>if b=true then te σ2 H5 Q' else R' H5)
  (hd:∀ H' q,H q=none→Same H H'→H' q=some (.lst (pick p f ls))→Q (.ref q) H') :
  ∃ a',V.ref a = .ref a'∧(∃ ys,SqL K H a' ys)∧LR (Itl K a') g tt te vs σ H Q:=by
 refine ⟨a,rfl,⟨_,hq⟩,lcAny (walk_list (K:=K) (a:=a) (xs:=vsts ls)) ls (vsts_len ls).symm (by rw [vsts_len]; exact Nat.le_trans hz (by decide)) p f hq (fun H' s=>s.seq hq) (fun i H1 x H2 s y=>?_) (fun i b x H1 H2 Q' R' hb s y kT kF=>?_) hd⟩
 ·obtain ⟨rfl,_⟩:=y
  exact Same.refl _
 ·obtain ⟨rfl,y⟩:=y
  obtain ⟨l,e1,rfl⟩:=of_vsts y
  rw [e1] at hb
  cases hb
  exact turn i b _ Q' R' e1 s kT kF
theorem lenTx {x:Tx} (h:x.length≤1000000) (q:Q (.int (x.length:Nat)) H):rLenS [vst x] H Q:=lenS (by rw [S_len]; exact Nat.le_trans h (by decide)) (by rw [S_len]; exact q)
theorem rpl {x:Tx} {c:Nat} (h:x.length≤1000000) (q:∀ p,H p=none→Q (.ref p) (upd H p (.tup [vst (rpt c x).1,vst (rpt c x).2.1,vst (rpt c x).2.2]))):rRpart (vst x) [vst [c]] H Q:=by
 refine ⟨S x,S [c],rfl,rfl,rfl,by rw [S_len]; exact Nat.le_trans h (by decide),fun p np=>?_⟩
 rw [rpartition_S]
 exact q p np
theorem gst {a:Addr} {i j:Nat} {n:Tx} {ls:List Tx} {QG:L2.St→Hp→Prop} (h:SqL K H a (vsts (n :: ls))) (hl:ls.length≤16000) (q:∀ D,H D=none→gName i (vst n) σ (upd H D (.lst (vsts ls))) fun σ1 H1=>gName j (.ref D) σ1 H1 QG) :
  gStar K (gCons (gName i) (gCons (gName j) gNil)) (.ref a) σ H QG :=
 ⟨a,vst n,vsts ls,rfl,.inl h,by rw [vsts_len]; exact hl,fun D nD=>⟨vst n,[.ref D],rfl,.ref D,[],rfl,rfl,q D nD⟩⟩
end
theorem tdot:tx "." = [46]:=by decide +kernel
theorem tspc:tx " " = [32]:=by decide +kernel
theorem tnl:tx "\n" = [10]:=by decide +kernel
theorem temp:tx "" = []:=by decide +kernel
theorem spl1 {c:Nat}:∀ (l acc:Tx),(TL.spl [c] 0 acc l).length≤l.length + 1∧TL.spl [c] 0 acc l ≠ []∧∀ p∈TL.spl [c] 0 acc l,p.length≤acc.length + l.length
 | [],acc=>by
  rw [TL.spl_nil]
  refine ⟨Nat.le_refl _,by simp,fun p hp=>?_⟩
  rw [List.mem_singleton.mp hp]
  exact Nat.le_refl _
 | x :: r,acc=>by
  cases h:TL.pre [c] (x :: r) with
  | true =>
   rw [TL.spl_hit h]
   have ih:=spl1 (c:=c) r []
   refine ⟨Nat.succ_le_succ ih.1,by simp,fun p hp=>?_⟩
   rcases List.mem_cons.mp hp with e | hp
   ·rw [e,List.length_cons]; omega
   ·have:=ih.2.2 p hp
    rw [List.length_nil] at this
    rw [List.length_cons]; omega
  | false =>
   rw [TL.spl_miss h]
   have ih:=spl1 (c:=c) r (acc++[x])
   refine ⟨Nat.le_succ_of_le ih.1,ih.2.1,fun p hp=>?_⟩
   have:=ih.2.2 p hp
   rw [List.length_append,List.length_singleton] at this
   rw [List.length_cons]; omega
theorem spc_cnt (c:Nat) (t:Tx):(spc c t).length≤t.length + 1:=(spl1 t []).1
theorem spc_ne (c:Nat) (t:Tx):spc c t ≠ []:=(spl1 t []).2.1
theorem spc_len (c:Nat) (t p:Tx) (h:p∈spc c t):p.length≤t.length:=by
 have:=(spl1 t []).2.2 p h
 rw [List.length_nil,Nat.zero_add] at this
 exact this
theorem rpt_len (c:Nat):∀ t:Tx,(rpt c t).1.length≤t.length∧(rpt c t).2.1.length≤t.length∧(rpt c t).2.2.length≤t.length
 | []=>⟨Nat.le_refl _,Nat.le_refl _,Nat.le_refl _⟩
 | x :: r=>by
  have ih:=rpt_len c r
  rw [rpt]
  revert ih
  rcases rpt c r with ⟨p,d,q⟩
  intro ih
  cases d with
  | nil =>
   by_cases h:x=c
   ·simp only [h,if_true,List.length_cons,List.length_nil] at ih ⊢
    omega
   ·simp only [h,if_false,List.length_cons,List.length_nil] at ih ⊢
    omega
  | cons d e =>
   simp only [List.length_cons] at ih ⊢
   omega
theorem fold_le:∀ (ys acc:List Str),(ys.foldl RDT.fstep acc).length≤acc.length + ys.length
 | [],acc=>Nat.le_refl _
 | y :: ys,acc=>by
  have ih:=fold_le ys (RDT.fstep acc y)
  rw [RDT.fstep_len] at ih
  rw [List.foldl_cons,List.length_cons]
  split at ih <;> omega
theorem fold_eq:∀ (ys acc:List Str),(ys.foldl RDT.fstep acc).length=acc.length + ys.length↔(ys.Nodup∧∀ y∈ys,y ∉ acc)
 | [],acc=>by simp
 | y :: ys,acc=>by
  rw [List.foldl_cons,List.length_cons]
  by_cases h:acc.any (· == y)=true
  ·have e:RDT.fstep acc y=acc:=if_pos h
   rw [e]
   have:=fold_le ys acc
   have hm:y∈acc:=by
    obtain ⟨z,hz,he⟩:=List.any_eq_true.mp h
    rw [← eq_of_beq he]
    exact hz
   constructor
   ·intro z; omega
   ·intro z; exact absurd hm (z.2 y List.mem_cons_self)
  ·have e:RDT.fstep acc y=acc++[y]:=if_neg h
   have hm:y ∉ acc:=fun z=>h (List.any_eq_true.mpr ⟨y,z,beq_self_eq_true y⟩)
   rw [e]
   have ih:=fold_eq ys (acc++[y])
   rw [List.length_append,List.length_singleton] at ih
   rw [show acc.length + (ys.length + 1)=acc.length + 1 + ys.length by omega,ih,List.nodup_cons]
   constructor
   ·rintro ⟨h1,h2⟩
    refine ⟨⟨fun z=>h2 y z (by simp),h1⟩,fun x hx=>?_⟩
    rcases List.mem_cons.mp hx with rfl | hx
    ·exact hm
    ·exact fun z=>h2 x hx (List.mem_append_left _ z)
   ·rintro ⟨⟨h1,h2⟩,h3⟩
    refine ⟨h2,fun x hx z=>?_⟩
    rcases List.mem_append.mp z with z | z
    ·exact h3 x (List.mem_cons_of_mem _ hx) z
    ·rw [List.mem_singleton.mp z] at hx
     exact h1 hx
theorem ddT_fold (ys:List Str):RDT.ddT ys=ys.foldl RDT.fstep []:=by
 unfold RDT.ddT RDT.fmet
 congr 1
 apply List.ext_getElem?
 intro i
 rw [List.getElem?_map]
 by_cases h:i < ys.length
 ·rw [List.getElem?_range h,List.getElem?_eq_getElem h]
  show some (ys.getD i Str.empty)=_
  rw [List.getD_eq_getElem?_getD,List.getElem?_eq_getElem h]
  rfl
 ·rw [List.getElem?_eq_none (by rw [List.length_range]; omega),List.getElem?_eq_none (by omega)]
  rfl
theorem nodup_S {ls:List Tx}:(ls.map S).Nodup↔ls.Nodup:=by
 constructor
 ·intro h
  exact List.Pairwise.imp (fun {a b} hab z=>hab (congrArg S z)) (List.pairwise_map.mp h)
 ·intro h
  exact List.pairwise_map.mpr (List.Pairwise.imp (fun {a b} hab z=>hab (S_inj z)) h)
theorem dd_lt (ls:List Tx):decide (((RDT.ddT (ls.map S)).length:Int) < ((ls.length:Nat):Int)) = !decide ls.Nodup:=by
 rw [ddT_fold]
 have h1:=fold_le (ls.map S) []
 have h2:=fold_eq (ls.map S) []
 rw [List.length_nil,Nat.zero_add,List.length_map] at h1 h2
 by_cases h:ls.Nodup
 ·have:=h2.mpr ⟨nodup_S.mpr h,fun _ _=>by simp⟩
  rw [decide_eq_true h,decide_eq_false (by omega)]
  rfl
 ·have hne:((ls.map S).foldl RDT.fstep []).length ≠ ls.length:=fun z=>h (nodup_S.mp (h2.mp z).1)
  rw [decide_eq_false h,decide_eq_true (by omega)]
  rfl
theorem lst_set {K:PySem.W.Frag} {ta:TE} {σ : L2.St} {H:Hp} {Q:VK} (h:ta σ H fun x H1=>∃ (l:Addr) (ys:List Str),x = .ref l∧SqL K H1 l (ys.map V.str)∧ys.length≤4000∧Q (.int ((RDT.ddT ys).length:Nat)) H1):RDT.tLenSetT K ta σ H Q:=h
instance i_lst_set {K:PySem.W.Frag} {ta:TE} {σ : L2.St} {H:Hp} {Q:VK}:RD.W1 (RDT.tLenSetT K ta σ H Q) (ta σ H fun x H1=>∃ (l:Addr) (ys:List Str),x = .ref l∧SqL K H1 l (ys.map V.str)∧ys.length≤4000∧Q (.int ((RDT.ddT ys).length:Nat)) H1):=⟨fun h=>lst_set h⟩
theorem paired_at {α β : Type} {R : α→β→Prop}:∀ {l:List α} {m:List β} {i:Nat} {a : α} {b : β},Paired R l m→l[i]? = some a→m[i]? = some b→R a b
 | _,_,0,_,_,.cons r _,h1,h2=>by cases h1; cases h2; exact r
 | _,_,i + 1,_,_,.cons _ t,h1,h2=>paired_at t h1 h2
theorem paired_len {α β : Type} {R : α→β→Prop}:∀ {l:List α} {m:List β},Paired R l m→l.length=m.length
 | _,_,.nil=>rfl
 | _,_,.cons _ t=>congrArg Nat.succ (paired_len t)
end RD

namespace RD
open PySem PySem.Spec PyProof.Rows L2 SX PR Pf
def kvT (e:Tx × Tx):Key × V:=(Sum.inr (S e.1),vst e.2)
theorem val_kvT (x:Tx):∀ s:List (Tx × Tx),valV (s.map kvT) (Sum.inr (S x):Key)=(kindIn s x).map vst
 | []=>rfl
 | e :: s=>by
  rw [List.map_cons]
  unfold kindIn
  by_cases h:e.1=x
  ·rw [List.find?_cons_of_pos (by simpa using h)]
   rw [valV_pos (p:=kvT e) (by show Sum.inr (S e.1)=_; rw [h])]
   rfl
  ·rw [List.find?_cons_of_neg (by simpa using h),valV_neg (fun z=>h (S_inj (Sum.inr.inj z))),val_kvT x s]
   rfl
def DR (J:It) (g:TG) (tt:TT) (tk tv:TE) (vs:List Nat) (σ : L2.St) (H1:Hp) (Q:VK):Prop:=∀ D,H1 D=none→∃ W:Nat→Nat→Hp→Prop,(∃ m,W 0 m (upd H1 D (.dK [])))∧∀ i m H,W i m H →
 (J.stop i H∧Q (.ref D) H)∨(J.go i H∧∃ Nx:Hp→Prop,(∀ H',Nx H'→∃ m',m' < m∧W (i + 1) m' H')∧∀ x H',J.yld i H x H'→g x (wipe σ vs) H' fun σ2 H2=>wipe σ2 vs=wipe σ vs∧tt σ2 H2 fun b H3 =>
  if b=true then tk σ2 H3 fun y H4=>tv σ2 H4 fun z H5=>∃ kvs k,y=kV k∧H5 D=some (.dK kvs)∧kvs.length < sizeLine∧Nx (upd H5 D (.dK (putK kvs k z))) else Nx H3)
theorem dc_ {wi:TI} {g:TG} {tt:TT} {tk tv:TE} {vs:List Nat} {σ : L2.St} {H:Hp} {Q:VK} (h:wi σ H fun J H1=>DR J g tt tk tv vs σ H1 Q):tDc wi g tt tk tv vs σ H Q:=h
instance i_dc_ {wi:TI} {g:TG} {tt:TT} {tk tv:TE} {vs:List Nat} {σ : L2.St} {H:Hp} {Q:VK}:RD.W1 (tDc wi g tt tk tv vs σ H Q) (wi σ H fun J H1=>DR J g tt tk tv vs σ H1 Q):=⟨fun h=>dc_ h⟩
theorem new_kvT {s:List (Tx × Tx)} {x:Tx} (h:x ∉ s.map Prod.fst):valV (s.map kvT) (Sum.inr (S x):Key)=none:=by
 rw [val_kvT]
 unfold kindIn
 rw [List.find?_eq_none.mpr]
 ·rfl
 ·intro e he z
  exact h (List.mem_map.mpr ⟨e,he,of_decide_eq_true z⟩)
theorem dcTx {g:TG} {tt:TT} {tk tv:TE} {vs:List Nat} {σ : L2.St} {H:Hp} {Q:VK} {K:PySem.W.Frag} {a:Addr} {ls:List Tx} (val:Tx) (hq:SqL K H a (vsts ls)) (hz:ls.length≤10000) (hk:ls.Nodup)
  (turn:∀ (j:Nat) (x:Tx) (H1:Hp) (X:V→V→Hp→Prop) (R':Hp→Prop),ls[j]? = some x→X (vst x) (vst val) H1 →
   g (vst x) (wipe σ vs) H1 fun σ2 H2=>wipe σ2 vs=wipe σ vs∧tt σ2 H2 fun b H3=>if b=true then tk σ2 H3 fun y H4=>tv σ2 H4 fun z H5=>X y z H5 else R' H3)
  (q:∀ D,H D=none→Q (.ref D) (upd H D (.dK ((ls.map fun x=>(x,val)).map kvT)))):∃ a',V.ref a = .ref a'∧(∃ ys,SqL K H a' ys)∧DR (Itl K a') g tt tk tv vs σ H Q:=by
 refine ⟨a,rfl,⟨_,hq⟩,fun D hD=>?_⟩
 have w:=walk_list (K:=K) (a:=a) (xs:=vsts ls)
 rw [vsts_len] at w
 refine ⟨fun j m H'=>m=ls.length - j∧j≤ls.length∧H'=upd H D (.dK (((ls.take j).map fun x=>(x,val)).map kvT)),⟨ls.length,by simp,Nat.zero_le _,rfl⟩,?_⟩
 rintro j m H' ⟨rfl,hj,rfl⟩
 have hs:∀ o,SqL K (upd H D o) a (vsts ls):=fun o=>(same_new hD).seq hq
 rcases Nat.lt_or_ge j ls.length with hl | hl
 ·have hp:ls[j]? = some ls[j]:=List.getElem?_eq_getElem hl
  refine .inr ⟨w.goes j _ hl (hs _),fun H2=>H2=upd H D (.dK (((ls.take (j + 1)).map fun x=>(x,val)).map kvT)),fun H2 e=>⟨ls.length - (j + 1),by omega,rfl,by omega,e⟩,fun x H2 yy=>?_⟩
  obtain ⟨rfl,y⟩:=w.yields j _ x H2 hl (hs _) yy
  clear yy
  rw [vsts_at hp] at y
  cases y
  refine turn j ls[j] _ _ _ hp ⟨_,Sum.inr (S ls[j]),rfl,upd_same,by rw [List.length_map,List.length_map,List.length_take]; exact szt (by omega),?_⟩
  have tk1:=RD.take_one hp
  have hnew:ls[j] ∉ ((ls.take j).map fun x=>(x,val)).map Prod.fst:=by
   rw [List.map_map]
   have e:(ls.take j).map (Prod.fst ∘ fun x=>(x,val))=ls.take j:=by
    rw [show (Prod.fst ∘ fun x:Tx=>(x,val))=id from rfl,List.map_id]
   rw [e]
   have hn2:(ls.take (j + 1)).Nodup:=hk.sublist (List.take_sublist _ _)
   rw [tk1,List.nodup_append] at hn2
   exact fun z=>hn2.2.2 _ z _ (by simp) rfl
  rw [putK_new _ (new_kvT hnew)]
  funext b
  by_cases hb:b=D
  ·subst hb
   rw [upd_same,upd_same,tk1,List.map_append,List.map_append]
   rfl
  ·rw [upd_ne hb,upd_ne hb,upd_ne hb]
 ·left
  have e:j=ls.length:=by omega
  subst e
  refine ⟨w.stops _ (hs _),?_⟩
  rw [List.take_length]
  exact q D hD
theorem getT {H:Hp} {a:Addr} {s:List (Tx × Tx)} {x:Tx} (h:H a=some (.dK (s.map kvT))):DGet H a (vst x) ((kindIn s x).map vst) := .inl ⟨_,Sum.inr (S x),.inl h,rfl,(val_kvT x s).symm⟩
end RD

namespace RD
open PySem PySem.Spec PyProof.Rows L2
def rBoolL (K:PySem.W.Frag):List V→Hp→VK→Prop:=fun xs H Q=>∃ (a:Addr) (zs:List V),xs=[.ref a]∧SqL K H a zs∧Q (.bl (!zs.isEmpty)) H
theorem k_boolL {X:Cx} {K:PySem.W.Frag} (h:X.K=K):CallR X (.type "bool") (rBoolL K):=by subst h; exact call_boolL
theorem k_notT {X:Cx} {K:PySem.W.Frag} {a:Expr} {ta:TE} {pos:Pos} (h:X.K=K) (ha:PE X a ta):PE X (.UnaryOp .Not a pos) (tNotT K ta):=by subst h; exact pe_notT ha
theorem k_slA {X:Cx} {K:PySem.W.Frag} (h:X.K=K):SlR X (rSlA K):=by subst h; exact sl_tupA
section
variable {σ : L2.St} {H:Hp} {Q:VK} {K:PySem.W.Frag}
theorem boolL {a:Addr} {zs:List V} (h:SqL K H a zs) (q:Q (.bl (!zs.isEmpty)) H):rBoolL K [.ref a] H Q:=⟨a,zs,rfl,h,q⟩
theorem notT {ta:TE} (h:ta σ H fun x H1=>∃ k,TruV K x H1 k∧Q (.bl (!k)) H1):tNotT K ta σ H Q:=h
instance i_notT {ta:TE}:RD.W1 (tNotT K ta σ H Q) (ta σ H fun x H1=>∃ k,TruV K x H1 k∧Q (.bl (!k)) H1):=⟨fun h=>notT h⟩
end
end RD

namespace PR
def isIf:Stm→Bool
 | .iff _ _=>true
 | _=>false
def isEls:Stm→Bool
 | .els _=>true
 | _=>false
def opens (b:Bool) (s:Stm):Bool:=if b then isEls s else isIf s
theorem opens_re (k:Nat) (b:Bool) (s:Stm):opens b (retarget k s)=opens b s:=by
 unfold opens
 cases b <;> cases s <;> rfl
structure Rok (r:Rdr):Prop where
 bl:∀ e∈r.blocks,∃ s,r.stms[e.1]? = some s∧opens e.2 s=true
 sc:r.scopes.length=r.blocks.length + 1
theorem mod_get {l:List Stm} {i j k:Nat} {s:Stm} {b:Bool} (h:l[j]? = some s) (hs:opens b s=true):∃ s',(l.modify i (retarget k))[j]? = some s'∧opens b s'=true:=by
 rw [List.getElem?_modify,h]
 by_cases e:i=j
 ·exact ⟨retarget k s,by simp [e],by rw [opens_re]; exact hs⟩
 ·exact ⟨s,by simp [e],hs⟩
theorem app_get {l:List Stm} {j:Nat} {s t:Stm} (h:l[j]? = some s):(l++[t])[j]? = some s:=by
 rw [List.getElem?_append_left (List.getElem?_eq_some_iff.mp h).1]
 exact h
theorem Rok.add {r:Rdr} (h:Rok r) (s:Stm) (hb:(isEls s=true∨s = .fin)→r.blocks ≠ []):Rok (add r r.stms.length s):=by
 have old:∀ e∈r.blocks,∃ t,(r.stms++[s])[e.1]? = some t∧opens e.2 t=true:=fun e he=>by
  obtain ⟨t,h1,h2⟩:=h.bl e he
  exact ⟨t,app_get h1,h2⟩
 have new:(r.stms++[s])[r.stms.length]? = some s:=by simp
 cases s with
 | iff c to =>
  refine ⟨fun e he=>?_,?_⟩
  ·rcases List.mem_append.mp (show e∈r.blocks++[(r.stms.length,false)] from he) with he | he
   ·exact old e he
   ·rw [List.mem_singleton.mp he]
    exact ⟨_,new,rfl⟩
  ·show (r.scopes++[[]]).length=(r.blocks++[(r.stms.length,false)]).length + 1
   rw [List.length_append,List.length_append,h.sc]
   rfl
 | els to =>
  have hne:=hb (.inl rfl)
  have hl : 0 < r.blocks.length:=List.length_pos_iff.mpr hne
  refine ⟨fun e he=>?_,?_⟩
  ·rcases List.mem_append.mp (show e∈r.blocks.dropLast++[(r.stms.length,true)] from he) with he | he
   ·obtain ⟨t,h1,h2⟩:=old e ((List.dropLast_sublist _).subset he)
    exact mod_get h1 h2
   ·rw [List.mem_singleton.mp he]
    exact mod_get new rfl
  ·show (r.scopes.dropLast++[[]]).length=(r.blocks.dropLast++[(r.stms.length,true)]).length + 1
   rw [List.length_append,List.length_append,List.length_dropLast,List.length_dropLast,h.sc]
   simp only [List.length_singleton]
   omega
 | fin =>
  have hne:=hb (.inr rfl)
  have hl : 0 < r.blocks.length:=List.length_pos_iff.mpr hne
  refine ⟨fun e he=>?_,?_⟩
  ·obtain ⟨t,h1,h2⟩:=old e ((List.dropLast_sublist _).subset (show e∈r.blocks.dropLast from he))
   exact mod_get h1 h2
  ·show r.scopes.dropLast.length=r.blocks.dropLast.length + 1
   rw [List.length_dropLast,List.length_dropLast,h.sc]
   omega
 | _=>exact ⟨old,h.sc⟩
theorem add_len (r:Rdr) (n:Nat) (s:Stm):(add r n s).stms.length=r.stms.length + 1:=by
 cases s <;> simp [add]
end PR

namespace PR
open RD
def fresh:Stm→Bool
 | .rout=>false
 | .iff _ (some _)=>false
 | .els (some _)=>false
 | .drop _ (some _)=>false
 | .some_ _ (some _) _=>false
 | _=>true
def named:Stm→Option Tx
 | .drop x _=>some x
 | .some_ x _ _=>some x
 | _=>none
structure Fok (N:Nat) (f:Form):Prop where
 us:∀ u∈f.uses,u.1.length≤N
 bd:∀ b∈f.bound,b.1.length≤N
 lu:f.uses.length≤3
 lb:f.bound.length≤2
 fr:fresh f.stm=true
 nm:∀ x,named f.stm=some x→x∈f.uses.map Prod.fst
theorem pathOf_len {t:Tx} {p:Path} (h:pathOf t=some p):p.1.length≤t.length:=by
 unfold pathOf at h
 cases e:spc 46 t with
 | nil=>rw [e] at h; cases h
 | cons n ls =>
  rw [e] at h
  simp only at h
  split at h
  ·cases h
   exact spc_len 46 t n (by rw [e]; simp)
  ·cases h
theorem sideOf_len {t:Tx} {s:Side} (h:sideOf t=some s):s.2.1.length≤t.length:=by
 unfold sideOf at h
 simp only at h
 split at h
 ·cases e:pathOf (rpt 46 t).1 with
  | none=>rw [e] at h; cases h
  | some p =>
   rw [e] at h
   cases h
   exact Nat.le_trans (pathOf_len e) (rpt_len 46 t).1
 ·cases e:pathOf t with
  | none=>rw [e] at h; cases h
  | some p =>
   rw [e] at h
   cases h
   exact pathOf_len e
theorem condOf_len {ws:List Tx} {c:Cond} {N:Nat} (hw:∀ x∈ws,x.length≤N) (h:condOf ws=some c):c.left.1.length≤N∧c.right.1.length≤N:=by
 match ws,h with
 | [a,o,b],h =>
  simp only [condOf] at h
  split at h
  ·cases ea:sideOf a with
   | none=>rw [ea] at h; cases h
   | some x =>
    cases eb:sideOf b with
    | none=>rw [ea,eb] at h; cases h
    | some y =>
     rw [ea,eb] at h
     simp only at h
     split at h
     ·cases h
      exact ⟨Nat.le_trans (sideOf_len ea) (hw a (by simp)),Nat.le_trans (sideOf_len eb) (hw b (by simp))⟩
     ·cases h
  ·cases h
theorem letF_ok {ws:List Tx} {f:Form} {N:Nat} (hw:∀ x∈ws,x.length≤N) (h:letF ws=some f):Fok N f:=by
 match ws,h with
 | [_,x,e,s],h =>
  simp only [letF] at h
  split at h
  ·cases es:sideOf s with
   | none=>rw [es] at h; cases h
   | some d =>
    rw [es] at h
    have hd:=Nat.le_trans (sideOf_len es) (hw s (by simp))
    have hx:=hw x (by simp)
    simp only [Option.map_some] at h
    split at h
    ·cases h
     exact ⟨by simpa using hd,by simpa using hx,by simp,by simp,rfl,by simp [named]⟩
    ·cases h
     exact ⟨by simpa using hd,by simpa using hx,by simp,by simp,rfl,by simp [named]⟩
  ·cases h
theorem writeF_ok {a v:Tx} {f:Form} {N:Nat} (ha:a.length≤N) (hv:v.length≤N) (h:writeF a v=some f):Fok N f:=by
 have hr:=Nat.le_trans (rpt_len 46 a).1 ha
 unfold writeF at h
 simp only at h
 split at h
 ·cases h; exact ⟨by simpa using ⟨hr,hv⟩,by simp,by simp,by simp,rfl,by simp [named]⟩
 ·split at h
  ·cases h; exact ⟨by simpa using ⟨hr,hv⟩,by simp,by simp,by simp,rfl,by simp [named]⟩
  ·split at h
   ·cases h; exact ⟨by simpa using ⟨hr,hv⟩,by simp,by simp,by simp,rfl,by simp [named]⟩
   ·cases h
theorem roundF_ok {ws:List Tx} {f:Form} {N:Nat} (hw:∀ x∈ws,x.length≤N) (h:roundF ws=some f):Fok N f:=by
 match ws,h with
 | [_,a,e,v],h =>
  simp only [roundF] at h
  split at h
  ·cases h
   exact ⟨by simpa using ⟨Nat.le_trans (rpt_len 46 a).1 (hw a (by simp)),hw v (by simp)⟩,by simp,by simp,by simp,rfl,by simp [named]⟩
  ·cases h
theorem condF_ok {a:Tx} {ws:List Tx} {f:Form} {N:Nat} (hw:∀ x∈ws,x.length≤N) (h:condF a ws=some f):Fok N f:=by
 unfold condF at h
 cases e:condOf ws with
 | none=>rw [e] at h; cases h
 | some c =>
  rw [e] at h
  cases h
  obtain ⟨h1,h2⟩:=condOf_len hw e
  refine ⟨by simpa using ⟨h1,h2⟩,by simp,by simp,by simp,?_,?_⟩
  ·show fresh (if a=tx "given" then _ else _)=true
   split <;> rfl
  ·show ∀ x,named (if a=tx "given" then _ else _)=some x→_
   split <;> simp [named]
theorem tellF_ok {ws:List Tx} {f:Form} {N:Nat} (hw:∀ x∈ws,x.length≤N) (h:tellF ws=some f):Fok N f:=by
 unfold tellF at h
 split at h
 ·rename_i hl
  cases h
  exact ⟨by simpa using hw,by simp,by simpa using hl.2,by simp,rfl,by simp [named]⟩
 ·cases h
theorem getD_len {ws:List Tx} {N:Nat} (hw:∀ x∈ws,x.length≤N) (i:Nat):(ws.getD i []).length≤N:=by
 rw [List.getD_eq_getElem?_getD]
 cases e:ws[i]? with
 | none=>simp
 | some x=>exact hw x (List.mem_of_getElem? e)
theorem formOf_ok {t:Tx} {f:Form} (h:formOf t=some f):Fok t.length f:=by
 unfold formOf formW at h
 have hw:∀ x∈spc 32 t,x.length≤t.length:=fun x hx=>spc_len 32 t x hx
 revert hw h
 cases spc 32 t with
 | nil=>intro h; cases h
 | cons a ws =>
  intro h hw
  have ha:=hw a (by simp)
  have hs:∀ x∈ws,x.length≤t.length:=fun x hx=>hw x (by simp [hx])
  have h0:=getD_len hs 0
  have h1:=getD_len hs 1
  simp only [fw0,fw1,fw2,fw3,fw4,fw5,fw6,fw7,fw8] at h
  split at h
  ·exact condF_ok hs h
  split at h
  ·exact letF_ok hw h
  split at h
  ·exact roundF_ok hw h
  split at h
  ·exact tellF_ok hs h
  split at h
  ·cases h; exact ⟨by simp,by simpa using ⟨h0,h1⟩,by simp,by simp,rfl,by simp [named]⟩
  split at h
  ·cases h; exact ⟨by simpa using h0,by simp,by simp,by simp,rfl,by simp [named]⟩
  split at h
  ·cases h; exact ⟨by simp,by simpa using h1,by simp,by simp,rfl,by simp [named]⟩
  split at h
  ·cases h; exact ⟨by simp,by simp,by simp,by simp,rfl,by simp [named]⟩
  split at h
  ·cases h; exact ⟨by simp,by simp,by simp,by simp,rfl,by simp [named]⟩
  split at h
  ·exact writeF_ok ha h1 h
  ·cases h
theorem check_some {sc:List Scope} {n:Nat}:∀ {l:List (Tx × Tx)},check sc n l=none→∀ x∈l.map Prod.fst,(kindOf sc x).isSome=true
 | [],_,x,hx=>absurd hx (by simp)
 | u :: r,h,x,hx=>by
  unfold check at h
  cases e:kindOf sc u.1 with
  | none=>rw [e] at h; cases h
  | some k =>
   rw [e] at h
   simp only at h
   split at h
   ·rcases List.mem_cons.mp (show x∈u.1 :: r.map Prod.fst from hx) with z | z
    ·rw [z,e]; rfl
    ·exact check_some h x z
   ·cases h
structure Rin (r:Rdr):Prop where
 ok:Rok r
 b3:r.blocks.length≤3
 s3:∀ s∈r.scopes,s.length≤3 + 2 * r.stms.length
 ne:r.stms ≠ []
theorem resolve_els (sc:List Scope) (s:Stm):isEls (resolve sc s)=isEls s:=by cases s <;> rfl
theorem resolve_fin {sc:List Scope} {s:Stm} (h:resolve sc s = .fin):s = .fin:=by
 cases s <;> first | rfl | exact absurd h (by simp [resolve])
theorem may_els {r:Rdr} {n k:Nat} {s:Stm} (h:mayStand r n k s=true) (e:isEls s=true):(r.blocks.getLast?.getD (0,true)).2=false:=by
 cases s with
 | els to =>
  have h:(match r.blocks.getLast? with | some b=>!b.2 | none=>false)=true:=h
  cases hb:r.blocks.getLast? with
  | none=>rw [hb] at h; cases h
  | some b=>rw [hb] at h; simpa using h
 | _=>exact absurd e (by simp [isEls])
theorem may_ne {r:Rdr} {n k:Nat} {s:Stm} (h:mayStand r n k s=true) (e:isEls s=true∨s = .fin):r.blocks ≠ []:=by
 intro z
 rcases e with e | e
 ·have:=may_els h e
  rw [z] at this
  cases this
 ·rw [e] at h
  have h:(!r.blocks.isEmpty)=true:=h
  rw [z] at h
  cases h
theorem may_if {r:Rdr} {n k:Nat} {s:Stm} (h:mayStand r n k s=true) (e:isIf s=true):r.blocks.length < 3:=by
 cases s with
 | iff c to =>
  have h:(decide (r.blocks.length < 3) && _)=true:=h
  rw [Bool.and_eq_true] at h
  exact of_decide_eq_true h.1
 | _=>exact absurd e (by simp [isIf])
theorem add_scopes (r:Rdr) (k:Nat) (s:Stm):∀ x∈(add r k s).scopes,x=[]∨x∈r.scopes:=by
 intro x hx
 cases s with
 | iff c to =>
  rcases List.mem_append.mp (show x∈r.scopes++[[]] from hx) with h | h
  ·exact .inr h
  ·exact .inl (List.mem_singleton.mp h)
 | els to =>
  rcases List.mem_append.mp (show x∈r.scopes.dropLast++[[]] from hx) with h | h
  ·exact .inr ((List.dropLast_sublist _).subset h)
  ·exact .inl (List.mem_singleton.mp h)
 | fin=>exact .inr ((List.dropLast_sublist _).subset (show x∈r.scopes.dropLast from hx))
 | _=>exact .inr hx
theorem kind_none {x:Tx}:∀ {sc:List Scope},kindOf sc x=none→∀ s∈sc,x ∉ s.map Prod.fst
 | [],_,s,hs=>absurd hs (by simp)
 | t :: r,h,s,hs=>by
  unfold kindOf at h
  cases e:kindIn t x with
  | some k=>rw [e] at h; cases h
  | none =>
   rw [e] at h
   rcases List.mem_cons.mp hs with z | z
   ·rw [z]
    intro m
    obtain ⟨y,hy,ey⟩:=List.mem_map.mp m
    unfold kindIn at e
    rw [Option.map_eq_none_iff,List.find?_eq_none] at e
    exact e y hy (by simp [ey])
   ·exact kind_none h s z
theorem add_blocks {r:Rdr} {n k:Nat} {s:Stm} {sc:List Scope} (h3:r.blocks.length≤3) (h:mayStand r n k s=true):(add r k (resolve sc s)).blocks.length≤3:=by
 cases s with
 | iff c to =>
  have:=may_if h rfl
  show (r.blocks++[(k,false)]).length≤3
  rw [List.length_append]
  exact this
 | els to =>
  have hb:=may_ne h (.inl rfl)
  have:=List.length_pos_iff.mpr hb
  show (r.blocks.dropLast++[(k,true)]).length≤3
  rw [List.length_append,List.length_dropLast,List.length_singleton]
  omega
 | fin =>
  show r.blocks.dropLast.length≤3
  rw [List.length_dropLast]
  omega
 | _=>exact h3
theorem Rin.next {r:Rdr} {n:Nat} {t:Tx} {f:Form} (h:Rin r) (hf:formOf t=some f) (hm:mayStand r n r.stms.length f.stm=true) :
  Rin { add r r.stms.length (resolve r.scopes f.stm) with scopes:=bindS (add r r.stms.length (resolve r.scopes f.stm)).scopes f.bound }:=by
 have fo:=formOf_ok hf
 have ro:=h.ok.add (resolve r.scopes f.stm) (fun e=>may_ne hm (e.imp (fun e=>by rwa [resolve_els] at e) resolve_fin))
 have hl:=add_len r r.stms.length (resolve r.scopes f.stm)
 have hb:=add_blocks (sc:=r.scopes) h.b3 hm
 have hs:=add_scopes r r.stms.length (resolve r.scopes f.stm)
 revert ro hl hb hs
 generalize add r r.stms.length (resolve r.scopes f.stm)=r2
 intro ro hl hb hs
 have b:∀ s∈r2.scopes,s.length≤3 + 2 * r.stms.length:=fun s hx=>by
  rcases hs s hx with z | z
  ·rw [z]; simp
  ·exact h.s3 s z
 have hlb:=fo.lb
 refine ⟨⟨ro.bl,?_⟩,hb,fun s hx=>?_,fun z=>?_⟩
 ·show (r2.scopes.dropLast++[_]).length=_
  have:=ro.sc
  rw [List.length_append,List.length_dropLast,List.length_singleton]
  show _=r2.blocks.length + 1
  omega
 ·show s.length≤3 + 2 * r2.stms.length
  rw [hl]
  rcases List.mem_append.mp (show s∈r2.scopes.dropLast++[r2.scopes.getLast?.getD []++f.bound] from hx) with z | z
  ·have:=b s ((List.dropLast_sublist _).subset z)
   omega
  ·rw [List.mem_singleton.mp z,List.length_append]
   have:(r2.scopes.getLast?.getD []).length≤3 + 2 * r.stms.length:=by
    cases e:r2.scopes.getLast? with
    | none=>simp
    | some x=>exact b x (List.mem_of_getLast? e)
   omega
 ·have z:r2.stms=[]:=z
  rw [z] at hl
  cases hl
end PR

namespace Pf
open PySem PySem.Spec PyProof.Rows L2 SX RD PR
section
variable (K:PySem.W.Frag) (H:Hp)
def PathAt (v:V) (p:Path):Prop:=∃ a b,v = .ref a∧SqT K H a [vst p.1,.ref b]∧SqT K H b (vsts p.2)
def CondAt (v:V) (c:Cond):Prop:=∃ a l r,v = .ref a∧SqT K H a [vst c.kind,l,r,.bl c.eq]∧PathAt K H l c.left∧PathAt K H r c.right
def SideAt (v:V) (s:Side):Prop:=∃ a p,v = .ref a∧SqT K H a [vst s.1,p]∧PathAt K H p s.2
def PairAt (q:Addr) (p:Tx × Tx):Prop:=SqT K H q [vst p.1,vst p.2]
def PairsL (a:Addr) (l:List (Tx × Tx)):Prop:=∃ qs:List Addr,SqL K H a (qs.map V.ref)∧Paired (PairAt K H) qs l
def PairsT (a:Addr) (l:List (Tx × Tx)):Prop:=∃ qs:List Addr,(SqL K H a (qs.map V.ref)∨SqT K H a (qs.map V.ref))∧Paired (PairAt K H) qs l
def kndV:Option Tx→V
 | none => .non
 | some k=>vst k
def StmAt (v:V) (s:Stm):Prop:=∃ a,v = .ref a∧match s with
 | .rout=>SqT K H a [vst (tx "routine")]
 | .scr=>SqT K H a [vst (tx "script")]
 | .call x hs nw=>∃ b c,SqT K H a [vst (tx "call"),vst x,.ref b,.ref c]∧SqT K H b (vsts hs)∧SqT K H c (vsts nw)
 | .given c=>∃ cv,SqT K H a [vst (tx "given"),cv]∧CondAt K H cv c
 | .iff c none=>∃ cv,SqT K H a [vst (tx "if"),cv]∧CondAt K H cv c
 | .iff c (some n)=>∃ cv,SqT K H a [vst (tx "if"),cv,vn n]∧CondAt K H cv c
 | .els none=>SqT K H a [vst (tx "else")]
 | .els (some n)=>SqT K H a [vst (tx "else"),vn n]
 | .fin=>SqT K H a [vst (tx "end")]
 | .let_ x p=>∃ pv,SqT K H a [vst (tx "let"),vst x,pv]∧PathAt K H pv p
 | .take x k p=>∃ pv,SqT K H a [vst (tx "take"),vst x,vst k,pv]∧PathAt K H pv p
 | .make x y=>SqT K H a [vst (tx "make"),vst x,vst y]
 | .drop x none=>SqT K H a [vst (tx "drop"),vst x]
 | .drop x (some k)=>SqT K H a [vst (tx "drop"),vst x,vst k]
 | .new k x=>SqT K H a [vst (tx "new"),vst k,vst x]
 | .link x f v=>SqT K H a [vst (tx "link"),vst x,vst f,vst v]
 | .bear x f v=>SqT K H a [vst (tx "bear"),vst x,vst f,vst v]
 | .round x f v=>SqT K H a [vst (tx "round"),vst x,vst f,vst v]
 | .some_ x none v=>SqT K H a [vst (tx "some"),vst x,vst v]
 | .some_ x (some k) v=>SqT K H a [vst (tx "some"),vst x,vst k,vst v]
 | .tell xs=>∃ b,SqT K H a [vst (tx "tell"),.ref b]∧SqT K H b (vsts xs)
end
theorem few {xs:List V} (h:xs.length≤100:=by simp):xs.length≤sizeLine:=szl (by omega)
def Kp (H H':Hp):Prop:=∀ a xs,Rd H a (.tup xs)→Rd H' a (.tup xs)
theorem Kp.refl {H:Hp}:Kp H H:=fun _ _ h=>h
theorem Kp.trans {H1 H2 H3:Hp} (a:Kp H1 H2) (b:Kp H2 H3):Kp H1 H3:=fun x xs h=>b x xs (a x xs h)
theorem Kp.same {H H':Hp} (s:Same H H'):Kp H H':=fun a xs h=>by
 rcases h with h | ⟨o,h⟩
 ·exact .inl (s a _ h)
 ·exact .inr ⟨o,s a _ h⟩
theorem Kp.new {H:Hp} {p:Addr} {o:HO} (h:H p=none):Kp H (upd H p o) := .same (same_new h)
theorem Kp.mut {H:Hp} {p:Addr} {u o:HO} (h:H p=some u) (h1:∀ xs,u ≠ .tup xs) (h2:∀ x xs,u ≠ .frz x (.tup xs)):Kp H (upd H p o):=fun a xs e=>by
 have ne:a ≠ p:=fun z=>by
  subst z
  rcases e with e | ⟨x,e⟩
  ·rw [h] at e; exact h1 xs (Option.some.inj e)
  ·rw [h] at e; exact h2 x xs (Option.some.inj e)
 rcases e with e | ⟨x,e⟩
 ·exact .inl (by rw [upd_ne ne]; exact e)
 ·exact .inr ⟨x,by rw [upd_ne ne]; exact e⟩
theorem Kp.lst {H:Hp} {p:Addr} {xs:List V} {o:HO} (h:H p=some (.lst xs)):Kp H (upd H p o) := .mut h (fun _=>nofun) (fun _ _=>nofun)
theorem Kp.ins {H:Hp} {p:Addr} {C:Addr} {dx:Addr} {fs:List (Str × V)} {o:HO} (h:H p=some (.ins C dx fs)):Kp H (upd H p o) := .mut h (fun _=>nofun) (fun _ _=>nofun)
theorem Kp.dk {H:Hp} {p:Addr} {kvs:List (Key × V)} {o:HO} (h:H p=some (.dK kvs)):Kp H (upd H p o) := .mut h (fun _=>nofun) (fun _ _=>nofun)
section
variable {K:PySem.W.Frag} {H H':Hp}
theorem Kp.sq (k:Kp H H') {a:Addr} {xs:List V} (h:SqT K H a xs):SqT K H' a xs:=by
 rcases h with h | h
 ·exact .inl (k a xs h)
 ·exact .inr h
theorem Kp.path (k:Kp H H') {v:V} {p:Path}:PathAt K H v p→PathAt K H' v p:=fun ⟨a,b,e,h1,h2⟩=>⟨a,b,e,k.sq h1,k.sq h2⟩
theorem Kp.cond (k:Kp H H') {v:V} {c:Cond}:CondAt K H v c→CondAt K H' v c:=fun ⟨a,l,r,e,h,h1,h2⟩=>⟨a,l,r,e,k.sq h,k.path h1,k.path h2⟩
theorem Kp.side (k:Kp H H') {v:V} {s:Side}:SideAt K H v s→SideAt K H' v s:=fun ⟨a,p,e,h,h1⟩=>⟨a,p,e,k.sq h,k.path h1⟩
theorem Kp.pairs (k:Kp H H'):∀ {qs:List Addr} {l:List (Tx × Tx)},Paired (PairAt K H) qs l→Paired (PairAt K H') qs l
 | _,_,.nil => .nil
 | _,_,.cons h t => .cons (k.sq h) (k.pairs t)
theorem Kp.stm (k:Kp H H') {v:V} {s:Stm} (h:StmAt K H v s):StmAt K H' v s:=by
 obtain ⟨a,e,h⟩:=h
 refine ⟨a,e,?_⟩
 match s,h with
 | .rout,h=>exact k.sq h
 | .scr,h=>exact k.sq h
 | .call x hs nw,⟨b,c,h,h2,h3⟩=>exact ⟨b,c,k.sq h,k.sq h2,k.sq h3⟩
 | .given c,⟨cv,h,h2⟩=>exact ⟨cv,k.sq h,k.cond h2⟩
 | .iff c none,⟨cv,h,h2⟩=>exact ⟨cv,k.sq h,k.cond h2⟩
 | .iff c (some n),⟨cv,h,h2⟩=>exact ⟨cv,k.sq h,k.cond h2⟩
 | .els none,h=>exact k.sq h
 | .els (some n),h=>exact k.sq h
 | .fin,h=>exact k.sq h
 | .let_ x p,⟨pv,h,h2⟩=>exact ⟨pv,k.sq h,k.path h2⟩
 | .take x kk p,⟨pv,h,h2⟩=>exact ⟨pv,k.sq h,k.path h2⟩
 | .make x y,h=>exact k.sq h
 | .drop x none,h=>exact k.sq h
 | .drop x (some kk),h=>exact k.sq h
 | .new kk x,h=>exact k.sq h
 | .link x f v,h=>exact k.sq h
 | .bear x f v,h=>exact k.sq h
 | .round x f v,h=>exact k.sq h
 | .some_ x none v,h=>exact k.sq h
 | .some_ x (some kk) v,h=>exact k.sq h
 | .tell xs,⟨b,h,h2⟩=>exact ⟨b,k.sq h,k.sq h2⟩
end
def Sx (p:Addr) (H H':Hp):Prop:=∀ c o,H c=some o→c ≠ p→H' c=some o
theorem Sx.refl {p:Addr} {H:Hp}:Sx p H H:=fun _ _ e _=>e
theorem Sx.trans {p:Addr} {H1 H2 H3:Hp} (a:Sx p H1 H2) (b:Sx p H2 H3):Sx p H1 H3:=fun c o e n=>b c o (a c o e n) n
theorem Sx.put {p:Addr} {H:Hp} {o:HO}:Sx p H (upd H p o):=fun c u e n=>by rw [upd_ne n]; exact e
theorem Sx.new {p r:Addr} {H:Hp} {o:HO} (h:H r=none):Sx p H (upd H r o):=fun c u e _=>same_new h c u e
theorem Sx.same {p:Addr} {H H':Hp} (s:Same H H'):Sx p H H':=fun c u e _=>s c u e
section
variable {K:PySem.W.Frag} {p:Addr} {H H':Hp} {C dx:Addr} {fs:List (Str × V)} (hp:H p=some (.ins C dx fs)) (s:Sx p H H')
include hp s
theorem Sx.rd {a:Addr} {u:HO} (h1:∀ C dx fs,u ≠ .ins C dx fs) (h:L2.Rd H a u):L2.Rd H' a u:=by
 rcases h with h | ⟨x,h⟩
 ·refine .inl (s a _ h fun e=>?_)
  rw [e,hp] at h
  exact h1 _ _ _ (Option.some.inj h).symm
 ·refine .inr ⟨x,s a _ h fun e=>?_⟩
  rw [e,hp] at h
  cases h
theorem Sx.sl {a:Addr} {xs:List V} (h:SqL K H a xs):SqL K H' a xs:=by
 rcases h with h | h
 ·exact .inl (s.rd hp (fun _ _ _=>nofun) h)
 ·exact .inr h
theorem Sx.stp {a:Addr} {xs:List V} (h:SqT K H a xs):SqT K H' a xs:=by
 rcases h with h | h
 ·exact .inl (s.rd hp (fun _ _ _=>nofun) h)
 ·exact .inr h
theorem Sx.kp:Kp H H':=fun _ _ h=>s.rd hp (fun _ _ _=>nofun) h
theorem Sx.ls {a:Addr} {xs:List V} (h:SqL K H a xs∨SqT K H a xs):SqL K H' a xs∨SqT K H' a xs:=h.imp (s.sl hp) (s.stp hp)
end
end Pf

namespace RD
open PySem PySem.Spec PyProof.Rows L2
section
variable {X:Cx} {CX:CXT} {n k:Nat} {f C:Addr} {fd:FuncData} {ps:List Str} {sp:Sp} {K:PySem.W.Frag} {pos:Pos}
def tIxOwn (C:Addr) (sp:Sp) (E:L2.St→XK) (ta tb:TE):TE:=fun σ H Q=>ta σ H fun x H1=>tb σ H1 fun y H2=>∃ a dx fs,x = .ref a∧H2 a=some (.ins C dx fs)∧sp [.ref a,y] H2 Q (E σ)
def tMethT (C:Addr) (m:Str) (sp:Sp) (E:L2.St→XK) (ta:TE) (t:TA):TE:=fun σ H Q=>ta σ H fun x H1=>∃ a dx fs,x = .ref a∧H1 a=some (.ins C dx fs)∧fs.lookup m=none∧t σ H1 fun vs H2=>sp (x :: vs) H2 Q (E σ)
def rOr (r1 r2:List V→Hp→VK→Prop):List V→Hp→VK→Prop:=fun xs H Q=>r1 xs H Q∨r2 xs H Q
def rDict:List V→Hp→VK→Prop:=fun xs H Q=>∃ (a:Addr) (kvs:List (Key × V)),xs=[.ref a]∧Rd H a (.dK kvs)∧∀ p,H p=none→Q (.ref p) (upd H p (.dK kvs))
theorem k_dictD:CallR X (.type "dict") rDict:=call_dictD
def rStw:V→List V→Hp→VK→Prop:=fun x xs H Q=>∃ a b,x = .str a∧xs=[.str b]∧Q (.bl (Txt.startswith a b)) H
theorem mt_stw:MtR X "str.startswith" rStw:=mt_startswith
def rIsN:R2:=fun x y H Q=>y = .non∧Q (.bl (decide (x = .non))) H
end
end RD

namespace PR
open RD
theorem pre_hd (c x:Nat) (r:Tx):TL.pre [c] (x :: r)=decide (x=c):=by
 have:=pre1 (c:=c) (l:=x :: r) (i:=0)
 rw [List.drop_zero,List.getElem?_cons_zero] at this
 by_cases h:x=c
 ·rw [decide_eq_true h]; exact this.mpr (by rw [h])
 ·rw [decide_eq_false h]
  cases e:TL.pre [c] (x :: r) with
  | false=>rfl
  | true=>exact absurd (Option.some.inj (this.mp e)) h
def sp1 (c:Nat):Tx→List Tx
 | []=>[[]]
 | x :: r=>if x=c then [] :: sp1 c r else match sp1 c r with
  | []=>[[x]]
  | w :: ws=>(x :: w) :: ws
theorem sp1_ne (c:Nat):∀ l:Tx,∃ w ws,sp1 c l=w :: ws
 | []=>⟨_,_,rfl⟩
 | x :: r=>by
  obtain ⟨w,ws,h⟩:=sp1_ne c r
  rw [sp1,h]
  by_cases e:x=c
  ·exact ⟨[],w :: ws,if_pos e⟩
  ·exact ⟨x :: w,ws,if_neg e⟩
theorem spl_sp1 (c:Nat):∀ (l acc:Tx),TL.spl [c] 0 acc l=match sp1 c l with
  | []=>[acc]
  | w :: ws=>(acc++w) :: ws
 | [],acc=>by rw [TL.spl_nil]; show [acc]=[acc++[]]; rw [List.append_nil]
 | x :: r,acc=>by
  obtain ⟨w,ws,h⟩:=sp1_ne c r
  by_cases e:x=c
  ·have hp:TL.pre [c] (x :: r)=true:=by rw [pre_hd]; exact decide_eq_true e
   have hr:=spl_sp1 c r []
   rw [h] at hr
   rw [TL.spl_hit hp,sp1,if_pos e]
   show acc :: TL.spl [c] 0 [] r=(acc++[]) :: sp1 c r
   rw [hr,h,List.append_nil]
   rfl
  ·have hp:TL.pre [c] (x :: r)=false:=by rw [pre_hd]; exact decide_eq_false e
   rw [TL.spl_miss hp,sp1,if_neg e,spl_sp1 c r (acc++[x]),h]
   show (acc++[x]++w) :: ws=(acc++x :: w) :: ws
   rw [List.append_assoc]
   rfl
theorem spc_sp1 (c:Nat) (l:Tx):spc c l=sp1 c l:=by
 obtain ⟨w,ws,h⟩:=sp1_ne c l
 have:=spl_sp1 c l []
 rw [h] at this
 rw [h]
 exact this
theorem sp1_no {c:Nat}:∀ {l:Tx},c ∉ l→sp1 c l=[l]
 | [],_=>rfl
 | x :: r,h=>by
  rw [sp1,if_neg (fun e=>h (by rw [e]; exact List.mem_cons_self)),sp1_no fun z=>h (List.mem_cons_of_mem _ z)]
theorem sp1_app {c:Nat}:∀ (w l:Tx),c ∉ w→sp1 c (w++l)=match sp1 c l with
  | []=>[w]
  | h :: t=>(w++h) :: t
 | [],l,_=>by
  obtain ⟨h,t,e⟩:=sp1_ne c l
  rw [List.nil_append,e]
  rfl
 | x :: w,l,hn=>by
  obtain ⟨h,t,e⟩:=sp1_ne c l
  rw [List.cons_append,sp1,if_neg (fun z=>hn (by rw [z]; exact List.mem_cons_self)),sp1_app w l (fun z=>hn (List.mem_cons_of_mem _ z)),e]
  rfl
theorem sp1_sep {c:Nat} {w l:Tx} (h:c ∉ w):sp1 c (w++c :: l)=w :: sp1 c l:=by
 rw [sp1_app w _ h,sp1,if_pos rfl]
 show (w++[]) :: sp1 c l=_
 rw [List.append_nil]
def jn (c:Nat):List Tx→Tx
 | []=>[]
 | [a]=>a
 | a :: b :: r=>a++c :: jn c (b :: r)
theorem sp1_jn {c:Nat}:∀ {ls:List Tx},ls ≠ []→(∀ t∈ls,c ∉ t)→sp1 c (jn c ls)=ls
 | [],h,_=>absurd rfl h
 | [a],_,h=>sp1_no (h a List.mem_cons_self)
 | a :: b :: r,_,h=>by
  rw [jn,sp1_sep (h a List.mem_cons_self),sp1_jn (by simp) fun t ht=>h t (List.mem_cons_of_mem _ ht)]
end PR

namespace RD
open PySem PySem.Spec PyProof.Rows L2 SX PR
theorem ln_app {k:Nat} {x y:Tx} (hx:x.length≤2 ^ k) (hy:y.length≤2 ^ k):(x++y).length≤2 ^ (k + 1):=by
 rw [List.length_append,Nat.pow_succ]
 omega
section
variable {σ : L2.St} {H:Hp} {Q:VK} {K:PySem.W.Frag}
abbrev LK (Q:VK) (xs:List V) (H1:Hp):Prop:=xs.length≤sizeLine∧∀ p,H1 p=none→Q (.ref p) (upd H1 p (.lst xs))
theorem lst2 {tr:TA} (h:tr σ H fun xs H1=>LK Q xs H1):tLst tr σ H Q:=h
instance i_lst2 {tr:TA}:RD.W1 (tLst tr σ H Q) (tr σ H fun xs H1=>LK Q xs H1):=⟨fun h=>lst2 h⟩
theorem addsP {a b:Tx} (ha:a.length≤2 ^ 18) (hb:b.length≤2 ^ 18) (q:Q (vst (a++b)) H):rAddS (vst a) (vst b) H Q:=adds (by
 have:(2:Nat) ^ 18 + 2 ^ 18≤1000000:=by decide
 omega) q
theorem ixV {a:Addr} {ls:List Tx} {k:Nat} {t:Tx} (h:SqL K H a (vsts ls)) (ha:ls[k]? = some t) (q:Q (vst t) H):rIxL K (.ref a) (.int (k:Nat)) H Q:=ixL h (Pf.at_n (vsts_at ha)) q
theorem slT8 {t:Tx} {k:Nat} (hz:t.length≤1000000) (q:Q (vst (t.take k)) H):rSlS (vst t) none (some (k:Nat)) H Q:=by
 refine ⟨S t,rfl,by rw [S_len]; exact Nat.le_trans hz (by decide),?_⟩
 have e:cutS (S t) none (some (k:Int))=S (t.take k):=by
  show S ((t.drop (HT.sIx (S t).length 0 none)).take (HT.sIx (S t).length (S t).length (some (k:Int)) - HT.sIx (S t).length 0 none))=_
  rw [HT.sIx_none,HT.sIx_nat,Nat.sub_zero,List.drop_zero,S_len]
  congr 1
  by_cases h:k≤t.length
  ·rw [Nat.min_eq_left h]
  ·rw [Nat.min_eq_right (by omega),List.take_length,List.take_of_length_le (by omega)]
 rw [e]
 exact q
theorem eqV_tx (a b:Tx):eqV (vst a) (vst b)=decide (a=b):=by
 show eqV (.str (S a)) (.str (S b))=_
 rw [eqV_str,dstr]
theorem idxT {a:Addr} {ls:List Tx} {t:Tx} {j:Nat} (h:SqL K H a (vsts ls)) (hj:ls[j]? = some t) (hno:∀ m,m < j→ls[m]? ≠ some t) (q:Q (.int (j:Nat)) H):rIndex K (.ref a) [vst t] H Q:=by
 refine ⟨a,_,vst t,j,vst t,rfl,rfl,h,rfl,flat_txs ls,vsts_at hj,by rw [eqV_tx]; exact decide_eq_true rfl,fun m z hm hz=>?_,q⟩
 obtain ⟨l,hl,rfl⟩:=of_vsts hz
 rw [eqV_tx]
 exact decide_eq_false fun e=>hno m hm (by rw [hl,e])
def rCntV (K:PySem.W.Frag):V→List V→Hp→VK→Prop:=fun x xs H Q=>∃ (p:Addr) (ys:List V) (y:V),x = .ref p∧xs=[y]∧SqL K H p ys∧flatV y=true∧ys.all flatV=true∧Q (.int (ys.countP (fun z=>eqV z y):Nat)) H
end
end RD
namespace Pf
open PySem PySem.Spec PyProof.Rows L2 SX RD PR
def dS (ls:List Tx):List PyData:=ls.map fun x => .str (S x)
end Pf

namespace RD
open PySem PySem.Spec PyProof.Rows L2 Pf
def rLenR:List V→Hp→VK→Prop:=fun xs H Q=>∃ a kvs,xs=[V.ref a]∧Rd H a (.dK kvs)∧Q (.int kvs.length) H
theorem k_lenR {X:Cx}:CallR X (.builtin "len") rLenR:=by
 intro pins s σ H xs us Q I r h
 obtain ⟨a,kvs,rfl,ha,q⟩:=h
 obtain ⟨u,rfl,ru⟩:=vals1 r
 cases ru
 exact d_len I ha fun t s' I'=>⟨.int kvs.length,H,I',⟨t,rfl⟩,q⟩
section
variable {σ : L2.St} {H:Hp} {Q:VK}
end
end RD
namespace RD
open PySem PySem.Spec PyProof.Rows L2 Pf
end RD
namespace RD
open PySem PySem.Spec PyProof.Rows L2 Pf
end RD

namespace RZ2
open PySem PySem.Spec PyProof.Rows L2
def dIs (t:Bool) (h:Heap) (a:Addr) (xs:Array Value):Prop:=if t=true then h.IsTuple a xs else h.IsList a xs
def dIt (t:Bool) (h:Heap) (it l:Addr) (i:Nat):Prop:=if t=true then h.IsTupleIter it l i else h.IsListIter it l i
def dOb (t:Bool) (l:Addr):Obj:=if t=true then { cls := .type "tuple_iterator", data := .fields #[.ref l,.int 0 0] } else { cls := .type "list_iterator", data := .fields #[.ref l,.int 0 0] }
theorem dIs.at {t:Bool} {h h':Heap} {a:Addr} {xs:Array Value} (x:dIs t h a xs) (e:∀ o,h.get? a=some o→h'.get? a=some o):dIs t h' a xs:=by
 cases t with
 | false=>exact Heap.IsList.at (show h.IsList a xs from x) e
 | true=>exact Heap.IsTuple.at (show h.IsTuple a xs from x) e
theorem dIt.at {t:Bool} {h h':Heap} {it l:Addr} {i:Nat} (x:dIt t h it l i) (e:∀ o,h.get? it=some o→h'.get? it=some o):dIt t h' it l i:=by
 cases t with
 | false=>exact Heap.IsListIter.at (show h.IsListIter it l i from x) e
 | true=>exact Heap.IsTupleIter.at (show h.IsTupleIter it l i from x) e
theorem dIt.there {t:Bool} {h:Heap} {it l:Addr} {i:Nat} (x:dIt t h it l i):∃ o,h.get? it=some o∧o.data = .fields #[.ref l,.int i 0]:=by
 cases t with
 | false=>obtain ⟨o,e,_,d⟩:=(show h.IsListIter it l i from x); exact ⟨o,e,d⟩
 | true=>obtain ⟨o,e,_,d⟩:=(show h.IsTupleIter it l i from x); exact ⟨o,e,d⟩
theorem dIs.there {t:Bool} {h:Heap} {a:Addr} {xs:Array Value} (x:dIs t h a xs):∃ o,h.get? a=some o:=by
 cases t with
 | false=>obtain ⟨o,e,_⟩:=(show h.IsList a xs from x); exact ⟨o,e⟩
 | true=>obtain ⟨o,e,_⟩:=(show h.IsTuple a xs from x); exact ⟨o,e⟩
theorem dBegins (t:Bool) (l:Addr) (xs:Array Value):Begins (.ref l) (dOb t l) fun h=>dIs t h l xs:=by
 cases t with
 | false=>exact begins_list l xs
 | true=>exact begins_tuple l xs
def SqK (K:PySem.W.Frag) (t:Bool) (H:Hp) (a:Addr) (xs:List V):Prop:=if t=true then SqT K H a xs else SqL K H a xs
section
variable {X:Cx} {pins:List (Addr × Obj)} {σ : L2.St} {H:Hp} {s:Shared}
theorem SqK.inj {t:Bool} {a:Addr} {xs ys:List V} (h:SqK X.K t H a xs) (h':SqK X.K t H a ys) (I:Inv X pins σ H s):xs=ys:=by
 cases t with
 | false=>exact I.list_inj (show SqL X.K H a xs from h) (show SqL X.K H a ys from h')
 | true=>exact I.tuple_inj (show SqT X.K H a xs from h) (show SqT X.K H a ys from h')
end
def ItzM (K:PySem.W.Frag) (p q:Bool) (a b:Addr):It :=
 ⟨fun i H=>∃ (xs ys:List V) (x y:V),SqK K p H a xs∧SqK K q H b ys∧xs[i]? = some x∧ys[i]? = some y,
  fun i H v H'=>∃ T x y,v = .ref T∧H T=none∧H'=upd H T (.tup [x,y])∧(∀ xs,SqK K p H a xs→xs[i]? = some x)∧∀ ys,SqK K q H b ys→ys[i]? = some y,
  fun i H=>∃ xs ys:List V,SqK K p H a xs∧SqK K q H b ys∧i≤xs.length∧i≤ys.length∧(i=xs.length∨i=ys.length)⟩
def iZipM (K:PySem.W.Frag) (p q:Bool) (ta:TA):TI:=fun σ H R=>ta σ H fun vs H1=>∃ a b xs ys,vs=[.ref a,.ref b]∧SqK K p H1 a xs∧SqK K q H1 b ys∧R (ItzM K p q a b) H1
section
variable {prog:Program} {w:World} {A:Around} {E:Value→Shared→Prop} {s:Shared} {z TI TO T i1 i2:Addr} {fp1 fp2:List Addr} {n1 n2 i:Nat} {P1 P2:Nat→Value→Prop} {St1 St2:Nat→Heap→Prop} {f:Bool} {oT:Obj}
end
section
variable {prog:Program} {w:World}
end
end RZ2

namespace RZ2
open PySem PySem.Spec PyProof.Rows L2
def tDictZip (K:PySem.W.Frag) (p q:Bool) (ta:TA):TE:=fun σ H Q=>ta σ H fun vs H1=>∃ (a b:Addr) (ks:List Key) (ys:List V),vs=[.ref a,.ref b]∧SqK K p H1 a (ks.map kV)∧SqK K q H1 b ys∧ks.length=ys.length∧ks.length≤sizeLine ∧
 ∀ d,H1 d=none→Q (.ref d) (upd H1 d (.dK (mergeK [] (ks.zip ys))))
end RZ2
namespace RZ2
open PySem PySem.Spec PyProof.Rows L2
def evens {α : Type}:List α→List α
 | []=>[]
 | [a]=>[a]
 | a :: _ :: r=>a :: evens r
def tSl2 (K:PySem.W.Frag) (te:TE):TE:=fun σ H Q=>te σ H fun x H1=>∃ a xs,x = .ref a∧SqL K H1 a xs∧∀ p,H1 p=none→Q (.ref p) (upd H1 p (.lst (evens xs)))
def rgC (i c:Int) (n:Nat):List V:=(List.range n).map fun (k:Nat)=>V.int (i + k * c)
def tStarRg (ta t:TA):TA:=fun σ H Q=>ta σ H fun vs H1=>∃ (i j c:Int) (n:Nat),vs=[.int i,.int j,.int c]∧RgC i j c n∧n≤2 ^ 20∧t σ H1 fun ys H2=>Q (rgC i c n++ys) H2
end RZ2
namespace RZ2
open PySem PySem.Spec PyProof.Rows L2
section
variable {X:Cx} {K:PySem.W.Frag} {e o value:Expr} {f:Str} {ta tv:TE} {pos tpos:Pos}
theorem k_con (h:X.K=K) (he:PE X e ta) (hb:attributeBase e f X.env (eval e X.env)=eval e X.env):PE X (.Attribute e f pos) (tCon K ta f):=by subst h; exact pe_con he hb
end
abbrev starSp (n:Nat) (sp:Sp):Sp:=fun vs H Q E=>∃ ws rest,vs=ws++rest∧ws.length=n∧rest.length≤sizeLine∧∀ p,H p=Option.none→sp (ws++[V.ref p]) (upd H p (.tup rest)) Q E
section
variable {P:Program} {w:World} {K:PySem.W.Frag} {mg:Str→Option Value} {base:Heap}
end
abbrev k_dnewT {X:Cx} {pos:Pos}:PE X (.Dict [] [] pos) tDNewT:=pe_dnewT
end RZ2
namespace RD
open PySem PySem.Spec PyProof.Rows L2 RZ2
section
variable {σ s:L2.St} {H:Hp} {Q:VK} {nx bk ct:L2.St→Hp→Prop} {rt:VK} {ta td ty tx te tv:TE} {tr t:TA} {K:PySem.W.Frag} {f:Str}
theorem con (h:ta σ H fun x H1=>∃ a C dx fs v u,x = .ref a∧H1 a=some (.ins C dx fs)∧Cls K C∧Con K C f v u∧fs.lookup f=none∧Q v H1):tCon K ta f σ H Q:=h
instance i_con  : RD.W1 (tCon K ta f σ H Q) (ta σ H fun x H1=>∃ a C dx fs v u,x = .ref a∧H1 a=some (.ins C dx fs)∧Cls K C∧Con K C f v u∧fs.lookup f=none∧Q v H1):=⟨fun h=>con h⟩
theorem dget1 (h:td σ H fun x H1=>∃ a,x = .ref a∧IsD H1 a∧ty σ H1 fun y H2=>∃ o,DGet H2 a y o∧Q (o.getD .non) H2):tDGet1 td ty σ H Q:=h
instance i_dget1  : RD.W1 (tDGet1 td ty σ H Q) (td σ H fun x H1=>∃ a,x = .ref a∧IsD H1 a∧ty σ H1 fun y H2=>∃ o,DGet H2 a y o∧Q (o.getD .non) H2):=⟨fun h=>dget1 h⟩
theorem dget2 (h:td σ H fun x H1=>∃ a,x = .ref a∧IsD H1 a∧ty σ H1 fun y H2=>tx σ H2 fun z H3=>∃ o,DGet H3 a y o∧Q (o.getD z) H3):tDGet2 td ty tx σ H Q:=h
instance i_dget2  : RD.W1 (tDGet2 td ty tx σ H Q) (td σ H fun x H1=>∃ a,x = .ref a∧IsD H1 a∧ty σ H1 fun y H2=>tx σ H2 fun z H3=>∃ o,DGet H3 a y o∧Q (o.getD z) H3):=⟨fun h=>dget2 h⟩
theorem ddel (h:td σ H fun x H1=>ty σ H1 fun y H2=>∃ a kvs k,x = .ref a∧H2 a=some (.dK kvs)∧y=kV k∧(valV kvs k).isSome=true∧nx σ (upd H2 a (.dK (dropK kvs k)))):sDDel td ty ⟨nx,rt,bk,ct⟩ σ H:=h
instance i_ddel  : RD.W1 (sDDel td ty ⟨nx,rt,bk,ct⟩ σ H) (td σ H fun x H1=>ty σ H1 fun y H2=>∃ a kvs k,x = .ref a∧H2 a=some (.dK kvs)∧y=kV k∧(valV kvs k).isSome=true∧nx σ (upd H2 a (.dK (dropK kvs k)))):=⟨fun h=>ddel h⟩
theorem faug {rd:V→V→Hp→VK→Prop} (h:ta σ H fun x H1=>∃ a C dx fs v,x = .ref a∧H1 a=some (.ins C dx fs)∧Cls K C∧NoAttr K C f∧fs.lookup f=some v ∧
 tv σ H1 fun y H2=>rd v y H2 fun z H3=>∃ dx' fs',H3 a=some (.ins C dx' fs')∧fs'.length < 1000∧nx σ (upd H3 a (.ins C dx' (putF f z fs')))):sFldAug K ta tv rd f ⟨nx,rt,bk,ct⟩ σ H:=h
instance i_faug {rd:V→V→Hp→VK→Prop}:RD.W1 (sFldAug K ta tv rd f ⟨nx,rt,bk,ct⟩ σ H) (ta σ H fun x H1=>∃ a C dx fs v,x = .ref a∧H1 a=some (.ins C dx fs)∧Cls K C∧NoAttr K C f∧fs.lookup f=some v ∧
 tv σ H1 fun y H2=>rd v y H2 fun z H3=>∃ dx' fs',H3 a=some (.ins C dx' fs')∧fs'.length < 1000∧nx σ (upd H3 a (.ins C dx' (putF f z fs')))):=⟨fun h=>faug h⟩
theorem dsetd (h:td σ H fun x H1=>∃ a,x = .ref a∧IsD H1 a∧ty σ H1 fun y H2=>tx σ H2 fun z H3=>∃ (kvs:List (Key × V)) (k:Key),H3 a=some (.dK kvs)∧y=kV k∧kvs.length < sizeLine ∧
 (∀ v,valV kvs k=some v→Q v H3)∧(valV kvs k=none→Q z (upd H3 a (.dK (putK kvs k z))))):tDSetd td ty tx σ H Q:=h
instance i_dsetd  : RD.W1 (tDSetd td ty tx σ H Q) (td σ H fun x H1=>∃ a,x = .ref a∧IsD H1 a∧ty σ H1 fun y H2=>tx σ H2 fun z H3=>∃ (kvs:List (Key × V)) (k:Key),H3 a=some (.dK kvs)∧y=kV k∧kvs.length < sizeLine ∧
 (∀ v,valV kvs k=some v→Q v H3)∧(valV kvs k=none→Q z (upd H3 a (.dK (putK kvs k z))))):=⟨fun h=>dsetd h⟩
theorem sl2 (h:te σ H fun x H1=>∃ a xs,x = .ref a∧SqL K H1 a xs∧∀ p,H1 p=none→Q (.ref p) (upd H1 p (.lst (evens xs)))):tSl2 K te σ H Q:=h
instance i_sl2  : RD.W1 (tSl2 K te σ H Q) (te σ H fun x H1=>∃ a xs,x = .ref a∧SqL K H1 a xs∧∀ p,H1 p=none→Q (.ref p) (upd H1 p (.lst (evens xs)))):=⟨fun h=>sl2 h⟩
theorem starRg {QA:List V→Hp→Prop} (h:tr σ H fun vs H1=>∃ (i j c:Int) (n:Nat),vs=[.int i,.int j,.int c]∧RgC i j c n∧n≤2 ^ 20∧t σ H1 fun ys H2=>QA (rgC i c n++ys) H2):tStarRg tr t σ H QA:=h
instance i_starRg {QA:List V→Hp→Prop}:RD.W1 (tStarRg tr t σ H QA) (tr σ H fun vs H1=>∃ (i j c:Int) (n:Nat),vs=[.int i,.int j,.int c]∧RgC i j c n∧n≤2 ^ 20∧t σ H1 fun ys H2=>QA (rgC i c n++ys) H2):=⟨fun h=>starRg h⟩
theorem dictZip {p q:Bool} (h:tr σ H fun vs H1=>∃ (a b:Addr) (ks:List Key) (ys:List V),vs=[.ref a,.ref b]∧SqK K p H1 a (ks.map kV)∧SqK K q H1 b ys∧ks.length=ys.length∧ks.length≤sizeLine ∧
 ∀ d,H1 d=none→Q (.ref d) (upd H1 d (.dK (mergeK [] (ks.zip ys))))):tDictZip K p q tr σ H Q:=h
instance i_dictZip {p q:Bool}:RD.W1 (tDictZip K p q tr σ H Q) (tr σ H fun vs H1=>∃ (a b:Addr) (ks:List Key) (ys:List V),vs=[.ref a,.ref b]∧SqK K p H1 a (ks.map kV)∧SqK K q H1 b ys∧ks.length=ys.length∧ks.length≤sizeLine ∧
 ∀ d,H1 d=none→Q (.ref d) (upd H1 d (.dK (mergeK [] (ks.zip ys))))):=⟨fun h=>dictZip h⟩
theorem methR {C:Addr} {m:Str} {sp:Sp} {E:XK} (h:ta σ H fun x H1=>∃ a dx fs,x = .ref a∧H1 a=some (.ins C dx fs)∧fs.lookup m=none∧tr σ H1 fun vs H2=>sp (x :: vs) H2 Q E):tMethR C m sp E ta tr σ H Q:=h
instance i_methR {C:Addr} {m:Str} {sp:Sp} {E:XK}:RD.W1 (tMethR C m sp E ta tr σ H Q) (ta σ H fun x H1=>∃ a dx fs,x = .ref a∧H1 a=some (.ins C dx fs)∧fs.lookup m=none∧tr σ H1 fun vs H2=>sp (x :: vs) H2 Q E):=⟨fun h=>methR h⟩
theorem methSB {C:Addr} {m:Str} {g:Addr} {sp:Sp} {E:XK} {t1 t2:TE} (h:ta σ H fun x H1=>∃ a dx fs,x = .ref a∧H1 a=some (.ins C dx fs)∧fs.lookup m=none ∧
 ∀ q,H1 q=none→t1 σ (upd H1 q (.met g a)) fun y1 H2=>t2 σ H2 fun y2 H3=>∃ b vs,y2 = .ref b∧(SqT K H3 b vs∨SqL K H3 b vs)∧H3 q=some (.met g a)∧sp (.ref a :: y1 :: vs) H3 Q E):tMethSB K C m g sp E ta t1 t2 σ H Q:=h
instance i_methSB {C:Addr} {m:Str} {g:Addr} {sp:Sp} {E:XK} {t1 t2:TE}:RD.W1 (tMethSB K C m g sp E ta t1 t2 σ H Q) (ta σ H fun x H1=>∃ a dx fs,x = .ref a∧H1 a=some (.ins C dx fs)∧fs.lookup m=none ∧
 ∀ q,H1 q=none→t1 σ (upd H1 q (.met g a)) fun y1 H2=>t2 σ H2 fun y2 H3=>∃ b vs,y2 = .ref b∧(SqT K H3 b vs∨SqL K H3 b vs)∧H3 q=some (.met g a)∧sp (.ref a :: y1 :: vs) H3 Q E):=⟨fun h=>methSB h⟩
theorem iZm {p q:Bool} {R:It→Hp→Prop} (h:tr σ H fun vs H1=>∃ a b xs ys,vs=[.ref a,.ref b]∧SqK K p H1 a xs∧SqK K q H1 b ys∧R (ItzM K p q a b) H1):iZipM K p q tr σ H R:=h
instance i_iZm {p q:Bool} {R:It→Hp→Prop}:RD.W1 (iZipM K p q tr σ H R) (tr σ H fun vs H1=>∃ a b xs ys,vs=[.ref a,.ref b]∧SqK K p H1 a xs∧SqK K q H1 b ys∧R (ItzM K p q a b) H1):=⟨fun h=>iZm h⟩
theorem dinN (h:ty σ H fun y H1=>td σ H1 fun x H2=>(∃ a o,x = .ref a∧DGet H2 a y o∧Q (.bl o.isSome) H2)∨∃ a kvs,x = .ref a∧y = .non∧Rd H2 a (.dK kvs)∧Q (.bl false) H2):tDInN ty td σ H Q:=h
instance i_dinN  : RD.W1 (tDInN ty td σ H Q) (ty σ H fun y H1=>td σ H1 fun x H2=>(∃ a o,x = .ref a∧DGet H2 a y o∧Q (.bl o.isSome) H2)∨∃ a kvs,x = .ref a∧y = .non∧Rd H2 a (.dK kvs)∧Q (.bl false) H2):=⟨fun h=>dinN h⟩
theorem dnotinN (h:ty σ H fun y H1=>td σ H1 fun x H2=>(∃ a o,x = .ref a∧DGet H2 a y o∧Q (.bl (!o.isSome)) H2)∨∃ a kvs,x = .ref a∧y = .non∧Rd H2 a (.dK kvs)∧Q (.bl true) H2):tDNotInN ty td σ H Q:=h
instance i_dnotinN  : RD.W1 (tDNotInN ty td σ H Q) (ty σ H fun y H1=>td σ H1 fun x H2=>(∃ a o,x = .ref a∧DGet H2 a y o∧Q (.bl (!o.isSome)) H2)∨∃ a kvs,x = .ref a∧y = .non∧Rd H2 a (.dK kvs)∧Q (.bl true) H2):=⟨fun h=>dnotinN h⟩
theorem dnewT (h:∀ p,H p=none→Q (.ref p) (upd H p (.dT []))):tDNewT σ H Q:=h
instance i_dnewT  : RD.W1 (tDNewT σ H Q) (∀ p,H p=none→Q (.ref p) (upd H p (.dT []))):=⟨fun h=>dnewT h⟩
end
end RD

namespace Pf
open PySem PySem.Spec PyProof.Rows L2
def topS (i:Nat):Stmt:=PySem.Challenge.pw_halfmeshes_k53_books_refused.main.body.getD i (.Pass ⟨0,0,0,0⟩)
abbrev zfb:Stmt:=inClass (topS 2) 0
theorem zmj:FnScope ["self", "line"] ["self", "line"] (defScope zfb):=⟨rfl,rfl,rfl,by decide +kernel,rfl,by decide +kernel,by decide +kernel⟩
abbrev zd5:Stmt:=inClass (topS 3) 0
theorem zkr:FnScope ["self", "line", "name"] ["self", "line", "name"] (defScope zd5):=⟨rfl,rfl,rfl,by decide +kernel,rfl,by decide +kernel,by decide +kernel⟩
abbrev zei:Stmt:=inClass (topS 4) 0
theorem zlg:FnScope ["self", "line", "name"] ["self", "line", "name"] (defScope zei):=⟨rfl,rfl,rfl,by decide +kernel,rfl,by decide +kernel,by decide +kernel⟩
abbrev zfe:Stmt:=inClass (topS 5) 0
abbrev zi5:Stmt:=topS 17
theorem zlr:FnScope ["text", "char"] ["text"] (defScope zi5):=⟨rfl,rfl,rfl,by decide +kernel,rfl,by decide +kernel,by decide +kernel⟩
abbrev zk2:Stmt:=topS 18
theorem zqq:FnScope ["text"] ["text"] (defScope zk2):=⟨rfl,rfl,rfl,by decide +kernel,rfl,by decide +kernel,by decide +kernel⟩
abbrev zi3:Stmt:=topS 19
theorem zij:FnScope ["text", "name", "links", "link"] ["text"] (defScope zi3):=⟨rfl,rfl,rfl,by decide +kernel,rfl,by decide +kernel,by decide +kernel⟩
abbrev zkt:Stmt:=topS 20
theorem zhg:FnScope ["text", "start", "dot", "last", "path"] ["text"] (defScope zkt):=⟨rfl,rfl,rfl,by decide +kernel,rfl,by decide +kernel,by decide +kernel⟩
abbrev zhc:Stmt:=topS 21
theorem zil:FnScope ["words", "left", "right"] ["words"] (defScope zhc):=⟨rfl,rfl,rfl,by decide +kernel,rfl,by decide +kernel,by decide +kernel⟩
abbrev zfp:Stmt:=topS 22
theorem zm4:FnScope ["condition"] ["condition"] (defScope zfp):=⟨rfl,rfl,rfl,by decide +kernel,rfl,by decide +kernel,by decide +kernel⟩
abbrev zgo:Stmt:=inClass (topS 23) 0
theorem zno:FnScope ["self", "statement", "used", "bound"] ["self", "statement", "used", "bound"] (defScope zgo):=⟨rfl,rfl,rfl,by decide +kernel,rfl,by decide +kernel,by decide +kernel⟩
abbrev zds:Stmt:=inClass (topS 23) 1
theorem zb8:FnScope ["self", "names", "kind", "name"] ["self"] (defScope zds):=⟨rfl,rfl,rfl,by decide +kernel,rfl,by decide +kernel,by decide +kernel⟩
abbrev zjv:Stmt:=topS 24
theorem ziz:FnScope ["words", "side", "kind", "path"] ["words"] (defScope zjv):=⟨rfl,rfl,rfl,by decide +kernel,rfl,by decide +kernel,by decide +kernel⟩
abbrev zik:Stmt:=topS 25
theorem zf7:FnScope ["words", "name", "dot", "field", "value"] ["words"] (defScope zik):=⟨rfl,rfl,rfl,by decide +kernel,rfl,by decide +kernel,by decide +kernel⟩
abbrev zin:Stmt:=topS 26
theorem zhv:FnScope ["words", "name", "dot", "field"] ["words"] (defScope zin):=⟨rfl,rfl,rfl,by decide +kernel,rfl,by decide +kernel,by decide +kernel⟩
abbrev zf2:Stmt:=topS 27
theorem zjj:FnScope ["words", "condition"] ["words"] (defScope zf2):=⟨rfl,rfl,rfl,by decide +kernel,rfl,by decide +kernel,by decide +kernel⟩
abbrev zhq:Stmt:=topS 28
theorem zj3:FnScope ["words", "name"] ["words"] (defScope zhq):=⟨rfl,rfl,rfl,by decide +kernel,rfl,by decide +kernel,by decide +kernel⟩
abbrev zk4:Stmt:=topS 29
theorem zlx:FnScope ["line", "words", "head"] ["line"] (defScope zk4):=⟨rfl,rfl,rfl,by decide +kernel,rfl,by decide +kernel,by decide +kernel⟩
abbrev zgp:Stmt:=topS 30
theorem znt:FnScope ["kind", "needed"] ["kind", "needed"] (defScope zgp):=⟨rfl,rfl,rfl,by decide +kernel,rfl,by decide +kernel,by decide +kernel⟩
abbrev zha:Stmt:=topS 31
theorem zf9:FnScope ["line", "word", "head", "names", "name"] ["line", "word"] (defScope zha):=⟨rfl,rfl,rfl,by decide +kernel,rfl,by decide +kernel,by decide +kernel⟩
abbrev zeu:Stmt:=inClass (topS 32) 0
theorem zhm:FnScope ["self", "halves", "name"] ["self", "halves"] (defScope zeu):=⟨rfl,rfl,rfl,by decide +kernel,rfl,by decide +kernel,by decide +kernel⟩
abbrev zgj:Stmt:=inClass (topS 32) 1
theorem zj5:FnScope ["self", "name", "scope"] ["self", "name"] (defScope zgj):=⟨rfl,rfl,rfl,by decide +kernel,rfl,by decide +kernel,by decide +kernel⟩
abbrev ze9:Stmt:=inClass (topS 32) 2
theorem zmd:FnScope ["self"] ["self"] (defScope ze9):=⟨rfl,rfl,rfl,by decide +kernel,rfl,by decide +kernel,by decide +kernel⟩
abbrev ze2:Stmt:=inClass (topS 32) 3
theorem zlo:FnScope ["self"] ["self"] (defScope ze2):=⟨rfl,rfl,rfl,by decide +kernel,rfl,by decide +kernel,by decide +kernel⟩
abbrev zhw:Stmt:=inClass (topS 32) 4
theorem zhh:FnScope ["self", "form", "number", "name", "needed", "kind"] ["self", "form", "number"] (defScope zhw):=⟨rfl,rfl,rfl,by decide +kernel,rfl,by decide +kernel,by decide +kernel⟩
abbrev ze5:Stmt:=inClass (topS 32) 5
theorem zf4:FnScope ["self", "form", "kind", "name"] ["self", "form"] (defScope ze5):=⟨rfl,rfl,rfl,by decide +kernel,rfl,by decide +kernel,by decide +kernel⟩
abbrev zio:Stmt:=inClass (topS 32) 6
theorem zjb:FnScope ["self", "form", "name", "kind"] ["self", "form"] (defScope zio):=⟨rfl,rfl,rfl,by decide +kernel,rfl,by decide +kernel,by decide +kernel⟩
abbrev zc8:Stmt:=inClass (topS 33) 0
theorem zjm:FnScope ["self", "lines", "offset"] ["self", "lines", "offset"] (defScope zc8):=⟨rfl,rfl,rfl,by decide +kernel,rfl,by decide +kernel,by decide +kernel⟩
abbrev zej:Stmt:=inClass (topS 33) 1
theorem zcb:FnScope ["self", "names", "known", "at", "last", "told"] ["self"] (defScope zej):=⟨rfl,rfl,rfl,by decide +kernel,rfl,by decide +kernel,by decide +kernel⟩
abbrev zc5:Stmt:=inClass (topS 33) 2
theorem zcs:FnScope ["self", "at", "known", "number", "form", "statement"] ["self", "at", "known"] (defScope zc5):=⟨rfl,rfl,rfl,by decide +kernel,rfl,by decide +kernel,by decide +kernel⟩
abbrev zc0:Stmt:=inClass (topS 33) 3
theorem zax:FnScope ["self", "statement", "at", "head", "kind", "left", "right", "is_equal", "is_plain"] ["self", "statement", "at"] (defScope zc0):=⟨rfl,rfl,rfl,by decide +kernel,rfl,by decide +kernel,by decide +kernel⟩
abbrev zdg:Stmt:=inClass (topS 33) 4
theorem zjo:FnScope ["self", "statement", "known"] ["self", "statement", "known"] (defScope zdg):=⟨rfl,rfl,rfl,by decide +kernel,rfl,by decide +kernel,by decide +kernel⟩
abbrev ze0:Stmt:=inClass (topS 33) 5
theorem zdd:FnScope ["self", "statement", "at", "known", "head", "start", "has_else"] ["self", "statement", "at", "known"] (defScope ze0):=⟨rfl,rfl,rfl,by decide +kernel,rfl,by decide +kernel,by decide +kernel⟩
abbrev ze6:Stmt:=inClass (topS 34) 1
theorem zmp:FnScope ["self", "names", "told", "lines", "statements"] ["self", "names", "told", "lines", "statements"] (defScope ze6):=⟨rfl,rfl,rfl,by decide +kernel,rfl,by decide +kernel,by decide +kernel⟩
abbrev zhl:Stmt:=inClass (topS 34) 2
abbrev zfq:Stmt:=inClass (topS 37) 1
theorem zm5:FnScope ["self", "names", "told", "lines", "statements", "calls"] ["self", "names", "told", "lines", "statements", "calls"] (defScope zfq):=⟨rfl,rfl,rfl,by decide +kernel,rfl,by decide +kernel,by decide +kernel⟩
abbrev zh5:Stmt:=inClass (topS 37) 2
abbrev zh3:Stmt:=inClass (topS 37) 3
abbrev zge:Stmt:=topS 38
theorem zcd:FnScope ["words", "new", "at", "name", "halves", "used", "half"] ["words"] (defScope zge):=⟨rfl,rfl,rfl,by decide +kernel,rfl,by decide +kernel,by decide +kernel⟩
abbrev zhu:Stmt:=topS 39
theorem ziy:FnScope ["line", "words", "form"] ["line"] (defScope zhu):=⟨rfl,rfl,rfl,by decide +kernel,rfl,by decide +kernel,by decide +kernel⟩
abbrev zdn:Stmt:=inClass (topS 40) 0
theorem zkh:FnScope ["self", "lines", "offset", "deeds"] ["self", "lines", "offset", "deeds"] (defScope zdn):=⟨rfl,rfl,rfl,by decide +kernel,rfl,by decide +kernel,by decide +kernel⟩
abbrev zdq:Stmt:=inClass (topS 40) 1
theorem zbf:FnScope ["self", "names", "known", "at", "last", "told", "calls", "statement"] ["self"] (defScope zdq):=⟨rfl,rfl,rfl,by decide +kernel,rfl,by decide +kernel,by decide +kernel⟩
abbrev zdj:Stmt:=inClass (topS 40) 2
theorem zc1:FnScope ["self", "at", "known", "number", "form", "statement"] ["self", "at", "known"] (defScope zdj):=⟨rfl,rfl,rfl,by decide +kernel,rfl,by decide +kernel,by decide +kernel⟩
abbrev zc4:Stmt:=inClass (topS 40) 3
theorem zbd:FnScope ["self", "statement", "number", "head", "name", "halves", "new", "routine"] ["self", "statement", "number"] (defScope zc4):=⟨rfl,rfl,rfl,by decide +kernel,rfl,by decide +kernel,by decide +kernel⟩
abbrev zgn:Stmt:=inClass (topS 41) 0
theorem zns:FnScope ["self", "deeds"] ["self", "deeds"] (defScope zgn):=⟨rfl,rfl,rfl,by decide +kernel,rfl,by decide +kernel,by decide +kernel⟩
abbrev zgr:Stmt:=inClass (topS 41) 1
abbrev zgg:Stmt:=inClass (topS 41) 2
abbrev zhf:Stmt:=inClass (topS 41) 3
theorem zn7:FnScope ["self"] ["self"] (defScope zhf):=⟨rfl,rfl,rfl,by decide +kernel,rfl,by decide +kernel,by decide +kernel⟩
abbrev zj6:Stmt:=inClass (topS 41) 5
abbrev zi1:Stmt:=topS 42
theorem zcr:FnScope ["text", "deeds", "lines", "start", "end", "names", "deed"] ["text"] (defScope zi1):=⟨rfl,rfl,rfl,by decide +kernel,rfl,by decide +kernel,by decide +kernel⟩
abbrev zlu:Stmt:=topS 44
theorem zov:FnScope ["_law_script", "_law_k", "_law_cell"] ["_law_script", "_law_k"] (defScope zlu):=⟨rfl,rfl,rfl,by decide +kernel,rfl,by decide +kernel,by decide +kernel⟩
abbrev zlq:Stmt:=topS 45
theorem zm6:FnScope ["_law_tape_here", "_law_many", "_law_digit", "_law_mixed"] ["_law_tape_here", "_law_many"] (defScope zlq):=⟨rfl,rfl,rfl,by decide +kernel,rfl,by decide +kernel,by decide +kernel⟩
abbrev zkx:Stmt:=topS 46
theorem zbv:FnScope ["_law_choice", "_law_ends", "_law_join", "_law_swap", "_law_cut", "_law_drop", "_law_spur", "_law_part", "_law_texts"] ["_law_choice"] (defScope zkx):=⟨rfl,rfl,rfl,by decide +kernel,rfl,by decide +kernel,by decide +kernel⟩
abbrev zl6:Stmt:=topS 47
theorem zmt:FnScope ["_law_text", "_law_book", "e"] ["_law_text"] (defScope zl6):=⟨rfl,rfl,rfl,by decide +kernel,rfl,by decide +kernel,by decide +kernel⟩
abbrev znc:Stmt:=topS 48
theorem zrv:FnScope ["_law_lines", "_law_at", "_law_line"] ["_law_lines", "_law_at", "_law_line"] (defScope znc):=⟨rfl,rfl,rfl,by decide +kernel,rfl,by decide +kernel,by decide +kernel⟩
abbrev zi0:Stmt:=topS 49
theorem zbm:FnScope ["_law_lines", "_law_starts", "_law_choice", "_law_kind", "_law_second", "_law_third", "_law_at", "_law_gap", "_law_words", "_law_first", "_law_behind", "_law_last", "_law_wrong"] ["_law_lines", "_law_starts", "_law_choice", "_law_kind"] (defScope zi0):=⟨rfl,rfl,rfl,by decide +kernel,rfl,by decide +kernel,by decide +kernel⟩
abbrev zk3:Stmt:=topS 50
theorem zn0:FnScope ["_law_lines", "_law_choice", "_law_more"] ["_law_lines", "_law_choice"] (defScope zk3):=⟨rfl,rfl,rfl,by decide +kernel,rfl,by decide +kernel,by decide +kernel⟩
abbrev zga:Stmt:=topS 51
theorem zav:FnScope ["_law_lines", "_law_start", "_law_choice", "_law_kind", "_law_calls", "_law_call", "_law_halves", "_law_last", "_law_at", "_law_wrong", "_law_more", "_law_name", "_law_forms", "_law_k"] ["_law_lines", "_law_start", "_law_choice", "_law_kind", "_law_calls"] (defScope zga):=⟨rfl,rfl,rfl,by decide +kernel,rfl,by decide +kernel,by decide +kernel⟩
abbrev znd:Stmt:=topS 52
theorem zbe:FnScope ["_law_script", "_law_tape_here", "_law_choice", "_law_kind", "_law_both", "_law_deeds", "_law_lines", "_law_starts", "_law_k", "_law_names", "_law_body", "_law_halves", "_law_call", "_law_due", "_law_name", "_law_turn"] ["_law_script"] (defScope znd):=⟨rfl,rfl,rfl,by decide +kernel,rfl,by decide +kernel,by decide +kernel⟩
structure Ad where
 zbg:Addr
 zcf:FuncData
 zaw:Addr
 zbj:FuncData
 za4:Addr
 zbw:FuncData
 za5:Addr
 zb0:FuncData
 zg8:Addr
 zgz:FuncData
 zgv:Addr
 zg9:FuncData
 zgy:Addr
 zgw:FuncData
 zhb:Addr
 zgt:FuncData
 zd2:Addr
 zdy:FuncData
 zcj:Addr
 zck:FuncData
 zca:Addr
 zbh:FuncData
 zdx:Addr
 zdw:FuncData
 zf5:Addr
 zf3:FuncData
 zer:Addr
 zes:FuncData
 zey:Addr
 zet:FuncData
 zcw:Addr
 zct:FuncData
 zfm:Addr
 zfg:FuncData
 zg0:Addr
 zg6:FuncData
 zdi:Addr
 zdc:FuncData
 zex:Addr
 zeo:FuncData
 zbr:Addr
 zcx:FuncData
 zdf:Addr
 zc7:FuncData
 zce:Addr
 zcc:FuncData
 zb5:Addr
 zb7:FuncData
 zed:Addr
 zeb:FuncData
 zde:Addr
 zdk:FuncData
 zep:Addr
 zew:FuncData
 zar:Addr
 zba:FuncData
 zbu:Addr
 zbt:FuncData
 zay:Addr
 zaz:FuncData
 za1:Addr
 za0:FuncData
 za6:Addr
 za7:FuncData
 zb2:Addr
 zb4:FuncData
 zbi:Addr
 zcg:FuncData
 zdl:Addr
 zdm:FuncData
 zbl:Addr
 zcl:FuncData
 zd1:Addr
 zdt:FuncData
 zdr:Addr
 zdu:FuncData
 zfn:Addr
 zfl:FuncData
 zef:Addr
 zea:FuncData
 zat:Addr
 zbb:FuncData
 zb3:Addr
 zb6:FuncData
 za8:Addr
 za9:FuncData
 za3:Addr
 za2:FuncData
 zb9:Addr
 zc9:FuncData
 zbo:Addr
 zcz:FuncData
 zco:Addr
 zcp:FuncData
 zdv:Addr
 zdz:FuncData
 zfy:Addr
 zfu:FuncData
 zfo:Addr
 zfj:FuncData
 zh6:Addr
 zh1:FuncData
 zhy:Addr
 zhz:FuncData
 zgu:Addr
 zgx:FuncData
 zh8:Addr
 zic:FuncData
 ziv:Addr
 ziw:FuncData
 zfi:Addr
 zfh:FuncData
 zg7:Addr
 zg5:FuncData
 zec:Addr
 zee:FuncData
 zl5:Addr
 zky:FuncData
 zb1:Addr
 zah:Addr
 zel:Addr
 zhj:Addr
 zcy:Addr
 zbx:Addr
 zch:Addr
 zab:Addr
 zac:Addr
 zaf:Addr
 zag:Addr
 zap:Addr
 zas:Addr
 zaa:Addr
 zai:Addr
 zaj:Addr
 zad:Addr
 zbp:Addr
structure Txt (K:PySem.W.Frag) (mg:Str→Option Value) (A:Ad):Prop where
 zfa:Fun K "__init__" "BadLine.__init__" zfb A.zbg A.zcf
 zaq:Binds K A.zcf ["self", "line"] []
 zd3:Fun K "__init__" "UnknownName.__init__" zd5 A.zaw A.zbj
 zhr:Binds K A.zbj ["self", "line", "name"] []
 zek:Fun K "__init__" "WrongKind.__init__" zei A.za4 A.zbw
 zl3:Binds K A.zbw ["self", "line", "name"] []
 zfk:Fun K "__init__" "UnknownDeed.__init__" zfe A.za5 A.zb0
 zqi:Binds K A.zb0 ["self", "name"] []
 zfz:Fun K "is_word" "is_word" zi5 A.zg8 A.zgz
 zkv:Binds K A.zgz ["text"] []
 zk0:mg "is_word" = some (.ref A.zg8)
 zie:Fun K "is_name" "is_name" zk2 A.zgv A.zg9
 zoz:Binds K A.zg9 ["text"] []
 zo3:mg "is_name" = some (.ref A.zgv)
 zid:Fun K "path_of" "path_of" zi3 A.zgy A.zgw
 zo2:Binds K A.zgw ["text"] []
 zoy:mg "path_of" = some (.ref A.zgy)
 zgs:Fun K "side_of" "side_of" zkt A.zhb A.zgt
 zmr:Binds K A.zgt ["text"] []
 zm0:mg "side_of" = some (.ref A.zhb)
 zfv:Fun K "condition_of" "condition_of" zhc A.zd2 A.zdy
 zol:Binds K A.zdy ["words"] []
 zop:mg "condition_of" = some (.ref A.zd2)
 zeg:Fun K "condition_names" "condition_names" zfp A.zcj A.zck
 znf:Binds K A.zck ["condition"] []
 znh:mg "condition_names" = some (.ref A.zcj)
 zd8:RD.FunV K "__init__" "Form.__init__" zgo A.zca A.zbh
 znp:Binds K A.zbh ["self", "statement", "used", "bound"] [.ref A.zb1,.ref A.zah]
 zcu:Binds K A.zbh ["self", "statement", "used", "bound"] [.ref A.zah]
 ze7:Binds K A.zbh ["self", "statement", "used", "bound"] []
 zmv:∀ H:Hp,SqT K H A.zb1 []
 zbq:∀ H:Hp,SqT K H A.zah []
 zr8:Meth K A.zap "__init__" A.zca
 zhi:Fun K "is_good" "Form.is_good" zds A.zdx A.zdw
 zlc:Binds K A.zdw ["self"] []
 zlm:Meth K A.zap "is_good" A.zdx
 zhe:Fun K "let_form" "let_form" zjv A.zf5 A.zf3
 zn1:Binds K A.zf3 ["words"] []
 zn5:mg "let_form" = some (.ref A.zf5)
 zg2:Fun K "write_form" "write_form" zik A.zer A.zes
 zpu:Binds K A.zes ["words"] []
 zp4:mg "write_form" = some (.ref A.zer)
 zg4:Fun K "round_form" "round_form" zin A.zey A.zet
 zpx:Binds K A.zet ["words"] []
 zp2:mg "round_form" = some (.ref A.zey)
 zd0:Fun K "condition_form" "condition_form" zf2 A.zcw A.zct
 zko:Binds K A.zct ["words"] []
 zka:mg "condition_form" = some (.ref A.zcw)
 zgc:Fun K "tell_form" "tell_form" zhq A.zfm A.zfg
 znm:Binds K A.zfg ["words"] []
 znl:mg "tell_form" = some (.ref A.zfm)
 zi4:Fun K "form_of" "form_of" zk4 A.zg0 A.zg6
 zrc:Binds K A.zg6 ["line"] []
 zrk:mg "form_of" = some (.ref A.zg0)
 ze8:Fun K "is_right_kind" "is_right_kind" zgp A.zdi A.zdc
 zn8:Binds K A.zdc ["kind", "needed"] []
 znz:mg "is_right_kind" = some (.ref A.zdi)
 zfs:Fun K "first_line" "first_line" zha A.zex A.zeo
 zm9:Binds K A.zeo ["line", "word"] []
 zm2:mg "first_line" = some (.ref A.zex)
 zf1:Fun K "__init__" "Names.__init__" zeu A.zbr A.zcx
 zj8:Binds K A.zcx ["self", "halves"] []
 zrw:Meth K A.zas "__init__" A.zbr
 zgl:Fun K "kind_of" "Names.kind_of" zgj A.zdf A.zc7
 zgk:Binds K A.zc7 ["self", "name"] []
 zgm:Meth K A.zas "kind_of" A.zdf
 zfc:Fun K "open_block" "Names.open_block" ze9 A.zce A.zcc
 zi8:Binds K A.zcc ["self"] []
 zi2:Meth K A.zas "open_block" A.zce
 zez:Fun K "close_block" "Names.close_block" ze2 A.zb5 A.zb7
 zir:Binds K A.zb7 ["self"] []
 zit:Meth K A.zas "close_block" A.zb5
 zht:Fun K "check" "Names.check" zhw A.zed A.zeb
 zl7:Binds K A.zeb ["self", "form", "number"] []
 zl9:Meth K A.zas "check" A.zed
 zgq:Fun K "is_free" "Names.is_free" ze5 A.zde A.zdk
 zk6:Binds K A.zdk ["self", "form"] []
 zk5:Meth K A.zas "is_free" A.zde
 zii:Fun K "bind" "Names.bind" zio A.zep A.zew
 zmx:Binds K A.zew ["self", "form"] []
 znb:Meth K A.zas "bind" A.zep
 zdb:Fun K "__init__" "RoutineReader.__init__" zc8 A.zar A.zba
 zkd:Binds K A.zba ["self", "lines", "offset"] []
 zpr:Meth K A.zaa "__init__" A.zar
 zem:Fun K "read" "RoutineReader.read" zej A.zbu A.zbt
 zls:Binds K A.zbt ["self"] []
 zl4:Meth K A.zaa "read" A.zbu
 zc2:Fun K "read_line" "RoutineReader.read_line" zc5 A.zay A.zaz
 zjn:Binds K A.zaz ["self", "at", "known"] []
 zjr:Meth K A.zaa "read_line" A.zay
 zc6:Fun K "may_stand" "RoutineReader.may_stand" zc0 A.za1 A.za0
 zjx:Binds K A.za0 ["self", "statement", "at"] []
 zjl:Meth K A.zaa "may_stand" A.za1
 zda:Fun K "resolved" "RoutineReader.resolved" zdg A.za6 A.za7
 zkj:Binds K A.za7 ["self", "statement", "known"] []
 zkc:Meth K A.zaa "resolved" A.za6
 ze1:Fun K "add" "RoutineReader.add" ze0 A.zb2 A.zb4
 zmq:Binds K A.zb4 ["self", "statement", "at", "known"] []
 zmf:Meth K A.zaa "add" A.zb2
 zfd:Fun K "__init__" "Routine.__init__" ze6 A.zbi A.zcg
 zmz:Binds K A.zcg ["self", "names", "told", "lines", "statements"] []
 zq7:Meth K A.zai "__init__" A.zbi
 zhn:Fun K "__len__" "Routine.__len__" zhl A.zdl A.zdm
 zro:Binds K A.zdm ["self"] []
 zrq:Meth K A.zai "__len__" A.zdl
 zfr:Fun K "__init__" "Script.__init__" zfq A.zbl A.zcl
 zni:Binds K A.zcl ["self", "names", "told", "lines", "statements", "calls"] []
 zrp:Meth K A.zaj "__init__" A.zbl
 zh0:Fun K "__len__" "Script.__len__" zh5 A.zd1 A.zdt
 zr1:Binds K A.zdt ["self"] []
 zrs:Meth K A.zaj "__len__" A.zd1
 zh4:Fun K "routine" "Script.routine" zh3 A.zdr A.zdu
 zr2:Binds K A.zdu ["self", "name"] []
 zru:Meth K A.zaj "routine" A.zdr
 zho:Fun K "call_form" "call_form" zge A.zfn A.zfl
 zqj:Binds K A.zfl ["words"] []
 zqa:mg "call_form" = some (.ref A.zfn)
 zgb:Fun K "script_form" "script_form" zhu A.zef A.zea
 zpe:Binds K A.zea ["line"] []
 zpf:mg "script_form" = some (.ref A.zef)
 zdo:Fun K "__init__" "ScriptReader.__init__" zdn A.zat A.zbb
 zkq:Binds K A.zbb ["self", "lines", "offset", "deeds"] []
 zp5:Meth K A.zad "__init__" A.zat
 ze3:Fun K "read" "ScriptReader.read" zdq A.zb3 A.zb6
 zmk:Binds K A.zb6 ["self"] []
 zmh:Meth K A.zad "read" A.zb3
 zdh:Fun K "read_line" "ScriptReader.read_line" zdj A.za8 A.za9
 zj9:Binds K A.za9 ["self", "at", "known"] []
 zkk:Meth K A.zad "read_line" A.za8
 zc3:Fun K "check_call" "ScriptReader.check_call" zc4 A.za3 A.za2
 zjw:Binds K A.za2 ["self", "statement", "number"] []
 zjz:Meth K A.zad "check_call" A.za3
 zgi:Fun K "__init__" "Book.__init__" zgn A.zb9 A.zc9
 zn6:Binds K A.zc9 ["self", "deeds"] []
 zr5:Meth K A.zbp "__init__" A.zb9
 zg1:Fun K "__getitem__" "Book.__getitem__" zgr A.zbo A.zcz
 zrj:Binds K A.zcz ["self", "name"] []
 zrm:Meth K A.zbp "__getitem__" A.zbo
 zq2:PySem.W.fnIn K A.zbo=true
 zgh:Fun K "__contains__" "Book.__contains__" zgg A.zco A.zcp
 zq3:Binds K A.zcp ["self", "name"] []
 zq5:Meth K A.zbp "__contains__" A.zco
 zhd:Fun K "__len__" "Book.__len__" zhf A.zdv A.zdz
 zoi:Binds K A.zdz ["self"] []
 zlh:Meth K A.zbp "__len__" A.zdv
 zkf:Fun K "names" "Book.names" zj6 A.zfy A.zfu
 zsv:Binds K A.zfu ["self"] []
 zsx:Meth K A.zbp "names" A.zfy
 zhp:Fun K "read_book" "read_book" zi1 A.zfo A.zfj
 zqk:Binds K A.zfj ["text"] []
 zqe:mg "read_book" = some (.ref A.zfo)
 zkb:Fun K "_law_tape" "_law_tape" zlu A.zh6 A.zh1
 zr4:Binds K A.zh1 ["_law_script", "_law_k"] []
 zrt:mg "_law_tape" = some (.ref A.zh6)
 zev:Fun K "_law_pick" "_law_pick" zlq A.zhy A.zhz
 zib:Binds K A.zhz ["_law_tape_here", "_law_many"] []
 zh2:mg "_law_pick" = some (.ref A.zhy)
 zif:Fun K "_law_frame" "_law_frame" zkx A.zgu A.zgx
 zo1:Binds K A.zgx ["_law_choice"] []
 zou:mg "_law_frame" = some (.ref A.zgu)
 zj2:Fun K "_law_told" "_law_told" zl6 A.zh8 A.zic
 zrx:Binds K A.zic ["_law_text"] []
 zrr:mg "_law_told" = some (.ref A.zh8)
 zd7:Fun K "_law_put" "_law_put" znc A.ziv A.ziw
 zgf:Binds K A.ziw ["_law_lines", "_law_at", "_law_line"] []
 zgd:mg "_law_put" = some (.ref A.ziv)
 zhs:Fun K "_law_in_book" "_law_in_book" zi0 A.zfi A.zfh
 zqc:Binds K A.zfh ["_law_lines", "_law_starts", "_law_choice", "_law_kind"] []
 zqg:mg "_law_in_book" = some (.ref A.zfi)
 zi7:Fun K "_law_below" "_law_below" zk3 A.zg7 A.zg5
 zrb:Binds K A.zg5 ["_law_lines", "_law_choice"] []
 zrh:mg "_law_below" = some (.ref A.zg7)
 zf8:Fun K "_law_in_script" "_law_in_script" zga A.zec A.zee
 zpc:Binds K A.zee ["_law_lines", "_law_start", "_law_choice", "_law_kind", "_law_calls"] []
 zo7:mg "_law_in_script" = some (.ref A.zec)
 zn3:Fun K "law" "law" znd A.zl5 A.zky
 zs6:Binds K A.zky ["_law_script"] []
 zs0:mg "law" = some (.ref A.zl5)
 zsz:mg "MeshError" = some (.ref A.zch)
 zcm:mg "BadLine" = some (.ref A.zab)
 zrd:PySem.W.keepIn K (.ref A.zab)=true
 zm1:PySem.W.subIn K (.ref A.zab) (.type "BaseException")=some true
 zox:PySem.W.typeIn K (.ref A.zab)=some (.type "type")
 zq8:PySem.W.isClsIn K A.zab=true
 zqz:PySem.W.subIn K (.ref A.zab) (.ref A.zab)=some true
 zqy:PySem.W.findIn K (.ref A.zab) "__getattribute__" = some (some (.builtin "BaseException.__getattribute__"))
 zqx:PySem.W.findIn K (.ref A.zab) "__getattr__" = some none
 zq0:PySem.W.hasDictIn K A.zab=true
 zs3:PySem.W.findIn K (.ref A.zab) "__class__" = some (some (.builtin "object.__class__"))
 zs1:PySem.W.mroIn K A.zab (.type "object")=some true
 zqp:RD.oexB K A.zab=true
 zqt:PySem.W.findIn K (.ref A.zab) "__setattr__" = some (some (.builtin "object.__setattr__"))
 zby:PySem.W.findIn K (.ref A.zab) "__init__" = some (some (.ref A.zbg))
 zbz:PySem.W.typeIn K (.ref A.zbg)=some (.type "function")
 zkw:PySem.W.findIn K (.ref A.zab) "line" = some none
 zqu:PySem.W.kitOne K (.ref A.zab) (.ref A.zch)=some true
 zql:PySem.W.kitOne K (.ref A.zab) (.type "ValueError")=some true
 zjc:mg "UnknownName" = some (.ref A.zac)
 zo8:PySem.W.keepIn K (.ref A.zac)=true
 zjf:PySem.W.subIn K (.ref A.zac) (.type "BaseException")=some true
 zma:PySem.W.typeIn K (.ref A.zac)=some (.type "type")
 zo6:PySem.W.isClsIn K A.zac=true
 zoe:PySem.W.subIn K (.ref A.zac) (.ref A.zac)=some true
 zok:PySem.W.findIn K (.ref A.zac) "__getattribute__" = some (some (.builtin "BaseException.__getattribute__"))
 zog:PySem.W.findIn K (.ref A.zac) "__getattr__" = some none
 zom:PySem.W.hasDictIn K A.zac=true
 zsf:PySem.W.findIn K (.ref A.zac) "__class__" = some (some (.builtin "object.__class__"))
 zsg:PySem.W.mroIn K A.zac (.type "object")=some true
 zoq:RD.oexB K A.zac=true
 zoh:PySem.W.findIn K (.ref A.zac) "__setattr__" = some (some (.builtin "object.__setattr__"))
 zk1:PySem.W.findIn K (.ref A.zac) "__init__" = some (some (.ref A.zaw))
 zku:PySem.W.typeIn K (.ref A.zaw)=some (.type "function")
 zis:PySem.W.findIn K (.ref A.zac) "line" = some none
 ziq:PySem.W.findIn K (.ref A.zac) "name" = some none
 zpv:PySem.W.kitOne K (.ref A.zac) (.ref A.zch)=some true
 zpj:PySem.W.kitOne K (.ref A.zac) (.type "ValueError")=some true
 zk8:PySem.W.exmOne K (.ref A.zac) (.ref A.zab)=some false
 znk:mg "WrongKind" = some (.ref A.zaf)
 zqf:PySem.W.keepIn K (.ref A.zaf)=true
 zk9:PySem.W.subIn K (.ref A.zaf) (.type "BaseException")=some true
 znn:PySem.W.typeIn K (.ref A.zaf)=some (.type "type")
 zqb:PySem.W.isClsIn K A.zaf=true
 zpt:PySem.W.subIn K (.ref A.zaf) (.ref A.zaf)=some true
 zp0:PySem.W.findIn K (.ref A.zaf) "__getattribute__" = some (some (.builtin "BaseException.__getattribute__"))
 zpp:PySem.W.findIn K (.ref A.zaf) "__getattr__" = some none
 zpo:PySem.W.hasDictIn K A.zaf=true
 zss:PySem.W.findIn K (.ref A.zaf) "__class__" = some (some (.builtin "object.__class__"))
 zst:PySem.W.mroIn K A.zaf (.type "object")=some true
 zpz:RD.oexB K A.zaf=true
 zp1:PySem.W.findIn K (.ref A.zaf) "__setattr__" = some (some (.builtin "object.__setattr__"))
 zo9:PySem.W.findIn K (.ref A.zaf) "__init__" = some (some (.ref A.za4))
 zpd:PySem.W.typeIn K (.ref A.za4)=some (.type "function")
 zjk:PySem.W.findIn K (.ref A.zaf) "line" = some none
 zjg:PySem.W.findIn K (.ref A.zaf) "name" = some none
 zqd:PySem.W.kitOne K (.ref A.zaf) (.ref A.zch)=some true
 zp6:PySem.W.kitOne K (.ref A.zaf) (.type "ValueError")=some true
 zln:PySem.W.exmOne K (.ref A.zaf) (.ref A.zab)=some false
 zkl:PySem.W.exmOne K (.ref A.zaf) (.ref A.zac)=some false
 zsr:mg "UnknownDeed" = some (.ref A.zag)
 zsq:PySem.W.keepIn K (.ref A.zag)=true
 zsp:PySem.W.subIn K (.ref A.zag) (.type "BaseException")=some true
 zso:PySem.W.typeIn K (.ref A.zag)=some (.type "type")
 zsn:PySem.W.isClsIn K A.zag=true
 zsc:PySem.W.subIn K (.ref A.zag) (.ref A.zag)=some true
 zsh:PySem.W.findIn K (.ref A.zag) "__getattribute__" = some (some (.builtin "BaseException.__getattribute__"))
 zsi:PySem.W.findIn K (.ref A.zag) "__getattr__" = some none
 zsd:PySem.W.hasDictIn K A.zag=true
 zsk:PySem.W.findIn K (.ref A.zag) "__class__" = some (some (.builtin "object.__class__"))
 zsj:PySem.W.mroIn K A.zag (.type "object")=some true
 zsm:RD.oexB K A.zag=true
 zse:PySem.W.findIn K (.ref A.zag) "__setattr__" = some (some (.builtin "object.__setattr__"))
 zr6:PySem.W.findIn K (.ref A.zag) "__init__" = some (some (.ref A.za5))
 zr7:PySem.W.typeIn K (.ref A.za5)=some (.type "function")
 zq4:PySem.W.findIn K (.ref A.zag) "name" = some none
 zps:PySem.W.kitOne K (.ref A.zag) (.ref A.zch)=some true
 zpk:PySem.W.kitOne K (.ref A.zag) (.type "ValueError")=some true
 zfx:mg "Form" = some (.ref A.zap)
 zd9:Cls K A.zap
 zen:Mk K A.zap A.zca
 zih:NoAttr K A.zap "bound"
 zeq:NoAttr K A.zap "statement"
 zla:NoAttr K A.zap "uses"
 zqn:mg "Names" = some (.ref A.zas)
 zbs:Cls K A.zas
 zpl:Mk K A.zas A.zbr
 zfw:NoAttr K A.zas "scopes"
 zn9:mg "RoutineReader" = some (.ref A.zaa)
 zae:Cls K A.zaa
 znr:Mk K A.zaa A.zar
 zan:NoAttr K A.zaa "blocks"
 zbc:NoAttr K A.zaa "has_labels"
 zbn:NoAttr K A.zaa "lines"
 zd4:NoAttr K A.zaa "offset"
 zao:NoAttr K A.zaa "statements"
 zrn:mg "Routine" = some (.ref A.zai)
 zeh:Cls K A.zai
 zqs:Mk K A.zai A.zbi
 zki:NoAttr K A.zai "halves"
 zoc:NoAttr K A.zai "lines"
 zlj:NoAttr K A.zai "name"
 zly:NoAttr K A.zai "statements"
 zlk:NoAttr K A.zai "told"
 zlz:PySem.W.findIn K (.ref A.zai) "is_script" = some (some (.bool false))
 zlp:PySem.W.specialIn K (.bool false) "__get__" = some none
 zr0:mg "Script" = some (.ref A.zaj)
 zf0:Cls K A.zaj
 zq9:Mk K A.zaj A.zbl
 zoo:NoAttr K A.zaj "calls"
 zob:NoAttr K A.zaj "halves"
 zot:NoAttr K A.zaj "lines"
 zl8:NoAttr K A.zaj "name"
 zmm:NoAttr K A.zaj "statements"
 zpb:NoAttr K A.zaj "told"
 zmn:PySem.W.findIn K (.ref A.zaj) "is_script" = some (some (.bool true))
 zmo:PySem.W.specialIn K (.bool true) "__get__" = some none
 zor:mg "ScriptReader" = some (.ref A.zad)
 zal:Cls K A.zad
 znw:Mk K A.zad A.zat
 zf6:NoAttr K A.zad "deeds"
 zci:NoAttr K A.zad "lines"
 zft:NoAttr K A.zad "offset"
 zbk:NoAttr K A.zad "statements"
 zsw:mg "Book" = some (.ref A.zbp)
 zqm:Cls K A.zbp
 zsb:Mk K A.zbp A.zb9
 zna:NoAttr K A.zbp "deeds"
 zs2:mg "abs" = none
 zqw:mg "all" = none
 zra:mg "bool" = none
 zsy:mg "dict" = none
 zcn:mg "int" = none
 zau:mg "len" = none
 zrl:mg "list" = none
 zld:mg "range" = none
 zsa:mg "set" = none
 zr9:mg "str" = none
 zig:mg "tuple" = none
 zpi:∃ t,mg "FIRST_CHARS" = some (.str "abcdefghijklmnopqrstuvwxyz" t)
 zsl:∃ t,mg "CHARS" = some (.str "abcdefghijklmnopqrstuvwxyz0123456789" t)
 zm8:∃ t,mg "MOST_LINES_texts" = some (.int 60 t)
 zpa:∃ t,mg "MOST_BLOCKS" = some (.int 3 t)
 zpn:∃ t,mg "MOST_LINKS" = some (.int 4 t)
 zdp:∃ t,mg "HALF" = some (.str "half" t)
 zmw:∃ t,mg "MOST_LINES_books" = some (.int 20 t)
 zs5:PySem.W.specialIn K (.builtin "object.__class__") "__get__" = some (some (.builtin "getset_descriptor.__get__"))
 zs4:PySem.W.takesIn K (.builtin "object.__class__")=some true
 zel:mg "RESERVED" = some (.ref A.zel)
 zp7:∀ H:Hp,SqT K H A.zel [.str "routine", .str "script", .str "given", .str "let", .str "make", .str "drop", .str "if", .str "else", .str "end", .str "new", .str "round", .str "tell", .str "call", .str "next", .str "prev", .str "twin", .str "face", .str "corner", .str "some"]
 zhj:mg "LINKS" = some (.ref A.zhj)
 zry:∀ H:Hp,SqT K H A.zhj [.str "next", .str "prev", .str "twin"]
 zcy:mg "KINDS" = some (.ref A.zcy)
 zj1:∀ H:Hp,SqT K H A.zcy [.str "face", .str "corner"]
 zbx:mg "LABEL_LINES" = some (.ref A.zbx)
 zlf:∀ H:Hp,SqT K H A.zbx [.str "new", .str "bear", .str "round", .str "some"]
theorem Txt.te_BadLine {K:PySem.W.Frag} {mg:Str→Option Value} {A:Ad} (T:Txt K mg A):PySem.W.exmOne K (.ref A.zab) (.ref A.zab)=some true:=RD.exm_self T.zm1 T.zq8 T.zox T.zqz
theorem Txt.te_UnknownName {K:PySem.W.Frag} {mg:Str→Option Value} {A:Ad} (T:Txt K mg A):PySem.W.exmOne K (.ref A.zac) (.ref A.zac)=some true:=RD.exm_self T.zjf T.zo6 T.zma T.zoe
theorem Txt.te_WrongKind {K:PySem.W.Frag} {mg:Str→Option Value} {A:Ad} (T:Txt K mg A):PySem.W.exmOne K (.ref A.zaf) (.ref A.zaf)=some true:=RD.exm_self T.zk9 T.zqb T.znn T.zpt
theorem Txt.xf_BadLine {K:PySem.W.Frag} {mg:Str→Option Value} {A:Ad} (T:Txt K mg A):XfC K A.zab:=⟨T.zqy,T.zqx,T.zm1,T.zq0⟩
theorem Txt.oex_BadLine {K:PySem.W.Frag} {mg:Str→Option Value} {A:Ad} (T:Txt K mg A):OexC K A.zab:=RD.oexC T.zqp T.zqt T.zm1 T.zox T.zrd
theorem Txt.xf_UnknownName {K:PySem.W.Frag} {mg:Str→Option Value} {A:Ad} (T:Txt K mg A):XfC K A.zac:=⟨T.zok,T.zog,T.zjf,T.zom⟩
theorem Txt.oex_UnknownName {K:PySem.W.Frag} {mg:Str→Option Value} {A:Ad} (T:Txt K mg A):OexC K A.zac:=RD.oexC T.zoq T.zoh T.zjf T.zma T.zo8
theorem Txt.xf_WrongKind {K:PySem.W.Frag} {mg:Str→Option Value} {A:Ad} (T:Txt K mg A):XfC K A.zaf:=⟨T.zp0,T.zpp,T.zk9,T.zpo⟩
theorem Txt.oex_WrongKind {K:PySem.W.Frag} {mg:Str→Option Value} {A:Ad} (T:Txt K mg A):OexC K A.zaf:=RD.oexC T.zpz T.zp1 T.zk9 T.znn T.zqf
end Pf
def PySem.W.Fast.tw9600125086957569621:Nat:=0
def PySem.W.Fast.tw7325098558872208734:Nat:=0
def PySem.W.Fast.tw12012348736326917047:Nat:=0
def PySem.W.Fast.tw8438657852306444882:Nat:=0
def PySem.W.Fast.tw8640288026501145242:Nat:=0
def PySem.W.Fast.tw14877572357494741122:Nat:=0
def PySem.W.Fast.tw18000457055225211402:Nat:=0
def PySem.W.Fast.tw779931698898595135:Nat:=0
def PySem.W.Fast.tw11034937633654607724:Nat:=0
def PySem.W.Fast.tw10815243614317051354:Nat:=0
def PySem.W.Fast.tw938483642774417717:Nat:=0
def PySem.W.Fast.tw7256146988509941291:Nat:=0
def PySem.W.Fast.tw15230407615138457686:Nat:=0
def PySem.W.Fast.tw4870578361579724441:Nat:=0
def PySem.W.Fast.tw16771623603315878660:Nat:=0
def PySem.W.Fast.tw7289906060989722390:Nat:=0
def PySem.W.Fast.tw3275896796225978468:Nat:=0
def PySem.W.Fast.tw12704794291157273355:Nat:=0
def PySem.W.Fast.tw7589277294899363264:Nat:=0
def PySem.W.Fast.tw12334440290283674368:Nat:=0
def PySem.W.Fast.tw9371316699623088255:Nat:=0
def PySem.W.Fast.tw14499912283477748386:Nat:=0
def PySem.W.Fast.tw9004524299306864130:Nat:=0
def PySem.W.Fast.tw5634647540409142960:Nat:=0
def PySem.W.Fast.tw12466574353093135618:Nat:=0
def PySem.W.Fast.tw4620174243353849940:Nat:=0
def PySem.W.Fast.tw9489008886877806710:Nat:=0
def PySem.W.Fast.tw8039234470211150254:Nat:=0
def PySem.W.Fast.tw18048615905335055216:Nat:=0
def PySem.W.Fast.tw8048614476953318262:Nat:=0
def PySem.W.Fast.tw6378719107228935163:Nat:=0
def PySem.W.Fast.tw1970569549076360714:Nat:=0
def PySem.W.Fast.tw16827439278351622627:Nat:=0
def PySem.W.Fast.tw11751857740838358623:Nat:=0
def PySem.W.Fast.tw11230406775018286630:Nat:=0
namespace HB
open PySem PySem.Spec PyProof.Rows L2
abbrev Frag:=PySem.W.Frag
inductive Lo
 | glo (x:Str)
 | met (C m:Str)
 | prp (C m:Str)
def fA (K:Frag):Lo→Addr
 | .glo x=>He.ga K x
 | .met C m=>He.ma K (He.ga K C) m
 | .prp C m=>match PySem.W.recIn K (He.ma K (He.ga K C) m) "property" with
  | some (.ref f :: _)=>f
  | _=>0
def fdOf (K:Frag) (f:Addr):FuncData:=match K.lookup f with
 | some ⟨_,_,.func fd,_⟩=>fd
 | _=>default
abbrev FnW:=He.FnW
def fnW (K:Frag) (f:Addr):FnW:=match K.lookup f with
 | some ⟨_,_,.func fd,_⟩=>some (fd.name,fd.qualname,fd.params,fd.body,fd.scope,fd.globals,fd.closure,fd.builtins)
 | _=>none
structure DefB where
 at_:Lo
 name:Str
 qual:Str
 st:Stmt
 dfl:Nat
def DefB.val (d:DefB):FnW:=some (d.name,d.qual,defArgs d.st,.stmts (defBody d.st),defScope d.st,mainGlobals,[],builtinsNs)
def dT (K:Frag) (f:Addr):Addr:=match (fdOf K f).defaults with
 | .ref T=>T
 | _=>0
def eT (K:Frag) (f:Addr) (i:Nat):Addr:=match K.lookup (dT K f) with
 | some ⟨_,_,.seq its _,_⟩=>(match its.toList[i]? with
  | some (.ref a)=>a
  | _=>0)
 | _=>0
def seqIs (K:Frag) (a:Addr) (vs:List Value):Bool:=match K.lookup a with
 | some ⟨.type c,_,.seq its _,_⟩=>decide (c = "tuple") && decide (its.toList=vs)
 | _=>false
theorem seqIs_ok {K:Frag} {a:Addr} {vs:List Value} (h:seqIs K a vs=true):∃ od n sl,K.lookup a=some ⟨.type "tuple", od,.seq vs.toArray n,sl⟩:=by
 unfold seqIs at h
 split at h
 ·next q =>
  rw [Bool.and_eq_true] at h
  rw [q,of_decide_eq_true h.1,← of_decide_eq_true h.2,Array.toArray_toList]
  exact ⟨_,_,_,rfl⟩
 ·cases h
def dflOk (K:Frag) (f:Addr):Nat→Bool
 | 0=>(match (fdOf K f).defaults with
  | .none=>true
  | _=>false)
 | n + 1=>(match (fdOf K f).defaults with
  | .ref _=>true
  | _=>false) && (seqIs K (dT K f) ((List.range (n + 1)).map fun i => .ref (eT K f i)) && (List.range (n + 1)).all fun i=>seqIs K (eT K f i) [])
def DefB.ok (K:Frag) (d:DefB):Bool:=PySem.W.keepIn K (.ref (fA K d.at_)) && (PySem.W.codeIn K (fdOf K (fA K d.at_)).code d.qual && dflOk K (fA K d.at_) d.dfl)
theorem DefB.fun_ {K:Frag} {d:DefB} (e:fnW K (fA K d.at_)=d.val) (c:d.ok K=true):∃ (oc:Value) (od:Option Addr) (dV kV doc pm:Value) (an:Option Addr) (cdv ct:Value) (osl:Array (Option Value)),
  fdOf K (fA K d.at_)=PySem.W.fnOf d.name d.qual (defArgs d.st) (defBody d.st) (defScope d.st) dV kV doc pm an cdv ct∧K.lookup (fA K d.at_)=some ⟨oc,od,.func (fdOf K (fA K d.at_)),osl⟩∧PySem.W.codeIn K cdv d.qual=true∧dV=(fdOf K (fA K d.at_)).defaults:=by
 unfold DefB.ok at c
 rw [Bool.and_eq_true,Bool.and_eq_true] at c
 obtain ⟨_,c2,_⟩:=c
 revert e c2
 generalize fA K d.at_=f
 unfold fnW fdOf
 intro e c2
 cases q:K.lookup f with
 | none =>
  rw [q] at e
  cases e
 | some o =>
  obtain ⟨oc,od,dt,osl⟩:=o
  rw [q] at e c2
  cases dt with
  | func fd =>
   obtain ⟨n1,n2,n3,n4,n5,n6,n7,n8,n9,n10,n11,n12,n13,n14,n15⟩:=fd
   have e2:(some (n1,n2,n3,n4,n5,n6,n7,n15):FnW)=some (d.name,d.qual,defArgs d.st,.stmts (defBody d.st),defScope d.st,mainGlobals,[],builtinsNs):=e
   simp only [Option.some.injEq,Prod.mk.injEq] at e2
   obtain ⟨h1,h2,h3,h4,h5,h6,h7,h8⟩:=e2
   subst h1 h2 h3 h4 h5 h6 h7 h8
   exact ⟨oc,od,n8,n9,n10,n11,n12,n13,n14,osl,rfl,rfl,c2,rfl⟩
  | _=>cases e
theorem DefB.keep {K:Frag} {d:DefB} (c:d.ok K=true):PySem.W.keepIn K (.ref (fA K d.at_))=true:=by
 unfold DefB.ok at c
 rw [Bool.and_eq_true] at c
 exact c.1
theorem DefB.fun0 {K:Frag} {d:DefB} (e:fnW K (fA K d.at_)=d.val) (c:d.ok K=true) (h:d.dfl=0):Fun K d.name d.qual d.st (fA K d.at_) (fdOf K (fA K d.at_)):=by
 obtain ⟨oc,od,dV,kV,doc,pm,an,cdv,ct,osl,e1,e2,e3,e4⟩:=DefB.fun_ e c
 have k:=DefB.keep c
 unfold DefB.ok at c
 rw [Bool.and_eq_true,Bool.and_eq_true,h] at c
 have c3:=c.2.2
 unfold dflOk at c3
 have hd:dV = .none:=by
  rw [e4]
  revert c3
  cases (fdOf K (fA K d.at_)).defaults with
  | none=>intro _; rfl
  | _=>intro z; cases z
 subst hd
 exact ⟨⟨oc,od,kV,doc,pm,an,cdv,ct,osl,e1,e2,e3⟩,k⟩
abbrev Al:Type:=(Bool × List FnW) × List (Option (List (Option (Str × Int))))
abbrev DsB:Type:=List (Str × List Str)
def obsX (chk:Frag→Bool) (fn:List DefB) (ds:DsB) (K:Frag):Al:=((chk K && fn.all fun d=>d.ok K,fn.map fun d=>fnW K (fA K d.at_)),ds.map fun t=>He.dicW K (He.ga K t.1))
def valX (fn:List DefB) (ds:DsB) (w:World):Al:=((true,fn.map DefB.val),ds.map fun t=>some (He.keysIn w.params t.2))
def Says (chk:Frag→Bool) (fn:List DefB) (ds:DsB) (w:World) (K:Frag):Prop:=obsX chk fn ds K=valX fn ds w
def obsG (n:Nat) (chk:Frag→Bool) (fn:List DefB) (ds:DsB) (g:Addr→Option Obj):Al:=obsX chk fn ds (He.frG g (He.asD g n))
def hook (n:Nat) (chk:Frag→Bool) (fn:List DefB) (ds:DsB):PySem.W.Hook where
 α:=Al
 obs:=fun s=>obsG n chk fn ds s.heap.get?
 val:=fun w=>valX fn ds w
 says:=fun w h=>∃ K:Frag,K.In h∧Says chk fn ds w K
 of:=fun _ _ e=>⟨_,He.frG_in,e⟩
 keeps:=fun _ _ _ ⟨K,hK,c⟩ k=>⟨K,PySem.W.Frag.In.keeps hK k,c⟩
theorem obsG_eq {n:Nat} {chk:Frag→Bool} {fn:List DefB} {ds:DsB} {g:Addr→Option Obj} {s:Shared} (h:∀ a,g a=s.heap.get? a):obsG n chk fn ds g=(hook n chk fn ds).obs s:=by
 have e:g=s.heap.get? := funext h
 rw [e] <;> rfl
section
variable {ch:Frag→Bool} {fn:List DefB} {ds:DsB} {w:World} {K:Frag}
theorem Says.chkT (c:Says ch fn ds w K):ch K=true:=(Bool.and_eq_true_iff.mp (show (ch K && fn.all fun d=>d.ok K)=true from congrArg (fun z:Al=>z.1.1) c)).1
theorem Says.oks (c:Says ch fn ds w K):(fn.all fun d=>DefB.ok K d)=true:=(Bool.and_eq_true_iff.mp (show (ch K && fn.all fun d=>d.ok K)=true from congrArg (fun z:Al=>z.1.1) c)).2
theorem Says.eqs (c:Says ch fn ds w K):fn.map (fun d=>fnW K (fA K d.at_))=fn.map DefB.val:=congrArg (fun z:Al=>z.1.2) c
theorem Says.dic (c:Says ch fn ds w K) {n:Str} {ks:List Str} (i:Nat) (h:ds[i]? = some (n,ks)):∃ es m,KDict K w (He.ga K n) es m:=by
 have e:ds.map (fun t=>He.dicW K (He.ga K t.1))=ds.map fun t=>some (He.keysIn w.params t.2):=congrArg (fun z:Al=>z.2) c
 have e2:(ds.map fun t=>He.dicW K (He.ga K t.1))[i]? = (ds.map fun t=>some (He.keysIn w.params t.2))[i]? := by rw [e]
 rw [List.getElem?_map,List.getElem?_map,h] at e2
 exact He.dicW_ok (Option.some.inj e2)
end
theorem stE {K:Frag} {d:DefB} {L:List DefB} (r:(d :: L).map (fun d=>fnW K (fA K d.at_))=(d :: L).map DefB.val):fnW K (fA K d.at_)=d.val∧L.map (fun d=>fnW K (fA K d.at_))=L.map DefB.val:=List.cons.inj r
theorem stQ {K:Frag} {d:DefB} {L:List DefB} (q:((d :: L).all fun d=>DefB.ok K d)=true):d.ok K=true∧(L.all fun d=>DefB.ok K d)=true:=Bool.and_eq_true_iff.mp q
theorem bs {a b:Bool} (h:(a && b)=true):a=true∧b=true:=Bool.and_eq_true_iff.mp h
def mthB (K:Frag) (C m:Str):Bool:=decide (PySem.W.findIn K (.ref (He.ga K C)) m=some (some (.ref (He.ma K (He.ga K C) m)))) && (PySem.W.isFn K (.ref (He.ma K (He.ga K C) m)) && PySem.W.keepIn K (.ref (He.ma K (He.ga K C) m)))
theorem mth_ok {K:Frag} {C m:Str} (h:mthB K C m=true):Meth K (He.ga K C) m (He.ma K (He.ga K C) m):=by
 obtain ⟨h1,h2⟩:=bs h
 obtain ⟨h2,h3⟩:=bs h2
 exact ⟨of_decide_eq_true h1,h2,h3⟩
def gloB (K:Frag) (x:Str):Bool:=decide (PySem.W.nsIn K mainGlobals x=some (some (.ref (He.ga K x))))
theorem glo_ok {K:Frag} {h:Heap} {mg:Str→Option Value} (X:K.In h) (G:h.Ns mainGlobals mg) {x:Str} (c:gloB K x=true):mg x=some (.ref (He.ga K x)):=PySem.W.mg_of X G (of_decide_eq_true c)
def freeB (K:Frag) (x:Str):Bool:=decide (PySem.W.nsIn K mainGlobals x=some none)
theorem free_ok {K:Frag} {h:Heap} {mg:Str→Option Value} (X:K.In h) (G:h.Ns mainGlobals mg) {x:Str} (c:freeB K x=true):mg x=none:=PySem.W.mg_none_of X G (of_decide_eq_true c)
def clsB (K:Frag) (C:Str):Bool:=PySem.W.plainGet K (He.ga K C) Str.empty && (PySem.W.hasDictIn K (He.ga K C) && (PySem.W.plainOver K (He.ga K C) && decide (PySem.W.findIn K (.ref (He.ga K C)) "__setattr__" = some (some (.builtin "object.__setattr__")))))
theorem cls_ok {K:Frag} {C:Str} (h:clsB K C=true):Cls K (He.ga K C):=by
 obtain ⟨h1,h⟩:=bs h
 obtain ⟨h2,h⟩:=bs h
 obtain ⟨h3,h4⟩:=bs h
 exact ⟨h1,h2,h3,of_decide_eq_true h4⟩
def mkB (K:Frag) (C:Str):Bool:=PySem.W.makesIn K (He.ga K C) && (decide (PySem.W.findIn K (.ref (He.ga K C)) "__init__" = some (some (.ref (He.ma K (He.ga K C) "__init__")))) && (PySem.W.isFn K (.ref (He.ma K (He.ga K C) "__init__")) && PySem.W.keepIn K (.ref (He.ga K C))))
theorem mk_ok {K:Frag} {C:Str} (h:mkB K C=true):Mk K (He.ga K C) (He.ma K (He.ga K C) "__init__"):=by
 obtain ⟨h1,h⟩:=bs h
 obtain ⟨h2,h⟩:=bs h
 obtain ⟨h3,h4⟩:=bs h
 exact ⟨h1,of_decide_eq_true h2,h3,h4⟩
def natB (K:Frag) (C f:Str):Bool:=decide (PySem.W.findIn K (.ref (He.ga K C)) f=some none)
theorem nat_ok {K:Frag} {C f:Str} (h:natB K C f=true):NoAttr K (He.ga K C) f:=(of_decide_eq_true h:PySem.W.findIn K (.ref (He.ga K C)) f=some none)
def prpB (K:Frag) (C m:Str):Bool:=decide (PySem.W.findIn K (.ref (He.ga K C)) m=some (some (.ref (He.ma K (He.ga K C) m)))) && (decide (PySem.W.specialIn K (.ref (He.ma K (He.ga K C) m)) "__get__" = some (some (.builtin "property.__get__"))) && (decide (PySem.W.takesIn K (.ref (He.ma K (He.ga K C) m))=some true) &&
 (match PySem.W.recIn K (He.ma K (He.ga K C) m) "property" with
  | some (.ref _ :: _)=>true
  | _=>false)))
theorem prp_ok {K:Frag} {C m:Str} (h:prpB K C m=true):PropOf K (He.ga K C) m (He.ma K (He.ga K C) m) (fA K (.prp C m)):=by
 obtain ⟨h1,h⟩:=bs h
 obtain ⟨h2,h⟩:=bs h
 obtain ⟨h3,h4⟩:=bs h
 refine ⟨of_decide_eq_true h1,of_decide_eq_true h2,of_decide_eq_true h3,?_⟩
 show ∃ rest,PySem.W.recIn K (He.ma K (He.ga K C) m) "property" = some (.ref (match PySem.W.recIn K (He.ma K (He.ga K C) m) "property" with
  | some (.ref f :: _)=>f
  | _=>0) :: rest)
 split at h4
 ·next q=>rw [q]; exact ⟨_,rfl⟩
 ·cases h4
def strsB (K:Frag) (x:Str) (zs:List Str):Bool:=gloB K x && (match K.lookup (He.ga K x) with
 | some ⟨.type c,_,.seq its _,_⟩=>decide (c = "tuple") && (decide (its.size≤1000) && He.relAll (zs.map V.str) its.toList)
 | _=>false)
theorem strs_ok {K:Frag} {x:Str} {zs:List Str} (h:strsB K x zs=true) (H:Hp):SqT K H (He.ga K x) (zs.map V.str):=by
 obtain ⟨_,h⟩:=bs h
 split at h
 ·next q =>
  obtain ⟨h1,h⟩:=bs h
  obtain ⟨h2,h3⟩:=bs h
  exact .inr ⟨_,_,_,q,congrArg Value.type (of_decide_eq_true h1),rfl,Nat.le_trans (of_decide_eq_true h2) (by decide),He.relAll_ok h3⟩
 ·cases h
def constB (K:Frag) (x:Str) (v:V):Bool:=match PySem.W.nsIn K mainGlobals x with
 | some (some u)=>He.relB v u
 | _=>false
theorem const_ok {K:Frag} {h:Heap} {mg:Str→Option Value} (X:K.In h) (G:h.Ns mainGlobals mg) {x:Str} {v:V} (c:constB K x v=true):∃ u,mg x=some u∧RelV v u:=by
 unfold constB at c
 split at c
 ·next q=>exact ⟨_,PySem.W.mg_of X G q,He.relB_ok c⟩
 ·cases c
def dvalB (K:Frag) (n a b:Str):Bool:=match PySem.W.nsIn K (He.ga K n) a with
 | some (some u)=>He.relB (.str b) u
 | _=>false
theorem kdct_ok {K:Frag} {w:World} {n a b:Str} (h:∃ es m,KDict K w (He.ga K n) es m) (d:dvalB K n a b=true):KDct K w (He.ga K n) a (.str b):=by
 obtain ⟨es,m,h⟩:=h
 unfold dvalB at d
 split at d
 ·next q=>exact ⟨es,m,_,h.at_,h.lit,q,He.relB_ok d⟩
 ·cases d
theorem DefB.funV {K:Frag} {d:DefB} (e:fnW K (fA K d.at_)=d.val) (c:d.ok K=true):RD.FunV K d.name d.qual d.st (fA K d.at_) (fdOf K (fA K d.at_)):=by
 obtain ⟨oc,od,dV,kV,doc,pm,an,cdv,ct,osl,e1,e2,e3,e4⟩:=DefB.fun_ e c
 exact ⟨⟨oc,od,dV,kV,doc,pm,an,cdv,ct,osl,e1,e2,e3⟩,DefB.keep c⟩
theorem DefB.dflT {K:Frag} {d:DefB} (c:d.ok K=true) {n:Nat} (h:d.dfl=n + 1):(fdOf K (fA K d.at_)).defaults = .ref (dT K (fA K d.at_)) ∧
  (∃ od m sl,K.lookup (dT K (fA K d.at_))=some ⟨.type "tuple", od,.seq ((List.range (n + 1)).map fun i=>Value.ref (eT K (fA K d.at_) i)).toArray m,sl⟩)∧∀ i,i < n + 1→∃ od m sl,K.lookup (eT K (fA K d.at_) i)=some ⟨.type "tuple", od,.seq #[] m,sl⟩:=by
 unfold DefB.ok at c
 rw [Bool.and_eq_true,Bool.and_eq_true,h] at c
 have c3:=c.2.2
 unfold dflOk at c3
 rw [Bool.and_eq_true,Bool.and_eq_true,List.all_eq_true] at c3
 refine ⟨?_,seqIs_ok c3.2.1,fun i hi=>seqIs_ok (c3.2.2 i (List.mem_range.mpr hi))⟩
 have:=c3.1
 unfold dT
 revert this
 cases (fdOf K (fA K d.at_)).defaults with
 | ref T=>intro _; rfl
 | _=>intro z; cases z
theorem funV_binds {K:Frag} {x qual:Str} {st:Stmt} {f T:Addr} {fd:FuncData} {ps:List Str} {ds:List Value} {its:Array Value} (F:RD.FunV K x qual st f fd) (e:fd.defaults = .ref T) (l:∃ od m sl,K.lookup T=some ⟨.type "tuple", od,.seq its m,sl⟩)
  (h:∀ (kV doc pm:Value) (an:Option Addr) (cdv ct:Value) (od:Option Addr) (m:Nat) (sl:Array (Option Value)),K.lookup T=some ⟨.type "tuple", od,.seq its m,sl⟩→Binds K (PySem.W.fnOf x qual (defArgs st) (defBody st) (defScope st) (.ref T) kV doc pm an cdv ct) ps ds):Binds K fd ps ds:=by
 obtain ⟨oc,od,dV,kV,doc,pm,an,cdv,ct,osl,rfl,lk,hcd⟩:=F.ex
 obtain ⟨od,m,sl,l⟩:=l
 have e:dV = .ref T:=e
 subst e
 exact h kV doc pm an cdv ct od m sl l
theorem emp_ok {K:Frag} {a:Addr} (l:∃ od m sl,K.lookup a=some ⟨.type "tuple", od,.seq #[] m,sl⟩) (H:Hp):SqT K H a []:=by
 obtain ⟨od,m,sl,l⟩:=l
 exact .inr ⟨_,_,_,l,rfl,rfl,Nat.zero_le _,.nil⟩
end HB
namespace HB
open PySem PySem.Spec PyProof.Rows L2
def upT:Nat→List Addr
 | 0=>[]
 | n + 1=>n :: upT n
def obsS (chk:Frag→Bool) (fn:List DefB) (ds:DsB) (s:Shared):Al:=match HandSHeadRun.treeOf s with
 | some x=>HandSHeadRun.frS x fun x=>obsX chk fn ds (He.frG (HandSHeadRun.getT x) (upT x.n))
 | none=>((false,[]),[])
theorem obsS_of {chk:Frag→Bool} {fn:List DefB} {ds:DsB} {w:World} {s:Shared} (e:obsS chk fn ds s=valX fn ds w):∃ K:Frag,K.In s.heap∧Says chk fn ds w K:=by
 unfold obsS at e
 cases q:HandSHeadRun.treeOf s with
 | none =>
  rw [q] at e
  have z:false=true:=congrArg (fun z:Al=>z.1.1) e
  cases z
 | some x =>
  rw [q] at e
  have e2:HandSHeadRun.frS x (fun x=>obsX chk fn ds (He.frG (HandSHeadRun.getT x) (upT x.n)))=valX fn ds w:=e
  rw [HandSHeadRun.frS_eq] at e2
  have eg:HandSHeadRun.getT x=s.heap.get? := funext fun a=>by rw [HandSHeadRun.getT_eq,(HandSHeadRun.treeOf_eq q).1]
  rw [eg] at e2
  exact ⟨_,He.frG_in,e2⟩
def hookS (chk:Frag→Bool) (fn:List DefB) (ds:DsB):PySem.W.Hook where
 α:=Al
 obs:=fun s=>obsS chk fn ds s
 val:=fun w=>valX fn ds w
 says:=fun w h=>∃ K:Frag,K.In h∧Says chk fn ds w K
 of:=fun _ _ e=>obsS_of e
 keeps:=fun _ _ _ ⟨K,hK,c⟩ k=>⟨K,PySem.W.Frag.In.keeps hK k,c⟩
end HB
namespace Pf
open PySem PySem.Spec PyProof.Rows L2
abbrev dB0:HB.DefB:=⟨.met "BadLine" "__init__", "__init__", "BadLine.__init__", zfb,0⟩
abbrev dB1:HB.DefB:=⟨.met "UnknownName" "__init__", "__init__", "UnknownName.__init__", zd5,0⟩
abbrev dB2:HB.DefB:=⟨.met "WrongKind" "__init__", "__init__", "WrongKind.__init__", zei,0⟩
abbrev dB3:HB.DefB:=⟨.met "UnknownDeed" "__init__", "__init__", "UnknownDeed.__init__", zfe,0⟩
abbrev dB4:HB.DefB:=⟨.glo "is_word", "is_word", "is_word", zi5,0⟩
abbrev dB5:HB.DefB:=⟨.glo "is_name", "is_name", "is_name", zk2,0⟩
abbrev dB6:HB.DefB:=⟨.glo "path_of", "path_of", "path_of", zi3,0⟩
abbrev dB7:HB.DefB:=⟨.glo "side_of", "side_of", "side_of", zkt,0⟩
abbrev dB8:HB.DefB:=⟨.glo "condition_of", "condition_of", "condition_of", zhc,0⟩
abbrev dB9:HB.DefB:=⟨.glo "condition_names", "condition_names", "condition_names", zfp,0⟩
abbrev dB10:HB.DefB:=⟨.met "Form" "__init__", "__init__", "Form.__init__", zgo,2⟩
abbrev dB11:HB.DefB:=⟨.met "Form" "is_good", "is_good", "Form.is_good", zds,0⟩
abbrev dB12:HB.DefB:=⟨.glo "let_form", "let_form", "let_form", zjv,0⟩
abbrev dB13:HB.DefB:=⟨.glo "write_form", "write_form", "write_form", zik,0⟩
abbrev dB14:HB.DefB:=⟨.glo "round_form", "round_form", "round_form", zin,0⟩
abbrev dB15:HB.DefB:=⟨.glo "condition_form", "condition_form", "condition_form", zf2,0⟩
abbrev dB16:HB.DefB:=⟨.glo "tell_form", "tell_form", "tell_form", zhq,0⟩
abbrev dB17:HB.DefB:=⟨.glo "form_of", "form_of", "form_of", zk4,0⟩
abbrev dB18:HB.DefB:=⟨.glo "is_right_kind", "is_right_kind", "is_right_kind", zgp,0⟩
abbrev dB19:HB.DefB:=⟨.glo "first_line", "first_line", "first_line", zha,0⟩
abbrev dB20:HB.DefB:=⟨.met "Names" "__init__", "__init__", "Names.__init__", zeu,0⟩
abbrev dB21:HB.DefB:=⟨.met "Names" "kind_of", "kind_of", "Names.kind_of", zgj,0⟩
abbrev dB22:HB.DefB:=⟨.met "Names" "open_block", "open_block", "Names.open_block", ze9,0⟩
abbrev dB23:HB.DefB:=⟨.met "Names" "close_block", "close_block", "Names.close_block", ze2,0⟩
abbrev dB24:HB.DefB:=⟨.met "Names" "check", "check", "Names.check", zhw,0⟩
abbrev dB25:HB.DefB:=⟨.met "Names" "is_free", "is_free", "Names.is_free", ze5,0⟩
abbrev dB26:HB.DefB:=⟨.met "Names" "bind", "bind", "Names.bind", zio,0⟩
abbrev dB27:HB.DefB:=⟨.met "RoutineReader" "__init__", "__init__", "RoutineReader.__init__", zc8,0⟩
abbrev dB28:HB.DefB:=⟨.met "RoutineReader" "read", "read", "RoutineReader.read", zej,0⟩
abbrev dB29:HB.DefB:=⟨.met "RoutineReader" "read_line", "read_line", "RoutineReader.read_line", zc5,0⟩
abbrev dB30:HB.DefB:=⟨.met "RoutineReader" "may_stand", "may_stand", "RoutineReader.may_stand", zc0,0⟩
abbrev dB31:HB.DefB:=⟨.met "RoutineReader" "resolved", "resolved", "RoutineReader.resolved", zdg,0⟩
abbrev dB32:HB.DefB:=⟨.met "RoutineReader" "add", "add", "RoutineReader.add", ze0,0⟩
abbrev dB33:HB.DefB:=⟨.met "Routine" "__init__", "__init__", "Routine.__init__", ze6,0⟩
abbrev dB34:HB.DefB:=⟨.met "Routine" "__len__", "__len__", "Routine.__len__", zhl,0⟩
abbrev dB35:HB.DefB:=⟨.met "Script" "__init__", "__init__", "Script.__init__", zfq,0⟩
abbrev dB36:HB.DefB:=⟨.met "Script" "__len__", "__len__", "Script.__len__", zh5,0⟩
abbrev dB37:HB.DefB:=⟨.met "Script" "routine", "routine", "Script.routine", zh3,0⟩
abbrev dB38:HB.DefB:=⟨.glo "call_form", "call_form", "call_form", zge,0⟩
abbrev dB39:HB.DefB:=⟨.glo "script_form", "script_form", "script_form", zhu,0⟩
abbrev dB40:HB.DefB:=⟨.met "ScriptReader" "__init__", "__init__", "ScriptReader.__init__", zdn,0⟩
abbrev dB41:HB.DefB:=⟨.met "ScriptReader" "read", "read", "ScriptReader.read", zdq,0⟩
abbrev dB42:HB.DefB:=⟨.met "ScriptReader" "read_line", "read_line", "ScriptReader.read_line", zdj,0⟩
abbrev dB43:HB.DefB:=⟨.met "ScriptReader" "check_call", "check_call", "ScriptReader.check_call", zc4,0⟩
abbrev dB44:HB.DefB:=⟨.met "Book" "__init__", "__init__", "Book.__init__", zgn,0⟩
abbrev dB45:HB.DefB:=⟨.met "Book" "__getitem__", "__getitem__", "Book.__getitem__", zgr,0⟩
abbrev dB46:HB.DefB:=⟨.met "Book" "__contains__", "__contains__", "Book.__contains__", zgg,0⟩
abbrev dB47:HB.DefB:=⟨.met "Book" "__len__", "__len__", "Book.__len__", zhf,0⟩
abbrev dB48:HB.DefB:=⟨.met "Book" "names", "names", "Book.names", zj6,0⟩
abbrev dB49:HB.DefB:=⟨.glo "read_book", "read_book", "read_book", zi1,0⟩
abbrev dB50:HB.DefB:=⟨.glo "_law_tape", "_law_tape", "_law_tape", zlu,0⟩
abbrev dB51:HB.DefB:=⟨.glo "_law_pick", "_law_pick", "_law_pick", zlq,0⟩
abbrev dB52:HB.DefB:=⟨.glo "_law_frame", "_law_frame", "_law_frame", zkx,0⟩
abbrev dB53:HB.DefB:=⟨.glo "_law_told", "_law_told", "_law_told", zl6,0⟩
abbrev dB54:HB.DefB:=⟨.glo "_law_put", "_law_put", "_law_put", znc,0⟩
abbrev dB55:HB.DefB:=⟨.glo "_law_in_book", "_law_in_book", "_law_in_book", zi0,0⟩
abbrev dB56:HB.DefB:=⟨.glo "_law_below", "_law_below", "_law_below", zk3,0⟩
abbrev dB57:HB.DefB:=⟨.glo "_law_in_script", "_law_in_script", "_law_in_script", zga,0⟩
abbrev dB58:HB.DefB:=⟨.glo "law", "law", "law", znd,0⟩
def fnB58:List HB.DefB:=dB58 :: []
def fnB57:List HB.DefB:=dB57 :: fnB58
def fnB56:List HB.DefB:=dB56 :: fnB57
def fnB55:List HB.DefB:=dB55 :: fnB56
def fnB54:List HB.DefB:=dB54 :: fnB55
def fnB53:List HB.DefB:=dB53 :: fnB54
def fnB52:List HB.DefB:=dB52 :: fnB53
def fnB51:List HB.DefB:=dB51 :: fnB52
def fnB50:List HB.DefB:=dB50 :: fnB51
def fnB49:List HB.DefB:=dB49 :: fnB50
def fnB48:List HB.DefB:=dB48 :: fnB49
def fnB47:List HB.DefB:=dB47 :: fnB48
def fnB46:List HB.DefB:=dB46 :: fnB47
def fnB45:List HB.DefB:=dB45 :: fnB46
def fnB44:List HB.DefB:=dB44 :: fnB45
def fnB43:List HB.DefB:=dB43 :: fnB44
def fnB42:List HB.DefB:=dB42 :: fnB43
def fnB41:List HB.DefB:=dB41 :: fnB42
def fnB40:List HB.DefB:=dB40 :: fnB41
def fnB39:List HB.DefB:=dB39 :: fnB40
def fnB38:List HB.DefB:=dB38 :: fnB39
def fnB37:List HB.DefB:=dB37 :: fnB38
def fnB36:List HB.DefB:=dB36 :: fnB37
def fnB35:List HB.DefB:=dB35 :: fnB36
def fnB34:List HB.DefB:=dB34 :: fnB35
def fnB33:List HB.DefB:=dB33 :: fnB34
def fnB32:List HB.DefB:=dB32 :: fnB33
def fnB31:List HB.DefB:=dB31 :: fnB32
def fnB30:List HB.DefB:=dB30 :: fnB31
def fnB29:List HB.DefB:=dB29 :: fnB30
def fnB28:List HB.DefB:=dB28 :: fnB29
def fnB27:List HB.DefB:=dB27 :: fnB28
def fnB26:List HB.DefB:=dB26 :: fnB27
def fnB25:List HB.DefB:=dB25 :: fnB26
def fnB24:List HB.DefB:=dB24 :: fnB25
def fnB23:List HB.DefB:=dB23 :: fnB24
def fnB22:List HB.DefB:=dB22 :: fnB23
def fnB21:List HB.DefB:=dB21 :: fnB22
def fnB20:List HB.DefB:=dB20 :: fnB21
def fnB19:List HB.DefB:=dB19 :: fnB20
def fnB18:List HB.DefB:=dB18 :: fnB19
def fnB17:List HB.DefB:=dB17 :: fnB18
def fnB16:List HB.DefB:=dB16 :: fnB17
def fnB15:List HB.DefB:=dB15 :: fnB16
def fnB14:List HB.DefB:=dB14 :: fnB15
def fnB13:List HB.DefB:=dB13 :: fnB14
def fnB12:List HB.DefB:=dB12 :: fnB13
def fnB11:List HB.DefB:=dB11 :: fnB12
def fnB10:List HB.DefB:=dB10 :: fnB11
def fnB9:List HB.DefB:=dB9 :: fnB10
def fnB8:List HB.DefB:=dB8 :: fnB9
def fnB7:List HB.DefB:=dB7 :: fnB8
def fnB6:List HB.DefB:=dB6 :: fnB7
def fnB5:List HB.DefB:=dB5 :: fnB6
def fnB4:List HB.DefB:=dB4 :: fnB5
def fnB3:List HB.DefB:=dB3 :: fnB4
def fnB2:List HB.DefB:=dB2 :: fnB3
def fnB1:List HB.DefB:=dB1 :: fnB2
def fnB0:List HB.DefB:=dB0 :: fnB1
abbrev fnB:List HB.DefB:=fnB0
abbrev dsB:List (PySem.Str × List PySem.Str):=[]
noncomputable def adOf (K:PySem.W.Frag):Ad:=⟨(HB.fA K (.met "BadLine" "__init__")),(HB.fdOf K (HB.fA K (.met "BadLine" "__init__"))),(HB.fA K (.met "UnknownName" "__init__")),(HB.fdOf K (HB.fA K (.met "UnknownName" "__init__"))),(HB.fA K (.met "WrongKind" "__init__")),(HB.fdOf K (HB.fA K (.met "WrongKind" "__init__"))),(HB.fA K (.met "UnknownDeed" "__init__")),(HB.fdOf K (HB.fA K (.met "UnknownDeed" "__init__"))),(HB.fA K (.glo "is_word")),(HB.fdOf K (HB.fA K (.glo "is_word"))),(HB.fA K (.glo "is_name")),(HB.fdOf K (HB.fA K (.glo "is_name"))),(HB.fA K (.glo "path_of")),(HB.fdOf K (HB.fA K (.glo "path_of"))),(HB.fA K (.glo "side_of")),(HB.fdOf K (HB.fA K (.glo "side_of"))),(HB.fA K (.glo "condition_of")),(HB.fdOf K (HB.fA K (.glo "condition_of"))),(HB.fA K (.glo "condition_names")),(HB.fdOf K (HB.fA K (.glo "condition_names"))),(HB.fA K (.met "Form" "__init__")),(HB.fdOf K (HB.fA K (.met "Form" "__init__"))),(HB.fA K (.met "Form" "is_good")),(HB.fdOf K (HB.fA K (.met "Form" "is_good"))),(HB.fA K (.glo "let_form")),(HB.fdOf K (HB.fA K (.glo "let_form"))),(HB.fA K (.glo "write_form")),(HB.fdOf K (HB.fA K (.glo "write_form"))),(HB.fA K (.glo "round_form")),(HB.fdOf K (HB.fA K (.glo "round_form"))),(HB.fA K (.glo "condition_form")),(HB.fdOf K (HB.fA K (.glo "condition_form"))),(HB.fA K (.glo "tell_form")),(HB.fdOf K (HB.fA K (.glo "tell_form"))),(HB.fA K (.glo "form_of")),(HB.fdOf K (HB.fA K (.glo "form_of"))),(HB.fA K (.glo "is_right_kind")),(HB.fdOf K (HB.fA K (.glo "is_right_kind"))),(HB.fA K (.glo "first_line")),(HB.fdOf K (HB.fA K (.glo "first_line"))),(HB.fA K (.met "Names" "__init__")),(HB.fdOf K (HB.fA K (.met "Names" "__init__"))),(HB.fA K (.met "Names" "kind_of")),(HB.fdOf K (HB.fA K (.met "Names" "kind_of"))),(HB.fA K (.met "Names" "open_block")),(HB.fdOf K (HB.fA K (.met "Names" "open_block"))),(HB.fA K (.met "Names" "close_block")),(HB.fdOf K (HB.fA K (.met "Names" "close_block"))),(HB.fA K (.met "Names" "check")),(HB.fdOf K (HB.fA K (.met "Names" "check"))),(HB.fA K (.met "Names" "is_free")),(HB.fdOf K (HB.fA K (.met "Names" "is_free"))),(HB.fA K (.met "Names" "bind")),(HB.fdOf K (HB.fA K (.met "Names" "bind"))),(HB.fA K (.met "RoutineReader" "__init__")),(HB.fdOf K (HB.fA K (.met "RoutineReader" "__init__"))),(HB.fA K (.met "RoutineReader" "read")),(HB.fdOf K (HB.fA K (.met "RoutineReader" "read"))),(HB.fA K (.met "RoutineReader" "read_line")),(HB.fdOf K (HB.fA K (.met "RoutineReader" "read_line"))),(HB.fA K (.met "RoutineReader" "may_stand")),(HB.fdOf K (HB.fA K (.met "RoutineReader" "may_stand"))),(HB.fA K (.met "RoutineReader" "resolved")),(HB.fdOf K (HB.fA K (.met "RoutineReader" "resolved"))),(HB.fA K (.met "RoutineReader" "add")),(HB.fdOf K (HB.fA K (.met "RoutineReader" "add"))),(HB.fA K (.met "Routine" "__init__")),(HB.fdOf K (HB.fA K (.met "Routine" "__init__"))),(HB.fA K (.met "Routine" "__len__")),(HB.fdOf K (HB.fA K (.met "Routine" "__len__"))),(HB.fA K (.met "Script" "__init__")),(HB.fdOf K (HB.fA K (.met "Script" "__init__"))),(HB.fA K (.met "Script" "__len__")),(HB.fdOf K (HB.fA K (.met "Script" "__len__"))),(HB.fA K (.met "Script" "routine")),(HB.fdOf K (HB.fA K (.met "Script" "routine"))),(HB.fA K (.glo "call_form")),(HB.fdOf K (HB.fA K (.glo "call_form"))),(HB.fA K (.glo "script_form")),(HB.fdOf K (HB.fA K (.glo "script_form"))),(HB.fA K (.met "ScriptReader" "__init__")),(HB.fdOf K (HB.fA K (.met "ScriptReader" "__init__"))),(HB.fA K (.met "ScriptReader" "read")),(HB.fdOf K (HB.fA K (.met "ScriptReader" "read"))),(HB.fA K (.met "ScriptReader" "read_line")),(HB.fdOf K (HB.fA K (.met "ScriptReader" "read_line"))),(HB.fA K (.met "ScriptReader" "check_call")),(HB.fdOf K (HB.fA K (.met "ScriptReader" "check_call"))),(HB.fA K (.met "Book" "__init__")),(HB.fdOf K (HB.fA K (.met "Book" "__init__"))),(HB.fA K (.met "Book" "__getitem__")),(HB.fdOf K (HB.fA K (.met "Book" "__getitem__"))),(HB.fA K (.met "Book" "__contains__")),(HB.fdOf K (HB.fA K (.met "Book" "__contains__"))),(HB.fA K (.met "Book" "__len__")),(HB.fdOf K (HB.fA K (.met "Book" "__len__"))),(HB.fA K (.met "Book" "names")),(HB.fdOf K (HB.fA K (.met "Book" "names"))),(HB.fA K (.glo "read_book")),(HB.fdOf K (HB.fA K (.glo "read_book"))),(HB.fA K (.glo "_law_tape")),(HB.fdOf K (HB.fA K (.glo "_law_tape"))),(HB.fA K (.glo "_law_pick")),(HB.fdOf K (HB.fA K (.glo "_law_pick"))),(HB.fA K (.glo "_law_frame")),(HB.fdOf K (HB.fA K (.glo "_law_frame"))),(HB.fA K (.glo "_law_told")),(HB.fdOf K (HB.fA K (.glo "_law_told"))),(HB.fA K (.glo "_law_put")),(HB.fdOf K (HB.fA K (.glo "_law_put"))),(HB.fA K (.glo "_law_in_book")),(HB.fdOf K (HB.fA K (.glo "_law_in_book"))),(HB.fA K (.glo "_law_below")),(HB.fdOf K (HB.fA K (.glo "_law_below"))),(HB.fA K (.glo "_law_in_script")),(HB.fdOf K (HB.fA K (.glo "_law_in_script"))),(HB.fA K (.glo "law")),(HB.fdOf K (HB.fA K (.glo "law"))),(HB.eT K (HB.fA K (.met "Form" "__init__")) 0),(HB.eT K (HB.fA K (.met "Form" "__init__")) 1),(He.ga K "RESERVED"),(He.ga K "LINKS"),(He.ga K "KINDS"),(He.ga K "LABEL_LINES"),(He.ga K "MeshError"),(He.ga K "BadLine"),(He.ga K "UnknownName"),(He.ga K "WrongKind"),(He.ga K "UnknownDeed"),(He.ga K "Form"),(He.ga K "Names"),(He.ga K "RoutineReader"),(He.ga K "Routine"),(He.ga K "Script"),(He.ga K "ScriptReader"),(He.ga K "Book")⟩
def chk25 (K:PySem.W.Frag):Bool:=HB.constB K "HALF" (.str "half") && (HB.constB K "MOST_LINES_books" (.int 20) && (decide (PySem.W.specialIn K (.builtin "object.__class__") "__get__" = some (some (.builtin "getset_descriptor.__get__"))) && (decide (PySem.W.takesIn K (.builtin "object.__class__")=some true) && (HB.strsB K "RESERVED" ["routine", "script", "given", "let", "make", "drop", "if", "else", "end", "new", "round", "tell", "call", "next", "prev", "twin", "face", "corner", "some"] && (HB.strsB K "LINKS" ["next", "prev", "twin"] && (HB.strsB K "KINDS" ["face", "corner"] && (HB.strsB K "LABEL_LINES" ["new", "bear", "round", "some"] && (true))))))))
def chk24 (K:PySem.W.Frag):Bool:=HB.freeB K "set" && (HB.freeB K "str" && (HB.freeB K "tuple" && (HB.constB K "FIRST_CHARS" (.str "abcdefghijklmnopqrstuvwxyz") && (HB.constB K "CHARS" (.str "abcdefghijklmnopqrstuvwxyz0123456789") && (HB.constB K "MOST_LINES_texts" (.int 60) && (HB.constB K "MOST_BLOCKS" (.int 3) && (HB.constB K "MOST_LINKS" (.int 4) && (chk25 K))))))))
def chk23 (K:PySem.W.Frag):Bool:=HB.freeB K "abs" && (HB.freeB K "all" && (HB.freeB K "bool" && (HB.freeB K "dict" && (HB.freeB K "int" && (HB.freeB K "len" && (HB.freeB K "list" && (HB.freeB K "range" && (chk24 K))))))))
def chk22 (K:PySem.W.Frag):Bool:=HB.natB K "ScriptReader" "deeds" && (HB.natB K "ScriptReader" "lines" && (HB.natB K "ScriptReader" "offset" && (HB.natB K "ScriptReader" "statements" && (HB.gloB K "Book" && (HB.clsB K "Book" && (HB.mkB K "Book" && (HB.natB K "Book" "deeds" && (chk23 K))))))))
def chk21 (K:PySem.W.Frag):Bool:=HB.natB K "Script" "name" && (HB.natB K "Script" "statements" && (HB.natB K "Script" "told" && (decide (PySem.W.findIn K (.ref (He.ga K "Script")) "is_script" = some (some (.bool true))) && (decide (PySem.W.specialIn K (.bool true) "__get__" = some none) && (HB.gloB K "ScriptReader" && (HB.clsB K "ScriptReader" && (HB.mkB K "ScriptReader" && (chk22 K))))))))
def chk20 (K:PySem.W.Frag):Bool:=decide (PySem.W.findIn K (.ref (He.ga K "Routine")) "is_script" = some (some (.bool false))) && (decide (PySem.W.specialIn K (.bool false) "__get__" = some none) && (HB.gloB K "Script" && (HB.clsB K "Script" && (HB.mkB K "Script" && (HB.natB K "Script" "calls" && (HB.natB K "Script" "halves" && (HB.natB K "Script" "lines" && (chk21 K))))))))
def chk19 (K:PySem.W.Frag):Bool:=HB.gloB K "Routine" && (HB.clsB K "Routine" && (HB.mkB K "Routine" && (HB.natB K "Routine" "halves" && (HB.natB K "Routine" "lines" && (HB.natB K "Routine" "name" && (HB.natB K "Routine" "statements" && (HB.natB K "Routine" "told" && (chk20 K))))))))
def chk18 (K:PySem.W.Frag):Bool:=HB.gloB K "RoutineReader" && (HB.clsB K "RoutineReader" && (HB.mkB K "RoutineReader" && (HB.natB K "RoutineReader" "blocks" && (HB.natB K "RoutineReader" "has_labels" && (HB.natB K "RoutineReader" "lines" && (HB.natB K "RoutineReader" "offset" && (HB.natB K "RoutineReader" "statements" && (chk19 K))))))))
def chk17 (K:PySem.W.Frag):Bool:=HB.mkB K "Form" && (HB.natB K "Form" "bound" && (HB.natB K "Form" "statement" && (HB.natB K "Form" "uses" && (HB.gloB K "Names" && (HB.clsB K "Names" && (HB.mkB K "Names" && (HB.natB K "Names" "scopes" && (chk18 K))))))))
def chk16 (K:PySem.W.Frag):Bool:=decide (PySem.W.findIn K (.ref (He.ga K "UnknownDeed")) "__setattr__" = some (some (.builtin "object.__setattr__"))) && (decide (PySem.W.findIn K (.ref (He.ga K "UnknownDeed")) "__init__" = some (some (.ref (HB.fA K (.met "UnknownDeed" "__init__"))))) && (decide (PySem.W.typeIn K (.ref (HB.fA K (.met "UnknownDeed" "__init__")))=some (.type "function")) && (decide (PySem.W.findIn K (.ref (He.ga K "UnknownDeed")) "name" = some none) && (decide (PySem.W.kitOne K (.ref (He.ga K "UnknownDeed")) (.ref (He.ga K "MeshError"))=some true) && (decide (PySem.W.kitOne K (.ref (He.ga K "UnknownDeed")) (.type "ValueError")=some true) && (HB.gloB K "Form" && (HB.clsB K "Form" && (chk17 K))))))))
def chk15 (K:PySem.W.Frag):Bool:=decide (PySem.W.isClsIn K (He.ga K "UnknownDeed")=true) && (decide (PySem.W.subIn K (.ref (He.ga K "UnknownDeed")) (.ref (He.ga K "UnknownDeed"))=some true) && (decide (PySem.W.findIn K (.ref (He.ga K "UnknownDeed")) "__getattribute__" = some (some (.builtin "BaseException.__getattribute__"))) && (decide (PySem.W.findIn K (.ref (He.ga K "UnknownDeed")) "__getattr__" = some none) && (decide (PySem.W.hasDictIn K (He.ga K "UnknownDeed")=true) && (decide (PySem.W.findIn K (.ref (He.ga K "UnknownDeed")) "__class__" = some (some (.builtin "object.__class__"))) && (decide (PySem.W.mroIn K (He.ga K "UnknownDeed") (.type "object")=some true) && (decide (RD.oexB K (He.ga K "UnknownDeed")=true) && (chk16 K))))))))
def chk14 (K:PySem.W.Frag):Bool:=decide (PySem.W.kitOne K (.ref (He.ga K "WrongKind")) (.ref (He.ga K "MeshError"))=some true) && (decide (PySem.W.kitOne K (.ref (He.ga K "WrongKind")) (.type "ValueError")=some true) && (decide (PySem.W.exmOne K (.ref (He.ga K "WrongKind")) (.ref (He.ga K "BadLine"))=some false) && (decide (PySem.W.exmOne K (.ref (He.ga K "WrongKind")) (.ref (He.ga K "UnknownName"))=some false) && (HB.gloB K "UnknownDeed" && (decide (PySem.W.keepIn K (.ref (He.ga K "UnknownDeed"))=true) && (decide (PySem.W.subIn K (.ref (He.ga K "UnknownDeed")) (.type "BaseException")=some true) && (decide (PySem.W.typeIn K (.ref (He.ga K "UnknownDeed"))=some (.type "type")) && (chk15 K))))))))
def chk13 (K:PySem.W.Frag):Bool:=decide (PySem.W.findIn K (.ref (He.ga K "WrongKind")) "__class__" = some (some (.builtin "object.__class__"))) && (decide (PySem.W.mroIn K (He.ga K "WrongKind") (.type "object")=some true) && (decide (RD.oexB K (He.ga K "WrongKind")=true) && (decide (PySem.W.findIn K (.ref (He.ga K "WrongKind")) "__setattr__" = some (some (.builtin "object.__setattr__"))) && (decide (PySem.W.findIn K (.ref (He.ga K "WrongKind")) "__init__" = some (some (.ref (HB.fA K (.met "WrongKind" "__init__"))))) && (decide (PySem.W.typeIn K (.ref (HB.fA K (.met "WrongKind" "__init__")))=some (.type "function")) && (decide (PySem.W.findIn K (.ref (He.ga K "WrongKind")) "line" = some none) && (decide (PySem.W.findIn K (.ref (He.ga K "WrongKind")) "name" = some none) && (chk14 K))))))))
def chk12 (K:PySem.W.Frag):Bool:=decide (PySem.W.keepIn K (.ref (He.ga K "WrongKind"))=true) && (decide (PySem.W.subIn K (.ref (He.ga K "WrongKind")) (.type "BaseException")=some true) && (decide (PySem.W.typeIn K (.ref (He.ga K "WrongKind"))=some (.type "type")) && (decide (PySem.W.isClsIn K (He.ga K "WrongKind")=true) && (decide (PySem.W.subIn K (.ref (He.ga K "WrongKind")) (.ref (He.ga K "WrongKind"))=some true) && (decide (PySem.W.findIn K (.ref (He.ga K "WrongKind")) "__getattribute__" = some (some (.builtin "BaseException.__getattribute__"))) && (decide (PySem.W.findIn K (.ref (He.ga K "WrongKind")) "__getattr__" = some none) && (decide (PySem.W.hasDictIn K (He.ga K "WrongKind")=true) && (chk13 K))))))))
def chk11 (K:PySem.W.Frag):Bool:=decide (PySem.W.findIn K (.ref (He.ga K "UnknownName")) "__init__" = some (some (.ref (HB.fA K (.met "UnknownName" "__init__"))))) && (decide (PySem.W.typeIn K (.ref (HB.fA K (.met "UnknownName" "__init__")))=some (.type "function")) && (decide (PySem.W.findIn K (.ref (He.ga K "UnknownName")) "line" = some none) && (decide (PySem.W.findIn K (.ref (He.ga K "UnknownName")) "name" = some none) && (decide (PySem.W.kitOne K (.ref (He.ga K "UnknownName")) (.ref (He.ga K "MeshError"))=some true) && (decide (PySem.W.kitOne K (.ref (He.ga K "UnknownName")) (.type "ValueError")=some true) && (decide (PySem.W.exmOne K (.ref (He.ga K "UnknownName")) (.ref (He.ga K "BadLine"))=some false) && (HB.gloB K "WrongKind" && (chk12 K))))))))
def chk10 (K:PySem.W.Frag):Bool:=decide (PySem.W.subIn K (.ref (He.ga K "UnknownName")) (.ref (He.ga K "UnknownName"))=some true) && (decide (PySem.W.findIn K (.ref (He.ga K "UnknownName")) "__getattribute__" = some (some (.builtin "BaseException.__getattribute__"))) && (decide (PySem.W.findIn K (.ref (He.ga K "UnknownName")) "__getattr__" = some none) && (decide (PySem.W.hasDictIn K (He.ga K "UnknownName")=true) && (decide (PySem.W.findIn K (.ref (He.ga K "UnknownName")) "__class__" = some (some (.builtin "object.__class__"))) && (decide (PySem.W.mroIn K (He.ga K "UnknownName") (.type "object")=some true) && (decide (RD.oexB K (He.ga K "UnknownName")=true) && (decide (PySem.W.findIn K (.ref (He.ga K "UnknownName")) "__setattr__" = some (some (.builtin "object.__setattr__"))) && (chk11 K))))))))
def chk9 (K:PySem.W.Frag):Bool:=decide (PySem.W.findIn K (.ref (He.ga K "BadLine")) "line" = some none) && (decide (PySem.W.kitOne K (.ref (He.ga K "BadLine")) (.ref (He.ga K "MeshError"))=some true) && (decide (PySem.W.kitOne K (.ref (He.ga K "BadLine")) (.type "ValueError")=some true) && (HB.gloB K "UnknownName" && (decide (PySem.W.keepIn K (.ref (He.ga K "UnknownName"))=true) && (decide (PySem.W.subIn K (.ref (He.ga K "UnknownName")) (.type "BaseException")=some true) && (decide (PySem.W.typeIn K (.ref (He.ga K "UnknownName"))=some (.type "type")) && (decide (PySem.W.isClsIn K (He.ga K "UnknownName")=true) && (chk10 K))))))))
def chk8 (K:PySem.W.Frag):Bool:=decide (PySem.W.findIn K (.ref (He.ga K "BadLine")) "__getattr__" = some none) && (decide (PySem.W.hasDictIn K (He.ga K "BadLine")=true) && (decide (PySem.W.findIn K (.ref (He.ga K "BadLine")) "__class__" = some (some (.builtin "object.__class__"))) && (decide (PySem.W.mroIn K (He.ga K "BadLine") (.type "object")=some true) && (decide (RD.oexB K (He.ga K "BadLine")=true) && (decide (PySem.W.findIn K (.ref (He.ga K "BadLine")) "__setattr__" = some (some (.builtin "object.__setattr__"))) && (decide (PySem.W.findIn K (.ref (He.ga K "BadLine")) "__init__" = some (some (.ref (HB.fA K (.met "BadLine" "__init__"))))) && (decide (PySem.W.typeIn K (.ref (HB.fA K (.met "BadLine" "__init__")))=some (.type "function")) && (chk9 K))))))))
def chk7 (K:PySem.W.Frag):Bool:=HB.gloB K "MeshError" && (HB.gloB K "BadLine" && (decide (PySem.W.keepIn K (.ref (He.ga K "BadLine"))=true) && (decide (PySem.W.subIn K (.ref (He.ga K "BadLine")) (.type "BaseException")=some true) && (decide (PySem.W.typeIn K (.ref (He.ga K "BadLine"))=some (.type "type")) && (decide (PySem.W.isClsIn K (He.ga K "BadLine")=true) && (decide (PySem.W.subIn K (.ref (He.ga K "BadLine")) (.ref (He.ga K "BadLine"))=some true) && (decide (PySem.W.findIn K (.ref (He.ga K "BadLine")) "__getattribute__" = some (some (.builtin "BaseException.__getattribute__"))) && (chk8 K))))))))
def chk6 (K:PySem.W.Frag):Bool:=HB.gloB K "_law_pick" && (HB.gloB K "_law_frame" && (HB.gloB K "_law_told" && (HB.gloB K "_law_put" && (HB.gloB K "_law_in_book" && (HB.gloB K "_law_below" && (HB.gloB K "_law_in_script" && (HB.gloB K "law" && (chk7 K))))))))
def chk5 (K:PySem.W.Frag):Bool:=HB.mthB K "Book" "__init__" && (HB.mthB K "Book" "__getitem__" && (decide (PySem.W.fnIn K (HB.fA K (.met "Book" "__getitem__"))=true) && (HB.mthB K "Book" "__contains__" && (HB.mthB K "Book" "__len__" && (HB.mthB K "Book" "names" && (HB.gloB K "read_book" && (HB.gloB K "_law_tape" && (chk6 K))))))))
def chk4 (K:PySem.W.Frag):Bool:=HB.mthB K "Script" "__len__" && (HB.mthB K "Script" "routine" && (HB.gloB K "call_form" && (HB.gloB K "script_form" && (HB.mthB K "ScriptReader" "__init__" && (HB.mthB K "ScriptReader" "read" && (HB.mthB K "ScriptReader" "read_line" && (HB.mthB K "ScriptReader" "check_call" && (chk5 K))))))))
def chk3 (K:PySem.W.Frag):Bool:=HB.mthB K "RoutineReader" "read" && (HB.mthB K "RoutineReader" "read_line" && (HB.mthB K "RoutineReader" "may_stand" && (HB.mthB K "RoutineReader" "resolved" && (HB.mthB K "RoutineReader" "add" && (HB.mthB K "Routine" "__init__" && (HB.mthB K "Routine" "__len__" && (HB.mthB K "Script" "__init__" && (chk4 K))))))))
def chk2 (K:PySem.W.Frag):Bool:=HB.mthB K "Names" "__init__" && (HB.mthB K "Names" "kind_of" && (HB.mthB K "Names" "open_block" && (HB.mthB K "Names" "close_block" && (HB.mthB K "Names" "check" && (HB.mthB K "Names" "is_free" && (HB.mthB K "Names" "bind" && (HB.mthB K "RoutineReader" "__init__" && (chk3 K))))))))
def chk1 (K:PySem.W.Frag):Bool:=HB.gloB K "let_form" && (HB.gloB K "write_form" && (HB.gloB K "round_form" && (HB.gloB K "condition_form" && (HB.gloB K "tell_form" && (HB.gloB K "form_of" && (HB.gloB K "is_right_kind" && (HB.gloB K "first_line" && (chk2 K))))))))
def chk0 (K:PySem.W.Frag):Bool:=HB.gloB K "is_word" && (HB.gloB K "is_name" && (HB.gloB K "path_of" && (HB.gloB K "side_of" && (HB.gloB K "condition_of" && (HB.gloB K "condition_names" && (HB.mthB K "Form" "__init__" && (HB.mthB K "Form" "is_good" && (chk1 K))))))))
abbrev chk (K:PySem.W.Frag):Bool:=chk0 K
theorem txt_mk {K:PySem.W.Frag} {mg:Str→Option Value}
  {zbg:Addr}
  {zcf:FuncData}
  {zaw:Addr}
  {zbj:FuncData}
  {za4:Addr}
  {zbw:FuncData}
  {za5:Addr}
  {zb0:FuncData}
  {zg8:Addr}
  {zgz:FuncData}
  {zgv:Addr}
  {zg9:FuncData}
  {zgy:Addr}
  {zgw:FuncData}
  {zhb:Addr}
  {zgt:FuncData}
  {zd2:Addr}
  {zdy:FuncData}
  {zcj:Addr}
  {zck:FuncData}
  {zca:Addr}
  {zbh:FuncData}
  {zdx:Addr}
  {zdw:FuncData}
  {zf5:Addr}
  {zf3:FuncData}
  {zer:Addr}
  {zes:FuncData}
  {zey:Addr}
  {zet:FuncData}
  {zcw:Addr}
  {zct:FuncData}
  {zfm:Addr}
  {zfg:FuncData}
  {zg0:Addr}
  {zg6:FuncData}
  {zdi:Addr}
  {zdc:FuncData}
  {zex:Addr}
  {zeo:FuncData}
  {zbr:Addr}
  {zcx:FuncData}
  {zdf:Addr}
  {zc7:FuncData}
  {zce:Addr}
  {zcc:FuncData}
  {zb5:Addr}
  {zb7:FuncData}
  {zed:Addr}
  {zeb:FuncData}
  {zde:Addr}
  {zdk:FuncData}
  {zep:Addr}
  {zew:FuncData}
  {zar:Addr}
  {zba:FuncData}
  {zbu:Addr}
  {zbt:FuncData}
  {zay:Addr}
  {zaz:FuncData}
  {za1:Addr}
  {za0:FuncData}
  {za6:Addr}
  {za7:FuncData}
  {zb2:Addr}
  {zb4:FuncData}
  {zbi:Addr}
  {zcg:FuncData}
  {zdl:Addr}
  {zdm:FuncData}
  {zbl:Addr}
  {zcl:FuncData}
  {zd1:Addr}
  {zdt:FuncData}
  {zdr:Addr}
  {zdu:FuncData}
  {zfn:Addr}
  {zfl:FuncData}
  {zef:Addr}
  {zea:FuncData}
  {zat:Addr}
  {zbb:FuncData}
  {zb3:Addr}
  {zb6:FuncData}
  {za8:Addr}
  {za9:FuncData}
  {za3:Addr}
  {za2:FuncData}
  {zb9:Addr}
  {zc9:FuncData}
  {zbo:Addr}
  {zcz:FuncData}
  {zco:Addr}
  {zcp:FuncData}
  {zdv:Addr}
  {zdz:FuncData}
  {zfy:Addr}
  {zfu:FuncData}
  {zfo:Addr}
  {zfj:FuncData}
  {zh6:Addr}
  {zh1:FuncData}
  {zhy:Addr}
  {zhz:FuncData}
  {zgu:Addr}
  {zgx:FuncData}
  {zh8:Addr}
  {zic:FuncData}
  {ziv:Addr}
  {ziw:FuncData}
  {zfi:Addr}
  {zfh:FuncData}
  {zg7:Addr}
  {zg5:FuncData}
  {zec:Addr}
  {zee:FuncData}
  {zl5:Addr}
  {zky:FuncData}
  {zb1:Addr}
  {zah:Addr}
  {zel:Addr}
  {zhj:Addr}
  {zcy:Addr}
  {zbx:Addr}
  {zch:Addr}
  {zab:Addr}
  {zac:Addr}
  {zaf:Addr}
  {zag:Addr}
  {zap:Addr}
  {zas:Addr}
  {zaa:Addr}
  {zai:Addr}
  {zaj:Addr}
  {zad:Addr}
  {zbp:Addr}
  (x_F_BadLine_d_initd_:Fun K "__init__" "BadLine.__init__" zfb zbg zcf)
  (x_b_BadLine_d_initd_:Binds K zcf ["self", "line"] [])
  (x_F_UnknownName_d_initd_:Fun K "__init__" "UnknownName.__init__" zd5 zaw zbj)
  (x_b_UnknownName_d_initd_:Binds K zbj ["self", "line", "name"] [])
  (x_F_WrongKind_d_initd_:Fun K "__init__" "WrongKind.__init__" zei za4 zbw)
  (x_b_WrongKind_d_initd_:Binds K zbw ["self", "line", "name"] [])
  (x_F_UnknownDeed_d_initd_:Fun K "__init__" "UnknownDeed.__init__" zfe za5 zb0)
  (x_b_UnknownDeed_d_initd_:Binds K zb0 ["self", "name"] [])
  (x_F_is_word:Fun K "is_word" "is_word" zi5 zg8 zgz)
  (x_b_is_word:Binds K zgz ["text"] [])
  (x_g_is_word:mg "is_word" = some (.ref zg8))
  (x_F_is_name:Fun K "is_name" "is_name" zk2 zgv zg9)
  (x_b_is_name:Binds K zg9 ["text"] [])
  (x_g_is_name:mg "is_name" = some (.ref zgv))
  (x_F_path_of:Fun K "path_of" "path_of" zi3 zgy zgw)
  (x_b_path_of:Binds K zgw ["text"] [])
  (x_g_path_of:mg "path_of" = some (.ref zgy))
  (x_F_side_of:Fun K "side_of" "side_of" zkt zhb zgt)
  (x_b_side_of:Binds K zgt ["text"] [])
  (x_g_side_of:mg "side_of" = some (.ref zhb))
  (x_F_condition_of:Fun K "condition_of" "condition_of" zhc zd2 zdy)
  (x_b_condition_of:Binds K zdy ["words"] [])
  (x_g_condition_of:mg "condition_of" = some (.ref zd2))
  (x_F_condition_names:Fun K "condition_names" "condition_names" zfp zcj zck)
  (x_b_condition_names:Binds K zck ["condition"] [])
  (x_g_condition_names:mg "condition_names" = some (.ref zcj))
  (x_F_Form_d_initd_:RD.FunV K "__init__" "Form.__init__" zgo zca zbh)
  (x_b2_Form_d_initd_:Binds K zbh ["self", "statement", "used", "bound"] [.ref zb1,.ref zah])
  (x_b1_Form_d_initd_:Binds K zbh ["self", "statement", "used", "bound"] [.ref zah])
  (x_b_Form_d_initd_:Binds K zbh ["self", "statement", "used", "bound"] [])
  (x_et_Form_d_initd__0:∀ H:Hp,SqT K H zb1 [])
  (x_et_Form_d_initd__1:∀ H:Hp,SqT K H zah [])
  (x_m_Form_d_initd_:Meth K zap "__init__" zca)
  (x_F_Form_is_good:Fun K "is_good" "Form.is_good" zds zdx zdw)
  (x_b_Form_is_good:Binds K zdw ["self"] [])
  (x_m_Form_is_good:Meth K zap "is_good" zdx)
  (x_F_let_form:Fun K "let_form" "let_form" zjv zf5 zf3)
  (x_b_let_form:Binds K zf3 ["words"] [])
  (x_g_let_form:mg "let_form" = some (.ref zf5))
  (x_F_write_form:Fun K "write_form" "write_form" zik zer zes)
  (x_b_write_form:Binds K zes ["words"] [])
  (x_g_write_form:mg "write_form" = some (.ref zer))
  (x_F_round_form:Fun K "round_form" "round_form" zin zey zet)
  (x_b_round_form:Binds K zet ["words"] [])
  (x_g_round_form:mg "round_form" = some (.ref zey))
  (x_F_condition_form:Fun K "condition_form" "condition_form" zf2 zcw zct)
  (x_b_condition_form:Binds K zct ["words"] [])
  (x_g_condition_form:mg "condition_form" = some (.ref zcw))
  (x_F_tell_form:Fun K "tell_form" "tell_form" zhq zfm zfg)
  (x_b_tell_form:Binds K zfg ["words"] [])
  (x_g_tell_form:mg "tell_form" = some (.ref zfm))
  (x_F_form_of:Fun K "form_of" "form_of" zk4 zg0 zg6)
  (x_b_form_of:Binds K zg6 ["line"] [])
  (x_g_form_of:mg "form_of" = some (.ref zg0))
  (x_F_is_right_kind:Fun K "is_right_kind" "is_right_kind" zgp zdi zdc)
  (x_b_is_right_kind:Binds K zdc ["kind", "needed"] [])
  (x_g_is_right_kind:mg "is_right_kind" = some (.ref zdi))
  (x_F_first_line:Fun K "first_line" "first_line" zha zex zeo)
  (x_b_first_line:Binds K zeo ["line", "word"] [])
  (x_g_first_line:mg "first_line" = some (.ref zex))
  (x_F_Names_d_initd_:Fun K "__init__" "Names.__init__" zeu zbr zcx)
  (x_b_Names_d_initd_:Binds K zcx ["self", "halves"] [])
  (x_m_Names_d_initd_:Meth K zas "__init__" zbr)
  (x_F_Names_kind_of:Fun K "kind_of" "Names.kind_of" zgj zdf zc7)
  (x_b_Names_kind_of:Binds K zc7 ["self", "name"] [])
  (x_m_Names_kind_of:Meth K zas "kind_of" zdf)
  (x_F_Names_open_block:Fun K "open_block" "Names.open_block" ze9 zce zcc)
  (x_b_Names_open_block:Binds K zcc ["self"] [])
  (x_m_Names_open_block:Meth K zas "open_block" zce)
  (x_F_Names_close_block:Fun K "close_block" "Names.close_block" ze2 zb5 zb7)
  (x_b_Names_close_block:Binds K zb7 ["self"] [])
  (x_m_Names_close_block:Meth K zas "close_block" zb5)
  (x_F_Names_check:Fun K "check" "Names.check" zhw zed zeb)
  (x_b_Names_check:Binds K zeb ["self", "form", "number"] [])
  (x_m_Names_check:Meth K zas "check" zed)
  (x_F_Names_is_free:Fun K "is_free" "Names.is_free" ze5 zde zdk)
  (x_b_Names_is_free:Binds K zdk ["self", "form"] [])
  (x_m_Names_is_free:Meth K zas "is_free" zde)
  (x_F_Names_bind:Fun K "bind" "Names.bind" zio zep zew)
  (x_b_Names_bind:Binds K zew ["self", "form"] [])
  (x_m_Names_bind:Meth K zas "bind" zep)
  (x_F_RoutineReader_d_initd_:Fun K "__init__" "RoutineReader.__init__" zc8 zar zba)
  (x_b_RoutineReader_d_initd_:Binds K zba ["self", "lines", "offset"] [])
  (x_m_RoutineReader_d_initd_:Meth K zaa "__init__" zar)
  (x_F_RoutineReader_read:Fun K "read" "RoutineReader.read" zej zbu zbt)
  (x_b_RoutineReader_read:Binds K zbt ["self"] [])
  (x_m_RoutineReader_read:Meth K zaa "read" zbu)
  (x_F_RoutineReader_read_line:Fun K "read_line" "RoutineReader.read_line" zc5 zay zaz)
  (x_b_RoutineReader_read_line:Binds K zaz ["self", "at", "known"] [])
  (x_m_RoutineReader_read_line:Meth K zaa "read_line" zay)
  (x_F_RoutineReader_may_stand:Fun K "may_stand" "RoutineReader.may_stand" zc0 za1 za0)
  (x_b_RoutineReader_may_stand:Binds K za0 ["self", "statement", "at"] [])
  (x_m_RoutineReader_may_stand:Meth K zaa "may_stand" za1)
  (x_F_RoutineReader_resolved:Fun K "resolved" "RoutineReader.resolved" zdg za6 za7)
  (x_b_RoutineReader_resolved:Binds K za7 ["self", "statement", "known"] [])
  (x_m_RoutineReader_resolved:Meth K zaa "resolved" za6)
  (x_F_RoutineReader_add:Fun K "add" "RoutineReader.add" ze0 zb2 zb4)
  (x_b_RoutineReader_add:Binds K zb4 ["self", "statement", "at", "known"] [])
  (x_m_RoutineReader_add:Meth K zaa "add" zb2)
  (x_F_Routine_d_initd_:Fun K "__init__" "Routine.__init__" ze6 zbi zcg)
  (x_b_Routine_d_initd_:Binds K zcg ["self", "names", "told", "lines", "statements"] [])
  (x_m_Routine_d_initd_:Meth K zai "__init__" zbi)
  (x_F_Routine_d_lend_:Fun K "__len__" "Routine.__len__" zhl zdl zdm)
  (x_b_Routine_d_lend_:Binds K zdm ["self"] [])
  (x_m_Routine_d_lend_:Meth K zai "__len__" zdl)
  (x_F_Script_d_initd_:Fun K "__init__" "Script.__init__" zfq zbl zcl)
  (x_b_Script_d_initd_:Binds K zcl ["self", "names", "told", "lines", "statements", "calls"] [])
  (x_m_Script_d_initd_:Meth K zaj "__init__" zbl)
  (x_F_Script_d_lend_:Fun K "__len__" "Script.__len__" zh5 zd1 zdt)
  (x_b_Script_d_lend_:Binds K zdt ["self"] [])
  (x_m_Script_d_lend_:Meth K zaj "__len__" zd1)
  (x_F_Script_routine:Fun K "routine" "Script.routine" zh3 zdr zdu)
  (x_b_Script_routine:Binds K zdu ["self", "name"] [])
  (x_m_Script_routine:Meth K zaj "routine" zdr)
  (x_F_call_form:Fun K "call_form" "call_form" zge zfn zfl)
  (x_b_call_form:Binds K zfl ["words"] [])
  (x_g_call_form:mg "call_form" = some (.ref zfn))
  (x_F_script_form:Fun K "script_form" "script_form" zhu zef zea)
  (x_b_script_form:Binds K zea ["line"] [])
  (x_g_script_form:mg "script_form" = some (.ref zef))
  (x_F_ScriptReader_d_initd_:Fun K "__init__" "ScriptReader.__init__" zdn zat zbb)
  (x_b_ScriptReader_d_initd_:Binds K zbb ["self", "lines", "offset", "deeds"] [])
  (x_m_ScriptReader_d_initd_:Meth K zad "__init__" zat)
  (x_F_ScriptReader_read:Fun K "read" "ScriptReader.read" zdq zb3 zb6)
  (x_b_ScriptReader_read:Binds K zb6 ["self"] [])
  (x_m_ScriptReader_read:Meth K zad "read" zb3)
  (x_F_ScriptReader_read_line:Fun K "read_line" "ScriptReader.read_line" zdj za8 za9)
  (x_b_ScriptReader_read_line:Binds K za9 ["self", "at", "known"] [])
  (x_m_ScriptReader_read_line:Meth K zad "read_line" za8)
  (x_F_ScriptReader_check_call:Fun K "check_call" "ScriptReader.check_call" zc4 za3 za2)
  (x_b_ScriptReader_check_call:Binds K za2 ["self", "statement", "number"] [])
  (x_m_ScriptReader_check_call:Meth K zad "check_call" za3)
  (x_F_Book_d_initd_:Fun K "__init__" "Book.__init__" zgn zb9 zc9)
  (x_b_Book_d_initd_:Binds K zc9 ["self", "deeds"] [])
  (x_m_Book_d_initd_:Meth K zbp "__init__" zb9)
  (x_F_Book_d_getitemd_:Fun K "__getitem__" "Book.__getitem__" zgr zbo zcz)
  (x_b_Book_d_getitemd_:Binds K zcz ["self", "name"] [])
  (x_m_Book_d_getitemd_:Meth K zbp "__getitem__" zbo)
  (x_fi_Book_d_getitemd_:PySem.W.fnIn K zbo=true)
  (x_F_Book_d_containsd_:Fun K "__contains__" "Book.__contains__" zgg zco zcp)
  (x_b_Book_d_containsd_:Binds K zcp ["self", "name"] [])
  (x_m_Book_d_containsd_:Meth K zbp "__contains__" zco)
  (x_F_Book_d_lend_:Fun K "__len__" "Book.__len__" zhf zdv zdz)
  (x_b_Book_d_lend_:Binds K zdz ["self"] [])
  (x_m_Book_d_lend_:Meth K zbp "__len__" zdv)
  (x_F_Book_names:Fun K "names" "Book.names" zj6 zfy zfu)
  (x_b_Book_names:Binds K zfu ["self"] [])
  (x_m_Book_names:Meth K zbp "names" zfy)
  (x_F_read_book:Fun K "read_book" "read_book" zi1 zfo zfj)
  (x_b_read_book:Binds K zfj ["text"] [])
  (x_g_read_book:mg "read_book" = some (.ref zfo))
  (x_F_l_tape:Fun K "_law_tape" "_law_tape" zlu zh6 zh1)
  (x_b_l_tape:Binds K zh1 ["_law_script", "_law_k"] [])
  (x_g_l_tape:mg "_law_tape" = some (.ref zh6))
  (x_F_l_pick:Fun K "_law_pick" "_law_pick" zlq zhy zhz)
  (x_b_l_pick:Binds K zhz ["_law_tape_here", "_law_many"] [])
  (x_g_l_pick:mg "_law_pick" = some (.ref zhy))
  (x_F_l_frame:Fun K "_law_frame" "_law_frame" zkx zgu zgx)
  (x_b_l_frame:Binds K zgx ["_law_choice"] [])
  (x_g_l_frame:mg "_law_frame" = some (.ref zgu))
  (x_F_l_told:Fun K "_law_told" "_law_told" zl6 zh8 zic)
  (x_b_l_told:Binds K zic ["_law_text"] [])
  (x_g_l_told:mg "_law_told" = some (.ref zh8))
  (x_F_l_put:Fun K "_law_put" "_law_put" znc ziv ziw)
  (x_b_l_put:Binds K ziw ["_law_lines", "_law_at", "_law_line"] [])
  (x_g_l_put:mg "_law_put" = some (.ref ziv))
  (x_F_l_in_book:Fun K "_law_in_book" "_law_in_book" zi0 zfi zfh)
  (x_b_l_in_book:Binds K zfh ["_law_lines", "_law_starts", "_law_choice", "_law_kind"] [])
  (x_g_l_in_book:mg "_law_in_book" = some (.ref zfi))
  (x_F_l_below:Fun K "_law_below" "_law_below" zk3 zg7 zg5)
  (x_b_l_below:Binds K zg5 ["_law_lines", "_law_choice"] [])
  (x_g_l_below:mg "_law_below" = some (.ref zg7))
  (x_F_l_in_script:Fun K "_law_in_script" "_law_in_script" zga zec zee)
  (x_b_l_in_script:Binds K zee ["_law_lines", "_law_start", "_law_choice", "_law_kind", "_law_calls"] [])
  (x_g_l_in_script:mg "_law_in_script" = some (.ref zec))
  (x_F_law:Fun K "law" "law" znd zl5 zky)
  (x_b_law:Binds K zky ["_law_script"] [])
  (x_g_law:mg "law" = some (.ref zl5))
  (x_g_MeshError:mg "MeshError" = some (.ref zch))
  (x_g_BadLine:mg "BadLine" = some (.ref zab))
  (x_k_BadLine:PySem.W.keepIn K (.ref zab)=true)
  (x_s_BadLine:PySem.W.subIn K (.ref zab) (.type "BaseException")=some true)
  (x_t_BadLine:PySem.W.typeIn K (.ref zab)=some (.type "type"))
  (x_i_BadLine:PySem.W.isClsIn K zab=true)
  (x_ss_BadLine:PySem.W.subIn K (.ref zab) (.ref zab)=some true)
  (x_xg_BadLine:PySem.W.findIn K (.ref zab) "__getattribute__" = some (some (.builtin "BaseException.__getattribute__")))
  (x_xk_BadLine:PySem.W.findIn K (.ref zab) "__getattr__" = some none)
  (x_xd_BadLine:PySem.W.hasDictIn K zab=true)
  (x_xa_BadLine:PySem.W.findIn K (.ref zab) "__class__" = some (some (.builtin "object.__class__")))
  (x_xm_BadLine:PySem.W.mroIn K zab (.type "object")=some true)
  (x_ox_BadLine:RD.oexB K zab=true)
  (x_sa_BadLine:PySem.W.findIn K (.ref zab) "__setattr__" = some (some (.builtin "object.__setattr__")))
  (x_ini_BadLine:PySem.W.findIn K (.ref zab) "__init__" = some (some (.ref zbg)))
  (x_tin_BadLine:PySem.W.typeIn K (.ref zbg)=some (.type "function"))
  (x_na_BadLine_line:PySem.W.findIn K (.ref zab) "line" = some none)
  (x_ki_BadLine_MeshError:PySem.W.kitOne K (.ref zab) (.ref zch)=some true)
  (x_ki_BadLine_ValueError:PySem.W.kitOne K (.ref zab) (.type "ValueError")=some true)
  (x_g_UnknownName:mg "UnknownName" = some (.ref zac))
  (x_k_UnknownName:PySem.W.keepIn K (.ref zac)=true)
  (x_s_UnknownName:PySem.W.subIn K (.ref zac) (.type "BaseException")=some true)
  (x_t_UnknownName:PySem.W.typeIn K (.ref zac)=some (.type "type"))
  (x_i_UnknownName:PySem.W.isClsIn K zac=true)
  (x_ss_UnknownName:PySem.W.subIn K (.ref zac) (.ref zac)=some true)
  (x_xg_UnknownName:PySem.W.findIn K (.ref zac) "__getattribute__" = some (some (.builtin "BaseException.__getattribute__")))
  (x_xk_UnknownName:PySem.W.findIn K (.ref zac) "__getattr__" = some none)
  (x_xd_UnknownName:PySem.W.hasDictIn K zac=true)
  (x_xa_UnknownName:PySem.W.findIn K (.ref zac) "__class__" = some (some (.builtin "object.__class__")))
  (x_xm_UnknownName:PySem.W.mroIn K zac (.type "object")=some true)
  (x_ox_UnknownName:RD.oexB K zac=true)
  (x_sa_UnknownName:PySem.W.findIn K (.ref zac) "__setattr__" = some (some (.builtin "object.__setattr__")))
  (x_ini_UnknownName:PySem.W.findIn K (.ref zac) "__init__" = some (some (.ref zaw)))
  (x_tin_UnknownName:PySem.W.typeIn K (.ref zaw)=some (.type "function"))
  (x_na_UnknownName_line:PySem.W.findIn K (.ref zac) "line" = some none)
  (x_na_UnknownName_name:PySem.W.findIn K (.ref zac) "name" = some none)
  (x_ki_UnknownName_MeshError:PySem.W.kitOne K (.ref zac) (.ref zch)=some true)
  (x_ki_UnknownName_ValueError:PySem.W.kitOne K (.ref zac) (.type "ValueError")=some true)
  (x_em_UnknownName_BadLine:PySem.W.exmOne K (.ref zac) (.ref zab)=some false)
  (x_g_WrongKind:mg "WrongKind" = some (.ref zaf))
  (x_k_WrongKind:PySem.W.keepIn K (.ref zaf)=true)
  (x_s_WrongKind:PySem.W.subIn K (.ref zaf) (.type "BaseException")=some true)
  (x_t_WrongKind:PySem.W.typeIn K (.ref zaf)=some (.type "type"))
  (x_i_WrongKind:PySem.W.isClsIn K zaf=true)
  (x_ss_WrongKind:PySem.W.subIn K (.ref zaf) (.ref zaf)=some true)
  (x_xg_WrongKind:PySem.W.findIn K (.ref zaf) "__getattribute__" = some (some (.builtin "BaseException.__getattribute__")))
  (x_xk_WrongKind:PySem.W.findIn K (.ref zaf) "__getattr__" = some none)
  (x_xd_WrongKind:PySem.W.hasDictIn K zaf=true)
  (x_xa_WrongKind:PySem.W.findIn K (.ref zaf) "__class__" = some (some (.builtin "object.__class__")))
  (x_xm_WrongKind:PySem.W.mroIn K zaf (.type "object")=some true)
  (x_ox_WrongKind:RD.oexB K zaf=true)
  (x_sa_WrongKind:PySem.W.findIn K (.ref zaf) "__setattr__" = some (some (.builtin "object.__setattr__")))
  (x_ini_WrongKind:PySem.W.findIn K (.ref zaf) "__init__" = some (some (.ref za4)))
  (x_tin_WrongKind:PySem.W.typeIn K (.ref za4)=some (.type "function"))
  (x_na_WrongKind_line:PySem.W.findIn K (.ref zaf) "line" = some none)
  (x_na_WrongKind_name:PySem.W.findIn K (.ref zaf) "name" = some none)
  (x_ki_WrongKind_MeshError:PySem.W.kitOne K (.ref zaf) (.ref zch)=some true)
  (x_ki_WrongKind_ValueError:PySem.W.kitOne K (.ref zaf) (.type "ValueError")=some true)
  (x_em_WrongKind_BadLine:PySem.W.exmOne K (.ref zaf) (.ref zab)=some false)
  (x_em_WrongKind_UnknownName:PySem.W.exmOne K (.ref zaf) (.ref zac)=some false)
  (x_g_UnknownDeed:mg "UnknownDeed" = some (.ref zag))
  (x_k_UnknownDeed:PySem.W.keepIn K (.ref zag)=true)
  (x_s_UnknownDeed:PySem.W.subIn K (.ref zag) (.type "BaseException")=some true)
  (x_t_UnknownDeed:PySem.W.typeIn K (.ref zag)=some (.type "type"))
  (x_i_UnknownDeed:PySem.W.isClsIn K zag=true)
  (x_ss_UnknownDeed:PySem.W.subIn K (.ref zag) (.ref zag)=some true)
  (x_xg_UnknownDeed:PySem.W.findIn K (.ref zag) "__getattribute__" = some (some (.builtin "BaseException.__getattribute__")))
  (x_xk_UnknownDeed:PySem.W.findIn K (.ref zag) "__getattr__" = some none)
  (x_xd_UnknownDeed:PySem.W.hasDictIn K zag=true)
  (x_xa_UnknownDeed:PySem.W.findIn K (.ref zag) "__class__" = some (some (.builtin "object.__class__")))
  (x_xm_UnknownDeed:PySem.W.mroIn K zag (.type "object")=some true)
  (x_ox_UnknownDeed:RD.oexB K zag=true)
  (x_sa_UnknownDeed:PySem.W.findIn K (.ref zag) "__setattr__" = some (some (.builtin "object.__setattr__")))
  (x_ini_UnknownDeed:PySem.W.findIn K (.ref zag) "__init__" = some (some (.ref za5)))
  (x_tin_UnknownDeed:PySem.W.typeIn K (.ref za5)=some (.type "function"))
  (x_na_UnknownDeed_name:PySem.W.findIn K (.ref zag) "name" = some none)
  (x_ki_UnknownDeed_MeshError:PySem.W.kitOne K (.ref zag) (.ref zch)=some true)
  (x_ki_UnknownDeed_ValueError:PySem.W.kitOne K (.ref zag) (.type "ValueError")=some true)
  (x_g_Form:mg "Form" = some (.ref zap))
  (x_cl_Form:Cls K zap)
  (x_mk_Form:Mk K zap zca)
  (x_n_Form_bound:NoAttr K zap "bound")
  (x_n_Form_statement:NoAttr K zap "statement")
  (x_n_Form_uses:NoAttr K zap "uses")
  (x_g_Names:mg "Names" = some (.ref zas))
  (x_cl_Names:Cls K zas)
  (x_mk_Names:Mk K zas zbr)
  (x_n_Names_scopes:NoAttr K zas "scopes")
  (x_g_RoutineReader:mg "RoutineReader" = some (.ref zaa))
  (x_cl_RoutineReader:Cls K zaa)
  (x_mk_RoutineReader:Mk K zaa zar)
  (x_n_RoutineReader_blocks:NoAttr K zaa "blocks")
  (x_n_RoutineReader_has_labels:NoAttr K zaa "has_labels")
  (x_n_RoutineReader_lines:NoAttr K zaa "lines")
  (x_n_RoutineReader_offset:NoAttr K zaa "offset")
  (x_n_RoutineReader_statements:NoAttr K zaa "statements")
  (x_g_Routine:mg "Routine" = some (.ref zai))
  (x_cl_Routine:Cls K zai)
  (x_mk_Routine:Mk K zai zbi)
  (x_n_Routine_halves:NoAttr K zai "halves")
  (x_n_Routine_lines:NoAttr K zai "lines")
  (x_n_Routine_name:NoAttr K zai "name")
  (x_n_Routine_statements:NoAttr K zai "statements")
  (x_n_Routine_told:NoAttr K zai "told")
  (x_cn_Routine_is_script:PySem.W.findIn K (.ref zai) "is_script" = some (some (.bool false)))
  (x_cg_Routine_is_script:PySem.W.specialIn K (.bool false) "__get__" = some none)
  (x_g_Script:mg "Script" = some (.ref zaj))
  (x_cl_Script:Cls K zaj)
  (x_mk_Script:Mk K zaj zbl)
  (x_n_Script_calls:NoAttr K zaj "calls")
  (x_n_Script_halves:NoAttr K zaj "halves")
  (x_n_Script_lines:NoAttr K zaj "lines")
  (x_n_Script_name:NoAttr K zaj "name")
  (x_n_Script_statements:NoAttr K zaj "statements")
  (x_n_Script_told:NoAttr K zaj "told")
  (x_cn_Script_is_script:PySem.W.findIn K (.ref zaj) "is_script" = some (some (.bool true)))
  (x_cg_Script_is_script:PySem.W.specialIn K (.bool true) "__get__" = some none)
  (x_g_ScriptReader:mg "ScriptReader" = some (.ref zad))
  (x_cl_ScriptReader:Cls K zad)
  (x_mk_ScriptReader:Mk K zad zat)
  (x_n_ScriptReader_deeds:NoAttr K zad "deeds")
  (x_n_ScriptReader_lines:NoAttr K zad "lines")
  (x_n_ScriptReader_offset:NoAttr K zad "offset")
  (x_n_ScriptReader_statements:NoAttr K zad "statements")
  (x_g_Book:mg "Book" = some (.ref zbp))
  (x_cl_Book:Cls K zbp)
  (x_mk_Book:Mk K zbp zb9)
  (x_n_Book_deeds:NoAttr K zbp "deeds")
  (x_z_abs:mg "abs" = none)
  (x_z_all:mg "all" = none)
  (x_z_bool:mg "bool" = none)
  (x_z_dict:mg "dict" = none)
  (x_z_int:mg "int" = none)
  (x_z_len:mg "len" = none)
  (x_z_list:mg "list" = none)
  (x_z_range:mg "range" = none)
  (x_z_set:mg "set" = none)
  (x_z_str:mg "str" = none)
  (x_z_tuple:mg "tuple" = none)
  (x_k_FIRST_CHARS:∃ t,mg "FIRST_CHARS" = some (.str "abcdefghijklmnopqrstuvwxyz" t))
  (x_k_CHARS:∃ t,mg "CHARS" = some (.str "abcdefghijklmnopqrstuvwxyz0123456789" t))
  (x_k_MOST_LINES_texts:∃ t,mg "MOST_LINES_texts" = some (.int 60 t))
  (x_k_MOST_BLOCKS:∃ t,mg "MOST_BLOCKS" = some (.int 3 t))
  (x_k_MOST_LINKS:∃ t,mg "MOST_LINKS" = some (.int 4 t))
  (x_k_HALF:∃ t,mg "HALF" = some (.str "half" t))
  (x_k_MOST_LINES_books:∃ t,mg "MOST_LINES_books" = some (.int 20 t))
  (x_oc_get:PySem.W.specialIn K (.builtin "object.__class__") "__get__" = some (some (.builtin "getset_descriptor.__get__")))
  (x_oc_tak:PySem.W.takesIn K (.builtin "object.__class__")=some true)
  (x_k_RESERVED:mg "RESERVED" = some (.ref zel))
  (x_kt_RESERVED:∀ H:Hp,SqT K H zel [.str "routine", .str "script", .str "given", .str "let", .str "make", .str "drop", .str "if", .str "else", .str "end", .str "new", .str "round", .str "tell", .str "call", .str "next", .str "prev", .str "twin", .str "face", .str "corner", .str "some"])
  (x_k_LINKS:mg "LINKS" = some (.ref zhj))
  (x_kt_LINKS:∀ H:Hp,SqT K H zhj [.str "next", .str "prev", .str "twin"])
  (x_k_KINDS:mg "KINDS" = some (.ref zcy))
  (x_kt_KINDS:∀ H:Hp,SqT K H zcy [.str "face", .str "corner"])
  (x_k_LABEL_LINES:mg "LABEL_LINES" = some (.ref zbx))
  (x_kt_LABEL_LINES:∀ H:Hp,SqT K H zbx [.str "new", .str "bear", .str "round", .str "some"])
  : Txt K mg ⟨zbg,zcf,zaw,zbj,za4,zbw,za5,zb0,zg8,zgz,zgv,zg9,zgy,zgw,zhb,zgt,zd2,zdy,zcj,zck,zca,zbh,zdx,zdw,zf5,zf3,zer,zes,zey,zet,zcw,zct,zfm,zfg,zg0,zg6,zdi,zdc,zex,zeo,zbr,zcx,zdf,zc7,zce,zcc,zb5,zb7,zed,zeb,zde,zdk,zep,zew,zar,zba,zbu,zbt,zay,zaz,za1,za0,za6,za7,zb2,zb4,zbi,zcg,zdl,zdm,zbl,zcl,zd1,zdt,zdr,zdu,zfn,zfl,zef,zea,zat,zbb,zb3,zb6,za8,za9,za3,za2,zb9,zc9,zbo,zcz,zco,zcp,zdv,zdz,zfy,zfu,zfo,zfj,zh6,zh1,zhy,zhz,zgu,zgx,zh8,zic,ziv,ziw,zfi,zfh,zg7,zg5,zec,zee,zl5,zky,zb1,zah,zel,zhj,zcy,zbx,zch,zab,zac,zaf,zag,zap,zas,zaa,zai,zaj,zad,zbp⟩:=⟨x_F_BadLine_d_initd_,x_b_BadLine_d_initd_,x_F_UnknownName_d_initd_,x_b_UnknownName_d_initd_,x_F_WrongKind_d_initd_,x_b_WrongKind_d_initd_,x_F_UnknownDeed_d_initd_,x_b_UnknownDeed_d_initd_,x_F_is_word,x_b_is_word,x_g_is_word,x_F_is_name,x_b_is_name,x_g_is_name,x_F_path_of,x_b_path_of,x_g_path_of,x_F_side_of,x_b_side_of,x_g_side_of,x_F_condition_of,x_b_condition_of,x_g_condition_of,x_F_condition_names,x_b_condition_names,x_g_condition_names,x_F_Form_d_initd_,x_b2_Form_d_initd_,x_b1_Form_d_initd_,x_b_Form_d_initd_,x_et_Form_d_initd__0,x_et_Form_d_initd__1,x_m_Form_d_initd_,x_F_Form_is_good,x_b_Form_is_good,x_m_Form_is_good,x_F_let_form,x_b_let_form,x_g_let_form,x_F_write_form,x_b_write_form,x_g_write_form,x_F_round_form,x_b_round_form,x_g_round_form,x_F_condition_form,x_b_condition_form,x_g_condition_form,x_F_tell_form,x_b_tell_form,x_g_tell_form,x_F_form_of,x_b_form_of,x_g_form_of,x_F_is_right_kind,x_b_is_right_kind,x_g_is_right_kind,x_F_first_line,x_b_first_line,x_g_first_line,x_F_Names_d_initd_,x_b_Names_d_initd_,x_m_Names_d_initd_,x_F_Names_kind_of,x_b_Names_kind_of,x_m_Names_kind_of,x_F_Names_open_block,x_b_Names_open_block,x_m_Names_open_block,x_F_Names_close_block,x_b_Names_close_block,x_m_Names_close_block,x_F_Names_check,x_b_Names_check,x_m_Names_check,x_F_Names_is_free,x_b_Names_is_free,x_m_Names_is_free,x_F_Names_bind,x_b_Names_bind,x_m_Names_bind,x_F_RoutineReader_d_initd_,x_b_RoutineReader_d_initd_,x_m_RoutineReader_d_initd_,x_F_RoutineReader_read,x_b_RoutineReader_read,x_m_RoutineReader_read,x_F_RoutineReader_read_line,x_b_RoutineReader_read_line,x_m_RoutineReader_read_line,x_F_RoutineReader_may_stand,x_b_RoutineReader_may_stand,x_m_RoutineReader_may_stand,x_F_RoutineReader_resolved,x_b_RoutineReader_resolved,x_m_RoutineReader_resolved,x_F_RoutineReader_add,x_b_RoutineReader_add,x_m_RoutineReader_add,x_F_Routine_d_initd_,x_b_Routine_d_initd_,x_m_Routine_d_initd_,x_F_Routine_d_lend_,x_b_Routine_d_lend_,x_m_Routine_d_lend_,x_F_Script_d_initd_,x_b_Script_d_initd_,x_m_Script_d_initd_,x_F_Script_d_lend_,x_b_Script_d_lend_,x_m_Script_d_lend_,x_F_Script_routine,x_b_Script_routine,x_m_Script_routine,x_F_call_form,x_b_call_form,x_g_call_form,x_F_script_form,x_b_script_form,x_g_script_form,x_F_ScriptReader_d_initd_,x_b_ScriptReader_d_initd_,x_m_ScriptReader_d_initd_,x_F_ScriptReader_read,x_b_ScriptReader_read,x_m_ScriptReader_read,x_F_ScriptReader_read_line,x_b_ScriptReader_read_line,x_m_ScriptReader_read_line,x_F_ScriptReader_check_call,x_b_ScriptReader_check_call,x_m_ScriptReader_check_call,x_F_Book_d_initd_,x_b_Book_d_initd_,x_m_Book_d_initd_,x_F_Book_d_getitemd_,x_b_Book_d_getitemd_,x_m_Book_d_getitemd_,x_fi_Book_d_getitemd_,x_F_Book_d_containsd_,x_b_Book_d_containsd_,x_m_Book_d_containsd_,x_F_Book_d_lend_,x_b_Book_d_lend_,x_m_Book_d_lend_,x_F_Book_names,x_b_Book_names,x_m_Book_names,x_F_read_book,x_b_read_book,x_g_read_book,x_F_l_tape,x_b_l_tape,x_g_l_tape,x_F_l_pick,x_b_l_pick,x_g_l_pick,x_F_l_frame,x_b_l_frame,x_g_l_frame,x_F_l_told,x_b_l_told,x_g_l_told,x_F_l_put,x_b_l_put,x_g_l_put,x_F_l_in_book,x_b_l_in_book,x_g_l_in_book,x_F_l_below,x_b_l_below,x_g_l_below,x_F_l_in_script,x_b_l_in_script,x_g_l_in_script,x_F_law,x_b_law,x_g_law,x_g_MeshError,x_g_BadLine,x_k_BadLine,x_s_BadLine,x_t_BadLine,x_i_BadLine,x_ss_BadLine,x_xg_BadLine,x_xk_BadLine,x_xd_BadLine,x_xa_BadLine,x_xm_BadLine,x_ox_BadLine,x_sa_BadLine,x_ini_BadLine,x_tin_BadLine,x_na_BadLine_line,x_ki_BadLine_MeshError,x_ki_BadLine_ValueError,x_g_UnknownName,x_k_UnknownName,x_s_UnknownName,x_t_UnknownName,x_i_UnknownName,x_ss_UnknownName,x_xg_UnknownName,x_xk_UnknownName,x_xd_UnknownName,x_xa_UnknownName,x_xm_UnknownName,x_ox_UnknownName,x_sa_UnknownName,x_ini_UnknownName,x_tin_UnknownName,x_na_UnknownName_line,x_na_UnknownName_name,x_ki_UnknownName_MeshError,x_ki_UnknownName_ValueError,x_em_UnknownName_BadLine,x_g_WrongKind,x_k_WrongKind,x_s_WrongKind,x_t_WrongKind,x_i_WrongKind,x_ss_WrongKind,x_xg_WrongKind,x_xk_WrongKind,x_xd_WrongKind,x_xa_WrongKind,x_xm_WrongKind,x_ox_WrongKind,x_sa_WrongKind,x_ini_WrongKind,x_tin_WrongKind,x_na_WrongKind_line,x_na_WrongKind_name,x_ki_WrongKind_MeshError,x_ki_WrongKind_ValueError,x_em_WrongKind_BadLine,x_em_WrongKind_UnknownName,x_g_UnknownDeed,x_k_UnknownDeed,x_s_UnknownDeed,x_t_UnknownDeed,x_i_UnknownDeed,x_ss_UnknownDeed,x_xg_UnknownDeed,x_xk_UnknownDeed,x_xd_UnknownDeed,x_xa_UnknownDeed,x_xm_UnknownDeed,x_ox_UnknownDeed,x_sa_UnknownDeed,x_ini_UnknownDeed,x_tin_UnknownDeed,x_na_UnknownDeed_name,x_ki_UnknownDeed_MeshError,x_ki_UnknownDeed_ValueError,x_g_Form,x_cl_Form,x_mk_Form,x_n_Form_bound,x_n_Form_statement,x_n_Form_uses,x_g_Names,x_cl_Names,x_mk_Names,x_n_Names_scopes,x_g_RoutineReader,x_cl_RoutineReader,x_mk_RoutineReader,x_n_RoutineReader_blocks,x_n_RoutineReader_has_labels,x_n_RoutineReader_lines,x_n_RoutineReader_offset,x_n_RoutineReader_statements,x_g_Routine,x_cl_Routine,x_mk_Routine,x_n_Routine_halves,x_n_Routine_lines,x_n_Routine_name,x_n_Routine_statements,x_n_Routine_told,x_cn_Routine_is_script,x_cg_Routine_is_script,x_g_Script,x_cl_Script,x_mk_Script,x_n_Script_calls,x_n_Script_halves,x_n_Script_lines,x_n_Script_name,x_n_Script_statements,x_n_Script_told,x_cn_Script_is_script,x_cg_Script_is_script,x_g_ScriptReader,x_cl_ScriptReader,x_mk_ScriptReader,x_n_ScriptReader_deeds,x_n_ScriptReader_lines,x_n_ScriptReader_offset,x_n_ScriptReader_statements,x_g_Book,x_cl_Book,x_mk_Book,x_n_Book_deeds,x_z_abs,x_z_all,x_z_bool,x_z_dict,x_z_int,x_z_len,x_z_list,x_z_range,x_z_set,x_z_str,x_z_tuple,x_k_FIRST_CHARS,x_k_CHARS,x_k_MOST_LINES_texts,x_k_MOST_BLOCKS,x_k_MOST_LINKS,x_k_HALF,x_k_MOST_LINES_books,x_oc_get,x_oc_tak,x_k_RESERVED,x_kt_RESERVED,x_k_LINKS,x_kt_LINKS,x_k_KINDS,x_kt_KINDS,x_k_LABEL_LINES,x_kt_LABEL_LINES⟩
theorem txt_of {w:World} {K:PySem.W.Frag} {h:Heap} {mg:Str→Option Value} (X:K.In h) (G:h.Ns mainGlobals mg) (c:HB.Says chk fnB dsB w K):Txt K mg (adOf K):=by
 have c0:=c.chkT
 have r0:=c.eqs
 have q0:=c.oks
 have z:chk0 K=true:=c0
 have h0:=(HB.bs z).1
 have z:=(HB.bs z).2
 have h1:=(HB.bs z).1
 have z:=(HB.bs z).2
 have h2:=(HB.bs z).1
 have z:=(HB.bs z).2
 have h3:=(HB.bs z).1
 have z:=(HB.bs z).2
 have h4:=(HB.bs z).1
 have z:=(HB.bs z).2
 have h5:=(HB.bs z).1
 have z:=(HB.bs z).2
 have h6:=(HB.bs z).1
 have z:=(HB.bs z).2
 have h7:=(HB.bs z).1
 have z:=(HB.bs z).2
 have c1:=z
 have z:chk1 K=true:=c1
 have h8:=(HB.bs z).1
 have z:=(HB.bs z).2
 have h9:=(HB.bs z).1
 have z:=(HB.bs z).2
 have h10:=(HB.bs z).1
 have z:=(HB.bs z).2
 have h11:=(HB.bs z).1
 have z:=(HB.bs z).2
 have h12:=(HB.bs z).1
 have z:=(HB.bs z).2
 have h13:=(HB.bs z).1
 have z:=(HB.bs z).2
 have h14:=(HB.bs z).1
 have z:=(HB.bs z).2
 have h15:=(HB.bs z).1
 have z:=(HB.bs z).2
 have c2:=z
 have z:chk2 K=true:=c2
 have h16:=(HB.bs z).1
 have z:=(HB.bs z).2
 have h17:=(HB.bs z).1
 have z:=(HB.bs z).2
 have h18:=(HB.bs z).1
 have z:=(HB.bs z).2
 have h19:=(HB.bs z).1
 have z:=(HB.bs z).2
 have h20:=(HB.bs z).1
 have z:=(HB.bs z).2
 have h21:=(HB.bs z).1
 have z:=(HB.bs z).2
 have h22:=(HB.bs z).1
 have z:=(HB.bs z).2
 have h23:=(HB.bs z).1
 have z:=(HB.bs z).2
 have c3:=z
 have z:chk3 K=true:=c3
 have h24:=(HB.bs z).1
 have z:=(HB.bs z).2
 have h25:=(HB.bs z).1
 have z:=(HB.bs z).2
 have h26:=(HB.bs z).1
 have z:=(HB.bs z).2
 have h27:=(HB.bs z).1
 have z:=(HB.bs z).2
 have h28:=(HB.bs z).1
 have z:=(HB.bs z).2
 have h29:=(HB.bs z).1
 have z:=(HB.bs z).2
 have h30:=(HB.bs z).1
 have z:=(HB.bs z).2
 have h31:=(HB.bs z).1
 have z:=(HB.bs z).2
 have c4:=z
 have z:chk4 K=true:=c4
 have h32:=(HB.bs z).1
 have z:=(HB.bs z).2
 have h33:=(HB.bs z).1
 have z:=(HB.bs z).2
 have h34:=(HB.bs z).1
 have z:=(HB.bs z).2
 have h35:=(HB.bs z).1
 have z:=(HB.bs z).2
 have h36:=(HB.bs z).1
 have z:=(HB.bs z).2
 have h37:=(HB.bs z).1
 have z:=(HB.bs z).2
 have h38:=(HB.bs z).1
 have z:=(HB.bs z).2
 have h39:=(HB.bs z).1
 have z:=(HB.bs z).2
 have c5:=z
 have z:chk5 K=true:=c5
 have h40:=(HB.bs z).1
 have z:=(HB.bs z).2
 have h41:=(HB.bs z).1
 have z:=(HB.bs z).2
 have h42:=(HB.bs z).1
 have z:=(HB.bs z).2
 have h43:=(HB.bs z).1
 have z:=(HB.bs z).2
 have h44:=(HB.bs z).1
 have z:=(HB.bs z).2
 have h45:=(HB.bs z).1
 have z:=(HB.bs z).2
 have h46:=(HB.bs z).1
 have z:=(HB.bs z).2
 have h47:=(HB.bs z).1
 have z:=(HB.bs z).2
 have c6:=z
 have z:chk6 K=true:=c6
 have h48:=(HB.bs z).1
 have z:=(HB.bs z).2
 have h49:=(HB.bs z).1
 have z:=(HB.bs z).2
 have h50:=(HB.bs z).1
 have z:=(HB.bs z).2
 have h51:=(HB.bs z).1
 have z:=(HB.bs z).2
 have h52:=(HB.bs z).1
 have z:=(HB.bs z).2
 have h53:=(HB.bs z).1
 have z:=(HB.bs z).2
 have h54:=(HB.bs z).1
 have z:=(HB.bs z).2
 have h55:=(HB.bs z).1
 have z:=(HB.bs z).2
 have c7:=z
 have z:chk7 K=true:=c7
 have h56:=(HB.bs z).1
 have z:=(HB.bs z).2
 have h57:=(HB.bs z).1
 have z:=(HB.bs z).2
 have h58:=(HB.bs z).1
 have z:=(HB.bs z).2
 have h59:=(HB.bs z).1
 have z:=(HB.bs z).2
 have h60:=(HB.bs z).1
 have z:=(HB.bs z).2
 have h61:=(HB.bs z).1
 have z:=(HB.bs z).2
 have h62:=(HB.bs z).1
 have z:=(HB.bs z).2
 have h63:=(HB.bs z).1
 have z:=(HB.bs z).2
 have c8:=z
 have z:chk8 K=true:=c8
 have h64:=(HB.bs z).1
 have z:=(HB.bs z).2
 have h65:=(HB.bs z).1
 have z:=(HB.bs z).2
 have h66:=(HB.bs z).1
 have z:=(HB.bs z).2
 have h67:=(HB.bs z).1
 have z:=(HB.bs z).2
 have h68:=(HB.bs z).1
 have z:=(HB.bs z).2
 have h69:=(HB.bs z).1
 have z:=(HB.bs z).2
 have h70:=(HB.bs z).1
 have z:=(HB.bs z).2
 have h71:=(HB.bs z).1
 have z:=(HB.bs z).2
 have c9:=z
 have z:chk9 K=true:=c9
 have h72:=(HB.bs z).1
 have z:=(HB.bs z).2
 have h73:=(HB.bs z).1
 have z:=(HB.bs z).2
 have h74:=(HB.bs z).1
 have z:=(HB.bs z).2
 have h75:=(HB.bs z).1
 have z:=(HB.bs z).2
 have h76:=(HB.bs z).1
 have z:=(HB.bs z).2
 have h77:=(HB.bs z).1
 have z:=(HB.bs z).2
 have h78:=(HB.bs z).1
 have z:=(HB.bs z).2
 have h79:=(HB.bs z).1
 have z:=(HB.bs z).2
 have c10:=z
 have z:chk10 K=true:=c10
 have h80:=(HB.bs z).1
 have z:=(HB.bs z).2
 have h81:=(HB.bs z).1
 have z:=(HB.bs z).2
 have h82:=(HB.bs z).1
 have z:=(HB.bs z).2
 have h83:=(HB.bs z).1
 have z:=(HB.bs z).2
 have h84:=(HB.bs z).1
 have z:=(HB.bs z).2
 have h85:=(HB.bs z).1
 have z:=(HB.bs z).2
 have h86:=(HB.bs z).1
 have z:=(HB.bs z).2
 have h87:=(HB.bs z).1
 have z:=(HB.bs z).2
 have c11:=z
 have z:chk11 K=true:=c11
 have h88:=(HB.bs z).1
 have z:=(HB.bs z).2
 have h89:=(HB.bs z).1
 have z:=(HB.bs z).2
 have h90:=(HB.bs z).1
 have z:=(HB.bs z).2
 have h91:=(HB.bs z).1
 have z:=(HB.bs z).2
 have h92:=(HB.bs z).1
 have z:=(HB.bs z).2
 have h93:=(HB.bs z).1
 have z:=(HB.bs z).2
 have h94:=(HB.bs z).1
 have z:=(HB.bs z).2
 have h95:=(HB.bs z).1
 have z:=(HB.bs z).2
 have c12:=z
 have z:chk12 K=true:=c12
 have h96:=(HB.bs z).1
 have z:=(HB.bs z).2
 have h97:=(HB.bs z).1
 have z:=(HB.bs z).2
 have h98:=(HB.bs z).1
 have z:=(HB.bs z).2
 have h99:=(HB.bs z).1
 have z:=(HB.bs z).2
 have h100:=(HB.bs z).1
 have z:=(HB.bs z).2
 have h101:=(HB.bs z).1
 have z:=(HB.bs z).2
 have h102:=(HB.bs z).1
 have z:=(HB.bs z).2
 have h103:=(HB.bs z).1
 have z:=(HB.bs z).2
 have c13:=z
 have z:chk13 K=true:=c13
 have h104:=(HB.bs z).1
 have z:=(HB.bs z).2
 have h105:=(HB.bs z).1
 have z:=(HB.bs z).2
 have h106:=(HB.bs z).1
 have z:=(HB.bs z).2
 have h107:=(HB.bs z).1
 have z:=(HB.bs z).2
 have h108:=(HB.bs z).1
 have z:=(HB.bs z).2
 have h109:=(HB.bs z).1
 have z:=(HB.bs z).2
 have h110:=(HB.bs z).1
 have z:=(HB.bs z).2
 have h111:=(HB.bs z).1
 have z:=(HB.bs z).2
 have c14:=z
 have z:chk14 K=true:=c14
 have h112:=(HB.bs z).1
 have z:=(HB.bs z).2
 have h113:=(HB.bs z).1
 have z:=(HB.bs z).2
 have h114:=(HB.bs z).1
 have z:=(HB.bs z).2
 have h115:=(HB.bs z).1
 have z:=(HB.bs z).2
 have h116:=(HB.bs z).1
 have z:=(HB.bs z).2
 have h117:=(HB.bs z).1
 have z:=(HB.bs z).2
 have h118:=(HB.bs z).1
 have z:=(HB.bs z).2
 have h119:=(HB.bs z).1
 have z:=(HB.bs z).2
 have c15:=z
 have z:chk15 K=true:=c15
 have h120:=(HB.bs z).1
 have z:=(HB.bs z).2
 have h121:=(HB.bs z).1
 have z:=(HB.bs z).2
 have h122:=(HB.bs z).1
 have z:=(HB.bs z).2
 have h123:=(HB.bs z).1
 have z:=(HB.bs z).2
 have h124:=(HB.bs z).1
 have z:=(HB.bs z).2
 have h125:=(HB.bs z).1
 have z:=(HB.bs z).2
 have h126:=(HB.bs z).1
 have z:=(HB.bs z).2
 have h127:=(HB.bs z).1
 have z:=(HB.bs z).2
 have c16:=z
 have z:chk16 K=true:=c16
 have h128:=(HB.bs z).1
 have z:=(HB.bs z).2
 have h129:=(HB.bs z).1
 have z:=(HB.bs z).2
 have h130:=(HB.bs z).1
 have z:=(HB.bs z).2
 have h131:=(HB.bs z).1
 have z:=(HB.bs z).2
 have h132:=(HB.bs z).1
 have z:=(HB.bs z).2
 have h133:=(HB.bs z).1
 have z:=(HB.bs z).2
 have h134:=(HB.bs z).1
 have z:=(HB.bs z).2
 have h135:=(HB.bs z).1
 have z:=(HB.bs z).2
 have c17:=z
 have z:chk17 K=true:=c17
 have h136:=(HB.bs z).1
 have z:=(HB.bs z).2
 have h137:=(HB.bs z).1
 have z:=(HB.bs z).2
 have h138:=(HB.bs z).1
 have z:=(HB.bs z).2
 have h139:=(HB.bs z).1
 have z:=(HB.bs z).2
 have h140:=(HB.bs z).1
 have z:=(HB.bs z).2
 have h141:=(HB.bs z).1
 have z:=(HB.bs z).2
 have h142:=(HB.bs z).1
 have z:=(HB.bs z).2
 have h143:=(HB.bs z).1
 have z:=(HB.bs z).2
 have c18:=z
 have z:chk18 K=true:=c18
 have h144:=(HB.bs z).1
 have z:=(HB.bs z).2
 have h145:=(HB.bs z).1
 have z:=(HB.bs z).2
 have h146:=(HB.bs z).1
 have z:=(HB.bs z).2
 have h147:=(HB.bs z).1
 have z:=(HB.bs z).2
 have h148:=(HB.bs z).1
 have z:=(HB.bs z).2
 have h149:=(HB.bs z).1
 have z:=(HB.bs z).2
 have h150:=(HB.bs z).1
 have z:=(HB.bs z).2
 have h151:=(HB.bs z).1
 have z:=(HB.bs z).2
 have c19:=z
 have z:chk19 K=true:=c19
 have h152:=(HB.bs z).1
 have z:=(HB.bs z).2
 have h153:=(HB.bs z).1
 have z:=(HB.bs z).2
 have h154:=(HB.bs z).1
 have z:=(HB.bs z).2
 have h155:=(HB.bs z).1
 have z:=(HB.bs z).2
 have h156:=(HB.bs z).1
 have z:=(HB.bs z).2
 have h157:=(HB.bs z).1
 have z:=(HB.bs z).2
 have h158:=(HB.bs z).1
 have z:=(HB.bs z).2
 have h159:=(HB.bs z).1
 have z:=(HB.bs z).2
 have c20:=z
 have z:chk20 K=true:=c20
 have h160:=(HB.bs z).1
 have z:=(HB.bs z).2
 have h161:=(HB.bs z).1
 have z:=(HB.bs z).2
 have h162:=(HB.bs z).1
 have z:=(HB.bs z).2
 have h163:=(HB.bs z).1
 have z:=(HB.bs z).2
 have h164:=(HB.bs z).1
 have z:=(HB.bs z).2
 have h165:=(HB.bs z).1
 have z:=(HB.bs z).2
 have h166:=(HB.bs z).1
 have z:=(HB.bs z).2
 have h167:=(HB.bs z).1
 have z:=(HB.bs z).2
 have c21:=z
 have z:chk21 K=true:=c21
 have h168:=(HB.bs z).1
 have z:=(HB.bs z).2
 have h169:=(HB.bs z).1
 have z:=(HB.bs z).2
 have h170:=(HB.bs z).1
 have z:=(HB.bs z).2
 have h171:=(HB.bs z).1
 have z:=(HB.bs z).2
 have h172:=(HB.bs z).1
 have z:=(HB.bs z).2
 have h173:=(HB.bs z).1
 have z:=(HB.bs z).2
 have h174:=(HB.bs z).1
 have z:=(HB.bs z).2
 have h175:=(HB.bs z).1
 have z:=(HB.bs z).2
 have c22:=z
 have z:chk22 K=true:=c22
 have h176:=(HB.bs z).1
 have z:=(HB.bs z).2
 have h177:=(HB.bs z).1
 have z:=(HB.bs z).2
 have h178:=(HB.bs z).1
 have z:=(HB.bs z).2
 have h179:=(HB.bs z).1
 have z:=(HB.bs z).2
 have h180:=(HB.bs z).1
 have z:=(HB.bs z).2
 have h181:=(HB.bs z).1
 have z:=(HB.bs z).2
 have h182:=(HB.bs z).1
 have z:=(HB.bs z).2
 have h183:=(HB.bs z).1
 have z:=(HB.bs z).2
 have c23:=z
 have z:chk23 K=true:=c23
 have h184:=(HB.bs z).1
 have z:=(HB.bs z).2
 have h185:=(HB.bs z).1
 have z:=(HB.bs z).2
 have h186:=(HB.bs z).1
 have z:=(HB.bs z).2
 have h187:=(HB.bs z).1
 have z:=(HB.bs z).2
 have h188:=(HB.bs z).1
 have z:=(HB.bs z).2
 have h189:=(HB.bs z).1
 have z:=(HB.bs z).2
 have h190:=(HB.bs z).1
 have z:=(HB.bs z).2
 have h191:=(HB.bs z).1
 have z:=(HB.bs z).2
 have c24:=z
 have z:chk24 K=true:=c24
 have h192:=(HB.bs z).1
 have z:=(HB.bs z).2
 have h193:=(HB.bs z).1
 have z:=(HB.bs z).2
 have h194:=(HB.bs z).1
 have z:=(HB.bs z).2
 have h195:=(HB.bs z).1
 have z:=(HB.bs z).2
 have h196:=(HB.bs z).1
 have z:=(HB.bs z).2
 have h197:=(HB.bs z).1
 have z:=(HB.bs z).2
 have h198:=(HB.bs z).1
 have z:=(HB.bs z).2
 have h199:=(HB.bs z).1
 have z:=(HB.bs z).2
 have c25:=z
 have z:chk25 K=true:=c25
 have h200:=(HB.bs z).1
 have z:=(HB.bs z).2
 have h201:=(HB.bs z).1
 have z:=(HB.bs z).2
 have h202:=(HB.bs z).1
 have z:=(HB.bs z).2
 have h203:=(HB.bs z).1
 have z:=(HB.bs z).2
 have h204:=(HB.bs z).1
 have z:=(HB.bs z).2
 have h205:=(HB.bs z).1
 have z:=(HB.bs z).2
 have h206:=(HB.bs z).1
 have z:=(HB.bs z).2
 have h207:=(HB.bs z).1
 have z:=(HB.bs z).2
 have c26:=z
 have e0:=(HB.stE (d:=dB0) (L:=fnB1) r0).1
 have r1:=(HB.stE (d:=dB0) (L:=fnB1) r0).2
 have k0:=(HB.stQ (d:=dB0) (L:=fnB1) q0).1
 have q1:=(HB.stQ (d:=dB0) (L:=fnB1) q0).2
 have e1:=(HB.stE (d:=dB1) (L:=fnB2) r1).1
 have r2:=(HB.stE (d:=dB1) (L:=fnB2) r1).2
 have k1:=(HB.stQ (d:=dB1) (L:=fnB2) q1).1
 have q2:=(HB.stQ (d:=dB1) (L:=fnB2) q1).2
 have e2:=(HB.stE (d:=dB2) (L:=fnB3) r2).1
 have r3:=(HB.stE (d:=dB2) (L:=fnB3) r2).2
 have k2:=(HB.stQ (d:=dB2) (L:=fnB3) q2).1
 have q3:=(HB.stQ (d:=dB2) (L:=fnB3) q2).2
 have e3:=(HB.stE (d:=dB3) (L:=fnB4) r3).1
 have r4:=(HB.stE (d:=dB3) (L:=fnB4) r3).2
 have k3:=(HB.stQ (d:=dB3) (L:=fnB4) q3).1
 have q4:=(HB.stQ (d:=dB3) (L:=fnB4) q3).2
 have e4:=(HB.stE (d:=dB4) (L:=fnB5) r4).1
 have r5:=(HB.stE (d:=dB4) (L:=fnB5) r4).2
 have k4:=(HB.stQ (d:=dB4) (L:=fnB5) q4).1
 have q5:=(HB.stQ (d:=dB4) (L:=fnB5) q4).2
 have e5:=(HB.stE (d:=dB5) (L:=fnB6) r5).1
 have r6:=(HB.stE (d:=dB5) (L:=fnB6) r5).2
 have k5:=(HB.stQ (d:=dB5) (L:=fnB6) q5).1
 have q6:=(HB.stQ (d:=dB5) (L:=fnB6) q5).2
 have e6:=(HB.stE (d:=dB6) (L:=fnB7) r6).1
 have r7:=(HB.stE (d:=dB6) (L:=fnB7) r6).2
 have k6:=(HB.stQ (d:=dB6) (L:=fnB7) q6).1
 have q7:=(HB.stQ (d:=dB6) (L:=fnB7) q6).2
 have e7:=(HB.stE (d:=dB7) (L:=fnB8) r7).1
 have r8:=(HB.stE (d:=dB7) (L:=fnB8) r7).2
 have k7:=(HB.stQ (d:=dB7) (L:=fnB8) q7).1
 have q8:=(HB.stQ (d:=dB7) (L:=fnB8) q7).2
 have e8:=(HB.stE (d:=dB8) (L:=fnB9) r8).1
 have r9:=(HB.stE (d:=dB8) (L:=fnB9) r8).2
 have k8:=(HB.stQ (d:=dB8) (L:=fnB9) q8).1
 have q9:=(HB.stQ (d:=dB8) (L:=fnB9) q8).2
 have e9:=(HB.stE (d:=dB9) (L:=fnB10) r9).1
 have r10:=(HB.stE (d:=dB9) (L:=fnB10) r9).2
 have k9:=(HB.stQ (d:=dB9) (L:=fnB10) q9).1
 have q10:=(HB.stQ (d:=dB9) (L:=fnB10) q9).2
 have e10:=(HB.stE (d:=dB10) (L:=fnB11) r10).1
 have r11:=(HB.stE (d:=dB10) (L:=fnB11) r10).2
 have k10:=(HB.stQ (d:=dB10) (L:=fnB11) q10).1
 have q11:=(HB.stQ (d:=dB10) (L:=fnB11) q10).2
 have e11:=(HB.stE (d:=dB11) (L:=fnB12) r11).1
 have r12:=(HB.stE (d:=dB11) (L:=fnB12) r11).2
 have k11:=(HB.stQ (d:=dB11) (L:=fnB12) q11).1
 have q12:=(HB.stQ (d:=dB11) (L:=fnB12) q11).2
 have e12:=(HB.stE (d:=dB12) (L:=fnB13) r12).1
 have r13:=(HB.stE (d:=dB12) (L:=fnB13) r12).2
 have k12:=(HB.stQ (d:=dB12) (L:=fnB13) q12).1
 have q13:=(HB.stQ (d:=dB12) (L:=fnB13) q12).2
 have e13:=(HB.stE (d:=dB13) (L:=fnB14) r13).1
 have r14:=(HB.stE (d:=dB13) (L:=fnB14) r13).2
 have k13:=(HB.stQ (d:=dB13) (L:=fnB14) q13).1
 have q14:=(HB.stQ (d:=dB13) (L:=fnB14) q13).2
 have e14:=(HB.stE (d:=dB14) (L:=fnB15) r14).1
 have r15:=(HB.stE (d:=dB14) (L:=fnB15) r14).2
 have k14:=(HB.stQ (d:=dB14) (L:=fnB15) q14).1
 have q15:=(HB.stQ (d:=dB14) (L:=fnB15) q14).2
 have e15:=(HB.stE (d:=dB15) (L:=fnB16) r15).1
 have r16:=(HB.stE (d:=dB15) (L:=fnB16) r15).2
 have k15:=(HB.stQ (d:=dB15) (L:=fnB16) q15).1
 have q16:=(HB.stQ (d:=dB15) (L:=fnB16) q15).2
 have e16:=(HB.stE (d:=dB16) (L:=fnB17) r16).1
 have r17:=(HB.stE (d:=dB16) (L:=fnB17) r16).2
 have k16:=(HB.stQ (d:=dB16) (L:=fnB17) q16).1
 have q17:=(HB.stQ (d:=dB16) (L:=fnB17) q16).2
 have e17:=(HB.stE (d:=dB17) (L:=fnB18) r17).1
 have r18:=(HB.stE (d:=dB17) (L:=fnB18) r17).2
 have k17:=(HB.stQ (d:=dB17) (L:=fnB18) q17).1
 have q18:=(HB.stQ (d:=dB17) (L:=fnB18) q17).2
 have e18:=(HB.stE (d:=dB18) (L:=fnB19) r18).1
 have r19:=(HB.stE (d:=dB18) (L:=fnB19) r18).2
 have k18:=(HB.stQ (d:=dB18) (L:=fnB19) q18).1
 have q19:=(HB.stQ (d:=dB18) (L:=fnB19) q18).2
 have e19:=(HB.stE (d:=dB19) (L:=fnB20) r19).1
 have r20:=(HB.stE (d:=dB19) (L:=fnB20) r19).2
 have k19:=(HB.stQ (d:=dB19) (L:=fnB20) q19).1
 have q20:=(HB.stQ (d:=dB19) (L:=fnB20) q19).2
 have e20:=(HB.stE (d:=dB20) (L:=fnB21) r20).1
 have r21:=(HB.stE (d:=dB20) (L:=fnB21) r20).2
 have k20:=(HB.stQ (d:=dB20) (L:=fnB21) q20).1
 have q21:=(HB.stQ (d:=dB20) (L:=fnB21) q20).2
 have e21:=(HB.stE (d:=dB21) (L:=fnB22) r21).1
 have r22:=(HB.stE (d:=dB21) (L:=fnB22) r21).2
 have k21:=(HB.stQ (d:=dB21) (L:=fnB22) q21).1
 have q22:=(HB.stQ (d:=dB21) (L:=fnB22) q21).2
 have e22:=(HB.stE (d:=dB22) (L:=fnB23) r22).1
 have r23:=(HB.stE (d:=dB22) (L:=fnB23) r22).2
 have k22:=(HB.stQ (d:=dB22) (L:=fnB23) q22).1
 have q23:=(HB.stQ (d:=dB22) (L:=fnB23) q22).2
 have e23:=(HB.stE (d:=dB23) (L:=fnB24) r23).1
 have r24:=(HB.stE (d:=dB23) (L:=fnB24) r23).2
 have k23:=(HB.stQ (d:=dB23) (L:=fnB24) q23).1
 have q24:=(HB.stQ (d:=dB23) (L:=fnB24) q23).2
 have e24:=(HB.stE (d:=dB24) (L:=fnB25) r24).1
 have r25:=(HB.stE (d:=dB24) (L:=fnB25) r24).2
 have k24:=(HB.stQ (d:=dB24) (L:=fnB25) q24).1
 have q25:=(HB.stQ (d:=dB24) (L:=fnB25) q24).2
 have e25:=(HB.stE (d:=dB25) (L:=fnB26) r25).1
 have r26:=(HB.stE (d:=dB25) (L:=fnB26) r25).2
 have k25:=(HB.stQ (d:=dB25) (L:=fnB26) q25).1
 have q26:=(HB.stQ (d:=dB25) (L:=fnB26) q25).2
 have e26:=(HB.stE (d:=dB26) (L:=fnB27) r26).1
 have r27:=(HB.stE (d:=dB26) (L:=fnB27) r26).2
 have k26:=(HB.stQ (d:=dB26) (L:=fnB27) q26).1
 have q27:=(HB.stQ (d:=dB26) (L:=fnB27) q26).2
 have e27:=(HB.stE (d:=dB27) (L:=fnB28) r27).1
 have r28:=(HB.stE (d:=dB27) (L:=fnB28) r27).2
 have k27:=(HB.stQ (d:=dB27) (L:=fnB28) q27).1
 have q28:=(HB.stQ (d:=dB27) (L:=fnB28) q27).2
 have e28:=(HB.stE (d:=dB28) (L:=fnB29) r28).1
 have r29:=(HB.stE (d:=dB28) (L:=fnB29) r28).2
 have k28:=(HB.stQ (d:=dB28) (L:=fnB29) q28).1
 have q29:=(HB.stQ (d:=dB28) (L:=fnB29) q28).2
 have e29:=(HB.stE (d:=dB29) (L:=fnB30) r29).1
 have r30:=(HB.stE (d:=dB29) (L:=fnB30) r29).2
 have k29:=(HB.stQ (d:=dB29) (L:=fnB30) q29).1
 have q30:=(HB.stQ (d:=dB29) (L:=fnB30) q29).2
 have e30:=(HB.stE (d:=dB30) (L:=fnB31) r30).1
 have r31:=(HB.stE (d:=dB30) (L:=fnB31) r30).2
 have k30:=(HB.stQ (d:=dB30) (L:=fnB31) q30).1
 have q31:=(HB.stQ (d:=dB30) (L:=fnB31) q30).2
 have e31:=(HB.stE (d:=dB31) (L:=fnB32) r31).1
 have r32:=(HB.stE (d:=dB31) (L:=fnB32) r31).2
 have k31:=(HB.stQ (d:=dB31) (L:=fnB32) q31).1
 have q32:=(HB.stQ (d:=dB31) (L:=fnB32) q31).2
 have e32:=(HB.stE (d:=dB32) (L:=fnB33) r32).1
 have r33:=(HB.stE (d:=dB32) (L:=fnB33) r32).2
 have k32:=(HB.stQ (d:=dB32) (L:=fnB33) q32).1
 have q33:=(HB.stQ (d:=dB32) (L:=fnB33) q32).2
 have e33:=(HB.stE (d:=dB33) (L:=fnB34) r33).1
 have r34:=(HB.stE (d:=dB33) (L:=fnB34) r33).2
 have k33:=(HB.stQ (d:=dB33) (L:=fnB34) q33).1
 have q34:=(HB.stQ (d:=dB33) (L:=fnB34) q33).2
 have e34:=(HB.stE (d:=dB34) (L:=fnB35) r34).1
 have r35:=(HB.stE (d:=dB34) (L:=fnB35) r34).2
 have k34:=(HB.stQ (d:=dB34) (L:=fnB35) q34).1
 have q35:=(HB.stQ (d:=dB34) (L:=fnB35) q34).2
 have e35:=(HB.stE (d:=dB35) (L:=fnB36) r35).1
 have r36:=(HB.stE (d:=dB35) (L:=fnB36) r35).2
 have k35:=(HB.stQ (d:=dB35) (L:=fnB36) q35).1
 have q36:=(HB.stQ (d:=dB35) (L:=fnB36) q35).2
 have e36:=(HB.stE (d:=dB36) (L:=fnB37) r36).1
 have r37:=(HB.stE (d:=dB36) (L:=fnB37) r36).2
 have k36:=(HB.stQ (d:=dB36) (L:=fnB37) q36).1
 have q37:=(HB.stQ (d:=dB36) (L:=fnB37) q36).2
 have e37:=(HB.stE (d:=dB37) (L:=fnB38) r37).1
 have r38:=(HB.stE (d:=dB37) (L:=fnB38) r37).2
 have k37:=(HB.stQ (d:=dB37) (L:=fnB38) q37).1
 have q38:=(HB.stQ (d:=dB37) (L:=fnB38) q37).2
 have e38:=(HB.stE (d:=dB38) (L:=fnB39) r38).1
 have r39:=(HB.stE (d:=dB38) (L:=fnB39) r38).2
 have k38:=(HB.stQ (d:=dB38) (L:=fnB39) q38).1
 have q39:=(HB.stQ (d:=dB38) (L:=fnB39) q38).2
 have e39:=(HB.stE (d:=dB39) (L:=fnB40) r39).1
 have r40:=(HB.stE (d:=dB39) (L:=fnB40) r39).2
 have k39:=(HB.stQ (d:=dB39) (L:=fnB40) q39).1
 have q40:=(HB.stQ (d:=dB39) (L:=fnB40) q39).2
 have e40:=(HB.stE (d:=dB40) (L:=fnB41) r40).1
 have r41:=(HB.stE (d:=dB40) (L:=fnB41) r40).2
 have k40:=(HB.stQ (d:=dB40) (L:=fnB41) q40).1
 have q41:=(HB.stQ (d:=dB40) (L:=fnB41) q40).2
 have e41:=(HB.stE (d:=dB41) (L:=fnB42) r41).1
 have r42:=(HB.stE (d:=dB41) (L:=fnB42) r41).2
 have k41:=(HB.stQ (d:=dB41) (L:=fnB42) q41).1
 have q42:=(HB.stQ (d:=dB41) (L:=fnB42) q41).2
 have e42:=(HB.stE (d:=dB42) (L:=fnB43) r42).1
 have r43:=(HB.stE (d:=dB42) (L:=fnB43) r42).2
 have k42:=(HB.stQ (d:=dB42) (L:=fnB43) q42).1
 have q43:=(HB.stQ (d:=dB42) (L:=fnB43) q42).2
 have e43:=(HB.stE (d:=dB43) (L:=fnB44) r43).1
 have r44:=(HB.stE (d:=dB43) (L:=fnB44) r43).2
 have k43:=(HB.stQ (d:=dB43) (L:=fnB44) q43).1
 have q44:=(HB.stQ (d:=dB43) (L:=fnB44) q43).2
 have e44:=(HB.stE (d:=dB44) (L:=fnB45) r44).1
 have r45:=(HB.stE (d:=dB44) (L:=fnB45) r44).2
 have k44:=(HB.stQ (d:=dB44) (L:=fnB45) q44).1
 have q45:=(HB.stQ (d:=dB44) (L:=fnB45) q44).2
 have e45:=(HB.stE (d:=dB45) (L:=fnB46) r45).1
 have r46:=(HB.stE (d:=dB45) (L:=fnB46) r45).2
 have k45:=(HB.stQ (d:=dB45) (L:=fnB46) q45).1
 have q46:=(HB.stQ (d:=dB45) (L:=fnB46) q45).2
 have e46:=(HB.stE (d:=dB46) (L:=fnB47) r46).1
 have r47:=(HB.stE (d:=dB46) (L:=fnB47) r46).2
 have k46:=(HB.stQ (d:=dB46) (L:=fnB47) q46).1
 have q47:=(HB.stQ (d:=dB46) (L:=fnB47) q46).2
 have e47:=(HB.stE (d:=dB47) (L:=fnB48) r47).1
 have r48:=(HB.stE (d:=dB47) (L:=fnB48) r47).2
 have k47:=(HB.stQ (d:=dB47) (L:=fnB48) q47).1
 have q48:=(HB.stQ (d:=dB47) (L:=fnB48) q47).2
 have e48:=(HB.stE (d:=dB48) (L:=fnB49) r48).1
 have r49:=(HB.stE (d:=dB48) (L:=fnB49) r48).2
 have k48:=(HB.stQ (d:=dB48) (L:=fnB49) q48).1
 have q49:=(HB.stQ (d:=dB48) (L:=fnB49) q48).2
 have e49:=(HB.stE (d:=dB49) (L:=fnB50) r49).1
 have r50:=(HB.stE (d:=dB49) (L:=fnB50) r49).2
 have k49:=(HB.stQ (d:=dB49) (L:=fnB50) q49).1
 have q50:=(HB.stQ (d:=dB49) (L:=fnB50) q49).2
 have e50:=(HB.stE (d:=dB50) (L:=fnB51) r50).1
 have r51:=(HB.stE (d:=dB50) (L:=fnB51) r50).2
 have k50:=(HB.stQ (d:=dB50) (L:=fnB51) q50).1
 have q51:=(HB.stQ (d:=dB50) (L:=fnB51) q50).2
 have e51:=(HB.stE (d:=dB51) (L:=fnB52) r51).1
 have r52:=(HB.stE (d:=dB51) (L:=fnB52) r51).2
 have k51:=(HB.stQ (d:=dB51) (L:=fnB52) q51).1
 have q52:=(HB.stQ (d:=dB51) (L:=fnB52) q51).2
 have e52:=(HB.stE (d:=dB52) (L:=fnB53) r52).1
 have r53:=(HB.stE (d:=dB52) (L:=fnB53) r52).2
 have k52:=(HB.stQ (d:=dB52) (L:=fnB53) q52).1
 have q53:=(HB.stQ (d:=dB52) (L:=fnB53) q52).2
 have e53:=(HB.stE (d:=dB53) (L:=fnB54) r53).1
 have r54:=(HB.stE (d:=dB53) (L:=fnB54) r53).2
 have k53:=(HB.stQ (d:=dB53) (L:=fnB54) q53).1
 have q54:=(HB.stQ (d:=dB53) (L:=fnB54) q53).2
 have e54:=(HB.stE (d:=dB54) (L:=fnB55) r54).1
 have r55:=(HB.stE (d:=dB54) (L:=fnB55) r54).2
 have k54:=(HB.stQ (d:=dB54) (L:=fnB55) q54).1
 have q55:=(HB.stQ (d:=dB54) (L:=fnB55) q54).2
 have e55:=(HB.stE (d:=dB55) (L:=fnB56) r55).1
 have r56:=(HB.stE (d:=dB55) (L:=fnB56) r55).2
 have k55:=(HB.stQ (d:=dB55) (L:=fnB56) q55).1
 have q56:=(HB.stQ (d:=dB55) (L:=fnB56) q55).2
 have e56:=(HB.stE (d:=dB56) (L:=fnB57) r56).1
 have r57:=(HB.stE (d:=dB56) (L:=fnB57) r56).2
 have k56:=(HB.stQ (d:=dB56) (L:=fnB57) q56).1
 have q57:=(HB.stQ (d:=dB56) (L:=fnB57) q56).2
 have e57:=(HB.stE (d:=dB57) (L:=fnB58) r57).1
 have r58:=(HB.stE (d:=dB57) (L:=fnB58) r57).2
 have k57:=(HB.stQ (d:=dB57) (L:=fnB58) q57).1
 have q58:=(HB.stQ (d:=dB57) (L:=fnB58) q57).2
 have e58:=(HB.stE (d:=dB58) (L:=[]) r58).1
 have r59:=(HB.stE (d:=dB58) (L:=[]) r58).2
 have k58:=(HB.stQ (d:=dB58) (L:=[]) q58).1
 have q59:=(HB.stQ (d:=dB58) (L:=[]) q58).2
 have zfa:=(HB.DefB.fun0 (d:=dB0) e0 k0 rfl)
 have zd3:=(HB.DefB.fun0 (d:=dB1) e1 k1 rfl)
 have zek:=(HB.DefB.fun0 (d:=dB2) e2 k2 rfl)
 have zfk:=(HB.DefB.fun0 (d:=dB3) e3 k3 rfl)
 have zfz:=(HB.DefB.fun0 (d:=dB4) e4 k4 rfl)
 have zie:=(HB.DefB.fun0 (d:=dB5) e5 k5 rfl)
 have zid:=(HB.DefB.fun0 (d:=dB6) e6 k6 rfl)
 have zgs:=(HB.DefB.fun0 (d:=dB7) e7 k7 rfl)
 have zfv:=(HB.DefB.fun0 (d:=dB8) e8 k8 rfl)
 have zeg:=(HB.DefB.fun0 (d:=dB9) e9 k9 rfl)
 have zd8:=(HB.DefB.funV (d:=dB10) e10 k10)
 have zhi:=(HB.DefB.fun0 (d:=dB11) e11 k11 rfl)
 have zhe:=(HB.DefB.fun0 (d:=dB12) e12 k12 rfl)
 have zg2:=(HB.DefB.fun0 (d:=dB13) e13 k13 rfl)
 have zg4:=(HB.DefB.fun0 (d:=dB14) e14 k14 rfl)
 have zd0:=(HB.DefB.fun0 (d:=dB15) e15 k15 rfl)
 have zgc:=(HB.DefB.fun0 (d:=dB16) e16 k16 rfl)
 have zi4:=(HB.DefB.fun0 (d:=dB17) e17 k17 rfl)
 have ze8:=(HB.DefB.fun0 (d:=dB18) e18 k18 rfl)
 have zfs:=(HB.DefB.fun0 (d:=dB19) e19 k19 rfl)
 have zf1:=(HB.DefB.fun0 (d:=dB20) e20 k20 rfl)
 have zgl:=(HB.DefB.fun0 (d:=dB21) e21 k21 rfl)
 have zfc:=(HB.DefB.fun0 (d:=dB22) e22 k22 rfl)
 have zez:=(HB.DefB.fun0 (d:=dB23) e23 k23 rfl)
 have zht:=(HB.DefB.fun0 (d:=dB24) e24 k24 rfl)
 have zgq:=(HB.DefB.fun0 (d:=dB25) e25 k25 rfl)
 have zii:=(HB.DefB.fun0 (d:=dB26) e26 k26 rfl)
 have zdb:=(HB.DefB.fun0 (d:=dB27) e27 k27 rfl)
 have zem:=(HB.DefB.fun0 (d:=dB28) e28 k28 rfl)
 have zc2:=(HB.DefB.fun0 (d:=dB29) e29 k29 rfl)
 have zc6:=(HB.DefB.fun0 (d:=dB30) e30 k30 rfl)
 have zda:=(HB.DefB.fun0 (d:=dB31) e31 k31 rfl)
 have ze1:=(HB.DefB.fun0 (d:=dB32) e32 k32 rfl)
 have zfd:=(HB.DefB.fun0 (d:=dB33) e33 k33 rfl)
 have zhn:=(HB.DefB.fun0 (d:=dB34) e34 k34 rfl)
 have zfr:=(HB.DefB.fun0 (d:=dB35) e35 k35 rfl)
 have zh0:=(HB.DefB.fun0 (d:=dB36) e36 k36 rfl)
 have zh4:=(HB.DefB.fun0 (d:=dB37) e37 k37 rfl)
 have zho:=(HB.DefB.fun0 (d:=dB38) e38 k38 rfl)
 have zgb:=(HB.DefB.fun0 (d:=dB39) e39 k39 rfl)
 have zdo:=(HB.DefB.fun0 (d:=dB40) e40 k40 rfl)
 have ze3:=(HB.DefB.fun0 (d:=dB41) e41 k41 rfl)
 have zdh:=(HB.DefB.fun0 (d:=dB42) e42 k42 rfl)
 have zc3:=(HB.DefB.fun0 (d:=dB43) e43 k43 rfl)
 have zgi:=(HB.DefB.fun0 (d:=dB44) e44 k44 rfl)
 have zg1:=(HB.DefB.fun0 (d:=dB45) e45 k45 rfl)
 have zgh:=(HB.DefB.fun0 (d:=dB46) e46 k46 rfl)
 have zhd:=(HB.DefB.fun0 (d:=dB47) e47 k47 rfl)
 have zkf:=(HB.DefB.fun0 (d:=dB48) e48 k48 rfl)
 have zhp:=(HB.DefB.fun0 (d:=dB49) e49 k49 rfl)
 have zkb:=(HB.DefB.fun0 (d:=dB50) e50 k50 rfl)
 have zev:=(HB.DefB.fun0 (d:=dB51) e51 k51 rfl)
 have zif:=(HB.DefB.fun0 (d:=dB52) e52 k52 rfl)
 have zj2:=(HB.DefB.fun0 (d:=dB53) e53 k53 rfl)
 have zd7:=(HB.DefB.fun0 (d:=dB54) e54 k54 rfl)
 have zhs:=(HB.DefB.fun0 (d:=dB55) e55 k55 rfl)
 have zi7:=(HB.DefB.fun0 (d:=dB56) e56 k56 rfl)
 have zf8:=(HB.DefB.fun0 (d:=dB57) e57 k57 rfl)
 have zn3:=(HB.DefB.fun0 (d:=dB58) e58 k58 rfl)
 exact txt_mk (zfa)
  (zfa.binds (ps:=["self", "line"]) fun _ _ _ _ _ _ us hl=>match us,hl with | [_,_],_=>rfl)
  (zd3)
  (zd3.binds (ps:=["self", "line", "name"]) fun _ _ _ _ _ _ us hl=>match us,hl with | [_,_,_],_=>rfl)
  (zek)
  (zek.binds (ps:=["self", "line", "name"]) fun _ _ _ _ _ _ us hl=>match us,hl with | [_,_,_],_=>rfl)
  (zfk)
  (zfk.binds (ps:=["self", "name"]) fun _ _ _ _ _ _ us hl=>match us,hl with | [_,_],_=>rfl)
  (zfz)
  (zfz.binds (ps:=["text"]) fun _ _ _ _ _ _ us hl=>match us,hl with | [_],_=>rfl)
  (HB.glo_ok X G h0)
  (zie)
  (zie.binds (ps:=["text"]) fun _ _ _ _ _ _ us hl=>match us,hl with | [_],_=>rfl)
  (HB.glo_ok X G h1)
  (zid)
  (zid.binds (ps:=["text"]) fun _ _ _ _ _ _ us hl=>match us,hl with | [_],_=>rfl)
  (HB.glo_ok X G h2)
  (zgs)
  (zgs.binds (ps:=["text"]) fun _ _ _ _ _ _ us hl=>match us,hl with | [_],_=>rfl)
  (HB.glo_ok X G h3)
  (zfv)
  (zfv.binds (ps:=["words"]) fun _ _ _ _ _ _ us hl=>match us,hl with | [_],_=>rfl)
  (HB.glo_ok X G h4)
  (zeg)
  (zeg.binds (ps:=["condition"]) fun _ _ _ _ _ _ us hl=>match us,hl with | [_],_=>rfl)
  (HB.glo_ok X G h5)
  (zd8)
  (HB.funV_binds zd8 (HB.DefB.dflT (d:=dB10) k10 rfl).1 (HB.DefB.dflT (d:=dB10) k10 rfl).2.1 fun _ _ _ _ _ _ _ _ _ l=>fun s us X hl=>match us,(show us.length=2 by simpa using hl) with | [_,_],_=>BindsTo.of_looks fun M=>looks_items X l rfl (.of_pure rfl))
  (HB.funV_binds zd8 (HB.DefB.dflT (d:=dB10) k10 rfl).1 (HB.DefB.dflT (d:=dB10) k10 rfl).2.1 fun _ _ _ _ _ _ _ _ _ l=>fun s us X hl=>match us,(show us.length=3 by simpa using hl) with | [_,_,_],_=>BindsTo.of_looks fun M=>looks_items X l rfl (.of_pure rfl))
  (HB.funV_binds zd8 (HB.DefB.dflT (d:=dB10) k10 rfl).1 (HB.DefB.dflT (d:=dB10) k10 rfl).2.1 fun _ _ _ _ _ _ _ _ _ l=>fun s us X hl=>match us,(show us.length=4 by simpa using hl) with | [_,_,_,_],_=>BindsTo.of_looks fun M=>looks_items X l rfl (.of_pure rfl))
  (HB.emp_ok ((HB.DefB.dflT (d:=dB10) k10 rfl).2.2 0 (by decide)))
  (HB.emp_ok ((HB.DefB.dflT (d:=dB10) k10 rfl).2.2 1 (by decide)))
  (HB.mth_ok h6)
  (zhi)
  (zhi.binds (ps:=["self"]) fun _ _ _ _ _ _ us hl=>match us,hl with | [_],_=>rfl)
  (HB.mth_ok h7)
  (zhe)
  (zhe.binds (ps:=["words"]) fun _ _ _ _ _ _ us hl=>match us,hl with | [_],_=>rfl)
  (HB.glo_ok X G h8)
  (zg2)
  (zg2.binds (ps:=["words"]) fun _ _ _ _ _ _ us hl=>match us,hl with | [_],_=>rfl)
  (HB.glo_ok X G h9)
  (zg4)
  (zg4.binds (ps:=["words"]) fun _ _ _ _ _ _ us hl=>match us,hl with | [_],_=>rfl)
  (HB.glo_ok X G h10)
  (zd0)
  (zd0.binds (ps:=["words"]) fun _ _ _ _ _ _ us hl=>match us,hl with | [_],_=>rfl)
  (HB.glo_ok X G h11)
  (zgc)
  (zgc.binds (ps:=["words"]) fun _ _ _ _ _ _ us hl=>match us,hl with | [_],_=>rfl)
  (HB.glo_ok X G h12)
  (zi4)
  (zi4.binds (ps:=["line"]) fun _ _ _ _ _ _ us hl=>match us,hl with | [_],_=>rfl)
  (HB.glo_ok X G h13)
  (ze8)
  (ze8.binds (ps:=["kind", "needed"]) fun _ _ _ _ _ _ us hl=>match us,hl with | [_,_],_=>rfl)
  (HB.glo_ok X G h14)
  (zfs)
  (zfs.binds (ps:=["line", "word"]) fun _ _ _ _ _ _ us hl=>match us,hl with | [_,_],_=>rfl)
  (HB.glo_ok X G h15)
  (zf1)
  (zf1.binds (ps:=["self", "halves"]) fun _ _ _ _ _ _ us hl=>match us,hl with | [_,_],_=>rfl)
  (HB.mth_ok h16)
  (zgl)
  (zgl.binds (ps:=["self", "name"]) fun _ _ _ _ _ _ us hl=>match us,hl with | [_,_],_=>rfl)
  (HB.mth_ok h17)
  (zfc)
  (zfc.binds (ps:=["self"]) fun _ _ _ _ _ _ us hl=>match us,hl with | [_],_=>rfl)
  (HB.mth_ok h18)
  (zez)
  (zez.binds (ps:=["self"]) fun _ _ _ _ _ _ us hl=>match us,hl with | [_],_=>rfl)
  (HB.mth_ok h19)
  (zht)
  (zht.binds (ps:=["self", "form", "number"]) fun _ _ _ _ _ _ us hl=>match us,hl with | [_,_,_],_=>rfl)
  (HB.mth_ok h20)
  (zgq)
  (zgq.binds (ps:=["self", "form"]) fun _ _ _ _ _ _ us hl=>match us,hl with | [_,_],_=>rfl)
  (HB.mth_ok h21)
  (zii)
  (zii.binds (ps:=["self", "form"]) fun _ _ _ _ _ _ us hl=>match us,hl with | [_,_],_=>rfl)
  (HB.mth_ok h22)
  (zdb)
  (zdb.binds (ps:=["self", "lines", "offset"]) fun _ _ _ _ _ _ us hl=>match us,hl with | [_,_,_],_=>rfl)
  (HB.mth_ok h23)
  (zem)
  (zem.binds (ps:=["self"]) fun _ _ _ _ _ _ us hl=>match us,hl with | [_],_=>rfl)
  (HB.mth_ok h24)
  (zc2)
  (zc2.binds (ps:=["self", "at", "known"]) fun _ _ _ _ _ _ us hl=>match us,hl with | [_,_,_],_=>rfl)
  (HB.mth_ok h25)
  (zc6)
  (zc6.binds (ps:=["self", "statement", "at"]) fun _ _ _ _ _ _ us hl=>match us,hl with | [_,_,_],_=>rfl)
  (HB.mth_ok h26)
  (zda)
  (zda.binds (ps:=["self", "statement", "known"]) fun _ _ _ _ _ _ us hl=>match us,hl with | [_,_,_],_=>rfl)
  (HB.mth_ok h27)
  (ze1)
  (ze1.binds (ps:=["self", "statement", "at", "known"]) fun _ _ _ _ _ _ us hl=>match us,hl with | [_,_,_,_],_=>rfl)
  (HB.mth_ok h28)
  (zfd)
  (zfd.binds (ps:=["self", "names", "told", "lines", "statements"]) fun _ _ _ _ _ _ us hl=>match us,hl with | [_,_,_,_,_],_=>rfl)
  (HB.mth_ok h29)
  (zhn)
  (zhn.binds (ps:=["self"]) fun _ _ _ _ _ _ us hl=>match us,hl with | [_],_=>rfl)
  (HB.mth_ok h30)
  (zfr)
  (zfr.binds (ps:=["self", "names", "told", "lines", "statements", "calls"]) fun _ _ _ _ _ _ us hl=>match us,hl with | [_,_,_,_,_,_],_=>rfl)
  (HB.mth_ok h31)
  (zh0)
  (zh0.binds (ps:=["self"]) fun _ _ _ _ _ _ us hl=>match us,hl with | [_],_=>rfl)
  (HB.mth_ok h32)
  (zh4)
  (zh4.binds (ps:=["self", "name"]) fun _ _ _ _ _ _ us hl=>match us,hl with | [_,_],_=>rfl)
  (HB.mth_ok h33)
  (zho)
  (zho.binds (ps:=["words"]) fun _ _ _ _ _ _ us hl=>match us,hl with | [_],_=>rfl)
  (HB.glo_ok X G h34)
  (zgb)
  (zgb.binds (ps:=["line"]) fun _ _ _ _ _ _ us hl=>match us,hl with | [_],_=>rfl)
  (HB.glo_ok X G h35)
  (zdo)
  (zdo.binds (ps:=["self", "lines", "offset", "deeds"]) fun _ _ _ _ _ _ us hl=>match us,hl with | [_,_,_,_],_=>rfl)
  (HB.mth_ok h36)
  (ze3)
  (ze3.binds (ps:=["self"]) fun _ _ _ _ _ _ us hl=>match us,hl with | [_],_=>rfl)
  (HB.mth_ok h37)
  (zdh)
  (zdh.binds (ps:=["self", "at", "known"]) fun _ _ _ _ _ _ us hl=>match us,hl with | [_,_,_],_=>rfl)
  (HB.mth_ok h38)
  (zc3)
  (zc3.binds (ps:=["self", "statement", "number"]) fun _ _ _ _ _ _ us hl=>match us,hl with | [_,_,_],_=>rfl)
  (HB.mth_ok h39)
  (zgi)
  (zgi.binds (ps:=["self", "deeds"]) fun _ _ _ _ _ _ us hl=>match us,hl with | [_,_],_=>rfl)
  (HB.mth_ok h40)
  (zg1)
  (zg1.binds (ps:=["self", "name"]) fun _ _ _ _ _ _ us hl=>match us,hl with | [_,_],_=>rfl)
  (HB.mth_ok h41)
  (of_decide_eq_true h42)
  (zgh)
  (zgh.binds (ps:=["self", "name"]) fun _ _ _ _ _ _ us hl=>match us,hl with | [_,_],_=>rfl)
  (HB.mth_ok h43)
  (zhd)
  (zhd.binds (ps:=["self"]) fun _ _ _ _ _ _ us hl=>match us,hl with | [_],_=>rfl)
  (HB.mth_ok h44)
  (zkf)
  (zkf.binds (ps:=["self"]) fun _ _ _ _ _ _ us hl=>match us,hl with | [_],_=>rfl)
  (HB.mth_ok h45)
  (zhp)
  (zhp.binds (ps:=["text"]) fun _ _ _ _ _ _ us hl=>match us,hl with | [_],_=>rfl)
  (HB.glo_ok X G h46)
  (zkb)
  (zkb.binds (ps:=["_law_script", "_law_k"]) fun _ _ _ _ _ _ us hl=>match us,hl with | [_,_],_=>rfl)
  (HB.glo_ok X G h47)
  (zev)
  (zev.binds (ps:=["_law_tape_here", "_law_many"]) fun _ _ _ _ _ _ us hl=>match us,hl with | [_,_],_=>rfl)
  (HB.glo_ok X G h48)
  (zif)
  (zif.binds (ps:=["_law_choice"]) fun _ _ _ _ _ _ us hl=>match us,hl with | [_],_=>rfl)
  (HB.glo_ok X G h49)
  (zj2)
  (zj2.binds (ps:=["_law_text"]) fun _ _ _ _ _ _ us hl=>match us,hl with | [_],_=>rfl)
  (HB.glo_ok X G h50)
  (zd7)
  (zd7.binds (ps:=["_law_lines", "_law_at", "_law_line"]) fun _ _ _ _ _ _ us hl=>match us,hl with | [_,_,_],_=>rfl)
  (HB.glo_ok X G h51)
  (zhs)
  (zhs.binds (ps:=["_law_lines", "_law_starts", "_law_choice", "_law_kind"]) fun _ _ _ _ _ _ us hl=>match us,hl with | [_,_,_,_],_=>rfl)
  (HB.glo_ok X G h52)
  (zi7)
  (zi7.binds (ps:=["_law_lines", "_law_choice"]) fun _ _ _ _ _ _ us hl=>match us,hl with | [_,_],_=>rfl)
  (HB.glo_ok X G h53)
  (zf8)
  (zf8.binds (ps:=["_law_lines", "_law_start", "_law_choice", "_law_kind", "_law_calls"]) fun _ _ _ _ _ _ us hl=>match us,hl with | [_,_,_,_,_],_=>rfl)
  (HB.glo_ok X G h54)
  (zn3)
  (zn3.binds (ps:=["_law_script"]) fun _ _ _ _ _ _ us hl=>match us,hl with | [_],_=>rfl)
  (HB.glo_ok X G h55)
  (HB.glo_ok X G h56)
  (HB.glo_ok X G h57)
  (of_decide_eq_true h58)
  (of_decide_eq_true h59)
  (of_decide_eq_true h60)
  (of_decide_eq_true h61)
  (of_decide_eq_true h62)
  (of_decide_eq_true h63)
  (of_decide_eq_true h64)
  (of_decide_eq_true h65)
  (of_decide_eq_true h66)
  (of_decide_eq_true h67)
  (of_decide_eq_true h68)
  (of_decide_eq_true h69)
  (of_decide_eq_true h70)
  (of_decide_eq_true h71)
  (of_decide_eq_true h72)
  (of_decide_eq_true h73)
  (of_decide_eq_true h74)
  (HB.glo_ok X G h75)
  (of_decide_eq_true h76)
  (of_decide_eq_true h77)
  (of_decide_eq_true h78)
  (of_decide_eq_true h79)
  (of_decide_eq_true h80)
  (of_decide_eq_true h81)
  (of_decide_eq_true h82)
  (of_decide_eq_true h83)
  (of_decide_eq_true h84)
  (of_decide_eq_true h85)
  (of_decide_eq_true h86)
  (of_decide_eq_true h87)
  (of_decide_eq_true h88)
  (of_decide_eq_true h89)
  (of_decide_eq_true h90)
  (of_decide_eq_true h91)
  (of_decide_eq_true h92)
  (of_decide_eq_true h93)
  (of_decide_eq_true h94)
  (HB.glo_ok X G h95)
  (of_decide_eq_true h96)
  (of_decide_eq_true h97)
  (of_decide_eq_true h98)
  (of_decide_eq_true h99)
  (of_decide_eq_true h100)
  (of_decide_eq_true h101)
  (of_decide_eq_true h102)
  (of_decide_eq_true h103)
  (of_decide_eq_true h104)
  (of_decide_eq_true h105)
  (of_decide_eq_true h106)
  (of_decide_eq_true h107)
  (of_decide_eq_true h108)
  (of_decide_eq_true h109)
  (of_decide_eq_true h110)
  (of_decide_eq_true h111)
  (of_decide_eq_true h112)
  (of_decide_eq_true h113)
  (of_decide_eq_true h114)
  (of_decide_eq_true h115)
  (HB.glo_ok X G h116)
  (of_decide_eq_true h117)
  (of_decide_eq_true h118)
  (of_decide_eq_true h119)
  (of_decide_eq_true h120)
  (of_decide_eq_true h121)
  (of_decide_eq_true h122)
  (of_decide_eq_true h123)
  (of_decide_eq_true h124)
  (of_decide_eq_true h125)
  (of_decide_eq_true h126)
  (of_decide_eq_true h127)
  (of_decide_eq_true h128)
  (of_decide_eq_true h129)
  (of_decide_eq_true h130)
  (of_decide_eq_true h131)
  (of_decide_eq_true h132)
  (of_decide_eq_true h133)
  (HB.glo_ok X G h134)
  (HB.cls_ok h135)
  (HB.mk_ok h136)
  (HB.nat_ok h137)
  (HB.nat_ok h138)
  (HB.nat_ok h139)
  (HB.glo_ok X G h140)
  (HB.cls_ok h141)
  (HB.mk_ok h142)
  (HB.nat_ok h143)
  (HB.glo_ok X G h144)
  (HB.cls_ok h145)
  (HB.mk_ok h146)
  (HB.nat_ok h147)
  (HB.nat_ok h148)
  (HB.nat_ok h149)
  (HB.nat_ok h150)
  (HB.nat_ok h151)
  (HB.glo_ok X G h152)
  (HB.cls_ok h153)
  (HB.mk_ok h154)
  (HB.nat_ok h155)
  (HB.nat_ok h156)
  (HB.nat_ok h157)
  (HB.nat_ok h158)
  (HB.nat_ok h159)
  (of_decide_eq_true h160)
  (of_decide_eq_true h161)
  (HB.glo_ok X G h162)
  (HB.cls_ok h163)
  (HB.mk_ok h164)
  (HB.nat_ok h165)
  (HB.nat_ok h166)
  (HB.nat_ok h167)
  (HB.nat_ok h168)
  (HB.nat_ok h169)
  (HB.nat_ok h170)
  (of_decide_eq_true h171)
  (of_decide_eq_true h172)
  (HB.glo_ok X G h173)
  (HB.cls_ok h174)
  (HB.mk_ok h175)
  (HB.nat_ok h176)
  (HB.nat_ok h177)
  (HB.nat_ok h178)
  (HB.nat_ok h179)
  (HB.glo_ok X G h180)
  (HB.cls_ok h181)
  (HB.mk_ok h182)
  (HB.nat_ok h183)
  (HB.free_ok X G h184)
  (HB.free_ok X G h185)
  (HB.free_ok X G h186)
  (HB.free_ok X G h187)
  (HB.free_ok X G h188)
  (HB.free_ok X G h189)
  (HB.free_ok X G h190)
  (HB.free_ok X G h191)
  (HB.free_ok X G h192)
  (HB.free_ok X G h193)
  (HB.free_ok X G h194)
  ((by obtain ⟨u,hu,t,rfl⟩:=HB.const_ok X G (v := .str "abcdefghijklmnopqrstuvwxyz") h195; exact ⟨t,hu⟩))
  ((by obtain ⟨u,hu,t,rfl⟩:=HB.const_ok X G (v := .str "abcdefghijklmnopqrstuvwxyz0123456789") h196; exact ⟨t,hu⟩))
  ((by obtain ⟨u,hu,t,rfl⟩:=HB.const_ok X G (v := .int 60) h197; exact ⟨t,hu⟩))
  ((by obtain ⟨u,hu,t,rfl⟩:=HB.const_ok X G (v := .int 3) h198; exact ⟨t,hu⟩))
  ((by obtain ⟨u,hu,t,rfl⟩:=HB.const_ok X G (v := .int 4) h199; exact ⟨t,hu⟩))
  ((by obtain ⟨u,hu,t,rfl⟩:=HB.const_ok X G (v := .str "half") h200; exact ⟨t,hu⟩))
  ((by obtain ⟨u,hu,t,rfl⟩:=HB.const_ok X G (v := .int 20) h201; exact ⟨t,hu⟩))
  (of_decide_eq_true h202)
  (of_decide_eq_true h203)
  (HB.glo_ok X G (HB.bs h204).1)
  (HB.strs_ok h204)
  (HB.glo_ok X G (HB.bs h205).1)
  (HB.strs_ok h205)
  (HB.glo_ok X G (HB.bs h206).1)
  (HB.strs_ok h206)
  (HB.glo_ok X G (HB.bs h207).1)
  (HB.strs_ok h207)
abbrev RwB:PySem.W.OpenRow:=PySem.W.OpenLaw.row PySem.Challenge.rw_halfmeshes_k53_books_refused
def looseB:List PySem.Str:=(["MeshError", "BadLine", "UnknownName", "WrongKind", "UnknownDeed", "RESERVED", "LINKS", "KINDS", "FIRST_CHARS", "CHARS", "LABEL_LINES", "MOST_LINES_texts", "MOST_BLOCKS", "MOST_LINKS", "HALF", "is_word", "is_name", "path_of", "side_of", "condition_of", "condition_names", "Form", "let_form", "write_form", "round_form", "condition_form", "tell_form", "form_of", "is_right_kind", "first_line"]:List PySem.Str)++(["Names", "RoutineReader", "Routine", "MOST_LINES_books", "Script", "call_form", "script_form", "ScriptReader", "Book", "read_book", "_law_tape", "_law_pick", "_law_frame", "_law_told", "_law_put", "_law_in_book", "_law_below", "_law_in_script"]:List PySem.Str)
abbrev hkB:PySem.W.Hook:=HB.hookS chk fnB dsB
open PySem.W PySem.Calls in
set_option maxHeartbeats 0 in
theorem lawB (h:RwB.wellSaid=true→RwB.Holds):PySem.Challenge.rw_halfmeshes_k53_books_refused.Holds:=by
 w_on; o_law; exact h (by assumption)
def FB:Prop:=∀ (w:World) (mg:Str→Option Value) (fa:Addr) (h:Heap),(∃ K:PySem.W.Frag,K.In h∧HB.Says chk fnB dsB w K)→h.Ns mainGlobals mg→mg ("law" : PySem.Str)=some (.ref fa) →
 ∃ (K:PySem.W.Frag) (fd:FuncData) (sp:Sp),K.In h∧(∀ (s:Shared) (u:Value),BindsTo s fd ⟨[u],[]⟩ [("_law_script", u)])∧(∀ (H:Hp) (a:Addr) (ns:List Int),ns.length≤63→Only H→SqL K H a (ns.map V.int)→sp [.ref a] H (fun v _=>v = .bl true) fun _ _ _=>False) ∧
  ∀ base:Heap,K.In base→base.Ns mainGlobals mg→FnOk (PySem.Challenge.rw_halfmeshes_k53_books_refused).prog w K mg base L2.CX0 11 fa fd ["_law_script"] sp
def hkW (_:FB):PySem.W.Hook:=hkB
section
local macro_rules
 | `($f:ident $x:term)=>match f.getId.eraseMacroScopes with
  | `Hook.obs=>`(PySem.W.Hook.obs Pf.hkB)
  | `Hook.val=>`(PySem.W.Hook.val Pf.hkB)
  | _=>Lean.Macro.throwUnsupported
open PySem.W PySem.Calls in
set_option maxHeartbeats 0 in
theorem endB (Hw:FB):PySem.Challenge.rw_halfmeshes_k53_books_refused.Holds:=by
 w_on; refine lawB fun said=>?_
 o_head (Pf.hkW Hw)
 case hw=>w_witness2
 refine L2.walk_ofE (l:=PySem.Challenge.rw_halfmeshes_k53_books_refused) (n:=63) (k:=11) (x := "_law_script") (CX:=L2.CX0) rfl (by decide) (by kernel_rfl) ⟨rfl,by decide,by decide⟩ ?F (fun _ _ _ _ z=>z)
 intro w mg fa h Y G hmg0
 exact Hw w mg fa h Y G hmg0
end
end Pf
local macro_rules | `(tactic| walk_at "rd1")=>`(tactic| with_reducible refine RD.st1 ?_)
local macro_rules | `(tactic| walk_at "rd")=>`(tactic| with_reducible refine RD.stp ?_)
local macro_rules | `(tactic| walk_at "hp")=>`(tactic| first | assumption | exact upd_same | (rw [upd_ne (by first | assumption | (apply Ne.symm; assumption) | (exact ne_of_none (by assumption) (by assumption)) | (exact Ne.symm (ne_of_none (by assumption) (by assumption))))]; walk_at "hp"))
local macro_rules | `(tactic| walk_at "wp")=>`(tactic| simp only [L2.wipe,List.map_cons,List.map_nil,List.set_cons_succ,List.set_cons_zero])
local macro_rules | `(tactic| walk_at "gn")=>`(tactic| (repeat (with_reducible first | refine RD.gn0 ?_ | refine RD.gnS ?_)))
local macro_rules | `(tactic| walk_at "rn")=>`(tactic| (with_reducible refine RD.stp ?_; repeat (with_reducible first | refine RD.nbF (RD.stp ?_) | refine RD.nbT (RD.stp ?_))))
local macro_rules | `(tactic| walk_at "ln")=>`(tactic| first | ((refine RD.ln_app ?_ ?_) <;> (walk_at "ln")) | (exact Nat.le_trans (by assumption) (show (8:Nat)≤_ by decide)) | (exact Nat.le_trans (by assumption) (show (9:Nat)≤_ by decide)) | (decide +kernel))
local macro_rules | `(tactic| walk_at "tx1")=>`(tactic| (first | walk_at "rd1" | ((with_reducible (refine RD.addsP ?_ ?_ ?_)); (focus (walk_at "ln")); (focus (walk_at "ln")))))
local macro_rules | `(tactic| walk_at "tx")=>`(tactic| (with_reducible refine RD.stp ?_; repeat ((with_reducible (refine RD.addsP ?_ ?_ ?_)); (focus (walk_at "ln")); (focus (walk_at "ln")); (with_reducible refine RD.stp ?_))))
namespace Pf
open PySem PySem.Spec PyProof.Rows L2 SX RD PR
def sp_is_word:Sp:=fun vs H Q _=>∃ t:Tx,vs=[vst t]∧t.length≤100000∧∀ H',Same H H'→Q (.bl (isWord t)) H'
def sp_is_name:Sp:=fun vs H Q _=>∃ t:Tx,vs=[vst t]∧t.length≤100000∧∀ H',Same H H'→Q (.bl (isName t)) H'
theorem vsts_resv:([.str "routine", .str "script", .str "given", .str "let", .str "make", .str "drop", .str "if", .str "else", .str "end", .str "new", .str "round", .str "tell", .str "call", .str "next", .str "prev", .str "twin", .str "face", .str "corner", .str "some"]:List V)=vsts resv:=by
 unfold vsts resv
 simp only [List.map_cons,List.map_nil,lit]
theorem vsts_links:([.str "next", .str "prev", .str "twin"]:List V)=vsts links:=by
 unfold vsts links
 simp only [List.map_cons,List.map_nil,lit]
theorem vsts_kinds:([.str "face", .str "corner"]:List V)=vsts kinds:=by
 unfold vsts kinds
 simp only [List.map_cons,List.map_nil,lit]
theorem vsts_labL:([.str "new", .str "bear", .str "round", .str "some"]:List V)=vsts labL:=by
 unfold vsts labL
 simp only [List.map_cons,List.map_nil,lit]
section
variable {P:Program} {w:World} {K:PySem.W.Frag} {mg:Str→Option Value} {base:Heap} {A:Ad}
theorem zjq (T:Txt K mg A):FnOk P w K mg base CX0 1 A.zg8 A.zgz ["text"] (sp_is_word):=by
 refine T.zfz.ok zlr (fun vs H Q E h=>?_) (fun cdv Ar outer s H vs Q E hr h=>?_)
 ·obtain ⟨t,rfl,_⟩:=h
  rfl
 ·obtain ⟨t,rfl,hl,q⟩:=h
  refine ⟨_,(pss_one (ps_ret (pe_and (pe_chain op_le op_le pe_int (pe_callB RD.k_lenS (by rfl) T.zau (by decide +kernel) (pa_cons (pv 0) pa_nil)) pe_int) (pe_one (pe_callB (RD.k_all (K:=K) rfl rfl) (by rfl) T.zqw (by decide +kernel) (pa_cons (pe_lc (own:=[("char", 1)]) (g:=gName 1) (by rfl) zlr.nd (pi_str (pv 0)) (blkOk_by (own:=[("char", 1)]) (N:=["text", "char"]) (sc:=defScope zi5) (by decide +kernel)) (fun _ _ _ _ _=>(pg_name (i:=1) zlr.nd rfl (Or.inl rfl))) (fun _ _ _ _ _=>pts_nil) (fun _ _ _ _ _=>(pe_cmpR RD.k_sgn (pv 1) (RD.pe_gl (by rfl) T.zsl) (by rfl)))) pa_nil)))))),?_⟩
  show tRet _ _ [some (vst t),none] H
  walk_at "rd"
  refine RD.lenTx (by omega) ?_
  walk_at "rd"
  refine RD.dec (fun h1=>?_) (fun h1=>?_)
  ·walk_at "rd"
   refine RD.dec (fun h2=>?_) (fun h2=>?_)
   ·walk_at "rd"
    refine RD.lcS (by omega) (fun _=>true) (fun c => .bl (decide (c∈charC))) (fun i c H1 Q' R' hc s kT kF=>?_) (fun H' p np s hp=>?_)
    ·walk_at "wp"
     walk_at "rd"
     refine ⟨rfl,?_⟩
     walk_at "rd"
     exact RD.isg (kT rfl _ (Same.refl _))
    ·rw [RD.pick_all (fun _=>rfl)] at hp
     walk_at "rd"
     refine RD.all1 (bs:=t.map fun c=>decide (c∈charC)) (sq (by rw [hp,List.map_map]; rfl)) ?_
     have e:isWord t=(t.map fun c=>decide (c∈charC)).all id:=by
      unfold isWord
      rw [decide_eq_true (show 1≤t.length by omega),decide_eq_true (show t.length≤8 by omega),Bool.true_and,Bool.true_and,List.all_map]
      rfl
     rw [← e]
     exact q _ s
   ·walk_at "rd"
    have e:isWord t=false:=by
     unfold isWord
     rw [decide_eq_false (show ¬ t.length≤8 by omega),Bool.false_and,Bool.and_false]
    rw [← e]
    exact q _ (Same.refl _)
  ·walk_at "rd"
   have e:isWord t=false:=by
    unfold isWord
    rw [decide_eq_false (show ¬ 1≤t.length by omega),Bool.false_and]
   rw [← e]
   exact q _ (Same.refl _)
theorem zn4 (T:Txt K mg A):FnOk P w K mg base CX0 2 A.zgv A.zg9 ["text"] (sp_is_name):=by
 have zg3:=zjq (P:=P) (w:=w) (base:=base) T
 refine T.zie.ok zqq (fun vs H Q E h=>?_) (fun cdv Ar outer s H vs Q E hr h=>?_)
 ·obtain ⟨t,rfl,_⟩:=h
  rfl
 ·obtain ⟨t,rfl,hl,q⟩:=h
  refine ⟨_,(pss_one (ps_ret (pe_and (pe_call zg3 (hr.mono (by decide)) (by rfl) T.zk0 T.zfz.kp T.zkv .nil pass0 (pa_cons (pv 0) pa_nil)) (pe_and (pe_cmpR RD.k_sgn (pe_ix ix_str (pv 0) pe_int (fun _ _=>rfl)) (RD.pe_gl (by rfl) T.zpi) (by rfl)) (pe_one (pe_cmpR (RD.k_notin (K:=K) rfl) (pv 0) (pe_glob (v := .ref A.zel) rfl T.zel rfl) (by rfl))))))),?_⟩
  show tRet _ _ [some (vst t)] H
  walk_at "rd"
  refine ⟨t,rfl,hl,fun H' s=>?_⟩
  cases hw:isWord t with
  | false =>
   walk_at "rd"
   have e:isName t=false:=by
    unfold isName
    rw [hw,Bool.false_and]
   rw [← e]
   exact q _ s
  | true =>
   walk_at "rd"
   obtain ⟨c,r,rfl⟩:∃ c r,t=c :: r:=by
    cases t with
    | nil=>exact absurd hw (by decide)
    | cons c r=>exact ⟨c,r,rfl⟩
   refine RD.ixS (by omega) (c:=c) (show atI (c :: r) ((0:Nat):Int)=some c from atI_nat rfl) ?_
   walk_at "rd"
   refine RD.isg ?_
   walk_at "rd"
   refine RD.dec (fun h1=>?_) (fun h1=>?_)
   ·walk_at "rd"
    refine RD.ninT (ls:=resv) (by rw [← vsts_resv]; exact T.zp7 _) ?_
    have e:isName (c :: r) = !decide ((c :: r)∈resv):=by
     unfold isName
     rw [hw,Bool.true_and]
     show (decide (c∈firstC) && _)=_
     rw [decide_eq_true (show c∈firstC from h1),Bool.true_and]
    rw [← e]
    exact q _ s
   ·walk_at "rd"
    have e:isName (c :: r)=false:=by
     unfold isName
     rw [hw,Bool.true_and]
     show (decide (c∈firstC) && _)=_
     rw [decide_eq_false (show ¬ c∈firstC from h1),Bool.false_and]
    rw [← e]
    exact q _ s
end
end Pf

namespace Pf
open PySem PySem.Spec PyProof.Rows L2 SX RD PR
def OptAt {α : Type} (R:V→α→Prop) (v:V):Option α→Prop
 | none=>v = .non
 | some x=>R v x
def sp_path_of (K:PySem.W.Frag):Sp:=fun vs H Q _=>∃ t:Tx,vs=[vst t]∧t.length≤10000∧∀ H' v,Same H H'→OptAt (PathAt K H') v (pathOf t)→Q v H'
def sp_side_of (K:PySem.W.Frag):Sp:=fun vs H Q _=>∃ t:Tx,vs=[vst t]∧t.length≤10000∧∀ H' v,Same H H'→OptAt (SideAt K H') v (sideOf t)→Q v H'
theorem isEmpty_txs (ls:List Tx):(vsts ls).isEmpty=ls.isEmpty:=by cases ls <;> rfl
theorem filter_none {ls:List Tx} {p:Tx→Bool}:(ls.filter p).isEmpty=true↔∀ l∈ls,p l=false:=by
 rw [List.isEmpty_iff,List.filter_eq_nil_iff]
 constructor
 ·intro h l hl
  have:=h l hl
  cases e:p l
  ·rfl
  ·exact absurd e this
 ·intro h l hl
  rw [h l hl]
  exact Bool.false_ne_true
section
variable {P:Program} {w:World} {K:PySem.W.Frag} {mg:Str→Option Value} {base:Heap} {A:Ad}
theorem zqr (T:Txt K mg A):FnOk P w K mg base CX0 2 A.zgy A.zgw ["text"] (sp_path_of K):=by
 have zg3:=zjq (P:=P) (w:=w) (base:=base) T
 refine T.zid.ok zij (fun vs H Q E h=>?_) (fun cdv Ar outer s H vs Q E hr h=>?_)
 ·obtain ⟨t,rfl,_⟩:=h
  rfl
 ·obtain ⟨t,rfl,hl,q⟩:=h
  refine ⟨_,(pss_cons (ps_asg (RD.k_split (pv 0) pe_str) (RD.k_star (K:=K) rfl (pgs_cons (pg_name (i:=1) zij.nd rfl (Or.inl rfl)) (RD.pgs_star (pg_name (i:=2) zij.nd rfl (Or.inl rfl)) pgs_nil))))
   (pss_cons (ps_if (PW.pt (pw_or (pt_not (pt_val (pe_call zg3 (hr.mono (by decide)) (by rfl) T.zk0 T.zfz.kp T.zkv .nil pass0 (pa_cons (pv 1) pa_nil)))) (pw_or (pt_cmpR op_gt (pe_callB (RD.k_len (K:=K) rfl) (by rfl) T.zau (by decide +kernel) (pa_cons (pv 2) pa_nil)) (RD.pe_glI (by rfl) T.zpn) (nomark _)) (pw_or1 (RD.k_tru (K:=K) rfl (pe_lc (own:=[("link", 3)]) (g:=gName 3) (by rfl) zij.nd (RD.k_pil (K:=K) rfl (pv 2)) (blkOk_by (own:=[("link", 3)]) (N:=["text", "name", "links", "link"]) (sc:=defScope zi3) (by decide +kernel)) (fun _ _ _ _ _=>(pg_name (i:=3) zij.nd rfl (Or.inl rfl))) (fun _ _ _ _ _=>(pts_one (pt_cmpR (RD.k_notin (K:=K) rfl) (pv 3) (pe_glob (v := .ref A.zhj) rfl T.zhj rfl) (by rfl)))) (fun _ _ _ _ _=>(pv 3))) (by intro _; rfl))))))
   (pss_one (ps_ret pe_non))
   pss_nil)
   (pss_one (ps_ret (pe_tup (pa_cons (pv 1) (pa_cons (pe_callTy (RD.k_tupOf (K:=K) rfl) (by rfl) T.zig (by decide +kernel) (pa_cons (pv 2) pa_nil)) pa_nil))))))),?_⟩
  show tSeq _ _ _ [some (vst t),none,none,none] H
  walk_at "rd"
  refine ⟨⟨_,rfl⟩,?_⟩
  walk_at "rd"
  rw [tdot]
  refine RD.splt (by decide) (by omega) fun p np=>?_
  have hc:=spc_cnt 46 t
  have hn:=spc_ne 46 t
  have hb:=spc_len 46 t
  have e0:TL.spl [46] 0 [] t=spc 46 t:=rfl
  rw [e0]
  cases es:spc 46 t with
  | nil=>exact absurd es hn
  | cons n ls =>
   rw [es] at hc hb
   rw [List.length_cons] at hc
   have ln:n.length≤10000:=Nat.le_trans (hb n List.mem_cons_self) hl
   refine RD.gst (sq upd_same) (by omega) fun D nD=>?_
   walk_at "rd"
   refine ⟨n,rfl,by omega,fun H1 s1=>?_⟩
   have sm:Same H H1:=((same_new np).trans (same_new nD)).trans s1
   have hD:H1 D=some (.lst (vsts ls)):=s1 _ _ upd_same
   have no:pathOf t=none→∀ H',Same H H'→Q .non H':=fun e H' s=>q H' _ s (by rw [e]; rfl)
   cases hw:isWord n with
   | false =>
    walk_at "rn"
    refine no ?_ _ sm
    unfold pathOf
    rw [es]
    exact if_neg fun z=>by rw [hw] at z; exact absurd z.1 Bool.false_ne_true
   | true =>
    walk_at "rn"
    refine RD.len (sq hD) ?_
    rw [vsts_len]
    walk_at "rd"
    refine RD.dec (fun h4=>?_) (fun h4=>?_)
    ·walk_at "rd"
     refine no ?_ _ sm
     unfold pathOf
     rw [es]
     exact if_neg fun z=>by have:=z.2.1; omega
    ·walk_at "rd"
     refine RD.lcTx (sq hD) (by omega) (fun l=>!decide (l∈links)) vst (fun i x H2 Q' R' hx s2 kT kF=>?_) (fun H2 r nr s2 hr2=>?_)
     ·walk_at "wp"
      walk_at "rd"
      refine ⟨rfl,?_⟩
      walk_at "rd"
      refine RD.ninT (ls:=links) (by rw [← vsts_links]; exact T.zry _) ?_
      walk_at "rd"
      by_cases hm:x∈links
      ·rw [decide_eq_true hm] at kF ⊢
       exact RD.bF (kF rfl _ (Same.refl _))
      ·rw [decide_eq_false hm] at kT ⊢
       refine RD.bT ?_
       walk_at "rd"
       exact kT rfl _ (Same.refl _)
     ·rw [pick_filter] at hr2
      refine RD.truL (sq hr2) ?_
      have ee:((ls.filter fun l=>!decide (l∈links)).map vst).isEmpty=(ls.filter fun l=>!decide (l∈links)).isEmpty:=isEmpty_txs _
      rw [ee]
      cases hf:(ls.filter fun l=>!decide (l∈links)).isEmpty with
      | false =>
       walk_at "rn"
       refine no ?_ _ (sm.trans s2)
       unfold pathOf
       rw [es]
       refine if_neg fun z=>?_
       have:=filter_none.mpr (fun l hl2=>by
        show (!decide (l∈links))=false
        rw [decide_eq_true (z.2.2 l hl2)]
        rfl:∀ l∈ls,(!decide (l∈links))=false)
       rw [hf] at this
       exact Bool.false_ne_true this
      | true =>
       walk_at "rn"
       refine RD.tupL (sq (s2 _ _ hD)) fun b nb=>?_
       walk_at "rd"
       refine ⟨few,fun a na=>?_⟩
       refine q _ _ ((sm.trans s2).trans ((same_new nb).trans (same_new na))) ?_
       have ep:pathOf t=some (n,ls):=by
        unfold pathOf
        rw [es]
        refine if_pos ⟨hw,by omega,fun l hl2=>?_⟩
        have:=filter_none.mp hf l hl2
        exact of_decide_eq_true (by simpa using this)
       rw [ep]
       exact ⟨a,b,rfl,st upd_same,st (by rw [upd_ne (ne_of_none upd_same na)]; exact upd_same)⟩
theorem zoa (T:Txt K mg A):FnOk P w K mg base CX0 3 A.zhb A.zgt ["text"] (sp_side_of K):=by
 have zow:=zqr (P:=P) (w:=w) (base:=base) T
 refine T.zgs.ok zhg (fun vs H Q E h=>?_) (fun cdv Ar outer s H vs Q E hr h=>?_)
 ·obtain ⟨t,rfl,_⟩:=h
  rfl
 ·obtain ⟨t,rfl,hl,q⟩:=h
  refine ⟨_,(pss_cons (ps_asg (RD.k_rpart (pv 0) pe_str) (RD.k_gtup (K:=K) (n:=3) rfl rfl (pgs_cons (pg_name (i:=1) zhg.nd rfl (Or.inl rfl)) (pgs_cons (pg_name (i:=2) zhg.nd rfl (Or.inl rfl)) (pgs_cons (pg_name (i:=3) zhg.nd rfl (Or.inl rfl)) pgs_nil)))))
   (RD.pss_cut (ps_if (PW.pt (pw_and (RD.k_tru (K:=K) rfl (pv 2) (by intro _; rfl)) (pw_and1 (pt_cmpR (RD.k_in (K:=K) rfl) (pv 3) (pe_glob (v := .ref A.zcy) rfl T.zcy rfl) (by rfl)))))
   (pss_cons (ps_set (i:=4) zhg.nd rfl (Or.inl rfl) (pe_call zow (hr.mono (by decide)) (by rfl) T.zoy T.zid.kp T.zo2 .nil pass0 (pa_cons (pv 1) pa_nil)))
   (pss_one (ps_ret (pe_ifExp (pt_cmpR op_isN (pv 4) pe_non (nomark _)) pe_non (pe_tup (pa_cons (pv 3) (pa_cons (pv 4) pa_nil)))))))
   pss_nil)
   (pss_cons (ps_set (i:=4) zhg.nd rfl (Or.inl rfl) (pe_call zow (hr.mono (by decide)) (by rfl) T.zoy T.zid.kp T.zo2 .nil pass0 (pa_cons (pv 0) pa_nil)))
   (pss_one (ps_ret (pe_ifExp (pt_cmpR op_isN (pv 4) pe_non (nomark _)) pe_non (pe_tup (pa_cons pe_str (pa_cons (pv 4) pa_nil))))))))),?_⟩
  show tSeq _ _ _ [some (vst t),none,none,none,none] H
  walk_at "rd"
  refine ⟨⟨_,rfl⟩,?_⟩
  walk_at "rd"
  rw [tdot]
  refine RD.rpl (by omega) fun p np=>?_
  refine RD.gtup3 (st upd_same) ?_
  have hb:=rpt_len 46 t
  have es:sideOf t=if (rpt 46 t).2.1 ≠ []∧(rpt 46 t).2.2∈kinds then (pathOf (rpt 46 t).1).map fun p=>((rpt 46 t).2.2,p) else (pathOf t).map fun p=>([],p):=rfl
  revert hb es
  generalize (rpt 46 t).1=r1
  generalize (rpt 46 t).2.1=r2
  generalize (rpt 46 t).2.2=r3
  intro hb es
  walk_at "rd"
  refine RD.cut (fun σ H'=>σ = [some (vst t),some (vst r1),some (vst r2),some (vst r3),none]∧Same H H'∧¬ (r2 ≠ []∧r3∈kinds)) ?_ ?_
  ·walk_at "rd"
   cases r2 with
   | nil =>
    refine RD.truS0 ?_
    walk_at "rn"
    exact ⟨rfl,same_new np,fun z=>z.1 rfl⟩
   | cons d e =>
    refine RD.truS1 (by omega) ?_
    walk_at "rn"
    refine RD.inT (ls:=kinds) (by rw [← vsts_kinds]; exact T.zj1 _) ?_
    walk_at "rd"
    refine RD.dec (fun hk=>?_) (fun hk=>?_)
    ·rw [if_pos ⟨by simp,hk⟩] at es
     walk_at "rd"
     refine ⟨r1,rfl,by omega,fun H1 v s1 hv=>?_⟩
     walk_at "rd"
     refine ⟨rfl,?_⟩
     walk_at "rd"
     cases hp:pathOf r1 with
     | none =>
      rw [hp] at hv es
      have hv:v = .non:=hv
      subst hv
      refine RD.decT rfl ?_
      walk_at "rd"
      exact q _ _ ((same_new np).trans s1) (by rw [es]; rfl)
     | some pa =>
      rw [hp] at hv es
      obtain ⟨a,b,rfl,h1,h2⟩:PathAt K H1 v pa:=hv
      refine RD.decF nofun ?_
      walk_at "rd"
      refine ⟨few,fun c nc=>?_⟩
      refine q _ _ (((same_new np).trans s1).trans (same_new nc)) ?_
      rw [es]
      exact ⟨c,_,rfl,st upd_same,(Kp.new nc).path ⟨a,b,rfl,h1,h2⟩⟩
    ·walk_at "rd"
     exact ⟨rfl,same_new np,fun z=>hk z.2⟩
  ·rintro σ H' ⟨rfl,sm,hn⟩
   rw [if_neg hn] at es
   walk_at "rd"
   refine ⟨t,rfl,by omega,fun H1 v s1 hv=>?_⟩
   walk_at "rd"
   refine ⟨rfl,?_⟩
   walk_at "rd"
   cases hp:pathOf t with
   | none =>
    rw [hp] at hv es
    have hv:v = .non:=hv
    subst hv
    refine RD.decT rfl ?_
    walk_at "rd"
    exact q _ _ (sm.trans s1) (by rw [es]; rfl)
   | some pa =>
    rw [hp] at hv es
    obtain ⟨a,b,rfl,h1,h2⟩:PathAt K H1 v pa:=hv
    refine RD.decF nofun ?_
    walk_at "rd"
    refine ⟨few,fun c nc=>?_⟩
    refine q _ _ ((sm.trans s1).trans (same_new nc)) ?_
    rw [es]
    exact ⟨c,_,rfl,st (by rw [temp]; exact upd_same),(Kp.new nc).path ⟨a,b,rfl,h1,h2⟩⟩
end
end Pf

namespace Pf
open PySem PySem.Spec PyProof.Rows L2 SX RD PR
def sp_condition_of (K:PySem.W.Frag):Sp:=fun vs H Q _=>∃ (a:Addr) (ws:List Tx),vs=[.ref a]∧SqL K H a (vsts ws)∧(∀ x∈ws,x.length≤10000)∧∀ H' v,Same H H'→OptAt (CondAt K H') v (condOf ws)→Q v H'
theorem three {ws:List Tx} (h:ws.length=3):∃ a b c,ws=[a,b,c]:=by
 match ws,h with
 | [a,b,c],_=>exact ⟨a,b,c,rfl⟩
theorem condOf_no {ws:List Tx} (h:ws.length ≠ 3):condOf ws=none:=by
 unfold condOf
 split
 ·exact absurd rfl h
 ·rfl
section
variable {P:Program} {w:World} {K:PySem.W.Frag} {mg:Str→Option Value} {base:Heap} {A:Ad}
theorem znx (T:Txt K mg A):FnOk P w K mg base CX0 4 A.zd2 A.zdy ["words"] (sp_condition_of K):=by
 have zkz:=zoa (P:=P) (w:=w) (base:=base) T
 refine T.zfv.ok zil (fun vs H Q E h=>?_) (fun cdv Ar outer s H vs Q E hr h=>?_)
 ·obtain ⟨a,ws,rfl,_⟩:=h
  rfl
 ·obtain ⟨a,ws,rfl,hq,hb,q⟩:=h
  refine ⟨_,(RD.pss_cut (ps_if (PW.pt (pw_or (pt_cmpR op_ne (pe_callB (RD.k_len (K:=K) rfl) (by rfl) T.zau (by decide +kernel) (pa_cons (pv 0) pa_nil)) pe_int (nomark _)) (pw_or1 (pt_cmpR (RD.k_notin (K:=K) rfl) (pe_ix (RD.k_ixL (K:=K) rfl) (pv 0) pe_int (fun _ _=>rfl)) (pe_tup (pa_cons pe_str (pa_cons pe_str pa_nil))) (by rfl)))))
   (pss_one (ps_ret pe_non))
   pss_nil)
   (pss_cons (ps_set (i:=1) zil.nd rfl (Or.inl rfl) (pe_call zkz (hr.mono (by decide)) (by rfl) T.zm0 T.zgs.kp T.zmr .nil pass0 (pa_cons (pe_ix (RD.k_ixL (K:=K) rfl) (pv 0) pe_int (fun _ _=>rfl)) pa_nil)))
   (pss_cons (ps_set (i:=2) zil.nd rfl (Or.inl rfl) (pe_call zkz (hr.mono (by decide)) (by rfl) T.zm0 T.zgs.kp T.zmr .nil pass0 (pa_cons (pe_ix (RD.k_ixL (K:=K) rfl) (pv 0) pe_int (fun _ _=>rfl)) pa_nil)))
   (pss_cons (ps_if (PW.pt (pw_or (pt_cmpR op_isN (pv 1) pe_non (nomark _)) (pw_or (pt_cmpR op_isN (pv 2) pe_non (nomark _)) (pw_or1 (pt_cmpR op_ne (pe_ix (RD.k_ixT (K:=K) rfl) (pv 1) pe_int (fun _ _=>rfl)) (pe_ix (RD.k_ixT (K:=K) rfl) (pv 2) pe_int (fun _ _=>rfl)) (nomark _))))))
   (pss_one (ps_ret pe_non))
   pss_nil)
   (pss_one (ps_ret (pe_tup (pa_cons (pe_ix (RD.k_ixT (K:=K) rfl) (pv 1) pe_int (fun _ _=>rfl)) (pa_cons (pe_ix (RD.k_ixT (K:=K) rfl) (pv 1) pe_int (fun _ _=>rfl)) (pa_cons (pe_ix (RD.k_ixT (K:=K) rfl) (pv 2) pe_int (fun _ _=>rfl)) (pa_cons (pe_cmpR op_eq (pe_ix (RD.k_ixL (K:=K) rfl) (pv 0) pe_int (fun _ _=>rfl)) pe_str (nomark _)) pa_nil))))))))))),?_⟩
  show RD.tCut _ _ _ [some (.ref a),none,none] H
  have no:condOf ws=none→∀ H',Same H H'→Q .non H':=fun e H' s=>q H' _ s (by rw [e]; rfl)
  refine RD.cut (fun σ H'=>σ = [some (.ref a),none,none]∧Same H H'∧∃ x o y,ws=[x,o,y]∧(o=tx "==" ∨ o=tx "!=")) ?_ ?_
  ·walk_at "rd"
   refine RD.len hq ?_
   rw [vsts_len]
   walk_at "rd"
   refine RD.ndec (fun h3=>?_) (fun h3=>?_)
   ·walk_at "rd"
    exact no (condOf_no (by omega)) _ (Same.refl _)
   ·obtain ⟨x,o,y,rfl⟩:=three (show ws.length=3 by omega)
    walk_at "rd"
    refine RD.ixL hq (show atI (vsts [x,o,y]) ((1:Nat):Int)=some (vst o) from at_n rfl) ?_
    walk_at "rd"
    refine ⟨few,fun p np=>?_⟩
    refine RD.ninT (ls:=[tx "==", tx "!="]) (st upd_same) ?_
    walk_at "rd"
    refine RD.ndec (fun ho=>?_) (fun ho=>?_)
    ·walk_at "rd"
     refine no ?_ _ (same_new np)
     exact if_neg fun z=>ho (by simpa using z)
    ·walk_at "rd"
     exact ⟨rfl,same_new np,x,o,y,rfl,by simpa using ho⟩
  ·rintro σ H1 ⟨rfl,s1,x,o,y,rfl,ho⟩
   have e0:condOf [x,o,y]=match sideOf x,sideOf y with
    | some x,some y=>if x.1=y.1 then some ⟨x.1,x.2,y.2,decide (o=tx "==")⟩ else none
    | _,_=>none:=if_pos ho
   walk_at "rd"
   refine RD.ixL (s1.seq hq) (show atI (vsts [x,o,y]) ((0:Nat):Int)=some (vst x) from at_n rfl) ?_
   walk_at "rd"
   refine ⟨x,rfl,hb x (by simp),fun H2 v1 s2 h1=>?_⟩
   walk_at "rd"
   refine RD.ixL ((s1.trans s2).seq hq) (show atI (vsts [x,o,y]) ((2:Nat):Int)=some (vst y) from at_n rfl) ?_
   walk_at "rd"
   refine ⟨y,rfl,hb y (by simp),fun H3 v2 s3 h2=>?_⟩
   have s13:=(s1.trans s2).trans s3
   walk_at "rd"
   refine ⟨rfl,?_⟩
   walk_at "rd"
   cases hx:sideOf x with
   | none =>
    rw [hx] at h1 e0
    have h1:v1 = .non:=h1
    subst h1
    refine RD.decT rfl ?_
    walk_at "rd"
    exact no e0 _ s13
   | some sx =>
    rw [hx] at h1 e0
    obtain ⟨ax,px,rfl,hx1,hx2⟩:SideAt K H2 v1 sx:=h1
    refine RD.decF nofun ?_
    walk_at "rd"
    refine ⟨rfl,?_⟩
    walk_at "rd"
    cases hy:sideOf y with
    | none =>
     rw [hy] at h2 e0
     have h2:v2 = .non:=h2
     subst h2
     refine RD.decT rfl ?_
     walk_at "rd"
     exact no e0 _ s13
    | some sy =>
     rw [hy] at h2 e0
     obtain ⟨ay,py,rfl,hy1,hy2⟩:SideAt K H3 v2 sy:=h2
     have hx1':=(Kp.same s3).sq hx1
     refine RD.decF nofun ?_
     walk_at "rd"
     refine RD.ixT hx1' (show atI _ ((0:Nat):Int)=some (vst sx.1) from at_n rfl) ?_
     walk_at "rd"
     refine RD.ixT hy1 (show atI _ ((0:Nat):Int)=some (vst sy.1) from at_n rfl) ?_
     walk_at "rd"
     refine RD.ndec (fun he=>?_) (fun he=>?_)
     ·walk_at "rd"
      exact no (e0.trans (if_neg he)) _ s13
     ·walk_at "rd"
      refine RD.ixT hx1' (show atI _ ((0:Nat):Int)=some (vst sx.1) from at_n rfl) ?_
      walk_at "rd"
      refine RD.ixT hx1' (show atI _ ((1:Nat):Int)=some px from at_n rfl) ?_
      walk_at "rd"
      refine RD.ixT hy1 (show atI _ ((1:Nat):Int)=some py from at_n rfl) ?_
      walk_at "rd"
      refine RD.ixL (s13.seq hq) (show atI (vsts [x,o,y]) ((1:Nat):Int)=some (vst o) from at_n rfl) ?_
      walk_at "rd"
      refine ⟨few,fun c nc=>?_⟩
      refine q _ _ (s13.trans (same_new nc)) ?_
      rw [e0.trans (if_pos he)]
      exact ⟨c,px,py,rfl,st upd_same,(Kp.new nc).path ((Kp.same s3).path hx2),(Kp.new nc).path hy2⟩
end
end Pf

namespace Pf
open PySem PySem.Spec PyProof.Rows L2 SX RD PR
def PairsA (K:PySem.W.Frag) (H:Hp) (a:Addr) (l:List (Tx × Tx)):Prop:=∃ qs:List Addr,H a=some (.lst (qs.map V.ref))∧Paired (PairAt K H) qs l
def FormAt (A:Ad) (K:PySem.W.Frag) (H0 H:Hp) (v:V) (f:Form):Prop:=∃ (p dx:Addr) (sv:V) (u b:Addr),v = .ref p∧H0 p=none∧H0 u=none∧H0 b=none ∧
 H p=some (.ins A.zap dx [("statement", sv),("uses", .ref u),("bound", .ref b)])∧StmAt K H sv f.stm∧PairsA K H u f.uses∧PairsA K H b f.bound
section
variable {A:Ad} {K:PySem.W.Frag}
theorem PairsA.same {H H':Hp} {a:Addr} {l:List (Tx × Tx)} (s:Same H H'):PairsA K H a l→PairsA K H' a l:=fun ⟨qs,h1,h2⟩=>⟨qs,s _ _ h1,(Kp.same s).pairs h2⟩
theorem FormAt.same {H0 H H':Hp} {v:V} {f:Form} (s:Same H H'):FormAt A K H0 H v f→FormAt A K H0 H' v f:=fun ⟨p,dx,sv,u,b,e,n1,n2,n3,h,h1,h2,h3⟩ =>
 ⟨p,dx,sv,u,b,e,n1,n2,n3,s _ _ h,(Kp.same s).stm h1,h2.same s,h3.same s⟩
theorem FormAt.past {H1 H0 H:Hp} {v:V} {f:Form} (s:Same H1 H0):FormAt A K H0 H v f→FormAt A K H1 H v f:=fun ⟨p,dx,sv,u,b,e,n1,n2,n3,r⟩=>⟨p,dx,sv,u,b,e,s.free n1,s.free n2,s.free n3,r⟩
end
def sp_condition_names (K:PySem.W.Frag):Sp:=fun vs H Q _=>∃ (v:V) (c:Cond),vs=[v]∧CondAt K H v c∧∀ H' a,Same H H'→PairsA K H' a [(c.left.1,half),(c.right.1,half)]→Q (.ref a) H'
def sp_form (A:Ad) (K:PySem.W.Frag):Sp:=fun vs H Q _=>∃ (p dx:Addr) (sv:V) (u b:Addr) (us bs:List Addr),vs=[.ref p,sv,.ref u,.ref b]∧H p=some (.ins A.zap dx [])∧(SqL K H u (us.map V.ref)∨SqT K H u (us.map V.ref))∧(SqL K H b (bs.map V.ref)∨SqT K H b (bs.map V.ref)) ∧
 ∀ (H':Hp) (u' b':Addr),H u'=none→H b'=none→H' p=some (.ins A.zap dx [("statement", sv),("uses", .ref u'),("bound", .ref b')])→H' u'=some (.lst (us.map V.ref))→H' b'=some (.lst (bs.map V.ref))→Sx p H H'→Q .non H'
section
variable {P:Program} {w:World} {K:PySem.W.Frag} {mg:Str→Option Value} {base:Heap} {A:Ad}
theorem zmy (T:Txt K mg A):FnOk P w K mg base CX0 1 A.zcj A.zck ["condition"] (sp_condition_names K):=by
 refine T.zeg.ok zm4 (fun vs H Q E h=>?_) (fun cdv Ar outer s H vs Q E hr h=>?_)
 ·obtain ⟨v,c,rfl,_⟩:=h
  rfl
 ·obtain ⟨v,c,rfl,hc,q⟩:=h
  refine ⟨_,(pss_one (ps_ret (pe_lst (pa_cons (pe_tup (pa_cons (pe_ix (RD.k_ixT (K:=K) rfl) (pe_ix (RD.k_ixT (K:=K) rfl) (pv 0) pe_int (fun _ _=>rfl)) pe_int (fun _ _=>rfl)) (pa_cons (RD.pe_gl (by rfl) T.zdp) pa_nil))) (pa_cons (pe_tup (pa_cons (pe_ix (RD.k_ixT (K:=K) rfl) (pe_ix (RD.k_ixT (K:=K) rfl) (pv 0) pe_int (fun _ _=>rfl)) pe_int (fun _ _=>rfl)) (pa_cons (RD.pe_gl (by rfl) T.zdp) pa_nil))) pa_nil))))),?_⟩
  show tRet _ _ [some (v)] H
  obtain ⟨a,l,r,rfl,h1,⟨al,bl,rfl,hl1,hl2⟩,⟨ar,br,rfl,hr1,hr2⟩⟩:=hc
  walk_at "rd"
  refine RD.ixT h1 (show atI _ ((1:Nat):Int)=some (.ref al) from at_n rfl) ?_
  walk_at "rd"
  refine RD.ixT hl1 (show atI _ ((0:Nat):Int)=some (vst c.left.1) from at_n rfl) ?_
  walk_at "rd"
  refine ⟨few,fun p np=>?_⟩
  have k1:Kp H _:=Kp.new (o := .tup [vst c.left.1,vst (tx "half")]) np
  walk_at "rd"
  refine RD.ixT (k1.sq h1) (show atI _ ((2:Nat):Int)=some (.ref ar) from at_n rfl) ?_
  walk_at "rd"
  refine RD.ixT (k1.sq hr1) (show atI _ ((0:Nat):Int)=some (vst c.right.1) from at_n rfl) ?_
  walk_at "rd"
  refine ⟨few,fun p2 np2=>?_⟩
  walk_at "rd"
  refine ⟨few,fun p3 np3=>?_⟩
  refine q _ _ (((same_new np).trans (same_new np2)).trans (same_new np3)) ⟨[p,p2],upd_same,?_⟩
  refine .cons (st ?_) (.cons (st ?_) .nil)
  ·exact (same_new np3) _ _ ((same_new np2) _ _ upd_same)
  ·exact (same_new np3) _ _ upd_same
theorem zcv (T:Txt K mg A):FnOk P w K mg base CX0 1 A.zca A.zbh ["self", "statement", "used", "bound"] (sp_form A K):=by
 refine T.zd8.ok zno (fun vs H Q E h=>?_) (fun cdv Ar outer s H vs Q E hr h=>?_)
 ·obtain ⟨p,dx,sv,u,b,us,bs,rfl,_⟩:=h
  rfl
 ·obtain ⟨p,dx,sv,u,b,us,bs,rfl,hp,hu,hb,q⟩:=h
  refine ⟨_,(pss_cons (RD.k_sfld (K:=K) rfl (pv 0) (pv 1) rfl)
   (pss_cons (RD.k_sfld (K:=K) rfl (pv 0) (pe_callTy (RD.k_list (K:=K) rfl) (by rfl) T.zrl (by decide +kernel) (pa_cons (pv 2) pa_nil)) rfl)
   (pss_one (RD.k_sfld (K:=K) rfl (pv 0) (pe_callTy (RD.k_list (K:=K) rfl) (by rfl) T.zrl (by decide +kernel) (pa_cons (pv 3) pa_nil)) rfl)))),?_⟩
  show tSeq _ _ _ [some (.ref p),some (sv),some (.ref u),some (.ref b)] H
  walk_at "rd"
  refine ⟨p,A.zap,dx,[],rfl,hp,T.zd9,T.zeq,by decide,?_⟩
  have x1:Sx p H (upd H p (.ins A.zap dx (putF "statement" sv []))):=Sx.put
  walk_at "rd"
  refine ⟨u,_,rfl,x1.ls hp hu,fun u' nu=>?_⟩
  have nu0:H u'=none:=by
   cases e:H u' with
   | none=>rfl
   | some o =>
    by_cases z:u'=p
    ·rw [z,upd_same] at nu; cases nu
    ·rw [x1 u' o e z] at nu; cases nu
  have x2:=x1.trans (Sx.new (p:=p) (o := .lst (us.map V.ref)) nu)
  have hp2:upd (upd H p (.ins A.zap dx (putF "statement" sv []))) u' (.lst (us.map V.ref)) p=some (.ins A.zap dx (putF "statement" sv [])):=same_new nu _ _ upd_same
  walk_at "rd"
  refine ⟨p,A.zap,dx,_,rfl,hp2,T.zd9,T.zla,(show (1:Nat) < 1000 by decide),?_⟩
  have x3:=x2.trans (Sx.put (p:=p) (o := .ins A.zap dx (putF "uses" (.ref u') (putF "statement" sv []))))
  walk_at "rd"
  refine ⟨b,_,rfl,x3.ls hp hb,fun b' nb=>?_⟩
  have nb0:H b'=none:=by
   cases e:H b' with
   | none=>rfl
   | some o =>
    by_cases z:b'=p
    ·rw [z,upd_same] at nb; cases nb
    ·rw [x3 b' o e z] at nb; cases nb
  have x4:=x3.trans (Sx.new (p:=p) (o := .lst (bs.map V.ref)) nb)
  walk_at "rd"
  refine ⟨p,A.zap,dx,_,rfl,same_new nb _ _ upd_same,T.zd9,T.zih,(show (2:Nat) < 1000 by decide),?_⟩
  have x5:=x4.trans (Sx.put (p:=p) (o := .ins A.zap dx (putF "bound" (.ref b') (putF "uses" (.ref u') (putF "statement" sv [])))))
  have up:u' ≠ p:=fun z=>by rw [z,hp] at nu0; cases nu0
  have bp:b' ≠ p:=fun z=>by rw [z,hp] at nb0; cases nb0
  refine q _ u' b' nu0 nb0 (by rw [upd_same]; rfl) ?_ ?_ x5
  ·rw [upd_ne up]
   refine same_new nb _ _ ?_
   rw [upd_ne up]
   exact upd_same
  ·rw [upd_ne bp]
   exact upd_same
theorem mk_form {H:Hp} {vs dvs:List V} {sv:V} {u b:Addr} {f:Form} {Q:VK} {E:XK} (e:vs++dvs=[sv,.ref u,.ref b]) (hs:StmAt K H sv f.stm) (hu:PairsT K H u f.uses) (hb:PairsT K H b f.bound)
  (q:∀ (H':Hp) (v:V),Same H H'→FormAt A K H H' v f→Q v H'):RD.MKE A.zap (sp_form A K) dvs E vs H Q:=by
 intro x dx nx ndx ne
 rw [e]
 obtain ⟨us,hu1,hu2⟩:=hu
 obtain ⟨bs,hb1,hb2⟩:=hb
 have s0:Same H (upd (upd H dx (.own x)) x (.ins A.zap dx [])):=RD.same_mut (RD.same_new ndx) nx
 have k0:Kp H _:=Kp.same s0
 refine ⟨x,dx,sv,u,b,us,bs,rfl,upd_same,hu1.imp s0.seq k0.sq,hb1.imp s0.seq k0.sq,fun H' u' b' nu nb h1 h2 h3 sx=>⟨rfl,?_⟩⟩
 have s1:Same H H':=fun c o e=>sx c o (s0 c o e) (ne_of_none e nx)
 have k1:=Kp.same s1
 exact q H' _ s1 ⟨x,dx,sv,u',b',rfl,nx,s0.free nu,s0.free nb,h1,k1.stm hs,⟨us,h2,k1.pairs hu2⟩,⟨bs,h3,k1.pairs hb2⟩⟩
end
end Pf

namespace Pf
open PySem PySem.Spec PyProof.Rows L2 SX RD PR
def Sml (f:Form):Prop:=(∀ u∈f.uses,u.1.length≤10000)∧(∀ b∈f.bound,b.1.length≤10000)∧f.uses.length≤1000∧f.bound.length≤1000
def sp_is_good (A:Ad) (K:PySem.W.Frag):Sp:=fun vs H Q _=>∃ (H0:Hp) (v:V) (f:Form),vs=[v]∧FormAt A K H0 H v f∧Sml f∧∀ H',Same H H'→Q (.bl f.good) H'
section
variable {P:Program} {w:World} {K:PySem.W.Frag} {mg:Str→Option Value} {base:Heap} {A:Ad}
theorem zk7 (T:Txt K mg A):FnOk P w K mg base CX0 3 A.zdx A.zdw ["self"] (sp_is_good A K):=by
 have zms:=zn4 (P:=P) (w:=w) (base:=base) T
 have zg3:=zjq (P:=P) (w:=w) (base:=base) T
 refine T.zhi.ok zb8 (fun vs H Q E h=>?_) (fun cdv Ar outer s H vs Q E hr h=>?_)
 ·obtain ⟨H0,v,f,rfl,_⟩:=h
  rfl
 ·obtain ⟨H0,v,f,rfl,⟨p,dx,sv,u,b,rfl,_,_,_,hp,hs,⟨us,hu,hu2⟩,⟨bs,hb,hb2⟩⟩,hz,q⟩:=h
  refine ⟨_,(pss_cons (ps_setLc (i:=1) (own:=[("name", 3),("kind", 2)]) (g:=gTup K 2 (gCons (gName 3) (gCons (gName 2) gNil))) (by rfl) zb8.nd rfl rfl (sw_true rfl rfl rfl (by decide +kernel)) (RD.k_pil (K:=K) rfl (RD.k_fld (K:=K) rfl (pv 0) rfl)) (blkOk_by (own:=[("name", 3),("kind", 2)]) (N:=["self", "names", "kind", "name"]) (sc:=defScope zds) (by decide +kernel)) (fun _ _ _ _ _=>(RD.k_gtup (K:=K) (n:=2) rfl rfl (pgs_cons (pg_name (i:=3) zb8.nd rfl (Or.inl rfl)) (pgs_cons (pg_name (i:=2) zb8.nd rfl (Or.inl rfl)) pgs_nil)))) (fun _ _ _ _ _=>pts_nil) (fun _ _ _ _ _=>(pv 3)))
   (pss_cons (ps_if (PW.pt (pw_or (RD.k_tru (K:=K) rfl (pe_lc (own:=[("name", 3)]) (g:=gName 3) (by rfl) zb8.nd (RD.k_pil (K:=K) rfl (pv 1)) (blkOk_by (own:=[("name", 3)]) (N:=["self", "names", "kind", "name"]) (sc:=defScope zds) (by decide +kernel)) (fun _ _ _ _ _=>(pg_name (i:=3) zb8.nd rfl (Or.inl rfl))) (fun _ _ _ _ _=>(pts_one (pt_not (pt_val (pe_call zms (hr.mono (by decide)) (by rfl) T.zo3 T.zie.kp T.zoz .nil pass0 (pa_cons (pv 3) pa_nil)))))) (fun _ _ _ _ _=>(pv 3))) (by intro _; rfl)) (pw_or1 (pt_cmpR op_lt (RDT.k_lenSetT (K:=K) rfl (by rfl) T.zau (by rfl) T.zsa (pv 1)) (pe_callB (RD.k_len (K:=K) rfl) (by rfl) T.zau (by decide +kernel) (pa_cons (pv 1) pa_nil)) (nomark _)))))
   (pss_one (ps_ret pe_bl))
   pss_nil)
   (pss_one (ps_ret (pe_callB (RD.k_all (K:=K) rfl rfl) (by rfl) T.zqw (by decide +kernel) (pa_cons (pe_lc (own:=[("name", 3),("kind", 2)]) (g:=gTup K 2 (gCons (gName 3) (gCons (gName 2) gNil))) (by rfl) zb8.nd (RD.k_pil (K:=K) rfl (RD.k_fld (K:=K) rfl (pv 0) rfl)) (blkOk_by (own:=[("name", 3),("kind", 2)]) (N:=["self", "names", "kind", "name"]) (sc:=defScope zds) (by decide +kernel)) (fun _ _ _ _ _=>(RD.k_gtup (K:=K) (n:=2) rfl rfl (pgs_cons (pg_name (i:=3) zb8.nd rfl (Or.inl rfl)) (pgs_cons (pg_name (i:=2) zb8.nd rfl (Or.inl rfl)) pgs_nil)))) (fun _ _ _ _ _=>pts_nil) (fun _ _ _ _ _=>(pe_call zg3 (hr.mono (by decide)) (by rfl) T.zk0 T.zfz.kp T.zkv .nil pass0 (pa_cons (pv 3) pa_nil)))) pa_nil)))))),?_⟩
  show tSeq _ _ _ [some (.ref p),none,none,none] H
  walk_at "rd"
  refine ⟨p,A.zap,dx,_,_,rfl,hp,T.zd9,T.zih,rfl,?_⟩
  have lb:=paired_len hb2
  have lu:=paired_len hu2
  refine RD.lcP f.bound (sq hb) lb (szl (by have:=hz.2.2.2; omega)) (fun _=>true) (fun d=>vst d.1) (fun i c d H1 Q' R' hc hd s1 kT kF=>?_) (fun H1 nl nnl s1 hnl=>?_)
  ·refine RD.gtup2 ((Kp.same s1).sq (paired_at hb2 hc hd)) ?_
   walk_at "wp"
   walk_at "rd"
   refine ⟨rfl,?_⟩
   walk_at "rd"
   exact kT rfl _ (Same.refl _)
  ·rw [RD.pick_all (fun _=>rfl)] at hnl
   have enl:f.bound.map (fun d=>vst d.1)=vsts (f.bound.map Prod.fst):=by
    unfold vsts
    rw [List.map_map]
    rfl
   rw [enl] at hnl
   walk_at "rd"
   have bl:∀ x∈f.bound.map Prod.fst,x.length≤10000:=fun x hx=>by
    obtain ⟨d,hd,rfl⟩:=List.mem_map.mp hx
    exact hz.2.1 d hd
   have nb:(f.bound.map Prod.fst).length≤1000:=by rw [List.length_map]; exact hz.2.2.2
   have eg:f.good=(decide (∀ b∈f.bound.map Prod.fst,isName b=true) && (decide (f.bound.map Prod.fst).Nodup && decide (∀ u∈f.uses,isWord u.1=true))):=by
    unfold Form.good
    rw [← Bool.decide_and,← Bool.decide_and,decide_eq_decide]
    refine and_congr_left fun _=>⟨fun h b hb=>?_,fun h b hb=>h b.1 (List.mem_map_of_mem hb)⟩
    obtain ⟨d,hd,rfl⟩:=List.mem_map.mp hb
    exact h d hd
   revert eg hnl bl nb
   generalize f.bound.map Prod.fst=ns
   intro hnl bl nb eg
   refine RD.lcTx (sq hnl) (by omega) (fun x=>!isName x) vst (fun i x H2 Q' R' hx s2 kT kF=>?_) (fun H2 r nr s2 hr2=>?_)
   ·walk_at "wp"
    walk_at "rd"
    refine ⟨rfl,?_⟩
    walk_at "rd"
    refine ⟨x,rfl,Nat.le_trans (bl x (List.mem_of_getElem? hx)) (by decide),fun H3 s3=>?_⟩
    walk_at "rd"
    cases hn:isName x with
    | true =>
     rw [hn] at kF
     exact RD.bF (kF rfl _ s3)
    | false =>
     rw [hn] at kT
     refine RD.bT ?_
     walk_at "rd"
     exact kT rfl _ s3
   ·rw [pick_filter] at hr2
    refine RD.truL (sq hr2) ?_
    have ee:((ns.filter fun x=>!isName x).map vst).isEmpty=(ns.filter fun x=>!isName x).isEmpty:=isEmpty_txs _
    rw [ee]
    cases hf:(ns.filter fun x=>!isName x).isEmpty with
    | false =>
     walk_at "rn"
     have:f.good=false:=by
      rw [eg,decide_eq_false,Bool.false_and]
      intro z
      have:=filter_none.mpr (fun l hl=>by
       show (!isName l)=false
       rw [z l hl]
       rfl:∀ l∈ns,(!isName l)=false)
      rw [hf] at this
      exact Bool.false_ne_true this
     rw [← this]
     exact q _ (s1.trans s2)
    | true =>
     have e1:decide (∀ b∈ns,isName b=true)=true:=decide_eq_true fun b hb=>by
      have:=filter_none.mp hf b hb
      cases e:isName b
      ·rw [e] at this; exact absurd this (by decide)
      ·rfl
     rw [e1,Bool.true_and] at eg
     walk_at "rn"
     refine ⟨nl,ns.map S,rfl,by rw [List.map_map]; exact sq (s2 _ _ hnl),by rw [List.length_map]; omega,?_⟩
     walk_at "rd"
     refine RD.len (sq (s2 _ _ hnl)) ?_
     rw [vsts_len]
     walk_at "rd"
     rw [dd_lt]
     cases hn:decide ns.Nodup with
     | false =>
      rw [hn,Bool.false_and] at eg
      walk_at "rn"
      rw [← eg]
      exact q _ (s1.trans s2)
     | true =>
      rw [hn,Bool.true_and] at eg
      walk_at "rn"
      have s12:=s1.trans s2
      refine ⟨p,A.zap,dx,_,_,rfl,s12 _ _ hp,T.zd9,T.zla,rfl,?_⟩
      refine RD.lcP f.uses (sq (s12 _ _ hu)) lu (szl (by have:=hz.2.2.1; omega)) (fun _=>true) (fun d => .bl (isWord d.1)) (fun i c d H3 Q' R' hc hd s3 kT kF=>?_) (fun H3 nl2 nnl2 s3 hnl2=>?_)
      ·refine RD.gtup2 ((Kp.same (s12.trans s3)).sq (paired_at hu2 hc hd)) ?_
       walk_at "wp"
       walk_at "rd"
       refine ⟨rfl,?_⟩
       walk_at "rd"
       refine ⟨d.1,rfl,Nat.le_trans (hz.1 d (List.mem_of_getElem? hd)) (by decide),fun H4 s4=>?_⟩
       exact kT rfl _ s4
      ·rw [RD.pick_all (fun _=>rfl)] at hnl2
       walk_at "rd"
       refine RD.all1 (bs:=f.uses.map fun d=>isWord d.1) (sq (by rw [hnl2,List.map_map]; rfl)) ?_
       have e3:f.good=(f.uses.map fun d=>isWord d.1).all id:=by
        rw [eg,List.all_map]
        cases hw:f.uses.all (id ∘ fun d=>isWord d.1) with
        | true=>exact decide_eq_true fun u hu=>List.all_eq_true.mp hw u hu
        | false =>
         refine decide_eq_false fun z=>?_
         have hw2:f.uses.all (id ∘ fun d=>isWord d.1)=true:=List.all_eq_true.mpr (fun u hu=>z u hu)
         rw [hw2] at hw
         cases hw
       rw [← e3]
       exact q _ (s12.trans s3)
end
end Pf

namespace Pf
open PySem PySem.Spec PyProof.Rows L2 SX RD PR
def sp_wf (A:Ad) (K:PySem.W.Frag) (pre:List Tx→Prop) (F:List Tx→Option Form):Sp:=fun vs H Q _=>∃ (a:Addr) (ws:List Tx),vs=[.ref a]∧SqL K H a (vsts ws)∧(∀ x∈ws,x.length≤10000)∧ws.length≤11000∧pre ws ∧
 ∀ H' v,Same H H'→OptAt (FormAt A K H H') v (F ws)→Q v H'
def preT:List Tx→Prop:=fun _=>True
theorem four {ws:List Tx} (h:ws.length=4):∃ a b c d,ws=[a,b,c,d]:=by
 match ws,h with
 | [a,b,c,d],_=>exact ⟨a,b,c,d,rfl⟩
theorem letF_no {ws:List Tx} (h:ws.length ≠ 4):letF ws=none:=by
 unfold letF
 split
 ·exact absurd rfl h
 ·rfl
theorem roundF_no {ws:List Tx} (h:ws.length ≠ 4):roundF ws=none:=by
 unfold roundF
 split
 ·exact absurd rfl h
 ·rfl
theorem side_len {d:Tx} {s:Side} (h:sideOf d=some s):s.1.length≤d.length:=by
 have hb:=(rpt_len 46 d).2.2
 unfold sideOf at h
 dsimp only at h
 split at h
 ·obtain ⟨p,_,e⟩:=Option.map_eq_some_iff.mp h
  rw [← e]
  exact hb
 ·obtain ⟨p,_,e⟩:=Option.map_eq_some_iff.mp h
  rw [← e]
  exact Nat.zero_le _
section
variable {P:Program} {w:World} {K:PySem.W.Frag} {mg:Str→Option Value} {base:Heap} {A:Ad}
theorem pairs1 {H H':Hp} {q l:Addr} {x y:Tx} (h1:H' q=some (.tup [vst x,vst y])) (h2:H' l=some (.lst [.ref q])):PairsT K H' l [(x,y)]:=⟨[q],.inl (sq h2),.cons (st h1) .nil⟩
theorem pairs2 {H H':Hp} {q r l:Addr} {x y z u:Tx} (h1:H' q=some (.tup [vst x,vst y])) (h3:H' r=some (.tup [vst z,vst u])) (h2:H' l=some (.lst [.ref q,.ref r])):PairsT K H' l [(x,y),(z,u)]:=⟨[q,r],.inl (sq h2),.cons (st h1) (.cons (st h3) .nil)⟩
theorem pairs0 {H:Hp} {l:Addr} (h:SqT K H l []):PairsT K H l []:=⟨[],.inr h,.nil⟩
theorem znj (T:Txt K mg A):FnOk P w K mg base CX0 4 A.zf5 A.zf3 ["words"] (sp_wf A K preT letF):=by
 have zkz:=zoa (P:=P) (w:=w) (base:=base) T
 have zam:=zcv (P:=P) (w:=w) (base:=base) T
 refine T.zhe.ok ziz (fun vs H Q E h=>?_) (fun cdv Ar outer s H vs Q E hr h=>?_)
 ·obtain ⟨a,ws,rfl,_⟩:=h
  rfl
 ·obtain ⟨a,ws,rfl,hq,hb,hz,_,q⟩:=h
  refine ⟨_,(RD.pss_cut (ps_if (PW.pt (pw_or (pt_cmpR op_ne (pe_callB (RD.k_len (K:=K) rfl) (by rfl) T.zau (by decide +kernel) (pa_cons (pv 0) pa_nil)) pe_int (nomark _)) (pw_or1 (pt_cmpR op_ne (pe_ix (RD.k_ixL (K:=K) rfl) (pv 0) pe_int (fun _ _=>rfl)) pe_str (nomark _)))))
   (pss_one (ps_ret pe_non))
   pss_nil)
   (pss_cons (ps_set (i:=1) ziz.nd rfl (Or.inl rfl) (pe_call zkz (hr.mono (by decide)) (by rfl) T.zm0 T.zgs.kp T.zmr .nil pass0 (pa_cons (pe_ix (RD.k_ixL (K:=K) rfl) (pv 0) pe_int (fun _ _=>rfl)) pa_nil)))
   (RD.pss_cut (ps_if (pt_cmpR op_isN (pv 1) pe_non (nomark _))
   (pss_one (ps_ret pe_non))
   pss_nil)
   (pss_cons (ps_asg (pv 1) (RD.k_gtup (K:=K) (n:=2) rfl rfl (pgs_cons (pg_name (i:=2) ziz.nd rfl (Or.inl rfl)) (pgs_cons (pg_name (i:=3) ziz.nd rfl (Or.inl rfl)) pgs_nil))))
   (pss_cons (ps_if (RD.k_tru (K:=K) rfl (pv 2) (by intro _; rfl))
   (pss_one (ps_ret (pe_make T.zen zam (hr.mono (by decide)) (by rfl) T.zfx T.ze7 .nil pass0 (pa_cons (pe_tup (pa_cons pe_str (pa_cons (pe_ix (RD.k_ixL (K:=K) rfl) (pv 0) pe_int (fun _ _=>rfl)) (pa_cons (pv 2) (pa_cons (pv 3) pa_nil))))) (pa_cons (pe_lst (pa_cons (pe_tup (pa_cons (pe_ix (RD.k_ixT (K:=K) rfl) (pv 3) pe_int (fun _ _=>rfl)) (pa_cons (RD.pe_gl (by rfl) T.zdp) pa_nil))) pa_nil)) (pa_cons (pe_lst (pa_cons (pe_tup (pa_cons (pe_ix (RD.k_ixL (K:=K) rfl) (pv 0) pe_int (fun _ _=>rfl)) (pa_cons (pv 2) pa_nil))) pa_nil)) pa_nil))))))
   pss_nil)
   (pss_one (ps_ret (pe_make T.zen zam (hr.mono (by decide)) (by rfl) T.zfx T.ze7 .nil pass0 (pa_cons (pe_tup (pa_cons pe_str (pa_cons (pe_ix (RD.k_ixL (K:=K) rfl) (pv 0) pe_int (fun _ _=>rfl)) (pa_cons (pv 3) pa_nil)))) (pa_cons (pe_lst (pa_cons (pe_tup (pa_cons (pe_ix (RD.k_ixT (K:=K) rfl) (pv 3) pe_int (fun _ _=>rfl)) (pa_cons (RD.pe_gl (by rfl) T.zdp) pa_nil))) pa_nil)) (pa_cons (pe_lst (pa_cons (pe_tup (pa_cons (pe_ix (RD.k_ixL (K:=K) rfl) (pv 0) pe_int (fun _ _=>rfl)) (pa_cons (RD.pe_gl (by rfl) T.zdp) pa_nil))) pa_nil)) pa_nil))))))))))),?_⟩
  show RD.tCut _ _ _ [some (.ref a),none,none,none] H
  have no:letF ws=none→∀ H',Same H H'→Q .non H':=fun e H' s=>q H' _ s (by rw [e]; rfl)
  refine RD.cut (fun σ H'=>σ = [some (.ref a),none,none,none]∧H'=H∧∃ h x d,ws=[h,x,tx "=", d]) ?_ ?_
  ·walk_at "rd"
   refine RD.len hq ?_
   rw [vsts_len]
   walk_at "rd"
   refine RD.ndec (fun h3=>?_) (fun h3=>?_)
   ·walk_at "rd"
    exact no (letF_no (by omega)) _ (Same.refl _)
   ·obtain ⟨h,x,e,d,rfl⟩:=four (show ws.length=4 by omega)
    walk_at "rd"
    refine RD.ixL hq (show atI (vsts [h,x,e,d]) ((2:Nat):Int)=some (vst e) from at_n rfl) ?_
    walk_at "rd"
    refine RD.ndec (fun ho=>?_) (fun ho=>?_)
    ·walk_at "rd"
     exact no (if_neg ho) _ (Same.refl _)
    ·subst ho
     walk_at "rd"
     exact ⟨rfl,rfl,h,x,d,rfl⟩
  ·rintro σ H1 ⟨rfl,rfl,h,x,d,rfl⟩
   have e0:letF [h,x,tx "=", d]=(sideOf d).map fun d=>if d.1=[] then ⟨.let_ x d.2,[(d.2.1,half)],[(x,half)]⟩ else ⟨.take x d.1 d.2,[(d.2.1,half)],[(x,d.1)]⟩:=by
    simp only [letF,if_true]
   walk_at "rd"
   refine RD.ixL hq (show atI (vsts [h,x,tx "=", d]) ((3:Nat):Int)=some (vst d) from at_n rfl) ?_
   walk_at "rd"
   refine ⟨d,rfl,hb d (by simp),fun H2 v s2 hv=>?_⟩
   walk_at "rd"
   cases hd:sideOf d with
   | none =>
    rw [hd] at hv e0
    have hv:v = .non:=hv
    subst hv
    refine RD.cut (fun _ _=>False) ?_ (fun _ _ z=>z.elim)
    walk_at "rd"
    refine ⟨rfl,?_⟩
    walk_at "rd"
    refine RD.decT rfl ?_
    walk_at "rd"
    exact no e0 _ s2
   | some sd =>
    obtain ⟨k,pa⟩:=sd
    rw [hd] at hv e0
    obtain ⟨c,pv,rfl,h1,h2⟩:SideAt K H2 v (k,pa):=hv
    obtain ⟨ap,bp,rfl,hp1,hp2⟩:=h2
    refine RD.cut (fun σ H'=>σ = [some (.ref a),some (.ref c),none,none]∧H'=H2) ?_ ?_
    ·walk_at "rd"
     refine ⟨rfl,?_⟩
     walk_at "rd"
     refine RD.decF nofun ?_
     walk_at "rd"
     exact ⟨rfl,rfl⟩
    ·rintro σ H3 ⟨rfl,rfl⟩
     walk_at "rd"
     refine RD.gtup2 h1 ?_
     walk_at "rd"
     have kc:k.length≤10000:=by
      rw [← show (k,pa).1=k from rfl]
      exact Nat.le_trans (side_len hd) (hb d (by simp))
     cases k with
     | nil =>
      refine RD.truS0 ?_
      walk_at "rn"
      refine RD.ixL (s2.seq hq) (show atI (vsts [h,x,tx "=", d]) ((1:Nat):Int)=some (vst x) from at_n rfl) ?_
      walk_at "rd"
      refine ⟨few,fun p1 n1=>?_⟩
      have t1:=same_new (o := .tup [vst (tx "let"),vst x,V.ref ap]) n1
      walk_at "rd"
      refine RD.ixT ((Kp.same t1).sq hp1) (show atI _ ((0:Nat):Int)=some (vst pa.1) from at_n rfl) ?_
      walk_at "rd"
      refine ⟨few,fun p2 n2=>?_⟩
      have t2:=same_new (o := .tup [vst pa.1,vst (tx "half")]) n2
      walk_at "rd"
      refine ⟨few,fun p3 n3=>?_⟩
      have t3:=same_new (o := .lst [V.ref p2]) n3
      walk_at "rd"
      refine RD.ixL ((((s2.trans t1).trans t2).trans t3).seq hq) (show atI (vsts [h,x,tx "=", d]) ((1:Nat):Int)=some (vst x) from at_n rfl) ?_
      walk_at "rd"
      refine ⟨few,fun p4 n4=>?_⟩
      have t4:=same_new (o := .tup [vst x,vst (tx "half")]) n4
      walk_at "rd"
      refine ⟨few,fun p5 n5=>?_⟩
      have t5:=same_new (o := .lst [V.ref p4]) n5
      walk_at "rd"
      have t25:=((t2.trans t3).trans t4).trans t5
      refine mk_form (f:=⟨.let_ x pa,[(pa.1,half)],[(x,half)]⟩) (sv := .ref p1) (u:=p3) (b:=p5) rfl ⟨p1,rfl,_,st (t25 _ _ upd_same),(Kp.same (t1.trans t25)).path ⟨ap,bp,rfl,hp1,hp2⟩⟩ (pairs1 (H:=H3) (((t3.trans t4).trans t5) _ _ upd_same) ((t4.trans t5) _ _ upd_same)) (pairs1 (H:=H3) (t5 _ _ upd_same) upd_same) fun H' v s' hf=>?_
      refine q _ _ ((s2.trans (t1.trans t25)).trans s') ?_
      rw [e0]
      exact hf.past (s2.trans (t1.trans t25))
     | cons k0 kr =>
      refine RD.truS1 (by omega) ?_
      walk_at "rn"
      refine RD.ixL (s2.seq hq) (show atI (vsts [h,x,tx "=", d]) ((1:Nat):Int)=some (vst x) from at_n rfl) ?_
      walk_at "rd"
      refine ⟨few,fun p1 n1=>?_⟩
      have t1:=same_new (o := .tup [vst (tx "take"),vst x,vst (k0 :: kr),V.ref ap]) n1
      walk_at "rd"
      refine RD.ixT ((Kp.same t1).sq hp1) (show atI _ ((0:Nat):Int)=some (vst pa.1) from at_n rfl) ?_
      walk_at "rd"
      refine ⟨few,fun p2 n2=>?_⟩
      have t2:=same_new (o := .tup [vst pa.1,vst (tx "half")]) n2
      walk_at "rd"
      refine ⟨few,fun p3 n3=>?_⟩
      have t3:=same_new (o := .lst [V.ref p2]) n3
      walk_at "rd"
      refine RD.ixL ((((s2.trans t1).trans t2).trans t3).seq hq) (show atI (vsts [h,x,tx "=", d]) ((1:Nat):Int)=some (vst x) from at_n rfl) ?_
      walk_at "rd"
      refine ⟨few,fun p4 n4=>?_⟩
      have t4:=same_new (o := .tup [vst x,vst (k0 :: kr)]) n4
      walk_at "rd"
      refine ⟨few,fun p5 n5=>?_⟩
      have t5:=same_new (o := .lst [V.ref p4]) n5
      walk_at "rd"
      have t25:=((t2.trans t3).trans t4).trans t5
      refine mk_form (f:=⟨.take x (k0 :: kr) pa,[(pa.1,half)],[(x,k0 :: kr)]⟩) (sv := .ref p1) (u:=p3) (b:=p5) rfl ⟨p1,rfl,_,st (t25 _ _ upd_same),(Kp.same (t1.trans t25)).path ⟨ap,bp,rfl,hp1,hp2⟩⟩ (pairs1 (H:=H3) (((t3.trans t4).trans t5) _ _ upd_same) ((t4.trans t5) _ _ upd_same)) (pairs1 (H:=H3) (t5 _ _ upd_same) upd_same) fun H' v s' hf=>?_
      refine q _ _ ((s2.trans (t1.trans t25)).trans s') ?_
      rw [e0]
      exact hf.past (s2.trans (t1.trans t25))
end
end Pf

namespace Pf
open PySem PySem.Spec PyProof.Rows L2 SX RD PR
def pre3:List Tx→Prop:=fun ws=>ws.length=3
def writeW:List Tx→Option Form:=fun ws=>writeF (ws.getD 0 []) (ws.getD 2 [])
def preC:List Tx→Prop:=fun ws=>∃ h r,ws=h :: r∧(h=tx "given" ∨ h=tx "if")
def condW:List Tx→Option Form:=fun ws=>condF (ws.getD 0 []) (ws.drop 1)
def tellW:List Tx→Option Form:=fun ws=>tellF (ws.drop 1)
def preN:List Tx→Prop:=fun ws=>1≤ws.length
section
variable {P:Program} {w:World} {K:PySem.W.Frag} {mg:Str→Option Value} {base:Heap} {A:Ad}
theorem pairsA_T {H:Hp} {a:Addr} {l:List (Tx × Tx)} (h:PairsA K H a l):PairsT K H a l:=h.elim fun qs z=>⟨qs,.inl (sq z.1),z.2⟩
theorem zo4 (T:Txt K mg A):FnOk P w K mg base CX0 3 A.zer A.zes ["words"] (sp_wf A K pre3 writeW):=by
 have zam:=zcv (P:=P) (w:=w) (base:=base) T
 refine T.zg2.ok zf7 (fun vs H Q E h=>?_) (fun cdv Ar outer s H vs Q E hr h=>?_)
 ·obtain ⟨a,ws,rfl,_⟩:=h
  rfl
 ·obtain ⟨a,ws,rfl,hq,hb,hz,h3,q⟩:=h
  refine ⟨_,(pss_cons (ps_asg (RD.k_rpart (pe_ix (RD.k_ixL (K:=K) rfl) (pv 0) pe_int (fun _ _=>rfl)) pe_str) (RD.k_gtup (K:=K) (n:=3) rfl rfl (pgs_cons (pg_name (i:=1) zf7.nd rfl (Or.inl rfl)) (pgs_cons (pg_name (i:=2) zf7.nd rfl (Or.inl rfl)) (pgs_cons (pg_name (i:=3) zf7.nd rfl (Or.inl rfl)) pgs_nil)))))
   (pss_cons (ps_set (i:=4) zf7.nd rfl (Or.inl rfl) (pe_ix (RD.k_ixL (K:=K) rfl) (pv 0) pe_int (fun _ _=>rfl)))
   (pss_cons (ps_if (pt_cmpR (RD.k_in (K:=K) rfl) (pv 3) (pe_tup (pa_cons pe_str (pa_cons pe_str pa_nil))) (by rfl))
   (pss_one (ps_ret (pe_make T.zen zam (hr.mono (by decide)) (by rfl) T.zfx T.zcu (.cons (a:=V.ref A.zah) rfl .nil) pass0 (pa_cons (pe_tup (pa_cons pe_str (pa_cons (pv 1) (pa_cons (pv 3) (pa_cons (pv 4) pa_nil))))) (pa_cons (pe_lst (pa_cons (pe_tup (pa_cons (pv 1) (pa_cons (RD.pe_gl (by rfl) T.zdp) pa_nil))) (pa_cons (pe_tup (pa_cons (pv 4) (pa_cons (RD.pe_gl (by rfl) T.zdp) pa_nil))) pa_nil))) pa_nil)))))
   pss_nil)
   (pss_cons (ps_if (pt_cmpR (RD.k_in (K:=K) rfl) (pv 3) (pe_glob (v := .ref A.zcy) rfl T.zcy rfl) (by rfl))
   (pss_one (ps_ret (pe_make T.zen zam (hr.mono (by decide)) (by rfl) T.zfx T.zcu (.cons (a:=V.ref A.zah) rfl .nil) pass0 (pa_cons (pe_tup (pa_cons pe_str (pa_cons (pv 1) (pa_cons (pv 3) (pa_cons (pv 4) pa_nil))))) (pa_cons (pe_lst (pa_cons (pe_tup (pa_cons (pv 1) (pa_cons (RD.pe_gl (by rfl) T.zdp) pa_nil))) (pa_cons (pe_tup (pa_cons (pv 4) (pa_cons (pv 3) pa_nil))) pa_nil))) pa_nil)))))
   pss_nil)
   (pss_cons (ps_if (pt_cmpR op_eq (pv 3) pe_str (nomark _))
   (pss_one (ps_ret (pe_make T.zen zam (hr.mono (by decide)) (by rfl) T.zfx T.zcu (.cons (a:=V.ref A.zah) rfl .nil) pass0 (pa_cons (pe_tup (pa_cons pe_str (pa_cons (pv 1) (pa_cons (pv 4) pa_nil)))) (pa_cons (pe_lst (pa_cons (pe_tup (pa_cons (pv 1) (pa_cons pe_str pa_nil))) (pa_cons (pe_tup (pa_cons (pv 4) (pa_cons (RD.pe_gl (by rfl) T.zdp) pa_nil))) pa_nil))) pa_nil)))))
   pss_nil)
   (pss_one (ps_ret pe_non))))))),?_⟩
  show tSeq _ _ _ [some (.ref a),none,none,none,none] H
  obtain ⟨x,e,v,rfl⟩:=three h3
  walk_at "rd"
  refine RD.ixL hq (show atI (vsts [x,e,v]) ((0:Nat):Int)=some (vst x) from at_n rfl) ?_
  refine ⟨⟨_,rfl⟩,?_⟩
  walk_at "rd"
  rw [tdot]
  refine RD.rpl (Nat.le_trans (hb x (by simp)) (by decide)) fun p np=>?_
  refine RD.gtup3 (st upd_same) ?_
  have es:writeW [x,e,v]=if (rpt 46 x).2.2=tx "next" ∨ (rpt 46 x).2.2=tx "prev" then some ⟨.link (rpt 46 x).1 (rpt 46 x).2.2 v,[((rpt 46 x).1,half),(v,half)],[]⟩
   else if (rpt 46 x).2.2∈kinds then some ⟨.bear (rpt 46 x).1 (rpt 46 x).2.2 v,[((rpt 46 x).1,half),(v,(rpt 46 x).2.2)],[]⟩
   else if (rpt 46 x).2.2=tx "some" then some ⟨.some_ (rpt 46 x).1 none v,[((rpt 46 x).1,tx "label"),(v,half)],[]⟩ else none:=rfl
  revert es
  have s0:=same_new (o := .tup [vst (rpt 46 x).1,vst (rpt 46 x).2.1,vst (rpt 46 x).2.2]) np
  revert s0
  generalize (rpt 46 x).1=r1
  generalize (rpt 46 x).2.1=r2
  generalize (rpt 46 x).2.2=r3
  intro s0 es
  walk_at "rd"
  refine RD.ixL (s0.seq hq) (show atI (vsts [x,e,v]) ((2:Nat):Int)=some (vst v) from at_n rfl) ?_
  walk_at "rd"
  refine ⟨few,fun p1 n1=>?_⟩
  have s1:=s0.trans (same_new (o := .tup [vst (tx "next"),vst (tx "prev")]) n1)
  refine RD.inT (ls:=[tx "next", tx "prev"]) (st upd_same) ?_
  walk_at "rd"
  refine RD.dec (fun h1=>?_) (fun h1=>?_)
  ·rw [if_pos (by simpa using h1)] at es
   walk_at "rd"
   refine ⟨few,fun p2 n2=>?_⟩
   have t2:=same_new (o := .tup [vst (tx "link"),vst r1,vst r3,vst v]) n2
   walk_at "rd"
   refine ⟨few,fun p3 n3=>?_⟩
   have t3:=same_new (o := .tup [vst r1,vst (tx "half")]) n3
   walk_at "rd"
   refine ⟨few,fun p4 n4=>?_⟩
   have t4:=same_new (o := .tup [vst v,vst (tx "half")]) n4
   walk_at "rd"
   refine ⟨few,fun p5 n5=>?_⟩
   have t5:=same_new (o := .lst [V.ref p3,V.ref p4]) n5
   walk_at "rd"
   have t25:=s1.trans (((t2.trans t3).trans t4).trans t5)
   refine mk_form (f:=⟨.link r1 r3 v,[(r1,half),(v,half)],[]⟩) (sv := .ref p2) (u:=p5) (b:=A.zah) rfl ⟨p2,rfl,st (((t3.trans t4).trans t5) _ _ upd_same)⟩ (pairs2 (H:=H) ((t4.trans t5) _ _ upd_same) (t5 _ _ upd_same) upd_same) (pairs0 (T.zbq _)) fun H' v s' hf=>?_
   refine q _ _ (t25.trans s') ?_
   rw [es]
   exact hf.past t25
  ·rw [if_neg (by simpa using h1)] at es
   walk_at "rd"
   refine RD.inT (ls:=kinds) (by rw [← vsts_kinds]; exact T.zj1 _) ?_
   walk_at "rd"
   refine RD.dec (fun h2=>?_) (fun h2=>?_)
   ·rw [if_pos h2] at es
    walk_at "rd"
    refine ⟨few,fun p2 n2=>?_⟩
    have t2:=same_new (o := .tup [vst (tx "bear"),vst r1,vst r3,vst v]) n2
    walk_at "rd"
    refine ⟨few,fun p3 n3=>?_⟩
    have t3:=same_new (o := .tup [vst r1,vst (tx "half")]) n3
    walk_at "rd"
    refine ⟨few,fun p4 n4=>?_⟩
    have t4:=same_new (o := .tup [vst v,vst r3]) n4
    walk_at "rd"
    refine ⟨few,fun p5 n5=>?_⟩
    have t5:=same_new (o := .lst [V.ref p3,V.ref p4]) n5
    walk_at "rd"
    have t25:=s1.trans (((t2.trans t3).trans t4).trans t5)
    refine mk_form (f:=⟨.bear r1 r3 v,[(r1,half),(v,r3)],[]⟩) (sv := .ref p2) (u:=p5) (b:=A.zah) rfl ⟨p2,rfl,st (((t3.trans t4).trans t5) _ _ upd_same)⟩ (pairs2 (H:=H) ((t4.trans t5) _ _ upd_same) (t5 _ _ upd_same) upd_same) (pairs0 (T.zbq _)) fun H' v s' hf=>?_
    refine q _ _ (t25.trans s') ?_
    rw [es]
    exact hf.past t25
   ·rw [if_neg h2] at es
    walk_at "rd"
    refine RD.dec (fun h4=>?_) (fun h4=>?_)
    ·rw [if_pos h4] at es
     walk_at "rd"
     refine ⟨few,fun p2 n2=>?_⟩
     have t2:=same_new (o := .tup [vst (tx "some"),vst r1,vst v]) n2
     walk_at "rd"
     refine ⟨few,fun p3 n3=>?_⟩
     have t3:=same_new (o := .tup [vst r1,vst (tx "label")]) n3
     walk_at "rd"
     refine ⟨few,fun p4 n4=>?_⟩
     have t4:=same_new (o := .tup [vst v,vst (tx "half")]) n4
     walk_at "rd"
     refine ⟨few,fun p5 n5=>?_⟩
     have t5:=same_new (o := .lst [V.ref p3,V.ref p4]) n5
     walk_at "rd"
     have t25:=s1.trans (((t2.trans t3).trans t4).trans t5)
     refine mk_form (f:=⟨.some_ r1 none v,[(r1,tx "label"),(v,half)],[]⟩) (sv := .ref p2) (u:=p5) (b:=A.zah) rfl ⟨p2,rfl,st (((t3.trans t4).trans t5) _ _ upd_same)⟩ (pairs2 (H:=H) ((t4.trans t5) _ _ upd_same) (t5 _ _ upd_same) upd_same) (pairs0 (T.zbq _)) fun H' v s' hf=>?_
     refine q _ _ (t25.trans s') ?_
     rw [es]
     exact hf.past t25
    ·rw [if_neg h4] at es
     walk_at "rd"
     exact q _ _ s1 (by rw [es]; rfl)
theorem zo5 (T:Txt K mg A):FnOk P w K mg base CX0 3 A.zey A.zet ["words"] (sp_wf A K preT roundF):=by
 have zam:=zcv (P:=P) (w:=w) (base:=base) T
 refine T.zg4.ok zhv (fun vs H Q E h=>?_) (fun cdv Ar outer s H vs Q E hr h=>?_)
 ·obtain ⟨a,ws,rfl,_⟩:=h
  rfl
 ·obtain ⟨a,ws,rfl,hq,hb,hz,_,q⟩:=h
  refine ⟨_,(RD.pss_cut (ps_if (PW.pt (pw_or (pt_cmpR op_ne (pe_callB (RD.k_len (K:=K) rfl) (by rfl) T.zau (by decide +kernel) (pa_cons (pv 0) pa_nil)) pe_int (nomark _)) (pw_or1 (pt_cmpR op_ne (pe_ix (RD.k_ixL (K:=K) rfl) (pv 0) pe_int (fun _ _=>rfl)) pe_str (nomark _)))))
   (pss_one (ps_ret pe_non))
   pss_nil)
   (pss_cons (ps_asg (RD.k_rpart (pe_ix (RD.k_ixL (K:=K) rfl) (pv 0) pe_int (fun _ _=>rfl)) pe_str) (RD.k_gtup (K:=K) (n:=3) rfl rfl (pgs_cons (pg_name (i:=1) zhv.nd rfl (Or.inl rfl)) (pgs_cons (pg_name (i:=2) zhv.nd rfl (Or.inl rfl)) (pgs_cons (pg_name (i:=3) zhv.nd rfl (Or.inl rfl)) pgs_nil)))))
   (pss_cons (ps_if (pt_cmpR (RD.k_notin (K:=K) rfl) (pv 3) (pe_glob (v := .ref A.zcy) rfl T.zcy rfl) (by rfl))
   (pss_one (ps_ret pe_non))
   pss_nil)
   (pss_one (ps_ret (pe_make T.zen zam (hr.mono (by decide)) (by rfl) T.zfx T.zcu (.cons (a:=V.ref A.zah) rfl .nil) pass0 (pa_cons (pe_tup (pa_cons pe_str (pa_cons (pv 1) (pa_cons (pv 3) (pa_cons (pe_ix (RD.k_ixL (K:=K) rfl) (pv 0) pe_int (fun _ _=>rfl)) pa_nil))))) (pa_cons (pe_lst (pa_cons (pe_tup (pa_cons (pv 1) (pa_cons (RD.pe_gl (by rfl) T.zdp) pa_nil))) (pa_cons (pe_tup (pa_cons (pe_ix (RD.k_ixL (K:=K) rfl) (pv 0) pe_int (fun _ _=>rfl)) (pa_cons (pv 3) pa_nil))) pa_nil))) pa_nil)))))))),?_⟩
  show RD.tCut _ _ _ [some (.ref a),none,none,none] H
  have no:roundF ws=none→∀ H',Same H H'→Q .non H':=fun e H' s=>q H' _ s (by rw [e]; rfl)
  refine RD.cut (fun σ H'=>σ = [some (.ref a),none,none,none]∧H'=H∧∃ h x d,ws=[h,x,tx "=", d]) ?_ ?_
  ·walk_at "rd"
   refine RD.len hq ?_
   rw [vsts_len]
   walk_at "rd"
   refine RD.ndec (fun h3=>?_) (fun h3=>?_)
   ·walk_at "rd"
    exact no (roundF_no (by omega)) _ (Same.refl _)
   ·obtain ⟨h,x,e,d,rfl⟩:=four (show ws.length=4 by omega)
    walk_at "rd"
    refine RD.ixL hq (show atI (vsts [h,x,e,d]) ((2:Nat):Int)=some (vst e) from at_n rfl) ?_
    walk_at "rd"
    refine RD.ndec (fun ho=>?_) (fun ho=>?_)
    ·walk_at "rd"
     exact no (if_neg fun z=>ho z.1) _ (Same.refl _)
    ·subst ho
     walk_at "rd"
     exact ⟨rfl,rfl,h,x,d,rfl⟩
  ·rintro σ H1 ⟨rfl,rfl,h,x,v,rfl⟩
   walk_at "rd"
   refine RD.ixL hq (show atI (vsts [h,x,tx "=", v]) ((1:Nat):Int)=some (vst x) from at_n rfl) ?_
   refine ⟨⟨_,rfl⟩,?_⟩
   walk_at "rd"
   rw [tdot]
   refine RD.rpl (Nat.le_trans (hb x (by simp)) (by decide)) fun p np=>?_
   refine RD.gtup3 (st upd_same) ?_
   have es:roundF [h,x,tx "=", v]=if tx "=" = tx "=" ∧ (rpt 46 x).2.2∈kinds then some ⟨.round (rpt 46 x).1 (rpt 46 x).2.2 v,[((rpt 46 x).1,half),(v,(rpt 46 x).2.2)],[]⟩ else none:=rfl
   revert es
   have s0:=same_new (o := .tup [vst (rpt 46 x).1,vst (rpt 46 x).2.1,vst (rpt 46 x).2.2]) np
   revert s0
   generalize (rpt 46 x).1=r1
   generalize (rpt 46 x).2.1=r2
   generalize (rpt 46 x).2.2=r3
   intro s0 es
   walk_at "rd"
   refine RD.ninT (ls:=kinds) (by rw [← vsts_kinds]; exact T.zj1 _) ?_
   walk_at "rd"
   refine RD.ndec (fun h2=>?_) (fun h2=>?_)
   ·rw [if_neg fun z=>h2 z.2] at es
    walk_at "rd"
    exact no es _ s0
   ·rw [if_pos ⟨rfl,h2⟩] at es
    walk_at "rd"
    refine RD.ixL (s0.seq hq) (show atI (vsts [h,x,tx "=", v]) ((3:Nat):Int)=some (vst v) from at_n rfl) ?_
    walk_at "rd"
    refine ⟨few,fun p2 n2=>?_⟩
    have t2:=same_new (o := .tup [vst (tx "round"),vst r1,vst r3,vst v]) n2
    walk_at "rd"
    refine ⟨few,fun p3 n3=>?_⟩
    have t3:=same_new (o := .tup [vst r1,vst (tx "half")]) n3
    walk_at "rd"
    refine RD.ixL (((s0.trans t2).trans t3).seq hq) (show atI (vsts [h,x,tx "=", v]) ((3:Nat):Int)=some (vst v) from at_n rfl) ?_
    walk_at "rd"
    refine ⟨few,fun p4 n4=>?_⟩
    have t4:=same_new (o := .tup [vst v,vst r3]) n4
    walk_at "rd"
    refine ⟨few,fun p5 n5=>?_⟩
    have t5:=same_new (o := .lst [V.ref p3,V.ref p4]) n5
    walk_at "rd"
    have t25:=s0.trans (((t2.trans t3).trans t4).trans t5)
    refine mk_form (f:=⟨.round r1 r3 v,[(r1,half),(v,r3)],[]⟩) (sv := .ref p2) (u:=p5) (b:=A.zah) rfl ⟨p2,rfl,st (((t3.trans t4).trans t5) _ _ upd_same)⟩ (pairs2 (H:=H1) ((t4.trans t5) _ _ upd_same) (t5 _ _ upd_same) upd_same) (pairs0 (T.zbq _)) fun H' v s' hf=>?_
    refine q _ _ (t25.trans s') ?_
    rw [es]
    exact hf.past t25
end
end Pf

namespace Pf
open PySem PySem.Spec PyProof.Rows L2 SX RD PR
def TPx (H:Hp) (c:Addr) (p:Tx × Tx):Prop:=H c=some (.tup [vst p.1,vst p.2])
theorem pr_app {α β : Type} {R : α→β→Prop}:∀ {l:List α} {m:List β} {l':List α} {m':List β},Paired R l m→Paired R l' m'→Paired R (l++l') (m++m')
 | _,_,_,_,.nil,h=>h
 | _,_,_,_,.cons r t,h => .cons r (pr_app t h)
theorem lcTP {σ : L2.St} {H:Hp} {Q:VK} {K:PySem.W.Frag} {g:TG} {tt:TT} {te:TE} {vs:List Nat} {a:Addr} {L:List Tx} (hq:SqL K H a (vsts L)) (hz:L.length≤1000) (F:Tx→Tx × Tx)
  (turn:∀ (j:Nat) (x:Tx) H1 (Q':VK) (R':Hp→Prop),L[j]? = some x→Same H H1→(∀ c,H1 c=none→Q' (.ref c) (upd H1 c (.tup [vst (F x).1,vst (F x).2]))) →
   g (vst x) (wipe σ vs) H1 fun σ2 H3=>wipe σ2 vs=wipe σ vs∧tt σ2 H3 fun b H5=>if b=true then te σ2 H5 Q' else R' H5)
  (hd:∀ H' q,H q=none→Same H H'→PairsA K H' q (L.map F)→Q (.ref q) H'):∃ a',V.ref a = .ref a'∧(∃ ys,SqL K H a' ys)∧LR (Itl K a') g tt te vs σ H Q:=by
 refine ⟨a,rfl,⟨_,hq⟩,fun D hD=>?_⟩
 have w:=walk_list (K:=K) (a:=a) (xs:=vsts L)
 rw [vsts_len] at w
 refine lc_it w (fun j H1=>Same H H1∧∃ qs,(∀ c∈qs,c ≠ D)∧H1 D=some (.lst (qs.map V.ref))∧Paired (TPx H1) qs ((L.take j).map F)) ⟨same_new hD,[],(fun c hc=>nomatch hc),upd_same,.nil⟩ (fun j H1 _ hp=>hp.1.seq hq) (fun j x H1 H2 hj hp y=>?_) (fun H1 hp=>?_)
 ·obtain ⟨rfl,y⟩:=y
  obtain ⟨s1,qs,hqs,eD,pq⟩:=hp
  have hL:L[j]? = some L[j]:=List.getElem?_eq_getElem hj
  rw [vsts_at hL] at y
  cases y
  refine turn j L[j] _ _ _ hL s1 fun c nc=>?_
  have Dc:D ≠ c:=ne_of_none eD nc
  have hlen:=paired_len pq
  rw [List.length_map,List.length_take] at hlen
  have t1:=same_new (o := .tup [vst (F L[j]).1,vst (F L[j]).2]) nc
  refine ⟨_,t1 _ _ eD,by rw [List.length_map]; exact szt (by omega),same_mut (s1.trans t1) hD,qs++[c],fun b hb=>?_,by rw [upd_same,List.map_append]; rfl,?_⟩
  ·rcases List.mem_append.mp hb with hb | hb
   ·exact hqs b hb
   ·rw [List.mem_singleton.mp hb]
    exact Dc.symm
  ·rw [take_one hL,List.map_append]
   refine pr_app (paired_imp (fun a b e=>?_) pq) (.cons ?_ .nil)
   ·show (upd _ D _) a=_
    by_cases z:a=D
    ·rw [z] at e
     have e:_=_:=e
     rw [eD] at e
     cases e
    ·rw [upd_ne z]
     exact t1 _ _ e
   ·show (upd _ D _) c=_
    rw [upd_ne Dc.symm,upd_same]
 ·obtain ⟨s1,qs,hqs,eD,pq⟩:=hp
  rw [List.take_length] at pq
  exact hd H1 D hD s1 ⟨qs,eD,paired_imp (fun a b e=>st e) pq⟩
section
variable {P:Program} {w:World} {K:PySem.W.Frag} {mg:Str→Option Value} {base:Heap} {A:Ad}
theorem zji (T:Txt K mg A):FnOk P w K mg base CX0 5 A.zcw A.zct ["words"] (sp_wf A K preC condW):=by
 have zof:=znx (P:=P) (w:=w) (base:=base) T
 have zam:=zcv (P:=P) (w:=w) (base:=base) T
 have zne:=zmy (P:=P) (w:=w) (base:=base) T
 refine T.zd0.ok zjj (fun vs H Q E h=>?_) (fun cdv Ar outer s H vs Q E hr h=>?_)
 ·obtain ⟨a,ws,rfl,_⟩:=h
  rfl
 ·obtain ⟨a,ws,rfl,hq,hb,hz,⟨h,ws,rfl,hh⟩,q⟩:=h
  refine ⟨_,(pss_cons (ps_set (i:=1) zjj.nd rfl (Or.inl rfl) (pe_call zof (hr.mono (by decide)) (by rfl) T.zop T.zfv.kp T.zol .nil pass0 (pa_cons (pe_slice (RD.k_slL (K:=K) rfl) (pv 0) (po_some pe_int) po_none) pa_nil)))
   (pss_cons (ps_if (pt_cmpR op_isN (pv 1) pe_non (nomark _))
   (pss_one (ps_ret pe_non))
   pss_nil)
   (pss_one (ps_ret (pe_make T.zen zam (hr.mono (by decide)) (by rfl) T.zfx T.zcu (.cons (a:=V.ref A.zah) rfl .nil) pass0 (pa_cons (pe_tup (pa_cons (pe_ix (RD.k_ixL (K:=K) rfl) (pv 0) pe_int (fun _ _=>rfl)) (pa_cons (pv 1) pa_nil))) (pa_cons (pe_call zne (hr.mono (by decide)) (by rfl) T.znh T.zeg.kp T.znf .nil pass0 (pa_cons (pv 1) pa_nil)) pa_nil))))))),?_⟩
  show tSeq _ _ _ [some (.ref a),none] H
  have e0:condW (h :: ws)=(condOf ws).map fun c=>⟨if h=tx "given" then .given c else .iff c none,[(c.left.1,half),(c.right.1,half)],[]⟩:=rfl
  walk_at "rd"
  refine RD.slL hq fun p np=>?_
  have ec:cutV (vsts (h :: ws)) (some ((1:Nat):Int)) none=vsts ws:=by
   rw [cut_from]
   rfl
  have ec':cutV (vsts (h :: ws)) (some 1) none=vsts ws:=ec
  rw [ec']
  have t0:=same_new (o := .lst (vsts ws)) np
  walk_at "rd"
  refine ⟨p,ws,rfl,sq upd_same,fun x hx=>hb x (List.mem_cons_of_mem _ hx),fun H2 v s2 hv=>?_⟩
  walk_at "rd"
  refine ⟨rfl,?_⟩
  walk_at "rd"
  cases hc:condOf ws with
  | none =>
   rw [hc] at hv e0
   have hv:v = .non:=hv
   subst hv
   refine RD.decT rfl ?_
   walk_at "rd"
   exact q _ _ (t0.trans s2) (by rw [e0]; rfl)
  | some c =>
   rw [hc] at hv e0
   have hv:CondAt K H2 v c:=hv
   have hv':=hv
   obtain ⟨ca,l,r,rfl,_⟩:=hv'
   refine RD.decF nofun ?_
   walk_at "rd"
   refine RD.ixL ((t0.trans s2).seq hq) (show atI (vsts (h :: ws)) ((0:Nat):Int)=some (vst h) from at_n rfl) ?_
   walk_at "rd"
   refine ⟨few,fun p2 n2=>?_⟩
   have t2:=same_new (o := .tup [vst h,V.ref ca]) n2
   walk_at "rd"
   refine ⟨_,c,rfl,(Kp.same t2).cond hv,fun H3 u s3 hu=>?_⟩
   walk_at "rd"
   have t3:=((t0.trans s2).trans t2).trans s3
   refine mk_form (f:=⟨if h=tx "given" then .given c else .iff c none,[(c.left.1,half),(c.right.1,half)],[]⟩) (sv := .ref p2) (u:=u) (b:=A.zah) rfl ?_ (pairsA_T hu) (pairs0 (T.zbq _)) fun H' v s' hf=>?_
   ·have ct:=s3 _ _ upd_same
    have cc:=(Kp.same (t2.trans s3)).cond hv
    by_cases hg:h=tx "given"
    ·subst hg
     rw [if_pos rfl]
     exact ⟨p2,rfl,_,st ct,cc⟩
    ·rw [if_neg hg]
     have:h=tx "if" := hh.resolve_left hg
     subst this
     exact ⟨p2,rfl,_,st ct,cc⟩
   ·refine q _ _ (t3.trans s') ?_
    rw [e0]
    exact hf.past t3
theorem zm7 (T:Txt K mg A):FnOk P w K mg base CX0 3 A.zfm A.zfg ["words"] (sp_wf A K preN tellW):=by
 have zam:=zcv (P:=P) (w:=w) (base:=base) T
 refine T.zgc.ok zj3 (fun vs H Q E h=>?_) (fun cdv Ar outer s H vs Q E hr h=>?_)
 ·obtain ⟨a,ws,rfl,_⟩:=h
  rfl
 ·obtain ⟨a,ws,rfl,hq,hb,hz,hn,q⟩:=h
  refine ⟨_,(pss_cons (ps_if (pt_not (pt_chain op_le op_le pe_int (pe_callB (RD.k_len (K:=K) rfl) (by rfl) T.zau (by decide +kernel) (pa_cons (pv 0) pa_nil)) pe_int))
   (pss_one (ps_ret pe_non))
   pss_nil)
   (pss_one (ps_ret (pe_make T.zen zam (hr.mono (by decide)) (by rfl) T.zfx T.zcu (.cons (a:=V.ref A.zah) rfl .nil) pass0 (pa_cons (pe_tup (pa_cons pe_str (pa_cons (pe_callTy (RD.k_tupOf (K:=K) rfl) (by rfl) T.zig (by decide +kernel) (pa_cons (pe_slice (RD.k_slL (K:=K) rfl) (pv 0) (po_some pe_int) po_none) pa_nil)) pa_nil))) (pa_cons (pe_lc (own:=[("name", 1)]) (g:=gName 1) (by rfl) zj3.nd (RD.k_pil (K:=K) rfl (pe_slice (RD.k_slL (K:=K) rfl) (pv 0) (po_some pe_int) po_none)) (blkOk_by (own:=[("name", 1)]) (N:=["words", "name"]) (sc:=defScope zhq) (by decide +kernel)) (fun _ _ _ _ _=>(pg_name (i:=1) zj3.nd rfl (Or.inl rfl))) (fun _ _ _ _ _=>pts_nil) (fun _ _ _ _ _=>(pe_tup (pa_cons (pv 1) (pa_cons (RD.pe_gl (by rfl) T.zdp) pa_nil))))) pa_nil)))))),?_⟩
  show tSeq _ _ _ [some (.ref a),none] H
  obtain ⟨h,ws,rfl⟩:∃ h r,ws=h :: r:=by
   cases ws with
   | nil=>exact absurd (show 1≤0 from hn) (by decide)
   | cons h r=>exact ⟨h,r,rfl⟩
  have ec:cutV (vsts (h :: ws)) (some ((1:Nat):Int)) none=vsts ws:=by
   rw [cut_from]
   rfl
  have ec':cutV (vsts (h :: ws)) (some 1) none=vsts ws:=ec
  have no:¬ (1≤ws.length∧ws.length≤3)→∀ H',Same H H'→Q .non H':=fun e H' s=>q H' _ s (by rw [show tellW (h :: ws)=tellF ws from rfl,tellF,if_neg e]; rfl)
  walk_at "rd"
  refine RD.len hq ?_
  rw [vsts_len]
  walk_at "rd"
  refine RD.dec (fun h1=>?_) (fun h1=>?_)
  ·walk_at "rd"
   by_cases h4:((h :: ws).length:Int)≤4
   ·rw [decide_eq_true h4]
    rw [List.length_cons] at h1 h4
    walk_at "rn"
    refine RD.slL hq fun p np=>?_
    rw [ec']
    have t0:=same_new (o := .lst (vsts ws)) np
    walk_at "rd"
    refine RD.tupL (sq upd_same) fun p1 n1=>?_
    have t1:=same_new (o := .tup (vsts ws)) n1
    walk_at "rd"
    refine ⟨few,fun p2 n2=>?_⟩
    have t2:=same_new (o := .tup [vst (tx "tell"),V.ref p1]) n2
    walk_at "rd"
    have t02:=(t0.trans t1).trans t2
    refine RD.slL (t02.seq hq) fun p3 n3=>?_
    rw [ec']
    have t3:=same_new (o := .lst (vsts ws)) n3
    walk_at "rd"
    refine lcTP (sq upd_same) (by omega) (fun x=>(x,half)) (fun j x H1 Q' R' hx s1 kT=>?_) (fun H1 u nu s1 hu=>?_)
    ·walk_at "wp"
     walk_at "rd"
     refine ⟨rfl,?_⟩
     walk_at "rd"
     exact ⟨few,fun c nc=>kT c nc⟩
    ·walk_at "rd"
     have t13:=(t02.trans t3).trans s1
     refine mk_form (f:=⟨.tell ws,ws.map fun x=>(x,half),[]⟩) (sv := .ref p2) (u:=u) (b:=A.zah) rfl ⟨p2,rfl,p1,st ((t3.trans s1) _ _ upd_same),st (((t2.trans t3).trans s1) _ _ upd_same)⟩ (pairsA_T hu) (pairs0 (T.zbq _)) fun H' v s' hf=>?_
     refine q _ _ (t13.trans s') ?_
     rw [show tellW (h :: ws)=tellF ws from rfl,tellF,if_pos (by omega)]
     exact hf.past t13
   ·rw [decide_eq_false h4]
    rw [List.length_cons] at h4
    walk_at "rn"
    exact no (by omega) _ (Same.refl _)
  ·rw [List.length_cons] at h1
   walk_at "rn"
   exact no (by omega) _ (Same.refl _)
end
end Pf

namespace Pf
open PySem PySem.Spec PyProof.Rows L2 SX RD PR
def sp_form_of (A:Ad) (K:PySem.W.Frag):Sp:=fun vs H Q _=>∃ t:Tx,vs=[vst t]∧t.length≤10000∧∀ H' v,Same H H'→OptAt (FormAt A K H H') v (formOf t)→Q v H'
section
variable {P:Program} {w:World} {K:PySem.W.Frag} {mg:Str→Option Value} {base:Heap} {A:Ad}
theorem opt_past {H1 H0 H:Hp} {v:V} (s:Same H1 H0):∀ {o:Option Form},OptAt (FormAt A K H0 H) v o→OptAt (FormAt A K H1 H) v o
 | none,h=>h
 | some _,h=>FormAt.past s h
theorem two_of {ws:List Tx} (h:ws.length=2):∃ a b,ws=[a,b]:=by
 match ws,h with
 | [a,b],_=>exact ⟨a,b,rfl⟩
theorem one_of {ws:List Tx} (h:ws.length=1):∃ a,ws=[a]:=by
 match ws,h with
 | [a],_=>exact ⟨a,rfl⟩
theorem zqv (T:Txt K mg A):FnOk P w K mg base CX0 6 A.zg0 A.zg6 ["line"] (sp_form_of A K):=by
 have zh7:=zji (P:=P) (w:=w) (base:=base) T
 have zl0:=znj (P:=P) (w:=w) (base:=base) T
 have zp3:=zo5 (P:=P) (w:=w) (base:=base) T
 have zlb:=zm7 (P:=P) (w:=w) (base:=base) T
 have zam:=zcv (P:=P) (w:=w) (base:=base) T
 have zpw:=zo4 (P:=P) (w:=w) (base:=base) T
 refine T.zi4.ok zlx (fun vs H Q E h=>?_) (fun cdv Ar outer s H vs Q E hr h=>?_)
 ·obtain ⟨t,rfl,_⟩:=h
  rfl
 ·obtain ⟨t,rfl,hl,q⟩:=h
  refine ⟨_,(pss_cons (ps_set (i:=1) zlx.nd rfl (Or.inl rfl) (RD.k_split (pv 0) pe_str))
   (pss_cons (ps_set (i:=2) zlx.nd rfl (Or.inl rfl) (pe_ix (RD.k_ixL (K:=K) rfl) (pv 1) pe_int (fun _ _=>rfl)))
   (RD.pss_cut (ps_if (pt_cmpR (RD.k_in (K:=K) rfl) (pv 2) (pe_tup (pa_cons pe_str (pa_cons pe_str pa_nil))) (by rfl))
   (pss_one (ps_ret (pe_call zh7 (hr.mono (by decide)) (by rfl) T.zka T.zd0.kp T.zko .nil pass0 (pa_cons (pv 1) pa_nil))))
   pss_nil)
   (RD.pss_cut (ps_if (pt_cmpR op_eq (pv 2) pe_str (nomark _))
   (pss_one (ps_ret (pe_call zl0 (hr.mono (by decide)) (by rfl) T.zn5 T.zhe.kp T.zn1 .nil pass0 (pa_cons (pv 1) pa_nil))))
   pss_nil)
   (RD.pss_cut (ps_if (pt_cmpR op_eq (pv 2) pe_str (nomark _))
   (pss_one (ps_ret (pe_call zp3 (hr.mono (by decide)) (by rfl) T.zp2 T.zg4.kp T.zpx .nil pass0 (pa_cons (pv 1) pa_nil))))
   pss_nil)
   (RD.pss_cut (ps_if (pt_cmpR op_eq (pv 2) pe_str (nomark _))
   (pss_one (ps_ret (pe_call zlb (hr.mono (by decide)) (by rfl) T.znl T.zgc.kp T.znm .nil pass0 (pa_cons (pv 1) pa_nil))))
   pss_nil)
   (RD.pss_cut (ps_if (PW.pt (pw_and (pt_cmpR op_eq (pv 2) pe_str (nomark _)) (pw_and1 (pt_cmpR op_eq (pe_callB (RD.k_len (K:=K) rfl) (by rfl) T.zau (by decide +kernel) (pa_cons (pv 1) pa_nil)) pe_int (nomark _)))))
   (pss_one (ps_ret (pe_make T.zen zam (hr.mono (by decide)) (by rfl) T.zfx T.ze7 .nil pass0 (pa_cons (pe_tup (pa_cons pe_str (pa_cons (pe_ix (RD.k_ixL (K:=K) rfl) (pv 1) pe_int (fun _ _=>rfl)) (pa_cons (pe_ix (RD.k_ixL (K:=K) rfl) (pv 1) pe_int (fun _ _=>rfl)) pa_nil)))) (pa_cons (pe_tup pa_nil) (pa_cons (pe_lst (pa_cons (pe_tup (pa_cons (pe_ix (RD.k_ixL (K:=K) rfl) (pv 1) pe_int (fun _ _=>rfl)) (pa_cons (RD.pe_gl (by rfl) T.zdp) pa_nil))) (pa_cons (pe_tup (pa_cons (pe_ix (RD.k_ixL (K:=K) rfl) (pv 1) pe_int (fun _ _=>rfl)) (pa_cons (RD.pe_gl (by rfl) T.zdp) pa_nil))) pa_nil))) pa_nil))))))
   pss_nil)
   (RD.pss_cut (ps_if (PW.pt (pw_and (pt_cmpR op_eq (pv 2) pe_str (nomark _)) (pw_and1 (pt_cmpR op_eq (pe_callB (RD.k_len (K:=K) rfl) (by rfl) T.zau (by decide +kernel) (pa_cons (pv 1) pa_nil)) pe_int (nomark _)))))
   (pss_one (ps_ret (pe_make T.zen zam (hr.mono (by decide)) (by rfl) T.zfx T.zcu (.cons (a:=V.ref A.zah) rfl .nil) pass0 (pa_cons (pe_tup (pa_cons pe_str (pa_cons (pe_ix (RD.k_ixL (K:=K) rfl) (pv 1) pe_int (fun _ _=>rfl)) pa_nil))) (pa_cons (pe_lst (pa_cons (pe_tup (pa_cons (pe_ix (RD.k_ixL (K:=K) rfl) (pv 1) pe_int (fun _ _=>rfl)) (pa_cons pe_str pa_nil))) pa_nil)) pa_nil)))))
   pss_nil)
   (RD.pss_cut (ps_if (PW.pt (pw_and (pt_cmpR op_eq (pv 2) pe_str (nomark _)) (pw_and (pt_cmpR op_eq (pe_callB (RD.k_len (K:=K) rfl) (by rfl) T.zau (by decide +kernel) (pa_cons (pv 1) pa_nil)) pe_int (nomark _)) (pw_and1 (pt_cmpR (RD.k_in (K:=K) rfl) (pe_ix (RD.k_ixL (K:=K) rfl) (pv 1) pe_int (fun _ _=>rfl)) (pe_glob (v := .ref A.zcy) rfl T.zcy rfl) (by rfl))))))
   (pss_one (ps_ret (pe_make T.zen zam (hr.mono (by decide)) (by rfl) T.zfx T.ze7 .nil pass0 (pa_cons (pe_tup (pa_cons pe_str (pa_cons (pe_ix (RD.k_ixL (K:=K) rfl) (pv 1) pe_int (fun _ _=>rfl)) (pa_cons (pe_ix (RD.k_ixL (K:=K) rfl) (pv 1) pe_int (fun _ _=>rfl)) pa_nil)))) (pa_cons (pe_tup pa_nil) (pa_cons (pe_lst (pa_cons (pe_tup (pa_cons (pe_ix (RD.k_ixL (K:=K) rfl) (pv 1) pe_int (fun _ _=>rfl)) (pa_cons (pe_ix (RD.k_ixL (K:=K) rfl) (pv 1) pe_int (fun _ _=>rfl)) pa_nil))) pa_nil)) pa_nil))))))
   pss_nil)
   (RD.pss_cut (ps_if (pt_cmpR (RD.k_in (K:=K) rfl) (pv 0) (pe_tup (pa_cons pe_str (pa_cons pe_str pa_nil))) (by rfl))
   (pss_one (ps_ret (pe_make T.zen zam (hr.mono (by decide)) (by rfl) T.zfx T.znp (.cons (a:=V.ref A.zb1) rfl (.cons (a:=V.ref A.zah) rfl .nil)) pass0 (pa_cons (pe_tup (pa_cons (pv 0) pa_nil)) pa_nil))))
   pss_nil)
   (RD.pss_cut (ps_if (PW.pt (pw_and (pt_cmpR op_eq (pe_callB (RD.k_len (K:=K) rfl) (by rfl) T.zau (by decide +kernel) (pa_cons (pv 1) pa_nil)) pe_int (nomark _)) (pw_and1 (pt_cmpR op_eq (pe_ix (RD.k_ixL (K:=K) rfl) (pv 1) pe_int (fun _ _=>rfl)) pe_str (nomark _)))))
   (pss_one (ps_ret (pe_call zpw (hr.mono (by decide)) (by rfl) T.zp4 T.zg2.kp T.zpu .nil pass0 (pa_cons (pv 1) pa_nil))))
   pss_nil)
   (pss_one (ps_ret pe_non))))))))))))),?_⟩
  show tSeq _ _ _ [some (vst t),none,none] H
  walk_at "rd"
  refine ⟨⟨_,rfl⟩,?_⟩
  walk_at "rd"
  rw [tspc]
  refine RD.splt (by decide) (by omega) fun a na=>?_
  have hc:=spc_cnt 32 t
  have hn:=spc_ne 32 t
  have hbb:=spc_len 32 t
  rw [show TL.spl [32] 0 [] t=spc 32 t from rfl]
  cases es:spc 32 t with
  | nil=>exact absurd es hn
  | cons h ws =>
   rw [es] at hc hbb
   have e0:formOf t=fw0 t h ws:=by
    unfold formOf
    rw [es]
    rfl
   have hb:∀ x∈h :: ws,x.length≤10000:=fun x hx=>Nat.le_trans (hbb x hx) hl
   have hz:(h :: ws).length≤11000:=by omega
   rw [e0] at q
   have s0:=same_new (o := .lst (vsts (h :: ws))) na
   have hq:SqL K _ a (vsts (h :: ws)):=sq (upd_same (H:=H) (a:=a) (o := .lst (vsts (h :: ws))))
   revert s0 hq
   generalize upd H a (.lst (vsts (h :: ws)))=H0
   intro s0 hq
   walk_at "rd"
   refine RD.ixL hq (show atI (vsts (h :: ws)) ((0:Nat):Int)=some (vst h) from at_n rfl) ?_
   walk_at "rd"
   refine RD.cut (fun σ H'=>σ = [some (vst t),some (.ref a),some (vst h)]∧Same H H'∧SqL K H' a (vsts (h :: ws))∧fw0 t h ws=fw1 t h ws) ?_ ?_
   ·walk_at "rd"
    refine ⟨few,fun p1 n1=>?_⟩
    have t1:=same_new (o := .tup [vst (tx "given"),vst (tx "if")]) n1
    refine RD.inT (ls:=[tx "given", tx "if"]) (st upd_same) ?_
    walk_at "rd"
    refine RD.dec (fun h1=>?_) (fun h1=>?_)
    ·walk_at "rd"
     refine ⟨a,h :: ws,rfl,t1.seq hq,hb,hz,⟨h,ws,rfl,by simpa using h1⟩,fun H' v s' hv=>?_⟩
     refine q _ _ ((s0.trans t1).trans s') ?_
     rw [fw0,if_pos (by simpa using h1)]
     exact opt_past (s0.trans t1) hv
    ·walk_at "rd"
     exact ⟨rfl,s0.trans t1,t1.seq hq,if_neg (by simpa using h1)⟩
   rintro σ H1 ⟨rfl,s1,hq1,e1⟩
   rw [e1] at q
   refine RD.cut (fun σ H'=>σ = [some (vst t),some (.ref a),some (vst h)]∧H'=H1∧fw1 t h ws=fw2 t h ws) ?_ ?_
   ·walk_at "rd"
    refine RD.dec (fun h1=>?_) (fun h1=>?_)
    ·walk_at "rd"
     refine ⟨a,h :: ws,rfl,hq1,hb,hz,trivial,fun H' v s' hv=>?_⟩
     refine q _ _ (s1.trans s') ?_
     rw [fw1,if_pos h1]
     exact opt_past s1 hv
    ·walk_at "rd"
     exact ⟨rfl,rfl,if_neg h1⟩
   rintro σ H2 ⟨rfl,rfl,e2⟩
   rw [e2] at q
   refine RD.cut (fun σ H'=>σ = [some (vst t),some (.ref a),some (vst h)]∧H'=H2∧fw2 t h ws=fw3 t h ws) ?_ ?_
   ·walk_at "rd"
    refine RD.dec (fun h1=>?_) (fun h1=>?_)
    ·walk_at "rd"
     refine ⟨a,h :: ws,rfl,hq1,hb,hz,trivial,fun H' v s' hv=>?_⟩
     refine q _ _ (s1.trans s') ?_
     rw [fw2,if_pos h1]
     exact opt_past s1 hv
    ·walk_at "rd"
     exact ⟨rfl,rfl,if_neg h1⟩
   rintro σ H2 ⟨rfl,rfl,e3⟩
   rw [e3] at q
   refine RD.cut (fun σ H'=>σ = [some (vst t),some (.ref a),some (vst h)]∧H'=H2∧fw3 t h ws=fw4 t h ws) ?_ ?_
   ·walk_at "rd"
    refine RD.dec (fun h1=>?_) (fun h1=>?_)
    ·walk_at "rd"
     refine ⟨a,h :: ws,rfl,hq1,hb,hz,Nat.succ_le_succ (Nat.zero_le _),fun H' v s' hv=>?_⟩
     refine q _ _ (s1.trans s') ?_
     rw [fw3,if_pos h1]
     exact opt_past s1 hv
    ·walk_at "rd"
     exact ⟨rfl,rfl,if_neg h1⟩
   rintro σ H2 ⟨rfl,rfl,e4⟩
   rw [e4] at q
   refine RD.cut (fun σ H'=>σ = [some (vst t),some (.ref a),some (vst h)]∧H'=H2∧fw4 t h ws=fw5 t h ws) ?_ ?_
   ·walk_at "rd"
    refine RD.dec (fun h1=>?_) (fun h1=>?_)
    ·walk_at "rd"
     refine RD.len hq1 ?_
     rw [vsts_len]
     walk_at "rd"
     refine RD.dec (fun h2=>?_) (fun h2=>?_)
     ·obtain ⟨x,y,rfl⟩:=two_of (show ws.length=2 by rw [List.length_cons] at h2; omega)
      walk_at "rd"
      refine RD.ixL hq1 (show atI (vsts [h,x,y]) ((1:Nat):Int)=some (vst x) from at_n rfl) ?_
      walk_at "rd"
      refine RD.ixL hq1 (show atI (vsts [h,x,y]) ((2:Nat):Int)=some (vst y) from at_n rfl) ?_
      walk_at "rd"
      refine ⟨few,fun p1 n1=>?_⟩
      have t1:=same_new (o := .tup [vst (tx "make"),vst x,vst y]) n1
      walk_at "rd"
      refine ⟨few,fun p2 n2=>?_⟩
      have t2:=same_new (o := .tup []) n2
      walk_at "rd"
      refine RD.ixL ((t1.trans t2).seq hq1) (show atI (vsts [h,x,y]) ((1:Nat):Int)=some (vst x) from at_n rfl) ?_
      walk_at "rd"
      refine ⟨few,fun p3 n3=>?_⟩
      have t3:=same_new (o := .tup [vst x,vst (tx "half")]) n3
      walk_at "rd"
      refine RD.ixL (((t1.trans t2).trans t3).seq hq1) (show atI (vsts [h,x,y]) ((2:Nat):Int)=some (vst y) from at_n rfl) ?_
      walk_at "rd"
      refine ⟨few,fun p4 n4=>?_⟩
      have t4:=same_new (o := .tup [vst y,vst (tx "half")]) n4
      walk_at "rd"
      refine ⟨few,fun p5 n5=>?_⟩
      have t5:=same_new (o := .lst [V.ref p3,V.ref p4]) n5
      walk_at "rd"
      have t15:=s1.trans (t1.trans (((t2.trans t3).trans t4).trans t5))
      refine mk_form (f:=⟨.make x y,[],[(x,half),(y,half)]⟩) (sv := .ref p1) (u:=p2) (b:=p5) rfl ⟨p1,rfl,st ((((t2.trans t3).trans t4).trans t5) _ _ upd_same)⟩ (pairs0 (st (((t3.trans t4).trans t5) _ _ upd_same))) (pairs2 (H:=H) ((t4.trans t5) _ _ upd_same) (t5 _ _ upd_same) upd_same) fun H' v s' hf=>?_
      refine q _ _ (t15.trans s') ?_
      rw [fw4,if_pos ⟨h1,rfl⟩]
      exact hf.past t15
     ·walk_at "rd"
      exact ⟨rfl,rfl,if_neg fun z=>h2 (by rw [List.length_cons,z.2]; rfl)⟩
    ·walk_at "rd"
     exact ⟨rfl,rfl,if_neg fun z=>h1 z.1⟩
   rintro σ H2 ⟨rfl,rfl,e5⟩
   rw [e5] at q
   refine RD.cut (fun σ H'=>σ = [some (vst t),some (.ref a),some (vst h)]∧H'=H2∧fw5 t h ws=fw6 t h ws) ?_ ?_
   ·walk_at "rd"
    refine RD.dec (fun h1=>?_) (fun h1=>?_)
    ·walk_at "rd"
     refine RD.len hq1 ?_
     rw [vsts_len]
     walk_at "rd"
     refine RD.dec (fun h2=>?_) (fun h2=>?_)
     ·obtain ⟨x,rfl⟩:=one_of (show ws.length=1 by rw [List.length_cons] at h2; omega)
      walk_at "rd"
      refine RD.ixL hq1 (show atI (vsts [h,x]) ((1:Nat):Int)=some (vst x) from at_n rfl) ?_
      walk_at "rd"
      refine ⟨few,fun p1 n1=>?_⟩
      have t1:=same_new (o := .tup [vst (tx "drop"),vst x]) n1
      walk_at "rd"
      refine RD.ixL (t1.seq hq1) (show atI (vsts [h,x]) ((1:Nat):Int)=some (vst x) from at_n rfl) ?_
      walk_at "rd"
      refine ⟨few,fun p2 n2=>?_⟩
      have t2:=same_new (o := .tup [vst x,vst (tx "any")]) n2
      walk_at "rd"
      refine ⟨few,fun p3 n3=>?_⟩
      have t3:=same_new (o := .lst [V.ref p2]) n3
      walk_at "rd"
      have t15:=s1.trans ((t1.trans t2).trans t3)
      refine mk_form (f:=⟨.drop x none,[(x,tx "any")],[]⟩) (sv := .ref p1) (u:=p3) (b:=A.zah) rfl ⟨p1,rfl,st ((t2.trans t3) _ _ upd_same)⟩ (pairs1 (H:=H) (t3 _ _ upd_same) upd_same) (pairs0 (T.zbq _)) fun H' v s' hf=>?_
      refine q _ _ (t15.trans s') ?_
      rw [fw5,if_pos ⟨h1,rfl⟩]
      exact hf.past t15
     ·walk_at "rd"
      exact ⟨rfl,rfl,if_neg fun z=>h2 (by rw [List.length_cons,z.2]; rfl)⟩
    ·walk_at "rd"
     exact ⟨rfl,rfl,if_neg fun z=>h1 z.1⟩
   rintro σ H2 ⟨rfl,rfl,e6⟩
   rw [e6] at q
   refine RD.cut (fun σ H'=>σ = [some (vst t),some (.ref a),some (vst h)]∧H'=H2∧fw6 t h ws=fw7 t h ws) ?_ ?_
   ·walk_at "rd"
    refine RD.dec (fun h1=>?_) (fun h1=>?_)
    ·walk_at "rd"
     refine RD.len hq1 ?_
     rw [vsts_len]
     walk_at "rd"
     refine RD.dec (fun h2=>?_) (fun h2=>?_)
     ·obtain ⟨x,y,rfl⟩:=two_of (show ws.length=2 by rw [List.length_cons] at h2; omega)
      walk_at "rd"
      refine RD.ixL hq1 (show atI (vsts [h,x,y]) ((1:Nat):Int)=some (vst x) from at_n rfl) ?_
      walk_at "rd"
      refine RD.inT (ls:=kinds) (by rw [← vsts_kinds]; exact T.zj1 _) ?_
      walk_at "rd"
      refine RD.dec (fun h3=>?_) (fun h3=>?_)
      ·walk_at "rd"
       refine RD.ixL hq1 (show atI (vsts [h,x,y]) ((1:Nat):Int)=some (vst x) from at_n rfl) ?_
       walk_at "rd"
       refine RD.ixL hq1 (show atI (vsts [h,x,y]) ((2:Nat):Int)=some (vst y) from at_n rfl) ?_
       walk_at "rd"
       refine ⟨few,fun p1 n1=>?_⟩
       have t1:=same_new (o := .tup [vst (tx "new"),vst x,vst y]) n1
       walk_at "rd"
       refine ⟨few,fun p2 n2=>?_⟩
       have t2:=same_new (o := .tup []) n2
       walk_at "rd"
       refine RD.ixL ((t1.trans t2).seq hq1) (show atI (vsts [h,x,y]) ((2:Nat):Int)=some (vst y) from at_n rfl) ?_
       walk_at "rd"
       refine RD.ixL ((t1.trans t2).seq hq1) (show atI (vsts [h,x,y]) ((1:Nat):Int)=some (vst x) from at_n rfl) ?_
       walk_at "rd"
       refine ⟨few,fun p3 n3=>?_⟩
       have t3:=same_new (o := .tup [vst y,vst x]) n3
       walk_at "rd"
       refine ⟨few,fun p4 n4=>?_⟩
       have t4:=same_new (o := .lst [V.ref p3]) n4
       walk_at "rd"
       have t15:=s1.trans (t1.trans ((t2.trans t3).trans t4))
       refine mk_form (f:=⟨.new x y,[],[(y,x)]⟩) (sv := .ref p1) (u:=p2) (b:=p4) rfl ⟨p1,rfl,st (((t2.trans t3).trans t4) _ _ upd_same)⟩ (pairs0 (st ((t3.trans t4) _ _ upd_same))) (pairs1 (H:=H) (t4 _ _ upd_same) upd_same) fun H' v s' hf=>?_
       refine q _ _ (t15.trans s') ?_
       rw [fw6,if_pos ⟨h1,rfl,h3⟩]
       exact hf.past t15
      ·walk_at "rd"
       exact ⟨rfl,rfl,if_neg fun z=>h3 z.2.2⟩
     ·walk_at "rd"
      exact ⟨rfl,rfl,if_neg fun z=>h2 (by rw [List.length_cons,z.2.1]; rfl)⟩
    ·walk_at "rd"
     exact ⟨rfl,rfl,if_neg fun z=>h1 z.1⟩
   rintro σ H2 ⟨rfl,rfl,e7⟩
   rw [e7] at q
   refine RD.cut (fun σ H'=>σ = [some (vst t),some (.ref a),some (vst h)]∧Same H H'∧SqL K H' a (vsts (h :: ws))∧fw7 t h ws=fw8 h ws) ?_ ?_
   ·walk_at "rd"
    refine ⟨few,fun p1 n1=>?_⟩
    have t1:=same_new (o := .tup [vst (tx "else"),vst (tx "end")]) n1
    refine RD.inT (ls:=[tx "else", tx "end"]) (st upd_same) ?_
    walk_at "rd"
    refine RD.dec (fun h1=>?_) (fun h1=>?_)
    ·walk_at "rd"
     refine ⟨few,fun p2 n2=>?_⟩
     have t2:=same_new (o := .tup [vst t]) n2
     walk_at "rd"
     have t12:=(s1.trans t1).trans t2
     have e:fw7 t h ws=some ⟨if t=tx "else" then .els none else .fin,[],[]⟩:=by
      unfold fw7
      by_cases z:t=tx "else"
      ·rw [if_pos z,if_pos z]
      ·rw [if_neg z,if_neg z,if_pos ((by simpa using h1:t=tx "else" ∨ t=tx "end").resolve_left z)]
     refine mk_form (f:=⟨if t=tx "else" then .els none else .fin,[],[]⟩) (sv := .ref p2) (u:=A.zb1) (b:=A.zah) rfl ?_ (pairs0 (T.zmv _)) (pairs0 (T.zbq _)) fun H' v s' hf=>?_
     ·by_cases z:t=tx "else"
      ·subst z
       rw [if_pos rfl]
       exact ⟨p2,rfl,st upd_same⟩
      ·rw [if_neg z]
       have:=(by simpa using h1:t=tx "else" ∨ t=tx "end").resolve_left z
       subst this
       exact ⟨p2,rfl,st upd_same⟩
     ·refine q _ _ (t12.trans s') ?_
      rw [e]
      exact hf.past t12
    ·walk_at "rd"
     have h1':¬ (t=tx "else" ∨ t=tx "end"):=by simpa using h1
     refine ⟨rfl,s1.trans t1,t1.seq hq1,?_⟩
     rw [fw7,if_neg (fun z=>h1' (.inl z)),if_neg (fun z=>h1' (.inr z))]
   rintro σ H3 ⟨rfl,s3,hq3,e8⟩
   rw [e8] at q
   refine RD.cut (fun σ H'=>H'=H3∧fw8 h ws=none) ?_ ?_
   ·walk_at "rd"
    refine RD.len hq3 ?_
    rw [vsts_len]
    walk_at "rd"
    refine RD.dec (fun h2=>?_) (fun h2=>?_)
    ·obtain ⟨x,y,rfl⟩:=two_of (show ws.length=2 by rw [List.length_cons] at h2; omega)
     walk_at "rd"
     refine RD.ixL hq3 (show atI (vsts [h,x,y]) ((1:Nat):Int)=some (vst x) from at_n rfl) ?_
     walk_at "rd"
     refine RD.dec (fun h3=>?_) (fun h3=>?_)
     ·walk_at "rd"
      refine ⟨a,[h,x,y],rfl,hq3,hb,hz,rfl,fun H' v s' hv=>?_⟩
      refine q _ _ (s3.trans s') ?_
      rw [fw8,if_pos ⟨rfl,h3⟩]
      exact opt_past s3 hv
     ·walk_at "rd"
      exact ⟨rfl,if_neg fun z=>h3 z.2⟩
    ·walk_at "rd"
     exact ⟨rfl,if_neg fun z=>h2 (by rw [List.length_cons,z.1]; rfl)⟩
   rintro σ H4 ⟨rfl,e9⟩
   walk_at "rd"
   exact q _ _ s3 (by rw [e9]; rfl)
end
end Pf

namespace Pf
open PySem PySem.Spec PyProof.Rows L2 SX RD PR
def sp_right:Sp:=fun vs H Q _=>∃ k n:Tx,vs=[vst k,vst n]∧∀ H',Same H H'→Q (.bl (rightK k n)) H'
def NewL (H0 H:Hp) (v:V) (ns:List Tx):Prop:=∃ a,v = .ref a∧H0 a=none∧H a=some (.lst (vsts ns))
def sp_first:Sp:=fun vs H Q _=>∃ t wd:Tx,vs=[vst t,vst wd]∧t.length≤10000∧∀ H' v,Same H H'→OptAt (NewL H H') v (firstL t wd)→Q v H'
section
variable {P:Program} {w:World} {K:PySem.W.Frag} {mg:Str→Option Value} {base:Heap} {A:Ad}
theorem znu (T:Txt K mg A):FnOk P w K mg base CX0 1 A.zdi A.zdc ["kind", "needed"] (sp_right):=by
 refine T.ze8.ok znt (fun vs H Q E h=>?_) (fun cdv Ar outer s H vs Q E hr h=>?_)
 ·obtain ⟨k,n,rfl,_⟩:=h
  rfl
 ·obtain ⟨k,n,rfl,q⟩:=h
  refine ⟨_,(pss_cons (ps_if (pt_cmpR op_eq (pv 1) pe_str (nomark _))
   (pss_one (ps_ret (pe_cmpR (RD.k_in (K:=K) rfl) (pv 0) (pe_glob (v := .ref A.zcy) rfl T.zcy rfl) (by rfl))))
   pss_nil)
   (pss_one (ps_ret (pe_cmpR (RD.k_in (K:=K) rfl) (pv 1) (pe_tup (pa_cons (pv 0) (pa_cons pe_str pa_nil))) (by rfl))))),?_⟩
  show tSeq _ _ _ [some (vst k),some (vst n)] H
  walk_at "rd"
  refine RD.dec (fun h1=>?_) (fun h1=>?_)
  ·walk_at "rd"
   refine RD.inT (ls:=kinds) (by rw [← vsts_kinds]; exact T.zj1 _) ?_
   have e:rightK k n=decide (k∈kinds):=if_pos h1
   rw [← e]
   exact q _ (Same.refl _)
  ·walk_at "rd"
   refine ⟨few,fun p np=>?_⟩
   refine RD.inT (ls:=[k,tx "any"]) (st upd_same) ?_
   have e:rightK k n=decide (n∈[k,tx "any"]):=by
    rw [rightK,if_neg h1]
    simp
   rw [← e]
   exact q _ (same_new np)
theorem zmb (T:Txt K mg A):FnOk P w K mg base CX0 3 A.zex A.zeo ["line", "word"] (sp_first):=by
 have zms:=zn4 (P:=P) (w:=w) (base:=base) T
 refine T.zfs.ok zf9 (fun vs H Q E h=>?_) (fun cdv Ar outer s H vs Q E hr h=>?_)
 ·obtain ⟨t,wd,rfl,_⟩:=h
  rfl
 ·obtain ⟨t,wd,rfl,hl,q⟩:=h
  refine ⟨_,(pss_cons (ps_asg (RD.k_split (pv 0) pe_str) (RD.k_star (K:=K) rfl (pgs_cons (pg_name (i:=2) zf9.nd rfl (Or.inl rfl)) (RD.pgs_star (pg_name (i:=3) zf9.nd rfl (Or.inl rfl)) pgs_nil))))
   (RD.pss_cut (ps_if (PW.pt (pw_or (pt_cmpR op_ne (pv 2) (pv 1) (nomark _)) (pw_or (pt_not (pt_chain op_le op_le pe_int (pe_callB (RD.k_len (K:=K) rfl) (by rfl) T.zau (by decide +kernel) (pa_cons (pv 3) pa_nil)) pe_int)) (pw_or1 (RD.k_tru (K:=K) rfl (pe_lc (own:=[("name", 4)]) (g:=gName 4) (by rfl) zf9.nd (RD.k_pil (K:=K) rfl (pv 3)) (blkOk_by (own:=[("name", 4)]) (N:=["line", "word", "head", "names", "name"]) (sc:=defScope zha) (by decide +kernel)) (fun _ _ _ _ _=>(pg_name (i:=4) zf9.nd rfl (Or.inl rfl))) (fun _ _ _ _ _=>(pts_one (pt_not (pt_val (pe_call zms (hr.mono (by decide)) (by rfl) T.zo3 T.zie.kp T.zoz .nil pass0 (pa_cons (pv 4) pa_nil)))))) (fun _ _ _ _ _=>(pv 4))) (by intro _; rfl))))))
   (pss_one (ps_ret pe_non))
   pss_nil)
   (pss_cons (ps_if (pt_cmpR op_lt (RDT.k_lenSetT (K:=K) rfl (by rfl) T.zau (by rfl) T.zsa (pe_slice (RD.k_slL (K:=K) rfl) (pv 3) (po_some pe_int) po_none)) (pe_op op_sub (pe_callB (RD.k_len (K:=K) rfl) (by rfl) T.zau (by decide +kernel) (pa_cons (pv 3) pa_nil)) pe_int) (nomark _))
   (pss_one (ps_ret pe_non))
   pss_nil)
   (pss_one (ps_ret (pv 3)))))),?_⟩
  show tSeq _ _ _ [some (vst t),some (vst wd),none,none,none] H
  walk_at "rd"
  refine ⟨⟨_,rfl⟩,?_⟩
  walk_at "rd"
  rw [tspc]
  refine RD.splt (by decide) (by omega) fun p np=>?_
  have hc:=spc_cnt 32 t
  have hn:=spc_ne 32 t
  have hb:=spc_len 32 t
  rw [show TL.spl [32] 0 [] t=spc 32 t from rfl]
  cases es:spc 32 t with
  | nil=>exact absurd es hn
  | cons hd ns =>
   rw [es] at hc hb
   rw [List.length_cons] at hc
   have e0:firstL t wd=if hd=wd∧2≤ns.length∧ns.length≤4∧(∀ n∈ns,isName n=true)∧(ns.drop 1).Nodup then some ns else none:=by
    unfold firstL
    rw [es]
   have no:¬ (hd=wd∧2≤ns.length∧ns.length≤4∧(∀ n∈ns,isName n=true)∧(ns.drop 1).Nodup)→∀ H',Same H H'→Q .non H':=fun z H' s=>q H' _ s (by rw [e0,if_neg z]; rfl)
   refine RD.gst (sq upd_same) (by omega) fun D nD=>?_
   have sD:=(same_new (o := .lst (vsts (hd :: ns))) np).trans (same_new (o := .lst (vsts ns)) nD)
   have nD0:H D=none:=(same_new (o := .lst (vsts (hd :: ns))) np).free nD
   walk_at "rd"
   refine RD.cut (fun σ H'=>σ = [some (vst t),some (vst wd),some (vst hd),some (.ref D),none]∧Same H H'∧H' D=some (.lst (vsts ns))∧hd=wd∧2≤ns.length∧ns.length≤4∧(∀ n∈ns,isName n=true)) ?_ ?_
   ·walk_at "rd"
    refine RD.ndec (fun h1=>?_) (fun h1=>?_)
    ·walk_at "rd"
     exact no (fun z=>h1 z.1) _ sD
    ·walk_at "rd"
     refine RD.len (sq upd_same) ?_
     rw [vsts_len]
     walk_at "rd"
     by_cases h2:(2:Int)≤ns.length
     ·refine RD.decT h2 ?_
      walk_at "rd"
      by_cases h4:(ns.length:Int)≤4
      ·rw [decide_eq_true h4]
       walk_at "rn"
       refine RD.lcTx (sq upd_same) (by omega) (fun x=>!isName x) vst (fun i x H2 Q' R' hx s2 kT kF=>?_) (fun H2 r nr s2 hr2=>?_)
       ·walk_at "wp"
        walk_at "rd"
        refine ⟨rfl,?_⟩
        walk_at "rd"
        refine ⟨x,rfl,Nat.le_trans (hb x (List.mem_cons_of_mem _ (List.mem_of_getElem? hx))) (by omega),fun H3 s3=>?_⟩
        walk_at "rd"
        cases hn:isName x with
        | true =>
         rw [hn] at kF
         exact RD.bF (kF rfl _ s3)
        | false =>
         rw [hn] at kT
         refine RD.bT ?_
         walk_at "rd"
         exact kT rfl _ s3
       ·rw [pick_filter] at hr2
        refine RD.truL (sq hr2) ?_
        have ee:((ns.filter fun x=>!isName x).map vst).isEmpty=(ns.filter fun x=>!isName x).isEmpty:=isEmpty_txs _
        rw [ee]
        cases hf:(ns.filter fun x=>!isName x).isEmpty with
        | false =>
         walk_at "rn"
         refine no (fun z=>?_) _ (sD.trans s2)
         have:=filter_none.mpr (fun l hl=>by
          show (!isName l)=false
          rw [z.2.2.2.1 l hl]
          rfl:∀ l∈ns,(!isName l)=false)
         rw [hf] at this
         exact Bool.false_ne_true this
        | true =>
         walk_at "rn"
         refine ⟨rfl,sD.trans s2,s2 _ _ upd_same,h1,by omega,by omega,fun b hb=>?_⟩
         have:=filter_none.mp hf b hb
         cases e:isName b
         ·rw [e] at this; exact absurd this (by decide)
         ·rfl
      ·rw [decide_eq_false h4]
       walk_at "rn"
       exact no (fun z=>h4 (by have:=z.2.2.1; omega)) _ sD
     ·refine RD.decF h2 ?_
      walk_at "rn"
      exact no (fun z=>h2 (by have:=z.2.1; omega)) _ sD
   ·rintro σ H1 ⟨rfl,s1,hD,h1,h2,h4,h5⟩
    walk_at "rd"
    refine RD.slL (sq hD) fun p2 n2=>?_
    have ec:cutV (vsts ns) (some ((1:Nat):Int)) none=vsts (ns.drop 1):=by
     rw [cut_from]
     unfold vsts
     rw [List.map_drop]
    have ec':cutV (vsts ns) (some 1) none=vsts (ns.drop 1):=ec
    rw [ec']
    have t2:=same_new (o := .lst (vsts (ns.drop 1))) n2
    walk_at "rd"
    refine ⟨p2,(ns.drop 1).map S,rfl,by rw [List.map_map]; exact sq upd_same,by rw [List.length_map,List.length_drop]; omega,?_⟩
    walk_at "rd"
    refine RD.len (sq (t2 _ _ hD)) ?_
    rw [vsts_len]
    walk_at "rd"
    have e1:((ns.length:Int) - 1)=(((ns.drop 1).length:Nat):Int):=by rw [List.length_drop]; omega
    rw [e1,dd_lt]
    cases hn:decide (ns.drop 1).Nodup with
    | false =>
     walk_at "rn"
     exact no (fun z=>of_decide_eq_false hn z.2.2.2.2) _ (s1.trans t2)
    | true =>
     walk_at "rn"
     refine q _ _ (s1.trans t2) ?_
     rw [e0,if_pos ⟨h1,h2,h4,h5,of_decide_eq_true hn⟩]
     exact ⟨D,rfl,nD0,t2 _ _ hD⟩
end
end Pf

namespace Pf
open PySem PySem.Spec PyProof.Rows L2 SX RD PR
def ScAt (H:Hp) (d:Addr) (s:PR.Scope):Prop:=H d=some (.dK (s.map kvT))
structure NamesAt (A:Ad) (H:Hp) (p sl:Addr) (ds:List Addr) (sc:List PR.Scope):Prop where
 ob:∃ dx,H p=some (.ins A.zas dx [("scopes", .ref sl)])
 ls:H sl=some (.lst (ds.map V.ref))
 nd:ds.Nodup
 pr:Paired (ScAt H) ds sc
theorem NamesAt.same {A:Ad} {H H':Hp} {p sl:Addr} {ds:List Addr} {sc:List PR.Scope} (s:Same H H') (n:NamesAt A H p sl ds sc):NamesAt A H' p sl ds sc :=
 ⟨n.ob.imp fun _ h=>s _ _ h,s _ _ n.ls,n.nd,paired_imp (fun _ _ h=>s _ _ h) n.pr⟩
theorem kindOf_app (x:Tx):∀ a b:List PR.Scope,kindOf (a++b) x=match kindOf a x with
  | some k=>some k
  | none=>kindOf b x
 | [],b=>rfl
 | s :: a,b=>by
  show (match kindIn s x with | some k=>some k | none=>kindOf (a++b) x)=match (match kindIn s x with | some k=>some k | none=>kindOf a x) with | some k=>some k | none=>kindOf b x
  cases kindIn s x with
  | some k=>rfl
  | none=>exact kindOf_app x a b
def sp_names (A:Ad) (K:PySem.W.Frag):Sp:=fun vs H Q _=>∃ (p dx a:Addr) (ls:List Tx),vs=[.ref p,.ref a]∧H p=some (.ins A.zas dx [])∧SqL K H a (vsts ls)∧ls.Nodup∧ls.length≤10000 ∧
 ∀ (H':Hp) (sl d:Addr),H sl=none→H d=none→NamesAt A H' p sl [d] [ls.map fun x=>(x,half)]→Sx p H H'→Q .non H'
def sp_kind (A:Ad):Sp:=fun vs H Q _=>∃ (p sl:Addr) (ds:List Addr) (sc:List PR.Scope) (x:Tx),vs=[.ref p,vst x]∧NamesAt A H p sl ds sc∧Q (kndV (kindOf sc x)) H
section
variable {P:Program} {w:World} {K:PySem.W.Frag} {mg:Str→Option Value} {base:Heap} {A:Ad}
theorem Sx.free {p r:Addr} {H H':Hp} {u:HO} (s:Sx p H H') (hp:H' p=some u) (h:H' r=none):H r=none:=by
 cases e:H r with
 | none=>rfl
 | some o =>
  by_cases z:r=p
  ·rw [z,hp] at h; cases h
  ·rw [s r o e z] at h; cases h
theorem zjh (T:Txt K mg A):FnOk P w K mg base CX0 1 A.zbr A.zcx ["self", "halves"] (sp_names A K):=by
 refine T.zf1.ok zhm (fun vs H Q E h=>?_) (fun cdv Ar outer s H vs Q E hr h=>?_)
 ·obtain ⟨p,dx,a,ls,rfl,_⟩:=h
  rfl
 ·obtain ⟨p,dx,a,ls,rfl,hp,hq,hn,hz,q⟩:=h
  refine ⟨_,(pss_one (RD.k_sfld (K:=K) rfl (pv 0) (pe_lst (pa_cons (pe_dc (own:=[("name", 2)]) (g:=gName 2) (by rfl) zhm.nd (RD.k_pil (K:=K) rfl (pv 1)) (blkOk_by (own:=[("name", 2)]) (N:=["self", "halves", "name"]) (sc:=defScope zeu) (by decide +kernel)) (fun _ _ _ _ _=>(pg_name (i:=2) zhm.nd rfl (Or.inl rfl))) (fun _ _ _ _ _=>pts_nil) (fun _ _ _ _ _=>(pv 2)) (fun _ _ _ _ _=>(RD.pe_gl (by rfl) T.zdp))) pa_nil)) rfl)),?_⟩
  show sFld _ _ _ _ _ [some (.ref p),some (.ref a),none] H
  walk_at "rd"
  refine RD.dcTx half hq hz hn (fun j x H1 X R' hx hX=>?_) fun D nD=>?_
  ·walk_at "wp"
   walk_at "rd"
   refine ⟨rfl,?_⟩
   walk_at "rd"
   exact hX
  ·walk_at "rd"
   refine ⟨few,fun sl nsl=>?_⟩
   walk_at "rd"
   have s1:=(same_new nD).trans (same_new (o := .lst [V.ref D]) nsl)
   refine ⟨p,A.zas,dx,[],rfl,s1 _ _ hp,T.zbs,T.zfw,by decide,?_⟩
   have nsl0:H sl=none:=(same_new nD).free nsl
   have pD:D ≠ p:=fun z=>by rw [z,hp] at nD; cases nD
   have psl:sl ≠ p:=fun z=>by rw [z,hp] at nsl0; cases nsl0
   refine q _ sl D nsl0 nD ⟨⟨dx,upd_same⟩,by rw [upd_ne psl]; exact upd_same,by simp,.cons ?_ .nil⟩ ((Sx.same s1).trans Sx.put)
   show upd _ p _ D=_
   rw [upd_ne pD]
   exact (same_new nsl) _ _ upd_same
theorem zhx (T:Txt K mg A):FnOk P w K mg base CX0 1 A.zdf A.zc7 ["self", "name"] (sp_kind A):=by
 refine T.zgl.ok zj5 (fun vs H Q E h=>?_) (fun cdv Ar outer s H vs Q E hr h=>?_)
 ·obtain ⟨p,sl,ds,sc,x,rfl,_⟩:=h
  rfl
 ·obtain ⟨p,sl,ds,sc,x,rfl,⟨⟨dx,ob⟩,ls,nd,pr⟩,q⟩:=h
  refine ⟨_,(pss_cons (ps_for PassesOwn.never rfl (RD.k_pil (K:=K) rfl (RD.k_fld (K:=K) rfl (pv 0) rfl)) (pg_name (i:=2) zj5.nd rfl (Or.inl rfl))
   (pss_one (ps_if (pt_cmp (pc_din (hu_of hr) (pv 1) (pv 2)))
   (pss_one (ps_ret (pe_dget (hu_of hr) (pv 2) (pv 1) (fun _ _=>rfl))))
   pss_nil)))
   (pss_one (ps_ret pe_non))),?_⟩
  show tSeq _ _ _ [some (.ref p),some (vst x),none] H
  have lp:=paired_len pr
  walk_at "rd"
  refine ⟨p,A.zas,dx,_,_,rfl,ob,T.zbs,T.zfw,rfl,?_⟩
  refine RD.goL (sq ls) (fun i σ H'=>∃ o,σ = [some (.ref p),some (vst x),o]∧H'=H∧kindOf (sc.take i) x=none) ⟨none,rfl,rfl,rfl⟩ (fun i σ H' _ ⟨_,_,e,_⟩=>by rw [e]; exact sq ls) ?_ ?_
  ·rintro i y σ H1 hy ⟨o,rfl,rfl,hk⟩
   rw [List.getElem?_map] at hy
   cases hd:ds[i]? with
   | none=>rw [hd] at hy; cases hy
   | some d =>
    rw [hd] at hy
    cases hy
    have hi:i < sc.length:=by
     have:=(List.getElem?_eq_some_iff.mp hd).1
     omega
    have hs:sc[i]? = some sc[i]:=List.getElem?_eq_getElem hi
    have hsc:H1 d=some (.dK (sc[i].map kvT)):=paired_at pr hd hs
    have et:kindOf (sc.take (i + 1)) x=kindIn sc[i] x:=by
     rw [RD.take_one hs,kindOf_app,hk]
     show (match kindIn sc[i] x with | some k=>some k | none=>none)=_
     cases kindIn sc[i] x <;> rfl
    walk_at "rd"
    refine ⟨d,_,rfl,getT hsc,?_⟩
    walk_at "rd"
    cases hki:kindIn sc[i] x with
    | none =>
     walk_at "rn"
     exact ⟨_,rfl,rfl,by rw [et,hki]⟩
    | some k =>
     rw [show (Option.map vst (some k)).isSome=true from rfl]
     walk_at "rn"
     refine ⟨d,vst k,rfl,?_,?_⟩
     ·have:=getT (x:=x) hsc
      rw [hki] at this
      exact this
     ·have e:kindOf sc x=some k:=by
       rw [← List.take_append_drop (i + 1) sc,kindOf_app,et,hki]
      rw [e] at q
      exact q
  ·rintro σ H1 ⟨o,rfl,rfl,hk⟩
   rw [List.length_map,lp,List.take_length] at hk
   walk_at "rd"
   rw [hk] at q
   exact q
theorem mk_names {H:Hp} {a:Addr} {ls:List Tx} {Q:VK} {E:XK} (hq:SqL K H a (vsts ls)) (hn:ls.Nodup) (hz:ls.length≤10000)
  (q:∀ (H':Hp) (p sl d:Addr),H p=none→H sl=none→H d=none→Same H H'→NamesAt A H' p sl [d] [ls.map fun x=>(x,half)]→Q (.ref p) H'):RD.MKE A.zas (sp_names A K) [] E [.ref a] H Q:=by
 intro x dx nx ndx ne
 have s0:Same H (upd (upd H dx (.own x)) x (.ins A.zas dx [])):=RD.same_mut (RD.same_new ndx) nx
 refine ⟨x,dx,a,ls,rfl,upd_same,s0.seq hq,hn,hz,fun H' sl d n1 n2 h1 sx=>⟨rfl,?_⟩⟩
 exact q H' x sl d nx (s0.free n1) (s0.free n2) (fun c o e=>sx c o (s0 c o e) (ne_of_none e nx)) h1
end
end Pf

namespace Pf
open PySem PySem.Spec PyProof.Rows L2 RD
section
variable {P:Program} {w:World} {K:PySem.W.Frag} {mg:Str→Option Value} {base:Heap} {A:Ad}
theorem zcq (T:Txt K mg A):FnOk P w K mg base CX0 1 A.zbg A.zcf ["self", "line"] (sp_exi1 A.zab "line"):=by
 refine T.zfa.ok zmj (fun vs H Q E h=>?_) (fun cdv Ar outer s H vs Q E hr h=>?_)
 ·obtain ⟨a,v,rfl,_⟩:=h
  rfl
 ·obtain ⟨a,v,rfl,ha,q⟩:=h
  refine ⟨_,(pss_one (ps_ost (pv 0) (pv 1))),?_⟩
  show tOst _ _ _ _ _ [some (.ref a),some (v)] H
  walk_at "rd"
  exact ⟨a,A.zab,rfl,T.oex_BadLine,T.zkw,.inl ⟨ha,q⟩⟩
theorem zhk (T:Txt K mg A):FnOk P w K mg base CX0 1 A.zaw A.zbj ["self", "line", "name"] (sp_exi2 A.zac "line" "name"):=by
 refine T.zd3.ok zkr (fun vs H Q E h=>?_) (fun cdv Ar outer s H vs Q E hr h=>?_)
 ·obtain ⟨a,v,u,rfl,_⟩:=h
  rfl
 ·obtain ⟨a,v,u,rfl,ha,q⟩:=h
  refine ⟨_,(pss_cons (ps_ost (pv 0) (pv 1))
   (pss_one (ps_ost (pv 0) (pv 2)))),?_⟩
  show tSeq _ _ _ [some (.ref a),some (v),some (u)] H
  walk_at "rd"
  refine ⟨a,A.zac,rfl,T.oex_UnknownName,T.zis,.inl ⟨ha,fun dx ndx ne=>?_⟩⟩
  walk_at "rd"
  exact ⟨a,A.zac,rfl,T.oex_UnknownName,T.ziq,.inr ⟨dx,[("line", v)],upd_same,by rw [upd_ne ne,upd_same],(show 1≤900 by decide),q dx ndx ne⟩⟩
theorem zle (T:Txt K mg A):FnOk P w K mg base CX0 1 A.za4 A.zbw ["self", "line", "name"] (sp_exi2 A.zaf "line" "name"):=by
 refine T.zek.ok zlg (fun vs H Q E h=>?_) (fun cdv Ar outer s H vs Q E hr h=>?_)
 ·obtain ⟨a,v,u,rfl,_⟩:=h
  rfl
 ·obtain ⟨a,v,u,rfl,ha,q⟩:=h
  refine ⟨_,(pss_cons (ps_ost (pv 0) (pv 1))
   (pss_one (ps_ost (pv 0) (pv 2)))),?_⟩
  show tSeq _ _ _ [some (.ref a),some (v),some (u)] H
  walk_at "rd"
  refine ⟨a,A.zaf,rfl,T.oex_WrongKind,T.zjk,.inl ⟨ha,fun dx ndx ne=>?_⟩⟩
  walk_at "rd"
  exact ⟨a,A.zaf,rfl,T.oex_WrongKind,T.zjg,.inr ⟨dx,[("line", v)],upd_same,by rw [upd_ne ne,upd_same],(show 1≤900 by decide),q dx ndx ne⟩⟩
end
end Pf

namespace Pf
open PySem PySem.Spec PyProof.Rows L2 SX RD PR
def Rz (A:Ad) (E:XK) (F:Hp→Prop):Err→Prop
 | .bad n=>∀ H' dd,F H'→H' dd=some (.xd [("line", vn n)])→E (.ref A.zab) (some dd) H'
 | .unk n x=>∀ H' dd,F H'→H' dd=some (.xd [("name", vst x),("line", vn n)])→E (.ref A.zac) (some dd) H'
 | .knd n x=>∀ H' dd,F H'→H' dd=some (.xd [("name", vst x),("line", vn n)])→E (.ref A.zaf) (some dd) H'
def sp_open (A:Ad):Sp:=fun vs H Q _=>∃ (p sl:Addr) (ds:List Addr) (sc:List PR.Scope),vs=[.ref p]∧NamesAt A H p sl ds sc∧ds.length≤1000∧∀ H' d,H d=none→NamesAt A H' p sl (ds++[d]) (sc++[[]])→Sx sl H H'→Q .non H'
def sp_close (A:Ad):Sp:=fun vs H Q _=>∃ (p sl d:Addr) (ds:List Addr) (sc:List PR.Scope) (s:PR.Scope),vs=[.ref p]∧NamesAt A H p sl (ds++[d]) (sc++[s])∧∀ H',NamesAt A H' p sl ds sc→Sx sl H H'→Q .non H'
def sp_free (A:Ad) (K:PySem.W.Frag):Sp:=fun vs H Q _=>∃ (p sl:Addr) (ds:List Addr) (sc:List PR.Scope) (H0:Hp) (v:V) (f:Form),vs=[.ref p,v]∧NamesAt A H p sl ds sc∧FormAt A K H0 H v f∧Sml f∧∀ H',Same H H'→Q (.bl (isFree sc f)) H'
def sp_check (A:Ad) (K:PySem.W.Frag):Sp:=fun vs H Q E=>∃ (p sl:Addr) (ds:List Addr) (sc:List PR.Scope) (H0:Hp) (v:V) (f:Form) (n:Nat),vs=[.ref p,v,vn n]∧NamesAt A H p sl ds sc∧FormAt A K H0 H v f∧Sml f ∧
 (check sc n f.uses=none→∀ H',Same H H'→Q .non H')∧∀ e,check sc n f.uses=some e→Rz A E (Same H) e
section
variable {P:Program} {w:World} {K:PySem.W.Frag} {mg:Str→Option Value} {base:Heap} {A:Ad}
theorem paired_split {α β : Type} {R : α→β→Prop}:∀ {l:List α} {m:List β} {a : α} {b : β},Paired R (l++[a]) (m++[b])→Paired R l m∧R a b:=by
 intro l
 induction l with
 | nil =>
  intro m a b h
  cases m with
  | nil=>cases h with | cons r t=>exact ⟨.nil,r⟩
  | cons y m =>
   cases h with
   | cons r t=>exact absurd (paired_len t) (by simp)
 | cons x l ih =>
  intro m a b h
  cases m with
  | nil =>
   cases h with
   | cons r t=>exact absurd (paired_len t) (by simp)
  | cons y m =>
   cases h with
   | cons r t =>
    have:=ih t
    exact ⟨.cons r this.1,this.2⟩
theorem pairs_keep {H H':Hp}:∀ {ds:List Addr} {sc:List PR.Scope},Paired (ScAt H) ds sc→(∀ x∈ds,∀ o,H x=some o→H' x=some o)→Paired (ScAt H') ds sc
 | _,_,.nil,_ => .nil
 | _,_,.cons r t,k => .cons (k _ List.mem_cons_self _ r) (pairs_keep t fun x hx=>k x (List.mem_cons_of_mem _ hx))
theorem zml (T:Txt K mg A):FnOk P w K mg base CX0 1 A.zce A.zcc ["self"] (sp_open A):=by
 refine T.zfc.ok zmd (fun vs H Q E h=>?_) (fun cdv Ar outer s H vs Q E hr h=>?_)
 ·obtain ⟨p,sl,ds,sc,rfl,_⟩:=h
  rfl
 ·obtain ⟨p,sl,ds,sc,rfl,⟨⟨dx,ob⟩,ls,nd,pr⟩,hz,q⟩:=h
  refine ⟨_,(pss_one (ps_expr (RD.k_bm (K:=K) rfl PySem.F.plainAttrs_list PySem.F.slot_list_append PySem.F.type_list_append mt_append (RD.k_fld (K:=K) rfl (pv 0) rfl) (pa_cons pe_dnewK pa_nil)))),?_⟩
  show tDrop _ _ [some (.ref p)] H
  walk_at "rd"
  refine ⟨p,A.zas,dx,_,_,rfl,ob,T.zbs,T.zfw,rfl,RD.tyL (sq ls),?_⟩
  walk_at "rd"
  intro d nd0
  have t1:=same_new (o := .dK []) nd0
  walk_at "rd"
  refine RD.app (t1 _ _ ls) (szt (by rw [List.length_map]; omega)) ?_
  have sd:sl ≠ d:=ne_of_none ls nd0
  have hds:∀ x∈ds,x ≠ sl∧x ≠ d:=fun x hx=>by
   obtain ⟨s,_,hs⟩:=paired_mem pr x hx
   have hs:H x=some (.dK (s.map kvT)):=hs
   refine ⟨fun z=>?_,fun z=>?_⟩
   ·rw [z,ls] at hs; cases hs
   ·rw [z,nd0] at hs; cases hs
  refine q _ d nd0 ⟨⟨dx,?_⟩,by rw [upd_same,List.map_append]; rfl,?_,?_⟩ ((Sx.same t1).trans Sx.put)
  ·rw [upd_ne (fun z=>by rw [z,ls] at ob; cases ob)]
   exact t1 _ _ ob
  ·exact List.nodup_append.mpr ⟨nd,by simp,fun x hx y hy e=>(hds x hx).2 (by rw [e,List.mem_singleton.mp hy])⟩
  ·refine pr_app ?_ (.cons ?_ .nil)
   ·refine pairs_keep pr fun x hx o e=>?_
    rw [upd_ne (hds x hx).1]
    exact t1 _ _ e
   ·show upd _ sl _ d=_
    rw [upd_ne sd.symm]
    exact upd_same
theorem zl1 (T:Txt K mg A):FnOk P w K mg base CX0 1 A.zb5 A.zb7 ["self"] (sp_close A):=by
 refine T.zez.ok zlo (fun vs H Q E h=>?_) (fun cdv Ar outer s H vs Q E hr h=>?_)
 ·obtain ⟨p,sl,d,ds,sc,s,rfl,_⟩:=h
  rfl
 ·obtain ⟨p,sl,d,ds,sc,s,rfl,⟨⟨dx,ob⟩,ls,nd,pr⟩,q⟩:=h
  refine ⟨_,(pss_one (ps_expr (RD.k_bm0 (K:=K) rfl PySem.F.plainAttrs_list PySem.F.slot_list_pop PySem.F.type_list_pop mt_pop (RD.k_fld (K:=K) rfl (pv 0) rfl)))),?_⟩
  show tDrop _ _ [some (.ref p)] H
  walk_at "rd"
  refine ⟨p,A.zas,dx,_,_,rfl,ob,T.zbs,T.zfw,rfl,RD.tyL (sq ls),?_⟩
  have ls':=ls
  rw [List.map_append] at ls'
  refine RD.pop ls' ?_
  have hds:∀ x∈ds,x ≠ sl:=fun x hx z=>by
   obtain ⟨s,_,hs⟩:=paired_mem pr x (List.mem_append_left _ hx)
   have hs:H x=some (.dK (s.map kvT)):=hs
   rw [z,ls] at hs; cases hs
  refine q _ ⟨⟨dx,?_⟩,upd_same,(List.nodup_append.mp nd).1,?_⟩ Sx.put
  ·rw [upd_ne (fun z=>by rw [z,ls] at ob; cases ob)]
   exact ob
  ·refine pairs_keep (paired_split pr).1 fun x hx o e=>?_
   rw [upd_ne (hds x hx)]
   exact e
theorem zkn (T:Txt K mg A):FnOk P w K mg base CX0 2 A.zde A.zdk ["self", "form"] (sp_free A K):=by
 have zd6:=zhx (P:=P) (w:=w) (base:=base) T
 refine T.zgq.ok zf4 (fun vs H Q E h=>?_) (fun cdv Ar outer s H vs Q E hr h=>?_)
 ·obtain ⟨p,sl,ds,sc,H0,v,f,rfl,_⟩:=h
  rfl
 ·obtain ⟨p,sl,ds,sc,H0,v,f,rfl,hn,⟨fp,fdx,sv,u,b,rfl,_,_,_,hp,hs,hu,⟨bs,hb,hb2⟩⟩,hz,q⟩:=h
  refine ⟨_,(pss_one (ps_ret (pe_callB (RD.k_all (K:=K) rfl rfl) (by rfl) T.zqw (by decide +kernel) (pa_cons (pe_lc (own:=[("name", 3),("kind", 2)]) (g:=gTup K 2 (gCons (gName 3) (gCons (gName 2) gNil))) (by rfl) zf4.nd (RD.k_pil (K:=K) rfl (RD.k_fld (K:=K) rfl (pv 1) rfl)) (blkOk_by (own:=[("name", 3),("kind", 2)]) (N:=["self", "form", "kind", "name"]) (sc:=defScope ze5) (by decide +kernel)) (fun _ _ _ _ _=>(RD.k_gtup (K:=K) (n:=2) rfl rfl (pgs_cons (pg_name (i:=3) zf4.nd rfl (Or.inl rfl)) (pgs_cons (pg_name (i:=2) zf4.nd rfl (Or.inl rfl)) pgs_nil)))) (fun _ _ _ _ _=>pts_nil) (fun _ _ _ _ _=>(pe_cmpR op_isN (pe_meth (pv 0) T.zbs T.zgm zd6 (hr.mono (by decide)) T.zgk .nil pass0 (pa_cons (pv 3) pa_nil)) pe_non (nomark _)))) pa_nil)))),?_⟩
  show tRet _ _ [some (.ref p),some (.ref fp),none,none] H
  walk_at "rd"
  refine ⟨fp,A.zap,fdx,_,_,rfl,hp,T.zd9,T.zih,rfl,?_⟩
  refine RD.lcP f.bound (sq hb) (paired_len hb2) (szl (by have:=paired_len hb2; have:=hz.2.2.2; omega)) (fun _=>true) (fun d => .bl (kindOf sc d.1).isNone) (fun i c d H1 Q' R' hc hd s1 kT kF=>?_) (fun H1 nl nnl s1 hnl=>?_)
  ·refine RD.gtup2 ((Kp.same s1).sq (paired_at hb2 hc hd)) ?_
   walk_at "wp"
   walk_at "rd"
   refine ⟨rfl,?_⟩
   walk_at "rd"
   have hn1:=hn.same s1
   obtain ⟨dx,ob⟩:=hn1.ob
   refine ⟨p,dx,_,rfl,ob,rfl,?_⟩
   walk_at "rd"
   refine ⟨p,sl,ds,sc,d.1,rfl,hn1,?_⟩
   walk_at "rd"
   refine ⟨rfl,?_⟩
   have e:decide (kndV (kindOf sc d.1)=V.non)=(kindOf sc d.1).isNone:=by
    cases kindOf sc d.1 with
    | none=>exact decide_eq_true rfl
    | some k=>exact decide_eq_false nofun
   rw [e]
   exact kT rfl _ (Same.refl _)
  ·rw [RD.pick_all (fun _=>rfl)] at hnl
   walk_at "rd"
   refine RD.all1 (bs:=f.bound.map fun d=>(kindOf sc d.1).isNone) (sq (by rw [hnl,List.map_map]; rfl)) ?_
   have e3:isFree sc f=(f.bound.map fun d=>(kindOf sc d.1).isNone).all id:=by
    rw [List.all_map]
    rfl
   rw [← e3]
   exact q _ s1
end
end Pf

namespace Pf
open PySem PySem.Spec PyProof.Rows L2 SX RD PR
def FormB (A:Ad) (K:PySem.W.Frag) (H:Hp) (v:V) (l:List (Tx × Tx)):Prop:=∃ (p dx:Addr) (sv:V) (u b:Addr),v = .ref p∧H p=some (.ins A.zap dx [("statement", sv),("uses", .ref u),("bound", .ref b)])∧PairsA K H b l
def sp_bind (A:Ad) (K:PySem.W.Frag):Sp:=fun vs H Q _=>∃ (p sl d:Addr) (ds:List Addr) (sc:List PR.Scope) (s:PR.Scope) (v:V) (l:List (Tx × Tx)),vs=[.ref p,v]∧NamesAt A H p sl (ds++[d]) (sc++[s])∧FormB A K H v l ∧
 (l.map Prod.fst).Nodup∧(∀ x∈l.map Prod.fst,x ∉ s.map Prod.fst)∧s.length + l.length≤10000∧∀ H',NamesAt A H' p sl (ds++[d]) (sc++[s++l])→Sx d H H'→Q .non H'
theorem Sx.kpD {p:Addr} {H H':Hp} {kvs:List (Key × V)} (hp:H p=some (.dK kvs)) (s:Sx p H H'):Kp H H':=fun a xs h=>by
 rcases h with h | ⟨o,h⟩
 ·exact .inl (s a _ h fun z=>by rw [z,hp] at h; cases h)
 ·exact .inr ⟨o,s a _ h fun z=>by rw [z,hp] at h; cases h⟩
theorem chk_app (sc:List PR.Scope) (n:Nat):∀ a b:List (Tx × Tx),check sc n (a++b)=match check sc n a with
  | some e=>some e
  | none=>check sc n b
 | [],b=>rfl
 | u :: a,b=>by
  rw [List.cons_append,check,check]
  cases kindOf sc u.1 with
  | none=>rfl
  | some k =>
   by_cases h:rightK k u.2=true
   ·simp only [h,if_true]
    exact chk_app sc n a b
   ·simp only [h,if_false]
    rfl
section
variable {P:Program} {w:World} {K:PySem.W.Frag} {mg:Str→Option Value} {base:Heap} {A:Ad}
theorem zli (T:Txt K mg A):FnOk P w K mg base (L2.CX P w) 3 A.zed A.zeb ["self", "form", "number"] (sp_check A K):=by
 have zd6:=zhx (P:=P) (w:=w) (base:=base) T
 have zff:=zhk (P:=P) (w:=w) (base:=base) T
 have zny:=znu (P:=P) (w:=w) (base:=base) T
 have zlv:=zle (P:=P) (w:=w) (base:=base) T
 refine T.zht.okX zhh (fun vs H Q E h=>?_) (fun cdv Ar outer s H vs Q E hr h=>?_)
 ·obtain ⟨p,sl,ds,sc,H0,v,f,n,rfl,_⟩:=h
  rfl
 ·obtain ⟨p,sl,ds,sc,H0,v,f,n,rfl,hn,⟨fp,fdx,sv,u,b,rfl,_,_,_,hp,hs,⟨us,hu,hu2⟩,_⟩,hz,qN,qE⟩:=h
  refine ⟨_,(pss_one (ps_for PassesOwn.leaving rfl (RD.k_pil (K:=K) rfl (RD.k_fld (K:=K) rfl (pv 1) rfl)) (RD.k_gtup (K:=K) (n:=2) rfl rfl (pgs_cons (pg_name (i:=3) zhh.nd rfl (Or.inl rfl)) (pgs_cons (pg_name (i:=4) zhh.nd rfl (Or.inl rfl)) pgs_nil)))
   (pss_cons (ps_set (i:=5) zhh.nd rfl (Or.inl rfl) (pe_meth (pv 0) T.zbs T.zgm zd6 (hr.mono (by decide)) T.zgk .nil pass0 (pa_cons (pv 3) pa_nil)))
   (pss_cons (ps_if (pt_cmpR op_isN (pv 5) pe_non (nomark _))
   (pss_one (ps_raise rfl (takes_of rfl rfl rfl rfl) (pmk_oex T.oex_UnknownName T.zk1 T.zku zff (hr.mono (by decide)) T.zhr .nil pass0 (by rfl) T.zjc (pa_cons (pv 2) (pa_cons (pv 3) pa_nil)))))
   pss_nil)
   (pss_one (ps_if (pt_not (pt_val (pe_call zny (hr.mono (by decide)) (by rfl) T.znz T.ze8.kp T.zn8 .nil pass0 (pa_cons (pv 5) (pa_cons (pv 4) pa_nil)))))
   (pss_one (ps_raise rfl (takes_of rfl rfl rfl rfl) (pmk_oex T.oex_WrongKind T.zo9 T.zpd zlv (hr.mono (by decide)) T.zl3 .nil pass0 (by rfl) T.znk (pa_cons (pv 2) (pa_cons (pv 3) pa_nil)))))
   pss_nil)))))),?_⟩
  show tFor _ _ _ _ [some (.ref p),some (.ref fp),some (vn n),none,none,none] H
  have lu:=paired_len hu2
  have ckd:∀ i,check sc n (f.uses.take i)=none→∀ a r,f.uses.drop i=a :: r→check sc n f.uses=check sc n (a :: r):=by
   intro i h a r e
   rw [← e]
   have:=chk_app sc n (f.uses.take i) (f.uses.drop i)
   rw [List.take_append_drop,h] at this
   exact this
  walk_at "rd"
  refine ⟨fp,A.zap,fdx,_,_,rfl,hp,T.zd9,T.zla,rfl,?_⟩
  refine RD.goL (sq hu) (fun i σ H'=>∃ o3 o4 o5,σ = [some (.ref p),some (.ref fp),some (vn n),o3,o4,o5]∧Same H H'∧check sc n (f.uses.take i)=none) ⟨none,none,none,rfl,Same.refl _,rfl⟩ (fun i σ H' _ ⟨_,_,_,_,s,_⟩=>sq (s _ _ hu)) ?_ ?_
  ·rintro i y σ H1 hy ⟨o3,o4,o5,rfl,s1,hk⟩
   rw [List.getElem?_map] at hy
   cases hd:us[i]? with
   | none=>rw [hd] at hy; cases hy
   | some c =>
    rw [hd] at hy
    cases hy
    have hi:i < f.uses.length:=by
     have:=(List.getElem?_eq_some_iff.mp hd).1
     omega
    have hf:f.uses[i]? = some f.uses[i]:=List.getElem?_eq_getElem hi
    have hdr:f.uses.drop i=f.uses[i] :: f.uses.drop (i + 1):=List.drop_eq_getElem_cons hi
    have e0:=ckd i hk _ _ hdr
    have tk1:=RD.take_one hf
    have e1:check sc n (f.uses.take (i + 1))=check sc n [f.uses[i]]:=by
     rw [tk1]
     have:=chk_app sc n (f.uses.take i) [f.uses[i]]
     rw [hk] at this
     exact this
    refine RD.gtup2 ((Kp.same s1).sq (paired_at hu2 hd hf)) ?_
    revert e0 e1
    generalize f.uses[i]=uu
    intro e0 e1
    have e0:check sc n f.uses=match kindOf sc uu.1 with
     | none=>some (.unk n uu.1)
     | some k=>if rightK k uu.2=true then check sc n (f.uses.drop (i + 1)) else some (.knd n uu.1):=e0
    have e1:check sc n (f.uses.take (i + 1))=match kindOf sc uu.1 with
     | none=>some (.unk n uu.1)
     | some k=>if rightK k uu.2=true then none else some (.knd n uu.1):=e1
    have hn1:=hn.same s1
    obtain ⟨dx,ob⟩:=hn1.ob
    walk_at "rd"
    refine ⟨p,dx,_,rfl,ob,rfl,?_⟩
    walk_at "rd"
    refine ⟨p,sl,ds,sc,uu.1,rfl,hn1,?_⟩
    walk_at "rd"
    refine ⟨rfl,?_⟩
    walk_at "rd"
    cases hko:kindOf sc uu.1 with
    | none =>
     rw [hko] at e0
     refine RD.decT rfl ?_
     walk_at "rd"
     show tMkO A.zac (sp_exi2 A.zac "line" "name") [] _ _ _ _
     show tCons _ _ _ _ _
     walk_at "rd"
     refine RD.mk2 fun dd ndd=>?_
     exact qE _ e0 _ dd (s1.trans (same_new ndd)) upd_same
    | some k =>
     rw [hko] at e0 e1
     refine RD.decF nofun ?_
     walk_at "rd"
     refine ⟨k,uu.2,rfl,fun H2 s2=>?_⟩
     walk_at "rd"
     cases hr:rightK k uu.2 with
     | true =>
      have e1:check sc n (f.uses.take (i + 1))=none:=e1.trans (if_pos hr)
      walk_at "rn"
      exact ⟨_,_,_,rfl,s1.trans s2,e1⟩
     | false =>
      have e0:check sc n f.uses=some (.knd n uu.1):=e0.trans (if_neg (by rw [hr]; exact Bool.false_ne_true))
      walk_at "rn"
      show tMkO A.zaf (sp_exi2 A.zaf "line" "name") [] _ _ _ _
      show tCons _ _ _ _ _
      walk_at "rd"
      refine RD.mk2 fun dd ndd=>?_
      exact qE _ e0 _ dd ((s1.trans s2).trans (same_new ndd)) upd_same
  ·rintro σ H1 ⟨o3,o4,o5,rfl,s1,hk⟩
   rw [List.length_map,lu,List.take_length] at hk
   exact qN hk _ s1
theorem zmc (T:Txt K mg A):FnOk P w K mg base CX0 1 A.zep A.zew ["self", "form"] (sp_bind A K):=by
 refine T.zii.ok zjb (fun vs H Q E h=>?_) (fun cdv Ar outer s H vs Q E hr h=>?_)
 ·obtain ⟨p,sl,d,ds,sc,s,v,l,rfl,_⟩:=h
  rfl
 ·obtain ⟨p,sl,d,ds,sc,s,v,l,rfl,hn,⟨fp,fdx,sv,u,b,rfl,hp,⟨bs,hb,hb2⟩⟩,nd,nw,hz,q⟩:=h
  refine ⟨_,(pss_one (ps_for PassesOwn.never rfl (RD.k_pil (K:=K) rfl (RD.k_fld (K:=K) rfl (pv 1) rfl)) (RD.k_gtup (K:=K) (n:=2) rfl rfl (pgs_cons (pg_name (i:=2) zjb.nd rfl (Or.inl rfl)) (pgs_cons (pg_name (i:=3) zjb.nd rfl (Or.inl rfl)) pgs_nil)))
   (pss_one (ps_dput (hu_of hr) (pe_ix (RD.k_ixL (K:=K) rfl) (RD.k_fld (K:=K) rfl (pv 0) rfl) (pe_un un_neg pe_int) (fun _ _=>rfl)) (pv 2) (pv 3) rfl)))),?_⟩
  show tFor _ _ _ _ [some (.ref p),some (.ref fp),none,none] H
  have lb:=paired_len hb2
  have hd0:H d=some (.dK (s.map kvT)):=(paired_split hn.pr).2
  walk_at "rd"
  refine ⟨fp,A.zap,fdx,_,_,rfl,hp,T.zd9,T.zih,rfl,?_⟩
  have bd:b ≠ d:=fun z=>by rw [z,hd0] at hb; cases hb
  refine RD.goL (sq hb) (fun i σ H'=>∃ o2 o3,σ = [some (.ref p),some (.ref fp),o2,o3]∧Sx d H H'∧NamesAt A H' p sl (ds++[d]) (sc++[s++l.take i])) ⟨none,none,rfl,Sx.refl,by rw [List.take_zero,List.append_nil]; exact hn⟩ (fun i σ H' _ ⟨_,_,_,sx,_⟩=>sq (sx _ _ hb bd)) ?_ ?_
  ·rintro i y σ H1 hy ⟨o2,o3,rfl,sx,hn1⟩
   rw [List.getElem?_map] at hy
   cases hd:bs[i]? with
   | none=>rw [hd] at hy; cases hy
   | some c =>
    rw [hd] at hy
    cases hy
    have hi:i < l.length:=by
     have:=(List.getElem?_eq_some_iff.mp hd).1
     omega
    have hf:l[i]? = some l[i]:=List.getElem?_eq_getElem hi
    have tk1:=RD.take_one hf
    refine RD.gtup2 ((Sx.kpD hd0 sx).sq (paired_at hb2 hd hf)) ?_
    walk_at "rd"
    obtain ⟨dx,ob⟩:=hn1.ob
    refine ⟨p,A.zas,dx,_,_,rfl,ob,T.zbs,T.zfw,rfl,?_⟩
    walk_at "rd"
    refine RD.ixL (sq hn1.ls) (show atI ((ds++[d]).map V.ref) (-1)=some (.ref d) by rw [List.map_append]; exact atI_last _ _) ?_
    walk_at "rd"
    have hd1:H1 d=some (.dK ((s++l.take i).map kvT)):=(paired_split hn1.pr).2
    refine ⟨d,_,rfl,.inl ⟨_,Sum.inr (S l[i].1),hd1,rfl,by rw [List.length_map,List.length_append,List.length_take]; exact szt (by omega),rfl⟩,?_⟩
    have hnew:l[i].1 ∉ (s++l.take i).map Prod.fst:=by
     rw [List.map_append,List.mem_append]
     rintro (z | z)
     ·exact nw _ (List.mem_map_of_mem (List.getElem_mem hi)) z
     ·have hn2:((l.take (i + 1)).map Prod.fst).Nodup:=nd.sublist ((List.take_sublist _ _).map _)
      rw [tk1,List.map_append,List.nodup_append] at hn2
      exact hn2.2.2 _ z _ (by simp) rfl
    rw [putK_new _ (new_kvT hnew)]
    have ek:(s++l.take i).map kvT++[(Sum.inr (S l[i].1),vst l[i].2)]=(s++l.take (i + 1)).map kvT:=by
     rw [tk1,← List.append_assoc,List.map_append (l₂:=[l[i]])]
     rfl
    rw [ek]
    have hds:∀ x∈ds,x ≠ d:=fun x hx z=>by
     have:=(List.nodup_append.mp hn1.nd).2.2 x hx d (by simp)
     exact this z
    refine ⟨_,_,rfl,sx.trans Sx.put,⟨dx,?_⟩,?_,hn1.nd,pr_app ?_ (.cons upd_same .nil)⟩
    ·rw [upd_ne (fun z=>by rw [z,hd1] at ob; cases ob)]
     exact ob
    ·have:=hn1.ls
     rw [upd_ne (fun z=>by rw [z,hd1] at this; cases this)]
     exact this
    ·refine pairs_keep (paired_split hn1.pr).1 fun x hx o e=>?_
     rw [upd_ne (hds x hx)]
     exact e
  ·rintro σ H1 ⟨o2,o3,rfl,sx,hn1⟩
   rw [List.length_map,lb,List.take_length] at hn1
   exact q _ hn1 sx
end
end Pf

namespace Pf
open PySem PySem.Spec PyProof.Rows L2 SX RD PR
def rfl_ (la sl bl:Addr) (off:Nat) (lab:Bool):List (Str × V):=[("lines", .ref la),("offset", vn off),("statements", .ref sl),("blocks", .ref bl),("has_labels", .bl lab)]
def BlAt (H:Hp) (q:Addr) (b:Nat × Bool):Prop:=H q=some (.lst [vn b.1,.bl b.2])
structure RdrAt (A:Ad) (K:PySem.W.Frag) (H:Hp) (p la sl bl:Addr) (bs:List Addr) (lines:List Tx) (off:Nat) (stms:List Stm) (blocks:List (Nat × Bool)) (lab:Bool):Prop where
 ob:∃ dx,H p=some (.ins A.zaa dx (rfl_ la sl bl off lab))
 li:H la=some (.lst (vsts lines))
 st:∃ svs,H sl=some (.lst svs)∧Paired (StmAt K H) svs stms
 bk:H bl=some (.lst (bs.map V.ref))
 nd:bs.Nodup
 pr:Paired (BlAt H) bs blocks
theorem RdrAt.same {A:Ad} {K:PySem.W.Frag} {H H':Hp} {p la sl bl:Addr} {bs:List Addr} {lines:List Tx} {off:Nat} {stms:List Stm} {blocks:List (Nat × Bool)} {lab:Bool} (s:Same H H') (r:RdrAt A K H p la sl bl bs lines off stms blocks lab):RdrAt A K H' p la sl bl bs lines off stms blocks lab :=
 ⟨r.ob.imp fun _ h=>s _ _ h,s _ _ r.li,r.st.imp fun svs h=>⟨s _ _ h.1,paired_imp (fun _ _ z=>(Kp.same s).stm z) h.2⟩,s _ _ r.bk,r.nd,paired_imp (fun _ _ h=>s _ _ h) r.pr⟩
def sp_rinit (A:Ad) (K:PySem.W.Frag):Sp:=fun vs H Q _=>∃ (p dx la:Addr) (lines:List Tx) (off:Nat),vs=[.ref p,.ref la,vn off]∧H p=some (.ins A.zaa dx [])∧H la=some (.lst (vsts lines)) ∧
 ∀ (H':Hp) (sl bl:Addr),H sl=none→H bl=none→RdrAt A K H' p la sl bl [] lines off [.rout] [] false→Sx p H H'→Q .non H'
def sp_resolved (A:Ad) (K:PySem.W.Frag):Sp:=fun vs H Q _=>∃ (p kn sl:Addr) (ds:List Addr) (sc:List PR.Scope) (sv:V) (s:Stm),vs=[.ref p,sv,.ref kn]∧NamesAt A H kn sl ds sc∧StmAt K H sv s ∧ 
 (∀ x,s = .drop x none→(kindOf sc x).isSome=true)∧(∀ x v,s = .some_ x none v→(kindOf sc x).isSome=true)∧(∀ x k,s ≠ .drop x (some k))∧(∀ x k v,s ≠ .some_ x (some k) v)∧∀ H' v,Same H H'→StmAt K H' v (resolve sc s)→Q v H'
section
variable {P:Program} {w:World} {K:PySem.W.Frag} {mg:Str→Option Value} {base:Heap} {A:Ad}
theorem zjy (T:Txt K mg A):FnOk P w K mg base CX0 1 A.zar A.zba ["self", "lines", "offset"] (sp_rinit A K):=by
 refine T.zdb.ok zjm (fun vs H Q E h=>?_) (fun cdv Ar outer s H vs Q E hr h=>?_)
 ·obtain ⟨p,dx,la,lines,off,rfl,_⟩:=h
  rfl
 ·obtain ⟨p,dx,la,lines,off,rfl,hp,hla,q⟩:=h
  refine ⟨_,(pss_cons (RD.k_sfld (K:=K) rfl (pv 0) (pv 1) rfl)
   (pss_cons (RD.k_sfld (K:=K) rfl (pv 0) (pv 2) rfl)
   (pss_cons (RD.k_sfld (K:=K) rfl (pv 0) (pe_lst (pa_cons (pe_tup (pa_cons pe_str pa_nil)) pa_nil)) rfl)
   (pss_cons (RD.k_sfld (K:=K) rfl (pv 0) (pe_lst pa_nil) rfl)
   (pss_one (RD.k_sfld (K:=K) rfl (pv 0) pe_bl rfl)))))),?_⟩
  show tSeq _ _ _ [some (.ref p),some (.ref la),some (vn off)] H
  walk_at "rd"
  refine ⟨p,A.zaa,dx,[],rfl,hp,T.zae,T.zbn,by decide,?_⟩
  walk_at "rd"
  refine ⟨p,A.zaa,dx,_,rfl,upd_same,T.zae,T.zd4,(show (1:Nat) < 1000 by decide),?_⟩
  have x1:=(Sx.put (p:=p) (H:=H) (o := .ins A.zaa dx (putF "lines" (.ref la) []))).trans (Sx.put (p:=p) (o := .ins A.zaa dx (putF "offset" (vn off) (putF "lines" (.ref la) []))))
  revert x1
  have hp1:=upd_same (H:=upd H p (.ins A.zaa dx (putF "lines" (.ref la) []))) (a:=p) (o := .ins A.zaa dx (putF "offset" (vn off) (putF "lines" (.ref la) [])))
  revert hp1
  generalize upd (upd H p (.ins A.zaa dx (putF "lines" (.ref la) []))) p (.ins A.zaa dx (putF "offset" (vn off) (putF "lines" (.ref la) [])))=H1
  intro hp1 x1
  walk_at "rd"
  refine ⟨few,fun q1 n1=>?_⟩
  have t1:=same_new (o := .tup [vst (tx "routine")]) n1
  walk_at "rd"
  refine ⟨few,fun sl nsl=>?_⟩
  have t2:=same_new (o := .lst [V.ref q1]) nsl
  walk_at "rd"
  refine ⟨p,A.zaa,dx,_,rfl,(t1.trans t2) _ _ hp1,T.zae,T.zao,(show (2:Nat) < 1000 by decide),?_⟩
  have nsl1:H1 sl=none:=t1.free nsl
  have hsl:_=_:=upd_same (H:=upd H1 q1 (.tup [vst (tx "routine")])) (a:=sl) (o := .lst [V.ref q1])
  have hq1:_=_:=t2 _ _ (upd_same (H:=H1) (a:=q1) (o := .tup [vst (tx "routine")]))
  have x2:=x1.trans (Sx.same (p:=p) (t1.trans t2))
  have psl:sl ≠ p:=fun z=>by rw [z,hp1] at nsl1; cases nsl1
  have pq1:q1 ≠ p:=fun z=>by rw [z,hp1] at n1; cases n1
  walk_at "rd"
  refine ⟨few,fun bl nbl=>?_⟩
  have t3:=same_new (o := .lst []) nbl
  walk_at "rd"
  have e3:=x2.trans (Sx.put (p:=p) (o := .ins A.zaa dx (putF "statements" (.ref sl) (putF "offset" (vn off) (putF "lines" (.ref la) [])))))
  refine ⟨p,A.zaa,dx,_,rfl,t3 _ _ upd_same,T.zae,T.zan,(show (3:Nat) < 1000 by decide),?_⟩
  walk_at "rd"
  refine ⟨p,A.zaa,dx,_,rfl,upd_same,T.zae,T.zbc,(show (4:Nat) < 1000 by decide),?_⟩
  have nbl1:H1 bl=none:=by
   have y:=(Sx.same (p:=p) (t1.trans t2)).trans (Sx.put (p:=p) (o := .ins A.zaa dx (putF "statements" (.ref sl) (putF "offset" (vn off) (putF "lines" (.ref la) [])))))
   exact y.free upd_same nbl
  have pbl:bl ≠ p:=fun z=>by rw [z,hp1] at nbl1; cases nbl1
  have x5:=(((e3.trans (Sx.same (p:=p) t3)).trans (Sx.put (p:=p) (o := .ins A.zaa dx (putF "blocks" (.ref bl) (putF "statements" (.ref sl) (putF "offset" (vn off) (putF "lines" (.ref la) []))))))).trans (Sx.put (p:=p) (o := .ins A.zaa dx (putF "has_labels" (.bl false) (putF "blocks" (.ref bl) (putF "statements" (.ref sl) (putF "offset" (vn off) (putF "lines" (.ref la) []))))))))
  have lap:la ≠ p:=fun z=>by rw [z,hp] at hla; cases hla
  refine q _ sl bl (x1.free hp1 nsl1) (x1.free hp1 nbl1) ⟨⟨dx,upd_same⟩,x5 _ _ hla lap,⟨[.ref q1],?_,.cons ⟨q1,rfl,Pf.st ?_⟩ .nil⟩,?_,.nil,.nil⟩ x5
  ·rw [upd_ne psl,upd_ne psl]
   refine t3 _ _ ?_
   rw [upd_ne psl]
   exact hsl
  ·rw [upd_ne pq1,upd_ne pq1]
   refine t3 _ _ ?_
   rw [upd_ne pq1]
   exact hq1
  ·rw [upd_ne pbl,upd_ne pbl]
   exact upd_same
end
end Pf

namespace Pf
open PySem PySem.Spec PyProof.Rows L2 SX RD PR
theorem StmAt.head {K:PySem.W.Frag} {H:Hp} {v:V} {s:Stm} (h:StmAt K H v s):∃ a xs,v = .ref a∧SqT K H a (vst (tx (headS s)) :: xs):=by
 obtain ⟨a,e,h⟩:=h
 match s,h with
 | .rout,h=>exact ⟨a,_,e,h⟩
 | .scr,h=>exact ⟨a,_,e,h⟩
 | .call x hs nw,⟨b,c,h,h2,h3⟩=>exact ⟨a,_,e,h⟩
 | .given c,⟨cv,h,h2⟩=>exact ⟨a,_,e,h⟩
 | .iff c none,⟨cv,h,h2⟩=>exact ⟨a,_,e,h⟩
 | .iff c (some n),⟨cv,h,h2⟩=>exact ⟨a,_,e,h⟩
 | .els none,h=>exact ⟨a,_,e,h⟩
 | .els (some n),h=>exact ⟨a,_,e,h⟩
 | .fin,h=>exact ⟨a,_,e,h⟩
 | .let_ x p,⟨pv,h,h2⟩=>exact ⟨a,_,e,h⟩
 | .take x kk p,⟨pv,h,h2⟩=>exact ⟨a,_,e,h⟩
 | .make x y,h=>exact ⟨a,_,e,h⟩
 | .drop x none,h=>exact ⟨a,_,e,h⟩
 | .drop x (some kk),h=>exact ⟨a,_,e,h⟩
 | .new kk x,h=>exact ⟨a,_,e,h⟩
 | .link x f v,h=>exact ⟨a,_,e,h⟩
 | .bear x f v,h=>exact ⟨a,_,e,h⟩
 | .round x f v,h=>exact ⟨a,_,e,h⟩
 | .some_ x none v,h=>exact ⟨a,_,e,h⟩
 | .some_ x (some kk) v,h=>exact ⟨a,_,e,h⟩
 | .tell xs,⟨b,h,h2⟩=>exact ⟨a,_,e,h⟩
theorem tx_inj {s t:String} (h:tx s=tx t):s=t:=by
 unfold tx at h
 have:s.toList=t.toList:=by
  have inj:∀ l m:List Char,l.map Char.toNat=m.map Char.toNat→l=m:=by
   intro l
   induction l with
   | nil=>intro m h; cases m with
    | nil=>rfl
    | cons _ _=>cases h
   | cons a l ih=>intro m h; cases m with
    | nil=>cases h
    | cons b m =>
     rw [List.map_cons,List.map_cons] at h
     injection h with h1 h2
     rw [ih m h2,Char.toNat_inj.mp h1]
  exact inj _ _ h
 exact String.toList_inj.mp this
section
variable {P:Program} {w:World} {K:PySem.W.Frag} {mg:Str→Option Value} {base:Heap} {A:Ad}
theorem zjt (T:Txt K mg A):FnOk P w K mg base CX0 2 A.za6 A.za7 ["self", "statement", "known"] (sp_resolved A K):=by
 have zd6:=zhx (P:=P) (w:=w) (base:=base) T
 refine T.zda.ok zjo (fun vs H Q E h=>?_) (fun cdv Ar outer s H vs Q E hr h=>?_)
 ·obtain ⟨p,kn,sl,ds,sc,sv,s,rfl,_⟩:=h
  rfl
 ·obtain ⟨p,kn,sl,ds,sc,sv,s,rfl,hn,hs,hd1,hd2,hd3,hd4,q⟩:=h
  refine ⟨_,(pss_cons (ps_if (pt_cmpR op_eq (pe_ix (RD.k_ixT (K:=K) rfl) (pv 1) pe_int (fun _ _=>rfl)) pe_str (nomark _))
   (pss_one (ps_ret (pe_tup (pa_cons pe_str (pa_cons (pe_ix (RD.k_ixT (K:=K) rfl) (pv 1) pe_int (fun _ _=>rfl)) (pa_cons (pe_meth (pv 2) T.zbs T.zgm zd6 (hr.mono (by decide)) T.zgk .nil pass0 (pa_cons (pe_ix (RD.k_ixT (K:=K) rfl) (pv 1) pe_int (fun _ _=>rfl)) pa_nil)) pa_nil))))))
   pss_nil)
   (pss_cons (ps_if (pt_cmpR op_eq (pe_ix (RD.k_ixT (K:=K) rfl) (pv 1) pe_int (fun _ _=>rfl)) pe_str (nomark _))
   (pss_one (ps_ret (pe_tup (pa_cons pe_str (pa_cons (pe_ix (RD.k_ixT (K:=K) rfl) (pv 1) pe_int (fun _ _=>rfl)) (pa_cons (pe_meth (pv 2) T.zbs T.zgm zd6 (hr.mono (by decide)) T.zgk .nil pass0 (pa_cons (pe_ix (RD.k_ixT (K:=K) rfl) (pv 1) pe_int (fun _ _=>rfl)) pa_nil)) (pa_cons (pe_ix (RD.k_ixT (K:=K) rfl) (pv 1) pe_int (fun _ _=>rfl)) pa_nil)))))))
   pss_nil)
   (pss_one (ps_ret (pv 1))))),?_⟩
  show tSeq _ _ _ [some (.ref p),some (sv),some (.ref kn)] H
  obtain ⟨a,xs,rfl,ha⟩:=hs.head
  obtain ⟨dx,ob⟩:=hn.ob
  walk_at "rd"
  refine RD.ixT ha (show atI _ ((0:Nat):Int)=some (vst (tx (headS s))) from at_n rfl) ?_
  walk_at "rd"
  refine RD.dec (fun h1=>?_) (fun h1=>?_)
  ·have h1:=tx_inj h1
   obtain ⟨x,rfl⟩:∃ x,s = .drop x none:=by
    cases s with
    | drop x k =>
     cases k with
     | none=>exact ⟨x,rfl⟩
     | some k=>exact absurd rfl (hd3 x k)
    | _=>exact absurd h1 (by simp [headS])
   obtain ⟨a2,e2,h2⟩:=hs
   cases e2
   have h2:SqT K H a [vst (tx "drop"),vst x]:=h2
   obtain ⟨k,hk⟩:=Option.isSome_iff_exists.mp (hd1 x rfl)
   walk_at "rd"
   refine RD.ixT h2 (show atI _ ((1:Nat):Int)=some (vst x) from at_n rfl) ?_
   walk_at "rd"
   refine ⟨kn,dx,_,rfl,ob,rfl,?_⟩
   walk_at "rd"
   refine RD.ixT h2 (show atI _ ((1:Nat):Int)=some (vst x) from at_n rfl) ?_
   walk_at "rd"
   refine ⟨kn,sl,ds,sc,x,rfl,hn,?_⟩
   rw [hk]
   walk_at "rd"
   refine ⟨few,fun c nc=>?_⟩
   refine q _ _ (same_new nc) ?_
   show StmAt K _ _ (.drop x (kindOf sc x))
   rw [hk]
   exact ⟨c,rfl,st upd_same⟩
  ·walk_at "rd"
   refine RD.ixT ha (show atI _ ((0:Nat):Int)=some (vst (tx (headS s))) from at_n rfl) ?_
   walk_at "rd"
   refine RD.dec (fun h3=>?_) (fun h3=>?_)
   ·have h3:=tx_inj h3
    obtain ⟨x,v,rfl⟩:∃ x v,s = .some_ x none v:=by
     cases s with
     | some_ x k v =>
      cases k with
      | none=>exact ⟨x,v,rfl⟩
      | some k=>exact absurd rfl (hd4 x k v)
     | _=>exact absurd h3 (by simp [headS])
    obtain ⟨a2,e2,h2⟩:=hs
    cases e2
    have h2:SqT K H a [vst (tx "some"),vst x,vst v]:=h2
    obtain ⟨k,hk⟩:=Option.isSome_iff_exists.mp (hd2 x v rfl)
    walk_at "rd"
    refine RD.ixT h2 (show atI _ ((1:Nat):Int)=some (vst x) from at_n rfl) ?_
    walk_at "rd"
    refine ⟨kn,dx,_,rfl,ob,rfl,?_⟩
    walk_at "rd"
    refine RD.ixT h2 (show atI _ ((1:Nat):Int)=some (vst x) from at_n rfl) ?_
    walk_at "rd"
    refine ⟨kn,sl,ds,sc,x,rfl,hn,?_⟩
    rw [hk]
    walk_at "rd"
    refine RD.ixT h2 (show atI _ ((2:Nat):Int)=some (vst v) from at_n rfl) ?_
    walk_at "rd"
    refine ⟨few,fun c nc=>?_⟩
    refine q _ _ (same_new nc) ?_
    show StmAt K _ _ (.some_ x (kindOf sc x) v)
    rw [hk]
    exact ⟨c,rfl,st upd_same⟩
   ·walk_at "rd"
    refine q _ _ (Same.refl _) ?_
    have e:resolve sc s=s:=by
     cases s with
     | drop x k=>exact absurd rfl h1
     | some_ x k v=>exact absurd rfl h3
     | _=>rfl
    rw [e]
    exact hs
end
end Pf

namespace Pf
open PySem PySem.Spec PyProof.Rows L2 SX RD PR
def sp_may (A:Ad) (K:PySem.W.Frag):Sp:=fun vs H Q _=>∃ (p la sl bl:Addr) (bs:List Addr) (lines:List Tx) (off:Nat) (r:Rdr) (sv:V) (s:Stm) (n:Nat),vs=[.ref p,sv,vn n]∧RdrAt A K H p la sl bl bs lines off r.stms r.blocks r.lab∧StmAt K H sv s∧r.stms ≠ []∧(∀ c k,s ≠ .iff c (some k)) ∧
 ∀ H',Same H H'→Q (.bl (mayStand r lines.length n s)) H'
section
variable {P:Program} {w:World} {K:PySem.W.Frag} {mg:Str→Option Value} {base:Heap} {A:Ad}
theorem zje (T:Txt K mg A):FnOk P w K mg base CX0 1 A.za1 A.za0 ["self", "statement", "at"] (sp_may A K):=by
 refine T.zc6.ok zax (fun vs H Q E h=>?_) (fun cdv Ar outer s H vs Q E hr h=>?_)
 ·obtain ⟨p,la,sl,bl,bs,lines,off,r,sv,s,n,rfl,_⟩:=h
  rfl
 ·obtain ⟨p,la,sl,bl,bs,lines,off,r,sv,s,n,rfl,hr0,hs,hne,hif,q⟩:=h
  refine ⟨_,(pss_cons (ps_set (i:=3) zax.nd rfl (Or.inl rfl) (pe_ix (RD.k_ixT (K:=K) rfl) (pv 1) pe_int (fun _ _=>rfl)))
   (RD.pss_cut (ps_if (pt_cmpR op_eq (pv 3) pe_str (nomark _))
   (pss_one (ps_ret (pe_cmpR (RD.k_in (K:=K) rfl) (pe_ix (RD.k_ixT (K:=K) rfl) (pe_ix (RD.k_ixL (K:=K) rfl) (RD.k_fld (K:=K) rfl (pv 0) rfl) (pe_un un_neg pe_int) (fun _ _=>rfl)) pe_int (fun _ _=>rfl)) (pe_tup (pa_cons pe_str (pa_cons pe_str pa_nil))) (by rfl))))
   pss_nil)
   (RD.pss_cut (ps_if (pt_cmpR op_eq (pv 3) pe_str (nomark _))
   (pss_one (ps_ret (pe_and (pe_cmpR op_eq (pv 2) (pe_op op_sub (pe_callB (RD.k_len (K:=K) rfl) (by rfl) T.zau (by decide +kernel) (pa_cons (RD.k_fld (K:=K) rfl (pv 0) rfl) pa_nil)) pe_int) (nomark _)) (pe_one (RD.k_notT (K:=K) rfl (RD.k_fld (K:=K) rfl (pv 0) rfl))))))
   pss_nil)
   (RD.pss_cut (ps_if (pt_cmpR op_eq (pv 3) pe_str (nomark _))
   (pss_one (ps_ret (pe_and (pe_callTy (RD.k_boolL (K:=K) rfl) (by rfl) T.zra (by decide +kernel) (pa_cons (RD.k_fld (K:=K) rfl (pv 0) rfl) pa_nil)) (pe_one (RD.k_notT (K:=K) rfl (pe_ix (RD.k_ixL (K:=K) rfl) (pe_ix (RD.k_ixL (K:=K) rfl) (RD.k_fld (K:=K) rfl (pv 0) rfl) (pe_un un_neg pe_int) (fun _ _=>rfl)) pe_int (fun _ _=>rfl)))))))
   pss_nil)
   (RD.pss_cut (ps_if (pt_cmpR op_eq (pv 3) pe_str (nomark _))
   (pss_one (ps_ret (pe_callTy (RD.k_boolL (K:=K) rfl) (by rfl) T.zra (by decide +kernel) (pa_cons (RD.k_fld (K:=K) rfl (pv 0) rfl) pa_nil))))
   pss_nil)
   (RD.pss_cut (ps_if (pt_cmpR op_eq (pv 3) pe_str (nomark _))
   (pss_cons (ps_asg (pe_ix (RD.k_ixT (K:=K) rfl) (pv 1) pe_int (fun _ _=>rfl)) (RD.k_gtup (K:=K) (n:=4) rfl rfl (pgs_cons (pg_name (i:=4) zax.nd rfl (Or.inl rfl)) (pgs_cons (pg_name (i:=5) zax.nd rfl (Or.inl rfl)) (pgs_cons (pg_name (i:=6) zax.nd rfl (Or.inl rfl)) (pgs_cons (pg_name (i:=7) zax.nd rfl (Or.inl rfl)) pgs_nil))))))
   (RD.pss_cut (ps_set (i:=8) zax.nd rfl (Or.inl rfl) (pe_and (pe_cmpR op_eq (pv 4) pe_str (nomark _)) (pe_and (RD.k_notT (K:=K) rfl (pe_ix (RD.k_ixT (K:=K) rfl) (pv 5) pe_int (fun _ _=>rfl))) (pe_one (RD.k_notT (K:=K) rfl (pe_ix (RD.k_ixT (K:=K) rfl) (pv 6) pe_int (fun _ _=>rfl)))))))
   (pss_one (ps_ret (pe_and (pe_cmpR op_lt (pe_callB (RD.k_len (K:=K) rfl) (by rfl) T.zau (by decide +kernel) (pa_cons (RD.k_fld (K:=K) rfl (pv 0) rfl) pa_nil)) (RD.pe_glI (by rfl) T.zpa) (nomark _)) (pe_one (pe_or (pv 8) (pe_one (pe_not (RD.k_fld (K:=K) rfl (pv 0) rfl))))))))))
   pss_nil)
   (pss_one (ps_ret (pe_or (pe_cmpR (RD.k_in (K:=K) rfl) (pv 3) (pe_glob (v := .ref A.zbx) rfl T.zbx rfl) (by rfl)) (pe_or (pe_cmpR op_eq (pv 3) pe_str (nomark _)) (pe_one (pe_not (RD.k_fld (K:=K) rfl (pv 0) rfl))))))))))))),?_⟩
  show tSeq _ _ _ [some (.ref p),some (sv),some (vn n),none,none,none,none,none,none] H
  obtain ⟨a,xs,rfl,ha⟩:=hs.head
  obtain ⟨⟨dx,ob⟩,li,⟨svs,hsl,hsp⟩,bk,nd,pr⟩:=hr0
  have lbb:=paired_len pr
  have emp:(bs.map V.ref).isEmpty=r.blocks.isEmpty:=by
   cases bs with
   | nil =>
    cases hb:r.blocks with
    | nil=>rfl
    | cons _ _=>rw [hb] at lbb; cases lbb
   | cons _ _ =>
    cases hb:r.blocks with
    | nil=>rw [hb] at lbb; cases lbb
    | cons _ _=>rfl
  walk_at "rd"
  refine RD.ixT ha (show atI _ ((0:Nat):Int)=some (vst (tx (headS s))) from at_n rfl) ?_
  walk_at "rd"
  refine RD.cut (fun σ H'=>σ = [some (.ref p),some (.ref a),some (vn n),some (vst (tx (headS s))),none,none,none,none,none]∧H'=H∧headS s ≠ "given") ?_ ?_
  ·walk_at "rd"
   refine RD.dec (fun h1=>?_) (fun h1=>?_)
   ·have h1:=tx_inj h1
    obtain ⟨c,rfl⟩:∃ c,s = .given c:=by
     cases s with
     | given c=>exact ⟨c,rfl⟩
     | _=>exact absurd h1 (by simp [headS])
    walk_at "rd"
    refine ⟨p,A.zaa,dx,_,_,rfl,ob,T.zae,T.zao,rfl,?_⟩
    walk_at "rd"
    obtain ⟨s0,lst,es⟩:∃ s0 lst,r.stms=s0++[lst]:=by
     rcases List.eq_nil_or_concat r.stms with z | ⟨a,b,z⟩
     ·exact absurd z hne
     ·exact ⟨a,b,by rw [z,List.concat_eq_append]⟩
    rw [es] at hsp
    obtain ⟨v0,vl,rfl⟩:∃ v0 vl,svs=v0++[vl]:=by
     rcases List.eq_nil_or_concat svs with z | ⟨a,b,z⟩
     ·rw [z] at hsp
      exact absurd (paired_len hsp) (by simp)
     ·exact ⟨a,b,by rw [z,List.concat_eq_append]⟩
    have hl:=(paired_split hsp).2
    obtain ⟨al,xl,rfl,hal⟩:=hl.head
    refine RD.ixL (sq hsl) (atI_last _ _) ?_
    walk_at "rd"
    refine RD.ixT hal (show atI _ ((0:Nat):Int)=some (vst (tx (headS lst))) from at_n rfl) ?_
    walk_at "rd"
    refine ⟨few,fun c1 n1=>?_⟩
    refine RD.inT (ls:=[tx "routine", tx "given"]) (st upd_same) ?_
    have e:mayStand r lines.length n (.given c)=decide (tx (headS lst)∈[tx "routine", tx "given"]):=by
     show (match r.stms.getLast? with | some .rout=>true | some (.given _)=>true | _=>false)=_
     rw [es,List.getLast?_concat]
     cases lst <;> (simp only [headS,List.mem_cons,List.not_mem_nil,or_false]; first | (exact (decide_eq_true (by simp)).symm) | (refine (decide_eq_false ?_).symm; rintro (z | z) <;> exact absurd (tx_inj z) (by decide)))
    rw [← e]
    exact q _ (same_new n1)
   ·walk_at "rd"
    exact ⟨rfl,rfl,fun z=>h1 (by rw [z])⟩
  rintro σ H1 ⟨rfl,rfl,g1⟩
  refine RD.cut (fun σ H'=>σ = [some (.ref p),some (.ref a),some (vn n),some (vst (tx (headS s))),none,none,none,none,none]∧H'=H1∧headS s ≠ "tell") ?_ ?_
  ·walk_at "rd"
   refine RD.dec (fun h1=>?_) (fun h1=>?_)
   ·have h1:=tx_inj h1
    obtain ⟨ts,rfl⟩:∃ ts,s = .tell ts:=by
     cases s with
     | tell c=>exact ⟨c,rfl⟩
     | _=>exact absurd h1 (by simp [headS])
    walk_at "rd"
    refine ⟨p,A.zaa,dx,_,_,rfl,ob,T.zae,T.zbn,rfl,?_⟩
    walk_at "rd"
    refine RD.len (sq li) ?_
    rw [vsts_len]
    walk_at "rd"
    have e:mayStand r lines.length n (.tell ts)=(decide (n + 1=lines.length) && r.blocks.isEmpty):=rfl
    refine RD.dec (fun h2=>?_) (fun h2=>?_)
    ·walk_at "rd"
     refine ⟨p,A.zaa,dx,_,_,rfl,ob,T.zae,T.zan,rfl,?_⟩
     refine RD.truL (sq bk) ?_
     rw [decide_eq_true (by omega),Bool.true_and] at e
     rw [Bool.not_not,emp,← e]
     exact q _ (Same.refl _)
    ·walk_at "rd"
     rw [decide_eq_false (by omega),Bool.false_and] at e
     rw [← e]
     exact q _ (Same.refl _)
   ·walk_at "rd"
    exact ⟨rfl,rfl,fun z=>h1 (by rw [z])⟩
  rintro σ H1 ⟨rfl,rfl,g2⟩
  refine RD.cut (fun σ H'=>σ = [some (.ref p),some (.ref a),some (vn n),some (vst (tx (headS s))),none,none,none,none,none]∧H'=H1∧headS s ≠ "else") ?_ ?_
  ·walk_at "rd"
   refine RD.dec (fun h1=>?_) (fun h1=>?_)
   ·have h1:=tx_inj h1
    obtain ⟨to,rfl⟩:∃ to,s = .els to:=by
     cases s with
     | els c=>exact ⟨c,rfl⟩
     | _=>exact absurd h1 (by simp [headS])
    have e:mayStand r lines.length n (.els to)=match r.blocks.getLast? with | some b=>!b.2 | none=>false:=rfl
    walk_at "rd"
    refine ⟨p,A.zaa,dx,_,_,rfl,ob,T.zae,T.zan,rfl,?_⟩
    walk_at "rd"
    refine RD.boolL (sq bk) ?_
    walk_at "rd"
    rcases List.eq_nil_or_concat r.blocks with z | ⟨b0,b1,z⟩
    ·rw [emp,z]
     rw [z] at e
     walk_at "rn"
     have e:mayStand r lines.length n (.els to)=false:=e
     rw [← e]
     exact q _ (Same.refl _)
    ·rw [List.concat_eq_append] at z
     rw [emp,z,show (!(b0++[b1]).isEmpty)=true by simp]
     rw [z,List.getLast?_concat] at e
     rw [z] at pr
     obtain ⟨c0,c1,rfl⟩:∃ v0 vl,bs=v0++[vl]:=by
      rcases List.eq_nil_or_concat bs with z | ⟨a,b,z⟩
      ·rw [z] at pr
       exact absurd (paired_len pr) (by simp)
      ·exact ⟨a,b,by rw [z,List.concat_eq_append]⟩
     have hb:H1 c1=some (.lst [vn b1.1,.bl b1.2]):=(paired_split pr).2
     walk_at "rn"
     refine ⟨p,A.zaa,dx,_,_,rfl,ob,T.zae,T.zan,rfl,?_⟩
     walk_at "rd"
     refine RD.ixL (sq bk) (show atI ((c0++[c1]).map V.ref) (-1)=some (.ref c1) by rw [List.map_append]; exact atI_last _ _) ?_
     walk_at "rd"
     refine RD.ixL (sq hb) (show atI _ ((1:Nat):Int)=some (.bl b1.2) from at_n rfl) ?_
     refine ⟨b1.2,rfl,?_⟩
     have e:mayStand r lines.length n (.els to) = !b1.2:=e
     rw [← e]
     exact q _ (Same.refl _)
   ·walk_at "rd"
    exact ⟨rfl,rfl,fun z=>h1 (by rw [z])⟩
  rintro σ H1 ⟨rfl,rfl,g3⟩
  refine RD.cut (fun σ H'=>σ = [some (.ref p),some (.ref a),some (vn n),some (vst (tx (headS s))),none,none,none,none,none]∧H'=H1∧headS s ≠ "end") ?_ ?_
  ·walk_at "rd"
   refine RD.dec (fun h1=>?_) (fun h1=>?_)
   ·have h1:=tx_inj h1
    obtain rfl:s = .fin:=by
     cases s with
     | fin=>rfl
     | _=>exact absurd h1 (by simp [headS])
    walk_at "rd"
    refine ⟨p,A.zaa,dx,_,_,rfl,ob,T.zae,T.zan,rfl,?_⟩
    walk_at "rd"
    refine RD.boolL (sq bk) ?_
    rw [emp]
    exact q _ (Same.refl _)
   ·walk_at "rd"
    exact ⟨rfl,rfl,fun z=>h1 (by rw [z])⟩
  rintro σ H1 ⟨rfl,rfl,g4⟩
  refine RD.cut (fun σ H'=>σ = [some (.ref p),some (.ref a),some (vn n),some (vst (tx (headS s))),none,none,none,none,none]∧H'=H1∧headS s ≠ "if") ?_ ?_
  ·walk_at "rd"
   refine RD.dec (fun h1=>?_) (fun h1=>?_)
   ·have h1:=tx_inj h1
    obtain ⟨c,rfl⟩:∃ c,s = .iff c none:=by
     cases s with
     | iff c to =>
      cases to with
      | none=>exact ⟨c,rfl⟩
      | some k=>exact absurd rfl (hif c k)
     | _=>exact absurd h1 (by simp [headS])
    obtain ⟨a2,e2,cv,h2,hc⟩:=hs
    cases e2
    obtain ⟨ca,lv,rv,rfl,hc1,⟨al,bl1,rfl,hl1,hl2⟩,⟨ar,br,rfl,hr1,hr2⟩⟩:=hc
    have e:mayStand r lines.length n (.iff c none)=(decide (r.blocks.length < 3) && ((decide (c.kind=[]) && (c.left.2.isEmpty && c.right.2.isEmpty)) || !r.lab)):=rfl
    walk_at "rd"
    refine RD.ixT h2 (show atI _ ((1:Nat):Int)=some (.ref ca) from at_n rfl) ?_
    walk_at "rd"
    refine RD.gtup4 hc1 ?_
    walk_at "rd"
    refine RD.cut (fun σ H'=>σ = [some (.ref p),some (.ref a),some (vn n),some (vst (tx (headS (.iff c none)))),some (vst c.kind),some (.ref al),some (.ref ar),some (.bl c.eq),some (.bl (decide (c.kind=[]) && (c.left.2.isEmpty && c.right.2.isEmpty)))]∧H'=H1) ?_ ?_
    ·walk_at "rd"
     rw [temp]
     refine RD.dec (fun hk=>?_) (fun hk=>?_)
     ·walk_at "rd"
      refine RD.ixT hl1 (show atI _ ((1:Nat):Int)=some (.ref bl1) from at_n rfl) ?_
      refine RD.truTs hl2 ?_
      rw [isEmpty_txs,Bool.not_not,decide_eq_true hk,Bool.true_and]
      walk_at "rd"
      cases hle:c.left.2.isEmpty with
      | true =>
       walk_at "rn"
       refine RD.ixT hr1 (show atI _ ((1:Nat):Int)=some (.ref br) from at_n rfl) ?_
       refine RD.truTs hr2 ?_
       rw [isEmpty_txs,Bool.not_not]
       walk_at "rd"
       exact ⟨rfl,rfl⟩
      | false =>
       walk_at "rn"
       exact ⟨rfl,rfl⟩
     ·walk_at "rd"
      rw [decide_eq_false hk]
      exact ⟨rfl,rfl⟩
    ·rintro σ H2 ⟨rfl,rfl⟩
     walk_at "rd"
     refine ⟨p,A.zaa,dx,_,_,rfl,ob,T.zae,T.zan,rfl,?_⟩
     walk_at "rd"
     refine RD.len (sq bk) ?_
     rw [List.length_map,lbb]
     walk_at "rd"
     refine RD.dec (fun h3=>?_) (fun h3=>?_)
     ·rw [decide_eq_true (show r.blocks.length < 3 by omega),Bool.true_and] at e
      revert e
      generalize (decide (c.kind=[]) && (c.left.2.isEmpty && c.right.2.isEmpty))=pl
      intro e
      walk_at "rd"
      cases pl with
      | true =>
       walk_at "rn"
       have e:mayStand r lines.length n (.iff c none)=true:=e
       rw [← e]
       exact q _ (Same.refl _)
      | false =>
       walk_at "rn"
       refine ⟨p,A.zaa,dx,_,_,rfl,ob,T.zae,T.zbc,rfl,?_⟩
       walk_at "rd"
       have e:mayStand r lines.length n (.iff c none) = !r.lab:=e
       rw [← e]
       exact q _ (Same.refl _)
     ·rw [decide_eq_false (show ¬ r.blocks.length < 3 by omega),Bool.false_and] at e
      walk_at "rd"
      rw [← e]
      exact q _ (Same.refl _)
   ·walk_at "rd"
    exact ⟨rfl,rfl,fun z=>h1 (by rw [z])⟩
  rintro σ H1 ⟨rfl,rfl,g5⟩
  have el:mayStand r lines.length n s=((decide (tx (headS s)∈labL)) || (decide (tx (headS s)=tx "drop") || !r.lab)):=by
   have lab:∀ h:String,decide (tx h∈labL)=decide (h∈["new", "bear", "round", "some"]):=fun h=>by
    rw [decide_eq_decide]
    unfold labL
    rw [List.mem_map]
    exact ⟨fun ⟨x,hx,ex⟩=>by rw [← tx_inj ex]; exact hx,fun z=>⟨h,z,rfl⟩⟩
   have drp:∀ h:String,decide (tx h=tx "drop")=decide (h = "drop"):=fun h=>by
    rw [decide_eq_decide]
    exact ⟨fun z=>tx_inj z,fun z=>by rw [z]⟩
   rw [lab,drp]
   cases s with
   | given c=>exact absurd rfl g1
   | tell c=>exact absurd rfl g2
   | els c=>exact absurd rfl g3
   | fin=>exact absurd rfl g4
   | iff c t=>exact absurd rfl g5
   | _=>rfl
  walk_at "rd"
  refine RD.inT (ls:=labL) (by rw [← vsts_labL]; exact T.zlf _) ?_
  walk_at "rd"
  refine RD.dec (fun h1=>?_) (fun h1=>?_)
  ·rw [decide_eq_true h1,Bool.true_or] at el
   rw [← el]
   exact q _ (Same.refl _)
  ·rw [decide_eq_false h1,Bool.false_or] at el
   walk_at "rd"
   refine RD.dec (fun h2=>?_) (fun h2=>?_)
   ·rw [decide_eq_true h2,Bool.true_or] at el
    rw [← el]
    exact q _ (Same.refl _)
   ·rw [decide_eq_false h2,Bool.false_or] at el
    walk_at "rd"
    refine ⟨p,A.zaa,dx,_,_,rfl,ob,T.zae,T.zbc,rfl,?_⟩
    walk_at "rd"
    rw [← el]
    exact q _ (Same.refl _)
end
end Pf

namespace Pf
open PySem PySem.Spec PyProof.Rows L2 SX RD PR
def tfl (n:Tx) (h:Addr) (tv lv sv:V):List (Str × V):=[("name", vst n),("halves", .ref h),("told", tv),("lines", lv),("statements", sv)]
def sp_rt (A:Ad) (K:PySem.W.Frag):Sp:=fun vs H Q _=>∃ (p dx nm:Addr) (n:Tx) (hs:List Tx) (tv lv sv:V),vs=[.ref p,.ref nm,tv,lv,sv]∧H p=some (.ins A.zai dx [])∧SqT K H nm (vsts (n :: hs)) ∧
 ∀ (H':Hp) (h:Addr),H h=none→H' p=some (.ins A.zai dx (tfl n h tv lv sv))→H' h=some (.tup (vsts hs))→Sx p H H'→Q .non H'
section
variable {P:Program} {w:World} {K:PySem.W.Frag} {mg:Str→Option Value} {base:Heap} {A:Ad}
theorem zmi (T:Txt K mg A):FnOk P w K mg base CX0 1 A.zbi A.zcg ["self", "names", "told", "lines", "statements"] (sp_rt A K):=by
 refine T.zfd.ok zmp (fun vs H Q E h=>?_) (fun cdv Ar outer s H vs Q E hr h=>?_)
 ·obtain ⟨p,dx,nm,n,hs,tv,lv,sv,rfl,_⟩:=h
  rfl
 ·obtain ⟨p,dx,nm,n,hs,tv,lv,sv,rfl,hp,hn,q⟩:=h
  refine ⟨_,(pss_cons (RD.k_sfld (K:=K) rfl (pv 0) (pe_ix (RD.k_ixT (K:=K) rfl) (pv 1) pe_int (fun _ _=>rfl)) rfl)
   (pss_cons (RD.k_sfld (K:=K) rfl (pv 0) (pe_slice (RD.k_slT (K:=K) rfl) (pv 1) (po_some pe_int) po_none) rfl)
   (pss_cons (RD.k_sfld (K:=K) rfl (pv 0) (pv 2) rfl)
   (pss_cons (RD.k_sfld (K:=K) rfl (pv 0) (pv 3) rfl)
   (pss_one (RD.k_sfld (K:=K) rfl (pv 0) (pv 4) rfl)))))),?_⟩
  show tSeq _ _ _ [some (.ref p),some (.ref nm),some (tv),some (lv),some (sv)] H
  walk_at "rd"
  refine RD.ixT hn (show atI _ ((0:Nat):Int)=some (vst n) from at_n rfl) ?_
  walk_at "rd"
  refine ⟨p,A.zai,dx,[],rfl,hp,T.zeh,T.zlj,by decide,?_⟩
  have x1:=Sx.put (p:=p) (H:=H) (o := .ins A.zai dx (putF "name" (vst n) []))
  walk_at "rd"
  refine RD.slT (x1.stp hp hn) (fun z=>by
   have z1:HT.sIx (vsts (n :: hs)).length 0 (some ((1:Nat):Int))=0:=z.1
   rw [HT.sIx_nat,vsts_len,List.length_cons] at z1
   omega) fun h nh=>?_
  have ec:cutV (vsts (n :: hs)) (some ((1:Nat):Int)) none=vsts hs:=by
   rw [cut_from]
   rfl
  have ec':cutV (vsts (n :: hs)) (some 1) none=vsts hs:=ec
  rw [ec']
  have t1:=same_new (o := .tup (vsts hs)) nh
  have nh0:H h=none:=x1.free upd_same nh
  have ph:h ≠ p:=fun z=>by rw [z,hp] at nh0; cases nh0
  walk_at "rd"
  refine ⟨p,A.zai,dx,_,rfl,t1 _ _ upd_same,T.zeh,T.zki,(show (1:Nat) < 1000 by decide),?_⟩
  walk_at "rd"
  refine ⟨p,A.zai,dx,_,rfl,upd_same,T.zeh,T.zlk,(show (2:Nat) < 1000 by decide),?_⟩
  walk_at "rd"
  refine ⟨p,A.zai,dx,_,rfl,upd_same,T.zeh,T.zoc,(show (3:Nat) < 1000 by decide),?_⟩
  walk_at "rd"
  refine ⟨p,A.zai,dx,_,rfl,upd_same,T.zeh,T.zly,(show (4:Nat) < 1000 by decide),?_⟩
  refine q _ h nh0 (by rw [upd_same]; rfl) ?_ ?_
  ·rw [upd_ne ph,upd_ne ph,upd_ne ph,upd_ne ph]
   exact upd_same
  ·exact ((((x1.trans (Sx.same t1)).trans Sx.put).trans Sx.put).trans Sx.put).trans Sx.put
end
end Pf

namespace Pf
open PySem PySem.Spec PyProof.Rows L2 SX RD PR
section
variable {A:Ad} {K:PySem.W.Frag} {H:Hp} {p la sl bl:Addr} {bs:List Addr} {lines:List Tx} {off:Nat} {stms:List Stm} {blocks:List (Nat × Bool)} {lab:Bool}
theorem RdrAt.keep {H':Hp} (r:RdrAt A K H p la sl bl bs lines off stms blocks lab) (k:Kp H H') (h1:∀ o,H p=some o→H' p=some o) (h2:∀ o,H la=some o→H' la=some o) (h3:∀ o,H sl=some o→H' sl=some o) (h4:∀ o,H bl=some o→H' bl=some o) (h5:∀ q∈bs,∀ o,H q=some o→H' q=some o) :
  RdrAt A K H' p la sl bl bs lines off stms blocks lab where
 ob:=r.ob.imp fun _ h=>h1 _ h
 li:=h2 _ r.li
 st:=r.st.imp fun _ h=>⟨h3 _ h.1,paired_imp (fun _ _ z=>k.stm z) h.2⟩
 bk:=h4 _ r.bk
 nd:=r.nd
 pr:=by
  have:∀ {bs:List Addr} {blocks:List (Nat × Bool)},Paired (BlAt H) bs blocks→(∀ q∈bs,∀ o,H q=some o→H' q=some o)→Paired (BlAt H') bs blocks:=by
   intro bs blocks h
   induction h with
   | nil=>intro _; exact .nil
   | cons e t ih=>intro k; exact .cons (k _ List.mem_cons_self _ e) (ih fun q hq=>k q (List.mem_cons_of_mem _ hq))
  exact this r.pr h5
theorem RdrAt.bne (r:RdrAt A K H p la sl bl bs lines off stms blocks lab) {C dx:Addr} {fs:List (Str × V)} {x:Addr} (h:H x=some (.ins C dx fs)):la ≠ x∧sl ≠ x∧bl ≠ x∧∀ q∈bs,q ≠ x:=by
 refine ⟨fun z=>?_,fun z=>?_,fun z=>?_,fun q hq z=>?_⟩
 ·have:=r.li; rw [z,h] at this; cases this
 ·obtain ⟨_,this,_⟩:=r.st; rw [z,h] at this; cases this
 ·have:=r.bk; rw [z,h] at this; cases this
 ·obtain ⟨b,_,this⟩:=paired_mem r.pr q hq
  have this:H q=some (.lst [vn b.1,.bl b.2]):=this
  rw [z,h] at this; cases this
theorem RdrAt.labd (r:RdrAt A K H p la sl bl bs lines off stms blocks lab) {dx:Addr} (h:H p=some (.ins A.zaa dx (rfl_ la sl bl off lab))) (l2:Bool) :
  RdrAt A K (upd H p (.ins A.zaa dx (rfl_ la sl bl off l2))) p la sl bl bs lines off stms blocks l2:=by
 obtain ⟨n1,n2,n3,n4⟩:=r.bne h
 have k:Kp H (upd H p (.ins A.zaa dx (rfl_ la sl bl off l2))):=Kp.ins h
 refine ⟨⟨dx,upd_same⟩,by rw [upd_ne n1]; exact r.li,r.st.imp fun _ z=>⟨by rw [upd_ne n2]; exact z.1,paired_imp (fun _ _ y=>k.stm y) z.2⟩,by rw [upd_ne n3]; exact r.bk,r.nd,?_⟩
 have:∀ {bs:List Addr} {blocks:List (Nat × Bool)},Paired (BlAt H) bs blocks→(∀ q∈bs,q ≠ p)→Paired (BlAt (upd H p (.ins A.zaa dx (rfl_ la sl bl off l2)))) bs blocks:=by
  intro bs blocks h
  induction h with
  | nil=>intro _; exact .nil
  | cons e t ih=>intro k; exact .cons (by show upd _ _ _ _=_; rw [upd_ne (k _ List.mem_cons_self)]; exact e) (ih fun q hq=>k q (List.mem_cons_of_mem _ hq))
 exact this r.pr n4
theorem RdrAt.stmd (r:RdrAt A K H p la sl bl bs lines off stms blocks lab) (nd:(la :: sl :: bl :: bs).Nodup) {svs:List V} {stms2:List Stm} (h:Paired (StmAt K H) svs stms2) :
  RdrAt A K (upd H sl (.lst svs)) p la sl bl bs lines off stms2 blocks lab:=by
 obtain ⟨s0,hs0,_⟩:=r.st
 obtain ⟨dx,ob⟩:=r.ob
 have k:Kp H (upd H sl (.lst svs)):=Kp.lst hs0
 rw [List.nodup_cons,List.nodup_cons] at nd
 obtain ⟨n1,n2,n3⟩:=nd
 have e1:la ≠ sl:=fun z=>n1 (by rw [z]; exact List.mem_cons_self)
 have e2:bl ≠ sl:=fun z=>n2 (by rw [z]; exact List.mem_cons_self)
 have e3:∀ q∈bs,q ≠ sl:=fun q hq z=>n2 (by rw [← z]; exact List.mem_cons_of_mem _ hq)
 have e4:p ≠ sl:=fun z=>by rw [z,hs0] at ob; cases ob
 refine ⟨⟨dx,by rw [upd_ne e4]; exact ob⟩,by rw [upd_ne e1]; exact r.li,⟨svs,upd_same,paired_imp (fun _ _ y=>k.stm y) h⟩,by rw [upd_ne e2]; exact r.bk,r.nd,?_⟩
 have:∀ {bs:List Addr} {blocks:List (Nat × Bool)},Paired (BlAt H) bs blocks→(∀ q∈bs,q ≠ sl)→Paired (BlAt (upd H sl (.lst svs))) bs blocks:=by
  intro bs blocks h
  induction h with
  | nil=>intro _; exact .nil
  | cons e t ih=>intro k; exact .cons (by show upd _ _ _ _=_; rw [upd_ne (k _ List.mem_cons_self)]; exact e) (ih fun q hq=>k q (List.mem_cons_of_mem _ hq))
 exact this r.pr e3
theorem RdrAt.blkd {H':Hp} {bs2:List Addr} {blocks2:List (Nat × Bool)} (r:RdrAt A K H p la sl bl bs lines off stms blocks lab) (k:Kp H H') (h1:∀ o,H p=some o→H' p=some o) (h2:∀ o,H la=some o→H' la=some o) (h3:∀ o,H sl=some o→H' sl=some o)
  (h4:H' bl=some (.lst (bs2.map V.ref))) (h5:bs2.Nodup) (h6:Paired (BlAt H') bs2 blocks2):RdrAt A K H' p la sl bl bs2 lines off stms blocks2 lab where
 ob:=r.ob.imp fun _ h=>h1 _ h
 li:=h2 _ r.li
 st:=r.st.imp fun _ h=>⟨h3 _ h.1,paired_imp (fun _ _ z=>k.stm z) h.2⟩
 bk:=h4
 nd:=h5
 pr:=h6
theorem bl_keep {H':Hp}:∀ {bs:List Addr} {blocks:List (Nat × Bool)},Paired (BlAt H) bs blocks→(∀ q∈bs,∀ o,H q=some o→H' q=some o)→Paired (BlAt H') bs blocks
 | _,_,.nil,_ => .nil
 | _,_,.cons e t,k => .cons (k _ List.mem_cons_self _ e) (bl_keep t fun q hq=>k q (List.mem_cons_of_mem _ hq))
end
theorem NamesAt.keep {A:Ad} {H H':Hp} {p sl:Addr} {ds:List Addr} {sc:List PR.Scope} (n:NamesAt A H p sl ds sc) (h1:∀ o,H p=some o→H' p=some o) (h2:∀ o,H sl=some o→H' sl=some o) (h3:∀ q∈ds,∀ o,H q=some o→H' q=some o):NamesAt A H' p sl ds sc :=
 ⟨n.ob.imp fun _ h=>h1 _ h,h2 _ n.ls,n.nd,pairs_keep n.pr h3⟩
end Pf

namespace RD
open PySem PySem.Spec PyProof.Rows L2
theorem cutV_whole {xs:List V} {lo hi:Option Int} (h:HT.sIx xs.length 0 lo=0∧HT.sIx xs.length xs.length hi=xs.length):cutV xs lo hi=xs:=by
 unfold cutV
 rw [h.1,h.2]
 simp
theorem slA {K:PySem.W.Frag} {H:Hp} {Q:VK} {a:Addr} {xs:List V} {lo hi:Option Int} (h:SqT K H a xs) (q:∀ H' p,Same H H'→SqT K H' p (cutV xs lo hi)→Q (.ref p) H'):rSlA K (.ref a) lo hi H Q :=
 ⟨a,xs,rfl,h,fun e=>q H a (Same.refl _) (by rw [cutV_whole e]; exact h),fun _ p np=>q _ p (same_new np) (.inl (.inl upd_same))⟩
theorem ixN_n {n j:Nat} (h:j < n):ixN n (j:Int)=some j:=by
 unfold ixN
 rw [if_pos (by omega),if_pos (by omega)]
 simp
theorem setLe {H:Hp} {v:V} {a:Addr} {xs ys:List V} {k:Int} {j:Nat} {QH:Hp→Prop} (h:H a=some (.lst xs)) (hk:ixN xs.length k=some j) (e:xs.set j v=ys) (q:QH (upd H a (.lst ys))):rSetL (.ref a) (.int k) v H QH:=setL h hk (by rw [e]; exact q)
theorem unl2p {σ : L2.St} {H:Hp} {K:PySem.W.Frag} {i j:Nat} {T:Addr} {x y:V} {QG:L2.St→Hp→Prop} (h:SqL K H T [x,y]) (q:gName i x σ H fun σ1 H1=>gName j y σ1 H1 QG):gUnl K 2 (gCons (gName i) (gCons (gName j) gNil)) (.ref T) σ H QG:=⟨T,[x,y],rfl,h,rfl,x,[y],rfl,y,[],rfl,rfl,q⟩
end RD
namespace Pf
open PySem PySem.Spec PyProof.Rows L2 SX RD PR
def Off (M:List Addr) (H H':Hp):Prop:=∀ a o,H a=some o→a ∉ M→H' a=some o
theorem Off.refl {M:List Addr} {H:Hp}:Off M H H:=fun _ _ e _=>e
theorem Off.trans {M:List Addr} {H1 H2 H3:Hp} (a:Off M H1 H2) (b:Off M H2 H3):Off M H1 H3:=fun x o e n=>b x o (a x o e n) n
theorem Off.put {M:List Addr} {H:Hp} {x:Addr} {o:HO} (h:x∈M):Off M H (upd H x o):=fun a u e n=>by rw [upd_ne (fun z=>n (by rw [z]; exact h))]; exact e
theorem Off.same {M:List Addr} {H H':Hp} (s:Same H H'):Off M H H':=fun a o e _=>s a o e
structure Both (A:Ad) (K:PySem.W.Frag) (H0:Hp) (M:List Addr) (H:Hp) (p la sl bl kn ssl:Addr) (bs ds:List Addr) (lines:List Tx) (off:Nat) (stms:List Stm) (blocks:List (Nat × Bool)) (lab:Bool) (sc:List PR.Scope):Prop where
 rd:RdrAt A K H p la sl bl bs lines off stms blocks lab
 nm:NamesAt A H kn ssl ds sc
 nd:(la :: sl :: bl :: ssl :: bs).Nodup
 of:Off M H0 H
 fr:∀ x,H x=none→H0 x=none
section
variable {A:Ad} {K:PySem.W.Frag} {H0 H H':Hp} {M:List Addr} {p la sl bl kn ssl:Addr} {bs ds:List Addr} {lines:List Tx} {off:Nat} {stms:List Stm} {blocks:List (Nat × Bool)} {lab:Bool} {sc:List PR.Scope}
theorem Both.same (s:Same H H') (h:Both A K H0 M H p la sl bl kn ssl bs ds lines off stms blocks lab sc):Both A K H0 M H' p la sl bl kn ssl bs ds lines off stms blocks lab sc :=
 ⟨h.rd.same s,h.nm.same s,h.nd,h.of.trans (Off.same s),fun x e=>h.fr x (s.free e)⟩
theorem Both.put {bs2:List Addr} {stms2:List Stm} {blocks2:List (Nat × Bool)} {lab2:Bool} {x:Addr} {zs:List V} {o:HO} (h:Both A K H0 M H p la sl bl kn ssl bs ds lines off stms blocks lab sc) (hx:H x=some (.lst zs)) (hm:x∈M) (hn:ssl ≠ x)
  (hr:RdrAt A K (upd H x o) p la sl bl bs2 lines off stms2 blocks2 lab2) (nd:(la :: sl :: bl :: ssl :: bs2).Nodup):Both A K H0 M (upd H x o) p la sl bl kn ssl bs2 ds lines off stms2 blocks2 lab2 sc:=by
 obtain ⟨dxn,obn⟩:=h.nm.ob
 refine ⟨hr,h.nm.keep (fun o e=>by rw [upd_ne (fun z=>by rw [z,hx] at obn; cases obn)]; exact e) (fun o e=>by rw [upd_ne hn]; exact e) (fun d hd o e=>?_),nd,h.of.trans (Off.put hm),fun y hy=>?_⟩
 ·obtain ⟨sc,_,hsc⟩:=paired_mem h.nm.pr d hd
  have hsc:H d=some (.dK (sc.map kvT)):=hsc
  rw [upd_ne (fun z=>by rw [z,hx] at hsc; cases hsc)]
  exact e
 ·by_cases z:y=x
  ·rw [z,upd_same] at hy; cases hy
  ·rw [upd_ne z] at hy; exact h.fr y hy
theorem Both.blk {bi:List Addr} {b:Addr} {bk:List (Nat × Bool)} {e:Nat × Bool} (h:Both A K H0 M H p la sl bl kn ssl (bi++[b]) ds lines off stms (bk++[e]) lab sc) (hm:b∈M) (e2:Nat × Bool) :
  Both A K H0 M (upd H b (.lst [vn e2.1,.bl e2.2])) p la sl bl kn ssl (bi++[b]) ds lines off stms (bk++[e2]) lab sc:=by
 have hb:H b=some (.lst [vn e.1,.bl e.2]):=(paired_split h.rd.pr).2
 have nd:=h.nd
 rw [List.nodup_cons,List.nodup_cons,List.nodup_cons,List.nodup_cons] at nd
 obtain ⟨m1,m2,m3,m4,m5⟩:=nd
 obtain ⟨dx,ob⟩:=h.rd.ob
 have bm:b∈bi++[b]:=by simp
 refine h.put hb hm (fun z=>m4 (by rw [z]; exact bm)) (h.rd.blkd (Kp.lst hb) (fun o e=>by rw [upd_ne (fun z=>by rw [z,hb] at ob; cases ob)]; exact e) (fun o e=>by rw [upd_ne (fun z=>m1 (by rw [z]; simp))]; exact e) (fun o e=>by rw [upd_ne (fun z=>m2 (by rw [z]; simp))]; exact e)
  (by rw [upd_ne (fun z=>m3 (by rw [z]; simp))]; exact h.rd.bk) h.rd.nd (pr_app (bl_keep (paired_split h.rd.pr).1 fun q hq o e=>?_) (.cons upd_same .nil))) h.nd
 rw [upd_ne (fun z=>?_)]
 ·exact e
 ·rw [List.nodup_append] at m5
  exact m5.2.2 q hq b (by simp) z
theorem Both.stm {svs:List V} {stms2:List Stm} (h:Both A K H0 M H p la sl bl kn ssl bs ds lines off stms blocks lab sc) (hm:sl∈M) (hs:Paired (StmAt K H) svs stms2):Both A K H0 M (upd H sl (.lst svs)) p la sl bl kn ssl bs ds lines off stms2 blocks lab sc:=by
 have nd:=h.nd
 have nd3:(la :: sl :: bl :: bs).Nodup:=nd.sublist (((List.Sublist.refl bs).cons ssl).cons₂ bl |>.cons₂ sl |>.cons₂ la)
 rw [List.nodup_cons,List.nodup_cons] at nd
 obtain ⟨sv0,e0,_⟩:=h.rd.st
 exact h.put e0 hm (fun z=>nd.2.1 (by rw [← z]; simp)) (h.rd.stmd nd3 hs) h.nd
theorem Both.pop {bi:List Addr} {b:Addr} {bk:List (Nat × Bool)} {e:Nat × Bool} (h:Both A K H0 M H p la sl bl kn ssl (bi++[b]) ds lines off stms (bk++[e]) lab sc) (hm:bl∈M) :
  Both A K H0 M (upd H bl (.lst (bi.map V.ref))) p la sl bl kn ssl bi ds lines off stms bk lab sc:=by
 have nd:=h.nd
 have nd2:(la :: sl :: bl :: ssl :: bi).Nodup:=nd.sublist ((List.sublist_append_left bi [b]).cons₂ ssl |>.cons₂ bl |>.cons₂ sl |>.cons₂ la)
 rw [List.nodup_cons,List.nodup_cons,List.nodup_cons,List.nodup_cons] at nd
 obtain ⟨m1,m2,m3,m4,m5⟩:=nd
 obtain ⟨dx,ob⟩:=h.rd.ob
 have hb:=h.rd.bk
 refine h.put hb hm (fun z=>m3 (by rw [← z]; simp)) (h.rd.blkd (Kp.lst hb) (fun o e=>by rw [upd_ne (fun z=>by rw [z,hb] at ob; cases ob)]; exact e) (fun o e=>by rw [upd_ne (fun z=>m1 (by rw [z]; simp))]; exact e) (fun o e=>by rw [upd_ne (fun z=>m2 (by rw [z]; simp))]; exact e)
  upd_same ((List.nodup_append.mp m5).1) (bl_keep (paired_split h.rd.pr).1 fun q hq o e=>?_)) nd2
 rw [upd_ne (fun z=>m3 (by rw [← z]; simp [hq]))]
 exact e
theorem Both.scp {ds2:List Addr} {sc2:List PR.Scope} (h:Both A K H0 M H p la sl bl kn ssl bs ds lines off stms blocks lab sc) (hm:ssl∈M) (hn:NamesAt A H' kn ssl ds2 sc2) (sx:Sx ssl H H'):Both A K H0 M H' p la sl bl kn ssl bs ds2 lines off stms blocks lab sc2:=by
 have nd:=h.nd
 rw [List.nodup_cons,List.nodup_cons,List.nodup_cons,List.nodup_cons] at nd
 obtain ⟨m1,m2,m3,m4,m5⟩:=nd
 have hls:=h.nm.ls
 have fr:∀ x,H' x=none→H x=none:=fun x e=>by
  cases hh:H x with
  | none=>rfl
  | some o =>
   by_cases z:x=ssl
   ·rw [z,hn.ls] at e; cases e
   ·rw [sx x o hh z] at e; cases e
 obtain ⟨dx,ob⟩:=h.rd.ob
 refine ⟨h.rd.keep ?_ (fun o e=>sx _ _ e ?_) (fun o e=>sx _ _ e ?_) (fun o e=>sx _ _ e ?_) (fun o e=>sx _ _ e ?_) (fun q hq o e=>sx _ _ e ?_),hn,h.nd,h.of.trans fun x o e n=>sx x o e fun z=>n (by rw [z]; exact hm),fun x e=>h.fr x (fr x e)⟩
 ·intro x xs e
  rcases e with e | ⟨o,e⟩
  ·exact .inl (sx x _ e fun z=>by rw [z,hls] at e; cases e)
  ·exact .inr ⟨o,sx x _ e fun z=>by rw [z,hls] at e; cases e⟩
 ·intro z; rw [z,hls] at ob; cases ob
 ·intro z; exact m1 (by rw [z]; simp)
 ·intro z; exact m2 (by rw [z]; simp)
 ·intro z; exact m3 (by rw [z]; simp)
 ·intro z; exact m4 (by rw [← z]; exact hq)
end
theorem head_cut {K:PySem.W.Frag} {H:Hp} {v:V} {s:Stm} {b:Bool} (ho:opens b s=true) (h:StmAt K H v s):∃ a xs,v = .ref a∧SqT K H a xs∧(cutV xs none (some (2 - (if b=true then 1 else 0)))).length≤2 ∧
  ∀ (n:Nat) (H':Hp) (q:Addr),Kp H H'→H' q=some (.tup (cutV xs none (some (2 - (if b=true then 1 else 0)))++[vn n]))→StmAt K H' (.ref q) (retarget n s):=by
 obtain ⟨a,rfl,h⟩:=h
 cases b with
 | false =>
  cases s with
  | iff c to =>
   cases to with
   | none =>
    obtain ⟨cv,h1,h2⟩:=h
    exact ⟨a,_,rfl,h1,by show (2:Nat)≤2; decide,fun n H' q k e=>⟨q,rfl,cv,.inl (.inl e),k.cond h2⟩⟩
   | some m =>
    obtain ⟨cv,h1,h2⟩:=h
    exact ⟨a,_,rfl,h1,by show (2:Nat)≤2; decide,fun n H' q k e=>⟨q,rfl,cv,.inl (.inl e),k.cond h2⟩⟩
  | _=>exact absurd ho (by simp [opens,isIf])
 | true =>
  cases s with
  | els to =>
   cases to with
   | none=>exact ⟨a,_,rfl,h,by show (1:Nat)≤2; decide,fun n H' q k e=>⟨q,rfl,.inl (.inl e)⟩⟩
   | some m=>exact ⟨a,_,rfl,h,by show (1:Nat)≤2; decide,fun n H' q k e=>⟨q,rfl,.inl (.inl e)⟩⟩
  | _=>exact absurd ho (by simp [opens,isEls])
theorem paired_set {α β : Type} {R : α→β→Prop} {f : β→β}:∀ {l:List α} {m:List β} {i:Nat} {a : α} {b : β},Paired R l m→m[i]? = some b→R a (f b)→Paired R (l.set i a) (m.modify i f)
 | _,_,_,_,_,.nil,h,_=>by simp at h
 | _,_,0,_,_,.cons e t,h,r=>by
  cases (Option.some.inj h)
  exact .cons r t
 | _,_,i + 1,_,_,.cons e t,h,r => .cons e (paired_set t (by simpa using h) r)
end Pf

namespace Pf
open PySem PySem.Spec PyProof.Rows L2 SX RD PR
def sp_add (A:Ad) (K:PySem.W.Frag):Sp:=fun vs H Q _=>∃ (p la sl bl kn ssl:Addr) (bs ds:List Addr) (lines:List Tx) (off:Nat) (r:Rdr) (sv:V) (s:Stm),vs=[.ref p,sv,vn r.stms.length,.ref kn] ∧
 RdrAt A K H p la sl bl bs lines off r.stms r.blocks r.lab∧NamesAt A H kn ssl ds r.scopes∧kn ≠ p∧(la :: sl :: bl :: ssl :: bs).Nodup∧StmAt K H sv s∧Rok r∧r.stms.length≤1000∧r.blocks.length≤900 ∧
 ((isEls s=true∨s = .fin)→r.blocks ≠ [])∧(isEls s=true→(r.blocks.getLast?.getD (0,true)).2=false)∧(∀ x,s ≠ .drop x none) ∧
 ∀ (H':Hp) (bs' ds':List Addr),RdrAt A K H' p la sl bl bs' lines off (add r r.stms.length s).stms (add r r.stms.length s).blocks (add r r.stms.length s).lab→NamesAt A H' kn ssl ds' (add r r.stms.length s).scopes →
  (la :: sl :: bl :: ssl :: bs').Nodup→(∀ x∈bs',x∈bs∨H x=none)→(∀ x∈ds',x∈ds∨H x=none)→Off (p :: sl :: bl :: ssl :: bs) H H'→Q .non H'
section
variable {P:Program} {w:World} {K:PySem.W.Frag} {mg:Str→Option Value} {base:Heap} {A:Ad}
theorem zlw (T:Txt K mg A):FnOk P w K mg base CX0 2 A.zb2 A.zb4 ["self", "statement", "at", "known"] (sp_add A K):=by
 have zi6:=zml (P:=P) (w:=w) (base:=base) T
 have ziu:=zl1 (P:=P) (w:=w) (base:=base) T
 refine T.ze1.ok zdd (fun vs H Q E h=>?_) (fun cdv Ar outer s H vs Q E hr h=>?_)
 ·obtain ⟨p,la,sl,bl,kn,ssl,bs,ds,lines,off,r,sv,s,rfl,_⟩:=h
  rfl
 ·obtain ⟨p,la,sl,bl,kn,ssl,bs,ds,lines,off,r,sv,s,rfl,hr0,hn,hkp,nd,hs,hok,hz1,hz2,hbl,hels,hdr,q⟩:=h
  refine ⟨_,(pss_cons (ps_set (i:=4) zdd.nd rfl (Or.inl rfl) (pe_ix (RD.k_ixT (K:=K) rfl) (pv 1) pe_int (fun _ _=>rfl)))
   (RD.pss_cut (ps_if (PW.pt (pw_or (pt_cmpR (RD.k_in (K:=K) rfl) (pv 4) (pe_glob (v := .ref A.zbx) rfl T.zbx rfl) (by rfl)) (pw_or1 (PW.pt (pw_and (pt_cmpR op_eq (pv 4) pe_str (nomark _)) (pw_and1 (pt_cmpR op_ne (pe_ix (RD.k_ixT (K:=K) rfl) (pv 1) pe_int (fun _ _=>rfl)) (RD.pe_gl (by rfl) T.zdp) (nomark _))))))))
   (pss_one (RD.k_sfld (K:=K) rfl (pv 0) pe_bl rfl))
   pss_nil)
   (pss_cons (ps_expr (RD.k_bm (K:=K) rfl PySem.F.plainAttrs_list PySem.F.slot_list_append PySem.F.type_list_append mt_append (RD.k_fld (K:=K) rfl (pv 0) rfl) (pa_cons (pv 1) pa_nil)))
   (RD.pss_cut (ps_if (pt_cmpR op_eq (pv 4) pe_str (nomark _))
   (pss_cons (ps_expr (RD.k_bm (K:=K) rfl PySem.F.plainAttrs_list PySem.F.slot_list_append PySem.F.type_list_append mt_append (RD.k_fld (K:=K) rfl (pv 0) rfl) (pa_cons (pe_lst (pa_cons (pv 2) (pa_cons pe_bl pa_nil))) pa_nil)))
   (pss_one (ps_expr (pe_meth0 (pv 3) T.zbs T.zi2 zi6 (hr.mono (by decide)) T.zi8 .nil pass0))))
   pss_nil)
   (RD.pss_cut (ps_if (pt_cmpR op_eq (pv 4) pe_str (nomark _))
   (pss_cons (ps_asg pe_bl (pg_sub (pe_ix (RD.k_ixL (K:=K) rfl) (RD.k_fld (K:=K) rfl (pv 0) rfl) (pe_un un_neg pe_int) (fun _ _=>rfl)) pe_int set_list))
   (pss_cons (ps_set (i:=5) zdd.nd rfl (Or.inl rfl) (pe_ix (RD.k_ixL (K:=K) rfl) (pe_ix (RD.k_ixL (K:=K) rfl) (RD.k_fld (K:=K) rfl (pv 0) rfl) (pe_un un_neg pe_int) (fun _ _=>rfl)) pe_int (fun _ _=>rfl)))
   (pss_cons (ps_asg (pe_tup (StX.pa_star (pe_slice (RD.k_slA (K:=K) rfl) (pe_ix (RD.k_ixL (K:=K) rfl) (RD.k_fld (K:=K) rfl (pv 0) rfl) (pv 5) (fun _ _=>rfl)) po_none (po_some pe_int)) (pa_cons (pe_op op_add (pv 2) pe_int) pa_nil))) (pg_sub (RD.k_fld (K:=K) rfl (pv 0) rfl) (pv 5) set_list))
   (pss_cons (ps_asg (pv 2) (pg_sub (pe_ix (RD.k_ixL (K:=K) rfl) (RD.k_fld (K:=K) rfl (pv 0) rfl) (pe_un un_neg pe_int) (fun _ _=>rfl)) pe_int set_list))
   (pss_cons (ps_expr (pe_meth0 (pv 3) T.zbs T.zit ziu (hr.mono (by decide)) T.zir .nil pass0))
   (pss_one (ps_expr (pe_meth0 (pv 3) T.zbs T.zi2 zi6 (hr.mono (by decide)) T.zi8 .nil pass0))))))))
   pss_nil)
   (pss_one (ps_if (pt_cmpR op_eq (pv 4) pe_str (nomark _))
   (pss_cons (ps_asg (RD.k_bm0 (K:=K) rfl PySem.F.plainAttrs_list PySem.F.slot_list_pop PySem.F.type_list_pop mt_pop (RD.k_fld (K:=K) rfl (pv 0) rfl)) (pg_unl rfl (pgs_cons (pg_name (i:=5) zdd.nd rfl (Or.inl rfl)) (pgs_cons (pg_name (i:=6) zdd.nd rfl (Or.inl rfl)) pgs_nil))))
   (pss_cons (ps_asg (pe_tup (StX.pa_star (pe_slice (RD.k_slA (K:=K) rfl) (pe_ix (RD.k_ixL (K:=K) rfl) (RD.k_fld (K:=K) rfl (pv 0) rfl) (pv 5) (fun _ _=>rfl)) po_none (po_some (pe_op op_sub pe_int (pe_callTy RD.k_int (by rfl) T.zcn (by decide +kernel) (pa_cons (pv 6) pa_nil))))) (pa_cons (pv 2) pa_nil))) (pg_sub (RD.k_fld (K:=K) rfl (pv 0) rfl) (pv 5) set_list))
   (pss_one (ps_expr (pe_meth0 (pv 3) T.zbs T.zit ziu (hr.mono (by decide)) T.zir .nil pass0)))))
   pss_nil))))))),?_⟩
  show tSeq _ _ _ [some (.ref p),some (sv),some (vn r.stms.length),some (.ref kn),none,none,none] H
  obtain ⟨a,xs,rfl,ha⟩:=hs.head
  obtain ⟨dx,ob⟩:=hr0.ob
  walk_at "rd"
  refine RD.ixT ha (show atI _ ((0:Nat):Int)=some (vst (tx (headS s))) from at_n rfl) ?_
  walk_at "rd"
  have no:labels s=false→RdrAt A K H p la sl bl bs lines off r.stms r.blocks (r.lab || labels s)∧NamesAt A H kn ssl ds r.scopes∧StmAt K H (.ref a) s∧Off (p :: sl :: bl :: ssl :: bs) H H∧∀ x,H x=none→H x=none:=fun e=>by
   rw [e,Bool.or_false]
   exact ⟨hr0,hn,hs,Off.refl,fun _ z=>z⟩
  have yes:labels s=true→RdrAt A K (upd H p (.ins A.zaa dx (rfl_ la sl bl off true))) p la sl bl bs lines off r.stms r.blocks (r.lab || labels s)∧NamesAt A (upd H p (.ins A.zaa dx (rfl_ la sl bl off true))) kn ssl ds r.scopes∧StmAt K (upd H p (.ins A.zaa dx (rfl_ la sl bl off true))) (.ref a) s ∧
    Off (p :: sl :: bl :: ssl :: bs) H (upd H p (.ins A.zaa dx (rfl_ la sl bl off true)))∧∀ x,upd H p (.ins A.zaa dx (rfl_ la sl bl off true)) x=none→H x=none:=fun e=>by
   rw [e,Bool.or_true]
   have hls:=hn.ls
   refine ⟨hr0.labd ob true,hn.keep (fun o h=>by rw [upd_ne hkp]; exact h) (fun o h=>by rw [upd_ne (fun z=>by rw [z,ob] at hls; cases hls)]; exact h) (fun d hd o h=>?_),(Kp.ins ob).stm hs,Off.put List.mem_cons_self,fun x hx=>?_⟩
   ·obtain ⟨sc,_,hsc⟩:=paired_mem hn.pr d hd
    have hsc:H d=some (.dK (sc.map kvT)):=hsc
    rw [upd_ne (fun z=>by rw [z,ob] at hsc; cases hsc)]
    exact h
   ·by_cases z:x=p
    ·rw [z,upd_same] at hx; cases hx
    ·rw [upd_ne z] at hx; exact hx
  refine RD.cut (fun σ H'=>σ = [some (.ref p),some (.ref a),some (vn r.stms.length),some (.ref kn),some (vst (tx (headS s))),none,none]∧RdrAt A K H' p la sl bl bs lines off r.stms r.blocks (r.lab || labels s)∧NamesAt A H' kn ssl ds r.scopes∧StmAt K H' (.ref a) s∧Off (p :: sl :: bl :: ssl :: bs) H H'∧∀ x,H' x=none→H x=none) ?_ ?_
  ·walk_at "rd"
   refine RD.inT (ls:=labL) (by rw [← vsts_labL]; exact T.zlf _) ?_
   walk_at "rd"
   refine RD.dec (fun h1=>?_) (fun h1=>?_)
   ·have el:labels s=true:=by
     unfold labL at h1
     obtain ⟨x,hx,ex⟩:=List.mem_map.mp h1
     have ex:=tx_inj ex
     subst ex
     cases s <;> first | rfl | (exact absurd hx (by simp [headS]))
    walk_at "rn"
    exact ⟨p,A.zaa,dx,_,rfl,ob,T.zae,T.zbc,(show (5:Nat) < 1000 by decide),rfl,yes el⟩
   ·walk_at "rd"
    refine RD.dec (fun h2=>?_) (fun h2=>?_)
    ·have h2:=tx_inj h2
     obtain ⟨x,k,rfl⟩:∃ x k,s = .drop x (some k):=by
      cases s with
      | drop x k =>
       cases k with
       | none=>exact absurd rfl (hdr x)
       | some k=>exact ⟨x,k,rfl⟩
      | _=>exact absurd h2 (by simp [headS])
     obtain ⟨a2,e2,h3⟩:=id hs
     cases e2
     have h3:SqT K H a [vst (tx "drop"),vst x,vst k]:=h3
     have el:labels (.drop x (some k)) = !decide (k=half):=by
      show decide (some k ≠ some half)=_
      by_cases z:k=half
      ·simp [z]
      ·simp [z]
     walk_at "rd"
     refine RD.ixT h3 (show atI _ ((2:Nat):Int)=some (vst k) from at_n rfl) ?_
     walk_at "rd"
     refine RD.ndec (fun h4=>?_) (fun h4=>?_)
     ·walk_at "rd"
      exact ⟨p,A.zaa,dx,_,rfl,ob,T.zae,T.zbc,(show (5:Nat) < 1000 by decide),rfl,yes (by rw [el,decide_eq_false (show ¬ k=half from h4)]; rfl)⟩
     ·walk_at "rd"
      exact ⟨rfl,no (by rw [el,decide_eq_true (show k=half from h4)]; rfl)⟩
    ·walk_at "rn"
     refine ⟨rfl,no ?_⟩
     cases s with
     | drop x k=>exact absurd rfl h2
     | new x k=>exact absurd (by unfold labL; exact List.mem_map.mpr ⟨"new", by simp,rfl⟩) h1
     | bear x k v=>exact absurd (by unfold labL; exact List.mem_map.mpr ⟨"bear", by simp,rfl⟩) h1
     | round x k v=>exact absurd (by unfold labL; exact List.mem_map.mpr ⟨"round", by simp,rfl⟩) h1
     | some_ x k v=>exact absurd (by unfold labL; exact List.mem_map.mpr ⟨"some", by simp,rfl⟩) h1
     | _=>rfl
  rintro σ H1 ⟨rfl,hr1,hn1,hs1,of1,fr1⟩
  clear yes no
  obtain ⟨svs,hsl,hsp⟩:=hr1.st
  obtain ⟨dx1,ob1⟩:=hr1.ob
  have lsv:=paired_len hsp
  walk_at "rd"
  refine ⟨p,A.zaa,dx1,_,_,rfl,ob1,T.zae,T.zao,rfl,RD.tyL (sq hsl),?_⟩
  walk_at "rd"
  refine RD.app hsl (szt (by omega)) ?_
  have nd3:(la :: sl :: bl :: bs).Nodup:=nd.sublist (((List.Sublist.refl bs).cons ssl).cons₂ bl |>.cons₂ sl |>.cons₂ la)
  have ssln:ssl ≠ sl:=fun z=>by
   rw [List.nodup_cons,List.nodup_cons] at nd
   exact nd.2.1 (by rw [← z]; simp)
  have hr2:=hr1.stmd nd3 (svs:=svs++[.ref a]) (stms2:=r.stms++[s]) (pr_app hsp (.cons hs1 .nil))
  have hn2:NamesAt A (upd H1 sl (.lst (svs++[.ref a]))) kn ssl ds r.scopes:=by
   obtain ⟨dxn,obn⟩:=hn1.ob
   refine hn1.keep (fun o h=>by rw [upd_ne (fun z=>by rw [z,hsl] at obn; cases obn)]; exact h) (fun o h=>by rw [upd_ne ssln]; exact h) (fun d hd o h=>?_)
   obtain ⟨sc,_,hsc⟩:=paired_mem hn1.pr d hd
   have hsc:H1 d=some (.dK (sc.map kvT)):=hsc
   rw [upd_ne (fun z=>by rw [z,hsl] at hsc; cases hsc)]
   exact h
  have of2:=of1.trans (Off.put (M:=p :: sl :: bl :: ssl :: bs) (H:=H1) (x:=sl) (o := .lst (svs++[.ref a])) (by simp))
  have fr2:∀ x,upd H1 sl (.lst (svs++[.ref a])) x=none→H x=none:=fun x hx=>by
   by_cases z:x=sl
   ·rw [z,upd_same] at hx; cases hx
   ·rw [upd_ne z] at hx; exact fr1 x hx
  revert hr2 hn2 of2 fr2
  generalize upd H1 sl (.lst (svs++[.ref a]))=H2
  intro hr2 hn2 of2 fr2
  clear hr1 hn1 hs1 of1 fr1 hsl hsp ob1 lsv
  by_cases hi:headS s = "if"
  ·obtain ⟨c,to,rfl⟩:∃ c to,s = .iff c to:=by
    cases s with
    | iff c to=>exact ⟨c,to,rfl⟩
    | _=>exact absurd hi (by simp [headS])
   refine RD.cut (fun σ H'=>σ = [some (.ref p),some (.ref a),some (vn r.stms.length),some (.ref kn),some (vst (tx "if")),none,none]∧Q .non H') ?_ ?_
   ·walk_at "rd"
    refine RD.decT rfl ?_
    obtain ⟨dx2,ob2⟩:=hr2.ob
    walk_at "rd"
    refine ⟨p,A.zaa,dx2,_,_,rfl,ob2,T.zae,T.zan,rfl,RD.tyL (sq hr2.bk),?_⟩
    walk_at "rd"
    refine ⟨few,fun b nb=>?_⟩
    have t3:=same_new (o := .lst [vn r.stms.length,.bl false]) nb
    walk_at "rd"
    refine RD.app (t3 _ _ hr2.bk) (szt (by rw [List.length_map,paired_len hr2.pr]; omega)) ?_
    have hnt:=hn2.same t3
    have hrt:=hr2.same t3
    obtain ⟨dxn,obn⟩:=hnt.ob
    obtain ⟨dxt,obt⟩:=hrt.ob
    have hbk:=hrt.bk
    have slbl:sl ≠ bl∧la ≠ bl∧ssl ≠ bl∧(∀ q∈bs,q ≠ bl)∧la ≠ ssl∧sl ≠ ssl∧∀ q∈bs,q ≠ ssl:=by
     rw [List.nodup_cons,List.nodup_cons,List.nodup_cons,List.nodup_cons] at nd
     obtain ⟨m1,m2,m3,m4,_⟩:=nd
     refine ⟨fun z=>m2 (by rw [z]; simp),fun z=>m1 (by rw [z]; simp),fun z=>m3 (by rw [← z]; simp),fun q hq z=>m3 (by rw [← z]; simp [hq]),fun z=>m1 (by rw [z]; simp),fun z=>m2 (by rw [z]; simp),fun q hq z=>m4 (by rw [← z]; exact hq)⟩
    obtain ⟨z1,z2,z3,z4,z5,z6,z7⟩:=slbl
    have bne:∀ q o,H2 q=some o→q ≠ b:=fun q o e=>ne_of_none e nb
    have b_bl:b ≠ bl:=(bne _ _ hr2.bk).symm
    have b_ssl:b ≠ ssl:=(bne _ _ hn2.ls).symm
    have hn3:NamesAt A (upd (upd H2 b (.lst [vn r.stms.length,V.bl false])) bl (.lst (bs.map V.ref++[V.ref b]))) kn ssl ds r.scopes:=by
     refine hnt.keep (fun o h=>by rw [upd_ne (fun z=>by rw [z,hbk] at obn; cases obn)]; exact h) (fun o h=>by rw [upd_ne z3]; exact h) (fun d hd o h=>?_)
     obtain ⟨sc,_,hsc⟩:=paired_mem hnt.pr d hd
     have hsc:_=some (HO.dK (sc.map kvT)):=hsc
     rw [upd_ne (fun z=>by rw [z,hbk] at hsc; cases hsc)]
     exact h
    have bnb:b ∉ bs:=fun z=>by
     obtain ⟨e,_,he⟩:=paired_mem hr2.pr b z
     exact bne b _ he rfl
    have hr3:RdrAt A K (upd (upd H2 b (.lst [vn r.stms.length,V.bl false])) bl (.lst (bs.map V.ref++[V.ref b]))) p la sl bl (bs++[b]) lines off (r.stms++[.iff c to]) (r.blocks++[(r.stms.length,false)]) (r.lab || labels (.iff c to)):=by
     refine hrt.blkd (Kp.lst hbk) (fun o h=>by rw [upd_ne (fun z=>by rw [z,hbk] at obt; cases obt)]; exact h) (fun o h=>by rw [upd_ne z2]; exact h) (fun o h=>by rw [upd_ne z1]; exact h) (by rw [upd_same,List.map_append]; rfl) ?_ ?_
     ·exact List.nodup_append.mpr ⟨hr2.nd,by simp,fun x hx y hy e=>bnb (by rw [← List.mem_singleton.mp hy,← e]; exact hx)⟩
     ·refine pr_app (bl_keep hrt.pr fun q hq o h=>by rw [upd_ne (z4 q hq)]; exact h) (.cons ?_ .nil)
      show upd _ bl _ b=_
      rw [upd_ne b_bl]
      exact upd_same
    have of3:=(of2.trans (Off.same t3)).trans (Off.put (M:=p :: sl :: bl :: ssl :: bs) (H:=upd H2 b (.lst [vn r.stms.length,V.bl false])) (x:=bl) (o := .lst (bs.map V.ref++[V.ref b])) (by simp))
    have fr3:∀ x,upd (upd H2 b (.lst [vn r.stms.length,V.bl false])) bl (.lst (bs.map V.ref++[V.ref b])) x=none→H x=none:=fun x hx=>by
     by_cases y:x=bl
     ·rw [y,upd_same] at hx; cases hx
     ·rw [upd_ne y] at hx
      exact fr2 x (t3.free hx)
    revert hr3 hn3 of3 fr3
    generalize upd (upd H2 b (.lst [vn r.stms.length,V.bl false])) bl (.lst (bs.map V.ref++[V.ref b]))=H3
    intro hn3 hr3 of3 fr3
    obtain ⟨dx3,ob3⟩:=hn3.ob
    obtain ⟨dxp,obp⟩:=hr3.ob
    walk_at "rd"
    refine ⟨kn,dx3,_,rfl,ob3,rfl,?_⟩
    have hls3:=hn3.ls
    refine ⟨kn,ssl,ds,r.scopes,rfl,hn3,by rw [paired_len hn3.pr,hok.sc]; omega,fun H4 d ndd hn4 sx=>⟨rfl,?_⟩⟩
    have k4:Kp H3 H4:=fun x xs h=>by
     rcases h with h | ⟨o,h⟩
     ·exact .inl (sx x _ h fun z=>by rw [z,hls3] at h; cases h)
     ·exact .inr ⟨o,sx x _ h fun z=>by rw [z,hls3] at h; cases h⟩
    refine q H4 (bs++[b]) (ds++[d]) (hr3.keep k4 (fun o h=>sx _ _ h (fun z=>by rw [z,hls3] at obp; cases obp)) (fun o h=>sx _ _ h z5) (fun o h=>sx _ _ h z6) (fun o h=>sx _ _ h z3.symm) (fun q hq o h=>sx _ _ h ?_)) hn4 ?_ ?_ ?_ (of3.trans fun x o e n=>sx x o e fun z=>n (by rw [z]; simp))
    ·rcases List.mem_append.mp hq with hq | hq
     ·exact z7 q hq
     ·rw [List.mem_singleton.mp hq]; exact b_ssl
    ·show ((la :: sl :: bl :: ssl :: bs)++[b]).Nodup
     refine List.nodup_append.mpr ⟨nd,by simp,fun x hx y hy e=>?_⟩
     rw [List.mem_singleton.mp hy] at e
     obtain ⟨sv2,hsl2,_⟩:=hr2.st
     rcases List.mem_cons.mp hx with hx | hx
     ·exact bne _ _ hr2.li (hx.symm.trans e)
     rcases List.mem_cons.mp hx with hx | hx
     ·exact bne _ _ hsl2 (hx.symm.trans e)
     rcases List.mem_cons.mp hx with hx | hx
     ·exact bne _ _ hr2.bk (hx.symm.trans e)
     rcases List.mem_cons.mp hx with hx | hx
     ·exact bne _ _ hn2.ls (hx.symm.trans e)
     ·exact bnb (by rw [← e]; exact hx)
    ·intro x hx
     rcases List.mem_append.mp hx with hx | hx
     ·exact .inl hx
     ·rw [List.mem_singleton.mp hx]; exact .inr (fr2 b nb)
    ·intro x hx
     rcases List.mem_append.mp hx with hx | hx
     ·exact .inl hx
     ·rw [List.mem_singleton.mp hx]; exact .inr (fr3 d ndd)
   ·rintro σ H3 ⟨rfl,hq⟩
    refine RD.cut (fun σ H'=>σ = [some (.ref p),some (.ref a),some (vn r.stms.length),some (.ref kn),some (vst (tx "if")),none,none]∧Q .non H') ?_ ?_
    ·walk_at "rd"
     refine RD.decF (fun z=>absurd (tx_inj z) (by decide)) ?_
     walk_at "rd"
     exact ⟨rfl,hq⟩
    ·rintro σ H4 ⟨rfl,hq⟩
     walk_at "rd"
     refine RD.decF (fun z=>absurd (tx_inj z) (by decide)) ?_
     walk_at "rd"
     exact hq
  ·refine RD.cut (fun σ H'=>σ = [some (.ref p),some (.ref a),some (vn r.stms.length),some (.ref kn),some (vst (tx (headS s))),none,none]∧H'=H2) ?_ ?_
   ·walk_at "rd"
    refine RD.decF (fun z=>hi (tx_inj z)) ?_
    walk_at "rd"
    exact ⟨rfl,rfl⟩
   rintro σ H3 ⟨rfl,rfl⟩
   by_cases he:headS s = "else"
   ·obtain ⟨to,rfl⟩:∃ to,s = .els to:=by
     cases s with
     | els to=>exact ⟨to,rfl⟩
     | _=>exact absurd he (by simp [headS])
    obtain ⟨bk,i,hbk⟩:∃ bk i,r.blocks=bk++[(i,false)]:=by
     have z1:=hels rfl
     rcases List.eq_nil_or_concat r.blocks with z | ⟨b0,⟨i,e⟩,z⟩
     ·exact absurd z (hbl (.inl rfl))
     ·rw [List.concat_eq_append] at z
      rw [z,List.getLast?_concat] at z1
      have z1:e=false:=z1
      exact ⟨b0,i,by rw [z,z1]⟩
    obtain ⟨t,ht,hto⟩:=hok.bl (i,false) (by rw [hbk]; simp)
    have ht:=app_get (t := .els to) ht
    have B:Both A K H (p :: sl :: bl :: ssl :: bs) H3 p la sl bl kn ssl bs ds lines off (r.stms++[.els to]) r.blocks (r.lab || labels (.els to)) r.scopes:=⟨hr2,hn2,nd,of2,fr2⟩
    clear hr2 hn2 nd of2 fr2
    rw [hbk] at B
    obtain ⟨bi,b,rfl⟩:∃ v0 vl,bs=v0++[vl]:=by
     rcases List.eq_nil_or_concat bs with z | ⟨a,b,z⟩
     ·have:=paired_len B.rd.pr
      rw [z] at this
      exact absurd this (by simp)
     ·exact ⟨a,b,by rw [z,List.concat_eq_append]⟩
    obtain ⟨si,sd,hsc⟩:∃ v0 vl,r.scopes=v0++[vl]:=by
     rcases List.eq_nil_or_concat r.scopes with z | ⟨a,b,z⟩
     ·have:=hok.sc
      rw [z] at this
      exact absurd this (by simp)
     ·exact ⟨a,b,by rw [z,List.concat_eq_append]⟩
    rw [hsc] at B
    obtain ⟨dsi,d,rfl⟩:∃ v0 vl,ds=v0++[vl]:=by
     rcases List.eq_nil_or_concat ds with z | ⟨a,b,z⟩
     ·have:=paired_len B.nm.pr
      rw [z] at this
      exact absurd this (by simp)
     ·exact ⟨a,b,by rw [z,List.concat_eq_append]⟩
    have ea:PR.add r r.stms.length (Stm.els to)=⟨(r.stms++[Stm.els to]).modify i (retarget (r.stms.length + 1)),bk++[(r.stms.length,true)],r.lab || labels (Stm.els to),si++[[]]⟩:=by
     simp [PR.add,hbk,hsc]
    rw [ea] at q
    refine RD.cut (fun σ H'=>σ = [some (.ref p),some (.ref a),some (vn r.stms.length),some (.ref kn),some (vst (tx "else")),some (vn i),none]∧Q .non H') ?_ ?_
    ·walk_at "rd"
     refine RD.decT rfl ?_
     walk_at "rd"
     obtain ⟨dx2,ob2⟩:=B.rd.ob
     refine ⟨p,A.zaa,dx2,_,_,rfl,ob2,T.zae,T.zan,rfl,?_⟩
     walk_at "rd"
     refine RD.ixL (sq B.rd.bk) (show atI ((bi++[b]).map V.ref) (-1)=some (.ref b) by rw [List.map_append]; exact atI_last _ _) ?_
     walk_at "rd"
     refine RD.setLe (ys:=[vn i,.bl true]) (paired_split B.rd.pr).2 (show ixN 2 1=some 1 by decide) rfl ?_
     have B2:=B.blk (by simp) (i,true)
     revert B2
     generalize upd H3 b (.lst [vn (i,true).1,.bl (i,true).2])=H4
     intro B2
     clear B ob2
     obtain ⟨dx2,ob2⟩:=B2.rd.ob
     walk_at "rd"
     refine ⟨p,A.zaa,dx2,_,_,rfl,ob2,T.zae,T.zan,rfl,?_⟩
     walk_at "rd"
     refine RD.ixL (sq B2.rd.bk) (show atI ((bi++[b]).map V.ref) (-1)=some (.ref b) by rw [List.map_append]; exact atI_last _ _) ?_
     walk_at "rd"
     refine RD.ixL (sq (paired_split B2.rd.pr).2) (show atI _ ((0:Nat):Int)=some (vn i) from at_n rfl) ?_
     walk_at "rd"
     refine ⟨p,A.zaa,dx2,_,_,rfl,ob2,T.zae,T.zao,rfl,?_⟩
     walk_at "rd"
     obtain ⟨svs,hsl,hsp⟩:=B2.rd.st
     obtain ⟨sv0,hsv⟩:∃ v,svs[i]? = some v:=⟨_,List.getElem?_eq_getElem (by rw [paired_len hsp]; exact (List.getElem?_eq_some_iff.mp ht).1)⟩
     obtain ⟨ta,txs,rfl,hta,hl2,hre⟩:=head_cut hto (paired_at hsp hsv ht)
     refine RD.ixL (sq hsl) (at_n hsv) ?_
     walk_at "rd"
     refine RD.slA hta fun H5 c s5 hc=>?_
     walk_at "rd"
     refine ⟨c,_,rfl,.inl hc,?_⟩
     walk_at "rd"
     refine ⟨szl (by rw [List.length_append]; exact Nat.le_trans (Nat.add_le_add_right hl2 1) (by decide)),fun n5 nn=>?_⟩
     have s6:=same_new (o := .tup (cutV txs none (some 2)++[vn (r.stms.length + 1)])) nn
     have B6:=(B2.same s5).same s6
     obtain ⟨dx6,ob6⟩:=B6.rd.ob
     walk_at "rd"
     refine ⟨p,A.zaa,dx6,_,_,rfl,ob6,T.zae,T.zao,rfl,?_⟩
     walk_at "rd"
     have lis:i < svs.length:=by rw [paired_len hsp]; exact (List.getElem?_eq_some_iff.mp ht).1
     refine RD.setLe (ys:=svs.set i (.ref n5)) ((s5.trans s6) _ _ hsl) (RD.ixN_n lis) rfl ?_
     have B7:=B6.stm (by simp) (paired_set (paired_imp (fun _ _ z=>(Kp.same (s5.trans s6)).stm z) hsp) ht (hre (r.stms.length + 1) _ n5 (Kp.same (s5.trans s6)) upd_same))
     obtain ⟨dx7,ob7⟩:=B7.rd.ob
     walk_at "rd"
     refine ⟨p,A.zaa,dx7,_,_,rfl,ob7,T.zae,T.zan,rfl,?_⟩
     walk_at "rd"
     refine RD.ixL (sq B7.rd.bk) (show atI ((bi++[b]).map V.ref) (-1)=some (.ref b) by rw [List.map_append]; exact atI_last _ _) ?_
     walk_at "rd"
     refine RD.setLe (ys:=[vn r.stms.length,.bl true]) (paired_split B7.rd.pr).2 (show ixN 2 0=some 0 by decide) rfl ?_
     have B8:=B7.blk (by simp) (r.stms.length,true)
     obtain ⟨dx8,ob8⟩:=B8.nm.ob
     walk_at "rd"
     refine ⟨kn,dx8,_,rfl,ob8,rfl,?_⟩
     refine ⟨kn,ssl,d,dsi,si,sd,rfl,B8.nm,fun H9 hn9 sx9=>?_⟩
     have B9:=B8.scp (by simp) hn9 sx9
     obtain ⟨dx9,ob9⟩:=B9.nm.ob
     walk_at "rd"
     refine ⟨kn,dx9,_,rfl,ob9,rfl,?_⟩
     refine ⟨kn,ssl,dsi,si,rfl,B9.nm,by have:=hok.sc; rw [hsc,List.length_append] at this; rw [paired_len B9.nm.pr]; simp at this; omega,fun H10 dn ndn hn10 sx10=>⟨rfl,?_⟩⟩
     have B10:=B9.scp (by simp) hn10 sx10
     refine q H10 (bi++[b]) (dsi++[dn]) B10.rd B10.nm B10.nd (fun x hx => .inl hx) (fun x hx=>?_) B10.of
     rcases List.mem_append.mp hx with hx | hx
     ·exact .inl (List.mem_append.mpr (.inl hx))
     ·rw [List.mem_singleton.mp hx]; exact .inr (B9.fr _ ndn)
    ·rintro σ H4 ⟨rfl,hq⟩
     walk_at "rd"
     refine RD.decF (fun z=>absurd (tx_inj z) (by decide)) ?_
     walk_at "rd"
     exact hq
   ·refine RD.cut (fun σ H'=>σ = [some (.ref p),some (.ref a),some (vn r.stms.length),some (.ref kn),some (vst (tx (headS s))),none,none]∧H'=H3) ?_ ?_
    ·walk_at "rd"
     refine RD.decF (fun z=>he (tx_inj z)) ?_
     walk_at "rd"
     exact ⟨rfl,rfl⟩
    rintro σ H4 ⟨rfl,rfl⟩
    by_cases hf:headS s = "end"
    ·obtain rfl:s = .fin:=by
      cases s with
      | fin=>rfl
      | _=>exact absurd hf (by simp [headS])
     obtain ⟨bk,i,e,hbk⟩:∃ bk i e,r.blocks=bk++[(i,e)]:=by
      rcases List.eq_nil_or_concat r.blocks with z | ⟨b0,⟨i,e⟩,z⟩
      ·exact absurd z (hbl (.inr rfl))
      ·exact ⟨b0,i,e,by rw [z,List.concat_eq_append]⟩
     obtain ⟨t,ht,hto⟩:=hok.bl (i,e) (by rw [hbk]; simp)
     have ht:=app_get (t := .fin) ht
     have B:Both A K H (p :: sl :: bl :: ssl :: bs) H4 p la sl bl kn ssl bs ds lines off (r.stms++[.fin]) r.blocks (r.lab || labels .fin) r.scopes:=⟨hr2,hn2,nd,of2,fr2⟩
     clear hr2 hn2 nd of2 fr2
     rw [hbk] at B
     obtain ⟨bi,b,rfl⟩:∃ v0 vl,bs=v0++[vl]:=by
      rcases List.eq_nil_or_concat bs with z | ⟨a,b,z⟩
      ·have:=paired_len B.rd.pr
       rw [z] at this
       exact absurd this (by simp)
      ·exact ⟨a,b,by rw [z,List.concat_eq_append]⟩
     obtain ⟨si,sd,hsc⟩:∃ v0 vl,r.scopes=v0++[vl]:=by
      rcases List.eq_nil_or_concat r.scopes with z | ⟨a,b,z⟩
      ·have:=hok.sc
       rw [z] at this
       exact absurd this (by simp)
      ·exact ⟨a,b,by rw [z,List.concat_eq_append]⟩
     rw [hsc] at B
     obtain ⟨dsi,d,rfl⟩:∃ v0 vl,ds=v0++[vl]:=by
      rcases List.eq_nil_or_concat ds with z | ⟨a,b,z⟩
      ·have:=paired_len B.nm.pr
       rw [z] at this
       exact absurd this (by simp)
      ·exact ⟨a,b,by rw [z,List.concat_eq_append]⟩
     have ea:PR.add r r.stms.length Stm.fin=⟨(r.stms++[Stm.fin]).modify i (retarget r.stms.length),bk,r.lab || labels Stm.fin,si⟩:=by
      simp [PR.add,hbk,hsc]
     rw [ea] at q
     walk_at "rd"
     refine RD.decT rfl ?_
     walk_at "rd"
     obtain ⟨dx2,ob2⟩:=B.rd.ob
     refine ⟨p,A.zaa,dx2,_,_,rfl,ob2,T.zae,T.zan,rfl,RD.tyL (sq B.rd.bk),?_⟩
     walk_at "rd"
     refine RD.pop (xs:=bi.map V.ref) (y := .ref b) (by rw [B.rd.bk,List.map_append]; rfl) ?_
     have hb:=(paired_split B.rd.pr).2
     have hbl2:bl ≠ b:=fun z=>by
      have:=B.nd
      rw [List.nodup_cons,List.nodup_cons,List.nodup_cons] at this
      exact this.2.2.1 (by rw [z]; simp)
     have B2:=B.pop (by simp)
     obtain ⟨dx2,ob2⟩:=B2.rd.ob
     refine RD.unl2p (sq (show upd H4 bl _ b=some (.lst [vn i,.bl e]) by rw [upd_ne hbl2.symm]; exact hb)) ?_
     walk_at "rd"
     refine ⟨p,A.zaa,dx2,_,_,rfl,ob2,T.zae,T.zao,rfl,?_⟩
     walk_at "rd"
     obtain ⟨svs,hsl,hsp⟩:=B2.rd.st
     obtain ⟨sv0,hsv⟩:∃ v,svs[i]? = some v:=⟨_,List.getElem?_eq_getElem (by rw [paired_len hsp]; exact (List.getElem?_eq_some_iff.mp ht).1)⟩
     obtain ⟨ta,txs,rfl,hta,hl2,hre⟩:=head_cut hto (paired_at hsp hsv ht)
     refine RD.ixL (sq hsl) (at_n hsv) ?_
     walk_at "rd"
     refine .inr ⟨e,rfl,?_⟩
     walk_at "rd"
     refine RD.slA hta fun H5 c s5 hc=>?_
     walk_at "rd"
     refine ⟨c,_,rfl,.inl hc,?_⟩
     walk_at "rd"
     refine ⟨szl (by rw [List.length_append]; exact Nat.le_trans (Nat.add_le_add_right hl2 1) (by decide)),fun n5 nn=>?_⟩
     have s6:=same_new (o := .tup (cutV txs none (some (2 - (if e=true then 1 else 0)))++[vn r.stms.length])) nn
     have B6:=(B2.same s5).same s6
     obtain ⟨dx6,ob6⟩:=B6.rd.ob
     walk_at "rd"
     refine ⟨p,A.zaa,dx6,_,_,rfl,ob6,T.zae,T.zao,rfl,?_⟩
     walk_at "rd"
     have lis:i < svs.length:=by rw [paired_len hsp]; exact (List.getElem?_eq_some_iff.mp ht).1
     refine RD.setLe (ys:=svs.set i (.ref n5)) ((s5.trans s6) _ _ hsl) (RD.ixN_n lis) rfl ?_
     have B7:=B6.stm (by simp) (paired_set (paired_imp (fun _ _ z=>(Kp.same (s5.trans s6)).stm z) hsp) ht (hre r.stms.length _ n5 (Kp.same (s5.trans s6)) upd_same))
     obtain ⟨dx8,ob8⟩:=B7.nm.ob
     walk_at "rd"
     refine ⟨kn,dx8,_,rfl,ob8,rfl,?_⟩
     refine ⟨kn,ssl,d,dsi,si,sd,rfl,B7.nm,fun H9 hn9 sx9=>?_⟩
     have B9:=B7.scp (by simp) hn9 sx9
     exact q H9 bi dsi B9.rd B9.nm B9.nd (fun x hx => .inl (List.mem_append.mpr (.inl hx))) (fun x hx => .inl (List.mem_append.mpr (.inl hx))) B9.of
    ·walk_at "rd"
     refine RD.decF (fun z=>hf (tx_inj z)) ?_
     walk_at "rd"
     have ea:add r r.stms.length s=⟨r.stms++[s],r.blocks,r.lab || labels s,r.scopes⟩:=by
      cases s with
      | iff c t=>exact absurd rfl hi
      | els t=>exact absurd rfl he
      | fin=>exact absurd rfl hf
      | _=>rfl
     rw [ea] at q
     exact q H4 bs ds hr2 hn2 nd (fun x hx => .inl hx) (fun x hx => .inl hx) of2
end
end Pf

namespace Pf
open PySem PySem.Spec PyProof.Rows L2 SX RD PR
theorem Rz.past {A:Ad} {E:XK} {F G:Hp→Prop} (h:∀ H',G H'→F H'):∀ {e:Err},Rz A E F e→Rz A E G e
 | .bad _,r=>fun H' dd g=>r H' dd (h H' g)
 | .unk _ _,r=>fun H' dd g=>r H' dd (h H' g)
 | .knd _ _,r=>fun H' dd g=>r H' dd (h H' g)
theorem Off.kp {M:List Addr} {H H':Hp} (f:Off M H H') (h:∀ x∈M,∀ xs,¬ L2.Rd H x (.tup xs)):Kp H H':=fun a xs e=>by
 have ne:a ∉ M:=fun z=>h a z xs e
 rcases e with e | ⟨o,e⟩
 ·exact .inl (f a _ e ne)
 ·exact .inr ⟨o,f a _ e ne⟩
theorem no_tup_lst {H:Hp} {a:Addr} {zs:List V} (h:H a=some (.lst zs)) (xs:List V):¬ L2.Rd H a (.tup xs):=fun e=>by
 rcases e with e | ⟨o,e⟩
 ·rw [h] at e; cases e
 ·rw [h] at e; cases e
theorem no_tup_ins {H:Hp} {a C dx:Addr} {fs:List (Str × V)} (h:H a=some (.ins C dx fs)) (xs:List V):¬ L2.Rd H a (.tup xs):=fun e=>by
 rcases e with e | ⟨o,e⟩
 ·rw [h] at e; cases e
 ·rw [h] at e; cases e
theorem isFree_scopes {sc sc2:List PR.Scope} {f:Form} (h:isFree sc f=true) (h2:∀ x∈sc2,x=[]∨x∈sc):∀ s∈sc2,∀ x∈f.bound.map Prod.fst,x ∉ s.map Prod.fst:=by
 intro s hs x hx
 rcases h2 s hs with z | z
 ·rw [z]; simp
 ·unfold isFree at h
  rw [List.all_eq_true] at h
  obtain ⟨b,hb,eb⟩:=List.mem_map.mp hx
  have:=h b hb
  rw [Option.isNone_iff_eq_none] at this
  rw [← eb]
  exact kind_none this s z
def sp_line (A:Ad) (K:PySem.W.Frag):Sp:=fun vs H Q E=>∃ (p la sl bl kn ssl:Addr) (bs ds:List Addr) (lines:List Tx) (off:Nat) (r:Rdr) (line:Tx),vs=[.ref p,vn r.stms.length,.ref kn] ∧
 RdrAt A K H p la sl bl bs lines off r.stms r.blocks r.lab∧NamesAt A H kn ssl ds r.scopes∧kn ≠ p∧(la :: sl :: bl :: ssl :: bs).Nodup∧Rin r∧lines[r.stms.length]? = some line∧line.length≤10000∧r.stms.length≤1000 ∧
 (∀ r2,readLine r lines.length off r.stms.length line = .ok r2→∀ (H':Hp) (bs' ds':List Addr),RdrAt A K H' p la sl bl bs' lines off r2.stms r2.blocks r2.lab→NamesAt A H' kn ssl ds' r2.scopes →
  (la :: sl :: bl :: ssl :: bs').Nodup→(∀ x∈bs',x∈bs∨H x=none)→(∀ x∈ds',x∈ds∨H x=none)→Off (p :: sl :: bl :: ssl :: (bs++ds)) H H'→Q .non H') ∧
 ∀ e,readLine r lines.length off r.stms.length line = .error e→Rz A E (Same H) e
section
variable {P:Program} {w:World} {K:PySem.W.Frag} {mg:Str→Option Value} {base:Heap} {A:Ad}
theorem zi9 (T:Txt K mg A):FnOk P w K mg base (L2.CX P w) 7 A.zay A.zaz ["self", "at", "known"] (sp_line A K):=by
 have zri:=zqv (P:=P) (w:=w) (base:=base) T
 have zjp:=zje (P:=P) (w:=w) (base:=base) T
 have zix:=zk7 (P:=P) (w:=w) (base:=base) T
 have zak:=zcq (P:=P) (w:=w) (base:=base) T
 have zim:=zkn (P:=P) (w:=w) (base:=base) T
 have zjd:=zli (P:=P) (w:=w) (base:=base) T
 have zkg:=zjt (P:=P) (w:=w) (base:=base) T
 have zme:=zlw (P:=P) (w:=w) (base:=base) T
 have zkm:=zmc (P:=P) (w:=w) (base:=base) T
 refine T.zc2.okX zcs (fun vs H Q E h=>?_) (fun cdv Ar outer s H vs Q E hr h=>?_)
 ·obtain ⟨p,la,sl,bl,kn,ssl,bs,ds,lines,off,r,line,rfl,_⟩:=h
  rfl
 ·obtain ⟨p,la,sl,bl,kn,ssl,bs,ds,lines,off,r,line,rfl,hr0,hn,hkp,nd,hin,hli,hll,hlz,qN,qE⟩:=h
  refine ⟨_,(pss_cons (ps_set (i:=3) zcs.nd rfl (Or.inl rfl) (pe_op op_add (pe_op op_add (RD.k_fld (K:=K) rfl (pv 0) rfl) (pv 1)) pe_int))
   (pss_cons (ps_set (i:=4) zcs.nd rfl (Or.inl rfl) (pe_call zri (hr.mono (by decide)) (by rfl) T.zrk T.zi4.kp T.zrc .nil pass0 (pa_cons (pe_ix (RD.k_ixL (K:=K) rfl) (RD.k_fld (K:=K) rfl (pv 0) rfl) (pv 1) (fun _ _=>rfl)) pa_nil)))
   (RD.pss_cut (ps_if (PW.pt (pw_or (pt_cmpR op_isN (pv 4) pe_non (nomark _)) (pw_or (pt_cmpR op_gt (pv 1) (RD.pe_glI (by rfl) T.zm8) (nomark _)) (pw_or (pt_not (pt_val (pe_meth0 (pv 4) T.zd9 T.zlm zix (hr.mono (by decide)) T.zlc .nil pass0))) (pw_or1 (pt_not (pt_val (pe_meth (pv 0) T.zae T.zjl zjp (hr.mono (by decide)) T.zjx .nil pass0 (pa_cons (RD.k_fld (K:=K) rfl (pv 4) rfl) (pa_cons (pv 1) pa_nil))))))))))
   (pss_one (ps_raise rfl (takes_of rfl rfl rfl rfl) (pmk_oex T.oex_BadLine T.zby T.zbz zak (hr.mono (by decide)) T.zaq .nil pass0 (by rfl) T.zcm (pa_cons (pv 3) pa_nil))))
   pss_nil)
   (RD.pss_cut (ps_if (pt_not (pt_val (pe_meth (pv 2) T.zbs T.zk5 zim (hr.mono (by decide)) T.zk6 .nil pass0 (pa_cons (pv 4) pa_nil))))
   (pss_one (ps_raise rfl (takes_of rfl rfl rfl rfl) (pmk_oex T.oex_BadLine T.zby T.zbz zak (hr.mono (by decide)) T.zaq .nil pass0 (by rfl) T.zcm (pa_cons (pv 3) pa_nil))))
   pss_nil)
   (pss_cons (ps_expr (pe_meth (pv 2) T.zbs T.zl9 zjd (hr.mono (by decide)) T.zl7 .nil (passes_call (takes_of rfl rfl rfl rfl) (fun _ _ _ _ h=>h)) (pa_cons (pv 4) (pa_cons (pv 3) pa_nil))))
   (pss_cons (ps_set (i:=5) zcs.nd rfl (Or.inl rfl) (pe_meth (pv 0) T.zae T.zkc zkg (hr.mono (by decide)) T.zkj .nil pass0 (pa_cons (RD.k_fld (K:=K) rfl (pv 4) rfl) (pa_cons (pv 2) pa_nil))))
   (RD.pss_cut (ps_if (PW.pt (pw_and (pt_cmpR op_eq (pe_ix (RD.k_ixT (K:=K) rfl) (pv 5) pe_int (fun _ _=>rfl)) pe_str (nomark _)) (pw_and (pt_cmpR op_eq (pe_ix (RD.k_ixT (K:=K) rfl) (pv 5) pe_int (fun _ _=>rfl)) (RD.pe_gl (by rfl) T.zdp) (nomark _)) (pw_and1 (pt_val (RD.k_fld (K:=K) rfl (pv 0) rfl))))))
   (pss_one (ps_raise rfl (takes_of rfl rfl rfl rfl) (pmk_oex T.oex_BadLine T.zby T.zbz zak (hr.mono (by decide)) T.zaq .nil pass0 (by rfl) T.zcm (pa_cons (pv 3) pa_nil))))
   pss_nil)
   (PSs.nox (pss_cons (ps_expr (pe_meth (pv 0) T.zae T.zmf zme (hr.mono (by decide)) T.zmq .nil pass0 (pa_cons (pv 5) (pa_cons (pv 1) (pa_cons (pv 2) pa_nil)))))
   (pss_one (ps_expr (pe_meth (pv 2) T.zbs T.znb zkm (hr.mono (by decide)) T.zmx .nil pass0 (pa_cons (pv 4) pa_nil))))))))))))),?_⟩
  show tSeq _ _ _ [some (.ref p),some (vn r.stms.length),some (.ref kn),none,none,none] H
  obtain ⟨dx,ob⟩:=hr0.ob
  walk_at "rd"
  refine ⟨p,A.zaa,dx,_,_,rfl,ob,T.zae,T.zd4,rfl,?_⟩
  walk_at "rd"
  refine ⟨p,A.zaa,dx,_,_,rfl,ob,T.zae,T.zbn,rfl,?_⟩
  walk_at "rd"
  refine RD.ixL (sq hr0.li) (at_n (show (vsts lines)[r.stms.length]? = some (vst line) by unfold vsts; rw [List.getElem?_map,hli]; rfl)) ?_
  walk_at "rd"
  refine ⟨line,rfl,hll,fun H1 v s1 hf=>?_⟩
  walk_at "rd"
  refine RD.cut (fun σ H'=>σ = [some (.ref p),some (vn r.stms.length),some (.ref kn),some (vn (off + r.stms.length + 1)),some v,none]∧Same H H'∧∃ f,formOf line=some f∧FormAt A K H H' v f∧f.good=true∧mayStand r lines.length r.stms.length f.stm=true∧r.stms.length≤60) ?_ ?_
  ·walk_at "rd"
   refine ⟨rfl,?_⟩
   walk_at "rd"
   cases hfo:formOf line with
   | none =>
    rw [hfo] at hf
    have hf:v = .non:=hf
    subst hf
    refine RD.decT rfl ?_
    walk_at "rd"
    show tMkO A.zab (sp_exi1 A.zab "line") [] _ _ _ _
    show tCons _ _ _ _ _
    walk_at "rd"
    refine RD.mk1 fun dd ndd=>?_
    exact qE (.bad (off + r.stms.length + 1)) (by unfold readLine; rw [hfo]) _ dd (s1.trans (same_new ndd)) upd_same
   | some f =>
    rw [hfo] at hf
    have hf:FormAt A K H H1 v f:=hf
    obtain ⟨fp,fdx,sv,fu,fb,rfl,z1,z2,z3,hfp,hfs,hfu,hfb⟩:=id hf
    have fo:=formOf_ok hfo
    have sml:Sml f:=⟨fun u hu=>Nat.le_trans (fo.us u hu) hll,fun b hb=>Nat.le_trans (fo.bd b hb) hll,Nat.le_trans fo.lu (by decide),Nat.le_trans fo.lb (by decide)⟩
    have er:(decide (60 < r.stms.length) || (!f.good || (!mayStand r lines.length r.stms.length f.stm || !isFree r.scopes f)))=true→readLine r lines.length off r.stms.length line = .error (.bad (off + r.stms.length + 1)):=fun e=>by
     unfold readLine
     rw [hfo]
     exact if_pos e
    refine RD.decF nofun ?_
    walk_at "rd"
    refine RD.dec (fun h1=>?_) (fun h1=>?_)
    ·walk_at "rd"
     show tMkO A.zab (sp_exi1 A.zab "line") [] _ _ _ _
     show tCons _ _ _ _ _
     walk_at "rd"
     refine RD.mk1 fun dd ndd=>?_
     exact qE (.bad (off + r.stms.length + 1)) (er (by rw [decide_eq_true (show 60 < r.stms.length by omega)]; rfl)) _ dd (s1.trans (same_new ndd)) upd_same
    ·have h60:r.stms.length≤60:=by omega
     walk_at "rd"
     refine ⟨fp,fdx,_,rfl,hfp,rfl,?_⟩
     refine ⟨H,.ref fp,f,rfl,hf,sml,fun H2 s2=>?_⟩
     walk_at "rd"
     cases hg:f.good with
     | false =>
      walk_at "rn"
      show tMkO A.zab (sp_exi1 A.zab "line") [] _ _ _ _
      show tCons _ _ _ _ _
      walk_at "rd"
      refine RD.mk1 fun dd ndd=>?_
      exact qE (.bad (off + r.stms.length + 1)) (er (by rw [hg]; simp)) _ dd ((s1.trans s2).trans (same_new ndd)) upd_same
     | true =>
      have hr2:=(hr0.same s1).same s2
      obtain ⟨dx2,ob2⟩:=hr2.ob
      walk_at "rn"
      refine ⟨p,dx2,_,rfl,ob2,rfl,?_⟩
      walk_at "rd"
      refine ⟨fp,A.zap,fdx,_,_,rfl,s2 _ _ hfp,T.zd9,T.zeq,rfl,?_⟩
      walk_at "rd"
      refine ⟨p,la,sl,bl,bs,lines,off,r,sv,f.stm,r.stms.length,rfl,hr2,(Kp.same s2).stm hfs,hin.ne,(fun c k z=>by have:=fo.fr; rw [z] at this; cases this),fun H3 s3=>?_⟩
      walk_at "rd"
      cases hm:mayStand r lines.length r.stms.length f.stm with
      | false =>
       walk_at "rn"
       show tMkO A.zab (sp_exi1 A.zab "line") [] _ _ _ _
       show tCons _ _ _ _ _
       walk_at "rd"
       refine RD.mk1 fun dd ndd=>?_
       exact qE (.bad (off + r.stms.length + 1)) (er (by rw [hm]; simp)) _ dd (((s1.trans s2).trans s3).trans (same_new ndd)) upd_same
      | true =>
       walk_at "rn"
       exact ⟨rfl,(s1.trans s2).trans s3,f,rfl,(hf.same s2).same s3,hg,hm,h60⟩
  ·rintro σ H2 ⟨rfl,s2,f,ef,hf2,hg,hm,h60⟩
   obtain ⟨fp,fdx,sv,fu,fb,rfl,z1,z2,z3,hfp,hfs,hfu,hfb⟩:=id hf2
   have fo:=formOf_ok ef
   have sml:Sml f:=⟨fun u hu=>Nat.le_trans (fo.us u hu) hll,fun b hb=>Nat.le_trans (fo.bd b hb) hll,Nat.le_trans fo.lu (by decide),Nat.le_trans fo.lb (by decide)⟩
   have er:readLine r lines.length off r.stms.length line=if (!isFree r.scopes f)=true then .error (.bad (off + r.stms.length + 1)) else match check r.scopes (off + r.stms.length + 1) f.uses with
     | some e => .error e
     | none =>
      if isDropH r.lab (resolve r.scopes f.stm)=true then .error (.bad (off + r.stms.length + 1))
      else let r2:=PR.add r r.stms.length (resolve r.scopes f.stm); .ok { r2 with scopes:=bindS r2.scopes f.bound }:=by
    unfold readLine
    rw [ef]
    simp only [hg,hm,decide_eq_false (show ¬ 60 < r.stms.length by omega),Bool.not_true,Bool.false_or]
    all_goals rfl
   have hn2:=hn.same s2
   obtain ⟨dxn,obn⟩:=hn2.ob
   walk_at "rd"
   refine RD.cut (fun σ H'=>σ = [some (.ref p),some (vn r.stms.length),some (.ref kn),some (vn (off + r.stms.length + 1)),some (.ref fp),none]∧Same H2 H'∧isFree r.scopes f=true) ?_ ?_
   ·walk_at "rd"
    refine ⟨kn,dxn,_,rfl,obn,rfl,?_⟩
    walk_at "rd"
    refine ⟨kn,ssl,ds,r.scopes,H,.ref fp,f,rfl,hn2,hf2,sml,fun H3 s3=>?_⟩
    walk_at "rd"
    cases hfr:isFree r.scopes f with
    | false =>
     walk_at "rn"
     show tMkO A.zab (sp_exi1 A.zab "line") [] _ _ _ _
     show tCons _ _ _ _ _
     walk_at "rd"
     refine RD.mk1 fun dd ndd=>?_
     exact qE (.bad (off + r.stms.length + 1)) (er.trans (if_pos (by rw [hfr]; rfl))) _ dd ((s2.trans s3).trans (same_new ndd)) upd_same
    | true =>
     walk_at "rn"
     exact ⟨rfl,s3,rfl⟩
   rintro σ H3 ⟨rfl,s3,hfr⟩
   have er:=er.trans (if_neg (by rw [hfr]; simp))
   have s23:=s2.trans s3
   have hf3:=hf2.same s3
   have hn3:=hn2.same s3
   obtain ⟨dxn,obn⟩:=hn3.ob
   walk_at "rd"
   refine ⟨kn,dxn,_,rfl,obn,rfl,?_⟩
   walk_at "rd"
   refine ⟨kn,ssl,ds,r.scopes,H,.ref fp,f,off + r.stms.length + 1,rfl,hn3,hf3,sml,fun hc H4 s4=>?_,fun e he=>?_⟩
   ·have er:readLine r lines.length off r.stms.length line=if isDropH r.lab (resolve r.scopes f.stm)=true then .error (.bad (off + r.stms.length + 1))
      else let r2:=PR.add r r.stms.length (resolve r.scopes f.stm); .ok { r2 with scopes:=bindS r2.scopes f.bound }:=by
     rw [er,hc]
    have s4':=s23.trans s4
    have hr4:=hr0.same s4'
    have hn4:=hn.same s4'
    have s34:=s3.trans s4
    obtain ⟨dx4,ob4⟩:=hr4.ob
    walk_at "rd"
    refine ⟨p,dx4,_,rfl,ob4,rfl,?_⟩
    walk_at "rd"
    refine ⟨fp,A.zap,fdx,_,_,rfl,s34 _ _ hfp,T.zd9,T.zeq,rfl,?_⟩
    walk_at "rd"
    have hk:∀ x,named f.stm=some x→(kindOf r.scopes x).isSome=true:=fun x hx=>check_some hc x (fo.nm x hx)
    refine ⟨p,kn,ssl,ds,r.scopes,sv,f.stm,rfl,hn4,(Kp.same s34).stm hfs,fun x e=>hk x (by rw [e]; rfl),fun x v e=>hk x (by rw [e]; rfl),fun x k z=>(by have:=fo.fr; rw [z] at this; cases this),fun x k v z=>(by have:=fo.fr; rw [z] at this; cases this),fun H5 v5 s5 hs5=>?_⟩
    have hdr:∀ x,resolve r.scopes f.stm ≠ .drop x none:=fun x z=>by
     cases hst:f.stm with
     | drop y k =>
      rw [hst] at z
      have:=hk y (by rw [hst]; rfl)
      have z:Stm.drop y (kindOf r.scopes y) = .drop x none:=z
      injection z with _ z
      rw [z] at this
      cases this
     | _=>rw [hst] at z; cases z
    have s45:=s4'.trans s5
    have hr5:=hr0.same s45
    have hn5:=hn.same s45
    obtain ⟨dx5,ob5⟩:=hr5.ob
    obtain ⟨dxn5,obn5⟩:=hn5.ob
    have hfb5:PairsA K H5 fb f.bound:=hfb.same (s34.trans s5)
    have hfp5:=(s34.trans s5) _ _ hfp
    have hls:=resolve_els r.scopes f.stm
    have hfi:=@resolve_fin r.scopes f.stm
    have nx:=@Rin.next r lines.length line f hin ef hm
    have asc:=add_scopes r r.stms.length (resolve r.scopes f.stm)
    have rok:=hin.ok.add (resolve r.scopes f.stm) (fun e=>may_ne hm (e.imp (fun e=>by rwa [resolve_els] at e) resolve_fin))
    have hbl:(isEls (resolve r.scopes f.stm)=true∨resolve r.scopes f.stm = .fin)→r.blocks ≠ []:=fun e=>may_ne hm (e.imp (fun e=>by rwa [hls] at e) hfi)
    have hel:isEls (resolve r.scopes f.stm)=true→(r.blocks.getLast?.getD (0,true)).2=false:=fun e=>may_els hm (by rwa [hls] at e)
    revert hs5 er hdr hbl hel nx asc rok
    generalize resolve r.scopes f.stm=rs
    intro er hs5 hdr nx asc rok hbl hel
    obtain ⟨a5,xs5,rfl,ha5⟩:=hs5.head
    walk_at "rd"
    refine RD.cut (fun σ H'=>σ = [some (.ref p),some (vn r.stms.length),some (.ref kn),some (vn (off + r.stms.length + 1)),some (.ref fp),some (.ref a5)]∧H'=H5∧isDropH r.lab rs=false) ?_ ?_
    ·walk_at "rd"
     refine RD.ixT ha5 (show atI _ ((0:Nat):Int)=some (vst (tx (headS rs))) from at_n rfl) ?_
     walk_at "rd"
     refine RD.dec (fun h1=>?_) (fun h1=>?_)
     ·have h1:=tx_inj h1
      obtain ⟨x,k,rfl⟩:∃ x k,rs = .drop x (some k):=by
       cases rs with
       | drop x k =>
        cases k with
        | none=>exact absurd rfl (hdr x)
        | some k=>exact ⟨x,k,rfl⟩
       | _=>exact absurd h1 (by simp [headS])
      obtain ⟨a6,e6,h6⟩:=id hs5
      cases e6
      have h6:SqT K H5 a5 [vst (tx "drop"),vst x,vst k]:=h6
      have ed:isDropH r.lab (.drop x (some k))=(decide (k=half) && r.lab):=by
       show (decide (some k=some half) && r.lab)=_
       simp
      walk_at "rd"
      refine RD.ixT h6 (show atI _ ((2:Nat):Int)=some (vst k) from at_n rfl) ?_
      walk_at "rd"
      refine RD.dec (fun h2=>?_) (fun h2=>?_)
      ·walk_at "rd"
       refine ⟨p,A.zaa,dx5,_,_,rfl,ob5,T.zae,T.zbc,rfl,?_⟩
       walk_at "rd"
       cases hlab:r.lab with
       | true =>
        walk_at "rd"
        show tMkO A.zab (sp_exi1 A.zab "line") [] _ _ _ _
        show tCons _ _ _ _ _
        walk_at "rd"
        refine RD.mk1 fun dd ndd=>?_
        exact qE (.bad (off + r.stms.length + 1)) (er.trans (if_pos (by rw [hlab] at ed; rw [hlab,ed,decide_eq_true (show k=half from h2)]; rfl))) _ dd (s45.trans (same_new ndd)) upd_same
       | false =>
        walk_at "rd"
        exact ⟨rfl,rfl,by rw [hlab] at ed; rw [ed]; simp⟩
      ·walk_at "rd"
       exact ⟨rfl,rfl,by rw [ed,decide_eq_false (show ¬ k=half from h2)]; rfl⟩
     ·walk_at "rd"
      refine ⟨rfl,rfl,?_⟩
      cases rs with
      | drop x k=>exact absurd rfl h1
      | _=>rfl
    rintro σ H6 ⟨rfl,rfl,hnd⟩
    have er:=er.trans (if_neg (by rw [hnd]; simp))
    walk_at "rd"
    refine ⟨p,dx5,_,rfl,ob5,rfl,?_⟩
    walk_at "rd"
    refine ⟨p,la,sl,bl,kn,ssl,bs,ds,lines,off,r,.ref a5,rs,rfl,hr5,hn5,hkp,nd,hs5,hin.ok,hlz,Nat.le_trans hin.b3 (by decide),hbl,hel,hdr,fun H7 bs7 ds7 hr7 hn7 nd7 hb7 hd7 of7=>?_⟩
    have qN:=qN _ er
    revert nx asc rok qN hr7 hn7
    generalize PR.add r r.stms.length rs=r7
    intro nx asc rok hr7 hn7 qN
    obtain ⟨si,sd,hsc⟩:∃ v0 vl,r7.scopes=v0++[vl]:=by
     rcases List.eq_nil_or_concat r7.scopes with z | ⟨a,b,z⟩
     ·have:=rok.sc
      rw [z] at this
      exact absurd this (by simp)
     ·exact ⟨a,b,by rw [z,List.concat_eq_append]⟩
    have hfree:=isFree_scopes hfr asc
    have hn7':=hn7
    rw [hsc] at hn7'
    obtain ⟨dsi,d,rfl⟩:∃ v0 vl,ds7=v0++[vl]:=by
     rcases List.eq_nil_or_concat ds7 with z | ⟨a,b,z⟩
     ·have:=paired_len hn7'.pr
      rw [z] at this
      exact absurd this (by simp)
     ·exact ⟨a,b,by rw [z,List.concat_eq_append]⟩
    obtain ⟨svs0,hsl0,_⟩:=hr0.st
    have inM:∀ x∈p :: sl :: bl :: ssl :: bs,H x ≠ none:=fun x hx=>by
     rcases List.mem_cons.mp hx with z | hx
     ·rw [z,ob]; simp
     rcases List.mem_cons.mp hx with z | hx
     ·rw [z,hsl0]; simp
     rcases List.mem_cons.mp hx with z | hx
     ·rw [z,hr0.bk]; simp
     rcases List.mem_cons.mp hx with z | hx
     ·rw [z,hn.ls]; simp
     ·obtain ⟨e,_,he⟩:=paired_mem hr0.pr x hx
      rw [show H x=_ from he]; simp
    have tuM:∀ x∈p :: sl :: bl :: ssl :: bs,∀ xs,¬ L2.Rd H6 x (.tup xs):=fun x hx=>by
     rcases List.mem_cons.mp hx with z | hx
     ·rw [z]; exact no_tup_ins ob5
     rcases List.mem_cons.mp hx with z | hx
     ·rw [z]; exact no_tup_lst (s45 _ _ hsl0)
     rcases List.mem_cons.mp hx with z | hx
     ·rw [z]; exact no_tup_lst hr5.bk
     rcases List.mem_cons.mp hx with z | hx
     ·rw [z]; exact no_tup_lst hn5.ls
     ·obtain ⟨e,_,he⟩:=paired_mem hr5.pr x hx
      exact no_tup_lst he
    have hfp7:=of7 _ _ hfp5 (fun z=>inM _ z z1)
    obtain ⟨qs,hq1,hq2⟩:=hfb5
    have hfb7:PairsA K H7 fb f.bound:=⟨qs,of7 _ _ hq1 (fun z=>inM _ z z3),(of7.kp tuM).pairs hq2⟩
    obtain ⟨dxn7,obn7⟩:=hn7.ob
    walk_at "rd"
    refine ⟨kn,dxn7,_,rfl,obn7,rfl,?_⟩
    walk_at "rd"
    have hgd:(∀ b∈f.bound,isName b.1=true)∧(f.bound.map Prod.fst).Nodup∧∀ u∈f.uses,isWord u.1=true:=of_decide_eq_true hg
    have hsz:sd.length + f.bound.length≤10000:=by
     have e1:sd.length≤3 + 2 * r.stms.length:=by
      rcases asc sd (by rw [hsc]; simp) with z | z
      ·rw [z]; simp
      ·exact hin.s3 sd z
     have:=fo.lb
     omega
    refine ⟨kn,ssl,d,dsi,si,sd,.ref fp,f.bound,rfl,hn7',⟨fp,fdx,sv,fu,fb,rfl,hfp7,hfb7⟩,hgd.2.1,hfree sd (by rw [hsc]; simp),hsz,fun H8 hn8 sx8=>?_⟩
    have hd0:H7 d=some (.dK (sd.map kvT)):=(paired_split hn7'.pr).2
    obtain ⟨dx7,ob7⟩:=hr7.ob
    obtain ⟨svs7,hsl7,_⟩:=hr7.st
    have hli7:=hr7.li
    have hbk7:=hr7.bk
    refine qN H8 bs7 (dsi++[d]) (hr7.keep (sx8.kpD hd0) (fun o e=>sx8 _ _ e (fun z=>by rw [z,hd0] at ob7; cases ob7)) (fun o e=>sx8 _ _ e (fun z=>by rw [z,hd0] at hli7; cases hli7)) (fun o e=>sx8 _ _ e (fun z=>by rw [z,hd0] at hsl7; cases hsl7)) (fun o e=>sx8 _ _ e (fun z=>by rw [z,hd0] at hbk7; cases hbk7)) (fun x hx o e=>sx8 _ _ e (fun z=>?_))) ?_ nd7 (fun x hx=>(hb7 x hx).imp id (fun z=>s45.free z)) (fun x hx=>(hd7 x hx).imp id (fun z=>s45.free z)) ?_
    ·obtain ⟨b,_,hb⟩:=paired_mem hr7.pr x hx
     have hb:H7 x=some (.lst [vn b.1,.bl b.2]):=hb
     rw [z,hd0] at hb
     cases hb
    ·show NamesAt A H8 kn ssl (dsi++[d]) (bindS r7.scopes f.bound)
     unfold bindS
     rw [hsc,List.dropLast_concat,List.getLast?_concat]
     exact hn8
    ·intro x o e hx
     have hx1:x ∉ p :: sl :: bl :: ssl :: bs:=fun z=>hx (by
      rcases List.mem_cons.mp z with z | z
      ·simp [z]
      rcases List.mem_cons.mp z with z | z
      ·simp [z]
      rcases List.mem_cons.mp z with z | z
      ·simp [z]
      rcases List.mem_cons.mp z with z | z
      ·simp [z]
      ·simp [z])
     refine sx8 _ _ (of7 _ _ (s45 _ _ e) hx1) fun z=>?_
     rcases hd7 d (by simp) with y | y
     ·exact hx (by rw [z]; simp [y])
     ·rw [← z,s45 _ _ e] at y; cases y
   ·exact Rz.past (fun H' g=>s23.trans g) (qE e (by rw [er,he]))
end
end Pf

namespace PR
theorem rl_app (n off:Nat):∀ (a b:List Tx) (k:Nat) (r:Rdr),readLines n off k r (a++b)=match readLines n off k r a with
  | .error e => .error e
  | .ok r2=>readLines n off (k + a.length) r2 b
 | [],b,k,r=>rfl
 | l :: a,b,k,r=>by
  rw [List.cons_append,readLines,readLines]
  cases readLine r n off k l with
  | error e=>rfl
  | ok r2 =>
   simp only
   rw [rl_app n off a b (k + 1) r2,List.length_cons]
   rw [show k + 1 + a.length=k + (a.length + 1) by omega]
theorem rl_err {n off:Nat} {a b:List Tx} {k:Nat} {r:Rdr} {e:Err} (h:readLines n off k r a = .error e):readLines n off k r (a++b) = .error e:=by
 rw [rl_app,h]
theorem rl_one {n off k:Nat} {r:Rdr} {l:Tx}:readLines n off k r [l]=readLine r n off k l:=by
 rw [readLines]
 cases readLine r n off k l <;> rfl
theorem readLine_in {r r2:Rdr} {n off:Nat} {l:Tx} (h:Rin r) (e:readLine r n off r.stms.length l = .ok r2):Rin r2∧r2.stms.length=r.stms.length + 1:=by
 unfold readLine at e
 cases hf:formOf l with
 | none=>rw [hf] at e; cases e
 | some f =>
  rw [hf] at e
  simp only at e
  split at e
  ·cases e
  ·rename_i hc
   split at e
   ·cases e
   ·split at e
    ·cases e
    ·cases e
     refine ⟨h.next (n:=n) hf ?_,add_len r r.stms.length (resolve r.scopes f.stm)⟩
     cases hm:mayStand r n r.stms.length f.stm with
     | true=>rfl
     | false=>exact absurd (by rw [hm]; simp) hc
theorem firstL_some {l w:Tx} {ns:List Tx} (h:firstL l w=some ns) : 2≤ns.length∧ns.length≤4∧(∀ n∈ns,isName n=true)∧(ns.drop 1).Nodup:=by
 unfold firstL at h
 cases e:spc 32 l with
 | nil=>rw [e] at h; cases h
 | cons a r =>
  rw [e] at h
  simp only at h
  split at h
  ·rename_i hc
   cases h
   exact hc.2
  ·cases h
def tellOf:Stm→List Tx
 | .tell xs=>xs
 | _=>[]
theorem told_last (l:List Stm) (s:Stm):toldOf (l++[s])=tellOf s:=by
 unfold toldOf
 rw [List.getLast?_concat]
 cases s <;> rfl
theorem rin0 {hs:List Tx} (h:hs.length≤3):Rin ⟨[.rout],[],false,[hs.map fun x=>(x,half)]⟩ :=
 ⟨⟨fun e he=>absurd he (by simp),rfl⟩,by simp,fun s hx=>by rw [List.mem_singleton.mp hx,List.length_map]; simp; omega,by simp⟩
theorem read_eq {l0:Tx} {ls:List Tx} {off:Nat} {n0:Tx} {hs:List Tx} (h:firstL l0 (tx "routine")=some (n0 :: hs)):PR.read (l0 :: ls) off=match readLines (ls.length + 1) off 1 ⟨[.rout],[],false,[hs.map fun x=>(x,half)]⟩ ls with
  | .error e => .error e
  | .ok r=>if r.blocks.isEmpty=true then .ok ⟨n0 :: hs,toldOf r.stms,l0 :: ls,r.stms⟩ else .error (.bad (off + (ls.length + 1) + 1)):=by
 unfold PR.read
 simp only [h]
 rfl
end PR
namespace Pf
open PySem PySem.Spec PyProof.Rows L2 SX RD PR
def RtAt (A:Ad) (K:PySem.W.Frag) (H:Hp) (v:V) (t:Rt):Prop:=∃ (p dx h tb lb sb:Addr) (n:Tx) (hs:List Tx) (svs:List V),v = .ref p∧H p=some (.ins A.zai dx (tfl n h (.ref tb) (.ref lb) (.ref sb)))∧t.names=n :: hs ∧
 SqT K H h (vsts hs)∧SqT K H tb (vsts t.told)∧SqT K H lb (vsts t.lines)∧H sb=some (.lst svs)∧Paired (StmAt K H) svs t.stms
def sp_read (A:Ad) (K:PySem.W.Frag):Sp:=fun vs H Q E=>∃ (H0:Hp) (p la sl bl:Addr) (lines:List Tx) (off:Nat),vs=[.ref p]∧RdrAt A K H p la sl bl [] lines off [.rout] [] false∧[la,sl,bl].Nodup∧H0 p=none∧H0 sl=none∧H0 bl=none∧Same H0 H ∧
 lines ≠ []∧(∀ l∈lines,l.length≤10000)∧lines.length≤1000 ∧
 (∀ t,PR.read lines off = .ok t→∀ H' v,RtAt A K H' v t→Same H0 H'→Q v H')∧∀ e,PR.read lines off = .error e→Rz A E (Same H0) e
section
variable {P:Program} {w:World} {K:PySem.W.Frag} {mg:Str→Option Value} {base:Heap} {A:Ad}
theorem zll (T:Txt K mg A):FnOk P w K mg base (L2.CX P w) 8 A.zbu A.zbt ["self"] (sp_read A K):=by
 have zj7:=zmb (P:=P) (w:=w) (base:=base) T
 have zak:=zcq (P:=P) (w:=w) (base:=base) T
 have zh9:=zjh (P:=P) (w:=w) (base:=base) T
 have zju:=zi9 (P:=P) (w:=w) (base:=base) T
 have zmu:=zmi (P:=P) (w:=w) (base:=base) T
 refine T.zem.okX zcb (fun vs H Q E h=>?_) (fun cdv Ar outer s H vs Q E hr h=>?_)
 ·obtain ⟨H0,p,la,sl,bl,lines,off,rfl,_⟩:=h
  rfl
 ·obtain ⟨H0,p,la,sl,bl,lines,off,rfl,hr0,nd,np,nsl,nbl,s0,hne,hll,hlz,qN,qE⟩:=h
  refine ⟨_,(pss_cons (ps_set (i:=1) zcb.nd rfl (Or.inl rfl) (pe_call zj7 (hr.mono (by decide)) (by rfl) T.zm2 T.zfs.kp T.zm9 .nil pass0 (pa_cons (pe_ix (RD.k_ixL (K:=K) rfl) (RD.k_fld (K:=K) rfl (pv 0) rfl) pe_int (fun _ _=>rfl)) (pa_cons pe_str pa_nil))))
   (pss_cons (ps_if (pt_cmpR op_isN (pv 1) pe_non (nomark _))
   (pss_one (ps_raise rfl (takes_of rfl rfl rfl rfl) (pmk_oex T.oex_BadLine T.zby T.zbz zak (hr.mono (by decide)) T.zaq .nil pass0 (by rfl) T.zcm (pa_cons (pe_op op_add (RD.k_fld (K:=K) rfl (pv 0) rfl) pe_int) pa_nil))))
   pss_nil)
   (pss_cons (ps_set (i:=2) zcb.nd rfl (Or.inl rfl) (pe_make T.zpl zh9 (hr.mono (by decide)) (by rfl) T.zqn T.zj8 .nil pass0 (pa_cons (pe_slice (RD.k_slL (K:=K) rfl) (pv 1) (po_some pe_int) po_none) pa_nil)))
   (pss_cons (ps_for PassesOwn.leaving rfl (pi_range2 (by rfl) T.zld (pa_cons pe_int (pa_cons (pe_callB (RD.k_len (K:=K) rfl) (by rfl) T.zau (by decide +kernel) (pa_cons (RD.k_fld (K:=K) rfl (pv 0) rfl) pa_nil)) pa_nil))) (pg_name (i:=3) zcb.nd rfl (Or.inl rfl))
   (pss_one (ps_expr (pe_meth (pv 0) T.zae T.zjr zju (hr.mono (by decide)) T.zjn .nil (passes_call (takes_of rfl rfl rfl rfl) (fun _ _ _ _ h=>h)) (pa_cons (pv 3) (pa_cons (pv 2) pa_nil))))))
   (RD.pss_cut (ps_if (RD.k_tru (K:=K) rfl (RD.k_fld (K:=K) rfl (pv 0) rfl) (by intro _; rfl))
   (pss_one (ps_raise rfl (takes_of rfl rfl rfl rfl) (pmk_oex T.oex_BadLine T.zby T.zbz zak (hr.mono (by decide)) T.zaq .nil pass0 (by rfl) T.zcm (pa_cons (pe_op op_add (pe_op op_add (RD.k_fld (K:=K) rfl (pv 0) rfl) (pe_callB (RD.k_len (K:=K) rfl) (by rfl) T.zau (by decide +kernel) (pa_cons (RD.k_fld (K:=K) rfl (pv 0) rfl) pa_nil))) pe_int) pa_nil))))
   pss_nil)
   (PSs.nox (pss_cons (ps_set (i:=4) zcb.nd rfl (Or.inl rfl) (pe_ix (RD.k_ixL (K:=K) rfl) (RD.k_fld (K:=K) rfl (pv 0) rfl) (pe_un un_neg pe_int) (fun _ _=>rfl)))
   (RD.pss_cut (ps_set (i:=5) zcb.nd rfl (Or.inl rfl) (pe_ifExp (pt_cmpR op_eq (pe_ix (RD.k_ixT (K:=K) rfl) (pv 4) pe_int (fun _ _=>rfl)) pe_str (nomark _)) (pe_ix (RD.k_ixT (K:=K) rfl) (pv 4) pe_int (fun _ _=>rfl)) (pe_tup pa_nil)))
   (pss_one (ps_ret (pe_make T.zqs zmu (hr.mono (by decide)) (by rfl) T.zrn T.zmz .nil pass0 (pa_cons (pe_callTy (RD.k_tupOf (K:=K) rfl) (by rfl) T.zig (by decide +kernel) (pa_cons (pv 1) pa_nil)) (pa_cons (pv 5) (pa_cons (pe_callTy (RD.k_tupOf (K:=K) rfl) (by rfl) T.zig (by decide +kernel) (pa_cons (RD.k_fld (K:=K) rfl (pv 0) rfl) pa_nil)) (pa_cons (RD.k_fld (K:=K) rfl (pv 0) rfl) pa_nil))))))))))))))),?_⟩
  show tSeq _ _ _ [some (.ref p),none,none,none,none,none] H
  obtain ⟨dx,ob⟩:=hr0.ob
  obtain ⟨l0,ls,rfl⟩:∃ l ls,lines=l :: ls:=by
   cases lines with
   | nil=>exact absurd rfl hne
   | cons l ls=>exact ⟨l,ls,rfl⟩
  walk_at "rd"
  refine ⟨p,A.zaa,dx,_,_,rfl,ob,T.zae,T.zbn,rfl,?_⟩
  walk_at "rd"
  refine RD.ixL (sq hr0.li) (show atI _ ((0:Nat):Int)=some (vst l0) from at_n rfl) ?_
  walk_at "rd"
  refine ⟨l0,tx "routine", rfl,hll l0 (by simp),fun H1 v s1 hv=>?_⟩
  walk_at "rd"
  refine ⟨rfl,?_⟩
  walk_at "rd"
  cases hfl:firstL l0 (tx "routine") with
  | none =>
   rw [hfl] at hv
   have hv:v = .non:=hv
   subst hv
   refine RD.decT rfl ?_
   walk_at "rd"
   show tMkO A.zab (sp_exi1 A.zab "line") [] _ _ _ _
   show tCons _ _ _ _ _
   walk_at "rd"
   refine ⟨p,A.zaa,dx,_,_,rfl,s1 _ _ ob,T.zae,T.zd4,rfl,?_⟩
   walk_at "rd"
   refine RD.mk1 fun dd ndd=>?_
   exact qE (.bad (off + 1)) (by unfold PR.read; simp only [hfl]) _ dd ((s0.trans s1).trans (same_new ndd)) upd_same
  | some names =>
   rw [hfl] at hv
   obtain ⟨na,rfl,nna,hna⟩:=hv
   refine RD.decF nofun ?_
   walk_at "rd"
   obtain ⟨f1,f2,f3,f4⟩:=firstL_some hfl
   obtain ⟨n0,hs,rfl⟩:∃ n hs,names=n :: hs:=by
    cases names with
    | nil=>exact absurd f1 (by simp)
    | cons n hs=>exact ⟨n,hs,rfl⟩
   have f2:hs.length≤3:=by rw [List.length_cons] at f2; omega
   have f4:hs.Nodup:=f4
   have eR:=@read_eq l0 ls off n0 hs hfl
   refine RD.slL (sq hna) fun c nc=>?_
   have ec:cutV (vsts (n0 :: hs)) (some 1) none=vsts hs:=cut_from (vsts (n0 :: hs)) 1
   rw [ec]
   have t1:=same_new (o := .lst (vsts hs)) nc
   walk_at "rd"
   refine mk_names (sq upd_same) f4 (by omega) fun H2 kn ssl d nkn nssl nd0 s2 hn2=>?_
   have sA:=(s1.trans t1).trans s2
   have hr2:=hr0.same sA
   have sB:=s0.trans sA
   obtain ⟨dx2,ob2⟩:=hr2.ob
   have hna2:=(t1.trans s2) _ _ hna
   have knp:kn ≠ p:=(ne_of_none ((s1.trans t1) _ _ ob) nkn).symm
   obtain ⟨svs0,hsl0,_⟩:=hr0.st
   have nssl0:H0 ssl=none:=((s0.trans s1).trans t1).free nssl
   have nax:na ≠ p∧na ≠ sl∧na ≠ bl∧na ≠ ssl:=⟨(ne_of_none ob nna).symm,(ne_of_none hsl0 nna).symm,(ne_of_none hr0.bk nna).symm,ne_of_none (t1 _ _ hna) nssl⟩
   have nd4 : [la,sl,bl,ssl].Nodup:=by
    show ([la,sl,bl]++[ssl]).Nodup
    refine List.nodup_append.mpr ⟨nd,by simp,fun x hx y hy e=>?_⟩
    rw [List.mem_singleton.mp hy] at e
    have ex:(upd H1 c (.lst (vsts hs))) x ≠ none:=by
     rcases List.mem_cons.mp hx with z | hx
     ·rw [z,(s1.trans t1) _ _ hr0.li]; simp
     rcases List.mem_cons.mp hx with z | hx
     ·rw [z,(s1.trans t1) _ _ hsl0]; simp
     ·rw [List.mem_singleton.mp hx,(s1.trans t1) _ _ hr0.bk]; simp
    exact ex (by rw [e]; exact nssl)
   walk_at "rd"
   refine ⟨p,A.zaa,dx2,_,_,rfl,ob2,T.zae,T.zbn,rfl,?_⟩
   walk_at "rd"
   refine RD.len (sq hr2.li) ?_
   rw [vsts_len,List.length_cons]
   walk_at "rd"
   rw [List.length_cons] at hlz
   refine RD.goR2 (n:=ls.length) (by omega) (by omega) (fun i σ G=>∃ (o3:Option V) (r:Rdr) (bs ds:List Addr),σ = [some (.ref p),some (.ref na),some (.ref kn),o3,none,none]∧readLines (ls.length + 1) off 1 ⟨[.rout],[],false,[hs.map fun x=>(x,half)]⟩ (ls.take i) = .ok r∧r.stms.length=i + 1∧Rin r ∧
    RdrAt A K G p la sl bl bs (l0 :: ls) off r.stms r.blocks r.lab∧NamesAt A G kn ssl ds r.scopes∧(la :: sl :: bl :: ssl :: bs).Nodup∧(∀ x∈bs,H0 x=none)∧(∀ x∈ds,H0 x=none)∧Same H0 G∧G na=some (.lst (vsts (n0 :: hs)))∧na ∉ bs) ?_ ?_ ?_
   ·exact ⟨none,_,[],[d],rfl,rfl,rfl,rin0 f2,hr2,hn2,nd4,fun x hx=>absurd hx (by simp),fun x hx=>by rw [List.mem_singleton.mp hx]; exact ((s0.trans s1).trans t1).free nd0,sB,hna2,by simp⟩
   ·rintro i σ G hi ⟨o3,r,bs,ds,rfl,hrl,hlen,hrin,hr,hn,ndb,fb,fd,sG,hnaG,hnb⟩
    have ei:((1:Int) + (i:Int))=((r.stms.length:Nat):Int):=by rw [hlen]; omega
    rw [ei]
    obtain ⟨dxg,obg⟩:=hr.ob
    have tk1:=RD.take_one (List.getElem?_eq_getElem hi)
    have e1:readLines (ls.length + 1) off 1 ⟨[.rout],[],false,[hs.map fun x=>(x,half)]⟩ (ls.take (i + 1))=readLine r (l0 :: ls).length off r.stms.length ls[i]:=by
     rw [tk1,rl_app,hrl]
     simp only
     rw [rl_one,List.length_take,Nat.min_eq_left (by omega),hlen,Nat.add_comm 1 i]
     rfl
    walk_at "rd"
    refine ⟨p,dxg,_,rfl,obg,rfl,?_⟩
    walk_at "rd"
    refine ⟨p,la,sl,bl,kn,ssl,bs,ds,l0 :: ls,off,r,ls[i],rfl,hr,hn,knp,ndb,hrin,by rw [hlen,List.getElem?_cons_succ]; exact List.getElem?_eq_getElem hi,hll _ (by simp),by omega,fun r2 he G2 bs2 ds2 hr3 hn3 nd3 hb3 hd3 of3=>?_,fun e he=>?_⟩
    ·have fM:∀ x∈p :: sl :: bl :: ssl :: (bs++ds),H0 x=none:=fun x hx=>by
      rcases List.mem_cons.mp hx with z | hx
      ·rw [z]; exact np
      rcases List.mem_cons.mp hx with z | hx
      ·rw [z]; exact nsl
      rcases List.mem_cons.mp hx with z | hx
      ·rw [z]; exact nbl
      rcases List.mem_cons.mp hx with z | hx
      ·rw [z]; exact nssl0
      rcases List.mem_append.mp hx with z | z
      ·exact fb x z
      ·exact fd x z
     have naM:na ∉ p :: sl :: bl :: ssl :: (bs++ds):=fun hx=>by
      rcases List.mem_cons.mp hx with z | hx
      ·exact nax.1 z
      rcases List.mem_cons.mp hx with z | hx
      ·exact nax.2.1 z
      rcases List.mem_cons.mp hx with z | hx
      ·exact nax.2.2.1 z
      rcases List.mem_cons.mp hx with z | hx
      ·exact nax.2.2.2 z
      rcases List.mem_append.mp hx with z | z
      ·exact hnb z
      ·obtain ⟨s,_,hs⟩:=paired_mem hn.pr na z
       have hs:G na=some (.dK (s.map kvT)):=hs
       rw [hnaG] at hs
       cases hs
     obtain ⟨i2,l2⟩:=readLine_in hrin he
     exact ⟨_,r2,bs2,ds2,rfl,e1.trans he,by rw [l2,hlen],i2,hr3,hn3,nd3,fun x hx=>(hb3 x hx).elim (fb x) (fun z=>sG.free z),fun x hx=>(hd3 x hx).elim (fd x) (fun z=>sG.free z),
      fun a o e=>of3 a o (sG a o e) (fun z=>by rw [fM a z] at e; cases e),of3 _ _ hnaG naM,fun z=>(hb3 na z).elim hnb (fun y=>by rw [hnaG] at y; cases y)⟩
    ·refine Rz.past (fun H' g=>sG.trans g) (qE e ?_)
     have e2:=rl_err (b:=ls.drop (i + 1)) (e1.trans he)
     rw [List.take_append_drop] at e2
     rw [eR,e2]
   ·rintro σ G ⟨o3,r,bs,ds,rfl,hrl,hlen,hrin,hr,hn,ndb,fb,fd,sG,hnaG,hnb⟩
    rw [List.take_length] at hrl
    rw [hrl] at eR
    have eR:PR.read (l0 :: ls) off=if r.blocks.isEmpty=true then .ok ⟨n0 :: hs,toldOf r.stms,l0 :: ls,r.stms⟩ else .error (.bad (off + (ls.length + 1) + 1)):=eR
    obtain ⟨dxg,obg⟩:=hr.ob
    refine RD.cut (fun σ G'=>σ = [some (.ref p),some (.ref na),some (.ref kn),o3,none,none]∧G'=G∧r.blocks.isEmpty=true) ?_ ?_
    ·walk_at "rd"
     refine ⟨p,A.zaa,dxg,_,_,rfl,obg,T.zae,T.zan,rfl,?_⟩
     refine RD.truL (sq hr.bk) ?_
     have emp:(bs.map V.ref).isEmpty=r.blocks.isEmpty:=by
      have:=paired_len hr.pr
      cases bs with
      | nil=>rw [List.length_nil] at this; rw [List.length_eq_zero_iff.mp this.symm]; rfl
      | cons x y =>
       cases hb:r.blocks with
       | nil=>rw [hb] at this; cases this
       | cons _ _=>rfl
     rw [emp]
     cases hb:r.blocks.isEmpty with
     | true =>
      walk_at "rn"
      exact ⟨rfl,rfl,rfl⟩
     | false =>
      walk_at "rn"
      show tMkO A.zab (sp_exi1 A.zab "line") [] _ _ _ _
      show tCons _ _ _ _ _
      walk_at "rd"
      refine ⟨p,A.zaa,dxg,_,_,rfl,obg,T.zae,T.zd4,rfl,?_⟩
      walk_at "rd"
      refine ⟨p,A.zaa,dxg,_,_,rfl,obg,T.zae,T.zbn,rfl,?_⟩
      walk_at "rd"
      refine RD.len (sq hr.li) ?_
      rw [vsts_len,List.length_cons]
      walk_at "rd"
      refine RD.mk1 fun dd ndd=>?_
      exact qE (.bad (off + (ls.length + 1) + 1)) (eR.trans (if_neg (by rw [hb]; simp))) _ dd (sG.trans (same_new ndd)) upd_same
    rintro σ G' ⟨rfl,rfl,hbe⟩
    have eR:=eR.trans (if_pos hbe)
    walk_at "rd"
    refine ⟨p,A.zaa,dxg,_,_,rfl,obg,T.zae,T.zao,rfl,?_⟩
    walk_at "rd"
    obtain ⟨svs,hsl,hsp⟩:=hr.st
    obtain ⟨st0,st1,hst⟩:∃ v0 vl,r.stms=v0++[vl]:=by
     rcases List.eq_nil_or_concat r.stms with z | ⟨a,b,z⟩
     ·exact absurd z hrin.ne
     ·exact ⟨a,b,by rw [z,List.concat_eq_append]⟩
    obtain ⟨sv0,sv1,rfl⟩:∃ v0 vl,svs=v0++[vl]:=by
     rcases List.eq_nil_or_concat svs with z | ⟨a,b,z⟩
     ·have:=paired_len hsp
      rw [z,hst] at this
      exact absurd this (by simp)
     ·exact ⟨a,b,by rw [z,List.concat_eq_append]⟩
    have hlast:StmAt K G' sv1 st1:=by
     rw [hst] at hsp
     exact (paired_split hsp).2
    have etold:toldOf r.stms=tellOf st1:=by rw [hst,told_last]
    refine RD.ixL (sq hsl) (atI_last _ _) ?_
    walk_at "rd"
    obtain ⟨la1,lx1,rfl,hla1⟩:=hlast.head
    refine RD.cut (fun σ G2=>∃ tb,σ = [some (.ref p),some (.ref na),some (.ref kn),o3,some (.ref la1),some (.ref tb)]∧Same G' G2∧SqT K G2 tb (vsts (toldOf r.stms))) ?_ ?_
    ·walk_at "rd"
     refine RD.ixT hla1 (show atI _ ((0:Nat):Int)=some (vst (tx (headS st1))) from at_n rfl) ?_
     walk_at "rd"
     refine RD.dec (fun h1=>?_) (fun h1=>?_)
     ·have h1:=tx_inj h1
      obtain ⟨xs,rfl⟩:∃ xs,st1 = .tell xs:=by
       cases st1 with
       | tell xs=>exact ⟨xs,rfl⟩
       | _=>exact absurd h1 (by simp [headS])
      obtain ⟨a2,e2,b2,h2,h3⟩:=hlast
      cases e2
      walk_at "rd"
      refine RD.ixT h2 (show atI _ ((1:Nat):Int)=some (.ref b2) from at_n rfl) ?_
      walk_at "rd"
      exact ⟨b2,rfl,Same.refl _,by rw [etold]; exact h3⟩
     ·walk_at "rd"
      refine ⟨few,fun tb ntb=>?_⟩
      walk_at "rd"
      refine ⟨tb,rfl,same_new ntb,?_⟩
      have:toldOf r.stms=[]:=by
       rw [etold]
       cases st1 with
       | tell xs=>exact absurd rfl h1
       | _=>rfl
      rw [this]
      exact st upd_same
    rintro σ G2 ⟨tb,rfl,sg2,htb⟩
    walk_at "rd"
    refine RD.tupL (sq (sg2 _ _ hnaG)) fun q1 nq1=>?_
    have t3:=same_new (o := .tup (vsts (n0 :: hs))) nq1
    have hq1:=upd_same (H:=G2) (a:=q1) (o := .tup (vsts (n0 :: hs)))
    walk_at "rd"
    refine ⟨p,A.zaa,dxg,_,_,rfl,(sg2.trans t3) _ _ obg,T.zae,T.zbn,rfl,?_⟩
    walk_at "rd"
    refine RD.tupL (sq ((sg2.trans t3) _ _ hr.li)) fun q2 nq2=>?_
    have t4:=same_new (o := .tup (vsts (l0 :: ls))) nq2
    have hq2:=upd_same (H:=upd G2 q1 (.tup (vsts (n0 :: hs)))) (a:=q2) (o := .tup (vsts (l0 :: ls)))
    have t34:=(sg2.trans t3).trans t4
    walk_at "rd"
    refine ⟨p,A.zaa,dxg,_,_,rfl,t34 _ _ obg,T.zae,T.zao,rfl,?_⟩
    walk_at "rd"
    intro x dx nx ndx ne
    have s9:=RD.same_mut (o := .ins A.zai dx []) (RD.same_new (o := .own x) ndx) nx
    refine ⟨x,dx,q1,n0,hs,.ref tb,.ref q2,.ref sl,rfl,upd_same,st (s9 _ _ (t4 _ _ hq1)),fun H9 h nh hp9 hh9 sx9=>⟨rfl,?_⟩⟩
    have s10:Same (upd (upd G2 q1 (.tup (vsts (n0 :: hs)))) q2 (.tup (vsts (l0 :: ls)))) H9:=fun c o e=>sx9 c o (s9 c o e) (ne_of_none e nx)
    have s11:=t34.trans s10
    refine qN _ eR H9 (.ref x) ⟨x,dx,h,tb,q2,sl,n0,hs,_,rfl,hp9,rfl,st hh9,(Kp.same ((t3.trans t4).trans s10)).sq htb,st (s10 _ _ hq2),s11 _ _ hsl,paired_imp (fun _ _ z=>(Kp.same s11).stm z) hsp⟩ (sG.trans s11)
end
end Pf

namespace Pf
open PySem PySem.Spec PyProof.Rows L2 SX RD PR
def sp_read_routine (A:Ad) (K:PySem.W.Frag):Sp:=fun vs H Q E=>∃ t:Tx,vs=[vst t]∧t.length≤10000∧(spc 10 t).length≤1000 ∧
 (∀ z,readRoutine t = .ok z→∀ H' v,RtAt A K H' v z→Same H H'→Q v H')∧∀ e,readRoutine t = .error e→Rz A E (Same H) e
section
variable {P:Program} {w:World} {K:PySem.W.Frag} {mg:Str→Option Value} {base:Heap} {A:Ad}
theorem mk_reader {H:Hp} {la:Addr} {lines:List Tx} {off:Nat} {Q:VK} {E:XK} (hla:H la=some (.lst (vsts lines)))
  (q:∀ (H':Hp) (p sl bl:Addr),H p=none→H sl=none→H bl=none→Same H H'→RdrAt A K H' p la sl bl [] lines off [.rout] [] false→[la,sl,bl].Nodup→Q (.ref p) H'):RD.MKE A.zaa (sp_rinit A K) [] E [.ref la,vn off] H Q:=by
 intro x dx nx ndx ne
 have s0:Same H (upd (upd H dx (.own x)) x (.ins A.zaa dx [])):=RD.same_mut (RD.same_new ndx) nx
 refine ⟨x,dx,la,lines,off,rfl,upd_same,s0 _ _ hla,fun H' sl bl n1 n2 hr sx=>⟨rfl,?_⟩⟩
 have m1:=s0.free n1
 have m2:=s0.free n2
 refine q H' x sl bl nx m1 m2 (fun c o e=>sx c o (s0 c o e) (ne_of_none e nx)) hr ?_
 have z1:la ≠ sl:=ne_of_none hla m1
 have z2:la ≠ bl:=ne_of_none hla m2
 have z3:sl ≠ bl:=fun z=>by
  obtain ⟨svs,h1,h2⟩:=hr.st
  have h3:=hr.bk
  rw [← z,h1] at h3
  cases h3
  cases h2
 simp [z1,z2,z3]

end
end Pf

namespace PR
def callW (nw:List Tx):List Tx→Option Form
 | n :: h :: hs=>if isWord n=true then some ⟨.call n (h :: hs) nw,(h :: hs).map fun x=>(x,half),nw.map fun x=>(x,half)⟩ else none
 | _=>none
def callF (ws:List Tx):Option Form:=if tx "=" ∈ ws then if ws.idxOf (tx "=")=0 then none else callW (ws.take (ws.idxOf (tx "="))) (ws.drop (ws.idxOf (tx "=") + 1)) else callW [] ws
def isLet:Stm→Bool
 | .let_ _ _=>true
 | _=>false
def sletF (ws:List Tx):Option Form:=match letF ws with
 | some f=>if isLet f.stm=true then some f else none
 | none=>none
def scrF (h:Tx) (ws:List Tx):Option Form:=if h=tx "given" then condF h ws else if h=tx "let" then sletF (h :: ws) else if h=tx "tell" then tellF ws else if h=tx "call" then callF ws else none
def scrW:List Tx→Option Form
 | []=>none
 | h :: ws=>scrF h ws
def scriptForm (line:Tx):Option Form:=scrW (spc 32 line)
structure Dd where
 script:Bool
 t:Rt
 calls:List (Tx × Rt)
abbrev Bk:=List (Tx × Dd)
def look (b:Bk) (x:Tx):Option Dd:=(b.find? fun e=>decide (e.1=x)).map (·.2)
def chkCall (b:Bk) (n:Nat) (x:Tx) (hs nw:List Tx):Option Err:=match look b x with
 | none=>some (.unk n x)
 | some d=>if d.script=true then some (.unk n x) else if hs.length ≠ (d.t.names.drop 1).length∨(nw ≠ []∧nw.length ≠ d.t.told.length) then some (.bad n) else none
def isGiv:Stm→Bool
 | .given _=>true
 | _=>false
def isTell:Stm→Bool
 | .tell _=>true
 | _=>false
def lastFree (l:List Stm):Bool:=match l.getLast? with
 | some .scr=>true
 | some (.given _)=>true
 | _=>false
def callErr (b:Bk) (n:Nat):Stm→Option Err
 | .call x hs nw=>chkCall b n x hs nw
 | _=>none
structure Sdr where
 stms:List Stm
 scope:Scope
def sreadLine (b:Bk) (s:Sdr) (n off at_:Nat) (line:Tx):Except Err Sdr:=match scriptForm line with
 | none => .error (.bad (off + at_ + 1))
 | some f =>
  if (decide (20 < at_) || (!f.good || !isFree [s.scope] f))=true then .error (.bad (off + at_ + 1))
  else if (isGiv f.stm && !lastFree s.stms)=true then .error (.bad (off + at_ + 1))
  else if (isTell f.stm && decide (at_ + 1 < n))=true then .error (.bad (off + at_ + 1))
  else match callErr b (off + at_ + 1) f.stm with
   | some e => .error e
   | none=>match check [s.scope] (off + at_ + 1) f.uses with
    | some e => .error e
    | none => .ok ⟨s.stms++[f.stm],s.scope++f.bound⟩
def sreadLines (b:Bk) (n off:Nat):Nat→Sdr→List Tx→Except Err Sdr
 | _,s,[] => .ok s
 | at_,s,l :: ls=>match sreadLine b s n off at_ l with
  | .error e => .error e
  | .ok s2=>sreadLines b n off (at_ + 1) s2 ls
def putC (acc:List (Tx × Rt)) (x:Tx) (r:Rt):List (Tx × Rt):=if x∈acc.map Prod.fst then acc else acc++[(x,r)]
def callStep (b:Bk) (acc:List (Tx × Rt)):Stm→List (Tx × Rt)
 | .call x _ _=>match look b x with
  | some d=>putC acc x d.t
  | none=>acc
 | _=>acc
def callsOf (b:Bk) (stms:List Stm):List (Tx × Rt):=stms.foldl (callStep b) []
def sread (b:Bk) (lines:List Tx) (off:Nat):Except Err Dd:=match lines with
 | [] => .error (.bad (off + 1))
 | l :: ls=>match firstL l (tx "script") with
  | none => .error (.bad (off + 1))
  | some names=>match sreadLines b lines.length off 1 ⟨[.scr],(names.drop 1).map fun x=>(x,half)⟩ ls with
   | .error e => .error e
   | .ok s => .ok ⟨true,⟨names,toldOf s.stms,lines,s.stms⟩,callsOf b s.stms⟩
def readD (b:Bk) (lines:List Tx) (off:Nat):Except Err Dd:=if (lines.headD []).take 7=tx "script " then sread b lines off else match read lines off with
 | .error e => .error e
 | .ok r => .ok ⟨false,r,[]⟩
def full (l:Tx):Bool:=!l.isEmpty
def body (ls:List Tx):List Tx:=ls.takeWhile full
def titleIn (b:Bk) (l:Tx):Bool:=match (spc 32 l)[1]? with
 | some n=>(look b n).isSome
 | none=>false
def gap2 (rest:List Tx):Bool:=!rest.isEmpty && (rest.take 2).all fun l=>l.isEmpty
def readB:Nat→Bk→Nat→List Tx→Except Err Bk
 | 0,b,_,_ => .ok b
 | _ + 1,b,_,[] => .ok b
 | n + 1,b,st,l :: r =>
  if l=[] then .error (.bad (st + 1))
  else if titleIn b l=true then .error (.bad (st + 1))
  else match readD b (body (l :: r)) st with
   | .error e => .error e
   | .ok d =>
    let rest:=(l :: r).drop (body (l :: r)).length
    if gap2 rest=true then .error (.bad (st + (body (l :: r)).length + 1))
    else readB n (b++[(d.t.names.headD [],d)]) (st + (body (l :: r)).length + 1) (rest.drop 1)
def readBook (t:Tx):Except Err Bk:=readB (spc 10 t).length [] 0 (spc 10 t)
end PR

namespace Pf
open PySem PySem.Spec PyProof.Rows L2 SX RD PR
def sfl (n:Tx) (h:Addr) (tv lv sv cv:V):List (Str × V):=[("name", vst n),("halves", .ref h),("told", tv),("lines", lv),("statements", sv),("calls", cv)]
def EnAt {α : Type} (R:V→α→Prop) (kv:Key × V) (e:Tx × α):Prop:=kv.1=Sum.inr (S e.1)∧R kv.2 e.2
def CallsAt (A:Ad) (K:PySem.W.Frag) (H:Hp) (cd:Addr) (cs:List (Tx × Rt)):Prop:=∃ kvs,H cd=some (.dK kvs)∧Paired (EnAt (RtAt A K H)) kvs cs
def ScrAt (A:Ad) (K:PySem.W.Frag) (H:Hp) (x:Addr) (v:V) (t:Rt) (cs:List (Tx × Rt)):Prop:=∃ (p dx h tb lb sb cd:Addr) (n:Tx) (hs:List Tx) (svs:List V),v = .ref p∧H p=some (.ins A.zaj dx (sfl n h (.ref tb) (.ref lb) (.ref sb) (.ref cd)))∧t.names=n :: hs ∧
 SqT K H h (vsts hs)∧SqT K H tb (vsts t.told)∧SqT K H lb (vsts t.lines)∧H sb=some (.lst svs)∧Paired (StmAt K H) svs t.stms∧CallsAt A K H cd cs∧cd ≠ x
def DdAt (A:Ad) (K:PySem.W.Frag) (H:Hp) (x:Addr) (v:V) (d:Dd):Prop:=if d.script=true then ScrAt A K H x v d.t d.calls else RtAt A K H v d.t
def BkAt (A:Ad) (K:PySem.W.Frag) (H:Hp) (x:Addr) (b:Bk):Prop:=∃ kvs,H x=some (.dK kvs)∧Paired (EnAt (DdAt A K H x)) kvs b
section
variable {A:Ad} {K:PySem.W.Frag} {H H':Hp}
def Dx (x:Addr) (H H':Hp):Prop:=∀ c o,H c=some o→c ≠ x→H' c=some o
theorem Dx.same {x:Addr} (s:Same H H'):Dx x H H':=fun c o e _=>s c o e
theorem Dx.trans {x:Addr} {H2:Hp} (a:Dx x H H') (b:Dx x H' H2):Dx x H H2:=fun c o e n=>b c o (a c o e n) n
theorem Dx.put {x:Addr} {o:HO}:Dx x H (upd H x o):=fun c u e n=>by rw [upd_ne n]; exact e
def Oth (o:Option HO):Prop:=(∀ xs,o ≠ some (.lst xs))∧(∀ xs,o ≠ some (.tup xs))∧(∀ u xs,o ≠ some (.frz u (.tup xs)))∧∀ C dx e fs,o ≠ some (.ins C dx (e :: fs))
theorem Oth.dk {kvs:List (Key × V)}:Oth (some (.dK kvs)):=⟨fun _=>nofun,fun _=>nofun,fun _ _=>nofun,fun _ _ _ _=>nofun⟩
theorem Oth.ins {C dx:Addr}:Oth (some (.ins C dx [])):=⟨fun _=>nofun,fun _=>nofun,fun _ _=>nofun,fun _ _ _ _=>nofun⟩
section
variable {x:Addr} (hx:Oth (H x)) (s:Dx x H H')
include hx s
theorem Dx.kp:Kp H H':=fun a xs e=>by
 have ne:a ≠ x:=fun z=>by
  subst z
  rcases e with e | ⟨o,e⟩
  ·exact hx.2.1 _ e
  ·exact hx.2.2.1 _ _ e
 rcases e with e | ⟨o,e⟩
 ·exact .inl (s a _ e ne)
 ·exact .inr ⟨o,s a _ e ne⟩
theorem Dx.ins {p C dx:Addr} {e:Str × V} {fs:List (Str × V)} (h:H p=some (.ins C dx (e :: fs))):H' p=some (.ins C dx (e :: fs)):=s _ _ h fun z=>hx.2.2.2 C dx e fs (by rw [← z]; exact h)
theorem Dx.lst {p:Addr} {xs:List V} (h:H p=some (.lst xs)):H' p=some (.lst xs):=s _ _ h fun z=>hx.1 xs (by rw [← z]; exact h)
theorem RtAt.dx {v:V} {t:Rt}:RtAt A K H v t→RtAt A K H' v t:=fun ⟨p,dx,h,tb,lb,sb,n,hs,svs,e,hp,en,h1,h2,h3,h4,h5⟩ =>
 ⟨p,dx,h,tb,lb,sb,n,hs,svs,e,s.ins hx hp,en,(s.kp hx).sq h1,(s.kp hx).sq h2,(s.kp hx).sq h3,s.lst hx h4,paired_imp (fun _ _ z=>(s.kp hx).stm z) h5⟩
theorem CallsAt.dx {cd:Addr} {cs:List (Tx × Rt)} (n:cd ≠ x):CallsAt A K H cd cs→CallsAt A K H' cd cs:=fun ⟨kvs,h,pr⟩ =>
 ⟨kvs,s _ _ h n,paired_imp (fun _ _ z=>⟨z.1,RtAt.dx hx s z.2⟩) pr⟩
theorem ScrAt.dx {y:Addr} {v:V} {t:Rt} {cs:List (Tx × Rt)} (hc:x=y∨∀ kvs,H x ≠ some (.dK kvs)):ScrAt A K H y v t cs→ScrAt A K H' y v t cs:=fun ⟨p,dx,h,tb,lb,sb,cd,n,hs,svs,e,hp,en,h1,h2,h3,h4,h5,h6,h7⟩ =>
 ⟨p,dx,h,tb,lb,sb,cd,n,hs,svs,e,s.ins hx hp,en,(s.kp hx).sq h1,(s.kp hx).sq h2,(s.kp hx).sq h3,s.lst hx h4,paired_imp (fun _ _ z=>(s.kp hx).stm z) h5,CallsAt.dx hx s (by
  rcases hc with hc | hc
  ·rw [hc]; exact h7
  ·obtain ⟨kvs,hd,_⟩:=h6
   exact fun z=>hc kvs (by rw [← z]; exact hd)) h6,h7⟩
theorem DdAt.dx {y:Addr} {v:V} {d:Dd} (hc:x=y∨∀ kvs,H x ≠ some (.dK kvs)) (h:DdAt A K H y v d):DdAt A K H' y v d:=by
 unfold DdAt at h ⊢
 split
 ·next c=>rw [if_pos c] at h; exact ScrAt.dx hx s hc h
 ·next c=>rw [if_neg c] at h; exact RtAt.dx hx s h
end
theorem RtAt.same {v:V} {t:Rt} (s:Same H H'):RtAt A K H v t→RtAt A K H' v t:=fun ⟨p,dx,h,tb,lb,sb,n,hs,svs,e,hp,en,h1,h2,h3,h4,h5⟩ =>
 ⟨p,dx,h,tb,lb,sb,n,hs,svs,e,s _ _ hp,en,(Kp.same s).sq h1,(Kp.same s).sq h2,(Kp.same s).sq h3,s _ _ h4,paired_imp (fun _ _ z=>(Kp.same s).stm z) h5⟩
theorem CallsAt.same {cd:Addr} {cs:List (Tx × Rt)} (s:Same H H'):CallsAt A K H cd cs→CallsAt A K H' cd cs:=fun ⟨kvs,h,pr⟩=>⟨kvs,s _ _ h,paired_imp (fun _ _ z=>⟨z.1,RtAt.same s z.2⟩) pr⟩
theorem ScrAt.same {x:Addr} {v:V} {t:Rt} {cs:List (Tx × Rt)} (s:Same H H'):ScrAt A K H x v t cs→ScrAt A K H' x v t cs:=fun ⟨p,dx,h,tb,lb,sb,cd,n,hs,svs,e,hp,en,h1,h2,h3,h4,h5,h6,h7⟩ =>
 ⟨p,dx,h,tb,lb,sb,cd,n,hs,svs,e,s _ _ hp,en,(Kp.same s).sq h1,(Kp.same s).sq h2,(Kp.same s).sq h3,s _ _ h4,paired_imp (fun _ _ z=>(Kp.same s).stm z) h5,CallsAt.same s h6,h7⟩
theorem DdAt.same {x:Addr} {v:V} {d:Dd} (s:Same H H') (h:DdAt A K H x v d):DdAt A K H' x v d:=by
 unfold DdAt at h ⊢
 split
 ·next c=>rw [if_pos c] at h; exact ScrAt.same s h
 ·next c=>rw [if_neg c] at h; exact RtAt.same s h
theorem BkAt.same {x:Addr} {b:Bk} (s:Same H H'):BkAt A K H x b→BkAt A K H' x b:=fun ⟨kvs,h,pr⟩=>⟨kvs,s _ _ h,paired_imp (fun _ _ z=>⟨z.1,DdAt.same s z.2⟩) pr⟩
theorem ScrAt.past {x y:Addr} {v:V} {t:Rt} {cs:List (Tx × Rt)} (n:H y=none) (s:Same H H'):ScrAt A K H x v t cs→ScrAt A K H' y v t cs:=fun ⟨p,dx,h,tb,lb,sb,cd,n1,hs,svs,e,hp,en,h1,h2,h3,h4,h5,h6,h7⟩ =>
 ⟨p,dx,h,tb,lb,sb,cd,n1,hs,svs,e,s _ _ hp,en,(Kp.same s).sq h1,(Kp.same s).sq h2,(Kp.same s).sq h3,s _ _ h4,paired_imp (fun _ _ z=>(Kp.same s).stm z) h5,CallsAt.same s h6,fun z=>by
  obtain ⟨kvs,hc,_⟩:=h6
  rw [z,n] at hc
  cases hc⟩
theorem DdAt.past {x y:Addr} {v:V} {d:Dd} (n:H y=none) (s:Same H H') (h:DdAt A K H x v d):DdAt A K H' y v d:=by
 unfold DdAt at h ⊢
 split
 ·next c=>rw [if_pos c] at h; exact ScrAt.past n s h
 ·next c=>rw [if_neg c] at h; exact RtAt.same s h
theorem val_en {α : Type} {R:V→α→Prop} (x:Tx):∀ {kvs:List (Key × V)} {l:List (Tx × α)},Paired (EnAt R) kvs l →
  (∃ v d,(l.find? fun e=>decide (e.1=x)).map (·.2)=some d∧valV kvs (Sum.inr (S x):Key)=some v∧R v d)∨((l.find? fun e=>decide (e.1=x)).map (·.2)=none∧valV kvs (Sum.inr (S x):Key)=none)
 | _,_,.nil => .inr ⟨rfl,rfl⟩
 | kv :: kvs,e :: l,.cons z t=>by
  obtain ⟨k,v⟩:=kv
  obtain ⟨z1,z2⟩:=z
  have z1:k=Sum.inr (S e.1):=z1
  subst z1
  by_cases h:e.1=x
  ·rw [List.find?_cons_of_pos (by simpa using h),valV_pos (by show Sum.inr (S e.1)=_; rw [h])]
   exact .inl ⟨v,e.2,rfl,rfl,z2⟩
  ·rw [List.find?_cons_of_neg (by simpa using h),valV_neg (fun y=>h (S_inj (Sum.inr.inj y)))]
   exact val_en x t
theorem val_bk {x:Addr} {kvs:List (Key × V)} {b:Bk} (p:Paired (EnAt (DdAt A K H x)) kvs b) (n:Tx):(∃ v d,look b n=some d∧valV kvs (Sum.inr (S n):Key)=some v∧DdAt A K H x v d)∨(look b n=none∧valV kvs (Sum.inr (S n):Key)=none):=val_en n p
theorem BkAt.isD {x:Addr} {b:Bk} (h:BkAt A K H x b):IsD H x:=by
 obtain ⟨kvs,hx,_⟩:=h
 exact .inl ⟨kvs,.inl hx⟩
theorem BkAt.get {x:Addr} {b:Bk} (h:BkAt A K H x b) (n:Tx):∃ o,DGet H x (vst n) o∧((∃ v d,o=some v∧look b n=some d∧DdAt A K H x v d)∨(o=none∧look b n=none)):=by
 obtain ⟨kvs,hx,p⟩:=h
 refine ⟨valV kvs (Sum.inr (S n):Key),.inl ⟨_,Sum.inr (S n),.inl hx,rfl,rfl⟩,?_⟩
 rcases val_bk p n with ⟨v,d,h1,h2,h3⟩ | ⟨h1,h2⟩
 ·exact .inl ⟨v,d,h2,h1,h3⟩
 ·exact .inr ⟨h2,h1⟩
theorem CallsAt.get {x:Addr} {cs:List (Tx × Rt)} (h:CallsAt A K H x cs) (n:Tx):∃ o,DGet H x (vst n) o∧((∃ v d,o=some v∧(cs.find? fun e=>decide (e.1=n)).map (·.2)=some d∧RtAt A K H v d)∨(o=none∧(cs.find? fun e=>decide (e.1=n)).map (·.2)=none)):=by
 obtain ⟨kvs,hx,p⟩:=h
 refine ⟨valV kvs (Sum.inr (S n):Key),.inl ⟨_,Sum.inr (S n),.inl hx,rfl,rfl⟩,?_⟩
 rcases val_en n p with ⟨v,d,h1,h2,h3⟩ | ⟨h1,h2⟩
 ·exact .inl ⟨v,d,h2,h1,h3⟩
 ·exact .inr ⟨h2,h1⟩
theorem BkAt.put {x:Addr} {b:Bk} {n:Tx} {v:V} {d:Dd} {kvs:List (Key × V)} (hx:H x=some (.dK kvs)) (p:Paired (EnAt (DdAt A K H x)) kvs b) (hn:look b n=none) (h:DdAt A K H x v d):BkAt A K (upd H x (.dK (putK kvs (Sum.inr (S n)) v))) x (b++[(n,d)]):=by
 have e:valV kvs (Sum.inr (S n):Key)=none:=by
  rcases val_bk p n with ⟨v,d,h1,_⟩ | ⟨_,h2⟩
  ·rw [hn] at h1; cases h1
  ·exact h2
 rw [putK_new _ e]
 have s:Dx x H (upd H x (.dK (kvs++[(Sum.inr (S n),v)]))):=Dx.put
 refine ⟨_,upd_same,?_⟩
 have ho:Oth (H x):=by rw [hx]; exact .dk
 exact pr_app (paired_imp (fun _ _ z=>⟨z.1,DdAt.dx ho s (.inl rfl) z.2⟩) p) (.cons ⟨rfl,DdAt.dx ho s (.inl rfl) h⟩ .nil)
end
end Pf

namespace Pf
open PySem PySem.Spec PyProof.Rows L2 SX RD PR
def preK:List Tx→Prop:=fun ws=>1≤ws.length∧ws.length≤1000∧ws.head? = some (tx "call")
def callK (ws:List Tx):Option Form:=callF (ws.drop 1)
theorem idx_tx {l:List Tx} {x:Tx} (h:x∈l):l[l.idxOf x]? = some x∧∀ m,m < l.idxOf x→l[m]? ≠ some x:=by
 have hl:=List.idxOf_lt_length_iff.mpr h
 refine ⟨by rw [List.getElem?_eq_getElem hl]; simp,fun m hm e=>?_⟩
 have hml:m < l.length:=by omega
 rw [List.getElem?_eq_getElem hml] at e
 have:=List.not_of_lt_findIdx (show m < l.findIdx (· == x) from hm)
 simp at this
 exact this (Option.some.inj e)
theorem cut_mid (c:Tx) (ws:List Tx) (k:Nat):cutV (vsts (c :: ws)) (some (1:Int)) (some ((k + 1:Nat):Int))=vsts (ws.take k):=by
 unfold cutV
 rw [show (1:Int)=((1:Nat):Int) from rfl,HT.sIx_nat,HT.sIx_nat,vsts_len,List.length_cons]
 unfold vsts
 rw [← List.map_drop,← List.map_take,show min 1 (ws.length + 1)=1 by omega,List.drop_succ_cons,List.drop_zero]
 congr 1
 rcases Nat.le_total k ws.length with h | h
 ·rw [show min (k + 1) (ws.length + 1) - 1=k by omega]
 ·rw [List.take_of_length_le h,List.take_of_length_le (by omega)]
theorem cut_end (c:Tx) (ws:List Tx) (k:Nat):cutV (vsts (c :: ws)) (some ((k + 1:Nat):Int)) none=vsts (ws.drop k):=by
 rw [cut_from]
 unfold vsts
 rw [← List.map_drop,List.drop_succ_cons]
theorem call_ne:tx "call" ≠ tx "=" := by decide +kernel
section
variable {P:Program} {w:World} {K:PySem.W.Frag} {mg:Str→Option Value} {base:Heap} {A:Ad}
theorem zpq (T:Txt K mg A):FnOk P w K mg base CX0 3 A.zfn A.zfl ["words"] (sp_wf A K preK callK):=by
 have zg3:=zjq (P:=P) (w:=w) (base:=base) T
 have zam:=zcv (P:=P) (w:=w) (base:=base) T
 refine T.zho.ok zcd (fun vs H Q E h=>?_) (fun cdv Ar outer s H vs Q E hr h=>?_)
 ·obtain ⟨a,ws,rfl,_⟩:=h
  rfl
 ·obtain ⟨a,ws,rfl,hq,hb,hz,⟨z1,z2,z3⟩,q⟩:=h
  refine ⟨_,(pss_cons (ps_set (i:=1) zcd.nd rfl (Or.inl rfl) (pe_lst pa_nil))
   (RD.pss_cut (ps_if (pt_cmpR (RD.k_in (K:=K) rfl) pe_str (pv 0) (by rfl))
   (pss_cons (ps_set (i:=2) zcd.nd rfl (Or.inl rfl) (RD.k_bm (K:=K) rfl PySem.F.plainAttrs_list PySem.F.slot_list_index PySem.F.type_list_index mt_index (pv 0) (pa_cons pe_str pa_nil)))
   (pss_cons (ps_set (i:=1) zcd.nd rfl (Or.inl rfl) (pe_slice (RD.k_slL (K:=K) rfl) (pv 0) (po_some pe_int) (po_some (pv 2))))
   (pss_cons (ps_set (i:=0) zcd.nd rfl (Or.inl rfl) (pe_lst (pa_cons (pe_ix (RD.k_ixL (K:=K) rfl) (pv 0) pe_int (fun _ _=>rfl)) (StX.pa_star (pe_slice (RD.k_slL (K:=K) rfl) (pv 0) (po_some (pe_op op_add (pv 2) pe_int)) po_none) pa_nil))))
   (pss_one (ps_if (pt_not (RD.k_tru (K:=K) rfl (pv 1) (by intro _; rfl)))
   (pss_one (ps_ret pe_non))
   pss_nil)))))
   pss_nil)
   (RD.pss_cut (ps_if (pt_cmpR op_lt (pe_callB (RD.k_len (K:=K) rfl) (by rfl) T.zau (by decide +kernel) (pa_cons (pv 0) pa_nil)) pe_int (nomark _))
   (pss_one (ps_ret pe_non))
   pss_nil)
   (pss_cons (ps_asg (pe_slice (RD.k_slL (K:=K) rfl) (pv 0) (po_some pe_int) po_none) (RD.k_star (K:=K) rfl (pgs_cons (pg_name (i:=3) zcd.nd rfl (Or.inl rfl)) (RD.pgs_star (pg_name (i:=4) zcd.nd rfl (Or.inl rfl)) pgs_nil))))
   (RD.pss_cut (ps_if (pt_not (pt_val (pe_call zg3 (hr.mono (by decide)) (by rfl) T.zk0 T.zfz.kp T.zkv .nil pass0 (pa_cons (pv 3) pa_nil))))
   (pss_one (ps_ret pe_non))
   pss_nil)
   (pss_cons (ps_setLc (i:=5) (own:=[("half", 6)]) (g:=gName 6) (by rfl) zcd.nd rfl rfl (sw_true rfl rfl rfl (by decide +kernel)) (RD.k_pil (K:=K) rfl (pv 4)) (blkOk_by (own:=[("half", 6)]) (N:=["words", "new", "at", "name", "halves", "used", "half"]) (sc:=defScope zge) (by decide +kernel)) (fun _ _ _ _ _=>(pg_name (i:=6) zcd.nd rfl (Or.inl rfl))) (fun _ _ _ _ _=>pts_nil) (fun _ _ _ _ _=>(pe_tup (pa_cons (pv 6) (pa_cons (RD.pe_gl (by rfl) T.zdp) pa_nil)))))
   (pss_one (ps_ret (pe_make T.zen zam (hr.mono (by decide)) (by rfl) T.zfx T.ze7 .nil pass0 (pa_cons (pe_tup (pa_cons pe_str (pa_cons (pv 3) (pa_cons (pe_callTy (RD.k_tupOf (K:=K) rfl) (by rfl) T.zig (by decide +kernel) (pa_cons (pv 4) pa_nil)) (pa_cons (pe_callTy (RD.k_tupOf (K:=K) rfl) (by rfl) T.zig (by decide +kernel) (pa_cons (pv 1) pa_nil)) pa_nil))))) (pa_cons (pv 5) (pa_cons (pe_lc (own:=[("half", 6)]) (g:=gName 6) (by rfl) zcd.nd (RD.k_pil (K:=K) rfl (pv 1)) (blkOk_by (own:=[("half", 6)]) (N:=["words", "new", "at", "name", "halves", "used", "half"]) (sc:=defScope zge) (by decide +kernel)) (fun _ _ _ _ _=>(pg_name (i:=6) zcd.nd rfl (Or.inl rfl))) (fun _ _ _ _ _=>pts_nil) (fun _ _ _ _ _=>(pe_tup (pa_cons (pv 6) (pa_cons (RD.pe_gl (by rfl) T.zdp) pa_nil))))) pa_nil)))))))))))),?_⟩
  show tSeq _ _ _ [some (.ref a),none,none,none,none,none,none] H
  obtain ⟨ws,rfl⟩:∃ r,ws=tx "call" :: r:=by
   cases ws with
   | nil=>cases z3
   | cons h r=>cases z3; exact ⟨r,rfl⟩
  rw [List.length_cons] at z2
  have q:∀ H' v,Same H H'→OptAt (FormAt A K H H') v (callF ws)→Q v H':=q
  walk_at "rd"
  refine ⟨few,fun p0 n0=>?_⟩
  have t0:=same_new (o := .lst []) n0
  walk_at "rd"
  refine RD.cut (fun σ H'=>∃ (o:Option V) (nl wl:Addr) (nw rs:List Tx),σ = [some (.ref wl),some (.ref nl),o,none,none,none,none]∧Same H H'∧SqL K H' nl (vsts nw)∧SqL K H' wl (vsts (tx "call" :: rs))∧callF ws=callW nw rs∧nw.length≤1000∧rs.length≤1000∧∀ x∈rs,x.length≤10000) ?_ ?_
  ·walk_at "rd"
   refine RD.inLt (t0.seq hq) ?_
   rw [show decide (tx "=" ∈ tx "call" :: ws)=decide (tx "=" ∈ ws) from decide_eq_decide.mpr (by simp [call_ne.symm])]
   walk_at "rd"
   refine RD.dec (fun h1=>?_) (fun h1=>?_)
   ·walk_at "rd"
    refine ⟨RD.tyL (t0.seq hq),?_⟩
    walk_at "rd"
    obtain ⟨i1,i2⟩:=idx_tx h1
    refine RD.idxT (j:=ws.idxOf (tx "=") + 1) (t0.seq hq) (by rw [List.getElem?_cons_succ]; exact i1) (fun m hm=>?_) ?_
    ·cases m with
     | zero=>exact fun e=>call_ne (Option.some.inj e)
     | succ m=>rw [List.getElem?_cons_succ]; exact i2 m (by omega)
    have hk:=List.idxOf_lt_length_iff.mpr h1
    have ef:callF ws=if ws.idxOf (tx "=")=0 then none else callW (ws.take (ws.idxOf (tx "="))) (ws.drop (ws.idxOf (tx "=") + 1)):=if_pos h1
    revert hk ef
    generalize ws.idxOf (tx "=")=k
    intro hk ef
    walk_at "rd"
    refine RD.slL (t0.seq hq) fun p1 n1=>?_
    rw [cut_mid]
    have t1:=t0.trans (same_new (o := .lst (vsts (ws.take k))) n1)
    walk_at "rd"
    refine RD.ixL (t1.seq hq) (show atI (vsts (tx "call" :: ws)) ((0:Nat):Int)=some (vst (tx "call")) from at_n rfl) ?_
    walk_at "rd"
    refine RD.slL (t1.seq hq) fun p2 n2=>?_
    rw [show ((k + 1:Nat):Int) + 1=((k + 1 + 1:Nat):Int) by omega,cut_end]
    have t2:=t1.trans (same_new (o := .lst (vsts (ws.drop (k + 1)))) n2)
    have hp1:=same_new (o := .lst (vsts (ws.drop (k + 1)))) n2 _ _ (upd_same (H:=upd H p0 (.lst [])) (a:=p1) (o := .lst (vsts (ws.take k))))
    refine ⟨p2,_,rfl,.inr (sq upd_same),?_⟩
    walk_at "rd"
    refine ⟨szt (by rw [List.length_append,vsts_len,List.length_drop,List.length_nil]; omega),fun p3 n3=>?_⟩
    have s3:=same_new (o := .lst (vst (tx "call") :: (vsts (ws.drop (k + 1))++[]))) n3
    walk_at "rd"
    refine RD.truL (sq (s3 _ _ hp1)) ?_
    have t3:=t2.trans s3
    cases k with
    | zero =>
     rw [List.take_zero]
     walk_at "rd"
     exact q _ _ t3 (by rw [ef]; rfl)
    | succ k =>
     obtain ⟨y,r,ey⟩:∃ y r,ws.take (k + 1)=y :: r:=by
      cases ws with
      | nil=>exact absurd hk (by simp)
      | cons y r=>exact ⟨_,_,rfl⟩
     rw [show (vsts (ws.take (k + 1))).isEmpty=false by rw [ey]; rfl]
     walk_at "rd"
     refine ⟨_,p1,p3,ws.take (k + 1),ws.drop (k + 1 + 1),rfl,t3,sq (s3 _ _ hp1),sq (by rw [upd_same,List.append_nil]; rfl),by rw [ef,if_neg (by omega)],by rw [List.length_take]; omega,by rw [List.length_drop]; omega,fun x hx=>hb x (List.mem_cons_of_mem _ (List.mem_of_mem_drop hx))⟩
   ·walk_at "rd"
    exact ⟨none,p0,a,[],ws,rfl,t0,sq upd_same,t0.seq hq,if_neg h1,by simp,by omega,fun x hx=>hb x (List.mem_cons_of_mem _ hx)⟩
  rintro σ H1 ⟨o,nl,wl,nw,rs,rfl,s1,hnl,hwl,ec,l1,l2,hb1⟩
  rw [ec] at q
  walk_at "rd"
  refine RD.cut (fun σ H'=>σ = [some (.ref wl),some (.ref nl),o,none,none,none,none]∧H'=H1∧∃ n h hs,rs=n :: h :: hs) ?_ ?_
  ·walk_at "rd"
   refine RD.len hwl ?_
   rw [vsts_len,List.length_cons]
   walk_at "rd"
   refine RD.dec (fun h1=>?_) (fun h1=>?_)
   ·walk_at "rd"
    refine q _ _ s1 ?_
    match rs,h1 with
    | [],_=>exact rfl
    | [_],_=>exact rfl
    | a :: b :: r,h1=>exact absurd h1 (by rw [List.length_cons,List.length_cons]; omega)
   ·walk_at "rd"
    match rs,h1 with
    | [],h1=>exact absurd (show (((0 + 1:Nat):Int)) < 3 by decide) h1
    | [_],h1=>exact absurd (show (((1 + 1:Nat):Int)) < 3 by decide) h1
    | n :: h :: hs,_=>exact ⟨rfl,rfl,n,h,hs,rfl⟩
  rintro σ H2 ⟨rfl,rfl,n,h,hs,rfl⟩
  rw [List.length_cons] at l2
  walk_at "rd"
  refine RD.slL hwl fun p4 n4=>?_
  rw [show cutV (vsts (tx "call" :: n :: h :: hs)) (some 1) none=vsts (n :: h :: hs) from cut_end (tx "call") (n :: h :: hs) 0]
  have t4:=same_new (o := .lst (vsts (n :: h :: hs))) n4
  walk_at "rd"
  refine RD.gst (sq upd_same) (by omega) fun D nD=>?_
  have sD:=(s1.trans t4).trans (same_new (o := .lst (vsts (h :: hs))) nD)
  have hD:=upd_same (H:=upd H2 p4 (.lst (vsts (n :: h :: hs)))) (a:=D) (o := .lst (vsts (h :: hs)))
  have sN:=(same_new (o := .lst (vsts (n :: h :: hs))) n4).trans (same_new (o := .lst (vsts (h :: hs))) nD)
  revert hD sD sN
  generalize upd (upd H2 p4 (.lst (vsts (n :: h :: hs)))) D (.lst (vsts (h :: hs)))=H3
  intro sD hD sN
  walk_at "rd"
  refine RD.cut (fun σ H'=>σ = [some (.ref wl),some (.ref nl),o,some (vst n),some (.ref D),none,none]∧Same H3 H'∧isWord n=true) ?_ ?_
  ·walk_at "rd"
   refine ⟨n,rfl,by have:=hb1 n (by simp); omega,fun H4 s4=>?_⟩
   walk_at "rd"
   cases hw:isWord n with
   | false =>
    walk_at "rn"
    exact q _ _ (sD.trans s4) (by rw [show callW nw (n :: h :: hs)=none from if_neg (by rw [hw]; simp)]; rfl)
   | true =>
    walk_at "rn"
    exact ⟨rfl,s4,rfl⟩
  rintro σ H4 ⟨rfl,s4,hw⟩
  have ew:callW nw (n :: h :: hs)=some ⟨.call n (h :: hs) nw,(h :: hs).map fun x=>(x,half),nw.map fun x=>(x,half)⟩:=if_pos hw
  rw [ew] at q
  have hnl4:=(sN.trans s4).seq hnl
  walk_at "rd"
  refine lcTP (sq (s4 _ _ hD)) (by rw [List.length_cons]; rw [List.length_cons] at l2; omega) (fun x=>(x,half)) (fun j x H1 Q' R' hx s1 kT=>?_) (fun H5 u nu s5 hu=>?_)
  ·walk_at "wp"
   walk_at "rd"
   refine ⟨rfl,?_⟩
   walk_at "rd"
   exact ⟨few,fun c nc=>kT c nc⟩
  ·walk_at "rd"
   refine RD.tupL (sq (s5 _ _ (s4 _ _ hD))) fun p6 n6=>?_
   have t6:=same_new (o := .tup (vsts (h :: hs))) n6
   walk_at "rd"
   refine RD.tupL ((s5.trans t6).seq hnl4) fun p7 n7=>?_
   have t7:=same_new (o := .tup (vsts nw)) n7
   walk_at "rd"
   refine ⟨few,fun p8 n8=>?_⟩
   have t8:=same_new (o := .tup [vst (tx "call"),vst n,V.ref p6,V.ref p7]) n8
   have h6:=t8 _ _ (t7 _ _ (upd_same (H:=H5) (a:=p6) (o := .tup (vsts (h :: hs)))))
   have h7:=t8 _ _ (upd_same (H:=upd H5 p6 (.tup (vsts (h :: hs)))) (a:=p7) (o := .tup (vsts nw)))
   have h8:=upd_same (H:=upd (upd H5 p6 (.tup (vsts (h :: hs)))) p7 (.tup (vsts nw))) (a:=p8) (o := .tup [vst (tx "call"),vst n,V.ref p6,V.ref p7])
   have t58:=(t6.trans t7).trans t8
   revert h6 h7 h8 t58
   generalize upd (upd (upd H5 p6 (.tup (vsts (h :: hs)))) p7 (.tup (vsts nw))) p8 (.tup [vst (tx "call"),vst n,V.ref p6,V.ref p7])=H6
   intro h6 h7 h8 t58
   walk_at "rd"
   refine lcTP ((s5.trans t58).seq hnl4) (by omega) (fun x=>(x,half)) (fun j x H1 Q' R' hx s1 kT=>?_) (fun H7 u2 nu2 s7 hu2=>?_)
   ·walk_at "wp"
    walk_at "rd"
    refine ⟨rfl,?_⟩
    walk_at "rd"
    exact ⟨few,fun c nc=>kT c nc⟩
   ·walk_at "rd"
    have sZ:=((sD.trans s4).trans s5).trans (t58.trans s7)
    refine mk_form (f:=⟨.call n (h :: hs) nw,(h :: hs).map fun x=>(x,half),nw.map fun x=>(x,half)⟩) (sv := .ref p8) (u:=u) (b:=u2) rfl ⟨p8,rfl,p6,p7,st (s7 _ _ h8),st (s7 _ _ h6),st (s7 _ _ h7)⟩ (pairsA_T (hu.same (t58.trans s7))) (pairsA_T hu2) fun H' v s' hf=>?_
    exact q _ _ (sZ.trans s') (hf.past sZ)
def sp_script_form (A:Ad) (K:PySem.W.Frag):Sp:=fun vs H Q _=>∃ t:Tx,vs=[vst t]∧t.length≤900∧∀ H' v,Same H H'→OptAt (FormAt A K H H') v (scriptForm t)→Q v H'
theorem zoj (T:Txt K mg A):FnOk P w K mg base CX0 6 A.zef A.zea ["line"] (sp_script_form A K):=by
 have zh7:=zji (P:=P) (w:=w) (base:=base) T
 have zl0:=znj (P:=P) (w:=w) (base:=base) T
 have zlb:=zm7 (P:=P) (w:=w) (base:=base) T
 have zp8:=zpq (P:=P) (w:=w) (base:=base) T
 refine T.zgb.ok ziy (fun vs H Q E h=>?_) (fun cdv Ar outer s H vs Q E hr h=>?_)
 ·obtain ⟨t,rfl,_⟩:=h
  rfl
 ·obtain ⟨t,rfl,hl,q⟩:=h
  refine ⟨_,(pss_cons (ps_set (i:=1) ziy.nd rfl (Or.inl rfl) (RD.k_split (pv 0) pe_str))
   (RD.pss_cut (ps_if (pt_cmpR op_eq (pe_ix (RD.k_ixL (K:=K) rfl) (pv 1) pe_int (fun _ _=>rfl)) pe_str (nomark _))
   (pss_one (ps_ret (pe_call zh7 (hr.mono (by decide)) (by rfl) T.zka T.zd0.kp T.zko .nil pass0 (pa_cons (pv 1) pa_nil))))
   pss_nil)
   (RD.pss_cut (ps_if (pt_cmpR op_eq (pe_ix (RD.k_ixL (K:=K) rfl) (pv 1) pe_int (fun _ _=>rfl)) pe_str (nomark _))
   (pss_cons (ps_set (i:=2) ziy.nd rfl (Or.inl rfl) (pe_call zl0 (hr.mono (by decide)) (by rfl) T.zn5 T.zhe.kp T.zn1 .nil pass0 (pa_cons (pv 1) pa_nil)))
   (pss_one (ps_ret (pe_ifExp (PW.pt (pw_or (pt_cmpR op_isN (pv 2) pe_non (nomark _)) (pw_or1 (pt_cmpR op_ne (pe_ix (RD.k_ixT (K:=K) rfl) (RD.k_fld (K:=K) rfl (pv 2) rfl) pe_int (fun _ _=>rfl)) pe_str (nomark _))))) pe_non (pv 2)))))
   pss_nil)
   (RD.pss_cut (ps_if (pt_cmpR op_eq (pe_ix (RD.k_ixL (K:=K) rfl) (pv 1) pe_int (fun _ _=>rfl)) pe_str (nomark _))
   (pss_one (ps_ret (pe_call zlb (hr.mono (by decide)) (by rfl) T.znl T.zgc.kp T.znm .nil pass0 (pa_cons (pv 1) pa_nil))))
   pss_nil)
   (pss_one (ps_ret (pe_ifExp (pt_cmpR op_eq (pe_ix (RD.k_ixL (K:=K) rfl) (pv 1) pe_int (fun _ _=>rfl)) pe_str (nomark _)) (pe_call zp8 (hr.mono (by decide)) (by rfl) T.zqa T.zho.kp T.zqj .nil pass0 (pa_cons (pv 1) pa_nil)) pe_non))))))),?_⟩
  show tSeq _ _ _ [some (vst t),none,none] H
  walk_at "rd"
  refine ⟨⟨_,rfl⟩,?_⟩
  walk_at "rd"
  rw [tspc]
  refine RD.splt (by decide) (by omega) fun a na=>?_
  have hc:=spc_cnt 32 t
  have hn:=spc_ne 32 t
  have hbb:=spc_len 32 t
  rw [show TL.spl [32] 0 [] t=spc 32 t from rfl]
  cases es:spc 32 t with
  | nil=>exact absurd es hn
  | cons h ws =>
   rw [es] at hc hbb
   rw [List.length_cons] at hc
   have e0:scriptForm t=scrF h ws:=by
    unfold scriptForm
    rw [es]
    rfl
   have hb:∀ x∈h :: ws,x.length≤10000:=fun x hx=>Nat.le_trans (hbb x hx) (by omega)
   have hz:(h :: ws).length≤11000:=by rw [List.length_cons]; omega
   rw [e0] at q
   have s0:=same_new (o := .lst (vsts (h :: ws))) na
   have hq:SqL K _ a (vsts (h :: ws)):=sq (upd_same (H:=H) (a:=a) (o := .lst (vsts (h :: ws))))
   revert s0 hq
   generalize upd H a (.lst (vsts (h :: ws)))=H0
   intro s0 hq
   walk_at "rd"
   refine RD.cut (fun σ H'=>σ = [some (vst t),some (.ref a),none]∧H'=H0∧scrF h ws=if h=tx "let" then sletF (h :: ws) else if h=tx "tell" then tellF ws else if h=tx "call" then callF ws else none) ?_ ?_
   ·walk_at "rd"
    refine RD.ixL hq (show atI (vsts (h :: ws)) ((0:Nat):Int)=some (vst h) from at_n rfl) ?_
    walk_at "rd"
    refine RD.dec (fun h1=>?_) (fun h1=>?_)
    ·walk_at "rd"
     refine ⟨a,h :: ws,rfl,hq,hb,hz,⟨h,ws,rfl,.inl h1⟩,fun H' v s' hv=>?_⟩
     refine q _ _ (s0.trans s') ?_
     rw [scrF,if_pos h1]
     exact opt_past s0 hv
    ·walk_at "rd"
     exact ⟨rfl,rfl,if_neg h1⟩
   rintro σ H1 ⟨rfl,rfl,e1⟩
   rw [e1] at q
   walk_at "rd"
   refine RD.cut (fun σ H'=>σ = [some (vst t),some (.ref a),none]∧H'=H1∧h ≠ tx "let") ?_ ?_
   ·walk_at "rd"
    refine RD.ixL hq (show atI (vsts (h :: ws)) ((0:Nat):Int)=some (vst h) from at_n rfl) ?_
    walk_at "rd"
    refine RD.dec (fun h1=>?_) (fun h1=>?_)
    ·walk_at "rd"
     refine ⟨a,h :: ws,rfl,hq,hb,hz,trivial,fun H' v s' hv=>?_⟩
     rw [if_pos (show h=tx "let" from h1)] at q
     unfold sletF at q
     walk_at "rd"
     refine ⟨rfl,?_⟩
     walk_at "rd"
     cases hlf:letF (h :: ws) with
     | none =>
      rw [hlf] at hv q
      have hv:v = .non:=hv
      subst hv
      refine RD.decT rfl ?_
      walk_at "rd"
      exact q _ _ (s0.trans s') rfl
     | some f =>
      rw [hlf] at hv q
      have hv:FormAt A K H1 H' v f:=hv
      have hv2:=hv
      obtain ⟨fp,fdx,sv,fu,fb,rfl,z1,z2,z3,hfp,hfs,hfu,hfb⟩:=hv2
      refine RD.decF nofun ?_
      walk_at "rd"
      refine ⟨fp,A.zap,fdx,_,_,rfl,hfp,T.zd9,T.zeq,rfl,?_⟩
      walk_at "rd"
      obtain ⟨b,xs,rfl,hb2⟩:=hfs.head
      refine RD.ixT hb2 (show atI _ ((0:Nat):Int)=some (vst (tx (headS f.stm))) from at_n rfl) ?_
      walk_at "rd"
      have el:(tx (headS f.stm)=tx "let")↔isLet f.stm=true:=by
       cases f.stm <;> simp [headS,isLet] <;> decide +kernel
      refine RD.ndec (fun h2=>?_) (fun h2=>?_)
      ·walk_at "rd"
       exact q _ _ (s0.trans s') (by simp only; rw [if_neg (fun z=>h2 (el.mpr z))]; rfl)
      ·walk_at "rd"
       exact q _ _ (s0.trans s') (by simp only; rw [if_pos (el.mp h2)]; exact FormAt.past s0 hv)
    ·walk_at "rd"
     exact ⟨rfl,rfl,h1⟩
   rintro σ H2 ⟨rfl,rfl,e2⟩
   rw [if_neg e2] at q
   walk_at "rd"
   refine RD.cut (fun σ H'=>σ = [some (vst t),some (.ref a),none]∧H'=H2∧h ≠ tx "tell") ?_ ?_
   ·walk_at "rd"
    refine RD.ixL hq (show atI (vsts (h :: ws)) ((0:Nat):Int)=some (vst h) from at_n rfl) ?_
    walk_at "rd"
    refine RD.dec (fun h1=>?_) (fun h1=>?_)
    ·walk_at "rd"
     refine ⟨a,h :: ws,rfl,hq,hb,hz,Nat.succ_le_succ (Nat.zero_le _),fun H' v s' hv=>?_⟩
     refine q _ _ (s0.trans s') ?_
     rw [if_pos (show h=tx "tell" from h1)]
     exact opt_past s0 hv
    ·walk_at "rd"
     exact ⟨rfl,rfl,h1⟩
   rintro σ H3 ⟨rfl,rfl,e3⟩
   rw [if_neg e3] at q
   walk_at "rd"
   refine RD.ixL hq (show atI (vsts (h :: ws)) ((0:Nat):Int)=some (vst h) from at_n rfl) ?_
   walk_at "rd"
   refine RD.dec (fun h1=>?_) (fun h1=>?_)
   ·walk_at "rd"
    have h1:h=tx "call" := h1
    subst h1
    refine ⟨a,_,rfl,hq,hb,hz,⟨by simp,by rw [List.length_cons]; omega,rfl⟩,fun H' v s' hv=>?_⟩
    refine q _ _ (s0.trans s') ?_
    rw [if_pos rfl]
    exact opt_past s0 hv
   ·walk_at "rd"
    refine q _ _ s0 ?_
    rw [if_neg h1]
    rfl
end
end Pf

namespace Pf
open PySem PySem.Spec PyProof.Rows L2 SX RD PR
def sp_scr (A:Ad) (K:PySem.W.Frag):Sp:=fun vs H Q _=>∃ (p dx nm:Addr) (n:Tx) (hs:List Tx) (tv lv sv cv:V),vs=[.ref p,.ref nm,tv,lv,sv,cv]∧H p=some (.ins A.zaj dx [])∧SqT K H nm (vsts (n :: hs)) ∧
 ∀ (H':Hp) (h:Addr),H h=none→H' p=some (.ins A.zaj dx (sfl n h tv lv sv cv))→H' h=some (.tup (vsts hs))→Sx p H H'→Q .non H'
def sp_slen (A:Ad) (K:PySem.W.Frag):Sp:=fun vs H Q _=>∃ (p dx lb:Addr) (fs:List (Str × V)) (ls:List Tx),vs=[.ref p]∧H p=some (.ins A.zaj dx fs)∧fs.lookup ("lines" : Str)=some (.ref lb)∧SqT K H lb (vsts ls)∧Q (vn ls.length) H
def sp_rlen (A:Ad) (K:PySem.W.Frag):Sp:=fun vs H Q _=>∃ (p dx lb:Addr) (fs:List (Str × V)) (ls:List Tx),vs=[.ref p]∧H p=some (.ins A.zai dx fs)∧fs.lookup ("lines" : Str)=some (.ref lb)∧SqT K H lb (vsts ls)∧Q (vn ls.length) H
def RzU (A:Ad) (E:XK) (F:Hp→Prop) (n:Tx):Prop:=∀ H' dd,F H'→H' dd=some (.xd [("name", vst n)])→E (.ref A.zag) (some dd) H'
def sp_srou (A:Ad) (K:PySem.W.Frag):Sp:=fun vs H Q E=>∃ (p dx cd:Addr) (fs:List (Str × V)) (cs:List (Tx × Rt)) (n:Tx),vs=[.ref p,vst n]∧H p=some (.ins A.zaj dx fs)∧fs.lookup ("calls" : Str)=some (.ref cd)∧CallsAt A K H cd cs ∧
 (∀ t v,(cs.find? fun e=>decide (e.1=n)).map (·.2)=some t→RtAt A K H v t→Q v H)∧((cs.find? fun e=>decide (e.1=n)).map (·.2)=none→RzU A E (Same H) n)
def BookAt (A:Ad) (K:PySem.W.Frag) (H:Hp) (v:V) (b:Bk):Prop:=∃ p dx bd,v = .ref p∧H p=some (.ins A.zbp dx [("deeds", .ref bd)])∧BkAt A K H bd b
def sp_bini (A:Ad) (K:PySem.W.Frag):Sp:=fun vs H Q _=>∃ (p dx x:Addr) (b:Bk),vs=[.ref p,.ref x]∧H p=some (.ins A.zbp dx [])∧BkAt A K H x b∧∀ (H':Hp),BookAt A K H' (.ref p) b→Sx p H H'→Q .non H'
def sp_bget (A:Ad) (K:PySem.W.Frag):Sp:=fun vs H Q E=>∃ (v:V) (b:Bk) (n:Tx),vs=[v,vst n]∧BookAt A K H v b∧(∀ d u x,look b n=some d→DdAt A K H x u d→Q u H)∧(look b n=none→RzU A E (Same H) n)
def sp_bin (A:Ad) (K:PySem.W.Frag):Sp:=fun vs H Q _=>∃ (v:V) (b:Bk) (n:Tx),vs=[v,vst n]∧BookAt A K H v b∧Q (.bl (look b n).isSome) H
def sp_blen (A:Ad) (K:PySem.W.Frag):Sp:=fun vs H Q _=>∃ (v:V) (b:Bk),vs=[v]∧BookAt A K H v b∧b.length≤1000∧Q (vn b.length) H
def sp_bnames (A:Ad) (K:PySem.W.Frag):Sp:=fun vs H Q _=>∃ (v:V) (b:Bk),vs=[v]∧BookAt A K H v b∧b.length≤1000∧∀ a,H a=none→Q (.ref a) (upd H a (.lst (vsts (b.map Prod.fst))))
section
variable {P:Program} {w:World} {K:PySem.W.Frag} {mg:Str→Option Value} {base:Heap} {A:Ad}
theorem zm3 (T:Txt K mg A):FnOk P w K mg base CX0 1 A.zbl A.zcl ["self", "names", "told", "lines", "statements", "calls"] (sp_scr A K):=by
 refine T.zfr.ok zm5 (fun vs H Q E h=>?_) (fun cdv Ar outer s H vs Q E hr h=>?_)
 ·obtain ⟨p,dx,nm,n,hs,tv,lv,sv,cv,rfl,_⟩:=h
  rfl
 ·obtain ⟨p,dx,nm,n,hs,tv,lv,sv,cv,rfl,hp,hn,q⟩:=h
  refine ⟨_,(pss_cons (RD.k_sfld (K:=K) rfl (pv 0) (pe_ix (RD.k_ixT (K:=K) rfl) (pv 1) pe_int (fun _ _=>rfl)) rfl)
   (pss_cons (RD.k_sfld (K:=K) rfl (pv 0) (pe_slice (RD.k_slT (K:=K) rfl) (pv 1) (po_some pe_int) po_none) rfl)
   (pss_cons (RD.k_sfld (K:=K) rfl (pv 0) (pv 2) rfl)
   (pss_cons (RD.k_sfld (K:=K) rfl (pv 0) (pv 3) rfl)
   (pss_cons (RD.k_sfld (K:=K) rfl (pv 0) (pv 4) rfl)
   (pss_one (RD.k_sfld (K:=K) rfl (pv 0) (pv 5) rfl))))))),?_⟩
  show tSeq _ _ _ [some (.ref p),some (.ref nm),some (tv),some (lv),some (sv),some (cv)] H
  walk_at "rd"
  refine RD.ixT hn (show atI _ ((0:Nat):Int)=some (vst n) from at_n rfl) ?_
  walk_at "rd"
  refine ⟨p,A.zaj,dx,[],rfl,hp,T.zf0,T.zl8,by decide,?_⟩
  have x1:=Sx.put (p:=p) (H:=H) (o := .ins A.zaj dx (putF "name" (vst n) []))
  walk_at "rd"
  refine RD.slT (x1.stp hp hn) (fun z=>by
   have z1:HT.sIx (vsts (n :: hs)).length 0 (some ((1:Nat):Int))=0:=z.1
   rw [HT.sIx_nat,vsts_len,List.length_cons] at z1
   omega) fun h nh=>?_
  have ec:cutV (vsts (n :: hs)) (some ((1:Nat):Int)) none=vsts hs:=by
   rw [cut_from]
   rfl
  have ec':cutV (vsts (n :: hs)) (some 1) none=vsts hs:=ec
  rw [ec']
  have t1:=same_new (o := .tup (vsts hs)) nh
  have nh0:H h=none:=x1.free upd_same nh
  have ph:h ≠ p:=fun z=>by rw [z,hp] at nh0; cases nh0
  walk_at "rd"
  refine ⟨p,A.zaj,dx,_,rfl,t1 _ _ upd_same,T.zf0,T.zob,(show (1:Nat) < 1000 by decide),?_⟩
  walk_at "rd"
  refine ⟨p,A.zaj,dx,_,rfl,upd_same,T.zf0,T.zpb,(show (2:Nat) < 1000 by decide),?_⟩
  walk_at "rd"
  refine ⟨p,A.zaj,dx,_,rfl,upd_same,T.zf0,T.zot,(show (3:Nat) < 1000 by decide),?_⟩
  walk_at "rd"
  refine ⟨p,A.zaj,dx,_,rfl,upd_same,T.zf0,T.zmm,(show (4:Nat) < 1000 by decide),?_⟩
  walk_at "rd"
  refine ⟨p,A.zaj,dx,_,rfl,upd_same,T.zf0,T.zoo,(show (5:Nat) < 1000 by decide),?_⟩
  refine q _ h nh0 (by rw [upd_same]; rfl) ?_ ?_
  ·rw [upd_ne ph,upd_ne ph,upd_ne ph,upd_ne ph,upd_ne ph]
   exact upd_same
  ·exact (((((x1.trans (Sx.same t1)).trans Sx.put).trans Sx.put).trans Sx.put).trans Sx.put).trans Sx.put
theorem znq (T:Txt K mg A):FnOk P w K mg base CX0 1 A.zb9 A.zc9 ["self", "deeds"] (sp_bini A K):=by
 refine T.zgi.ok zns (fun vs H Q E h=>?_) (fun cdv Ar outer s H vs Q E hr h=>?_)
 ·obtain ⟨p,dx,x,b,rfl,_⟩:=h
  rfl
 ·obtain ⟨p,dx,x,b,rfl,hp,⟨kvs,hx,pr⟩,q⟩:=h
  refine ⟨_,(pss_one (RD.k_sfld (K:=K) rfl (pv 0) (pe_callTy RD.k_dictD (by rfl) T.zsy (by decide +kernel) (pa_cons (pv 1) pa_nil)) rfl)),?_⟩
  show sFld _ _ _ _ _ [some (.ref p),some (.ref x)] H
  walk_at "rd"
  refine ⟨x,kvs,rfl,.inl hx,fun bd nbd=>?_⟩
  have t1:=same_new (o := .dK kvs) nbd
  walk_at "rd"
  refine ⟨p,A.zbp,dx,[],rfl,t1 _ _ hp,T.zqm,T.zna,by decide,?_⟩
  have pb:bd ≠ p:=fun z=>by rw [z,hp] at nbd; cases nbd
  have hb2:BkAt A K (upd H bd (.dK kvs)) bd b:=⟨kvs,upd_same,paired_imp (fun _ _ z=>⟨z.1,DdAt.past nbd t1 z.2⟩) pr⟩
  have x2:Sx p H (upd (upd H bd (.dK kvs)) p (.ins A.zbp dx (putF "deeds" (.ref bd) []))):=(Sx.same t1).trans Sx.put
  have ho:Oth (upd H bd (.dK kvs) p):=by rw [t1 _ _ hp]; exact .ins
  have hn:∀ k,upd H bd (.dK kvs) p ≠ some (.dK k):=fun k z=>by rw [t1 _ _ hp] at z; cases z
  obtain ⟨k2,e2,pr2⟩:=hb2
  refine q _ ⟨p,dx,bd,rfl,upd_same,k2,by rw [upd_ne pb]; exact e2,paired_imp (fun _ _ z=>⟨z.1,DdAt.dx ho (fun c o e n=>by rw [upd_ne n]; exact e) (.inr hn) z.2⟩) pr2⟩ x2
theorem zn2 (T:Txt K mg A):FnOk P w K mg base CX0 1 A.zdv A.zdz ["self"] (sp_blen A K):=by
 refine T.zhd.ok zn7 (fun vs H Q E h=>?_) (fun cdv Ar outer s H vs Q E hr h=>?_)
 ·obtain ⟨v,b,rfl,_⟩:=h
  rfl
 ·obtain ⟨v,b,rfl,⟨p,dx,bd,rfl,hp,kvs,hk,pr⟩,hl,q⟩:=h
  refine ⟨_,(pss_one (ps_ret (pe_callB RD.k_lenR (by rfl) T.zau (by decide +kernel) (pa_cons (RD.k_fld (K:=K) rfl (pv 0) rfl) pa_nil)))),?_⟩
  show tRet _ _ [some (.ref p)] H
  walk_at "rd"
  refine ⟨p,A.zbp,dx,_,_,rfl,hp,T.zqm,T.zna,rfl,?_⟩
  walk_at "rd"
  refine ⟨bd,kvs,rfl,.inl hk,?_⟩
  rw [← paired_len pr] at q
  exact q
end
end Pf

namespace Pf
open PySem PySem.Spec PyProof.Rows L2 SX RD PR
def srf (la:Addr) (off:Nat) (dd sl:Addr):List (Str × V):=[("lines", .ref la),("offset", vn off),("deeds", .ref dd),("statements", .ref sl)]
structure SrAt (A:Ad) (K:PySem.W.Frag) (H:Hp) (p la sl dd:Addr) (lines:List Tx) (off:Nat) (stms:List Stm):Prop where
 ob:∃ dx,H p=some (.ins A.zad dx (srf la off dd sl))
 li:H la=some (.lst (vsts lines))
 st:∃ svs,H sl=some (.lst svs)∧Paired (StmAt K H) svs stms
theorem SrAt.same {A:Ad} {K:PySem.W.Frag} {H H':Hp} {p la sl dd:Addr} {lines:List Tx} {off:Nat} {stms:List Stm} (s:Same H H') (r:SrAt A K H p la sl dd lines off stms):SrAt A K H' p la sl dd lines off stms :=
 ⟨r.ob.imp fun _ h=>s _ _ h,s _ _ r.li,r.st.imp fun svs h=>⟨s _ _ h.1,paired_imp (fun _ _ z=>(Kp.same s).stm z) h.2⟩⟩
def sp_srinit (A:Ad) (K:PySem.W.Frag):Sp:=fun vs H Q _=>∃ (p dx la dd:Addr) (lines:List Tx) (off:Nat),vs=[.ref p,.ref la,vn off,.ref dd]∧H p=some (.ins A.zad dx [])∧H la=some (.lst (vsts lines)) ∧
 ∀ (H':Hp) (sl:Addr),H sl=none→SrAt A K H' p la sl dd lines off [.scr]→Sx p H H'→Q .non H'
def sp_ccall (A:Ad) (K:PySem.W.Frag):Sp:=fun vs H Q E=>∃ (p la sl dd:Addr) (lines:List Tx) (off:Nat) (stms:List Stm) (b:Bk) (sv:V) (x:Tx) (hs nw:List Tx) (n:Nat),vs=[.ref p,sv,vn n]∧SrAt A K H p la sl dd lines off stms∧BkAt A K H dd b∧StmAt K H sv (.call x hs nw) ∧
 (chkCall b n x hs nw=none→Q .non H)∧∀ e,chkCall b n x hs nw=some e→Rz A E (Same H) e
section
variable {P:Program} {w:World} {K:PySem.W.Frag} {mg:Str→Option Value} {base:Heap} {A:Ad}
theorem con_rt (T:Txt K mg A):Con K A.zai "is_script" (.bl false) (.bool false):=⟨T.zlz,rfl,T.zlp,by decide +kernel⟩
theorem con_sc (T:Txt K mg A):Con K A.zaj "is_script" (.bl true) (.bool true):=⟨T.zmn,rfl,T.zmo,by decide +kernel⟩
theorem zj4 (T:Txt K mg A):FnOk P w K mg base CX0 1 A.zat A.zbb ["self", "lines", "offset", "deeds"] (sp_srinit A K):=by
 refine T.zdo.ok zkh (fun vs H Q E h=>?_) (fun cdv Ar outer s H vs Q E hr h=>?_)
 ·obtain ⟨p,dx,la,dd,lines,off,rfl,_⟩:=h
  rfl
 ·obtain ⟨p,dx,la,dd,lines,off,rfl,hp,hla,q⟩:=h
  refine ⟨_,(pss_cons (RD.k_sfld (K:=K) rfl (pv 0) (pv 1) rfl)
   (pss_cons (RD.k_sfld (K:=K) rfl (pv 0) (pv 2) rfl)
   (pss_cons (RD.k_sfld (K:=K) rfl (pv 0) (pv 3) rfl)
   (pss_one (RD.k_sfld (K:=K) rfl (pv 0) (pe_lst (pa_cons (pe_tup (pa_cons pe_str pa_nil)) pa_nil)) rfl))))),?_⟩
  show tSeq _ _ _ [some (.ref p),some (.ref la),some (vn off),some (.ref dd)] H
  walk_at "rd"
  refine ⟨p,A.zad,dx,[],rfl,hp,T.zal,T.zci,by decide,?_⟩
  walk_at "rd"
  refine ⟨p,A.zad,dx,_,rfl,upd_same,T.zal,T.zft,(show (1:Nat) < 1000 by decide),?_⟩
  walk_at "rd"
  refine ⟨p,A.zad,dx,_,rfl,upd_same,T.zal,T.zf6,(show (2:Nat) < 1000 by decide),?_⟩
  have x1:=((Sx.put (p:=p) (H:=H) (o := .ins A.zad dx (putF "lines" (.ref la) []))).trans (Sx.put (p:=p) (o := .ins A.zad dx (putF "offset" (vn off) (putF "lines" (.ref la) []))))).trans (Sx.put (p:=p) (o := .ins A.zad dx (putF "deeds" (.ref dd) (putF "offset" (vn off) (putF "lines" (.ref la) [])))))
  revert x1
  have hp1:=upd_same (H:=upd (upd H p (.ins A.zad dx (putF "lines" (.ref la) []))) p (.ins A.zad dx (putF "offset" (vn off) (putF "lines" (.ref la) [])))) (a:=p) (o := .ins A.zad dx (putF "deeds" (.ref dd) (putF "offset" (vn off) (putF "lines" (.ref la) []))))
  revert hp1
  generalize upd (upd (upd H p (.ins A.zad dx (putF "lines" (.ref la) []))) p (.ins A.zad dx (putF "offset" (vn off) (putF "lines" (.ref la) [])))) p (.ins A.zad dx (putF "deeds" (.ref dd) (putF "offset" (vn off) (putF "lines" (.ref la) []))))=H1
  intro hp1 x1
  walk_at "rd"
  refine ⟨few,fun q1 n1=>?_⟩
  have t1:=same_new (o := .tup [vst (tx "script")]) n1
  walk_at "rd"
  refine ⟨few,fun sl nsl=>?_⟩
  have t2:=same_new (o := .lst [V.ref q1]) nsl
  walk_at "rd"
  refine ⟨p,A.zad,dx,_,rfl,(t1.trans t2) _ _ hp1,T.zal,T.zbk,(show (3:Nat) < 1000 by decide),?_⟩
  have nsl1:H1 sl=none:=t1.free nsl
  have psl:sl ≠ p:=fun z=>by rw [z,hp1] at nsl1; cases nsl1
  have pq1:q1 ≠ p:=fun z=>by rw [z,hp1] at n1; cases n1
  have pla:la ≠ p:=fun z=>by rw [z,hp] at hla; cases hla
  have x2:=(x1.trans (Sx.same (p:=p) (t1.trans t2))).trans (Sx.put (p:=p) (o := .ins A.zad dx (srf la off dd sl)))
  have hsl:_=_:=upd_same (H:=upd H1 q1 (.tup [vst (tx "script")])) (a:=sl) (o := .lst [V.ref q1])
  have hq1:_=_:=t2 _ _ (upd_same (H:=H1) (a:=q1) (o := .tup [vst (tx "script")]))
  refine q _ sl (x1.free hp1 nsl1) ⟨⟨dx,upd_same⟩,x2 _ _ hla pla,[V.ref q1],by rw [upd_ne psl]; exact hsl,.cons ⟨q1,rfl,st (by rw [upd_ne pq1]; exact hq1)⟩ .nil⟩ x2
theorem zja (T:Txt K mg A):FnOk P w K mg base (L2.CX P w) 3 A.za3 A.za2 ["self", "statement", "number"] (sp_ccall A K):=by
 have zff:=zhk (P:=P) (w:=w) (base:=base) T
 have zak:=zcq (P:=P) (w:=w) (base:=base) T
 refine T.zc3.okX zbd (fun vs H Q E h=>?_) (fun cdv Ar outer s H vs Q E hr h=>?_)
 ·obtain ⟨p,la,sl,dd,lines,off,stms,b,sv,x,hs,nw,n,rfl,_⟩:=h
  rfl
 ·obtain ⟨p,la,sl,dd,lines,off,stms,b,sv,x,hs,nw,n,rfl,hr0,hb,hsv,q,qE⟩:=h
  refine ⟨_,(pss_cons (ps_asg (pv 1) (RD.k_gtup (K:=K) (n:=4) rfl rfl (pgs_cons (pg_name (i:=3) zbd.nd rfl (Or.inl rfl)) (pgs_cons (pg_name (i:=4) zbd.nd rfl (Or.inl rfl)) (pgs_cons (pg_name (i:=5) zbd.nd rfl (Or.inl rfl)) (pgs_cons (pg_name (i:=6) zbd.nd rfl (Or.inl rfl)) pgs_nil))))))
   (pss_cons (ps_set (i:=7) zbd.nd rfl (Or.inl rfl) (pe_dget1 (hu_of hr) (RD.k_fld (K:=K) rfl (pv 0) rfl) (pv 4) ⟨rfl,rfl,rfl,rfl⟩))
   (RD.pss_cut (ps_if (PW.pt (pw_or (pt_cmpR op_isN (pv 7) pe_non (nomark _)) (pw_or1 (pt_val (RZ2.k_con (K:=K) rfl (pv 7) rfl)))))
   (pss_one (ps_raise rfl (takes_of rfl rfl rfl rfl) (pmk_oex T.oex_UnknownName T.zk1 T.zku zff (hr.mono (by decide)) T.zhr .nil pass0 (by rfl) T.zjc (pa_cons (pv 2) (pa_cons (pv 4) pa_nil)))))
   pss_nil)
   (pss_one (ps_if (PW.pt (pw_or (pt_cmpR op_ne (pe_callB (RD.k_len (K:=K) rfl) (by rfl) T.zau (by decide +kernel) (pa_cons (pv 5) pa_nil)) (pe_callB (RD.k_len (K:=K) rfl) (by rfl) T.zau (by decide +kernel) (pa_cons (RD.k_fld (K:=K) rfl (pv 7) rfl) pa_nil)) (nomark _)) (pw_or1 (PW.pt (pw_and (RD.k_tru (K:=K) rfl (pv 6) (by intro _; rfl)) (pw_and1 (pt_cmpR op_ne (pe_callB (RD.k_len (K:=K) rfl) (by rfl) T.zau (by decide +kernel) (pa_cons (pv 6) pa_nil)) (pe_callB (RD.k_len (K:=K) rfl) (by rfl) T.zau (by decide +kernel) (pa_cons (RD.k_fld (K:=K) rfl (pv 7) rfl) pa_nil)) (nomark _))))))))
   (pss_one (ps_raise rfl (takes_of rfl rfl rfl rfl) (pmk_oex T.oex_BadLine T.zby T.zbz zak (hr.mono (by decide)) T.zaq .nil pass0 (by rfl) T.zcm (pa_cons (pv 2) pa_nil))))
   pss_nil))))),?_⟩
  show tSeq _ _ _ [some (.ref p),some (sv),some (vn n),none,none,none,none,none] H
  obtain ⟨a,rfl,bh,bn,h1,h2,h3⟩:=hsv
  obtain ⟨dx,ob⟩:=hr0.ob
  walk_at "rd"
  refine RD.gtup4 h1 ?_
  walk_at "rd"
  refine ⟨p,A.zad,dx,_,_,rfl,ob,T.zal,T.zf6,rfl,?_⟩
  walk_at "rd"
  obtain ⟨o,hg,ho⟩:=hb.get x
  refine ⟨dd,rfl,hb.isD,?_⟩
  walk_at "rd"
  refine ⟨o,hg,?_⟩
  walk_at "rd"
  refine RD.cut (fun σ H'=>∃ v d,σ = [some (.ref p),some (.ref a),some (vn n),some (vst (tx "call")),some (vst x),some (.ref bh),some (.ref bn),some v]∧H'=H∧look b x=some d∧d.script=false∧RtAt A K H v d.t) ?_ ?_
  ·rcases ho with ⟨v,d,rfl,h4,h5⟩ | ⟨rfl,h4⟩
   ·have er:chkCall b n x hs nw=if d.script=true then some (.unk n x) else if hs.length ≠ (d.t.names.drop 1).length∨(nw ≠ []∧nw.length ≠ d.t.told.length) then some (.bad n) else none:=by
     unfold chkCall
     rw [h4]
    unfold DdAt at h5
    cases hsc:d.script with
    | true =>
     rw [if_pos hsc] at h5
     rw [if_pos hsc] at er
     obtain ⟨z,dz,_,_,_,_,_,_,_,_,rfl,hz,_⟩:=h5
     walk_at "rd"
     refine ⟨rfl,?_⟩
     walk_at "rd"
     refine RD.decF nofun ?_
     walk_at "rd"
     refine ⟨z,A.zaj,dz,_,.bl true,.bool true,rfl,hz,T.zf0,con_sc T,rfl,?_⟩
     walk_at "rd"
     show tMkO A.zac (sp_exi2 A.zac "line" "name") [] _ _ _ _
     show tCons _ _ _ _ _
     walk_at "rd"
     refine RD.mk2 fun dd' ndd=>?_
     exact qE _ er _ dd' (same_new ndd) upd_same
    | false =>
     rw [if_neg (by rw [hsc]; simp)] at h5
     have h6:=h5
     obtain ⟨z,dz,_,_,_,_,_,_,_,rfl,hz,_⟩:=h5
     walk_at "rd"
     refine ⟨rfl,?_⟩
     walk_at "rd"
     refine RD.decF nofun ?_
     walk_at "rd"
     refine ⟨z,A.zai,dz,_,.bl false,.bool false,rfl,hz,T.zeh,con_rt T,rfl,?_⟩
     walk_at "rd"
     exact ⟨_,d,rfl,rfl,h4,hsc,h6⟩
   ·have er:chkCall b n x hs nw=some (.unk n x):=by
     unfold chkCall
     rw [h4]
    walk_at "rd"
    refine ⟨rfl,?_⟩
    walk_at "rd"
    refine RD.decT rfl ?_
    walk_at "rd"
    show tMkO A.zac (sp_exi2 A.zac "line" "name") [] _ _ _ _
    show tCons _ _ _ _ _
    walk_at "rd"
    refine RD.mk2 fun dd' ndd=>?_
    exact qE _ er _ dd' (same_new ndd) upd_same
  rintro σ H' ⟨v,d,rfl,rfl,h4,h5,h6⟩
  have er:chkCall b n x hs nw=if hs.length ≠ (d.t.names.drop 1).length∨(nw ≠ []∧nw.length ≠ d.t.told.length) then some (.bad n) else none:=by
   unfold chkCall
   rw [h4]
   exact if_neg (by rw [h5]; simp)
  obtain ⟨z,dz,hh,tb,lb,sb,n0,hs0,svs,rfl,hz,en,g1,g2,_⟩:=h6
  rw [en,List.drop_one,List.tail_cons] at er
  walk_at "rd"
  refine RD.lenT h2 ?_
  walk_at "rd"
  refine ⟨z,A.zai,dz,_,_,rfl,hz,T.zeh,T.zki,rfl,?_⟩
  walk_at "rd"
  refine RD.lenT g1 ?_
  rw [vsts_len,vsts_len]
  walk_at "rd"
  refine RD.ndec (fun h7=>?_) (fun h7=>?_)
  ·walk_at "rd"
   show tMkO A.zab (sp_exi1 A.zab "line") [] _ _ _ _
   show tCons _ _ _ _ _
   walk_at "rd"
   refine RD.mk1 fun dd' ndd=>?_
   exact qE (.bad n) (er.trans (if_pos (.inl fun z=>h7 (by rw [z])))) _ dd' (same_new ndd) upd_same
  ·have h7:hs.length=hs0.length:=by omega
   walk_at "rd"
   refine RD.truTs h3 ?_
   cases nw with
   | nil =>
    walk_at "rn"
    exact q (er.trans (if_neg (by simp [h7])))
   | cons y r =>
    rw [show (!(vsts (y :: r)).isEmpty)=true from rfl]
    walk_at "rn"
    refine RD.lenT h3 ?_
    walk_at "rd"
    refine ⟨z,A.zai,dz,_,_,rfl,hz,T.zeh,T.zlk,rfl,?_⟩
    walk_at "rd"
    refine RD.lenT g2 ?_
    rw [vsts_len,vsts_len]
    walk_at "rd"
    refine RD.ndec (fun h8=>?_) (fun h8=>?_)
    ·walk_at "rd"
     show tMkO A.zab (sp_exi1 A.zab "line") [] _ _ _ _
     show tCons _ _ _ _ _
     walk_at "rd"
     refine RD.mk1 fun dd' ndd=>?_
     exact qE (.bad n) (er.trans (if_pos (.inr ⟨by simp,fun z=>h8 (by rw [z])⟩))) _ dd' (same_new ndd) upd_same
    ·have h8:(y :: r).length=d.t.told.length:=by omega
     walk_at "rd"
     exact q (er.trans (if_neg (by rw [h8]; simp [h7])))
end
end Pf

namespace PR
open RD
theorem callW_ok {n:Nat} {nw ws:List Tx} {f:Form} (h:callW nw ws=some f) (h1:∀ x∈nw,x.length≤n) (h2:∀ x∈ws,x.length≤n) :
  (∀ u∈f.uses,u.1.length≤n)∧(∀ b∈f.bound,b.1.length≤n)∧f.uses.length≤ws.length∧f.bound.length≤nw.length:=by
 match ws,h,h2 with
 | [],h,_=>exact absurd h (by simp [callW])
 | [_],h,_=>exact absurd h (by simp [callW])
 | a :: b :: r,h,h2 =>
  by_cases hw:isWord a=true
  ·rw [show callW nw (a :: b :: r)=some ⟨.call a (b :: r) nw,(b :: r).map fun x=>(x,half),nw.map fun x=>(x,half)⟩ from if_pos hw] at h
   cases h
   refine ⟨fun u hu=>?_,fun u hu=>?_,by simp,by simp⟩
   ·obtain ⟨x,hx,rfl⟩:=List.mem_map.mp hu
    exact h2 x (List.mem_cons_of_mem _ hx)
   ·obtain ⟨x,hx,rfl⟩:=List.mem_map.mp hu
    exact h1 x hx
  ·rw [show callW nw (a :: b :: r)=none from if_neg hw] at h
   cases h
theorem scriptForm_ok {t:Tx} {f:Form} (h:scriptForm t=some f):(∀ u∈f.uses,u.1.length≤t.length)∧(∀ b∈f.bound,b.1.length≤t.length)∧f.uses.length≤t.length + 3∧f.bound.length≤t.length + 3:=by
 have hw:∀ x∈spc 32 t,x.length≤t.length:=fun x hx=>spc_len 32 t x hx
 have hc:=spc_cnt 32 t
 unfold scriptForm scrW at h
 revert hw h hc
 cases spc 32 t with
 | nil=>intro h; cases h
 | cons a ws =>
  intro h hw hc
  have hs:∀ x∈ws,x.length≤t.length:=fun x hx=>hw x (by simp [hx])
  rw [List.length_cons] at hc
  have h:scrF a ws=some f:=h
  unfold scrF at h
  split at h
  ·have k:=condF_ok hs h
   exact ⟨k.us,k.bd,Nat.le_trans k.lu (by omega),Nat.le_trans k.lb (by omega)⟩
  split at h
  ·unfold sletF at h
   cases e:letF (a :: ws) with
   | none=>rw [e] at h; cases h
   | some g =>
    rw [e] at h
    simp only at h
    split at h
    ·cases h
     have k:=letF_ok hw e
     exact ⟨k.us,k.bd,Nat.le_trans k.lu (by omega),Nat.le_trans k.lb (by omega)⟩
    ·cases h
  split at h
  ·have k:=tellF_ok hs h
   exact ⟨k.us,k.bd,Nat.le_trans k.lu (by omega),Nat.le_trans k.lb (by omega)⟩
  split at h
  ·unfold callF at h
   split at h
   ·split at h
    ·cases h
    ·obtain ⟨k1,k2,k3,k4⟩:=callW_ok (n:=t.length) h (fun x hx=>hs x (List.mem_of_mem_take hx)) (fun x hx=>hs x (List.mem_of_mem_drop hx))
     rw [List.length_drop] at k3
     rw [List.length_take] at k4
     exact ⟨k1,k2,by omega,by omega⟩
   ·obtain ⟨k1,k2,k3,k4⟩:=callW_ok (n:=t.length) h (fun x hx=>absurd hx (by simp)) hs
    exact ⟨k1,k2,by omega,Nat.le_trans k4 (by simp)⟩
  ·cases h
end PR
namespace Pf
open PySem PySem.Spec PyProof.Rows L2 SX RD PR
def sp_sline (A:Ad) (K:PySem.W.Frag):Sp:=fun vs H Q E=>∃ (H0:Hp) (p la sl dd kn ssl d:Addr) (lines:List Tx) (off:Nat) (b:Bk) (s:Sdr) (line:Tx),vs=[.ref p,vn s.stms.length,.ref kn] ∧
 SrAt A K H p la sl dd lines off s.stms∧BkAt A K H0 dd b∧Same H0 H∧H0 sl=none∧H0 d=none∧NamesAt A H kn ssl [d] [s.scope]∧sl ≠ la∧sl ≠ ssl∧lines[s.stms.length]? = some line∧line.length≤400∧s.stms.length≤1000∧s.stms ≠ []∧s.scope.length≤3 + 410 * s.stms.length ∧
 (∀ s2,sreadLine b s lines.length off s.stms.length line = .ok s2→∀ H',SrAt A K H' p la sl dd lines off s2.stms→NamesAt A H' kn ssl [d] [s2.scope]→Off [sl,d] H H'→s2.scope.length≤3 + 410 * s2.stms.length→s2.stms.length=s.stms.length + 1→Q .non H') ∧
 ∀ e,sreadLine b s lines.length off s.stms.length line = .error e→Rz A E (Same H) e
theorem SrAt.keep {A:Ad} {K:PySem.W.Frag} {H H':Hp} {p la sl dd:Addr} {lines:List Tx} {off:Nat} {stms:List Stm} (r:SrAt A K H p la sl dd lines off stms) (k:Kp H H') (h1:∀ o,H p=some o→H' p=some o) (h2:∀ o,H la=some o→H' la=some o) (h3:∀ o,H sl=some o→H' sl=some o):SrAt A K H' p la sl dd lines off stms :=
 ⟨r.ob.imp fun _ h=>h1 _ h,h2 _ r.li,r.st.imp fun svs h=>⟨h3 _ h.1,paired_imp (fun _ _ z=>k.stm z) h.2⟩⟩
section
variable {P:Program} {w:World} {K:PySem.W.Frag} {mg:Str→Option Value} {base:Heap} {A:Ad}
theorem zj0 (T:Txt K mg A):FnOk P w K mg base (L2.CX P w) 7 A.za8 A.za9 ["self", "at", "known"] (sp_sline A K):=by
 have zpg:=zoj (P:=P) (w:=w) (base:=base) T
 have zim:=zkn (P:=P) (w:=w) (base:=base) T
 have zix:=zk7 (P:=P) (w:=w) (base:=base) T
 have zak:=zcq (P:=P) (w:=w) (base:=base) T
 have zjs:=zja (P:=P) (w:=w) (base:=base) T
 have zjd:=zli (P:=P) (w:=w) (base:=base) T
 have zkm:=zmc (P:=P) (w:=w) (base:=base) T
 refine T.zdh.okX zc1 (fun vs H Q E h=>?_) (fun cdv Ar outer s H vs Q E hr h=>?_)
 ·obtain ⟨H0,p,la,sl,dd,kn,ssl,d,lines,off,b,r,line,rfl,_⟩:=h
  rfl
 ·obtain ⟨H0,p,la,sl,dd,kn,ssl,d,lines,off,b,r,line,rfl,hr0,hb,s00,nsl,nd0,hn,q1,q2,hli,hll,hlz,hne,hsz,qN,qE⟩:=h
  refine ⟨_,(pss_cons (ps_set (i:=3) zc1.nd rfl (Or.inl rfl) (pe_op op_add (pe_op op_add (RD.k_fld (K:=K) rfl (pv 0) rfl) (pv 1)) pe_int))
   (pss_cons (ps_set (i:=4) zc1.nd rfl (Or.inl rfl) (pe_call zpg (hr.mono (by decide)) (by rfl) T.zpf T.zgb.kp T.zpe .nil pass0 (pa_cons (pe_ix (RD.k_ixL (K:=K) rfl) (RD.k_fld (K:=K) rfl (pv 0) rfl) (pv 1) (fun _ _=>rfl)) pa_nil)))
   (RD.pss_cut (ps_if (PW.pt (pw_or (pt_cmpR op_isN (pv 4) pe_non (nomark _)) (pw_or (pt_cmpR op_gt (pv 1) (RD.pe_glI (by rfl) T.zmw) (nomark _)) (pw_or (pt_not (pt_val (pe_meth0 (pv 4) T.zd9 T.zlm zix (hr.mono (by decide)) T.zlc .nil pass0))) (pw_or1 (pt_not (pt_val (pe_meth (pv 2) T.zbs T.zk5 zim (hr.mono (by decide)) T.zk6 .nil pass0 (pa_cons (pv 4) pa_nil)))))))))
   (pss_one (ps_raise rfl (takes_of rfl rfl rfl rfl) (pmk_oex T.oex_BadLine T.zby T.zbz zak (hr.mono (by decide)) T.zaq .nil pass0 (by rfl) T.zcm (pa_cons (pv 3) pa_nil))))
   pss_nil)
   (pss_cons (ps_set (i:=5) zc1.nd rfl (Or.inl rfl) (RD.k_fld (K:=K) rfl (pv 4) rfl))
   (RD.pss_cut (ps_if (PW.pt (pw_and (pt_cmpR op_eq (pe_ix (RD.k_ixT (K:=K) rfl) (pv 5) pe_int (fun _ _=>rfl)) pe_str (nomark _)) (pw_and1 (pt_cmpR (RD.k_notin (K:=K) rfl) (pe_ix (RD.k_ixT (K:=K) rfl) (pe_ix (RD.k_ixL (K:=K) rfl) (RD.k_fld (K:=K) rfl (pv 0) rfl) (pe_un un_neg pe_int) (fun _ _=>rfl)) pe_int (fun _ _=>rfl)) (pe_tup (pa_cons pe_str (pa_cons pe_str pa_nil))) (by rfl)))))
   (pss_one (ps_raise rfl (takes_of rfl rfl rfl rfl) (pmk_oex T.oex_BadLine T.zby T.zbz zak (hr.mono (by decide)) T.zaq .nil pass0 (by rfl) T.zcm (pa_cons (pv 3) pa_nil))))
   pss_nil)
   (RD.pss_cut (ps_if (PW.pt (pw_and (pt_cmpR op_eq (pe_ix (RD.k_ixT (K:=K) rfl) (pv 5) pe_int (fun _ _=>rfl)) pe_str (nomark _)) (pw_and1 (pt_cmpR op_lt (pv 1) (pe_op op_sub (pe_callB (RD.k_len (K:=K) rfl) (by rfl) T.zau (by decide +kernel) (pa_cons (RD.k_fld (K:=K) rfl (pv 0) rfl) pa_nil)) pe_int) (nomark _)))))
   (pss_one (ps_raise rfl (takes_of rfl rfl rfl rfl) (pmk_oex T.oex_BadLine T.zby T.zbz zak (hr.mono (by decide)) T.zaq .nil pass0 (by rfl) T.zcm (pa_cons (pv 3) pa_nil))))
   pss_nil)
   (RD.pss_cut (ps_if (pt_cmpR op_eq (pe_ix (RD.k_ixT (K:=K) rfl) (pv 5) pe_int (fun _ _=>rfl)) pe_str (nomark _))
   (pss_one (ps_expr (pe_meth (pv 0) T.zal T.zjz zjs (hr.mono (by decide)) T.zjw .nil (passes_call (takes_of rfl rfl rfl rfl) (fun _ _ _ _ h=>h)) (pa_cons (pv 5) (pa_cons (pv 3) pa_nil)))))
   pss_nil)
   (pss_cons (ps_expr (pe_meth (pv 2) T.zbs T.zl9 zjd (hr.mono (by decide)) T.zl7 .nil (passes_call (takes_of rfl rfl rfl rfl) (fun _ _ _ _ h=>h)) (pa_cons (pv 4) (pa_cons (pv 3) pa_nil))))
   (PSs.nox (pss_cons (ps_expr (RD.k_bm (K:=K) rfl PySem.F.plainAttrs_list PySem.F.slot_list_append PySem.F.type_list_append mt_append (RD.k_fld (K:=K) rfl (pv 0) rfl) (pa_cons (pv 5) pa_nil)))
   (pss_one (ps_expr (pe_meth (pv 2) T.zbs T.znb zkm (hr.mono (by decide)) T.zmx .nil pass0 (pa_cons (pv 4) pa_nil)))))))))))))),?_⟩
  show tSeq _ _ _ [some (.ref p),some (vn r.stms.length),some (.ref kn),none,none,none] H
  obtain ⟨dx,ob⟩:=hr0.ob
  walk_at "rd"
  refine ⟨p,A.zad,dx,_,_,rfl,ob,T.zal,T.zft,rfl,?_⟩
  walk_at "rd"
  refine ⟨p,A.zad,dx,_,_,rfl,ob,T.zal,T.zci,rfl,?_⟩
  walk_at "rd"
  refine RD.ixL (sq hr0.li) (at_n (show (vsts lines)[r.stms.length]? = some (vst line) by unfold vsts; rw [List.getElem?_map,hli]; rfl)) ?_
  walk_at "rd"
  refine ⟨line,rfl,by omega,fun H1 v s1 hf=>?_⟩
  walk_at "rd"
  refine RD.cut (fun σ H'=>σ = [some (.ref p),some (vn r.stms.length),some (.ref kn),some (vn (off + r.stms.length + 1)),some v,none]∧Same H H'∧∃ f,scriptForm line=some f∧FormAt A K H H' v f∧f.good=true∧isFree [r.scope] f=true∧r.stms.length≤20) ?_ ?_
  ·walk_at "rd"
   refine ⟨rfl,?_⟩
   walk_at "rd"
   cases hfo:scriptForm line with
   | none =>
    rw [hfo] at hf
    have hf:v = .non:=hf
    subst hf
    refine RD.decT rfl ?_
    walk_at "rd"
    show tMkO A.zab (sp_exi1 A.zab "line") [] _ _ _ _
    show tCons _ _ _ _ _
    walk_at "rd"
    refine RD.mk1 fun dd ndd=>?_
    exact qE (.bad (off + r.stms.length + 1)) (by unfold sreadLine; rw [hfo]) _ dd (s1.trans (same_new ndd)) upd_same
   | some f =>
    rw [hfo] at hf
    have hf:FormAt A K H H1 v f:=hf
    obtain ⟨fp,fdx,sv,fu,fb,rfl,z1,z2,z3,hfp,hfs,hfu,hfb⟩:=id hf
    obtain ⟨k1,k2,k3,k4⟩:=scriptForm_ok hfo
    have sml:Sml f:=⟨fun u hu=>Nat.le_trans (k1 u hu) (by omega),fun b hb=>Nat.le_trans (k2 b hb) (by omega),by omega,by omega⟩
    have er:(decide (20 < r.stms.length) || (!f.good || !isFree [r.scope] f))=true→sreadLine b r lines.length off r.stms.length line = .error (.bad (off + r.stms.length + 1)):=fun e=>by
     unfold sreadLine
     rw [hfo]
     exact if_pos e
    refine RD.decF nofun ?_
    walk_at "rd"
    refine RD.dec (fun h1=>?_) (fun h1=>?_)
    ·walk_at "rd"
     show tMkO A.zab (sp_exi1 A.zab "line") [] _ _ _ _
     show tCons _ _ _ _ _
     walk_at "rd"
     refine RD.mk1 fun dd ndd=>?_
     exact qE (.bad (off + r.stms.length + 1)) (er (by rw [decide_eq_true (show 20 < r.stms.length by omega)]; rfl)) _ dd (s1.trans (same_new ndd)) upd_same
    ·have h60:r.stms.length≤20:=by omega
     walk_at "rd"
     refine ⟨fp,fdx,_,rfl,hfp,rfl,?_⟩
     refine ⟨H,.ref fp,f,rfl,hf,sml,fun H2 s2=>?_⟩
     walk_at "rd"
     cases hg:f.good with
     | false =>
      walk_at "rn"
      show tMkO A.zab (sp_exi1 A.zab "line") [] _ _ _ _
      show tCons _ _ _ _ _
      walk_at "rd"
      refine RD.mk1 fun dd ndd=>?_
      exact qE (.bad (off + r.stms.length + 1)) (er (by rw [hg]; simp)) _ dd ((s1.trans s2).trans (same_new ndd)) upd_same
     | true =>
      have hn2:=(hn.same s1).same s2
      obtain ⟨dxn,obn⟩:=hn2.ob
      walk_at "rn"
      refine ⟨kn,dxn,_,rfl,obn,rfl,?_⟩
      walk_at "rd"
      refine ⟨kn,ssl,[d],[r.scope],H,.ref fp,f,rfl,hn2,hf.same s2,sml,fun H3 s3=>?_⟩
      walk_at "rd"
      cases hm:isFree [r.scope] f with
      | false =>
       walk_at "rn"
       show tMkO A.zab (sp_exi1 A.zab "line") [] _ _ _ _
       show tCons _ _ _ _ _
       walk_at "rd"
       refine RD.mk1 fun dd ndd=>?_
       exact qE (.bad (off + r.stms.length + 1)) (er (by rw [hm]; simp)) _ dd (((s1.trans s2).trans s3).trans (same_new ndd)) upd_same
      | true =>
       walk_at "rn"
       exact ⟨rfl,(s1.trans s2).trans s3,f,rfl,(hf.same s2).same s3,hg,hm,h60⟩
  ·rintro σ H2 ⟨rfl,s2,f,ef,hf2,hg,hm,h60⟩
   obtain ⟨fp,fdx,sv,fu,fb,rfl,z1,z2,z3,hfp,hfs,hfu,hfb⟩:=id hf2
   obtain ⟨k1,k2,k3,k4⟩:=scriptForm_ok ef
   have sml:Sml f:=⟨fun u hu=>Nat.le_trans (k1 u hu) (by omega),fun b hb=>Nat.le_trans (k2 b hb) (by omega),by omega,by omega⟩
   have er:sreadLine b r lines.length off r.stms.length line=if (isGiv f.stm && !lastFree r.stms)=true then .error (.bad (off + r.stms.length + 1))
     else if (isTell f.stm && decide (r.stms.length + 1 < lines.length))=true then .error (.bad (off + r.stms.length + 1))
     else match callErr b (off + r.stms.length + 1) f.stm with
      | some e => .error e
      | none=>match check [r.scope] (off + r.stms.length + 1) f.uses with
       | some e => .error e
       | none => .ok ⟨r.stms++[f.stm],r.scope++f.bound⟩:=by
    unfold sreadLine
    rw [ef]
    simp only [hg,hm,decide_eq_false (show ¬ 20 < r.stms.length by omega),Bool.not_true,Bool.false_or]
    all_goals rfl
   have hr2:=hr0.same s2
   obtain ⟨dx2,ob2⟩:=hr2.ob
   walk_at "rd"
   refine ⟨fp,A.zap,fdx,_,_,rfl,hfp,T.zd9,T.zeq,rfl,?_⟩
   walk_at "rd"
   obtain ⟨a5,xs5,rfl,ha5⟩:=hfs.head
   obtain ⟨svs,hsl,hsp⟩:=hr2.st
   have g0:(tx (headS f.stm)=tx "given")↔isGiv f.stm=true:=by
    cases f.stm <;> simp [headS,isGiv] <;> decide +kernel
   have g1:(tx (headS f.stm)=tx "tell")↔isTell f.stm=true:=by
    cases f.stm <;> simp [headS,isTell] <;> decide +kernel
   refine RD.cut (fun σ H'=>σ = [some (.ref p),some (vn r.stms.length),some (.ref kn),some (vn (off + r.stms.length + 1)),some (.ref fp),some (.ref a5)]∧Same H2 H'∧(isGiv f.stm && !lastFree r.stms)=false) ?_ ?_
   ·walk_at "rd"
    refine RD.ixT ha5 (show atI _ ((0:Nat):Int)=some (vst (tx (headS f.stm))) from at_n rfl) ?_
    walk_at "rd"
    refine RD.dec (fun h1=>?_) (fun h1=>?_)
    ·have h1:=g0.mp h1
     obtain ⟨st0,st1,hst⟩:∃ v0 vl,r.stms=v0++[vl]:=by
      rcases List.eq_nil_or_concat r.stms with z | ⟨a,b,z⟩
      ·exact absurd z hne
      ·exact ⟨a,b,by rw [z,List.concat_eq_append]⟩
     obtain ⟨sv0,sv1,rfl⟩:∃ v0 vl,svs=v0++[vl]:=by
      rcases List.eq_nil_or_concat svs with z | ⟨a,b,z⟩
      ·have:=paired_len hsp
       rw [z,hst] at this
       exact absurd this (by simp)
      ·exact ⟨a,b,by rw [z,List.concat_eq_append]⟩
     have hlast:StmAt K H2 sv1 st1:=by
      rw [hst] at hsp
      exact (paired_split hsp).2
     have ef1:lastFree r.stms=decide (tx (headS st1)∈[tx "script", tx "given"]):=by
      unfold lastFree
      rw [hst,List.getLast?_concat]
      cases st1 <;> simp [headS] <;> decide +kernel
     walk_at "rd"
     refine ⟨p,A.zad,dx2,_,_,rfl,ob2,T.zal,T.zbk,rfl,?_⟩
     walk_at "rd"
     refine RD.ixL (sq hsl) (atI_last _ _) ?_
     walk_at "rd"
     obtain ⟨la1,lx1,rfl,hla1⟩:=hlast.head
     refine RD.ixT hla1 (show atI _ ((0:Nat):Int)=some (vst (tx (headS st1))) from at_n rfl) ?_
     walk_at "rd"
     refine ⟨few,fun tb ntb=>?_⟩
     have t1:=same_new (o := .tup [vst (tx "script"),vst (tx "given")]) ntb
     refine RD.ninT (ls:=[tx "script", tx "given"]) (st upd_same) ?_
     rw [← ef1]
     walk_at "rd"
     cases hl:lastFree r.stms with
     | false =>
      rw [hl,h1] at er
      walk_at "rn"
      show tMkO A.zab (sp_exi1 A.zab "line") [] _ _ _ _
      show tCons _ _ _ _ _
      walk_at "rd"
      refine RD.mk1 fun dd ndd=>?_
      exact qE (.bad (off + r.stms.length + 1)) er _ dd ((s2.trans t1).trans (same_new ndd)) upd_same
     | true =>
      walk_at "rn"
      exact ⟨rfl,t1,by simp⟩
    ·walk_at "rd"
     refine ⟨rfl,Same.refl _,?_⟩
     cases hi:isGiv f.stm with
     | true=>exact absurd (g0.mpr hi) h1
     | false=>rfl
   rintro σ H3 ⟨rfl,s3,e3⟩
   rw [if_neg (by rw [e3]; simp)] at er
   have s23:=s2.trans s3
   have hr3:=hr0.same s23
   obtain ⟨dx3,ob3⟩:=hr3.ob
   have ha6:=(Kp.same s3).sq ha5
   walk_at "rd"
   refine RD.cut (fun σ H'=>σ = [some (.ref p),some (vn r.stms.length),some (.ref kn),some (vn (off + r.stms.length + 1)),some (.ref fp),some (.ref a5)]∧H'=H3∧(isTell f.stm && decide (r.stms.length + 1 < lines.length))=false) ?_ ?_
   ·walk_at "rd"
    refine RD.ixT ha6 (show atI _ ((0:Nat):Int)=some (vst (tx (headS f.stm))) from at_n rfl) ?_
    walk_at "rd"
    refine RD.dec (fun h1=>?_) (fun h1=>?_)
    ·have h1:=g1.mp h1
     walk_at "rd"
     refine ⟨p,A.zad,dx3,_,_,rfl,ob3,T.zal,T.zci,rfl,?_⟩
     walk_at "rd"
     refine RD.len (sq hr3.li) ?_
     rw [vsts_len]
     walk_at "rd"
     have hlt:r.stms.length < lines.length:=(List.getElem?_eq_some_iff.mp hli).1
     refine RD.dec (fun h2=>?_) (fun h2=>?_)
     ·walk_at "rd"
      show tMkO A.zab (sp_exi1 A.zab "line") [] _ _ _ _
      show tCons _ _ _ _ _
      walk_at "rd"
      refine RD.mk1 fun dd ndd=>?_
      exact qE (.bad (off + r.stms.length + 1)) (er.trans (if_pos (by rw [h1,decide_eq_true (show r.stms.length + 1 < lines.length by omega)]; rfl))) _ dd (s23.trans (same_new ndd)) upd_same
     ·walk_at "rd"
      exact ⟨rfl,rfl,by rw [decide_eq_false (show ¬ r.stms.length + 1 < lines.length by omega),Bool.and_false]⟩
    ·walk_at "rd"
     refine ⟨rfl,rfl,?_⟩
     cases hi:isTell f.stm with
     | true=>exact absurd (g1.mpr hi) h1
     | false=>rfl
   rintro σ H4 ⟨rfl,rfl,e4⟩
   rw [if_neg (by rw [e4]; simp)] at er
   have hfs6:=(Kp.same s3).stm hfs
   walk_at "rd"
   refine RD.cut (fun σ H'=>σ = [some (.ref p),some (vn r.stms.length),some (.ref kn),some (vn (off + r.stms.length + 1)),some (.ref fp),some (.ref a5)]∧H'=H4∧callErr b (off + r.stms.length + 1) f.stm=none) ?_ ?_
   ·walk_at "rd"
    refine RD.ixT ha6 (show atI _ ((0:Nat):Int)=some (vst (tx (headS f.stm))) from at_n rfl) ?_
    walk_at "rd"
    refine RD.dec (fun h1=>?_) (fun h1=>?_)
    ·have h1:=tx_inj h1
     obtain ⟨x,hs,nw,e⟩:∃ x hs nw,f.stm = .call x hs nw:=by
      cases e:f.stm with
      | call x hs nw=>exact ⟨x,hs,nw,rfl⟩
      | _=>rw [e] at h1; exact absurd h1 (by simp [headS])
     rw [e] at er hfs6 ⊢
     walk_at "rd"
     refine ⟨p,dx3,_,rfl,ob3,rfl,?_⟩
     walk_at "rd"
     refine ⟨p,la,sl,dd,lines,off,r.stms,b,.ref a5,x,hs,nw,off + r.stms.length + 1,rfl,hr3,hb.same (s00.trans s23),hfs6,fun hc=>?_,fun e2 he=>?_⟩
     ·walk_at "rd"
      exact ⟨rfl,rfl,hc⟩
     ·refine Rz.past (fun H' g=>s23.trans g) (qE e2 ?_)
      rw [er,show callErr b (off + r.stms.length + 1) (.call x hs nw)=some e2 from he]
    ·walk_at "rd"
     refine ⟨rfl,rfl,?_⟩
     cases e:f.stm with
     | call x hs nw=>rw [e] at h1; exact absurd rfl h1
     | _=>rfl
   rintro σ H5 ⟨rfl,rfl,e5⟩
   rw [e5] at er
   have er:sreadLine b r lines.length off r.stms.length line=match check [r.scope] (off + r.stms.length + 1) f.uses with
    | some e => .error e
    | none => .ok ⟨r.stms++[f.stm],r.scope++f.bound⟩:=er
   have hn5:=hn.same s23
   have hf5:=hf2.same s3
   obtain ⟨dxn5,obn5⟩:=hn5.ob
   walk_at "rd"
   refine ⟨kn,dxn5,_,rfl,obn5,rfl,?_⟩
   walk_at "rd"
   refine ⟨kn,ssl,[d],[r.scope],H,.ref fp,f,off + r.stms.length + 1,rfl,hn5,hf5,sml,fun hc H6 s6=>?_,fun e he=>?_⟩
   ·rw [hc] at er
    have er:sreadLine b r lines.length off r.stms.length line = .ok ⟨r.stms++[f.stm],r.scope++f.bound⟩:=er
    have s06:=s23.trans s6
    have hr6:=hr0.same s06
    have hn6:=hn.same s06
    obtain ⟨dx6,ob6⟩:=hr6.ob
    obtain ⟨svs6,hsl6,hsp6⟩:=hr6.st
    have hfs7:=(Kp.same s6).stm hfs6
    have hfp6:=(s3.trans s6) _ _ hfp
    have hfb6:PairsA K H6 fb f.bound:=hfb.same (s3.trans s6)
    walk_at "rd"
    refine ⟨p,A.zad,dx6,_,_,rfl,ob6,T.zal,T.zbk,rfl,?_⟩
    walk_at "rd"
    refine ⟨RD.tyL (sq hsl6),?_⟩
    walk_at "rd"
    refine RD.app hsl6 (szt (by rw [paired_len hsp6]; omega)) ?_
    have z0:H sl ≠ none:=by
     obtain ⟨_,z,_⟩:=hr0.st
     rw [z]; simp
    have k6:Kp H6 (upd H6 sl (.lst (svs6++[.ref a5]))):=Kp.lst hsl6
    have np:p ≠ sl:=fun z=>by rw [z,hsl6] at ob6; cases ob6
    have nkn:kn ≠ sl:=fun z=>by
     obtain ⟨dz,oz⟩:=hn6.ob
     rw [z,hsl6] at oz; cases oz
    have hd6:H6 d=some (.dK (r.scope.map kvT)):=by
     have z:=hn6.pr
     cases z with
     | cons e _=>exact e
    have nds:d ≠ sl:=fun z=>by rw [z,hsl6] at hd6; cases hd6
    have hr7:SrAt A K (upd H6 sl (.lst (svs6++[.ref a5]))) p la sl dd lines off (r.stms++[f.stm]) :=
     ⟨⟨dx6,by rw [upd_ne np]; exact ob6⟩,by rw [upd_ne q1.symm]; exact hr6.li,_,upd_same,pr_app (paired_imp (fun _ _ z=>k6.stm z) hsp6) (.cons (k6.stm hfs7) .nil)⟩
    have hn7:NamesAt A (upd H6 sl (.lst (svs6++[.ref a5]))) kn ssl [d] [r.scope] :=
     ⟨hn6.ob.imp fun _ z=>by rw [upd_ne nkn]; exact z,by rw [upd_ne q2.symm]; exact hn6.ls,hn6.nd,.cons (show upd _ _ _ _=_ by rw [upd_ne nds]; exact hd6) .nil⟩
    have nfp:fp ≠ sl:=fun z=>by rw [z] at z1; exact z0 z1
    have nfb:fb ≠ sl:=fun z=>by rw [z] at z3; exact z0 z3
    obtain ⟨qs,hq1,hq2⟩:=hfb6
    have hfp7:upd H6 sl (.lst (svs6++[.ref a5])) fp=some _:=(upd_ne nfp).trans hfp6
    have hfb7:PairsA K (upd H6 sl (.lst (svs6++[.ref a5]))) fb f.bound:=⟨qs,by rw [upd_ne nfb]; exact hq1,k6.pairs hq2⟩
    have of7:Off [sl,d] H (upd H6 sl (.lst (svs6++[.ref a5]))):=fun x o e n=>by
     rw [upd_ne (fun z=>n (by rw [z]; exact List.mem_cons_self))]
     exact s06 _ _ e
    revert hr7 hn7 hfp7 hfb7 of7
    generalize upd H6 sl (.lst (svs6++[.ref a5]))=H7
    intro hr7 hn7 hfp7 hfb7 of7
    obtain ⟨dxn7,obn7⟩:=hn7.ob
    walk_at "rd"
    refine ⟨kn,dxn7,_,rfl,obn7,rfl,?_⟩
    walk_at "rd"
    have hgd:(∀ b∈f.bound,isName b.1=true)∧(f.bound.map Prod.fst).Nodup∧∀ u∈f.uses,isWord u.1=true:=of_decide_eq_true hg
    have hfree:=isFree_scopes hm (sc2:=[r.scope]) (fun x hx => .inr hx)
    refine ⟨kn,ssl,d,[],[],r.scope,.ref fp,f.bound,rfl,hn7,⟨fp,fdx,.ref a5,fu,fb,rfl,hfp7,hfb7⟩,hgd.2.1,hfree r.scope (by simp),by omega,fun H8 hn8 sx8=>?_⟩
    have hd7:H7 d=some (.dK (r.scope.map kvT)):=by
     have z:=hn7.pr
     cases z with
     | cons e _=>exact e
    obtain ⟨dx7,ob7⟩:=hr7.ob
    obtain ⟨svs7,hsl7,_⟩:=hr7.st
    have hli7:=hr7.li
    refine qN _ er H8 (hr7.keep (sx8.kpD hd7) (fun o e=>sx8 _ _ e (fun z=>by rw [z,hd7] at ob7; cases ob7)) (fun o e=>sx8 _ _ e (fun z=>by rw [z,hd7] at hli7; cases hli7)) (fun o e=>sx8 _ _ e (fun z=>by rw [z,hd7] at hsl7; cases hsl7))) hn8 (fun x o e n=>sx8 _ _ (of7 _ _ e n) (fun z=>n (by rw [z]; simp))) (by simp only [List.length_append,List.length_singleton]; omega) (by simp)
   ·exact Rz.past (fun H' g=>s23.trans g) (qE e (by rw [er,he]))
end
end Pf

namespace PR
open RD
theorem sr_app (b:Bk) (n off:Nat):∀ (x y:List Tx) (k:Nat) (s:Sdr),sreadLines b n off k s (x++y)=match sreadLines b n off k s x with
  | .error e => .error e
  | .ok s2=>sreadLines b n off (k + x.length) s2 y
 | [],y,k,s=>rfl
 | l :: x,y,k,s=>by
  rw [List.cons_append,sreadLines,sreadLines]
  cases sreadLine b s n off k l with
  | error e=>rfl
  | ok s2 =>
   simp only
   rw [sr_app b n off x y (k + 1) s2,List.length_cons]
   rw [show k + 1 + x.length=k + (x.length + 1) by omega]
theorem sr_err {b:Bk} {n off k:Nat} {x y:List Tx} {s:Sdr} {e:Err} (h:sreadLines b n off k s x = .error e):sreadLines b n off k s (x++y) = .error e:=by
 rw [sr_app,h]
theorem sr_one {b:Bk} {n off k:Nat} {s:Sdr} {l:Tx}:sreadLines b n off k s [l]=sreadLine b s n off k l:=by
 rw [sreadLines]
 cases sreadLine b s n off k l <;> rfl
def CallsIn (b:Bk) (l:List Stm):Prop:=∀ x hs nw,.call x hs nw∈l→∃ d,look b x=some d∧d.script=false
theorem sline_calls {b:Bk} {s s2:Sdr} {n off k:Nat} {l:Tx} (h:sreadLine b s n off k l = .ok s2) (c:CallsIn b s.stms):CallsIn b s2.stms:=by
 unfold sreadLine at h
 cases hf:scriptForm l with
 | none=>rw [hf] at h; cases h
 | some f =>
  rw [hf] at h
  simp only at h
  split at h
  ·cases h
  split at h
  ·cases h
  split at h
  ·cases h
  cases hc:callErr b (off + k + 1) f.stm with
  | some e=>rw [hc] at h; cases h
  | none =>
   rw [hc] at h
   simp only at h
   cases hk:check [s.scope] (off + k + 1) f.uses with
   | some e=>rw [hk] at h; cases h
   | none =>
    rw [hk] at h
    cases h
    intro x hs nw hm
    rcases List.mem_append.mp hm with hm | hm
    ·exact c x hs nw hm
    ·rw [← List.mem_singleton.mp hm] at hc
     have hc:chkCall b (off + k + 1) x hs nw=none:=hc
     unfold chkCall at hc
     cases hl:look b x with
     | none=>rw [hl] at hc; cases hc
     | some d =>
      rw [hl] at hc
      simp only at hc
      cases hd:d.script with
      | true=>rw [hd] at hc; cases hc
      | false=>exact ⟨d,rfl,hd⟩
theorem sread_eq {b:Bk} {l0:Tx} {ls:List Tx} {off:Nat} {n0:Tx} {hs:List Tx} (h:firstL l0 (tx "script")=some (n0 :: hs)):sread b (l0 :: ls) off=match sreadLines b (ls.length + 1) off 1 ⟨[.scr],hs.map fun x=>(x,half)⟩ ls with
  | .error e => .error e
  | .ok s => .ok ⟨true,⟨n0 :: hs,toldOf s.stms,l0 :: ls,s.stms⟩,callsOf b s.stms⟩:=by
 unfold sread
 simp only [h]
 rfl
end PR
namespace PR
open RD
def xstep (acc:List Tx):Stm→List Tx
 | .call x _ _=>if x∈acc then acc else acc++[x]
 | _=>acc
def rtOf (b:Bk) (x:Tx):Rt:=match look b x with
 | some d=>d.t
 | none=>⟨[],[],[],[]⟩
theorem calls_names {b:Bk}:∀ {l:List Stm} (xs:List Tx),CallsIn b l→l.foldl (callStep b) (xs.map fun x=>(x,rtOf b x))=(l.foldl xstep xs).map fun x=>(x,rtOf b x)
 | [],xs,_=>rfl
 | s :: l,xs,h=>by
  have ih:=fun xs=>calls_names (b:=b) (l:=l) xs fun x hs nw m=>h x hs nw (List.mem_cons_of_mem _ m)
  rw [List.foldl_cons,List.foldl_cons,← ih]
  congr 1
  cases s with
  | call x hs nw =>
   obtain ⟨d,h1,h2⟩:=h x hs nw List.mem_cons_self
   have em:(xs.map fun x=>(x,rtOf b x)).map Prod.fst=xs:=by rw [List.map_map]; exact List.map_id xs
   have er:rtOf b x=d.t:=by unfold rtOf; rw [h1]
   show (match look b x with | some d=>putC _ x d.t | none=>_)=_
   rw [h1]
   show putC _ x d.t=_
   unfold putC
   rw [em]
   show _=List.map (fun x=>(x,rtOf b x)) (if x∈xs then xs else xs++[x])
   by_cases c:x∈xs
   ·rw [if_pos c,if_pos c]
   ·rw [if_neg c,if_neg c,List.map_append,← er]
    rfl
  | _=>rfl
theorem callsOf_names {b:Bk} {l:List Stm} (h:CallsIn b l):callsOf b l=(l.foldl xstep []).map fun x=>(x,rtOf b x):=calls_names [] h
theorem xstep_mem {b:Bk}:∀ {l:List Stm} {xs:List Tx},CallsIn b l→(∀ x∈xs,∃ d,look b x=some d∧d.script=false)→∀ x∈l.foldl xstep xs,∃ d,look b x=some d∧d.script=false
 | [],xs,_,hx=>hx
 | s :: l,xs,h,hx=>by
  rw [List.foldl_cons]
  refine xstep_mem (l:=l) (fun x hs nw m=>h x hs nw (List.mem_cons_of_mem _ m)) ?_
  cases s with
  | call x hs nw =>
   intro y hy
   unfold xstep at hy
   simp only at hy
   split at hy
   ·exact hx y hy
   ·rcases List.mem_append.mp hy with hy | hy
    ·exact hx y hy
    ·rw [List.mem_singleton.mp hy]
     exact h x hs nw List.mem_cons_self
  | _=>exact hx
theorem xstep_len (s:Stm) (xs:List Tx):(xstep xs s).length≤xs.length + 1:=by
 cases s <;> unfold xstep <;> simp only <;> try omega
 split
 ·omega
 ·rw [List.length_append,List.length_singleton]; omega
theorem xfold_len:∀ (l:List Stm) (xs:List Tx),(l.foldl xstep xs).length≤xs.length + l.length
 | [],xs=>by simp
 | s :: l,xs=>by
  have:=xfold_len l (xstep xs s)
  have:=xstep_len s xs
  rw [List.foldl_cons,List.length_cons]
  omega
end PR
namespace Pf
open PySem PySem.Spec PyProof.Rows L2 SX RD PR
def vOf (kvB:List (Key × V)) (x:Tx):V:=(valV kvB (Sum.inr (S x):Key)).getD .non
def cF (kvB:List (Key × V)) (xs:List Tx):List (Key × V):=xs.map fun x=>(Sum.inr (S x),vOf kvB x)
theorem val_cF {kvB:List (Key × V)} {x:Tx}:∀ {xs:List Tx},x ∉ xs→valV (cF kvB xs) (Sum.inr (S x):Key)=none
 | [],_=>rfl
 | y :: xs,h=>by
  unfold cF
  rw [List.map_cons,valV_neg (fun e=>h (by rw [S_inj (Sum.inr.inj e)]; exact List.mem_cons_self))]
  exact val_cF fun z=>h (List.mem_cons_of_mem _ z)
theorem put_cF {kvB:List (Key × V)} {x:Tx} {xs:List Tx}:putK (cF kvB xs) (Sum.inr (S x):Key) (vOf kvB x)=cF kvB (if x∈xs then xs else xs++[x]):=by
 by_cases h:x∈xs
 ·rw [if_pos h]
  have ha:((cF kvB xs).any fun kv=>decide (kv.1=(Sum.inr (S x):Key)))=true:=List.any_eq_true.mpr ⟨(Sum.inr (S x),vOf kvB x),List.mem_map.mpr ⟨x,h,rfl⟩,decide_eq_true rfl⟩
  unfold putK
  rw [if_pos ha]
  unfold cF
  rw [List.map_map]
  refine List.map_congr_left fun y _=>?_
  show (if (Sum.inr (S y):Key)=Sum.inr (S x) then _ else _)=_
  split
  ·next e=>rw [S_inj (Sum.inr.inj e)]
  ·rfl
 ·rw [if_neg h,putK_new _ (val_cF h)]
  unfold cF
  rw [List.map_append]
  rfl
theorem dcG {g:TG} {tt:TT} {tk tv:TE} {vs:List Nat} {σ : L2.St} {H:Hp} {Q:VK} {K:PySem.W.Frag} {a:Addr} {xs:List V} (F:Nat→List (Key × V)) (hq:SqL K H a xs) (h0:F 0=[]) (hF:∀ j,j≤xs.length→(F j).length < sizeLine)
  (turn:∀ (j:Nat) (x:V) (H1:Hp) (Y:V→V→Hp→Prop) (R':Hp→Prop),xs[j]? = some x→Same H H1→(∀ k z H5,F (j + 1)=putK (F j) k z→Same H1 H5→Y (kV k) z H5)→(∀ H5,F (j + 1)=F j→Same H1 H5→R' H5) →
   g x (wipe σ vs) H1 fun σ2 H2=>wipe σ2 vs=wipe σ vs∧tt σ2 H2 fun b H3=>if b=true then tk σ2 H3 fun y H4=>tv σ2 H4 fun z H5=>Y y z H5 else R' H3)
  (q:∀ D H',H D=none→Same H H'→H' D=some (.dK (F xs.length))→Q (.ref D) H'):∃ a',V.ref a = .ref a'∧(∃ ys,SqL K H a' ys)∧DR (Itl K a') g tt tk tv vs σ H Q:=by
 refine ⟨a,rfl,⟨_,hq⟩,fun D hD=>?_⟩
 have w:=walk_list (K:=K) (a:=a) (xs:=xs)
 refine ⟨fun j m H'=>m=xs.length - j∧j≤xs.length∧Same H H'∧H' D=some (.dK (F j)),⟨xs.length,by simp,Nat.zero_le _,same_new hD,by rw [h0]; exact upd_same⟩,?_⟩
 rintro j m H' ⟨rfl,hj,sH,hd⟩
 rcases Nat.lt_or_ge j xs.length with hl | hl
 ·have hp:xs[j]? = some xs[j]:=List.getElem?_eq_getElem hl
  refine .inr ⟨w.goes j _ hl (sH.seq hq),fun H2=>Same H H2∧H2 D=some (.dK (F (j + 1))),fun H2 e=>⟨xs.length - (j + 1),by omega,rfl,by omega,e⟩,fun x H2 yy=>?_⟩
  obtain ⟨rfl,y⟩:=w.yields j _ x H2 hl (sH.seq hq) yy
  clear yy
  rw [hp] at y
  cases y
  refine turn j xs[j] _ _ _ hp sH (fun k z H5 e s5=>⟨F j,k,rfl,s5 _ _ hd,hF j hj,?_,?_⟩) (fun H5 e s5=>⟨sH.trans s5,by rw [e]; exact s5 _ _ hd⟩)
  ·exact fun c o e2=>by
    have ne:c ≠ D:=fun z=>by rw [z,hD] at e2; cases e2
    rw [upd_ne ne]
    exact s5 _ _ (sH _ _ e2)
  ·rw [upd_same,e]
 ·left
  have e:j=xs.length:=by omega
  subst e
  exact ⟨w.stops _ (sH.seq hq),q D H' hD sH hd⟩
end Pf
namespace Pf
open PySem PySem.Spec PyProof.Rows L2 SX RD PR
theorem v_of {A:Ad} {K:PySem.W.Frag} {H:Hp} {x:Addr} {kvB:List (Key × V)} {b:Bk} (p:Paired (EnAt (DdAt A K H x)) kvB b) {n:Tx} (h:∃ d,look b n=some d∧d.script=false):valV kvB (Sum.inr (S n):Key)=some (vOf kvB n)∧RtAt A K H (vOf kvB n) (rtOf b n):=by
 obtain ⟨d,h1,h2⟩:=h
 rcases val_bk p n with ⟨v,d',e1,e2,e3⟩ | ⟨e1,_⟩
 ·rw [h1] at e1
  cases e1
  have ev:vOf kvB n=v:=by unfold vOf; rw [e2]; rfl
  have er:rtOf b n=d.t:=by unfold rtOf; rw [h1]
  rw [ev,er]
  refine ⟨e2,?_⟩
  unfold DdAt at e3
  rw [if_neg (by rw [h2]; simp)] at e3
  exact e3
 ·rw [h1] at e1; cases e1
theorem calls_at {A:Ad} {K:PySem.W.Frag} {H:Hp} {x:Addr} {kvB:List (Key × V)} {b:Bk} (p:Paired (EnAt (DdAt A K H x)) kvB b):∀ {xs:List Tx},(∀ n∈xs,∃ d,look b n=some d∧d.script=false)→Paired (EnAt (RtAt A K H)) (cF kvB xs) (xs.map fun n=>(n,rtOf b n))
 | [],_ => .nil
 | n :: xs,h => .cons ⟨rfl,(v_of p (h n List.mem_cons_self)).2⟩ (calls_at p fun m hm=>h m (List.mem_cons_of_mem _ hm))
def sp_sread (A:Ad) (K:PySem.W.Frag):Sp:=fun vs H Q E=>∃ (H0:Hp) (p la sl dd:Addr) (lines:List Tx) (off:Nat) (b:Bk),vs=[.ref p]∧SrAt A K H p la sl dd lines off [.scr]∧BkAt A K H0 dd b∧Same H0 H∧H0 p=none∧H0 sl=none∧sl ≠ la ∧
 lines ≠ []∧(∀ l∈lines,l.length≤400)∧lines.length≤1000 ∧
 (∀ d,sread b lines off = .ok d→∀ H' v,DdAt A K H' dd v d→Same H0 H'→Q v H')∧∀ e,sread b lines off = .error e→Rz A E (Same H0) e
section
variable {P:Program} {w:World} {K:PySem.W.Frag} {mg:Str→Option Value} {base:Heap} {A:Ad}
theorem zl2 (T:Txt K mg A):FnOk P w K mg base (L2.CX P w) 8 A.zb3 A.zb6 ["self"] (sp_sread A K):=by
 have zj7:=zmb (P:=P) (w:=w) (base:=base) T
 have zak:=zcq (P:=P) (w:=w) (base:=base) T
 have zh9:=zjh (P:=P) (w:=w) (base:=base) T
 have zkp:=zj0 (P:=P) (w:=w) (base:=base) T
 have zng:=zm3 (P:=P) (w:=w) (base:=base) T
 refine T.ze3.okX zbf (fun vs H Q E h=>?_) (fun cdv Ar outer s H vs Q E hr h=>?_)
 ·obtain ⟨H0,p,la,sl,dd,lines,off,b,rfl,_⟩:=h
  rfl
 ·obtain ⟨H0,p,la,sl,dd,lines,off,b,rfl,hr0,hb,s0,np,nsl,q1,hne,hll,hlz,qN,qE⟩:=h
  refine ⟨_,(pss_cons (ps_set (i:=1) zbf.nd rfl (Or.inl rfl) (pe_call zj7 (hr.mono (by decide)) (by rfl) T.zm2 T.zfs.kp T.zm9 .nil pass0 (pa_cons (pe_ix (RD.k_ixL (K:=K) rfl) (RD.k_fld (K:=K) rfl (pv 0) rfl) pe_int (fun _ _=>rfl)) (pa_cons pe_str pa_nil))))
   (pss_cons (ps_if (pt_cmpR op_isN (pv 1) pe_non (nomark _))
   (pss_one (ps_raise rfl (takes_of rfl rfl rfl rfl) (pmk_oex T.oex_BadLine T.zby T.zbz zak (hr.mono (by decide)) T.zaq .nil pass0 (by rfl) T.zcm (pa_cons (pe_op op_add (RD.k_fld (K:=K) rfl (pv 0) rfl) pe_int) pa_nil))))
   pss_nil)
   (pss_cons (ps_set (i:=2) zbf.nd rfl (Or.inl rfl) (pe_make T.zpl zh9 (hr.mono (by decide)) (by rfl) T.zqn T.zj8 .nil pass0 (pa_cons (pe_slice (RD.k_slL (K:=K) rfl) (pv 1) (po_some pe_int) po_none) pa_nil)))
   (pss_cons (ps_for PassesOwn.leaving rfl (pi_range2 (by rfl) T.zld (pa_cons pe_int (pa_cons (pe_callB (RD.k_len (K:=K) rfl) (by rfl) T.zau (by decide +kernel) (pa_cons (RD.k_fld (K:=K) rfl (pv 0) rfl) pa_nil)) pa_nil))) (pg_name (i:=3) zbf.nd rfl (Or.inl rfl))
   (pss_one (ps_expr (pe_meth (pv 0) T.zal T.zkk zkp (hr.mono (by decide)) T.zj9 .nil (passes_call (takes_of rfl rfl rfl rfl) (fun _ _ _ _ h=>h)) (pa_cons (pv 3) (pa_cons (pv 2) pa_nil))))))
   (PSs.nox (pss_cons (ps_set (i:=4) zbf.nd rfl (Or.inl rfl) (pe_ix (RD.k_ixL (K:=K) rfl) (RD.k_fld (K:=K) rfl (pv 0) rfl) (pe_un un_neg pe_int) (fun _ _=>rfl)))
   (RD.pss_cut (ps_set (i:=5) zbf.nd rfl (Or.inl rfl) (pe_ifExp (pt_cmpR op_eq (pe_ix (RD.k_ixT (K:=K) rfl) (pv 4) pe_int (fun _ _=>rfl)) pe_str (nomark _)) (pe_ix (RD.k_ixT (K:=K) rfl) (pv 4) pe_int (fun _ _=>rfl)) (pe_tup pa_nil)))
   (pss_cons (setDc (i:=6) (own:=[("statement", 7)]) (g:=gName 7) (by rfl) zbf.nd rfl rfl (swDc rfl rfl rfl (by decide +kernel)) (RD.k_pil (K:=K) rfl (RD.k_fld (K:=K) rfl (pv 0) rfl)) (blkOk_by (own:=[("statement", 7)]) (N:=["self", "names", "known", "at", "last", "told", "calls", "statement"]) (sc:=defScope zdq) (by decide +kernel)) (fun _ _ _ _ _=>(pg_name (i:=7) zbf.nd rfl (Or.inl rfl))) (fun _ _ _ _ _=>(pts_one (pt_cmpR op_eq (pe_ix (RD.k_ixT (K:=K) rfl) (pv 7) pe_int (fun _ _=>rfl)) pe_str (nomark _)))) (fun _ _ _ _ _=>(pe_ix (RD.k_ixT (K:=K) rfl) (pv 7) pe_int (fun _ _=>rfl))) (fun _ _ _ _ _=>(pe_dget (hu_of hr) (RD.k_fld (K:=K) rfl (pv 0) rfl) (pe_ix (RD.k_ixT (K:=K) rfl) (pv 7) pe_int (fun _ _=>rfl)) (fun _ _=>rfl))))
   (pss_one (ps_ret (pe_make T.zq9 zng (hr.mono (by decide)) (by rfl) T.zr0 T.zni .nil pass0 (pa_cons (pe_callTy (RD.k_tupOf (K:=K) rfl) (by rfl) T.zig (by decide +kernel) (pa_cons (pv 1) pa_nil)) (pa_cons (pv 5) (pa_cons (pe_callTy (RD.k_tupOf (K:=K) rfl) (by rfl) T.zig (by decide +kernel) (pa_cons (RD.k_fld (K:=K) rfl (pv 0) rfl) pa_nil)) (pa_cons (RD.k_fld (K:=K) rfl (pv 0) rfl) (pa_cons (pv 6) pa_nil)))))))))))))))),?_⟩
  show tSeq _ _ _ [some (.ref p),none,none,none,none,none,none,none] H
  obtain ⟨dx,ob⟩:=hr0.ob
  obtain ⟨l0,ls,rfl⟩:∃ l ls,lines=l :: ls:=by
   cases lines with
   | nil=>exact absurd rfl hne
   | cons l ls=>exact ⟨l,ls,rfl⟩
  walk_at "rd"
  refine ⟨p,A.zad,dx,_,_,rfl,ob,T.zal,T.zci,rfl,?_⟩
  walk_at "rd"
  refine RD.ixL (sq hr0.li) (show atI _ ((0:Nat):Int)=some (vst l0) from at_n rfl) ?_
  walk_at "rd"
  refine ⟨l0,tx "script", rfl,Nat.le_trans (hll l0 (by simp)) (by decide),fun H1 v s1 hv=>?_⟩
  walk_at "rd"
  refine ⟨rfl,?_⟩
  walk_at "rd"
  cases hfl:firstL l0 (tx "script") with
  | none =>
   rw [hfl] at hv
   have hv:v = .non:=hv
   subst hv
   refine RD.decT rfl ?_
   walk_at "rd"
   show tMkO A.zab (sp_exi1 A.zab "line") [] _ _ _ _
   show tCons _ _ _ _ _
   walk_at "rd"
   refine ⟨p,A.zad,dx,_,_,rfl,s1 _ _ ob,T.zal,T.zft,rfl,?_⟩
   walk_at "rd"
   refine RD.mk1 fun dd ndd=>?_
   exact qE (.bad (off + 1)) (by unfold sread; simp only [hfl]) _ dd ((s0.trans s1).trans (same_new ndd)) upd_same
  | some names =>
   rw [hfl] at hv
   obtain ⟨na,rfl,nna,hna⟩:=hv
   refine RD.decF nofun ?_
   walk_at "rd"
   obtain ⟨f1,f2,f3,f4⟩:=firstL_some hfl
   obtain ⟨n0,hs,rfl⟩:∃ n hs,names=n :: hs:=by
    cases names with
    | nil=>exact absurd f1 (by simp)
    | cons n hs=>exact ⟨n,hs,rfl⟩
   have f2:hs.length≤3:=by rw [List.length_cons] at f2; omega
   have f4:hs.Nodup:=f4
   have eR:=@sread_eq b l0 ls off n0 hs hfl
   refine RD.slL (sq hna) fun c nc=>?_
   have ec:cutV (vsts (n0 :: hs)) (some 1) none=vsts hs:=cut_from (vsts (n0 :: hs)) 1
   rw [ec]
   have t1:=same_new (o := .lst (vsts hs)) nc
   walk_at "rd"
   refine mk_names (sq upd_same) f4 (by omega) fun H2 kn ssl d nkn nssl nd0 s2 hn2=>?_
   have sA:=(s1.trans t1).trans s2
   have hr2:=hr0.same sA
   have sB:=s0.trans sA
   obtain ⟨dx2,ob2⟩:=hr2.ob
   have hna2:=(t1.trans s2) _ _ hna
   obtain ⟨svs0,hsl0,_⟩:=hr0.st
   have q2:sl ≠ ssl:=ne_of_none ((s1.trans t1) _ _ hsl0) nssl
   have nd00:H0 d=none:=((s0.trans s1).trans t1).free nd0
   have nax:na ≠ sl:=(ne_of_none hsl0 nna).symm
   have nad:na ≠ d:=ne_of_none (t1 _ _ hna) nd0
   walk_at "rd"
   refine ⟨p,A.zad,dx2,_,_,rfl,ob2,T.zal,T.zci,rfl,?_⟩
   walk_at "rd"
   refine RD.len (sq hr2.li) ?_
   rw [vsts_len,List.length_cons]
   walk_at "rd"
   rw [List.length_cons] at hlz
   refine RD.goR2 (n:=ls.length) (by omega) (by omega) (fun i σ G=>∃ (o3:Option V) (r:Sdr),σ = [some (.ref p),some (.ref na),some (.ref kn),o3,none,none,none,none]∧sreadLines b (ls.length + 1) off 1 ⟨[.scr],hs.map fun x=>(x,half)⟩ (ls.take i) = .ok r∧r.stms.length=i + 1∧CallsIn b r.stms∧r.scope.length≤3 + 410 * r.stms.length ∧
    SrAt A K G p la sl dd (l0 :: ls) off r.stms∧NamesAt A G kn ssl [d] [r.scope]∧Same H0 G∧G na=some (.lst (vsts (n0 :: hs)))) ?_ ?_ ?_
   ·exact ⟨none,_,rfl,rfl,rfl,(fun x hs nw m=>by cases (List.mem_singleton.mp m)),by rw [List.length_map]; simp; omega,hr2,hn2,sB,hna2⟩
   ·rintro i σ G hi ⟨o3,r,rfl,hrl,hlen,hci,hsz,hr,hn,sG,hnaG⟩
    have ei:((1:Int) + (i:Int))=((r.stms.length:Nat):Int):=by rw [hlen]; omega
    rw [ei]
    obtain ⟨dxg,obg⟩:=hr.ob
    have tk1:=RD.take_one (List.getElem?_eq_getElem hi)
    have e1:sreadLines b (ls.length + 1) off 1 ⟨[.scr],hs.map fun x=>(x,half)⟩ (ls.take (i + 1))=sreadLine b r (l0 :: ls).length off r.stms.length ls[i]:=by
     rw [tk1,sr_app,hrl]
     simp only
     rw [sr_one,List.length_take,Nat.min_eq_left (by omega),hlen,Nat.add_comm 1 i]
     rfl
    walk_at "rd"
    refine ⟨p,dxg,_,rfl,obg,rfl,?_⟩
    walk_at "rd"
    refine ⟨H0,p,la,sl,dd,kn,ssl,d,l0 :: ls,off,b,r,ls[i],rfl,hr,hb,sG,nsl,nd00,hn,q1,q2,by rw [hlen,List.getElem?_cons_succ]; exact List.getElem?_eq_getElem hi,hll _ (by simp),by omega,(fun z=>by rw [z] at hlen; cases hlen),hsz,fun r2 he G2 hr3 hn3 of3 hz3 hl3=>?_,fun e he=>?_⟩
    ·have sG2:Same H0 G2:=fun x o e=>of3 x o (sG x o e) (fun z=>by
      rcases List.mem_cons.mp z with z | z
      ·rw [z,nsl] at e; cases e
      ·rw [List.mem_singleton.mp z,nd00] at e; cases e)
     exact ⟨_,r2,rfl,e1.trans he,by rw [hl3,hlen],sline_calls he hci,hz3,hr3,hn3,sG2,of3 _ _ hnaG (by simp [nax,nad])⟩
    ·refine Rz.past (fun H' g=>sG.trans g) (qE e ?_)
     have e2:=sr_err (y:=ls.drop (i + 1)) (e1.trans he)
     rw [List.take_append_drop] at e2
     rw [eR,e2]
   ·rintro σ G ⟨o3,r,rfl,hrl,hlen,hci,hsz,hr,hn,sG,hnaG⟩
    rw [List.take_length] at hrl
    rw [hrl] at eR
    have eR:sread b (l0 :: ls) off = .ok ⟨true,⟨n0 :: hs,toldOf r.stms,l0 :: ls,r.stms⟩,callsOf b r.stms⟩:=eR
    obtain ⟨dxg,obg⟩:=hr.ob
    walk_at "rd"
    refine ⟨p,A.zad,dxg,_,_,rfl,obg,T.zal,T.zbk,rfl,?_⟩
    walk_at "rd"
    obtain ⟨svs,hsl,hsp⟩:=hr.st
    obtain ⟨st0,st1,hst⟩:∃ v0 vl,r.stms=v0++[vl]:=by
     rcases List.eq_nil_or_concat r.stms with z | ⟨a,b,z⟩
     ·rw [z] at hlen; cases hlen
     ·exact ⟨a,b,by rw [z,List.concat_eq_append]⟩
    obtain ⟨sv0,sv1,esv⟩:∃ v0 vl,svs=v0++[vl]:=by
     rcases List.eq_nil_or_concat svs with z | ⟨a,b,z⟩
     ·have:=paired_len hsp
      rw [z,hst] at this
      exact absurd this (by simp)
     ·exact ⟨a,b,by rw [z,List.concat_eq_append]⟩
    have hlast:StmAt K G sv1 st1:=by
     rw [hst,esv] at hsp
     exact (paired_split hsp).2
    have etold:toldOf r.stms=tellOf st1:=by rw [hst,told_last]
    refine RD.ixL (sq hsl) (by rw [esv]; exact atI_last _ _) ?_
    walk_at "rd"
    obtain ⟨la1,lx1,rfl,hla1⟩:=hlast.head
    refine RD.cut (fun σ G2=>∃ tb,σ = [some (.ref p),some (.ref na),some (.ref kn),o3,some (.ref la1),some (.ref tb),none,none]∧Same G G2∧SqT K G2 tb (vsts (toldOf r.stms))) ?_ ?_
    ·walk_at "rd"
     refine RD.ixT hla1 (show atI _ ((0:Nat):Int)=some (vst (tx (headS st1))) from at_n rfl) ?_
     walk_at "rd"
     refine RD.dec (fun h1=>?_) (fun h1=>?_)
     ·have h1:=tx_inj h1
      obtain ⟨xs,rfl⟩:∃ xs,st1 = .tell xs:=by
       cases st1 with
       | tell xs=>exact ⟨xs,rfl⟩
       | _=>exact absurd h1 (by simp [headS])
      obtain ⟨a2,e2,b2,h2,h3⟩:=hlast
      cases e2
      walk_at "rd"
      refine RD.ixT h2 (show atI _ ((1:Nat):Int)=some (.ref b2) from at_n rfl) ?_
      walk_at "rd"
      exact ⟨b2,rfl,Same.refl _,by rw [etold]; exact h3⟩
     ·walk_at "rd"
      refine ⟨few,fun tb ntb=>?_⟩
      walk_at "rd"
      refine ⟨tb,rfl,same_new ntb,?_⟩
      have:toldOf r.stms=[]:=by
       rw [etold]
       cases st1 with
       | tell xs=>exact absurd rfl h1
       | _=>rfl
      rw [this]
      exact st upd_same
    rintro σ G2 ⟨tb,rfl,sg2,htb⟩
    have hrg:=hr.same sg2
    obtain ⟨dxg2,obg2⟩:=hrg.ob
    have hbg:=hb.same (sG.trans sg2)
    obtain ⟨kvB,hkB,hpB⟩:=hbg
    have hsl2:=sg2 _ _ hsl
    have hsp2:Paired (StmAt K G2) svs r.stms:=paired_imp (fun _ _ z=>(Kp.same sg2).stm z) hsp
    walk_at "rd"
    refine ⟨p,A.zad,dxg2,_,_,rfl,obg2,T.zal,T.zbk,rfl,?_⟩
    walk_at "rd"
    have hcall:∀ j s,r.stms[j]? = some s→(r.stms.take (j + 1)).foldl xstep []=xstep ((r.stms.take j).foldl xstep []) s:=fun j s hj=>by
     rw [RD.take_one hj,List.foldl_append]
     rfl
    refine dcG (fun j=>cF kvB ((r.stms.take j).foldl xstep [])) (sq hsl2) rfl (fun j _=>?_) (fun j x G3 Y R' hx s3 kY kR=>?_) (fun cd G3 ncd s3 hcd=>?_)
    ·unfold cF
     rw [List.length_map]
     have:=xfold_len (r.stms.take j) []
     rw [List.length_take,List.length_nil] at this
     exact szt (by omega)
    ·have hj:j < r.stms.length:=by
      have:=(List.getElem?_eq_some_iff.mp hx).1
      rw [← paired_len hsp2]
      exact this
     have hsj:=List.getElem?_eq_getElem hj
     have hst3:StmAt K G3 x r.stms[j]:=(Kp.same s3).stm (paired_at hsp2 hx hsj)
     have eF:=hcall j _ hsj
     have hmem:r.stms[j]∈r.stms:=List.getElem_mem hj
     revert eF hst3 hmem
     generalize r.stms[j]=sj
     intro hst3 eF hmem
     obtain ⟨a,xs,rfl,ha⟩:=hst3.head
     walk_at "wp"
     walk_at "rd"
     refine ⟨rfl,?_⟩
     walk_at "rd"
     refine RD.ixT ha (show atI _ ((0:Nat):Int)=some (vst (tx (headS sj))) from at_n rfl) ?_
     walk_at "rd"
     refine RD.dec (fun h1=>?_) (fun h1=>?_)
     ·have h1:=tx_inj h1
      obtain ⟨x,hs2,nw,rfl⟩:∃ x hs nw,sj = .call x hs nw:=by
       cases sj with
       | call x hs nw=>exact ⟨x,hs,nw,rfl⟩
       | _=>exact absurd h1 (by simp [headS])
      obtain ⟨a2,e2,b2,c2,h2,_⟩:=hst3
      cases e2
      obtain ⟨v1,_⟩:=v_of hpB (hci x hs2 nw hmem)
      have ob3:=s3 _ _ obg2
      walk_at "rd"
      refine RD.ixT h2 (show atI _ ((1:Nat):Int)=some (vst x) from at_n rfl) ?_
      walk_at "rd"
      refine ⟨p,A.zad,dxg2,_,_,rfl,ob3,T.zal,T.zf6,rfl,?_⟩
      walk_at "rd"
      refine RD.ixT h2 (show atI _ ((1:Nat):Int)=some (vst x) from at_n rfl) ?_
      refine ⟨dd,vOf kvB x,rfl,.inl ⟨kvB,Sum.inr (S x),.inl (s3 _ _ hkB),rfl,v1.symm⟩,?_⟩
      refine kY (Sum.inr (S x)) _ _ ?_ (Same.refl _)
      rw [eF,put_cF]
      rfl
     ·walk_at "rd"
      refine kR _ ?_ (Same.refl _)
      rw [eF]
      cases sj with
      | call x hs nw=>exact absurd rfl h1
      | _=>rfl
    ·have hlen2:svs.length=r.stms.length:=paired_len hsp2
     rw [hlen2,List.take_length] at hcd
     have hxm:=xstep_mem hci (xs:=[]) (fun x hx=>absurd hx (by simp))
     have ecs:=callsOf_names hci
     rw [ecs] at eR
     revert hxm hcd eR
     generalize r.stms.foldl xstep []=xs
     intro eR hcd hxm
     have s23:=sg2.trans s3
     have obg3:=s3 _ _ obg2
     walk_at "rd"
     refine RD.tupL (sq (s23 _ _ hnaG)) fun q1 nq1=>?_
     have t3:=same_new (o := .tup (vsts (n0 :: hs))) nq1
     have hq1:=upd_same (H:=G3) (a:=q1) (o := .tup (vsts (n0 :: hs)))
     walk_at "rd"
     refine ⟨p,A.zad,dxg2,_,_,rfl,t3 _ _ obg3,T.zal,T.zci,rfl,?_⟩
     walk_at "rd"
     refine RD.tupL (sq ((s23.trans t3) _ _ hr.li)) fun q2 nq2=>?_
     have t4:=same_new (o := .tup (vsts (l0 :: ls))) nq2
     have hq2:=upd_same (H:=upd G3 q1 (.tup (vsts (n0 :: hs)))) (a:=q2) (o := .tup (vsts (l0 :: ls)))
     have t34:=t3.trans t4
     walk_at "rd"
     refine ⟨p,A.zad,dxg2,_,_,rfl,t34 _ _ obg3,T.zal,T.zbk,rfl,?_⟩
     walk_at "rd"
     intro x dx nx ndx ne
     have s9:=RD.same_mut (o := .ins A.zaj dx []) (RD.same_new (o := .own x) ndx) nx
     refine ⟨x,dx,q1,n0,hs,.ref tb,.ref q2,.ref sl,.ref cd,rfl,upd_same,st (s9 _ _ (t4 _ _ hq1)),fun H9 h nh hp9 hh9 sx9=>⟨rfl,?_⟩⟩
     have s10:Same (upd (upd G3 q1 (.tup (vsts (n0 :: hs)))) q2 (.tup (vsts (l0 :: ls)))) H9:=fun c o e=>sx9 c o (s9 c o e) (ne_of_none e nx)
     have s3n:=t34.trans s10
     have s11:=s23.trans s3n
     have s29:=s3.trans s3n
     have ncdd:cd ≠ dd:=fun z=>by rw [z,hkB] at ncd; cases ncd
     refine qN _ eR H9 (.ref x) ?_ (sG.trans s11)
     show DdAt A K H9 dd (.ref x) ⟨true,_,_⟩
     unfold DdAt
     rw [if_pos rfl]
     refine ⟨x,dx,h,tb,q2,sl,cd,n0,hs,svs,rfl,hp9,rfl,st hh9,(Kp.same s29).sq htb,st (s10 _ _ hq2),s29 _ _ hsl2,paired_imp (fun _ _ z=>(Kp.same s29).stm z) hsp2,⟨_,s3n _ _ hcd,?_⟩,ncdd⟩
     exact paired_imp (fun _ _ z=>⟨z.1,RtAt.same s29 z.2⟩) (calls_at hpB hxm)
end
end Pf

namespace PR
open RD PySem PySem.Spec PyProof.Rows L2 SX
theorem stw_tx (a b:Tx):Txt.startswith (SX.S a) (SX.S b)=decide (a.take b.length=b):=by
 unfold Txt.startswith
 rw [StrLaws.subAt_eq,List.drop_zero]
 have e1:(SX.S a).cps.toList=a:=by simp
 have e2:(SX.S b).cps.toList=b:=by simp
 have l1:(SX.S a).length=a.length:=S_len a
 have l2:(SX.S b).length=b.length:=S_len b
 rw [e1,e2,l1,l2]
 by_cases h:a.take b.length=b
 ·have hl:b.length≤a.length:=by
   have:=congrArg List.length h
   rw [List.length_take] at this
   omega
  rw [decide_eq_true h,h]
  simp [hl]
 ·rw [decide_eq_false h]
  have:(a.take b.length == b)=false:=by simpa using h
  rw [this,Bool.and_false]
theorem firstL_at {l w:Tx} {ns:List Tx} (h:firstL l w=some ns):(spc 32 l)[1]? = ns[0]? := by
 unfold firstL at h
 cases e:spc 32 l with
 | nil=>rw [e] at h; cases h
 | cons a r =>
  rw [e] at h
  simp only at h
  split at h
  ·cases h; rfl
  ·cases h
theorem readD_title {b:Bk} {l:Tx} {ls:List Tx} {st:Nat} {d:Dd} (h:readD b (l :: ls) st = .ok d):∃ n hs,d.t.names=n :: hs∧(spc 32 l)[1]? = some n:=by
 unfold readD at h
 split at h
 ·unfold sread at h
  simp only at h
  cases e:firstL l (tx "script") with
  | none=>rw [e] at h; cases h
  | some ns =>
   rw [e] at h
   simp only at h
   have hn:=firstL_some e
   split at h
   ·cases h
   ·cases h
    cases ns with
    | nil=>exact absurd hn.1 (by simp)
    | cons n hs=>exact ⟨n,hs,rfl,firstL_at e⟩
 ·cases er:PR.read (l :: ls) st with
  | error e=>rw [er] at h; cases h
  | ok t =>
   rw [er] at h
   cases h
   unfold PR.read at er
   simp only at er
   cases e:firstL l (tx "routine") with
   | none=>rw [e] at er; cases er
   | some ns =>
    rw [e] at er
    simp only at er
    have hn:=firstL_some e
    split at er
    ·cases er
    ·split at er
     ·cases er
      cases ns with
      | nil=>exact absurd hn.1 (by simp)
      | cons n hs=>exact ⟨n,hs,rfl,firstL_at e⟩
     ·cases er
theorem body_ne {l:Tx} {r:List Tx} (h:l ≠ []):body (l :: r)=l :: body r:=by
 unfold body
 rw [List.takeWhile_cons_of_pos]
 cases l with
 | nil=>exact absurd rfl h
 | cons _ _=>rfl
theorem body_le (ls:List Tx):(body ls).length≤ls.length:=by
 unfold body
 exact List.Sublist.length_le (List.takeWhile_sublist _)
theorem body_take (ls:List Tx):ls.take (body ls).length=body ls:=by
 unfold body
 induction ls with
 | nil=>rfl
 | cons a r ih =>
  rw [List.takeWhile_cons]
  split
  ·rw [List.length_cons,List.take_succ_cons,ih]
  ·rfl
theorem body_in {ls:List Tx} {i:Nat} {x:Tx} (hi:i < (body ls).length) (h:ls[i]? = some x):x ≠ []:=by
 have h2:(body ls)[i]? = some x:=by
  rw [← body_take,List.getElem?_take,if_pos hi]
  exact h
 have hm:=List.mem_of_getElem? h2
 intro e
 have:=List.all_eq_true.mp (show (body ls).all full=true from List.all_takeWhile) x hm
 rw [e] at this
 cases this
theorem body_stop:∀ {ls:List Tx} {x:Tx},ls[(body ls).length]? = some x→x=[]
 | [],_,h=>by cases h
 | a :: r,x,h=>by
  cases a with
  | nil=>exact (Option.some.inj h).symm
  | cons c t =>
   rw [body_ne (by simp),List.length_cons,List.getElem?_cons_succ] at h
   exact body_stop h
end PR
namespace Pf
open PySem PySem.Spec PyProof.Rows L2 SX RD PR
def sp_read_book (A:Ad) (K:PySem.W.Frag):Sp:=fun vs H Q E=>∃ t:Tx,vs=[vst t]∧t.length≤1000000∧(spc 10 t).length≤1000∧(∀ l∈spc 10 t,l.length≤400) ∧
 (∀ b,readBook t = .ok b→∀ H' v,BookAt A K H' v b→Same H H'→Q v H')∧∀ e,readBook t = .error e→Rz A E (Same H) e
section
variable {P:Program} {w:World} {K:PySem.W.Frag} {mg:Str→Option Value} {base:Heap} {A:Ad}
theorem cut12 (ls:List Tx):cutV (vsts ls) (some (1:Int)) (some (2:Int))=vsts ((ls.drop 1).take 1):=by
 unfold cutV
 rw [show (1:Int)=((1:Nat):Int) from rfl,show (2:Int)=((2:Nat):Int) from rfl,HT.sIx_nat,HT.sIx_nat,vsts_len]
 unfold vsts
 rw [← List.map_drop,← List.map_take]
 congr 1
 match ls with
 | []=>rfl
 | [_]=>rfl
 | x :: y :: r =>
  have h1:min 1 (List.length (x :: y :: r))=1:=by simp only [List.length_cons]; omega
  have h3:min 2 (List.length (x :: y :: r))=2:=by simp only [List.length_cons]; omega
  rw [h1,h3]
theorem cut_at2 (ls:List Tx) (e:Nat):cutV (vsts ls) (some ((e:Nat):Int)) (some ((e + 2:Nat):Int))=vsts ((ls.drop e).take 2):=by
 unfold cutV
 rw [HT.sIx_nat,HT.sIx_nat,vsts_len]
 unfold vsts
 rw [← List.map_drop,← List.map_take]
 congr 1
 rcases Nat.le_total e ls.length with h | h
 ·rw [Nat.min_eq_left h]
  rcases Nat.le_total (e + 2) ls.length with h2 | h2
  ·rw [Nat.min_eq_left h2,Nat.add_sub_cancel_left]
  ·rw [Nat.min_eq_right h2,List.take_of_length_le (by rw [List.length_drop]; omega),List.take_of_length_le (by rw [List.length_drop]; omega)]
 ·rw [List.drop_eq_nil_iff.mpr (by omega),List.drop_eq_nil_iff.mpr h,List.take_nil,List.take_nil]
theorem gap_join {ls:List Tx} (h:ls ≠ []):gap2 ls=decide (TL.joinL [] (ls.take 2)=[]):=by
 match ls,h with
 | [a],_=>cases a <;> simp [gap2,TL.joinL]
 | a :: b :: r,_=>cases a <;> cases b <;> simp [gap2,TL.joinL]
theorem jnd0 {H:Hp} {Q:VK} {K:PySem.W.Frag} {p:Addr} {k:Nat} {ls:List Tx} (hs:SqL K H p (vsts ls)) (hk:∀ l∈ls,l.length≤k) (hb:ls.length * (k + 1)≤16777216) (q:Q (vst (TL.joinL [] ls)) H):rJoin K (vst (tx "")) [.ref p] H Q:=by
 refine ⟨S [],p,ls.map S,rfl,rfl,.inl (by rw [List.map_map]; exact hs),?_,?_⟩
 ·have:=sum_le ls k hk
  rw [S_len,List.length_map]
  show _ + _ * 0≤_
  omega
 ·rw [join_S]
  exact q
theorem two {P Q:Prop} (h:P→Q) (p:P):Q:=h p
theorem mk_sreader {H:Hp} {la dd:Addr} {lines:List Tx} {off:Nat} {Q:VK} {E:XK} (hla:H la=some (.lst (vsts lines)))
  (q:∀ (H':Hp) (p sl:Addr),H p=none→H sl=none→Same H H'→SrAt A K H' p la sl dd lines off [.scr]→sl ≠ la→Q (.ref p) H'):RD.MKE A.zad (sp_srinit A K) [] E [.ref la,vn off,.ref dd] H Q:=by
 intro x dx nx ndx ne
 have s0:Same H (upd (upd H dx (.own x)) x (.ins A.zad dx [])):=RD.same_mut (RD.same_new ndx) nx
 refine ⟨x,dx,la,dd,lines,off,rfl,upd_same,s0 _ _ hla,fun H' sl n1 hr sx=>⟨rfl,?_⟩⟩
 have m1:=s0.free n1
 exact q H' x sl nx m1 (fun c o e=>sx c o (s0 c o e) (ne_of_none e nx)) hr (ne_of_none hla m1).symm
theorem zpy (T:Txt K mg A):FnOk P w K mg base (L2.CX P w) 9 A.zfo A.zfj ["text"] (sp_read_book A K):=by
 have zak:=zcq (P:=P) (w:=w) (base:=base) T
 have zmg:=zl2 (P:=P) (w:=w) (base:=base) T
 have zks:=zj4 (P:=P) (w:=w) (base:=base) T
 have zlt:=zll (P:=P) (w:=w) (base:=base) T
 have zke:=zjy (P:=P) (w:=w) (base:=base) T
 have zod:=znq (P:=P) (w:=w) (base:=base) T
 refine T.zhp.okX zcr (fun vs H Q E h=>?_) (fun cdv Ar outer s H vs Q E hr h=>?_)
 ·obtain ⟨t,rfl,_⟩:=h
  rfl
 ·obtain ⟨t,rfl,hl,hz,hll,qN,qE⟩:=h
  refine ⟨_,(pss_cons (ps_set (i:=1) zcr.nd rfl (Or.inl rfl) pe_dnewK)
   (pss_cons (ps_set (i:=2) zcr.nd rfl (Or.inl rfl) (RD.k_split (pv 0) pe_str))
   (pss_cons (ps_set (i:=3) zcr.nd rfl (Or.inl rfl) pe_int)
   (pss_cons (ps_while PassesOwn.leaving (pt_cmpR op_lt (pv 3) (pe_callB (RD.k_len (K:=K) rfl) (by rfl) T.zau (by decide +kernel) (pa_cons (pv 2) pa_nil)) (nomark _))
   (RD.pss_cut (ps_if (pt_cmpR op_eq (pe_ix (RD.k_ixL (K:=K) rfl) (pv 2) (pv 3) (fun _ _=>rfl)) pe_str (nomark _))
   (pss_one (ps_raise rfl (takes_of rfl rfl rfl rfl) (pmk_oex T.oex_BadLine T.zby T.zbz zak (hr.mono (by decide)) T.zaq .nil pass0 (by rfl) T.zcm (pa_cons (pe_op op_add (pv 3) pe_int) pa_nil))))
   pss_nil)
   (pss_cons (ps_set (i:=4) zcr.nd rfl (Or.inl rfl) (pv 3))
   (pss_cons (ps_while PassesOwn.leaving (PW.pt (pw_and (pt_cmpR op_lt (pv 4) (pe_callB (RD.k_len (K:=K) rfl) (by rfl) T.zau (by decide +kernel) (pa_cons (pv 2) pa_nil)) (nomark _)) (pw_and1 (pt_cmpR op_ne (pe_ix (RD.k_ixL (K:=K) rfl) (pv 2) (pv 4) (fun _ _=>rfl)) pe_str (nomark _)))))
   (PSs.nox (pss_one (ps_aug (i:=4) zcr.nd rfl (Or.inl rfl) pe_int ip_add))))
   (pss_cons (ps_set (i:=5) zcr.nd rfl (Or.inl rfl) (pe_slice (RD.k_slL (K:=K) rfl) (RD.k_split (pe_ix (RD.k_ixL (K:=K) rfl) (pv 2) (pv 3) (fun _ _=>rfl)) pe_str) (po_some pe_int) (po_some pe_int)))
   (RD.pss_cut (ps_if (PW.pt (pw_and (RD.k_tru (K:=K) rfl (pv 5) (by intro _; rfl)) (pw_and1 (pt_cmp (pc_din (hu_of hr) (pe_ix (RD.k_ixL (K:=K) rfl) (pv 5) pe_int (fun _ _=>rfl)) (pv 1))))))
   (pss_one (ps_raise rfl (takes_of rfl rfl rfl rfl) (pmk_oex T.oex_BadLine T.zby T.zbz zak (hr.mono (by decide)) T.zaq .nil pass0 (by rfl) T.zcm (pa_cons (pe_op op_add (pv 3) pe_int) pa_nil))))
   pss_nil)
   (RD.pss_cut (ps_if (pt_val (pe_m1 PySem.F.slot_str_startswith PySem.F.type_str_startswith RD.mt_stw (pe_ix (RD.k_ixL (K:=K) rfl) (pv 2) (pv 3) (fun _ _=>rfl)) pe_str))
   (pss_one (ps_set (i:=6) zcr.nd rfl (Or.inl rfl) (pe_meth0 (pe_make T.znw zks (hr.mono (by decide)) (by rfl) T.zor T.zkq .nil pass0 (pa_cons (pe_slice (RD.k_slL (K:=K) rfl) (pv 2) (po_some (pv 3)) (po_some (pv 4))) (pa_cons (pv 3) (pa_cons (pv 1) pa_nil)))) T.zal T.zmh zmg (hr.mono (by decide)) T.zmk .nil (passes_call (takes_of rfl rfl rfl rfl) (fun _ _ _ _ h=>h)))))
   (pss_one (ps_set (i:=6) zcr.nd rfl (Or.inl rfl) (pe_meth0 (pe_make T.znr zke (hr.mono (by decide)) (by rfl) T.zn9 T.zkd .nil pass0 (pa_cons (pe_slice (RD.k_slL (K:=K) rfl) (pv 2) (po_some (pv 3)) (po_some (pv 4))) (pa_cons (pv 3) pa_nil))) T.zae T.zl4 zlt (hr.mono (by decide)) T.zls .nil (passes_call (takes_of rfl rfl rfl rfl) (fun _ _ _ _ h=>h))))))
   (pss_cons (ps_dput (hu_of hr) (pv 1) (RD.k_fld (K:=K) rfl (pv 6) rfl) (pv 6) rfl)
   (RD.pss_cut (ps_if (PW.pt (pw_and (pt_cmpR op_lt (pv 4) (pe_callB (RD.k_len (K:=K) rfl) (by rfl) T.zau (by decide +kernel) (pa_cons (pv 2) pa_nil)) (nomark _)) (pw_and1 (pt_cmpR op_eq (RD.k_join (K:=K) rfl pe_str (pe_slice (RD.k_slL (K:=K) rfl) (pv 2) (po_some (pv 4)) (po_some (pe_op op_add (pv 4) pe_int)))) pe_str (nomark _)))))
   (pss_one (ps_raise rfl (takes_of rfl rfl rfl rfl) (pmk_oex T.oex_BadLine T.zby T.zbz zak (hr.mono (by decide)) T.zaq .nil pass0 (by rfl) T.zcm (pa_cons (pe_op op_add (pv 4) pe_int) pa_nil))))
   pss_nil)
   (PSs.nox (pss_one (ps_set (i:=3) zcr.nd rfl (Or.inl rfl) (pe_op op_add (pv 4) pe_int)))))))))))))
   (PSs.nox (pss_one (ps_ret (pe_make T.zsb zod (hr.mono (by decide)) (by rfl) T.zsw T.zn6 .nil pass0 (pa_cons (pv 1) pa_nil))))))))),?_⟩
  show tSeq _ _ _ [some (vst t),none,none,none,none,none,none] H
  unfold readBook at qN qE
  walk_at "rd"
  intro dd ndd
  have t0:=same_new (o := .dK []) ndd
  walk_at "rd"
  refine ⟨⟨_,rfl⟩,?_⟩
  walk_at "rd"
  rw [tnl]
  refine RD.splt (by decide) (by omega) fun la nla=>?_
  rw [show TL.spl [10] 0 [] t=spc 10 t from rfl]
  have sL:=t0.trans (same_new (o := .lst (vsts (spc 10 t))) nla)
  have hla:=upd_same (H:=upd H dd (.dK [])) (a:=la) (o := .lst (vsts (spc 10 t)))
  have hdd:=same_new (o := .lst (vsts (spc 10 t))) nla _ _ (upd_same (H:=H) (a:=dd) (o := .dK []))
  revert hz hll qN qE sL hla hdd
  generalize upd (upd H dd (.dK [])) la (.lst (vsts (spc 10 t)))=H1
  generalize spc 10 t=L
  intro hz hll qN qE sL hla hdd
  walk_at "rd"
  refine RD.whl (fun m σ G=>∃ (b:Bk) (st:Nat) (o4 o5 o6:Option V),σ = [some (vst t),some (.ref dd),some (.ref la),some (vn st),o4,o5,o6]∧Same H G∧G la=some (.lst (vsts L))∧BkAt A K G dd b∧L.length≤st + m∧b.length≤st ∧
   (∀ b2,readB m b st (L.drop st) = .ok b2→∀ H' v,BookAt A K H' v b2→Same H H'→Q v H')∧∀ e,readB m b st (L.drop st) = .error e→Rz A E (Same H) e) L.length
   ⟨[],0,none,none,none,rfl,sL,hla,⟨[],hdd,.nil⟩,by omega,Nat.le_refl _,qN,qE⟩ (fun m σ G hp=>?_)
  obtain ⟨b,st,o4,o5,o6,rfl,sG,hlaG,hb,hm,hbs,qN,qE⟩:=hp
  walk_at "rd"
  refine RD.len (sq hlaG) ?_
  rw [vsts_len]
  walk_at "rd"
  refine RD.dec (fun h1=>?_) (fun h1=>?_)
  ·obtain ⟨m,rfl⟩:∃ k,m=k + 1:=⟨m - 1,by omega⟩
   have hst:st < L.length:=by omega
   obtain ⟨l,r,er⟩:∃ l r,L.drop st=l :: r:=⟨_,_,List.drop_eq_getElem_cons hst⟩
   have hl0:L[st]? = some l:=by
    have:(L.drop st)[0]? = some l:=by rw [er]; rfl
    rwa [List.getElem?_drop] at this
   rw [er] at qN qE
   refine RD.wN ?_
   walk_at "rd"
   have ix:atI (vsts L) ((st:Nat):Int)=some (vst l):=at_n (vsts_at hl0)
   refine RD.cut (fun σ G'=>σ = [some (vst t),some (.ref dd),some (.ref la),some (vn st),o4,o5,o6]∧G'=G∧l ≠ []) ?_ ?_
   ·walk_at "rd"
    refine RD.ixL (sq hlaG) ix ?_
    walk_at "rd"
    refine RD.dec (fun h2=>?_) (fun h2=>?_)
    ·walk_at "rd"
     show tMkO A.zab (sp_exi1 A.zab "line") [] _ _ _ _
     show tCons _ _ _ _ _
     walk_at "rd"
     refine RD.mk1 fun d1 nd1=>?_
     exact qE (.bad (st + 1)) (if_pos h2) _ d1 (sG.trans (same_new nd1)) upd_same
    ·walk_at "rd"
     exact ⟨rfl,rfl,h2⟩
   rintro σ G' ⟨rfl,rfl,hne⟩
   have eR:readB (m + 1) b st (l :: r)=if titleIn b l=true then .error (.bad (st + 1))
     else match readD b (body (l :: r)) st with
      | .error e => .error e
      | .ok d=>if gap2 ((l :: r).drop (body (l :: r)).length)=true then .error (.bad (st + (body (l :: r)).length + 1))
       else readB m (b++[(d.t.names.headD [],d)]) (st + (body (l :: r)).length + 1) (((l :: r).drop (body (l :: r)).length).drop 1):=if_neg hne
   rw [eR] at qN qE
   have hbl:=body_le (l :: r)
   have hlr:(l :: r).length=L.length - st:=by rw [← er,List.length_drop]
   walk_at "rd"
   refine RD.whl (fun k σ G2=>∃ e,σ = [some (vst t),some (.ref dd),some (.ref la),some (vn st),some (vn e),o5,o6]∧G2=G'∧st≤e∧e + k=st + (body (l :: r)).length) ((body (l :: r)).length) ⟨st,rfl,rfl,Nat.le_refl _,rfl⟩ (fun k σ G2 hp=>?_)
   obtain ⟨e,rfl,rfl,he1,he2⟩:=hp
   have hLe:∀ x,L[e]? = some x→(l :: r)[e - st]? = some x:=fun x hx=>by rw [← er,List.getElem?_drop,show st + (e - st)=e by omega]; exact hx
   walk_at "rd"
   refine RD.len (sq hlaG) ?_
   rw [vsts_len]
   walk_at "rd"
   cases k with
   | succ k =>
    have hel:e < L.length:=by omega
    have hx:=List.getElem?_eq_getElem hel
    have hxn:=body_in (by omega) (hLe _ hx)
    refine RD.decT (by omega) ?_
    walk_at "rd"
    refine RD.ixL (sq hlaG) (at_n (vsts_at hx)) ?_
    walk_at "rd"
    refine RD.ndec (fun h2=>?_) (fun h2=>absurd h2 hxn)
    refine RD.wN ?_
    walk_at "rd"
    exact ⟨k,by omega,e + 1,rfl,rfl,by omega,by omega⟩
   | zero =>
    have he2:e=st + (body (l :: r)).length:=he2
    have stop:∀ x,L[e]? = some x→x=[]:=fun x hx=>body_stop (ls:=l :: r) (by rw [show (body (l :: r)).length=e - st by omega]; exact hLe _ hx)
    apply two
    ·intro kN
     by_cases hel:e < L.length
     ·have hx:=List.getElem?_eq_getElem hel
      refine RD.decT (Int.ofNat_lt.mpr hel) ?_
      walk_at "rd"
      refine RD.ixL (sq hlaG) (at_n (vsts_at hx)) ?_
      walk_at "rd"
      refine RD.ndec (fun h2=>absurd (stop _ hx) h2) (fun h2=>?_)
      exact kN
     ·refine RD.decF (fun z=>hel (Int.ofNat_lt.mp z)) ?_
      exact kN
    walk_at "rd"
    refine RD.ixL (sq hlaG) ix ?_
    walk_at "rd"
    refine ⟨⟨_,rfl⟩,?_⟩
    walk_at "rd"
    rw [tspc]
    have hl4:l.length≤400:=hll l (List.mem_of_getElem? hl0)
    refine RD.splt (by decide) (by omega) fun p1 n1=>?_
    rw [show TL.spl [32] 0 [] l=spc 32 l from rfl]
    have t1:=same_new (o := .lst (vsts (spc 32 l))) n1
    walk_at "rd"
    refine RD.slL (sq upd_same) fun p2 n2=>?_
    have t2:=same_new (o := .lst (cutV (vsts (spc 32 l)) (some 1) (some 2))) n2
    have t12:=t1.trans t2
    have hp2:=upd_same (H:=upd G2 p1 (.lst (vsts (spc 32 l)))) (a:=p2) (o := .lst (cutV (vsts (spc 32 l)) (some 1) (some 2)))
    rw [cut12] at hp2
    rw [cut12]
    revert t12 hp2
    rw [cut12]
    generalize upd (upd G2 p1 (.lst (vsts (spc 32 l)))) p2 (.lst (vsts (((spc 32 l).drop 1).take 1)))=G3
    intro t12 hp2
    have sG3:=sG.trans t12
    have hla3:=t12 _ _ hlaG
    have hb3:=hb.same t12
    walk_at "rd"
    refine RD.cut (fun σ G'=>σ = [some (vst t),some (.ref dd),some (.ref la),some (vn st),some (vn e),some (.ref p2),o6]∧G'=G3∧titleIn b l=false) ?_ ?_
    ·walk_at "rd"
     refine RD.truL (sq hp2) ?_
     cases ew:(spc 32 l).drop 1 with
     | nil =>
      rw [List.take_nil]
      walk_at "rn"
      refine ⟨rfl,rfl,?_⟩
      have:(spc 32 l)[1]? = none:=by
       have:=congrArg (fun z=>z[0]?) ew
       simpa using this
      unfold titleIn
      rw [this]
     | cons n rr =>
      have e1:(spc 32 l)[1]? = some n:=by
       have:=congrArg (fun z=>z[0]?) ew
       simpa using this
      have et:titleIn b l=(look b n).isSome:=by unfold titleIn; rw [e1]
      rw [ew] at hp2
      have hp2:G3 p2=some (.lst (vsts [n])):=hp2
      rw [show (!(vsts ((n :: rr).take 1)).isEmpty)=true from rfl]
      walk_at "rn"
      refine RD.ixL (sq hp2) (show atI (vsts [n]) ((0:Nat):Int)=some (vst n) from at_n rfl) ?_
      obtain ⟨o,hg,ho⟩:=hb3.get n
      walk_at "rd"
      refine ⟨dd,o,rfl,hg,?_⟩
      walk_at "rd"
      rcases ho with ⟨v,d,rfl,h4,h5⟩ | ⟨rfl,h4⟩
      ·rw [h4] at et
       rw [show (some v).isSome=true from rfl]
       walk_at "rn"
       show tMkO A.zab (sp_exi1 A.zab "line") [] _ _ _ _
       show tCons _ _ _ _ _
       walk_at "rd"
       refine RD.mk1 fun d1 nd1=>?_
       exact qE (.bad (st + 1)) (if_pos et) _ d1 (sG3.trans (same_new nd1)) upd_same
      ·rw [h4] at et
       rw [show (none:Option V).isSome=false from rfl]
       walk_at "rn"
       exact ⟨rfl,rfl,et⟩
    rintro σ G4 ⟨rfl,rfl,etl⟩
    rw [if_neg (by rw [etl]; simp)] at qN qE
    have hbd:cutV (vsts L) (some ((st:Nat):Int)) (some ((e:Nat):Int))=vsts (body (l :: r)):=by
     unfold cutV
     rw [HT.sIx_nat,HT.sIx_nat,vsts_len,show min st L.length=st by omega,show min e L.length=e by omega]
     unfold vsts
     rw [← List.map_drop,← List.map_take,er,show e - st=(body (l :: r)).length by omega,body_take]
    have hbn:=body_ne (l:=l) (r:=r) hne
    have hbl4:∀ x∈body (l :: r),x.length≤400:=fun x hx=>by
     rw [← body_take,← er] at hx
     exact hll x (List.mem_of_mem_drop (List.mem_of_mem_take hx))
    have ed:readD b (body (l :: r)) st=if l.take 7=tx "script " then sread b (body (l :: r)) st else match PR.read (body (l :: r)) st with
     | .error e => .error e
     | .ok r => .ok ⟨false,r,[]⟩:=by
     unfold readD
     rw [hbn]
     rfl
    walk_at "rd"
    refine RD.cut (fun σ G'=>∃ v d,σ = [some (vst t),some (.ref dd),some (.ref la),some (vn st),some (vn e),some (.ref p2),some v]∧Same G4 G'∧readD b (body (l :: r)) st = .ok d∧DdAt A K G' dd v d) ?_ ?_
    ·walk_at "rd"
     refine RD.ixL (sq hla3) ix ?_
     walk_at "rd"
     refine ⟨⟨_,rfl⟩,?_⟩
     walk_at "rd"
     refine ⟨S l,S (tx "script "),rfl,rfl,?_⟩
     rw [stw_tx,show (tx "script ").length=7 from by decide +kernel]
     walk_at "rd"
     refine RD.dec (fun h2=>?_) (fun h2=>?_)
     ·rw [if_pos h2] at ed
      walk_at "rd"
      refine RD.slL (sq hla3) fun p3 n3=>?_
      rw [hbd]
      have t3:=same_new (o := .lst (vsts (body (l :: r)))) n3
      have hp3:=upd_same (H:=G4) (a:=p3) (o := .lst (vsts (body (l :: r))))
      revert t3 hp3
      generalize upd G4 p3 (.lst (vsts (body (l :: r))))=G6
      intro t3 hp3
      walk_at "rd"
      refine mk_sreader hp3 fun G7 p sl np nsl s7 hr q1=>?_
      obtain ⟨dx,ob⟩:=hr.ob
      walk_at "rd"
      refine ⟨p,dx,_,rfl,ob,rfl,?_⟩
      walk_at "rd"
      refine ⟨G6,p,p3,sl,dd,body (l :: r),st,b,rfl,hr,hb3.same t3,s7,np,nsl,q1,by rw [hbn]; simp,hbl4,by omega,fun d he H' v hd s8=>?_,fun e2 he=>?_⟩
      ·walk_at "rd"
       exact ⟨v,d,rfl,t3.trans s8,ed.trans he,hd⟩
      ·exact Rz.past (fun H' g=>sG3.trans (t3.trans g)) (qE e2 (by rw [ed,he]))
     ·rw [if_neg h2] at ed
      walk_at "rd"
      refine RD.slL (sq hla3) fun p3 n3=>?_
      rw [hbd]
      have t3:=same_new (o := .lst (vsts (body (l :: r)))) n3
      have hp3:=upd_same (H:=G4) (a:=p3) (o := .lst (vsts (body (l :: r))))
      revert t3 hp3
      generalize upd G4 p3 (.lst (vsts (body (l :: r))))=G6
      intro t3 hp3
      walk_at "rd"
      refine mk_reader (off:=st) hp3 fun G7 p sl bl np nsl nbl s7 hr nd=>?_
      obtain ⟨dx,ob⟩:=hr.ob
      walk_at "rd"
      refine ⟨p,dx,_,rfl,ob,rfl,?_⟩
      walk_at "rd"
      refine ⟨G6,p,p3,sl,bl,body (l :: r),st,rfl,hr,nd,np,nsl,nbl,s7,by rw [hbn]; simp,fun x hx=>Nat.le_trans (hbl4 x hx) (by decide),by omega,fun z he H' v hd s8=>?_,fun e2 he=>?_⟩
      ·rw [he] at ed
       walk_at "rd"
       exact ⟨v,_,rfl,t3.trans s8,ed,hd⟩
      ·rw [he] at ed
       exact Rz.past (fun H' g=>sG3.trans (t3.trans g)) (qE e2 (by rw [ed]))
    rintro σ G5 ⟨v,d,rfl,s45,ed2,hd5⟩
    rw [ed2] at qN qE
    simp only at qN qE
    obtain ⟨n,hs,en,en1⟩:=readD_title (b:=b) (l:=l) (ls:=body r) (by rw [← hbn]; exact ed2)
    have hln:look b n=none:=by
     unfold titleIn at etl
     rw [en1] at etl
     simpa using etl
    have sG5:=sG3.trans s45
    have hla5:=s45 _ _ hla3
    obtain ⟨kvs,hk5,pr5⟩:=hb3.same s45
    have hlk:kvs.length=b.length:=paired_len pr5
    have hput:=BkAt.put (n:=n) hk5 pr5 hln hd5
    obtain ⟨z,C,dz,fs,rfl,hz5,hcl,hna,hfs⟩:∃ z C dz fs,v = .ref z∧G5 z=some (.ins C dz fs)∧Cls K C∧NoAttr K C "name" ∧ fs.lookup ("name" : Str)=some (vst n):=by
     unfold DdAt at hd5
     split at hd5
     ·obtain ⟨z,dz,_,_,_,_,_,n',hs',_,rfl,hz,en',_⟩:=hd5
      rw [en] at en'
      cases en'
      exact ⟨z,A.zaj,dz,_,rfl,hz,T.zf0,T.zl8,rfl⟩
     ·obtain ⟨z,dz,_,_,_,_,n',hs',_,rfl,hz,en',_⟩:=hd5
      rw [en] at en'
      cases en'
      exact ⟨z,A.zai,dz,_,rfl,hz,T.zeh,T.zlj,rfl⟩
    have s6:Same H (upd G5 dd (.dK (putK kvs (Sum.inr (S n)) (.ref z)))):=RD.same_mut sG5 ndd
    have ndl:la ≠ dd:=fun z=>by rw [z,hk5] at hla5; cases hla5
    have hla6:upd G5 dd (.dK (putK kvs (Sum.inr (S n)) (.ref z))) la=some (.lst (vsts L)):=by rw [upd_ne ndl]; exact hla5
    have dput:DPut G5 dd (vst n) (.ref z) (upd G5 dd (.dK (putK kvs (Sum.inr (S n)) (.ref z)))) := .inl ⟨kvs,Sum.inr (S n),hk5,rfl,szt (by omega),rfl⟩
    rw [show ((d.t.names).headD [])=n by rw [en]; rfl] at qN qE
    revert hput s6 hla6 dput
    generalize upd G5 dd (.dK (putK kvs (Sum.inr (S n)) (.ref z)))=G6
    intro hput s6 hla6 dput
    walk_at "rd"
    refine ⟨z,C,dz,fs,vst n,rfl,hz5,hcl,hna,hfs,dd,G6,rfl,dput,?_⟩
    have hrest:(l :: r).drop (body (l :: r)).length=L.drop e:=by rw [he2,← List.drop_drop,er]
    rw [hrest] at qN qE
    refine RD.cut (fun σ G'=>σ = [some (vst t),some (.ref dd),some (.ref la),some (vn st),some (vn e),some (.ref p2),some (.ref z)]∧Same G6 G'∧gap2 (L.drop e)=false) ?_ ?_
    ·walk_at "rd"
     refine RD.len (sq hla6) ?_
     rw [vsts_len]
     walk_at "rd"
     refine RD.dec (fun h2=>?_) (fun h2=>?_)
     ·walk_at "rd"
      refine ⟨⟨_,rfl⟩,?_⟩
      walk_at "rd"
      refine RD.slL (sq hla6) fun p3 n3=>?_
      rw [show ((e:Nat):Int) + 2=((e + 2:Nat):Int) from rfl,cut_at2]
      have t3:=same_new (o := .lst (vsts ((L.drop e).take 2))) n3
      have hp3:=upd_same (H:=G6) (a:=p3) (o := .lst (vsts ((L.drop e).take 2)))
      revert t3 hp3
      generalize upd G6 p3 (.lst (vsts ((L.drop e).take 2)))=G8
      intro t3 hp3
      have hne2:L.drop e ≠ []:=fun z=>by rw [List.drop_eq_nil_iff] at z; omega
      have hg2:gap2 (L.drop e)=decide (TL.joinL [] ((L.drop e).take 2)=[]):=gap_join hne2
      walk_at "rd"
      refine jnd0 (k:=400) (sq hp3) (fun x hx=>hll x (List.mem_of_mem_drop (List.mem_of_mem_take hx))) (by rw [List.length_take]; omega) ?_
      walk_at "rd"
      refine RD.dec (fun h3=>?_) (fun h3=>?_)
      ·walk_at "rd"
       show tMkO A.zab (sp_exi1 A.zab "line") [] _ _ _ _
       show tCons _ _ _ _ _
       walk_at "rd"
       refine RD.mk1 fun d1 nd1=>?_
       refine qE (.bad (e + 1)) ?_ _ d1 (s6.trans (t3.trans (same_new nd1))) upd_same
       rw [if_pos (by rw [hg2]; exact decide_eq_true h3),he2]
      ·walk_at "rd"
       exact ⟨rfl,t3,by rw [hg2]; exact decide_eq_false h3⟩
     ·walk_at "rd"
      refine ⟨rfl,Same.refl _,?_⟩
      rw [show L.drop e=[] from List.drop_eq_nil_iff.mpr (by omega)]
      rfl
    rintro σ G7 ⟨rfl,s67,hgap⟩
    rw [if_neg (by rw [hgap]; simp)] at qN qE
    walk_at "rd"
    refine ⟨m,by omega,b++[(n,d)],e + 1,_,_,_,rfl,s6.trans s67,s67 _ _ hla6,hput.same s67,by omega,by rw [List.length_append,List.length_singleton]; omega,?_,?_⟩
    ·rw [← he2,List.drop_drop] at qN
     exact qN
    ·rw [← he2,List.drop_drop] at qE
     exact qE
  ·have e0:L.drop st=[]:=List.drop_eq_nil_iff.mpr (by omega)
   have e1:readB m b st [] = .ok b:=by cases m <;> rfl
   rw [e0] at qN
   walk_at "rd"
   intro x dx nx ndx ne
   have s9:=RD.same_mut (H:=G) (o := .ins A.zbp dx []) (RD.same_new (o := .own x) ndx) nx
   refine ⟨x,dx,dd,b,rfl,upd_same,hb.same s9,fun H9 hb9 sx9=>⟨rfl,?_⟩⟩
   exact qN b e1 H9 _ hb9 (sG.trans fun c o e=>sx9 c o (s9 c o e) (ne_of_none e nx))
end
end Pf

namespace Pf
open PySem PySem.Spec PyProof.Rows L2
def TapeAt (H:Hp) (a:Addr):Prop:=∃ x y:Int,H a=some (.lst [.int x,.int y])∧0≤x∧0≤y∧y < 2147483647
theorem TapeAt.same {H H':Hp} {a:Addr} (t:TapeAt H a) (s:Same H H'):TapeAt H' a:=by
 obtain ⟨x,y,h,r⟩:=t
 exact ⟨x,y,s _ _ h,r⟩
theorem TapeAt.mk {H:Hp} {a:Addr} {x y:Int} (h : 0≤x) (h1 : 0≤y) (h2:y < 2147483647):TapeAt (upd H a (.lst [.int x,.int y])) a:=⟨x,y,upd_same,h,h1,h2⟩
def sp_l_pick:Sp:=fun vs H Q _=>∃ (a:Addr) (m:Int),vs=[.ref a,.int m]∧TapeAt H a∧0 < m∧m < 1000001 ∧
 ∀ (v:Nat) (H':Hp),(v:Int) < m→TapeAt H' a→SameX a H H'→Q (vn v) H'
theorem pick_end {H:Hp} {a:Addr} {m:Int} {Q:VK} (k:∀ (v:Nat) (H':Hp),(v:Int) < m→TapeAt H' a→SameX a H H'→Q (vn v) H') {z x y:Int} (h0 : 0≤z) (h1:z < m) (hx : 0≤x) (hy : 0≤y) (hy2:y < 2147483647):Q (.int z) (upd H a (.lst [.int x,.int y])):=by
 obtain ⟨v,rfl⟩:=Int.eq_ofNat_of_zero_le h0
 exact k v _ h1 (TapeAt.mk hx hy hy2) (SameX.put (SameX.refl a H))
def sp_l_tape (K:PySem.W.Frag):Sp:=fun vs H Q _=>∃ (a:Addr) (ns:List Int) (k:Nat),vs=[.ref a,vn k]∧SqL K H a (ns.map V.int)∧k < 100 ∧
 ∀ H' p,Same H H'→H p=none→TapeAt H' p→Q (.ref p) H'
section
variable {P:Program} {w:World} {K:PySem.W.Frag} {mg:Str→Option Value} {base:Heap} {A:Ad}
theorem zq6 (T:Txt K mg A):FnOk P w K mg base CX0 1 A.zhy A.zhz ["_law_tape_here", "_law_many"] (sp_l_pick):=by
 refine T.zev.ok zm6 (fun vs H Q E h=>?_) (fun cdv Ar outer s H vs Q E hr h=>?_)
 ·obtain ⟨a,m,rfl,_⟩:=h
  rfl
 ·obtain ⟨a,m,rfl,⟨x,y,hA,hx,hy,hy2⟩,hm,hm2,k⟩:=h
  refine ⟨_,(pss_cons (ps_if (pt_cmpR op_ge (pe_ix (RD.k_ixL (K:=K) rfl) (pv 0) pe_int (fun _ _=>rfl)) (pe_op op_pow pe_int pe_int) (nomark _))
   (pss_cons (ps_set (i:=2) zm6.nd rfl (Or.inl rfl) (pe_op op_mod (pe_callTy RD.k_int (by rfl) T.zcn (by decide +kernel) (pa_cons (pe_ix (RD.k_ixL (K:=K) rfl) (pv 0) pe_int (fun _ _=>rfl)) pa_nil)) (pv 1)))
   (pss_cons (ps_asg (pe_op op_fdiv (pe_ix (RD.k_ixL (K:=K) rfl) (pv 0) pe_int (fun _ _=>rfl)) (pv 1)) (pg_sub (pv 0) pe_int set_list))
   (pss_one (ps_ret (pv 2)))))
   pss_nil)
   (pss_cons (ps_asg (pe_op op_mod (pe_callTy RD.k_int (by rfl) T.zcn (by decide +kernel) (pa_cons (pe_op op_add (pe_op op_add (pe_op op_mul (pe_ix (RD.k_ixL (K:=K) rfl) (pv 0) pe_int (fun _ _=>rfl)) pe_int) (pe_op op_mul (pe_ix (RD.k_ixL (K:=K) rfl) (pv 0) pe_int (fun _ _=>rfl)) pe_int)) pe_int) pa_nil)) pe_int) (pg_sub (pv 0) pe_int set_list))
   (pss_cons (ps_set (i:=3) zm6.nd rfl (Or.inl rfl) (pe_op op_mod (pe_callTy RD.k_int (by rfl) T.zcn (by decide +kernel) (pa_cons (pe_op op_add (pe_op op_add (pe_op op_mul (pe_ix (RD.k_ixL (K:=K) rfl) (pv 0) pe_int (fun _ _=>rfl)) (pe_ix (RD.k_ixL (K:=K) rfl) (pv 0) pe_int (fun _ _=>rfl))) (pe_op op_mul (pe_ix (RD.k_ixL (K:=K) rfl) (pv 0) pe_int (fun _ _=>rfl)) pe_int)) pe_int) pa_nil)) pe_int))
   (pss_one (ps_ret (pe_op op_mod (pe_callTy RD.k_int (by rfl) T.zcn (by decide +kernel) (pa_cons (pe_op op_fdiv (pv 3) pe_int) pa_nil)) (pv 1))))))),?_⟩
  show tSeq _ _ _ [some (.ref a),some (.int m),none,none] H
  walk_at "rd"
  refine RD.ixL (sq hA) rfl ?_
  walk_at "rd"
  refine RD.iC ⟨by decide,by decide,by decide⟩ ?_
  walk_at "rd"
  refine RD.dec (fun hbig=>?_) (fun hsm=>?_)
  ·walk_at "rd"
   refine RD.ixL (sq hA) rfl ?_
   walk_at "rd"
   refine RD.iC hm ?_
   walk_at "rd"
   refine RD.ixL (sq hA) rfl ?_
   walk_at "rd"
   refine RD.iC ⟨hm,by omega⟩ ?_
   walk_at "rd"
   refine RD.setL hA rfl ?_
   walk_at "rd"
   exact pick_end k (Int.emod_nonneg _ (by omega)) (Int.emod_lt_of_pos _ hm) (Int.ediv_nonneg hx (by omega)) hy hy2
  ·have hx18:x < 1000000000000000000:=by
    have e:((10:Int) ^ (18:Int).toNat)=1000000000000000000:=by decide
    rw [e] at hsm
    omega
   walk_at "rd"
   refine RD.ixL (sq hA) rfl ?_
   walk_at "rd"
   refine RD.iC (.inr ⟨by decide,by decide⟩) ?_
   walk_at "rd"
   refine RD.ixL (sq hA) rfl ?_
   walk_at "rd"
   refine RD.iC (.inr ⟨by decide,by decide⟩) ?_
   walk_at "rd"
   refine RD.iC (by decide) ?_
   generalize hy':(y * 48271 + x * 69621 + 11) % 2147483647=y'
   have y0 : 0≤y':=by rw [← hy']; exact Int.emod_nonneg _ (by decide)
   have y1:y' < 2147483647:=by rw [← hy']; exact Int.emod_lt_of_pos _ (by decide)
   walk_at "rd"
   refine RD.setL hA rfl ?_
   have hB:(upd H a (.lst [.int x,.int y'])) a=some (.lst [.int x,.int y']):=upd_same
   walk_at "rd"
   refine RD.ixL (sq hB) rfl ?_
   walk_at "rd"
   refine RD.ixL (sq hB) rfl ?_
   walk_at "rd"
   refine RD.iC (.inl ⟨by omega,by omega⟩) ?_
   walk_at "rd"
   refine RD.ixL (sq hB) rfl ?_
   walk_at "rd"
   refine RD.iC (.inr ⟨by decide,by decide⟩) ?_
   walk_at "rd"
   refine RD.iC (by decide) ?_
   walk_at "rd"
   refine RD.iC ⟨by decide,by decide⟩ ?_
   walk_at "rd"
   refine RD.iC hm ?_
   exact pick_end k (Int.emod_nonneg _ (by omega)) (Int.emod_lt_of_pos _ hm) hx y0 y1
theorem zrg (T:Txt K mg A):FnOk P w K mg base CX0 1 A.zh6 A.zh1 ["_law_script", "_law_k"] (sp_l_tape K):=by
 refine T.zkb.ok zov (fun vs H Q E h=>?_) (fun cdv Ar outer s H vs Q E hr h=>?_)
 ·obtain ⟨a,ns,k,rfl,_⟩:=h
  rfl
 ·obtain ⟨a,ns,k,rfl,hS,hk,q⟩:=h
  refine ⟨_,(pss_cons (ps_set (i:=2) zov.nd rfl (Or.inl rfl) (pe_ifExp (pt_cmpR op_lt (pv 1) (pe_callB (RD.k_len (K:=K) rfl) (by rfl) T.zau (by decide +kernel) (pa_cons (pv 0) pa_nil)) (nomark _)) (pe_ix (RD.k_ixL (K:=K) rfl) (pv 0) (pv 1) (fun _ _=>rfl)) pe_int))
   (pss_one (ps_ret (pe_lst (pa_cons (pe_callB RD.k_abs (by rfl) T.zs2 (by decide +kernel) (pa_cons (pv 2) pa_nil)) (pa_cons (pe_op op_add (pe_op op_mul pe_int (pv 1)) pe_int) pa_nil)))))),?_⟩
  show tSeq _ _ _ [some (.ref a),some (vn k),none] H
  have fin:∀ z:Int,∀ p,H p=none→Q (.ref p) (upd H p (.lst [.int (if z < 0 then -z else z),.int (7919 * (k:Int) + 104729)])):=fun z p np=>by
   refine q _ p (RD.same_new np) np (TapeAt.mk ?_ (by omega) (by omega))
   split <;> omega
  walk_at "rd"
  refine RD.len hS ?_
  rw [List.length_map]
  walk_at "rd"
  refine RD.dec (fun hlt=>?_) (fun hge=>?_)
  ·have hlt:k < ns.length:=by omega
   walk_at "rd"
   refine RD.ixL hS (at_n (v := .int ns[k]) (by rw [List.getElem?_map,List.getElem?_eq_getElem hlt]; rfl)) ?_
   walk_at "rd"
   refine RD.iC (.inl ⟨by decide,by decide⟩) ?_
   walk_at "rd"
   exact ⟨szl (by simp),fun p np=>fin _ p np⟩
  ·walk_at "rd"
   refine RD.iC (.inl ⟨by decide,by decide⟩) ?_
   walk_at "rd"
   exact ⟨szl (by simp),fun p np=>fin 0 p np⟩
end
end Pf

namespace PR
def fEnds:Tx:=tx "let c = a.prev,let d = b.prev,let g = a.face,let u = a.corner,let v = b.corner"
def fJoin:Tx:=tx ",make p q,c.next = p,p.prev = c,p.next = b,b.prev = p" ++ tx ",d.next = q,q.prev = d,q.next = a,a.prev = q"
def fSwap:Tx:=tx ",c.next = b,b.prev = c,d.next = a,a.prev = d"
def fCut:Tx:=tx "let t = a.twin,let c = a.next,let d = a.prev,let e = t.next,let f = t.prev" ++ tx ",let g = a.face,let u = a.corner,let v = t.corner"
def fDrop:Tx:=tx ",d.next = e,e.prev = d,f.next = c,c.prev = f,drop a"
def fSpur:Tx:=tx "let c = a.prev,let g = a.face,let u = a.corner,make p q,c.next = p,p.prev = c" ++ tx ",p.next = q,q.prev = p,q.next = a,a.prev = q,p.face = g,q.face = g"
def fPart:Tx:=tx "let t = a.twin,let b = a.next,let c = t.prev,let g = a.face,let h = t.face" ++ tx ",let v = t.corner,make p q,a.next = p,p.prev = a,if b == t,p.next = q" ++ tx ",q.prev = p,else,p.next = b,b.prev = p,c.next = q,q.prev = c,end" ++ tx ",q.next = t,t.prev = q,p.face = g,q.face = h,new corner m,p.corner = m"
def ftx:List Tx:=[
 tx "given a.face == b.face,given a != b," ++ fEnds++fJoin++tx ",p.face = g,g.some = p,new face f,round q.face = f,f.some = q" ++ tx ",p.corner = u,q.corner = v,tell p",
 tx "given a.face != b.face," ++ fEnds++tx ",let h = b.face" ++ fJoin++tx ",round p.face = g,drop h,p.corner = u,q.corner = v,tell p q",
 tx "given a.face == b.face,given a.corner == b.corner,given a != b," ++ fEnds++fSwap++tx ",g.some = a,new face f,round b.face = f,f.some = b" ++ tx ",u.some = a,new corner w,round b.corner = w,w.some = b",
 tx "given a.face != b.face,given a.corner != b.corner," ++ fEnds++tx ",let h = b.face" ++ fSwap++tx ",round a.face = g,drop h,round a.corner = u,drop v",
 tx "given a.face != a.twin.face,given a.next != a,given a.twin.next != a.twin," ++ fCut++tx ",let h = t.face" ++ fDrop++tx ",round c.face = g,g.some = c,drop h,u.some = e,v.some = c",
 tx "given a.face == a.twin.face,given a.next != a.twin,given a.prev != a.twin," ++ fCut++fDrop++tx ",new face n,round e.face = n,n.some = e" ++ tx ",g.some = c,u.some = e,v.some = c",
 fSpur++tx ",p.corner = u,new corner w,q.corner = w,w.some = q,tell p q",
 fPart++tx ",t.corner = m,m.some = p,q.corner = v,v.some = q,tell p q"]
def flines (c:Nat):List Tx:=sp1 44 (ftx.getD c [])
def fnames (c:Nat):List Tx:=if c < 4 then [tx "a", tx "b"] else [tx "a"]
end PR
namespace Pf
open PySem PySem.Spec PyProof.Rows L2 SX RD PR
def sp_l_frame:Sp:=fun vs H Q _=>∃ c:Nat,vs=[vn c]∧c < 8∧∀ (H':Hp) (p q r:Addr),H p=none→H q=none→H r=none→Same H H'→H' p=some (.lst [.ref q,.ref r])→H' q=some (.lst (vsts (fnames c)))→H' r=some (.lst (vsts (flines c)))→Q (.ref p) H'
section
variable {P:Program} {w:World} {K:PySem.W.Frag} {mg:Str→Option Value} {base:Heap} {A:Ad}
theorem tcom:tx "," = [44]:=by decide +kernel
theorem ftx_len:ftx.all (fun t=>decide (t.length≤1000))=true:=by decide +kernel
theorem zq1 (T:Txt K mg A):FnOk P w K mg base CX0 1 A.zgu A.zgx ["_law_choice"] (sp_l_frame):=by
 refine T.zif.ok zbv (fun vs H Q E h=>?_) (fun cdv Ar outer s H vs Q E hr h=>?_)
 ·obtain ⟨c,rfl,_⟩:=h
  rfl
 ·obtain ⟨c,rfl,hc,q⟩:=h
  refine ⟨_,(pss_cons (ps_set (i:=1) zbv.nd rfl (Or.inl rfl) pe_str)
   (pss_cons (ps_set (i:=2) zbv.nd rfl (Or.inl rfl) pe_str)
   (pss_cons (ps_set (i:=2) zbv.nd rfl (Or.inl rfl) (pe_op RD.k_addS (pv 2) pe_str))
   (pss_cons (ps_set (i:=3) zbv.nd rfl (Or.inl rfl) pe_str)
   (pss_cons (ps_set (i:=4) zbv.nd rfl (Or.inl rfl) pe_str)
   (pss_cons (ps_set (i:=4) zbv.nd rfl (Or.inl rfl) (pe_op RD.k_addS (pv 4) pe_str))
   (pss_cons (ps_set (i:=5) zbv.nd rfl (Or.inl rfl) pe_str)
   (pss_cons (ps_set (i:=6) zbv.nd rfl (Or.inl rfl) pe_str)
   (pss_cons (ps_set (i:=6) zbv.nd rfl (Or.inl rfl) (pe_op RD.k_addS (pv 6) pe_str))
   (RD.pss_cut (ps_set (i:=7) zbv.nd rfl (Or.inl rfl) pe_str)
   (RD.pss_cut (ps_set (i:=7) zbv.nd rfl (Or.inl rfl) (pe_op RD.k_addS (pv 7) pe_str))
   (RD.pss_cut (ps_set (i:=7) zbv.nd rfl (Or.inl rfl) (pe_op RD.k_addS (pv 7) pe_str))
   (RD.pss_cut (ps_set (i:=7) zbv.nd rfl (Or.inl rfl) (pe_op RD.k_addS (pv 7) pe_str))
   (RD.pss_cut (ps_set (i:=8) zbv.nd rfl (Or.inl rfl) (pe_lst (pa_cons (pe_op RD.k_addS (pe_op RD.k_addS pe_str (pv 1)) (pv 2)) pa_nil)))
   (RD.pss_cut (ps_asg (pe_op RD.k_addS (pe_ix (RD.k_ixL (K:=K) rfl) (pv 8) pe_int (fun _ _=>rfl)) pe_str) (pg_sub (pv 8) pe_int set_list))
   (RD.pss_cut (ps_asg (pe_op RD.k_addS (pe_ix (RD.k_ixL (K:=K) rfl) (pv 8) pe_int (fun _ _=>rfl)) pe_str) (pg_sub (pv 8) pe_int set_list))
   (pss_cons (ps_expr (RD.k_bm (K:=K) rfl PySem.F.plainAttrs_list PySem.F.slot_list_append PySem.F.type_list_append mt_append (pv 8) (pa_cons (pe_op RD.k_addS (pe_op RD.k_addS (pe_op RD.k_addS pe_str (pv 1)) pe_str) (pv 2)) pa_nil)))
   (RD.pss_cut (ps_asg (pe_op RD.k_addS (pe_ix (RD.k_ixL (K:=K) rfl) (pv 8) pe_int (fun _ _=>rfl)) pe_str) (pg_sub (pv 8) pe_int set_list))
   (pss_cons (ps_expr (RD.k_bm (K:=K) rfl PySem.F.plainAttrs_list PySem.F.slot_list_append PySem.F.type_list_append mt_append (pv 8) (pa_cons (pe_op RD.k_addS pe_str (pv 1)) pa_nil)))
   (RD.pss_cut (ps_asg (pe_op RD.k_addS (pe_op RD.k_addS (pe_ix (RD.k_ixL (K:=K) rfl) (pv 8) pe_int (fun _ _=>rfl)) (pv 3)) pe_str) (pg_sub (pv 8) pe_int set_list))
   (RD.pss_cut (ps_asg (pe_op RD.k_addS (pe_ix (RD.k_ixL (K:=K) rfl) (pv 8) pe_int (fun _ _=>rfl)) pe_str) (pg_sub (pv 8) pe_int set_list))
   (pss_cons (ps_expr (RD.k_bm (K:=K) rfl PySem.F.plainAttrs_list PySem.F.slot_list_append PySem.F.type_list_append mt_append (pv 8) (pa_cons (pe_op RD.k_addS (pe_op RD.k_addS pe_str (pv 1)) pe_str) pa_nil)))
   (RD.pss_cut (ps_asg (pe_op RD.k_addS (pe_op RD.k_addS (pe_ix (RD.k_ixL (K:=K) rfl) (pv 8) pe_int (fun _ _=>rfl)) (pv 3)) pe_str) (pg_sub (pv 8) pe_int set_list))
   (pss_cons (ps_expr (RD.k_bm (K:=K) rfl PySem.F.plainAttrs_list PySem.F.slot_list_append PySem.F.type_list_append mt_append (pv 8) (pa_cons pe_str pa_nil)))
   (RD.pss_cut (ps_asg (pe_op RD.k_addS (pe_op RD.k_addS (pe_op RD.k_addS (pe_ix (RD.k_ixL (K:=K) rfl) (pv 8) pe_int (fun _ _=>rfl)) (pv 4)) pe_str) (pv 5)) (pg_sub (pv 8) pe_int set_list))
   (RD.pss_cut (ps_asg (pe_op RD.k_addS (pe_ix (RD.k_ixL (K:=K) rfl) (pv 8) pe_int (fun _ _=>rfl)) pe_str) (pg_sub (pv 8) pe_int set_list))
   (pss_cons (ps_expr (RD.k_bm (K:=K) rfl PySem.F.plainAttrs_list PySem.F.slot_list_append PySem.F.type_list_append mt_append (pv 8) (pa_cons pe_str pa_nil)))
   (RD.pss_cut (ps_asg (pe_op RD.k_addS (pe_op RD.k_addS (pe_op RD.k_addS (pe_ix (RD.k_ixL (K:=K) rfl) (pv 8) pe_int (fun _ _=>rfl)) (pv 4)) (pv 5)) pe_str) (pg_sub (pv 8) pe_int set_list))
   (RD.pss_cut (ps_asg (pe_op RD.k_addS (pe_ix (RD.k_ixL (K:=K) rfl) (pv 8) pe_int (fun _ _=>rfl)) pe_str) (pg_sub (pv 8) pe_int set_list))
   (pss_cons (ps_expr (RD.k_bm (K:=K) rfl PySem.F.plainAttrs_list PySem.F.slot_list_append PySem.F.type_list_append mt_append (pv 8) (pa_cons (pe_op RD.k_addS (pv 6) pe_str) pa_nil)))
   (pss_cons (ps_expr (RD.k_bm (K:=K) rfl PySem.F.plainAttrs_list PySem.F.slot_list_append PySem.F.type_list_append mt_append (pv 8) (pa_cons (pe_op RD.k_addS (pv 7) pe_str) pa_nil)))
   (pss_one (ps_ret (pe_lst (pa_cons (pe_ifExp (pt_cmpR op_lt (pv 0) pe_int (nomark _)) (pe_lst (pa_cons pe_str (pa_cons pe_str pa_nil))) (pe_lst (pa_cons pe_str pa_nil))) (pa_cons (RD.k_split (pe_ix (RD.k_ixL (K:=K) rfl) (pv 8) (pv 0) (fun _ _=>rfl)) pe_str) pa_nil)))))))))))))))))))))))))))))))))))),?_⟩
  show tSeq _ _ _ [some (vn c),none,none,none,none,none,none,none,none] H
  walk_at "tx"
  refine RD.cut (fun σ G=>σ = [some (vn c),some (vst fEnds),some (vst fJoin),some (vst fSwap),some (vst fCut),some (vst fDrop),some (vst fSpur),some (vst (tx "let t = a.twin,let b = a.next,let c = t.prev,let g = a.face,let h = t.face")),none]∧H=G) ?_ ?_
  ·walk_at "tx"
   exact ⟨rfl,rfl⟩
  rintro σ G ⟨rfl,rfl⟩
  refine RD.cut (fun σ G=>σ = [some (vn c),some (vst fEnds),some (vst fJoin),some (vst fSwap),some (vst fCut),some (vst fDrop),some (vst fSpur),some (vst (tx "let t = a.twin,let b = a.next,let c = t.prev,let g = a.face,let h = t.face" ++ tx ",let v = t.corner,make p q,a.next = p,p.prev = a,if b == t,p.next = q")),none]∧H=G) ?_ ?_
  ·walk_at "tx"
   exact ⟨rfl,rfl⟩
  rintro σ G ⟨rfl,rfl⟩
  refine RD.cut (fun σ G=>σ = [some (vn c),some (vst fEnds),some (vst fJoin),some (vst fSwap),some (vst fCut),some (vst fDrop),some (vst fSpur),some (vst (tx "let t = a.twin,let b = a.next,let c = t.prev,let g = a.face,let h = t.face" ++ tx ",let v = t.corner,make p q,a.next = p,p.prev = a,if b == t,p.next = q" ++ tx ",q.prev = p,else,p.next = b,b.prev = p,c.next = q,q.prev = c,end")),none]∧H=G) ?_ ?_
  ·walk_at "tx"
   exact ⟨rfl,rfl⟩
  rintro σ G ⟨rfl,rfl⟩
  refine RD.cut (fun σ G=>σ = [some (vn c),some (vst fEnds),some (vst fJoin),some (vst fSwap),some (vst fCut),some (vst fDrop),some (vst fSpur),some (vst (tx "let t = a.twin,let b = a.next,let c = t.prev,let g = a.face,let h = t.face" ++ tx ",let v = t.corner,make p q,a.next = p,p.prev = a,if b == t,p.next = q" ++ tx ",q.prev = p,else,p.next = b,b.prev = p,c.next = q,q.prev = c,end" ++ tx ",q.next = t,t.prev = q,p.face = g,q.face = h,new corner m,p.corner = m")),none]∧H=G) ?_ ?_
  ·walk_at "tx"
   exact ⟨rfl,rfl⟩
  rintro σ G ⟨rfl,rfl⟩
  refine RD.cut (fun σ G=>∃ l,σ = [some (vn c),some (vst fEnds),some (vst fJoin),some (vst fSwap),some (vst fCut),some (vst fDrop),some (vst fSpur),some (vst (fPart)),some (.ref l)]∧H l=none∧Same H G∧G l=some (.lst (vsts [tx "given a.face == b.face,given a != b," ++ fEnds++fJoin]))) ?_ ?_
  ·walk_at "tx"
   exact ⟨few,fun l nl=>by walk_at "tx"; exact ⟨l,rfl,nl,same_new nl,upd_same⟩⟩
  rintro σ G ⟨l,rfl,nl,sG,hl⟩
  refine RD.cut (fun σ G=>∃ l,σ = [some (vn c),some (vst fEnds),some (vst fJoin),some (vst fSwap),some (vst fCut),some (vst fDrop),some (vst fSpur),some (vst (fPart)),some (.ref l)]∧H l=none∧Same H G∧G l=some (.lst (vsts [tx "given a.face == b.face,given a != b," ++ fEnds++fJoin++tx ",p.face = g,g.some = p,new face f,round q.face = f,f.some = q"]))) ?_ ?_
  ·walk_at "tx"
   refine RD.ixL (sq hl) rfl ?_
   walk_at "tx"
   refine RD.setL hl rfl ?_
   walk_at "tx"
   exact ⟨l,rfl,nl,same_but sG nl,upd_same⟩
  rintro σ G ⟨l,rfl,nl,sG,hl⟩
  refine RD.cut (fun σ G=>∃ l,σ = [some (vn c),some (vst fEnds),some (vst fJoin),some (vst fSwap),some (vst fCut),some (vst fDrop),some (vst fSpur),some (vst (fPart)),some (.ref l)]∧H l=none∧Same H G∧G l=some (.lst (vsts [tx "given a.face == b.face,given a != b," ++ fEnds++fJoin++tx ",p.face = g,g.some = p,new face f,round q.face = f,f.some = q" ++ tx ",p.corner = u,q.corner = v,tell p"]))) ?_ ?_
  ·walk_at "tx"
   refine RD.ixL (sq hl) rfl ?_
   walk_at "tx"
   refine RD.setL hl rfl ?_
   walk_at "tx"
   exact ⟨l,rfl,nl,same_but sG nl,upd_same⟩
  rintro σ G ⟨l,rfl,nl,sG,hl⟩
  walk_at "tx"
  refine ⟨RD.tyL (sq hl),?_⟩
  walk_at "tx"
  refine RD.app hl (szt (by simp [vsts])) ?_
  walk_at "tx"
  refine RD.cut (fun σ G=>∃ l,σ = [some (vn c),some (vst fEnds),some (vst fJoin),some (vst fSwap),some (vst fCut),some (vst fDrop),some (vst fSpur),some (vst (fPart)),some (.ref l)]∧H l=none∧Same H G∧G l=some (.lst (vsts [tx "given a.face == b.face,given a != b," ++ fEnds++fJoin++tx ",p.face = g,g.some = p,new face f,round q.face = f,f.some = q" ++ tx ",p.corner = u,q.corner = v,tell p", tx "given a.face != b.face," ++ fEnds++tx ",let h = b.face" ++ fJoin++tx ",round p.face = g,drop h,p.corner = u,q.corner = v,tell p q"]))) ?_ ?_
  ·walk_at "tx"
   refine RD.ixL (sq upd_same) rfl ?_
   walk_at "tx"
   refine RD.setL upd_same rfl ?_
   walk_at "tx"
   exact ⟨l,rfl,nl,same_but (same_but sG nl) nl,upd_same⟩
  rintro σ G ⟨l,rfl,nl,sG,hl⟩
  walk_at "tx"
  refine ⟨RD.tyL (sq hl),?_⟩
  walk_at "tx"
  refine RD.app hl (szt (by simp [vsts])) ?_
  walk_at "tx"
  refine RD.cut (fun σ G=>∃ l,σ = [some (vn c),some (vst fEnds),some (vst fJoin),some (vst fSwap),some (vst fCut),some (vst fDrop),some (vst fSpur),some (vst (fPart)),some (.ref l)]∧H l=none∧Same H G∧G l=some (.lst (vsts [tx "given a.face == b.face,given a != b," ++ fEnds++fJoin++tx ",p.face = g,g.some = p,new face f,round q.face = f,f.some = q" ++ tx ",p.corner = u,q.corner = v,tell p", tx "given a.face != b.face," ++ fEnds++tx ",let h = b.face" ++ fJoin++tx ",round p.face = g,drop h,p.corner = u,q.corner = v,tell p q", tx "given a.face == b.face,given a.corner == b.corner,given a != b," ++ fEnds++fSwap++tx ",g.some = a,new face f,round b.face = f,f.some = b"]))) ?_ ?_
  ·walk_at "tx"
   refine RD.ixL (sq upd_same) rfl ?_
   walk_at "tx"
   refine RD.setL upd_same rfl ?_
   walk_at "tx"
   exact ⟨l,rfl,nl,same_but (same_but sG nl) nl,upd_same⟩
  rintro σ G ⟨l,rfl,nl,sG,hl⟩
  refine RD.cut (fun σ G=>∃ l,σ = [some (vn c),some (vst fEnds),some (vst fJoin),some (vst fSwap),some (vst fCut),some (vst fDrop),some (vst fSpur),some (vst (fPart)),some (.ref l)]∧H l=none∧Same H G∧G l=some (.lst (vsts [tx "given a.face == b.face,given a != b," ++ fEnds++fJoin++tx ",p.face = g,g.some = p,new face f,round q.face = f,f.some = q" ++ tx ",p.corner = u,q.corner = v,tell p", tx "given a.face != b.face," ++ fEnds++tx ",let h = b.face" ++ fJoin++tx ",round p.face = g,drop h,p.corner = u,q.corner = v,tell p q", tx "given a.face == b.face,given a.corner == b.corner,given a != b," ++ fEnds++fSwap++tx ",g.some = a,new face f,round b.face = f,f.some = b" ++ tx ",u.some = a,new corner w,round b.corner = w,w.some = b"]))) ?_ ?_
  ·walk_at "tx"
   refine RD.ixL (sq hl) rfl ?_
   walk_at "tx"
   refine RD.setL hl rfl ?_
   walk_at "tx"
   exact ⟨l,rfl,nl,same_but sG nl,upd_same⟩
  rintro σ G ⟨l,rfl,nl,sG,hl⟩
  walk_at "tx"
  refine ⟨RD.tyL (sq hl),?_⟩
  walk_at "tx"
  refine RD.app hl (szt (by simp [vsts])) ?_
  walk_at "tx"
  refine RD.cut (fun σ G=>∃ l,σ = [some (vn c),some (vst fEnds),some (vst fJoin),some (vst fSwap),some (vst fCut),some (vst fDrop),some (vst fSpur),some (vst (fPart)),some (.ref l)]∧H l=none∧Same H G∧G l=some (.lst (vsts [tx "given a.face == b.face,given a != b," ++ fEnds++fJoin++tx ",p.face = g,g.some = p,new face f,round q.face = f,f.some = q" ++ tx ",p.corner = u,q.corner = v,tell p", tx "given a.face != b.face," ++ fEnds++tx ",let h = b.face" ++ fJoin++tx ",round p.face = g,drop h,p.corner = u,q.corner = v,tell p q", tx "given a.face == b.face,given a.corner == b.corner,given a != b," ++ fEnds++fSwap++tx ",g.some = a,new face f,round b.face = f,f.some = b" ++ tx ",u.some = a,new corner w,round b.corner = w,w.some = b", tx "given a.face != b.face,given a.corner != b.corner," ++ fEnds++tx ",let h = b.face" ++ fSwap++tx ",round a.face = g,drop h,round a.corner = u,drop v"]))) ?_ ?_
  ·walk_at "tx"
   refine RD.ixL (sq upd_same) rfl ?_
   walk_at "tx"
   refine RD.setL upd_same rfl ?_
   walk_at "tx"
   exact ⟨l,rfl,nl,same_but (same_but sG nl) nl,upd_same⟩
  rintro σ G ⟨l,rfl,nl,sG,hl⟩
  walk_at "tx"
  refine ⟨RD.tyL (sq hl),?_⟩
  walk_at "tx"
  refine RD.app hl (szt (by simp [vsts])) ?_
  walk_at "tx"
  refine RD.cut (fun σ G=>∃ l,σ = [some (vn c),some (vst fEnds),some (vst fJoin),some (vst fSwap),some (vst fCut),some (vst fDrop),some (vst fSpur),some (vst (fPart)),some (.ref l)]∧H l=none∧Same H G∧G l=some (.lst (vsts [tx "given a.face == b.face,given a != b," ++ fEnds++fJoin++tx ",p.face = g,g.some = p,new face f,round q.face = f,f.some = q" ++ tx ",p.corner = u,q.corner = v,tell p", tx "given a.face != b.face," ++ fEnds++tx ",let h = b.face" ++ fJoin++tx ",round p.face = g,drop h,p.corner = u,q.corner = v,tell p q", tx "given a.face == b.face,given a.corner == b.corner,given a != b," ++ fEnds++fSwap++tx ",g.some = a,new face f,round b.face = f,f.some = b" ++ tx ",u.some = a,new corner w,round b.corner = w,w.some = b", tx "given a.face != b.face,given a.corner != b.corner," ++ fEnds++tx ",let h = b.face" ++ fSwap++tx ",round a.face = g,drop h,round a.corner = u,drop v", tx "given a.face != a.twin.face,given a.next != a,given a.twin.next != a.twin," ++ fCut++tx ",let h = t.face" ++ fDrop]))) ?_ ?_
  ·walk_at "tx"
   refine RD.ixL (sq upd_same) rfl ?_
   walk_at "tx"
   refine RD.setL upd_same rfl ?_
   walk_at "tx"
   exact ⟨l,rfl,nl,same_but (same_but sG nl) nl,upd_same⟩
  rintro σ G ⟨l,rfl,nl,sG,hl⟩
  refine RD.cut (fun σ G=>∃ l,σ = [some (vn c),some (vst fEnds),some (vst fJoin),some (vst fSwap),some (vst fCut),some (vst fDrop),some (vst fSpur),some (vst (fPart)),some (.ref l)]∧H l=none∧Same H G∧G l=some (.lst (vsts [tx "given a.face == b.face,given a != b," ++ fEnds++fJoin++tx ",p.face = g,g.some = p,new face f,round q.face = f,f.some = q" ++ tx ",p.corner = u,q.corner = v,tell p", tx "given a.face != b.face," ++ fEnds++tx ",let h = b.face" ++ fJoin++tx ",round p.face = g,drop h,p.corner = u,q.corner = v,tell p q", tx "given a.face == b.face,given a.corner == b.corner,given a != b," ++ fEnds++fSwap++tx ",g.some = a,new face f,round b.face = f,f.some = b" ++ tx ",u.some = a,new corner w,round b.corner = w,w.some = b", tx "given a.face != b.face,given a.corner != b.corner," ++ fEnds++tx ",let h = b.face" ++ fSwap++tx ",round a.face = g,drop h,round a.corner = u,drop v", tx "given a.face != a.twin.face,given a.next != a,given a.twin.next != a.twin," ++ fCut++tx ",let h = t.face" ++ fDrop++tx ",round c.face = g,g.some = c,drop h,u.some = e,v.some = c"]))) ?_ ?_
  ·walk_at "tx"
   refine RD.ixL (sq hl) rfl ?_
   walk_at "tx"
   refine RD.setL hl rfl ?_
   walk_at "tx"
   exact ⟨l,rfl,nl,same_but sG nl,upd_same⟩
  rintro σ G ⟨l,rfl,nl,sG,hl⟩
  walk_at "tx"
  refine ⟨RD.tyL (sq hl),?_⟩
  walk_at "tx"
  refine RD.app hl (szt (by simp [vsts])) ?_
  walk_at "tx"
  refine RD.cut (fun σ G=>∃ l,σ = [some (vn c),some (vst fEnds),some (vst fJoin),some (vst fSwap),some (vst fCut),some (vst fDrop),some (vst fSpur),some (vst (fPart)),some (.ref l)]∧H l=none∧Same H G∧G l=some (.lst (vsts [tx "given a.face == b.face,given a != b," ++ fEnds++fJoin++tx ",p.face = g,g.some = p,new face f,round q.face = f,f.some = q" ++ tx ",p.corner = u,q.corner = v,tell p", tx "given a.face != b.face," ++ fEnds++tx ",let h = b.face" ++ fJoin++tx ",round p.face = g,drop h,p.corner = u,q.corner = v,tell p q", tx "given a.face == b.face,given a.corner == b.corner,given a != b," ++ fEnds++fSwap++tx ",g.some = a,new face f,round b.face = f,f.some = b" ++ tx ",u.some = a,new corner w,round b.corner = w,w.some = b", tx "given a.face != b.face,given a.corner != b.corner," ++ fEnds++tx ",let h = b.face" ++ fSwap++tx ",round a.face = g,drop h,round a.corner = u,drop v", tx "given a.face != a.twin.face,given a.next != a,given a.twin.next != a.twin," ++ fCut++tx ",let h = t.face" ++ fDrop++tx ",round c.face = g,g.some = c,drop h,u.some = e,v.some = c", tx "given a.face == a.twin.face,given a.next != a.twin,given a.prev != a.twin," ++ fCut++fDrop++tx ",new face n,round e.face = n,n.some = e"]))) ?_ ?_
  ·walk_at "tx"
   refine RD.ixL (sq upd_same) rfl ?_
   walk_at "tx"
   refine RD.setL upd_same rfl ?_
   walk_at "tx"
   exact ⟨l,rfl,nl,same_but (same_but sG nl) nl,upd_same⟩
  rintro σ G ⟨l,rfl,nl,sG,hl⟩
  refine RD.cut (fun σ G=>∃ l,σ = [some (vn c),some (vst fEnds),some (vst fJoin),some (vst fSwap),some (vst fCut),some (vst fDrop),some (vst fSpur),some (vst (fPart)),some (.ref l)]∧H l=none∧Same H G∧G l=some (.lst (vsts [tx "given a.face == b.face,given a != b," ++ fEnds++fJoin++tx ",p.face = g,g.some = p,new face f,round q.face = f,f.some = q" ++ tx ",p.corner = u,q.corner = v,tell p", tx "given a.face != b.face," ++ fEnds++tx ",let h = b.face" ++ fJoin++tx ",round p.face = g,drop h,p.corner = u,q.corner = v,tell p q", tx "given a.face == b.face,given a.corner == b.corner,given a != b," ++ fEnds++fSwap++tx ",g.some = a,new face f,round b.face = f,f.some = b" ++ tx ",u.some = a,new corner w,round b.corner = w,w.some = b", tx "given a.face != b.face,given a.corner != b.corner," ++ fEnds++tx ",let h = b.face" ++ fSwap++tx ",round a.face = g,drop h,round a.corner = u,drop v", tx "given a.face != a.twin.face,given a.next != a,given a.twin.next != a.twin," ++ fCut++tx ",let h = t.face" ++ fDrop++tx ",round c.face = g,g.some = c,drop h,u.some = e,v.some = c", tx "given a.face == a.twin.face,given a.next != a.twin,given a.prev != a.twin," ++ fCut++fDrop++tx ",new face n,round e.face = n,n.some = e" ++ tx ",g.some = c,u.some = e,v.some = c"]))) ?_ ?_
  ·walk_at "tx"
   refine RD.ixL (sq hl) rfl ?_
   walk_at "tx"
   refine RD.setL hl rfl ?_
   walk_at "tx"
   exact ⟨l,rfl,nl,same_but sG nl,upd_same⟩
  rintro σ G ⟨l,rfl,nl,sG,hl⟩
  walk_at "tx"
  refine ⟨RD.tyL (sq hl),?_⟩
  walk_at "tx"
  refine RD.app hl (szt (by simp [vsts])) ?_
  walk_at "tx"
  refine ⟨RD.tyL (sq upd_same),?_⟩
  walk_at "tx"
  refine RD.app upd_same (szt (by simp [vsts])) ?_
  walk_at "tx"
  rw [upd_upd]
  generalize hX:upd G l (HO.lst _)=G2
  have sG2:Same H G2:=by rw [← hX]; exact same_but sG nl
  have hl2:G2 l=some (.lst (vsts ftx)):=by rw [← hX]; exact upd_same
  clear hX
  have hlt:c < ftx.length:=hc
  have hi:ftx[c]? = some (ftx.getD c []):=by rw [List.getD_eq_getElem?_getD,List.getElem?_eq_getElem hlt]; rfl
  have hb:(ftx.getD c []).length≤1000:=of_decide_eq_true (List.all_eq_true.mp ftx_len _ (List.mem_of_getElem? hi))
  have go:∀ (q1:Addr) (G3:Hp),G2 q1=none→Same G2 G3→G3 q1=some (.lst (vsts (fnames c)))→tCons (tM1 rSplit (tOp (rIxL K) (tVar 8) (tVar 0)) (tC (.str (Str.ofString ",")))) tNil [some (vn c),some (vst fEnds),some (vst fJoin),some (vst fSwap),some (vst fCut),some (vst fDrop),some (vst fSpur),some (vst fPart),some (.ref l)] G3 fun xs H2=>(V.ref q1 :: xs).length≤sizeLine∧∀ p,H2 p=none→Q (.ref p) (upd H2 p (.lst (V.ref q1 :: xs))):=by
   intro q1 G3 n1 s3 h3
   walk_at "rd"
   refine RD.ixV (sq (s3 _ _ hl2)) hi ?_
   refine ⟨⟨_,rfl⟩,?_⟩
   walk_at "rd"
   rw [tcom]
   refine RD.splt (by decide) (by omega) fun r nr=>?_
   walk_at "rd"
   refine ⟨few,fun p np=>?_⟩
   have t1:=same_new (o := .lst (vsts (TL.spl [44] 0 [] (ftx.getD c [])))) nr
   have t2:=same_new (o := .lst [V.ref q1,V.ref r]) np
   refine q _ p q1 r ((sG2.trans (s3.trans t1)).free np) (sG2.free n1) ((sG2.trans s3).free nr) (((sG2.trans s3).trans t1).trans t2) upd_same ((t1.trans t2) _ _ h3) (t2 _ _ ?_)
   rw [upd_same]
   have:TL.spl [44] 0 [] (ftx.getD c [])=flines c:=spc_sp1 44 _
   rw [this]
  refine RD.dec (fun h4=>?_) (fun h4=>?_)
  ·walk_at "rd"
   refine ⟨few,fun q1 n1=>?_⟩
   refine go q1 _ n1 (same_new n1) ?_
   rw [upd_same]
   unfold fnames
   rw [if_pos (by omega)]
   rfl
  ·walk_at "rd"
   refine ⟨few,fun q1 n1=>?_⟩
   refine go q1 _ n1 (same_new n1) ?_
   rw [upd_same]
   unfold fnames
   rw [if_neg (by omega)]
   rfl
end
end Pf

namespace PR
open RD
def shE (o:Nat):Err→Err
 | .bad n => .bad (o + n)
 | .unk n x => .unk (o + n) x
 | .knd n x => .knd (o + n) x
def shX {α : Type} (o:Nat):Except Err α→Except Err α
 | .ok a => .ok a
 | .error e => .error (shE o e)
theorem check_sh {sc:List Scope} {o m:Nat}:∀ {us:List (Tx × Tx)},check sc (o + m) us=(check sc m us).map (shE o)
 | []=>rfl
 | u :: us=>by
  have ih:=check_sh (sc:=sc) (o:=o) (m:=m) (us:=us)
  unfold check
  cases kindOf sc u.1 with
  | none=>rfl
  | some k =>
   simp only
   split
   ·exact ih
   ·rfl
theorem line_sh {r:Rdr} {n off at_:Nat} {l:Tx}:readLine r n off at_ l=shX off (readLine r n 0 at_ l):=by
 unfold readLine
 cases formOf l with
 | none=>simp [shX,shE,Nat.add_assoc]
 | some f =>
  simp only
  by_cases c:(decide (60 < at_) || (!f.good || (!mayStand r n at_ f.stm || !isFree r.scopes f)))=true
  ·rw [if_pos c,if_pos c]
   simp [shX,shE,Nat.add_assoc]
  ·rw [if_neg c,if_neg c]
   have e:off + at_ + 1=off + (0 + at_ + 1):=by omega
   rw [e,check_sh]
   cases check r.scopes (0 + at_ + 1) f.uses with
   | some e=>rfl
   | none =>
    simp only [Option.map_none]
    by_cases d:isDropH r.lab (resolve r.scopes f.stm)=true
    ·rw [if_pos d,if_pos d]; rfl
    ·rw [if_neg d,if_neg d]; rfl
theorem lines_sh {n off:Nat}:∀ {ls:List Tx} {at_:Nat} {r:Rdr},readLines n off at_ r ls=shX off (readLines n 0 at_ r ls)
 | [],_,_=>rfl
 | l :: ls,at_,r=>by
  rw [readLines,readLines,line_sh]
  cases readLine r n 0 at_ l with
  | error e=>rfl
  | ok r2=>exact lines_sh
theorem read_sh {ls:List Tx} {off:Nat}:read ls off=shX off (read ls 0):=by
 cases ls with
 | nil=>simp [read,shX,shE]
 | cons l ls =>
  unfold read
  dsimp only
  cases firstL l (tx "routine") with
  | none=>simp [shX,shE]
  | some names =>
   dsimp only
   rw [lines_sh]
   cases readLines (l :: ls).length 0 1 ⟨[.rout],[],false,[(names.drop 1).map fun x=>(x,half)]⟩ ls with
   | error e=>rfl
   | ok r =>
    simp only [shX]
    by_cases c:r.blocks.isEmpty=true
    ·rw [if_pos c,if_pos c]
    ·rw [if_neg c,if_neg c]
     simp [shE,Nat.add_assoc]
theorem callErr_sh {b:Bk} {o m:Nat} (s:Stm):callErr b (o + m) s=(callErr b m s).map (shE o):=by
 cases s with
 | call x hs nw =>
  show chkCall b (o + m) x hs nw=(chkCall b m x hs nw).map (shE o)
  unfold chkCall
  cases look b x with
  | none=>rfl
  | some d =>
   simp only
   split
   ·rfl
   ·split <;> rfl
 | _=>rfl
theorem sline_sh {b:Bk} {s:Sdr} {n off at_:Nat} {l:Tx}:sreadLine b s n off at_ l=shX off (sreadLine b s n 0 at_ l):=by
 have e:off + at_ + 1=off + (0 + at_ + 1):=by omega
 unfold sreadLine
 cases scriptForm l with
 | none=>simp [shX,shE,Nat.add_assoc]
 | some f =>
  dsimp only
  rw [e]
  by_cases c1:(decide (20 < at_) || (!f.good || !isFree [s.scope] f))=true
  ·rw [if_pos c1,if_pos c1]; rfl
  rw [if_neg c1,if_neg c1]
  by_cases c2:(isGiv f.stm && !lastFree s.stms)=true
  ·rw [if_pos c2,if_pos c2]; rfl
  rw [if_neg c2,if_neg c2]
  by_cases c3:(isTell f.stm && decide (at_ + 1 < n))=true
  ·rw [if_pos c3,if_pos c3]; rfl
  rw [if_neg c3,if_neg c3,callErr_sh]
  cases callErr b (0 + at_ + 1) f.stm with
  | some e=>rfl
  | none =>
   simp only [Option.map_none]
   rw [check_sh]
   cases check [s.scope] (0 + at_ + 1) f.uses with
   | some e=>rfl
   | none=>rfl
theorem slines_sh {b:Bk} {n off:Nat}:∀ {ls:List Tx} {at_:Nat} {s:Sdr},sreadLines b n off at_ s ls=shX off (sreadLines b n 0 at_ s ls)
 | [],_,_=>rfl
 | l :: ls,at_,s=>by
  rw [sreadLines,sreadLines,sline_sh]
  cases sreadLine b s n 0 at_ l with
  | error e=>rfl
  | ok r2=>exact slines_sh
theorem sread_sh {b:Bk} {ls:List Tx} {off:Nat}:sread b ls off=shX off (sread b ls 0):=by
 cases ls with
 | nil=>simp [sread,shX,shE]
 | cons l ls =>
  unfold sread
  dsimp only
  cases firstL l (tx "script") with
  | none=>simp [shX,shE]
  | some names =>
   dsimp only
   rw [slines_sh]
   cases sreadLines b (l :: ls).length 0 1 ⟨[.scr],(names.drop 1).map fun x=>(x,half)⟩ ls with
   | error e=>rfl
   | ok r=>rfl
theorem readD_sh {b:Bk} {ls:List Tx} {off:Nat}:readD b ls off=shX off (readD b ls 0):=by
 unfold readD
 by_cases c:(ls.headD []).take 7=tx "script "
 ·rw [if_pos c,if_pos c]
  exact sread_sh
 ·rw [if_neg c,if_neg c,read_sh]
  cases read ls 0 <;> rfl
theorem shE_zero:∀ e,shE 0 e=e
 | .bad n=>by simp [shE]
 | .unk n x=>by simp [shE]
 | .knd n x=>by simp [shE]
def Alk (b c:Bk):Prop:=∀ x,(look b x).map (fun d=>(d.script,(d.t.names.drop 1).length,d.t.told.length))=(look c x).map (fun d=>(d.script,(d.t.names.drop 1).length,d.t.told.length))
theorem chk_alk {b c:Bk} (h:Alk b c) (n:Nat) (x:Tx) (hs nw:List Tx):chkCall b n x hs nw=chkCall c n x hs nw:=by
 have hx:=h x
 unfold chkCall
 cases e1:look b x with
 | none =>
  rw [e1] at hx
  cases e2:look c x with
  | none=>rfl
  | some d=>rw [e2] at hx; cases hx
 | some d =>
  rw [e1] at hx
  cases e2:look c x with
  | none=>rw [e2] at hx; cases hx
  | some d2 =>
   rw [e2] at hx
   simp only [Option.map_some,Option.some.injEq,Prod.mk.injEq] at hx
   simp only
   rw [hx.1,hx.2.1,hx.2.2]
theorem sline_alk {b c:Bk} (h:Alk b c) {s:Sdr} {n off at_:Nat} {l:Tx}:sreadLine b s n off at_ l=sreadLine c s n off at_ l:=by
 unfold sreadLine
 cases scriptForm l with
 | none=>rfl
 | some f =>
  have e:callErr b (off + at_ + 1) f.stm=callErr c (off + at_ + 1) f.stm:=by
   cases f.stm with
   | call x hs nw=>exact chk_alk h _ _ _ _
   | _=>rfl
  simp only [e]
theorem slines_alk {b c:Bk} (h:Alk b c) {n off:Nat}:∀ {ls:List Tx} {at_:Nat} {s:Sdr},sreadLines b n off at_ s ls=sreadLines c n off at_ s ls
 | [],_,_=>rfl
 | l :: ls,at_,s=>by
  rw [sreadLines,sreadLines,sline_alk h]
  cases sreadLine c s n off at_ l with
  | error e=>rfl
  | ok r=>exact slines_alk h
theorem sline_n {b:Bk} {s:Sdr} {n m off at_:Nat} {l:Tx} (h:∀ f,scriptForm l=some f→isTell f.stm=false∨(at_ + 1 < n∧at_ + 1 < m)):sreadLine b s n off at_ l=sreadLine b s m off at_ l:=by
 unfold sreadLine
 cases e:scriptForm l with
 | none=>rfl
 | some f =>
  dsimp only
  have:(isTell f.stm && decide (at_ + 1 < n))=(isTell f.stm && decide (at_ + 1 < m)):=by
   rcases h f e with z | ⟨z1,z2⟩
   ·rw [z]; rfl
   ·rw [decide_eq_true z1,decide_eq_true z2]
  rw [this]
end PR

namespace PR
open RD
def tellW53 (k:Nat):List Tx:=match spc 32 ((flines k).getLastD []) with
 | h :: ws=>if h=tx "tell" then ws else []
 | []=>[]
def put53 (L:List Tx) (a:Nat) (l:Tx):List Tx:=L.take a++[l]++L.drop a
def sub53 (L:List Tx) (a:Nat) (l:Tx):List Tx:=L.take a++[l]++L.drop (a + 1)
def isTell5 (l:Tx):Nat:=if l.take 5=tx "tell " then 1 else 0
def wrong6:List Tx:=["script s", "script s a b c d", "script s a a", "script S a b", "scripts s a b", "script  s a b", "script s a.next b", "script s let b", "routine s", "script s a b a"].map tx
def inBook (L:List Tx) (s2 s3 c k:Nat):List Tx × Err :=
 if c=0 then (if k % 2=0 then ([] :: L,.bad 1) else (L++[[]],.bad (L.length + 1)))
 else if c=1 then (put53 L (if k % 2=0 then s2 else s3) [],.bad (if k % 2=0 then s2 else s3))
 else if c=2 then (L.take (s2 - 1)++(if k % 2=1 then [tx " "] else [])++L.drop s2,.bad (s2 - isTell5 (L.getD (s2 - 2) [])))
 else if c=3 then
  let a:=if k % 2=0 then s2 else s3
  (sub53 L a (jn 32 ((spc 32 (L.getD a [])).set 1 (if k % 2=0 then tx "r0" else if k / 2 % 2=0 then tx "r0" else tx "r1"))),.bad (a + 1))
 else
  let f:=if k / 2 % 2=0 then 0 else s2
  let b:=if k / 2 % 2=0 then s2 else s3
  if c=4 then
   let a:=f + 1 + k / 4 % (b - f - 2)
   (sub53 L a (L.getD a []++tx " "),.bad (a + 1))
  else if c=5 then
   let l:=b - 1 - isTell5 (L.getD (b - 2) [])
   if k / 4 % 3=1 then (L.take l++[tx "tell zz"]++L.drop (b - 1),.unk (l + 1) (tx "zz"))
   else if k / 4 % 3=2 then (L.take l++[tx "tell g"]++L.drop (b - 1),.knd (l + 1) (tx "g"))
   else (L.take l++[tx "if a == a"]++L.drop (b - 1),.bad (l + 2))
  else if c=6 then (sub53 L s3 (wrong6.getD (k % 10) []),.bad (s3 + 1))
  else ([[]],.bad 1)
def below (L:List Tx) (c:Nat):List Tx × Err :=
 if c=18 then (L++[[],tx "script t a b", tx "call s a b"],.unk (L.length + 3) (tx "s"))
 else (L++[[],tx "script t a b", tx "call r2 a", [],tx "routine r2 a", tx "drop a"],.unk (L.length + 3) (tx "r2"))
def wrong8:List Tx:=["make p q", "let f = a.face", "a.next = b", "if a == b", "drop a", "new face f", "end", "call", "call = r0 a", "call r0", "calls r0 a b", "let x = a.", "call r0.next a b", "a = b", "call x = y = r0 a b"].map tx
def more15 (cl:Tx):List Tx:=[tx "call x1 x2 x3 x4 = " ++ cl,tx "call x1 x1 = " ++ cl,tx "call a = " ++ cl,tx "call next = " ++ cl,tx "call 9x = " ++ cl,tx "call = " ++ cl,tx "let b = a", tx "call a = zz b", tx "call r0 abcdefghi"]
def inScript (L:List Tx) (st c k:Nat) (cl:Tx) (hs:List Tx):List Tx × Err :=
 let last:=L.length
 let a:=st + 2
 if c=8 then (put53 L a (wrong8.getD (k % 15) []),.bad (a + 1))
 else if c=9 then (if k % 2=1 then (put53 L (a - 1) (tx "given a != zz"),.unk a (tx "zz")) else (put53 L a (tx "given a == b"),.bad (a + 1)))
 else if c=10 then (put53 L a (tx "tell a"),.bad (a + 1))
 else if c=11 then (L.take a++(List.range (21 - (last - st - 1))).map (fun j=>tx "let x" ++ TL.numL j++tx " = a.twin")++L.drop a,.bad (st + 22))
 else if c < 14 then
  let n:=(["zz", "s", "r2", "next", "9a"].map tx).getD (k % 5) []
  (put53 L a (tx "call " ++ n++tx " a b"),.unk (a + 1) n)
 else if c=14 then
  let m:=if k % 3=0 then hs++[tx "a"] else if k % 3=1 then hs.drop 1++[tx "zz", tx "b"] else if hs.length=2 then [tx "zz"] else [tx "zz", tx "zz"]
  (put53 L a (tx "call r0 " ++ jn 32 m),.bad (a + 1))
 else if c=15 then (put53 L a ((more15 cl).getD (k % 9) []),.bad (a + 1))
 else
  let n:=(["zz", "x1", "twin", "9a"].map tx).getD (k % 4) []
  let f:=if k / 4 % 3=0 then tx "call r0 " ++ jn 32 (n :: hs.drop 1) else if k / 4 % 3=1 then tx "let y = " ++ n++tx ".next" else tx "call " ++ n++tx " zz9"
  if c=16 then (put53 L a f,.unk (a + 1) n)
  else if c=17 then (L++[tx "tell a " ++ n],.unk (last + 1) n)
  else below L c
def rP (i k:Nat):List Tx:=jn 32 (tx "routine" :: (tx "r" ++ TL.numL i) :: fnames k) :: flines k
def callL (hs:List Tx):Tx:=tx "r0 " ++ jn 32 hs
def sP (d1:Nat) (hs:List Tx) (e:Nat):List Tx:=[tx "script s a b", tx "let c = a.twin", tx "call " ++ callL hs,tx "call r1 " ++ jn 32 (fnames d1)]++List.replicate e (tx "call " ++ callL hs)
def lines53 (d0 d1:Nat) (hs:List Tx) (e:Nat):List Tx:=rP 0 d0++[[]]++(rP 1 d1++[[]])++sP d1 hs e
def errL:Err→Nat
 | .bad n=>n
 | .unk n _=>n
 | .knd n _=>n
def s2of (d0:Nat):Nat:=(rP 0 d0).length + 1
def s3of (d0 d1:Nat):Nat:=(rP 0 d0).length + 1 + ((rP 1 d1).length + 1)
def spoil53 (d0 d1:Nat) (hs:List Tx) (e c k:Nat):List Tx × Option Err :=
 let L:=lines53 d0 d1 hs e
 if c < 8 then ((inBook L (s2of d0) (s3of d0 d1) c k).1,some (inBook L (s2of d0) (s3of d0 d1) c k).2)
 else if c < 20 then ((inScript L (s3of d0 d1) c k (callL hs) hs).1,some (inScript L (s3of d0 d1) c k (callL hs) hs).2)
 else if c < 22 then
  if c=21∧(jn 32 ((flines d0).drop ((flines d0).length - 1))).take 7=tx "tell p " ∧ k % 2=0 then
   (put53 L (s3of d0 d1 + 1) (tx "call x1 = " ++ callL hs),some (.bad (s3of d0 d1 + 2)))
  else (L++[[],if k % 2=0 then tx "script s a" else tx "routine s a"],some (.bad (L.length + 2)))
 else (L,none)
def both53 (r:List Tx × Option Err) (b:Bool):List Tx:=match r.2 with
 | none=>r.1
 | some e=>if b=true∧errL e < r.1.length then r.1.take (r.1.length - 1)++[r.1.getD (r.1.length - 1) []++tx " "] else r.1
def res53 (t:Tx):Option Err ⊕ Nat:=match readBook t with
 | .ok b => .inr b.length
 | .error e => .inl (some e)
def ok53 (d0 d1:Nat) (hs:List Tx) (e c k:Nat) (b:Bool):Bool :=
 let r:=spoil53 d0 d1 hs e c k
 match res53 (jn 10 (both53 r b)),r.2 with
 | .inr n,none=>n == 3
 | .inl (some (.bad n)),some (.bad m)=>n == m
 | .inl (some (.unk n x)),some (.unk m y)=>n == m && decide (x=y)
 | .inl (some (.knd n x)),some (.knd m y)=>n == m && decide (x=y)
 | _,_=>false
end PR

namespace PR
open RD
theorem full_ne {l:Tx} (h:l ≠ []):full l=true:=by
 cases l with
 | nil=>exact absurd rfl h
 | cons a r=>rfl
def NoE (t:List Tx):Prop:=∀ l∈t,l ≠ []
theorem body_cut:∀ {t r:List Tx},NoE t→body (t++[] :: r)=t
 | [],r,_=>rfl
 | l :: t,r,h=>by
  show List.takeWhile full (l :: (t++[] :: r))=_
  rw [List.takeWhile_cons,if_pos (full_ne (h l List.mem_cons_self))]
  congr 1
  exact body_cut fun l hl=>h l (List.mem_cons_of_mem _ hl)
theorem body_all:∀ {t:List Tx},NoE t→body t=t
 | [],_=>rfl
 | l :: t,h=>by
  show List.takeWhile full (l :: t)=_
  rw [List.takeWhile_cons,if_pos (full_ne (h l List.mem_cons_self))]
  congr 1
  exact body_all fun l hl=>h l (List.mem_cons_of_mem _ hl)
theorem b_empty {n st:Nat} {b:Bk} {r:List Tx}:readB (n + 1) b st ([] :: r) = .error (.bad (st + 1)):=by
 rw [readB,if_pos rfl]
theorem b_title {n st:Nat} {b:Bk} {l:Tx} {r:List Tx} (h:l ≠ []) (ht:titleIn b l=true):readB (n + 1) b st (l :: r) = .error (.bad (st + 1)):=by
 rw [readB,if_neg h,if_pos ht]
theorem b_err {n st:Nat} {b:Bk} {t r:List Tx} {e:Err} (h0:t ≠ []) (h:NoE t) (ht:titleIn b (t.headD [])=false) (he:readD b t 0 = .error e) (hr:r=[]∨∃ q,r=[] :: q):readB (n + 1) b st (t++r) = .error (shE st e):=by
 have hb:body (t++r)=t:=by
  rcases hr with rfl | ⟨q,rfl⟩
  ·rw [List.append_nil]; exact body_all h
  ·exact body_cut h
 match t,h0 with
 | l :: t,_ =>
  have ht:titleIn b l=false:=ht
  rw [List.cons_append] at hb ⊢
  rw [readB,if_neg (h l List.mem_cons_self),if_neg (by rw [ht]; decide),hb,readD_sh,he]
  rfl
theorem b_more {n st:Nat} {b:Bk} {t r:List Tx} {x:Tx} {d:Dd} (h0:t ≠ []) (h:NoE t) (hx:x ≠ []) (ht:titleIn b (t.headD [])=false) (hd:readD b t 0 = .ok d):readB (n + 1) b st (t++[] :: x :: r)=readB n (b++[(d.t.names.headD [],d)]) (st + t.length + 1) (x :: r):=by
 have hb:=body_cut (r:=x :: r) h
 match t,h0 with
 | l :: t,_ =>
  have ht:titleIn b l=false:=ht
  rw [List.cons_append] at hb ⊢
  have hdr:(l :: (t++[] :: x :: r)).drop (l :: t).length=[] :: x :: r:=by
   rw [← List.cons_append]
   exact List.drop_left
  rw [readB,if_neg (h l List.mem_cons_self),if_neg (by rw [ht]; decide),hb,readD_sh,hd]
  simp only [shX]
  rw [hdr,if_neg]
  ·rfl
  ·cases x with
   | nil=>exact absurd rfl hx
   | cons a x=>simp [gap2]
theorem b_last {n st:Nat} {b:Bk} {t:List Tx} {d:Dd} (h0:t ≠ []) (h:NoE t) (ht:titleIn b (t.headD [])=false) (hd:readD b t 0 = .ok d):readB (n + 1) b st t = .ok (b++[(d.t.names.headD [],d)]):=by
 have hb:=body_all h
 match t,h0 with
 | l :: r,_ =>
  have ht:titleIn b l=false:=ht
  rw [readB,if_neg (h l List.mem_cons_self),if_neg (by rw [ht]; decide),hb,readD_sh,hd]
  simp only [shX,List.drop_length]
  rw [if_neg (by decide)]
  cases n <;> rfl
theorem b_gap {n st:Nat} {b:Bk} {t r:List Tx} {d:Dd} (h0:t ≠ []) (h:NoE t) (ht:titleIn b (t.headD [])=false) (hd:readD b t 0 = .ok d) (hr:r=[]∨∃ q,r=[] :: q):readB (n + 1) b st (t++[] :: r) = .error (.bad (st + t.length + 1)):=by
 have hb:=body_cut (r:=r) h
 match t,h0 with
 | l :: t,_ =>
  have ht:titleIn b l=false:=ht
  rw [List.cons_append] at hb ⊢
  have hdr:(l :: (t++[] :: r)).drop (l :: t).length=[] :: r:=by
   rw [← List.cons_append]
   exact List.drop_left
  rw [readB,if_neg (h l List.mem_cons_self),if_neg (by rw [ht]; decide),hb,readD_sh,hd]
  simp only [shX]
  rw [hdr,if_pos]
  rcases hr with rfl | ⟨q,rfl⟩ <;> simp [gap2]
def rdOk (i k:Nat):Bool:=match PR.read (rP i k) 0 with
 | .ok t=>decide (t.names=(tx "r" ++ TL.numL i) :: fnames k) && (decide (t.told=tellW53 k) && ((rP i k).all (fun l=>!l.isEmpty && (!decide (10∈l))) && (!decide (((rP i k).headD []).take 7=tx "script ") && decide ((spc 32 ((rP i k).headD []))[1]? = some (tx "r" ++ TL.numL i)))))
 | .error _=>false
theorem rd_all:∀ i,i < 2→∀ k,k < 8→rdOk i k=true:=by decide +kernel
structure RdI (i k:Nat):Prop where
 rd:∃ t,PR.read (rP i k) 0 = .ok t∧t.names=(tx "r" ++ TL.numL i) :: fnames k∧t.told=tellW53 k
 ne:NoE (rP i k)
 nl:∀ l∈rP i k,10 ∉ l
 hd:((rP i k).headD []).take 7 ≠ tx "script "
 tt:(spc 32 ((rP i k).headD []))[1]? = some (tx "r" ++ TL.numL i)
theorem rd_i {i k:Nat} (hi:i < 2) (hk:k < 8):RdI i k:=by
 have h:=rd_all i hi k hk
 unfold rdOk at h
 cases e:PR.read (rP i k) 0 with
 | error z=>rw [e] at h; cases h
 | ok t =>
  rw [e] at h
  simp only [Bool.and_eq_true,decide_eq_true_eq,List.all_eq_true,Bool.not_eq_true',decide_eq_false_iff_not] at h
  have hne:NoE (rP i k):=fun l hl z=>by
   have:=(h.2.2.1 l hl).1
   rw [z] at this
   cases this
  exact ⟨⟨t,e,h.1,h.2.1⟩,hne,fun l hl=>(h.2.2.1 l hl).2,h.2.2.2.1,h.2.2.2.2⟩
end PR

namespace PR
open RD
def bcl (d0 d1:Nat):Bk:=[(tx "r0", ⟨false,⟨tx "r0" :: fnames d0,tellW53 d0,[],[]⟩,[]⟩),(tx "r1", ⟨false,⟨tx "r1" :: fnames d1,tellW53 d1,[],[]⟩,[]⟩)]
theorem r0_eq:tx "r" ++ TL.numL 0=tx "r0" := by decide +kernel
theorem r1_eq:tx "r" ++ TL.numL 1=tx "r1" := by decide +kernel
theorem r01:tx "r0" ≠ tx "r1" := by decide +kernel
theorem look_cons {n x:Tx} {d:Dd} {b:Bk}:look ((n,d) :: b) x=if n=x then some d else look b x:=by
 unfold look
 by_cases h:n=x
 ·rw [List.find?_cons_of_pos (by simpa using h),if_pos h]; rfl
 ·rw [List.find?_cons_of_neg (by simpa using h),if_neg h]
theorem look_nil {x:Tx}:look [] x=none:=rfl
theorem alk2 {d0 d1:Nat} {t0 t1:Rt} (n0:t0.names=tx "r0" :: fnames d0) (n1:t1.names=tx "r1" :: fnames d1) (w0:t0.told=tellW53 d0) (w1:t1.told=tellW53 d1):Alk [(tx "r0", ⟨false,t0,[]⟩),(tx "r1", ⟨false,t1,[]⟩)] (bcl d0 d1):=by
 intro x
 unfold bcl
 simp only [look_cons,look_nil]
 split
 ·simp [n0,w0]
 ·split
  ·simp [n1,w1]
  ·rfl
def serr (b:Bk) (ls:List Tx):Option Err:=match sread b ls 0 with
 | .error e=>some e
 | .ok _=>none
theorem serr_alk {b c:Bk} (h:Alk b c) {ls:List Tx}:serr b ls=serr c ls:=by
 unfold serr sread
 cases ls with
 | nil=>rfl
 | cons l ls =>
  dsimp only
  cases firstL l (tx "script") with
  | none=>rfl
  | some names =>
   dsimp only
   rw [slines_alk h]
   cases sreadLines c (l :: ls).length 0 1 ⟨[.scr],(names.drop 1).map fun x=>(x,half)⟩ ls with
   | error e=>rfl
   | ok s=>rfl
theorem serr_readD {b:Bk} {ls:List Tx} (h:(ls.headD []).take 7=tx "script "):(∀ e,serr b ls=some e→readD b ls 0 = .error e)∧(serr b ls=none→∃ d,readD b ls 0 = .ok d∧d.script=true):=by
 unfold readD serr
 rw [if_pos h]
 refine ⟨fun e he=>?_,fun he=>?_⟩
 ·cases z:sread b ls 0 with
  | error e2=>rw [z] at he; rw [Option.some.inj he]
  | ok d=>rw [z] at he; cases he
 ·cases z:sread b ls 0 with
  | error e2=>rw [z] at he; cases he
  | ok d =>
   refine ⟨d,rfl,?_⟩
   unfold sread at z
   cases ls with
   | nil=>cases z
   | cons l ls =>
    dsimp only at z
    revert z
    cases firstL l (tx "script") with
    | none=>intro z; cases z
    | some names =>
     dsimp only
     cases sreadLines b (l :: ls).length 0 1 ⟨[.scr],(names.drop 1).map fun x=>(x,half)⟩ ls with
     | error e=>intro z; cases z
     | ok s=>intro z; cases z; rfl
theorem pre53 {d0 d1:Nat} (h0:d0 < 8) (h1:d1 < 8):∃ b1 b2:Bk,Alk b2 (bcl d0 d1)∧b2.length=2∧(∀ x,(look b1 x).isSome=decide (x=tx "r0"))∧(∀ x,(look b2 x).isSome=(decide (x=tx "r0") || decide (x=tx "r1"))) ∧
  (∀ n r x,x ≠ []→readB (n + 1) [] 0 (rP 0 d0++[] :: x :: r)=readB n b1 (s2of d0) (x :: r)) ∧
  (∀ n r x,x ≠ []→readB (n + 1) b1 (s2of d0) (rP 1 d1++[] :: x :: r)=readB n b2 (s3of d0 d1) (x :: r)) ∧
  (∃ d,readD [] (rP 0 d0) 0 = .ok d)∧(∃ d,readD b1 (rP 1 d1) 0 = .ok d)∧titleIn b1 ((rP 1 d1).headD [])=false:=by
 have i0:=rd_i (i:=0) (by decide) h0
 have i1:=rd_i (i:=1) (by decide) h1
 obtain ⟨t0,e0,n0,w0⟩:=i0.rd
 obtain ⟨t1,e1,n1,w1⟩:=i1.rd
 rw [r0_eq] at n0
 rw [r1_eq] at n1
 have D0:∀ b,readD b (rP 0 d0) 0 = .ok ⟨false,t0,[]⟩:=fun b=>by unfold readD; rw [if_neg i0.hd,e0]
 have D1:∀ b,readD b (rP 1 d1) 0 = .ok ⟨false,t1,[]⟩:=fun b=>by unfold readD; rw [if_neg i1.hd,e1]
 have ti0:titleIn [] ((rP 0 d0).headD [])=false:=by
  unfold titleIn
  rw [i0.tt]
  rfl
 have ti1:titleIn [(tx "r0", ⟨false,t0,[]⟩)] ((rP 1 d1).headD [])=false:=by
  unfold titleIn
  rw [i1.tt,r1_eq]
  simp only [look_cons,look_nil]
  rw [if_neg r01]
  rfl
 refine ⟨[(tx "r0", ⟨false,t0,[]⟩)],[(tx "r0", ⟨false,t0,[]⟩),(tx "r1", ⟨false,t1,[]⟩)],alk2 n0 n1 w0 w1,rfl,fun x=>?_,fun x=>?_,fun n r x hx=>?_,fun n r x hx=>?_,⟨_,D0 _⟩,⟨_,D1 _⟩,ti1⟩
 ·simp only [look_cons,look_nil]
  by_cases h:tx "r0" = x
  ·rw [if_pos h,decide_eq_true h.symm]; rfl
  ·rw [if_neg h,decide_eq_false (Ne.symm h)]; rfl
 ·simp only [look_cons,look_nil]
  by_cases h:tx "r0" = x
  ·rw [if_pos h,decide_eq_true h.symm]; rfl
  ·rw [if_neg h,decide_eq_false (Ne.symm h)]
   by_cases h2:tx "r1" = x
   ·rw [if_pos h2,decide_eq_true h2.symm]; rfl
   ·rw [if_neg h2,decide_eq_false (Ne.symm h2)]; rfl
 ·rw [b_more (by simp [rP]) i0.ne hx ti0 (D0 _)]
  show readB n [(t0.names.headD [],_)] _ _=_
  rw [n0]
  unfold s2of
  rw [Nat.zero_add]
  rfl
 ·rw [b_more (by simp [rP]) i1.ne hx ti1 (D1 _)]
  show readB n [_,(t1.names.headD [],_)] _ _=_
  rw [n1]
  unfold s2of s3of
  rfl
def sc0:Sdr:=⟨[.scr],[(tx "a", half),(tx "b", half)]⟩
def l1T:Tx:=tx "let c = a.twin"
def chk3 (b:Bk) (x:Tx):Option Err:=match sreadLine b sc0 4 0 1 l1T with
 | .error _=>none
 | .ok s1=>match sreadLine b s1 4 0 2 x with
  | .error e=>some e
  | .ok _=>none
theorem serr3 {b:Bk} {x:Tx} {r:List Tx} {e:Err} (hr : 1≤r.length) (h:chk3 b x=some e):serr b (tx "script s a b" :: l1T :: x :: r)=some e:=by
 have hf:firstL (tx "script s a b") (tx "script")=some [tx "s", tx "a", tx "b"]:=by decide +kernel
 unfold serr sread
 dsimp only
 rw [hf]
 dsimp only
 show (match (match sreadLines b (tx "script s a b" :: l1T :: x :: r).length 0 1 sc0 (l1T :: x :: r) with
  | .error e=>Except.error e
  | .ok s=>Except.ok (⟨true,⟨[tx "s", tx "a", tx "b"],toldOf s.stms,tx "script s a b" :: l1T :: x :: r,s.stms⟩,callsOf b s.stms⟩:Dd)) with
  | .error e=>some e
  | .ok _=>none)=some e
 have hn:(tx "script s a b" :: l1T :: x :: r).length=r.length + 3:=rfl
 rw [hn]
 unfold chk3 at h
 rw [sreadLines,sline_n (m:=4) (fun _ _ => .inr ⟨by omega,by omega⟩)]
 cases e1:sreadLine b sc0 4 0 1 l1T with
 | error z=>rw [e1] at h; cases h
 | ok s1 =>
  rw [e1] at h
  dsimp only at h ⊢
  rw [sreadLines,sline_n (m:=4) (fun _ _ => .inr ⟨by omega,by omega⟩)]
  cases e2:sreadLine b s1 4 0 (1 + 1) x with
  | error z =>
   have e2:sreadLine b s1 4 0 2 x = .error z:=e2
   rw [e2] at h
   exact h
  | ok s2 =>
   have e2:sreadLine b s1 4 0 2 x = .ok s2:=e2
   rw [e2] at h
   cases h
end PR

namespace PR
open RD
def n5:List Tx:=["zz", "s", "r2", "next", "9a"].map tx
def n4:List Tx:=["zz", "x1", "twin", "9a"].map tx
def m14 (j:Nat) (hs:List Tx):List Tx:=if j=0 then hs++[tx "a"] else if j=1 then hs.drop 1++[tx "zz", tx "b"] else if hs.length=2 then [tx "zz"] else [tx "zz", tx "zz"]
def f16 (j i:Nat) (hs:List Tx):Tx:=if i=0 then tx "call r0 " ++ jn 32 (n4.getD j [] :: hs.drop 1) else if i=1 then tx "let y = " ++ n4.getD j []++tx ".next" else tx "call " ++ n4.getD j []++tx " zz9"
def x53 (hs:List Tx):List (Tx × Err):=wrong8.map (fun x=>(x,.bad 3))++[(tx "given a == b", .bad 3),(tx "tell a", .bad 3)]++n5.map (fun n=>(tx "call " ++ n++tx " a b", .unk 3 n)) ++
 (List.range 3).map (fun j=>(tx "call r0 " ++ jn 32 (m14 j hs),.bad 3))++(more15 (callL hs)).map (fun x=>(x,.bad 3))++((List.range 4).map fun j=>(List.range 3).map fun i=>(f16 j i hs,.unk 3 (n4.getD j []))).flatten
def eqE:Err→Err→Bool
 | .bad n,.bad m=>n == m
 | .unk n x,.unk m y=>n == m && decide (x=y)
 | .knd n x,.knd m y=>n == m && decide (x=y)
 | _,_=>false
theorem eqE_eq:∀ {a b:Err},eqE a b=true→a=b
 | .bad n,.bad m,h=>by rw [show n=m by simpa [eqE] using h]
 | .unk n x,.unk m y,h=>by
  have h:n=m∧x=y:=by simpa [eqE] using h
  rw [h.1,h.2]
 | .knd n x,.knd m y,h=>by
  have h:n=m∧x=y:=by simpa [eqE] using h
  rw [h.1,h.2]
 | .bad _,.unk _ _,h=>by cases h
 | .bad _,.knd _ _,h=>by cases h
 | .unk _ _,.bad _,h=>by cases h
 | .unk _ _,.knd _ _,h=>by cases h
 | .knd _ _,.bad _,h=>by cases h
 | .knd _ _,.unk _ _,h=>by cases h
def isE (o:Option Err) (e:Err):Bool:=match o with
 | some z=>eqE z e
 | none=>false
theorem isE_eq {o:Option Err} {e:Err} (h:isE o e=true):o=some e:=by
 cases o with
 | none=>cases h
 | some z=>rw [eqE_eq h]
def hss (d:Nat):List (List Tx):=if d < 4 then [[tx "a", tx "a"],[tx "a", tx "b"],[tx "b", tx "a"],[tx "b", tx "b"]] else [[tx "a"],[tx "b"]]
def all3 (d0 d1:Nat):Bool:=(hss d0).all fun hs=>(x53 hs).all fun z=>(!z.1.isEmpty && !decide (10∈z.1)) && isE (chk3 (bcl d0 d1) z.1) z.2
theorem all3_ok:∀ d0,d0 < 8→∀ d1,d1 < 8→all3 d0 d1=true:=by decide +kernel
theorem all3_of {d0 d1:Nat} (h0:d0 < 8) (h1:d1 < 8) {hs:List Tx} (hh:hs∈hss d0):∀ z∈x53 hs,(z.1 ≠ []∧10 ∉ z.1)∧chk3 (bcl d0 d1) z.1=some z.2:=fun z hz=>by
 have h:=List.all_eq_true.mp (List.all_eq_true.mp (all3_ok d0 h0 d1 h1) hs hh) z hz
 rw [Bool.and_eq_true,Bool.and_eq_true] at h
 refine ⟨⟨fun y=>?_,by simpa using h.1.2⟩,isE_eq h.2⟩
 have:=h.1.1
 rw [y] at this
 cases this
end PR

namespace PR
open RD
def chk2 (b:Bk) (x:Tx):Option Err:=match sreadLine b sc0 4 0 1 x with
 | .error e=>some e
 | .ok _=>none
def is2 (d:Nat):Bool:=decide ((jn 32 ((flines d).drop ((flines d).length - 1))).take 7=tx "tell p ")
def w11 (d1:Nat) (hs:List Tx) (e:Nat):List Tx:=(inScript (sP d1 hs e) 0 11 0 (callL hs) hs).1
def gdB (ls:List Tx):Bool:=ls.all fun l=>!l.isEmpty && !decide (10∈l)
def all2 (d0 d1:Nat):Bool:=isE (chk2 (bcl d0 d1) (tx "given a != zz")) (.unk 2 (tx "zz")) && (hss d0).all fun hs=>(!is2 d0 || isE (chk2 (bcl d0 d1) (tx "call x1 = " ++ callL hs)) (.bad 2)) && gdB [tx "call x1 = " ++ callL hs] &&
 (List.range 3).all fun e=>(gdB (sP d1 hs e) && (gdB (w11 d1 hs e) && ((w11 d1 hs e).length == 22 && n4.all (fun n=>gdB [tx "tell a " ++ n])))) && (serr (bcl d0 d1) (sP d1 hs e)).isNone && (n4.all (fun n=>isE (serr (bcl d0 d1) (sP d1 hs e++[tx "tell a " ++ n])) (.unk ((sP d1 hs e).length + 1) n)) && isE (serr (bcl d0 d1) (w11 d1 hs e)) (.bad 22))
theorem all2_ok:∀ d0,d0 < 8→∀ d1,d1 < 8→all2 d0 d1=true:=by decide +kernel
structure A2 (d0 d1:Nat) (hs:List Tx) (e:Nat):Prop where
 gd:gdB (sP d1 hs e)=true
 ok:serr (bcl d0 d1) (sP d1 hs e)=none
 tell:∀ n∈n4,serr (bcl d0 d1) (sP d1 hs e++[tx "tell a " ++ n])=some (.unk ((sP d1 hs e).length + 1) n)∧gdB [tx "tell a " ++ n]=true
 w:serr (bcl d0 d1) (w11 d1 hs e)=some (.bad 22)∧gdB (w11 d1 hs e)=true∧(w11 d1 hs e).length=22
 z:chk2 (bcl d0 d1) (tx "given a != zz")=some (.unk 2 (tx "zz"))
 x1:is2 d0=true→chk2 (bcl d0 d1) (tx "call x1 = " ++ callL hs)=some (.bad 2)
 x1g:gdB [tx "call x1 = " ++ callL hs]=true
theorem a2_of {d0 d1:Nat} (h0:d0 < 8) (h1:d1 < 8) {hs:List Tx} (hh:hs∈hss d0) {e:Nat} (he:e < 3):A2 d0 d1 hs e:=by
 have h:=all2_ok d0 h0 d1 h1
 unfold all2 at h
 rw [Bool.and_eq_true,List.all_eq_true] at h
 obtain ⟨hz,h⟩:=h
 have h:=h hs hh
 simp only [Bool.and_eq_true,Bool.or_eq_true,List.all_eq_true,Bool.not_eq_true',beq_iff_eq] at h
 obtain ⟨⟨h1,h1g⟩,h2⟩:=h
 obtain ⟨⟨⟨g1,g2,g3,g4⟩,h3⟩,h4,h5⟩:=h2 e (List.mem_range.mpr he)
 refine ⟨g1,by simpa using h3,fun n hn=>⟨isE_eq (h4 n hn),g4 n hn⟩,⟨isE_eq h5,g2,g3⟩,isE_eq hz,fun i=>?_,h1g⟩
 rcases h1 with h1 | h1
 ·rw [i] at h1; cases h1
 ·exact isE_eq h1
theorem gdB_of {ls:List Tx} (h:gdB ls=true):∀ l∈ls,l ≠ []∧10 ∉ l:=fun l hl=>by
 have:=List.all_eq_true.mp h l hl
 rw [Bool.and_eq_true] at this
 refine ⟨fun z=>?_,by simpa using this.2⟩
 rw [z] at this
 cases this.1
end PR

namespace PR
open RD
theorem getD_mem {l:List Tx} {j:Nat} (h:j < l.length):l.getD j []∈l:=by
 rw [List.getD_eq_getElem?_getD,List.getElem?_eq_getElem h]
 exact List.getElem_mem h
def pre2 (d0 d1:Nat):List Tx:=rP 0 d0++[[]]++(rP 1 d1++[[]])
theorem pre2_len {d0 d1:Nat}:(pre2 d0 d1).length=s3of d0 d1:=by
 unfold pre2 s3of
 simp only [List.length_append,List.length_cons,List.length_nil]
theorem pre2_cons {d0 d1:Nat} {x:Tx} {r:List Tx}:pre2 d0 d1++x :: r=rP 0 d0++[] :: (rP 1 d1++[] :: x :: r):=by
 unfold pre2
 simp
def Gd (ls:List Tx):Prop:=∀ l∈ls,l ≠ []∧10 ∉ l
theorem Gd.noE {ls:List Tx} (h:Gd ls):NoE ls:=fun l hl=>(h l hl).1
theorem sp53 {ls:List Tx} (h0:ls ≠ []) (h:∀ l∈ls,10 ∉ l):readBook (jn 10 ls)=readB ls.length [] 0 ls:=by
 have e:spc 10 (jn 10 ls)=ls:=by rw [spc_sp1]; exact sp1_jn h0 h
 unfold readBook
 rw [e]
theorem hds_ok:(tx "script s a b").take 7=tx "script " ∧ (spc 32 (tx "script s a b"))[1]? = some (tx "s")∧tx "s" ≠ tx "r0" ∧ tx "s" ≠ tx "r1" := by decide +kernel
theorem pre2_nl {d0 d1:Nat} (h0:d0 < 8) (h1:d1 < 8):∀ l∈pre2 d0 d1,10 ∉ l:=by
 intro l hl
 unfold pre2 at hl
 rcases List.mem_append.mp hl with hl | hl
 ·rcases List.mem_append.mp hl with hl | hl
  ·exact (rd_i (by decide) h0).nl l hl
  ·rw [List.mem_singleton.mp hl]; simp
 ·rcases List.mem_append.mp hl with hl | hl
  ·exact (rd_i (by decide) h1).nl l hl
  ·rw [List.mem_singleton.mp hl]; simp
theorem scr53 {d0 d1:Nat} (h0:d0 < 8) (h1:d1 < 8) {r:List Tx} {e:Err} (hg:Gd (tx "script s a b" :: r)) (h:serr (bcl d0 d1) (tx "script s a b" :: r)=some e):readBook (jn 10 (pre2 d0 d1++tx "script s a b" :: r)) = .error (shE (s3of d0 d1) e):=by
 obtain ⟨b1,b2,ak,_,l1,l2,p1,p2,_,_,_⟩:=pre53 h0 h1
 rw [sp53 (by simp) fun l hl=>(List.mem_append.mp hl).elim (pre2_nl h0 h1 l) fun m=>(hg l m).2]
 have hx:tx "script s a b" ≠ []:=(hg _ List.mem_cons_self).1
 have hR:(rP 1 d1)=(rP 1 d1).headD [] :: (rP 1 d1).tail:=rfl
 have hn1:(rP 1 d1).headD [] ≠ []:=(rd_i (i:=1) (by decide) h1).ne _ (by unfold rP; exact List.mem_cons_self)
 obtain ⟨n,hn⟩:∃ n,(pre2 d0 d1++tx "script s a b" :: r).length=n + 1 + 1 + 1:=⟨s3of d0 d1 + r.length - 2,by
  rw [List.length_append,pre2_len,List.length_cons]
  unfold s3of
  omega⟩
 rw [hn,pre2_cons]
 rw [hR,List.cons_append,p1 _ _ _ hn1,← List.cons_append,← hR,p2 _ _ _ hx]
 have:=b_err (n:=n) (st:=s3of d0 d1) (b:=b2) (t:=tx "script s a b" :: r) (r:=[]) (e:=e) (by simp) hg.noE (by
  unfold titleIn
  show (match (spc 32 (tx "script s a b"))[1]? with | some n=>(look b2 n).isSome | none=>false)=false
  rw [hds_ok.2.1]
  dsimp only
  rw [l2,decide_eq_false hds_ok.2.2.1,decide_eq_false hds_ok.2.2.2]
  rfl) ((serr_readD (ls:=tx "script s a b" :: r) hds_ok.1).1 e (by rw [serr_alk ak]; exact h)) (.inl rfl)
 rw [List.append_nil] at this
 exact this
def bothS (S:List Tx) (e:Err) (b:Bool):List Tx:=if b=true∧errL e < S.length then S.take (S.length - 1)++[S.getD (S.length - 1) []++tx " "] else S
theorem errL_sh (o:Nat):∀ e,errL (shE o e)=o + errL e
 | .bad _=>rfl
 | .unk _ _=>rfl
 | .knd _ _=>rfl
theorem both_pre {p S:List Tx} {e:Err} {b:Bool} (h:S ≠ []):both53 (p++S,some (shE p.length e)) b=p++bothS S e b:=by
 have hl:=List.length_pos_iff.mpr h
 unfold both53 bothS
 dsimp only
 rw [errL_sh,List.length_append]
 by_cases c:b=true∧errL e < S.length
 ·rw [if_pos c,if_pos ⟨c.1,by omega⟩]
  rw [List.take_append,List.take_of_length_le (by omega),show p.length + S.length - 1 - p.length=S.length - 1 by omega]
  rw [List.getD_eq_getElem?_getD,List.getElem?_append_right (by omega),show p.length + S.length - 1 - p.length=S.length - 1 by omega,List.append_assoc,← List.getD_eq_getElem?_getD]
 ·rw [if_neg c,if_neg fun z=>c ⟨z.1,by omega⟩]
theorem bothS_cons {x:Tx} {r:List Tx} {e:Err} {b:Bool} (h:r ≠ []) (hg:Gd (x :: r)):∃ r',bothS (x :: r) e b=x :: r'∧r'.length=r.length∧Gd (x :: r'):=by
 unfold bothS
 have hl:=List.length_pos_iff.mpr h
 by_cases c:b=true∧errL e < (x :: r).length
 ·rw [if_pos c]
  obtain ⟨n,hn⟩:∃ n,r.length=n + 1:=⟨r.length - 1,by omega⟩
  have e1:(x :: r).length - 1=n + 1:=by rw [List.length_cons]; omega
  rw [e1]
  refine ⟨r.take n++[r.getD n []++tx " "],?_,by rw [List.length_append,List.length_take,List.length_singleton]; omega,fun l hl=>?_⟩
  ·rw [List.take_succ_cons,List.cons_append,List.getD_cons_succ]
  ·have k1 : 10 ∉ tx " " := by decide +kernel
   rcases List.mem_cons.mp hl with rfl | hl
   ·exact hg _ List.mem_cons_self
   rcases List.mem_append.mp hl with hl | hl
   ·exact hg l (List.mem_cons_of_mem _ (List.mem_of_mem_take hl))
   ·rw [List.mem_singleton.mp hl]
    have hm:=hg _ (List.mem_cons_of_mem _ (getD_mem (l:=r) (j:=n) (by omega)))
    exact ⟨fun z=>hm.1 (List.append_eq_nil_iff.mp z).1,fun z=>(List.mem_append.mp z).elim hm.2 k1⟩
 ·rw [if_neg c]
  exact ⟨r,rfl,rfl,hg⟩
theorem bothS_eq {S:List Tx} {e:Err} {b:Bool} (h:S.length≤errL e):bothS S e b=S:=by
 unfold bothS
 rw [if_neg fun z=>by omega]
end PR

namespace PR
open RD
def lastSp (r:List Tx):List Tx:=r.take (r.length - 1)++[r.getD (r.length - 1) []++tx " "]
theorem lastSp_cons {x:Tx} {r:List Tx} (h:r ≠ []):lastSp (x :: r)=x :: lastSp r:=by
 obtain ⟨n,hn⟩:∃ n,r.length=n + 1:=⟨r.length - 1,by have:=List.length_pos_iff.mpr h; omega⟩
 unfold lastSp
 rw [show (x :: r).length - 1=n + 1 by rw [List.length_cons]; omega,hn,List.take_succ_cons,List.getD_cons_succ]
 rfl
theorem lastSp_len {r:List Tx} (h:r ≠ []):(lastSp r).length=r.length:=by
 have:=List.length_pos_iff.mpr h
 unfold lastSp
 rw [List.length_append,List.length_take,List.length_singleton]
 omega
theorem lastSp_gd {r:List Tx} (h:r ≠ []) (hg:Gd r):Gd (lastSp r):=fun l hl=>by
 have k1 : 10 ∉ tx " " := by decide +kernel
 have:=List.length_pos_iff.mpr h
 unfold lastSp at hl
 rcases List.mem_append.mp hl with hl | hl
 ·exact hg l (List.mem_of_mem_take hl)
 ·rw [List.mem_singleton.mp hl]
  have hm:=hg _ (getD_mem (l:=r) (j:=r.length - 1) (by omega))
  exact ⟨fun z=>hm.1 (List.append_eq_nil_iff.mp z).1,fun z=>(List.mem_append.mp z).elim hm.2 k1⟩
theorem bothS_pre {p r:List Tx} {e:Err} {b:Bool} (h:r ≠ []) (hg:Gd r):∃ r',bothS (p++r) e b=p++r'∧r'.length=r.length∧Gd r':=by
 have hp:∀ p:List Tx,lastSp (p++r)=p++lastSp r:=fun p=>by
  induction p with
  | nil=>rfl
  | cons x p ih =>
   rw [List.cons_append,lastSp_cons (by simp [h]),ih]
   rfl
 unfold bothS
 split
 ·exact ⟨lastSp r,hp p,lastSp_len h,lastSp_gd h hg⟩
 ·exact ⟨r,rfl,rfl,hg⟩
theorem serr2 {b:Bk} {x:Tx} {r:List Tx} {e:Err} (hr : 2≤r.length) (h:chk2 b x=some e):serr b (tx "script s a b" :: x :: r)=some e:=by
 have hf:firstL (tx "script s a b") (tx "script")=some [tx "s", tx "a", tx "b"]:=by decide +kernel
 unfold serr sread
 dsimp only
 rw [hf]
 dsimp only
 show (match (match sreadLines b (tx "script s a b" :: x :: r).length 0 1 sc0 (x :: r) with
  | .error e=>Except.error e
  | .ok s=>Except.ok (⟨true,⟨[tx "s", tx "a", tx "b"],toldOf s.stms,tx "script s a b" :: x :: r,s.stms⟩,callsOf b s.stms⟩:Dd)) with
  | .error e=>some e
  | .ok _=>none)=some e
 have hn:(tx "script s a b" :: x :: r).length=r.length + 2:=rfl
 rw [hn]
 unfold chk2 at h
 rw [sreadLines,sline_n (m:=4) (fun _ _ => .inr ⟨by omega,by omega⟩)]
 cases e1:sreadLine b sc0 4 0 1 x with
 | error z=>rw [e1] at h; exact h
 | ok s1=>rw [e1] at h; cases h
def tail53 (d1:Nat) (hs:List Tx) (e:Nat):List Tx:=(tx "call " ++ callL hs) :: (tx "call r1 " ++ jn 32 (fnames d1)) :: List.replicate e (tx "call " ++ callL hs)
theorem sP_eq (d1:Nat) (hs:List Tx) (e:Nat):sP d1 hs e=tx "script s a b" :: l1T :: tail53 d1 hs e:=rfl
section
variable {d0 d1:Nat} (h0:d0 < 8) (h1:d1 < 8) {hs:List Tx} (hh:hs∈hss d0) {e:Nat} (he:e < 3)
include h0 h1 hh he
theorem put3 {z:Tx × Err} (hz:z∈x53 hs) (b:Bool):readBook (jn 10 (both53 (pre2 d0 d1++put53 (sP d1 hs e) 2 z.1,some (shE (s3of d0 d1) z.2)) b)) = .error (shE (s3of d0 d1) z.2):=by
 have A:=a2_of h0 h1 hh he
 have g:=gdB_of A.gd
 obtain ⟨zg,zc⟩:=all3_of h0 h1 hh z hz
 have ep:put53 (sP d1 hs e) 2 z.1=[tx "script s a b", l1T,z.1]++tail53 d1 hs e:=rfl
 have gt:Gd (tail53 d1 hs e):=fun l hl=>g l (List.mem_cons_of_mem _ (List.mem_cons_of_mem _ hl))
 obtain ⟨r',e1,e2,e3⟩:=bothS_pre (p:=[tx "script s a b", l1T,z.1]) (r:=tail53 d1 hs e) (e:=z.2) (b:=b) (by simp [tail53]) gt
 rw [← pre2_len,both_pre (by rw [ep]; simp),ep,e1,pre2_len]
 refine scr53 h0 h1 (fun l hl=>?_) (serr3 (r:=r') (by rw [e2]; simp [tail53]) zc)
 rcases List.mem_cons.mp hl with rfl | hl
 ·exact g _ (by rw [sP_eq]; exact List.mem_cons_self)
 rcases List.mem_cons.mp hl with rfl | hl
 ·exact g _ (by rw [sP_eq]; exact List.mem_cons_of_mem _ List.mem_cons_self)
 rcases List.mem_cons.mp hl with rfl | hl
 ·exact zg
 ·exact e3 l hl
theorem put2 {x:Tx} {er:Err} (hx:x ≠ []∧10 ∉ x) (hc:chk2 (bcl d0 d1) x=some er) (b:Bool):readBook (jn 10 (both53 (pre2 d0 d1++put53 (sP d1 hs e) 1 x,some (shE (s3of d0 d1) er)) b)) = .error (shE (s3of d0 d1) er):=by
 have A:=a2_of h0 h1 hh he
 have g:=gdB_of A.gd
 have ep:put53 (sP d1 hs e) 1 x=[tx "script s a b", x]++(l1T :: tail53 d1 hs e):=rfl
 have gt:Gd (l1T :: tail53 d1 hs e):=fun l hl=>g l (List.mem_cons_of_mem _ hl)
 obtain ⟨r',e1,e2,e3⟩:=bothS_pre (p:=[tx "script s a b", x]) (r:=l1T :: tail53 d1 hs e) (e:=er) (b:=b) (by simp) gt
 rw [← pre2_len,both_pre (by rw [ep]; simp),ep,e1,pre2_len]
 refine scr53 h0 h1 (fun l hl=>?_) (serr2 (r:=r') (by rw [e2]; simp [tail53]) hc)
 rcases List.mem_cons.mp hl with rfl | hl
 ·exact g _ (by rw [sP_eq]; exact List.mem_cons_self)
 rcases List.mem_cons.mp hl with rfl | hl
 ·exact hx
 ·exact e3 l hl
theorem whole53 {r:List Tx} {er:Err} (hg:gdB (tx "script s a b" :: r)=true) (hc:serr (bcl d0 d1) (tx "script s a b" :: r)=some er) (hl:(tx "script s a b" :: r).length≤errL er) (b:Bool):readBook (jn 10 (both53 (pre2 d0 d1++tx "script s a b" :: r,some (shE (s3of d0 d1) er)) b)) = .error (shE (s3of d0 d1) er):=by
 rw [← pre2_len,both_pre (by simp),bothS_eq hl,pre2_len]
 exact scr53 h0 h1 (gdB_of hg) hc
end
end PR

namespace PR
open RD
theorem both_stay {X:List Tx} {e:Err} {b:Bool} (h:X.length≤errL e):both53 (X,some e) b=X:=by
 unfold both53
 dsimp only
 rw [if_neg fun z=>by omega]
theorem both_any {p q:List Tx} {e:Err} {b:Bool} (h:q ≠ []) (hn:∀ l∈q,10 ∉ l):∃ q',both53 (p++q,some e) b=p++q'∧q'.length=q.length∧(∀ l∈q',10 ∉ l)∧∀ x r,q=x :: r→r ≠ []→∃ r',q'=x :: r':=by
 have hp:∀ p:List Tx,lastSp (p++q)=p++lastSp q:=fun p=>by
  induction p with
  | nil=>rfl
  | cons x p ih =>
   rw [List.cons_append,lastSp_cons (by simp [h]),ih]
   rfl
 have k1 : 10 ∉ tx " " := by decide +kernel
 unfold both53
 dsimp only
 split
 ·refine ⟨lastSp q,hp p,lastSp_len h,fun l hl=>?_,fun x r e hr=>⟨lastSp r,by rw [e,lastSp_cons hr]⟩⟩
  have:=List.length_pos_iff.mpr h
  unfold lastSp at hl
  rcases List.mem_append.mp hl with hl | hl
  ·exact hn l (List.mem_of_mem_take hl)
  ·rw [List.mem_singleton.mp hl]
   exact fun z=>(List.mem_append.mp z).elim (hn _ (getD_mem (by omega))) k1
 ·exact ⟨q,rfl,rfl,hn,fun x r e _=>⟨r,e⟩⟩
theorem sread_names {b:Bk} {r:List Tx} {d:Dd} (h:readD b (tx "script s a b" :: r) 0 = .ok d):d.t.names=[tx "s", tx "a", tx "b"]:=by
 have hf:firstL (tx "script s a b") (tx "script")=some [tx "s", tx "a", tx "b"]:=by decide +kernel
 unfold readD at h
 rw [if_pos (show ((tx "script s a b" :: r).headD []).take 7=tx "script " from hds_ok.1)] at h
 unfold sread at h
 dsimp only at h
 rw [hf] at h
 dsimp only at h
 revert h
 cases sreadLines b (tx "script s a b" :: r).length 0 1 ⟨[.scr],([tx "s", tx "a", tx "b"].drop 1).map fun x=>(x,half)⟩ r with
 | error e=>intro h; cases h
 | ok s=>intro h; cases h; rfl
theorem look_snoc {b:Bk} {n x:Tx} {d:Dd} (h:(look b x).isSome=false):look (b++[(n,d)]) x=if n=x then some d else none:=by
 have h:look b x=none:=by
  cases e:look b x with
  | none=>rfl
  | some z=>rw [e] at h; cases h
 induction b with
 | nil=>exact look_cons
 | cons y b ih =>
  obtain ⟨m,dd⟩:=y
  rw [look_cons] at h
  rw [List.cons_append,look_cons]
  by_cases c:m=x
  ·rw [if_pos c] at h; cases h
  ·rw [if_neg c] at h ⊢
   exact ih (by rw [h]; rfl) h
theorem three53 {d0 d1:Nat} (h0:d0 < 8) (h1:d1 < 8) {hs:List Tx} (hh:hs∈hss d0) {e:Nat} (he:e < 3):∃ b3:Bk,∃ d:Dd,b3.length=3∧d.script=true∧look b3 (tx "s")=some d∧(∀ x,x ≠ tx "r0" → x ≠ tx "r1" → x ≠ tx "s" → look b3 x=none) ∧
  (∀ n,readB (n + 3) [] 0 (pre2 d0 d1++sP d1 hs e) = .ok b3)∧(∀ n r x,x ≠ []→readB (n + 3) [] 0 (pre2 d0 d1++(sP d1 hs e++[] :: x :: r))=readB n b3 (s3of d0 d1 + (sP d1 hs e).length + 1) (x :: r)) ∧
  (∀ n,readB (n + 3) [] 0 (pre2 d0 d1++(sP d1 hs e++[[]])) = .error (.bad (s3of d0 d1 + (sP d1 hs e).length + 1))):=by
 obtain ⟨b1,b2,ak,len2,l1,l2,p1,p2,_,_,_⟩:=pre53 h0 h1
 have A:=a2_of h0 h1 hh he
 have g:=gdB_of A.gd
 have hx:tx "script s a b" ≠ []:=(g _ (by rw [sP_eq]; exact List.mem_cons_self)).1
 have hR:(rP 1 d1)=(rP 1 d1).headD [] :: (rP 1 d1).tail:=rfl
 have hn1:(rP 1 d1).headD [] ≠ []:=(rd_i (i:=1) (by decide) h1).ne _ (by unfold rP; exact List.mem_cons_self)
 have hT:titleIn b2 (tx "script s a b")=false:=by
  unfold titleIn
  rw [hds_ok.2.1]
  dsimp only
  rw [l2,decide_eq_false hds_ok.2.2.1,decide_eq_false hds_ok.2.2.2]
  rfl
 obtain ⟨d,hd,hsc⟩:=(serr_readD (b:=b2) (ls:=sP d1 hs e) hds_ok.1).2 (by rw [serr_alk ak]; exact A.ok)
 have hnm:d.t.names.headD []=tx "s" := by
  rw [sP_eq] at hd
  rw [sread_names hd]
  rfl
 have go:∀ n r,readB (n + 1 + 1) [] 0 (pre2 d0 d1++(sP d1 hs e++r))=readB n b2 (s3of d0 d1) (sP d1 hs e++r):=fun n r=>by
  rw [sP_eq,List.cons_append,pre2_cons,hR,List.cons_append,p1 _ _ _ hn1,← List.cons_append,← hR,p2 _ _ _ hx]
 have ns:(look b2 (tx "s")).isSome=false:=by
  rw [l2,decide_eq_false hds_ok.2.2.1,decide_eq_false hds_ok.2.2.2]; rfl
 refine ⟨b2++[(tx "s", d)],d,by rw [List.length_append,len2]; rfl,hsc,by rw [look_snoc ns,if_pos rfl],fun x n0 n1 n2=>?_,fun n=>?_,fun n r x hx2=>?_,fun n=>?_⟩
 ·rw [look_snoc (by rw [l2,decide_eq_false n0,decide_eq_false n1]; rfl),if_neg (Ne.symm n2)]
 ·have:=go (n + 1) []
  rw [List.append_nil] at this
  rw [show n + 3=n + 1 + 1 + 1 by omega,this,b_last (by rw [sP_eq]; simp) (fun l hl=>(g l hl).1) hT hd,hnm]
 ·rw [show n + 3=n + 1 + 1 + 1 by omega,go (n + 1) _,b_more (by rw [sP_eq]; simp) (fun l hl=>(g l hl).1) hx2 hT hd,hnm]
 ·rw [show n + 3=n + 1 + 1 + 1 by omega,go (n + 1) _,b_gap (by rw [sP_eq]; simp) (fun l hl=>(g l hl).1) hT hd (.inl rfl)]
theorem call_unk {b:Bk} {l x:Tx} {ps:List Tx} {us:List (Tx × Tx)} (hf:scriptForm l=some ⟨.call x ps [],us,[]⟩) (hg:(Form.mk (.call x ps []) us []).good=true) (hb:look b x=none∨∃ d,look b x=some d∧d.script=true) :
  serr b (tx "script t a b" :: l :: [])=some (.unk 2 x):=by
 have h1:firstL (tx "script t a b") (tx "script")=some [tx "t", tx "a", tx "b"]:=by decide +kernel
 unfold serr sread
 dsimp only
 rw [h1]
 dsimp only
 rw [sreadLines]
 have:∀ n,sreadLine b ⟨[.scr],([tx "t", tx "a", tx "b"].drop 1).map fun x=>(x,half)⟩ n 0 1 l = .error (.unk 2 x):=fun n=>by
  unfold sreadLine
  rw [hf]
  dsimp only
  rw [if_neg (by rw [hg]; simp [isFree]),if_neg (by simp [isGiv]),if_neg (by simp [isTell])]
  have hc:callErr b (0 + 1 + 1) (.call x ps [])=some (.unk 2 x):=by
   show chkCall b 2 x ps []=_
   unfold chkCall
   rcases hb with hb | ⟨d,hb,hd⟩
   ·rw [hb]
   ·rw [hb]
    dsimp only
    rw [if_pos hd]
  rw [hc]
 rw [this]
end PR

namespace PR
open RD
theorem s3_ge (d0 d1:Nat) : 4≤s3of d0 d1:=by
 unfold s3of rP
 simp only [List.length_cons]
 omega
theorem n_of {d0 d1:Nat} (Z:List Tx):∃ n,(pre2 d0 d1++Z).length=n + 3∧1 + Z.length≤n:=by
 have:=s3_ge d0 d1
 refine ⟨(pre2 d0 d1++Z).length - 3,?_,?_⟩ <;> (rw [List.length_append,pre2_len]; omega)
theorem below_ok:(tx "script t a b").take 7=tx "script " ∧ (spc 32 (tx "script t a b"))[1]? = some (tx "t")∧tx "t" ≠ tx "r0" ∧ tx "t" ≠ tx "r1" ∧ tx "t" ≠ tx "s" ∧ tx "r2" ≠ tx "r0" ∧ tx "r2" ≠ tx "r1" ∧ tx "r2" ≠ tx "s" ∧
  gdB [tx "script t a b", tx "call s a b", tx "call r2 a", tx "routine r2 a", tx "drop a"]=true:=by decide +kernel
theorem fm_s:scriptForm (tx "call s a b")=some ⟨.call (tx "s") [tx "a", tx "b"] [],[(tx "a", half),(tx "b", half)],[]⟩:=by rfl
theorem fm_r2:scriptForm (tx "call r2 a")=some ⟨.call (tx "r2") [tx "a"] [],[(tx "a", half)],[]⟩:=by rfl
theorem gd_s:(Form.mk (.call (tx "s") [tx "a", tx "b"] []) [(tx "a", half),(tx "b", half)] []).good=true:=by decide +kernel
theorem gd_r2:(Form.mk (.call (tx "r2") [tx "a"] []) [(tx "a", half)] []).good=true:=by decide +kernel
theorem twice_ok:(spc 32 (tx "script s a"))[1]? = some (tx "s")∧(spc 32 (tx "routine s a"))[1]? = some (tx "s")∧gdB [tx "script s a", tx "routine s a"]=true:=by decide +kernel
section
variable {d0 d1:Nat} (h0:d0 < 8) (h1:d1 < 8) {hs:List Tx} (hh:hs∈hss d0) {e:Nat} (he:e < 3)
include h0 h1 hh he
theorem nl_S:∀ l∈pre2 d0 d1++sP d1 hs e,10 ∉ l:=fun l hl=>(List.mem_append.mp hl).elim (pre2_nl h0 h1 l) fun m=>(gdB_of (a2_of h0 h1 hh he).gd l m).2
theorem a22 (b:Bool):∃ bk,readBook (jn 10 (both53 (pre2 d0 d1++sP d1 hs e,none) b)) = .ok bk∧bk.length=3:=by
 obtain ⟨b3,d,l3,_,_,_,k1,_,_⟩:=three53 h0 h1 hh he
 obtain ⟨n,hn,_⟩:=n_of (d0:=d0) (d1:=d1) (sP d1 hs e)
 refine ⟨b3,?_,l3⟩
 show readBook (jn 10 (pre2 d0 d1++sP d1 hs e))=_
 rw [sp53 (by simp [pre2]) (nl_S h0 h1 hh he),hn]
 exact k1 n
theorem a20 {x:Tx} (hx:x=tx "script s a" ∨ x=tx "routine s a") (b:Bool):readBook (jn 10 (both53 (pre2 d0 d1++sP d1 hs e++[[],x],some (.bad ((pre2 d0 d1++sP d1 hs e).length + 2))) b)) = .error (.bad ((pre2 d0 d1++sP d1 hs e).length + 2)):=by
 obtain ⟨b3,d,l3,_,ls,_,_,k2,_⟩:=three53 h0 h1 hh he
 obtain ⟨w1,w2,w3⟩:=twice_ok
 have gx:x ≠ []∧10 ∉ x:=by
  have:=gdB_of w3
  rcases hx with rfl | rfl
  ·exact this _ (by simp)
  ·exact this _ (by simp)
 have tt:titleIn b3 x=true:=by
  unfold titleIn
  rcases hx with rfl | rfl
  ·rw [w1]; dsimp only; rw [ls]; rfl
  ·rw [w2]; dsimp only; rw [ls]; rfl
 rw [both_stay (by simp only [errL,List.length_append,List.length_cons,List.length_nil]; omega),sp53 (by simp) fun l hl=>?_]
 ·obtain ⟨n,hn,n1⟩:=n_of (d0:=d0) (d1:=d1) (sP d1 hs e++[[],x])
  rw [List.append_assoc,hn,k2 n [] x gx.1]
  obtain ⟨m,rfl⟩:∃ m,n=m + 1:=⟨n - 1,by omega⟩
  rw [b_title gx.1 tt,List.length_append,pre2_len]
 ·rcases List.mem_append.mp hl with hl | hl
  ·exact nl_S h0 h1 hh he l hl
  ·rcases List.mem_cons.mp hl with rfl | hl
   ·simp
   ·rw [List.mem_singleton.mp hl]; exact gx.2
theorem a18 (b:Bool):readBook (jn 10 (both53 (pre2 d0 d1++sP d1 hs e++[[],tx "script t a b", tx "call s a b"],some (.unk ((pre2 d0 d1++sP d1 hs e).length + 3) (tx "s"))) b)) = .error (.unk ((pre2 d0 d1++sP d1 hs e).length + 3) (tx "s")):=by
 obtain ⟨b3,d,l3,hsc,ls,ln,_,k2,_⟩:=three53 h0 h1 hh he
 obtain ⟨w1,w2,w3,w4,w5,_,_,_,w6⟩:=below_ok
 have gg:=gdB_of w6
 have tt:titleIn b3 (tx "script t a b")=false:=by
  unfold titleIn
  rw [w2]
  dsimp only
  rw [ln _ w3 w4 w5]
  rfl
 rw [both_stay (by simp only [errL,List.length_append,List.length_cons,List.length_nil]; omega),sp53 (by simp) fun l hl=>?_]
 ·obtain ⟨n,hn,n1⟩:=n_of (d0:=d0) (d1:=d1) (sP d1 hs e++[[],tx "script t a b", tx "call s a b"])
  rw [List.append_assoc,hn,k2 n [tx "call s a b"] (tx "script t a b") (gg _ (by simp)).1]
  obtain ⟨m,rfl⟩:∃ m,n=m + 1:=⟨n - 1,by omega⟩
  have:=b_err (n:=m) (st:=s3of d0 d1 + (sP d1 hs e).length + 1) (b:=b3) (t:=[tx "script t a b", tx "call s a b"]) (r:=[]) (e := .unk 2 (tx "s")) (by simp) (fun l hl=>(gg l (by
   rcases List.mem_cons.mp hl with rfl | hl
   ·simp
   ·rw [List.mem_singleton.mp hl]; simp)).1) tt ((serr_readD (ls:=[tx "script t a b", tx "call s a b"]) w1).1 _ (call_unk fm_s gd_s (.inr ⟨d,ls,hsc⟩))) (.inl rfl)
  rw [List.append_nil] at this
  rw [this,List.length_append,pre2_len]
  rfl
 ·rcases List.mem_append.mp hl with hl | hl
  ·exact nl_S h0 h1 hh he l hl
  ·rcases List.mem_cons.mp hl with rfl | hl
   ·simp
   rcases List.mem_cons.mp hl with rfl | hl
   ·exact (gg _ (by simp)).2
   ·rw [List.mem_singleton.mp hl]; exact (gg _ (by simp)).2
theorem a19 (b:Bool):readBook (jn 10 (both53 (pre2 d0 d1++sP d1 hs e++[[],tx "script t a b", tx "call r2 a", [],tx "routine r2 a", tx "drop a"],some (.unk ((pre2 d0 d1++sP d1 hs e).length + 3) (tx "r2"))) b)) = .error (.unk ((pre2 d0 d1++sP d1 hs e).length + 3) (tx "r2")):=by
 obtain ⟨b3,d,l3,hsc,ls,ln,_,k2,_⟩:=three53 h0 h1 hh he
 obtain ⟨w1,w2,w3,w4,w5,v1,v2,v3,w6⟩:=below_ok
 have gg:=gdB_of w6
 have tt:titleIn b3 (tx "script t a b")=false:=by
  unfold titleIn
  rw [w2]
  dsimp only
  rw [ln _ w3 w4 w5]
  rfl
 obtain ⟨q',e1,e2,e3,_⟩:=both_any (p:=pre2 d0 d1++(sP d1 hs e++[] :: tx "script t a b" :: tx "call r2 a" :: [[]])) (q:=[tx "routine r2 a", tx "drop a"]) (e := .unk ((pre2 d0 d1++sP d1 hs e).length + 3) (tx "r2")) (b:=b) (by simp) (fun l hl=>(gg l (by
  rcases List.mem_cons.mp hl with rfl | hl
  ·simp
  ·rw [List.mem_singleton.mp hl]; simp)).2)
 have es:pre2 d0 d1++sP d1 hs e++[[],tx "script t a b", tx "call r2 a", [],tx "routine r2 a", tx "drop a"]=pre2 d0 d1++(sP d1 hs e++[] :: tx "script t a b" :: tx "call r2 a" :: [[]])++[tx "routine r2 a", tx "drop a"]:=by simp
 rw [es,e1,sp53 (by simp) fun l hl=>?_]
 ·have ea:pre2 d0 d1++(sP d1 hs e++[] :: tx "script t a b" :: tx "call r2 a" :: [[]])++q'=pre2 d0 d1++(sP d1 hs e++[] :: tx "script t a b" :: tx "call r2 a" :: [] :: q'):=by simp
  rw [ea]
  obtain ⟨n,hn,n1⟩:=n_of (d0:=d0) (d1:=d1) (sP d1 hs e++[] :: tx "script t a b" :: tx "call r2 a" :: [] :: q')
  rw [hn,k2 n _ (tx "script t a b") (gg _ (by simp)).1]
  obtain ⟨m,rfl⟩:∃ m,n=m + 1:=⟨n - 1,by omega⟩
  have:=b_err (n:=m) (st:=s3of d0 d1 + (sP d1 hs e).length + 1) (b:=b3) (t:=[tx "script t a b", tx "call r2 a"]) (r:=[] :: q') (e := .unk 2 (tx "r2")) (by simp) (fun l hl=>(gg l (by
   rcases List.mem_cons.mp hl with rfl | hl
   ·simp
   ·rw [List.mem_singleton.mp hl]; simp)).1) tt ((serr_readD (ls:=[tx "script t a b", tx "call r2 a"]) w1).1 _ (call_unk fm_r2 gd_r2 (.inl (ln _ v1 v2 v3)))) (.inr ⟨q',rfl⟩)
  have ev:tx "script t a b" :: tx "call r2 a" :: [] :: q'=[tx "script t a b", tx "call r2 a"]++[] :: q':=rfl
  rw [ev,this,List.length_append,pre2_len]
  rfl
 ·rcases List.mem_append.mp hl with hl | hl
  ·rcases List.mem_append.mp hl with hl | hl
   ·exact pre2_nl h0 h1 l hl
   ·rcases List.mem_append.mp hl with hl | hl
    ·exact nl_S h0 h1 hh he l (List.mem_append_right _ hl)
    ·rcases List.mem_cons.mp hl with rfl | hl
     ·simp
     rcases List.mem_cons.mp hl with rfl | hl
     ·exact (gg _ (by simp)).2
     rcases List.mem_cons.mp hl with rfl | hl
     ·exact (gg _ (by simp)).2
     ·rw [List.mem_singleton.mp hl]; simp
  ·exact e3 l hl
end
end PR

namespace PR
open RD
def gapB (j:Nat):List Tx:=if j=1 then [tx " "] else []
def isRE (o:Except Err Rt) (e:Err):Bool:=match o with
 | .error z=>eqE z e
 | .ok _=>false
theorem isRE_eq {o:Except Err Rt} {e:Err} (h:isRE o e=true):o = .error e:=by
 cases o with
 | ok _=>cases h
 | error z=>rw [eqE_eq h]
def noTit (l:Tx) (r:Tx):Bool:=match (spc 32 l)[1]? with
 | some n=>decide (n=r)
 | none=>false
def wrR (r:Tx) (ls:List Tx) (e:Err):Bool:=isRE (PR.read ls 0) e && (gdB ls && (noTit (ls.headD []) r && !decide ((ls.headD []).take 7=tx "script ")))
def last5 (R:List Tx):Nat:=R.length - isTell5 (R.getD (R.length - 1) [])
def chkR (i k:Nat):Bool:=(List.range ((rP i k).length - 1)).all (fun j=>wrR (tx "r" ++ TL.numL i) (sub53 (rP i k) (j + 1) ((rP i k).getD (j + 1) []++tx " ")) (.bad (j + 2))) &&
 (wrR (tx "r" ++ TL.numL i) ((rP i k).take (last5 (rP i k))++[tx "tell zz"]) (.unk (last5 (rP i k) + 1) (tx "zz")) && (wrR (tx "r" ++ TL.numL i) ((rP i k).take (last5 (rP i k))++[tx "tell g"]) (.knd (last5 (rP i k) + 1) (tx "g")) && wrR (tx "r" ++ TL.numL i) ((rP i k).take (last5 (rP i k))++[tx "if a == a"]) (.bad (last5 (rP i k) + 2))))
theorem chkR_ok:∀ i,i < 2→∀ k,k < 8→chkR i k=true:=by decide +kernel
def chkG (k m:Nat):Bool:=(List.range 2).all fun j=>wrR (tx "r0") (rP 0 k++gapB j++rP 1 m) (.bad (last5 (rP 0 k) + 1))
theorem chkG_ok:∀ k,k < 8→∀ m,m < 8→chkG k m=true:=by decide +kernel
def chkW (x:Tx):Bool:=!x.isEmpty && (!decide (10∈x) && ((match (spc 32 x)[1]? with | some n=>!decide (n=tx "r0") && !decide (n=tx "r1") | none=>true) && (firstL x (if x.take 7=tx "script " then tx "script" else tx "routine")).isNone))
theorem chkW_ok:wrong6.all chkW=true:=by decide +kernel
def t3 (i m:Nat) (h:Tx):Tx:=jn 32 ((spc 32 h).set 1 (if m=0 then tx "r0" else tx "r1"))
def chkT (h r:Tx) (m:Nat):Bool:=let x:=jn 32 ((spc 32 h).set 1 r); !x.isEmpty && (!decide (10∈x) && noTit x r)
theorem chkT_ok:(∀ k,k < 8→chkT ((rP 1 k).headD []) (tx "r0") 0=true)∧chkT (tx "script s a b") (tx "r0") 0=true∧chkT (tx "script s a b") (tx "r1") 0=true:=by decide +kernel
end PR

namespace PR
open RD
structure WrR (r:Tx) (ls:List Tx) (e:Err):Prop where
 rd:PR.read ls 0 = .error e
 gd:∀ l∈ls,l ≠ []∧10 ∉ l
 tt:(spc 32 (ls.headD []))[1]? = some r
 hd:(ls.headD []).take 7 ≠ tx "script "
theorem noTit_eq {l r:Tx} (h:noTit l r=true):(spc 32 l)[1]? = some r:=by
 unfold noTit at h
 revert h
 cases (spc 32 l)[1]? with
 | none=>intro h; cases h
 | some n=>intro h; rw [of_decide_eq_true h]
theorem wrR_of {r:Tx} {ls:List Tx} {e:Err} (h:wrR r ls e=true):WrR r ls e:=by
 unfold wrR at h
 simp only [Bool.and_eq_true,Bool.not_eq_true',decide_eq_false_iff_not] at h
 exact ⟨isRE_eq h.1,gdB_of h.2.1,noTit_eq h.2.2.1,h.2.2.2⟩
theorem WrR.readD {r:Tx} {ls:List Tx} {e:Err} (h:WrR r ls e) (b:Bk):PR.readD b ls 0 = .error e:=by
 unfold PR.readD
 rw [if_neg h.hd,h.rd]
theorem WrR.ne {r:Tx} {ls:List Tx} {e:Err} (h:WrR r ls e):ls ≠ []:=fun z=>by
 have:=h.tt
 rw [z] at this
 revert this
 rw [show (spc 32 (([]:List Tx).headD []))[1]? = none by rfl]
 intro z
 cases z
theorem e0 {r:Tx} {ls q:List Tx} {e:Err} (h:WrR r ls e) (hq:∀ l∈q,10 ∉ l):readBook (jn 10 (ls++[] :: q)) = .error e:=by
 rw [sp53 (by simp) fun l hl=>?_]
 ·obtain ⟨n,hn⟩:∃ n,(ls++[] :: q).length=n + 1:=⟨(ls++[] :: q).length - 1,by rw [List.length_append,List.length_cons]; omega⟩
  rw [hn,b_err h.ne (fun l hl=>(h.gd l hl).1) (by unfold titleIn; rw [h.tt]; rfl) (h.readD []) (.inr ⟨q,rfl⟩),shE_zero]
 ·rcases List.mem_append.mp hl with hl | hl
  ·exact (h.gd l hl).2
  rcases List.mem_cons.mp hl with rfl | hl
  ·simp
  ·exact hq l hl
theorem r1_ne0:tx "r" ++ TL.numL 1 ≠ tx "r0" := by decide +kernel
section
variable {d0 d1:Nat} (h0:d0 < 8) (h1:d1 < 8)
include h0 h1
theorem e1 {ls q:List Tx} {e:Err} (h:WrR (tx "r" ++ TL.numL 1) ls e) (hq:∀ l∈q,10 ∉ l):readBook (jn 10 (rP 0 d0++[] :: (ls++[] :: q))) = .error (shE (s2of d0) e):=by
 obtain ⟨b1,b2,_,_,l1,_,p1,_,_,_,_⟩:=pre53 h0 h1
 have i0:=rd_i (i:=0) (by decide) h0
 rw [sp53 (by simp) fun l hl=>?_]
 ·obtain ⟨n,hn⟩:∃ n,(rP 0 d0++[] :: (ls++[] :: q)).length=n + 1 + 1:=⟨(rP 0 d0++[] :: (ls++[] :: q)).length - 2,by simp only [List.length_append,List.length_cons]; omega⟩
  have hne:=h.ne
  have hg:=h.gd
  obtain ⟨x,r,e2⟩:∃ x r,ls=x :: r:=by
   cases ls with
   | nil=>exact absurd rfl hne
   | cons x r=>exact ⟨x,r,rfl⟩
  rw [hn]
  have:=p1 (n + 1) (r++[] :: q) x (hg x (by rw [e2]; exact List.mem_cons_self)).1
  rw [← List.cons_append,← e2] at this
  rw [this]
  exact b_err h.ne (fun l hl=>(h.gd l hl).1) (by unfold titleIn; rw [h.tt]; dsimp only; rw [l1,decide_eq_false r1_ne0]) (h.readD b1) (.inr ⟨q,rfl⟩)
 ·rcases List.mem_append.mp hl with hl | hl
  ·exact i0.nl l hl
  rcases List.mem_cons.mp hl with rfl | hl
  ·simp
  rcases List.mem_append.mp hl with hl | hl
  ·exact (h.gd l hl).2
  rcases List.mem_cons.mp hl with rfl | hl
  ·simp
  ·exact hq l hl
theorem g0 {q:List Tx} (hq:∀ l∈q,10 ∉ l):readBook (jn 10 (rP 0 d0++[] :: [] :: q)) = .error (.bad (s2of d0)):=by
 have i0:=rd_i (i:=0) (by decide) h0
 obtain ⟨b1,b2,_,_,_,_,_,_,⟨d,hd⟩,_,_⟩:=pre53 h0 h1
 rw [sp53 (by simp) fun l hl=>?_]
 ·obtain ⟨n,hn⟩:∃ n,(rP 0 d0++[] :: [] :: q).length=n + 1:=⟨(rP 0 d0++[] :: [] :: q).length - 1,by simp only [List.length_append,List.length_cons]; omega⟩
  rw [hn,b_gap (by simp [rP]) i0.ne (by unfold titleIn; rw [i0.tt]; rfl) hd (.inr ⟨q,rfl⟩)]
  unfold s2of
  rw [Nat.zero_add]
 ·rcases List.mem_append.mp hl with hl | hl
  ·exact i0.nl l hl
  rcases List.mem_cons.mp hl with rfl | hl
  ·simp
  rcases List.mem_cons.mp hl with rfl | hl
  ·simp
  ·exact hq l hl
theorem g1 {q:List Tx} (hq:∀ l∈q,10 ∉ l):readBook (jn 10 (rP 0 d0++[] :: (rP 1 d1++[] :: [] :: q))) = .error (.bad (s3of d0 d1)):=by
 have i0:=rd_i (i:=0) (by decide) h0
 have i1:=rd_i (i:=1) (by decide) h1
 obtain ⟨b1,b2,_,_,_,_,p1,_,_,⟨d,hd⟩,ht⟩:=pre53 h0 h1
 rw [sp53 (by simp) fun l hl=>?_]
 ·obtain ⟨n,hn⟩:∃ n,(rP 0 d0++[] :: (rP 1 d1++[] :: [] :: q)).length=n + 1 + 1:=⟨(rP 0 d0++[] :: (rP 1 d1++[] :: [] :: q)).length - 2,by simp only [List.length_append,List.length_cons]; omega⟩
  have hR:(rP 1 d1)=(rP 1 d1).headD [] :: (rP 1 d1).tail:=rfl
  have hn1:(rP 1 d1).headD [] ≠ []:=i1.ne _ (by unfold rP; exact List.mem_cons_self)
  rw [hn,hR,List.cons_append,p1 _ _ _ hn1,← List.cons_append,← hR,b_gap (by simp [rP]) i1.ne ht hd (.inr ⟨q,rfl⟩)]
  unfold s2of s3of
  rfl
 ·rcases List.mem_append.mp hl with hl | hl
  ·exact i0.nl l hl
  rcases List.mem_cons.mp hl with rfl | hl
  ·simp
  rcases List.mem_append.mp hl with hl | hl
  ·exact i1.nl l hl
  rcases List.mem_cons.mp hl with rfl | hl
  ·simp
  rcases List.mem_cons.mp hl with rfl | hl
  ·simp
  ·exact hq l hl
theorem t1 {x:Tx} {q:List Tx} (hx:x ≠ []∧10 ∉ x) (ht:(spc 32 x)[1]? = some (tx "r0")) (hq:∀ l∈q,10 ∉ l):readBook (jn 10 (rP 0 d0++[] :: x :: q)) = .error (.bad (s2of d0 + 1)):=by
 obtain ⟨b1,b2,_,_,l1,_,p1,_,_,_,_⟩:=pre53 h0 h1
 have i0:=rd_i (i:=0) (by decide) h0
 rw [sp53 (by simp) fun l hl=>?_]
 ·obtain ⟨n,hn⟩:∃ n,(rP 0 d0++[] :: x :: q).length=n + 1 + 1:=⟨(rP 0 d0++[] :: x :: q).length - 2,by simp only [List.length_append,List.length_cons]; omega⟩
  rw [hn,p1 _ _ _ hx.1,b_title hx.1 (by unfold titleIn; rw [ht]; dsimp only; rw [l1]; rfl)]
 ·rcases List.mem_append.mp hl with hl | hl
  ·exact i0.nl l hl
  rcases List.mem_cons.mp hl with rfl | hl
  ·simp
  rcases List.mem_cons.mp hl with rfl | hl
  ·exact hx.2
  ·exact hq l hl
theorem to2 {x:Tx} {q:List Tx} (hx:x ≠ []∧10 ∉ x) (hq:∀ l∈q,10 ∉ l):∃ b2:Bk,∃ n,(∀ y,(look b2 y).isSome=(decide (y=tx "r0") || decide (y=tx "r1")))∧readBook (jn 10 (pre2 d0 d1++x :: q))=readB (n + 1) b2 (s3of d0 d1) (x :: q):=by
 obtain ⟨b1,b2,_,_,_,l2,p1,p2,_,_,_⟩:=pre53 h0 h1
 have hR:(rP 1 d1)=(rP 1 d1).headD [] :: (rP 1 d1).tail:=rfl
 have hn1:(rP 1 d1).headD [] ≠ []:=(rd_i (i:=1) (by decide) h1).ne _ (by unfold rP; exact List.mem_cons_self)
 obtain ⟨n,hn,n1⟩:=n_of (d0:=d0) (d1:=d1) (x :: q)
 refine ⟨b2,n,l2,?_⟩
 rw [sp53 (by simp) fun l hl=>(List.mem_append.mp hl).elim (pre2_nl h0 h1 l) fun m=>(List.mem_cons.mp m).elim (fun z=>by rw [z]; exact hx.2) (hq l),hn,show n + 3=n + 1 + 1 + 1 by omega,pre2_cons]
 rw [hR,List.cons_append,p1 _ _ _ hn1,← List.cons_append,← hR,p2 _ _ _ hx.1]
theorem t2 {x:Tx} {q:List Tx} (hx:x ≠ []∧10 ∉ x) (ht:(spc 32 x)[1]? = some (tx "r0")∨(spc 32 x)[1]? = some (tx "r1")) (hq:∀ l∈q,10 ∉ l):readBook (jn 10 (pre2 d0 d1++x :: q)) = .error (.bad (s3of d0 d1 + 1)):=by
 obtain ⟨b2,n,l2,e⟩:=to2 h0 h1 hx hq
 rw [e,b_title hx.1]
 unfold titleIn
 rcases ht with ht | ht
 ·rw [ht]; dsimp only; rw [l2]; rfl
 ·rw [ht]; dsimp only; rw [l2]; rfl
theorem w6 {x:Tx} {q:List Tx} (hw:chkW x=true) (hq:Gd q):readBook (jn 10 (pre2 d0 d1++x :: q)) = .error (.bad (s3of d0 d1 + 1)):=by
 unfold chkW at hw
 simp only [Bool.and_eq_true,Bool.not_eq_true',decide_eq_false_iff_not] at hw
 obtain ⟨w1,w2,w3,w4⟩:=hw
 have hx:x ≠ []∧10 ∉ x:=⟨fun z=>(by rw [z] at w1; cases w1),w2⟩
 obtain ⟨b2,n,l2,e⟩:=to2 h0 h1 hx fun l hl=>(hq l hl).2
 have hf:firstL x (if x.take 7=tx "script " then tx "script" else tx "routine")=none:=by
  cases y:firstL x (if x.take 7=tx "script " then tx "script" else tx "routine") with
  | none=>rfl
  | some z=>rw [y] at w4; cases w4
 have:=b_err (n:=n) (st:=s3of d0 d1) (b:=b2) (t:=x :: q) (r:=[]) (e := .bad 1) (by simp) (fun l hl=>(List.mem_cons.mp hl).elim (fun z=>by rw [z]; exact hx.1) fun m=>(hq l m).1) (by
  unfold titleIn
  show (match (spc 32 x)[1]? with | some n=>(look b2 n).isSome | none=>false)=false
  revert w3
  cases (spc 32 x)[1]? with
  | none=>intro _; rfl
  | some m =>
   dsimp only
   intro w3
   simp only [Bool.and_eq_true,Bool.not_eq_true',decide_eq_false_iff_not] at w3
   rw [l2,decide_eq_false w3.1,decide_eq_false w3.2]
   rfl) (by
  unfold PR.readD
  by_cases c:x.take 7=tx "script "
  ·rw [if_pos (show ((x :: q).headD []).take 7=tx "script " from c)]
   rw [if_pos c] at hf
   unfold sread
   dsimp only
   rw [hf]
  ·rw [if_neg (show ¬ ((x :: q).headD []).take 7=tx "script " from c)]
   rw [if_neg c] at hf
   unfold PR.read
   dsimp only
   rw [hf]) (.inl rfl)
 rw [List.append_nil] at this
 rw [e,this]
 rfl
end
end PR

namespace PR
open RD
def Good53 (r:List Tx × Option Err) (b:Bool):Prop:=match r.2 with
 | none=>∃ bk,readBook (jn 10 (both53 r b)) = .ok bk∧bk.length=3
 | some e=>readBook (jn 10 (both53 r b)) = .error e
section
variable {d0 d1:Nat} (h0:d0 < 8) (h1:d1 < 8) {hs:List Tx} (hh:hs∈hss d0) {e:Nat} (he:e < 3)
include h0 h1 hh he
theorem nlS:∀ l∈sP d1 hs e,10 ∉ l:=fun l hl=>(gdB_of (a2_of h0 h1 hh he).gd l hl).2
theorem c0 (k:Nat) (b:Bool):Good53 ((inBook (pre2 d0 d1++sP d1 hs e) (s2of d0) (s3of d0 d1) 0 k).1,some (inBook (pre2 d0 d1++sP d1 hs e) (s2of d0) (s3of d0 d1) 0 k).2) b:=by
 unfold inBook
 rw [if_pos rfl]
 by_cases hk:k % 2=0
 ·rw [if_pos hk]
  show readBook (jn 10 (both53 ([[]]++(pre2 d0 d1++sP d1 hs e),some (.bad 1)) b)) = .error (.bad 1)
  obtain ⟨q',e1,e2,e3,_⟩:=both_any (p:=[[]]) (q:=pre2 d0 d1++sP d1 hs e) (e := .bad 1) (b:=b) (by simp [pre2]) (nl_S h0 h1 hh he)
  rw [e1]
  show readBook (jn 10 ([] :: q'))=_
  rw [sp53 (by simp) fun l hl=>(List.mem_cons.mp hl).elim (fun z=>by rw [z]; exact List.not_mem_nil) (e3 l)]
  exact b_empty
 ·rw [if_neg hk]
  show readBook (jn 10 (both53 (pre2 d0 d1++sP d1 hs e++[[]],some (.bad ((pre2 d0 d1++sP d1 hs e).length + 1))) b))=_
  obtain ⟨b3,d,_,_,_,_,_,_,k3⟩:=three53 h0 h1 hh he
  rw [both_stay (by simp only [errL,List.length_append,List.length_cons,List.length_nil]; omega),sp53 (by simp) fun l hl=>?_]
  ·obtain ⟨n,hn,_⟩:=n_of (d0:=d0) (d1:=d1) (sP d1 hs e++[[]])
   rw [List.append_assoc,hn,k3 n,List.length_append,pre2_len]
  ·rcases List.mem_append.mp hl with hl | hl
   ·exact nl_S h0 h1 hh he l hl
   ·rw [List.mem_singleton.mp hl]; simp
theorem takes:(pre2 d0 d1++sP d1 hs e).take (s2of d0)=rP 0 d0++[[]]∧(pre2 d0 d1++sP d1 hs e).drop (s2of d0)=rP 1 d1++[[]]++sP d1 hs e∧(pre2 d0 d1++sP d1 hs e).take (s3of d0 d1)=pre2 d0 d1∧(pre2 d0 d1++sP d1 hs e).drop (s3of d0 d1)=sP d1 hs e:=by
 have l2:s2of d0=(rP 0 d0++[[]]).length:=by unfold s2of; rw [List.length_append]; rfl
 have ea:pre2 d0 d1++sP d1 hs e=(rP 0 d0++[[]])++(rP 1 d1++[[]]++sP d1 hs e):=by unfold pre2; simp
 refine ⟨by rw [ea,l2]; exact List.take_left,by rw [ea,l2]; exact List.drop_left,by rw [← pre2_len]; exact List.take_left,by rw [← pre2_len]; exact List.drop_left⟩
theorem c1 (k:Nat) (b:Bool):Good53 ((inBook (pre2 d0 d1++sP d1 hs e) (s2of d0) (s3of d0 d1) 1 k).1,some (inBook (pre2 d0 d1++sP d1 hs e) (s2of d0) (s3of d0 d1) 1 k).2) b:=by
 obtain ⟨t1',t2',t3',t4'⟩:=takes h0 h1 hh he
 unfold inBook
 rw [if_neg (by decide),if_pos rfl]
 by_cases hk:k % 2=0
 ·rw [if_pos hk]
  have ep:put53 (pre2 d0 d1++sP d1 hs e) (s2of d0) []=(rP 0 d0++[[],[]]++(rP 1 d1++[[]]))++sP d1 hs e:=by unfold put53; rw [t1',t2']; simp
  show readBook (jn 10 (both53 (put53 (pre2 d0 d1++sP d1 hs e) (s2of d0) [],some (.bad (s2of d0))) b))=_
  rw [ep]
  obtain ⟨q',e1,e2,e3,_⟩:=both_any (p:=rP 0 d0++[[],[]]++(rP 1 d1++[[]])) (q:=sP d1 hs e) (e := .bad (s2of d0)) (b:=b) (by rw [sP_eq]; simp) (nlS h0 h1 hh he)
  rw [e1]
  have eq:rP 0 d0++[[],[]]++(rP 1 d1++[[]])++q'=rP 0 d0++[] :: [] :: (rP 1 d1++[[]]++q'):=by simp
  rw [eq]
  refine g0 h0 h1 fun l hl=>?_
  rcases List.mem_append.mp hl with hl | hl
  ·rcases List.mem_append.mp hl with hl | hl
   ·exact (rd_i (by decide) h1).nl l hl
   ·rw [List.mem_singleton.mp hl]; simp
  ·exact e3 l hl
 ·rw [if_neg hk]
  have ep:put53 (pre2 d0 d1++sP d1 hs e) (s3of d0 d1) []=(pre2 d0 d1++[[]])++sP d1 hs e:=by unfold put53; rw [t3',t4']
  show readBook (jn 10 (both53 (put53 (pre2 d0 d1++sP d1 hs e) (s3of d0 d1) [],some (.bad (s3of d0 d1))) b))=_
  rw [ep]
  obtain ⟨q',e1,e2,e3,_⟩:=both_any (p:=pre2 d0 d1++[[]]) (q:=sP d1 hs e) (e := .bad (s3of d0 d1)) (b:=b) (by rw [sP_eq]; simp) (nlS h0 h1 hh he)
  rw [e1]
  have eq:pre2 d0 d1++[[]]++q'=rP 0 d0++[] :: (rP 1 d1++[] :: [] :: q'):=by unfold pre2; simp
  rw [eq]
  exact g1 h0 h1 e3
end
end PR

namespace PR
open RD
theorem gD_l {A X:List Tx} {j:Nat} (h:j < A.length):(A++X).getD j []=A.getD j []:=by
 rw [List.getD_eq_getElem?_getD,List.getD_eq_getElem?_getD,List.getElem?_append_left h]
theorem gD_r {A X:List Tx} {j:Nat}:(A++X).getD (A.length + j) []=X.getD j []:=by
 rw [List.getD_eq_getElem?_getD,List.getD_eq_getElem?_getD,List.getElem?_append_right (by omega),show A.length + j - A.length=j by omega]
theorem tk_r {A X:List Tx} {j:Nat}:(A++X).take (A.length + j)=A++X.take j:=by
 rw [List.take_append,List.take_of_length_le (by omega),show A.length + j - A.length=j by omega]
theorem dr_r {A X:List Tx} {j:Nat}:(A++X).drop (A.length + j)=X.drop j:=by
 rw [List.drop_append,List.drop_of_length_le (by omega),List.nil_append,show A.length + j - A.length=j by omega]
theorem sub_l {A X:List Tx} {j:Nat} {x:Tx} (h:j < A.length):sub53 (A++X) j x=sub53 A j x++X:=by
 unfold sub53
 rw [List.take_append_of_le_length (by omega),List.drop_append_of_le_length (by omega)]
 simp
theorem sub_r {A X:List Tx} {j:Nat} {x:Tx}:sub53 (A++X) (A.length + j) x=A++sub53 X j x:=by
 unfold sub53
 rw [tk_r,Nat.add_assoc,dr_r]
 simp
theorem rP_len (i d:Nat) : 1≤(rP i d).length:=by unfold rP; rw [List.length_cons]; omega
theorem isTell5_le (l:Tx):isTell5 l≤1:=by unfold isTell5; split <;> omega
section
variable {d0 d1:Nat} (h0:d0 < 8) (h1:d1 < 8) {hs:List Tx} {e:Nat}
theorem L0:pre2 d0 d1++sP d1 hs e=rP 0 d0++([[]]++(rP 1 d1++[[]]++sP d1 hs e)):=by unfold pre2; simp
theorem L1:pre2 d0 d1++sP d1 hs e=(rP 0 d0++[[]])++(rP 1 d1++([[]]++sP d1 hs e)):=by unfold pre2; simp
theorem L2:(rP 0 d0++[[]]).length=s2of d0:=by unfold s2of; rw [List.length_append]; rfl
theorem L3:s3of d0 d1=s2of d0 + ((rP 1 d1).length + 1):=rfl
include h0 h1
theorem good0 {ls:List Tx} {er:Err} (h:WrR (tx "r0") ls er) {q:List Tx} (hq:q ≠ []) (hn:∀ l∈q,10 ∉ l) (b:Bool):Good53 (ls++([[]]++q),some er) b:=by
 show readBook (jn 10 (both53 (ls++([[]]++q),some er) b)) = .error er
 obtain ⟨q',e1,_,e3,_⟩:=both_any (p:=ls++[[]]) (q:=q) (e:=er) (b:=b) hq hn
 rw [← List.append_assoc,e1]
 have eq:ls++[[]]++q'=ls++[] :: q':=by simp
 rw [eq]
 exact e0 h e3
theorem good1 {ls:List Tx} {er:Err} (h:WrR (tx "r" ++ TL.numL 1) ls er) {q:List Tx} (hq:q ≠ []) (hn:∀ l∈q,10 ∉ l) (b:Bool):Good53 ((rP 0 d0++[[]])++(ls++([[]]++q)),some (shE (s2of d0) er)) b:=by
 show readBook (jn 10 (both53 ((rP 0 d0++[[]])++(ls++([[]]++q)),some (shE (s2of d0) er)) b)) = .error (shE (s2of d0) er)
 obtain ⟨q',g1,_,e3,_⟩:=both_any (p:=rP 0 d0++[[]]++(ls++[[]])) (q:=q) (e:=shE (s2of d0) er) (b:=b) hq hn
 have eq0:(rP 0 d0++[[]])++(ls++([[]]++q))=rP 0 d0++[[]]++(ls++[[]])++q:=by simp
 rw [eq0,g1]
 have eq:rP 0 d0++[[]]++(ls++[[]])++q'=rP 0 d0++[] :: (ls++[] :: q'):=by simp
 rw [eq]
 exact e1 h0 h1 h e3
end
section
variable {d0 d1:Nat} (h0:d0 < 8) (h1:d1 < 8) {hs:List Tx} (hh:hs∈hss d0) {e:Nat} (he:e < 3)
include h0 h1 hh he
theorem q0:rP 1 d1++[[]]++sP d1 hs e ≠ []∧∀ l∈rP 1 d1++[[]]++sP d1 hs e,10 ∉ l:=by
 refine ⟨by simp [rP],fun l hl=>?_⟩
 rcases List.mem_append.mp hl with hl | hl
 ·rcases List.mem_append.mp hl with hl | hl
  ·exact (rd_i (by decide) h1).nl l hl
  ·rw [List.mem_singleton.mp hl]; exact List.not_mem_nil
 ·exact nlS h0 h1 hh he l hl
theorem q1:sP d1 hs e ≠ []∧∀ l∈sP d1 hs e,10 ∉ l:=⟨by rw [sP_eq]; simp,nlS h0 h1 hh he⟩
theorem c2 (k:Nat) (b:Bool):Good53 ((inBook (pre2 d0 d1++sP d1 hs e) (s2of d0) (s3of d0 d1) 2 k).1,some (inBook (pre2 d0 d1++sP d1 hs e) (s2of d0) (s3of d0 d1) 2 k).2) b:=by
 have hr:=rP_len 0 d0
 have ht:=isTell5_le ((rP 0 d0).getD ((rP 0 d0).length - 1) [])
 obtain ⟨_,t2',_,_⟩:=takes h0 h1 hh he
 unfold inBook
 rw [if_neg (by decide),if_neg (by decide),if_pos rfl]
 have ea:(pre2 d0 d1++sP d1 hs e).take (s2of d0 - 1)++(if k % 2=1 then [tx " "] else [])++(pre2 d0 d1++sP d1 hs e).drop (s2of d0)=(rP 0 d0++gapB (k % 2)++rP 1 d1)++([[]]++sP d1 hs e):=by
  rw [t2',L0,List.take_append_of_le_length (by unfold s2of; omega),List.take_of_length_le (by unfold s2of; omega)]
  unfold gapB
  simp
 have eb:s2of d0 - isTell5 ((pre2 d0 d1++sP d1 hs e).getD (s2of d0 - 2) [])=last5 (rP 0 d0) + 1:=by
  rw [L0,gD_l (by unfold s2of; omega),show s2of d0 - 2=(rP 0 d0).length - 1 by unfold s2of; omega]
  unfold last5 s2of
  omega
 show Good53 ((pre2 d0 d1++sP d1 hs e).take (s2of d0 - 1)++(if k % 2=1 then [tx " "] else [])++(pre2 d0 d1++sP d1 hs e).drop (s2of d0),some (.bad (s2of d0 - isTell5 ((pre2 d0 d1++sP d1 hs e).getD (s2of d0 - 2) [])))) b
 rw [ea,eb]
 have hc:=List.all_eq_true.mp (chkG_ok d0 h0 d1 h1) (k % 2) (List.mem_range.mpr (by omega))
 exact good0 h0 h1 (wrR_of hc) (q1 h0 h1 hh he).1 (q1 h0 h1 hh he).2 b
theorem chkR_a {i d:Nat} (hi:i < 2) (hd:d < 8) {j:Nat} (hj:j < (rP i d).length - 1):WrR (tx "r" ++ TL.numL i) (sub53 (rP i d) (j + 1) ((rP i d).getD (j + 1) []++tx " ")) (.bad (j + 2)):=by
 have hc:=chkR_ok i hi d hd
 unfold chkR at hc
 exact wrR_of (List.all_eq_true.mp (Bool.and_eq_true _ _ ▸ hc).1 j (List.mem_range.mpr hj))
end
end PR

namespace PR
open RD
section
variable {d0 d1:Nat} (h0:d0 < 8) (h1:d1 < 8) {hs:List Tx} (hh:hs∈hss d0) {e:Nat} (he:e < 3)
theorem hdT (i d:Nat):rP i d=(rP i d).headD [] :: (rP i d).tail:=rfl
theorem noTit1 {h r:Tx} {m:Nat} (hc:chkT h r m=true):(jn 32 ((spc 32 h).set 1 r) ≠ []∧10 ∉ jn 32 ((spc 32 h).set 1 r))∧(spc 32 (jn 32 ((spc 32 h).set 1 r)))[1]? = some r:=by
 unfold chkT at hc
 simp only [Bool.and_eq_true,Bool.not_eq_true',decide_eq_false_iff_not,List.isEmpty_eq_false_iff] at hc
 exact ⟨⟨hc.1,hc.2.1⟩,noTit_eq hc.2.2⟩
include h0 h1 hh he
theorem c3 (k:Nat) (b:Bool):Good53 ((inBook (pre2 d0 d1++sP d1 hs e) (s2of d0) (s3of d0 d1) 3 k).1,some (inBook (pre2 d0 d1++sP d1 hs e) (s2of d0) (s3of d0 d1) 3 k).2) b:=by
 unfold inBook
 rw [if_neg (by decide),if_neg (by decide),if_neg (by decide),if_pos rfl]
 by_cases hk:k % 2=0
 ·simp only [if_pos hk]
  have z0:s2of d0=(rP 0 d0++[[]]).length + 0:=L2.symm
  have eg:(pre2 d0 d1++sP d1 hs e).getD (s2of d0) []=(rP 1 d1).headD []:=by
   rw [L1,z0,gD_r,gD_l (rP_len 1 d1),hdT 1 d1]
   rfl
  obtain ⟨hx,ht⟩:=noTit1 (chkT_ok.1 d1 h1)
  rw [eg]
  generalize hX:jn 32 ((spc 32 ((rP 1 d1).headD [])).set 1 (tx "r0"))=x at hx ht ⊢
  have es:sub53 (pre2 d0 d1++sP d1 hs e) (s2of d0) x=(rP 0 d0++[[],x])++((rP 1 d1).tail++[[]]++sP d1 hs e):=by
   rw [L1,z0,sub_r,hdT 1 d1]
   unfold sub53
   simp
  rw [es]
  show readBook (jn 10 (both53 (_,some (.bad (s2of d0 + 1))) b)) = .error (.bad (s2of d0 + 1))
  have hq:=q0 h0 h1 hh he
  obtain ⟨q',g1,_,g3,_⟩:=both_any (p:=rP 0 d0++[[],x]) (q:=(rP 1 d1).tail++[[]]++sP d1 hs e) (e := .bad (s2of d0 + 1)) (b:=b) (by simp) fun l hl=>hq.2 l (by rw [hdT 1 d1]; exact List.mem_cons_of_mem _ hl)
  rw [g1]
  have eq:rP 0 d0++[[],x]++q'=rP 0 d0++[] :: x :: q':=by simp
  rw [eq]
  exact t1 h0 h1 hx ht g3
 ·simp only [if_neg hk]
  have eg:(pre2 d0 d1++sP d1 hs e).getD (s3of d0 d1) []=tx "script s a b" := by
   rw [← pre2_len,show (pre2 d0 d1).length=(pre2 d0 d1).length + 0 from rfl,gD_r]
   rfl
  rw [eg]
  have key:∀ r:Tx,(r=tx "r0" ∨ r=tx "r1")→Good53 (sub53 (pre2 d0 d1++sP d1 hs e) (s3of d0 d1) (jn 32 ((spc 32 (tx "script s a b")).set 1 r)),some (.bad (s3of d0 d1 + 1))) b:=by
   intro r hr
   have hx0:∃ m,chkT (tx "script s a b") r m=true:=by
    rcases hr with rfl | rfl
    ·exact ⟨0,chkT_ok.2.1⟩
    ·exact ⟨0,chkT_ok.2.2⟩
   obtain ⟨m,hm⟩:=hx0
   obtain ⟨hx,ht⟩:=noTit1 hm
   generalize hX:jn 32 ((spc 32 (tx "script s a b")).set 1 r)=x at hx ht ⊢
   have es:sub53 (pre2 d0 d1++sP d1 hs e) (s3of d0 d1) x=(pre2 d0 d1++[x])++(l1T :: tail53 d1 hs e):=by
    rw [← pre2_len,show (pre2 d0 d1).length=(pre2 d0 d1).length + 0 from rfl,sub_r,sP_eq]
    unfold sub53
    simp
   rw [es]
   show readBook (jn 10 (both53 (_,some (.bad (s3of d0 d1 + 1))) b)) = .error (.bad (s3of d0 d1 + 1))
   have hq:=nlS h0 h1 hh he
   obtain ⟨q',g1,_,g3,_⟩:=both_any (p:=pre2 d0 d1++[x]) (q:=l1T :: tail53 d1 hs e) (e := .bad (s3of d0 d1 + 1)) (b:=b) (by simp) fun l hl=>hq l (by rw [sP_eq]; exact List.mem_cons_of_mem _ hl)
   rw [g1]
   have eq:pre2 d0 d1++[x]++q'=pre2 d0 d1++x :: q':=by simp
   rw [eq]
   exact t2 h0 h1 hx (by rcases hr with rfl | rfl; exact .inl ht; exact .inr ht) g3
  by_cases hk2:k / 2 % 2=0
  ·rw [if_pos hk2]; exact key _ (.inl rfl)
  ·rw [if_neg hk2]; exact key _ (.inr rfl)
theorem c6 (k:Nat) (b:Bool):Good53 ((inBook (pre2 d0 d1++sP d1 hs e) (s2of d0) (s3of d0 d1) 6 k).1,some (inBook (pre2 d0 d1++sP d1 hs e) (s2of d0) (s3of d0 d1) 6 k).2) b:=by
 unfold inBook
 rw [if_neg (by decide),if_neg (by decide),if_neg (by decide),if_neg (by decide)]
 simp only
 rw [if_neg (by decide),if_neg (by decide),if_pos trivial]
 have hw:chkW (wrong6.getD (k % 10) [])=true:=List.all_eq_true.mp chkW_ok _ (getD_mem (show k % 10 < 10 by omega))
 generalize wrong6.getD (k % 10) []=x at hw ⊢
 have hx:x ≠ []∧10 ∉ x:=by
  have:=hw
  unfold chkW at this
  simp only [Bool.and_eq_true,Bool.not_eq_true',decide_eq_false_iff_not,List.isEmpty_eq_false_iff] at this
  exact ⟨this.1,this.2.1⟩
 have es:sub53 (pre2 d0 d1++sP d1 hs e) (s3of d0 d1) x=pre2 d0 d1++x :: (l1T :: tail53 d1 hs e):=by
  rw [← pre2_len,show (pre2 d0 d1).length=(pre2 d0 d1).length + 0 from rfl,sub_r,sP_eq]
  unfold sub53
  simp
 rw [es]
 show readBook (jn 10 (both53 (_,some (.bad (s3of d0 d1 + 1))) b)) = .error (.bad (s3of d0 d1 + 1))
 have hg:=gdB_of (a2_of h0 h1 hh he).gd
 obtain ⟨r',g1,_,g3⟩:=bothS_cons (x:=x) (r:=l1T :: tail53 d1 hs e) (e := .bad 1) (b:=b) (by simp) fun l hl=>(List.mem_cons.mp hl).elim (fun z=>z ▸ hx) fun z=>hg l (by rw [sP_eq]; exact List.mem_cons_of_mem _ z)
 have:=both_pre (p:=pre2 d0 d1) (S:=x :: l1T :: tail53 d1 hs e) (e := .bad 1) (b:=b) (by simp)
 rw [pre2_len] at this
 rw [show Err.bad (s3of d0 d1 + 1)=shE (s3of d0 d1) (.bad 1) from rfl,this,g1]
 exact w6 h0 h1 hw fun l hl=>g3 l (List.mem_cons_of_mem _ hl)
theorem c7 (k:Nat) (b:Bool):Good53 ((inBook (pre2 d0 d1++sP d1 hs e) (s2of d0) (s3of d0 d1) 7 k).1,some (inBook (pre2 d0 d1++sP d1 hs e) (s2of d0) (s3of d0 d1) 7 k).2) b:=by
 unfold inBook
 rw [if_neg (by decide),if_neg (by decide),if_neg (by decide),if_neg (by decide)]
 simp only
 rw [if_neg (by decide),if_neg (by decide),if_neg (by decide)]
 show readBook (jn 10 (both53 ([[]],some (.bad 1)) b)) = .error (.bad 1)
 rw [both_stay (by simp [errL]),sp53 (by simp) (by simp)]
 exact b_empty
end
end PR

namespace PR
open RD
theorem chkR_len:∀ {i d:Nat},i < 2→d < 8→2≤(rP i d).length:=by
 have:∀ i,i < 2→∀ d,d < 8→2≤(rP i d).length:=by decide +kernel
 exact fun {i d} h1 h2=>this i h1 d h2
section
variable {d0 d1:Nat} (h0:d0 < 8) (h1:d1 < 8) {hs:List Tx} (hh:hs∈hss d0) {e:Nat} (he:e < 3)
include h0 h1 hh he
theorem c4 (k:Nat) (b:Bool):Good53 ((inBook (pre2 d0 d1++sP d1 hs e) (s2of d0) (s3of d0 d1) 4 k).1,some (inBook (pre2 d0 d1++sP d1 hs e) (s2of d0) (s3of d0 d1) 4 k).2) b:=by
 unfold inBook
 rw [if_neg (by decide),if_neg (by decide),if_neg (by decide),if_neg (by decide)]
 simp only
 rw [if_pos trivial]
 have r0:=chkR_len (i:=0) (by decide) h0
 have r1:=chkR_len (i:=1) (by decide) h1
 by_cases hk:k / 2 % 2=0
 ·simp only [if_pos hk]
  have el:s2of d0 - 0 - 2=(rP 0 d0).length - 1:=by unfold s2of; omega
  rw [el]
  have hj:k / 4 % ((rP 0 d0).length - 1) < (rP 0 d0).length - 1:=Nat.mod_lt _ (by omega)
  generalize k / 4 % ((rP 0 d0).length - 1)=j at hj ⊢
  rw [show 0 + 1 + j=j + 1 by omega,L0,gD_l (by omega),sub_l (by omega)]
  exact good0 h0 h1 (chkR_a h0 h1 hh he (i:=0) (by decide) h0 hj) (q0 h0 h1 hh he).1 (q0 h0 h1 hh he).2 b
 ·simp only [if_neg hk]
  have el:s3of d0 d1 - s2of d0 - 2=(rP 1 d1).length - 1:=by rw [L3]; omega
  rw [el]
  have hj:k / 4 % ((rP 1 d1).length - 1) < (rP 1 d1).length - 1:=Nat.mod_lt _ (by omega)
  generalize k / 4 % ((rP 1 d1).length - 1)=j at hj ⊢
  have e5:s2of d0 + 1 + j=(rP 0 d0++[[]]).length + (j + 1):=by rw [L2]; omega
  rw [e5,L1,gD_r,sub_r,gD_l (by omega),sub_l (by omega),L2,show Err.bad (s2of d0 + (j + 1) + 1)=shE (s2of d0) (.bad (j + 2)) from rfl]
  exact good1 h0 h1 (chkR_a h0 h1 hh he (i:=1) (by decide) h1 hj) (q1 h0 h1 hh he).1 (q1 h0 h1 hh he).2 b
theorem chkR_b {i d:Nat} (hi:i < 2) (hd:d < 8):WrR (tx "r" ++ TL.numL i) ((rP i d).take (last5 (rP i d))++[tx "tell zz"]) (.unk (last5 (rP i d) + 1) (tx "zz"))∧WrR (tx "r" ++ TL.numL i) ((rP i d).take (last5 (rP i d))++[tx "tell g"]) (.knd (last5 (rP i d) + 1) (tx "g"))∧WrR (tx "r" ++ TL.numL i) ((rP i d).take (last5 (rP i d))++[tx "if a == a"]) (.bad (last5 (rP i d) + 2)):=by
 have hc:=chkR_ok i hi d hd
 unfold chkR at hc
 have hc:=(Bool.and_eq_true _ _ ▸ hc).2
 have ha:=(Bool.and_eq_true _ _ ▸ hc).1
 have hc:=(Bool.and_eq_true _ _ ▸ hc).2
 have hb:=(Bool.and_eq_true _ _ ▸ hc).1
 have hc:=(Bool.and_eq_true _ _ ▸ hc).2
 exact ⟨wrR_of ha,wrR_of hb,wrR_of hc⟩
theorem five0 {x:Tx} {er:Err} (h:WrR (tx "r0") ((rP 0 d0).take (last5 (rP 0 d0))++[x]) er) (b:Bool):Good53 ((pre2 d0 d1++sP d1 hs e).take (s2of d0 - 1 - isTell5 ((pre2 d0 d1++sP d1 hs e).getD (s2of d0 - 2) []))++[x]++(pre2 d0 d1++sP d1 hs e).drop (s2of d0 - 1),some er) b:=by
 have hr:=rP_len 0 d0
 rw [L0,gD_l (by unfold s2of; omega),show s2of d0 - 2=(rP 0 d0).length - 1 by unfold s2of; omega,show s2of d0 - 1=(rP 0 d0).length + 0 by unfold s2of; omega,dr_r,Nat.add_zero]
 rw [List.take_append_of_le_length (by omega)]
 exact good0 h0 h1 h (q0 h0 h1 hh he).1 (q0 h0 h1 hh he).2 b
theorem l0eq:s2of d0 - 1 - isTell5 ((pre2 d0 d1++sP d1 hs e).getD (s2of d0 - 2) [])=last5 (rP 0 d0):=by
 have hr:=rP_len 0 d0
 rw [L0,gD_l (by unfold s2of; omega),show s2of d0 - 2=(rP 0 d0).length - 1 by unfold s2of; omega,show s2of d0 - 1=(rP 0 d0).length by unfold s2of; omega]
 rfl
theorem l1eq:s3of d0 d1 - 1 - isTell5 ((pre2 d0 d1++sP d1 hs e).getD (s3of d0 d1 - 2) [])=s2of d0 + last5 (rP 1 d1):=by
 have hr:=rP_len 1 d1
 have ht:=isTell5_le ((rP 1 d1).getD ((rP 1 d1).length - 1) [])
 have e5:s3of d0 d1 - 2=(rP 0 d0++[[]]).length + ((rP 1 d1).length - 1):=by rw [L2,L3]; omega
 rw [e5,L1,gD_r,gD_l (by omega)]
 unfold last5
 rw [L3]
 omega
theorem five1 {x:Tx} {er:Err} (h:WrR (tx "r" ++ TL.numL 1) ((rP 1 d1).take (last5 (rP 1 d1))++[x]) er) (b:Bool):Good53 ((pre2 d0 d1++sP d1 hs e).take (s2of d0 + last5 (rP 1 d1))++[x]++(pre2 d0 d1++sP d1 hs e).drop (s3of d0 d1 - 1),some (shE (s2of d0) er)) b:=by
 have hl:last5 (rP 1 d1)≤(rP 1 d1).length:=by unfold last5; omega
 have e5:s3of d0 d1 - 1=(rP 0 d0++[[]]).length + ((rP 1 d1).length + 0):=by rw [L2,L3]; omega
 have e6:s2of d0 + last5 (rP 1 d1)=(rP 0 d0++[[]]).length + last5 (rP 1 d1):=by rw [L2]
 rw [e5,e6,L1,tk_r,dr_r,dr_r,List.take_append_of_le_length hl,List.drop_zero]
 have:=good1 h0 h1 h (q1 h0 h1 hh he).1 (q1 h0 h1 hh he).2 b
 rw [← List.append_assoc] at this
 rw [List.append_assoc,List.append_assoc,List.append_assoc]
 rw [List.append_assoc,List.append_assoc,List.append_assoc] at this
 exact this
theorem c5 (k:Nat) (b:Bool):Good53 ((inBook (pre2 d0 d1++sP d1 hs e) (s2of d0) (s3of d0 d1) 5 k).1,some (inBook (pre2 d0 d1++sP d1 hs e) (s2of d0) (s3of d0 d1) 5 k).2) b:=by
 unfold inBook
 rw [if_neg (by decide),if_neg (by decide),if_neg (by decide),if_neg (by decide)]
 simp only
 rw [if_neg (by decide),if_pos trivial]
 obtain ⟨a1,a2,a3⟩:=chkR_b h0 h1 hh he (i:=0) (by decide) h0
 obtain ⟨b1,b2,b3⟩:=chkR_b h0 h1 hh he (i:=1) (by decide) h1
 have l0:=l0eq h0 h1 hh he
 have l1:=l1eq h0 h1 hh he
 by_cases hk:k / 2 % 2=0
 ·simp only [if_pos hk]
  by_cases k1:k / 4 % 3=1
  ·simp only [if_pos k1]
   rw [show Err.unk (s2of d0 - 1 - isTell5 ((pre2 d0 d1++sP d1 hs e).getD (s2of d0 - 2) []) + 1) (tx "zz") = .unk (last5 (rP 0 d0) + 1) (tx "zz") by rw [l0]]
   exact five0 h0 h1 hh he a1 b
  ·simp only [if_neg k1]
   by_cases k2:k / 4 % 3=2
   ·simp only [if_pos k2]
    rw [show Err.knd (s2of d0 - 1 - isTell5 ((pre2 d0 d1++sP d1 hs e).getD (s2of d0 - 2) []) + 1) (tx "g") = .knd (last5 (rP 0 d0) + 1) (tx "g") by rw [l0]]
    exact five0 h0 h1 hh he a2 b
   ·simp only [if_neg k2]
    rw [show Err.bad (s2of d0 - 1 - isTell5 ((pre2 d0 d1++sP d1 hs e).getD (s2of d0 - 2) []) + 2) = .bad (last5 (rP 0 d0) + 2) by rw [l0]]
    exact five0 h0 h1 hh he a3 b
 ·simp only [if_neg hk]
  rw [l1]
  by_cases k1:k / 4 % 3=1
  ·simp only [if_pos k1]
   rw [Nat.add_assoc]
   exact five1 h0 h1 hh he b1 b
  ·simp only [if_neg k1]
   by_cases k2:k / 4 % 3=2
   ·simp only [if_pos k2]
    rw [Nat.add_assoc]
    exact five1 h0 h1 hh he b2 b
   ·simp only [if_neg k2]
    rw [Nat.add_assoc]
    exact five1 h0 h1 hh he b3 b
end
end PR

namespace PR
open RD
theorem put_r {A X:List Tx} {j:Nat} {x:Tx}:put53 (A++X) (A.length + j) x=A++put53 X j x:=by
 unfold put53
 rw [tk_r,dr_r]
 simp
theorem mE {hs:List Tx} {j:Nat} (h:j < 9):((more15 (callL hs)).getD j [],Err.bad 3)∈x53 hs:=by
 unfold x53
 exact List.mem_append_left _ (List.mem_append_right _ (List.mem_map.mpr ⟨_,getD_mem (show j < (more15 (callL hs)).length from h),rfl⟩))
theorem mA {hs:List Tx} {j:Nat} (h:j < 15):(wrong8.getD j [],Err.bad 3)∈x53 hs:=by
 unfold x53
 exact List.mem_append_left _ (List.mem_append_left _ (List.mem_append_left _ (List.mem_append_left _ (List.mem_append_left _ (List.mem_map.mpr ⟨_,getD_mem (show j < wrong8.length from h),rfl⟩)))))
theorem mB {hs:List Tx} {z:Tx × Err} (h:z∈[(tx "given a == b", Err.bad 3),(tx "tell a", Err.bad 3)]):z∈x53 hs:=by
 unfold x53
 exact List.mem_append_left _ (List.mem_append_left _ (List.mem_append_left _ (List.mem_append_left _ (List.mem_append_right _ h))))
theorem mC {hs:List Tx} {j:Nat} (h:j < 5):(tx "call " ++ n5.getD j []++tx " a b", Err.unk 3 (n5.getD j []))∈x53 hs:=by
 unfold x53
 exact List.mem_append_left _ (List.mem_append_left _ (List.mem_append_left _ (List.mem_append_right _ (List.mem_map.mpr ⟨_,getD_mem (show j < n5.length from h),rfl⟩))))
theorem mD {hs:List Tx} {j:Nat} (h:j < 3):(tx "call r0 " ++ jn 32 (m14 j hs),Err.bad 3)∈x53 hs:=by
 unfold x53
 exact List.mem_append_left _ (List.mem_append_left _ (List.mem_append_right _ (List.mem_map.mpr ⟨_,List.mem_range.mpr h,rfl⟩)))
theorem mF {hs:List Tx} {j i:Nat} (h:j < 4) (h2:i < 3):(f16 j i hs,Err.unk 3 (n4.getD j []))∈x53 hs:=by
 unfold x53
 exact List.mem_append_right _ (List.mem_flatten.mpr ⟨_,List.mem_map.mpr ⟨j,List.mem_range.mpr h,rfl⟩,List.mem_map.mpr ⟨i,List.mem_range.mpr h2,rfl⟩⟩)
theorem w11_eq (d1:Nat) (hs:List Tx) (e:Nat):w11 d1 hs e=(sP d1 hs e).take (0 + 2)++(List.range (21 - ((sP d1 hs e).length - 0 - 1))).map (fun j=>tx "let x" ++ TL.numL j++tx " = a.twin")++(sP d1 hs e).drop (0 + 2):=by
 unfold w11 inScript
 simp only
 rw [if_neg (by decide),if_neg (by decide),if_neg (by decide),if_pos trivial]
section
variable {d0 d1:Nat} (h0:d0 < 8) (h1:d1 < 8) {hs:List Tx} (hh:hs∈hss d0) {e:Nat} (he:e < 3)
include h0 h1 hh he
theorem gp3 {x:Tx} {er er':Err} (hz:(x,er)∈x53 hs) (h:er'=shE (s3of d0 d1) er) (b:Bool):Good53 (put53 (pre2 d0 d1++sP d1 hs e) (s3of d0 d1 + 2) x,some er') b:=by
 have:=put3 h0 h1 hh he hz b
 rw [h,← pre2_len,put_r]
 rw [← pre2_len] at this
 exact this
theorem gw {S:List Tx} {er er':Err} (hS:∃ r,S=tx "script s a b" :: r) (hg:gdB S=true) (hc:serr (bcl d0 d1) S=some er) (hl:S.length≤errL er) (h:er'=shE (s3of d0 d1) er) (b:Bool):Good53 (pre2 d0 d1++S,some er') b:=by
 obtain ⟨r,rfl⟩:=hS
 rw [h]
 exact whole53 h0 h1 hh he hg hc hl b
theorem cS {c:Nat} (hc8 : 8≤c) (hc20:c < 20) (k:Nat) (b:Bool):Good53 ((inScript (pre2 d0 d1++sP d1 hs e) (s3of d0 d1) c k (callL hs) hs).1,some (inScript (pre2 d0 d1++sP d1 hs e) (s3of d0 d1) c k (callL hs) hs).2) b:=by
 have A:=a2_of h0 h1 hh he
 unfold inScript
 simp only
 by_cases z8:c=8
 ·simp only [if_pos z8]
  exact gp3 h0 h1 hh he (mA (j:=k % 15) (by omega)) rfl b
 simp only [if_neg z8]
 by_cases z9:c=9
 ·simp only [if_pos z9]
  by_cases hk:k % 2=1
  ·simp only [if_pos hk]
   have hx:=put2 h0 h1 hh he (x:=tx "given a != zz") (er := .unk 2 (tx "zz")) (by decide +kernel) A.z b
   show readBook (jn 10 (both53 (put53 (pre2 d0 d1++sP d1 hs e) (s3of d0 d1 + 1) (tx "given a != zz"),some (shE (s3of d0 d1) (.unk 2 (tx "zz")))) b)) = .error (shE (s3of d0 d1) (.unk 2 (tx "zz")))
   rw [← pre2_len,put_r]
   rw [← pre2_len] at hx
   exact hx
  ·simp only [if_neg hk]
   exact gp3 h0 h1 hh he (mB (z:=(tx "given a == b", .bad 3)) (by simp)) rfl b
 simp only [if_neg z9]
 by_cases z10:c=10
 ·simp only [if_pos z10]
  exact gp3 h0 h1 hh he (mB (z:=(tx "tell a", .bad 3)) (by simp)) rfl b
 simp only [if_neg z10]
 by_cases z11:c=11
 ·simp only [if_pos z11]
  have ew:(pre2 d0 d1++sP d1 hs e).take (s3of d0 d1 + 2)++(List.range (21 - ((pre2 d0 d1++sP d1 hs e).length - s3of d0 d1 - 1))).map (fun j=>tx "let x" ++ TL.numL j++tx " = a.twin")++(pre2 d0 d1++sP d1 hs e).drop (s3of d0 d1 + 2)=pre2 d0 d1++w11 d1 hs e:=by
   rw [w11_eq,← pre2_len,tk_r,dr_r,List.length_append,show (pre2 d0 d1).length + (sP d1 hs e).length - (pre2 d0 d1).length - 1=(sP d1 hs e).length - 0 - 1 by omega]
   simp
  rw [ew]
  exact gw h0 h1 hh he ⟨_,by rw [w11_eq,sP_eq]; rfl⟩ A.w.2.1 A.w.1 (by rw [A.w.2.2]; exact Nat.le_refl 22) rfl b
 simp only [if_neg z11]
 by_cases z12:c < 14
 ·simp only [if_pos z12]
  exact gp3 h0 h1 hh he (mC (j:=k % 5) (by omega)) rfl b
 simp only [if_neg z12]
 by_cases z14:c=14
 ·simp only [if_pos z14]
  exact gp3 h0 h1 hh he (mD (j:=k % 3) (by omega)) rfl b
 simp only [if_neg z14]
 by_cases z15:c=15
 ·simp only [if_pos z15]
  exact gp3 h0 h1 hh he (mE (j:=k % 9) (by omega)) rfl b
 simp only [if_neg z15]
 by_cases z16:c=16
 ·simp only [if_pos z16]
  exact gp3 h0 h1 hh he (mF (j:=k % 4) (i:=k / 4 % 3) (by omega) (by omega)) rfl b
 simp only [if_neg z16]
 by_cases z17:c=17
 ·simp only [if_pos z17]
  obtain ⟨t1,t2⟩:=A.tell (n4.getD (k % 4) []) (getD_mem (show k % 4 < 4 by omega))
  show Good53 (pre2 d0 d1++sP d1 hs e++[tx "tell a " ++ n4.getD (k % 4) []],some (.unk ((pre2 d0 d1++sP d1 hs e).length + 1) (n4.getD (k % 4) []))) b
  rw [List.append_assoc]
  refine gw h0 h1 hh he ⟨_,by rw [sP_eq]; rfl⟩ ?_ t1 ?_ ?_ b
  ·unfold gdB
   rw [List.all_append,Bool.and_eq_true]
   exact ⟨A.gd,t2⟩
  ·simp [errL]
  ·rw [List.length_append,pre2_len]
   rfl
 simp only [if_neg z17]
 by_cases z18:c=18
 ·subst z18
  exact a18 h0 h1 hh he b
 ·have:c=19:=by omega
  subst this
  exact a19 h0 h1 hh he b
theorem good53 {c:Nat} (hc:c < 24) (k:Nat) (b:Bool):Good53 (spoil53 d0 d1 hs e c k) b:=by
 have eL:lines53 d0 d1 hs e=pre2 d0 d1++sP d1 hs e:=rfl
 unfold spoil53
 rw [eL]
 simp only
 by_cases c8:c < 8
 ·rw [if_pos c8]
  have:c=0∨c=1∨c=2∨c=3∨c=4∨c=5∨c=6∨c=7:=by omega
  rcases this with rfl | rfl | rfl | rfl | rfl | rfl | rfl | rfl
  ·exact c0 h0 h1 hh he k b
  ·exact c1 h0 h1 hh he k b
  ·exact c2 h0 h1 hh he k b
  ·exact c3 h0 h1 hh he k b
  ·exact c4 h0 h1 hh he k b
  ·exact c5 h0 h1 hh he k b
  ·exact c6 h0 h1 hh he k b
  ·exact c7 h0 h1 hh he k b
 rw [if_neg c8]
 by_cases c20:c < 20
 ·rw [if_pos c20]
  exact cS h0 h1 hh he (by omega) c20 k b
 rw [if_neg c20]
 by_cases c22:c < 22
 ·rw [if_pos c22]
  by_cases hi:c=21∧(jn 32 ((flines d0).drop ((flines d0).length - 1))).take 7=tx "tell p " ∧ k % 2=0
  ·rw [if_pos hi]
   have A:=a2_of h0 h1 hh he
   have hx:=put2 h0 h1 hh he (x:=tx "call x1 = " ++ callL hs) (er := .bad 2) (gdB_of A.x1g _ (by simp)) (A.x1 (by unfold is2; exact decide_eq_true hi.2.1)) b
   show readBook (jn 10 (both53 (put53 (pre2 d0 d1++sP d1 hs e) (s3of d0 d1 + 1) (tx "call x1 = " ++ callL hs),some (shE (s3of d0 d1) (.bad 2))) b)) = .error (shE (s3of d0 d1) (.bad 2))
   rw [← pre2_len,put_r]
   rw [← pre2_len] at hx
   exact hx
  ·rw [if_neg hi]
   by_cases hk:k % 2=0
   ·simp only [if_pos hk]
    exact a20 h0 h1 hh he (.inl rfl) b
   ·simp only [if_neg hk]
    exact a20 h0 h1 hh he (.inr rfl) b
 ·rw [if_neg c22]
  exact a22 h0 h1 hh he b
end
end PR

namespace RD
open PySem PySem.Spec PyProof.Rows L2 SX PR
section
variable {σ : L2.St} {H:Hp} {Q:VK} {K:PySem.W.Frag}
theorem catV {a b:Addr} {ls ms:List Tx} (h:H a=some (.lst (vsts ls))) (h':H b=some (.lst (vsts ms))) (hl:ls.length + ms.length≤10000) (q:∀ p H',H p=none→Same H H'→H' p=some (.lst (vsts (ls++ms)))→Q (.ref p) H'):rCat (.ref a) (.ref b) H Q :=
 cat h h' (Pf.szl (by rw [vsts_len,vsts_len]; omega)) fun p np=>q p _ np (same_new np) (by rw [upd_same,vsts_app])
theorem lstV (ls:List Tx) (hl:ls.length≤1000) (q:∀ p H',H p=none→Same H H'→H' p=some (.lst (vsts ls))→Q (.ref p) H'):LK Q (vsts ls) H :=
 ⟨Pf.szl (by rw [vsts_len]; omega),fun p np=>q p _ np (same_new np) upd_same⟩
theorem lstX (xs:List V) (hl:xs.length≤1000) (q:∀ p H',H p=none→Same H H'→H' p=some (.lst xs)→Q (.ref p) H'):LK Q xs H :=
 ⟨Pf.szl (by omega),fun p np=>q p _ np (same_new np) upd_same⟩
theorem slTo {a:Addr} {ls:List Tx} {k:Nat} (h:H a=some (.lst (vsts ls))) (q:∀ p H',H p=none→Same H H'→H' p=some (.lst (vsts (ls.take k)))→Q (.ref p) H'):rSlL K (.ref a) none (some (k:Nat)) H Q :=
 slL (Pf.sq h) fun p np=>q p _ np (same_new np) (by rw [upd_same,Pf.cut_to]; unfold vsts; rw [List.map_take])
theorem slFr {a:Addr} {ls:List Tx} {k:Nat} (h:H a=some (.lst (vsts ls))) (q:∀ p H',H p=none→Same H H'→H' p=some (.lst (vsts (ls.drop k)))→Q (.ref p) H'):rSlL K (.ref a) (some (k:Nat)) none H Q :=
 slL (Pf.sq h) fun p np=>q p _ np (same_new np) (by rw [upd_same,Pf.cut_from]; unfold vsts; rw [List.map_drop])
theorem splV {l:Tx} {c:Nat} (hc:c < 256) (hl:l.length≤1000000) (q:∀ p H',H p=none→Same H H'→H' p=some (.lst (vsts (spc c l)))→Q (.ref p) H'):rSplit (vst l) [vst [c]] H Q :=
 splt hc hl fun p np=>q p _ np (same_new np) upd_same
theorem intB {b:Bool} (q:Q (.int (if b=true then 1 else 0)) H):rInt [.bl b] H Q := .inr ⟨b,rfl,by cases b <;> exact q⟩
end
end RD
namespace Pf
open PySem PySem.Spec PyProof.Rows L2 SX RD PR
def dueV:Option Err→List V
 | none=>[vn 3]
 | some (.bad n)=>[vst (tx "bad"),vn n]
 | some (.unk n x)=>[vst (tx "unknown"),vn n,vst x]
 | some (.knd n x)=>[vst (tx "kind"),vn n,vst x]
def sp_l_told (A:Ad) (K:PySem.W.Frag):Sp:=fun vs H Q _=>∃ t:Tx,vs=[vst t]∧t.length≤1000000∧(spc 10 t).length≤1000∧(∀ l∈spc 10 t,l.length≤400) ∧
 (∀ b,readBook t = .ok b→b.length≤1000∧∀ (H':Hp) (r:Addr),Same H H'→H r=none→H' r=some (.lst [vn b.length])→Q (.ref r) H') ∧
 ∀ e,readBook t = .error e→∀ (H':Hp) (r:Addr),Same H H'→H r=none→H' r=some (.lst (dueV (some e)))→Q (.ref r) H'
section
variable {P:Program} {w:World} {K:PySem.W.Frag} {mg:Str→Option Value} {base:Heap} {A:Ad}
theorem zre (T:Txt K mg A):FnOk P w K mg base CX0 10 A.zh8 A.zic ["_law_text"] (sp_l_told A K):=by
 have zqh:=zpy (P:=P) (w:=w) (base:=base) T
 have zon:=zn2 (P:=P) (w:=w) (base:=base) T
 refine T.zj2.ok zmt (fun vs H Q E h=>?_) (fun cdv Ar outer s H vs Q E hr h=>?_)
 ·obtain ⟨t,rfl,_⟩:=h
  rfl
 ·obtain ⟨t,rfl,ht,hz,hl,qN,qE⟩:=h
  refine ⟨_,(pss_cons (RD.ps_try_manyA (i:=2) (n := "e") (tb:=fun W=>tAsg (tCallS (sp_read_book A K) (WE W) (tCons (tVar 0) tNil)) (gName 1)) (Wo:=fun _ _ _ _=>False) rfl rfl zmt.nd rfl rfl takes0
    (fun W pn xe tk _=>pss_one (ps_asg (by exact (pe_callS zqh (hr.mono (by decide)) rfl T.zqe T.zhp.kp T.zqk (fun σ=>passAt tk σ) (by exact (pa_cons (pv 0) pa_nil)))) (pg_name (i:=1) zmt.nd rfl (Or.inl rfl))))
    (RD.HdsA.cons (c := .ref A.zab) (ts:=fun a cls d=>RD.tWhen (cls = .ref A.zab∧∃ dd,d=some dd) (tRet (tLst (tCons (tC (.str "bad")) (tCons (tXf a cls d A.zab "line" (tVar 2)) tNil))))) ⟨rfl,by decide,Or.inl T.zcm⟩
    (fun a oe cls d pn hz hf=>RD.pss_when fun hcd=>by (obtain ⟨rfl,dd,rfl⟩:=hcd; exact (pss_one (ps_ret (pe_lst (pa_cons pe_str (pa_cons (pe_xf T.xf_BadLine T.zkw hz hf (pv 2)) pa_nil)))))))
    (RD.HdsA.cons (c := .ref A.zac) (ts:=fun a cls d=>RD.tWhen (cls = .ref A.zac∧∃ dd,d=some dd) (tRet (tLst (tCons (tC (.str "unknown")) (tCons (tXf a cls d A.zac "line" (tVar 2)) (tCons (tXf a cls d A.zac "name" (tVar 2)) tNil)))))) ⟨rfl,by decide,Or.inl T.zjc⟩
    (fun a oe cls d pn hz hf=>RD.pss_when fun hcd=>by (obtain ⟨rfl,dd,rfl⟩:=hcd; exact (pss_one (ps_ret (pe_lst (pa_cons pe_str (pa_cons (pe_xf T.xf_UnknownName T.zis hz hf (pv 2)) (pa_cons (pe_xf T.xf_UnknownName T.ziq hz hf (pv 2)) pa_nil))))))))
    (RD.HdsA.cons (c := .ref A.zaf) (ts:=fun a cls d=>RD.tWhen (cls = .ref A.zaf∧∃ dd,d=some dd) (tRet (tLst (tCons (tC (.str "kind")) (tCons (tXf a cls d A.zaf "line" (tVar 2)) (tCons (tXf a cls d A.zaf "name" (tVar 2)) tNil)))))) ⟨rfl,by decide,Or.inl T.znk⟩
    (fun a oe cls d pn hz hf=>RD.pss_when fun hcd=>by (obtain ⟨rfl,dd,rfl⟩:=hcd; exact (pss_one (ps_ret (pe_lst (pa_cons pe_str (pa_cons (pe_xf T.xf_WrongKind T.zjk hz hf (pv 2)) (pa_cons (pe_xf T.xf_WrongKind T.zjg hz hf (pv 2)) pa_nil))))))))
    RD.HdsA.nil))))
   (pss_one (ps_ret (pe_lst (pa_cons (pe_callB (RD.k_lenOwn (hr.mono (by decide)) zon T.zlh.at_ T.zlh.fn T.zoi pass0) (by rfl) T.zau (by decide +kernel) (pa_cons (pv 1) pa_nil)) pa_nil))))),?_⟩
  show tSeq _ _ _ [some (vst t),none,none] H
  refine RD.seq ?_
  show tAsg (tCallS _ _ _) _ _ _ _
  refine RD.asg ?_
  refine RD.callS ?_
  walk_at "rd"
  refine ⟨t,rfl,ht,hz,hl,fun bk ebk H' v hv s1=>?_,fun e he=>?_⟩
  ·walk_at "rd"
   obtain ⟨b3,q3⟩:=qN bk ebk
   have hb:=hv
   obtain ⟨bp,bx,bd,rfl,hbo,_⟩:=hv
   refine ⟨bp,bx,_,rfl,hbo,.ref bp,bk,rfl,hb,b3,(bk.length:Nat),rfl,by omega,by omega,?_⟩
   walk_at "rd"
   refine ⟨few,fun r nr=>?_⟩
   exact q3 _ r (s1.trans (same_new nr)) (s1.free nr) upd_same
  ·have qE:=qE e he
   cases e with
   | bad n =>
    intro H' dd s1 edd
    refine ⟨true,T.te_BadLine,fun _ a na=>⟨⟨rfl,dd,rfl⟩,?_⟩,fun z=>(nomatch z)⟩
    show tRet _ _ [some (vst t),none,some (.ref a)] H'
    walk_at "rd"
    refine ⟨rfl,rfl,dd,_,vn n,rfl,edd,rfl,?_⟩
    walk_at "rd"
    refine ⟨few,fun r nr=>?_⟩
    exact qE _ r (s1.trans (same_new nr)) (s1.free nr) upd_same
   | unk n x =>
    intro H' dd s1 edd
    refine ⟨false,T.zk8,fun z=>(nomatch z),fun _=>⟨true,T.te_UnknownName,fun _ a na=>⟨⟨rfl,dd,rfl⟩,?_⟩,fun z=>(nomatch z)⟩⟩
    show tRet _ _ [some (vst t),none,some (.ref a)] H'
    walk_at "rd"
    refine ⟨rfl,rfl,dd,_,vn n,rfl,edd,rfl,?_⟩
    walk_at "rd"
    refine ⟨rfl,rfl,dd,_,vst x,rfl,edd,rfl,?_⟩
    walk_at "rd"
    refine ⟨few,fun r nr=>?_⟩
    exact qE _ r (s1.trans (same_new nr)) (s1.free nr) upd_same
   | knd n x =>
    intro H' dd s1 edd
    refine ⟨false,T.zln,fun z=>(nomatch z),fun _=>⟨false,T.zkl,fun z=>(nomatch z),fun _=>⟨true,T.te_WrongKind,fun _ a na=>⟨⟨rfl,dd,rfl⟩,?_⟩,fun z=>(nomatch z)⟩⟩⟩
    show tRet _ _ [some (vst t),none,some (.ref a)] H'
    walk_at "rd"
    refine ⟨rfl,rfl,dd,_,vn n,rfl,edd,rfl,?_⟩
    walk_at "rd"
    refine ⟨rfl,rfl,dd,_,vst x,rfl,edd,rfl,?_⟩
    walk_at "rd"
    refine ⟨few,fun r nr=>?_⟩
    exact qE _ r (s1.trans (same_new nr)) (s1.free nr) upd_same
end
end Pf

namespace Pf
open PySem PySem.Spec PyProof.Rows L2 SX RD PR
def SpRes (H:Hp) (Q:VK) (z:List Tx × Err):Prop:=∀ (H':Hp) (p q r:Addr),H p=none→H q=none→H r=none→Same H H'→H' p=some (.lst [.ref q,.ref r])→H' q=some (.lst (vsts z.1))→H' r=some (.lst (dueV (some z.2)))→Q (.ref p) H'
theorem SpRes.fin {H G:Hp} {Q:VK} {z:List Tx × Err} (res:SpRes H Q z) {q r:Addr} (sG:Same H G) (nq:H q=none) (nr:H r=none) (hq:G q=some (.lst (vsts z.1))) (hr:G r=some (.lst (dueV (some z.2)))) :
  [V.ref q,V.ref r].length≤sizeLine∧∀ p,G p=none→Q (.ref p) (upd G p (.lst [.ref q,.ref r])) :=
 ⟨few,fun p np=>res _ p q r (sG.free np) nq nr (sG.trans (same_new np)) upd_same (same_new np _ _ hq) (same_new np _ _ hr)⟩
def sp_l_put:Sp:=fun vs H Q _=>∃ (p:Addr) (ls:List Tx) (a:Nat) (x:Tx),vs=[.ref p,vn a,vst x]∧H p=some (.lst (vsts ls))∧ls.length≤200 ∧
 ∀ (H':Hp) (r:Addr),H r=none→Same H H'→H' r=some (.lst (vsts (put53 ls a x)))→Q (.ref r) H'
def sp_l_below:Sp:=fun vs H Q _=>∃ (p:Addr) (ls:List Tx) (c:Nat),vs=[.ref p,vn c]∧H p=some (.lst (vsts ls))∧ls.length≤200∧SpRes H Q (below ls c)
section
variable {P:Program} {w:World} {K:PySem.W.Frag} {mg:Str→Option Value} {base:Heap} {A:Ad}
theorem znv (T:Txt K mg A):FnOk P w K mg base CX0 1 A.ziv A.ziw ["_law_lines", "_law_at", "_law_line"] (sp_l_put):=by
 refine T.zd7.ok zrv (fun vs H Q E h=>?_) (fun cdv Ar outer s H vs Q E hr h=>?_)
 ·obtain ⟨p,ls,a,x,rfl,_⟩:=h
  rfl
 ·obtain ⟨p,ls,a,x,rfl,hp,hl,q⟩:=h
  refine ⟨_,(pss_one (ps_ret (pe_op op_cat (pe_op op_cat (pe_slice (RD.k_slL (K:=K) rfl) (pv 0) po_none (po_some (pv 1))) (pe_lst (pa_cons (pv 2) pa_nil))) (pe_slice (RD.k_slL (K:=K) rfl) (pv 0) (po_some (pv 1)) po_none)))),?_⟩
  show tRet _ _ [some (.ref p),some (vn a),some (vst x)] H
  walk_at "rd"
  refine RD.slTo (k:=a) hp fun p1 G1 n1 t1 h1=>?_
  have m1:=n1
  walk_at "tx"
  refine RD.lstV [x] (by simp) fun p2 G2 n2 t2 h2=>?_
  refine RD.catV (t2 _ _ h1) h2 (by simp [List.length_take]; omega) fun p3 G3 n3 t3 h3=>?_
  have s3:=t1.trans (t2.trans t3)
  walk_at "rd"
  refine RD.slFr (k:=a) (s3 _ _ hp) fun p4 G4 n4 t4 h4=>?_
  refine RD.catV (t4 _ _ h3) h4 (by simp [List.length_take,List.length_drop]; omega) fun p5 G5 n5 t5 h5=>?_
  have s4:=s3.trans t4
  exact q _ _ (s4.free n5) (s4.trans t5) h5
theorem zqo (T:Txt K mg A):FnOk P w K mg base CX0 1 A.zg7 A.zg5 ["_law_lines", "_law_choice"] (sp_l_below):=by
 refine T.zi7.ok zn0 (fun vs H Q E h=>?_) (fun cdv Ar outer s H vs Q E hr h=>?_)
 ·obtain ⟨p,ls,c,rfl,_⟩:=h
  rfl
 ·obtain ⟨p,ls,c,rfl,hp,hl,res⟩:=h
  refine ⟨_,(pss_cons (ps_if (pt_cmpR op_eq (pv 1) pe_int (nomark _))
   (pss_one (ps_ret (pe_lst (pa_cons (pe_op op_cat (pv 0) (pe_lst (pa_cons pe_str (pa_cons pe_str (pa_cons pe_str pa_nil))))) (pa_cons (pe_lst (pa_cons pe_str (pa_cons (pe_op op_add (pe_callB (RD.k_len (K:=K) rfl) (by rfl) T.zau (by decide +kernel) (pa_cons (pv 0) pa_nil)) pe_int) (pa_cons pe_str pa_nil)))) pa_nil)))))
   pss_nil)
   (pss_cons (ps_set (i:=2) zn0.nd rfl (Or.inl rfl) (pe_lst (pa_cons pe_str (pa_cons pe_str (pa_cons pe_str (pa_cons pe_str (pa_cons pe_str (pa_cons pe_str pa_nil))))))))
   (pss_one (ps_ret (pe_lst (pa_cons (pe_op op_cat (pv 0) (pv 2)) (pa_cons (pe_lst (pa_cons pe_str (pa_cons (pe_op op_add (pe_callB (RD.k_len (K:=K) rfl) (by rfl) T.zau (by decide +kernel) (pa_cons (pv 0) pa_nil)) pe_int) (pa_cons pe_str pa_nil)))) pa_nil))))))),?_⟩
  show tSeq _ _ _ [some (.ref p),some (vn c),none] H
  walk_at "rd"
  unfold below at res
  refine RD.dec (fun c3=>?_) (fun c3=>?_)
  ·have c3:c=18:=by omega
   rw [if_pos c3] at res
   walk_at "tx"
   refine RD.lstV [[],tx "script t a b", tx "call s a b"] (by decide) fun p1 G1 n1 t1 h1=>?_
   refine RD.catV (t1 _ _ hp) h1 (by simp; omega) fun p2 G2 n2 t2 h2=>?_
   have s2:=t1.trans t2
   walk_at "rd"
   refine RD.len (sq (s2 _ _ hp)) ?_
   rw [vsts_len]
   walk_at "rd"
   rw [show ((ls.length:Nat):Int) + 3=((ls.length + 3:Nat):Int) by omega]
   walk_at "tx"
   refine RD.lstX (dueV (some (.unk (ls.length + 3) (tx "s")))) (show 3≤1000 by decide) fun p3 G3 n3 t3 h3=>?_
   have s3:=s2.trans t3
   exact res.fin s3 (t1.free n2) (s2.free n3) (t3 _ _ h2) h3
  ·rw [if_neg (by omega)] at res
   walk_at "tx"
   refine RD.lstV [[],tx "script t a b", tx "call r2 a", [],tx "routine r2 a", tx "drop a"] (by decide) fun p1 G1 n1 t1 h1=>?_
   walk_at "rd"
   refine RD.catV (t1 _ _ hp) h1 (by simp; omega) fun p2 G2 n2 t2 h2=>?_
   have s2:=t1.trans t2
   walk_at "rd"
   refine RD.len (sq (s2 _ _ hp)) ?_
   rw [vsts_len]
   walk_at "rd"
   rw [show ((ls.length:Nat):Int) + 3=((ls.length + 3:Nat):Int) by omega]
   walk_at "tx"
   refine RD.lstX (dueV (some (.unk (ls.length + 3) (tx "r2")))) (show 3≤1000 by decide) fun p3 G3 n3 t3 h3=>?_
   have s3:=s2.trans t3
   exact res.fin s3 (t1.free n2) (s2.free n3) (t3 _ _ h2) h3
end
end Pf

namespace Pf
open PySem PySem.Spec PyProof.Rows L2 SX RD PR
structure Lx53 (ls:List Tx) (s2 s3:Nat):Prop where
 few:ls.length≤200
 lo : 3≤s2
 mid:s2 + 3≤s3
 hi:s3 + 1 < ls.length
 short:∀ l∈ls,l.length≤200
 w2 : 2≤(spc 32 (ls.getD s2 [])).length
 w3 : 2≤(spc 32 (ls.getD s3 [])).length
def sp_l_in_book:Sp:=fun vs H Q _=>∃ (p st:Addr) (ls:List Tx) (s2 s3 c k:Nat),vs=[.ref p,.ref st,vn c,vn k]∧H p=some (.lst (vsts ls))∧H st=some (.lst [vn 0,vn s2,vn s3])∧Lx53 ls s2 s3∧c < 8∧k < 100000∧SpRes H Q (inBook ls s2 s3 c k)
structure Sx53 (ls hs:List Tx) (cl:Tx) (st c k:Nat):Prop where
 few:ls.length≤200
 lo:st + 4≤ls.length
 last:ls.length≤st + 22
 n1 : 1≤hs.length
 n2:hs.length≤2
 short:∀ x∈hs,x.length≤10
 cls:cl.length≤40
 c8 : 8≤c
 c20:c < 20
 k5:k < 100000
def sp_l_in_script:Sp:=fun vs H Q _=>∃ (p cc hh:Addr) (ls hs:List Tx) (cl:Tx) (st c k:Nat),vs=[.ref p,vn st,vn c,vn k,.ref cc]∧H p=some (.lst (vsts ls))∧H cc=some (.lst [vst cl,.ref hh])∧H hh=some (.lst (vsts hs))∧Sx53 ls hs cl st c k∧SpRes H Q (inScript ls st c k cl hs)
section
variable {P:Program} {w:World} {K:PySem.W.Frag} {mg:Str→Option Value} {base:Heap} {A:Ad}
theorem jn_joinL (c:Nat):∀ ls:List Tx,TL.joinL [c] ls=jn c ls
 | []=>rfl
 | [a]=>rfl
 | a :: b :: r=>by
  have:=jn_joinL c (b :: r)
  rw [jn,← this]
  simp [TL.joinL]
theorem jnd1 {H:Hp} {Q:VK} {p:Addr} {c k:Nat} {ls:List Tx} (hs:SqL K H p (vsts ls)) (hk:∀ l∈ls,l.length≤k) (hb:ls.length * (k + 1)≤16777216) (q:Q (vst (jn c ls)) H):rJoin K (vst [c]) [.ref p] H Q:=RD.jnd hs hk hb (by rw [jn_joinL]; exact q)
theorem jn_lenF (c k:Nat):∀ ls:List Tx,(∀ l∈ls,l.length≤k)→(jn c ls).length≤ls.length * (k + 1)
 | [],_=>Nat.zero_le _
 | [a],h=>by
  have:=h a (by simp)
  show a.length≤1 * (k + 1)
  omega
 | a :: b :: r,h=>by
  have h1:=h a (by simp)
  have h2:=jn_lenF c k (b :: r) fun l hl=>h l (List.mem_cons_of_mem _ hl)
  show (a++c :: jn c (b :: r)).length≤_
  rw [List.length_append,List.length_cons,List.length_cons,Nat.add_mul]
  omega
theorem at3L {G:Hp} {x y z:Addr} {X Y Z:List Tx} {m:Nat} (hm:m < 3) (hx:G x=some (.lst (vsts X))) (hy:G y=some (.lst (vsts Y))) (hz:G z=some (.lst (vsts Z))):∃ q,atI [V.ref x,.ref y,.ref z] ((m:Nat):Int)=some (.ref q)∧G q=some (.lst (vsts (if m=0 then X else if m=1 then Y else Z))):=by
 have:m=0∨m=1∨m=2:=by omega
 rcases this with rfl | rfl | rfl
 ·exact ⟨x,rfl,hx⟩
 ·exact ⟨y,rfl,hy⟩
 ·exact ⟨z,rfl,hz⟩
theorem m14_short {k:Nat} {hs Z:List Tx} (hsh:∀ x∈hs,x.length≤10) (hz:∀ x∈Z,x.length≤10:=by decide):∀ y∈(if k % 3=0 then hs++[tx "a"] else if k % 3=1 then hs.drop 1++[tx "zz", tx "b"] else Z),y.length≤10:=by
 have q1:∀ x∈[tx "a"],x.length≤10:=by decide
 have q2:∀ x∈[tx "zz", tx "b"],x.length≤10:=by decide
 intro y hy
 split at hy
 ·exact (List.mem_append.mp hy).elim (hsh y) (q1 y)
 ·split at hy
  ·exact (List.mem_append.mp hy).elim (fun z=>hsh y (List.mem_of_mem_drop z)) (q2 y)
  ·exact hz y hy
theorem m14_few {k:Nat} {hs Z:List Tx} (hn:hs.length≤2) (hz:Z.length≤2:=by decide):(if k % 3=0 then hs++[tx "a"] else if k % 3=1 then hs.drop 1++[tx "zz", tx "b"] else Z).length≤4:=by
 split
 ·rw [List.length_append]; simp; omega
 ·split
  ·rw [List.length_append,List.length_drop]; simp; omega
  ·omega
theorem getD_some {ls:List Tx} {k:Nat} (h:k < ls.length):ls[k]? = some (ls.getD k []):=by rw [List.getD_eq_getElem?_getD,List.getElem?_eq_getElem h]; rfl
theorem at2 {x y:Nat} (m:Nat) (hm:m < 2):atI [vn x,vn y] ((m:Nat):Int)=some (vn (if m=0 then x else y)):=by
 have:m=0∨m=1:=by omega
 rcases this with rfl | rfl <;> rfl
theorem tell_int {l:Tx} {n:Nat} (h : 1≤n):((n:Nat):Int) - (if decide (l.take 5=tx "tell ")=true then 1 else 0)=((n - isTell5 l:Nat):Int):=by
 unfold isTell5
 by_cases c:l.take 5=tx "tell "
 ·rw [decide_eq_true c,if_pos rfl,if_pos c]; omega
 ·rw [decide_eq_false c,if_neg (by simp),if_neg c]; omega
theorem zpm (T:Txt K mg A):FnOk P w K mg base CX0 2 A.zfi A.zfh ["_law_lines", "_law_starts", "_law_choice", "_law_kind"] (sp_l_in_book):=by
 have ze4:=znv (P:=P) (w:=w) (base:=base) T
 refine T.zhs.ok zbm (fun vs H Q E h=>?_) (fun cdv Ar outer s H vs Q E hr h=>?_)
 ·obtain ⟨p,st,ls,s2,s3,c,k,rfl,_⟩:=h
  rfl
 ·obtain ⟨p,st,ls,s2,s3,c,k,rfl,hp,hst,lx,hc,hk,res⟩:=h
  refine ⟨_,(pss_cons (ps_set (i:=4) zbm.nd rfl (Or.inl rfl) (pe_ix (RD.k_ixL (K:=K) rfl) (pv 1) pe_int (fun _ _=>rfl)))
   (pss_cons (ps_set (i:=5) zbm.nd rfl (Or.inl rfl) (pe_ix (RD.k_ixL (K:=K) rfl) (pv 1) pe_int (fun _ _=>rfl)))
   (pss_cons (ps_if (pt_cmpR op_eq (pv 2) pe_int (nomark _))
   (pss_one (ps_ret (pe_ifExp (pt_cmpR op_eq (pe_op op_mod (pv 3) pe_int) pe_int (nomark _)) (pe_lst (pa_cons (pe_op op_cat (pe_lst (pa_cons pe_str pa_nil)) (pv 0)) (pa_cons (pe_lst (pa_cons pe_str (pa_cons pe_int pa_nil))) pa_nil))) (pe_lst (pa_cons (pe_op op_cat (pv 0) (pe_lst (pa_cons pe_str pa_nil))) (pa_cons (pe_lst (pa_cons pe_str (pa_cons (pe_op op_add (pe_callB (RD.k_len (K:=K) rfl) (by rfl) T.zau (by decide +kernel) (pa_cons (pv 0) pa_nil)) pe_int) pa_nil))) pa_nil))))))
   pss_nil)
   (pss_cons (ps_if (pt_cmpR op_eq (pv 2) pe_int (nomark _))
   (pss_cons (ps_set (i:=6) zbm.nd rfl (Or.inl rfl) (pe_ix (RD.k_ixL (K:=K) rfl) (pe_lst (pa_cons (pv 4) (pa_cons (pv 5) pa_nil))) (pe_op op_mod (pe_callTy RD.k_int (by rfl) T.zcn (by decide +kernel) (pa_cons (pv 3) pa_nil)) pe_int) (fun _ _=>rfl)))
   (pss_one (ps_ret (pe_lst (pa_cons (pe_call ze4 (hr.mono (by decide)) (by rfl) T.zgd T.zd7.kp T.zgf .nil pass0 (pa_cons (pv 0) (pa_cons (pv 6) (pa_cons pe_str pa_nil)))) (pa_cons (pe_lst (pa_cons pe_str (pa_cons (pv 6) pa_nil))) pa_nil))))))
   pss_nil)
   (pss_cons (ps_if (pt_cmpR op_eq (pv 2) pe_int (nomark _))
   (pss_cons (ps_set (i:=7) zbm.nd rfl (Or.inl rfl) (pe_ifExp (pt_cmpR op_eq (pe_op op_mod (pe_callTy RD.k_int (by rfl) T.zcn (by decide +kernel) (pa_cons (pv 3) pa_nil)) pe_int) pe_int (nomark _)) (pe_lst (pa_cons pe_str pa_nil)) (pe_lst pa_nil)))
   (pss_one (ps_ret (pe_lst (pa_cons (pe_op op_cat (pe_op op_cat (pe_slice (RD.k_slL (K:=K) rfl) (pv 0) po_none (po_some (pe_op op_sub (pv 4) pe_int))) (pv 7)) (pe_slice (RD.k_slL (K:=K) rfl) (pv 0) (po_some (pv 4)) po_none)) (pa_cons (pe_lst (pa_cons pe_str (pa_cons (pe_op op_sub (pv 4) (pe_callTy RD.k_int (by rfl) T.zcn (by decide +kernel) (pa_cons (pe_cmpR op_eq (pe_slice sl_str (pe_ix (RD.k_ixL (K:=K) rfl) (pv 0) (pe_op op_sub (pv 4) pe_int) (fun _ _=>rfl)) po_none (po_some pe_int)) pe_str (nomark _)) pa_nil))) pa_nil))) pa_nil))))))
   pss_nil)
   (pss_cons (ps_if (pt_cmpR op_eq (pv 2) pe_int (nomark _))
   (pss_cons (ps_set (i:=6) zbm.nd rfl (Or.inl rfl) (pe_ix (RD.k_ixL (K:=K) rfl) (pe_lst (pa_cons (pv 4) (pa_cons (pv 5) pa_nil))) (pe_op op_mod (pe_callTy RD.k_int (by rfl) T.zcn (by decide +kernel) (pa_cons (pv 3) pa_nil)) pe_int) (fun _ _=>rfl)))
   (pss_cons (ps_set (i:=8) zbm.nd rfl (Or.inl rfl) (RD.k_split (pe_ix (RD.k_ixL (K:=K) rfl) (pv 0) (pv 6) (fun _ _=>rfl)) pe_str))
   (pss_cons (ps_asg (pe_ix (RD.k_ixL (K:=K) rfl) (pe_lst (pa_cons pe_str (pa_cons (pe_ix (RD.k_ixL (K:=K) rfl) (pe_lst (pa_cons pe_str (pa_cons pe_str pa_nil))) (pe_op op_mod (pe_callTy RD.k_int (by rfl) T.zcn (by decide +kernel) (pa_cons (pe_op op_fdiv (pv 3) pe_int) pa_nil)) pe_int) (fun _ _=>rfl)) pa_nil))) (pe_op op_mod (pe_callTy RD.k_int (by rfl) T.zcn (by decide +kernel) (pa_cons (pv 3) pa_nil)) pe_int) (fun _ _=>rfl)) (pg_sub (pv 8) pe_int set_list))
   (pss_one (ps_ret (pe_lst (pa_cons (pe_op op_cat (pe_op op_cat (pe_slice (RD.k_slL (K:=K) rfl) (pv 0) po_none (po_some (pv 6))) (pe_lst (pa_cons (RD.k_join (K:=K) rfl pe_str (pv 8)) pa_nil))) (pe_slice (RD.k_slL (K:=K) rfl) (pv 0) (po_some (pe_op op_add (pv 6) pe_int)) po_none)) (pa_cons (pe_lst (pa_cons pe_str (pa_cons (pe_op op_add (pv 6) pe_int) pa_nil))) pa_nil))))))))
   pss_nil)
   (pss_cons (ps_set (i:=9) zbm.nd rfl (Or.inl rfl) (pe_ix (RD.k_ixL (K:=K) rfl) (pe_lst (pa_cons pe_int (pa_cons (pv 4) pa_nil))) (pe_op op_mod (pe_callTy RD.k_int (by rfl) T.zcn (by decide +kernel) (pa_cons (pe_op op_fdiv (pv 3) pe_int) pa_nil)) pe_int) (fun _ _=>rfl)))
   (pss_cons (ps_set (i:=10) zbm.nd rfl (Or.inl rfl) (pe_ix (RD.k_ixL (K:=K) rfl) (pe_lst (pa_cons (pv 4) (pa_cons (pv 5) pa_nil))) (pe_op op_mod (pe_callTy RD.k_int (by rfl) T.zcn (by decide +kernel) (pa_cons (pe_op op_fdiv (pv 3) pe_int) pa_nil)) pe_int) (fun _ _=>rfl)))
   (pss_cons (ps_if (pt_cmpR op_eq (pv 2) pe_int (nomark _))
   (pss_cons (ps_set (i:=6) zbm.nd rfl (Or.inl rfl) (pe_op op_add (pe_op op_add (pv 9) pe_int) (pe_op op_mod (pe_callTy RD.k_int (by rfl) T.zcn (by decide +kernel) (pa_cons (pe_op op_fdiv (pv 3) pe_int) pa_nil)) (pe_op op_sub (pe_op op_sub (pv 10) (pv 9)) pe_int))))
   (pss_one (ps_ret (pe_lst (pa_cons (pe_op op_cat (pe_op op_cat (pe_slice (RD.k_slL (K:=K) rfl) (pv 0) po_none (po_some (pv 6))) (pe_lst (pa_cons (pe_op RD.k_addS (pe_ix (RD.k_ixL (K:=K) rfl) (pv 0) (pv 6) (fun _ _=>rfl)) pe_str) pa_nil))) (pe_slice (RD.k_slL (K:=K) rfl) (pv 0) (po_some (pe_op op_add (pv 6) pe_int)) po_none)) (pa_cons (pe_lst (pa_cons pe_str (pa_cons (pe_op op_add (pv 6) pe_int) pa_nil))) pa_nil))))))
   pss_nil)
   (pss_cons (ps_if (pt_cmpR op_eq (pv 2) pe_int (nomark _))
   (pss_cons (ps_set (i:=11) zbm.nd rfl (Or.inl rfl) (pe_op op_sub (pe_op op_sub (pv 10) pe_int) (pe_callTy RD.k_int (by rfl) T.zcn (by decide +kernel) (pa_cons (pe_cmpR op_eq (pe_slice sl_str (pe_ix (RD.k_ixL (K:=K) rfl) (pv 0) (pe_op op_sub (pv 10) pe_int) (fun _ _=>rfl)) po_none (po_some pe_int)) pe_str (nomark _)) pa_nil))))
   (pss_cons (ps_if (pt_cmpR op_eq (pe_op op_mod (pe_callTy RD.k_int (by rfl) T.zcn (by decide +kernel) (pa_cons (pe_op op_fdiv (pv 3) pe_int) pa_nil)) pe_int) pe_int (nomark _))
   (pss_one (ps_ret (pe_lst (pa_cons (pe_op op_cat (pe_op op_cat (pe_slice (RD.k_slL (K:=K) rfl) (pv 0) po_none (po_some (pv 11))) (pe_lst (pa_cons pe_str pa_nil))) (pe_slice (RD.k_slL (K:=K) rfl) (pv 0) (po_some (pe_op op_sub (pv 10) pe_int)) po_none)) (pa_cons (pe_lst (pa_cons pe_str (pa_cons (pe_op op_add (pv 11) pe_int) (pa_cons pe_str pa_nil)))) pa_nil)))))
   pss_nil)
   (pss_cons (ps_if (pt_cmpR op_eq (pe_op op_mod (pe_callTy RD.k_int (by rfl) T.zcn (by decide +kernel) (pa_cons (pe_op op_fdiv (pv 3) pe_int) pa_nil)) pe_int) pe_int (nomark _))
   (pss_one (ps_ret (pe_lst (pa_cons (pe_op op_cat (pe_op op_cat (pe_slice (RD.k_slL (K:=K) rfl) (pv 0) po_none (po_some (pv 11))) (pe_lst (pa_cons pe_str pa_nil))) (pe_slice (RD.k_slL (K:=K) rfl) (pv 0) (po_some (pe_op op_sub (pv 10) pe_int)) po_none)) (pa_cons (pe_lst (pa_cons pe_str (pa_cons (pe_op op_add (pv 11) pe_int) (pa_cons pe_str pa_nil)))) pa_nil)))))
   pss_nil)
   (pss_one (ps_ret (pe_lst (pa_cons (pe_op op_cat (pe_op op_cat (pe_slice (RD.k_slL (K:=K) rfl) (pv 0) po_none (po_some (pv 11))) (pe_lst (pa_cons pe_str pa_nil))) (pe_slice (RD.k_slL (K:=K) rfl) (pv 0) (po_some (pe_op op_sub (pv 10) pe_int)) po_none)) (pa_cons (pe_lst (pa_cons pe_str (pa_cons (pe_op op_add (pv 11) pe_int) pa_nil))) pa_nil))))))))
   pss_nil)
   (pss_cons (ps_if (pt_cmpR op_eq (pv 2) pe_int (nomark _))
   (pss_cons (ps_set (i:=12) zbm.nd rfl (Or.inl rfl) (pe_lst (pa_cons pe_str (pa_cons pe_str (pa_cons pe_str (pa_cons pe_str (pa_cons pe_str (pa_cons pe_str pa_nil))))))))
   (pss_cons (ps_set (i:=12) zbm.nd rfl (Or.inl rfl) (pe_op op_cat (pv 12) (pe_lst (pa_cons pe_str (pa_cons pe_str (pa_cons pe_str (pa_cons pe_str pa_nil)))))))
   (pss_one (ps_ret (pe_lst (pa_cons (pe_op op_cat (pe_op op_cat (pe_slice (RD.k_slL (K:=K) rfl) (pv 0) po_none (po_some (pv 5))) (pe_lst (pa_cons (pe_ix (RD.k_ixL (K:=K) rfl) (pv 12) (pe_op op_mod (pe_callTy RD.k_int (by rfl) T.zcn (by decide +kernel) (pa_cons (pv 3) pa_nil)) pe_int) (fun _ _=>rfl)) pa_nil))) (pe_slice (RD.k_slL (K:=K) rfl) (pv 0) (po_some (pe_op op_add (pv 5) pe_int)) po_none)) (pa_cons (pe_lst (pa_cons pe_str (pa_cons (pe_op op_add (pv 5) pe_int) pa_nil))) pa_nil)))))))
   pss_nil)
   (pss_one (ps_ret (pe_lst (pa_cons (pe_lst (pa_cons pe_str pa_nil)) (pa_cons (pe_lst (pa_cons pe_str (pa_cons pe_int pa_nil))) pa_nil)))))))))))))))),?_⟩
  show tSeq _ _ _ [some (.ref p),some (.ref st),some (vn c),some (vn k),none,none,none,none,none,none,none,none,none] H
  have hfew:=lx.few
  have hlo:=lx.lo
  have hmid:=lx.mid
  have hhi:=lx.hi
  walk_at "rd"
  refine RD.ixL (k:=1) (v:=vn s2) (sq hst) rfl ?_
  walk_at "rd"
  refine RD.ixL (k:=2) (v:=vn s3) (sq hst) rfl ?_
  walk_at "rd"
  unfold inBook at res
  refine RD.dec (fun c0=>?_) (fun c0=>?_)
  ·have c0:c=0:=by omega
   rw [if_pos c0] at res
   walk_at "rd"
   refine RD.iC (by decide) ?_
   walk_at "rd"
   refine RD.dec (fun k0=>?_) (fun k0=>?_)
   ·rw [if_pos (by omega)] at res
    walk_at "tx"
    refine RD.lstV [[]] (by decide) fun p1 G1 n1 t1 h1=>?_
    walk_at "rd"
    refine RD.catV h1 (t1 _ _ hp) (by simp; omega) fun p2 G2 n2 t2 h2=>?_
    have u2:=t1.trans t2
    walk_at "tx"
    refine RD.lstX [vst (tx "bad"),vn 1] (by simp) fun p3 G3 n3 t3 h3=>?_
    exact res.fin (u2.trans t3) (t1.free n2) (u2.free n3) (t3 _ _ h2) h3
   ·rw [if_neg (by omega)] at res
    walk_at "tx"
    refine RD.lstV [[]] (by decide) fun p1 G1 n1 t1 h1=>?_
    refine RD.catV (t1 _ _ hp) h1 (by simp; omega) fun p2 G2 n2 t2 h2=>?_
    have u2:=t1.trans t2
    walk_at "rd"
    refine RD.len (sq (u2 _ _ hp)) ?_
    rw [vsts_len]
    walk_at "rd"
    rw [show ((ls.length:Nat):Int) + 1=((ls.length + 1:Nat):Int) by omega]
    walk_at "tx"
    refine RD.lstX [vst (tx "bad"),vn (ls.length + 1)] (by simp) fun p3 G3 n3 t3 h3=>?_
    exact res.fin (u2.trans t3) (t1.free n2) (u2.free n3) (t3 _ _ h2) h3
  have c0':c ≠ 0:=by omega
  rw [if_neg c0'] at res
  walk_at "rd"
  refine RD.dec (fun c1=>?_) (fun c1=>?_)
  ·have c1:c=1:=by omega
   rw [if_pos c1] at res
   walk_at "rd"
   refine RD.lstX [vn s2,vn s3] (by simp) fun p1 G1 n1 t1 h1=>?_
   walk_at "rd"
   refine RD.iC (by decide) ?_
   refine RD.ixL (k:=((k % 2:Nat):Int)) (sq h1) (at2 (k % 2) (Nat.mod_lt _ (by decide))) ?_
   revert res
   generalize (if k % 2=0 then s2 else s3)=a
   intro res
   walk_at "rd"
   refine ⟨p,ls,a,[],rfl,t1 _ _ hp,hfew,fun G2 p2 n2 t2 h2=>?_⟩
   have u2:=t1.trans t2
   walk_at "tx"
   refine RD.lstX [vst (tx "bad"),vn a] (by simp) fun p3 G3 n3 t3 h3=>?_
   exact res.fin (u2.trans t3) (t1.free n2) (u2.free n3) (t3 _ _ h2) h3
  have c1':c ≠ 1:=by omega
  rw [if_neg c1'] at res
  walk_at "rd"
  refine RD.dec (fun c2=>?_) (fun c2=>?_)
  ·have c2:c=2:=by omega
   rw [if_pos c2] at res
   walk_at "rd"
   refine RD.iC (by decide) ?_
   walk_at "rd"
   refine RD.dec (fun k0=>?_) (fun k0=>?_)
   ·rw [if_pos (by omega)] at res
    walk_at "tx"
    refine RD.lstV [tx " "] (by decide) fun p1 G1 n1 t1 h1=>?_
    walk_at "rd"
    rw [show ((s2:Nat):Int) - 1=((s2 - 1:Nat):Int) by omega]
    refine RD.slTo (k:=s2 - 1) (t1 _ _ hp) fun p2 G2 n2 t2 h2=>?_
    walk_at "rd"
    refine RD.catV h2 (t2 _ _ h1) (by simp [List.length_take]; omega) fun p3 G3 n3 t3 h3=>?_
    have u3:=t1.trans (t2.trans t3)
    walk_at "rd"
    refine RD.slFr (k:=s2) (u3 _ _ hp) fun p4 G4 n4 t4 h4=>?_
    refine RD.catV (t4 _ _ h3) h4 (by simp [List.length_take,List.length_drop]; omega) fun p5 G5 n5 t5 h5=>?_
    have u4:=u3.trans t4
    have u5:=u4.trans t5
    walk_at "rd"
    rw [show ((s2:Nat):Int) - 2=((s2 - 2:Nat):Int) by omega]
    refine RD.ixV (k:=s2 - 2) (sq (u5 _ _ hp)) (getD_some (by omega)) ?_
    walk_at "rd"
    refine RD.slT8 (k:=5) (by have:=lx.short _ (List.mem_of_getElem? (getD_some (ls:=ls) (k:=s2 - 2) (by omega))); omega) ?_
    walk_at "rd"
    refine RD.intB ?_
    walk_at "rd"
    rw [tell_int (by omega)]
    refine RD.lstX [vst (tx "bad"),vn (s2 - isTell5 (ls.getD (s2 - 2) []))] (by simp) fun p6 G6 n6 t6 h6=>?_
    exact res.fin (u5.trans t6) (u4.free n5) (u5.free n6) (t6 _ _ h5) h6
   ·rw [if_neg (by omega)] at res
    walk_at "tx"
    refine RD.lstV [] (by decide) fun p1 G1 n1 t1 h1=>?_
    walk_at "rd"
    rw [show ((s2:Nat):Int) - 1=((s2 - 1:Nat):Int) by omega]
    refine RD.slTo (k:=s2 - 1) (t1 _ _ hp) fun p2 G2 n2 t2 h2=>?_
    walk_at "rd"
    refine RD.catV h2 (t2 _ _ h1) (by simp [List.length_take]; omega) fun p3 G3 n3 t3 h3=>?_
    have u3:=t1.trans (t2.trans t3)
    walk_at "rd"
    refine RD.slFr (k:=s2) (u3 _ _ hp) fun p4 G4 n4 t4 h4=>?_
    refine RD.catV (t4 _ _ h3) h4 (by simp [List.length_take,List.length_drop]; omega) fun p5 G5 n5 t5 h5=>?_
    have u4:=u3.trans t4
    have u5:=u4.trans t5
    walk_at "rd"
    rw [show ((s2:Nat):Int) - 2=((s2 - 2:Nat):Int) by omega]
    refine RD.ixV (k:=s2 - 2) (sq (u5 _ _ hp)) (getD_some (by omega)) ?_
    walk_at "rd"
    refine RD.slT8 (k:=5) (by have:=lx.short _ (List.mem_of_getElem? (getD_some (ls:=ls) (k:=s2 - 2) (by omega))); omega) ?_
    walk_at "rd"
    refine RD.intB ?_
    walk_at "rd"
    rw [tell_int (by omega)]
    refine RD.lstX [vst (tx "bad"),vn (s2 - isTell5 (ls.getD (s2 - 2) []))] (by simp) fun p6 G6 n6 t6 h6=>?_
    exact res.fin (u5.trans t6) (u4.free n5) (u5.free n6) (t6 _ _ h5) h6
  have c2':c ≠ 2:=by omega
  rw [if_neg c2'] at res
  walk_at "rd"
  refine RD.dec (fun c3=>?_) (fun c3=>?_)
  ·have c3:c=3:=by omega
   rw [if_pos c3] at res
   walk_at "rd"
   refine RD.lstX [vn s2,vn s3] (by simp) fun p1 G1 n1 t1 h1=>?_
   walk_at "rd"
   refine RD.iC (by decide) ?_
   refine RD.ixL (k:=((k % 2:Nat):Int)) (sq h1) (at2 (k % 2) (Nat.mod_lt _ (by decide))) ?_
   have wa : 2≤(spc 32 (ls.getD (if k % 2=0 then s2 else s3) [])).length∧(if k % 2=0 then s2 else s3) + 1 < ls.length:=by
    by_cases z:k % 2=0
    ·rw [if_pos z]; exact ⟨lx.w2,by omega⟩
    ·rw [if_neg z]; exact ⟨lx.w3,hhi⟩
   revert res wa
   simp only
   generalize (if k % 2=0 then s2 else s3)=a
   intro res wa
   have wl:=lx.short _ (List.mem_of_getElem? (getD_some (ls:=ls) (k:=a) (by omega)))
   walk_at "rd"
   refine RD.ixV (k:=a) (sq (t1 _ _ hp)) (getD_some (by omega)) ?_
   walk_at "rd"
   refine ⟨⟨_,rfl⟩,?_⟩
   walk_at "rd"
   rw [tspc]
   refine RD.splV (by decide) (by omega) fun p2 G2 n2 t2 h2=>?_
   have u2:=t1.trans t2
   walk_at "tx"
   refine RD.lstV [tx "r0", tx "r1"] (by decide) fun p3 G3 n3 t3 h3=>?_
   walk_at "rd"
   refine RD.iC ⟨by decide,by decide⟩ ?_
   walk_at "rd"
   refine RD.iC (by decide) ?_
   refine RD.ixV (k:=k / 2 % 2) (sq h3) (getD_some (Nat.mod_lt _ (by decide))) ?_
   walk_at "tx"
   refine RD.lstV [tx "r0", [tx "r0", tx "r1"].getD (k / 2 % 2) []] (by simp) fun p4 G4 n4 t4 h4=>?_
   walk_at "rd"
   refine RD.iC (by decide) ?_
   refine RD.ixV (k:=k % 2) (sq h4) (getD_some (Nat.mod_lt _ (by decide))) ?_
   walk_at "rd"
   have ex : [tx "r0", [tx "r0", tx "r1"].getD (k / 2 % 2) []].getD (k % 2) []=(if k % 2=0 then tx "r0" else if k / 2 % 2=0 then tx "r0" else tx "r1"):=by
    have m1:k % 2=0∨k % 2=1:=by omega
    have m2:k / 2 % 2=0∨k / 2 % 2=1:=by omega
    rcases m1 with m1 | m1 <;> rcases m2 with m2 | m2 <;> rw [m1,m2] <;> rfl
   have xl:(if k % 2=0 then tx "r0" else if k / 2 % 2=0 then tx "r0" else tx "r1").length≤200:=by
    have r0:(tx "r0").length≤200:=by decide
    have r1:(tx "r1").length≤200:=by decide
    split
    ·exact r0
    ·split
     ·exact r0
     ·exact r1
   rw [ex]
   revert res xl
   generalize (if k % 2=0 then tx "r0" else if k / 2 % 2=0 then tx "r0" else tx "r1")=x
   intro res xl
   have u4:=u2.trans (t3.trans t4)
   have np2:H p2=none:=t1.free n2
   have h24:=(t3.trans t4) _ _ h2
   have wk:∀ y∈spc 32 (ls.getD a []),y.length≤200:=fun y hy=>Nat.le_trans (RD.spc_len _ _ _ hy) wl
   have wn:(spc 32 (ls.getD a [])).length≤201:=Nat.le_trans (RD.spc_cnt _ _) (by omega)
   revert res wk wn h24
   have wa1:=wa.1
   revert wa1
   generalize spc 32 (ls.getD a [])=W
   intro wa1 res h24 wk wn
   refine RD.setL h24 (ix_n (j:=1) (by rw [vsts_len]; omega)) ?_
   have e5:(vsts W).set 1 (vst x)=vsts (W.set 1 x):=by
    unfold vsts
    rw [List.map_set]
   rw [e5]
   generalize eG:upd G4 p2 (HO.lst _)=G5
   have u5:Same H G5:=by rw [← eG]; exact same_but u4 np2
   have h5:G5 p2=some (.lst (vsts (W.set 1 x))):=by rw [← eG]; exact upd_same
   clear eG
   walk_at "rd"
   refine RD.slTo (k:=a) (u5 _ _ hp) fun p6 G6 n6 t6 h6=>?_
   walk_at "rd"
   rw [tspc]
   refine ⟨⟨_,rfl⟩,?_⟩
   walk_at "rd"
   refine jnd1 (c:=32) (k:=200) (sq (t6 _ _ h5)) (fun y hy=>(List.mem_or_eq_of_mem_set hy).elim (wk y) fun z=>z ▸ xl) (by rw [List.length_set]; omega) ?_
   walk_at "tx"
   refine RD.lstV [jn 32 (W.set 1 x)] (by simp) fun p7 G7 n7 t7 h7=>?_
   refine RD.catV (t7 _ _ h6) h7 (by simp [List.length_take]; omega) fun p8 G8 n8 t8 h8=>?_
   have u8:=u5.trans (t6.trans (t7.trans t8))
   walk_at "rd"
   refine RD.slFr (k:=a + 1) (u8 _ _ hp) fun p9 G9 n9 t9 h9=>?_
   refine RD.catV (t9 _ _ h8) h9 (by simp [List.length_take,List.length_drop]; omega) fun pa Ga na ta ha=>?_
   have ua:=u8.trans t9
   walk_at "tx"
   refine RD.lstX [vst (tx "bad"),vn (a + 1)] (by simp) fun pb Gb nb tb hb=>?_
   exact res.fin ((ua.trans ta).trans tb) (ua.free na) ((ua.trans ta).free nb) (tb _ _ ha) hb
  have c3':c ≠ 3:=by omega
  rw [if_neg c3'] at res
  walk_at "rd"
  refine RD.lstX [vn 0,vn s2] (by simp) fun p1 G1 n1 t1 h1=>?_
  walk_at "rd"
  refine RD.iC ⟨by decide,by decide⟩ ?_
  walk_at "rd"
  refine RD.iC (by decide) ?_
  refine RD.ixL (k:=((k / 2 % 2:Nat):Int)) (sq h1) (at2 (x:=0) (y:=s2) (k / 2 % 2) (Nat.mod_lt _ (by decide))) ?_
  walk_at "rd"
  refine RD.lstX [vn s2,vn s3] (by simp) fun p2 G2 n2 t2 h2=>?_
  walk_at "rd"
  refine RD.iC ⟨by decide,by decide⟩ ?_
  walk_at "rd"
  refine RD.iC (by decide) ?_
  refine RD.ixL (k:=((k / 2 % 2:Nat):Int)) (sq h2) (at2 (k / 2 % 2) (Nat.mod_lt _ (by decide))) ?_
  have fb:(if k / 2 % 2=0 then 0 else s2) + 3≤(if k / 2 % 2=0 then s2 else s3)∧(if k / 2 % 2=0 then s2 else s3) + 1 < ls.length:=by
   by_cases z:k / 2 % 2=0
   ·rw [if_pos z,if_pos z]; exact ⟨by omega,by omega⟩
   ·rw [if_neg z,if_neg z]; exact ⟨by omega,hhi⟩
  have u2:=t1.trans t2
  dsimp only at res
  revert res fb
  generalize (if k / 2 % 2=0 then 0 else s2)=f
  generalize (if k / 2 % 2=0 then s2 else s3)=b
  intro res fb
  obtain ⟨fb,bl⟩:=fb
  walk_at "rd"
  refine RD.dec (fun c4=>?_) (fun c4=>?_)
  ·have c4:c=4:=by omega
   rw [if_pos c4] at res
   walk_at "rd"
   refine RD.iC ⟨by decide,by decide⟩ ?_
   walk_at "rd"
   rw [show ((b:Nat):Int) - ((f:Nat):Int) - 2=((b - f - 2:Nat):Int) by omega]
   refine RD.iC (by omega) ?_
   walk_at "rd"
   rw [show ((f:Nat):Int) + 1 + ((k:Nat):Int) / 4 % ((b - f - 2:Nat):Int)=((f + 1 + k / 4 % (b - f - 2):Nat):Int) from rfl]
   have hj:k / 4 % (b - f - 2) < b - f - 2:=Nat.mod_lt _ (by omega)
   have ha:f + 1 + k / 4 % (b - f - 2) < ls.length:=by omega
   revert res ha
   generalize f + 1 + k / 4 % (b - f - 2)=a
   intro res ha
   have hal:=lx.short _ (List.mem_of_getElem? (getD_some (ls:=ls) (k:=a) ha))
   refine RD.slTo (k:=a) (u2 _ _ hp) fun p3 G3 n3 t3 h3=>?_
   walk_at "rd"
   refine RD.ixV (k:=a) (sq ((u2.trans t3) _ _ hp)) (getD_some ha) ?_
   walk_at "rd"
   have l1:(tx " ").length=1:=by decide
   refine RD.adds (by omega) ?_
   walk_at "tx"
   refine RD.lstV [ls.getD a []++tx " "] (by simp) fun p4 G4 n4 t4 h4=>?_
   refine RD.catV (t4 _ _ h3) h4 (by simp [List.length_take]; omega) fun p5 G5 n5 t5 h5=>?_
   have u5:=u2.trans (t3.trans (t4.trans t5))
   walk_at "rd"
   refine RD.slFr (k:=a + 1) (u5 _ _ hp) fun p6 G6 n6 t6 h6=>?_
   refine RD.catV (t6 _ _ h5) h6 (by simp [List.length_take,List.length_drop]; omega) fun p7 G7 n7 t7 h7=>?_
   have u6:=u5.trans t6
   walk_at "tx"
   refine RD.lstX [vst (tx "bad"),vn (a + 1)] (by simp) fun p8 G8 n8 t8 h8=>?_
   exact res.fin ((u6.trans t7).trans t8) (u6.free n7) ((u6.trans t7).free n8) (t8 _ _ h7) h8
  have c4':c ≠ 4:=by omega
  rw [if_neg c4'] at res
  walk_at "rd"
  refine RD.dec (fun c5=>?_) (fun c5=>?_)
  ·have c5:c=5:=by omega
   rw [if_pos c5] at res
   walk_at "rd"
   rw [show ((b:Nat):Int) - 2=((b - 2:Nat):Int) by omega]
   refine RD.ixV (k:=b - 2) (sq (u2 _ _ hp)) (getD_some (by omega)) ?_
   walk_at "rd"
   refine RD.slT8 (k:=5) (by have:=lx.short _ (List.mem_of_getElem? (getD_some (ls:=ls) (k:=b - 2) (by omega))); omega) ?_
   walk_at "rd"
   refine RD.intB ?_
   walk_at "rd"
   rw [show ((b:Nat):Int) - 1=((b - 1:Nat):Int) by omega,tell_int (by omega)]
   have hl9:b - 1 - isTell5 (ls.getD (b - 2) [])≤ls.length:=by omega
   revert res hl9
   generalize b - 1 - isTell5 (ls.getD (b - 2) [])=l
   intro res hl9
   refine RD.iC ⟨by decide,by decide⟩ ?_
   walk_at "rd"
   refine RD.iC (by decide) ?_
   walk_at "rd"
   refine RD.dec (fun k1=>?_) (fun k1=>?_)
   ·rw [if_pos (by omega)] at res
    walk_at "tx"
    refine RD.slTo (k:=l) (u2 _ _ hp) fun p3 G3 n3 t3 h3=>?_
    walk_at "tx"
    refine RD.lstV [tx "tell zz"] (by simp) fun p4 G4 n4 t4 h4=>?_
    refine RD.catV (t4 _ _ h3) h4 (by simp [List.length_take]; omega) fun p5 G5 n5 t5 h5=>?_
    have u5:=u2.trans (t3.trans (t4.trans t5))
    walk_at "rd"
    rw [show ((b:Nat):Int) - 1=((b - 1:Nat):Int) by omega]
    refine RD.slFr (k:=b - 1) (u5 _ _ hp) fun p6 G6 n6 t6 h6=>?_
    refine RD.catV (t6 _ _ h5) h6 (by simp [List.length_take,List.length_drop]; omega) fun p7 G7 n7 t7 h7=>?_
    have u6:=u5.trans t6
    walk_at "tx"
    refine RD.lstX ([vst (tx "unknown"),vn (l + 1),vst (tx "zz")]) (by simp) fun p8 G8 n8 t8 h8=>?_
    exact res.fin ((u6.trans t7).trans t8) (u6.free n7) ((u6.trans t7).free n8) (t8 _ _ h7) h8
   rw [if_neg (by omega)] at res
   walk_at "rd"
   refine RD.iC ⟨by decide,by decide⟩ ?_
   walk_at "rd"
   refine RD.iC (by decide) ?_
   walk_at "rd"
   refine RD.dec (fun k2=>?_) (fun k2=>?_)
   ·rw [if_pos (by omega)] at res
    walk_at "tx"
    refine RD.slTo (k:=l) (u2 _ _ hp) fun p3 G3 n3 t3 h3=>?_
    walk_at "tx"
    refine RD.lstV [tx "tell g"] (by simp) fun p4 G4 n4 t4 h4=>?_
    refine RD.catV (t4 _ _ h3) h4 (by simp [List.length_take]; omega) fun p5 G5 n5 t5 h5=>?_
    have u5:=u2.trans (t3.trans (t4.trans t5))
    walk_at "rd"
    rw [show ((b:Nat):Int) - 1=((b - 1:Nat):Int) by omega]
    refine RD.slFr (k:=b - 1) (u5 _ _ hp) fun p6 G6 n6 t6 h6=>?_
    refine RD.catV (t6 _ _ h5) h6 (by simp [List.length_take,List.length_drop]; omega) fun p7 G7 n7 t7 h7=>?_
    have u6:=u5.trans t6
    walk_at "tx"
    refine RD.lstX ([vst (tx "kind"),vn (l + 1),vst (tx "g")]) (by simp) fun p8 G8 n8 t8 h8=>?_
    exact res.fin ((u6.trans t7).trans t8) (u6.free n7) ((u6.trans t7).free n8) (t8 _ _ h7) h8
   rw [if_neg (by omega)] at res
   walk_at "tx"
   refine RD.slTo (k:=l) (u2 _ _ hp) fun p3 G3 n3 t3 h3=>?_
   walk_at "tx"
   refine RD.lstV [tx "if a == a"] (by simp) fun p4 G4 n4 t4 h4=>?_
   refine RD.catV (t4 _ _ h3) h4 (by simp [List.length_take]; omega) fun p5 G5 n5 t5 h5=>?_
   have u5:=u2.trans (t3.trans (t4.trans t5))
   walk_at "rd"
   rw [show ((b:Nat):Int) - 1=((b - 1:Nat):Int) by omega]
   refine RD.slFr (k:=b - 1) (u5 _ _ hp) fun p6 G6 n6 t6 h6=>?_
   refine RD.catV (t6 _ _ h5) h6 (by simp [List.length_take,List.length_drop]; omega) fun p7 G7 n7 t7 h7=>?_
   have u6:=u5.trans t6
   walk_at "tx"
   refine RD.lstX ([vst (tx "bad"),vn (l + 2)]) (by simp) fun p8 G8 n8 t8 h8=>?_
   exact res.fin ((u6.trans t7).trans t8) (u6.free n7) ((u6.trans t7).free n8) (t8 _ _ h7) h8
  have c5':c ≠ 5:=by omega
  rw [if_neg c5'] at res
  walk_at "rd"
  refine RD.dec (fun c6=>?_) (fun c6=>?_)
  ·have c6:c=6:=by omega
   rw [if_pos c6] at res
   walk_at "tx"
   refine RD.lstV (wrong6.take 6) (by decide) fun p3 G3 n3 t3 h3=>?_
   walk_at "tx"
   refine RD.lstV (wrong6.drop 6) (by decide) fun p4 G4 n4 t4 h4=>?_
   refine RD.catV (t4 _ _ h3) h4 (by decide) fun p5 G5 n5 t5 h5=>?_
   have u5:=u2.trans (t3.trans (t4.trans t5))
   rw [List.take_append_drop] at h5
   walk_at "rd"
   refine RD.slTo (k:=s3) (u5 _ _ hp) fun p6 G6 n6 t6 h6=>?_
   walk_at "rd"
   refine RD.iC (by decide) ?_
   refine RD.ixV (k:=k % 10) (sq (t6 _ _ h5)) (getD_some (Nat.mod_lt _ (by decide))) ?_
   walk_at "rd"
   refine RD.lstV [wrong6.getD (k % 10) []] (by simp) fun p7 G7 n7 t7 h7=>?_
   refine RD.catV (t7 _ _ h6) h7 (by simp [List.length_take]; omega) fun p8 G8 n8 t8 h8=>?_
   have u8:=u5.trans (t6.trans (t7.trans t8))
   walk_at "rd"
   refine RD.slFr (k:=s3 + 1) (u8 _ _ hp) fun p9 G9 n9 t9 h9=>?_
   refine RD.catV (t9 _ _ h8) h9 (by simp [List.length_take,List.length_drop]; omega) fun pa Ga na ta ha=>?_
   have ua:=u8.trans t9
   walk_at "tx"
   refine RD.lstX [vst (tx "bad"),vn (s3 + 1)] (by simp) fun pb Gb nb tb hb=>?_
   exact res.fin ((ua.trans ta).trans tb) (ua.free na) ((ua.trans ta).free nb) (tb _ _ ha) hb
  have c6':c ≠ 6:=by omega
  rw [if_neg c6'] at res
  walk_at "tx"
  refine RD.lstV [[]] (by decide) fun p3 G3 n3 t3 h3=>?_
  walk_at "tx"
  refine RD.lstX [vst (tx "bad"),vn 1] (by simp) fun p4 G4 n4 t4 h4=>?_
  exact res.fin ((u2.trans t3).trans t4) (u2.free n3) ((u2.trans t3).free n4) (t4 _ _ h3) h4
theorem zos (T:Txt K mg A):FnOk P w K mg base CX0 2 A.zec A.zee ["_law_lines", "_law_start", "_law_choice", "_law_kind", "_law_calls"] (sp_l_in_script):=by
 have ze4:=znv (P:=P) (w:=w) (base:=base) T
 have zrf:=zqo (P:=P) (w:=w) (base:=base) T
 refine T.zf8.ok zav (fun vs H Q E h=>?_) (fun cdv Ar outer s H vs Q E hr h=>?_)
 ·obtain ⟨p,cc,hh,ls,hs,cl,st,c,k,rfl,_⟩:=h
  rfl
 ·obtain ⟨p,cc,hh,ls,hs,cl,st,c,k,rfl,hp,hcc,hhh,sx,res⟩:=h
  refine ⟨_,(pss_cons (ps_asg (pv 4) (pg_unl rfl (pgs_cons (pg_name (i:=5) zav.nd rfl (Or.inl rfl)) (pgs_cons (pg_name (i:=6) zav.nd rfl (Or.inl rfl)) pgs_nil))))
   (pss_cons (ps_set (i:=7) zav.nd rfl (Or.inl rfl) (pe_callB (RD.k_len (K:=K) rfl) (by rfl) T.zau (by decide +kernel) (pa_cons (pv 0) pa_nil)))
   (pss_cons (ps_set (i:=8) zav.nd rfl (Or.inl rfl) (pe_op op_add (pv 1) pe_int))
   (pss_cons (ps_if (pt_cmpR op_eq (pv 2) pe_int (nomark _))
   (pss_cons (ps_set (i:=9) zav.nd rfl (Or.inl rfl) (pe_lst (pa_cons pe_str (pa_cons pe_str (pa_cons pe_str (pa_cons pe_str (pa_cons pe_str (pa_cons pe_str (pa_cons pe_str pa_nil)))))))))
   (pss_cons (ps_set (i:=9) zav.nd rfl (Or.inl rfl) (pe_op op_cat (pv 9) (pe_lst (pa_cons pe_str (pa_cons pe_str (pa_cons pe_str (pa_cons pe_str (pa_cons pe_str (pa_cons pe_str (pa_cons pe_str pa_nil))))))))))
   (pss_cons (ps_expr (RD.k_bm (K:=K) rfl PySem.F.plainAttrs_list PySem.F.slot_list_append PySem.F.type_list_append mt_append (pv 9) (pa_cons pe_str pa_nil)))
   (pss_one (ps_ret (pe_lst (pa_cons (pe_call ze4 (hr.mono (by decide)) (by rfl) T.zgd T.zd7.kp T.zgf .nil pass0 (pa_cons (pv 0) (pa_cons (pv 8) (pa_cons (pe_ix (RD.k_ixL (K:=K) rfl) (pv 9) (pe_op op_mod (pe_callTy RD.k_int (by rfl) T.zcn (by decide +kernel) (pa_cons (pv 3) pa_nil)) pe_int) (fun _ _=>rfl)) pa_nil)))) (pa_cons (pe_lst (pa_cons pe_str (pa_cons (pe_op op_add (pv 8) pe_int) pa_nil))) pa_nil))))))))
   pss_nil)
   (pss_cons (ps_if (pt_cmpR op_eq (pv 2) pe_int (nomark _))
   (pss_cons (ps_if (pt_cmpR op_eq (pe_op op_mod (pe_callTy RD.k_int (by rfl) T.zcn (by decide +kernel) (pa_cons (pv 3) pa_nil)) pe_int) pe_int (nomark _))
   (pss_one (ps_ret (pe_lst (pa_cons (pe_call ze4 (hr.mono (by decide)) (by rfl) T.zgd T.zd7.kp T.zgf .nil pass0 (pa_cons (pv 0) (pa_cons (pe_op op_sub (pv 8) pe_int) (pa_cons pe_str pa_nil)))) (pa_cons (pe_lst (pa_cons pe_str (pa_cons (pv 8) (pa_cons pe_str pa_nil)))) pa_nil)))))
   pss_nil)
   (pss_one (ps_ret (pe_lst (pa_cons (pe_call ze4 (hr.mono (by decide)) (by rfl) T.zgd T.zd7.kp T.zgf .nil pass0 (pa_cons (pv 0) (pa_cons (pv 8) (pa_cons pe_str pa_nil)))) (pa_cons (pe_lst (pa_cons pe_str (pa_cons (pe_op op_add (pv 8) pe_int) pa_nil))) pa_nil))))))
   pss_nil)
   (pss_cons (ps_if (pt_cmpR op_eq (pv 2) pe_int (nomark _))
   (pss_one (ps_ret (pe_lst (pa_cons (pe_call ze4 (hr.mono (by decide)) (by rfl) T.zgd T.zd7.kp T.zgf .nil pass0 (pa_cons (pv 0) (pa_cons (pv 8) (pa_cons pe_str pa_nil)))) (pa_cons (pe_lst (pa_cons pe_str (pa_cons (pe_op op_add (pv 8) pe_int) pa_nil))) pa_nil)))))
   pss_nil)
   (pss_cons (ps_if (pt_cmpR op_eq (pv 2) pe_int (nomark _))
   (pss_cons (ps_setLc (i:=10) (own:=[("_law_k", 13)]) (g:=gName 13) (by rfl) zav.nd rfl rfl (sw_true rfl rfl rfl (by decide +kernel)) (pi_range1 (by rfl) T.zld (pa_cons (pe_op op_sub pe_int (pe_op op_sub (pe_op op_sub (pv 7) (pv 1)) pe_int)) pa_nil)) (blkOk_by (own:=[("_law_k", 13)]) (N:=["_law_lines", "_law_start", "_law_choice", "_law_kind", "_law_calls", "_law_call", "_law_halves", "_law_last", "_law_at", "_law_wrong", "_law_more", "_law_name", "_law_forms", "_law_k"]) (sc:=defScope zga) (by decide +kernel)) (fun _ _ _ _ _=>(pg_name (i:=13) zav.nd rfl (Or.inl rfl))) (fun _ _ _ _ _=>pts_nil) (fun _ _ _ _ _=>(pe_op RD.k_addS (pe_op RD.k_addS pe_str (pe_callTy RD.k_strI (by rfl) T.zr9 (by decide +kernel) (pa_cons (pv 13) pa_nil))) pe_str)))
   (pss_one (ps_ret (pe_lst (pa_cons (pe_op op_cat (pe_op op_cat (pe_slice (RD.k_slL (K:=K) rfl) (pv 0) po_none (po_some (pv 8))) (pv 10)) (pe_slice (RD.k_slL (K:=K) rfl) (pv 0) (po_some (pv 8)) po_none)) (pa_cons (pe_lst (pa_cons pe_str (pa_cons (pe_op op_add (pv 1) pe_int) pa_nil))) pa_nil))))))
   pss_nil)
   (pss_cons (ps_if (pt_cmpR op_lt (pv 2) pe_int (nomark _))
   (pss_cons (ps_set (i:=11) zav.nd rfl (Or.inl rfl) (pe_ix (RD.k_ixL (K:=K) rfl) (pe_lst (pa_cons pe_str (pa_cons pe_str (pa_cons pe_str (pa_cons pe_str (pa_cons pe_str pa_nil)))))) (pe_op op_mod (pe_callTy RD.k_int (by rfl) T.zcn (by decide +kernel) (pa_cons (pv 3) pa_nil)) pe_int) (fun _ _=>rfl)))
   (pss_one (ps_ret (pe_lst (pa_cons (pe_call ze4 (hr.mono (by decide)) (by rfl) T.zgd T.zd7.kp T.zgf .nil pass0 (pa_cons (pv 0) (pa_cons (pv 8) (pa_cons (pe_op RD.k_addS (pe_op RD.k_addS pe_str (pv 11)) pe_str) pa_nil)))) (pa_cons (pe_lst (pa_cons pe_str (pa_cons (pe_op op_add (pv 8) pe_int) (pa_cons (pv 11) pa_nil)))) pa_nil))))))
   pss_nil)
   (pss_cons (ps_if (pt_cmpR op_eq (pv 2) pe_int (nomark _))
   (pss_cons (ps_set (i:=10) zav.nd rfl (Or.inl rfl) (pe_ix (RD.k_ixL (K:=K) rfl) (pe_lst (pa_cons (pe_op op_cat (pv 6) (pe_lst (pa_cons pe_str pa_nil))) (pa_cons (pe_op op_cat (pe_slice (RD.k_slL (K:=K) rfl) (pv 6) (po_some pe_int) po_none) (pe_lst (pa_cons pe_str (pa_cons pe_str pa_nil)))) (pa_cons (pe_ifExp (pt_cmpR op_eq (pe_callB (RD.k_len (K:=K) rfl) (by rfl) T.zau (by decide +kernel) (pa_cons (pv 6) pa_nil)) pe_int (nomark _)) (pe_lst (pa_cons pe_str pa_nil)) (pe_lst (pa_cons pe_str (pa_cons pe_str pa_nil)))) pa_nil)))) (pe_op op_mod (pe_callTy RD.k_int (by rfl) T.zcn (by decide +kernel) (pa_cons (pv 3) pa_nil)) pe_int) (fun _ _=>rfl)))
   (pss_one (ps_ret (pe_lst (pa_cons (pe_call ze4 (hr.mono (by decide)) (by rfl) T.zgd T.zd7.kp T.zgf .nil pass0 (pa_cons (pv 0) (pa_cons (pv 8) (pa_cons (pe_op RD.k_addS pe_str (RD.k_join (K:=K) rfl pe_str (pv 10))) pa_nil)))) (pa_cons (pe_lst (pa_cons pe_str (pa_cons (pe_op op_add (pv 8) pe_int) pa_nil))) pa_nil))))))
   pss_nil)
   (pss_cons (ps_if (pt_cmpR op_eq (pv 2) pe_int (nomark _))
   (pss_cons (ps_set (i:=10) zav.nd rfl (Or.inl rfl) (pe_lst (pa_cons (pe_op RD.k_addS pe_str (pv 5)) (pa_cons (pe_op RD.k_addS pe_str (pv 5)) (pa_cons (pe_op RD.k_addS pe_str (pv 5)) (pa_cons (pe_op RD.k_addS pe_str (pv 5)) pa_nil))))))
   (pss_cons (ps_set (i:=10) zav.nd rfl (Or.inl rfl) (pe_op op_cat (pv 10) (pe_lst (pa_cons (pe_op RD.k_addS pe_str (pv 5)) (pa_cons (pe_op RD.k_addS pe_str (pv 5)) (pa_cons pe_str (pa_cons pe_str (pa_cons pe_str pa_nil))))))))
   (pss_one (ps_ret (pe_lst (pa_cons (pe_call ze4 (hr.mono (by decide)) (by rfl) T.zgd T.zd7.kp T.zgf .nil pass0 (pa_cons (pv 0) (pa_cons (pv 8) (pa_cons (pe_ix (RD.k_ixL (K:=K) rfl) (pv 10) (pe_op op_mod (pe_callTy RD.k_int (by rfl) T.zcn (by decide +kernel) (pa_cons (pv 3) pa_nil)) pe_int) (fun _ _=>rfl)) pa_nil)))) (pa_cons (pe_lst (pa_cons pe_str (pa_cons (pe_op op_add (pv 8) pe_int) pa_nil))) pa_nil)))))))
   pss_nil)
   (pss_cons (ps_set (i:=11) zav.nd rfl (Or.inl rfl) (pe_ix (RD.k_ixL (K:=K) rfl) (pe_lst (pa_cons pe_str (pa_cons pe_str (pa_cons pe_str (pa_cons pe_str pa_nil))))) (pe_op op_mod (pe_callTy RD.k_int (by rfl) T.zcn (by decide +kernel) (pa_cons (pv 3) pa_nil)) pe_int) (fun _ _=>rfl)))
   (pss_cons (ps_set (i:=12) zav.nd rfl (Or.inl rfl) (pe_lst (pa_cons (pe_op RD.k_addS pe_str (RD.k_join (K:=K) rfl pe_str (pe_op op_cat (pe_lst (pa_cons (pv 11) pa_nil)) (pe_slice (RD.k_slL (K:=K) rfl) (pv 6) (po_some pe_int) po_none)))) (pa_cons (pe_op RD.k_addS (pe_op RD.k_addS pe_str (pv 11)) pe_str) (pa_cons (pe_op RD.k_addS (pe_op RD.k_addS pe_str (pv 11)) pe_str) pa_nil)))))
   (pss_cons (ps_if (pt_cmpR op_eq (pv 2) pe_int (nomark _))
   (pss_one (ps_ret (pe_lst (pa_cons (pe_call ze4 (hr.mono (by decide)) (by rfl) T.zgd T.zd7.kp T.zgf .nil pass0 (pa_cons (pv 0) (pa_cons (pv 8) (pa_cons (pe_ix (RD.k_ixL (K:=K) rfl) (pv 12) (pe_op op_mod (pe_callTy RD.k_int (by rfl) T.zcn (by decide +kernel) (pa_cons (pe_op op_fdiv (pv 3) pe_int) pa_nil)) pe_int) (fun _ _=>rfl)) pa_nil)))) (pa_cons (pe_lst (pa_cons pe_str (pa_cons (pe_op op_add (pv 8) pe_int) (pa_cons (pv 11) pa_nil)))) pa_nil)))))
   pss_nil)
   (pss_cons (ps_if (pt_cmpR op_eq (pv 2) pe_int (nomark _))
   (pss_one (ps_ret (pe_lst (pa_cons (pe_op op_cat (pv 0) (pe_lst (pa_cons (pe_op RD.k_addS pe_str (pv 11)) pa_nil))) (pa_cons (pe_lst (pa_cons pe_str (pa_cons (pe_op op_add (pv 7) pe_int) (pa_cons (pv 11) pa_nil)))) pa_nil)))))
   pss_nil)
   (pss_one (ps_ret (pe_call zrf (hr.mono (by decide)) (by rfl) T.zrh T.zi7.kp T.zrb .nil pass0 (pa_cons (pv 0) (pa_cons (pv 2) pa_nil))))))))))))))))))),?_⟩
  show tSeq _ _ _ [some (.ref p),some (vn st),some (vn c),some (vn k),some (.ref cc),none,none,none,none,none,none,none,none,none] H
  obtain ⟨hfew,hst,hlast,hn1,hn2,hsh,hcl,hc8,hc20,hk⟩:=sx
  have uH:Same H H:=Same.refl H
  walk_at "rd"
  refine RD.unl2p (sq hcc) ?_
  walk_at "rd"
  refine RD.len (sq hp) ?_
  rw [vsts_len]
  walk_at "rd"
  unfold inScript at res
  dsimp only at res
  refine RD.dec (fun c8=>?_) (fun c8=>?_)
  ·have c8:c=8:=by omega
   rw [if_pos c8] at res
   walk_at "tx"
   refine RD.lstV (wrong8.take 7) (by decide) fun p3 G3 n3 t3 h3=>?_
   walk_at "tx"
   refine RD.lstV ((wrong8.drop 7).take 7) (by decide) fun p4 G4 n4 t4 h4=>?_
   refine RD.catV (t4 _ _ h3) h4 (by decide) fun p5 G5 n5 t5 h5=>?_
   walk_at "rd"
   refine ⟨RD.tyL (sq h5),?_⟩
   walk_at "rd"
   refine RD.app h5 (by rw [vsts_len]; exact szt (by decide)) ?_
   have u4:=t3.trans t4
   have np5:H p5=none:=u4.free n5
   have u5:=u4.trans t5
   have ew:vsts (wrong8.take 7++(wrong8.drop 7).take 7)++[vst (tx "call x = y = r0 a b")]=vsts wrong8:=rfl
   rw [ew]
   generalize eG:upd G5 p5 (HO.lst _)=G6
   have u6:Same H G6:=by rw [← eG]; exact same_but u5 np5
   have h6:G6 p5=some (.lst (vsts wrong8)):=by rw [← eG]; exact upd_same
   clear eG
   walk_at "rd"
   refine RD.iC (by decide) ?_
   refine RD.ixV (k:=k % 15) (sq h6) (getD_some (Nat.mod_lt _ (by decide))) ?_
   walk_at "rd"
   refine ⟨p,ls,st + 2,wrong8.getD (k % 15) [],rfl,u6 _ _ hp,hfew,fun Ga na ta0 ta ha=>?_⟩
   have ua:=u6.trans ta
   walk_at "tx"
   refine RD.lstX ([vst (tx "bad"),vn (st + 3)]) (by simp) fun pb Gb nb tb hb=>?_
   exact res.fin (ua.trans tb) (u6.free ta0) (ua.free nb) (tb _ _ ha) hb
  have c8':c ≠ 8:=by omega
  rw [if_neg c8'] at res
  walk_at "rd"
  refine RD.dec (fun c9=>?_) (fun c9=>?_)
  ·have c9:c=9:=by omega
   rw [if_pos c9] at res
   walk_at "rd"
   refine RD.iC (by decide) ?_
   walk_at "rd"
   refine RD.dec (fun k1=>?_) (fun k1=>?_)
   ·rw [if_pos (by omega)] at res
    walk_at "rd"
    rw [show ((st:Nat):Int) + 2 - 1=((st + 1:Nat):Int) by omega]
    walk_at "rd"
    refine ⟨p,ls,st + 1,tx "given a != zz", rfl,uH _ _ hp,hfew,fun Ga na ta0 ta ha=>?_⟩
    have ua:=uH.trans ta
    walk_at "tx"
    refine RD.lstX ([vst (tx "unknown"),vn (st + 2),vst (tx "zz")]) (by simp) fun pb Gb nb tb hb=>?_
    exact res.fin (ua.trans tb) (uH.free ta0) (ua.free nb) (tb _ _ ha) hb
   ·rw [if_neg (by omega)] at res
    walk_at "rd"
    refine ⟨p,ls,st + 2,tx "given a == b", rfl,uH _ _ hp,hfew,fun Ga na ta0 ta ha=>?_⟩
    have ua:=uH.trans ta
    walk_at "tx"
    refine RD.lstX ([vst (tx "bad"),vn (st + 3)]) (by simp) fun pb Gb nb tb hb=>?_
    exact res.fin (ua.trans tb) (uH.free ta0) (ua.free nb) (tb _ _ ha) hb
  have c9':c ≠ 9:=by omega
  rw [if_neg c9'] at res
  walk_at "rd"
  refine RD.dec (fun c10=>?_) (fun c10=>?_)
  ·have c10:c=10:=by omega
   rw [if_pos c10] at res
   walk_at "rd"
   refine ⟨p,ls,st + 2,tx "tell a", rfl,uH _ _ hp,hfew,fun Ga na ta0 ta ha=>?_⟩
   have ua:=uH.trans ta
   walk_at "tx"
   refine RD.lstX ([vst (tx "bad"),vn (st + 3)]) (by simp) fun pb Gb nb tb hb=>?_
   exact res.fin (ua.trans tb) (uH.free ta0) (ua.free nb) (tb _ _ ha) hb
  have c10':c ≠ 10:=by omega
  rw [if_neg c10'] at res
  walk_at "rd"
  refine RD.dec (fun c11=>?_) (fun c11=>?_)
  ·have c11:c=11:=by omega
   rw [if_pos c11] at res
   walk_at "rd"
   refine RD.lcR (n:=21 - (ls.length - st - 1)) (by omega) (by omega) (by omega) (fun _=>true) (fun j=>vst (tx "let x" ++ TL.numL j++tx " = a.twin")) (fun i H1 Q' R' hi s1 kT kF=>?_) (fun G3 p3 n3 t3 h3=>?_)
   ·have b1:(tx "let x").length≤30:=by decide
    have b2:(tx " = a.twin").length≤30:=by decide
    have ni:(TL.numL i).length≤2:=TL.numL_len (by decide) (by omega:i < 10 ^ 2)
    walk_at "wp"
    walk_at "rd"
    refine ⟨rfl,?_⟩
    walk_at "tx"
    refine RD.strN (by omega) ?_
    refine RD.adds (by omega) ?_
    walk_at "tx"
    refine RD.adds (by rw [List.length_append]; omega) ?_
    exact kT rfl _ (Same.refl _)
   ·rw [RD.pick_all (fun _=>rfl)] at h3
    have h3:G3 p3=some (.lst (vsts ((List.range (21 - (ls.length - st - 1))).map fun j=>tx "let x" ++ TL.numL j++tx " = a.twin"))):=by
     rw [h3]
     unfold vsts
     rw [List.map_map]
     rfl
    have hw:((List.range (21 - (ls.length - st - 1))).map fun j=>tx "let x" ++ TL.numL j++tx " = a.twin").length≤21:=by
     rw [List.length_map,List.length_range]
     omega
    revert res hw h3
    generalize ((List.range (21 - (ls.length - st - 1))).map fun j=>tx "let x" ++ TL.numL j++tx " = a.twin")=W
    intro res h3 hw
    walk_at "rd"
    refine RD.slTo (k:=st + 2) (t3 _ _ hp) fun p4 G4 n4 t4 h4=>?_
    walk_at "rd"
    refine RD.catV h4 (t4 _ _ h3) (by rw [List.length_take]; omega) fun p5 G5 n5 t5 h5=>?_
    have u5:=t3.trans (t4.trans t5)
    walk_at "rd"
    refine RD.slFr (k:=st + 2) (u5 _ _ hp) fun p6 G6 n6 t6 h6=>?_
    refine RD.catV (t6 _ _ h5) h6 (by rw [List.length_append,List.length_take,List.length_drop]; omega) fun p7 G7 n7 t7 h7=>?_
    have u6:=u5.trans t6
    have u7:=u6.trans t7
    walk_at "tx"
    refine RD.lstX [vst (tx "bad"),vn (st + 22)] (by simp) fun pb Gb nb tb hb=>?_
    exact res.fin (u7.trans tb) (u6.free n7) (u7.free nb) (tb _ _ h7) hb
  have c11':c ≠ 11:=by omega
  rw [if_neg c11'] at res
  walk_at "rd"
  refine RD.dec (fun c12=>?_) (fun c12=>?_)
  ·have c12:c < 14:=by omega
   rw [if_pos c12] at res
   walk_at "tx"
   refine RD.lstV (["zz", "s", "r2", "next", "9a"].map tx) (by decide) fun p3 G3 n3 t3 h3=>?_
   walk_at "rd"
   refine RD.iC (by decide) ?_
   refine RD.ixV (k:=k % 5) (sq h3) (getD_some (Nat.mod_lt _ (by decide))) ?_
   have l5:(tx "call ").length=5:=by decide
   have l4:(tx " a b").length=4:=by decide
   have nl:((["zz", "s", "r2", "next", "9a"].map tx).getD (k % 5) []).length≤10:=by
    have:∀ j,j < 5→((["zz", "s", "r2", "next", "9a"].map tx).getD j []).length≤10:=by decide +kernel
    exact this _ (Nat.mod_lt _ (by decide))
   revert res nl
   generalize (["zz", "s", "r2", "next", "9a"].map tx).getD (k % 5) []=n
   intro res nl
   walk_at "rd"
   refine RD.adds (by omega) ?_
   walk_at "rd"
   refine RD.adds (by rw [List.length_append]; omega) ?_
   walk_at "rd"
   refine ⟨p,ls,st + 2,tx "call " ++ n++tx " a b", rfl,t3 _ _ hp,hfew,fun Ga na ta0 ta ha=>?_⟩
   have ua:=t3.trans ta
   walk_at "tx"
   refine RD.lstX ([vst (tx "unknown"),vn (st + 3),vst n]) (by simp) fun pb Gb nb tb hb=>?_
   exact res.fin (ua.trans tb) (t3.free ta0) (ua.free nb) (tb _ _ ha) hb
  have c12':¬ c < 14:=by omega
  rw [if_neg c12'] at res
  walk_at "rd"
  refine RD.dec (fun c14=>?_) (fun c14=>?_)
  ·have c14:c=14:=by omega
   rw [if_pos c14] at res
   walk_at "tx"
   refine RD.lstV [tx "a"] (by decide) fun p3 G3 n3 t3 h3=>?_
   refine RD.catV (t3 _ _ hhh) h3 (by simp; omega) fun p4 G4 n4 t4 h4=>?_
   walk_at "rd"
   refine RD.slFr (k:=1) ((t3.trans t4) _ _ hhh) fun p5 G5 n5 t5 h5=>?_
   walk_at "tx"
   refine RD.lstV [tx "zz", tx "b"] (by decide) fun p6 G6 n6 t6 h6=>?_
   refine RD.catV (t6 _ _ h5) h6 (by simp; omega) fun p7 G7 n7 t7 h7=>?_
   have u7:=t3.trans (t4.trans (t5.trans (t6.trans t7)))
   walk_at "rd"
   refine RD.len (sq (u7 _ _ hhh)) ?_
   rw [vsts_len]
   walk_at "rd"
   refine RD.dec (fun l2=>?_) (fun l2=>?_)
   ·have l2:hs.length=2:=by omega
    walk_at "tx"
    refine RD.lstV [tx "zz"] (by decide) fun p8 G8 n8 t8 h8=>?_
    have u8:=u7.trans t8
    have h48:=(t5.trans (t6.trans (t7.trans t8))) _ _ h4
    have h78:=t8 _ _ h7
    walk_at "tx"
    refine RD.lstX [.ref p4,.ref p7,.ref p8] (by simp) fun p9 G9 n9 t9 h9=>?_
    have u9:=u8.trans t9
    walk_at "rd"
    refine RD.iC (by decide) ?_
    obtain ⟨q,eq,hq⟩:=at3L (m:=k % 3) (Nat.mod_lt _ (by decide)) (t9 _ _ h48) (t9 _ _ h78) (t9 _ _ h8)
    refine RD.ixL (k:=((k % 3:Nat):Int)) (sq h9) eq ?_
    have em:(if k % 3=0 then hs++[tx "a"] else if k % 3=1 then hs.drop 1++[tx "zz", tx "b"] else [tx "zz"])=(if k % 3=0 then hs++[tx "a"] else if k % 3=1 then hs.drop 1++[tx "zz", tx "b"] else if hs.length=2 then [tx "zz"] else [tx "zz", tx "zz"]):=by
     simp [l2]
    have hm:∀ y∈(if k % 3=0 then hs++[tx "a"] else if k % 3=1 then hs.drop 1++[tx "zz", tx "b"] else [tx "zz"]),y.length≤10:=m14_short hsh
    have hm2:(if k % 3=0 then hs++[tx "a"] else if k % 3=1 then hs.drop 1++[tx "zz", tx "b"] else [tx "zz"]).length≤4:=m14_few hn2
    rw [← em] at res
    revert res hm hm2 hq
    generalize (if k % 3=0 then hs++[tx "a"] else if k % 3=1 then hs.drop 1++[tx "zz", tx "b"] else [tx "zz"])=m
    intro res hq hm hm2
    have b1:(tx "call r0 ").length≤30:=by decide
    walk_at "rd"
    rw [tspc]
    refine ⟨⟨_,rfl⟩,?_⟩
    walk_at "rd"
    refine jnd1 (c:=32) (k:=10) (sq hq) hm (by omega) ?_
    have jl:=jn_lenF 32 10 _ hm
    walk_at "tx"
    refine RD.adds (by omega) ?_
    walk_at "rd"
    refine ⟨p,ls,st + 2,tx "call r0 " ++ jn 32 m,rfl,u9 _ _ hp,hfew,fun Ga na ta0 ta ha=>?_⟩
    have ua:=u9.trans ta
    walk_at "tx"
    refine RD.lstX ([vst (tx "bad"),vn (st + 3)]) (by simp) fun pb Gb nb tb hb=>?_
    exact res.fin (ua.trans tb) (u9.free ta0) (ua.free nb) (tb _ _ ha) hb
   ·have l2:hs.length ≠ 2:=by omega
    walk_at "tx"
    refine RD.lstV [tx "zz", tx "zz"] (by decide) fun p8 G8 n8 t8 h8=>?_
    have u8:=u7.trans t8
    have h48:=(t5.trans (t6.trans (t7.trans t8))) _ _ h4
    have h78:=t8 _ _ h7
    walk_at "tx"
    refine RD.lstX [.ref p4,.ref p7,.ref p8] (by simp) fun p9 G9 n9 t9 h9=>?_
    have u9:=u8.trans t9
    walk_at "rd"
    refine RD.iC (by decide) ?_
    obtain ⟨q,eq,hq⟩:=at3L (m:=k % 3) (Nat.mod_lt _ (by decide)) (t9 _ _ h48) (t9 _ _ h78) (t9 _ _ h8)
    refine RD.ixL (k:=((k % 3:Nat):Int)) (sq h9) eq ?_
    have em:(if k % 3=0 then hs++[tx "a"] else if k % 3=1 then hs.drop 1++[tx "zz", tx "b"] else [tx "zz", tx "zz"])=(if k % 3=0 then hs++[tx "a"] else if k % 3=1 then hs.drop 1++[tx "zz", tx "b"] else if hs.length=2 then [tx "zz"] else [tx "zz", tx "zz"]):=by
     simp [l2]
    have hm:∀ y∈(if k % 3=0 then hs++[tx "a"] else if k % 3=1 then hs.drop 1++[tx "zz", tx "b"] else [tx "zz", tx "zz"]),y.length≤10:=m14_short hsh
    have hm2:(if k % 3=0 then hs++[tx "a"] else if k % 3=1 then hs.drop 1++[tx "zz", tx "b"] else [tx "zz", tx "zz"]).length≤4:=m14_few hn2
    rw [← em] at res
    revert res hm hm2 hq
    generalize (if k % 3=0 then hs++[tx "a"] else if k % 3=1 then hs.drop 1++[tx "zz", tx "b"] else [tx "zz", tx "zz"])=m
    intro res hq hm hm2
    have b1:(tx "call r0 ").length≤30:=by decide
    walk_at "rd"
    rw [tspc]
    refine ⟨⟨_,rfl⟩,?_⟩
    walk_at "rd"
    refine jnd1 (c:=32) (k:=10) (sq hq) hm (by omega) ?_
    have jl:=jn_lenF 32 10 _ hm
    walk_at "tx"
    refine RD.adds (by omega) ?_
    walk_at "rd"
    refine ⟨p,ls,st + 2,tx "call r0 " ++ jn 32 m,rfl,u9 _ _ hp,hfew,fun Ga na ta0 ta ha=>?_⟩
    have ua:=u9.trans ta
    walk_at "tx"
    refine RD.lstX ([vst (tx "bad"),vn (st + 3)]) (by simp) fun pb Gb nb tb hb=>?_
    exact res.fin (ua.trans tb) (u9.free ta0) (ua.free nb) (tb _ _ ha) hb
  have c14':c ≠ 14:=by omega
  rw [if_neg c14'] at res
  walk_at "rd"
  refine RD.dec (fun c15=>?_) (fun c15=>?_)
  ·have c15:c=15:=by omega
   rw [if_pos c15] at res
   have b1:(tx "call x1 x2 x3 x4 = ").length≤30:=by decide
   have b2:(tx "call x1 x1 = ").length≤30:=by decide
   have b3:(tx "call a = ").length≤30:=by decide
   have b4:(tx "call next = ").length≤30:=by decide
   have b5:(tx "call 9x = ").length≤30:=by decide
   have b6:(tx "call = ").length≤30:=by decide
   walk_at "tx"
   refine RD.adds (by omega) ?_
   walk_at "tx"
   refine RD.adds (by omega) ?_
   walk_at "tx"
   refine RD.adds (by omega) ?_
   walk_at "tx"
   refine RD.adds (by omega) ?_
   walk_at "tx"
   refine RD.lstV ((more15 cl).take 4) (by simp [more15]) fun p3 G3 n3 t3 h3=>?_
   walk_at "tx"
   refine RD.adds (by omega) ?_
   walk_at "tx"
   refine RD.adds (by omega) ?_
   walk_at "tx"
   refine RD.lstV ((more15 cl).drop 4) (by simp [more15]) fun p4 G4 n4 t4 h4=>?_
   refine RD.catV (t4 _ _ h3) h4 (by simp [more15]) fun p5 G5 n5 t5 h5=>?_
   have u5:=t3.trans (t4.trans t5)
   rw [List.take_append_drop] at h5
   walk_at "rd"
   refine RD.iC (by decide) ?_
   refine RD.ixV (k:=k % 9) (sq h5) (getD_some (Nat.mod_lt _ (by decide))) ?_
   walk_at "rd"
   refine ⟨p,ls,st + 2,(more15 cl).getD (k % 9) [],rfl,u5 _ _ hp,hfew,fun Ga na ta0 ta ha=>?_⟩
   have ua:=u5.trans ta
   walk_at "tx"
   refine RD.lstX ([vst (tx "bad"),vn (st + 3)]) (by simp) fun pb Gb nb tb hb=>?_
   exact res.fin (ua.trans tb) (u5.free ta0) (ua.free nb) (tb _ _ ha) hb
  have c15':c ≠ 15:=by omega
  rw [if_neg c15'] at res
  walk_at "tx"
  refine RD.lstV (["zz", "x1", "twin", "9a"].map tx) (by decide) fun p3 G3 n3 t3 h3=>?_
  walk_at "rd"
  refine RD.iC (by decide) ?_
  refine RD.ixV (k:=k % 4) (sq h3) (getD_some (Nat.mod_lt _ (by decide))) ?_
  have nl:((["zz", "x1", "twin", "9a"].map tx).getD (k % 4) []).length≤10:=by
   have:∀ j,j < 4→((["zz", "x1", "twin", "9a"].map tx).getD j []).length≤10:=by decide +kernel
   exact this _ (Nat.mod_lt _ (by decide))
  revert res nl
  generalize (["zz", "x1", "twin", "9a"].map tx).getD (k % 4) []=n
  intro res nl
  walk_at "tx"
  rw [tspc]
  refine ⟨⟨_,rfl⟩,?_⟩
  walk_at "tx"
  refine RD.lstV [n] (by simp) fun p4 G4 n4 t4 h4=>?_
  walk_at "rd"
  refine RD.slFr (k:=1) ((t3.trans t4) _ _ hhh) fun p5 G5 n5 t5 h5=>?_
  refine RD.catV (t5 _ _ h4) h5 (by simp; omega) fun p6 G6 n6 t6 h6=>?_
  have u6:=t3.trans (t4.trans (t5.trans t6))
  walk_at "rd"
  have hk6:∀ y∈[n]++hs.drop 1,y.length≤10:=fun y hy=>(List.mem_append.mp hy).elim (fun z=>(List.mem_singleton.mp z) ▸ nl) fun z=>hsh y (List.mem_of_mem_drop z)
  have hl6:([n]++hs.drop 1).length≤2:=by rw [List.length_append,List.length_drop]; simp; omega
  refine jnd1 (c:=32) (k:=10) (sq h6) hk6 (by omega) ?_
  have jl:=jn_lenF 32 10 _ hk6
  have b1:(tx "call r0 ").length≤30:=by decide
  have b2:(tx "let y = ").length≤30:=by decide
  have b3:(tx ".next").length≤30:=by decide
  have b4:(tx "call ").length≤30:=by decide
  have b5:(tx " zz9").length≤30:=by decide
  refine RD.adds (by omega) ?_
  walk_at "tx"
  refine RD.adds (by omega) ?_
  walk_at "tx"
  refine RD.adds (by rw [List.length_append]; omega) ?_
  walk_at "tx"
  refine RD.adds (by omega) ?_
  walk_at "tx"
  refine RD.adds (by rw [List.length_append]; omega) ?_
  walk_at "tx"
  refine RD.lstV [tx "call r0 " ++ jn 32 ([n]++hs.drop 1),tx "let y = " ++ n++tx ".next", tx "call " ++ n++tx " zz9"] (by simp) fun p7 G7 n7 t7 h7=>?_
  have u7:=u6.trans t7
  walk_at "rd"
  refine RD.dec (fun c16=>?_) (fun c16=>?_)
  ·have c16:c=16:=by omega
   rw [if_pos c16] at res
   walk_at "rd"
   refine RD.iC ⟨by decide,by decide⟩ ?_
   walk_at "rd"
   refine RD.iC (by decide) ?_
   refine RD.ixV (k:=k / 4 % 3) (sq h7) (getD_some (Nat.mod_lt _ (by decide))) ?_
   have ex : [tx "call r0 " ++ jn 32 ([n]++hs.drop 1),tx "let y = " ++ n++tx ".next", tx "call " ++ n++tx " zz9"].getD (k / 4 % 3) []=(if k / 4 % 3=0 then tx "call r0 " ++ jn 32 (n :: hs.drop 1) else if k / 4 % 3=1 then tx "let y = " ++ n++tx ".next" else tx "call " ++ n++tx " zz9"):=by
    have m1:k / 4 % 3=0∨k / 4 % 3=1∨k / 4 % 3=2:=by omega
    rcases m1 with m1 | m1 | m1 <;> rw [m1] <;> rfl
   rw [ex]
   revert res
   generalize (if k / 4 % 3=0 then tx "call r0 " ++ jn 32 (n :: hs.drop 1) else if k / 4 % 3=1 then tx "let y = " ++ n++tx ".next" else tx "call " ++ n++tx " zz9")=x
   intro res
   walk_at "rd"
   refine ⟨p,ls,st + 2,x,rfl,u7 _ _ hp,hfew,fun Ga na ta0 ta ha=>?_⟩
   have ua:=u7.trans ta
   walk_at "tx"
   refine RD.lstX ([vst (tx "unknown"),vn (st + 3),vst n]) (by simp) fun pb Gb nb tb hb=>?_
   exact res.fin (ua.trans tb) (u7.free ta0) (ua.free nb) (tb _ _ ha) hb
  have c16':c ≠ 16:=by omega
  rw [if_neg c16'] at res
  walk_at "rd"
  refine RD.dec (fun c17=>?_) (fun c17=>?_)
  ·have c17:c=17:=by omega
   rw [if_pos c17] at res
   have b6:(tx "tell a ").length≤30:=by decide
   walk_at "tx"
   refine RD.adds (by omega) ?_
   walk_at "tx"
   refine RD.lstV [tx "tell a " ++ n] (by simp) fun p8 G8 n8 t8 h8=>?_
   refine RD.catV ((u7.trans t8) _ _ hp) h8 (by simp; omega) fun p9 G9 n9 t9 h9=>?_
   have u8:=u7.trans t8
   have u9:=u8.trans t9
   walk_at "tx"
   refine RD.lstX [vst (tx "unknown"),vn (ls.length + 1),vst n] (by simp) fun pb Gb nb tb hb=>?_
   exact res.fin (u9.trans tb) (u8.free n9) (u9.free nb) (tb _ _ h9) hb
  have c17':c ≠ 17:=by omega
  rw [if_neg c17'] at res
  walk_at "rd"
  refine ⟨p,ls,c,rfl,u7 _ _ hp,hfew,fun H' a1 a2 a3 n1 n2 n3 sm e1 e2 e3=>?_⟩
  exact res H' a1 a2 a3 (u7.free n1) (u7.free n2) (u7.free n3) (u7.trans sm) e1 e2 e3
end
end Pf

namespace Pf
open PySem PySem.Spec PyProof.Rows L2
def sp_law (K:PySem.W.Frag):Sp:=fun vs H Q _=>∃ (a:Addr) (ns:List Int),vs=[.ref a]∧SqL K H a (ns.map V.int)∧ns.length≤63∧∀ H',Q (.bl true) H'
end Pf

namespace PR
open RD
def tokB (n:Nat) (l:Tx):Bool:=decide (l.length≤n) && !decide (10∈l)
structure Bd (n m:Nat) (ls:List Tx):Prop where
 n:ls.length≤n
 t:∀ l∈ls,tokB m l=true
theorem tokB_of {m:Nat} {l:Tx} (h:tokB m l=true):l.length≤m∧10 ∉ l:=by
 unfold tokB at h
 rw [Bool.and_eq_true,Bool.not_eq_true'] at h
 exact ⟨of_decide_eq_true h.1,of_decide_eq_false h.2⟩
theorem tokB_mk {m:Nat} {l:Tx} (h:l.length≤m) (h2 : 10 ∉ l):tokB m l=true:=by
 unfold tokB
 rw [Bool.and_eq_true,Bool.not_eq_true']
 exact ⟨decide_eq_true h,decide_eq_false h2⟩
section
variable {n n' m a:Nat} {x y:List Tx} {l:Tx}
theorem Bd.app (h:Bd n m x) (h':Bd n' m y):Bd (n + n') m (x++y):=⟨by rw [List.length_append]; have:=h.n; have:=h'.n; omega,fun l hl=>(List.mem_append.mp hl).elim (h.t l) (h'.t l)⟩
theorem Bd.tk (h:Bd n m x):Bd n m (x.take a):=⟨by rw [List.length_take]; have:=h.n; omega,fun l hl=>h.t l (List.mem_of_mem_take hl)⟩
theorem Bd.dr (h:Bd n m x):Bd n m (x.drop a):=⟨by rw [List.length_drop]; have:=h.n; omega,fun l hl=>h.t l (List.mem_of_mem_drop hl)⟩
theorem Bd.wk (h:Bd n m x) (hn:n≤n'):Bd n' m x:=⟨Nat.le_trans h.n hn,h.t⟩
theorem Bd.wm {m':Nat} (h:Bd n m x) (hn:m≤m'):Bd n m' x:=⟨h.n,fun l hl=>tokB_mk (Nat.le_trans (tokB_of (h.t l hl)).1 hn) (tokB_of (h.t l hl)).2⟩
theorem Bd.of (h:x.all (tokB m)=true) (hn:x.length≤n):Bd n m x:=⟨hn,fun l hl=>List.all_eq_true.mp h l hl⟩
theorem Bd.one (h:tokB m l=true):Bd 1 m [l]:=⟨Nat.le_refl _,fun x hx=>by rw [List.mem_singleton.mp hx]; exact h⟩
theorem Bd.put (h:Bd n m x) (hl:tokB m l=true):Bd (n + 1) m (put53 x a l):=by
 refine ⟨?_,fun y hy=>?_⟩
 ·unfold put53
  rw [List.length_append,List.length_append,List.length_take,List.length_drop,List.length_singleton]
  have:=h.n
  omega
 ·unfold put53 at hy
  rcases List.mem_append.mp hy with hy | hy
  ·rcases List.mem_append.mp hy with hy | hy
   ·exact h.t _ (List.mem_of_mem_take hy)
   ·rw [List.mem_singleton.mp hy]; exact hl
  ·exact h.t _ (List.mem_of_mem_drop hy)
theorem Bd.sub (h:Bd n m x) (hl:tokB m l=true):Bd (n + 1) m (sub53 x a l):=by
 refine ⟨?_,fun y hy=>?_⟩
 ·unfold sub53
  rw [List.length_append,List.length_append,List.length_take,List.length_drop,List.length_singleton]
  have:=h.n
  omega
 ·unfold sub53 at hy
  rcases List.mem_append.mp hy with hy | hy
  ·rcases List.mem_append.mp hy with hy | hy
   ·exact h.t _ (List.mem_of_mem_take hy)
   ·rw [List.mem_singleton.mp hy]; exact hl
  ·exact h.t _ (List.mem_of_mem_drop hy)
theorem Bd.getD (h:Bd n m x):tokB m (x.getD a [])=true:=by
 rw [List.getD_eq_getElem?_getD]
 cases e:x[a]? with
 | none=>exact tokB_mk (Nat.zero_le _) (by simp)
 | some z=>exact h.t z (List.mem_of_getElem? e)
end
theorem told_bd {ls:List Tx} (h:Bd 400 200 ls):(jn 10 ls).length≤1000000∧(spc 10 (jn 10 ls)).length≤1000∧∀ l∈spc 10 (jn 10 ls),l.length≤400:=by
 have hl:=Pf.jn_lenF 10 200 ls fun l hl=>(tokB_of (h.t l hl)).1
 have hn:=h.n
 refine ⟨Nat.le_trans hl (Nat.le_trans (Nat.mul_le_mul_right _ hn) (by decide)),?_⟩
 by_cases e:ls=[]
 ·subst e
  exact ⟨by decide,fun l hl=>by
   have:l=[]:=by simpa [jn,spc,TL.spl] using hl
   rw [this]; exact Nat.zero_le _⟩
 ·have:spc 10 (jn 10 ls)=ls:=by rw [spc_sp1]; exact sp1_jn e fun l hl=>(tokB_of (h.t l hl)).2
  rw [this]
  exact ⟨by omega,fun l hl=>by have:=(tokB_of (h.t l hl)).1; omega⟩
def hAll:List (List Tx):=hss 0++hss 4
theorem hss_all {d:Nat} {hs:List Tx} (h:hs∈hss d):hs∈hAll:=by
 unfold hAll hss at *
 rw [if_pos (by decide),if_neg (by decide)]
 by_cases c:d < 4
 ·rw [if_pos c] at h; exact List.mem_append_left _ h
 ·rw [if_neg c] at h; exact List.mem_append_right _ h
theorem rP_bd:∀ i,i < 2→∀ k,k < 8→((rP i k).all (tokB 60) && decide ((rP i k).length≤45))=true:=by decide +kernel
theorem sP_bd:∀ d,d < 8→(hAll.all fun hs=>(List.range 3).all fun e=>(sP d hs e).all (tokB 60))=true:=by decide +kernel
theorem x53_bd:(hAll.all fun hs=>(x53 hs).all fun z=>tokB 100 z.1)=true:=by decide +kernel
theorem hs_bd:(hAll.all fun hs=>decide (1≤hs.length) && (decide (hs.length≤2) && (hs.all (fun x=>decide (x.length≤10)) && (decide ((callL hs).length≤40) && tokB 100 (tx "call x1 = " ++ callL hs)))))=true:=by decide +kernel
theorem mk_bd:(wrong6.all (tokB 100) && (n4.all (fun n=>tokB 100 (tx "tell a " ++ n)) && (List.range 22).all fun j=>tokB 100 (tx "let x" ++ TL.numL j++tx " = a.twin")))=true:=by decide +kernel
def P3 (d0 d1:Nat):List Tx:=pre2 d0 d1++[tx "script s a b"]
def chk3B (d0 d1:Nat):Bool:=[s2of d0,s3of d0 d1].all (fun a=>[tx "r0", tx "r1"].all (fun r=>tokB 100 (jn 32 ((spc 32 ((P3 d0 d1).getD a [])).set 1 r))) && decide (2≤(spc 32 ((P3 d0 d1).getD a [])).length)) &&
 (decide (3≤s2of d0) && (decide (s2of d0 + 3≤s3of d0 d1) && decide (s3of d0 d1≤92)))
theorem chk3B_ok:∀ d0,d0 < 8→∀ d1,d1 < 8→chk3B d0 d1=true:=by decide +kernel
structure C3 (d0 d1:Nat):Prop where
 r:∀ a,(a=s2of d0∨a=s3of d0 d1)→(∀ r,(r=tx "r0" ∨ r=tx "r1")→tokB 100 (jn 32 ((spc 32 ((P3 d0 d1).getD a [])).set 1 r))=true)∧2≤(spc 32 ((P3 d0 d1).getD a [])).length
 lo : 3≤s2of d0
 mid:s2of d0 + 3≤s3of d0 d1
 hi:s3of d0 d1≤92
theorem c3_of {d0 d1:Nat} (h0:d0 < 8) (h1:d1 < 8):C3 d0 d1:=by
 have h:=chk3B_ok d0 h0 d1 h1
 unfold chk3B at h
 simp only [Bool.and_eq_true,decide_eq_true_eq] at h
 obtain ⟨h,h3,h4,h5⟩:=h
 refine ⟨fun a ha=>?_,h3,h4,h5⟩
 have h:=List.all_eq_true.mp h a (by rcases ha with rfl | rfl <;> simp)
 rw [Bool.and_eq_true] at h
 exact ⟨fun r hr=>List.all_eq_true.mp h.1 r (by rcases hr with rfl | rfl <;> simp),of_decide_eq_true h.2⟩
section
variable {d0 d1:Nat} (h0:d0 < 8) (h1:d1 < 8) {hs:List Tx} (hh:hs∈hss d0) {e:Nat} (he:e < 3)
include h0 h1 hh he
theorem L_bd:Bd 98 60 (lines53 d0 d1 hs e):=by
 have a:=rP_bd 0 (by decide) d0 h0
 have b:=rP_bd 1 (by decide) d1 h1
 rw [Bool.and_eq_true] at a b
 have c:=List.all_eq_true.mp (List.all_eq_true.mp (sP_bd d1 h1) hs (hss_all hh)) e (List.mem_range.mpr he)
 have C:=c3_of h0 h1
 have len:(lines53 d0 d1 hs e).length=s3of d0 d1 + (4 + e):=by
  show (pre2 d0 d1++sP d1 hs e).length=_
  rw [List.length_append,pre2_len,sP]
  simp
  omega
 refine ⟨by rw [len]; have:=C.hi; omega,fun l hl=>?_⟩
 have hl:l∈rP 0 d0++[[]]++(rP 1 d1++[[]])++sP d1 hs e:=hl
 have hn:tokB 60 []=true:=by decide
 rcases List.mem_append.mp hl with hl | hl
 ·rcases List.mem_append.mp hl with hl | hl
  ·rcases List.mem_append.mp hl with hl | hl
   ·exact List.all_eq_true.mp a.1 l hl
   ·rw [List.mem_singleton.mp hl]; exact hn
  ·rcases List.mem_append.mp hl with hl | hl
   ·exact List.all_eq_true.mp b.1 l hl
   ·rw [List.mem_singleton.mp hl]; exact hn
 ·exact List.all_eq_true.mp c l hl
theorem L_len:(lines53 d0 d1 hs e).length=s3of d0 d1 + (4 + e):=by
 show (pre2 d0 d1++sP d1 hs e).length=_
 rw [List.length_append,pre2_len,sP]
 simp
 omega
theorem L_get {a:Nat} (ha:a≤s3of d0 d1):(lines53 d0 d1 hs e).getD a []=(P3 d0 d1).getD a []:=by
 have:lines53 d0 d1 hs e=P3 d0 d1++(l1T :: tail53 d1 hs e):=by
  show pre2 d0 d1++sP d1 hs e=_
  rw [sP_eq]
  unfold P3
  simp
 rw [this,List.getD_eq_getElem?_getD,List.getD_eq_getElem?_getD,List.getElem?_append_left]
 unfold P3
 rw [List.length_append,pre2_len]
 simp
 omega
theorem inBook_bd {c:Nat} (k:Nat):Bd 300 100 (inBook (lines53 d0 d1 hs e) (s2of d0) (s3of d0 d1) c k).1:=by
 have B:=(L_bd h0 h1 hh he).wm (m':=100) (by decide)
 have B6:=L_bd h0 h1 hh he
 have C:=c3_of h0 h1
 have M:=mk_bd
 rw [Bool.and_eq_true] at M
 have g2:=L_get h0 h1 hh he (a:=s2of d0) (by have:=C.mid; omega)
 have g3:=L_get h0 h1 hh he (a:=s3of d0 d1) (Nat.le_refl _)
 generalize lines53 d0 d1 hs e=L at B B6 g2 g3
 have bn:tokB 100 []=true:=by decide
 have b1:Bd 1 100 [[]] := .one bn
 unfold inBook
 by_cases c0:c=0
 ·simp only [if_pos c0]
  by_cases k2:k % 2=0
  ·rw [if_pos k2]
   exact (b1.app B).wk (by decide)
  ·rw [if_neg k2]
   exact (B.app b1).wk (by decide)
 simp only [if_neg c0]
 by_cases c1:c=1
 ·simp only [if_pos c1]
  exact (B.put bn).wk (by decide)
 simp only [if_neg c1]
 by_cases c2:c=2
 ·simp only [if_pos c2]
  refine Bd.wk ((B.tk.app (n':=1) ?_).app B.dr) (by decide)
  by_cases k2:k % 2=1
  ·rw [if_pos k2]; exact .one (by decide)
  ·rw [if_neg k2]; exact ⟨by decide,fun l hl=>by cases hl⟩
 simp only [if_neg c2]
 by_cases c3:c=3
 ·simp only [if_pos c3]
  refine (B.sub ?_).wk (by decide)
  have hr:∀ m:Nat,(if k % 2=0 then tx "r0" else if m=0 then tx "r0" else tx "r1")=tx "r0" ∨ (if k % 2=0 then tx "r0" else if m=0 then tx "r0" else tx "r1")=tx "r1" := fun m=>by
   by_cases k2:k % 2=0
   ·rw [if_pos k2]; exact .inl rfl
   ·rw [if_neg k2]
    by_cases m0:m=0
    ·rw [if_pos m0]; exact .inl rfl
    ·rw [if_neg m0]; exact .inr rfl
  have hr:=hr (k / 2 % 2)
  revert hr
  generalize (if k % 2=0 then tx "r0" else if k / 2 % 2=0 then tx "r0" else tx "r1")=r
  intro hr
  by_cases k2:k % 2=0
  ·simp only [if_pos k2]
   rw [g2]
   exact (C.r _ (.inl rfl)).1 r hr
  ·simp only [if_neg k2]
   rw [g3]
   exact (C.r _ (.inr rfl)).1 r hr
 simp only [if_neg c3]
 by_cases c4:c=4
 ·simp only [if_pos c4]
  refine (B.sub ?_).wk (by decide)
  obtain ⟨t1,t2⟩:=tokB_of (B6.getD (a:=(if k / 2 % 2=0 then 0 else s2of d0) + 1 + k / 4 % ((if k / 2 % 2=0 then s2of d0 else s3of d0 d1) - (if k / 2 % 2=0 then 0 else s2of d0) - 2)))
  rw [tspc]
  refine tokB_mk (by rw [List.length_append,List.length_singleton]; omega) fun z=>?_
  rcases List.mem_append.mp z with z | z
  ·exact t2 z
  ·exact absurd (List.mem_singleton.mp z) (by decide)
 simp only [if_neg c4]
 by_cases c5:c=5
 ·simp only [if_pos c5]
  by_cases k1:k / 4 % 3=1
  ·simp only [if_pos k1]
   exact ((B.tk.app (.one (by decide +kernel))).app B.dr).wk (by decide)
  simp only [if_neg k1]
  by_cases k2:k / 4 % 3=2
  ·simp only [if_pos k2]
   exact ((B.tk.app (.one (by decide +kernel))).app B.dr).wk (by decide)
  simp only [if_neg k2]
  exact ((B.tk.app (.one (by decide +kernel))).app B.dr).wk (by decide)
 simp only [if_neg c5]
 by_cases c6:c=6
 ·simp only [if_pos c6]
  exact (B.sub ((Bd.of (n:=10) M.1 (by decide)).getD)).wk (by decide)
 simp only [if_neg c6]
 exact b1.wk (by decide)
theorem inScript_bd {c:Nat} (k:Nat):Bd 300 100 (inScript (lines53 d0 d1 hs e) (s3of d0 d1) c k (callL hs) hs).1:=by
 have B:=(L_bd h0 h1 hh he).wm (m':=100) (by decide)
 have M:=mk_bd
 rw [Bool.and_eq_true,Bool.and_eq_true] at M
 have X:∀ z∈x53 hs,tokB 100 z.1=true:=List.all_eq_true.mp (List.all_eq_true.mp x53_bd hs (hss_all hh))
 generalize lines53 d0 d1 hs e=L at B
 unfold inScript
 simp only
 by_cases z8:c=8
 ·simp only [if_pos z8]
  exact (B.put (X _ (mA (j:=k % 15) (by omega)))).wk (by decide)
 simp only [if_neg z8]
 by_cases z9:c=9
 ·simp only [if_pos z9]
  by_cases hk:k % 2=1
  ·simp only [if_pos hk]
   exact (B.put (by decide +kernel)).wk (by decide)
  ·simp only [if_neg hk]
   exact (B.put (by decide +kernel)).wk (by decide)
 simp only [if_neg z9]
 by_cases z10:c=10
 ·simp only [if_pos z10]
  exact (B.put (by decide +kernel)).wk (by decide)
 simp only [if_neg z10]
 by_cases z11:c=11
 ·simp only [if_pos z11]
  refine Bd.wk ((B.tk.app (n':=21) ⟨by rw [List.length_map,List.length_range]; omega,fun l hl=>?_⟩).app B.dr) (by decide)
  obtain ⟨j,hj,rfl⟩:=List.mem_map.mp hl
  exact List.all_eq_true.mp M.2.2 j (List.mem_range.mpr (by have:=List.mem_range.mp hj; omega))
 simp only [if_neg z11]
 by_cases z12:c < 14
 ·simp only [if_pos z12]
  exact (B.put (X _ (mC (j:=k % 5) (by omega)))).wk (by decide)
 simp only [if_neg z12]
 by_cases z14:c=14
 ·simp only [if_pos z14]
  exact (B.put (X _ (mD (j:=k % 3) (by omega)))).wk (by decide)
 simp only [if_neg z14]
 by_cases z15:c=15
 ·simp only [if_pos z15]
  exact (B.put (X _ (mE (j:=k % 9) (by omega)))).wk (by decide)
 simp only [if_neg z15]
 by_cases z16:c=16
 ·simp only [if_pos z16]
  exact (B.put (X _ (mF (j:=k % 4) (i:=k / 4 % 3) (by omega) (by omega)))).wk (by decide)
 simp only [if_neg z16]
 by_cases z17:c=17
 ·simp only [if_pos z17]
  exact (B.app (.one (List.all_eq_true.mp M.2.1 (n4.getD (k % 4) []) (getD_mem (show k % 4 < 4 by omega))))).wk (by decide)
 simp only [if_neg z17]
 unfold below
 by_cases z18:c=18
 ·simp only [if_pos z18]
  exact (B.app (n':=3) (Bd.of (by decide +kernel) (by decide))).wk (by decide)
 ·simp only [if_neg z18]
  exact (B.app (n':=6) (Bd.of (by decide +kernel) (by decide))).wk (by decide)
theorem spoil_bd {c:Nat} (k:Nat):Bd 300 100 (spoil53 d0 d1 hs e c k).1:=by
 have B:=(L_bd h0 h1 hh he).wm (m':=100) (by decide)
 have H:=List.all_eq_true.mp hs_bd hs (hss_all hh)
 simp only [Bool.and_eq_true] at H
 unfold spoil53
 simp only
 by_cases c8:c < 8
 ·rw [if_pos c8]; exact inBook_bd h0 h1 hh he k
 rw [if_neg c8]
 by_cases c20:c < 20
 ·rw [if_pos c20]; exact inScript_bd h0 h1 hh he k
 rw [if_neg c20]
 by_cases c22:c < 22
 ·rw [if_pos c22]
  by_cases hi:c=21∧(jn 32 ((flines d0).drop ((flines d0).length - 1))).take 7=tx "tell p " ∧ k % 2=0
  ·rw [if_pos hi]
   exact (B.put H.2.2.2.2).wk (by decide)
  ·rw [if_neg hi]
   refine Bd.wk (B.app (n':=2) (y:=[[],if k % 2=0 then tx "script s a" else tx "routine s a"]) ⟨Nat.le_refl 2,fun l hl=>?_⟩) (by decide)
   rcases List.mem_cons.mp hl with rfl | hl
   ·decide
   ·rw [List.mem_singleton.mp hl]
    by_cases hk:k % 2=0
    ·rw [if_pos hk]; decide +kernel
    ·rw [if_neg hk]; decide +kernel
 ·rw [if_neg c22]; exact B.wk (by decide)
theorem lx53:Pf.Lx53 (lines53 d0 d1 hs e) (s2of d0) (s3of d0 d1):=by
 have B:=L_bd h0 h1 hh he
 have C:=c3_of h0 h1
 have ln:=L_len h0 h1 hh he
 refine ⟨by have:=B.n; omega,C.lo,C.mid,by omega,fun l hl=>by have:=(tokB_of (B.t l hl)).1; omega,?_,?_⟩
 ·rw [L_get h0 h1 hh he (by have:=C.mid; omega)]; exact (C.r _ (.inl rfl)).2
 ·rw [L_get h0 h1 hh he (Nat.le_refl _)]; exact (C.r _ (.inr rfl)).2
theorem sx53 {c k:Nat} (c8 : 8≤c) (c20:c < 20) (hk:k < 100000):Pf.Sx53 (lines53 d0 d1 hs e) hs (callL hs) (s3of d0 d1) c k:=by
 have B:=L_bd h0 h1 hh he
 have ln:=L_len h0 h1 hh he
 have H:=List.all_eq_true.mp hs_bd hs (hss_all hh)
 simp only [Bool.and_eq_true,decide_eq_true_eq] at H
 exact ⟨by have:=B.n; omega,by omega,by omega,H.1,H.2.1,fun x hx=>of_decide_eq_true (List.all_eq_true.mp H.2.2.1 x hx),H.2.2.2.1,c8,c20,hk⟩
end
theorem both_bd {r:List Tx × Option Err} (h:Bd 300 100 r.1) (b:Bool):Bd 400 200 (both53 r b):=by
 obtain ⟨ls,z⟩:=r
 have h:Bd 300 100 ls:=h
 have w:=(h.wm (m':=200) (by decide)).wk (n':=400) (by decide)
 cases z with
 | none=>exact w
 | some e =>
  unfold both53
  simp only
  by_cases c:b=true∧errL e < ls.length
  ·rw [if_pos c]
   refine Bd.wk ((h.wm (m':=200) (by decide)).tk.app (n':=1) (.one ?_)) (by decide)
   obtain ⟨t1,t2⟩:(ls.getD (ls.length - 1) []).length≤100∧10 ∉ ls.getD (ls.length - 1) []:=tokB_of (h.getD (a:=ls.length - 1))
   rw [tspc]
   refine tokB_mk (by rw [List.length_append,List.length_singleton]; omega) fun z=>?_
   rcases List.mem_append.mp z with z | z
   ·exact t2 z
   ·exact absurd (List.mem_singleton.mp z) (by decide)
  ·rw [if_neg c]; exact w
def lowB (x:Tx):Bool:=x.all fun c=>decide (c < 1000)
def lowEB:Err→Bool
 | .bad _=>true
 | .unk _ x=>lowB x
 | .knd _ x=>lowB x
theorem low_getD {ls:List Tx} (h:ls.all lowB=true) (i:Nat):lowB (ls.getD i [])=true:=by
 rw [List.getD_eq_getElem?_getD]
 cases e:ls[i]? with
 | none=>rfl
 | some z=>exact List.all_eq_true.mp h z (List.mem_of_getElem? e)
theorem inBook_low (L:List Tx) (s2 s3 c k:Nat):lowEB (inBook L s2 s3 c k).2=true:=by
 have z1:lowB (tx "zz")=true:=by decide +kernel
 have z2:lowB (tx "g")=true:=by decide +kernel
 unfold inBook
 by_cases c0:c=0
 ·simp only [if_pos c0]
  by_cases k2:k % 2=0
  ·rw [if_pos k2]; rfl
  ·rw [if_neg k2]; rfl
 simp only [if_neg c0]
 by_cases c1:c=1
 ·simp only [if_pos c1]; rfl
 simp only [if_neg c1]
 by_cases c2:c=2
 ·simp only [if_pos c2]; rfl
 simp only [if_neg c2]
 by_cases c3:c=3
 ·simp only [if_pos c3]; rfl
 simp only [if_neg c3]
 by_cases c4:c=4
 ·simp only [if_pos c4]; rfl
 simp only [if_neg c4]
 by_cases c5:c=5
 ·simp only [if_pos c5]
  by_cases k1:k / 4 % 3=1
  ·simp only [if_pos k1]; exact z1
  simp only [if_neg k1]
  by_cases k2:k / 4 % 3=2
  ·simp only [if_pos k2]; exact z2
  simp only [if_neg k2]; rfl
 simp only [if_neg c5]
 by_cases c6:c=6
 ·simp only [if_pos c6]; rfl
 simp only [if_neg c6]; rfl
theorem inScript_low (L:List Tx) (st c k:Nat) (cl:Tx) (hs:List Tx):lowEB (inScript L st c k cl hs).2=true:=by
 have z1:lowB (tx "zz")=true:=by decide +kernel
 have z2:lowB (tx "s")=true∧lowB (tx "r2")=true:=by decide +kernel
 have z3:n5.all lowB=true:=by decide +kernel
 have z4:n4.all lowB=true:=by decide +kernel
 unfold inScript
 simp only
 by_cases z8:c=8
 ·simp only [if_pos z8]; rfl
 simp only [if_neg z8]
 by_cases z9:c=9
 ·simp only [if_pos z9]
  by_cases hk:k % 2=1
  ·simp only [if_pos hk]; exact z1
  ·simp only [if_neg hk]; rfl
 simp only [if_neg z9]
 by_cases z10:c=10
 ·simp only [if_pos z10]; rfl
 simp only [if_neg z10]
 by_cases z11:c=11
 ·simp only [if_pos z11]; rfl
 simp only [if_neg z11]
 by_cases z12:c < 14
 ·simp only [if_pos z12]; exact low_getD z3 _
 simp only [if_neg z12]
 by_cases z14:c=14
 ·simp only [if_pos z14]; rfl
 simp only [if_neg z14]
 by_cases z15:c=15
 ·simp only [if_pos z15]; rfl
 simp only [if_neg z15]
 by_cases z16:c=16
 ·simp only [if_pos z16]; exact low_getD z4 _
 simp only [if_neg z16]
 by_cases z17:c=17
 ·simp only [if_pos z17]; exact low_getD z4 _
 simp only [if_neg z17]
 unfold below
 by_cases z18:c=18
 ·simp only [if_pos z18]; exact z2.1
 ·simp only [if_neg z18]; exact z2.2
section
variable {d0 d1:Nat} {hs:List Tx} {e c k:Nat}
theorem sp8 (h:c < 8):spoil53 d0 d1 hs e c k=((inBook (lines53 d0 d1 hs e) (s2of d0) (s3of d0 d1) c k).1,some (inBook (lines53 d0 d1 hs e) (s2of d0) (s3of d0 d1) c k).2):=by
 unfold spoil53
 simp only
 rw [if_pos h]
theorem sp20 (h:¬ c < 8) (h2:c < 20):spoil53 d0 d1 hs e c k=((inScript (lines53 d0 d1 hs e) (s3of d0 d1) c k (callL hs) hs).1,some (inScript (lines53 d0 d1 hs e) (s3of d0 d1) c k (callL hs) hs).2):=by
 unfold spoil53
 simp only
 rw [if_neg h,if_pos h2]
theorem sp21 (h2:¬ c < 20) (h3:c < 22) (hi:c=21∧(jn 32 ((flines d0).drop ((flines d0).length - 1))).take 7=tx "tell p " ∧ k % 2=0):spoil53 d0 d1 hs e c k=(put53 (lines53 d0 d1 hs e) (s3of d0 d1 + 1) (tx "call x1 = " ++ callL hs),some (.bad (s3of d0 d1 + 2))):=by
 unfold spoil53
 simp only
 rw [if_neg (by omega),if_neg h2,if_pos h3,if_pos hi]
theorem sp22 (h2:¬ c < 20) (h3:c < 22) (hi:¬ (c=21∧(jn 32 ((flines d0).drop ((flines d0).length - 1))).take 7=tx "tell p " ∧ k % 2=0)):spoil53 d0 d1 hs e c k=(lines53 d0 d1 hs e++[[],if k % 2=0 then tx "script s a" else tx "routine s a"],some (.bad ((lines53 d0 d1 hs e).length + 2))):=by
 unfold spoil53
 simp only
 rw [if_neg (by omega),if_neg h2,if_pos h3,if_neg hi]
theorem sp24 (h3:¬ c < 22):spoil53 d0 d1 hs e c k=(lines53 d0 d1 hs e,none):=by
 unfold spoil53
 simp only
 rw [if_neg (by omega),if_neg (by omega),if_neg h3]
theorem spoil_low:∀ x,(spoil53 d0 d1 hs e c k).2=some x→lowEB x=true:=fun x hx=>by
 by_cases c8:c < 8
 ·rw [sp8 c8] at hx
  cases hx
  exact inBook_low _ _ _ _ _
 by_cases c20:c < 20
 ·rw [sp20 c8 c20] at hx
  cases hx
  exact inScript_low _ _ _ _ _ _
 by_cases c22:c < 22
 ·by_cases hi:c=21∧(jn 32 ((flines d0).drop ((flines d0).length - 1))).take 7=tx "tell p " ∧ k % 2=0
  ·rw [sp21 c20 c22 hi] at hx
   cases hx
   rfl
  ·rw [sp22 c20 c22 hi] at hx
   cases hx
   rfl
 ·rw [sp24 c22] at hx
  cases hx
end
theorem both_sp {zl:List Tx} {e:Err}:both53 (zl,some e) false=zl:=by
 unfold both53
 simp
end PR

namespace Pf
open PySem PySem.Spec PyProof.Rows L2 SX RD PR
def pre53 (d0 d1:Nat):Nat→List Tx
 | 0=>[]
 | 1=>rP 0 d0++[[]]
 | _=>pre2 d0 d1
def st53 (d0:Nat):Nat→List Nat
 | 0=>[]
 | 1=>[0]
 | _=>[0,s2of d0]
theorem tape_ne {H:Hp} {a x:Addr} (t:TapeAt H a) (h:H x=none):x ≠ a:=fun z=>by
 obtain ⟨_,_,h2,_⟩:=t
 rw [z,h2] at h; cases h
theorem lcTapeT {σ : L2.St} {H:Hp} {Q:VK} {K:PySem.W.Frag} {te:TE} {g:TG} {tt:TT} {vs:List Nat} {xs:List V} {t r:Addr} (hr:H r=some (.lst xs)) (hrt:r ≠ t) (hz:xs.length≤10000) (R:Tx→Prop) (h0:TapeAt H t)
  (turn:∀ (i:Nat) (x:V) H1 (Q':VK) (R':Hp→Prop),xs[i]? = some x→TapeAt H1 t→SameX t H H1→(∀ (v:Tx) H4,R v→TapeAt H4 t→SameX t H1 H4→Q' (vst v) H4) →
   g x (wipe σ vs) H1 fun σ2 H3=>wipe σ2 vs=wipe σ vs∧tt σ2 H3 fun b H5=>if b=true then te σ2 H5 Q' else R' H5)
  (hd:∀ H' q (l:List Tx),H q=none→TapeAt H' t→SameX t H H'→l.length=xs.length→(∀ x∈l,R x)→H' q=some (.lst (vsts l))→Q (.ref q) H') :
  ∃ a',V.ref r = .ref a'∧(∃ ys,SqL K H a' ys)∧RD.LR (Itl K a') g tt te vs σ H Q:=by
 refine ⟨r,rfl,⟨_,sq hr⟩,fun D hD=>?_⟩
 have Dt:D ≠ t:=tape_ne h0 hD
 refine lc_it (walk_list (K:=K) (a:=r) (xs:=xs)) (fun i H1=>TapeAt H1 t∧SameX t H H1∧∃ l:List Tx,l.length=i∧(∀ x∈l,R x)∧H1 D=some (.lst (vsts l))) ⟨h0.same (RD.same_new hD),(SameX.refl t H).mut hD,[],rfl,(fun x hx=>nomatch hx),upd_same⟩ (fun i H1 _ hp=>sq (hp.2.1 _ _ hr hrt)) (fun i x H1 H2 hi hp y=>?_) (fun H1 hp=>?_)
 ·obtain ⟨rfl,y⟩:=y
  obtain ⟨t1,s1,l,hl,hR,eD⟩:=hp
  refine turn i _ _ _ _ y t1 s1 fun v H4 rv t4 s4=>?_
  have e4:=s4 _ _ eD Dt
  refine ⟨_,e4,by rw [vsts_len]; exact szt (by omega),?_,(s1.trans s4).mut hD,l++[v],by rw [List.length_append,hl]; rfl,fun x hx=>?_,by rw [upd_same,vsts_app]; rfl⟩
  ·obtain ⟨x,y,h,r⟩:=t4
   exact ⟨x,y,by rw [upd_ne Dt.symm]; exact h,r⟩
  ·rcases List.mem_append.mp hx with hx | hx
   ·exact hR x hx
   ·rw [List.mem_singleton.mp hx]; exact rv
 ·obtain ⟨t1,s1,l,hl,hR,eD⟩:=hp
  exact hd H1 D l hD t1 s1 hl hR eD
theorem cut_last (ls:List Tx):cutV (vsts ls) (some (-1)) none=vsts (ls.drop (ls.length - 1)):=by
 unfold cutV
 have e:HT.sIx (vsts ls).length 0 (some (-1))=ls.length - 1:=by
  rw [vsts_len]
  simp [HT.sIx]
  omega
 have e2:HT.sIx (vsts ls).length (vsts ls).length none=ls.length:=by rw [vsts_len]; rfl
 rw [e,e2,List.take_of_length_le (by rw [List.length_drop,vsts_len]; omega)]
 unfold vsts
 rw [List.map_drop]
theorem rP_len {k:Nat} (h:k < 8) (i:Nat):(flines k).length≤100∧(fnames k).length≤2∧(∀ x∈fnames k,x.length≤10):=by
 have:∀ k,k < 8→(decide ((flines k).length≤100) && (decide ((fnames k).length≤2) && (fnames k).all fun x=>decide (x.length≤10)))=true:=by decide +kernel
 have h:=this k h
 rw [Bool.and_eq_true,Bool.and_eq_true,List.all_eq_true] at h
 exact ⟨of_decide_eq_true h.1,of_decide_eq_true h.2.1,fun x hx=>of_decide_eq_true (h.2.2 x hx)⟩
theorem pre53_len {d0 d1:Nat} (h0:d0 < 8) (h1:d1 < 8):∀ i,i≤2→(pre53 d0 d1 i).length≤100
 | 0,_=>Nat.zero_le _
 | 1,_=>by
  have:=(c3_of h0 h1).hi
  show (rP 0 d0++[[]]).length≤_
  rw [List.length_append]
  unfold s3of at this
  simp
  omega
 | 2,_=>by
  have:=(c3_of h0 h1).hi
  show (pre2 d0 d1).length≤_
  rw [pre2_len]
  omega
 | _ + 3,h=>absurd h (by omega)
theorem hss_of {d0:Nat} {hs:List Tx} (h0:d0 < 8) (hl:hs.length=(fnames d0).length) (hab:∀ x∈hs,x=tx "a" ∨ x=tx "b"):hs∈hss d0:=by
 have ln:∀ d,d < 8→(fnames d).length=if d < 4 then 2 else 1:=by decide +kernel
 rw [ln d0 h0] at hl
 unfold hss
 by_cases c:d0 < 4
 ·rw [if_pos c] at hl ⊢
  match hs,hl with
  | [x,y],_ =>
   rcases hab x (by simp) with rfl | rfl <;> rcases hab y (by simp) with rfl | rfl <;> simp
 ·rw [if_neg c] at hl ⊢
  match hs,hl with
  | [x],_=>rcases hab x (by simp) with rfl | rfl <;> simp
def dueDD:Option Err→List PyData
 | none=>[.int 3]
 | some (.bad n)=>[.str (S (tx "bad")),.int n]
 | some (.unk n x)=>[.str (S (tx "unknown")),.int n,.str (S x)]
 | some (.knd n x)=>[.str (S (tx "kind")),.int n,.str (S x)]
theorem dp_due {K:PySem.W.Frag} {H:Hp}:∀ d,DpAll K H (dueV d) (dueDD d)
 | none => .cons (.int _) .nil
 | some (.bad n) => .cons (.str _) (.cons (.int _) .nil)
 | some (.unk n x) => .cons (.str _) (.cons (.int _) (.cons (.str _) .nil))
 | some (.knd n x) => .cons (.str _) (.cons (.int _) (.cons (.str _) .nil))
def lowT (x:Tx):Prop:=∀ c∈x,c < 1000
theorem lay_lowT {x:Tx} (h:lowT x):PyData.canLay0 (.str (S x))=true:=by
 simp only [PyData.canLay0]
 show (List.toArray x).all (fun c=>decide (c < 0x110000))=true
 rw [List.all_toArray,List.all_eq_true]
 exact fun c hc=>decide_eq_true (by have:=h c hc; omega)
theorem low_bad:PyData.canLay0 (.str (S (tx "bad")))=true:=lay_lowT (by unfold lowT; decide +kernel)
theorem low_unk:PyData.canLay0 (.str (S (tx "unknown")))=true:=lay_lowT (by unfold lowT; decide +kernel)
theorem low_knd:PyData.canLay0 (.str (S (tx "kind")))=true:=lay_lowT (by unfold lowT; decide +kernel)
def lowE:Option Err→Prop
 | some (.unk _ x)=>lowT x
 | some (.knd _ x)=>lowT x
 | _=>True
theorem sh_due:∀ {d:Option Err},lowE d→SeqAt.shaped (.list (dueDD d))=true
 | none,_=>by decide
 | some (.bad n),_=>by unfold SeqAt.shaped; simp [dueDD,PyData.canLay0,PyData.canLayAll0,PyData.depth,PyData.depthAll]; simpa [PyData.canLay0] using low_bad
 | some (.unk n x),h=>by
  have:=lay_lowT h
  unfold SeqAt.shaped; simp [dueDD,PyData.canLayAll0,PyData.depth,PyData.depthAll]; simp [PyData.canLay0,PyData.canLayAll0]; refine ⟨by simpa [PyData.canLay0] using low_unk,by simpa [PyData.canLay0] using this⟩
 | some (.knd n x),h=>by
  have:=lay_lowT h
  unfold SeqAt.shaped; simp [dueDD,PyData.canLayAll0,PyData.depth,PyData.depthAll]; simp [PyData.canLay0,PyData.canLayAll0]; refine ⟨by simpa [PyData.canLay0] using low_knd,by simpa [PyData.canLay0] using this⟩
theorem eq_due:∀ d:Option Err,PyData.eqv (.list (dueDD d)) (.list (dueDD d))=true
 | none=>by simp [dueDD,PyData.eqv,PyData.eqvAll]
 | some (.bad n)=>by simp [dueDD,PyData.eqv,PyData.eqvAll]
 | some (.unk n x)=>by simp [dueDD,PyData.eqv,PyData.eqvAll]
 | some (.knd n x)=>by simp [dueDD,PyData.eqv,PyData.eqvAll]
theorem eq_due3:∀ e:Err,PyData.eqv (.list (dueDD (some e))) (.list [.int 3])=false
 | .bad n=>by simp [dueDD,PyData.eqv,PyData.eqvAll]
 | .unk n x=>by simp [dueDD,PyData.eqv,PyData.eqvAll]
 | .knd n x=>by simp [dueDD,PyData.eqv,PyData.eqvAll]
theorem due_at1 (e:Err):(dueV (some e))[1]? = some (vn (errL e)):=by cases e <;> rfl
theorem dp_3 {K:PySem.W.Frag} {H:Hp} {a:Addr} (h:H a=some (.lst [vn 3])):Dp K H (.ref a) (.list [.int 3]) := .lst (sq h) (.cons (.int _) .nil)
section
variable {P:Program} {w:World} {K:PySem.W.Frag} {mg:Str→Option Value} {base:Heap} {A:Ad}
theorem zsu (T:Txt K mg A):FnOk P w K mg base CX0 11 A.zl5 A.zky ["_law_script"] (sp_law K):=by
 have zrz:=zrg (P:=P) (w:=w) (base:=base) T
 have zia:=zq6 (P:=P) (w:=w) (base:=base) T
 have zo0:=zq1 (P:=P) (w:=w) (base:=base) T
 have zp9:=zpm (P:=P) (w:=w) (base:=base) T
 have zph:=zos (P:=P) (w:=w) (base:=base) T
 have ze4:=znv (P:=P) (w:=w) (base:=base) T
 have zr3:=zre (P:=P) (w:=w) (base:=base) T
 refine T.zn3.ok zbe (fun vs H Q E h=>?_) (fun cdv Ar outer s H vs Q E hr h=>?_)
 ·obtain ⟨a,ns,rfl,_⟩:=h
  rfl
 ·obtain ⟨a,zs,rfl,hS,hlen,q⟩:=h
  refine ⟨_,(pss_cons (ps_set (i:=1) zbe.nd rfl (Or.inr rfl) (pe_call zrz (hr.mono (by decide)) (by rfl) T.zrt T.zkb.kp T.zr4 .nil pass0 (pa_cons (pv 0) (pa_cons pe_int pa_nil))))
   (pss_cons (ps_set (i:=2) zbe.nd rfl (Or.inl rfl) (pe_call zia (hr.mono (by decide)) (by rfl) T.zh2 T.zev.kp T.zib .nil pass0 (pa_cons (pv 1) (pa_cons pe_int pa_nil))))
   (pss_cons (ps_set (i:=3) zbe.nd rfl (Or.inl rfl) (pe_call zia (hr.mono (by decide)) (by rfl) T.zh2 T.zev.kp T.zib .nil pass0 (pa_cons (pv 1) (pa_cons pe_int pa_nil))))
   (pss_cons (ps_set (i:=4) zbe.nd rfl (Or.inl rfl) (pe_cmpR op_eq (pe_call zia (hr.mono (by decide)) (by rfl) T.zh2 T.zev.kp T.zib .nil pass0 (pa_cons (pv 1) (pa_cons pe_int pa_nil))) pe_int (nomark _)))
   (pss_cons (ps_set (i:=5) zbe.nd rfl (Or.inl rfl) (pe_lst (pa_cons (pe_call zo0 (hr.mono (by decide)) (by rfl) T.zou T.zif.kp T.zo1 .nil pass0 (pa_cons (pe_call zia (hr.mono (by decide)) (by rfl) T.zh2 T.zev.kp T.zib .nil pass0 (pa_cons (pv 1) (pa_cons pe_int pa_nil))) pa_nil)) (pa_cons (pe_call zo0 (hr.mono (by decide)) (by rfl) T.zou T.zif.kp T.zo1 .nil pass0 (pa_cons (pe_call zia (hr.mono (by decide)) (by rfl) T.zh2 T.zev.kp T.zib .nil pass0 (pa_cons (pv 1) (pa_cons pe_int pa_nil))) pa_nil)) pa_nil))))
   (pss_cons (ps_set (i:=6) zbe.nd rfl (Or.inl rfl) (pe_lst pa_nil))
   (pss_cons (ps_set (i:=7) zbe.nd rfl (Or.inl rfl) (pe_lst pa_nil))
   (pss_cons (ps_for PassesOwn.never rfl (pi_range1 (by rfl) T.zld (pa_cons pe_int pa_nil)) (pg_name (i:=8) zbe.nd rfl (Or.inl rfl))
   (pss_cons (ps_asg (pe_ix (RD.k_ixL (K:=K) rfl) (pv 5) (pv 8) (fun _ _=>rfl)) (pg_unl rfl (pgs_cons (pg_name (i:=9) zbe.nd rfl (Or.inl rfl)) (pgs_cons (pg_name (i:=10) zbe.nd rfl (Or.inl rfl)) pgs_nil))))
   (pss_cons (ps_expr (RD.k_bm (K:=K) rfl PySem.F.plainAttrs_list PySem.F.slot_list_append PySem.F.type_list_append mt_append (pv 7) (pa_cons (pe_callB (RD.k_len (K:=K) rfl) (by rfl) T.zau (by decide +kernel) (pa_cons (pv 6) pa_nil)) pa_nil)))
   (pss_one (ps_set (i:=6) zbe.nd rfl (Or.inl rfl) (pe_op op_cat (pe_op op_cat (pe_op op_cat (pv 6) (pe_lst (pa_cons (RD.k_join (K:=K) rfl pe_str (pe_op op_cat (pe_lst (pa_cons pe_str (pa_cons (pe_op RD.k_addS pe_str (pe_callTy RD.k_strI (by rfl) T.zr9 (by decide +kernel) (pa_cons (pv 8) pa_nil))) pa_nil))) (pv 9))) pa_nil))) (pv 10)) (pe_lst (pa_cons pe_str pa_nil))))))))
   (pss_cons (ps_expr (RD.k_bm (K:=K) rfl PySem.F.plainAttrs_list PySem.F.slot_list_append PySem.F.type_list_append mt_append (pv 7) (pa_cons (pe_callB (RD.k_len (K:=K) rfl) (by rfl) T.zau (by decide +kernel) (pa_cons (pv 6) pa_nil)) pa_nil)))
   (pss_cons (ps_setLc (i:=11) (own:=[("_law_name", 14)]) (g:=gName 14) (by rfl) zbe.nd rfl rfl (sw_true rfl rfl rfl (by decide +kernel)) (RD.k_pil (K:=K) rfl (pe_ix (RD.k_ixL (K:=K) rfl) (pe_ix (RD.k_ixL (K:=K) rfl) (pv 5) pe_int (fun _ _=>rfl)) pe_int (fun _ _=>rfl))) (blkOk_by (own:=[("_law_name", 14)]) (N:=["_law_script", "_law_tape_here", "_law_choice", "_law_kind", "_law_both", "_law_deeds", "_law_lines", "_law_starts", "_law_k", "_law_names", "_law_body", "_law_halves", "_law_call", "_law_due", "_law_name", "_law_turn"]) (sc:=defScope znd) (by decide +kernel)) (fun _ _ _ _ _=>(pg_name (i:=14) zbe.nd rfl (Or.inl rfl))) (fun _ _ _ _ _=>pts_nil) (fun _ _ _ _ _=>(pe_ix (RD.k_ixL (K:=K) rfl) (pe_lst (pa_cons pe_str (pa_cons pe_str pa_nil))) (pe_call zia (hr.mono (by decide)) (by rfl) T.zh2 T.zev.kp T.zib .nil pass0 (pa_cons (pv 1) (pa_cons pe_int pa_nil))) (fun _ _=>rfl))))
   (pss_cons (ps_set (i:=12) zbe.nd rfl (Or.inr rfl) (pe_op RD.k_addS pe_str (RD.k_join (K:=K) rfl pe_str (pv 11))))
   (pss_cons (ps_set (i:=6) zbe.nd rfl (Or.inl rfl) (pe_op op_cat (pv 6) (pe_lst (pa_cons pe_str (pa_cons pe_str (pa_cons (pe_op RD.k_addS pe_str (pv 12)) (pa_cons (pe_op RD.k_addS pe_str (RD.k_join (K:=K) rfl pe_str (pe_ix (RD.k_ixL (K:=K) rfl) (pe_ix (RD.k_ixL (K:=K) rfl) (pv 5) pe_int (fun _ _=>rfl)) pe_int (fun _ _=>rfl)))) pa_nil)))))))
   (pss_cons (ps_set (i:=6) zbe.nd rfl (Or.inl rfl) (pe_op op_cat (pv 6) (pe_lc (own:=[("_law_turn", 15)]) (g:=gName 15) (by rfl) zbe.nd (pi_range1 (by rfl) T.zld (pa_cons (pe_call zia (hr.mono (by decide)) (by rfl) T.zh2 T.zev.kp T.zib .nil pass0 (pa_cons (pv 1) (pa_cons pe_int pa_nil))) pa_nil)) (blkOk_by (own:=[("_law_turn", 15)]) (N:=["_law_script", "_law_tape_here", "_law_choice", "_law_kind", "_law_both", "_law_deeds", "_law_lines", "_law_starts", "_law_k", "_law_names", "_law_body", "_law_halves", "_law_call", "_law_due", "_law_name", "_law_turn"]) (sc:=defScope znd) (by decide +kernel)) (fun _ _ _ _ _=>(pg_name (i:=15) zbe.nd rfl (Or.inl rfl))) (fun _ _ _ _ _=>pts_nil) (fun _ _ _ _ _=>(pe_op RD.k_addS pe_str (pv 12))))))
   (pss_cons (ps_set (i:=13) zbe.nd rfl (Or.inl rfl) (pe_lst (pa_cons pe_int pa_nil)))
   (RD.pss_cut (ps_if (pt_cmpR op_lt (pv 2) pe_int (nomark _))
   (pss_one (ps_asg (pe_call zp9 (hr.mono (by decide)) (by rfl) T.zqg T.zhs.kp T.zqc .nil pass0 (pa_cons (pv 6) (pa_cons (pv 7) (pa_cons (pv 2) (pa_cons (pv 3) pa_nil))))) (pg_unl rfl (pgs_cons (pg_name (i:=6) zbe.nd rfl (Or.inl rfl)) (pgs_cons (pg_name (i:=13) zbe.nd rfl (Or.inl rfl)) pgs_nil)))))
   (pss_one (ps_if (pt_cmpR op_lt (pv 2) pe_int (nomark _))
   (pss_one (ps_asg (pe_call zph (hr.mono (by decide)) (by rfl) T.zo7 T.zf8.kp T.zpc .nil pass0 (pa_cons (pv 6) (pa_cons (pe_ix (RD.k_ixL (K:=K) rfl) (pv 7) pe_int (fun _ _=>rfl)) (pa_cons (pv 2) (pa_cons (pv 3) (pa_cons (pe_lst (pa_cons (pv 12) (pa_cons (pv 11) pa_nil))) pa_nil)))))) (pg_unl rfl (pgs_cons (pg_name (i:=6) zbe.nd rfl (Or.inl rfl)) (pgs_cons (pg_name (i:=13) zbe.nd rfl (Or.inl rfl)) pgs_nil)))))
   (pss_one (ps_if (pt_cmpR op_lt (pv 2) pe_int (nomark _))
   (pss_cons (ps_set (i:=13) zbe.nd rfl (Or.inl rfl) (pe_lst (pa_cons pe_str (pa_cons (pe_op op_add (pe_callB (RD.k_len (K:=K) rfl) (by rfl) T.zau (by decide +kernel) (pa_cons (pv 6) pa_nil)) pe_int) pa_nil))))
   (pss_cons (ps_set (i:=6) zbe.nd rfl (Or.inl rfl) (pe_op op_cat (pv 6) (pe_lst (pa_cons pe_str (pa_cons (pe_ix (RD.k_ixL (K:=K) rfl) (pe_lst (pa_cons pe_str (pa_cons pe_str pa_nil))) (pe_op op_mod (pe_callTy RD.k_int (by rfl) T.zcn (by decide +kernel) (pa_cons (pv 3) pa_nil)) pe_int) (fun _ _=>rfl)) pa_nil)))))
   (pss_one (ps_if (PW.pt (pw_and (pt_cmpR op_eq (pv 2) pe_int (nomark _)) (pw_and (pt_cmpR op_eq (pe_slice sl_str (RD.k_join (K:=K) rfl pe_str (pe_slice (RD.k_slL (K:=K) rfl) (pe_ix (RD.k_ixL (K:=K) rfl) (pe_ix (RD.k_ixL (K:=K) rfl) (pv 5) pe_int (fun _ _=>rfl)) pe_int (fun _ _=>rfl)) (po_some (pe_un un_neg pe_int)) po_none)) po_none (po_some pe_int)) pe_str (nomark _)) (pw_and1 (pt_cmpR op_eq (pe_op op_mod (pv 3) pe_int) pe_int (nomark _))))))
   (pss_cons (ps_set (i:=13) zbe.nd rfl (Or.inl rfl) (pe_lst (pa_cons pe_str (pa_cons (pe_op op_add (pe_ix (RD.k_ixL (K:=K) rfl) (pv 7) pe_int (fun _ _=>rfl)) pe_int) pa_nil))))
   (pss_one (ps_set (i:=6) zbe.nd rfl (Or.inl rfl) (pe_call ze4 (hr.mono (by decide)) (by rfl) T.zgd T.zd7.kp T.zgf .nil pass0 (pa_cons (pe_slice (RD.k_slL (K:=K) rfl) (pv 6) po_none (po_some (pe_op op_sub (pe_callB (RD.k_len (K:=K) rfl) (by rfl) T.zau (by decide +kernel) (pa_cons (pv 6) pa_nil)) pe_int))) (pa_cons (pe_op op_add (pe_ix (RD.k_ixL (K:=K) rfl) (pv 7) pe_int (fun _ _=>rfl)) pe_int) (pa_cons (pe_op RD.k_addS pe_str (pv 12)) pa_nil)))))))
   pss_nil))))
   pss_nil)))))
   (RD.pss_cut (ps_if (PW.pt (pw_and (pt_cmpR (RD.k_neD (K:=K) rfl hr.units) (pv 13) (pe_lst (pa_cons pe_int pa_nil)) (nomark _)) (pw_and (pt_val (pv 4)) (pw_and1 (pt_cmpR op_lt (pe_ix (RD.k_ixL (K:=K) rfl) (pv 13) pe_int (fun _ _=>rfl)) (pe_callB (RD.k_len (K:=K) rfl) (by rfl) T.zau (by decide +kernel) (pa_cons (pv 6) pa_nil)) (nomark _))))))
   (pss_one (ps_set (i:=6) zbe.nd rfl (Or.inl rfl) (pe_op op_cat (pe_slice (RD.k_slL (K:=K) rfl) (pv 6) po_none (po_some (pe_op op_sub (pe_callB (RD.k_len (K:=K) rfl) (by rfl) T.zau (by decide +kernel) (pa_cons (pv 6) pa_nil)) pe_int))) (pe_lst (pa_cons (pe_op RD.k_addS (pe_ix (RD.k_ixL (K:=K) rfl) (pv 6) (pe_op op_sub (pe_callB (RD.k_len (K:=K) rfl) (by rfl) T.zau (by decide +kernel) (pa_cons (pv 6) pa_nil)) pe_int) (fun _ _=>rfl)) pe_str) pa_nil)))))
   pss_nil)
   (pss_one (ps_ret (pe_cmpR (RD.k_eqD (K:=K) rfl hr.units) (pe_call zr3 (hr.mono (by decide)) (by rfl) T.zrr T.zj2.kp T.zrx .nil pass0 (pa_cons (RD.k_join (K:=K) rfl pe_str (pv 6)) pa_nil)) (pv 13) (nomark _)))))))))))))))))))),?_⟩
  show tSeq _ _ _ [some (.ref a),none,none,none,none,none,none,none,none,none,none,none,none,none,none,none] H
  walk_at "rd"
  refine ⟨a,zs,0,rfl,hS,by decide,fun H1 t0 s1 nt0 tp1=>?_⟩
  walk_at "rd"
  refine ⟨t0,24,rfl,tp1,by decide,by decide,fun c H2 hc tp2 x2=>?_⟩
  have s2:=x2.under s1 nt0
  walk_at "rd"
  refine ⟨t0,27720,rfl,tp2,by decide,by decide,fun kd H3 hkd tp3 x3=>?_⟩
  have s3:=x3.under s2 nt0
  walk_at "rd"
  refine ⟨t0,3,rfl,tp3,by decide,by decide,fun bo H4 hbo tp4 x4=>?_⟩
  have s4:=x4.under s3 nt0
  walk_at "rd"
  refine ⟨t0,8,rfl,tp4,by decide,by decide,fun d0 H5 hd0 tp5 x5=>?_⟩
  have s5:=x5.under s4 nt0
  walk_at "rd"
  refine ⟨d0,rfl,by omega,fun H6 p6 nm li n61 n62 n63 s6 h61 h62 h63=>?_⟩
  have S6:=s5.trans s6
  walk_at "rd"
  refine ⟨t0,8,rfl,tp5.same s6,by decide,by decide,fun d1 H7 hd1 tp7 x7=>?_⟩
  have S7:=x7.under S6 nt0
  walk_at "rd"
  refine ⟨d1,rfl,by omega,fun H8 p8 nm1 li1 n81 n82 n83 s8 h81 h82 h83=>?_⟩
  have S8:=S7.trans s8
  walk_at "rd"
  refine RD.lstX [.ref p6,.ref p8] (Nat.le_of_ble_eq_true rfl) fun pd H9 n9 s9 h9=>?_
  walk_at "rd"
  refine RD.lstX [] (by decide) fun pl0 H10 n10 s10 h10=>?_
  walk_at "rd"
  refine RD.lstX [] (by decide) fun ps H11 n11 s11 h11=>?_
  have s810:=s9.trans s10
  have e61:=s810 _ _ (s8 _ _ (x7 _ _ h61 (tape_ne tp5 n61)))
  have e62:=s810 _ _ (s8 _ _ (x7 _ _ h62 (tape_ne tp5 n62)))
  have e63:=s810 _ _ (s8 _ _ (x7 _ _ h63 (tape_ne tp5 n63)))
  have e81:=s810 _ _ h81
  have e82:=s810 _ _ h82
  have e83:=s810 _ _ h83
  have e9:=s10 _ _ h9
  have tp10:=tp7.same (s8.trans s810)
  have S10:=S8.trans s810
  have nps:∀ {b:Addr} {o:HO},H10 b=some o→b ≠ ps:=fun {b o} h z=>by rw [z,n11] at h; cases h
  have t0s:t0 ≠ ps:=by
   obtain ⟨x,y,h,_⟩:=tp10
   exact nps h
  have S11:=S10.trans s11
  have tp11:=tp10.same s11
  have nm0:nm ≠ t0:=tape_ne tp5 n62
  have pd0:pd ≠ t0:=tape_ne (tp7.same s8) n9
  have tne6:p6 ≠ t0:=tape_ne tp5 n61
  have tneL:li ≠ t0:=tape_ne tp5 n63
  have tne8:p8 ≠ t0:=tape_ne tp7 n81
  have tneM:nm1 ≠ t0:=tape_ne tp7 n82
  have ps0:H ps=none:=S10.free n11
  clear n61 n62 n63 h61 h62 h63 n81 n82 n83 h81 h82 h83 tp1 tp2 tp3 tp4 tp5 tp7 x2 x3 x4 x5 x7 s1 s2 s3 s4 s5 s6 S6 S7 s8 S8 s9 s810 n9 n10 h9 S10
  have kk:∀ i,i < 2→∃ (pk nk lk:Addr) (dk:Nat),([.ref p6,.ref p8]:List V)[i]? = some (.ref pk)∧H11 pk=some (.lst [.ref nk,.ref lk])∧H11 nk=some (.lst (vsts (fnames dk)))∧H11 lk=some (.lst (vsts (flines dk)))∧dk < 8∧pk ≠ ps∧nk ≠ ps∧lk ≠ ps ∧
    pre53 d0 d1 (i + 1)=pre53 d0 d1 i++rP i dk++[[]]∧st53 d0 (i + 1)=st53 d0 i++[(pre53 d0 d1 i).length]:=fun i hi=>by
   match i,hi with
   | 0,_=>exact ⟨p6,nm,li,d0,rfl,s11 _ _ e61,s11 _ _ e62,s11 _ _ e63,by omega,nps e61,nps e62,nps e63,rfl,rfl⟩
   | 1,_=>exact ⟨p8,nm1,li1,d1,rfl,s11 _ _ e81,s11 _ _ e82,s11 _ _ e83,by omega,nps e81,nps e82,nps e83,by
     show pre2 d0 d1=_
     unfold pre2
     show _=rP 0 d0++[[]]++rP 1 d1++[[]]
     simp,by
     show [0,s2of d0]=[0]++[(rP 0 d0++[[]]).length]
     rw [List.length_append]
     rfl⟩
  have h0:d0 < 8:=by omega
  have h1:d1 < 8:=by omega
  have pl0s:pl0 ≠ ps:=nps h10
  have h10':=s11 _ _ h10
  have h9':=s11 _ _ e9
  have pds:pd ≠ ps:=nps e9
  have e61':=s11 _ _ e61
  have e62':=s11 _ _ e62
  have e63':=s11 _ _ e63
  have p6s:=nps e61
  have nms:=nps e62
  have lis:=nps e63
  have e81':=s11 _ _ e81
  have e82':=s11 _ _ e82
  have p8s:=nps e81
  have nm1s:=nps e82
  clear e81 e82 e83 e61 e62 e63 e9 h10 s10 n11
  walk_at "rd"
  refine RD.goR (n:=2) (by omega) (by omega) (by omega) (fun i σ G=>∃ (pl:Addr) (o8 o9 o10:Option V),σ = [some (.ref a),some (.ref t0),some (vn c),some (vn kd),some (.bl (decide ((bo:Int)=1))),some (.ref pd),some (.ref pl),some (.ref ps),o8,o9,o10,none,none,none,none,none]∧pl ≠ ps∧SameX ps H11 G∧G pl=some (.lst (vsts (pre53 d0 d1 i)))∧G ps=some (.lst (vns (st53 d0 i))))
   ⟨pl0,none,none,none,rfl,pl0s,SameX.refl _ _,h10',h11⟩ ?_ ?_
  ·rintro i σ G hi ⟨pl,o8,o9,o10,rfl,pls,sx,hpl,hps⟩
   obtain ⟨pk,nk,lk,dk,hat,hpk,hnk,hlk,hdk,pks,nks,lks,epre,est⟩:=kk i hi
   have RL:=rP_len hdk i
   have PL:=pre53_len h0 h1 i (by omega)
   walk_at "rd"
   refine RD.ixL (sq (sx _ _ h9' pds)) (at_n hat) ?_
   walk_at "rd"
   refine RD.unl2p (sq (sx _ _ hpk pks)) ?_
   walk_at "rd"
   refine ⟨RD.tyL (sq hps),?_⟩
   walk_at "rd"
   refine RD.len (sq hpl) ?_
   rw [vsts_len]
   walk_at "rd"
   refine RD.app hps (by unfold vns; rw [List.length_map]; match i,hi with | 0,_=>exact szt (by show 0 < _; decide) | 1,_=>exact szt (by show 1 < _; decide)) ?_
   have u1:vns (st53 d0 i)++[V.int ((pre53 d0 d1 i).length:Nat)]=vns (st53 d0 (i + 1)):=by rw [est]; unfold vns; rw [List.map_append]; rfl
   rw [u1]
   have sx1:SameX ps H11 (upd G ps (.lst (vns (st53 d0 (i + 1))))):=fun b o h n=>by rw [upd_ne n]; exact sx _ _ h n
   have hpl1:upd G ps (.lst (vns (st53 d0 (i + 1)))) pl=some (.lst (vsts (pre53 d0 d1 i))):=by rw [upd_ne pls]; exact hpl
   have hps1:=upd_same (H:=G) (a:=ps) (o := .lst (vns (st53 d0 (i + 1))))
   revert sx1 hpl1 hps1
   generalize upd G ps (.lst (vns (st53 d0 (i + 1))))=G1
   intro sx1 hpl1 hps1
   clear sx hpl hps u1
   have k1:(tx "routine").length=7:=by decide +kernel
   have ni:(TL.numL i).length≤1:=TL.numL_len (by decide) (by omega:i < 10 ^ 1)
   walk_at "tx"
   refine ⟨⟨_,rfl⟩,?_⟩
   walk_at "tx"
   refine RD.strN (by omega) ?_
   have kr:(tx "r").length=1:=by decide +kernel
   refine RD.adds (by omega) ?_
   walk_at "tx"
   refine RD.lstV [tx "routine", tx "r" ++ TL.numL i] (Nat.le_of_ble_eq_true rfl) fun q1 G2 m1 t1 w1=>?_
   walk_at "rd"
   refine RD.catV w1 (t1 _ _ (sx1 _ _ hnk nks)) (by show 2 + _≤_; have:=RL.2.1; omega) fun q2 G3 m2 t2 w2=>?_
   rw [tspc]
   have sr:(tx "r" ++ TL.numL i).length≤10:=by
    rw [List.length_append]
    have:(tx "r").length=1:=by decide +kernel
    omega
   refine jnd1 (c:=32) (k:=10) (sq w2) (fun x hx=>by
    rcases List.mem_append.mp hx with hx | hx
    ·rcases List.mem_cons.mp hx with rfl | hx
     ·omega
     ·rw [List.mem_singleton.mp hx]; exact sr
    ·exact RL.2.2 x hx) (by rw [List.length_append]; have:=RL.2.1; show (2 + _) * _≤_; omega) ?_
   walk_at "rd"
   refine RD.lstV [jn 32 (tx "routine" :: (tx "r" ++ TL.numL i) :: fnames dk)] (Nat.le_of_ble_eq_true rfl) fun q3 G4 m3 t3 w3=>?_
   have u4:=t1.trans (t2.trans t3)
   refine RD.catV (u4 _ _ hpl1) w3 (by rw [List.length_singleton]; omega) fun q4 G5 m4 t4 w4=>?_
   have u5:=u4.trans t4
   walk_at "rd"
   refine RD.catV w4 (u5 _ _ (sx1 _ _ hlk lks)) (by rw [List.length_append,List.length_singleton]; have:=RL.1; omega) fun q5 G6 m5 t5 w5=>?_
   have u6:=u5.trans t5
   walk_at "rd"
   refine RD.lstV [[]] (Nat.le_of_ble_eq_true rfl) fun q6 G7 m6 t6 w6=>?_
   refine RD.catV (t6 _ _ w5) w6 (by rw [List.length_append,List.length_append,List.length_singleton,List.length_singleton]; have:=RL.1; omega) fun q7 G8 m7 t7 w7=>?_
   have u7:=u6.trans t6
   have u8:=u7.trans t7
   walk_at "rd"
   refine ⟨q7,_,_,_,rfl,fun z=>?_,fun b o h n=>u8 _ _ (sx1 _ _ h n),?_,u8 _ _ hps1⟩
   ·rw [z,u7 _ _ hps1] at m7
    cases m7
   ·rw [w7,epre]
    unfold rP
    simp
  ·rintro σ G ⟨pl,o8,o9,o10,rfl,pls,sx,hpl,hps⟩
   walk_at "rd"
   refine ⟨RD.tyL (sq hps),?_⟩
   walk_at "rd"
   refine RD.len (sq hpl) ?_
   rw [vsts_len]
   walk_at "rd"
   refine RD.app hps (szt (show 2 < _ by decide)) ?_
   have hpl:G pl=some (.lst (vsts (pre2 d0 d1))):=hpl
   have u1:vns (st53 d0 2)++[V.int ((pre53 d0 d1 2).length:Nat)]=vns [0,s2of d0,s3of d0 d1]:=by
    show vns [0,s2of d0]++[V.int ((pre2 d0 d1).length:Nat)]=_
    rw [pre2_len]
    rfl
   rw [u1]
   have sx1:SameX ps H11 (upd G ps (.lst (vns [0,s2of d0,s3of d0 d1]))):=fun b o h n=>by rw [upd_ne n]; exact sx _ _ h n
   have hpl1:upd G ps (.lst (vns [0,s2of d0,s3of d0 d1])) pl=some (.lst (vsts (pre2 d0 d1))):=by rw [upd_ne pls]; exact hpl
   have hps1:=upd_same (H:=G) (a:=ps) (o := .lst (vns [0,s2of d0,s3of d0 d1]))
   revert sx1 hpl1 hps1
   generalize upd G ps (.lst (vns [0,s2of d0,s3of d0 d1]))=G1
   intro sx1 hpl1 hps1
   clear sx hpl hps u1
   have tg1:TapeAt G1 t0:=by
    obtain ⟨x,y,h,r⟩:=tp11
    exact ⟨x,y,sx1 _ _ h t0s,r⟩
   have SG1:Same H G1:=sx1.under S11 ps0
   have d9:=sx1 _ _ h9' pds
   have d61:=sx1 _ _ e61' p6s
   have d62:=sx1 _ _ e62' nms
   have d63:=sx1 _ _ e63' lis
   have d81:=sx1 _ _ e81' p8s
   have d82:=sx1 _ _ e82' nm1s
   have pl0:pl ≠ t0:=fun z=>by
    obtain ⟨x,y,h,r⟩:=tg1
    rw [z,h] at hpl1
    have hw:([.int x,.int y]:List V)=vsts (pre2 d0 d1):=by injection hpl1 with hw; injection hw
    have:=congrArg List.length hw
    rw [vsts_len,pre2_len] at this
    have:=(c3_of h0 h1).mid
    have:=(c3_of h0 h1).lo
    simp at *
    omega
   have p60:p6 ≠ t0:=tne6
   have li0:li ≠ t0:=tneL
   have p80:p8 ≠ t0:=tne8
   have nm10:nm1 ≠ t0:=tneM
   clear sx1 tp11 S11 h9' e61' e62' e63' e81' e82' kk pds p6s nms lis p8s nm1s h10' h11
   walk_at "rd"
   refine RD.ixL (k:=0) (sq d9) rfl ?_
   walk_at "rd"
   refine RD.ixL (k:=0) (sq d61) rfl ?_
   have R0:=rP_len h0 0
   have R1:=rP_len h1 0
   refine lcTapeT d62 nm0 (by rw [vsts_len]; have:=R0.2.1; omega) (fun t=>t=tx "a" ∨ t=tx "b") tg1 (fun j y H1 Q2 R2 hj th xh kT=>?_) (fun G2 hv hs nh tg2 x2 hl hab hhv=>?_)
   ·walk_at "wp"
    walk_at "rd"
    refine ⟨rfl,?_⟩
    walk_at "rd"
    refine RD.lstV [tx "a", tx "b"] (Nat.le_of_ble_eq_true rfl) fun z H4 nz sz hz=>?_
    walk_at "rd"
    refine ⟨t0,2,rfl,th.same sz,by decide,by decide,fun v2 H5 hv2 th5 x5=>?_⟩
    have lv2:v2 < [tx "a", tx "b"].length:=by show v2 < 2; omega
    refine RD.ixV (ls:=[tx "a", tx "b"]) (sq (x5 _ _ hz (tape_ne th nz))) (List.getElem?_eq_getElem lv2) ?_
    refine kT _ _ ?_ th5 ((Same.x sz).trans x5)
    rcases List.mem_cons.mp (List.getElem_mem lv2) with z2 | z2
    ·exact .inl z2
    ·exact .inr (List.mem_singleton.mp z2)
   rw [vsts_len] at hl
   have hh:hs∈hss d0:=hss_of h0 hl hab
   have SG2:Same H G2:=x2.under SG1 nt0
   have d9:=x2 _ _ d9 pd0
   have d61:=x2 _ _ d61 p60
   have d63:=x2 _ _ d63 li0
   have d81:=x2 _ _ d81 p80
   have d82:=x2 _ _ d82 nm10
   have hpl2:=x2 _ _ hpl1 pl0
   have hps2:=x2 _ _ hps1 (Ne.symm t0s)
   have ls1:∀ x∈hs,x.length≤10:=fun x hx=>by rcases hab x hx with rfl | rfl <;> decide +kernel
   have lcl:=List.all_eq_true.mp hs_bd hs (hss_all hh)
   simp only [Bool.and_eq_true,decide_eq_true_eq] at lcl
   have lcl:=lcl.2.2.2.1
   have kr0:(tx "r0 ").length=3:=by decide +kernel
   have kcl:(tx "call ").length=5:=by decide +kernel
   have kr1:(tx "call r1 ").length=8:=by decide +kernel
   have lcall:(tx "r0 " ++ jn 32 hs).length≤40:=lcl
   have lj:=jn_lenF 32 10 (fnames d1) R1.2.2
   have lj2:(fnames d1).length * (10 + 1)≤2 * (10 + 1):=Nat.mul_le_mul_right _ R1.2.1
   have hvt:hv ≠ t0:=tape_ne tg1 nh
   clear SG1 tg1 x2 hpl1 hps1 d62 nh
   walk_at "rd"
   refine ⟨⟨_,rfl⟩,?_⟩
   walk_at "rd"
   rw [tspc]
   refine jnd1 (c:=32) (k:=10) (sq hhv) ls1 (by have:=R0.2.1; rw [hl]; omega) ?_
   refine RD.adds (by rw [List.length_append] at lcall; omega) ?_
   show tSeq _ _ _ [some (.ref a),some (.ref t0),some (vn c),some (vn kd),some (.bl (decide ((bo:Int)=1))),some (.ref pd),some (.ref pl),some (.ref ps),o8,o9,o10,some (.ref hv),some (vst (callL hs)),none,none,none] G2
   walk_at "rd"
   refine RD.adds (by omega) ?_
   walk_at "rd"
   refine ⟨⟨_,rfl⟩,?_⟩
   walk_at "rd"
   refine RD.ixL (k:=1) (sq d9) rfl ?_
   walk_at "rd"
   refine RD.ixL (k:=0) (sq d81) rfl ?_
   rw [tspc]
   refine jnd1 (c:=32) (k:=10) (sq d82) R1.2.2 (by have:=R1.2.1; omega) ?_
   refine RD.adds (by omega) ?_
   walk_at "rd"
   refine RD.lstV [tx "script s a b", tx "let c = a.twin", tx "call " ++ callL hs,tx "call r1 " ++ jn 32 (fnames d1)] (Nat.le_of_ble_eq_true rfl) fun q1 G3 m1 v1 w1=>?_
   have P3:=(c3_of h0 h1).hi
   refine RD.catV (v1 _ _ hpl2) w1 (by rw [pre2_len]; show _ + 4≤_; omega) fun q2 G4 m2 v2 w2=>?_
   have v24:=v1.trans v2
   have q2t:q2 ≠ t0:=tape_ne (tg2.same v1) m2
   walk_at "rd"
   refine ⟨t0,3,rfl,tg2.same v24,by decide,by decide,fun e G5 he tg5 x5=>?_⟩
   have he:e < 3:=by omega
   have SG5:Same H G5:=x5.under (SG2.trans v24) nt0
   have d9:=x5 _ _ (v24 _ _ d9) pd0
   have d61:=x5 _ _ (v24 _ _ d61) p60
   have d63:=x5 _ _ (v24 _ _ d63) li0
   have hps5:=x5 _ _ (v24 _ _ hps2) (Ne.symm t0s)
   have w5:=x5 _ _ w2 q2t
   have hhv:=x5 _ _ (v24 _ _ hhv) hvt
   clear SG2 tg2 x5 w2 w1 v1 v2 v24 m1 m2 d81 d82 hpl2 hps2
   walk_at "rd"
   refine RD.lcR (n:=e) (by omega) (by omega) (by omega) (fun _=>true) (fun _=>vst (tx "call " ++ callL hs)) (fun i H1 Q' R' hi s1 kT kF=>?_) (fun G6 q3 m3 v3 w3=>?_)
   ·walk_at "wp"
    walk_at "rd"
    refine ⟨rfl,?_⟩
    walk_at "rd"
    refine RD.adds (by omega) ?_
    exact kT rfl _ (Same.refl _)
   rw [RD.pick_all (fun _=>rfl)] at w3
   have w3:G6 q3=some (.lst (vsts (List.replicate e (tx "call " ++ callL hs)))):=by
    rw [w3]
    unfold vsts
    rw [List.map_replicate,List.map_const',List.length_range]
   have L5:(pre2 d0 d1++[tx "script s a b", tx "let c = a.twin", tx "call " ++ callL hs,tx "call r1 " ++ jn 32 (fnames d1)]).length≤100:=by rw [List.length_append,pre2_len]; show _ + 4≤_; omega
   refine RD.catV (v3 _ _ w5) w3 (by rw [List.length_replicate]; omega) fun q4 G7 m4 v4 w4=>?_
   have w4:G7 q4=some (.lst (vsts (lines53 d0 d1 hs e))):=by
    rw [w4,List.append_assoc]
    rfl
   have v34:=v3.trans v4
   walk_at "rd"
   refine RD.lstX (dueV none) (by decide) fun q5 G8 m5 v5 w5=>?_
   have v35:=v34.trans v5
   have SG8:=SG5.trans v35
   have d9:=v35 _ _ d9
   have d61:=v35 _ _ d61
   have d63:=v35 _ _ d63
   have hps8:=v35 _ _ hps5
   have hhv:=v35 _ _ hhv
   have hL:=v5 _ _ w4
   clear SG5 tg5 v3 v4 v34 v5 v35 m3 m4 m5 w3 w4 hps5
   have SX53:=fun (x : 8≤c) (y:c < 20)=>sx53 h0 h1 hh he x y (k:=kd) (by omega)
   have LB:=L_bd h0 h1 hh he
   have LL:=L_len h0 h1 hh he
   refine RD.cut (fun σ G=>∃ (p d:Addr) (o14 o15:Option V),σ = [some (.ref a),some (.ref t0),some (vn c),some (vn kd),some (.bl (decide ((bo:Int)=1))),some (.ref pd),some (.ref p),some (.ref ps),o8,o9,o10,some (.ref hv),some (vst (callL hs)),some (.ref d),o14,o15]∧Same H G∧G p=some (.lst (vsts (spoil53 d0 d1 hs e c kd).1))∧G d=some (.lst (dueV (spoil53 d0 d1 hs e c kd).2))) ?_ ?_
   ·walk_at "wp"
    walk_at "rd"
    refine RD.dec (fun c8=>?_) (fun c8=>?_)
    ·walk_at "rd"
     refine ⟨q4,ps,lines53 d0 d1 hs e,s2of d0,s3of d0 d1,c,kd,rfl,hL,hps8,lx53 h0 h1 hh he,by omega,by omega,fun G9 y1 y2 y3 n1 n2 n3 sG hy1 hy2 hy3=>?_⟩
     refine RD.unl2p (sq hy1) ?_
     walk_at "rd"
     rw [sp8 (show c < 8 by omega)]
     exact ⟨y2,y3,_,_,rfl,SG8.trans sG,hy2,hy3⟩
    walk_at "rd"
    refine RD.dec (fun c20=>?_) (fun c20=>?_)
    ·walk_at "rd"
     refine RD.ixL (k:=2) (sq hps8) rfl ?_
     walk_at "rd"
     refine RD.lstX [vst (callL hs),.ref hv] (Nat.le_of_ble_eq_true rfl) fun cc G9 m9 v9 w9=>?_
     walk_at "rd"
     refine ⟨q4,cc,hv,lines53 d0 d1 hs e,hs,callL hs,s3of d0 d1,c,kd,rfl,v9 _ _ hL,w9,v9 _ _ hhv,SX53 (by omega) (by omega),fun G10 y1 y2 y3 n1 n2 n3 sG hy1 hy2 hy3=>?_⟩
     refine RD.unl2p (sq hy1) ?_
     walk_at "rd"
     rw [sp20 (show ¬ c < 8 by omega) (show c < 20 by omega)]
     exact ⟨y2,y3,_,_,rfl,(SG8.trans v9).trans sG,hy2,hy3⟩
    walk_at "rd"
    refine RD.dec (fun c22=>?_) (fun c22=>?_)
    ·have n20:¬ c < 20:=by omega
     have n22:c < 22:=by omega
     walk_at "rd"
     refine RD.len (sq hL) ?_
     rw [vsts_len]
     walk_at "rd"
     refine RD.lstX (dueV (some (.bad ((lines53 d0 d1 hs e).length + 2)))) (Nat.le_of_ble_eq_true rfl) fun q6 G9 m6 v6 w6=>?_
     walk_at "rd"
     refine RD.lstV [tx "script s a", tx "routine s a"] (Nat.le_of_ble_eq_true rfl) fun q7 G10 m7 v7 w7=>?_
     walk_at "rd"
     refine RD.iC (by decide) ?_
     have gx : [tx "script s a", tx "routine s a"][kd % 2]? = some (if kd % 2=0 then tx "script s a" else tx "routine s a"):=by rcases (show kd % 2=0∨kd % 2=1 by omega) with h | h <;> rw [h] <;> rfl
     refine RD.ixV (k:=kd % 2) (sq w7) gx ?_
     walk_at "rd"
     refine RD.lstV [[],if kd % 2=0 then tx "script s a" else tx "routine s a"] (Nat.le_of_ble_eq_true rfl) fun q8 G11 m8 v8 w8=>?_
     have v68:=v6.trans (v7.trans v8)
     refine RD.catV (v68 _ _ hL) w8 (by have:=LB.n; show _ + 2≤_; omega) fun q9 G12 m9 v9 w9=>?_
     have v69:=v68.trans v9
     have hdue:=v9 _ _ (v8 _ _ (v7 _ _ w6))
     have SG12:=SG8.trans v69
     have d9:=v69 _ _ d9
     have d61:=v69 _ _ d61
     have d63:=v69 _ _ d63
     have hps12:=v69 _ _ hps8
     clear v6 v7 v8 v9 v68 v69 m6 m7 m8 m9 w6 w7 w8 gx hps8 hhv hL SG8
     walk_at "rd"
     refine RD.dec (fun c21=>?_) (fun c21=>?_)
     ·walk_at "rd"
      refine ⟨⟨_,rfl⟩,?_⟩
      walk_at "rd"
      refine RD.ixL (k:=0) (sq d9) rfl ?_
      walk_at "rd"
      refine RD.ixL (k:=1) (sq d61) rfl ?_
      walk_at "rd"
      refine RD.slL (sq d63) fun y ny=>?_
      rw [cut_last]
      have hw:=upd_same (H:=G12) (a:=y) (o := .lst (vsts ((flines d0).drop ((flines d0).length - 1))))
      have sw:=same_new (o := .lst (vsts ((flines d0).drop ((flines d0).length - 1)))) ny
      revert hw sw
      generalize upd G12 y (.lst (vsts ((flines d0).drop ((flines d0).length - 1))))=G13
      intro hw sw
      have fb:∀ x∈flines d0,x.length≤100:=by
       have:∀ k,k < 8→((flines k).all fun x=>decide (x.length≤100))=true:=by decide +kernel
       exact fun x hx=>of_decide_eq_true (List.all_eq_true.mp (this d0 h0) x hx)
      have fb2:∀ x∈(flines d0).drop ((flines d0).length - 1),x.length≤100:=fun x hx=>fb x (List.mem_of_mem_drop hx)
      have fl:((flines d0).drop ((flines d0).length - 1)).length≤100:=by rw [List.length_drop]; have:=R0.1; omega
      have fl2:((flines d0).drop ((flines d0).length - 1)).length * (100 + 1)≤100 * (100 + 1):=Nat.mul_le_mul_right _ fl
      have fj:=jn_lenF 32 100 _ fb2
      rw [tspc]
      refine jnd1 (c:=32) (k:=100) (sq hw) fb2 (by omega) ?_
      walk_at "rd"
      refine RD.slT8 (k:=7) (by omega) ?_
      walk_at "rd"
      refine RD.dec (fun ct=>?_) (fun ct=>?_)
      ·walk_at "rd"
       refine RD.iC (by decide) ?_
       walk_at "rd"
       refine RD.dec (fun ck=>?_) (fun ck=>?_)
       ·have hi:c=21∧(jn 32 ((flines d0).drop ((flines d0).length - 1))).take 7=tx "tell p " ∧ kd % 2=0:=⟨by omega,ct,by omega⟩
        walk_at "rd"
        refine RD.ixL (k:=2) (sq (sw _ _ hps12)) rfl ?_
        walk_at "rd"
        refine RD.lstX (dueV (some (.bad (s3of d0 d1 + 2)))) (Nat.le_of_ble_eq_true rfl) fun r1 G14 m1 v1 w1=>?_
        have v13:=sw.trans v1
        walk_at "rd"
        refine RD.len (sq (v13 _ _ w9)) ?_
        rw [vsts_len]
        walk_at "rd"
        rw [show (((lines53 d0 d1 hs e++[[],if kd % 2=0 then tx "script s a" else tx "routine s a"]).length:Nat):Int) - 2=(((lines53 d0 d1 hs e).length:Nat):Int) by rw [List.length_append]; show ((_ + 2:Nat):Int) - 2=_; omega]
        refine RD.slTo (k:=(lines53 d0 d1 hs e).length) (v13 _ _ w9) fun r2 G15 m2 v2 w2=>?_
        rw [List.take_left' rfl] at w2
        walk_at "rd"
        refine RD.ixL (k:=2) (sq (v2 _ _ (v13 _ _ hps12))) rfl ?_
        walk_at "rd"
        have kx1:(tx "call x1 = ").length=10:=by decide +kernel
        refine RD.adds (by show _ + (callL hs).length≤_; have:(callL hs).length≤40:=lcall; omega) ?_
        walk_at "rd"
        refine ⟨r2,lines53 d0 d1 hs e,s3of d0 d1 + 1,tx "call x1 = " ++ callL hs,rfl,w2,by have:=LB.n; omega,fun G16 r3 m3 v3 w3=>?_⟩
        walk_at "rd"
        rw [sp21 n20 n22 hi]
        exact ⟨r3,r1,_,_,rfl,SG12.trans (v13.trans (v2.trans v3)),w3,v3 _ _ (v2 _ _ w1)⟩
       ·walk_at "rd"
        rw [sp22 n20 n22 (fun z=>ck (by have:=z.2.2; omega))]
        exact ⟨q9,q6,_,_,rfl,SG12.trans sw,sw _ _ w9,sw _ _ hdue⟩
      ·walk_at "rd"
       rw [sp22 n20 n22 (fun z=>ct z.2.1)]
       exact ⟨q9,q6,_,_,rfl,SG12.trans sw,sw _ _ w9,sw _ _ hdue⟩
     ·walk_at "rd"
      rw [sp22 n20 n22 (fun z=>c21 (by have:=z.1; omega))]
      exact ⟨q9,q6,_,_,rfl,SG12,w9,hdue⟩
    ·walk_at "rd"
     rw [sp24 (show ¬ c < 22 by omega)]
     exact ⟨q4,q5,_,_,rfl,SG8,hL,w5⟩
   clear hL w5 hps8 hhv d9 d61 d63
   rintro σ G9 ⟨p,d,o14,o15,rfl,SG9,hp,hd⟩
   have GD:=fun b=>good53 h0 h1 hh he (c:=c) (by omega) kd b
   have BD:=spoil_bd h0 h1 hh he (c:=c) kd
   have LO:=spoil_low (d0:=d0) (d1:=d1) (hs:=hs) (e:=e) (c:=c) (k:=kd)
   generalize spoil53 d0 d1 hs e c kd=z at GD BD LO hp hd
   obtain ⟨zl,zd⟩:=z
   replace hp:G9 p=some (.lst (vsts zl)):=hp
   replace hd:G9 d=some (.lst (dueV zd)):=hd
   replace BD:Bd 300 100 zl:=BD
   replace LO:lowE zd:=by
    match zd,LO with
    | none,_=>trivial
    | some (.bad n),_=>trivial
    | some (.unk n x),LO=>exact fun y hy=>of_decide_eq_true (List.all_eq_true.mp (LO _ rfl) y hy)
    | some (.knd n x),LO=>exact fun y hy=>of_decide_eq_true (List.all_eq_true.mp (LO _ rfl) y hy)
   refine RD.cut (fun σ G=>∃ (p d:Addr) (b:Bool),σ = [some (.ref a),some (.ref t0),some (vn c),some (vn kd),some (.bl (decide ((bo:Int)=1))),some (.ref pd),some (.ref p),some (.ref ps),o8,o9,o10,some (.ref hv),some (vst (callL hs)),some (.ref d),o14,o15]∧G p=some (.lst (vsts (both53 (zl,zd) b)))∧G d=some (.lst (dueV zd))) ?_ ?_
   ·walk_at "rd"
    refine RD.lstX [vn 3] (by decide) fun p16 H16 n16 s16 h16=>?_
    replace hp:=s16 _ _ hp
    replace hd:=s16 _ _ hd
    refine RD.neD (.lst (sq hd) (dp_due zd)) (dp_3 h16) (sh_due LO) (sh_due (d:=none) trivial) ?_
    match zd,LO,hd with
    | none,LO,hd =>
     rw [show PyData.eqv (.list (dueDD none)) (.list [.int 3])=true from eq_due none]
     walk_at "rn"
     exact ⟨p,d,false,rfl,hp,hd⟩
    | some er,LO,hd =>
     rw [eq_due3 er]
     walk_at "rn"
     refine RD.dec (fun cb=>?_) (fun cb=>?_)
     ·walk_at "rn"
      refine RD.ixL (sq hd) (show atI (dueV (some er)) ((1:Nat):Int)=some (vn (errL er)) from at_n (due_at1 er)) ?_
      walk_at "rn"
      refine RD.len (sq hp) ?_
      rw [vsts_len]
      walk_at "rn"
      have bn:=BD.n
      refine RD.dec (fun cl=>?_) (fun cl=>?_)
      ·walk_at "rn"
       refine RD.len (sq hp) ?_
       rw [vsts_len]
       walk_at "rn"
       rw [show ((zl.length:Nat):Int) - 1=((zl.length - 1:Nat):Int) by omega]
       refine RD.slTo (k:=zl.length - 1) hp fun p17 H17 n17 s17 h17=>?_
       walk_at "rn"
       refine RD.len (sq (s17 _ _ hp)) ?_
       rw [vsts_len]
       walk_at "rn"
       rw [show ((zl.length:Nat):Int) - 1=((zl.length - 1:Nat):Int) by omega]
       have hg:=getD_some (ls:=zl) (k:=zl.length - 1) (by omega)
       refine RD.ixV (sq (s17 _ _ hp)) hg ?_
       walk_at "rn"
       have hgl:=(tokB_of (BD.getD (a:=zl.length - 1))).1
       have l1:(tx " ").length=1:=by decide
       refine RD.adds (by omega) ?_
       walk_at "rn"
       refine RD.lstV [zl.getD (zl.length - 1) []++tx " "] (Nat.le_of_ble_eq_true rfl) fun p18 H18 n18 s18 h18=>?_
       walk_at "rn"
       refine RD.catV (s18 _ _ h17) h18 (by rw [List.length_take,List.length_singleton]; omega) fun p19 H19 n19 s19 h19=>?_
       walk_at "rn"
       refine ⟨p19,d,true,rfl,?_,s19 _ _ (s18 _ _ (s17 _ _ hd))⟩
       rw [h19]
       unfold both53
       simp only
       rw [if_pos ⟨trivial,by omega⟩]
      ·walk_at "rn"
       exact ⟨p,d,false,rfl,by rw [both_sp]; exact hp,hd⟩
     ·walk_at "rn"
      exact ⟨p,d,false,rfl,by rw [both_sp]; exact hp,hd⟩
   ·clear hp hd
    rintro σ G1 ⟨p,d,b,rfl,hp,hd⟩
    have B3:=both_bd (r:=(zl,zd)) BD b
    have T3:=told_bd B3
    have GD:=GD b
    unfold Good53 at GD
    walk_at "rd"
    refine ⟨⟨_,rfl⟩,?_⟩
    walk_at "rd"
    rw [tnl]
    have bn:=B3.n
    have bm:(both53 (zl,zd) b).length * (200 + 1)≤400 * (200 + 1):=Nat.mul_le_mul_right _ bn
    refine jnd1 (c:=10) (k:=200) (sq hp) (fun l hl=>(tokB_of (B3.t l hl)).1) (by omega) ?_
    walk_at "rd"
    refine ⟨jn 10 (both53 (zl,zd) b),rfl,T3.1,T3.2.1,T3.2.2,fun bk hbk=>⟨?_,fun G2 r sG nr hr=>?_⟩,fun er her G2 r sG nr hr=>?_⟩
    ·match zd,GD with
     | none,⟨bk2,e2,e3⟩ =>
      rw [hbk] at e2
      cases e2
      omega
     | some er,GD=>rw [GD] at hbk; cases hbk
    ·match zd,GD,LO,hd with
     | none,⟨bk2,e2,e3⟩,LO,hd =>
      rw [hbk] at e2
      cases e2
      rw [e3] at hr
      walk_at "rd"
      refine RD.eqD (dp_3 hr) (dp_3 (sG _ _ hd)) (sh_due (d:=none) trivial) (sh_due (d:=none) trivial) ?_
      rw [show PyData.eqv (.list [.int 3]) (.list [.int 3])=true from eq_due none]
      exact q _
     | some er,GD,_,_=>rw [GD] at hbk; cases hbk
    ·match zd,GD,LO,hd with
     | none,⟨bk2,e2,e3⟩,LO,hd=>rw [her] at e2; cases e2
     | some er2,GD,LO,hd =>
      have GD:readBook (jn 10 (both53 (zl,some er2) b)) = .error er2:=GD
      rw [her] at GD
      cases GD
      walk_at "rd"
      refine RD.eqD (.lst (sq hr) (dp_due (some er))) (.lst (sq (sG _ _ hd)) (dp_due (some er))) (sh_due LO) (sh_due LO) ?_
      rw [eq_due]
      exact q _
end
end Pf

namespace Pf
open PySem PySem.Spec PyProof.Rows L2
theorem law_b {P:Program} {w:World} {K:PySem.W.Frag} {h:Heap} {mg:Str→Option Value} {fa:Addr} (X:K.In h) (G:h.Ns mainGlobals mg) (hfa:mg "law" = some (.ref fa)) (c:HB.Says chk fnB dsB w K) :
  ∃ fd:FuncData,(∀ (s:Shared) (v:Value),BindsTo s fd ⟨[v],[]⟩ [("_law_script", v)])∧∀ base:Heap,K.In base→base.Ns mainGlobals mg→FnOk P w K mg base CX0 11 fa fd ["_law_script"] (sp_law K):=by
 have T:=txt_of X G c
 have e:=hfa.symm.trans T.zs0
 cases e
 refine ⟨(adOf K).zky,fun s v=>?_,fun base _ _=>zsu (A:=adOf K) T⟩
 obtain ⟨oc,od,kV,doc,pm,an,cdv,ct,osl,e,_⟩:=T.zn3.ex
 rw [e]
 exact .of_eq rfl
end Pf
open PySem PySem.W PySem.Calls PyProof.Rows
theorem PySem.Challenge.cw_halfmeshes_k53_books_refused_holds : PySem.Challenge.rw_halfmeshes_k53_books_refused.Holds := by
 refine Pf.endB fun w mg fa h Y G hmg=>?_
 obtain ⟨K,KX,c⟩:=Y
 obtain ⟨fd,hb,hF⟩:=Pf.law_b (P:=(PySem.Challenge.rw_halfmeshes_k53_books_refused).prog) (w:=w) KX G hmg c
 exact ⟨K,fd,Pf.sp_law K,KX,hb,fun H a ns hl _ hS=>⟨a,ns,rfl,hS,hl,fun _=>rfl⟩,hF⟩
