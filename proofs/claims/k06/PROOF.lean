import PyProof.Rows.All
import Wide.All
import OpenK.AllK
import Wide.FinOn
import HandS.ForMost
import HandS.HeadHook1
import HandS.Nested
import HandS.Deep
import HandS.More
import KE.SortData
import KE.DataCmp
import HandS.IsInst
import KE.KStateDown
import HandS.Defaults
import HandS.Head0
import HandS.Head1
import HandS.Head2
import HandS.HeadEnd
import HandS.HeadHook2
import HandS.DictComp
import HandS.Finally
import KE.KDictZip
import KE.KRevIter
import KE.KDictList
import HandS.ExcValue
import HandS.Exc
import KE.DataFind
import KE.DataMinMax
import HandS.Text
import HandS.FStr
import PyProof.StrBlock2
import HandS.DeepEq
import KE.KEqDict
import HandS.SetKeys
import HandS.Set
import HandS.TupSets
import HandS.SetFor
import PyProof.SeqIndex
import PyProof.Rows.SortStr
import PyProof.SetRoads
import HandS.Codes
import HandS.TupLe
import HandS.Iter
import KE.KMinKey
import HandS.SortKw
import KE.KLam
import HandS.HeadHook4
import HandS.HeadWalk
import HandS.Wide
import HandS.ExcInit
import HandS.ClsMeth
import HandS.WordsExc
import HandS.ExcField
import HandS.ListEq
import KE.GoesZip
import KE.GoesMore
import KE.KExcIs
import HandS.ExcOwn
import PyProof.ExcBaseAll.ValueError
import KE.SortKeyHeap
import HandS.DictTup
import KE.SortCalls
import HandS.Conv
import PyProof.NeKinds
import HandS.TryOnly
import HandS.ExcInitHot
import HandS.SuiteRaise
import HandS.RaiseFrom
import KE.IntTextLaws
import PySem.Challenge.RW_swapward_k06_whole_webs_of_couples
set_option Elab.async false
set_option linter.all false
set_option maxRecDepth 100000
set_option maxHeartbeats 0
namespace Sw
open PySem PySem.Spec PyProof.Rows L2
abbrev Frg:=PySem.W.Frag
def CK (K:Frg) (tf:List (He.Defn×Str)):Bool:=decide ((tf.map fun p=>(He.cT K p.1).2).Nodup)
end Sw
namespace Sw.k06
open PySem PySem.Spec PyProof.Rows L2 Sw
def top (i:Nat):Stmt:=PySem.Challenge.pw_swapward_k06_whole_webs_of_couples.main.body.getD i (.Pass ⟨0,0,0,0⟩)
abbrev eC:Stmt:=top 5
abbrev tW:Stmt:=top 7
abbrev c8:Stmt:=top 8
abbrev eR:Stmt:=top 9
abbrev jD:Stmt:=top 10
abbrev jE:Stmt:=top 11
abbrev k9:Stmt:=top 12
abbrev jF:Stmt:=top 13
abbrev iw:Stmt:=top 14
abbrev c9:Stmt:=top 15
abbrev gk:Stmt:=top 16
abbrev de:Stmt:=top 18
abbrev cN:Stmt:=top 30
abbrev eE:Stmt:=top 31
abbrev qv:Stmt:=top 37
abbrev j5:Stmt:=top 19
abbrev eF:Stmt:=top 21
abbrev fK:Stmt:=top 22
abbrev df:Stmt:=top 23
abbrev cO:Stmt:=top 24
abbrev eG:Stmt:=top 25
abbrev eJ:Stmt:=top 26
abbrev aV:Stmt:=top 27
abbrev bI:Stmt:=top 28
abbrev bu:Stmt:=top 29
abbrev dg:Stmt:=top 32
abbrev b8:Stmt:=top 33
abbrev dh:Stmt:=top 34
abbrev fL:Stmt:=top 35
abbrev iy:Stmt:=top 36
def ri:He.DefD:=⟨("number_of",none),"number_of","number_of",defArgs eC,defBody eC,defScope eC,[],[]⟩
def E7:He.DefD:=⟨("gap",none),"gap","gap",defArgs tW,defBody tW,defScope tW,[],[]⟩
def rj:He.DefD:=⟨("by_groups",none),"by_groups","by_groups",defArgs c8,defBody c8,defScope c8,[],[]⟩
def tX:He.DefD:=⟨("by_marks",none),"by_marks","by_marks",defArgs eR,defBody eR,defScope eR,[],[]⟩
def tY:He.DefD:=⟨("by_sizes",none),"by_sizes","by_sizes",defArgs jD,defBody jD,defScope jD,[],[]⟩
def tZ:He.DefD:=⟨("opposite",none),"opposite","opposite",defArgs jE,defBody jE,defScope jE,[],[]⟩
def vk:He.DefD:=⟨("all_let",none),"all_let","all_let",defArgs k9,defBody k9,defScope k9,[],[]⟩
def t6:He.DefD:=⟨("one_lets",none),"one_lets","one_lets",defArgs jF,defBody jF,defScope jF,[],[]⟩
def vm:He.DefD:=⟨("term_of",none),"term_of","term_of",defArgs iw,defBody iw,defScope iw,[],[]⟩
def qw:He.DefD:=⟨("noted_term",none),"noted_term","noted_term",defArgs c9,defBody c9,defScope c9,[],[]⟩
def vn:He.DefD:=⟨("rule_of",none),"rule_of","rule_of",defArgs gk,defBody gk,defScope gk,[],[]⟩
def qy:He.DefD:=⟨("swap_worth",none),"swap_worth","swap_worth",defArgs de,defBody de,defScope de,[],[]⟩
def qz:He.DefD:=⟨("_law_plain",none),"_law_plain","_law_plain",defArgs cN,defBody cN,defScope cN,[],[]⟩
def rq:He.DefD:=⟨("_law_lets",none),"_law_lets","_law_lets",defArgs eE,defBody eE,defScope eE,[],[]⟩
def xB:He.DefD:=⟨("web_of",none),"web_of","web_of",defArgs j5,defBody j5,defScope j5,[],[]⟩
def rA:He.DefD:=⟨("_law_cell",none),"_law_cell","_law_cell",defArgs eF,defBody eF,defScope eF,[],[]⟩
def t7:He.DefD:=⟨("_law_mix",none),"_law_mix","_law_mix",defArgs fK,defBody fK,defScope fK,[],[]⟩
def qA:He.DefD:=⟨("_law_whole",none),"_law_whole","_law_whole",defArgs df,defBody df,defScope df,[],[]⟩
def qB:He.DefD:=⟨("_law_marks",none),"_law_marks","_law_marks",defArgs cO,defBody cO,defScope cO,[],[]⟩
def rB:He.DefD:=⟨("_law_side",none),"_law_side","_law_side",defArgs eG,defBody eG,defScope eG,[],[]⟩
def rC:He.DefD:=⟨("_law_term",none),"_law_term","_law_term",defArgs eJ,defBody eJ,defScope eJ,[],[]⟩
def j6:He.DefD:=⟨("_law_alternatives",none),"_law_alternatives","_law_alternatives",defArgs aV,defBody aV,defScope aV,[],[]⟩
def lZ:He.DefD:=⟨("_law_term_text",none),"_law_term_text","_law_term_text",defArgs bI,defBody bI,defScope bI,[],[]⟩
def l3:He.DefD:=⟨("_law_rule_text",none),"_law_rule_text","_law_rule_text",defArgs bu,defBody bu,defScope bu,[],[]⟩
def qC:He.DefD:=⟨("_law_names",none),"_law_names","_law_names",defArgs dg,defBody dg,defScope dg,[],[]⟩
def oJ:He.DefD:=⟨("_law_couples",none),"_law_couples","_law_couples",defArgs b8,defBody b8,defScope b8,[],[]⟩
def qD:He.DefD:=⟨("_law_worth",none),"_law_worth","_law_worth",defArgs dh,defBody dh,defScope dh,[],[]⟩
def t8:He.DefD:=⟨("_law_due",none),"_law_due","_law_due",defArgs fL,defBody fL,defScope fL,[],[]⟩
def vo:He.DefD:=⟨("_law_is",none),"_law_is","_law_is",defArgs iy,defBody iy,defScope iy,[],[]⟩
def E8:He.DefD:=⟨("law",none),"law","law",defArgs qv,defBody qv,defScope qv,[],[]⟩
def fnL:List He.DefD:=[ri,E7,rj,tX,tY,tZ,vk,t6,vm,qw,vn,qy,qz,rq,xB,rA,t7,qA,qB,rB,rC,j6,lZ,l3,qC,oJ,qD,t8,vo,E8]
def faL:List He.Fa:=[.glo "number_of",.glo "gap",.glo "by_groups",.glo "by_marks",.glo "by_sizes",.glo "opposite",.glo "all_let",.glo "one_lets",.glo "term_of",.glo "noted_term",.glo "rule_of",.glo "swap_worth",.glo "_law_plain",.glo "_law_lets",.glo "web_of",.glo "_law_cell",.glo "_law_mix",.glo "_law_whole",.glo "_law_marks",.glo "_law_side",.glo "_law_term",.glo "_law_alternatives",.glo "_law_term_text",.glo "_law_rule_text",.glo "_law_names",.glo "_law_couples",.glo "_law_worth",.glo "_law_due",.glo "_law_is",.glo "law"]++[.free "abs",.free "bool",.free "dict",.free "enumerate",.free "int",.free "isinstance",.free "len",.free "list",.free "max",.free "range",.free "reversed",.free "str",.str "FIGURES" "0123456789"]
def exL:List (Frg->Bool):=[]
abbrev RR:PySem.W.OpenRow:=PySem.W.OpenLaw.row PySem.Challenge.rw_swapward_k06_whole_webs_of_couples
abbrev exB:Frg->Bool:=fun K=>exL.all fun f=>f K
def tfL:List (He.Defn×Str):=[(("by_sizes",none),(("by_sizes" :Str)++".<locals>." ++"lets")),(("opposite",none),(("opposite" :Str)++".<locals>." ++"lets")),(("all_let",none),(("all_let" :Str)++".<locals>." ++"lets")),(("one_lets",none),(("one_lets" :Str)++".<locals>." ++"lets")),(("law",none),(("law" :Str)++".<locals>." ++"<lambda>"))]
abbrev hk:PySem.W.Hook:=He.hookX 4 faL fnL [] (tfL.map (·.1)) (fun K=>CK K tfL&&exB K)
def ob (s:PySem.W.SharedT):He.AlX:=He.obsX 4 faL fnL [] (tfL.map (·.1)) (fun K=>CK K tfL&&exB K) (HandSHeadRun.getT s)
theorem MX (s:PySem.W.SharedT):ob s=hk.obs s.abs:=He.obsX_eq (HandSHeadRun.getT_eq s)
def loose:List PySem.Str:=(["SwapError","NoRow","FIGURES","number_of","gap","by_groups","by_marks","by_sizes","opposite","all_let","one_lets","term_of","noted_term","rule_of","swap_worth","web_of","_law_cell","_law_mix","_law_whole","_law_marks","_law_side","_law_term","_law_alternatives","_law_term_text","_law_rule_text","_law_plain","_law_lets","_law_names","_law_couples","_law_worth"]:List PySem.Str)++(["_law_due","_law_is"]:List PySem.Str)
theorem run (w:World):HandSHeadRun.RunEq RR (PySem.W.view RR.prog [37]) hk ob 6000 loose w:=by
 intro os
 kernel_rfl
end Sw.k06
namespace Sw
open PySem PySem.Spec PyProof.Rows L2
structure FnT where
 name:Str
 qual:Str
 params:Arguments
 body:List Stmt
 scope:Scope
 y:Str
 ex:Option Expr:=none
def FnT.nf (F:FnT) (c c':Addr):NdefX.NF:=⟨F.name,F.qual,F.params,F.body,F.scope,[(F.y,c)],c'⟩
structure LF where
 q:Str
 params:Arguments
 body:Expr
 scope:Scope
 cl:List (Str×Addr)
 c:Addr
def ql (f:Addr) (F:LF):HO:=.ext fun h=> ∃pm ctv:Value,h.get? f=some (PySem.W.kla_obj "<lambda>" F.q F.params F.body F.scope F.cl pm F.c ctv)
def FnT.lf (F:FnT) (b:Expr) (c c':Addr):LF:=⟨F.qual,F.params,b,F.scope,[(F.y,c)],c'⟩
def FnT.ho (F:FnT) (f c c':Addr):HO:=match F.ex with
 |none=>NdefX.FnO f (F.nf c c')
 |some b=>ql f (F.lf b c c')
def kO (c:Addr) (v:V) (q:Option HO):Prop:= ∃φ,q=some (.ext φ)/\ ∀h,φ h-> ∃u,L2.RelV v u/\h.IsCell c (some u)
theorem kO.st {c:Addr} {v:V} {q q':Option HO} (h:kO c v q) (k: ∀φ,q=some (.ext φ)->q'=some (.ext φ)):kO c v q':=by
 obtain⟨φ,e,z⟩:=h
 exact⟨φ,k _ e,z⟩
theorem kO.ne {c:Addr} {v:V} {q:Option HO} (h:kO c v q):q≠none:=by
 obtain⟨φ,e,_⟩:=h
 rw[e];simp
inductive D where
 |non|bl (b:Bool)|int (i:Int)|str (x:Str)
 |lst (xs:List D)|tup (xs:List D)|dct (ks:List (Key×D))|dcT (ks:List (List Key×D))
 |ins (C:Str) (fs:List (Str×D))|fn (a:Addr)|sc (ns:List Int)
 |glf (x:Str)|clo (F:FnT) (d:D)
abbrev Sa:=Addr->Prop
def TupAt (K:Frg) (S:Sa) (H:Hp) (a:Addr) (xs:List V):Prop:=S a/\H a=some (.tup xs)
theorem TupAt.sq {K:Frg} {S:Sa} {H:Hp} {a:Addr} {xs:List V} (h:TupAt K S H a xs):SqT K H a xs:=.inl (.inl h.2)
def KR (K:Frg) (S:Sa) (H:Hp) (a:Addr) (xs:List V):Prop:=(S a/\Rd H a (.lst xs))\/SqL K (fun _=>none) a xs
theorem Ih {a:Addr} {u:HO} (h:Rd (fun _=>none) a u):False:=by
 rcases h with h|⟨_,h⟩ <;> cases h
theorem KR.sq {K:Frg} {S:Sa} {H:Hp} {a:Addr} {xs:List V} (h:KR K S H a xs):SqL K H a xs:=by
 rcases h with ⟨_,h⟩|h
 ·exact .inl h
 ·rcases h with h|h
  ·exact (Ih h).elim
  ·exact .inr h
mutual
def Rep (K:Frg) (S:Sa) (H:Hp):D->V->Prop
 | .non,v=>v= .non
 | .bl b,v=>v= .bl b
 | .int i,v=>v= .int i
 | .str x,v=>v= .str x
 | .fn a,v=>v= .ref a
 | .glf x,v=>v= .ref (He.ga K x)
 | .clo F d,v=> ∃(f c' c:Addr) (T:Sa) (w:V),v= .ref f/\(S f/\H f=some (F.ho f c c'))/\(S c'/\H c'=some (LamX.CodeO c' F.qual))/\(S c/\kO c w (H c))/\ ¬T c/\Rep K (fun p=>S p/\T p) H d w
 | .lst ds,v=> ∃a vs,v= .ref a/\S a/\H a=some (.lst vs)/\aD K S H ds vs
 | .sc ns,v=> ∃a,v= .ref a/\KR K S H a (ns.map V.int)
 | .tup ds,v=> ∃a vs,v= .ref a/\TupAt K S H a vs/\aD K S H ds vs
 | .dct ks,v=> ∃a kvs,v= .ref a/\S a/\Rd H a (.dK kvs)/\(ks.map (·.1)).Nodup/\bQ K S H ks kvs
 | .dcT ks,v=> ∃a kvs,v= .ref a/\S a/\Rd H a (.dT kvs)/\(ks.map (·.1)).Nodup/\gU K S H ks kvs
 | .ins C fds,v=> ∃a dx fs,v= .ref a/\S a/\H a=some (.ins (He.ga K C) dx fs)/\gV K S H fds fs
def aD (K:Frg) (S:Sa) (H:Hp):List D->List V->Prop
 | [],vs=>vs=[]
 |d::ds,vs=> ∃v r,vs=v::r/\Rep K S H d v/\aD K S H ds r
def bQ (K:Frg) (S:Sa) (H:Hp):List (Key×D)->List (Key×V)->Prop
 | [],vs=>vs=[]
 |(k,d)::ds,vs=> ∃v r,vs=(k,v)::r/\Rep K S H d v/\bQ K S H ds r
def gU (K:Frg) (S:Sa) (H:Hp):List (List Key×D)->List (List Key×V)->Prop
 | [],vs=>vs=[]
 |(k,d)::ds,vs=> ∃v r,vs=(k,v)::r/\Rep K S H d v/\gU K S H ds r
def gV (K:Frg) (S:Sa) (H:Hp):List (Str×D)->List (Str×V)->Prop
 | [],vs=>vs=[]
 |(k,d)::ds,vs=> ∃v r,vs=(k,v)::r/\Rep K S H d v/\gV K S H ds r
end
def Pl:HO->Prop
 | .frz _ _=>False
 | .tbl _=>False
 |_=>True
def Sc:HO->Prop
 | .lst _=>True| .tup _=>True| .ins _ _ _=>True| .ext _=>True
 |_=>False
theorem FnT.MY (F:FnT) {f c c':Addr}:Sc (F.ho f c c'):=by
 unfold FnT.ho
 split
 ·unfold NdefX.FnO;trivial
 ·unfold ql;trivial
structure hZ (H H':Hp) (p:Addr):Prop where
 rd: ∀u,Pl u->Rd H p u->Rd H' p u
 st: ∀u,Sc u->H p=some u->H' p=some u
theorem hZ.of_eq {H H':Hp} {p:Addr} (h: ∀u,H p=some u->H' p=some u):hZ H H' p:=
 ⟨fun u _ r=>r.elim (fun r=>.inl (h _ r)) fun⟨o,r⟩=>.inr ⟨o,h _ r⟩,fun _ _ e=>h _ e⟩
theorem hZ.trans {H H1 H2:Hp} {p:Addr} (a:hZ H H1 p) (b:hZ H1 H2 p):hZ H H2 p:=
 ⟨fun u hu r=>b.rd u hu (a.rd u hu r),fun u hu e=>b.st u hu (a.st u hu e)⟩
def Agr (S:Sa) (H H':Hp):Prop:= ∀p,S p->hZ H H' p
section
variable {K:Frg} {S S':Sa} {H H':Hp}
theorem TupAt.mono (hS: ∀p,S p->S' p) (ha:Agr S H H') {a:Addr} {xs:List V} (h:TupAt K S H a xs):TupAt K S' H' a xs:=
 ⟨hS _ h.1,(ha a h.1).st _ trivial h.2⟩
mutual
theorem Rep.mono {S S':Sa} (hS: ∀p,S p->S' p) (ha:Agr S H H'): ∀(d:D) (v:V),Rep K S H d v->Rep K S' H' d v
 | .non,_,h=>h
 | .bl _,_,h=>h
 | .int _,_,h=>h
 | .str _,_,h=>h
 | .fn _,_,h=>h
 | .glf _,_,h=>h
 | .clo F d,v,h=>by
  unfold Rep at h⊢
  obtain⟨f,c',c,T,w,e,⟨s1,h1⟩,⟨s2,h2⟩,⟨s3,h3⟩,l,r⟩:=h
  exact⟨f,c',c,T,w,e,⟨hS _ s1,(ha f s1).st _ F.MY h1⟩,⟨hS _ s2,(ha c' s2).st _ trivial h2⟩,⟨hS _ s3,h3.st fun φ e=>(ha c s3).st _ trivial e⟩,l,Rep.mono (fun p s=>⟨hS p s.1,s.2⟩) (fun p s=>ha p s.1) d w r⟩
 | .lst ds,v,h=>by
  unfold Rep at h⊢
  obtain⟨a,vs,e,s,l,r⟩:=h
  exact⟨a,vs,e,hS _ s,(ha a s).st _ trivial l,aD.mono hS ha ds vs r⟩
 | .sc ns,v,h=>by
  unfold Rep at h⊢
  obtain⟨a,e,l⟩:=h
  exact⟨a,e,l.imp (fun⟨s,r⟩=>⟨hS _ s,(ha a s).rd _ trivial r⟩) id⟩
 | .tup ds,v,h=>by
  unfold Rep at h⊢
  obtain⟨a,vs,e,l,r⟩:=h
  exact⟨a,vs,e,l.mono hS ha,aD.mono hS ha ds vs r⟩
 | .dct ks,v,h=>by
  unfold Rep at h⊢
  obtain⟨a,kvs,e,s,l,n,r⟩:=h
  exact⟨a,kvs,e,hS _ s,(ha a s).rd _ trivial l,n,bQ.mono hS ha ks kvs r⟩
 | .dcT ks,v,h=>by
  unfold Rep at h⊢
  obtain⟨a,kvs,e,s,l,n,r⟩:=h
  exact⟨a,kvs,e,hS _ s,(ha a s).rd _ trivial l,n,gU.mono hS ha ks kvs r⟩
 | .ins C fds,v,h=>by
  unfold Rep at h⊢
  obtain⟨a,dx,fs,e,s,l,r⟩:=h
  exact⟨a,dx,fs,e,hS _ s,(ha a s).st _ trivial l,gV.mono hS ha fds fs r⟩
theorem aD.mono {S S':Sa} (hS: ∀p,S p->S' p) (ha:Agr S H H'): ∀(ds:List D) (vs:List V),aD K S H ds vs->aD K S' H' ds vs
 | [],_,h=>by unfold aD at h ⊢; exact h
 |d::ds,vs,h=>by
  unfold aD at h⊢
  obtain⟨v,r,e,h1,h2⟩:=h
  exact⟨v,r,e,Rep.mono hS ha d v h1,aD.mono hS ha ds r h2⟩
theorem bQ.mono {S S':Sa} (hS: ∀p,S p->S' p) (ha:Agr S H H'): ∀(ds:List (Key×D)) (vs:List (Key×V)),bQ K S H ds vs->bQ K S' H' ds vs
 | [],_,h=>by unfold bQ at h ⊢; exact h
 |(k,d)::ds,vs,h=>by
  unfold bQ at h⊢
  obtain⟨v,r,e,h1,h2⟩:=h
  exact⟨v,r,e,Rep.mono hS ha d v h1,bQ.mono hS ha ds r h2⟩
theorem gU.mono {S S':Sa} (hS: ∀p,S p->S' p) (ha:Agr S H H'): ∀(ds:List (List Key×D)) (vs:List (List Key×V)),gU K S H ds vs->gU K S' H' ds vs
 | [],_,h=>by unfold gU at h ⊢; exact h
 |(k,d)::ds,vs,h=>by
  unfold gU at h⊢
  obtain⟨v,r,e,h1,h2⟩:=h
  exact⟨v,r,e,Rep.mono hS ha d v h1,gU.mono hS ha ds r h2⟩
theorem gV.mono {S S':Sa} (hS: ∀p,S p->S' p) (ha:Agr S H H'): ∀(ds:List (Str×D)) (vs:List (Str×V)),gV K S H ds vs->gV K S' H' ds vs
 | [],_,h=>by unfold gV at h ⊢; exact h
 |(k,d)::ds,vs,h=>by
  unfold gV at h⊢
  obtain⟨v,r,e,h1,h2⟩:=h
  exact⟨v,r,e,Rep.mono hS ha d v h1,gV.mono hS ha ds r h2⟩
end
theorem aD.length: ∀{ds:List D} {vs:List V},aD K S H ds vs->vs.length=ds.length
 | [],_,h=>by unfold aD at h;rw[h];rfl
 |d::ds,vs,h=>by
  unfold aD at h
  obtain⟨v,r,rfl,_,h2⟩:=h
  rw[List.length_cons,List.length_cons,aD.length h2]
theorem aD.get: ∀{ds:List D} {vs:List V} {i:Nat} {d:D},aD K S H ds vs->ds[i]? =some d-> ∃v,vs[i]? =some v/\Rep K S H d v
 | [],_,_,_,_,e=>by simp at e
 |d::ds,vs,0,_,h,e=>by
  unfold aD at h
  obtain⟨v,r,rfl,h1,h2⟩:=h
  simp at e
  exact⟨v,rfl,e▸h1⟩
 |d::ds,vs,i+1,d',h,e=>by
  unfold aD at h
  obtain⟨v,r,rfl,h1,h2⟩:=h
  obtain⟨v',e1,e2⟩:=aD.get (i:=i) (d:=d') h2 (by simpa using e)
  exact⟨v',by simpa using e1,e2⟩
theorem aD.append: ∀{ds es:List D} {vs ws:List V},aD K S H ds vs->aD K S H es ws->aD K S H (ds++es) (vs++ws)
 | [],_,_,_,h,g=>by unfold aD at h;rw[h];exact g
 |d::ds,es,vs,ws,h,g=>by
  unfold aD at h
  obtain⟨v,r,rfl,h1,h2⟩:=h
  show aD K S H (d::(ds++es)) (v::(r++ws))
  unfold aD
  exact⟨v,r++ws,rfl,h1,aD.append h2 g⟩
theorem aD.nil:aD K S H [] []:=by unfold aD;rfl
theorem aD.cons {d:D} {v:V} {ds:List D} {vs:List V} (h:Rep K S H d v) (g:aD K S H ds vs):aD K S H (d::ds) (v::vs):=by
 unfold aD;exact⟨v,vs,rfl,h,g⟩
theorem aD.one {d:D} {v:V} (h:Rep K S H d v):aD K S H [d] [v]:=.cons h .nil
theorem aD.take: ∀{ds:List D} {vs:List V} (n:Nat),aD K S H ds vs->aD K S H (ds.take n) (vs.take n)
 |_,_,0,_=>aD.nil
 | [],_,n+1,h=>by unfold aD at h;rw[h];exact aD.nil
 |d::ds,vs,n+1,h=>by
  unfold aD at h
  obtain⟨v,r,rfl,h1,h2⟩:=h
  exact .cons h1 (aD.take n h2)
theorem aD.drop: ∀{ds:List D} {vs:List V} (n:Nat),aD K S H ds vs->aD K S H (ds.drop n) (vs.drop n)
 |_,_,0,h=>h
 | [],_,n+1,h=>by unfold aD at h;rw[h];exact aD.nil
 |d::ds,vs,n+1,h=>by
  unfold aD at h
  obtain⟨v,r,rfl,h1,h2⟩:=h
  exact aD.drop n h2
theorem aD.reverse {ds:List D}: ∀{vs:List V},aD K S H ds vs->aD K S H ds.reverse vs.reverse:=by
 induction ds with
 |nil=>intro vs h;unfold aD at h;rw[h];exact aD.nil
 |cons d ds ih=>
  intro vs h
  unfold aD at h
  obtain⟨v,r,rfl,h1,h2⟩:=h
  rw[List.reverse_cons,List.reverse_cons]
  exact (ih h2).append (.one h1)
theorem bQ.keys: ∀{ks:List (Key×D)} {kvs:List (Key×V)},bQ K S H ks kvs->kvs.map (·.1)=ks.map (·.1)
 | [],_,h=>by unfold bQ at h;rw[h];rfl
 |(k,d)::ks,_,h=>by
  unfold bQ at h
  obtain⟨v,r,rfl,_,h2⟩:=h
  rw[List.map_cons,List.map_cons,bQ.keys h2]
theorem bQ.length {ks:List (Key×D)} {kvs:List (Key×V)} (h:bQ K S H ks kvs):kvs.length=ks.length:=by
 have:=congrArg List.length h.keys
 simpa using this
end
section
variable {κ α:Type} [DecidableEq κ]
def aC (ks:List (κ×α)) (k:κ):Option α:=(ks.find? fun p=>decide (p.1=k)).map (·.2)
def aM:List (κ×α)->κ->α->List (κ×α)
 | [],k,x=>[(k,x)]
 |p::r,k,x=>if p.1=k then (k,x)::r else p::aM r k x
def gW (ks:List (κ×α)) (k:κ):List (κ×α):=ks.filter fun p=>decide (p.1≠k)
theorem aZ (p:κ×α) (r:List (κ×α)) (k:κ):aC (p::r) k=if p.1=k then some p.2 else aC r k:=by
 unfold aC
 rw[List.find?_cons]
 by_cases h:p.1=k <;> simp[h]
theorem pV (k:κ) (x:α): ∀ks:List (κ×α),(aM ks k x).map (·.1)=if (aC ks k).isSome=true then ks.map (·.1) else ks.map (·.1)++[k]
 | []=>rfl
 |p::r=>by
  rw[aZ]
  unfold aM
  by_cases e:p.1=k
  ·simp[e]
  ·simp only[e,if_false,List.map_cons,pV k x r]
   split <;> simp
theorem fM {k:κ} {x:α}: ∀{ks:List (κ×α)},aC ks k=some x->(k,x)∈ks
 |p::r,h=>by
  rw[aZ] at h
  by_cases e:p.1=k
  ·simp only[e,if_true,Option.some.injEq] at h
   subst h;subst e
   exact List.mem_cons_self
  ·simp only[e,if_false] at h
   exact List.mem_cons_of_mem _ (fM h)
theorem sU {k:κ}: ∀{ks:List (κ×α)},aC ks k=none↔k∉ks.map (·.1)
 | []=>by simp[aC]
 |p::r=>by
  rw[aZ,List.map_cons,List.mem_cons]
  by_cases e:p.1=k
  ·simp[e]
  ·simp only[e,if_false,sU (ks:=r),not_or]
   exact⟨fun h=>⟨fun q=>e q.symm,h⟩,fun h=>h.2⟩
theorem fN {k:κ} {x:α} {ks:List (κ×α)} (h:(ks.map (·.1)).Nodup):((aM ks k x).map (·.1)).Nodup:=by
 rw[pV]
 split
 ·exact h
 ·rename_i q
  have:aC ks k=none:=by simpa using q
  rw[sU] at this
  rw[List.nodup_append]
  exact⟨h,by simp,fun a ha b hb e=>by simp at hb;subst hb;subst e;exact this ha⟩
theorem pW {k:κ} {x:α}: ∀{ks:List (κ×α)},aC ks k=some x->aM ks k x=ks
 |p::r,h=>by
  rw[aZ] at h
  unfold aM
  by_cases e:p.1=k
  ·simp only[e,if_true,Option.some.injEq] at h⊢
   rw[<-h,←e]
  ·simp only[e,if_false] at h⊢
   rw[pW h]
theorem xC {k:κ} {x:α}: ∀{ks:List (κ×α)},k∉ks.map (·.1)->ks.map (fun p=>if p.1=k then (p.1,x) else p)=ks
 | [],_=>rfl
 |p::r,h=>by
  simp only[List.map_cons,List.mem_cons,not_or] at h⊢
  rw[if_neg (fun q=>h.1 q.symm),xC h.2]
theorem CL (k:κ) (x:α): ∀{ks:List (κ×α)},(ks.map (·.1)).Nodup->aM ks k x=if (ks.any fun p=>decide (p.1=k))=true then ks.map (fun p=>if p.1=k then (p.1,x) else p) else ks++[(k,x)]
 | [],_=>rfl
 |p::r,h=>by
  simp only[List.map_cons,List.nodup_cons] at h
  unfold aM
  by_cases e:p.1=k
  ·subst e
   rw[if_pos rfl,List.any_cons,decide_eq_true rfl,Bool.true_or,if_pos rfl,List.map_cons,if_pos rfl,xC h.1]
  ·rw[if_neg e,CL k x h.2,List.any_cons,decide_eq_false e,Bool.false_or]
   split
   ·rw[List.map_cons,if_neg e]
   ·rfl
theorem Ii {kvs:List (κ×V)} {k:κ} {v:V} (h:(kvs.map (·.1)).Nodup):putK kvs k v=aM kvs k v:=by
 rw[CL k v h];rfl
theorem l4 {k:κ} {ks:List (κ×α)} (h:(ks.map (·.1)).Nodup):((gW ks k).map (·.1)).Nodup:=
 h.sublist ((List.filter_sublist).map _)
end
section
variable {K:Frg} {S S':Sa} {H H':Hp}
theorem bQ.nil:bQ K S H [] []:=by unfold bQ;rfl
theorem bQ.cons {k:Key} {d:D} {v:V} {ds:List (Key×D)} {vs:List (Key×V)} (h:Rep K S H d v) (g:bQ K S H ds vs):bQ K S H ((k,d)::ds) ((k,v)::vs):=by
 unfold bQ;exact⟨v,vs,rfl,h,g⟩
theorem bQ.get: ∀{ks:List (Key×D)} {kvs:List (Key×V)} (k:Key),bQ K S H ks kvs->(∀d,aC ks k=some d-> ∃v,valV kvs k=some v/\Rep K S H d v)/\(aC ks k=none->valV kvs k=none)
 | [],_,k,h=>by
  unfold bQ at h
  rw[h]
  exact⟨fun d e=>(nomatch e),fun _=>rfl⟩
 |(j,d)::ks,_,k,h=>by
  unfold bQ at h
  obtain⟨v,r,rfl,h1,h2⟩:=h
  have ih:=bQ.get k h2
  rw[aZ]
  by_cases e:j=k
  ·subst e
   rw[valV_pos rfl]
   simp only[if_true]
   exact⟨fun d' e'=>⟨v,rfl,(Option.some.inj e')▸h1⟩,fun e'=>(nomatch e')⟩
  ·rw[valV_neg (show ¬(j,v).1=k from e)]
   simp only[e,if_false]
   exact ih
theorem bQ.append: ∀{ks js:List (Key×D)} {vs ws:List (Key×V)},bQ K S H ks vs->bQ K S H js ws->bQ K S H (ks++js) (vs++ws)
 | [],_,_,_,h,g=>by unfold bQ at h;rw[h];exact g
 |(k,d)::ks,js,_,ws,h,g=>by
  unfold bQ at h
  obtain⟨v,r,rfl,h1,h2⟩:=h
  exact .cons h1 (bQ.append h2 g)
end
end Sw
namespace Sw
open PySem PySem.Spec PyProof.Rows L2
inductive Sh where
 |fz|ls (s:Sh)|dc (s:Sh)|dt (s:Sh)|is (fs:List (Str×Sh))|dk (od:Obj) (kvs:List (Key×V)) (s:Sh)|lz|op (s:Sh)|tp (s:Sh)|hl (ss:List Sh)|tq (ss:List Sh)|ex (v:V)
section
variable {α β:Type}
def gX (R:D->V->List Addr->Prop):List D->List V->List Addr->Prop
 | [],vs,L=>vs=[]/\L=[]
 |d::ds,vs,L=> ∃v r L1 L2,vs=v::r/\R d v L1/\gX R ds r L2/\L=L1++L2
def b9 {κ:Type} (R:D->V->List Addr->Prop):List (κ×D)->List (κ×V)->List Addr->Prop
 | [],vs,L=>vs=[]/\L=[]
 |(k,d)::ds,vs,L=> ∃v r L1 L2,vs=(k,v)::r/\R d v L1/\b9 R ds r L2/\L=L1++L2
end
mutual
def Own (K:Frg) (G:Sa) (H:Hp):Sh->D->V->List Addr->Prop
 | .fz,d,v,L=>Rep K G H d v/\L=[]
 | .ex v0,d,v,L=>v=v0/\Rep K G H d v/\L=[]
 | .ls s,d,v,L=> ∃a vs ds L',d= .lst ds/\v= .ref a/\H a=some (.lst vs)/\gX (Own K G H s) ds vs L'/\L=a::L'
 | .dc s,d,v,L=> ∃a vs ds L',d= .dct ds/\v= .ref a/\H a=some (.dK vs)/\(ds.map (·.1)).Nodup/\b9 (Own K G H s) ds vs L'/\L=a::L'
 | .dt s,d,v,L=> ∃a vs ds L',d= .dcT ds/\v= .ref a/\H a=some (.dT vs)/\(ds.map (·.1)).Nodup/\b9 (Own K G H s) ds vs L'/\L=a::L'
 | .dk od kvs s,d,v,L=> ∃a ds L',d= .dct ds/\v= .ref a/\H a=some (.frz od (.dK kvs))/\(ds.map (·.1)).Nodup/\b9 (Own K G H s) ds kvs L'/\L=a::L'
 | .lz,d,v,L=> ∃a vs ds L',d= .lst ds/\v= .ref a/\H a=some (.lst vs)/\(∀p∈L',∃us,H p=some (.lst us))/\aD K (fun p=>p∈L'\/(G p/\ ∃xs,H p=some (.tup xs))) H ds vs/\L=a::L'
 | .op s,d,v,L=>(d= .non/\v= .non/\L=[])\/Own K G H s d v L
 | .tp s,d,v,L=> ∃a vs ds,d= .tup ds/\v= .ref a/\G a/\H a=some (.tup vs)/\gX (Own K G H s) ds vs L
 | .hl ss,d,v,L=> ∃a vs ds L',d= .lst ds/\v= .ref a/\H a=some (.lst vs)/\fO K G H ss ds vs L'/\L=a::L'
 | .tq ss,d,v,L=> ∃a vs ds,d= .tup ds/\v= .ref a/\G a/\H a=some (.tup vs)/\fO K G H ss ds vs L
 | .is fs,d,v,L=> ∃a C dx vs ds L',d= .ins C ds/\v= .ref a/\H a=some (.ins (He.ga K C) dx vs)/\dJ K G H fs ds vs L'/\L=a::L'
def dJ (K:Frg) (G:Sa) (H:Hp):List (Str×Sh)->List (Str×D)->List (Str×V)->List Addr->Prop
 | [],ds,vs,L=>ds=[]/\vs=[]/\L=[]
 |(f,s)::fs,ds,vs,L=> ∃d dr v vr L1 L2,ds=(f,d)::dr/\vs=(f,v)::vr/\Own K G H s d v L1/\dJ K G H fs dr vr L2/\L=L1++L2
def fO (K:Frg) (G:Sa) (H:Hp):List Sh->List D->List V->List Addr->Prop
 | [],ds,vs,L=>ds=[]/\vs=[]/\L=[]
 |s::ss,ds,vs,L=> ∃d dr v vr L1 L2,ds=d::dr/\vs=v::vr/\Own K G H s d v L1/\fO K G H ss dr vr L2/\L=L1++L2
end
section
variable {K:Frg} {G G':Sa} {H H':Hp}
theorem gX.mono {R R':D->V->List Addr->Prop} {P:Addr->Prop} (h: ∀d v L,(∀p∈L,P p)->R d v L->R' d v L): ∀(ds:List D) (vs:List V) (L:List Addr),(∀p∈L,P p)->gX R ds vs L->gX R' ds vs L
 | [],_,_,_,o=>o
 |d::ds,_,_,hp,⟨v,r,L1,L2,e1,o1,o2,e2⟩=>by
  subst e2
  exact⟨v,r,L1,L2,e1,h _ _ _ (fun p m=>hp p (List.mem_append_left _ m)) o1,gX.mono h ds r L2 (fun p m=>hp p (List.mem_append_right _ m)) o2,rfl⟩
theorem b9.mono {κ:Type} {R R':D->V->List Addr->Prop} {P:Addr->Prop} (h: ∀d v L,(∀p∈L,P p)->R d v L->R' d v L): ∀(ds:List (κ×D)) (vs:List (κ×V)) (L:List Addr),(∀p∈L,P p)->b9 R ds vs L->b9 R' ds vs L
 | [],_,_,_,o=>o
 |(k,d)::ds,_,_,hp,⟨v,r,L1,L2,e1,o1,o2,e2⟩=>by
  subst e2
  exact⟨v,r,L1,L2,e1,h _ _ _ (fun p m=>hp p (List.mem_append_left _ m)) o1,b9.mono h ds r L2 (fun p m=>hp p (List.mem_append_right _ m)) o2,rfl⟩
mutual
theorem Own.mono (hG: ∀p,G p->G' p) (ha:Agr G H H'): ∀(s:Sh) (d:D) (v:V) (L:List Addr),(∀p∈L,H' p=H p)->Own K G H s d v L->Own K G' H' s d v L
 | .fz,d,v,L,_,o=>by
  unfold Own at o⊢
  exact⟨Rep.mono hG ha d v o.1,o.2⟩
 | .ex _,d,v,L,_,o=>by
  unfold Own at o⊢
  exact⟨o.1,Rep.mono hG ha d v o.2.1,o.2.2⟩
 | .ls s,d,v,L,hl,o=>by
  unfold Own at o⊢
  obtain⟨a,vs,ds,L',e1,e2,e3,o1,rfl⟩:=o
  exact⟨a,vs,ds,L',e1,e2,(hl a List.mem_cons_self).trans e3,gX.mono (fun d v L hp o=>Own.mono hG ha s d v L hp o) ds vs L' (fun p m=>hl p (List.mem_cons_of_mem _ m)) o1,rfl⟩
 | .dc s,d,v,L,hl,o=>by
  unfold Own at o⊢
  obtain⟨a,vs,ds,L',e1,e2,e3,nd,o1,rfl⟩:=o
  exact⟨a,vs,ds,L',e1,e2,(hl a List.mem_cons_self).trans e3,nd,b9.mono (fun d v L hp o=>Own.mono hG ha s d v L hp o) ds vs L' (fun p m=>hl p (List.mem_cons_of_mem _ m)) o1,rfl⟩
 | .dt s,d,v,L,hl,o=>by
  unfold Own at o⊢
  obtain⟨a,vs,ds,L',e1,e2,e3,nd,o1,rfl⟩:=o
  exact⟨a,vs,ds,L',e1,e2,(hl a List.mem_cons_self).trans e3,nd,b9.mono (fun d v L hp o=>Own.mono hG ha s d v L hp o) ds vs L' (fun p m=>hl p (List.mem_cons_of_mem _ m)) o1,rfl⟩
 | .dk od kvs s,d,v,L,hl,o=>by
  unfold Own at o⊢
  obtain⟨a,ds,L',e1,e2,e3,nd,o1,rfl⟩:=o
  exact⟨a,ds,L',e1,e2,(hl a List.mem_cons_self).trans e3,nd,b9.mono (fun d v L hp o=>Own.mono hG ha s d v L hp o) ds kvs L' (fun p m=>hl p (List.mem_cons_of_mem _ m)) o1,rfl⟩
 | .lz,d,v,L,hl,o=>by
  unfold Own at o⊢
  obtain⟨a,vs,ds,L',e1,e2,e3,nd,o1,rfl⟩:=o
  have hl': ∀p∈L',H' p=H p:=fun p m=>hl p (List.mem_cons_of_mem _ m)
  have tup: ∀p,G p->(∃xs,H p=some (.tup xs))-> ∃xs,H' p=some (.tup xs):=fun p g ⟨xs,e⟩=>⟨xs,(ha p g).st _ (by trivial) e⟩
  refine⟨a,vs,ds,L',e1,e2,(hl a List.mem_cons_self).trans e3,fun p m=>by rw[hl' p m];exact nd p m,aD.mono (fun p s=>s.imp id fun s=>⟨hG p s.1,tup p s.1 s.2⟩) (fun p s=> ?_) ds vs o1,rfl⟩
  rcases s with s|s
  ·exact hZ.of_eq fun u e=>by rw[hl' p s];exact e
  ·exact ha p s.1
 | .op s,d,v,L,hl,o=>by
  unfold Own at o⊢
  exact o.imp id fun o=>Own.mono hG ha s d v L hl o
 | .tp s,d,v,L,hl,o=>by
  unfold Own at o⊢
  obtain⟨a,vs,ds,e1,e2,g,e3,o1⟩:=o
  exact⟨a,vs,ds,e1,e2,hG a g,(ha a g).st _ (by trivial) e3,gX.mono (fun d v L hp o=>Own.mono hG ha s d v L hp o) ds vs L hl o1⟩
 | .tq ss,d,v,L,hl,o=>by
  unfold Own at o⊢
  obtain⟨a,vs,ds,e1,e2,g,e3,o1⟩:=o
  exact⟨a,vs,ds,e1,e2,hG a g,(ha a g).st _ (by trivial) e3,fO.mono hG ha ss ds vs L hl o1⟩
 | .hl ss,d,v,L,hl,o=>by
  unfold Own at o⊢
  obtain⟨a,vs,ds,L',e1,e2,e3,o1,rfl⟩:=o
  exact⟨a,vs,ds,L',e1,e2,(hl a List.mem_cons_self).trans e3,fO.mono hG ha ss ds vs L' (fun p m=>hl p (List.mem_cons_of_mem _ m)) o1,rfl⟩
 | .is fs,d,v,L,hl,o=>by
  unfold Own at o⊢
  obtain⟨a,C,dx,vs,ds,L',e1,e2,e3,o1,rfl⟩:=o
  exact⟨a,C,dx,vs,ds,L',e1,e2,(hl a List.mem_cons_self).trans e3,dJ.mono hG ha fs ds vs L' (fun p m=>hl p (List.mem_cons_of_mem _ m)) o1,rfl⟩
theorem dJ.mono (hG: ∀p,G p->G' p) (ha:Agr G H H'): ∀(fs:List (Str×Sh)) (ds:List (Str×D)) (vs:List (Str×V)) (L:List Addr),(∀p∈L,H' p=H p)->dJ K G H fs ds vs L->dJ K G' H' fs ds vs L
 | [],_,_,_,_,o=>by unfold dJ at o ⊢; exact o
 |(f,s)::fs,_,_,L,hl,o=>by
  unfold dJ at o⊢
  obtain⟨d,dr,v,vr,L1,L2,e1,e2,o1,o2,rfl⟩:=o
  exact⟨d,dr,v,vr,L1,L2,e1,e2,Own.mono hG ha s d v L1 (fun p m=>hl p (List.mem_append_left _ m)) o1,dJ.mono hG ha fs dr vr L2 (fun p m=>hl p (List.mem_append_right _ m)) o2,rfl⟩
theorem fO.mono (hG: ∀p,G p->G' p) (ha:Agr G H H'): ∀(ss:List Sh) (ds:List D) (vs:List V) (L:List Addr),(∀p∈L,H' p=H p)->fO K G H ss ds vs L->fO K G' H' ss ds vs L
 | [],_,_,_,_,o=>by unfold fO at o ⊢; exact o
 |s::ss,_,_,L,hl,o=>by
  unfold fO at o⊢
  obtain⟨d,dr,v,vr,L1,L2,e1,e2,o1,o2,rfl⟩:=o
  exact⟨d,dr,v,vr,L1,L2,e1,e2,Own.mono hG ha s d v L1 (fun p m=>hl p (List.mem_append_left _ m)) o1,fO.mono hG ha ss dr vr L2 (fun p m=>hl p (List.mem_append_right _ m)) o2,rfl⟩
end
def Nd:HO->Prop
 | .lst _=>True| .dK _=>True| .dT _=>True| .ins _ _ _=>True| .frz _ (.dK _)=>True| .frz _ (.dT _)=>True
 |_=>False
def Ndd (H:Hp) (p:Addr):Prop:= ∃u,H p=some u/\Nd u
theorem gX.kind {R:D->V->List Addr->Prop} (h: ∀d v L,R d v L-> ∀p∈L,Ndd H p): ∀(ds:List D) (vs:List V) (L:List Addr),gX R ds vs L-> ∀p∈L,Ndd H p
 | [],_,_,o,p,m=>by rw[o.2] at m;cases m
 |d::ds,_,_,⟨v,r,L1,L2,e1,o1,o2,e2⟩,p,m=>by
  subst e2
  rcases List.mem_append.mp m with m|m
  ·exact h _ _ _ o1 p m
  ·exact gX.kind h ds r L2 o2 p m
theorem b9.kind {κ:Type} {R:D->V->List Addr->Prop} (h: ∀d v L,R d v L-> ∀p∈L,Ndd H p): ∀(ds:List (κ×D)) (vs:List (κ×V)) (L:List Addr),b9 R ds vs L-> ∀p∈L,Ndd H p
 | [],_,_,o,p,m=>by rw[o.2] at m;cases m
 |(k,d)::ds,_,_,⟨v,r,L1,L2,e1,o1,o2,e2⟩,p,m=>by
  subst e2
  rcases List.mem_append.mp m with m|m
  ·exact h _ _ _ o1 p m
  ·exact b9.kind h ds r L2 o2 p m
mutual
theorem Own.kind: ∀(s:Sh) (d:D) (v:V) (L:List Addr),Own K G H s d v L-> ∀p∈L,Ndd H p
 | .fz,d,v,L,o,p,m=>by
  unfold Own at o
  rw[o.2] at m;cases m
 | .ex _,d,v,L,o,p,m=>by
  unfold Own at o
  rw[o.2.2] at m;cases m
 | .ls s,d,v,L,o,p,m=>by
  unfold Own at o
  obtain⟨a,vs,ds,L',e1,e2,e3,o1,rfl⟩:=o
  rcases List.mem_cons.mp m with rfl|m
  ·exact⟨_,e3,trivial⟩
  ·exact gX.kind (fun d v L o=>Own.kind s d v L o) ds vs L' o1 p m
 | .dc s,d,v,L,o,p,m=>by
  unfold Own at o
  obtain⟨a,vs,ds,L',e1,e2,e3,nd,o1,rfl⟩:=o
  rcases List.mem_cons.mp m with rfl|m
  ·exact⟨_,e3,trivial⟩
  ·exact b9.kind (fun d v L o=>Own.kind s d v L o) ds vs L' o1 p m
 | .dt s,d,v,L,o,p,m=>by
  unfold Own at o
  obtain⟨a,vs,ds,L',e1,e2,e3,nd,o1,rfl⟩:=o
  rcases List.mem_cons.mp m with rfl|m
  ·exact⟨_,e3,trivial⟩
  ·exact b9.kind (fun d v L o=>Own.kind s d v L o) ds vs L' o1 p m
 | .dk od kvs s,d,v,L,o,p,m=>by
  unfold Own at o
  obtain⟨a,ds,L',e1,e2,e3,nd,o1,rfl⟩:=o
  rcases List.mem_cons.mp m with rfl|m
  ·exact⟨_,e3,trivial⟩
  ·exact b9.kind (fun d v L o=>Own.kind s d v L o) ds kvs L' o1 p m
 | .lz,d,v,L,o,p,m=>by
  unfold Own at o
  obtain⟨a,vs,ds,L',e1,e2,e3,nd,o1,rfl⟩:=o
  rcases List.mem_cons.mp m with rfl|m
  ·exact⟨_,e3,trivial⟩
  ·obtain⟨us,e⟩:=nd p m
   exact⟨_,e,trivial⟩
 | .op s,d,v,L,o,p,m=>by
  unfold Own at o
  rcases o with ⟨_,_,e⟩|o
  ·rw[e] at m;cases m
  ·exact Own.kind s d v L o p m
 | .tp s,d,v,L,o,p,m=>by
  unfold Own at o
  obtain⟨a,vs,ds,e1,e2,g,e3,o1⟩:=o
  exact gX.kind (fun d v L o=>Own.kind s d v L o) ds vs L o1 p m
 | .tq ss,d,v,L,o,p,m=>by
  unfold Own at o
  obtain⟨a,vs,ds,e1,e2,g,e3,o1⟩:=o
  exact fO.kind ss ds vs L o1 p m
 | .hl ss,d,v,L,o,p,m=>by
  unfold Own at o
  obtain⟨a,vs,ds,L',e1,e2,e3,o1,rfl⟩:=o
  rcases List.mem_cons.mp m with rfl|m
  ·exact⟨_,e3,trivial⟩
  ·exact fO.kind ss ds vs L' o1 p m
 | .is fs,d,v,L,o,p,m=>by
  unfold Own at o
  obtain⟨a,C,dx,vs,ds,L',e1,e2,e3,o1,rfl⟩:=o
  rcases List.mem_cons.mp m with rfl|m
  ·exact⟨_,e3,trivial⟩
  ·exact dJ.kind fs ds vs L' o1 p m
theorem dJ.kind: ∀(fs:List (Str×Sh)) (ds:List (Str×D)) (vs:List (Str×V)) (L:List Addr),dJ K G H fs ds vs L-> ∀p∈L,Ndd H p
 | [],_,_,L,o,p,m=>by
  unfold dJ at o
  rw[o.2.2] at m;cases m
 |(f,s)::fs,_,_,L,o,p,m=>by
  unfold dJ at o
  obtain⟨d,dr,v,vr,L1,L2,e1,e2,o1,o2,rfl⟩:=o
  rcases List.mem_append.mp m with m|m
  ·exact Own.kind s d v L1 o1 p m
  ·exact dJ.kind fs dr vr L2 o2 p m
theorem fO.kind: ∀(ss:List Sh) (ds:List D) (vs:List V) (L:List Addr),fO K G H ss ds vs L-> ∀p∈L,Ndd H p
 | [],_,_,L,o,p,m=>by
  unfold fO at o
  rw[o.2.2] at m;cases m
 |s::ss,_,_,L,o,p,m=>by
  unfold fO at o
  obtain⟨d,dr,v,vr,L1,L2,e1,e2,o1,o2,rfl⟩:=o
  rcases List.mem_append.mp m with m|m
  ·exact Own.kind s d v L1 o1 p m
  ·exact fO.kind ss dr vr L2 o2 p m
end
theorem aB {S:Sa} {H:Hp}:Agr S H H:=fun p _=>hZ.of_eq fun _ e=>e
theorem KS {S:Sa} {H H':Hp} (h: ∀p u,H p=some u->(∀ps,u≠ .tbl ps)->H' p=some u):Agr S H H':=fun p _=>
 ⟨fun u hu r=>r.elim (fun r=>.inl (h _ _ r (fun ps z=>by subst z;exact hu))) fun⟨o,r⟩=>.inr ⟨o,h _ _ r fun _ z=>by cases z⟩,fun u hu e=>h _ _ e (fun ps z=>by subst z;exact hu)⟩
theorem qK {S:Sa} {H H':Hp} (h: ∀p u,H p=some u->H' p=some u):Agr S H H':=fun p _=>hZ.of_eq (h p)
theorem gX.rep {R:D->V->List Addr->Prop} (h: ∀d v L,R d v L->Rep K (fun p=>G p\/p∈L) H d v): ∀(ds:List D) (vs:List V) (L:List Addr),gX R ds vs L->aD K (fun p=>G p\/p∈L) H ds vs
 | [],_,_,o=>by rw[o.1];exact .nil
 |d::ds,_,_,⟨v,r,L1,L2,e1,o1,o2,e2⟩=>by
  subst e2;subst e1
  exact .cons (Rep.mono (fun p x=>x.imp id (List.mem_append_left _)) aB _ _ (h _ _ _ o1)) (aD.mono (fun p x=>x.imp id (List.mem_append_right _)) aB _ _ (gX.rep h ds r L2 o2))
theorem b9.KU {R:D->V->List Addr->Prop} (h: ∀d v L,R d v L->Rep K (fun p=>G p\/p∈L) H d v): ∀(ds:List (Key×D)) (vs:List (Key×V)) (L:List Addr),b9 R ds vs L->bQ K (fun p=>G p\/p∈L) H ds vs
 | [],_,_,o=>by rw[o.1];exact .nil
 |(k,d)::ds,_,_,⟨v,r,L1,L2,e1,o1,o2,e2⟩=>by
  subst e2;subst e1
  exact .cons (Rep.mono (fun p x=>x.imp id (List.mem_append_left _)) aB _ _ (h _ _ _ o1)) (bQ.mono (fun p x=>x.imp id (List.mem_append_right _)) aB _ _ (b9.KU h ds r L2 o2))
theorem b9.MZ {R:D->V->List Addr->Prop} (h: ∀d v L,R d v L->Rep K (fun p=>G p\/p∈L) H d v): ∀(ds:List (List Key×D)) (vs:List (List Key×V)) (L:List Addr),b9 R ds vs L->gU K (fun p=>G p\/p∈L) H ds vs
 | [],_,_,o=>by rw[o.1];unfold gU;rfl
 |(k,d)::ds,_,_,⟨v,r,L1,L2,e1,o1,o2,e2⟩=>by
  subst e2;subst e1
  unfold gU
  exact⟨v,r,rfl,Rep.mono (fun p x=>x.imp id (List.mem_append_left _)) aB _ _ (h _ _ _ o1),gU.mono (fun p x=>x.imp id (List.mem_append_right _)) aB _ _ (b9.MZ h ds r L2 o2)⟩
mutual
theorem Own.rep: ∀(s:Sh) (d:D) (v:V) (L:List Addr),Own K G H s d v L->Rep K (fun p=>G p\/p∈L) H d v
 | .fz,d,v,L,o=>by
  unfold Own at o
  exact Rep.mono (fun p x=>.inl x) aB _ _ o.1
 | .ex _,d,v,L,o=>by
  unfold Own at o
  exact Rep.mono (fun p x=>.inl x) aB _ _ o.2.1
 | .ls s,d,v,L,o=>by
  unfold Own at o
  obtain⟨a,vs,ds,L',rfl,rfl,e3,o1,rfl⟩:=o
  unfold Rep
  exact⟨a,vs,rfl,.inr List.mem_cons_self,e3,aD.mono (fun p x=>x.imp id (List.mem_cons_of_mem _)) aB _ _ (gX.rep (fun d v L o=>Own.rep s d v L o) ds vs L' o1)⟩
 | .dc s,d,v,L,o=>by
  unfold Own at o
  obtain⟨a,vs,ds,L',rfl,rfl,e3,nd,o1,rfl⟩:=o
  unfold Rep
  exact⟨a,vs,rfl,.inr List.mem_cons_self,.inl e3,nd,bQ.mono (fun p x=>x.imp id (List.mem_cons_of_mem _)) aB _ _ (b9.KU (fun d v L o=>Own.rep s d v L o) ds vs L' o1)⟩
 | .dt s,d,v,L,o=>by
  unfold Own at o
  obtain⟨a,vs,ds,L',rfl,rfl,e3,nd,o1,rfl⟩:=o
  unfold Rep
  exact⟨a,vs,rfl,.inr List.mem_cons_self,.inl e3,nd,gU.mono (fun p x=>x.imp id (List.mem_cons_of_mem _)) aB _ _ (b9.MZ (fun d v L o=>Own.rep s d v L o) ds vs L' o1)⟩
 | .dk od kvs s,d,v,L,o=>by
  unfold Own at o
  obtain⟨a,ds,L',rfl,rfl,e3,nd,o1,rfl⟩:=o
  unfold Rep
  exact⟨a,kvs,rfl,.inr List.mem_cons_self,.inr ⟨od,e3⟩,nd,bQ.mono (fun p x=>x.imp id (List.mem_cons_of_mem _)) aB _ _ (b9.KU (fun d v L o=>Own.rep s d v L o) ds kvs L' o1)⟩
 | .lz,d,v,L,o=>by
  unfold Own at o
  obtain⟨a,vs,ds,L',rfl,rfl,e3,nd,o1,rfl⟩:=o
  unfold Rep
  exact⟨a,vs,rfl,.inr List.mem_cons_self,e3,aD.mono (fun p s=>s.elim (fun s=>.inr (List.mem_cons_of_mem _ s)) (fun s=>.inl s.1)) aB _ _ o1⟩
 | .op s,d,v,L,o=>by
  unfold Own at o
  rcases o with ⟨e1,e2,_⟩|o
  ·subst e1;subst e2
   unfold Rep
   rfl
  ·exact Own.rep s d v L o
 | .tp s,d,v,L,o=>by
  unfold Own at o
  obtain⟨a,vs,ds,rfl,rfl,g,e3,o1⟩:=o
  unfold Rep
  exact⟨a,vs,rfl,⟨.inl g,e3⟩,gX.rep (fun d v L o=>Own.rep s d v L o) ds vs L o1⟩
 | .tq ss,d,v,L,o=>by
  unfold Own at o
  obtain⟨a,vs,ds,rfl,rfl,g,e3,o1⟩:=o
  unfold Rep
  exact⟨a,vs,rfl,⟨.inl g,e3⟩,fO.rep ss ds vs L o1⟩
 | .hl ss,d,v,L,o=>by
  unfold Own at o
  obtain⟨a,vs,ds,L',rfl,rfl,e3,o1,rfl⟩:=o
  unfold Rep
  exact⟨a,vs,rfl,.inr List.mem_cons_self,e3,aD.mono (fun p x=>x.imp id (List.mem_cons_of_mem _)) aB _ _ (fO.rep ss ds vs L' o1)⟩
 | .is fs,d,v,L,o=>by
  unfold Own at o
  obtain⟨a,C,dx,vs,ds,L',rfl,rfl,e3,o1,rfl⟩:=o
  unfold Rep
  exact⟨a,dx,vs,rfl,.inr List.mem_cons_self,e3,gV.mono (fun p x=>x.imp id (List.mem_cons_of_mem _)) aB _ _ (dJ.rep fs ds vs L' o1)⟩
theorem dJ.rep: ∀(fs:List (Str×Sh)) (ds:List (Str×D)) (vs:List (Str×V)) (L:List Addr),dJ K G H fs ds vs L->gV K (fun p=>G p\/p∈L) H ds vs
 | [],_,_,L,o=>by
  unfold dJ at o
  rw[o.1,o.2.1];unfold gV;rfl
 |(f,s)::fs,_,_,L,o=>by
  unfold dJ at o
  obtain⟨d,dr,v,vr,L1,L2,rfl,rfl,o1,o2,rfl⟩:=o
  unfold gV
  exact⟨v,vr,rfl,Rep.mono (fun p x=>x.imp id (List.mem_append_left _)) aB _ _ (Own.rep s d v L1 o1),gV.mono (fun p x=>x.imp id (List.mem_append_right _)) aB _ _ (dJ.rep fs dr vr L2 o2)⟩
theorem fO.rep: ∀(ss:List Sh) (ds:List D) (vs:List V) (L:List Addr),fO K G H ss ds vs L->aD K (fun p=>G p\/p∈L) H ds vs
 | [],_,_,L,o=>by
  unfold fO at o
  rw[o.1,o.2.1];exact .nil
 |s::ss,_,_,L,o=>by
  unfold fO at o
  obtain⟨d,dr,v,vr,L1,L2,rfl,rfl,o1,o2,rfl⟩:=o
  exact .cons (Rep.mono (fun p x=>x.imp id (List.mem_append_left _)) aB _ _ (Own.rep s d v L1 o1)) (aD.mono (fun p x=>x.imp id (List.mem_append_right _)) aB _ _ (fO.rep ss dr vr L2 o2))
end
end
abbrev CS:=L2.St
def Spn (K:Frg) (B G:Sa) (H:Hp) (d:D) (v:V):Prop:= ∃a vs ds,d= .lst ds/\v= .ref a/\B a/\H a=some (.lst vs)/\aD K G H ds vs
theorem Spn.mono {K:Frg} {B B' G G':Sa} {H H':Hp} {d:D} {v:V} (hB: ∀p,B p->B' p) (hG: ∀p,G p->G' p) (ha:Agr G H H') (hb:Agr B H H') (h:Spn K B G H d v):Spn K B' G' H' d v:=by
 obtain⟨a,vs,ds,e1,e2,b,hl,r⟩:=h
 exact⟨a,vs,ds,e1,e2,hB a b,(hb a b).st _ trivial hl,aD.mono hG ha ds vs r⟩
theorem Spn.rep {K:Frg} {B G:Sa} {H:Hp} {d:D} {v:V} (h:Spn K B G H d v):Rep K (fun _=>True) H d v:=by
 obtain⟨a,vs,ds,rfl,rfl,b,hl,r⟩:=h
 unfold Rep
 exact⟨a,vs,rfl,trivial,hl,aD.mono (fun _ _=>trivial) aB ds vs r⟩
inductive Md where
 |bo|fz|ow (s:Sh)|pn (v:V) (s:Sh)|bl
def lA (K:Frg) (B G:Sa) (H:Hp):Md->Option D->Option V->List Addr->Prop
 |_,none,_,L=>L=[]
 | .bo,some d,sv,L=> ∃v,sv=some v/\Rep K B H d v/\L=[]
 | .fz,some d,sv,L=> ∃v,sv=some v/\Rep K G H d v/\L=[]
 | .ow s,some d,sv,L=> ∃v,sv=some v/\Own K G H s d v L
 | .pn v s,some d,sv,L=>sv=some v/\Own K G H s d v L
 | .bl,some d,sv,L=> ∃v,sv=some v/\Spn K B G H d v/\L=[]
abbrev Ds:=List (Option D)
def Slots (K:Frg) (B G:Sa) (H:Hp):List Md->Ds->CS->List Addr->Prop
 | [],[],[],L=>L=[]
 |m::ms,x::xs,y::ys,L=> ∃L1 L2,lA K B G H m x y L1/\Slots K B G H ms xs ys L2/\L=L1++L2
 |_,_,_,_=>False
structure Org where
 G0:Sa
 H0:Hp
 L0:List Addr
 B:Sa
class NmC where
 T:List (Addr×Str)
instance (priority:=low) nm0:NmC:=⟨[]⟩
variable [NmC]
def imm:List V ⊕ (Heap->Prop)->HO
 | .inl xs=>.tup xs
 | .inr φ=>.ext φ
instance:Coe (List V) (List V ⊕ (Heap->Prop)):=⟨.inl⟩
def NT (u:HO):Prop:= ∀ps,u≠ .tbl ps
theorem o6 (x:List V ⊕ (Heap->Prop)):NT (imm x):=by cases x <;> (intro _ z;cases z)
structure bJ (O:Org) (H:Hp) (G:Sa) (L:List Addr):Prop where
 bin: ∀p,O.B p->O.H0 p≠none/\p∉O.L0
 fr0: ∀p u,O.H0 p=some u->p∉O.L0->NT u->H p=some u
 gsub: ∀p,O.G0 p->G p
 gold: ∀p,G p->O.G0 p\/O.H0 p=none\/(∃xs,O.H0 p=some (imm xs))\/p∈O.L0
 gin: ∀p,G p->H p≠none
 dom: ∀p,O.H0 p≠none->H p≠none
 nd:L.Nodup
 lg: ∀p∈L,¬G p/\(p∈O.L0\/O.H0 p=none)
 tl: ∀p ps,O.H0 p=some (.tbl ps)-> ∃ps',H p=some (.tbl ps')
 tb:LamX.Tabs NmC.T H
theorem bJ.frame {O:Org} {H:Hp} {G:Sa} {L:List Addr} (r:bJ O H G L) (p:Addr) (u:HO) (e:O.H0 p=some u) (n:p∉O.L0) (t:NT u:=by first|assumption|(intro _ z;cases z;done)|exact o6 _):H p=some u:=r.fr0 p u e n t
def Rel (K:Frg) (O:Org) (Δ:List Md) (st:Ds) (σ:CS) (H:Hp) (G:Sa):Prop:= ∃L,bJ O H G L/\Slots K O.B G H Δ st σ L
structure Ext (H:Hp) (G:Sa) (H':Hp) (G':Sa):Prop where
 hx: ∀p u,H p=some u->NT u->H' p=some u
 gg: ∀p,G p->G' p
 gn: ∀p,G' p->G p\/(H p=none/\H' p≠none)\/ ∃xs,H p=some (imm xs)
 tl: ∀p ps,H p=some (.tbl ps)-> ∃ps',H' p=some (.tbl ps')
 tb:LamX.Tabs NmC.T H->LamX.Tabs NmC.T H'
theorem Ext.hh {H:Hp} {G:Sa} {H':Hp} {G':Sa} (x:Ext H G H' G') (p:Addr) (u:HO) (e:H p=some u) (t:NT u:=by first|assumption|(intro _ z;cases z;done)|exact o6 _):H' p=some u:=x.hx p u e t
theorem xD (u:HO):NT u\/ ∃ps,u= .tbl ps:=by
 cases u with
 |tbl ps=>exact .inr ⟨ps,rfl⟩
 |_=>exact .inl fun _ z=>by cases z
theorem Ext.dm {H:Hp} {G:Sa} {H':Hp} {G':Sa} (x:Ext H G H' G') (p:Addr) (h:H p≠none):H' p≠none:=by
 cases q:H p with
 |none=>exact absurd q h
 |some u=>
  rcases xD u with n|⟨ps,rfl⟩
  ·rw[x.hh p u q];simp
  ·obtain⟨ps',e⟩:=x.tl p ps q
   rw[e];simp
theorem Ext.bk {H:Hp} {G:Sa} {H':Hp} {G':Sa} (x:Ext H G H' G') {p:Addr} (h:H' p=none):H p=none:=by
 cases q:H p with
 |none=>rfl
 |some u=>exact absurd h (x.dm p (by rw[q];simp))
theorem Ext.was {H:Hp} {G:Sa} {H':Hp} {G':Sa} (x:Ext H G H' G') {p:Addr} {u:HO} (h:H' p=some u) (n:NT u):H p=some u\/H p=none:=by
 cases q:H p with
 |none=>exact .inr rfl
 |some v=>
  rcases xD v with m|⟨ps,rfl⟩
  ·have:=x.hh p v q
   rw[h] at this;exact .inl (by rw[this])
  ·obtain⟨ps',e⟩:=x.tl p ps q
   rw[h] at e;cases e
   exact absurd rfl (n ps')
theorem bJ.was {O:Org} {H:Hp} {G:Sa} {L:List Addr} (r:bJ O H G L) {p:Addr} {u:HO} (h:H p=some u) (n:NT u):O.H0 p=some u\/O.H0 p=none\/p∈O.L0:=by
 cases q:O.H0 p with
 |none=>exact .inr (.inl rfl)
 |some v=>
  by_cases hp:p∈O.L0
  ·exact .inr (.inr hp)
  ·rcases xD v with m|⟨ps,rfl⟩
   ·have:=r.frame p v q hp
    rw[h] at this;exact .inl (by rw[this])
   ·obtain⟨ps',e⟩:=r.tl p ps q
    rw[h] at e;cases e
    exact absurd rfl (n ps')
theorem Ext.of {H:Hp} {G:Sa} {H':Hp} {G':Sa} (hh: ∀p u,H p=some u->H' p=some u) (gg: ∀p,G p->G' p) (gn: ∀p,G' p->G p\/(H p=none/\H' p≠none)\/ ∃xs,H p=some (imm xs)):Ext H G H' G':=
 ⟨fun p u e _=>hh p u e,gg,gn,fun p ps e=>⟨ps,hh p _ e⟩,fun t=>LamX.Tabs.ext t hh⟩
theorem Ext.re {H:Hp} {G:Sa} {H':Hp} {G' G1:Sa} (x:Ext H G H' G') (gg: ∀p,G p->G1 p) (gn: ∀p,G1 p->G p\/(H p=none/\H' p≠none)\/ ∃xs,H p=some (imm xs)):Ext H G H' G1:=⟨x.hx,gg,gn,x.tl,x.tb⟩
theorem Ext.refl {H:Hp} {G:Sa}:Ext H G H G:=.of (fun _ _ e=>e) (fun _ g=>g) (fun _ g=>.inl g)
theorem Ext.trans {H H1 H2:Hp} {G G1 G2:Sa} (a:Ext H G H1 G1) (b:Ext H1 G1 H2 G2):Ext H G H2 G2:=
 ⟨fun p u e t=>b.hh p u (a.hh p u e),fun p g=>b.gg p (a.gg p g),fun p g=>by
  rcases b.gn p g with g|⟨e1,e2⟩|⟨xs,e⟩
  ·rcases a.gn p g with g|⟨e1,e2⟩|⟨xs,e⟩
   ·exact .inl g
   ·exact .inr (.inl ⟨e1,b.dm p e2⟩)
   ·exact .inr (.inr ⟨xs,e⟩)
  ·exact .inr (.inl ⟨a.bk e1,e2⟩)
  ·rcases a.was e (o6 _) with q|q
   ·exact .inr (.inr ⟨xs,q⟩)
   ·exact .inr (.inl ⟨q,b.dm p (by rw[e];simp)⟩),
  fun p ps e=>by
   obtain⟨ps1,e1⟩:=a.tl p ps e
   exact b.tl p ps1 e1,
  fun t=>b.tb (a.tb t)⟩
section
variable {K:Frg} {O:Org} {B G G':Sa} {H H':Hp} {Δ:List Md} {st:Ds} {σ:CS} {L:List Addr}
theorem lA.mono {m:Md} {x:Option D} {y:Option V} (hG: ∀p,G p->G' p) (ha:Agr G H H') (hb:Agr B H H') (hl: ∀p∈L,H' p=H p) (h:lA K B G H m x y L):lA K B G' H' m x y L:=by
 cases x with
 |none=>cases m <;> exact h
 |some d=>
  cases m with
  |bo=>obtain⟨v,e,r,l⟩:=h;exact⟨v,e,Rep.mono (fun _ g=>g) hb d v r,l⟩
  |fz=>obtain⟨v,e,r,l⟩:=h;exact⟨v,e,Rep.mono hG ha d v r,l⟩
  |ow s=>obtain⟨v,e,r⟩:=h;exact⟨v,e,Own.mono hG ha s d v L hl r⟩
  |pn v s=>obtain⟨e,r⟩:=h;exact⟨e,Own.mono hG ha s d v L hl r⟩
  |bl=>obtain⟨v,e,r,l⟩:=h;exact⟨v,e,r.mono (fun _ g=>g) hG ha hb,l⟩
theorem lA.kind {m:Md} {x:Option D} {y:Option V} (h:lA K B G H m x y L): ∀p∈L,Ndd H p:=by
 cases x with
 |none=>cases m <;> (intro p m;rw[show L=[] from h] at m;cases m)
 |some d=>
  cases m with
  |bo=>obtain⟨v,e,r,l⟩:=h;intro p m;rw[l] at m;cases m
  |fz=>obtain⟨v,e,r,l⟩:=h;intro p m;rw[l] at m;cases m
  |ow s=>obtain⟨v,e,r⟩:=h;exact Own.kind s d v L r
  |pn v s=>obtain⟨e,r⟩:=h;exact Own.kind s d v L r
  |bl=>obtain⟨v,e,r,l⟩:=h;intro p m;rw[l] at m;cases m
theorem Slots.mono (hG: ∀p,G p->G' p) (ha:Agr G H H') (hb:Agr B H H'): ∀{Δ:List Md} {st:Ds} {σ:CS} {L:List Addr},(∀p∈L,H' p=H p)->Slots K B G H Δ st σ L->Slots K B G' H' Δ st σ L
 | [],[],[],_,_,h=>h
 |m::ms,x::xs,y::ys,_,hl,⟨L1,L2,h1,h2,e⟩=>by
  subst e
  exact⟨L1,L2,lA.mono hG ha hb (fun p m=>hl p (List.mem_append_left _ m)) h1,Slots.mono hG ha hb (fun p m=>hl p (List.mem_append_right _ m)) h2,rfl⟩
 | [],[],_::_,_,_,h=>h.elim
 | [],_::_,_,_,_,h=>h.elim
 |_::_,[],_,_,_,h=>h.elim
 |_::_,_::_,[],_,_,h=>h.elim
theorem Slots.kind: ∀{Δ:List Md} {st:Ds} {σ:CS} {L:List Addr},Slots K B G H Δ st σ L-> ∀p∈L,Ndd H p
 | [],[],[],_,h,p,m=>by rw[show _=[] from h] at m;cases m
 |m::ms,x::xs,y::ys,_,⟨L1,L2,h1,h2,e⟩,p,m'=>by
  subst e
  rcases List.mem_append.mp m' with m'|m'
  ·exact h1.kind p m'
  ·exact Slots.kind h2 p m'
 | [],[],_::_,_,h,_,_=>h.elim
 | [],_::_,_,_,h,_,_=>h.elim
 |_::_,[],_,_,h,_,_=>h.elim
 |_::_,_::_,[],_,h,_,_=>h.elim
theorem Ext.agr {S:Sa} (e:Ext H G H' G'):Agr S H H':=KS e.hx
theorem Ndd.ne {p:Addr} (h:Ndd H p):H p≠none:=by
 obtain⟨u,e,_⟩:=h
 rw[e];simp
theorem Ndd.E9 {p:Addr} {xs:List V ⊕ (Heap->Prop)} (h:Ndd H p) (e:H p=some (imm xs)):False:=by
 obtain⟨u,e',n⟩:=h
 rw[e] at e';cases e';cases xs <;> exact n
theorem Nd.nt {u:HO} (n:Nd u):NT u:=fun ps z=>by subst z;exact n
theorem Ndd.nt {p:Addr} {u:HO} (h:Ndd H p) (e:H p=some u):NT u:=by
 obtain⟨v,q,n⟩:=h
 rw[q] at e;cases e;exact n.nt
theorem Ext.vp (e:Ext H G H' G') {p:Addr} (h:Ndd H p):H' p=H p:=by
 obtain⟨u,q,n⟩:=h
 rw[q];exact e.hh p u q n.nt
theorem bJ.ext (r:bJ O H G L) (e:Ext H G H' G') (hk: ∀p∈L,Ndd H p) (gin: ∀p,G' p->H' p≠none):bJ O H' G' L where
 bin:=r.bin
 fr0:=fun p u h n t=>e.hh p u (r.frame p u h n)
 gsub:=fun p g=>e.gg p (r.gsub p g)
 gold:=fun p g=>by
  rcases e.gn p g with g|⟨n,_⟩|⟨xs,t⟩
  ·exact r.gold p g
  ·refine .inr (.inl ?_)
   cases q:O.H0 p with
   |none=>rfl
   |some u=>exact absurd n (r.dom p (by rw[q];simp))
  ·rcases r.was t (o6 _) with q|q|q
   ·exact .inr (.inr (.inl ⟨xs,q⟩))
   ·exact .inr (.inl q)
   ·exact .inr (.inr (.inr q))
 gin:=gin
 dom:=fun p h=>e.dm p (r.dom p h)
 nd:=r.nd
 lg:=fun p m=>⟨fun g=>by
  rcases e.gn p g with g|⟨n,_⟩|⟨xs,t⟩
  ·exact (r.lg p m).1 g
  ·exact (hk p m).ne n
  ·exact (hk p m).E9 t,(r.lg p m).2⟩
 tl:=fun p ps h=>by
  obtain⟨ps1,e1⟩:=r.tl p ps h
  exact e.tl p ps1 e1
 tb:=e.tb r.tb
theorem Ext.gin (e:Ext H G H' G') (h: ∀p,G p->H p≠none): ∀p,G' p->H' p≠none:=fun p g=>by
 rcases e.gn p g with g|⟨_,n⟩|⟨xs,t⟩
 ·exact e.dm p (h p g)
 ·exact n
 ·exact e.dm p (by rw[t];simp)
theorem Rel.ext (r:Rel K O Δ st σ H G) (e:Ext H G H' G'):Rel K O Δ st σ H' G':=by
 obtain⟨L,g,s⟩:=r
 exact⟨L,g.ext e s.kind (e.gin g.gin),Slots.mono e.gg e.agr e.agr (fun p m=>e.vp (s.kind p m)) s⟩
end
theorem Fb {H H':Hp} (hh: ∀p u,H p=some u-> ¬Nd u->H' p=some u) (t:LamX.Tabs NmC.T H):LamX.Tabs NmC.T H':=fun q hq=>by
 obtain⟨ps,h1,h2,h3⟩:=t q hq
 refine⟨ps,hh _ _ h1 (fun n=>n),h2,fun pos cv hc=> ?_⟩
 obtain⟨c,e1,e2⟩:=h3 pos cv hc
 exact⟨c,e1,hh _ _ e2 (fun n=>n)⟩
theorem rE {H:Hp} {a:Addr} {o:HO} (h:Ndd H a\/H a=none) (t:LamX.Tabs NmC.T H):LamX.Tabs NmC.T (upd H a o):=Fb (fun p u e n=>by
 have hne:p≠a:=fun z=>by
  subst z
  rcases h with ⟨v,q,m⟩|q
  ·rw[q] at e;cases e;exact n m
  ·rw[q] at e;cases e
 rw[upd_ne hne];exact e) t
theorem Fc {H:Hp} {a:Addr} {o:HO} (h:Ndd H a\/H a=none) {p:Addr} (e: ∃ps,H p=some (.tbl ps)): ∃ps,upd H a o p=some (.tbl ps):=by
 obtain⟨ps,e⟩:=e
 have hne:p≠a:=fun z=>by
  subst z
  rcases h with ⟨v,q,m⟩|q
  ·rw[q] at e;cases e;exact m
  ·rw[q] at e;cases e
 exact⟨ps,by rw[upd_ne hne];exact e⟩
theorem hZ.xE {H H':Hp} {p:Addr} (h: ∀u,NT u->H p=some u->H' p=some u):hZ H H' p:=
 ⟨fun u hu r=>r.elim (fun r=>.inl (h _ (fun ps z=>by subst z;exact hu) r)) fun⟨o,r⟩=>.inr ⟨o,h _ (fun _ z=>by cases z) r⟩,fun u hu e=>h _ (fun ps z=>by subst z;exact hu) e⟩
theorem Ext.O3 {H H':Hp} {G G':Sa} {D:Addr} {o:HO} (x:Ext H G H' G') (hD:H D=none) (hd:Ndd H' D):Ext H G (upd H' D o) G':=
 ⟨fun p u e _=>by rw[upd_ne (ne_of_none e hD)];exact x.hh p u e,x.gg,fun p g=>by
  rcases x.gn p g with g|⟨n,n2⟩|t
  ·exact .inl g
  ·refine .inr (.inl ⟨n,?_⟩)
   by_cases hp:p=D
   ·subst hp;rw[upd_same];simp
   ·rw[upd_ne hp];exact n2
  ·exact .inr (.inr t),fun p ps e=>Fc (.inl hd) (x.tl p ps e),fun t=>rE (.inl hd) (x.tb t)⟩
end Sw
namespace Sw
open PySem PySem.Spec PyProof.Rows L2
variable [NmC]
section
variable {K:Frg} {O:Org} {B G:Sa} {H:Hp}
theorem dM {α:Type} (a b c:List α):(a++(b++c)).Perm (b++(a++c)):=by
 rw[<-List.append_assoc,←List.append_assoc]
 exact List.perm_append_comm.append_right c
theorem Slots.split: ∀{Δ:List Md} {st:Ds} {σ:CS} {L:List Addr} {i:Nat} {m:Md},Slots K B G H Δ st σ L->Δ[i]? =some m→
  ∃x y L1 L2,st[i]? =some x/\σ[i]? =some y/\lA K B G H m x y L1/\L.Perm (L1++L2)∧
   ∀(G':Sa) (H':Hp) m' x' y' L1',(∀p,G p->G' p)->Agr G H H'->Agr B H H'->(∀p∈L2,H' p=H p)->lA K B G' H' m' x' y' L1'→
    ∃L',L'.Perm (L1'++L2)/\Slots K B G' H' (Δ.set i m') (st.set i x') (σ.set i y') L'
 |m::ms,x::xs,y::ys,_,0,_,⟨L1,L2,h1,h2,e⟩,e0=>by
  subst e
  cases e0
  exact⟨x,y,L1,L2,rfl,rfl,h1,.refl _,fun G' H' m' x' y' L1' hG ha hb hl s=>⟨L1'++L2,.refl _,L1',L2,s,h2.mono hG ha hb hl,rfl⟩⟩
 |m::ms,x::xs,y::ys,_,i+1,m0,⟨L1,L2,h1,h2,e⟩,e0=>by
  subst e
  obtain⟨x1,y1,M1,M2,ex,ey,s1,pm,f⟩:=Slots.split (i:=i) (m:=m0) h2 (by simpa using e0)
  refine⟨x1,y1,M1,L1++M2,by simpa using ex,by simpa using ey,s1,((List.Perm.append_left L1 pm).trans (dM L1 M1 M2)),fun G' H' m' x' y' L1' hG ha hb hl s=> ?_⟩
  obtain⟨L',pm',s'⟩:=f G' H' m' x' y' L1' hG ha hb (fun p hp=>hl p (List.mem_append_right _ hp)) s
  exact⟨L1++L',(List.Perm.append_left L1 pm').trans (dM L1 L1' M2),L1,L',h1.mono hG ha hb (fun p hp=>hl p (List.mem_append_left _ hp)),s',rfl⟩
 | [],[],[],_,_,_,_,e0=>by cases e0
 | [],[],_::_,_,_,_,h,_=>h.elim
 | [],_::_,_,_,_,_,h,_=>h.elim
 |_::_,[],_,_,_,_,h,_=>h.elim
 |_::_,_::_,[],_,_,_,h,_=>h.elim
theorem Slots.len: ∀{Δ:List Md} {st:Ds} {σ:CS} {L:List Addr},Slots K B G H Δ st σ L->st.length=Δ.length/\σ.length=Δ.length
 | [],[],[],_,_=>⟨rfl,rfl⟩
 |m::ms,x::xs,y::ys,_,⟨L1,L2,h1,h2,e⟩=>by
  have:=Slots.len h2
  simp[this.1,this.2]
 | [],[],_::_,_,h=>h.elim
 | [],_::_,_,_,h=>h.elim
 |_::_,[],_,_,h=>h.elim
 |_::_,_::_,[],_,h=>h.elim
theorem fP {α:Type} {l:List α} {i:Nat} {x:α} (h:l[i]? =some x):l.set i x=l:=by
 apply List.ext_getElem?
 intro j
 by_cases e:i=j
 ·subst e
  rw[List.getElem?_set_self (List.getElem?_eq_some_iff.mp h).1,h]
 ·rw[List.getElem?_set_ne e]
inductive Wk:List Md->Ds->List Md->Ds->Prop where
 |nil:Wk [] [] [] []
 |keep {m:Md} {x:Option D} {ms ns:List Md} {xs zs:Ds}:Wk ms xs ns zs->Wk (m::ms) (x::xs) (m::ns) (x::zs)
 |drop {m n:Md} {x:Option D} {ms ns:List Md} {xs zs:Ds}:Wk ms xs ns zs->Wk (m::ms) (x::xs) (n::ns) (none::zs)
theorem lA.none {m:Md} {y:Option V}:lA K B G H m none y []:=by cases m <;> rfl
theorem Slots.weak: ∀{Δ Δ':List Md} {st st':Ds} {σ:CS} {L:List Addr},Wk Δ st Δ' st'->Slots K B G H Δ st σ L-> ∃L',L'.Sublist L/\Slots K B G H Δ' st' σ L'
 |_,_,_,_,[],_,.nil,h=>⟨_,List.Sublist.refl _,h⟩
 |_,_,_,_,_::_,_,.nil,h=>h.elim
 |_,_,_,_,[],_,.keep _,h=>h.elim
 |_,_,_,_,[],_,.drop _,h=>h.elim
 |_,_,_,_,y::ys,_,.keep w,⟨L1,L2,h1,h2,e⟩=>by
  obtain⟨L',s,q⟩:=Slots.weak w h2
  exact⟨L1++L',e▸List.Sublist.append (List.Sublist.refl _) s,L1,L',h1,q,rfl⟩
 |_,_,_,_,y::ys,_,.drop w,⟨L1,L2,h1,h2,e⟩=>by
  obtain⟨L',s,q⟩:=Slots.weak w h2
  exact⟨L',e▸(s.trans (List.sublist_append_right _ _)),[],L',lA.none,q,rfl⟩
theorem bJ.sub {L L':List Addr} (r:bJ O H G L) (s:L'.Sublist L):bJ O H G L':=
 ⟨r.bin,r.fr0,r.gsub,r.gold,r.gin,r.dom,r.nd.sublist s,fun p m=>r.lg p (s.subset m),r.tl,r.tb⟩
theorem bJ.perm {L L':List Addr} (r:bJ O H G L) (s:L.Perm L'):bJ O H G L':=
 ⟨r.bin,r.fr0,r.gsub,r.gold,r.gin,r.dom,s.nodup_iff.mp r.nd,fun p m=>r.lg p (s.mem_iff.mpr m),r.tl,r.tb⟩
theorem Rel.weak {Δ Δ':List Md} {st st':Ds} {σ:CS} (w:Wk Δ st Δ' st') (r:Rel K O Δ st σ H G):Rel K O Δ' st' σ H G:=by
 obtain⟨L,g,s⟩:=r
 obtain⟨L',sl,q⟩:=s.weak w
 exact⟨L',g.sub sl,q⟩
end
inductive Stp where
 |ix (i:Nat)|ky (k:Key)|kt (k:List Key)|fd (f:Str)
def fQ:D->List Stp->Option D
 |d,[]=>some d
 | .lst ds,.ix i::q=>(ds[i]?).bind fun x=>fQ x q
 | .dct ks,.ky k::q=>(aC ks k).bind fun x=>fQ x q
 | .dcT ks,.kt k::q=>(aC ks k).bind fun x=>fQ x q
 | .ins _ fs,.fd f::q=>(fs.lookup f).bind fun x=>fQ x q
 |_,_::_=>none
def sV (f:Str) (x:D):List (Str×D)->List (Str×D)
 | []=>[(f,x)]
 |(g,y)::r=>if g=f then (g,x)::r else (g,y)::sV f x r
def cE:D->List Stp->D->D
 |_,[],e=>e
 | .lst ds,.ix i::q,e=>match ds[i]? with
  |some x=>.lst (ds.set i (cE x q e))
  |none=>.lst ds
 | .dct ks,.ky k::q,e=>match aC ks k with
  |some x=>.dct (aM ks k (cE x q e))
  |none=>.dct ks
 | .dcT ks,.kt k::q,e=>match aC ks k with
  |some x=>.dcT (aM ks k (cE x q e))
  |none=>.dcT ks
 | .ins C fs,.fd f::q,e=>match fs.lookup f with
  |some x=>.ins C (sV f (cE x q e) fs)
  |none=>.ins C fs
 |d,_::_,_=>d
def shP:Sh->List Stp->Option Sh
 |s,[]=>some s
 | .ls s,.ix _::q=>shP s q
 | .dc s,.ky _::q=>shP s q
 | .dt s,.kt _::q=>shP s q
 | .dk _ _ s,.ky _::q=>shP s q
 | .is fs,.fd f::q=>(fs.lookup f).bind fun s=>shP s q
 | .hl ss,.ix i::q=>(ss[i]?).bind fun s=>shP s q
 |_,_::_=>none
def AtP (H:Hp):V->List Stp->V->Prop
 |v,[],w=>w=v
 |v,.ix i::q,w=> ∃a vs x,v= .ref a/\H a=some (.lst vs)/\vs[i]? =some x/\AtP H x q w
 |v,.ky k::q,w=> ∃a kvs x,v= .ref a/\Rd H a (.dK kvs)/\valV kvs k=some x/\AtP H x q w
 |v,.kt k::q,w=> ∃a kvs x,v= .ref a/\H a=some (.dT kvs)/\valV kvs k=some x/\AtP H x q w
 |v,.fd f::q,w=> ∃a C dx fs x,v= .ref a/\H a=some (.ins C dx fs)/\fs.lookup f=some x/\AtP H x q w
theorem Ij {H:Hp} {a:Addr} {u v:List (Key×V)} (h:Rd H a (.dK u)) (g:Rd H a (.dK v)):u=v:=by
 rcases h with h|⟨o,h⟩ <;> rcases g with g|⟨o',g⟩ <;> rw[h] at g <;> cases g <;> rfl
theorem AtP.inj {H:Hp}: ∀{q:List Stp} {v w w':V},AtP H v q w->AtP H v q w'->w=w'
 | [],v,w,w',h,h'=>by
  have e:w=v:=h
  have e':w'=v:=h'
  rw[e,e']
 | .ix i::q,v,w,w',⟨a,vs,x,e1,e2,e3,h⟩,⟨a',vs',x',e1',e2',e3',h'⟩=>by
  subst e1;cases e1'
  rw[e2] at e2';cases e2'
  rw[e3] at e3';cases e3'
  exact AtP.inj h h'
 | .ky k::q,v,w,w',⟨a,vs,x,e1,e2,e3,h⟩,⟨a',vs',x',e1',e2',e3',h'⟩=>by
  subst e1;cases e1'
  obtain rfl:=Ij e2 e2'
  rw[e3] at e3';cases e3'
  exact AtP.inj h h'
 | .kt k::q,v,w,w',⟨a,vs,x,e1,e2,e3,h⟩,⟨a',vs',x',e1',e2',e3',h'⟩=>by
  subst e1;cases e1'
  rw[e2] at e2';cases e2'
  rw[e3] at e3';cases e3'
  exact AtP.inj h h'
 | .fd f::q,v,w,w',⟨a,C,dx,fs,x,e1,e2,e3,h⟩,⟨a',C',dx',fs',x',e1',e2',e3',h'⟩=>by
  subst e1;cases e1'
  rw[e2] at e2';cases e2'
  rw[e3] at e3';cases e3'
  exact AtP.inj h h'
theorem AtP.mono {H H':Hp} (hh: ∀p u,H p=some u->NT u->H' p=some u): ∀{q:List Stp} {v w:V},AtP H v q w->AtP H' v q w
 | [],v,w,h=>h
 | .ix i::q,v,w,⟨a,vs,x,e1,e2,e3,h⟩=>⟨a,vs,x,e1,hh _ _ e2 (fun _ z=>by cases z),e3,AtP.mono hh h⟩
 | .ky k::q,v,w,⟨a,vs,x,e1,e2,e3,h⟩=>⟨a,vs,x,e1,e2.imp (fun e=>hh _ _ e fun _ z=>by cases z) (fun⟨o,e⟩=>⟨o,hh _ _ e fun _ z=>by cases z⟩),e3,AtP.mono hh h⟩
 | .kt k::q,v,w,⟨a,vs,x,e1,e2,e3,h⟩=>⟨a,vs,x,e1,hh _ _ e2 (fun _ z=>by cases z),e3,AtP.mono hh h⟩
 | .fd f::q,v,w,⟨a,C,dx,fs,x,e1,e2,e3,h⟩=>⟨a,C,dx,fs,x,e1,hh _ _ e2 (fun _ z=>by cases z),e3,AtP.mono hh h⟩
section
variable {K:Frg} {G G':Sa} {H H':Hp}
theorem gX.item {R:D->V->List Addr->Prop}: ∀{ds:List D} {vs:List V} {L:List Addr} {i:Nat} {d:D},gX R ds vs L->ds[i]? =some d→
  ∃v L1 L2,vs[i]? =some v/\R d v L1/\L.Perm (L1++L2)/\ ∀(R':D->V->List Addr->Prop) d' v' L1',(∀d v M,(∀p∈M,p∈L2)->R d v M->R' d v M)->R' d' v' L1'-> ∃L',L'.Perm (L1'++L2)/\gX R' (ds.set i d') (vs.set i v') L'
 |d::ds,_,_,0,_,⟨v,r,L1,L2,e1,o1,o2,e2⟩,e=>by
  subst e1;subst e2
  cases e
  exact⟨v,L1,L2,rfl,o1,.refl _,fun R' d' v' L1' hm o=>⟨L1'++L2,.refl _,v',r,L1',L2,rfl,o,gX.mono (P:=fun p=>p∈L2) hm ds r L2 (fun _ h=>h) o2,rfl⟩⟩
 |d::ds,_,_,i+1,d0,⟨v,r,L1,L2,e1,o1,o2,e2⟩,e=>by
  subst e1;subst e2
  obtain⟨v1,M1,M2,g1,g2,pm,f⟩:=gX.item (i:=i) (d:=d0) o2 (by simpa using e)
  refine⟨v1,M1,L1++M2,by simpa using g1,g2,(List.Perm.append_left L1 pm).trans (dM L1 M1 M2),fun R' d' v' L1' hm o=> ?_⟩
  obtain⟨L',pm',o'⟩:=f R' d' v' L1' (fun d v M hM=>hm d v M fun p hp=>List.mem_append_right _ (hM p hp)) o
  exact⟨L1++L',(List.Perm.append_left L1 pm').trans (dM L1 L1' M2),v,r.set i v',L1,L',rfl,hm _ _ _ (fun p hp=>List.mem_append_left _ hp) o1,o',rfl⟩
 | [],_,_,_,_,_,e=>by simp at e
theorem b9.item {κ:Type} [DecidableEq κ] {R:D->V->List Addr->Prop}: ∀{ds:List (κ×D)} {vs:List (κ×V)} {L:List Addr} {k:κ} {d:D},b9 R ds vs L->aC ds k=some d→
  ∃v L1 L2,aC vs k=some v/\R d v L1/\L.Perm (L1++L2)∧
   ∀(R':D->V->List Addr->Prop) d' v' L1',(∀d v M,(∀p∈M,p∈L2)->R d v M->R' d v M)->R' d' v' L1'-> ∃L',L'.Perm (L1'++L2)/\b9 R' (aM ds k d') (aM vs k v') L'
 |(k0,d)::ds,_,_,k,d0,⟨v,r,L1,L2,e1,o1,o2,e2⟩,e=>by
  subst e1;subst e2
  rw[aZ] at e
  by_cases hk:k0=k
  ·subst hk
   simp only[if_true] at e
   cases e
   refine⟨v,L1,L2,(aZ _ _ _).trans (if_pos rfl),o1,.refl _,fun R' d' v' L1' hm o=>⟨L1'++L2,.refl _,?_⟩⟩
   unfold aM
   rw[if_pos rfl,if_pos rfl]
   exact⟨v',r,L1',L2,rfl,o,b9.mono (P:=fun p=>p∈L2) hm ds r L2 (fun _ h=>h) o2,rfl⟩
  ·simp only[hk,if_false] at e
   obtain⟨v1,M1,M2,g1,g2,pm,f⟩:=b9.item (k:=k) (d:=d0) o2 e
   refine⟨v1,M1,L1++M2,(aZ _ _ _).trans ((if_neg hk).trans g1),g2,(List.Perm.append_left L1 pm).trans (dM L1 M1 M2),fun R' d' v' L1' hm o=> ?_⟩
   obtain⟨L',pm',o'⟩:=f R' d' v' L1' (fun d v M hM=>hm d v M fun p hp=>List.mem_append_right _ (hM p hp)) o
   refine⟨L1++L',(List.Perm.append_left L1 pm').trans (dM L1 L1' M2),?_⟩
   unfold aM
   rw[if_neg hk,if_neg hk]
   exact⟨v,aM r k v',L1,L',rfl,hm _ _ _ (fun p hp=>List.mem_append_left _ hp) o1,o',rfl⟩
 | [],_,_,_,_,_,e=>by cases e
theorem b9.new {κ:Type} [DecidableEq κ] {R R':D->V->List Addr->Prop}: ∀{ds:List (κ×D)} {vs:List (κ×V)} {L:List Addr} {k:κ} {d':D} {v':V} {L1':List Addr},b9 R ds vs L->aC ds k=none→
  (∀d v M,(∀p∈M,p∈L)->R d v M->R' d v M)->R' d' v' L1'-> ∃L',L'.Perm (L1'++L)/\b9 R' (aM ds k d') (aM vs k v') L'
 | [],_,_,k,d',v',L1',o,_,hm,o'=>by
  rw[o.1,o.2]
  exact⟨L1'++[],.refl _,v',[],L1',[],rfl,o',⟨rfl,rfl⟩,rfl⟩
 |(k0,d)::ds,_,_,k,d',v',L1',⟨v,r,L1,L2,e1,o1,o2,e2⟩,e,hm,o'=>by
  subst e1;subst e2
  rw[aZ] at e
  by_cases hk:k0=k
  ·simp[hk] at e
  ·simp only[hk,if_false] at e
   obtain⟨L',pm',o''⟩:=b9.new (L1':=L1') o2 e (fun d v M hM=>hm d v M fun p hp=>List.mem_append_right _ (hM p hp)) o'
   refine⟨L1++L',(List.Perm.append_left L1 pm').trans (dM L1 L1' L2),?_⟩
   unfold aM
   rw[if_neg hk,if_neg hk]
   exact⟨v,aM r k v',L1,L',rfl,hm _ _ _ (fun p hp=>List.mem_append_left _ hp) o1,o'',rfl⟩
theorem b9.drop {κ:Type} [DecidableEq κ] {R:D->V->List Addr->Prop} (k:κ): ∀{ds:List (κ×D)} {vs:List (κ×V)} {L:List Addr},b9 R ds vs L-> ∃L',L'.Sublist L/\b9 R (gW ds k) (gW vs k) L'
 | [],_,_,o=>by
  rw[o.1,o.2]
  exact⟨[],List.Sublist.refl _,rfl,rfl⟩
 |(k0,d)::ds,_,_,⟨v,r,L1,L2,e1,o1,o2,e2⟩=>by
  subst e1;subst e2
  obtain⟨L',s,o'⟩:=b9.drop k o2
  by_cases hk:k0=k
  ·refine⟨L',s.trans (List.sublist_append_right _ _),?_⟩
   unfold gW at o'⊢
   rw[List.filter_cons_of_neg (by simp[hk]),List.filter_cons_of_neg (by simp[hk])]
   exact o'
  ·refine⟨L1++L',List.Sublist.append (List.Sublist.refl _) s,?_⟩
   unfold gW at o'⊢
   rw[List.filter_cons_of_pos (by simp[hk]),List.filter_cons_of_pos (by simp[hk])]
   exact⟨v,_,L1,L',rfl,o1,o',rfl⟩
theorem b9.keys {κ:Type} {R:D->V->List Addr->Prop}: ∀{ds:List (κ×D)} {vs:List (κ×V)} {L:List Addr},b9 R ds vs L->vs.map (·.1)=ds.map (·.1)
 | [],_,_,o=>by rw[o.1];rfl
 |(k,d)::ds,_,_,⟨v,r,L1,L2,e1,o1,o2,e2⟩=>by
  subst e1
  rw[List.map_cons,List.map_cons,b9.keys o2]
theorem gX.length {R:D->V->List Addr->Prop}: ∀{ds:List D} {vs:List V} {L:List Addr},gX R ds vs L->vs.length=ds.length
 | [],_,_,o=>by rw[o.1];rfl
 |d::ds,_,_,⟨v,r,L1,L2,e1,o1,o2,e2⟩=>by
  subst e1
  rw[List.length_cons,List.length_cons,gX.length o2]
theorem dJ.item: ∀{fs:List (Str×Sh)} {ds:List (Str×D)} {vs:List (Str×V)} {L:List Addr} {f:Str} {s:Sh} {d:D},dJ K G H fs ds vs L->fs.lookup f=some s->ds.lookup f=some d→
  ∃v L1 L2,vs.lookup f=some v/\Own K G H s d v L1/\L.Perm (L1++L2)∧
   ∀(G':Sa) (H':Hp) d' L1',(∀p,G p->G' p)->Agr G H H'->(∀p∈L2,H' p=H p)->Own K G' H' s d' v L1'-> ∃L',L'.Perm (L1'++L2)/\dJ K G' H' fs (sV f d' ds) vs L'
 |(g,s0)::fs,ds,vs,L,f,s,d,o,e,e'=>by
  unfold dJ at o
  obtain⟨d1,dr,v,vr,L1,L2,rfl,rfl,o1,o2,rfl⟩:=o
  by_cases hf:f=g
  ·subst hf
   simp[List.lookup_cons] at e e'
   subst e;subst e'
   refine⟨v,L1,L2,by simp[List.lookup_cons],o1,.refl _,fun G' H' d' L1' hG ha hl o=>⟨L1'++L2,.refl _,?_⟩⟩
   unfold dJ sV
   simp only[if_true]
   exact⟨d',dr,v,vr,L1',L2,rfl,rfl,o,dJ.mono hG ha fs dr vr L2 hl o2,rfl⟩
  ·have hb:(f==g)=false:=by simp[hf]
   simp only[List.lookup_cons,hb] at e e'
   obtain⟨v1,M1,M2,g1,g2,pm,f'⟩:=dJ.item o2 e e'
   refine⟨v1,M1,L1++M2,by simp only[List.lookup_cons,hb];exact g1,g2,(List.Perm.append_left L1 pm).trans (dM L1 M1 M2),fun G' H' d' L1' hG ha hl o=> ?_⟩
   obtain⟨L',pm',o'⟩:=f' G' H' d' L1' hG ha (fun p hp=>hl p (List.mem_append_right _ hp)) o
   refine⟨L1++L',(List.Perm.append_left L1 pm').trans (dM L1 L1' M2),?_⟩
   unfold dJ sV
   simp only[show ¬g=f from fun q=>hf q.symm,if_false]
   exact⟨d1,sV f d' dr,v,vr,L1,L',rfl,rfl,Own.mono hG ha s0 d1 v L1 (fun p hp=>hl p (List.mem_append_left _ hp)) o1,o',rfl⟩
 | [],_,_,_,_,_,_,_,e,_=>by cases e
theorem fO.item: ∀{ss:List Sh} {ds:List D} {vs:List V} {L:List Addr} {i:Nat} {s:Sh} {d:D},fO K G H ss ds vs L->ss[i]? =some s->ds[i]? =some d→
  ∃v L1 L2,vs[i]? =some v/\Own K G H s d v L1/\L.Perm (L1++L2)∧
   ∀(G':Sa) (H':Hp) d' L1',(∀p,G p->G' p)->Agr G H H'->(∀p∈L2,H' p=H p)->Own K G' H' s d' v L1'-> ∃L',L'.Perm (L1'++L2)/\fO K G' H' ss (ds.set i d') vs L'
 |s0::ss,ds,vs,L,0,s,d,o,e,e'=>by
  unfold fO at o
  obtain⟨d1,dr,v,vr,L1,L2,rfl,rfl,o1,o2,rfl⟩:=o
  simp only[List.getElem?_cons_zero] at e e'
  cases e;cases e'
  refine⟨v,L1,L2,rfl,o1,.refl _,fun G' H' d' L1' hG ha hl o=>⟨L1'++L2,.refl _,?_⟩⟩
  unfold fO
  exact⟨d',dr,v,vr,L1',L2,rfl,rfl,o,fO.mono hG ha ss dr vr L2 hl o2,rfl⟩
 |s0::ss,ds,vs,L,i+1,s,d,o,e,e'=>by
  unfold fO at o
  obtain⟨d1,dr,v,vr,L1,L2,rfl,rfl,o1,o2,rfl⟩:=o
  simp only[List.getElem?_cons_succ] at e e'
  obtain⟨v1,M1,M2,g1,g2,pm,f'⟩:=fO.item o2 e e'
  refine⟨v1,M1,L1++M2,by simpa using g1,g2,(List.Perm.append_left L1 pm).trans (dM L1 M1 M2),fun G' H' d' L1' hG ha hl o=> ?_⟩
  obtain⟨L',pm',o'⟩:=f' G' H' d' L1' hG ha (fun p hp=>hl p (List.mem_append_right _ hp)) o
  refine⟨L1++L',(List.Perm.append_left L1 pm').trans (dM L1 L1' M2),?_⟩
  rw[List.set_cons_succ]
  unfold fO
  exact⟨d1,dr.set i d',v,vr,L1,L',rfl,rfl,Own.mono hG ha s0 d1 v L1 (fun p hp=>hl p (List.mem_append_left _ hp)) o1,o',rfl⟩
 | [],_,_,_,_,_,_,_,e,_=>by simp at e
theorem oK {α:Type} {a:α} {L4 L3 M2 L1 N2:List α} (p4:L4.Perm (L3++M2)) (p3:L3.Perm (L1++N2)):(a::L4).Perm (L1++a::(N2++M2)):=by
 have h:L4.Perm (L1++(N2++M2)):=by
  have:=p4.trans (p3.append_right M2)
  rwa[List.append_assoc] at this
 exact (h.cons a).trans (dM [a] L1 (N2++M2))
theorem Own.place: ∀{s:Sh} {d:D} {v:V} {L:List Addr} (q:List Stp) {s':Sh} {d':D},Own K G H s d v L->shP s q=some s'->fQ d q=some d'→
  ∃v' L1 L2,AtP H v q v'/\Own K G H s' d' v' L1/\L.Perm (L1++L2)∧
   ∀(G':Sa) (H':Hp) d'' L1',(∀p,G p->G' p)->Agr G H H'->(∀p∈L2,H' p=H p)->Own K G' H' s' d'' v' L1'-> ∃L',L'.Perm (L1'++L2)/\Own K G' H' s (cE d q d'') v L'
 |s,d,v,L,[],s',d',o,hs,hd=>by
  cases hs;cases hd
  exact⟨v,L,[],rfl,o,by rw[List.append_nil],fun G' H' d'' L1' _ _ _ o'=>⟨L1',by rw[List.append_nil],by unfold cE;exact o'⟩⟩
 | .ls s,d,v,L,.ix i::q,s',d',o,hs,hd=>by
  unfold Own at o
  obtain⟨a,vs,ds,L',rfl,rfl,e3,o1,rfl⟩:=o
  unfold shP at hs
  unfold fQ at hd
  cases hi:ds[i]? with
  |none=>rw[hi] at hd;cases hd
  |some x=>
   rw[hi] at hd
   obtain⟨w,M1,M2,g1,g2,pm,f⟩:=gX.item o1 hi
   obtain⟨v',N1,N2,h1,h2,pn,f2⟩:=Own.place q g2 hs hd
   refine⟨v',N1,a::(N2++M2),⟨a,vs,w,rfl,e3,g1,h1⟩,h2,?_,fun G' H' d'' L1' hG ha hl o'=> ?_⟩
   ·exact oK pm pn
   ·obtain⟨L3,p3,o3⟩:=f2 G' H' d'' L1' hG ha (fun p hp=>hl p (List.mem_cons_of_mem _ (List.mem_append_left _ hp))) o'
    obtain⟨L4,p4,o4⟩:=f (Own K G' H' s) (cE x q d'') w L3 (fun d v M hM o=>Own.mono hG ha s d v M (fun p hp=>hl p (List.mem_cons_of_mem _ (List.mem_append_right _ (hM p hp)))) o) o3
    rw[fP g1] at o4
    refine⟨a::L4,oK p4 p3,?_⟩
    unfold cE
    simp only[hi]
    unfold Own
    exact⟨a,vs,_,L4,rfl,rfl,(hl a List.mem_cons_self).trans e3,o4,rfl⟩
 | .dc s,d,v,L,.ky k::q,s',d',o,hs,hd=>by
  unfold Own at o
  obtain⟨a,vs,ds,L',rfl,rfl,e3,nd,o1,rfl⟩:=o
  unfold shP at hs
  unfold fQ at hd
  cases hi:aC ds k with
  |none=>rw[hi] at hd;cases hd
  |some x=>
   rw[hi] at hd
   obtain⟨w,M1,M2,g1,g2,pm,f⟩:=b9.item o1 hi
   obtain⟨v',N1,N2,h1,h2,pn,f2⟩:=Own.place q g2 hs hd
   refine⟨v',N1,a::(N2++M2),⟨a,vs,w,rfl,.inl e3,g1,h1⟩,h2,?_,fun G' H' d'' L1' hG ha hl o'=> ?_⟩
   ·exact oK pm pn
   ·obtain⟨L3,p3,o3⟩:=f2 G' H' d'' L1' hG ha (fun p hp=>hl p (List.mem_cons_of_mem _ (List.mem_append_left _ hp))) o'
    obtain⟨L4,p4,o4⟩:=f (Own K G' H' s) (cE x q d'') w L3 (fun d v M hM o=>Own.mono hG ha s d v M (fun p hp=>hl p (List.mem_cons_of_mem _ (List.mem_append_right _ (hM p hp)))) o) o3
    rw[pW g1] at o4
    refine⟨a::L4,oK p4 p3,?_⟩
    unfold cE
    simp only[hi]
    unfold Own
    exact⟨a,vs,_,L4,rfl,rfl,(hl a List.mem_cons_self).trans e3,fN nd,o4,rfl⟩
 | .dk od vs s,d,v,L,.ky k::q,s',d',o,hs,hd=>by
  unfold Own at o
  obtain⟨a,ds,L',rfl,rfl,e3,nd,o1,rfl⟩:=o
  unfold shP at hs
  unfold fQ at hd
  cases hi:aC ds k with
  |none=>rw[hi] at hd;cases hd
  |some x=>
   rw[hi] at hd
   obtain⟨w,M1,M2,g1,g2,pm,f⟩:=b9.item o1 hi
   obtain⟨v',N1,N2,h1,h2,pn,f2⟩:=Own.place q g2 hs hd
   refine⟨v',N1,a::(N2++M2),⟨a,vs,w,rfl,.inr ⟨od,e3⟩,g1,h1⟩,h2,?_,fun G' H' d'' L1' hG ha hl o'=> ?_⟩
   ·exact oK pm pn
   ·obtain⟨L3,p3,o3⟩:=f2 G' H' d'' L1' hG ha (fun p hp=>hl p (List.mem_cons_of_mem _ (List.mem_append_left _ hp))) o'
    obtain⟨L4,p4,o4⟩:=f (Own K G' H' s) (cE x q d'') w L3 (fun d v M hM o=>Own.mono hG ha s d v M (fun p hp=>hl p (List.mem_cons_of_mem _ (List.mem_append_right _ (hM p hp)))) o) o3
    rw[pW g1] at o4
    refine⟨a::L4,oK p4 p3,?_⟩
    unfold cE
    simp only[hi]
    unfold Own
    exact⟨a,_,L4,rfl,rfl,(hl a List.mem_cons_self).trans e3,fN nd,o4,rfl⟩
 | .dt s,d,v,L,.kt k::q,s',d',o,hs,hd=>by
  unfold Own at o
  obtain⟨a,vs,ds,L',rfl,rfl,e3,nd,o1,rfl⟩:=o
  unfold shP at hs
  unfold fQ at hd
  cases hi:aC ds k with
  |none=>rw[hi] at hd;cases hd
  |some x=>
   rw[hi] at hd
   obtain⟨w,M1,M2,g1,g2,pm,f⟩:=b9.item o1 hi
   obtain⟨v',N1,N2,h1,h2,pn,f2⟩:=Own.place q g2 hs hd
   refine⟨v',N1,a::(N2++M2),⟨a,vs,w,rfl,e3,g1,h1⟩,h2,?_,fun G' H' d'' L1' hG ha hl o'=> ?_⟩
   ·exact oK pm pn
   ·obtain⟨L3,p3,o3⟩:=f2 G' H' d'' L1' hG ha (fun p hp=>hl p (List.mem_cons_of_mem _ (List.mem_append_left _ hp))) o'
    obtain⟨L4,p4,o4⟩:=f (Own K G' H' s) (cE x q d'') w L3 (fun d v M hM o=>Own.mono hG ha s d v M (fun p hp=>hl p (List.mem_cons_of_mem _ (List.mem_append_right _ (hM p hp)))) o) o3
    rw[pW g1] at o4
    refine⟨a::L4,oK p4 p3,?_⟩
    unfold cE
    simp only[hi]
    unfold Own
    exact⟨a,vs,_,L4,rfl,rfl,(hl a List.mem_cons_self).trans e3,fN nd,o4,rfl⟩
 | .is fs,d,v,L,.fd k::q,s',d',o,hs,hd=>by
  unfold Own at o
  obtain⟨a,C,dx,vs,ds,L',rfl,rfl,e3,o1,rfl⟩:=o
  unfold shP at hs
  unfold fQ at hd
  cases hi:ds.lookup k with
  |none=>rw[hi] at hd;cases hd
  |some x=>
   cases hj:fs.lookup k with
   |none=>rw[hj] at hs;cases hs
   |some s1=>
    rw[hi] at hd
    rw[hj] at hs
    obtain⟨w,M1,M2,g1,g2,pm,f⟩:=dJ.item o1 hj hi
    obtain⟨v',N1,N2,h1,h2,pn,f2⟩:=Own.place q g2 hs hd
    refine⟨v',N1,a::(N2++M2),⟨a,_,dx,vs,w,rfl,e3,g1,h1⟩,h2,?_,fun G' H' d'' L1' hG ha hl o'=> ?_⟩
    ·exact oK pm pn
    ·obtain⟨L3,p3,o3⟩:=f2 G' H' d'' L1' hG ha (fun p hp=>hl p (List.mem_cons_of_mem _ (List.mem_append_left _ hp))) o'
     obtain⟨L4,p4,o4⟩:=f G' H' (cE x q d'') L3 hG ha (fun p hp=>hl p (List.mem_cons_of_mem _ (List.mem_append_right _ hp))) o3
     refine⟨a::L4,oK p4 p3,?_⟩
     unfold cE
     simp only[hi]
     unfold Own
     exact⟨a,C,dx,vs,_,L4,rfl,rfl,(hl a List.mem_cons_self).trans e3,o4,rfl⟩
 | .hl ss,d,v,L,.ix i::q,s',d',o,hs,hd=>by
  unfold Own at o
  obtain⟨a,vs,ds,L',rfl,rfl,e3,o1,rfl⟩:=o
  unfold shP at hs
  unfold fQ at hd
  cases hi:ds[i]? with
  |none=>rw[hi] at hd;cases hd
  |some x=>
   cases hj:ss[i]? with
   |none=>rw[hj] at hs;cases hs
   |some s1=>
    rw[hi] at hd
    rw[hj] at hs
    obtain⟨w,M1,M2,g1,g2,pm,f⟩:=fO.item o1 hj hi
    obtain⟨v',N1,N2,h1,h2,pn,f2⟩:=Own.place q g2 hs hd
    refine⟨v',N1,a::(N2++M2),⟨a,vs,w,rfl,e3,g1,h1⟩,h2,?_,fun G' H' d'' L1' hG ha hl o'=> ?_⟩
    ·exact oK pm pn
    ·obtain⟨L3,p3,o3⟩:=f2 G' H' d'' L1' hG ha (fun p hp=>hl p (List.mem_cons_of_mem _ (List.mem_append_left _ hp))) o'
     obtain⟨L4,p4,o4⟩:=f G' H' (cE x q d'') L3 hG ha (fun p hp=>hl p (List.mem_cons_of_mem _ (List.mem_append_right _ hp))) o3
     refine⟨a::L4,oK p4 p3,?_⟩
     unfold cE
     simp only[hi]
     unfold Own
     exact⟨a,vs,_,L4,rfl,rfl,(hl a List.mem_cons_self).trans e3,o4,rfl⟩
 | .hl s,d,v,L,.ky k::q,s',d',o,hs,hd=>by simp[shP] at hs
 | .hl s,d,v,L,.kt k::q,s',d',o,hs,hd=>by simp[shP] at hs
 | .hl s,d,v,L,.fd k::q,s',d',o,hs,hd=>by simp[shP] at hs
 | .fz,d,v,L,x::q,s',d',o,hs,hd=>by cases x <;> simp[shP] at hs
 | .ls s,d,v,L,.ky k::q,s',d',o,hs,hd=>by simp[shP] at hs
 | .ls s,d,v,L,.kt k::q,s',d',o,hs,hd=>by simp[shP] at hs
 | .ls s,d,v,L,.fd k::q,s',d',o,hs,hd=>by simp[shP] at hs
 | .dc s,d,v,L,.ix k::q,s',d',o,hs,hd=>by simp[shP] at hs
 | .dc s,d,v,L,.kt k::q,s',d',o,hs,hd=>by simp[shP] at hs
 | .dc s,d,v,L,.fd k::q,s',d',o,hs,hd=>by simp[shP] at hs
 | .dt s,d,v,L,.ix k::q,s',d',o,hs,hd=>by simp[shP] at hs
 | .dt s,d,v,L,.ky k::q,s',d',o,hs,hd=>by simp[shP] at hs
 | .dt s,d,v,L,.fd k::q,s',d',o,hs,hd=>by simp[shP] at hs
 | .is s,d,v,L,.ix k::q,s',d',o,hs,hd=>by simp[shP] at hs
 | .is s,d,v,L,.ky k::q,s',d',o,hs,hd=>by simp[shP] at hs
 | .is s,d,v,L,.kt k::q,s',d',o,hs,hd=>by simp[shP] at hs
 | .dk _ _ s,d,v,L,.ix k::q,s',d',o,hs,hd=>by simp[shP] at hs
 | .dk _ _ s,d,v,L,.kt k::q,s',d',o,hs,hd=>by simp[shP] at hs
 | .dk _ _ s,d,v,L,.fd k::q,s',d',o,hs,hd=>by simp[shP] at hs
 | .lz,d,v,L,x::q,s',d',o,hs,hd=>by cases x <;> simp[shP] at hs
 | .op _,d,v,L,x::q,s',d',o,hs,hd=>by cases x <;> simp[shP] at hs
 | .tp _,d,v,L,x::q,s',d',o,hs,hd=>by cases x <;> simp[shP] at hs
 | .tq _,d,v,L,x::q,s',d',o,hs,hd=>by cases x <;> simp[shP] at hs
 | .ex _,d,v,L,x::q,s',d',o,hs,hd=>by cases x <;> simp[shP] at hs
termination_by _ _ _ _ q=>q.length
end
end Sw
namespace Sw
open PySem PySem.Spec PyProof.Rows L2
variable [NmC]
inductive Rg where
 |hb|bb|fz
inductive VM where
 |rg (r:Rg)|nw (s:Sh)|sp (r:Rg)
def rgn (O:Org) (G:Sa):Rg->Sa
 | .hb=>fun _=>True
 | .bb=>O.B
 | .fz=>G
def bD (K:Frg) (O:Org) (H H':Hp) (G':Sa):VM->D->V->Prop
 | .rg r,d,v=>Rep K (rgn O G' r) H' d v
 | .nw s,d,v=> ∃L,L.Nodup/\(∀p∈L,H p=none/\ ¬G' p)/\Own K G' H' s d v L
 | .sp r,d,v=>Spn K (rgn O G' r) G' H' d v
def rdE (K:Frg) (Δ:List Md) (st:Ds) (m:VM) (r:Option D):TE:=fun σ H Q=>
 ∃O G d,Rel K O Δ st σ H G/\r=some d/\ ∀v H' G',Ext H G H' G'->bD K O H H' G' m d v->Q v H'
def rdT (K:Frg) (Δ:List Md) (st:Ds) (r:Option Bool):TT:=fun σ H Q=>
 ∃O G b,Rel K O Δ st σ H G/\r=some b/\ ∀H' G',Ext H G H' G'->Q b H'
def lB (K:Frg) (O:Org) (H H':Hp) (G':Sa):List VM->List D->List V->Prop
 | [],[],vs=>vs=[]
 |m::ms,d::ds,vs=> ∃v r,vs=v::r/\bD K O H H' G' m d v/\lB K O H H' G' ms ds r
 |_,_,_=>False
def rdA (K:Frg) (Δ:List Md) (st:Ds) (ms:List VM) (r:Option (List D)):TA:=fun σ H Q=>
 ∃O G ds,Rel K O Δ st σ H G/\r=some ds/\ ∀vs H' G',Ext H G H' G'->lB K O H H' G' ms ds vs->Q vs H'
abbrev PX (X:Cx) (Δ:List Md) (st:Ds) (e:Expr) (m:VM) (r:Option D):Prop:=PE X e (rdE X.K Δ st m r)
abbrev PTx (X:Cx) (Δ:List Md) (st:Ds) (e:Expr) (r:Option Bool):Prop:=PT X e (rdT X.K Δ st r)
abbrev PWx (X:Cx) (Δ:List Md) (st:Ds) (e:Expr) (r:Option Bool):Prop:=PW X e (rdT X.K Δ st r)
abbrev PAx (X:Cx) (Δ:List Md) (st:Ds) (es:List Expr) (ms:List VM) (r:Option (List D)):Prop:=PA X es (rdA X.K Δ st ms r)
section
variable {X:Cx} {e:Expr} {es:List Expr} {t t':TE} {pos:Pos}
theorem cg (h:PE X e t) (i: ∀σ H Q,t' σ H Q->t σ H Q):PE X e t':=⟨fun pins s σ H Q I q=>h.run pins s σ H Q I (i σ H Q q)⟩
theorem CM {t t':TT} (h:PT X e t) (i: ∀σ H Q,t' σ H Q->t σ H Q):PT X e t':=⟨fun pins s σ H Q I q=>h.run pins s σ H Q I (i σ H Q q)⟩
theorem Kg {t t':TT} (h:PW X e t) (i: ∀σ H Q,t' σ H Q->t σ H Q):PW X e t':=⟨fun w pins s σ H Q I q=>h.run w pins s σ H Q I (i σ H Q q)⟩
theorem Kh {t t':TA} (h:PA X es t) (i: ∀σ H Q,t' σ H Q->t σ H Q):PA X es t':=⟨fun pos pins s σ H Q I q=>h.run pos pins s σ H Q I (i σ H Q q)⟩
theorem ia {t t':TS} {st:List Stmt} (h:PSs X st t) (i: ∀D σ H,t' D σ H->t D σ H):PSs X st t':=⟨fun pins s σ H D I q=>h.run pins s σ H D I (i D σ H q)⟩
end
section
variable {K:Frg} {O:Org} {H H1 H2:Hp} {G G1 G2:Sa} {Δ:List Md} {st:Ds} {σ:CS}
theorem bD.mono {m:VM} {d:D} {v:V} (h:bD K O H H1 G1 m d v) (e:Ext H1 G1 H2 G2):bD K O H H2 G2 m d v:=by
 cases m with
 |rg r=>
  cases r with
  |hb=>exact Rep.mono (fun _ g=>g) e.agr d v h
  |bb=>exact Rep.mono (fun _ g=>g) e.agr d v h
  |fz=>exact Rep.mono e.gg e.agr d v h
 |nw s=>
  obtain⟨L,nd,f,o⟩:=h
  have hk:=Own.kind s d v L o
  refine⟨L,nd,fun p m=>⟨(f p m).1,fun g=> ?_⟩,Own.mono e.gg e.agr s d v L (fun p m=>e.vp (hk p m)) o⟩
  rcases e.gn p g with g|⟨n,_⟩|⟨xs,t⟩
  ·exact (f p m).2 g
  ·exact (hk p m).ne n
  ·exact (hk p m).E9 t
 |sp r=>
  cases r with
  |hb=>exact Spn.mono (fun _ g=>g) e.gg e.agr e.agr h
  |bb=>exact Spn.mono (fun _ g=>g) e.gg e.agr e.agr h
  |fz=>exact Spn.mono e.gg e.gg e.agr e.agr h
theorem Ext.back (e:Ext H G H1 G1) {p:Addr} (h:H1 p=none):H p=none:=e.bk h
theorem bD.back {m:VM} {d:D} {v:V} (e:Ext H G H1 G1) (h:bD K O H1 H2 G2 m d v):bD K O H H2 G2 m d v:=by
 cases m with
 |rg r=>exact h
 |nw s=>
  obtain⟨L,nd,f,o⟩:=h
  exact⟨L,nd,fun p m=>⟨e.back (f p m).1,(f p m).2⟩,o⟩
 |sp r=>exact h
theorem lB.back: ∀{ms:List VM} {ds:List D} {vs:List V},Ext H G H1 G1->lB K O H1 H2 G2 ms ds vs->lB K O H H2 G2 ms ds vs
 | [],[],_,_,h=>h
 |m::ms,d::ds,_,e,⟨v,r,e1,h1,h2⟩=>⟨v,r,e1,h1.back e,lB.back e h2⟩
 | [],_::_,_,_,h=>h.elim
 |_::_,[],_,_,h=>h.elim
theorem rdE.go {m:VM} {r:Option D} {d:D} {Q:VK} (rel:Rel K O Δ st σ H G) (e:r=some d) (k: ∀v H' G',Rel K O Δ st σ H' G'->Ext H G H' G'->bD K O H H' G' m d v->Q v H'):rdE K Δ st m r σ H Q:=
 ⟨O,G,d,rel,e,fun v H' G' x h=>k v H' G' (rel.ext x) x h⟩
theorem rdT.go {r:Option Bool} {b:Bool} {Q:Bool->Hp->Prop} (rel:Rel K O Δ st σ H G) (e:r=some b) (k: ∀H' G',Rel K O Δ st σ H' G'->Ext H G H' G'->Q b H'):rdT K Δ st r σ H Q:=
 ⟨O,G,b,rel,e,fun H' G' x=>k H' G' (rel.ext x) x⟩
theorem rdA.go {ms:List VM} {r:Option (List D)} {d:List D} {Q:List V->Hp->Prop} (rel:Rel K O Δ st σ H G) (e:r=some d) (k: ∀v H' G',Rel K O Δ st σ H' G'->Ext H G H' G'->lB K O H H' G' ms d v->Q v H'):rdA K Δ st ms r σ H Q:=
 ⟨O,G,d,rel,e,fun v H' G' x h=>k v H' G' (rel.ext x) x h⟩
theorem bD.hb {m:VM} {d:D} {v:V} (h:bD K O H H1 G1 m d v):Rep K (fun _=>True) H1 d v:=by
 cases m with
 |rg r=>exact Rep.mono (fun _ _=>trivial) aB d v h
 |nw s=>
  obtain⟨L,nd,f,o⟩:=h
  exact Rep.mono (fun _ _=>trivial) aB d v (Own.rep s d v L o)
 |sp r=>exact Spn.rep h
theorem cj {α β γ:Type} {a:Option α} {b:Option β} {f:α->β->Option γ} {d:γ} (h:(a.bind fun x=>b.bind fun y=>f x y)=some d): ∃x y,a=some x/\b=some y/\f x y=some d:=by
 cases a with
 |none=>cases h
 |some x=>
  cases b with
  |none=>cases h
  |some y=>exact⟨x,y,rfl,rfl,h⟩
theorem bind1 {α γ:Type} {a:Option α} {f:α->Option γ} {d:γ} (h:a.bind f=some d): ∃x,a=some x/\f x=some d:=by
 cases a with
 |none=>cases h
 |some x=>exact⟨x,rfl,h⟩
end
mutual
def D.ev:D->Bool
 | .non=>true| .bl _=>true| .int _=>true| .str _=>true| .fn _=>true| .glf _=>true
 | .tup ds=>D.evs ds
 |_=>false
def D.evs:List D->Bool
 | []=>true
 |d::ds=>D.ev d&&D.evs ds
end
def D.et (d:D):Option D:=if d.ev=true then some d else none
section
variable {K:Frg} {S G:Sa} {H:Hp}
mutual
theorem Rep.et: ∀(d:D) (v:V),d.ev=true->Rep K S H d v-> ∃N:Sa,(∀p,N p-> ∃xs,H p=some (.tup xs))/\Rep K (fun p=>G p\/N p) H d v
 | .non,v,_,h=>⟨fun _=>False,fun _ f=>f.elim,h⟩
 | .bl _,v,_,h=>⟨fun _=>False,fun _ f=>f.elim,h⟩
 | .int _,v,_,h=>⟨fun _=>False,fun _ f=>f.elim,h⟩
 | .str _,v,_,h=>⟨fun _=>False,fun _ f=>f.elim,h⟩
 | .fn _,v,_,h=>⟨fun _=>False,fun _ f=>f.elim,h⟩
 | .glf _,v,_,h=>⟨fun _=>False,fun _ f=>f.elim,h⟩
 | .tup ds,v,he,h=>by
  unfold Rep at h
  unfold D.ev at he
  obtain⟨a,vs,e,l,r⟩:=h
  obtain⟨N,hN,g⟩:=aD.et ds vs he r
  refine⟨fun p=>N p\/(p=a/\H a=some (.tup vs)),fun p hp=> ?_,?_⟩
  ·rcases hp with hp|⟨rfl,hp⟩
   ·exact hN p hp
   ·exact⟨_,hp⟩
  ·unfold Rep
   exact⟨a,vs,e,⟨.inr (.inr ⟨rfl,l.2⟩),l.2⟩,aD.mono (fun p x=>x.imp id .inl) aB ds vs g⟩
 | .lst _,v,he,h=>by simp[D.ev] at he
 | .dct _,v,he,h=>by simp[D.ev] at he
 | .dcT _,v,he,h=>by simp[D.ev] at he
 | .ins _ _,v,he,h=>by simp[D.ev] at he
 | .sc _,v,he,h=>by simp[D.ev] at he
theorem aD.et: ∀(ds:List D) (vs:List V),D.evs ds=true->aD K S H ds vs-> ∃N:Sa,(∀p,N p-> ∃xs,H p=some (.tup xs))/\aD K (fun p=>G p\/N p) H ds vs
 | [],vs,_,h=>by unfold aD at h;rw[h];exact⟨fun _=>False,fun _ f=>f.elim,.nil⟩
 |d::ds,vs,he,h=>by
  unfold aD at h
  unfold D.evs at he
  rw[Bool.and_eq_true] at he
  obtain⟨v,r,e,h1,h2⟩:=h
  obtain⟨N1,hN1,g1⟩:=Rep.et d v he.1 h1
  obtain⟨N2,hN2,g2⟩:=aD.et ds r he.2 h2
  subst e
  refine⟨fun p=>N1 p\/N2 p,fun p hp=>hp.elim (hN1 p) (hN2 p),.cons (Rep.mono (fun p x=>x.imp id .inl) aB d v g1) (aD.mono (fun p x=>x.imp id .inr) aB ds r g2)⟩
end
end
section
variable {X:Cx} {Δ:List Md} {st:Ds} {e:Expr} {m:VM} {r:Option D}
theorem cW {s:Sh} (h:PX X Δ st e (.nw s) r):PX X Δ st e (.rg .fz) r:=cg h fun σ H Q ⟨O,G,d,rel,er,k⟩=>⟨O,G,d,rel,er,fun v H' G' x ⟨L,nd,f,o⟩=>by
 refine k v H' (fun p=>G' p\/p∈L) (x.re (fun p g=>.inl (x.gg p g)) fun p g=> ?_) (Own.rep s d v L o)
 rcases g with g|g
 ·exact x.gn p g
 ·exact .inr (.inl ⟨(f p g).1,(Own.kind s d v L o p g).ne⟩)⟩
theorem ak {i:Int} {j pos} {rg:Rg}:PX X Δ st (.Constant (.int i) j pos) (.rg rg) (some (.int i)):=cg pe_int fun σ H Q ⟨O,G,d,rel,er,k⟩=>by
 cases er;exact k _ H G .refl (by unfold bD Rep;rfl)
theorem aS {i:Str} {j pos} {rg:Rg}:PX X Δ st (.Constant (.str i) j pos) (.rg rg) (some (.str i)):=cg pe_str fun σ H Q ⟨O,G,d,rel,er,k⟩=>by
 cases er;exact k _ H G .refl (by unfold bD Rep;rfl)
theorem kP {i:Bool} {j pos} {rg:Rg}:PX X Δ st (.Constant (.bool i) j pos) (.rg rg) (some (.bl i)):=cg pe_bl fun σ H Q ⟨O,G,d,rel,er,k⟩=>by
 cases er;exact k _ H G .refl (by unfold bD Rep;rfl)
def O4:Md->Rg
 | .bo=>.bb| .fz=>.fz| .ow _=>.hb| .pn _ _=>.hb| .bl=>.hb
theorem ae (i:Nat) {x:Str} {pos:Pos} {md:Md} {d:D} (hm:Δ[i]? =some md) (hd:st[i]? =some (some d)) (hN:X.N[i]? =some x) (hv:Vis X.env.scope x) (h1:(x==("__debug__" :Str))=false:=by decide) (h2:(x==("__classdict__" :Str))=false:=by decide):
  PX X Δ st (.Name x pos) (.rg (O4 md)) (some d):=cg (pe_var hN hv h1 h2) fun σ H Q ⟨O,G,d',rel,er,k⟩=>by
 cases er
 obtain⟨L,g,s⟩:=rel
 obtain⟨x',y',L1,L2,ex,ey,sr,pm,_⟩:=s.split hm
 rw[hd] at ex;cases ex
 cases md with
 |bo=>obtain⟨v,e1,r1,_⟩:=sr;subst e1;exact⟨v,ey,k v H G .refl r1⟩
 |fz=>obtain⟨v,e1,r1,_⟩:=sr;subst e1;exact⟨v,ey,k v H G .refl r1⟩
 |ow s=>obtain⟨v,e1,r1⟩:=sr;subst e1;exact⟨v,ey,k v H G .refl (Rep.mono (fun _ _=>trivial) aB _ _ (Own.rep _ _ _ _ r1))⟩
 |pn v s=>obtain⟨e1,r1⟩:=sr;subst e1;exact⟨v,ey,k v H G .refl (Rep.mono (fun _ _=>trivial) aB _ _ (Own.rep _ _ _ _ r1))⟩
 |bl=>obtain⟨v,e1,r1,_⟩:=sr;subst e1;exact⟨v,ey,k v H G .refl r1.rep⟩
end
section
variable {X:Cx} {Δ:List Md} {st:Ds} {a b c e o:Expr} {es:List Expr} {m ma mb mc:VM} {ra rb rc:Option D} {pos:Pos}
def Op2 (X:Cx) (r2:R2) (ma mb:VM) (m:VM) (f:D->D->Option D):Prop:=
 ∀O H0 H G x y v w d Q,f x y=some d->bD X.K O H0 H G ma x v->bD X.K O H0 H G mb y w->(∀p,G p->H p≠none)->(∀u H' G',Ext H G H' G'->bD X.K O H H' G' m d u->Q u H')->r2 v w H Q
def OpN (X:Cx) (rn:List V->Hp->VK->Prop) (ms:List VM) (m:VM) (f:List D->Option D):Prop:=
 ∀O H0 H G xs vs d Q,f xs=some d->lB X.K O H0 H G ms xs vs->(∀p,G p->H p≠none)->(∀u H' G',Ext H G H' G'->bD X.K O H H' G' m d u->Q u H')->rn vs H Q
theorem Rel.tb {K:Frg} {O:Org} {σ:CS} {H:Hp} {G:Sa} (r:Rel K O Δ st σ H G):LamX.Tabs NmC.T H:=by
 obtain⟨L,g,_⟩:=r
 exact g.tb
theorem Rel.gin {K:Frg} {O:Org} {σ:CS} {H:Hp} {G:Sa} (r:Rel K O Δ st σ H G): ∀p,G p->H p≠none:=by
 obtain⟨L,g,_⟩:=r
 exact g.gin
theorem vq {r2:R2} {f:D->D->Option D} (hf:Op2 X r2 ma mb m f) {σ:CS} {H:Hp} {Q:VK} (h:rdE X.K Δ st m (ra.bind fun x=>rb.bind fun y=>f x y) σ H Q):tOp r2 (rdE X.K Δ st ma ra) (rdE X.K Δ st mb rb) σ H Q:=by
 obtain⟨O,G,d,rel,er,k⟩:=h
 obtain⟨x,y,e1,e2,e3⟩:=cj er
 refine rdE.go rel e1 fun v H1 G1 rel1 x1 v1=>rdE.go rel1 e2 fun w H2 G2 rel2 x2 v2=> ?_
 exact hf O H H2 G2 x y v w d Q e3 (v1.mono x2) (v2.back x1) rel2.gin fun u H' G' x3 hu=>k u H' G' (x1.trans (x2.trans x3)) (hu.back (x1.trans x2))
theorem aE {op:Operator} {r2:R2} {f:D->D->Option D} (ho:OpR X (binaryOp op) r2) (hf:Op2 X r2 ma mb m f) (ha:PX X Δ st a ma ra) (hb:PX X Δ st b mb rb):PX X Δ st (.BinOp a op b pos) m (ra.bind fun x=>rb.bind fun y=>f x y):=
 cg (pe_op ho ha hb) fun _ _ _ h=>vq hf h
theorem mv {op:CmpOp} {r2:R2} {f:D->D->Option D} (ho:OpR X (compareOp op) r2) (hf:Op2 X r2 ma mb m f) (ha:PX X Δ st a ma ra) (hb:PX X Δ st b mb rb) (hm:behindInMarks op b=false):PX X Δ st (.Compare a [op] [b] pos) m (ra.bind fun x=>rb.bind fun y=>f x y):=
 cg (pe_cmpR ho ha hb hm) fun _ _ _ h=>vq hf h
def blD (f:D->D->Option Bool) (x y:D):Option D:=(f x y).map D.bl
theorem bD.bl {K:Frg} {O:Org} {H H1:Hp} {G1:Sa} {r:Rg} {b:Bool} {v:V} (h:bD K O H H1 G1 (.rg r) (.bl b) v):v= .bl b:=by
 unfold bD Rep at h;exact h
theorem bH {op:CmpOp} {r2:R2} {f:D->D->Option Bool} (ho:OpR X (compareOp op) r2) (hf:Op2 X r2 ma mb (.rg .fz) (blD f)) (ha:PX X Δ st a ma ra) (hb:PX X Δ st b mb rb) (hm:behindInMarks op b=false):PTx X Δ st (.Compare a [op] [b] pos) (ra.bind fun x=>rb.bind fun y=>f x y):=
 CM (pt_cmpR ho ha hb hm) fun σ H Q ⟨O,G,c,rel,er,k⟩=>by
  obtain⟨x,y,e1,e2,e3⟩:=cj er
  refine vq (m:=.rg .fz) (f:=blD f) hf ⟨O,G,.bl c,rel,by rw[e1,e2];show (f x y).map D.bl=_;rw[e3];rfl,fun v H' G' x hv=>⟨c,hv.bl,k H' G' x⟩⟩
theorem aA:PAx X Δ st [] [] (some []):=Kh pa_nil fun σ H Q ⟨O,G,d,rel,er,k⟩=>by
 cases er;exact k _ H G .refl rfl
theorem af {ms:List VM} {rs:Option (List D)} (ha:PX X Δ st e m ra) (hr:PAx X Δ st es ms rs) (hs:starEach (e::es) X.env=(false,eval e X.env)::starEach es X.env:=by rfl):
  PAx X Δ st (e::es) (m::ms) (ra.bind fun x=>rs.bind fun xs=>some (x::xs)):=Kh (pa_cons ha hr hs) fun σ H Q ⟨O,G,d,rel,er,k⟩=>by
 obtain⟨x,y,e1,e2,e3⟩:=cj er
 cases e3
 exact rdE.go rel e1 fun v H1 G1 rel1 x1 v1=>rdA.go rel1 e2 fun w H2 G2 rel2 x2 v2=>k _ H2 G2 (x1.trans x2) ⟨v,w,rfl,v1.mono x2,v2.back x1⟩
theorem iM {x:Str} {p:Pos} {id:String} {ms:List VM} {rs:Option (List D)} {rn:List V->Hp->VK->Prop} {f:List D->Option D} (hc:CallR X (.builtin id) rn) (hf:OpN X rn ms m f) (hg:Gl X x) (hm:X.mg x=none) (hv:bootBuiltins x=some (.builtin id)) (ha:PAx X Δ st (e::es) ms rs)
  (hn:x≠"__name__" :=by decide) (hdb:(x==("__debug__" :Str))=false:=by decide) (he:starEach (e::es) X.env=(false,eval e X.env)::starEach es X.env:=by rfl) (hpl:(backTo pos (starEach es X.env)).any (·.1)=false:=by rfl):
  PX X Δ st (.Call (.Name x p) (e::es) [] pos) m (rs.bind f):=cg (pe_callB hc hg hm hv ha hn hdb he hpl) fun σ H Q ⟨O,G,d,rel,er,k⟩=>by
 obtain⟨xs,e1,e2⟩:=bind1 er
 exact rdA.go rel e1 fun v H1 G1 rel1 x1 v1=>hf O H H1 G1 xs v d Q e2 v1 rel1.gin fun u H' G' x3 hu=>k u H' G' (x1.trans x3) (hu.back x1)
theorem pX {x:Str} {p:Pos} {T:String} {ms:List VM} {rs:Option (List D)} {rn:List V->Hp->VK->Prop} {f:List D->Option D} (hc:CallR X (.type T) rn) (hf:OpN X rn ms m f) (hg:Gl X x) (hm:X.mg x=none) (hv:bootBuiltins x=some (.type T)) (ha:PAx X Δ st (e::es) ms rs)
  (hn:x≠"__name__" :=by decide) (hdb:(x==("__debug__" :Str))=false:=by decide) (he:starEach (e::es) X.env=(false,eval e X.env)::starEach es X.env:=by rfl) (hpl:(backTo pos (starEach es X.env)).any (·.1)=false:=by rfl):
  PX X Δ st (.Call (.Name x p) (e::es) [] pos) m (rs.bind f):=cg (pe_callTy hc hg hm hv ha hn hdb he hpl) fun σ H Q ⟨O,G,d,rel,er,k⟩=>by
 obtain⟨xs,e1,e2⟩:=bind1 er
 exact rdA.go rel e1 fun v H1 G1 rel1 x1 v1=>hf O H H1 G1 xs v d Q e2 v1 rel1.gin fun u H' G' x3 hu=>k u H' G' (x1.trans x3) (hu.back x1)
end
end Sw
namespace Sw
open PySem PySem.Spec PyProof.Rows L2
variable [NmC]
structure Xn where
 C:Str
 fs:List (Str×D)
inductive Out (α β:Type) where
 |nx (a:α)|bk (b:β)|ct (b:β)|ret (d:D) (os:List D)|exc (x:Xn)
inductive FR where
 |ok (d:D) (os:List D)|er (x:Xn)
structure Exits (α β:Type) where
 Dn:List Md
 en:α->Ds
 Dl:List Md
 el:β->Ds
 rm:VM
 pins:List (V×Sh)
 xw:XK
 fl:Bool
def qL (K:Frg) (G:Sa) (H:Hp):List (V×Sh)->List D->List Addr->Prop
 | [],[],L=>L=[]
 |(v,s)::ps,d::ds,L=> ∃L1 L2,Own K G H s d v L1/\qL K G H ps ds L2/\L=L1++L2
 |_,_,_=>False
def O5 (K:Frg) (G:Sa) (H:Hp):VM->D->V->List Addr->Prop
 | .rg .fz,d,v,L=>Rep K G H d v/\L=[]
 | .rg _,_,_,_=>False
 | .nw s,d,v,L=>Own K G H s d v L
 | .sp _,_,_,_=>False
def yy (K:Frg) (rm:VM) (ps:List (V×Sh)) (O:Org) (d:D) (os:List D) (v:V) (H:Hp) (G:Sa):Prop:=
 ∃L1 L2,bJ O H G (L1++L2)/\O5 K G H rm d v L1/\qL K G H ps os L2
def XcR (K:Frg) (ps:List (V×Sh)) (O:Org) (x:Xn) (c:Value) (od:Option Addr) (H:Hp) (G:Sa):Prop:=
 c= .ref (He.ga K x.C)/\(∃L,bJ O H G L)/\((x.fs=[]/\od=none)\/ ∃a fvs,od=some a/\H a=some (.xd fvs)/\O.H0 a=none/\ ¬G a/\gV K G H x.fs fvs)
def Meets {α β:Type} (K:Frg) (E:Exits α β) (O:Org) (De:Ends):Out α β->Prop
 | .nx a=> ∀σ H G,Rel K O E.Dn (E.en a) σ H G->De.nx σ H
 | .bk b=> ∀σ H G,Rel K O E.Dl (E.el b) σ H G->De.bk σ H
 | .ct b=> ∀σ H G,Rel K O E.Dl (E.el b) σ H G->De.ct σ H
 | .ret d os=> ∀v H G,yy K E.rm E.pins O d os v H G->De.rt v H/\(E.fl=true->v= .non-> ∀σ,De.nx σ H)
 | .exc x=> ∀c od H G,XcR K E.pins O x c od H G->E.xw c od H
def rdS {α β:Type} (K:Frg) (E:Exits α β) (Δ:List Md) (st:Ds) (m:Option (Out α β)):TS:=fun De σ H=>
 ∃O G r,Rel K O Δ st σ H G/\m=some r/\Meets K E O De r
abbrev Blk {α β:Type} (X:Cx) (E:Exits α β) (Δ:List Md) (st:Ds) (ss:List Stmt) (m:Option (Out α β)):Prop:=PSs X ss (rdS X.K E Δ st m)
theorem fR {X:Cx} {ss:List Stmt} {α:Type} {t:α->TS} (h: ∀a,PSs X ss (t a)):PSs X ss (fun De σ H=> ∃a,t a De σ H):=⟨fun pins s σ H De I ⟨a,q⟩=>(h a).run pins s σ H De I q⟩
theorem M0 {X:Cx} {e:Expr} {α:Type} {t:α->TE} (h: ∀a,PE X e (t a)):PE X e (fun σ H Q=> ∃a,t a σ H Q):=⟨fun pins s σ H De I ⟨a,q⟩=>(h a).run pins s σ H De I q⟩
theorem M3 {X:Cx} {e:Expr} {α:Type} {t:α->TT} (h: ∀a,PT X e (t a)):PT X e (fun σ H Q=> ∃a,t a σ H Q):=⟨fun pins s σ H De I ⟨a,q⟩=>(h a).run pins s σ H De I q⟩
def cX:List Md->Ds->Option (List D)
 | [],[]=>some []
 | .pn _ _::ms,some d::st=>(cX ms st).map fun ds=>d::ds
 | .pn _ _::_,none::_=>none
 |_::ms,_::st=>cX ms st
 |_,_=>none
def Fd:List Md->List (V×Sh)
 | []=>[]
 | .pn v s::ms=>(v,s)::Fd ms
 |_::ms=>Fd ms
section
variable {K:Frg} {O:Org} {B G:Sa} {H:Hp}
theorem Slots.pins: ∀{Δ:List Md} {st:Ds} {σ:CS} {L:List Addr} {os:List D},Slots K B G H Δ st σ L->cX Δ st=some os-> ∃L',L'.Sublist L/\qL K G H (Fd Δ) os L'
 | [],[],[],_,_,h,e=>by cases e;exact⟨[],List.nil_sublist _,rfl⟩
 | .pn v s::ms,some d::xs,y::ys,_,os,⟨L1,L2,h1,h2,e⟩,e'=>by
  unfold cX at e'
  cases q:cX ms xs with
  |none=>rw[q] at e';cases e'
  |some ds=>
   rw[q] at e';cases e'
   obtain⟨L',sl,p⟩:=Slots.pins h2 q
   exact⟨L1++L',e▸List.Sublist.append (List.Sublist.refl _) sl,L1,L',h1.2,p,rfl⟩
 | .pn v s::ms,none::xs,y::ys,_,os,_,e'=>by cases e'
 | .bo::ms,x::xs,y::ys,_,os,⟨L1,L2,h1,h2,e⟩,e'=>by
  obtain⟨L',sl,p⟩:=Slots.pins h2 (by unfold cX at e';exact e')
  exact⟨L',e▸sl.trans (List.sublist_append_right _ _),p⟩
 | .fz::ms,x::xs,y::ys,_,os,⟨L1,L2,h1,h2,e⟩,e'=>by
  obtain⟨L',sl,p⟩:=Slots.pins h2 (by unfold cX at e';exact e')
  exact⟨L',e▸sl.trans (List.sublist_append_right _ _),p⟩
 | .bl::ms,x::xs,y::ys,_,os,⟨L1,L2,h1,h2,e⟩,e'=>by
  obtain⟨L',sl,p⟩:=Slots.pins h2 (by unfold cX at e';exact e')
  exact⟨L',e▸sl.trans (List.sublist_append_right _ _),p⟩
 | .ow _::ms,x::xs,y::ys,_,os,⟨L1,L2,h1,h2,e⟩,e'=>by
  obtain⟨L',sl,p⟩:=Slots.pins h2 (by unfold cX at e';exact e')
  exact⟨L',e▸sl.trans (List.sublist_append_right _ _),p⟩
 | [],[],_::_,_,_,h,_=>h.elim
 | [],_::_,_,_,_,h,_=>h.elim
 |_::_,[],_,_,_,h,_=>h.elim
 |_::_,_::_,[],_,_,h,_=>h.elim
theorem bJ.BB {L L1:List Addr} (r:bJ O H G L) (hk: ∀p∈L,Ndd H p) {H0:Hp} (hn: ∀p,H0 p=none->O.H0 p=none) (nd:L1.Nodup) (h: ∀p∈L1,H0 p=none/\ ¬G p) (hl: ∀p∈L,H0 p≠none):bJ O H G (L1++L):=
 ⟨r.bin,r.fr0,r.gsub,r.gold,r.gin,r.dom,List.nodup_append.mpr ⟨nd,r.nd,fun a ha b hb e=>hl b hb (e▸(h a ha).1)⟩,fun p m=>by
  rcases List.mem_append.mp m with m|m
  ·exact⟨(h p m).2,.inr (hn p (h p m).1)⟩
  ·exact r.lg p m,r.tl,r.tb⟩
theorem bJ.back {L:List Addr} (r:bJ O H G L) {p:Addr} (h:H p=none):O.H0 p=none:=by
 cases q:O.H0 p with
 |none=>rfl
 |some u=>exact absurd h (r.dom p (by rw[q];simp))
end
section
variable {α β γ:Type} {X:Cx} {E:Exits α β} {Δ:List Md} {st:Ds} {rest:List Stmt} {e:Expr} {m:VM} {r:Option D} {pos:Pos}
theorem aJ {a:α} (w:Wk Δ st E.Dn (E.en a)):Blk X E Δ st [] (some (.nx a)):=ia pss_nil fun De σ H ⟨O,G,r,rel,er,k⟩=>by
 cases er;exact k σ H G (rel.weak w)
def M4:VM->Bool
 | .rg .fz=>true
 | .nw _=>true
 |_=>false
theorem aO {os:List D} (he:PX X Δ st e m r) (hm:E.rm=m) (hp:cX Δ st=some os) (hq:Fd Δ=E.pins) (hi:M4 m=true:=by rfl):Blk X E Δ st (.Return (some e) pos::rest) (r.bind fun d=>some (.ret d os)):=
 ia (pss_cons (ps_ret he) pss_never) fun De σ H ⟨O,G,q,rel,er,k⟩=>by
  obtain⟨d,e1,e2⟩:=bind1 er
  cases e2
  refine rdE.go rel e1 fun v H1 G1 rel1 x1 v1=> ?_
  obtain⟨L,g,s⟩:=rel
  have g1:=g.ext x1 s.kind (x1.gin g.gin)
  have s1:=Slots.mono (G':=G1) (H':=H1) x1.gg x1.agr x1.agr (fun p m=>x1.vp (s.kind p m)) s
  obtain⟨L',sl,p⟩:=s1.pins hp
  refine (k v H1 G1 ?_).1
  rw[hm,←hq]
  cases m with
  |rg r=>
   cases r with
   |fz=>exact⟨[],L',g1.sub sl,⟨v1,rfl⟩,p⟩
   |hb=>cases hi
   |bb=>cases hi
  |nw sh=>
   obtain⟨L1,nd,f,o⟩:=v1
   exact⟨L1,L',(g1.BB s1.kind (H0:=H) (fun p h=>g.back h) nd f fun p m=>(s.kind p m).ne).sub (List.Sublist.append (List.Sublist.refl _) sl),o,p⟩
  |sp r=>cases hi
theorem t9: ∀{Δ:List Md} {st:Ds} {i:Nat} {s:Sh},Δ[i]? =some (.ow s)->cX Δ (st.set i none)=cX Δ st
 | [],_,_,_,h=>by simp at h
 |m::ms,[],i,s,h=>by simp
 |m::ms,x::xs,0,s,h=>by
  cases h
  show cX (.ow s::ms) (none::xs)=_
  unfold cX;rfl
 |m::ms,x::xs,i+1,s,h=>by
  have ih:=t9 (Δ:=ms) (st:=xs) (i:=i) (s:=s) (by simpa using h)
  show cX (m::ms) (x::xs.set i none)=cX (m::ms) (x::xs)
  cases m with
  |pn v t=>
   cases x with
   |none=>unfold cX;rfl
   |some d=>unfold cX;rw[ih]
  |bo=>unfold cX;exact ih
  |fz=>unfold cX;exact ih
  |bl=>unfold cX;exact ih
  |ow t=>unfold cX;exact ih
theorem BC (i:Nat) {x:Str} {p':Pos} {s:Sh} {d:D} {os:List D} (hm:Δ[i]? =some (.ow s)) (hd:st[i]? =some (some d)) (hr:E.rm= .nw s) (hp:cX Δ st=some os) (hq:Fd Δ=E.pins) (hN:X.N[i]? =some x) (hv:Vis X.env.scope x)
  (h1:(x==("__debug__" :Str))=false:=by decide) (h2:(x==("__classdict__" :Str))=false:=by decide):Blk X E Δ st (.Return (some (.Name x p')) pos::rest) (some (.ret d os)):=
 ia (pss_cons (ps_ret (pe_var hN hv h1 h2)) pss_never) fun De σ H ⟨O,G,q,rel,er,k⟩=>by
  cases er
  obtain⟨L,g,sl⟩:=rel
  obtain⟨x',y',L1,L2,ex,ey,sr,pm,f⟩:=sl.split hm
  rw[hd] at ex;cases ex
  obtain⟨v,e1,r1⟩:=sr
  subst e1
  obtain⟨L',pm',s'⟩:=f G H (.ow s) none (some v) [] (fun _ g=>g) aB aB (fun _ _=>rfl) rfl
  rw[fP hm,fP ey] at s'
  obtain⟨L3,sl3,p3⟩:=s'.pins ((t9 hm).trans hp)
  refine⟨v,ey,(k v H G ?_).1⟩
  rw[hr,←hq]
  exact⟨L1,L3,((g.perm pm).perm (List.Perm.append_left L1 (by simpa using pm'.symm))).sub (List.Sublist.append (List.Sublist.refl _) sl3),r1,p3⟩
def Fe:VM->Option Md
 | .rg .bb=>some .bo
 | .rg .fz=>some .fz
 | .rg .hb=>none
 | .nw s=>some (.ow s)
 | .sp .bb=>some .bl
 | .sp _=>none
theorem Rel.qm {O:Org} {K:Frg} {H H1:Hp} {G G1:Sa} {σ:CS} {i:Nat} {d:D} {v:V} {md:Md} (rel:Rel K O Δ st σ H G) (x1:Ext H G H1 G1) (hi:i<Δ.length) (hm:Fe m=some md) (hv:bD K O H H1 G1 m d v):
  Rel K O (Δ.set i md) (st.set i (some d)) (σ.set i (some v)) H1 G1:=by
 obtain⟨L,g0,s0⟩:=rel
 have g:=g0.ext x1 s0.kind (x1.gin g0.gin)
 have s:=Slots.mono (G':=G1) (H':=H1) x1.gg x1.agr x1.agr (fun p m=>x1.vp (s0.kind p m)) s0
 obtain⟨x',y',L1,L2,ex,ey,sr,pm,f⟩:=s.split (List.getElem?_eq_getElem hi)
 have hk: ∀p∈L2,Ndd H1 p:=fun p hp=>s.kind p (pm.mem_iff.mpr (List.mem_append_right _ hp))
 have base:bJ O H1 G1 L2:=(g.perm pm).sub (List.sublist_append_right _ _)
 cases m with
 |rg r=>
  cases r with
  |hb=>cases hm
  |bb=>
   cases hm
   obtain⟨L',pm',s'⟩:=f G1 H1 .bo (some d) (some v) [] (fun _ g=>g) aB aB (fun _ _=>rfl) ⟨v,rfl,hv,rfl⟩
   exact⟨L',base.perm pm'.symm,s'⟩
  |fz=>
   cases hm
   obtain⟨L',pm',s'⟩:=f G1 H1 .fz (some d) (some v) [] (fun _ g=>g) aB aB (fun _ _=>rfl) ⟨v,rfl,hv,rfl⟩
   exact⟨L',base.perm pm'.symm,s'⟩
 |nw sh=>
  cases hm
  obtain⟨Ln,nd,fr,o⟩:=hv
  obtain⟨L',pm',s'⟩:=f G1 H1 (.ow sh) (some d) (some v) Ln (fun _ g=>g) aB aB (fun _ _=>rfl) ⟨v,rfl,o⟩
  refine⟨L',bJ.perm (base.BB hk (H0:=H) (fun p h=>g0.back h) nd fr fun p m=>(s0.kind p (pm.mem_iff.mpr (List.mem_append_right _ m))).ne) pm'.symm,s'⟩
 |sp r=>
  cases r <;> first|(cases hm;done)|skip
  cases hm
  obtain⟨L',pm',s'⟩:=f G1 H1 .bl (some d) (some v) [] (fun _ g=>g) aB aB (fun _ _=>rfl) ⟨v,rfl,hv,rfl⟩
  exact⟨L',base.perm pm'.symm,s'⟩
theorem KW (i:Nat) {x:Str} {p':Pos} {md:Md} {k:D->Option (Out α β)} (he:PX X Δ st e m r) (hm:Fe m=some md) (hi:i<Δ.length) (hnd:X.N.Nodup) (hN:X.N[i]? =some x) (hx:Loc X.env.scope x)
  (h: ∀d,Blk X E (Δ.set i md) (st.set i (some d)) rest (k d)) (hs:swapsWith e (some (.Name x p')) pos.line X.env=pure false:=by rfl) (hf:X.fn x=true\/X.env.scope.names.lookup x=some .local:=by first|exact .inl rfl|exact .inr rfl|assumption):
  Blk X E Δ st (.Assign [.Name x p'] e pos::rest) (r.bind k):=
 ia (pss_cons (ps_set hnd hN hx he hs hf) (fR h)) fun De σ H ⟨O,G,q,rel,er,kk⟩=>by
  obtain⟨d,e1,e2⟩:=bind1 er
  exact rdE.go rel e1 fun v H1 G1 rel1 x1 v1=>⟨d,O,G1,q,rel.qm x1 hi hm v1,e2,kk⟩
def sqO {α β γ:Type} (k:γ->Option (Out α β)):Out γ β->Option (Out α β)
 | .nx a=>k a
 | .bk b=>some (.bk b)
 | .ct b=>some (.ct b)
 | .ret d os=>some (.ret d os)
 | .exc x=>some (.exc x)
def Exits.join {α β γ:Type} (E:Exits α β) (Dj:List Md) (ej:γ->Ds):Exits γ β:={E with Dn:=Dj,en:=ej,fl:=false}
theorem Meets.seq {O:Org} {De:Ends} {K:Frg} {Dj:List Md} {ej:γ->Ds} {k:γ->Option (Out α β)} {r1:Out γ β} {r:Out α β} {U:CS->Hp->Prop} (e:sqO k r1=some r) (h:Meets K E O De r)
  (hU: ∀a,k a=some r-> ∀σ H G,Rel K O Dj (ej a) σ H G->U σ H):Meets K (E.join Dj ej) O {De with nx:=U} r1:=by
 cases r1 with
 |nx a=>exact fun σ H G rel=>hU a e σ H G rel
 |bk b=>cases e;exact h
 |ct b=>cases e;exact h
 |ret d os=>cases e;exact fun v H G q=>⟨(h v H G q).1,fun f=>(nomatch f)⟩
 |exc x=>cases e;exact h
theorem eL {c:Expr} {A Bs:List Stmt} {rc:Option Bool} {mA mB:Option (Out γ β)} (Dj:List Md) (ej:γ->Ds) {k:γ->Option (Out α β)} (hc:PTx X Δ st c rc) (hA:Blk X (E.join Dj ej) Δ st A mA) (hB:Blk X (E.join Dj ej) Δ st Bs mB)
  (h: ∀a,Blk X E Dj (ej a) rest (k a)):Blk X E Δ st (.If c A Bs pos::rest) (rc.bind fun c=>(if c=true then mA else mB).bind (sqO k)):=
 ia (pss_cons (ps_if hc hA hB) (fR h)) fun De σ H ⟨O,G,q,rel,er,kk⟩=>by
  obtain⟨b,e1,e2⟩:=bind1 er
  obtain⟨r1,e3,e4⟩:=bind1 e2
  refine rdT.go rel e1 fun H1 G1 rel1 x1=> ?_
  have hm:=Meets.seq (Dj:=Dj) (ej:=ej) (U:=fun σ H=> ∃a,rdS X.K E Dj (ej a) (k a) De σ H) e4 kk fun a ea σ' H' G' rel'=>⟨a,O,G',q,rel',ea,kk⟩
  cases b with
  |true=>exact⟨O,G1,r1,rel1,by simpa using e3,hm⟩
  |false=>exact⟨O,G1,r1,rel1,by simpa using e3,hm⟩
end
inductive Res (β:Type) where
 |fin (b:β)|ret (d:D) (os:List D)|exc (x:Xn)
def forL {β δ:Type} (step:β->δ->Option (Out β β)):List δ->β->Option (Res β)
 | [],b=>some (.fin b)
 |x::xs,b=>(step b x).bind fun
  | .nx b'=>forL step xs b'
  | .ct b'=>forL step xs b'
  | .bk b'=>some (.fin b')
  | .ret d os=>some (.ret d os)
  | .exc x=>some (.exc x)
def sqF {α β γ:Type} (k:γ->Option (Out α β)):Res γ->Option (Out α β)
 | .fin b=>k b
 | .ret d os=>some (.ret d os)
 | .exc x=>some (.exc x)
def Exits.loop {α β γ:Type} (E:Exits α β) (Dl:List Md) (el:γ->Ds):Exits γ γ:={E with Dn:=Dl,en:=el,Dl:=Dl,el:=el,fl:=false}
section
variable {K:Frg} {O:Org} {H H2:Hp} {G G2:Sa} {L L2:List Addr}
def Org.at (O:Org) (H:Hp) (G:Sa) (L:List Addr):Org:=⟨G,H,L,O.B⟩
theorem bJ.start (r:bJ O H G L) (hk: ∀p∈L,Ndd H p):bJ (O.at H G L) H G L:=
 ⟨fun p b=>⟨r.dom p (r.bin p b).1,fun m=>(r.lg p m).2.elim (r.bin p b).2 (r.bin p b).1⟩,fun _ _ e _ _=>e,fun _ g=>g,fun _ g=>.inl g,r.gin,fun _ h=>h,r.nd,fun p m=>⟨(r.lg p m).1,.inl m⟩,fun _ ps e=>⟨ps,e⟩,r.tb⟩
theorem bJ.comp (r:bJ O H G L) (q:bJ (O.at H G L) H2 G2 L2):bJ O H2 G2 L2 where
 bin:=r.bin
 fr0:=fun p u e n t=>q.frame p u (r.frame p u e n) fun m=>(r.lg p m).2.elim n fun z=>by rw[z] at e;cases e
 gsub:=fun p g=>q.gsub p (r.gsub p g)
 gold:=fun p g=>by
  rcases q.gold p g with g|n|⟨xs,t⟩|m
  ·exact r.gold p g
  ·exact .inr (.inl (r.back n))
  ·rcases r.was (show H p=some (imm xs) from t) (o6 _) with e|e|e
   ·exact .inr (.inr (.inl ⟨xs,e⟩))
   ·exact .inr (.inl e)
   ·exact .inr (.inr (.inr e))
  ·rcases (r.lg p m).2 with h|h
   ·exact .inr (.inr (.inr h))
   ·exact .inr (.inl h)
 gin:=q.gin
 dom:=fun p h=>q.dom p (r.dom p h)
 nd:=q.nd
 lg:=fun p m=>⟨(q.lg p m).1,by
  rcases (q.lg p m).2 with h|h
  ·exact (r.lg p h).2
  ·exact .inr (r.back h)⟩
 tl:=fun p ps e=>by
  obtain⟨ps1,e1⟩:=r.tl p ps e
  exact q.tl p ps1 e1
 tb:=q.tb
theorem Rel.start {Δ:List Md} {st:Ds} {σ:CS} (r:Rel K O Δ st σ H G): ∃L,bJ O H G L/\Rel K (O.at H G L) Δ st σ H G:=by
 obtain⟨L,g,s⟩:=r
 exact⟨L,g,L,g.start s.kind,s⟩
theorem Rel.comp {Δ:List Md} {st:Ds} {σ:CS} (g:bJ O H G L) (r:Rel K (O.at H G L) Δ st σ H2 G2):Rel K O Δ st σ H2 G2:=by
 obtain⟨L2,g2,s2⟩:=r
 exact⟨L2,g.comp g2,s2⟩
theorem yy.comp {rm:VM} {ps:List (V×Sh)} {d:D} {os:List D} {v:V} (g:bJ O H G L) (r:yy K rm ps (O.at H G L) d os v H2 G2):yy K rm ps O d os v H2 G2:=by
 obtain⟨L1,L2,g2,a,b⟩:=r
 exact⟨L1,L2,g.comp g2,a,b⟩
theorem XcR.comp {ps:List (V×Sh)} {x:Xn} {c:Value} {od:Option Addr} (g:bJ O H G L) (r:XcR K ps (O.at H G L) x c od H2 G2):XcR K ps O x c od H2 G2:=by
 obtain⟨e,⟨L1,g2⟩,h⟩:=r
 refine⟨e,⟨L1,g.comp g2⟩,h.imp id ?_⟩
 rintro⟨a,fvs,e1,e2,e3,e4⟩
 exact⟨a,fvs,e1,e2,g.back e3,e4⟩
theorem Meets.comp {α β:Type} {E:Exits α β} {De:Ends} {r:Out α β} (g:bJ O H G L) (h:Meets K E O De r):Meets K E (O.at H G L) De r:=by
 cases r with
 |nx a=>exact fun σ H' G' rel=>h σ H' G' (rel.comp g)
 |bk b=>exact fun σ H' G' rel=>h σ H' G' (rel.comp g)
 |ct b=>exact fun σ H' G' rel=>h σ H' G' (rel.comp g)
 |ret d os=>exact fun v H' G' q=>h v H' G' (q.comp g)
 |exc x=>exact fun c od H' G' q=>h c od H' G' (q.comp g)
end
end Sw
namespace Sw
open PySem PySem.Spec PyProof.Rows L2
variable [NmC]
def Wlk {δ:Type} (IR:Hp->δ->V->Prop) (S:Sa) (J:It) (ds:List δ) (H1:Hp):Prop:=
 ∀H2,(∀p u,S p->H1 p=some u->NT u->H2 p=some u)-> ∀i,(∀d,ds[i]? =some d->J.go i H2/\ ∀x H3,J.yld i H2 x H3->(∀p u,H2 p=some u->H3 p=some u)/\IR H3 d x)/\(ds.length<=i->J.stop i H2)
def stR (O:Org) (G:Sa) (rg:Rg):Sa:=fun p=>rgn O G rg p\/O.B p\/G p
theorem wkS {δ:Type} {IR:Hp->δ->V->Prop} {O:Org} {G:Sa} {rg:Rg} {J:It} {ds:List δ} {H:Hp} (h:Wlk IR (rgn O G rg) J ds H):Wlk IR (stR O G rg) J ds H:=fun H2 hst=>h H2 fun p u s=>hst p u (.inl s)
def rdI {δ:Type} (K:Frg) (Δ:List Md) (st:Ds) (rg:Rg) (IR:Sa->Hp->δ->V->Prop) (rI:Option (List δ)):TI:=fun σ H R=>
 ∃O G ds,Rel K O Δ st σ H G/\rI=some ds/\ ∀J H' G',Ext H G H' G'->Wlk (IR (rgn O G' rg)) (stR O G' rg) J ds H'->R J H'
abbrev PIx {δ:Type} (X:Cx) (Δ:List Md) (st:Ds) (tg it:Expr) (rg:Rg) (IR:Sa->Hp->δ->V->Prop) (rI:Option (List δ)):Prop:=PI X tg it (rdI X.K Δ st rg IR rI)
theorem xF {X:Cx} {tg it:Expr} {t t':TI} (h:PI X tg it t) (i: ∀σ H Q,t' σ H Q->t σ H Q):PI X tg it t':=⟨fun pins s σ H Q I q=>h.run pins s σ H Q I (i σ H Q q)⟩
def irV (K:Frg) (S:Sa) (H:Hp) (d:D) (x:V):Prop:=Rep K S H d x
def irP (K:Frg) (S:Sa) (H:Hp) (p:D×D) (x:V):Prop:= ∃a v w,x= .ref a/\SqT K H a [v,w]/\Rep K S H p.1 v/\Rep K S H p.2 w
def yz {δ:Type} (K:Frg) (g:TG) (rg:Rg) (IR:Sa->Hp->δ->V->Prop) (uM:List Md->List Md) (uS:δ->Ds->Ds) (n:Nat) (is:List Nat):Prop:=
 ∀O Δ st σ H G d x Q,Δ.length=n->Rel K O Δ st σ H G->IR (rgn O G rg) H d x->(∀σ',Rel K O (uM Δ) (uS d st) σ' H G->(∀vs,(∀i∈is,i∈vs)->wipe σ' vs=wipe σ vs)->Q σ' H)->g x σ H Q
theorem xG (σ:CS) (i:Nat) (y:Option V): ∀vs:List Nat,i∉vs->wipe (σ.set i y) vs=(wipe σ vs).set i y
 | [],_=>rfl
 |v::vs,h=>by
  simp only[List.mem_cons,not_or] at h
  unfold wipe
  rw[xG σ i y vs h.2,List.set_comm _ _ h.1]
theorem j7 {i:Nat} {y:Option V}: ∀{σ:CS} {vs:List Nat},i∈vs->wipe (σ.set i y) vs=wipe σ vs
 |σ,[],h=>by cases h
 |σ,v::vs,h=>by
  unfold wipe
  by_cases hi:i∈vs
  ·rw[j7 hi]
  ·have e:i=v:=by
    rcases List.mem_cons.mp h with e|e
    ·exact e
    ·exact absurd e hi
   subst e
   rw[xG σ i y vs hi,List.set_set]
def nD {δ:Type} (IR:Sa->Hp->δ->V->Prop):Prop:= ∀S S' H H' d x,(∀p,S p->S' p)->(∀p u,H p=some u->H' p=some u)->IR S H d x->IR S' H' d x
theorem bC {K:Frg}:nD (irV K):=fun S S' H H' d x hS hH h=>Rep.mono hS (qK hH) d x h
theorem Ad {K:Frg} {H H':Hp} (hH: ∀p u,H p=some u->H' p=some u) {a:Addr} {xs:List V} (h:SqT K H a xs):SqT K H' a xs:=h.imp (fun r=>r.imp (hH a _) fun⟨o,r⟩=>⟨o,hH a _ r⟩) id
theorem Ae {K:Frg}:nD (irP K):=fun S S' H H' d x hS hH ⟨a,v,w,e,t,h1,h2⟩=>⟨a,v,w,e,Ad hH t,Rep.mono hS (qK hH) _ v h1,Rep.mono hS (qK hH) _ w h2⟩
def mdR:Rg->Md
 | .bb=>.bo
 |_=>.fz
theorem bW (K:Frg) (i:Nat) {n:Nat} {rg:Rg} (hr:rg≠ .hb) (hi:i<n):yz K (gName i) rg (irV K) (fun Δ=>Δ.set i (mdR rg)) (fun d st=>st.set i (some d)) n [i]:=fun O Δ st σ H G d x Q hn rel h q=>by
 refine q _ ?_ fun vs hv=>j7 (hv i (by simp))
 cases rg with
 |hb=>exact absurd rfl hr
 |bb=>exact rel.qm (m:=.rg .bb) .refl (by omega) rfl h
 |fz=>exact rel.qm (m:=.rg .fz) .refl (by omega) rfl h
theorem CN (K:Frg) (i j:Nat) {n:Nat} {rg:Rg} (hr:rg≠ .hb) (hi:i<n) (hj:j<n):yz K (gTup K 2 (gCons (gName i) (gCons (gName j) gNil))) rg (irP K) (fun Δ=>(Δ.set i (mdR rg)).set j (mdR rg)) (fun d st=>(st.set i (some d.1)).set j (some d.2)) n [i,j]:=
 fun O Δ st σ H G d x Q hn rel ⟨a,v,w,e,t,h1,h2⟩ q=>by
  refine⟨a,[v,w],e,t,rfl,v,[w],rfl,w,[],rfl,rfl,q _ ?_ fun vs hv=>(j7 (hv j (by simp))).trans (j7 (hv i (by simp)))⟩
  cases rg with
  |hb=>exact absurd rfl hr
  |bb=>exact (rel.qm (m:=.rg .bb) .refl (by omega) rfl h1).qm (m:=.rg .bb) .refl (by simp;omega) rfl h2
  |fz=>exact (rel.qm (m:=.rg .fz) .refl (by omega) rfl h1).qm (m:=.rg .fz) .refl (by simp;omega) rfl h2
section
variable {α β γ δ:Type} {X:Cx} {E:Exits α β} {Δ:List Md} {st:Ds} {rest body:List Stmt} {pos:Pos} {tg it:Expr}
theorem Af {α:Type} {l:List α} {i:Nat} {x:α} (h:l[i]? =some x):l.drop i=x::l.drop (i+1):=by
 obtain⟨hi,e⟩:=List.getElem?_eq_some_iff.mp h
 rw[<-e];exact List.drop_eq_getElem_cons hi
theorem vt {K:Frg} {O:Org} {H1:Hp} {G1:Sa} {L:List Addr} {J:It} {ds:List δ} {IR:Sa->Hp->δ->V->Prop} {rg:Rg} {uM:List Md->List Md} {uS:δ->Ds->Ds} {g:TG} {Dl:List Md} {el:γ->Ds} {step:γ->δ->Option (Out γ γ)} {k:γ->Option (Out α β)} {r:Out α β}
  {U:CS->Hp->Prop} {De:Ends} {σ:CS} {b0:γ} {tb:TS}
  (g0:bJ O H1 G1 L) (rel:Rel K (O.at H1 G1 L) Dl (el b0) σ H1 G1) (hw:Wlk (IR (rgn O G1 rg)) (stR O G1 rg) J ds H1) (him:nD IR) (hr:rg≠ .hb) {is:List Nat} (ht:yz K g rg IR uM uS Dl.length is)
  (htb: ∀b d De σ H,rdS K (E.loop Dl el) (uM Dl) (uS d (el b)) (step b d) De σ H->tb De σ H)
  {rs:Res γ} (ef:forL step ds b0=some rs) (es:sqF k rs=some r) (hm:Meets K E O De r)
  (hU: ∀b,k b=some r-> ∀σ H G,Rel K (O.at H1 G1 L) Dl (el b) σ H G->U σ H):
  ∃W:Nat->Nat->CS->Hp->Prop,(∃m,W 0 m σ H1)/\ ∀i m σ H,W i m σ H→
   (J.stop i H/\U σ H)\/(J.go i H/\ ∃N:CS->Hp->Prop,(∀σ' H',N σ' H'-> ∃m',m'<m/\W (i+1) m' σ' H')/\ ∀x H',J.yld i H x H'->g x σ H' fun σ2 H2=>tb {De with nx:=N,ct:=N,bk:=U} σ2 H2):=by
 have hm':=hm.comp g0
 have hS: ∀p,stR O G1 rg p->p∉L:=fun p s m=>by
  rcases s with s|s|s
  ·cases rg with
   |hb=>exact hr rfl
   |bb=>exact (g0.lg p m).2.elim (g0.bin p s).2 (g0.bin p s).1
   |fz=>exact (g0.lg p m).1 s
  ·exact (g0.lg p m).2.elim (g0.bin p s).2 (g0.bin p s).1
  ·exact (g0.lg p m).1 s
 refine⟨fun i m σ H=> ∃b G,m=ds.length -i/\i<=ds.length/\Rel K (O.at H1 G1 L) Dl (el b) σ H G/\forL step (ds.drop i) b=some rs,⟨ds.length,b0,G1,by omega,by omega,rel,by simpa using ef⟩,fun i m σ H hW=> ?_⟩
 obtain⟨b,G,em,hi,rl,hf⟩:=hW
 have hst: ∀p u,stR O G1 rg p->H1 p=some u->NT u->H p=some u:=fun p u s e nt=>by
  obtain⟨L2,g2,_⟩:=rl
  exact g2.frame p u e (hS p s)
 obtain⟨w1,w2⟩:=hw H hst i
 by_cases hlt:i<ds.length
 ·refine .inr ?_
  have hd:ds[i]? =some ds[i]:=List.getElem?_eq_getElem hlt
  obtain⟨go,yl⟩:=w1 _ hd
  rw[Af hd] at hf
  unfold forL at hf
  obtain⟨o,eo,ho⟩:=bind1 hf
  refine⟨go,fun σ' H'=> ∃b' G',Rel K (O.at H1 G1 L) Dl (el b') σ' H' G'/\forL step (ds.drop (i+1)) b'=some rs,fun σ' H' ⟨b',G',rl',hf'⟩=>⟨m -1,by omega,b',G',by omega,by omega,rl',hf'⟩,fun x H3 hy=> ?_⟩
  obtain⟨hh,ir⟩:=yl x H3 hy
  have x3:Ext H G H3 G:=.of hh (fun _ g=>g) fun _ g=>.inl g
  have rl3:=rl.ext x3
  have hsub: ∀p,rgn O G1 rg p->rgn (O.at H1 G1 L) G rg p:=fun p s=>by
   cases rg with
   |hb=>exact trivial
   |bb=>exact s
   |fz=>
    obtain⟨L2,g2,_⟩:=rl
    exact g2.gsub p s
  refine ht _ _ _ _ _ _ _ x _ rfl rl3 (him _ _ H3 H3 _ x hsub (fun _ _ e=>e) ir) fun σ' rl' _=> ?_
  refine htb b ds[i] _ _ _ ⟨O.at H1 G1 L,G,o,rl',eo,?_⟩
  cases o with
  |nx b'=>exact fun σ2 H2 G2 r2=>⟨b',G2,r2,ho⟩
  |ct b'=>exact fun σ2 H2 G2 r2=>⟨b',G2,r2,ho⟩
  |bk b'=>
   simp only[Option.some.injEq] at ho
   subst ho
   exact fun σ2 H2 G2 r2=>hU b' es σ2 H2 G2 r2
  |ret d os=>
   simp only[Option.some.injEq] at ho
   subst ho
   cases es
   exact fun v H' G' q=>⟨(hm' v H' G' q).1,fun f=>(nomatch f)⟩
  |exc x=>
   simp only[Option.some.injEq] at ho
   subst ho
   cases es
   exact fun c od H' G' q=>hm' c od H' G' q
 ·refine .inl ⟨w2 (by omega),?_⟩
  rw[List.drop_of_length_le (by omega)] at hf
  unfold forL at hf
  simp only[Option.some.injEq] at hf
  subst hf
  exact hU b es σ H G rl
theorem KY {rg:Rg} {IR:Sa->Hp->δ->V->Prop} {rI:Option (List δ)} {g:TG} {uM:List Md->List Md} {uS:δ->Ds->Ds} (Dl:List Md) (el:γ->Ds) {b0:γ} {step:γ->δ->Option (Out γ γ)} {k:γ->Option (Out α β)}
  (hi:PIx X Δ st tg it rg IR rI) (him:nD IR) (hr:rg≠ .hb) (hg:PG X tg g) {is:List Nat} (ht:yz X.K g rg IR uM uS Dl.length is) (w:Wk Δ st Dl (el b0)) (hb: ∀b d,Blk X (E.loop Dl el) (uM Dl) (uS d (el b)) body (step b d)) (h: ∀b,Blk X E Dl (el b) rest (k b))
  (hc:X.calm=true) (hp:PassesOwn (model X.prog X.w) X.A X.env X.xe) (hs: ∀x,foldedSetIterable it X.env x=pure x:=by intro _;rfl):
  Blk X E Δ st (.For tg it body [] pos::rest) (rI.bind fun ds=>(forL step ds b0).bind (sqF k)):=
 ia (pss_cons (ps_for hp hc hi hg (fR fun b=>fR fun d=>hb b d) hs) (fR h)) fun De σ H ⟨O,G,q,rel,er,kk⟩=>by
  obtain⟨ds,e1,e2⟩:=bind1 er
  obtain⟨rs,e3,e4⟩:=bind1 e2
  refine⟨O,G,ds,rel,e1,fun J H1 G1 x1 hw=> ?_⟩
  obtain⟨L,g0,rl⟩:=((rel.ext x1).weak w).start
  exact vt (De:=De) (U:=fun σ H=> ∃a,rdS X.K E Dl (el a) (k a) De σ H) (tb:=fun De σ H=> ∃b d,rdS X.K (E.loop Dl el) (uM Dl) (uS d (el b)) (step b d) De σ H) g0 rl hw him hr ht (fun b d De σ H q=>⟨b,d,q⟩) e3 e4 kk fun b eb σ' H' G' rl'=>⟨b,O,G',q,rl'.comp g0,eb,kk⟩
def whN {γ:Type} (tst:γ->Option Bool) (step:γ->Option (Out γ γ)):Nat->γ->Option (Res γ)
 |0,_=>none
 |n+1,b=>(tst b).bind fun c=>if c=true then (step b).bind fun
  | .nx b'=>whN tst step n b'
  | .ct b'=>whN tst step n b'
  | .bk b'=>some (.fin b')
  | .ret d os=>some (.ret d os)
  | .exc x=>some (.exc x) else some (.fin b)
theorem vu {γ:Type} {tst:γ->Option Bool} {step:γ->Option (Out γ γ)}: ∀{n:Nat} {b:γ} {r:Res γ},whN tst step n b=some r->whN tst step (n+1) b=some r
 |n+1,b,r,h=>by
  unfold whN at h
  unfold whN
  obtain⟨c,e1,e2⟩:=bind1 h
  rw[e1]
  show (if c=true then _ else _)=_
  cases c with
  |false=>exact e2
  |true=>
   rw[if_pos rfl] at e2⊢
   obtain⟨o,e3,e4⟩:=bind1 e2
   rw[e3]
   cases o with
   |nx b'=>exact vu e4
   |ct b'=>exact vu e4
   |bk b'=>exact e4
   |ret d os=>exact e4
   |exc x=>exact e4
theorem Ff {γ:Type} {tst:γ->Option Bool} {step:γ->Option (Out γ γ)} {n m:Nat} {b:γ} {r:Res γ} (h:whN tst step n b=some r) (hl:n<=m):whN tst step m b=some r:=by
 obtain⟨k,rfl⟩:=Nat.exists_eq_add_of_le hl
 induction k with
 |zero=>exact h
 |succ k ih=>exact vu (ih (by omega))
open Classical in
noncomputable def whL {γ:Type} (tst:γ->Option Bool) (step:γ->Option (Out γ γ)) (b:γ):Option (Res γ):=
 if h: ∃n r,whN tst step n b=some r then some h.choose_spec.choose else none
theorem KZ {γ:Type} {tst:γ->Option Bool} {step:γ->Option (Out γ γ)} {n:Nat} {b:γ} {r:Res γ} (h:whN tst step n b=some r):whL tst step b=some r:=by
 unfold whL
 have hx: ∃n r,whN tst step n b=some r:=⟨n,r,h⟩
 rw[dif_pos hx]
 have h2:=hx.choose_spec.choose_spec
 have a:=Ff h (Nat.le_max_left n hx.choose)
 have b':=Ff h2 (Nat.le_max_right n hx.choose)
 rw[a] at b'
 exact b'.symm
theorem K0 {γ:Type} {tst:γ->Option Bool} {step:γ->Option (Out γ γ)} {b:γ} {r:Res γ} (h:whL tst step b=some r): ∃n,whN tst step n b=some r:=by
 unfold whL at h
 split at h
 ·rename_i hx
  cases h
  exact⟨hx.choose,hx.choose_spec.choose_spec⟩
 ·cases h
theorem Fg {c:Expr} (Dl:List Md) (el:γ->Ds) {b0:γ} {tst:γ->Option Bool} {step:γ->Option (Out γ γ)} {k:γ->Option (Out α β)} (hc: ∀b,PTx X Dl (el b) c (tst b)) (w:Wk Δ st Dl (el b0)) (hb: ∀b,Blk X (E.loop Dl el) Dl (el b) body (step b))
  (h: ∀b,Blk X E Dl (el b) rest (k b)) (hp:PassesOwn (model X.prog X.w) X.A X.env X.xe):Blk X E Δ st (.While c body [] pos::rest) ((whL tst step b0).bind (sqF k)):=
 ia (pss_cons (ps_while hp (M3 hc) (fR hb)) (fR h)) fun De σ H ⟨O,G,q,rel,er,kk⟩=>by
  obtain⟨rs,e3,e4⟩:=bind1 er
  obtain⟨n,e5⟩:=K0 e3
  refine⟨fun m σ H=> ∃b G,Rel X.K O Dl (el b) σ H G/\whN tst step m b=some rs,⟨n,b0,G,rel.weak w,e5⟩,fun m σ1 H1 ⟨b,G1,r1,hf⟩=> ?_⟩
  cases m with
  |zero=>cases hf
  |succ m=>
   unfold whN at hf
   obtain⟨cb,ec,hf⟩:=bind1 hf
   refine⟨b,rdT.go r1 ec fun H2 G2 r2 x2=> ?_⟩
   cases cb with
   |false=>
    rw[if_neg Bool.false_ne_true] at hf⊢
    simp only[Option.some.injEq] at hf
    subst hf
    exact⟨b,O,G2,q,r2,e4,kk⟩
   |true=>
    rw[if_pos rfl] at hf⊢
    obtain⟨o,eo,ho⟩:=bind1 hf
    refine⟨fun σ' H'=> ∃b' G',Rel X.K O Dl (el b') σ' H' G'/\whN tst step m b'=some rs,fun σ' H' ⟨b',G',r',h'⟩=>⟨m,Nat.lt_succ_self m,b',G',r',h'⟩,b,O,G2,o,r2,eo,?_⟩
    cases o with
    |nx b'=>exact fun σ2 H2 G2 r2=>⟨b',G2,r2,ho⟩
    |ct b'=>exact fun σ2 H2 G2 r2=>⟨b',G2,r2,ho⟩
    |bk b'=>
     simp only[Option.some.injEq] at ho
     subst ho
     exact fun σ2 H2 G2 r2=>⟨b',O,G2,q,r2,e4,kk⟩
    |ret d os=>
     simp only[Option.some.injEq] at ho
     subst ho
     cases e4
     exact fun v H' G' q=>⟨(kk v H' G' q).1,fun f=>(nomatch f)⟩
    |exc x=>
     simp only[Option.some.injEq] at ho
     subst ho
     cases e4
     exact kk
end
end Sw
namespace Sw
open PySem PySem.Spec PyProof.Rows L2
variable [NmC]
mutual
def D.pd:D->PyData
 | .non=>.none| .bl b=>.bool b| .int i=>.int i| .str x=>.str x
 | .lst ds=>.list (D.pds ds)
 | .tup ds=>.tuple (D.pds ds)
 | .dct _=>.dict []| .dcT _=>.dict []| .ins _ _=>.dict []| .fn _=>.dict []| .sc _=>.dict []
 | .glf _=>.dict []| .clo _ _=>.dict []
def D.pds:List D->List PyData
 | []=>[]
 |d::ds=>D.pd d::D.pds ds
end
mutual
def D.dat:D->Bool
 | .non=>true| .bl _=>true| .int _=>true| .str _=>true
 | .lst ds=>D.Ag ds| .tup ds=>D.Ag ds
 |_=>false
def D.Ag:List D->Bool
 | []=>true
 |d::ds=>D.dat d&&D.Ag ds
end
theorem D.Ik (ds:List D):D.pds ds=ds.map D.pd:=by
 induction ds with
 |nil=>rfl
 |cons d ds ih=>rw[List.map_cons,←ih];rfl
theorem D.Ah (ds:List D):D.Ag ds=ds.all D.dat:=by
 induction ds with
 |nil=>rfl
 |cons d ds ih=>rw[List.all_cons,←ih];rfl
section
variable {K:Frg} {S:Sa} {H:Hp}
mutual
theorem Rep.dp: ∀(d:D) (v:V),d.dat=true->Rep K S H d v->Dp K H v d.pd
 | .non,v,_,h=>by unfold Rep at h;subst h;exact .non
 | .bl b,v,_,h=>by unfold Rep at h;subst h;exact .bl b
 | .int b,v,_,h=>by unfold Rep at h;subst h;exact .int b
 | .str b,v,_,h=>by unfold Rep at h;subst h;exact .str b
 | .lst ds,v,hd,h=>by
  unfold Rep at h
  obtain⟨a,vs,rfl,_,l,r⟩:=h
  exact .lst (SqL.of l) (aD.dp ds vs (by unfold D.dat at hd;exact hd) r)
 | .tup ds,v,hd,h=>by
  unfold Rep at h
  obtain⟨a,vs,rfl,l,r⟩:=h
  exact .tup l.sq (aD.dp ds vs (by unfold D.dat at hd;exact hd) r)
 | .dct _,v,hd,h=>by cases hd
 | .dcT _,v,hd,h=>by cases hd
 | .ins _ _,v,hd,h=>by cases hd
 | .fn _,v,hd,h=>by cases hd
 | .glf _,v,hd,h=>by cases hd
 | .clo _ _,v,hd,h=>by cases hd
 | .sc _,v,hd,h=>by cases hd
theorem aD.dp: ∀(ds:List D) (vs:List V),D.Ag ds=true->aD K S H ds vs->DpAll K H vs (D.pds ds)
 | [],vs,_,h=>by unfold aD at h;subst h;exact .nil
 |d::ds,vs,hd,h=>by
  unfold aD at h
  obtain⟨v,r,rfl,h1,h2⟩:=h
  unfold D.Ag at hd
  rw[Bool.and_eq_true] at hd
  exact .cons (Rep.dp d v hd.1 h1) (aD.dp ds r hd.2 h2)
end
def D.toV:D->Option V
 | .non=>some .non| .bl b=>some (.bl b)| .int i=>some (.int i)| .str x=>some (.str x)
 |_=>none
theorem Rep.toV {d:D} {v w:V} (e:d.toV=some w) (h:Rep K S H d v):v=w:=by
 cases d with
 |non=>cases e;unfold Rep at h;exact h
 |bl b=>cases e;unfold Rep at h;exact h
 |int b=>cases e;unfold Rep at h;exact h
 |str b=>cases e;unfold Rep at h;exact h
 |_=>cases e
theorem Ai {d:D} {w:V} (e:d.toV=some w):flatV w=true:=by
 cases d <;> first|(cases e;rfl)|cases e
def D.sW:List D->Option (List V)
 | []=>some []
 |d::ds=>(d.toV).bind fun v=>(D.sW ds).bind fun vs=>some (v::vs)
theorem aD.sW: ∀{ds:List D} {vs ws:List V},D.sW ds=some ws->aD K S H ds vs->vs=ws
 | [],vs,ws,e,h=>by unfold aD at h;cases e;exact h
 |d::ds,vs,ws,e,h=>by
  unfold aD at h
  obtain⟨v,r,rfl,h1,h2⟩:=h
  unfold D.sW at e
  obtain⟨x,y,e1,e2,e3⟩:=cj e
  cases e3
  rw[Rep.toV e1 h1,aD.sW e2 h2]
theorem xH: ∀{ds:List D} {ws:List V},D.sW ds=some ws->ws.all flatV=true
 | [],ws,e=>by cases e;rfl
 |d::ds,ws,e=>by
  unfold D.sW at e
  obtain⟨x,y,e1,e2,e3⟩:=cj e
  cases e3
  rw[List.all_cons,Ai e1,xH e2];rfl
end
section
variable {X:Cx} {ma mb:Rg} {rg:Rg}
theorem bD.int {K:Frg} {O:Org} {H H1:Hp} {G1:Sa} {r:Rg} {b:Int} {v:V} (h:bD K O H H1 G1 (.rg r) (.int b) v):v= .int b:=by unfold bD Rep at h;exact h
theorem bD.str {K:Frg} {O:Org} {H H1:Hp} {G1:Sa} {r:Rg} {b:Str} {v:V} (h:bD K O H H1 G1 (.rg r) (.str b) v):v= .str b:=by unfold bD Rep at h;exact h
theorem iN {K:Frg} {O:Org} {H H1:Hp} {G1:Sa} {r:Rg} {b:Int}:bD K O H H1 G1 (.rg r) (.int b) (.int b):=by unfold bD Rep;rfl
theorem qM {K:Frg} {O:Org} {H H1:Hp} {G1:Sa} {r:Rg} {b:Str}:bD K O H H1 G1 (.rg r) (.str b) (.str b):=by unfold bD Rep;rfl
theorem l5 {K:Frg} {O:Org} {H H1:Hp} {G1:Sa} {r:Rg} {b:Bool}:bD K O H H1 G1 (.rg r) (.bl b) (.bl b):=by unfold bD Rep;rfl
def ii (f:Int->Int->Option Int):D->D->Option D
 | .int a,.int b=>(f a b).map .int
 |_,_=>none
theorem pY {f:Int->Int->Option Int} {x y d:D} (h:ii f x y=some d): ∃a b c,x= .int a/\y= .int b/\f a b=some c/\d= .int c:=by
 cases x <;> cases y <;> first|cases h|skip
 rename_i a b
 have h:(f a b).map D.int=some d:=h
 cases e:f a b with
 |none=>rw[e] at h;cases h
 |some c=>rw[e] at h;cases h;exact⟨a,b,c,rfl,rfl,e,rfl⟩
def D.bT:D->D->Option D:=ii fun a b=>some (a+b)
def D.gY:D->D->Option D:=ii fun a b=>some (a -b)
noncomputable def cif {α:Type} (p:Prop) (a:α):Option α:=@ite _ p (Classical.propDecidable p) (some a) none
theorem o7 {α:Type} {p:Prop} {a c:α} (h:cif p a=some c):p/\a=c:=by
 unfold cif at h
 split at h
 ·rename_i q;cases h;exact⟨q,rfl⟩
 ·cases h
theorem bU {α:Type} {p:Prop} {a:α} (h:p):cif p a=some a:=by
 unfold cif;exact if_pos h
noncomputable def vw (a b:Int):Bool:=@decide ((-(2^64)<a/\a<2^64)\/(-(2^64)<b/\b<2^64)) (Classical.propDecidable _)
noncomputable def D.j8:D->D->Option D:=ii fun a b=>if vw a b=true then some (a*b) else none
noncomputable def D.eT:D->D->Option D:=ii fun a b=>cif (0<b/\b<1073741824) (a/b)
noncomputable def D.bw:D->D->Option D:=ii fun a b=>cif (0<b) (a%b)
noncomputable def D.wQ:D->D->Option D:=ii fun a b=>cif (0<=b/\b<=1000000/\a.natAbs<2^64) (a^b.toNat)
theorem dF:Op2 X (rI0 fun i j=>.int (i+j)) (.rg ma) (.rg mb) (.rg rg) D.bT:=fun O H0 H G x y v w d Q e hx hy _ k=>by
 obtain⟨a,b,c,rfl,rfl,e2,rfl⟩:=pY e;cases e2
 exact⟨a,b,hx.int,hy.int,k _ H G .refl iN⟩
theorem jG:Op2 X (rI0 fun i j=>.int (i -j)) (.rg ma) (.rg mb) (.rg rg) D.gY:=fun O H0 H G x y v w d Q e hx hy _ k=>by
 obtain⟨a,b,c,rfl,rfl,e2,rfl⟩:=pY e;cases e2
 exact⟨a,b,hx.int,hy.int,k _ H G .refl iN⟩
theorem aH {α:Type} {p:Prop} [Decidable p] {a c:α} (h:(if p then some a else none)=some c):p/\a=c:=by
 split at h
 ·rename_i q;cases h;exact⟨q,rfl⟩
 ·cases h
theorem qN:Op2 X (rI CMul fun i j=>.int (i*j)) (.rg ma) (.rg mb) (.rg rg) D.j8:=fun O H0 H G x y v w d Q e hx hy _ k=>by
 obtain⟨a,b,c,rfl,rfl,e2,rfl⟩:=pY e
 obtain⟨q,rfl⟩:=aH e2
 refine⟨a,b,hx.int,hy.int,?_,k _ H G .refl iN⟩
 unfold vw at q
 exact @of_decide_eq_true _ (Classical.propDecidable _) q
theorem gN:Op2 X (rI CDiv fun i j=>.int (i/j)) (.rg ma) (.rg mb) (.rg rg) D.eT:=fun O H0 H G x y v w d Q e hx hy _ k=>by
 obtain⟨a,b,c,rfl,rfl,e2,rfl⟩:=pY e
 obtain⟨q,rfl⟩:=o7 e2
 exact⟨a,b,hx.int,hy.int,q,k _ H G .refl iN⟩
theorem bS:Op2 X (rI (fun _ j=>0<j) fun i j=>.int (i%j)) (.rg ma) (.rg mb) (.rg rg) D.bw:=fun O H0 H G x y v w d Q e hx hy _ k=>by
 obtain⟨a,b,c,rfl,rfl,e2,rfl⟩:=pY e
 obtain⟨q,rfl⟩:=o7 e2
 exact⟨a,b,hx.int,hy.int,q,k _ H G .refl iN⟩
theorem Fh:Op2 X (rI CPow fun i j=>.int (i^j.toNat)) (.rg ma) (.rg mb) (.rg rg) D.wQ:=fun O H0 H G x y v w d Q e hx hy _ k=>by
 obtain⟨a,b,c,rfl,rfl,e2,rfl⟩:=pY e
 obtain⟨q,rfl⟩:=o7 e2
 exact⟨a,b,hx.int,hy.int,q,k _ H G .refl iN⟩
def D.K1:D->Option D
 | .int a=>some (.int (-a))
 |_=>none
def ss {α:Type} (f:Str->Str->Option α):D->D->Option α
 | .str a,.str b=>f a b
 |_,_=>none
theorem Il {α:Type} {f:Str->Str->Option α} {x y:D} {d:α} (h:ss f x y=some d): ∃a b,x= .str a/\y= .str b/\f a b=some d:=by
 cases x <;> cases y <;> first|cases h|skip
 exact⟨_,_,rfl,rfl,h⟩
def D.kQ:D->D->Option D:=ss fun a b=>if a.length+b.length<=sizeLine then some (.str (a++b)) else none
theorem nF:Op2 X (fun x y H Q=> ∃i j,x= .str i/\y= .str j/\i.length+j.length<=sizeLine/\Q (.str (i++j)) H) (.rg ma) (.rg mb) (.rg rg) D.kQ:=fun O H0 H G x y v w d Q e hx hy _ k=>by
 obtain⟨a,b,rfl,rfl,e2⟩:=Il e
 obtain⟨q,rfl⟩:=aH e2
 exact⟨a,b,hx.str,hy.str,q,k _ H G .refl qM⟩
def ib (f:Int->Int->Bool):D->D->Option Bool
 | .int a,.int b=>some (f a b)
 |_,_=>none
theorem Im {f:Int->Int->Bool} {x y:D} {d:Bool} (h:ib f x y=some d): ∃a b,x= .int a/\y= .int b/\f a b=d:=by
 cases x <;> cases y <;> first|cases h|skip
 exact⟨_,_,rfl,rfl,rfl⟩
theorem iO {f:D->D->Option Bool} {x y d:D} (h:blD f x y=some d): ∃b,f x y=some b/\d= .bl b:=by
 unfold blD at h
 cases e:f x y with
 |none=>rw[e] at h;cases h
 |some b=>rw[e] at h;cases h;exact⟨b,rfl,rfl⟩
theorem nH {g:Int->Int->Bool}:Op2 X (rI0 fun i j=>.bl (g i j)) (.rg ma) (.rg mb) (.rg rg) (blD (ib g)):=fun O H0 H G x y v w d Q e hx hy _ k=>by
 obtain⟨b,e1,rfl⟩:=iO e
 obtain⟨i,j,rfl,rfl,e2⟩:=Im e1
 subst e2
 exact⟨i,j,hx.int,hy.int,k _ H G .refl l5⟩
abbrev D.ltI:D->D->Option Bool:=ib fun i j=>decide (i<j)
abbrev D.leI:D->D->Option Bool:=ib fun i j=>decide (i<=j)
abbrev D.gtI:D->D->Option Bool:=ib fun i j=>decide (j<i)
abbrev D.geI:D->D->Option Bool:=ib fun i j=>decide (j<=i)
def sLe (a b:Str):Bool:=decide (a.cps.toList<=b.cps.toList)
abbrev D.ltS:D->D->Option Bool:=ss fun a b=>some (decide (a.cps.toList<b.cps.toList))
def D.eqA (x y:D):Option Bool:=(x.toV).bind fun a=>(y.toV).bind fun b=>if scal a b=true then some (decide (a=b)) else none
def D.neA (x y:D):Option Bool:=(x.toV).bind fun a=>(y.toV).bind fun b=>if scal a b=true then some (!decide (a=b)) else none
theorem j9:Op2 X rEq (.rg ma) (.rg mb) (.rg rg) (blD D.eqA):=fun O H0 H G x y v w d Q e hx hy _ k=>by
 obtain⟨b,e1,rfl⟩:=iO e
 obtain⟨a,c,e2,e3,e4⟩:=cj e1
 obtain⟨q,rfl⟩:=aH e4
 rw[Rep.toV e2 hx,Rep.toV e3 hy]
 exact⟨q,k _ H G .refl l5⟩
theorem Ki:Op2 X rNe (.rg ma) (.rg mb) (.rg rg) (blD D.neA):=fun O H0 H G x y v w d Q e hx hy _ k=>by
 obtain⟨b,e1,rfl⟩:=iO e
 obtain⟨a,c,e2,e3,e4⟩:=cj e1
 obtain⟨q,rfl⟩:=aH e4
 rw[Rep.toV e2 hx,Rep.toV e3 hy]
 exact⟨q,k _ H G .refl l5⟩
def D.ok2 (x y:D):Bool:=x.dat&&y.dat&&SeqAt.shaped x.pd&&SeqAt.shaped y.pd
def D.eqD (x y:D):Option Bool:=if D.ok2 x y=true then some (PyData.eqv x.pd y.pd) else none
def D.neD (x y:D):Option Bool:=if D.ok2 x y=true then some (!PyData.eqv x.pd y.pd) else none
theorem Fi {x y:D} (h:D.ok2 x y=true):x.dat=true/\y.dat=true/\SeqAt.shaped x.pd=true/\SeqAt.shaped y.pd=true:=by
 unfold D.ok2 at h
 simp only[Bool.and_eq_true] at h
 exact⟨h.1.1.1,h.1.1.2,h.1.2,h.2⟩
theorem Kj {m1 m2:VM}:Op2 X (rEqD X.K) m1 m2 (.rg rg) (blD D.eqD):=fun O H0 H G x y v w d Q e hx hy _ k=>by
 obtain⟨b,e1,rfl⟩:=iO e
 obtain⟨q,rfl⟩:=aH e1
 obtain⟨h1,h2,h3,h4⟩:=Fi q
 exact⟨_,_,Rep.dp x v h1 hx.hb,Rep.dp y w h2 hy.hb,h3,h4,k _ H G .refl l5⟩
theorem M5 {m1 m2:VM}:Op2 X (rNeD X.K) m1 m2 (.rg rg) (blD D.neD):=fun O H0 H G x y v w d Q e hx hy _ k=>by
 obtain⟨b,e1,rfl⟩:=iO e
 obtain⟨q,rfl⟩:=aH e1
 obtain⟨h1,h2,h3,h4⟩:=Fi q
 exact⟨_,_,Rep.dp x v h1 hx.hb,Rep.dp y w h2 hy.hb,h3,h4,k _ H G .refl l5⟩
def D.items:D->Option (List D)
 | .lst ds=>some ds
 | .tup ds=>some ds
 |_=>none
theorem Rep.items {K:Frg} {S:Sa} {H:Hp} {d:D} {ds:List D} {v:V} (e:d.items=some ds) (h:Rep K S H d v): ∃a vs,v= .ref a/\(SqL K H a vs\/SqT K H a vs)/\aD K S H ds vs:=by
 cases d <;> first|cases e|skip
 ·unfold Rep at h
  obtain⟨a,vs,e1,_,l,r⟩:=h
  exact⟨a,vs,e1,.inl (SqL.of l),r⟩
 ·unfold Rep at h
  obtain⟨a,vs,e1,l,r⟩:=h
  exact⟨a,vs,e1,.inr l.sq,r⟩
def D.inA (neg:Bool) (x y:D):Option Bool:=(x.toV).bind fun a=>(y.items).bind fun ds=>(D.sW ds).map fun vs=>if neg=true then !inV a vs else inV a vs
theorem M6 {neg:Bool} {m2:VM}:Op2 X (rIn X.K neg) (.rg ma) m2 (.rg rg) (blD (D.inA neg)):=fun O H0 H G x y v w d Q e hx hy _ k=>by
 obtain⟨b,e1,rfl⟩:=iO e
 obtain⟨a,ds,e2,e3,e4⟩:=cj e1
 cases q:D.sW ds with
 |none=>rw[q] at e4;cases e4
 |some vs=>
  rw[q] at e4;cases e4
  obtain⟨p,ws,rfl,l,r⟩:=Rep.items e3 hy.hb
  have:=aD.sW q r
  subst this
  have hv:=Rep.toV e2 hx
  subst hv
  exact⟨p,ws,rfl,l,Ai e2,xH q,k _ H G .refl l5⟩
def D.isN:D->Option Bool
 | .non=>some true
 | .bl _=>some false| .int _=>some false| .str _=>some false
 | .lst _=>some false| .tup _=>some false| .dct _=>some false| .dcT _=>some false| .ins _ _=>some false| .fn _=>some false| .sc _=>some false| .glf _=>some false| .clo _ _=>some false
end
end Sw
namespace Sw
open PySem PySem.Spec PyProof.Rows L2
variable [NmC]
section
variable {K:Frg} {O:Org} {H H1 H2:Hp} {G G1 G2:Sa}
theorem Ext.new {p:Addr} {o:HO} (h:H p=none):Ext H G (upd H p o) G:=
 .of (fun q u e=>by rw[upd_ne (ne_of_none e h)];exact e) (fun _ g=>g) (fun _ g=>.inl g)
theorem Ext.M7 {p:Addr} {o:HO} (h:H p=none):Ext H G (upd H p o) (fun q=>G q\/q=p):=
 .of (fun q u e=>by rw[upd_ne (ne_of_none e h)];exact e) (fun _ g=>.inl g) (fun q g=>g.elim .inl fun e=>by subst e;exact .inr (.inl ⟨h,by rw[upd_same];simp⟩))
theorem CO {S:Sa} {p:Addr} {o:HO} (h:H p=none):Agr S H (upd H p o):=qK fun q u e=>by rw[upd_ne (ne_of_none e h)];exact e
theorem yA: ∀{ds:List D} {vs:List V},aD K G H ds vs->gX (Own K G H .fz) ds vs []
 | [],_,h=>by unfold aD at h;exact⟨h,rfl⟩
 |d::ds,_,h=>by
  unfold aD at h
  obtain⟨v,r,e,h1,h2⟩:=h
  exact⟨v,r,[],[],e,by unfold Own;exact⟨h1,rfl⟩,yA h2,rfl⟩
theorem mw {ds:List D} {vs:List V} {p:Addr} (hp:H p=none) (gin: ∀p,G p->H p≠none) (r:aD K G H ds vs):bD K O H (upd H p (.lst vs)) G (.nw (.ls .fz)) (.lst ds) (.ref p):=by
 refine⟨[p],(by simp:[p].Nodup),fun q m=> ?_,?_⟩
 ·rw[List.mem_singleton] at m
  subst m
  exact⟨hp,fun g=>gin _ g hp⟩
 ·unfold Own
  exact⟨p,vs,ds,[],rfl,rfl,upd_same,yA (aD.mono (fun _ g=>g) (CO hp) ds vs r),rfl⟩
def allM (m:VM):List VM->Prop
 | []=>True
 |n::ns=>n=m/\allM m ns
theorem lB.K3 {r:Rg}: ∀{ms:List VM} {ds:List D} {vs:List V},allM (.rg r) ms->lB K O H H1 G1 ms ds vs->aD K (rgn O G1 r) H1 ds vs
 | [],[],_,_,h=>by rw[show _=[] from h];exact .nil
 |m::ms,d::ds,_,⟨e,a⟩,⟨v,r,e1,h1,h2⟩=>by
  subst e;subst e1
  exact .cons h1 (lB.K3 a h2)
 | [],_::_,_,_,h=>h.elim
 |_::_,[],_,_,h=>h.elim
end
section
variable {X:Cx} {Δ:List Md} {st:Ds} {a b e o:Expr} {es:List Expr} {m ma mb:VM} {ra rb:Option D} {pos:Pos} {r rg:Rg}
theorem o8 {ms:List VM} {rs:Option (List D)} (h:PAx X Δ st es ms rs) (hm:allM (.rg .fz) ms):PX X Δ st (.List es pos) (.nw (.ls .fz)) (rs.bind fun ds=>if ds.length<=sizeLine then some (.lst ds) else none):=
 cg (pe_lst h) fun σ H Q ⟨O,G,d,rel,er,k⟩=>by
  obtain⟨ds,e1,e2⟩:=bind1 er
  obtain⟨q,rfl⟩:=aH e2
  refine rdA.go rel e1 fun vs H1 G1 rel1 x1 v1=> ?_
  have hr:=v1.K3 hm
  exact⟨by rw[hr.length];exact q,fun p hp=>k _ _ G1 (x1.trans (.new hp)) (bD.back x1 (mw hp rel1.gin hr))⟩
theorem pZ {s:Sh}:PX X Δ st (.List [] pos) (.nw (.ls s)) (some (.lst [])):=
 cg (pe_lst pa_nil) fun σ H Q ⟨O,G,d,rel,er,k⟩=>by
  cases er
  refine⟨Nat.zero_le _,fun p hp=>k _ _ G (.new hp) ⟨[p],(by simp:[p].Nodup),fun q m=> ?_,?_⟩⟩
  ·rw[List.mem_singleton] at m
   subst m
   exact⟨hp,fun g=>rel.gin _ g hp⟩
  ·unfold Own
   exact⟨p,[],[],[],rfl,rfl,upd_same,⟨rfl,rfl⟩,rfl⟩
theorem Fj {ms:List VM} {rs:Option (List D)} (h:PAx X Δ st es ms rs) (hm:allM (.rg .fz) ms) {x1:Nat} (hl:es.length<=1000) (hlen: ∀ds,rs=some ds->ds.length<=1000):PX X Δ st (.Tuple es x1 pos) (.rg .fz) (rs.bind fun ds=>some (.tup ds)):=
 cg (pe_tup h) fun σ H Q ⟨O,G,d,rel,er,k⟩=>by
  obtain⟨ds,e1,e2⟩:=bind1 er
  cases e2
  refine rdA.go rel e1 fun vs H1 G1 rel1 x1 v1=> ?_
  have hr:=v1.K3 hm
  refine⟨by rw[hr.length];exact Nat.le_of_lt (small1000 (hlen ds e1)),fun p hp=>k _ _ _ (x1.trans (.M7 hp)) ?_⟩
  unfold bD Rep
  exact⟨p,vs,rfl,⟨.inr rfl,upd_same⟩,aD.mono (fun _ g=>.inl g) (CO hp) ds vs hr⟩
theorem rF {s:Sh}:PX X Δ st (.Dict [] [] pos) (.nw (.dc s)) (some (.dct [])):=
 cg pe_dnewK fun σ H Q ⟨O,G,d,rel,er,k⟩=>by
  cases er
  refine fun p hp=>k _ _ G (.new hp) ⟨[p],(by simp:[p].Nodup),fun q m=> ?_,?_⟩
  ·rw[List.mem_singleton] at m
   subst m
   exact⟨hp,fun g=>rel.gin _ g hp⟩
  ·unfold Own
   exact⟨p,[],[],[],rfl,rfl,upd_same,List.nodup_nil,⟨rfl,rfl⟩,rfl⟩
theorem aQ {r2:R2} {f:D->D->Option D} (hr:IxR X r2) (hf:Op2 X r2 ma mb m f) (ha:PX X Δ st a ma ra) (hb:PX X Δ st b mb rb) (hs:PlainIx b):PX X Δ st (.Subscript a b pos) m (ra.bind fun x=>rb.bind fun y=>f x y):=
 cg (pe_ix hr ha hb hs) fun _ _ _ h=>vq hf h
def D.atL (x y:D):Option D:=match x,y with
 | .lst ds,.int i=>atI ds i
 |_,_=>none
def D.atT (x y:D):Option D:=match x,y with
 | .tup ds,.int i=>atI ds i
 |_,_=>none
def D.atS (x y:D):Option D:=match x,y with
 | .str z,.int i=>if z.length<=sizeLine then (atI z.cps.toList i).map fun c=>.str ⟨#[c]⟩ else none
 |_,_=>none
def D.atC (x y:D):Option D:=match x,y with
 | .sc ns,.int i=>(atI ns i).map D.int
 |_,_=>none
theorem aD.atI {K:Frg} {S:Sa} {H:Hp} {ds:List D} {vs:List V} {i:Int} {d:D} (h:aD K S H ds vs) (e:L2.atI ds i=some d): ∃v,L2.atI vs i=some v/\Rep K S H d v:=by
 unfold L2.atI at e⊢
 rw[h.length]
 cases q:ixN ds.length i with
 |none=>rw[q] at e;cases e
 |some j=>
  rw[q] at e
  exact h.get e
theorem xI:Op2 X (rIxL X.K) (.rg r) (.rg mb') (.rg r) D.atL:=fun O H0 H G x y v w d Q e hx hy _ k=>by
 cases x <;> cases y <;> first|cases e|skip
 rename_i ds i
 unfold bD Rep at hx
 obtain⟨a,vs,rfl,_,l,rr⟩:=hx
 obtain⟨u,e1,e2⟩:=rr.atI e
 exact⟨a,vs,i,u,rfl,hy.int,SqL.of l,e1,k _ H G .refl e2⟩
theorem bh:Op2 X (rIxT X.K) (.rg r) (.rg mb') (.rg r) D.atT:=fun O H0 H G x y v w d Q e hx hy _ k=>by
 cases x <;> cases y <;> first|cases e|skip
 rename_i ds i
 unfold bD Rep at hx
 obtain⟨a,vs,rfl,l,rr⟩:=hx
 obtain⟨u,e1,e2⟩:=rr.atI e
 exact⟨a,vs,i,u,rfl,hy.int,l.sq,e1,k _ H G .refl e2⟩
theorem Aj:Op2 X rIxS (.rg r) (.rg mb') (.rg rg) D.atS:=fun O H0 H G x y v w d Q e hx hy _ k=>by
 cases x <;> cases y <;> first|cases e|skip
 rename_i z i
 have e:(if z.length<=sizeLine then (atI z.cps.toList i).map fun c=>D.str ⟨#[c]⟩ else none)=some d:=e
 split at e
 ·rename_i q
  cases e1:atI z.cps.toList i with
  |none=>rw[e1] at e;cases e
  |some c=>rw[e1] at e;cases e;exact⟨z,i,c,hx.str,hy.int,q,e1,k _ H G .refl qM⟩
 ·cases e
theorem Io {α β:Type} (f:α->β) (l:List α) (i:Int):atI (l.map f) i=(atI l i).map f:=by
 unfold atI
 rw[List.length_map]
 cases ixN l.length i with
 |none=>rfl
 |some j=>simp
theorem M8:Op2 X (rIxL X.K) (.rg r) (.rg mb') (.rg rg) D.atC:=fun O H0 H G x y v w d Q e hx hy _ k=>by
 cases x <;> cases y <;> first|cases e|skip
 rename_i ns i
 have e:(atI ns i).map D.int=some d:=e
 unfold bD Rep at hx
 obtain⟨a,rfl,l⟩:=hx
 cases e1:atI ns i with
 |none=>rw[e1] at e;cases e
 |some c=>rw[e1] at e;cases e;exact⟨a,_,i,.int c,rfl,hy.int,l.sq,by rw[Io,e1];rfl,k _ H G .refl iN⟩
def D.key:D->Option Key
 | .int i=>some (.inl i)
 | .str x=>some (.inr x)
 |_=>none
def kD:Key->D
 | .inl i=>.int i
 | .inr x=>.str x
theorem Rep.key {K:Frg} {S:Sa} {H:Hp} {d:D} {k:Key} {v:V} (e:d.key=some k) (h:Rep K S H d v):v=kV k:=by
 cases d <;> first|cases e|skip
 ·unfold Rep at h;exact h
 ·unfold Rep at h;exact h
def D.keys:List D->Option (List Key)
 | []=>some []
 |d::ds=>(d.key).bind fun k=>(D.keys ds).bind fun ks=>some (k::ks)
theorem aD.keys {K:Frg} {S:Sa} {H:Hp}: ∀{ds:List D} {ks:List Key} {vs:List V},D.keys ds=some ks->aD K S H ds vs->vs=ks.map kV
 | [],_,_,e,h=>by unfold aD at h;cases e;exact h
 |d::ds,_,_,e,h=>by
  unfold aD at h
  obtain⟨v,r,rfl,h1,h2⟩:=h
  unfold D.keys at e
  obtain⟨x,y,e1,e2,e3⟩:=cj e
  cases e3
  rw[Rep.key e1 h1,aD.keys e2 h2];rfl
def D.K4:D->Option (List Key)
 | .tup ds=>D.keys ds
 |_=>none
def D.look (x y:D):Option (Option D):=match x with
 | .dct ks=>(y.key).map fun k=>aC ks k
 | .dcT ks=>(y.K4).map fun k=>aC ks k
 |_=>none
theorem gU.get {K:Frg} {S:Sa} {H:Hp}: ∀{ks:List (List Key×D)} {kvs:List (List Key×V)} (k:List Key),gU K S H ks kvs->(∀d,aC ks k=some d-> ∃v,valV kvs k=some v/\Rep K S H d v)/\(aC ks k=none->valV kvs k=none)
 | [],_,k,h=>by
  unfold gU at h
  rw[h]
  exact⟨fun d e=>(nomatch e),fun _=>rfl⟩
 |(j,d)::ks,_,k,h=>by
  unfold gU at h
  obtain⟨v,r,rfl,h1,h2⟩:=h
  have ih:=gU.get k h2
  rw[aZ]
  by_cases e:j=k
  ·subst e
   rw[valV_pos rfl]
   simp only[if_true]
   exact⟨fun d' e'=>⟨v,rfl,(Option.some.inj e')▸h1⟩,fun e'=>(nomatch e')⟩
  ·rw[valV_neg (show ¬(j,v).1=k from e)]
   simp only[e,if_false]
   exact ih
theorem Rep.look {K:Frg} {S S':Sa} {H:Hp} {x y:D} {o:Option D} {v w:V} (e:D.look x y=some o) (hx:Rep K S H x v) (hy:Rep K S' H y w): ∃a u,v= .ref a/\DGet H a w u/\IsD H a/\(∀d,o=some d-> ∃z,u=some z/\Rep K S H d z)/\(o=none->u=none):=by
 cases x <;> first|cases e|skip
 ·rename_i ks
  have e:(y.key).map (fun k=>aC ks k)=some o:=e
  cases q:y.key with
  |none=>rw[q] at e;cases e
  |some k=>
   rw[q] at e;cases e
   unfold Rep at hx
   obtain⟨a,kvs,rfl,_,l,nd,rr⟩:=hx
   obtain⟨g1,g2⟩:=rr.get k
   exact⟨a,valV kvs k,rfl,.inl ⟨kvs,k,l,Rep.key q hy,rfl⟩,.inl ⟨kvs,l⟩,fun d e=>g1 d e,g2⟩
 ·rename_i ks
  have e:(y.K4).map (fun k=>aC ks k)=some o:=e
  cases q:y.K4 with
  |none=>rw[q] at e;cases e
  |some k=>
   rw[q] at e;cases e
   unfold Rep at hx
   obtain⟨a,kvs,rfl,_,l,nd,rr⟩:=hx
   obtain⟨g1,g2⟩:=rr.get k
   cases y <;> first|cases q|skip
   unfold Rep at hy
   obtain⟨b,vs,rfl,lt,rs⟩:=hy
   have:=rs.keys q
   subst this
   exact⟨a,valV kvs k,rfl,.inr ⟨kvs,k,b,l,rfl,lt.2,rfl⟩,.inr ⟨kvs,l⟩,fun d e=>g1 d e,g2⟩
def D.ux (x y:D):Option D:=(D.look x y).bind id
def D.inK (y x:D):Option Bool:=(D.look x y).map fun o=>o.isSome
def D.Ip (y x:D):Option Bool:=(D.look x y).map fun o=> !o.isSome
theorem Fl (hu:X.A.units+1<cLine) (ha:PX X Δ st a (.rg r) ra) (hb:PX X Δ st b mb rb) (hs:NoSl b):PX X Δ st (.Subscript a b pos) (.rg r) (ra.bind fun x=>rb.bind fun y=>D.ux x y):=
 cg (pe_dget hu ha hb hs) fun σ H Q h=>vq (r2:=fun x y H Q=> ∃a v,x= .ref a/\DGet H a y (some v)/\Q v H) (fun O H0 H G x y v w d Q e hx hy _ k=>by
  unfold D.ux at e
  obtain⟨o,e1,e2⟩:=bind1 e
  cases e2
  obtain⟨a,u,rfl,g,_,f,_⟩:=Rep.look e1 (show Rep _ _ _ x v from hx) hy.hb
  obtain⟨z,rfl,hz⟩:=f d rfl
  exact⟨a,z,rfl,g,k _ H G .refl hz⟩) h
def D.tb:D->Option Bool
 | .bl b=>some b
 |_=>none
theorem uP {d:D} {b:Bool} (h:d.tb=some b):d= .bl b:=by
 cases d <;> first|cases h|skip
 rfl
theorem oL (h:PX X Δ st e (.rg r) ra) (he: ∀whole,isTrue e X.env whole=(do let v<-whole;standAt e.pos;holding [v] (truthy v)):=by intro _;rfl):PTx X Δ st e (ra.bind D.tb):=
 CM (pt_val h he) fun σ H Q ⟨O,G,b,rel,er,k⟩=>by
  obtain⟨d,e1,e2⟩:=bind1 er
  have:=uP e2
  subst this
  exact rdE.go rel e1 fun v H1 G1 rel1 x1 v1=>⟨b,v1.bl,k H1 G1 x1⟩
theorem nJ {rt:Option Bool} (h:PTx X Δ st e rt):PTx X Δ st (.UnaryOp .Not e pos) (rt.bind fun b=>some (!b)):=
 CM (pt_not h) fun σ H Q ⟨O,G,b,rel,er,k⟩=>by
  obtain⟨d,e1,e2⟩:=bind1 er
  cases e2
  exact rdT.go rel e1 fun H1 G1 rel1 x1=>k H1 G1 x1
theorem rG {rt:Option Bool} (h:PTx X Δ st e rt):PWx X Δ st (.BoolOp .And [e] pos) rt:=pw_and1 h
theorem rH {rt:Option Bool} (h:PTx X Δ st e rt):PWx X Δ st (.BoolOp .Or [e] pos) rt:=pw_or1 h
theorem uQ {rt rs:Option Bool} {b:Expr} {rest:List Expr} (h:PTx X Δ st e rt) (hb:PWx X Δ st (.BoolOp .And (b::rest) pos) rs):PWx X Δ st (.BoolOp .And (e::b::rest) pos) (rt.bind fun c=>if c=true then rs else some false):=
 Kg (pw_and h hb) fun σ H Q ⟨O,G,b,rel,er,k⟩=>by
  obtain⟨c,e1,e2⟩:=bind1 er
  refine rdT.go rel e1 fun H1 G1 rel1 x1=> ?_
  cases c with
  |true=>exact rdT.go rel1 (by simpa using e2) fun H2 G2 rel2 x2=>k H2 G2 (x1.trans x2)
  |false=>cases e2;exact k H1 G1 x1
theorem vx {rt rs:Option Bool} {b:Expr} {rest:List Expr} (h:PTx X Δ st e rt) (hb:PWx X Δ st (.BoolOp .Or (b::rest) pos) rs):PWx X Δ st (.BoolOp .Or (e::b::rest) pos) (rt.bind fun c=>if c=true then some true else rs):=
 Kg (pw_or h hb) fun σ H Q ⟨O,G,b,rel,er,k⟩=>by
  obtain⟨c,e1,e2⟩:=bind1 er
  refine rdT.go rel e1 fun H1 G1 rel1 x1=> ?_
  cases c with
  |false=>exact rdT.go rel1 (by simpa using e2) fun H2 G2 rel2 x2=>k H2 G2 (x1.trans x2)
  |true=>cases e2;exact k H1 G1 x1
theorem vy {op:PySem.BoolOp} (h:PX X Δ st e m ra):PX X Δ st (.BoolOp op [e] pos) m ra:=pe_one h
theorem yB {b:Expr} {rest:List Expr} (h:PX X Δ st e (.rg r) ra) (hb:PX X Δ st (.BoolOp .And (b::rest) pos) (.rg rg) rb):PX X Δ st (.BoolOp .And (e::b::rest) pos) (.rg rg) ((ra.bind D.tb).bind fun c=>if c=true then rb else some (.bl false)):=
 cg (pe_and h hb) fun σ H Q ⟨O,G,d,rel,er,k⟩=>by
  obtain⟨c,e1,e2⟩:=bind1 er
  obtain⟨x,e3,e4⟩:=bind1 e1
  have:=uP e4
  subst this
  refine rdE.go rel e3 fun v H1 G1 rel1 x1 v1=>⟨c,v1.bl,?_⟩
  cases c with
  |true=>exact rdE.go rel1 (by simpa using e2) fun w H2 G2 rel2 x2 v2=>k w H2 G2 (x1.trans x2) v2
  |false=>cases e2;exact k _ H1 G1 x1 l5
theorem Kk {b:Expr} {rest:List Expr} (h:PX X Δ st e (.rg r) ra) (hb:PX X Δ st (.BoolOp .Or (b::rest) pos) (.rg rg) rb):PX X Δ st (.BoolOp .Or (e::b::rest) pos) (.rg rg) ((ra.bind D.tb).bind fun c=>if c=true then some (.bl true) else rb):=
 cg (pe_or h hb) fun σ H Q ⟨O,G,d,rel,er,k⟩=>by
  obtain⟨c,e1,e2⟩:=bind1 er
  obtain⟨x,e3,e4⟩:=bind1 e1
  have:=uP e4
  subst this
  refine rdE.go rel e3 fun v H1 G1 rel1 x1 v1=>⟨c,v1.bl,?_⟩
  cases c with
  |false=>exact rdE.go rel1 (by simpa using e2) fun w H2 G2 rel2 x2 v2=>k w H2 G2 (x1.trans x2) v2
  |true=>cases e2;exact k _ H1 G1 x1 l5
theorem Fm (h:PX X Δ st e (.rg r) ra):PX X Δ st (.UnaryOp .Not e pos) (.rg rg) ((ra.bind D.tb).bind fun c=>some (.bl (!c))):=
 cg (pe_not h) fun σ H Q ⟨O,G,d,rel,er,k⟩=>by
  obtain⟨c,e1,e2⟩:=bind1 er
  obtain⟨x,e3,e4⟩:=bind1 e1
  have:=uP e4
  subst this
  cases e2
  exact rdE.go rel e3 fun v H1 G1 rel1 x1 v1=>⟨c,v1.bl,k _ H1 G1 x1 l5⟩
def un1 {α:Type} (f:D->Option α):List D->Option α
 | [x]=>f x
 |_=>none
def un2 {α:Type} (f:D->D->Option α):List D->Option α
 | [x,y]=>f x y
 |_=>none
theorem kd {α:Type} {f:D->Option α} {xs:List D} {d:α} (h:un1 f xs=some d): ∃x,xs=[x]/\f x=some d:=by
 match xs,h with
 | [x],h=>exact⟨x,rfl,h⟩
theorem yC {K:Frg} {O:Org} {H H1:Hp} {G1:Sa} {m1:VM} {x:D} {vs:List V} (h:lB K O H H1 G1 [m1] [x] vs): ∃v,vs=[v]/\bD K O H H1 G1 m1 x v:=by
 obtain⟨v,r,e,h1,h2⟩:=h
 rw[show r=[] from h2] at e
 exact⟨v,e,h1⟩
theorem O6 {K:Frg} {O:Org} {H H1:Hp} {G1:Sa} {m1 m2:VM} {x y:D} {vs:List V} (h:lB K O H H1 G1 [m1,m2] [x,y] vs): ∃v w,vs=[v,w]/\bD K O H H1 G1 m1 x v/\bD K O H H1 G1 m2 y w:=by
 obtain⟨v,r,e,h1,w,r2,e2,h2,h3⟩:=h
 rw[show r2=[] from h3] at e2
 exact⟨v,w,by rw[e,e2],h1,h2⟩
def D.uy (x:D):Option D:=(x.items).map fun ds=>.int ds.length
theorem Fn:OpN X (fun xs H Q=> ∃p ys,xs=[.ref p]/\(SqL X.K H p ys\/SqT X.K H p ys)/\Q (.int ys.length) H) [ma] (.rg rg) (un1 D.uy):=fun O H0 H G xs vs d Q e hv _ k=>by
 obtain⟨x,rfl,e1⟩:=kd e
 obtain⟨v,rfl,h1⟩:=yC hv
 unfold D.uy at e1
 cases q:x.items with
 |none=>rw[q] at e1;cases e1
 |some ds=>
  rw[q] at e1;cases e1
  obtain⟨p,ws,rfl,l,r⟩:=Rep.items q h1.hb
  refine⟨p,ws,rfl,l,?_⟩
  rw[r.length]
  exact k _ H G .refl iN
def D.Ak (x:D):Option D:=match x with
 | .sc ns=>some (.int ns.length)
 |_=>none
theorem K5:OpN X (fun xs H Q=> ∃p ys,xs=[.ref p]/\(SqL X.K H p ys\/SqT X.K H p ys)/\Q (.int ys.length) H) [.rg r] (.rg rg) (un1 D.Ak):=fun O H0 H G xs vs d Q e hv _ k=>by
 obtain⟨x,rfl,e1⟩:=kd e
 obtain⟨v,rfl,h1⟩:=yC hv
 cases x <;> first|cases e1|skip
 unfold bD Rep at h1
 obtain⟨a,rfl,l⟩:=h1
 refine⟨a,_,rfl,.inl l.sq,?_⟩
 rw[List.length_map]
 exact k _ H G .refl iN
def D.wR (x:D):Option D:=match x with
 | .str z=>if z.length<=sizeLine then some (.int z.length) else none
 |_=>none
theorem Fp:OpN X (fun xs H Q=> ∃x n,xs=[x]/\LenV X.K x H n/\Q (.int n) H) [.rg r] (.rg rg) (un1 D.wR):=fun O H0 H G xs vs d Q e hv _ k=>by
 obtain⟨x,rfl,e1⟩:=kd e
 obtain⟨v,rfl,h1⟩:=yC hv
 cases x <;> first|cases e1|skip
 rename_i z
 obtain⟨q,rfl⟩:=aH (show (if z.length<=sizeLine then some (D.int z.length) else none)=some d from e1)
 rw[h1.str]
 exact⟨_,z.length,rfl,⟨q,rfl⟩,k _ H G .refl iN⟩
def D.Iq (x:D):Option D:=match x with
 | .dct ks=>some (.int ks.length)
 |_=>none
def D.toL (x:D):Option D:=(x.items).map .lst
theorem Fq {K:Frg} {O:Org} {H H1:Hp} {G1:Sa} {x:D} {ds:List D} {v:V} (e:x.items=some ds) (h:bD K O H H1 G1 (.rg .fz) x v): ∃a vs,v= .ref a/\(SqL K H1 a vs\/SqT K H1 a vs)/\aD K G1 H1 ds vs:=Rep.items e h
theorem M9:OpN X (fun xs H Q=> ∃p ys,xs=[.ref p]/\(SqL X.K H p ys\/SqT X.K H p ys)/\ ∀l,H l=none->Q (.ref l) (upd H l (.lst ys))) [.rg .fz] (.nw (.ls .fz)) (un1 D.toL):=fun O H0 H G xs vs d Q e hv gin k=>by
 obtain⟨x,rfl,e1⟩:=kd e
 obtain⟨v,rfl,h1⟩:=yC hv
 unfold D.toL at e1
 cases q:x.items with
 |none=>rw[q] at e1;cases e1
 |some ds=>
  rw[q] at e1;cases e1
  obtain⟨p,ws,rfl,l,r⟩:=Fq q h1
  exact⟨p,ws,rfl,l,fun l' hl=>k _ _ G (.new hl) (mw hl gin r)⟩
end
end Sw
namespace Sw
open PySem PySem.Spec PyProof.Rows L2
variable [NmC]
section
variable {X:Cx} {Δ:List Md} {st:Ds} {a b e o:Expr} {es:List Expr} {m ma mb:VM} {ra rb:Option D} {pos p2:Pos} {r rg:Rg}
def rdO (K:Frg) (Δ:List Md) (st:Ds) (ro:Option (Option Int)):TO:=fun σ H Q=> ∃O G i,Rel K O Δ st σ H G/\ro=some i/\ ∀H' G',Ext H G H' G'->Q i H'
abbrev POx (X:Cx) (Δ:List Md) (st:Ds) (e:Option Expr) (r:Option (Option Int)):Prop:=PO X e (rdO X.K Δ st r)
theorem rJ:POx X Δ st none (some none):=⟨fun pins s σ H Q I ⟨O,G,i,rel,er,k⟩=>by
 cases er
 exact po_none.run pins s σ H Q I (k H G .refl)⟩
def D.toI:D->Option (Option Int)
 | .int i=>some (some i)
 |_=>none
theorem mJ (h:PX X Δ st e (.rg r) ra):POx X Δ st (some e) (ra.bind D.toI):=⟨fun pins s σ H Q I ⟨O,G,i,rel,er,k⟩=>by
 obtain⟨d,e1,e2⟩:=bind1 er
 cases d <;> first|cases e2|skip
 exact (po_some h).run pins s σ H Q I (rdE.go rel e1 fun v H1 G1 rel1 x1 v1=>⟨_,v1.int,k H1 G1 x1⟩)⟩
def fT {α:Type} (xs:List α) (lo hi:Option Int):List α:=(xs.drop (HT.sIx xs.length 0 lo)).take (HT.sIx xs.length xs.length hi -HT.sIx xs.length 0 lo)
def D.fT (x:D) (lo hi:Option Int):Option D:=match x with
 | .lst ds=>some (.lst (Sw.fT ds lo hi))
 |_=>none
theorem aD.cut {K:Frg} {S:Sa} {H:Hp} {ds:List D} {vs:List V} (h:aD K S H ds vs) (lo hi:Option Int):aD K S H (Sw.fT ds lo hi) (cutV vs lo hi):=by
 unfold Sw.fT cutV
 rw[h.length]
 exact (h.drop _).take _
theorem yD {lo hi:Option Expr} {rl rh:Option (Option Int)} (ha:PX X Δ st a (.rg .fz) ra) (hl:POx X Δ st lo rl) (hh:POx X Δ st hi rh):PX X Δ st (.Subscript a (.Slice lo hi none p2) pos) (.nw (.ls .fz)) (ra.bind fun x=>rl.bind fun l=>rh.bind fun u=>D.fT x l u):=
 cg (L2.pe_slice sl_list ha hl hh) fun σ H Q ⟨O,G,d,rel,er,k⟩=>by
  obtain⟨x,e1,er⟩:=bind1 er
  obtain⟨l,u,e2,e3,e4⟩:=cj er
  cases x <;> first|cases e4|skip
  refine rdE.go rel e1 fun v H1 G1 rel1 x1 v1=>⟨O,G1,l,rel1,e2,fun H2 G2 x2=>⟨O,G2,u,rel1.ext x2,e3,fun H3 G3 x3=> ?_⟩⟩
  have v3:=(v1.mono x2).mono x3
  unfold bD Rep at v3
  obtain⟨p,vs,rfl,_,l',r'⟩:=v3
  exact⟨p,vs,rfl,SqL.of l',fun q hq=>k _ _ G3 ((x1.trans (x2.trans x3)).trans (.new hq)) (bD.back (x1.trans (x2.trans x3)) (mw hq ((rel1.ext x2).ext x3).gin (r'.cut l u)))⟩
def D.K6 (x:D) (lo hi:Option Int):Option D:=match x with
 | .sc ns=>some (.lst ((Sw.fT ns lo hi).map D.int))
 |_=>none
theorem sX {K:Frg} {S:Sa} {H:Hp}: ∀ns:List Int,aD K S H (ns.map D.int) (ns.map V.int)
 | []=>.nil
 |n::ns=>.cons (by unfold Rep;rfl) (sX ns)
def D.cutS (x:D) (lo hi:Option Int):Option D:=match x with
 | .str z=>if z.length<=sizeLine then some (.str (L2.cutS z lo hi)) else none
 |_=>none
theorem Ir {lo hi:Option Expr} {rl rh:Option (Option Int)} (ha:PX X Δ st a (.rg r) ra) (hl:POx X Δ st lo rl) (hh:POx X Δ st hi rh):PX X Δ st (.Subscript a (.Slice lo hi none p2) pos) (.rg rg) (ra.bind fun x=>rl.bind fun l=>rh.bind fun u=>D.cutS x l u):=
 cg (L2.pe_slice sl_str ha hl hh) fun σ H Q ⟨O,G,d,rel,er,k⟩=>by
  obtain⟨x,e1,er⟩:=bind1 er
  obtain⟨l,u,e2,e3,e4⟩:=cj er
  cases x <;> first|cases e4|skip
  rename_i z
  obtain⟨q,rfl⟩:=aH (show (if z.length<=sizeLine then some (D.str (L2.cutS z l u)) else none)=some d from e4)
  refine rdE.go rel e1 fun v H1 G1 rel1 x1 v1=>⟨O,G1,l,rel1,e2,fun H2 G2 x2=>⟨O,G2,u,rel1.ext x2,e3,fun H3 G3 x3=> ?_⟩⟩
  exact⟨z,v1.str,q,k _ H3 G3 (x1.trans (x2.trans x3)) qM⟩
def D.Am (x y:D):Option D:=match x,y with
 | .lst xs,.lst ys=>if xs.length+ys.length<=sizeLine then some (.lst (xs++ys)) else none
 |_,_=>none
theorem K7:Op2 X rCat (.rg .fz) (.rg .fz) (.nw (.ls .fz)) D.Am:=fun O H0 H G x y v w d Q e hx hy gin k=>by
 cases x <;> cases y <;> first|cases e|skip
 rename_i xs ys
 obtain⟨q,rfl⟩:=aH (show (if xs.length+ys.length<=sizeLine then some (D.lst (xs++ys)) else none)=some d from e)
 unfold bD Rep at hx hy
 obtain⟨a,vs,rfl,_,l,rr⟩:=hx
 obtain⟨b,ws,rfl,_,l',rr'⟩:=hy
 exact⟨a,b,vs,ws,rfl,rfl,l,l',by rw[rr.length,rr'.length];exact q,fun p hp=>k _ _ G (.new hp) (mw hp gin (rr.append rr'))⟩
def dLe (x y:D):Bool:= !PySem.W.dataLt y.pd x.pd
def K8 (ds:List D):Bool:=ds.all fun a=>ds.all fun b=>PySem.W.alike a.pd b.pd
def D.Na:D->Bool
 | .tup (_::_)=>true
 |_=>false
def D.noT:D->Bool
 | .int _=>true| .str _=>true| .bl _=>true| .lst _=>true
 |_=>false
def K9 (ds:List D):Bool:=ds.all (fun d=>d.dat&&decide (d.pd.depth<=40))&&K8 ds&&(ds.all D.Na||ds.all D.noT)&&decide (ds.length<=sizeLine)
def srt (ds:List D):List D:=ds.mergeSort dLe
theorem dN {tg:Expr} (h:PX X Δ st e (.rg rg) ra):PIx (δ:=D) X Δ st tg e rg (irV X.K) (ra.bind fun x=>match x with| .lst ds=>some ds|_=>none):=
 xF (pi_list h) fun σ H R ⟨O,G,ds,rel,er,k⟩=>by
  obtain⟨x,e1,e2⟩:=bind1 er
  cases x <;> first|cases e2|skip
  rename_i ds
  refine rdE.go rel e1 fun v H1 G1 rel1 x1 v1=> ?_
  unfold bD Rep at v1
  obtain⟨a,vs,rfl,s,l,rr⟩:=v1
  refine⟨a,rfl,⟨vs,SqL.of l⟩,k _ H1 G1 x1 (wkS fun H2 hst i=> ?_)⟩
  have l2:SqL X.K H2 a vs:=SqL.of (hst a _ s l (fun _ z=>by cases z))
  refine⟨fun d hd=> ?_,fun hi=>⟨vs,l2,by rw[rr.length];exact hi⟩⟩
  obtain⟨u,e3,e4⟩:=rr.get hd
  refine⟨⟨vs,u,l2,e3⟩,fun x H3 ⟨eH,f⟩=> ?_⟩
  subst eH
  have:=f vs l2
  rw[e3] at this;cases this
  exact⟨fun _ _ e=>e,Rep.mono (fun _ g=>g) (fun p sp=>hZ.xE fun u n e=>hst p u sp e n) _ _ e4⟩
def D.pr:D->Option (D×D)
 | .tup [a,b]=>some (a,b)
 |_=>none
def D.prs:List D->Option (List (D×D))
 | []=>some []
 |d::ds=>(D.pr d).bind fun x=>(D.prs ds).bind fun xs=>some (x::xs)
def wU (lo:Int) (n:Nat):List D:=(List.range n).map fun i:Nat=>D.int (lo+i)
theorem Iu {lo:Int} {n i:Nat} {d:D} (h:(wU lo n)[i]? =some d):i<n/\d= .int (lo+i):=by
 unfold wU at h
 rw[List.getElem?_map] at h
 by_cases hi:i<n
 ·rw[List.getElem?_range hi] at h
  exact⟨hi,(Option.some.inj h).symm⟩
 ·rw[List.getElem?_eq_none (by simpa using hi)] at h;cases h
theorem Iv {K:Frg} {S S':Sa} {H:Hp} {lo:Int} {n:Nat}:Wlk (irV K S') S (Itr lo n) (wU lo n) H:=fun H2 _ i=>by
 refine⟨fun d hd=> ?_,fun hi=> ?_⟩
 ·obtain⟨hi,rfl⟩:=Iu hd
  refine⟨hi,fun x H3 ⟨eH,ex⟩=> ?_⟩
  subst eH;subst ex
  exact⟨fun _ _ e=>e,by unfold irV Rep;rfl⟩
 ·show n<=i
  unfold wU at hi
  simpa using hi
noncomputable def okR (i:Int):Bool:=@decide (-(2^62)<=i/\i<2^62) (Classical.propDecidable _)
noncomputable def D.qo (xs:List D):Option (List D):=match xs with
 | [.int n]=>if okR n=true then some (wU 0 n.toNat) else none
 |_=>none
theorem CP {i:Int} (h:okR i=true): -(2^62)<=i/\i<2^62:=by
 unfold okR at h
 exact @of_decide_eq_true _ (Classical.propDecidable _) h
theorem rK {tg:Expr} {p:Pos} {rs:Option (List D)} (hg:Gl X "range") (hm:X.mg "range" =none) (ha:PAx X Δ st [a] [.rg r] rs) (hs:starEach [a] X.env=[(false,eval a X.env)]:=by rfl):
  PIx (δ:=D) X Δ st tg (.Call (.Name "range" p) [a] [] pos) .fz (irV X.K) (rs.bind D.qo):=xF (pi_range1 hg hm ha hs) fun σ H R ⟨O,G,ds,rel,er,k⟩=>by
 obtain⟨xs,e1,e2⟩:=bind1 er
 unfold D.qo at e2
 split at e2
 ·rename_i n
  obtain⟨q,rfl⟩:=aH e2
  refine rdA.go rel e1 fun vs H1 G1 rel1 x1 v1=> ?_
  obtain⟨v,rfl,h1⟩:=yC v1
  rw[h1.int]
  exact⟨n,rfl,(CP q).1,(CP q).2,k _ H1 G1 x1 Iv⟩
 ·cases e2
def sgn (c:Nat):D:=.str ⟨#[c]⟩
def D.vA (x:D):Option (List D):=match x with
 | .str z=>some (z.cps.toList.map sgn)
 |_=>none
theorem yE {tg:Expr} (h:PX X Δ st e (.rg r) ra):PIx (δ:=D) X Δ st tg e .fz (irV X.K) (ra.bind D.vA):=
 xF (pi_str h) fun σ H R ⟨O,G,ds,rel,er,k⟩=>by
  obtain⟨x,e1,e2⟩:=bind1 er
  cases x <;> first|cases e2|skip
  rename_i z
  refine rdE.go rel e1 fun v H1 G1 rel1 x1 v1=>⟨z,v1.str,k _ H1 G1 x1 fun H2 hst i=>⟨fun d hd=> ?_,fun hi=>by
   show z.cps.size<=i
   simpa using hi⟩⟩
  rw[List.getElem?_map] at hd
  cases q:z.cps.toList[i]? with
  |none=>rw[q] at hd;cases hd
  |some c=>
   rw[q] at hd;cases hd
   have hlt:i<z.cps.size:=by
    have:=(List.getElem?_eq_some_iff.mp q).1
    simpa using this
   refine⟨hlt,fun x H3 ⟨eH,c',e3,e4⟩=> ?_⟩
   subst eH
   rw[Array.getElem?_toList] at q
   rw[q] at e3;cases e3
   subst e4
   exact⟨fun _ _ e=>e,by unfold irV sgn Rep;rfl⟩
end
def rL {δ:Type} (rt:δ->Option Bool) (re:δ->Option D):List δ->Option (List D)
 | []=>some []
 |d::ds=>(rt d).bind fun b=>if b=true then (re d).bind fun x=>(rL rt re ds).bind fun xs=>some (x::xs) else rL rt re ds
def xJ {δ:Type} (rt:δ->Option Bool) (re:δ->Option D) (ds:List δ):Option D:=if ds.length<=sizeLine then (rL rt re ds).map D.lst else none
abbrev Nb (X:Cx) (Δ:List Md) (st:Ds) (ifs:List Expr) (r:Option Bool):Prop:=PTs X ifs (rdT X.K Δ st r)
section
variable {X:Cx} {Δ:List Md} {st:Ds} {pos:Pos}
theorem rM:Nb X Δ st [] (some true):=⟨fun pins s σ H Q I ⟨O,G,b,rel,er,k⟩=>by
 cases er
 exact pts_nil.run pins s σ H Q I (k H G .refl)⟩
theorem An {c:Expr} {r:Option Bool} (h:PTx X Δ st c r):Nb X Δ st [c] r:=pts_one h
theorem La {ifs:List Expr} {α:Type} {t:α->TT} (h: ∀a,PTs X ifs (t a)):PTs X ifs (fun σ H Q=> ∃a,t a σ H Q):=⟨fun pins s σ H De I ⟨a,q⟩=>(h a).run pins s σ H De I q⟩
theorem Rel.wipe {K:Frg} {O:Org} {σ:CS} {H:Hp} {G:Sa}: ∀{vs:List Nat},(∀v∈vs,st[v]? =some none)->Rel K O Δ st σ H G->Rel K O Δ st (L2.wipe σ vs) H G
 | [],_,r=>r
 |v::vs,h,r=>by
  obtain⟨L,g,s⟩:=Rel.wipe (fun u m=>h u (List.mem_cons_of_mem _ m)) r
  unfold L2.wipe
  have hv:=h v List.mem_cons_self
  have hlt:v<Δ.length:=by rw[<-s.len.1];exact (List.getElem?_eq_some_iff.mp hv).1
  obtain⟨x',y',L1,L2',ex,ey,sr,pm,f⟩:=s.split (List.getElem?_eq_getElem hlt)
  rw[hv] at ex;cases ex
  obtain⟨L',pm',s'⟩:=f G H Δ[v] none none [] (fun _ g=>g) aB aB (fun _ _=>rfl) lA.none
  rw[fP hv,fP (List.getElem?_eq_getElem hlt)] at s'
  exact⟨L',((g.perm pm).sub (List.sublist_append_right _ _)).perm pm'.symm,s'⟩
theorem xM {σ:CS} {vs:List Nat}: ∀{us:List Nat},(∀u∈us,u∈vs)->L2.wipe (L2.wipe σ us) vs=L2.wipe σ vs
 | [],_=>rfl
 |u::us,h=>by
  show L2.wipe ((L2.wipe σ us).set u none) vs=_
  rw[j7 (h u List.mem_cons_self)]
  exact xM fun w m=>h w (List.mem_cons_of_mem _ m)
theorem Lb {K:Frg} {δ:Type} {g:TG} {rg:Rg} {IR:Sa->Hp->δ->V->Prop} {rI:Option (List δ)} {uM:List Md->List Md} {uS:δ->Ds->Ds} {is vs0:List Nat} {rt:δ->Option Bool} {re:δ->Option D}
  (him:nD IR) (hw: ∀v∈vs0,st[v]? =some none) (his: ∀i∈is,i∈vs0) (htg:yz K g rg IR uM uS Δ.length is) {σ:CS} {H:Hp} {Q:VK}
  (h:rdE K Δ st (.nw (.ls .fz)) (rI.bind fun ds=>xJ rt re ds) σ H Q):
  tLc (rdI K Δ st rg IR rI) g (fun σ H Q=> ∃d,rdT K (uM Δ) (uS d st) (rt d) σ H Q) (fun σ H Q=> ∃d,rdE K (uM Δ) (uS d st) (.rg .fz) (re d) σ H Q) vs0 σ H Q:=by
  obtain⟨O,G,d,rel,er,k⟩:=h
  obtain⟨ds,e1,e2⟩:=bind1 er
  unfold xJ at e2
  split at e2
  case isFalse=>cases e2
  rename_i hz
  cases e3:rL rt re ds with
  |none=>rw[e3] at e2;cases e2
  |some all=>
   rw[e3] at e2;cases e2
   refine⟨O,G,ds,rel,e1,fun J H1 G1 x1 hwk D0 hD=> ?_⟩
   have rel1:=(rel.ext x1).wipe hw
   have nG: ¬G1 D0:=fun g=>rel1.gin _ g hD
   refine⟨fun i m H=> ∃G xs vs rest,m=ds.length -i/\i<=ds.length/\Ext H1 G1 H G/\H D0=some (.lst vs)/\ ¬G D0/\aD K G H xs vs/\xs.length<=i/\rL rt re (ds.drop i)=some rest/\all=xs++rest,
    ⟨ds.length,G1,[],[],all,by omega,by omega,.new hD,upd_same,nG,.nil,Nat.le_refl _,by simpa using e3,rfl⟩,fun i m H hW=> ?_⟩
   obtain⟨Gi,xs,vs,rest,em,hil,xi,hDi,nGi,rs,hxs,ec,ea⟩:=hW
   have hst: ∀p u,stR O G1 rg p->H1 p=some u->NT u->H p=some u:=fun p u _ e nt=>xi.hh p u e
   obtain⟨w1,w2⟩:=hwk H hst i
   by_cases hlt:i<ds.length
   ·have hd:ds[i]? =some ds[i]:=List.getElem?_eq_getElem hlt
    obtain⟨go,yl⟩:=w1 _ hd
    refine .inr ⟨go,fun H'=> ∃G xs vs rest,Ext H1 G1 H' G/\H' D0=some (.lst vs)/\ ¬G D0/\aD K G H' xs vs/\xs.length<=i+1/\rL rt re (ds.drop (i+1))=some rest/\all=xs++rest,
     fun H' ⟨G',xs',vs',rest',z1,z2,z3,z4,z5,z6,z7⟩=>⟨m -1,by omega,G',xs',vs',rest',by omega,by omega,z1,z2,z3,z4,z5,z6,z7⟩,fun x H3 hy=> ?_⟩
    obtain⟨hh,ir⟩:=yl x H3 hy
    have x3:Ext H Gi H3 Gi:=.of hh (fun _ g=>g) fun _ g=>.inl g
    have rl3:=rel1.ext (xi.trans x3)
    have hsub: ∀p,rgn O G1 rg p->rgn O Gi rg p:=fun p s=>by
     cases rg with
     |hb=>exact trivial
     |bb=>exact s
     |fz=>exact xi.gg p s
    refine htg _ _ _ _ _ _ _ x _ rfl rl3 (him _ _ H3 H3 _ x hsub (fun _ _ e=>e) ir) fun σ' rl' hwp=>⟨?_,?_⟩
    ·rw[hwp _ his]
     exact xM fun u m=>m
    ·rw[Af hd] at ec
     unfold rL at ec
     obtain⟨b,eb,ec⟩:=bind1 ec
     refine⟨ds[i],rdT.go rl' eb fun H4 G4 rl4 x4=> ?_⟩
     cases b with
     |true=>
      rw[if_pos rfl] at ec⊢
      obtain⟨y,ys,e5,e6,e7⟩:=cj ec
      cases e7
      refine⟨ds[i],rdE.go rl4 e5 fun v H5 G5 rl5 x5 v5=> ?_⟩
      have x35:Ext H Gi H5 G5:=x3.trans (x4.trans x5)
      have hD5:H5 D0=some (.lst vs):=x35.hh _ _ hDi
      have nG5: ¬G5 D0:=fun g=>by
       rcases x35.gn D0 g with g|⟨n,_⟩|⟨xs,t⟩
       ·exact nGi g
       ·rw[hDi] at n;cases n
       ·rw[hDi] at t;cases xs <;> cases t
      have ag:Agr G5 H5 (upd H5 D0 (.lst (vs++[v]))):=fun p g=>hZ.of_eq fun u e=>by
       rw[upd_ne (fun z=>by subst z;exact nG5 g)];exact e
      have rs5:aD K G5 H5 xs vs:=aD.mono x35.gg x35.agr xs vs rs
      refine⟨vs,hD5,by rw[rs.length];exact Nat.lt_of_lt_of_le (by omega) hz,G5,xs++[y],vs++[v],ys,?_,upd_same,nG5,aD.mono (fun _ g=>g) ag _ _ (rs5.append (.one v5)),by rw[List.length_append];simp;omega,e6,by rw[List.append_assoc];exact ea⟩
      have xx:=xi.trans x35
      exact xx.O3 hD ⟨_,hD5,trivial⟩
     |false=>
      rw[if_neg Bool.false_ne_true] at ec⊢
      have x34:Ext H Gi H4 G4:=x3.trans x4
      have nG4: ¬G4 D0:=fun g=>by
       rcases x34.gn D0 g with g|⟨n,_⟩|⟨xs,t⟩
       ·exact nGi g
       ·rw[hDi] at n;cases n
       ·rw[hDi] at t;cases xs <;> cases t
      exact⟨G4,xs,vs,rest,xi.trans x34,x34.hh _ _ hDi,nG4,aD.mono x34.gg x34.agr xs vs rs,by omega,ec,ea⟩
   ·refine .inl ⟨w2 (by omega),?_⟩
    rw[List.drop_of_length_le (by omega)] at ec
    cases ec
    rw[List.append_nil] at ea
    subst ea
    refine k _ H Gi (x1.trans xi) ⟨[D0],by simp,fun p m=> ?_,?_⟩
    ·rw[List.mem_singleton] at m
     subst m
     exact⟨x1.back hD,nGi⟩
    ·unfold Own
     exact⟨D0,vs,_,[],rfl,rfl,hDi,yA rs,rfl⟩
theorem xN {δ:Type} {elt tg iter:Expr} {ifs:List Expr} {scope:Scope} {own:List (Str×Nat)} {g:TG} {rg:Rg} {IR:Sa->Hp->δ->V->Prop} {rI:Option (List δ)} {uM:List Md->List Md} {uS:δ->Ds->Ds} {is:List Nat} {rt:δ->Option Bool} {re:δ->Option D}
  (hc:X.calm=true) (hN:X.N.Nodup) (hi:PIx X Δ st tg iter rg IR rI) (him:nD IR) (hr:rg≠ .hb) (ok:BlkOk X.N X.env.scope scope own) (hw: ∀v∈own.map (·.2),st[v]? =some none) (his: ∀i∈is,i∈own.map (·.2))
  (hg: ∀(s:Shared) (H:Hp) (C:Addr) (cl:List (Str×Addr)) (fp:List Addr),PG (X.blk s H scope (compEnvC scope cl C X.env) fp) tg g) (htg:yz X.K g rg IR uM uS Δ.length is)
  (ht: ∀(s:Shared) (H:Hp) (C:Addr) (cl:List (Str×Addr)) (fp:List Addr) (d:δ),PTs (X.blk s H scope (compEnvC scope cl C X.env) fp) ifs (rdT X.K (uM Δ) (uS d st) (rt d)))
  (he: ∀(s:Shared) (H:Hp) (C:Addr) (cl:List (Str×Addr)) (fp:List Addr) (d:δ),PE (X.blk s H scope (compEnvC scope cl C X.env) fp) elt (rdE X.K (uM Δ) (uS d st) (.rg .fz) (re d)))
  (hs: ∀x,foldedSetIterable iter X.env x=pure x:=by intro _;rfl):
  PX X Δ st (.ListComp elt [⟨tg,iter,ifs,0⟩] scope pos) (.nw (.ls .fz)) (rI.bind fun ds=>xJ rt re ds):=
 cg (pe_lc hc hN hi ok hg (fun s H C cl fp=>La fun d=>ht s H C cl fp d) (fun s H C cl fp=>M0 fun d=>he s H C cl fp d) hs) fun σ H Q h=>Lb him hw his htg h
end
end Sw
namespace Sw
open PySem PySem.Spec PyProof.Rows L2
variable [NmC]
inductive PM where
 |bo|fz|ow (s:Sh)|ini (s:Sh)|bl
def O7 (K:Frg) (B G:Sa) (H:Hp):PM->D->V->List Addr->Prop
 | .bo,d,v,L=>Rep K B H d v/\L=[]
 | .fz,d,v,L=>Rep K G H d v/\L=[]
 | .ow s,d,v,L=>Own K G H s d v L
 | .ini _,d,v,L=>Own K G H (.is []) d v L
 | .bl,d,v,L=>Spn K B G H d v/\L=[]
def lC (K:Frg) (B G:Sa) (H:Hp):List PM->List D->List V->List Addr->Prop
 | [],[],[],L=>L=[]
 |m::ms,d::ds,v::vs,L=> ∃L1 L2,O7 K B G H m d v L1/\lC K B G H ms ds vs L2/\L=L1++L2
 |_,_,_,_=>False
def bF:List PM->List V->List (V×Sh)
 | .ow s::ms,v::vs=>(v,s)::bF ms vs
 | .ini s::ms,v::vs=>(v,s)::bF ms vs
 |_::ms,_::vs=>bF ms vs
 |_,_=>[]
def yF:List PM->List V->List Md
 | .bo::ms,_::vs=>.bo::yF ms vs
 | .fz::ms,_::vs=>.fz::yF ms vs
 | .bl::ms,_::vs=>.bl::yF ms vs
 | .ow s::ms,v::vs=>.pn v s::yF ms vs
 | .ini _::ms,v::vs=>.pn v (.is [])::yF ms vs
 |_,_=>[]
def FSp (K:Frg) (ms:List PM) (rm:VM) (Fs:List D->Option FR):Sp:=fun vs H Q E=>
 ∃(O:Org) (ds:List D) (fr:FR),O.H0=H/\bJ O H O.G0 O.L0/\lC K O.B O.G0 H ms ds vs O.L0/\Fs ds=some fr/\match fr with
  | .ok d os=> ∀v H' G',yy K rm (bF ms vs) O d os v H' G'->Q v H'
  | .er x=> ∀c od H' G',XcR K (bF ms vs) O x c od H' G'->E c od H'
theorem lC.len {K:Frg} {B G:Sa} {H:Hp}: ∀{ms:List PM} {ds:List D} {vs:List V} {L:List Addr},lC K B G H ms ds vs L->vs.length=ms.length/\ds.length=ms.length
 | [],[],[],_,_=>⟨rfl,rfl⟩
 |m::ms,d::ds,v::vs,_,⟨L1,L2,h1,h2,e⟩=>by
  have:=lC.len h2
  simp[this.1,this.2]
 | [],[],_::_,_,h=>h.elim
 | [],_::_,_,_,h=>h.elim
 |_::_,[],_,_,h=>h.elim
 |_::_,_::_,[],_,h=>h.elim
def outF:Out PEmpty PEmpty->Option FR
 | .ret d os=>some (.ok d os)
 | .exc x=>some (.er x)
 |_=>none
def fnX (rm:VM) (ps:List (V×Sh)) (E:XK):Exits PEmpty PEmpty:=⟨[],fun _=>[],[],fun _=>[],rm,ps,E,true⟩
theorem xO {K:Frg} {B G:Sa} {H:Hp}: ∀n:Nat,Slots K B G H (List.replicate n .fz) (List.replicate n none) (List.replicate n none) []
 |0=>rfl
 |n+1=>⟨[],[],rfl,xO n,rfl⟩
theorem nK {K:Frg} {B G:Sa} {H:Hp} {n:Nat}: ∀{ms:List PM} {ds:List D} {vs:List V} {L:List Addr},lC K B G H ms ds vs L->Slots K B G H (yF ms vs++List.replicate n .fz) (ds.map some++List.replicate n none) (vs.map some++List.replicate n none) L
 | [],[],[],L,h=>by rw[show L=[] from h];exact xO n
 |m::ms,d::ds,v::vs,_,⟨L1,L2,h1,h2,e⟩=>by
  have ih:=nK (n:=n) h2
  subst e
  cases m with
  |bo=>exact⟨L1,L2,⟨v,rfl,h1.1,h1.2⟩,ih,rfl⟩
  |fz=>exact⟨L1,L2,⟨v,rfl,h1.1,h1.2⟩,ih,rfl⟩
  |ow s=>exact⟨L1,L2,⟨rfl,h1⟩,ih,rfl⟩
  |ini s=>exact⟨L1,L2,⟨rfl,h1⟩,ih,rfl⟩
  |bl=>exact⟨L1,L2,⟨v,rfl,h1.1,h1.2⟩,ih,rfl⟩
 | [],[],_::_,_,h=>h.elim
 | [],_::_,_,_,h=>h.elim
 |_::_,[],_,_,h=>h.elim
 |_::_,_::_,[],_,h=>h.elim
section
variable {P:Program} {w:World} {K:Frg} {mg:Str->Option Value} {base:Heap}
abbrev cxT (P:Program) (w:World) (K:Frg) (mg:Str->Option Value) (base:Heap) (N:List Str) (qual:Str) (sc:Scope) (f:Addr) (cdv:Value) (A:Around) (outer:List Env) (s:Shared) (H:Hp) (E:XK):Cx:=
 (cxOf CX0 P w K mg base N qual sc f cdv A outer s H E).nox
theorem Ft {x qual:Str} {st:Stmt} {f:Addr} {fd:FuncData} {N ps:List Str} {k n:Nat} {ms:List PM} {rm:VM} {Fs:List D->Option FR} (F:Fun K x qual st f fd) (S:FnScope N ps (defScope st)) (hl:ms.length=ps.length) (hn:N.length=ps.length+n)
  (h: ∀(cdv:Value) (A:Around) (outer:List Env) (s:Shared) (H:Hp) (vs:List V) (E:XK),fd.code=cdv->Room k (A.deeper (envOfC qual (defScope st) s.heap.objs.size f cdv))->vs.length=ms.length-> ∀ds fr,ds.length=ms.length->Fs ds=some fr→
   ∃m,Blk (cxT P w K mg base N qual (defScope st) f cdv A outer s H E) (fnX rm (bF ms vs) E) (yF ms vs++List.replicate n .fz) (ds.map some++List.replicate n none) (defBody st) m/\m.bind outF=some fr):
  FnOk P w K mg base CX0 (k+1) f fd ps (FSp K ms rm Fs):=by
 obtain⟨oc,od,kV,doc,pm,an,cdv,ct,osl,rfl,lk,hcd⟩:=F.ex
 refine fn_of lk hcd S (fun vs H Q E ⟨O,ds,fr,e,g,a,_⟩=>a.len.1.trans hl) (fun A outer s H vs Q E hr ⟨O,ds,fr,e,g,a,ef,q⟩=> ?_)
 obtain⟨hv,hd⟩:=a.len
 obtain⟨m,hb,hm⟩:=h cdv A outer s H vs E rfl hr hv ds fr hd ef
 refine⟨_,PSs.nox hb,?_⟩
 obtain⟨o,e1,e2⟩:=bind1 hm
 have hs:L2.start N vs=vs.map some++List.replicate n none:=by
  unfold L2.start
  rw[show N.length -vs.length=n by omega]
 rw[hs]
 refine⟨O,O.G0,o,⟨O.L0,g,nK a⟩,e1,?_⟩
 cases o with
 |nx a=>exact a.elim
 |bk a=>exact a.elim
 |ct a=>exact a.elim
 |ret d os=>
  cases e2
  exact fun v H' G' r=>⟨q v H' G' r,fun _ ev σ=>by subst ev;exact q _ H' G' r⟩
 |exc x=>
  cases e2
  exact fun c od H' G' r=>q c od H' G' r
theorem cB {x qual:Str} {st:Stmt} {f:Addr} {fd:FuncData} {N ps:List Str} {k n:Nat} {ms:List PM} {rm:VM} {Fs:List D->Option FR} (F:Fun K x qual st f fd) (S:FnScope N ps (defScope st)) (hl:ms.length=ps.length) (hn:N.length=ps.length+n)
  (h: ∀(cdv:Value) (A:Around) (outer:List Env) (s:Shared) (H:Hp) (vs:List V) (E:XK),Room k (A.deeper (envOfC qual (defScope st) s.heap.objs.size f cdv))->vs.length=ms.length-> ∀ds fr,ds.length=ms.length->Fs ds=some fr→
   ∃m,Blk (cxT P w K mg base N qual (defScope st) f cdv A outer s H E) (fnX rm (bF ms vs) E) (yF ms vs++List.replicate n .fz) (ds.map some++List.replicate n none) (defBody st) m/\m.bind outF=some fr):
  FnOk P w K mg base CX0 (k+1) f fd ps (FSp K ms rm Fs):=
 Ft F S hl hn fun cdv A outer s H vs E _=>h cdv A outer s H vs E
end
def FR.val:FR->Option D
 | .ok d []=>some d
 |_=>none
def fn0 (f:Option FR):List D->Option FR
 | []=>f
 |_=>none
def fn1 (f:D->Option FR):List D->Option FR
 | [a]=>f a
 |_=>none
def fn2 (f:D->D->Option FR):List D->Option FR
 | [a,b]=>f a b
 |_=>none
def fn3 (f:D->D->D->Option FR):List D->Option FR
 | [a,b,c]=>f a b c
 |_=>none
def fn4 (f:D->D->D->D->Option FR):List D->Option FR
 | [a,b,c,d]=>f a b c d
 |_=>none
def fn5 (f:D->D->D->D->D->Option FR):List D->Option FR
 | [a,b,c,d,e]=>f a b c d e
 |_=>none
def fn6 (f:D->D->D->D->D->D->Option FR):List D->Option FR
 | [a,b,c,d,e,g]=>f a b c d e g
 |_=>none
mutual
theorem Rep.dom {K:Frg} {S:Sa} {H:Hp}: ∀(d:D) (v:V),Rep K S H d v->Rep K (fun p=>S p/\H p≠none) H d v
 | .non,_,h=>h
 | .bl _,_,h=>h
 | .int _,_,h=>h
 | .str _,_,h=>h
 | .fn _,_,h=>h
 | .glf _,_,h=>h
 | .clo F d,v,h=>by
  unfold Rep at h⊢
  obtain⟨f,c',c,T,w,e,⟨s1,h1⟩,⟨s2,h2⟩,⟨s3,h3⟩,l,r⟩:=h
  exact⟨f,c',c,T,w,e,⟨⟨s1,by rw[h1];simp⟩,h1⟩,⟨⟨s2,by rw[h2];simp⟩,h2⟩,⟨⟨s3,h3.ne⟩,h3⟩,l,Rep.mono (fun p s=>⟨⟨s.1.1,s.2⟩,s.1.2⟩) (fun p _=>hZ.of_eq fun _ e=>e) d w (Rep.dom d w r)⟩
 | .lst ds,v,h=>by
  unfold Rep at h⊢
  obtain⟨a,vs,e,s,l,r⟩:=h
  exact⟨a,vs,e,⟨s,by rw[l];simp⟩,l,aD.dom ds vs r⟩
 | .sc ns,v,h=>by
  unfold Rep at h⊢
  obtain⟨a,e,l⟩:=h
  exact⟨a,e,l.imp (fun⟨s,r⟩=>⟨⟨s,by rcases r with r|⟨o,r⟩ <;> (rw[r];simp)⟩,r⟩) id⟩
 | .tup ds,v,h=>by
  unfold Rep at h⊢
  obtain⟨a,vs,e,l,r⟩:=h
  exact⟨a,vs,e,⟨⟨l.1,by rw[l.2];simp⟩,l.2⟩,aD.dom ds vs r⟩
 | .dct ks,v,h=>by
  unfold Rep at h⊢
  obtain⟨a,kvs,e,s,l,n,r⟩:=h
  exact⟨a,kvs,e,⟨s,by rcases l with l|⟨o,l⟩ <;> (rw[l];simp)⟩,l,n,bQ.dom ks kvs r⟩
 | .dcT ks,v,h=>by
  unfold Rep at h⊢
  obtain⟨a,kvs,e,s,l,n,r⟩:=h
  exact⟨a,kvs,e,⟨s,by rcases l with l|⟨o,l⟩ <;> (rw[l];simp)⟩,l,n,gU.dom ks kvs r⟩
 | .ins C fds,v,h=>by
  unfold Rep at h⊢
  obtain⟨a,dx,fs,e,s,l,r⟩:=h
  exact⟨a,dx,fs,e,⟨s,by rw[l];simp⟩,l,gV.dom fds fs r⟩
theorem aD.dom {K:Frg} {S:Sa} {H:Hp}: ∀(ds:List D) (vs:List V),aD K S H ds vs->aD K (fun p=>S p/\H p≠none) H ds vs
 | [],_,h=>by unfold aD at h ⊢; exact h
 |d::ds,vs,h=>by
  unfold aD at h⊢
  obtain⟨v,r,e,h1,h2⟩:=h
  exact⟨v,r,e,Rep.dom d v h1,aD.dom ds r h2⟩
theorem bQ.dom {K:Frg} {S:Sa} {H:Hp}: ∀(ds:List (Key×D)) (vs:List (Key×V)),bQ K S H ds vs->bQ K (fun p=>S p/\H p≠none) H ds vs
 | [],_,h=>by unfold bQ at h ⊢; exact h
 |(k,d)::ds,vs,h=>by
  unfold bQ at h⊢
  obtain⟨v,r,e,h1,h2⟩:=h
  exact⟨v,r,e,Rep.dom d v h1,bQ.dom ds r h2⟩
theorem gU.dom {K:Frg} {S:Sa} {H:Hp}: ∀(ds:List (List Key×D)) (vs:List (List Key×V)),gU K S H ds vs->gU K (fun p=>S p/\H p≠none) H ds vs
 | [],_,h=>by unfold gU at h ⊢; exact h
 |(k,d)::ds,vs,h=>by
  unfold gU at h⊢
  obtain⟨v,r,e,h1,h2⟩:=h
  exact⟨v,r,e,Rep.dom d v h1,gU.dom ds r h2⟩
theorem gV.dom {K:Frg} {S:Sa} {H:Hp}: ∀(ds:List (Str×D)) (vs:List (Str×V)),gV K S H ds vs->gV K (fun p=>S p/\H p≠none) H ds vs
 | [],_,h=>by unfold gV at h ⊢; exact h
 |(k,d)::ds,vs,h=>by
  unfold gV at h⊢
  obtain⟨v,r,e,h1,h2⟩:=h
  exact⟨v,r,e,Rep.dom d v h1,gV.dom ds r h2⟩
end
end Sw
namespace Sw
open PySem PySem.Spec PyProof.Rows L2
variable [NmC]
section
variable {K:Frg} {O:Org} {H H1 H2:Hp} {G G1 G2:Sa} {Δ:List Md} {st:Ds} {σ:CS}
def Org.all (H:Hp) (G:Sa):Org:=⟨G,H,[],fun p=>H p≠none⟩
theorem o9 (tb:LamX.Tabs NmC.T H) (gin: ∀p,G p->H p≠none):bJ (Org.all H G) H G []:=
 ⟨fun p b=>⟨b,by simp[Org.all]⟩,fun _ _ e _ _=>e,fun _ g=>g,fun _ g=>.inl g,gin,fun _ h=>h,List.nodup_nil,fun p m=>(nomatch m),fun _ ps e=>⟨ps,e⟩,tb⟩
theorem Iw {L:List Addr} (r:bJ (Org.all H G) H1 G1 L):Ext H G H1 G1:=
 ⟨fun p u e t=>r.frame p u e (by simp[Org.all]),r.gsub,fun p g=>by
  rcases r.gold p g with g'|n|t|m
  ·exact .inl g'
  ·exact .inr (.inl ⟨n,r.gin p g⟩)
  ·exact .inr (.inr t)
  ·exact (nomatch m),r.tl,fun _=>r.tb⟩
def Nc:PM->VM->Bool
 | .bo,_=>true
 | .fz,.rg .fz=>true
 | .bl,.sp _=>true
 |_,_=>false
def pb:List PM->List VM->Bool
 | [],[]=>true
 |p::ps,m::ms=>Nc p m&&pb ps ms
 |_,_=>false
theorem rN: ∀{ps:List PM} {ms:List VM} {ds:List D} {vs:List V},pb ps ms=true->lB K O H H1 G1 ms ds vs->lC K (Org.all H1 G1).B (Org.all H1 G1).G0 H1 ps ds vs []/\bF ps vs=[]
 | [],[],[],vs,_,h=>by rw[show vs=[] from h];exact⟨rfl,rfl⟩
 |p::ps,m::ms,d::ds,_,ok,⟨v,r,e,h1,h2⟩=>by
  subst e
  unfold pb at ok
  rw[Bool.and_eq_true] at ok
  obtain⟨a,b⟩:=rN ok.2 h2
  cases p with
  |bo=>exact⟨⟨[],[],⟨Rep.mono (fun p h=>h.2) aB d v (Rep.dom d v h1.hb),rfl⟩,a,rfl⟩,b⟩
  |fz=>
   cases m with
   |rg r=>
    cases r with
    |fz=>exact⟨⟨[],[],⟨h1,rfl⟩,a,rfl⟩,b⟩
    |hb=>cases ok.1
    |bb=>cases ok.1
   |nw s=>cases ok.1
   |sp r=>cases ok.1
  |ow s=>cases ok.1
  |ini s=>cases ok.1
  |bl=>
   cases m with
   |rg r=>cases ok.1
   |nw s=>cases ok.1
   |sp r=>
    obtain⟨a',vs',ds',e1,e2,b',hl,rr⟩:=h1
    exact⟨⟨[],[],⟨⟨a',vs',ds',e1,e2,by rw[show (Org.all H1 G1).B=fun p=>H1 p≠none from rfl];show H1 a'≠none;rw[hl];simp,hl,rr⟩,rfl⟩,a,rfl⟩,b⟩
 | [],_::_,_,_,ok,_=>by cases ok
 |_::_,[],_,_,ok,_=>by cases ok
 | [],[],_::_,_,_,h=>h.elim
 |_::_,_::_,[],_,_,h=>h.elim
theorem rO {rm:VM} {d:D} {os:List D} {v:V} (r:yy K rm [] (Org.all H G) d os v H1 G1):os=[]/\Ext H G H1 G1/\ ∀O',bD K O' H H1 G1 rm d v:=by
 obtain⟨L1,L2',g,rv,p⟩:=r
 cases os with
 |cons x xs=>exact p.elim
 |nil=>
  have e2:L2'=[]:=p
  subst e2
  rw[List.append_nil] at g
  refine⟨rfl,Iw g,fun O'=> ?_⟩
  cases rm with
  |rg r=>
   cases r with
   |fz=>exact rv.1
   |hb=>exact rv.elim
   |bb=>exact rv.elim
  |nw s=>exact⟨L1,g.nd,fun p m=>⟨(g.lg p m).2.elim (fun h=>nomatch h) id,(g.lg p m).1⟩,rv⟩
  |sp r=>exact rv.elim
end
section
variable {X:Cx} {Δ:List Md} {st:Ds} {a b e o:Expr} {es:List Expr} {m ma mb rm:VM} {ra rb:Option D} {rs:Option (List D)} {pos p apos:Pos} {vms:List VM} {ps:List PM} {Fs:List D->Option FR} {k:Nat} {f:Addr} {fd:FuncData} {pn:List Str} {x:Str}
theorem call_of {H:Hp} {σ:CS} {Q:VK} (ok:pb ps vms=true) (h:rdE X.K Δ st rm (rs.bind fun ds=>(Fs ds).bind FR.val) σ H Q):tCall (FSp X.K ps rm Fs) [] E0 (rdA X.K Δ st vms rs) σ H Q:=by
 obtain⟨O,G,d,rel,er,kk⟩:=h
 obtain⟨ds,e1,e2⟩:=bind1 er
 obtain⟨fr,e3,e4⟩:=bind1 e2
 refine rdA.go rel e1 fun vs H1 G1 rel1 x1 v1=> ?_
 rw[List.append_nil]
 obtain⟨ha,hp⟩:=rN ok v1
 cases fr with
 |er x=>cases e4
 |ok d' os=>
  cases os with
  |cons x xs=>cases e4
  |nil=>
   cases e4
   refine⟨Org.all H1 G1,ds,_,rfl,o9 rel1.tb rel1.gin,ha,e3,fun v H' G' r=> ?_⟩
   rw[hp] at r
   obtain⟨_,x2,hv⟩:=rO r
   exact kk v H' G' (x1.trans x2) ((hv O).back x1)
theorem Iy (F:FnOk X.prog X.w X.K X.mg X.base CX0 k f fd pn (FSp X.K ps rm Fs)) (hr:Room k X.A) (hg:Gl X x) (hm:X.mg x=some (.ref f)) (hk:PySem.W.keepIn X.K (.ref f)=true) (hb:Binds X.K fd pn []) (ha:PAx X Δ st (e::es) vms rs) (ok:pb ps vms=true:=by rfl)
  (hdb:(x==("__debug__" :Str))=false:=by decide) (he:starEach (e::es) X.env=(false,eval e X.env)::starEach es X.env:=by rfl) (hpl:(backTo pos (starEach es X.env)).any (·.1)=false:=by rfl):
  PX X Δ st (.Call (.Name x p) (e::es) [] pos) rm (rs.bind fun ds=>(Fs ds).bind FR.val):=cg (pe_call F hr hg hm hk hb .nil pass0 ha hdb he hpl) fun σ H Q h=>call_of ok h
def VL (K:Frg) (O:Org) (H:Hp) (G:Sa):VM->D->V->List Addr->Prop
 | .rg r,d,v,L=>Rep K (rgn O G r) H d v/\L=[]
 | .nw s,d,v,L=>Own K G H s d v L
 | .sp r,d,v,L=>Spn K (rgn O G r) G H d v/\L=[]
def RelV (K:Frg) (O:Org) (Δ:List Md) (st:Ds) (σ:CS) (H:Hp) (G:Sa) (m:VM) (d:D) (v:V):Prop:= ∃L Lv,bJ O H G (Lv++L)/\Slots K O.B G H Δ st σ L/\VL K O H G m d v Lv
def rdY (K:Frg) (Δ:List Md) (st:Ds) (m:VM) (r:Option (D×Ds)):TE:=fun σ H Q=> ∃O G ds,Rel K O Δ st σ H G/\r=some ds/\ ∀v H' G',RelV K O Δ ds.2 σ H' G' m ds.1 v->Q v H'
abbrev PY (X:Cx) (Δ:List Md) (st:Ds) (e:Expr) (m:VM) (r:Option (D×Ds)):Prop:=PE X e (rdY X.K Δ st m r)
theorem CQ {K:Frg} {O:Org} {σ:CS} {H H1:Hp} {G G1:Sa} {d:D} {v:V} (rel:Rel K O Δ st σ H G) (x1:Ext H G H1 G1) (hv:bD K O H H1 G1 m d v):RelV K O Δ st σ H1 G1 m d v:=by
 obtain⟨L,g,s⟩:=rel
 have g1:=g.ext x1 s.kind (x1.gin g.gin)
 have s1:=Slots.mono (G':=G1) (H':=H1) x1.gg x1.agr x1.agr (fun p m=>x1.vp (s.kind p m)) s
 cases m with
 |rg r=>exact⟨L,[],g1,s1,hv,rfl⟩
 |nw sh=>
  obtain⟨L1,nd,f,o⟩:=hv
  exact⟨L,L1,g1.BB s1.kind (H0:=H) (fun p h=>g.back h) nd f fun p m=>(s.kind p m).ne,s1,o⟩
 |sp r=>exact⟨L,[],g1,s1,hv,rfl⟩
def rdP (K:Frg) (Δ:List Md) (st:Ds) (i:Nat) (r:Option (List Stp)):TE:=fun σ H Q=> ∃O G q,Rel K O Δ st σ H G/\r=some q/\ ∀v0 v H' G',σ[i]? =some (some v0)->Ext H G H' G'->AtP H' v0 q v->Q v H'
abbrev PPx (X:Cx) (Δ:List Md) (st:Ds) (e:Expr) (i:Nat) (r:Option (List Stp)):Prop:=PE X e (rdP X.K Δ st i r)
def wV:Md->Option Sh
 | .ow s=>some s
 | .pn _ s=>some s
 |_=>none
def Fu (s:Sh) (d:D) (q:List Stp):Option (List Stp):=if (shP s q).isSome=true/\(fQ d q).isSome=true then some q else none
theorem Ao {s:Sh} {d:D} {q q':List Stp} (h:Fu s d q=some q'):q'=q/\ ∃s' d',shP s q=some s'/\fQ d q=some d':=by
 obtain⟨⟨h1,h2⟩,rfl⟩:=aH h
 exact⟨rfl,(shP s q).get h1,(fQ d q).get h2,by simp,by simp⟩
theorem rP {K:Frg} {O:Org} {σ:CS} {H:Hp} {G:Sa} {i:Nat} {md:Md} {s:Sh} {d:D} (rel:Rel K O Δ st σ H G) (hm:Δ[i]? =some md) (hs:wV md=some s) (hd:st[i]? =some (some d)): ∃v L,σ[i]? =some (some v)/\Own K G H s d v L:=by
 obtain⟨L,g,sl⟩:=rel
 obtain⟨x',y',L1,L2,ex,ey,sr,pm,f⟩:=sl.split hm
 rw[hd] at ex;cases ex
 cases md <;> first|cases hs|skip
 ·obtain⟨v,e,o⟩:=sr
  exact⟨v,L1,by rw[ey,e],o⟩
 ·exact⟨_,L1,by rw[ey,sr.1],sr.2⟩
theorem jH (i:Nat) {md:Md} {s:Sh} {d:D} (hm:Δ[i]? =some md) (hs:wV md=some s) (hd:st[i]? =some (some d)) (hN:X.N[i]? =some x) (hv:Vis X.env.scope x) (h1:(x==("__debug__" :Str))=false:=by decide) (h2:(x==("__classdict__" :Str))=false:=by decide):
  PPx X Δ st (.Name x p) i (some []):=cg (pe_var hN hv h1 h2) fun σ H Q ⟨O,G,q,rel,er,k⟩=>by
 cases er
 obtain⟨v,L,e,o⟩:=rP rel hm hs hd
 exact⟨v,e,k v v H G e .refl rfl⟩
theorem AtP.last {H:Hp} {s:Stp} {w:V}: ∀{q:List Stp} {v:V},AtP H v (q++[s]) w-> ∃v1,AtP H v q v1/\AtP H v1 [s] w
 | [],v,h=>⟨v,rfl,h⟩
 | .ix i::q,v,⟨a,vs,y,e1,e2,e3,h⟩=>by
  obtain⟨v1,h1,h2⟩:=AtP.last h
  exact⟨v1,⟨a,vs,y,e1,e2,e3,h1⟩,h2⟩
 | .ky k::q,v,⟨a,vs,y,e1,e2,e3,h⟩=>by
  obtain⟨v1,h1,h2⟩:=AtP.last h
  exact⟨v1,⟨a,vs,y,e1,e2,e3,h1⟩,h2⟩
 | .kt k::q,v,⟨a,vs,y,e1,e2,e3,h⟩=>by
  obtain⟨v1,h1,h2⟩:=AtP.last h
  exact⟨v1,⟨a,vs,y,e1,e2,e3,h1⟩,h2⟩
 | .fd f::q,v,⟨a,C,dx,fs,y,e1,e2,e3,h⟩=>by
  obtain⟨v1,h1,h2⟩:=AtP.last h
  exact⟨v1,⟨a,C,dx,fs,y,e1,e2,e3,h1⟩,h2⟩
theorem BD {i:Nat} {md:Md} {s:Sh} {d:D} {r:Option (List Stp)} (hm:Δ[i]? =some md) (hs:wV md=some s) (hd:st[i]? =some (some d)) (hu:X.A.units+1<cLine) (ho:PPx X Δ st o i r) (hk:PX X Δ st b mb rb) (hns:NoSl b):
  PPx X Δ st (.Subscript o b pos) i (r.bind fun q=>rb.bind fun y=>(y.key).bind fun k=>Fu s d (q++[.ky k])):=cg (pe_dget hu ho hk hns) fun σ H Q ⟨O,G,q',rel,er,kk⟩=>by
 obtain⟨q,y,e1,e2,e3⟩:=cj er
 obtain⟨ky,e4,e5⟩:=bind1 e3
 obtain⟨rfl,s',d',hs',hd'⟩:=Ao e5
 refine⟨O,G,q,rel,e1,fun v0 v1 H1 G1 ev0 x1 at1=>rdE.go (rel.ext x1) e2 fun w H2 G2 rel2 x2 v2=> ?_⟩
 obtain⟨v0',L,e6,ow⟩:=rP rel2 hm hs hd
 rw[ev0] at e6;cases e6
 obtain⟨v',L1,L2',at2,_⟩:=ow.place _ hs' hd'
 obtain⟨v1',at3,at4⟩:=at2.last
 have:=at3.inj (at1.mono x2.hx)
 subst this
 obtain⟨a,kvs,z,rfl,e7,e8,e9⟩:=id at4
 have e9:v'=z:=e9
 subst e9
 rw[Rep.key e4 v2.hb]
 exact⟨a,v',rfl,.inl ⟨kvs,ky,e7,rfl,e8.symm⟩,kk v0 v' H2 G2 ev0 (x1.trans x2) at2⟩
end
theorem sY {α:Type} {A B C:List α} (h:(A++(B++C)).Nodup):(B++A).Nodup/\(∀x∈B++A,x∉C)/\C.Nodup:=by
 rw[List.nodup_append] at h
 obtain⟨hA,hBC,hd⟩:=h
 rw[List.nodup_append] at hBC
 obtain⟨hB,hC,hd2⟩:=hBC
 refine⟨List.nodup_append.mpr ⟨hB,hA,fun a ha b hb e=>hd b hb a (List.mem_append_left _ ha) e.symm⟩,fun x hx hc=> ?_,hC⟩
 rcases List.mem_append.mp hx with hx|hx
 ·exact hd2 x hx x hc rfl
 ·exact hd x hx x (List.mem_append_right _ hc) rfl
section
variable {K:Frg} {O:Org} {H:Hp} {G:Sa} {Δ:List Md} {st:Ds} {σ:CS} {i:Nat} {md:Md} {s s':Sh} {d d':D} {q:List Stp} {v0 v:V} {L Lv:List Addr}
theorem BE (g:bJ O H G (Lv++L)) (sl:Slots K O.B G H Δ st σ L) (hm:Δ[i]? =some md) (hs:wV md=some s) (hd:st[i]? =some (some d)) (e0:σ[i]? =some (some v0)) (at1:AtP H v0 q v) (hs':shP s q=some s') (hd':fQ d q=some d'):
  ∃L1 Lr,Own K G H s' d' v L1/\(Lv++L).Perm (Lv++(L1++Lr))/\ ∀(a:Addr) (o:HO) (d'':D) (L1' Lv':List Addr),a∈L1->(L1'++Lv').Nodup->(∀p∈L1'++Lv',p∈L1\/p∈Lv)->Own K G (upd H a o) s' d'' v L1'→
   ∃L',bJ O (upd H a o) G (Lv'++L')/\Slots K O.B G (upd H a o) Δ (st.set i (some (cE d q d''))) σ L'/\ ∀p∈Lv',p≠a->(upd H a o) p=H p:=by
 obtain⟨x',y',L1,L2',ex,ey,sr,pm,f⟩:=sl.split hm
 rw[hd] at ex;cases ex
 have hv:y'=some v0:=by
  rw[ey] at e0;exact Option.some.inj e0
 subst hv
 have ho:Own K G H s d v0 L1:=by
  cases md <;> first|cases hs|skip
  ·obtain⟨w,e,o⟩:=sr
   cases e;exact o
  ·obtain⟨e,o⟩:=sr
   cases e;exact o
 obtain⟨v',N1,N2,at2,o1,pn,f2⟩:=ho.place q hs' hd'
 have:=at2.inj at1
 subst this
 have pL:L.Perm (N1++(N2++L2')):=by
  have:=pm.trans (pn.append_right L2')
  rwa[List.append_assoc] at this
 have pAll:(Lv++L).Perm (Lv++(N1++(N2++L2'))):=List.Perm.append_left Lv pL
 refine⟨N1,N2++L2',o1,pAll,fun a o d'' L1' Lv' ha nd' sub own'=> ?_⟩
 have gp:=g.perm pAll
 obtain⟨nd1,dis,ndC⟩:=sY gp.nd
 have haL:a∈Lv++L:=pAll.mem_iff.mpr (List.mem_append_right _ (List.mem_append_left _ ha))
 have nGa: ¬G a:=(g.lg a haL).1
 have nBa: ¬O.B a:=fun b=>(g.lg a haL).2.elim (g.bin a b).2 (g.bin a b).1
 have agG:Agr G H (upd H a o):=fun p gp=>hZ.of_eq fun u e=>by rw[upd_ne (fun z=>by subst z;exact nGa gp)];exact e
 have agB:Agr O.B H (upd H a o):=fun p gp=>hZ.of_eq fun u e=>by rw[upd_ne (fun z=>by subst z;exact nBa gp)];exact e
 have out: ∀p∈N2++L2',(upd H a o) p=H p:=fun p hp=>upd_ne fun z=>by subst z;exact dis p (List.mem_append_left _ ha) hp
 obtain⟨L3,p3,o3⟩:=f2 G (upd H a o) d'' L1' (fun _ g=>g) agG (fun p hp=>out p (List.mem_append_left _ hp)) own'
 have sr':lA K O.B G (upd H a o) md (some (cE d q d'')) (some v0) L3:=by
  cases md <;> first|cases hs|skip
  ·exact⟨v0,rfl,o3⟩
  ·obtain⟨e,_⟩:=sr
   cases e
   exact⟨rfl,o3⟩
 obtain⟨L4,p4,s4⟩:=f G (upd H a o) md (some (cE d q d'')) (some v0) L3 (fun _ g=>g) agG agB (fun p hp=>out p (List.mem_append_right _ hp)) sr'
 rw[fP hm,fP ey] at s4
 have p5:(Lv'++L4).Perm ((L1'++Lv')++(N2++L2')):=by
  have h1:L4.Perm (L1'++(N2++L2')):=by
   have:=p4.trans (p3.append_right L2')
   rwa[List.append_assoc] at this
  refine (List.Perm.append_left Lv' h1).trans ?_
  rw[<-List.append_assoc]
  exact List.Perm.append_right _ List.perm_append_comm
 have hk:Ndd H a:=Own.kind _ _ _ _ o1 a ha
 refine⟨L4,bJ.perm ⟨g.bin,fun p u e n t=> ?_,g.gsub,g.gold,fun p gp=> ?_,fun p h=> ?_,?_,fun p m=> ?_,fun p ps e=>Fc (.inl hk) (g.tl p ps e),rE (.inl hk) g.tb⟩ p5.symm,s4,fun p hp hne=>upd_ne hne⟩
 ·have hne:p≠a:=fun z=>by
   subst z
   exact (g.lg p haL).2.elim n fun h=>by rw[h] at e;cases e
  rw[upd_ne hne];exact g.frame p u e n
 ·by_cases hp:p=a
  ·subst hp;exact absurd gp nGa
  ·rw[upd_ne hp];exact g.gin p gp
 ·by_cases hp:p=a
  ·subst hp;rw[upd_same];simp
  ·rw[upd_ne hp];exact g.dom p h
 ·rw[List.nodup_append]
  refine⟨nd',ndC,fun x hx y hy e=> ?_⟩
  subst e
  rcases sub x hx with h|h
  ·exact dis x (List.mem_append_left _ h) hy
  ·exact dis x (List.mem_append_right _ h) hy
 ·have:p∈Lv++L:=by
   rcases List.mem_append.mp m with m|m
   ·rcases sub p m with h|h
    ·exact pAll.mem_iff.mpr (List.mem_append_right _ (List.mem_append_left _ h))
    ·exact List.mem_append_left _ h
   ·exact pAll.mem_iff.mpr (List.mem_append_right _ (List.mem_append_right _ m))
  exact g.lg p this
theorem Ap {R:D->V->List Addr->Prop} {d1:D} {v1:V} {Lv:List Addr} (h1:R d1 v1 Lv): ∀{ds:List D} {vs:List V} {L:List Addr},gX R ds vs L->gX R (ds++[d1]) (vs++[v1]) (L++Lv)
 | [],_,_,o=>by
  rw[o.1,o.2]
  exact⟨v1,[],Lv,[],rfl,h1,⟨rfl,rfl⟩,by simp⟩
 |d::ds,_,_,⟨v,r,L1,L2,e1,o1,o2,e2⟩=>by
  subst e1;subst e2
  exact⟨v,r++[v1],L1,L2++Lv,rfl,o1,Ap h1 o2,by rw[List.append_assoc]⟩
end
def shV:VM->Option Sh
 | .rg .fz=>some .fz
 | .nw s=>some s
 |_=>none
theorem Fw {K:Frg} {O:Org} {H:Hp} {G:Sa} {m:VM} {s:Sh} {d:D} {v:V} {L:List Addr} (h:shV m=some s) (hv:VL K O H G m d v L):Own K G H s d v L:=by
 cases m with
 |rg r=>
  cases r <;> first|cases h|skip
  unfold Own
  exact hv
 |nw s'=>cases h;exact hv
 |sp r=>cases h
section
variable {X:Cx} {Δ:List Md} {st:Ds} {a b e o:Expr} {es:List Expr} {m ma mb:VM} {ra rb:Option D} {pos apos:Pos} {i:Nat} {md:Md} {s s' s'':Sh} {d:D} {rp:Option (List Stp)}
def D.app (x:D) (e:D):Option (D×D):=match x with
 | .lst ds=>if ds.length<sizeLine then some (.non,.lst (ds++[e])) else none
 |_=>none
def Aq (st:Ds) (i:Nat) (d:D) (q:List Stp) (f:D->Option (D×D)):Option (D×Ds):=(fQ d q).bind fun d'=>(f d').bind fun r=>some (r.1,st.set i (some (cE d q r.2)))
theorem lh (hm:Δ[i]? =some md) (hs:wV md=some s) (hd:st[i]? =some (some d)) (ho:PPx X Δ st o i rp) (hsh: ∀q,rp=some q->shP s q=some (.ls s'')) (he:PX X Δ st e m ra) (hv:shV m=some s'')
  (hbase:attributeBase o "append" X.env (eval o X.env)=eval o X.env:=by rfl)
  (hfew:((backTo pos (starEach [e] X.env)).all (fun x=> !x.1)&&(backToKw pos (keywordEach [] X.env)).all (fun x=>x.1.isSome)&&decide ([e].length+([]:List Keyword).length+(if ([]:List Keyword).isEmpty then 0 else 1)<30))=true:=by rfl)
  (hline:(apos.endLine==pos.line)=true:=by rfl) (hse:starEach [e] X.env=(false,eval e X.env)::starEach [] X.env:=by rfl):
  PY X Δ st (.Call (.Attribute o "append" apos) [e] [] pos) (.rg .fz) (rp.bind fun q=>ra.bind fun x=>Aq st i d q fun d'=>D.app d' x):=
 cg (pe_bm PySem.F.plainAttrs_list PySem.F.slot_list_append PySem.F.type_list_append mt_append ho (pa_cons he pa_nil hse) hbase hfew hline hse) fun σ H Q ⟨O,G,ds,rel,er,k⟩=>by
  obtain⟨q,x,e1,e2,e3⟩:=cj er
  obtain⟨d',e4,e5⟩:=bind1 e3
  obtain⟨r,e6,e7⟩:=bind1 e5
  cases e7
  have hsq:=hsh q e1
  refine⟨O,G,q,rel,e1,fun v0 v H1 G1 ev0 x1 at1=> ?_⟩
  have rel1:=rel.ext x1
  have hty: ∃l vs,v= .ref l/\H1 l=some (.lst vs):=by
   obtain⟨v0',L,e8,ow⟩:=rP rel1 hm hs hd
   rw[ev0] at e8;cases e8
   obtain⟨v',L1,L2',at2,o1,_⟩:=ow.place _ hsq e4
   have:=at2.inj at1
   subst this
   unfold Own at o1
   obtain⟨l,vs,ds',L',_,ev,hl,_⟩:=o1
   exact⟨l,vs,ev,hl⟩
  obtain⟨l,vs,rfl,hl⟩:=hty
  refine⟨.inl ⟨rfl,vs,SqL.of hl⟩,rdE.go rel1 e2 fun w H2 G2 rel2 x2 v2=> ?_⟩
  obtain⟨L,Lv,g,sl,vl⟩:=CQ rel1 x2 v2
  obtain⟨L1,Lr,o1,pa,f⟩:=BE g sl hm hs hd ev0 (at1.mono x2.hx) hsq e4
  unfold Own at o1
  obtain⟨l',vs',ds',L',rfl,ev,hl',ol,rfl⟩:=o1
  cases ev
  obtain⟨hz,rfl⟩:=aH (show (if ds'.length<sizeLine then some (D.non,D.lst (ds'++[x])) else none)=some r from e6)
  have nd:=(sY (g.perm pa).nd).1
  have ow:=Fw hv vl
  obtain⟨L3,g3,s3,_⟩:=f l (.lst (vs'++[w])) (.lst (ds'++[x])) (l::(L'++Lv)) [] List.mem_cons_self (by rw[List.append_nil];exact nd) (fun p hp=>by
    rw[List.append_nil] at hp
    rcases List.mem_cons.mp hp with rfl|hp
    ·exact .inl List.mem_cons_self
    ·rcases List.mem_append.mp hp with hp|hp
     ·exact .inl (List.mem_cons_of_mem _ hp)
     ·exact .inr hp) (by
    have nl: ∀p∈L'++Lv,p≠l:=fun p hp z=>by
     subst z
     rw[List.cons_append,List.nodup_cons] at nd
     exact nd.1 hp
    have nG: ¬G2 l:=(g.lg l (pa.mem_iff.mpr (List.mem_append_right _ (List.mem_append_left _ List.mem_cons_self)))).1
    have ag:Agr G2 H2 (upd H2 l (.lst (vs'++[w]))):=fun p gp=>hZ.of_eq fun u e=>by rw[upd_ne (fun z=>by subst z;exact nG gp)];exact e
    unfold Own
    refine⟨l,vs'++[w],ds'++[x],L'++Lv,rfl,rfl,upd_same,Ap ?_ (gX.mono (P:=fun p=>p∈L') (fun d v M hM o=>Own.mono (fun _ g=>g) ag s'' d v M (fun p hp=>upd_ne (nl p (List.mem_append_left _ (hM p hp)))) o) ds' vs' L' (fun _ h=>h) ol),rfl⟩
    exact Own.mono (fun _ g=>g) ag s'' x w Lv (fun p hp=>upd_ne (nl p (List.mem_append_right _ hp))) ow)
  refine⟨l,vs',w,rfl,rfl,hl',by rw[ol.length];exact hz,k .non _ G2 ⟨L3,[],g3,s3,by unfold VL;exact⟨by unfold Rep;rfl,rfl⟩⟩⟩
end
end Sw
namespace Sw
open PySem PySem.Spec PyProof.Rows L2
variable [NmC]
section
variable {K:Frg} {O:Org} {H H1:Hp} {G G1:Sa} {Δ:List Md} {st:Ds} {σ:CS} {i:Nat} {md:Md} {m:VM} {d:D} {v:V}
theorem VL.mono {L:List Addr} (h:VL K O H G m d v L) (x:Ext H G H1 G1):VL K O H1 G1 m d v L:=by
 cases m with
 |rg r=>
  cases r with
  |hb=>exact⟨Rep.mono (fun _ g=>g) x.agr d v h.1,h.2⟩
  |bb=>exact⟨Rep.mono (fun _ g=>g) x.agr d v h.1,h.2⟩
  |fz=>exact⟨Rep.mono x.gg x.agr d v h.1,h.2⟩
 |nw s=>
  have hk:=Own.kind s d v L h
  exact Own.mono x.gg x.agr s d v L (fun p m=>x.vp (hk p m)) h
 |sp r=>
  cases r with
  |hb=>exact⟨Spn.mono (fun _ g=>g) x.gg x.agr x.agr h.1,h.2⟩
  |bb=>exact⟨Spn.mono (fun _ g=>g) x.gg x.agr x.agr h.1,h.2⟩
  |fz=>exact⟨Spn.mono x.gg x.gg x.agr x.agr h.1,h.2⟩
theorem VL.kind {L:List Addr} (h:VL K O H G m d v L): ∀p∈L,Ndd H p:=by
 cases m with
 |rg r=>intro p m;rw[h.2] at m;cases m
 |nw s=>exact Own.kind s d v L h
 |sp r=>intro p m;rw[h.2] at m;cases m
theorem RelV.ext (r:RelV K O Δ st σ H G m d v) (x:Ext H G H1 G1):RelV K O Δ st σ H1 G1 m d v:=by
 obtain⟨L,Lv,g,s,vl⟩:=r
 have hk: ∀p∈Lv++L,Ndd H p:=fun p m=>(List.mem_append.mp m).elim (vl.kind p) (s.kind p)
 exact⟨L,Lv,g.ext x hk (x.gin g.gin),s.mono x.gg x.agr x.agr (fun p m=>x.vp (s.kind p m)),vl.mono x⟩
theorem RelV.rel (r:RelV K O Δ st σ H G m d v):Rel K O Δ st σ H G:=by
 obtain⟨L,Lv,g,s,vl⟩:=r
 exact⟨L,g.sub (List.sublist_append_right _ _),s⟩
theorem RelV.set (r:RelV K O Δ st σ H G m d v) (hi:i<Δ.length) (hm:Fe m=some md):Rel K O (Δ.set i md) (st.set i (some d)) (σ.set i (some v)) H G:=by
 obtain⟨L,Lv,g,s,vl⟩:=r
 obtain⟨x',y',L1,L2,ex,ey,sr,pm,f⟩:=s.split (List.getElem?_eq_getElem hi)
 have base:bJ O H G (Lv++L2):=(g.perm (List.Perm.append_left Lv pm)).sub (List.Sublist.append (List.Sublist.refl _) (List.sublist_append_right _ _))
 cases m with
 |rg r=>
  cases r with
  |hb=>cases hm
  |bb=>
   cases hm
   obtain⟨L',pm',s'⟩:=f G H .bo (some d) (some v) [] (fun _ g=>g) aB aB (fun _ _=>rfl) ⟨v,rfl,vl.1,rfl⟩
   exact⟨L',(base.sub (List.sublist_append_right _ _)).perm pm'.symm,s'⟩
  |fz=>
   cases hm
   obtain⟨L',pm',s'⟩:=f G H .fz (some d) (some v) [] (fun _ g=>g) aB aB (fun _ _=>rfl) ⟨v,rfl,vl.1,rfl⟩
   exact⟨L',(base.sub (List.sublist_append_right _ _)).perm pm'.symm,s'⟩
 |nw sh=>
  cases hm
  obtain⟨L',pm',s'⟩:=f G H (.ow sh) (some d) (some v) Lv (fun _ g=>g) aB aB (fun _ _=>rfl) ⟨v,rfl,vl⟩
  exact⟨L',base.perm pm'.symm,s'⟩
 |sp r=>
  cases r <;> first|(cases hm;done)|skip
  cases hm
  obtain⟨L',pm',s'⟩:=f G H .bl (some d) (some v) [] (fun _ g=>g) aB aB (fun _ _=>rfl) ⟨v,rfl,vl.1,rfl⟩
  exact⟨L',(base.sub (List.sublist_append_right _ _)).perm pm'.symm,s'⟩
end
def Iz (f:List D->List D->Option (D×List D)) (xs:List D):D->Option (D×D)
 | .lst ds=>(f ds xs).map fun r=>(r.1,.lst r.2)
 |_=>none
section
variable {X:Cx} {Δ:List Md} {st:Ds} {a b e o:Expr} {es:List Expr} {m ma mb:VM} {ra rb:Option D} {pos apos:Pos} {i:Nat} {md:Md} {s s' s'':Sh} {d:D} {rp:Option (List Stp)}
theorem Fx {K:Frg} {O:Org} {H1:Hp} {G1:Sa} {σ:CS} {q:List Stp} {v0 v:V} {d':D} (rel1:Rel K O Δ st σ H1 G1) (hm:Δ[i]? =some md) (hs:wV md=some s) (hd:st[i]? =some (some d)) (ev0:σ[i]? =some (some v0)) (at1:AtP H1 v0 q v) (hsq:shP s q=some (.dc s'')) (hd':fQ d q=some d'):
  ∃l vs,v= .ref l/\H1 l=some (.dK vs):=by
 obtain⟨v0',L,e8,ow⟩:=rP rel1 hm hs hd
 rw[ev0] at e8;cases e8
 obtain⟨v',L1,L2',at2,o1,_⟩:=ow.place _ hsq hd'
 have:=at2.inj at1
 subst this
 unfold Own at o1
 obtain⟨l,vs,ds',L',_,ev,hl,_⟩:=o1
 exact⟨l,vs,ev,hl⟩
end
end Sw
namespace Sw
open PySem PySem.Spec PyProof.Rows L2
variable [NmC]
def Fy:List Nat->List D->Ds->Ds
 |i::is,d::ds,st=>Fy is ds (st.set i (some d))
 |_,_,st=>st
inductive BF (Δ:List Md) (st:Ds):List Nat->List Sh->List D->Prop where
 |nil:BF Δ st [] [] []
 |cons {i:Nat} {is:List Nat} {md:Md} {s:Sh} {ss:List Sh} {d:D} {ds:List D}:Δ[i]? =some md->wV md=some s->st[i]? =some (some d)->i∉is->BF Δ st is ss ds->BF Δ st (i::is) (s::ss) (d::ds)
theorem Ea {i:Nat} {y:Option D}: ∀{is:List Nat} {ds:List D} {st:Ds},i∉is->Fy is ds (st.set i y)=(Fy is ds st).set i y
 | [],_,_,_=>rfl
 |j::is,[],_,_=>rfl
 |j::is,d::ds,st,h=>by
  simp only[List.mem_cons,not_or] at h
  show Fy is ds ((st.set i y).set j (some d))=_
  rw[List.set_comm _ _ h.1,Ea h.2]
  rfl
theorem BF.drop {Δ:List Md} {st:Ds} {i:Nat} {y:Option D}: ∀{is:List Nat} {ss:List Sh} {ds:List D},i∉is->BF Δ st is ss ds->BF Δ (st.set i y) is ss ds
 |_,_,_,_,.nil=>.nil
 |_,_,_,h,.cons h1 h2 h3 h4 h5=>by
  simp only[List.mem_cons,not_or] at h
  exact .cons h1 h2 (by rw[List.getElem?_set_ne h.1];exact h3) h4 (BF.drop h.2 h5)
section
variable {K:Frg} {B G:Sa} {H:Hp}
theorem qL.kind: ∀{ps:List (V×Sh)} {ds:List D} {L:List Addr},qL K G H ps ds L-> ∀p∈L,Ndd H p
 | [],[],_,h,p,m=>by rw[show _=[] from h] at m;cases m
 |(v,s)::ps,d::ds,_,⟨L1,L2,o1,o2,e⟩,p,m=>by
  subst e
  rcases List.mem_append.mp m with m|m
  ·exact Own.kind s d v L1 o1 p m
  ·exact qL.kind o2 p m
 | [],_::_,_,h,_,_=>h.elim
 |_::_,[],_,h,_,_=>h.elim
theorem bJ.rL {O:Org} {B':Sa} {H1 H2:Hp} {G1 G2:Sa} {Ll Lr Lx:List Addr} (r:bJ O H1 G1 (Ll++Lr)) (hk: ∀p∈Lr,Ndd H1 p) (q:bJ ⟨G1,H1,Ll,B'⟩ H2 G2 Lx):bJ O H2 G2 (Lx++Lr)/\ ∀p∈Lr,H2 p=H1 p:=by
 have dis:=List.nodup_append.mp r.nd
 have keep: ∀p∈Lr,H2 p=H1 p:=fun p m=>by
  obtain⟨u,e,nn⟩:=hk p m
  rw[e]
  exact q.frame p u e (fun h=>dis.2.2 p h p m rfl) nn.nt
 refine⟨⟨r.bin,fun p u e n t=> ?_,fun p g=>q.gsub p (r.gsub p g),fun p g=> ?_,q.gin,fun p h=>q.dom p (r.dom p h),?_,fun p m=> ?_,fun p ps e=>(by
  obtain⟨ps1,e1⟩:=r.tl p ps e
  exact q.tl p ps1 e1),q.tb⟩,keep⟩
 ·exact q.frame p u (r.frame p u e n) fun m=>(r.lg p (List.mem_append_left _ m)).2.elim n fun z=>by rw[z] at e;cases e
 ·rcases q.gold p g with g|n|⟨xs,t⟩|m
  ·exact r.gold p g
  ·exact .inr (.inl (r.back n))
  ·rcases r.was (show H1 p=some (imm xs) from t) (o6 _) with e|e|e
   ·exact .inr (.inr (.inl ⟨xs,e⟩))
   ·exact .inr (.inl e)
   ·exact .inr (.inr (.inr e))
  ·rcases (r.lg p (List.mem_append_left _ m)).2 with h|h
   ·exact .inr (.inr (.inr h))
   ·exact .inr (.inl h)
 ·rw[List.nodup_append]
  refine⟨q.nd,dis.2.1,fun x hx y hy e=> ?_⟩
  subst e
  rcases (q.lg x hx).2 with h|h
  ·exact dis.2.2 x h x hy rfl
  ·exact (hk x hy).ne h
 ·rcases List.mem_append.mp m with m|m
  ·refine⟨(q.lg p m).1,?_⟩
   rcases (q.lg p m).2 with h|h
   ·exact (r.lg p (List.mem_append_left _ h)).2
   ·exact .inr (r.back h)
  ·refine⟨fun g=> ?_,(r.lg p (List.mem_append_right _ m)).2⟩
   rcases q.gold p g with g|n|⟨xs,t⟩|h
   ·exact (r.lg p (List.mem_append_right _ m)).1 g
   ·exact (hk p m).ne n
   ·exact (hk p m).E9 t
   ·exact dis.2.2 p h p m rfl
end
inductive AS where
 |pv (m:VM)|ln (i:Nat)
def O8 (K:Frg) (O:Org) (st:Ds) (σ:CS) (H H':Hp) (G':Sa):AS->D->V->Prop
 | .pv m,d,v=>bD K O H H' G' m d v
 | .ln i,d,v=>st[i]? =some (some d)/\σ[i]? =some (some v)
def xP (K:Frg) (O:Org) (st:Ds) (σ:CS) (H H':Hp) (G':Sa):List AS->List D->List V->Prop
 | [],[],vs=>vs=[]
 |m::ms,d::ds,vs=> ∃v r,vs=v::r/\O8 K O st σ H H' G' m d v/\xP K O st σ H H' G' ms ds r
 |_,_,_=>False
section
variable {K:Frg} {O:Org} {H H1 H2:Hp} {G G1 G2:Sa} {st:Ds} {σ:CS}
theorem xP.back: ∀{ms:List AS} {ds:List D} {vs:List V},Ext H G H1 G1->xP K O st σ H1 H2 G2 ms ds vs->xP K O st σ H H2 G2 ms ds vs
 | [],[],_,_,h=>h
 | .pv m::ms,d::ds,_,e,⟨v,r,e1,h1,h2⟩=>⟨v,r,e1,bD.back e h1,xP.back e h2⟩
 | .ln i::ms,d::ds,_,e,⟨v,r,e1,h1,h2⟩=>⟨v,r,e1,h1,xP.back e h2⟩
 | [],_::_,_,_,h=>h.elim
 |_::_,[],_,_,h=>h.elim
end
section
variable {X:Cx} {Δ:List Md} {st:Ds} {a b e o:Expr} {es:List Expr} {m ma mb rm:VM} {ra rb:Option D} {rs:Option (List D)} {pos p apos:Pos} {as:List AS} {ps:List PM} {Fs:List D->Option FR} {k:Nat} {f:Addr} {fd:FuncData} {pn:List Str} {x:Str}
def FR.out (st:Ds) (is:List Nat):FR->Option (D×Ds)
 | .ok d os=>if os.length=is.length then some (d,Fy is os st) else none
 |_=>none
end
def D.put (d:D) (k:Key) (x:D):Option D:=match d with
 | .dct ks=>if ks.length<sizeLine then some (.dct (aM ks k x)) else none
 |_=>none
section
variable {α β:Type} {X:Cx} {E:Exits α β} {Δ:List Md} {st:Ds} {rest:List Stmt} {a b e o:Expr} {m ma mb:VM} {ra rb:Option D} {pos pos':Pos} {i:Nat} {md:Md} {s s' s'':Sh} {d:D} {rp:Option (List Stp)}
theorem Fz {κ:Type} [DecidableEq κ] {R R':D->V->List Addr->Prop} {ds:List (κ×D)} {vs:List (κ×V)} {L:List Addr} (o:b9 R ds vs L) (k:κ) (x:D) (v:V) (Lv:List Addr) (hm: ∀d v M,(∀p∈M,p∈L)->R d v M->R' d v M) (h:R' x v Lv):
  ∃L',b9 R' (aM ds k x) (aM vs k v) L'/\(∀p∈L',p∈Lv\/p∈L)/\((Lv++L).Nodup->L'.Nodup):=by
 cases e:aC ds k with
 |none=>
  obtain⟨L',pm,o'⟩:=o.new e hm h
  exact⟨L',o',fun p m=>List.mem_append.mp (pm.mem_iff.mp m),fun n=>pm.nodup_iff.mpr n⟩
 |some y=>
  obtain⟨w,L1,L2',g1,g2,pm,f⟩:=o.item e
  obtain⟨L',pm',o'⟩:=f R' x v Lv (fun d v M hM=>hm d v M fun p hp=>pm.mem_iff.mpr (List.mem_append_right _ (hM p hp))) h
  refine⟨L',o',fun p m=> ?_,fun n=>pm'.nodup_iff.mpr ?_⟩
  ·rcases List.mem_append.mp (pm'.mem_iff.mp m) with h|h
   ·exact .inl h
   ·exact .inr (pm.mem_iff.mpr (List.mem_append_right _ h))
  ·have n2:=(List.Perm.append_left Lv pm).nodup_iff.mp n
   exact n2.sublist (List.Sublist.append (List.Sublist.refl _) (List.sublist_append_right _ _))
theorem IA {k:D->Option (Out α β)} (hm:Δ[i]? =some md) (hs:wV md=some s) (hd:st[i]? =some (some d)) (hu:X.A.units+1<cLine) (he:PX X Δ st e m ra) (hv:shV m=some s'') (ho:PPx X Δ st o i rp) (hsh: ∀q,rp=some q->shP s q=some (.dc s'')) (hk:PX X Δ st b mb rb)
  (h: ∀d1,Blk X E Δ (st.set i (some d1)) rest (k d1)) (hsw:swapsWith e (some (.Subscript o b pos')) pos.line X.env=pure false:=by rfl):
  Blk X E Δ st (.Assign [.Subscript o b pos'] e pos::rest) (ra.bind fun x=>rp.bind fun q=>rb.bind fun y=>(y.key).bind fun ky=>(fQ d q).bind fun d'=>(D.put d' ky x).bind fun d''=>k (cE d q d'')):=
 ia (pss_cons (ps_dput hu ho hk he hsw) (fR h)) fun De σ H ⟨O,G,qq,rel,er,kk⟩=>by
  obtain⟨x,e1,er⟩:=bind1 er
  obtain⟨q,y,e2,e3,er⟩:=cj er
  obtain⟨ky,d',e4,e5,er⟩:=cj er
  obtain⟨d'',e6,er⟩:=bind1 er
  have hsq:=hsh q e2
  refine rdE.go rel e1 fun w H1 G1 rel1 x1 v1=> ?_
  have rv:=CQ rel x1 v1
  refine⟨O,G1,q,rel1,e2,fun v0 v H2 G2 ev0 x2 at2=>rdE.go (rel1.ext x2) e3 fun u H3 G3 rel3 x3 v3=> ?_⟩
  obtain⟨L,Lv,g,sl,vl⟩:=(rv.ext x2).ext x3
  obtain⟨L1,Lr,o1,pa,f⟩:=BE g sl hm hs hd ev0 (at2.mono x3.hx) hsq e5
  unfold Own at o1
  obtain⟨l,vs,ds,L',rfl,rfl,hl,ndk,ol,rfl⟩:=o1
  obtain⟨hz,rfl⟩:=aH (show (if ds.length<sizeLine then some (D.dct (aM ds ky x)) else none)=some d'' from e6)
  have nd:=(sY (g.perm pa).nd).1
  have ow:=Fw hv vl
  have nl: ∀p∈L'++Lv,p≠l:=fun p hp z=>by
   subst z
   rw[List.cons_append,List.nodup_cons] at nd
   exact nd.1 hp
  have nG: ¬G3 l:=(g.lg l (pa.mem_iff.mpr (List.mem_append_right _ (List.mem_append_left _ List.mem_cons_self)))).1
  have ag: ∀ob,Agr G3 H3 (upd H3 l ob):=fun ob p gp=>hZ.of_eq fun u e=>by rw[upd_ne (fun z=>by subst z;exact nG gp)];exact e
  obtain⟨L'',o2,sub2,nd2⟩:=Fz (R':=Own X.K G3 (upd H3 l (.dK (aM vs ky w))) s'') ol ky x w Lv (fun d v M hM o=>Own.mono (fun _ g=>g) (ag _) s'' d v M (fun p hp=>upd_ne (nl p (List.mem_append_left _ (hM p hp)))) o)
   (Own.mono (fun _ g=>g) (ag _) s'' x w Lv (fun p hp=>upd_ne (nl p (List.mem_append_right _ hp))) ow)
  have hkey:=Rep.key e4 v3.hb
  subst hkey
  have hnv:(vs.map (·.1)).Nodup:=by rw[ol.keys];exact ndk
  obtain⟨L3,g3,s3,_⟩:=f l (.dK (aM vs ky w)) (.dct (aM ds ky x)) (l::L'') [] List.mem_cons_self (by
    rw[List.append_nil,List.nodup_cons]
    rw[List.cons_append,List.nodup_cons] at nd
    refine⟨fun m=> ?_,nd2 ?_⟩
    ·rcases sub2 l m with h|h
     ·exact nd.1 (List.mem_append_right _ h)
     ·exact nd.1 (List.mem_append_left _ h)
    ·exact List.perm_append_comm.nodup_iff.mp nd.2) (fun p hp=>by
    rw[List.append_nil] at hp
    rcases List.mem_cons.mp hp with rfl|hp
    ·exact .inl List.mem_cons_self
    ·rcases sub2 p hp with h|h
     ·exact .inr h
     ·exact .inl (List.mem_cons_of_mem _ h)) (by
    unfold Own
    exact⟨l,_,_,L'',rfl,rfl,upd_same,fN ndk,o2,rfl⟩)
  have hlen:vs.length=ds.length:=by
   have:=congrArg List.length ol.keys
   simpa using this
  refine⟨l,upd H3 l (.dK (putK vs ky w)),rfl,.inl ⟨vs,ky,hl,rfl,by rw[hlen];exact hz,rfl⟩,cE d q (.dct (aM ds ky x)),O,G3,qq,?_,er,kk⟩
  rw[Ii hnv]
  exact⟨L3,by simpa using g3,s3⟩
end
end Sw
namespace Sw
open PySem PySem.Spec PyProof.Rows L2
variable [NmC]
def b1 {α β:Type} (f:α->Option β) (a:Option α):Option β:=a.bind f
def b2 {α β γ:Type} (f:α->β->Option γ) (a:Option α) (b:Option β):Option γ:=a.bind fun x=>b.bind fun y=>f x y
def aj (a:Option D) (r:Option (List D)):Option (List D):=a.bind fun x=>r.bind fun xs=>some (x::xs)
def aN:Option (List D):=some []
def aP (Fs:List D->Option FR) (rs:Option (List D)):Option D:=rs.bind fun ds=>(Fs ds).bind FR.val
def do1 (d:D) (q:List Stp) (f:D->Option (D×D)):Option (D×D):=(fQ d q).bind fun d'=>(f d').bind fun r=>some (r.1,cE d q r.2)
def FR.Lc:FR->Option (D×D)
 | .ok d [o]=>some (d,o)
 |_=>none
def FR.Ld:FR->Option (D×D×D)
 | .ok d [o,p]=>some (d,o,p)
 |_=>none
def Nf (Fs:List D->Option FR) (rs:Option (List D)):Option (D×D):=rs.bind fun ds=>(Fs ds).bind FR.Lc
def call2 (Fs:List D->Option FR) (rs:Option (List D)):Option (D×D×D):=rs.bind fun ds=>(Fs ds).bind FR.Ld
abbrev PY1 (X:Cx) (Δ:List Md) (st:Ds) (e:Expr) (m:VM) (i:Nat) (r:Option (D×D)):Prop:=PY X Δ st e m (r.bind fun d=>some (d.1,st.set i (some d.2)))
section
variable {X:Cx} {Δ:List Md} {st:Ds} {e:Expr} {m:VM} {i j:Nat}
theorem CT (d:D) (q:List Stp) (f:D->Option (D×D)):Aq st i d q f=(do1 d q f).bind fun d=>some (d.1,st.set i (some d.2)):=by
 unfold Aq do1
 cases fQ d q with
 |none=>rfl
 |some d'=>
  show (f d').bind _=((f d').bind _).bind _
  cases f d' <;> rfl
theorem p6 {α β:Type} {d:D} {a:Option α} {b:Option β} {q:α->List Stp} {f:α->β->D->Option (D×D)} (h:PY X Δ st e m (a.bind fun x=>b.bind fun y=>Aq st i d (q x) (f x y))):PY1 X Δ st e m i (a.bind fun x=>b.bind fun y=>do1 d (q x) (f x y)):=by
 have e1:(a.bind fun x=>b.bind fun y=>Aq st i d (q x) (f x y))=((a.bind fun x=>b.bind fun y=>do1 d (q x) (f x y)).bind fun d=>some (d.1,st.set i (some d.2))):=by
  cases a with
  |none=>rfl
  |some x=>cases b with
   |none=>rfl
   |some y=>exact CT _ _ _
 rw[e1] at h;exact h
theorem CU {α:Type} {d:D} {a:Option α} {q:α->List Stp} {f:α->D->Option (D×D)} (h:PY X Δ st e m (a.bind fun x=>Aq st i d (q x) (f x))):PY1 X Δ st e m i (a.bind fun x=>do1 d (q x) (f x)):=by
 have e1:(a.bind fun x=>Aq st i d (q x) (f x))=((a.bind fun x=>do1 d (q x) (f x)).bind fun d=>some (d.1,st.set i (some d.2))):=by
  cases a with
  |none=>rfl
  |some x=>exact CT _ _ _
 rw[e1] at h;exact h
end
section
variable {α β:Type} {X:Cx} {E:Exits α β} {Δ:List Md} {st:Ds} {rest:List Stmt} {e:Expr} {m:VM} {pos:Pos} {i j k:Nat}
theorem OA (i0:Nat) {x:Str} {p':Pos} {md:Md} {r:Option (D×D)} {k:D×D->Option (Out α β)} (he:PY1 X Δ st e m i r) (hm:Fe m=some md) (hi:i0<Δ.length) (hnd:X.N.Nodup) (hN:X.N[i0]? =some x) (hx:Loc X.env.scope x)
  (h: ∀d:D×D,Blk X E (Δ.set i0 md) ((st.set i (some d.2)).set i0 (some d.1)) rest (k d)) (hs:swapsWith e (some (.Name x p')) pos.line X.env=pure false:=by rfl) (hf:X.fn x=true\/X.env.scope.names.lookup x=some .local:=by first|exact .inl rfl|exact .inr rfl|assumption):
  Blk X E Δ st (.Assign [.Name x p'] e pos::rest) (r.bind k):=
 ia (pss_cons (ps_set hnd hN hx he hs hf) (fR h)) fun De σ H ⟨O,G,q,rel,er,kk⟩=>by
  obtain⟨d,e1,e2⟩:=bind1 er
  exact⟨O,G,_,rel,by rw[e1];rfl,fun v H1 G1 rv=>⟨d,O,G1,q,rv.set hi hm,e2,kk⟩⟩
theorem FA {r:Option (D×D)} {k:D×D->Option (Out α β)} (he:PY1 X Δ st e m i r) (h: ∀d:D×D,Blk X E Δ (st.set i (some d.2)) rest (k d)) (hs:swapsWith e none pos.line X.env=pure false:=by rfl):Blk X E Δ st (.Expr e pos::rest) (r.bind k):=
 ia (pss_cons (ps_expr he hs) (fR h)) fun De σ H ⟨O,G,q,rel,er,kk⟩=>by
  obtain⟨d,e1,e2⟩:=bind1 er
  exact⟨O,G,_,rel,by rw[e1];rfl,fun v H1 G1 rv=>⟨d,O,G1,q,rv.rel,e2,kk⟩⟩
theorem Eb (i:Nat) {s:Sh} {ss:List Stmt} {r:Option (Out α β)} (hm:Δ[i]? =some (.ow s)) (h:Blk X E (Δ.set i .fz) st ss r):Blk X E Δ st ss r:=
 ia h fun De σ H ⟨O,G,q,⟨L,g,sl⟩,er,kk⟩=>by
  obtain⟨x',y',L1,L2',ex,ey,sr,pm,f⟩:=sl.split hm
  cases x' with
  |none=>
   obtain⟨L',pm',s'⟩:=f G H .fz none y' [] (fun _ g=>g) aB aB (fun _ _=>rfl) lA.none
   rw[fP ex,fP ey] at s'
   exact⟨O,G,q,⟨L',((g.perm pm).sub (List.sublist_append_right _ _)).perm pm'.symm,s'⟩,er,kk⟩
  |some d=>
   obtain⟨v,rfl,ow⟩:=sr
   have gp:=g.perm pm
   obtain⟨L',pm',s'⟩:=f (fun p=>G p\/p∈L1) H .fz (some d) (some v) [] (fun _ g=>.inl g) aB aB (fun _ _=>rfl) ⟨v,rfl,Own.rep _ _ _ _ ow,rfl⟩
   rw[fP ex,fP ey] at s'
   have pe:L'.Perm L2':=by simpa using pm'
   refine⟨O,_,q,⟨L',bJ.perm ⟨g.bin,g.fr0,fun p h=>.inl (g.gsub p h),fun p h=> ?_,fun p h=> ?_,g.dom,(List.nodup_append.mp gp.nd).2.1,fun p m=>⟨fun h=> ?_,(gp.lg p (List.mem_append_right _ m)).2⟩,g.tl,g.tb⟩ pe.symm,s'⟩,er,kk⟩
   ·rcases h with h|h
    ·exact g.gold p h
    ·rcases (gp.lg p (List.mem_append_left _ h)).2 with h|h
     ·exact .inr (.inr (.inr h))
     ·exact .inr (.inl h)
   ·rcases h with h|h
    ·exact g.gin p h
    ·exact (Own.kind _ _ _ _ ow p h).ne
   ·rcases h with h|h
    ·exact (gp.lg p (List.mem_append_right _ m)).1 h
    ·exact (List.nodup_append.mp gp.nd).2.2 p h p m rfl
end
end Sw
namespace Sw
open PySem PySem.Spec PyProof.Rows L2
variable [NmC]
section
variable {α β γ δ:Type}
def ifO (rc:Option Bool) (mA mB:Option (Out γ β)) (k:γ->Option (Out α β)):Option (Out α β):=rc.bind fun c=>(if c=true then mA else mB).bind (sqO k)
def mK (rI:Option (List δ)) (step:γ->δ->Option (Out γ γ)) (b0:γ) (k:γ->Option (Out α β)):Option (Out α β):=rI.bind fun ds=>(forL step ds b0).bind (sqF k)
noncomputable def whO (tst:γ->Option Bool) (step:γ->Option (Out γ γ)) (b0:γ) (k:γ->Option (Out α β)):Option (Out α β):=(whL tst step b0).bind (sqF k)
def cP (r:Option D) (os:List D):Option (Out α β):=r.bind fun d=>some (.ret d os)
def ifE (rc:Option Bool) (a b:Option D):Option D:=rc.bind fun c=>if c=true then a else b
def lD (a b:Option Bool):Option Bool:=a.bind fun c=>if c=true then b else some false
def orB (a b:Option Bool):Option Bool:=a.bind fun c=>if c=true then some true else b
def lX (a:Option Bool):Option Bool:=a.bind fun b=>some (!b)
def lcO (rI:Option (List δ)) (rt:δ->Option Bool) (re:δ->Option D):Option D:=rI.bind fun ds=>xJ rt re ds
def nL (x:Option D):Option (List D):=x.bind fun x=>match x with| .lst ds=>some ds|_=>none
def O9 (x:Option D):Option (List (D×D)):=x.bind fun x=>match x with| .lst ds=>D.prs ds|_=>none
def FO (m:Option (Out PEmpty PEmpty)):Option FR:=m.bind outF
end
section
variable {α β:Type} {X:Cx} {E:Exits α β} {Δ:List Md} {st:Ds}
theorem uR {ss:List Stmt}:Blk X E Δ st ss none:=⟨fun pins s σ H De I ⟨O,G,r,rel,er,k⟩=>nomatch er⟩
end
structure Cal (P:Program) (w:World) (K:Frg) (mg:Str->Option Value) (base:Heap) (k:Nat) (x:Str) (ps:List Str) (ms:List PM) (rm:VM) (Fs:List D->Option FR):Prop where
 ok: ∃(f:Addr) (fd:FuncData),FnOk P w K mg base CX0 k f fd ps (FSp K ms rm Fs)/\mg x=some (.ref f)/\PySem.W.keepIn K (.ref f)=true/\Binds K fd ps []
section
variable {X:Cx} {Δ:List Md} {st:Ds} {e:Expr} {es:List Expr} {rm:VM} {rs:Option (List D)} {pos p:Pos} {vms:List VM} {ps:List PM} {as:List AS} {Fs:List D->Option FR} {k k':Nat} {pn:List Str} {x:Str} {i j:Nat}
theorem aG (C:Cal X.prog X.w X.K X.mg X.base k x pn ps rm Fs) (hr:Room k' X.A) (ha:PAx X Δ st (e::es) vms rs) (hg:Gl X x:=by rfl) (hk:k<=k':=by decide) (ok:pb ps vms=true:=by rfl)
  (hdb:(x==("__debug__" :Str))=false:=by decide) (he:starEach (e::es) X.env=(false,eval e X.env)::starEach es X.env:=by rfl) (hpl:(backTo pos (starEach es X.env)).any (·.1)=false:=by rfl):
  PX X Δ st (.Call (.Name x p) (e::es) [] pos) rm (aP Fs rs):=by
 obtain⟨f,fd,F,hm,hkp,hb⟩:=C.ok
 exact Iy F (hr.mono hk) hg hm hkp hb ha ok hdb he hpl
end
section
variable {α β γ δ:Type} {X:Cx} {E:Exits α β} {Δ Δ':List Md} {st st':Ds} {rest body:List Stmt} {e:Expr} {m:VM} {r:Option D} {pos:Pos} {i j:Nat}
theorem aU (i:Nat) (Δ':List Md) (st':D->Ds) {x:Str} {p':Pos} {md:Md} {k:D->Option (Out α β)} (he:PX X Δ st e m r) (h: ∀d,Blk X E Δ' (st' d) rest (k d)) (hx:Loc X.env.scope x) (hnd:X.N.Nodup) (hm:Fe m=some md:=by rfl) (e1:Δ.set i md=Δ':=by rfl) (e2: ∀d,st.set i (some d)=st' d:=by intro _;rfl) (hi:i<Δ.length:=by exact Nat.le_of_ble_eq_true rfl) (hN:X.N[i]? =some x:=by rfl)
  (hs:swapsWith e (some (.Name x p')) pos.line X.env=pure false:=by rfl) (hf:X.fn x=true\/X.env.scope.names.lookup x=some .local:=by first|exact .inl rfl|exact .inr rfl|assumption):
  Blk X E Δ st (.Assign [.Name x p'] e pos::rest) (r.bind k):=KW i he hm hi hnd hN hx (fun d=>by rw[e1,e2];exact h d) hs hf
theorem ke (i:Nat) (st':D×D->Ds) {r:Option (D×D)} {k:D×D->Option (Out α β)} (he:PY1 X Δ st e m i r) (h: ∀d:D×D,Blk X E Δ (st' d) rest (k d)) (e2: ∀d:D×D,st.set i (some d.2)=st' d:=by intro _;rfl) (hs:swapsWith e none pos.line X.env=pure false:=by rfl):Blk X E Δ st (.Expr e pos::rest) (r.bind k):=
 FA he (fun d=>by rw[e2];exact h d) hs
theorem lj (i:Nat) (Δ':List Md) {s:Sh} {ss:List Stmt} {r:Option (Out α β)} (h:Blk X E Δ' st ss r) (hm:Δ[i]? =some (.ow s):=by rfl) (e1:Δ.set i .fz=Δ':=by rfl):Blk X E Δ st ss r:=Eb i hm (by rw[e1];exact h)
theorem fU {rg:Rg} {IR:Sa->Hp->δ->V->Prop} {rI:Option (List δ)} {g:TG} {uM:List Md->List Md} {uS:δ->Ds->Ds} {tg it:Expr} {is:List Nat} (Dl:List Md) (el:γ->Ds) (Dm:List Md) (em:γ->δ->Ds) {b0:γ} {step:γ->δ->Option (Out γ γ)} {k:γ->Option (Out α β)}
  (hi:PIx X Δ st tg it rg IR rI) (him:nD IR) (hr:rg≠ .hb) (hg:PG X tg g) (ht:yz X.K g rg IR uM uS Dl.length is) (w:Wk Δ st Dl (el b0)) (hb: ∀b d,Blk X (E.loop Dl el) Dm (em b d) body (step b d)) (h: ∀b,Blk X E Dl (el b) rest (k b))
  (e1:uM Dl=Dm:=by rfl) (e2: ∀b d,uS d (el b)=em b d:=by intro _ _;rfl) (hc:X.calm=true:=by rfl) (hs: ∀x,foldedSetIterable it X.env x=pure x:=by intro _;rfl) (hp:PassesOwn (model X.prog X.w) X.A X.env X.xe:=by exact PassesOwn.never):
  Blk X E Δ st (.For tg it body [] pos::rest) (mK rI step b0 k):=KY Dl el hi him hr hg ht w (fun b d=>by rw[e1,e2];exact hb b d) h hc hp hs
end
end Sw
namespace Sw
open PySem PySem.Spec PyProof.Rows L2
variable [NmC]
def blO (a:Option Bool):Option D:=a.bind fun b=>some (.bl b)
def IB (a:Option D):Option D:=(a.bind D.tb).bind fun c=>some (.bl (!c))
def Ec (a b:Option D):Option D:=(a.bind D.tb).bind fun c=>if c=true then b else some (.bl false)
def orE (a b:Option D):Option D:=(a.bind D.tb).bind fun c=>if c=true then some (.bl true) else b
def tupO (r:Option (List D)):Option D:=r.bind fun ds=>some (.tup ds)
def wW (r:Option (List D)):Option D:=r.bind fun ds=>if ds.length<=sizeLine then some (.lst ds) else none
def Ar (f:D->Option Int->Option Int->Option D) (a:Option D) (l h:Option (Option Int)):Option D:=a.bind fun x=>l.bind fun l=>h.bind fun u=>f x l u
def Ed (s:Sh) (d:D) (rp:Option (List Stp)) (rb:Option D):Option (List Stp):=rp.bind fun q=>rb.bind fun y=>(y.key).bind fun k=>Fu s d (q++[.ky k])
def yG (d:D) (rp:Option (List Stp)) (ra:Option D) (f:D->D->Option (D×D)):Option (D×D):=rp.bind fun q=>ra.bind fun x=>do1 d q fun d'=>f d' x
def Pa (d:D) (rp:Option (List Stp)) (rs:Option (List D)) (f:List D->List D->Option (D×List D)):Option (D×D):=rp.bind fun q=>rs.bind fun xs=>do1 d q (Iz f xs)
def Pb (d:D) (rp:Option (List Stp)) (f:List D->List D->Option (D×List D)):Option (D×D):=rp.bind fun q=>do1 d q (Iz f [])
def qE (d:D) (ra:Option D) (rp:Option (List Stp)) (rb:Option D):Option D:=ra.bind fun x=>rp.bind fun q=>rb.bind fun y=>(y.key).bind fun ky=>(fQ d q).bind fun d'=>(D.put d' ky x).bind fun d''=>some (cE d q d'')
theorem ff:Rg.bb≠Rg.hb:=fun h=>nomatch h
theorem dO:Rg.fz≠Rg.hb:=fun h=>nomatch h
theorem hu_of {k:Nat} {A:Around} (r:Room k A):A.units+1<cLine:=by have:=r.un;omega
theorem BG:allM (.rg .fz) [.rg .fz,.rg .fz]:=⟨rfl,rfl,trivial⟩
theorem yH:allM (.rg .fz) [.rg .fz,.rg .fz,.rg .fz]:=⟨rfl,rfl,rfl,trivial⟩
theorem Le:allM (.rg .fz) [.rg .fz,.rg .fz,.rg .fz,.rg .fz]:=⟨rfl,rfl,rfl,rfl,trivial⟩
theorem Lf:allM (.rg .fz) [.rg .fz,.rg .fz,.rg .fz,.rg .fz,.rg .fz]:=⟨rfl,rfl,rfl,rfl,rfl,trivial⟩
theorem Ee {st:Ds} {x:Str} {i:Nat} (h:st[i]? =some none): ∀v∈([(x,i)]:List (Str×Nat)).map (·.2),st[v]? =some none:=by simpa using h
theorem xQ {x:Str} {i:Nat}: ∀v∈[i],v∈([(x,i)]:List (Str×Nat)).map (·.2):=by simp
theorem nM: ∀(q r:List Stp) (s:Sh),shP s (q++r)=(shP s q).bind fun s'=>shP s' r
 | [],r,s=>by cases s <;> (simp[shP])
 |x::q,r,s=>by
  cases s with
  |fz=>cases x <;> simp[shP]
  |ls s=>cases x <;> simp[shP,nM q r]
  |dc s=>cases x <;> simp[shP,nM q r]
  |dt s=>cases x <;> simp[shP,nM q r]
  |dk od kvs s=>cases x <;> simp[shP,nM q r]
  |lz=>cases x <;> simp[shP]
  |op s=>cases x <;> simp[shP]
  |tp s=>cases x <;> simp[shP]
  |tq s=>cases x <;> simp[shP]
  |ex _=>cases x <;> simp[shP]
  |hl ss=>
   cases x <;> simp[shP]
   rename_i i
   cases ss[i]? <;> simp[nM q r]
  |is fs=>
   cases x <;> simp[shP]
   rename_i f
   cases fs.lookup f <;> simp[nM q r]
theorem mL {s s':Sh} (h:s=s'): ∀q,(some []:Option (List Stp))=some q->shP s q=some s':=by
 intro q e;cases e;rw[h];cases s' <;> rfl
theorem FD {s s1:Sh} {d:D} {rp:Option (List Stp)} {rb:Option D} (h: ∀q,rp=some q->shP s q=some (.dc s1)): ∀q,Ed s d rp rb=some q->shP s q=some s1:=by
 intro q e
 obtain⟨q',y,e1,e2,e3⟩:=cj e
 obtain⟨k,e4,e5⟩:=bind1 e3
 obtain⟨rfl,_⟩:=Ao e5
 rw[nM,h _ e1]
 cases s1 <;> simp[shP]
section
variable {X:Cx} {Δ:List Md} {st:Ds} {a b c e o:Expr} {es:List Expr} {m ma mb mc:VM} {ra rb rc:Option D} {pos p pos' apos:Pos} {r rg:Rg}
theorem CV {x1:Nat} {ra rb rc:Option D} (h:PAx X Δ st [a,b,c] [.rg .fz,.rg .fz,.rg .fz] (aj ra (aj rb (aj rc aN)))):PX X Δ st (.Tuple [a,b,c] x1 pos) (.rg .fz) (tupO (aj ra (aj rb (aj rc aN)))):=Fj h yH (by simp) fun ds e=>by
 obtain⟨x,y,e1,e2,e3⟩:=cj e
 obtain⟨z,w,e4,e5,e6⟩:=cj e2
 obtain⟨u,v,e7,e8,e9⟩:=cj e5
 cases e8;cases e9;cases e6;cases e3;simp
end
abbrev D.leS:D->D->Option Bool:=ss fun a b=>some (!decide (b.cps.toList<a.cps.toList))
abbrev D.gtS:D->D->Option Bool:=ss fun a b=>some (decide (b.cps.toList<a.cps.toList))
abbrev D.geS:D->D->Option Bool:=ss fun a b=>some (!decide (a.cps.toList<b.cps.toList))
section
variable {X:Cx} {ma mb rg:Rg}
def yI:PyData->Bool
 | .none=>true
 |_=>false
end
end Sw
namespace Sw
open PySem PySem.Spec PyProof.Rows L2
variable [NmC]
theorem vB:bootBuiltins "len" =some (.builtin "len"):=by decide+kernel
theorem BH:bootBuiltins "max" =some (.builtin "max"):=by decide+kernel
theorem wX:bootBuiltins "isinstance" =some (.builtin "isinstance"):=by decide+kernel
theorem Lg:bootBuiltins "abs" =some (.builtin "abs"):=by decide+kernel
def D.Qe (x:D):Option D:=match x with
 | .lst ds=>if D.evs ds=true/\K9 ds=true then some (.lst (srt ds)) else none
 |_=>none
def D.FE (x:D) (lo hi:Option Int):Option D:=match x with
 | .lst ds=>if D.evs ds=true then some (.lst (Sw.fT ds lo hi)) else none
 |_=>none
theorem FF {H:Hp} {G N:Sa} (hN: ∀p,N p-> ∃xs,H p=some (.tup xs)):Ext H G H (fun p=>G p\/N p):=.of (fun _ _ e=>e) (fun p g=>.inl g) (fun p g=>by
 rcases g with g|g
 ·exact .inl g
 ·obtain⟨xs,t⟩:=hN p g
  exact .inr (.inr ⟨xs,t⟩))
theorem FG {H:Hp} {G N:Sa} (gin: ∀p,G p->H p≠none) (hN: ∀p,N p-> ∃xs,H p=some (.tup xs)): ∀p,(G p\/N p)->H p≠none:=fun p g=>by
 rcases g with g|g
 ·exact gin p g
 ·obtain⟨xs,t⟩:=hN p g
  rw[t];simp
section
variable {X:Cx} {Δ:List Md} {st:Ds} {a b c e o:Expr} {es:List Expr} {m ma mb mc:VM} {ra rb rc:Option D} {pos p p2 pos' apos:Pos} {r rg r1 r2':Rg}
theorem FH {lo hi:Option Expr} {rl rh:Option (Option Int)} (ha:PX X Δ st a m ra) (hl:POx X Δ st lo rl) (hh:POx X Δ st hi rh):PX X Δ st (.Subscript a (.Slice lo hi none p2) pos) (.nw (.ls .fz)) (Ar D.FE ra rl rh):=
 cg (L2.pe_slice sl_list ha hl hh) fun σ H Q ⟨O,G,d,rel,er,k⟩=>by
  obtain⟨x,e1,er⟩:=bind1 er
  obtain⟨l,u,e2,e3,e4⟩:=cj er
  cases x <;> first|cases e4|skip
  rename_i ds
  obtain⟨he,rfl⟩:=aH (show (if D.evs ds=true then some (D.lst (Sw.fT ds l u)) else none)=some d from e4)
  refine rdE.go rel e1 fun v H1 G1 rel1 x1 v1=>⟨O,G1,l,rel1,e2,fun H2 G2 x2=>⟨O,G2,u,rel1.ext x2,e3,fun H3 G3 x3=> ?_⟩⟩
  have v3:=((v1.mono x2).mono x3).hb
  unfold Rep at v3
  obtain⟨p,vs,rfl,_,l',r'⟩:=v3
  obtain⟨N,hN,g⟩:=aD.et (G:=G3) ds vs he r'
  have x03:=(x1.trans (x2.trans x3)).trans (FF hN)
  exact⟨p,vs,rfl,SqL.of l',fun q hq=>k _ _ _ (x03.trans (.new hq)) (bD.back x03 (mw hq (FG ((rel1.ext x2).ext x3).gin hN) (g.cut l u)))⟩
end
def Kl:List Key->Option (List Str)
 | []=>some []
 | .inr x::ks=>(Kl ks).map fun xs=>x::xs
 | .inl _::_=>none
def qO (xs:List Str):List Str:=xs.mergeSort sLe
theorem Ef (a b c:Str) (h:sLe a b=true) (g:sLe b c=true):sLe a c=true:=by
 unfold sLe at*
 simp only[decide_eq_true_eq] at*
 exact List.le_trans h g
theorem Eg (a b:Str):(sLe a b||sLe b a)=true:=by
 unfold sLe
 rw[Bool.or_eq_true]
 simp only[decide_eq_true_eq]
 exact List.le_total _ _
def D.QB (x:D):Option D:=match x with
 | .dct ks=>(Kl (ks.map (·.1))).bind fun xs=>if xs.length<64 then some (.lst ((qO xs).map D.str)) else none
 |_=>none
def D.rQ (x:D):Option D:=match x with
 | .dct ks=>some (.lst (ks.map fun k=>kD k.1))
 |_=>none
theorem xR {K:Frg} {S:Sa} {H:Hp}: ∀xs:List Str,aD K S H (xs.map D.str) (xs.map V.str)
 | []=>.nil
 |x::xs=>.cons (by unfold Rep;rfl) (xR xs)
theorem xS {K:Frg} {S:Sa} {H:Hp}: ∀(ks:List (Key×D)) (kvs:List (Key×V)),kvs.map (·.1)=ks.map (·.1)->aD K S H (ks.map fun k=>kD k.1) (kvs.map fun k=>kV k.1)
 | [],[],_=>.nil
 |k::ks,v::vs,h=>by
  simp only[List.map_cons,List.cons.injEq] at h
  refine .cons ?_ (xS ks vs h.2)
  show Rep K S H (kD k.1) (kV v.1)
  rw[h.1]
  cases k.1 <;> (unfold kD kV Rep;rfl)
 | [],_::_,h=>by simp at h
 |_::_,[],h=>by simp at h
section
variable {X:Cx} {Δ:List Md} {st:Ds} {a b c e o:Expr} {es:List Expr} {m ma mb mc:VM} {ra rb rc:Option D} {pos p p2 pos' apos pT:Pos} {r rg r1 r2':Rg}
theorem IC:OpN X (fun xs H Q=> ∃(a:Addr) (kvs:List (Key×V)),xs=[.ref a]/\Rd H a (.dK kvs)/\ ∀p,H p=none->Q (.ref p) (upd H p (.lst (kvs.map fun kv=>kV kv.1)))) [m] (.nw (.ls .fz)) (un1 D.rQ):=fun O H0 H G xs vs d Q e hv gin k=>by
 obtain⟨x,rfl,e1⟩:=kd e
 obtain⟨v,rfl,h1⟩:=yC hv
 cases x <;> first|(cases e1;done)|skip
 rename_i ks
 cases (show some (D.lst (ks.map fun k=>kD k.1))=some d from e1)
 have h2:=h1.hb
 unfold Rep at h2
 obtain⟨a,kvs,rfl,_,rd,_,rk⟩:=h2
 exact⟨a,kvs,rfl,rd,fun p hp=>k _ _ G (.new hp) (mw hp gin (xS ks kvs rk.keys))⟩
def D.strs:List D->Option (List Str)
 | []=>some []
 | .str x::ds=>(D.strs ds).map fun xs=>x::xs
 |_::_=>none
theorem CW: ∀{ds:List D} {xs:List Str},D.strs ds=some xs->ds=xs.map D.str
 | [],_,h=>by cases h;rfl
 | .str x::ds,_,h=>by
  unfold D.strs at h
  cases e:D.strs ds with
  |none=>rw[e] at h;cases h
  |some ys=>rw[e] at h;cases h;rw[CW e];rfl
theorem aD.strs {K:Frg} {S:Sa} {H:Hp}: ∀{xs:List Str} {vs:List V},aD K S H (xs.map D.str) vs->vs=xs.map V.str
 | [],_,h=>by unfold aD at h;exact h
 |x::xs,_,h=>by
  unfold aD at h
  obtain⟨v,r,rfl,h1,h2⟩:=h
  unfold Rep at h1
  rw[h1,aD.strs h2];rfl
def D.join (x y:D):Option D:=match x with
 | .str a=>(y.items).bind fun ds=>(D.strs ds).bind fun xs=>if (xs.map (·.length)).sum+xs.length*a.length<=16777216 then some (.str (Txt.join a xs)) else none
 |_=>none
theorem yJ (ho:PX X Δ st o (.rg r) ra) (he:PX X Δ st e m rb) (hs:starEach [e] X.env=[(false,eval e X.env)]:=by rfl) (hbase:attributeBase o "join" X.env (eval o X.env)=eval o X.env:=by rfl) (hline:(apos.endLine==pos.line)=true:=by rfl):
  PX X Δ st (.Call (.Attribute o "join" apos) [e] [] pos) (.rg rg) (b2 D.join ra rb):=cg (pe_join ho he hs hbase hline) fun σ H Q ⟨O,G,d,rel,er,k⟩=>by
 obtain⟨x,y,e1,e2,e3⟩:=cj er
 cases x <;> first|cases e3|skip
 rename_i a
 obtain⟨ds,e4,e5⟩:=bind1 (show ((y.items).bind fun ds=>(D.strs ds).bind fun xs=>if (xs.map (·.length)).sum+xs.length*a.length<=16777216 then some (D.str (Txt.join a xs)) else none)=some d from e3)
 obtain⟨xs,e6,e7⟩:=bind1 e5
 obtain⟨hz,rfl⟩:=aH e7
 refine rdE.go rel e1 fun v H1 G1 rel1 x1 v1=>⟨⟨a,v1.str⟩,rdE.go rel1 e2 fun w H2 G2 rel2 x2 v2=> ?_⟩
 obtain⟨p,vs,rfl,l,rr⟩:=Rep.items e4 v2.hb
 have:=CW e6
 subst this
 rw[aD.strs rr] at l
 exact⟨a,p,xs,v1.str,rfl,l,hz,k _ H2 G2 (x1.trans x2) qM⟩
def tyN:D->Option String
 | .non=>some "NoneType" | .bl _=>some "bool" | .int _=>some "int" | .str _=>some "str"
 | .lst _=>some "list" | .tup _=>some "tuple" | .dct _=>some "dict"
 |_=>none
def Pd (t T:String):Option Bool:=if (Value.type t==Value.type T)=true then some true else if PySem.W.kitMeta T=true then (fastBuiltinMro t).map (·.contains (.type T)) else none
def D.isa (T:String) (x:D):Option Bool:=(tyN x).bind fun t=>Pd t T
theorem Rep.ty {K:Frg} {S:Sa} {H:Hp} {d:D} {v:V} {t:String} (e:tyN d=some t) (h:Rep K S H d v):TyX K H v (.type t):=by
 cases d <;> first|cases e|skip
 ·unfold Rep at h;subst h;exact .base .non
 ·unfold Rep at h;subst h;exact .base (.bl _)
 ·unfold Rep at h;subst h;exact .base (.int _)
 ·unfold Rep at h;subst h;exact .base (.str _)
 ·unfold Rep at h
  obtain⟨a,vs,rfl,_,l,_⟩:=h
  exact .base (.lst l)
 ·unfold Rep at h
  obtain⟨a,vs,rfl,l,_⟩:=h
  exact .base (.tup l.2)
 ·unfold Rep at h
  obtain⟨a,vs,rfl,_,l,_⟩:=h
  rcases l with l|⟨o,l⟩
  ·exact .base (.dK l)
  ·exact .fDict l
theorem yL {T:String} {x:Str} (hg:Gl X "isinstance") (hm:X.mg "isinstance" =none) (hmT:X.mg x=none) (hv:bootBuiltins x=some (.type T)) (hgT:Gl X x) (he:PX X Δ st e m ra) (hn:x≠"__name__" :=by decide) (hd:(x==("__debug__" :Str))=false:=by decide)
  (hst:starEach [e,.Name x pT] X.env=(false,eval e X.env)::starEach [.Name x pT] X.env:=by rfl) (hst2:starEach [.Name x pT] X.env=(false,eval (.Name x pT) X.env)::starEach [] X.env:=by rfl) (hpl:(backTo pos (starEach [.Name x pT] X.env)).any (·.1)=false:=by rfl):
  PX X Δ st (.Call (.Name "isinstance" p) [e,.Name x pT] [] pos) (.rg rg) (blO (b1 (D.isa T) ra)):=cg (pe_callB call_isi hg hm wX (pa_cons he (pa_cons (pe_bltn (v:=.ty T) hgT hmT hv rfl hn hd) pa_nil hst2) hst) (by decide) (by decide) hst hpl) fun σ H Q ⟨O,G,d,rel,er,k⟩=>by
 obtain⟨b,e1,e2⟩:=bind1 er
 obtain⟨x',e3,e4⟩:=bind1 e1
 obtain⟨t,e5,e6⟩:=bind1 e4
 cases e2
 exact rdE.go rel e3 fun v H1 G1 rel1 x1 v1=>⟨v,.ty T,.type t,.type T,b,rfl,.ty T,v1.hb.ty e5,e6,k _ H1 G1 x1 l5⟩
end
end Sw
namespace Sw
open PySem PySem.Spec PyProof.Rows L2
variable [NmC]
theorem Eh {β:Type} {d:D} {ra rb:Option D} {rp:Option (List Stp)} {k:D->Option β}:(qE d ra rp rb).bind k=(ra.bind fun x=>rp.bind fun q=>rb.bind fun y=>(y.key).bind fun ky=>(fQ d q).bind fun d'=>(D.put d' ky x).bind fun d''=>k (cE d q d'')):=by
 unfold qE
 simp only[Option.bind_assoc,Option.bind_some]
def D.Qf (d' y x:D):Option D:=match d',y with
 | .lst ds,.int i=>(ixN ds.length i).map fun j=>.lst (ds.set j x)
 |_,_=>none
theorem aD.set {K:Frg} {S:Sa} {H:Hp} {x:D} {w:V} (hw:Rep K S H x w): ∀{ds:List D} {vs:List V} (j:Nat),aD K S H ds vs->aD K S H (ds.set j x) (vs.set j w)
 | [],_,j,h=>by unfold aD at h;subst h;exact .nil
 |d::ds,_,0,h=>by
  unfold aD at h
  obtain⟨v,r,rfl,h1,h2⟩:=h
  exact .cons hw h2
 |d::ds,_,j+1,h=>by
  unfold aD at h
  obtain⟨v,r,rfl,h1,h2⟩:=h
  exact .cons h1 (aD.set hw j h2)
theorem bQ.drop {K:Frg} {S:Sa} {H:Hp} (k:Key): ∀{ds:List (Key×D)} {vs:List (Key×V)},bQ K S H ds vs->bQ K S H (gW ds k) (gW vs k)
 | [],_,h=>by unfold bQ at h;subst h;exact .nil
 |(k0,d)::ds,_,h=>by
  unfold bQ at h
  obtain⟨v,r,rfl,h1,h2⟩:=h
  have ih:=bQ.drop k h2
  unfold gW at*
  rw[List.filter_cons,List.filter_cons]
  by_cases e:k0=k
  ·simp only[e,ne_eq,not_true,decide_false,Bool.false_eq_true,if_false];exact ih
  ·simp only[e,ne_eq,not_false_iff,decide_true,if_true];exact .cons h1 ih
section
variable {α β γ δ:Type} {X:Cx} {E:Exits α β} {Δ Δ':List Md} {st:Ds} {rest body:List Stmt} {a b e o tg:Expr} {m mb:VM} {ra rb:Option D} {rp:Option (List Stp)} {pos pos' apos:Pos} {i j:Nat} {md:Md} {s s'':Sh} {d:D} {r:Rg}
theorem rR (i:Nat) (st':D->Ds) {k:D->Option (Out α β)} (hu:X.A.units+1<cLine) (he:PX X Δ st e m ra) (hv:shV m=some s'') (ho:PPx X Δ st o i rp) (hsh: ∀q,rp=some q->shP s q=some (.dc s'')) (hk:PX X Δ st b mb rb) (h: ∀d1,Blk X E Δ (st' d1) rest (k d1))
  (hm:Δ[i]? =some md:=by rfl) (hs:wV md=some s:=by rfl) (hd:st[i]? =some (some d):=by rfl) (e2: ∀d1,st.set i (some d1)=st' d1:=by intro _;rfl) (hsw:swapsWith e (some (.Subscript o b pos')) pos.line X.env=pure false:=by rfl):
  Blk X E Δ st (.Assign [.Subscript o b pos'] e pos::rest) ((qE d ra rp rb).bind k):=by
 rw[Eh]
 exact IA hm hs hd hu he hv ho hsh hk (fun d1=>by rw[e2];exact h d1) hsw
end
def D.min2:List D->Option D
 | [.int a,.int b]=>some (.int (if b<a then b else a))
 |_=>none
def D.max2:List D->Option D
 | [.int a,.int b]=>some (.int (if b>a then b else a))
 |_=>none
def D.Km:List D->Option D
 | [.str a,.str b]=>some (.str (if b.cps.toList<a.cps.toList then b else a))
 |_=>none
def D.Kn:List D->Option D
 | [.str a,.str b]=>some (.str (if a.cps.toList<b.cps.toList then b else a))
 |_=>none
section
variable {X:Cx} {r1 r2' rg:Rg}
theorem BI:OpN X (fun xs H Q=> ∃i j,xs=[.int i,.int j]/\Q (.int (if j>i then j else i)) H) [.rg r1,.rg r2'] (.rg rg) D.max2:=fun O H0 H G xs vs d Q e hv gin k=>by
 match xs,e with
 | [.int a,.int b],e=>
  cases e
  obtain⟨v,w,rfl,h1,h2⟩:=O6 hv
  exact⟨a,b,by rw[h1.int,h2.int],k _ H G .refl iN⟩
end
end Sw
namespace Sw
open PySem PySem.Spec PyProof.Rows L2
variable [NmC]
theorem vC:bootBuiltins "list" =some (.type "list"):=by decide+kernel
theorem CY:bootBuiltins "int" =some (.type "int"):=by decide+kernel
theorem ID:bootBuiltins "str" =some (.type "str"):=by decide+kernel
theorem FI:bootBuiltins "bool" =some (.type "bool"):=by decide+kernel
theorem As:bootBuiltins "dict" =some (.type "dict"):=by decide+kernel
end Sw
namespace Sw
open PySem PySem.Spec PyProof.Rows L2
variable [NmC]
theorem Lh {K:Frg} {H:Hp} {a:Addr} {ns:List Int} {Fs:List D->Option FR} (hS:SqL K H a (ns.map V.int)) (h:Fs [.sc ns]=some (.ok (.bl true) [])) (tb:LamX.Tabs NmC.T H:=by exact fun p hp=>nomatch (show p∈([]:List (Addr×Str)) from hp)):FSp K [.bo] (.rg .fz) Fs [.ref a] H (fun v _=>v= .bl true) (fun _ _ _=>False):=by
 refine⟨Org.all H fun _=>False,[.sc ns],_,rfl,o9 tb (fun _ f=>f.elim),⟨[],[],⟨?_,rfl⟩,rfl,rfl⟩,h,fun v H' G' r=> ?_⟩
 ·unfold Rep
  refine⟨a,rfl,?_⟩
  rcases hS with r|⟨o,its,n,hk,z⟩
  ·exact .inl ⟨by rcases r with r|⟨o,r⟩ <;> (show H a≠none;rw[r];simp),r⟩
  ·exact .inr (.inr ⟨o,its,n,hk,z⟩)
 ·obtain⟨_,_,hv⟩:=rO r
  exact (hv (Org.all H fun _=>False)).bl
theorem aT {K:Frg} {x qual:Str} {st:Stmt} {f:Addr} {fd:FuncData} {kws:List (Str×V)} (F:FunD K x qual (defArgs st) (defBody st) (defScope st) [] kws f fd):Fun K x qual st f fd:=by
 obtain⟨oc,od,dV,kV,doc,pm,an,cdv,ct,osl,e,l,c,hd,_⟩:=F.ex
 rcases hd with ⟨_,e2⟩|⟨e2,_⟩
 ·subst e2
  exact⟨⟨oc,od,kV,doc,pm,an,cdv,ct,osl,e,l,c⟩,F.kp⟩
 ·exact absurd rfl e2
end Sw
namespace Sw
open PySem PySem.Spec PyProof.Rows L2
variable [NmC]
section
variable {X:Cx} {e:Expr} {st:Stmt}
def tLk (td:TE):TE:=fun σ H Q=>td σ H fun x H1=> ∃d u,x= .ref d/\Mut (some u)/\((∃o,H1 d=some (.frz o u)/\Q x H1)\/(H1 d=some u/\ ∀od,Q x (upd H1 d (.frz od u))))
theorem Ng {td:TE} (h:PE X e td):PE X e (tLk td):=⟨fun pins s σ H Q I q=>thn (h.run pins s σ H _ I q) fun v s1 ⟨x,H1,I1,r,d,u,ex,mu,q1⟩=>by
 rcases q1 with ⟨o,e1,q1⟩|⟨e1,q1⟩
 ·exact⟨x,H1,I1,r,q1⟩
 ·obtain⟨od,I2⟩:=I1.lock e1 mu
  exact⟨x,_,I2,r,q1 od⟩⟩
def unl {α:Type} (H:Hp) (f:α->Hp->Prop):α->Hp->Prop:=fun a H'=>f a H'\/ ∃d od u,(∀o v,H d≠some (.frz o v))/\H' d=some (.frz od u)/\f a (upd H' d u)
theorem uT {pins:List (Addr×Obj)} {σ σ':CS} {H H':Hp} {s s':Shared} {α:Type} {f:α->Hp->Prop} {a:α} (I:Inv X pins σ H s) (I':Inv X pins σ' H' s') (h:unl H f a H'): ∃H2,Inv X pins σ' H2 s'/\f a H2:=by
 rcases h with h|⟨d,od,u,hn,e,h⟩
 ·exact⟨H',I',h⟩
 ·refine⟨_,I'.unlock e (fun o v q=>hn o v (I.base.frzs d o v q)),h⟩
def Pe (t:TS):TS:=fun D σ H=>t ⟨unl H D.nx,unl H D.rt,unl H D.bk,unl H D.ct⟩ σ H
theorem Li {t:TS} (h:PS X st t):PS X st (Pe t):=⟨fun pins s σ H D I hw=>thn (h.run pins s σ H _ I hw) fun f s1 q=>by
 cases f with
 |next=>obtain⟨σ',H',I2,q⟩:=q;obtain⟨H2,I3,q⟩:=uT I I2 q;exact⟨σ',H2,I3,q⟩
 |brk=>obtain⟨σ',H',I2,q⟩:=q;obtain⟨H2,I3,q⟩:=uT I I2 q;exact⟨σ',H2,I3,q⟩
 |cont=>obtain⟨σ',H',I2,q⟩:=q;obtain⟨H2,I3,q⟩:=uT I I2 q;exact⟨σ',H2,I3,q⟩
 |ret v=>obtain⟨x,σ',H',I2,r,q⟩:=q;obtain⟨H2,I3,q⟩:=uT I I2 q;exact⟨x,σ',H2,I3,r,q⟩⟩
end
section
variable {K:Frg} {O:Org} {Δ Δ2:List Md} {st st2:Ds} {σ σ2:CS} {H H2:Hp} {G G2:Sa} {L L2':List Addr} {d:Addr} {od:Obj} {u:HO}
theorem sZ (hd:H d=some u) (hu:Pl u) (hs: ¬Sc u) (p:Addr):hZ H (upd H d (.frz od u)) p:=by
 by_cases e:p=d
 ·subst e
  refine⟨fun w hw r=> ?_,fun w hw r=> ?_⟩
  ·rcases r with r|⟨o,r⟩
   ·rw[hd] at r;cases r
    exact .inr ⟨od,upd_same⟩
   ·rw[hd] at r;cases r;exact hu.elim
  ·rw[hd] at r;cases r;exact absurd hw hs
 ·exact hZ.of_eq fun w r=>by rw[upd_ne e];exact r
theorem kg (hd:H d=some (.frz od u)) (p:Addr):hZ H (upd H d u) p:=by
 by_cases e:p=d
 ·subst e
  refine⟨fun w hw r=> ?_,fun w hw r=> ?_⟩
  ·rcases r with r|⟨o,r⟩
   ·rw[hd] at r;cases r;exact hw.elim
   ·rw[hd] at r;cases r;exact .inl upd_same
  ·rw[hd] at r;cases r;exact hw.elim
 ·exact hZ.of_eq fun w r=>by rw[upd_ne e];exact r
def DkU (u:HO):Prop:=(∃kvs,u= .dK kvs)\/ ∃kvs,u= .dT kvs
theorem DkU.nd {u:HO} (h:DkU u):Nd u:=by rcases h with ⟨k,rfl⟩|⟨k,rfl⟩ <;> trivial
theorem DkU.fz {u:HO} {od:Obj} (h:DkU u):Nd (.frz od u):=by rcases h with ⟨k,rfl⟩|⟨k,rfl⟩ <;> trivial
theorem DkU.nt {u:HO} (h:DkU u): ∀xs,u≠ .tup xs:=fun xs z=>by rcases h with ⟨k,rfl⟩|⟨k,rfl⟩ <;> cases z
theorem bJ.lock (r:bJ O H G L) (hk: ∀p∈L,Ndd H p) (hn:Ndd H d):bJ (O.at (upd H d (.frz od u)) G L) (upd H d (.frz od u)) G L:=by
 have up: ∀p,H p≠none->(upd H d (.frz od u)) p≠none:=fun p h=>by
  by_cases e:p=d
  ·subst e;rw[upd_same];simp
  ·rw[upd_ne e];exact h
 exact⟨fun p b=>⟨up p (r.dom p (r.bin p b).1),fun m=>(r.lg p m).2.elim (r.bin p b).2 (r.bin p b).1⟩,fun _ _ e _ _=>e,fun _ g=>g,fun _ g=>.inl g,fun p g=>up p (r.gin p g),fun _ h=>h,r.nd,fun p m=>⟨(r.lg p m).1,.inl m⟩,fun _ ps e=>⟨ps,e⟩,rE (.inl hn) r.tb⟩
theorem bJ.unlock (r:bJ O H G L) (hd:H d=some u) (hnd:d∉L) (hs:DkU u) (q:bJ (O.at (upd H d (.frz od u)) G L) H2 G2 L2'):bJ O (upd H2 d u) G2 L2' where
 bin:=r.bin
 fr0:=fun p w e n t=>by
  have e1:=r.frame p w e n
  by_cases z:p=d
  ·subst z;rw[hd] at e1;cases e1;exact upd_same
  ·rw[upd_ne z]
   refine q.frame p w (by show (upd H d (.frz od u)) p=_;rw[upd_ne z];exact e1) (t:=t) fun m=>(r.lg p m).2.elim n fun h=>by rw[h] at e;cases e
 gsub:=fun p g=>q.gsub p (r.gsub p g)
 gold:=fun p g=>by
  rcases q.gold p g with g|n|⟨xs,t⟩|m
  ·exact r.gold p g
  ·have n:(upd H d (.frz od u)) p=none:=n
   refine .inr (.inl (r.back ?_))
   by_cases z:p=d
   ·subst z;rw[show (upd H p (.frz od u)) p=some (.frz od u) from upd_same] at n;cases n
   ·rw[show (upd H d (.frz od u)) p=H p from upd_ne z] at n;exact n
  ·have t:(upd H d (.frz od u)) p=some (imm xs):=t
   have z:p≠d:=fun z=>by subst z;rw[show (upd H p (.frz od u)) p=some (.frz od u) from upd_same] at t;cases xs <;> cases t
   have t:H p=some (imm xs):=by rw[show (upd H d (.frz od u)) p=H p from upd_ne z] at t;exact t
   rcases r.was t (o6 _) with e|e|e
   ·exact .inr (.inr (.inl ⟨xs,e⟩))
   ·exact .inr (.inl e)
   ·exact .inr (.inr (.inr e))
  ·rcases (r.lg p m).2 with h|h
   ·exact .inr (.inr (.inr h))
   ·exact .inr (.inl h)
 gin:=fun p g=>by
  by_cases z:p=d
  ·subst z;rw[upd_same];simp
  ·rw[upd_ne z];exact q.gin p g
 dom:=fun p h=>by
  by_cases z:p=d
  ·subst z;rw[upd_same];simp
  ·rw[upd_ne z]
   refine q.dom p ?_
   show (upd H d (.frz od u)) p≠none
   rw[upd_ne z];exact r.dom p h
 nd:=q.nd
 lg:=fun p m=>⟨(q.lg p m).1,by
  rcases (q.lg p m).2 with h|h
  ·exact (r.lg p h).2
  ·have h:(upd H d (.frz od u)) p=none:=h
   refine .inr (r.back ?_)
   by_cases z:p=d
   ·subst z;rw[show (upd H p (.frz od u)) p=some (.frz od u) from upd_same] at h;cases h
   ·rw[show (upd H d (.frz od u)) p=H p from upd_ne z] at h;exact h⟩
 tl:=fun p ps e=>by
  obtain⟨ps1,e1⟩:=r.tl p ps e
  have hne:p≠d:=fun z=>by subst z;rw[hd] at e1;cases e1;rcases hs with ⟨k,hk⟩|⟨k,hk⟩ <;> cases hk
  obtain⟨ps2,e2⟩:=q.tl p ps1 (by show (upd H d (.frz od u)) p=_;rw[upd_ne hne];exact e1)
  exact⟨ps2,by rw[upd_ne hne];exact e2⟩
 tb:=rE (.inl ⟨_,q.frame d _ (show (upd H d (.frz od u)) d=some (.frz od u) from upd_same) hnd,hs.fz⟩) q.tb
theorem Rel.lock (rel:Rel K O Δ st σ H G) (hd:H d=some u) (hu:Pl u) (hs: ¬Sc u) (hS:G d\/O.B d) (hn:DkU u): ∃L,bJ O H G L/\d∉L/\(∀p∈L,Ndd H p)/\ ∀od,Rel K (O.at (upd H d (.frz od u)) G L) Δ st σ (upd H d (.frz od u)) G:=by
 obtain⟨L,g,s⟩:=rel
 have hnd:d∉L:=fun m=>by
  rcases hS with h|h
  ·exact (g.lg d m).1 h
  ·exact (g.lg d m).2.elim (g.bin d h).2 (g.bin d h).1
 refine⟨L,g,hnd,s.kind,fun od=>⟨L,g.lock s.kind ⟨_,hd,hn.nd⟩,?_⟩⟩
 exact Slots.mono (fun _ g=>g) (fun p _=>sZ hd hu hs p) (fun p _=>sZ hd hu hs p) (fun p m=>upd_ne fun e=>hnd (e▸m)) s
theorem CZ (hnd:d∉L) (q:bJ (O.at (upd H d (.frz od u)) G L) H2 G2 L2'):H2 d=some (.frz od u)/\d∉L2':=
 ⟨q.frame d _ upd_same hnd,fun m=>by
  rcases (q.lg d m).2 with h|h
  ·exact hnd h
  ·have h:(upd H d (.frz od u)) d=none:=h
   rw[upd_same] at h;cases h⟩
theorem Rel.unlock (r:bJ O H G L) (hd:H d=some u) (hnd:d∉L) (hs:DkU u) (q:Rel K (O.at (upd H d (.frz od u)) G L) Δ2 st2 σ2 H2 G2):H2 d=some (.frz od u)/\Rel K O Δ2 st2 σ2 (upd H2 d u) G2:=by
 obtain⟨L2,q,s⟩:=q
 obtain⟨h2,n2⟩:=CZ hnd q
 exact⟨h2,L2,r.unlock hd hnd hs q,Slots.mono (fun _ g=>g) (fun p _=>kg h2 p) (fun p _=>kg h2 p) (fun p m=>upd_ne fun e=>n2 (e▸m)) s⟩
theorem qL.Ko (h:H2 d=some (.frz od u)): ∀{ps:List (V×Sh)} {ds:List D} {L:List Addr},d∉L->qL K G2 H2 ps ds L->qL K G2 (upd H2 d u) ps ds L
 | [],[],_,_,e=>e
 |(v,s)::ps,x::ds,_,hn,⟨L1,L2,o1,o2,e⟩=>by
  subst e
  rw[List.mem_append,not_or] at hn
  exact⟨L1,L2,Own.mono (fun _ g=>g) (fun p _=>kg h p) s x v L1 (fun p m=>upd_ne fun e=>hn.1 (e▸m)) o1,qL.Ko h hn.2 o2,rfl⟩
 | [],_::_,_,_,h=>h.elim
 |_::_,[],_,_,h=>h.elim
theorem yy.unlock {rm:VM} {ps:List (V×Sh)} {x:D} {os:List D} {v:V} (r:bJ O H G L) (hd:H d=some u) (hnd:d∉L) (hs:DkU u) (q:yy K rm ps (O.at (upd H d (.frz od u)) G L) x os v H2 G2):H2 d=some (.frz od u)/\yy K rm ps O x os v (upd H2 d u) G2:=by
 obtain⟨L1,L2,q,rv,pn⟩:=q
 obtain⟨h2,n2⟩:=CZ hnd q
 rw[List.mem_append,not_or] at n2
 refine⟨h2,L1,L2,r.unlock hd hnd hs q,?_,qL.Ko h2 n2.2 pn⟩
 cases rm with
 |rg rr=>
  cases rr with
  |fz=>exact⟨Rep.mono (fun _ g=>g) (fun p _=>kg h2 p) _ _ rv.1,rv.2⟩
  |hb=>exact rv
  |bb=>exact rv
 |nw sh=>exact Own.mono (fun _ g=>g) (fun p _=>kg h2 p) sh x v L1 (fun p m=>upd_ne fun e=>n2.1 (e▸m)) rv
 |sp r=>exact rv.elim
def Out.calm {α β:Type}:Out α β->Bool
 | .exc _=>false
 |_=>true
theorem Meets.unlock {α β:Type} {E:Exits α β} {De:Ends} {o:Out α β} {Hs:Hp} (r:bJ O H G L) (hd:H d=some u) (hnd:d∉L) (hs:DkU u) (hn: ∀o v,Hs d≠some (.frz o v)) (hc:o.calm=true) (h:Meets K E O De o):
  Meets K E (O.at (upd H d (.frz od u)) G L) ⟨unl Hs De.nx,unl Hs De.rt,unl Hs De.bk,unl Hs De.ct⟩ o:=by
 cases o with
 |nx a=>
  intro σ H' G' rel
  obtain⟨h2,rel2⟩:=rel.unlock r hd hnd hs
  exact .inr ⟨d,od,u,hn,h2,h _ _ _ rel2⟩
 |bk b=>
  intro σ H' G' rel
  obtain⟨h2,rel2⟩:=rel.unlock r hd hnd hs
  exact .inr ⟨d,od,u,hn,h2,h _ _ _ rel2⟩
 |ct b=>
  intro σ H' G' rel
  obtain⟨h2,rel2⟩:=rel.unlock r hd hnd hs
  exact .inr ⟨d,od,u,hn,h2,h _ _ _ rel2⟩
 |ret x os=>
  intro v H' G' q
  obtain⟨h2,q2⟩:=q.unlock r hd hnd hs
  refine⟨.inr ⟨d,od,u,hn,h2,(h _ _ _ q2).1⟩,fun fl ev σ=>.inr ⟨d,od,u,hn,h2,(h _ _ _ q2).2 fl ev σ⟩⟩
 |exc x=>cases hc
end
end Sw
namespace Sw
open PySem PySem.Spec PyProof.Rows L2
variable [NmC]
def iD (Jt:Addr->Obj->List (Key×V)->It) (td:TE):TI:=fun σ H R=>td σ H fun x H1=> ∃d o kvs,x= .ref d/\H1 d=some (.frz o (.dK kvs))/\R (Jt d o kvs) H1
def D.ksF {δ:Type} (f:List (Key×D)->List δ):D->Option (List δ)
 | .dct ks=>some (f ks)
 |_=>none
def sqN {α β γ:Type} (k:γ->Option (Out α β)):Res γ->Option (Out α β)
 | .fin b=>k b
 | .ret d os=>some (.ret d os)
 | .exc _=>none
def IE {α β γ δ:Type} (rI:Option (List δ)) (step:γ->δ->Option (Out γ γ)) (b0:γ) (k:γ->Option (Out α β)):Option (Out α β):=rI.bind fun ds=>(forL step ds b0).bind (sqN k)
def WkD {δ:Type} (K:Frg) (Jt:Addr->Obj->List (Key×V)->It) (IR:Sa->Hp->δ->V->Prop) (f:List (Key×D)->List δ):Prop:=
 ∀(S:Sa) (H1:Hp) (d:Addr) (o:Obj) (kvs:List (Key×V)) (ks:List (Key×D)),S d->H1 d=some (.frz o (.dK kvs))->bQ K S H1 ks kvs->Wlk (IR S) S (Jt d o kvs) (f ks) H1
theorem bQ.at {K:Frg} {S:Sa} {H:Hp}: ∀{ks:List (Key×D)} {kvs:List (Key×V)} {i:Nat} {k:Key} {v:V},bQ K S H ks kvs->kvs[i]? =some (k,v)-> ∃x,ks[i]? =some (k,x)/\Rep K S H x v
 | [],_,_,_,_,h,e=>by unfold bQ at h;subst h;simp at e
 |(k0,x)::ks,_,0,k,v,h,e=>by
  unfold bQ at h
  obtain⟨w,r,rfl,h1,h2⟩:=h
  simp at e
  obtain⟨rfl,rfl⟩:=e
  exact⟨x,rfl,h1⟩
 |(k0,x)::ks,_,i+1,k,v,h,e=>by
  unfold bQ at h
  obtain⟨w,r,rfl,h1,h2⟩:=h
  obtain⟨y,e1,e2⟩:=bQ.at (i:=i) h2 (by simpa using e)
  exact⟨y,by simpa using e1,e2⟩
theorem C0 {K:Frg} {S:Sa} {H:Hp} (k:Key):Rep K S H (kD k) (kV k):=by cases k <;> (unfold kD kV Rep;rfl)
theorem Nh {K:Frg}:WkD K Iti (irP K) fun ks=>ks.map fun p=>(kD p.1,p.2):=fun S H1 d o kvs ks hS hd rk H2 hst i=>by
 have h2:=hst d _ hS hd (fun _ z=>by cases z)
 have hl:=rk.length
 refine⟨fun p hp=>⟨⟨h2,?_⟩,fun x H3 hy=> ?_⟩,fun hi=>⟨h2,by simp at hi;omega⟩⟩
 ·have:=(List.getElem?_eq_some_iff.mp hp).1
  simp at this;omega
 ·obtain⟨T,k,v,e1,rfl,hT,rfl⟩:=hy
  have hh: ∀q u,H2 q=some u->(upd H2 T (.tup [kV k,v])) q=some u:=fun q u e=>by rw[upd_ne (ne_of_none e hT)];exact e
  obtain⟨y,e2,ry⟩:=rk.at e1
  rw[List.getElem?_map,e2] at hp
  cases hp
  refine⟨hh,T,kV k,v,rfl,SqT.of upd_same,C0 k,?_⟩
  exact Rep.mono (fun _ g=>g) (fun p s=>hZ.xE fun u n e=>hh p u (hst p u s e n)) y v ry
theorem IF {K:Frg}:WkD K Itk (irV K) fun ks=>ks.map fun p=>kD p.1:=fun S H1 d o kvs ks hS hd rk H2 hst i=>by
 have h2:=hst d _ hS hd (fun _ z=>by cases z)
 have hl:=rk.length
 refine⟨fun p hp=>⟨⟨h2,?_⟩,fun x H3 hy=> ?_⟩,fun hi=>⟨h2,by simp at hi;omega⟩⟩
 ·have:=(List.getElem?_eq_some_iff.mp hp).1
  simp at this;omega
 ·obtain⟨rfl,k,v,e1,rfl⟩:=hy
  obtain⟨y,e2,ry⟩:=rk.at e1
  rw[List.getElem?_map,e2] at hp
  cases hp
  exact⟨fun _ _ e=>e,C0 k⟩
theorem Ei {K:Frg}:WkD K Itd (irV K) fun ks=>ks.map fun p=>p.2:=fun S H1 d o kvs ks hS hd rk H2 hst i=>by
 have h2:=hst d _ hS hd (fun _ z=>by cases z)
 have hl:=rk.length
 refine⟨fun p hp=>⟨⟨h2,?_⟩,fun x H3 hy=> ?_⟩,fun hi=>⟨h2,by simp at hi;omega⟩⟩
 ·have:=(List.getElem?_eq_some_iff.mp hp).1
  simp at this;omega
 ·obtain⟨rfl,k,e1⟩:=hy
  obtain⟨y,e2,ry⟩:=rk.at e1
  rw[List.getElem?_map,e2] at hp
  cases hp
  exact⟨fun _ _ e=>e,Rep.mono (fun _ g=>g) (fun p s=>hZ.xE fun u n e=>hst p u s e n) _ _ ry⟩
theorem Meets.inl {α β:Type} {K:Frg} {E:Exits α β} {O:Org} {De:Ends} {o:Out α β} {Hs:Hp} (hc:o.calm=true) (h:Meets K E O De o):Meets K E O ⟨unl Hs De.nx,unl Hs De.rt,unl Hs De.bk,unl Hs De.ct⟩ o:=by
 cases o with
 |nx a=>exact fun σ H' G' rel=>.inl (h _ _ _ rel)
 |bk b=>exact fun σ H' G' rel=>.inl (h _ _ _ rel)
 |ct b=>exact fun σ H' G' rel=>.inl (h _ _ _ rel)
 |ret x os=>exact fun v H' G' q=>⟨.inl (h _ _ _ q).1,fun fl ev σ=>.inl ((h _ _ _ q).2 fl ev σ)⟩
 |exc x=>cases hc
section
variable {α β γ δ:Type} {X:Cx} {E:Exits α β} {Δ:List Md} {st:Ds} {rest body:List Stmt} {pos:Pos} {tg it ed:Expr}
theorem C3 {Jt:Addr->Obj->List (Key×V)->It} {rg:Rg} {rD:Option D} {IR:Sa->Hp->δ->V->Prop} {f:List (Key×D)->List δ} {g:TG} {uM:List Md->List Md} {uS:δ->Ds->Ds} {is:List Nat} (Dl:List Md) (el:γ->Ds) (Dm:List Md) (em:γ->δ->Ds) {b0:γ} {step:γ->δ->Option (Out γ γ)} {k:γ->Option (Out α β)}
  (he:PX X Δ st ed (.rg rg) rD) (hi: ∀td,PE X ed td->PI X tg it (iD Jt td)) (hJ:WkD X.K Jt IR f) (him:nD IR) (hr:rg≠ .hb) (hg:PG X tg g) (ht:yz X.K g rg IR uM uS Dl.length is) (w:Wk Δ st Dl (el b0))
  (hb: ∀b d,Blk X (E.loop Dl el) Dm (em b d) body (step b d)) (h: ∀b,Blk X E Dl (el b) rest (k b))
  (e1:uM Dl=Dm:=by rfl) (e2: ∀b d,uS d (el b)=em b d:=by intro _ _;rfl) (hc:X.calm=true:=by rfl) (hs: ∀x,foldedSetIterable it X.env x=pure x:=by intro _;rfl) (hp:PassesOwn (model X.prog X.w) X.A X.env X.xe:=by exact PassesOwn.never):
  Blk X E Δ st (.For tg it body [] pos::rest) (IE (rD.bind (D.ksF f)) step b0 k):=by
 refine ia (pss_cons (Li (ps_for hp hc (hi _ (Ng he)) hg (fR fun b=>fR fun d=>hb b d) hs)) (fR h)) fun De σ H ⟨O,G,q,rel,er,kk⟩=> ?_
 obtain⟨ds,e3,e4⟩:=bind1 er
 obtain⟨dD,e5,e6⟩:=bind1 e3
 obtain⟨rs,e7,e8⟩:=bind1 e4
 obtain⟨ks,rfl⟩: ∃ks,dD= .dct ks:=by cases dD <;> first|exact⟨_,rfl⟩|cases e6
 cases (show some (f ks)=some ds from e6)
 refine rdE.go rel e5 fun v H1 G1 rel1 x1 v1=> ?_
 have v1:Rep X.K (rgn O G1 rg) H1 (.dct ks) v:=v1
 unfold Rep at v1
 obtain⟨d,kvs,rfl,hS,rdh,nd,rk⟩:=v1
 have relw:=rel1.weak w
 have hGB:G1 d\/O.B d:=by
  cases rg with
  |hb=>exact absurd rfl hr
  |bb=>exact .inr hS
  |fz=>exact .inl hS
 let U0:CS->Hp->Prop:=fun σ H=> ∃a,rdS X.K E Dl (el a) (k a) De σ H
 have main: ∀(O':Org) (Hl:Hp) (L:List Addr) (o:Obj),bJ (O'.at Hl G1 L) Hl G1 L->O'.B=O.B->Hl d=some (.frz o (.dK kvs))->bQ X.K (rgn O G1 rg) Hl ks kvs->Rel X.K (O'.at Hl G1 L) Dl (el b0) σ Hl G1→
   (∀(o':Out γ β),o'.calm=true->Meets X.K (E.join Dl el) O ⟨U0,De.rt,De.bk,De.ct⟩ o'->Meets X.K (E.join Dl el) (O'.at Hl G1 L) ⟨unl H U0,unl H De.rt,unl H De.bk,unl H De.ct⟩ o')→
   ∃W:Nat->Nat->CS->Hp->Prop,(∃m,W 0 m σ Hl)/\ ∀i m σ H2,W i m σ H2→
    ((Jt d o kvs).stop i H2/\unl H U0 σ H2)\/((Jt d o kvs).go i H2/\ ∃N:CS->Hp->Prop,(∀σ' H',N σ' H'-> ∃m',m'<m/\W (i+1) m' σ' H')/\ ∀x H',(Jt d o kvs).yld i H2 x H'->g x σ H' fun σ2 H3=>(fun De σ H=> ∃b d,rdS X.K (E.loop Dl el) Dm (em b d) (step b d) De σ H) {nx:=N,ct:=N,bk:=unl H U0,rt:=unl H De.rt:Ends} σ2 H3):=by
  intro O' Hl L o g0 hB hfr rkl rl hm
  have hw:=hJ (rgn O G1 rg) Hl d o kvs ks hS hfr rkl
  have hrg:rgn O G1 rg=rgn (O'.at Hl G1 L) G1 rg:=by cases rg <;> first|rfl|(show O.B=O'.B;exact hB.symm)
  rw[hrg] at hw
  cases rs with
  |exc x=>cases e8
  |fin b=>
   have hmm:=hm (.nx b) rfl (fun σ' H' G' r'=>⟨b,O,G',q,r',e8,kk⟩)
   exact vt (E:=E.join Dl el) (k:=fun b=>some (Out.nx b)) (r:=.nx b) (De:=⟨unl H U0,unl H De.rt,unl H De.bk,unl H De.ct⟩) (U:=unl H U0) (tb:=fun De σ H=> ∃b d,rdS X.K (E.loop Dl el) Dm (em b d) (step b d) De σ H) g0 rl (wkS hw) him hr ht (fun b d De σ H z=>⟨b,d,by rw[<-e1,←e2];exact z⟩) e7 rfl hmm fun b' eb σ' H' G' r'=>by
    cases eb;exact hmm σ' H' G' r'
  |ret x os=>
   cases e8
   have hmm:=hm (.ret x os) rfl (fun v H' G' z=>⟨(kk v H' G' z).1,fun f=>nomatch f⟩)
   exact vt (E:=E.join Dl el) (k:=fun b=>some (Out.nx b)) (r:=.ret x os) (De:=⟨unl H U0,unl H De.rt,unl H De.bk,unl H De.ct⟩) (U:=unl H U0) (tb:=fun De σ H=> ∃b d,rdS X.K (E.loop Dl el) Dm (em b d) (step b d) De σ H) g0 rl (wkS hw) him hr ht (fun b d De σ H z=>⟨b,d,by rw[<-e1,←e2];exact z⟩) e7 rfl hmm fun b' eb=>nomatch eb
 refine⟨d,.dK kvs,rfl,trivial,?_⟩
 rcases rdh with h0|⟨o,h0⟩
 ·refine .inr ⟨h0,fun od=>⟨d,od,kvs,rfl,upd_same,?_⟩⟩
  obtain⟨L,g0,hnd,hk,lk⟩:=relw.lock h0 trivial (fun z=>z) hGB (.inl ⟨_,rfl⟩)
  have hnf: ∀o v,H d≠some (.frz o v):=fun o v z=>by have:=x1.hh d _ z;rw[h0] at this;cases this
  exact main O _ L od (g0.lock hk ⟨_,h0,trivial⟩) rfl upd_same (bQ.mono (fun _ g=>g) (fun p _=>sZ h0 trivial (fun z=>z) p) _ _ rk) (lk od) fun o' hc' hm'=>Meets.unlock g0 h0 hnd (.inl ⟨_,rfl⟩) hnf hc' hm'
 ·refine .inl ⟨o,h0,d,o,kvs,rfl,h0,?_⟩
  obtain⟨L,g0,s0⟩:=relw
  exact main O H1 L o (g0.start s0.kind) rfl h0 rk ⟨L,g0.start s0.kind,s0⟩ fun o' hc' hm'=>(hm'.comp g0).inl hc'
end
abbrev Au (ks:List (Key×D)):List D:=ks.map fun p=>kD p.1
abbrev Av (ks:List (Key×D)):List D:=ks.map fun p=>p.2
theorem wkK {K:Frg}:WkD K Itk (irV K) Au:=IF
theorem wkV {K:Frg}:WkD K Itd (irV K) Av:=Ei
def Pg (td:TE):TE:=fun σ H Q=> ∃Q':VK,td σ H Q'/\ ∀x H1,Q' x H1->Q x H1
theorem Lj {X:Cx} {e:Expr} {td:TE} (h:PE X e td):PE X e (Pg td):=⟨fun pins s σ H Q I ⟨Q',q,imp⟩=>thn (h.run pins s σ H Q' I q) fun v s1 ⟨x,H1,I1,r,q1⟩=>⟨x,H1,I1,r,imp x H1 q1⟩⟩
theorem FJ {X:Cx} {tg e:Expr} {td:TE} (h:PE X e td):PI X tg e (iD Itk td):=xF (pi_keys (Lj h)) fun σ H R q=>⟨_,q,fun x H1 ⟨d,o,kvs,e1,e2,r⟩=>⟨d,o,e1,.inl ⟨kvs,e2,r⟩⟩⟩
end Sw
namespace Sw
open PySem PySem.Spec PyProof.Rows L2
variable [NmC]
def Ni (a:Option D):Option (List D):=(nL a).bind fun ds=>some ds.reverse
def D.ints:List D->Option (List Int)
 | []=>some []
 | .int x::ds=>(D.ints ds).map fun xs=>x::xs
 |_::_=>none
def D.Nj (x:D):Option D:=match x with
 | .lst ds=>(D.ints ds).map fun ns=>.int ns.sum
 |_=>none
end Sw
namespace Sw
open PySem PySem.Spec PyProof.Rows L2
variable [NmC]
def xT (ks ls:List (Key×D)):Bool:=decide (ks.length=ls.length)&&ks.all fun p=>match (aC ls p.1).bind D.toV,p.2.toV with
 |some a,some b=>decide (a=b)&&flatB a
 |_,_=>false
end Sw
namespace Sw
open PySem PySem.Spec PyProof.Rows L2
variable [NmC]
def D.IG (d':D):Option (D×D):=match d' with
 | .dct _=>some (.non,.dct [])
 |_=>none
def IH (d:D) (rp:Option (List Stp)) (f:D->Option (D×D)):Option (D×D):=rp.bind fun q=>do1 d q f
section
variable {X:Cx} {Δ:List Md} {st:Ds} {e o:Expr} {m:VM} {ra:Option D} {rp:Option (List Stp)} {pos apos:Pos} {i:Nat} {md:Md} {s s'':Sh} {d:D}
theorem xU (hm:Δ[i]? =some md) (hs:wV md=some s) (hd:st[i]? =some (some d)) (ho:PPx X Δ st o i rp) (hsh: ∀q,rp=some q->shP s q=some (.dc s''))
  (hbase:attributeBase o "clear" X.env (eval o X.env)=eval o X.env:=by rfl) (hline:(apos.endLine==pos.line)=true:=by rfl):
  PY X Δ st (.Call (.Attribute o "clear" apos) [] [] pos) (.rg .fz) (rp.bind fun q=>Aq st i d q fun d'=>D.IG d'):=
 cg (pe_dclear ho hbase hline) fun σ H Q ⟨O,G,dd,rel,er,k⟩=>by
  obtain⟨q,e1,e3⟩:=bind1 er
  obtain⟨d',e4,e5⟩:=bind1 e3
  obtain⟨rr,e6,e7⟩:=bind1 e5
  cases e7
  have hsq:=hsh q e1
  refine⟨O,G,q,rel,e1,fun v0 v H2 G2 ev0 x1 at1=> ?_⟩
  have rel2:=rel.ext x1
  obtain⟨l,vs0,rfl,hl0⟩:=Fx rel2 hm hs hd ev0 at1 hsq e4
  cases d' <;> first|(cases e6;done)|skip
  rename_i ks
  cases e6
  refine⟨?_,?_⟩
  ·exact .inr (.inr (.inl ⟨rfl,.inl ⟨vs0,hl0⟩⟩))
  ·obtain⟨L,g,sl⟩:=rel2
   obtain⟨L1,Lr,o1,pa,f⟩:=BE (Lv:=[]) (by simpa using g) sl hm hs hd ev0 at1 hsq e4
   unfold Own at o1
   obtain⟨l',vs,ds',L',ed,ev,hl,nd,ol,rfl⟩:=o1
   cases ev;cases ed
   have nG: ¬G2 l:=(g.lg l (by have:=pa.mem_iff (a:=l);simp at this;exact this)).1
   obtain⟨L3,g3,s3,_⟩:=f l (.dK []) (.dct []) [l] [] (by simp) (by simp) (by simp) (by unfold Own;exact⟨l,[],[],[],rfl,rfl,upd_same,List.nodup_nil,⟨rfl,rfl⟩,rfl⟩)
   exact⟨l,vs,rfl,rfl,hl,k .non _ G2 ⟨L3,[],g3,s3,by unfold Rep;rfl,rfl⟩⟩
end
end Sw
namespace Sw
open PySem PySem.Spec PyProof.Rows L2 PySem.Calls
variable [NmC]
section
variable {prog:Program} {w:World} {A:Around} {E:Value->Shared->Prop} {s:Shared} {I:Addr} {T:String}
theorem Ej {Q:Value->Shared->Prop} {Fin:Shared->Prop} (hI:I<s.heap.objs.size) {b0:Bool}
  (hT: ∀h':Heap,(∀b o,s.heap.get? b=some o->h'.get? b=some o)->({s with heap:=h'}:Shared).TypeIs (.ref I) T)
  (nl:(Value.type T==Value.type "list")=false) (nt:(Value.type T==Value.type "tuple")=false)
  (hself: ∀(h':Heap) (Q':Value->Shared->Prop) (E':Value->Shared->Prop),(∀b o,s.heap.get? b=some o->h'.get? b=some o)->Q' (.ref I) {s with heap:=h'}->wpAny (model prog w) A.in1.in1 (pyIter (.ref I)) Q' E' {s with heap:=h'})
  (hhint: ∀(h':Heap) (A':Around) (Q':Bool->Shared->Prop) (E':Value->Shared->Prop),(∀b o,s.heap.get? b=some o->h'.get? b=some o)->Q' b0 {s with heap:=h'}->wpAny (model prog w) A' (Builtin.List.listLengthHint (.ref I)) Q' E' {s with heap:=h'})
  (hloop: ∀(h':Heap) (c:Nat) (R:Result->Shared->Prop),(∀b o,s.heap.get? b=some o->h'.get? b=some o)->h'.get? s.heap.objs.size=some {cls:=.type "list",data:=.seq #[] c}->(∀s'',Fin s''->R (.ok (.ret .none)) s'')→
   codeAny (model prog w) A.in1 (.builtin "list.extend.loop" ⟨[.ref s.heap.objs.size,.ref I,.none],[]⟩) R {s with heap:=h'})
  (hQ: ∀s'',Fin s''->Q (.ref s.heap.objs.size) s''):wpAny (model prog w) A (call (.type "list") [.ref I]) Q E s:=by
 refine callType_codes (Q₁:=fun obj s₁=>obj= .ref s.heap.objs.size/\s₁={s with heap:=s.heap.push {cls:=.type "list",data:=.seq #[]}}) PySem.F.called_list (PySem.F.typeCall_list_1 _) PySem.F.entry_list_init
  (code_list_new _ ⟨rfl,rfl⟩) fun obj s₁ h₁=> ?_
 obtain⟨rfl,rfl⟩:=h₁
 have hS:(s.heap.push {cls:=.type "list",data:=.seq #[]}).get? s.heap.objs.size=some {cls:=.type "list",data:=.seq #[]}:=Heap.get?_push_size _ rfl
 refine⟨⟨_,hS,rfl⟩,PySem.F.args_list_init_2 _ _,?_⟩
 have hSI:s.heap.objs.size≠I:=Nat.ne_of_gt hI
 have k0: ∀b o,s.heap.get? b=some o->(s.heap.push {cls:=.type "list",data:=.seq #[]}).get? b=some o:=fun b o e=>Heap.get?_push_of_some _ e
 generalize hh0:s.heap.push {cls:=.type "list",data:=.seq #[]}=h0 at hS k0⊢
 show wpAny _ _ (do let old<-Builtin.List.listItems (.ref s.heap.objs.size);Builtin.List.listUpdate (.ref s.heap.objs.size) (fun _=> #[]);letGo old.toList.reverse;Builtin.List.listExtendWith (.ref s.heap.objs.size) (.ref I) .none) _ _ _
 refine wpAny_bind ?_
 unfold Builtin.List.listItems
 refine wpAny_bind (wpAny_seqItems hS rfl (wpAny_pure ?_))
 show wpAny _ _ (updateSeq s.heap.objs.size (fun _=> #[]) >>= fun _=>letGo (#[]:Array Value).toList.reverse >>= fun _=>Builtin.List.listExtendWith (.ref s.heap.objs.size) (.ref I) .none) _ _ _
 refine wpAny_bind (wpAny_updateSeq hS rfl ?_)
 have hS₂:=Heap.get?_update_self (Obj.mapSeq (fun _=>(#[]:Array Value))) hS rfl
 have k1: ∀b o,s.heap.get? b=some o->(h0.update s.heap.objs.size (Obj.mapSeq (fun _=>(#[]:Array Value)))).get? b=some o:=
  fun b o e=>(Heap.get?_update_other _ _ (Nat.ne_of_gt (Heap.lt_size e))).trans (k0 b o e)
 refine wpAny_bind (wpAny_letGo ?_)
 generalize h0.update s.heap.objs.size (Obj.mapSeq (fun _=>(#[]:Array Value)))=h1 at hS₂ k1⊢
 unfold Builtin.List.listExtendWith
 refine wpAny_bind (wpAny_typeOf (T:=T) (hT _ k1) ?_)
 have e1:Builtin.List.listSameRef (.ref s.heap.objs.size) (.ref I)=false:=by simp[Builtin.List.listSameRef,hSI]
 simp only[e1,nl,nt,Bool.or_false,Bool.false_eq_true,if_false]
 refine wpAny_bind (hself _ _ _ k1 ?_)
 refine wpAny_bind (wpAny_holding (hhint _ _ _ _ k1 ?_))
 refine wpAny_ite_split (fun _=> ?_) (fun _=>wpAny_pure ⟨plainId_quiet PySem.F.plain_extend_loop _,hloop _ _ _ k1 hS₂ fun s'' f=>⟨rfl,hQ _ f⟩⟩)
 refine wpAny_bind (wpAny_rule ?_)
 refine wpAny_bind ?_
 show wpAny _ _ (updateSeq s.heap.objs.size (·.push .none) >>= fun _=>updateSeq s.heap.objs.size (·.pop)) _ _ _
 refine wpAny_bind (wpAny_updateSeq hS₂ rfl ?_)
 have hS₃:=Heap.get?_update_self (Obj.mapSeq (·.push Value.none)) hS₂ rfl
 refine wpAny_updateSeq (hz:=by seq_fits) hS₃ rfl ?_
 have hS₄:=Heap.get?_update_self (Obj.mapSeq (·.pop)) hS₃ rfl
 refine wpAny_pure ⟨plainId_quiet PySem.F.plain_extend_loop _,hloop _ _ _ (fun b o e=> ?_) hS₄ fun s'' f=>⟨rfl,hQ _ f⟩⟩
 have hb:=Nat.ne_of_gt (Heap.lt_size e)
 exact (Heap.get?_update_other _ _ hb).trans ((Heap.get?_update_other _ _ hb).trans (k1 b o e))
end
theorem BJ:typeLookup (.type "list_reverseiterator") "__len__" =pure none:=by rw[typeLookup_type,builtinLookup_eq_fast];kernel_rfl
theorem FN:typeLookup (.type "list_reverseiterator") "__length_hint__" =pure (some (.builtin "list_reverseiterator.__length_hint__")):=by rw[typeLookup_type,builtinLookup_eq_fast];kernel_rfl
section
variable {prog:Program} {w:World} {A:Around} {E:Value->Shared->Prop} {s:Shared} {r:Addr} {Q:Bool->Shared->Prop}
theorem FP (hT:s.TypeIs (.ref r) "list_reverseiterator") (h:Q false s):wpAny (model prog w) A (Builtin.List.listLengthHint (.ref r)) Q E s:=by
 unfold Builtin.List.listLengthHint
 refine wpAny_bind (wpAny_specialOf hT BJ ?_)
 show wpAny _ _ (specialOf (Value.ref r) (Str.ofString "__length_hint__") >>= _) _ _ _
 refine wpAny_bind (wpAny_specialOf hT FN ?_)
 generalize hid:("list_reverseiterator.__length_hint__" :String)=id0
 wp_delta
 rw[show splitId id0=some ("list_reverseiterator","__length_hint__") from by subst hid;decide+kernel]
 subst hid
 refine wpAny_bind (wpAny_isInstance (T:="list_reverseiterator") (b:=true) hT (by rw[isSubtype_type];kernel_rfl) ?_)
 refine wpAny_ite_split (fun hab=>absurd hab (by decide)) (fun _=> ?_)
 refine wpAny_ite_split (fun _=> ?_) (fun hab=>absurd (by decide+kernel) hab)
 refine wpAny_ite_split (fun hab=>absurd hab (by decide+kernel)) (fun _=> ?_)
 exact wpAny_pure h
theorem FQ {I l:Addr} {items:Array Value} {Q:Value->Shared->Prop} (hh:A.handled=none) (hit:s.heap.IsRevIter I l ((items.size:Int) -1)) (hl:s.heap.IsList l items) (hne:l≠I) (hn:items.size<=sizeLine)
  (hQ: ∀h' tk acc c,(∀b o,b≠I->s.heap.get? b=some o->h'.get? b=some o)->h'.get? s.heap.objs.size=some {cls:=.type "list",dict:=none,data:=.seq acc c,slots:= #[]}->acc.toList=items.toList.reverse->Q (.ref s.heap.objs.size) {s with heap:=h',toks:=tk}):
  wpAny (model prog w) A (call (.type "list") [.ref I]) Q E s:=by
 have hI:I<s.heap.objs.size:=by obtain⟨o,e,_⟩:=hit;exact Heap.lt_size e
 have hL:l<s.heap.objs.size:=by obtain⟨o,e,_⟩:=hl;exact Heap.lt_size e
 refine Ej (b0:=false) (T:="list_reverseiterator") (Fin:=fun s''=> ∃h' tk acc c,s''={s with heap:=h',toks:=tk}/\(∀b o,b≠I->s.heap.get? b=some o->h'.get? b=some o)/\h'.get? s.heap.objs.size=some {cls:=.type "list",dict:=none,data:=.seq acc c,slots:= #[]}/\acc.toList=items.toList.reverse)
  hI (fun h' k=>(hit.at fun o e=>k _ o e).typeIs (s:={s with heap:=h'})) (by decide) (by decide) (fun h' Q' E' k q=>wpAny_pyIter_revIter (s:={s with heap:=h'}) (hit.at fun o e=>k _ o e) q)
  (fun h' A' Q' E' k q=>FP (s:={s with heap:=h'}) ((hit.at fun o e=>k _ o e).typeIs (s:={s with heap:=h'})) q) (fun h' c R k hS hR=> ?_) fun s'' ⟨h',tk,acc,c,e,k,a,b⟩=>by subst e;exact hQ h' tk acc c k a b
 have W:=Walks.listRev (prog:=prog) (w:=w) (A:=A.in1.in1) hh I l hne items
 have hSf:s.heap.objs.size∉[I,l]:=by
  simp only[List.mem_cons,List.not_mem_nil,or_false,not_or]
  exact⟨Nat.ne_of_gt hI,Nat.ne_of_gt hL⟩
 refine codeAny_extend_loopS W.toS hn s.heap.objs.size hSf .none items.size 0 _ #[] c rfl (Nat.zero_le _) ⟨Nat.zero_le _,by simpa using hit.at fun o e=>k _ o e,hl.at fun o e=>k _ o e⟩ hS (ItemsOf.nil _) fun s' acc' c' hm hS' hacc=> ?_
 rw[Moved.eq_with hm]
 refine hR _ ⟨s'.heap,s'.toks,acc',c',rfl,fun b o hb e=>hm.heap b o (fun hmem=> ?_) (k b o e),hS',?_⟩
 ·rcases List.mem_cons.mp hmem with e'|hmem
  ·exact absurd (Heap.lt_size e) (by rw[e'];exact Nat.lt_irrefl _)
  ·exact hb (List.mem_singleton.mp hmem)
 ·apply List.ext_getElem?
  intro j
  have hsz:acc'.size=items.size:=hacc.1
  by_cases hj:j<acc'.size
  ·have h1:=hacc.2 j acc'[j] (Array.getElem?_eq_getElem hj)
   rw[Array.getElem?_toList,Array.getElem?_eq_getElem hj,List.getElem?_reverse (by simp;omega),Array.length_toList,Array.getElem?_toList]
   exact h1.symm
  ·rw[List.getElem?_eq_none (by simp;omega),List.getElem?_eq_none (by simp;omega)]
end
section
variable {X:Cx} {Δ:List Md} {st:Ds} {e:Expr} {m:VM} {ra:Option D} {pos p pos2 p2:Pos} {rg:Rg}
def Nk (K:Frg) (ta:TA):TE:=fun σ H Q=>ta σ H fun vs H1=> ∃a xs,vs=[.ref a]/\SqL K H1 a xs/\ ∀q,H1 q=none->Q (.ref q) (upd H1 q (.lst xs.reverse))
theorem II {ta:TA} (hc:X.calm=true) (hg:Gl X "list") (hm:X.mg "list" =none) (hg2:Gl X "reversed") (hm2:X.mg "reversed" =none) (ha:PA X [e] ta)
  (hs:starEach [e] X.env=[(false,eval e X.env)]:=by rfl) (hs2:starEach [.Call (.Name "reversed" p2) [e] [] pos2] X.env=[(false,eval (.Call (.Name "reversed" p2) [e] [] pos2) X.env)]:=by rfl):
  PE X (.Call (.Name "list" p) [.Call (.Name "reversed" p2) [e] [] pos2] [] pos) (Nk X.K ta):=by
 refine⟨fun pins s σ H Q I h=> ?_⟩
 refine wpAny_Call_Name_kw (ld_blt I hg hm vC ?_)
 refine PyProof.Rows.callWith_type1 ?_ hs2 rfl
 rw[hs2]
 refine Calls.spliced_cons ?_
 refine Call_ (ld_blt I hg2 hm2 PyProof.Rows.boot_reversed (PyProof.Rows.callWith_type1 (thn (ha.run pos2 pins s σ H _ I h) fun us s1 ⟨vs,H1,I1,r1,q1⟩=> ?_) hs rfl))
 obtain⟨a,xs,e1,hq,q⟩:=q1
 subst e1
 cases r1 with
 |cons r rr=>
  cases rr
  cases r
  obtain⟨its,rv,p',hz⟩:=I1.list hq
  have hl:=rv.length
  have hit:(s1.heap.push (revObj a ((its.toArray.size:Int) -1))).IsRevIter s1.heap.objs.size a ((its.toArray.size:Int) -1):=⟨_,Heap.get?_push_size _ rfl,rfl,rfl⟩
  have hlt:a<s1.heap.objs.size:=p'.lt
  refine call_reversed_list p'.isList ?_
  refine Calls.spliced_nil ?_
  refine FQ (s:={s1 with heap:=s1.heap.push (revObj a ((its.toArray.size:Int) -1))}) (I1.ok.hd hc) hit (p'.isList.push _) (Nat.ne_of_lt hlt) (by simp only[List.size_toArray];omega) fun h' tk acc c k hS hacc=> ?_
  have hsz:(s1.heap.push (revObj a ((its.toArray.size:Int) -1))).objs.size=s1.heap.objs.size+1:=Heap.size_push ..
  rw[hsz] at hS⊢
  have k2: ∀b o,s1.heap.get? b=some o->h'.get? b=some o:=fun b o e=>k b o (Nat.ne_of_lt (Heap.lt_size e)) (Heap.get?_push_of_some _ e)
  have hle:s1.heap.objs.size<=s1.heap.objs.size+1:=Nat.le_succ _
  refine⟨.ref (s1.heap.objs.size+1),upd H1 (s1.heap.objs.size+1) (.lst xs.reverse),I1.laid (t':=tk) k2 hle ⟨by rw[List.length_reverse];exact hz,acc.toList,c,?_,?_⟩,rfl,q _ (I1.hok.fresh hle)⟩
  ·rw[hacc];exact Vals.reverse rv
  ·rw[Array.toArray_toList];exact hS
end
end Sw
namespace Sw
open PySem PySem.Spec PyProof.Rows L2 PySem.Calls PySem.W
variable [NmC]
section
variable {prog:Program} {w:World} {A:Around} {E:Value->Shared->Prop} {s:Shared}
def FT (z TI TO i1 i2 l1 l2 S:Addr) (xs ys:Array Value) (i:Nat) (h:Heap):Prop:=
 IsPair h TI (.ref i1) (.ref i2)/\h.IsListIter i1 l1 i/\h.IsListIter i2 l2 i/\h.IsList l1 xs/\h.IsList l2 ys∧
  ((IsZip h z TI TO .none/\ ∃a b,IsPair h TO a b)\/ ∃T f oT,IsZipHeld h z TI TO T f/\h.get? T=some oT/\T≠z/\T≠i1/\T≠i2/\T≠S)
theorem FT.at {z TI TO i1 i2 l1 l2 S:Addr} {xs ys:Array Value} {i:Nat} {h h':Heap} (x:FT z TI TO i1 i2 l1 l2 S xs ys i h) (d:z≠S/\TI≠S/\TO≠S/\i1≠S/\i2≠S/\l1≠S/\l2≠S)
  (k: ∀b o,b≠S->h.get? b=some o->h'.get? b=some o):FT z TI TO i1 i2 l1 l2 S xs ys i h':=by
 obtain⟨hTI,h1,h2,hl1,hl2,hz⟩:=x
 obtain⟨dz,dTI,dTO,d1,d2,dl1,dl2⟩:=d
 refine⟨k _ _ dTI hTI,h1.at fun o e=>k _ o d1 e,h2.at fun o e=>k _ o d2 e,hl1.at fun o e=>k _ o dl1 e,hl2.at fun o e=>k _ o dl2 e,?_⟩
 rcases hz with ⟨hz,a,b,hTO⟩|⟨T,f,oT,hz,hT,r1,r2,r3,r4⟩
 ·exact .inl ⟨k _ _ dz hz,a,b,k _ _ dTO hTO⟩
 ·exact .inr ⟨T,f,oT,k _ _ dz hz,k _ _ r4 hT,r1,r2,r3,r4⟩
end
section
variable {X:Cx} {Δ:List Md} {st:Ds} {e e2:Expr} {m:VM} {ra rb:Option D} {pos p pos2 p2:Pos} {rg:Rg}
def IJ (a:Option D):Option D:=(Ni a).bind fun ds=>some (.lst ds)
def D.Qg (x:D):Option D:=match x with
 | .lst ds=>if D.evs ds=true then some (.lst ds.reverse) else none
 |_=>none
theorem C4 {ra:Option D} {ds:List D} (h:nL ra=some ds):ra=some (.lst ds):=by
 obtain⟨x,e1,e2⟩:=bind1 (show (ra.bind fun x=>match x with| .lst ds=>some ds|_=>none)=some ds from h)
 cases x <;> first|(cases e2;done)|skip
 rename_i xs
 cases (show some xs=some ds from e2)
 exact e1
theorem IK (hc:X.calm=true) (hg:Gl X "list") (hm:X.mg "list" =none) (hg2:Gl X "reversed") (hm2:X.mg "reversed" =none) (ha:PX X Δ st e (.rg .fz) ra)
  (hs:starEach [e] X.env=[(false,eval e X.env)]:=by rfl) (hs2:starEach [.Call (.Name "reversed" p2) [e] [] pos2] X.env=[(false,eval (.Call (.Name "reversed" p2) [e] [] pos2) X.env)]:=by rfl):
  PX X Δ st (.Call (.Name "list" p) [.Call (.Name "reversed" p2) [e] [] pos2] [] pos) (.nw (.ls .fz)) (IJ ra):=
 cg (II hc hg hm hg2 hm2 (pa_cons ha pa_nil hs) hs hs2) fun σ H Q ⟨O,G,d,rel,er,k⟩=>by
  obtain⟨ds,e1,e2⟩:=bind1 er
  cases e2
  obtain⟨ds0,e3,e4⟩:=bind1 e1
  cases e4
  refine rdE.go rel (C4 e3) fun v H1 G1 rel1 x1 v1=> ?_
  unfold bD Rep at v1
  obtain⟨a,vs,rfl,s,l,rr⟩:=v1
  exact⟨a,vs,rfl,SqL.of l,fun q hq=>k _ _ G1 (x1.trans (.new hq)) ((mw hq rel1.gin rr.reverse).back x1)⟩
end
end Sw
namespace Sw
open PySem PySem.Spec PyProof.Rows L2 PySem.Calls
variable [NmC]
section
variable {X:Cx} {Δ:List Md} {st:Ds} {a b c e o:Expr} {es:List Expr} {m ma mb mc:VM} {ra rb rc:Option D} {pos p apos cpos:Pos} {r rg:Rg}
def Ph:PyData->Option D
 | .int i=>some (.int i)
 | .str x=>some (.str x)
 |_=>none
end
end Sw
namespace Sw
open PySem PySem.Spec PyProof.Rows L2
variable [NmC]
section
variable {α β γ:Type} {X:Cx} {E:Exits α β} {Δ:List Md} {st:Ds} {rest body:List Stmt} {a b:Expr} {pos:Pos} {r1 r2:Rg} {ra rb:Option D}
theorem vD {K:Frg} {O:Org} {σ:CS} {H:Hp} {G:Sa} {i:Nat} {d:D} {x:V} {r:Rg} (hr:r≠ .hb) (rel:Rel K O Δ st σ H G) (hi:i<Δ.length) (h:Rep K (rgn O G r) H d x):Rel K O (Δ.set i (mdR r)) (st.set i (some d)) (σ.set i (some x)) H G:=by
 cases r with
 |hb=>exact absurd rfl hr
 |bb=>exact rel.qm (m:=.rg .bb) .refl hi rfl h
 |fz=>exact rel.qm (m:=.rg .fz) .refl hi rfl h
theorem FU {c:Expr} (Dl:List Md) (el:γ->Ds) {b0:γ} {tst:γ->Option Bool} {step:γ->Option (Out γ γ)} {k:γ->Option (Out α β)} (hc: ∀b,PTx X Dl (el b) c (tst b)) (w:Wk Δ st Dl (el b0)) (hb: ∀b,Blk X (E.loop Dl el) Dl (el b) body (step b))
  (h: ∀b,Blk X E Dl (el b) rest (k b)) (hp:PassesOwn (model X.prog X.w) X.A X.env X.xe:=by exact PassesOwn.never):Blk X E Δ st (.While c body [] pos::rest) (whO tst step b0 k):=Fg Dl el hc w hb h hp
end
end Sw
namespace Sw
open PySem PySem.Spec PyProof.Rows L2
variable [NmC]
section
variable {α β γ:Type} {X:Cx} {E:Exits α β} {Δ:List Md} {st:Ds} {rest body:List Stmt} {a b c e o:Expr} {es:List Expr} {pos apos p2:Pos} {r rg:Rg} {m ma mb mc:VM} {ra rb rc:Option D}
def chB (f f':D->D->Option Bool) (ra rb rc:Option D):Option Bool:=ra.bind fun x=>rb.bind fun y=>(f x y).bind fun k=>if k=true then rc.bind fun z=>f' y z else some false
theorem Ek {r2 r2':R2} {f f':D->D->Option Bool} (hf:Op2 X r2 ma mb (.rg .fz) (blD f)) (hf':Op2 X r2' mb mc (.rg .fz) (blD f')) {σ:CS} {H:Hp} {O:Org} {G:Sa} {k:Bool} {Q:VK}
  (rel:Rel X.K O Δ st σ H G) (er:chB f f' ra rb rc=some k) (q: ∀H' G',Ext H G H' G'->Q (.bl k) H'):tChain r2 r2' (rdE X.K Δ st ma ra) (rdE X.K Δ st mb rb) (rdE X.K Δ st mc rc) σ H Q:=by
 obtain⟨x,y,e1,e2,e3⟩:=cj er
 obtain⟨k1,e4,e5⟩:=bind1 e3
 refine rdE.go rel e1 fun v H1 G1 rel1 x1 v1=>rdE.go rel1 e2 fun w H2 G2 rel2 x2 v2=> ?_
 refine hf O H H2 G2 x y v w (.bl k1) _ (by unfold blD;rw[e4];rfl) (v1.mono x2) (v2.back x1) rel2.gin fun u H3 G3 x3 hu=> ?_
 refine⟨k1,hu.bl,?_⟩
 cases k1 with
 |false=>
  rw[if_neg Bool.false_ne_true] at e5⊢
  cases e5
  exact q H3 G3 (x1.trans (x2.trans x3))
 |true=>
  rw[if_pos rfl] at e5⊢
  obtain⟨z,e6,e7⟩:=bind1 e5
  refine rdE.go (rel2.ext x3) e6 fun t H4 G4 rel4 x4 v4=> ?_
  exact hf' O H1 H4 G4 y z w t (.bl k) _ (by unfold blD;rw[e7];rfl) ((v2.mono x3).mono x4) (v4.back (x2.trans x3)) rel4.gin fun u5 H5 G5 x5 hu5=>by
   rw[hu5.bl];exact q H5 G5 (x1.trans (x2.trans (x3.trans (x4.trans x5))))
theorem El {op op':CmpOp} {r2 r2':R2} {f f':D->D->Option Bool} (ho:OpR X (compareOp op) r2) (hf:Op2 X r2 ma mb (.rg .fz) (blD f)) (ho':OpR X (compareOp op') r2') (hf':Op2 X r2' mb mc (.rg .fz) (blD f')) (ha:PX X Δ st a ma ra) (hb:PX X Δ st b mb rb) (hc:PX X Δ st c mc rc)
  (hm:lastMarks [op,op'] [b,c]=false:=by with_unfolding_all rfl):PTx X Δ st (.Compare a [op,op'] [b,c] pos) (chB f f' ra rb rc):=
 CM (pt_chain ho ho' ha hb hc hm) fun σ H Q ⟨O,G,t,rel,er,k⟩=>Ek hf hf' rel er fun H' G' x=>⟨t,rfl,k H' G' x⟩
theorem FV {x:Str} {z:Str} {pos:Pos} (hm: ∃t,X.mg x=some (.str z t)) (hg:Gl X x:=by rfl) (hd:(x==("__debug__" :Str))=false:=by decide):PX X Δ st (.Name x pos) (.rg rg) (some (.str z)):=by
 obtain⟨t,hm⟩:=hm
 exact cg (pe_glob hg hm (v:=.str z) ⟨t,rfl⟩ hd) fun σ H Q ⟨O,G,d,rel,er,k⟩=>by cases er;exact k _ H G .refl qM
def Kq (K:Frg) (x:Str) (zs:List Str):Bool:=match PySem.W.nsIn K mainGlobals x with
 |some (some (.ref p))=>match K.lookup p with
  |some o=>decide (o.cls= .type "tuple")&&match o.data with
   | .seq its _=>decide (its.size<=sizeLine)&&decide (its.toList.map (fun v=>match v with| .str y _=>some y|_=>none)=zs.map some)
   |_=>false
  |none=>false
 |_=>false
def D.inG (neg:Bool) (zs:List Str) (x:D):Option Bool:=match x with
 | .str a=>some (if neg=true then !inV (.str a) (zs.map V.str) else inV (.str a) (zs.map V.str))
 |_=>none
def D.qp (neg:Bool) (x y:D):Option Bool:=match x,y with
 | .str a,.str z=>match a.cps.toList with
  | [c]=>some (if neg=true then !decide (c∈z.cps.toList) else decide (c∈z.cps.toList))
  |_=>none
 |_,_=>none
theorem xV {neg:Bool} {x y:D} {k:Bool} (h:D.qp neg x y=some k): ∃(c:Nat) (z:Str),x= .str ⟨#[c]⟩/\y= .str z/\k=(if neg=true then !decide (c∈z.cps.toList) else decide (c∈z.cps.toList)):=by
 unfold D.qp at h
 split at h
 ·rename_i a z
  split at h
  ·rename_i c hc
   cases h
   obtain⟨⟨l⟩⟩:=a
   cases hc
   exact⟨c,z,rfl,rfl,rfl⟩
  ·cases h
 ·cases h
theorem FW:Op2 X (fun x y H Q=> ∃(c:Nat) (z:Str),x= .str ⟨#[c]⟩/\y= .str z/\Q (.bl (decide (c∈z.cps.toList))) H) (.rg r) (.rg rg) (.rg .fz) (blD (D.qp false)):=fun O H0 H G x y v w d Q e hx hy _ k=>by
 obtain⟨t,e1,rfl⟩:=iO e
 obtain⟨c,z,rfl,rfl,rfl⟩:=xV e1
 exact⟨c,z,hx.str,hy.str,k _ H G .refl l5⟩
theorem IL:Op2 X (fun x y H Q=> ∃(c:Nat) (z:Str),x= .str ⟨#[c]⟩/\y= .str z/\Q (.bl (!decide (c∈z.cps.toList))) H) (.rg r) (.rg rg) (.rg .fz) (blD (D.qp true)):=fun O H0 H G x y v w d Q e hx hy _ k=>by
 obtain⟨t,e1,rfl⟩:=iO e
 obtain⟨c,z,rfl,rfl,rfl⟩:=xV e1
 exact⟨c,z,hx.str,hy.str,k _ H G .refl l5⟩
def D.split (x y:D):Option D:=match x,y with
 | .str a,.str b=>if (b.length==0)=false/\a.length+2<=sizeLine then some (.lst ((Txt.split a b).map D.str)) else none
 |_,_=>none
theorem Aw (ho:PX X Δ st o (.rg r) ra) (he:PX X Δ st e (.rg rg) rb) (hs:starEach [e] X.env=[(false,eval e X.env)]:=by rfl) (hbase:attributeBase o "split" X.env (eval o X.env)=eval o X.env:=by rfl) (hline:(apos.endLine==pos.line)=true:=by rfl):
  PX X Δ st (.Call (.Attribute o "split" apos) [e] [] pos) (.nw (.ls .fz)) (b2 D.split ra rb):=cg (pe_split ho he hs hbase hline) fun σ H Q ⟨O,G,d,rel,er,k⟩=>by
 obtain⟨x,y,e1,e2,e3⟩:=cj er
 cases x <;> first|(cases e3;done)|skip
 cases y <;> first|(cases e3;done)|skip
 rename_i u w
 obtain⟨⟨h1,h2⟩,rfl⟩:=aH (show (if (w.length==0)=false/\u.length+2<=sizeLine then some (D.lst ((Txt.split u w).map D.str)) else none)=some d from e3)
 refine rdE.go rel e1 fun v H1 G1 rel1 x1 v1=>⟨⟨u,v1.str⟩,rdE.go rel1 e2 fun v' H2 G2 rel2 x2 v2=> ?_⟩
 exact⟨u,w,v1.str,by rw[v2.str],h1,h2,fun p hp=>k _ _ G2 ((x1.trans x2).trans (.new hp)) (bD.back (x1.trans x2) (mw hp rel2.gin (xR _)))⟩
def D.part (x y:D):Option D:=match x,y with
 | .str a,.str b=>if (b.length==0)=false/\a.length<=sizeLine then some (.tup [.str (Txt.partition a b).1,.str (Txt.partition a b).2.1,.str (Txt.partition a b).2.2]) else none
 |_,_=>none
theorem IM (ho:PX X Δ st o (.rg r) ra) (he:PX X Δ st e (.rg rg) rb) (hs:starEach [e] X.env=[(false,eval e X.env)]:=by rfl) (hbase:attributeBase o "partition" X.env (eval o X.env)=eval o X.env:=by rfl) (hline:(apos.endLine==pos.line)=true:=by rfl):
  PX X Δ st (.Call (.Attribute o "partition" apos) [e] [] pos) (.rg .fz) (b2 D.part ra rb):=cg (pe_partition ho he hs hbase hline) fun σ H Q ⟨O,G,d,rel,er,k⟩=>by
 obtain⟨x,y,e1,e2,e3⟩:=cj er
 cases x <;> first|(cases e3;done)|skip
 cases y <;> first|(cases e3;done)|skip
 rename_i u w
 obtain⟨⟨h1,h2⟩,rfl⟩:=aH (show (if (w.length==0)=false/\u.length<=sizeLine then some (D.tup [.str (Txt.partition u w).1,.str (Txt.partition u w).2.1,.str (Txt.partition u w).2.2]) else none)=some d from e3)
 refine rdE.go rel e1 fun v H1 G1 rel1 x1 v1=>⟨⟨u,v1.str⟩,rdE.go rel1 e2 fun v' H2 G2 rel2 x2 v2=> ?_⟩
 refine⟨u,w,v1.str,by rw[v2.str],h1,h2,fun p hp=>k _ _ _ ((x1.trans x2).trans (.M7 hp)) ?_⟩
 unfold bD Rep
 exact⟨p,_,rfl,⟨.inr rfl,upd_same⟩,.cons (by unfold Rep;rfl) (.cons (by unfold Rep;rfl) (.cons (by unfold Rep;rfl) .nil))⟩
def D.BK:D->Option D
 | .int i=>if i.natAbs.log2<1920 then some (.str (toString i)) else none
 |_=>none
theorem Lo:OpN X (fun xs H Q=> ∃i,xs=[.int i]/\i.natAbs.log2<1920/\Q (.str (toString i)) H) [.rg r] (.rg rg) (un1 D.BK):=fun O H0 H G xs vs d Q e hv gin k=>by
 obtain⟨x,rfl,e1⟩:=kd e
 obtain⟨v,rfl,h1⟩:=yC hv
 cases x <;> first|(cases e1;done)|skip
 rename_i i
 obtain⟨h2,rfl⟩:=aH (show (if i.natAbs.log2<1920 then some (D.str (toString i)) else none)=some d from e1)
 exact⟨i,by rw[h1.int],h2,k _ H G .refl qM⟩
def D.wY:D->Option D
 | .str a=>if a.length<=640 then (PySem.intText? a).map D.int else none
 |_=>none
theorem Lp:OpN X (fun xs H Q=> ∃a n,xs=[.str a]/\PySem.intText? a=some n/\a.length<=640/\Q (.int n) H) [.rg r] (.rg rg) (un1 D.wY):=fun O H0 H G xs vs d Q e hv gin k=>by
 obtain⟨x,rfl,e1⟩:=kd e
 obtain⟨v,rfl,h1⟩:=yC hv
 cases x <;> first|(cases e1;done)|skip
 rename_i a
 have e1:(if a.length<=640 then (PySem.intText? a).map D.int else none)=some d:=e1
 by_cases z:a.length<=640
 ·rw[if_pos z] at e1
  cases q:PySem.intText? a with
  |none=>rw[q] at e1;cases e1
  |some n=>
   rw[q] at e1;cases e1
   exact⟨a,n,by rw[h1.str],q,z,k _ H G .refl iN⟩
 ·rw[if_neg z] at e1;cases e1
theorem IP:OpR X (binaryOp .Add) (fun x y H Q=> ∃l b xs zs,x= .ref l/\y= .ref b/\SqL X.K H l xs/\H b=some (.lst zs)/\xs.length+zs.length<=sizeLine/\ ∀p,H p=none->Q (.ref p) (upd H p (.lst (xs++zs)))):=by
 intro pins s σ H x y v u Q I rx ry h
 obtain⟨l,b,xs,zs,rfl,rfl,hH,hB,hz,q⟩:=h
 cases rx
 cases ry
 obtain⟨its,r,pl,z⟩:=I.list hH
 obtain⟨⟨cls,dd,data,sl⟩,n,ho,hc,_,hd⟩:=pl
 simp only at hc hd
 subst hc hd
 obtain⟨z2,its2,n2,r2,hl2,e2⟩:=I.lstM hB
 have hl:=r.length
 refine concat_meets ⟨_,ho,rfl⟩ ⟨_,e2,rfl⟩ noFill_list_add seq_list_add PySem.F.slot_list_add PySem.F.entry_list_add (PySem.F.args_list_add_2 _ _) (list_addW l b its.toArray its2.toArray n n2 dd none sl #[] (by rw[List.size_toArray,List.size_toArray];omega)) ⟨ho,e2,?_⟩
 have ea:its.toArray++its2.toArray=(its++its2).toArray:=by simp
 rw[ea]
 exact⟨.ref _,_,I.lnew (t':=s.toks) (r.append r2) (by rw[List.length_append];omega),rfl,q _ I.fresh⟩
def D.BL (x y:D):Option D:=match x,y with
 | .sc ns,.lst ds=>if ns.length+ds.length<=sizeLine then some (.lst (ns.map D.int++ds)) else none
 |_,_=>none
theorem Lq:Op2 X (fun x y H Q=> ∃l b xs zs,x= .ref l/\y= .ref b/\SqL X.K H l xs/\H b=some (.lst zs)/\xs.length+zs.length<=sizeLine/\ ∀p,H p=none->Q (.ref p) (upd H p (.lst (xs++zs)))) (.rg r) (.rg .fz) (.nw (.ls .fz)) D.BL:=fun O H0 H G x y v w d Q e hx hy gin k=>by
 cases x <;> cases y <;> first|cases e|skip
 rename_i ys ns
 first
  |(obtain⟨q,rfl⟩:=aH (show (if ns.length+ys.length<=sizeLine then some (D.lst (ns.map D.int++ys)) else none)=some d from e)
    unfold bD Rep at hx hy
    obtain⟨a,rfl,l⟩:=hx
    obtain⟨b,ws,rfl,_,l',rr'⟩:=hy
    exact⟨a,b,_,ws,rfl,rfl,l.sq,l',by rw[List.length_map,rr'.length];exact q,fun p hp=>k _ _ G (.new hp) (mw hp gin ((sX ns).append rr'))⟩)
  |(obtain⟨q,rfl⟩:=aH (show (if ys.length+ns.length<=sizeLine then some (D.lst (ys.map D.int++ns)) else none)=some d from e)
    unfold bD Rep at hx hy
    obtain⟨a,rfl,l⟩:=hx
    obtain⟨b,ws,rfl,_,l',rr'⟩:=hy
    exact⟨a,b,_,ws,rfl,rfl,l.sq,l',by rw[List.length_map,rr'.length];exact q,fun p hp=>k _ _ G (.new hp) (mw hp gin ((sX ys).append rr'))⟩)
end
end Sw
namespace Sw
open PySem PySem.Spec PyProof.Rows L2
variable [NmC]
section
variable {α β γ δ:Type} {X:Cx} {E:Exits α β} {Δ:List Md} {st:Ds} {rest body orelse:List Stmt} {e:Expr} {pos:Pos} {r:Rg} {ra:Option D} {tg:Expr}
def Ls (rb:Option (Out γ β)) (ro:γ->Option (Out δ β)) (k:δ->Option (Out α β)):Option (Out α β):=(rb.bind (sqO ro)).bind (sqO k)
theorem Lu (Dj:List Md) (ej:γ->Ds) (D2:List Md) (e2:δ->Ds) {h₀:ExceptHandler} {hs:List ExceptHandler} {rb:Option (Out γ β)} {ro:γ->Option (Out δ β)} {k:δ->Option (Out α β)} (hb:Blk X (E.join Dj ej) Δ st body rb) (ho: ∀a,Blk X (E.join D2 e2) Dj (ej a) orelse (ro a)) (h: ∀a,Blk X E D2 (e2 a) rest (k a))
  (hn: ∀e s,¬X.xe e s:=by exact fun _ _ h=>h):Blk X E Δ st (.Try body (h₀::hs) orelse [] pos::rest) (Ls rb ro k):=
 ia (pss_cons (ps_try_never hn hb (fR ho)) (fR h)) fun De σ H ⟨O,G,q,rel,er,kk⟩=>by
  obtain⟨o2,e3,e4⟩:=bind1 er
  obtain⟨o1,e5,e6⟩:=bind1 e3
  have m2:=Meets.seq (Dj:=D2) (ej:=e2) (U:=fun σ H=> ∃a,rdS X.K E D2 (e2 a) (k a) De σ H) e4 kk fun a ea σ' H' G' rel'=>⟨a,O,G',q,rel',ea,kk⟩
  have m1:=Meets.seq (Dj:=Dj) (ej:=ej) (U:=fun σ H=> ∃a,rdS X.K (E.join D2 e2) Dj (ej a) (ro a) {De with nx:=fun σ H=> ∃a,rdS X.K E D2 (e2 a) (k a) De σ H} σ H) e6 m2 fun a ea σ' H' G' rel'=>⟨a,O,G',o2,rel',ea,m2⟩
  exact⟨O,G,o1,rel,e5,m1⟩
def D.pr3:D->Option (D×D×D)
 | .tup [a,b,c]=>some (a,b,c)
 |_=>none
theorem C5 (i j l:Nat) (Δ':List Md) (st':D×D×D->Ds) {k:D×D×D->Option (Out α β)} (he:PX X Δ st e (.rg r) ra) (hr:r≠ .hb) (hg:PG X tg (gTup X.K 3 (gCons (gName i) (gCons (gName j) (gCons (gName l) gNil))))) (h: ∀d,Blk X E Δ' (st' d) rest (k d))
  (e1:((Δ.set i (mdR r)).set j (mdR r)).set l (mdR r)=Δ':=by rfl) (e2: ∀d:D×D×D,((st.set i (some d.1)).set j (some d.2.1)).set l (some d.2.2)=st' d:=by intro _;rfl) (hi:i<Δ.length:=by exact Nat.le_of_ble_eq_true rfl) (hj:j<Δ.length:=by exact Nat.le_of_ble_eq_true rfl) (hl:l<Δ.length:=by exact Nat.le_of_ble_eq_true rfl)
  (hs1:swapsWithSole [tg] e pos.line X.env=pure false:=by rfl) (hw:swappedStores [tg] e X.env=pure none:=by rfl) (h1:(assignEach [tg] X.env).map (·.2)=[assign tg X.env]:=by rfl):
  Blk X E Δ st (.Assign [tg] e pos::rest) ((b1 D.pr3 ra).bind k):=by
 refine ia (pss_cons (ps_asg he hg hs1 hw h1) (fR h)) fun De σ H ⟨O,G,qq,rel,er,kk⟩=> ?_
 obtain⟨p,e3,e4⟩:=bind1 er
 obtain⟨x,e5,e6⟩:=bind1 e3
 refine rdE.go rel e5 fun v H1 G1 rel1 x1 v1=> ?_
 have hp:x= .tup [p.1,p.2.1,p.2.2]:=by
  match x,e6 with
  | .tup [a,b,c],e6=>cases e6;rfl
 subst hp
 have v1:Rep X.K (rgn O G1 r) H1 (.tup [p.1,p.2.1,p.2.2]) v:=v1
 unfold Rep at v1
 obtain⟨a,vs,rfl,t,rr⟩:=v1
 unfold aD at rr
 obtain⟨u,vs0,rfl,r1,rr⟩:=rr
 unfold aD at rr
 obtain⟨w,vs1,rfl,r2,rr⟩:=rr
 unfold aD at rr
 obtain⟨z,vs2,rfl,r3,rr⟩:=rr
 unfold aD at rr
 subst rr
 refine⟨a,[u,w,z],rfl,t.sq,rfl,u,[w,z],rfl,w,[z],rfl,z,[],rfl,rfl,p,O,G1,qq,?_,e4,kk⟩
 rw[<-e1,←e2]
 exact vD hr (vD hr (vD hr rel1 hi r1) (by simpa using hj) r2) (by simpa using hl) r3
end
section
variable {X:Cx} {Δ:List Md} {st:Ds} {a b c d e:Expr} {pos:Pos}
theorem IQ {x1:Nat} {ra rb rc rd re:Option D} (h:PAx X Δ st [a,b,c,d,e] [.rg .fz,.rg .fz,.rg .fz,.rg .fz,.rg .fz] (aj ra (aj rb (aj rc (aj rd (aj re aN)))))):PX X Δ st (.Tuple [a,b,c,d,e] x1 pos) (.rg .fz) (tupO (aj ra (aj rb (aj rc (aj rd (aj re aN)))))):=Fj h Lf (by simp) fun ds e=>by
 obtain⟨x,y,e1,e2,e3⟩:=cj e
 obtain⟨z,w,e4,e5,e6⟩:=cj e2
 obtain⟨u,v,e7,e8,e9⟩:=cj e5
 obtain⟨p,q,f1,f2,f3⟩:=cj e8
 obtain⟨g,h,g1,g2,g3⟩:=cj f2
 cases g2;cases g3;cases f3;cases e9;cases e6;cases e3;simp
end
def SaysX (fa:List He.Fa) (fn:List He.DefD) (tp:List (Str×List Str)) (K:PySem.W.Frag):Prop:=He.SaysD fa fn K/\(tp.all fun p=>Kq K p.1 p.2)=true
theorem SaysX.tup {fa:List He.Fa} {fn:List He.DefD} {tp:List (Str×List Str)} {K:PySem.W.Frag} (c:SaysX fa fn tp K) (i:Nat) {x:Str} {zs:List Str} (h:tp[i]? =some (x,zs):=by rfl):Kq K x zs=true:=List.all_eq_true.mp c.2 _ (List.mem_of_getElem? h)
end Sw
namespace Sw
open PySem PySem.Spec PyProof.Rows L2
variable [NmC]
section
variable {α β γ:Type} {X:Cx} {E:Exits α β} {Δ:List Md} {st:Ds} {rest body:List Stmt} {a b c e o:Expr} {es:List Expr} {pos apos cpos:Pos} {r rg:Rg} {m ma mb mc:VM} {ra rb rc:Option D}
theorem p7:OpR X (binaryOp .Mult) (fun x y H Q=> ∃(a:Str) (i:Int),x= .str a/\y= .int i/\MulOk a i/\Q (.str (Txt.mul a i)) H):=by
 intro pins s σ H x y v u Q I rx ry h
 obtain⟨a,i,rfl,rfl,ok,q⟩:=h
 obtain⟨t,rfl⟩:=rx
 obtain⟨t',rfl⟩:=ry
 exact SB.mul ok fun t2 k=>⟨.str _,H,I.tok _,⟨_,rfl⟩,q⟩
noncomputable def D.dP (x y:D):Option D:=match x,y with
 | .str a,.int i=>cif (MulOk a i) (.str (Txt.mul a i))
 |_,_=>none
theorem s6:Op2 X (fun x y H Q=> ∃(a:Str) (i:Int),x= .str a/\y= .int i/\MulOk a i/\Q (.str (Txt.mul a i)) H) (.rg r) (.rg r') (.rg rg) D.dP:=fun O H0 H G x y v w d Q e hx hy _ k=>by
 cases x <;> first|(cases e;done)|skip
 cases y <;> first|(cases e;done)|skip
 rename_i a i
 obtain⟨ok,rfl⟩:=o7 (show cif (MulOk a i) (D.str (Txt.mul a i))=some d from e)
 exact⟨a,i,hx.str,hy.int,ok,k _ H G .refl qM⟩
theorem FX {K:Frg} {O:Org} {σ:CS} {H:Hp} {G:Sa} {i:Nat} {md:Md} {d:D} (rel:Rel K O Δ st σ H G) (hm:Δ[i]? =some md) (hd:st[i]? =some (some d)): ∃v,σ[i]? =some (some v)/\Rep K (fun _=>True) H d v:=by
 obtain⟨L,g,s⟩:=rel
 obtain⟨x',y',L1,L2,ex,ey,sr,pm,_⟩:=s.split hm
 rw[hd] at ex;cases ex
 cases md with
 |bo=>obtain⟨v,e1,r1,_⟩:=sr;subst e1;exact⟨v,ey,Rep.mono (fun _ _=>trivial) aB _ _ r1⟩
 |fz=>obtain⟨v,e1,r1,_⟩:=sr;subst e1;exact⟨v,ey,Rep.mono (fun _ _=>trivial) aB _ _ r1⟩
 |ow s=>obtain⟨v,e1,r1⟩:=sr;subst e1;exact⟨v,ey,Rep.mono (fun _ _=>trivial) aB _ _ (Own.rep _ _ _ _ r1)⟩
 |pn v s=>obtain⟨e1,r1⟩:=sr;subst e1;exact⟨v,ey,Rep.mono (fun _ _=>trivial) aB _ _ (Own.rep _ _ _ _ r1)⟩
 |bl=>obtain⟨v,e1,r1,_⟩:=sr;subst e1;exact⟨v,ey,r1.rep⟩
theorem IS (i:Nat) (Δ':List Md) (st':D->Ds) {op:Operator} {fI:Int->Int->Int} {fD:D->D->Option D} (hip:PIp X op (ipI fI)) (hfD: ∀x y d,fD x y=some d-> ∃p q,x= .int p/\y= .int q/\d= .int (fI p q)) {x:Str} {p':Pos} {md:Md} {d0:D} {k:D->Option (Out α β)} (he:PX X Δ st e (.rg r) ra) (h: ∀d,Blk X E Δ' (st' d) rest (k d)) (hx:Loc X.env.scope x) (hnd:X.N.Nodup) (hm:Δ[i]? =some md:=by rfl) (hd:st[i]? =some (some d0):=by rfl) (e1:Δ.set i .fz=Δ':=by rfl) (e2: ∀d,st.set i (some d)=st' d:=by intro _;rfl) (hi:i<Δ.length:=by exact Nat.le_of_ble_eq_true rfl) (hN:X.N[i]? =some x:=by rfl)
  (hf:X.fn x=true\/X.env.scope.names.lookup x=some .local:=by first|exact .inl rfl|exact .inr rfl|assumption):
  Blk X E Δ st (.AugAssign (.Name x p') op e pos::rest) ((b2 fD (some d0) ra).bind k):=
 ia (pss_cons (ps_aug hnd hN hx he hip hf) (fR h)) fun De σ H ⟨O,G,qq,rel,er,kk⟩=>by
  obtain⟨d,e3,e4⟩:=bind1 er
  obtain⟨y,z,e5,e6,e7⟩:=cj e3
  cases e5
  obtain⟨p,q,rfl,rfl,rfl⟩:=hfD _ _ _ e7
  obtain⟨v,ev,rv⟩:=FX rel hm hd
  unfold Rep at rv
  subst rv
  refine⟨_,ev,rdE.go rel e6 fun u H1 G1 rel1 x1 v1=>⟨p,q,rfl,v1.int,.int (fI p q),O,G1,qq,?_,e4,kk⟩⟩
  rw[<-e1,←e2]
  exact rel1.qm (m:=.rg .fz) .refl hi rfl iN
theorem Ly (x y d:D) (h:D.bT x y=some d): ∃p q,x= .int p/\y= .int q/\d= .int (p+q):=by
 cases x <;> cases y <;> first|(cases h;done)|(cases h;exact⟨_,_,rfl,rfl,rfl⟩)
end
end Sw
namespace Sw
open PySem PySem.Spec PyProof.Rows L2
variable [NmC]
section
variable {prog:Program} {w:World} {A:Around} {E:Value->Shared->Prop} {s:Shared} {K:Type} [DecidableEq K] {knd:KeyKind prog w K}
theorem FY {a b:Addr} {ka kb:List (K×Value)} {r:Bool} {Q:Value->Shared->Prop} (ha:(a==sysModules)=false) (hb:(b==sysModules)=false) (da:s.heap.DictOf knd a ka) (db:s.heap.DictOf knd b kb) (hu:A.units<cLine)
  (hits:ka.length=kb.length->PySem.W.KeqHitsP prog w A.in1 s kb ka r) (h:Q (.bool (!(ka.length==kb.length&&r))) s):wpAny (model prog w) A (compareOp .NotEq (.ref a) (.ref b)) Q E s:=by
 refine wpAny_richCompare_same_room (op:=.NotEq) da.typeIs db.typeIs PySem.F.slot_dict_ne (wpAny_call_entry PySem.F.slot_dict_ne da.typeIs PySem.F.entry_dict_ne ?_ (PySem.F.args_dict_ne_2 _ _)) hu
 show wpAny _ _ (Builtin.Dict.dictSlotArgs "__ne__" ⟨[.ref a,.ref b],[]⟩ >>= _) _ _ s
 refine wpAny_bind ?_
 unfold Builtin.Dict.dictSlotArgs
 refine wpAny_bind (wpAny_notOrdered_dict da.typeIs ?_)
 show wpAny _ _ (pure (Value.ref a,Value.ref b)) _ _ s
 refine wpAny_pure ?_
 refine wpAny_bind (wpAny_isInstance (T:="dict") db.typeIs PySem.F.sub_dict_dict ?_)
 simp only[Bool.not_true,Bool.false_eq_true,if_false]
 refine wpAny_bind (wpAny_pure (wpAny_bind (wpAny_pure ?_)))
 refine wpAny_bind (PySem.W.samePairsP ha hb da db hits ?_)
 refine wpAny_pure ⟨_,rfl,?_,?_⟩
 ·exact fun x=>nomatch x
 ·simpa using h
end
def EqI (H:Hp) (x y:V):Prop:= ∃a b ks ls,x= .ref a/\y= .ref b/\Rd H a (.dK ks)/\Rd H b (.dK ls)/\ks.length=ls.length/\ ∀p∈ks,∃u,valV ls p.1=some u/\(p.2=u/\flatB p.2=true)
theorem IT {X:Cx} {pins:List (Addr×Obj)} {σ:CS} {H:Hp} {s:Shared} (I:Inv X pins σ H s) {A:Around} (hu:A.units<cLine) {x y:V} {v u:Value} (h:EqI H x y) (rx:L2.RelV x v) (ry:L2.RelV y u):SeqAt.EqP X.prog X.w A s v u true:=by
 obtain⟨a,b,ks,ls,rfl,rfl,ha,hb,hl,hp⟩:=h
 cases (show v=Value.ref a from rx)
 cases (show u=Value.ref b from ry)
 by_cases e:a=b
 ·subst e
  exact (SeqAt.EqAt.same _).eqP
 ·obtain⟨_,ya,va,ra,da⟩:=dk_rd I.hok ha
  obtain⟨_,yb,vb,rb,db⟩:=dk_rd I.hok hb
  refine SeqAt.eqP_refs e fun E Q q=>PySem.W.rcP_dicts (knd:=mixKind X.prog X.w) (r:=true) ya yb da db hu (fun _=>hits_run (F:=fun x y=>x=y/\flatB x=true) (fun x y v u h rx ry=> ?_) rb ra hp) E Q ?_
  ·obtain⟨rfl,f⟩:=h
   exact (eqAt_same rx ry f).eqP
  ·have e:va.length=vb.length:=by rw[<-ra.length,←rb.length];exact hl
   rw[show (va.length==vb.length&&true)=true from by rw[e];simp]
   exact q
def Kr (c:Bool):R2:=fun x y H Q=> ∃a b ks ls,x= .ref a/\y= .ref b/\Rd H a (.dK ks)/\Rd H b (.dK ls)/\ks.length=ls.length/\(∀p∈ks,∃u,valV ls p.1=some u/\EqI H p.2 u)/\Q (.bl c) H
theorem C6 {X:Cx} (hu:X.A.units+1<cLine):OpR X (compareOp .NotEq) (Kr false):=by
 intro pins s σ H x y v u Q I rx ry h
 obtain⟨a,b,ks,ls,rfl,rfl,ea,eb,hlen,hp,q⟩:=h
 obtain rfl:v=Value.ref a:=rx
 obtain rfl:u=Value.ref b:=ry
 obtain⟨_,ya,va,ra,da⟩:=dk_rd I.hok ea
 obtain⟨_,yb,vb,rb,db⟩:=dk_rd I.hok eb
 have e:va.length=vb.length:=by rw[<-ra.length,←rb.length];exact hlen
 exact FY (knd:=mixKind X.prog X.w) (r:=true) ya yb da db (Nat.lt_of_succ_lt hu) (fun _=>hits_run (F:=EqI H) (fun x y v u h rx ry=>IT I (A:=X.A.in1) (by show X.A.units+1<cLine;exact hu) h rx ry) rb ra hp) (by
  rw[show (va.length==vb.length&&true)=true from by rw[e];simp]
  exact⟨.bl false,H,I,rfl,q⟩)
def vE (ks ls:List (Key×D)):Bool:=decide (ks.length=ls.length)&&ks.all fun p=>match aC ls p.1,p.2 with
 |some (.dct b),.dct a=>xT a b
 |_,_=>false
def D.IU (c:Bool) (x y:D):Option Bool:=match x,y with
 | .dct ks,.dct ls=>if vE ks ls=true then some c else none
 |_,_=>none
theorem FZ {X:Cx} {m1 m2:VM} {rg:Rg} {c:Bool}:Op2 X (Kr c) m1 m2 (.rg rg) (blD (D.IU c)):=fun O H0 H G x y v w d Q e hx hy _ k=>by
 obtain⟨b,e1,rfl⟩:=iO e
 obtain⟨ks,rfl⟩: ∃ks,x= .dct ks:=by cases x <;> first|exact⟨_,rfl⟩|cases e1
 obtain⟨ls,rfl⟩: ∃ls,y= .dct ls:=by cases y <;> first|exact⟨_,rfl⟩|cases e1
 obtain⟨q,rfl⟩:=aH (show (if vE ks ls=true then some c else none)=some b from e1)
 have hx:=hx.hb
 have hy:=hy.hb
 unfold Rep at hx hy
 obtain⟨a,kvs,rfl,_,rd,_,rk⟩:=hx
 obtain⟨a',lvs,rfl,_,rd',_,rk'⟩:=hy
 unfold vE at q
 rw[Bool.and_eq_true,decide_eq_true_eq,List.all_eq_true] at q
 refine⟨a,a',kvs,lvs,rfl,rfl,rd,rd',by rw[rk.length,rk'.length];exact q.1,fun p hp=> ?_,k _ H G .refl l5⟩
 obtain⟨i,hi⟩:=List.getElem?_of_mem hp
 obtain⟨z,e2,rz⟩:=rk.at (k:=p.1) (v:=p.2) hi
 have this:=q.2 (p.1,z) (List.mem_of_getElem? e2)
 cases e3:aC ls p.1 with
 |none=>simp[e3] at this
 |some dl=>
  obtain⟨u,eu,ru⟩:=(rk'.get p.1).1 dl e3
  refine⟨u,eu,?_⟩
  cases dl <;> first|(simp[e3] at this;done)|skip
  cases z <;> first|(simp[e3] at this;done)|skip
  rename_i lb la
  have this:xT la lb=true:=by simpa [e3] using this
  unfold Rep at rz ru
  obtain⟨a2,kvs2,ep2,_,rd2,_,rk2⟩:=rz
  obtain⟨a3,lvs2,eu2,_,rd3,_,rk3⟩:=ru
  unfold xT at this
  rw[Bool.and_eq_true,decide_eq_true_eq,List.all_eq_true] at this
  refine⟨a2,a3,kvs2,lvs2,ep2,eu2,rd2,rd3,by rw[rk2.length,rk3.length];exact this.1,fun p' hp'=> ?_⟩
  obtain⟨i',hi'⟩:=List.getElem?_of_mem hp'
  obtain⟨z',e2',rz'⟩:=rk2.at (k:=p'.1) (v:=p'.2) hi'
  have th:=this.2 (p'.1,z') (List.mem_of_getElem? e2')
  cases e4:aC lb p'.1 with
  |none=>rw[e4] at th;simp at th
  |some dl'=>
   rw[e4] at th
   cases e5:dl'.toV with
   |none=>simp[e5] at th
   |some av=>
    cases e6:z'.toV with
    |none=>simp[e5,e6] at th
    |some bv=>
     simp[e5,e6] at th
     obtain⟨h1,h2⟩:=th
     subst h1
     obtain⟨u',eu',ru'⟩:=(rk3.get p'.1).1 dl' e4
     refine⟨u',eu',?_,?_⟩
     ·rw[Rep.toV e6 rz',Rep.toV e5 ru']
     ·rw[Rep.toV e6 rz'];exact h2
end Sw
namespace Sw
open PySem PySem.Spec PyProof.Rows L2
variable [NmC]
section
variable {α β γ:Type}
theorem Em {A B:Type} {o:Option A} {f:A->B} {b:B} (h:o.map f=some b): ∃a,o=some a/\f a=b:=by
 cases o with
 |none=>cases h
 |some a=>exact⟨a,rfl,Option.some.inj h⟩
variable {X:Cx} {E:Exits α β} {Δ Dl:List Md} {st:Ds} {rest body:List Stmt} {pos p p1:Pos} {x y:Str} {i j:Nat} {md mi:Md} {s:Sh}
end
end Sw
namespace Sw
open PySem PySem.Spec PyProof.Rows L2
variable [NmC]
theorem F0 {m:Nat} (h1: ∀j,j<=m-> ∃a,a<=m/\lcgN m a=j) (h2:lcgN m (m+1)=0) {i j:Nat} (hi:i<=m) (hj:j<=m): ∃k,k<=m/\lcgI m i k=j:=by
 have per: ∀k,lcgN m (m+1+k)=lcgN m k:=fun k=>by
  induction k with
  |zero=>exact h2
  |succ k ih=>
   show (lcgN m (m+1+k)*5+1)%(m+1)=(lcgN m k*5+1)%(m+1)
   rw[ih]
 obtain⟨u,hu,eu⟩:=h1 i hi
 obtain⟨v,hv,ev⟩:=h1 j hj
 subst eu
 by_cases c:u<=v
 ·refine⟨v -u,by omega,?_⟩
  rw[lcgN_add,show u+(v -u)=v by omega,ev]
 ·refine⟨m+1+v -u,by omega,?_⟩
  rw[lcgN_add,show u+(m+1+v -u)=m+1+v by omega,per,ev]
theorem C7 {n:Nat} (h:((List.range (n+1)).all fun j=>(List.range (n+1)).any fun b=>lcgN n b==j)=true): ∀j,j<=n-> ∃a,a<=n/\lcgN n a=j:=fun j hj=>by
 rw[List.all_eq_true] at h
 have g:=h j (List.mem_range.mpr (by omega))
 rw[List.any_eq_true] at g
 obtain⟨b,hb,e⟩:=g
 exact⟨b,by have:=List.mem_range.mp hb;omega,by simpa using e⟩
def F3 (m:Nat):Prop:=m=7\/m=15\/m=31\/m=63\/m=127
theorem cyc {m:Nat} (hm:F3 m) {i j:Nat} (hi:i<=m) (hj:j<=m): ∃k,k<=m/\lcgI m i k=j:=by
 rcases hm with e|e|e|e|e <;> subst e
 ·exact lcgI_all (.inl rfl) hi hj
 ·exact F0 (C7 (by decide+kernel)) (by decide+kernel) hi hj
 ·exact lcgI_all (.inr (.inl rfl)) hi hj
 ·exact F0 (C7 (by decide+kernel)) (by decide+kernel) hi hj
 ·exact lcgI_all (.inr (.inr rfl)) hi hj
theorem LA {m:Nat} (hm:F3 m) (h:Int) {j:Nat} (hj:j<=m): ∃n,n<SetTable.turns m/\runI m (SetTable.bits h) n=j:=by
 obtain⟨k,hk,e⟩:=cyc hm (runI_le m (SetTable.bits h) 12) hj
 refine⟨12+k,?_,?_⟩
 ·unfold SetTable.turns;omega
 ·rw[runI_tail (bits_lt h),e]
theorem Ax (m:Nat) (owner:Array (Option Nat)): ∀(f n i b:Nat),n<f->oAt owner (itL m i b n).1=none-> ∃j,SetTable.layClean.free m owner f i b=some j/\oAt owner j=none
 |0,n,i,b,hn,_=>by omega
 |f+1,n,i,b,hn,hx=>by
  rw[free_succ]
  cases e:(List.range (SetTable.runEnd m i+1 -i)).find? fun k=>(oAt owner (i+k)).isNone with
  |some k=>
   refine⟨i+k,rfl,?_⟩
   have:=List.find?_some e
   simpa using this
  |none=>
   cases n with
   |zero=>
    exfalso
    have h0:0∈List.range (SetTable.runEnd m i+1 -i):=List.mem_range.mpr (by have:=runEnd_ge m i;omega)
    have:=List.find?_eq_none.mp e 0 h0
    apply this
    show (oAt owner (i+0)).isNone=true
    rw[Nat.add_zero,show oAt owner i=none from hx];rfl
   |succ n=>
    exact Ax m owner f n _ _ (by omega) hx
structure F4 (m:Nat) (n:Nat) (owner:Array (Option Nat)) (ps:List Nat):Prop where
 sz:owner.size=m+1
 nd:ps.Nodup
 len:ps.length=n
 tk: ∀j,j∈ps↔j<=m/\oAt owner j≠none
 lt: ∀j k,j<=m->oAt owner j=some k->k<n
 all: ∀k,k<n-> ∃j,j<=m/\oAt owner j=some k
theorem F4.zero (m:Nat):F4 m 0 (Array.replicate (m+1) none) [] where
 sz:=by simp
 nd:=List.nodup_nil
 len:=rfl
 tk:=fun j=>⟨fun h=>(by cases h),fun⟨h,g⟩=>absurd (oAt_init h) g⟩
 lt:=fun j k h e=>by rw[oAt_init h] at e;cases e
 all:=fun k h=>by omega
theorem LB {m:Nat} {owner:Array (Option Nat)} (hs:owner.size=m+1) {j:Nat} (h:oAt owner j=none):j<=m:=by
 by_cases c:j<owner.size
 ·omega
 ·exfalso
  have:owner.getD j (some 0)=some 0:=by simp[Array.getD,c]
  rw[show owner.getD j (some 0)=none from h] at this
  cases this
theorem F4.next {m n:Nat} {owner:Array (Option Nat)} {ps:List Nat} (hm:F3 m) (S:F4 m n owner ps) (hn:n<=m) (h:Int):
  ∃j,SetTable.layClean.free m owner (SetTable.turns m) (SetTable.bits h%(m+1)) (SetTable.bits h)=some j/\ ∃ps',F4 m (n+1) (owner.setIfInBounds j (some n)) ps':=by
 obtain⟨q,hq,hnq⟩:=st_missing ps (m+1) (by rw[S.len];omega)
 have fq:oAt owner q=none:=by
  cases e:oAt owner q with
  |none=>rfl
  |some k=>exact absurd ((S.tk q).mpr ⟨by omega,by rw[e];exact fun z=>nomatch z⟩) hnq
 obtain⟨r,hr,er⟩:=LA hm h (j:=q) (by omega)
 have ei:(itL m (SetTable.bits h%(m+1)) (SetTable.bits h) r).1=q:=by rw[itL_run];exact er
 obtain⟨j,e1,e2⟩:=Ax m owner (SetTable.turns m) r _ _ hr (by rw[ei];exact fq)
 have hj:=LB S.sz e2
 have hjs:j<owner.size:=by rw[S.sz];omega
 have hnj:j∉ps:=fun z=>((S.tk j).mp z).2 e2
 refine⟨j,e1,j::ps,?_⟩
 exact {
  sz:=by rw[Array.size_setIfInBounds];exact S.sz
  nd:=List.nodup_cons.mpr ⟨hnj,S.nd⟩
  len:=by rw[List.length_cons,S.len]
  tk:=fun i=>by
   by_cases c:i=j
   ·subst c
    rw[oAt_set_self _ hjs]
    simp[hj]
   ·rw[oAt_set_ne _ c,List.mem_cons,S.tk i]
    exact⟨fun z=>z.resolve_left c,.inr⟩
  lt:=fun i k hi e=>by
   by_cases c:i=j
   ·subst c
    rw[oAt_set_self _ hjs] at e
    cases e;omega
   ·rw[oAt_set_ne _ c] at e
    have:=S.lt i k hi e;omega
  all:=fun k hk=>by
   by_cases c:k=n
   ·subst c
    exact⟨j,hj,oAt_set_self _ hjs⟩
   ·obtain⟨i,hi,e⟩:=S.all k (by omega)
    refine⟨i,hi,?_⟩
    rw[oAt_set_ne _ (fun z=>by rw[z,e2] at e;cases e)];exact e}
end Sw
namespace Sw
open PySem PySem.Spec PyProof.Rows L2
variable [NmC]
def IV (e:Int×Value):Str:=match e.2 with
 | .str x _=>x
 |_=>""
def LD (w:World) (e:Int×Value):Prop:= ∃x tk,e.2=Value.str x tk/\e.1=keyH w (.inr x)
structure wZ (w:World) (h:Heap) (a:Addr) (es:Array (Int×Value)) (ep:Nat) (t:SetTable) (ks:List Str):Prop where
 ob: ∃o,h.get? a=some o/\o.ExactSet/\o.data= .set es ep t
 rows: ∀e∈es.toList,LD w e
 keys:(es.toList.map IV).Perm ks
 nd:ks.Nodup
 few:ks.length<1000
 fits:t.fits es.size=true
 ris:Ris t.place.toList
 led:w.params.followText "set-order" =true\/t.led=true
section
variable {P:Program} {w:World} {A:Around} {E:Value->Shared->Prop} {s:Shared} {a:Addr} {es:Array (Int×Value)} {ep:Nat} {t:SetTable} {ks:List Str}
theorem wZ.size {h:Heap} (R:wZ w h a es ep t ks):es.size=ks.length:=by
 rw[<-R.keys.length_eq,List.length_map,Array.length_toList]
theorem wZ.lt {h:Heap} (R:wZ w h a es ep t ks):es.size<scanBound:=by
 rw[R.size];have:=R.few;unfold scanBound;omega
theorem LD.is {e:Int×Value} (h:LD w e) (x:Str):(mixKind P w).is (.inr x) e.2=true↔IV e=x:=by
 obtain⟨y,tk,h1,_⟩:=h
 have hy:(mixKind P w).is (.inr y) e.2=true:=by rw[h1];exact mixKind_str P w y tk
 have er:IV e=y:=by unfold IV;rw[h1]
 rw[er]
 constructor
 ·intro q
  have:=(mixKind P w).inj e.2 _ _ q hy
  exact (Sum.inr.inj this).symm
 ·rintro rfl;exact hy
theorem wZ.at {h h':Heap} (R:wZ w h a es ep t ks) (k: ∀o,h.get? a=some o->h'.get? a=some o):wZ w h' a es ep t ks:=by
 obtain⟨⟨o,ho,r⟩,r2,r3,r4,r5,r6,r7,r8⟩:=R
 exact⟨⟨o,k o ho,r⟩,r2,r3,r4,r5,r6,r7,r8⟩
end
end Sw
namespace Sw
open PySem PySem.Spec PyProof.Rows L2
variable [NmC]
section
variable {P:Program} {w:World} {A:Around} {E:Value->Shared->Prop} {s:Shared} {a b:Addr} {es eo:Array (Int×Value)} {ep epo:Nat} {t to:SetTable} {ks js:List Str}
theorem wZ.other {h h':Heap} (R:wZ w h b eo epo to js) (hne:b≠a) (sb:Heap.SameBut a h h'):wZ w h' b eo epo to js:=R.at fun o e=>(sb.2 b hne).trans e
end
end Sw
namespace Sw
open PySem PySem.Spec PyProof.Rows L2
variable [NmC]
section
variable {K:Frg} {S:Sa} {H:Hp}
def F5 (H:Hp) (T:Sa) (L:List Addr):List (Str×List Str)->List V->Prop
 | [],vs=>vs=[]
 |p::ps,vs=> ∃t b r,vs= .ref t::r/\T t/\H t=some (.tup [.str p.1,.ref b])/\b∈L/\H b=some (.lst (p.2.map V.str))/\F5 H T L ps r
theorem F5.more {T:Sa} {L L':List Addr} (s: ∀p∈L,p∈L'): ∀{ps:List (Str×List Str)} {vs:List V},F5 H T L ps vs->F5 H T L' ps vs
 | [],_,h=>h
 |p::ps,_,⟨t,b,r,e,h1,h2,h3,h4,h5⟩=>⟨t,b,r,e,h1,h2,s b h3,h4,F5.more s h5⟩
end
end Sw
namespace Sw
open PySem PySem.Spec PyProof.Rows L2
variable [NmC]
section
variable {P:Program} {w:World} {A:Around} {E:Value->Shared->Prop} {s:Shared} {a:Addr}
structure Same (ls xs:List Str):Prop where
 nd:ls.Nodup
 mem: ∀z,z∈ls↔z∈xs
end
theorem Same.len {ls ms xs:List Str} (h:Same ls xs) (g:Same ms xs):ls.length=ms.length:=
 ((List.perm_ext_iff_of_nodup h.nd g.nd).mpr fun z=>(h.mem z).trans (g.mem z).symm).length_eq
end Sw
namespace Sw
open PySem PySem.Spec PyProof.Rows L2
variable [NmC]
section
variable {K:Frg} {S G G' B B':Sa} {H H':Hp}
theorem gV.get (f:Str): ∀{ds:List (Str×D)} {vs:List (Str×V)},gV K S H ds vs->(∀d,ds.lookup f=some d-> ∃v,vs.lookup f=some v/\Rep K S H d v)/\(ds.lookup f=none->vs.lookup f=none)
 | [],_,h=>by
  unfold gV at h
  rw[h]
  exact⟨fun d e=>(nomatch e),fun _=>rfl⟩
 |(g,d)::ds,_,h=>by
  unfold gV at h
  obtain⟨v,r,rfl,h1,h2⟩:=h
  have ih:=gV.get f h2
  cases hb:(f==g) with
  |true=>
   simp only[List.lookup_cons,hb]
   exact⟨fun d' e=>⟨v,rfl,(Option.some.inj e)▸h1⟩,fun e=>nomatch e⟩
  |false=>
   simp only[List.lookup_cons,hb]
   exact ih
theorem Rep.ins {C:Str} {fs:List (Str×D)} {v:V} (h:Rep K S H (.ins C fs) v): ∃a dx vs,v= .ref a/\H a=some (.ins (He.ga K C) dx vs)/\gV K S H fs vs:=by
 unfold Rep at h
 obtain⟨a,dx,vs,e,_,ha,r⟩:=h
 exact⟨a,dx,vs,e,ha,r⟩
end
def D.fld (C f:Str) (x:D):Option D:=match x with
 | .ins C' fs=>if C'=C then fs.lookup f else none
 |_=>none
def Nl (m:Str) (tbl:List (Str×(List D->Option FR))) (ds:List D):Option FR:=match ds with
 | .ins C fs::r=>if (fs.lookup m).isNone=true then (tbl.lookup C).bind fun F=>F (.ins C fs::r) else none
 |_=>none
structure Mth (P:Program) (w:World) (K:Frg) (mg:Str->Option Value) (base:Heap) (k:Nat) (m:Str) (ps:List Str) (ms:List PM) (rm:VM) (Fs:List D->Option FR):Prop where
 at_: ∀ds fr,Fs ds=some fr-> ∃(C:Str) (fs:List (Str×D)) (r:List D) (f:Addr) (fd:FuncData) (F:List D->Option FR),ds= .ins C fs::r/\fs.lookup m=none/\Cls K (He.ga K C)/\Meth K (He.ga K C) m f∧
  FnOk P w K mg base CX0 k f fd ps (FSp K ms rm F)/\Binds K fd ps []/\F ds=some fr
structure Pj (P:Program) (w:World) (K:Frg) (mg:Str->Option Value) (base:Heap) (k:Nat) (C m:Str) (ps:List Str) (ms:List PM) (rm:VM) (F:List D->Option FR):Prop where
 cl:Cls K (He.ga K C)
 ok: ∃(f:Addr) (fd:FuncData),Meth K (He.ga K C) m f/\FnOk P w K mg base CX0 k f fd ps (FSp K ms rm F)/\Binds K fd ps []
section
variable {P:Program} {w:World} {K:Frg} {mg:Str->Option Value} {base:Heap} {k k':Nat} {m:Str} {ps:List Str} {ms:List PM} {rm:VM} {tbl:List (Str×(List D->Option FR))}
theorem Mth.of (h: ∀q∈tbl,Pj P w K mg base k q.1 m ps ms rm q.2):Mth P w K mg base k m ps ms rm (Nl m tbl) where
 at_:=fun ds fr e=>by
  unfold Nl at e
  split at e
  ·rename_i C fs r
   split at e
   ·rename_i hn
    obtain⟨F,e1,e2⟩:=bind1 e
    have hin:(C,F)∈tbl:=by
     clear e h
     induction tbl with
     |nil=>cases e1
     |cons q t ih=>
      obtain⟨C',F'⟩:=q
      cases hb:(C==C') with
      |true=>
       simp only[List.lookup_cons,hb] at e1
       cases e1
       rw[beq_iff_eq] at hb
       subst hb
       exact List.mem_cons_self
      |false=>
       simp only[List.lookup_cons,hb] at e1
       exact List.mem_cons_of_mem _ (ih e1)
    obtain⟨c,f,fd,h1,h2,h3⟩:=h _ hin
    exact⟨C,fs,r,f,fd,F,rfl,by simpa using hn,c,h1,h2,h3,e2⟩
   ·cases e
  ·cases e
theorem Mth.none:Mth P w K mg base k m ps ms rm (fun _=>none):=⟨fun _ _ e=>nomatch e⟩
end
def FR.obj:FR->Option D
 | .ok .non [d]=>some d
 |_=>none
end Sw
namespace Sw
open PySem PySem.Spec PyProof.Rows L2
variable [NmC]
def Md.re:Md->Sh->Md
 | .ow _,s=>.ow s
 | .pn v _,s=>.pn v s
 |m,_=>m
def F6 (f:Str) (s:Sh):List (Str×Sh)->List (Str×Sh)
 | []=>[(f,s)]
 |(g,y)::r=>if g=f then (g,s)::r else (g,y)::F6 f s r
section
variable {K:Frg} {O:Org} {H H':Hp} {G G':Sa} {Δ:List Md} {st:Ds} {σ:CS} {i:Nat} {md:Md} {s s':Sh} {d d':D} {v0 v:V} {L Lv:List Addr}
theorem dJ.put {f:Str} {x:D} {w:V} {Lw:List Addr} (hx:Own K G' H' s' x w Lw) (hG: ∀p,G p->G' p) (ha:Agr G H H'): ∀{fs:List (Str×Sh)} {ds:List (Str×D)} {vs:List (Str×V)} {L:List Addr},(∀p∈L,H' p=H p)->dJ K G H fs ds vs L→
  ∃L' M,M.Sublist L/\L'.Perm (Lw++M)/\dJ K G' H' (F6 f s' fs) (sV f x ds) (putF f w vs) L'
 | [],ds,vs,L,_,o=>by
  unfold dJ at o
  obtain⟨rfl,rfl,rfl⟩:=o
  refine⟨Lw++[],[],List.Sublist.refl _,.refl _,?_⟩
  unfold F6 sV putF dJ
  refine⟨x,[],w,[],Lw,[],rfl,rfl,hx,?_,rfl⟩
  unfold dJ
  exact⟨rfl,rfl,rfl⟩
 |(g,s0)::fs,ds,vs,L,hl,o=>by
  unfold dJ at o
  obtain⟨d1,dr,v1,vr,L1,L2,rfl,rfl,o1,o2,rfl⟩:=o
  by_cases e:g=f
  ·refine⟨Lw++L2,L2,List.sublist_append_right _ _,.refl _,?_⟩
   unfold F6 sV putF
   rw[if_pos e,if_pos e,if_pos e]
   unfold dJ
   exact⟨x,dr,w,vr,Lw,L2,rfl,rfl,hx,dJ.mono hG ha fs dr vr L2 (fun p m=>hl p (List.mem_append_right _ m)) o2,rfl⟩
  ·obtain⟨L',M,sl,pm,o'⟩:=dJ.put (f:=f) hx hG ha (fun p m=>hl p (List.mem_append_right _ m)) o2
   refine⟨L1++L',L1++M,List.Sublist.append (List.Sublist.refl _) sl,(List.Perm.append_left L1 pm).trans (dM L1 Lw M),?_⟩
   unfold F6 sV putF
   rw[if_neg e,if_neg e,if_neg e]
   unfold dJ
   exact⟨d1,_,v1,_,L1,L',rfl,rfl,Own.mono hG ha s0 d1 v1 L1 (fun p m=>hl p (List.mem_append_left _ m)) o1,o',rfl⟩
end
end Sw
namespace Sw
open PySem PySem.Spec PyProof.Rows L2
variable [NmC]
def F7 (fa:List He.Fa) (fn:List He.DefD) (ex:Frg->Bool) (K:Frg):Prop:=He.SaysD fa fn K/\ex K=true
end Sw
namespace Sw
open PySem PySem.Spec PyProof.Rows L2
variable [NmC]
section
variable {P:Program} {w:World} {K:Frg} {mg:Str->Option Value} {base:Heap} {k k':Nat} {C C1 C2 m:Str} {ps:List Str} {ms:List PM} {rm:VM} {F F1 F2:List D->Option FR} {f:Addr} {fd:FuncData}
theorem F7.ex {fa:List He.Fa} {fn:List He.DefD} {xs:List (Frg->Bool)} (c:F7 fa fn (fun K=>xs.all fun f=>f K) K) (i:Nat) {g:Frg->Bool} (h:xs[i]? =some g:=by rfl):g K=true:=List.all_eq_true.mp c.2 _ (List.mem_of_getElem? h)
end
end Sw
namespace Sw
open PySem PySem.Spec PyProof.Rows L2
variable [NmC]
section
variable {α β:Type} {X:Cx} {E:Exits α β} {Δ:List Md} {st:Ds} {rest:List Stmt} {e tg a b c:Expr} {pos p:Pos} {r r2' r3 rg:Rg}
noncomputable def D.QC (xs:List D):Option (List D):=match xs with
 | [.int i,.int j,.int c]=>if (okR i&&okR j&&decide (c=2))=true then some ((List.range ((j -i+1)/2).toNat).map fun k:Nat=>D.int (i+(k:Nat)*2)) else none
 |_=>none
def D.Eo:D->Option D
 | .int i=>some (.int (if i<0 then -i else i))
 |_=>none
theorem LG:OpN X (fun xs H Q=> ∃i,xs=[.int i]/\Q (.int (if i<0 then -i else i)) H) [.rg r] (.rg rg) (un1 D.Eo):=fun O H0 H G xs vs d Q e hv gin k=>by
 obtain⟨x,rfl,e1⟩:=kd e
 obtain⟨v,rfl,h1⟩:=yC hv
 cases x <;> first|(cases e1;done)|skip
 rename_i t
 cases (show some (D.int (if t<0 then -t else t))=some d from e1)
 exact⟨t,by rw[h1.int],k _ H G .refl iN⟩
end
end Sw
namespace Sw
open PySem PySem.Spec PyProof.Rows L2
section
variable {X:Cx} {pins:List (Addr×Obj)} {σ:L2.St} {JH:Hp->Prop} {a q I S:Addr} {xs:List V} {kf:Nat->Int} {Q:VK}
structure MxI (X:Cx) (pins:List (Addr×Obj)) (σ:L2.St) (JH:Hp->Prop) (I S:Addr) (oI oS:Obj) (H:Hp) (s:Shared):Prop where
 inv:Inv X pins σ H s
 j:JH H
 fI:FpOk X pins H I
 fS:FpOk X pins H S
 gI:s.heap.get? I=some oI
 gS:s.heap.get? S=some oS
theorem MxI.turn {oI oS oI' oS':Obj} {H:Hp} {s:Shared} {h':Heap} {tk:Nat} (m:MxI X pins σ JH I S oI oS H s) (k: ∀b o,b∉[I,S]->s.heap.get? b=some o->h'.get? b=some o) (eI:h'.get? I=some oI') (eS:h'.get? S=some oS'):
  MxI X pins σ JH I S oI' oS' H {s with heap:=h',toks:=tk}:=
 ⟨m.inv.turnedL k (fun b hb=>by
  rcases List.mem_cons.mp hb with rfl|hb
  ·exact m.fI
  ·rw[List.mem_singleton.mp hb];exact m.fS),m.j,m.fI,m.fS,eI,eS⟩
theorem MxI.call {oI oS:Obj} {H:Hp} {s:Shared} {i:Nat} {v:Value} {E:Value->Shared->Prop} {P:Value->Shared->Prop} (m:MxI X pins σ JH I S oI oS H s) (nI: ∀v,oI.data≠ .cell v) (nS: ∀v,oS.data≠ .cell v)
  (turn: ∀(pins1:List (Addr×Obj)) (H1:Hp) (s1:Shared),(∀p∈pins,p∈pins1)->Inv X pins1 σ H1 s1->JH H1->wpAny (model X.prog X.w) X.A.in1 (PySem.call (.ref q) [v]) (EP X pins1 σ fun y H2=>y= .int (kf i)/\JH H2) (fun _ _=>False) s1)
  (h: ∀(t:Tok) (H2:Hp) (s2:Shared),MxI X pins σ JH I S oI oS H2 s2->P (.int (kf i) t) s2):
  wpAny (model X.prog X.w) X.A.in1 (PySem.call (.ref q) [v]) P E s:=by
 have J:=m.inv.pinned (fp:=[I,S]) (fun b hb=>by
  rcases List.mem_cons.mp hb with rfl|hb
  ·exact m.fI
  ·rw[List.mem_singleton.mp hb];exact m.fS) (fun b hb=>by
  rcases List.mem_cons.mp hb with rfl|hb
  ·exact⟨oI,m.gI,nI⟩
  ·rw[List.mem_singleton.mp hb];exact⟨oS,m.gS,nS⟩)
 refine wpAny_mono (turn _ H s (fun p hp=>List.mem_append_left _ hp) J m.j) (fun u s2 hq=> ?_) fun _ _ hF=>hF.elim
 obtain⟨y,H2,J2,r,e,j2⟩:=hq
 subst e
 obtain⟨t,rfl⟩:=r
 have pin: ∀b o,b∈[I,S]->s.heap.get? b=some o->s2.heap.get? b=some o/\H2 b=none:=fun b o hb e=>
  let z:=J2.pin (b,o) (List.mem_append_right _ (List.mem_append_right _ (mem_pinsAt hb e)))
  ⟨z.1,z.2.1⟩
 have pI:=pin I oI (by simp) m.gI
 have pS:=pin S oS (by simp) m.gS
 exact h t H2 s2 ⟨J2.unpinned,j2,⟨pI.2,m.fI.2⟩,⟨pS.2,m.fS.2⟩,pI.1,pS.1⟩
end
end Sw
namespace Sw
open PySem PySem.Spec PyProof.Rows L2
abbrev LF.nf (F:LF):NdefX.NF:=⟨"<lambda>",F.q,F.params,[],F.scope,F.cl,F.c⟩
theorem IW {P:Program} {w:World} {H:Hp} {h:Heap} {f:Addr} {F:LF} (ok:HOk P w H h) (e:H f=some (ql f F)): ∃pm ctv:Value,h.get? f=some (PySem.W.kla_obj "<lambda>" F.q F.params F.body F.scope F.cl pm F.c ctv):=(ok f _ e).1
section
variable {X:Cx} {pins:List (Addr×Obj)} {σ:L2.St} {H:Hp} {s:Shared}
theorem C9 {F:LF} {h':Heap} {tk:Nat} {pm ctv:Value} (I:L2.Inv X pins σ H {s with heap:=h',toks:=tk}):
  L2.Inv X pins σ (upd H h'.objs.size (ql h'.objs.size F)) {s with heap:=h'.push (PySem.W.kla_obj "<lambda>" F.q F.params F.body F.scope F.cl pm F.c ctv),toks:=tk}:=
 I.laid (t':=tk) (fun b u e=>Heap.get?_push_of_some _ e) (Nat.le_refl _) ⟨⟨pm,ctv,Heap.get?_push_size _ rfl⟩,⟨_,Heap.get?_push_size _ rfl⟩,fun h1 h2 ⟨a,b,e⟩ k=>⟨a,b,k _ e⟩⟩
theorem IX {T:List (Addr×Str)} {c P:Addr} {params:Arguments} {body:Expr} {scope:Scope} {pos:Pos} {E Qv:Value->Shared->Prop} (I:L2.Inv X pins σ H s) (TB:LamX.TabB X.base X.mg c P) (hcode:X.env.code= .ref c)
  (hm:(P,X.env.qual++"<lambda>")∈T) (hu: ∀p∈T,p.1=P->p.2=X.env.qual++"<lambda>") (hT:LamX.Tabs T H) (hdef:defaultsOf params X.env=([],[])) (hfree: ∀y∈scope.names,y.2= .free-> ∃c,X.env.cells.lookup y.1=some c)
  (h: ∀(f c':Addr) (H1:Hp) (s':Shared),L2.Inv X pins σ H1 s'->LamX.ExtN H H1->(∀b,H1 b=none->H b=none)->LamX.Tabs T H1->(∀b ps,H b=some (.tbl ps)-> ∃ps',H1 b=some (.tbl ps'))->H f=none->H1 f=some (ql f ⟨X.env.qual++"<lambda>",params,body,scope,cloFrom X.env.cells scope.names [],c'⟩)→
   H1 c'=some (LamX.CodeO c' (X.env.qual++"<lambda>"))->Qv (.ref f) s'):wpAny (model X.prog X.w) X.A (eval (.Lambda params body scope pos) X.env) Qv E s:=by
 obtain⟨ps,hP,tri,named⟩:=hT _ hm
 have atP:s.heap.get? P=some {cls:=.none,data:=.fields ps}:=I.hok P _ hP
 have built:s.heap.BuiltinsAt X.mg P:=TB.bm.keeps I.bk
 have back: ∀{H1:Hp} {a:Addr} {o:HO},(∀b,H1 b=none->H b=none)-> ∀b,upd H1 a o b=none->H b=none:=fun {H1 a o} k b e=>by
  by_cases z:b=a
  ·subst z;rw[upd_same] at e;cases e
  ·rw[upd_ne z] at e;exact k b e
 refine PySem.W.kla_eval hdef ?_
 cases hc:codeAmong pos ps.toList with
 |some cv=>
  obtain⟨c',rfl,hco⟩:=named pos cv hc
  refine PySem.W.kla_makeFunctionHit (mg:=X.mg) (c:=c) (P:=P) (ps:=ps) (closure_ok hfree) I.ok.glob (I.mod.glob.keeps I.bk) hcode (TB.code.keeps I.bk) atP tri hc built fun ctv h' tk hx hsz=> ?_
  have I1:L2.Inv X pins σ H {s with heap:=h',toks:=tk}:=I.kept fun b o e=>hx b o e
  have nf:H h'.objs.size=none:=I.hok.fresh hsz
  have kp: ∀b o,H b=some o->upd H h'.objs.size (ql h'.objs.size ⟨X.env.qual++"<lambda>",params,body,scope,cloFrom X.env.cells scope.names [],c'⟩) b=some o:=fun b o e=>by rw[upd_ne (ne_of_none e nf)];exact e
  exact h h'.objs.size c' _ _ (C9 (F:=⟨X.env.qual++"<lambda>",params,body,scope,cloFrom X.env.cells scope.names [],c'⟩) I1) (.of kp) (back fun _ e=>e) (hT.ext kp) (fun b ps e=>⟨ps,kp _ _ e⟩) nf upd_same (kp _ _ hco)
 |none=>
  refine PySem.W.kla_makeFunction (mg:=X.mg) (c:=c) (P:=P) (ps:=ps) (closure_ok hfree) I.ok.glob (I.mod.glob.keeps I.bk) hcode (TB.code.keeps I.bk) atP tri hc TB.gP built fun c' ctv h' tk hx hge hlt hrec htb=> ?_
  obtain⟨c2,oc,vs,t,e2,hoc,hd,hv⟩:=hrec
  cases e2
  have nC:H c'=none:=I.hok.fresh hge
  have I1:=LamX.inv_table (t':=tk) (more:= #[rawInt pos.line,rawInt pos.col,.ref c']) (h':=h') I hP (fun b o hb e=>hx b o hb e) htb hge ⟨oc,vs,t,hoc,hd,hv⟩
  have nf:upd (upd H P (.tbl (ps++ #[rawInt pos.line,rawInt pos.col,.ref c']))) c' (LamX.CodeO c' (X.env.qual++"<lambda>")) h'.objs.size=none:=I1.hok.fresh (Nat.le_refl _)
  have nf0:H h'.objs.size=none:=I.hok.fresh (Nat.le_trans hge (Nat.le_of_lt hlt))
  have I2:=C9 (F:=⟨X.env.qual++"<lambda>",params,body,scope,cloFrom X.env.cells scope.names [],c'⟩) (pm:=(X.mg "__name__").getD .none) (ctv:=ctv) I1
  have Pc:P≠c':=ne_of_none hP nC
  have cf:c'≠h'.objs.size:=fun z=>absurd (z▸hlt) (Nat.lt_irrefl _)
  have Pf:P≠h'.objs.size:=ne_of_none hP nf0
  have toList:(ps++ #[rawInt pos.line,rawInt pos.col,.ref c']).toList=ps.toList++[rawInt pos.line,rawInt pos.col,.ref c']:=by simp
  have kp: ∀b o,b≠P->H b=some o->upd (upd (upd H P (.tbl (ps++ #[rawInt pos.line,rawInt pos.col,.ref c']))) c' (LamX.CodeO c' (X.env.qual++"<lambda>"))) h'.objs.size (ql h'.objs.size ⟨X.env.qual++"<lambda>",params,body,scope,cloFrom X.env.cells scope.names [],c'⟩) b=some o:=fun b o hb e=>by
   rw[upd_ne (ne_of_none e nf0),upd_ne (ne_of_none e nC),upd_ne hb];exact e
  have gC:upd (upd (upd H P (.tbl (ps++ #[rawInt pos.line,rawInt pos.col,.ref c']))) c' (LamX.CodeO c' (X.env.qual++"<lambda>"))) h'.objs.size (ql h'.objs.size ⟨X.env.qual++"<lambda>",params,body,scope,cloFrom X.env.cells scope.names [],c'⟩) c'=some (LamX.CodeO c' (X.env.qual++"<lambda>")):=by rw[upd_ne cf,upd_same]
  have gP:upd (upd (upd H P (.tbl (ps++ #[rawInt pos.line,rawInt pos.col,.ref c']))) c' (LamX.CodeO c' (X.env.qual++"<lambda>"))) h'.objs.size (ql h'.objs.size ⟨X.env.qual++"<lambda>",params,body,scope,cloFrom X.env.cells scope.names [],c'⟩) P=some (.tbl (ps++ #[rawInt pos.line,rawInt pos.col,.ref c'])):=by rw[upd_ne Pf,upd_ne Pc,upd_same]
  have ex:LamX.ExtN H (upd (upd (upd H P (.tbl (ps++ #[rawInt pos.line,rawInt pos.col,.ref c']))) c' (LamX.CodeO c' (X.env.qual++"<lambda>"))) h'.objs.size (ql h'.objs.size ⟨X.env.qual++"<lambda>",params,body,scope,cloFrom X.env.cells scope.names [],c'⟩)):=fun b o e n=>
   kp b o (fun z=>n ps (Option.some.inj (e.symm.trans (by rw[z];exact hP)))) e
  refine h h'.objs.size c' _ _ I2 ex (back (back (back fun _ e=>e))) (fun p hp=> ?_) (fun b bs e=> ?_) nf0 upd_same gC
  ·by_cases hb:p.1=P
   ·rw[hu p hp hb,hb]
    refine⟨_,gP,by rw[toList];exact PySem.TriplesOk_snoc _ _ _ _ tri,fun p' cv hcv=> ?_⟩
    rw[toList] at hcv
    rcases LamX.among_app _ tri hcv with z|z
    ·obtain⟨c0,e1,e2⟩:=named p' cv z
     exact⟨c0,e1,ex _ _ e2 LamX.codeO_ne⟩
    ·exact⟨c',z,gC⟩
   ·obtain⟨ps',a1,a2,a3⟩:=hT p hp
    refine⟨ps',kp _ _ hb a1,a2,fun pos cv hcv=> ?_⟩
    obtain⟨c0,e1,e2⟩:=a3 pos cv hcv
    exact⟨c0,e1,ex _ _ e2 LamX.codeO_ne⟩
  ·by_cases hb:b=P
   ·subst hb;exact⟨_,gP⟩
   ·exact⟨bs,kp _ _ hb e⟩
end
section
variable {CX:CXT} {P:Program} {w:World} {K:PySem.W.Frag} {mg:Str->Option Value} {base:Heap} {N ps fr:List Str} {F:LF} {f:Addr} {k:Nat} {A:Around} {outer:List Env} {s:Shared} {H:Hp} {E:XK} {us:List Value} {vs:List V} {ws:List (Option V)} {Q:VK} {t:TE}
theorem F8 (S:NdefX.NScope N ps fr F.scope) (hb: ∀(pm ctv:Value),bindArgs (PySem.W.kla_fn "<lambda>" F.q F.params F.body F.scope F.cl pm (.ref F.c) ctv) ⟨us,[]⟩=pure (ps.zip us)) (hr:Room (k+1) A) (e0:Env0 P w K mg base A outer s H)
  (ho:H f=some (ql f F)) (hc:H F.c=some (LamX.CodeO F.c F.q)) (C:NdefX.CellsAt F.cl fr ws s.heap H) (r:Vals vs us) (hl:vs.length=ps.length)
  (hbody:Room k (A.deeper (NdefX.envF F.nf f s.heap.objs.size))->PE (NdefX.ncx CX P w K mg base N F.nf f A outer s H E) F.body t) (ht:t (NdefX.startF N vs ws) H Q):
  codeAny (model P w) A (.call (.ref f) ⟨us,[]⟩) (CR CX outer P w H s Q E) s:=by
 have lim:s.heap.NoLimit:=e0.mod.nolimit.keeps fun b o e=>(e0.bs b o e).1
 obtain⟨pm,ctv,of⟩:=IW e0.hok ho
 refine PySem.W.kla_callFunE hr.depth of rfl S.co S.gen rfl (NdefX.codeO_at e0.hok hc) ?_
 rw[hb pm ctv]
 refine wpAny_pure (wpAny_newFunctionEnv S.nocell (fun⟨n,_⟩ hy=>S.par n (List.of_mem_zip hy).1) (fun h₁ hns hsb=>⟨lim.fresh _ hsb,?_⟩) S.kind)
 have kp: ∀b o,s.heap.get? b=some o->h₁.get? b=some o:=fun b o e=>hsb.extBut b o (Nat.ne_of_lt (Heap.lt_size e)) (Heap.get?_push_of_some _ e)
 have J:L2.Inv (NdefX.ncx CX P w K mg base N F.nf f A outer s H E) [] (NdefX.startF N vs ws) H {s with heap:=h₁,toks:=s.toks+(ps.zip us).length}:=NdefX.inv_startN S hr.hd e0 hl r C hns kp
 refine PySem.W.kla_codeExpr (env:=NdefX.envF F.nf f s.heap.objs.size) (wpAny_mono ((hbody (hr.deeper _)).run [] _ _ H Q J ht) (fun v s' ⟨v',H',J',rv,q⟩=> ?_) fun e s' hq=>hq)
 exact⟨v',H',J'.os,J'.bare,J'.base,J'.hok,rv,q⟩
end
end Sw
namespace Sw
open PySem PySem.Spec PyProof.Rows L2
variable [NmC]
section
variable {K:Frg} {O:Org} {H:Hp} {G:Sa} {Δ:List Md} {st:Ds} {σ:CS}
theorem Rel.slot (rel:Rel K O Δ st σ H G) {j:Nat} {d:D} (hd:st[j]? =some (some d)): ∃v,σ[j]? =some (some v)/\Rep K (fun _=>True) H d v:=by
 obtain⟨L,g,s⟩:=rel
 have hj:j<Δ.length:=by rw[<-s.len.1];exact (List.getElem?_eq_some_iff.mp hd).1
 obtain⟨x',y',L1,L2,ex,ey,sr,pm,_⟩:=s.split (List.getElem?_eq_getElem hj)
 rw[hd] at ex;cases ex
 cases hm:Δ[j] with
 |bo=>rw[hm] at sr;obtain⟨v,e1,r1,_⟩:=sr;subst e1;exact⟨v,ey,Rep.mono (fun _ _=>trivial) aB _ _ r1⟩
 |fz=>rw[hm] at sr;obtain⟨v,e1,r1,_⟩:=sr;subst e1;exact⟨v,ey,Rep.mono (fun _ _=>trivial) aB _ _ r1⟩
 |ow s=>rw[hm] at sr;obtain⟨v,e1,r1⟩:=sr;subst e1;exact⟨v,ey,Rep.mono (fun _ _=>trivial) aB _ _ (Own.rep _ _ _ _ r1)⟩
 |pn v s=>rw[hm] at sr;obtain⟨e1,r1⟩:=sr;subst e1;exact⟨v,ey,Rep.mono (fun _ _=>trivial) aB _ _ (Own.rep _ _ _ _ r1)⟩
 |bl=>rw[hm] at sr;obtain⟨v,e1,r1,_⟩:=sr;subst e1;exact⟨v,ey,r1.rep⟩
end
theorem IY {H H1:Hp} {G:Sa} (e:LamX.ExtN H H1) (tl: ∀b ps,H b=some (.tbl ps)-> ∃ps',H1 b=some (.tbl ps')) (tb:LamX.Tabs NmC.T H1):Ext H G H1 G:=
 ⟨fun p u h n=>e p u h n,fun _ g=>g,fun _ g=>.inl g,tl,fun _=>tb⟩
end Sw
namespace Sw
open PySem PySem.Spec PyProof.Rows L2
section
variable [NmC]
structure TabAt (base:Heap) (mg:Str->Option Value) (cdv:Value) (q:Str) (c P:Addr):Prop where
 code:cdv= .ref c
 tb:LamX.TabB base mg c P
 mem:(P,q)∈NmC.T
 uni: ∀p∈NmC.T,p.1=P->p.2=q
def l6 (base:Heap) (mg:Str->Option Value) (cdv:Value) (q:Str):Prop:= ∃c P,TabAt base mg cdv q c P
end
def qF (K:Frg) (tf:List (He.Defn×Str)):List (Addr×Str):=tf.map fun p=>((He.cT K p.1).2,p.2)
theorem F9 {K:Frg} {tf:List (He.Defn×Str)} (h:CK K tf=true) {p:He.Defn×Str} (hp:p∈tf): ∀q∈qF K tf,q.1=(He.cT K p.1).2->q.2=p.2:=fun q hq e=>by
 obtain⟨r,hr,rfl⟩:=List.mem_map.mp hq
 have nd:=of_decide_eq_true h
 obtain⟨i,hi,ei⟩:=List.mem_iff_getElem.mp hr
 obtain⟨j,hj,ej⟩:=List.mem_iff_getElem.mp hp
 have pw:=List.pairwise_iff_getElem.mp nd
 have hl:(tf.map fun p=>(He.cT K p.1).2).length=tf.length:=List.length_map ..
 have e:(He.cT K r.1).2=(He.cT K p.1).2:=e
 rcases Nat.lt_trichotomy i j with l|l|l
 ·have z:=pw i j (by omega) (by omega) l
  rw[List.getElem_map,List.getElem_map,ei,ej] at z
  exact absurd e z
 ·subst l
  rw[ei] at ej;rw[ej]
 ·have z:=pw j i (by omega) (by omega) l
  rw[List.getElem_map,List.getElem_map,ei,ej] at z
  exact absurd e.symm z
section
variable {fa:List He.Fa} {fn:List He.DefD} {tf:List (He.Defn×Str)} {ex:Frg->Bool} {w:World} {h:Heap} {K:Frg}
abbrev qG (fa:List He.Fa) (fn:List He.DefD) (tf:List (He.Defn×Str)) (ex:Frg->Bool) (w:World) (h:Heap) (K:Frg):Prop:=He.SaysX fa fn [] (tf.map (·.1)) (fun K=>CK K tf&&ex K) w h K
theorem qG.y (c:qG fa fn tf ex w h K):F7 fa fn ex K:=⟨c.t.d,(Bool.and_eq_true_iff.mp c.more).2⟩
theorem qG.at_ (c:qG fa fn tf ex w h K) {base:Heap} {mg:Str->Option Value} (TB: ∀p∈tf.map (fun p=>He.cT K p.1),LamX.TabB base mg p.1 p.2) {p:He.Defn×Str} (hp:p∈tf) {fd:FuncData} {oc:Value} {od:Option Addr} {osl:Array (Option Value)} {q:Str}
  (lk:K.lookup (He.fAd K p.1)=some ⟨oc,od,.func fd,osl⟩) (cd:PySem.W.codeIn K fd.code q=true): @l6 ⟨qF K tf⟩ base mg fd.code p.2:=by
 obtain⟨cc,e⟩:=He.codeIn_ref cd
 have e2:=He.codeOf_eq lk e
 letI:NmC:=⟨qF K tf⟩
 refine⟨cc,(He.cT K p.1).2,⟨e,?_,show _∈qF K tf from List.mem_map.mpr ⟨p,hp,rfl⟩,show ∀q∈qF K tf,_ from F9 (Bool.and_eq_true_iff.mp c.more).1 hp⟩⟩
 have:=TB (He.cT K p.1) (List.mem_map.mpr ⟨p,hp,rfl⟩)
 rw[show (He.cT K p.1).1=cc from e2] at this
 exact this
theorem qG.law {l:PySem.W.OpenLaw} {k n:Nat} {x:Str} {mg:Str->Option Value} {fa':Addr} {Fs:List D->Option FR} (KX:K.In h) (c:qG fa fn tf ex w h K) {fd:FuncData} (hb: ∀(s:Shared) (v:Value),BindsTo s fd ⟨[v],[]⟩ [(x,v)])
  (hF: ∀base:Heap,K.In base->base.Ns mainGlobals mg->(∀p∈tf.map (fun p=>He.cT K p.1),LamX.TabB base mg p.1 p.2)->FnOk l.prog w K mg base CX0 k fa' fd [x] (@FSp ⟨qF K tf⟩ K [.bo] (.rg .fz) Fs))
  (hlaw: ∀ns:List Int,ns.length<=n->Fs [.sc ns]=some (.ok (.bl true) [])):LamX.LawAtS l w K CX0 k n x mg fa' h:=by
 refine⟨fd,tf.map (fun p=>He.cT K p.1),_,fun p hp=> ?_,fun p hp=> ?_,fun p hp=> ?_,hb,fun H a ns hl _ hT hS=> ?_,hF⟩
 ·obtain⟨q,hq,rfl⟩:=List.mem_map.mp hp
  exact c.empty _ (List.mem_map.mpr ⟨q,hq,rfl⟩)
 ·obtain⟨q,hq,rfl⟩:=List.mem_map.mp hp
  exact c.out _ (List.mem_map.mpr ⟨q,hq,rfl⟩)
 ·obtain⟨q,hq,rfl⟩:=List.mem_map.mp hp
  exact PySem.W.codeHd_of_K KX (c.hd _ (List.mem_map.mpr ⟨q,hq,rfl⟩))
 ·letI:NmC:=⟨qF K tf⟩
  refine Lh hS (hlaw ns hl) (fun p hp=> ?_)
  obtain⟨q,hq,rfl⟩:=List.mem_map.mp hp
  exact LamX.TabS.nil (hT _ (List.mem_map.mpr ⟨q,hq,rfl⟩))
end
end Sw
namespace Sw
open PySem PySem.Spec PyProof.Rows L2
theorem qG.lam {fa:List He.Fa} {fn:List He.DefD} {tf:List (He.Defn×Str)} {ex:Frg->Bool} {w:World} {h:Heap} {K:Frg} (c:qG fa fn tf ex w h K) {base:Heap} {mg:Str->Option Value} (TB: ∀p∈tf.map (fun p=>He.cT K p.1),LamX.TabB base mg p.1 p.2) {p:He.Defn×Str} (hp:p∈tf)
  {fd:FuncData} {x qual:Str} {ps:Arguments} {bd:List Stmt} {sc:Scope} {ds:List V} {kws:List (Str×V)} (F:FunD K x qual ps bd sc ds kws (He.fAd K p.1) fd): @l6 ⟨qF K tf⟩ base mg fd.code p.2:=by
 obtain⟨oc,od,dV,kV,doc,pm,an,cdv,ct,osl,rfl,l,cd,_⟩:=F.ex
 exact c.at_ TB hp l cd
end Sw
namespace Sw
open PySem PySem.Spec PyProof.Rows L2
variable [NmC]
def Ay (ds:List D):List (D×D):=ds.mapIdx fun i d=>(D.int (i:Nat),d)
def Dc (a:Option D):Option (List (D×D)):=(nL a).bind fun xs=>some (Ay xs)
section
variable {X:Cx} {Δ:List Md} {st:Ds} {e:Expr} {ra:Option D} {p pos:Pos} {rg:Rg}
theorem Az {elts:List Expr} {kk:Nat} {tpos:Pos} (hg:Gl X "enumerate") (hm:X.mg "enumerate" =none) (ha:PX X Δ st e (.rg rg) ra) (hs:starEach [e] X.env=[(false,eval e X.env)]:=by rfl):
  PIx (δ:=D×D) X Δ st (.Tuple elts kk tpos) (.Call (.Name "enumerate" p) [e] [] pos) rg (irP X.K) (Dc ra):=
 xF (pi_enum hg hm (pa_cons ha pa_nil hs) hs) fun σ H R ⟨O,G,ds,rel,er,k⟩=>by
  obtain⟨xs,e1,e2⟩:=bind1 er
  cases e2
  refine rdE.go rel (C4 e1) fun v H1 G1 rel1 x1 v1=> ?_
  unfold bD Rep at v1
  obtain⟨a,vs,rfl,s,l,rr⟩:=v1
  refine⟨a,vs,rfl,SqL.of l,k _ H1 G1 x1 (wkS fun H3 hst i=> ?_)⟩
  have l2:SqL X.K H3 a vs:=SqL.of (hst a _ s l (fun _ z=>by cases z))
  have hl:=rr.length
  refine⟨fun d hd=> ?_,fun hi=>⟨vs,l2,by unfold Ay at hi;rw[List.length_mapIdx] at hi;omega⟩⟩
  unfold Ay at hd
  rw[List.getElem?_mapIdx] at hd
  obtain⟨d0,g1,rfl⟩:=Em hd
  obtain⟨u,f1,f2⟩:=rr.get g1
  refine⟨⟨vs,u,l2,f1⟩,fun x H4 hy=> ?_⟩
  obtain⟨T,y,rfl,hT,rfl,q1⟩:=hy
  have g2:=q1 vs l2
  rw[f1] at g2;cases g2
  exact⟨fun p u e=>by rw[upd_ne (ne_of_none e hT)];exact e,T,.int (i:Nat),u,rfl,.inl (.inl upd_same),by unfold Rep;rfl,
   Rep.mono (fun _ g=>g) (fun p sp=>hZ.xE fun z n e=>by rw[upd_ne (ne_of_none (hst p z sp e n) hT)];exact hst p z sp e n) _ _ f2⟩
end
end Sw
namespace Sw
open PySem PySem.Spec PyProof.Rows L2
variable [NmC]
def Ks (K:Frg) (C:Addr) (f:Str):Sp:=fun vs H Q E=> ∃(a:Addr) (v:V),vs=[.ref a,v]/\H a=some (exo a C none)/\ ∀d,H d=none->d≠a->Q .non (upd (upd H d (exd d [(f,v)])) a (exo a C (some d)))
structure Xcl (P:Program) (w:World) (K:Frg) (mg:Str->Option Value) (base:Heap) (Cn fld:Str):Prop where
 ox:OexC K (He.ga K Cn)
 no:PySem.W.findIn K (.ref (He.ga K Cn)) fld=some none
 gm:mg Cn=some (.ref (He.ga K Cn))
 ini: ∃(fI:Addr) (fd:FuncData) (ps:List Str),PySem.W.findIn K (.ref (He.ga K Cn)) "__init__" =some (some (.ref fI))/\PySem.W.typeIn K (.ref fI)=some (.type "function")/\FnOk P w K mg base CX0 1 fI fd ps (Ks K (He.ga K Cn) fld)/\Binds K fd ps []
section
variable {X:Cx} {α β:Type} {E:Exits α β} {Δ:List Md} {st:Ds} {rest:List Stmt} {e:Expr} {ra:Option D}
theorem gV.one {K:Frg} {S S':Sa} {H H':Hp} {f:Str} {d:D} {v:V} (h:Rep K S' H' d v):gV K S' H' [(f,d)] [(f,v)]:=by
 unfold gV
 exact⟨v,[],rfl,h,by unfold gV;rfl⟩
end
end Sw
namespace Sw
open PySem PySem.Spec PyProof.Rows L2
variable [NmC]
structure Nm (K:Frg) (Cn fld S:Str):Prop where
 ox:OexC K (He.ga K Cn)
 no:PySem.W.findIn K (.ref (He.ga K Cn)) fld=some none
 xf:XfC K (He.ga K Cn)
 tr:PySem.W.exmOne K (.ref (He.ga K Cn)) (.ref (He.ga K Cn))=some true
 ii:PySem.W.findIn K (.ref (He.ga K Cn)) "__init__" =some (some (.ref (He.ma K (He.ga K Cn) "__init__")))
 it:PySem.W.typeIn K (.ref (He.ma K (He.ga K Cn) "__init__"))=some (.type "function")
 rd:ClX.CRead K (He.ga K S) (.type "type")
 vv:PySem.W.findCls K (.ref (He.ga K S)) (.type "type") "__init__" =some (.val (.builtin "ValueError.__init__"))
theorem Nm.cl {P:Program} {w:World} {K:Frg} {mg:Str->Option Value} {base:Heap} {Cn fld S pn:Str} {fd:FuncData} (T:Nm K Cn fld S) (gm:mg Cn=some (.ref (He.ga K Cn))) (F:FnOk P w K mg base CX0 1 (He.ma K (He.ga K Cn) "__init__") fd ["self",pn] (Ks K (He.ga K Cn) fld)) (hb:Binds K fd ["self",pn] []):Xcl P w K mg base Cn fld:=
 ⟨T.ox,T.no,gm,_,fd,_,T.ii,T.it,F,hb⟩
end Sw
namespace Sw
open PySem PySem.Spec PyProof.Rows L2
variable [NmC]
mutual
def D.flt:D->Bool
 | .non=>true| .bl _=>true| .int _=>true| .str _=>true
 | .tup ds=>Ep ds
 |_=>false
def Ep:List D->Bool
 | []=>true
 |d::ds=>d.flt&&Ep ds
end
mutual
def fV:Sh->D->Bool
 | .fz,d=>d.flt
 | .ls s,.lst ds=>ds.all fun d=>fV s d
 | .dc s,.dct ks=>ks.all fun k=>fV s k.2
 | .is fs,.ins _ ds=>rS fs ds
 |_,_=>false
def rS:List (Str×Sh)->List (Str×D)->Bool
 | [],_=>true
 |(_,s)::fs,ds=>match ds with
  | []=>false
  |d::dr=>fV s d.2&&rS fs dr
end
section
variable {K:Frg} {G:Sa} {H:Hp}
theorem qL.more {G':Sa} (hG: ∀p,G p->G' p): ∀{ps:List (V×Sh)} {ds:List D} {L:List Addr},qL K G H ps ds L->qL K G' H ps ds L
 | [],[],_,h=>h
 |(v,s)::ps,d::ds,_,⟨L1,L2,h1,h2,e⟩=>⟨L1,L2,Own.mono hG aB s d v L1 (fun _ _=>rfl) h1,qL.more hG h2,e⟩
 | [],_::_,_,h=>h.elim
 |_::_,[],_,h=>h.elim
end
end Sw
namespace Sw
open PySem PySem.Spec PyProof.Rows L2
variable [NmC]
def lF (K:Frg) (O:Org) (st:Ds) (σ:CS) (H H':Hp) (G':Sa):List AS->List D->List V->List Addr->Prop
 | [],[],vs,L=>vs=[]/\L=[]
 | .pv (.nw s)::ms,d::ds,vs,L=> ∃v r L1 L2,vs=v::r/\Own K G' H' s d v L1/\lF K O st σ H H' G' ms ds r L2/\L=L1++L2
 | .pv (.rg m)::ms,d::ds,vs,L=> ∃v r,vs=v::r/\bD K O H H' G' (.rg m) d v/\lF K O st σ H H' G' ms ds r L
 | .pv (.sp m)::ms,d::ds,vs,L=> ∃v r,vs=v::r/\bD K O H H' G' (.sp m) d v/\lF K O st σ H H' G' ms ds r L
 | .ln i::ms,d::ds,vs,L=> ∃v r,vs=v::r/\(st[i]? =some (some d)/\σ[i]? =some (some v))/\lF K O st σ H H' G' ms ds r L
 |_,_,_,_=>False
section
variable {K:Frg} {O:Org} {H H1 H2:Hp} {G G1 G2:Sa} {st:Ds} {σ:CS}
theorem lF.back: ∀{ms:List AS} {ds:List D} {vs:List V} {L:List Addr},Ext H G H1 G1->lF K O st σ H1 H2 G2 ms ds vs L->lF K O st σ H H2 G2 ms ds vs L
 | [],[],_,_,_,h=>h
 | .pv (.nw s)::ms,d::ds,_,_,e,⟨v,r,L1,L2,e1,h1,h2,e2⟩=>⟨v,r,L1,L2,e1,h1,lF.back e h2,e2⟩
 | .pv (.rg m)::ms,d::ds,_,_,e,⟨v,r,e1,h1,h2⟩=>⟨v,r,e1,bD.back e h1,lF.back e h2⟩
 | .pv (.sp m)::ms,d::ds,_,_,e,⟨v,r,e1,h1,h2⟩=>⟨v,r,e1,bD.back e h1,lF.back e h2⟩
 | .ln i::ms,d::ds,_,_,e,⟨v,r,e1,h1,h2⟩=>⟨v,r,e1,h1,lF.back e h2⟩
 | [],_::_,_,_,_,h=>h.elim
 | .ln _::_,[],_,_,_,h=>h.elim
 | .pv (.nw _)::_,[],_,_,_,h=>h.elim
 | .pv (.rg _)::_,[],_,_,_,h=>h.elim
 | .pv (.sp _)::_,[],_,_,_,h=>h.elim
end
end Sw
namespace Sw
open PySem PySem.Spec PyProof.Rows L2
variable [NmC]
def irQ (K:Frg) (S:Sa) (H:Hp) (p:D×D×D) (x:V):Prop:= ∃a v w u,x= .ref a/\SqT K H a [v,w,u]/\Rep K S H p.1 v/\Rep K S H p.2.1 w/\Rep K S H p.2.2 u
theorem Ga {K:Frg}:nD (irQ K):=fun S S' H H' d x hS hH ⟨a,v,w,u,e,t,h1,h2,h3⟩=>⟨a,v,w,u,e,Ad hH t,Rep.mono hS (qK hH) _ v h1,Rep.mono hS (qK hH) _ w h2,Rep.mono hS (qK hH) _ u h3⟩
theorem LH (K:Frg) (i j l:Nat) {n:Nat} {rg:Rg} (hr:rg≠ .hb) (hi:i<n) (hj:j<n) (hl:l<n):yz K (gTup K 3 (gCons (gName i) (gCons (gName j) (gCons (gName l) gNil)))) rg (irQ K) (fun Δ=>((Δ.set i (mdR rg)).set j (mdR rg)).set l (mdR rg)) (fun d st=>((st.set i (some d.1)).set j (some d.2.1)).set l (some d.2.2)) n [i,j,l]:=
 fun O Δ st σ H G d x Q hn rel ⟨a,v,w,u,e,t,h1,h2,h3⟩ q=>by
  refine⟨a,[v,w,u],e,t,rfl,v,[w,u],rfl,w,[u],rfl,u,[],rfl,rfl,q _ ?_ fun vs hv=>(j7 (hv l (by simp))).trans ((j7 (hv j (by simp))).trans (j7 (hv i (by simp))))⟩
  cases rg with
  |hb=>exact absurd rfl hr
  |bb=>exact ((rel.qm (m:=.rg .bb) .refl (by omega) rfl h1).qm (m:=.rg .bb) .refl (by simp;omega) rfl h2).qm (m:=.rg .bb) .refl (by simp;omega) rfl h3
  |fz=>exact ((rel.qm (m:=.rg .fz) .refl (by omega) rfl h1).qm (m:=.rg .fz) .refl (by simp;omega) rfl h2).qm (m:=.rg .fz) .refl (by simp;omega) rfl h3
theorem Gb {K:Frg} {S:Sa} {H:Hp} {a b c:D} {v:V} (h:Rep K S H (.tup [a,b,c]) v):irQ K S H (a,b,c) v:=by
 unfold Rep at h
 obtain⟨p,vs,e,l,r⟩:=h
 unfold aD at r
 obtain⟨x,r1,rfl,h1,h2⟩:=r
 unfold aD at h2
 obtain⟨y,r2,rfl,h3,h4⟩:=h2
 unfold aD at h4
 obtain⟨z,r3,rfl,h5,h6⟩:=h4
 unfold aD at h6
 subst h6
 exact⟨p,x,y,z,e,l.sq,h1,h3,h5⟩
def D.tr:D->Option (D×D×D)
 | .tup [a,b,c]=>some (a,b,c)
 |_=>none
def D.trs:List D->Option (List (D×D×D))
 | []=>some []
 |d::ds=>(D.tr d).bind fun x=>(D.trs ds).bind fun xs=>some (x::xs)
theorem Dd: ∀{ds:List D} {ps:List (D×D×D)} {i:Nat} {p:D×D×D},D.trs ds=some ps->ps[i]? =some p->ds[i]? =some (.tup [p.1,p.2.1,p.2.2])
 | [],_,_,_,e,h=>by cases e;simp at h
 |d::ds,_,i,p,e,h=>by
  unfold D.trs at e
  obtain⟨x,y,e1,e2,e3⟩:=cj e
  cases e3
  cases i with
  |zero=>
   simp at h;subst h
   unfold D.tr at e1
   split at e1
   ·cases e1;rfl
   ·cases e1
  |succ i=>simpa using Dd e2 (by simpa using h)
theorem Df: ∀{ds:List D} {ps:List (D×D×D)},D.trs ds=some ps->ps.length=ds.length
 | [],_,e=>by cases e;rfl
 |d::ds,_,e=>by
  unfold D.trs at e
  obtain⟨x,y,e1,e2,e3⟩:=cj e
  cases e3
  rw[List.length_cons,List.length_cons,Df e2]
def IZ (x:Option D):Option (List (D×D×D)):=x.bind fun x=>match x with| .lst ds=>D.trs ds|_=>none
section
variable {X:Cx} {Δ:List Md} {st:Ds} {e:Expr} {rg:Rg} {ra:Option D}
theorem I0 {tg:Expr} (h:PX X Δ st e (.rg rg) ra):PIx (δ:=D×D×D) X Δ st tg e rg (irQ X.K) (IZ ra):=
 xF (pi_list h) fun σ H R ⟨O,G,ps,rel,er,k⟩=>by
  obtain⟨x,e1,e2⟩:=bind1 er
  cases x <;> first|cases e2|skip
  rename_i ds
  refine rdE.go rel e1 fun v H1 G1 rel1 x1 v1=> ?_
  unfold bD Rep at v1
  obtain⟨a,vs,rfl,s,l,rr⟩:=v1
  refine⟨a,rfl,⟨vs,SqL.of l⟩,k _ H1 G1 x1 (wkS fun H2 hst i=> ?_)⟩
  have l2:SqL X.K H2 a vs:=SqL.of (hst a _ s l (fun _ z=>by cases z))
  refine⟨fun d hd=> ?_,fun hi=>⟨vs,l2,by rw[rr.length,←Df e2];exact hi⟩⟩
  obtain⟨u,e3,e4⟩:=rr.get (Dd e2 hd)
  refine⟨⟨vs,u,l2,e3⟩,fun x H3 ⟨eH,f⟩=> ?_⟩
  subst eH
  have:=f vs l2
  rw[e3] at this;cases this
  exact⟨fun _ _ e=>e,Gb (Rep.mono (fun _ g=>g) (fun p sp=>hZ.xE fun u n e=>hst p u sp e n) _ _ e4)⟩
end
theorem gU.at {K:Frg} {S:Sa} {H:Hp}: ∀{ks:List (List Key×D)} {kvs:List (List Key×V)} {i:Nat} {k:List Key} {v:V},gU K S H ks kvs->kvs[i]? =some (k,v)-> ∃x,ks[i]? =some (k,x)/\Rep K S H x v
 | [],_,_,_,_,h,e=>by unfold gU at h;subst h;simp at e
 |(k0,x)::ks,_,0,k,v,h,e=>by
  unfold gU at h
  obtain⟨w,r,rfl,h1,h2⟩:=h
  simp at e
  obtain⟨rfl,rfl⟩:=e
  exact⟨x,rfl,h1⟩
 |(k0,x)::ks,_,i+1,k,v,h,e=>by
  unfold gU at h
  obtain⟨w,r,rfl,h1,h2⟩:=h
  obtain⟨y,e1,e2⟩:=gU.at (i:=i) h2 (by simpa using e)
  exact⟨y,by simpa using e1,e2⟩
end Sw
namespace Sw
open PySem PySem.Spec PyProof.Rows L2
variable [NmC]
abbrev Sh.gx (vs:List V):Sh:=.hl (vs.map .ex)
end Sw
namespace Sw
open PySem PySem.Spec PyProof.Rows L2
variable [NmC]
theorem RelV.fz {K:Frg} {O:Org} {Δ:List Md} {st:Ds} {σ:CS} {H:Hp} {G:Sa} {s:Sh} {d:D} {v:V} (h:RelV K O Δ st σ H G (.nw s) d v): ∃G',Rel K O Δ st σ H G'/\Rep K G' H d v:=by
 obtain⟨L,Lv,g,sl,ow⟩:=h
 have ow:Own K G H s d v Lv:=ow
 have nd:=List.nodup_append.mp g.nd
 refine⟨fun p=>G p\/p∈Lv,⟨L,⟨g.bin,g.fr0,fun p q=>.inl (g.gsub p q),fun p q=> ?_,fun p q=> ?_,g.dom,nd.2.1,fun p m=>⟨fun q=> ?_,(g.lg p (List.mem_append_right _ m)).2⟩,g.tl,g.tb⟩,Slots.mono (fun p q=>.inl q) aB aB (fun _ _=>rfl) sl⟩,Own.rep s d v Lv ow⟩
 ·rcases q with q|q
  ·exact g.gold p q
  ·rcases (g.lg p (List.mem_append_left _ q)).2 with h|h
   ·exact .inr (.inr (.inr h))
   ·exact .inr (.inl h)
 ·rcases q with q|q
  ·exact g.gin p q
  ·exact (Own.kind s d v Lv ow p q).ne
 ·rcases q with q|q
  ·exact (g.lg p (List.mem_append_right _ m)).1 q
  ·exact nd.2.2 p q p m rfl
end Sw
namespace Sw
open PySem PySem.Spec PyProof.Rows L2
variable [NmC]
section
variable {K:Frg} {S:Sa} {H:Hp}
def Ge (H:Hp) (T:Sa) (L:List Addr):List (List Str×Int)->List V->Prop
 | [],vs=>vs=[]
 |g::gs,vs=> ∃t b r,vs= .ref t::r/\T t/\H t=some (.tup [.ref b,.int g.2])/\b∈L/\H b=some (.lst (g.1.map V.str))/\Ge H T L gs r
theorem Ge.more {T:Sa} {L L':List Addr} (s: ∀p∈L,p∈L'): ∀{gs:List (List Str×Int)} {vs:List V},Ge H T L gs vs->Ge H T L' gs vs
 | [],_,h=>h
 |_::_,_,⟨t,b,r,e,h1,h2,h3,h4,h5⟩=>⟨t,b,r,e,h1,h2,s b h3,h4,Ge.more s h5⟩
end
end Sw
namespace Sw
open PySem PySem.Spec PyProof.Rows L2
variable [NmC]
def Sh.obj:Sh->Bool
 | .ls _=>true
 | .dc _=>true
 | .lz=>true
 |_=>false
theorem Own.obj {K:Frg} {G:Sa} {H:Hp} {s:Sh} {d:D} {v:V} {L:List Addr} (hs:s.obj=true) (o:Own K G H s d v L): ∃p,v= .ref p:=by
 cases s <;> first|(cases hs;done)|skip
 all_goals
  unfold Own at o
  obtain⟨a,_,_,_,_,e,_⟩:=o
  exact⟨a,e⟩
end Sw
namespace Sw
open PySem PySem.Spec PyProof.Rows L2
variable [NmC]
def D.rT:D->Option D
 | .bl b=>some (.bl b)
 |_=>none
end Sw
namespace Sw
open PySem PySem.Spec PyProof.Rows L2
variable [NmC]
section
variable {P:Program} {w:World} {K:Frg} {mg:Str->Option Value} {base:Heap} {H:Hp} {h:Heap} {c:Addr} {v:V}
theorem uU (hok:HOk P w H h) (e:kO c v (H c)): ∃u,L2.RelV v u/\h.IsCell c (some u):=by
 obtain⟨φ,e,z⟩:=e
 obtain⟨q,_,_⟩:=hok c _ e
 exact z _ q
theorem pf {b:Addr} (n:H b=none):del H c b=none:=by
 unfold del
 split
 ·rfl
 ·exact n
theorem kR {u:HO} {a:Addr} (e:kO c v (H c)) (q:H a=some u) (d: ∀φ,u≠ .ext φ):a≠c:=fun z=>by
 obtain⟨φ,e,_⟩:=e
 rw[z,e] at q
 cases q
 exact d _ rfl
theorem Dg {a:Addr} {q:Str} (hok:HOk P w H h) (e:kO c v (H c)) (ea:H a=some (LamX.CodeO a q)):a≠c:=fun z=>by
 subst z
 obtain⟨u,_,o,g,d⟩:=uU hok e
 obtain⟨⟨oc,vs,t,g2,d2,_⟩,_,_⟩:=hok a _ ea
 rw[g] at g2;cases g2
 rw[d] at d2;cases d2
theorem Ku {a f' c0:Addr} {F:FnT} (hok:HOk P w H h) (ea:H a=some (F.ho a c0 f')):PySem.W.FnAt a h:=by
 unfold FnT.ho at ea
 split at ea
 ·obtain⟨od,sl,doc,pm,ctv,g⟩:=NdefX.fnO_at hok ea
  exact⟨_,od,_,sl,g⟩
 ·obtain⟨⟨pm,ctv,g⟩,_,_⟩:=hok a _ ea
  exact⟨_,_,_,_,g⟩
theorem Nn {a f' c0:Addr} {F:FnT} (hok:HOk P w H h) (e:kO c v (H c)) (ea:H a=some (F.ho a c0 f')):a≠c:=fun z=>by
 subst z
 obtain⟨u,_,o,g,d⟩:=uU hok e
 obtain⟨_,_,_,_,g2⟩:=Ku hok ea
 rw[g] at g2;cases g2
 cases d
theorem I4 (hok:HOk P w H h) (e:kO c v (H c)):HOk P w (del H c) h:=fun a o q=>by
 by_cases hb:a=c
 ·rw[hb,del_same] at q;cases q
 ·rw[del_ne hb] at q
  exact (hok a o q).stay (fun b u _ z=>z) (fun b z=>by rw[del_ne (kR e z fun _ y=>by cases y)];exact z) (fun b xs z=>by rw[del_ne (kR e z fun _ y=>by cases y)];exact z)
theorem Gf {A:Around} {outer:List Env} {s:Shared} (e0:Env0 P w K mg base A outer s H) (e:kO c v (H c)):Env0 P w K mg base A outer s (del H c):=
 ⟨e0.frames,e0.mod,fun b o z=>⟨(e0.bs b o z).1,pf (e0.bs b o z).2⟩,e0.bsz,e0.funs,fun b hb=>pf (e0.frf b hb),I4 e0.hok e,e0.bare⟩
theorem AA {T:List (Addr×Str)} (hok:HOk P w H h) (e:kO c v (H c)) (t:LamX.Tabs T H):LamX.Tabs T (del H c):=fun p hp=>by
 obtain⟨ps,h1,h2,h3⟩:=t p hp
 refine⟨ps,by rw[del_ne (kR e h1 fun _ y=>by cases y)];exact h1,h2,fun pos cv hc=> ?_⟩
 obtain⟨c',e1,e2⟩:=h3 pos cv hc
 exact⟨c',e1,by rw[del_ne (Dg hok e e2)];exact e2⟩
theorem I5 {φ:Heap->Prop} {outer:List Env} {s s':Shared} {Q Q':VK} {u:Value} (hok:HOk P w H s.heap) (frf: ∀b∈frs outer,H b=none) (e:H c=some (.ext φ)) (hφ: ∀h,φ h-> ∃u,L2.RelV v u/\h.IsCell c (some u)) (x:CE outer P w (del H c) s Q' u s')
  (hq: ∀v' H',H' c=none->Q' v' H'->Q v' (upd H' c (.ext φ))):CE outer P w H s Q u s':=by
 obtain⟨v',H',os,ba,un,hk,rv,q⟩:=x
 have ci:kO c v (H c):=⟨φ,e,hφ⟩
 obtain⟨u0,r0,o0,g0,d0⟩:=uU hok ci
 obtain⟨p0,_,st0⟩:=hok c _ e
 have cn:c∉frs outer:=fun m=>by rw[frf c m] at e;cases e
 have hn:H' c=none:=un.free c o0 g0 del_same (by simp)
 have ne: ∀{b:Addr} {z:HO},H' b=some z->b≠c:=fun q y=>by rw[y,hn] at q;cases q
 refine⟨v',upd H' c (.ext φ),os,ba,⟨fun b o z n=>un.keep b o z (pf n),fun b o z n=>un.slot b o z (pf n),fun b o z n hx=> ?_,un.there,fun b xs z=> ?_,fun b o u z=> ?_,fun b ps z=> ?_⟩,fun a o z=> ?_,rv,hq v' H' hn q⟩
 ·rw[upd_ne (fun y=>by rw[y,e] at n;cases n)]
  exact un.free b o z (pf n) hx
 ·have hb:=kR ci z fun _ y=>by cases y
  rw[upd_ne hb]
  exact un.tups b xs (by rw[del_ne hb];exact z)
 ·have hb:=kR ci z fun _ y=>by cases y
  rw[upd_ne hb]
  exact un.frzs b o u (by rw[del_ne hb];exact z)
 ·have hb:=kR ci z fun _ y=>by cases y
  rw[upd_ne hb]
  exact un.tbls b ps (by rw[del_ne hb];exact z)
 ·by_cases hb:a=c
  ·rw[hb,upd_same] at z
   cases z
   rw[hb]
   exact⟨st0 _ _ p0 fun o z=>un.keep c o z del_same cn (by simp),⟨o0,un.keep c o0 g0 del_same cn (by simp)⟩,st0⟩
  ·rw[upd_ne hb] at z
   exact (hk a o z).stay (fun _ _ _ y=>y) (fun b y=>by rw[upd_ne (ne y)];exact y) (fun b xs y=>by rw[upd_ne (ne y)];exact y)
def cSp (K:Frg) (ms:List PM) (rm:VM) (Fs:List D->Option FR):List (Option V)->Sp:=fun ws vs H Q E=> ∃wv,ws=[some wv]/\FSp K (ms++[.bo]) rm Fs (vs++[wv]) H Q E
theorem uV {F:FnT} {N ps:List Str} {f c c':Addr} {k n:Nat} {ms:List PM} {rm:VM} {Fs:List D->Option FR} (S:NdefX.NScope N ps [F.y] F.scope) (hl:ms.length=ps.length) (hn:N.length=ps.length+1+n)
  (hb: ∀(doc pm ctv:Value) (us:List Value),us.length=ps.length->bindArgs ((F.nf c c').fd doc pm ctv) ⟨us,[]⟩=pure (ps.zip us))
  (h: ∀(A:Around) (outer:List Env) (s:Shared) (H:Hp) (vs:List V) (E:XK),Room k (A.deeper (NdefX.envF (F.nf c c') f s.heap.objs.size))->vs.length=(ms++[PM.bo]).length-> ∀ds fr,ds.length=(ms++[PM.bo]).length->Fs ds=some fr→
   ∃m,Blk (NdefX.ncx CX0 P w K mg base N (F.nf c c') f A outer s H E).nox (fnX rm (bF (ms++[.bo]) vs) E) (yF (ms++[.bo]) vs++List.replicate n .fz) (ds.map some++List.replicate n none) F.body m/\m.bind outF=some fr):
  NdefX.NOk P w K mg base CX0 (k+1) f (F.nf c c') ps [F.y] (cSp K ms rm Fs):=by
 refine NdefX.nok_of S hb (fun ws vs H Q E ⟨wv,_,O,ds,fr,e,g,a,_⟩=> ?_) fun A outer s H vs ws Q E hr _ _ _ ⟨wv,ew,O,ds,fr,e,g,a,ef,q⟩=> ?_
 ·have:=a.len.1
  rw[List.length_append,List.length_append] at this
  simp at this
  omega
 ·subst ew
  obtain⟨hv,hd⟩:=a.len
  obtain⟨m,hb,hm⟩:=h A outer s H (vs++[wv]) E hr hv ds fr hd ef
  refine⟨_,PSs.nox hb,?_⟩
  obtain⟨o,e1,e2⟩:=bind1 hm
  have hvl:vs.length=ps.length:=by
   rw[List.length_append,List.length_append] at hv
   simp at hv
   omega
  have hs:NdefX.startF N vs [some wv]=(vs++[wv]).map some++List.replicate n none:=by
   unfold NdefX.startF
   rw[show N.length -vs.length -([some wv]:List (Option V)).length=n by simp;omega,List.map_append,List.append_assoc]
   rfl
  rw[hs]
  refine⟨O,O.G0,o,⟨O.L0,g,nK a⟩,e1,?_⟩
  cases o with
  |nx a=>exact a.elim
  |bk a=>exact a.elim
  |ct a=>exact a.elim
  |ret d os=>
   cases e2
   exact fun v H' G' r=>⟨q v H' G' r,fun _ ev σ=>by subst ev;exact q _ H' G' r⟩
  |exc x=>
   cases e2
   exact fun c od H' G' r=>q c od H' G' r
def vF (P:Program) (w:World) (K:Frg) (mg:Str->Option Value) (base:Heap) (k:Nat) (F:FnT) (Fs:List D->Option FR):Prop:=
 ∀(f c c':Addr) (A:Around) (outer:List Env) (s:Shared) (H:Hp) (us:List Value) (vs:List V) (wv:V) (Q:VK) (E:XK),Room k A->Env0 P w K mg base A outer s H->H f=some (F.ho f c c')->H c'=some (LamX.CodeO c' F.qual)→
  NdefX.CellsAt [(F.y,c)] [F.y] [some wv] s.heap H->Vals vs us->FSp K ([.bo,.bo]++[.bo]) (.rg .fz) Fs (vs++[wv]) H Q E->codeAny (model P w) A (.call (.ref f) ⟨us,[]⟩) (CR CX0 outer P w H s Q E) s
theorem rV {F:FnT} {k:Nat} {ps:List Str} {Fs:List D->Option FR} (he:F.ex=none) (N: ∀f c c',NdefX.NOk P w K mg base CX0 k f (F.nf c c') ps [F.y] (cSp K [.bo,.bo] (.rg .fz) Fs)):vF P w K mg base k F Fs:=
 fun f c c' A outer s H us vs wv Q E hr e0 ef ec C r q=>(N f c c').run A outer s H us vs [some wv] Q E hr e0 (by unfold FnT.ho at ef;rw[he] at ef;exact ef) ec C r ⟨wv,rfl,q⟩
theorem I6 {F:FnT} {f c':Addr} {k:Nat} {Fs:List D->Option FR} {wv:V} {A:Around} {outer:List Env} {s:Shared} {us:List Value} {vs:List V} {Q:VK} {E:XK} (N:vF P w K mg base k F Fs)
  (hr:Room k A) (e0:Env0 P w K mg base A outer s H) (ef:H f=some (F.ho f c c')) (ec:H c'=some (LamX.CodeO c' F.qual)) (e:kO c wv (H c)) (r:Vals vs us)
  (q:FSp K ([.bo,.bo]++[.bo]) (.rg .fz) Fs (vs++[wv]) (del H c) (fun v' H'=>H' c=none-> ∀φ,H c=some (.ext φ)->Q v' (upd H' c (.ext φ))) E):codeAny (model P w) A (.call (.ref f) ⟨us,[]⟩) (CR CX0 outer P w H s Q E) s:=by
 obtain⟨u0,r0,o0,g0,d0⟩:=uU e0.hok e
 have C:NdefX.CellsAt [(F.y,c)] [F.y] [some wv] s.heap (del H c):=by
  have lk: ∀{y:Str} {a:Addr},List.lookup y [(F.y,c)]=some a->y=F.y/\a=c:=fun {y a} z=>by
   unfold List.lookup at z
   split at z
   ·rename_i hb
    cases z
    exact⟨eq_of_beq hb,rfl⟩
   ·cases z
  refine⟨rfl,fun y a z=> ?_,fun x y a z1 z2=>(lk z1).1.trans (lk z2).1.symm,fun i y z=> ?_⟩
  ·obtain⟨_,rfl⟩:=lk z
   exact⟨del_same,_,o0,g0,d0⟩
  ·cases i with
   |succ i=>simp at z
   |zero=>
    cases z
    refine⟨c,by show List.lookup F.y [(F.y,c)]=_;simp[List.lookup],fun v z=> ?_⟩
    cases z
    exact⟨u0,r0,o0,g0,d0⟩
 refine codeAny_mono (N f c c' A outer s (del H c) us vs wv _ E hr (Gf e0 e) (by rw[del_ne (Nn e0.hok e ef)];exact ef) (by rw[del_ne (Dg e0.hok e ec)];exact ec) C r q) fun r s' hq=> ?_
 match r,hq with
 | .error _,hq=>exact hq.elim
 | .ok (.ret u),hq=>
  obtain⟨φ,eφ,hφ⟩:=e
  exact I5 e0.hok e0.frf eφ hφ hq fun v' H' n z=>z n φ eφ
 | .ok .next,hq=>exact hq.elim
 | .ok .brk,hq=>exact hq.elim
 | .ok .cont,hq=>exact hq.elim
abbrev mV:List PM:=[.bo,.bo,.bo]
structure rW (P:Program) (w:World) (K:Frg) (mg:Str->Option Value) (base:Heap) (k:Nat) (Fs:List D->Option FR):Prop where
 at_: ∀{h:Heap} {H:Hp} {S:Sa} {u:Value} {v:V} {d:D} {ds:List D} {fr:FR},K.In h->HOk P w H h->L2.RelV v u->Rep K S H d v->Fs (d::ds)=some fr-> ∃q,u= .ref q/\PySem.W.FnAt q h
 run: ∀{A:Around} {outer:List Env} {s:Shared} {H:Hp} {u:Value} {us:List Value} {v:V} {vs:List V} {Q:VK} {E:XK},Room k A->Env0 P w K mg base A outer s H->L2.RelV v u->Vals vs us->FSp K mV (.rg .fz) Fs (v::vs) H Q E→
  codeAny (model P w) A (.call u ⟨us,[]⟩) (CR CX0 outer P w H s Q E) s
theorem Er {k:Nat}:rW P w K mg base k (fun _=>none):=⟨fun _ _ _ _ e=>(nomatch e),fun _ _ _ _ ⟨_,_,_,_,_,_,e,_⟩=>(nomatch e)⟩
structure I7 (P:Program) (w:World) (K:Frg) (mg:Str->Option Value) (base:Heap) (k:Nat) (x:Str) (Fs:List D->Option FR):Prop where
 lk: ∃oc od fd sl,K.lookup (He.ga K x)=some (⟨oc,od,.func fd,sl⟩:Obj)
 ok: ∃(fd:FuncData) (ps:List Str),FnOk P w K mg base CX0 k (He.ga K x) fd ps (FSp K [.bo,.bo] (.rg .fz) Fs)/\Binds K fd ps []
def rT:FR->Option FR
 | .ok (.bl b) []=>some (.ok (.bl b) [])
 |_=>none
open Classical in
noncomputable def oM (F:FnT):List (FnT×(List D->Option FR))->Option (List D->Option FR)
 | []=>none
 |p::r=>if F=p.1 then some p.2 else oM F r
noncomputable def fcD (gl:List (Str×(List D->Option FR))) (cl:List (FnT×(List D->Option FR))):List D->Option FR
 | .glf x::ds=>(gl.lookup x).bind fun f=>(f ds).bind rT
 | .clo F d::ds=>if D.evs ds=true then (oM F cl).bind fun f=>(f (ds++[d])).bind rT else none
 |_=>none
theorem vG {r fr:FR} (h:rT r=some fr): ∃b,r= .ok (.bl b) []/\fr= .ok (.bl b) []:=by
 unfold rT at h
 split at h
 ·cases h;exact⟨_,rfl,rfl⟩
 ·cases h
theorem AB {F:FnT} {f:List D->Option FR}: ∀{cl:List (FnT×(List D->Option FR))},oM F cl=some f-> ∃p∈cl,F=p.1/\f=p.2
 |p::r,h=>by
  unfold oM at h
  split at h
  ·rename_i e
   cases h
   exact⟨p,List.mem_cons_self,e,rfl⟩
  ·obtain⟨q,hq,e⟩:=AB h
   exact⟨q,List.mem_cons_of_mem _ hq,e⟩
theorem I8 {S:Sa} (e:kO c v (H c)) {ds:List D} {vs:List V} (he:D.evs ds=true) (r:aD K S H ds vs):aD K (fun p=>del H c p≠none) (del H c) ds vs:=by
 obtain⟨N,hN,r2⟩:=aD.et (G:=fun _=>False) ds vs he r
 refine aD.mono (fun p hp=> ?_) (fun p hp=> ?_) ds vs r2
 ·rcases hp with z|z
  ·exact z.elim
  ·obtain⟨xs,q⟩:=hN p z
   show del H c p≠none
   rw[del_ne (kR e q fun _ y=>by cases y),q]
   simp
 ·rcases hp with z|z
  ·exact z.elim
  ·obtain⟨xs,q⟩:=hN p z
   exact hZ.of_eq fun u e2=>by rw[del_ne (kR e q fun _ y=>by cases y)];exact e2
theorem AD {B G:Sa}: ∀{ds:List D} {vs:List V},aD K B H ds vs->lC K B G H (List.replicate ds.length .bo) ds vs []
 | [],_,r=>by unfold aD at r;rw[r];rfl
 |d::ds,_,r=>by
  unfold aD at r
  obtain⟨v,r',rfl,h1,h2⟩:=r
  exact⟨[],[],⟨h1,rfl⟩,AD h2,rfl⟩
theorem Dh {B G:Sa}: ∀{ds:List D} {vs:List V} {L:List Addr},lC K B G H (List.replicate ds.length .bo) ds vs L->aD K B H ds vs
 | [],vs,_,a=>by
  cases vs with
  |nil=>exact .nil
  |cons _ _=>exact a.elim
 |d::ds,vs,_,a=>by
  cases vs with
  |nil=>exact a.elim
  |cons v vs=>
   obtain⟨L1,L2,h1,h2,_⟩:=a
   exact .cons h1.1 (Dh h2)
theorem I9 {k:Nat} {gl:List (Str×(List D->Option FR))} {cl:List (FnT×(List D->Option FR))} (hg: ∀p∈gl,I7 P w K mg base k p.1 p.2) (hc: ∀p∈cl,vF P w K mg base k p.1 p.2):rW P w K mg base k (fcD gl cl) where
 at_:=fun {h H S u v d ds fr} KI hok rv rep e=>by
  cases d with
  |glf x=>
   obtain⟨f,e1,_⟩:=bind1 (show (gl.lookup x).bind _=some fr from e)
   obtain⟨oc,od,fd,sl,lk⟩:=(hg (x,f) (PySem.mem_of_lookup e1)).lk
   unfold Rep at rep
   subst rep
   exact⟨_,rv,oc,od,fd,sl,KI _ _ lk⟩
  |clo F d=>
   unfold Rep at rep
   obtain⟨f,c',c,T,wv,rfl,⟨_,ef⟩,_⟩:=rep
   exact⟨_,rv,Ku hok ef⟩
  |_=>cases e
 run:=fun {A outer s H u us v vs Q E} hr e0 rv rvs ⟨O,dds,fr,eO,g,a,ef,q⟩=>by
  subst eO
  match dds,a,ef with
  |d::ds,⟨L1,L2,⟨rep,_⟩,ar,_⟩,ef=>
   cases d with
   |glf x=>
    obtain⟨f,e1,e2⟩:=bind1 (show (gl.lookup x).bind _=some fr from ef)
    obtain⟨r1,e3,e4⟩:=bind1 e2
    obtain⟨b,rfl,rfl⟩:=vG e4
    obtain⟨fd,ps,Fo,hb⟩:=(hg (x,f) (PySem.mem_of_lookup e1)).ok
    unfold Rep at rep
    subst rep
    cases (show u=Value.ref (He.ga K x) from rv)
    have sp:FSp K [.bo,.bo] (.rg .fz) f vs O.H0 Q E:=⟨O,ds,_,rfl,g,by
     obtain⟨hL1,hL2⟩:=(⟨by assumption,by assumption⟩:L1=[]/\O.L0=L1++L2)
     rw[hL2,hL1];exact ar,e3,q⟩
    have KI:K.In s.heap:=e0.mod.kin.keeps fun b o e=>(e0.bs b o e).1
    have hl:us.length=ps.length:=by rw[<-rvs.length];exact Fo.len _ _ _ _ sp
    have bb:=hb s us KI (by rw[List.append_nil];exact hl)
    rw[List.append_nil] at bb
    exact Fo.run A outer s O.H0 ⟨us,[]⟩ us vs Q E hr e0 bb rvs sp
   |clo F d=>
    have ef:(if D.evs ds=true then (oM F cl).bind fun f=>(f (ds++[d])).bind rT else none)=some fr:=ef
    by_cases hev:D.evs ds=true
    case neg=>rw[if_neg hev] at ef;cases ef
    rw[if_pos hev] at ef
    obtain⟨fs,e1,e2⟩:=bind1 ef
    obtain⟨r1,e3,e4⟩:=bind1 e2
    obtain⟨b,rfl,rfl⟩:=vG e4
    obtain⟨p,hp,rfl,rfl⟩:=AB e1
    have No:=hc p hp
    unfold Rep at rep
    obtain⟨f,c',c,T,wv,rfl,⟨sf,hf⟩,⟨sc',hc'⟩,⟨sc,hcell⟩,nT,rd⟩:=rep
    cases (show u=Value.ref f from rv)
    have hl2:ds.length=2:=(lC.len ar).2
    have ar':lC K O.B O.G0 O.H0 (List.replicate ds.length .bo) ds vs L2:=by rw[hl2];exact ar
    have rds:=I8 hcell hev (Dh ar')
    refine I6 No hr e0 hf hc' hcell rvs ⟨Org.all (del O.H0 c) (fun _=>False),ds++[d],.ok (.bl b) [],rfl,o9 (AA e0.hok hcell g.tb) (fun p z=>z.elim),?_,e3,fun v' H' G' r n φ eφ=> ?_⟩
    ·have rd2:Rep K (fun p=>del O.H0 c p≠none) (del O.H0 c) d wv:=Rep.mono (fun p z=>by
      show del O.H0 c p≠none
      rw[del_ne (show p≠c from fun y=>nT (y▸z.1.2))];exact z.2) (fun p z=>hZ.of_eq fun u e=>by rw[del_ne (show p≠c from fun y=>nT (y▸z.1.2))];exact e) d wv (Rep.dom d wv rd)
     have:=AD (B:=(Org.all (del O.H0 c) (fun _=>False)).B) (G:=(Org.all (del O.H0 c) (fun _=>False)).G0) (rds.append (.one rd2))
     rw[List.length_append,hl2] at this
     exact this
    ·have hvl:vs.length=2:=(lC.len ar).1
     have hp0:bF ([PM.bo,PM.bo]++[PM.bo]) (vs++[wv])=[]:=by
      match vs,hvl with
      | [_,_],_=>rfl
     have hp1:bF mV (V.ref f::vs)=[]:=by
      match vs,hvl with
      | [_,_],_=>rfl
     rw[hp0] at r
     obtain⟨_,x2,hv⟩:=rO r
     have hv:Rep K G' H' (.bl b) v':=hv O
     unfold Rep at hv
     refine q v' _ O.G0 ⟨[],[],⟨g.bin,fun p u e _ nt=> ?_,fun _ z=>z,fun _ z=>.inl z,fun p z=> ?_,fun p z=> ?_,List.nodup_nil,fun p m=>(nomatch m),fun p ps' e=> ?_,?_⟩,⟨by unfold Rep;exact hv,rfl⟩,by rw[hp1];rfl⟩
     ·by_cases hb:p=c
      ·rw[hb,upd_same,←eφ,←hb];exact e
      ·rw[upd_ne hb]
       exact x2.hh p u (by rw[del_ne hb];exact e) nt
     ·by_cases hb:p=c
      ·rw[hb,upd_same];simp
      ·rw[upd_ne hb]
       exact x2.dm p (by rw[del_ne hb];exact g.gin p z)
     ·by_cases hb:p=c
      ·rw[hb,upd_same];simp
      ·rw[upd_ne hb]
       exact x2.dm p (by rw[del_ne hb];exact z)
     ·have hb:=kR hcell e fun _ y=>by cases y
      obtain⟨ps2,e5⟩:=x2.tl p ps' (by rw[del_ne hb];exact e)
      exact⟨ps2,by rw[upd_ne hb];exact e5⟩
     ·exact LamX.Tabs.ext (x2.tb (AA e0.hok hcell g.tb)) fun b o e=>by
       rw[upd_ne (fun y=>by rw[y,n] at e;cases e)];exact e
   |_=>cases ef
  | [],a,ef=>cases ef
end
end Sw
namespace Sw
open PySem PySem.Spec PyProof.Rows L2
variable [NmC]
section
variable {X:Cx} {Δ:List Md} {st:Ds} {e:Expr} {es:List Expr} {rs:Option (List D)} {pos p:Pos} {vms:List VM} {Fs:List D->Option FR} {k k':Nat} {x:Str}
theorem vH (i:Nat) {md:Md} {d:D} (C:rW X.prog X.w X.K X.mg X.base k Fs) (hr:Room k' X.A) (hm:Δ[i]? =some md) (hd:st[i]? =some (some d)) (hN:X.N[i]? =some x) (hv:Vis X.env.scope x) (ha:PAx X Δ st (e::es) vms rs) (hk:k<=k':=by decide) (ok:pb [.bo,.bo] vms=true:=by rfl) (hmd:md= .bo\/md= .fz:=by first|exact .inl rfl|exact .inr rfl)
  (hdb:(x==("__debug__" :Str))=false:=by decide) (hcd:(x==("__classdict__" :Str))=false:=by decide) (he:starEach (e::es) X.env=(false,eval e X.env)::starEach es X.env:=by rfl) (hpl:(backTo pos (starEach es X.env)).any (·.1)=false:=by rfl):
  PX X Δ st (.Call (.Name x p) (e::es) [] pos) (.rg .fz) (aP Fs (aj (some d) rs)):=by
 refine⟨fun pins s σ H Q I ⟨O,G,dr,rel,er,kk⟩=> ?_⟩
 obtain⟨dds,e1,e2⟩:=bind1 er
 obtain⟨d',e3,e4⟩:=bind1 e1
 cases e3
 obtain⟨ds,e5,e6⟩:=bind1 e4
 cases e6
 obtain⟨fr,e7,e8⟩:=bind1 e2
 obtain⟨v,hs,rep⟩: ∃v,σ[i]? =some (some v)/\Rep X.K (fun _=>True) H d v:=by
  obtain⟨L,g,sl⟩:=rel
  obtain⟨x',y',L1,L2,ex,ey,sr,pm,_⟩:=sl.split hm
  rw[hd] at ex;cases ex
  rcases hmd with rfl|rfl
  ·obtain⟨v,e1,r1,_⟩:=sr;subst e1;exact⟨v,ey,Rep.mono (fun _ _=>trivial) aB _ _ r1⟩
  ·obtain⟨v,e1,r1,_⟩:=sr;subst e1;exact⟨v,ey,Rep.mono (fun _ _=>trivial) aB _ _ r1⟩
 refine wpAny_Call_Name_kw (thn ((pe_var (pos:=p) hN hv hdb hcd).run pins s σ H (fun v1 H1=>v1=v/\H1=H) I ⟨v,hs,rfl,rfl⟩) fun u s1 ⟨v1,H1,I1,r1,q1⟩=> ?_)
 obtain⟨rfl,rfl⟩:=q1
 obtain⟨q,rfl,fa⟩:=C.at_ I1.kIn I1.hok r1 rep e7
 refine PySem.W.callWith_F (first:=[]) fa (thn (ha.run pos pins s1 σ H1 (fun vs H2=>Rep X.K (fun _=>True) H2 d v1/\FSp X.K mV (.rg .fz) Fs (v1::vs) H2 Q E0) I1 (rdA.go rel e5 fun vs H2 G2 rel2 x2 v2=> ?_)) fun us s2 ⟨vs,H2,I2,r2,rep2,sp⟩=> ?_) he hpl
 ·have rep2:Rep X.K (fun _=>True) H2 d v1:=Rep.mono (fun _ _=>trivial) x2.agr d v1 rep
  refine⟨rep2,?_⟩
  obtain⟨ha,hp⟩:=rN ok v2
  refine⟨Org.all H2 G2,d::ds,fr,rfl,o9 rel2.tb rel2.gin,⟨[],[],⟨Rep.mono (fun p h=>h.2) aB d v1 (Rep.dom d v1 rep2),rfl⟩,ha,rfl⟩,e7,?_⟩
  cases fr with
  |er x=>cases e8
  |ok d'' os=>
   cases os with
   |cons _ _=>cases e8
   |nil=>
    cases e8
    refine fun v H' G' r=> ?_
    rw[show bF mV (v1::vs)=bF [.bo,.bo] vs from rfl,hp] at r
    obtain⟨_,x3,hv⟩:=rO r
    exact kk v H' G' (x2.trans x3) ((hv O).back x2)
 ·obtain⟨q2,eq2,fa2⟩:=C.at_ I2.kIn I2.hok r1 rep2 e7
  cases eq2
  refine⟨fa2,?_⟩
  show wpAny _ _ (call (.ref q) us) _ _ _
  refine wpAny_call (codeAny_mono (C.run (hr.mono hk) I2.env0 r1 r2 sp) fun r s' hq=> ?_)
  match r,hq with
  | .error _,hq=>exact hq.elim
  | .ok (.ret u),hq=>exact I2.after hq
  | .ok .next,hq=>exact hq.elim
  | .ok .brk,hq=>exact hq.elim
  | .ok .cont,hq=>exact hq.elim
end
def xW (c:Addr) (v:V):Heap->Prop:=fun h=> ∃u,L2.RelV v u/\h.IsCell c (some u)
section
variable {P:Program} {w:World} {K:Frg} {mg:Str->Option Value} {base:Heap}
abbrev fnT (nst:Stmt) (n qual y:Str):FnT:=⟨n,qual++".<locals>." ++n,C8.fnArgs nst,C8.fnBody nst,C8.fnScope nst,y,none⟩
theorem Di {x qual y n:Str} {st nst:Stmt} {f:Addr} {fd:FuncData} {k:Nat} {p rpos npos:Pos} (F:Fun K x qual st f fd) (S:FnScope [y,n] [y] (defScope st)) (Lm:l6 base mg fd.code (qual++".<locals>." ++n)) (hbody:defBody st=[nst,.Return (some (.Name n p)) rpos])
  (hnst:nst= .FunctionDef n (C8.fnArgs nst) (C8.fnBody nst) [] none [] (C8.fnScope nst) none n npos) (hfree:NdefX.ndefB (defScope st) (C8.fnScope nst) [y]=true) (hd0:(C8.fnArgs nst).defaults=[]) (hk0:(C8.fnArgs nst).kw_defaults=[]) (hann: ∀env,annTrees (C8.fnArgs nst) none env=[])
  (hcl: ∀cells,cloFrom cells (C8.fnScope nst).names []=[(y,(cells.lookup y).getD 0)]) (hyc:(defScope st).names.lookup y=some .cell) (hnl:(defScope st).names.lookup n=some .local) (hdb:(n==("__debug__" :Str))=false:=by decide) (hcd:(n==("__classdict__" :Str))=false:=by decide)
  (hsw: ∀env,swapsWith (.Name n p) none rpos.line env=pure false:=by intro _;rfl):
  FnOk P w K mg base CX0 (k+1) f fd [y] (FSp K [.fz] (.rg .fz) (fn1 fun d=>some (.ok (.clo (fnT nst n qual y) d) []))):=by
 obtain⟨oc,od,kV,doc,pm,an,cdv,ct,osl,rfl,lk,hcode⟩:=F.ex
 obtain⟨cc,PP,t⟩:=Lm
 have len: ∀vs H Q E,FSp K [.fz] (.rg .fz) (fn1 fun d=>some (.ok (.clo (fnT nst n qual y) d) [])) vs H Q E->vs.length=[y].length:=fun vs H Q E ⟨O,ds,fr,e,g,a,_⟩=>a.len.1
 refine⟨len,fun A outer s H args us vs Q E hr e0 hb r hsp=> ?_⟩
 have hl:=len _ _ _ _ hsp
 have KX:K.In s.heap:=e0.mod.kin.keeps fun b o e=>(e0.bs b o e).1
 have lim:s.heap.NoLimit:=e0.mod.nolimit.keeps fun b o e=>(e0.bs b o e).1
 have kinds: ∀z∈[y].zip us,(defScope st).names.lookup z.1=some .local\/((defScope st).names.lookup z.1=some .cell/\((cellsFrom (s.heap.objs.size+1) (defScope st).names []).lookup z.1).isSome=true):=fun⟨m,v⟩ hz=>by
  rcases S.par m (List.of_mem_zip hz).1 with q|q
  ·exact .inl q
  ·exact .inr ⟨q,PySem.W.cellsFrom_some _ _ _ (.inl q)⟩
 refine codeAny_call_function hr.depth (KX _ _ lk) rfl S.co S.gen rfl (PySem.W.codeRec_of KX hcode) (hb _ _ _ _ ?_)
 refine wpAny_newFunctionEnv_cells S.kind kinds fun env he s1 xx=> ?_
 subst he
 refine⟨lim.keeps xx.toInCall.keep,codeAny_func ?_⟩
 have I:Inv (cxOf CX0 P w K mg base [y,n] qual (defScope st) f cdv A outer s H E) [] (start [y,n] vs) H s1:=inv_start S hr.hd e0 hl r xx
 obtain⟨O,ds,fr,eO,g,a,ef,q⟩:=hsp
 subst eO
 match ds,vs,a,ef,hl with
 | [d],[v],⟨M1,M2,⟨rep,hL1⟩,hL2,hL0⟩,ef,_=>
 cases ef
 rw[show defBody st=[nst,.Return (some (.Name n p)) rpos] from hbody]
 have tN:NdefX.TabsN (NmC.T.map fun p=>(p.1,fun _ _=>p.2)) O.H0:=fun p hp=>by
  obtain⟨p0,hp0,rfl⟩:=List.mem_map.mp hp
  exact NdefX.TabN.of (g.tb p0 hp0)
 have pn:=NdefX.ps_ndefMS (X:=cxOf CX0 P w K mg base [y,n] qual (defScope st) f cdv A outer s O.H0 E) (st:=nst) (T:=NmC.T.map fun p=>(p.1,fun _ _=>p.2)) (nm:=fun _ _=>qual++".<locals>." ++n) (c:=cc) (P:=PP) (name:=n) (pos:=npos) (i:=1) hnst t.tb (show cdv=_ from t.code)
  (List.mem_map.mpr ⟨_,t.mem,rfl⟩) rfl (fun p hp e=>by
   obtain⟨p0,hp0,rfl⟩:=List.mem_map.mp hp
   have:=t.uni p0 hp0 e
   funext _ _;exact this) (NdefX.ndef_free hfree) hd0 hk0 (hann _) S.nd rfl (.inl hnl) (.inr hnl)
 refine wpAny_execs_cons (thn (pn.run [] s1 _ O.H0 {nx:=fun σ' H1=> ∃f' c',σ'=[some v,some (.ref f')]/\LamX.ExtN O.H0 H1/\(∀b,H1 b=none->O.H0 b=none)/\NdefX.TabsN (NmC.T.map fun p=>(p.1,fun _ _=>p.2)) H1/\O.H0 f'=none/\H1 f'=some (NdefX.FnO f' ((fnT nst n qual y).nf (((cxOf CX0 P w K mg base [y,n] qual (defScope st) f cdv A outer s O.H0 E).env.cells.lookup y).getD 0) c'))/\H1 c'=some (LamX.CodeO c' (qual++".<locals>." ++n)),rt:=fun _ _=>False} I ⟨tN,fun f' c' H1 h1 h2 h3 h4 h5 h6=>⟨f',c',rfl,h1,h2,h3,h4,by
   have z:=h5
   unfold NdefX.NF.of at z
   rw[hcl] at z
   exact z,h6⟩⟩) fun fl s2 hs=> ?_)
 match fl,hs with
 | .brk,⟨_,_,_,z⟩=>exact z.elim
 | .cont,⟨_,_,_,z⟩=>exact z.elim
 | .ret _,⟨_,_,_,_,_,z⟩=>exact z.elim
 | .next,⟨σ',H1,I1,f',c',eσ,eN,bk,t1,nf',hf',hc'⟩=>
 subst eσ
 refine wpAny_execs_cons (wpAny_Return_some (thn ((pe_var (i:=1) (pos:=p) (x:=n) rfl (.inl hnl) hdb hcd).run [] s2 _ H1 (fun v1 H2=>v1= .ref f'/\H2=H1) I1 ⟨.ref f',rfl,rfl,rfl⟩) fun u3 s3 ⟨v3,H3,I3,r3,q3⟩=> ?_))
 obtain⟨rfl,rfl⟩:=q3
 obtain⟨c,hlk⟩:=I1.ok.has y (.inl hyc)
 rw[hlk] at hf'
 have hf':H3 f'=some (NdefX.FnO f' ((fnT nst n qual y).nf c c')):=hf'
 obtain⟨uc,ruc,cellu⟩: ∃u,L2.RelV v u/\s3.heap.IsCell c (some u):=by
  obtain⟨m,hn,hlo⟩:=I3.loc
  obtain⟨u,ru,lo⟩:=hlo 0 y v rfl rfl (.inr (.inl hyc))
  rcases lo with ⟨z,_⟩|⟨_,a',ha',hcell⟩
  ·have z:(defScope st).names.lookup y=some .local:=z
   rw[hyc] at z;cases z
  ·rw[hlk] at ha';cases ha'
   exact⟨u,ru,hcell⟩
 have abv:s.heap.objs.size<c:=xx.above y c (PySem.mem_of_lookup hlk)
 have n1:H3 c=none:=I3.freeC y c hlk
 have ne1: ∀{b:Addr} {z:HO},H3 b=some z->b≠c:=fun q y=>by rw[y,n1] at q;cases q
 have old: ∀{b:Addr} {o:Obj},s.heap.get? b=some o->b≠c:=fun q y=>by
  have:=Heap.lt_size q
  rw[y] at this
  exact Nat.lt_asymm this abv
 have keepN: ∀(b:Addr) (u:HO),O.H0 b=some u->NT u->upd H3 c (.ext (xW c v)) b=some u:=fun b u e nt=>by
  have e1:=eN b u e nt
  rw[upd_ne (ne1 e1)];exact e1
 have below: ∀b,O.H0 b≠none->b<c:=fun b hb=>by
  rcases Nat.lt_or_ge b s.heap.objs.size with z|z
  ·exact Nat.lt_trans z abv
  ·exact absurd (e0.hok.fresh z) hb
 have un0:Un (frs outer) [] O.H0 H3 s.heap s3.heap:=I3.base
 have tblE: ∀(b:Addr) (ps:Array Value),O.H0 b=some (.tbl ps)-> ∃ps',upd H3 c (.ext (xW c v)) b=some (.tbl ps'):=fun b ps e=>by
  obtain⟨more,e1⟩:=un0.tbls b ps e
  exact⟨_,by rw[upd_ne (ne1 e1)];exact e1⟩
 have un1:Un (frs outer) [] O.H0 (upd H3 c (.ext (xW c v))) s.heap s3.heap:=⟨un0.keep,un0.slot,fun b o z m hx=>by rw[upd_ne (old z)];exact un0.free b o z m hx,un0.there,fun b xs z=>by
   have:=un0.tups b xs z
   rw[upd_ne (ne1 this)];exact this,fun b o u z=>by
   have:=un0.frzs b o u z
   rw[upd_ne (ne1 this)];exact this,fun b ps z=>by
   obtain⟨more,e1⟩:=un0.tbls b ps z
   exact⟨more,by rw[upd_ne (ne1 e1)];exact e1⟩⟩
 have hok1:HOk P w (upd H3 c (.ext (xW c v))) s3.heap:=fun a o z=>by
  by_cases hb:a=c
  ·rw[hb,upd_same] at z
   cases z
   rw[hb]
   obtain⟨o0,g1,d0⟩:=cellu
   exact⟨⟨uc,ruc,o0,g1,d0⟩,⟨o0,g1⟩,fun h1 h2 ⟨u,r,o,g,d⟩ st=>⟨u,r,o,st o g,d⟩⟩
  ·rw[upd_ne hb] at z
   exact (I3.hok a o z).stay (fun _ _ _ y=>y) (fun b y=>by rw[upd_ne (ne1 y)];exact y) (fun b xs y=>by rw[upd_ne (ne1 y)];exact y)
 refine⟨.ref f',upd H3 c (.ext (xW c v)),I3.os,I3.bare,un1,hok1,r3,q _ _ (fun p=>O.G0 p\/p=f'\/p=c'\/p=c) ⟨[],[],⟨g.bin,fun p u e _ nt=>keepN p u e nt,fun p z=>.inl z,fun p hp=> ?_,fun p hp=> ?_,fun p hp=> ?_,List.nodup_nil,fun p m=>(nomatch m),fun p ps e=>tblE p ps e,fun p hp=> ?_⟩,⟨?_,rfl⟩,rfl⟩⟩
 ·rcases hp with z|rfl|rfl|rfl
  ·exact .inl z
  ·exact .inr (.inl nf')
  ·cases e:O.H0 p with
   |none=>exact .inr (.inl rfl)
   |some u=>
    rcases xD u with nt|⟨ps,rfl⟩
    ·have e1:=eN p u e nt
     rw[hc'] at e1
     cases e1
     exact .inr (.inr (.inl ⟨.inr _,rfl⟩))
    ·obtain⟨more,e1⟩:=un0.tbls p ps e
     rw[hc'] at e1
     cases e1
  ·exact .inr (.inl (bk p n1))
 ·rcases hp with z|rfl|rfl|rfl
  ·cases e:O.H0 p with
   |none=>exact absurd e (g.gin p z)
   |some u=>
    rcases xD u with nt|⟨ps,rfl⟩
    ·rw[keepN p u e nt];simp
    ·obtain⟨ps',e1⟩:=tblE p ps e
     rw[e1];simp
  ·rw[upd_ne (ne1 hf'),hf'];simp
  ·rw[upd_ne (ne1 hc'),hc'];simp
  ·rw[upd_same];simp
 ·cases e:O.H0 p with
  |none=>exact absurd e hp
  |some u=>
   rcases xD u with nt|⟨ps,rfl⟩
   ·rw[keepN p u e nt];simp
   ·obtain⟨ps',e1⟩:=tblE p ps e
    rw[e1];simp
 ·have z:=NdefX.TabN.to (t1 (p.1,fun _ _=>p.2) (List.mem_map.mpr ⟨p,hp,rfl⟩))
  exact z.ext fun b o e=>by rw[upd_ne (ne1 e)];exact e
 ·unfold Rep
  refine⟨f',c',c,fun p=>p<c,v,rfl,⟨.inr (.inl rfl),by rw[upd_ne (ne1 hf'),hf'];rfl⟩,⟨.inr (.inr (.inl rfl)),by rw[upd_ne (ne1 hc')];exact hc'⟩,⟨.inr (.inr (.inr rfl)),xW c v,upd_same,fun _ z=>z⟩,Nat.lt_irrefl _,?_⟩
  refine Rep.mono (fun p z=>⟨.inl z,below p (g.gin p z)⟩) (fun p z=>hZ.xE fun u nt e=>keepN p u e nt) d v rep
end
end Sw
namespace Sw
open PySem PySem.Spec PyProof.Rows L2
variable [NmC]
section
variable {X:Cx} {Δ:List Md} {st:Ds} {o e ix:Expr} {es:List Expr} {rf ra rb:Option D} {rs:Option (List D)} {pos p apos:Pos} {r r2 rg:Rg} {vms:List VM} {Fs:List D->Option FR} {k k':Nat} {x:Str}
theorem LJ:allM (.rg .fz) [.rg .fz,.rg .fz,.rg .fz,.rg .fz,.rg .fz,.rg .fz,.rg .fz,.rg .fz,.rg .fz]:=⟨rfl,rfl,rfl,rfl,rfl,rfl,rfl,rfl,rfl,trivial⟩
theorem Gg {x:Str} {pos:Pos} (hm:X.mg x=some (.ref (He.ga X.K x))) (hg:Gl X x:=by rfl) (hd:(x==("__debug__" :Str))=false:=by decide):PX X Δ st (.Name x pos) (.rg rg) (some (.glf x)):=
 cg (pe_glob hg hm (v:=.ref (He.ga X.K x)) rfl hd) fun σ H Q ⟨O,G,d,rel,er,k⟩=>by
  cases er
  exact k _ H G .refl (by unfold bD Rep;rfl)
def D.starts (x y:D):Option D:=match x,y with
 | .str u,.str w=>some (.bl (Txt.startswith u w))
 |_,_=>none
theorem Es (ho:PX X Δ st o (.rg r) ra) (he:PX X Δ st e (.rg r2) rb) (hs:starEach [e] X.env=[(false,eval e X.env)]:=by rfl) (hbase:attributeBase o "startswith" X.env (eval o X.env)=eval o X.env:=by rfl) (hline:(apos.endLine==pos.line)=true:=by rfl):
  PX X Δ st (.Call (.Attribute o "startswith" apos) [e] [] pos) (.rg rg) (b2 D.starts ra rb):=cg (pe_m1 PySem.F.slot_str_startswith PySem.F.type_str_startswith mt_startswith ho he hs hbase hline) fun σ H Q ⟨O,G,d,rel,er,k⟩=>by
 obtain⟨x,y,e1,e2,e3⟩:=cj er
 cases x <;> first|(cases e3;done)|skip
 cases y <;> first|(cases e3;done)|skip
 rename_i u w
 cases e3
 refine rdE.go rel e1 fun v H1 G1 rel1 x1 v1=>⟨⟨u,v1.str⟩,rdE.go rel1 e2 fun v' H2 G2 rel2 x2 v2=> ?_⟩
 exact⟨u,w,v1.str,by rw[v2.str],k _ _ _ (x1.trans x2) l5⟩
end
end Sw
namespace Sw
open PySem PySem.Spec PyProof.Rows L2
variable [NmC]
section
variable {K:Frg} {B G G':Sa} {H H':Hp}
theorem xX: ∀{n:Nat} {ds:List D} {vs:List V} {L:List Addr},lC K B G H (List.replicate n .bo) ds vs L->L=[]
 |0,[],[],_,h=>h
 |n+1,d::ds,v::vs,_,⟨L1,L2,h1,h2,e⟩=>by rw[e,h1.2,xX h2];rfl
 |0,_::_,_,_,h=>h.elim
 |0,[],_::_,_,h=>h.elim
 |_+1,[],_,_,h=>h.elim
 |_+1,_::_,[],_,h=>h.elim
theorem b9.Gh {κ:Type} {R R':D->V->List Addr->Prop} {P:Addr->Prop}: ∀(ds:List (κ×D)) (vs:List (κ×V)) (L:List Addr),(∀x∈ds,∀v L,(∀p∈L,P p)->R x.2 v L->R' x.2 v L)->(∀p∈L,P p)->b9 R ds vs L->b9 R' ds vs L
 | [],_,_,_,_,o=>o
 |(k,d)::ds,_,_,h,hp,⟨v,r,L1,L2,e1,o1,o2,e2⟩=>by
  subst e2
  exact⟨v,r,L1,L2,e1,h (k,d) List.mem_cons_self _ _ (fun p m=>hp p (List.mem_append_left _ m)) o1,b9.Gh ds r L2 (fun x hx=>h x (List.mem_cons_of_mem _ hx)) (fun p m=>hp p (List.mem_append_right _ m)) o2,rfl⟩
def D.isI:D->Bool
 | .int _=>true
 |_=>false
def D.isR:D->Bool
 | .dct r=>r.all fun q=>q.2.isI
 |_=>false
def D.wb:D->Option D
 | .dct ks=>if (ks.all fun p=>p.2.isR)=true then some (.dct ks) else none
 |_=>none
theorem D.Ja {d d':D} (h:D.wb d=some d'):d'=d/\ ∃ks,d= .dct ks/\ ∀p∈ks,p.2.isR=true:=by
 cases d <;> first|(cases h;done)|skip
 rename_i ks
 obtain⟨a,rfl⟩:=aH (show (if (ks.all fun p=>p.2.isR)=true then some (D.dct ks) else none)=some d' from h)
 exact⟨rfl,ks,rfl,fun p hp=>List.all_eq_true.mp a p hp⟩
theorem LK {ks:List (Key×D)} (h: ∀p∈ks,p.2.isR=true) {v:V} {L:List Addr} (hl: ∀p∈L,H' p=H p) (o:Own K G H (.dc (.dc .fz)) (.dct ks) v L):Own K G' H' (.dc (.dc .fz)) (.dct ks) v L:=by
 unfold Own at o⊢
 obtain⟨a,vs,ds,L',e1,e2,e3,nd,o1,rfl⟩:=o
 cases e1
 refine⟨a,vs,_,L',rfl,e2,(hl a List.mem_cons_self).trans e3,nd,b9.Gh (P:=fun p=>H' p=H p) _ _ _ (fun x hx v L hp o=> ?_) (fun p m=>hl p (List.mem_cons_of_mem _ m)) o1,rfl⟩
 have hr:=h x hx
 unfold Own at o⊢
 obtain⟨a2,vs2,ds2,L2,f1,f2,f3,nd2,o2,rfl⟩:=o
 rw[f1] at hr
 refine⟨a2,vs2,ds2,L2,f1,f2,(hp a2 List.mem_cons_self).trans f3,nd2,b9.Gh (P:=fun p=>H' p=H p) _ _ _ (fun y hy v L hp o=> ?_) (fun p m=>hp p (List.mem_cons_of_mem _ m)) o2,rfl⟩
 have hi:=List.all_eq_true.mp (show (ds2.all fun q=>q.2.isI)=true from hr) y hy
 unfold Own at o⊢
 obtain⟨o,e⟩:=o
 refine⟨?_,e⟩
 cases q:y.2 with
 |int i=>rw[q] at o;unfold Rep at o ⊢; exact o
 |_=>rw[q] at hi;cases hi
end
section
variable {P:Program} {w:World} {K:Frg} {mg:Str->Option Value} {base:Heap}
theorem Gj {F:FnT} {b:Expr} {x1 x2:Str} {k:Nat} {g:D->D->D->Option D} (he:F.ex=some b) (S:NdefX.NScope [x1,x2,F.y] [x1,x2] [F.y] F.scope)
  (hb: ∀(q:Str) (cl:List (Str×Addr)) (pm cv ctv u1 u2:Value),bindArgs (PySem.W.kla_fn "<lambda>" q F.params b F.scope cl pm cv ctv) ⟨[u1,u2],[]⟩=pure [(x1,u1),(x2,u2)])
  (hbody: ∀(A:Around) (outer:List Env) (s:Shared) (H:Hp) (E:XK) (f c c':Addr),Room k (A.deeper (NdefX.envF (F.lf b c c').nf f s.heap.objs.size))-> ∀d1 d2 d3:D,
   PX (NdefX.ncx CX0 P w K mg base [x1,x2,F.y] (F.lf b c c').nf f A outer s H E) [.bo,.bo,.bo] [some d1,some d2,some d3] b (.rg .fz) (g d1 d2 d3)):
  vF P w K mg base (k+1) F (fn3 fun x y z=>(g x y z).map fun d=>.ok d []):=by
 intro f c c' A outer s H us vs wv Q E hr e0 ef ec C r ⟨O,ds,fr,eO,gr,ar,efr,q⟩
 subst eO
 have nl:=xX (n:=3) ar
 have ef:O.H0 f=some (ql f (F.lf b c c')):=by
  unfold FnT.ho at ef
  rw[he] at ef;exact ef
 obtain⟨v1,v2,rfl⟩: ∃v1 v2,vs=[v1,v2]:=by
  have:vs.length=2:=by
   have:=(lC.len ar).1
   rw[List.length_append] at this
   simpa using this
  match vs,this with
  | [v1,v2],_=>exact⟨v1,v2,rfl⟩
 obtain⟨d1,d2,d3,rfl⟩: ∃d1 d2 d3,ds=[d1,d2,d3]:=by
  have:=(lC.len ar).2
  match ds,this with
  | [d1,d2,d3],_=>exact⟨d1,d2,d3,rfl⟩
 obtain⟨u1,u2,rfl⟩: ∃u1 u2,us=[u1,u2]:=by
  have:=r.length
  match us,this with
  | [u1,u2],_=>exact⟨u1,u2,rfl⟩
 obtain⟨d,e1,e2⟩: ∃d,g d1 d2 d3=some d/\fr= .ok d []:=by
  have efr:(g d1 d2 d3).map (fun d=>FR.ok d [])=some fr:=efr
  cases h:g d1 d2 d3 with
  |none=>rw[h] at efr;cases efr
  |some d=>rw[h] at efr;cases efr;exact⟨d,rfl,rfl⟩
 subst e2
 refine F8 (F:=F.lf b c c') (N:=[x1,x2,F.y]) (ps:=[x1,x2]) (fr:=[F.y]) (ws:=[some wv]) (t:=rdE K [.bo,.bo,.bo] [some d1,some d2,some d3] (.rg .fz) (g d1 d2 d3)) S (fun pm ctv=>hb _ _ _ _ _ _ _) hr e0 ef ec C r rfl (fun hr'=>hbody _ _ _ _ _ _ _ _ hr' d1 d2 d3) ?_
 refine⟨O,O.G0,d,⟨O.L0,gr,nK (n:=0) ar⟩,e1,fun v H' G' x hv=>q v H' G' ⟨[],[],?_,⟨hv,rfl⟩,rfl⟩⟩
 rw[nl] at gr
 exact gr.ext x (fun p m=>nomatch m) (x.gin gr.gin)
variable {H:Hp} {c:Addr} {o:Obj}
def mM (c:Addr) (o:Obj):Heap->Prop:=fun h=>h.get? c=some o
theorem Jb {h:Heap} (hok:HOk P w H h) (n:H c=none) (e:h.get? c=some o):HOk P w (upd H c (.ext (mM c o))) h:=fun a u z=>by
 have ne: ∀{b:Addr} {z:HO},H b=some z->b≠c:=fun q y=>by rw[y,n] at q;cases q
 by_cases hb:a=c
 ·rw[hb,upd_same] at z
  cases z
  rw[hb]
  exact⟨e,⟨o,e⟩,fun h1 h2 q st=>st o q⟩
 ·rw[upd_ne hb] at z
  exact (hok a u z).stay (fun _ _ _ y=>y) (fun b y=>by rw[upd_ne (ne y)];exact y) (fun b xs y=>by rw[upd_ne (ne y)];exact y)
theorem Gk {A:Around} {outer:List Env} {s:Shared} (e0:Env0 P w K mg base A outer s H) (n:H c=none) (e:s.heap.get? c=some o) (hb:base.get? c=none) (hf:c∉frs outer):Env0 P w K mg base A outer s (upd H c (.ext (mM c o))):=
 ⟨e0.frames,e0.mod,fun b u z=>⟨(e0.bs b u z).1,by rw[upd_ne (show b≠c from fun y=>by rw[y,hb] at z;cases z)];exact (e0.bs b u z).2⟩,e0.bsz,e0.funs,fun b m=>by rw[upd_ne (show b≠c from fun y=>hf (y▸m))];exact e0.frf b m,Jb e0.hok n e,e0.bare⟩
theorem Jc {outer:List Env} {s s':Shared} {Q Q':VK} {u:Value} (n:H c=none) (e:s.heap.get? c=some o) (ho: ∃v,o.data= .cell v) (x:CE outer P w (upd H c (.ext (mM c o))) s Q' u s')
  (hf:c∉frs outer) (hq: ∀v' H',Q' v' H'->H' c=some (.ext (mM c o))/\Q v' (del H' c)):CE outer P w H s Q u s':=by
 obtain⟨v',H',os,ba,un,hk,rv,q⟩:=x
 obtain⟨hc,q⟩:=hq v' H' q
 obtain⟨kc,_,_⟩:=hk c _ hc
 have ne: ∀{b:Addr} {z:HO},H b=some z->b≠c:=fun q y=>by rw[y,n] at q;cases q
 have ne': ∀{b:Addr} {z:HO},H' b=some z->(∀φ,z≠ .ext φ)->b≠c:=fun q d y=>by rw[y,hc] at q;cases q;exact d _ rfl
 refine⟨v',del H' c,os,ba,⟨fun b z g m=> ?_,fun b z g m i=> ?_,fun b z g m=> ?_,un.there,fun b xs z=> ?_,fun b z u y=> ?_,fun b ps z=> ?_⟩,fun a z y=> ?_,rv,q⟩
 ·by_cases hb:b=c
  ·rw[hb] at g⊢
   rw[e] at g;cases g
   exact fun _ _=>kc
  ·exact un.keep b z g (by rw[upd_ne hb];exact m)
 ·have hb:b≠c:=fun y=>hf (y▸i)
  exact un.slot b z g (by rw[upd_ne hb];exact m) i
 ·by_cases hb:b=c
  ·rw[hb];exact fun _=>del_same
  ·exact fun hx=>by rw[del_ne hb];exact un.free b z g (by rw[upd_ne hb];exact m) hx
 ·have:=un.tups b xs (by rw[upd_ne (ne z)];exact z)
  rw[del_ne (ne z)];exact this
 ·have:=un.frzs b z u (by rw[upd_ne (ne y)];exact y)
  rw[del_ne (ne y)];exact this
 ·obtain⟨more,this⟩:=un.tbls b ps (by rw[upd_ne (ne z)];exact z)
  exact⟨more,by rw[del_ne (ne z)];exact this⟩
 ·by_cases hb:a=c
  ·rw[hb,del_same] at y;cases y
  ·rw[del_ne hb] at y
   exact (hk a z y).stay (fun _ _ _ y=>y) (fun b y=>by rw[del_ne (ne' y fun _ z=>by cases z)];exact y) (fun b xs y=>by rw[del_ne (ne' y fun _ z=>by cases z)];exact y)
end
end Sw
namespace Sw
open PySem PySem.Spec PyProof.Rows L2
variable [NmC]
structure Np (X:Cx) (c P:Addr) (params:Arguments) (scope:Scope) (y:Str) (j:Nat):Prop where
 tb:LamX.TabB X.base X.mg c P
 code:X.env.code= .ref c
 mem:(P,X.env.qual++"<lambda>")∈NmC.T
 uni: ∀p∈NmC.T,p.1=P->p.2=X.env.qual++"<lambda>"
 dflt:defaultsOf params X.env=([],[])
 free:NdefX.ndefB X.env.scope scope [y]=true
 at_:X.N[j]? =some y
 cl: ∀cells,cloFrom cells scope.names []=[(y,(cells.lookup y).getD 0)]
 fn:X.fn y=true
theorem Pk {X:Cx} {c P:Addr} {params:Arguments} {scope:Scope} {y:Str} {j:Nat} (t:TabAt X.base X.mg X.env.code (X.env.qual++"<lambda>") c P) (dflt:defaultsOf params X.env=([],[])) (free:NdefX.ndefB X.env.scope scope [y]=true) (at_:X.N[j]? =some y)
  (cl: ∀cells,cloFrom cells scope.names []=[(y,(cells.lookup y).getD 0)]) (fn:X.fn y=true):Np X c P params scope y j:=⟨t.tb,t.code,t.mem,t.uni,dflt,free,at_,cl,fn⟩
section
variable {X:Cx} {Δ:List Md} {st:Ds} {e body:Expr} {r1:Option D} {pos p lpos:Pos} {params:Arguments} {scope:Scope} {y x:Str} {j k k':Nat} {c0 P0:Addr} {m1:VM} {Fs:List D->Option FR} {FL:FnT} {dj:D} {pn:List Str}
theorem Gn (C:Cal X.prog X.w X.K X.mg X.base k x pn [.bo,.bo] (.nw (.dc (.dc .fz))) Fs) (hr:Room k' X.A) (w:Np X c0 P0 params scope y j) (hF:FL=⟨"<lambda>",X.env.qual++"<lambda>",params,[],scope,y,some body⟩) (hst:st[j]? =some (some dj)) (he1:PX X Δ st e m1 r1)
  (hg:Gl X x:=by rfl) (hk:k<=k':=by decide) (ok:pb [.bo] [m1]=true:=by rfl) (hdb:(x==("__debug__" :Str))=false:=by decide)
  (hs1:starEach [e,.Lambda params body scope lpos] X.env=(false,eval e X.env)::starEach [.Lambda params body scope lpos] X.env:=by rfl) (hs2:starEach [.Lambda params body scope lpos] X.env=(false,eval (.Lambda params body scope lpos) X.env)::starEach [] X.env:=by rfl)
  (hpl:(backTo pos (starEach [.Lambda params body scope lpos] X.env)).any (·.1)=false:=by rfl):
  PX X Δ st (.Call (.Name x p) [e,.Lambda params body scope lpos] [] pos) (.nw (.dc (.dc .fz))) ((aP Fs (aj r1 (aj (some (.clo FL dj)) aN))).bind D.wb):=by
 refine⟨fun pins s σ H Q I ⟨O,G,dr,rel,er,kk⟩=> ?_⟩
 obtain⟨dw,e1,e2⟩:=bind1 er
 obtain⟨dds,e3,e4⟩:=bind1 e1
 obtain⟨d1,e5,e6⟩:=bind1 e3
 obtain⟨d2,e7,e8⟩:=bind1 e6
 cases e8
 obtain⟨q2,e9,e10⟩:=bind1 e7
 cases e9;cases e10
 obtain⟨fr,e11,e12⟩:=bind1 e4
 obtain⟨g,fd,F,hm,hkp,hb⟩:=C.ok
 have mk:PE X (.Lambda params body scope lpos) (fun σ H Q=>LamX.Tabs NmC.T H/\ ∀(f c':Addr) (H1:Hp),LamX.ExtN H H1->LamX.Tabs NmC.T H1->(∀b ps,H b=some (.tbl ps)-> ∃ps',H1 b=some (.tbl ps'))->H f=none→
   H1 f=some (ql f ⟨X.env.qual++"<lambda>",params,body,scope,cloFrom X.env.cells scope.names [],c'⟩)->H1 c'=some (LamX.CodeO c' (X.env.qual++"<lambda>"))->Q (.ref f) H1):=⟨fun pins s σ H Q I ⟨hT,h⟩=>
  IX I w.tb w.code w.mem w.uni hT w.dflt (fun y hy e=>(NdefX.ndef_free w.free y hy e).elim (fun z=>I.ok.has _ (.inl z)) fun z=>I.ok.has _ (.inr z)) fun f c' H1 s' I1 x _ t tl n h1 h2=>⟨.ref f,H1,I1,rfl,h f c' H1 x t tl n h1 h2⟩⟩
 have ha:=pa_cons he1 (pa_cons mk pa_nil hs2) hs1
 refine wpAny_Call_Name_kw (ld_glob I hg hm ?_ hdb)
 refine PySem.W.callWith_K (h₀:=X.base) I.ok.mod.kin hkp (thn (ha.run pos pins s σ H (fun vs H2=> ∃v1 f c' H1 G1,vs=[v1,.ref f]/\Ext H G H1 G1/\bD X.K O H H1 G1 m1 d1 v1/\Ext H1 G1 H2 G1/\H2 f=some (ql f ⟨X.env.qual++"<lambda>",params,body,scope,cloFrom X.env.cells scope.names [],c'⟩)/\H2 c'=some (LamX.CodeO c' (X.env.qual++"<lambda>"))) I
  (rdE.go rel e5 fun v1 H1 G1 rel1 x1 v1'=>⟨rel1.tb,fun f c' H2 x t tl n h1 h2=>⟨v1,f,c',H1,G1,rfl,x1,v1',IY x tl t,h1,h2⟩⟩)) fun us s2 ⟨vs,H2,I2,r2,v1,f,c',H1,G1,evs,x1,v1',x2,hf,hc'⟩=>⟨I2.kIn,?_⟩) hs1 hpl
 subst evs
 have rel1:=rel.ext x1
 have rel2:=rel1.ext x2
 have caps:NdefX.Caps X (cloFrom X.env.cells scope.names []) [y] [j]:=NdefX.Caps.made I2.ok (NdefX.ndef_free w.free) (NdefX.ndef_fr w.free) (by show [X.N[j]?]=[some y];rw[w.at_])
 have cs:=NdefX.cells_of I2 caps
 obtain⟨vj,hσ,repj⟩:=rel2.slot hst
 obtain⟨c,hcl,hcell⟩:=cs.has 0 y rfl
 obtain⟨uj,ruj,oc,goc,doc⟩:=hcell vj (by
  show [NdefX.slotAt σ j][0]? =_
  unfold NdefX.slotAt
  rw[hσ];rfl)
 have nc:H2 c=none:=(cs.all y c hcl).1
 have lc:X.env.cells.lookup y=some c:=caps.sub y c hcl
 have above:X.s_0.heap.objs.size<=c:=I2.ok.cab y c w.fn lc
 have nb:X.base.get? c=none:=Heap.get?_none_of_le (Nat.le_trans I2.ok.bsz above)
 have nf:c∉frs X.stack:=fun m=>by
  rcases List.mem_cons.mp (I2.stkSub _ m) with z|z
  ·exact I2.cne y c lc z
  ·obtain⟨_,o,ho,_⟩:=I2.ok.funs.mem z
   exact absurd (Nat.lt_of_lt_of_le (Heap.lt_size ho) above) (Nat.lt_irrefl _)
 have ne2: ∀{b:Addr} {z:HO},H2 b=some z->b≠c:=fun q y=>by rw[y,nc] at q;cases q
 have ecl:cloFrom X.env.cells scope.names []=[(y,c)]:=by rw[w.cl,lc];rfl
 have x3:Ext H2 G1 (upd H2 c (.ext (mM c oc))) G1:=⟨fun p u e _=>by rw[upd_ne (ne2 e)];exact e,fun _ z=>z,fun _ z=>.inl z,fun p ps e=>⟨ps,by rw[upd_ne (ne2 e)];exact e⟩,fun t=>LamX.Tabs.ext t fun b o e=>by rw[upd_ne (ne2 e)];exact e⟩
 have rel3:=rel2.ext x3
 obtain⟨har,hp⟩:=rN ok (show lB X.K O H (upd H2 c (.ext (mM c oc))) G1 [m1] [d1] [v1] from ⟨v1,[],rfl,(v1'.mono x2).mono x3,rfl⟩)
 obtain⟨A1,A2,⟨h1a,h1b⟩,h2a,h3a⟩:=har
 have repc:Rep X.K (Org.all (upd H2 c (.ext (mM c oc))) G1).B (upd H2 c (.ext (mM c oc))) (.clo FL dj) (.ref f):=by
  unfold Rep
  refine⟨f,c',c,fun p=>H2 p≠none,vj,rfl,⟨?_,?_⟩,⟨?_,?_⟩,⟨?_,mM c oc,upd_same,fun h q=>⟨uj,ruj,oc,q,doc⟩⟩,fun z=>z nc,?_⟩
  ·show upd H2 c _ f≠none
   rw[upd_ne (ne2 hf),hf];simp
  ·rw[upd_ne (ne2 hf),hf,hF]
   show some (ql f _)=some (ql f _)
   rw[ecl];rfl
  ·show upd H2 c _ c'≠none
   rw[upd_ne (ne2 hc'),hc'];simp
  ·rw[upd_ne (ne2 hc'),hc',hF]
  ·show upd H2 c _ c≠none
   rw[upd_same];simp
  ·refine Rep.mono (fun p z=>⟨?_,z.2⟩) (fun p z=>hZ.of_eq fun u e=>by rw[upd_ne (ne2 e)];exact e) dj vj (Rep.dom dj vj repj)
   show upd H2 c _ p≠none
   cases q:H2 p with
   |none=>exact absurd q z.2
   |some u=>rw[upd_ne (ne2 q),q];simp
 have sp:FSp X.K [.bo,.bo] (.nw (.dc (.dc .fz))) Fs [v1,.ref f] (upd H2 c (.ext (mM c oc))) (fun v' H'=>H' c=some (.ext (mM c oc))/\Q v' (del H' c)) E0:=by
  refine⟨Org.all (upd H2 c (.ext (mM c oc))) G1,[d1,.clo FL dj],fr,rfl,o9 rel3.tb rel3.gin,⟨[],[],⟨h1a,rfl⟩,⟨[],[],⟨repc,rfl⟩,rfl,rfl⟩,rfl⟩,e11,?_⟩
  cases fr with
  |er x=>cases e12
  |ok d'' os=>
   cases os with
   |cons _ _=>cases e12
   |nil=>
    cases e12
    obtain⟨rfl,ks,rfl,hw⟩:=D.Ja e2
    intro v' H' G' rr
    have hpp:bF [.bo,.bo] [v1,V.ref f]=[]:=rfl
    rw[hpp] at rr
    obtain⟨_,x4,hv⟩:=rO rr
    have hc:H' c=some (.ext (mM c oc)):=x4.hx c _ upd_same (o6 (.inr _))
    refine⟨hc,?_⟩
    have x5:Ext H2 G1 (del H' c) (fun p=>G' p/\p≠c):=by
     refine⟨fun p u e nt=>by rw[del_ne (ne2 e)];exact x4.hx p u (by rw[upd_ne (ne2 e)];exact e) nt,fun p z=>⟨x4.gg p z,fun q=>rel2.gin p z (by rw[q];exact nc)⟩,fun p ⟨z,n⟩=> ?_,fun p ps e=> ?_,fun t=> ?_⟩
     ·rcases x4.gn p z with a|⟨a,b⟩|⟨xs,a⟩
      ·exact .inl a
      ·rw[upd_ne n] at a
       exact .inr (.inl ⟨a,by rw[del_ne n];exact b⟩)
      ·rw[upd_ne n] at a
       exact .inr (.inr ⟨xs,a⟩)
     ·obtain⟨ps',q⟩:=x4.tl p ps (by rw[upd_ne (ne2 e)];exact e)
      exact⟨ps',by rw[del_ne (ne2 e)];exact q⟩
     ·have t3:=x4.tb (x3.tb t)
      intro p hp
      obtain⟨ps,h1,h2,h3⟩:=t3 p hp
      refine⟨ps,by rw[del_ne (fun y=>by rw[y,hc] at h1;cases h1)];exact h1,h2,fun pos cv hcv=> ?_⟩
      obtain⟨c2,z1,z2⟩:=h3 pos cv hcv
      refine⟨c2,z1,?_⟩
      rw[del_ne ?_]
      ·exact z2
      ·intro y
       rw[y,hc] at z2
       unfold LamX.CodeO at z2
       have z3:=HO.ext.inj (Option.some.inj z2)
       have z4:=(congrFun z3 s2.heap).mp goc
       obtain⟨o',vs',t',g',d',_⟩:=z4
       rw[goc] at g';cases g'
       rw[doc] at d';cases d'
    refine kk v' (del H' c) _ ((x1.trans x2).trans x5) ?_
    obtain⟨L,nd,hL,ow⟩:=hv O
    refine⟨L,nd,fun q m=>⟨?_,fun z=>(hL q m).2 z.1⟩,LK hw (fun q m=> ?_) ow⟩
    ·have:=(hL q m).1
     by_cases y:q=c
     ·rw[y,upd_same] at this;cases this
     ·rw[upd_ne y] at this
      cases z:H q with
      |none=>rfl
      |some u=>
       exfalso
       exact (x1.trans x2).dm q (by rw[z];simp) this
    ·rw[del_ne fun y=>by
      have:=(hL q m).1
      rw[y,upd_same] at this;cases this]
 have e03:=Gk I2.env0 nc goc nb nf
 have hl:us.length=pn.length:=by rw[<-r2.length];exact F.len _ _ _ _ sp
 have bb:=hb s2 us I2.kIn (by rw[List.append_nil];exact hl)
 rw[List.append_nil] at bb
 show wpAny _ _ (call (.ref g) us) _ _ _
 refine wpAny_call (codeAny_mono (F.run X.A X.stack s2 _ ⟨us,[]⟩ us [v1,.ref f] _ E0 (hr.mono hk) e03 bb r2 sp) fun r s' hq=> ?_)
 match r,hq with
 | .error _,hq=>exact hq.elim
 | .ok (.ret u),hq=>exact I2.after (Jc nc goc ⟨_,doc⟩ hq nf fun v' H' z=>z)
 | .ok .next,hq=>exact hq.elim
 | .ok .brk,hq=>exact hq.elim
 | .ok .cont,hq=>exact hq.elim
end
end Sw
namespace Sw
open PySem PySem.Spec PyProof.Rows L2
section
variable {α β γ δ:Type}
@[simp] theorem aL (f:α->Option β) (a:α):b1 f (some a)=f a:=rfl
@[simp] theorem aq (f:α->β->Option γ) (a:α) (b:β):b2 f (some a) (some b)=f a b:=rfl
@[simp] theorem LL (a:D) (r:List D):aj (some a) (some r)=some (a::r):=rfl
@[simp] theorem OB:aN=some []:=rfl
@[simp] theorem LM (Fs:List D->Option FR) (ds:List D):aP Fs (some ds)=(Fs ds).bind FR.val:=rfl
@[simp] theorem LN (Fs:List D->Option FR) (ds:List D):Nf Fs (some ds)=(Fs ds).bind FR.Lc:=rfl
@[simp] theorem LO (Fs:List D->Option FR) (ds:List D):call2 Fs (some ds)=(Fs ds).bind FR.Ld:=rfl
@[simp] theorem Nq (d:D):FR.val (.ok d [])=some d:=rfl
@[simp] theorem MH (d e:D):FR.Lc (.ok d [e])=some (d,e):=rfl
@[simp] theorem MI (d e f:D):FR.Ld (.ok d [e,f])=some (d,e,f):=rfl
@[simp] theorem MJ (d:D) (os:List D):(cP (some d) os:Option (Out α β))=some (.ret d os):=rfl
@[simp] theorem Nr (c:Bool) (A B:Option (Out γ β)) (k:γ->Option (Out α β)):ifO (some c) A B k=(if c=true then A else B).bind (sqO k):=rfl
@[simp] theorem MK (ds:List δ) (step:γ->δ->Option (Out γ γ)) (b0:γ) (k:γ->Option (Out α β)):mK (some ds) step b0 k=(forL step ds b0).bind (sqF k):=rfl
@[simp] theorem rX (a:Bool) (b:Option Bool):orB (some a) b=if a=true then some true else b:=rfl
@[simp] theorem jI (a:Bool) (b:Option Bool):lD (some a) b=if a=true then b else some false:=rfl
@[simp] theorem mN (a:Bool):lX (some a)=some (!a):=rfl
@[simp] theorem Nt (a:Bool):blO (some a)=some (.bl a):=rfl
@[simp] theorem ML (a:Bool):IB (some (.bl a))=some (.bl (!a)):=rfl
@[simp] theorem MM (a:Bool) (b:Option D):Ec (some (.bl a)) b=if a=true then b else some (.bl false):=rfl
@[simp] theorem Nu (a:Bool) (b:Option D):orE (some (.bl a)) b=if a=true then some (.bl true) else b:=rfl
@[simp] theorem Nv (a:Bool) (x y:Option D):ifE (some a) x y=if a=true then x else y:=rfl
@[simp] theorem MO (ds:List D):tupO (some ds)=some (.tup ds):=rfl
@[simp] theorem MP (ds:List D):wW (some ds)=if ds.length<=sizeLine then some (.lst ds) else none:=rfl
@[simp] theorem Nw (ds:List δ) (rt:δ->Option Bool) (re:δ->Option D):lcO (some ds) rt re=xJ rt re ds:=rfl
@[simp] theorem MQ (f:D->Option Int->Option Int->Option D) (a:D) (l h:Option Int):Ar f (some a) (some l) (some h)=f a l h:=rfl
@[simp] theorem MR (ds:List D):nL (some (.lst ds))=some ds:=rfl
@[simp] theorem MS (ds:List D):O9 (some (.lst ds))=D.prs ds:=rfl
@[simp] theorem MT (d:D) (q:List Stp) (x:D) (f:D->D->Option (D×D)):yG d (some q) (some x) f=do1 d q fun d'=>f d' x:=rfl
@[simp] theorem MU (d:D) (q:List Stp) (xs:List D) (f:List D->List D->Option (D×List D)):Pa d (some q) (some xs) f=do1 d q (Iz f xs):=rfl
@[simp] theorem MV (d:D) (q:List Stp) (f:List D->List D->Option (D×List D)):Pb d (some q) f=do1 d q (Iz f []):=rfl
@[simp] theorem OC (d:D) (f:D->Option (D×D)):do1 d [] f=f d:=by
 unfold do1
 have:fQ d []=some d:=by cases d <;> rfl
 rw[this]
 show (f d).bind _=f d
 cases f d with
 |none=>rfl
 |some r=>show some (r.1,cE d [] r.2)=some r;cases d <;> rfl
@[simp] theorem Pm (k:γ->Option (Out α β)) (a:γ):sqO k (.nx a)=k a:=rfl
@[simp] theorem Pn (k:γ->Option (Out α β)) (a:β):sqO k (.bk a)=some (.bk a):=rfl
@[simp] theorem Po (k:γ->Option (Out α β)) (a:β):sqO k (.ct a)=some (.ct a):=rfl
@[simp] theorem OD (k:γ->Option (Out α β)) (d:D) (os:List D):sqO k (.ret d os)=some (.ret d os):=rfl
@[simp] theorem OE (k:γ->Option (Out α β)) (a:γ):sqF k (.fin a)=k a:=rfl
@[simp] theorem OF (k:γ->Option (Out α β)) (d:D) (os:List D):sqF k (.ret d os)=some (.ret d os):=rfl
@[simp] theorem Pp (d:D) (os:List D):FO (some (.ret d os))=some (.ok d os):=rfl
@[simp] theorem Nx (d:D) (os:List D):outF (.ret d os)=some (.ok d os):=rfl
@[simp] theorem OG (f:D->Option α) (x:D):un1 f [x]=f x:=rfl
@[simp] theorem OH (f:D->D->Option α) (x y:D):un2 f [x,y]=f x y:=rfl
@[simp] theorem QD (f:Option FR):fn0 f []=f:=rfl
@[simp] theorem QE (f:D->Option FR) (a:D):fn1 f [a]=f a:=rfl
@[simp] theorem QF (f:D->D->Option FR) (a b:D):fn2 f [a,b]=f a b:=rfl
@[simp] theorem QG (f:D->D->D->Option FR) (a b c:D):fn3 f [a,b,c]=f a b c:=rfl
@[simp] theorem QH (f:D->D->D->D->Option FR) (a b c d:D):fn4 f [a,b,c,d]=f a b c d:=rfl
@[simp] theorem QI (f:D->D->D->D->D->Option FR) (a b c d e:D):fn5 f [a,b,c,d,e]=f a b c d e:=rfl
@[simp] theorem QJ (f:D->D->D->D->D->D->Option FR) (a b c d e g:D):fn6 f [a,b,c,d,e,g]=f a b c d e g:=rfl
@[simp] theorem Pq (a b:Int):D.bT (.int a) (.int b)=some (.int (a+b)):=rfl
@[simp] theorem Pr (a b:Int):D.gY (.int a) (.int b)=some (.int (a -b)):=rfl
theorem LP {a b:Int} (h:vw a b=true):D.j8 (.int a) (.int b)=some (.int (a*b)):=by
 show (if vw a b=true then some (a*b) else none).map D.int=_
 rw[if_pos h];rfl
theorem Dk {a b:Int} (h1: -(2^64)<a) (h2:a<2^64):vw a b=true:=by
 unfold vw;exact @decide_eq_true _ (Classical.propDecidable _) (.inl ⟨h1,h2⟩)
theorem ph {a b:Int} (h1: -(2^64)<a) (h2:a<2^64):D.j8 (.int a) (.int b)=some (.int (a*b)):=LP (Dk h1 h2)
@[simp] theorem Pu (a:Int):D.K1 (.int a)=some (.int (-a)):=rfl
@[simp] theorem Qh (a b:Int):D.ltI (.int a) (.int b)=some (decide (a<b)):=rfl
@[simp] theorem Qi (a b:Int):D.leI (.int a) (.int b)=some (decide (a<=b)):=rfl
@[simp] theorem Qj (a b:Int):D.gtI (.int a) (.int b)=some (decide (b<a)):=rfl
@[simp] theorem Qk (a b:Int):D.geI (.int a) (.int b)=some (decide (b<=a)):=rfl
@[simp] theorem Kv (a b:Int):D.eqA (.int a) (.int b)=some (decide (a=b)):=by
 unfold D.eqA D.toV;simp[scal]
@[simp] theorem Kw (a b:Int):D.neA (.int a) (.int b)=some (!decide (a=b)):=by
 unfold D.neA D.toV;simp[scal]
@[simp] theorem Kx (a b:Str):D.eqA (.str a) (.str b)=some (decide (a=b)):=by
 unfold D.eqA D.toV;simp[scal]
@[simp] theorem Ky (a b:Str):D.neA (.str a) (.str b)=some (!decide (a=b)):=by
 unfold D.neA D.toV;simp[scal]
@[simp] theorem Ny (a b:Bool):D.eqA (.bl a) (.bl b)=some (decide (a=b)):=by
 unfold D.eqA D.toV;simp[scal]
@[simp] theorem Ql (a b:Bool):D.neA (.bl a) (.bl b)=some (!decide (a=b)):=by
 unfold D.neA D.toV;simp[scal]
@[simp] theorem Pw (f:D->D->Option Bool) (x y:D):blD f x y=(f x y).map D.bl:=rfl
@[simp] theorem QK (a:Bool):D.tb (.bl a)=some a:=rfl
@[simp] theorem Qm (a:Int):D.toI (.int a)=some (some a):=rfl
@[simp] theorem QL (x:Str):D.et (.str x)=some (.str x):=rfl
@[simp] theorem QM (x:Int):D.et (.int x)=some (.int x):=rfl
@[simp] theorem QN (x:Bool):D.et (.bl x)=some (.bl x):=rfl
@[simp] theorem Qn (a b:Str):D.et (.tup [.str a,.str b])=some (.tup [.str a,.str b]):=rfl
@[simp] theorem Nz (x:Str):D.key (.str x)=some (.inr x):=rfl
@[simp] theorem Qo (x:Int):D.key (.int x)=some (.inl x):=rfl
@[simp] theorem Qp (x:Str):D.toV (.str x)=some (.str x):=rfl
@[simp] theorem Qq (x:Int):D.toV (.int x)=some (.int x):=rfl
@[simp] theorem Qr (a b:Str):D.ltS (.str a) (.str b)=some (decide (a.cps.toList<b.cps.toList)):=rfl
@[simp] theorem Qs (a b:Str):D.leS (.str a) (.str b)=some (!decide (b.cps.toList<a.cps.toList)):=rfl
@[simp] theorem Qt (a b:Str):D.gtS (.str a) (.str b)=some (decide (b.cps.toList<a.cps.toList)):=rfl
@[simp] theorem Qu (a b:Str):D.geS (.str a) (.str b)=some (!decide (a.cps.toList<b.cps.toList)):=rfl
theorem atI_nat {α:Type} {xs:List α} {i:Int} (h0:0<=i) (h1:i<xs.length):atI xs i=xs[i.toNat]? :=by
 unfold L2.atI L2.ixN;rw[if_pos h0,if_pos h1];rfl
theorem p8 {ds:List D} {i:Int} (h0:0<=i) (h1:i<ds.length):D.atL (.lst ds) (.int i)=ds[i.toNat]? :=atI_nat h0 h1
@[simp] theorem Px (ds:List D):D.uy (.lst ds)=some (.int ds.length):=rfl
@[simp] theorem Py (ks:List (Key×D)):D.Iq (.dct ks)=some (.int ks.length):=rfl
@[simp] theorem Pz (ns:List Int):D.Ak (.sc ns)=some (.int ns.length):=rfl
@[simp] theorem Qw (ds:List D):D.toL (.lst ds)=some (.lst ds):=rfl
@[simp] theorem Qx (ds:List D):D.toL (.tup ds)=some (.lst ds):=rfl
theorem yM:16777000<=sizeLine:=by decide+kernel
@[simp] theorem Kz (lo:Int) (n:Nat):(wU lo n).length=n:=by unfold wU;simp
theorem Jd (ds:List D):D.evs ds=ds.all D.ev:=by
 induction ds with
 |nil=>rfl
 |cons d ds ih=>rw[List.all_cons,←ih];rfl
theorem Dq {α:Type} {f:α->D} (h: ∀x,(f x).ev=true) (xs:List α):D.evs (xs.map f)=true:=by
 rw[Jd,List.all_eq_true]
 intro d hd
 obtain⟨x,_,rfl⟩:=List.mem_map.mp hd
 exact h x
end
end Sw
namespace Sw
open PySem PySem.Spec PyProof.Rows L2
section
variable {κ α β:Type} [DecidableEq κ]
theorem cV (k j:κ) (x:α): ∀ks:List (κ×α),aC (aM ks k x) j=if j=k then some x else aC ks j
 | []=>by
  unfold aM
  rw[aZ]
  by_cases e:k=j
  ·simp[e]
  ·rw[if_neg e,if_neg (fun q=>e q.symm)]
 |p::r=>by
  unfold aM
  by_cases e:p.1=k
  ·rw[if_pos e,aZ,aZ]
   by_cases h:k=j
   ·subst h;simp[e]
   ·rw[if_neg h,if_neg (fun q=>h q.symm),if_neg (fun q=>h (e.symm.trans q))]
  ·rw[if_neg e,aZ,aZ,cV k j x r]
   by_cases h:p.1=j
   ·rw[if_pos h,if_neg (fun q=>e (h.trans q)),if_pos h]
   ·rw[if_neg h,if_neg h]
theorem nN (k j:κ): ∀ks:List (κ×α),aC (gW ks k) j=if j=k then none else aC ks j
 | []=>by simp[gW,aC]
 |p::r=>by
  have ih:=nN k j r
  unfold gW at*
  rw[List.filter_cons]
  by_cases e:p.1=k
  ·rw[if_neg (by simp[e]),ih,aZ]
   by_cases h:j=k
   ·rw[if_pos h,if_pos h]
   ·rw[if_neg h,if_neg h,if_neg (fun q=>h (q.symm.trans e))]
  ·rw[if_pos (by simp[e]),aZ,aZ,ih]
   by_cases h:j=k
   ·rw[if_pos h,if_pos h,if_neg (fun q=>e (q.trans h))]
   ·rw[if_neg h,if_neg h]
theorem eM {k:κ} {ks:List (κ×α)}:(aC ks k).isSome=true↔k∈ks.map (·.1):=by
 cases e:aC ks k with
 |none=>simp[sU.mp e]
 |some v=>simp;exact⟨v,fM e⟩
theorem di {k:κ} {x:α} {ks:List (κ×α)} (hn:(ks.map (·.1)).Nodup) (h:(k,x)∈ks):aC ks k=some x:=by
 induction ks with
 |nil=>cases h
 |cons p r ih=>
  rw[List.map_cons,List.nodup_cons] at hn
  rw[aZ]
  rcases List.mem_cons.mp h with e|h
  ·subst e;simp
  ·have:p.1≠k:=fun e=>hn.1 (e▸List.mem_map.mpr ⟨_,h,rfl⟩)
   rw[if_neg this,ih hn.2 h]
theorem dq {k:κ} {x:α} {ks:List (κ×α)} (h:k∈ks.map (·.1)):(aM ks k x).map (·.1)=ks.map (·.1):=by
 rw[pV,if_pos (eM.mpr h)]
theorem w6 {k:κ} {x:α} {ks:List (κ×α)} (h:k∉ks.map (·.1)):(aM ks k x).map (·.1)=ks.map (·.1)++[k]:=by
 rw[pV,if_neg (fun q=>h (eM.mp q))]
end
section
variable {α:Type}
def eD (e:α->D) (r:List (Str×α)):D:=.dct (r.map fun p=>(Sum.inr p.1,e p.2))
theorem yN (e:α->D) (x:Str): ∀r:List (Str×α),aC (r.map fun p=>((Sum.inr p.1:Key),e p.2)) (Sum.inr x)=(aC r x).map e
 | []=>rfl
 |p::r=>by
  rw[List.map_cons,aZ,aZ,yN e x r]
  by_cases h:p.1=x
  ·simp[h]
  ·rw[if_neg h,if_neg (fun q=>h (Sum.inr.inj q))]
theorem Dr (e:α->D) (x:Str) (v:α): ∀r:List (Str×α),aM (r.map fun p=>((Sum.inr p.1:Key),e p.2)) (Sum.inr x) (e v)=(aM r x v).map fun p=>((Sum.inr p.1:Key),e p.2)
 | []=>rfl
 |p::r=>by
  rw[List.map_cons]
  unfold aM
  by_cases h:p.1=x
  ·simp[h]
  ·rw[if_neg h,if_neg (fun q=>h (Sum.inr.inj q)),List.map_cons,Dr e x v r]
@[simp] theorem OI (e:α->D) (r:List (Str×α)) (x:Str):D.look (eD e r) (.str x)=some ((aC r x).map e):=by
 unfold eD D.look
 simp only[Nz,Option.map_some,yN]
@[simp] theorem PB (e:α->D) (r:List (Str×α)) (x:Str):D.inK (.str x) (eD e r)=some (aC r x).isSome:=by
 unfold D.inK;simp
@[simp] theorem OJ (e:α->D) (r:List (Str×α)) (x:Str):D.Ip (.str x) (eD e r)=some (!(aC r x).isSome):=by
 unfold D.Ip;simp
@[simp] theorem OK (e:α->D) (r:List (Str×α)) (x:Str):D.ux (eD e r) (.str x)=(aC r x).map e:=by
 unfold D.ux;simp
@[simp] theorem OL (e:α->D) (r:List (Str×α)):D.Iq (eD e r)=some (.int r.length):=by
 unfold eD;simp
end
theorem lq {α:Type} {xs ys:List α} (h:xs.Nodup) (hs: ∀x∈xs,x∈ys):xs.length<=ys.length:=h.length_le_of_subset hs
end Sw
namespace Sw
open PySem PySem.Spec PyProof.Rows L2
@[simp] theorem PD (ns:List Int) (lo hi:Option Int):D.K6 (.sc ns) lo hi=some (.lst ((Sw.fT ns lo hi).map D.int)):=rfl
theorem Gp (n:Nat):wU 0 n=(List.range n).map fun i:Nat=>D.int i:=by
 unfold wU
 exact List.map_congr_left fun i _=>by rw[Int.zero_add]
def sg (n:Nat):Str:=⟨#[n]⟩
theorem Je {a b:Str} (h:a.cps.toList=b.cps.toList):a=b:=PySem.W.str_of_cps h
theorem xY: ∀ys:List Str,(Str.join "" ys).cps.toList=(ys.map fun y=>y.cps.toList).flatten
 | []=>rfl
 | [x]=>by simp[Str.join]
 |x::y::r=>by
  have ih:=xY (y::r)
  unfold Str.join
  show ((x.cps++(Str.ofString "").cps)++(Str.join "" (y::r)).cps).toList=_
  rw[Array.toList_append,Array.toList_append,ih]
  show (x.cps.toList++[])++_=_
  rw[List.append_nil];rfl
theorem Gq (cs:List Nat):Txt.join "" (cs.map sg)=⟨cs.toArray⟩:=by
 have h:Txt.join "" (cs.map sg)=Str.join "" (cs.map sg):=PySem.StrLaws.glued_eq_join _ _
 rw[h]
 refine Je ?_
 rw[xY,List.map_map]
 show ((cs.map fun c=>[c]).flatten)=cs
 clear h
 induction cs with
 |nil=>rfl
 |cons c cs ih=>rw[List.map_cons,List.flatten_cons,ih];rfl
theorem strs_map: ∀xs:List Str,D.strs (xs.map D.str)=some xs
 | []=>rfl
 |x::xs=>by rw[List.map_cons];unfold D.strs;rw[strs_map xs];rfl
def uW:Str:="abcdefghijklmnopqrstuvwxyz"
theorem AE:uW.cps.toList=(List.range 26).map fun i=>97+i:=by decide+kernel
end Sw
namespace Sw
open PySem PySem.Spec PyProof.Rows L2
abbrev Web:=List (Str×List (Str×Int))
def lk (w:Web) (x y:Str):Option Int:=(aC w x).bind fun r=>aC r y
structure lG (ns:List Str) (w:Web):Prop where
 keys:w.map (·.1)=ns
 rows: ∀x r,aC w x=some r->(r.map (·.1)).Nodup
 sym: ∀x y v,lk w x y=some v->lk w y x=some v
 irr: ∀x,lk w x x=none
 rng: ∀x y v,lk w x y=some v->1<=v/\v<=1000000000000
def Gu (w:Web) (x y:Str) (v:Int):Web:=
 let w1:=aM w x (aM ((aC w x).getD []) y v)
 aM w1 y (aM ((aC w1 y).getD []) x v)
def LQ (w:Web) (x y:Str):Web:=
 let w1:=aM w x (gW ((aC w x).getD []) y)
 aM w1 y (gW ((aC w1 y).getD []) x)
section
variable {ns:List Str} {w:Web} {x y:Str} {v:Int}
theorem lG.has (h:lG ns w):(aC w x).isSome=true↔x∈ns:=by rw[eM,h.keys]
theorem lG.get (h:lG ns w) (hx:x∈ns): ∃r,aC w x=some r:=Option.isSome_iff_exists.mp (h.has.mpr hx)
theorem lG.len (h:lG ns w):w.length=ns.length:=by rw[<-h.keys];simp
theorem Dt (w:Web) (x:Str) (r:List (Str×Int)) (a b:Str):lk (aM w x r) a b=if a=x then aC r b else lk w a b:=by
 unfold lk
 rw[cV]
 by_cases e:a=x
 ·rw[if_pos e,if_pos e];rfl
 ·rw[if_neg e,if_neg e]
theorem vI (hxy:x≠y) (a b:Str):lk (Gu w x y v) a b=if (a=x/\b=y)\/(a=y/\b=x) then some v else lk w a b:=by
 unfold Gu
 simp only[Dt,cV]
 by_cases ha:a=y
 ·subst ha
  rw[if_pos rfl,if_neg (show ¬a=x from fun e=>hxy e.symm)]
  by_cases hb:b=x
  ·rw[if_pos hb,if_pos (.inr ⟨rfl,hb⟩)]
  ·rw[if_neg hb,if_neg (by rintro (⟨e,_⟩|⟨_,e⟩);exact hxy e.symm;exact hb e)]
   unfold lk
   cases aC w a <;> rfl
 ·rw[if_neg ha]
  by_cases hx:a=x
  ·subst hx
   rw[if_pos rfl]
   by_cases hb:b=y
   ·rw[if_pos hb,if_pos (.inl ⟨rfl,hb⟩)]
   ·rw[if_neg hb,if_neg (by rintro (⟨_,e⟩|⟨e,_⟩);exact hb e;exact ha e)]
    unfold lk
    cases aC w a <;> rfl
  ·rw[if_neg hx,if_neg (by rintro (⟨e,_⟩|⟨e,_⟩);exact hx e;exact ha e)]
theorem yO (hxy:x≠y) (a b:Str):lk (LQ w x y) a b=if (a=x/\b=y)\/(a=y/\b=x) then none else lk w a b:=by
 unfold LQ
 simp only[Dt,cV,nN]
 by_cases ha:a=y
 ·subst ha
  rw[if_pos rfl,if_neg (show ¬a=x from fun e=>hxy e.symm)]
  by_cases hb:b=x
  ·rw[if_pos hb,if_pos (.inr ⟨rfl,hb⟩)]
  ·rw[if_neg hb,if_neg (by rintro (⟨e,_⟩|⟨_,e⟩);exact hxy e.symm;exact hb e)]
   unfold lk
   cases aC w a <;> rfl
 ·rw[if_neg ha]
  by_cases hx:a=x
  ·subst hx
   rw[if_pos rfl]
   by_cases hb:b=y
   ·rw[if_pos hb,if_pos (.inl ⟨rfl,hb⟩)]
   ·rw[if_neg hb,if_neg (by rintro (⟨_,e⟩|⟨e,_⟩);exact hb e;exact ha e)]
    unfold lk
    cases aC w a <;> rfl
  ·rw[if_neg hx,if_neg (by rintro (⟨e,_⟩|⟨e,_⟩);exact hx e;exact ha e)]
theorem AF {r s:List (Str×Int)} (hk:w.map (·.1)=ns) (hx:x∈ns) (hy:y∈ns):(aM (aM w x r) y s).map (·.1)=ns:=by
 rw[dq,dq,hk]
 ·rw[hk];exact hx
 ·rw[dq (by rw[hk];exact hx),hk];exact hy
theorem AG {r s:List (Str×Int)} (h:lG ns w) (hr:(r.map (·.1)).Nodup) (hs:(s.map (·.1)).Nodup): ∀a t,aC (aM (aM w x r) y s) a=some t->(t.map (·.1)).Nodup:=fun a t e=>by
 rw[cV,cV] at e
 split at e
 ·cases e;exact hs
 ·split at e
  ·cases e;exact hr
  ·exact h.rows a t e
theorem lG.nO (h:lG ns w) (x:Str):(((aC w x).getD []).map (·.1)).Nodup:=by
 cases e:aC w x with
 |none=>exact List.nodup_nil
 |some r=>exact h.rows x r e
theorem lG.join (h:lG ns w) (hx:x∈ns) (hy:y∈ns) (hxy:x≠y) (hv:1<=v/\v<=1000000000000):lG ns (Gu w x y v) where
 keys:=AF h.keys hx hy
 rows:=by
  refine AG h (fN (h.nO x)) (fN ?_)
  rw[cV,if_neg (fun e=>hxy e.symm)]
  exact h.nO y
 sym:=fun a b u e=>by
  rw[vI hxy] at e⊢
  split at e
  ·rename_i q
   rw[if_pos (q.symm.imp And.symm And.symm)];exact e
  ·rename_i q
   rw[if_neg (fun z=>q (z.symm.imp And.symm And.symm))];exact h.sym _ _ _ e
 irr:=fun a=>by
  rw[vI hxy,if_neg (by rintro (⟨e,f⟩|⟨e,f⟩);exact hxy (e.symm.trans f);exact hxy (f.symm.trans e))]
  exact h.irr a
 rng:=fun a b u e=>by
  rw[vI hxy] at e
  split at e
  ·cases e;exact hv
  ·exact h.rng _ _ _ e
theorem lG.cut (h:lG ns w) (hx:x∈ns) (hy:y∈ns) (hxy:x≠y):lG ns (LQ w x y) where
 keys:=AF h.keys hx hy
 rows:=by
  refine AG h (l4 (h.nO x)) (l4 ?_)
  rw[cV,if_neg (fun e=>hxy e.symm)]
  exact h.nO y
 sym:=fun a b u e=>by
  rw[yO hxy] at e⊢
  split at e
  ·cases e
  ·rename_i q
   rw[if_neg (fun z=>q (z.symm.imp And.symm And.symm))];exact h.sym _ _ _ e
 irr:=fun a=>by
  rw[yO hxy]
  split
  ·rfl
  ·exact h.irr a
 rng:=fun a b u e=>by
  rw[yO hxy] at e
  split at e
  ·cases e
  ·exact h.rng _ _ _ e
end
end Sw
namespace Sw
open PySem PySem.Spec PyProof.Rows L2
def cC (a b:Str):Prop:=a.cps.toList<b.cps.toList
instance (a b:Str):Decidable (cC a b):=inferInstanceAs (Decidable (a.cps.toList<b.cps.toList))
theorem dG (a:Str): ¬cC a a:=List.lt_irrefl _
theorem mP {a b c:Str} (h:cC a b) (g:cC b c):cC a c:=List.lt_trans h g
theorem s7 {a b:Str} (h:cC a b): ¬cC b a:=fun g=>dG a (mP h g)
theorem nQ (a b:Str):cC a b\/a=b\/cC b a:=by
 by_cases h:cC a b
 ·exact .inl h
 ·by_cases g:cC b a
  ·exact .inr (.inr g)
  ·exact .inr (.inl (PySem.W.str_of_cps (List.le_antisymm (List.not_lt.mp g) (List.not_lt.mp h))))
theorem Jf {a b:Str}:sLe a b=true↔ ¬cC b a:=by
 unfold sLe cC
 rw[decide_eq_true_eq,List.not_lt]
def pLt (p q:Str×Str):Prop:=cC p.1 q.1\/(p.1=q.1/\cC p.2 q.2)
instance (p q:Str×Str):Decidable (pLt p q):=inferInstanceAs (Decidable (_\/_))
theorem Gv:PyProof.Rows.lexLt PyProof.Rows.itemOrd (PySem.W.keyToksAll []) (PySem.W.keyToksAll [])=false:=by
 unfold PySem.W.keyToksAll;rfl
theorem nR (p:Str×Str): ¬pLt p p:=by
 rintro (h|⟨_,h⟩)
 ·exact dG _ h
 ·exact dG _ h
theorem p9 {p q r:Str×Str} (h:pLt p q) (g:pLt q r):pLt p r:=by
 rcases h with h|⟨e,h⟩
 ·rcases g with g|⟨e,g⟩
  ·exact .inl (mP h g)
  ·exact .inl (e▸h)
 ·rcases g with g|⟨e',g⟩
  ·exact .inl (e▸g)
  ·exact .inr ⟨e.trans e',mP h g⟩
theorem yP (p q:Str×Str):pLt p q\/p=q\/pLt q p:=by
 rcases nQ p.1 q.1 with h|h|h
 ·exact .inl (.inl h)
 ·rcases nQ p.2 q.2 with g|g|g
  ·exact .inl (.inr ⟨h,g⟩)
  ·exact .inr (.inl (Prod.ext h g))
  ·exact .inr (.inr (.inr ⟨h.symm,g⟩))
 ·exact .inr (.inr (.inl h))
def pLe (p q:Str×Str):Bool:= !decide (pLt q p)
theorem Et (a b c:Str×Str) (h:pLe a b=true) (g:pLe b c=true):pLe a c=true:=by
 unfold pLe at*
 simp only[Bool.not_eq_true',decide_eq_false_iff_not] at*
 intro k
 rcases yP a b with e|e|e
 ·exact g (p9 k e)
 ·subst e;exact g k
 ·exact h e
theorem Eu (a b:Str×Str):(pLe a b||pLe b a)=true:=by
 unfold pLe
 rcases yP a b with e|e|e
 ·simp[show ¬pLt b a from fun g=>nR _ (p9 e g)]
 ·subst e;simp[nR]
 ·simp[show ¬pLt a b from fun g=>nR _ (p9 e g)]
def Ew (ps:List (Str×Str)):List (Str×Str):=ps.mergeSort pLe
theorem s8 (ps:List (Str×Str)):(Ew ps).Perm ps:=List.mergeSort_perm _ _
theorem AH (ps:List (Str×Str)):(Ew ps).Pairwise (fun a b=>pLe a b=true):=List.pairwise_mergeSort Et Eu ps
def bG (ps:List (Str×Str)):List Str:=ps.flatMap fun p=>[p.1,p.2]
end Sw
namespace Sw
open PySem PySem.Spec PyProof.Rows L2
theorem Gx {α:Type} (f:α->D) (xs:List α):D.pds (xs.map f)=xs.map fun x=>(f x).pd:=by rw[D.Ik,List.map_map];rfl
theorem qP {α:Type} {f:α->PyData} (h: ∀x y,PyData.eqv (f x) (f y)=true↔x=y): ∀xs ys:List α,PyData.eqvAll (xs.map f) (ys.map f)=true↔xs=ys
 | [],[]=>by simp[PyData.eqvAll]
 | [],y::ys=>by simp[PyData.eqvAll]
 |x::xs,[]=>by simp[PyData.eqvAll]
 |x::xs,y::ys=>by
  simp only[List.map_cons,PyData.eqvAll,Bool.and_eq_true,h,qP h xs ys,List.cons.injEq]
theorem ua {ds:List PyData} {n:Nat} (h: ∀d∈ds,d.depth<=n):PyData.depthAll ds<=n:=by
 induction ds with
 |nil=>exact Nat.zero_le _
 |cons d ds ih=>
  show max d.depth (PyData.depthAll ds)<=n
  exact Nat.max_le.mpr ⟨h d List.mem_cons_self,ih fun e he=>h e (List.mem_cons_of_mem _ he)⟩
theorem Gy {ds:List PyData} (h: ∀d∈ds,d.canLay0=true):PyData.canLayAll0 ds=true:=by
 induction ds with
 |nil=>rfl
 |cons d ds ih=>
  show (d.canLay0&&PyData.canLayAll0 ds)=true
  rw[h d List.mem_cons_self,ih fun e he=>h e (List.mem_cons_of_mem _ he)];rfl
def Low (x:Str):Prop:= ∀c∈x.cps.toList,97<=c/\c<123
theorem Low.ok {x:Str} (h:Low x):PySem.PyData.strOk x=true:=by
 unfold PySem.PyData.strOk
 rw[Array.all_eq_true']
 intro c hc
 have:=h c (Array.mem_toList_iff.mpr hc)
 rw[decide_eq_true_eq];omega
end Sw
namespace Sw
open PySem PySem.Spec PyProof.Rows L2
class En (A:Type) where
 en:A->D
abbrev en {A:Type} [En A] (a:A):D:=En.en a
structure Sd (A:Type) where
 l:List (Str×A)
structure Td (K A:Type) where
 l:List (K×A)
structure Scr where
 l:List Int
structure Tl (A:Type) where
 l:List A
deriving DecidableEq
structure T3 (A B C:Type) where
 a:A
 b:B
 c:C
deriving DecidableEq
structure T4 (A B C E:Type) where
 a:A
 b:B
 c:C
 d:E
deriving DecidableEq
structure T5 (A B C E F:Type) where
 a:A
 b:B
 c:C
 d:E
 e:F
deriving DecidableEq
class KT (K:Type) where
 kt:K->List Key
section
variable {A B C E F K:Type}
instance:En Int:=⟨.int⟩
instance:En Str:=⟨.str⟩
instance:En Bool:=⟨.bl⟩
instance:En Unit:=⟨fun _=>.non⟩
instance [En A]:En (List A):=⟨fun xs=>.lst (xs.map en)⟩
instance [En A]:En (Option A):=⟨fun o=>match o with|none=>.non|some a=>en a⟩
instance [En A] [En B]:En (A×B):=⟨fun p=>.tup [en p.1,en p.2]⟩
instance [En A] [En B] [En C]:En (T3 A B C):=⟨fun p=>.tup [en p.a,en p.b,en p.c]⟩
instance [En A] [En B] [En C] [En E]:En (T4 A B C E):=⟨fun p=>.tup [en p.a,en p.b,en p.c,en p.d]⟩
instance [En A] [En B] [En C] [En E] [En F]:En (T5 A B C E F):=⟨fun p=>.tup [en p.a,en p.b,en p.c,en p.d,en p.e]⟩
instance [En A]:En (Tl A):=⟨fun xs=>.tup (xs.l.map en)⟩
def sdK [En A] (d:List (Str×A)):List (Key×D):=d.map fun p=>((Sum.inr p.1:Key),en p.2)
instance [En A]:En (Sd A):=⟨fun d=>.dct (sdK d.l)⟩
def tdK [KT K] [En A] (d:List (K×A)):List (List Key×D):=d.map fun p=>(KT.kt p.1,en p.2)
instance [KT K] [En A]:En (Td K A):=⟨fun d=>.dcT (tdK d.l)⟩
instance:En Scr:=⟨fun s=>.sc s.l⟩
instance:KT (Str×Str):=⟨fun p=>[.inr p.1,.inr p.2]⟩
instance:KT (Tl Str):=⟨fun p=>p.l.map Sum.inr⟩
instance:KT (Int×Int):=⟨fun p=>[.inl p.1,.inl p.2]⟩
class Ev (A:Type) [En A]:Prop where
 ev: ∀a:A,(en a).ev=true
instance:Ev Int:=⟨fun _=>rfl⟩
instance:Ev Str:=⟨fun _=>rfl⟩
instance:Ev Bool:=⟨fun _=>rfl⟩
instance:Ev Unit:=⟨fun _=>rfl⟩
instance [En A] [En B] [Ev A] [Ev B]:Ev (A×B):=⟨fun p=>by
 show (D.ev (en p.1)&&(D.ev (en p.2)&&true))=true
 rw[Ev.ev,Ev.ev];rfl⟩
instance [En A] [En B] [En C] [Ev A] [Ev B] [Ev C]:Ev (T3 A B C):=⟨fun p=>by
 show (D.ev (en p.a)&&(D.ev (en p.b)&&(D.ev (en p.c)&&true)))=true
 rw[Ev.ev,Ev.ev,Ev.ev];rfl⟩
instance [En A] [En B] [En C] [En E] [Ev A] [Ev B] [Ev C] [Ev E]:Ev (T4 A B C E):=⟨fun p=>by
 show (D.ev (en p.a)&&(D.ev (en p.b)&&(D.ev (en p.c)&&(D.ev (en p.d)&&true))))=true
 rw[Ev.ev,Ev.ev,Ev.ev,Ev.ev];rfl⟩
instance [En A] [En B] [En C] [En E] [En F] [Ev A] [Ev B] [Ev C] [Ev E] [Ev F]:Ev (T5 A B C E F):=⟨fun p=>by
 show (D.ev (en p.a)&&(D.ev (en p.b)&&(D.ev (en p.c)&&(D.ev (en p.d)&&(D.ev (en p.e)&&true)))))=true
 rw[Ev.ev,Ev.ev,Ev.ev,Ev.ev,Ev.ev];rfl⟩
instance [En A] [Ev A]:Ev (Tl A):=⟨fun p=>Dq (fun x=>Ev.ev x) p.l⟩
instance [En A] [Ev A]:Ev (Option A):=⟨fun p=>by cases p with
 |none=>rfl
 |some a=>exact Ev.ev a⟩
theorem LR [En A] [Ev A] (xs:List A):D.evs (xs.map en)=true:=Dq (fun x=>Ev.ev x) xs
end
class ES (A S:Type) where
 es:A->S
abbrev es {A S:Type} [ES A S] (a:A):S:=ES.es a
inductive TO (α β ρ:Type) where
 |nx (a:α)|bk (b:β)|ct (b:β)|ret (r:ρ)|exc (x:Xn)
inductive uz (β ρ:Type) where
 |fin (b:β)|ret (r:ρ)|exc (x:Xn)
class ER (ρ:Type) where
 er:ρ->D×List D
structure R0 (A:Type) where
 v:A
structure R1 (A B:Type) where
 v:A
 o:B
structure R2' (A B C:Type) where
 v:A
 o:B
 p:C
structure R3 (A B C E:Type) where
 v:A
 o:B
 p:C
 q:E
section
variable {A B C E S T α β ρ:Type}
instance [En A]:ER (R0 A):=⟨fun r=>(en r.v,[])⟩
instance [En A] [En B]:ER (R1 A B):=⟨fun r=>(en r.v,[en r.o])⟩
instance [En A] [En B] [En C]:ER (R2' A B C):=⟨fun r=>(en r.v,[en r.o,en r.p])⟩
instance [En A] [En B] [En C] [En E]:ER (R3 A B C E):=⟨fun r=>(en r.v,[en r.o,en r.p,en r.q])⟩
instance [En A]:ES A D:=⟨en⟩
instance:ES Bool Bool:=⟨id⟩
instance:ES Int Int:=⟨id⟩
instance:ES Unit Unit:=⟨id⟩
instance:ES PEmpty PEmpty:=⟨id⟩
instance [ES A S] [ES B T]:ES (A×B) (S×T):=⟨fun p=>(es p.1,es p.2)⟩
instance [ES A S]:ES (List A) (List S):=⟨List.map es⟩
instance [ES A S]:ES (Option A) (Option S):=⟨Option.map es⟩
instance [ES α S] [ES β T] [ER ρ]:ES (TO α β ρ) (Out S T):=⟨fun o=>match o with
 | .nx a=>.nx (es a)| .bk b=>.bk (es b)| .ct b=>.ct (es b)| .ret r=>.ret (ER.er r).1 (ER.er r).2| .exc x=>.exc x⟩
instance [ES β T] [ER ρ]:ES (uz β ρ) (Res T):=⟨fun o=>match o with
 | .fin a=>.fin (es a)| .ret r=>.ret (ER.er r).1 (ER.er r).2| .exc x=>.exc x⟩
end
def TyS {A S:Type} [ES A S] (m:Option S) (t:Option A):Prop:= ∀a,t=some a->m=some (es a)
section
variable {A B C E F S T U A' B' α β γ δ ρ α' β' γ' δ':Type}
theorem aa [ES A S] {m:S} {a:A} (h:m=es a):TyS (some m) (some a):=fun b e=>by cases e;rw[h]
theorem au [En A] (a:A):TyS (some (en a)) (some a):=aa rfl
theorem uX [ES A S] {m:Option S}:TyS m (none:Option A):=fun _ e=>by cases e
theorem ay [ES A S] [ES B T] {m:Option S} {k:S->Option T} {t:Option A} {l:A->Option B} (h:TyS m t) (g: ∀a,TyS (k (es a)) (l a)):TyS (m.bind k) (t.bind l):=fun b e=>by
 obtain⟨a,e1,e2⟩:=bind1 e
 rw[h a e1];exact g a b e2
def rY [ES A S] [ES B T] (f:S->Option T) (g:A->Option B):Prop:= ∀a b,g a=some b->f (es a)=some (es b)
def fW [ES A S] [ES B T] [ES C U] (f:S->T->Option U) (g:A->B->Option C):Prop:= ∀a b c,g a b=some c->f (es a) (es b)=some (es c)
theorem pj [ES A S] [ES B T] {f:S->Option T} {g:A->Option B} (h:rY f g) {m:Option S} {t:Option A} (q:TyS m t):TyS (b1 f m) (b1 g t):=ay q fun a b e=>h a b e
theorem aw [ES A S] [ES B T] [ES C U] {f:S->T->Option U} {g:A->B->Option C} (h:fW f g) {m:Option S} {t:Option A} {m':Option T} {t':Option B} (q:TyS m t) (q':TyS m' t'):TyS (b2 f m m') (b2 g t t'):=
 ay q fun a=>ay q' fun b c e=>h a b c e
theorem mC [En A] [En B] {f:D->D->Option Bool} {g:A->B->Option Bool} (h:fW f g):fW (blD f) g:=fun a b c e=>by
 unfold blD;rw[h a b c e];rfl
theorem lH {m:Option D} {t:Option Bool} (q:TyS m t):TyS (b1 D.tb m) t:=fun a e=>by
 unfold b1;rw[q a e];rfl
theorem nU {m:Option Bool} {t:Option Bool} (q:TyS m t):TyS (lX m) (lX t):=ay q fun a=>aa rfl
theorem uY {m n:Option Bool} {t u:Option Bool} (q:TyS m t) (r:TyS n u):TyS (lD m n) (lD t u):=ay q fun a=>by
 cases a
 ·exact aa rfl
 ·exact r
theorem vJ {m n:Option Bool} {t u:Option Bool} (q:TyS m t) (r:TyS n u):TyS (orB m n) (orB t u):=ay q fun a=>by
 cases a
 ·exact r
 ·exact aa rfl
theorem Du {m:Option D} {t:Option Bool} (q:TyS m t):TyS (IB m) (lX t):=ay (lH q) fun a=>aa rfl
theorem uZ {m n:Option D} {t u:Option Bool} (q:TyS m t) (r:TyS n u):TyS (Ec m n) (lD t u):=ay (lH q) fun a=>by
 cases a
 ·exact aa rfl
 ·exact r
theorem Gz {m n:Option D} {t u:Option Bool} (q:TyS m t) (r:TyS n u):TyS (orE m n) (orB t u):=ay (lH q) fun a=>by
 cases a
 ·exact r
 ·exact aa rfl
def PF (c:Option Bool) (x y:Option A):Option A:=c.bind fun c=>if c=true then x else y
def yQ (k:γ->Option (TO α β ρ)):TO γ β ρ->Option (TO α β ρ)
 | .nx a=>k a
 | .bk b=>some (.bk b)
 | .ct b=>some (.ct b)
 | .ret r=>some (.ret r)
 | .exc x=>some (.exc x)
def gZ (c:Option Bool) (x y:Option (TO γ β ρ)) (k:γ->Option (TO α β ρ)):Option (TO α β ρ):=c.bind fun c=>(if c=true then x else y).bind (yQ k)
theorem yR [ES α A] [ES β B] [ES γ C] [ER ρ] {k:C->Option (Out A B)} {l:γ->Option (TO α β ρ)} (h: ∀a,TyS (k (es a)) (l a)) (o:TO γ β ρ):TyS (sqO k (es o)) (yQ l o):=by
 cases o with
 |nx a=>exact h a
 |bk a=>exact aa rfl
 |ct a=>exact aa rfl
 |ret a=>exact aa rfl
 |exc a=>exact aa rfl
theorem ck [ES α A] [ES β B] [ES γ C] [ER ρ] {c c':Option Bool} {x y:Option (Out C B)} {x' y':Option (TO γ β ρ)} {k:C->Option (Out A B)} {l:γ->Option (TO α β ρ)}
  (q:TyS c c') (hx:TyS x x') (hy:TyS y y') (h: ∀a,TyS (k (es a)) (l a)):TyS (ifO c x y k) (gZ c' x' y' l):=ay q fun a=>by
 cases a
 ·exact ay hy fun o=>yR h o
 ·exact ay hx fun o=>yR h o
def fE (step:β->δ->Option (TO β β ρ)):List δ->β->Option (uz β ρ)
 | [],b=>some (.fin b)
 |x::xs,b=>(step b x).bind fun
  | .nx b'=>fE step xs b'
  | .ct b'=>fE step xs b'
  | .bk b'=>some (.fin b')
  | .ret r=>some (.ret r)
  | .exc x=>some (.exc x)
def Ex (k:γ->Option (TO α β ρ)):uz γ ρ->Option (TO α β ρ)
 | .fin b=>k b
 | .ret r=>some (.ret r)
 | .exc x=>some (.exc x)
def g4 (ds:Option (List δ)) (step:γ->δ->Option (TO γ γ ρ)) (b0:γ) (k:γ->Option (TO α β ρ)):Option (TO α β ρ):=ds.bind fun ds=>(fE step ds b0).bind (Ex k)
theorem u4 [ES β B] [ES δ E] [ER ρ] {st:B->E->Option (Out B B)} {st':β->δ->Option (TO β β ρ)} (h: ∀b x,TyS (st (es b) (es x)) (st' b x)): ∀(xs:List δ) (b:β),TyS (forL st (es xs) (es b)) (fE st' xs b)
 | [],b=>aa rfl
 |x::xs,b=>by
  show TyS ((st (es b) (es x)).bind _) ((st' b x).bind _)
  refine ay (h b x) fun o=> ?_
  cases o with
  |nx a=>exact u4 h xs a
  |ct a=>exact u4 h xs a
  |bk a=>exact aa rfl
  |ret a=>exact aa rfl
  |exc a=>exact aa rfl
theorem GA [ES α A] [ES β B] [ES γ C] [ER ρ] {k:C->Option (Out A B)} {l:γ->Option (TO α β ρ)} (h: ∀a,TyS (k (es a)) (l a)) (o:uz γ ρ):TyS (sqF k (es o)) (Ex l o):=by
 cases o with
 |fin a=>exact h a
 |ret a=>exact aa rfl
 |exc a=>exact aa rfl
theorem du [ES α A] [ES β B] [ES γ C] [ES δ E] [ER ρ] {m:Option (List E)} {t:Option (List δ)} {st:C->E->Option (Out C C)} {st':γ->δ->Option (TO γ γ ρ)} {b:C} {b':γ} {k:C->Option (Out A B)} {l:γ->Option (TO α β ρ)}
  (q:TyS m t) (hs: ∀b x,TyS (st (es b) (es x)) (st' b x)) (hb:b=es b') (h: ∀a,TyS (k (es a)) (l a)):TyS (mK m st b k) (g4 t st' b' l):=ay q fun xs=>by
 subst hb
 exact ay (u4 hs xs b') fun o=>GA h o
def Jg (k:γ->Option (TO α β ρ)):uz γ ρ->Option (TO α β ρ)
 | .fin b=>k b
 | .ret r=>some (.ret r)
 | .exc _=>none
def Dw (ds:Option (List δ)) (step:γ->δ->Option (TO γ γ ρ)) (b0:γ) (k:γ->Option (TO α β ρ)):Option (TO α β ρ):=ds.bind fun ds=>(fE step ds b0).bind (Jg k)
theorem Dx [ES α A] [ES β B] [ES γ C] [ES δ E] [ER ρ] {m:Option (List E)} {t:Option (List δ)} {st:C->E->Option (Out C C)} {st':γ->δ->Option (TO γ γ ρ)} {b:C} {b':γ} {k:C->Option (Out A B)} {l:γ->Option (TO α β ρ)}
  (q:TyS m t) (hs: ∀b x,TyS (st (es b) (es x)) (st' b x)) (hb:b=es b') (h: ∀a,TyS (k (es a)) (l a)):TyS (IE m st b k) (Dw t st' b' l):=ay q fun xs=>by
 subst hb
 refine ay (u4 hs xs b') fun o=> ?_
 cases o with
 |fin a=>exact h a
 |ret a=>exact aa rfl
 |exc a=>intro r e;cases e
theorem aX [ES α A] [ES β B] [ER ρ] {s:A} {a:α} (h:s=es a):TyS (some (Out.nx s:Out A B)) (some (TO.nx a:TO α β ρ)):=aa (by rw[h];rfl)
theorem GB [ES α A] [ES β B] [ER ρ] {d:D} {os:List D} {r:ρ} (h:(d,os)=ER.er r):TyS (some (Out.ret d os:Out A B)) (some (TO.ret r:TO α β ρ)):=aa (by
 show Out.ret d os=Out.ret (ER.er r).1 (ER.er r).2
 rw[<-h])
def cq (t:Option A) (f:A->ρ):Option (TO α β ρ):=t.bind fun a=>some (.ret (f a))
theorem aI [En A'] [ES α A] [ES β B] [ER ρ] {m:Option D} {t:Option A'} {os:List D} {f:A'->ρ} (q:TyS m t) (h: ∀a,(en a,os)=ER.er (f a)):TyS (cP m os:Option (Out A B)) (cq t f:Option (TO α β ρ)):=ay q fun a=>GB (h a)
def tF0 (t:Option (TO PEmpty PEmpty (R0 A))):Option A:=t.bind fun o=>match o with| .ret r=>some r.v|_=>none
def tF1 (t:Option (TO PEmpty PEmpty (R1 A B))):Option (A×B):=t.bind fun o=>match o with| .ret r=>some (r.v,r.o)|_=>none
def tF2 (t:Option (TO PEmpty PEmpty (R2' A B C))):Option (A×B×C):=t.bind fun o=>match o with| .ret r=>some (r.v,r.o,r.p)|_=>none
def tF3 (t:Option (TO PEmpty PEmpty (R3 A B C E))):Option (A×B×C×E):=t.bind fun o=>match o with| .ret r=>some (r.v,r.o,r.p,r.q)|_=>none
def Fo0 [En A] (m:Option FR) (t:Option A):Prop:= ∀r,t=some r->m=some (.ok (en r) [])
theorem fo0 [En A] {m:Option (Out PEmpty PEmpty)} {t:Option (TO PEmpty PEmpty (R0 A))} (h:TyS m t):Fo0 (FO m) (tF0 t):=fun r e=>by
 obtain⟨o,e1,e2⟩:=bind1 e
 cases o <;> cases e2
 unfold FO;rw[h _ e1];rfl
def b3 (f:A->B->C->Option E) (a:Option A) (b:Option B) (c:Option C):Option E:=a.bind fun a=>b.bind fun b=>c.bind fun c=>f a b c
def b4 {A B C E F:Type} (f:A->B->C->E->Option F) (a:Option A) (b:Option B) (c:Option C) (d:Option E):Option F:=a.bind fun a=>b.bind fun b=>c.bind fun c=>d.bind fun d=>f a b c d
def b5 {A B C E F G:Type} (f:A->B->C->E->F->Option G) (a:Option A) (b:Option B) (c:Option C) (d:Option E) (e:Option F):Option G:=a.bind fun a=>b.bind fun b=>c.bind fun c=>d.bind fun d=>e.bind fun e=>f a b c d e
def b6 {A B C E F G H:Type} (f:A->B->C->E->F->G->Option H) (a:Option A) (b:Option B) (c:Option C) (d:Option E) (e:Option F) (g:Option G):Option H:=a.bind fun a=>b.bind fun b=>c.bind fun c=>d.bind fun d=>e.bind fun e=>g.bind fun g=>f a b c d e g
@[simp] theorem kS (f:A->B->C->Option E) (a b c):b3 f (some a) (some b) (some c)=f a b c:=rfl
@[simp] theorem Jh {A B C E F:Type} (f:A->B->C->E->Option F) (a b c d):b4 f (some a) (some b) (some c) (some d)=f a b c d:=rfl
@[simp] theorem Ji {A B C E F G:Type} (f:A->B->C->E->F->Option G) (a b c d e):b5 f (some a) (some b) (some c) (some d) (some e)=f a b c d e:=rfl
@[simp] theorem OM {A B C E F G H:Type} (f:A->B->C->E->F->G->Option H) (a b c d e g):b6 f (some a) (some b) (some c) (some d) (some e) (some g)=f a b c d e g:=rfl
end
section
variable {A B C E S ρ A1 A2 A3 A4 A5 A6:Type} [En A] [En B] [En C] [En E] [En A1] [En A2] [En A3] [En A4] [En A5] [En A6]
theorem yS {Fs:List D->Option FR} {ds:List D} {t:Option A} {r:A} (h:Fo0 (Fs ds) t) (e:t=some r):aP Fs (some ds)=some (es r):=by
 unfold aP;rw[Option.bind_some,h r e];rfl
theorem dv {Fs:List D->Option FR} {g:A1->Option (A)} (h: ∀(x1:A1),Fo0 (Fs [en x1]) (g x1)) {m1:Option D} {t1:Option A1} (q1:TyS m1 t1):TyS (aP Fs (aj m1 aN)) (b1 g t1):=fun r e=>by
 obtain⟨x1,e1,e⟩:=bind1 e
 rw[q1 _ e1]
 exact yS (h x1) e
theorem bA {Fs:List D->Option FR} {g:A1->A2->Option (A)} (h: ∀(x1:A1) (x2:A2),Fo0 (Fs [en x1,en x2]) (g x1 x2)) {m1:Option D} {t1:Option A1} {m2:Option D} {t2:Option A2} (q1:TyS m1 t1) (q2:TyS m2 t2):TyS (aP Fs (aj m1 (aj m2 aN))) (b2 g t1 t2):=fun r e=>by
 obtain⟨x1,e1,e⟩:=bind1 e
 obtain⟨x2,e2,e⟩:=bind1 e
 rw[q1 _ e1,q2 _ e2]
 exact yS (h x1 x2) e
theorem l7 {Fs:List D->Option FR} {g:A1->A2->A3->Option (A)} (h: ∀(x1:A1) (x2:A2) (x3:A3),Fo0 (Fs [en x1,en x2,en x3]) (g x1 x2 x3)) {m1:Option D} {t1:Option A1} {m2:Option D} {t2:Option A2} {m3:Option D} {t3:Option A3} (q1:TyS m1 t1) (q2:TyS m2 t2) (q3:TyS m3 t3):TyS (aP Fs (aj m1 (aj m2 (aj m3 aN)))) (b3 g t1 t2 t3):=fun r e=>by
 obtain⟨x1,e1,e⟩:=bind1 e
 obtain⟨x2,e2,e⟩:=bind1 e
 obtain⟨x3,e3,e⟩:=bind1 e
 rw[q1 _ e1,q2 _ e2,q3 _ e3]
 exact yS (h x1 x2 x3) e
theorem Jj {Fs:List D->Option FR} {g:A1->A2->A3->A4->Option (A)} (h: ∀(x1:A1) (x2:A2) (x3:A3) (x4:A4),Fo0 (Fs [en x1,en x2,en x3,en x4]) (g x1 x2 x3 x4)) {m1:Option D} {t1:Option A1} {m2:Option D} {t2:Option A2} {m3:Option D} {t3:Option A3} {m4:Option D} {t4:Option A4} (q1:TyS m1 t1) (q2:TyS m2 t2) (q3:TyS m3 t3) (q4:TyS m4 t4):TyS (aP Fs (aj m1 (aj m2 (aj m3 (aj m4 aN))))) (b4 g t1 t2 t3 t4):=fun r e=>by
 obtain⟨x1,e1,e⟩:=bind1 e
 obtain⟨x2,e2,e⟩:=bind1 e
 obtain⟨x3,e3,e⟩:=bind1 e
 obtain⟨x4,e4,e⟩:=bind1 e
 rw[q1 _ e1,q2 _ e2,q3 _ e3,q4 _ e4]
 exact yS (h x1 x2 x3 x4) e
end
end Sw
namespace Sw
open PySem PySem.Spec PyProof.Rows L2
section
variable {A B C E F K R S:Type}
namespace T
def bT (a b:Int):Option Int:=some (a+b)
def gY (a b:Int):Option Int:=some (a -b)
noncomputable def j8 (a b:Int):Option Int:=if vw a b=true then some (a*b) else none
noncomputable def eT (a b:Int):Option Int:=cif (0<b/\b<1073741824) (a/b)
noncomputable def bw (a b:Int):Option Int:=cif (0<b) (a%b)
noncomputable def wQ (a b:Int):Option Int:=cif (0<=b/\b<=1000000/\a.natAbs<2^64) (a^b.toNat)
def K1 (a:Int):Option Int:=some (-a)
def ltI (a b:Int):Option Bool:=some (decide (a<b))
def leI (a b:Int):Option Bool:=some (decide (a<=b))
def gtI (a b:Int):Option Bool:=some (decide (b<a))
def geI (a b:Int):Option Bool:=some (decide (b<=a))
def eqA [DecidableEq A] (a b:A):Option Bool:=some (decide (a=b))
def neA [DecidableEq A] (a b:A):Option Bool:=some (!decide (a=b))
def ltS (a b:Str):Option Bool:=some (decide (cC a b))
def leS (a b:Str):Option Bool:=some (!decide (cC b a))
def gtS (a b:Str):Option Bool:=some (decide (cC b a))
def geS (a b:Str):Option Bool:=some (!decide (cC a b))
def kQ (a b:Str):Option Str:=if a.length+b.length<=sizeLine then some (a++b) else none
def min2 (a b:Int):Option Int:=some (if b<a then b else a)
def max2 (a b:Int):Option Int:=some (if b>a then b else a)
def Km (a b:Str):Option Str:=some (if cC b a then b else a)
def Kn (a b:Str):Option Str:=some (if cC a b then b else a)
end T
theorem bY:fW D.bT T.bT:=fun a b c e=>by cases e;rfl
theorem gq:fW D.gY T.gY:=fun a b c e=>by cases e;rfl
theorem Dy {f:Int->Int->Option Int}:fW (ii f) f:=fun a b c e=>by
 show (f a b).map D.int=_
 rw[e];rfl
theorem nV:fW D.j8 T.j8:=Dy
theorem dI:fW D.eT T.eT:=Dy
theorem aY:fW D.bw T.bw:=Dy
theorem Dz:fW D.wQ T.wQ:=Dy
theorem GC:fW D.ltI T.ltI:=fun a b c e=>by cases e;rfl
theorem vL:fW D.leI T.leI:=fun a b c e=>by cases e;rfl
theorem GD:fW D.gtI T.gtI:=fun a b c e=>by cases e;rfl
class At (A:Type) [En A] [DecidableEq A]:Prop where
 eqa: ∀a b:A,D.eqA (en a) (en b)=some (decide (a=b))
 nea: ∀a b:A,D.neA (en a) (en b)=some (!decide (a=b))
 toV: ∀a:A,∃v,D.toV (en a)=some v
 eqv: ∀(a b:A) (v w:V),D.toV (en a)=some v->D.toV (en b)=some w->eqV v w=decide (b=a)\/eqV v w=decide (a=b)
instance:At Int:=⟨Kv,Kw,fun a=>⟨_,rfl⟩,fun a b v w e f=>by cases e;cases f;right;simp[eqV];rw[Bool.eq_iff_iff];simp⟩
instance:At Str:=⟨Kx,Ky,fun a=>⟨_,rfl⟩,fun a b v w e f=>by cases e;cases f;right;simp[eqV];rw[Bool.eq_iff_iff];simp⟩
theorem gO [En A] [DecidableEq A] [At A]:fW D.eqA (T.eqA:A->A->Option Bool):=fun a b c e=>by cases e;exact At.eqa a b
theorem GF [En A] [DecidableEq A] [At A]:fW D.neA (T.neA:A->A->Option Bool):=fun a b c e=>by cases e;exact At.nea a b
theorem LS:fW D.eqA (T.eqA:Bool->Bool->Option Bool):=fun a b c e=>by cases e;exact Ny a b
theorem kT:fW D.kQ T.kQ:=fun a b c e=>by
 obtain⟨h,rfl⟩:=aH e
 show (if a.length+b.length<=sizeLine then some (D.str (a++b)) else none)=_
 rw[if_pos h];rfl
theorem qH [ES A D] [ES B S] {f:D->Option S} {g:A->Option B} (h:rY f g) {m:Option D} {t:Option A} (q:TyS m t):TyS (b1 (un1 f) (aj m aN)) (b1 g t):=fun b e=>by
 obtain⟨a,e1,e2⟩:=bind1 e
 unfold b1 aj
 rw[q a e1]
 exact h a b e2
def NA [En A] [ES B S] (f:List D->Option S) (g:A->Option B):Prop:= ∀a c,g a=some c->f [en a]=some (es c)
def NB [En A] [En B] [ES C S] (f:List D->Option S) (g:A->B->Option C):Prop:= ∀a b c,g a b=some c->f [en a,en b]=some (es c)
theorem DA [En A] [ES B S] {f:List D->Option S} {g:A->Option B} (h:NA f g) {m:Option D} {t:Option A} (q:TyS m t):TyS (b1 f (aj m aN)) (b1 g t):=fun b e=>by
 obtain⟨a,e1,e2⟩:=bind1 e
 unfold b1 aj
 rw[q a e1]
 exact h a b e2
theorem GG [En A] [En B] [ES C S] {f:List D->Option S} {g:A->B->Option C} (h:NB f g) {m n:Option D} {t:Option A} {u:Option B} (q:TyS m t) (r:TyS n u):TyS (b1 f (aj m (aj n aN))) (b2 g t u):=fun c e=>by
 obtain⟨a,b,e1,e2,e3⟩:=cj e
 unfold b1 aj
 rw[q a e1,r b e2]
 exact h a b c e3
theorem yT:NB D.max2 T.max2:=fun a b c e=>by cases e;rfl
namespace T
def pair (a:A) (b:B):Option (A×B):=some (a,b)
def tri (a:A) (b:B) (c:C):Option (T3 A B C):=some ⟨a,b,c⟩
def qua (a:A) (b:B) (c:C) (d:E):Option (T4 A B C E):=some ⟨a,b,c,d⟩
def qui (a:A) (b:B) (c:C) (d:E) (e:F):Option (T5 A B C E F):=some ⟨a,b,c,d,e⟩
def cons (t:Option A) (u:Option (List A)):Option (List A):=t.bind fun a=>u.bind fun r=>some (a::r)
def lst (u:Option (List A)):Option (List A):=u.bind fun r=>if r.length<=sizeLine then some r else none
def atL (xs:List A) (i:Int):Option A:=atI xs i
def atC (xs:Scr) (i:Int):Option Int:=atI xs.l i
def sgs (x:Str):List Str:=x.cps.toList.map fun c=>⟨#[c]⟩
def atS (x:Str) (i:Int):Option Str:=if x.length<=sizeLine then atI (sgs x) i else none
def uy (xs:List A):Option Int:=some xs.length
def Ak (xs:Scr):Option Int:=some xs.l.length
def wR (x:Str):Option Int:=if x.length<=sizeLine then some x.length else none
def Iq (d:Sd A):Option Int:=some d.l.length
def Am (xs ys:List A):Option (List A):=if xs.length+ys.length<=sizeLine then some (xs++ys) else none
def fT (xs:List A) (lo hi:Option Int):Option (List A):=some (Sw.fT xs lo hi)
def K6 (xs:Scr) (lo hi:Option Int):Option (List Int):=some (Sw.fT xs.l lo hi)
def cutS (x:Str) (lo hi:Option Int):Option Str:=if x.length<=sizeLine then some (L2.cutS x lo hi) else none
def toI (i:Int):Option (Option Int):=some (some i)
def rev (xs:List A):Option (List A):=some xs.reverse
def join (a:Str) (xs:List Str):Option Str:=if (xs.map (·.length)).sum+xs.length*a.length<=16777216 then some (Txt.join a xs) else none
def Nj (xs:List Int):Option Int:=some xs.sum
noncomputable def qo (n:Int):Option (List Int):=if okR n=true then some ((List.range n.toNat).map fun i:Nat=>(i:Int)) else none
def vA (x:Str):Option (List Str):=some (sgs x)
def inA [DecidableEq A] (neg:Bool) (a:A) (xs:List A):Option Bool:=some (if neg=true then !decide (a∈xs) else decide (a∈xs))
end T
theorem DB [En A] [En B] [En C] {m n o:Option D} {t:Option A} {u:Option B} {v:Option C} (q:TyS m t) (r:TyS n u) (s:TyS o v):TyS (tupO (aj m (aj n (aj o aN)))) (b3 T.tri t u v):=fun c e=>by
 obtain⟨a,e1,e⟩:=bind1 e
 obtain⟨b,e2,e⟩:=bind1 e
 obtain⟨d,e3,e⟩:=bind1 e
 unfold tupO aj
 rw[q a e1,r b e2,s d e3];cases e;rfl
theorem Jk [En A] [En B] [En C] [En E] [En F] {m n o p k:Option D} {t:Option A} {u:Option B} {v:Option C} {w:Option E} {l:Option F} (q:TyS m t) (r:TyS n u) (s:TyS o v) (z:TyS p w) (y:TyS k l):TyS (tupO (aj m (aj n (aj o (aj p (aj k aN)))))) (b5 T.qui t u v w l):=fun c e=>by
 obtain⟨a,e1,e⟩:=bind1 e
 obtain⟨b,e2,e⟩:=bind1 e
 obtain⟨d,e3,e⟩:=bind1 e
 obtain⟨f,e4,e⟩:=bind1 e
 obtain⟨g,e5,e⟩:=bind1 e
 unfold tupO aj
 rw[q a e1,r b e2,s d e3,z f e4,y g e5];cases e;rfl
theorem pk [En A]:TyS (S:=List D) aN (some ([]:List A)):=fun _ e=>by cases e;rfl
theorem bq [En A] {m:Option D} {t:Option A} {ms:Option (List D)} {u:Option (List A)} (q:TyS m t) (r:TyS ms u):TyS (aj m ms) (T.cons t u):=ay q fun a=>ay r fun b=>aa rfl
theorem pq [En A] {ms:Option (List D)} {u:Option (List A)} (r:TyS ms u):TyS (wW ms) (T.lst u):=ay r fun xs b e=>by
 obtain⟨h,rfl⟩:=aH e
 show (if ((xs.map en).length)<=sizeLine then _ else _)=_
 rw[List.length_map,if_pos h];rfl
theorem qa [En A]:TyS (some (D.lst [])) (some ([]:List A)):=aa rfl
theorem rZ [En A]:TyS (some (D.dct [])) (some (⟨[]⟩:Sd A)):=aa rfl
theorem AI {α β:Type} (f:α->β) (xs:List α) (i:Int):atI (xs.map f) i=(atI xs i).map f:=by
 unfold L2.atI
 rw[List.length_map]
 cases ixN xs.length i with
 |none=>rfl
 |some j=>simp
theorem s9 [En A]:fW D.atL (T.atL:List A->Int->Option A):=fun xs i a e=>by
 show atI (xs.map en) i=_
 rw[AI,show atI xs i=some a from e];rfl
theorem LU:fW D.atC T.atC:=fun xs i a e=>by
 show (atI xs.l i).map D.int=_
 rw[show atI xs.l i=some a from e];rfl
theorem vM:fW D.atS T.atS:=fun x i a e=>by
 obtain⟨h,e⟩:=(show x.length<=sizeLine/\atI (T.sgs x) i=some a by
  unfold T.atS at e
  split at e
  ·exact⟨by assumption,e⟩
  ·cases e)
 show (if x.length<=sizeLine then (atI x.cps.toList i).map fun c=>D.str ⟨#[c]⟩ else none)=_
 rw[if_pos h]
 unfold T.sgs at e
 rw[AI] at e
 cases q:atI x.cps.toList i with
 |none=>rw[q] at e;cases e
 |some c=>rw[q] at e;cases e;rfl
theorem bj [En A] [En B] {m:Option D} {t:Option A} {i:Int} {f:A->B} (q:TyS m t) (h: ∀a,D.atT (en a) (.int i)=some (en (f a))):TyS (b2 D.atT m (some (.int i))) (t.map f):=fun b e=>by
 cases t with
 |none=>cases e
 |some a=>
  cases e
  unfold b2
  rw[q a rfl];exact h a
theorem DC [En A]:rY D.uy (T.uy:List A->Option Int):=fun xs c e=>by
 cases e
 show some (D.int (xs.map en).length)=_
 rw[List.length_map];rfl
theorem Jl:rY D.Ak T.Ak:=fun xs c e=>by cases e;rfl
theorem DD:rY D.wR T.wR:=fun x c e=>by
 obtain⟨h,rfl⟩:=aH e
 show (if x.length<=sizeLine then some (D.int x.length) else none)=_
 rw[if_pos h];rfl
theorem Jm [En A]:fW D.Am (T.Am:List A->List A->Option (List A)):=fun xs ys c e=>by
 obtain⟨h,rfl⟩:=aH e
 show (if (xs.map en).length+(ys.map en).length<=sizeLine then some (D.lst (xs.map en++ys.map en)) else none)=_
 rw[List.length_map,List.length_map,if_pos h,←List.map_append];rfl
theorem AJ {α β:Type} (f:α->β) (xs:List α) (lo hi:Option Int):Sw.fT (xs.map f) lo hi=(Sw.fT xs lo hi).map f:=by
 unfold Sw.fT
 rw[List.length_map,←List.map_drop,←List.map_take]
def yU (f:A->Option Int->Option Int->Option B) (a:Option A) (l h:Option (Option Int)):Option B:=a.bind fun x=>l.bind fun l=>h.bind fun u=>f x l u
@[simp] theorem mQ (f:A->Option Int->Option Int->Option B) (a:A) (l h:Option Int):yU f (some a) (some l) (some h)=f a l h:=rfl
def TyC [En A] [En B] (f:D->Option Int->Option Int->Option D) (g:A->Option Int->Option Int->Option B):Prop:= ∀a l h b,g a l h=some b->f (en a) l h=some (en b)
theorem vN [En A] [En B] {f:D->Option Int->Option Int->Option D} {g:A->Option Int->Option Int->Option B} (h:TyC f g) {m:Option D} {t:Option A} {l l' u u':Option (Option Int)} (q:TyS m t) (r:TyS l l') (s:TyS u u'):TyS (Ar f m l u) (yU g t l' u'):=
 ay q fun a=>ay r fun l=>ay s fun u b e=>by
  have el:(es l:Option Int)=l:=by cases l <;> rfl
  have eu:(es u:Option Int)=u:=by cases u <;> rfl
  rw[el,eu]
  exact h a l u b e
theorem DE:TyS (some (none:Option Int)) (some (none:Option Int)):=aa rfl
theorem te:rY D.toI T.toI:=fun a b e=>by cases e;rfl
theorem LV [En A]:TyC D.fT (T.fT:List A->Option Int->Option Int->Option (List A)):=fun xs l h b e=>by
 cases e
 show some (D.lst (Sw.fT (xs.map en) l h))=_
 rw[AJ];rfl
theorem NC [En A] [Ev A]:TyC D.FE (T.fT:List A->Option Int->Option Int->Option (List A)):=fun xs l h b e=>by
 cases e
 show (if D.evs (xs.map en)=true then some (D.lst (Sw.fT (xs.map en) l h)) else none)=_
 rw[if_pos (LR xs),AJ];rfl
theorem PH:TyC D.cutS T.cutS:=fun x l h b e=>by
 obtain⟨g,rfl⟩:=aH e
 show (if x.length<=sizeLine then some (D.str (L2.cutS x l h)) else none)=_
 rw[if_pos g];rfl
theorem LW [En A]:rY D.toL (some:List A->Option (List A)):=fun xs c e=>by cases e;rfl
theorem eU [En A] {m:Option D} {t:Option (List A)} (q:TyS m t):TyS (nL m) t:=fun a e=>by
 unfold nL;rw[q a e];rfl
theorem LX [En A] {m:Option D} {t:Option (List A)} (q:TyS m t):TyS (Ni m) (b1 T.rev t):=ay (eU q) fun xs=>aa (by
 show (xs.map en).reverse=xs.reverse.map en
 rw[List.map_reverse])
namespace T
def zip (xs:List A) (ys:List B):Option (List (A×B)):=some (xs.zip ys)
end T
theorem Jn [En A] {m:Option D} {t:Option (List A)} (q:TyS m t):TyS (IJ m) (b1 T.rev t):=fun b e=>by
 unfold IJ
 rw[LX q b e];rfl
theorem u6:NA (S:=List D) D.qo T.qo:=fun n c e=>by
 obtain⟨h,rfl⟩:=aH e
 show (if okR n=true then some (wU 0 n.toNat) else none)=_
 rw[if_pos h,Gp]
 show _=some (List.map en _)
 rw[List.map_map];rfl
theorem yV:rY (T:=List D) D.vA T.vA:=fun x c e=>by
 cases e
 show some (x.cps.toList.map sgn)=some (List.map en (T.sgs x))
 unfold T.sgs
 rw[List.map_map];rfl
theorem Jo (xs:List Str):D.strs (xs.map en)=some xs:=strs_map xs
theorem yW:fW D.join T.join:=fun a xs c e=>by
 obtain⟨h,rfl⟩:=aH e
 show ((D.strs (xs.map en)).bind _)=_
 rw[Jo,Option.bind_some,if_pos h];rfl
theorem GH [En A] [DecidableEq A] [At A] (a:A) (v:V) (hv:D.toV (en a)=some v): ∀xs:List A,∃vs,D.sW (xs.map en)=some vs/\inV v vs=decide (a∈xs)
 | []=>⟨[],rfl,rfl⟩
 |x::xs=>by
  obtain⟨vs,e1,e2⟩:=GH a v hv xs
  obtain⟨w,hw⟩:=At.toV x
  refine⟨w::vs,?_,?_⟩
  ·rw[List.map_cons];unfold D.sW;rw[hw,e1];rfl
  ·show (eqV w v||inV v vs)=_
   have h:eqV w v=decide (x=a):=by
    rcases At.eqv x a w v hw hv with h|h
    ·rw[h];rw[Bool.eq_iff_iff];simp only[decide_eq_true_eq];exact eq_comm
    ·exact h
   rw[h,e2,Bool.eq_iff_iff]
   simp only[Bool.or_eq_true,decide_eq_true_eq,List.mem_cons]
   exact or_congr eq_comm Iff.rfl
theorem LY [En A] [DecidableEq A] [At A] (neg:Bool):fW (D.inA neg) (T.inA neg:A->List A->Option Bool):=fun a xs c e=>by
 cases e
 obtain⟨v,hv⟩:=At.toV a
 obtain⟨vs,e1,e2⟩:=GH a v hv xs
 show (((D.toV (en a)).bind fun a=>(some (xs.map en)).bind fun ds=>(D.sW ds).map fun vs=>if neg=true then !inV a vs else inV a vs))=_
 rw[hv,Option.bind_some,Option.bind_some,e1,Option.map_some,e2];rfl
def vO (rt:A->Option Bool) (re:A->Option B):List A->Option (List B)
 | []=>some []
 |d::ds=>(rt d).bind fun b=>if b=true then (re d).bind fun x=>(vO rt re ds).bind fun xs=>some (x::xs) else vO rt re ds
def tlc (xs:Option (List A)) (rt:A->Option Bool) (re:A->Option B):Option (List B):=xs.bind fun ds=>if ds.length<=sizeLine then vO rt re ds else none
theorem vP [ES A S] [En B] {rt:S->Option Bool} {re:S->Option D} {rt':A->Option Bool} {re':A->Option B} (h: ∀a,TyS (rt (es a)) (rt' a)) (g: ∀a,TyS (re (es a)) (re' a)): ∀xs:List A,TyS (S:=List D) (rL rt re (xs.map es)) (vO rt' re' xs)
 | []=>aa rfl
 |x::xs=>by
  show TyS ((rt (es x)).bind _) ((rt' x).bind _)
  refine ay (h x) fun b=> ?_
  cases b with
  |false=>exact vP h g xs
  |true=>exact ay (g x) fun y=>ay (vP h g xs) fun ys=>aa rfl
theorem xZ [ES A S] [En B] {m:Option (List S)} {t:Option (List A)} {rt:S->Option Bool} {re:S->Option D} {rt':A->Option Bool} {re':A->Option B} (q:TyS m t) (h: ∀a,TyS (rt (es a)) (rt' a)) (g: ∀a,TyS (re (es a)) (re' a)):TyS (lcO m rt re) (tlc t rt' re'):=ay q fun xs b e=>by
 split at e
 ·rename_i hl
  unfold xJ
  rw[show (es xs:List S).length=xs.length from List.length_map ..]
  rw[if_pos hl]
  have:=vP h g xs b e
  rw[show (es xs:List S)=xs.map es from rfl,this];rfl
 ·cases e
theorem px [En A] (x:Str) (d:List (Str×A)):aC (sdK d) (Sum.inr x)=(aC d x).map en:=yN en x d
theorem AK [En A] (x:Str) (v:A) (d:List (Str×A)):aM (sdK d) (Sum.inr x) (en v)=sdK (aM d x v):=Dr en x v d
theorem r9 [En A] (d:List (Str×A)):(sdK d).length=d.length:=by unfold sdK;rw[List.length_map]
namespace T
def ux (d:Sd A) (x:Str):Option A:=aC d.l x
def inK (x:Str) (d:Sd A):Option Bool:=some (aC d.l x).isSome
def Ip (x:Str) (d:Sd A):Option Bool:=some (!(aC d.l x).isSome)
def rQ (d:Sd A):Option (List Str):=some (d.l.map (·.1))
def items (d:Sd A):Option (List (Str×A)):=some d.l
def vals (d:Sd A):Option (List A):=some (d.l.map (·.2))
end T
theorem DF [En A]:fW D.ux (T.ux:Sd A->Str->Option A):=fun d x a e=>by
 show ((some (aC (sdK d.l) (Sum.inr x))).bind id)=_
 rw[px,show aC d.l x=some a from e];rfl
theorem GI [En A]:rY D.rQ (T.rQ:Sd A->Option (List Str)):=fun d c e=>by
 cases e
 show some (D.lst ((sdK d.l).map fun k=>kD k.1))=some (D.lst (List.map en (d.l.map (·.1))))
 unfold sdK
 rw[List.map_map,List.map_map];rfl
theorem Jp [En A]:rY (T:=List D) (D.ksF Au) (T.rQ:Sd A->Option (List Str)):=fun d c e=>by
 cases e
 show some (Au (sdK d.l))=some (List.map es (d.l.map (·.1)))
 unfold Au sdK
 rw[List.map_map,List.map_map];rfl
theorem Jq [En A]:rY (T:=List D) (D.ksF Av) (T.vals:Sd A->Option (List A)):=fun d c e=>by
 cases e
 show some (Av (sdK d.l))=some (List.map es (d.l.map (·.2)))
 unfold Av sdK
 rw[List.map_map,List.map_map];rfl
structure Lz (R A:Type) where
 get:R->Option A
 put:R->A->R
def plR:Lz R R:=⟨some,fun _ a=>a⟩
def plK (r:R) (p:Option (Lz R (Sd A))) (t:Option Str):Option (Lz R A):=p.bind fun p=>t.bind fun k=>(p.get r).bind fun d=>if (aC d.l k).isSome=true then some ⟨fun r=>(p.get r).bind fun d=>aC d.l k,fun r a=>match p.get r with|some d=>p.put r ⟨aM d.l k a⟩|none=>r⟩ else none
def BM [En R] [En A] (s:Sh) (r:R) (q:Option (List Stp)) (p:Option (Lz R A)) (s':Sh):Prop:=
 ∀p0,p=some p0-> ∃q0,q=some q0/\shP s q0=some s'/\ ∃a,p0.get r=some a/\fQ (en r) q0=some (en a)/\ ∀a',cE (en r) q0 (en a')=en (p0.put r a')
theorem sd (d:D):fQ d []=some d:=by cases d <;> rfl
theorem vQ (d e:D):cE d [] e=e:=by cases d <;> rfl
theorem gu [En R] (s:Sh) (r:R):BM s r (some []) (some plR) s:=fun p0 e=>by
 cases e
 exact⟨[],rfl,by cases s <;> rfl,r,rfl,sd _,fun a'=>vQ _ _⟩
theorem pz: ∀(q:List Stp) (d:D) (s:Stp),fQ d (q++[s])=(fQ d q).bind fun x=>fQ x [s]
 | [],d,s=>by rw[sd];rfl
 | .ix i::q,.lst ds,s=>by
  show (ds[i]?).bind _=((ds[i]?).bind _).bind _
  rw[Option.bind_assoc];congr 1;funext x;exact pz q x s
 | .ky i::q,.dct ds,s=>by
  show (aC ds i).bind _=((aC ds i).bind _).bind _
  rw[Option.bind_assoc];congr 1;funext x;exact pz q x s
 | .kt i::q,.dcT ds,s=>by
  show (aC ds i).bind _=((aC ds i).bind _).bind _
  rw[Option.bind_assoc];congr 1;funext x;exact pz q x s
 | .fd i::q,.ins C ds,s=>by
  show (ds.lookup i).bind _=((ds.lookup i).bind _).bind _
  rw[Option.bind_assoc];congr 1;funext x;exact pz q x s
 |t::q,.non,s=>by cases t <;> rfl
 |t::q,.bl _,s=>by cases t <;> rfl
 |t::q,.int _,s=>by cases t <;> rfl
 |t::q,.str _,s=>by cases t <;> rfl
 |t::q,.tup _,s=>by cases t <;> rfl
 |t::q,.fn _,s=>by cases t <;> rfl
 |t::q,.glf _,s=>by cases t <;> rfl
 |t::q,.clo _ _,s=>by cases t <;> rfl
 |t::q,.sc _,s=>by cases t <;> rfl
 | .ky _::q,.lst _,s=>rfl
 | .kt _::q,.lst _,s=>rfl
 | .fd _::q,.lst _,s=>rfl
 | .ix _::q,.dct _,s=>rfl
 | .kt _::q,.dct _,s=>rfl
 | .fd _::q,.dct _,s=>rfl
 | .ix _::q,.dcT _,s=>rfl
 | .ky _::q,.dcT _,s=>rfl
 | .fd _::q,.dcT _,s=>rfl
 | .ix _::q,.ins _ _,s=>rfl
 | .ky _::q,.ins _ _,s=>rfl
 | .kt _::q,.ins _ _,s=>rfl
theorem pA: ∀(q:List Stp) (d:D) (s:Stp) (e x:D),fQ d q=some x->cE d (q++[s]) e=cE d q (cE x [s] e)
 | [],d,s,e,x,h=>by rw[sd] at h;cases h;rw[vQ];rfl
 | .ix i::q,.lst ds,s,e,x,h=>by
  obtain⟨y,h1,h2⟩:=bind1 (show (ds[i]?).bind (fun x=>fQ x q)=some x from h)
  show (match ds[i]? with|some x=>D.lst (ds.set i (cE x (q++[s]) e))|none=>.lst ds)=(match ds[i]? with|some z=>D.lst (ds.set i (cE z q (cE x [s] e)))|none=>.lst ds)
  rw[h1];show D.lst _=D.lst _;rw[pA q y s e x h2]
 | .ky i::q,.dct ds,s,e,x,h=>by
  obtain⟨y,h1,h2⟩:=bind1 (show (aC ds i).bind (fun x=>fQ x q)=some x from h)
  show (match aC ds i with|some x=>D.dct (aM ds i (cE x (q++[s]) e))|none=>.dct ds)=(match aC ds i with|some z=>D.dct (aM ds i (cE z q (cE x [s] e)))|none=>.dct ds)
  rw[h1];show D.dct _=D.dct _;rw[pA q y s e x h2]
 | .kt i::q,.dcT ds,s,e,x,h=>by
  obtain⟨y,h1,h2⟩:=bind1 (show (aC ds i).bind (fun x=>fQ x q)=some x from h)
  show (match aC ds i with|some x=>D.dcT (aM ds i (cE x (q++[s]) e))|none=>.dcT ds)=(match aC ds i with|some z=>D.dcT (aM ds i (cE z q (cE x [s] e)))|none=>.dcT ds)
  rw[h1];show D.dcT _=D.dcT _;rw[pA q y s e x h2]
 | .fd i::q,.ins C ds,s,e,x,h=>by
  obtain⟨y,h1,h2⟩:=bind1 (show (ds.lookup i).bind (fun x=>fQ x q)=some x from h)
  show (match ds.lookup i with|some x=>D.ins C (sV i (cE x (q++[s]) e) ds)|none=>.ins C ds)=(match ds.lookup i with|some z=>D.ins C (sV i (cE z q (cE x [s] e)) ds)|none=>.ins C ds)
  rw[h1];show D.ins _ _=D.ins _ _;rw[pA q y s e x h2]
 |t::q,.non,s,e,x,h=>by cases t <;> cases h
 |t::q,.bl _,s,e,x,h=>by cases t <;> cases h
 |t::q,.int _,s,e,x,h=>by cases t <;> cases h
 |t::q,.str _,s,e,x,h=>by cases t <;> cases h
 |t::q,.tup _,s,e,x,h=>by cases t <;> cases h
 |t::q,.fn _,s,e,x,h=>by cases t <;> cases h
 |t::q,.sc _,s,e,x,h=>by cases t <;> cases h
 | .ky _::q,.lst _,s,e,x,h=>by cases h
 | .kt _::q,.lst _,s,e,x,h=>by cases h
 | .fd _::q,.lst _,s,e,x,h=>by cases h
 | .ix _::q,.dct _,s,e,x,h=>by cases h
 | .kt _::q,.dct _,s,e,x,h=>by cases h
 | .fd _::q,.dct _,s,e,x,h=>by cases h
 | .ix _::q,.dcT _,s,e,x,h=>by cases h
 | .ky _::q,.dcT _,s,e,x,h=>by cases h
 | .fd _::q,.dcT _,s,e,x,h=>by cases h
 | .ix _::q,.ins _ _,s,e,x,h=>by cases h
 | .ky _::q,.ins _ _,s,e,x,h=>by cases h
 | .kt _::q,.ins _ _,s,e,x,h=>by cases h
theorem lI: ∀(q:List Stp) (s s':Sh) (t:Stp),shP s q=some s'->shP s (q++[t])=shP s' [t]
 | [],s,s',t,h=>by
  have:shP s []=some s:=by cases s <;> rfl
  rw[this] at h;cases h;rfl
 | .ix i::q,.ls s,s',t,h=>lI q s s' t h
 | .ky i::q,.dc s,s',t,h=>lI q s s' t h
 | .kt i::q,.dt s,s',t,h=>lI q s s' t h
 | .ky i::q,.dk _ _ s,s',t,h=>lI q s s' t h
 | .ix _::q,.dk _ _ _,s',t,h=>by cases h
 | .kt _::q,.dk _ _ _,s',t,h=>by cases h
 | .fd _::q,.dk _ _ _,s',t,h=>by cases h
 | .fd f::q,.is fs,s',t,h=>by
  obtain⟨y,h1,h2⟩:=bind1 (show (fs.lookup f).bind (fun s=>shP s q)=some s' from h)
  show (fs.lookup f).bind _=_
  rw[h1];exact lI q y s' t h2
 | .ix i::q,.hl ss,s',t,h=>by
  obtain⟨y,h1,h2⟩:=bind1 (show (ss[i]?).bind (fun s=>shP s q)=some s' from h)
  show (ss[i]?).bind _=_
  rw[h1];exact lI q y s' t h2
 | .ky _::q,.hl _,s',t,h=>by cases h
 | .kt _::q,.hl _,s',t,h=>by cases h
 | .fd _::q,.hl _,s',t,h=>by cases h
 |u::q,.fz,s',t,h=>by cases u <;> cases h
 |u::q,.lz,s',t,h=>by cases u <;> cases h
 | .ky _::q,.ls _,s',t,h=>by cases h
 | .kt _::q,.ls _,s',t,h=>by cases h
 | .fd _::q,.ls _,s',t,h=>by cases h
 | .ix _::q,.dc _,s',t,h=>by cases h
 | .kt _::q,.dc _,s',t,h=>by cases h
 | .fd _::q,.dc _,s',t,h=>by cases h
 | .ix _::q,.dt _,s',t,h=>by cases h
 | .ky _::q,.dt _,s',t,h=>by cases h
 | .fd _::q,.dt _,s',t,h=>by cases h
 | .ix _::q,.is _,s',t,h=>by cases h
 | .ky _::q,.is _,s',t,h=>by cases h
 | .kt _::q,.is _,s',t,h=>by cases h
theorem BN [En R] [En A] {s s':Sh} {r:R} {q:Option (List Stp)} {p:Option (Lz R (Sd A))} {m:Option D} {t:Option Str} (h:BM s r q p (.dc s')) (g:TyS m t):BM s r (Ed s (en r) q m) (plK r p t) s':=fun p0 e=>by
 obtain⟨p1,e1,e⟩:=bind1 e
 obtain⟨k,e2,e⟩:=bind1 e
 obtain⟨d,e3,e⟩:=bind1 e
 obtain⟨h5,rfl⟩:=aH e
 obtain⟨q0,f1,f2,a,f3,f4,f5⟩:=h p1 e1
 rw[e3] at f3;cases f3
 obtain⟨v,hv⟩:=Option.isSome_iff_exists.mp h5
 have g1:fQ (en r) (q0++[.ky (.inr k)])=some (en v):=by
  rw[pz,f4]
  show (aC (sdK d.l) (Sum.inr k)).bind _=_
  rw[px,hv]
  exact sd _
 have s1:shP s (q0++[.ky (.inr k)])=some s':=by
  rw[lI q0 s _ _ f2]
  show shP s' []=_
  cases s' <;> rfl
 refine⟨q0++[.ky (.inr k)],?_,s1,v,?_,g1,fun a'=> ?_⟩
 ·unfold Ed
  rw[f1,g k e2]
  show Fu s (en r) (q0++[.ky (.inr k)])=_
  unfold Fu
  rw[s1,g1];rfl
 ·show (p1.get r).bind _=_
  rw[e3];exact hv
 ·rw[pA q0 _ _ _ _ f4]
  have:cE (en d) [.ky (.inr k)] (en a')=en (⟨aM d.l k a'⟩:Sd A):=by
   show (match aC (sdK d.l) (Sum.inr k) with|some x=>D.dct (aM (sdK d.l) (Sum.inr k) (cE x [] (en a')))|none=>.dct (sdK d.l))=_
   rw[px,hv]
   show D.dct (aM (sdK d.l) (Sum.inr k) (cE (en v) [] (en a')))=_
   rw[vQ,AK];rfl
  rw[this,f5]
  show _=en (match p1.get r with|some d=>p1.put r ⟨aM d.l k a'⟩|none=>r)
  rw[e3]
namespace T
def at0 (r:R) (p:Option (Lz R A)) (f:A->Option (C×A)):Option (C×R):=p.bind fun p=>(p.get r).bind fun a=>(f a).bind fun c=>some (c.1,p.put r c.2)
def at1 (r:R) (p:Option (Lz R A)) (t:Option B) (f:A->B->Option (C×A)):Option (C×R):=p.bind fun p=>t.bind fun x=>(p.get r).bind fun a=>(f a x).bind fun c=>some (c.1,p.put r c.2)
def at2 (r:R) (p:Option (Lz R A)) (t:Option B) (u:Option E) (f:A->B->E->Option (C×A)):Option (C×R):=p.bind fun p=>t.bind fun x=>u.bind fun y=>(p.get r).bind fun a=>(f a x y).bind fun c=>some (c.1,p.put r c.2)
def dput (r:R) (t:Option A) (p:Option (Lz R (Sd A))) (u:Option Str):Option R:=t.bind fun x=>p.bind fun p=>u.bind fun k=>(p.get r).bind fun d=>if d.l.length<sizeLine then some (p.put r ⟨aM d.l k x⟩) else none
def app (xs:List A) (x:A):Option (Unit×List A):=if xs.length<sizeLine then some ((),xs++[x]) else none
noncomputable def ins (xs:List A) (i:Int) (x:A):Option (Unit×List A):=cif (xs.length<sizeLine/\0<=i/\i<2^63) ((),xs.take i.toNat++[x]++xs.drop i.toNat)
def clr (xs:List A):Option (Unit×List A):=some ((),[])
def rvs (xs:List A):Option (Unit×List A):=some ((),xs.reverse)
def Jr (d:Sd A):Option (Unit×Sd A):=some ((),⟨[]⟩)
end T
theorem GJ [En R] [En A] [En C] {s s':Sh} {r:R} {q:Option (List Stp)} {p:Option (Lz R A)} (h:BM s r q p s') {p0:Lz R A} (e:p=some p0) {a:A} (ea:p0.get r=some a) {f:D->Option (D×D)} {c:C×A} (hf:f (en a)=some (en c.1,en c.2)): ∃q0,q=some q0/\do1 (en r) q0 f=some (es (c.1,p0.put r c.2)):=by
 obtain⟨q0,f1,f2,a',f3,f4,f5⟩:=h p0 e
 rw[ea] at f3;cases f3
 refine⟨q0,f1,?_⟩
 unfold do1
 rw[f4,Option.bind_some,hf]
 show some (en c.1,cE (en r) q0 (en c.2))=_
 rw[f5];rfl
theorem GK [En R] [En A] [En C] {s s':Sh} {r:R} {q:Option (List Stp)} {p:Option (Lz R A)} {f:D->Option (D×D)} {g:A->Option (C×A)} (hf: ∀a c,g a=some c->f (en a)=some (en c.1,en c.2)) (h:BM s r q p s'):TyS (IH (en r) q f) (T.at0 r p g):=fun c e=>by
 obtain⟨p0,e1,e⟩:=bind1 e
 obtain⟨a,e2,e⟩:=bind1 e
 obtain⟨x,e3,e⟩:=bind1 e
 cases e
 obtain⟨q0,g1,g2⟩:=GJ h e1 e2 (hf a x e3)
 unfold IH;rw[g1,Option.bind_some,g2]
theorem tj [En R] [En A] [En B] [En C] {s s':Sh} {r:R} {q:Option (List Stp)} {p:Option (Lz R A)} {m:Option D} {t:Option B} {f:D->D->Option (D×D)} {g:A->B->Option (C×A)} (hf: ∀a b c,g a b=some c->f (en a) (en b)=some (en c.1,en c.2)) (h:BM s r q p s') (hm:TyS m t):TyS (yG (en r) q m f) (T.at1 r p t g):=fun c e=>by
 obtain⟨p0,e1,e⟩:=bind1 e
 obtain⟨b,e4,e⟩:=bind1 e
 obtain⟨a,e2,e⟩:=bind1 e
 obtain⟨x,e3,e⟩:=bind1 e
 cases e
 obtain⟨q0,g1,g2⟩:=GJ (f:=fun d=>f d (en b)) h e1 e2 (hf a b x e3)
 unfold yG;rw[g1,hm b e4,Option.bind_some,Option.bind_some];exact g2
theorem tm [En A]: ∀(a:List A) (b:A) c,T.app a b=some c->D.app (en a) (en b)=some (en c.1,en c.2):=fun a b c e=>by
 obtain⟨h,rfl⟩:=aH e
 show (if (a.map en).length<sizeLine then some (D.non,D.lst (a.map en++[en b])) else none)=_
 rw[List.length_map,if_pos h]
 show some (D.non,D.lst _)=some (D.non,D.lst (List.map en (a++[b])))
 rw[List.map_append];rfl
theorem DG [En A]: ∀(a:Sd A) c,T.Jr a=some c->D.IG (en a)=some (en c.1,en c.2):=fun a c e=>by cases e;rfl
theorem se [En R] [En A] {s s':Sh} {r:R} {m:Option D} {t:Option A} {q:Option (List Stp)} {p:Option (Lz R (Sd A))} {n:Option D} {u:Option Str} (h:BM s r q p s') (hm:TyS m t) (hn:TyS n u):TyS (qE (en r) m q n) (T.dput r t p u):=fun c e=>by
 obtain⟨x,e1,e⟩:=bind1 e
 obtain⟨p0,e2,e⟩:=bind1 e
 obtain⟨k,e3,e⟩:=bind1 e
 obtain⟨d,e4,e⟩:=bind1 e
 obtain⟨h5,rfl⟩:=aH e
 obtain⟨q0,f1,f2,a',f3,f4,f5⟩:=h p0 e2
 rw[e4] at f3;cases f3
 unfold qE
 rw[hm x e1,f1,hn k e3]
 show (fQ (en r) q0).bind _=_
 rw[f4,Option.bind_some]
 have:D.put (en d) (Sum.inr k) (en x)=some (en (⟨aM d.l k x⟩:Sd A)):=by
  show (if (sdK d.l).length<sizeLine then some (D.dct (aM (sdK d.l) (Sum.inr k) (en x))) else none)=_
  rw[r9,if_pos h5,AK];rfl
 show (D.put (en d) (Sum.inr k) (en x)).bind _=_
 rw[this]
 show some (cE (en r) q0 (en _))=_
 rw[f5];rfl
end
end Sw
namespace Sw
open PySem PySem.Spec PyProof.Rows L2
class So (A:Type) [En A] where
 dec:DecidableEq A
 lt:A->A->Bool
 dep:Nat
 ok:A->Bool
 dat: ∀a:A,(en a).dat=true
 depth: ∀a:A,(en a).pd.depth<=dep
 al: ∀a b:A,PySem.W.alike (en a).pd (en b).pd=true
 eqv: ∀a b:A,PyData.eqv (en a).pd (en b).pd=true↔a=b
 lt_ok: ∀a b:A,PySem.W.dataLt (en a).pd (en b).pd=lt a b
 lay: ∀a:A,ok a=true->(en a).pd.canLay0=true
 noN: ∀a:A,yI (en a).pd=false
class St1 (A:Type) [En A]:Prop where
 st:(∀a:A,(en a).Na=true)\/(∀a:A,(en a).noT=true)
section
variable {A B C E F:Type}
instance instSoInt:So Int where
 dec:=inferInstance
 lt a b:=decide (a<b)
 dep:=0
 ok _:=true
 dat _:=rfl
 depth _:=Nat.le_refl _
 al _ _:=rfl
 eqv a b:=by show (a==b)=true↔_;exact beq_iff_eq
 lt_ok a b:=PySem.W.dataLt_int a b
 lay _ _:=rfl
 noN _:=rfl
instance instSoStr:So Str where
 dec:=inferInstance
 lt a b:=decide (cC a b)
 dep:=0
 ok a:=PySem.PyData.strOk a
 dat _:=rfl
 depth _:=Nat.le_refl _
 al _ _:=rfl
 eqv a b:=by show (a==b)=true↔_;exact beq_iff_eq
 lt_ok a b:=PySem.W.dataLt_str a b
 lay a h:=h
 noN _:=rfl
instance instSoBool:So Bool where
 dec:=inferInstance
 lt a b:=PySem.W.dataLt (.bool a) (.bool b)
 dep:=0
 ok _:=true
 dat _:=rfl
 depth _:=Nat.le_refl _
 al _ _:=rfl
 eqv a b:=by show (a==b)=true↔_;exact beq_iff_eq
 lt_ok a b:=rfl
 lay _ _:=rfl
 noN _:=rfl
theorem LZ [En A] [So A] {a b:A} (h:a=b):PyData.eqv (en a).pd (en b).pd=true:=(So.eqv a b).mpr h
theorem ND [En A] [So A] {a b:A} (h:a≠b):PyData.eqv (en a).pd (en b).pd=false:=by
 cases e:PyData.eqv (en a).pd (en b).pd with
 |false=>rfl
 |true=>exact absurd ((So.eqv a b).mp e) h
def ie (xs ys:List PyData):Bool:=PyProof.Rows.lexLt PyProof.Rows.itemOrd (PySem.W.keyToksAll xs) (PySem.W.keyToksAll ys)
theorem bL [En A] [So A] (a b:A) (xs ys:List PyData):ie ((en a).pd::xs) ((en b).pd::ys)= @ite _ (a=b) (So.dec a b) (ie xs ys) (So.lt a b):=by
 unfold ie
 by_cases h:a=b
 ·rw[PySem.W.dataLt_all_yes (So.al a b) (LZ h),if_pos h]
 ·rw[PySem.W.dataLt_all_no (So.al a b) (ND h),if_neg h,So.lt_ok]
theorem nW:ie [] []=false:=Gv
theorem Ey (x:PyData) (xs:List PyData):ie [] (x::xs)=true:=by
 unfold ie
 show PyProof.Rows.lexLt PyProof.Rows.itemOrd (PySem.W.keyToksAll []) (PySem.W.keyToksAll (x::xs))=true
 rw[show PySem.W.keyToksAll []=[.inl 0] by unfold PySem.W.keyToksAll;rfl,show PySem.W.keyToksAll (x::xs)= .inl 1::(PySem.W.keyToks x++PySem.W.keyToksAll xs) by rw[PySem.W.keyToksAll]]
 exact (PyProof.Rows.lex_diff (O:=PyProof.Rows.itemOrd) (by simp)).trans rfl
theorem GL (x:PyData) (xs:List PyData):ie (x::xs) []=false:=by
 unfold ie
 rw[show PySem.W.keyToksAll []=[.inl 0] by unfold PySem.W.keyToksAll;rfl,show PySem.W.keyToksAll (x::xs)= .inl 1::(PySem.W.keyToks x++PySem.W.keyToksAll xs) by rw[PySem.W.keyToksAll]]
 exact (PyProof.Rows.lex_diff (O:=PyProof.Rows.itemOrd) (by simp)).trans rfl
instance instSoPair [En A] [En B] [So A] [So B]:So (A×B) where
 dec:=@instDecidableEqProd A B So.dec So.dec
 lt p q:=@ite _ (p.1=q.1) (So.dec p.1 q.1) (@ite _ (p.2=q.2) (So.dec p.2 q.2) false (So.lt p.2 q.2)) (So.lt p.1 q.1)
 dep:=max (So.dep A) (So.dep B)+1
 ok p:=So.ok p.1&&So.ok p.2
 dat p:=by
  show ((en p.1).dat&&((en p.2).dat&&true))=true
  rw[So.dat,So.dat];rfl
 depth p:=by
  show max (en p.1).pd.depth (max (en p.2).pd.depth 0)+1<=_
  have:=So.depth p.1;have:=So.depth p.2;omega
 al p q:=by
  show (PySem.W.alike (en p.1).pd (en q.1).pd&&(PySem.W.alike (en p.2).pd (en q.2).pd&&true))=true
  rw[So.al,So.al];rfl
 eqv p q:=by
  show (PyData.eqv (en p.1).pd (en q.1).pd&&(PyData.eqv (en p.2).pd (en q.2).pd&&true))=true↔_
  rw[Bool.and_true,Bool.and_eq_true,So.eqv,So.eqv]
  exact⟨fun h=>Prod.ext h.1 h.2,fun h=>by rw[h];exact⟨rfl,rfl⟩⟩
 lt_ok p q:=by
  show PySem.W.dataLt (.tuple [(en p.1).pd,(en p.2).pd]) (.tuple [(en q.1).pd,(en q.2).pd])=_
  rw[PySem.W.dataLt_tuple]
  show ie _ _=_
  rw[bL,bL,nW]
 lay p h:=by
  rw[Bool.and_eq_true] at h
  show ((en p.1).pd.canLay0&&((en p.2).pd.canLay0&&true))=true
  rw[So.lay _ h.1,So.lay _ h.2];rfl
 noN _:=rfl
def oN [En A] [So A]:List A->List A->Bool
 | [],[]=>false
 | [],_::_=>true
 |_::_,[]=>false
 |a::xs,b::ys=>@ite _ (a=b) (So.dec a b) (oN xs ys) (So.lt a b)
theorem tn [En A] [So A]: ∀xs ys:List A,ie (xs.map fun a=>(en a).pd) (ys.map fun a=>(en a).pd)=oN xs ys
 | [],[]=>nW
 | [],y::ys=>Ey _ _
 |x::xs,[]=>GL _ _
 |x::xs,y::ys=>by
  rw[List.map_cons,List.map_cons,bL,tn xs ys];rfl
theorem GN [En A] [So A]: ∀xs ys:List A,PySem.W.alikeAll (xs.map fun a=>(en a).pd) (ys.map fun a=>(en a).pd)=true
 | [],ys=>by rw[List.map_nil];unfold PySem.W.alikeAll;cases ys <;> rfl
 |x::xs,[]=>rfl
 |x::xs,y::ys=>by
  rw[List.map_cons,List.map_cons,PySem.W.alikeAll,So.al,GN xs ys];rfl
theorem gQ [En A] (xs:List A):D.pds (xs.map en)=xs.map fun a=>(en a).pd:=Gx en xs
instance instSoList [En A] [So A]:So (List A) where
 dec:=@instDecidableEqList A So.dec
 lt:=oN
 dep:=So.dep A+1
 ok xs:=xs.all So.ok
 dat xs:=by
  show D.Ag (xs.map en)=true
  rw[D.Ah,List.all_eq_true]
  intro d hd
  obtain⟨a,_,rfl⟩:=List.mem_map.mp hd
  exact So.dat a
 depth xs:=by
  show PyData.depthAll (D.pds (xs.map en))+1<=_
  rw[gQ]
  have:=ua (n:=So.dep A) (ds:=xs.map fun a=>(en a).pd) fun d hd=>by obtain⟨a,_,rfl⟩:=List.mem_map.mp hd;exact So.depth a
  omega
 al xs ys:=by
  show PySem.W.alike (.list (D.pds (xs.map en))) (.list (D.pds (ys.map en)))=true
  rw[gQ,gQ]
  exact GN xs ys
 eqv xs ys:=by
  show PyData.eqvAll (D.pds (xs.map en)) (D.pds (ys.map en))=true↔_
  rw[gQ,gQ]
  exact qP (fun a b=>So.eqv a b) xs ys
 lt_ok xs ys:=by
  show PySem.W.dataLt (.list (D.pds (xs.map en))) (.list (D.pds (ys.map en)))=_
  rw[PySem.W.dataLt_list,gQ,gQ]
  exact tn xs ys
 lay xs h:=by
  show PyData.canLayAll0 (D.pds (xs.map en))=true
  rw[gQ]
  rw[List.all_eq_true] at h
  exact Gy fun d hd=>by obtain⟨a,ha,rfl⟩:=List.mem_map.mp hd;exact So.lay a (h a ha)
 noN _:=rfl
instance instSoTl [En A] [So A]:So (Tl A) where
 dec:=fun a b=>@decidable_of_iff _ (a.l=b.l) ⟨fun h=>by cases a;cases b;simpa using h,fun h=>by rw[h]⟩ (@instDecidableEqList A So.dec a.l b.l)
 lt a b:=oN a.l b.l
 dep:=So.dep A+1
 ok xs:=xs.l.all So.ok
 dat xs:=by
  show D.Ag (xs.l.map en)=true
  rw[D.Ah,List.all_eq_true]
  intro d hd
  obtain⟨a,_,rfl⟩:=List.mem_map.mp hd
  exact So.dat a
 depth xs:=by
  show PyData.depthAll (D.pds (xs.l.map en))+1<=_
  rw[gQ]
  have:=ua (n:=So.dep A) (ds:=xs.l.map fun a=>(en a).pd) fun d hd=>by obtain⟨a,_,rfl⟩:=List.mem_map.mp hd;exact So.depth a
  omega
 al xs ys:=by
  show PySem.W.alike (.tuple (D.pds (xs.l.map en))) (.tuple (D.pds (ys.l.map en)))=true
  rw[gQ,gQ]
  exact GN xs.l ys.l
 eqv xs ys:=by
  show PyData.eqvAll (D.pds (xs.l.map en)) (D.pds (ys.l.map en))=true↔_
  rw[gQ,gQ,qP (fun a b=>So.eqv a b) xs.l ys.l]
  exact⟨fun h=>by cases xs;cases ys;simpa using h,fun h=>by rw[h]⟩
 lt_ok xs ys:=by
  show PySem.W.dataLt (.tuple (D.pds (xs.l.map en))) (.tuple (D.pds (ys.l.map en)))=_
  rw[PySem.W.dataLt_tuple,gQ,gQ]
  exact tn xs.l ys.l
 lay xs h:=by
  show PyData.canLayAll0 (D.pds (xs.l.map en))=true
  rw[gQ]
  rw[List.all_eq_true] at h
  exact Gy fun d hd=>by obtain⟨a,ha,rfl⟩:=List.mem_map.mp hd;exact So.lay a (h a ha)
 noN _:=rfl
instance instSoT3 [En A] [En B] [En C] [So A] [So B] [So C]:So (T3 A B C) where
 dec:=@instDecidableEqT3 A B C So.dec So.dec So.dec
 lt p q:=@ite _ (p.a=q.a) (So.dec p.a q.a) (@ite _ (p.b=q.b) (So.dec p.b q.b) (@ite _ (p.c=q.c) (So.dec p.c q.c) false (So.lt p.c q.c)) (So.lt p.b q.b)) (So.lt p.a q.a)
 dep:=max (So.dep A) (max (So.dep B) (So.dep C))+1
 ok p:=So.ok p.a&&So.ok p.b&&So.ok p.c
 dat p:=by
  show ((en p.a).dat&&((en p.b).dat&&((en p.c).dat&&true)))=true
  rw[So.dat,So.dat,So.dat];rfl
 depth p:=by
  show max (en p.a).pd.depth (max (en p.b).pd.depth (max (en p.c).pd.depth 0))+1<=_
  have:=So.depth p.a;have:=So.depth p.b;have:=So.depth p.c;omega
 al p q:=by
  show (PySem.W.alike (en p.a).pd (en q.a).pd&&(PySem.W.alike (en p.b).pd (en q.b).pd&&(PySem.W.alike (en p.c).pd (en q.c).pd&&true)))=true
  rw[So.al,So.al,So.al];rfl
 eqv p q:=by
  show (PyData.eqv (en p.a).pd (en q.a).pd&&(PyData.eqv (en p.b).pd (en q.b).pd&&(PyData.eqv (en p.c).pd (en q.c).pd&&true)))=true↔_
  rw[Bool.and_true,Bool.and_eq_true,Bool.and_eq_true,So.eqv,So.eqv,So.eqv]
  exact⟨fun h=>by cases p;cases q;simp at h ⊢; exact h,fun h=>by rw[h];exact⟨rfl,rfl,rfl⟩⟩
 lt_ok p q:=by
  show PySem.W.dataLt (.tuple [(en p.a).pd,(en p.b).pd,(en p.c).pd]) (.tuple [(en q.a).pd,(en q.b).pd,(en q.c).pd])=_
  rw[PySem.W.dataLt_tuple]
  show ie _ _=_
  rw[bL,bL,bL,nW]
 lay p h:=by
  rw[Bool.and_eq_true,Bool.and_eq_true] at h
  show ((en p.a).pd.canLay0&&((en p.b).pd.canLay0&&((en p.c).pd.canLay0&&true)))=true
  rw[So.lay _ h.1.1,So.lay _ h.1.2,So.lay _ h.2];rfl
 noN _:=rfl
instance:St1 Int:=⟨.inr fun _=>rfl⟩
instance:St1 Str:=⟨.inr fun _=>rfl⟩
instance [En A]:St1 (List A):=⟨.inr fun _=>rfl⟩
instance [En A] [En B]:St1 (A×B):=⟨.inl fun _=>rfl⟩
instance [En A] [En B] [En C]:St1 (T3 A B C):=⟨.inl fun _=>rfl⟩
namespace T
def leO [En A] [So A] (a b:A):Bool:= !So.lt b a
def srt [En A] [So A] (xs:List A):List A:=xs.mergeSort leO
def eqD [En A] [So A] (a b:A):Option Bool:=if (So.ok a&&So.ok b)=true then some (@decide (a=b) (So.dec a b)) else none
def neD [En A] [So A] (a b:A):Option Bool:=if (So.ok a&&So.ok b)=true then some (!@decide (a=b) (So.dec a b)) else none
end T
theorem x9 [En A] [So A] (hd:So.dep A<=64) {a:A} (h:So.ok a=true):SeqAt.shaped (en a).pd=true:=by
 unfold SeqAt.shaped
 rw[So.lay a h,Bool.true_and,decide_eq_true_eq]
 exact Nat.le_trans (So.depth a) hd
theorem GO [En A] [So A] (hd:So.dep A<=64) {a b:A} (h:(So.ok a&&So.ok b)=true):D.ok2 (en a) (en b)=true:=by
 rw[Bool.and_eq_true] at h
 unfold D.ok2
 rw[So.dat,So.dat,x9 hd h.1,x9 hd h.2];rfl
theorem GP [En A] [So A] (a b:A):PyData.eqv (en a).pd (en b).pd= @decide (a=b) (So.dec a b):=by
 rw[Bool.eq_iff_iff,So.eqv,@decide_eq_true_eq _ (So.dec a b)]
theorem GQ [En A] [So A] (hd:So.dep A<=64):fW D.eqD (T.eqD:A->A->Option Bool):=fun a b c e=>by
 obtain⟨h,rfl⟩:=aH e
 show D.eqD (en a) (en b)=_
 unfold D.eqD
 rw[if_pos (GO hd h)]
 show some (PyData.eqv (en a).pd (en b).pd)=_
 rw[GP];rfl
theorem L5 [En A] [So A] (hd:So.dep A<=64):fW D.neD (T.neD:A->A->Option Bool):=fun a b c e=>by
 obtain⟨h,rfl⟩:=aH e
 show D.neD (en a) (en b)=_
 unfold D.neD
 rw[if_pos (GO hd h)]
 show some (!PyData.eqv (en a).pd (en b).pd)=_
 rw[GP];rfl
theorem yX [En A] {T':String} {c:Bool} {m:Option D} {t:Option A} (h: ∀a:A,D.isa T' (en a)=some c) (q:TyS m t):TyS (blO (b1 (D.isa T') m)) (t.bind fun _=>some c):=fun b e=>by
 obtain⟨a,e1,e2⟩:=bind1 e
 cases e2
 unfold blO b1
 rw[q a e1]
 show (D.isa T' (en a)).bind _=_
 rw[h a];rfl
end
end Sw
namespace Sw
open PySem PySem.Spec PyProof.Rows L2
section
variable {A B C:Type}
class NN (A:Type) [En A]:Prop where
 nn: ∀a:A,D.isN (en a)=some false
instance:NN Int:=⟨fun _=>rfl⟩
instance:NN Str:=⟨fun _=>rfl⟩
instance:NN Bool:=⟨fun _=>rfl⟩
instance [En A]:NN (List A):=⟨fun _=>rfl⟩
instance [En A] [En B]:NN (A×B):=⟨fun _=>rfl⟩
instance [En A] [En B] [En C]:NN (T3 A B C):=⟨fun _=>rfl⟩
instance [En A]:NN (Sd A):=⟨fun _=>rfl⟩
instance [En A]:NN (Tl A):=⟨fun _=>rfl⟩
theorem yY (o:Option Str) (a:Str):D.neA (en o) (en a)=some (!decide (o=some a))/\D.eqA (en o) (en a)=some (decide (o=some a)):=by
 cases o with
 |none=>exact⟨rfl,rfl⟩
 |some b=>
  refine⟨(Ky b a).trans ?_,(Kx b a).trans ?_⟩ <;> simp
theorem yZ (o:Option Int) (a:Int):D.neA (en o) (en a)=some (!decide (o=some a))/\D.eqA (en o) (en a)=some (decide (o=some a)):=by
 cases o with
 |none=>exact⟨rfl,rfl⟩
 |some b=>
  refine⟨(Kw b a).trans ?_,(Kv b a).trans ?_⟩ <;> simp
class AtO (A:Type) [En A] [DecidableEq A]:Prop where
 ao: ∀(o:Option A) (a:A),D.neA (en o) (en a)=some (!decide (o=some a))/\D.eqA (en o) (en a)=some (decide (o=some a))
instance:AtO Str:=⟨yY⟩
instance:AtO Int:=⟨yZ⟩
class Sc1 (A:Type) [En A] [So A]:Prop where
 of: ∀a:A,Ph (en a).pd=some (en a)
 dp:So.dep A<=30
instance:Sc1 Int:=⟨fun _=>rfl,Nat.zero_le _⟩
instance:Sc1 Str:=⟨fun _=>rfl,Nat.zero_le _⟩
end
end Sw
namespace Sw
open PySem PySem.Spec PyProof.Rows L2
section
variable {α β γ ρ A B C:Type}
def qr (tst:β->Option Bool) (step:β->Option (TO β β ρ)):Nat->β->Option (uz β ρ)
 |0,_=>none
 |n+1,b=>(tst b).bind fun c=>if c=true then (step b).bind fun
  | .nx b'=>qr tst step n b'
  | .ct b'=>qr tst step n b'
  | .bk b'=>some (.fin b')
  | .ret r=>some (.ret r)
  | .exc x=>some (.exc x) else some (.fin b)
theorem tu {tst:β->Option Bool} {step:β->Option (TO β β ρ)}: ∀{n:Nat} {b:β} {r:uz β ρ},qr tst step n b=some r->qr tst step (n+1) b=some r
 |n+1,b,r,h=>by
  unfold qr at h
  unfold qr
  obtain⟨c,e1,e2⟩:=bind1 h
  rw[e1]
  show (if c=true then _ else _)=_
  cases c with
  |false=>exact e2
  |true=>
   rw[if_pos rfl] at e2⊢
   obtain⟨o,e3,e4⟩:=bind1 e2
   rw[e3]
   cases o with
   |nx b'=>exact tu e4
   |ct b'=>exact tu e4
   |bk b'=>exact e4
   |ret d=>exact e4
   |exc x=>exact e4
theorem DH {tst:β->Option Bool} {step:β->Option (TO β β ρ)} {n m:Nat} {b:β} {r:uz β ρ} (h:qr tst step n b=some r) (hl:n<=m):qr tst step m b=some r:=by
 obtain⟨k,rfl⟩:=Nat.exists_eq_add_of_le hl
 induction k with
 |zero=>exact h
 |succ k ih=>exact tu (ih (by omega))
open Classical in
noncomputable def AL (tst:β->Option Bool) (step:β->Option (TO β β ρ)) (b:β):Option (uz β ρ):=
 if h: ∃n r,qr tst step n b=some r then some h.choose_spec.choose else none
theorem Js {tst:β->Option Bool} {step:β->Option (TO β β ρ)} {n:Nat} {b:β} {r:uz β ρ} (h:qr tst step n b=some r):AL tst step b=some r:=by
 unfold AL
 have hx: ∃n r,qr tst step n b=some r:=⟨n,r,h⟩
 rw[dif_pos hx]
 have h2:=hx.choose_spec.choose_spec
 have a:=DH h (Nat.le_max_left n hx.choose)
 have b':=DH h2 (Nat.le_max_right n hx.choose)
 rw[a] at b'
 exact b'.symm
theorem Ju {tst:β->Option Bool} {step:β->Option (TO β β ρ)} {b:β} {r:uz β ρ} (h:AL tst step b=some r): ∃n,qr tst step n b=some r:=by
 unfold AL at h
 split at h
 ·rename_i hx
  cases h
  exact⟨hx.choose,hx.choose_spec.choose_spec⟩
 ·cases h
noncomputable def Jv (tst:γ->Option Bool) (step:γ->Option (TO γ γ ρ)) (b0:γ) (k:γ->Option (TO α β ρ)):Option (TO α β ρ):=(AL tst step b0).bind (Ex k)
theorem BO [ES β B] [ER ρ] {ts:B->Option Bool} {ts':β->Option Bool} {st:B->Option (Out B B)} {st':β->Option (TO β β ρ)} (ht: ∀b,TyS (ts (es b)) (ts' b)) (h: ∀b,TyS (st (es b)) (st' b)): ∀(n:Nat) (b:β),TyS (whN ts st n (es b)) (qr ts' st' n b)
 |0,b=>fun a e=>by cases e
 |n+1,b=>by
  show TyS ((ts (es b)).bind _) ((ts' b).bind _)
  refine ay (ht b) fun c=> ?_
  cases c with
  |false=>exact aa rfl
  |true=>
   show TyS ((st (es b)).bind _) ((st' b).bind _)
   refine ay (h b) fun o=> ?_
   cases o with
   |nx a=>exact BO ht h n a
   |ct a=>exact BO ht h n a
   |bk a=>exact aa rfl
   |ret a=>exact aa rfl
   |exc a=>exact aa rfl
theorem L6 [ES α A] [ES β B] [ES γ C] [ER ρ] {ts:C->Option Bool} {ts':γ->Option Bool} {st:C->Option (Out C C)} {st':γ->Option (TO γ γ ρ)} {b:C} {b':γ} {k:C->Option (Out A B)} {l:γ->Option (TO α β ρ)}
  (ht: ∀b,TyS (ts (es b)) (ts' b)) (hs: ∀b,TyS (st (es b)) (st' b)) (hb:b=es b') (h: ∀a,TyS (k (es a)) (l a)):TyS (whO ts st b k) (Jv ts' st' b' l):=by
 subst hb
 refine ay (m:=whL ts st (es b')) (t:=AL ts' st' b') (fun r e=> ?_) fun o=>GA h o
 obtain⟨n,e⟩:=Ju e
 exact KZ (BO ht hs n b' r e)
theorem GR {tst:γ->Option Bool} {step:γ->Option (TO γ γ ρ)} {b0 b1:γ} {k:γ->Option (TO α β ρ)} (h:AL tst step b0=some (.fin b1)):Jv tst step b0 k=k b1:=by
 unfold Jv;rw[h];rfl
theorem Jw {tst:β->Option Bool} {step:β->Option (TO β β ρ)} (I:β->Prop) (m:β->Nat) (hs: ∀b,I b->tst b=some false\/(tst b=some true/\ ∃b',(step b=some (.nx b')\/step b=some (.ct b'))/\I b'/\m b'<m b)) {b0:β} (h0:I b0): ∃b',AL tst step b0=some (.fin b')/\I b'/\tst b'=some false:=by
 have key: ∀(n:Nat) (b:β),m b<n->I b-> ∃b',qr tst step n b=some (.fin b')/\I b'/\tst b'=some false:=by
  intro n
  induction n with
  |zero=>intro b h;omega
  |succ n ih=>
   intro b hm hI
   rcases hs b hI with e|⟨e,b',e2,h2,h3⟩
   ·refine⟨b,?_,hI,e⟩
    unfold qr;rw[e];rfl
   ·obtain⟨b2,e4,h4⟩:=ih b' (by omega) h2
    refine⟨b2,?_,h4⟩
    unfold qr
    rw[e,Option.bind_some,if_pos rfl]
    rcases e2 with e2|e2 <;> (rw[e2];exact e4)
 obtain⟨b',e,h⟩:=key (m b0+1) b0 (by omega) h0
 exact⟨b',Js e,h⟩
end
end Sw
namespace Sw
open PySem PySem.Spec PyProof.Rows L2
section
variable {α β γ δ ρ A B C F G':Type}
def Jx (g:A->B->Option Bool) (g':B->C->Option Bool) (ta:Option A) (tb:Option B) (tc:Option C):Option Bool:=ta.bind fun x=>tb.bind fun y=>(g x y).bind fun k=>if k=true then tc.bind fun z=>g' y z else some false
theorem L7 [En A] [En B] [En C] {f f':D->D->Option Bool} {g:A->B->Option Bool} {g':B->C->Option Bool} (h:fW f g) (h':fW f' g') {ma mb mc:Option D} {ta:Option A} {tb:Option B} {tc:Option C} (q1:TyS ma ta) (q2:TyS mb tb) (q3:TyS mc tc):TyS (chB f f' ma mb mc) (Jx g g' ta tb tc):=
 ay q1 fun x=>ay q2 fun y=>ay (m:=f (en x) (en y)) (t:=g x y) (fun b e=>h x y b e) fun k=>by
  cases k with
  |false=>exact aa rfl
  |true=>exact ay q3 fun z b e=>h' y z b e
namespace T
def qp (neg:Bool) (a z:Str):Option Bool:=match a.cps.toList with
 | [c]=>some (if neg=true then !decide (c∈z.cps.toList) else decide (c∈z.cps.toList))
 |_=>none
def split (a b:Str):Option (List Str):=if (b.length==0)=false/\a.length+2<=sizeLine then some (Txt.split a b) else none
def part (a b:Str):Option (T3 Str Str Str):=if (b.length==0)=false/\a.length<=sizeLine then some ⟨(Txt.partition a b).1,(Txt.partition a b).2.1,(Txt.partition a b).2.2⟩ else none
def BK (i:Int):Option Str:=if i.natAbs.log2<1920 then some (toString i) else none
def wY (a:Str):Option Int:=if a.length<=640 then PySem.intText? a else none
def BL (x:Scr) (ys:List Int):Option (List Int):=if x.l.length+ys.length<=sizeLine then some (x.l++ys) else none
end T
theorem za (neg:Bool):fW (D.qp neg) (T.qp neg):=fun a z b e=>by
 unfold T.qp at e
 show (match a.cps.toList with| [c]=>_|_=>none)=_
 split at e
 ·rename_i c hc;cases e;rfl
 ·cases e
theorem AM:fW D.split T.split:=fun a b c e=>by
 obtain⟨h,rfl⟩:=aH e
 show (if (b.length==0)=false/\a.length+2<=sizeLine then some (D.lst ((Txt.split a b).map D.str)) else none)=_
 rw[if_pos h];rfl
theorem Jy:fW D.part T.part:=fun a b c e=>by
 obtain⟨h,rfl⟩:=aH e
 show (if (b.length==0)=false/\a.length<=sizeLine then some (D.tup [.str (Txt.partition a b).1,.str (Txt.partition a b).2.1,.str (Txt.partition a b).2.2]) else none)=_
 rw[if_pos h];rfl
theorem Jz:rY D.BK T.BK:=fun a b e=>by
 obtain⟨h,rfl⟩:=aH e
 show (if a.natAbs.log2<1920 then some (D.str (toString a)) else none)=_
 rw[if_pos h];rfl
theorem JA:rY D.wY T.wY:=fun a b e=>by
 unfold T.wY at e
 show (if a.length<=640 then (PySem.intText? a).map D.int else none)=_
 by_cases h:a.length<=640
 ·rw[if_pos h] at e ⊢; rw[e];rfl
 ·rw[if_neg h] at e;cases e
theorem JB:fW D.BL T.BL:=fun x ys c e=>by
 obtain⟨h,rfl⟩:=aH e
 show (if x.l.length+(ys.map en).length<=sizeLine then some (D.lst (x.l.map D.int++ys.map en)) else none)=_
 rw[List.length_map,if_pos h,show (x.l.map D.int++ys.map en)=(x.l++ys).map en from (List.map_append).symm];rfl
def T.un3 (t:T3 A B C):Option (A×B×C):=some (t.a,t.b,t.c)
theorem GS [En A] [En B] [En C] {m:Option D} {t:Option (T3 A B C)} (q:TyS m t):TyS (b1 D.pr3 m) (b1 T.un3 t):=fun a e=>by
 obtain⟨x,e1,e2⟩:=bind1 e
 cases e2
 unfold b1;rw[q x e1];rfl
def KA (rb:Option (TO γ β ρ)) (ro:γ->Option (TO δ β ρ)) (k:δ->Option (TO α β ρ)):Option (TO α β ρ):=(rb.bind (yQ ro)).bind (yQ k)
theorem JC {A B C F:Type} [ES α A] [ES β B] [ES γ C] [ES δ F] [ER ρ] {rb:Option (Out C B)} {rb':Option (TO γ β ρ)} {ro:C->Option (Out F B)} {ro':γ->Option (TO δ β ρ)} {k:F->Option (Out A B)} {k':δ->Option (TO α β ρ)}
  (h1:TyS rb rb') (h2: ∀a,TyS (ro (es a)) (ro' a)) (h3: ∀a,TyS (k (es a)) (k' a)):TyS (Ls rb ro k) (KA rb' ro' k'):=
 ay (ay h1 fun o=>yR h2 o) fun o=>yR h3 o
end
end Sw
namespace Sw
open PySem PySem.Spec PyProof.Rows L2
section
variable {α β γ ρ A B C:Type}
namespace T
noncomputable def dP (a:Str) (i:Int):Option Str:=cif (MulOk a i) (Txt.mul a i)
end T
theorem qb:fW D.dP T.dP:=fun a i c e=>by
 obtain⟨h,rfl⟩:=o7 e
 show cif (MulOk a i) (D.str (Txt.mul a i))=_
 rw[bU h];rfl
class Atm (A:Type) [En A]:Prop where
 atm: ∀a:A,((en a).toV).isSome=true
instance:Atm Int:=⟨fun _=>rfl⟩
instance:Atm Str:=⟨fun _=>rfl⟩
instance:Atm Bool:=⟨fun _=>rfl⟩
class Atv (A:Type) [En A]:Prop where
 atv: ∀a:A,∃v,(en a).toV=some v/\flatB v=true
instance:Atv Int:=⟨fun a=>⟨.int a,rfl,rfl⟩⟩
instance:Atv Str:=⟨fun a=>⟨.str a,rfl,rfl⟩⟩
def T.keq [DecidableEq A] (a b:Sd A):Bool:=decide (a.l.length=b.l.length)&&a.l.all fun p=>match aC b.l p.1 with
 |some v=>decide (v=p.2)
 |none=>false
def T.L8 [DecidableEq A] (a b:Sd (Sd A)):Bool:=decide (a.l.length=b.l.length)&&a.l.all fun p=>match aC b.l p.1 with
 |some v=>T.keq p.2 v
 |none=>false
def T.AN [DecidableEq A] (c:Bool) (a b:Sd (Sd A)):Option Bool:=if T.L8 a b=true then some c else none
theorem GU [En A] [Atv A] [DecidableEq A] {a b:Sd A} (h:T.keq a b=true):xT (sdK a.l) (sdK b.l)=true:=by
 unfold T.keq at h
 unfold xT
 rw[r9,r9]
 rw[Bool.and_eq_true] at h⊢
 refine⟨h.1,?_⟩
 have e:sdK a.l=a.l.map fun p=>((Sum.inr p.1:Key),en p.2):=rfl
 rw[e,List.all_map]
 have h2:=h.2
 rw[List.all_eq_true] at h2⊢
 intro p hp
 have:=h2 p hp
 show (match (aC (sdK b.l) (Sum.inr p.1)).bind D.toV,(en p.2).toV with|some a,some b=>decide (a=b)&&flatB a|_,_=>false)=true
 rw[px]
 cases q:aC b.l p.1 with
 |none=>rw[q] at this;cases this
 |some v=>
  rw[q] at this
  have:=of_decide_eq_true this
  subst this
  obtain⟨w,h1,h2⟩:=Atv.atv p.2
  show (match (en p.2).toV,(en p.2).toV with|some a,some b=>decide (a=b)&&flatB a|_,_=>false)=true
  rw[h1]
  show (decide (w=w)&&flatB w)=true
  rw[decide_eq_true rfl,h2];rfl
theorem DI [En A] [Atv A] [DecidableEq A] (c:Bool):fW (D.IU c) (T.AN c:Sd (Sd A)->Sd (Sd A)->Option Bool):=fun a b r e=>by
 obtain⟨h,rfl⟩:=aH e
 show (if vE (sdK a.l) (sdK b.l)=true then some c else none)=_
 rw[if_pos];rfl
 unfold T.L8 at h
 unfold vE
 rw[r9,r9]
 rw[Bool.and_eq_true] at h⊢
 refine⟨h.1,?_⟩
 have e:sdK a.l=a.l.map fun p=>((Sum.inr p.1:Key),en p.2):=rfl
 rw[e,List.all_map]
 have h2:=h.2
 rw[List.all_eq_true] at h2⊢
 intro p hp
 have:=h2 p hp
 show (match aC (sdK b.l) (Sum.inr p.1),en p.2 with|some (.dct b),.dct a=>xT a b|_,_=>false)=true
 rw[px]
 cases q:aC b.l p.1 with
 |none=>rw[q] at this;cases this
 |some v=>
  rw[q] at this
  exact GU this
end
end Sw
namespace Sw
open PySem PySem.Spec PyProof.Rows L2
section
variable {A B C E α β γ δ ρ:Type}
def L9 (k:γ->Option (TO α β ρ)):uz γ ρ->Option (TO α β ρ)
 | .fin b=>k b
 |_=>none
def NG (ds:Option (List δ)) (step:γ->δ->Option (TO γ γ ρ)) (b0:γ) (k:γ->Option (TO α β ρ)):Option (TO α β ρ):=ds.bind fun ds=>(fE step ds b0).bind (L9 k)
@[simp] theorem NH (k:γ->Option (TO α β ρ)) (a:γ):L9 k (.fin a)=k a:=rfl
@[simp] theorem Ma (ds:List δ) (step:γ->δ->Option (TO γ γ ρ)) (b0:γ) (k:γ->Option (TO α β ρ)):NG (some ds) step b0 k=(fE step ds b0).bind (L9 k):=rfl
end
end Sw
namespace Sw
open PySem PySem.Spec PyProof.Rows L2
section
variable {A B C' E R S:Type}
namespace T
def sV (g:R->A->S) (r:R) (t:Option A):Option S:=t.map (g r)
end T
end
inductive aF where
 |single (couple:Str)
 |group (ring:List aF) (links:List (Str×Str))
mutual
def aF.d:aF->D
 | .single c=>.ins "Single" [("couple",.str c)]
 | .group r l=>.ins "Group" [("ring",.lst (aF.ds r)),("links",en l)]
def aF.ds:List aF->List D
 | []=>[]
 |k::r=>aF.d k::aF.ds r
end
instance:En aF:=⟨aF.d⟩
structure Ez where
structure GV where
structure GW where
 ring:List aF
instance:En Ez:=⟨fun _=>.ins "Single" []⟩
instance:En GV:=⟨fun _=>.ins "Group" []⟩
instance:En GW:=⟨fun s=>.ins "Group" [("ring",en s.ring)]⟩
inductive RV where
 |k (x:aF)|s (x:Str)|i (x:Int)|ls (x:List Str)|lp (x:List (Str×Str))|ll (x:List (List Str))
instance:En RV:=⟨fun v=>match v with
 | .k x=>en x| .s x=>en x| .i x=>en x| .ls x=>en x| .lp x=>en x| .ll x=>en x⟩
namespace RV
def as:RV->Option Str| .s x=>some x|_=>none
def ai:RV->Option Int| .i x=>some x|_=>none
def all:RV->Option (List (List Str))| .ll x=>some x|_=>none
end RV
namespace T
def dct (u:Option (List (Str×RV))):Option (Sd RV):=u.bind fun l=>if (l.map (·.1)).Nodup/\l.length<=15 then some ⟨l⟩ else none
end T
end Sw
namespace Sw
open PySem PySem.Spec PyProof.Rows L2
section
variable {A B C' E S:Type}
namespace T
def Eo (i:Int):Option Int:=some (if i<0 then -i else i)
end T
theorem JD:rY D.Eo T.Eo:=fun i b e=>by cases e;rfl
end
structure a9 where
 mates:Sd Str
 top:Sd aF
 roots:Sd Str
 reached:Sd (Str×Str)
 waiting:List Str
 longer:Option (List Str)
structure BP where
structure BQ where
 mates:Sd Str
structure BR where
 mates:Sd Str
 top:Sd aF
structure BS where
 mates:Sd Str
 top:Sd aF
 roots:Sd Str
structure BU where
 mates:Sd Str
 top:Sd aF
 roots:Sd Str
 reached:Sd (Str×Str)
structure BV where
 mates:Sd Str
 top:Sd aF
 roots:Sd Str
 reached:Sd (Str×Str)
 waiting:List Str
instance:En BP:=⟨fun _=>.ins "Outcome" []⟩
instance:En BQ:=⟨fun s=>.ins "Outcome" [("mates",en s.mates)]⟩
instance:En BR:=⟨fun s=>.ins "Outcome" [("mates",en s.mates),("top",en s.top)]⟩
instance:En BS:=⟨fun s=>.ins "Outcome" [("mates",en s.mates),("top",en s.top),("roots",en s.roots)]⟩
instance:En BU:=⟨fun s=>.ins "Outcome" [("mates",en s.mates),("top",en s.top),("roots",en s.roots),("reached",en s.reached)]⟩
instance:En BV:=⟨fun s=>.ins "Outcome" [("mates",en s.mates),("top",en s.top),("roots",en s.roots),("reached",en s.reached),("waiting",en s.waiting)]⟩
instance:En a9:=⟨fun s=>.ins "Outcome" [("mates",en s.mates),("top",en s.top),("roots",en s.roots),("reached",en s.reached),("waiting",en s.waiting),("longer",en s.longer)]⟩
end Sw
namespace Sw
open PySem PySem.Spec PyProof.Rows L2
structure Hl (A B:Type) where
 a:A
 b:B
variable {A B:Type}
instance [En A] [En B]:En (Hl A B):=⟨fun x=>.lst [en x.a,en x.b]⟩
def T.hl (t:Option A) (u:Option B):Option (Hl A B):=t.bind fun a=>u.bind fun b=>some ⟨a,b⟩
end Sw
namespace Sw
open PySem PySem.Spec PyProof.Rows L2
variable {A B C:Type}
structure Hl3 (A B C:Type) where
 a:A
 b:B
 c:C
instance [En A] [En B] [En C]:En (Hl3 A B C):=⟨fun x=>.lst [en x.a,en x.b,en x.c]⟩
instance instSoHl [En A] [En B] [So A] [So B]:So (Hl A B) where
 dec p q:=@decidable_of_iff _ ((p.a,p.b)=(q.a,q.b)) ⟨fun h=>by cases p;cases q;simpa using h,fun h=>by rw[h]⟩ (@instDecidableEqProd A B So.dec So.dec (p.a,p.b) (q.a,q.b))
 lt p q:=@ite _ (p.a=q.a) (So.dec p.a q.a) (@ite _ (p.b=q.b) (So.dec p.b q.b) false (So.lt p.b q.b)) (So.lt p.a q.a)
 dep:=max (So.dep A) (So.dep B)+1
 ok p:=So.ok p.a&&So.ok p.b
 dat p:=by
  show ((en p.a).dat&&((en p.b).dat&&true))=true
  rw[So.dat,So.dat];rfl
 depth p:=by
  show max (en p.a).pd.depth (max (en p.b).pd.depth 0)+1<=_
  have:=So.depth p.a;have:=So.depth p.b;omega
 al p q:=by
  show (PySem.W.alike (en p.a).pd (en q.a).pd&&(PySem.W.alike (en p.b).pd (en q.b).pd&&true))=true
  rw[So.al,So.al];rfl
 eqv p q:=by
  show (PyData.eqv (en p.a).pd (en q.a).pd&&(PyData.eqv (en p.b).pd (en q.b).pd&&true))=true↔_
  rw[Bool.and_true,Bool.and_eq_true,So.eqv,So.eqv]
  exact⟨fun h=>by cases p;cases q;simp at h ⊢; exact h,fun h=>by rw[h];exact⟨rfl,rfl⟩⟩
 lt_ok p q:=by
  show PySem.W.dataLt (.list [(en p.a).pd,(en p.b).pd]) (.list [(en q.a).pd,(en q.b).pd])=_
  rw[PySem.W.dataLt_list]
  show ie _ _=_
  rw[bL,bL,nW]
 lay p h:=by
  rw[Bool.and_eq_true] at h
  show ((en p.a).pd.canLay0&&((en p.b).pd.canLay0&&true))=true
  rw[So.lay _ h.1,So.lay _ h.2];rfl
 noN _:=rfl
instance instSoHl3 [En A] [En B] [En C] [So A] [So B] [So C]:So (Hl3 A B C) where
 dec p q:=@decidable_of_iff _ ((p.a,p.b,p.c)=(q.a,q.b,q.c)) ⟨fun h=>by cases p;cases q;simpa using h,fun h=>by rw[h]⟩ (@instDecidableEqProd A (B×C) So.dec (@instDecidableEqProd B C So.dec So.dec) (p.a,p.b,p.c) (q.a,q.b,q.c))
 lt p q:=@ite _ (p.a=q.a) (So.dec p.a q.a) (@ite _ (p.b=q.b) (So.dec p.b q.b) (@ite _ (p.c=q.c) (So.dec p.c q.c) false (So.lt p.c q.c)) (So.lt p.b q.b)) (So.lt p.a q.a)
 dep:=max (So.dep A) (max (So.dep B) (So.dep C))+1
 ok p:=So.ok p.a&&So.ok p.b&&So.ok p.c
 dat p:=by
  show ((en p.a).dat&&((en p.b).dat&&((en p.c).dat&&true)))=true
  rw[So.dat,So.dat,So.dat];rfl
 depth p:=by
  show max (en p.a).pd.depth (max (en p.b).pd.depth (max (en p.c).pd.depth 0))+1<=_
  have:=So.depth p.a;have:=So.depth p.b;have:=So.depth p.c;omega
 al p q:=by
  show (PySem.W.alike (en p.a).pd (en q.a).pd&&(PySem.W.alike (en p.b).pd (en q.b).pd&&(PySem.W.alike (en p.c).pd (en q.c).pd&&true)))=true
  rw[So.al,So.al,So.al];rfl
 eqv p q:=by
  show (PyData.eqv (en p.a).pd (en q.a).pd&&(PyData.eqv (en p.b).pd (en q.b).pd&&(PyData.eqv (en p.c).pd (en q.c).pd&&true)))=true↔_
  rw[Bool.and_true,Bool.and_eq_true,Bool.and_eq_true,So.eqv,So.eqv,So.eqv]
  exact⟨fun h=>by cases p;cases q;simp at h ⊢; exact h,fun h=>by rw[h];exact⟨rfl,rfl,rfl⟩⟩
 lt_ok p q:=by
  show PySem.W.dataLt (.list [(en p.a).pd,(en p.b).pd,(en p.c).pd]) (.list [(en q.a).pd,(en q.b).pd,(en q.c).pd])=_
  rw[PySem.W.dataLt_list]
  show ie _ _=_
  rw[bL,bL,bL,nW]
 lay p h:=by
  rw[Bool.and_eq_true,Bool.and_eq_true] at h
  show ((en p.a).pd.canLay0&&((en p.b).pd.canLay0&&((en p.c).pd.canLay0&&true)))=true
  rw[So.lay _ h.1.1,So.lay _ h.1.2,So.lay _ h.2];rfl
 noN _:=rfl
end Sw
namespace Sw
open PySem PySem.Spec PyProof.Rows L2
variable {A:Type}
def T.enum (xs:List A):Option (List (Int×A)):=some (xs.mapIdx fun i x=>((i:Int),x))
theorem AO [En A] {m:Option D} {t:Option (List A)} (q:TyS m t):TyS (Dc m) (b1 T.enum t):=ay (eU q) fun xs b e=>by
 cases e
 show some (Ay (xs.map en))=some ((xs.mapIdx fun i x=>((i:Int),x)).map es)
 unfold Ay
 congr 1
 apply List.ext_getElem?
 intro i
 rw[List.getElem?_mapIdx,List.getElem?_map,List.getElem?_map,List.getElem?_mapIdx]
 cases xs[i]? <;> rfl
end Sw
namespace Sw
open PySem PySem.Spec PyProof.Rows L2
section
variable {A B C S T U α β γ δ ρ:Type}
instance [ES A S]:ES (Xn ⊕ A) (Xn ⊕ S):=⟨fun r=>match r with| .inl x=>.inl x| .inr a=>.inr (es a)⟩
end
end Sw
namespace Sw
open PySem PySem.Spec PyProof.Rows L2
instance:NN a9:=⟨fun _=>rfl⟩
end Sw
namespace Sw
open PySem PySem.Spec PyProof.Rows L2
section
variable {A B C S U α β γ δ ρ:Type}
structure Any where
 d:D
instance:En Any:=⟨Any.d⟩
def T.up [En A] (a:A):Any:=⟨en a⟩
instance instSoT4 {E:Type} [En A] [En B] [En C] [En E] [So A] [So B] [So C] [So E]:So (T4 A B C E) where
 dec:=@instDecidableEqT4 A B C E So.dec So.dec So.dec So.dec
 lt p q:=@ite _ (p.a=q.a) (So.dec p.a q.a) (@ite _ (p.b=q.b) (So.dec p.b q.b) (@ite _ (p.c=q.c) (So.dec p.c q.c) (@ite _ (p.d=q.d) (So.dec p.d q.d) false (So.lt p.d q.d)) (So.lt p.c q.c)) (So.lt p.b q.b)) (So.lt p.a q.a)
 dep:=max (So.dep A) (max (So.dep B) (max (So.dep C) (So.dep E)))+1
 ok p:=So.ok p.a&&So.ok p.b&&So.ok p.c&&So.ok p.d
 dat p:=by
  show ((en p.a).dat&&((en p.b).dat&&((en p.c).dat&&((en p.d).dat&&true))))=true
  rw[So.dat,So.dat,So.dat,So.dat];rfl
 depth p:=by
  show max (en p.a).pd.depth (max (en p.b).pd.depth (max (en p.c).pd.depth (max (en p.d).pd.depth 0)))+1<=_
  have:=So.depth p.a;have:=So.depth p.b;have:=So.depth p.c;have:=So.depth p.d;omega
 al p q:=by
  show (PySem.W.alike (en p.a).pd (en q.a).pd&&(PySem.W.alike (en p.b).pd (en q.b).pd&&(PySem.W.alike (en p.c).pd (en q.c).pd&&(PySem.W.alike (en p.d).pd (en q.d).pd&&true))))=true
  rw[So.al,So.al,So.al,So.al];rfl
 eqv p q:=by
  show (PyData.eqv (en p.a).pd (en q.a).pd&&(PyData.eqv (en p.b).pd (en q.b).pd&&(PyData.eqv (en p.c).pd (en q.c).pd&&(PyData.eqv (en p.d).pd (en q.d).pd&&true))))=true↔_
  rw[Bool.and_true,Bool.and_eq_true,Bool.and_eq_true,Bool.and_eq_true,So.eqv,So.eqv,So.eqv,So.eqv]
  exact⟨fun h=>by cases p;cases q;simp at h ⊢; exact h,fun h=>by rw[h];exact⟨rfl,rfl,rfl,rfl⟩⟩
 lt_ok p q:=by
  show PySem.W.dataLt (.tuple [(en p.a).pd,(en p.b).pd,(en p.c).pd,(en p.d).pd]) (.tuple [(en q.a).pd,(en q.b).pd,(en q.c).pd,(en q.d).pd])=_
  rw[PySem.W.dataLt_tuple]
  show ie _ _=_
  rw[bL,bL,bL,bL,nW]
 lay p h:=by
  rw[Bool.and_eq_true,Bool.and_eq_true,Bool.and_eq_true] at h
  show ((en p.a).pd.canLay0&&((en p.b).pd.canLay0&&((en p.c).pd.canLay0&&((en p.d).pd.canLay0&&true))))=true
  rw[So.lay _ h.1.1.1,So.lay _ h.1.1.2,So.lay _ h.1.2,So.lay _ h.2];rfl
 noN _:=rfl
instance {E:Type} [En A] [En B] [En C] [En E]:NN (T4 A B C E):=⟨fun _=>rfl⟩
end
end Sw
namespace Sw
open PySem PySem.Spec PyProof.Rows L2
section
variable {A B C E:Type}
structure Hl4 (A B C E:Type) where
 a:A
 b:B
 c:C
 d:E
instance [En A] [En B] [En C] [En E]:En (Hl4 A B C E):=⟨fun x=>.lst [en x.a,en x.b,en x.c,en x.d]⟩
end
end Sw
namespace Sw
open PySem PySem.Spec PyProof.Rows L2
section
variable {A B C S T U α β γ δ ρ:Type}
def NI (t:Option (Xn ⊕ A)) (k:A->Option (TO α β ρ)):Option (TO α β ρ):=t.bind fun x=>match x with
 | .inl e=>some (.exc e)
 | .inr a=>k a
@[simp] theorem ON (a:A) (k:A->Option (TO α β ρ)):NI (some (.inr a)) k=k a:=rfl
@[simp] theorem OO (x:Xn) (k:A->Option (TO α β ρ)):NI (some (.inl x)) k=some (.exc x):=rfl
end
end Sw
namespace Sw
open PySem PySem.Spec PyProof.Rows L2
variable {A B C E F S S' U α β γ δ ρ α' β' γ' δ':Type}
class FlS (A:Type) [En A] (s:Sh):Prop where
 fl: ∀a:A,fV s (en a)=true
theorem FlS.flt [En A] [FlS A .fz] (a:A):(en a).flt=true:=by
 have:=FlS.fl (s:=.fz) a
 unfold fV at this
 exact this
instance:FlS Int .fz:=⟨fun a=>by unfold fV;rfl⟩
instance:FlS Str .fz:=⟨fun a=>by unfold fV;rfl⟩
instance:FlS Bool .fz:=⟨fun a=>by unfold fV;rfl⟩
instance [En A] [En B] [FlS A .fz] [FlS B .fz]:FlS (A×B) .fz:=⟨fun a=>by
 unfold fV
 show Ep [en a.1,en a.2]=true
 unfold Ep Ep Ep
 rw[FlS.flt,FlS.flt];rfl⟩
instance [En A] {s:Sh} [FlS A s]:FlS (List A) (.ls s):=⟨fun a=>by
 show fV (.ls s) (.lst (a.map en))=true
 unfold fV
 rw[List.all_map,List.all_eq_true]
 intro x _
 exact FlS.fl x⟩
instance [En A] {s:Sh} [FlS A s]:FlS (Sd A) (.dc s):=⟨fun a=>by
 show fV (.dc s) (.dct (sdK a.l))=true
 unfold fV sdK
 rw[List.all_map,List.all_eq_true]
 intro x _
 exact FlS.fl x.2⟩
theorem EA {ds:List (Str×D)}:rS [] ds=true:=by unfold rS;rfl
theorem qQ {f g:Str} {s:Sh} {fs:List (Str×Sh)} {d:D} {ds:List (Str×D)} (h:fV s d=true) (r:rS fs ds=true):rS ((f,s)::fs) ((g,d)::ds)=true:=by
 unfold rS
 show (fV s d&&rS fs ds)=true
 rw[h,r];rfl
theorem flatIs {fs:List (Str×Sh)} {c:Str} {ds:List (Str×D)} (h:rS fs ds=true):fV (.is fs) (.ins c ds)=true:=by unfold fV;exact h
end Sw
namespace Sw
open PySem PySem.Spec PyProof.Rows L2
structure GX where
 swaps:Sd (Sd Int)
 ranks:Sd Int
 kept:List (Str×Str)
structure JE where
structure JF where
 swaps:Sd (Sd Int)
structure JG where
 swaps:Sd (Sd Int)
 ranks:Sd Int
instance:En JE:=⟨fun _=>.ins "Ward" []⟩
instance:En JF:=⟨fun s=>.ins "Ward" [("swaps",en s.swaps)]⟩
instance:En JG:=⟨fun s=>.ins "Ward" [("swaps",en s.swaps),("ranks",en s.ranks)]⟩
instance:En GX:=⟨fun s=>.ins "Ward" [("swaps",en s.swaps),("ranks",en s.ranks),("kept",en s.kept)]⟩
instance:FlS GX (.is [("swaps",.dc (.dc .fz)),("ranks",.dc .fz),("kept",.ls .fz)]):=⟨fun s=>flatIs (qQ (FlS.fl s.swaps) (qQ (FlS.fl s.ranks) (qQ (FlS.fl s.kept) EA)))⟩
end Sw
namespace Sw
open PySem PySem.Spec PyProof.Rows L2
variable [NmC]
section
variable {A B C:Type} [En A] [En B] [En C]
def T.trs (xs:List (T3 A B C)):Option (List (A×B×C)):=some (xs.map fun x=>(x.a,x.b,x.c))
theorem GY: ∀xs:List (T3 A B C),D.trs (xs.map en)=some ((xs.map fun x=>(x.a,x.b,x.c)).map es)
 | []=>rfl
 |x::xs=>by rw[List.map_cons];unfold D.trs;rw[GY xs];rfl
theorem JI {m:Option D} {t:Option (List (T3 A B C))} (q:TyS m t):TyS (IZ m) (b1 T.trs t):=fun a e=>by
 obtain⟨x,e1,e2⟩:=bind1 e
 cases e2
 unfold IZ;rw[q x e1];exact GY x
end
end Sw
namespace Sw
open PySem PySem.Spec PyProof.Rows L2
variable [NmC]
structure EB where
 net:Sd (Sd Int)
 prices:Sd Int
 paying:Td (Tl Str) Int
 mates:Sd Str
 GZ:List aF
structure BW where
structure BX where
 net:Sd (Sd Int)
structure BY where
 net:Sd (Sd Int)
 prices:Sd Int
structure BZ where
 net:Sd (Sd Int)
 prices:Sd Int
 paying:Td (Tl Str) Int
structure B0 where
 net:Sd (Sd Int)
 prices:Sd Int
 paying:Td (Tl Str) Int
 mates:Sd Str
instance:En BW:=⟨fun _=>.ins "Pricing" []⟩
instance:En BX:=⟨fun s=>.ins "Pricing" [("net",en s.net)]⟩
instance:En BY:=⟨fun s=>.ins "Pricing" [("net",en s.net),("prices",en s.prices)]⟩
instance:En BZ:=⟨fun s=>.ins "Pricing" [("net",en s.net),("prices",en s.prices),("paying",en s.paying)]⟩
instance:En B0:=⟨fun s=>.ins "Pricing" [("net",en s.net),("prices",en s.prices),("paying",en s.paying),("mates",en s.mates)]⟩
instance:En EB:=⟨fun s=>.ins "Pricing" [("net",en s.net),("prices",en s.prices),("paying",en s.paying),("mates",en s.mates),("knots",en s.GZ)]⟩
end Sw
namespace Sw
open PySem PySem.Spec PyProof.Rows L2
section
variable {A B C:Type}
class Sq (A:Type) [En A] where
 dec:DecidableEq A
 dep:Nat
 ok:A->Bool
 dat: ∀a:A,(en a).dat=true
 depth: ∀a:A,(en a).pd.depth<=dep
 eqv: ∀a b:A,PyData.eqv (en a).pd (en b).pd=true↔a=b
 lay: ∀a:A,ok a=true->(en a).pd.canLay0=true
theorem EC {d:PyData} (h:yI d=false):PyData.eqv .none d=false:=by
 cases d <;> first|rfl|exact absurd h (by decide)
theorem ED {d:PyData} (h:yI d=false):PyData.eqv d .none=false:=by
 cases d <;> first|rfl|exact absurd h (by decide)
instance instSqO [En A] [So A]:Sq (Option A) where
 dec:=letI:DecidableEq A:=So.dec;inferInstance
 dep:=So.dep A
 ok o:=match o with|none=>true|some a=>So.ok a
 dat o:=by
  cases o with
  |none=>rfl
  |some a=>exact So.dat a
 depth o:=by
  cases o with
  |none=>exact Nat.zero_le _
  |some a=>exact So.depth a
 eqv a b:=by
  cases a with
  |none=>
   cases b with
   |none=>exact⟨fun _=>rfl,fun _=>rfl⟩
   |some b=>
    show PyData.eqv .none (en b).pd=true↔_
    rw[EC (So.noN b)]
    exact⟨(fun z=>by cases z),fun z=>by cases z⟩
  |some a=>
   cases b with
   |none=>
    show PyData.eqv (en a).pd .none=true↔_
    rw[ED (So.noN a)]
    exact⟨(fun z=>by cases z),fun z=>by cases z⟩
   |some b=>
    show PyData.eqv (en a).pd (en b).pd=true↔_
    rw[So.eqv]
    exact⟨(fun z=>by rw[z]),fun z=>by cases z;rfl⟩
 lay o h:=by
  cases o with
  |none=>rfl
  |some a=>exact So.lay a h
instance instSqP [En A] [En B] [Sq A] [Sq B]:Sq (A×B) where
 dec:=@instDecidableEqProd A B Sq.dec Sq.dec
 dep:=max (Sq.dep A) (Sq.dep B)+1
 ok p:=Sq.ok p.1&&Sq.ok p.2
 dat p:=by
  show (D.dat (en p.1)&&(D.dat (en p.2)&&true))=true
  rw[Sq.dat,Sq.dat];rfl
 depth p:=by
  show max (en p.1).pd.depth (max (en p.2).pd.depth 0)+1<=_
  have:=Sq.depth p.1;have:=Sq.depth p.2;omega
 eqv p q:=by
  show (PyData.eqv (en p.1).pd (en q.1).pd&&(PyData.eqv (en p.2).pd (en q.2).pd&&true))=true↔_
  rw[Bool.and_true,Bool.and_eq_true,Sq.eqv,Sq.eqv]
  exact⟨fun h=>Prod.ext h.1 h.2,fun h=>by rw[h];exact⟨rfl,rfl⟩⟩
 lay p h:=by
  rw[Bool.and_eq_true] at h
  show ((en p.1).pd.canLay0&&((en p.2).pd.canLay0&&true))=true
  rw[Sq.lay _ h.1,Sq.lay _ h.2];rfl
instance instSoT5 {E F:Type} [En A] [En B] [En C] [En E] [En F] [So A] [So B] [So C] [So E] [So F]:So (T5 A B C E F) where
 dec:=@instDecidableEqT5 A B C E F So.dec So.dec So.dec So.dec So.dec
 lt p q:=@ite _ (p.a=q.a) (So.dec p.a q.a) (@ite _ (p.b=q.b) (So.dec p.b q.b) (@ite _ (p.c=q.c) (So.dec p.c q.c) (@ite _ (p.d=q.d) (So.dec p.d q.d) (@ite _ (p.e=q.e) (So.dec p.e q.e) false (So.lt p.e q.e)) (So.lt p.d q.d)) (So.lt p.c q.c)) (So.lt p.b q.b)) (So.lt p.a q.a)
 dep:=max (So.dep A) (max (So.dep B) (max (So.dep C) (max (So.dep E) (So.dep F))))+1
 ok p:=So.ok p.a&&So.ok p.b&&So.ok p.c&&So.ok p.d&&So.ok p.e
 dat p:=by
  show ((en p.a).dat&&((en p.b).dat&&((en p.c).dat&&((en p.d).dat&&((en p.e).dat&&true)))))=true
  rw[So.dat,So.dat,So.dat,So.dat,So.dat];rfl
 depth p:=by
  show max (en p.a).pd.depth (max (en p.b).pd.depth (max (en p.c).pd.depth (max (en p.d).pd.depth (max (en p.e).pd.depth 0))))+1<=_
  have:=So.depth p.a;have:=So.depth p.b;have:=So.depth p.c;have:=So.depth p.d;have:=So.depth p.e;omega
 al p q:=by
  show (PySem.W.alike (en p.a).pd (en q.a).pd&&(PySem.W.alike (en p.b).pd (en q.b).pd&&(PySem.W.alike (en p.c).pd (en q.c).pd&&(PySem.W.alike (en p.d).pd (en q.d).pd&&(PySem.W.alike (en p.e).pd (en q.e).pd&&true)))))=true
  rw[So.al,So.al,So.al,So.al,So.al];rfl
 eqv p q:=by
  show (PyData.eqv (en p.a).pd (en q.a).pd&&(PyData.eqv (en p.b).pd (en q.b).pd&&(PyData.eqv (en p.c).pd (en q.c).pd&&(PyData.eqv (en p.d).pd (en q.d).pd&&(PyData.eqv (en p.e).pd (en q.e).pd&&true)))))=true↔_
  rw[Bool.and_true,Bool.and_eq_true,Bool.and_eq_true,Bool.and_eq_true,Bool.and_eq_true,So.eqv,So.eqv,So.eqv,So.eqv,So.eqv]
  exact⟨(fun h=>by cases p;cases q;simp at h ⊢; exact h),fun h=>by rw[h];exact⟨rfl,rfl,rfl,rfl,rfl⟩⟩
 lt_ok p q:=by
  show PySem.W.dataLt (.tuple [(en p.a).pd,(en p.b).pd,(en p.c).pd,(en p.d).pd,(en p.e).pd]) (.tuple [(en q.a).pd,(en q.b).pd,(en q.c).pd,(en q.d).pd,(en q.e).pd])=_
  rw[PySem.W.dataLt_tuple]
  show ie _ _=_
  rw[bL,bL,bL,bL,bL,nW]
 lay p h:=by
  rw[Bool.and_eq_true,Bool.and_eq_true,Bool.and_eq_true,Bool.and_eq_true] at h
  show ((en p.a).pd.canLay0&&((en p.b).pd.canLay0&&((en p.c).pd.canLay0&&((en p.d).pd.canLay0&&((en p.e).pd.canLay0&&true)))))=true
  rw[So.lay _ h.1.1.1.1,So.lay _ h.1.1.1.2,So.lay _ h.1.1.2,So.lay _ h.1.2,So.lay _ h.2];rfl
 noN _:=rfl
instance {E F:Type} [En A] [En B] [En C] [En E] [En F]:NN (T5 A B C E F):=⟨fun _=>rfl⟩
end
end Sw
namespace Sw
open PySem PySem.Spec PyProof.Rows L2
structure Fv where
 d:D
instance:En Fv:=⟨Fv.d⟩
def FR.asB:FR->Option Bool
 | .ok (.bl b) []=>some b
 |_=>none
theorem Mb {m:Option FR}:Fo0 m (m.bind FR.asB):=fun b e=>by
 obtain⟨r,e1,e2⟩:=bind1 e
 subst e1
 unfold FR.asB at e2
 split at e2
 ·cases e2;rfl
 ·cases e2
theorem G6 {m:Option FR} {b:Bool} (h:m=some (.ok (.bl b) [])):m.bind FR.asB=some b:=by subst h;rfl
def T.starts (u w:Str):Option Bool:=some (Txt.startswith u w)
theorem EE:fW D.starts T.starts:=fun a b c e=>by cases e;rfl
section
variable [NmC] {P:Program} {w:World} {K:Frg} {mg:Str->Option Value} {base:Heap}
theorem DJ {x qual:Str} {st:Stmt} {fd:FuncData} {k k':Nat} {ps:List Str} {Fs:List D->Option FR} (F:Fun K x qual st (He.ga K x) fd) (ok:FnOk P w K mg base CX0 k (He.ga K x) fd ps (FSp K [.bo,.bo] (.rg .fz) Fs)) (b:Binds K fd ps []) (h:k<=k'):I7 P w K mg base k' x Fs:=by
 refine⟨?_,fd,ps,ok.mono h,b⟩
 obtain⟨oc,od,kV,doc,pm,an,cdv,ct,osl,rfl,lk,hcode⟩:=F.ex
 exact⟨_,_,_,_,lk⟩
end
end Sw
namespace Sw
open PySem PySem.Spec PyProof.Rows L2
theorem NJ (w:Sd (Sd Int)):D.wb (en w)=some (en w):=by
 show (if ((w.l.map fun p=>((Sum.inr p.1:Key),en p.2)).all fun p=>p.2.isR)=true then some (D.dct _) else none)=_
 rw[if_pos]
 ·rfl
 ·rw[List.all_map]
  refine List.all_eq_true.mpr fun p _=> ?_
  show ((p.2.l.map fun q=>((Sum.inr q.1:Key),en q.2)).all fun q=>q.2.isI)=true
  rw[List.all_map]
  exact List.all_eq_true.mpr fun q _=>rfl
theorem NK {m:Option D} {t:Option (Sd (Sd Int))} (h:TyS m t):TyS (m.bind D.wb) t:=fun a e=>by
 rw[h a e];exact NJ a
theorem Mc {A:Type} [En A] {m:Option D} {t:Option A} (h:TyS m t):Fo0 (m.map fun d=>FR.ok d []) t:=fun r e=>by
 rw[h r e];rfl
section
variable [NmC] {P:Program} {w:World} {K:Frg} {mg:Str->Option Value} {base:Heap}
theorem EF {k k':Nat} {F:FnT} {Fs:List D->Option FR} (C:vF P w K mg base k F Fs) (h:k<=k'):vF P w K mg base k' F Fs:=fun f c c' A outer s H us vs wv Q E hr=>C f c c' A outer s H us vs wv Q E (hr.mono h)
end
def NL:Expr->Arguments
 | .Lambda p _ _ _=>p
 |_=>⟨[],[],none,[],[],none,[]⟩
def NM:Expr->Expr
 | .Lambda _ b _ _=>b
 |e=>e
def NO:Expr->Scope
 | .Lambda _ _ s _=>s
 |_=>{kind:=.function,names:=[],isGenerator:=false,isCoroutine:=false}
def NP:Stmt->Expr
 | .Assign _ (.Call _ [_,l] _ _) _=>l
 | .Assign _ e _=>e
 |_=>.Name "" ⟨0,0,0,0⟩
end Sw
namespace Sw
open PySem PySem.Spec PyProof.Rows L2
section
variable {A B C E F K R S α β γ δ ρ:Type}
theorem big:16777000<=sizeLine:=yM
namespace T
@[simp] theorem cu (a b:Int):bT a b=some (a+b):=rfl
@[simp] theorem kU (a b:Int):gY a b=some (a -b):=rfl
@[simp] theorem OP (a:Int):K1 a=some (-a):=rfl
theorem ph {a b:Int} (h1: -18446744073709551616<a) (h2:a<18446744073709551616):j8 a b=some (a*b):=by
 unfold j8;rw[if_pos (Dk (by simpa using h1) (by simpa using h2))]
theorem gv {a b:Int} (h:0<b) (h2:b<1073741824):eT a b=some (a/b):=bU ⟨h,h2⟩
theorem bp {a b:Int} (h:0<b):bw a b=some (a%b):=bU h
theorem JJ {a b:Int} (h:0<=b) (h1:b<=1000000) (h2:a.natAbs<2^64):wQ a b=some (a^b.toNat):=bU ⟨h,h1,h2⟩
@[simp] theorem G7 (a b:Int):ltI a b=some (decide (a<b)):=rfl
@[simp] theorem B1 (a b:Int):leI a b=some (decide (a<=b)):=rfl
@[simp] theorem G8 (a b:Int):gtI a b=some (decide (b<a)):=rfl
@[simp] theorem PL (a b:Int):geI a b=some (decide (b<=a)):=rfl
@[simp] theorem lJ [DecidableEq A] (a b:A):eqA a b=some (decide (a=b)):=rfl
@[simp] theorem G9 [DecidableEq A] (a b:A):neA a b=some (!decide (a=b)):=rfl
@[simp] theorem PN (a b:Str):ltS a b=some (decide (cC a b)):=rfl
@[simp] theorem PQ (a b:Str):leS a b=some (!decide (cC b a)):=rfl
@[simp] theorem PR (a b:Str):gtS a b=some (decide (cC b a)):=rfl
@[simp] theorem PU (a b:Str):geS a b=some (!decide (cC a b)):=rfl
theorem JK {a b:Str} (h:a.length+b.length<=sizeLine):kQ a b=some (a++b):=if_pos h
@[simp] theorem OQ (a b:Int):min2 a b=some (if b<a then b else a):=rfl
@[simp] theorem zd (a b:Int):max2 a b=some (if b>a then b else a):=rfl
@[simp] theorem NQ (a b:Str):Km a b=some (if cC b a then b else a):=rfl
@[simp] theorem NR (a b:Str):Kn a b=some (if cC a b then b else a):=rfl
@[simp] theorem OR (a:A) (b:B):pair a b=some (a,b):=rfl
@[simp] theorem PV (a:A) (b:B) (c:C):tri a b c=some ⟨a,b,c⟩:=rfl
@[simp] theorem PZ (a:A) (b:B) (c:C) (d:E):qua a b c d=some ⟨a,b,c,d⟩:=rfl
@[simp] theorem Me (a:A) (b:B) (c:C) (d:E) (e:F):qui a b c d e=some ⟨a,b,c,d,e⟩:=rfl
@[simp] theorem nX (a:A) (r:List A):T.cons (some a) (some r)=some (a::r):=rfl
theorem vR {r:List A} (h:r.length<=sizeLine):T.lst (some r)=some r:=if_pos h
@[simp] theorem Qy (a:A):T.lst (some [a])=some [a]:=vR (Nat.le_trans (by simp) big)
@[simp] theorem Ha (a b:A):T.lst (some [a,b])=some [a,b]:=vR (Nat.le_trans (by simp) big)
@[simp] theorem Hb (a b c:A):T.lst (some [a,b,c])=some [a,b,c]:=vR (Nat.le_trans (by simp) big)
@[simp] theorem NS (a b c d:A):T.lst (some [a,b,c,d])=some [a,b,c,d]:=vR (Nat.le_trans (by simp) big)
theorem p8 {xs:List A} {i:Int} (h0:0<=i) (h1:i<xs.length):atL xs i=some (xs[i.toNat]'(by omega)):=by
 unfold atL
 rw[atI_nat h0 h1,List.getElem?_eq_getElem]
theorem JL {xs:Scr} {i:Int} (h0:0<=i) (h1:i<xs.l.length):atC xs i=some (xs.l[i.toNat]'(by omega)):=by
 unfold atC
 rw[atI_nat h0 h1,List.getElem?_eq_getElem]
@[simp] theorem JM (xs:List A):uy xs=some (xs.length:Int):=rfl
@[simp] theorem OS (xs:Scr):Ak xs=some (xs.l.length:Int):=rfl
@[simp] theorem OT (d:Sd A):Iq d=some (d.l.length:Int):=rfl
theorem JN {x:Str} (h:x.length<=sizeLine):wR x=some (x.length:Int):=if_pos h
theorem JO {xs ys:List A} (h:xs.length+ys.length<=sizeLine):Am xs ys=some (xs++ys):=if_pos h
@[simp] theorem u7 (xs:List A) (lo hi:Option Int):T.fT xs lo hi=some (Sw.fT xs lo hi):=rfl
@[simp] theorem OU (xs:Scr) (lo hi:Option Int):T.K6 xs lo hi=some (Sw.fT xs.l lo hi):=rfl
@[simp] theorem vS (i:Int):T.toI i=some (some i):=rfl
@[simp] theorem rev_eq (xs:List A):T.rev xs=some xs.reverse:=rfl
@[simp] theorem P1 (xs:List A) (ys:List B):T.zip xs ys=some (xs.zip ys):=rfl
@[simp] theorem OV (xs:List Int):Nj xs=some xs.sum:=rfl
theorem u9 {n:Int} (h0: -4611686018427387904<=n) (h:n<4611686018427387904):qo n=some ((List.range n.toNat).map fun i:Nat=>(i:Int)):=by
 unfold qo
 rw[if_pos]
 unfold okR
 exact @decide_eq_true _ (Classical.propDecidable _) ⟨by omega,by omega⟩
@[simp] theorem ze (x:Str):vA x=some (sgs x):=rfl
@[simp] theorem Qz [DecidableEq A] (a:A) (xs:List A):inA true a xs=some (!decide (a∈xs)):=rfl
@[simp] theorem NU [DecidableEq A] (a:A) (xs:List A):inA false a xs=some (decide (a∈xs)):=rfl
@[simp] theorem JP (d:Sd A) (x:Str):ux d x=aC d.l x:=rfl
@[simp] theorem P2 (d:Sd A) (x:Str):inK x d=some (aC d.l x).isSome:=rfl
@[simp] theorem OW (d:Sd A) (x:Str):Ip x d=some (!(aC d.l x).isSome):=rfl
@[simp] theorem AQ (d:Sd A):rQ d=some (d.l.map (·.1)):=rfl
@[simp] theorem NV (d:Sd A):items d=some d.l:=rfl
@[simp] theorem JQ (d:Sd A):vals d=some (d.l.map (·.2)):=rfl
theorem zf {xs:List A} {x:A} (h:xs.length<sizeLine):app xs x=some ((),xs++[x]):=if_pos h
@[simp] theorem P4 (xs:List A):clr xs=some ((),[]):=rfl
@[simp] theorem P5 (xs:List A):rvs xs=some ((),xs.reverse):=rfl
@[simp] theorem DK (d:Sd A):Jr d=some ((),⟨[]⟩):=rfl
@[simp] theorem NW (r:R) (f:R->Option (C×R)):at0 r (some plR) f=f r:=by
 show (f r).bind _=_
 cases f r <;> rfl
@[simp] theorem DL (r:R) (x:B) (f:R->B->Option (C×R)):at1 r (some plR) (some x) f=f r x:=by
 show (f r x).bind _=_
 cases f r x <;> rfl
@[simp] theorem QA (r:R) (x:B) (y:E) (f:R->B->E->Option (C×R)):at2 r (some plR) (some x) (some y) f=f r x y:=by
 show (f r x y).bind _=_
 cases f r x y <;> rfl
theorem NX {r:Sd A} {x:Str} {v:A} (h:aC r.l x=some v) (f:A->Option (C×A)):at0 r (plK r (some plR) (some x)) f=(f v).bind fun c=>some (c.1,⟨aM r.l x c.2⟩):=by
 unfold at0 plK plR
 simp[h]
theorem B2 {r:Sd A} {x:A} {k:Str} (h:r.l.length<sizeLine):dput r (some x) (some plR) (some k)=some ⟨aM r.l k x⟩:=by
 unfold dput plR
 simp[h]
theorem Hc {r:Sd (Sd A)} {v:A} {x y:Str} {row:Sd A} (h:aC r.l x=some row) (hl:row.l.length<sizeLine):dput r (some v) (plK r (some plR) (some x)) (some y)=some ⟨aM r.l x ⟨aM row.l y v⟩⟩:=by
 unfold dput plK plR
 simp[h,hl]
theorem Hf [En A] [So A] {a b:A} (h:So.ok a=true) (g:So.ok b=true):eqD a b=some (@decide (a=b) (So.dec a b)):=by unfold eqD;rw[h,g];rfl
theorem Mf [En A] [So A] {a b:A} (h:So.ok a=true) (g:So.ok b=true):neD a b=some (!@decide (a=b) (So.dec a b)):=by unfold neD;rw[h,g];rfl
theorem Hg [En A] [So A] {a:A} (h:So.ok a=true):eqD a a=some true:=by rw[Hf h h,@decide_eq_true _ (So.dec a a) rfl]
theorem Hh [En A] [So A] {a:A} (h:So.ok a=true):neD a a=some false:=by rw[Mf h h,@decide_eq_true _ (So.dec a a) rfl];rfl
end T
@[simp] theorem bc (c:Bool) (x y:Option (TO γ β ρ)) (k:γ->Option (TO α β ρ)):gZ (some c) x y k=(if c=true then x else y).bind (yQ k):=rfl
@[simp] theorem MW (c:Bool) (x y:Option A):PF (some c) x y=if c=true then x else y:=rfl
@[simp] theorem fF (k:γ->Option (TO α β ρ)) (a:γ):yQ k (.nx a)=k a:=rfl
@[simp] theorem OX (k:γ->Option (TO α β ρ)) (a:β):yQ k (.bk a)=some (.bk a):=rfl
@[simp] theorem OY (k:γ->Option (TO α β ρ)) (a:β):yQ k (.ct a)=some (.ct a):=rfl
@[simp] theorem NY (k:γ->Option (TO α β ρ)) (a:ρ):yQ k (.ret a)=some (.ret a):=rfl
@[simp] theorem pB (k:γ->Option (TO α β ρ)) (a:γ):Ex k (.fin a)=k a:=rfl
@[simp] theorem NZ (k:γ->Option (TO α β ρ)) (a:ρ):Ex k (.ret a)=some (.ret a):=rfl
@[simp] theorem N0 (k:γ->Option (TO α β ρ)) (a:γ):Jg k (.fin a)=k a:=rfl
@[simp] theorem N3 (k:γ->Option (TO α β ρ)) (a:ρ):Jg k (.ret a)=some (.ret a):=rfl
@[simp] theorem bf (ds:List δ) (step:γ->δ->Option (TO γ γ ρ)) (b0:γ) (k:γ->Option (TO α β ρ)):g4 (some ds) step b0 k=(fE step ds b0).bind (Ex k):=rfl
@[simp] theorem vT (ds:List δ) (step:γ->δ->Option (TO γ γ ρ)) (b0:γ) (k:γ->Option (TO α β ρ)):Dw (some ds) step b0 k=(fE step ds b0).bind (Jg k):=rfl
@[simp] theorem yc (a:A) (f:A->ρ):(cq (some a) f:Option (TO α β ρ))=some (.ret (f a)):=rfl
@[simp] theorem JR (r:R0 A):tF0 (some (.ret r))=some r.v:=rfl
@[simp] theorem OZ (r:R1 A B):tF1 (some (.ret r))=some (r.v,r.o):=rfl
@[simp] theorem O0 (r:R2' A B C):tF2 (some (.ret r))=some (r.v,r.o,r.p):=rfl
@[simp] theorem O1 (r:R3 A B C E):tF3 (some (.ret r))=some (r.v,r.o,r.p,r.q):=rfl
theorem B3 {xs:List A} {rt:A->Option Bool} {re:A->Option B} (p:A->Bool) (g:A->B) (hl:xs.length<=sizeLine) (h1: ∀x∈xs,rt x=some (p x)) (h2: ∀x∈xs,p x=true->re x=some (g x)):tlc (some xs) rt re=some ((xs.filter p).map g):=by
 unfold tlc
 rw[Option.bind_some,if_pos hl]
 clear hl
 induction xs with
 |nil=>rfl
 |cons x xs ih=>
  have ih:=ih (fun y hy=>h1 y (List.mem_cons_of_mem _ hy)) (fun y hy=>h2 y (List.mem_cons_of_mem _ hy))
  unfold vO
  rw[h1 x List.mem_cons_self,Option.bind_some]
  cases hp:p x with
  |true=>rw[if_pos rfl,h2 x List.mem_cons_self hp,Option.bind_some,ih,List.filter_cons_of_pos hp];rfl
  |false=>rw[if_neg Bool.false_ne_true,ih,List.filter_cons_of_neg (by simp[hp])]
theorem vc {xs:List A} {re:A->Option B} (g:A->B) (hl:xs.length<=sizeLine) (h2: ∀x∈xs,re x=some (g x)):tlc (some xs) (fun _=>some true) re=some (xs.map g):=by
 rw[B3 (fun _=>true) g hl (fun _ _=>rfl) (fun x hx _=>h2 x hx),List.filter_eq_self.mpr (fun _ _=>rfl)]
theorem lK {step:γ->δ->Option (TO γ γ ρ)} {xs:List δ} (I:List δ->γ->Prop) {b0:γ} (h0:I [] b0) (hs: ∀pre x post b,xs=pre++x::post->I pre b-> ∃b',(step b x=some (.nx b')\/step b x=some (.ct b'))/\I (pre++[x]) b'): ∃b',fE step xs b0=some (.fin b')/\I xs b':=by
 have key: ∀(ys pre:List δ) (b:γ),xs=pre++ys->I pre b-> ∃b',fE step ys b=some (.fin b')/\I xs b':=by
  intro ys
  induction ys with
  |nil=>intro pre b e h;rw[List.append_nil] at e;subst e;exact⟨b,rfl,h⟩
  |cons y ys ih=>
   intro pre b e h
   obtain⟨b1,e1,h1⟩:=hs pre y ys b e h
   obtain⟨b2,e2,h2⟩:=ih (pre++[y]) b1 (by rw[e,List.append_assoc];rfl) h1
   refine⟨b2,?_,h2⟩
   unfold fE
   rcases e1 with e1|e1 <;> (rw[e1];exact e2)
 exact key xs [] b0 rfl h0
theorem AR {step:γ->Int->Option (TO γ γ ρ)} (I:Nat->γ->Prop) {n:Nat} {b0:γ} (h0:I 0 b0) (hs: ∀i:Nat,i<n-> ∀b,I i b-> ∃b',(step b (i:Int)=some (.nx b')\/step b (i:Int)=some (.ct b'))/\I (i+1) b'): ∃b',fE step ((List.range n).map fun i:Nat=>(i:Int)) b0=some (.fin b')/\I n b':=by
 obtain⟨b',e,h⟩:=lK (step:=step) (xs:=(List.range n).map fun i:Nat=>(i:Int)) (fun pre b=>I pre.length b) h0 fun pre x post b e h=>by
  have hl:=congrArg List.length e
  simp at hl
  have hx:x=(pre.length:Int):=by
   have:=congrArg (fun l=>l[pre.length]?) e
   simp at this
   obtain⟨m,hm1,hm2⟩:=this
   rw[List.getElem?_range (by omega)] at hm1
   simp at hm1;omega
  subst hx
  obtain⟨b',e1,h1⟩:=hs pre.length (by omega) b h
  exact⟨b',e1,by simpa using h1⟩
 exact⟨b',e,by simpa using h⟩
end
end Sw
namespace Sw
open PySem PySem.Spec PyProof.Rows L2
abbrev Wb:=Sd (Sd Int)
def fJ (w:Wb) (x:Str):List (Str×Int):=match aC w.l x with
 |some r=>r.l
 |none=>[]
def wk (w:Wb) (x y:Str):Option Int:=aC (fJ w x) y
structure cF (ns:List Str) (w:Wb):Prop where
 keys:w.l.map (·.1)=ns
 rows: ∀x,((fJ w x).map (·.1)).Nodup
 sym: ∀x y v,wk w x y=some v->wk w y x=some v
 irr: ∀x,wk w x x=none
 rng: ∀x y v,wk w x y=some v->1<=v/\v<=1000000000000
def vU (w:Wb) (x y:Str) (v:Int):Wb:=⟨aM (aM w.l x ⟨aM (fJ w x) y v⟩) y ⟨aM (fJ w y) x v⟩⟩
def JS (w:Wb) (x y:Str):Wb:=⟨aM (aM w.l x ⟨gW (fJ w x) y⟩) y ⟨gW (fJ w y) x⟩⟩
section
variable {ns:List Str} {w:Wb} {x y:Str} {v:Int}
theorem jR {r:Sd Int} (h:aC w.l x=some r):fJ w x=r.l:=by unfold fJ;rw[h]
theorem Hi {r:Sd Int} (h:aC w.l x=some r) (y:Str):wk w x y=aC r.l y:=by unfold wk;rw[jR h]
theorem Hj {w:Wb} {x y:Str} {v:Int} (h:wk w x y=some v): ∃r,aC w.l x=some r/\aC r.l y=some v:=by
 unfold wk fJ at h
 cases e:aC w.l x with
 |none=>rw[e] at h;cases h
 |some r=>rw[e] at h;exact⟨r,rfl,h⟩
theorem qc (w:Wb) (x:Str) (r:Sd Int) (a:Str):fJ ⟨aM w.l x r⟩ a=if a=x then r.l else fJ w a:=by
 unfold fJ
 rw[cV]
 by_cases e:a=x
 ·rw[if_pos e,if_pos e]
 ·rw[if_neg e,if_neg e]
theorem cF.has (h:cF ns w):(aC w.l x).isSome=true↔x∈ns:=by rw[eM,h.keys]
theorem cF.get (h:cF ns w) (hx:x∈ns): ∃r,aC w.l x=some r:=Option.isSome_iff_exists.mp (h.has.mpr hx)
theorem cF.inl (h:cF ns w) (e:wk w x y=some v):x∈ns:=by
 obtain⟨r,e1,_⟩:=Hj e
 exact h.has.mp (by rw[e1];rfl)
theorem cF.inside (h:cF ns w) (e:wk w x y=some v):x∈ns/\y∈ns:=⟨h.inl e,h.inl (h.sym _ _ _ e)⟩
theorem cF.ne (h:cF ns w) (e:wk w x y=some v):x≠y:=fun q=>by subst q;rw[h.irr] at e;cases e
theorem cF.Mg (h:cF ns w) {y:Str} (hy:y∈(fJ w x).map (·.1)):y∈ns:=by
 obtain⟨v,hv⟩:=Option.isSome_iff_exists.mp (eM.mpr hy)
 exact (h.inside (show wk w x y=some v from hv)).2
theorem cF.DM (h:cF ns w) (x:Str):(fJ w x).length<=ns.length:=by
 have:=lq (h.rows x) (ys:=ns) fun y hy=>h.Mg hy
 simpa using this
theorem cF.len (h:cF ns w):w.l.length=ns.length:=by rw[<-h.keys];simp
theorem vV (hxy:x≠y) (a:Str):fJ (vU w x y v) a=if a=y then aM (fJ w y) x v else if a=x then aM (fJ w x) y v else fJ w a:=by
 unfold vU
 rw[show (⟨aM (aM w.l x ⟨aM (fJ w x) y v⟩) y ⟨aM (fJ w y) x v⟩⟩:Wb)=⟨aM (⟨aM w.l x ⟨aM (fJ w x) y v⟩⟩:Wb).l y ⟨aM (fJ w y) x v⟩⟩ from rfl,qc,qc]
theorem yd (hxy:x≠y) (a:Str):fJ (JS w x y) a=if a=y then gW (fJ w y) x else if a=x then gW (fJ w x) y else fJ w a:=by
 unfold JS
 rw[show (⟨aM (aM w.l x ⟨gW (fJ w x) y⟩) y ⟨gW (fJ w y) x⟩⟩:Wb)=⟨aM (⟨aM w.l x ⟨gW (fJ w x) y⟩⟩:Wb).l y ⟨gW (fJ w y) x⟩⟩ from rfl,qc,qc]
theorem sj (hxy:x≠y) (a b:Str):wk (vU w x y v) a b=if (a=x/\b=y)\/(a=y/\b=x) then some v else wk w a b:=by
 unfold wk
 rw[vV hxy]
 by_cases ha:a=y
 ·subst ha
  rw[if_pos rfl,cV]
  by_cases hb:b=x
  ·rw[if_pos hb,if_pos (.inr ⟨rfl,hb⟩)]
  ·rw[if_neg hb,if_neg (by rintro (⟨e,_⟩|⟨_,e⟩);exact hxy e.symm;exact hb e)]
 ·rw[if_neg ha]
  by_cases hx:a=x
  ·subst hx
   rw[if_pos rfl,cV]
   by_cases hb:b=y
   ·rw[if_pos hb,if_pos (.inl ⟨rfl,hb⟩)]
   ·rw[if_neg hb,if_neg (by rintro (⟨_,e⟩|⟨e,_⟩);exact hb e;exact ha e)]
  ·rw[if_neg hx,if_neg (by rintro (⟨e,_⟩|⟨e,_⟩);exact hx e;exact ha e)]
theorem zg (hxy:x≠y) (a b:Str):wk (JS w x y) a b=if (a=x/\b=y)\/(a=y/\b=x) then none else wk w a b:=by
 unfold wk
 rw[yd hxy]
 by_cases ha:a=y
 ·subst ha
  rw[if_pos rfl,nN]
  by_cases hb:b=x
  ·rw[if_pos hb,if_pos (.inr ⟨rfl,hb⟩)]
  ·rw[if_neg hb,if_neg (by rintro (⟨e,_⟩|⟨_,e⟩);exact hxy e.symm;exact hb e)]
 ·rw[if_neg ha]
  by_cases hx:a=x
  ·subst hx
   rw[if_pos rfl,nN]
   by_cases hb:b=y
   ·rw[if_pos hb,if_pos (.inl ⟨rfl,hb⟩)]
   ·rw[if_neg hb,if_neg (by rintro (⟨_,e⟩|⟨e,_⟩);exact hb e;exact ha e)]
  ·rw[if_neg hx,if_neg (by rintro (⟨e,_⟩|⟨e,_⟩);exact hx e;exact ha e)]
theorem ye {r s:Sd Int} (hk:w.l.map (·.1)=ns) (hx:x∈ns) (hy:y∈ns):(aM (aM w.l x r) y s).map (·.1)=ns:=by
 rw[dq,dq,hk]
 ·rw[hk];exact hx
 ·rw[dq (by rw[hk];exact hx),hk];exact hy
theorem cF.join (h:cF ns w) (hx:x∈ns) (hy:y∈ns) (hxy:x≠y) (hv:1<=v/\v<=1000000000000):cF ns (vU w x y v) where
 keys:=ye h.keys hx hy
 rows:=fun a=>by
  rw[vV hxy]
  split
  ·exact fN (h.rows y)
  ·split
   ·exact fN (h.rows x)
   ·exact h.rows a
 sym:=fun a b u e=>by
  rw[sj hxy] at e⊢
  split at e
  ·rename_i q
   rw[if_pos (q.symm.imp And.symm And.symm)];exact e
  ·rename_i q
   rw[if_neg (fun z=>q (z.symm.imp And.symm And.symm))];exact h.sym _ _ _ e
 irr:=fun a=>by
  rw[sj hxy,if_neg (by rintro (⟨e,f⟩|⟨e,f⟩);exact hxy (e.symm.trans f);exact hxy (f.symm.trans e))]
  exact h.irr a
 rng:=fun a b u e=>by
  rw[sj hxy] at e
  split at e
  ·cases e;exact hv
  ·exact h.rng _ _ _ e
theorem cF.cut (h:cF ns w) (hx:x∈ns) (hy:y∈ns) (hxy:x≠y):cF ns (JS w x y) where
 keys:=ye h.keys hx hy
 rows:=fun a=>by
  rw[yd hxy]
  split
  ·exact l4 (h.rows y)
  ·split
   ·exact l4 (h.rows x)
   ·exact h.rows a
 sym:=fun a b u e=>by
  rw[zg hxy] at e⊢
  split at e
  ·cases e
  ·rename_i q
   rw[if_neg (fun z=>q (z.symm.imp And.symm And.symm))];exact h.sym _ _ _ e
 irr:=fun a=>by
  rw[zg hxy]
  split
  ·rfl
  ·exact h.irr a
 rng:=fun a b u e=>by
  rw[zg hxy] at e
  split at e
  ·cases e
  ·exact h.rng _ _ _ e
theorem qR (ns:List Str) (x:Str):fJ ⟨ns.map fun x=>(x,⟨[]⟩)⟩ x=[]:=by
 unfold fJ
 cases e:aC (ns.map fun x=>((x,⟨[]⟩):Str×Sd Int)) x with
 |none=>rfl
 |some r=>
  obtain⟨z,_,e2⟩:=List.mem_map.mp (fM e)
  cases e2;rfl
theorem cF.empty (ns:List Str):cF ns ⟨ns.map fun x=>(x,⟨[]⟩)⟩:=by
 have no: ∀x y,wk ⟨ns.map fun x=>(x,⟨[]⟩)⟩ x y=none:=fun x y=>by unfold wk;rw[qR];rfl
 exact⟨by rw[List.map_map];exact List.map_id' ns,fun x=>by rw[qR];exact List.nodup_nil,fun x y v e=>(by rw[no] at e;cases e),fun x=>no x x,fun x y v e=>(by rw[no] at e;cases e)⟩
theorem Hk (h:cF ns w) (hl:ns.length<=1000) (hx:x∈ns) (hy:y∈ns) (hxy:x≠y):
  ((T.dput w (some v) (plK w (some plR) (some x)) (some y)).bind fun d2=>T.dput d2 (some v) (plK d2 (some plR) (some y)) (some x))=some (vU w x y v):=by
 obtain⟨r,hr⟩:=h.get hx
 obtain⟨s,hs⟩:=h.get hy
 have l1:=h.DM x
 have l2:=h.DM y
 have:=big
 rw[jR hr] at l1
 rw[jR hs] at l2
 rw[T.Hc hr (by omega),Option.bind_some,T.Hc (row:=s) (by rw[cV,if_neg (fun e=>hxy e.symm)];exact hs) (by omega)]
 unfold vU
 rw[jR hr,jR hs]
end
theorem bg (xs:List Str):(qO xs).Perm xs:=List.mergeSort_perm _ _
theorem zh (xs:List Str):(qO xs).Pairwise (fun a b=>sLe a b=true):=List.pairwise_mergeSort Ef Eg xs
theorem zj {xs:List Str} (h:xs.Nodup):(qO xs).Pairwise cC:=by
 have h1:=zh xs
 have h2:(qO xs).Nodup:=(bg xs).nodup_iff.mpr h
 rw[List.nodup_iff_pairwise_ne] at h2
 refine (h1.and h2).imp fun {a b} ⟨h,g⟩=> ?_
 rw[Jf] at h
 rcases nQ a b with e|e|e
 ·exact e
 ·exact absurd e g
 ·exact absurd e h
theorem yf (xs:List Str):(qO xs).length=xs.length:=(bg xs).length_eq
theorem vW {α:Type} {lt:α->α->Prop} (ir: ∀a,¬lt a a) (tr: ∀a b c,lt a b->lt b c->lt a c): ∀{xs ys:List α},xs.Pairwise lt->ys.Pairwise lt->(∀a,a∈xs↔a∈ys)->xs=ys
 | [],[],_,_,_=>rfl
 | [],y::ys,_,_,h=>absurd ((h y).mpr List.mem_cons_self) (by simp)
 |x::xs,[],_,_,h=>absurd ((h x).mp List.mem_cons_self) (by simp)
 |x::xs,y::ys,hx,hy,h=>by
  rw[List.pairwise_cons] at hx hy
  have e:x=y:=by
   have h1:=(h x).mp List.mem_cons_self
   have h2:=(h y).mpr List.mem_cons_self
   rcases List.mem_cons.mp h1 with e|h1
   ·exact e
   ·rcases List.mem_cons.mp h2 with e|h2
    ·exact e.symm
    ·exact absurd (tr _ _ _ (hx.1 y h2) (hy.1 x h1)) (ir _)
  subst e
  congr 1
  refine vW ir tr hx.2 hy.2 fun a=>⟨fun m=> ?_,fun m=> ?_⟩
  ·rcases List.mem_cons.mp ((h a).mp (List.mem_cons_of_mem _ m)) with e|q
   ·subst e;exact absurd (hx.1 a m) (ir a)
   ·exact q
  ·rcases List.mem_cons.mp ((h a).mpr (List.mem_cons_of_mem _ m)) with e|q
   ·subst e;exact absurd (hy.1 a m) (ir a)
   ·exact q
theorem risingS {xs ys:List Str} (hx:xs.Pairwise cC) (hy:ys.Pairwise cC) (h: ∀a,a∈xs↔a∈ys):xs=ys:=vW dG (fun _ _ _=>mP) hx hy h
theorem O2 {ps:List (Str×Str)} (h:ps.Pairwise pLt):Ew ps=ps:=List.mergeSort_of_pairwise (h.imp fun {a b} h=>by unfold pLe;simp only[Bool.not_eq_true',decide_eq_false_iff_not];exact fun g=>nR _ (p9 h g))
theorem Hm {ps:List (Str×Str)} (h:ps.Nodup):(Ew ps).Pairwise pLt:=by
 have h1:=AH ps
 have h2:(Ew ps).Nodup:=(s8 ps).nodup_iff.mpr h
 rw[List.nodup_iff_pairwise_ne] at h2
 refine (h1.and h2).imp fun {a b} ⟨h,g⟩=> ?_
 unfold pLe at h
 simp only[Bool.not_eq_true',decide_eq_false_iff_not] at h
 rcases yP a b with e|e|e
 ·exact e
 ·exact absurd e g
 ·exact absurd e h
def gR (ps:List (Str×Str)):Prop:=(bG ps).Nodup
theorem ends_app (a b:List (Str×Str)):bG (a++b)=bG a++bG b:=List.flatMap_append
theorem vX (a:List (Str×Str)):(bG a).length=2*a.length:=by
 induction a with
 |nil=>rfl
 |cons p a ih=>unfold bG at *; rw[List.flatMap_cons,List.length_append,ih];simp;omega
theorem JT {pre:List (Str×Str)} {q:Str×Str} (h:q∈pre):q.1∈bG pre/\q.2∈bG pre:=
 ⟨List.mem_flatMap.mpr ⟨q,h,by simp⟩,List.mem_flatMap.mpr ⟨q,h,by simp⟩⟩
theorem fg {pre:List (Str×Str)} {x:Str}:x∈bG pre↔ ∃q∈pre,x=q.1\/x=q.2:=by
 unfold bG
 rw[List.mem_flatMap]
 simp
theorem sk: ∀{ps:List (Str×Str)},gR ps->ps.Nodup
 | [],_=>List.nodup_nil
 |p::ps,h=>by
  unfold gR at h
  rw[show bG (p::ps)=[p.1,p.2]++bG ps from rfl,List.nodup_append] at h
  exact List.nodup_cons.mpr ⟨fun m=>h.2.2 p.1 (by simp) p.1 (JT m).1 rfl,sk h.2.1⟩
theorem AU {ps qs:List (Str×Str)} (p:ps.Perm qs) (h:gR ps):gR qs:=(List.Perm.flatMap_right (fun p:Str×Str=>[p.1,p.2]) p).nodup_iff.mp h
theorem lu {ps:List (Str×Str)} (h:gR ps) {p q:Str×Str} (hp:p∈ps) (hq:q∈ps) {x:Str} (h1:x=p.1\/x=p.2) (h2:x=q.1\/x=q.2):p=q:=by
 induction ps with
 |nil=>cases hp
 |cons a ps ih=>
  unfold gR at h
  rw[show bG (a::ps)=[a.1,a.2]++bG ps from rfl,List.nodup_append] at h
  rcases List.mem_cons.mp hp with e1|hp
  ·rcases List.mem_cons.mp hq with e2|hq
   ·rw[e1,e2]
   ·exact absurd rfl (h.2.2 x (by rw[<-e1];simpa using h1) x (fg.mpr ⟨q,hq,h2⟩))
  ·rcases List.mem_cons.mp hq with e2|hq
   ·exact absurd rfl (h.2.2 x (by rw[<-e2];simpa using h2) x (fg.mpr ⟨p,hp,h1⟩))
   ·exact ih h.2.1 hp hq
structure Plan (w:Wb) (ps:List (Str×Str)):Prop where
 rise:ps.Pairwise pLt
 apart:gR ps
 lt: ∀p∈ps,cC p.1 p.2
 swap: ∀p∈ps,∃v,wk w p.1 p.2=some v
end Sw
namespace Sw
open PySem PySem.Spec PyProof.Rows L2
def mix (c k:Int):Int:=
 let n:=(c%2147483629*48271+7919*k+104729)%2147483629
 let m:=n*n%2147483629
 (m+k)*(m+k)%2147483587
def pl (c:Int):List Int:=(List.range 8).map fun j:Nat=>mix c (10+(j:Int))%26
def B4 (c:Int):Int:=mix c 7%8
def P6 (c:Int) (k:Nat):List Int:=if c%3<2 then (pl c).set (B4 c).toNat (((pl c).getD (B4 c).toNat 0+k)%26) else (pl c).set 0 (((pl c).getD 0 0+(k:Int)/8)%26)
def P7 (c:Int) (k:Nat):Int:=if c%3<2 then (if c%3=1 then B4 c+1+mix c (30+(k:Int))%(8 -B4 c) else B4 c+1+c/3%(8 -B4 c)) else 1+(B4 c+k)%8
def nm (c:Int) (k:Nat):Str:=⟨(((P6 c k).take (P7 c k).toNat).map fun p=>97+p.toNat).toArray⟩
end Sw
namespace Sw
open PySem PySem.Spec PyProof.Rows L2
def nP (e:Str×Str):Str×Str:=(if cC e.2 e.1 then e.2 else e.1,if cC e.1 e.2 then e.2 else e.1)
theorem vY {e:Str×Str} (h:cC e.1 e.2):nP e=e:=by
 unfold nP;rw[if_neg (s7 h),if_pos h]
theorem DN {e:Str×Str} (h:cC e.2 e.1):nP e=(e.2,e.1):=by
 unfold nP;rw[if_pos h,if_neg (s7 h)]
theorem vd (x y:Str):nP (x,y)=nP (y,x):=by
 rcases nQ x y with h|h|h
 ·rw[vY h,DN (e:=(y,x)) h]
 ·rw[h]
 ·rw[DN (e:=(x,y)) h,vY (e:=(y,x)) h]
theorem yg {e:Str×Str} (h:e.1≠e.2):(nP e=e/\cC e.1 e.2)\/(nP e=(e.2,e.1)/\cC e.2 e.1):=by
 rcases nQ e.1 e.2 with g|g|g
 ·exact .inl ⟨vY g,g⟩
 ·exact absurd g h
 ·exact .inr ⟨DN g,g⟩
theorem JU {e:Str×Str} (h:e.1≠e.2):cC (nP e).1 (nP e).2:=by
 rcases yg h with ⟨g,k⟩|⟨g,k⟩ <;> (rw[g];exact k)
theorem kK {e:Str×Str} (h:e.1≠e.2) {x:Str}:(x=(nP e).1\/x=(nP e).2)↔(x=e.1\/x=e.2):=by
 rcases yg h with ⟨g,k⟩|⟨g,k⟩
 ·rw[g]
 ·rw[g];exact Or.comm
def mt (P:List (Str×Str)) (x y:Str):Prop:=(x,y)∈P\/(y,x)∈P
instance (P:List (Str×Str)) (x y:Str):Decidable (mt P x y):=inferInstanceAs (Decidable (_\/_))
theorem nY {P:List (Str×Str)} {x y:Str} (h:mt P x y):mt P y x:=h.symm
theorem qS {w:Wb} {P:List (Str×Str)} (hP:Plan w P) {x y z:Str} (h:mt P x y) (g:mt P x z):y=z:=by
 have ne: ∀p∈P,p.1≠p.2:=fun p hp e=>dG p.2 (by have:=hP.lt p hp;rwa[e] at this)
 rcases h with h|h <;> rcases g with g|g
 ·have:=lu hP.apart h g (x:=x) (.inl rfl) (.inl rfl);exact congrArg Prod.snd this
 ·have:=lu hP.apart h g (x:=x) (.inl rfl) (.inr rfl)
  have e1:x=z:=congrArg Prod.fst this
  have e2:y=x:=congrArg Prod.snd this
  rw[e2,e1]
 ·have:=lu hP.apart h g (x:=x) (.inr rfl) (.inl rfl)
  have e1:y=x:=congrArg Prod.fst this
  have e2:x=z:=congrArg Prod.snd this
  rw[e1,e2]
 ·have:=lu hP.apart h g (x:=x) (.inr rfl) (.inr rfl);exact congrArg Prod.fst this
theorem vZ {w:Wb} {P:List (Str×Str)} (hP:Plan w P) {x y:Str} (h:mt P x y):x≠y:=fun e=>by
 subst e
 rcases h with h|h <;> exact dG x (hP.lt _ h)
theorem ub {w:Wb} {P:List (Str×Str)} (hP:Plan w P) {e:Str×Str} (he:e.1≠e.2):nP e∈P↔mt P e.1 e.2:=by
 constructor
 ·intro h
  rcases yg he with ⟨g,k⟩|⟨g,k⟩
  ·rw[g] at h;exact .inl h
  ·rw[g] at h;exact .inr h
 ·rintro (h|h)
  ·rw[vY (hP.lt _ h)];exact h
  ·rw[DN (hP.lt _ h)];exact h
theorem v7: ∀{xs:List (Str×Str)},xs.Nodup->(∀p∈xs,p.1≠p.2)->(∀p∈xs,∀q∈xs,∀x,(x=p.1\/x=p.2)->(x=q.1\/x=q.2)->p=q)->gR xs
 | [],_,_,_=>List.nodup_nil
 |p::xs,h1,h2,h3=>by
  rw[List.nodup_cons] at h1
  have ih:=v7 h1.2 (fun q hq=>h2 q (List.mem_cons_of_mem _ hq)) (fun q hq r hr=>h3 q (List.mem_cons_of_mem _ hq) r (List.mem_cons_of_mem _ hr))
  unfold gR
  rw[show bG (p::xs)=[p.1,p.2]++bG xs from rfl,List.nodup_append]
  refine⟨by simpa using h2 p List.mem_cons_self,ih,fun a ha b hb e=> ?_⟩
  subst e
  obtain⟨q,hq,e⟩:=fg.mp hb
  have:p=q:=h3 p List.mem_cons_self q (List.mem_cons_of_mem _ hq) a (by simpa using ha) e
  rw[this] at h1
  exact h1.1 hq
def qI (P A:List (Str×Str)):List (Str×Str):=Ew ((P.filter fun p=> !decide (p∈A))++A.filter fun p=> !decide (p∈P))
theorem mR {P A:List (Str×Str)} (q:Str×Str):q∈qI P A↔(q∈P/\q∉A)\/(q∈A/\q∉P):=by
 unfold qI
 rw[(s8 _).mem_iff,List.mem_append,List.mem_filter,List.mem_filter]
 simp
theorem AV {P A:List (Str×Str)} (hP:P.Nodup) (hA:A.Nodup):((P.filter fun p=> !decide (p∈A))++A.filter fun p=> !decide (p∈P)).Nodup:=by
 refine List.nodup_append.mpr ⟨hP.sublist List.filter_sublist,hA.sublist List.filter_sublist,fun a ha b hb e=> ?_⟩
 subst e
 rw[List.mem_filter] at ha hb
 simp at ha hb
 exact hb.2 ha.1
structure TurnOk (w:Wb) (P A:List (Str×Str)):Prop where
 nd:A.Nodup
 lt: ∀p∈A,cC p.1 p.2
 sw: ∀p∈A,∃v,wk w p.1 p.2=some v
 a: ∀p∈A,p∉P-> ∀q∈A,q∉P-> ∀x,(x=p.1\/x=p.2)->(x=q.1\/x=q.2)->p=q
 b: ∀p∈P,∀q∈A,q∉P-> ∀x,(x=p.1\/x=p.2)->(x=q.1\/x=q.2)->p∈A
theorem yh {w:Wb} {P A:List (Str×Str)} (hP:Plan w P) (h:TurnOk w P A):Plan w (qI P A):=by
 have nd:=AV (sk hP.apart) h.nd
 have lt: ∀p∈qI P A,cC p.1 p.2:=fun p hp=>by
  rcases (mR p).mp hp with ⟨q,_⟩|⟨q,_⟩
  ·exact hP.lt p q
  ·exact h.lt p q
 refine⟨Hm nd,v7 (by unfold qI;exact (s8 _).nodup_iff.mpr nd) (fun p hp e=>dG p.2 (by have:=lt p hp;rwa[e] at this)) (fun p hp q hq x h1 h2=> ?_),lt,fun p hp=> ?_⟩
 ·rcases (mR p).mp hp with ⟨a1,a2⟩|⟨a1,a2⟩ <;> rcases (mR q).mp hq with ⟨b1,b2⟩|⟨b1,b2⟩
  ·exact lu hP.apart a1 b1 h1 h2
  ·exact absurd (h.b p a1 q b1 b2 x h1 h2) a2
  ·exact absurd (h.b q b1 p a1 a2 x h2 h1) b2
  ·exact h.a p a1 a2 q b1 b2 x h1 h2
 ·rcases (mR p).mp hp with ⟨q,_⟩|⟨q,_⟩
  ·exact hP.swap p q
  ·exact h.sw p q
theorem TurnOk.perm {w:Wb} {P A B:List (Str×Str)} (h:TurnOk w P A) (p:A.Perm B):TurnOk w P B where
 nd:=p.nodup_iff.mp h.nd
 lt:=fun q hq=>h.lt q (p.mem_iff.mpr hq)
 sw:=fun q hq=>h.sw q (p.mem_iff.mpr hq)
 a:=fun q hq nq r hr nr=>h.a q (p.mem_iff.mpr hq) nq r (p.mem_iff.mpr hr) nr
 b:=fun q hq r hr nr x h1 h2=>p.mem_iff.mp (h.b q hq r (p.mem_iff.mpr hr) nr x h1 h2)
theorem TurnOk.nil (w:Wb) (P:List (Str×Str)):TurnOk w P []:=⟨List.nodup_nil,by simp,by simp,by simp,by simp⟩
def eds:List Str->List (Str×Str)
 | []=>[]
 | [_]=>[]
 |a::b::l=>(a,b)::eds (b::l)
theorem mD {e:Str×Str}: ∀{l:List Str},e∈eds l->e.1∈l/\e.2∈l
 | [],h=>by cases h
 | [_],h=>by cases h
 |a::b::l,h=>by
  rcases List.mem_cons.mp h with h|h
  ·subst h;simp
  ·have:=mD h
   exact⟨List.mem_cons_of_mem _ this.1,List.mem_cons_of_mem _ this.2⟩
def alo (ring:Bool) (cs:List Str):List (Str×Str):=(eds cs++if ring=true then (match cs.getLast?,cs.head? with|some l,some h=>[(l,h)]|_,_=>[]) else []).map nP
theorem DO (cs:List Str):alo false cs=(eds cs).map nP:=by
 unfold alo
 rw[if_neg Bool.false_ne_true,List.append_nil]
def sm (P es:List (Str×Str)):List (Str×Str):=es.filter fun e=> !decide (mt P e.1 e.2)
theorem lL {P es:List (Str×Str)} {e:Str×Str}:e∈sm P es↔e∈es/\ ¬mt P e.1 e.2:=by
 unfold sm;rw[List.mem_filter];simp
theorem Hn (P a b:List (Str×Str)):sm P (a++b)=sm P a++sm P b:=List.filter_append _ _
structure tv (w:Wb) (P es:List (Str×Str)):Prop where
 nd:(es.map nP).Nodup
 ne: ∀e∈es,e.1≠e.2
 sw: ∀e∈es,∃v,wk w e.1 e.2=some v
 ap:gR (sm P es)
 cl: ∀e∈es,∀x,(x=e.1\/x=e.2)-> ∀y,mt P x y->(x,y)∈es\/(y,x)∈es
theorem tv.turn {ns:List Str} {w:Wb} {P es:List (Str×Str)} (hw:cF ns w) (hP:Plan w P) (h:tv w P es):TurnOk w P (es.map nP) where
 nd:=h.nd
 lt:=fun p hp=>by
  obtain⟨e,he,rfl⟩:=List.mem_map.mp hp
  exact JU (h.ne e he)
 sw:=fun p hp=>by
  obtain⟨e,he,rfl⟩:=List.mem_map.mp hp
  obtain⟨v,hv⟩:=h.sw e he
  rcases yg (h.ne e he) with ⟨g,k⟩|⟨g,k⟩
  ·rw[g];exact⟨v,hv⟩
  ·rw[g];exact⟨v,hw.sym _ _ _ hv⟩
 a:=fun p hp np q hq nq x h1 h2=>by
  obtain⟨e,he,rfl⟩:=List.mem_map.mp hp
  obtain⟨f,hf,rfl⟩:=List.mem_map.mp hq
  rw[kK (h.ne e he)] at h1
  rw[kK (h.ne f hf)] at h2
  rw[ub hP (h.ne e he)] at np
  rw[ub hP (h.ne f hf)] at nq
  rw[lu h.ap (lL.mpr ⟨he,np⟩) (lL.mpr ⟨hf,nq⟩) h1 h2]
 b:=fun p hp q hq nq x h1 h2=>by
  obtain⟨f,hf,rfl⟩:=List.mem_map.mp hq
  rw[kK (h.ne f hf)] at h2
  have key: ∃y,mt P x y/\(p=(x,y)\/p=(y,x)):=by
   rcases h1 with h1|h1
   ·exact⟨p.2,.inl (by rw[h1];exact hp),.inl (by rw[h1])⟩
   ·exact⟨p.1,.inr (by rw[h1];exact hp),.inr (by rw[h1])⟩
  obtain⟨y,my,hpe⟩:=key
  have hn:nP p=p:=vY (hP.lt p hp)
  rcases h.cl f hf x h2 y my with g|g
  ·refine List.mem_map.mpr ⟨_,g,?_⟩
   rcases hpe with e|e
   ·rw[<-e];exact hn
   ·rw[vd,←e];exact hn
  ·refine List.mem_map.mpr ⟨_,g,?_⟩
   rcases hpe with e|e
   ·rw[vd,←e];exact hn
   ·rw[<-e];exact hn
theorem mE: ∀{cs:List Str},cs.Nodup->((eds cs).map nP).Nodup/\ ∀e∈eds cs,e.1≠e.2
 | [],_=>⟨List.nodup_nil,by simp[eds]⟩
 | [_],_=>⟨List.nodup_nil,by simp[eds]⟩
 |a::b::l,h=>by
  rw[List.nodup_cons] at h
  have ih:=mE h.2
  have ab:a≠b:=fun e=>h.1 (by rw[e];simp)
  have ne: ∀e∈eds (a::b::l),e.1≠e.2:=fun e he=>by
   rcases List.mem_cons.mp he with he|he
   ·subst he;exact ab
   ·exact ih.2 e he
  refine⟨?_,ne⟩
  show (nP (a,b)::(eds (b::l)).map nP).Nodup
  refine List.nodup_cons.mpr ⟨fun m=> ?_,ih.1⟩
  obtain⟨e,he,q⟩:=List.mem_map.mp m
  have t1:=(kK (e:=(a,b)) ab (x:=a)).mpr (.inl rfl)
  rw[<-q,kK (ih.2 e he)] at t1
  have:=mD he
  rcases t1 with t|t
  ·exact h.1 (t▸this.1)
  ·exact h.1 (t▸this.2)
structure ud (w:Wb) (P:List (Str×Str)) (cs:List Str) (l:Str):Prop where
 la:cs.getLast? =some l
 nd:cs.Nodup
 cl: ∀x∈cs,∀y,mt P x y->y∈cs/\((x,y)∈eds cs\/(y,x)∈eds cs)
 sw: ∀e∈eds cs,∃v,wk w e.1 e.2=some v
 ap:gR (sm P (eds cs))
 fr:(∃y,mt P l y)->l∉bG (sm P (eds cs))
 ev: ∀h,cs.head? =some h->(∃y,mt P h y)->(cs.length%2=0/\ ∃y,mt P l y)\/(cs.length%2=1/\ ¬ ∃y,mt P l y)
section
variable {w:Wb} {P:List (Str×Str)} {cs:List Str} {l x:Str}
theorem ud.one {c:Str} (h: ¬ ∃y,mt P c y):ud w P [c] c:=
 ⟨rfl,by simp,fun x hx y hy=>absurd ⟨y,(List.mem_singleton.mp hx)▸hy⟩ h,by simp[eds],List.nodup_nil,fun g=>absurd g h,fun z hz g=>by cases hz;exact absurd g h⟩
theorem ud.two (hP:Plan w P) (hs: ∀x y,mt P x y-> ∃v,wk w x y=some v) {c d:Str} (h:mt P c d):ud w P [c,d] d:=by
 have ne:=vZ hP h
 have nn:sm P (eds [c,d])=[]:=by
  refine List.filter_eq_nil_iff.mpr fun e he=> ?_
  have:e=(c,d):=by simpa [eds] using he
  subst this;simp[h]
 refine⟨rfl,by simpa using ne,fun x hx y hy=> ?_,fun e he=> ?_,by rw[nn];exact List.nodup_nil,fun _=>by rw[nn];simp[bG],fun z hz _=>.inl ⟨by simp,c,nY h⟩⟩
 ·rcases List.mem_cons.mp hx with rfl|hx
  ·rw[qS hP hy h];exact⟨by simp,.inl (by simp[eds])⟩
  ·rw[List.mem_singleton.mp hx] at hy⊢
   rw[qS hP hy (nY h)]
   exact⟨by simp,.inr (by simp[eds])⟩
 ·have:e=(c,d):=by simpa [eds] using he
  subst this;exact hs _ _ h
theorem ud.Ho (h:ud w P cs l):tv w P (eds cs):=
 ⟨(mE h.nd).1,(mE h.nd).2,h.sw,h.ap,fun e he x hx y hy=>by
  have:=mD he
  exact (h.cl x (by rcases hx with e|e <;> (rw[e];first|exact this.1|exact this.2)) y hy).2⟩
theorem ud.ring (hP:Plan w P) (h:ud w P cs l) {a b:Str} {t:List Str} (hc:cs=a::b::t) (h3:3<cs.length) (h2:cs.length%2=0) (hi:mt P a b) (hv: ∃v,wk w l a=some v):tv w P (eds cs++[(l,a)]):=by
 have hl: ∃y,mt P l y:=by
  rcases h.ev a (by rw[hc];rfl) ⟨b,hi⟩ with ⟨_,q⟩|⟨q,_⟩
  ·exact q
  ·omega
 have hlm:=List.mem_of_getLast? h.la
 have nd:=h.nd
 have key:l≠a/\l≠b:=by
  subst hc
  rw[List.nodup_cons,List.nodup_cons] at nd
  have ht:t≠[]:=fun e=>by subst e;simp at h3
  have:l∈t:=by
   have:=h.la
   rw[List.getLast?_cons_cons,List.getLast?_cons_of_ne_nil ht] at this
   exact List.mem_of_getLast? this
  exact⟨fun e=>nd.1 (e▸List.mem_cons_of_mem _ this),fun e=>nd.2.1 (e▸this)⟩
 have hn: ¬mt P l a:=fun m=>key.2 (qS hP (nY m) hi)
 have ha:a∉bG (sm P (eds cs)):=fun m=>by
  obtain⟨e,he,q⟩:=fg.mp m
  obtain⟨he,ne⟩:=lL.mp he
  subst hc
  rcases List.mem_cons.mp (show e∈(a,b)::eds (b::t) from he) with g|g
  ·subst g;exact ne hi
  ·have:=mD g
   rw[List.nodup_cons] at nd
   rcases q with q|q
   ·exact nd.1 (q▸this.1)
   ·exact nd.1 (q▸this.2)
 have hf:=h.fr hl
 have nn:sm P (eds cs++[(l,a)])=sm P (eds cs)++[(l,a)]:=by
  rw[Hn];unfold sm;rw[List.filter_cons_of_pos (by simpa using hn)];rfl
 have E:=h.Ho
 refine⟨?_,fun e he=> ?_,fun e he=> ?_,?_,fun e he x hx y hy=> ?_⟩
 ·rw[List.map_append]
  refine List.nodup_append.mpr ⟨E.nd,by simp,fun p hp q hq e=> ?_⟩
  subst e
  have hq:p=nP (l,a):=by simpa using hq
  obtain⟨e,he,g⟩:=List.mem_map.mp hp
  rw[hq] at g
  have t1:l=e.1\/l=e.2:=by
   rw[<-kK (E.ne e he),g,kK (e:=(l,a)) key.1];exact .inl rfl
  by_cases me:mt P e.1 e.2
  ·rw[<-ub hP (E.ne e he),g,ub hP (e:=(l,a)) key.1] at me
   exact hn me
  ·exact hf (fg.mpr ⟨e,lL.mpr ⟨he,me⟩,t1⟩)
 ·rcases List.mem_append.mp he with he|he
  ·exact E.ne e he
  ·rw[List.mem_singleton.mp he];exact key.1
 ·rcases List.mem_append.mp he with he|he
  ·exact E.sw e he
  ·rw[List.mem_singleton.mp he];exact hv
 ·rw[nn]
  unfold gR
  rw[ends_app,List.nodup_append]
  refine⟨h.ap,?_,fun c hc2 d hd e=> ?_⟩
  ·show ([l,a]:List Str).Nodup
   simpa using key.1
  ·subst e
   rcases List.mem_cons.mp (show c∈[l,a] from hd) with e|hd
   ·exact hf (e▸hc2)
   ·exact ha (List.mem_singleton.mp hd▸hc2)
 ·have hx':x∈cs:=by
   rcases List.mem_append.mp he with he|he
   ·have:=mD he
    rcases hx with e|e <;> (rw[e];first|exact this.1|exact this.2)
   ·rw[List.mem_singleton.mp he] at hx
    rcases hx with e|e
    ·rw[e];exact hlm
    ·rw[e,hc];exact List.mem_cons_self
  exact (h.cl x hx' y hy).2.imp (List.mem_append_left _) (List.mem_append_left _)
end
theorem B5 {A:Type} {xs:List A} {rt:A->Option Bool} (p:A->Bool) (hl:xs.length<=sizeLine) (h1: ∀x∈xs,rt x=some (p x)):tlc (some xs) rt (fun x=>some x)=some (xs.filter p):=by
 have:=B3 (re:=fun x=>some x) p id hl h1 (fun _ _ _=>rfl)
 rwa[List.map_id] at this
end Sw
namespace Sw
open PySem PySem.Spec PyProof.Rows L2
inductive Rch (w:Wb) (P:Str->Prop) (x:Str):Str->Prop
 |refl:Rch w P x x
 |step {y z:Str} {v:Int}:Rch w P x y->wk w y z=some v-> ¬P z->Rch w P x z
section
variable {w:Wb} {P Q:Str->Prop} {x y z:Str} {v:Int} {ks:List Str}
theorem Rch.trans (h:Rch w P x y) (g:Rch w P y z):Rch w P x z:=by
 induction g with
 |refl=>exact h
 |step _ e n ih=>exact .step ih e n
theorem Rch.out (h:Rch w P x y) (n: ¬P x): ¬P y:=by
 cases h with
 |refl=>exact n
 |step _ _ m=>exact m
theorem Rch.symm (ok:cF ks w) (n: ¬P x) (h:Rch w P x y):Rch w P y x:=by
 induction h with
 |refl=>exact .refl
 |step h e m ih=>exact Rch.trans (.step .refl (ok.sym _ _ _ e) (h.out n)) ih
theorem v8 {x:Str}:x∈qO ks↔x∈ks:=(bg ks).mem_iff
end
theorem cF.B6 {ks:List Str} {w:Wb} (ok:cF ks w) {p:Str×Sd Int} (hn:ks.Nodup) (hp:p∈w.l):(p.2.l.map (·.1)).Nodup:=by
 have:=ok.rows p.1
 rwa[jR (di (by rw[ok.keys];exact hn) hp)] at this
end Sw
namespace Sw
open PySem PySem.Spec PyProof.Rows L2
abbrev SR:=Str->Str->Prop
theorem jJ {cs:List Str} (h:cs.Nodup) {i j:Nat} {hi:i<cs.length} {hj:j<cs.length} (e:cs[i]=cs[j]):i=j:=by
 rcases Nat.lt_trichotomy i j with c|c|c
 ·exact absurd e (List.pairwise_iff_getElem.mp h i j hi hj c)
 ·exact c
 ·exact absurd e.symm (List.pairwise_iff_getElem.mp h j i hj hi c)
structure kW (F:SR):Prop where
 symm: ∀{x y},F x y->F y x
 one: ∀{x y z},F x y->F x z->y=z
 irr: ∀{x},¬F x x
def own (P Q:List (Str×Str)):SR:=fun x y=>mt P x y/\ ¬mt Q x y
def alt (F S:SR) (i:Nat):SR:=if i%2=0 then F else S
section
variable {F S f g:SR} {cs ds:List Str} {a x y z:Str} {i j:Nat} {wd wd':Str}
theorem ve (hF:kW F) (hS:kW S) (i:Nat):kW (alt F S i):=by
 unfold alt;split <;> assumption
theorem B7 (h:i%2=j%2):alt F S i=alt F S j:=by unfold alt;rw[h]
theorem Hq (h:alt F S i x y):F x y\/S x y:=by
 unfold alt at h;split at h
 ·exact .inl h
 ·exact .inr h
theorem Mh (i:Nat) (h:F x y\/S x y):alt F S i x y\/alt F S (i+1) x y:=by
 unfold alt
 by_cases c:i%2=0
 ·rw[if_pos c,if_neg (by omega)];exact h
 ·rw[if_neg c,if_pos (by omega)];exact h.symm
theorem kh (h:i%2=0):alt F S i=F:=if_pos h
theorem so (h:i%2=1):alt F S i=S:=if_neg (by omega)
def Walk (F S:SR) (cs:List Str):Prop:= ∀i (h:i+1<cs.length),alt F S i (cs[i]'(by omega)) cs[i+1]
theorem N4 (hF:kW F) (hS:kW S) (nd:cs.Nodup) (hw:Walk F S cs) (hp:0<cs.length) (hy:alt F S (cs.length -1) (cs[cs.length -1]'(by omega)) y) (ne:y≠cs[0]):y∉cs:=fun m=>by
 obtain⟨j,hj,e⟩:=List.mem_iff_getElem.mp m
 have R:=ve hF hS (cs.length -1)
 have j0:0<j:=by
  rcases Nat.eq_zero_or_pos j with z|z
  ·subst z;exact absurd e.symm ne
  ·exact z
 subst e
 by_cases c:j%2=cs.length%2
 ·have h1:=hw (j -1) (by omega)
  rw[B7 (j:=cs.length -1) (by omega)] at h1
  have h2:cs[j -1+1]'(by omega)=cs[j]:=by congr 1;omega
  rw[h2] at h1
  have:=R.one (R.symm h1) (R.symm hy)
  have:=jJ nd this
  omega
 ·by_cases l:j=cs.length -1
  ·subst l;exact R.irr hy
  ·have h1:=hw j (by omega)
   rw[B7 (j:=cs.length -1) (by omega)] at h1
   have:=R.one h1 (R.symm hy)
   have:=jJ nd this
   omega
structure jS (F S:SR) (a:Str) (cs:List Str):Prop where
 pos:0<cs.length
 hd:cs[0]=a
 nd:cs.Nodup
 wk:Walk F S cs
 en:(¬ ∃y,alt F S (cs.length -1) (cs[cs.length -1]'(by omega)) y)\/alt F S (cs.length -1) (cs[cs.length -1]'(by omega)) a
theorem l8: ∀(cs:List Str) (i:Nat) (h:i+1<cs.length),(cs[i]'(by omega),cs[i+1])∈eds cs
 | [],_,h=>by simp at h
 | [_],_,h=>by simp at h
 |a::b::l,0,_=>List.mem_cons_self
 |a::b::l,i+1,h=>List.mem_cons_of_mem _ (l8 (b::l) i (by simpa using h))
theorem kX {e:Str×Str}: ∀{cs:List Str},e∈eds cs-> ∃(i:Nat) (h:i+1<cs.length),e=(cs[i]'(by omega),cs[i+1])
 | [],h=>by cases h
 | [_],h=>by cases h
 |a::b::l,h=>by
  rcases List.mem_cons.mp h with h|h
  ·exact⟨0,by simp,h⟩
  ·obtain⟨i,hi,e⟩:=kX h
   exact⟨i+1,by simpa using hi,e⟩
def edg (ring:Bool) (cs:List Str):List (Str×Str):=eds cs++if ring=true then (match cs.getLast?,cs.head? with|some l,some h=>[(l,h)]|_,_=>[]) else []
theorem DP (r:Bool) (cs:List Str):alo r cs=(edg r cs).map nP:=rfl
theorem zl (cs:List Str):edg false cs=eds cs:=List.append_nil _
theorem AW (hp:0<cs.length):edg true cs=eds cs++[(cs[cs.length -1]'(by omega),cs[0])]:=by
 have h:cs≠[]:=List.length_pos_iff.mp hp
 unfold edg
 rw[List.getLast?_eq_some_getLast h,List.head?_eq_some_head h,List.getLast_eq_getElem,List.head_eq_getElem];rfl
theorem B9 {r:Bool} {e:Str×Str} (h:e∈edg r cs):e.1∈cs/\e.2∈cs:=by
 cases r with
 |false=>rw[zl] at h;exact mD h
 |true=>
  have hp:0<cs.length:=by
   cases cs with
   |nil=>cases h
   |cons _ _=>simp
  rw[AW hp] at h
  rcases List.mem_append.mp h with h|h
  ·exact mD h
  ·rw[List.mem_singleton.mp h];exact⟨List.getElem_mem _,List.getElem_mem _⟩
theorem jS.two (h:jS F S a cs) (hF:kW F) (ha: ∃y,F a y):2<=cs.length:=by
 have:=h.pos
 rcases Nat.lt_or_ge cs.length 2 with c|c
 ·have e:cs.length -1=0:=by omega
  have en:=h.en
  simp only[e,h.hd] at en
  rw[kh rfl] at en
  rcases en with en|en
  ·exact absurd ha en
  ·exact absurd en hF.irr
 ·exact c
theorem Walk.Hr (hw:Walk F S cs) (hF:kW F) (hS:kW S) {i:Nat} (h:i<cs.length) (hy:F cs[i] y\/S cs[i] y):((cs[i],y)∈eds cs\/(y,cs[i])∈eds cs)\/(i=0/\S cs[i] y)\/(i=cs.length -1/\alt F S (cs.length -1) cs[i] y):=by
 rcases Mh i hy with q|q
 ·by_cases l:i+1<cs.length
  ·have:=(ve hF hS i).one (hw i l) q
   subst this
   exact .inl (.inl (l8 cs i l))
  ·have e:i=cs.length -1:=by omega
   refine .inr (.inr ⟨e,?_⟩)
   rw[<-e];exact q
 ·rcases Nat.eq_zero_or_pos i with z|z
  ·subst z
   exact .inr (.inl ⟨rfl,q⟩)
  ·have w:=hw (i -1) (by omega)
   have e1:cs[i -1+1]'(by omega)=cs[i]:=by congr 1;omega
   rw[B7 (j:=i+1) (by omega),e1] at w
   have:=(ve hF hS (i+1)).one ((ve hF hS (i+1)).symm w) q
   subst this
   have:=l8 cs (i -1) (by omega)
   rw[e1] at this
   exact .inl (.inr this)
theorem jS.N5 (h:jS F S a cs) (hF:kW F) (hS:kW S) (ha: ∃y,F a y) (hn: ¬ ∃y,S a y): ¬ ∃y,alt F S (cs.length -1) (cs[cs.length -1]'(by have:=h.pos;omega)) y:=by
 have h2:=h.two hF ha
 rcases h.en with q|q
 ·exact q
 ·exfalso
  by_cases c:(cs.length -1)%2=0
  ·rw[kh c] at q
   have w:=h.wk 0 (by omega)
   rw[kh rfl,h.hd] at w
   have:=hF.one w (hF.symm q)
   have:=jJ h.nd this
   omega
  ·rw[so (by omega)] at q
   exact hn ⟨_,hS.symm q⟩
theorem jS.P8 (h:jS F S a cs) (hF:kW F) (hS:kW S) (ha: ∃y,F a y) (hb: ∀x∈cs,(∃y,F x y)/\ ∃y,S x y):cs.length%2=0/\S (cs[cs.length -1]'(by have:=h.pos;omega)) a:=by
 have h2:=h.two hF ha
 have hb':=hb _ (List.getElem_mem (l:=cs) (n:=cs.length -1) (by omega))
 have q:alt F S (cs.length -1) (cs[cs.length -1]'(by omega)) a:=h.en.resolve_left fun n=>n (by
  unfold alt;split
  ·exact hb'.1
  ·exact hb'.2)
 by_cases c:(cs.length -1)%2=0
 ·rw[kh c] at q
  have w:=h.wk 0 (by omega)
  rw[kh rfl,h.hd] at w
  have:=hF.one w (hF.symm q)
  have:=jJ h.nd this
  omega
 ·rw[so (by omega)] at q
  exact⟨by omega,q⟩
end
def isR (wd:Str):Bool:=decide (wd=("ring" :Str))
def bo (f g:SR) (x:Str):Prop:=(∃y,f x y)/\ ∃y,g x y
structure lY (f g:SR) (wd:Str) (cs:List Str):Prop where
 nd:cs.Nodup
 two:2<=cs.length
 adj: ∀x∈cs,∀y,(f x y\/g x y)->(x,y)∈edg (isR wd) cs\/(y,x)∈edg (isR wd) cs
 ed: ∀e∈edg (isR wd) cs,f e.1 e.2\/g e.1 e.2
 alo:(alo (isR wd) cs).Nodup
 wo:wd="row" \/wd="ring"
 row:wd="row" ->(¬bo f g (cs[0]'(by omega)))/\ ∀x∈cs,¬bo f g x-> ¬cC x (cs[0]'(by omega))
 ring:wd="ring" -> ∀x∈cs,bo f g x/\ ¬cC x (cs[0]'(by omega))
 lst:wd="row" -> ¬bo f g (cs[cs.length -1]'(by omega))
 ev:wd="ring" ->cs.length%2=0/\4<=cs.length
structure Prt (f g:SR) (wd:Str) (cs:List Str):Prop extends lY f g wd cs where
 w1:(∃y,f (cs[0]'(by omega)) y)->Walk f g cs
 w2:(¬ ∃y,f (cs[0]'(by omega)) y)->Walk g f cs
section
variable {F S f g:SR} {cs ds:List Str} {a x y z:Str} {i j:Nat} {wd wd':Str}
theorem l9:("row" :Str)≠"ring" :=by decide
theorem vf:bo f g x↔bo g f x:=And.comm
theorem lY.swap (h:lY f g wd cs):lY g f wd cs where
 nd:=h.nd
 two:=h.two
 adj:=fun x hx y q=>h.adj x hx y q.symm
 ed:=fun e he=>(h.ed e he).symm
 alo:=h.alo
 wo:=h.wo
 row:=fun e=>⟨fun b=>(h.row e).1 (vf.mp b),fun x hx n=>(h.row e).2 x hx fun b=>n (vf.mp b)⟩
 ring:=fun e x hx=>⟨vf.mp (h.ring e x hx).1,(h.ring e x hx).2⟩
 lst:=fun e b=>h.lst e (vf.mp b)
 ev:=h.ev
theorem lY.closed (h:lY f g wd cs) (hx:x∈cs) (hy:f x y\/g x y):y∈cs:=by
 rcases h.adj x hx y hy with q|q
 ·exact (B9 q).2
 ·exact (B9 q).1
theorem JV {r:Bool} {e:Str×Str} (h:e∈eds cs):e∈edg r cs:=List.mem_append_left _ h
theorem conn (hs: ∀i (h:i+1<cs.length),f (cs[i]'(by omega)) cs[i+1]\/g (cs[i]'(by omega)) cs[i+1]) (hf:kW f) (hg:kW g) (C:Str->Prop) (hC: ∀x y,C x->(f x y\/g x y)->C y) (hx:x∈cs) (cx:C x): ∀z∈cs,C z:=by
 obtain⟨k,hk,e⟩:=List.mem_iff_getElem.mp hx
 subst e
 have up: ∀m (h:k+m<cs.length),C cs[k+m]:=fun m=>by
  induction m with
  |zero=>intro h;exact cx
  |succ m ih=>intro h;exact hC _ _ (ih (by omega)) (hs (k+m) h)
 have dn: ∀m (h:m<=k),C (cs[k -m]'(by omega)):=fun m=>by
  induction m with
  |zero=>intro h;exact cx
  |succ m ih=>
   intro h
   have q:=hs (k -(m+1)) (by omega)
   have e1:cs[k -(m+1)+1]'(by omega)=cs[k -m]'(by omega):=by congr 1;omega
   rw[e1] at q
   exact hC _ _ (ih (by omega)) (q.imp hf.symm hg.symm)
 intro z hz
 obtain⟨j,hj,e⟩:=List.mem_iff_getElem.mp hz
 subst e
 by_cases c:k<=j
 ·have:=up (j -k) (by omega)
  have e1:cs[k+(j -k)]'(by omega)=cs[j]:=by congr 1;omega
  rwa[e1] at this
 ·have:=dn (k -j) (by omega)
  have e1:cs[k -(k -j)]'(by omega)=cs[j]:=by congr 1;omega
  rwa[e1] at this
theorem lY.steps (h:lY f g wd cs): ∀i (h:i+1<cs.length),f (cs[i]'(by omega)) cs[i+1]\/g (cs[i]'(by omega)) cs[i+1]:=fun i hi=>h.ed _ (JV (l8 cs i hi))
theorem lY.Ht (h:lY f g wd cs) (k:lY f g wd' ds) (hf:kW f) (hg:kW g) (h1:x∈cs) (h2:x∈ds) (z:Str):z∈cs↔z∈ds:=
 ⟨conn h.steps hf hg (fun z=>z∈ds) (fun _ _ c q=>k.closed c q) h1 h2 z,conn k.steps hf hg (fun z=>z∈cs) (fun _ _ c q=>h.closed c q) h2 h1 z⟩
theorem lY.EG (h:lY f g wd cs) (k:lY f g wd' ds) (e: ∀z,z∈cs↔z∈ds):wd=wd'/\cs[0]'(by have:=h.two;omega)=ds[0]'(by have:=k.two;omega):=by
 have h2:=h.two
 have k2:=k.two
 have m1:cs[0]∈ds:=(e _).mp (List.getElem_mem _)
 have m2:ds[0]∈cs:=(e _).mpr (List.getElem_mem _)
 have tri: ¬cC (cs[0]) (ds[0])-> ¬cC (ds[0]) (cs[0])->cs[0]=ds[0]:=fun a b=>by
  rcases nQ (cs[0]) (ds[0]) with q|q|q
  ·exact absurd q a
  ·exact q
  ·exact absurd q b
 rcases h.wo with a|a <;> rcases k.wo with b|b
 ·exact⟨by rw[a,b],tri ((k.row b).2 _ m1 (h.row a).1) ((h.row a).2 _ m2 (k.row b).1)⟩
 ·exact absurd (k.ring b _ m1).1 (h.row a).1
 ·exact absurd (h.ring a _ m2).1 (k.row b).1
 ·exact⟨by rw[a,b],tri (k.ring b _ m1).2 (h.ring a _ m2).2⟩
theorem jS.row (h:jS F S a cs) (hF:kW F) (hS:kW S) (ha: ∃y,F a y) (hn: ¬ ∃y,S a y) (hl: ¬cC (cs[cs.length -1]'(by have:=h.pos;omega)) a):lY F S "row" cs:=by
 have h2:=h.two hF ha
 have op:=h.N5 hF hS ha hn
 have hr:isR "row" =false:=rfl
 exact {
  nd:=h.nd
  two:=h2
  adj:=fun x hx y q=>by
   rw[hr,zl]
   obtain⟨i,hi,e⟩:=List.mem_iff_getElem.mp hx
   subst e
   rcases h.wk.Hr hF hS hi q with r|⟨r,t⟩|⟨r,t⟩
   ·exact r
   ·subst r;rw[h.hd] at t;exact absurd ⟨y,t⟩ hn
   ·subst r;exact absurd ⟨y,t⟩ op
  ed:=fun e he=>by
   rw[hr,zl] at he
   obtain⟨i,hi,e1⟩:=kX he
   subst e1
   exact Hq (h.wk i hi)
  alo:=by rw[hr,DO];exact (mE h.nd).1
  wo:=.inl rfl
  row:=fun _=>⟨by rw[h.hd];exact fun b=>hn b.2,fun x hx n=>by
   rw[h.hd]
   obtain⟨i,hi,e⟩:=List.mem_iff_getElem.mp hx
   subst e
   by_cases c0:i=0
   ·subst c0;rw[h.hd];exact dG a
   by_cases c1:i=cs.length -1
   ·subst c1;exact hl
   refine absurd ?_ n
   have q1:=h.wk i (by omega)
   have q2:=h.wk (i -1) (by omega)
   have e1:cs[i -1+1]'(by omega)=cs[i]:=by congr 1;omega
   rw[e1] at q2
   by_cases p:i%2=0
   ·rw[kh p] at q1
    rw[so (by omega)] at q2
    exact⟨⟨_,q1⟩,⟨_,hS.symm q2⟩⟩
   ·rw[so (by omega)] at q1
    rw[kh (by omega)] at q2
    exact⟨⟨_,hF.symm q2⟩,⟨_,q1⟩⟩⟩
  ring:=fun e=>absurd e l9
  lst:=fun _ b=>op (by
   unfold alt;split
   ·exact b.1
   ·exact b.2)
  ev:=fun e=>absurd e l9}
theorem jS.ring (h:jS F S a cs) (hF:kW F) (hS:kW S) (hd: ∀x y,F x y-> ¬S x y) (ha: ∃y,F a y) (hb: ∀x∈cs,(∃y,F x y)/\ ∃y,S x y) (hl: ∀x∈cs,¬cC x a):lY F S "ring" cs:=by
 have h2:=h.two hF ha
 obtain⟨ev,cl⟩:=h.P8 hF hS ha hb
 have hr:isR "ring" =true:=rfl
 have ee:edg true cs=eds cs++[(cs[cs.length -1]'(by omega),a)]:=by rw[AW (by omega),h.hd]
 have h4:4<=cs.length:=by
  rcases Nat.lt_or_ge cs.length 4 with c|c
  ·have e:cs.length=2:=by omega
   exfalso
   have w:=h.wk 0 (by omega)
   rw[kh rfl,h.hd] at w
   have:cs[cs.length -1]'(by omega)=cs[0+1]'(by omega):=by congr 1;omega
   rw[this] at cl
   exact hd _ _ w (hS.symm cl)
  ·exact c
 have la:cs[cs.length -1]'(by omega)≠a:=fun e=>by
  rw[<-h.hd] at e
  have:=jJ h.nd e
  omega
 exact {
  nd:=h.nd
  two:=h2
  adj:=fun x hx y q=>by
   rw[hr,ee]
   obtain⟨i,hi,e⟩:=List.mem_iff_getElem.mp hx
   subst e
   rcases h.wk.Hr hF hS hi q with r|⟨r,t⟩|⟨r,t⟩
   ·exact r.imp (List.mem_append_left _) (List.mem_append_left _)
   ·subst r
    rw[h.hd] at t⊢
    have:=hS.one t (hS.symm cl)
    subst this
    exact .inr (List.mem_append_right _ List.mem_cons_self)
   ·subst r
    rw[so (by omega)] at t
    have:=hS.one t cl
    subst this
    exact .inl (List.mem_append_right _ List.mem_cons_self)
  ed:=fun e he=>by
   rw[hr,ee] at he
   rcases List.mem_append.mp he with he|he
   ·obtain⟨i,hi,e1⟩:=kX he
    subst e1
    exact Hq (h.wk i hi)
   ·rw[List.mem_singleton.mp he];exact .inr cl
  alo:=by
   rw[hr,DP,ee,List.map_append]
   obtain⟨n1,n2⟩:=mE h.nd
   refine List.nodup_append.mpr ⟨n1,by simp,fun p hp q hq e=> ?_⟩
   subst e
   have hq:p=nP (cs[cs.length -1]'(by omega),a):=by simpa using hq
   obtain⟨e,he,q⟩:=List.mem_map.mp hp
   rw[hq] at q
   have t1:cs[cs.length -1]'(by omega)=e.1\/cs[cs.length -1]'(by omega)=e.2:=by
    rw[<-kK (n2 e he),q,kK (e:=(cs[cs.length -1]'(by omega),a)) la];exact .inl rfl
   have t2:a=e.1\/a=e.2:=by
    rw[<-kK (n2 e he),q,kK (e:=(cs[cs.length -1]'(by omega),a)) la];exact .inr rfl
   obtain⟨i,hi,e1⟩:=kX he
   subst e1
   rw[<-h.hd] at t2
   have k1:cs.length -1=i\/cs.length -1=i+1:=t1.imp (fun t=>jJ h.nd t) (fun t=>jJ h.nd t)
   have k2:0=i\/0=i+1:=t2.imp (fun t=>jJ h.nd t) (fun t=>jJ h.nd t)
   omega
  wo:=.inr rfl
  row:=fun e=>absurd e.symm l9
  ring:=fun _ x hx=>⟨hb x hx,by rw[h.hd];exact hl x hx⟩
  lst:=fun e=>absurd e.symm l9
  ev:=fun _=>⟨ev,h4⟩}
end
end Sw
namespace Sw
open PySem PySem.Spec PyProof.Rows L2
section
variable {w:Wb} {P Q:List (Str×Str)} {S cs:List Str} {wd x y:Str} {q:Str×Str}
theorem Hu (hP:Plan w P) (hQ:Plan w Q) (h:q∈P) (n:q∉Q):own P Q q.1 q.2:=
 ⟨.inl h,fun m=>m.elim n fun m=>s7 (hP.lt _ h) (hQ.lt _ m)⟩
theorem Hv (hP:Plan w P) (hQ:Plan w Q) {e:Str×Str} (h:own P Q e.1 e.2):nP e∈P/\nP e∉Q:=by
 have ne:=vZ hP h.1
 rw[ub hP ne,ub hQ ne]
 exact h
theorem lY.mem (hP:Plan w P) (hQ:Plan w Q) (h:lY (own P Q) (own Q P) wd cs) (q:Str×Str):q∈Sw.alo (isR wd) cs↔((q∈P/\q∉Q)\/(q∈Q/\q∉P))/\q.1∈cs:=by
 rw[DP,List.mem_map]
 constructor
 ·rintro⟨e,he,rfl⟩
  have hi:=B9 he
  have ne:e.1≠e.2:=by
   rcases h.ed e he with o|o
   ·exact vZ hP o.1
   ·exact vZ hQ o.1
  refine⟨(h.ed e he).imp (Hv hP hQ) (Hv hQ hP),?_⟩
  rcases (kK (e:=e) ne (x:=(nP e).1)).mp (.inl rfl) with t|t
  ·rw[t];exact hi.1
  ·rw[t];exact hi.2
 ·rintro⟨h1,h2⟩
  have lt:cC q.1 q.2:=h1.elim (fun r=>hP.lt _ r.1) (fun r=>hQ.lt _ r.1)
  have o:own P Q q.1 q.2\/own Q P q.1 q.2:=h1.imp (fun r=>Hu hP hQ r.1 r.2) (fun r=>Hu hQ hP r.1 r.2)
  rcases h.adj _ h2 _ o with r|r
  ·exact⟨_,r,vY lt⟩
  ·exact⟨_,r,by rw[vd];exact vY lt⟩
def zo (P Q:List (Str×Str)) (S:List Str):Prop:= ∀x∈S,∀y,(own P Q x y\/own Q P x y)->y∈S
theorem zo.swap (h:zo P Q S):zo Q P S:=fun x hx y o=>h x hx y o.symm
theorem zo.nil:zo P Q []:=fun x hx=>by cases hx
theorem zo.app (h:zo P Q S) {T:List Str} (k:zo P Q T):zo P Q (S++T):=fun x hx y o=>by
 rcases List.mem_append.mp hx with hx|hx
 ·exact List.mem_append_left _ (h x hx y o)
 ·exact List.mem_append_right _ (k x hx y o)
end
abbrev Pt:=Str×List Str
structure zp (f g:SR) (L:List Pt):Prop where
 ok: ∀p∈L,Prt f g p.1 p.2
 dis:L.Pairwise fun p q=> ∀x∈p.2,x∉q.2
structure Pts (f g:SR) (L:List Pt):Prop extends zp f g L where
 all: ∀x,((∃y,f x y)\/ ∃y,g x y)-> ∃p∈L,x∈p.2
section
variable {f g:SR} {L M:List Pt} {w:Wb} {P Q:List (Str×Str)}
theorem zp.sub (h:zp f g L) (s:List.Sublist M L):zp f g M:=⟨fun p hp=>h.ok p (s.subset hp),h.dis.sublist s⟩
theorem Hw {p q:Pt} (h: ∀x∈p.2,x∉q.2): ∀x∈q.2,x∉p.2:=fun x a b=>h x b a
theorem zp.perm (h:zp f g L) (s:L.Perm M):zp f g M:=⟨fun p hp=>h.ok p (s.mem_iff.mpr hp),(List.Perm.pairwise_iff (R:=fun(p q:Pt)=> ∀x∈p.2,x∉q.2) (fun h=>Hw h) s).mp h.dis⟩
theorem Pts.perm (h:Pts f g L) (s:L.Perm M):Pts f g M:=⟨h.tozp.perm s,fun x hx=>by
 obtain⟨p,hp,q⟩:=h.all x hx
 exact⟨p,s.mem_iff.mp hp,q⟩⟩
theorem lY.JW {wd:Str} {cs:List Str} (h:lY f g wd cs):cs[0]'(by have:=h.two;omega)∈cs:=List.getElem_mem _
theorem lY.Hx {wd:Str} {cs:List Str} (h:lY f g wd cs):(∃y,f (cs[0]'(by have:=h.two;omega)) y)\/ ∃y,g (cs[0]'(by have:=h.two;omega)) y:=by
 have:=h.two
 rcases h.steps 0 (by omega) with q|q
 ·exact .inl ⟨_,q⟩
 ·exact .inr ⟨_,q⟩
def hdP (p:Pt):Str:=p.2.headD ""
theorem zq {p:Pt} (h:2<=p.2.length):hdP p=p.2[0]'(by omega):=by
 obtain⟨wd,cs⟩:=p
 cases cs with
 |nil=>simp at h
 |cons a l=>rfl
theorem zp.heads (h:zp f g L):(L.map hdP).Nodup:=by
 refine List.pairwise_map.mpr ((h.dis.imp_of_mem fun {p q} hp hq d e=> ?_))
 have h1:=(h.ok p hp).two
 have h2:=(h.ok q hq).two
 rw[zq h1,zq h2] at e
 have m:p.2[0]'(by omega)∈q.2:=by rw[e];exact List.getElem_mem _
 exact d _ (List.getElem_mem _) m
theorem Pts.Hy (hf:kW f) (hg:kW g) (h:Pts f g L) (k:Pts g f M):L.length<=M.length:=by
 have:=List.Nodup.length_le_of_subset h.tozp.heads (l₂:=M.map hdP) fun x hx=>by
  obtain⟨p,hp,e⟩:=List.mem_map.mp hx
  subst e
  have hk:=(h.ok p hp).tolY
  obtain⟨m,hm,mx⟩:=k.all _ hk.Hx.symm
  have km:=(k.ok m hm).tolY.swap
  obtain⟨_,e⟩:=hk.EG km (hk.Ht km hf hg hk.JW mx)
  rw[zq hk.two,e,←zq km.two]
  exact List.mem_map_of_mem hm
 simpa using this
theorem Pts.len (hf:kW f) (hg:kW g) (h:Pts f g L) (k:Pts g f M):L.length=M.length:=
 Nat.le_antisymm (h.Hy hf hg k) (k.Hy hg hf h)
end
end Sw
namespace Sw
open PySem PySem.Spec PyProof.Rows L2
class jC (A:Type) [En A] [So A]:Prop where
 irr: ∀a:A,So.lt a a=false
 tr: ∀a b c:A,So.lt a b=true->So.lt b c=true->So.lt a c=true
 tri: ∀a b:A,So.lt a b=true\/a=b\/So.lt b a=true
instance linStr:jC Str where
 irr a:=decide_eq_false (dG a)
 tr a b c h g:=decide_eq_true (mP (of_decide_eq_true h) (of_decide_eq_true g))
 tri a b:=by
  rcases nQ a b with h|h|h
  ·exact .inl (decide_eq_true h)
  ·exact .inr (.inl h)
  ·exact .inr (.inr (decide_eq_true h))
instance linInt:jC Int where
 irr a:=decide_eq_false (by omega)
 tr a b c h g:=decide_eq_true (by have:=of_decide_eq_true h;have:=of_decide_eq_true g;omega)
 tri a b:=by
  rcases Int.lt_trichotomy a b with h|h|h
  ·exact .inl (decide_eq_true h)
  ·exact .inr (.inl h)
  ·exact .inr (.inr (decide_eq_true h))
section
variable {A B:Type} [En A] [So A] [En B] [So B]
theorem zr {p:Prop} {d:Decidable p} {a b:Bool}:(@ite _ p d a b=true)↔(p/\a=true)\/(¬p/\b=true):=by
 cases d with
 |isTrue h=>rw[if_pos h];simp[h]
 |isFalse h=>rw[if_neg h];simp[h]
theorem pair_lt (p q:A×B):So.lt p q=true↔So.lt p.1 q.1=true/\p.1≠q.1\/p.1=q.1/\p.2≠q.2/\So.lt p.2 q.2=true:=by
 show (@ite _ (p.1=q.1) (So.dec p.1 q.1) (@ite _ (p.2=q.2) (So.dec p.2 q.2) false (So.lt p.2 q.2)) (So.lt p.1 q.1))=true↔_
 rw[zr,zr]
 constructor
 ·rintro (⟨h,⟨_,g⟩|⟨g,k⟩⟩|⟨h,g⟩)
  ·cases g
  ·exact .inr ⟨h,g,k⟩
  ·exact .inl ⟨g,h⟩
 ·rintro (⟨h,g⟩|⟨h,g,k⟩)
  ·exact .inr ⟨g,h⟩
  ·exact .inl ⟨h,.inr ⟨g,k⟩⟩
theorem nZ [jC A] {a b:A} (h:So.lt a b=true):a≠b:=fun e=>by
 rw[e,jC.irr] at h;cases h
instance linPair [jC A] [jC B]:jC (A×B) where
 irr p:=Bool.eq_false_iff.mpr fun h=>by
  rcases (pair_lt p p).mp h with ⟨_,g⟩|⟨_,g,_⟩ <;> exact g rfl
 tr p q r h g:=by
  rw[pair_lt] at h g⊢
  rcases h with ⟨h,h'⟩|⟨h,h',h''⟩ <;> rcases g with ⟨g,g'⟩|⟨g,g',g''⟩
  ·have:=jC.tr _ _ _ h g;exact .inl ⟨this,nZ this⟩
  ·rw[<-g];exact .inl ⟨h,h'⟩
  ·rw[h];exact .inl ⟨g,g'⟩
  ·have:=jC.tr _ _ _ h'' g'';exact .inr ⟨h.trans g,nZ this,this⟩
 tri p q:=by
  rw[pair_lt,pair_lt]
  rcases jC.tri p.1 q.1 with h|h|h
  ·exact .inl (.inl ⟨h,nZ h⟩)
  ·rcases jC.tri p.2 q.2 with g|g|g
   ·exact .inl (.inr ⟨h,nZ g,g⟩)
   ·exact .inr (.inl (Prod.ext h g))
   ·exact .inr (.inr (.inr ⟨h.symm,nZ g,g⟩))
  ·exact .inr (.inr (.inl ⟨h,nZ h⟩))
theorem n4 (a b:A) (xs ys:List A):oN (a::xs) (b::ys)=true↔(a=b/\oN xs ys=true)\/(a≠b/\So.lt a b=true):=zr
theorem yi [jC A]: ∀xs:List A,oN xs xs=false
 | []=>rfl
 |a::xs=>Bool.eq_false_iff.mpr fun h=>by
  rcases (n4 a a xs xs).mp h with ⟨_,g⟩|⟨g,_⟩
  ·rw[yi xs] at g;cases g
  ·exact g rfl
theorem AX [jC A]: ∀xs ys zs:List A,oN xs ys=true->oN ys zs=true->oN xs zs=true
 | [],[],_,h,_=>by cases h
 | [],_::_,[],_,g=>by cases g
 | [],_::_,_::_,_,_=>rfl
 |_::_,[],_,h,_=>by cases h
 |_::_,_::_,[],_,g=>by cases g
 |a::xs,b::ys,c::zs,h,g=>by
  rw[n4] at h g⊢
  rcases h with ⟨h,h'⟩|⟨h,h'⟩ <;> rcases g with ⟨g,g'⟩|⟨g,g'⟩
  ·exact .inl ⟨h.trans g,AX xs ys zs h' g'⟩
  ·rw[h];exact .inr ⟨g,g'⟩
  ·rw[<-g];exact .inr ⟨h,h'⟩
  ·have:=jC.tr _ _ _ h' g';exact .inr ⟨nZ this,this⟩
theorem yj [jC A]: ∀xs ys:List A,oN xs ys=true\/xs=ys\/oN ys xs=true
 | [],[]=>.inr (.inl rfl)
 | [],_::_=>.inl rfl
 |_::_,[]=>.inr (.inr rfl)
 |a::xs,b::ys=>by
  rw[n4,n4]
  rcases jC.tri a b with h|h|h
  ·exact .inl (.inr ⟨nZ h,h⟩)
  ·rcases yj xs ys with g|g|g
   ·exact .inl (.inl ⟨h,g⟩)
   ·exact .inr (.inl (by rw[h,g]))
   ·exact .inr (.inr (.inl ⟨h.symm,g⟩))
  ·exact .inr (.inr (.inr ⟨nZ h,h⟩))
instance linList [jC A]:jC (List A):=⟨yi,AX,yj⟩
end
end Sw
namespace Sw
open PySem PySem.Spec PyProof.Rows L2
def P9 (c k:Int):Int:=
 let n:=(c%2147483647+7919*k+1)*48271%2147483647
 let m:=(n*n+k)%2147483629
 m*m%2147483587
def at2 (c:Int):Int:=P9 c 9%6
end Sw
namespace Sw
open PySem PySem.Spec PyProof.Rows L2
inductive F2 {α β:Type} (R:α->β->Prop):List α->List β->Prop where
 |nil:F2 R [] []
 |cons {a b xs ys}:R a b->F2 R xs ys->F2 R (a::xs) (b::ys)
def KM:Nat->aF->List Str->Prop
 |0,_,_=>False
 |_+1,.single c,ms=>ms=[c]
 |n+1,.group r _,ms=> ∃rs,F2 (KM n) r rs/\ms=qO rs.flatten
structure Kt where
 k:aF
 b:Str
 ms:List Str
def nx (n j:Nat):Nat:=if j+1=n then 0 else j+1
def off (n p j:Nat):Nat:=if p<=j then j -p else j+n -p
theorem Hz {n j:Nat} (h:j+1=n):nx n j=0:=if_pos h
theorem zt {n j:Nat} (h:j+1≠n):nx n j=j+1:=if_neg h
theorem iP {n p j:Nat} (h:p<=j):off n p j=j -p:=if_pos h
theorem mF {n p j:Nat} (h:j<p):off n p j=j+n -p:=if_neg (by omega)
theorem N6 {n j:Nat} (h:j<n):nx n j<n:=by unfold nx;split <;> omega
theorem Ca {n p j:Nat} (hp:p<n) (h:j<n):off n p j<n:=by unfold off;split <;> omega
theorem HA {n p j:Nat} (hp:p<n) (h:j<n) (h1:off n p j+1<n):off n p (nx n j)=off n p j+1:=by
 by_cases e:j+1=n
 ·rw[Hz e]
  by_cases l:p<=j
  ·rw[iP l] at h1⊢
   rw[mF (by omega)];omega
  ·omega
 ·rw[zt e]
  by_cases l:p<=j
  ·rw[iP l] at h1⊢
   rw[iP (by omega)];omega
  ·rw[mF (by omega)] at h1⊢
   by_cases l2:p<=j+1
   ·omega
   ·rw[mF (by omega)];omega
theorem HB {n p j:Nat} (hp:p<n) (h:j<n) (h1:0<off n p (nx n j)):off n p j+1=off n p (nx n j):=by
 by_cases e:j+1=n
 ·rw[Hz e] at h1⊢
  by_cases l:p<=j
  ·rw[iP l]
   by_cases l0:p=0
   ·rw[iP (by omega)] at h1;omega
   ·rw[mF (by omega)];omega
  ·omega
 ·rw[zt e] at h1⊢
  by_cases l:p<=j
  ·rw[iP l,iP (by omega)];omega
  ·by_cases l2:p<=j+1
   ·rw[iP l2] at h1;omega
   ·rw[mF (by omega),mF (by omega)];omega
theorem DQ {n p i j:Nat} (hp:p<n) (hi:i<n) (hj:j<n) (h:off n p i=off n p j):i=j:=by
 by_cases a:p<=i <;> by_cases b:p<=j
 ·rw[iP a,iP b] at h;omega
 ·rw[iP a,mF (by omega)] at h;omega
 ·rw[mF (by omega),iP b] at h;omega
 ·rw[mF (by omega),mF (by omega)] at h;omega
theorem ym (n p:Nat):off n p p=0:=by rw[iP (Nat.le_refl _)];omega
structure ig (m:Str->Option Str) (t:List Kt) (p:Nat) (l:List (Str×Str)):Prop where
 lead:p<t.length
 odd:t.length%2=1
 nd:(t.map (·.ms)).flatten.Nodup
 len:l.length=t.length
 link: ∀j x y a,j<t.length->t[j]? =some x->t[nx t.length j]? =some y->l[j]? =some a->(off t.length p j%2=1->a=(x.b,y.b)/\m x.b=some y.b/\m y.b=some x.b)/\a.1∈x.ms/\a.2∈y.ms
 three:3<=t.length
def KB (m:Str->Option Str):Nat->aF->Str->List Str->Prop
 |0,_,_,_=>False
 |_+1,.single c,b,ms=>b=c/\ms=[c]
 |n+1,.group r l,b,ms=> ∃(t:List Kt) (p:Nat),ig m t p l/\r=t.map (·.k)/\(∀x∈t,KB m n x.k x.b x.ms)/\ms=qO (t.map (·.ms)).flatten/\t[p]?.map (·.b)=some b
def KL (L:List (Str×Str)):Nat->aF->Prop
 |0,_=>False
 |_+1,.single _=>True
 |n+1,.group r l=>(∀q∈l,q∈L)/\ ∀k∈r,KL L n k
theorem KL.up {L:List (Str×Str)}: ∀{n:Nat} {k:aF},KL L n k->KL L (n+1) k
 |0,_,h=>h.elim
 |n+1,.single c,h=>h
 |n+1,.group r l,h=>⟨h.1,fun k hk=>(h.2 k hk).up⟩
theorem KL.sub {L L':List (Str×Str)} (s: ∀q∈L,q∈L'): ∀{n:Nat} {k:aF},KL L n k->KL L' n k
 |0,_,h=>h.elim
 |n+1,.single c,h=>h
 |n+1,.group r l,h=>⟨fun q hq=>s q (h.1 q hq),fun k hk=>(h.2 k hk).sub s⟩
theorem ue {α β:Type} {R S:α->β->Prop} (h: ∀a b,R a b->S a b): ∀{xs:List α} {ys:List β},F2 R xs ys->F2 S xs ys
 |_,_,.nil=>.nil
 |_,_,.cons a r=>.cons (h _ _ a) (ue h r)
theorem KM.up: ∀{n:Nat} {k:aF} {ms:List Str},KM n k ms->KM (n+1) k ms
 |0,_,_,h=>h.elim
 |n+1,.single c,_,h=>h
 |n+1,.group r l,_,⟨rs,h1,h2⟩=>⟨rs,ue (fun _ _=>KM.up) h1,h2⟩
theorem KB.up {m:Str->Option Str}: ∀{n:Nat} {k:aF} {b:Str} {ms:List Str},KB m n k b ms->KB m (n+1) k b ms
 |0,_,_,_,h=>h.elim
 |n+1,.single c,_,_,h=>h
 |n+1,.group r l,_,_,⟨t,p,h1,h2,h3,h4⟩=>⟨t,p,h1,h2,fun x hx=>(h3 x hx).up,h4⟩
theorem KB.mono {m:Str->Option Str} {n N:Nat} {k:aF} {b:Str} {ms:List Str} (h:KB m n k b ms) (e:n<=N):KB m N k b ms:=by
 induction e with
 |refl=>exact h
 |step _ ih=>exact ih.up
theorem su {α β γ:Type} {R:β->γ->Prop} {f:α->β} {g:α->γ}: ∀{xs:List α},(∀x∈xs,R (f x) (g x))->F2 R (xs.map f) (xs.map g)
 | [],_=>.nil
 |x::xs,h=>.cons (h x List.mem_cons_self) (su fun y hy=>h y (List.mem_cons_of_mem _ hy))
theorem KB.km {m:Str->Option Str}: ∀{n:Nat} {k:aF} {b:Str} {ms:List Str},KB m n k b ms->KM n k ms
 |0,_,_,_,h=>h.elim
 |n+1,.single c,_,_,h=>h.2
 |n+1,.group r l,_,_,⟨t,p,h1,h2,h3,h4,_⟩=>⟨t.map (·.ms),h2▸su fun x hx=>(h3 x hx).km,h4⟩
theorem cG {t:List Kt} {c:Str}:c∈(t.map (·.ms)).flatten↔ ∃x∈t,c∈x.ms:=by
 rw[List.mem_flatten]
 constructor
 ·rintro⟨l,h1,h2⟩
  obtain⟨x,hx,rfl⟩:=List.mem_map.mp h1
  exact⟨x,hx,h2⟩
 ·rintro⟨x,hx,h⟩
  exact⟨x.ms,List.mem_map_of_mem hx,h⟩
theorem fh {t:List Kt} (nd:(t.map (·.ms)).flatten.Nodup) {i j:Nat} {x y:Kt} (hx:t[i]? =some x) (hy:t[j]? =some y) {c:Str} (h1:c∈x.ms) (h2:c∈y.ms):i=j:=by
 induction t generalizing i j with
 |nil=>cases hx
 |cons z t ih=>
  rw[List.map_cons,List.flatten_cons,List.nodup_append] at nd
  obtain⟨n1,n2,n3⟩:=nd
  cases i with
  |zero=>
   cases j with
   |zero=>rfl
   |succ j=>
    cases hx
    exact absurd rfl (n3 c h1 c (cG.mpr ⟨y,List.mem_of_getElem? hy,h2⟩))
  |succ i=>
   cases j with
   |zero=>
    cases hy
    exact absurd rfl (n3 c h2 c (cG.mpr ⟨x,List.mem_of_getElem? hx,h1⟩))
   |succ j=>rw[ih n2 hx hy]
section
variable {m m':Str->Option Str} {n:Nat} {k:aF} {b c:Str} {ms:List Str}
theorem KB.base: ∀{n:Nat} {k:aF} {b:Str} {ms:List Str},KB m n k b ms->b∈ms
 |0,_,_,_,h=>h.elim
 |n+1,.single c,_,_,h=>by rw[h.1,h.2];exact List.mem_singleton_self _
 |n+1,.group r l,b,_,⟨t,p,h1,h2,h3,h4,h5⟩=>by
  subst h4
  obtain⟨x,e1,e2⟩:=Option.map_eq_some_iff.mp h5
  have hx:=List.mem_of_getElem? e1
  rw[(bg _).mem_iff,cG]
  exact⟨x,hx,e2▸(h3 x hx).base⟩
theorem KB.rise: ∀{n:Nat} {k:aF} {b:Str} {ms:List Str},KB m n k b ms->ms.Pairwise cC
 |0,_,_,_,h=>h.elim
 |n+1,.single c,_,_,h=>by rw[h.2];exact List.pairwise_singleton _ _
 |n+1,.group r l,b,_,⟨t,p,h1,h2,h3,h4,h5⟩=>h4▸zj h1.nd
theorem KB.nodup (h:KB m n k b ms):ms.Nodup:=List.nodup_iff_pairwise_ne.mpr (h.rise.imp fun {a b} l (e:a=b)=>dG a (by subst e;exact l))
theorem ig.at_ {t:List Kt} {p:Nat} {l:List (Str×Str)} (h:ig m t p l) {j:Nat} (hj:j<t.length): ∃x y a,t[j]? =some x/\t[nx t.length j]? =some y/\l[j]? =some a:=
 ⟨_,_,_,List.getElem?_eq_getElem hj,List.getElem?_eq_getElem (N6 hj),List.getElem?_eq_getElem (by rw[h.len];exact hj)⟩
theorem ig.EH {t:List Kt} {p:Nat} {l:List (Str×Str)} (h:ig m t p l) {j:Nat} {x:Kt} (hj:t[j]? =some x) (hp:j≠p): ∃(i:Nat) (y:Kt),t[i]? =some y/\m x.b=some y.b:=by
 have jl:j<t.length:=(List.getElem?_eq_some_iff.mp hj).1
 have pl:=h.lead
 by_cases o:off t.length p j%2=1
 ·obtain⟨x',y,a,e1,e2,e3⟩:=h.at_ jl
  rw[hj] at e1;cases e1
  exact⟨_,y,e2,((h.link j x y a jl hj e2 e3).1 o).2.1⟩
 ·have o0:0<off t.length p j:=by
   rcases Nat.eq_zero_or_pos (off t.length p j) with e|e
   ·exact absurd (DQ pl jl pl (e.trans (ym _ _).symm)) hp
   ·exact e
  have ol:=Ca pl jl
  obtain⟨i,hi,e⟩: ∃i,i<t.length/\nx t.length i=j:=by
   by_cases j0:j=0
   ·exact⟨t.length -1,by omega,by unfold nx;rw[if_pos (by omega)];exact j0.symm⟩
   ·exact⟨j -1,by omega,by unfold nx;rw[if_neg (by omega)];omega⟩
  have oi:off t.length p i+1=off t.length p j:=by
   subst e
   exact HB pl hi o0
  obtain⟨x',y,a,e1,e2,e3⟩:=h.at_ hi
  rw[e,hj] at e2;cases e2
  exact⟨i,x',e1,((h.link i x' x a hi e1 (e▸hj) e3).1 (by omega)).2.2⟩
theorem KB.EH: ∀{n:Nat} {k:aF} {b:Str} {ms:List Str},KB m n k b ms-> ∀c∈ms,c≠b-> ∃d∈ms,m c=some d
 |0,_,_,_,h,_,_,_=>h.elim
 |n+1,.single c,_,_,h,d,hd,ne=>by
  rw[h.2] at hd
  exact absurd ((List.mem_singleton.mp hd).trans h.1.symm) ne
 |n+1,.group r l,b,_,⟨t,p,h1,h2,h3,h4,h5⟩,c,hc,ne=>by
  subst h4
  rw[(bg _).mem_iff,cG] at hc
  obtain⟨x,hx,cx⟩:=hc
  by_cases e:c=x.b
  ·obtain⟨j,hj⟩:=List.getElem?_of_mem hx
   have jp:j≠p:=fun e2=>ne (by
    subst e2
    rw[hj] at h5
    exact e.trans (Option.some.inj h5))
   obtain⟨i,y,hy,my⟩:=h1.EH hj jp
   refine⟨y.b,?_,e▸my⟩
   rw[(bg _).mem_iff,cG]
   exact⟨y,List.mem_of_getElem? hy,(h3 y (List.mem_of_getElem? hy)).base⟩
  ·obtain⟨d,hd,md⟩:=(h3 x hx).EH c cx e
   refine⟨d,?_,md⟩
   rw[(bg _).mem_iff,cG]
   exact⟨x,hx,hd⟩
theorem KB.congr: ∀{n:Nat} {k:aF} {b:Str} {ms:List Str},KB m n k b ms->(∀c∈ms,c≠b->m' c=m c)->KB m' n k b ms
 |0,_,_,_,h,_=>h.elim
 |n+1,.single c,_,_,h,_=>h
 |n+1,.group r l,b,_,⟨t,p,h1,h2,h3,h4,h5⟩,he=>by
  subst h4
  obtain⟨z,z1,z2⟩:=Option.map_eq_some_iff.mp h5
  have hs: ∀x∈t,∀c∈x.ms,c≠b->m' c=m c:=fun x hx c hc ne=>he c (by rw[(bg _).mem_iff,cG];exact⟨x,hx,hc⟩) ne
  have nb: ∀j x,t[j]? =some x->j≠p->b∉x.ms:=fun j x hj jp hb=>jp (fh h1.nd hj z1 hb (z2▸(h3 z (List.mem_of_getElem? z1)).base))
  refine⟨t,p,⟨h1.lead,h1.odd,h1.nd,h1.len,fun j x y a hj hx hy ha=>⟨fun o=> ?_,(h1.link j x y a hj hx hy ha).2⟩,h1.three⟩,h2,fun x hx=>(h3 x hx).congr fun c hc ne=> ?_,rfl,h5⟩
  ·obtain⟨e1,e2,e3⟩:=(h1.link j x y a hj hx hy ha).1 o
   have ol:=Ca h1.lead hj
   have odd:=h1.odd
   have o1:=HA h1.lead hj (by omega)
   have jx:j≠p:=fun e=>by rw[e,ym] at o;omega
   have jy:nx t.length j≠p:=fun e=>by rw[e,ym] at o1;omega
   have bx:=(h3 x (List.mem_of_getElem? hx)).base
   have by':=(h3 y (List.mem_of_getElem? hy)).base
   refine⟨e1,?_,?_⟩
   ·rw[hs x (List.mem_of_getElem? hx) _ bx fun e=>nb j x hx jx (e▸bx)];exact e2
   ·rw[hs y (List.mem_of_getElem? hy) _ by' fun e=>nb _ y hy jy (e▸by')];exact e3
  ·by_cases e:c=b
   ·obtain⟨j,hj⟩:=List.getElem?_of_mem hx
    by_cases jp:j=p
    ·subst jp
     rw[hj] at z1;cases z1
     exact absurd (e.trans z2.symm) ne
    ·exact absurd (e▸hc) (nb j x hj jp)
   ·exact hs x hx c hc e
end
end Sw
namespace Sw
open PySem PySem.Spec PyProof.Rows L2
def gK (u:Sd RV):aF:=match aC u.l "knot" with
 |some (.k x)=>x
 |_=>.single ""
def gB (u:Sd RV):Str:=match aC u.l "base" with
 |some (.s x)=>x
 |_=>""
def gM (u:Sd RV):List Str:=match aC u.l "all" with
 |some (.ls x)=>x
 |_=>[]
def kt (u:Sd RV):Kt:=⟨gK u,gB u,gM u⟩
def hf (ms:List Str):Nat:=(ms.length+1)/2
theorem v9: ∀{t:List (List Str)},(∀y∈t,1<=y.length)->t.length<=t.flatten.length
 | [],_=>Nat.le_refl _
 |y::t,h=>by
  rw[List.flatten_cons,List.length_append,List.length_cons]
  have:=h y List.mem_cons_self
  have:=v9 (t:=t) fun z hz=>h z (List.mem_cons_of_mem _ hz)
  omega
theorem yn {x:List Str}: ∀{t:List (List Str)},(∀y∈t,1<=y.length)->x∈t->x.length+t.length<=t.flatten.length+1
 |y::t,h,hx=>by
  rw[List.flatten_cons,List.length_append,List.length_cons]
  have h1:=h y List.mem_cons_self
  have h2:=v9 (t:=t) fun z hz=>h z (List.mem_cons_of_mem _ hz)
  rcases List.mem_cons.mp hx with rfl|hx
  ·omega
  ·have:=yn (t:=t) (fun z hz=>h z (List.mem_cons_of_mem _ hz)) hx
   omega
end Sw
namespace Sw
open PySem PySem.Spec PyProof.Rows L2
def Alt (X Y:SR):List Str->Prop
 | []=>True
 | [_]=>True
 |a::b::r=>X a b/\Alt Y X (b::r)
section
variable {X Y:SR}
theorem Alt.app: ∀(n:Nat) {r s:List Str} {a b:Str},r.length<=n->r.length%2=1->Alt X Y r->r.getLast? =some a->s.head? =some b->X a b->Alt Y X s->Alt X Y (r++s)
 |n,[],_,_,_,_,h,_,_,_,_,_=>by simp at h
 |n,[x],[],_,_,_,_,_,_,h,_,_=>by cases h
 |n,[x],y::s,a,b,_,_,_,h1,h2,h3,h4=>by cases h1;cases h2;exact⟨h3,h4⟩
 |n,[x,y],_,_,_,_,h,_,_,_,_,_=>by simp at h
 |0,x::y::z::r,_,_,_,h,_,_,_,_,_,_=>by simp at h
 |n+1,x::y::z::r,s,a,b,hn,ho,hr,h1,h2,h3,h4=>by
  refine⟨hr.1,hr.2.1,?_⟩
  exact Alt.app n (r:=z::r) (by simp at hn ⊢; omega) (by simp at ho ⊢; omega) hr.2.2 (by rw[<-h1];simp[List.getLast?_cons_cons]) h2 h3 h4
theorem Alt.rev (hX: ∀a b,X a b->X b a) (hY: ∀a b,Y a b->Y b a): ∀(n:Nat) {r:List Str},r.length<=n->r.length%2=1->Alt X Y r->Alt Y X r.reverse
 |n,[],_,h,_=>by simp at h
 |n,[x],_,_,_=>trivial
 |n,[x,y],_,h,_=>by simp at h
 |0,x::y::z::r,h,_,_=>by simp at h
 |n+1,x::y::z::r,hn,ho,hr=>by
  have ih:=Alt.rev hX hY n (r:=z::r) (by simp at hn ⊢; omega) (by simp at ho ⊢; omega) hr.2.2
  rw[show (x::y::z::r).reverse=(z::r).reverse++[y,x] by simp]
  exact Alt.app _ (Nat.le_refl _) (by simp at ho ⊢; omega) ih (a:=z) (by simp) (b:=y) rfl (hY _ _ hr.2.1) ⟨hX _ _ hr.1,trivial⟩
theorem Alt.at_: ∀{r:List Str},Alt X Y r-> ∀i (h:i+1<r.length),if i%2=0 then X (r[i]'(by omega)) r[i+1] else Y (r[i]'(by omega)) r[i+1]:=fun {r}=>by
 have key: ∀(r:List Str) (X Y:SR),Alt X Y r-> ∀i (h:i+1<r.length),(i%2=0->X (r[i]'(by omega)) r[i+1])/\(i%2=1->Y (r[i]'(by omega)) r[i+1]):=by
  intro r
  induction r with
  |nil=>intro X Y _ i h;simp at h
  |cons a r ih=>
   intro X Y hr i h
   cases r with
   |nil=>simp at h
   |cons b r=>
    cases i with
    |zero=>exact⟨fun _=>hr.1,fun e=>by omega⟩
    |succ i=>
     have:=ih Y X hr.2 i (by simpa using h)
     exact⟨fun e=>this.2 (by omega),fun e=>this.1 (by omega)⟩
 intro hr i h
 split
 ·rename_i e;exact (key r X Y hr i h).1 e
 ·exact (key r X Y hr i h).2 (by omega)
end
def E0 (m:Str->Option Str):SR:=fun a b=>m a=some b/\m b=some a
def E1 (m:Str->Option Str) (L:List (Str×Str)):SR:=fun a b=>((a,b)∈L\/(b,a)∈L)/\m a≠some b/\m b≠some a
theorem E0.symm {m:Str->Option Str} (a b:Str) (h:E0 m a b):E0 m b a:=⟨h.2,h.1⟩
theorem E1.symm {m:Str->Option Str} {L:List (Str×Str)} (a b:Str) (h:E1 m L a b):E1 m L b a:=⟨h.1.symm,h.2.2,h.2.1⟩
structure Led (m:Str->Option Str) (L:List (Str×Str)) (ms:List Str) (c b:Str) (row:List Str):Prop where
 odd:row.length%2=1
 head:row.head? =some c
 last:row.getLast? =some b
 nd:row.Nodup
 inn: ∀x∈row,x∈ms
 alt:Alt (E0 m) (E1 m L) row
structure Part (m:Str->Option Str) (L:List (Str×Str)) (t:List Kt) (w:Nat->Nat) (c:Str) (k:Nat) (row:List Str):Prop where
 odd:row.length%2=1
 head:row.head? =some c
 last: ∃x,t[w k]? =some x/\row.getLast? =some x.b
 nd:row.Nodup
 inn: ∀x∈row,∃j y,k<=j/\j<t.length/\t[w j]? =some y/\x∈y.ms
 alt:Alt (E0 m) (E1 m L) row
section
variable {m:Str->Option Str} {L:List (Str×Str)} {t:List Kt} {w:Nat->Nat} {c:Str} {k:Nat} {row r1 r2:List Str}
theorem Led.single (c:Str):Led m L [c] c c [c]:=⟨rfl,rfl,rfl,by simp,fun x h=>h,trivial⟩
theorem Part.step (nd:(t.map (·.ms)).flatten.Nodup) (wi: ∀i j,i<t.length->j<t.length->w i=w j->i=j) (hk:k+2<t.length) (h:Part m L t w c (k+2) row) {x y z:Kt} (hx:t[w (k+2)]? =some x) (hy:t[w (k+1)]? =some y) (hz:t[w k]? =some z) (e0:E0 m x.b y.b) {l e:Str} (e1:E1 m L l e) (h1:Led m L y.ms l y.b r1) (h2:Led m L z.ms e z.b r2):Part m L t w c k (row++r1.reverse++r2):=by
 have dis: ∀{i j:Nat} {u v:Kt},t[w i]? =some u->t[w j]? =some v->i<t.length->j<t.length-> ∀{a:Str},a∈u.ms->a∈v.ms->i=j:=fun {i j u v} hu hv hi hj {a} ha hb=>wi _ _ hi hj (fh nd hu hv ha hb)
 have o1:=h.odd
 have o2:=h1.odd
 have o3:=h2.odd
 have n0:row≠[]:=fun e=>by rw[e] at o1;simp at o1
 have n1:r1≠[]:=fun e=>by rw[e] at o2;simp at o2
 have n2:r2≠[]:=fun e=>by rw[e] at o3;simp at o3
 refine⟨by simp;omega,?_,⟨z,hz,?_⟩,?_,fun a ha=> ?_,?_⟩
 ·rw[List.append_assoc,List.head?_append,h.head];rfl
 ·rw[List.getLast?_append,h2.last];rfl
 ·rw[List.nodup_append,List.nodup_append]
  refine⟨⟨h.nd,(List.reverse_perm r1).nodup_iff.mpr h1.nd,fun a ha b hb e=> ?_⟩,h2.nd,fun a ha b hb e=> ?_⟩
  ·subst e
   obtain⟨j,v,j1,j2,j3,j4⟩:=h.inn a ha
   have:=dis j3 hy j2 (by omega) j4 (h1.inn a (List.mem_reverse.mp hb))
   omega
  ·subst e
   rcases List.mem_append.mp ha with ha|ha
   ·obtain⟨j,v,j1,j2,j3,j4⟩:=h.inn a ha
    have:=dis j3 hz j2 (by omega) j4 (h2.inn a hb)
    omega
   ·have:=dis hy hz (by omega) (by omega) (h1.inn a (List.mem_reverse.mp ha)) (h2.inn a hb)
    omega
 ·rcases List.mem_append.mp ha with ha|ha
  ·rcases List.mem_append.mp ha with ha|ha
   ·obtain⟨j,v,j1,j2,j3,j4⟩:=h.inn a ha
    exact⟨j,v,by omega,j2,j3,j4⟩
   ·exact⟨k+1,y,by omega,by omega,hy,h1.inn a (List.mem_reverse.mp ha)⟩
  ·exact⟨k,z,Nat.le_refl _,by omega,hz,h2.inn a ha⟩
 ·obtain⟨x',hx',lx⟩:=h.last
  rw[hx] at hx';cases hx'
  rw[List.append_assoc]
  refine Alt.app _ (Nat.le_refl _) o1 h.alt lx (b:=y.b) ?_ e0 ?_
  ·rw[List.head?_append,List.head?_reverse,h1.last];rfl
  ·exact Alt.app _ (Nat.le_refl _) (by rw[List.length_reverse];exact o2) (h1.alt.rev E0.symm E1.symm _ (Nat.le_refl _) o2) (a:=l) (by rw[List.getLast?_reverse];exact h1.head) h2.head e1 h2.alt
theorem Led.part (hk:k<t.length) {x:Kt} (hx:t[w k]? =some x) (h:Led m L x.ms c x.b row):Part m L t w c k row:=
 ⟨h.odd,h.head,⟨x,hx,h.last⟩,h.nd,fun a ha=>⟨k,x,Nat.le_refl _,hk,hx,h.inn a ha⟩,h.alt⟩
theorem Part.led {ms:List Str} {b:Str} (hm: ∀a,a∈ms↔ ∃x∈t,a∈x.ms) (hb:t[w 0]?.map (·.b)=some b) (h:Part m L t w c 0 row):Led m L ms c b row:=by
 obtain⟨x,hx,l⟩:=h.last
 rw[hx] at hb
 refine⟨h.odd,h.head,?_,h.nd,fun a ha=> ?_,h.alt⟩
 ·rw[l];exact hb
 ·obtain⟨j,v,_,_,j3,j4⟩:=h.inn a ha
  exact (hm a).mpr ⟨v,List.mem_of_getElem? j3,j4⟩
theorem ig.sx {p:Nat} {l:List (Str×Str)} (h:ig m t p l) {j:Nat} {x:Kt} (hj:t[j]? =some x) (hp:j≠p): ∃(i:Nat) (y:Kt),t[i]? =some y/\E0 m x.b y.b/\((off t.length p j%2=1/\i=nx t.length j)\/(off t.length p i%2=1/\j=nx t.length i)):=by
 have jl:j<t.length:=(List.getElem?_eq_some_iff.mp hj).1
 have pl:=h.lead
 by_cases o:off t.length p j%2=1
 ·obtain⟨x',y,a,e1,e2,e3⟩:=h.at_ jl
  rw[hj] at e1;cases e1
  exact⟨_,y,e2,((h.link j x y a jl hj e2 e3).1 o).2,.inl ⟨o,rfl⟩⟩
 ·have o0:0<off t.length p j:=by
   rcases Nat.eq_zero_or_pos (off t.length p j) with e|e
   ·exact absurd (DQ pl jl pl (e.trans (ym _ _).symm)) hp
   ·exact e
  obtain⟨i,hi,e⟩: ∃i,i<t.length/\nx t.length i=j:=by
   by_cases j0:j=0
   ·exact⟨t.length -1,by omega,by unfold nx;rw[if_pos (by omega)];exact j0.symm⟩
   ·exact⟨j -1,by omega,by unfold nx;rw[if_neg (by omega)];omega⟩
  have oi:off t.length p i+1=off t.length p j:=by
   subst e
   exact HB pl hi o0
  obtain⟨x',y,a,e1,e2,e3⟩:=h.at_ hi
  rw[e,hj] at e2;cases e2
  have q:=((h.link i x' x a hi e1 (e▸hj) e3).1 (by omega)).2
  exact⟨i,x',e1,⟨q.2,q.1⟩,.inr ⟨by omega,e.symm⟩⟩
theorem ig.AY {p n:Nat} {l:List (Str×Str)} (h:ig m t p l) (hk: ∀x∈t,KB m n x.k x.b x.ms) (hb: ∀x,t[p]? =some x->m x.b=none\/ ∃d,m x.b=some d/\ ∀y∈t,d∉y.ms) {i j:Nat} {x y:Kt} (hi:t[i]? =some x) (hj:t[j]? =some y) (ij:i≠j) {a c:Str} (ha:a∈x.ms) (hc:c∈y.ms) (e:m a=some c):(off t.length p i%2=1/\j=nx t.length i)\/(off t.length p j%2=1/\i=nx t.length j):=by
 have ab:a=x.b:=by
  refine Classical.byContradiction fun ne=> ?_
  obtain⟨d,hd,e2⟩:=(hk x (List.mem_of_getElem? hi)).EH a ha ne
  rw[e] at e2;cases e2
  exact ij (fh h.nd hi hj hd hc)
 subst ab
 by_cases ip:i=p
 ·subst ip
  rcases hb x hi with q|⟨d,q,hd⟩
  ·rw[e] at q;cases q
  ·rw[e] at q;cases q
   exact absurd hc (hd y (List.mem_of_getElem? hj))
 ·obtain⟨i',y',h1,h2,h3⟩:=h.sx hi ip
  rw[h2.1] at e;cases e
  have:=fh h.nd h1 hj (hk y' (List.mem_of_getElem? h1)).base hc
  subst this
  rcases h3 with ⟨a,b⟩|⟨a,b⟩
  ·exact .inl ⟨a,b⟩
  ·exact .inr ⟨a,b⟩
theorem ig.apart {p n:Nat} {l:List (Str×Str)} (h:ig m t p l) (h3:3<=t.length) (hk: ∀x∈t,KB m n x.k x.b x.ms) (hb: ∀x,t[p]? =some x->m x.b=none\/ ∃d,m x.b=some d/\ ∀y∈t,d∉y.ms) {j:Nat} (jl:j<t.length) (o:off t.length p j%2=0) {x y:Kt} (hx:t[j]? =some x) (hy:t[nx t.length j]? =some y) {q:Str×Str} (hq:l[j]? =some q) (hL:q∈L):E1 m L q.1 q.2/\q.1∈x.ms/\q.2∈y.ms:=by
 obtain⟨_,q1,q2⟩:=h.link j x y q jl hx hy hq
 have nn:j≠nx t.length j:=by
  unfold nx;split <;> omega
 have n2:j≠nx t.length (nx t.length j):=by
  by_cases e:j+1=t.length
  ·rw[Hz e,zt (by omega)];omega
  ·rw[zt e]
   by_cases e2:j+1+1=t.length
   ·rw[Hz e2];omega
   ·rw[zt e2];omega
 refine⟨⟨.inl hL,fun e=> ?_,fun e=> ?_⟩,q1,q2⟩
 ·rcases h.AY hk hb hx hy nn q1 q2 e with ⟨a,_⟩|⟨a,b⟩
  ·omega
  ·exact n2 b
 ·rcases h.AY hk hb hy hx (Ne.symm nn) q2 q1 e with ⟨a,b⟩|⟨a,_⟩
  ·exact n2 b
  ·omega
end
end Sw
namespace Sw
open PySem PySem.Spec PyProof.Rows L2
section
variable {m m':Str->Option Str} {n:Nat} {k:aF} {b c:Str} {ms:List Str}
theorem KB.sx: ∀{n:Nat} {k:aF} {b:Str} {ms:List Str},KB m n k b ms-> ∀c∈ms,c≠b-> ∃d∈ms,d≠b/\m c=some d
 |0,_,_,_,h,_,_,_=>h.elim
 |n+1,.single c,_,_,h,d,hd,ne=>by
  rw[h.2] at hd
  exact absurd ((List.mem_singleton.mp hd).trans h.1.symm) ne
 |n+1,.group r l,b,_,⟨t,p,h1,h2,h3,h4,h5⟩,c,hc,ne=>by
  subst h4
  rw[(bg _).mem_iff,cG] at hc
  obtain⟨x,hx,cx⟩:=hc
  obtain⟨j,hj⟩:=List.getElem?_of_mem hx
  obtain⟨z,z1,z2⟩:=Option.map_eq_some_iff.mp h5
  have bz:b∈z.ms:=z2▸(h3 z (List.mem_of_getElem? z1)).base
  by_cases e:c=x.b
  ·have jp:j≠p:=fun e2=>ne (by
    subst e2
    rw[hj] at h5
    exact e.trans (Option.some.inj h5))
   obtain⟨i,y,hy,my,hr⟩:=h1.sx hj jp
   have by':=(h3 y (List.mem_of_getElem? hy)).base
   refine⟨y.b,?_,fun e2=> ?_,e▸my.1⟩
   ·rw[(bg _).mem_iff,cG]
    exact⟨y,List.mem_of_getElem? hy,by'⟩
   ·have ip:=fh h1.nd hy z1 by' (e2▸bz)
    subst ip
    have jl:=(List.getElem?_eq_some_iff.mp hj).1
    have pl:=h1.lead
    rcases hr with ⟨o,e3⟩|⟨o,e3⟩
    ·have:=Ca pl jl
     have odd:=h1.odd
     have o2:=HA pl jl (by omega)
     rw[<-e3,ym] at o2;omega
    ·rw[ym] at o;omega
  ·obtain⟨d,hd,d1,md⟩:=(h3 x hx).sx c cx e
   refine⟨d,?_,fun e2=> ?_,md⟩
   ·rw[(bg _).mem_iff,cG]
    exact⟨x,hx,hd⟩
   ·have jp:=fh h1.nd hj z1 hd (e2▸bz)
    subst jp
    rw[hj] at z1;cases z1
    exact d1 (e2.trans z2.symm)
end
structure ik (ns:List Str) (L:List (Str×Str)) (M:Str->Option Str):Prop where
 sym: ∀a b,M a=some b->M b=some a
 inn: ∀a b,M a=some b->a∈ns
 edge: ∀a b,M a=some b->(a,b)∈L
theorem ik.inj {ns:List Str} {L:List (Str×Str)} {M:Str->Option Str} (h:ik ns L M) {a b c:Str} (h1:M a=some c) (h2:M b=some c):a=b:=by
 have e1:=h.sym _ _ h1
 rw[h.sym _ _ h2] at e1
 exact (Option.some.inj e1).symm
def nmK (x:Kt):Str:=x.ms.headD ""
structure fC (ns:List Str) (L:List (Str×Str)) (M:Str->Option Str) (ks:List Kt):Prop where
 perm:(ks.map (·.ms)).flatten.Perm ns
 kb: ∀x∈ks,KB M (hf x.ms) x.k x.b x.ms
 kl: ∀x∈ks,KL L (hf x.ms) x.k
section
variable {ns:List Str} {L:List (Str×Str)} {M:Str->Option Str} {ks:List Kt} {x y z:Kt} {a c d:Str}
theorem fC.nd (h:fC ns L M ks) (hn:ns.Nodup):(ks.map (·.ms)).flatten.Nodup:=h.perm.nodup_iff.mpr hn
theorem fC.one (h:fC ns L M ks) (hn:ns.Nodup) (hx:x∈ks) (hy:y∈ks) (h1:c∈x.ms) (h2:c∈y.ms):x=y:=by
 obtain⟨i,hi⟩:=List.getElem?_of_mem hx
 obtain⟨j,hj⟩:=List.getElem?_of_mem hy
 have:=fh (h.nd hn) hi hj h1 h2
 subst this
 rw[hi] at hj
 exact Option.some.inj hj
theorem fC.has (h:fC ns L M ks) (hc:c∈ns): ∃x∈ks,c∈x.ms:=cG.mp (h.perm.mem_iff.mpr hc)
theorem fC.inn (h:fC ns L M ks) (hx:x∈ks) (hc:c∈x.ms):c∈ns:=h.perm.mem_iff.mp (cG.mpr ⟨x,hx,hc⟩)
theorem Mi {m:Str->Option Str} {n:Nat} {k:aF} {b:Str} {ms:List Str} (h:KB m n k b ms):ms.headD "" ∈ms:=by
 have:=h.base
 cases ms with
 |nil=>cases this
 |cons a r=>exact List.mem_cons_self
theorem fC.nm (h:fC ns L M ks) (hx:x∈ks):nmK x∈x.ms:=Mi (h.kb x hx)
theorem fC.Mj (h:fC ns L M ks) (hn:ns.Nodup) (hx:x∈ks) (hy:y∈ks) (e:nmK x=nmK y):x=y:=h.one hn hx hy (h.nm hx) (e▸h.nm hy)
theorem fC.DR (h:fC ns L M ks) (hn:ns.Nodup) (hx:x∈ks) (hy:y∈ks) (e:x.b=y.b):x=y:=h.one hn hx hy (h.kb x hx).base (e▸(h.kb y hy).base)
theorem fC.AY (h:fC ns L M ks) (hn:ns.Nodup) (hM:ik ns L M) (hx:x∈ks) (hy:y∈ks) (ne:x≠y) (ha:a∈x.ms) (hc:c∈y.ms) (e:M a=some c):a=x.b/\c=y.b:=by
 constructor
 ·refine Classical.byContradiction fun q=> ?_
  obtain⟨d,hd,_,e2⟩:=(h.kb x hx).sx a ha q
  rw[e] at e2;cases e2
  exact ne (h.one hn hx hy hd hc)
 ·refine Classical.byContradiction fun q=> ?_
  obtain⟨d,hd,_,e2⟩:=(h.kb y hy).sx c hc q
  rw[hM.sym _ _ e] at e2;cases e2
  exact ne (h.one hn hx hy ha hd)
theorem fC.out (h:fC ns L M ks) (hn:ns.Nodup) (hM:ik ns L M) (hx:x∈ks) (e:M x.b=some d) (irr: ∀a,M a≠some a): ∃y∈ks,y≠x/\d=y.b:=by
 obtain⟨y,hy,hd⟩:=h.has (hM.inn _ _ (hM.sym _ _ e))
 have ne:y≠x:=fun q=>by
  subst q
  have:d≠y.b:=fun z=>irr _ (z▸e)
  obtain⟨g,hg,g2,e2⟩:=(h.kb y hy).sx d hd this
  rw[hM.sym _ _ e] at e2;cases e2
  exact g2 rfl
 exact⟨y,hy,ne,(h.AY hn hM hx hy (Ne.symm ne) (h.kb x hx).base hd e).2⟩
theorem fC.len (h:fC ns L M ks) (hx:x∈ks):x.ms.length<=ns.length:=by
 have:=lq (h.kb x hx).nodup fun a ha=>h.inn hx ha
 exact this
end
structure SI (ns:List Str) (L:List (Str×Str)) (o:a9) (ks:List Kt) (lv:Str->Nat) (rt:Str->Str):Prop where
 tops:fC ns L (aC o.mates.l) ks
 top: ∀x∈ks,∀c∈x.ms,aC o.top.l c=some x.k
 tk:(o.top.l.map (·.1)).Perm ns
 rk: ∀n r,aC o.roots.l n=some r-> ∃z∈ks,nmK z=n/\r=rt n
 ok: ∀n q,aC o.reached.l n=some q-> ∃x∈ks,nmK x=n
 rnd:(o.roots.l.map (·.1)).Nodup
 ond:(o.reached.l.map (·.1)).Nodup
 HD: ∀z∈ks,(aC o.roots.l (nmK z)).isSome=true->(aC o.mates.l z.b=none/\rt (nmK z)=z.b)\/ ∃x∈ks,aC o.mates.l z.b=some x.b/\(aC o.reached.l (nmK x)).isSome=true
 odd: ∀x∈ks,∀q,aC o.reached.l (nmK x)=some q->aC o.roots.l (nmK x)=none/\q.2∈x.ms/\(q.1,q.2)∈L/\ ∃y∈ks,q.1∈y.ms/\(aC o.roots.l (nmK y)).isSome=true/\lv (nmK y)<lv (nmK x)/\rt (nmK y)=rt (nmK x)/\ ∃z∈ks,aC o.mates.l x.b=some z.b/\(aC o.roots.l (nmK z)).isSome=true/\lv (nmK x)<lv (nmK z)/\rt (nmK x)=rt (nmK z)
 wt: ∀c,c∈o.waiting↔ ∃z∈ks,c∈z.ms/\(aC o.roots.l (nmK z)).isSome=true
 wnd:o.waiting.Nodup
structure Gr (ns:List Str) (L:List (Str×Str)) (M:Str->Option Str):Prop where
 nd:ns.Nodup
 len:ns.length<=20
 sym: ∀a b,(a,b)∈L->(b,a)∈L
 irr: ∀a,(a,a)∉L
 inn: ∀a b,(a,b)∈L->a∈ns
 mates:ik ns L M
end Sw
namespace Sw
open PySem PySem.Spec PyProof.Rows L2
inductive LC (M:Str->Option Str):Bool->Kt->List Kt->List (Str×Str)->Kt->Prop where
 |nil {p a}:LC M p a [] [] a
 |step {p a c e q cs ls}:q.1∈a.ms->q.2∈c.ms->(p=true->q=(a.b,c.b)/\M a.b=some c.b/\M c.b=some a.b)->LC M (!p) c cs ls e->LC M p a (c::cs) (q::ls) e
section
variable {M:Str->Option Str}
theorem LC.app: ∀{p a cs ls e ds ms f},LC M p a cs ls e->ls.length%2=0->LC M p e ds ms f->LC M p a (cs++ds) (ls++ms) f
 |_,_,_,_,_,_,_,_,.nil,_,h=>h
 |_,_,_,_,_,_,_,_,.step _ _ _ .nil,hl,_=>by simp at hl
 |p,_,_,_,_,_,_,_,.step a1 a2 a3 (.step b1 b2 b3 r),hl,h=>.step a1 a2 a3 (.step b1 b2 b3 (by
   have:=LC.app (p:= !!p) r (by simp at hl;omega) (by rw[Bool.not_not];exact h)
   exact this))
theorem LC.at_: ∀{p a cs ls e},LC M p a cs ls e->cs.length=ls.length/\ ∀j q,ls[j]? =some q-> ∃x y,(a::cs)[j]? =some x/\(a::cs)[j+1]? =some y/\q.1∈x.ms/\q.2∈y.ms/\((decide (j%2=1)= !p)->q=(x.b,y.b)/\M x.b=some y.b/\M y.b=some x.b)
 |_,_,_,_,_,.nil=>⟨rfl,fun j q h=>by simp at h⟩
 |p,a,_,_,_,.step (c:=c) (q:=q0) a1 a2 a3 r=>by
  obtain⟨h1,h2⟩:=r.at_
  refine⟨congrArg (· +1) h1,fun j q h=> ?_⟩
  cases j with
  |zero=>
   cases h
   exact⟨a,c,rfl,rfl,a1,a2,fun e=>a3 (by cases p <;> simp at e⊢)⟩
  |succ j=>
   obtain⟨x,y,e1,e2,e3,e4,e5⟩:=h2 j q h
   refine⟨x,y,e1,e2,e3,e4,fun e=>e5 ?_⟩
   cases p <;> simp at e⊢ <;> omega
theorem LC.ring {w:Kt} {ts:List Kt} {ls:List (Str×Str)} (h:LC M false w (ts++[w]) ls w) (ho:ts.length%2=0) (nd:((w::ts).map (·.ms)).flatten.Nodup) (h3:3<=(w::ts).length):ig M (w::ts) 0 ls:=by
 obtain⟨h1,h2⟩:=h.at_
 rw[List.length_append,List.length_singleton] at h1
 refine⟨by simp,by simp;omega,nd,by simp;omega,fun j x y a hj hx hy ha=> ?_,h3⟩
 obtain⟨x',y',e1,e2,e3,e4,e5⟩:=h2 j a ha
 simp only[List.length_cons] at hj hx hy⊢
 have ex:x'=x:=by
  rw[<-List.cons_append,List.getElem?_append_left (by simpa using hj),hx] at e1
  exact (Option.some.inj e1).symm
 have ey:y'=y:=by
  by_cases q:j+1=ts.length+1
  ·rw[Hz q] at hy
   rw[<-List.cons_append,List.getElem?_append_right (by simp;omega)] at e2
   rw[show j+1 -(w::ts).length=0 by simp;omega] at e2
   cases hy;cases e2;rfl
  ·rw[zt q] at hy
   rw[<-List.cons_append,List.getElem?_append_left (by simp;omega),hy] at e2
   exact (Option.some.inj e2).symm
 subst ex;subst ey
 refine⟨fun o=>e5 ?_,e3,e4⟩
 rw[iP (Nat.zero_le _),Nat.sub_zero] at o
 simp[o]
end
structure Stq where
 x:Kt
 one:Str
 other:Str
 y:Kt
inductive Pth (M:Str->Option Str) (o:a9) (ks:List Kt):Kt->List Stq->Kt->Prop where
 |nil {z}:z∈ks->Pth M o ks z [] z
 |cons {z s r w}:z∈ks->s.x∈ks->M z.b=some s.x.b->aC o.reached.l (nmK s.x)=some (s.one,s.other)->s.other∈s.x.ms->s.one∈s.y.ms->Pth M o ks s.y r w->Pth M o ks z (s::r) w
def kn (z:Kt):List Stq->List Kt
 | []=>[]
 |s::r=>z::s.x::kn s.y r
def ln (z:Kt):List Stq->List (Str×Str)
 | []=>[]
 |s::r=>(z.b,s.x.b)::(s.other,s.one)::ln s.y r
def fw:List Stq->List Kt
 | []=>[]
 |s::r=>s.x::s.y::fw r
def evs (z:Kt):List Stq->List Kt
 | []=>[z]
 |s::r=>z::evs s.y r
section
variable {M:Str->Option Str} {o:a9} {ks:List Kt} {z w:Kt} {ss:List Stq}
theorem N7: ∀{z ss w},Pth M o ks z ss w->kn z ss++[w]=z::fw ss
 |_,_,_,.nil _=>rfl
 |_,_,_,.cons _ _ _ _ _ _ r=>by
  show _::_::(kn _ _++[_])=_
  rw[N7 r];rfl
theorem Cb: ∀(z:Kt) (ss:List Stq),(kn z ss).length=2*ss.length
 |_,[]=>rfl
 |z,s::r=>by
  show (kn s.y r).length+2=_
  rw[Cb,List.length_cons];omega
theorem HE: ∀(z:Kt) (ss:List Stq),(ln z ss).length=2*ss.length
 |_,[]=>rfl
 |z,s::r=>by
  show (ln s.y r).length+2=_
  rw[HE,List.length_cons];omega
theorem Pth.zk: ∀{z ss w},Pth M o ks z ss w->z∈ks
 |_,_,_,.nil h=>h
 |_,_,_,.cons h _ _ _ _ _ _=>h
theorem Pth.wk: ∀{z ss w},Pth M o ks z ss w->w∈ks
 |_,_,_,.nil h=>h
 |_,_,_,.cons _ _ _ _ _ _ r=>r.wk
theorem Pth.lc {ns:List Str} {L:List (Str×Str)} (hT:fC ns L M ks) (hs: ∀a b,M a=some b->M b=some a): ∀{z ss w},Pth M o ks z ss w->LC M true z (fw ss) (ln z ss) w
 |_,_,_,.nil _=>.nil
 |_,_,_,.cons h1 h2 h3 h4 h5 h6 r=>.step (hT.kb _ h1).base (hT.kb _ h2).base (fun _=>⟨rfl,h3,hs _ _ h3⟩) (.step h5 h6 (fun e=>by cases e) (by
   have:=Pth.lc hT hs r
   exact this))
theorem Pth.cl {ns:List Str} {L:List (Str×Str)} (hT:fC ns L M ks) (hs: ∀a b,M a=some b->M b=some a): ∀{z ss w},Pth M o ks z ss w->LC M false w (kn z ss).reverse ((ln z ss).reverse.map fun q=>(q.2,q.1)) z
 |_,_,_,.nil _=>.nil
 |z,s::r,w,.cons h1 h2 h3 h4 h5 h6 r'=>by
  have ih:=Pth.cl hT hs r'
  have e1:(kn z (s::r)).reverse=(kn s.y r).reverse++[s.x,z]:=by
   show (z::s.x::kn s.y r).reverse=_
   simp
  have e2:((ln z (s::r)).reverse.map fun q=>(q.2,q.1))=((ln s.y r).reverse.map fun q=>(q.2,q.1))++[(s.one,s.other),(s.x.b,z.b)]:=by
   show ((((z.b,s.x.b)::(s.other,s.one)::ln s.y r).reverse).map fun q=>(q.2,q.1))=_
   simp
  rw[e1,e2]
  refine LC.app ih (by rw[List.length_map,List.length_reverse,HE];omega) ?_
  exact .step h6 h5 (fun e=>by cases e) (.step (hT.kb _ h2).base (hT.kb _ h1).base (fun _=>⟨rfl,hs _ _ h3,h3⟩) .nil)
end
end Sw
namespace Sw
open PySem PySem.Spec PyProof.Rows L2
def EvK (o:a9) (z:Kt):Prop:=(aC o.roots.l (nmK z)).isSome=true
section
variable {ns:List Str} {L:List (Str×Str)} {o:a9} {ks:List Kt} {lv:Str->Nat} {rt:Str->Str} {z w x y:Kt}
structure UpS (L:List (Str×Str)) (o:a9) (ks:List Kt) (lv:Str->Nat) (rt:Str->Str) (z:Kt) (s:Stq):Prop where
 xk:s.x∈ks
 yk:s.y∈ks
 mz:aC o.mates.l z.b=some s.x.b
 rd:aC o.reached.l (nmK s.x)=some (s.one,s.other)
 ot:s.other∈s.x.ms
 on:s.one∈s.y.ms
 ed:(s.one,s.other)∈L
 ny:aC o.roots.l (nmK s.x)=none
 ey:EvK o s.y
 l1:lv (nmK s.y)<lv (nmK s.x)
 l2:lv (nmK s.x)<lv (nmK z)
 r1:rt (nmK s.y)=rt (nmK z)
 r2:rt (nmK s.x)=rt (nmK z)
theorem SI.up (h:SI ns L o ks lv rt) (g:Gr ns L (aC o.mates.l)) (hz:z∈ks) (ez:EvK o z):(aC o.mates.l z.b=none/\rt (nmK z)=z.b)\/ ∃s,UpS L o ks lv rt z s:=by
 rcases h.HD z hz ez with a|⟨x,hx,mx,ox⟩
 ·exact .inl a
 ·obtain⟨q,hq⟩:=Option.isSome_iff_exists.mp ox
  obtain⟨h1,h2,h3,y,hy,h4,h5,h6,h7,z',hz',h8,h9,h10,h11⟩:=h.odd x hx q hq
  have e:=g.mates.sym _ _ mx
  rw[h8] at e
  have:=h.tops.DR g.nd hz' hz (Option.some.inj e)
  subst this
  exact .inr ⟨⟨x,q.1,q.2,y⟩,hx,hy,mx,hq,h2,h4,h3,h1,h5,h6,h10,h7.trans h11,h11⟩
end
inductive mS (L:List (Str×Str)) (o:a9) (ks:List Kt) (lv:Str->Nat) (rt:Str->Str):Kt->List Stq->Kt->Prop where
 |nil {z}:z∈ks->EvK o z->mS L o ks lv rt z [] z
 |cons {z s r w}:z∈ks->EvK o z->UpS L o ks lv rt z s->mS L o ks lv rt s.y r w->mS L o ks lv rt z (s::r) w
section
variable {ns:List Str} {L:List (Str×Str)} {o:a9} {ks:List Kt} {lv:Str->Nat} {rt:Str->Str} {z w x y:Kt}
theorem mS.pth: ∀{z ss w},mS L o ks lv rt z ss w->Pth (aC o.mates.l) o ks z ss w
 |_,_,_,.nil h _=>.nil h
 |_,_,_,.cons h _ u r=>.cons h u.xk u.mz u.rd u.ot u.on r.pth
theorem mS.zk: ∀{z ss w},mS L o ks lv rt z ss w->z∈ks/\EvK o z
 |_,_,_,.nil h e=>⟨h,e⟩
 |_,_,_,.cons h e _ _=>⟨h,e⟩
theorem mS.wk: ∀{z ss w},mS L o ks lv rt z ss w->w∈ks/\EvK o w/\rt (nmK w)=rt (nmK z)/\lv (nmK w)<=lv (nmK z)
 |_,_,_,.nil h e=>⟨h,e,rfl,Nat.le_refl _⟩
 |_,_,_,.cons h e u r=>by
  obtain⟨a,b,c,d⟩:=r.wk
  exact⟨a,b,c.trans u.r1,by have:=u.l1;have:=u.l2;omega⟩
def ek (z:Kt):List Stq->List Kt
 | []=>[]
 |s::r=>z::ek s.y r
theorem we: ∀{z ss w},mS L o ks lv rt z ss w-> ∀v∈ek z ss,v∈ks/\EvK o v/\lv (nmK w)<lv (nmK v)/\ ∃x∈kn z ss,aC o.mates.l v.b=some x.b
 |_,_,_,.nil _ _,v,hv=>by cases hv
 |z,s::r,w,.cons h e u p,v,hv=>by
  rcases List.mem_cons.mp hv with rfl|hv
  ·exact⟨h,e,by have:=p.wk.2.2.2;have:=u.l1;have:=u.l2;omega,s.x,List.mem_cons_of_mem _ List.mem_cons_self,u.mz⟩
  ·obtain⟨a,b,c,x,d,f⟩:=we p v hv
   exact⟨a,b,c,x,List.mem_cons_of_mem _ (List.mem_cons_of_mem _ d),f⟩
theorem Cc: ∀{z ss w},mS L o ks lv rt z ss w-> ∀v∈kn z ss,v∈ks/\rt (nmK v)=rt (nmK z)/\lv (nmK w)<lv (nmK v)/\lv (nmK v)<=lv (nmK z)/\((v∈ek z ss/\EvK o v)\/(aC o.roots.l (nmK v)=none/\(aC o.reached.l (nmK v)).isSome=true/\ ∃u∈ek z ss,aC o.mates.l u.b=some v.b))
 |_,_,_,.nil _ _,v,hv=>by cases hv
 |z,s::r,w,.cons h e u p,v,hv=>by
  have hw:=p.wk.2.2.2
  have a1:=u.l1
  have a2:=u.l2
  rcases List.mem_cons.mp hv with rfl|hv
  ·exact⟨h,rfl,by omega,Nat.le_refl _,.inl ⟨List.mem_cons_self,e⟩⟩
  ·rcases List.mem_cons.mp hv with rfl|hv
   ·exact⟨u.xk,u.r2,by omega,by omega,.inr ⟨u.ny,by rw[u.rd];rfl,z,List.mem_cons_self,u.mz⟩⟩
   ·obtain⟨b1,b2,b3,b4,b5⟩:=Cc p v hv
    refine⟨b1,b2.trans u.r1,b3,by omega,?_⟩
    rcases b5 with ⟨c1,c2⟩|⟨c1,c2,q,c3,c4⟩
    ·exact .inl ⟨List.mem_cons_of_mem _ c1,c2⟩
    ·exact .inr ⟨c1,c2,q,List.mem_cons_of_mem _ c3,c4⟩
theorem mS.links (g:Gr ns L (aC o.mates.l)): ∀{z ss w},mS L o ks lv rt z ss w-> ∀q∈ln z ss,q∈L
 |_,_,_,.nil _ _,q,hq=>by cases hq
 |z,s::r,w,.cons h e u p,q,hq=>by
  rcases List.mem_cons.mp hq with rfl|hq
  ·exact g.mates.edge _ _ u.mz
  ·rcases List.mem_cons.mp hq with rfl|hq
   ·exact g.sym _ _ u.ed
   ·exact p.links g q hq
theorem mS.first (P:Kt->Prop): ∀{z ss w},mS L o ks lv rt z ss w->(∃v∈evs z ss,P v)-> ∃s1 v,mS L o ks lv rt z s1 v/\P v/\(∀u∈ek z s1,¬P u)/\ ∃post,evs z ss=ek z s1++v::post
 |z,_,_,.nil h e,⟨v,hv,pv⟩=>by
  rw[List.mem_singleton.mp hv] at pv
  exact⟨[],z,.nil h e,pv,(fun u hu=>by cases (show u∈([]:List Kt) from hu)),[],rfl⟩
 |z,s::r,w,.cons h e u p,⟨v,hv,pv⟩=>by
  rcases Classical.em (P z) with q|q
  ·exact⟨[],z,.nil h e,q,(fun u hu=>by cases (show u∈([]:List Kt) from hu)),evs s.y r,rfl⟩
  ·rcases List.mem_cons.mp hv with rfl|hv
   ·exact absurd pv q
   ·obtain⟨s1,v1,p1,h1,h2,post,h3⟩:=mS.first P p ⟨v,hv,pv⟩
    refine⟨s::s1,v1,.cons h e u p1,h1,fun u' hu=> ?_,post,?_⟩
    ·rcases List.mem_cons.mp hu with rfl|hu
     ·exact q
     ·exact h2 u' hu
    ·show z::evs s.y r=z::(ek s.y s1++v1::post)
     rw[h3]
end
structure WP (L:List (Str×Str)) (o:a9) (ks:List Kt) (lv:Str->Nat) (rt:Str->Str) (c:Str) (z:Kt) (row:List Str):Prop where
 zk:z∈ks
 ez:EvK o z
 odd:row.length%2=1
 head:row.head? =some c
 last:row.getLast? =some z.b
 nd:row.Nodup
 inn: ∀a∈row,∃v∈ks,a∈v.ms/\lv (nmK z)<=lv (nmK v)/\rt (nmK v)=rt (nmK z)/\(EvK o v\/(aC o.reached.l (nmK v)).isSome=true)
 alt:Alt (E0 (aC o.mates.l)) (E1 (aC o.mates.l) L) row
section
variable {ns:List Str} {L:List (Str×Str)} {o:a9} {ks:List Kt} {lv:Str->Nat} {rt:Str->Str} {z w x y:Kt} {c:Str} {row r1 r2:List Str}
theorem WP.start (hz:z∈ks) (ez:EvK o z) (h:Led (aC o.mates.l) L z.ms c z.b row):WP L o ks lv rt c z row:=
 ⟨hz,ez,h.odd,h.head,h.last,h.nd,fun a ha=>⟨z,hz,h.inn a ha,Nat.le_refl _,rfl,.inl ez⟩,h.alt⟩
theorem UpS.e1 (h:SI ns L o ks lv rt) (g:Gr ns L (aC o.mates.l)) (hz:z∈ks) {s:Stq} (u:UpS L o ks lv rt z s):E1 (aC o.mates.l) L s.other s.one:=by
 have xy:s.x≠s.y:=fun e=>by
  have:=u.l1
  rw[e] at this;omega
 have key:aC o.mates.l s.other≠some s.one:=fun e=>by
  obtain⟨e1,e2⟩:=h.tops.AY g.nd g.mates u.xk u.yk xy u.ot u.on e
  rw[e1,e2] at e
  have e3:=g.mates.sym _ _ u.mz
  rw[e] at e3
  have:=h.tops.DR g.nd u.yk hz (Option.some.inj e3)
  have a1:=u.l1
  have a2:=u.l2
  rw[this] at a1;omega
 exact⟨.inr u.ed,key,fun e=>key (g.mates.sym _ _ e)⟩
theorem WP.step (h:SI ns L o ks lv rt) (g:Gr ns L (aC o.mates.l)) (hw:WP L o ks lv rt c z row) {s:Stq} (u:UpS L o ks lv rt z s) (h1:Led (aC o.mates.l) L s.x.ms s.other s.x.b r1) (h2:Led (aC o.mates.l) L s.y.ms s.one s.y.b r2):WP L o ks lv rt c s.y (row++r1.reverse++r2):=by
 have a1:=u.l1
 have a2:=u.l2
 have o1:=hw.odd
 have o2:=h1.odd
 have o3:=h2.odd
 have dis: ∀{u' v:Kt},u'∈ks->v∈ks-> ∀{a:Str},a∈u'.ms->a∈v.ms->u'=v:=fun {u' v} hu hv {a} ha hb=>h.tops.one g.nd hu hv ha hb
 refine⟨u.yk,u.ey,by simp;omega,?_,?_,?_,fun a ha=> ?_,?_⟩
 ·rw[List.append_assoc,List.head?_append,hw.head];rfl
 ·rw[List.getLast?_append,h2.last];rfl
 ·rw[List.nodup_append,List.nodup_append]
  refine⟨⟨hw.nd,(List.reverse_perm r1).nodup_iff.mpr h1.nd,fun a ha b hb e=> ?_⟩,h2.nd,fun a ha b hb e=> ?_⟩
  ·subst e
   obtain⟨v,v1,v2,v3,v4⟩:=hw.inn a ha
   have:=dis v1 u.xk v2 (h1.inn a (List.mem_reverse.mp hb))
   subst this
   omega
  ·subst e
   rcases List.mem_append.mp ha with ha|ha
   ·obtain⟨v,v1,v2,v3,v4⟩:=hw.inn a ha
    have:=dis v1 u.yk v2 (h2.inn a hb)
    subst this
    omega
   ·have:=dis u.xk u.yk (h1.inn a (List.mem_reverse.mp ha)) (h2.inn a hb)
    rw[this] at a1;omega
 ·rcases List.mem_append.mp ha with ha|ha
  ·rcases List.mem_append.mp ha with ha|ha
   ·obtain⟨v,v1,v2,v3,v4⟩:=hw.inn a ha
    exact⟨v,v1,v2,by omega,v4.1.trans u.r1.symm,v4.2⟩
   ·exact⟨s.x,u.xk,h1.inn a (List.mem_reverse.mp ha),by omega,u.r2.trans u.r1.symm,.inr (by rw[u.rd];rfl)⟩
  ·exact⟨s.y,u.yk,h2.inn a ha,Nat.le_refl _,rfl,.inl u.ey⟩
 ·rw[List.append_assoc]
  refine Alt.app _ (Nat.le_refl _) o1 hw.alt hw.last (b:=s.x.b) ?_ ⟨u.mz,g.mates.sym _ _ u.mz⟩ ?_
  ·rw[List.head?_append,List.head?_reverse,h1.last];rfl
  ·exact Alt.app _ (Nat.le_refl _) (by rw[List.length_reverse];exact o2) (h1.alt.rev E0.symm E1.symm _ (Nat.le_refl _) o2) (a:=s.other) (by rw[List.getLast?_reverse];exact h1.head) h2.head (u.e1 h g hw.zk) h2.alt
theorem WP.len (h:SI ns L o ks lv rt) (hw:WP L o ks lv rt c z row):row.length<=ns.length:=lq hw.nd fun a ha=>by
 obtain⟨v,v1,v2,_⟩:=hw.inn a ha
 exact h.tops.inn v1 v2
end
end Sw
namespace Sw
open PySem PySem.Spec PyProof.Rows L2
theorem HF {κ α:Type} [DecidableEq κ] {k:κ} {x:α} {l:List (κ×α)} (h:(l.map (·.1)).Nodup):((aM l k x).map (·.1)).Nodup:=by
 by_cases q:k∈l.map (·.1)
 ·rw[dq q];exact h
 ·rw[w6 q]
  exact List.nodup_append.mpr ⟨h,by simp,fun a ha b hb e=>q (by rw[List.mem_singleton.mp hb] at e;exact e▸ha)⟩
def Ml (o:a9) (n:Str) (ms:List Str) (r:Str):a9:={o with roots:=⟨aM o.roots.l n r⟩,waiting:=o.waiting++ms.filter fun c=> !decide (c∈o.waiting)}
section
variable {ns:List Str} {L:List (Str×Str)} {o:a9} {ks:List Kt} {lv:Str->Nat} {rt:Str->Str} {z w x y:Kt} {one other:Str}
theorem HG {ws ms:List Str} {c:Str}:c∈ws++ms.filter (fun c=> !decide (c∈ws))↔c∈ws\/c∈ms:=by
 rw[List.mem_append,List.mem_filter]
 by_cases h:c∈ws <;> simp[h]
theorem JX {ws ms:List Str} (h1:ws.Nodup) (h2:ms.Nodup):(ws++ms.filter (fun c=> !decide (c∈ws))).Nodup:=List.nodup_append.mpr ⟨h1,h2.filter _,fun a ha b hb e=>by
 have:=(List.mem_filter.mp hb).2
 subst e
 simp[ha] at this⟩
theorem SI.root (h:SI ns L o ks lv rt) (g:Gr ns L (aC o.mates.l)) (hz:z∈ks) (nz:aC o.roots.l (nmK z)=none) (oz:aC o.reached.l (nmK z)=none) (mz:aC o.mates.l z.b=none):
  ∃lv' rt',SI ns L (Ml o (nmK z) z.ms z.b) ks lv' rt':=by
 have inj: ∀{u v:Kt},u∈ks->v∈ks->nmK u=nmK v->u=v:=fun hu hv e=>h.tops.Mj g.nd hu hv e
 have rg: ∀n,aC (aM o.roots.l (nmK z) z.b) n=if n=nmK z then some z.b else aC o.roots.l n:=fun n=>cV _ _ _ _
 refine⟨lv,fun n=>if n=nmK z then z.b else rt n,h.tops,h.top,h.tk,fun n r e=> ?_,h.ok,HF h.rnd,h.ond,fun v hv ev=> ?_,fun v hv q e=> ?_,fun c=> ?_,JX h.wnd (h.tops.kb z hz).nodup⟩
 ·have e:=(rg n).symm.trans e
  by_cases q:n=nmK z
  ·rw[if_pos q] at e;cases e
   exact⟨z,hz,q.symm,by rw[if_pos q]⟩
  ·rw[if_neg q] at e
   obtain⟨v,hv,e1,e2⟩:=h.rk n r e
   exact⟨v,hv,e1,by rw[if_neg q];exact e2⟩
 ·have ev:=(congrArg Option.isSome (rg (nmK v))).symm.trans ev
  by_cases q:nmK v=nmK z
  ·have:=inj hv hz q
   subst this
   exact .inl ⟨mz,by rw[if_pos rfl]⟩
  ·rw[if_neg q] at ev
   rcases h.HD v hv ev with ⟨a,b⟩|a
   ·exact .inl ⟨a,by rw[if_neg q];exact b⟩
   ·exact .inr a
 ·obtain⟨a1,a2,a3,y1,b1,b2,b3,b4,b5,z1,c1,c2,c3,c4,c5⟩:=h.odd v hv q e
  have vz:nmK v≠nmK z:=fun r=>by
   have e':aC o.reached.l (nmK v)=some q:=e
   rw[r,oz] at e';cases e'
  have n1:nmK y1≠nmK z:=fun r=>by rw[r,nz] at b3;cases b3
  have n2:nmK z1≠nmK z:=fun r=>by rw[r,nz] at c3;cases c3
  refine⟨by show aC (aM _ _ _) _=none;rw[rg,if_neg vz];exact a1,a2,a3,y1,b1,b2,?_,b4,?_,z1,c1,c2,?_,c4,?_⟩
  ·show (aC (aM _ _ _) _).isSome=true
   rw[rg,if_neg n1];exact b3
  ·rw[if_neg n1,if_neg vz];exact b5
  ·show (aC (aM _ _ _) _).isSome=true
   rw[rg,if_neg n2];exact c3
  ·rw[if_neg n2,if_neg vz];exact c5
 ·show c∈o.waiting++_↔_
  rw[HG,h.wt c]
  constructor
  ·rintro (⟨v,hv,a,b⟩|a)
   ·refine⟨v,hv,a,?_⟩
    show (aC (aM _ _ _) _).isSome=true
    rw[rg]
    split
    ·rfl
    ·exact b
   ·refine⟨z,hz,a,?_⟩
    show (aC (aM _ _ _) _).isSome=true
    rw[rg,if_pos rfl];rfl
  ·rintro⟨v,hv,a,b⟩
   have b:=(congrArg Option.isSome (rg (nmK v))).symm.trans b
   by_cases q:nmK v=nmK z
   ·exact .inr (inj hv hz q▸a)
   ·rw[if_neg q] at b
    exact .inl ⟨v,hv,a,b⟩
end
end Sw
namespace Sw
open PySem PySem.Spec PyProof.Rows L2
theorem vg {xs ys:List Str} (h1:xs.Nodup) (h2:ys.Nodup) (h: ∀a,a∈xs↔a∈ys):xs.Perm ys:=by
 have e:qO xs=qO ys:=risingS (zj h1) (zj h2) fun a=>by rw[(bg xs).mem_iff,(bg ys).mem_iff];exact h a
 exact (bg xs).symm.trans (e▸bg ys)
def rgT (z1 z2 w:Kt) (s1 s2:List Stq):List Kt:=w::((kn z1 s1).reverse++kn z2 s2)
structure yo (L:List (Str×Str)) (o:a9) (ks:List Kt) (lv:Str->Nat) (rt:Str->Str) (z1 z2 w:Kt) (s1 s2:List Stq):Prop where
 p1:mS L o ks lv rt z1 s1 w
 p2:mS L o ks lv rt z2 s2 w
 ap: ∀u∈ek z1 s1,u∉ek z2 s2
 ne:z1≠z2
section
variable {ns:List Str} {L:List (Str×Str)} {o o1:a9} {ks:List Kt} {lv:Str->Nat} {rt:Str->Str} {z1 z2 w:Kt} {s1 s2:List Stq} {a b:Str}
theorem yo.len (m:yo L o ks lv rt z1 z2 w s1 s2):3<=(rgT z1 z2 w s1 s2).length/\(rgT z1 z2 w s1 s2).length=2*s1.length+2*s2.length+1:=by
 have e:(rgT z1 z2 w s1 s2).length=2*s1.length+2*s2.length+1:=by
  unfold rgT
  rw[List.length_cons,List.length_append,List.length_reverse,Cb,Cb]
 refine⟨?_,e⟩
 rw[e]
 rcases s1 with _|⟨q1,s1⟩
 ·rcases s2 with _|⟨q2,s2⟩
  ·cases m.p1
   cases m.p2
   exact absurd rfl m.ne
  ·simp;omega
 ·simp;omega
theorem yo.mem (m:yo L o ks lv rt z1 z2 w s1 s2) {v:Kt} (hv:v∈rgT z1 z2 w s1 s2):v=w\/v∈kn z1 s1\/v∈kn z2 s2:=by
 rcases List.mem_cons.mp hv with e|hv
 ·exact .inl e
 ·rcases List.mem_append.mp hv with e|e
  ·exact .inr (.inl (List.mem_reverse.mp e))
  ·exact .inr (.inr e)
theorem yo.facts (h:SI ns L o ks lv rt) (m:yo L o ks lv rt z1 z2 w s1 s2) {v:Kt} (hv:v∈rgT z1 z2 w s1 s2):v∈ks/\rt (nmK v)=rt (nmK w)/\lv (nmK w)<=lv (nmK v)/\(v=w\/((v∈ek z1 s1\/v∈ek z2 s2)/\EvK o v)\/(aC o.roots.l (nmK v)=none/\ ∃u∈rgT z1 z2 w s1 s2,u≠w/\EvK o u/\aC o.mates.l u.b=some v.b)):=by
 obtain⟨w1,w2,w3,w4⟩:=m.p1.wk
 obtain⟨_,_,w5,_⟩:=m.p2.wk
 have ekm: ∀{z:Kt} {s:List Stq} {w':Kt},mS L o ks lv rt z s w'-> ∀u∈ek z s,u∈kn z s:=by
  intro z s w' p
  induction p with
  |nil=>intro u hu;cases hu
  |cons h e us p ih=>
   intro u hu
   rcases List.mem_cons.mp hu with rfl|hu
   ·exact List.mem_cons_self
   ·exact List.mem_cons_of_mem _ (List.mem_cons_of_mem _ (ih u hu))
 rcases m.mem hv with rfl|e|e
 ·exact⟨w1,rfl,Nat.le_refl _,.inl rfl⟩
 ·obtain⟨a1,a2,a3,a4,a5⟩:=Cc m.p1 v e
  refine⟨a1,a2.trans w3.symm,Nat.le_of_lt a3,.inr ?_⟩
  rcases a5 with ⟨c1,c2⟩|⟨c1,c2,u,c3,c4⟩
  ·exact .inl ⟨.inl c1,c2⟩
  ·obtain⟨f1,f2,f3,_⟩:=we m.p1 u c3
   refine .inr ⟨c1,u,List.mem_cons_of_mem _ (List.mem_append_left _ (List.mem_reverse.mpr (ekm m.p1 u c3))),fun e=> ?_,f2,c4⟩
   rw[e] at f3;omega
 ·obtain⟨a1,a2,a3,a4,a5⟩:=Cc m.p2 v e
  refine⟨a1,a2.trans w5.symm,Nat.le_of_lt a3,.inr ?_⟩
  rcases a5 with ⟨c1,c2⟩|⟨c1,c2,u,c3,c4⟩
  ·exact .inl ⟨.inr c1,c2⟩
  ·obtain⟨f1,f2,f3,_⟩:=we m.p2 u c3
   refine .inr ⟨c1,u,List.mem_cons_of_mem _ (List.mem_append_right _ (ekm m.p2 u c3)),fun e=> ?_,f2,c4⟩
   rw[e] at f3;omega
end
end Sw
namespace Sw
open PySem PySem.Spec PyProof.Rows L2
structure Aug (ns:List Str) (L:List (Str×Str)) (M:Str->Option Str) (R:Str->Prop) (row:List Str):Prop where
 ev:row.length%2=0
 ne:row≠[]
 nd:row.Nodup
 inn: ∀a∈row,a∈ns
 alt:Alt (E1 M L) (E0 M) row
 head: ∃a,row.head? =some a/\M a=none/\R a
 last: ∃b,row.getLast? =some b/\M b=none
section
variable {ns:List Str} {L:List (Str×Str)} {M M':Str->Option Str} {R:Str->Prop} {row:List Str}
theorem Aug.inside (h:Aug ns L M R row) (hs: ∀a b,M a=some b->M b=some a) {c d:Str} (hc:c∈row) (e:M c=some d):d∈row:=by
 obtain⟨i,hi⟩:=List.getElem?_of_mem hc
 obtain⟨il,ei⟩:=List.getElem?_eq_some_iff.mp hi
 have ev:=h.ev
 by_cases p:i%2=1
 ·by_cases q:i+1<row.length
  ·have:=h.alt.at_ i q
   rw[if_neg (by omega)] at this
   have t:=this.1
   rw[ei,e] at t
   cases t
   exact List.getElem_mem _
  ·obtain⟨b,hb,nb⟩:=h.last
   rw[List.getLast?_eq_getElem?,show row.length -1=i by omega,hi] at hb
   cases hb
   rw[e] at nb;cases nb
 ·by_cases q:i=0
  ·obtain⟨a,ha,na,_⟩:=h.head
   rw[List.head?_eq_getElem?,←q,hi] at ha
   cases ha
   rw[e] at na;cases na
  ·have:=h.alt.at_ (i -1) (by omega)
   rw[if_neg (by omega)] at this
   have t:=this.2
   have e2:row[i -1+1]'(by omega)=c:=by
    have:i -1+1=i:=by omega
    simp only[this]
    exact ei
   rw[e2,e] at t
   cases t
   exact List.getElem_mem _
structure JY (M M':Str->Option Str) (row:List Str):Prop where
 on: ∀i (h:i+1<row.length),i%2=0->M' (row[i]'(by omega))=some row[i+1]/\M' row[i+1]=some (row[i]'(by omega))
 off: ∀c,c∉row->M' c=M c
theorem JY.EH (f:JY M M' row) (hl:row.length%2=0) {c:Str} (hc:c∈row): ∃d∈row,M' c=some d/\M' d=some c/\ ∃i,∃(h:i+1<row.length),i%2=0/\((c=row[i]'(by omega)/\d=row[i+1])\/(d=row[i]'(by omega)/\c=row[i+1])):=by
 obtain⟨i,hi⟩:=List.getElem?_of_mem hc
 obtain⟨il,ei⟩:=List.getElem?_eq_some_iff.mp hi
 by_cases p:i%2=0
 ·have h:i+1<row.length:=by omega
  obtain⟨a,b⟩:=f.on i h p
  rw[ei] at a b
  exact⟨_,List.getElem_mem h,a,b,i,h,p,.inl ⟨ei.symm,rfl⟩⟩
 ·have h:i -1+1<row.length:=by omega
  obtain⟨a,b⟩:=f.on (i -1) h (by omega)
  have e2:row[i -1+1]'h=c:=by
   have:i -1+1=i:=by omega
   simp only[this]
   exact ei
  rw[e2] at a b
  exact⟨_,List.getElem_mem (by omega:i -1<row.length),b,a,i -1,h,by omega,.inr ⟨rfl,e2.symm⟩⟩
theorem JY.ok (f:JY M M' row) (h:Aug ns L M R row) (hM:ik ns L M) (hL: ∀a b,(a,b)∈L->(b,a)∈L):ik ns L M':=by
 have key: ∀a b,M' a=some b->M' b=some a/\a∈ns/\(a,b)∈L:=by
  intro a b e
  by_cases ha:a∈row
  ·obtain⟨d,hd,e1,e2,i,hi,p,hc⟩:=f.EH h.ev ha
   rw[e] at e1;cases e1
   refine⟨e2,h.inn a ha,?_⟩
   have al:=h.alt.at_ i hi
   rw[if_pos p] at al
   have ed:(row[i]'(by omega),row[i+1])∈L:=al.1.elim id (hL _ _)
   rcases hc with ⟨rfl,rfl⟩|⟨rfl,rfl⟩
   ·exact ed
   ·exact hL _ _ ed
  ·rw[f.off a ha] at e
   have hb:b∉row:=fun hb=>ha (h.inside hM.sym hb (hM.sym _ _ e))
   exact⟨by rw[f.off b hb];exact hM.sym _ _ e,hM.inn _ _ e,hM.edge _ _ e⟩
 exact⟨fun a b e=>(key a b e).1,fun a b e=>(key a b e).2.1,fun a b e=>(key a b e).2.2⟩
end
def qJ (w:Wb):List (Str×Str):=w.l.flatMap fun p=>p.2.l.map fun q=>(p.1,q.1)
theorem mT {ns:List Str} {w:Wb} (h:cF ns w) (hn:ns.Nodup) {a b:Str}:(a,b)∈qJ w↔ ∃v,wk w a b=some v:=by
 have kn:(w.l.map (·.1)).Nodup:=by rw[h.keys];exact hn
 unfold qJ
 rw[List.mem_flatMap]
 constructor
 ·rintro⟨p,hp,hq⟩
  obtain⟨q,hq',e⟩:=List.mem_map.mp hq
  cases e
  have e1:=di kn (show (p.1,p.2)∈w.l from hp)
  have rn:=h.rows p.1
  rw[jR e1] at rn
  exact⟨q.2,by rw[Hi e1];exact di rn (show (q.1,q.2)∈p.2.l from hq')⟩
 ·rintro⟨v,hv⟩
  obtain⟨r,e1,e2⟩:=Hj hv
  refine⟨(a,r),?_,List.mem_map.mpr ⟨(b,v),?_,rfl⟩⟩
  ·exact fM e1
  ·exact fM e2
end Sw
namespace Sw
open PySem PySem.Spec PyProof.Rows L2
theorem AZ: ∀{l:List (List Str)},(∀y∈l,y.length%2=1)->l.flatten.length%2=l.length%2
 | [],_=>rfl
 |y::l,h=>by
  rw[List.flatten_cons,List.length_append,List.length_cons]
  have h1:=h y List.mem_cons_self
  have h2:=AZ (l:=l) fun z hz=>h z (List.mem_cons_of_mem _ hz)
  omega
theorem KB.zu {m:Str->Option Str}: ∀{n:Nat} {k:aF} {b:Str} {ms:List Str},KB m n k b ms->ms.length%2=1
 |0,_,_,_,h=>h.elim
 |n+1,.single c,_,_,h=>by rw[h.2];rfl
 |n+1,.group r l,b,_,⟨t,p,h1,h2,h3,h4,h5⟩=>by
  have:=AZ (l:=t.map (·.ms)) fun y hy=>by
   obtain⟨x,hx,rfl⟩:=List.mem_map.mp hy
   exact (h3 x hx).zu
  rw[List.length_map] at this
  have:=h1.odd
  rw[h4,yf]
  omega
theorem tw {N:Str->Option Str} (hs: ∀a b,N a=some b->N b=some a) (hi: ∀a,N a≠some a): ∀(n:Nat) {l:List Str},l.length<=n->l.Nodup->(∀c∈l,∃d∈l,N c=some d)->l.length%2=0
 |_,[],_,_,_=>rfl
 |0,c::l,h,_,_=>by simp at h
 |n+1,c::l,hl,nd,h=>by
  obtain⟨d,hd,e⟩:=h c List.mem_cons_self
  have dc:d≠c:=fun q=>hi c (q▸e)
  have dl:d∈l:=by
   rcases List.mem_cons.mp hd with q|q
   ·exact absurd q dc
   ·exact q
  rw[List.nodup_cons] at nd
  have le:(l.erase d).length+1=l.length:=by
   rw[List.length_erase_of_mem dl]
   have:=List.length_pos_of_mem dl
   omega
  rw[List.length_cons] at hl
  have ih:=tw hs hi n (l:=l.erase d) (by omega) (nd.2.erase d) fun a ha=>by
   have hal:=List.mem_of_mem_erase ha
   obtain⟨f,hf,ef⟩:=h a (List.mem_cons_of_mem _ hal)
   have fd:f≠d:=fun q=>by
    subst q
    have:=hs _ _ ef
    rw[hs _ _ e] at this
    cases this
    exact nd.1 hal
   have fc:f≠c:=fun q=>by
    subst q
    have:=hs _ _ ef
    rw[e] at this
    cases this
    exact (List.Nodup.mem_erase_iff nd.2).mp ha|>.1 rfl
   rcases List.mem_cons.mp hf with q|q
   ·exact absurd q fc
   ·exact⟨f,(List.Nodup.mem_erase_iff nd.2).mpr ⟨fd,q⟩,ef⟩
  rw[List.length_cons]
  omega
structure Cert (ns:List Str) (L:List (Str×Str)) (M:Str->Option Str) (A:List Str) (zs:List Kt):Prop where
 kb: ∀z∈zs,KB M (hf z.ms) z.k z.b z.ms
 kl: ∀z∈zs,KL L (hf z.ms) z.k
 zn:(zs.map (·.ms)).flatten.Nodup
 zi: ∀z∈zs,∀c∈z.ms,c∈ns
 an:A.Nodup
 ai: ∀c∈A,c∈ns
 az: ∀z∈zs,∀c∈z.ms,c∉A
 cl: ∀z∈zs,∀a b,(a,b)∈L->a∈z.ms->b∈z.ms\/b∈A
 cnt:(ns.filter fun c=> !(M c).isSome).length+A.length=zs.length
 rest: ∀c∈ns,c∉A->(∀z∈zs,c∉z.ms)-> ∃d,M c=some d/\d∉A/\ ∀z∈zs,d∉z.ms
section
variable {ns:List Str} {L:List (Str×Str)} {M N:Str->Option Str} {A:List Str} {zs:List Kt}
theorem A0 (h:Cert ns L M A zs):zs.Nodup:=by
 rw[List.nodup_iff_pairwise_ne,List.pairwise_iff_getElem]
 intro i j hi hj ij e
 have hm:=(h.kb _ (List.getElem_mem hi)).base
 have:=fh h.zn (List.getElem?_eq_getElem hi) (List.getElem?_eq_getElem hj) hm (e▸hm)
 omega
theorem nodup_map_on {α β:Type} {f:α->β}: ∀{l:List α},l.Nodup->(∀a∈l,∀b∈l,f a=f b->a=b)->(l.map f).Nodup
 | [],_,_=>List.nodup_nil
 |a::l,h,g=>by
  rw[List.nodup_cons] at h
  rw[List.map_cons,List.nodup_cons]
  refine⟨fun m=> ?_,nodup_map_on h.2 fun x hx y hy e=>g x (List.mem_cons_of_mem _ hx) y (List.mem_cons_of_mem _ hy) e⟩
  obtain⟨b,hb,e⟩:=List.mem_map.mp m
  have:=g b (List.mem_cons_of_mem _ hb) a List.mem_cons_self e
  subst this
  exact h.1 hb
theorem Cert.bound (h:Cert ns L M A zs) (hn:ns.Nodup) (hN:ik ns L N) (irr: ∀a,(a,a)∉L):zs.length<=(ns.filter fun c=> !(N c).isSome).length+A.length:=by
 classical
 have hi: ∀a,N a≠some a:=fun a e=>irr a (hN.edge _ _ e)
 have key: ∀z∈zs,∃g,∃c∈z.ms,(N c=none/\g=c)\/(N c=some g/\g∈A):=fun z hz=>by
  refine Classical.byContradiction fun q=> ?_
  have par:=tw hN.sym hi z.ms.length (Nat.le_refl _) (h.kb z hz).nodup fun c hc=>by
   cases e:N c with
   |none=>exact absurd ⟨c,c,hc,.inl ⟨e,rfl⟩⟩ q
   |some d=>
    refine⟨d,?_,rfl⟩
    rcases h.cl z hz c d (hN.edge _ _ e) hc with a|a
    ·exact a
    ·exact absurd ⟨d,c,hc,.inr ⟨e,a⟩⟩ q
  have:=(h.kb z hz).zu
  omega
 let f:Kt->Str:=fun z=>if hz:z∈zs then Classical.choose (key z hz) else ""
 have hf: ∀z∈zs,∃c∈z.ms,(N c=none/\f z=c)\/(N c=some (f z)/\f z∈A):=fun z hz=>by
  have e:f z=Classical.choose (key z hz):=dif_pos hz
  rw[e]
  exact Classical.choose_spec (key z hz)
 have one: ∀x∈zs,∀y∈zs,∀c,c∈x.ms->c∈y.ms->x=y:=fun x hx y hy c h1 h2=>by
  obtain⟨i,hi⟩:=List.getElem?_of_mem hx
  obtain⟨j,hj⟩:=List.getElem?_of_mem hy
  have:=fh h.zn hi hj h1 h2
  subst this
  rw[hi] at hj
  exact Option.some.inj hj
 have nd:(zs.map f).Nodup:=nodup_map_on (A0 h) fun x hx y hy e=>by
  obtain⟨c,hc,c1⟩:=hf x hx
  obtain⟨d,hd,d1⟩:=hf y hy
  rcases c1 with ⟨_,c2⟩|⟨c2,c3⟩
  ·rcases d1 with ⟨_,d2⟩|⟨_,d3⟩
   ·have:c=d:=by rw[<-c2,←d2,e]
    subst this
    exact one x hx y hy c hc hd
   ·exact absurd (by rw[<-c2,e];exact d3) (h.az x hx c hc)
  ·rcases d1 with ⟨_,d2⟩|⟨d2,_⟩
   ·exact absurd (by rw[<-d2,←e];exact c3) (h.az y hy d hd)
   ·rw[<-e] at d2
    have:=hN.inj c2 d2
    subst this
    exact one x hx y hy c hc hd
 have:=lq nd (ys:=(ns.filter fun c=> !(N c).isSome)++A) fun g hg=>by
  obtain⟨z,hz,rfl⟩:=List.mem_map.mp hg
  obtain⟨c,hc,c1⟩:=hf z hz
  rcases c1 with ⟨c1,c2⟩|⟨_,c3⟩
  ·refine List.mem_append_left _ (List.mem_filter.mpr ⟨by rw[c2];exact h.zi z hz c hc,by rw[c2,c1];rfl⟩)
  ·exact List.mem_append_right _ c3
 rw[List.length_map,List.length_append] at this
 exact this
theorem n5 {α:Type} (p:α->Bool): ∀l:List α,l.length=(l.filter p).length+(l.filter fun a=> !p a).length
 | []=>rfl
 |a::l=>by
  have:=n5 p l
  rw[List.filter_cons,List.filter_cons]
  cases p a <;> simp <;> omega
end
end Sw
namespace Sw
open PySem PySem.Spec PyProof.Rows L2
section
variable {ns:List Str} {w:Wb} {M:Str->Option Str} {P:Str->Prop}
theorem HH (hw:cF ns w) (hn:ns.Nodup) {a b:Str} (e:(a,b)∈qJ w) (nb: ¬P b):Rch w P a b:=by
 obtain⟨v,hv⟩:=(mT hw hn).mp e
 exact .step .refl hv nb
theorem KB.conn (hw:cF ns w) (hn:ns.Nodup): ∀{n:Nat} {k:aF} {b:Str} {ms:List Str},KB M n k b ms->KL (qJ w) n k->(∀c∈ms,¬P c)-> ∀a∈ms,∀c∈ms,Rch w P a c
 |0,_,_,_,h,_,_,_,_,_,_=>h.elim
 |n+1,.single s,_,_,h,_,_,a,ha,c,hc=>by
  rw[h.2] at ha hc
  rw[List.mem_singleton.mp ha,List.mem_singleton.mp hc]
  exact .refl
 |n+1,.group r l,b,ms,⟨t,p,h1,h2,h3,h4,h5⟩,⟨k1,k2⟩,hP,a,ha,c,hc=>by
  subst h2
  have mm: ∀a,a∈ms↔ ∃x∈t,a∈x.ms:=fun a=>by rw[h4,(bg _).mem_iff,cG]
  have sub: ∀x∈t,∀a∈x.ms,∀c∈x.ms,Rch w P a c:=fun x hx=>(h3 x hx).conn hw hn (k2 _ (List.mem_map_of_mem hx)) fun c hc=>hP c ((mm c).mpr ⟨x,hx,hc⟩)
  have pos:0<t.length:=by have:=h1.lead;omega
  have from0: ∀(j:Nat) (x0 xj:Kt),t[0]? =some x0->t[j]? =some xj-> ∀a∈x0.ms,∀c∈xj.ms,Rch w P a c:=by
   intro j
   induction j with
   |zero=>
    intro x0 xj e0 ej a ha c hc
    rw[e0] at ej;cases ej
    exact sub x0 (List.mem_of_getElem? e0) a ha c hc
   |succ j ih=>
    intro x0 xj e0 ej a ha c hc
    have jl:=(List.getElem?_eq_some_iff.mp ej).1
    obtain⟨x,y,q,g1,g2,g3⟩:=h1.at_ (show j<t.length by omega)
    rw[zt (by omega),ej] at g2
    cases g2
    obtain⟨_,q1,q2⟩:=h1.link j x xj q (by omega) g1 (by rw[zt (by omega)];exact ej) g3
    have xm:=List.mem_of_getElem? ej
    refine (ih x0 x e0 g1 a ha q.1 q1).trans ((HH hw hn (k1 q (List.mem_of_getElem? g3)) (hP _ ((mm _).mpr ⟨xj,xm,q2⟩))).trans (sub xj xm q.2 q2 c hc))
  obtain⟨x,hx,ax⟩:=(mm a).mp ha
  obtain⟨y,hy,cy⟩:=(mm c).mp hc
  obtain⟨i,hi⟩:=List.getElem?_of_mem hx
  obtain⟨j,hj⟩:=List.getElem?_of_mem hy
  have e0:=List.getElem?_eq_getElem pos
  have b0:=(h3 _ (List.getElem_mem pos)).base
  have m0:=hP _ ((mm _).mpr ⟨_,List.getElem_mem pos,b0⟩)
  exact ((from0 i _ x e0 hi _ b0 a ax).symm hw m0).trans (from0 j _ y e0 hj _ b0 c cy)
end
end Sw
namespace Sw
open PySem PySem.Spec PyProof.Rows L2
def Mt (L:List (Str×Str)) (l:List Str) (k:Nat):Prop:= ∃qs:List (Str×Str),qs.length=k/\gR qs/\(∀q∈qs,q∈L)/\ ∀q∈qs,q.1∈l/\q.2∈l
def Gm (L:List (Str×Str)) (l:List Str) (k:Nat):Prop:=Mt L l k/\ ∀j,Mt L l j->j<=k
section
variable {L:List (Str×Str)} {l:List Str} {a:Str}
theorem Mt.sub {l':List Str} {k:Nat} (h:Mt L l k) (s: ∀c∈l,c∈l'):Mt L l' k:=by
 obtain⟨qs,h1,h2,h3,h4⟩:=h
 exact⟨qs,h1,h2,h3,fun q hq=>⟨s _ (h4 q hq).1,s _ (h4 q hq).2⟩⟩
theorem Gm.nil:Gm L [] 0:=⟨⟨[],rfl,List.nodup_nil,(fun q hq=>by cases hq),(fun q hq=>by cases hq)⟩,fun j ⟨qs,h1,_,_,h4⟩=>by
 cases qs with
 |nil=>simp at h1;omega
 |cons q qs=>cases (h4 q List.mem_cons_self).1⟩
theorem Mt.split {k:Nat} (hs: ∀a b,(a,b)∈L->(b,a)∈L) (h:Mt L (a::l) k):Mt L l k\/ ∃b∈l,(a,b)∈L/\Mt L (l.filter fun c=> !decide (c=b)) (k -1)/\1<=k:=by
 obtain⟨qs,h1,h2,h3,h4⟩:=h
 by_cases ha:a∈bG qs
 ·obtain⟨q,hq,e⟩:=fg.mp ha
  obtain⟨pre,post,eq⟩:=List.append_of_mem hq
  have pm:qs.Perm (q::(pre++post)):=by rw[eq];exact List.perm_middle
  have ap:=AU pm h2
  have ap2:([q.1,q.2]++bG (pre++post)).Nodup:=ap
  rw[List.nodup_append] at ap2
  obtain⟨n1,n2,n3⟩:=ap2
  have q12:q.1≠q.2:=by simp at n1;exact n1
  obtain⟨b,hab,hne⟩: ∃b,((a=q.1/\b=q.2)\/(a=q.2/\b=q.1))/\b≠a:=by
   rcases e with e|e
   ·exact⟨q.2,.inl ⟨e,rfl⟩,fun x=>q12 (e.symm.trans x.symm)⟩
   ·exact⟨q.1,.inr ⟨e,rfl⟩,fun x=>q12 (x.trans e)⟩
  have bl:b∈l:=by
   have:b∈a::l:=by
    rcases hab with ⟨_,e2⟩|⟨_,e2⟩
    ·rw[e2];exact (h4 q hq).2
    ·rw[e2];exact (h4 q hq).1
   rcases List.mem_cons.mp this with x|x
   ·exact absurd x hne
   ·exact x
  have ed:(a,b)∈L:=by
   rcases hab with ⟨e1,e2⟩|⟨e1,e2⟩
   ·rw[e1,e2];exact h3 q hq
   ·rw[e1,e2];exact hs _ _ (h3 q hq)
  have le:=pm.length_eq
  rw[List.length_cons] at le
  have pin: ∀r∈pre++post,r∈qs:=fun r hr=>pm.mem_iff.mpr (List.mem_cons_of_mem _ hr)
  have inl: ∀r∈pre++post,∀x,(x=r.1\/x=r.2)->x∈l.filter fun c=> !decide (c=b):=fun r hr x hx=>by
   have xe:x∈bG (pre++post):=fg.mpr ⟨r,hr,hx⟩
   have x1:x≠q.1:=fun e=>n3 q.1 (by simp) x xe e.symm
   have x2:x≠q.2:=fun e=>n3 q.2 (by simp) x xe e.symm
   have xa:x≠a/\x≠b:=by
    rcases hab with ⟨e1,e2⟩|⟨e1,e2⟩
    ·rw[e1,e2];exact⟨x1,x2⟩
    ·rw[e1,e2];exact⟨x2,x1⟩
   have:x∈a::l:=by
    rcases hx with e|e
    ·rw[e];exact (h4 r (pin r hr)).1
    ·rw[e];exact (h4 r (pin r hr)).2
   rcases List.mem_cons.mp this with y|y
   ·exact absurd y xa.1
   ·exact List.mem_filter.mpr ⟨y,by simpa using xa.2⟩
  refine .inr ⟨b,bl,ed,⟨pre++post,by omega,n2,fun r hr=>h3 r (pin r hr),fun r hr=>⟨inl r hr _ (.inl rfl),inl r hr _ (.inr rfl)⟩⟩,by omega⟩
 ·refine .inl ⟨qs,h1,h2,h3,fun q hq=> ?_⟩
  obtain⟨a1,a2⟩:=h4 q hq
  constructor
  ·rcases List.mem_cons.mp a1 with x|x
   ·exact absurd (fg.mpr ⟨q,hq,.inl x.symm⟩) ha
   ·exact x
  ·rcases List.mem_cons.mp a2 with x|x
   ·exact absurd (fg.mpr ⟨q,hq,.inr x.symm⟩) ha
   ·exact x
end
theorem Cert.gm {ns:List Str} {L:List (Str×Str)} {M:Str->Option Str} {A:List Str} {zs:List Kt} (c:Cert ns L M A zs) (g:Gr ns L M) {ps:List (Str×Str)} (hp:gR ps) (he: ∀p∈ps,p∈L) (hc:2*ps.length+(ns.filter fun c=> !(M c).isSome).length=ns.length):Gm L ns ps.length:=by
 refine⟨⟨ps,rfl,hp,he,fun q hq=>⟨g.inn _ _ (he q hq),g.inn _ _ (g.sym _ _ (he q hq))⟩⟩,fun j ⟨qs,h1,h2,h3,h4⟩=> ?_⟩
 obtain⟨N,hN⟩: ∃N:Str->Option Str,∀x y,N x=some y↔(x,y)∈qs\/(y,x)∈qs:=by
  refine⟨fun x=>aC (qs.flatMap fun p=>[(p.1,p.2),(p.2,p.1)]) x,fun x y=> ?_⟩
  have kn:((qs.flatMap fun p=>[(p.1,p.2),(p.2,p.1)]).map (·.1)).Nodup:=by
   have:(qs.flatMap fun p=>[(p.1,p.2),(p.2,p.1)]).map (·.1)=bG qs:=by
    unfold bG
    rw[List.map_flatMap]
    rfl
   rw[this];exact h2
  have mem:(x,y)∈(qs.flatMap fun p=>[(p.1,p.2),(p.2,p.1)])↔(x,y)∈qs\/(y,x)∈qs:=by
   rw[List.mem_flatMap]
   constructor
   ·rintro⟨p,hp,h⟩
    rcases List.mem_cons.mp h with e|e
    ·cases e;exact .inl hp
    ·have:=List.mem_singleton.mp e
     cases this;exact .inr hp
   ·rintro (h|h)
    ·exact⟨_,h,List.mem_cons_self⟩
    ·exact⟨_,h,by simp⟩
  rw[<-mem]
  exact⟨fun h=>fM h,fun h=>di kn h⟩
 have MN:ik ns L N:=by
  refine⟨fun a b e=>(hN b a).mpr ((hN a b).mp e).symm,fun a b e=> ?_,fun a b e=> ?_⟩
  ·rcases (hN a b).mp e with q|q
   ·exact (h4 _ q).1
   ·exact (h4 _ q).2
  ·rcases (hN a b).mp e with q|q
   ·exact h3 _ q
   ·exact g.sym _ _ (h3 _ q)
 have b:=c.bound g.nd MN g.irr
 have e:(bG qs).length=(ns.filter fun c=>(N c).isSome).length:=by
  refine (vg h2 (g.nd.filter _) fun x=> ?_).length_eq
  rw[fg,List.mem_filter]
  constructor
  ·rintro⟨q,hq,e⟩
   rcases e with rfl|rfl
   ·exact⟨(h4 q hq).1,by rw[(hN q.1 q.2).mpr (.inl hq)];rfl⟩
   ·exact⟨(h4 q hq).2,by rw[(hN q.2 q.1).mpr (.inr hq)];rfl⟩
  ·rintro⟨_,e⟩
   obtain⟨d,hd⟩:=Option.isSome_iff_exists.mp e
   rcases (hN x d).mp hd with q|q
   ·exact⟨_,q,.inl rfl⟩
   ·exact⟨_,q,.inr rfl⟩
 rw[vX] at e
 have:=n5 (fun c=>(N c).isSome) ns
 have:=c.cnt
 omega
end Sw
namespace Sw
open PySem PySem.Spec PyProof.Rows L2
def Sv (P:List (Str×Str)) (x:Str):Prop:= ∃y,mt P x y
noncomputable def mO (P:List (Str×Str)) (x:Str):Option Str:=by
 classical exact if h: ∃y,mt P x y then some (Classical.choose h) else none
section
variable {ns:List Str} {w:Wb} {P Q:List (Str×Str)} {x y c l:Str} {row:List Str}
theorem qT (hP:Plan w P):mO P x=some y↔mt P x y:=by
 unfold mO
 constructor
 ·intro h
  by_cases q: ∃y,mt P x y
  ·rw[dif_pos q] at h
   cases h
   exact Classical.choose_spec q
  ·rw[dif_neg q] at h;cases h
 ·intro h
  have q: ∃y,mt P x y:=⟨y,h⟩
  rw[dif_pos q]
  exact congrArg some (qS hP (Classical.choose_spec q) h)
theorem DS:mO P x=none↔ ¬Sv P x:=by
 unfold mO Sv
 by_cases q: ∃y,mt P x y
 ·rw[dif_pos q];simp[q]
 ·rw[dif_neg q];simp[q]
theorem DU (hw:cF ns w) (hP:Plan w P) (h:mt P x y): ∃v,wk w x y=some v:=by
 rcases h with h|h
 ·exact hP.swap _ h
 ·obtain⟨v,hv⟩:=hP.swap _ h
  exact⟨v,hw.sym _ _ _ hv⟩
theorem N8 (hw:cF ns w) (hn:ns.Nodup) (hP:Plan w P):ik ns (qJ w) (mO P):=
 ⟨fun a b e=>(qT hP).mpr (nY ((qT hP).mp e)),fun a b e=>by
  obtain⟨v,hv⟩:=DU hw hP ((qT hP).mp e)
  exact (hw.inside hv).1,fun a b e=>(mT hw hn).mpr (DU hw hP ((qT hP).mp e))⟩
theorem Sv.inn (hw:cF ns w) (hP:Plan w P) (h:Sv P x):x∈ns:=by
 obtain⟨y,h⟩:=h
 obtain⟨v,hv⟩:=DU hw hP h
 exact (hw.inside hv).1
theorem vh (hw:cF ns w) (hP:Plan w P) {es:List (Str×Str)} (h:tv w P es) (ne:x≠y):mt (qI P (es.map nP)) x y↔(mt P x y/\ ¬((x,y)∈es\/(y,x)∈es))\/(((x,y)∈es\/(y,x)∈es)/\ ¬mt P x y):=by
 have hp:=yh hP (h.turn hw hP)
 have e1:=ub hp (e:=(x,y)) ne
 have e2:=ub hP (e:=(x,y)) ne
 have e3:nP (x,y)∈es.map nP↔((x,y)∈es\/(y,x)∈es):=by
  rw[List.mem_map]
  constructor
  ·rintro⟨e,he,q⟩
   have ee:=h.ne e he
   rcases yg ee with ⟨a,_⟩|⟨a,_⟩ <;> rcases yg (e:=(x,y)) ne with ⟨b,_⟩|⟨b,_⟩
   ·rw[a,b] at q;exact .inl (q▸he)
   ·rw[a,b] at q;exact .inr (q▸he)
   ·rw[a,b] at q
    have:e=(y,x):=Prod.ext (congrArg Prod.snd q) (congrArg Prod.fst q)
    exact .inr (this▸he)
   ·rw[a,b] at q
    have:e=(x,y):=Prod.ext (congrArg Prod.snd q) (congrArg Prod.fst q)
    exact .inl (this▸he)
  ·rintro (he|he)
   ·exact⟨_,he,rfl⟩
   ·exact⟨_,he,vd _ _⟩
 show mt _ (x,y).1 (x,y).2↔_
 rw[<-e1,mR,e3]
 show (nP (x,y)∈P/\_)\/_↔_
 rw[e2]
structure Way (L:List (Str×Str)) (M:Str->Option Str) (l c:Str) (row:List Str):Prop where
 odd:row.length%2=1
 head:row.head? =some l
 last:row.getLast? =some c
 nd:row.Nodup
 alt:Alt (E0 M) (E1 M L) row
 un:M c=none
theorem Way.at0 {L:List (Str×Str)} {M:Str->Option Str} (h:Way L M l c row) (p:0<row.length):row[0]=l:=by
 have:=h.head
 rw[List.head?_eq_getElem?,List.getElem?_eq_getElem p] at this
 exact Option.some.inj this
theorem Way.atE {L:List (Str×Str)} {M:Str->Option Str} (h:Way L M l c row) (p:row.length -1<row.length):row[row.length -1]=c:=by
 have:=h.last
 rw[List.getLast?_eq_getElem?,List.getElem?_eq_getElem p] at this
 exact Option.some.inj this
theorem Way.Ho (hw:cF ns w) (hn:ns.Nodup) (hP:Plan w P) (h:Way (qJ w) (mO P) l c row):tv w P (eds row):=by
 have odd:=h.odd
 have ev: ∀i (hi:i+1<row.length),i%2=0->mt P (row[i]'(by omega)) row[i+1]:=fun i hi e=>by
  have:=h.alt.at_ i hi
  rw[if_pos e] at this
  exact (qT hP).mp this.1
 have od: ∀i (hi:i+1<row.length),i%2=1->E1 (mO P) (qJ w) (row[i]'(by omega)) row[i+1]:=fun i hi e=>by
  have:=h.alt.at_ i hi
  rw[if_neg (by omega)] at this
  exact this
 refine⟨(mE h.nd).1,(mE h.nd).2,fun e he=> ?_,?_,fun e he x hx y hy=> ?_⟩
 ·obtain⟨i,hi,rfl⟩:=kX he
  by_cases q:i%2=0
  ·exact DU hw hP (ev i hi q)
  ·rcases (od i hi (by omega)).1 with g|g
   ·exact (mT hw hn).mp g
   ·obtain⟨v,hv⟩:=(mT hw hn).mp g
    exact⟨v,hw.sym _ _ _ hv⟩
 ·have nn:(sm P (eds row)).Nodup:=by
   have:=(mE h.nd).1
   have h2:(eds row).Nodup:=List.nodup_iff_pairwise_ne.mpr (List.Pairwise.of_map nP (fun a b (h:nP a≠nP b) e=>h (by rw[e])) (List.nodup_iff_pairwise_ne.mp this))
   exact h2.filter _
  refine v7 nn (fun p hp=>(mE h.nd).2 p (lL.mp hp).1) fun p hp q hq x hx hy=> ?_
  obtain⟨p1,p2⟩:=lL.mp hp
  obtain⟨q1,q2⟩:=lL.mp hq
  obtain⟨i,hi,rfl⟩:=kX p1
  obtain⟨j,hj,rfl⟩:=kX q1
  have i1:i%2=1:=Classical.byContradiction fun e=>p2 (ev i hi (by omega))
  have j1:j%2=1:=Classical.byContradiction fun e=>q2 (ev j hj (by omega))
  have ij:i=j:=by
   rcases hx with e|e <;> rcases hy with f|f <;> have k:=jJ h.nd (e.symm.trans f) <;> omega
  subst ij
  rfl
 ·have hxr:x∈row:=by
   have:=mD he
   rcases hx with e|e <;> (rw[e];first|exact this.1|exact this.2)
  obtain⟨i,hi,rfl⟩:=List.mem_iff_getElem.mp hxr
  by_cases q:i%2=0
  ·by_cases q2:i+1<row.length
   ·left
    rw[qS hP hy (ev i q2 q)]
    exact l8 row i q2
   ·have:i=row.length -1:=by omega
    subst this
    rw[h.atE hi] at hy
    exact absurd ⟨y,hy⟩ (DS.mp h.un)
  ·right
   have hi':i -1+1<row.length:=by omega
   have ee:i -1+1=i:=by omega
   have:=ev (i -1) hi' (by omega)
   simp only[ee] at this
   rw[qS hP hy (nY this)]
   have:=l8 row (i -1) hi'
   simp only[ee] at this
   exact this
theorem Way.turn (hw:cF ns w) (hn:ns.Nodup) (hP:Plan w P) (h:Way (qJ w) (mO P) l c row) (ne:l≠c):Plan w (qI P (alo false row))/\ ∀x,Sv (qI P (alo false row)) x↔(x≠l/\Sv P x)\/x=c:=by
 have ek:=h.Ho hw hn hP
 have odd:=h.odd
 have len:3<=row.length:=by
  refine Classical.byContradiction fun q=> ?_
  have e1:row.length=1:=by omega
  have a:=h.at0 (by omega)
  have b:=h.atE (by omega)
  simp only[e1,Nat.sub_self] at b
  exact ne (a.symm.trans b)
 rw[DO]
 have hp:=yh hP (ek.turn hw hP)
 have ev: ∀i (hi:i+1<row.length),i%2=0->mt P (row[i]'(by omega)) row[i+1]:=fun i hi e=>by
  have:=h.alt.at_ i hi
  rw[if_pos e] at this
  exact (qT hP).mp this.1
 have od: ∀i (hi:i+1<row.length),i%2=1->mt (qI P ((eds row).map nP)) (row[i]'(by omega)) row[i+1]:=fun i hi e=>by
  have:=h.alt.at_ i hi
  rw[if_neg (by omega)] at this
  have ge:=l8 row i hi
  exact (vh hw hP ek ((mE h.nd).2 _ ge)).mpr (.inr ⟨.inl ge,fun m=>this.2.1 ((qT hP).mpr m)⟩)
 have l0:row[0]'(by omega)=l:=h.at0 (by omega)
 have lE:=h.atE (by omega)
 refine⟨hp,fun x=> ?_⟩
 by_cases hx:x∈row
 ·obtain⟨i,hi,rfl⟩:=List.mem_iff_getElem.mp hx
  by_cases i0:i=0
  ·subst i0
   rw[l0]
   constructor
   ·rintro⟨y,hy⟩
    have ly:l≠y:=vZ hp hy
    rcases (vh hw hP ek ly).mp hy with ⟨a,b⟩|⟨a,b⟩
    ·have e0:=ev 0 (by omega) rfl
     rw[l0] at e0
     have:=qS hP a e0
     subst this
     have g:=l8 row 0 (by omega)
     rw[l0] at g
     exact absurd (.inl g) b
    ·rcases a with a|a
     ·obtain⟨j,hj,e⟩:=kX a
      have e1:row[0]'(by omega)=row[j]'(by omega):=by rw[l0];exact congrArg Prod.fst e
      have:=jJ h.nd e1
      subst this
      refine absurd ?_ b
      have e0:=ev 0 hj rfl
      rw[l0] at e0
      rw[show y=row[0+1] from congrArg Prod.snd e]
      exact e0
     ·obtain⟨j,hj,e⟩:=kX a
      have e1:row[0]'(by omega)=row[j+1]:=by rw[l0];exact congrArg Prod.snd e
      have:=jJ h.nd e1
      omega
   ·rintro (⟨a,_⟩|a)
    ·exact absurd rfl a
    ·exact absurd a ne
  ·have s1:Sv (qI P ((eds row).map nP)) row[i]:=by
    by_cases q:i%2=1
    ·exact⟨_,od i (by omega) q⟩
    ·have:=od (i -1) (by omega) (by omega)
     have ee:i -1+1=i:=by omega
     simp only[ee] at this
     exact⟨_,nY this⟩
   refine⟨fun _=> ?_,fun _=>s1⟩
   have xl:row[i]≠l:=fun e=>by
    rw[<-l0] at e
    exact i0 (jJ h.nd e)
   by_cases q:i=row.length -1
   ·subst q;exact .inr lE
   ·left
    refine⟨xl,?_⟩
    by_cases q2:i%2=0
    ·exact⟨_,ev i (by omega) q2⟩
    ·have:=ev (i -1) (by omega) (by omega)
     have ee:i -1+1=i:=by omega
     simp only[ee] at this
     exact⟨_,nY this⟩
 ·have nE: ∀y,¬((x,y)∈eds row\/(y,x)∈eds row):=fun y m=>by
   rcases m with m|m
   ·exact hx (mD m).1
   ·exact hx (mD m).2
  have xl:x≠l:=fun e=>hx (by rw[e,←l0];exact List.getElem_mem _)
  have xc:x≠c:=fun e=>hx (by rw[e,←lE];exact List.getElem_mem _)
  constructor
  ·rintro⟨y,hy⟩
   rcases (vh hw hP ek (vZ hp hy)).mp hy with ⟨a,_⟩|⟨a,_⟩
   ·exact .inl ⟨xl,y,a⟩
   ·exact absurd a (nE y)
  ·rintro (⟨_,y,hy⟩|e)
   ·exact⟨y,(vh hw hP ek (vZ hP hy)).mpr (.inl ⟨hy,nE y⟩)⟩
   ·exact absurd e xc
end
def Mm (w:Wb) (X:Str->Prop) (c:Str):Prop:= ∀N,Plan w N->Sv N c->(∀x,X x->Sv N x)->False
end Sw
namespace Sw
open PySem PySem.Spec PyProof.Rows L2
structure Tree (ns:List Str) (L:List (Str×Str)) (M:Str->Option Str) (A:List Str) (zs:List Kt) (c:Str):Prop where
 kb: ∀z∈zs,KB M (hf z.ms) z.k z.b z.ms
 kl: ∀z∈zs,KL L (hf z.ms) z.k
 zn:(zs.map (·.ms)).flatten.Nodup
 zi: ∀z∈zs,∀x∈z.ms,x∈ns
 an:A.Nodup
 ai: ∀x∈A,x∈ns
 az: ∀z∈zs,∀x∈z.ms,x∉A
 cl: ∀z∈zs,∀a b,(a,b)∈L->a∈z.ms->b∈z.ms\/b∈A
 cnt:A.length+1=zs.length
 sv: ∀z∈zs,∀x∈z.ms,x≠c->(M x).isSome=true
 root: ∃z∈zs,c∈z.ms
section
variable {ns:List Str} {L:List (Str×Str)} {M N:Str->Option Str} {A:List Str} {zs:List Kt} {c:Str}
theorem Tree.one (h:Tree ns L M A zs c) {x y:Kt} (hx:x∈zs) (hy:y∈zs) {d:Str} (h1:d∈x.ms) (h2:d∈y.ms):x=y:=by
 obtain⟨i,hi⟩:=List.getElem?_of_mem hx
 obtain⟨j,hj⟩:=List.getElem?_of_mem hy
 have:=fh h.zn hi hj h1 h2
 subst this
 rw[hi] at hj
 exact Option.some.inj hj
end
def Mx (ns:List Str) (w:Wb) (P:List (Str×Str)):Prop:= ∀N,ik ns (qJ w) N->(ns.filter fun c=>(mO P c).isNone).length<=(ns.filter fun c=>(N c).isNone).length
structure Mn (ns:List Str) (w:Wb) (ah:Str->Str->Prop) (P:List (Str×Str)) (pre:List Str):Prop where
 pl:Plan w P
 mx:Mx ns w P
 ba: ∀c∈pre,¬Sv P c->Mm w (fun x=>ah x c/\Sv P x) c
section
variable {ns:List Str} {w:Wb} {P P':List (Str×Str)} {ah:Str->Str->Prop} {pre:List Str} {c l:Str} {A:List Str} {zs:List Kt}
theorem jK {P:List (Str×Str)} {x:Str}:(mO P x).isNone=true↔ ¬Sv P x:=by
 rw[Option.isNone_iff_eq_none,DS]
theorem Mx.turn (hn:ns.Nodup) (h:Mx ns w P) (e: ∀x,Sv P' x↔(x≠l/\Sv P x)\/x=c) (ne:l≠c) (hl:Sv P l) (hc: ¬Sv P c) (ln:l∈ns) (cn:c∈ns):Mx ns w P':=fun N hN=>by
 have key:(c::ns.filter fun x=>(mO P' x).isNone).Perm (l::ns.filter fun x=>(mO P x).isNone):=by
  refine vg (List.nodup_cons.mpr ⟨fun m=> ?_,hn.filter _⟩) (List.nodup_cons.mpr ⟨fun m=> ?_,hn.filter _⟩) fun x=> ?_
  ·exact jK.mp (List.mem_filter.mp m).2 ((e c).mpr (.inr rfl))
  ·exact jK.mp (List.mem_filter.mp m).2 hl
  ·rw[List.mem_cons,List.mem_cons,List.mem_filter,List.mem_filter,jK,jK,e]
   constructor
   ·rintro (a|⟨a,b⟩)
    ·subst a;exact .inr ⟨cn,hc⟩
    ·by_cases q:x=l
     ·exact .inl q
     ·exact .inr ⟨a,fun s=>b (.inl ⟨q,s⟩)⟩
   ·rintro (a|⟨a,b⟩)
    ·subst a;exact .inr ⟨ln,fun s=>s.elim (fun s=>s.1 rfl) ne⟩
    ·by_cases q:x=c
     ·exact .inl q
     ·exact .inr ⟨a,fun s=>s.elim (fun s=>b s.2) q⟩
 have k2:=key.length_eq
 rw[List.length_cons,List.length_cons] at k2
 have:=h N hN
 omega
theorem Mn.turn (hw:cF ns w) (hn:ns.Nodup) (h:Mn ns w ah P pre) (hp:Plan w P') (e: ∀x,Sv P' x↔(x≠l/\Sv P x)\/x=c) (ne:l≠c) (hl:Sv P l) (hc: ¬Sv P c) (cn:c∈ns) (hpre: ∀d∈pre,¬ah l d/\ ¬ah c d/\d≠l):Mn ns w ah P' (pre++[c]):=
 ⟨hp,h.mx.turn hn e ne hl hc (hl.inn hw h.pl) cn,fun d hd nd=>by
  rcases List.mem_append.mp hd with hd|hd
  ·obtain⟨p1,p2,p3⟩:=hpre d hd
   have nP: ¬Sv P d:=fun s=>nd ((e d).mpr (.inl ⟨p3,s⟩))
   intro N hN h1 h2
   exact h.ba d hd nP N hN h1 fun x hx=>h2 x ⟨hx.1,(e x).mpr (.inl ⟨fun q=>p1 (q▸hx.1),hx.2⟩)⟩
  ·rw[List.mem_singleton.mp hd] at nd
   exact absurd ((e c).mpr (.inr rfl)) nd⟩
theorem Tree.conn (hw:cF ns w) (hn:ns.Nodup) {M:Str->Option Str} {A:List Str} {zs:List Kt} (h:Tree ns (qJ w) M A zs c) {z:Kt} (hz:z∈zs) {a:Str} (ha:a∈z.ms) (d:Str):Rch w (fun a=>a∈A) a d↔d∈z.ms:=by
 constructor
 ·intro r
  induction r with
  |refl=>exact ha
  |step _ e nb ih=>
   rcases h.cl z hz _ _ ((mT hw hn).mpr ⟨_,e⟩) ih with q|q
   ·exact q
   ·exact absurd q nb
 ·intro hc
  exact (h.kb z hz).conn hw hn (h.kl z hz) (fun c hc=>h.az z hz c hc) a ha d hc
end
end Sw
namespace Sw
open PySem PySem.Spec PyProof.Rows L2
section
variable {ns:List Str} {w:Wb} {N:List (Str×Str)} {f o:Str}
theorem HI {P:List (Str×Str)} {x:Str}:x∈bG P↔Sv P x:=by
 rw[fg]
 constructor
 ·rintro⟨q,hq,e|e⟩
  ·exact⟨q.2,.inl (e▸hq)⟩
  ·exact⟨q.1,.inr (e▸hq)⟩
 ·rintro⟨y,h|h⟩
  ·exact⟨_,h,.inl rfl⟩
  ·exact⟨_,h,.inr rfl⟩
structure Mo (L y:List (List Str)) (pre:List Str):Prop where
 ne:y≠[]
 sub: ∀S∈y,S∈L
 cl: ∀S∈y,∀T∈L,(∀x∈pre,x∈S->x∈T)->T∈y
 ba: ∀(p q:List Str) (c:Str),pre=p++c::q-> ∀S∈y,c∉S-> ∀T∈L,(∀x∈p,x∈S->x∈T)->c∉T
theorem Mo.keep {L y:List (List Str)} {pre:List Str} {x:Str} (h:Mo L y pre) (e: ∀S∈y,x∉S):Mo L y (pre++[x]):=by
 refine⟨h.ne,h.sub,fun S hS T hT k=>h.cl S hS T hT fun z hz=>k z (List.mem_append_left _ hz),fun p q c hp S hS nc T hT k=> ?_⟩
 rcases List.eq_nil_or_concat q with r|⟨q',d,r⟩
 ·subst r
  obtain⟨e1,e2⟩:=List.append_inj' hp rfl
  have e2:x=c:=List.head_eq_of_cons_eq e2
  subst e1;subst e2
  exact e T (h.cl S hS T hT k)
 ·rw[List.concat_eq_append] at r
  subst r
  have hp:pre++[x]=(p++c::q')++[d]:=by rw[hp];simp
  obtain⟨e1,_⟩:=List.append_inj' hp rfl
  exact h.ba p q' c e1 S hS nc T hT k
end
end Sw
namespace Sw
open PySem PySem.Spec PyProof.Rows L2
section
variable {ns:List Str} {L:List (Str×Str)} {M N:Str->Option Str} {A:List Str} {zs:List Kt}
theorem Cert.rep (h:Cert ns L M A zs) (hN:ik ns L N) (irr: ∀a,(a,a)∉L): ∃f:Kt->Str,(zs.map f).Nodup/\ ∀z∈zs,∃c∈z.ms,(N c=none/\f z=c)\/(N c=some (f z)/\f z∈A):=by
 classical
 have hi: ∀a,N a≠some a:=fun a e=>irr a (hN.edge _ _ e)
 have key: ∀z∈zs,∃g,∃c∈z.ms,(N c=none/\g=c)\/(N c=some g/\g∈A):=fun z hz=>by
  refine Classical.byContradiction fun q=> ?_
  have par:=tw hN.sym hi z.ms.length (Nat.le_refl _) (h.kb z hz).nodup fun c hc=>by
   cases e:N c with
   |none=>exact absurd ⟨c,c,hc,.inl ⟨e,rfl⟩⟩ q
   |some d=>
    refine⟨d,?_,rfl⟩
    rcases h.cl z hz c d (hN.edge _ _ e) hc with a|a
    ·exact a
    ·exact absurd ⟨d,c,hc,.inr ⟨e,a⟩⟩ q
  have:=(h.kb z hz).zu
  omega
 let f:Kt->Str:=fun z=>if hz:z∈zs then Classical.choose (key z hz) else ""
 have hf: ∀z∈zs,∃c∈z.ms,(N c=none/\f z=c)\/(N c=some (f z)/\f z∈A):=fun z hz=>by
  have e:f z=Classical.choose (key z hz):=dif_pos hz
  rw[e]
  exact Classical.choose_spec (key z hz)
 have one: ∀x∈zs,∀y∈zs,∀c,c∈x.ms->c∈y.ms->x=y:=fun x hx y hy c h1 h2=>by
  obtain⟨i,hi⟩:=List.getElem?_of_mem hx
  obtain⟨j,hj⟩:=List.getElem?_of_mem hy
  have:=fh h.zn hi hj h1 h2
  subst this
  rw[hi] at hj
  exact Option.some.inj hj
 refine⟨f,nodup_map_on (A0 h) fun x hx y hy e=> ?_,hf⟩
 obtain⟨c,hc,c1⟩:=hf x hx
 obtain⟨d,hd,d1⟩:=hf y hy
 rcases c1 with ⟨_,c2⟩|⟨c2,c3⟩
 ·rcases d1 with ⟨_,d2⟩|⟨_,d3⟩
  ·have:c=d:=by rw[<-c2,←d2,e]
   subst this
   exact one x hx y hy c hc hd
  ·exact absurd (by rw[<-c2,e];exact d3) (h.az x hx c hc)
 ·rcases d1 with ⟨_,d2⟩|⟨d2,_⟩
  ·exact absurd (by rw[<-d2,←e];exact c3) (h.az y hy d hd)
  ·rw[<-e] at d2
   have:=hN.inj c2 d2
   subst this
   exact one x hx y hy c hc hd
theorem Cert.N9 (h:Cert ns L M A zs) (hn:ns.Nodup) (hN:ik ns L N) (irr: ∀a,(a,a)∉L) (e:(ns.filter fun c=> !(N c).isSome).length+A.length=zs.length) {x:Str} (hx:x∈ns) (nx:N x=none): ∃z∈zs,x∈z.ms:=by
 obtain⟨f,nd,hf⟩:=h.rep hN irr
 have xu:x∈ns.filter fun c=> !(N c).isSome:=List.mem_filter.mpr ⟨hx,by rw[nx];rfl⟩
 by_cases q:x∈zs.map f
 ·obtain⟨z,hz,e2⟩:=List.mem_map.mp q
  obtain⟨c,hc,c1⟩:=hf z hz
  rcases c1 with ⟨_,c2⟩|⟨c2,_⟩
  ·exact⟨z,hz,by rw[<-e2,c2];exact hc⟩
  ·have:=hN.sym _ _ c2
   rw[e2,nx] at this;cases this
 ·exfalso
  have l:=lq nd (ys:=((ns.filter fun c=> !(N c).isSome).erase x)++A) fun g hg=>by
   have gx:g≠x:=fun e=>q (e▸hg)
   obtain⟨z,hz,rfl⟩:=List.mem_map.mp hg
   obtain⟨c,hc,c1⟩:=hf z hz
   rcases c1 with ⟨c1,c2⟩|⟨_,c3⟩
   ·refine List.mem_append_left _ ((List.mem_erase_of_ne gx).mpr (List.mem_filter.mpr ⟨by rw[c2];exact h.zi z hz c hc,by rw[c2,c1];rfl⟩))
   ·exact List.mem_append_right _ c3
  rw[List.length_map,List.length_append,List.length_erase_of_mem xu] at l
  have:=List.length_pos_of_mem xu
  omega
theorem HJ (sym: ∀a b,(a,b)∈L->(b,a)∈L) {qs:List (Str×Str)} (hn:ns.Nodup) (h2:gR qs) (h3: ∀q∈qs,q∈L) (h4: ∀q∈qs,q.1∈ns/\q.2∈ns): ∃N:Str->Option Str,ik ns L N/\(∀x y,N x=some y↔(x,y)∈qs\/(y,x)∈qs)/\2*qs.length+(ns.filter fun c=> !(N c).isSome).length=ns.length:=by
 obtain⟨N,hN⟩: ∃N:Str->Option Str,∀x y,N x=some y↔(x,y)∈qs\/(y,x)∈qs:=by
  refine⟨fun x=>aC (qs.flatMap fun p=>[(p.1,p.2),(p.2,p.1)]) x,fun x y=> ?_⟩
  have kn:((qs.flatMap fun p=>[(p.1,p.2),(p.2,p.1)]).map (·.1)).Nodup:=by
   have:(qs.flatMap fun p=>[(p.1,p.2),(p.2,p.1)]).map (·.1)=bG qs:=by
    unfold bG
    rw[List.map_flatMap]
    rfl
   rw[this];exact h2
  have mem:(x,y)∈(qs.flatMap fun p=>[(p.1,p.2),(p.2,p.1)])↔(x,y)∈qs\/(y,x)∈qs:=by
   rw[List.mem_flatMap]
   constructor
   ·rintro⟨p,hp,h⟩
    rcases List.mem_cons.mp h with e|e
    ·cases e;exact .inl hp
    ·have:=List.mem_singleton.mp e
     cases this;exact .inr hp
   ·rintro (h|h)
    ·exact⟨_,h,List.mem_cons_self⟩
    ·exact⟨_,h,by simp⟩
  rw[<-mem]
  exact⟨fun h=>fM h,fun h=>di kn h⟩
 refine⟨N,⟨fun a b e=>(hN b a).mpr ((hN a b).mp e).symm,fun a b e=> ?_,fun a b e=> ?_⟩,hN,?_⟩
 ·rcases (hN a b).mp e with q|q
  ·exact (h4 _ q).1
  ·exact (h4 _ q).2
 ·rcases (hN a b).mp e with q|q
  ·exact h3 _ q
  ·exact sym _ _ (h3 _ q)
 have e:(bG qs).length=(ns.filter fun c=>(N c).isSome).length:=by
  refine (vg h2 (hn.filter _) fun x=> ?_).length_eq
  rw[fg,List.mem_filter]
  constructor
  ·rintro⟨q,hq,e⟩
   rcases e with rfl|rfl
   ·exact⟨(h4 q hq).1,by rw[(hN q.1 q.2).mpr (.inl hq)];rfl⟩
   ·exact⟨(h4 q hq).2,by rw[(hN q.2 q.1).mpr (.inr hq)];rfl⟩
  ·rintro⟨_,e⟩
   obtain⟨d,hd⟩:=Option.isSome_iff_exists.mp e
   rcases (hN x d).mp hd with q|q
   ·exact⟨_,q,.inl rfl⟩
   ·exact⟨_,q,.inr rfl⟩
 rw[vX] at e
 have:=n5 (fun c=>(N c).isSome) ns
 omega
theorem Cert.left (h:Cert ns L M A zs) (g:Gr ns L M) {k:Nat} (hk:2*k+(ns.filter fun c=> !(M c).isSome).length=ns.length) {x:Str} (hx:x∈ns) (mt:Mt L (ns.filter fun c=> !decide (c=x)) k): ∃z∈zs,x∈z.ms:=by
 obtain⟨qs,q1,q2,q3,q4⟩:=mt
 have q5: ∀q∈qs,q.1∈ns/\q.2∈ns:=fun q hq=>⟨(List.mem_filter.mp (q4 q hq).1).1,(List.mem_filter.mp (q4 q hq).2).1⟩
 obtain⟨N,MN,hN,cnt⟩:=HJ g.sym g.nd q2 q3 q5
 have nx:N x=none:=by
  cases e:N x with
  |none=>rfl
  |some y=>
   rcases (hN x y).mp e with q|q
   ·have:=(List.mem_filter.mp (q4 _ q).1).2;simp at this
   ·have:=(List.mem_filter.mp (q4 _ q).2).2;simp at this
 have c2:=h.cnt
 exact h.N9 g.nd MN g.irr (by omega) hx nx
end
end Sw
namespace Sw
open PySem PySem.Spec PyProof.Rows L2
structure Oa (w:Wb) (cs:List Str) (p:List (Str×Str)):Prop where
 plan:Plan w p
 inn: ∀q∈p,q.1∈cs/\q.2∈cs
section
variable {w:Wb} {cs:List Str} {c x:Str} {p:List (Str×Str)}
theorem Plan.nil (w:Wb):Plan w []:=⟨List.Pairwise.nil,List.nodup_nil,by simp,by simp⟩
theorem Oa.nil (w:Wb) (cs:List Str):Oa w cs []:=⟨Plan.nil w,by simp⟩
end
end Sw
namespace Sw
open PySem PySem.Spec PyProof.Rows L2
section
variable {γ δ ρ:Type}
theorem Cd {xs:List δ} {pre:List (Int×δ)} {p:Int×δ} {post:List (Int×δ)} (h:(xs.mapIdx fun i x=>((i:Int),x))=pre++p::post):xs=pre.map (·.2)++p.2::post.map (·.2)/\p.1=(pre.length:Int):=by
 have e:(xs.mapIdx fun i x=>((i:Int),x)).map (·.2)=xs:=by
  apply List.ext_getElem
  ·simp
  ·intro i h1 h2;simp
 constructor
 ·rw[<-e,h];simp
 ·have l:=congrArg (fun l=>l[pre.length]?) h
  simp only[List.getElem?_mapIdx] at l
  rw[List.getElem?_append_right (Nat.le_refl _),Nat.sub_self,List.getElem?_cons_zero] at l
  cases q:xs[pre.length]? with
  |none=>rw[q] at l;cases l
  |some x=>
   rw[q] at l
   simp only[Option.map_some] at l
   rw[<-Option.some.inj l]
theorem yp {step:γ->Int×δ->Option (TO γ γ ρ)} {xs:List δ} (I:List δ->γ->Prop) {b0:γ} (h0:I [] b0) (hs: ∀pre x post b,xs=pre++x::post->I pre b-> ∃b',(step b ((pre.length:Int),x)=some (.nx b')\/step b ((pre.length:Int),x)=some (.ct b'))/\I (pre++[x]) b'): ∃b',fE step (xs.mapIdx fun i x=>((i:Int),x)) b0=some (.fin b')/\I xs b':=by
 obtain⟨b',e,h⟩:=lK (step:=step) (xs:=xs.mapIdx fun i x=>((i:Int),x)) (b0:=b0) (fun pre b=>I (pre.map (·.2)) b) h0 fun pre p post b e h=>by
  obtain⟨e1,e2⟩:=Cd e
  obtain⟨b',f1,f2⟩:=hs _ _ _ b e1 h
  rw[List.length_map,←e2] at f1
  refine⟨b',f1,?_⟩
  rw[List.map_append]
  exact f2
 refine⟨b',e,?_⟩
 have:(xs.mapIdx fun i x=>((i:Int),x)).map (·.2)=xs:=by
  apply List.ext_getElem
  ·simp
  ·intro i h1 h2;simp
 rwa[this] at h
end
structure OkP (ss:List (Str×Str)) (tk:List Str) (p:List (Str×Str)):Prop where
 rise:p.Pairwise pLt
 inn: ∀q∈p,q∈ss
 apart:gR p
 free: ∀z∈bG p,z∉tk
theorem OkP.nil (ss:List (Str×Str)) (tk:List Str):OkP ss tk []:=⟨List.Pairwise.nil,by simp,List.nodup_nil,by simp[bG]⟩
end Sw
namespace Sw
open PySem PySem.Spec PyProof.Rows L2
section
variable {ns:List Str} {w:Wb} {P Q:List (Str×Str)} {ord:List Str}
theorem wg (hw:cF ns w) (hn:ns.Nodup) (hP:Plan w P):(ns.filter fun c=>(mO P c).isNone).length+2*P.length=ns.length:=by
 have h1:(ns.filter fun c=> !(mO P c).isNone).Perm (bG P):=vg (hn.filter _) hP.apart fun x=>by
  rw[List.mem_filter,HI]
  constructor
  ·rintro⟨_,h⟩
   refine Classical.byContradiction fun g=> ?_
   rw[jK.mpr g] at h
   cases h
  ·intro h
   refine⟨h.inn hw hP,?_⟩
   cases e:(mO P x).isNone with
   |true=>exact absurd h (jK.mp e)
   |false=>rfl
 have h2:=h1.length_eq
 rw[vX] at h2
 have h3: ∀(l:List Str) (f:Str->Bool),(l.filter f).length+(l.filter fun c=> !f c).length=l.length:=by
  intro l f
  induction l with
  |nil=>rfl
  |cons a l ih=>
   cases e:f a with
   |true=>rw[List.filter_cons_of_pos e,List.filter_cons_of_neg (by rw[e];decide)];simp only[List.length_cons];omega
   |false=>rw[List.filter_cons_of_neg (by rw[e];decide),List.filter_cons_of_pos (by rw[e];rfl)];simp only[List.length_cons];omega
 have:=h3 ns fun c=>(mO P c).isNone
 omega
theorem Mx.len (h:Mx ns w P) (hw:cF ns w) (hn:ns.Nodup) (hP:Plan w P) (hQ:Plan w Q):Q.length<=P.length:=by
 have h1:=h _ (N8 hw hn hQ)
 have h2:=wg hw hn hP
 have h3:=wg hw hn hQ
 omega
end
end Sw
namespace Sw
open PySem PySem.Spec PyProof.Rows L2
def Tr:SR:=fun _ _=>True
def FlA (m':Str->Option Str) (row:List Str):Prop:=Alt Tr (E0 m') row
section
variable {X Y:SR}
theorem Alt.split: ∀(n:Nat) {r s:List Str},r.length<=n->r.length%2=1->Alt X Y (r++s)->Alt X Y r/\Alt Y X s/\ ∀a b,r.getLast? =some a->s.head? =some b->X a b
 |n,[],_,_,h,_=>by simp at h
 |n,[x],[],_,_,_=>⟨trivial,trivial,fun a b _ h=>by cases h⟩
 |n,[x],y::s,_,_,h=>⟨trivial,h.2,fun a b h1 h2=>by cases h1;cases h2;exact h.1⟩
 |n,[x,y],_,_,h,_=>by simp at h
 |0,x::y::z::r,_,h,_,_=>by simp at h
 |n+1,x::y::z::r,s,hn,ho,hr=>by
  obtain⟨a,b,c⟩:=Alt.split n (r:=z::r) (s:=s) (by simp at hn ⊢; omega) (by simp at ho ⊢; omega) hr.2.2
  refine⟨⟨hr.1,hr.2.1,a⟩,b,fun u v h1 h2=>c u v ?_ h2⟩
  rw[<-h1];simp[List.getLast?_cons_cons]
end
theorem Tr.symm (a b:Str) (_:Tr a b):Tr b a:=trivial
structure Flp (m m':Str->Option Str) (ms row:List Str):Prop where
 off: ∀d∈ms,d∉row->m' d=m d
 on:FlA m' row
structure zv (m:Str->Option Str) (L:List (Str×Str)) (n:Nat) (k:aF) (ms:List Str) (c b:Str) (row:List Str):Prop extends Led m L ms c b row where
 reb: ∀m',Flp m m' ms row->KB m' n k c ms
theorem zv.single {m:Str->Option Str} {L:List (Str×Str)} {n:Nat} (c:Str):zv m L (n+1) (.single c) [c] c c [c]:=⟨Led.single c,fun _ _=>⟨rfl,rfl⟩⟩
structure DV (m:Str->Option Str) (L:List (Str×Str)) (N:Nat) (t:List Kt) (w:Nat->Nat) (Lk:Nat->Str->Str->Prop) (c:Str) (k0 k:Nat) (row:List Str) (nb:Nat->Str):Prop extends Part m L t w c k row where
 le:k<=k0
 lt:k0<t.length
 par:(k0 -k)%2=0
 hd:nb k0=c
 up: ∀x∈row,∃j y,k<=j/\j<=k0/\t[w j]? =some y/\x∈y.ms
 lk: ∀j,k<=j->j<k0->(k0 -j)%2=0->Lk j (nb (j+1)) (nb j)
 reb: ∀m',(∀j y,k<=j->j<=k0->t[w j]? =some y-> ∀d∈y.ms,d∉row->m' d=m d)->FlA m' row->(∀j y,k<=j->j<=k0->t[w j]? =some y->KB m' N y.k (nb j) y.ms)/\ ∀j,k<=j->j<k0->(k0 -j)%2=0->E0 m' (nb (j+1)) (nb j)
section
variable {m:Str->Option Str} {L:List (Str×Str)} {N:Nat} {t:List Kt} {w:Nat->Nat} {Lk:Nat->Str->Str->Prop} {c:Str} {k0 k:Nat} {row r1 r2:List Str} {nb:Nat->Str}
theorem zv.part (hk:k<t.length) {x:Kt} (hx:t[w k]? =some x) (h:zv m L N x.k x.ms c x.b row):DV m L N t w Lk c k k row (fun _=>c) where
 toPart:=Led.part hk hx h.toLed
 le:=Nat.le_refl _
 lt:=hk
 par:=by omega
 hd:=rfl
 up:=fun a ha=>⟨k,x,Nat.le_refl _,Nat.le_refl _,hx,h.inn a ha⟩
 lk:=fun j h1 h2=>by omega
 reb:=fun m' h1 h2=>⟨fun j y a b hy=>by
  have:j=k:=by omega
  subst this
  rw[hx] at hy;cases hy
  exact h.reb m' ⟨fun d hd hn=>h1 j x a b hx d hd hn,h2⟩,fun j h1 h2=>by omega⟩
theorem DV.step (nd:(t.map (·.ms)).flatten.Nodup) (wi: ∀i j,i<t.length->j<t.length->w i=w j->i=j) (hk:k+2<t.length) (h:DV m L N t w Lk c k0 (k+2) row nb) {x y z:Kt} (hx:t[w (k+2)]? =some x) (hy:t[w (k+1)]? =some y) (hz:t[w k]? =some z) (e0:E0 m x.b y.b) {l e:Str} (e1:E1 m L l e) (hl:Lk k l e) (h1:zv m L N y.k y.ms l y.b r1) (h2:zv m L N z.k z.ms e z.b r2):
  DV m L N t w Lk c k0 k (row++r1.reverse++r2) (fun j=>if j=k then e else if j=k+1 then l else nb j):=by
 have dis: ∀{i j:Nat} {u v:Kt},t[w i]? =some u->t[w j]? =some v->i<t.length->j<t.length-> ∀{a:Str},a∈u.ms->a∈v.ms->i=j:=fun {i j u v} hu hv hi hj {a} ha hb=>wi _ _ hi hj (fh nd hu hv ha hb)
 have hle:=h.le
 have hlt:=h.lt
 have hpar:=h.par
 have nbe: ∀j,k+2<=j->(if j=k then e else if j=k+1 then l else nb j)=nb j:=fun j hj=>by rw[if_neg (by omega),if_neg (by omega)]
 refine⟨Part.step nd wi hk h.toPart hx hy hz e0 e1 h1.toLed h2.toLed,by omega,hlt,by omega,by rw[nbe _ hle];exact h.hd,fun a ha=> ?_,fun j j1 j2 j3=> ?_,fun m' f1 f2=> ?_⟩
 ·rcases List.mem_append.mp ha with ha|ha
  ·rcases List.mem_append.mp ha with ha|ha
   ·obtain⟨j,v,j1,j2,j3,j4⟩:=h.up a ha
    exact⟨j,v,by omega,j2,j3,j4⟩
   ·exact⟨k+1,y,by omega,by omega,hy,h1.inn a (List.mem_reverse.mp ha)⟩
  ·exact⟨k,z,Nat.le_refl _,by omega,hz,h2.inn a ha⟩
 ·by_cases jk:j=k
  ·subst jk
   rw[if_pos rfl,if_neg (by omega),if_pos rfl]
   exact hl
  ·by_cases jk1:j=k+1
   ·omega
   ·rw[nbe j (by omega),nbe (j+1) (by omega)]
    exact h.lk j (by omega) j2 j3
 ·have o1:=h.odd
  have o2:=h1.odd
  unfold FlA at f2
  rw[List.append_assoc] at f2
  obtain⟨a1,a2,_⟩:=Alt.split _ (Nat.le_refl _) o1 f2
  obtain⟨a3,a4,a5⟩:=Alt.split _ (Nat.le_refl _) (by rw[List.length_reverse];exact o2) a2
  have a6:=a3.rev E0.symm Tr.symm _ (Nat.le_refl _) (by rw[List.length_reverse];exact o2)
  rw[List.reverse_reverse] at a6
  have nin: ∀{j:Nat} {v:Kt} {d:Str},j<t.length->t[w j]? =some v->d∈v.ms->(j<k+2->d∉row)/\(j≠k+1->d∉r1)/\(j≠k->d∉r2):=fun {j v d} jl hv hd=>by
   refine⟨fun j1 m1=> ?_,fun j1 m1=> ?_,fun j1 m1=> ?_⟩
   ·obtain⟨i,u,i1,i2,i3,i4⟩:=h.up d m1
    have:=dis i3 hv (by omega) jl i4 hd
    omega
   ·exact j1 (dis hv hy jl (by omega) hd (h1.inn d m1))
   ·exact j1 (dis hv hz jl (by omega) hd (h2.inn d m1))
  have out: ∀d,d∉row->d∉r1->d∉r2->d∉row++r1.reverse++r2:=fun d n1 n2 n3 g=>by
   rcases List.mem_append.mp g with g|g
   ·rcases List.mem_append.mp g with g|g
    ·exact n1 g
    ·exact n2 (List.mem_reverse.mp g)
   ·exact n3 g
  obtain⟨b1,b2⟩:=h.reb m' (fun j v j1 j2 hv d hd hn=>by
   obtain⟨_,c2,c3⟩:=nin (by omega) hv hd
   exact f1 j v (by omega) j2 hv d hd (out d hn (c2 (by omega)) (c3 (by omega)))) a1
  have by':=h1.reb m' ⟨fun d hd hn=>by
   obtain⟨c1,_,c3⟩:=nin (by omega) hy hd
   exact f1 (k+1) y (by omega) (by omega) hy d hd (out d (c1 (by omega)) hn (c3 (by omega))),a6⟩
  have bz':=h2.reb m' ⟨fun d hd hn=>by
   obtain⟨c1,c2,_⟩:=nin (by omega) hz hd
   exact f1 k z (by omega) (by omega) hz d hd (out d (c1 (by omega)) (c2 (by omega)) hn),a4⟩
  refine⟨fun j v j1 j2 hv=> ?_,fun j j1 j2 j3=> ?_⟩
  ·by_cases jk:j=k
   ·subst jk
    rw[hz] at hv;cases hv
    rw[if_pos rfl];exact bz'
   ·by_cases jk1:j=k+1
    ·subst jk1
     rw[hy] at hv;cases hv
     rw[if_neg (by omega),if_pos rfl];exact by'
    ·rw[nbe j (by omega)];exact b1 j v (by omega) j2 hv
  ·by_cases jk:j=k
   ·subst jk
    rw[if_pos rfl,if_neg (by omega),if_pos rfl]
    exact a5 l e (by rw[List.getLast?_reverse];exact h1.head) h2.head
   ·by_cases jk1:j=k+1
    ·omega
    ·rw[nbe j (by omega),nbe (j+1) (by omega)]
     exact b2 j (by omega) j2 j3
def reT (t:List Kt) (f:Nat->Str):List Kt:=t.mapIdx fun i x=>⟨x.k,f i,x.ms⟩
theorem sy (f:Nat->Str):(reT t f).length=t.length:=by unfold reT;simp
theorem zw (f:Nat->Str) (i:Nat):(reT t f)[i]? =t[i]?.map fun x=>⟨x.k,f i,x.ms⟩:=by unfold reT;simp
theorem Mp (f:Nat->Str):(reT t f).map (·.ms)=t.map (·.ms):=by
 apply List.ext_getElem?
 intro i
 rw[List.getElem?_map,zw,List.getElem?_map]
 cases t[i]? <;> rfl
theorem ig.reb {m':Str->Option Str} {p q:Nat} {l:List (Str×Str)} (h:ig m t p l) (hk: ∀x∈t,KB m N x.k x.b x.ms) (hq:q<t.length) (f:Nat->Str) (on:Nat->Prop) [DecidablePred on]
  (hon: ∀i y,on i->t[i]? =some y->KB m' N y.k (f i) y.ms) (hoff: ∀i y,¬on i->t[i]? =some y->f i=y.b/\ ∀d∈y.ms,m' d=m d)
  (hl: ∀i a,i<t.length->off t.length q i%2=1->l[i]? =some a->(on i/\on (nx t.length i)/\a=(f i,f (nx t.length i))/\E0 m' (f i) (f (nx t.length i)))\/(¬on i/\ ¬on (nx t.length i)/\off t.length p i%2=1)):
  ig m' (reT t f) q l/\ ∀x∈reT t f,KB m' N x.k x.b x.ms:=by
 constructor
 ·refine⟨by rw[sy];exact hq,by rw[sy];exact h.odd,by rw[Mp];exact h.nd,by rw[sy];exact h.len,fun j x y a jl hx hy ha=> ?_,by rw[sy];exact h.three⟩
  rw[sy] at jl hy⊢
  rw[zw] at hx hy
  obtain⟨x0,hx0,rfl⟩:=Option.map_eq_some_iff.mp hx
  obtain⟨y0,hy0,rfl⟩:=Option.map_eq_some_iff.mp hy
  obtain⟨g1,g2,g3⟩:=h.link j x0 y0 a jl hx0 hy0 ha
  refine⟨fun o=> ?_,g2,g3⟩
  rcases hl j a jl o ha with ⟨_,_,e1,e2⟩|⟨n1,n2,o2⟩
  ·exact⟨e1,e2.1,e2.2⟩
  ·obtain⟨e1,m1,m2⟩:=g1 o2
   obtain⟨f1,u1⟩:=hoff j x0 n1 hx0
   obtain⟨f2,u2⟩:=hoff _ y0 n2 hy0
   show a=(f j,f (nx t.length j))/\m' (f j)=some (f (nx t.length j))/\m' (f (nx t.length j))=some (f j)
   rw[f1,f2,u1 _ (hk x0 (List.mem_of_getElem? hx0)).base,u2 _ (hk y0 (List.mem_of_getElem? hy0)).base]
   exact⟨e1,m1,m2⟩
 ·intro x hx
  obtain⟨i,hi⟩:=List.getElem?_of_mem hx
  rw[zw] at hi
  obtain⟨x0,hx0,rfl⟩:=Option.map_eq_some_iff.mp hi
  by_cases o:on i
  ·exact hon i x0 o hx0
  ·obtain⟨e,u⟩:=hoff i x0 o hx0
   show KB m' N x0.k (f i) x0.ms
   rw[e]
   exact (hk x0 (List.mem_of_getElem? hx0)).congr fun d hd _=>u d hd
end
end Sw
namespace Sw
open PySem PySem.Spec PyProof.Rows L2
def Reb (ks:List Kt) (M:Str->Option Str) (row:List Str):Prop:= ∀m',(∀v∈ks,(∃a∈row,a∈v.ms)-> ∀d∈v.ms,d∉row->m' d=M d)->FlA m' row-> ∀v∈ks,(∃a∈row,a∈v.ms)-> ∃c',KB m' (hf v.ms) v.k c' v.ms
section
variable {ns:List Str} {L:List (Str×Str)} {o:a9} {ks:List Kt} {lv:Str->Nat} {rt:Str->Str} {z w x y:Kt} {c:Str} {row r1 r2:List Str} {M M':Str->Option Str} {R:Str->Prop}
theorem Reb.led (hT:fC ns L M ks) (hn:ns.Nodup) (hz:z∈ks) (h:zv M L (hf z.ms) z.k z.ms c z.b row):Reb ks M row:=fun m' h1 h2 v hv ⟨a,a1,a2⟩=>by
 have:=hT.one hn hz hv (h.inn a a1) a2
 subst this
 exact⟨c,h.reb m' ⟨h1 z hz ⟨a,a1,a2⟩,h2⟩⟩
theorem Reb.step (h:SI ns L o ks lv rt) (g:Gr ns L (aC o.mates.l)) (hw:WP L o ks lv rt c z row) (hr:Reb ks (aC o.mates.l) row) {s:Stq} (u:UpS L o ks lv rt z s) (h1:zv (aC o.mates.l) L (hf s.x.ms) s.x.k s.x.ms s.other s.x.b r1) (h2:zv (aC o.mates.l) L (hf s.y.ms) s.y.k s.y.ms s.one s.y.b r2):Reb ks (aC o.mates.l) (row++r1.reverse++r2):=fun m' f1 f2=>by
 have a1:=u.l1
 have a2:=u.l2
 have one: ∀{u' v:Kt},u'∈ks->v∈ks-> ∀{a:Str},a∈u'.ms->a∈v.ms->u'=v:=fun {u' v} hu hv {a} ha hb=>h.tops.one g.nd hu hv ha hb
 have far: ∀{v:Kt},v∈ks->(∃a∈row,a∈v.ms)->v≠s.x/\v≠s.y:=fun {v} hv ⟨a,b1,b2⟩=>by
  obtain⟨u',u1,u2,u3,_⟩:=hw.inn a b1
  have:=one hv u1 b2 u2
  subst this
  exact⟨fun e=>by rw[e] at u3;omega,fun e=>by rw[e] at u3;omega⟩
 have xy:s.x≠s.y:=fun e=>by rw[e] at a1;omega
 unfold FlA at f2
 rw[List.append_assoc] at f2
 obtain⟨b1,b2,_⟩:=Alt.split _ (Nat.le_refl _) hw.odd f2
 obtain⟨b3,b4,_⟩:=Alt.split _ (Nat.le_refl _) (by rw[List.length_reverse];exact h1.odd) b2
 have b5:=b3.rev E0.symm Tr.symm _ (Nat.le_refl _) (by rw[List.length_reverse];exact h1.odd)
 rw[List.reverse_reverse] at b5
 have out: ∀d,d∉row->d∉r1->d∉r2->d∉row++r1.reverse++r2:=fun d n1 n2 n3 q=>by
  rcases List.mem_append.mp q with q|q
  ·rcases List.mem_append.mp q with q|q
   ·exact n1 q
   ·exact n2 (List.mem_reverse.mp q)
  ·exact n3 q
 intro v hv ⟨a,m1,m2⟩
 rcases List.mem_append.mp m1 with m1|m1
 ·rcases List.mem_append.mp m1 with m1|m1
  ·refine hr m' (fun v' hv' t' d hd hn=> ?_) b1 v hv ⟨a,m1,m2⟩
   obtain⟨t1,t2,t3⟩:=t'
   obtain⟨e1,e2⟩:=far hv' ⟨t1,t2,t3⟩
   exact f1 v' hv' ⟨t1,List.mem_append_left _ (List.mem_append_left _ t2),t3⟩ d hd (out d hn (fun q=>e1 (one hv' u.xk hd (h1.inn d q))) fun q=>e2 (one hv' u.yk hd (h2.inn d q)))
  ·have m1':=List.mem_reverse.mp m1
   have e:=one u.xk hv (h1.inn a m1') m2
   subst e
   exact⟨_,h1.reb m' ⟨fun d hd hn=>f1 _ u.xk ⟨a,List.mem_append_left _ (List.mem_append_right _ m1),m2⟩ d hd (out d (fun q=>(far u.xk ⟨d,q,hd⟩).1 rfl) hn fun q=>xy (one u.xk u.yk hd (h2.inn d q))),b5⟩⟩
 ·have e:=one u.yk hv (h2.inn a m1) m2
  subst e
  exact⟨_,h2.reb m' ⟨fun d hd hn=>f1 _ u.yk ⟨a,List.mem_append_right _ m1,m2⟩ d hd (out d (fun q=>(far u.yk ⟨d,q,hd⟩).2 rfl) (fun q=>xy (one u.xk u.yk (h1.inn d q) hd)) hn),b4⟩⟩
end
inductive Sbk (a:aF):aF->Prop where
 |refl:Sbk a a
 |inn {k:aF} {r:List aF} {l:List (Str×Str)}:k∈r->Sbk a k->Sbk a (.group r l)
theorem Sbk.trans {a b c:aF} (h:Sbk a b) (g:Sbk b c):Sbk a c:=by
 induction g with
 |refl=>exact h
 |inn m _ ih=>exact .inn m ih
theorem Sbk.kb {m:Str->Option Str} {a k:aF} (h:Sbk a k): ∀{n:Nat} {b:Str} {ms:List Str},KB m n k b ms-> ∃n' b' ms',KB m n' a b' ms':=by
 induction h with
 |refl=>intro n b ms g;exact⟨n,b,ms,g⟩
 |inn hm _ ih=>
  intro n b ms g
  cases n with
  |zero=>exact g.elim
  |succ n=>
   obtain⟨t,p,h1,h2,h3,h4,h5⟩:=g
   rw[h2] at hm
   obtain⟨x,hx,rfl⟩:=List.mem_map.mp hm
   exact ih (h3 x hx)
theorem DW {R S:aF->List Str->Prop}: ∀{r:List aF} {xs ys:List (List Str)},(∀k∈r,∀a b,R k a->S k b->a=b)->F2 R r xs->F2 S r ys->xs=ys
 |_,_,_,_,.nil,.nil=>rfl
 |k::r,a::xs,b::ys,h,.cons h1 h2,.cons g1 g2=>by
  rw[h k List.mem_cons_self a b h1 g1,DW (fun k hk=>h k (List.mem_cons_of_mem _ hk)) h2 g2]
theorem KM.uniq: ∀{n n':Nat} {k:aF} {ms ms':List Str},KM n k ms->KM n' k ms'->ms=ms'
 |0,_,_,_,_,h,_=>h.elim
 |_+1,0,_,_,_,_,h=>h.elim
 |n+1,n'+1,.single c,_,_,h,g=>h.trans g.symm
 |n+1,n'+1,.group r l,_,_,⟨rs,h1,h2⟩,⟨rs',g1,g2⟩=>by
  have e:=DW (R:=KM n) (S:=KM n') (fun k _ a b ha hb=>KM.uniq ha hb) h1 g1
  rw[h2,g2,e]
theorem A7 {t:List Kt} (hp: ∀x∈t,1<=x.ms.length):t.length<=(t.map (·.ms)).flatten.length:=by
 induction t with
 |nil=>exact Nat.zero_le _
 |cons x t ih=>
  have:=hp x List.mem_cons_self
  have:=ih fun y hy=>hp y (List.mem_cons_of_mem _ hy)
  rw[List.map_cons,List.flatten_cons,List.length_append,List.length_cons]
  omega
theorem EI {t:List Kt} (hp: ∀x∈t,1<=x.ms.length) {x:Kt} (hx:x∈t):x.ms.length+t.length<=(t.map (·.ms)).flatten.length+1:=by
 induction t with
 |nil=>cases hx
 |cons y t ih=>
  rw[List.map_cons,List.flatten_cons,List.length_append,List.length_cons]
  rcases List.mem_cons.mp hx with rfl|hx
  ·have:=A7 fun z hz=>hp z (List.mem_cons_of_mem x hz)
   omega
  ·have:=ih (fun z hz=>hp z (List.mem_cons_of_mem _ hz)) hx
   have:=hp y List.mem_cons_self
   omega
theorem KB.fit {m:Str->Option Str}: ∀{n:Nat} {k:aF} {b:Str} {ms:List Str},KB m n k b ms->KB m (hf ms) k b ms
 |0,_,_,_,h=>h.elim
 |n+1,.single c,b,ms,h=>by
  rw[h.2,show hf [c]=0+1 by simp[hf]]
  exact⟨h.1,rfl⟩
 |n+1,.group r l,b,ms,⟨t,p,h1,h2,h3,h4,h5⟩=>by
  have pos: ∀x∈t,1<=x.ms.length:=fun x hx=>List.length_pos_of_mem (h3 x hx).base
  have ml:ms.length=(t.map (·.ms)).flatten.length:=by rw[h4,(bg _).length_eq]
  have t3:=h1.three
  have big:=A7 pos
  obtain⟨q,hq⟩: ∃q,hf ms=q+1:=⟨hf ms -1,by unfold hf;omega⟩
  rw[hq]
  refine⟨t,p,h1,h2,fun x hx=>(h3 x hx).fit.mono ?_,h4,h5⟩
  have:=EI pos hx
  unfold hf at hq⊢
  omega
theorem KB.part {m:Str->Option Str} {m0:Str->Option Str} {a k:aF} {n n0:Nat} {b b0:Str} {ms ms0:List Str} (h:KB m n k b ms) (s:Sbk a k) (h0:KB m0 n0 a b0 ms0): ∃c,KB m (hf ms0) a c ms0:=by
 obtain⟨n',b',ms',g⟩:=s.kb h
 have:=KM.uniq g.km h0.km
 subst this
 exact⟨b',g.fit⟩
end Sw
namespace Sw
open PySem PySem.Spec PyProof.Rows L2
def w7 (q:Str×Str):Nat->aF->Prop
 |0,_=>False
 |_+1,.single _=>False
 |n+1,.group r l=>(q∈l\/(q.2,q.1)∈l)\/ ∃k∈r,w7 q n k
theorem w7.symm {a b:Str}: ∀{n:Nat} {k:aF},w7 (a,b) n k->w7 (b,a) n k
 |0,_,h=>h.elim
 |_+1,.single _,h=>h.elim
 |n+1,.group r l,h=>h.imp (fun h=>h.symm) fun⟨k,hk,h⟩=>⟨k,hk,h.symm⟩
theorem w7.up {q:Str×Str}: ∀{n:Nat} {k:aF},w7 q n k->w7 q (n+1) k
 |0,_,h=>h.elim
 |_+1,.single _,h=>h.elim
 |n+1,.group r l,h=>h.imp id fun⟨k,hk,h⟩=>⟨k,hk,h.up⟩
section
variable {M:Str->Option Str}
theorem w7.fit {q:Str×Str}: ∀{n N:Nat} {k:aF} {b:Str} {ms:List Str},w7 q N k->KB M n k b ms->w7 q n k
 |_,0,_,_,_,h,_=>h.elim
 |0,_+1,_,_,_,_,g=>g.elim
 |n+1,N+1,.single _,_,_,h,_=>h.elim
 |n+1,N+1,.group r l,_,_,h,⟨t,p,h1,h2,h3,_,_⟩=>h.imp id fun⟨k,hk,h⟩=>by
  rw[h2] at hk
  obtain⟨x,hx,rfl⟩:=List.mem_map.mp hk
  exact⟨x.k,by rw[h2];exact List.mem_map_of_mem hx,h.fit (h3 x hx)⟩
end
theorem EJ {ns:List Str} {L:List (Str×Str)} {M:Str->Option Str} {pre post:List Kt} {z:Kt} (h:fC ns L M (pre++z::post)) {r:List aF} {l:List (Str×Str)} (e:z.k= .group r l): ∃t:List Kt,t.map (·.k)=r/\fC ns L M (pre++t++post):=by
 have hz:z∈pre++z::post:=by simp
 have kb:=h.kb z hz
 have kl:=h.kl z hz
 obtain⟨n,hn⟩: ∃n,hf z.ms=n+1:=by
  cases q:hf z.ms with
  |zero=>rw[q] at kb;exact kb.elim
  |succ n=>exact⟨n,rfl⟩
 rw[hn,e] at kb kl
 obtain⟨t,p,h1,h2,h3,h4,h5⟩:=kb
 refine⟨t,h2.symm,?_,fun x hx=> ?_,fun x hx=> ?_⟩
 ·have p0:=h.perm
  rw[List.map_append,List.map_cons,List.flatten_append,List.flatten_cons,h4] at p0
  refine List.Perm.trans ?_ p0
  rw[List.map_append,List.map_append,List.flatten_append,List.flatten_append,List.append_assoc]
  exact List.Perm.append_left _ (List.Perm.append_right _ (bg _).symm)
 ·rcases List.mem_append.mp hx with hx|hx
  ·rcases List.mem_append.mp hx with hx|hx
   ·exact h.kb x (List.mem_append_left _ hx)
   ·exact (h3 x hx).fit
  ·exact h.kb x (List.mem_append_right _ (List.mem_cons_of_mem _ hx))
 ·rcases List.mem_append.mp hx with hx|hx
  ·rcases List.mem_append.mp hx with hx|hx
   ·exact h.kl x (List.mem_append_left _ hx)
   ·have g:=kl.2 x.k (by rw[h2];exact List.mem_map_of_mem hx)
    have key: ∀{n:Nat} {k:aF},KL L n k-> ∀{N:Nat} {b:Str} {ms:List Str},KB M N k b ms->KL L N k:=by
     intro n
     induction n with
     |zero=>intro k h;exact h.elim
     |succ n ih=>
      intro k h N b ms g
      cases k with
      |single c=>
       cases N with
       |zero=>exact g.elim
       |succ N=>exact trivial
      |group r l=>
       cases N with
       |zero=>exact g.elim
       |succ N=>
        obtain⟨t,p,g1,g2,g3,_,_⟩:=g
        refine⟨h.1,fun k hk=> ?_⟩
        rw[g2] at hk
        obtain⟨y,hy,rfl⟩:=List.mem_map.mp hk
        exact ih (h.2 y.k (by rw[g2];exact List.mem_map_of_mem hy)) (g3 y hy)
    exact key g (h3 x hx).fit
  ·exact h.kl x (List.mem_append_right _ (List.mem_cons_of_mem _ hx))
end Sw
namespace Sw
open PySem PySem.Spec PyProof.Rows L2
mutual
def sA:aF->List Str
 | .single c=>[c]
 | .group r _=>qO (uf r)
def uf:List aF->List Str
 | []=>[]
 |k::r=>sA k++uf r
end
mutual
def grK:aF->List (List Str)
 | .single _=>[]
 | .group r _=>qO (uf r)::Ce r
def Ce:List aF->List (List Str)
 | []=>[]
 |k::r=>grK k++Ce r
end
theorem mU: ∀r:List aF,Ce r=(r.map grK).flatten
 | []=>rfl
 |k::r=>by unfold Ce;rw[mU r];rfl
theorem qU: ∀r:List aF,uf r=(r.map sA).flatten
 | []=>rfl
 |k::r=>by unfold uf;rw[qU r];rfl
section
variable {m:Str->Option Str}
theorem KB.mem: ∀{n:Nat} {k:aF} {b:Str} {ms:List Str},KB m n k b ms->sA k=ms
 |0,_,_,_,h=>h.elim
 |n+1,.single c,_,_,h=>by unfold sA;exact h.2.symm
 |n+1,.group r l,b,_,⟨t,p,h1,h2,h3,h4,h5⟩=>by
  unfold sA
  rw[h4,qU,h2,List.map_map]
  congr 2
  exact List.map_congr_left fun x hx=>(h3 x hx).mem
theorem KB.gr: ∀{n:Nat} {k:aF} {b:Str} {ms:List Str},KB m n k b ms-> ∀g∈grK k,(∀c∈g,c∈ms)/\ ∃r l n' b',KB m n' (.group r l) b' g
 |0,_,_,_,h,_,_=>h.elim
 |n+1,.single c,_,_,h,g,hg=>by unfold grK at hg;cases hg
 |n+1,.group r l,b,_,h,g,hg=>by
  have hm:=h.mem
  obtain⟨t,p,h1,h2,h3,h4,h5⟩:=id h
  unfold grK at hg
  rcases List.mem_cons.mp hg with e|hg
  ·have e2:g=sA (.group r l):=by rw[e];unfold sA;rfl
   rw[e2,hm]
   exact⟨fun c hc=>hc,r,l,n+1,b,h⟩
  ·rw[mU,h2,List.map_map,List.mem_flatten] at hg
   obtain⟨gs,hgs,gm⟩:=hg
   obtain⟨x,hx,rfl⟩:=List.mem_map.mp hgs
   obtain⟨q1,q2⟩:=(h3 x hx).gr g gm
   exact⟨fun c hc=>by rw[h4,v8,cG];exact⟨x,hx,q1 c hc⟩,q2⟩
theorem KB.three {n:Nat} {r:List aF} {l:List (Str×Str)} {b:Str} {ms:List Str} (h:KB m n (.group r l) b ms):3<=ms.length/\ ∀x∈r,(sA x).length+2<=ms.length:=by
 cases n with
 |zero=>exact h.elim
 |succ n=>
  obtain⟨t,p,h1,h2,h3,h4,h5⟩:=h
  have pos: ∀y∈t.map (·.ms),1<=y.length:=fun y hy=>by
   obtain⟨x,hx,rfl⟩:=List.mem_map.mp hy
   exact List.length_pos_of_mem (h3 x hx).base
  have three:=h1.three
  have ml:ms.length=(t.map (·.ms)).flatten.length:=by rw[h4,yf]
  refine⟨?_,fun x hx=> ?_⟩
  ·have:=v9 pos
   rw[List.length_map] at this
   omega
  ·rw[h2] at hx
   obtain⟨y,hy,rfl⟩:=List.mem_map.mp hx
   rw[(h3 y hy).mem]
   have:=yn pos (List.mem_map_of_mem hy)
   rw[List.length_map] at this
   omega
theorem KB.gr3 {n:Nat} {k:aF} {b:Str} {ms:List Str} (h:KB m n k b ms) {g:List Str} (hg:g∈grK k):3<=g.length/\g.length%2=1/\g.Pairwise cC:=by
 obtain⟨_,r,l,n',b',q⟩:=h.gr g hg
 exact⟨q.three.1,q.zu,q.rise⟩
theorem qV: ∀{xs:List Kt},(∀x∈xs,(grK x.k).Nodup/\ ∀g∈grK x.k,g≠[]/\ ∀c∈g,c∈x.ms)->(xs.map (·.ms)).flatten.Nodup->(xs.map fun x=>grK x.k).flatten.Nodup
 | [],_,_=>List.nodup_nil
 |x::xs,h,nd=>by
  rw[List.map_cons,List.flatten_cons,List.nodup_append] at nd⊢
  refine⟨(h x List.mem_cons_self).1,qV (fun y hy=>h y (List.mem_cons_of_mem _ hy)) nd.2.1,fun g hg g2 hg2 e=> ?_⟩
  subst e
  obtain⟨gs,hgs,gm⟩:=List.mem_flatten.mp hg2
  obtain⟨y,hy,rfl⟩:=List.mem_map.mp hgs
  obtain⟨ne,a1⟩:=(h x List.mem_cons_self).2 g hg
  obtain⟨_,a2⟩:=(h y (List.mem_cons_of_mem _ hy)).2 g gm
  cases g with
  |nil=>exact ne rfl
  |cons c g=>exact nd.2.2 c (a1 c List.mem_cons_self) c (cG.mpr ⟨y,hy,a2 c List.mem_cons_self⟩) rfl
theorem KB.Cf: ∀{n:Nat} {k:aF} {b:Str} {ms:List Str},KB m n k b ms->(grK k).Nodup
 |0,_,_,_,h=>h.elim
 |n+1,.single c,_,_,h=>by unfold grK;exact List.nodup_nil
 |n+1,.group r l,b,ms,h=>by
  have hm:=h.mem
  have h3':=h.three.2
  obtain⟨t,p,h1,h2,h3,h4,h5⟩:=id h
  unfold grK
  have ge:Ce r=(t.map fun x=>grK x.k).flatten:=by rw[mU,h2,List.map_map];rfl
  rw[List.nodup_cons]
  constructor
  ·intro hg
   have e2:qO (uf r)=ms:=by rw[<-hm];unfold sA;rfl
   rw[e2,ge,List.mem_flatten] at hg
   obtain⟨gs,hgs,gm⟩:=hg
   obtain⟨x,hx,rfl⟩:=List.mem_map.mp hgs
   obtain⟨q1,_⟩:=(h3 x hx).gr ms gm
   have l1:=lq h.nodup q1
   have l2:=h3' x.k (by rw[h2];exact List.mem_map_of_mem hx)
   rw[(h3 x hx).mem] at l2
   omega
  ·rw[ge]
   exact qV (fun x hx=>⟨(h3 x hx).Cf,fun g hg=>⟨fun e=>by have:=((h3 x hx).gr3 hg).1;rw[e] at this;simp at this,((h3 x hx).gr g hg).1⟩⟩) h1.nd
end
def grT (ks:List Kt):List (List Str):=(ks.map fun x=>grK x.k).flatten
section
variable {ns:List Str} {L:List (Str×Str)} {M:Str->Option Str} {ks:List Kt} {x y:Kt} {g:List Str} {a b c:Str}
theorem zx:g∈grT ks↔ ∃x∈ks,g∈grK x.k:=by
 unfold grT
 rw[List.mem_flatten]
 constructor
 ·rintro⟨gs,hgs,gm⟩
  obtain⟨x,hx,rfl⟩:=List.mem_map.mp hgs
  exact⟨x,hx,gm⟩
 ·rintro⟨x,hx,gm⟩
  exact⟨_,List.mem_map_of_mem hx,gm⟩
theorem fC.Cf (h:fC ns L M ks) (hn:ns.Nodup):(grT ks).Nodup:=
 qV (fun x hx=>⟨(h.kb x hx).Cf,fun g hg=>⟨fun e=>by have:=((h.kb x hx).gr3 hg).1;rw[e] at this;simp at this,((h.kb x hx).gr g hg).1⟩⟩) (h.nd hn)
theorem fC.gr (h:fC ns L M ks) (hg:g∈grT ks):3<=g.length/\g.length%2=1/\g.Pairwise cC/\(∀c∈g,c∈ns)/\ ∃r l n b,KB M n (.group r l) b g:=by
 obtain⟨x,hx,gm⟩:=zx.mp hg
 obtain⟨a1,a2,a3⟩:=(h.kb x hx).gr3 gm
 obtain⟨b1,b2⟩:=(h.kb x hx).gr g gm
 exact⟨a1,a2,a3,fun c hc=>h.inn hx (b1 c hc),b2⟩
end
def mG (q:List Str->Int) (G:List (List Str)) (a b:Str):Int:=((G.filter fun g=>decide (a∈g)&&decide (b∈g)).map q).sum
def tot (p:Str->Int) (q:List Str->Int) (G:List (List Str)) (a b:Str):Int:=p a+p b+mG q G a b
section
variable {p:Str->Int} {q q':List Str->Int} {G:List (List Str)} {a b:Str}
theorem EK:mG q G a b=mG q G b a:=by
 unfold mG
 congr 2
 exact List.filter_congr fun g _=>Bool.and_comm _ _
theorem HK:tot p q G a b=tot p q G b a:=by
 unfold tot
 rw[EK];omega
theorem iz {g:List Str}:mG q (g::G) a b=(if a∈g/\b∈g then q g else 0)+mG q G a b:=by
 unfold mG
 by_cases h:a∈g/\b∈g
 ·rw[if_pos h,List.filter_cons_of_pos (by simpa using h),List.map_cons,List.sum_cons]
 ·rw[if_neg h,List.filter_cons_of_neg (by simpa using h)];omega
theorem HL {G':List (List Str)}:mG q (G++G') a b=mG q G a b+mG q G' a b:=by
 unfold mG
 rw[List.filter_append,List.map_append,List.sum_append]
theorem EL {G':List (List Str)} (h:G.Perm G'):mG q G a b=mG q G' a b:=by
 induction h with
 |nil=>rfl
 |cons x _ ih=>rw[iz,iz,ih]
 |swap x y l=>rw[iz,iz,iz,iz];omega
 |trans _ _ i1 i2=>rw[i1,i2]
theorem EM (h: ∀g∈G,q g%2=0):mG q G a b%2=0:=by
 induction G with
 |nil=>rfl
 |cons g G ih=>
  rw[iz]
  have h1:=h g List.mem_cons_self
  have h2:=ih fun g' hg=>h g' (List.mem_cons_of_mem _ hg)
  split <;> omega
end
end Sw
namespace Sw
open PySem PySem.Spec PyProof.Rows L2
theorem EN {q:List Str->Int} {G:List (List Str)} {a b:Str} (h: ∀g∈G,q g=0):mG q G a b=0:=by
 induction G with
 |nil=>rfl
 |cons g G ih=>
  rw[iz,ih fun g' hg=>h g' (List.mem_cons_of_mem _ hg),h g List.mem_cons_self]
  split <;> rfl
theorem wh {q:List Str->Int} {G G':List (List Str)} {a b:Str} (n1:G.Nodup) (n2:G'.Nodup) (sub: ∀g∈G,g∈G') (z: ∀g∈G',g∉G->q g=0):mG q G' a b=mG q G a b:=by
 have pm:(G++G'.filter fun g=>decide (g∉G)).Perm G':=by
  refine (List.perm_ext_iff_of_nodup (List.nodup_append.mpr ⟨n1,n2.filter _,fun x hx y hy e=> ?_⟩) n2).mpr fun g=> ?_
  ·subst e
   have:=(List.mem_filter.mp hy).2
   simp at this
   exact this hx
  ·rw[List.mem_append,List.mem_filter]
   constructor
   ·rintro (h|h)
    ·exact sub g h
    ·exact h.1
   ·intro h
    by_cases q:g∈G
    ·exact .inl q
    ·exact .inr ⟨h,by simpa using q⟩
 rw[<-EL pm,HL,EN (G:=G'.filter _) fun g hg=>z g (List.mem_filter.mp hg).1 (by simpa using (List.mem_filter.mp hg).2)]
 omega
def tL (ed:List (Str×Str)) (w:Str->Str->Int) (p:Str->Int) (q:List Str->Int) (G:List (List Str)):List (Str×Str):=ed.filter fun e=>decide (tot p q G e.1 e.2=2*w e.1 e.2)
section
variable {ns:List Str} {ed:List (Str×Str)} {w:Str->Str->Int} {p p':Str->Int} {q q':List Str->Int} {G G':List (List Str)} {M M':Str->Option Str} {ks ks':List Kt} {a b c:Str}
theorem zy:(a,b)∈tL ed w p q G↔(a,b)∈ed/\tot p q G a b=2*w a b:=by
 unfold tL
 rw[List.mem_filter]
 simp
theorem A8 (h: ∀a b,(a,b)∈ed->tot p q G a b=tot p' q' G' a b):tL ed w p q G=tL ed w p' q' G':=by
 unfold tL
 exact List.filter_congr fun e he=>by rw[h e.1 e.2 he]
structure sC (ns:List Str) (ed:List (Str×Str)) (w:Str->Str->Int) (M:Str->Option Str) (ks:List Kt) (p:Str->Int) (q:List Str->Int):Prop where
 nd:ns.Nodup
 len:ns.length<=20
 sym: ∀a b,(a,b)∈ed->(b,a)∈ed
 irr: ∀a,(a,a)∉ed
 inn: ∀a b,(a,b)∈ed->a∈ns
 ws: ∀a b,w a b=w b a
 tops:fC ns (tL ed w p q (grT ks)) M ks
 mates:ik ns (tL ed w p q (grT ks)) M
 paid: ∀a b,(a,b)∈ed->2*w a b<=tot p q (grT ks) a b
 qn: ∀g,0<=q g/\q g%2=0
 q0: ∀g,g∉grT ks->q g=0
 pn: ∀c∈ns,0<=p c
 least: ∀r∈ns,M r=none-> ∀c∈ns,p r<=p c
theorem sC.gr (h:sC ns ed w M ks p q):Gr ns (tL ed w p q (grT ks)) M:=⟨h.nd,h.len,fun a b e=>by
 rw[zy] at e⊢
 exact⟨h.sym _ _ e.1,by rw[HK,h.ws];exact e.2⟩,fun a e=>h.irr a (zy.mp e).1,fun a b e=>h.inn a b (zy.mp e).1,h.mates⟩
theorem sC.GZ (h:sC ns ed w M ks p q) (hT:fC ns (tL ed w p q (grT ks)) M ks') (z1: ∀g∈grT ks,g∉grT ks'->q g=0):sC ns ed w M ks' p q:=by
 have n1:=h.tops.Cf h.nd
 have n2:=hT.Cf h.nd
 have tt: ∀a b,tot p q (grT ks') a b=tot p q (grT ks) a b:=fun a b=>by
  unfold tot
  have e1:mG q (grT ks) a b=mG q ((grT ks).filter fun g=>decide (g∈grT ks')) a b:=wh (n1.filter _) n1 (fun g hg=>(List.mem_filter.mp hg).1) fun g hg hn=>z1 g hg fun hg'=>hn (List.mem_filter.mpr ⟨hg,by simpa using hg'⟩)
  have e2:mG q (grT ks') a b=mG q ((grT ks).filter fun g=>decide (g∈grT ks')) a b:=wh (n1.filter _) n2 (fun g hg=>by simpa using (List.mem_filter.mp hg).2) fun g hg hn=>h.q0 g fun hg'=>hn (List.mem_filter.mpr ⟨hg',by simpa using hg⟩)
  rw[e1,e2]
 have tl:tL ed w p q (grT ks')=tL ed w p q (grT ks):=A8 fun a b _=>tt a b
 exact⟨h.nd,h.len,h.sym,h.irr,h.inn,h.ws,by rw[tl];exact hT,by rw[tl];exact h.mates,fun a b e=>by rw[tt];exact h.paid a b e,h.qn,fun g hg=>by
  by_cases q1:g∈grT ks
  ·exact z1 g q1 hg
  ·exact h.q0 g q1,h.pn,h.least⟩
end
end Sw
namespace Sw
open PySem PySem.Spec PyProof.Rows L2
theorem HM {g:List Str}: ∀{r:List aF},g∈Ce r↔ ∃k∈r,g∈grK k:=fun {r}=>by
 rw[mU,List.mem_flatten]
 constructor
 ·rintro⟨gs,hgs,gm⟩
  obtain⟨x,hx,rfl⟩:=List.mem_map.mp hgs
  exact⟨x,hx,gm⟩
 ·rintro⟨x,hx,gm⟩
  exact⟨_,List.mem_map_of_mem hx,gm⟩
theorem Sbk.gr {a k:aF} (h:Sbk a k) {g:List Str} (hg:g∈grK a):g∈grK k:=by
 induction h with
 |refl=>exact hg
 |inn m _ ih=>unfold grK;exact List.mem_cons_of_mem _ (HM.mpr ⟨_,m,ih⟩)
section
variable {ns:List Str} {ed:List (Str×Str)} {w:Str->Str->Int} {p p':Str->Int} {q q':List Str->Int} {M:Str->Option Str} {ks ks':List Kt} {a b c:Str} {x y z:Kt}
theorem n6 {xs ys:List Kt}:grT (xs++ys)=grT xs++grT ys:=by unfold grT;rw[List.map_append,List.flatten_append]
theorem HP {xs:List Kt}:grT (x::xs)=grK x.k++grT xs:=rfl
theorem sC.part {pre post:List Kt} {r:List aF} {l:List (Str×Str)} (h:sC ns ed w M (pre++z::post) p q) (e:z.k= .group r l) (hq:q z.ms=0): ∃t:List Kt,t.map (·.k)=r/\sC ns ed w M (pre++t++post) p q:=by
 obtain⟨t,et,hT⟩:=EJ h.tops e
 refine⟨t,et,h.GZ hT fun g hg hn=> ?_⟩
 rw[n6,HP,e] at hg
 have tg:grT t=Ce r:=by
  rw[mU,←et,List.map_map];rfl
 have zm:z.ms=qO (uf r):=by
  rw[<-(h.tops.kb z (by simp)).mem,e];unfold sA;rfl
 rcases List.mem_append.mp hg with hg|hg
 ·exact absurd (by rw[n6,n6];simp[hg]) hn
 ·rcases List.mem_append.mp hg with hg|hg
  ·unfold grK at hg
   rcases List.mem_cons.mp hg with hg|hg
   ·rw[hg,←zm];exact hq
   ·exact absurd (by rw[n6,n6,tg];simp[hg]) hn
  ·exact absurd (by rw[n6,n6];simp[hg]) hn
end
end Sw
namespace Sw
open PySem PySem.Spec PyProof.Rows L2
theorem EO {c:Str} {r:List aF}:c∈uf r↔ ∃k∈r,c∈sA k:=by
 rw[qU,List.mem_flatten]
 constructor
 ·rintro⟨gs,hgs,gm⟩
  obtain⟨x,hx,rfl⟩:=List.mem_map.mp hgs
  exact⟨x,hx,gm⟩
 ·rintro⟨x,hx,gm⟩
  exact⟨_,List.mem_map_of_mem hx,gm⟩
theorem Sbk.mem {a k:aF} (h:Sbk a k) {c:Str} (hc:c∈sA a):c∈sA k:=by
 induction h with
 |refl=>exact hc
 |inn m _ ih=>
  unfold sA
  rw[v8,EO]
  exact⟨_,m,ih⟩
section
variable {ns:List Str} {L Q:List (Str×Str)} {ks ks':List Kt} {o:a9} {lv:Str->Nat} {rt:Str->Str} {M:Str->Option Str}
structure HQ (ks:List Kt) (M:Str->Option Str) (Q:List (Str×Str)) (R:Str->Prop) (Ev Od:Kt->Prop) (f:Kt->Nat):Prop where
 inn: ∀z,Ev z->z∈ks
 step: ∀z,Ev z->(M z.b=none/\R z.b)\/ ∃x y,x∈ks/\Od x/\Ev y/\f y<f z/\M x.b=some z.b/\ ∃a∈y.ms,∃b∈x.ms,(a,b)∈Q
 dis: ∀z,Ev z-> ¬Od z
theorem HQ.HD (hT:fC ns L M ks) (si:SI ns L o ks' lv rt) (g:Gr ns L M) (hM:aC o.mates.l=M) (cl: ∀a b,(a,b)∈Q->a∈o.waiting->(∃x∈ks',a∈x.ms/\b∈x.ms)\/ ∃x∈ks',b∈x.ms/\(aC o.reached.l (nmK x)).isSome=true)
  (part: ∀x∈ks,∃x'∈ks',Sbk x.k x'.k) (made: ∀x∈ks',x∈ks\/(aC o.roots.l (nmK x)).isSome=true) {R:Str->Prop} (hR: ∀r,R r->r∈o.waiting) {Ev Od:Kt->Prop} {f:Kt->Nat} (F:HQ ks M Q R Ev Od f):
  ∀z,Ev z-> ∀c∈z.ms,c∈o.waiting:=by
 have hT':=si.tops
 rw[hM] at hT'
 have up: ∀x∈ks,∃x'∈ks',∀c∈x.ms,c∈x'.ms:=fun x hx=>by
  obtain⟨x',hx',s⟩:=part x hx
  refine⟨x',hx',fun c hc=> ?_⟩
  rw[<-(hT.kb x hx).mem] at hc
  rw[<-(hT'.kb x' hx').mem]
  exact s.mem hc
 have upOf: ∀x∈ks,∀K∈ks',∀c∈x.ms,c∈K.ms-> ∀d∈x.ms,d∈K.ms:=fun x hx K hK c c1 c2 d hd=>by
  obtain⟨x',hx',s⟩:=up x hx
  have:=hT'.one g.nd hx' hK (s c c1) c2
  subst this
  exact s d hd
 have all: ∀z∈ks,∀c∈z.ms,c∈o.waiting-> ∀d∈z.ms,d∈o.waiting:=fun z hz c hc wc d hd=>by
  obtain⟨K,hK,cK,eK⟩:=(si.wt c).mp wc
  exact (si.wt d).mpr ⟨K,hK,upOf z hz K hK c hc cK d hd,eK⟩
 have evOd: ∀x∈ks',(aC o.roots.l (nmK x)).isSome=true-> ¬(aC o.reached.l (nmK x)).isSome=true:=fun x hx e d=>by
  obtain⟨q,hq⟩:=Option.isSome_iff_exists.mp d
  rw[(si.odd x hx q hq).1] at e;cases e
 have key: ∀n:Nat,∀z,f z<n->Ev z-> ∀c∈z.ms,c∈o.waiting:=by
  intro n
  induction n with
  |zero=>intro z h;omega
  |succ n ih=>
   intro z hz ez
   have zin:=F.inn z ez
   have zb:=(hT.kb z zin).base
   rcases F.step z ez with ⟨_,r⟩|⟨x,y,hx,ox,ey,lt,mx,a,ha,b,hb,ab⟩
   ·exact all z zin z.b zb (hR _ r)
   ·have yin:=F.inn y ey
    have wa:=ih y (by omega) ey a ha
    rcases cl a b ab wa with ⟨K,hK,aK,bK⟩|⟨X,hX,bX,oX⟩
    ·
     have eK:(aC o.roots.l (nmK K)).isSome=true:=by
      obtain⟨K',hK',aK',eK'⟩:=(si.wt a).mp wa
      have:=hT'.one g.nd hK hK' aK aK'
      subst this
      exact eK'
     have xK:=upOf x hx K hK b hb bK
     have yK:=upOf y yin K hK a ha aK
     have xb:=(hT.kb x hx).base
     by_cases zK:z.b∈K.ms
     ·exact fun c hc=>(si.wt c).mpr ⟨K,hK,upOf z zin K hK z.b zb zK c hc,eK⟩
     ·exfalso
      have kb:x.b=K.b:=Classical.byContradiction fun ne=>by
       obtain⟨d,hd,_,e⟩:=(hT'.kb K hK).sx x.b (xK _ xb) ne
       rw[mx] at e;cases e
       exact zK hd
      have no: ∀k:Nat,∀v,f v<k->f v<f z->Ev v->(∀c∈v.ms,c∈K.ms)->False:=by
       intro k
       induction k with
       |zero=>intro v h;omega
       |succ k ih2=>
        intro v hv hvz ev vK
        have vin:=F.inn v ev
        have vb:=(hT.kb v vin).base
        have nb:v.b≠K.b:=fun e=>by
         have:=hT.DR g.nd vin hx (e.trans kb.symm)
         subst this
         exact F.dis v ev ox
        obtain⟨d,hd,_,md⟩:=(hT'.kb K hK).sx v.b (vK _ vb) nb
        rcases F.step v ev with ⟨m0,_⟩|⟨x2,y2,hx2,ox2,ey2,lt2,mx2,a2,ha2,b2,hb2,ab2⟩
        ·rw[m0] at md;cases md
        ·rw[g.mates.sym _ _ mx2] at md;cases md
         have x2K:=upOf x2 hx2 K hK x2.b (hT.kb x2 hx2).base hd
         have wa2:=ih y2 (by omega) ey2 a2 ha2
         rcases cl a2 b2 ab2 wa2 with ⟨K2,hK2,c1,c2⟩|⟨K2,hK2,c1,c2⟩
         ·have:=hT'.one g.nd hK hK2 (x2K b2 hb2) c2
          subst this
          exact ih2 y2 (by omega) (by omega) ey2 (upOf y2 (F.inn y2 ey2) K hK a2 ha2 c1)
         ·have:=hT'.one g.nd hK hK2 (x2K b2 hb2) c1
          subst this
          exact evOd K hK eK c2
      exact no (f y+1) y (by omega) lt ey yK
    ·
     have nE:=fun e=>evOd X hX e oX
     have Xk:=(made X hX).resolve_right nE
     have:=hT.one g.nd hx Xk hb bX
     subst this
     obtain⟨q,hq⟩:=Option.isSome_iff_exists.mp oX
     obtain⟨_,_,_,_,_,_,_,_,_,z',hz',m',e',_⟩:=si.odd x hX q hq
     rw[hM,mx] at m'
     have e:=Option.some.inj m'
     have wz:z.b∈o.waiting:=(si.wt _).mpr ⟨z',hz',e▸(hT'.kb z' hz').base,e'⟩
     exact all z zin z.b zb wz
 exact fun z ez=>key (f z+1) z (by omega) ez
end
end Sw
namespace Sw
open PySem PySem.Spec PyProof.Rows L2
theorem KB.par {m:Str->Option Str} {L:List (Str×Str)} {pr:Str->Int} (hL: ∀a c,(a,c)∈L->(pr a+pr c)%2=0): ∀{n:Nat} {k:aF} {b:Str} {ms:List Str},KB m n k b ms->KL L n k-> ∀a∈ms,∀c∈ms,(pr a+pr c)%2=0
 |0,_,_,_,h,_,_,_,_,_=>h.elim
 |n+1,.single x,_,_,h,_,a,ha,c,hc=>by
  rw[h.2] at ha hc
  rw[List.mem_singleton.mp ha,List.mem_singleton.mp hc]
  omega
 |n+1,.group r l,b,ms,⟨t,p,h1,h2,h3,h4,h5⟩,⟨g1,g2⟩,a,ha,c,hc=>by
  have part: ∀{i:Nat} (h:i<t.length),∀a∈t[i].ms,∀c∈t[i].ms,(pr a+pr c)%2=0:=fun {i} h=>KB.par hL (h3 _ (List.getElem_mem h)) (g2 _ (by rw[h2];exact List.mem_map_of_mem (List.getElem_mem h)))
  have base: ∀{i:Nat} (h:i<t.length),t[i].b∈t[i].ms:=fun {i} h=>(h3 _ (List.getElem_mem h)).base
  have tp:0<t.length:=by have:=h1.three;omega
  have all: ∀i (h:i<t.length),(pr (t[0]'tp).b+pr t[i].b)%2=0:=by
   intro i
   induction i with
   |zero=>intro h;have:=part tp _ (base tp) _ (base tp);exact this
   |succ i ih=>
    intro h
    have i0:=ih (by omega)
    have li:i<l.length:=by rw[h1.len];omega
    have ne:nx t.length i=i+1:=zt (by omega)
    obtain⟨_,a1,a2⟩:=h1.link i (t[i]'(by omega)) (t[i+1]'h) (l[i]'li) (by omega) (List.getElem?_eq_getElem (by omega)) (by rw[ne];exact List.getElem?_eq_getElem h) (List.getElem?_eq_getElem li)
    have il:i<t.length:=by omega
    have e1:(pr l[i].1+pr l[i].2)%2=0:=hL _ _ (g1 _ (List.getElem_mem li))
    have e2:(pr t[i].b+pr l[i].1)%2=0:=part il _ (base il) _ a1
    have e3:(pr t[i+1].b+pr l[i].2)%2=0:=part h _ (base h) _ a2
    have i1:(pr (t[0]'tp).b+pr t[i].b)%2=0:=i0
    omega
  rw[h4,v8,cG] at ha hc
  obtain⟨x,hx,ax⟩:=ha
  obtain⟨y,hy,cy⟩:=hc
  obtain⟨i,hi,rfl⟩:=List.getElem_of_mem hx
  obtain⟨j,hj,rfl⟩:=List.getElem_of_mem hy
  have e1:=part hi _ (base hi) a ax
  have e2:=part hj _ (base hj) c cy
  have e3:=all i hi
  have e4:=all j hj
  omega
section
variable {ns:List Str} {ed:List (Str×Str)} {w:Str->Str->Int} {p p':Str->Int} {q q':List Str->Int} {M:Str->Option Str} {ks:List Kt} {o:a9} {lv:Str->Nat} {rt:Str->Str} {a b c r0:Str}
theorem sC.Mq (h:sC ns ed w M ks p q) (e:(a,b)∈tL ed w p q (grT ks)):(p a+p b)%2=0:=by
 have e:=(zy.mp e).2
 have:=EM (q:=q) (G:=grT ks) (a:=a) (b:=b) fun g _=>(h.qn g).2
 unfold tot at e
 omega
theorem sC.par (h:sC ns ed w M ks p q) (si:SI ns (tL ed w p q (grT ks)) o ks lv rt) (hM:aC o.mates.l=M) (hr:r0∈ns) (hr0:M r0=none): ∀c∈o.waiting,(p r0+p c)%2=0:=by
 have g:=h.gr
 have kp: ∀x∈ks,∀a∈x.ms,∀c∈x.ms,(p a+p c)%2=0:=fun x hx=>KB.par (fun a c e=>h.Mq e) (h.tops.kb x hx) (h.tops.kl x hx)
 have key: ∀n:Nat,∀z∈ks,lv (nmK z)<n->(aC o.roots.l (nmK z)).isSome=true-> ∀c∈z.ms,(p r0+p c)%2=0:=by
  intro n
  induction n with
  |zero=>intro z _ h;omega
  |succ n ih=>
   intro z hz lz ez c hc
   have zb:=(h.tops.kb z hz).base
   have k1:=kp z hz z.b zb c hc
   rcases si.HD z hz ez with ⟨m0,_⟩|⟨x,hx,mx,ox⟩
   ·rw[hM] at m0
    have l1:=h.least z.b (h.tops.inn hz zb) m0 r0 hr
    have l2:=h.least r0 hr hr0 z.b (h.tops.inn hz zb)
    omega
   ·rw[hM] at mx
    obtain⟨qx,hqx⟩:=Option.isSome_iff_exists.mp ox
    obtain⟨_,a2,a12,y,hy,a1,ey,ly,_,z',hz',mz',_,lz',_⟩:=si.odd x hx qx hqx
    rw[hM,h.mates.sym _ _ mx] at mz'
    have:=h.tops.DR h.nd hz hz' (Option.some.inj mz')
    subst this
    have k2:=ih y hy (by omega) ey qx.1 a1
    have k3:=h.Mq a12
    have k4:=kp x hx qx.2 a2 x.b (h.tops.kb x hx).base
    have k5:=h.Mq (h.mates.edge _ _ mx)
    omega
 intro c hc
 obtain⟨z,hz,cz,ez⟩:=(si.wt c).mp hc
 exact key _ z hz (Nat.lt_succ_self _) ez c cz
end
end Sw
namespace Sw
open PySem PySem.Spec PyProof.Rows L2
section
variable {ns:List Str} {L:List (Str×Str)} {M:Str->Option Str} {ks zs:List Kt} {o:a9} {lv:Str->Nat} {rt:Str->Str}
theorem fC.order (h:fC ns L M ks) (p:ks.Perm zs):fC ns L M zs:=
 ⟨(List.Perm.flatten (p.symm.map _)).trans h.perm,fun x hx=>h.kb x (p.mem_iff.mpr hx),fun x hx=>h.kl x (p.mem_iff.mpr hx)⟩
theorem SI.order (h:SI ns L o ks lv rt) (p:ks.Perm zs):SI ns L o zs lv rt:=by
 have e: ∀z,z∈zs↔z∈ks:=fun z=>p.mem_iff.symm
 exact⟨h.tops.order p,fun x hx=>h.top x ((e x).mp hx),h.tk,fun n r q=>by
  obtain⟨z,hz,a⟩:=h.rk n r q
  exact⟨z,(e z).mpr hz,a⟩,fun n q a=>by
  obtain⟨x,hx,b⟩:=h.ok n q a
  exact⟨x,(e x).mpr hx,b⟩,h.rnd,h.ond,fun z hz ez=>(h.HD z ((e z).mp hz) ez).imp id fun⟨x,hx,a⟩=>⟨x,(e x).mpr hx,a⟩,fun x hx q hq=>by
  obtain⟨a1,a2,a3,y,hy,a4,a5,a6,a7,z,hz,a8⟩:=h.odd x ((e x).mp hx) q hq
  exact⟨a1,a2,a3,y,(e y).mpr hy,a4,a5,a6,a7,z,(e z).mpr hz,a8⟩,fun c=>(h.wt c).trans ⟨fun⟨z,hz,a⟩=>⟨z,(e z).mpr hz,a⟩,fun⟨z,hz,a⟩=>⟨z,(e z).mp hz,a⟩⟩,h.wnd⟩
end
section
variable {ns:List Str} {ed:List (Str×Str)} {w:Str->Str->Int} {p:Str->Int} {q:List Str->Int} {M:Str->Option Str} {ks ks':List Kt}
theorem sC.tl (h:sC ns ed w M ks p q) {L:List (Str×Str)} (hT:fC ns L M ks') (part: ∀x∈ks,∃x'∈ks',Sbk x.k x'.k):tL ed w p q (grT ks')=tL ed w p q (grT ks):=A8 fun a b _=>by
 unfold tot
 rw[wh (h.tops.Cf h.nd) (hT.Cf h.nd) (fun g hg=>by
  obtain⟨x,hx,gm⟩:=zx.mp hg
  obtain⟨x',hx',s⟩:=part x hx
  exact zx.mpr ⟨x',hx',s.gr gm⟩) fun g _ hn=>h.q0 g hn]
end
end Sw
namespace Sw
open PySem PySem.Spec PyProof.Rows L2
section
variable {A:Type}
theorem sD {x:Str} {v:A}: ∀{l:List (Str×A)},x∉l.map (·.1)->aM l x v=l++[(x,v)]
 | [],_=>rfl
 |p::l,h=>by
  simp only[List.map_cons,List.mem_cons,not_or] at h
  unfold aM
  rw[if_neg (fun q=>h.1 q.symm),sD h.2];rfl
end
end Sw
namespace Sw.k06
open PySem PySem.Spec PyProof.Rows L2 Sw
structure Zs (K:Frg) (mg:Str->Option Value):Prop where
 abs:mg "abs" =none
 bool:mg "bool" =none
 dict:mg "dict" =none
 enumerate:mg "enumerate" =none
 int:mg "int" =none
 isinstance:mg "isinstance" =none
 len:mg "len" =none
 list:mg "list" =none
 max:mg "max" =none
 range:mg "range" =none
 reversed:mg "reversed" =none
 str:mg "str" =none
 FIGURES: ∃t,mg "FIGURES" =some (.str "0123456789" t)
 g_by_groups:mg "by_groups" =some (.ref (He.ga K "by_groups"))
 g_by_marks:mg "by_marks" =some (.ref (He.ga K "by_marks"))
open T
noncomputable section
variable {P:Program} {w:World} {K:Frg} {mg:Str->Option Value} {base:Heap} [NmC]
def kY (k_text:D) (y2:Unit) (x4:D):Option (Out (Unit) (Unit)):=
 ifO (b2 (D.qp true) (some x4) (some (.str "0123456789"))) (none) (some (.nx ())) fun(y5:Unit)=>some (.nx ())
def ki (a_text:D):Option (Out PEmpty PEmpty):=
 ifO (orB (lX (chB D.leI D.leI (some (.int 1)) (b1 (un1 D.wR) (aj (some a_text) (aN))) (some (.int 12)))) (lD (b2 D.gtI (b1 (un1 D.wR) (aj (some a_text) (aN))) (some (.int 1))) (b2 D.eqA (b2 D.atS (some a_text) (some (.int 0))) (some (.str "0"))))) (none) (some (.nx ())) fun(y1:Unit)=>mK (b1 D.vA (some a_text)) (kY a_text) () fun(y2:Unit)=>cP (b1 (un1 D.wY) (aj (some a_text) (aN))) []
def eV:List D->Option FR:=fn1 fun a_text=>FO (ki a_text)
abbrev ug:List Str:=["text","sign"]
abbrev kj:List Str:=["text"]
theorem sE:FnScope ug kj (defScope eC):=⟨rfl,rfl,rfl,by decide+kernel,rfl,by decide+kernel,by decide+kernel⟩
abbrev ko:List PM:=[.bo]
abbrev kq:VM:=.rg .fz
theorem A9 (Z:Zs K mg) {f:Addr} {cdv:Value} {A:Around} {outer:List Env} {s:Shared} {H:Hp} {E:XK} (hr:Room 0 (A.deeper (envOfC "number_of" (defScope eC) s.heap.objs.size f cdv))) (v0:V) (a_text:D):
  Blk (cxT P w K mg base ug "number_of" (defScope eC) f cdv A outer s H E) (fnX kq (bF ko [v0]) E) [.bo,.fz] [some a_text,none] (defBody eC) (ki a_text):=by
 unfold ki
 exact (eL [.bo,.fz] (fun(y1:Unit)=>[some a_text,none]) (PW.pt (vx (nJ (El op_le (nH (rg:=.fz)) op_le (nH (rg:=.fz)) (ak (rg:=.fz)) (iM call_len (Fp (rg:=.fz)) (by rfl) Z.len vB (af (ae (md:=.bo) 0 rfl rfl rfl (.inl rfl)) aA)) (ak (rg:=.fz)))) (rH (PW.pt (uQ (bH op_gt (nH (rg:=.fz)) (iM call_len (Fp (rg:=.fz)) (by rfl) Z.len vB (af (ae (md:=.bo) 0 rfl rfl rfl (.inl rfl)) aA)) (ak (rg:=.fz)) rfl) (rG (bH op_eq (j9 (rg:=.fz)) (aQ ix_str (Aj (rg:=.fz)) (ae (md:=.bo) 0 rfl rfl rfl (.inl rfl)) (ak (rg:=.fz)) (fun _ _=>rfl)) (aS (rg:=.fz)) rfl))))))) uR (aJ (.keep (.drop (.nil)))) (fun(y1:Unit)=>(fU [.bo,.fz] (fun(y2:Unit)=>[some a_text,none]) [.bo,.fz] (fun(y2:Unit) (x4:D)=>[some a_text,some x4]) (yE (ae (md:=.bo) 0 rfl rfl rfl (.inl rfl))) bC dO (pg_name (i:=1) sE.nd rfl (.inl rfl)) (bW _ 1 dO (Nat.le_of_ble_eq_true rfl)) (.keep (.drop (.nil))) (fun(y2:Unit) (x4:D)=>by unfold kY;exact (eL [.bo,.fz] (fun(y5:Unit)=>[some a_text,some x4]) (bH op_notIn_sign IL (ae (md:=.fz) 1 rfl rfl rfl (.inl rfl)) (FV (rg:=.fz) Z.FIGURES) rfl) uR (aJ (.keep (.keep (.nil)))) (fun(y5:Unit)=>(aJ (.keep (.drop (.nil))))))) (fun(y2:Unit)=>(aO (pX call_int_str (Lp (rg:=.fz)) (by rfl) Z.int CY (af (ae (md:=.bo) 0 rfl rfl rfl (.inl rfl)) aA)) rfl rfl rfl)))))
theorem zz (Z:Zs K mg) {f:Addr} {fd:FuncData} (F:Fun K "number_of" "number_of" eC f fd):FnOk P w K mg base CX0 (1) f fd kj (FSp K ko kq eV):=
 cB (n:=1) F sE rfl rfl fun cdv A outer s H vs E hr hv ds fr hd ef=>match vs,hv,ds,hd,ef with| [v0],_,[a_text],_,ef=>⟨_,A9 Z hr v0 a_text,ef⟩
def Ba (a_giver:D) (a_taker:D):Option (Out PEmpty PEmpty):=
 cP (b1 (un1 D.Eo) (aj (b2 D.gY (b2 D.atT (some a_giver) (some (.int 1))) (b2 D.atT (some a_taker) (some (.int 1)))) (aN))) []
def mH:List D->Option FR:=fn2 fun a_giver a_taker=>FO (Ba a_giver a_taker)
abbrev KC:List Str:=["giver","taker"]
abbrev wj:List Str:=["giver","taker"]
theorem Mr:FnScope KC wj (defScope tW):=⟨rfl,rfl,rfl,by decide+kernel,rfl,by decide+kernel,by decide+kernel⟩
abbrev wm:List PM:=[.bo,.bo]
abbrev wq:VM:=.rg .fz
theorem Oc (Z:Zs K mg) {f:Addr} {cdv:Value} {A:Around} {outer:List Env} {s:Shared} {H:Hp} {E:XK} (hr:Room 0 (A.deeper (envOfC "gap" (defScope tW) s.heap.objs.size f cdv))) (v0 v1:V) (a_giver a_taker:D):
  Blk (cxT P w K mg base KC "gap" (defScope tW) f cdv A outer s H E) (fnX wq (bF wm [v0,v1]) E) [.bo,.bo] [some a_giver,some a_taker] (defBody tW) (Ba a_giver a_taker):=by
 unfold Ba
 exact (aO (iM call_abs (LG (rg:=.fz)) (by rfl) Z.abs Lg (af (aE op_sub (jG (rg:=.fz)) (aQ ix_tup bh (ae (md:=.bo) 0 rfl rfl rfl (.inl rfl)) (ak (rg:=.fz)) (fun _ _=>rfl)) (aQ ix_tup bh (ae (md:=.bo) 1 rfl rfl rfl (.inl rfl)) (ak (rg:=.fz)) (fun _ _=>rfl))) aA)) rfl rfl rfl)
theorem Ms (Z:Zs K mg) {f:Addr} {fd:FuncData} (F:Fun K "gap" "gap" tW f fd):FnOk P w K mg base CX0 (1) f fd wj (FSp K wm wq mH):=
 cB (n:=0) F Mr rfl rfl fun cdv A outer s H vs E hr hv ds fr hd ef=>match vs,hv,ds,hd,ef with| [v0,v1],_,[a_giver,a_taker],_,ef=>⟨_,Oc Z hr v0 v1 a_giver a_taker,ef⟩
def kr (a_giver:D) (a_taker:D):Option (Out PEmpty PEmpty):=
 cP (orE (b2 (blD D.eqA) (b2 D.atT (some a_giver) (some (.int 0))) (some (.str "O"))) (orE (b2 (blD D.eqA) (b2 D.atT (some a_taker) (some (.int 0))) (some (.str "AB"))) (b2 (blD D.eqA) (b2 D.atT (some a_giver) (some (.int 0))) (b2 D.atT (some a_taker) (some (.int 0)))))) []
def iQ:List D->Option FR:=fn2 fun a_giver a_taker=>FO (kr a_giver a_taker)
abbrev uh:List Str:=["giver","taker"]
abbrev pC:List Str:=["giver","taker"]
theorem zA:FnScope uh pC (defScope c8):=⟨rfl,rfl,rfl,by decide+kernel,rfl,by decide+kernel,by decide+kernel⟩
abbrev pD:List PM:=[.bo,.bo]
abbrev pE:VM:=.rg .fz
theorem Bb (Z:Zs K mg) {f:Addr} {cdv:Value} {A:Around} {outer:List Env} {s:Shared} {H:Hp} {E:XK} (hr:Room 0 (A.deeper (envOfC "by_groups" (defScope c8) s.heap.objs.size f cdv))) (v0 v1:V) (a_giver a_taker:D):
  Blk (cxT P w K mg base uh "by_groups" (defScope c8) f cdv A outer s H E) (fnX pE (bF pD [v0,v1]) E) [.bo,.bo] [some a_giver,some a_taker] (defBody c8) (kr a_giver a_taker):=by
 unfold kr
 exact (aO (Kk (mv op_eq (j9 (rg:=.fz)) (aQ ix_tup bh (ae (md:=.bo) 0 rfl rfl rfl (.inl rfl)) (ak (rg:=.fz)) (fun _ _=>rfl)) (aS (rg:=.fz)) rfl) (Kk (mv op_eq (j9 (rg:=.fz)) (aQ ix_tup bh (ae (md:=.bo) 1 rfl rfl rfl (.inl rfl)) (ak (rg:=.fz)) (fun _ _=>rfl)) (aS (rg:=.fz)) rfl) (vy (mv op_eq (j9 (rg:=.fz)) (aQ ix_tup bh (ae (md:=.bo) 0 rfl rfl rfl (.inl rfl)) (ak (rg:=.fz)) (fun _ _=>rfl)) (aQ ix_tup bh (ae (md:=.bo) 1 rfl rfl rfl (.inl rfl)) (ak (rg:=.fz)) (fun _ _=>rfl)) rfl)))) rfl rfl rfl)
theorem sF (Z:Zs K mg) {f:Addr} {fd:FuncData} (F:Fun K "by_groups" "by_groups" c8 f fd):FnOk P w K mg base CX0 (1) f fd pC (FSp K pD pE iQ):=
 cB (n:=0) F zA rfl rfl fun cdv A outer s H vs E hr hv ds fr hd ef=>match vs,hv,ds,hd,ef with| [v0,v1],_,[a_giver,a_taker],_,ef=>⟨_,Bb Z hr v0 v1 a_giver a_taker,ef⟩
def mf (k_taker:D) (y1:Unit) (x3:D):Option (Out (Unit) (Unit)):=
 ifO (b2 (D.qp false) (some x3) (b2 D.atT (some k_taker) (some (.int 2)))) (cP (some (.bl false)) []) (some (.nx ())) fun(y4:Unit)=>some (.nx ())
def lM (a_giver:D) (a_taker:D):Option (Out PEmpty PEmpty):=
 mK (b1 D.vA (b2 D.atT (some a_giver) (some (.int 2)))) (mf a_taker) () fun(y1:Unit)=>cP (some (.bl true)) []
def ku:List D->Option FR:=fn2 fun a_giver a_taker=>FO (lM a_giver a_taker)
abbrev wu:List Str:=["giver","taker","mark"]
abbrev qW:List Str:=["giver","taker"]
theorem ui:FnScope wu qW (defScope eR):=⟨rfl,rfl,rfl,by decide+kernel,rfl,by decide+kernel,by decide+kernel⟩
abbrev qX:List PM:=[.bo,.bo]
abbrev qY:VM:=.rg .fz
theorem Cg (Z:Zs K mg) {f:Addr} {cdv:Value} {A:Around} {outer:List Env} {s:Shared} {H:Hp} {E:XK} (hr:Room 0 (A.deeper (envOfC "by_marks" (defScope eR) s.heap.objs.size f cdv))) (v0 v1:V) (a_giver a_taker:D):
  Blk (cxT P w K mg base wu "by_marks" (defScope eR) f cdv A outer s H E) (fnX qY (bF qX [v0,v1]) E) [.bo,.bo,.fz] [some a_giver,some a_taker,none] (defBody eR) (lM a_giver a_taker):=by
 unfold lM
 exact (fU [.bo,.bo,.fz] (fun(y1:Unit)=>[some a_giver,some a_taker,none]) [.bo,.bo,.fz] (fun(y1:Unit) (x3:D)=>[some a_giver,some a_taker,some x3]) (yE (aQ ix_tup bh (ae (md:=.bo) 0 rfl rfl rfl (.inl rfl)) (ak (rg:=.fz)) (fun _ _=>rfl))) bC dO (pg_name (i:=2) ui.nd rfl (.inl rfl)) (bW _ 2 dO (Nat.le_of_ble_eq_true rfl)) (.keep (.keep (.drop (.nil)))) (fun(y1:Unit) (x3:D)=>by unfold mf;exact (eL [.bo,.bo,.fz] (fun(y4:Unit)=>[some a_giver,some a_taker,some x3]) (bH op_in_sign FW (ae (md:=.fz) 2 rfl rfl rfl (.inl rfl)) (aQ ix_tup bh (ae (md:=.bo) 1 rfl rfl rfl (.inl rfl)) (ak (rg:=.fz)) (fun _ _=>rfl)) rfl) (aO (kP (rg:=.fz)) rfl rfl rfl) (aJ (.keep (.keep (.keep (.nil))))) (fun(y4:Unit)=>(aJ (.keep (.keep (.drop (.nil)))))))) (fun(y1:Unit)=>(aO (kP (rg:=.fz)) rfl rfl rfl)))
theorem uk (Z:Zs K mg) {f:Addr} {fd:FuncData} (F:Fun K "by_marks" "by_marks" eR f fd):FnOk P w K mg base CX0 (1) f fd qW (FSp K qX qY ku):=
 cB (n:=1) F ui rfl rfl fun cdv A outer s H vs E hr hv ds fr hd ef=>match vs,hv,ds,hd,ef with| [v0,v1],_,[a_giver,a_taker],_,ef=>⟨_,Cg Z hr v0 v1 a_giver a_taker,ef⟩
def fj (R_:List D->Option FR) (a_giver:D) (a_taker:D) (a_bound:D):Option (Out PEmpty PEmpty):=
 cP (b2 (blD D.leI) (aP mH (aj (some a_giver) (aj (some a_taker) (aN)))) (some a_bound)) []
def gz (R_:List D->Option FR):List D->Option FR:=fn3 fun a_giver a_taker a_bound=>FO (fj R_ a_giver a_taker a_bound)
abbrev g7:Stmt:=(defBody jD).headD (.Pass ⟨0,0,0,0⟩)
abbrev bM:FnT:=fnT g7 "lets" "by_sizes" "bound"
abbrev oO:List Str:=["giver","taker","bound"]
abbrev oP:List Str:=["giver","taker"]
theorem tA:NdefX.NScope oO oP ["bound"] (C8.fnScope g7):=NdefX.nscope_by (by decide+kernel)
abbrev uA:List PM:=[.bo,.bo,.bo]
abbrev uB:VM:=.rg .fz
theorem uC {R_:List D->Option FR} {k0_:Nat} (hJ_:2<=k0_) (C_rec:rW P w K mg base k0_ R_) (Z:Zs K mg) (C_gap:Cal P w K mg base 1 "gap" wj wm wq mH) {f c c':Addr} {A:Around} {outer:List Env} {s:Shared} {H:Hp} {E:XK} (hr:Room k0_ (A.deeper (NdefX.envF (bM.nf c c') f s.heap.objs.size))) (v0 v1 v2:V) (a_giver a_taker a_bound:D):
  Blk (NdefX.ncx CX0 P w K mg base oO (bM.nf c c') f A outer s H E).nox (fnX uB (bF uA [v0,v1,v2]) E) [.bo,.bo,.bo] [some a_giver,some a_taker,some a_bound] (C8.fnBody g7) (fj R_ a_giver a_taker a_bound):=by
 unfold fj
 exact (aO (mv op_le (nH (rg:=.fz)) (aG (hk:=Nat.le_trans (by decide:1<=2) hJ_) C_gap hr (af (ae (md:=.bo) 0 rfl rfl rfl (.inl rfl)) (af (ae (md:=.bo) 1 rfl rfl rfl (.inl rfl)) aA))) (ae (md:=.bo) 2 rfl rfl rfl (.inr (.inr rfl))) rfl) rfl rfl rfl)
theorem tD {R_:List D->Option FR} {k0_:Nat} (hJ_:2<=k0_) (C_rec:rW P w K mg base k0_ R_) (Z:Zs K mg) (C_gap:Cal P w K mg base 1 "gap" wj wm wq mH):vF P w K mg base (k0_+1) bM (gz R_):=
 rV rfl fun f c c'=>uV (ps:=oP) (n:=0) tA rfl rfl (fun _ _ _ us hl=>match us,hl with| [_,_],_=>rfl) fun A outer s H vs E hr hv ds fr hd ef=>match vs,hv,ds,hd,ef with| [v0,v1,v2],_,[a_giver,a_taker,a_bound],_,ef=>⟨_,uC hJ_ C_rec Z C_gap hr v0 v1 v2 a_giver a_taker a_bound,ef⟩
def iA:List D->Option FR:=fn1 fun d=>some (.ok (.clo bM d) [])
abbrev n7:List Str:=["bound"]
abbrev n9:List PM:=[.fz]
abbrev oa:VM:=.rg .fz
theorem Bc:FnScope ["bound","lets"] ["bound"] (defScope jD):=⟨rfl,rfl,rfl,by decide+kernel,rfl,by decide+kernel,by decide+kernel⟩
theorem Be (Z:Zs K mg) {f:Addr} {fd:FuncData} (F:Fun K "by_sizes" "by_sizes" jD f fd) (Lm:l6 base mg fd.code (("by_sizes" :Str)++".<locals>." ++"lets")):FnOk P w K mg base CX0 1 f fd n7 (FSp K n9 oa iA):=
 Di (nst:=g7) F Bc Lm rfl rfl (by decide+kernel) rfl rfl (fun _=>rfl) (fun _=>rfl) rfl rfl
def fk (R_:List D->Option FR) (a_giver:D) (a_taker:D) (a_rule:D):Option (Out PEmpty PEmpty):=
 cP (IB (aP R_ (aj (some a_rule) (aj (some a_giver) (aj (some a_taker) (aN)))))) []
def gA (R_:List D->Option FR):List D->Option FR:=fn3 fun a_giver a_taker a_rule=>FO (fk R_ a_giver a_taker a_rule)
abbrev g8:Stmt:=(defBody jE).headD (.Pass ⟨0,0,0,0⟩)
abbrev bN:FnT:=fnT g8 "lets" "opposite" "rule"
abbrev oQ:List Str:=["giver","taker","rule"]
abbrev oU:List Str:=["giver","taker"]
theorem tE:NdefX.NScope oQ oU ["rule"] (C8.fnScope g8):=NdefX.nscope_by (by decide+kernel)
abbrev uD:List PM:=[.bo,.bo,.bo]
abbrev uE:VM:=.rg .fz
theorem uF {R_:List D->Option FR} {k0_:Nat} (hJ_:2<=k0_) (C_rec:rW P w K mg base k0_ R_) (Z:Zs K mg) {f c c':Addr} {A:Around} {outer:List Env} {s:Shared} {H:Hp} {E:XK} (hr:Room k0_ (A.deeper (NdefX.envF (bN.nf c c') f s.heap.objs.size))) (v0 v1 v2:V) (a_giver a_taker a_rule:D):
  Blk (NdefX.ncx CX0 P w K mg base oQ (bN.nf c c') f A outer s H E).nox (fnX uE (bF uD [v0,v1,v2]) E) [.bo,.bo,.bo] [some a_giver,some a_taker,some a_rule] (C8.fnBody g8) (fk R_ a_giver a_taker a_rule):=by
 unfold fk
 exact (aO (Fm (rg:=.fz) (vH (hk:=Nat.le_refl _) 2 C_rec hr rfl rfl rfl (.inr (.inr rfl)) (af (ae (md:=.bo) 0 rfl rfl rfl (.inl rfl)) (af (ae (md:=.bo) 1 rfl rfl rfl (.inl rfl)) aA)))) rfl rfl rfl)
theorem tF {R_:List D->Option FR} {k0_:Nat} (hJ_:2<=k0_) (C_rec:rW P w K mg base k0_ R_) (Z:Zs K mg):vF P w K mg base (k0_+1) bN (gA R_):=
 rV rfl fun f c c'=>uV (ps:=oU) (n:=0) tE rfl rfl (fun _ _ _ us hl=>match us,hl with| [_,_],_=>rfl) fun A outer s H vs E hr hv ds fr hd ef=>match vs,hv,ds,hd,ef with| [v0,v1,v2],_,[a_giver,a_taker,a_rule],_,ef=>⟨_,uF hJ_ C_rec Z hr v0 v1 v2 a_giver a_taker a_rule,ef⟩
def iB:List D->Option FR:=fn1 fun d=>some (.ok (.clo bN d) [])
abbrev oe:List Str:=["rule"]
abbrev og:List PM:=[.fz]
abbrev oh:VM:=.rg .fz
theorem Bf:FnScope ["rule","lets"] ["rule"] (defScope jE):=⟨rfl,rfl,rfl,by decide+kernel,rfl,by decide+kernel,by decide+kernel⟩
theorem Bg (Z:Zs K mg) {f:Addr} {fd:FuncData} (F:Fun K "opposite" "opposite" jE f fd) (Lm:l6 base mg fd.code (("opposite" :Str)++".<locals>." ++"lets")):FnOk P w K mg base CX0 1 f fd oe (FSp K og oh iB):=
 Di (nst:=g8) F Bf Lm rfl rfl (by decide+kernel) rfl rfl (fun _=>rfl) (fun _=>rfl) rfl rfl
def g9 (R_:List D->Option FR) (k_giver:D) (k_taker:D) (y1:Unit) (x3:D):Option (Out (Unit) (Unit)):=
 ifO (lX (b1 D.tb (aP R_ (aj (some x3) (aj (some k_giver) (aj (some k_taker) (aN))))))) (cP (some (.bl false)) []) (some (.nx ())) fun(y4:Unit)=>some (.nx ())
def fX (R_:List D->Option FR) (a_giver:D) (a_taker:D) (a_rules:D):Option (Out PEmpty PEmpty):=
 mK (nL (some a_rules)) (g9 R_ a_giver a_taker) () fun(y1:Unit)=>cP (some (.bl true)) []
def hE (R_:List D->Option FR):List D->Option FR:=fn3 fun a_giver a_taker a_rules=>FO (fX R_ a_giver a_taker a_rules)
abbrev iR:Stmt:=(defBody k9).headD (.Pass ⟨0,0,0,0⟩)
abbrev bV:FnT:=fnT iR "lets" "all_let" "rules"
abbrev pF:List Str:=["giver","taker","rules","rule"]
abbrev pG:List Str:=["giver","taker"]
theorem oV:NdefX.NScope pF pG ["rules"] (C8.fnScope iR):=NdefX.nscope_by (by decide+kernel)
abbrev wx:List PM:=[.bo,.bo,.bo]
abbrev wy:VM:=.rg .fz
theorem wA {R_:List D->Option FR} {k0_:Nat} (hJ_:2<=k0_) (C_rec:rW P w K mg base k0_ R_) (Z:Zs K mg) {f c c':Addr} {A:Around} {outer:List Env} {s:Shared} {H:Hp} {E:XK} (hr:Room k0_ (A.deeper (NdefX.envF (bV.nf c c') f s.heap.objs.size))) (v0 v1 v2:V) (a_giver a_taker a_rules:D):
  Blk (NdefX.ncx CX0 P w K mg base pF (bV.nf c c') f A outer s H E).nox (fnX wy (bF wx [v0,v1,v2]) E) [.bo,.bo,.bo,.fz] [some a_giver,some a_taker,some a_rules,none] (C8.fnBody iR) (fX R_ a_giver a_taker a_rules):=by
 unfold fX
 exact (fU [.bo,.bo,.bo,.fz] (fun(y1:Unit)=>[some a_giver,some a_taker,some a_rules,none]) [.bo,.bo,.bo,.bo] (fun(y1:Unit) (x3:D)=>[some a_giver,some a_taker,some a_rules,some x3]) (dN (ae (md:=.bo) 2 rfl rfl rfl (.inr (.inr rfl)))) bC ff (pg_name (i:=3) oV.nd rfl (.inl rfl)) (bW _ 3 ff (Nat.le_of_ble_eq_true rfl)) (.keep (.keep (.keep (.drop (.nil))))) (fun(y1:Unit) (x3:D)=>by unfold g9;exact (eL [.bo,.bo,.bo,.bo] (fun(y4:Unit)=>[some a_giver,some a_taker,some a_rules,some x3]) (nJ (oL (vH (hk:=Nat.le_refl _) 3 C_rec hr rfl rfl rfl (.inl rfl) (af (ae (md:=.bo) 0 rfl rfl rfl (.inl rfl)) (af (ae (md:=.bo) 1 rfl rfl rfl (.inl rfl)) aA))))) (aO (kP (rg:=.fz)) rfl rfl rfl) (aJ (.keep (.keep (.keep (.keep (.nil)))))) (fun(y4:Unit)=>(aJ (.keep (.keep (.keep (.drop (.nil))))))))) (fun(y1:Unit)=>(aO (kP (rg:=.fz)) rfl rfl rfl)))
theorem uG {R_:List D->Option FR} {k0_:Nat} (hJ_:2<=k0_) (C_rec:rW P w K mg base k0_ R_) (Z:Zs K mg):vF P w K mg base (k0_+1) bV (hE R_):=
 rV rfl fun f c c'=>uV (ps:=pG) (n:=1) oV rfl rfl (fun _ _ _ us hl=>match us,hl with| [_,_],_=>rfl) fun A outer s H vs E hr hv ds fr hd ef=>match vs,hv,ds,hd,ef with| [v0,v1,v2],_,[a_giver,a_taker,a_rules],_,ef=>⟨_,wA hJ_ C_rec Z hr v0 v1 v2 a_giver a_taker a_rules,ef⟩
def jL:List D->Option FR:=fn1 fun d=>some (.ok (.clo bV d) [])
abbrev qd:List Str:=["rules"]
abbrev qe:List PM:=[.fz]
abbrev qf:VM:=.rg .fz
theorem Ci:FnScope ["rules","lets"] ["rules"] (defScope k9):=⟨rfl,rfl,rfl,by decide+kernel,rfl,by decide+kernel,by decide+kernel⟩
theorem Cj (Z:Zs K mg) {f:Addr} {fd:FuncData} (F:Fun K "all_let" "all_let" k9 f fd) (Lm:l6 base mg fd.code (("all_let" :Str)++".<locals>." ++"lets")):FnOk P w K mg base CX0 1 f fd qd (FSp K qe qf jL):=
 Di (nst:=iR) F Ci Lm rfl rfl (by decide+kernel) rfl rfl (fun _=>rfl) (fun _=>rfl) rfl rfl
def gD (R_:List D->Option FR) (k_giver:D) (k_taker:D) (y1:Unit) (x3:D):Option (Out (Unit) (Unit)):=
 ifO (b1 D.tb (aP R_ (aj (some x3) (aj (some k_giver) (aj (some k_taker) (aN)))))) (cP (some (.bl true)) []) (some (.nx ())) fun(y4:Unit)=>some (.nx ())
def fm (R_:List D->Option FR) (a_giver:D) (a_taker:D) (a_rules:D):Option (Out PEmpty PEmpty):=
 mK (nL (some a_rules)) (gD R_ a_giver a_taker) () fun(y1:Unit)=>cP (some (.bl false)) []
def gE (R_:List D->Option FR):List D->Option FR:=fn3 fun a_giver a_taker a_rules=>FO (fm R_ a_giver a_taker a_rules)
abbrev hO:Stmt:=(defBody jF).headD (.Pass ⟨0,0,0,0⟩)
abbrev bO:FnT:=fnT hO "lets" "one_lets" "rules"
abbrev oW:List Str:=["giver","taker","rules","rule"]
abbrev oY:List Str:=["giver","taker"]
theorem mW:NdefX.NScope oW oY ["rules"] (C8.fnScope hO):=NdefX.nscope_by (by decide+kernel)
abbrev uH:List PM:=[.bo,.bo,.bo]
abbrev uI:VM:=.rg .fz
theorem uJ {R_:List D->Option FR} {k0_:Nat} (hJ_:2<=k0_) (C_rec:rW P w K mg base k0_ R_) (Z:Zs K mg) {f c c':Addr} {A:Around} {outer:List Env} {s:Shared} {H:Hp} {E:XK} (hr:Room k0_ (A.deeper (NdefX.envF (bO.nf c c') f s.heap.objs.size))) (v0 v1 v2:V) (a_giver a_taker a_rules:D):
  Blk (NdefX.ncx CX0 P w K mg base oW (bO.nf c c') f A outer s H E).nox (fnX uI (bF uH [v0,v1,v2]) E) [.bo,.bo,.bo,.fz] [some a_giver,some a_taker,some a_rules,none] (C8.fnBody hO) (fm R_ a_giver a_taker a_rules):=by
 unfold fm
 exact (fU [.bo,.bo,.bo,.fz] (fun(y1:Unit)=>[some a_giver,some a_taker,some a_rules,none]) [.bo,.bo,.bo,.bo] (fun(y1:Unit) (x3:D)=>[some a_giver,some a_taker,some a_rules,some x3]) (dN (ae (md:=.bo) 2 rfl rfl rfl (.inr (.inr rfl)))) bC ff (pg_name (i:=3) mW.nd rfl (.inl rfl)) (bW _ 3 ff (Nat.le_of_ble_eq_true rfl)) (.keep (.keep (.keep (.drop (.nil))))) (fun(y1:Unit) (x3:D)=>by unfold gD;exact (eL [.bo,.bo,.bo,.bo] (fun(y4:Unit)=>[some a_giver,some a_taker,some a_rules,some x3]) (oL (vH (hk:=Nat.le_refl _) 3 C_rec hr rfl rfl rfl (.inl rfl) (af (ae (md:=.bo) 0 rfl rfl rfl (.inl rfl)) (af (ae (md:=.bo) 1 rfl rfl rfl (.inl rfl)) aA)))) (aO (kP (rg:=.fz)) rfl rfl rfl) (aJ (.keep (.keep (.keep (.keep (.nil)))))) (fun(y4:Unit)=>(aJ (.keep (.keep (.keep (.drop (.nil))))))))) (fun(y1:Unit)=>(aO (kP (rg:=.fz)) rfl rfl rfl)))
theorem tG {R_:List D->Option FR} {k0_:Nat} (hJ_:2<=k0_) (C_rec:rW P w K mg base k0_ R_) (Z:Zs K mg):vF P w K mg base (k0_+1) bO (gE R_):=
 rV rfl fun f c c'=>uV (ps:=oY) (n:=1) mW rfl rfl (fun _ _ _ us hl=>match us,hl with| [_,_],_=>rfl) fun A outer s H vs E hr hv ds fr hd ef=>match vs,hv,ds,hd,ef with| [v0,v1,v2],_,[a_giver,a_taker,a_rules],_,ef=>⟨_,uJ hJ_ C_rec Z hr v0 v1 v2 a_giver a_taker a_rules,ef⟩
def iC:List D->Option FR:=fn1 fun d=>some (.ok (.clo bO d) [])
abbrev oj:List Str:=["rules"]
abbrev oo:List PM:=[.fz]
abbrev oq:VM:=.rg .fz
theorem Bh:FnScope ["rules","lets"] ["rules"] (defScope jF):=⟨rfl,rfl,rfl,by decide+kernel,rfl,by decide+kernel,by decide+kernel⟩
theorem Bi (Z:Zs K mg) {f:Addr} {fd:FuncData} (F:Fun K "one_lets" "one_lets" jF f fd) (Lm:l6 base mg fd.code (("one_lets" :Str)++".<locals>." ++"lets")):FnOk P w K mg base CX0 1 f fd oj (FSp K oo oq iC):=
 Di (nst:=hO) F Bh Lm rfl rfl (by decide+kernel) rfl rfl (fun _=>rfl) (fun _=>rfl) rfl rfl
def mX (a_text:D):Option (Out PEmpty PEmpty):=
 ifO (b2 D.eqA (some a_text) (some (.str "groups"))) (cP (some (.glf "by_groups")) []) (some (.nx ())) fun(y1:Unit)=>ifO (b2 D.eqA (some a_text) (some (.str "marks"))) (cP (some (.glf "by_marks")) []) (some (.nx ())) fun(y2:Unit)=>(b1 D.pr3 (b2 D.part (some a_text) (some (.str " ")))).bind fun d3=>ifO (orB (b2 D.neA (some d3.1) (some (.str "sizes"))) (b2 D.gtI (aP eV (aj (some d3.2.2) (aN))) (some (.int 98)))) (none) (some (.nx ())) fun(y4:Unit)=>cP (aP iA (aj (aP eV (aj (some d3.2.2) (aN))) (aN))) []
def iq:List D->Option FR:=fn1 fun a_text=>FO (mX a_text)
abbrev yq:List Str:=["text","word","blank","figures"]
abbrev mY:List Str:=["text"]
theorem ou:FnScope yq mY (defScope iw):=⟨rfl,rfl,rfl,by decide+kernel,rfl,by decide+kernel,by decide+kernel⟩
abbrev mZ:List PM:=[.bo]
abbrev m5:VM:=.rg .fz
theorem ET (Z:Zs K mg) (C_number_of:Cal P w K mg base 1 "number_of" kj ko kq eV) (C_by_sizes:Cal P w K mg base 1 "by_sizes" n7 n9 oa iA) {f:Addr} {cdv:Value} {A:Around} {outer:List Env} {s:Shared} {H:Hp} {E:XK} (hr:Room 1 (A.deeper (envOfC "term_of" (defScope iw) s.heap.objs.size f cdv))) (v0:V) (a_text:D):
  Blk (cxT P w K mg base yq "term_of" (defScope iw) f cdv A outer s H E) (fnX m5 (bF mZ [v0]) E) [.bo,.fz,.fz,.fz] [some a_text,none,none,none] (defBody iw) (mX a_text):=by
 unfold mX
 exact (eL [.bo,.fz,.fz,.fz] (fun(y1:Unit)=>[some a_text,none,none,none]) (bH op_eq (j9 (rg:=.fz)) (ae (md:=.bo) 0 rfl rfl rfl (.inl rfl)) (aS (rg:=.fz)) rfl) (aO (Gg (rg:=.fz) Z.g_by_groups) rfl rfl rfl) (aJ (.keep (.drop (.drop (.drop (.nil)))))) (fun(y1:Unit)=>(eL [.bo,.fz,.fz,.fz] (fun(y2:Unit)=>[some a_text,none,none,none]) (bH op_eq (j9 (rg:=.fz)) (ae (md:=.bo) 0 rfl rfl rfl (.inl rfl)) (aS (rg:=.fz)) rfl) (aO (Gg (rg:=.fz) Z.g_by_marks) rfl rfl rfl) (aJ (.keep (.drop (.drop (.drop (.nil)))))) (fun(y2:Unit)=>(C5 1 2 3 [.bo,.fz,.fz,.fz] (fun(d3:D×D×D)=>[some a_text,some d3.1,some d3.2.1,some d3.2.2]) (IM (ae (md:=.bo) 0 rfl rfl rfl (.inl rfl)) (aS (rg:=.fz))) dO (pg_tup rfl (pgs_cons (pg_name (i:=1) ou.nd rfl (.inl rfl)) (pgs_cons (pg_name (i:=2) ou.nd rfl (.inl rfl)) (pgs_cons (pg_name (i:=3) ou.nd rfl (.inl rfl)) pgs_nil)))) (fun(d3:D×D×D)=>(eL [.bo,.fz,.fz,.fz] (fun(y4:Unit)=>[some a_text,some d3.1,some d3.2.1,some d3.2.2]) (PW.pt (vx (bH op_ne (Ki (rg:=.fz)) (ae (md:=.fz) 1 rfl rfl rfl (.inl rfl)) (aS (rg:=.fz)) rfl) (rH (bH op_gt (nH (rg:=.fz)) (aG C_number_of hr (af (ae (md:=.fz) 3 rfl rfl rfl (.inl rfl)) aA)) (ak (rg:=.fz)) rfl)))) uR (aJ (.keep (.keep (.keep (.keep (.nil)))))) (fun(y4:Unit)=>(aO (aG C_by_sizes hr (af (aG C_number_of hr (af (ae (md:=.fz) 3 rfl rfl rfl (.inl rfl)) aA)) aA)) rfl rfl rfl)))))))))
theorem Ck (Z:Zs K mg) (C_number_of:Cal P w K mg base 1 "number_of" kj ko kq eV) (C_by_sizes:Cal P w K mg base 1 "by_sizes" n7 n9 oa iA) {f:Addr} {fd:FuncData} (F:Fun K "term_of" "term_of" iw f fd):FnOk P w K mg base CX0 (2) f fd mY (FSp K mZ m5 iq):=
 cB (n:=3) F ou rfl rfl fun cdv A outer s H vs E hr hv ds fr hd ef=>match vs,hv,ds,hd,ef with| [v0],_,[a_text],_,ef=>⟨_,ET Z C_number_of C_by_sizes hr v0 a_text,ef⟩
def jT (y2:D×D):Option (Out (D×D) (D×D)):=
 (Ar D.cutS (some y2.1) (b1 D.toI (some (.int 3))) (some none)).bind fun d3=>(b2 D.bT (some y2.2) (some (.int 1))).bind fun d4=>some (.nx (d3,d4))
def iS (a_text:D):Option (Out PEmpty PEmpty):=
 (some (.int 0)).bind fun d1=>whO (fun(y2:D×D)=>lD (b2 D.ltI (some y2.2) (some (.int 5))) (b1 D.tb (b2 D.starts (some y2.1) (some (.str "no "))))) (jT) (a_text,d1) fun(y2:D×D)=>ifO (b2 D.eqA (b2 D.bw (some y2.2) (some (.int 2))) (some (.int 1))) (cP (aP iB (aj (aP iq (aj (some y2.1) (aN))) (aN))) []) (some (.nx ())) fun(y5:Unit)=>cP (aP iq (aj (some y2.1) (aN))) []
def fo:List D->Option FR:=fn1 fun a_text=>FO (iS a_text)
abbrev sG:List Str:=["text","times"]
abbrev iT:List Str:=["text"]
theorem jU:FnScope sG iT (defScope c9):=⟨rfl,rfl,rfl,by decide+kernel,rfl,by decide+kernel,by decide+kernel⟩
abbrev iU:List PM:=[.fz]
abbrev iV:VM:=.rg .fz
theorem zB (Z:Zs K mg) (C_term_of:Cal P w K mg base 2 "term_of" mY mZ m5 iq) (C_opposite:Cal P w K mg base 1 "opposite" oe og oh iB) {f:Addr} {cdv:Value} {A:Around} {outer:List Env} {s:Shared} {H:Hp} {E:XK} (hr:Room 2 (A.deeper (envOfC "noted_term" (defScope c9) s.heap.objs.size f cdv))) (v0:V) (a_text:D):
  Blk (cxT P w K mg base sG "noted_term" (defScope c9) f cdv A outer s H E) (fnX iV (bF iU [v0]) E) [.fz,.fz] [some a_text,none] (defBody c9) (iS a_text):=by
 unfold iS
 exact (aU 1 [.fz,.fz] (fun(d1:D)=>[some a_text,some d1]) (ak (rg:=.fz)) (fun(d1:D)=>(FU [.fz,.fz] (fun(y2:D×D)=>[some y2.1,some y2.2]) (fun(y2:D×D)=>(PW.pt (uQ (bH op_lt (nH (rg:=.fz)) (ae (md:=.fz) 1 rfl rfl rfl (.inl rfl)) (ak (rg:=.fz)) rfl) (rG (oL (Es (rg:=.fz) (ae (md:=.fz) 0 rfl rfl rfl (.inl rfl)) (aS (rg:=.fz)))))))) (.keep (.keep (.nil))) (fun(y2:D×D)=>by unfold jT;exact (aU 0 [.fz,.fz] (fun(d3:D)=>[some d3,some y2.2]) (Ir (rg:=.fz) (ae (md:=.fz) 0 rfl rfl rfl (.inl rfl)) (mJ (ak (rg:=.fz))) rJ) (fun(d3:D)=>(IS (fI:=fun i j=>i+j) 1 [.fz,.fz] (fun(d4:D)=>[some d3,some d4]) ip_add Ly (ak (rg:=.fz)) (fun(d4:D)=>(aJ (.keep (.keep (.nil))))) (.inl rfl) jU.nd)) (.inl rfl) jU.nd)) (fun(y2:D×D)=>(eL [.fz,.fz] (fun(y5:Unit)=>[some y2.1,some y2.2]) (bH op_eq (j9 (rg:=.fz)) (aE op_mod (bS (rg:=.fz)) (ae (md:=.fz) 1 rfl rfl rfl (.inl rfl)) (ak (rg:=.fz))) (ak (rg:=.fz)) rfl) (aO (aG C_opposite hr (af (aG C_term_of hr (af (ae (md:=.fz) 0 rfl rfl rfl (.inl rfl)) aA)) aA)) rfl rfl rfl) (aJ (.keep (.keep (.nil)))) (fun(y5:Unit)=>(aO (aG C_term_of hr (af (ae (md:=.fz) 0 rfl rfl rfl (.inl rfl)) aA)) rfl rfl rfl)))))) (.inl rfl) jU.nd)
theorem w8 (Z:Zs K mg) (C_term_of:Cal P w K mg base 2 "term_of" mY mZ m5 iq) (C_opposite:Cal P w K mg base 1 "opposite" oe og oh iB) {f:Addr} {fd:FuncData} (F:Fun K "noted_term" "noted_term" c9 f fd):FnOk P w K mg base CX0 (3) f fd iT (FSp K iU iV fo):=
 cB (n:=1) F jU rfl rfl fun cdv A outer s H vs E hr hv ds fr hd ef=>match vs,hv,ds,hd,ef with| [v0],_,[a_text],_,ef=>⟨_,zB Z C_term_of C_opposite hr v0 a_text,ef⟩
def ov (y3:D) (x5:D):Option (Out (D) (D)):=
 (yG y3 (some []) (aP jL (aj (lcO (nL (b2 D.split (some x5) (some (.str " and ")))) (fun c6:D=>some true) (fun c6:D=>aP fo (aj (some c6) (aN)))) (aN))) D.app).bind fun d7=>some (.nx d7.2)
def m6 (a_text:D):Option (Out PEmpty PEmpty):=
 (some (.lst [])).bind fun d1=>Ls (mK (nL (b2 D.split (some a_text) (some (.str " or ")))) (ov) d1 fun(y3:D)=>some (.nx y3)) (fun(y2:D)=>cP (aP iC (aj (some y2) (aN))) []) fun(y8:Unit)=>none
def jM:List D->Option FR:=fn1 fun a_text=>FO (m6 a_text)
abbrev tH:List Str:=["text","some","part","term"]
abbrev m7:List Str:=["text"]
theorem lN:FnScope tH m7 (defScope gk):=⟨rfl,rfl,rfl,by decide+kernel,rfl,by decide+kernel,by decide+kernel⟩
abbrev m8:List PM:=[.bo]
abbrev m9:VM:=.rg .fz
theorem EU (Z:Zs K mg) (C_noted_term:Cal P w K mg base 3 "noted_term" iT iU iV fo) (C_all_let:Cal P w K mg base 1 "all_let" qd qe qf jL) (C_one_lets:Cal P w K mg base 1 "one_lets" oj oo oq iC) {f:Addr} {cdv:Value} {A:Around} {outer:List Env} {s:Shared} {H:Hp} {E:XK} (hr:Room 3 (A.deeper (envOfC "rule_of" (defScope gk) s.heap.objs.size f cdv))) (v0:V) (a_text:D):
  Blk (cxT P w K mg base tH "rule_of" (defScope gk) f cdv A outer s H E) (fnX m9 (bF m8 [v0]) E) [.bo,.fz,.fz,.fz] [some a_text,none,none,none] (defBody gk) (m6 a_text):=by
 unfold m6
 exact (aU 1 [.bo,.ow (.ls .fz),.fz,.fz] (fun(d1:D)=>[some a_text,some d1,none,none]) (pZ (s:=.fz)) (fun(d1:D)=>(Lu [.bo,.ow (.ls .fz),.fz,.fz] (fun(y2:D)=>[some a_text,some y2,none,none]) [.bo,.fz,.fz,.fz] (fun(y8:Unit)=>[some a_text,none,none,none]) (fU [.bo,.ow (.ls .fz),.fz,.fz] (fun(y3:D)=>[some a_text,some y3,none,none]) [.bo,.ow (.ls .fz),.fz,.fz] (fun(y3:D) (x5:D)=>[some a_text,some y3,some x5,none]) (dN (cW (Aw (ae (md:=.bo) 0 rfl rfl rfl (.inl rfl)) (aS (rg:=.fz))))) bC dO (pg_name (i:=2) lN.nd rfl (.inl rfl)) (bW _ 2 dO (Nat.le_of_ble_eq_true rfl)) (.keep (.keep (.drop (.drop (.nil))))) (fun(y3:D) (x5:D)=>by unfold ov;exact (ke 1 (fun(d7:D×D)=>[some a_text,some d7.2,some x5,none]) (p6 (lh rfl rfl rfl (jH 1 rfl rfl rfl rfl (.inl rfl)) (mL rfl) (aG C_all_let hr (af (cW (xN rfl lN.nd (dN (cW (Aw (ae (md:=.fz) 2 rfl rfl rfl (.inl rfl)) (aS (rg:=.fz))))) bC dO (show BlkOk tH (defScope gk) _ [("term",3)] from ⟨rfl,by decide+kernel,by decide+kernel,by decide+kernel,by decide+kernel⟩) (Ee rfl) xQ (fun _ _ _ _ _=>(pg_name (i:=3) lN.nd rfl (.inl rfl))) (bW _ 3 dO (Nat.le_of_ble_eq_true rfl)) (fun _ _ _ _ _ (c6:D)=>rM) (fun _ _ _ _ _ (c6:D)=>(aG C_noted_term hr (af (ae (md:=.fz) 3 rfl rfl rfl (.inl rfl)) aA))))) aA)) rfl)) (fun(d7:D×D)=>(aJ (.keep (.keep (.drop (.drop (.nil))))))))) (fun(y3:D)=>(aJ (.keep (.keep (.drop (.drop (.nil)))))))) (fun(y2:D)=>(lj 1 [.bo,.fz,.fz,.fz] (aO (aG C_one_lets hr (af (ae (md:=.fz) 1 rfl rfl rfl (.inl rfl)) aA)) rfl rfl rfl))) (fun(y8:Unit)=>uR))) (.inl rfl) lN.nd)
theorem Cm (Z:Zs K mg) (C_noted_term:Cal P w K mg base 3 "noted_term" iT iU iV fo) (C_all_let:Cal P w K mg base 1 "all_let" qd qe qf jL) (C_one_lets:Cal P w K mg base 1 "one_lets" oj oo oq iC) {f:Addr} {fd:FuncData} (F:Fun K "rule_of" "rule_of" gk f fd):FnOk P w K mg base CX0 (4) f fd m7 (FSp K m8 m9 jM):=
 cB (n:=3) F lN rfl rfl fun cdv A outer s H vs E hr hv ds fr hd ef=>match vs,hv,ds,hd,ef with| [v0],_,[a_text],_,ef=>⟨_,EU Z C_noted_term C_all_let C_one_lets hr v0 a_text,ef⟩
def iW (a_one:D) (a_other:D):Option (Out PEmpty PEmpty):=
 cP (b1 D.max2 (aj (some (.int 1)) (aj (b2 D.gY (b2 D.gY (b2 D.bT (b2 D.atT (some a_one) (some (.int 1))) (b2 D.atT (some a_other) (some (.int 1)))) (aP mH (aj (b2 D.atT (some a_one) (some (.int 3))) (aj (b2 D.atT (some a_other) (some (.int 4))) (aN))))) (aP mH (aj (b2 D.atT (some a_other) (some (.int 3))) (aj (b2 D.atT (some a_one) (some (.int 4))) (aN))))) (aN)))) []
def ft:List D->Option FR:=fn2 fun a_one a_other=>FO (iW a_one a_other)
abbrev sH:List Str:=["one","other"]
abbrev iX:List Str:=["one","other"]
theorem w9:FnScope sH iX (defScope de):=⟨rfl,rfl,rfl,by decide+kernel,rfl,by decide+kernel,by decide+kernel⟩
abbrev iY:List PM:=[.bo,.bo]
abbrev iZ:VM:=.rg .fz
theorem zC (Z:Zs K mg) (C_gap:Cal P w K mg base 1 "gap" wj wm wq mH) {f:Addr} {cdv:Value} {A:Around} {outer:List Env} {s:Shared} {H:Hp} {E:XK} (hr:Room 1 (A.deeper (envOfC "swap_worth" (defScope de) s.heap.objs.size f cdv))) (v0 v1:V) (a_one a_other:D):
  Blk (cxT P w K mg base sH "swap_worth" (defScope de) f cdv A outer s H E) (fnX iZ (bF iY [v0,v1]) E) [.bo,.bo] [some a_one,some a_other] (defBody de) (iW a_one a_other):=by
 unfold iW
 exact (aO (iM (call_max2 rfl) (BI (rg:=.fz)) (by rfl) Z.max BH (af (ak (rg:=.fz)) (af (aE op_sub (jG (rg:=.fz)) (aE op_sub (jG (rg:=.fz)) (aE op_add (dF (rg:=.fz)) (aQ ix_tup bh (ae (md:=.bo) 0 rfl rfl rfl (.inl rfl)) (ak (rg:=.fz)) (fun _ _=>rfl)) (aQ ix_tup bh (ae (md:=.bo) 1 rfl rfl rfl (.inl rfl)) (ak (rg:=.fz)) (fun _ _=>rfl))) (aG C_gap hr (af (aQ ix_tup bh (ae (md:=.bo) 0 rfl rfl rfl (.inl rfl)) (ak (rg:=.fz)) (fun _ _=>rfl)) (af (aQ ix_tup bh (ae (md:=.bo) 1 rfl rfl rfl (.inl rfl)) (ak (rg:=.fz)) (fun _ _=>rfl)) aA)))) (aG C_gap hr (af (aQ ix_tup bh (ae (md:=.bo) 1 rfl rfl rfl (.inl rfl)) (ak (rg:=.fz)) (fun _ _=>rfl)) (af (aQ ix_tup bh (ae (md:=.bo) 0 rfl rfl rfl (.inl rfl)) (ak (rg:=.fz)) (fun _ _=>rfl)) aA)))) aA))) rfl rfl rfl)
theorem xg (Z:Zs K mg) (C_gap:Cal P w K mg base 1 "gap" wj wm wq mH) {f:Addr} {fd:FuncData} (F:Fun K "swap_worth" "swap_worth" de f fd):FnOk P w K mg base CX0 (2) f fd iX (FSp K iY iZ ft):=
 cB (n:=0) F w9 rfl rfl fun cdv A outer s H vs E hr hv ds fr hd ef=>match vs,hv,ds,hd,ef with| [v0,v1],_,[a_one,a_other],_,ef=>⟨_,zC Z C_gap hr v0 v1 a_one a_other,ef⟩
def i5 (a__law_kind:D) (a__law_bound:D) (a__law_giver:D) (a__law_taker:D):Option (Out PEmpty PEmpty):=
 ifO (b2 D.eqA (some a__law_kind) (some (.str "groups"))) ((wW (aj (some (.str "O O")) (aj (some (.str "O A")) (aj (some (.str "O B")) (aj (some (.str "O AB")) (aj (some (.str "A A")) (aj (some (.str "A AB")) (aj (some (.str "B B")) (aj (some (.str "B AB")) (aj (some (.str "AB AB")) (aN))))))))))).bind fun d2=>cP (b2 (blD ((D.inA false))) (b2 D.kQ (b2 D.kQ (b2 D.atT (some a__law_giver) (some (.int 0))) (some (.str " "))) (b2 D.atT (some a__law_taker) (some (.int 0)))) (some d2)) []) (some (.nx ())) fun(y1:Unit)=>ifO (b2 D.eqA (some a__law_kind) (some (.str "marks"))) (cP (b2 (blD D.eqD) (lcO (b1 D.vA (b2 D.atT (some a__law_giver) (some (.int 2)))) (fun c4:D=>b2 (D.qp false) (some c4) (b2 D.atT (some a__law_taker) (some (.int 2)))) (fun c4:D=>some c4)) (some (.lst []))) []) (some (.nx ())) fun(y3:Unit)=>cP (Ec (b2 (blD D.leI) (b2 D.gY (b2 D.atT (some a__law_giver) (some (.int 1))) (b2 D.atT (some a__law_taker) (some (.int 1)))) (some a__law_bound)) (b2 (blD D.leI) (b2 D.gY (b2 D.atT (some a__law_taker) (some (.int 1))) (b2 D.atT (some a__law_giver) (some (.int 1)))) (some a__law_bound))) []
def fu:List D->Option FR:=fn4 fun a__law_kind a__law_bound a__law_giver a__law_taker=>FO (i5 a__law_kind a__law_bound a__law_giver a__law_taker)
abbrev oy:List Str:=["_law_kind","_law_bound","_law_giver","_law_taker","_law_pairs","_law_mark"]
abbrev i6:List Str:=["_law_kind","_law_bound","_law_giver","_law_taker"]
theorem jV:FnScope oy i6 (defScope cN):=⟨rfl,rfl,rfl,by decide+kernel,rfl,by decide+kernel,by decide+kernel⟩
abbrev i7:List PM:=[.bo,.bo,.bo,.bo]
abbrev i8:VM:=.rg .fz
theorem zD (Z:Zs K mg) {f:Addr} {cdv:Value} {A:Around} {outer:List Env} {s:Shared} {H:Hp} {E:XK} (hr:Room 0 (A.deeper (envOfC "_law_plain" (defScope cN) s.heap.objs.size f cdv))) (v0 v1 v2 v3:V) (a__law_kind a__law_bound a__law_giver a__law_taker:D):
  Blk (cxT P w K mg base oy "_law_plain" (defScope cN) f cdv A outer s H E) (fnX i8 (bF i7 [v0,v1,v2,v3]) E) [.bo,.bo,.bo,.bo,.fz,.fz] [some a__law_kind,some a__law_bound,some a__law_giver,some a__law_taker,none,none] (defBody cN) (i5 a__law_kind a__law_bound a__law_giver a__law_taker):=by
 unfold i5
 exact (eL [.bo,.bo,.bo,.bo,.fz,.fz] (fun(y1:Unit)=>[some a__law_kind,some a__law_bound,some a__law_giver,some a__law_taker,none,none]) (bH op_eq (j9 (rg:=.fz)) (ae (md:=.bo) 0 rfl rfl rfl (.inl rfl)) (aS (rg:=.fz)) rfl) (aU 4 [.bo,.bo,.bo,.bo,.fz,.fz] (fun(d2:D)=>[some a__law_kind,some a__law_bound,some a__law_giver,some a__law_taker,some d2,none]) (cW (o8 (af (aS (rg:=.fz)) (af (aS (rg:=.fz)) (af (aS (rg:=.fz)) (af (aS (rg:=.fz)) (af (aS (rg:=.fz)) (af (aS (rg:=.fz)) (af (aS (rg:=.fz)) (af (aS (rg:=.fz)) (af (aS (rg:=.fz)) aA))))))))) LJ)) (fun(d2:D)=>(aO (mv op_in_seq (M6 (rg:=.fz)) (aE op_add_str (nF (rg:=.fz)) (aE op_add_str (nF (rg:=.fz)) (aQ ix_tup bh (ae (md:=.bo) 2 rfl rfl rfl (.inl rfl)) (ak (rg:=.fz)) (fun _ _=>rfl)) (aS (rg:=.fz))) (aQ ix_tup bh (ae (md:=.bo) 3 rfl rfl rfl (.inr (.inl rfl))) (ak (rg:=.fz)) (fun _ _=>rfl))) (ae (md:=.fz) 4 rfl rfl rfl (.inl rfl)) rfl) rfl rfl rfl)) (.inl rfl) jV.nd) (aJ (.keep (.keep (.keep (.keep (.drop (.drop (.nil)))))))) (fun(y1:Unit)=>(eL [.bo,.bo,.bo,.bo,.fz,.fz] (fun(y3:Unit)=>[some a__law_kind,some a__law_bound,some a__law_giver,some a__law_taker,none,none]) (bH op_eq (j9 (rg:=.fz)) (ae (md:=.bo) 0 rfl rfl rfl (.inl rfl)) (aS (rg:=.fz)) rfl) (aO (mv (op_eqD hr.units) (Kj (rg:=.fz)) (cW (xN rfl jV.nd (yE (aQ ix_tup bh (ae (md:=.bo) 2 rfl rfl rfl (.inl rfl)) (ak (rg:=.fz)) (fun _ _=>rfl))) bC dO (show BlkOk oy (defScope cN) _ [("_law_mark",5)] from ⟨rfl,by decide+kernel,by decide+kernel,by decide+kernel,by decide+kernel⟩) (Ee rfl) xQ (fun _ _ _ _ _=>(pg_name (i:=5) jV.nd rfl (.inl rfl))) (bW _ 5 dO (Nat.le_of_ble_eq_true rfl)) (fun _ _ _ _ _ (c4:D)=>(An (bH op_in_sign FW (ae (md:=.fz) 5 rfl rfl rfl (.inl rfl)) (aQ ix_tup bh (ae (md:=.bo) 3 rfl rfl rfl (.inr (.inl rfl))) (ak (rg:=.fz)) (fun _ _=>rfl)) rfl))) (fun _ _ _ _ _ (c4:D)=>(ae (md:=.fz) 5 rfl rfl rfl (.inl rfl))))) (cW (pZ (s:=.fz))) rfl) rfl rfl rfl) (aJ (.keep (.keep (.keep (.keep (.drop (.drop (.nil)))))))) (fun(y3:Unit)=>(aO (yB (mv op_le (nH (rg:=.fz)) (aE op_sub (jG (rg:=.fz)) (aQ ix_tup bh (ae (md:=.bo) 2 rfl rfl rfl (.inl rfl)) (ak (rg:=.fz)) (fun _ _=>rfl)) (aQ ix_tup bh (ae (md:=.bo) 3 rfl rfl rfl (.inr (.inl rfl))) (ak (rg:=.fz)) (fun _ _=>rfl))) (ae (md:=.bo) 1 rfl rfl rfl (.inl rfl)) rfl) (vy (mv op_le (nH (rg:=.fz)) (aE op_sub (jG (rg:=.fz)) (aQ ix_tup bh (ae (md:=.bo) 3 rfl rfl rfl (.inr (.inl rfl))) (ak (rg:=.fz)) (fun _ _=>rfl)) (aQ ix_tup bh (ae (md:=.bo) 2 rfl rfl rfl (.inl rfl)) (ak (rg:=.fz)) (fun _ _=>rfl))) (ae (md:=.bo) 1 rfl rfl rfl (.inl rfl)) rfl))) rfl rfl rfl)))))
theorem xh (Z:Zs K mg) {f:Addr} {fd:FuncData} (F:Fun K "_law_plain" "_law_plain" cN f fd):FnOk P w K mg base CX0 (1) f fd i6 (FSp K i7 i8 fu):=
 cB (n:=2) F jV rfl rfl fun cdv A outer s H vs E hr hv ds fr hd ef=>match vs,hv,ds,hd,ef with| [v0,v1,v2,v3],_,[a__law_kind,a__law_bound,a__law_giver,a__law_taker],_,ef=>⟨_,zD Z hr v0 v1 v2 v3 a__law_kind a__law_bound a__law_giver a__law_taker,ef⟩
def kZ (k__law_giver:D) (k__law_taker:D) (y5:D) (x7:D×D×D):Option (Out (D) (D)):=
 ifO (b2 D.eqA (aP fu (aj (some x7.2.1) (aj (some x7.2.2) (aj (some k__law_giver) (aj (some k__law_taker) (aN)))))) (b2 (blD D.eqA) (b2 D.bw (some x7.1) (some (.int 2))) (some (.int 1)))) ((some (.bl false)).bind fun d9=>some (.nx d9)) (some (.nx y5)) fun(y8:D)=>some (.nx y8)
def k6 (k__law_giver:D) (k__law_taker:D) (y1:Unit) (x3:D):Option (Out (Unit) (Unit)):=
 (some (.bl true)).bind fun d4=>mK (IZ (some x3)) (kZ k__law_giver k__law_taker) d4 fun(y5:D)=>ifO (b1 D.tb (some y5)) (cP (some (.bl true)) []) (some (.nx ())) fun(y10:Unit)=>some (.nx ())
def kx (a__law_alternatives_here:D) (a__law_giver:D) (a__law_taker:D):Option (Out PEmpty PEmpty):=
 mK (nL (some a__law_alternatives_here)) (k6 a__law_giver a__law_taker) () fun(y1:Unit)=>cP (some (.bl false)) []
def cQ:List D->Option FR:=fn3 fun a__law_alternatives_here a__law_giver a__law_taker=>FO (kx a__law_alternatives_here a__law_giver a__law_taker)
abbrev um:List Str:=["_law_alternatives_here","_law_giver","_law_taker","_law_terms","_law_good","_law_times","_law_kind","_law_bound"]
abbrev iE:List Str:=["_law_alternatives_here","_law_giver","_law_taker"]
theorem eW:FnScope um iE (defScope eE):=⟨rfl,rfl,rfl,by decide+kernel,rfl,by decide+kernel,by decide+kernel⟩
abbrev iF:List PM:=[.bo,.bo,.bo]
abbrev iG:VM:=.rg .fz
theorem Bj (Z:Zs K mg) (C__law_plain:Cal P w K mg base 1 "_law_plain" i6 i7 i8 fu) {f:Addr} {cdv:Value} {A:Around} {outer:List Env} {s:Shared} {H:Hp} {E:XK} (hr:Room 1 (A.deeper (envOfC "_law_lets" (defScope eE) s.heap.objs.size f cdv))) (v0 v1 v2:V) (a__law_alternatives_here a__law_giver a__law_taker:D):
  Blk (cxT P w K mg base um "_law_lets" (defScope eE) f cdv A outer s H E) (fnX iG (bF iF [v0,v1,v2]) E) [.bo,.bo,.bo,.fz,.fz,.fz,.fz,.fz] [some a__law_alternatives_here,some a__law_giver,some a__law_taker,none,none,none,none,none] (defBody eE) (kx a__law_alternatives_here a__law_giver a__law_taker):=by
 unfold kx
 exact (fU [.bo,.bo,.bo,.fz,.fz,.fz,.fz,.fz] (fun(y1:Unit)=>[some a__law_alternatives_here,some a__law_giver,some a__law_taker,none,none,none,none,none]) [.bo,.bo,.bo,.bo,.fz,.fz,.fz,.fz] (fun(y1:Unit) (x3:D)=>[some a__law_alternatives_here,some a__law_giver,some a__law_taker,some x3,none,none,none,none]) (dN (ae (md:=.bo) 0 rfl rfl rfl (.inl rfl))) bC ff (pg_name (i:=3) eW.nd rfl (.inl rfl)) (bW _ 3 ff (Nat.le_of_ble_eq_true rfl)) (.keep (.keep (.keep (.drop (.drop (.drop (.drop (.drop (.nil))))))))) (fun(y1:Unit) (x3:D)=>by unfold k6;exact (aU 4 [.bo,.bo,.bo,.bo,.fz,.fz,.fz,.fz] (fun(d4:D)=>[some a__law_alternatives_here,some a__law_giver,some a__law_taker,some x3,some d4,none,none,none]) (kP (rg:=.fz)) (fun(d4:D)=>(fU [.bo,.bo,.bo,.bo,.fz,.fz,.fz,.fz] (fun(y5:D)=>[some a__law_alternatives_here,some a__law_giver,some a__law_taker,some x3,some y5,none,none,none]) [.bo,.bo,.bo,.bo,.fz,.bo,.bo,.bo] (fun(y5:D) (x7:D×D×D)=>[some a__law_alternatives_here,some a__law_giver,some a__law_taker,some x3,some y5,some x7.1,some x7.2.1,some x7.2.2]) (I0 (ae (md:=.bo) 3 rfl rfl rfl (.inl rfl))) Ga ff (pg_tup rfl (pgs_cons (pg_name (i:=5) eW.nd rfl (.inl rfl)) (pgs_cons (pg_name (i:=6) eW.nd rfl (.inl rfl)) (pgs_cons (pg_name (i:=7) eW.nd rfl (.inl rfl)) pgs_nil)))) (LH _ 5 6 7 ff (Nat.le_of_ble_eq_true rfl) (Nat.le_of_ble_eq_true rfl) (Nat.le_of_ble_eq_true rfl)) (.keep (.keep (.keep (.keep (.keep (.drop (.drop (.drop (.nil))))))))) (fun(y5:D) (x7:D×D×D)=>by unfold kZ;exact (eL [.bo,.bo,.bo,.bo,.fz,.bo,.bo,.bo] (fun(y8:D)=>[some a__law_alternatives_here,some a__law_giver,some a__law_taker,some x3,some y8,some x7.1,some x7.2.1,some x7.2.2]) (bH op_eq (j9 (rg:=.fz)) (aG C__law_plain hr (af (ae (md:=.bo) 6 rfl rfl rfl (.inl rfl)) (af (ae (md:=.bo) 7 rfl rfl rfl (.inl rfl)) (af (ae (md:=.bo) 1 rfl rfl rfl (.inl rfl)) (af (ae (md:=.bo) 2 rfl rfl rfl (.inl rfl)) aA))))) (mv op_eq (j9 (rg:=.fz)) (aE op_mod (bS (rg:=.fz)) (ae (md:=.bo) 5 rfl rfl rfl (.inl rfl)) (ak (rg:=.fz))) (ak (rg:=.fz)) rfl) rfl) (aU 4 [.bo,.bo,.bo,.bo,.fz,.bo,.bo,.bo] (fun(d9:D)=>[some a__law_alternatives_here,some a__law_giver,some a__law_taker,some x3,some d9,some x7.1,some x7.2.1,some x7.2.2]) (kP (rg:=.fz)) (fun(d9:D)=>(aJ (.keep (.keep (.keep (.keep (.keep (.keep (.keep (.keep (.nil))))))))))) (.inl rfl) eW.nd) (aJ (.keep (.keep (.keep (.keep (.keep (.keep (.keep (.keep (.nil)))))))))) (fun(y8:D)=>(aJ (.keep (.keep (.keep (.keep (.keep (.drop (.drop (.drop (.nil))))))))))))) (fun(y5:D)=>(eL [.bo,.bo,.bo,.bo,.fz,.fz,.fz,.fz] (fun(y10:Unit)=>[some a__law_alternatives_here,some a__law_giver,some a__law_taker,some x3,some y5,none,none,none]) (oL (ae (md:=.fz) 4 rfl rfl rfl (.inl rfl))) (aO (kP (rg:=.fz)) rfl rfl rfl) (aJ (.keep (.keep (.keep (.keep (.keep (.drop (.drop (.drop (.nil)))))))))) (fun(y10:Unit)=>(aJ (.keep (.keep (.keep (.drop (.drop (.drop (.drop (.drop (.nil))))))))))))))) (.inl rfl) eW.nd)) (fun(y1:Unit)=>(aO (kP (rg:=.fz)) rfl rfl rfl)))
theorem zE (Z:Zs K mg) (C__law_plain:Cal P w K mg base 1 "_law_plain" i6 i7 i8 fu) {f:Addr} {fd:FuncData} (F:Fun K "_law_lets" "_law_lets" eE f fd):FnOk P w K mg base CX0 (2) f fd iE (FSp K iF iG cQ):=
 cB (n:=5) F eW rfl rfl fun cdv A outer s H vs E hr hv ds fr hd ef=>match vs,hv,ds,hd,ef with| [v0,v1,v2],_,[a__law_alternatives_here,a__law_giver,a__law_taker],_,ef=>⟨_,Bj Z C__law_plain hr v0 v1 v2 a__law_alternatives_here a__law_giver a__law_taker,ef⟩
def ng (a__law_here:D) (a__law_there:D) (a__law_alternatives_here:D):Option D:=
 aP cQ (aj (some a__law_alternatives_here) (aj (some a__law_here) (aj (some a__law_there) (aN))))
def oA:List D->Option FR:=fn3 fun a__law_here a__law_there a__law_alternatives_here=>(ng a__law_here a__law_there a__law_alternatives_here).map fun d=>.ok d []
abbrev qg:Expr:=NP ((defBody qv).getD 8 (.Pass ⟨0,0,0,0⟩))
abbrev eX:FnT:=⟨"<lambda>",("law" :Str)++".<locals>." ++"<lambda>",NL qg,[],NO qg,"_law_alternatives_here",some (NM qg)⟩
theorem Cp (Z:Zs K mg) (C__law_lets:Cal P w K mg base 2 "_law_lets" iE iF iG cQ):vF P w K mg base 3 eX oA:=
 Gj (F:=eX) (b:=NM qg) (x1:="_law_here") (x2:="_law_there") (k:=2) (g:=ng) rfl (NdefX.nscope_by (by decide+kernel)) (fun _ _ _ _ _ _ _=>rfl) fun A outer s H E f c c' hr a__law_here a__law_there a__law_alternatives_here=>by unfold ng;exact (aG C__law_lets hr (af (ae (md:=.bo) 2 rfl rfl rfl (.inr (.inr rfl))) (af (ae (md:=.bo) 0 rfl rfl rfl (.inl rfl)) (af (ae (md:=.bo) 1 rfl rfl rfl (.inl rfl)) aA))))
def FC:Nat->List D->Option FR
 |0=>fun _=>none
 |n+1=>fcD [("by_groups",iQ),("by_marks",ku)] [(bM,gz (FC n)),(bN,gA (FC n)),(bV,hE (FC n)),(bO,gE (FC n)),(eX,oA)]
def qh (y2:D) (x4:D):Option (Out (D) (D)):=
 (qE y2 (some (.dct [])) (some []) (b2 D.atT (some x4) (some (.int 0)))).bind fun d5=>some (.nx d5)
def qi (k_rule:D) (k_one:D) (y9:D) (x11:D):Option (Out (D) (D)):=
 ifO (lD (b1 D.tb (aP (FC 12) (aj (some k_rule) (aj (b2 D.atT (some k_one) (some (.int 3))) (aj (b2 D.atT (some x11) (some (.int 4))) (aN)))))) (b1 D.tb (aP (FC 12) (aj (some k_rule) (aj (b2 D.atT (some x11) (some (.int 3))) (aj (b2 D.atT (some k_one) (some (.int 4))) (aN))))))) ((aP ft (aj (some k_one) (aj (some x11) (aN)))).bind fun d13=>(qE y9 (some d13) (Ed (.dc (.dc .fz)) y9 (some []) (b2 D.atT (some k_one) (some (.int 0)))) (b2 D.atT (some x11) (some (.int 0)))).bind fun d14=>(qE d14 (some d13) (Ed (.dc (.dc .fz)) d14 (some []) (b2 D.atT (some x11) (some (.int 0)))) (b2 D.atT (some k_one) (some (.int 0)))).bind fun d15=>some (.nx d15)) (some (.nx y9)) fun(y12:D)=>some (.nx y12)
def qj (k_couples:D) (k_rule:D) (y6:D) (x8:D×D):Option (Out (D) (D)):=
 mK (nL (Ar D.FE (some k_couples) (b1 D.toI (b2 D.bT (some x8.1) (some (.int 1)))) (some none))) (qi k_rule x8.2) y6 fun(y9:D)=>some (.nx y9)
def pH (a_couples:D) (a_rule:D):Option (Out PEmpty PEmpty):=
 (some (.dct [])).bind fun d1=>mK (nL (some a_couples)) (qh) d1 fun(y2:D)=>mK (Dc (some a_couples)) (qj a_couples a_rule) y2 fun(y6:D)=>some (.ret y6 [])
def gF:List D->Option FR:=fn2 fun a_couples a_rule=>FO (pH a_couples a_rule)
abbrev Bk:List Str:=["couples","rule","web","couple","k","one","other","worth"]
abbrev pJ:List Str:=["couples","rule"]
theorem jN:FnScope Bk pJ (defScope j5):=⟨rfl,rfl,rfl,by decide+kernel,rfl,by decide+kernel,by decide+kernel⟩
abbrev pK:List PM:=[.bo,.bo]
abbrev pM:VM:=.nw (.dc (.dc .fz))
theorem HR (Z:Zs K mg) (C_val:rW P w K mg base 14 (FC 12)) (C_swap_worth:Cal P w K mg base 2 "swap_worth" iX iY iZ ft) {f:Addr} {cdv:Value} {A:Around} {outer:List Env} {s:Shared} {H:Hp} {E:XK} (hr:Room 14 (A.deeper (envOfC "web_of" (defScope j5) s.heap.objs.size f cdv))) (v0 v1:V) (a_couples a_rule:D):
  Blk (cxT P w K mg base Bk "web_of" (defScope j5) f cdv A outer s H E) (fnX pM (bF pK [v0,v1]) E) [.bo,.bo,.fz,.fz,.fz,.fz,.fz,.fz] [some a_couples,some a_rule,none,none,none,none,none,none] (defBody j5) (pH a_couples a_rule):=by
 unfold pH
 exact (aU 2 [.bo,.bo,.ow (.dc (.dc .fz)),.fz,.fz,.fz,.fz,.fz] (fun(d1:D)=>[some a_couples,some a_rule,some d1,none,none,none,none,none]) (rF (s:=(.dc .fz))) (fun(d1:D)=>(fU [.bo,.bo,.ow (.dc (.dc .fz)),.fz,.fz,.fz,.fz,.fz] (fun(y2:D)=>[some a_couples,some a_rule,some y2,none,none,none,none,none]) [.bo,.bo,.ow (.dc (.dc .fz)),.bo,.fz,.fz,.fz,.fz] (fun(y2:D) (x4:D)=>[some a_couples,some a_rule,some y2,some x4,none,none,none,none]) (dN (ae (md:=.bo) 0 rfl rfl rfl (.inl rfl))) bC ff (pg_name (i:=3) jN.nd rfl (.inl rfl)) (bW _ 3 ff (Nat.le_of_ble_eq_true rfl)) (.keep (.keep (.keep (.drop (.drop (.drop (.drop (.drop (.nil))))))))) (fun(y2:D) (x4:D)=>by unfold qh;exact (rR 2 (fun(d5:D)=>[some a_couples,some a_rule,some d5,some x4,none,none,none,none]) (hu_of hr) (rF (s:=.fz)) rfl (jH 2 rfl rfl rfl rfl (.inl rfl)) (mL rfl) (aQ ix_tup bh (ae (md:=.bo) 3 rfl rfl rfl (.inl rfl)) (ak (rg:=.fz)) (fun _ _=>rfl)) (fun(d5:D)=>(aJ (.keep (.keep (.keep (.drop (.drop (.drop (.drop (.drop (.nil))))))))))))) (fun(y2:D)=>(fU [.bo,.bo,.ow (.dc (.dc .fz)),.fz,.fz,.fz,.fz,.fz] (fun(y6:D)=>[some a_couples,some a_rule,some y6,none,none,none,none,none]) [.bo,.bo,.ow (.dc (.dc .fz)),.fz,.bo,.bo,.fz,.fz] (fun(y6:D) (x8:D×D)=>[some a_couples,some a_rule,some y6,none,some x8.1,some x8.2,none,none]) (Az rfl Z.enumerate (ae (md:=.bo) 0 rfl rfl rfl (.inl rfl))) Ae ff (pg_tup rfl (pgs_cons (pg_name (i:=4) jN.nd rfl (.inl rfl)) (pgs_cons (pg_name (i:=5) jN.nd rfl (.inl rfl)) pgs_nil))) (CN _ 4 5 ff (Nat.le_of_ble_eq_true rfl) (Nat.le_of_ble_eq_true rfl)) (.keep (.keep (.keep (.drop (.drop (.drop (.drop (.drop (.nil))))))))) (fun(y6:D) (x8:D×D)=>by unfold qj;exact (fU [.bo,.bo,.ow (.dc (.dc .fz)),.fz,.bo,.bo,.fz,.fz] (fun(y9:D)=>[some a_couples,some a_rule,some y9,none,some x8.1,some x8.2,none,none]) [.bo,.bo,.ow (.dc (.dc .fz)),.fz,.bo,.bo,.fz,.fz] (fun(y9:D) (x11:D)=>[some a_couples,some a_rule,some y9,none,some x8.1,some x8.2,some x11,none]) (dN (cW (FH (ae (md:=.bo) 0 rfl rfl rfl (.inl rfl)) (mJ (aE op_add (dF (rg:=.fz)) (ae (md:=.bo) 4 rfl rfl rfl (.inl rfl)) (ak (rg:=.fz)))) rJ))) bC dO (pg_name (i:=6) jN.nd rfl (.inl rfl)) (bW _ 6 dO (Nat.le_of_ble_eq_true rfl)) (.keep (.keep (.keep (.drop (.keep (.keep (.drop (.drop (.nil))))))))) (fun(y9:D) (x11:D)=>by unfold qi;exact (eL [.bo,.bo,.ow (.dc (.dc .fz)),.fz,.bo,.bo,.fz,.fz] (fun(y12:D)=>[some a_couples,some a_rule,some y12,none,some x8.1,some x8.2,some x11,none]) (PW.pt (uQ (oL (vH 1 C_val hr rfl rfl rfl (.inl rfl) (af (aQ ix_tup bh (ae (md:=.bo) 5 rfl rfl rfl (.inl rfl)) (ak (rg:=.fz)) (fun _ _=>rfl)) (af (aQ ix_tup bh (ae (md:=.fz) 6 rfl rfl rfl (.inl rfl)) (ak (rg:=.fz)) (fun _ _=>rfl)) aA)))) (rG (oL (vH 1 C_val hr rfl rfl rfl (.inl rfl) (af (aQ ix_tup bh (ae (md:=.fz) 6 rfl rfl rfl (.inl rfl)) (ak (rg:=.fz)) (fun _ _=>rfl)) (af (aQ ix_tup bh (ae (md:=.bo) 5 rfl rfl rfl (.inl rfl)) (ak (rg:=.fz)) (fun _ _=>rfl)) aA))))))) (aU 7 [.bo,.bo,.ow (.dc (.dc .fz)),.fz,.bo,.bo,.fz,.fz] (fun(d13:D)=>[some a_couples,some a_rule,some y9,none,some x8.1,some x8.2,some x11,some d13]) (aG C_swap_worth hr (af (ae (md:=.bo) 5 rfl rfl rfl (.inl rfl)) (af (ae (md:=.fz) 6 rfl rfl rfl (.inl rfl)) aA))) (fun(d13:D)=>(rR 2 (fun(d14:D)=>[some a_couples,some a_rule,some d14,none,some x8.1,some x8.2,some x11,some d13]) (hu_of hr) (ae (md:=.fz) 7 rfl rfl rfl (.inl rfl)) rfl (BD rfl rfl rfl (hu_of hr) (jH 2 rfl rfl rfl rfl (.inl rfl)) (aQ ix_tup bh (ae (md:=.bo) 5 rfl rfl rfl (.inl rfl)) (ak (rg:=.fz)) (fun _ _=>rfl)) (fun _ _=>rfl)) (FD (mL rfl)) (aQ ix_tup bh (ae (md:=.fz) 6 rfl rfl rfl (.inl rfl)) (ak (rg:=.fz)) (fun _ _=>rfl)) (fun(d14:D)=>(rR 2 (fun(d15:D)=>[some a_couples,some a_rule,some d15,none,some x8.1,some x8.2,some x11,some d13]) (hu_of hr) (ae (md:=.fz) 7 rfl rfl rfl (.inl rfl)) rfl (BD rfl rfl rfl (hu_of hr) (jH 2 rfl rfl rfl rfl (.inl rfl)) (aQ ix_tup bh (ae (md:=.fz) 6 rfl rfl rfl (.inl rfl)) (ak (rg:=.fz)) (fun _ _=>rfl)) (fun _ _=>rfl)) (FD (mL rfl)) (aQ ix_tup bh (ae (md:=.bo) 5 rfl rfl rfl (.inl rfl)) (ak (rg:=.fz)) (fun _ _=>rfl)) (fun(d15:D)=>(aJ (.keep (.keep (.keep (.drop (.keep (.keep (.keep (.drop (.nil))))))))))))))) (.inl rfl) jN.nd) (aJ (.keep (.keep (.keep (.drop (.keep (.keep (.keep (.drop (.nil)))))))))) (fun(y12:D)=>(aJ (.keep (.keep (.keep (.drop (.keep (.keep (.drop (.drop (.nil))))))))))))) (fun(y9:D)=>(aJ (.keep (.keep (.keep (.drop (.drop (.drop (.drop (.drop (.nil))))))))))))) (fun(y6:D)=>(BC 2 rfl rfl rfl rfl rfl rfl (.inl rfl))))))) (.inl rfl) jN.nd)
theorem EV (Z:Zs K mg) (C_val:rW P w K mg base 14 (FC 12)) (C_swap_worth:Cal P w K mg base 2 "swap_worth" iX iY iZ ft) {f:Addr} {fd:FuncData} (F:Fun K "web_of" "web_of" j5 f fd):FnOk P w K mg base CX0 (15) f fd pJ (FSp K pK pM gF):=
 cB (n:=6) F jN rfl rfl fun cdv A outer s H vs E hr hv ds fr hd ef=>match vs,hv,ds,hd,ef with| [v0,v1],_,[a_couples,a_rule],_,ef=>⟨_,HR Z C_val C_swap_worth hr v0 v1 a_couples a_rule,ef⟩
def kz (a__law_script:D) (a__law_k:D):Option (Out PEmpty PEmpty):=
 ifO (b2 D.ltI (some a__law_k) (b1 (un1 D.Ak) (aj (some a__law_script) (aN)))) (cP (b2 D.atC (some a__law_script) (some a__law_k)) []) (some (.nx ())) fun(y1:Unit)=>cP (some (.int 0)) []
def b7:List D->Option FR:=fn2 fun a__law_script a__law_k=>FO (kz a__law_script a__law_k)
abbrev uo:List Str:=["_law_script","_law_k"]
abbrev fY:List Str:=["_law_script","_law_k"]
theorem zF:FnScope uo fY (defScope eF):=⟨rfl,rfl,rfl,by decide+kernel,rfl,by decide+kernel,by decide+kernel⟩
abbrev fZ:List PM:=[.bo,.bo]
abbrev f6:VM:=.rg .fz
theorem Bl (Z:Zs K mg) {f:Addr} {cdv:Value} {A:Around} {outer:List Env} {s:Shared} {H:Hp} {E:XK} (hr:Room 0 (A.deeper (envOfC "_law_cell" (defScope eF) s.heap.objs.size f cdv))) (v0 v1:V) (a__law_script a__law_k:D):
  Blk (cxT P w K mg base uo "_law_cell" (defScope eF) f cdv A outer s H E) (fnX f6 (bF fZ [v0,v1]) E) [.bo,.bo] [some a__law_script,some a__law_k] (defBody eF) (kz a__law_script a__law_k):=by
 unfold kz
 exact (eL [.bo,.bo] (fun(y1:Unit)=>[some a__law_script,some a__law_k]) (bH op_lt (nH (rg:=.fz)) (ae (md:=.bo) 1 rfl rfl rfl (.inl rfl)) (iM call_len_seq (K5 (rg:=.fz)) (by rfl) Z.len vB (af (ae (md:=.bo) 0 rfl rfl rfl (.inl rfl)) aA)) rfl) (aO (aQ ix_list (M8 (rg:=.fz)) (ae (md:=.bo) 0 rfl rfl rfl (.inl rfl)) (ae (md:=.bo) 1 rfl rfl rfl (.inl rfl)) (fun _ _=>rfl)) rfl rfl rfl) (aJ (.keep (.keep (.nil)))) (fun(y1:Unit)=>(aO (ak (rg:=.fz)) rfl rfl rfl)))
theorem zG (Z:Zs K mg) {f:Addr} {fd:FuncData} (F:Fun K "_law_cell" "_law_cell" eF f fd):FnOk P w K mg base CX0 (1) f fd fY (FSp K fZ f6 b7):=
 cB (n:=0) F zF rfl rfl fun cdv A outer s H vs E hr hv ds fr hd ef=>match vs,hv,ds,hd,ef with| [v0,v1],_,[a__law_script,a__law_k],_,ef=>⟨_,Bl Z hr v0 v1 a__law_script a__law_k,ef⟩
def lO (a__law_cell_here:D) (a__law_k:D):Option (Out PEmpty PEmpty):=
 (b2 D.bw (b2 D.bT (b2 D.bT (b2 D.bw (some a__law_cell_here) (some (.int 2147483629))) (b2 D.j8 (some (.int 7919)) (some a__law_k))) (some (.int 12345))) (some (.int 2147483629))).bind fun d1=>(b2 D.bw (b2 D.bT (b2 D.j8 (some d1) (some d1)) (b2 D.j8 (some (.int 104729)) (some a__law_k))) (some (.int 2147483629))).bind fun d2=>cP (b2 D.bw (b2 D.j8 (b2 D.bT (some d2) (some a__law_k)) (b2 D.bT (some d2) (some a__law_k))) (some (.int 2147483587))) []
def aW:List D->Option FR:=fn2 fun a__law_cell_here a__law_k=>FO (lO a__law_cell_here a__law_k)
abbrev wB:List Str:=["_law_cell_here","_law_k","_law_number"]
abbrev eY:List Str:=["_law_cell_here","_law_k"]
theorem pN:FnScope wB eY (defScope fK):=⟨rfl,rfl,rfl,by decide+kernel,rfl,by decide+kernel,by decide+kernel⟩
abbrev eZ:List PM:=[.bo,.bo]
abbrev fb:VM:=.rg .fz
theorem Cq (Z:Zs K mg) {f:Addr} {cdv:Value} {A:Around} {outer:List Env} {s:Shared} {H:Hp} {E:XK} (hr:Room 0 (A.deeper (envOfC "_law_mix" (defScope fK) s.heap.objs.size f cdv))) (v0 v1:V) (a__law_cell_here a__law_k:D):
  Blk (cxT P w K mg base wB "_law_mix" (defScope fK) f cdv A outer s H E) (fnX fb (bF eZ [v0,v1]) E) [.bo,.bo,.fz] [some a__law_cell_here,some a__law_k,none] (defBody fK) (lO a__law_cell_here a__law_k):=by
 unfold lO
 exact (aU 2 [.bo,.bo,.fz] (fun(d1:D)=>[some a__law_cell_here,some a__law_k,some d1]) (aE op_mod (bS (rg:=.fz)) (aE op_add (dF (rg:=.fz)) (aE op_add (dF (rg:=.fz)) (aE op_mod (bS (rg:=.fz)) (ae (md:=.bo) 0 rfl rfl rfl (.inl rfl)) (ak (rg:=.fz))) (aE op_mul (qN (rg:=.fz)) (ak (rg:=.fz)) (ae (md:=.bo) 1 rfl rfl rfl (.inl rfl)))) (ak (rg:=.fz))) (ak (rg:=.fz))) (fun(d1:D)=>(aU 2 [.bo,.bo,.fz] (fun(d2:D)=>[some a__law_cell_here,some a__law_k,some d2]) (aE op_mod (bS (rg:=.fz)) (aE op_add (dF (rg:=.fz)) (aE op_mul (qN (rg:=.fz)) (ae (md:=.fz) 2 rfl rfl rfl (.inl rfl)) (ae (md:=.fz) 2 rfl rfl rfl (.inl rfl))) (aE op_mul (qN (rg:=.fz)) (ak (rg:=.fz)) (ae (md:=.bo) 1 rfl rfl rfl (.inl rfl)))) (ak (rg:=.fz))) (fun(d2:D)=>(aO (aE op_mod (bS (rg:=.fz)) (aE op_mul (qN (rg:=.fz)) (aE op_add (dF (rg:=.fz)) (ae (md:=.fz) 2 rfl rfl rfl (.inl rfl)) (ae (md:=.bo) 1 rfl rfl rfl (.inl rfl))) (aE op_add (dF (rg:=.fz)) (ae (md:=.fz) 2 rfl rfl rfl (.inl rfl)) (ae (md:=.bo) 1 rfl rfl rfl (.inl rfl)))) (ak (rg:=.fz))) rfl rfl rfl)) (.inl rfl) pN.nd)) (.inl rfl) pN.nd)
theorem Bm (Z:Zs K mg) {f:Addr} {fd:FuncData} (F:Fun K "_law_mix" "_law_mix" fK f fd):FnOk P w K mg base CX0 (1) f fd eY (FSp K eZ fb aW):=
 cB (n:=1) F pN rfl rfl fun cdv A outer s H vs E hr hv ds fr hd ef=>match vs,hv,ds,hd,ef with| [v0,v1],_,[a__law_cell_here,a__law_k],_,ef=>⟨_,Cq Z hr v0 v1 a__law_cell_here a__law_k,ef⟩
def i9 (a__law_found:D):Option (Out PEmpty PEmpty):=
 cP (Ec (blO (b1 (D.isa "int") (some a__law_found))) (IB (blO (b1 (D.isa "bool") (some a__law_found))))) []
def fv:List D->Option FR:=fn1 fun a__law_found=>FO (i9 a__law_found)
abbrev sI:List Str:=["_law_found"]
abbrev ja:List Str:=["_law_found"]
theorem xn:FnScope sI ja (defScope df):=⟨rfl,rfl,rfl,by decide+kernel,rfl,by decide+kernel,by decide+kernel⟩
abbrev jb:List PM:=[.bo]
abbrev jc:VM:=.rg .fz
theorem zH (Z:Zs K mg) {f:Addr} {cdv:Value} {A:Around} {outer:List Env} {s:Shared} {H:Hp} {E:XK} (hr:Room 0 (A.deeper (envOfC "_law_whole" (defScope df) s.heap.objs.size f cdv))) (v0:V) (a__law_found:D):
  Blk (cxT P w K mg base sI "_law_whole" (defScope df) f cdv A outer s H E) (fnX jc (bF jb [v0]) E) [.bo] [some a__law_found] (defBody df) (i9 a__law_found):=by
 unfold i9
 exact (aO (yB (yL (rg:=.fz) (T:="int") rfl Z.isinstance Z.int CY rfl (ae (md:=.bo) 0 rfl rfl rfl (.inl rfl))) (vy (Fm (rg:=.fz) (yL (rg:=.fz) (T:="bool") rfl Z.isinstance Z.bool FI rfl (ae (md:=.bo) 0 rfl rfl rfl (.inl rfl)))))) rfl rfl rfl)
theorem xo (Z:Zs K mg) {f:Addr} {fd:FuncData} (F:Fun K "_law_whole" "_law_whole" df f fd):FnOk P w K mg base CX0 (1) f fd ja (FSp K jb jc fv):=
 cB (n:=0) F xn rfl rfl fun cdv A outer s H vs E hr hv ds fr hd ef=>match vs,hv,ds,hd,ef with| [v0],_,[a__law_found],_,ef=>⟨_,zH Z hr v0 a__law_found,ef⟩
def jd (a__law_number:D):Option (Out PEmpty PEmpty):=
 (some (.str "abcdefghijklmnopqrstuvwxyz")).bind fun d1=>(b2 D.bw (some a__law_number) (some (.int 3))).bind fun d2=>ifO (b2 D.eqA (some d2) (some (.int 0))) (cP (some (.str "")) []) (some (.nx ())) fun(y3:Unit)=>ifO (b2 D.eqA (some d2) (some (.int 1))) (cP (b2 D.atS (some d1) (b2 D.bw (b2 D.eT (some a__law_number) (some (.int 3))) (some (.int 26)))) []) (some (.nx ())) fun(y4:Unit)=>cP (b2 D.join (some (.str "")) (lcO (b1 D.qo (aj (some (.int 26)) (aN))) (fun c5:D=>b2 D.eqA (b2 D.bw (b2 D.eT (b2 D.eT (some a__law_number) (some (.int 3))) (b2 D.bT (some c5) (some (.int 1)))) (some (.int 3))) (some (.int 0))) (fun c5:D=>b2 D.atS (some d1) (some c5)))) []
def fx:List D->Option FR:=fn1 fun a__law_number=>FO (jd a__law_number)
abbrev oC:List Str:=["_law_number","_law_letters","_law_way","_law_k"]
abbrev je:List Str:=["_law_number"]
theorem g5:FnScope oC je (defScope cO):=⟨rfl,rfl,rfl,by decide+kernel,rfl,by decide+kernel,by decide+kernel⟩
abbrev jf:List PM:=[.bo]
abbrev jg:VM:=.rg .fz
theorem zI (Z:Zs K mg) {f:Addr} {cdv:Value} {A:Around} {outer:List Env} {s:Shared} {H:Hp} {E:XK} (hr:Room 0 (A.deeper (envOfC "_law_marks" (defScope cO) s.heap.objs.size f cdv))) (v0:V) (a__law_number:D):
  Blk (cxT P w K mg base oC "_law_marks" (defScope cO) f cdv A outer s H E) (fnX jg (bF jf [v0]) E) [.bo,.fz,.fz,.fz] [some a__law_number,none,none,none] (defBody cO) (jd a__law_number):=by
 unfold jd
 exact (aU 1 [.bo,.fz,.fz,.fz] (fun(d1:D)=>[some a__law_number,some d1,none,none]) (aS (rg:=.fz)) (fun(d1:D)=>(aU 2 [.bo,.fz,.fz,.fz] (fun(d2:D)=>[some a__law_number,some d1,some d2,none]) (aE op_mod (bS (rg:=.fz)) (ae (md:=.bo) 0 rfl rfl rfl (.inr (.inl rfl))) (ak (rg:=.fz))) (fun(d2:D)=>(eL [.bo,.fz,.fz,.fz] (fun(y3:Unit)=>[some a__law_number,some d1,some d2,none]) (bH op_eq (j9 (rg:=.fz)) (ae (md:=.fz) 2 rfl rfl rfl (.inl rfl)) (ak (rg:=.fz)) rfl) (aO (aS (rg:=.fz)) rfl rfl rfl) (aJ (.keep (.keep (.keep (.drop (.nil)))))) (fun(y3:Unit)=>(eL [.bo,.fz,.fz,.fz] (fun(y4:Unit)=>[some a__law_number,some d1,some d2,none]) (bH op_eq (j9 (rg:=.fz)) (ae (md:=.fz) 2 rfl rfl rfl (.inl rfl)) (ak (rg:=.fz)) rfl) (aO (aQ ix_str (Aj (rg:=.fz)) (ae (md:=.fz) 1 rfl rfl rfl (.inr (.inl rfl))) (aE op_mod (bS (rg:=.fz)) (aE op_fdiv (gN (rg:=.fz)) (ae (md:=.bo) 0 rfl rfl rfl (.inr (.inl rfl))) (ak (rg:=.fz))) (ak (rg:=.fz))) (fun _ _=>rfl)) rfl rfl rfl) (aJ (.keep (.keep (.keep (.drop (.nil)))))) (fun(y4:Unit)=>(aO (yJ (rg:=.fz) (aS (rg:=.fz)) (cW (xN rfl g5.nd (rK rfl Z.range (af (ak (rg:=.fz)) aA)) bC dO (show BlkOk oC (defScope cO) _ [("_law_k",3)] from ⟨rfl,by decide+kernel,by decide+kernel,by decide+kernel,by decide+kernel⟩) (Ee rfl) xQ (fun _ _ _ _ _=>(pg_name (i:=3) g5.nd rfl (.inl rfl))) (bW _ 3 dO (Nat.le_of_ble_eq_true rfl)) (fun _ _ _ _ _ (c5:D)=>(An (bH op_eq (j9 (rg:=.fz)) (aE op_mod (bS (rg:=.fz)) (aE op_fdiv (gN (rg:=.fz)) (aE op_fdiv (gN (rg:=.fz)) (ae (md:=.bo) 0 rfl rfl rfl (.inr (.inl rfl))) (ak (rg:=.fz))) (aE op_add (dF (rg:=.fz)) (ae (md:=.fz) 3 rfl rfl rfl (.inl rfl)) (ak (rg:=.fz)))) (ak (rg:=.fz))) (ak (rg:=.fz)) rfl))) (fun _ _ _ _ _ (c5:D)=>(aQ ix_str (Aj (rg:=.fz)) (ae (md:=.fz) 1 rfl rfl rfl (.inr (.inl rfl))) (ae (md:=.fz) 3 rfl rfl rfl (.inl rfl)) (fun _ _=>rfl)))))) rfl rfl rfl)))))) (.inl rfl) g5.nd)) (.inr rfl) g5.nd)
theorem xp (Z:Zs K mg) {f:Addr} {fd:FuncData} (F:Fun K "_law_marks" "_law_marks" cO f fd):FnOk P w K mg base CX0 (1) f fd je (FSp K jf jg fx):=
 cB (n:=3) F g5 rfl rfl fun cdv A outer s H vs E hr hv ds fr hd ef=>match vs,hv,ds,hd,ef with| [v0],_,[a__law_number],_,ef=>⟨_,zI Z hr v0 a__law_number,ef⟩
def kA (a__law_cell_here:D) (a__law_k:D):Option (Out PEmpty PEmpty):=
 (aP aW (aj (some a__law_cell_here) (aj (some a__law_k) (aN)))).bind fun d1=>cP (tupO (aj (b2 D.atL (wW (aj (some (.str "O")) (aj (some (.str "A")) (aj (some (.str "B")) (aj (some (.str "AB")) (aN)))))) (b2 D.bw (some d1) (some (.int 4)))) (aj (b2 D.bT (some (.int 1)) (b2 D.bw (b2 D.eT (some d1) (some (.int 4))) (some (.int 99)))) (aj (aP fx (aj (b2 D.eT (some d1) (some (.int 400))) (aN))) (aN))))) []
def fe:List D->Option FR:=fn2 fun a__law_cell_here a__law_k=>FO (kA a__law_cell_here a__law_k)
abbrev uq:List Str:=["_law_cell_here","_law_k","_law_number"]
abbrev kB:List Str:=["_law_cell_here","_law_k"]
theorem sJ:FnScope uq kB (defScope eG):=⟨rfl,rfl,rfl,by decide+kernel,rfl,by decide+kernel,by decide+kernel⟩
abbrev kE:List PM:=[.bo,.bo]
abbrev kF:VM:=.rg .fz
theorem Bn (Z:Zs K mg) (C__law_mix:Cal P w K mg base 1 "_law_mix" eY eZ fb aW) (C__law_marks:Cal P w K mg base 1 "_law_marks" je jf jg fx) {f:Addr} {cdv:Value} {A:Around} {outer:List Env} {s:Shared} {H:Hp} {E:XK} (hr:Room 1 (A.deeper (envOfC "_law_side" (defScope eG) s.heap.objs.size f cdv))) (v0 v1:V) (a__law_cell_here a__law_k:D):
  Blk (cxT P w K mg base uq "_law_side" (defScope eG) f cdv A outer s H E) (fnX kF (bF kE [v0,v1]) E) [.bo,.bo,.fz] [some a__law_cell_here,some a__law_k,none] (defBody eG) (kA a__law_cell_here a__law_k):=by
 unfold kA
 exact (aU 2 [.bo,.bo,.fz] (fun(d1:D)=>[some a__law_cell_here,some a__law_k,some d1]) (aG C__law_mix hr (af (ae (md:=.bo) 0 rfl rfl rfl (.inl rfl)) (af (ae (md:=.bo) 1 rfl rfl rfl (.inl rfl)) aA))) (fun(d1:D)=>(aO (CV (af (aQ ix_list xI (cW (o8 (af (aS (rg:=.fz)) (af (aS (rg:=.fz)) (af (aS (rg:=.fz)) (af (aS (rg:=.fz)) aA)))) Le)) (aE op_mod (bS (rg:=.fz)) (ae (md:=.fz) 2 rfl rfl rfl (.inl rfl)) (ak (rg:=.fz))) (fun _ _=>rfl)) (af (aE op_add (dF (rg:=.fz)) (ak (rg:=.fz)) (aE op_mod (bS (rg:=.fz)) (aE op_fdiv (gN (rg:=.fz)) (ae (md:=.fz) 2 rfl rfl rfl (.inl rfl)) (ak (rg:=.fz))) (ak (rg:=.fz)))) (af (aG C__law_marks hr (af (aE op_fdiv (gN (rg:=.fz)) (ae (md:=.fz) 2 rfl rfl rfl (.inl rfl)) (ak (rg:=.fz))) aA)) aA)))) rfl rfl rfl)) (.inl rfl) sJ.nd)
theorem zJ (Z:Zs K mg) (C__law_mix:Cal P w K mg base 1 "_law_mix" eY eZ fb aW) (C__law_marks:Cal P w K mg base 1 "_law_marks" je jf jg fx) {f:Addr} {fd:FuncData} (F:Fun K "_law_side" "_law_side" eG f fd):FnOk P w K mg base CX0 (2) f fd kB (FSp K kE kF fe):=
 cB (n:=1) F sJ rfl rfl fun cdv A outer s H vs E hr hv ds fr hd ef=>match vs,hv,ds,hd,ef with| [v0,v1],_,[a__law_cell_here,a__law_k],_,ef=>⟨_,Bn Z C__law_mix C__law_marks hr v0 v1 a__law_cell_here a__law_k,ef⟩
def kG (a__law_number:D):Option (Out PEmpty PEmpty):=
 (b2 D.atL (wW (aj (some (.str "groups")) (aj (some (.str "marks")) (aj (some (.str "sizes")) (aN))))) (b2 D.bw (b2 D.eT (some a__law_number) (some (.int 6))) (some (.int 3)))).bind fun d1=>(b2 D.atL (wW (aj (b2 D.bw (b2 D.eT (some a__law_number) (some (.int 18))) (some (.int 99))) (aj (b2 D.bw (b2 D.eT (some a__law_number) (some (.int 18))) (some (.int 30))) (aN)))) (b2 D.bw (b2 D.eT (some a__law_number) (some (.int 1782))) (some (.int 2)))).bind fun d2=>cP (tupO (aj (b2 D.bw (some a__law_number) (some (.int 6))) (aj (some d1) (aj (some d2) (aN))))) []
def gG:List D->Option FR:=fn1 fun a__law_number=>FO (kG a__law_number)
abbrev ur:List Str:=["_law_number","_law_kind","_law_bound"]
abbrev kH:List Str:=["_law_number"]
theorem oD:FnScope ur kH (defScope eJ):=⟨rfl,rfl,rfl,by decide+kernel,rfl,by decide+kernel,by decide+kernel⟩
abbrev kI:List PM:=[.bo]
abbrev kJ:VM:=.rg .fz
theorem Bo (Z:Zs K mg) {f:Addr} {cdv:Value} {A:Around} {outer:List Env} {s:Shared} {H:Hp} {E:XK} (hr:Room 0 (A.deeper (envOfC "_law_term" (defScope eJ) s.heap.objs.size f cdv))) (v0:V) (a__law_number:D):
  Blk (cxT P w K mg base ur "_law_term" (defScope eJ) f cdv A outer s H E) (fnX kJ (bF kI [v0]) E) [.bo,.fz,.fz] [some a__law_number,none,none] (defBody eJ) (kG a__law_number):=by
 unfold kG
 exact (aU 1 [.bo,.fz,.fz] (fun(d1:D)=>[some a__law_number,some d1,none]) (aQ ix_list xI (cW (o8 (af (aS (rg:=.fz)) (af (aS (rg:=.fz)) (af (aS (rg:=.fz)) aA))) yH)) (aE op_mod (bS (rg:=.fz)) (aE op_fdiv (gN (rg:=.fz)) (ae (md:=.bo) 0 rfl rfl rfl (.inl rfl)) (ak (rg:=.fz))) (ak (rg:=.fz))) (fun _ _=>rfl)) (fun(d1:D)=>(aU 2 [.bo,.fz,.fz] (fun(d2:D)=>[some a__law_number,some d1,some d2]) (aQ ix_list xI (cW (o8 (af (aE op_mod (bS (rg:=.fz)) (aE op_fdiv (gN (rg:=.fz)) (ae (md:=.bo) 0 rfl rfl rfl (.inl rfl)) (ak (rg:=.fz))) (ak (rg:=.fz))) (af (aE op_mod (bS (rg:=.fz)) (aE op_fdiv (gN (rg:=.fz)) (ae (md:=.bo) 0 rfl rfl rfl (.inl rfl)) (ak (rg:=.fz))) (ak (rg:=.fz))) aA)) BG)) (aE op_mod (bS (rg:=.fz)) (aE op_fdiv (gN (rg:=.fz)) (ae (md:=.bo) 0 rfl rfl rfl (.inl rfl)) (ak (rg:=.fz))) (ak (rg:=.fz))) (fun _ _=>rfl)) (fun(d2:D)=>(aO (CV (af (aE op_mod (bS (rg:=.fz)) (ae (md:=.bo) 0 rfl rfl rfl (.inl rfl)) (ak (rg:=.fz))) (af (ae (md:=.fz) 1 rfl rfl rfl (.inl rfl)) (af (ae (md:=.fz) 2 rfl rfl rfl (.inl rfl)) aA)))) rfl rfl rfl)) (.inl rfl) oD.nd)) (.inl rfl) oD.nd)
theorem zL (Z:Zs K mg) {f:Addr} {fd:FuncData} (F:Fun K "_law_term" "_law_term" eJ f fd):FnOk P w K mg base CX0 (1) f fd kH (FSp K kI kJ gG):=
 cB (n:=2) F oD rfl rfl fun cdv A outer s H vs E hr hv ds fr hd ef=>match vs,hv,ds,hd,ef with| [v0],_,[a__law_number],_,ef=>⟨_,Bo Z hr v0 a__law_number,ef⟩
def dy (k__law_cell_here:D) (k__law_count:D) (y3:D) (x5:D):Option (Out (D) (D)):=
 (b2 D.bT (some (.int 1)) (b2 D.bw (aP aW (aj (some k__law_cell_here) (aj (b2 D.bT (some (.int 61)) (some x5)) (aN)))) (b2 D.atL (wW (aj (some (.int 3)) (aj (some (.int 3)) (aj (some (.int 2)) (aN))))) (b2 D.gY (some k__law_count) (some (.int 1)))))).bind fun d6=>(yG y3 (some []) (lcO (b1 D.qo (aj (some d6) (aN))) (fun c7:D=>some true) (fun c7:D=>aP gG (aj (aP aW (aj (some k__law_cell_here) (aj (b2 D.bT (b2 D.bT (some (.int 70)) (b2 D.j8 (some (.int 3)) (some x5))) (some c7)) (aN)))) (aN)))) D.app).bind fun d8=>some (.nx d8.2)
def cH (a__law_cell_here:D):Option (Out PEmpty PEmpty):=
 (some (.lst [])).bind fun d1=>(b2 D.bT (some (.int 1)) (b2 D.bw (aP aW (aj (some a__law_cell_here) (aj (some (.int 60)) (aN)))) (some (.int 3)))).bind fun d2=>mK (b1 D.qo (aj (some d2) (aN))) (dy a__law_cell_here d2) d1 fun(y3:D)=>cP (some y3) []
def bP:List D->Option FR:=fn1 fun a__law_cell_here=>FO (cH a__law_cell_here)
abbrev gT:List Str:=["_law_cell_here","_law_found","_law_count","_law_k","_law_many","_law_j"]
abbrev cI:List Str:=["_law_cell_here"]
theorem br:FnScope gT cI (defScope aV):=⟨rfl,rfl,rfl,by decide+kernel,rfl,by decide+kernel,by decide+kernel⟩
abbrev cJ:List PM:=[.bo]
abbrev cL:VM:=.rg .fz
theorem qt (Z:Zs K mg) (C__law_mix:Cal P w K mg base 1 "_law_mix" eY eZ fb aW) (C__law_term:Cal P w K mg base 1 "_law_term" kH kI kJ gG) {f:Addr} {cdv:Value} {A:Around} {outer:List Env} {s:Shared} {H:Hp} {E:XK} (hr:Room 1 (A.deeper (envOfC "_law_alternatives" (defScope aV) s.heap.objs.size f cdv))) (v0:V) (a__law_cell_here:D):
  Blk (cxT P w K mg base gT "_law_alternatives" (defScope aV) f cdv A outer s H E) (fnX cL (bF cJ [v0]) E) [.bo,.fz,.fz,.fz,.fz,.fz] [some a__law_cell_here,none,none,none,none,none] (defBody aV) (cH a__law_cell_here):=by
 unfold cH
 exact (aU 1 [.bo,.ow (.ls .fz),.fz,.fz,.fz,.fz] (fun(d1:D)=>[some a__law_cell_here,some d1,none,none,none,none]) (pZ (s:=.fz)) (fun(d1:D)=>(aU 2 [.bo,.ow (.ls .fz),.fz,.fz,.fz,.fz] (fun(d2:D)=>[some a__law_cell_here,some d1,some d2,none,none,none]) (aE op_add (dF (rg:=.fz)) (ak (rg:=.fz)) (aE op_mod (bS (rg:=.fz)) (aG C__law_mix hr (af (ae (md:=.bo) 0 rfl rfl rfl (.inr (.inl rfl))) (af (ak (rg:=.fz)) aA))) (ak (rg:=.fz)))) (fun(d2:D)=>(fU [.bo,.ow (.ls .fz),.fz,.fz,.fz,.fz] (fun(y3:D)=>[some a__law_cell_here,some y3,some d2,none,none,none]) [.bo,.ow (.ls .fz),.fz,.fz,.fz,.fz] (fun(y3:D) (x5:D)=>[some a__law_cell_here,some y3,some d2,some x5,none,none]) (rK rfl Z.range (af (ae (md:=.fz) 2 rfl rfl rfl (.inl rfl)) aA)) bC dO (pg_name (i:=3) br.nd rfl (.inr rfl)) (bW _ 3 dO (Nat.le_of_ble_eq_true rfl)) (.keep (.keep (.keep (.drop (.drop (.drop (.nil))))))) (fun(y3:D) (x5:D)=>by unfold dy;exact (aU 4 [.bo,.ow (.ls .fz),.fz,.fz,.fz,.fz] (fun(d6:D)=>[some a__law_cell_here,some y3,some d2,some x5,some d6,none]) (aE op_add (dF (rg:=.fz)) (ak (rg:=.fz)) (aE op_mod (bS (rg:=.fz)) (aG C__law_mix hr (af (ae (md:=.bo) 0 rfl rfl rfl (.inr (.inl rfl))) (af (aE op_add (dF (rg:=.fz)) (ak (rg:=.fz)) (ae (md:=.fz) 3 rfl rfl rfl (.inr (.inl rfl)))) aA))) (aQ ix_list xI (cW (o8 (af (ak (rg:=.fz)) (af (ak (rg:=.fz)) (af (ak (rg:=.fz)) aA))) yH)) (aE op_sub (jG (rg:=.fz)) (ae (md:=.fz) 2 rfl rfl rfl (.inl rfl)) (ak (rg:=.fz))) (fun _ _=>rfl)))) (fun(d6:D)=>(ke 1 (fun(d8:D×D)=>[some a__law_cell_here,some d8.2,some d2,some x5,some d6,none]) (p6 (lh rfl rfl rfl (jH 1 rfl rfl rfl rfl (.inl rfl)) (mL rfl) (cW (xN rfl br.nd (rK rfl Z.range (af (ae (md:=.fz) 4 rfl rfl rfl (.inl rfl)) aA)) bC dO (show BlkOk gT (defScope aV) _ [("_law_j",5)] from ⟨rfl,by decide+kernel,by decide+kernel,by decide+kernel,by decide+kernel⟩) (Ee rfl) xQ (fun _ _ _ _ _=>(pg_name (i:=5) br.nd rfl (.inl rfl))) (bW _ 5 dO (Nat.le_of_ble_eq_true rfl)) (fun _ _ _ _ _ (c7:D)=>rM) (fun _ _ _ _ _ (c7:D)=>(aG C__law_term hr (af (aG C__law_mix hr (af (ae (md:=.bo) 0 rfl rfl rfl (.inr (.inl rfl))) (af (aE op_add (dF (rg:=.fz)) (aE op_add (dF (rg:=.fz)) (ak (rg:=.fz)) (aE op_mul (qN (rg:=.fz)) (ak (rg:=.fz)) (ae (md:=.fz) 3 rfl rfl rfl (.inr (.inl rfl))))) (ae (md:=.fz) 5 rfl rfl rfl (.inl rfl))) aA))) aA))))) rfl)) (fun(d8:D×D)=>(aJ (.keep (.keep (.keep (.drop (.drop (.drop (.nil))))))))))) (.inl rfl) br.nd)) (fun(y3:D)=>(lj 1 [.bo,.fz,.fz,.fz,.fz,.fz] (aO (ae (md:=.fz) 1 rfl rfl rfl (.inl rfl)) rfl rfl rfl))))) (.inl rfl) br.nd)) (.inl rfl) br.nd)
theorem pO (Z:Zs K mg) (C__law_mix:Cal P w K mg base 1 "_law_mix" eY eZ fb aW) (C__law_term:Cal P w K mg base 1 "_law_term" kH kI kJ gG) {f:Addr} {fd:FuncData} (F:Fun K "_law_alternatives" "_law_alternatives" aV f fd):FnOk P w K mg base CX0 (2) f fd cI (FSp K cJ cL bP):=
 cB (n:=5) F br rfl rfl fun cdv A outer s H vs E hr hv ds fr hd ef=>match vs,hv,ds,hd,ef with| [v0],_,[a__law_cell_here],_,ef=>⟨_,qt Z C__law_mix C__law_term hr v0 a__law_cell_here,ef⟩
def dQ (a__law_term_here:D):Option (Out PEmpty PEmpty):=
 (b1 D.pr3 (some a__law_term_here)).bind fun d1=>ifO (b2 D.eqA (some d1.2.1) (some (.str "sizes"))) (cP (b2 D.kQ (b2 D.kQ (b2 D.dP (some (.str "no ")) (some d1.1)) (some (.str "sizes "))) (b1 (un1 D.BK) (aj (some d1.2.2) (aN)))) []) (some (.nx ())) fun(y2:Unit)=>cP (b2 D.kQ (b2 D.dP (some (.str "no ")) (some d1.1)) (some d1.2.1)) []
def cw:List D->Option FR:=fn1 fun a__law_term_here=>FO (dQ a__law_term_here)
abbrev nh:List Str:=["_law_term_here","_law_times","_law_kind","_law_bound"]
abbrev dR:List Str:=["_law_term_here"]
theorem fG:FnScope nh dR (defScope bI):=⟨rfl,rfl,rfl,by decide+kernel,rfl,by decide+kernel,by decide+kernel⟩
abbrev dS:List PM:=[.bo]
abbrev dU:VM:=.rg .fz
theorem tI (Z:Zs K mg) {f:Addr} {cdv:Value} {A:Around} {outer:List Env} {s:Shared} {H:Hp} {E:XK} (hr:Room 0 (A.deeper (envOfC "_law_term_text" (defScope bI) s.heap.objs.size f cdv))) (v0:V) (a__law_term_here:D):
  Blk (cxT P w K mg base nh "_law_term_text" (defScope bI) f cdv A outer s H E) (fnX dU (bF dS [v0]) E) [.bo,.fz,.fz,.fz] [some a__law_term_here,none,none,none] (defBody bI) (dQ a__law_term_here):=by
 unfold dQ
 exact (C5 1 2 3 [.bo,.bo,.bo,.bo] (fun(d1:D×D×D)=>[some a__law_term_here,some d1.1,some d1.2.1,some d1.2.2]) (ae (md:=.bo) 0 rfl rfl rfl (.inl rfl)) ff (pg_tup rfl (pgs_cons (pg_name (i:=1) fG.nd rfl (.inl rfl)) (pgs_cons (pg_name (i:=2) fG.nd rfl (.inl rfl)) (pgs_cons (pg_name (i:=3) fG.nd rfl (.inl rfl)) pgs_nil)))) (fun(d1:D×D×D)=>(eL [.bo,.bo,.bo,.bo] (fun(y2:Unit)=>[some a__law_term_here,some d1.1,some d1.2.1,some d1.2.2]) (bH op_eq (j9 (rg:=.fz)) (ae (md:=.bo) 2 rfl rfl rfl (.inl rfl)) (aS (rg:=.fz)) rfl) (aO (aE op_add_str (nF (rg:=.fz)) (aE op_add_str (nF (rg:=.fz)) (aE p7 (s6 (rg:=.fz)) (aS (rg:=.fz)) (ae (md:=.bo) 1 rfl rfl rfl (.inl rfl))) (aS (rg:=.fz))) (pX call_str_int (Lo (rg:=.fz)) (by rfl) Z.str ID (af (ae (md:=.bo) 3 rfl rfl rfl (.inl rfl)) aA))) rfl rfl rfl) (aJ (.keep (.keep (.keep (.keep (.nil)))))) (fun(y2:Unit)=>(aO (aE op_add_str (nF (rg:=.fz)) (aE p7 (s6 (rg:=.fz)) (aS (rg:=.fz)) (ae (md:=.bo) 1 rfl rfl rfl (.inl rfl))) (ae (md:=.bo) 2 rfl rfl rfl (.inl rfl))) rfl rfl rfl)))))
theorem sL (Z:Zs K mg) {f:Addr} {fd:FuncData} (F:Fun K "_law_term_text" "_law_term_text" bI f fd):FnOk P w K mg base CX0 (1) f fd dR (FSp K dS dU cw):=
 cB (n:=3) F fG rfl rfl fun cdv A outer s H vs E hr hv ds fr hd ef=>match vs,hv,ds,hd,ef with| [v0],_,[a__law_term_here],_,ef=>⟨_,tI Z hr v0 a__law_term_here,ef⟩
def dW (a__law_alternatives_here:D):Option (Out PEmpty PEmpty):=
 cP (b2 D.join (some (.str " or ")) (lcO (nL (some a__law_alternatives_here)) (fun c1:D=>some true) (fun c1:D=>b2 D.join (some (.str " and ")) (lcO (nL (some c1)) (fun c2:D=>some true) (fun c2:D=>aP cw (aj (some c2) (aN))))))) []
def cA:List D->Option FR:=fn1 fun a__law_alternatives_here=>FO (dW a__law_alternatives_here)
abbrev gH:List Str:=["_law_alternatives_here","_law_terms","_law_term_here"]
abbrev dX:List Str:=["_law_alternatives_here"]
theorem dA:FnScope gH dX (defScope bu):=⟨rfl,rfl,rfl,by decide+kernel,rfl,by decide+kernel,by decide+kernel⟩
abbrev dY:List PM:=[.bo]
abbrev dZ:VM:=.rg .fz
theorem tJ (Z:Zs K mg) (C__law_term_text:Cal P w K mg base 1 "_law_term_text" dR dS dU cw) {f:Addr} {cdv:Value} {A:Around} {outer:List Env} {s:Shared} {H:Hp} {E:XK} (hr:Room 1 (A.deeper (envOfC "_law_rule_text" (defScope bu) s.heap.objs.size f cdv))) (v0:V) (a__law_alternatives_here:D):
  Blk (cxT P w K mg base gH "_law_rule_text" (defScope bu) f cdv A outer s H E) (fnX dZ (bF dY [v0]) E) [.bo,.fz,.fz] [some a__law_alternatives_here,none,none] (defBody bu) (dW a__law_alternatives_here):=by
 unfold dW
 exact (aO (yJ (rg:=.fz) (aS (rg:=.fz)) (cW (xN rfl dA.nd (dN (ae (md:=.bo) 0 rfl rfl rfl (.inl rfl))) bC ff (show BlkOk gH (defScope bu) _ [("_law_terms",1)] from ⟨rfl,by decide+kernel,by decide+kernel,by decide+kernel,by decide+kernel⟩) (Ee rfl) xQ (fun _ _ _ _ _=>(pg_name (i:=1) dA.nd rfl (.inl rfl))) (bW _ 1 ff (Nat.le_of_ble_eq_true rfl)) (fun _ _ _ _ _ (c1:D)=>rM) (fun _ _ _ _ _ (c1:D)=>(yJ (rg:=.fz) (aS (rg:=.fz)) (cW (xN rfl dA.nd (dN (ae (md:=.bo) 1 rfl rfl rfl (.inl rfl))) bC ff (by show BlkOk gH _ _ [("_law_term_here",2)];refine⟨rfl,by decide+kernel,by decide+kernel,?_,by decide+kernel⟩;(repeat' (first|exact List.forall_mem_nil _|(refine List.forall_mem_cons.mpr ⟨?_,?_⟩))) <;> (intro hf;first|(cases hf;done)|exact .inl rfl)) (Ee rfl) xQ (fun _ _ _ _ _=>(pg_name (i:=2) dA.nd rfl (.inl rfl))) (bW _ 2 ff (Nat.le_of_ble_eq_true rfl)) (fun _ _ _ _ _ (c2:D)=>rM) (fun _ _ _ _ _ (c2:D)=>(aG C__law_term_text hr (af (ae (md:=.bo) 2 rfl rfl rfl (.inl rfl)) aA)))))))))) rfl rfl rfl)
theorem sM (Z:Zs K mg) (C__law_term_text:Cal P w K mg base 1 "_law_term_text" dR dS dU cw) {f:Addr} {fd:FuncData} (F:Fun K "_law_rule_text" "_law_rule_text" bu f fd):FnOk P w K mg base CX0 (2) f fd dX (FSp K dY dZ cA):=
 cB (n:=2) F dA rfl rfl fun cdv A outer s H vs E hr hv ds fr hd ef=>match vs,hv,ds,hd,ef with| [v0],_,[a__law_alternatives_here],_,ef=>⟨_,tJ Z C__law_term_text hr v0 a__law_alternatives_here,ef⟩
def jW (k__law_cell_here:D) (k__law_letters:D) (k__law_way:D) (k__law_size:D) (k__law_at:D) (y6:D) (x8:D):Option (Out (D) (D)):=
 (b2 D.atS (some k__law_letters) (b2 D.bw (b2 D.bT (b2 D.eT (some k__law_cell_here) (some (.int 192))) (b2 D.j8 (some (.int 11)) (some x8))) (some (.int 26)))).bind fun d9=>ifO (b2 D.eqA (some k__law_way) (some (.int 0))) ((yG y6 (some []) (b2 D.kQ (b2 D.kQ (b2 D.dP (some (.str "m")) (some k__law_at)) (some d9)) (b2 D.dP (some (.str "m")) (b2 D.gY (b2 D.gY (some k__law_size) (some k__law_at)) (some (.int 1))))) D.app).bind fun d11=>some (.nx d11.2)) (ifO (b2 D.eqA (some k__law_way) (some (.int 1))) ((yG y6 (some []) (b2 D.kQ (some d9) (b2 D.dP (some (.str "m")) (b2 D.bw (b2 D.bT (b2 D.j8 (some x8) (some x8)) (b2 D.eT (some k__law_cell_here) (some (.int 192)))) (some (.int 8))))) D.app).bind fun d13=>some (.nx d13.2)) ((yG y6 (some []) (b2 D.kQ (b2 D.atS (some k__law_letters) (b2 D.bw (b2 D.bT (b2 D.eT (some k__law_cell_here) (some (.int 192))) (b2 D.eT (some x8) (some (.int 4)))) (some (.int 26)))) (b2 D.dP (some (.str "b")) (b2 D.gY (some (.int 3)) (b2 D.bw (some x8) (some (.int 4)))))) D.app).bind fun d14=>some (.nx d14.2)) fun(y12:D)=>some (.nx y12)) fun(y10:D)=>some (.nx y10)
def jh (a__law_cell_here:D) (a__law_many:D):Option (Out PEmpty PEmpty):=
 (some (.str "abcdefghijklmnopqrstuvwxyz")).bind fun d1=>(b2 D.bw (some a__law_cell_here) (some (.int 3))).bind fun d2=>(b2 D.bT (some (.int 1)) (b2 D.bw (b2 D.eT (some a__law_cell_here) (some (.int 3))) (some (.int 8)))).bind fun d3=>(b2 D.bw (b2 D.eT (some a__law_cell_here) (some (.int 24))) (some d3)).bind fun d4=>(some (.lst [])).bind fun d5=>mK (b1 D.qo (aj (some a__law_many) (aN))) (jW a__law_cell_here d1 d2 d3 d4) d5 fun(y6:D)=>cP (some y6) []
def fy:List D->Option FR:=fn2 fun a__law_cell_here a__law_many=>FO (jh a__law_cell_here a__law_many)
abbrev sN:List Str:=["_law_cell_here","_law_many","_law_letters","_law_way","_law_size","_law_at","_law_names_here","_law_k","_law_sign"]
abbrev ji:List Str:=["_law_cell_here","_law_many"]
theorem cS:FnScope sN ji (defScope dg):=⟨rfl,rfl,rfl,by decide+kernel,rfl,by decide+kernel,by decide+kernel⟩
abbrev jj:List PM:=[.bo,.bo]
abbrev jm:VM:=.rg .fz
theorem zM (Z:Zs K mg) {f:Addr} {cdv:Value} {A:Around} {outer:List Env} {s:Shared} {H:Hp} {E:XK} (hr:Room 0 (A.deeper (envOfC "_law_names" (defScope dg) s.heap.objs.size f cdv))) (v0 v1:V) (a__law_cell_here a__law_many:D):
  Blk (cxT P w K mg base sN "_law_names" (defScope dg) f cdv A outer s H E) (fnX jm (bF jj [v0,v1]) E) [.bo,.bo,.fz,.fz,.fz,.fz,.fz,.fz,.fz] [some a__law_cell_here,some a__law_many,none,none,none,none,none,none,none] (defBody dg) (jh a__law_cell_here a__law_many):=by
 unfold jh
 exact (aU 2 [.bo,.bo,.fz,.fz,.fz,.fz,.fz,.fz,.fz] (fun(d1:D)=>[some a__law_cell_here,some a__law_many,some d1,none,none,none,none,none,none]) (aS (rg:=.fz)) (fun(d1:D)=>(aU 3 [.bo,.bo,.fz,.fz,.fz,.fz,.fz,.fz,.fz] (fun(d2:D)=>[some a__law_cell_here,some a__law_many,some d1,some d2,none,none,none,none,none]) (aE op_mod (bS (rg:=.fz)) (ae (md:=.bo) 0 rfl rfl rfl (.inl rfl)) (ak (rg:=.fz))) (fun(d2:D)=>(aU 4 [.bo,.bo,.fz,.fz,.fz,.fz,.fz,.fz,.fz] (fun(d3:D)=>[some a__law_cell_here,some a__law_many,some d1,some d2,some d3,none,none,none,none]) (aE op_add (dF (rg:=.fz)) (ak (rg:=.fz)) (aE op_mod (bS (rg:=.fz)) (aE op_fdiv (gN (rg:=.fz)) (ae (md:=.bo) 0 rfl rfl rfl (.inl rfl)) (ak (rg:=.fz))) (ak (rg:=.fz)))) (fun(d3:D)=>(aU 5 [.bo,.bo,.fz,.fz,.fz,.fz,.fz,.fz,.fz] (fun(d4:D)=>[some a__law_cell_here,some a__law_many,some d1,some d2,some d3,some d4,none,none,none]) (aE op_mod (bS (rg:=.fz)) (aE op_fdiv (gN (rg:=.fz)) (ae (md:=.bo) 0 rfl rfl rfl (.inl rfl)) (ak (rg:=.fz))) (ae (md:=.fz) 4 rfl rfl rfl (.inl rfl))) (fun(d4:D)=>(aU 6 [.bo,.bo,.fz,.fz,.fz,.fz,.ow (.ls .fz),.fz,.fz] (fun(d5:D)=>[some a__law_cell_here,some a__law_many,some d1,some d2,some d3,some d4,some d5,none,none]) (pZ (s:=.fz)) (fun(d5:D)=>(fU [.bo,.bo,.fz,.fz,.fz,.fz,.ow (.ls .fz),.fz,.fz] (fun(y6:D)=>[some a__law_cell_here,some a__law_many,some d1,some d2,some d3,some d4,some y6,none,none]) [.bo,.bo,.fz,.fz,.fz,.fz,.ow (.ls .fz),.fz,.fz] (fun(y6:D) (x8:D)=>[some a__law_cell_here,some a__law_many,some d1,some d2,some d3,some d4,some y6,some x8,none]) (rK rfl Z.range (af (ae (md:=.bo) 1 rfl rfl rfl (.inl rfl)) aA)) bC dO (pg_name (i:=7) cS.nd rfl (.inl rfl)) (bW _ 7 dO (Nat.le_of_ble_eq_true rfl)) (.keep (.keep (.keep (.keep (.keep (.keep (.keep (.drop (.drop (.nil)))))))))) (fun(y6:D) (x8:D)=>by unfold jW;exact (aU 8 [.bo,.bo,.fz,.fz,.fz,.fz,.ow (.ls .fz),.fz,.fz] (fun(d9:D)=>[some a__law_cell_here,some a__law_many,some d1,some d2,some d3,some d4,some y6,some x8,some d9]) (aQ ix_str (Aj (rg:=.fz)) (ae (md:=.fz) 2 rfl rfl rfl (.inl rfl)) (aE op_mod (bS (rg:=.fz)) (aE op_add (dF (rg:=.fz)) (aE op_fdiv (gN (rg:=.fz)) (ae (md:=.bo) 0 rfl rfl rfl (.inl rfl)) (ak (rg:=.fz))) (aE op_mul (qN (rg:=.fz)) (ak (rg:=.fz)) (ae (md:=.fz) 7 rfl rfl rfl (.inl rfl)))) (ak (rg:=.fz))) (fun _ _=>rfl)) (fun(d9:D)=>(eL [.bo,.bo,.fz,.fz,.fz,.fz,.ow (.ls .fz),.fz,.fz] (fun(y10:D)=>[some a__law_cell_here,some a__law_many,some d1,some d2,some d3,some d4,some y10,some x8,some d9]) (bH op_eq (j9 (rg:=.fz)) (ae (md:=.fz) 3 rfl rfl rfl (.inl rfl)) (ak (rg:=.fz)) rfl) (ke 6 (fun(d11:D×D)=>[some a__law_cell_here,some a__law_many,some d1,some d2,some d3,some d4,some d11.2,some x8,some d9]) (p6 (lh rfl rfl rfl (jH 6 rfl rfl rfl rfl (.inl rfl)) (mL rfl) (aE op_add_str (nF (rg:=.fz)) (aE op_add_str (nF (rg:=.fz)) (aE p7 (s6 (rg:=.fz)) (aS (rg:=.fz)) (ae (md:=.fz) 5 rfl rfl rfl (.inl rfl))) (ae (md:=.fz) 8 rfl rfl rfl (.inl rfl))) (aE p7 (s6 (rg:=.fz)) (aS (rg:=.fz)) (aE op_sub (jG (rg:=.fz)) (aE op_sub (jG (rg:=.fz)) (ae (md:=.fz) 4 rfl rfl rfl (.inl rfl)) (ae (md:=.fz) 5 rfl rfl rfl (.inl rfl))) (ak (rg:=.fz))))) rfl)) (fun(d11:D×D)=>(aJ (.keep (.keep (.keep (.keep (.keep (.keep (.keep (.keep (.keep (.nil))))))))))))) (eL [.bo,.bo,.fz,.fz,.fz,.fz,.ow (.ls .fz),.fz,.fz] (fun(y12:D)=>[some a__law_cell_here,some a__law_many,some d1,some d2,some d3,some d4,some y12,some x8,some d9]) (bH op_eq (j9 (rg:=.fz)) (ae (md:=.fz) 3 rfl rfl rfl (.inl rfl)) (ak (rg:=.fz)) rfl) (ke 6 (fun(d13:D×D)=>[some a__law_cell_here,some a__law_many,some d1,some d2,some d3,some d4,some d13.2,some x8,some d9]) (p6 (lh rfl rfl rfl (jH 6 rfl rfl rfl rfl (.inl rfl)) (mL rfl) (aE op_add_str (nF (rg:=.fz)) (ae (md:=.fz) 8 rfl rfl rfl (.inl rfl)) (aE p7 (s6 (rg:=.fz)) (aS (rg:=.fz)) (aE op_mod (bS (rg:=.fz)) (aE op_add (dF (rg:=.fz)) (aE op_mul (qN (rg:=.fz)) (ae (md:=.fz) 7 rfl rfl rfl (.inl rfl)) (ae (md:=.fz) 7 rfl rfl rfl (.inl rfl))) (aE op_fdiv (gN (rg:=.fz)) (ae (md:=.bo) 0 rfl rfl rfl (.inl rfl)) (ak (rg:=.fz)))) (ak (rg:=.fz))))) rfl)) (fun(d13:D×D)=>(aJ (.keep (.keep (.keep (.keep (.keep (.keep (.keep (.keep (.keep (.nil))))))))))))) (ke 6 (fun(d14:D×D)=>[some a__law_cell_here,some a__law_many,some d1,some d2,some d3,some d4,some d14.2,some x8,some d9]) (p6 (lh rfl rfl rfl (jH 6 rfl rfl rfl rfl (.inl rfl)) (mL rfl) (aE op_add_str (nF (rg:=.fz)) (aQ ix_str (Aj (rg:=.fz)) (ae (md:=.fz) 2 rfl rfl rfl (.inl rfl)) (aE op_mod (bS (rg:=.fz)) (aE op_add (dF (rg:=.fz)) (aE op_fdiv (gN (rg:=.fz)) (ae (md:=.bo) 0 rfl rfl rfl (.inl rfl)) (ak (rg:=.fz))) (aE op_fdiv (gN (rg:=.fz)) (ae (md:=.fz) 7 rfl rfl rfl (.inl rfl)) (ak (rg:=.fz)))) (ak (rg:=.fz))) (fun _ _=>rfl)) (aE p7 (s6 (rg:=.fz)) (aS (rg:=.fz)) (aE op_sub (jG (rg:=.fz)) (ak (rg:=.fz)) (aE op_mod (bS (rg:=.fz)) (ae (md:=.fz) 7 rfl rfl rfl (.inl rfl)) (ak (rg:=.fz)))))) rfl)) (fun(d14:D×D)=>(aJ (.keep (.keep (.keep (.keep (.keep (.keep (.keep (.keep (.keep (.nil))))))))))))) (fun(y12:D)=>(aJ (.keep (.keep (.keep (.keep (.keep (.keep (.keep (.keep (.keep (.nil))))))))))))) (fun(y10:D)=>(aJ (.keep (.keep (.keep (.keep (.keep (.keep (.keep (.drop (.drop (.nil)))))))))))))) (.inl rfl) cS.nd)) (fun(y6:D)=>(lj 6 [.bo,.bo,.fz,.fz,.fz,.fz,.fz,.fz,.fz] (aO (ae (md:=.fz) 6 rfl rfl rfl (.inl rfl)) rfl rfl rfl))))) (.inl rfl) cS.nd)) (.inl rfl) cS.nd)) (.inl rfl) cS.nd)) (.inl rfl) cS.nd)) (.inl rfl) cS.nd)
theorem xq (Z:Zs K mg) {f:Addr} {fd:FuncData} (F:Fun K "_law_names" "_law_names" dg f fd):FnOk P w K mg base CX0 (1) f fd ji (FSp K jj jm fy):=
 cB (n:=7) F cS rfl rfl fun cdv A outer s H vs E hr hv ds fr hd ef=>match vs,hv,ds,hd,ef with| [v0,v1],_,[a__law_cell_here,a__law_many],_,ef=>⟨_,zM Z hr v0 v1 a__law_cell_here a__law_many,ef⟩
def hV (k__law_names_here:D) (y4:D) (x6:D×D):Option (Out (D) (D)):=
 (b2 D.bT (some (.int 1)) (b2 D.atL (wW (aj (b2 D.bw (aP aW (aj (some x6.2) (aj (some (.int 1)) (aN)))) (some (.int 200))) (aj (b2 D.bw (aP aW (aj (some x6.2) (aj (some (.int 1)) (aN)))) (b2 D.wQ (some (.int 10)) (some (.int 6)))) (aN)))) (b2 D.bw (aP aW (aj (some x6.2) (aj (some (.int 2)) (aN)))) (some (.int 2))))).bind fun d7=>(yG y4 (some []) (tupO (aj (b2 D.atL (some k__law_names_here) (some x6.1)) (aj (some d7) (aj (b2 D.bw (aP aW (aj (some x6.2) (aj (some (.int 3)) (aN)))) (b2 D.bT (b2 D.wQ (some (.int 10)) (some (.int 6))) (some (.int 1)))) (aj (aP fe (aj (some x6.2) (aj (some (.int 5)) (aN)))) (aj (aP fe (aj (some x6.2) (aj (some (.int 6)) (aN)))) (aN))))))) D.app).bind fun d8=>some (.nx d8.2)
def f7 (a__law_script:D):Option (Out PEmpty PEmpty):=
 (Ar D.fT (b2 D.BL (some a__law_script) (wW (aj (some (.int 0)) (aj (some (.int 1)) (aj (some (.int 2)) (aN)))))) (b1 D.toI (some (.int 2))) (b1 D.toI (some (.int 16)))).bind fun d1=>(aP fy (aj (aP b7 (aj (some a__law_script) (aj (some (.int 1)) (aN)))) (aj (b1 (un1 D.uy) (aj (some d1) (aN))) (aN)))).bind fun d2=>(some (.lst [])).bind fun d3=>mK (Dc (some d1)) (hV d2) d3 fun(y4:D)=>cP (some y4) []
def cZ:List D->Option FR:=fn1 fun a__law_script=>FO (f7 a__law_script)
abbrev pP:List Str:=["_law_script","_law_cells","_law_names_here","_law_couples_here","_law_k","_law_cell_here","_law_need"]
abbrev f9:List Str:=["_law_script"]
theorem cD:FnScope pP f9 (defScope b8):=⟨rfl,rfl,rfl,by decide+kernel,rfl,by decide+kernel,by decide+kernel⟩
abbrev gb:List PM:=[.bo]
abbrev gc:VM:=.rg .fz
theorem wC (Z:Zs K mg) (C__law_cell:Cal P w K mg base 1 "_law_cell" fY fZ f6 b7) (C__law_names:Cal P w K mg base 1 "_law_names" ji jj jm fy) (C__law_mix:Cal P w K mg base 1 "_law_mix" eY eZ fb aW) (C__law_side:Cal P w K mg base 2 "_law_side" kB kE kF fe) {f:Addr} {cdv:Value} {A:Around} {outer:List Env} {s:Shared} {H:Hp} {E:XK} (hr:Room 2 (A.deeper (envOfC "_law_couples" (defScope b8) s.heap.objs.size f cdv))) (v0:V) (a__law_script:D):
  Blk (cxT P w K mg base pP "_law_couples" (defScope b8) f cdv A outer s H E) (fnX gc (bF gb [v0]) E) [.bo,.fz,.fz,.fz,.fz,.fz,.fz] [some a__law_script,none,none,none,none,none,none] (defBody b8) (f7 a__law_script):=by
 unfold f7
 exact (aU 1 [.bo,.fz,.fz,.fz,.fz,.fz,.fz] (fun(d1:D)=>[some a__law_script,some d1,none,none,none,none,none]) (cW (yD (cW (aE IP Lq (ae (md:=.bo) 0 rfl rfl rfl (.inl rfl)) (cW (o8 (af (ak (rg:=.fz)) (af (ak (rg:=.fz)) (af (ak (rg:=.fz)) aA))) yH)))) (mJ (ak (rg:=.fz))) (mJ (ak (rg:=.fz))))) (fun(d1:D)=>(aU 2 [.bo,.fz,.fz,.fz,.fz,.fz,.fz] (fun(d2:D)=>[some a__law_script,some d1,some d2,none,none,none,none]) (aG C__law_names hr (af (aG C__law_cell hr (af (ae (md:=.bo) 0 rfl rfl rfl (.inl rfl)) (af (ak (rg:=.fz)) aA))) (af (iM call_len_seq (Fn (rg:=.fz)) (by rfl) Z.len vB (af (ae (md:=.fz) 1 rfl rfl rfl (.inl rfl)) aA)) aA))) (fun(d2:D)=>(aU 3 [.bo,.fz,.fz,.ow (.ls .fz),.fz,.fz,.fz] (fun(d3:D)=>[some a__law_script,some d1,some d2,some d3,none,none,none]) (pZ (s:=.fz)) (fun(d3:D)=>(fU [.bo,.fz,.fz,.ow (.ls .fz),.fz,.fz,.fz] (fun(y4:D)=>[some a__law_script,some d1,some d2,some y4,none,none,none]) [.bo,.fz,.fz,.ow (.ls .fz),.fz,.fz,.fz] (fun(y4:D) (x6:D×D)=>[some a__law_script,some d1,some d2,some y4,some x6.1,some x6.2,none]) (Az rfl Z.enumerate (ae (md:=.fz) 1 rfl rfl rfl (.inl rfl))) Ae dO (pg_tup rfl (pgs_cons (pg_name (i:=4) cD.nd rfl (.inl rfl)) (pgs_cons (pg_name (i:=5) cD.nd rfl (.inl rfl)) pgs_nil))) (CN _ 4 5 dO (Nat.le_of_ble_eq_true rfl) (Nat.le_of_ble_eq_true rfl)) (.keep (.keep (.keep (.keep (.drop (.drop (.drop (.nil)))))))) (fun(y4:D) (x6:D×D)=>by unfold hV;exact (aU 6 [.bo,.fz,.fz,.ow (.ls .fz),.fz,.fz,.fz] (fun(d7:D)=>[some a__law_script,some d1,some d2,some y4,some x6.1,some x6.2,some d7]) (aE op_add (dF (rg:=.fz)) (ak (rg:=.fz)) (aQ ix_list xI (cW (o8 (af (aE op_mod (bS (rg:=.fz)) (aG C__law_mix hr (af (ae (md:=.fz) 5 rfl rfl rfl (.inl rfl)) (af (ak (rg:=.fz)) aA))) (ak (rg:=.fz))) (af (aE op_mod (bS (rg:=.fz)) (aG C__law_mix hr (af (ae (md:=.fz) 5 rfl rfl rfl (.inl rfl)) (af (ak (rg:=.fz)) aA))) (aE op_pow (Fh (rg:=.fz)) (ak (rg:=.fz)) (ak (rg:=.fz)))) aA)) BG)) (aE op_mod (bS (rg:=.fz)) (aG C__law_mix hr (af (ae (md:=.fz) 5 rfl rfl rfl (.inl rfl)) (af (ak (rg:=.fz)) aA))) (ak (rg:=.fz))) (fun _ _=>rfl))) (fun(d7:D)=>(ke 3 (fun(d8:D×D)=>[some a__law_script,some d1,some d2,some d8.2,some x6.1,some x6.2,some d7]) (p6 (lh rfl rfl rfl (jH 3 rfl rfl rfl rfl (.inl rfl)) (mL rfl) (IQ (af (aQ ix_list xI (ae (md:=.fz) 2 rfl rfl rfl (.inl rfl)) (ae (md:=.fz) 4 rfl rfl rfl (.inl rfl)) (fun _ _=>rfl)) (af (ae (md:=.fz) 6 rfl rfl rfl (.inl rfl)) (af (aE op_mod (bS (rg:=.fz)) (aG C__law_mix hr (af (ae (md:=.fz) 5 rfl rfl rfl (.inl rfl)) (af (ak (rg:=.fz)) aA))) (aE op_add (dF (rg:=.fz)) (aE op_pow (Fh (rg:=.fz)) (ak (rg:=.fz)) (ak (rg:=.fz))) (ak (rg:=.fz)))) (af (aG C__law_side hr (af (ae (md:=.fz) 5 rfl rfl rfl (.inl rfl)) (af (ak (rg:=.fz)) aA))) (af (aG C__law_side hr (af (ae (md:=.fz) 5 rfl rfl rfl (.inl rfl)) (af (ak (rg:=.fz)) aA))) aA)))))) rfl)) (fun(d8:D×D)=>(aJ (.keep (.keep (.keep (.keep (.drop (.drop (.drop (.nil)))))))))))) (.inl rfl) cD.nd)) (fun(y4:D)=>(lj 3 [.bo,.fz,.fz,.fz,.fz,.fz,.fz] (aO (ae (md:=.fz) 3 rfl rfl rfl (.inl rfl)) rfl rfl rfl))))) (.inl rfl) cD.nd)) (.inl rfl) cD.nd)) (.inl rfl) cD.nd)
theorem uK (Z:Zs K mg) (C__law_cell:Cal P w K mg base 1 "_law_cell" fY fZ f6 b7) (C__law_names:Cal P w K mg base 1 "_law_names" ji jj jm fy) (C__law_mix:Cal P w K mg base 1 "_law_mix" eY eZ fb aW) (C__law_side:Cal P w K mg base 2 "_law_side" kB kE kF fe) {f:Addr} {fd:FuncData} (F:Fun K "_law_couples" "_law_couples" b8 f fd):FnOk P w K mg base CX0 (3) f fd f9 (FSp K gb gc cZ):=
 cB (n:=6) F cD rfl rfl fun cdv A outer s H vs E hr hv ds fr hd ef=>match vs,hv,ds,hd,ef with| [v0],_,[a__law_script],_,ef=>⟨_,wC Z C__law_cell C__law_names C__law_mix C__law_side hr v0 a__law_script,ef⟩
def jX (y3:D) (x5:D):Option (Out (D) (D)):=
 (b2 D.gY (some y3) (b1 D.max2 (aj (some x5) (aj (b2 D.gY (some (.int 0)) (some x5)) (aN))))).bind fun d6=>some (.nx d6)
def jn (a__law_one:D) (a__law_other:D):Option (Out PEmpty PEmpty):=
 (wW (aj (b2 D.gY (b2 D.atT (b2 D.atT (some a__law_one) (some (.int 3))) (some (.int 1))) (b2 D.atT (b2 D.atT (some a__law_other) (some (.int 4))) (some (.int 1)))) (aj (b2 D.gY (b2 D.atT (b2 D.atT (some a__law_other) (some (.int 3))) (some (.int 1))) (b2 D.atT (b2 D.atT (some a__law_one) (some (.int 4))) (some (.int 1)))) (aN)))).bind fun d1=>(b2 D.bT (b2 D.atT (some a__law_one) (some (.int 1))) (b2 D.atT (some a__law_other) (some (.int 1)))).bind fun d2=>mK (nL (some d1)) (jX) d2 fun(y3:D)=>cP (b1 D.max2 (aj (some y3) (aj (some (.int 1)) (aN)))) []
def fA:List D->Option FR:=fn2 fun a__law_one a__law_other=>FO (jn a__law_one a__law_other)
abbrev sO:List Str:=["_law_one","_law_other","_law_gaps","_law_worth_here","_law_distance"]
abbrev jo:List Str:=["_law_one","_law_other"]
theorem g6:FnScope sO jo (defScope dh):=⟨rfl,rfl,rfl,by decide+kernel,rfl,by decide+kernel,by decide+kernel⟩
abbrev jq:List PM:=[.bo,.bo]
abbrev jr:VM:=.rg .fz
theorem zN (Z:Zs K mg) {f:Addr} {cdv:Value} {A:Around} {outer:List Env} {s:Shared} {H:Hp} {E:XK} (hr:Room 0 (A.deeper (envOfC "_law_worth" (defScope dh) s.heap.objs.size f cdv))) (v0 v1:V) (a__law_one a__law_other:D):
  Blk (cxT P w K mg base sO "_law_worth" (defScope dh) f cdv A outer s H E) (fnX jr (bF jq [v0,v1]) E) [.bo,.bo,.fz,.fz,.fz] [some a__law_one,some a__law_other,none,none,none] (defBody dh) (jn a__law_one a__law_other):=by
 unfold jn
 exact (aU 2 [.bo,.bo,.fz,.fz,.fz] (fun(d1:D)=>[some a__law_one,some a__law_other,some d1,none,none]) (cW (o8 (af (aE op_sub (jG (rg:=.fz)) (aQ ix_tup bh (aQ ix_tup bh (ae (md:=.bo) 0 rfl rfl rfl (.inl rfl)) (ak (rg:=.fz)) (fun _ _=>rfl)) (ak (rg:=.fz)) (fun _ _=>rfl)) (aQ ix_tup bh (aQ ix_tup bh (ae (md:=.bo) 1 rfl rfl rfl (.inl rfl)) (ak (rg:=.fz)) (fun _ _=>rfl)) (ak (rg:=.fz)) (fun _ _=>rfl))) (af (aE op_sub (jG (rg:=.fz)) (aQ ix_tup bh (aQ ix_tup bh (ae (md:=.bo) 1 rfl rfl rfl (.inl rfl)) (ak (rg:=.fz)) (fun _ _=>rfl)) (ak (rg:=.fz)) (fun _ _=>rfl)) (aQ ix_tup bh (aQ ix_tup bh (ae (md:=.bo) 0 rfl rfl rfl (.inl rfl)) (ak (rg:=.fz)) (fun _ _=>rfl)) (ak (rg:=.fz)) (fun _ _=>rfl))) aA)) BG)) (fun(d1:D)=>(aU 3 [.bo,.bo,.fz,.fz,.fz] (fun(d2:D)=>[some a__law_one,some a__law_other,some d1,some d2,none]) (aE op_add (dF (rg:=.fz)) (aQ ix_tup bh (ae (md:=.bo) 0 rfl rfl rfl (.inl rfl)) (ak (rg:=.fz)) (fun _ _=>rfl)) (aQ ix_tup bh (ae (md:=.bo) 1 rfl rfl rfl (.inl rfl)) (ak (rg:=.fz)) (fun _ _=>rfl))) (fun(d2:D)=>(fU [.bo,.bo,.fz,.fz,.fz] (fun(y3:D)=>[some a__law_one,some a__law_other,some d1,some y3,none]) [.bo,.bo,.fz,.fz,.fz] (fun(y3:D) (x5:D)=>[some a__law_one,some a__law_other,some d1,some y3,some x5]) (dN (ae (md:=.fz) 2 rfl rfl rfl (.inl rfl))) bC dO (pg_name (i:=4) g6.nd rfl (.inl rfl)) (bW _ 4 dO (Nat.le_of_ble_eq_true rfl)) (.keep (.keep (.keep (.keep (.drop (.nil)))))) (fun(y3:D) (x5:D)=>by unfold jX;exact (aU 3 [.bo,.bo,.fz,.fz,.fz] (fun(d6:D)=>[some a__law_one,some a__law_other,some d1,some d6,some x5]) (aE op_sub (jG (rg:=.fz)) (ae (md:=.fz) 3 rfl rfl rfl (.inl rfl)) (iM (call_max2 rfl) (BI (rg:=.fz)) (by rfl) Z.max BH (af (ae (md:=.fz) 4 rfl rfl rfl (.inl rfl)) (af (aE op_sub (jG (rg:=.fz)) (ak (rg:=.fz)) (ae (md:=.fz) 4 rfl rfl rfl (.inl rfl))) aA)))) (fun(d6:D)=>(aJ (.keep (.keep (.keep (.keep (.drop (.nil)))))))) (.inl rfl) g6.nd)) (fun(y3:D)=>(aO (iM (call_max2 rfl) (BI (rg:=.fz)) (by rfl) Z.max BH (af (ae (md:=.fz) 3 rfl rfl rfl (.inl rfl)) (af (ak (rg:=.fz)) aA))) rfl rfl rfl)))) (.inl rfl) g6.nd)) (.inl rfl) g6.nd)
theorem xr (Z:Zs K mg) {f:Addr} {fd:FuncData} (F:Fun K "_law_worth" "_law_worth" dh f fd):FnOk P w K mg base CX0 (1) f fd jo (FSp K jq jr fA):=
 cB (n:=3) F g6 rfl rfl fun cdv A outer s H vs E hr hv ds fr hd ef=>match vs,hv,ds,hd,ef with| [v0,v1],_,[a__law_one,a__law_other],_,ef=>⟨_,zN Z hr v0 v1 a__law_one a__law_other,ef⟩
def mh (k__law_alternatives_here:D) (k__law_one:D) (y6:D) (x8:D):Option (Out (D) (D)):=
 (Ec (aP cQ (aj (some k__law_alternatives_here) (aj (b2 D.atT (some k__law_one) (some (.int 3))) (aj (b2 D.atT (some x8) (some (.int 4))) (aN))))) (aP cQ (aj (some k__law_alternatives_here) (aj (b2 D.atT (some x8) (some (.int 3))) (aj (b2 D.atT (some k__law_one) (some (.int 4))) (aN)))))).bind fun d9=>ifO (lD (b2 D.neA (b2 D.atT (some k__law_one) (some (.int 0))) (b2 D.atT (some x8) (some (.int 0)))) (b1 D.tb (some d9))) ((qE y6 (aP fA (aj (some k__law_one) (aj (some x8) (aN)))) (some []) (b2 D.atT (some x8) (some (.int 0)))).bind fun d11=>some (.nx d11)) (some (.nx y6)) fun(y10:D)=>some (.nx y10)
def mj (k__law_couples_here:D) (k__law_alternatives_here:D) (y2:D) (x4:D):Option (Out (D) (D)):=
 (some (.dct [])).bind fun d5=>mK (nL (some k__law_couples_here)) (mh k__law_alternatives_here x4) d5 fun(y6:D)=>(qE y2 (some y6) (some []) (b2 D.atT (some x4) (some (.int 0)))).bind fun d12=>some (.nx d12)
def lP (a__law_couples_here:D) (a__law_alternatives_here:D):Option (Out PEmpty PEmpty):=
 (some (.dct [])).bind fun d1=>mK (nL (some a__law_couples_here)) (mj a__law_couples_here a__law_alternatives_here) d1 fun(y2:D)=>cP (some y2) []
def iH:List D->Option FR:=fn2 fun a__law_couples_here a__law_alternatives_here=>FO (lP a__law_couples_here a__law_alternatives_here)
abbrev wD:List Str:=["_law_couples_here","_law_alternatives_here","_law_due_here","_law_one","_law_row","_law_other","_law_both"]
abbrev lQ:List Str:=["_law_couples_here","_law_alternatives_here"]
theorem iI:FnScope wD lQ (defScope fL):=⟨rfl,rfl,rfl,by decide+kernel,rfl,by decide+kernel,by decide+kernel⟩
abbrev lR:List PM:=[.bo,.bo]
abbrev lS:VM:=.rg .fz
theorem Cr (Z:Zs K mg) (C__law_lets:Cal P w K mg base 2 "_law_lets" iE iF iG cQ) (C__law_worth:Cal P w K mg base 1 "_law_worth" jo jq jr fA) {f:Addr} {cdv:Value} {A:Around} {outer:List Env} {s:Shared} {H:Hp} {E:XK} (hr:Room 2 (A.deeper (envOfC "_law_due" (defScope fL) s.heap.objs.size f cdv))) (v0 v1:V) (a__law_couples_here a__law_alternatives_here:D):
  Blk (cxT P w K mg base wD "_law_due" (defScope fL) f cdv A outer s H E) (fnX lS (bF lR [v0,v1]) E) [.bo,.bo,.fz,.fz,.fz,.fz,.fz] [some a__law_couples_here,some a__law_alternatives_here,none,none,none,none,none] (defBody fL) (lP a__law_couples_here a__law_alternatives_here):=by
 unfold lP
 exact (aU 2 [.bo,.bo,.ow (.dc .fz),.fz,.fz,.fz,.fz] (fun(d1:D)=>[some a__law_couples_here,some a__law_alternatives_here,some d1,none,none,none,none]) (rF (s:=.fz)) (fun(d1:D)=>(fU [.bo,.bo,.ow (.dc .fz),.fz,.fz,.fz,.fz] (fun(y2:D)=>[some a__law_couples_here,some a__law_alternatives_here,some y2,none,none,none,none]) [.bo,.bo,.ow (.dc .fz),.bo,.fz,.fz,.fz] (fun(y2:D) (x4:D)=>[some a__law_couples_here,some a__law_alternatives_here,some y2,some x4,none,none,none]) (dN (ae (md:=.bo) 0 rfl rfl rfl (.inl rfl))) bC ff (pg_name (i:=3) iI.nd rfl (.inl rfl)) (bW _ 3 ff (Nat.le_of_ble_eq_true rfl)) (.keep (.keep (.keep (.drop (.drop (.drop (.drop (.nil)))))))) (fun(y2:D) (x4:D)=>by unfold mj;exact (aU 4 [.bo,.bo,.ow (.dc .fz),.bo,.ow (.dc .fz),.fz,.fz] (fun(d5:D)=>[some a__law_couples_here,some a__law_alternatives_here,some y2,some x4,some d5,none,none]) (rF (s:=.fz)) (fun(d5:D)=>(fU [.bo,.bo,.ow (.dc .fz),.bo,.ow (.dc .fz),.fz,.fz] (fun(y6:D)=>[some a__law_couples_here,some a__law_alternatives_here,some y2,some x4,some y6,none,none]) [.bo,.bo,.ow (.dc .fz),.bo,.ow (.dc .fz),.bo,.fz] (fun(y6:D) (x8:D)=>[some a__law_couples_here,some a__law_alternatives_here,some y2,some x4,some y6,some x8,none]) (dN (ae (md:=.bo) 0 rfl rfl rfl (.inl rfl))) bC ff (pg_name (i:=5) iI.nd rfl (.inl rfl)) (bW _ 5 ff (Nat.le_of_ble_eq_true rfl)) (.keep (.keep (.keep (.keep (.keep (.drop (.drop (.nil)))))))) (fun(y6:D) (x8:D)=>by unfold mh;exact (aU 6 [.bo,.bo,.ow (.dc .fz),.bo,.ow (.dc .fz),.bo,.fz] (fun(d9:D)=>[some a__law_couples_here,some a__law_alternatives_here,some y2,some x4,some y6,some x8,some d9]) (yB (aG C__law_lets hr (af (ae (md:=.bo) 1 rfl rfl rfl (.inl rfl)) (af (aQ ix_tup bh (ae (md:=.bo) 3 rfl rfl rfl (.inl rfl)) (ak (rg:=.fz)) (fun _ _=>rfl)) (af (aQ ix_tup bh (ae (md:=.bo) 5 rfl rfl rfl (.inl rfl)) (ak (rg:=.fz)) (fun _ _=>rfl)) aA)))) (vy (aG C__law_lets hr (af (ae (md:=.bo) 1 rfl rfl rfl (.inl rfl)) (af (aQ ix_tup bh (ae (md:=.bo) 5 rfl rfl rfl (.inl rfl)) (ak (rg:=.fz)) (fun _ _=>rfl)) (af (aQ ix_tup bh (ae (md:=.bo) 3 rfl rfl rfl (.inl rfl)) (ak (rg:=.fz)) (fun _ _=>rfl)) aA)))))) (fun(d9:D)=>(eL [.bo,.bo,.ow (.dc .fz),.bo,.ow (.dc .fz),.bo,.fz] (fun(y10:D)=>[some a__law_couples_here,some a__law_alternatives_here,some y2,some x4,some y10,some x8,some d9]) (PW.pt (uQ (bH op_ne (Ki (rg:=.fz)) (aQ ix_tup bh (ae (md:=.bo) 3 rfl rfl rfl (.inl rfl)) (ak (rg:=.fz)) (fun _ _=>rfl)) (aQ ix_tup bh (ae (md:=.bo) 5 rfl rfl rfl (.inl rfl)) (ak (rg:=.fz)) (fun _ _=>rfl)) rfl) (rG (oL (ae (md:=.fz) 6 rfl rfl rfl (.inl rfl)))))) (rR 4 (fun(d11:D)=>[some a__law_couples_here,some a__law_alternatives_here,some y2,some x4,some d11,some x8,some d9]) (hu_of hr) (aG C__law_worth hr (af (ae (md:=.bo) 3 rfl rfl rfl (.inl rfl)) (af (ae (md:=.bo) 5 rfl rfl rfl (.inl rfl)) aA))) rfl (jH 4 rfl rfl rfl rfl (.inl rfl)) (mL rfl) (aQ ix_tup bh (ae (md:=.bo) 5 rfl rfl rfl (.inl rfl)) (ak (rg:=.fz)) (fun _ _=>rfl)) (fun(d11:D)=>(aJ (.keep (.keep (.keep (.keep (.keep (.keep (.keep (.nil))))))))))) (aJ (.keep (.keep (.keep (.keep (.keep (.keep (.keep (.nil))))))))) (fun(y10:D)=>(aJ (.keep (.keep (.keep (.keep (.keep (.drop (.drop (.nil)))))))))))) (.inl rfl) iI.nd)) (fun(y6:D)=>(lj 4 [.bo,.bo,.ow (.dc .fz),.bo,.fz,.fz,.fz] (rR 2 (fun(d12:D)=>[some a__law_couples_here,some a__law_alternatives_here,some d12,some x4,some y6,none,none]) (hu_of hr) (ae (md:=.fz) 4 rfl rfl rfl (.inl rfl)) rfl (jH 2 rfl rfl rfl rfl (.inl rfl)) (mL rfl) (aQ ix_tup bh (ae (md:=.bo) 3 rfl rfl rfl (.inl rfl)) (ak (rg:=.fz)) (fun _ _=>rfl)) (fun(d12:D)=>(aJ (.keep (.keep (.keep (.drop (.drop (.drop (.drop (.nil))))))))))))))) (.inl rfl) iI.nd)) (fun(y2:D)=>(lj 2 [.bo,.bo,.fz,.fz,.fz,.fz,.fz] (aO (ae (md:=.fz) 2 rfl rfl rfl (.inl rfl)) rfl rfl rfl))))) (.inl rfl) iI.nd)
theorem Bp (Z:Zs K mg) (C__law_lets:Cal P w K mg base 2 "_law_lets" iE iF iG cQ) (C__law_worth:Cal P w K mg base 1 "_law_worth" jo jq jr fA) {f:Addr} {fd:FuncData} (F:Fun K "_law_due" "_law_due" fL f fd):FnOk P w K mg base CX0 (3) f fd lQ (FSp K lR lS iH):=
 cB (n:=5) F iI rfl rfl fun cdv A outer s H vs E hr hv ds fr hd ef=>match vs,hv,ds,hd,ef with| [v0,v1],_,[a__law_couples_here,a__law_alternatives_here],_,ef=>⟨_,Cr Z C__law_lets C__law_worth hr v0 v1 a__law_couples_here a__law_alternatives_here,ef⟩
def oE (y6:Unit) (x8:D):Option (Out (Unit) (Unit)):=
 ifO (lX (b1 D.tb (aP fv (aj (some x8) (aN))))) (cP (some (.bl false)) []) (some (.nx ())) fun(y9:Unit)=>some (.nx ())
def oF (k__law_found:D) (y2:Unit) (x4:D):Option (Out (Unit) (Unit)):=
 ifO (lX (b1 D.tb (blO (b1 (D.isa "dict") (b2 D.ux (some k__law_found) (some x4)))))) (cP (some (.bl false)) []) (some (.nx ())) fun(y5:Unit)=>IE (b1 (D.ksF Av) (b2 D.ux (some k__law_found) (some x4))) (oE) () fun(y6:Unit)=>some (.nx ())
def ni (a__law_found:D) (a__law_due_here:D):Option (Out PEmpty PEmpty):=
 ifO (orB (lX (b1 D.tb (blO (b1 (D.isa "dict") (some a__law_found))))) (b2 (D.IU false) (some a__law_found) (some a__law_due_here))) (cP (some (.bl false)) []) (some (.nx ())) fun(y1:Unit)=>IE (b1 (D.ksF Au) (some a__law_due_here)) (oF a__law_found) () fun(y2:Unit)=>cP (some (.bl true)) []
def gd:List D->Option FR:=fn2 fun a__law_found a__law_due_here=>FO (ni a__law_found a__law_due_here)
abbrev yr:List Str:=["_law_found","_law_due_here","_law_couple","_law_worth_here"]
abbrev nj:List Str:=["_law_found","_law_due_here"]
theorem qZ:FnScope yr nj (defScope iy):=⟨rfl,rfl,rfl,by decide+kernel,rfl,by decide+kernel,by decide+kernel⟩
abbrev nk:List PM:=[.bo,.bo]
abbrev nu:VM:=.rg .fz
theorem EW (Z:Zs K mg) (C__law_whole:Cal P w K mg base 1 "_law_whole" ja jb jc fv) {f:Addr} {cdv:Value} {A:Around} {outer:List Env} {s:Shared} {H:Hp} {E:XK} (hr:Room 1 (A.deeper (envOfC "_law_is" (defScope iy) s.heap.objs.size f cdv))) (v0 v1:V) (a__law_found a__law_due_here:D):
  Blk (cxT P w K mg base yr "_law_is" (defScope iy) f cdv A outer s H E) (fnX nu (bF nk [v0,v1]) E) [.bo,.bo,.fz,.fz] [some a__law_found,some a__law_due_here,none,none] (defBody iy) (ni a__law_found a__law_due_here):=by
 unfold ni
 exact (eL [.bo,.bo,.fz,.fz] (fun(y1:Unit)=>[some a__law_found,some a__law_due_here,none,none]) (PW.pt (vx (nJ (oL (yL (rg:=.fz) (T:="dict") rfl Z.isinstance Z.dict As rfl (ae (md:=.bo) 0 rfl rfl rfl (.inl rfl))))) (rH (bH (C6 (hu_of hr)) (FZ (rg:=.fz)) (ae (md:=.bo) 0 rfl rfl rfl (.inl rfl)) (ae (md:=.bo) 1 rfl rfl rfl (.inl rfl)) rfl)))) (aO (kP (rg:=.fz)) rfl rfl rfl) (aJ (.keep (.keep (.drop (.drop (.nil)))))) (fun(y1:Unit)=>(C3 [.bo,.bo,.fz,.fz] (fun(y2:Unit)=>[some a__law_found,some a__law_due_here,none,none]) [.bo,.bo,.bo,.fz] (fun(y2:Unit) (x4:D)=>[some a__law_found,some a__law_due_here,some x4,none]) (ae (md:=.bo) 1 rfl rfl rfl (.inl rfl)) (fun _ h=>FJ h) wkK bC ff (pg_name (i:=2) qZ.nd rfl (.inl rfl)) (bW _ 2 ff (Nat.le_of_ble_eq_true rfl)) (.keep (.keep (.drop (.drop (.nil))))) (fun(y2:Unit) (x4:D)=>by unfold oF;exact (eL [.bo,.bo,.bo,.fz] (fun(y5:Unit)=>[some a__law_found,some a__law_due_here,some x4,none]) (nJ (oL (yL (rg:=.fz) (T:="dict") rfl Z.isinstance Z.dict As rfl (Fl (hu_of hr) (ae (md:=.bo) 0 rfl rfl rfl (.inl rfl)) (ae (md:=.bo) 2 rfl rfl rfl (.inl rfl)) (fun _ _=>rfl))))) (aO (kP (rg:=.fz)) rfl rfl rfl) (aJ (.keep (.keep (.keep (.drop (.nil)))))) (fun(y5:Unit)=>(C3 [.bo,.bo,.bo,.fz] (fun(y6:Unit)=>[some a__law_found,some a__law_due_here,some x4,none]) [.bo,.bo,.bo,.bo] (fun(y6:Unit) (x8:D)=>[some a__law_found,some a__law_due_here,some x4,some x8]) (Fl (hu_of hr) (ae (md:=.bo) 0 rfl rfl rfl (.inl rfl)) (ae (md:=.bo) 2 rfl rfl rfl (.inl rfl)) (fun _ _=>rfl)) (fun _ h=>pi_values h) wkV bC ff (pg_name (i:=3) qZ.nd rfl (.inl rfl)) (bW _ 3 ff (Nat.le_of_ble_eq_true rfl)) (.keep (.keep (.keep (.drop (.nil))))) (fun(y6:Unit) (x8:D)=>by unfold oE;exact (eL [.bo,.bo,.bo,.bo] (fun(y9:Unit)=>[some a__law_found,some a__law_due_here,some x4,some x8]) (nJ (oL (aG C__law_whole hr (af (ae (md:=.bo) 3 rfl rfl rfl (.inl rfl)) aA)))) (aO (kP (rg:=.fz)) rfl rfl rfl) (aJ (.keep (.keep (.keep (.keep (.nil)))))) (fun(y9:Unit)=>(aJ (.keep (.keep (.keep (.drop (.nil))))))))) (fun(y6:Unit)=>(aJ (.keep (.keep (.drop (.drop (.nil))))))))))) (fun(y2:Unit)=>(aO (kP (rg:=.fz)) rfl rfl rfl)))))
theorem Cs (Z:Zs K mg) (C__law_whole:Cal P w K mg base 1 "_law_whole" ja jb jc fv) {f:Addr} {fd:FuncData} (F:Fun K "_law_is" "_law_is" iy f fd):FnOk P w K mg base CX0 (2) f fd nj (FSp K nk nu gd):=
 cB (n:=2) F qZ rfl rfl fun cdv A outer s H vs E hr hv ds fr hd ef=>match vs,hv,ds,hd,ef with| [v0,v1],_,[a__law_found,a__law_due_here],_,ef=>⟨_,EW Z C__law_whole hr v0 v1 a__law_found a__law_due_here,ef⟩
def zO (y11:D) (x13:D):Option (Out (D) (D)):=
 (IH y11 (Ed (.dc (.dc .fz)) y11 (some []) (some x13)) D.IG).bind fun d14=>some (.nx d14.2)
def Bq (a__law_script:D):Option (Out PEmpty PEmpty):=
 (aP cZ (aj (some a__law_script) (aN))).bind fun d1=>(aP bP (aj (aP b7 (aj (some a__law_script) (aj (some (.int 0)) (aN)))) (aN))).bind fun d2=>(aP jM (aj (aP cA (aj (some d2) (aN))) (aN))).bind fun d3=>(aP iH (aj (some d1) (aj (some d2) (aN)))).bind fun d4=>(b1 (un1 D.toL) (aj (some d1) (aN))).bind fun d5=>(aP gF (aj (some d5) (aj (some d3) (aN)))).bind fun d6=>ifO (orB (lX (b1 D.tb (aP gd (aj (some d6) (aj (some d4) (aN)))))) (b2 D.neD (some d5) (some d1))) (cP (some (.bl false)) []) (some (.nx ())) fun(y7:Unit)=>(b2 D.bw (b2 D.eT (aP b7 (aj (some a__law_script) (aj (some (.int 1)) (aN)))) (some (.int 5))) (b1 (un1 D.uy) (aj (some d1) (aN)))).bind fun d8=>((aP gF (aj (b2 D.Am (Ar D.fT (some d1) (b1 D.toI (some d8)) (some none)) (Ar D.fT (some d1) (some none) (b1 D.toI (some d8)))) (aj (some (.clo eX d2)) (aN)))).bind D.wb).bind fun d9=>ifO (orB (lX (b1 D.tb (aP gd (aj (some d9) (aj (some d4) (aN)))))) (b2 (D.IU false) (aP gF (aj (some (.lst [])) (aj (some d3) (aN)))) (some (.dct [])))) (cP (some (.bl false)) []) (some (.nx ())) fun(y10:Unit)=>mK (nL (b1 (un1 D.rQ) (aj (some d6) (aN)))) (zO) d6 fun(y11:D)=>(IH y11 (some []) D.IG).bind fun d15=>cP (Ec (aP gd (aj (aP gF (aj (IJ (some d1)) (aj (some d3) (aN)))) (aj (some d4) (aN)))) (b2 (blD D.eqD) (some d5) (some d1))) []
def Ct:List D->Option FR:=fn1 fun a__law_script=>FO (Bq a__law_script)
abbrev KD:List Str:=["_law_script","_law_couples_here","_law_alternatives_here","_law_rule","_law_due_here","_law_handed","_law_web","_law_at","_law_own","_law_couple"]
abbrev KG:List Str:=["_law_script"]
theorem mI:FnScope KD KG (defScope qv):=⟨rfl,rfl,rfl,by decide+kernel,rfl,by decide+kernel,by decide+kernel⟩
abbrev KH:List PM:=[.bo]
abbrev KJ:VM:=.rg .fz
theorem Oe (Z:Zs K mg) (C__law_couples:Cal P w K mg base 3 "_law_couples" f9 gb gc cZ) (C__law_cell:Cal P w K mg base 1 "_law_cell" fY fZ f6 b7) (C__law_alternatives:Cal P w K mg base 2 "_law_alternatives" cI cJ cL bP) (C__law_rule_text:Cal P w K mg base 2 "_law_rule_text" dX dY dZ cA) (C_rule_of:Cal P w K mg base 4 "rule_of" m7 m8 m9 jM) (C__law_due:Cal P w K mg base 3 "_law_due" lQ lR lS iH) (C_web_of:Cal P w K mg base 15 "web_of" pJ pK pM gF) (C__law_is:Cal P w K mg base 2 "_law_is" nj nk nu gd) {f:Addr} {cdv:Value} {A:Around} {outer:List Env} {s:Shared} {H:Hp} {E:XK} (hr:Room 15 (A.deeper (envOfC "law" (defScope qv) s.heap.objs.size f cdv))) (Lm:l6 base mg cdv (("law" :Str)++".<locals>." ++"<lambda>")) (v0:V) (a__law_script:D):
  Blk (cxT P w K mg base KD "law" (defScope qv) f cdv A outer s H E) (fnX KJ (bF KH [v0]) E) [.bo,.fz,.fz,.fz,.fz,.fz,.fz,.fz,.fz,.fz] [some a__law_script,none,none,none,none,none,none,none,none,none] (defBody qv) (Bq a__law_script):=by
 obtain⟨cO_,cP_,tA_⟩:=Lm
 unfold Bq
 exact (aU 1 [.bo,.fz,.fz,.fz,.fz,.fz,.fz,.fz,.fz,.fz] (fun(d1:D)=>[some a__law_script,some d1,none,none,none,none,none,none,none,none]) (aG C__law_couples hr (af (ae (md:=.bo) 0 rfl rfl rfl (.inl rfl)) aA)) (fun(d1:D)=>(aU 2 [.bo,.fz,.fz,.fz,.fz,.fz,.fz,.fz,.fz,.fz] (fun(d2:D)=>[some a__law_script,some d1,some d2,none,none,none,none,none,none,none]) (aG C__law_alternatives hr (af (aG C__law_cell hr (af (ae (md:=.bo) 0 rfl rfl rfl (.inl rfl)) (af (ak (rg:=.fz)) aA))) aA)) (fun(d2:D)=>(aU 3 [.bo,.fz,.fz,.fz,.fz,.fz,.fz,.fz,.fz,.fz] (fun(d3:D)=>[some a__law_script,some d1,some d2,some d3,none,none,none,none,none,none]) (aG C_rule_of hr (af (aG C__law_rule_text hr (af (ae (md:=.fz) 2 rfl rfl rfl (.inr (.inl rfl))) aA)) aA)) (fun(d3:D)=>(aU 4 [.bo,.fz,.fz,.fz,.fz,.fz,.fz,.fz,.fz,.fz] (fun(d4:D)=>[some a__law_script,some d1,some d2,some d3,some d4,none,none,none,none,none]) (aG C__law_due hr (af (ae (md:=.fz) 1 rfl rfl rfl (.inl rfl)) (af (ae (md:=.fz) 2 rfl rfl rfl (.inr (.inl rfl))) aA))) (fun(d4:D)=>(aU 5 [.bo,.fz,.fz,.fz,.fz,.fz,.fz,.fz,.fz,.fz] (fun(d5:D)=>[some a__law_script,some d1,some d2,some d3,some d4,some d5,none,none,none,none]) (cW (pX call_list_of M9 (by rfl) Z.list vC (af (ae (md:=.fz) 1 rfl rfl rfl (.inl rfl)) aA))) (fun(d5:D)=>(aU 6 [.bo,.fz,.fz,.fz,.fz,.fz,.ow (.dc (.dc .fz)),.fz,.fz,.fz] (fun(d6:D)=>[some a__law_script,some d1,some d2,some d3,some d4,some d5,some d6,none,none,none]) (aG C_web_of hr (af (ae (md:=.fz) 5 rfl rfl rfl (.inl rfl)) (af (ae (md:=.fz) 3 rfl rfl rfl (.inl rfl)) aA))) (fun(d6:D)=>(eL [.bo,.fz,.fz,.fz,.fz,.fz,.ow (.dc (.dc .fz)),.fz,.fz,.fz] (fun(y7:Unit)=>[some a__law_script,some d1,some d2,some d3,some d4,some d5,some d6,none,none,none]) (PW.pt (vx (nJ (oL (aG C__law_is hr (af (ae (md:=.ow (.dc (.dc .fz))) 6 rfl rfl rfl (.inl rfl)) (af (ae (md:=.fz) 4 rfl rfl rfl (.inl rfl)) aA))))) (rH (bH (op_neD hr.units) (M5 (rg:=.fz)) (ae (md:=.fz) 5 rfl rfl rfl (.inl rfl)) (ae (md:=.fz) 1 rfl rfl rfl (.inl rfl)) rfl)))) (aO (kP (rg:=.fz)) rfl rfl rfl) (aJ (.keep (.keep (.keep (.keep (.keep (.keep (.keep (.drop (.drop (.drop (.nil)))))))))))) (fun(y7:Unit)=>(aU 7 [.bo,.fz,.fz,.fz,.fz,.fz,.ow (.dc (.dc .fz)),.fz,.fz,.fz] (fun(d8:D)=>[some a__law_script,some d1,some d2,some d3,some d4,some d5,some d6,some d8,none,none]) (aE op_mod (bS (rg:=.fz)) (aE op_fdiv (gN (rg:=.fz)) (aG C__law_cell hr (af (ae (md:=.bo) 0 rfl rfl rfl (.inl rfl)) (af (ak (rg:=.fz)) aA))) (ak (rg:=.fz))) (iM call_len_seq (Fn (rg:=.fz)) (by rfl) Z.len vB (af (ae (md:=.fz) 1 rfl rfl rfl (.inl rfl)) aA))) (fun(d8:D)=>(aU 8 [.bo,.fz,.fz,.fz,.fz,.fz,.ow (.dc (.dc .fz)),.fz,.fz,.fz] (fun(d9:D)=>[some a__law_script,some d1,some d2,some d3,some d4,some d5,some d6,some d8,some d9,none]) (cW (Gn (FL:=eX) C_web_of hr (Pk (j:=2) tA_ rfl (show NdefX.ndefB (defScope qv) _ _=true from by decide+kernel) rfl (fun _=>rfl) rfl) rfl rfl (cW (aE op_cat K7 (cW (yD (ae (md:=.fz) 1 rfl rfl rfl (.inl rfl)) (mJ (ae (md:=.fz) 7 rfl rfl rfl (.inl rfl))) rJ)) (cW (yD (ae (md:=.fz) 1 rfl rfl rfl (.inl rfl)) rJ (mJ (ae (md:=.fz) 7 rfl rfl rfl (.inl rfl))))))))) (fun(d9:D)=>(eL [.bo,.fz,.fz,.fz,.fz,.fz,.ow (.dc (.dc .fz)),.fz,.fz,.fz] (fun(y10:Unit)=>[some a__law_script,some d1,some d2,some d3,some d4,some d5,some d6,some d8,some d9,none]) (PW.pt (vx (nJ (oL (aG C__law_is hr (af (ae (md:=.fz) 8 rfl rfl rfl (.inl rfl)) (af (ae (md:=.fz) 4 rfl rfl rfl (.inl rfl)) aA))))) (rH (bH (C6 (hu_of hr)) (FZ (rg:=.fz)) (cW (aG C_web_of hr (af (cW (pZ (s:=.fz))) (af (ae (md:=.fz) 3 rfl rfl rfl (.inl rfl)) aA)))) (cW (rF (s:=.fz))) rfl)))) (aO (kP (rg:=.fz)) rfl rfl rfl) (aJ (.keep (.keep (.keep (.keep (.keep (.keep (.keep (.keep (.keep (.drop (.nil)))))))))))) (fun(y10:Unit)=>(fU [.bo,.fz,.fz,.fz,.fz,.fz,.ow (.dc (.dc .fz)),.fz,.fz,.fz] (fun(y11:D)=>[some a__law_script,some d1,some d2,some d3,some d4,some d5,some y11,some d8,some d9,none]) [.bo,.fz,.fz,.fz,.fz,.fz,.ow (.dc (.dc .fz)),.fz,.fz,.fz] (fun(y11:D) (x13:D)=>[some a__law_script,some d1,some d2,some d3,some d4,some d5,some y11,some d8,some d9,some x13]) (dN (cW (pX (call_listD rfl) IC (by rfl) Z.list vC (af (ae (md:=.ow (.dc (.dc .fz))) 6 rfl rfl rfl (.inl rfl)) aA)))) bC dO (pg_name (i:=9) mI.nd rfl (.inl rfl)) (bW _ 9 dO (Nat.le_of_ble_eq_true rfl)) (.keep (.keep (.keep (.keep (.keep (.keep (.keep (.keep (.keep (.drop (.nil))))))))))) (fun(y11:D) (x13:D)=>by unfold zO;exact (ke 6 (fun(d14:D×D)=>[some a__law_script,some d1,some d2,some d3,some d4,some d5,some d14.2,some d8,some d9,some x13]) (CU (xU rfl rfl rfl (BD rfl rfl rfl (hu_of hr) (jH 6 rfl rfl rfl rfl (.inl rfl)) (ae (md:=.fz) 9 rfl rfl rfl (.inl rfl)) (fun _ _=>rfl)) (FD (mL rfl)))) (fun(d14:D×D)=>(aJ (.keep (.keep (.keep (.keep (.keep (.keep (.keep (.keep (.keep (.drop (.nil))))))))))))))) (fun(y11:D)=>(ke 6 (fun(d15:D×D)=>[some a__law_script,some d1,some d2,some d3,some d4,some d5,some d15.2,some d8,some d9,none]) (CU (xU rfl rfl rfl (jH 6 rfl rfl rfl rfl (.inl rfl)) (mL rfl))) (fun(d15:D×D)=>(aO (yB (aG C__law_is hr (af (cW (aG C_web_of hr (af (cW (IK rfl rfl Z.list rfl Z.reversed (ae (md:=.fz) 1 rfl rfl rfl (.inl rfl)))) (af (ae (md:=.fz) 3 rfl rfl rfl (.inl rfl)) aA)))) (af (ae (md:=.fz) 4 rfl rfl rfl (.inl rfl)) aA))) (vy (mv (op_eqD hr.units) (Kj (rg:=.fz)) (ae (md:=.fz) 5 rfl rfl rfl (.inl rfl)) (ae (md:=.fz) 1 rfl rfl rfl (.inl rfl)) rfl))) rfl rfl rfl)))))))) (.inl rfl) mI.nd)) (.inl rfl) mI.nd)))) (.inl rfl) mI.nd)) (.inl rfl) mI.nd)) (.inl rfl) mI.nd)) (.inl rfl) mI.nd)) (.inr rfl) mI.nd)) (.inl rfl) mI.nd)
theorem Mu (Z:Zs K mg) (C__law_couples:Cal P w K mg base 3 "_law_couples" f9 gb gc cZ) (C__law_cell:Cal P w K mg base 1 "_law_cell" fY fZ f6 b7) (C__law_alternatives:Cal P w K mg base 2 "_law_alternatives" cI cJ cL bP) (C__law_rule_text:Cal P w K mg base 2 "_law_rule_text" dX dY dZ cA) (C_rule_of:Cal P w K mg base 4 "rule_of" m7 m8 m9 jM) (C__law_due:Cal P w K mg base 3 "_law_due" lQ lR lS iH) (C_web_of:Cal P w K mg base 15 "web_of" pJ pK pM gF) (C__law_is:Cal P w K mg base 2 "_law_is" nj nk nu gd) {f:Addr} {fd:FuncData} (F:Fun K "law" "law" qv f fd) (Lm:l6 base mg fd.code (("law" :Str)++".<locals>." ++"<lambda>")):FnOk P w K mg base CX0 (16) f fd KG (FSp K KH KJ Ct):=
 Ft (n:=9) F mI rfl rfl fun cdv A outer s H vs E hc_ hr hv ds fr hd ef=>match vs,hv,ds,hd,ef with| [v0],_,[a__law_script],_,ef=>⟨_,Oe Z C__law_couples C__law_cell C__law_alternatives C__law_rule_text C_rule_of C__law_due C_web_of C__law_is hr (hc_▸Lm) v0 a__law_script,ef⟩
end
noncomputable def cU (k_text:Str) (y2:Unit) (x4:Str):Option (TO (Unit) (Unit) (R0 Int)):=
 gZ (b2 (T.qp true) (some x4) (some ("0123456789" :Str))) (none) (some (.nx ())) fun(y5:Unit)=>some (.nx ())
theorem xt (k_text:Str) (y2:Unit) (x4:Str):TyS (kY (en k_text) (es y2) (es x4)) (cU k_text y2 x4):=by
 unfold kY cU
 exact (ck (aw (za true) (au x4) (aa rfl)) uX (aX rfl) (fun(y5:Unit)=>(aX rfl)))
noncomputable def iJ (a_text:Str):Option (Int):=
 tF0 (gZ (orB (lX (Jx T.leI T.leI (some (1:Int)) (b1 T.wR (some a_text)) (some (12:Int)))) (lD (b2 T.gtI (b1 T.wR (some a_text)) (some (1:Int))) (b2 T.eqA (b2 T.atS (some a_text) (some (0:Int))) (some ("0" :Str))))) (none) (some (.nx ())) fun(y1:Unit)=>g4 (b1 T.vA (some a_text)) (cU a_text) () fun(y2:Unit)=>cq (b1 T.wY (some a_text)) (fun r=>⟨r⟩))
theorem uu (a_text:Str):Fo0 (eV [en a_text]) (iJ a_text):=by
 unfold iJ
 refine fo0 (m:=ki (en a_text)) ?_
 unfold ki
 exact (ck (vJ (nU (L7 vL vL (aa rfl) (qH DD (au a_text)) (aa rfl))) (uY (aw GD (qH DD (au a_text)) (aa rfl)) (aw gO (aw vM (au a_text) (aa rfl)) (aa rfl)))) uX (aX rfl) (fun(y1:Unit)=>(du (pj yV (au a_text)) (fun b x=>xt a_text b x) rfl (fun(y2:Unit)=>(aI (qH JA (au a_text)) (fun _=>rfl))))))
noncomputable def wF (a_giver:(T3 Str Int Str)) (a_taker:(T3 Str Int Str)):Option (Int):=
 tF0 (cq (b1 T.Eo (b2 T.gY ((some a_giver).map T3.b) ((some a_taker).map T3.b))) (fun r=>⟨r⟩))
theorem HS (a_giver:(T3 Str Int Str)) (a_taker:(T3 Str Int Str)):Fo0 (mH [en a_giver,en a_taker]) (wF a_giver a_taker):=by
 unfold wF
 refine fo0 (m:=Ba (en a_giver) (en a_taker)) ?_
 unfold Ba
 exact (aI (qH JD (aw gq (bj (au a_giver) (fun _=>rfl)) (bj (au a_taker) (fun _=>rfl)))) (fun _=>rfl))
noncomputable def mn (a_giver:(T3 Str Int Str)) (a_taker:(T3 Str Int Str)):Option (Bool):=
 tF0 (cq (orB (b2 T.eqA ((some a_giver).map T3.a) (some ("O" :Str))) (orB (b2 T.eqA ((some a_taker).map T3.a) (some ("AB" :Str))) (b2 T.eqA ((some a_giver).map T3.a) ((some a_taker).map T3.a)))) (fun r=>⟨r⟩))
theorem Br (a_giver:(T3 Str Int Str)) (a_taker:(T3 Str Int Str)):Fo0 (iQ [en a_giver,en a_taker]) (mn a_giver a_taker):=by
 unfold mn
 refine fo0 (m:=kr (en a_giver) (en a_taker)) ?_
 unfold kr
 exact (aI (Gz (aw (mC gO) (bj (au a_giver) (fun _=>rfl)) (aa rfl)) (Gz (aw (mC gO) (bj (au a_taker) (fun _=>rfl)) (aa rfl)) (aw (mC gO) (bj (au a_giver) (fun _=>rfl)) (bj (au a_taker) (fun _=>rfl))))) (fun _=>rfl))
noncomputable def jt (k_taker:(T3 Str Int Str)) (y1:Unit) (x3:Str):Option (TO (Unit) (Unit) (R0 Bool)):=
 gZ (b2 (T.qp false) (some x3) ((some k_taker).map T3.c)) (cq (some false) (fun r=>⟨r⟩)) (some (.nx ())) fun(y4:Unit)=>some (.nx ())
theorem zP (k_taker:(T3 Str Int Str)) (y1:Unit) (x3:Str):TyS (mf (en k_taker) (es y1) (es x3)) (jt k_taker y1 x3):=by
 unfold mf jt
 exact (ck (aw (za false) (au x3) (bj (au k_taker) (fun _=>rfl))) (aI (aa rfl) (fun _=>rfl)) (aX rfl) (fun(y4:Unit)=>(aX rfl)))
noncomputable def oG (a_giver:(T3 Str Int Str)) (a_taker:(T3 Str Int Str)):Option (Bool):=
 tF0 (g4 (b1 T.vA ((some a_giver).map T3.c)) (jt a_taker) () fun(y1:Unit)=>cq (some true) (fun r=>⟨r⟩))
theorem Cu (a_giver:(T3 Str Int Str)) (a_taker:(T3 Str Int Str)):Fo0 (ku [en a_giver,en a_taker]) (oG a_giver a_taker):=by
 unfold oG
 refine fo0 (m:=lM (en a_giver) (en a_taker)) ?_
 unfold lM
 exact (du (pj yV (bj (au a_giver) (fun _=>rfl))) (fun b x=>zP a_taker b x) rfl (fun(y1:Unit)=>(aI (aa rfl) (fun _=>rfl))))
noncomputable def kL (R_:Fv->(T3 Str Int Str)->(T3 Str Int Str)->Option Bool) (a_giver:(T3 Str Int Str)) (a_taker:(T3 Str Int Str)) (a_bound:Int):Option (Bool):=
 tF0 (cq (b2 T.leI (b2 wF (some a_giver) (some a_taker)) (some a_bound)) (fun r=>⟨r⟩))
theorem uL {RD_:List D->Option FR} {R_:Fv->(T3 Str Int Str)->(T3 Str Int Str)->Option Bool} (HR_: ∀(z0_:Fv) (z1_:(T3 Str Int Str)) (z2_:(T3 Str Int Str)),Fo0 (RD_ [en z0_,en z1_,en z2_]) (R_ z0_ z1_ z2_)) (a_giver:(T3 Str Int Str)) (a_taker:(T3 Str Int Str)) (a_bound:Int):Fo0 (gz RD_ [en a_giver,en a_taker,en a_bound]) (kL R_ a_giver a_taker a_bound):=by
 unfold kL
 refine fo0 (m:=fj RD_ (en a_giver) (en a_taker) (en a_bound)) ?_
 unfold fj
 exact (aI (aw (mC vL) (bA HS (au a_giver) (au a_taker)) (au a_bound)) (fun _=>rfl))
noncomputable def wG (a_bound:Int):Option Fv:=some ⟨.clo bM (en a_bound)⟩
theorem Cv (a_bound:Int):Fo0 (iA [en a_bound]) (wG a_bound):=fun r e=>by cases e;rfl
noncomputable def kM (R_:Fv->(T3 Str Int Str)->(T3 Str Int Str)->Option Bool) (a_giver:(T3 Str Int Str)) (a_taker:(T3 Str Int Str)) (a_rule:Fv):Option (Bool):=
 tF0 (cq (lX (b3 R_ (some a_rule) (some a_giver) (some a_taker))) (fun r=>⟨r⟩))
theorem uN {RD_:List D->Option FR} {R_:Fv->(T3 Str Int Str)->(T3 Str Int Str)->Option Bool} (HR_: ∀(z0_:Fv) (z1_:(T3 Str Int Str)) (z2_:(T3 Str Int Str)),Fo0 (RD_ [en z0_,en z1_,en z2_]) (R_ z0_ z1_ z2_)) (a_giver:(T3 Str Int Str)) (a_taker:(T3 Str Int Str)) (a_rule:Fv):Fo0 (gA RD_ [en a_giver,en a_taker,en a_rule]) (kM R_ a_giver a_taker a_rule):=by
 unfold kM
 refine fo0 (m:=fk RD_ (en a_giver) (en a_taker) (en a_rule)) ?_
 unfold fk
 exact (aI (Du (l7 HR_ (au a_rule) (au a_giver) (au a_taker))) (fun _=>rfl))
noncomputable def q6 (a_rule:Fv):Option Fv:=some ⟨.clo bN (en a_rule)⟩
theorem Cw (a_rule:Fv):Fo0 (iB [en a_rule]) (q6 a_rule):=fun r e=>by cases e;rfl
noncomputable def gJ (R_:Fv->(T3 Str Int Str)->(T3 Str Int Str)->Option Bool) (k_giver:(T3 Str Int Str)) (k_taker:(T3 Str Int Str)) (y1:Unit) (x3:Fv):Option (TO (Unit) (Unit) (R0 Bool)):=
 gZ (lX (b3 R_ (some x3) (some k_giver) (some k_taker))) (cq (some false) (fun r=>⟨r⟩)) (some (.nx ())) fun(y4:Unit)=>some (.nx ())
theorem tK {RD_:List D->Option FR} {R_:Fv->(T3 Str Int Str)->(T3 Str Int Str)->Option Bool} (HR_: ∀(z0_:Fv) (z1_:(T3 Str Int Str)) (z2_:(T3 Str Int Str)),Fo0 (RD_ [en z0_,en z1_,en z2_]) (R_ z0_ z1_ z2_)) (k_giver:(T3 Str Int Str)) (k_taker:(T3 Str Int Str)) (y1:Unit) (x3:Fv):TyS (g9 RD_ (en k_giver) (en k_taker) (es y1) (es x3)) (gJ R_ k_giver k_taker y1 x3):=by
 unfold g9 gJ
 exact (ck (nU (lH (l7 HR_ (au x3) (au k_giver) (au k_taker)))) (aI (aa rfl) (fun _=>rfl)) (aX rfl) (fun(y4:Unit)=>(aX rfl)))
noncomputable def lT (R_:Fv->(T3 Str Int Str)->(T3 Str Int Str)->Option Bool) (a_giver:(T3 Str Int Str)) (a_taker:(T3 Str Int Str)) (a_rules:(List Fv)):Option (Bool):=
 tF0 (g4 (some a_rules) (gJ R_ a_giver a_taker) () fun(y1:Unit)=>cq (some true) (fun r=>⟨r⟩))
theorem wH {RD_:List D->Option FR} {R_:Fv->(T3 Str Int Str)->(T3 Str Int Str)->Option Bool} (HR_: ∀(z0_:Fv) (z1_:(T3 Str Int Str)) (z2_:(T3 Str Int Str)),Fo0 (RD_ [en z0_,en z1_,en z2_]) (R_ z0_ z1_ z2_)) (a_giver:(T3 Str Int Str)) (a_taker:(T3 Str Int Str)) (a_rules:(List Fv)):Fo0 (hE RD_ [en a_giver,en a_taker,en a_rules]) (lT R_ a_giver a_taker a_rules):=by
 unfold lT
 refine fo0 (m:=fX RD_ (en a_giver) (en a_taker) (en a_rules)) ?_
 unfold fX
 exact (du (eU (au a_rules)) (fun b x=>tK HR_ a_giver a_taker b x) rfl (fun(y1:Unit)=>(aI (aa rfl) (fun _=>rfl))))
noncomputable def tM (a_rules:(List Fv)):Option Fv:=some ⟨.clo bV (en a_rules)⟩
theorem EX (a_rules:(List Fv)):Fo0 (jL [en a_rules]) (tM a_rules):=fun r e=>by cases e;rfl
noncomputable def fH (R_:Fv->(T3 Str Int Str)->(T3 Str Int Str)->Option Bool) (k_giver:(T3 Str Int Str)) (k_taker:(T3 Str Int Str)) (y1:Unit) (x3:Fv):Option (TO (Unit) (Unit) (R0 Bool)):=
 gZ (b3 R_ (some x3) (some k_giver) (some k_taker)) (cq (some true) (fun r=>⟨r⟩)) (some (.nx ())) fun(y4:Unit)=>some (.nx ())
theorem sP {RD_:List D->Option FR} {R_:Fv->(T3 Str Int Str)->(T3 Str Int Str)->Option Bool} (HR_: ∀(z0_:Fv) (z1_:(T3 Str Int Str)) (z2_:(T3 Str Int Str)),Fo0 (RD_ [en z0_,en z1_,en z2_]) (R_ z0_ z1_ z2_)) (k_giver:(T3 Str Int Str)) (k_taker:(T3 Str Int Str)) (y1:Unit) (x3:Fv):TyS (gD RD_ (en k_giver) (en k_taker) (es y1) (es x3)) (fH R_ k_giver k_taker y1 x3):=by
 unfold gD fH
 exact (ck (lH (l7 HR_ (au x3) (au k_giver) (au k_taker))) (aI (aa rfl) (fun _=>rfl)) (aX rfl) (fun(y4:Unit)=>(aX rfl)))
noncomputable def kN (R_:Fv->(T3 Str Int Str)->(T3 Str Int Str)->Option Bool) (a_giver:(T3 Str Int Str)) (a_taker:(T3 Str Int Str)) (a_rules:(List Fv)):Option (Bool):=
 tF0 (g4 (some a_rules) (fH R_ a_giver a_taker) () fun(y1:Unit)=>cq (some false) (fun r=>⟨r⟩))
theorem uO {RD_:List D->Option FR} {R_:Fv->(T3 Str Int Str)->(T3 Str Int Str)->Option Bool} (HR_: ∀(z0_:Fv) (z1_:(T3 Str Int Str)) (z2_:(T3 Str Int Str)),Fo0 (RD_ [en z0_,en z1_,en z2_]) (R_ z0_ z1_ z2_)) (a_giver:(T3 Str Int Str)) (a_taker:(T3 Str Int Str)) (a_rules:(List Fv)):Fo0 (gE RD_ [en a_giver,en a_taker,en a_rules]) (kN R_ a_giver a_taker a_rules):=by
 unfold kN
 refine fo0 (m:=fm RD_ (en a_giver) (en a_taker) (en a_rules)) ?_
 unfold fm
 exact (du (eU (au a_rules)) (fun b x=>sP HR_ a_giver a_taker b x) rfl (fun(y1:Unit)=>(aI (aa rfl) (fun _=>rfl))))
noncomputable def wI (a_rules:(List Fv)):Option Fv:=some ⟨.clo bO (en a_rules)⟩
theorem Cy (a_rules:(List Fv)):Fo0 (iC [en a_rules]) (wI a_rules):=fun r e=>by cases e;rfl
noncomputable def iK (a_text:Str):Option (Fv):=
 tF0 (gZ (b2 T.eqA (some a_text) (some ("groups" :Str))) (cq (some (⟨.glf "by_groups"⟩:Fv)) (fun r=>⟨r⟩)) (some (.nx ())) fun(y1:Unit)=>gZ (b2 T.eqA (some a_text) (some ("marks" :Str))) (cq (some (⟨.glf "by_marks"⟩:Fv)) (fun r=>⟨r⟩)) (some (.nx ())) fun(y2:Unit)=>(b1 T.un3 (b2 T.part (some a_text) (some (" " :Str)))).bind fun d3=>gZ (orB (b2 T.neA (some d3.1) (some ("sizes" :Str))) (b2 T.gtI (b1 iJ (some d3.2.2)) (some (98:Int)))) (none) (some (.nx ())) fun(y4:Unit)=>cq (b1 wG (b1 iJ (some d3.2.2))) (fun r=>⟨r⟩))
theorem yt (a_text:Str):Fo0 (iq [en a_text]) (iK a_text):=by
 unfold iK
 refine fo0 (m:=mX (en a_text)) ?_
 unfold mX
 exact (ck (aw gO (au a_text) (aa rfl)) (aI (aa rfl) (fun _=>rfl)) (aX rfl) (fun(y1:Unit)=>(ck (aw gO (au a_text) (aa rfl)) (aI (aa rfl) (fun _=>rfl)) (aX rfl) (fun(y2:Unit)=>(ay (GS (aw Jy (au a_text) (aa rfl))) (fun d3=>(ck (vJ (aw GF (au d3.1) (aa rfl)) (aw GD (dv uu (au d3.2.2)) (aa rfl))) uX (aX rfl) (fun(y4:Unit)=>(aI (dv Cv (dv uu (au d3.2.2))) (fun _=>rfl))))))))))
noncomputable def gh (y2:Str×Int):Option (TO (Str×Int) (Str×Int) (R0 Fv)):=
 (yU T.cutS (some y2.1) (b1 T.toI (some (3:Int))) (some none)).bind fun d3=>(b2 T.bT (some y2.2) (some (1:Int))).bind fun d4=>some (.nx (d3,d4))
theorem wJ (y2:Str×Int):TyS (jT (es y2)) (gh y2):=by
 unfold jT gh
 exact (ay (vN PH (au y2.1) (pj te (aa rfl)) DE) (fun d3=>(ay (aw bY (au y2.2) (aa rfl)) (fun d4=>(aX rfl)))))
noncomputable def cR (a_text:Str):Option (Fv):=
 tF0 ((some (0:Int)).bind fun d1=>Jv (fun(y2:Str×Int)=>lD (b2 T.ltI (some y2.2) (some (5:Int))) (b2 T.starts (some y2.1) (some ("no " :Str)))) (gh) (a_text,d1) fun(y2:Str×Int)=>gZ (b2 T.eqA (b2 T.bw (some y2.2) (some (2:Int))) (some (1:Int))) (cq (b1 q6 (b1 iK (some y2.1))) (fun r=>⟨r⟩)) (some (.nx ())) fun(y5:Unit)=>cq (b1 iK (some y2.1)) (fun r=>⟨r⟩))
theorem zQ (a_text:Str):Fo0 (fo [en a_text]) (cR a_text):=by
 unfold cR
 refine fo0 (m:=iS (en a_text)) ?_
 unfold iS
 exact (ay (aa rfl) (fun d1=>(L6 (fun(y2:Str×Int)=>(uY (aw GC (au y2.2) (aa rfl)) (lH (aw EE (au y2.1) (aa rfl))))) (fun b=>wJ b) rfl (fun(y2:Str×Int)=>(ck (aw gO (aw aY (au y2.2) (aa rfl)) (aa rfl)) (aI (dv Cw (dv yt (au y2.1))) (fun _=>rfl)) (aX rfl) (fun(y5:Unit)=>(aI (dv yt (au y2.1)) (fun _=>rfl))))))))
noncomputable def eP (y3:(List Fv)) (x5:Str):Option (TO ((List Fv)) ((List Fv)) (R0 Fv)):=
 (T.at1 y3 (some plR) (b1 tM (tlc (b2 T.split (some x5) (some (" and " :Str))) (fun c6:Str=>some true) (fun c6:Str=>b1 cR (some c6)))) T.app).bind fun d7=>some (.nx d7.2)
theorem Bt (y3:(List Fv)) (x5:Str):TyS (ov (es y3) (es x5)) (eP y3 x5):=by
 unfold ov eP
 exact (ay (tj tm (gu (.ls .fz) _) (dv EX (xZ (eU (aw AM (au x5) (aa rfl))) (fun c6=>(aa rfl)) (fun c6=>(dv zQ (au c6)))))) (fun d7=>(aX rfl)))
noncomputable def nv (a_text:Str):Option (Fv):=
 tF0 ((some ([]:(List Fv))).bind fun d1=>KA (g4 (b2 T.split (some a_text) (some (" or " :Str))) (eP) d1 fun(y3:(List Fv))=>some (.nx y3)) (fun(y2:(List Fv))=>cq (b1 wI (some y2)) (fun r=>⟨r⟩)) fun(y8:Unit)=>none)
theorem EY (a_text:Str):Fo0 (jM [en a_text]) (nv a_text):=by
 unfold nv
 refine fo0 (m:=m6 (en a_text)) ?_
 unfold m6
 exact (ay qa (fun d1=>(JC (du (eU (aw AM (au a_text) (aa rfl))) (fun b x=>Bt b x) rfl (fun(y3:(List Fv))=>(aX rfl))) (fun(y2:(List Fv))=>(aI (dv Cy (au y2)) (fun _=>rfl))) (fun(y8:Unit)=>uX))))
noncomputable def ju (a_one:(T5 Str Int Int (T3 Str Int Str) (T3 Str Int Str))) (a_other:(T5 Str Int Int (T3 Str Int Str) (T3 Str Int Str))):Option (Int):=
 tF0 (cq (b2 T.max2 (some (1:Int)) (b2 T.gY (b2 T.gY (b2 T.bT ((some a_one).map T5.b) ((some a_other).map T5.b)) (b2 wF ((some a_one).map T5.d) ((some a_other).map T5.e))) (b2 wF ((some a_other).map T5.d) ((some a_one).map T5.e)))) (fun r=>⟨r⟩))
theorem zR (a_one:(T5 Str Int Int (T3 Str Int Str) (T3 Str Int Str))) (a_other:(T5 Str Int Int (T3 Str Int Str) (T3 Str Int Str))):Fo0 (ft [en a_one,en a_other]) (ju a_one a_other):=by
 unfold ju
 refine fo0 (m:=iW (en a_one) (en a_other)) ?_
 unfold iW
 exact (aI (GG yT (aa rfl) (aw gq (aw gq (aw bY (bj (au a_one) (fun _=>rfl)) (bj (au a_other) (fun _=>rfl))) (bA HS (bj (au a_one) (fun _=>rfl)) (bj (au a_other) (fun _=>rfl)))) (bA HS (bj (au a_other) (fun _=>rfl)) (bj (au a_one) (fun _=>rfl))))) (fun _=>rfl))
noncomputable def gL (a__law_kind:Str) (a__law_bound:Int) (a__law_giver:(T3 Str Int Str)) (a__law_taker:(T3 Str Int Str)):Option (Bool):=
 tF0 (gZ (b2 T.eqA (some a__law_kind) (some ("groups" :Str))) ((T.lst (T.cons (some ("O O" :Str)) (T.cons (some ("O A" :Str)) (T.cons (some ("O B" :Str)) (T.cons (some ("O AB" :Str)) (T.cons (some ("A A" :Str)) (T.cons (some ("A AB" :Str)) (T.cons (some ("B B" :Str)) (T.cons (some ("B AB" :Str)) (T.cons (some ("AB AB" :Str)) (some []))))))))))).bind fun d2=>cq (b2 (T.inA false) (b2 T.kQ (b2 T.kQ ((some a__law_giver).map T3.a) (some (" " :Str))) ((some a__law_taker).map T3.a)) (some d2)) (fun r=>⟨r⟩)) (some (.nx ())) fun(y1:Unit)=>gZ (b2 T.eqA (some a__law_kind) (some ("marks" :Str))) (cq (b2 T.eqD (tlc (b1 T.vA ((some a__law_giver).map T3.c)) (fun c4:Str=>b2 (T.qp false) (some c4) ((some a__law_taker).map T3.c)) (fun c4:Str=>some c4)) (some ([]:(List Str)))) (fun r=>⟨r⟩)) (some (.nx ())) fun(y3:Unit)=>cq (lD (b2 T.leI (b2 T.gY ((some a__law_giver).map T3.b) ((some a__law_taker).map T3.b)) (some a__law_bound)) (b2 T.leI (b2 T.gY ((some a__law_taker).map T3.b) ((some a__law_giver).map T3.b)) (some a__law_bound))) (fun r=>⟨r⟩))
theorem zS (a__law_kind:Str) (a__law_bound:Int) (a__law_giver:(T3 Str Int Str)) (a__law_taker:(T3 Str Int Str)):Fo0 (fu [en a__law_kind,en a__law_bound,en a__law_giver,en a__law_taker]) (gL a__law_kind a__law_bound a__law_giver a__law_taker):=by
 unfold gL
 refine fo0 (m:=i5 (en a__law_kind) (en a__law_bound) (en a__law_giver) (en a__law_taker)) ?_
 unfold i5
 exact (ck (aw gO (au a__law_kind) (aa rfl)) (ay (pq (bq (aa rfl) (bq (aa rfl) (bq (aa rfl) (bq (aa rfl) (bq (aa rfl) (bq (aa rfl) (bq (aa rfl) (bq (aa rfl) (bq (aa rfl) pk)))))))))) (fun d2=>(aI (aw (mC (LY false)) (aw kT (aw kT (bj (au a__law_giver) (fun _=>rfl)) (aa rfl)) (bj (au a__law_taker) (fun _=>rfl))) (au d2)) (fun _=>rfl)))) (aX rfl) (fun(y1:Unit)=>(ck (aw gO (au a__law_kind) (aa rfl)) (aI (aw (mC (GQ (Nat.le_of_ble_eq_true rfl))) (xZ (pj yV (bj (au a__law_giver) (fun _=>rfl))) (fun c4=>(aw (za false) (au c4) (bj (au a__law_taker) (fun _=>rfl)))) (fun c4=>(au c4))) qa) (fun _=>rfl)) (aX rfl) (fun(y3:Unit)=>(aI (uZ (aw (mC vL) (aw gq (bj (au a__law_giver) (fun _=>rfl)) (bj (au a__law_taker) (fun _=>rfl))) (au a__law_bound)) (aw (mC vL) (aw gq (bj (au a__law_taker) (fun _=>rfl)) (bj (au a__law_giver) (fun _=>rfl))) (au a__law_bound))) (fun _=>rfl))))))
noncomputable def dH (k__law_giver:(T3 Str Int Str)) (k__law_taker:(T3 Str Int Str)) (y5:Bool) (x7:Int×Str×Int):Option (TO (Bool) (Bool) (R0 Bool)):=
 gZ (b2 T.eqA (b4 gL (some x7.2.1) (some x7.2.2) (some k__law_giver) (some k__law_taker)) (b2 T.eqA (b2 T.bw (some x7.1) (some (2:Int))) (some (1:Int)))) ((some false).bind fun d9=>some (.nx d9)) (some (.nx y5)) fun(y8:Bool)=>some (.nx y8)
theorem xv (k__law_giver:(T3 Str Int Str)) (k__law_taker:(T3 Str Int Str)) (y5:Bool) (x7:Int×Str×Int):TyS (kZ (en k__law_giver) (en k__law_taker) (es y5) (es x7)) (dH k__law_giver k__law_taker y5 x7):=by
 unfold kZ dH
 exact (ck (aw LS (Jj zS (au x7.2.1) (au x7.2.2) (au k__law_giver) (au k__law_taker)) (aw (mC gO) (aw aY (au x7.1) (aa rfl)) (aa rfl))) (ay (aa rfl) (fun d9=>(aX rfl))) (aX rfl) (fun(y8:Bool)=>(aX rfl)))
noncomputable def jY (k__law_giver:(T3 Str Int Str)) (k__law_taker:(T3 Str Int Str)) (y1:Unit) (x3:(List (T3 Int Str Int))):Option (TO (Unit) (Unit) (R0 Bool)):=
 (some true).bind fun d4=>g4 (b1 T.trs (some x3)) (dH k__law_giver k__law_taker) d4 fun(y5:Bool)=>gZ (some y5) (cq (some true) (fun r=>⟨r⟩)) (some (.nx ())) fun(y10:Unit)=>some (.nx ())
theorem xA (k__law_giver:(T3 Str Int Str)) (k__law_taker:(T3 Str Int Str)) (y1:Unit) (x3:(List (T3 Int Str Int))):TyS (k6 (en k__law_giver) (en k__law_taker) (es y1) (es x3)) (jY k__law_giver k__law_taker y1 x3):=by
 unfold k6 jY
 exact (ay (aa rfl) (fun d4=>(du (JI (au x3)) (fun b x=>xv k__law_giver k__law_taker b x) rfl (fun(y5:Bool)=>(ck (lH (au y5)) (aI (aa rfl) (fun _=>rfl)) (aX rfl) (fun(y10:Unit)=>(aX rfl)))))))
noncomputable def dB (a__law_alternatives_here:(List (List (T3 Int Str Int)))) (a__law_giver:(T3 Str Int Str)) (a__law_taker:(T3 Str Int Str)):Option (Bool):=
 tF0 (g4 (some a__law_alternatives_here) (jY a__law_giver a__law_taker) () fun(y1:Unit)=>cq (some false) (fun r=>⟨r⟩))
theorem pQ (a__law_alternatives_here:(List (List (T3 Int Str Int)))) (a__law_giver:(T3 Str Int Str)) (a__law_taker:(T3 Str Int Str)):Fo0 (cQ [en a__law_alternatives_here,en a__law_giver,en a__law_taker]) (dB a__law_alternatives_here a__law_giver a__law_taker):=by
 unfold dB
 refine fo0 (m:=kx (en a__law_alternatives_here) (en a__law_giver) (en a__law_taker)) ?_
 unfold kx
 exact (du (eU (au a__law_alternatives_here)) (fun b x=>xA a__law_giver a__law_taker b x) rfl (fun(y1:Unit)=>(aI (aa rfl) (fun _=>rfl))))
noncomputable def tO (a__law_here:(T3 Str Int Str)) (a__law_there:(T3 Str Int Str)) (a__law_alternatives_here:(List (List (T3 Int Str Int)))):Option Bool:=
 b3 dB (some a__law_alternatives_here) (some a__law_here) (some a__law_there)
theorem EZ (a__law_here:(T3 Str Int Str)) (a__law_there:(T3 Str Int Str)) (a__law_alternatives_here:(List (List (T3 Int Str Int)))):Fo0 (oA [en a__law_here,en a__law_there,en a__law_alternatives_here]) (tO a__law_here a__law_there a__law_alternatives_here):=by
 unfold tO
 refine Mc (m:=ng (en a__law_here) (en a__law_there) (en a__law_alternatives_here)) ?_
 unfold ng
 exact (l7 pQ (au a__law_alternatives_here) (au a__law_here) (au a__law_there))
noncomputable def TC (n:Nat) (r:Fv) (x:(T3 Str Int Str)) (y:(T3 Str Int Str)):Option Bool:=(FC n [r.d,en x,en y]).bind FR.asB
theorem HC (n:Nat) (r:Fv) (x:(T3 Str Int Str)) (y:(T3 Str Int Str)):Fo0 (FC n [en r,en x,en y]) (TC n r x y):=Mb
noncomputable def jO (y2:(Sd (Sd Int))) (x4:(T5 Str Int Int (T3 Str Int Str) (T3 Str Int Str))):Option (TO ((Sd (Sd Int))) ((Sd (Sd Int))) (R0 (Sd (Sd Int)))):=
 (T.dput y2 (some (⟨[]⟩:(Sd Int))) (some plR) ((some x4).map T5.a)).bind fun d5=>some (.nx d5)
theorem Cz (y2:(Sd (Sd Int))) (x4:(T5 Str Int Int (T3 Str Int Str) (T3 Str Int Str))):TyS (qh (es y2) (es x4)) (jO y2 x4):=by
 unfold qh jO
 exact (ay (se (gu (.dc (.dc .fz)) _) rZ (bj (au x4) (fun _=>rfl))) (fun d5=>(aX rfl)))
noncomputable def iu (k_rule:Fv) (k_one:(T5 Str Int Int (T3 Str Int Str) (T3 Str Int Str))) (y9:(Sd (Sd Int))) (x11:(T5 Str Int Int (T3 Str Int Str) (T3 Str Int Str))):Option (TO ((Sd (Sd Int))) ((Sd (Sd Int))) (R0 (Sd (Sd Int)))):=
 gZ (lD (b3 (TC 12) (some k_rule) ((some k_one).map T5.d) ((some x11).map T5.e)) (b3 (TC 12) (some k_rule) ((some x11).map T5.d) ((some k_one).map T5.e))) ((b2 ju (some k_one) (some x11)).bind fun d13=>(T.dput y9 (some d13) (plK y9 (some plR) ((some k_one).map T5.a)) ((some x11).map T5.a)).bind fun d14=>(T.dput d14 (some d13) (plK d14 (some plR) ((some x11).map T5.a)) ((some k_one).map T5.a)).bind fun d15=>some (.nx d15)) (some (.nx y9)) fun(y12:(Sd (Sd Int)))=>some (.nx y12)
theorem CA (k_rule:Fv) (k_one:(T5 Str Int Int (T3 Str Int Str) (T3 Str Int Str))) (y9:(Sd (Sd Int))) (x11:(T5 Str Int Int (T3 Str Int Str) (T3 Str Int Str))):TyS (qi (en k_rule) (en k_one) (es y9) (es x11)) (iu k_rule k_one y9 x11):=by
 unfold qi iu
 exact (ck (uY (lH (l7 (HC 12) (au k_rule) (bj (au k_one) (fun _=>rfl)) (bj (au x11) (fun _=>rfl)))) (lH (l7 (HC 12) (au k_rule) (bj (au x11) (fun _=>rfl)) (bj (au k_one) (fun _=>rfl))))) (ay (bA zR (au k_one) (au x11)) (fun d13=>(ay (se (BN (gu (.dc (.dc .fz)) _) (bj (au k_one) (fun _=>rfl))) (au d13) (bj (au x11) (fun _=>rfl))) (fun d14=>(ay (se (BN (gu (.dc (.dc .fz)) _) (bj (au x11) (fun _=>rfl))) (au d13) (bj (au k_one) (fun _=>rfl))) (fun d15=>(aX rfl))))))) (aX rfl) (fun(y12:(Sd (Sd Int)))=>(aX rfl)))
noncomputable def lU (k_couples:(List (T5 Str Int Int (T3 Str Int Str) (T3 Str Int Str)))) (k_rule:Fv) (y6:(Sd (Sd Int))) (x8:Int×(T5 Str Int Int (T3 Str Int Str) (T3 Str Int Str))):Option (TO ((Sd (Sd Int))) ((Sd (Sd Int))) (R0 (Sd (Sd Int)))):=
 g4 (yU T.fT (some k_couples) (b1 T.toI (b2 T.bT (some x8.1) (some (1:Int)))) (some none)) (iu k_rule x8.2) y6 fun(y9:(Sd (Sd Int)))=>some (.nx y9)
theorem CB (k_couples:(List (T5 Str Int Int (T3 Str Int Str) (T3 Str Int Str)))) (k_rule:Fv) (y6:(Sd (Sd Int))) (x8:Int×(T5 Str Int Int (T3 Str Int Str) (T3 Str Int Str))):TyS (qj (en k_couples) (en k_rule) (es y6) (es x8)) (lU k_couples k_rule y6 x8):=by
 unfold qj lU
 exact (du (eU (vN NC (au k_couples) (pj te (aw bY (au x8.1) (aa rfl))) DE)) (fun b x=>CA k_rule x8.2 b x) rfl (fun(y9:(Sd (Sd Int)))=>(aX rfl)))
noncomputable def dC (a_couples:(List (T5 Str Int Int (T3 Str Int Str) (T3 Str Int Str)))) (a_rule:Fv):Option ((Sd (Sd Int))):=
 tF0 ((some (⟨[]⟩:(Sd (Sd Int)))).bind fun d1=>g4 (some a_couples) (jO) d1 fun(y2:(Sd (Sd Int)))=>g4 (b1 T.enum (some a_couples)) (lU a_couples a_rule) y2 fun(y6:(Sd (Sd Int)))=>some (.ret ⟨y6⟩))
theorem sQ (a_couples:(List (T5 Str Int Int (T3 Str Int Str) (T3 Str Int Str)))) (a_rule:Fv):Fo0 (gF [en a_couples,en a_rule]) (dC a_couples a_rule):=by
 unfold dC
 refine fo0 (m:=pH (en a_couples) (en a_rule)) ?_
 unfold pH
 exact (ay rZ (fun d1=>(du (eU (au a_couples)) (fun b x=>Cz b x) rfl (fun(y2:(Sd (Sd Int)))=>(du (AO (au a_couples)) (fun b x=>CB a_couples a_rule b x) rfl (fun(y6:(Sd (Sd Int)))=>(GB rfl)))))))
noncomputable def dE (a__law_script:Scr) (a__law_k:Int):Option (Int):=
 tF0 (gZ (b2 T.ltI (some a__law_k) (b1 T.Ak (some a__law_script))) (cq (b2 T.atC (some a__law_script) (some a__law_k)) (fun r=>⟨r⟩)) (some (.nx ())) fun(y1:Unit)=>cq (some (0:Int)) (fun r=>⟨r⟩))
theorem pR (a__law_script:Scr) (a__law_k:Int):Fo0 (b7 [en a__law_script,en a__law_k]) (dE a__law_script a__law_k):=by
 unfold dE
 refine fo0 (m:=kz (en a__law_script) (en a__law_k)) ?_
 unfold kz
 exact (ck (aw GC (au a__law_k) (qH Jl (au a__law_script))) (aI (aw LU (au a__law_script) (au a__law_k)) (fun _=>rfl)) (aX rfl) (fun(y1:Unit)=>(aI (aa rfl) (fun _=>rfl))))
noncomputable def bE (a__law_cell_here:Int) (a__law_k:Int):Option (Int):=
 tF0 ((b2 T.bw (b2 T.bT (b2 T.bT (b2 T.bw (some a__law_cell_here) (some (2147483629:Int))) (b2 T.j8 (some (7919:Int)) (some a__law_k))) (some (12345:Int))) (some (2147483629:Int))).bind fun d1=>(b2 T.bw (b2 T.bT (b2 T.j8 (some d1) (some d1)) (b2 T.j8 (some (104729:Int)) (some a__law_k))) (some (2147483629:Int))).bind fun d2=>cq (b2 T.bw (b2 T.j8 (b2 T.bT (some d2) (some a__law_k)) (b2 T.bT (some d2) (some a__law_k))) (some (2147483587:Int))) (fun r=>⟨r⟩))
theorem gi (a__law_cell_here:Int) (a__law_k:Int):Fo0 (aW [en a__law_cell_here,en a__law_k]) (bE a__law_cell_here a__law_k):=by
 unfold bE
 refine fo0 (m:=lO (en a__law_cell_here) (en a__law_k)) ?_
 unfold lO
 exact (ay (aw aY (aw bY (aw bY (aw aY (au a__law_cell_here) (aa rfl)) (aw nV (aa rfl) (au a__law_k))) (aa rfl)) (aa rfl)) (fun d1=>(ay (aw aY (aw bY (aw nV (au d1) (au d1)) (aw nV (aa rfl) (au a__law_k))) (aa rfl)) (fun d2=>(aI (aw aY (aw nV (aw bY (au d2) (au a__law_k)) (aw bY (au d2) (au a__law_k))) (aa rfl)) (fun _=>rfl))))))
noncomputable def k7 (a__law_found:Int):Option (Bool):=
 tF0 (cq (lD ((some a__law_found).bind fun _=>some true) (lX ((some a__law_found).bind fun _=>some false))) (fun r=>⟨r⟩))
theorem zT (a__law_found:Int):Fo0 (fv [en a__law_found]) (k7 a__law_found):=by
 unfold k7
 refine fo0 (m:=i9 (en a__law_found)) ?_
 unfold i9
 exact (aI (uZ (yX (fun _=>rfl) (au a__law_found)) (Du (yX (fun _=>rfl) (au a__law_found)))) (fun _=>rfl))
noncomputable def jv (a__law_number:Int):Option (Str):=
 tF0 ((some ("abcdefghijklmnopqrstuvwxyz" :Str)).bind fun d1=>(b2 T.bw (some a__law_number) (some (3:Int))).bind fun d2=>gZ (b2 T.eqA (some d2) (some (0:Int))) (cq (some ("" :Str)) (fun r=>⟨r⟩)) (some (.nx ())) fun(y3:Unit)=>gZ (b2 T.eqA (some d2) (some (1:Int))) (cq (b2 T.atS (some d1) (b2 T.bw (b2 T.eT (some a__law_number) (some (3:Int))) (some (26:Int)))) (fun r=>⟨r⟩)) (some (.nx ())) fun(y4:Unit)=>cq (b2 T.join (some ("" :Str)) (tlc (b1 T.qo (some (26:Int))) (fun c5:Int=>b2 T.eqA (b2 T.bw (b2 T.eT (b2 T.eT (some a__law_number) (some (3:Int))) (b2 T.bT (some c5) (some (1:Int)))) (some (3:Int))) (some (0:Int))) (fun c5:Int=>b2 T.atS (some d1) (some c5)))) (fun r=>⟨r⟩))
theorem zU (a__law_number:Int):Fo0 (fx [en a__law_number]) (jv a__law_number):=by
 unfold jv
 refine fo0 (m:=jd (en a__law_number)) ?_
 unfold jd
 exact (ay (aa rfl) (fun d1=>(ay (aw aY (au a__law_number) (aa rfl)) (fun d2=>(ck (aw gO (au d2) (aa rfl)) (aI (aa rfl) (fun _=>rfl)) (aX rfl) (fun(y3:Unit)=>(ck (aw gO (au d2) (aa rfl)) (aI (aw vM (au d1) (aw aY (aw dI (au a__law_number) (aa rfl)) (aa rfl))) (fun _=>rfl)) (aX rfl) (fun(y4:Unit)=>(aI (aw yW (aa rfl) (xZ (DA u6 (aa rfl)) (fun c5=>(aw gO (aw aY (aw dI (aw dI (au a__law_number) (aa rfl)) (aw bY (au c5) (aa rfl))) (aa rfl)) (aa rfl))) (fun c5=>(aw vM (au d1) (au c5))))) (fun _=>rfl))))))))))
noncomputable def iL (a__law_cell_here:Int) (a__law_k:Int):Option ((T3 Str Int Str)):=
 tF0 ((b2 bE (some a__law_cell_here) (some a__law_k)).bind fun d1=>cq (b3 T.tri (b2 T.atL (T.lst (T.cons (some ("O" :Str)) (T.cons (some ("A" :Str)) (T.cons (some ("B" :Str)) (T.cons (some ("AB" :Str)) (some [])))))) (b2 T.bw (some d1) (some (4:Int)))) (b2 T.bT (some (1:Int)) (b2 T.bw (b2 T.eT (some d1) (some (4:Int))) (some (99:Int)))) (b1 jv (b2 T.eT (some d1) (some (400:Int))))) (fun r=>⟨r⟩))
theorem uv (a__law_cell_here:Int) (a__law_k:Int):Fo0 (fe [en a__law_cell_here,en a__law_k]) (iL a__law_cell_here a__law_k):=by
 unfold iL
 refine fo0 (m:=kA (en a__law_cell_here) (en a__law_k)) ?_
 unfold kA
 exact (ay (bA gi (au a__law_cell_here) (au a__law_k)) (fun d1=>(aI (DB (aw s9 (pq (bq (aa rfl) (bq (aa rfl) (bq (aa rfl) (bq (aa rfl) pk))))) (aw aY (au d1) (aa rfl))) (aw bY (aa rfl) (aw aY (aw dI (au d1) (aa rfl)) (aa rfl))) (dv zU (aw dI (au d1) (aa rfl)))) (fun _=>rfl))))
noncomputable def eQ (a__law_number:Int):Option ((T3 Int Str Int)):=
 tF0 ((b2 T.atL (T.lst (T.cons (some ("groups" :Str)) (T.cons (some ("marks" :Str)) (T.cons (some ("sizes" :Str)) (some []))))) (b2 T.bw (b2 T.eT (some a__law_number) (some (6:Int))) (some (3:Int)))).bind fun d1=>(b2 T.atL (T.lst (T.cons (b2 T.bw (b2 T.eT (some a__law_number) (some (18:Int))) (some (99:Int))) (T.cons (b2 T.bw (b2 T.eT (some a__law_number) (some (18:Int))) (some (30:Int))) (some [])))) (b2 T.bw (b2 T.eT (some a__law_number) (some (1782:Int))) (some (2:Int)))).bind fun d2=>cq (b3 T.tri (b2 T.bw (some a__law_number) (some (6:Int))) (some d1) (some d2)) (fun r=>⟨r⟩))
theorem Bu (a__law_number:Int):Fo0 (gG [en a__law_number]) (eQ a__law_number):=by
 unfold eQ
 refine fo0 (m:=kG (en a__law_number)) ?_
 unfold kG
 exact (ay (aw s9 (pq (bq (aa rfl) (bq (aa rfl) (bq (aa rfl) pk)))) (aw aY (aw dI (au a__law_number) (aa rfl)) (aa rfl))) (fun d1=>(ay (aw s9 (pq (bq (aw aY (aw dI (au a__law_number) (aa rfl)) (aa rfl)) (bq (aw aY (aw dI (au a__law_number) (aa rfl)) (aa rfl)) pk))) (aw aY (aw dI (au a__law_number) (aa rfl)) (aa rfl))) (fun d2=>(aI (DB (aw aY (au a__law_number) (aa rfl)) (au d1) (au d2)) (fun _=>rfl))))))
noncomputable def bZ (k__law_cell_here:Int) (k__law_count:Int) (y3:(List (List (T3 Int Str Int)))) (x5:Int):Option (TO ((List (List (T3 Int Str Int)))) ((List (List (T3 Int Str Int)))) (R0 (List (List (T3 Int Str Int))))):=
 (b2 T.bT (some (1:Int)) (b2 T.bw (b2 bE (some k__law_cell_here) (b2 T.bT (some (61:Int)) (some x5))) (b2 T.atL (T.lst (T.cons (some (3:Int)) (T.cons (some (3:Int)) (T.cons (some (2:Int)) (some []))))) (b2 T.gY (some k__law_count) (some (1:Int)))))).bind fun d6=>(T.at1 y3 (some plR) (tlc (b1 T.qo (some d6)) (fun c7:Int=>some true) (fun c7:Int=>b1 eQ (b2 bE (some k__law_cell_here) (b2 T.bT (b2 T.bT (some (70:Int)) (b2 T.j8 (some (3:Int)) (some x5))) (some c7))))) T.app).bind fun d8=>some (.nx d8.2)
theorem oZ (k__law_cell_here:Int) (k__law_count:Int) (y3:(List (List (T3 Int Str Int)))) (x5:Int):TyS (dy (en k__law_cell_here) (en k__law_count) (es y3) (es x5)) (bZ k__law_cell_here k__law_count y3 x5):=by
 unfold dy bZ
 exact (ay (aw bY (aa rfl) (aw aY (bA gi (au k__law_cell_here) (aw bY (aa rfl) (au x5))) (aw s9 (pq (bq (aa rfl) (bq (aa rfl) (bq (aa rfl) pk)))) (aw gq (au k__law_count) (aa rfl))))) (fun d6=>(ay (tj tm (gu (.ls .fz) _) (xZ (DA u6 (au d6)) (fun c7=>(aa rfl)) (fun c7=>(dv Bu (bA gi (au k__law_cell_here) (aw bY (aw bY (aa rfl) (aw nV (aa rfl) (au x5))) (au c7))))))) (fun d8=>(aX rfl)))))
noncomputable def cM (a__law_cell_here:Int):Option ((List (List (T3 Int Str Int)))):=
 tF0 ((some ([]:(List (List (T3 Int Str Int))))).bind fun d1=>(b2 T.bT (some (1:Int)) (b2 T.bw (b2 bE (some a__law_cell_here) (some (60:Int))) (some (3:Int)))).bind fun d2=>g4 (b1 T.qo (some d2)) (bZ a__law_cell_here d2) d1 fun(y3:(List (List (T3 Int Str Int))))=>cq (some y3) (fun r=>⟨r⟩))
theorem qu (a__law_cell_here:Int):Fo0 (bP [en a__law_cell_here]) (cM a__law_cell_here):=by
 unfold cM
 refine fo0 (m:=cH (en a__law_cell_here)) ?_
 unfold cH
 exact (ay qa (fun d1=>(ay (aw bY (aa rfl) (aw aY (bA gi (au a__law_cell_here) (aa rfl)) (aa rfl))) (fun d2=>(du (DA u6 (au d2)) (fun b x=>oZ a__law_cell_here d2 b x) rfl (fun(y3:(List (List (T3 Int Str Int))))=>(aI (au y3) (fun _=>rfl))))))))
noncomputable def eg (a__law_term_here:(T3 Int Str Int)):Option (Str):=
 tF0 ((b1 T.un3 (some a__law_term_here)).bind fun d1=>gZ (b2 T.eqA (some d1.2.1) (some ("sizes" :Str))) (cq (b2 T.kQ (b2 T.kQ (b2 T.dP (some ("no " :Str)) (some d1.1)) (some ("sizes " :Str))) (b1 T.BK (some d1.2.2))) (fun r=>⟨r⟩)) (some (.nx ())) fun(y2:Unit)=>cq (b2 T.kQ (b2 T.dP (some ("no " :Str)) (some d1.1)) (some d1.2.1)) (fun r=>⟨r⟩))
theorem tP (a__law_term_here:(T3 Int Str Int)):Fo0 (cw [en a__law_term_here]) (eg a__law_term_here):=by
 unfold eg
 refine fo0 (m:=dQ (en a__law_term_here)) ?_
 unfold dQ
 exact (ay (GS (au a__law_term_here)) (fun d1=>(ck (aw gO (au d1.2.1) (aa rfl)) (aI (aw kT (aw kT (aw qb (aa rfl) (au d1.1)) (aa rfl)) (qH Jz (au d1.2.2))) (fun _=>rfl)) (aX rfl) (fun(y2:Unit)=>(aI (aw kT (aw qb (aa rfl) (au d1.1)) (au d1.2.1)) (fun _=>rfl))))))
noncomputable def eh (a__law_alternatives_here:(List (List (T3 Int Str Int)))):Option (Str):=
 tF0 (cq (b2 T.join (some (" or " :Str)) (tlc (some a__law_alternatives_here) (fun c1:(List (T3 Int Str Int))=>some true) (fun c1:(List (T3 Int Str Int))=>b2 T.join (some (" and " :Str)) (tlc (some c1) (fun c2:(T3 Int Str Int)=>some true) (fun c2:(T3 Int Str Int)=>b1 eg (some c2)))))) (fun r=>⟨r⟩))
theorem tQ (a__law_alternatives_here:(List (List (T3 Int Str Int)))):Fo0 (cA [en a__law_alternatives_here]) (eh a__law_alternatives_here):=by
 unfold eh
 refine fo0 (m:=dW (en a__law_alternatives_here)) ?_
 unfold dW
 exact (aI (aw yW (aa rfl) (xZ (eU (au a__law_alternatives_here)) (fun c1=>(aa rfl)) (fun c1=>(aw yW (aa rfl) (xZ (eU (au c1)) (fun c2=>(aa rfl)) (fun c2=>(dv tP (au c2)))))))) (fun _=>rfl))
noncomputable def eA (k__law_cell_here:Int) (k__law_letters:Str) (k__law_way:Int) (k__law_size:Int) (k__law_at:Int) (y6:(List Str)) (x8:Int):Option (TO ((List Str)) ((List Str)) (R0 (List Str))):=
 (b2 T.atS (some k__law_letters) (b2 T.bw (b2 T.bT (b2 T.eT (some k__law_cell_here) (some (192:Int))) (b2 T.j8 (some (11:Int)) (some x8))) (some (26:Int)))).bind fun d9=>gZ (b2 T.eqA (some k__law_way) (some (0:Int))) ((T.at1 y6 (some plR) (b2 T.kQ (b2 T.kQ (b2 T.dP (some ("m" :Str)) (some k__law_at)) (some d9)) (b2 T.dP (some ("m" :Str)) (b2 T.gY (b2 T.gY (some k__law_size) (some k__law_at)) (some (1:Int))))) T.app).bind fun d11=>some (.nx d11.2)) (gZ (b2 T.eqA (some k__law_way) (some (1:Int))) ((T.at1 y6 (some plR) (b2 T.kQ (some d9) (b2 T.dP (some ("m" :Str)) (b2 T.bw (b2 T.bT (b2 T.j8 (some x8) (some x8)) (b2 T.eT (some k__law_cell_here) (some (192:Int)))) (some (8:Int))))) T.app).bind fun d13=>some (.nx d13.2)) ((T.at1 y6 (some plR) (b2 T.kQ (b2 T.atS (some k__law_letters) (b2 T.bw (b2 T.bT (b2 T.eT (some k__law_cell_here) (some (192:Int))) (b2 T.eT (some x8) (some (4:Int)))) (some (26:Int)))) (b2 T.dP (some ("b" :Str)) (b2 T.gY (some (3:Int)) (b2 T.bw (some x8) (some (4:Int)))))) T.app).bind fun d14=>some (.nx d14.2)) fun(y12:(List Str))=>some (.nx y12)) fun(y10:(List Str))=>some (.nx y10)
theorem wK (k__law_cell_here:Int) (k__law_letters:Str) (k__law_way:Int) (k__law_size:Int) (k__law_at:Int) (y6:(List Str)) (x8:Int):TyS (jW (en k__law_cell_here) (en k__law_letters) (en k__law_way) (en k__law_size) (en k__law_at) (es y6) (es x8)) (eA k__law_cell_here k__law_letters k__law_way k__law_size k__law_at y6 x8):=by
 unfold jW eA
 exact (ay (aw vM (au k__law_letters) (aw aY (aw bY (aw dI (au k__law_cell_here) (aa rfl)) (aw nV (aa rfl) (au x8))) (aa rfl))) (fun d9=>(ck (aw gO (au k__law_way) (aa rfl)) (ay (tj tm (gu (.ls .fz) _) (aw kT (aw kT (aw qb (aa rfl) (au k__law_at)) (au d9)) (aw qb (aa rfl) (aw gq (aw gq (au k__law_size) (au k__law_at)) (aa rfl))))) (fun d11=>(aX rfl))) (ck (aw gO (au k__law_way) (aa rfl)) (ay (tj tm (gu (.ls .fz) _) (aw kT (au d9) (aw qb (aa rfl) (aw aY (aw bY (aw nV (au x8) (au x8)) (aw dI (au k__law_cell_here) (aa rfl))) (aa rfl))))) (fun d13=>(aX rfl))) (ay (tj tm (gu (.ls .fz) _) (aw kT (aw vM (au k__law_letters) (aw aY (aw bY (aw dI (au k__law_cell_here) (aa rfl)) (aw dI (au x8) (aa rfl))) (aa rfl))) (aw qb (aa rfl) (aw gq (aa rfl) (aw aY (au x8) (aa rfl)))))) (fun d14=>(aX rfl))) (fun(y12:(List Str))=>(aX rfl))) (fun(y10:(List Str))=>(aX rfl)))))
noncomputable def jw (a__law_cell_here:Int) (a__law_many:Int):Option ((List Str)):=
 tF0 ((some ("abcdefghijklmnopqrstuvwxyz" :Str)).bind fun d1=>(b2 T.bw (some a__law_cell_here) (some (3:Int))).bind fun d2=>(b2 T.bT (some (1:Int)) (b2 T.bw (b2 T.eT (some a__law_cell_here) (some (3:Int))) (some (8:Int)))).bind fun d3=>(b2 T.bw (b2 T.eT (some a__law_cell_here) (some (24:Int))) (some d3)).bind fun d4=>(some ([]:(List Str))).bind fun d5=>g4 (b1 T.qo (some a__law_many)) (eA a__law_cell_here d1 d2 d3 d4) d5 fun(y6:(List Str))=>cq (some y6) (fun r=>⟨r⟩))
theorem zV (a__law_cell_here:Int) (a__law_many:Int):Fo0 (fy [en a__law_cell_here,en a__law_many]) (jw a__law_cell_here a__law_many):=by
 unfold jw
 refine fo0 (m:=jh (en a__law_cell_here) (en a__law_many)) ?_
 unfold jh
 exact (ay (aa rfl) (fun d1=>(ay (aw aY (au a__law_cell_here) (aa rfl)) (fun d2=>(ay (aw bY (aa rfl) (aw aY (aw dI (au a__law_cell_here) (aa rfl)) (aa rfl))) (fun d3=>(ay (aw aY (aw dI (au a__law_cell_here) (aa rfl)) (au d3)) (fun d4=>(ay qa (fun d5=>(du (DA u6 (au a__law_many)) (fun b x=>wK a__law_cell_here d1 d2 d3 d4 b x) rfl (fun(y6:(List Str))=>(aI (au y6) (fun _=>rfl))))))))))))))
noncomputable def eB (k__law_names_here:(List Str)) (y4:(List (T5 Str Int Int (T3 Str Int Str) (T3 Str Int Str)))) (x6:Int×Int):Option (TO ((List (T5 Str Int Int (T3 Str Int Str) (T3 Str Int Str)))) ((List (T5 Str Int Int (T3 Str Int Str) (T3 Str Int Str)))) (R0 (List (T5 Str Int Int (T3 Str Int Str) (T3 Str Int Str))))):=
 (b2 T.bT (some (1:Int)) (b2 T.atL (T.lst (T.cons (b2 T.bw (b2 bE (some x6.2) (some (1:Int))) (some (200:Int))) (T.cons (b2 T.bw (b2 bE (some x6.2) (some (1:Int))) (b2 T.wQ (some (10:Int)) (some (6:Int)))) (some [])))) (b2 T.bw (b2 bE (some x6.2) (some (2:Int))) (some (2:Int))))).bind fun d7=>(T.at1 y4 (some plR) (b5 T.qui (b2 T.atL (some k__law_names_here) (some x6.1)) (some d7) (b2 T.bw (b2 bE (some x6.2) (some (3:Int))) (b2 T.bT (b2 T.wQ (some (10:Int)) (some (6:Int))) (some (1:Int)))) (b2 iL (some x6.2) (some (5:Int))) (b2 iL (some x6.2) (some (6:Int)))) T.app).bind fun d8=>some (.nx d8.2)
theorem tS (k__law_names_here:(List Str)) (y4:(List (T5 Str Int Int (T3 Str Int Str) (T3 Str Int Str)))) (x6:Int×Int):TyS (hV (en k__law_names_here) (es y4) (es x6)) (eB k__law_names_here y4 x6):=by
 unfold hV eB
 exact (ay (aw bY (aa rfl) (aw s9 (pq (bq (aw aY (bA gi (au x6.2) (aa rfl)) (aa rfl)) (bq (aw aY (bA gi (au x6.2) (aa rfl)) (aw Dz (aa rfl) (aa rfl))) pk))) (aw aY (bA gi (au x6.2) (aa rfl)) (aa rfl)))) (fun d7=>(ay (tj tm (gu (.ls .fz) _) (Jk (aw s9 (au k__law_names_here) (au x6.1)) (au d7) (aw aY (bA gi (au x6.2) (aa rfl)) (aw bY (aw Dz (aa rfl) (aa rfl)) (aa rfl))) (bA uv (au x6.2) (aa rfl)) (bA uv (au x6.2) (aa rfl)))) (fun d8=>(aX rfl)))))
noncomputable def gj (a__law_script:Scr):Option ((List (T5 Str Int Int (T3 Str Int Str) (T3 Str Int Str)))):=
 tF0 ((yU T.fT (b2 T.BL (some a__law_script) (T.lst (T.cons (some (0:Int)) (T.cons (some (1:Int)) (T.cons (some (2:Int)) (some [])))))) (b1 T.toI (some (2:Int))) (b1 T.toI (some (16:Int)))).bind fun d1=>(b2 jw (b2 dE (some a__law_script) (some (1:Int))) (b1 T.uy (some d1))).bind fun d2=>(some ([]:(List (T5 Str Int Int (T3 Str Int Str) (T3 Str Int Str))))).bind fun d3=>g4 (b1 T.enum (some d1)) (eB d2) d3 fun(y4:(List (T5 Str Int Int (T3 Str Int Str) (T3 Str Int Str))))=>cq (some y4) (fun r=>⟨r⟩))
theorem wL (a__law_script:Scr):Fo0 (cZ [en a__law_script]) (gj a__law_script):=by
 unfold gj
 refine fo0 (m:=f7 (en a__law_script)) ?_
 unfold f7
 exact (ay (vN LV (aw JB (au a__law_script) (pq (bq (aa rfl) (bq (aa rfl) (bq (aa rfl) pk))))) (pj te (aa rfl)) (pj te (aa rfl))) (fun d1=>(ay (bA zV (bA pR (au a__law_script) (aa rfl)) (qH DC (au d1))) (fun d2=>(ay qa (fun d3=>(du (AO (au d1)) (fun b x=>tS d2 b x) rfl (fun(y4:(List (T5 Str Int Int (T3 Str Int Str) (T3 Str Int Str))))=>(aI (au y4) (fun _=>rfl))))))))))
noncomputable def cY (y3:Int) (x5:Int):Option (TO (Int) (Int) (R0 Int)):=
 (b2 T.gY (some y3) (b2 T.max2 (some x5) (b2 T.gY (some (0:Int)) (some x5)))).bind fun d6=>some (.nx d6)
theorem wM (y3:Int) (x5:Int):TyS (jX (es y3) (es x5)) (cY y3 x5):=by
 unfold jX cY
 exact (ay (aw gq (au y3) (GG yT (au x5) (aw gq (aa rfl) (au x5)))) (fun d6=>(aX rfl)))
noncomputable def jz (a__law_one:(T5 Str Int Int (T3 Str Int Str) (T3 Str Int Str))) (a__law_other:(T5 Str Int Int (T3 Str Int Str) (T3 Str Int Str))):Option (Int):=
 tF0 ((T.lst (T.cons (b2 T.gY (((some a__law_one).map T5.d).map T3.b) (((some a__law_other).map T5.e).map T3.b)) (T.cons (b2 T.gY (((some a__law_other).map T5.d).map T3.b) (((some a__law_one).map T5.e).map T3.b)) (some [])))).bind fun d1=>(b2 T.bT ((some a__law_one).map T5.b) ((some a__law_other).map T5.b)).bind fun d2=>g4 (some d1) (cY) d2 fun(y3:Int)=>cq (b2 T.max2 (some y3) (some (1:Int))) (fun r=>⟨r⟩))
theorem zW (a__law_one:(T5 Str Int Int (T3 Str Int Str) (T3 Str Int Str))) (a__law_other:(T5 Str Int Int (T3 Str Int Str) (T3 Str Int Str))):Fo0 (fA [en a__law_one,en a__law_other]) (jz a__law_one a__law_other):=by
 unfold jz
 refine fo0 (m:=jn (en a__law_one) (en a__law_other)) ?_
 unfold jn
 exact (ay (pq (bq (aw gq (bj (bj (au a__law_one) (fun _=>rfl)) (fun _=>rfl)) (bj (bj (au a__law_other) (fun _=>rfl)) (fun _=>rfl))) (bq (aw gq (bj (bj (au a__law_other) (fun _=>rfl)) (fun _=>rfl)) (bj (bj (au a__law_one) (fun _=>rfl)) (fun _=>rfl))) pk))) (fun d1=>(ay (aw bY (bj (au a__law_one) (fun _=>rfl)) (bj (au a__law_other) (fun _=>rfl))) (fun d2=>(du (eU (au d1)) (fun b x=>wM b x) rfl (fun(y3:Int)=>(aI (GG yT (au y3) (aa rfl)) (fun _=>rfl))))))))
noncomputable def jA (k__law_alternatives_here:(List (List (T3 Int Str Int)))) (k__law_one:(T5 Str Int Int (T3 Str Int Str) (T3 Str Int Str))) (y6:(Sd Int)) (x8:(T5 Str Int Int (T3 Str Int Str) (T3 Str Int Str))):Option (TO ((Sd Int)) ((Sd Int)) (R0 (Sd (Sd Int)))):=
 (lD (b3 dB (some k__law_alternatives_here) ((some k__law_one).map T5.d) ((some x8).map T5.e)) (b3 dB (some k__law_alternatives_here) ((some x8).map T5.d) ((some k__law_one).map T5.e))).bind fun d9=>gZ (lD (b2 T.neA ((some k__law_one).map T5.a) ((some x8).map T5.a)) (some d9)) ((T.dput y6 (b2 jz (some k__law_one) (some x8)) (some plR) ((some x8).map T5.a)).bind fun d11=>some (.nx d11)) (some (.nx y6)) fun(y10:(Sd Int))=>some (.nx y10)
theorem zX (k__law_alternatives_here:(List (List (T3 Int Str Int)))) (k__law_one:(T5 Str Int Int (T3 Str Int Str) (T3 Str Int Str))) (y6:(Sd Int)) (x8:(T5 Str Int Int (T3 Str Int Str) (T3 Str Int Str))):TyS (mh (en k__law_alternatives_here) (en k__law_one) (es y6) (es x8)) (jA k__law_alternatives_here k__law_one y6 x8):=by
 unfold mh jA
 exact (ay (uZ (l7 pQ (au k__law_alternatives_here) (bj (au k__law_one) (fun _=>rfl)) (bj (au x8) (fun _=>rfl))) (l7 pQ (au k__law_alternatives_here) (bj (au x8) (fun _=>rfl)) (bj (au k__law_one) (fun _=>rfl)))) (fun d9=>(ck (uY (aw GF (bj (au k__law_one) (fun _=>rfl)) (bj (au x8) (fun _=>rfl))) (lH (au d9))) (ay (se (gu (.dc .fz) _) (bA zW (au k__law_one) (au x8)) (bj (au x8) (fun _=>rfl))) (fun d11=>(aX rfl))) (aX rfl) (fun(y10:(Sd Int))=>(aX rfl)))))
noncomputable def jB (k__law_couples_here:(List (T5 Str Int Int (T3 Str Int Str) (T3 Str Int Str)))) (k__law_alternatives_here:(List (List (T3 Int Str Int)))) (y2:(Sd (Sd Int))) (x4:(T5 Str Int Int (T3 Str Int Str) (T3 Str Int Str))):Option (TO ((Sd (Sd Int))) ((Sd (Sd Int))) (R0 (Sd (Sd Int)))):=
 (some (⟨[]⟩:(Sd Int))).bind fun d5=>g4 (some k__law_couples_here) (jA k__law_alternatives_here x4) d5 fun(y6:(Sd Int))=>(T.dput y2 (some y6) (some plR) ((some x4).map T5.a)).bind fun d12=>some (.nx d12)
theorem zY (k__law_couples_here:(List (T5 Str Int Int (T3 Str Int Str) (T3 Str Int Str)))) (k__law_alternatives_here:(List (List (T3 Int Str Int)))) (y2:(Sd (Sd Int))) (x4:(T5 Str Int Int (T3 Str Int Str) (T3 Str Int Str))):TyS (mj (en k__law_couples_here) (en k__law_alternatives_here) (es y2) (es x4)) (jB k__law_couples_here k__law_alternatives_here y2 x4):=by
 unfold mj jB
 exact (ay rZ (fun d5=>(du (eU (au k__law_couples_here)) (fun b x=>zX k__law_alternatives_here x4 b x) rfl (fun(y6:(Sd Int))=>(ay (se (gu (.dc .fz) _) (au y6) (bj (au x4) (fun _=>rfl))) (fun d12=>(aX rfl)))))))
noncomputable def jP (a__law_couples_here:(List (T5 Str Int Int (T3 Str Int Str) (T3 Str Int Str)))) (a__law_alternatives_here:(List (List (T3 Int Str Int)))):Option ((Sd (Sd Int))):=
 tF0 ((some (⟨[]⟩:(Sd (Sd Int)))).bind fun d1=>g4 (some a__law_couples_here) (jB a__law_couples_here a__law_alternatives_here) d1 fun(y2:(Sd (Sd Int)))=>cq (some y2) (fun r=>⟨r⟩))
theorem CC (a__law_couples_here:(List (T5 Str Int Int (T3 Str Int Str) (T3 Str Int Str)))) (a__law_alternatives_here:(List (List (T3 Int Str Int)))):Fo0 (iH [en a__law_couples_here,en a__law_alternatives_here]) (jP a__law_couples_here a__law_alternatives_here):=by
 unfold jP
 refine fo0 (m:=lP (en a__law_couples_here) (en a__law_alternatives_here)) ?_
 unfold lP
 exact (ay rZ (fun d1=>(du (eU (au a__law_couples_here)) (fun b x=>zY a__law_couples_here a__law_alternatives_here b x) rfl (fun(y2:(Sd (Sd Int)))=>(aI (au y2) (fun _=>rfl))))))
noncomputable def mq (y6:Unit) (x8:Int):Option (TO (Unit) (Unit) (R0 Bool)):=
 gZ (lX (b1 k7 (some x8))) (cq (some false) (fun r=>⟨r⟩)) (some (.nx ())) fun(y9:Unit)=>some (.nx ())
theorem Bv (y6:Unit) (x8:Int):TyS (oE (es y6) (es x8)) (mq y6 x8):=by
 unfold oE mq
 exact (ck (nU (lH (dv zT (au x8)))) (aI (aa rfl) (fun _=>rfl)) (aX rfl) (fun(y9:Unit)=>(aX rfl)))
noncomputable def mr (k__law_found:(Sd (Sd Int))) (y2:Unit) (x4:Str):Option (TO (Unit) (Unit) (R0 Bool)):=
 gZ (lX ((b2 T.ux (some k__law_found) (some x4)).bind fun _=>some true)) (cq (some false) (fun r=>⟨r⟩)) (some (.nx ())) fun(y5:Unit)=>Dw (b1 T.vals (b2 T.ux (some k__law_found) (some x4))) (mq) () fun(y6:Unit)=>some (.nx ())
theorem Bw (k__law_found:(Sd (Sd Int))) (y2:Unit) (x4:Str):TyS (oF (en k__law_found) (es y2) (es x4)) (mr k__law_found y2 x4):=by
 unfold oF mr
 exact (ck (nU (lH (yX (fun _=>rfl) (aw DF (au k__law_found) (au x4))))) (aI (aa rfl) (fun _=>rfl)) (aX rfl) (fun(y5:Unit)=>(Dx (pj Jq (aw DF (au k__law_found) (au x4))) (fun b x=>Bv b x) rfl (fun(y6:Unit)=>(aX rfl)))))
noncomputable def fB (a__law_found:(Sd (Sd Int))) (a__law_due_here:(Sd (Sd Int))):Option (Bool):=
 tF0 (gZ (orB (lX ((some a__law_found).bind fun _=>some true)) (b2 (T.AN false) (some a__law_found) (some a__law_due_here))) (cq (some false) (fun r=>⟨r⟩)) (some (.nx ())) fun(y1:Unit)=>Dw (b1 T.rQ (some a__law_due_here)) (mr a__law_found) () fun(y2:Unit)=>cq (some true) (fun r=>⟨r⟩))
theorem tT (a__law_found:(Sd (Sd Int))) (a__law_due_here:(Sd (Sd Int))):Fo0 (gd [en a__law_found,en a__law_due_here]) (fB a__law_found a__law_due_here):=by
 unfold fB
 refine fo0 (m:=ni (en a__law_found) (en a__law_due_here)) ?_
 unfold ni
 exact (ck (vJ (nU (lH (yX (fun _=>rfl) (au a__law_found)))) (aw (DI false) (au a__law_found) (au a__law_due_here))) (aI (aa rfl) (fun _=>rfl)) (aX rfl) (fun(y1:Unit)=>(Dx (pj Jp (au a__law_due_here)) (fun b x=>Bw a__law_found b x) rfl (fun(y2:Unit)=>(aI (aa rfl) (fun _=>rfl))))))
noncomputable def sR (y11:(Sd (Sd Int))) (x13:Str):Option (TO ((Sd (Sd Int))) ((Sd (Sd Int))) (R0 Bool)):=
 (T.at0 y11 (plK y11 (some plR) (some x13)) T.Jr).bind fun d14=>some (.nx d14.2)
theorem JZ (y11:(Sd (Sd Int))) (x13:Str):TyS (zO (es y11) (es x13)) (sR y11 x13):=by
 unfold zO sR
 exact (ay (GK DG (BN (gu (.dc (.dc .fz)) _) (au x13))) (fun d14=>(aX rfl)))
noncomputable def DY (a__law_script:Scr):Option (Bool):=
 tF0 ((b1 gj (some a__law_script)).bind fun d1=>(b1 cM (b2 dE (some a__law_script) (some (0:Int)))).bind fun d2=>(b1 nv (b1 eh (some d2))).bind fun d3=>(b2 jP (some d1) (some d2)).bind fun d4=>(b1 some (some d1)).bind fun d5=>(b2 dC (some d5) (some d3)).bind fun d6=>gZ (orB (lX (b2 fB (some d6) (some d4))) (b2 T.neD (some d5) (some d1))) (cq (some false) (fun r=>⟨r⟩)) (some (.nx ())) fun(y7:Unit)=>(b2 T.bw (b2 T.eT (b2 dE (some a__law_script) (some (1:Int))) (some (5:Int))) (b1 T.uy (some d1))).bind fun d8=>(b2 dC (b2 T.Am (yU T.fT (some d1) (b1 T.toI (some d8)) (some none)) (yU T.fT (some d1) (some none) (b1 T.toI (some d8)))) (some (⟨.clo eX (en d2)⟩:Fv))).bind fun d9=>gZ (orB (lX (b2 fB (some d9) (some d4))) (b2 (T.AN false) (b2 dC (some ([]:(List (T5 Str Int Int (T3 Str Int Str) (T3 Str Int Str))))) (some d3)) (some (⟨[]⟩:(Sd (Sd Int)))))) (cq (some false) (fun r=>⟨r⟩)) (some (.nx ())) fun(y10:Unit)=>g4 (b1 T.rQ (some d6)) (sR) d6 fun(y11:(Sd (Sd Int)))=>(T.at0 y11 (some plR) T.Jr).bind fun d15=>cq (lD (b2 fB (b2 dC (b1 T.rev (some d1)) (some d3)) (some d4)) (b2 T.eqD (some d5) (some d1))) (fun r=>⟨r⟩))
theorem Of (a__law_script:Scr):Fo0 (Ct [en a__law_script]) (DY a__law_script):=by
 unfold DY
 refine fo0 (m:=Bq (en a__law_script)) ?_
 unfold Bq
 exact (ay (dv wL (au a__law_script)) (fun d1=>(ay (dv qu (bA pR (au a__law_script) (aa rfl))) (fun d2=>(ay (dv EY (dv tQ (au d2))) (fun d3=>(ay (bA CC (au d1) (au d2)) (fun d4=>(ay (qH LW (au d1)) (fun d5=>(ay (bA sQ (au d5) (au d3)) (fun d6=>(ck (vJ (nU (lH (bA tT (au d6) (au d4)))) (aw (L5 (Nat.le_of_ble_eq_true rfl)) (au d5) (au d1))) (aI (aa rfl) (fun _=>rfl)) (aX rfl) (fun(y7:Unit)=>(ay (aw aY (aw dI (bA pR (au a__law_script) (aa rfl)) (aa rfl)) (qH DC (au d1))) (fun d8=>(ay (NK (bA sQ (aw Jm (vN LV (au d1) (pj te (au d8)) DE) (vN LV (au d1) DE (pj te (au d8)))) (au (⟨.clo eX (en d2)⟩:Fv)))) (fun d9=>(ck (vJ (nU (lH (bA tT (au d9) (au d4)))) (aw (DI false) (bA sQ qa (au d3)) rZ)) (aI (aa rfl) (fun _=>rfl)) (aX rfl) (fun(y10:Unit)=>(du (eU (qH GI (au d6))) (fun b x=>JZ b x) rfl (fun(y11:(Sd (Sd Int)))=>(ay (GK DG (gu (.dc (.dc .fz)) _)) (fun d15=>(aI (uZ (bA tT (bA sQ (Jn (au d1)) (au d3)) (au d4)) (aw (mC (GQ (Nat.le_of_ble_eq_true rfl))) (au d5) (au d1))) (fun _=>rfl))))))))))))))))))))))))))
end Sw.k06
namespace Sw.k06
open PySem PySem.Spec PyProof.Rows L2 Sw
theorem zZ (sc:Scr) (k:Int) (h:0<=k):dE sc k=some (sc.l.getD k.toNat 0):=by
 unfold dE
 by_cases hk:k<sc.l.length
 ·have h2:k.toNat<sc.l.length:=by omega
  simp[hk,T.JL h hk,List.getD_eq_getElem?_getD,List.getElem?_eq_getElem h2]
 ·have:sc.l.getD k.toNat 0=0:=by
   rw[List.getD_eq_getElem?_getD,List.getElem?_eq_none (by omega)];rfl
  rw[this]
  simp[hk]
def o5 (c k:Int):Int:=
 let n:=(c%2147483629+7919*k+12345)%2147483629
 let m:=(n*n+104729*k)%2147483629
 (m+k)*(m+k)%2147483587
theorem uw (c k:Int):0<=o5 c k:=Int.emod_nonneg _ (by decide)
theorem oH (c k:Int) (h1: -1000000<=k) (h2:k<=1000000):bE c k=some (o5 c k):=by
 unfold bE o5
 simp only[aq,T.cu,Option.bind_some,T.bp (b:=2147483629) (by decide),T.ph (a:=7919) (by decide) (by decide)]
 generalize hn:(c%2147483629+7919*k+12345)%2147483629=n
 have n0:0<=n:=by rw[<-hn];exact Int.emod_nonneg _ (by decide)
 have n1:n<2147483629:=by rw[<-hn];exact Int.emod_lt_of_pos _ (by decide)
 rw[T.ph (a:=n) (by omega) (by omega)]
 simp only[aq,T.cu,Option.bind_some,T.bp (b:=2147483629) (by decide),T.ph (a:=104729) (by decide) (by decide)]
 generalize hm:(n*n+104729*k)%2147483629=m
 have m0:0<=m:=by rw[<-hm];exact Int.emod_nonneg _ (by decide)
 have m1:m<2147483629:=by rw[<-hm];exact Int.emod_lt_of_pos _ (by decide)
 rw[T.ph (a:=m+k) (by omega) (by omega)]
 simp only[aq,T.cu,Option.bind_some,T.bp (b:=2147483587) (by decide),yc,JR]
def Let (x:Str):Prop:= ∀c∈TL.tl x,97<=c/\c<123
structure jQ (s:T3 Str Int Str):Prop where
 grp:s.a∈[("O" :Str),"A","B","AB"]
 lo:1<=s.b
 hi:s.b<=99
 rise:(TL.tl s.c).Pairwise (· < ·)
 low:Let s.c
 len:(TL.tl s.c).length<=26
structure wN (c:T5 Str Int Int (T3 Str Int Str) (T3 Str Int Str)):Prop where
 name:Let c.a
 n1:1<=(TL.tl c.a).length
 n8:(TL.tl c.a).length<=8
 need1:1<=c.b
 need:c.b<=1000000
 rank0:0<=c.c
 rank:c.c<=1000000
 d:jQ c.d
 e:jQ c.e
structure KN (s:T3 Str Int Str):Prop where
 grp:s.a∈[("O" :Str),"A","B","AB"]
 lo:0<=s.b
 hi:s.b<=100
 rise:(TL.tl s.c).Pairwise (· < ·)
 low:Let s.c
 len:(TL.tl s.c).length<=26
theorem jQ.w {s:T3 Str Int Str} (h:jQ s):KN s:=⟨h.grp,by have:=h.lo;omega,by have:=h.hi;omega,h.rise,h.low,h.len⟩
def num (i:Int):Str:=toString i
theorem q7 {i:Int} (h:0<=i):TL.tl (num i)=TL.numL i.toNat:=by
 have:=TL.tl_num i.toNat
 rw[Int.toNat_of_nonneg h] at this
 exact this
theorem J0 {i:Int} (h:0<=i) (h2:i<=1000001):(TL.tl (num i)).length<=7:=by
 rw[q7 h]
 exact TL.numL_len (by decide) (by omega)
theorem E2 {i:Int} (h:0<=i) (h2:i<=1000001):i.natAbs.log2<1920:=by
 by_cases z:i.natAbs=0
 ·rw[z];decide
 ·rw[Nat.log2_lt z]
  exact Nat.lt_of_lt_of_le (show i.natAbs<2^20 by omega) (Nat.pow_le_pow_right (by decide) (by decide))
def mk (s:T3 Str Int Str):Str:=if s.c=("" :Str) then "-" else s.c
def hd (c:T5 Str Int Int (T3 Str Int Str) (T3 Str Int Str)):Str:=Txt.join " " [c.a,num c.b,num c.c]
theorem KO:TL.tl (" " :Str)=[32]:=rfl
theorem DZ {s:T3 Str Int Str} (h:KN s):(TL.tl s.a).length<=2/\ ∀c∈TL.tl s.a,65<=c/\c<91:=by
 have:=h.grp
 simp only[List.mem_cons,List.not_mem_nil,or_false] at this
 rcases this with e|e|e|e <;> (rw[e];decide)
theorem z0 {i:Int} (h:0<=i): ∀c∈TL.tl (num i),48<=c/\c<58:=fun c hc=>by
 rw[q7 h] at hc
 have:=TL.numL_digits _ c hc
 omega
theorem k8 {a b:Str} (h:(TL.tl a).length+(TL.tl b).length<=1000):T.kQ a b=some (a++b):=T.JK (by rw[TL.len_tl,TL.len_tl];exact Nat.le_trans h (Nat.le_trans (by decide) big))
theorem CD {x:Str} (h:Let x):PySem.PyData.strOk x=true:=Low.ok h
theorem D1 {s:T3 Str Int Str} (h:jQ s):So.ok s=true:=by
 show (PySem.PyData.strOk s.a&&true&&PySem.PyData.strOk s.c)=true
 rw[CD h.low]
 have:=h.grp
 simp only[List.mem_cons,List.not_mem_nil,or_false] at this
 rcases this with e|e|e|e <;> (rw[e];decide+kernel)
theorem z8 {i:Int} (h0:0<=i) (h1:i<26):T.atS uW i=some (sg (97+i.toNat)):=by
 unfold T.atS
 rw[if_pos (by decide+kernel)]
 unfold T.sgs
 rw[AE,atI_nat h0 (by simpa using h1),List.getElem?_map,List.getElem?_map,List.getElem?_range (by omega)]
 rfl
theorem HU {cs:List Nat} (h:cs.length<=1000):T.join ("" :Str) (cs.map sg)=some ⟨cs.toArray⟩:=by
 unfold T.join
 rw[if_pos,Gq]
 have e1: ∀l:List Nat,(l.map fun _=>1).sum=l.length:=fun l=>by induction l with
  |nil=>rfl
  |cons a l ih=>rw[List.map_cons,List.sum_cons,ih];simp;omega
 have e2:((cs.map sg).map fun x=>x.length)=cs.map fun _=>1:=by rw[List.map_map];rfl
 rw[e2,e1,List.length_map]
 show _+_*0<=_
 omega
theorem HV {n:Int} (h:0<=n): ∃m,jv n=some m/\(TL.tl m).Pairwise (· < ·)/\Let m/\(TL.tl m).length<=26:=by
 have:=big
 unfold jv
 simp only[Option.bind_some,aq,T.bp (b:=3) (by decide),T.lJ,bc]
 rw[show ("abcdefghijklmnopqrstuvwxyz" :Str)=uW from rfl]
 by_cases w0:n%3=0
 ·refine⟨"",?_,List.Pairwise.nil,fun c hc=>(by cases hc),by decide⟩
  rw[decide_eq_true w0,if_pos rfl];rfl
 rw[decide_eq_false w0,if_neg Bool.false_ne_true]
 simp only[Option.bind_some,fF]
 by_cases w1:n%3=1
 ·have m0:=Int.emod_nonneg (n/3) (show (26:Int)≠0 by decide)
  have m1:=Int.emod_lt_of_pos (n/3) (show (0:Int)<26 by decide)
  refine⟨sg (97+(n/3%26).toNat),?_,List.pairwise_singleton _ _,fun c hc=> ?_,by show 1<=26;decide⟩
  ·rw[decide_eq_true w1,if_pos rfl,T.gv (by decide) (by decide),aq,T.bp (by decide),aq,z8 m0 m1];rfl
  ·have:c=97+(n/3%26).toNat:=by simpa using (show c∈[97+(n/3%26).toNat] from hc)
   omega
 rw[decide_eq_false w1,if_neg Bool.false_ne_true]
 simp only[Option.bind_some,fF]
 let p:Nat->Bool:=fun i=>decide (n/3/((i:Int)+1)%3=0)
 have lc:tlc (b1 T.qo (some (26:Int))) (fun c5:Int=>b2 T.eqA (b2 T.bw (b2 T.eT (b2 T.eT (some n) (some (3:Int))) (b2 T.bT (some c5) (some (1:Int)))) (some (3:Int))) (some (0:Int))) (fun c5:Int=>b2 T.atS (some uW) (some c5))=some ((((List.range 26).filter p).map fun i=>97+i).map sg):=by
  rw[aL,T.u9 (by decide) (by decide)]
  rw[B3 (fun i:Int=>decide (n/3/(i+1)%3=0)) (fun i=>sg (97+i.toNat)) (by simp;exact Nat.le_trans (by decide) big)]
  ·congr 1
   rw[List.filter_map,List.map_map,List.map_map]
   rfl
  ·intro i hi
   obtain⟨j,hj,rfl⟩:=List.mem_map.mp hi
   have:=List.mem_range.mp hj
   have:(26:Int).toNat=26:=rfl
   rw[aq,T.gv (by decide) (by decide),aq,T.cu,aq,T.gv (by omega) (by omega),aq,T.bp (by decide),aq,T.lJ]
  ·intro i hi _
   obtain⟨j,hj,rfl⟩:=List.mem_map.mp hi
   have:=List.mem_range.mp hj
   have:(26:Int).toNat=26:=rfl
   rw[aq,z8 (by omega) (by omega)]
 have fl:=List.length_filter_le p (List.range 26)
 rw[List.length_range] at fl
 simp only[aq] at lc
 rw[lc]
 refine⟨⟨(((List.range 26).filter p).map fun i=>97+i).toArray⟩,?_,?_,fun c hc=> ?_,?_⟩
 ·rw[aq,HU (by rw[List.length_map];omega)];rfl
 ·show (((List.range 26).filter p).map fun i=>97+i).Pairwise (· < ·)
  rw[List.pairwise_map]
  exact (List.pairwise_lt_range.sublist List.filter_sublist).imp fun h=>by omega
 ·obtain⟨i,hi,rfl⟩:=List.mem_map.mp (show c∈((List.range 26).filter p).map fun i=>97+i from hc)
  have:=List.mem_range.mp (List.mem_filter.mp hi).1
  omega
 ·show (((List.range 26).filter p).map fun i=>97+i).length<=26
  rw[List.length_map];omega
theorem D3 (c k:Int) (h1: -1000000<=k) (h2:k<=1000000): ∃s,iL c k=some s/\jQ s:=by
 unfold iL
 rw[aq,oH c k h1 h2]
 have n0:=uw c k
 generalize o5 c k=d at n0
 obtain⟨m,em,m1,m2,m3⟩:=HV (n:=d/400) (by omega)
 have d0:=Int.emod_nonneg d (show (4:Int)≠0 by decide)
 have d1:=Int.emod_lt_of_pos d (show (0:Int)<4 by decide)
 have s0:=Int.emod_nonneg (d/4) (show (99:Int)≠0 by decide)
 have s1:=Int.emod_lt_of_pos (d/4) (show (0:Int)<99 by decide)
 rw[Option.bind_some]
 simp only[T.nX,T.NS,aq,T.bp (b:=4) (by decide),T.gv (b:=4) (by decide) (by decide),T.gv (b:=400) (by decide) (by decide),T.bp (b:=99) (by decide),T.cu,aL,em]
 rw[T.p8 d0 (by show d%4<4;omega)]
 exact⟨_,rfl,List.getElem_mem _,by show 1<=1+_;omega,by show 1+_<=99;omega,m1,m2,m3⟩
def dig (c:Nat):Bool:=decide (48<=c/\c<=57)
def low (c:Nat):Bool:=decide (97<=c/\c<=122)
def CF (x:Str) (k:Int):Bool:=decide ((1:Int)<=(x.length:Int))&&decide ((x.length:Int)<=k)
def hd0 (l:List Nat):Bool:=match l with
 | []=>false
 |c::r=>decide (c=48)&& !decide (r=[])
def wrB (x:Str):Bool:=(TL.tl x).all dig&&(CF x 12&& !hd0 (TL.tl x))
theorem ltl {x:Str}:x.length=(TL.tl x).length:=TL.len_tl x
theorem Qa {x:Str} (h:x.length<=2000):T.wR x=some (x.length:Int):=T.JN (by have:=big;omega)
theorem D4 {ρ:Type} {step:Unit->Str->Option (TO Unit Unit ρ)} {p:Nat->Bool} {r:ρ}: ∀(l:List Nat),(∀c∈l,step () ⟨#[c]⟩=some (if p c=true then .nx () else .ret r))->fE step (l.map fun c=>(⟨#[c]⟩:Str)) ()=some (if l.all p=true then .fin () else .ret r)
 | [],_=>rfl
 |c::l,h=>by
  show (step () ⟨#[c]⟩).bind _=_
  rw[h c List.mem_cons_self]
  by_cases q:p c=true
  ·rw[if_pos q,List.all_cons,q,Bool.true_and]
   exact D4 l fun c hc=>h c (List.mem_cons_of_mem _ hc)
  ·rw[if_neg q,List.all_cons,Bool.eq_false_iff.mpr q];rfl
theorem J1:("0123456789" :Str).cps.toList=[48,49,50,51,52,53,54,55,56,57]:=by decide+kernel
theorem Og (c:Nat):T.qp true ⟨#[c]⟩ ("0123456789" :Str)=some (!dig c):=by
 show some (!decide (c∈("0123456789" :Str).cps.toList))=_
 congr 2
 unfold dig
 rw[decide_eq_decide,J1]
 simp only[List.mem_cons,List.not_mem_nil,or_false]
 omega
theorem chI (a n b:Int):Jx T.leI T.leI (some a) (some n) (some b)=some (decide (a<=n)&&decide (n<=b)):=by
 unfold Jx
 simp only[Option.bind_some,T.B1]
 cases decide (a<=n) <;> rfl
theorem at0 {x:Str} {c:Nat} {r:List Nat} (h:x.length<=2000) (e:TL.tl x=c::r):T.atS x 0=some ⟨#[c]⟩:=by
 have:=big
 unfold T.atS T.sgs
 rw[if_pos (by omega),show x.cps.toList=c::r from e,atI_nat (by decide) (by simp)];rfl
theorem c0 (c:Nat):decide ((⟨#[c]⟩:Str)=("0" :Str))=decide (c=48):=by
 rw[decide_eq_decide]
 constructor
 ·intro q
  have:[c]=[48]:=congrArg TL.tl q
  simpa using this
 ·rintro rfl;rfl
theorem headOf {x:Str} {k:Int} (h:CF x k=true): ∃c r,TL.tl x=c::r:=by
 cases e:TL.tl x with
 |cons c r=>exact⟨c,r,rfl⟩
 |nil=>
  exfalso
  have:=of_decide_eq_true (Bool.and_eq_true_iff.mp h).1
  rw[ltl,e] at this
  simp at this
def Oh (x:Str):Int:=((PySem.NumText.digitsVal (TL.tl x):Nat):Int)
theorem intD {x:Str} (h1:(TL.tl x).all dig=true) (h3:CF x 12=true):T.wY x=some (Oh x):=by
 obtain⟨c,r,e⟩:=headOf h3
 have l:=of_decide_eq_true (Bool.and_eq_true_iff.mp h3).2
 unfold T.wY
 rw[if_pos (by omega)]
 exact PySem.intText_digits (fun c hc=>of_decide_eq_true (List.all_eq_true.mp h1 c hc)) (by rw[show x.cps.toList=c::r from e];simp) (by omega)
theorem J3 {i:Int} (h:0<=i) (h2:i<=1000001):wrB (num i)=true/\Oh (num i)=i:=by
 have l:=J0 h h2
 have n1:1<=(TL.tl (num i)).length:=by
  rw[q7 h]
  exact List.length_pos_iff.mpr (TL.numL_ne _)
 have d:(TL.tl (num i)).all dig=true:=List.all_eq_true.mpr fun c hc=>decide_eq_true (by have:=z0 h c hc;omega)
 have lb:CF (num i) 12=true:=by
  unfold CF
  rw[ltl,decide_eq_true (by omega),decide_eq_true (by omega)];rfl
 have h0:hd0 (TL.tl (num i))=false:=by
  rw[q7 h]
  by_cases z:i.toNat<10
  ·rw[TL.numL_lt z];simp[hd0]
  ·rw[TL.numL_step (by omega)]
   have: ∀(n:Nat),1<=n-> ∃d r,TL.numL n=d::r/\d≠48:=fun n=>by
    induction n using Nat.strongRecOn with
    |_ n ih=>
     intro h
     by_cases z:n<10
     ·exact⟨48+n,[],TL.numL_lt z,by omega⟩
     ·obtain⟨d,r,e,h2⟩:=ih (n/10) (by omega) (by omega)
      exact⟨d,r++[48+n%10],by rw[TL.numL_step (by omega),e];rfl,h2⟩
   obtain⟨d,r,e,hd⟩:=this (i.toNat/10) (by omega)
   rw[e]
   show (decide (d=48)&&_)=false
   rw[decide_eq_false hd];rfl
 refine⟨by unfold wrB;rw[d,lb,h0];rfl,?_⟩
 have e:=TL.int_num (n:=i.toNat) (by rw[<-q7 h];omega)
 rw[Int.toNat_of_nonneg h] at e
 have e2:=intD d lb
 unfold T.wY at e2
 rw[if_pos (by rw[ltl];omega)] at e2
 exact Option.some.inj (e2.symm.trans e)
def nbl (d:Nat):List Nat->Prop
 | []=>True
 |c::r=>(c=32-> ∃e s,r=e::s/\e≠d)/\nbl d r
theorem sS {d:Nat}: ∀{l:List Nat},32∉l->nbl d l
 | [],_=>trivial
 |c::r,h=>⟨fun e=>absurd (by rw[e];exact List.mem_cons_self) h,sS fun m=>h (List.mem_cons_of_mem _ m)⟩
theorem D5 {d:Nat}: ∀{a b:List Nat},nbl d a->nbl d b->nbl d (a++b)
 | [],_,_,h=>h
 |c::r,b,h,g=>⟨fun e=>by
   obtain⟨x,s,e1,e2⟩:=h.1 e
   exact⟨x,s++b,by rw[e1];rfl,e2⟩,D5 h.2 g⟩
theorem z9 {d:Nat} {S:List Nat} (q:List Nat): ∀{p:List Nat},nbl d p-> ∀i,i<p.length->TL.pre (32::d::S) ((p++q).drop i)=false
 | [],_,i,h=>absurd h (by simp)
 |c::r,h,0,_=>by
  by_cases e:c=32
  ·obtain⟨x,s,e1,e2⟩:=h.1 e
   rw[e1,e]
   unfold TL.pre
   show ((32::x::(s++q)).take (S.length+1+1)==32::d::S)=false
   rw[List.take_succ_cons,List.take_succ_cons,beq_eq_false_iff_ne]
   intro z
   injection z with _ z
   injection z with z _
   exact e2 z
  ·exact TL.pre_of_head _ _ e
 |c::r,h,i+1,hi=>z9 q h.2 i (by simpa using hi)
theorem D6 {d:Nat} {S:List Nat}: ∀{parts:List (List Nat)},parts≠[]->(∀p∈parts,nbl d p)->TL.spl (32::d::S) 0 [] (TL.joinL (32::d::S) parts)=parts
 | [a],_,h=>by
  show TL.spl _ 0 [] a=[a]
  rw[TL.spl_last fun i hi=>by
   have:=z9 (S:=S) [] (h a List.mem_cons_self) i hi
   rwa[List.append_nil] at this]
  rfl
 |a::b::r,_,h=>by
  show TL.spl _ 0 [] (a++((32::d::S)++TL.joinL _ (b::r)))=_
  rw[TL.spl_part (by simp) (z9 _ (h a List.mem_cons_self)),D6 (by simp) fun p hp=>h p (List.mem_cons_of_mem _ hp)]
  rfl
theorem yu {y:Str} {d:Nat} {S:List Nat} (ey:TL.tl y=32::d::S) (hk:y.cps.all (· <256)=true) {parts:List Str} (hne:parts≠[]) (h: ∀p∈parts,nbl d (TL.tl p)):Txt.split (Txt.join y parts) y=parts:=by
 refine TL.map_tl_inj ?_
 rw[TL.split_spl _ _ (by rw[ey];simp) (TL.kind_ok hk),TL.join_eq,TL.tl_join,ey,D6 (by simpa using hne) fun p hp=>by
  obtain⟨x,hx,rfl⟩:=List.mem_map.mp hp
  exact h x hx]
def Wd (d:Nat) (l:List Nat):Prop:=(∃c r,l=c::r/\c≠d)/\nbl d l
theorem Wd.and {d:Nat} (hd:d≠97): ∀{parts:List (List Nat)},parts≠[]->(∀p∈parts,Wd d p)->Wd d (TL.joinL [32,97,110,100,32] parts)
 | [a],_,h=>h a List.mem_cons_self
 |a::b::r,_,h=>by
  obtain⟨⟨c,s,e,n⟩,z⟩:=h a List.mem_cons_self
  obtain⟨⟨c',s',e',n'⟩,z'⟩:=Wd.and hd (parts:=b::r) (by simp) fun p hp=>h p (List.mem_cons_of_mem _ hp)
  show Wd d (a++([32,97,110,100,32]++TL.joinL [32,97,110,100,32] (b::r)))
  refine⟨⟨c,_,by rw[e];rfl,n⟩,D5 z ⟨fun _=>⟨97,_,rfl,fun q=>hd q.symm⟩,fun q=>absurd q (by decide),fun q=>absurd q (by decide),fun q=>absurd q (by decide),fun _=>⟨c',s',e',n'⟩,z'⟩⟩
def noL:Nat->List Nat
 |0=>[]
 |k+1=>110::111::32::noL k
def noS (k:Nat):Str:=⟨(noL k).toArray⟩
theorem vi: ∀k,(noL k).length=3*k
 |0=>rfl
 |k+1=>by show (noL k).length+1+1+1=_;rw[vi k];omega
theorem Wd.no {d:Nat} (hd:d≠110) {l:List Nat} (h:Wd d l): ∀k,Wd d (noL k++l)
 |0=>h
 |k+1=>by
  obtain⟨⟨c,s,e,n⟩,z⟩:=Wd.no hd h k
  exact⟨⟨110,_,rfl,fun q=>hd q.symm⟩,fun q=>absurd q (by decide),fun q=>absurd q (by decide),fun _=>⟨c,s,e,n⟩,z⟩
theorem Mv: ∀{k:Nat},k<=5->T.dP ("no " :Str) (k:Int)=some (noS k)
 |0,_=>by unfold T.dP;rw[bU (by unfold MulOk;decide+kernel)];rfl
 |1,_=>by unfold T.dP;rw[bU (by unfold MulOk;decide+kernel)];rfl
 |2,_=>by unfold T.dP;rw[bU (by unfold MulOk;decide+kernel)];rfl
 |3,_=>by unfold T.dP;rw[bU (by unfold MulOk;decide+kernel)];rfl
 |4,_=>by unfold T.dP;rw[bU (by unfold MulOk;decide+kernel)];rfl
 |5,_=>by unfold T.dP;rw[bU (by unfold MulOk;decide+kernel)];rfl
 |k+6,h=>absurd h (by omega)
abbrev Tm:=T3 Int Str Int
structure tU (t:Tm):Prop where
 t0:0<=t.a
 t5:t.a<=5
 kind:t.b=("groups" :Str)\/t.b=("marks" :Str)\/t.b=("sizes" :Str)
 b0:0<=t.c
 b98:t.c<=98
def bsS (t:Tm):Str:=if t.b=("sizes" :Str) then ("sizes " :Str)++num t.c else t.b
def tmS (t:Tm):Str:=noS t.a.toNat++bsS t
theorem pU:TL.tl ("sizes " :Str)=[115,105,122,101,115,32]:=rfl
theorem HW {i:Int} (h:0<=i) (h2:i<=98): ∃c r,TL.tl (num i)=c::r/\48<=c/\c<58/\32∉TL.tl (num i)/\(TL.tl (num i)).length<=2:=by
 have l:(TL.tl (num i)).length<=2:=by
  rw[q7 h]
  exact TL.numL_len (by decide) (by omega)
 have f:32∉TL.tl (num i):=fun m=>by have:=z0 h 32 m;omega
 cases e:TL.tl (num i) with
 |nil=>rw[q7 h] at e;exact absurd e (TL.numL_ne _)
 |cons c r=>
  have:=z0 h c (by rw[e];exact List.mem_cons_self)
  rw[e] at f l
  exact⟨c,r,rfl,by omega,by omega,f,l⟩
theorem HX {t:Tm} (h:tU t) {d:Nat} (hd:d=97\/d=111):Wd d (TL.tl (bsS t))/\(TL.tl (bsS t)).length<=8/\ ∃c r,TL.tl (bsS t)=c::r/\c≠110:=by
 unfold bsS
 rcases h.kind with e|e|e
 ·rw[e,if_neg (by decide+kernel)]
  refine⟨⟨⟨103,_,rfl,by omega⟩,sS (by decide)⟩,by decide,103,_,rfl,by decide⟩
 ·rw[e,if_neg (by decide+kernel)]
  refine⟨⟨⟨109,_,rfl,by omega⟩,sS (by decide)⟩,by decide,109,_,rfl,by decide⟩
 ·rw[e,if_pos rfl,TL.tl_append,pU]
  obtain⟨c,r,e1,e2,e3,e4,e5⟩:=HW h.b0 h.b98
  refine⟨⟨⟨115,_,rfl,by omega⟩,?_⟩,by rw[List.length_append];show 6+_<=8;omega,115,_,rfl,by decide⟩
  exact⟨fun q=>absurd q (by decide),fun q=>absurd q (by decide),fun q=>absurd q (by decide),fun q=>absurd q (by decide),fun q=>absurd q (by decide),fun _=>⟨c,r,e1,by omega⟩,sS e4⟩
theorem tV (k:Nat):TL.tl (noS k)=noL k:=rfl
theorem HY {t:Tm} (h:tU t) {d:Nat} (hd:d=97\/d=111):Wd d (TL.tl (tmS t))/\(TL.tl (tmS t)).length<=23:=by
 obtain⟨h1,h2,_⟩:=HX h hd
 unfold tmS
 rw[TL.tl_append,tV]
 refine⟨Wd.no (by omega) h1 _,?_⟩
 rw[List.length_append,vi]
 have:=h.t5
 omega
theorem Oi {t:Tm} (h:tU t):eg t=some (tmS t):=by
 have k5:t.a.toNat<=5:=by have:=h.t5;omega
 have mu:T.dP ("no " :Str) t.a=some (noS t.a.toNat):=by
  have:=Mv k5
  rwa[Int.toNat_of_nonneg h.t0] at this
 have l0:(TL.tl (noS t.a.toNat)).length<=15:=by rw[tV,vi];omega
 obtain⟨_,_,_,_,_,_,nl⟩:=HW h.b0 h.b98
 unfold eg tmS bsS
 rw[aL,show T.un3 t=some (t.a,t.b,t.c) from rfl,Option.bind_some]
 simp only[aq,T.lJ,bc]
 rw[mu]
 by_cases e:t.b=("sizes" :Str)
 ·rw[decide_eq_true e,if_pos rfl,if_pos e,aL,show T.BK t.c=some (num t.c) from if_pos (E2 h.b0 (by have:=h.b98;omega)),aq,k8 (by rw[pU];show _+6<=_;omega),aq,k8 (by rw[TL.tl_append,List.length_append,pU];show _+6+_<=_;omega),yc]
  show some _=some _
  congr 1
  refine TL.ext_tl ?_
  simp only[TL.tl_append,List.append_assoc]
 ·have lb:(TL.tl t.b).length<=8:=by
   rcases h.kind with q|q|q
   ·rw[q];decide
   ·rw[q];decide
   ·exact absurd q e
  rw[decide_eq_false e,if_neg Bool.false_ne_true,if_neg e,Option.bind_some,fF,aq,k8 (by omega)];rfl
abbrev Alt:=List (List Tm)
def yv (a:Alt):Prop:=(1<=a.length/\a.length<=3)/\ ∀ts∈a,(1<=ts.length/\ts.length<=3)/\ ∀t∈ts,tU t
def q8 (ts:List Tm):Str:=Txt.join " and " (ts.map tmS)
def HZ (a:Alt):Str:=Txt.join " or " (a.map q8)
theorem Bx {S:List Nat} (B:Nat): ∀(ls:List (List Nat)),(∀l∈ls,l.length<=B)->(TL.joinL S ls).length<=ls.length*(B+S.length)
 | [],_=>by show 0<=_;omega
 | [a],h=>by
  have:=h a List.mem_cons_self
  show a.length<=1*(B+S.length);omega
 |a::b::r,h=>by
  have h1:=h a List.mem_cons_self
  have h2:=Bx (S:=S) B (b::r) fun l hl=>h l (List.mem_cons_of_mem _ hl)
  show (a++(S++TL.joinL S (b::r))).length<=(r.length+1+1)*(B+S.length)
  rw[List.length_append,List.length_append]
  rw[show (b::r).length=r.length+1 from rfl] at h2
  rw[Nat.add_mul (r.length+1) 1]
  omega
theorem H6 {B:Nat}: ∀(ws:List Str),(∀w∈ws,w.length<=B)->(ws.map (·.length)).sum<=ws.length*B
 | [],_=>by show 0<=_;omega
 |a::r,h=>by
  have h1:=h a List.mem_cons_self
  have h2:=H6 r fun w hw=>h w (List.mem_cons_of_mem _ hw)
  rw[List.map_cons,List.sum_cons,List.length_cons,Nat.add_mul]
  omega
theorem D7 {y:Str} {B n:Nat} {ws:List Str} (h: ∀w∈ws,w.length<=B) (hn:ws.length<=n) (hy:n*(B+y.length)<=16000):T.join y ws=some (Txt.join y ws)/\(Txt.join y ws).length<=n*(B+y.length):=by
 have m1:ws.length*(B+y.length)<=n*(B+y.length):=Nat.mul_le_mul_right _ hn
 constructor
 ·unfold T.join
  have:=H6 ws h
  rw[if_pos]
  rw[Nat.mul_add] at m1
  omega
 ·rw[ltl,TL.join_eq,TL.tl_join]
  have:=Bx (S:=TL.tl y) B (ws.map TL.tl) fun l hl=>by
   obtain⟨w,hw,rfl⟩:=List.mem_map.mp hl
   have:=h w hw
   rwa[ltl] at this
  rw[List.length_map,←ltl] at this
  omega
theorem Aa {ts:List Tm} (h1:1<=ts.length) (h3:ts.length<=3) (h: ∀t∈ts,tU t):Wd 111 (TL.tl (q8 ts))/\(q8 ts).length<=84/\T.join (" and " :Str) (ts.map tmS)=some (q8 ts)/\Txt.split (q8 ts) " and " =ts.map tmS:=by
 have ne:ts≠[]:=fun e=>by rw[e] at h1;exact absurd h1 (by decide)
 have b:=D7 (y:=(" and " :Str)) (B:=23) (n:=3) (ws:=ts.map tmS) (fun w hw=>by
  obtain⟨t,ht,rfl⟩:=List.mem_map.mp hw
  rw[ltl];exact (HY (h t ht) (.inl rfl)).2) (by rw[List.length_map];exact h3) (by decide)
 refine⟨?_,b.2,b.1,?_⟩
 ·unfold q8
  rw[TL.join_eq,TL.tl_join]
  refine Wd.and (by decide) (by simpa using ne) fun p hp=> ?_
  obtain⟨w,hw,rfl⟩:=List.mem_map.mp hp
  obtain⟨t,ht,rfl⟩:=List.mem_map.mp hw
  exact (HY (h t ht) (.inr rfl)).1
 ·exact yu (d:=97) (S:=[110,100,32]) rfl (by decide+kernel) (by simpa using ne) fun p hp=>by
   obtain⟨t,ht,rfl⟩:=List.mem_map.mp hp
   exact (HY (h t ht) (.inl rfl)).1.2
theorem Oj {a:Alt} (h:yv a):eh a=some (HZ a)/\(HZ a).length<=264/\Txt.split (HZ a) " or " =a.map q8:=by
 have:=big
 obtain⟨⟨h1,h3⟩,h⟩:=h
 have ne:a≠[]:=fun e=>by rw[e] at h1;exact absurd h1 (by decide)
 have b:=D7 (y:=(" or " :Str)) (B:=84) (n:=3) (ws:=a.map q8) (fun w hw=>by
  obtain⟨t,ht,rfl⟩:=List.mem_map.mp hw
  exact (Aa (h t ht).1.1 (h t ht).1.2 (h t ht).2).2.1) (by rw[List.length_map];exact h3) (by decide)
 refine⟨?_,b.2,?_⟩
 ·unfold eh
  rw[vc q8 (by omega) fun ts hts=>by
   rw[vc tmS (by have:=(h ts hts).1.2;omega) fun t ht=>by rw[aL,Oi ((h ts hts).2 t ht)],aq,(Aa (h ts hts).1.1 (h ts hts).1.2 (h ts hts).2).2.2.1],aq,b.1]
  rfl
 ·exact yu (d:=111) (S:=[114,32]) rfl (by decide+kernel) (by simpa using ne) fun p hp=>by
   obtain⟨t,ht,rfl⟩:=List.mem_map.mp hp
   exact (Aa (h t ht).1.1 (h t ht).1.2 (h t ht).2).1.2
abbrev bt:=T3 Str Int Str
def Ans (k:Nat) (r:Fv) (f:bt->bt->Bool):Prop:= ∀n,k<=n-> ∀x y,TC n r x y=some (f x y)
theorem Ans.le {k k':Nat} {r:Fv} {f:bt->bt->Bool} (h:Ans k r f) (l:k<=k'):Ans k' r f:=fun n hn=>h n (Nat.le_trans l hn)
theorem sT {F:FnT} {f:List D->Option FR} {r:List (FnT×(List D->Option FR))}:oM F ((F,f)::r)=some f:=by
 unfold oM;rw[if_pos rfl]
theorem jZ {F G:FnT} {f:List D->Option FR} {r:List (FnT×(List D->Option FR))} (h:F.qual≠G.qual):oM F ((G,f)::r)=oM F r:=by
 conv=>lhs;unfold oM
 rw[if_neg fun e=>h (by rw[e])]
theorem Mw (x y:bt):D.evs [en x,en y]=true:=rfl
theorem wO {n:Nat} {x y:bt} {gl:List (Str×(List D->Option FR))} {cl:List (FnT×(List D->Option FR))} {F:FnT} {d:D} {f:List D->Option FR} {b:Bool} (e:FC (n+1)=fcD gl cl) (hp:oM F cl=some f) (h:f [en x,en y,d]=some (.ok (.bl b) [])):TC (n+1) ⟨.clo F d⟩ x y=some b:=by
 refine G6 ?_
 show (FC (n+1)) (.clo F d::[en x,en y])=_
 rw[e]
 show (if D.evs [en x,en y]=true then (oM F cl).bind fun f=>(f ([en x,en y]++[d])).bind rT else none)=_
 rw[if_pos (Mw x y),hp,Option.bind_some]
 show (f [en x,en y,d]).bind rT=_
 rw[h];rfl
theorem D8 {n:Nat} {x y:bt} {gl:List (Str×(List D->Option FR))} {cl:List (FnT×(List D->Option FR))} {z:Str} {f:List D->Option FR} {b:Bool} (e:FC (n+1)=fcD gl cl) (hp:gl.lookup z=some f) (h:f [en x,en y]=some (.ok (.bl b) [])):TC (n+1) ⟨.glf z⟩ x y=some b:=by
 refine G6 ?_
 show (FC (n+1)) (.glf z::[en x,en y])=_
 rw[e]
 show (gl.lookup z).bind (fun f=>(f [en x,en y]).bind rT)=_
 rw[hp,Option.bind_some,h];rfl
def dst (x y:bt):Int:=if x.b -y.b<0 then -(x.b -y.b) else x.b -y.b
theorem Ol (x y:bt):wF x y=some (dst x y):=by
 unfold wF
 simp only[Option.map_some,aq,T.kU,aL]
 rfl
def J4 (x y:bt):Bool:=decide (x.a=("O" :Str))||(decide (y.a=("AB" :Str))||decide (x.a=y.a))
def E3 (x y:bt):Bool:=(TL.tl x.c).all fun c=> !decide (c∈TL.tl y.c)
def szB (k:Int) (x y:bt):Bool:=decide (dst x y<=k)
theorem J5 (x y:bt):mn x y=some (J4 x y):=by
 unfold mn J4
 simp only[Option.map_some,aq,T.lJ,rX]
 cases decide (x.a=("O" :Str)) <;> cases decide (y.a=("AB" :Str)) <;> rfl
theorem nA {A ρ:Type} {step:Unit->A->Option (TO Unit Unit ρ)} {p:A->Bool} {r:ρ}: ∀(l:List A),(∀c∈l,step () c=some (if p c=true then .nx () else .ret r))->fE step l ()=some (if l.all p=true then .fin () else .ret r)
 | [],_=>rfl
 |c::l,h=>by
  show (step () c).bind _=_
  rw[h c List.mem_cons_self]
  by_cases q:p c=true
  ·rw[if_pos q,List.all_cons,q,Bool.true_and]
   exact nA l fun c hc=>h c (List.mem_cons_of_mem _ hc)
  ·rw[if_neg q,List.all_cons,Bool.eq_false_iff.mpr q];rfl
theorem My (x y:bt):oG x y=some (E3 x y):=by
 unfold oG E3
 rw[Option.map_some,aL,T.ze,bf]
 show tF0 ((fE (jt y) ((TL.tl x.c).map fun c=>(⟨#[c]⟩:Str)) ()).bind _)=_
 rw[D4 (p:=fun c=> !decide (c∈TL.tl y.c)) (r:=⟨false⟩) (TL.tl x.c) fun c hc=>by
  unfold jt
  rw[Option.map_some,aq,show T.qp false ⟨#[c]⟩ y.c=some (decide (c∈TL.tl y.c)) from rfl,bc]
  cases decide (c∈TL.tl y.c) <;> rfl]
 cases (TL.tl x.c).all fun c=> !decide (c∈TL.tl y.c) <;> rfl
theorem Ab {A:Type} {p q:A->Bool}: ∀{l:List A},(∀a∈l,p a=q a)->l.all p=l.all q
 | [],_=>rfl
 |a::l,h=>by
  rw[List.all_cons,List.all_cons,h a List.mem_cons_self,Ab fun b hb=>h b (List.mem_cons_of_mem _ hb)]
theorem CG:Ans 1 ⟨.glf "by_groups"⟩ J4:=fun n hn x y=>by
 obtain⟨m,rfl⟩:=Nat.exists_eq_add_of_le' hn
 exact D8 rfl rfl (Br x y _ (J5 x y))
theorem E4:Ans 1 ⟨.glf "by_marks"⟩ E3:=fun n hn x y=>by
 obtain⟨m,rfl⟩:=Nat.exists_eq_add_of_le' hn
 exact D8 rfl rfl (Cu x y _ (My x y))
theorem E5 (k:Int):Ans 1 ⟨.clo bM (en k)⟩ (szB k):=fun n hn x y=>by
 obtain⟨m,rfl⟩:=Nat.exists_eq_add_of_le' hn
 refine wO (f:=gz (FC m)) rfl sT (uL (HC m) x y k _ ?_)
 unfold kL szB
 rw[aq,Ol,aq,T.B1];rfl
theorem J6 {k:Nat} {r:Fv} {f:bt->bt->Bool} (h:Ans k r f):Ans (k+1) ⟨.clo bN (en r)⟩ (fun x y=> !f x y):=fun n hn x y=>by
 obtain⟨m,rfl⟩:=Nat.exists_eq_add_of_le' (Nat.le_trans (Nat.le_add_left 1 k) hn)
 refine wO (f:=gA (FC m)) rfl ((jZ (by decide+kernel)).trans sT) (uN (HC m) x y r _ ?_)
 unfold kM
 rw[kS,h m (by omega) x y];rfl
theorem J7 {A:Type} {k:Nat} {g:A->Fv} {f:A->bt->bt->Bool} {ts:List A} (h: ∀t∈ts,Ans k (g t) (f t)):Ans (k+1) ⟨.clo bV (en (ts.map g))⟩ (fun x y=>ts.all fun t=>f t x y):=fun n hn x y=>by
 obtain⟨m,rfl⟩:=Nat.exists_eq_add_of_le' (Nat.le_trans (Nat.le_add_left 1 k) hn)
 refine wO (f:=hE (FC m)) rfl ((jZ (by decide+kernel)).trans ((jZ (by decide+kernel)).trans sT)) (wH (HC m) x y (ts.map g) _ ?_)
 unfold lT
 rw[bf,nA (p:=fun r=>((TC m r x y).getD false)) (r:=⟨false⟩) (ts.map g) fun c hc=>by
  obtain⟨t,ht,rfl⟩:=List.mem_map.mp hc
  unfold gJ
  rw[kS,h t ht m (by omega) x y]
  show gZ (some (!f t x y)) _ _ _=_
  rw[bc,Option.getD_some]
  cases f t x y <;> rfl]
 have e:(ts.map g).all (fun r=>(TC m r x y).getD false)=ts.all fun t=>f t x y:=by
  rw[List.all_map]
  refine Ab fun t ht=> ?_
  show (TC m (g t) x y).getD false=_
  rw[h t ht m (by omega) x y];rfl
 rw[e]
 show _=some (ts.all fun t=>f t x y)
 cases ts.all fun t=>f t x y <;> rfl
theorem J8 {A:Type} {k:Nat} {g:A->Fv} {f:A->bt->bt->Bool} {ts:List A} (h: ∀t∈ts,Ans k (g t) (f t)):Ans (k+1) ⟨.clo bO (en (ts.map g))⟩ (fun x y=>ts.any fun t=>f t x y):=fun n hn x y=>by
 obtain⟨m,rfl⟩:=Nat.exists_eq_add_of_le' (Nat.le_trans (Nat.le_add_left 1 k) hn)
 refine wO (f:=gE (FC m)) rfl ((jZ (by decide+kernel)).trans ((jZ (by decide+kernel)).trans ((jZ (by decide+kernel)).trans sT))) (uO (HC m) x y (ts.map g) _ ?_)
 unfold kN
 rw[bf,nA (p:=fun r=> !((TC m r x y).getD false)) (r:=⟨true⟩) (ts.map g) fun c hc=>by
  obtain⟨t,ht,rfl⟩:=List.mem_map.mp hc
  unfold fH
  rw[kS,h t ht m (by omega) x y]
  rw[bc,Option.getD_some]
  cases f t x y <;> rfl]
 have e:(ts.map g).all (fun r=> !(TC m r x y).getD false)= !ts.any fun t=>f t x y:=by
  rw[List.all_map,List.not_any_eq_all_not]
  refine Ab fun t ht=> ?_
  show (!(TC m (g t) x y).getD false)=_
  rw[h t ht m (by omega) x y];rfl
 rw[e]
 show _=some (ts.any fun t=>f t x y)
 cases ts.any fun t=>f t x y <;> rfl
def bR (t:Tm):Fv:=if t.b=("groups" :Str) then ⟨.glf "by_groups"⟩ else if t.b=("marks" :Str) then ⟨.glf "by_marks"⟩ else ⟨.clo bM (en t.c)⟩
def bB (t:Tm):bt->bt->Bool:=if t.b=("groups" :Str) then J4 else if t.b=("marks" :Str) then E3 else szB t.c
def tR (t:Tm):Fv:=if t.a%2=1 then ⟨.clo bN (en (bR t))⟩ else bR t
def tB (t:Tm) (x y:bt):Bool:=if t.a%2=1 then !bB t x y else bB t x y
def aR (ts:List Tm):Fv:=⟨.clo bV (en (ts.map tR))⟩
def oR (a:Alt):Fv:=⟨.clo bO (en (a.map aR))⟩
def oB (a:Alt) (x y:bt):Bool:=a.any fun ts=>ts.all fun t=>tB t x y
theorem KP (t:Tm):Ans 1 (bR t) (bB t):=by
 unfold bR bB
 by_cases e:t.b=("groups" :Str)
 ·rw[if_pos e,if_pos e];exact CG
 ·rw[if_neg e,if_neg e]
  by_cases e:t.b=("marks" :Str)
  ·rw[if_pos e,if_pos e];exact E4
  ·rw[if_neg e,if_neg e];exact E5 t.c
theorem Om (t:Tm):Ans 2 (tR t) (tB t):=by
 unfold tR
 rw[show tB t=fun x y=>if t.a%2=1 then !bB t x y else bB t x y from rfl]
 by_cases e:t.a%2=1
 ·simp only[if_pos e];exact J6 (KP t)
 ·simp only[if_neg e];exact (KP t).le (by decide)
theorem Oo (a:Alt):Ans 4 (oR a) (oB a):=J8 fun ts _=>J7 fun t _=>Om t
theorem Qb {i:Int} (h:0<=i) (h2:i<=98):iJ (num i)=some i:=by
 have:=big
 obtain⟨w,d⟩:=J3 h (show i<=1000001 by omega)
 obtain⟨h1,h2⟩:=Bool.and_eq_true_iff.mp w
 obtain⟨h3,h4⟩:=Bool.and_eq_true_iff.mp h2
 have l:=of_decide_eq_true (Bool.and_eq_true_iff.mp h3).2
 unfold iJ
 rw[aL,Qa (by omega),chI,aq]
 change tF0 (gZ (orB (lX (some (CF (num i) 12))) _) _ _ _)=_
 have cond:orB (lX (some (CF (num i) 12))) (lD (T.gtI ((num i).length:Int) 1) (b2 T.eqA (b2 T.atS (some (num i)) (some (0:Int))) (some ("0" :Str))))=some false:=by
  obtain⟨c,r,e⟩:=headOf h3
  rw[h3,mN,rX,Bool.not_true,if_neg Bool.false_ne_true,T.G8,jI,aq,at0 (by omega) e,aq,T.lJ,c0]
  rw[e] at h4
  have h4:(!(decide (c=48)&& !decide (r=[])))=true:=h4
  rw[Bool.not_eq_true'] at h4
  have:decide ((1:Int)<((num i).length:Int))= !decide (r=[]):=by
   rw[ltl,e]
   cases r with
   |nil=>rfl
   |cons a r=>rw[decide_eq_true (by simp only[List.length_cons];omega)];rfl
  rw[this]
  cases q:decide (r=[]) with
  |true=>rfl
  |false=>
   rw[q] at h4
   rw[Bool.not_false,Bool.and_true] at h4
   rw[h4];rfl
 rw[cond,bc,if_neg Bool.false_ne_true,Option.bind_some,fF,aL,T.ze,bf]
 change tF0 ((fE (cU (num i)) ((TL.tl (num i)).map fun c=>(⟨#[c]⟩:Str)) ()).bind _)=_
 have lp: ∀l:List Nat,l.all dig=true->fE (cU (num i)) (l.map fun c=>(⟨#[c]⟩:Str)) ()=some (.fin ()):=fun l=>by
  induction l with
  |nil=>intro _;rfl
  |cons c l ih=>
   intro q
   obtain⟨q1,q2⟩:=Bool.and_eq_true_iff.mp (List.all_cons▸q)
   show (cU (num i) () ⟨#[c]⟩).bind _=_
   rw[show cU (num i) () ⟨#[c]⟩=some (.nx ()) by
    unfold cU
    rw[aq,Og,q1,bc];rfl]
   exact ih q2
 rw[lp _ h1,Option.bind_some,pB,aL,intD h1 h3,d];rfl
theorem CH {i:Int} (h:0<=i):Txt.partition (("sizes " :Str)++num i) " " =(("sizes" :Str),(" " :Str),num i):=by
 have:=TL.partition_app (y:=(" " :Str)) (s:=32) (S:=[]) rfl (a:=("sizes" :Str)) (b:=num i) (by decide)
 rw[show ("sizes" :Str)++(" " :Str)=("sizes " :Str) from by decide+kernel] at this
 exact this
theorem Oq {t:Tm} (h:tU t):iK (bsS t)=some (bR t):=by
 have:=big
 obtain⟨_,lb,_⟩:=HX h (.inl rfl)
 unfold iK
 simp only[aq,T.lJ,bc]
 rcases h.kind with e|e|e
 ·have:bsS t=("groups" :Str):=by unfold bsS;rw[e,if_neg (by decide+kernel)]
  rw[this,decide_eq_true rfl,if_pos rfl]
  unfold bR
  rw[if_pos e];rfl
 ·have:bsS t=("marks" :Str):=by unfold bsS;rw[e,if_neg (by decide+kernel)]
  rw[this,decide_eq_false (by decide+kernel),if_neg Bool.false_ne_true,Option.bind_some,fF,decide_eq_true rfl,if_pos rfl]
  unfold bR
  rw[if_neg (by rw[e];decide+kernel),if_pos e];rfl
 ·have eb:bsS t=("sizes " :Str)++num t.c:=by unfold bsS;rw[if_pos e]
  have n1:bsS t≠("groups" :Str):=fun q=>by
   have:=congrArg TL.tl (eb.symm.trans q)
   rw[TL.tl_append,pU] at this
   have:=congrArg (fun l=>l[0]?) this
   simp at this
   exact absurd this (by decide)
  have n2:bsS t≠("marks" :Str):=fun q=>by
   have:=congrArg TL.tl (eb.symm.trans q)
   rw[TL.tl_append,pU] at this
   have:=congrArg (fun l=>l[0]?) this
   simp at this
   exact absurd this (by decide)
  rw[decide_eq_false n1,if_neg Bool.false_ne_true,Option.bind_some,fF,decide_eq_false n2,if_neg Bool.false_ne_true,Option.bind_some,fF]
  have pt:T.part (bsS t) (" " :Str)=some ⟨("sizes" :Str),(" " :Str),num t.c⟩:=by
   unfold T.part
   rw[if_pos ⟨by decide+kernel,by rw[ltl];omega⟩,eb,CH h.b0]
  rw[pt,aL,show T.un3 (⟨("sizes" :Str),(" " :Str),num t.c⟩:T3 Str Str Str)=some (("sizes" :Str),(" " :Str),num t.c) from rfl,Option.bind_some,aL,Qb h.b0 h.b98]
  simp only[T.G9,T.G8,aq,aL]
  rw[decide_true,rX,Bool.not_true,if_neg Bool.false_ne_true,decide_eq_false (by have:=h.b98;omega),bc,if_neg Bool.false_ne_true,Option.bind_some,fF]
  unfold bR
  rw[if_neg (by rw[e];decide+kernel),if_neg (by rw[e];decide+kernel)];rfl
theorem starts_pre (x y:Str):Txt.startswith x y=TL.pre (TL.tl y) (TL.tl x):=by
 unfold Txt.startswith TL.pre
 rw[PySem.StrLaws.subAt_eq,List.drop_zero,ltl,ltl]
 show (decide (0+(TL.tl y).length<=(TL.tl x).length)&&((TL.tl x).take (TL.tl y).length==TL.tl y))=_
 by_cases h:(TL.tl y).length<=(TL.tl x).length
 ·rw[decide_eq_true (by omega),Bool.true_and]
 ·rw[decide_eq_false (by omega),Bool.false_and]
  symm
  rw[beq_eq_false_iff_ne]
  intro q
  have:=congrArg List.length q
  rw[List.length_take] at this
  omega
theorem yw {b:Str} (h: ∃c r,TL.tl b=c::r/\c≠110): ∀k,Txt.startswith (noS k++b) "no " =decide (0<k)
 |0=>by
  obtain⟨c,r,e,n⟩:=h
  rw[starts_pre,TL.tl_append,tV]
  show TL.pre [110,111,32] ([]++TL.tl b)=false
  rw[List.nil_append,e]
  exact TL.pre_of_head _ _ n
 |k+1=>by
  rw[starts_pre,TL.tl_append,tV]
  rfl
theorem Mz (b:Str) (k:Nat) (l:(noS (k+1)++b).length<=2000):T.cutS (noS (k+1)++b) (some 3) none=some (noS k++b):=by
 have:=big
 have e:TL.tl (noS (k+1)++b)=110::111::32::(noL k++TL.tl b):=by rw[TL.tl_append,tV];rfl
 have le:(noS (k+1)++b).length=(noL k++TL.tl b).length+3:=by rw[ltl,e];rfl
 have i1:HT.sIx (noS (k+1)++b).length 0 (some ((3:Nat):Int))=min 3 (noS (k+1)++b).length:=HT.sIx_nat _ _ _
 unfold T.cutS
 rw[if_pos (by omega)]
 congr 1
 refine TL.ext_tl ?_
 show (((noS (k+1)++b).cps.toList.drop (HT.sIx (noS (k+1)++b).length 0 (some ((3:Nat):Int)))).take ((noS (k+1)++b).length -HT.sIx (noS (k+1)++b).length 0 (some ((3:Nat):Int))))=_
 rw[i1,show (noS (k+1)++b).cps.toList=110::111::32::(noL k++TL.tl b) from e,le,show min 3 ((noL k++TL.tl b).length+3)=3 by omega]
 show (noL k++TL.tl b).take ((noL k++TL.tl b).length+3 -3)=_
 rw[Nat.add_sub_cancel,List.take_length,TL.tl_append];rfl
theorem H7 {t:Tm} (h:tU t):cR (tmS t)=some (tR t):=by
 have:=big
 have k5:t.a.toNat<=5:=by have:=h.t5;omega
 obtain⟨_,lb,hb⟩:=HX h (.inl rfl)
 unfold cR
 rw[Option.bind_some]
 have L:=Jw (tst:=fun y2:Str×Int=>lD (b2 T.ltI (some y2.2) (some (5:Int))) (b2 T.starts (some y2.1) (some ("no " :Str)))) (step:=gh) (fun y=> ∃i:Nat,i<=t.a.toNat/\y=(noS (t.a.toNat -i)++bsS t,(i:Int))) (fun y=>t.a.toNat -y.2.toNat) (fun y ⟨i,hi,ey⟩=>by
  subst ey
  have ts:lD (b2 T.ltI (some (i:Int)) (some (5:Int))) (b2 T.starts (some (noS (t.a.toNat -i)++bsS t)) (some ("no " :Str)))=some (decide (i<t.a.toNat)):=by
   rw[aq,T.G7,aq,show T.starts (noS (t.a.toNat -i)++bsS t) "no " =some (Txt.startswith (noS (t.a.toNat -i)++bsS t) "no ") from rfl,yw hb,jI]
   by_cases z:i<t.a.toNat
   ·rw[decide_eq_true (show ((i:Nat):Int)<5 by omega),if_pos rfl,decide_eq_true z,decide_eq_true (by omega)]
   ·rw[decide_eq_false z,decide_eq_false (show ¬0<t.a.toNat -i by omega)]
    cases decide (((i:Nat):Int)<5) <;> rfl
  by_cases z:i<t.a.toNat
  ·refine .inr ⟨by rw[decide_eq_true z] at ts;exact ts,(noS (t.a.toNat -(i+1))++bsS t,((i+1:Nat):Int)),.inl ?_,⟨i+1,z,rfl⟩,?_⟩
   ·unfold gh
    obtain⟨j,hj⟩: ∃j,t.a.toNat -i=j+1:=⟨t.a.toNat -i -1,by omega⟩
    show ((yU T.cutS (some (noS (t.a.toNat -i)++bsS t)) (b1 T.toI (some (3:Int))) (some none)).bind _)=_
    rw[aL,T.vS,mQ,hj,Mz _ _ (by rw[ltl,TL.tl_append,List.length_append,tV,vi];omega),Option.bind_some,aq,T.cu,Option.bind_some,show t.a.toNat -(i+1)=j by omega]
    rfl
   ·show t.a.toNat -(((i+1:Nat):Int)).toNat<t.a.toNat -((i:Nat):Int).toNat
    omega
  ·exact .inl (by rw[decide_eq_false z] at ts;exact ts)) (b0:=(tmS t,(0:Int))) ⟨0,Nat.zero_le _,by unfold tmS;rfl⟩
 obtain⟨y,e1,⟨i,hi,rfl⟩,e2⟩:=L
 rw[GR e1]
 have ti:i=t.a.toNat:=by
  have e2:lD (b2 T.ltI (some (i:Int)) (some (5:Int))) (b2 T.starts (some (noS (t.a.toNat -i)++bsS t)) (some ("no " :Str)))=some false:=e2
  rw[aq,T.G7,aq,show T.starts (noS (t.a.toNat -i)++bsS t) "no " =some (Txt.startswith (noS (t.a.toNat -i)++bsS t) "no ") from rfl,yw hb,jI] at e2
  by_cases z:i<t.a.toNat
  ·rw[decide_eq_true (show ((i:Nat):Int)<5 by omega),if_pos rfl,decide_eq_true (by omega)] at e2
   cases e2
  ·omega
 have e0:noS (t.a.toNat -i)++bsS t=bsS t:=by
  rw[ti,Nat.sub_self]
  refine TL.ext_tl ?_
  rw[TL.tl_append];rfl
 have ei:((i:Nat):Int)=t.a:=by rw[ti,Int.toNat_of_nonneg h.t0]
 show tF0 (gZ (b2 T.eqA (b2 T.bw (some ((i:Nat):Int)) (some (2:Int))) (some (1:Int))) (cq (b1 q6 (b1 iK (some (noS (t.a.toNat -i)++bsS t)))) fun r=>⟨r⟩) (some (.nx ())) fun _=>cq (b1 iK (some (noS (t.a.toNat -i)++bsS t))) fun r=>(⟨r⟩:R0 Fv))=_
 rw[e0,ei,aL,Oq h,aq,T.bp (by decide),aq,T.lJ,bc]
 unfold tR
 by_cases q:t.a%2=1
 ·rw[decide_eq_true q,if_pos rfl,if_pos q];rfl
 ·rw[decide_eq_false q,if_neg Bool.false_ne_true,if_neg q];rfl
theorem Ot {a:Alt} (h:yv a):nv (HZ a)=some (oR a):=by
 have:=big
 obtain⟨_,hl,hs⟩:=Oj h
 obtain⟨⟨h1,h3⟩,h⟩:=h
 unfold nv
 rw[Option.bind_some,aq]
 have sp:T.split (HZ a) (" or " :Str)=some (a.map q8):=by
  unfold T.split
  rw[if_pos ⟨by decide+kernel,by omega⟩,hs]
 rw[sp,bf]
 have lp: ∀(l:List (List Tm)) (acc:List Fv),(∀ts∈l,ts∈a)->acc.length+l.length<=100->fE eP (l.map q8) acc=some (.fin (acc++l.map aR)):=fun l=>by
  induction l with
  |nil=>intro acc _ _;rw[List.map_nil,List.map_nil,List.append_nil];rfl
  |cons ts l ih=>
   intro acc hm hn
   rw[List.length_cons] at hn
   obtain⟨⟨t1,t3⟩,ht⟩:=h ts (hm ts List.mem_cons_self)
   obtain⟨_,al,_,as⟩:=Aa t1 t3 ht
   show (eP acc (q8 ts)).bind _=_
   have st:eP acc (q8 ts)=some (.nx (acc++[aR ts])):=by
    unfold eP
    rw[aq,show T.split (q8 ts) (" and " :Str)=some (ts.map tmS) by
     unfold T.split
     rw[if_pos ⟨by decide+kernel,by omega⟩,as]]
    have lc:tlc (some (ts.map tmS)) (fun c6:Str=>some true) (fun c6:Str=>b1 cR (some c6))=some (ts.map tR):=by
     have e:=vc (xs:=ts.map tmS) (re:=fun c6:Str=>b1 cR (some c6)) (fun w=>(cR w).getD ⟨.non⟩) (by rw[List.length_map];omega) fun w hw=>by
      obtain⟨t,hq,rfl⟩:=List.mem_map.mp hw
      rw[aL,H7 (ht t hq)];rfl
     rw[e,List.map_map]
     congr 1
     refine List.map_congr_left fun t hw=> ?_
     show (cR (tmS t)).getD _=_
     rw[H7 (ht t hw)];rfl
    rw[lc,aL,show tM (ts.map tR)=some (aR ts) from rfl,T.DL,T.zf (by omega),Option.bind_some]
   rw[st]
   show fE eP (l.map q8) (acc++[aR ts])=_
   rw[ih _ (fun ts hts=>hm ts (List.mem_cons_of_mem _ hts)) (by rw[List.length_append,List.length_singleton];omega),List.append_assoc]
   rfl
 rw[lp a [] (fun _ h=>h) (by simp;omega)]
 rfl
theorem CI (a:Int) {b:Int} (h:0<b):0<=a%b/\a%b<b:=⟨Int.emod_nonneg a (by omega),Int.emod_lt_of_pos a h⟩
theorem MA {n:Int} (h:0<=n): ∃t,eQ n=some t/\tU t:=by
 obtain⟨a0,a1⟩:=CI (n/6) (show (0:Int)<3 by decide)
 obtain⟨b0,b1⟩:=CI (n/1782) (show (0:Int)<2 by decide)
 obtain⟨c0,c1⟩:=CI n (show (0:Int)<6 by decide)
 obtain⟨d0,d1⟩:=CI (n/18) (show (0:Int)<99 by decide)
 obtain⟨e0,e1⟩:=CI (n/18) (show (0:Int)<30 by decide)
 unfold eQ
 simp only[T.nX,T.Hb,aq,T.gv (b:=6) (by decide) (by decide),T.gv (b:=18) (by decide) (by decide),T.gv (b:=1782) (by decide) (by decide),T.bp (b:=3) (by decide),T.bp (b:=99) (by decide),T.bp (b:=30) (by decide),T.bp (b:=2) (by decide),T.bp (b:=6) (by decide),T.Ha]
 rw[T.p8 a0 (by show n/6%3<3;omega),Option.bind_some,T.p8 b0 (by show n/1782%2<2;omega),Option.bind_some,kS]
 have m1:[("groups" :Str),"marks","sizes"][(n/6%3).toNat]'(by simp;omega)∈[("groups" :Str),"marks","sizes"]:=List.getElem_mem _
 have m2:[n/18%99,n/18%30][(n/1782%2).toNat]'(by simp;omega)∈[n/18%99,n/18%30]:=List.getElem_mem _
 simp only[List.mem_cons,List.not_mem_nil,or_false] at m1 m2
 refine⟨_,rfl,c0,by show n%6<=5;omega,m1,?_,?_⟩
 ·show 0<=[n/18%99,n/18%30][(n/1782%2).toNat]'_
  rcases m2 with e|e <;> (rw[e];omega)
 ·show [n/18%99,n/18%30][(n/1782%2).toNat]'_<=98
  rcases m2 with e|e <;> (rw[e];omega)
theorem Ou (c:Int): ∃a,cM c=some a/\yv a:=by
 have:=big
 obtain⟨a0,a1⟩:=CI (o5 c 60) (show (0:Int)<3 by decide)
 unfold cM
 rw[Option.bind_some,aq (f:=bE),oH c 60 (by decide) (by decide),aq,T.bp (by decide),aq,T.cu,Option.bind_some,aL,T.u9 (by omega) (by omega),bf]
 generalize o5 c 60%3=q at a0 a1
 obtain⟨a,e,h1,h2⟩:=AR (step:=bZ c (1+q)) (fun i (y:Alt)=>y.length=i/\ ∀ts∈y,(1<=ts.length/\ts.length<=3)/\ ∀t∈ts,tU t) (n:=(1+q).toNat) (b0:=[]) ⟨rfl,fun _ h=>nomatch h⟩ fun i hi y ⟨y1,y2⟩=>by
  have lk:T.atL [(3:Int),3,2] (1+q -1)=some (if q=2 then 2 else 3):=by
   have:q=0\/q=1\/q=2:=by omega
   rcases this with e|e|e <;> (subst e;rfl)
  have w2:(0:Int)<(if q=2 then 2 else 3):=by split <;> decide
  have w3:(if q=2 then (2:Int) else 3)<=3:=by split <;> decide
  obtain⟨r0,r1⟩:=CI (o5 c (61+(i:Int))) w2
  have tt: ∀j:Int,0<=j->j<3-> ∃t,b1 eQ (b2 bE (some c) (b2 T.bT (b2 T.bT (some (70:Int)) (b2 T.j8 (some (3:Int)) (some (i:Int)))) (some j)))=some t/\tU t:=fun j j0 j1=>by
   rw[aq (f:=T.j8),T.ph (a:=3) (by decide) (by decide),aq,T.cu,aq,T.cu,aq,oH _ _ (by omega) (by omega),aL]
   exact MA (uw _ _)
  have tt': ∀j:Int,∃t:Tm,0<=j->j<3->b1 eQ (b2 bE (some c) (b2 T.bT (b2 T.bT (some (70:Int)) (b2 T.j8 (some (3:Int)) (some (i:Int)))) (some j)))=some t/\tU t:=fun j=>by
   by_cases z:0<=j/\j<3
   ·obtain⟨t,h⟩:=tt j z.1 z.2;exact⟨t,fun _ _=>h⟩
   ·exact⟨⟨0,"",0⟩,fun a b=>absurd ⟨a,b⟩ z⟩
  obtain⟨g,hg⟩:=Classical.axiomOfChoice tt'
  generalize hm:o5 c (61+(i:Int))%(if q=2 then 2 else 3)=m at r0 r1
  refine⟨y++[((List.range (1+m).toNat).map fun j:Nat=>(j:Int)).map g],.inl ?_,by rw[List.length_append,y1];rfl,fun ts hts=> ?_⟩
  ·unfold bZ
   simp only[T.nX,T.Hb,aq,T.kU,lk]
   rw[T.cu,aq,oH _ _ (by omega) (by omega),aq,T.bp w2,hm,aq,T.cu,Option.bind_some,aL,T.u9 (by omega) (by omega)]
   have lc:=vc (xs:=(List.range (1+m).toNat).map fun j:Nat=>(j:Int)) (re:=fun c7:Int=>b1 eQ (b2 bE (some c) (b2 T.bT (b2 T.bT (some (70:Int)) (b2 T.j8 (some (3:Int)) (some (i:Int)))) (some c7)))) g (by simp;omega) fun j hj=>by
    obtain⟨k,hk,rfl⟩:=List.mem_map.mp hj
    have:=List.mem_range.mp hk
    exact (hg k (by omega) (by omega)).1
   simp only[aq] at lc
   rw[lc,T.DL,T.zf (by omega),Option.bind_some]
  ·rcases List.mem_append.mp hts with z|z
   ·exact y2 ts z
   ·rw[List.mem_singleton.mp z]
    refine⟨⟨by simp;omega,by simp;omega⟩,fun t ht=> ?_⟩
    obtain⟨j,hj,rfl⟩:=List.mem_map.mp ht
    obtain⟨k,hk,rfl⟩:=List.mem_map.mp hj
    have:=List.mem_range.mp hk
    exact (hg k (by omega) (by omega)).2
 rw[e]
 exact⟨a,rfl,⟨by omega,by omega⟩,h2⟩
theorem yx {x:bt} (h:jQ x):x.a=("O" :Str)\/x.a=("A" :Str)\/x.a=("B" :Str)\/x.a=("AB" :Str):=by
 have:=h.grp
 simpa only[List.mem_cons,List.not_mem_nil,or_false] using this
theorem MB {a b:Str} (ha:a=("O" :Str)\/a=("A" :Str)\/a=("B" :Str)\/a=("AB" :Str)) (hb:b=("O" :Str)\/b=("A" :Str)\/b=("B" :Str)\/b=("AB" :Str)):
  decide (a++(" " :Str)++b∈[("O O" :Str),"O A","O B","O AB","A A","A AB","B B","B AB","AB AB"])=(decide (a=("O" :Str))||(decide (b=("AB" :Str))||decide (a=b))):=by
 rcases ha with rfl|rfl|rfl|rfl <;> rcases hb with rfl|rfl|rfl|rfl <;> decide+kernel
theorem MC: ∀(l:List Nat),(∀c∈l,97<=c/\c<123)->So.ok (l.map fun c=>(⟨#[c]⟩:Str))=true:=fun l h=>by
 show (l.map fun c=>(⟨#[c]⟩:Str)).all PySem.PyData.strOk=true
 rw[List.all_map]
 refine List.all_eq_true.mpr fun c hc=> ?_
 exact CD (x:=⟨#[c]⟩) fun d hd=>by
  have:d=c:=by simpa using (show d∈[c] from hd)
  rw[this];exact h c hc
theorem plainT {t:Tm} (ht:tU t) {x y:bt} (hx:jQ x) (hy:jQ y):gL t.b t.c x y=some (bB t x y):=by
 have:=big
 unfold gL bB
 simp only[Option.map_some,aq,T.lJ,bc]
 by_cases e:t.b=("groups" :Str)
 ·rw[decide_eq_true e,if_pos rfl,if_pos e]
  simp only[T.nX]
  rw[T.vR (by simp;omega),Option.bind_some]
  have gx:=DZ hx.w
  have gy:=DZ hy.w
  rw[k8 (by rw[KO];show _+1<=_;omega),aq,k8 (by rw[TL.tl_append,List.length_append,KO];show _+1+_<=_;omega),aq,T.NU,MB (yx hx) (yx hy)]
  rfl
 ·rw[decide_eq_false e,if_neg Bool.false_ne_true,if_neg e,Option.bind_some,fF]
  by_cases e2:t.b=("marks" :Str)
  ·rw[decide_eq_true e2,if_pos rfl,if_pos e2,aL,T.ze]
   have sg:T.sgs x.c=(TL.tl x.c).map fun c=>(⟨#[c]⟩:Str):=rfl
   have l:=hx.len
   rw[sg,Sw.B5 (fun c:Str=>decide (c∈(TL.tl y.c).map fun c=>(⟨#[c]⟩:Str))) (by rw[List.length_map];omega) (fun c hc=>by
    obtain⟨d,hd,rfl⟩:=List.mem_map.mp hc
    show some (decide (d∈TL.tl y.c))=_
    congr 1
    rw[decide_eq_decide,List.mem_map]
    constructor
    ·intro h;exact⟨d,h,rfl⟩
    ·rintro⟨e,he,q⟩
     have:[e]=[d]:=congrArg TL.tl q
     injection this with q _
     rw[<-q];exact he),aq]
   have fl:(((TL.tl x.c).map fun c=>(⟨#[c]⟩:Str)).filter fun c=>decide (c∈(TL.tl y.c).map fun c=>(⟨#[c]⟩:Str)))=((TL.tl x.c).filter fun c=>decide (c∈TL.tl y.c)).map fun c=>(⟨#[c]⟩:Str):=by
    rw[List.filter_map]
    congr 1
    refine List.filter_congr fun d _=> ?_
    show decide _=decide _
    rw[decide_eq_decide,List.mem_map]
    constructor
    ·rintro⟨e,he,q⟩
     have:[e]=[d]:=congrArg TL.tl q
     injection this with q _
     rw[<-q];exact he
    ·intro h;exact⟨d,h,rfl⟩
   rw[fl,T.Hf (MC _ fun c hc=>hx.low c (List.mem_filter.mp hc).1) rfl]
   show some (@decide _ (So.dec _ _))=some (E3 x y)
   congr 1
   unfold E3
   cases q:(TL.tl x.c).all fun c=> !decide (c∈TL.tl y.c) with
   |true=>
    refine @decide_eq_true _ (So.dec _ _) ?_
    rw[List.map_eq_nil_iff,List.filter_eq_nil_iff]
    intro c hc
    have:=List.all_eq_true.mp q c hc
    simpa using this
   |false=>
    refine @decide_eq_false _ (So.dec _ _) fun z=> ?_
    rw[List.map_eq_nil_iff,List.filter_eq_nil_iff] at z
    rw[List.all_eq_true.mpr fun c hc=>by have:=z c hc;simpa using this] at q
    cases q
  ·rw[decide_eq_false e2,if_neg Bool.false_ne_true,if_neg e2,Option.bind_some,fF]
   simp only[T.kU,aq,T.B1,jI]
   have:(if decide (x.b -y.b<=t.c)=true then some (decide (y.b -x.b<=t.c)) else some false)=some (szB t.c x y):=by
    unfold szB dst
    by_cases a:x.b -y.b<0
    ·rw[if_pos a]
     by_cases b:x.b -y.b<=t.c
     ·rw[decide_eq_true b,if_pos rfl]
      congr 1
      rw[decide_eq_decide];omega
     ·have:=ht.b0
      omega
    ·rw[if_neg a]
     by_cases b:x.b -y.b<=t.c
     ·rw[decide_eq_true b,if_pos rfl,decide_eq_true (by omega)]
     ·rw[decide_eq_false b,if_neg Bool.false_ne_true]
   rw[this];rfl
theorem H8 {a:Alt} (h:yv a) {x y:bt} (hx:jQ x) (hy:jQ y):dB a x y=some (oB a x y):=by
 unfold dB oB
 have inn: ∀(ts:List Tm) (g:Bool),(∀t∈ts,tU t)->fE (dH x y) (ts.map fun t=>(t.a,t.b,t.c)) g=some (.fin (g&&ts.all fun t=>tB t x y)):=fun ts=>by
  induction ts with
  |nil=>intro g _;rw[List.all_nil,Bool.and_true];rfl
  |cons t ts ih=>
   intro g hm
   have st:dH x y g (t.a,t.b,t.c)=some (.nx (g&&tB t x y)):=by
    unfold dH
    show gZ (b2 T.eqA (b4 gL (some t.b) (some t.c) (some x) (some y)) (b2 T.eqA (b2 T.bw (some t.a) (some (2:Int))) (some (1:Int)))) _ _ _=_
    rw[Jh,plainT (hm t List.mem_cons_self) hx hy,aq,T.bp (by decide),aq,T.lJ,aq,T.lJ,bc]
    unfold tB
    by_cases q:t.a%2=1
    ·rw[if_pos q,decide_eq_true q]
     cases bB t x y <;> cases g <;> rfl
    ·rw[if_neg q,decide_eq_false q]
     cases bB t x y <;> cases g <;> rfl
   show (dH x y g (t.a,t.b,t.c)).bind _=_
   rw[st]
   show fE _ (ts.map _) (g&&tB t x y)=_
   rw[ih _ fun t ht=>hm t (List.mem_cons_of_mem _ ht),List.all_cons,Bool.and_assoc]
 rw[bf,nA (p:=fun ts=> !(ts.all fun t=>tB t x y)) (r:=⟨true⟩) a fun ts hts=>by
  unfold jY
  rw[Option.bind_some,aL,show T.trs ts=some (ts.map fun t=>(t.a,t.b,t.c)) from rfl,bf,inn ts true (h.2 ts hts).2,Option.bind_some,pB,Bool.true_and,bc]
  cases ts.all fun t=>tB t x y <;> rfl]
 rw[<-List.not_any_eq_all_not]
 cases a.any fun ts=>ts.all fun t=>tB t x y <;> rfl
theorem Ov: ∀{n:Nat},n<=8->T.dP ("m" :Str) (n:Int)=some ⟨(List.replicate n 109).toArray⟩
 |0,_=>by unfold T.dP;rw[bU (by unfold MulOk;decide+kernel)];rfl
 |1,_=>by unfold T.dP;rw[bU (by unfold MulOk;decide+kernel)];rfl
 |2,_=>by unfold T.dP;rw[bU (by unfold MulOk;decide+kernel)];rfl
 |3,_=>by unfold T.dP;rw[bU (by unfold MulOk;decide+kernel)];rfl
 |4,_=>by unfold T.dP;rw[bU (by unfold MulOk;decide+kernel)];rfl
 |5,_=>by unfold T.dP;rw[bU (by unfold MulOk;decide+kernel)];rfl
 |6,_=>by unfold T.dP;rw[bU (by unfold MulOk;decide+kernel)];rfl
 |7,_=>by unfold T.dP;rw[bU (by unfold MulOk;decide+kernel)];rfl
 |8,_=>by unfold T.dP;rw[bU (by unfold MulOk;decide+kernel)];rfl
 |n+9,h=>absurd h (by omega)
theorem Ow: ∀{n:Nat},n<=3->T.dP ("b" :Str) (n:Int)=some ⟨(List.replicate n 98).toArray⟩
 |0,_=>by unfold T.dP;rw[bU (by unfold MulOk;decide+kernel)];rfl
 |1,_=>by unfold T.dP;rw[bU (by unfold MulOk;decide+kernel)];rfl
 |2,_=>by unfold T.dP;rw[bU (by unfold MulOk;decide+kernel)];rfl
 |3,_=>by unfold T.dP;rw[bU (by unfold MulOk;decide+kernel)];rfl
 |n+4,h=>absurd h (by omega)
theorem CJ {i:Int} (h0:0<=i) (h:i<=8):T.dP ("m" :Str) i=some ⟨(List.replicate i.toNat 109).toArray⟩:=by
 have:=Ov (n:=i.toNat) (by omega)
 rwa[Int.toNat_of_nonneg h0] at this
theorem MD {i:Int} (h0:0<=i) (h:i<=3):T.dP ("b" :Str) i=some ⟨(List.replicate i.toNat 98).toArray⟩:=by
 have:=Ow (n:=i.toNat) (by omega)
 rwa[Int.toNat_of_nonneg h0] at this
def sg6 (c k:Int):Nat:=97+((c/192+11*k)%26).toNat
def nm6 (c:Int) (k:Nat):List Nat:=
 if c%3=0 then List.replicate (c/24%(1+c/3%8)).toNat 109++(sg6 c k::List.replicate (1+c/3%8 -c/24%(1+c/3%8) -1).toNat 109)
 else if c%3=1 then sg6 c k::List.replicate (((k:Int)*k+c/192)%8).toNat 109
 else (97+((c/192+(k:Int)/4)%26).toNat)::List.replicate (3 -(k:Int)%4).toNat 98
theorem lV (a:Int) {b:Int} (h:0<b):0<=a%b/\a%b<b:=⟨Int.emod_nonneg a (by omega),Int.emod_lt_of_pos a h⟩
theorem J9 (c:Int) (k:Nat): ∀x∈nm6 c k,97<=x/\x<123:=fun x hx=>by
 have s:=lV (c/192+11*(k:Int)) (show (0:Int)<26 by decide)
 have t:=lV (c/192+(k:Int)/4) (show (0:Int)<26 by decide)
 unfold nm6 at hx
 split at hx
 ·rcases List.mem_append.mp hx with z|z
  ·have:=(List.mem_replicate.mp z).2;omega
  ·rcases List.mem_cons.mp z with rfl|z
   ·unfold sg6;omega
   ·have:=(List.mem_replicate.mp z).2;omega
 ·split at hx
  ·rcases List.mem_cons.mp hx with rfl|z
   ·unfold sg6;omega
   ·have:=(List.mem_replicate.mp z).2;omega
  ·rcases List.mem_cons.mp hx with rfl|z
   ·omega
   ·have:=(List.mem_replicate.mp z).2;omega
theorem Ka (c:Int) (k:Nat):1<=(nm6 c k).length/\(nm6 c k).length<=8:=by
 have a:=lV (c/3) (show (0:Int)<8 by decide)
 have b:=lV (c/24) (show (0:Int)<1+c/3%8 by omega)
 have d:=lV ((k:Int)*k+c/192) (show (0:Int)<8 by decide)
 have e:=lV (k:Int) (show (0:Int)<4 by decide)
 unfold nm6
 split
 ·rw[List.length_append,List.length_replicate,List.length_cons,List.length_replicate];omega
 ·split
  ·rw[List.length_cons,List.length_replicate];omega
  ·rw[List.length_cons,List.length_replicate];omega
theorem Kb {c:Int} {j k:Nat} (hj:j<14) (hk:k<14) (h:nm6 c j=nm6 c k):j=k:=by
 have sg:sg6 c j=sg6 c k->j=k:=fun e=>by unfold sg6 at e;omega
 unfold nm6 at h
 split at h
 ·have:=List.append_cancel_left h
  injection this with e _
  exact sg e
 ·split at h
  ·injection h with e _
   exact sg e
  ·injection h with e1 e2
   have e3:=congrArg List.length e2
   rw[List.length_replicate,List.length_replicate] at e3
   omega
def nmS (c:Int) (k:Nat):Str:=⟨(nm6 c k).toArray⟩
theorem By {i:Int} (h0:0<=i) (h1:i<26):T.atS ("abcdefghijklmnopqrstuvwxyz" :Str) i=some ⟨#[97+i.toNat]⟩:=z8 h0 h1
theorem Ox (c:Int) {k:Nat} (hk:k<14) (y:List Str) (hy:y.length<=100):eA c ("abcdefghijklmnopqrstuvwxyz" :Str) (c%3) (1+c/3%8) (c/24%(1+c/3%8)) y (k:Int)=some (.nx (y++[nmS c k])):=by
 have B:=big
 have a:=lV (c/3) (show (0:Int)<8 by decide)
 have b:=lV (c/24) (show (0:Int)<1+c/3%8 by omega)
 have d:=lV ((k:Int)*k+c/192) (show (0:Int)<8 by decide)
 have e:=lV (k:Int) (show (0:Int)<4 by decide)
 have s:=lV (c/192+11*(k:Int)) (show (0:Int)<26 by decide)
 have t:=lV (c/192+(k:Int)/4) (show (0:Int)<26 by decide)
 have ap: ∀x:Str,T.at1 y (some plR) (some x) T.app=some ((),y++[x]):=fun x=>by rw[T.DL,T.zf (by omega)]
 unfold eA
 simp only[aq,T.ph (a:=11) (by decide) (by decide),T.gv (b:=192) (by decide) (by decide),T.cu,T.bp (b:=26) (by decide),By s.1 s.2,Option.bind_some,T.lJ,bc,T.kU]
 by_cases w0:c%3=0
 ·rw[decide_eq_true w0,if_pos rfl,CJ b.1 (by omega),CJ (by omega) (by omega),aq,k8 (by show (List.replicate _ _).length+1<=_;rw[List.length_replicate];omega),aq,k8 (by
   rw[TL.tl_append,List.length_append]
   show (List.replicate _ _).length+1+(List.replicate _ _).length<=_
   rw[List.length_replicate,List.length_replicate];omega),ap]
  show some (TO.nx (y++[_]))=some (TO.nx (y++[_]))
  refine congrArg (fun z=>some (TO.nx (y++[z]))) (TL.ext_tl ?_)
  rw[TL.tl_append,TL.tl_append]
  show _=nm6 c k
  unfold nm6
  rw[if_pos w0,List.append_assoc];rfl
 ·rw[decide_eq_false w0,if_neg Bool.false_ne_true]
  by_cases w1:c%3=1
  ·rw[decide_eq_true w1,if_pos rfl,T.ph (a:=(k:Int)) (by omega) (by omega),aq,T.cu,aq,T.bp (by decide),aq,CJ d.1 (by omega),aq,k8 (by show 1+(List.replicate _ _).length<=_;rw[List.length_replicate];omega),ap]
   show some (TO.nx (y++[_]))=some (TO.nx (y++[_]))
   refine congrArg (fun z=>some (TO.nx (y++[z]))) (TL.ext_tl ?_)
   rw[TL.tl_append]
   show _=nm6 c k
   unfold nm6
   rw[if_neg w0,if_pos w1];rfl
  ·rw[decide_eq_false w1,if_neg Bool.false_ne_true,T.gv (by decide) (by decide),aq,T.cu,aq,T.bp (by decide),aq,By t.1 t.2,T.bp (by decide),aq,T.kU,aq,MD (by omega) (by omega),aq,k8 (by show 1+(List.replicate _ _).length<=_;rw[List.length_replicate];omega),ap]
   show some (TO.nx (y++[_]))=some (TO.nx (y++[_]))
   refine congrArg (fun z=>some (TO.nx (y++[z]))) (TL.ext_tl ?_)
   rw[TL.tl_append]
   show _=nm6 c k
   unfold nm6
   rw[if_neg w0,if_neg w1];rfl
theorem names6 (c:Int) {n:Nat} (hn:n<=14):jw c (n:Int)=some ((List.range n).map (nmS c)):=by
 have a:=lV (c/3) (show (0:Int)<8 by decide)
 unfold jw
 rw[Option.bind_some,aq,T.bp (by decide),Option.bind_some,aq,T.gv (by decide) (by decide),aq,T.bp (by decide),aq,T.cu,Option.bind_some,aq,T.gv (by decide) (by decide),aq,T.bp (by omega),Option.bind_some,Option.bind_some,aL,T.u9 (by omega) (by omega),bf]
 obtain⟨y,e,hy⟩:=AR (step:=eA c ("abcdefghijklmnopqrstuvwxyz" :Str) (c%3) (1+c/3%8) (c/24%(1+c/3%8))) (fun i y=>y=(List.range i).map (nmS c)) (n:=(n:Int).toNat) (b0:=[]) rfl fun i hi y ey=>by
  have hi:i<n:=by omega
  refine⟨_,.inl (Ox c (by omega) y (by rw[ey];simp;omega)),?_⟩
  rw[ey,List.range_succ,List.map_append];rfl
 rw[e,hy];rfl
theorem E6 (c:Int) {n:Nat} (hn:n<=14):((List.range n).map (nmS c)).Nodup:=by
 rw[List.Nodup,List.pairwise_map]
 refine List.pairwise_iff_getElem.mpr fun i j hi hj hij e=> ?_
 rw[List.length_range] at hi hj
 rw[List.getElem_range,List.getElem_range] at e
 have:=Kb (by omega) (by omega) (show nm6 c i=nm6 c j from congrArg TL.tl e)
 omega
abbrev Co:=T5 Str Int Int (T3 Str Int Str) (T3 Str Int Str)
theorem Qc {x y:Int} {i:Int} (h0:0<=i) (h1:i<2) {lo hi:Int} (hx:lo<=x/\x<=hi) (hy:lo<=y/\y<=hi): ∃z,T.atL [x,y] i=some z/\lo<=z/\z<=hi:=by
 rw[T.p8 h0 (by show i<2;omega)]
 have:[x,y][i.toNat]'(by simp;omega)∈[x,y]:=List.getElem_mem _
 simp only[List.mem_cons,List.not_mem_nil,or_false] at this
 refine⟨_,rfl,?_⟩
 rcases this with e|e <;> (rw[e];assumption)
theorem H9 (sc:Scr) (hl:sc.l.length<=63): ∃cs:List Co,gj sc=some cs/\(∀c∈cs,wN c)/\(cs.map (·.a)).Nodup/\1<=cs.length/\cs.length<=14:=by
 have B:=big
 have pw:T.wQ 10 6=some 1000000:=by rw[T.JJ (by decide) (by decide) (by decide)];rfl
 unfold gj
 simp only[T.nX,T.Hb,aq]
 rw[show T.BL sc [0,1,2]=some (sc.l++[0,1,2]) from if_pos (by show sc.l.length+3<=_;omega),aL,T.vS,aL,T.vS,mQ,T.u7,Option.bind_some]
 generalize hx:Sw.fT (sc.l++[0,1,2]) (some 2) (some 16)=xs
 have l14:1<=xs.length/\xs.length<=14:=by
  have e1:HT.sIx (sc.l++[0,1,2]).length 0 (some ((2:Nat):Int))=min 2 _:=HT.sIx_nat _ _ _
  have e2:HT.sIx (sc.l++[0,1,2]).length (sc.l++[0,1,2]).length (some ((16:Nat):Int))=min 16 _:=HT.sIx_nat _ _ _
  rw[<-hx]
  show 1<=(((sc.l++[0,1,2]).drop (HT.sIx _ 0 (some ((2:Nat):Int)))).take (HT.sIx _ _ (some ((16:Nat):Int)) -HT.sIx _ 0 (some ((2:Nat):Int)))).length/\(((sc.l++[0,1,2]).drop (HT.sIx _ 0 (some ((2:Nat):Int)))).take (HT.sIx _ _ (some ((16:Nat):Int)) -HT.sIx _ 0 (some ((2:Nat):Int)))).length<=14
  rw[e1,e2,List.length_take,List.length_drop,List.length_append]
  simp only[List.length_cons,List.length_nil]
  omega
 rw[zZ _ _ (by decide),aL,show T.uy xs=some (xs.length:Int) from rfl,aq,names6 _ l14.2,Option.bind_some,Option.bind_some,aL]
 generalize hc:sc.l.getD (1:Int).toNat 0=c0
 obtain⟨cs,e,h1,h2⟩:=yp (step:=eB ((List.range xs.length).map (nmS c0))) (xs:=xs) (b0:=([]:List Co)) (fun pre b=>(∀c∈b,wN c)/\b.map (·.a)=(List.range pre.length).map (nmS c0)) ⟨fun _ h=>(nomatch h),rfl⟩ fun pre x post b ex ⟨i1,i2⟩=>by
  have lb:b.length=pre.length:=by have:=congrArg List.length i2;simpa using this
  have lx:=congrArg List.length ex
  rw[List.length_append,List.length_cons] at lx
  have md:=fun(a b:Int) (hb:0<b)=>lV a hb
  obtain⟨u,eu,u1,u2⟩:=Qc (x:=o5 x 1%200) (y:=o5 x 1%1000000) (i:=o5 x 2%2) (lo:=0) (hi:=999999) (md _ 2 (by decide)).1 (md _ 2 (by decide)).2 (by have:=md (o5 x 1) 200 (by decide);omega) (by have:=md (o5 x 1) 1000000 (by decide);omega)
  obtain⟨s,es,hs⟩:=D3 x 5 (by decide) (by decide)
  obtain⟨t,et,ht⟩:=D3 x 6 (by decide) (by decide)
  have v:=md (o5 x 3) 1000001 (by decide)
  have at_:T.atL ((List.range xs.length).map (nmS c0)) (pre.length:Int)=some (nmS c0 pre.length):=by
   rw[T.p8 (by omega) (by rw[List.length_map,List.length_range];omega)]
   simp
  refine⟨b++[⟨nmS c0 pre.length,1+u,o5 x 3%1000001,s,t⟩],.inl ?_,fun c hc=> ?_,?_⟩
  ·unfold eB
   simp only[aq,oH x 1 (by decide) (by decide),oH x 2 (by decide) (by decide),oH x 3 (by decide) (by decide),T.bp (b:=200) (by decide),pw,T.bp (b:=1000000) (by decide),T.bp (b:=2) (by decide),T.cu]
   rw[show T.bw (o5 x 3) (1000000+1)=some (o5 x 3%1000001) from T.bp (by decide)]
   simp only[T.nX,T.Ha,aq,eu,T.cu,Option.bind_some,at_,es,et,Ji,T.Me]
   rw[T.DL,T.zf (by omega),Option.bind_some]
  ·rcases List.mem_append.mp hc with z|z
   ·exact i1 c z
   ·rw[List.mem_singleton.mp z]
    have ln:=Ka c0 pre.length
    exact⟨J9 c0 pre.length,ln.1,ln.2,by show 1<=1+u;omega,by show 1+u<=1000000;omega,v.1,by show o5 x 3%1000001<=1000000;omega,hs,ht⟩
  ·rw[List.map_append,i2,List.length_append,List.length_singleton,List.range_succ,List.map_append];rfl
 refine⟨cs,?_,h1,by rw[h2];exact E6 c0 l14.2,?_,?_⟩
 ·show tF0 (g4 (T.enum xs) _ _ _)=_
  rw[show T.enum xs=some (xs.mapIdx fun i x=>((i:Int),x)) from rfl,bf,e];rfl
 ·have:=congrArg List.length h2;simp at this;omega
 ·have:=congrArg List.length h2;simp at this;omega
def Bz (c o:Co):Int:=c.b+o.b -dst c.d o.e -dst o.d c.e
def wth (c o:Co):Int:=if Bz c o>1 then Bz c o else 1
def fit (f:bt->bt->Bool) (c o:Co):Bool:=f c.d o.e&&f o.d c.e
theorem Ia (x y:bt):0<=dst x y:=by unfold dst;split <;> omega
theorem Kc (c o:Co):wth c o=wth o c:=by
 have:Bz c o=Bz o c:=by unfold Bz;omega
 unfold wth;rw[this]
theorem Kd (f:bt->bt->Bool) (c o:Co):fit f c o=fit f o c:=Bool.and_comm _ _
theorem D9 {c o:Co} (h:wN c) (g:wN o):1<=wth c o/\wth c o<=1000000000000:=by
 have:=Ia c.d o.e
 have:=Ia o.d c.e
 have:=h.need
 have:=g.need
 unfold wth Bz
 split <;> omega
theorem Oy (c o:Co):ju c o=some (wth c o):=by
 unfold ju
 simp only[Option.map_some,aq,Ol,T.cu,T.kU,T.zd]
 rfl
theorem ME (c o:Co):jz c o=some (wth c o):=by
 unfold jz
 simp only[Option.map_some,aq,T.kU,T.cu,T.nX]
 have st: ∀(y:Int) (p q:bt),cY y (p.b -q.b)=some (.nx (y -dst p q)):=fun y p q=>by
  unfold cY
  rw[aq,T.kU,aq,T.zd,aq,T.kU]
  show some (TO.nx (y -if 0 -(p.b -q.b)>p.b -q.b then 0 -(p.b -q.b) else p.b -q.b))=_
  congr 2
  unfold dst
  split <;> split <;> omega
 rw[T.Ha,Option.bind_some,Option.bind_some,bf]
 show tF0 (((cY (c.b+o.b) (c.d.b -o.e.b)).bind _).bind _)=_
 rw[st,Option.bind_some]
 show tF0 (((cY (c.b+o.b -dst c.d o.e) (o.d.b -c.e.b)).bind _).bind _)=_
 rw[st,Option.bind_some]
 show tF0 (cq (b2 T.max2 (some (c.b+o.b -dst c.d o.e -dst o.d c.e)) (some (1:Int))) fun r=>(⟨r⟩:R0 Int))=_
 rw[aq,T.zd]
 show some (if 1>Bz c o then (1:Int) else Bz c o)=some (wth c o)
 unfold wth
 congr 1
 split <;> split <;> omega
def nB (f:bt->bt->Bool) (cs:List Co) (c:Co):List (Str×Int):=(cs.filter fun o=>decide (c.a≠o.a)&&fit f c o).map fun o=>(o.a,wth c o)
def lW (f:bt->bt->Bool) (cs:List Co):Wb:=⟨cs.map fun c=>(c.a,⟨nB f cs c⟩)⟩
section
variable {f:bt->bt->Bool} {cs:List Co}
theorem qk:(lW f cs).l.map (·.1)=cs.map (·.a):=by
 show (cs.map _).map _=_
 rw[List.map_map];rfl
theorem B6 (nd:(cs.map (·.a)).Nodup) (c:Co):((nB f cs c).map (·.1)).Nodup:=by
 unfold nB
 rw[List.map_map]
 exact ((List.filter_sublist (l:=cs)).map _).nodup nd
theorem Ib (nd:(cs.map (·.a)).Nodup) {c o:Co} (hc:c∈cs) (ho:o∈cs) (e:c.a=o.a):c=o:=by
 induction cs with
 |nil=>cases hc
 |cons a l ih=>
  rw[List.map_cons,List.nodup_cons] at nd
  rcases List.mem_cons.mp hc with h1|h1
  ·rcases List.mem_cons.mp ho with h2|h2
   ·rw[h1,h2]
   ·exact absurd (by rw[<-h1,e];exact List.mem_map_of_mem h2) nd.1
  ·rcases List.mem_cons.mp ho with h2|h2
   ·exact absurd (by rw[<-h2,←e];exact List.mem_map_of_mem h1) nd.1
   ·exact ih nd.2 h1 h2
theorem BA (nd:(cs.map (·.a)).Nodup) {c:Co} (hc:c∈cs):fJ (lW f cs) c.a=nB f cs c:=
 jR (r:=⟨nB f cs c⟩) (di (by rw[qk];exact nd) (List.mem_map.mpr ⟨c,hc,rfl⟩))
theorem Ac (nd:(cs.map (·.a)).Nodup) {c o:Co} (hc:c∈cs) (ho:o∈cs) (n:c.a≠o.a):wk (lW f cs) c.a o.a=if fit f c o=true then some (wth c o) else none:=by
 unfold wk
 rw[BA nd hc]
 by_cases h:fit f c o=true
 ·rw[if_pos h]
  refine di (B6 nd c) (List.mem_map.mpr ⟨o,List.mem_filter.mpr ⟨ho,?_⟩,rfl⟩)
  rw[decide_eq_true n,h];rfl
 ·rw[if_neg h]
  cases q:aC (nB f cs c) o.a with
  |none=>rfl
  |some v=>
   obtain⟨o',h1,h2⟩:=List.mem_map.mp (fM q)
   obtain⟨h3,h4⟩:=List.mem_filter.mp h1
   have:o'=o:=Ib nd h3 ho (congrArg Prod.fst h2)
   rw[this] at h4
   exact absurd (Bool.and_eq_true_iff.mp h4).2 h
theorem q9 (nd:(cs.map (·.a)).Nodup) {x y:Str} {v:Int} (h:wk (lW f cs) x y=some v): ∃c∈cs,∃o∈cs,x=c.a/\y=o.a/\c.a≠o.a/\fit f c o=true/\v=wth c o:=by
 obtain⟨r,h1,h2⟩:=Hj h
 obtain⟨c,hc,e1⟩:=List.mem_map.mp (fM h1)
 have e2:x=c.a:=(congrArg Prod.fst e1).symm
 have e3:r=⟨nB f cs c⟩:=(congrArg Prod.snd e1).symm
 rw[e3] at h2
 obtain⟨o,h3,e4⟩:=List.mem_map.mp (fM h2)
 obtain⟨h5,h6⟩:=List.mem_filter.mp h3
 obtain⟨h7,h8⟩:=Bool.and_eq_true_iff.mp h6
 exact⟨c,hc,o,h5,e2,(congrArg Prod.fst e4).symm,of_decide_eq_true h7,h8,(congrArg Prod.snd e4).symm⟩
theorem KQ (hc: ∀c∈cs,wN c) (nd:(cs.map (·.a)).Nodup):cF (cs.map (·.a)) (lW f cs) where
 keys:=qk
 rows:=fun x=>by
  by_cases h:x∈cs.map (·.a)
  ·obtain⟨c,h1,rfl⟩:=List.mem_map.mp h
   rw[BA nd h1];exact B6 nd c
  ·unfold fJ
   cases q:aC (lW f cs).l x with
   |none=>exact List.nodup_nil
   |some r=>exact absurd (by rw[<-qk (f:=f)];exact List.mem_map.mpr ⟨_,fM q,rfl⟩) h
 sym:=fun x y v h=>by
  obtain⟨c,h1,o,h2,rfl,rfl,n,h3,rfl⟩:=q9 nd h
  rw[Ac nd h2 h1 (Ne.symm n),Kd,h3,Kc];rfl
 irr:=fun x=>by
  cases h:wk (lW f cs) x x with
  |none=>rfl
  |some v=>
   obtain⟨c,_,o,_,e1,e2,n,_,_⟩:=q9 nd h
   exact absurd (e1.symm.trans e2) n
 rng:=fun x y v h=>by
  obtain⟨c,h1,o,h2,_,_,_,_,rfl⟩:=q9 nd h
  exact D9 (hc c h1) (hc o h2)
theorem Qd {a:Alt} (ha:yv a) (hc: ∀c∈cs,wN c) (nd:(cs.map (·.a)).Nodup) (hl:cs.length<=14):jP cs a=some (lW (oB a) cs):=by
 have B:=big
 unfold jP
 rw[Option.bind_some,bf]
 obtain⟨b,e,hb⟩:=lK (step:=jB cs a) (xs:=cs) (b0:=(⟨[]⟩:Wb)) (fun pre b=>b=⟨pre.map fun c=>(c.a,⟨nB (oB a) cs c⟩)⟩) rfl fun pre c post b ec hb=>by
  subst hb
  have cm:c∈cs:=by rw[ec];simp
  have nn:c.a∉pre.map (·.a):=by
   rw[ec,List.map_append,List.map_cons] at nd
   exact fun q=>(List.nodup_append.mp nd).2.2 _ q _ List.mem_cons_self rfl
  have lp:=congrArg List.length ec
  rw[List.length_append,List.length_cons] at lp
  refine⟨⟨(pre++[c]).map fun c=>(c.a,⟨nB (oB a) cs c⟩)⟩,.inl ?_,rfl⟩
  unfold jB
  rw[Option.bind_some,bf]
  obtain⟨r,er,hr⟩:=lK (step:=jA a c) (xs:=cs) (b0:=(⟨[]⟩:Sd Int)) (fun pr r=>r=⟨nB (oB a) pr c⟩) rfl fun pr o po r eo hr=>by
   subst hr
   have om:o∈cs:=by rw[eo];simp
   have on:o.a∉(nB (oB a) pr c).map (·.1):=fun q=>by
    unfold nB at q
    rw[List.map_map] at q
    obtain⟨z,hz,ez⟩:=List.mem_map.mp q
    rw[eo,List.map_append,List.map_cons] at nd
    exact (List.nodup_append.mp nd).2.2 _ (List.mem_map_of_mem (List.mem_filter.mp hz).1) _ List.mem_cons_self ez
   have lo:=congrArg List.length eo
   rw[List.length_append,List.length_cons] at lo
   have lr:(nB (oB a) pr c).length<=pr.length:=by unfold nB;rw[List.length_map];exact List.length_filter_le _ _
   refine⟨⟨nB (oB a) (pr++[o]) c⟩,.inl ?_,rfl⟩
   unfold jA
   have lets:lD (b3 dB (some a) (some c.d) (some o.e)) (b3 dB (some a) (some o.d) (some c.e))=some (fit (oB a) c o):=by
    rw[kS,H8 ha (hc c cm).d (hc o om).e,kS,H8 ha (hc o om).d (hc c cm).e,jI]
    unfold fit
    cases oB a c.d o.e <;> rfl
   rw[Option.map_some,Option.map_some,Option.map_some,Option.map_some,lets,Option.bind_some,Option.map_some,Option.map_some,aq,T.G9]
   have cnd:lD (some (!decide (c.a=o.a))) (some (fit (oB a) c o))=some (decide (c.a≠o.a)&&fit (oB a) c o):=by
    by_cases q:c.a=o.a
    ·rw[decide_eq_true q,decide_eq_false (by simpa using q)];rfl
    ·rw[decide_eq_false q,decide_eq_true q];rfl
   rw[cnd,bc]
   have rd:nB (oB a) (pr++[o]) c=if (decide (c.a≠o.a)&&fit (oB a) c o)=true then nB (oB a) pr c++[(o.a,wth c o)] else nB (oB a) pr c:=by
    unfold nB
    rw[List.filter_append,List.map_append]
    by_cases q:(decide (c.a≠o.a)&&fit (oB a) c o)=true
    ·rw[if_pos q,List.filter_cons_of_pos (by exact q)];rfl
    ·rw[if_neg q,List.filter_cons_of_neg (by exact q)];simp
   rw[rd]
   by_cases q:(decide (c.a≠o.a)&&fit (oB a) c o)=true
   ·rw[if_pos q,if_pos q,aq,ME,T.B2 (by show (nB (oB a) pr c).length<_;omega),Option.bind_some,sD on];rfl
   ·rw[if_neg q,if_neg q];rfl
  subst hr
  rw[er,Option.bind_some,pB,Option.map_some,T.B2 (by show (pre.map _).length<_;rw[List.length_map];omega),Option.bind_some,sD (by
   show c.a∉(pre.map _).map _
   rw[List.map_map];exact nn),List.map_append]
  rfl
 subst hb
 rw[e];rfl
theorem Ke {ns ns':List Str} {W W':Wb} (c:Bool) (ok:cF ns W) (ok':cF ns' W') (nd:ns.Nodup) (pm:ns.Perm ns') (h: ∀a b,wk W' a b=wk W a b):T.AN c W W'=some c:=by
 unfold T.AN
 rw[if_pos]
 unfold T.L8
 rw[Bool.and_eq_true,decide_eq_true_eq,List.all_eq_true]
 refine⟨by rw[ok.len,ok'.len];exact pm.length_eq,fun p hp=> ?_⟩
 have kn:(W.l.map (·.1)).Nodup:=by rw[ok.keys];exact nd
 have gp:=di kn hp
 have pn:p.1∈ns:=by rw[<-ok.keys];exact List.mem_map_of_mem hp
 obtain⟨r',hr'⟩:=ok'.get (pm.mem_iff.mp pn)
 rw[hr']
 show T.keq p.2 r'=true
 have e1:fJ W p.1=p.2.l:=jR gp
 have e2:fJ W' p.1=r'.l:=jR hr'
 have n1:=ok.rows p.1
 have n2:=ok'.rows p.1
 rw[e1] at n1
 rw[e2] at n2
 have ag: ∀y,aC r'.l y=aC p.2.l y:=fun y=>by
  have:=h p.1 y
  rwa[Hi hr',Hi gp] at this
 unfold T.keq
 rw[Bool.and_eq_true,decide_eq_true_eq,List.all_eq_true]
 have mm: ∀y,y∈p.2.l.map (·.1)↔y∈r'.l.map (·.1):=fun y=>by
  rw[<-eM,←eM,ag]
 refine⟨?_,fun q hq=> ?_⟩
 ·have:=((List.perm_ext_iff_of_nodup n1 n2).mpr mm).length_eq
  simpa using this
 ·rw[ag,di n1 hq]
  exact decide_eq_true rfl
end
def Ic (k:Nat) (r:Fv) (f:bt->bt->Bool):Prop:= ∀n,k<=n-> ∀x y,jQ x->jQ y->TC n r x y=some (f x y)
theorem Ans.s {k:Nat} {r:Fv} {f:bt->bt->Bool} (h:Ans k r f):Ic k r f:=fun n hn x y _ _=>h n hn x y
section
variable {f:bt->bt->Bool} {cs:List Co} {r:Fv}
theorem MF (hr:Ic 12 r f) (hc: ∀c∈cs,wN c) (nd:(cs.map (·.a)).Nodup) (hl:cs.length<=14): ∃w,dC cs r=some w/\cF (cs.map (·.a)) w/\ ∀x y,wk w x y=wk (lW f cs) x y:=by
 have B:=big
 have D:=KQ (f:=f) hc nd
 unfold dC
 rw[Option.bind_some,bf]
 have e1:fE jO cs (⟨[]⟩:Wb)=some (.fin ⟨(cs.map (·.a)).map fun x=>(x,⟨[]⟩)⟩):=by
  obtain⟨b,e,hb⟩:=lK (step:=jO) (xs:=cs) (b0:=(⟨[]⟩:Wb)) (fun pre b=>b=⟨(pre.map (·.a)).map fun x=>(x,⟨[]⟩)⟩) rfl fun pre c post b ec hb=>by
   subst hb
   have lp:=congrArg List.length ec
   rw[List.length_append,List.length_cons] at lp
   have nn:c.a∉pre.map (·.a):=by
    rw[ec,List.map_append,List.map_cons] at nd
    exact fun q=>(List.nodup_append.mp nd).2.2 _ q _ List.mem_cons_self rfl
   refine⟨⟨((pre++[c]).map (·.a)).map fun x=>(x,⟨[]⟩)⟩,.inl ?_,rfl⟩
   unfold jO
   rw[Option.map_some,T.B2 (by show ((pre.map _).map _).length<_;rw[List.length_map,List.length_map];omega),Option.bind_some,sD (by
    show c.a∉((pre.map _).map _).map _
    rw[List.map_map]
    have:(pre.map (·.a)).map ((fun x:Str×Sd Int=>x.1)∘fun x=>(x,(⟨[]⟩:Sd Int)))=pre.map (·.a):=List.map_id' _
    rw[this];exact nn),List.map_append,List.map_append]
   rfl
  rw[e,hb]
 rw[e1,Option.bind_some,pB,aL,show T.enum cs=some (cs.mapIdx fun i x=>((i:Int),x)) from rfl,bf]
 obtain⟨b,e2,hb,hk⟩:=yp (step:=lU cs r) (xs:=cs) (b0:=(⟨(cs.map (·.a)).map fun x=>(x,⟨[]⟩)⟩:Wb)) (fun pre b=>cF (cs.map (·.a)) b/\ ∀x y,wk b x y=if x∈pre.map (·.a)\/y∈pre.map (·.a) then wk (lW f cs) x y else none)
  ⟨cF.empty _,fun x y=>by
   rw[if_neg (by simp)]
   unfold wk
   rw[qR];rfl⟩ fun pre c post b ec ⟨ok,hk⟩=>by
  have lp:=congrArg List.length ec
  rw[List.length_append,List.length_cons] at lp
  have cm:c∈cs:=by rw[ec];simp
  have nd2:=nd
  rw[ec,List.map_append,List.map_cons] at nd2
  have nd3:=List.nodup_append.mp nd2
  have cp:c.a∉pre.map (·.a):=fun q=>nd3.2.2 _ q _ List.mem_cons_self rfl
  have cut:Sw.fT cs (some ((pre.length:Int)+1)) none=post:=by
   have e:HT.sIx cs.length 0 (some ((pre.length+1:Nat):Int))=min (pre.length+1) cs.length:=HT.sIx_nat _ _ _
   show ((cs.drop (HT.sIx cs.length 0 (some ((pre.length+1:Nat):Int)))).take (cs.length -HT.sIx cs.length 0 (some ((pre.length+1:Nat):Int))))=post
   rw[e,show min (pre.length+1) cs.length=pre.length+1 by omega]
   have:cs.drop (pre.length+1)=post:=by rw[ec];simp
   rw[this,List.take_of_length_le (by omega)]
  obtain⟨b',e3,ok',hk'⟩:=lK (step:=iu r c) (xs:=post) (b0:=b) (fun mid b'=>cF (cs.map (·.a)) b'/\ ∀x y,wk b' x y=if (x∈pre.map (·.a)\/y∈pre.map (·.a))\/(x=c.a/\y∈mid.map (·.a))\/(y=c.a/\x∈mid.map (·.a)) then wk (lW f cs) x y else none)
   ⟨ok,fun x y=>by rw[hk];simp⟩ fun mid o rest b' eo ⟨ok',hk'⟩=>by
   have om:o∈cs:=by rw[ec,eo];simp
   have ne:c.a≠o.a:=fun q=>by
    have:=nd3.2.1
    rw[List.nodup_cons] at this
    exact this.1 (by rw[q,eo];simp)
   have an:lD (b3 (TC 12) (some r) (some c.d) (some o.e)) (b3 (TC 12) (some r) (some o.d) (some c.e))=some (fit f c o):=by
    rw[kS,hr 12 (Nat.le_refl _) _ _ (hc c cm).d (hc o om).e,kS,hr 12 (Nat.le_refl _) _ _ (hc o om).d (hc c cm).e,jI]
    unfold fit
    cases f c.d o.e <;> rfl
   have w:=Ac (f:=f) nd cm om ne
   by_cases q:fit f c o=true
   ·refine⟨vU b' c.a o.a (wth c o),.inl ?_,ok'.join (List.mem_map_of_mem cm) (List.mem_map_of_mem om) ne (D9 (hc c cm) (hc o om)),fun x y=> ?_⟩
    ·unfold iu
     rw[Option.map_some,Option.map_some,Option.map_some,Option.map_some,an,bc,if_pos q,aq,Oy,Option.bind_some,Option.map_some,Option.map_some]
     have j:=Hk (v:=wth c o) ok' (by rw[List.length_map];omega) (List.mem_map_of_mem cm) (List.mem_map_of_mem om) ne
     obtain⟨d14,j1,j2⟩:=bind1 j
     rw[j1,Option.bind_some,j2];rfl
    ·rw[sj ne,hk']
     rw[q,if_pos rfl] at w
     by_cases z:(x=c.a/\y=o.a)\/(x=o.a/\y=c.a)
     ·rw[if_pos z]
      rcases z with ⟨rfl,rfl⟩|⟨rfl,rfl⟩
      ·rw[if_pos (.inr (.inl ⟨rfl,by simp⟩)),w]
      ·rw[if_pos (.inr (.inr ⟨rfl,by simp⟩)),D.sym _ _ _ w]
     ·rw[if_neg z]
      have:((x∈pre.map (·.a)\/y∈pre.map (·.a))\/(x=c.a/\y∈(mid++[o]).map (·.a))\/(y=c.a/\x∈(mid++[o]).map (·.a)))↔((x∈pre.map (·.a)\/y∈pre.map (·.a))\/(x=c.a/\y∈mid.map (·.a))\/(y=c.a/\x∈mid.map (·.a))):=by
       rw[List.map_append,List.mem_append,List.mem_append,List.map_singleton,List.mem_singleton,List.mem_singleton]
       constructor
       ·rintro (h|⟨h,h2|h2⟩|⟨h,h2|h2⟩)
        ·exact .inl h
        ·exact .inr (.inl ⟨h,h2⟩)
        ·exact absurd (.inl ⟨h,h2⟩) z
        ·exact .inr (.inr ⟨h,h2⟩)
        ·exact absurd (.inr ⟨h2,h⟩) z
       ·rintro (h|⟨h,h2⟩|⟨h,h2⟩)
        ·exact .inl h
        ·exact .inr (.inl ⟨h,.inl h2⟩)
        ·exact .inr (.inr ⟨h,.inl h2⟩)
      simp only[this]
   ·refine⟨b',.inl ?_,ok',fun x y=> ?_⟩
    ·unfold iu
     rw[Option.map_some,Option.map_some,Option.map_some,Option.map_some,an,bc,if_neg q];rfl
    ·rw[hk']
     rw[if_neg q] at w
     have w2:wk (lW f cs) o.a c.a=none:=by
      cases z:wk (lW f cs) o.a c.a with
      |none=>rfl
      |some v=>rw[D.sym _ _ _ z] at w;cases w
     by_cases z:(x=c.a/\y=o.a)\/(x=o.a/\y=c.a)
     ·have:wk (lW f cs) x y=none:=by
       rcases z with ⟨rfl,rfl⟩|⟨rfl,rfl⟩
       ·exact w
       ·exact w2
      rw[this]
      simp
     ·have:((x∈pre.map (·.a)\/y∈pre.map (·.a))\/(x=c.a/\y∈(mid++[o]).map (·.a))\/(y=c.a/\x∈(mid++[o]).map (·.a)))↔((x∈pre.map (·.a)\/y∈pre.map (·.a))\/(x=c.a/\y∈mid.map (·.a))\/(y=c.a/\x∈mid.map (·.a))):=by
       rw[List.map_append,List.mem_append,List.mem_append,List.map_singleton,List.mem_singleton,List.mem_singleton]
       constructor
       ·rintro (h|⟨h,h2|h2⟩|⟨h,h2|h2⟩)
        ·exact .inl h
        ·exact .inr (.inl ⟨h,h2⟩)
        ·exact absurd (.inl ⟨h,h2⟩) z
        ·exact .inr (.inr ⟨h,h2⟩)
        ·exact absurd (.inr ⟨h2,h⟩) z
       ·rintro (h|⟨h,h2⟩|⟨h,h2⟩)
        ·exact .inl h
        ·exact .inr (.inl ⟨h,.inl h2⟩)
        ·exact .inr (.inr ⟨h,.inl h2⟩)
      simp only[this]
  refine⟨b',.inl ?_,ok',fun x y=> ?_⟩
  ·unfold lU
   show g4 (yU T.fT (some cs) (b1 T.toI (b2 T.bT (some (pre.length:Int)) (some (1:Int)))) (some none)) (iu r c) b _=_
   rw[aq,T.cu,aL,T.vS,mQ,T.u7,cut,bf,e3];rfl
  ·rw[hk',List.map_append,List.map_singleton]
   by_cases z:x∈pre.map (·.a)++[c.a]\/y∈pre.map (·.a)++[c.a]
   ·rw[if_pos z]
    by_cases u:(x∈pre.map (·.a)\/y∈pre.map (·.a))\/(x=c.a/\y∈post.map (·.a))\/(y=c.a/\x∈post.map (·.a))
    ·rw[if_pos u]
    ·rw[if_neg u]
     cases v:wk (lW f cs) x y with
     |none=>rfl
     |some v=>
      exfalso
      obtain⟨c1,m1,o1,m2,rfl,rfl,n1,_,_⟩:=q9 nd v
      have loc: ∀{k:Co},k∈cs->k.a∈pre.map (·.a)\/k.a=c.a\/k.a∈post.map (·.a):=fun {k} hk=>by
       rw[ec] at hk
       rcases List.mem_append.mp hk with h|h
       ·exact .inl (List.mem_map_of_mem h)
       ·rcases List.mem_cons.mp h with rfl|h
        ·exact .inr (.inl rfl)
        ·exact .inr (.inr (List.mem_map_of_mem h))
      rw[List.mem_append,List.mem_append,List.mem_singleton,List.mem_singleton] at z
      rcases z with (h|h)|(h|h)
      ·exact u (.inl (.inl h))
      ·rcases loc m2 with g|g|g
       ·exact u (.inl (.inr g))
       ·exact n1 (h.trans g.symm)
       ·exact u (.inr (.inl ⟨h,g⟩))
      ·exact u (.inl (.inr h))
      ·rcases loc m1 with g|g|g
       ·exact u (.inl (.inl g))
       ·exact n1 (g.trans h.symm)
       ·exact u (.inr (.inr ⟨h,g⟩))
   ·rw[if_neg z,if_neg]
    rintro ((h|h)|⟨h,_⟩|⟨h,_⟩)
    ·exact z (.inl (List.mem_append_left _ h))
    ·exact z (.inr (List.mem_append_left _ h))
    ·exact z (.inl (by rw[h];simp))
    ·exact z (.inr (by rw[h];simp))
 rw[e2]
 refine⟨b,rfl,hb,fun x y=> ?_⟩
 rw[hk]
 by_cases z:x∈cs.map (·.a)\/y∈cs.map (·.a)
 ·rw[if_pos z]
 ·rw[if_neg z]
  cases v:wk (lW f cs) x y with
  |none=>rfl
  |some v=>
   obtain⟨c1,m1,_,_,rfl,_⟩:=q9 nd v
   exact absurd (.inl (List.mem_map_of_mem m1)) z
end
theorem MG (i:Int):k7 i=some true:=rfl
theorem Kf {a:Alt} (ha:yv a):Ic 1 ⟨.clo eX (en a)⟩ (oB a):=fun n hn x y hx hy=>by
 obtain⟨m,rfl⟩:=Nat.exists_eq_add_of_le' hn
 exact wO (f:=oA) rfl ((jZ (by decide+kernel)).trans ((jZ (by decide+kernel)).trans ((jZ (by decide+kernel)).trans ((jZ (by decide+kernel)).trans sT)))) (EZ x y a _ (by
  unfold tO
  rw[kS,H8 ha hx hy]))
section
variable {f:bt->bt->Bool} {cs cs':List Co}
theorem Ie (p:cs.Perm cs') (nd:(cs.map (·.a)).Nodup) (x y:Str):wk (lW f cs') x y=wk (lW f cs) x y:=by
 have nd':(cs'.map (·.a)).Nodup:=(p.map _).nodup_iff.mp nd
 cases h:wk (lW f cs) x y with
 |some v=>
  obtain⟨c,h1,o,h2,rfl,rfl,n,h3,rfl⟩:=q9 nd h
  rw[Ac nd' (p.mem_iff.mp h1) (p.mem_iff.mp h2) n,h3];rfl
 |none=>
  cases g:wk (lW f cs') x y with
  |none=>rfl
  |some v=>
   obtain⟨c,h1,o,h2,rfl,rfl,n,h3,rfl⟩:=q9 nd' g
   rw[Ac nd (p.mem_iff.mpr h1) (p.mem_iff.mpr h2) n,h3] at h
   cases h
theorem isT (hc: ∀c∈cs,wN c) (nd:(cs.map (·.a)).Nodup) (p:cs.Perm cs') {w:Wb} (ok:cF (cs'.map (·.a)) w) (hw: ∀x y,wk w x y=wk (lW f cs') x y):fB w (lW f cs)=some true:=by
 have D:=KQ (f:=f) hc nd
 have pn:(cs.map (·.a)).Perm (cs'.map (·.a)):=p.map _
 have eq:T.AN false w (lW f cs)=some false:=Ke false ok D (pn.nodup_iff.mp nd) pn.symm fun a b=>by rw[hw,Ie p nd]
 unfold fB
 rw[Option.bind_some,mN,Bool.not_true,aq,eq,rX,if_neg Bool.false_ne_true,bc,if_neg Bool.false_ne_true,Option.bind_some,fF,aL,T.AQ,qk,vT]
 rw[nA (p:=fun _=>true) (r:=⟨false⟩) _ fun x hx=>by
  obtain⟨row,hr⟩:=ok.get (pn.mem_iff.mp hx)
  unfold mr
  rw[aq,T.JP,hr,Option.bind_some,mN,Bool.not_true,bc,if_neg Bool.false_ne_true,Option.bind_some,fF,aL,T.JQ,vT,nA (p:=fun _=>true) (r:=⟨false⟩) _ fun v _=>by
   unfold mq
   rw[aL,MG];rfl,List.all_eq_true.mpr fun _ _=>rfl]
  rfl,List.all_eq_true.mpr fun _ _=>rfl]
 rfl
theorem Oz (hc: ∀c∈cs,wN c):So.ok cs=true:=by
 show cs.all So.ok=true
 refine List.all_eq_true.mpr fun c h=> ?_
 have:=hc c h
 show (PySem.PyData.strOk c.a&&true&&true&&So.ok c.d&&So.ok c.e)=true
 rw[CD this.name,D1 this.d,D1 this.e];rfl
end
theorem Ig (ns:List Int) (hl:ns.length<=63):DY ⟨ns⟩=some true:=by
 have B:=big
 obtain⟨cs,ec,hc,nd,l1,l14⟩:=H9 ⟨ns⟩ hl
 obtain⟨a,ea,ha⟩:=Ou (ns.getD (0:Int).toNat 0)
 have an:Ic 12 (oR a) (oB a):=((Oo a).le (by decide)).s
 have al:Ic 12 ⟨.clo eX (en a)⟩ (oB a):=fun n hn=>Kf ha n (by omega)
 obtain⟨w1,e1,ok1,hk1⟩:=MF an hc nd l14
 have ok_s:=Oz hc
 unfold DY
 rw[aL,ec,Option.bind_some,aq (f:=dE),zZ _ _ (by decide),aL,ea,Option.bind_some,aL,(Oj ha).1,aL,Ot ha,Option.bind_some,aq (f:=jP),Qd ha hc nd l14,Option.bind_some,show b1 some (some cs)=some cs from rfl,Option.bind_some,aq (f:=dC),e1,Option.bind_some,aq (f:=fB),isT hc nd (List.Perm.refl _) ok1 hk1,mN,aq,T.Hh ok_s]
 rw[show orB (some (!true)) (some false)=some false from rfl,bc,if_neg Bool.false_ne_true,Option.bind_some,fF,aq (f:=dE),zZ _ _ (by decide),aq,T.gv (by decide) (by decide),aL,T.JM,aq,T.bp (by omega),Option.bind_some]
 obtain⟨k0,k1⟩:=lV (ns.getD (1:Int).toNat 0/5) (show (0:Int)<cs.length by omega)
 generalize ns.getD (1:Int).toNat 0/5%(cs.length:Int)=at_ at k0 k1
 obtain⟨k,rfl⟩: ∃k:Nat,at_=k:=⟨at_.toNat,(Int.toNat_of_nonneg k0).symm⟩
 have c1:Sw.fT cs (some (k:Int)) none=cs.drop k:=by
  have e:HT.sIx cs.length 0 (some (k:Int))=min k cs.length:=HT.sIx_nat _ _ _
  show ((cs.drop (HT.sIx cs.length 0 (some (k:Int)))).take (cs.length -HT.sIx cs.length 0 (some (k:Int))))=_
  rw[e,show min k cs.length=k by omega,List.take_of_length_le (by rw[List.length_drop];omega)]
 have c2:Sw.fT cs none (some (k:Int))=cs.take k:=by
  have e:HT.sIx cs.length cs.length (some (k:Int))=min k cs.length:=HT.sIx_nat _ _ _
  show ((cs.drop 0).take (HT.sIx cs.length cs.length (some (k:Int)) -0))=_
  rw[e,show min k cs.length=k by omega,List.drop_zero,Nat.sub_zero]
 have p2:cs.Perm (cs.drop k++cs.take k):=by
  have:=List.perm_append_comm (l₁:=cs.take k) (l₂:=cs.drop k)
  rwa[List.take_append_drop] at this
 have hc2: ∀c∈cs.drop k++cs.take k,wN c:=fun c h=>hc c (p2.mem_iff.mpr h)
 have nd2:=(p2.map (·.a)).nodup_iff.mp nd
 obtain⟨w2,e2,ok2,hk2⟩:=MF al hc2 nd2 (by rw[<-p2.length_eq];exact l14)
 have p3:cs.Perm cs.reverse:=(List.reverse_perm cs).symm
 have hc3: ∀c∈cs.reverse,wN c:=fun c h=>hc c (p3.mem_iff.mpr h)
 have nd3:=(p3.map (·.a)).nodup_iff.mp nd
 obtain⟨w3,e3,ok3,hk3⟩:=MF an hc3 nd3 (by rw[<-p3.length_eq];exact l14)
 have e4:dC ([]:List Co) (oR a)=some ⟨[]⟩:=by
  unfold dC
  rw[Option.bind_some,bf]
  rfl
 rw[aL,T.vS,mQ,mQ,T.u7,T.u7,c1,c2,aq (f:=T.Am),T.JO (by rw[List.length_drop,List.length_take];omega),aq (f:=dC),e2,Option.bind_some,aq (f:=fB),isT hc nd p2 ok2 hk2,mN,aq (f:=dC),e4,aq (f:=T.AN false),show T.AN false (⟨[]⟩:Wb) ⟨[]⟩=some false from rfl]
 rw[show orB (some (!true)) (some false)=some false from rfl,bc,if_neg Bool.false_ne_true,Option.bind_some,fF,aL,T.AQ,ok1.keys,bf]
 obtain⟨b,e5,hb⟩:=lK (step:=sR) (xs:=cs.map (·.a)) (b0:=w1) (fun _ (b:Wb)=>b.l.map (·.1)=cs.map (·.a)) ok1.keys fun pre x post b ex hb=>by
  have xm:x∈b.l.map (·.1):=by rw[hb,ex];simp
  obtain⟨row,hr⟩:=Option.isSome_iff_exists.mp (eM.mpr xm)
  refine⟨⟨aM b.l x ⟨[]⟩⟩,.inl ?_,?_⟩
  ·unfold sR
   rw[T.NX hr,T.DK];rfl
  ·show (aM b.l x ⟨[]⟩).map (·.1)=_
   rw[dq xm,hb]
 rw[e5,Option.bind_some,pB,T.NW,T.DK,Option.bind_some,aL,T.rev_eq,aq (f:=dC),e3,aq (f:=fB),isT hc nd p3 ok3 hk3,jI,if_pos rfl,aq,T.Hg ok_s]
 rfl
end Sw.k06
namespace Sw.k06
open PySem PySem.Spec PyProof.Rows L2 Sw
theorem facts {P:Program} {w:World} {K:PySem.W.Frag} {h:Heap} {mg:Str->Option Value} {f:Addr} (X:K.In h) (G:h.Ns mainGlobals mg) (hfa:mg ("law" :Str)=some (.ref f)) (c0:qG faL fnL tfL exB w h K):
  ∃fd:FuncData,(∀(s:Shared) (v:Value),BindsTo s fd ⟨[v],[]⟩ [("_law_script",v)])/\ ∀base:Heap,K.In base->base.Ns mainGlobals mg->(∀p∈tfL.map (fun p=>He.cT K p.1),LamX.TabB base mg p.1 p.2)->FnOk P w K mg base CX0 16 f fd ["_law_script"] (@FSp ⟨qF K tfL⟩ K [.bo] (.rg .fz) Ct):=by
 letI:NmC:=⟨qF K tfL⟩
 have c:=c0.y.1
 obtain⟨fd_number_of,E_number_of⟩:=c.def_ 0 (d:=ri) rfl
 obtain⟨fd_gap,E_gap⟩:=c.def_ 1 (d:=E7) rfl
 obtain⟨fd_by_groups,E_by_groups⟩:=c.def_ 2 (d:=rj) rfl
 obtain⟨fd_by_marks,E_by_marks⟩:=c.def_ 3 (d:=tX) rfl
 obtain⟨fd_by_sizes,E_by_sizes⟩:=c.def_ 4 (d:=tY) rfl
 obtain⟨fd_opposite,E_opposite⟩:=c.def_ 5 (d:=tZ) rfl
 obtain⟨fd_all_let,E_all_let⟩:=c.def_ 6 (d:=vk) rfl
 obtain⟨fd_one_lets,E_one_lets⟩:=c.def_ 7 (d:=t6) rfl
 obtain⟨fd_term_of,E_term_of⟩:=c.def_ 8 (d:=vm) rfl
 obtain⟨fd_noted_term,E_noted_term⟩:=c.def_ 9 (d:=qw) rfl
 obtain⟨fd_rule_of,E_rule_of⟩:=c.def_ 10 (d:=vn) rfl
 obtain⟨fd_swap_worth,E_swap_worth⟩:=c.def_ 11 (d:=qy) rfl
 obtain⟨fd__law_plain,E__law_plain⟩:=c.def_ 12 (d:=qz) rfl
 obtain⟨fd__law_lets,E__law_lets⟩:=c.def_ 13 (d:=rq) rfl
 obtain⟨fd_web_of,E_web_of⟩:=c.def_ 14 (d:=xB) rfl
 obtain⟨fd__law_cell,E__law_cell⟩:=c.def_ 15 (d:=rA) rfl
 obtain⟨fd__law_mix,E__law_mix⟩:=c.def_ 16 (d:=t7) rfl
 obtain⟨fd__law_whole,E__law_whole⟩:=c.def_ 17 (d:=qA) rfl
 obtain⟨fd__law_marks,E__law_marks⟩:=c.def_ 18 (d:=qB) rfl
 obtain⟨fd__law_side,E__law_side⟩:=c.def_ 19 (d:=rB) rfl
 obtain⟨fd__law_term,E__law_term⟩:=c.def_ 20 (d:=rC) rfl
 obtain⟨fd__law_alternatives,E__law_alternatives⟩:=c.def_ 21 (d:=j6) rfl
 obtain⟨fd__law_term_text,E__law_term_text⟩:=c.def_ 22 (d:=lZ) rfl
 obtain⟨fd__law_rule_text,E__law_rule_text⟩:=c.def_ 23 (d:=l3) rfl
 obtain⟨fd__law_names,E__law_names⟩:=c.def_ 24 (d:=qC) rfl
 obtain⟨fd__law_couples,E__law_couples⟩:=c.def_ 25 (d:=oJ) rfl
 obtain⟨fd__law_worth,E__law_worth⟩:=c.def_ 26 (d:=qD) rfl
 obtain⟨fd__law_due,E__law_due⟩:=c.def_ 27 (d:=t8) rfl
 obtain⟨fd__law_is,E__law_is⟩:=c.def_ 28 (d:=vo) rfl
 obtain⟨fd_law,E_law⟩:=c.def_ 29 (d:=E8) rfl
 have e:=hfa.symm.trans (He.glo_ok X G (c.fact 29 (f:=.glo "law") rfl))
 cases e
 have b:=FunD.bindsA (ps:=["_law_script"]) E_law fun _ _ _ _ _ _ us hl=>match us,hl with| [_],_=>rfl
 have Z:Zs K mg:=⟨He.free_ok X G (c.fact 30 (f:=.free "abs") rfl),He.free_ok X G (c.fact 31 (f:=.free "bool") rfl),He.free_ok X G (c.fact 32 (f:=.free "dict") rfl),He.free_ok X G (c.fact 33 (f:=.free "enumerate") rfl),He.free_ok X G (c.fact 34 (f:=.free "int") rfl),He.free_ok X G (c.fact 35 (f:=.free "isinstance") rfl),He.free_ok X G (c.fact 36 (f:=.free "len") rfl),He.free_ok X G (c.fact 37 (f:=.free "list") rfl),He.free_ok X G (c.fact 38 (f:=.free "max") rfl),He.free_ok X G (c.fact 39 (f:=.free "range") rfl),He.free_ok X G (c.fact 40 (f:=.free "reversed") rfl),He.free_ok X G (c.fact 41 (f:=.free "str") rfl),He.str_ok X G (c.fact 42 (f:=.str "FIGURES" "0123456789") rfl),He.glo_ok X G (c.fact 2 (f:=.glo "by_groups") rfl),He.glo_ok X G (c.fact 3 (f:=.glo "by_marks") rfl)⟩
 refine⟨fd_law,fun s v=>b s [v] rfl,fun base _ _ TB_=> ?_⟩
 have L_by_sizes:l6 base mg fd_by_sizes.code (("by_sizes" :Str)++".<locals>." ++"lets"):=c0.lam TB_ (p:=(("by_sizes",none),(("by_sizes" :Str)++".<locals>." ++"lets"))) (List.mem_of_getElem? (i:=0) rfl) E_by_sizes
 have L_opposite:l6 base mg fd_opposite.code (("opposite" :Str)++".<locals>." ++"lets"):=c0.lam TB_ (p:=(("opposite",none),(("opposite" :Str)++".<locals>." ++"lets"))) (List.mem_of_getElem? (i:=1) rfl) E_opposite
 have L_all_let:l6 base mg fd_all_let.code (("all_let" :Str)++".<locals>." ++"lets"):=c0.lam TB_ (p:=(("all_let",none),(("all_let" :Str)++".<locals>." ++"lets"))) (List.mem_of_getElem? (i:=2) rfl) E_all_let
 have L_one_lets:l6 base mg fd_one_lets.code (("one_lets" :Str)++".<locals>." ++"lets"):=c0.lam TB_ (p:=(("one_lets",none),(("one_lets" :Str)++".<locals>." ++"lets"))) (List.mem_of_getElem? (i:=3) rfl) E_one_lets
 have L_law:l6 base mg fd_law.code (("law" :Str)++".<locals>." ++"<lambda>"):=c0.lam TB_ (p:=(("law",none),(("law" :Str)++".<locals>." ++"<lambda>"))) (List.mem_of_getElem? (i:=4) rfl) E_law
 have C_number_of:Cal P w K mg base 1 "number_of" kj ko kq eV:=⟨_,fd_number_of,zz Z (aT E_number_of),He.glo_ok X G (c.fact 0 (f:=.glo "number_of") rfl),E_number_of.kp,E_number_of.bindsN fun _ _ _ _ _ _ us hl=>match us,hl with| [_],_=>rfl⟩
 have C_gap:Cal P w K mg base 1 "gap" wj wm wq mH:=⟨_,fd_gap,Ms Z (aT E_gap),He.glo_ok X G (c.fact 1 (f:=.glo "gap") rfl),E_gap.kp,E_gap.bindsN fun _ _ _ _ _ _ us hl=>match us,hl with| [_,_],_=>rfl⟩
 have C_by_groups:Cal P w K mg base 1 "by_groups" pC pD pE iQ:=⟨_,fd_by_groups,sF Z (aT E_by_groups),He.glo_ok X G (c.fact 2 (f:=.glo "by_groups") rfl),E_by_groups.kp,E_by_groups.bindsN fun _ _ _ _ _ _ us hl=>match us,hl with| [_,_],_=>rfl⟩
 have C_by_marks:Cal P w K mg base 1 "by_marks" qW qX qY ku:=⟨_,fd_by_marks,uk Z (aT E_by_marks),He.glo_ok X G (c.fact 3 (f:=.glo "by_marks") rfl),E_by_marks.kp,E_by_marks.bindsN fun _ _ _ _ _ _ us hl=>match us,hl with| [_,_],_=>rfl⟩
 have C_by_sizes:Cal P w K mg base 1 "by_sizes" n7 n9 oa iA:=⟨_,fd_by_sizes,Be Z (aT E_by_sizes) L_by_sizes,He.glo_ok X G (c.fact 4 (f:=.glo "by_sizes") rfl),E_by_sizes.kp,E_by_sizes.bindsN fun _ _ _ _ _ _ us hl=>match us,hl with| [_],_=>rfl⟩
 have C_opposite:Cal P w K mg base 1 "opposite" oe og oh iB:=⟨_,fd_opposite,Bg Z (aT E_opposite) L_opposite,He.glo_ok X G (c.fact 5 (f:=.glo "opposite") rfl),E_opposite.kp,E_opposite.bindsN fun _ _ _ _ _ _ us hl=>match us,hl with| [_],_=>rfl⟩
 have C_all_let:Cal P w K mg base 1 "all_let" qd qe qf jL:=⟨_,fd_all_let,Cj Z (aT E_all_let) L_all_let,He.glo_ok X G (c.fact 6 (f:=.glo "all_let") rfl),E_all_let.kp,E_all_let.bindsN fun _ _ _ _ _ _ us hl=>match us,hl with| [_],_=>rfl⟩
 have C_one_lets:Cal P w K mg base 1 "one_lets" oj oo oq iC:=⟨_,fd_one_lets,Bi Z (aT E_one_lets) L_one_lets,He.glo_ok X G (c.fact 7 (f:=.glo "one_lets") rfl),E_one_lets.kp,E_one_lets.bindsN fun _ _ _ _ _ _ us hl=>match us,hl with| [_],_=>rfl⟩
 have C_term_of:Cal P w K mg base 2 "term_of" mY mZ m5 iq:=⟨_,fd_term_of,Ck Z C_number_of C_by_sizes (aT E_term_of),He.glo_ok X G (c.fact 8 (f:=.glo "term_of") rfl),E_term_of.kp,E_term_of.bindsN fun _ _ _ _ _ _ us hl=>match us,hl with| [_],_=>rfl⟩
 have C_noted_term:Cal P w K mg base 3 "noted_term" iT iU iV fo:=⟨_,fd_noted_term,w8 Z C_term_of C_opposite (aT E_noted_term),He.glo_ok X G (c.fact 9 (f:=.glo "noted_term") rfl),E_noted_term.kp,E_noted_term.bindsN fun _ _ _ _ _ _ us hl=>match us,hl with| [_],_=>rfl⟩
 have C_rule_of:Cal P w K mg base 4 "rule_of" m7 m8 m9 jM:=⟨_,fd_rule_of,Cm Z C_noted_term C_all_let C_one_lets (aT E_rule_of),He.glo_ok X G (c.fact 10 (f:=.glo "rule_of") rfl),E_rule_of.kp,E_rule_of.bindsN fun _ _ _ _ _ _ us hl=>match us,hl with| [_],_=>rfl⟩
 have C_swap_worth:Cal P w K mg base 2 "swap_worth" iX iY iZ ft:=⟨_,fd_swap_worth,xg Z C_gap (aT E_swap_worth),He.glo_ok X G (c.fact 11 (f:=.glo "swap_worth") rfl),E_swap_worth.kp,E_swap_worth.bindsN fun _ _ _ _ _ _ us hl=>match us,hl with| [_,_],_=>rfl⟩
 have C__law_plain:Cal P w K mg base 1 "_law_plain" i6 i7 i8 fu:=⟨_,fd__law_plain,xh Z (aT E__law_plain),He.glo_ok X G (c.fact 12 (f:=.glo "_law_plain") rfl),E__law_plain.kp,E__law_plain.bindsN fun _ _ _ _ _ _ us hl=>match us,hl with| [_,_,_,_],_=>rfl⟩
 have C__law_lets:Cal P w K mg base 2 "_law_lets" iE iF iG cQ:=⟨_,fd__law_lets,zE Z C__law_plain (aT E__law_lets),He.glo_ok X G (c.fact 13 (f:=.glo "_law_lets") rfl),E__law_lets.kp,E__law_lets.bindsN fun _ _ _ _ _ _ us hl=>match us,hl with| [_,_,_],_=>rfl⟩
 have W_val: ∀n,rW P w K mg base (2+n) (FC n):=fun n=>by
  induction n with
  |zero=>exact Er
  |succ n ih=>exact I9 (List.forall_mem_cons.mpr ⟨(show I7 P w K mg base (2+(n+1)) "by_groups" iQ from DJ (aT (qual:="by_groups") (st:=c8) E_by_groups) (sF Z (aT E_by_groups)) (E_by_groups.bindsN fun _ _ _ _ _ _ us hl=>match us,hl with| [_,_],_=>rfl) (Nat.le_trans (by decide:1<=2+1) (by omega))),(List.forall_mem_cons.mpr ⟨(show I7 P w K mg base (2+(n+1)) "by_marks" ku from DJ (aT (qual:="by_marks") (st:=eR) E_by_marks) (uk Z (aT E_by_marks)) (E_by_marks.bindsN fun _ _ _ _ _ _ us hl=>match us,hl with| [_,_],_=>rfl) (Nat.le_trans (by decide:1<=2+1) (by omega))),(fun _ hp=>nomatch hp)⟩)⟩) (List.forall_mem_cons.mpr ⟨tD (Nat.le_add_right _ _) ih Z C_gap,(List.forall_mem_cons.mpr ⟨tF (Nat.le_add_right _ _) ih Z,(List.forall_mem_cons.mpr ⟨uG (Nat.le_add_right _ _) ih Z,(List.forall_mem_cons.mpr ⟨tG (Nat.le_add_right _ _) ih Z,(List.forall_mem_cons.mpr ⟨(EF (Cp Z C__law_lets) (Nat.le_trans (by decide:3<=2+1) (by omega))),(fun _ hp=>nomatch hp)⟩)⟩)⟩)⟩)⟩)
 have C_val:=W_val 12
 have C_web_of:Cal P w K mg base 15 "web_of" pJ pK pM gF:=⟨_,fd_web_of,EV Z C_val C_swap_worth (aT E_web_of),He.glo_ok X G (c.fact 14 (f:=.glo "web_of") rfl),E_web_of.kp,E_web_of.bindsN fun _ _ _ _ _ _ us hl=>match us,hl with| [_,_],_=>rfl⟩
 have C__law_cell:Cal P w K mg base 1 "_law_cell" fY fZ f6 b7:=⟨_,fd__law_cell,zG Z (aT E__law_cell),He.glo_ok X G (c.fact 15 (f:=.glo "_law_cell") rfl),E__law_cell.kp,E__law_cell.bindsN fun _ _ _ _ _ _ us hl=>match us,hl with| [_,_],_=>rfl⟩
 have C__law_mix:Cal P w K mg base 1 "_law_mix" eY eZ fb aW:=⟨_,fd__law_mix,Bm Z (aT E__law_mix),He.glo_ok X G (c.fact 16 (f:=.glo "_law_mix") rfl),E__law_mix.kp,E__law_mix.bindsN fun _ _ _ _ _ _ us hl=>match us,hl with| [_,_],_=>rfl⟩
 have C__law_whole:Cal P w K mg base 1 "_law_whole" ja jb jc fv:=⟨_,fd__law_whole,xo Z (aT E__law_whole),He.glo_ok X G (c.fact 17 (f:=.glo "_law_whole") rfl),E__law_whole.kp,E__law_whole.bindsN fun _ _ _ _ _ _ us hl=>match us,hl with| [_],_=>rfl⟩
 have C__law_marks:Cal P w K mg base 1 "_law_marks" je jf jg fx:=⟨_,fd__law_marks,xp Z (aT E__law_marks),He.glo_ok X G (c.fact 18 (f:=.glo "_law_marks") rfl),E__law_marks.kp,E__law_marks.bindsN fun _ _ _ _ _ _ us hl=>match us,hl with| [_],_=>rfl⟩
 have C__law_side:Cal P w K mg base 2 "_law_side" kB kE kF fe:=⟨_,fd__law_side,zJ Z C__law_mix C__law_marks (aT E__law_side),He.glo_ok X G (c.fact 19 (f:=.glo "_law_side") rfl),E__law_side.kp,E__law_side.bindsN fun _ _ _ _ _ _ us hl=>match us,hl with| [_,_],_=>rfl⟩
 have C__law_term:Cal P w K mg base 1 "_law_term" kH kI kJ gG:=⟨_,fd__law_term,zL Z (aT E__law_term),He.glo_ok X G (c.fact 20 (f:=.glo "_law_term") rfl),E__law_term.kp,E__law_term.bindsN fun _ _ _ _ _ _ us hl=>match us,hl with| [_],_=>rfl⟩
 have C__law_alternatives:Cal P w K mg base 2 "_law_alternatives" cI cJ cL bP:=⟨_,fd__law_alternatives,pO Z C__law_mix C__law_term (aT E__law_alternatives),He.glo_ok X G (c.fact 21 (f:=.glo "_law_alternatives") rfl),E__law_alternatives.kp,E__law_alternatives.bindsN fun _ _ _ _ _ _ us hl=>match us,hl with| [_],_=>rfl⟩
 have C__law_term_text:Cal P w K mg base 1 "_law_term_text" dR dS dU cw:=⟨_,fd__law_term_text,sL Z (aT E__law_term_text),He.glo_ok X G (c.fact 22 (f:=.glo "_law_term_text") rfl),E__law_term_text.kp,E__law_term_text.bindsN fun _ _ _ _ _ _ us hl=>match us,hl with| [_],_=>rfl⟩
 have C__law_rule_text:Cal P w K mg base 2 "_law_rule_text" dX dY dZ cA:=⟨_,fd__law_rule_text,sM Z C__law_term_text (aT E__law_rule_text),He.glo_ok X G (c.fact 23 (f:=.glo "_law_rule_text") rfl),E__law_rule_text.kp,E__law_rule_text.bindsN fun _ _ _ _ _ _ us hl=>match us,hl with| [_],_=>rfl⟩
 have C__law_names:Cal P w K mg base 1 "_law_names" ji jj jm fy:=⟨_,fd__law_names,xq Z (aT E__law_names),He.glo_ok X G (c.fact 24 (f:=.glo "_law_names") rfl),E__law_names.kp,E__law_names.bindsN fun _ _ _ _ _ _ us hl=>match us,hl with| [_,_],_=>rfl⟩
 have C__law_couples:Cal P w K mg base 3 "_law_couples" f9 gb gc cZ:=⟨_,fd__law_couples,uK Z C__law_cell C__law_names C__law_mix C__law_side (aT E__law_couples),He.glo_ok X G (c.fact 25 (f:=.glo "_law_couples") rfl),E__law_couples.kp,E__law_couples.bindsN fun _ _ _ _ _ _ us hl=>match us,hl with| [_],_=>rfl⟩
 have C__law_worth:Cal P w K mg base 1 "_law_worth" jo jq jr fA:=⟨_,fd__law_worth,xr Z (aT E__law_worth),He.glo_ok X G (c.fact 26 (f:=.glo "_law_worth") rfl),E__law_worth.kp,E__law_worth.bindsN fun _ _ _ _ _ _ us hl=>match us,hl with| [_,_],_=>rfl⟩
 have C__law_due:Cal P w K mg base 3 "_law_due" lQ lR lS iH:=⟨_,fd__law_due,Bp Z C__law_lets C__law_worth (aT E__law_due),He.glo_ok X G (c.fact 27 (f:=.glo "_law_due") rfl),E__law_due.kp,E__law_due.bindsN fun _ _ _ _ _ _ us hl=>match us,hl with| [_,_],_=>rfl⟩
 have C__law_is:Cal P w K mg base 2 "_law_is" nj nk nu gd:=⟨_,fd__law_is,Cs Z C__law_whole (aT E__law_is),He.glo_ok X G (c.fact 28 (f:=.glo "_law_is") rfl),E__law_is.kp,E__law_is.bindsN fun _ _ _ _ _ _ us hl=>match us,hl with| [_,_],_=>rfl⟩
 exact Mu Z C__law_couples C__law_cell C__law_alternatives C__law_rule_text C_rule_of C__law_due C_web_of C__law_is (aT E_law) L_law
end Sw.k06
open PySem PySem.W PySem.Calls PyProof.Rows
theorem PySem.Challenge.cw_swapward_k06_whole_webs_of_couples_holds : PySem.Challenge.rw_swapward_k06_whole_webs_of_couples.Holds := by
 w_on;o_law
 refine HandSHeadRun.head_any (r:=PySem.W.OpenLaw.row PySem.Challenge.rw_swapward_k06_whole_webs_of_couples) (q:=PySem.W.view (PySem.W.OpenLaw.row PySem.Challenge.rw_swapward_k06_whole_webs_of_couples).prog [37]) (H:=Sw.k06.hk) (ob:=Sw.k06.ob) (M:=6000) (loose:=Sw.k06.loose) (d:=HandSHeadRun.topDef (PySem.W.OpenLaw.row PySem.Challenge.rw_swapward_k06_whole_webs_of_couples).prog 37) (kwd:=[]) Sw.k06.MX
  (by kernel_rfl) (fun s=>by kernel_rfl) Sw.k06.run (by kernel_rfl) (by kernel_rfl) (by kernel_rfl) (by rfl) (by first|assumption|decide+kernel) (by decide+kernel) ⟨rfl,rfl,rfl,rfl,rfl,by decide+kernel⟩ ?hw ?hc
 case hw=>w_witness2
 case hc=>
  refine LamX.walk_ofTsE (l:=PySem.Challenge.rw_swapward_k06_whole_webs_of_couples) (n:=63) (k:=16) (x:="_law_script") (CX:=fun _=>L2.CX0) rfl (by decide) (by kernel_rfl) ⟨rfl,by decide,by decide⟩ ?F (fun _ _ _ _ _ z=>z)
  intro w mg fa h Y G hmg0
  obtain⟨K,KX,c⟩:=Y
  have hmg:mg ("law" :PySem.Str)=some (.ref fa):=by
   have e:(HandSHeadRun.topDef (PySem.W.OpenLaw.row PySem.Challenge.rw_swapward_k06_whole_webs_of_couples).prog 37).name=("law" :PySem.Str):=by kernel_rfl
   rw[<-e]
   exact hmg0
  obtain⟨fd,hb,hF⟩:=Sw.k06.facts (P:=(PySem.Challenge.rw_swapward_k06_whole_webs_of_couples).prog) (w:=w) KX G hmg c
  exact⟨K,KX,Sw.qG.law KX c hb hF (fun ns hl=>Sw.k06.Of ⟨ns⟩ true (Sw.k06.Ig ns hl))⟩
