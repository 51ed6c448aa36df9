import PyProof.Rows.All
import Wide.All
import OpenK.AllK
import Wide.FinOn
import HandS.ForMost
import HandS.HeadHook1
import HandS.Nested
import HandS.Deep
import HandS.More
import KE.SortData
import KE.DataCmp
import HandS.IsInst
import KE.KStateDown
import HandS.Defaults
import HandS.Head0
import HandS.Head1
import HandS.Head2
import HandS.HeadEnd
import HandS.HeadHook2
import HandS.DictComp
import HandS.Finally
import KE.KDictZip
import KE.KRevIter
import KE.KDictList
import HandS.ExcValue
import HandS.Exc
import KE.DataFind
import KE.DataMinMax
import HandS.Text
import HandS.FStr
import PyProof.StrBlock2
import HandS.DeepEq
import KE.KEqDict
import HandS.SetKeys
import HandS.Set
import HandS.TupSets
import HandS.SetFor
import PyProof.SeqIndex
import PyProof.Rows.SortStr
import PyProof.SetRoads
import HandS.Codes
import HandS.TupLe
import HandS.Iter
import KE.KMinKey
import HandS.SortKw
import KE.KLam
import HandS.HeadHook4
import HandS.HeadWalk
import HandS.Wide
import HandS.ExcInit
import HandS.ClsMeth
import HandS.WordsExc
import HandS.ExcField
import HandS.ListEq
import KE.GoesZip
import KE.GoesMore
import KE.KExcIs
import HandS.ExcOwn
import PyProof.ExcBaseAll.ValueError
import KE.SortKeyHeap
import HandS.DictTup
import KE.SortCalls
import HandS.Conv
import PyProof.NeKinds
import HandS.TryOnly
import HandS.ExcInitHot
import HandS.SuiteRaise
import HandS.RaiseFrom
import KE.IntTextLaws
import PySem.Challenge.RW_swapward_k04_rules_let
set_option Elab.async false
set_option linter.all false
set_option maxRecDepth 100000
set_option maxHeartbeats 0
namespace Sw
open PySem PySem.Spec PyProof.Rows L2
abbrev Frg:=PySem.W.Frag
def xY (K:Frg) (tf:List (He.Defn×Str)):Bool:=decide ((tf.map fun p=>(He.cT K p.1).2).Nodup)
end Sw
namespace Sw.k04
open PySem PySem.Spec PyProof.Rows L2 Sw
def top (i:Nat):Stmt:=PySem.Challenge.pw_swapward_k04_rules_let.main.body.getD i (.Pass ⟨0,0,0,0⟩)
abbrev dh:Stmt:=top 5
abbrev pK:Stmt:=top 7
abbrev cw:Stmt:=top 8
abbrev dA:Stmt:=top 9
abbrev gZ:Stmt:=top 10
abbrev g4:Stmt:=top 11
abbrev jo:Stmt:=top 12
abbrev g5:Stmt:=top 13
abbrev fQ:Stmt:=top 14
abbrev cA:Stmt:=top 15
abbrev eW:Stmt:=top 16
abbrev di:Stmt:=top 18
abbrev eF:Stmt:=top 19
abbrev cB:Stmt:=top 20
abbrev bZ:Stmt:=top 21
abbrev dj:Stmt:=top 22
abbrev dq:Stmt:=top 23
abbrev aI:Stmt:=top 24
abbrev a9:Stmt:=top 25
abbrev aX:Stmt:=top 26
abbrev b7:Stmt:=top 27
abbrev du:Stmt:=top 28
abbrev cC:Stmt:=top 29
abbrev bG:Stmt:=top 30
abbrev mM:Stmt:=top 31
def nL:He.DefD:=⟨("number_of",none),"number_of","number_of",defArgs dh,defBody dh,defScope dh,[],[]⟩
def zW:He.DefD:=⟨("gap",none),"gap","gap",defArgs pK,defBody pK,defScope pK,[],[]⟩
def nM:He.DefD:=⟨("by_groups",none),"by_groups","by_groups",defArgs cw,defBody cw,defScope cw,[],[]⟩
def pM:He.DefD:=⟨("by_marks",none),"by_marks","by_marks",defArgs dA,defBody dA,defScope dA,[],[]⟩
def pN:He.DefD:=⟨("by_sizes",none),"by_sizes","by_sizes",defArgs gZ,defBody gZ,defScope gZ,[],[]⟩
def pO:He.DefD:=⟨("opposite",none),"opposite","opposite",defArgs g4,defBody g4,defScope g4,[],[]⟩
def qV:He.DefD:=⟨("all_let",none),"all_let","all_let",defArgs jo,defBody jo,defScope jo,[],[]⟩
def pP:He.DefD:=⟨("one_lets",none),"one_lets","one_lets",defArgs g5,defBody g5,defScope g5,[],[]⟩
def qW:He.DefD:=⟨("term_of",none),"term_of","term_of",defArgs fQ,defBody fQ,defScope fQ,[],[]⟩
def mN:He.DefD:=⟨("noted_term",none),"noted_term","noted_term",defArgs cA,defBody cA,defScope cA,[],[]⟩
def qX:He.DefD:=⟨("rule_of",none),"rule_of","rule_of",defArgs eW,defBody eW,defScope eW,[],[]⟩
def nN:He.DefD:=⟨("_law_cell",none),"_law_cell","_law_cell",defArgs di,defBody di,defScope di,[],[]⟩
def pQ:He.DefD:=⟨("_law_mix",none),"_law_mix","_law_mix",defArgs eF,defBody eF,defScope eF,[],[]⟩
def mP:He.DefD:=⟨("_law_whole",none),"_law_whole","_law_whole",defArgs cB,defBody cB,defScope cB,[],[]⟩
def mQ:He.DefD:=⟨("_law_marks",none),"_law_marks","_law_marks",defArgs bZ,defBody bZ,defScope bZ,[],[]⟩
def nO:He.DefD:=⟨("_law_side",none),"_law_side","_law_side",defArgs dj,defBody dj,defScope dj,[],[]⟩
def nQ:He.DefD:=⟨("_law_term",none),"_law_term","_law_term",defArgs dq,defBody dq,defScope dq,[],[]⟩
def iy:He.DefD:=⟨("_law_alternatives",none),"_law_alternatives","_law_alternatives",defArgs aI,defBody aI,defScope aI,[],[]⟩
def jF:He.DefD:=⟨("_law_term_text",none),"_law_term_text","_law_term_text",defArgs a9,defBody a9,defScope a9,[],[]⟩
def jG:He.DefD:=⟨("_law_rule_text",none),"_law_rule_text","_law_rule_text",defArgs aX,defBody aX,defScope aX,[],[]⟩
def mR:He.DefD:=⟨("_law_plain",none),"_law_plain","_law_plain",defArgs b7,defBody b7,defScope b7,[],[]⟩
def nR:He.DefD:=⟨("_law_lets",none),"_law_lets","_law_lets",defArgs du,defBody du,defScope du,[],[]⟩
def mS:He.DefD:=⟨("_law_sides",none),"_law_sides","_law_sides",defArgs cC,defBody cC,defScope cC,[],[]⟩
def lj:He.DefD:=⟨("_law_answers",none),"_law_answers","_law_answers",defArgs bG,defBody bG,defScope bG,[],[]⟩
def zX:He.DefD:=⟨("law",none),"law","law",defArgs mM,defBody mM,defScope mM,[],[]⟩
def fnL:List He.DefD:=[nL,zW,nM,pM,pN,pO,qV,pP,qW,mN,qX,nN,pQ,mP,mQ,nO,nQ,iy,jF,jG,mR,nR,mS,lj,zX]
def faL:List He.Fa:=[.glo "number_of",.glo "gap",.glo "by_groups",.glo "by_marks",.glo "by_sizes",.glo "opposite",.glo "all_let",.glo "one_lets",.glo "term_of",.glo "noted_term",.glo "rule_of",.glo "_law_cell",.glo "_law_mix",.glo "_law_whole",.glo "_law_marks",.glo "_law_side",.glo "_law_term",.glo "_law_alternatives",.glo "_law_term_text",.glo "_law_rule_text",.glo "_law_plain",.glo "_law_lets",.glo "_law_sides",.glo "_law_answers",.glo "law",.free "abs",.free "bool",.free "int",.free "isinstance",.free "len"]++[.free "max",.free "min",.free "range",.free "str",.str "FIGURES" "0123456789"]
def exL:List (Frg->Bool):=[]
abbrev RR:PySem.W.OpenRow:=PySem.W.OpenLaw.row PySem.Challenge.rw_swapward_k04_rules_let
abbrev exB:Frg->Bool:=fun K=>exL.all fun f=>f K
def tfL:List (He.Defn×Str):=[(("by_sizes",none),(("by_sizes" :Str)++".<locals>." ++"lets")),(("opposite",none),(("opposite" :Str)++".<locals>." ++"lets")),(("all_let",none),(("all_let" :Str)++".<locals>." ++"lets")),(("one_lets",none),(("one_lets" :Str)++".<locals>." ++"lets"))]
abbrev hk:PySem.W.Hook:=He.hookX 4 faL fnL [] (tfL.map (·.1)) (fun K=>xY K tfL&&exB K)
def ob (s:PySem.W.SharedT):He.AlX:=He.obsX 4 faL fnL [] (tfL.map (·.1)) (fun K=>xY K tfL&&exB K) (HandSHeadRun.getT s)
theorem GL (s:PySem.W.SharedT):ob s=hk.obs s.abs:=He.obsX_eq (HandSHeadRun.getT_eq s)
def loose:List PySem.Str:=(["SwapError","NoRow","FIGURES","number_of","gap","by_groups","by_marks","by_sizes","opposite","all_let","one_lets","term_of","noted_term","rule_of","_law_cell","_law_mix","_law_whole","_law_marks","_law_side","_law_term","_law_alternatives","_law_term_text","_law_rule_text","_law_plain","_law_lets","_law_sides","_law_answers"]:List PySem.Str)
theorem run (w:World):HandSHeadRun.RunEq RR (PySem.W.view RR.prog [31]) hk ob 6000 loose w:=by
 intro os
 kernel_rfl
end Sw.k04
namespace Sw
open PySem PySem.Spec PyProof.Rows L2
structure FnT where
 name:Str
 qual:Str
 params:Arguments
 body:List Stmt
 scope:Scope
 y:Str
def FnT.nf (F:FnT) (c c':Addr):NdefX.NF:=⟨F.name,F.qual,F.params,F.body,F.scope,[(F.y,c)],c'⟩
def fR (c:Addr) (v:V):HO:=.ext fun h=> ∃u,L2.RelV v u/\h.IsCell c (some u)
inductive D where
 |non|bl (b:Bool)|int (i:Int)|str (x:Str)
 |lst (xs:List D)|tup (xs:List D)|dct (ks:List (Key×D))|dcT (ks:List (List Key×D))
 |ins (C:Str) (fs:List (Str×D))|fn (a:Addr)|sc (ns:List Int)
 |glf (x:Str)|clo (F:FnT) (d:D)
abbrev Sa:=Addr->Prop
def TupAt (K:Frg) (S:Sa) (H:Hp) (a:Addr) (xs:List V):Prop:=S a/\H a=some (.tup xs)
theorem TupAt.sq {K:Frg} {S:Sa} {H:Hp} {a:Addr} {xs:List V} (h:TupAt K S H a xs):SqT K H a xs:=.inl (.inl h.2)
def ED (K:Frg) (S:Sa) (H:Hp) (a:Addr) (xs:List V):Prop:=(S a/\Rd H a (.lst xs))\/SqL K (fun _=>none) a xs
theorem Cb {a:Addr} {u:HO} (h:Rd (fun _=>none) a u):False:=by
 rcases h with h|⟨_,h⟩ <;> cases h
theorem ED.sq {K:Frg} {S:Sa} {H:Hp} {a:Addr} {xs:List V} (h:ED K S H a xs):SqL K H a xs:=by
 rcases h with ⟨_,h⟩|h
 ·exact .inl h
 ·rcases h with h|h
  ·exact (Cb h).elim
  ·exact .inr h
mutual
def Rep (K:Frg) (S:Sa) (H:Hp):D->V->Prop
 | .non,v=>v= .non
 | .bl b,v=>v= .bl b
 | .int i,v=>v= .int i
 | .str x,v=>v= .str x
 | .fn a,v=>v= .ref a
 | .glf x,v=>v= .ref (He.ga K x)
 | .clo F d,v=> ∃(f c' c lo:Addr) (w:V),v= .ref f/\(S f/\H f=some (NdefX.FnO f (F.nf c c')))/\(S c'/\H c'=some (LamX.CodeO c' F.qual))/\(S c/\H c=some (fR c w))/\lo<=c/\Rep K (fun p=>S p/\p<lo) H d w
 | .lst ds,v=> ∃a vs,v= .ref a/\S a/\H a=some (.lst vs)/\aB K S H ds vs
 | .sc ns,v=> ∃a,v= .ref a/\ED K S H a (ns.map V.int)
 | .tup ds,v=> ∃a vs,v= .ref a/\TupAt K S H a vs/\aB K S H ds vs
 | .dct ks,v=> ∃a kvs,v= .ref a/\S a/\Rd H a (.dK kvs)/\(ks.map (·.1)).Nodup/\bE K S H ks kvs
 | .dcT ks,v=> ∃a kvs,v= .ref a/\S a/\Rd H a (.dT kvs)/\(ks.map (·.1)).Nodup/\fu K S H ks kvs
 | .ins C fds,v=> ∃a dx fs,v= .ref a/\S a/\H a=some (.ins (He.ga K C) dx fs)/\fv K S H fds fs
def aB (K:Frg) (S:Sa) (H:Hp):List D->List V->Prop
 | [],vs=>vs=[]
 |d::ds,vs=> ∃v r,vs=v::r/\Rep K S H d v/\aB K S H ds r
def bE (K:Frg) (S:Sa) (H:Hp):List (Key×D)->List (Key×V)->Prop
 | [],vs=>vs=[]
 |(k,d)::ds,vs=> ∃v r,vs=(k,v)::r/\Rep K S H d v/\bE K S H ds r
def fu (K:Frg) (S:Sa) (H:Hp):List (List Key×D)->List (List Key×V)->Prop
 | [],vs=>vs=[]
 |(k,d)::ds,vs=> ∃v r,vs=(k,v)::r/\Rep K S H d v/\fu K S H ds r
def fv (K:Frg) (S:Sa) (H:Hp):List (Str×D)->List (Str×V)->Prop
 | [],vs=>vs=[]
 |(k,d)::ds,vs=> ∃v r,vs=(k,v)::r/\Rep K S H d v/\fv K S H ds r
end
def Pl:HO->Prop
 | .frz _ _=>False
 | .tbl _=>False
 |_=>True
def Sc:HO->Prop
 | .lst _=>True| .tup _=>True| .ins _ _ _=>True| .ext _=>True
 |_=>False
structure jt (H H':Hp) (p:Addr):Prop where
 rd: ∀u,Pl u->Rd H p u->Rd H' p u
 st: ∀u,Sc u->H p=some u->H' p=some u
theorem jt.of_eq {H H':Hp} {p:Addr} (h: ∀u,H p=some u->H' p=some u):jt H H' p:=
 ⟨fun u _ r=>r.elim (fun r=>.inl (h _ r)) fun⟨o,r⟩=>.inr ⟨o,h _ r⟩,fun _ _ e=>h _ e⟩
theorem jt.trans {H H1 H2:Hp} {p:Addr} (a:jt H H1 p) (b:jt H1 H2 p):jt H H2 p:=
 ⟨fun u hu r=>b.rd u hu (a.rd u hu r),fun u hu e=>b.st u hu (a.st u hu e)⟩
def Agr (S:Sa) (H H':Hp):Prop:= ∀p,S p->jt H H' p
section
variable {K:Frg} {S S':Sa} {H H':Hp}
theorem TupAt.mono (hS: ∀p,S p->S' p) (ha:Agr S H H') {a:Addr} {xs:List V} (h:TupAt K S H a xs):TupAt K S' H' a xs:=
 ⟨hS _ h.1,(ha a h.1).st _ trivial h.2⟩
mutual
theorem Rep.mono {S S':Sa} (hS: ∀p,S p->S' p) (ha:Agr S H H'): ∀(d:D) (v:V),Rep K S H d v->Rep K S' H' d v
 | .non,_,h=>h
 | .bl _,_,h=>h
 | .int _,_,h=>h
 | .str _,_,h=>h
 | .fn _,_,h=>h
 | .glf _,_,h=>h
 | .clo F d,v,h=>by
  unfold Rep at h⊢
  obtain⟨f,c',c,lo,w,e,⟨s1,h1⟩,⟨s2,h2⟩,⟨s3,h3⟩,l,r⟩:=h
  exact⟨f,c',c,lo,w,e,⟨hS _ s1,(ha f s1).st _ trivial h1⟩,⟨hS _ s2,(ha c' s2).st _ trivial h2⟩,⟨hS _ s3,(ha c s3).st _ trivial h3⟩,l,Rep.mono (fun p s=>⟨hS p s.1,s.2⟩) (fun p s=>ha p s.1) d w r⟩
 | .lst ds,v,h=>by
  unfold Rep at h⊢
  obtain⟨a,vs,e,s,l,r⟩:=h
  exact⟨a,vs,e,hS _ s,(ha a s).st _ trivial l,aB.mono hS ha ds vs r⟩
 | .sc ns,v,h=>by
  unfold Rep at h⊢
  obtain⟨a,e,l⟩:=h
  exact⟨a,e,l.imp (fun⟨s,r⟩=>⟨hS _ s,(ha a s).rd _ trivial r⟩) id⟩
 | .tup ds,v,h=>by
  unfold Rep at h⊢
  obtain⟨a,vs,e,l,r⟩:=h
  exact⟨a,vs,e,l.mono hS ha,aB.mono hS ha ds vs r⟩
 | .dct ks,v,h=>by
  unfold Rep at h⊢
  obtain⟨a,kvs,e,s,l,n,r⟩:=h
  exact⟨a,kvs,e,hS _ s,(ha a s).rd _ trivial l,n,bE.mono hS ha ks kvs r⟩
 | .dcT ks,v,h=>by
  unfold Rep at h⊢
  obtain⟨a,kvs,e,s,l,n,r⟩:=h
  exact⟨a,kvs,e,hS _ s,(ha a s).rd _ trivial l,n,fu.mono hS ha ks kvs r⟩
 | .ins C fds,v,h=>by
  unfold Rep at h⊢
  obtain⟨a,dx,fs,e,s,l,r⟩:=h
  exact⟨a,dx,fs,e,hS _ s,(ha a s).st _ trivial l,fv.mono hS ha fds fs r⟩
theorem aB.mono {S S':Sa} (hS: ∀p,S p->S' p) (ha:Agr S H H'): ∀(ds:List D) (vs:List V),aB K S H ds vs->aB K S' H' ds vs
 | [],_,h=>by unfold aB at h ⊢; exact h
 |d::ds,vs,h=>by
  unfold aB at h⊢
  obtain⟨v,r,e,h1,h2⟩:=h
  exact⟨v,r,e,Rep.mono hS ha d v h1,aB.mono hS ha ds r h2⟩
theorem bE.mono {S S':Sa} (hS: ∀p,S p->S' p) (ha:Agr S H H'): ∀(ds:List (Key×D)) (vs:List (Key×V)),bE K S H ds vs->bE K S' H' ds vs
 | [],_,h=>by unfold bE at h ⊢; exact h
 |(k,d)::ds,vs,h=>by
  unfold bE at h⊢
  obtain⟨v,r,e,h1,h2⟩:=h
  exact⟨v,r,e,Rep.mono hS ha d v h1,bE.mono hS ha ds r h2⟩
theorem fu.mono {S S':Sa} (hS: ∀p,S p->S' p) (ha:Agr S H H'): ∀(ds:List (List Key×D)) (vs:List (List Key×V)),fu K S H ds vs->fu K S' H' ds vs
 | [],_,h=>by unfold fu at h ⊢; exact h
 |(k,d)::ds,vs,h=>by
  unfold fu at h⊢
  obtain⟨v,r,e,h1,h2⟩:=h
  exact⟨v,r,e,Rep.mono hS ha d v h1,fu.mono hS ha ds r h2⟩
theorem fv.mono {S S':Sa} (hS: ∀p,S p->S' p) (ha:Agr S H H'): ∀(ds:List (Str×D)) (vs:List (Str×V)),fv K S H ds vs->fv K S' H' ds vs
 | [],_,h=>by unfold fv at h ⊢; exact h
 |(k,d)::ds,vs,h=>by
  unfold fv at h⊢
  obtain⟨v,r,e,h1,h2⟩:=h
  exact⟨v,r,e,Rep.mono hS ha d v h1,fv.mono hS ha ds r h2⟩
end
theorem aB.length: ∀{ds:List D} {vs:List V},aB K S H ds vs->vs.length=ds.length
 | [],_,h=>by unfold aB at h;rw[h];rfl
 |d::ds,vs,h=>by
  unfold aB at h
  obtain⟨v,r,rfl,_,h2⟩:=h
  rw[List.length_cons,List.length_cons,aB.length h2]
theorem aB.get: ∀{ds:List D} {vs:List V} {i:Nat} {d:D},aB K S H ds vs->ds[i]? =some d-> ∃v,vs[i]? =some v/\Rep K S H d v
 | [],_,_,_,_,e=>by simp at e
 |d::ds,vs,0,_,h,e=>by
  unfold aB at h
  obtain⟨v,r,rfl,h1,h2⟩:=h
  simp at e
  exact⟨v,rfl,e▸h1⟩
 |d::ds,vs,i+1,d',h,e=>by
  unfold aB at h
  obtain⟨v,r,rfl,h1,h2⟩:=h
  obtain⟨v',e1,e2⟩:=aB.get (i:=i) (d:=d') h2 (by simpa using e)
  exact⟨v',by simpa using e1,e2⟩
theorem aB.append: ∀{ds es:List D} {vs ws:List V},aB K S H ds vs->aB K S H es ws->aB K S H (ds++es) (vs++ws)
 | [],_,_,_,h,g=>by unfold aB at h;rw[h];exact g
 |d::ds,es,vs,ws,h,g=>by
  unfold aB at h
  obtain⟨v,r,rfl,h1,h2⟩:=h
  show aB K S H (d::(ds++es)) (v::(r++ws))
  unfold aB
  exact⟨v,r++ws,rfl,h1,aB.append h2 g⟩
theorem aB.nil:aB K S H [] []:=by unfold aB;rfl
theorem aB.cons {d:D} {v:V} {ds:List D} {vs:List V} (h:Rep K S H d v) (g:aB K S H ds vs):aB K S H (d::ds) (v::vs):=by
 unfold aB;exact⟨v,vs,rfl,h,g⟩
theorem aB.one {d:D} {v:V} (h:Rep K S H d v):aB K S H [d] [v]:=.cons h .nil
theorem aB.take: ∀{ds:List D} {vs:List V} (n:Nat),aB K S H ds vs->aB K S H (ds.take n) (vs.take n)
 |_,_,0,_=>aB.nil
 | [],_,n+1,h=>by unfold aB at h;rw[h];exact aB.nil
 |d::ds,vs,n+1,h=>by
  unfold aB at h
  obtain⟨v,r,rfl,h1,h2⟩:=h
  exact .cons h1 (aB.take n h2)
theorem aB.drop: ∀{ds:List D} {vs:List V} (n:Nat),aB K S H ds vs->aB K S H (ds.drop n) (vs.drop n)
 |_,_,0,h=>h
 | [],_,n+1,h=>by unfold aB at h;rw[h];exact aB.nil
 |d::ds,vs,n+1,h=>by
  unfold aB at h
  obtain⟨v,r,rfl,h1,h2⟩:=h
  exact aB.drop n h2
theorem bE.keys: ∀{ks:List (Key×D)} {kvs:List (Key×V)},bE K S H ks kvs->kvs.map (·.1)=ks.map (·.1)
 | [],_,h=>by unfold bE at h;rw[h];rfl
 |(k,d)::ks,_,h=>by
  unfold bE at h
  obtain⟨v,r,rfl,_,h2⟩:=h
  rw[List.map_cons,List.map_cons,bE.keys h2]
end
section
variable {κ α:Type} [DecidableEq κ]
def aD (ks:List (κ×α)) (k:κ):Option α:=(ks.find? fun p=>decide (p.1=k)).map (·.2)
def bH:List (κ×α)->κ->α->List (κ×α)
 | [],k,x=>[(k,x)]
 |p::r,k,x=>if p.1=k then (k,x)::r else p::bH r k x
def qY (ks:List (κ×α)) (k:κ):List (κ×α):=ks.filter fun p=>decide (p.1≠k)
theorem bc (p:κ×α) (r:List (κ×α)) (k:κ):aD (p::r) k=if p.1=k then some p.2 else aD r k:=by
 unfold aD
 rw[List.find?_cons]
 by_cases h:p.1=k <;> simp[h]
theorem mh (k:κ) (x:α): ∀ks:List (κ×α),(bH ks k x).map (·.1)=if (aD ks k).isSome=true then ks.map (·.1) else ks.map (·.1)++[k]
 | []=>rfl
 |p::r=>by
  rw[bc]
  unfold bH
  by_cases e:p.1=k
  ·simp[e]
  ·simp only[e,if_false,List.map_cons,mh k x r]
   split <;> simp
theorem jZ {k:κ} {x:α}: ∀{ks:List (κ×α)},aD ks k=some x->(k,x)∈ks
 |p::r,h=>by
  rw[bc] at h
  by_cases e:p.1=k
  ·simp only[e,if_true,Option.some.injEq] at h
   subst h;subst e
   exact List.mem_cons_self
  ·simp only[e,if_false] at h
   exact List.mem_cons_of_mem _ (jZ h)
theorem oO {k:κ}: ∀{ks:List (κ×α)},aD ks k=none↔k∉ks.map (·.1)
 | []=>by simp[aD]
 |p::r=>by
  rw[bc,List.map_cons,List.mem_cons]
  by_cases e:p.1=k
  ·simp[e]
  ·simp only[e,if_false,oO (ks:=r),not_or]
   exact⟨fun h=>⟨fun q=>e q.symm,h⟩,fun h=>h.2⟩
theorem fL {k:κ} {x:α} {ks:List (κ×α)} (h:(ks.map (·.1)).Nodup):((bH ks k x).map (·.1)).Nodup:=by
 rw[mh]
 split
 ·exact h
 ·rename_i q
  have:aD ks k=none:=by simpa using q
  rw[oO] at this
  rw[List.nodup_append]
  exact⟨h,by simp,fun a ha b hb e=>by simp at hb;subst hb;subst e;exact this ha⟩
theorem mi {k:κ} {x:α}: ∀{ks:List (κ×α)},aD ks k=some x->bH ks k x=ks
 |p::r,h=>by
  rw[bc] at h
  unfold bH
  by_cases e:p.1=k
  ·simp only[e,if_true,Option.some.injEq] at h⊢
   rw[<-h,←e]
  ·simp only[e,if_false] at h⊢
   rw[mi h]
end
section
variable {K:Frg} {S S':Sa} {H H':Hp}
theorem bE.nil:bE K S H [] []:=by unfold bE;rfl
theorem bE.cons {k:Key} {d:D} {v:V} {ds:List (Key×D)} {vs:List (Key×V)} (h:Rep K S H d v) (g:bE K S H ds vs):bE K S H ((k,d)::ds) ((k,v)::vs):=by
 unfold bE;exact⟨v,vs,rfl,h,g⟩
theorem bE.get: ∀{ks:List (Key×D)} {kvs:List (Key×V)} (k:Key),bE K S H ks kvs->(∀d,aD ks k=some d-> ∃v,valV kvs k=some v/\Rep K S H d v)/\(aD ks k=none->valV kvs k=none)
 | [],_,k,h=>by
  unfold bE at h
  rw[h]
  exact⟨fun d e=>(nomatch e),fun _=>rfl⟩
 |(j,d)::ks,_,k,h=>by
  unfold bE at h
  obtain⟨v,r,rfl,h1,h2⟩:=h
  have ih:=bE.get k h2
  rw[bc]
  by_cases e:j=k
  ·subst e
   rw[valV_pos rfl]
   simp only[if_true]
   exact⟨fun d' e'=>⟨v,rfl,(Option.some.inj e')▸h1⟩,fun e'=>(nomatch e')⟩
  ·rw[valV_neg (show ¬(j,v).1=k from e)]
   simp only[e,if_false]
   exact ih
theorem bE.append: ∀{ks js:List (Key×D)} {vs ws:List (Key×V)},bE K S H ks vs->bE K S H js ws->bE K S H (ks++js) (vs++ws)
 | [],_,_,_,h,g=>by unfold bE at h;rw[h];exact g
 |(k,d)::ks,js,_,ws,h,g=>by
  unfold bE at h
  obtain⟨v,r,rfl,h1,h2⟩:=h
  exact .cons h1 (bE.append h2 g)
end
end Sw
namespace Sw
open PySem PySem.Spec PyProof.Rows L2
inductive Sh where
 |fz|ls (s:Sh)|dc (s:Sh)|dt (s:Sh)|is (fs:List (Str×Sh))|dk (od:Obj) (kvs:List (Key×V)) (s:Sh)|lz|op (s:Sh)|tp (s:Sh)|hl (ss:List Sh)|tq (ss:List Sh)|ex (v:V)
section
variable {α β:Type}
def fx (R:D->V->List Addr->Prop):List D->List V->List Addr->Prop
 | [],vs,L=>vs=[]/\L=[]
 |d::ds,vs,L=> ∃v r L1 L2,vs=v::r/\R d v L1/\fx R ds r L2/\L=L1++L2
def cU {κ:Type} (R:D->V->List Addr->Prop):List (κ×D)->List (κ×V)->List Addr->Prop
 | [],vs,L=>vs=[]/\L=[]
 |(k,d)::ds,vs,L=> ∃v r L1 L2,vs=(k,v)::r/\R d v L1/\cU R ds r L2/\L=L1++L2
end
mutual
def Own (K:Frg) (G:Sa) (H:Hp):Sh->D->V->List Addr->Prop
 | .fz,d,v,L=>Rep K G H d v/\L=[]
 | .ex v0,d,v,L=>v=v0/\Rep K G H d v/\L=[]
 | .ls s,d,v,L=> ∃a vs ds L',d= .lst ds/\v= .ref a/\H a=some (.lst vs)/\fx (Own K G H s) ds vs L'/\L=a::L'
 | .dc s,d,v,L=> ∃a vs ds L',d= .dct ds/\v= .ref a/\H a=some (.dK vs)/\(ds.map (·.1)).Nodup/\cU (Own K G H s) ds vs L'/\L=a::L'
 | .dt s,d,v,L=> ∃a vs ds L',d= .dcT ds/\v= .ref a/\H a=some (.dT vs)/\(ds.map (·.1)).Nodup/\cU (Own K G H s) ds vs L'/\L=a::L'
 | .dk od kvs s,d,v,L=> ∃a ds L',d= .dct ds/\v= .ref a/\H a=some (.frz od (.dK kvs))/\(ds.map (·.1)).Nodup/\cU (Own K G H s) ds kvs L'/\L=a::L'
 | .lz,d,v,L=> ∃a vs ds L',d= .lst ds/\v= .ref a/\H a=some (.lst vs)/\(∀p∈L',∃us,H p=some (.lst us))/\aB K (fun p=>p∈L'\/(G p/\ ∃xs,H p=some (.tup xs))) H ds vs/\L=a::L'
 | .op s,d,v,L=>(d= .non/\v= .non/\L=[])\/Own K G H s d v L
 | .tp s,d,v,L=> ∃a vs ds,d= .tup ds/\v= .ref a/\G a/\H a=some (.tup vs)/\fx (Own K G H s) ds vs L
 | .hl ss,d,v,L=> ∃a vs ds L',d= .lst ds/\v= .ref a/\H a=some (.lst vs)/\eG K G H ss ds vs L'/\L=a::L'
 | .tq ss,d,v,L=> ∃a vs ds,d= .tup ds/\v= .ref a/\G a/\H a=some (.tup vs)/\eG K G H ss ds vs L
 | .is fs,d,v,L=> ∃a C dx vs ds L',d= .ins C ds/\v= .ref a/\H a=some (.ins (He.ga K C) dx vs)/\cV K G H fs ds vs L'/\L=a::L'
def cV (K:Frg) (G:Sa) (H:Hp):List (Str×Sh)->List (Str×D)->List (Str×V)->List Addr->Prop
 | [],ds,vs,L=>ds=[]/\vs=[]/\L=[]
 |(f,s)::fs,ds,vs,L=> ∃d dr v vr L1 L2,ds=(f,d)::dr/\vs=(f,v)::vr/\Own K G H s d v L1/\cV K G H fs dr vr L2/\L=L1++L2
def eG (K:Frg) (G:Sa) (H:Hp):List Sh->List D->List V->List Addr->Prop
 | [],ds,vs,L=>ds=[]/\vs=[]/\L=[]
 |s::ss,ds,vs,L=> ∃d dr v vr L1 L2,ds=d::dr/\vs=v::vr/\Own K G H s d v L1/\eG K G H ss dr vr L2/\L=L1++L2
end
section
variable {K:Frg} {G G':Sa} {H H':Hp}
theorem fx.mono {R R':D->V->List Addr->Prop} {P:Addr->Prop} (h: ∀d v L,(∀p∈L,P p)->R d v L->R' d v L): ∀(ds:List D) (vs:List V) (L:List Addr),(∀p∈L,P p)->fx R ds vs L->fx R' ds vs L
 | [],_,_,_,o=>o
 |d::ds,_,_,hp,⟨v,r,L1,L2,e1,o1,o2,e2⟩=>by
  subst e2
  exact⟨v,r,L1,L2,e1,h _ _ _ (fun p m=>hp p (List.mem_append_left _ m)) o1,fx.mono h ds r L2 (fun p m=>hp p (List.mem_append_right _ m)) o2,rfl⟩
theorem cU.mono {κ:Type} {R R':D->V->List Addr->Prop} {P:Addr->Prop} (h: ∀d v L,(∀p∈L,P p)->R d v L->R' d v L): ∀(ds:List (κ×D)) (vs:List (κ×V)) (L:List Addr),(∀p∈L,P p)->cU R ds vs L->cU R' ds vs L
 | [],_,_,_,o=>o
 |(k,d)::ds,_,_,hp,⟨v,r,L1,L2,e1,o1,o2,e2⟩=>by
  subst e2
  exact⟨v,r,L1,L2,e1,h _ _ _ (fun p m=>hp p (List.mem_append_left _ m)) o1,cU.mono h ds r L2 (fun p m=>hp p (List.mem_append_right _ m)) o2,rfl⟩
mutual
theorem Own.mono (hG: ∀p,G p->G' p) (ha:Agr G H H'): ∀(s:Sh) (d:D) (v:V) (L:List Addr),(∀p∈L,H' p=H p)->Own K G H s d v L->Own K G' H' s d v L
 | .fz,d,v,L,_,o=>by
  unfold Own at o⊢
  exact⟨Rep.mono hG ha d v o.1,o.2⟩
 | .ex _,d,v,L,_,o=>by
  unfold Own at o⊢
  exact⟨o.1,Rep.mono hG ha d v o.2.1,o.2.2⟩
 | .ls s,d,v,L,hl,o=>by
  unfold Own at o⊢
  obtain⟨a,vs,ds,L',e1,e2,e3,o1,rfl⟩:=o
  exact⟨a,vs,ds,L',e1,e2,(hl a List.mem_cons_self).trans e3,fx.mono (fun d v L hp o=>Own.mono hG ha s d v L hp o) ds vs L' (fun p m=>hl p (List.mem_cons_of_mem _ m)) o1,rfl⟩
 | .dc s,d,v,L,hl,o=>by
  unfold Own at o⊢
  obtain⟨a,vs,ds,L',e1,e2,e3,nd,o1,rfl⟩:=o
  exact⟨a,vs,ds,L',e1,e2,(hl a List.mem_cons_self).trans e3,nd,cU.mono (fun d v L hp o=>Own.mono hG ha s d v L hp o) ds vs L' (fun p m=>hl p (List.mem_cons_of_mem _ m)) o1,rfl⟩
 | .dt s,d,v,L,hl,o=>by
  unfold Own at o⊢
  obtain⟨a,vs,ds,L',e1,e2,e3,nd,o1,rfl⟩:=o
  exact⟨a,vs,ds,L',e1,e2,(hl a List.mem_cons_self).trans e3,nd,cU.mono (fun d v L hp o=>Own.mono hG ha s d v L hp o) ds vs L' (fun p m=>hl p (List.mem_cons_of_mem _ m)) o1,rfl⟩
 | .dk od kvs s,d,v,L,hl,o=>by
  unfold Own at o⊢
  obtain⟨a,ds,L',e1,e2,e3,nd,o1,rfl⟩:=o
  exact⟨a,ds,L',e1,e2,(hl a List.mem_cons_self).trans e3,nd,cU.mono (fun d v L hp o=>Own.mono hG ha s d v L hp o) ds kvs L' (fun p m=>hl p (List.mem_cons_of_mem _ m)) o1,rfl⟩
 | .lz,d,v,L,hl,o=>by
  unfold Own at o⊢
  obtain⟨a,vs,ds,L',e1,e2,e3,nd,o1,rfl⟩:=o
  have hl': ∀p∈L',H' p=H p:=fun p m=>hl p (List.mem_cons_of_mem _ m)
  have tup: ∀p,G p->(∃xs,H p=some (.tup xs))-> ∃xs,H' p=some (.tup xs):=fun p g ⟨xs,e⟩=>⟨xs,(ha p g).st _ (by trivial) e⟩
  refine⟨a,vs,ds,L',e1,e2,(hl a List.mem_cons_self).trans e3,fun p m=>by rw[hl' p m];exact nd p m,aB.mono (fun p s=>s.imp id fun s=>⟨hG p s.1,tup p s.1 s.2⟩) (fun p s=> ?_) ds vs o1,rfl⟩
  rcases s with s|s
  ·exact jt.of_eq fun u e=>by rw[hl' p s];exact e
  ·exact ha p s.1
 | .op s,d,v,L,hl,o=>by
  unfold Own at o⊢
  exact o.imp id fun o=>Own.mono hG ha s d v L hl o
 | .tp s,d,v,L,hl,o=>by
  unfold Own at o⊢
  obtain⟨a,vs,ds,e1,e2,g,e3,o1⟩:=o
  exact⟨a,vs,ds,e1,e2,hG a g,(ha a g).st _ (by trivial) e3,fx.mono (fun d v L hp o=>Own.mono hG ha s d v L hp o) ds vs L hl o1⟩
 | .tq ss,d,v,L,hl,o=>by
  unfold Own at o⊢
  obtain⟨a,vs,ds,e1,e2,g,e3,o1⟩:=o
  exact⟨a,vs,ds,e1,e2,hG a g,(ha a g).st _ (by trivial) e3,eG.mono hG ha ss ds vs L hl o1⟩
 | .hl ss,d,v,L,hl,o=>by
  unfold Own at o⊢
  obtain⟨a,vs,ds,L',e1,e2,e3,o1,rfl⟩:=o
  exact⟨a,vs,ds,L',e1,e2,(hl a List.mem_cons_self).trans e3,eG.mono hG ha ss ds vs L' (fun p m=>hl p (List.mem_cons_of_mem _ m)) o1,rfl⟩
 | .is fs,d,v,L,hl,o=>by
  unfold Own at o⊢
  obtain⟨a,C,dx,vs,ds,L',e1,e2,e3,o1,rfl⟩:=o
  exact⟨a,C,dx,vs,ds,L',e1,e2,(hl a List.mem_cons_self).trans e3,cV.mono hG ha fs ds vs L' (fun p m=>hl p (List.mem_cons_of_mem _ m)) o1,rfl⟩
theorem cV.mono (hG: ∀p,G p->G' p) (ha:Agr G H H'): ∀(fs:List (Str×Sh)) (ds:List (Str×D)) (vs:List (Str×V)) (L:List Addr),(∀p∈L,H' p=H p)->cV K G H fs ds vs L->cV K G' H' fs ds vs L
 | [],_,_,_,_,o=>by unfold cV at o ⊢; exact o
 |(f,s)::fs,_,_,L,hl,o=>by
  unfold cV at o⊢
  obtain⟨d,dr,v,vr,L1,L2,e1,e2,o1,o2,rfl⟩:=o
  exact⟨d,dr,v,vr,L1,L2,e1,e2,Own.mono hG ha s d v L1 (fun p m=>hl p (List.mem_append_left _ m)) o1,cV.mono hG ha fs dr vr L2 (fun p m=>hl p (List.mem_append_right _ m)) o2,rfl⟩
theorem eG.mono (hG: ∀p,G p->G' p) (ha:Agr G H H'): ∀(ss:List Sh) (ds:List D) (vs:List V) (L:List Addr),(∀p∈L,H' p=H p)->eG K G H ss ds vs L->eG K G' H' ss ds vs L
 | [],_,_,_,_,o=>by unfold eG at o ⊢; exact o
 |s::ss,_,_,L,hl,o=>by
  unfold eG at o⊢
  obtain⟨d,dr,v,vr,L1,L2,e1,e2,o1,o2,rfl⟩:=o
  exact⟨d,dr,v,vr,L1,L2,e1,e2,Own.mono hG ha s d v L1 (fun p m=>hl p (List.mem_append_left _ m)) o1,eG.mono hG ha ss dr vr L2 (fun p m=>hl p (List.mem_append_right _ m)) o2,rfl⟩
end
def Nd:HO->Prop
 | .lst _=>True| .dK _=>True| .dT _=>True| .ins _ _ _=>True| .frz _ (.dK _)=>True| .frz _ (.dT _)=>True
 |_=>False
def Ndd (H:Hp) (p:Addr):Prop:= ∃u,H p=some u/\Nd u
theorem fx.kind {R:D->V->List Addr->Prop} (h: ∀d v L,R d v L-> ∀p∈L,Ndd H p): ∀(ds:List D) (vs:List V) (L:List Addr),fx R ds vs L-> ∀p∈L,Ndd H p
 | [],_,_,o,p,m=>by rw[o.2] at m;cases m
 |d::ds,_,_,⟨v,r,L1,L2,e1,o1,o2,e2⟩,p,m=>by
  subst e2
  rcases List.mem_append.mp m with m|m
  ·exact h _ _ _ o1 p m
  ·exact fx.kind h ds r L2 o2 p m
theorem cU.kind {κ:Type} {R:D->V->List Addr->Prop} (h: ∀d v L,R d v L-> ∀p∈L,Ndd H p): ∀(ds:List (κ×D)) (vs:List (κ×V)) (L:List Addr),cU R ds vs L-> ∀p∈L,Ndd H p
 | [],_,_,o,p,m=>by rw[o.2] at m;cases m
 |(k,d)::ds,_,_,⟨v,r,L1,L2,e1,o1,o2,e2⟩,p,m=>by
  subst e2
  rcases List.mem_append.mp m with m|m
  ·exact h _ _ _ o1 p m
  ·exact cU.kind h ds r L2 o2 p m
mutual
theorem Own.kind: ∀(s:Sh) (d:D) (v:V) (L:List Addr),Own K G H s d v L-> ∀p∈L,Ndd H p
 | .fz,d,v,L,o,p,m=>by
  unfold Own at o
  rw[o.2] at m;cases m
 | .ex _,d,v,L,o,p,m=>by
  unfold Own at o
  rw[o.2.2] at m;cases m
 | .ls s,d,v,L,o,p,m=>by
  unfold Own at o
  obtain⟨a,vs,ds,L',e1,e2,e3,o1,rfl⟩:=o
  rcases List.mem_cons.mp m with rfl|m
  ·exact⟨_,e3,trivial⟩
  ·exact fx.kind (fun d v L o=>Own.kind s d v L o) ds vs L' o1 p m
 | .dc s,d,v,L,o,p,m=>by
  unfold Own at o
  obtain⟨a,vs,ds,L',e1,e2,e3,nd,o1,rfl⟩:=o
  rcases List.mem_cons.mp m with rfl|m
  ·exact⟨_,e3,trivial⟩
  ·exact cU.kind (fun d v L o=>Own.kind s d v L o) ds vs L' o1 p m
 | .dt s,d,v,L,o,p,m=>by
  unfold Own at o
  obtain⟨a,vs,ds,L',e1,e2,e3,nd,o1,rfl⟩:=o
  rcases List.mem_cons.mp m with rfl|m
  ·exact⟨_,e3,trivial⟩
  ·exact cU.kind (fun d v L o=>Own.kind s d v L o) ds vs L' o1 p m
 | .dk od kvs s,d,v,L,o,p,m=>by
  unfold Own at o
  obtain⟨a,ds,L',e1,e2,e3,nd,o1,rfl⟩:=o
  rcases List.mem_cons.mp m with rfl|m
  ·exact⟨_,e3,trivial⟩
  ·exact cU.kind (fun d v L o=>Own.kind s d v L o) ds kvs L' o1 p m
 | .lz,d,v,L,o,p,m=>by
  unfold Own at o
  obtain⟨a,vs,ds,L',e1,e2,e3,nd,o1,rfl⟩:=o
  rcases List.mem_cons.mp m with rfl|m
  ·exact⟨_,e3,trivial⟩
  ·obtain⟨us,e⟩:=nd p m
   exact⟨_,e,trivial⟩
 | .op s,d,v,L,o,p,m=>by
  unfold Own at o
  rcases o with ⟨_,_,e⟩|o
  ·rw[e] at m;cases m
  ·exact Own.kind s d v L o p m
 | .tp s,d,v,L,o,p,m=>by
  unfold Own at o
  obtain⟨a,vs,ds,e1,e2,g,e3,o1⟩:=o
  exact fx.kind (fun d v L o=>Own.kind s d v L o) ds vs L o1 p m
 | .tq ss,d,v,L,o,p,m=>by
  unfold Own at o
  obtain⟨a,vs,ds,e1,e2,g,e3,o1⟩:=o
  exact eG.kind ss ds vs L o1 p m
 | .hl ss,d,v,L,o,p,m=>by
  unfold Own at o
  obtain⟨a,vs,ds,L',e1,e2,e3,o1,rfl⟩:=o
  rcases List.mem_cons.mp m with rfl|m
  ·exact⟨_,e3,trivial⟩
  ·exact eG.kind ss ds vs L' o1 p m
 | .is fs,d,v,L,o,p,m=>by
  unfold Own at o
  obtain⟨a,C,dx,vs,ds,L',e1,e2,e3,o1,rfl⟩:=o
  rcases List.mem_cons.mp m with rfl|m
  ·exact⟨_,e3,trivial⟩
  ·exact cV.kind fs ds vs L' o1 p m
theorem cV.kind: ∀(fs:List (Str×Sh)) (ds:List (Str×D)) (vs:List (Str×V)) (L:List Addr),cV K G H fs ds vs L-> ∀p∈L,Ndd H p
 | [],_,_,L,o,p,m=>by
  unfold cV at o
  rw[o.2.2] at m;cases m
 |(f,s)::fs,_,_,L,o,p,m=>by
  unfold cV at o
  obtain⟨d,dr,v,vr,L1,L2,e1,e2,o1,o2,rfl⟩:=o
  rcases List.mem_append.mp m with m|m
  ·exact Own.kind s d v L1 o1 p m
  ·exact cV.kind fs dr vr L2 o2 p m
theorem eG.kind: ∀(ss:List Sh) (ds:List D) (vs:List V) (L:List Addr),eG K G H ss ds vs L-> ∀p∈L,Ndd H p
 | [],_,_,L,o,p,m=>by
  unfold eG at o
  rw[o.2.2] at m;cases m
 |s::ss,_,_,L,o,p,m=>by
  unfold eG at o
  obtain⟨d,dr,v,vr,L1,L2,e1,e2,o1,o2,rfl⟩:=o
  rcases List.mem_append.mp m with m|m
  ·exact Own.kind s d v L1 o1 p m
  ·exact eG.kind ss dr vr L2 o2 p m
end
theorem au {S:Sa} {H:Hp}:Agr S H H:=fun p _=>jt.of_eq fun _ e=>e
theorem EE {S:Sa} {H H':Hp} (h: ∀p u,H p=some u->(∀ps,u≠ .tbl ps)->H' p=some u):Agr S H H':=fun p _=>
 ⟨fun u hu r=>r.elim (fun r=>.inl (h _ _ r (fun ps z=>by subst z;exact hu))) fun⟨o,r⟩=>.inr ⟨o,h _ _ r fun _ z=>by cases z⟩,fun u hu e=>h _ _ e (fun ps z=>by subst z;exact hu)⟩
theorem mZ {S:Sa} {H H':Hp} (h: ∀p u,H p=some u->H' p=some u):Agr S H H':=fun p _=>jt.of_eq (h p)
theorem fx.rep {R:D->V->List Addr->Prop} (h: ∀d v L,R d v L->Rep K (fun p=>G p\/p∈L) H d v): ∀(ds:List D) (vs:List V) (L:List Addr),fx R ds vs L->aB K (fun p=>G p\/p∈L) H ds vs
 | [],_,_,o=>by rw[o.1];exact .nil
 |d::ds,_,_,⟨v,r,L1,L2,e1,o1,o2,e2⟩=>by
  subst e2;subst e1
  exact .cons (Rep.mono (fun p x=>x.imp id (List.mem_append_left _)) au _ _ (h _ _ _ o1)) (aB.mono (fun p x=>x.imp id (List.mem_append_right _)) au _ _ (fx.rep h ds r L2 o2))
theorem cU.EF {R:D->V->List Addr->Prop} (h: ∀d v L,R d v L->Rep K (fun p=>G p\/p∈L) H d v): ∀(ds:List (Key×D)) (vs:List (Key×V)) (L:List Addr),cU R ds vs L->bE K (fun p=>G p\/p∈L) H ds vs
 | [],_,_,o=>by rw[o.1];exact .nil
 |(k,d)::ds,_,_,⟨v,r,L1,L2,e1,o1,o2,e2⟩=>by
  subst e2;subst e1
  exact .cons (Rep.mono (fun p x=>x.imp id (List.mem_append_left _)) au _ _ (h _ _ _ o1)) (bE.mono (fun p x=>x.imp id (List.mem_append_right _)) au _ _ (cU.EF h ds r L2 o2))
theorem cU.GN {R:D->V->List Addr->Prop} (h: ∀d v L,R d v L->Rep K (fun p=>G p\/p∈L) H d v): ∀(ds:List (List Key×D)) (vs:List (List Key×V)) (L:List Addr),cU R ds vs L->fu K (fun p=>G p\/p∈L) H ds vs
 | [],_,_,o=>by rw[o.1];unfold fu;rfl
 |(k,d)::ds,_,_,⟨v,r,L1,L2,e1,o1,o2,e2⟩=>by
  subst e2;subst e1
  unfold fu
  exact⟨v,r,rfl,Rep.mono (fun p x=>x.imp id (List.mem_append_left _)) au _ _ (h _ _ _ o1),fu.mono (fun p x=>x.imp id (List.mem_append_right _)) au _ _ (cU.GN h ds r L2 o2)⟩
mutual
theorem Own.rep: ∀(s:Sh) (d:D) (v:V) (L:List Addr),Own K G H s d v L->Rep K (fun p=>G p\/p∈L) H d v
 | .fz,d,v,L,o=>by
  unfold Own at o
  exact Rep.mono (fun p x=>.inl x) au _ _ o.1
 | .ex _,d,v,L,o=>by
  unfold Own at o
  exact Rep.mono (fun p x=>.inl x) au _ _ o.2.1
 | .ls s,d,v,L,o=>by
  unfold Own at o
  obtain⟨a,vs,ds,L',rfl,rfl,e3,o1,rfl⟩:=o
  unfold Rep
  exact⟨a,vs,rfl,.inr List.mem_cons_self,e3,aB.mono (fun p x=>x.imp id (List.mem_cons_of_mem _)) au _ _ (fx.rep (fun d v L o=>Own.rep s d v L o) ds vs L' o1)⟩
 | .dc s,d,v,L,o=>by
  unfold Own at o
  obtain⟨a,vs,ds,L',rfl,rfl,e3,nd,o1,rfl⟩:=o
  unfold Rep
  exact⟨a,vs,rfl,.inr List.mem_cons_self,.inl e3,nd,bE.mono (fun p x=>x.imp id (List.mem_cons_of_mem _)) au _ _ (cU.EF (fun d v L o=>Own.rep s d v L o) ds vs L' o1)⟩
 | .dt s,d,v,L,o=>by
  unfold Own at o
  obtain⟨a,vs,ds,L',rfl,rfl,e3,nd,o1,rfl⟩:=o
  unfold Rep
  exact⟨a,vs,rfl,.inr List.mem_cons_self,.inl e3,nd,fu.mono (fun p x=>x.imp id (List.mem_cons_of_mem _)) au _ _ (cU.GN (fun d v L o=>Own.rep s d v L o) ds vs L' o1)⟩
 | .dk od kvs s,d,v,L,o=>by
  unfold Own at o
  obtain⟨a,ds,L',rfl,rfl,e3,nd,o1,rfl⟩:=o
  unfold Rep
  exact⟨a,kvs,rfl,.inr List.mem_cons_self,.inr ⟨od,e3⟩,nd,bE.mono (fun p x=>x.imp id (List.mem_cons_of_mem _)) au _ _ (cU.EF (fun d v L o=>Own.rep s d v L o) ds kvs L' o1)⟩
 | .lz,d,v,L,o=>by
  unfold Own at o
  obtain⟨a,vs,ds,L',rfl,rfl,e3,nd,o1,rfl⟩:=o
  unfold Rep
  exact⟨a,vs,rfl,.inr List.mem_cons_self,e3,aB.mono (fun p s=>s.elim (fun s=>.inr (List.mem_cons_of_mem _ s)) (fun s=>.inl s.1)) au _ _ o1⟩
 | .op s,d,v,L,o=>by
  unfold Own at o
  rcases o with ⟨e1,e2,_⟩|o
  ·subst e1;subst e2
   unfold Rep
   rfl
  ·exact Own.rep s d v L o
 | .tp s,d,v,L,o=>by
  unfold Own at o
  obtain⟨a,vs,ds,rfl,rfl,g,e3,o1⟩:=o
  unfold Rep
  exact⟨a,vs,rfl,⟨.inl g,e3⟩,fx.rep (fun d v L o=>Own.rep s d v L o) ds vs L o1⟩
 | .tq ss,d,v,L,o=>by
  unfold Own at o
  obtain⟨a,vs,ds,rfl,rfl,g,e3,o1⟩:=o
  unfold Rep
  exact⟨a,vs,rfl,⟨.inl g,e3⟩,eG.rep ss ds vs L o1⟩
 | .hl ss,d,v,L,o=>by
  unfold Own at o
  obtain⟨a,vs,ds,L',rfl,rfl,e3,o1,rfl⟩:=o
  unfold Rep
  exact⟨a,vs,rfl,.inr List.mem_cons_self,e3,aB.mono (fun p x=>x.imp id (List.mem_cons_of_mem _)) au _ _ (eG.rep ss ds vs L' o1)⟩
 | .is fs,d,v,L,o=>by
  unfold Own at o
  obtain⟨a,C,dx,vs,ds,L',rfl,rfl,e3,o1,rfl⟩:=o
  unfold Rep
  exact⟨a,dx,vs,rfl,.inr List.mem_cons_self,e3,fv.mono (fun p x=>x.imp id (List.mem_cons_of_mem _)) au _ _ (cV.rep fs ds vs L' o1)⟩
theorem cV.rep: ∀(fs:List (Str×Sh)) (ds:List (Str×D)) (vs:List (Str×V)) (L:List Addr),cV K G H fs ds vs L->fv K (fun p=>G p\/p∈L) H ds vs
 | [],_,_,L,o=>by
  unfold cV at o
  rw[o.1,o.2.1];unfold fv;rfl
 |(f,s)::fs,_,_,L,o=>by
  unfold cV at o
  obtain⟨d,dr,v,vr,L1,L2,rfl,rfl,o1,o2,rfl⟩:=o
  unfold fv
  exact⟨v,vr,rfl,Rep.mono (fun p x=>x.imp id (List.mem_append_left _)) au _ _ (Own.rep s d v L1 o1),fv.mono (fun p x=>x.imp id (List.mem_append_right _)) au _ _ (cV.rep fs dr vr L2 o2)⟩
theorem eG.rep: ∀(ss:List Sh) (ds:List D) (vs:List V) (L:List Addr),eG K G H ss ds vs L->aB K (fun p=>G p\/p∈L) H ds vs
 | [],_,_,L,o=>by
  unfold eG at o
  rw[o.1,o.2.1];exact .nil
 |s::ss,_,_,L,o=>by
  unfold eG at o
  obtain⟨d,dr,v,vr,L1,L2,rfl,rfl,o1,o2,rfl⟩:=o
  exact .cons (Rep.mono (fun p x=>x.imp id (List.mem_append_left _)) au _ _ (Own.rep s d v L1 o1)) (aB.mono (fun p x=>x.imp id (List.mem_append_right _)) au _ _ (eG.rep ss dr vr L2 o2))
end
end
abbrev CS:=L2.St
def Spn (K:Frg) (B G:Sa) (H:Hp) (d:D) (v:V):Prop:= ∃a vs ds,d= .lst ds/\v= .ref a/\B a/\H a=some (.lst vs)/\aB K G H ds vs
theorem Spn.mono {K:Frg} {B B' G G':Sa} {H H':Hp} {d:D} {v:V} (hB: ∀p,B p->B' p) (hG: ∀p,G p->G' p) (ha:Agr G H H') (hb:Agr B H H') (h:Spn K B G H d v):Spn K B' G' H' d v:=by
 obtain⟨a,vs,ds,e1,e2,b,hl,r⟩:=h
 exact⟨a,vs,ds,e1,e2,hB a b,(hb a b).st _ trivial hl,aB.mono hG ha ds vs r⟩
theorem Spn.rep {K:Frg} {B G:Sa} {H:Hp} {d:D} {v:V} (h:Spn K B G H d v):Rep K (fun _=>True) H d v:=by
 obtain⟨a,vs,ds,rfl,rfl,b,hl,r⟩:=h
 unfold Rep
 exact⟨a,vs,rfl,trivial,hl,aB.mono (fun _ _=>trivial) au ds vs r⟩
inductive Md where
 |bo|fz|ow (s:Sh)|pn (v:V) (s:Sh)|bl
def ju (K:Frg) (B G:Sa) (H:Hp):Md->Option D->Option V->List Addr->Prop
 |_,none,_,L=>L=[]
 | .bo,some d,sv,L=> ∃v,sv=some v/\Rep K B H d v/\L=[]
 | .fz,some d,sv,L=> ∃v,sv=some v/\Rep K G H d v/\L=[]
 | .ow s,some d,sv,L=> ∃v,sv=some v/\Own K G H s d v L
 | .pn v s,some d,sv,L=>sv=some v/\Own K G H s d v L
 | .bl,some d,sv,L=> ∃v,sv=some v/\Spn K B G H d v/\L=[]
abbrev Ds:=List (Option D)
def Slots (K:Frg) (B G:Sa) (H:Hp):List Md->Ds->CS->List Addr->Prop
 | [],[],[],L=>L=[]
 |m::ms,x::xs,y::ys,L=> ∃L1 L2,ju K B G H m x y L1/\Slots K B G H ms xs ys L2/\L=L1++L2
 |_,_,_,_=>False
structure Org where
 G0:Sa
 H0:Hp
 L0:List Addr
 B:Sa
class NmC where
 T:List (Addr×Str)
instance (priority:=low) nm0:NmC:=⟨[]⟩
variable [NmC]
def imm:List V ⊕ (Heap->Prop)->HO
 | .inl xs=>.tup xs
 | .inr φ=>.ext φ
instance:Coe (List V) (List V ⊕ (Heap->Prop)):=⟨.inl⟩
def NT (u:HO):Prop:= ∀ps,u≠ .tbl ps
theorem oP (x:List V ⊕ (Heap->Prop)):NT (imm x):=by cases x <;> (intro _ z;cases z)
structure b8 (O:Org) (H:Hp) (G:Sa) (L:List Addr):Prop where
 bin: ∀p,O.B p->O.H0 p≠none/\p∉O.L0
 fr0: ∀p u,O.H0 p=some u->p∉O.L0->NT u->H p=some u
 gsub: ∀p,O.G0 p->G p
 gold: ∀p,G p->O.G0 p\/O.H0 p=none\/(∃xs,O.H0 p=some (imm xs))\/p∈O.L0
 gin: ∀p,G p->H p≠none
 dom: ∀p,O.H0 p≠none->H p≠none
 nd:L.Nodup
 lg: ∀p∈L,¬G p/\(p∈O.L0\/O.H0 p=none)
 tl: ∀p ps,O.H0 p=some (.tbl ps)-> ∃ps',H p=some (.tbl ps')
 tb:LamX.Tabs NmC.T H
theorem b8.frame {O:Org} {H:Hp} {G:Sa} {L:List Addr} (r:b8 O H G L) (p:Addr) (u:HO) (e:O.H0 p=some u) (n:p∉O.L0) (t:NT u:=by first|assumption|(intro _ z;cases z;done)|exact oP _):H p=some u:=r.fr0 p u e n t
def Rel (K:Frg) (O:Org) (Δ:List Md) (st:Ds) (σ:CS) (H:Hp) (G:Sa):Prop:= ∃L,b8 O H G L/\Slots K O.B G H Δ st σ L
structure Ext (H:Hp) (G:Sa) (H':Hp) (G':Sa):Prop where
 hx: ∀p u,H p=some u->NT u->H' p=some u
 gg: ∀p,G p->G' p
 gn: ∀p,G' p->G p\/(H p=none/\H' p≠none)\/ ∃xs,H p=some (imm xs)
 tl: ∀p ps,H p=some (.tbl ps)-> ∃ps',H' p=some (.tbl ps')
 tb:LamX.Tabs NmC.T H->LamX.Tabs NmC.T H'
theorem Ext.hh {H:Hp} {G:Sa} {H':Hp} {G':Sa} (x:Ext H G H' G') (p:Addr) (u:HO) (e:H p=some u) (t:NT u:=by first|assumption|(intro _ z;cases z;done)|exact oP _):H' p=some u:=x.hx p u e t
theorem sU (u:HO):NT u\/ ∃ps,u= .tbl ps:=by
 cases u with
 |tbl ps=>exact .inr ⟨ps,rfl⟩
 |_=>exact .inl fun _ z=>by cases z
theorem Ext.dm {H:Hp} {G:Sa} {H':Hp} {G':Sa} (x:Ext H G H' G') (p:Addr) (h:H p≠none):H' p≠none:=by
 cases q:H p with
 |none=>exact absurd q h
 |some u=>
  rcases sU u with n|⟨ps,rfl⟩
  ·rw[x.hh p u q];simp
  ·obtain⟨ps',e⟩:=x.tl p ps q
   rw[e];simp
theorem Ext.bk {H:Hp} {G:Sa} {H':Hp} {G':Sa} (x:Ext H G H' G') {p:Addr} (h:H' p=none):H p=none:=by
 cases q:H p with
 |none=>rfl
 |some u=>exact absurd h (x.dm p (by rw[q];simp))
theorem Ext.was {H:Hp} {G:Sa} {H':Hp} {G':Sa} (x:Ext H G H' G') {p:Addr} {u:HO} (h:H' p=some u) (n:NT u):H p=some u\/H p=none:=by
 cases q:H p with
 |none=>exact .inr rfl
 |some v=>
  rcases sU v with m|⟨ps,rfl⟩
  ·have:=x.hh p v q
   rw[h] at this;exact .inl (by rw[this])
  ·obtain⟨ps',e⟩:=x.tl p ps q
   rw[h] at e;cases e
   exact absurd rfl (n ps')
theorem b8.was {O:Org} {H:Hp} {G:Sa} {L:List Addr} (r:b8 O H G L) {p:Addr} {u:HO} (h:H p=some u) (n:NT u):O.H0 p=some u\/O.H0 p=none\/p∈O.L0:=by
 cases q:O.H0 p with
 |none=>exact .inr (.inl rfl)
 |some v=>
  by_cases hp:p∈O.L0
  ·exact .inr (.inr hp)
  ·rcases sU v with m|⟨ps,rfl⟩
   ·have:=r.frame p v q hp
    rw[h] at this;exact .inl (by rw[this])
   ·obtain⟨ps',e⟩:=r.tl p ps q
    rw[h] at e;cases e
    exact absurd rfl (n ps')
theorem Ext.of {H:Hp} {G:Sa} {H':Hp} {G':Sa} (hh: ∀p u,H p=some u->H' p=some u) (gg: ∀p,G p->G' p) (gn: ∀p,G' p->G p\/(H p=none/\H' p≠none)\/ ∃xs,H p=some (imm xs)):Ext H G H' G':=
 ⟨fun p u e _=>hh p u e,gg,gn,fun p ps e=>⟨ps,hh p _ e⟩,fun t=>LamX.Tabs.ext t hh⟩
theorem Ext.re {H:Hp} {G:Sa} {H':Hp} {G' G1:Sa} (x:Ext H G H' G') (gg: ∀p,G p->G1 p) (gn: ∀p,G1 p->G p\/(H p=none/\H' p≠none)\/ ∃xs,H p=some (imm xs)):Ext H G H' G1:=⟨x.hx,gg,gn,x.tl,x.tb⟩
theorem Ext.refl {H:Hp} {G:Sa}:Ext H G H G:=.of (fun _ _ e=>e) (fun _ g=>g) (fun _ g=>.inl g)
theorem Ext.trans {H H1 H2:Hp} {G G1 G2:Sa} (a:Ext H G H1 G1) (b:Ext H1 G1 H2 G2):Ext H G H2 G2:=
 ⟨fun p u e t=>b.hh p u (a.hh p u e),fun p g=>b.gg p (a.gg p g),fun p g=>by
  rcases b.gn p g with g|⟨e1,e2⟩|⟨xs,e⟩
  ·rcases a.gn p g with g|⟨e1,e2⟩|⟨xs,e⟩
   ·exact .inl g
   ·exact .inr (.inl ⟨e1,b.dm p e2⟩)
   ·exact .inr (.inr ⟨xs,e⟩)
  ·exact .inr (.inl ⟨a.bk e1,e2⟩)
  ·rcases a.was e (oP _) with q|q
   ·exact .inr (.inr ⟨xs,q⟩)
   ·exact .inr (.inl ⟨q,b.dm p (by rw[e];simp)⟩),
  fun p ps e=>by
   obtain⟨ps1,e1⟩:=a.tl p ps e
   exact b.tl p ps1 e1,
  fun t=>b.tb (a.tb t)⟩
section
variable {K:Frg} {O:Org} {B G G':Sa} {H H':Hp} {Δ:List Md} {st:Ds} {σ:CS} {L:List Addr}
theorem ju.mono {m:Md} {x:Option D} {y:Option V} (hG: ∀p,G p->G' p) (ha:Agr G H H') (hb:Agr B H H') (hl: ∀p∈L,H' p=H p) (h:ju K B G H m x y L):ju K B G' H' m x y L:=by
 cases x with
 |none=>cases m <;> exact h
 |some d=>
  cases m with
  |bo=>obtain⟨v,e,r,l⟩:=h;exact⟨v,e,Rep.mono (fun _ g=>g) hb d v r,l⟩
  |fz=>obtain⟨v,e,r,l⟩:=h;exact⟨v,e,Rep.mono hG ha d v r,l⟩
  |ow s=>obtain⟨v,e,r⟩:=h;exact⟨v,e,Own.mono hG ha s d v L hl r⟩
  |pn v s=>obtain⟨e,r⟩:=h;exact⟨e,Own.mono hG ha s d v L hl r⟩
  |bl=>obtain⟨v,e,r,l⟩:=h;exact⟨v,e,r.mono (fun _ g=>g) hG ha hb,l⟩
theorem ju.kind {m:Md} {x:Option D} {y:Option V} (h:ju K B G H m x y L): ∀p∈L,Ndd H p:=by
 cases x with
 |none=>cases m <;> (intro p m;rw[show L=[] from h] at m;cases m)
 |some d=>
  cases m with
  |bo=>obtain⟨v,e,r,l⟩:=h;intro p m;rw[l] at m;cases m
  |fz=>obtain⟨v,e,r,l⟩:=h;intro p m;rw[l] at m;cases m
  |ow s=>obtain⟨v,e,r⟩:=h;exact Own.kind s d v L r
  |pn v s=>obtain⟨e,r⟩:=h;exact Own.kind s d v L r
  |bl=>obtain⟨v,e,r,l⟩:=h;intro p m;rw[l] at m;cases m
theorem Slots.mono (hG: ∀p,G p->G' p) (ha:Agr G H H') (hb:Agr B H H'): ∀{Δ:List Md} {st:Ds} {σ:CS} {L:List Addr},(∀p∈L,H' p=H p)->Slots K B G H Δ st σ L->Slots K B G' H' Δ st σ L
 | [],[],[],_,_,h=>h
 |m::ms,x::xs,y::ys,_,hl,⟨L1,L2,h1,h2,e⟩=>by
  subst e
  exact⟨L1,L2,ju.mono hG ha hb (fun p m=>hl p (List.mem_append_left _ m)) h1,Slots.mono hG ha hb (fun p m=>hl p (List.mem_append_right _ m)) h2,rfl⟩
 | [],[],_::_,_,_,h=>h.elim
 | [],_::_,_,_,_,h=>h.elim
 |_::_,[],_,_,_,h=>h.elim
 |_::_,_::_,[],_,_,h=>h.elim
theorem Slots.kind: ∀{Δ:List Md} {st:Ds} {σ:CS} {L:List Addr},Slots K B G H Δ st σ L-> ∀p∈L,Ndd H p
 | [],[],[],_,h,p,m=>by rw[show _=[] from h] at m;cases m
 |m::ms,x::xs,y::ys,_,⟨L1,L2,h1,h2,e⟩,p,m'=>by
  subst e
  rcases List.mem_append.mp m' with m'|m'
  ·exact h1.kind p m'
  ·exact Slots.kind h2 p m'
 | [],[],_::_,_,h,_,_=>h.elim
 | [],_::_,_,_,h,_,_=>h.elim
 |_::_,[],_,_,h,_,_=>h.elim
 |_::_,_::_,[],_,h,_,_=>h.elim
theorem Ext.agr {S:Sa} (e:Ext H G H' G'):Agr S H H':=EE e.hx
theorem Ndd.ne {p:Addr} (h:Ndd H p):H p≠none:=by
 obtain⟨u,e,_⟩:=h
 rw[e];simp
theorem Ndd.zY {p:Addr} {xs:List V ⊕ (Heap->Prop)} (h:Ndd H p) (e:H p=some (imm xs)):False:=by
 obtain⟨u,e',n⟩:=h
 rw[e] at e';cases e';cases xs <;> exact n
theorem Nd.nt {u:HO} (n:Nd u):NT u:=fun ps z=>by subst z;exact n
theorem Ndd.nt {p:Addr} {u:HO} (h:Ndd H p) (e:H p=some u):NT u:=by
 obtain⟨v,q,n⟩:=h
 rw[q] at e;cases e;exact n.nt
theorem Ext.vh (e:Ext H G H' G') {p:Addr} (h:Ndd H p):H' p=H p:=by
 obtain⟨u,q,n⟩:=h
 rw[q];exact e.hh p u q n.nt
theorem b8.ext (r:b8 O H G L) (e:Ext H G H' G') (hk: ∀p∈L,Ndd H p) (gin: ∀p,G' p->H' p≠none):b8 O H' G' L where
 bin:=r.bin
 fr0:=fun p u h n t=>e.hh p u (r.frame p u h n)
 gsub:=fun p g=>e.gg p (r.gsub p g)
 gold:=fun p g=>by
  rcases e.gn p g with g|⟨n,_⟩|⟨xs,t⟩
  ·exact r.gold p g
  ·refine .inr (.inl ?_)
   cases q:O.H0 p with
   |none=>rfl
   |some u=>exact absurd n (r.dom p (by rw[q];simp))
  ·rcases r.was t (oP _) with q|q|q
   ·exact .inr (.inr (.inl ⟨xs,q⟩))
   ·exact .inr (.inl q)
   ·exact .inr (.inr (.inr q))
 gin:=gin
 dom:=fun p h=>e.dm p (r.dom p h)
 nd:=r.nd
 lg:=fun p m=>⟨fun g=>by
  rcases e.gn p g with g|⟨n,_⟩|⟨xs,t⟩
  ·exact (r.lg p m).1 g
  ·exact (hk p m).ne n
  ·exact (hk p m).zY t,(r.lg p m).2⟩
 tl:=fun p ps h=>by
  obtain⟨ps1,e1⟩:=r.tl p ps h
  exact e.tl p ps1 e1
 tb:=e.tb r.tb
theorem Ext.gin (e:Ext H G H' G') (h: ∀p,G p->H p≠none): ∀p,G' p->H' p≠none:=fun p g=>by
 rcases e.gn p g with g|⟨_,n⟩|⟨xs,t⟩
 ·exact e.dm p (h p g)
 ·exact n
 ·exact e.dm p (by rw[t];simp)
theorem Rel.ext (r:Rel K O Δ st σ H G) (e:Ext H G H' G'):Rel K O Δ st σ H' G':=by
 obtain⟨L,g,s⟩:=r
 exact⟨L,g.ext e s.kind (e.gin g.gin),Slots.mono e.gg e.agr e.agr (fun p m=>e.vh (s.kind p m)) s⟩
end
theorem zZ {H H':Hp} (hh: ∀p u,H p=some u-> ¬Nd u->H' p=some u) (t:LamX.Tabs NmC.T H):LamX.Tabs NmC.T H':=fun q hq=>by
 obtain⟨ps,h1,h2,h3⟩:=t q hq
 refine⟨ps,hh _ _ h1 (fun n=>n),h2,fun pos cv hc=> ?_⟩
 obtain⟨c,e1,e2⟩:=h3 pos cv hc
 exact⟨c,e1,hh _ _ e2 (fun n=>n)⟩
theorem vi {H:Hp} {a:Addr} {o:HO} (h:Ndd H a\/H a=none) (t:LamX.Tabs NmC.T H):LamX.Tabs NmC.T (upd H a o):=zZ (fun p u e n=>by
 have hne:p≠a:=fun z=>by
  subst z
  rcases h with ⟨v,q,m⟩|q
  ·rw[q] at e;cases e;exact n m
  ·rw[q] at e;cases e
 rw[upd_ne hne];exact e) t
theorem z0 {H:Hp} {a:Addr} {o:HO} (h:Ndd H a\/H a=none) {p:Addr} (e: ∃ps,H p=some (.tbl ps)): ∃ps,upd H a o p=some (.tbl ps):=by
 obtain⟨ps,e⟩:=e
 have hne:p≠a:=fun z=>by
  subst z
  rcases h with ⟨v,q,m⟩|q
  ·rw[q] at e;cases e;exact m
  ·rw[q] at e;cases e
 exact⟨ps,by rw[upd_ne hne];exact e⟩
theorem jt.xZ {H H':Hp} {p:Addr} (h: ∀u,NT u->H p=some u->H' p=some u):jt H H' p:=
 ⟨fun u hu r=>r.elim (fun r=>.inl (h _ (fun ps z=>by subst z;exact hu) r)) fun⟨o,r⟩=>.inr ⟨o,h _ (fun _ z=>by cases z) r⟩,fun u hu e=>h _ (fun ps z=>by subst z;exact hu) e⟩
theorem Ext.IP {H H':Hp} {G G':Sa} {D:Addr} {o:HO} (x:Ext H G H' G') (hD:H D=none) (hd:Ndd H' D):Ext H G (upd H' D o) G':=
 ⟨fun p u e _=>by rw[upd_ne (ne_of_none e hD)];exact x.hh p u e,x.gg,fun p g=>by
  rcases x.gn p g with g|⟨n,n2⟩|t
  ·exact .inl g
  ·refine .inr (.inl ⟨n,?_⟩)
   by_cases hp:p=D
   ·subst hp;rw[upd_same];simp
   ·rw[upd_ne hp];exact n2
  ·exact .inr (.inr t),fun p ps e=>z0 (.inl hd) (x.tl p ps e),fun t=>vi (.inl hd) (x.tb t)⟩
end Sw
namespace Sw
open PySem PySem.Spec PyProof.Rows L2
variable [NmC]
section
variable {K:Frg} {O:Org} {B G:Sa} {H:Hp}
theorem dJ {α:Type} (a b c:List α):(a++(b++c)).Perm (b++(a++c)):=by
 rw[<-List.append_assoc,←List.append_assoc]
 exact List.perm_append_comm.append_right c
theorem Slots.split: ∀{Δ:List Md} {st:Ds} {σ:CS} {L:List Addr} {i:Nat} {m:Md},Slots K B G H Δ st σ L->Δ[i]? =some m→
  ∃x y L1 L2,st[i]? =some x/\σ[i]? =some y/\ju K B G H m x y L1/\L.Perm (L1++L2)∧
   ∀(G':Sa) (H':Hp) m' x' y' L1',(∀p,G p->G' p)->Agr G H H'->Agr B H H'->(∀p∈L2,H' p=H p)->ju K B G' H' m' x' y' L1'→
    ∃L',L'.Perm (L1'++L2)/\Slots K B G' H' (Δ.set i m') (st.set i x') (σ.set i y') L'
 |m::ms,x::xs,y::ys,_,0,_,⟨L1,L2,h1,h2,e⟩,e0=>by
  subst e
  cases e0
  exact⟨x,y,L1,L2,rfl,rfl,h1,.refl _,fun G' H' m' x' y' L1' hG ha hb hl s=>⟨L1'++L2,.refl _,L1',L2,s,h2.mono hG ha hb hl,rfl⟩⟩
 |m::ms,x::xs,y::ys,_,i+1,m0,⟨L1,L2,h1,h2,e⟩,e0=>by
  subst e
  obtain⟨x1,y1,M1,M2,ex,ey,s1,pm,f⟩:=Slots.split (i:=i) (m:=m0) h2 (by simpa using e0)
  refine⟨x1,y1,M1,L1++M2,by simpa using ex,by simpa using ey,s1,((List.Perm.append_left L1 pm).trans (dJ L1 M1 M2)),fun G' H' m' x' y' L1' hG ha hb hl s=> ?_⟩
  obtain⟨L',pm',s'⟩:=f G' H' m' x' y' L1' hG ha hb (fun p hp=>hl p (List.mem_append_right _ hp)) s
  exact⟨L1++L',(List.Perm.append_left L1 pm').trans (dJ L1 L1' M2),L1,L',h1.mono hG ha hb (fun p hp=>hl p (List.mem_append_left _ hp)),s',rfl⟩
 | [],[],[],_,_,_,_,e0=>by cases e0
 | [],[],_::_,_,_,_,h,_=>h.elim
 | [],_::_,_,_,_,_,h,_=>h.elim
 |_::_,[],_,_,_,_,h,_=>h.elim
 |_::_,_::_,[],_,_,_,h,_=>h.elim
theorem Slots.len: ∀{Δ:List Md} {st:Ds} {σ:CS} {L:List Addr},Slots K B G H Δ st σ L->st.length=Δ.length/\σ.length=Δ.length
 | [],[],[],_,_=>⟨rfl,rfl⟩
 |m::ms,x::xs,y::ys,_,⟨L1,L2,h1,h2,e⟩=>by
  have:=Slots.len h2
  simp[this.1,this.2]
 | [],[],_::_,_,h=>h.elim
 | [],_::_,_,_,h=>h.elim
 |_::_,[],_,_,h=>h.elim
 |_::_,_::_,[],_,h=>h.elim
theorem f9 {α:Type} {l:List α} {i:Nat} {x:α} (h:l[i]? =some x):l.set i x=l:=by
 apply List.ext_getElem?
 intro j
 by_cases e:i=j
 ·subst e
  rw[List.getElem?_set_self (List.getElem?_eq_some_iff.mp h).1,h]
 ·rw[List.getElem?_set_ne e]
inductive Wk:List Md->Ds->List Md->Ds->Prop where
 |nil:Wk [] [] [] []
 |keep {m:Md} {x:Option D} {ms ns:List Md} {xs zs:Ds}:Wk ms xs ns zs->Wk (m::ms) (x::xs) (m::ns) (x::zs)
 |drop {m n:Md} {x:Option D} {ms ns:List Md} {xs zs:Ds}:Wk ms xs ns zs->Wk (m::ms) (x::xs) (n::ns) (none::zs)
theorem ju.none {m:Md} {y:Option V}:ju K B G H m none y []:=by cases m <;> rfl
theorem Slots.weak: ∀{Δ Δ':List Md} {st st':Ds} {σ:CS} {L:List Addr},Wk Δ st Δ' st'->Slots K B G H Δ st σ L-> ∃L',L'.Sublist L/\Slots K B G H Δ' st' σ L'
 |_,_,_,_,[],_,.nil,h=>⟨_,List.Sublist.refl _,h⟩
 |_,_,_,_,_::_,_,.nil,h=>h.elim
 |_,_,_,_,[],_,.keep _,h=>h.elim
 |_,_,_,_,[],_,.drop _,h=>h.elim
 |_,_,_,_,y::ys,_,.keep w,⟨L1,L2,h1,h2,e⟩=>by
  obtain⟨L',s,q⟩:=Slots.weak w h2
  exact⟨L1++L',e▸List.Sublist.append (List.Sublist.refl _) s,L1,L',h1,q,rfl⟩
 |_,_,_,_,y::ys,_,.drop w,⟨L1,L2,h1,h2,e⟩=>by
  obtain⟨L',s,q⟩:=Slots.weak w h2
  exact⟨L',e▸(s.trans (List.sublist_append_right _ _)),[],L',ju.none,q,rfl⟩
theorem b8.sub {L L':List Addr} (r:b8 O H G L) (s:L'.Sublist L):b8 O H G L':=
 ⟨r.bin,r.fr0,r.gsub,r.gold,r.gin,r.dom,r.nd.sublist s,fun p m=>r.lg p (s.subset m),r.tl,r.tb⟩
theorem b8.perm {L L':List Addr} (r:b8 O H G L) (s:L.Perm L'):b8 O H G L':=
 ⟨r.bin,r.fr0,r.gsub,r.gold,r.gin,r.dom,s.nodup_iff.mp r.nd,fun p m=>r.lg p (s.mem_iff.mpr m),r.tl,r.tb⟩
theorem Rel.weak {Δ Δ':List Md} {st st':Ds} {σ:CS} (w:Wk Δ st Δ' st') (r:Rel K O Δ st σ H G):Rel K O Δ' st' σ H G:=by
 obtain⟨L,g,s⟩:=r
 obtain⟨L',sl,q⟩:=s.weak w
 exact⟨L',g.sub sl,q⟩
end
inductive Stp where
 |ix (i:Nat)|ky (k:Key)|kt (k:List Key)|fd (f:Str)
def lM:D->List Stp->Option D
 |d,[]=>some d
 | .lst ds,.ix i::q=>(ds[i]?).bind fun x=>lM x q
 | .dct ks,.ky k::q=>(aD ks k).bind fun x=>lM x q
 | .dcT ks,.kt k::q=>(aD ks k).bind fun x=>lM x q
 | .ins _ fs,.fd f::q=>(fs.lookup f).bind fun x=>lM x q
 |_,_::_=>none
def qZ (f:Str) (x:D):List (Str×D)->List (Str×D)
 | []=>[(f,x)]
 |(g,y)::r=>if g=f then (g,x)::r else (g,y)::qZ f x r
def g6:D->List Stp->D->D
 |_,[],e=>e
 | .lst ds,.ix i::q,e=>match ds[i]? with
  |some x=>.lst (ds.set i (g6 x q e))
  |none=>.lst ds
 | .dct ks,.ky k::q,e=>match aD ks k with
  |some x=>.dct (bH ks k (g6 x q e))
  |none=>.dct ks
 | .dcT ks,.kt k::q,e=>match aD ks k with
  |some x=>.dcT (bH ks k (g6 x q e))
  |none=>.dcT ks
 | .ins C fs,.fd f::q,e=>match fs.lookup f with
  |some x=>.ins C (qZ f (g6 x q e) fs)
  |none=>.ins C fs
 |d,_::_,_=>d
def shP:Sh->List Stp->Option Sh
 |s,[]=>some s
 | .ls s,.ix _::q=>shP s q
 | .dc s,.ky _::q=>shP s q
 | .dt s,.kt _::q=>shP s q
 | .dk _ _ s,.ky _::q=>shP s q
 | .is fs,.fd f::q=>(fs.lookup f).bind fun s=>shP s q
 | .hl ss,.ix i::q=>(ss[i]?).bind fun s=>shP s q
 |_,_::_=>none
def AtP (H:Hp):V->List Stp->V->Prop
 |v,[],w=>w=v
 |v,.ix i::q,w=> ∃a vs x,v= .ref a/\H a=some (.lst vs)/\vs[i]? =some x/\AtP H x q w
 |v,.ky k::q,w=> ∃a kvs x,v= .ref a/\Rd H a (.dK kvs)/\valV kvs k=some x/\AtP H x q w
 |v,.kt k::q,w=> ∃a kvs x,v= .ref a/\H a=some (.dT kvs)/\valV kvs k=some x/\AtP H x q w
 |v,.fd f::q,w=> ∃a C dx fs x,v= .ref a/\H a=some (.ins C dx fs)/\fs.lookup f=some x/\AtP H x q w
theorem Cc {H:Hp} {a:Addr} {u v:List (Key×V)} (h:Rd H a (.dK u)) (g:Rd H a (.dK v)):u=v:=by
 rcases h with h|⟨o,h⟩ <;> rcases g with g|⟨o',g⟩ <;> rw[h] at g <;> cases g <;> rfl
theorem AtP.inj {H:Hp}: ∀{q:List Stp} {v w w':V},AtP H v q w->AtP H v q w'->w=w'
 | [],v,w,w',h,h'=>by
  have e:w=v:=h
  have e':w'=v:=h'
  rw[e,e']
 | .ix i::q,v,w,w',⟨a,vs,x,e1,e2,e3,h⟩,⟨a',vs',x',e1',e2',e3',h'⟩=>by
  subst e1;cases e1'
  rw[e2] at e2';cases e2'
  rw[e3] at e3';cases e3'
  exact AtP.inj h h'
 | .ky k::q,v,w,w',⟨a,vs,x,e1,e2,e3,h⟩,⟨a',vs',x',e1',e2',e3',h'⟩=>by
  subst e1;cases e1'
  obtain rfl:=Cc e2 e2'
  rw[e3] at e3';cases e3'
  exact AtP.inj h h'
 | .kt k::q,v,w,w',⟨a,vs,x,e1,e2,e3,h⟩,⟨a',vs',x',e1',e2',e3',h'⟩=>by
  subst e1;cases e1'
  rw[e2] at e2';cases e2'
  rw[e3] at e3';cases e3'
  exact AtP.inj h h'
 | .fd f::q,v,w,w',⟨a,C,dx,fs,x,e1,e2,e3,h⟩,⟨a',C',dx',fs',x',e1',e2',e3',h'⟩=>by
  subst e1;cases e1'
  rw[e2] at e2';cases e2'
  rw[e3] at e3';cases e3'
  exact AtP.inj h h'
theorem AtP.mono {H H':Hp} (hh: ∀p u,H p=some u->NT u->H' p=some u): ∀{q:List Stp} {v w:V},AtP H v q w->AtP H' v q w
 | [],v,w,h=>h
 | .ix i::q,v,w,⟨a,vs,x,e1,e2,e3,h⟩=>⟨a,vs,x,e1,hh _ _ e2 (fun _ z=>by cases z),e3,AtP.mono hh h⟩
 | .ky k::q,v,w,⟨a,vs,x,e1,e2,e3,h⟩=>⟨a,vs,x,e1,e2.imp (fun e=>hh _ _ e fun _ z=>by cases z) (fun⟨o,e⟩=>⟨o,hh _ _ e fun _ z=>by cases z⟩),e3,AtP.mono hh h⟩
 | .kt k::q,v,w,⟨a,vs,x,e1,e2,e3,h⟩=>⟨a,vs,x,e1,hh _ _ e2 (fun _ z=>by cases z),e3,AtP.mono hh h⟩
 | .fd f::q,v,w,⟨a,C,dx,fs,x,e1,e2,e3,h⟩=>⟨a,C,dx,fs,x,e1,hh _ _ e2 (fun _ z=>by cases z),e3,AtP.mono hh h⟩
section
variable {K:Frg} {G G':Sa} {H H':Hp}
theorem fx.item {R:D->V->List Addr->Prop}: ∀{ds:List D} {vs:List V} {L:List Addr} {i:Nat} {d:D},fx R ds vs L->ds[i]? =some d→
  ∃v L1 L2,vs[i]? =some v/\R d v L1/\L.Perm (L1++L2)/\ ∀(R':D->V->List Addr->Prop) d' v' L1',(∀d v M,(∀p∈M,p∈L2)->R d v M->R' d v M)->R' d' v' L1'-> ∃L',L'.Perm (L1'++L2)/\fx R' (ds.set i d') (vs.set i v') L'
 |d::ds,_,_,0,_,⟨v,r,L1,L2,e1,o1,o2,e2⟩,e=>by
  subst e1;subst e2
  cases e
  exact⟨v,L1,L2,rfl,o1,.refl _,fun R' d' v' L1' hm o=>⟨L1'++L2,.refl _,v',r,L1',L2,rfl,o,fx.mono (P:=fun p=>p∈L2) hm ds r L2 (fun _ h=>h) o2,rfl⟩⟩
 |d::ds,_,_,i+1,d0,⟨v,r,L1,L2,e1,o1,o2,e2⟩,e=>by
  subst e1;subst e2
  obtain⟨v1,M1,M2,g1,g2,pm,f⟩:=fx.item (i:=i) (d:=d0) o2 (by simpa using e)
  refine⟨v1,M1,L1++M2,by simpa using g1,g2,(List.Perm.append_left L1 pm).trans (dJ L1 M1 M2),fun R' d' v' L1' hm o=> ?_⟩
  obtain⟨L',pm',o'⟩:=f R' d' v' L1' (fun d v M hM=>hm d v M fun p hp=>List.mem_append_right _ (hM p hp)) o
  exact⟨L1++L',(List.Perm.append_left L1 pm').trans (dJ L1 L1' M2),v,r.set i v',L1,L',rfl,hm _ _ _ (fun p hp=>List.mem_append_left _ hp) o1,o',rfl⟩
 | [],_,_,_,_,_,e=>by simp at e
theorem cU.item {κ:Type} [DecidableEq κ] {R:D->V->List Addr->Prop}: ∀{ds:List (κ×D)} {vs:List (κ×V)} {L:List Addr} {k:κ} {d:D},cU R ds vs L->aD ds k=some d→
  ∃v L1 L2,aD vs k=some v/\R d v L1/\L.Perm (L1++L2)∧
   ∀(R':D->V->List Addr->Prop) d' v' L1',(∀d v M,(∀p∈M,p∈L2)->R d v M->R' d v M)->R' d' v' L1'-> ∃L',L'.Perm (L1'++L2)/\cU R' (bH ds k d') (bH vs k v') L'
 |(k0,d)::ds,_,_,k,d0,⟨v,r,L1,L2,e1,o1,o2,e2⟩,e=>by
  subst e1;subst e2
  rw[bc] at e
  by_cases hk:k0=k
  ·subst hk
   simp only[if_true] at e
   cases e
   refine⟨v,L1,L2,(bc _ _ _).trans (if_pos rfl),o1,.refl _,fun R' d' v' L1' hm o=>⟨L1'++L2,.refl _,?_⟩⟩
   unfold bH
   rw[if_pos rfl,if_pos rfl]
   exact⟨v',r,L1',L2,rfl,o,cU.mono (P:=fun p=>p∈L2) hm ds r L2 (fun _ h=>h) o2,rfl⟩
  ·simp only[hk,if_false] at e
   obtain⟨v1,M1,M2,g1,g2,pm,f⟩:=cU.item (k:=k) (d:=d0) o2 e
   refine⟨v1,M1,L1++M2,(bc _ _ _).trans ((if_neg hk).trans g1),g2,(List.Perm.append_left L1 pm).trans (dJ L1 M1 M2),fun R' d' v' L1' hm o=> ?_⟩
   obtain⟨L',pm',o'⟩:=f R' d' v' L1' (fun d v M hM=>hm d v M fun p hp=>List.mem_append_right _ (hM p hp)) o
   refine⟨L1++L',(List.Perm.append_left L1 pm').trans (dJ L1 L1' M2),?_⟩
   unfold bH
   rw[if_neg hk,if_neg hk]
   exact⟨v,bH r k v',L1,L',rfl,hm _ _ _ (fun p hp=>List.mem_append_left _ hp) o1,o',rfl⟩
 | [],_,_,_,_,_,e=>by cases e
theorem cU.drop {κ:Type} [DecidableEq κ] {R:D->V->List Addr->Prop} (k:κ): ∀{ds:List (κ×D)} {vs:List (κ×V)} {L:List Addr},cU R ds vs L-> ∃L',L'.Sublist L/\cU R (qY ds k) (qY vs k) L'
 | [],_,_,o=>by
  rw[o.1,o.2]
  exact⟨[],List.Sublist.refl _,rfl,rfl⟩
 |(k0,d)::ds,_,_,⟨v,r,L1,L2,e1,o1,o2,e2⟩=>by
  subst e1;subst e2
  obtain⟨L',s,o'⟩:=cU.drop k o2
  by_cases hk:k0=k
  ·refine⟨L',s.trans (List.sublist_append_right _ _),?_⟩
   unfold qY at o'⊢
   rw[List.filter_cons_of_neg (by simp[hk]),List.filter_cons_of_neg (by simp[hk])]
   exact o'
  ·refine⟨L1++L',List.Sublist.append (List.Sublist.refl _) s,?_⟩
   unfold qY at o'⊢
   rw[List.filter_cons_of_pos (by simp[hk]),List.filter_cons_of_pos (by simp[hk])]
   exact⟨v,_,L1,L',rfl,o1,o',rfl⟩
theorem cU.keys {κ:Type} {R:D->V->List Addr->Prop}: ∀{ds:List (κ×D)} {vs:List (κ×V)} {L:List Addr},cU R ds vs L->vs.map (·.1)=ds.map (·.1)
 | [],_,_,o=>by rw[o.1];rfl
 |(k,d)::ds,_,_,⟨v,r,L1,L2,e1,o1,o2,e2⟩=>by
  subst e1
  rw[List.map_cons,List.map_cons,cU.keys o2]
theorem fx.length {R:D->V->List Addr->Prop}: ∀{ds:List D} {vs:List V} {L:List Addr},fx R ds vs L->vs.length=ds.length
 | [],_,_,o=>by rw[o.1];rfl
 |d::ds,_,_,⟨v,r,L1,L2,e1,o1,o2,e2⟩=>by
  subst e1
  rw[List.length_cons,List.length_cons,fx.length o2]
theorem cV.item: ∀{fs:List (Str×Sh)} {ds:List (Str×D)} {vs:List (Str×V)} {L:List Addr} {f:Str} {s:Sh} {d:D},cV K G H fs ds vs L->fs.lookup f=some s->ds.lookup f=some d→
  ∃v L1 L2,vs.lookup f=some v/\Own K G H s d v L1/\L.Perm (L1++L2)∧
   ∀(G':Sa) (H':Hp) d' L1',(∀p,G p->G' p)->Agr G H H'->(∀p∈L2,H' p=H p)->Own K G' H' s d' v L1'-> ∃L',L'.Perm (L1'++L2)/\cV K G' H' fs (qZ f d' ds) vs L'
 |(g,s0)::fs,ds,vs,L,f,s,d,o,e,e'=>by
  unfold cV at o
  obtain⟨d1,dr,v,vr,L1,L2,rfl,rfl,o1,o2,rfl⟩:=o
  by_cases hf:f=g
  ·subst hf
   simp[List.lookup_cons] at e e'
   subst e;subst e'
   refine⟨v,L1,L2,by simp[List.lookup_cons],o1,.refl _,fun G' H' d' L1' hG ha hl o=>⟨L1'++L2,.refl _,?_⟩⟩
   unfold cV qZ
   simp only[if_true]
   exact⟨d',dr,v,vr,L1',L2,rfl,rfl,o,cV.mono hG ha fs dr vr L2 hl o2,rfl⟩
  ·have hb:(f==g)=false:=by simp[hf]
   simp only[List.lookup_cons,hb] at e e'
   obtain⟨v1,M1,M2,g1,g2,pm,f'⟩:=cV.item o2 e e'
   refine⟨v1,M1,L1++M2,by simp only[List.lookup_cons,hb];exact g1,g2,(List.Perm.append_left L1 pm).trans (dJ L1 M1 M2),fun G' H' d' L1' hG ha hl o=> ?_⟩
   obtain⟨L',pm',o'⟩:=f' G' H' d' L1' hG ha (fun p hp=>hl p (List.mem_append_right _ hp)) o
   refine⟨L1++L',(List.Perm.append_left L1 pm').trans (dJ L1 L1' M2),?_⟩
   unfold cV qZ
   simp only[show ¬g=f from fun q=>hf q.symm,if_false]
   exact⟨d1,qZ f d' dr,v,vr,L1,L',rfl,rfl,Own.mono hG ha s0 d1 v L1 (fun p hp=>hl p (List.mem_append_left _ hp)) o1,o',rfl⟩
 | [],_,_,_,_,_,_,_,e,_=>by cases e
theorem eG.item: ∀{ss:List Sh} {ds:List D} {vs:List V} {L:List Addr} {i:Nat} {s:Sh} {d:D},eG K G H ss ds vs L->ss[i]? =some s->ds[i]? =some d→
  ∃v L1 L2,vs[i]? =some v/\Own K G H s d v L1/\L.Perm (L1++L2)∧
   ∀(G':Sa) (H':Hp) d' L1',(∀p,G p->G' p)->Agr G H H'->(∀p∈L2,H' p=H p)->Own K G' H' s d' v L1'-> ∃L',L'.Perm (L1'++L2)/\eG K G' H' ss (ds.set i d') vs L'
 |s0::ss,ds,vs,L,0,s,d,o,e,e'=>by
  unfold eG at o
  obtain⟨d1,dr,v,vr,L1,L2,rfl,rfl,o1,o2,rfl⟩:=o
  simp only[List.getElem?_cons_zero] at e e'
  cases e;cases e'
  refine⟨v,L1,L2,rfl,o1,.refl _,fun G' H' d' L1' hG ha hl o=>⟨L1'++L2,.refl _,?_⟩⟩
  unfold eG
  exact⟨d',dr,v,vr,L1',L2,rfl,rfl,o,eG.mono hG ha ss dr vr L2 hl o2,rfl⟩
 |s0::ss,ds,vs,L,i+1,s,d,o,e,e'=>by
  unfold eG at o
  obtain⟨d1,dr,v,vr,L1,L2,rfl,rfl,o1,o2,rfl⟩:=o
  simp only[List.getElem?_cons_succ] at e e'
  obtain⟨v1,M1,M2,g1,g2,pm,f'⟩:=eG.item o2 e e'
  refine⟨v1,M1,L1++M2,by simpa using g1,g2,(List.Perm.append_left L1 pm).trans (dJ L1 M1 M2),fun G' H' d' L1' hG ha hl o=> ?_⟩
  obtain⟨L',pm',o'⟩:=f' G' H' d' L1' hG ha (fun p hp=>hl p (List.mem_append_right _ hp)) o
  refine⟨L1++L',(List.Perm.append_left L1 pm').trans (dJ L1 L1' M2),?_⟩
  rw[List.set_cons_succ]
  unfold eG
  exact⟨d1,dr.set i d',v,vr,L1,L',rfl,rfl,Own.mono hG ha s0 d1 v L1 (fun p hp=>hl p (List.mem_append_left _ hp)) o1,o',rfl⟩
 | [],_,_,_,_,_,_,_,e,_=>by simp at e
theorem lq {α:Type} {a:α} {L4 L3 M2 L1 N2:List α} (p4:L4.Perm (L3++M2)) (p3:L3.Perm (L1++N2)):(a::L4).Perm (L1++a::(N2++M2)):=by
 have h:L4.Perm (L1++(N2++M2)):=by
  have:=p4.trans (p3.append_right M2)
  rwa[List.append_assoc] at this
 exact (h.cons a).trans (dJ [a] L1 (N2++M2))
theorem Own.place: ∀{s:Sh} {d:D} {v:V} {L:List Addr} (q:List Stp) {s':Sh} {d':D},Own K G H s d v L->shP s q=some s'->lM d q=some d'→
  ∃v' L1 L2,AtP H v q v'/\Own K G H s' d' v' L1/\L.Perm (L1++L2)∧
   ∀(G':Sa) (H':Hp) d'' L1',(∀p,G p->G' p)->Agr G H H'->(∀p∈L2,H' p=H p)->Own K G' H' s' d'' v' L1'-> ∃L',L'.Perm (L1'++L2)/\Own K G' H' s (g6 d q d'') v L'
 |s,d,v,L,[],s',d',o,hs,hd=>by
  cases hs;cases hd
  exact⟨v,L,[],rfl,o,by rw[List.append_nil],fun G' H' d'' L1' _ _ _ o'=>⟨L1',by rw[List.append_nil],by unfold g6;exact o'⟩⟩
 | .ls s,d,v,L,.ix i::q,s',d',o,hs,hd=>by
  unfold Own at o
  obtain⟨a,vs,ds,L',rfl,rfl,e3,o1,rfl⟩:=o
  unfold shP at hs
  unfold lM at hd
  cases hi:ds[i]? with
  |none=>rw[hi] at hd;cases hd
  |some x=>
   rw[hi] at hd
   obtain⟨w,M1,M2,g1,g2,pm,f⟩:=fx.item o1 hi
   obtain⟨v',N1,N2,h1,h2,pn,f2⟩:=Own.place q g2 hs hd
   refine⟨v',N1,a::(N2++M2),⟨a,vs,w,rfl,e3,g1,h1⟩,h2,?_,fun G' H' d'' L1' hG ha hl o'=> ?_⟩
   ·exact lq pm pn
   ·obtain⟨L3,p3,o3⟩:=f2 G' H' d'' L1' hG ha (fun p hp=>hl p (List.mem_cons_of_mem _ (List.mem_append_left _ hp))) o'
    obtain⟨L4,p4,o4⟩:=f (Own K G' H' s) (g6 x q d'') w L3 (fun d v M hM o=>Own.mono hG ha s d v M (fun p hp=>hl p (List.mem_cons_of_mem _ (List.mem_append_right _ (hM p hp)))) o) o3
    rw[f9 g1] at o4
    refine⟨a::L4,lq p4 p3,?_⟩
    unfold g6
    simp only[hi]
    unfold Own
    exact⟨a,vs,_,L4,rfl,rfl,(hl a List.mem_cons_self).trans e3,o4,rfl⟩
 | .dc s,d,v,L,.ky k::q,s',d',o,hs,hd=>by
  unfold Own at o
  obtain⟨a,vs,ds,L',rfl,rfl,e3,nd,o1,rfl⟩:=o
  unfold shP at hs
  unfold lM at hd
  cases hi:aD ds k with
  |none=>rw[hi] at hd;cases hd
  |some x=>
   rw[hi] at hd
   obtain⟨w,M1,M2,g1,g2,pm,f⟩:=cU.item o1 hi
   obtain⟨v',N1,N2,h1,h2,pn,f2⟩:=Own.place q g2 hs hd
   refine⟨v',N1,a::(N2++M2),⟨a,vs,w,rfl,.inl e3,g1,h1⟩,h2,?_,fun G' H' d'' L1' hG ha hl o'=> ?_⟩
   ·exact lq pm pn
   ·obtain⟨L3,p3,o3⟩:=f2 G' H' d'' L1' hG ha (fun p hp=>hl p (List.mem_cons_of_mem _ (List.mem_append_left _ hp))) o'
    obtain⟨L4,p4,o4⟩:=f (Own K G' H' s) (g6 x q d'') w L3 (fun d v M hM o=>Own.mono hG ha s d v M (fun p hp=>hl p (List.mem_cons_of_mem _ (List.mem_append_right _ (hM p hp)))) o) o3
    rw[mi g1] at o4
    refine⟨a::L4,lq p4 p3,?_⟩
    unfold g6
    simp only[hi]
    unfold Own
    exact⟨a,vs,_,L4,rfl,rfl,(hl a List.mem_cons_self).trans e3,fL nd,o4,rfl⟩
 | .dk od vs s,d,v,L,.ky k::q,s',d',o,hs,hd=>by
  unfold Own at o
  obtain⟨a,ds,L',rfl,rfl,e3,nd,o1,rfl⟩:=o
  unfold shP at hs
  unfold lM at hd
  cases hi:aD ds k with
  |none=>rw[hi] at hd;cases hd
  |some x=>
   rw[hi] at hd
   obtain⟨w,M1,M2,g1,g2,pm,f⟩:=cU.item o1 hi
   obtain⟨v',N1,N2,h1,h2,pn,f2⟩:=Own.place q g2 hs hd
   refine⟨v',N1,a::(N2++M2),⟨a,vs,w,rfl,.inr ⟨od,e3⟩,g1,h1⟩,h2,?_,fun G' H' d'' L1' hG ha hl o'=> ?_⟩
   ·exact lq pm pn
   ·obtain⟨L3,p3,o3⟩:=f2 G' H' d'' L1' hG ha (fun p hp=>hl p (List.mem_cons_of_mem _ (List.mem_append_left _ hp))) o'
    obtain⟨L4,p4,o4⟩:=f (Own K G' H' s) (g6 x q d'') w L3 (fun d v M hM o=>Own.mono hG ha s d v M (fun p hp=>hl p (List.mem_cons_of_mem _ (List.mem_append_right _ (hM p hp)))) o) o3
    rw[mi g1] at o4
    refine⟨a::L4,lq p4 p3,?_⟩
    unfold g6
    simp only[hi]
    unfold Own
    exact⟨a,_,L4,rfl,rfl,(hl a List.mem_cons_self).trans e3,fL nd,o4,rfl⟩
 | .dt s,d,v,L,.kt k::q,s',d',o,hs,hd=>by
  unfold Own at o
  obtain⟨a,vs,ds,L',rfl,rfl,e3,nd,o1,rfl⟩:=o
  unfold shP at hs
  unfold lM at hd
  cases hi:aD ds k with
  |none=>rw[hi] at hd;cases hd
  |some x=>
   rw[hi] at hd
   obtain⟨w,M1,M2,g1,g2,pm,f⟩:=cU.item o1 hi
   obtain⟨v',N1,N2,h1,h2,pn,f2⟩:=Own.place q g2 hs hd
   refine⟨v',N1,a::(N2++M2),⟨a,vs,w,rfl,e3,g1,h1⟩,h2,?_,fun G' H' d'' L1' hG ha hl o'=> ?_⟩
   ·exact lq pm pn
   ·obtain⟨L3,p3,o3⟩:=f2 G' H' d'' L1' hG ha (fun p hp=>hl p (List.mem_cons_of_mem _ (List.mem_append_left _ hp))) o'
    obtain⟨L4,p4,o4⟩:=f (Own K G' H' s) (g6 x q d'') w L3 (fun d v M hM o=>Own.mono hG ha s d v M (fun p hp=>hl p (List.mem_cons_of_mem _ (List.mem_append_right _ (hM p hp)))) o) o3
    rw[mi g1] at o4
    refine⟨a::L4,lq p4 p3,?_⟩
    unfold g6
    simp only[hi]
    unfold Own
    exact⟨a,vs,_,L4,rfl,rfl,(hl a List.mem_cons_self).trans e3,fL nd,o4,rfl⟩
 | .is fs,d,v,L,.fd k::q,s',d',o,hs,hd=>by
  unfold Own at o
  obtain⟨a,C,dx,vs,ds,L',rfl,rfl,e3,o1,rfl⟩:=o
  unfold shP at hs
  unfold lM at hd
  cases hi:ds.lookup k with
  |none=>rw[hi] at hd;cases hd
  |some x=>
   cases hj:fs.lookup k with
   |none=>rw[hj] at hs;cases hs
   |some s1=>
    rw[hi] at hd
    rw[hj] at hs
    obtain⟨w,M1,M2,g1,g2,pm,f⟩:=cV.item o1 hj hi
    obtain⟨v',N1,N2,h1,h2,pn,f2⟩:=Own.place q g2 hs hd
    refine⟨v',N1,a::(N2++M2),⟨a,_,dx,vs,w,rfl,e3,g1,h1⟩,h2,?_,fun G' H' d'' L1' hG ha hl o'=> ?_⟩
    ·exact lq pm pn
    ·obtain⟨L3,p3,o3⟩:=f2 G' H' d'' L1' hG ha (fun p hp=>hl p (List.mem_cons_of_mem _ (List.mem_append_left _ hp))) o'
     obtain⟨L4,p4,o4⟩:=f G' H' (g6 x q d'') L3 hG ha (fun p hp=>hl p (List.mem_cons_of_mem _ (List.mem_append_right _ hp))) o3
     refine⟨a::L4,lq p4 p3,?_⟩
     unfold g6
     simp only[hi]
     unfold Own
     exact⟨a,C,dx,vs,_,L4,rfl,rfl,(hl a List.mem_cons_self).trans e3,o4,rfl⟩
 | .hl ss,d,v,L,.ix i::q,s',d',o,hs,hd=>by
  unfold Own at o
  obtain⟨a,vs,ds,L',rfl,rfl,e3,o1,rfl⟩:=o
  unfold shP at hs
  unfold lM at hd
  cases hi:ds[i]? with
  |none=>rw[hi] at hd;cases hd
  |some x=>
   cases hj:ss[i]? with
   |none=>rw[hj] at hs;cases hs
   |some s1=>
    rw[hi] at hd
    rw[hj] at hs
    obtain⟨w,M1,M2,g1,g2,pm,f⟩:=eG.item o1 hj hi
    obtain⟨v',N1,N2,h1,h2,pn,f2⟩:=Own.place q g2 hs hd
    refine⟨v',N1,a::(N2++M2),⟨a,vs,w,rfl,e3,g1,h1⟩,h2,?_,fun G' H' d'' L1' hG ha hl o'=> ?_⟩
    ·exact lq pm pn
    ·obtain⟨L3,p3,o3⟩:=f2 G' H' d'' L1' hG ha (fun p hp=>hl p (List.mem_cons_of_mem _ (List.mem_append_left _ hp))) o'
     obtain⟨L4,p4,o4⟩:=f G' H' (g6 x q d'') L3 hG ha (fun p hp=>hl p (List.mem_cons_of_mem _ (List.mem_append_right _ hp))) o3
     refine⟨a::L4,lq p4 p3,?_⟩
     unfold g6
     simp only[hi]
     unfold Own
     exact⟨a,vs,_,L4,rfl,rfl,(hl a List.mem_cons_self).trans e3,o4,rfl⟩
 | .hl s,d,v,L,.ky k::q,s',d',o,hs,hd=>by simp[shP] at hs
 | .hl s,d,v,L,.kt k::q,s',d',o,hs,hd=>by simp[shP] at hs
 | .hl s,d,v,L,.fd k::q,s',d',o,hs,hd=>by simp[shP] at hs
 | .fz,d,v,L,x::q,s',d',o,hs,hd=>by cases x <;> simp[shP] at hs
 | .ls s,d,v,L,.ky k::q,s',d',o,hs,hd=>by simp[shP] at hs
 | .ls s,d,v,L,.kt k::q,s',d',o,hs,hd=>by simp[shP] at hs
 | .ls s,d,v,L,.fd k::q,s',d',o,hs,hd=>by simp[shP] at hs
 | .dc s,d,v,L,.ix k::q,s',d',o,hs,hd=>by simp[shP] at hs
 | .dc s,d,v,L,.kt k::q,s',d',o,hs,hd=>by simp[shP] at hs
 | .dc s,d,v,L,.fd k::q,s',d',o,hs,hd=>by simp[shP] at hs
 | .dt s,d,v,L,.ix k::q,s',d',o,hs,hd=>by simp[shP] at hs
 | .dt s,d,v,L,.ky k::q,s',d',o,hs,hd=>by simp[shP] at hs
 | .dt s,d,v,L,.fd k::q,s',d',o,hs,hd=>by simp[shP] at hs
 | .is s,d,v,L,.ix k::q,s',d',o,hs,hd=>by simp[shP] at hs
 | .is s,d,v,L,.ky k::q,s',d',o,hs,hd=>by simp[shP] at hs
 | .is s,d,v,L,.kt k::q,s',d',o,hs,hd=>by simp[shP] at hs
 | .dk _ _ s,d,v,L,.ix k::q,s',d',o,hs,hd=>by simp[shP] at hs
 | .dk _ _ s,d,v,L,.kt k::q,s',d',o,hs,hd=>by simp[shP] at hs
 | .dk _ _ s,d,v,L,.fd k::q,s',d',o,hs,hd=>by simp[shP] at hs
 | .lz,d,v,L,x::q,s',d',o,hs,hd=>by cases x <;> simp[shP] at hs
 | .op _,d,v,L,x::q,s',d',o,hs,hd=>by cases x <;> simp[shP] at hs
 | .tp _,d,v,L,x::q,s',d',o,hs,hd=>by cases x <;> simp[shP] at hs
 | .tq _,d,v,L,x::q,s',d',o,hs,hd=>by cases x <;> simp[shP] at hs
 | .ex _,d,v,L,x::q,s',d',o,hs,hd=>by cases x <;> simp[shP] at hs
termination_by _ _ _ _ q=>q.length
end
end Sw
namespace Sw
open PySem PySem.Spec PyProof.Rows L2
variable [NmC]
inductive Rg where
 |hb|bb|fz
inductive VM where
 |rg (r:Rg)|nw (s:Sh)|sp (r:Rg)
def rgn (O:Org) (G:Sa):Rg->Sa
 | .hb=>fun _=>True
 | .bb=>O.B
 | .fz=>G
def bA (K:Frg) (O:Org) (H H':Hp) (G':Sa):VM->D->V->Prop
 | .rg r,d,v=>Rep K (rgn O G' r) H' d v
 | .nw s,d,v=> ∃L,L.Nodup/\(∀p∈L,H p=none/\ ¬G' p)/\Own K G' H' s d v L
 | .sp r,d,v=>Spn K (rgn O G' r) G' H' d v
def rdE (K:Frg) (Δ:List Md) (st:Ds) (m:VM) (r:Option D):TE:=fun σ H Q=>
 ∃O G d,Rel K O Δ st σ H G/\r=some d/\ ∀v H' G',Ext H G H' G'->bA K O H H' G' m d v->Q v H'
def rdT (K:Frg) (Δ:List Md) (st:Ds) (r:Option Bool):TT:=fun σ H Q=>
 ∃O G b,Rel K O Δ st σ H G/\r=some b/\ ∀H' G',Ext H G H' G'->Q b H'
def jH (K:Frg) (O:Org) (H H':Hp) (G':Sa):List VM->List D->List V->Prop
 | [],[],vs=>vs=[]
 |m::ms,d::ds,vs=> ∃v r,vs=v::r/\bA K O H H' G' m d v/\jH K O H H' G' ms ds r
 |_,_,_=>False
def rdA (K:Frg) (Δ:List Md) (st:Ds) (ms:List VM) (r:Option (List D)):TA:=fun σ H Q=>
 ∃O G ds,Rel K O Δ st σ H G/\r=some ds/\ ∀vs H' G',Ext H G H' G'->jH K O H H' G' ms ds vs->Q vs H'
abbrev PX (X:Cx) (Δ:List Md) (st:Ds) (e:Expr) (m:VM) (r:Option D):Prop:=PE X e (rdE X.K Δ st m r)
abbrev PTx (X:Cx) (Δ:List Md) (st:Ds) (e:Expr) (r:Option Bool):Prop:=PT X e (rdT X.K Δ st r)
abbrev PWx (X:Cx) (Δ:List Md) (st:Ds) (e:Expr) (r:Option Bool):Prop:=PW X e (rdT X.K Δ st r)
abbrev PAx (X:Cx) (Δ:List Md) (st:Ds) (es:List Expr) (ms:List VM) (r:Option (List D)):Prop:=PA X es (rdA X.K Δ st ms r)
section
variable {X:Cx} {e:Expr} {es:List Expr} {t t':TE} {pos:Pos}
theorem cD (h:PE X e t) (i: ∀σ H Q,t' σ H Q->t σ H Q):PE X e t':=⟨fun pins s σ H Q I q=>h.run pins s σ H Q I (i σ H Q q)⟩
theorem x6 {t t':TT} (h:PT X e t) (i: ∀σ H Q,t' σ H Q->t σ H Q):PT X e t':=⟨fun pins s σ H Q I q=>h.run pins s σ H Q I (i σ H Q q)⟩
theorem D5 {t t':TT} (h:PW X e t) (i: ∀σ H Q,t' σ H Q->t σ H Q):PW X e t':=⟨fun w pins s σ H Q I q=>h.run w pins s σ H Q I (i σ H Q q)⟩
theorem D6 {t t':TA} (h:PA X es t) (i: ∀σ H Q,t' σ H Q->t σ H Q):PA X es t':=⟨fun pos pins s σ H Q I q=>h.run pos pins s σ H Q I (i σ H Q q)⟩
theorem g7 {t t':TS} {st:List Stmt} (h:PSs X st t) (i: ∀D σ H,t' D σ H->t D σ H):PSs X st t':=⟨fun pins s σ H D I q=>h.run pins s σ H D I (i D σ H q)⟩
end
section
variable {K:Frg} {O:Org} {H H1 H2:Hp} {G G1 G2:Sa} {Δ:List Md} {st:Ds} {σ:CS}
theorem bA.mono {m:VM} {d:D} {v:V} (h:bA K O H H1 G1 m d v) (e:Ext H1 G1 H2 G2):bA K O H H2 G2 m d v:=by
 cases m with
 |rg r=>
  cases r with
  |hb=>exact Rep.mono (fun _ g=>g) e.agr d v h
  |bb=>exact Rep.mono (fun _ g=>g) e.agr d v h
  |fz=>exact Rep.mono e.gg e.agr d v h
 |nw s=>
  obtain⟨L,nd,f,o⟩:=h
  have hk:=Own.kind s d v L o
  refine⟨L,nd,fun p m=>⟨(f p m).1,fun g=> ?_⟩,Own.mono e.gg e.agr s d v L (fun p m=>e.vh (hk p m)) o⟩
  rcases e.gn p g with g|⟨n,_⟩|⟨xs,t⟩
  ·exact (f p m).2 g
  ·exact (hk p m).ne n
  ·exact (hk p m).zY t
 |sp r=>
  cases r with
  |hb=>exact Spn.mono (fun _ g=>g) e.gg e.agr e.agr h
  |bb=>exact Spn.mono (fun _ g=>g) e.gg e.agr e.agr h
  |fz=>exact Spn.mono e.gg e.gg e.agr e.agr h
theorem Ext.back (e:Ext H G H1 G1) {p:Addr} (h:H1 p=none):H p=none:=e.bk h
theorem bA.back {m:VM} {d:D} {v:V} (e:Ext H G H1 G1) (h:bA K O H1 H2 G2 m d v):bA K O H H2 G2 m d v:=by
 cases m with
 |rg r=>exact h
 |nw s=>
  obtain⟨L,nd,f,o⟩:=h
  exact⟨L,nd,fun p m=>⟨e.back (f p m).1,(f p m).2⟩,o⟩
 |sp r=>exact h
theorem jH.back: ∀{ms:List VM} {ds:List D} {vs:List V},Ext H G H1 G1->jH K O H1 H2 G2 ms ds vs->jH K O H H2 G2 ms ds vs
 | [],[],_,_,h=>h
 |m::ms,d::ds,_,e,⟨v,r,e1,h1,h2⟩=>⟨v,r,e1,h1.back e,jH.back e h2⟩
 | [],_::_,_,_,h=>h.elim
 |_::_,[],_,_,h=>h.elim
theorem rdE.go {m:VM} {r:Option D} {d:D} {Q:VK} (rel:Rel K O Δ st σ H G) (e:r=some d) (k: ∀v H' G',Rel K O Δ st σ H' G'->Ext H G H' G'->bA K O H H' G' m d v->Q v H'):rdE K Δ st m r σ H Q:=
 ⟨O,G,d,rel,e,fun v H' G' x h=>k v H' G' (rel.ext x) x h⟩
theorem rdT.go {r:Option Bool} {b:Bool} {Q:Bool->Hp->Prop} (rel:Rel K O Δ st σ H G) (e:r=some b) (k: ∀H' G',Rel K O Δ st σ H' G'->Ext H G H' G'->Q b H'):rdT K Δ st r σ H Q:=
 ⟨O,G,b,rel,e,fun H' G' x=>k H' G' (rel.ext x) x⟩
theorem rdA.go {ms:List VM} {r:Option (List D)} {d:List D} {Q:List V->Hp->Prop} (rel:Rel K O Δ st σ H G) (e:r=some d) (k: ∀v H' G',Rel K O Δ st σ H' G'->Ext H G H' G'->jH K O H H' G' ms d v->Q v H'):rdA K Δ st ms r σ H Q:=
 ⟨O,G,d,rel,e,fun v H' G' x h=>k v H' G' (rel.ext x) x h⟩
theorem bA.hb {m:VM} {d:D} {v:V} (h:bA K O H H1 G1 m d v):Rep K (fun _=>True) H1 d v:=by
 cases m with
 |rg r=>exact Rep.mono (fun _ _=>trivial) au d v h
 |nw s=>
  obtain⟨L,nd,f,o⟩:=h
  exact Rep.mono (fun _ _=>trivial) au d v (Own.rep s d v L o)
 |sp r=>exact Spn.rep h
theorem cq {α β γ:Type} {a:Option α} {b:Option β} {f:α->β->Option γ} {d:γ} (h:(a.bind fun x=>b.bind fun y=>f x y)=some d): ∃x y,a=some x/\b=some y/\f x y=some d:=by
 cases a with
 |none=>cases h
 |some x=>
  cases b with
  |none=>cases h
  |some y=>exact⟨x,y,rfl,rfl,h⟩
theorem bind1 {α γ:Type} {a:Option α} {f:α->Option γ} {d:γ} (h:a.bind f=some d): ∃x,a=some x/\f x=some d:=by
 cases a with
 |none=>cases h
 |some x=>exact⟨x,rfl,h⟩
end
mutual
def D.ev:D->Bool
 | .non=>true| .bl _=>true| .int _=>true| .str _=>true| .fn _=>true| .glf _=>true
 | .tup ds=>D.evs ds
 |_=>false
def D.evs:List D->Bool
 | []=>true
 |d::ds=>D.ev d&&D.evs ds
end
def D.et (d:D):Option D:=if d.ev=true then some d else none
section
variable {K:Frg} {S G:Sa} {H:Hp}
mutual
theorem Rep.et: ∀(d:D) (v:V),d.ev=true->Rep K S H d v-> ∃N:Sa,(∀p,N p-> ∃xs,H p=some (.tup xs))/\Rep K (fun p=>G p\/N p) H d v
 | .non,v,_,h=>⟨fun _=>False,fun _ f=>f.elim,h⟩
 | .bl _,v,_,h=>⟨fun _=>False,fun _ f=>f.elim,h⟩
 | .int _,v,_,h=>⟨fun _=>False,fun _ f=>f.elim,h⟩
 | .str _,v,_,h=>⟨fun _=>False,fun _ f=>f.elim,h⟩
 | .fn _,v,_,h=>⟨fun _=>False,fun _ f=>f.elim,h⟩
 | .glf _,v,_,h=>⟨fun _=>False,fun _ f=>f.elim,h⟩
 | .tup ds,v,he,h=>by
  unfold Rep at h
  unfold D.ev at he
  obtain⟨a,vs,e,l,r⟩:=h
  obtain⟨N,hN,g⟩:=aB.et ds vs he r
  refine⟨fun p=>N p\/(p=a/\H a=some (.tup vs)),fun p hp=> ?_,?_⟩
  ·rcases hp with hp|⟨rfl,hp⟩
   ·exact hN p hp
   ·exact⟨_,hp⟩
  ·unfold Rep
   exact⟨a,vs,e,⟨.inr (.inr ⟨rfl,l.2⟩),l.2⟩,aB.mono (fun p x=>x.imp id .inl) au ds vs g⟩
 | .lst _,v,he,h=>by simp[D.ev] at he
 | .dct _,v,he,h=>by simp[D.ev] at he
 | .dcT _,v,he,h=>by simp[D.ev] at he
 | .ins _ _,v,he,h=>by simp[D.ev] at he
 | .sc _,v,he,h=>by simp[D.ev] at he
theorem aB.et: ∀(ds:List D) (vs:List V),D.evs ds=true->aB K S H ds vs-> ∃N:Sa,(∀p,N p-> ∃xs,H p=some (.tup xs))/\aB K (fun p=>G p\/N p) H ds vs
 | [],vs,_,h=>by unfold aB at h;rw[h];exact⟨fun _=>False,fun _ f=>f.elim,.nil⟩
 |d::ds,vs,he,h=>by
  unfold aB at h
  unfold D.evs at he
  rw[Bool.and_eq_true] at he
  obtain⟨v,r,e,h1,h2⟩:=h
  obtain⟨N1,hN1,g1⟩:=Rep.et d v he.1 h1
  obtain⟨N2,hN2,g2⟩:=aB.et ds r he.2 h2
  subst e
  refine⟨fun p=>N1 p\/N2 p,fun p hp=>hp.elim (hN1 p) (hN2 p),.cons (Rep.mono (fun p x=>x.imp id .inl) au d v g1) (aB.mono (fun p x=>x.imp id .inr) au ds r g2)⟩
end
end
section
variable {X:Cx} {Δ:List Md} {st:Ds} {e:Expr} {m:VM} {r:Option D}
theorem gb {s:Sh} (h:PX X Δ st e (.nw s) r):PX X Δ st e (.rg .fz) r:=cD h fun σ H Q ⟨O,G,d,rel,er,k⟩=>⟨O,G,d,rel,er,fun v H' G' x ⟨L,nd,f,o⟩=>by
 refine k v H' (fun p=>G' p\/p∈L) (x.re (fun p g=>.inl (x.gg p g)) fun p g=> ?_) (Own.rep s d v L o)
 rcases g with g|g
 ·exact x.gn p g
 ·exact .inr (.inl ⟨(f p g).1,(Own.kind s d v L o p g).ne⟩)⟩
theorem ak {i:Int} {j pos} {rg:Rg}:PX X Δ st (.Constant (.int i) j pos) (.rg rg) (some (.int i)):=cD pe_int fun σ H Q ⟨O,G,d,rel,er,k⟩=>by
 cases er;exact k _ H G .refl (by unfold bA Rep;rfl)
theorem aN {i:Str} {j pos} {rg:Rg}:PX X Δ st (.Constant (.str i) j pos) (.rg rg) (some (.str i)):=cD pe_str fun σ H Q ⟨O,G,d,rel,er,k⟩=>by
 cases er;exact k _ H G .refl (by unfold bA Rep;rfl)
theorem j5 {i:Bool} {j pos} {rg:Rg}:PX X Δ st (.Constant (.bool i) j pos) (.rg rg) (some (.bl i)):=cD pe_bl fun σ H Q ⟨O,G,d,rel,er,k⟩=>by
 cases er;exact k _ H G .refl (by unfold bA Rep;rfl)
def IQ:Md->Rg
 | .bo=>.bb| .fz=>.fz| .ow _=>.hb| .pn _ _=>.hb| .bl=>.hb
theorem af (i:Nat) {x:Str} {pos:Pos} {md:Md} {d:D} (hm:Δ[i]? =some md) (hd:st[i]? =some (some d)) (hN:X.N[i]? =some x) (hv:Vis X.env.scope x) (h1:(x==("__debug__" :Str))=false:=by decide) (h2:(x==("__classdict__" :Str))=false:=by decide):
  PX X Δ st (.Name x pos) (.rg (IQ md)) (some d):=cD (pe_var hN hv h1 h2) fun σ H Q ⟨O,G,d',rel,er,k⟩=>by
 cases er
 obtain⟨L,g,s⟩:=rel
 obtain⟨x',y',L1,L2,ex,ey,sr,pm,_⟩:=s.split hm
 rw[hd] at ex;cases ex
 cases md with
 |bo=>obtain⟨v,e1,r1,_⟩:=sr;subst e1;exact⟨v,ey,k v H G .refl r1⟩
 |fz=>obtain⟨v,e1,r1,_⟩:=sr;subst e1;exact⟨v,ey,k v H G .refl r1⟩
 |ow s=>obtain⟨v,e1,r1⟩:=sr;subst e1;exact⟨v,ey,k v H G .refl (Rep.mono (fun _ _=>trivial) au _ _ (Own.rep _ _ _ _ r1))⟩
 |pn v s=>obtain⟨e1,r1⟩:=sr;subst e1;exact⟨v,ey,k v H G .refl (Rep.mono (fun _ _=>trivial) au _ _ (Own.rep _ _ _ _ r1))⟩
 |bl=>obtain⟨v,e1,r1,_⟩:=sr;subst e1;exact⟨v,ey,k v H G .refl r1.rep⟩
end
section
variable {X:Cx} {Δ:List Md} {st:Ds} {a b c e o:Expr} {es:List Expr} {m ma mb mc:VM} {ra rb rc:Option D} {pos:Pos}
def Op2 (X:Cx) (r2:R2) (ma mb:VM) (m:VM) (f:D->D->Option D):Prop:=
 ∀O H0 H G x y v w d Q,f x y=some d->bA X.K O H0 H G ma x v->bA X.K O H0 H G mb y w->(∀p,G p->H p≠none)->(∀u H' G',Ext H G H' G'->bA X.K O H H' G' m d u->Q u H')->r2 v w H Q
def OpN (X:Cx) (rn:List V->Hp->VK->Prop) (ms:List VM) (m:VM) (f:List D->Option D):Prop:=
 ∀O H0 H G xs vs d Q,f xs=some d->jH X.K O H0 H G ms xs vs->(∀p,G p->H p≠none)->(∀u H' G',Ext H G H' G'->bA X.K O H H' G' m d u->Q u H')->rn vs H Q
theorem Rel.tb {K:Frg} {O:Org} {σ:CS} {H:Hp} {G:Sa} (r:Rel K O Δ st σ H G):LamX.Tabs NmC.T H:=by
 obtain⟨L,g,_⟩:=r
 exact g.tb
theorem Rel.gin {K:Frg} {O:Org} {σ:CS} {H:Hp} {G:Sa} (r:Rel K O Δ st σ H G): ∀p,G p->H p≠none:=by
 obtain⟨L,g,_⟩:=r
 exact g.gin
theorem tT {r2:R2} {f:D->D->Option D} (hf:Op2 X r2 ma mb m f) {σ:CS} {H:Hp} {Q:VK} (h:rdE X.K Δ st m (ra.bind fun x=>rb.bind fun y=>f x y) σ H Q):tOp r2 (rdE X.K Δ st ma ra) (rdE X.K Δ st mb rb) σ H Q:=by
 obtain⟨O,G,d,rel,er,k⟩:=h
 obtain⟨x,y,e1,e2,e3⟩:=cq er
 refine rdE.go rel e1 fun v H1 G1 rel1 x1 v1=>rdE.go rel1 e2 fun w H2 G2 rel2 x2 v2=> ?_
 exact hf O H H2 G2 x y v w d Q e3 (v1.mono x2) (v2.back x1) rel2.gin fun u H' G' x3 hu=>k u H' G' (x1.trans (x2.trans x3)) (hu.back (x1.trans x2))
theorem aG {op:Operator} {r2:R2} {f:D->D->Option D} (ho:OpR X (binaryOp op) r2) (hf:Op2 X r2 ma mb m f) (ha:PX X Δ st a ma ra) (hb:PX X Δ st b mb rb):PX X Δ st (.BinOp a op b pos) m (ra.bind fun x=>rb.bind fun y=>f x y):=
 cD (pe_op ho ha hb) fun _ _ _ h=>tT hf h
theorem jP {op:CmpOp} {r2:R2} {f:D->D->Option D} (ho:OpR X (compareOp op) r2) (hf:Op2 X r2 ma mb m f) (ha:PX X Δ st a ma ra) (hb:PX X Δ st b mb rb) (hm:behindInMarks op b=false):PX X Δ st (.Compare a [op] [b] pos) m (ra.bind fun x=>rb.bind fun y=>f x y):=
 cD (pe_cmpR ho ha hb hm) fun _ _ _ h=>tT hf h
def blD (f:D->D->Option Bool) (x y:D):Option D:=(f x y).map D.bl
theorem bA.bl {K:Frg} {O:Org} {H H1:Hp} {G1:Sa} {r:Rg} {b:Bool} {v:V} (h:bA K O H H1 G1 (.rg r) (.bl b) v):v= .bl b:=by
 unfold bA Rep at h;exact h
theorem br {op:CmpOp} {r2:R2} {f:D->D->Option Bool} (ho:OpR X (compareOp op) r2) (hf:Op2 X r2 ma mb (.rg .fz) (blD f)) (ha:PX X Δ st a ma ra) (hb:PX X Δ st b mb rb) (hm:behindInMarks op b=false):PTx X Δ st (.Compare a [op] [b] pos) (ra.bind fun x=>rb.bind fun y=>f x y):=
 x6 (pt_cmpR ho ha hb hm) fun σ H Q ⟨O,G,c,rel,er,k⟩=>by
  obtain⟨x,y,e1,e2,e3⟩:=cq er
  refine tT (m:=.rg .fz) (f:=blD f) hf ⟨O,G,.bl c,rel,by rw[e1,e2];show (f x y).map D.bl=_;rw[e3];rfl,fun v H' G' x hv=>⟨c,hv.bl,k H' G' x⟩⟩
theorem aA:PAx X Δ st [] [] (some []):=D6 pa_nil fun σ H Q ⟨O,G,d,rel,er,k⟩=>by
 cases er;exact k _ H G .refl rfl
theorem ae {ms:List VM} {rs:Option (List D)} (ha:PX X Δ st e m ra) (hr:PAx X Δ st es ms rs) (hs:starEach (e::es) X.env=(false,eval e X.env)::starEach es X.env:=by rfl):
  PAx X Δ st (e::es) (m::ms) (ra.bind fun x=>rs.bind fun xs=>some (x::xs)):=D6 (pa_cons ha hr hs) fun σ H Q ⟨O,G,d,rel,er,k⟩=>by
 obtain⟨x,y,e1,e2,e3⟩:=cq er
 cases e3
 exact rdE.go rel e1 fun v H1 G1 rel1 x1 v1=>rdA.go rel1 e2 fun w H2 G2 rel2 x2 v2=>k _ H2 G2 (x1.trans x2) ⟨v,w,rfl,v1.mono x2,v2.back x1⟩
theorem j6 {x:Str} {p:Pos} {id:String} {ms:List VM} {rs:Option (List D)} {rn:List V->Hp->VK->Prop} {f:List D->Option D} (hc:CallR X (.builtin id) rn) (hf:OpN X rn ms m f) (hg:Gl X x) (hm:X.mg x=none) (hv:bootBuiltins x=some (.builtin id)) (ha:PAx X Δ st (e::es) ms rs)
  (hn:x≠"__name__" :=by decide) (hdb:(x==("__debug__" :Str))=false:=by decide) (he:starEach (e::es) X.env=(false,eval e X.env)::starEach es X.env:=by rfl) (hpl:(backTo pos (starEach es X.env)).any (·.1)=false:=by rfl):
  PX X Δ st (.Call (.Name x p) (e::es) [] pos) m (rs.bind f):=cD (pe_callB hc hg hm hv ha hn hdb he hpl) fun σ H Q ⟨O,G,d,rel,er,k⟩=>by
 obtain⟨xs,e1,e2⟩:=bind1 er
 exact rdA.go rel e1 fun v H1 G1 rel1 x1 v1=>hf O H H1 G1 xs v d Q e2 v1 rel1.gin fun u H' G' x3 hu=>k u H' G' (x1.trans x3) (hu.back x1)
theorem sV {x:Str} {p:Pos} {T:String} {ms:List VM} {rs:Option (List D)} {rn:List V->Hp->VK->Prop} {f:List D->Option D} (hc:CallR X (.type T) rn) (hf:OpN X rn ms m f) (hg:Gl X x) (hm:X.mg x=none) (hv:bootBuiltins x=some (.type T)) (ha:PAx X Δ st (e::es) ms rs)
  (hn:x≠"__name__" :=by decide) (hdb:(x==("__debug__" :Str))=false:=by decide) (he:starEach (e::es) X.env=(false,eval e X.env)::starEach es X.env:=by rfl) (hpl:(backTo pos (starEach es X.env)).any (·.1)=false:=by rfl):
  PX X Δ st (.Call (.Name x p) (e::es) [] pos) m (rs.bind f):=cD (pe_callTy hc hg hm hv ha hn hdb he hpl) fun σ H Q ⟨O,G,d,rel,er,k⟩=>by
 obtain⟨xs,e1,e2⟩:=bind1 er
 exact rdA.go rel e1 fun v H1 G1 rel1 x1 v1=>hf O H H1 G1 xs v d Q e2 v1 rel1.gin fun u H' G' x3 hu=>k u H' G' (x1.trans x3) (hu.back x1)
end
end Sw
namespace Sw
open PySem PySem.Spec PyProof.Rows L2
variable [NmC]
structure Xn where
 C:Str
 fs:List (Str×D)
inductive Out (α β:Type) where
 |nx (a:α)|bk (b:β)|ct (b:β)|ret (d:D) (os:List D)|exc (x:Xn)
inductive FR where
 |ok (d:D) (os:List D)|er (x:Xn)
structure Exits (α β:Type) where
 Dn:List Md
 en:α->Ds
 Dl:List Md
 el:β->Ds
 rm:VM
 pins:List (V×Sh)
 xw:XK
 fl:Bool
def sC (K:Frg) (G:Sa) (H:Hp):List (V×Sh)->List D->List Addr->Prop
 | [],[],L=>L=[]
 |(v,s)::ps,d::ds,L=> ∃L1 L2,Own K G H s d v L1/\sC K G H ps ds L2/\L=L1++L2
 |_,_,_=>False
def IS (K:Frg) (G:Sa) (H:Hp):VM->D->V->List Addr->Prop
 | .rg .fz,d,v,L=>Rep K G H d v/\L=[]
 | .rg _,_,_,_=>False
 | .nw s,d,v,L=>Own K G H s d v L
 | .sp _,_,_,_=>False
def yZ (K:Frg) (rm:VM) (ps:List (V×Sh)) (O:Org) (d:D) (os:List D) (v:V) (H:Hp) (G:Sa):Prop:=
 ∃L1 L2,b8 O H G (L1++L2)/\IS K G H rm d v L1/\sC K G H ps os L2
def XcR (K:Frg) (ps:List (V×Sh)) (O:Org) (x:Xn) (c:Value) (od:Option Addr) (H:Hp) (G:Sa):Prop:=
 c= .ref (He.ga K x.C)/\(∃L,b8 O H G L)/\((x.fs=[]/\od=none)\/ ∃a fvs,od=some a/\H a=some (.xd fvs)/\O.H0 a=none/\ ¬G a/\fv K G H x.fs fvs)
def Meets {α β:Type} (K:Frg) (E:Exits α β) (O:Org) (De:Ends):Out α β->Prop
 | .nx a=> ∀σ H G,Rel K O E.Dn (E.en a) σ H G->De.nx σ H
 | .bk b=> ∀σ H G,Rel K O E.Dl (E.el b) σ H G->De.bk σ H
 | .ct b=> ∀σ H G,Rel K O E.Dl (E.el b) σ H G->De.ct σ H
 | .ret d os=> ∀v H G,yZ K E.rm E.pins O d os v H G->De.rt v H/\(E.fl=true->v= .non-> ∀σ,De.nx σ H)
 | .exc x=> ∀c od H G,XcR K E.pins O x c od H G->E.xw c od H
def rdS {α β:Type} (K:Frg) (E:Exits α β) (Δ:List Md) (st:Ds) (m:Option (Out α β)):TS:=fun De σ H=>
 ∃O G r,Rel K O Δ st σ H G/\m=some r/\Meets K E O De r
abbrev Blk {α β:Type} (X:Cx) (E:Exits α β) (Δ:List Md) (st:Ds) (ss:List Stmt) (m:Option (Out α β)):Prop:=PSs X ss (rdS X.K E Δ st m)
theorem gc {X:Cx} {ss:List Stmt} {α:Type} {t:α->TS} (h: ∀a,PSs X ss (t a)):PSs X ss (fun De σ H=> ∃a,t a De σ H):=⟨fun pins s σ H De I ⟨a,q⟩=>(h a).run pins s σ H De I q⟩
theorem D7 {X:Cx} {e:Expr} {α:Type} {t:α->TE} (h: ∀a,PE X e (t a)):PE X e (fun σ H Q=> ∃a,t a σ H Q):=⟨fun pins s σ H De I ⟨a,q⟩=>(h a).run pins s σ H De I q⟩
theorem GO {X:Cx} {e:Expr} {α:Type} {t:α->TT} (h: ∀a,PT X e (t a)):PT X e (fun σ H Q=> ∃a,t a σ H Q):=⟨fun pins s σ H De I ⟨a,q⟩=>(h a).run pins s σ H De I q⟩
def jQ:List Md->Ds->Option (List D)
 | [],[]=>some []
 | .pn _ _::ms,some d::st=>(jQ ms st).map fun ds=>d::ds
 | .pn _ _::_,none::_=>none
 |_::ms,_::st=>jQ ms st
 |_,_=>none
def Cd:List Md->List (V×Sh)
 | []=>[]
 | .pn v s::ms=>(v,s)::Cd ms
 |_::ms=>Cd ms
section
variable {K:Frg} {O:Org} {B G:Sa} {H:Hp}
theorem Slots.pins: ∀{Δ:List Md} {st:Ds} {σ:CS} {L:List Addr} {os:List D},Slots K B G H Δ st σ L->jQ Δ st=some os-> ∃L',L'.Sublist L/\sC K G H (Cd Δ) os L'
 | [],[],[],_,_,h,e=>by cases e;exact⟨[],List.nil_sublist _,rfl⟩
 | .pn v s::ms,some d::xs,y::ys,_,os,⟨L1,L2,h1,h2,e⟩,e'=>by
  unfold jQ at e'
  cases q:jQ ms xs with
  |none=>rw[q] at e';cases e'
  |some ds=>
   rw[q] at e';cases e'
   obtain⟨L',sl,p⟩:=Slots.pins h2 q
   exact⟨L1++L',e▸List.Sublist.append (List.Sublist.refl _) sl,L1,L',h1.2,p,rfl⟩
 | .pn v s::ms,none::xs,y::ys,_,os,_,e'=>by cases e'
 | .bo::ms,x::xs,y::ys,_,os,⟨L1,L2,h1,h2,e⟩,e'=>by
  obtain⟨L',sl,p⟩:=Slots.pins h2 (by unfold jQ at e';exact e')
  exact⟨L',e▸sl.trans (List.sublist_append_right _ _),p⟩
 | .fz::ms,x::xs,y::ys,_,os,⟨L1,L2,h1,h2,e⟩,e'=>by
  obtain⟨L',sl,p⟩:=Slots.pins h2 (by unfold jQ at e';exact e')
  exact⟨L',e▸sl.trans (List.sublist_append_right _ _),p⟩
 | .bl::ms,x::xs,y::ys,_,os,⟨L1,L2,h1,h2,e⟩,e'=>by
  obtain⟨L',sl,p⟩:=Slots.pins h2 (by unfold jQ at e';exact e')
  exact⟨L',e▸sl.trans (List.sublist_append_right _ _),p⟩
 | .ow _::ms,x::xs,y::ys,_,os,⟨L1,L2,h1,h2,e⟩,e'=>by
  obtain⟨L',sl,p⟩:=Slots.pins h2 (by unfold jQ at e';exact e')
  exact⟨L',e▸sl.trans (List.sublist_append_right _ _),p⟩
 | [],[],_::_,_,_,h,_=>h.elim
 | [],_::_,_,_,_,h,_=>h.elim
 |_::_,[],_,_,_,h,_=>h.elim
 |_::_,_::_,[],_,_,h,_=>h.elim
theorem b8.wG {L L1:List Addr} (r:b8 O H G L) (hk: ∀p∈L,Ndd H p) {H0:Hp} (hn: ∀p,H0 p=none->O.H0 p=none) (nd:L1.Nodup) (h: ∀p∈L1,H0 p=none/\ ¬G p) (hl: ∀p∈L,H0 p≠none):b8 O H G (L1++L):=
 ⟨r.bin,r.fr0,r.gsub,r.gold,r.gin,r.dom,List.nodup_append.mpr ⟨nd,r.nd,fun a ha b hb e=>hl b hb (e▸(h a ha).1)⟩,fun p m=>by
  rcases List.mem_append.mp m with m|m
  ·exact⟨(h p m).2,.inr (hn p (h p m).1)⟩
  ·exact r.lg p m,r.tl,r.tb⟩
theorem b8.back {L:List Addr} (r:b8 O H G L) {p:Addr} (h:H p=none):O.H0 p=none:=by
 cases q:O.H0 p with
 |none=>rfl
 |some u=>exact absurd h (r.dom p (by rw[q];simp))
end
section
variable {α β γ:Type} {X:Cx} {E:Exits α β} {Δ:List Md} {st:Ds} {rest:List Stmt} {e:Expr} {m:VM} {r:Option D} {pos:Pos}
theorem aO {a:α} (w:Wk Δ st E.Dn (E.en a)):Blk X E Δ st [] (some (.nx a)):=g7 pss_nil fun De σ H ⟨O,G,r,rel,er,k⟩=>by
 cases er;exact k σ H G (rel.weak w)
def GP:VM->Bool
 | .rg .fz=>true
 | .nw _=>true
 |_=>false
theorem aJ {os:List D} (he:PX X Δ st e m r) (hm:E.rm=m) (hp:jQ Δ st=some os) (hq:Cd Δ=E.pins) (hi:GP m=true:=by rfl):Blk X E Δ st (.Return (some e) pos::rest) (r.bind fun d=>some (.ret d os)):=
 g7 (pss_cons (ps_ret he) pss_never) fun De σ H ⟨O,G,q,rel,er,k⟩=>by
  obtain⟨d,e1,e2⟩:=bind1 er
  cases e2
  refine rdE.go rel e1 fun v H1 G1 rel1 x1 v1=> ?_
  obtain⟨L,g,s⟩:=rel
  have g1:=g.ext x1 s.kind (x1.gin g.gin)
  have s1:=Slots.mono (G':=G1) (H':=H1) x1.gg x1.agr x1.agr (fun p m=>x1.vh (s.kind p m)) s
  obtain⟨L',sl,p⟩:=s1.pins hp
  refine (k v H1 G1 ?_).1
  rw[hm,←hq]
  cases m with
  |rg r=>
   cases r with
   |fz=>exact⟨[],L',g1.sub sl,⟨v1,rfl⟩,p⟩
   |hb=>cases hi
   |bb=>cases hi
  |nw sh=>
   obtain⟨L1,nd,f,o⟩:=v1
   exact⟨L1,L',(g1.wG s1.kind (H0:=H) (fun p h=>g.back h) nd f fun p m=>(s.kind p m).ne).sub (List.Sublist.append (List.Sublist.refl _) sl),o,p⟩
  |sp r=>cases hi
def z8:VM->Option Md
 | .rg .bb=>some .bo
 | .rg .fz=>some .fz
 | .rg .hb=>none
 | .nw s=>some (.ow s)
 | .sp .bb=>some .bl
 | .sp _=>none
theorem Rel.lQ {O:Org} {K:Frg} {H H1:Hp} {G G1:Sa} {σ:CS} {i:Nat} {d:D} {v:V} {md:Md} (rel:Rel K O Δ st σ H G) (x1:Ext H G H1 G1) (hi:i<Δ.length) (hm:z8 m=some md) (hv:bA K O H H1 G1 m d v):
  Rel K O (Δ.set i md) (st.set i (some d)) (σ.set i (some v)) H1 G1:=by
 obtain⟨L,g0,s0⟩:=rel
 have g:=g0.ext x1 s0.kind (x1.gin g0.gin)
 have s:=Slots.mono (G':=G1) (H':=H1) x1.gg x1.agr x1.agr (fun p m=>x1.vh (s0.kind p m)) s0
 obtain⟨x',y',L1,L2,ex,ey,sr,pm,f⟩:=s.split (List.getElem?_eq_getElem hi)
 have hk: ∀p∈L2,Ndd H1 p:=fun p hp=>s.kind p (pm.mem_iff.mpr (List.mem_append_right _ hp))
 have base:b8 O H1 G1 L2:=(g.perm pm).sub (List.sublist_append_right _ _)
 cases m with
 |rg r=>
  cases r with
  |hb=>cases hm
  |bb=>
   cases hm
   obtain⟨L',pm',s'⟩:=f G1 H1 .bo (some d) (some v) [] (fun _ g=>g) au au (fun _ _=>rfl) ⟨v,rfl,hv,rfl⟩
   exact⟨L',base.perm pm'.symm,s'⟩
  |fz=>
   cases hm
   obtain⟨L',pm',s'⟩:=f G1 H1 .fz (some d) (some v) [] (fun _ g=>g) au au (fun _ _=>rfl) ⟨v,rfl,hv,rfl⟩
   exact⟨L',base.perm pm'.symm,s'⟩
 |nw sh=>
  cases hm
  obtain⟨Ln,nd,fr,o⟩:=hv
  obtain⟨L',pm',s'⟩:=f G1 H1 (.ow sh) (some d) (some v) Ln (fun _ g=>g) au au (fun _ _=>rfl) ⟨v,rfl,o⟩
  refine⟨L',b8.perm (base.wG hk (H0:=H) (fun p h=>g0.back h) nd fr fun p m=>(s0.kind p (pm.mem_iff.mpr (List.mem_append_right _ m))).ne) pm'.symm,s'⟩
 |sp r=>
  cases r <;> first|(cases hm;done)|skip
  cases hm
  obtain⟨L',pm',s'⟩:=f G1 H1 .bl (some d) (some v) [] (fun _ g=>g) au au (fun _ _=>rfl) ⟨v,rfl,hv,rfl⟩
  exact⟨L',base.perm pm'.symm,s'⟩
theorem EG (i:Nat) {x:Str} {p':Pos} {md:Md} {k:D->Option (Out α β)} (he:PX X Δ st e m r) (hm:z8 m=some md) (hi:i<Δ.length) (hnd:X.N.Nodup) (hN:X.N[i]? =some x) (hx:Loc X.env.scope x)
  (h: ∀d,Blk X E (Δ.set i md) (st.set i (some d)) rest (k d)) (hs:swapsWith e (some (.Name x p')) pos.line X.env=pure false:=by rfl) (hf:X.fn x=true\/X.env.scope.names.lookup x=some .local:=by first|exact .inl rfl|exact .inr rfl|assumption):
  Blk X E Δ st (.Assign [.Name x p'] e pos::rest) (r.bind k):=
 g7 (pss_cons (ps_set hnd hN hx he hs hf) (gc h)) fun De σ H ⟨O,G,q,rel,er,kk⟩=>by
  obtain⟨d,e1,e2⟩:=bind1 er
  exact rdE.go rel e1 fun v H1 G1 rel1 x1 v1=>⟨d,O,G1,q,rel.lQ x1 hi hm v1,e2,kk⟩
def sqO {α β γ:Type} (k:γ->Option (Out α β)):Out γ β->Option (Out α β)
 | .nx a=>k a
 | .bk b=>some (.bk b)
 | .ct b=>some (.ct b)
 | .ret d os=>some (.ret d os)
 | .exc x=>some (.exc x)
def Exits.join {α β γ:Type} (E:Exits α β) (Dj:List Md) (ej:γ->Ds):Exits γ β:={E with Dn:=Dj,en:=ej,fl:=false}
theorem Meets.seq {O:Org} {De:Ends} {K:Frg} {Dj:List Md} {ej:γ->Ds} {k:γ->Option (Out α β)} {r1:Out γ β} {r:Out α β} {U:CS->Hp->Prop} (e:sqO k r1=some r) (h:Meets K E O De r)
  (hU: ∀a,k a=some r-> ∀σ H G,Rel K O Dj (ej a) σ H G->U σ H):Meets K (E.join Dj ej) O {De with nx:=U} r1:=by
 cases r1 with
 |nx a=>exact fun σ H G rel=>hU a e σ H G rel
 |bk b=>cases e;exact h
 |ct b=>cases e;exact h
 |ret d os=>cases e;exact fun v H G q=>⟨(h v H G q).1,fun f=>(nomatch f)⟩
 |exc x=>cases e;exact h
theorem fm {c:Expr} {A Bs:List Stmt} {rc:Option Bool} {mA mB:Option (Out γ β)} (Dj:List Md) (ej:γ->Ds) {k:γ->Option (Out α β)} (hc:PTx X Δ st c rc) (hA:Blk X (E.join Dj ej) Δ st A mA) (hB:Blk X (E.join Dj ej) Δ st Bs mB)
  (h: ∀a,Blk X E Dj (ej a) rest (k a)):Blk X E Δ st (.If c A Bs pos::rest) (rc.bind fun c=>(if c=true then mA else mB).bind (sqO k)):=
 g7 (pss_cons (ps_if hc hA hB) (gc h)) fun De σ H ⟨O,G,q,rel,er,kk⟩=>by
  obtain⟨b,e1,e2⟩:=bind1 er
  obtain⟨r1,e3,e4⟩:=bind1 e2
  refine rdT.go rel e1 fun H1 G1 rel1 x1=> ?_
  have hm:=Meets.seq (Dj:=Dj) (ej:=ej) (U:=fun σ H=> ∃a,rdS X.K E Dj (ej a) (k a) De σ H) e4 kk fun a ea σ' H' G' rel'=>⟨a,O,G',q,rel',ea,kk⟩
  cases b with
  |true=>exact⟨O,G1,r1,rel1,by simpa using e3,hm⟩
  |false=>exact⟨O,G1,r1,rel1,by simpa using e3,hm⟩
end
inductive Res (β:Type) where
 |fin (b:β)|ret (d:D) (os:List D)|exc (x:Xn)
def forL {β δ:Type} (step:β->δ->Option (Out β β)):List δ->β->Option (Res β)
 | [],b=>some (.fin b)
 |x::xs,b=>(step b x).bind fun
  | .nx b'=>forL step xs b'
  | .ct b'=>forL step xs b'
  | .bk b'=>some (.fin b')
  | .ret d os=>some (.ret d os)
  | .exc x=>some (.exc x)
def sqF {α β γ:Type} (k:γ->Option (Out α β)):Res γ->Option (Out α β)
 | .fin b=>k b
 | .ret d os=>some (.ret d os)
 | .exc x=>some (.exc x)
def Exits.loop {α β γ:Type} (E:Exits α β) (Dl:List Md) (el:γ->Ds):Exits γ γ:={E with Dn:=Dl,en:=el,Dl:=Dl,el:=el,fl:=false}
section
variable {K:Frg} {O:Org} {H H2:Hp} {G G2:Sa} {L L2:List Addr}
def Org.at (O:Org) (H:Hp) (G:Sa) (L:List Addr):Org:=⟨G,H,L,O.B⟩
theorem b8.start (r:b8 O H G L) (hk: ∀p∈L,Ndd H p):b8 (O.at H G L) H G L:=
 ⟨fun p b=>⟨r.dom p (r.bin p b).1,fun m=>(r.lg p m).2.elim (r.bin p b).2 (r.bin p b).1⟩,fun _ _ e _ _=>e,fun _ g=>g,fun _ g=>.inl g,r.gin,fun _ h=>h,r.nd,fun p m=>⟨(r.lg p m).1,.inl m⟩,fun _ ps e=>⟨ps,e⟩,r.tb⟩
theorem b8.comp (r:b8 O H G L) (q:b8 (O.at H G L) H2 G2 L2):b8 O H2 G2 L2 where
 bin:=r.bin
 fr0:=fun p u e n t=>q.frame p u (r.frame p u e n) fun m=>(r.lg p m).2.elim n fun z=>by rw[z] at e;cases e
 gsub:=fun p g=>q.gsub p (r.gsub p g)
 gold:=fun p g=>by
  rcases q.gold p g with g|n|⟨xs,t⟩|m
  ·exact r.gold p g
  ·exact .inr (.inl (r.back n))
  ·rcases r.was (show H p=some (imm xs) from t) (oP _) with e|e|e
   ·exact .inr (.inr (.inl ⟨xs,e⟩))
   ·exact .inr (.inl e)
   ·exact .inr (.inr (.inr e))
  ·rcases (r.lg p m).2 with h|h
   ·exact .inr (.inr (.inr h))
   ·exact .inr (.inl h)
 gin:=q.gin
 dom:=fun p h=>q.dom p (r.dom p h)
 nd:=q.nd
 lg:=fun p m=>⟨(q.lg p m).1,by
  rcases (q.lg p m).2 with h|h
  ·exact (r.lg p h).2
  ·exact .inr (r.back h)⟩
 tl:=fun p ps e=>by
  obtain⟨ps1,e1⟩:=r.tl p ps e
  exact q.tl p ps1 e1
 tb:=q.tb
theorem Rel.start {Δ:List Md} {st:Ds} {σ:CS} (r:Rel K O Δ st σ H G): ∃L,b8 O H G L/\Rel K (O.at H G L) Δ st σ H G:=by
 obtain⟨L,g,s⟩:=r
 exact⟨L,g,L,g.start s.kind,s⟩
theorem Rel.comp {Δ:List Md} {st:Ds} {σ:CS} (g:b8 O H G L) (r:Rel K (O.at H G L) Δ st σ H2 G2):Rel K O Δ st σ H2 G2:=by
 obtain⟨L2,g2,s2⟩:=r
 exact⟨L2,g.comp g2,s2⟩
theorem yZ.comp {rm:VM} {ps:List (V×Sh)} {d:D} {os:List D} {v:V} (g:b8 O H G L) (r:yZ K rm ps (O.at H G L) d os v H2 G2):yZ K rm ps O d os v H2 G2:=by
 obtain⟨L1,L2,g2,a,b⟩:=r
 exact⟨L1,L2,g.comp g2,a,b⟩
theorem XcR.comp {ps:List (V×Sh)} {x:Xn} {c:Value} {od:Option Addr} (g:b8 O H G L) (r:XcR K ps (O.at H G L) x c od H2 G2):XcR K ps O x c od H2 G2:=by
 obtain⟨e,⟨L1,g2⟩,h⟩:=r
 refine⟨e,⟨L1,g.comp g2⟩,h.imp id ?_⟩
 rintro⟨a,fvs,e1,e2,e3,e4⟩
 exact⟨a,fvs,e1,e2,g.back e3,e4⟩
theorem Meets.comp {α β:Type} {E:Exits α β} {De:Ends} {r:Out α β} (g:b8 O H G L) (h:Meets K E O De r):Meets K E (O.at H G L) De r:=by
 cases r with
 |nx a=>exact fun σ H' G' rel=>h σ H' G' (rel.comp g)
 |bk b=>exact fun σ H' G' rel=>h σ H' G' (rel.comp g)
 |ct b=>exact fun σ H' G' rel=>h σ H' G' (rel.comp g)
 |ret d os=>exact fun v H' G' q=>h v H' G' (q.comp g)
 |exc x=>exact fun c od H' G' q=>h c od H' G' (q.comp g)
end
end Sw
namespace Sw
open PySem PySem.Spec PyProof.Rows L2
variable [NmC]
def Wlk {δ:Type} (IR:Hp->δ->V->Prop) (S:Sa) (J:It) (ds:List δ) (H1:Hp):Prop:=
 ∀H2,(∀p u,S p->H1 p=some u->NT u->H2 p=some u)-> ∀i,(∀d,ds[i]? =some d->J.go i H2/\ ∀x H3,J.yld i H2 x H3->(∀p u,H2 p=some u->H3 p=some u)/\IR H3 d x)/\(ds.length<=i->J.stop i H2)
def stR (O:Org) (G:Sa) (rg:Rg):Sa:=fun p=>rgn O G rg p\/O.B p\/G p
theorem wkS {δ:Type} {IR:Hp->δ->V->Prop} {O:Org} {G:Sa} {rg:Rg} {J:It} {ds:List δ} {H:Hp} (h:Wlk IR (rgn O G rg) J ds H):Wlk IR (stR O G rg) J ds H:=fun H2 hst=>h H2 fun p u s=>hst p u (.inl s)
def rdI {δ:Type} (K:Frg) (Δ:List Md) (st:Ds) (rg:Rg) (IR:Sa->Hp->δ->V->Prop) (rI:Option (List δ)):TI:=fun σ H R=>
 ∃O G ds,Rel K O Δ st σ H G/\rI=some ds/\ ∀J H' G',Ext H G H' G'->Wlk (IR (rgn O G' rg)) (stR O G' rg) J ds H'->R J H'
abbrev PIx {δ:Type} (X:Cx) (Δ:List Md) (st:Ds) (tg it:Expr) (rg:Rg) (IR:Sa->Hp->δ->V->Prop) (rI:Option (List δ)):Prop:=PI X tg it (rdI X.K Δ st rg IR rI)
theorem vj {X:Cx} {tg it:Expr} {t t':TI} (h:PI X tg it t) (i: ∀σ H Q,t' σ H Q->t σ H Q):PI X tg it t':=⟨fun pins s σ H Q I q=>h.run pins s σ H Q I (i σ H Q q)⟩
def irV (K:Frg) (S:Sa) (H:Hp) (d:D) (x:V):Prop:=Rep K S H d x
def irP (K:Frg) (S:Sa) (H:Hp) (p:D×D) (x:V):Prop:= ∃a v w,x= .ref a/\SqT K H a [v,w]/\Rep K S H p.1 v/\Rep K S H p.2 w
def sD {δ:Type} (K:Frg) (g:TG) (rg:Rg) (IR:Sa->Hp->δ->V->Prop) (uM:List Md->List Md) (uS:δ->Ds->Ds) (n:Nat) (is:List Nat):Prop:=
 ∀O Δ st σ H G d x Q,Δ.length=n->Rel K O Δ st σ H G->IR (rgn O G rg) H d x->(∀σ',Rel K O (uM Δ) (uS d st) σ' H G->(∀vs,(∀i∈is,i∈vs)->wipe σ' vs=wipe σ vs)->Q σ' H)->g x σ H Q
theorem sW (σ:CS) (i:Nat) (y:Option V): ∀vs:List Nat,i∉vs->wipe (σ.set i y) vs=(wipe σ vs).set i y
 | [],_=>rfl
 |v::vs,h=>by
  simp only[List.mem_cons,not_or] at h
  unfold wipe
  rw[sW σ i y vs h.2,List.set_comm _ _ h.1]
theorem iz {i:Nat} {y:Option V}: ∀{σ:CS} {vs:List Nat},i∈vs->wipe (σ.set i y) vs=wipe σ vs
 |σ,[],h=>by cases h
 |σ,v::vs,h=>by
  unfold wipe
  by_cases hi:i∈vs
  ·rw[iz hi]
  ·have e:i=v:=by
    rcases List.mem_cons.mp h with e|e
    ·exact e
    ·exact absurd e hi
   subst e
   rw[sW σ i y vs hi,List.set_set]
def jR {δ:Type} (IR:Sa->Hp->δ->V->Prop):Prop:= ∀S S' H H' d x,(∀p,S p->S' p)->(∀p u,H p=some u->H' p=some u)->IR S H d x->IR S' H' d x
theorem bQ {K:Frg}:jR (irV K):=fun S S' H H' d x hS hH h=>Rep.mono hS (mZ hH) d x h
theorem vk {K:Frg} {H H':Hp} (hH: ∀p u,H p=some u->H' p=some u) {a:Addr} {xs:List V} (h:SqT K H a xs):SqT K H' a xs:=h.imp (fun r=>r.imp (hH a _) fun⟨o,r⟩=>⟨o,hH a _ r⟩) id
theorem z9 {K:Frg}:jR (irP K):=fun S S' H H' d x hS hH ⟨a,v,w,e,t,h1,h2⟩=>⟨a,v,w,e,vk hH t,Rep.mono hS (mZ hH) _ v h1,Rep.mono hS (mZ hH) _ w h2⟩
def mdR:Rg->Md
 | .bb=>.bo
 |_=>.fz
theorem cS (K:Frg) (i:Nat) {n:Nat} {rg:Rg} (hr:rg≠ .hb) (hi:i<n):sD K (gName i) rg (irV K) (fun Δ=>Δ.set i (mdR rg)) (fun d st=>st.set i (some d)) n [i]:=fun O Δ st σ H G d x Q hn rel h q=>by
 refine q _ ?_ fun vs hv=>iz (hv i (by simp))
 cases rg with
 |hb=>exact absurd rfl hr
 |bb=>exact rel.lQ (m:=.rg .bb) .refl (by omega) rfl h
 |fz=>exact rel.lQ (m:=.rg .fz) .refl (by omega) rfl h
theorem Ce (K:Frg) (i j:Nat) {n:Nat} {rg:Rg} (hr:rg≠ .hb) (hi:i<n) (hj:j<n):sD K (gTup K 2 (gCons (gName i) (gCons (gName j) gNil))) rg (irP K) (fun Δ=>(Δ.set i (mdR rg)).set j (mdR rg)) (fun d st=>(st.set i (some d.1)).set j (some d.2)) n [i,j]:=
 fun O Δ st σ H G d x Q hn rel ⟨a,v,w,e,t,h1,h2⟩ q=>by
  refine⟨a,[v,w],e,t,rfl,v,[w],rfl,w,[],rfl,rfl,q _ ?_ fun vs hv=>(iz (hv j (by simp))).trans (iz (hv i (by simp)))⟩
  cases rg with
  |hb=>exact absurd rfl hr
  |bb=>exact (rel.lQ (m:=.rg .bb) .refl (by omega) rfl h1).lQ (m:=.rg .bb) .refl (by simp;omega) rfl h2
  |fz=>exact (rel.lQ (m:=.rg .fz) .refl (by omega) rfl h1).lQ (m:=.rg .fz) .refl (by simp;omega) rfl h2
section
variable {α β γ δ:Type} {X:Cx} {E:Exits α β} {Δ:List Md} {st:Ds} {rest body:List Stmt} {pos:Pos} {tg it:Expr}
theorem vm {α:Type} {l:List α} {i:Nat} {x:α} (h:l[i]? =some x):l.drop i=x::l.drop (i+1):=by
 obtain⟨hi,e⟩:=List.getElem?_eq_some_iff.mp h
 rw[<-e];exact List.drop_eq_getElem_cons hi
theorem Aa {K:Frg} {O:Org} {H1:Hp} {G1:Sa} {L:List Addr} {J:It} {ds:List δ} {IR:Sa->Hp->δ->V->Prop} {rg:Rg} {uM:List Md->List Md} {uS:δ->Ds->Ds} {g:TG} {Dl:List Md} {el:γ->Ds} {step:γ->δ->Option (Out γ γ)} {k:γ->Option (Out α β)} {r:Out α β}
  {U:CS->Hp->Prop} {De:Ends} {σ:CS} {b0:γ} {tb:TS}
  (g0:b8 O H1 G1 L) (rel:Rel K (O.at H1 G1 L) Dl (el b0) σ H1 G1) (hw:Wlk (IR (rgn O G1 rg)) (stR O G1 rg) J ds H1) (him:jR IR) (hr:rg≠ .hb) {is:List Nat} (ht:sD K g rg IR uM uS Dl.length is)
  (htb: ∀b d De σ H,rdS K (E.loop Dl el) (uM Dl) (uS d (el b)) (step b d) De σ H->tb De σ H)
  {rs:Res γ} (ef:forL step ds b0=some rs) (es:sqF k rs=some r) (hm:Meets K E O De r)
  (hU: ∀b,k b=some r-> ∀σ H G,Rel K (O.at H1 G1 L) Dl (el b) σ H G->U σ H):
  ∃W:Nat->Nat->CS->Hp->Prop,(∃m,W 0 m σ H1)/\ ∀i m σ H,W i m σ H→
   (J.stop i H/\U σ H)\/(J.go i H/\ ∃N:CS->Hp->Prop,(∀σ' H',N σ' H'-> ∃m',m'<m/\W (i+1) m' σ' H')/\ ∀x H',J.yld i H x H'->g x σ H' fun σ2 H2=>tb {De with nx:=N,ct:=N,bk:=U} σ2 H2):=by
 have hm':=hm.comp g0
 have hS: ∀p,stR O G1 rg p->p∉L:=fun p s m=>by
  rcases s with s|s|s
  ·cases rg with
   |hb=>exact hr rfl
   |bb=>exact (g0.lg p m).2.elim (g0.bin p s).2 (g0.bin p s).1
   |fz=>exact (g0.lg p m).1 s
  ·exact (g0.lg p m).2.elim (g0.bin p s).2 (g0.bin p s).1
  ·exact (g0.lg p m).1 s
 refine⟨fun i m σ H=> ∃b G,m=ds.length -i/\i<=ds.length/\Rel K (O.at H1 G1 L) Dl (el b) σ H G/\forL step (ds.drop i) b=some rs,⟨ds.length,b0,G1,by omega,by omega,rel,by simpa using ef⟩,fun i m σ H hW=> ?_⟩
 obtain⟨b,G,em,hi,rl,hf⟩:=hW
 have hst: ∀p u,stR O G1 rg p->H1 p=some u->NT u->H p=some u:=fun p u s e nt=>by
  obtain⟨L2,g2,_⟩:=rl
  exact g2.frame p u e (hS p s)
 obtain⟨w1,w2⟩:=hw H hst i
 by_cases hlt:i<ds.length
 ·refine .inr ?_
  have hd:ds[i]? =some ds[i]:=List.getElem?_eq_getElem hlt
  obtain⟨go,yl⟩:=w1 _ hd
  rw[vm hd] at hf
  unfold forL at hf
  obtain⟨o,eo,ho⟩:=bind1 hf
  refine⟨go,fun σ' H'=> ∃b' G',Rel K (O.at H1 G1 L) Dl (el b') σ' H' G'/\forL step (ds.drop (i+1)) b'=some rs,fun σ' H' ⟨b',G',rl',hf'⟩=>⟨m -1,by omega,b',G',by omega,by omega,rl',hf'⟩,fun x H3 hy=> ?_⟩
  obtain⟨hh,ir⟩:=yl x H3 hy
  have x3:Ext H G H3 G:=.of hh (fun _ g=>g) fun _ g=>.inl g
  have rl3:=rl.ext x3
  have hsub: ∀p,rgn O G1 rg p->rgn (O.at H1 G1 L) G rg p:=fun p s=>by
   cases rg with
   |hb=>exact trivial
   |bb=>exact s
   |fz=>
    obtain⟨L2,g2,_⟩:=rl
    exact g2.gsub p s
  refine ht _ _ _ _ _ _ _ x _ rfl rl3 (him _ _ H3 H3 _ x hsub (fun _ _ e=>e) ir) fun σ' rl' _=> ?_
  refine htb b ds[i] _ _ _ ⟨O.at H1 G1 L,G,o,rl',eo,?_⟩
  cases o with
  |nx b'=>exact fun σ2 H2 G2 r2=>⟨b',G2,r2,ho⟩
  |ct b'=>exact fun σ2 H2 G2 r2=>⟨b',G2,r2,ho⟩
  |bk b'=>
   simp only[Option.some.injEq] at ho
   subst ho
   exact fun σ2 H2 G2 r2=>hU b' es σ2 H2 G2 r2
  |ret d os=>
   simp only[Option.some.injEq] at ho
   subst ho
   cases es
   exact fun v H' G' q=>⟨(hm' v H' G' q).1,fun f=>(nomatch f)⟩
  |exc x=>
   simp only[Option.some.injEq] at ho
   subst ho
   cases es
   exact fun c od H' G' q=>hm' c od H' G' q
 ·refine .inl ⟨w2 (by omega),?_⟩
  rw[List.drop_of_length_le (by omega)] at hf
  unfold forL at hf
  simp only[Option.some.injEq] at hf
  subst hf
  exact hU b es σ H G rl
theorem EH {rg:Rg} {IR:Sa->Hp->δ->V->Prop} {rI:Option (List δ)} {g:TG} {uM:List Md->List Md} {uS:δ->Ds->Ds} (Dl:List Md) (el:γ->Ds) {b0:γ} {step:γ->δ->Option (Out γ γ)} {k:γ->Option (Out α β)}
  (hi:PIx X Δ st tg it rg IR rI) (him:jR IR) (hr:rg≠ .hb) (hg:PG X tg g) {is:List Nat} (ht:sD X.K g rg IR uM uS Dl.length is) (w:Wk Δ st Dl (el b0)) (hb: ∀b d,Blk X (E.loop Dl el) (uM Dl) (uS d (el b)) body (step b d)) (h: ∀b,Blk X E Dl (el b) rest (k b))
  (hc:X.calm=true) (hp:PassesOwn (model X.prog X.w) X.A X.env X.xe) (hs: ∀x,foldedSetIterable it X.env x=pure x:=by intro _;rfl):
  Blk X E Δ st (.For tg it body [] pos::rest) (rI.bind fun ds=>(forL step ds b0).bind (sqF k)):=
 g7 (pss_cons (ps_for hp hc hi hg (gc fun b=>gc fun d=>hb b d) hs) (gc h)) fun De σ H ⟨O,G,q,rel,er,kk⟩=>by
  obtain⟨ds,e1,e2⟩:=bind1 er
  obtain⟨rs,e3,e4⟩:=bind1 e2
  refine⟨O,G,ds,rel,e1,fun J H1 G1 x1 hw=> ?_⟩
  obtain⟨L,g0,rl⟩:=((rel.ext x1).weak w).start
  exact Aa (De:=De) (U:=fun σ H=> ∃a,rdS X.K E Dl (el a) (k a) De σ H) (tb:=fun De σ H=> ∃b d,rdS X.K (E.loop Dl el) (uM Dl) (uS d (el b)) (step b d) De σ H) g0 rl hw him hr ht (fun b d De σ H q=>⟨b,d,q⟩) e3 e4 kk fun b eb σ' H' G' rl'=>⟨b,O,G',q,rl'.comp g0,eb,kk⟩
def whN {γ:Type} (tst:γ->Option Bool) (step:γ->Option (Out γ γ)):Nat->γ->Option (Res γ)
 |0,_=>none
 |n+1,b=>(tst b).bind fun c=>if c=true then (step b).bind fun
  | .nx b'=>whN tst step n b'
  | .ct b'=>whN tst step n b'
  | .bk b'=>some (.fin b')
  | .ret d os=>some (.ret d os)
  | .exc x=>some (.exc x) else some (.fin b)
theorem q6 {γ:Type} {tst:γ->Option Bool} {step:γ->Option (Out γ γ)}: ∀{n:Nat} {b:γ} {r:Res γ},whN tst step n b=some r->whN tst step (n+1) b=some r
 |n+1,b,r,h=>by
  unfold whN at h
  unfold whN
  obtain⟨c,e1,e2⟩:=bind1 h
  rw[e1]
  show (if c=true then _ else _)=_
  cases c with
  |false=>exact e2
  |true=>
   rw[if_pos rfl] at e2⊢
   obtain⟨o,e3,e4⟩:=bind1 e2
   rw[e3]
   cases o with
   |nx b'=>exact q6 e4
   |ct b'=>exact q6 e4
   |bk b'=>exact e4
   |ret d os=>exact e4
   |exc x=>exact e4
theorem Ab {γ:Type} {tst:γ->Option Bool} {step:γ->Option (Out γ γ)} {n m:Nat} {b:γ} {r:Res γ} (h:whN tst step n b=some r) (hl:n<=m):whN tst step m b=some r:=by
 obtain⟨k,rfl⟩:=Nat.exists_eq_add_of_le hl
 induction k with
 |zero=>exact h
 |succ k ih=>exact q6 (ih (by omega))
open Classical in
noncomputable def whL {γ:Type} (tst:γ->Option Bool) (step:γ->Option (Out γ γ)) (b:γ):Option (Res γ):=
 if h: ∃n r,whN tst step n b=some r then some h.choose_spec.choose else none
theorem EI {γ:Type} {tst:γ->Option Bool} {step:γ->Option (Out γ γ)} {n:Nat} {b:γ} {r:Res γ} (h:whN tst step n b=some r):whL tst step b=some r:=by
 unfold whL
 have hx: ∃n r,whN tst step n b=some r:=⟨n,r,h⟩
 rw[dif_pos hx]
 have h2:=hx.choose_spec.choose_spec
 have a:=Ab h (Nat.le_max_left n hx.choose)
 have b':=Ab h2 (Nat.le_max_right n hx.choose)
 rw[a] at b'
 exact b'.symm
theorem EJ {γ:Type} {tst:γ->Option Bool} {step:γ->Option (Out γ γ)} {b:γ} {r:Res γ} (h:whL tst step b=some r): ∃n,whN tst step n b=some r:=by
 unfold whL at h
 split at h
 ·rename_i hx
  cases h
  exact⟨hx.choose,hx.choose_spec.choose_spec⟩
 ·cases h
theorem Ac {c:Expr} (Dl:List Md) (el:γ->Ds) {b0:γ} {tst:γ->Option Bool} {step:γ->Option (Out γ γ)} {k:γ->Option (Out α β)} (hc: ∀b,PTx X Dl (el b) c (tst b)) (w:Wk Δ st Dl (el b0)) (hb: ∀b,Blk X (E.loop Dl el) Dl (el b) body (step b))
  (h: ∀b,Blk X E Dl (el b) rest (k b)) (hp:PassesOwn (model X.prog X.w) X.A X.env X.xe):Blk X E Δ st (.While c body [] pos::rest) ((whL tst step b0).bind (sqF k)):=
 g7 (pss_cons (ps_while hp (GO hc) (gc hb)) (gc h)) fun De σ H ⟨O,G,q,rel,er,kk⟩=>by
  obtain⟨rs,e3,e4⟩:=bind1 er
  obtain⟨n,e5⟩:=EJ e3
  refine⟨fun m σ H=> ∃b G,Rel X.K O Dl (el b) σ H G/\whN tst step m b=some rs,⟨n,b0,G,rel.weak w,e5⟩,fun m σ1 H1 ⟨b,G1,r1,hf⟩=> ?_⟩
  cases m with
  |zero=>cases hf
  |succ m=>
   unfold whN at hf
   obtain⟨cb,ec,hf⟩:=bind1 hf
   refine⟨b,rdT.go r1 ec fun H2 G2 r2 x2=> ?_⟩
   cases cb with
   |false=>
    rw[if_neg Bool.false_ne_true] at hf⊢
    simp only[Option.some.injEq] at hf
    subst hf
    exact⟨b,O,G2,q,r2,e4,kk⟩
   |true=>
    rw[if_pos rfl] at hf⊢
    obtain⟨o,eo,ho⟩:=bind1 hf
    refine⟨fun σ' H'=> ∃b' G',Rel X.K O Dl (el b') σ' H' G'/\whN tst step m b'=some rs,fun σ' H' ⟨b',G',r',h'⟩=>⟨m,Nat.lt_succ_self m,b',G',r',h'⟩,b,O,G2,o,r2,eo,?_⟩
    cases o with
    |nx b'=>exact fun σ2 H2 G2 r2=>⟨b',G2,r2,ho⟩
    |ct b'=>exact fun σ2 H2 G2 r2=>⟨b',G2,r2,ho⟩
    |bk b'=>
     simp only[Option.some.injEq] at ho
     subst ho
     exact fun σ2 H2 G2 r2=>⟨b',O,G2,q,r2,e4,kk⟩
    |ret d os=>
     simp only[Option.some.injEq] at ho
     subst ho
     cases e4
     exact fun v H' G' q=>⟨(kk v H' G' q).1,fun f=>(nomatch f)⟩
    |exc x=>
     simp only[Option.some.injEq] at ho
     subst ho
     cases e4
     exact kk
end
end Sw
namespace Sw
open PySem PySem.Spec PyProof.Rows L2
variable [NmC]
mutual
def D.pd:D->PyData
 | .non=>.none| .bl b=>.bool b| .int i=>.int i| .str x=>.str x
 | .lst ds=>.list (D.pds ds)
 | .tup ds=>.tuple (D.pds ds)
 | .dct _=>.dict []| .dcT _=>.dict []| .ins _ _=>.dict []| .fn _=>.dict []| .sc _=>.dict []
 | .glf _=>.dict []| .clo _ _=>.dict []
def D.pds:List D->List PyData
 | []=>[]
 |d::ds=>D.pd d::D.pds ds
end
mutual
def D.dat:D->Bool
 | .non=>true| .bl _=>true| .int _=>true| .str _=>true
 | .lst ds=>D.vn ds| .tup ds=>D.vn ds
 |_=>false
def D.vn:List D->Bool
 | []=>true
 |d::ds=>D.dat d&&D.vn ds
end
theorem D.Cf (ds:List D):D.pds ds=ds.map D.pd:=by
 induction ds with
 |nil=>rfl
 |cons d ds ih=>rw[List.map_cons,←ih];rfl
theorem D.vo (ds:List D):D.vn ds=ds.all D.dat:=by
 induction ds with
 |nil=>rfl
 |cons d ds ih=>rw[List.all_cons,←ih];rfl
section
variable {K:Frg} {S:Sa} {H:Hp}
mutual
theorem Rep.dp: ∀(d:D) (v:V),d.dat=true->Rep K S H d v->Dp K H v d.pd
 | .non,v,_,h=>by unfold Rep at h;subst h;exact .non
 | .bl b,v,_,h=>by unfold Rep at h;subst h;exact .bl b
 | .int b,v,_,h=>by unfold Rep at h;subst h;exact .int b
 | .str b,v,_,h=>by unfold Rep at h;subst h;exact .str b
 | .lst ds,v,hd,h=>by
  unfold Rep at h
  obtain⟨a,vs,rfl,_,l,r⟩:=h
  exact .lst (SqL.of l) (aB.dp ds vs (by unfold D.dat at hd;exact hd) r)
 | .tup ds,v,hd,h=>by
  unfold Rep at h
  obtain⟨a,vs,rfl,l,r⟩:=h
  exact .tup l.sq (aB.dp ds vs (by unfold D.dat at hd;exact hd) r)
 | .dct _,v,hd,h=>by cases hd
 | .dcT _,v,hd,h=>by cases hd
 | .ins _ _,v,hd,h=>by cases hd
 | .fn _,v,hd,h=>by cases hd
 | .glf _,v,hd,h=>by cases hd
 | .clo _ _,v,hd,h=>by cases hd
 | .sc _,v,hd,h=>by cases hd
theorem aB.dp: ∀(ds:List D) (vs:List V),D.vn ds=true->aB K S H ds vs->DpAll K H vs (D.pds ds)
 | [],vs,_,h=>by unfold aB at h;subst h;exact .nil
 |d::ds,vs,hd,h=>by
  unfold aB at h
  obtain⟨v,r,rfl,h1,h2⟩:=h
  unfold D.vn at hd
  rw[Bool.and_eq_true] at hd
  exact .cons (Rep.dp d v hd.1 h1) (aB.dp ds r hd.2 h2)
end
def D.toV:D->Option V
 | .non=>some .non| .bl b=>some (.bl b)| .int i=>some (.int i)| .str x=>some (.str x)
 |_=>none
theorem Rep.toV {d:D} {v w:V} (e:d.toV=some w) (h:Rep K S H d v):v=w:=by
 cases d with
 |non=>cases e;unfold Rep at h;exact h
 |bl b=>cases e;unfold Rep at h;exact h
 |int b=>cases e;unfold Rep at h;exact h
 |str b=>cases e;unfold Rep at h;exact h
 |_=>cases e
theorem vp {d:D} {w:V} (e:d.toV=some w):flatV w=true:=by
 cases d <;> first|(cases e;rfl)|cases e
def D.oQ:List D->Option (List V)
 | []=>some []
 |d::ds=>(d.toV).bind fun v=>(D.oQ ds).bind fun vs=>some (v::vs)
theorem aB.oQ: ∀{ds:List D} {vs ws:List V},D.oQ ds=some ws->aB K S H ds vs->vs=ws
 | [],vs,ws,e,h=>by unfold aB at h;cases e;exact h
 |d::ds,vs,ws,e,h=>by
  unfold aB at h
  obtain⟨v,r,rfl,h1,h2⟩:=h
  unfold D.oQ at e
  obtain⟨x,y,e1,e2,e3⟩:=cq e
  cases e3
  rw[Rep.toV e1 h1,aB.oQ e2 h2]
theorem sX: ∀{ds:List D} {ws:List V},D.oQ ds=some ws->ws.all flatV=true
 | [],ws,e=>by cases e;rfl
 |d::ds,ws,e=>by
  unfold D.oQ at e
  obtain⟨x,y,e1,e2,e3⟩:=cq e
  cases e3
  rw[List.all_cons,vp e1,sX e2];rfl
end
section
variable {X:Cx} {ma mb:Rg} {rg:Rg}
theorem bA.int {K:Frg} {O:Org} {H H1:Hp} {G1:Sa} {r:Rg} {b:Int} {v:V} (h:bA K O H H1 G1 (.rg r) (.int b) v):v= .int b:=by unfold bA Rep at h;exact h
theorem bA.str {K:Frg} {O:Org} {H H1:Hp} {G1:Sa} {r:Rg} {b:Str} {v:V} (h:bA K O H H1 G1 (.rg r) (.str b) v):v= .str b:=by unfold bA Rep at h;exact h
theorem g8 {K:Frg} {O:Org} {H H1:Hp} {G1:Sa} {r:Rg} {b:Int}:bA K O H H1 G1 (.rg r) (.int b) (.int b):=by unfold bA Rep;rfl
theorem m5 {K:Frg} {O:Org} {H H1:Hp} {G1:Sa} {r:Rg} {b:Str}:bA K O H H1 G1 (.rg r) (.str b) (.str b):=by unfold bA Rep;rfl
theorem lr {K:Frg} {O:Org} {H H1:Hp} {G1:Sa} {r:Rg} {b:Bool}:bA K O H H1 G1 (.rg r) (.bl b) (.bl b):=by unfold bA Rep;rfl
def ii (f:Int->Int->Option Int):D->D->Option D
 | .int a,.int b=>(f a b).map .int
 |_,_=>none
theorem nT {f:Int->Int->Option Int} {x y d:D} (h:ii f x y=some d): ∃a b c,x= .int a/\y= .int b/\f a b=some c/\d= .int c:=by
 cases x <;> cases y <;> first|cases h|skip
 rename_i a b
 have h:(f a b).map D.int=some d:=h
 cases e:f a b with
 |none=>rw[e] at h;cases h
 |some c=>rw[e] at h;cases h;exact⟨a,b,c,rfl,rfl,e,rfl⟩
def D.cQ:D->D->Option D:=ii fun a b=>some (a+b)
def D.lN:D->D->Option D:=ii fun a b=>some (a -b)
noncomputable def cif {α:Type} (p:Prop) (a:α):Option α:=@ite _ p (Classical.propDecidable p) (some a) none
theorem nU {α:Type} {p:Prop} {a c:α} (h:cif p a=some c):p/\a=c:=by
 unfold cif at h
 split at h
 ·rename_i q;cases h;exact⟨q,rfl⟩
 ·cases h
theorem jc {α:Type} {p:Prop} {a:α} (h:p):cif p a=some a:=by
 unfold cif;exact if_pos h
noncomputable def q7 (a b:Int):Bool:=@decide ((-(2^64)<a/\a<2^64)\/(-(2^64)<b/\b<2^64)) (Classical.propDecidable _)
noncomputable def D.jD:D->D->Option D:=ii fun a b=>if q7 a b=true then some (a*b) else none
noncomputable def D.iY:D->D->Option D:=ii fun a b=>cif (0<b/\b<1073741824) (a/b)
noncomputable def D.cj:D->D->Option D:=ii fun a b=>cif (0<b) (a%b)
theorem g9:Op2 X (rI0 fun i j=>.int (i+j)) (.rg ma) (.rg mb) (.rg rg) D.cQ:=fun O H0 H G x y v w d Q e hx hy _ k=>by
 obtain⟨a,b,c,rfl,rfl,e2,rfl⟩:=nT e;cases e2
 exact⟨a,b,hx.int,hy.int,k _ H G .refl g8⟩
theorem oU:Op2 X (rI0 fun i j=>.int (i -j)) (.rg ma) (.rg mb) (.rg rg) D.lN:=fun O H0 H G x y v w d Q e hx hy _ k=>by
 obtain⟨a,b,c,rfl,rfl,e2,rfl⟩:=nT e;cases e2
 exact⟨a,b,hx.int,hy.int,k _ H G .refl g8⟩
theorem aH {α:Type} {p:Prop} [Decidable p] {a c:α} (h:(if p then some a else none)=some c):p/\a=c:=by
 split at h
 ·rename_i q;cases h;exact⟨q,rfl⟩
 ·cases h
theorem q8:Op2 X (rI CMul fun i j=>.int (i*j)) (.rg ma) (.rg mb) (.rg rg) D.jD:=fun O H0 H G x y v w d Q e hx hy _ k=>by
 obtain⟨a,b,c,rfl,rfl,e2,rfl⟩:=nT e
 obtain⟨q,rfl⟩:=aH e2
 refine⟨a,b,hx.int,hy.int,?_,k _ H G .refl g8⟩
 unfold q7 at q
 exact @of_decide_eq_true _ (Classical.propDecidable _) q
theorem kB:Op2 X (rI CDiv fun i j=>.int (i/j)) (.rg ma) (.rg mb) (.rg rg) D.iY:=fun O H0 H G x y v w d Q e hx hy _ k=>by
 obtain⟨a,b,c,rfl,rfl,e2,rfl⟩:=nT e
 obtain⟨q,rfl⟩:=nU e2
 exact⟨a,b,hx.int,hy.int,q,k _ H G .refl g8⟩
theorem cW:Op2 X (rI (fun _ j=>0<j) fun i j=>.int (i%j)) (.rg ma) (.rg mb) (.rg rg) D.cj:=fun O H0 H G x y v w d Q e hx hy _ k=>by
 obtain⟨a,b,c,rfl,rfl,e2,rfl⟩:=nT e
 obtain⟨q,rfl⟩:=nU e2
 exact⟨a,b,hx.int,hy.int,q,k _ H G .refl g8⟩
def D.EK:D->Option D
 | .int a=>some (.int (-a))
 |_=>none
def ss {α:Type} (f:Str->Str->Option α):D->D->Option α
 | .str a,.str b=>f a b
 |_,_=>none
theorem Cg {α:Type} {f:Str->Str->Option α} {x y:D} {d:α} (h:ss f x y=some d): ∃a b,x= .str a/\y= .str b/\f a b=some d:=by
 cases x <;> cases y <;> first|cases h|skip
 exact⟨_,_,rfl,rfl,h⟩
def D.mF:D->D->Option D:=ss fun a b=>if a.length+b.length<=sizeLine then some (.str (a++b)) else none
theorem q9:Op2 X (fun x y H Q=> ∃i j,x= .str i/\y= .str j/\i.length+j.length<=sizeLine/\Q (.str (i++j)) H) (.rg ma) (.rg mb) (.rg rg) D.mF:=fun O H0 H G x y v w d Q e hx hy _ k=>by
 obtain⟨a,b,rfl,rfl,e2⟩:=Cg e
 obtain⟨q,rfl⟩:=aH e2
 exact⟨a,b,hx.str,hy.str,q,k _ H G .refl m5⟩
def ib (f:Int->Int->Bool):D->D->Option Bool
 | .int a,.int b=>some (f a b)
 |_,_=>none
theorem Ci {f:Int->Int->Bool} {x y:D} {d:Bool} (h:ib f x y=some d): ∃a b,x= .int a/\y= .int b/\f a b=d:=by
 cases x <;> cases y <;> first|cases h|skip
 exact⟨_,_,rfl,rfl,rfl⟩
theorem jv {f:D->D->Option Bool} {x y d:D} (h:blD f x y=some d): ∃b,f x y=some b/\d= .bl b:=by
 unfold blD at h
 cases e:f x y with
 |none=>rw[e] at h;cases h
 |some b=>rw[e] at h;cases h;exact⟨b,rfl,rfl⟩
theorem kE {g:Int->Int->Bool}:Op2 X (rI0 fun i j=>.bl (g i j)) (.rg ma) (.rg mb) (.rg rg) (blD (ib g)):=fun O H0 H G x y v w d Q e hx hy _ k=>by
 obtain⟨b,e1,rfl⟩:=jv e
 obtain⟨i,j,rfl,rfl,e2⟩:=Ci e1
 subst e2
 exact⟨i,j,hx.int,hy.int,k _ H G .refl lr⟩
abbrev D.ltI:D->D->Option Bool:=ib fun i j=>decide (i<j)
abbrev D.leI:D->D->Option Bool:=ib fun i j=>decide (i<=j)
abbrev D.gtI:D->D->Option Bool:=ib fun i j=>decide (j<i)
abbrev D.geI:D->D->Option Bool:=ib fun i j=>decide (j<=i)
def sLe (a b:Str):Bool:=decide (a.cps.toList<=b.cps.toList)
abbrev D.ltS:D->D->Option Bool:=ss fun a b=>some (decide (a.cps.toList<b.cps.toList))
def D.eqA (x y:D):Option Bool:=(x.toV).bind fun a=>(y.toV).bind fun b=>if scal a b=true then some (decide (a=b)) else none
def D.neA (x y:D):Option Bool:=(x.toV).bind fun a=>(y.toV).bind fun b=>if scal a b=true then some (!decide (a=b)) else none
theorem gd:Op2 X rEq (.rg ma) (.rg mb) (.rg rg) (blD D.eqA):=fun O H0 H G x y v w d Q e hx hy _ k=>by
 obtain⟨b,e1,rfl⟩:=jv e
 obtain⟨a,c,e2,e3,e4⟩:=cq e1
 obtain⟨q,rfl⟩:=aH e4
 rw[Rep.toV e2 hx,Rep.toV e3 hy]
 exact⟨q,k _ H G .refl lr⟩
theorem D8:Op2 X rNe (.rg ma) (.rg mb) (.rg rg) (blD D.neA):=fun O H0 H G x y v w d Q e hx hy _ k=>by
 obtain⟨b,e1,rfl⟩:=jv e
 obtain⟨a,c,e2,e3,e4⟩:=cq e1
 obtain⟨q,rfl⟩:=aH e4
 rw[Rep.toV e2 hx,Rep.toV e3 hy]
 exact⟨q,k _ H G .refl lr⟩
def D.ok2 (x y:D):Bool:=x.dat&&y.dat&&SeqAt.shaped x.pd&&SeqAt.shaped y.pd
def D.eqD (x y:D):Option Bool:=if D.ok2 x y=true then some (PyData.eqv x.pd y.pd) else none
theorem EL {x y:D} (h:D.ok2 x y=true):x.dat=true/\y.dat=true/\SeqAt.shaped x.pd=true/\SeqAt.shaped y.pd=true:=by
 unfold D.ok2 at h
 simp only[Bool.and_eq_true] at h
 exact⟨h.1.1.1,h.1.1.2,h.1.2,h.2⟩
theorem GQ {m1 m2:VM}:Op2 X (rEqD X.K) m1 m2 (.rg rg) (blD D.eqD):=fun O H0 H G x y v w d Q e hx hy _ k=>by
 obtain⟨b,e1,rfl⟩:=jv e
 obtain⟨q,rfl⟩:=aH e1
 obtain⟨h1,h2,h3,h4⟩:=EL q
 exact⟨_,_,Rep.dp x v h1 hx.hb,Rep.dp y w h2 hy.hb,h3,h4,k _ H G .refl lr⟩
def D.items:D->Option (List D)
 | .lst ds=>some ds
 | .tup ds=>some ds
 |_=>none
theorem Rep.items {K:Frg} {S:Sa} {H:Hp} {d:D} {ds:List D} {v:V} (e:d.items=some ds) (h:Rep K S H d v): ∃a vs,v= .ref a/\(SqL K H a vs\/SqT K H a vs)/\aB K S H ds vs:=by
 cases d <;> first|cases e|skip
 ·unfold Rep at h
  obtain⟨a,vs,e1,_,l,r⟩:=h
  exact⟨a,vs,e1,.inl (SqL.of l),r⟩
 ·unfold Rep at h
  obtain⟨a,vs,e1,l,r⟩:=h
  exact⟨a,vs,e1,.inr l.sq,r⟩
def D.inA (neg:Bool) (x y:D):Option Bool:=(x.toV).bind fun a=>(y.items).bind fun ds=>(D.oQ ds).map fun vs=>if neg=true then !inV a vs else inV a vs
theorem GR {neg:Bool} {m2:VM}:Op2 X (rIn X.K neg) (.rg ma) m2 (.rg rg) (blD (D.inA neg)):=fun O H0 H G x y v w d Q e hx hy _ k=>by
 obtain⟨b,e1,rfl⟩:=jv e
 obtain⟨a,ds,e2,e3,e4⟩:=cq e1
 cases q:D.oQ ds with
 |none=>rw[q] at e4;cases e4
 |some vs=>
  rw[q] at e4;cases e4
  obtain⟨p,ws,rfl,l,r⟩:=Rep.items e3 hy.hb
  have:=aB.oQ q r
  subst this
  have hv:=Rep.toV e2 hx
  subst hv
  exact⟨p,ws,rfl,l,vp e2,sX q,k _ H G .refl lr⟩
def D.isN:D->Option Bool
 | .non=>some true
 | .bl _=>some false| .int _=>some false| .str _=>some false
 | .lst _=>some false| .tup _=>some false| .dct _=>some false| .dcT _=>some false| .ins _ _=>some false| .fn _=>some false| .sc _=>some false| .glf _=>some false| .clo _ _=>some false
end
end Sw
namespace Sw
open PySem PySem.Spec PyProof.Rows L2
variable [NmC]
section
variable {K:Frg} {O:Org} {H H1 H2:Hp} {G G1 G2:Sa}
theorem Ext.new {p:Addr} {o:HO} (h:H p=none):Ext H G (upd H p o) G:=
 .of (fun q u e=>by rw[upd_ne (ne_of_none e h)];exact e) (fun _ g=>g) (fun _ g=>.inl g)
theorem Ext.GS {p:Addr} {o:HO} (h:H p=none):Ext H G (upd H p o) (fun q=>G q\/q=p):=
 .of (fun q u e=>by rw[upd_ne (ne_of_none e h)];exact e) (fun _ g=>.inl g) (fun q g=>g.elim .inl fun e=>by subst e;exact .inr (.inl ⟨h,by rw[upd_same];simp⟩))
theorem x9 {S:Sa} {p:Addr} {o:HO} (h:H p=none):Agr S H (upd H p o):=mZ fun q u e=>by rw[upd_ne (ne_of_none e h)];exact e
theorem tU: ∀{ds:List D} {vs:List V},aB K G H ds vs->fx (Own K G H .fz) ds vs []
 | [],_,h=>by unfold aB at h;exact⟨h,rfl⟩
 |d::ds,_,h=>by
  unfold aB at h
  obtain⟨v,r,e,h1,h2⟩:=h
  exact⟨v,r,[],[],e,by unfold Own;exact⟨h1,rfl⟩,tU h2,rfl⟩
theorem oV {ds:List D} {vs:List V} {p:Addr} (hp:H p=none) (gin: ∀p,G p->H p≠none) (r:aB K G H ds vs):bA K O H (upd H p (.lst vs)) G (.nw (.ls .fz)) (.lst ds) (.ref p):=by
 refine⟨[p],(by simp:[p].Nodup),fun q m=> ?_,?_⟩
 ·rw[List.mem_singleton] at m
  subst m
  exact⟨hp,fun g=>gin _ g hp⟩
 ·unfold Own
  exact⟨p,vs,ds,[],rfl,rfl,upd_same,tU (aB.mono (fun _ g=>g) (x9 hp) ds vs r),rfl⟩
def allM (m:VM):List VM->Prop
 | []=>True
 |n::ns=>n=m/\allM m ns
theorem jH.EM {r:Rg}: ∀{ms:List VM} {ds:List D} {vs:List V},allM (.rg r) ms->jH K O H H1 G1 ms ds vs->aB K (rgn O G1 r) H1 ds vs
 | [],[],_,_,h=>by rw[show _=[] from h];exact .nil
 |m::ms,d::ds,_,⟨e,a⟩,⟨v,r,e1,h1,h2⟩=>by
  subst e;subst e1
  exact .cons h1 (jH.EM a h2)
 | [],_::_,_,_,h=>h.elim
 |_::_,[],_,_,h=>h.elim
end
section
variable {X:Cx} {Δ:List Md} {st:Ds} {a b e o:Expr} {es:List Expr} {m ma mb:VM} {ra rb:Option D} {pos:Pos} {r rg:Rg}
theorem m6 {ms:List VM} {rs:Option (List D)} (h:PAx X Δ st es ms rs) (hm:allM (.rg .fz) ms):PX X Δ st (.List es pos) (.nw (.ls .fz)) (rs.bind fun ds=>if ds.length<=sizeLine then some (.lst ds) else none):=
 cD (pe_lst h) fun σ H Q ⟨O,G,d,rel,er,k⟩=>by
  obtain⟨ds,e1,e2⟩:=bind1 er
  obtain⟨q,rfl⟩:=aH e2
  refine rdA.go rel e1 fun vs H1 G1 rel1 x1 v1=> ?_
  have hr:=v1.EM hm
  exact⟨by rw[hr.length];exact q,fun p hp=>k _ _ G1 (x1.trans (.new hp)) (bA.back x1 (oV hp rel1.gin hr))⟩
theorem tV {s:Sh}:PX X Δ st (.List [] pos) (.nw (.ls s)) (some (.lst [])):=
 cD (pe_lst pa_nil) fun σ H Q ⟨O,G,d,rel,er,k⟩=>by
  cases er
  refine⟨Nat.zero_le _,fun p hp=>k _ _ G (.new hp) ⟨[p],(by simp:[p].Nodup),fun q m=> ?_,?_⟩⟩
  ·rw[List.mem_singleton] at m
   subst m
   exact⟨hp,fun g=>rel.gin _ g hp⟩
  ·unfold Own
   exact⟨p,[],[],[],rfl,rfl,upd_same,⟨rfl,rfl⟩,rfl⟩
theorem Ad {ms:List VM} {rs:Option (List D)} (h:PAx X Δ st es ms rs) (hm:allM (.rg .fz) ms) {x1:Nat} (hl:es.length<=1000) (hlen: ∀ds,rs=some ds->ds.length<=1000):PX X Δ st (.Tuple es x1 pos) (.rg .fz) (rs.bind fun ds=>some (.tup ds)):=
 cD (pe_tup h) fun σ H Q ⟨O,G,d,rel,er,k⟩=>by
  obtain⟨ds,e1,e2⟩:=bind1 er
  cases e2
  refine rdA.go rel e1 fun vs H1 G1 rel1 x1 v1=> ?_
  have hr:=v1.EM hm
  refine⟨by rw[hr.length];exact Nat.le_of_lt (small1000 (hlen ds e1)),fun p hp=>k _ _ _ (x1.trans (.GS hp)) ?_⟩
  unfold bA Rep
  exact⟨p,vs,rfl,⟨.inr rfl,upd_same⟩,aB.mono (fun _ g=>.inl g) (x9 hp) ds vs hr⟩
theorem bt {r2:R2} {f:D->D->Option D} (hr:IxR X r2) (hf:Op2 X r2 ma mb m f) (ha:PX X Δ st a ma ra) (hb:PX X Δ st b mb rb) (hs:PlainIx b):PX X Δ st (.Subscript a b pos) m (ra.bind fun x=>rb.bind fun y=>f x y):=
 cD (pe_ix hr ha hb hs) fun _ _ _ h=>tT hf h
def D.atL (x y:D):Option D:=match x,y with
 | .lst ds,.int i=>atI ds i
 |_,_=>none
def D.atT (x y:D):Option D:=match x,y with
 | .tup ds,.int i=>atI ds i
 |_,_=>none
def D.atS (x y:D):Option D:=match x,y with
 | .str z,.int i=>if z.length<=sizeLine then (atI z.cps.toList i).map fun c=>.str ⟨#[c]⟩ else none
 |_,_=>none
def D.atC (x y:D):Option D:=match x,y with
 | .sc ns,.int i=>(atI ns i).map D.int
 |_,_=>none
theorem aB.atI {K:Frg} {S:Sa} {H:Hp} {ds:List D} {vs:List V} {i:Int} {d:D} (h:aB K S H ds vs) (e:L2.atI ds i=some d): ∃v,L2.atI vs i=some v/\Rep K S H d v:=by
 unfold L2.atI at e⊢
 rw[h.length]
 cases q:ixN ds.length i with
 |none=>rw[q] at e;cases e
 |some j=>
  rw[q] at e
  exact h.get e
theorem sY:Op2 X (rIxL X.K) (.rg r) (.rg mb') (.rg r) D.atL:=fun O H0 H G x y v w d Q e hx hy _ k=>by
 cases x <;> cases y <;> first|cases e|skip
 rename_i ds i
 unfold bA Rep at hx
 obtain⟨a,vs,rfl,_,l,rr⟩:=hx
 obtain⟨u,e1,e2⟩:=rr.atI e
 exact⟨a,vs,i,u,rfl,hy.int,SqL.of l,e1,k _ H G .refl e2⟩
theorem cE:Op2 X (rIxT X.K) (.rg r) (.rg mb') (.rg r) D.atT:=fun O H0 H G x y v w d Q e hx hy _ k=>by
 cases x <;> cases y <;> first|cases e|skip
 rename_i ds i
 unfold bA Rep at hx
 obtain⟨a,vs,rfl,l,rr⟩:=hx
 obtain⟨u,e1,e2⟩:=rr.atI e
 exact⟨a,vs,i,u,rfl,hy.int,l.sq,e1,k _ H G .refl e2⟩
theorem Ae:Op2 X rIxS (.rg r) (.rg mb') (.rg rg) D.atS:=fun O H0 H G x y v w d Q e hx hy _ k=>by
 cases x <;> cases y <;> first|cases e|skip
 rename_i z i
 have e:(if z.length<=sizeLine then (atI z.cps.toList i).map fun c=>D.str ⟨#[c]⟩ else none)=some d:=e
 split at e
 ·rename_i q
  cases e1:atI z.cps.toList i with
  |none=>rw[e1] at e;cases e
  |some c=>rw[e1] at e;cases e;exact⟨z,i,c,hx.str,hy.int,q,e1,k _ H G .refl m5⟩
 ·cases e
theorem Cj {α β:Type} (f:α->β) (l:List α) (i:Int):atI (l.map f) i=(atI l i).map f:=by
 unfold atI
 rw[List.length_map]
 cases ixN l.length i with
 |none=>rfl
 |some j=>simp
theorem GU:Op2 X (rIxL X.K) (.rg r) (.rg mb') (.rg rg) D.atC:=fun O H0 H G x y v w d Q e hx hy _ k=>by
 cases x <;> cases y <;> first|cases e|skip
 rename_i ns i
 have e:(atI ns i).map D.int=some d:=e
 unfold bA Rep at hx
 obtain⟨a,rfl,l⟩:=hx
 cases e1:atI ns i with
 |none=>rw[e1] at e;cases e
 |some c=>rw[e1] at e;cases e;exact⟨a,_,i,.int c,rfl,hy.int,l.sq,by rw[Cj,e1];rfl,k _ H G .refl g8⟩
def D.key:D->Option Key
 | .int i=>some (.inl i)
 | .str x=>some (.inr x)
 |_=>none
def kD:Key->D
 | .inl i=>.int i
 | .inr x=>.str x
theorem Rep.key {K:Frg} {S:Sa} {H:Hp} {d:D} {k:Key} {v:V} (e:d.key=some k) (h:Rep K S H d v):v=kV k:=by
 cases d <;> first|cases e|skip
 ·unfold Rep at h;exact h
 ·unfold Rep at h;exact h
def D.keys:List D->Option (List Key)
 | []=>some []
 |d::ds=>(d.key).bind fun k=>(D.keys ds).bind fun ks=>some (k::ks)
theorem aB.keys {K:Frg} {S:Sa} {H:Hp}: ∀{ds:List D} {ks:List Key} {vs:List V},D.keys ds=some ks->aB K S H ds vs->vs=ks.map kV
 | [],_,_,e,h=>by unfold aB at h;cases e;exact h
 |d::ds,_,_,e,h=>by
  unfold aB at h
  obtain⟨v,r,rfl,h1,h2⟩:=h
  unfold D.keys at e
  obtain⟨x,y,e1,e2,e3⟩:=cq e
  cases e3
  rw[Rep.key e1 h1,aB.keys e2 h2];rfl
def D.IT:D->Option (List Key)
 | .tup ds=>D.keys ds
 |_=>none
def D.look (x y:D):Option (Option D):=match x with
 | .dct ks=>(y.key).map fun k=>aD ks k
 | .dcT ks=>(y.IT).map fun k=>aD ks k
 |_=>none
theorem fu.get {K:Frg} {S:Sa} {H:Hp}: ∀{ks:List (List Key×D)} {kvs:List (List Key×V)} (k:List Key),fu K S H ks kvs->(∀d,aD ks k=some d-> ∃v,valV kvs k=some v/\Rep K S H d v)/\(aD ks k=none->valV kvs k=none)
 | [],_,k,h=>by
  unfold fu at h
  rw[h]
  exact⟨fun d e=>(nomatch e),fun _=>rfl⟩
 |(j,d)::ks,_,k,h=>by
  unfold fu at h
  obtain⟨v,r,rfl,h1,h2⟩:=h
  have ih:=fu.get k h2
  rw[bc]
  by_cases e:j=k
  ·subst e
   rw[valV_pos rfl]
   simp only[if_true]
   exact⟨fun d' e'=>⟨v,rfl,(Option.some.inj e')▸h1⟩,fun e'=>(nomatch e')⟩
  ·rw[valV_neg (show ¬(j,v).1=k from e)]
   simp only[e,if_false]
   exact ih
def D.Ck (x y:D):Option D:=(D.look x y).bind id
def D.inK (y x:D):Option Bool:=(D.look x y).map fun o=>o.isSome
def D.Cm (y x:D):Option Bool:=(D.look x y).map fun o=> !o.isSome
def D.tb:D->Option Bool
 | .bl b=>some b
 |_=>none
theorem qD {d:D} {b:Bool} (h:d.tb=some b):d= .bl b:=by
 cases d <;> first|cases h|skip
 rfl
theorem ri (h:PX X Δ st e (.rg r) ra) (he: ∀whole,isTrue e X.env whole=(do let v<-whole;standAt e.pos;holding [v] (truthy v)):=by intro _;rfl):PTx X Δ st e (ra.bind D.tb):=
 x6 (pt_val h he) fun σ H Q ⟨O,G,b,rel,er,k⟩=>by
  obtain⟨d,e1,e2⟩:=bind1 er
  have:=qD e2
  subst this
  exact rdE.go rel e1 fun v H1 G1 rel1 x1 v1=>⟨b,v1.bl,k H1 G1 x1⟩
theorem nV {rt:Option Bool} (h:PTx X Δ st e rt):PTx X Δ st (.UnaryOp .Not e pos) (rt.bind fun b=>some (!b)):=
 x6 (pt_not h) fun σ H Q ⟨O,G,b,rel,er,k⟩=>by
  obtain⟨d,e1,e2⟩:=bind1 er
  cases e2
  exact rdT.go rel e1 fun H1 G1 rel1 x1=>k H1 G1 x1
theorem vq {rt:Option Bool} (h:PTx X Δ st e rt):PWx X Δ st (.BoolOp .And [e] pos) rt:=pw_and1 h
theorem qE {rt:Option Bool} (h:PTx X Δ st e rt):PWx X Δ st (.BoolOp .Or [e] pos) rt:=pw_or1 h
theorem ya {rt rs:Option Bool} {b:Expr} {rest:List Expr} (h:PTx X Δ st e rt) (hb:PWx X Δ st (.BoolOp .And (b::rest) pos) rs):PWx X Δ st (.BoolOp .And (e::b::rest) pos) (rt.bind fun c=>if c=true then rs else some false):=
 D5 (pw_and h hb) fun σ H Q ⟨O,G,b,rel,er,k⟩=>by
  obtain⟨c,e1,e2⟩:=bind1 er
  refine rdT.go rel e1 fun H1 G1 rel1 x1=> ?_
  cases c with
  |true=>exact rdT.go rel1 (by simpa using e2) fun H2 G2 rel2 x2=>k H2 G2 (x1.trans x2)
  |false=>cases e2;exact k H1 G1 x1
theorem tW {rt rs:Option Bool} {b:Expr} {rest:List Expr} (h:PTx X Δ st e rt) (hb:PWx X Δ st (.BoolOp .Or (b::rest) pos) rs):PWx X Δ st (.BoolOp .Or (e::b::rest) pos) (rt.bind fun c=>if c=true then some true else rs):=
 D5 (pw_or h hb) fun σ H Q ⟨O,G,b,rel,er,k⟩=>by
  obtain⟨c,e1,e2⟩:=bind1 er
  refine rdT.go rel e1 fun H1 G1 rel1 x1=> ?_
  cases c with
  |false=>exact rdT.go rel1 (by simpa using e2) fun H2 G2 rel2 x2=>k H2 G2 (x1.trans x2)
  |true=>cases e2;exact k H1 G1 x1
theorem tX {op:PySem.BoolOp} (h:PX X Δ st e m ra):PX X Δ st (.BoolOp op [e] pos) m ra:=pe_one h
theorem wH {b:Expr} {rest:List Expr} (h:PX X Δ st e (.rg r) ra) (hb:PX X Δ st (.BoolOp .And (b::rest) pos) (.rg rg) rb):PX X Δ st (.BoolOp .And (e::b::rest) pos) (.rg rg) ((ra.bind D.tb).bind fun c=>if c=true then rb else some (.bl false)):=
 cD (pe_and h hb) fun σ H Q ⟨O,G,d,rel,er,k⟩=>by
  obtain⟨c,e1,e2⟩:=bind1 er
  obtain⟨x,e3,e4⟩:=bind1 e1
  have:=qD e4
  subst this
  refine rdE.go rel e3 fun v H1 G1 rel1 x1 v1=>⟨c,v1.bl,?_⟩
  cases c with
  |true=>exact rdE.go rel1 (by simpa using e2) fun w H2 G2 rel2 x2 v2=>k w H2 G2 (x1.trans x2) v2
  |false=>cases e2;exact k _ H1 G1 x1 lr
theorem D9 {b:Expr} {rest:List Expr} (h:PX X Δ st e (.rg r) ra) (hb:PX X Δ st (.BoolOp .Or (b::rest) pos) (.rg rg) rb):PX X Δ st (.BoolOp .Or (e::b::rest) pos) (.rg rg) ((ra.bind D.tb).bind fun c=>if c=true then some (.bl true) else rb):=
 cD (pe_or h hb) fun σ H Q ⟨O,G,d,rel,er,k⟩=>by
  obtain⟨c,e1,e2⟩:=bind1 er
  obtain⟨x,e3,e4⟩:=bind1 e1
  have:=qD e4
  subst this
  refine rdE.go rel e3 fun v H1 G1 rel1 x1 v1=>⟨c,v1.bl,?_⟩
  cases c with
  |false=>exact rdE.go rel1 (by simpa using e2) fun w H2 G2 rel2 x2 v2=>k w H2 G2 (x1.trans x2) v2
  |true=>cases e2;exact k _ H1 G1 x1 lr
theorem Af (h:PX X Δ st e (.rg r) ra):PX X Δ st (.UnaryOp .Not e pos) (.rg rg) ((ra.bind D.tb).bind fun c=>some (.bl (!c))):=
 cD (pe_not h) fun σ H Q ⟨O,G,d,rel,er,k⟩=>by
  obtain⟨c,e1,e2⟩:=bind1 er
  obtain⟨x,e3,e4⟩:=bind1 e1
  have:=qD e4
  subst this
  cases e2
  exact rdE.go rel e3 fun v H1 G1 rel1 x1 v1=>⟨c,v1.bl,k _ H1 G1 x1 lr⟩
def un1 {α:Type} (f:D->Option α):List D->Option α
 | [x]=>f x
 |_=>none
def un2 {α:Type} (f:D->D->Option α):List D->Option α
 | [x,y]=>f x y
 |_=>none
theorem lR {α:Type} {f:D->Option α} {xs:List D} {d:α} (h:un1 f xs=some d): ∃x,xs=[x]/\f x=some d:=by
 match xs,h with
 | [x],h=>exact⟨x,rfl,h⟩
theorem y7 {K:Frg} {O:Org} {H H1:Hp} {G1:Sa} {m1:VM} {x:D} {vs:List V} (h:jH K O H H1 G1 [m1] [x] vs): ∃v,vs=[v]/\bA K O H H1 G1 m1 x v:=by
 obtain⟨v,r,e,h1,h2⟩:=h
 rw[show r=[] from h2] at e
 exact⟨v,e,h1⟩
theorem GV {K:Frg} {O:Org} {H H1:Hp} {G1:Sa} {m1 m2:VM} {x y:D} {vs:List V} (h:jH K O H H1 G1 [m1,m2] [x,y] vs): ∃v w,vs=[v,w]/\bA K O H H1 G1 m1 x v/\bA K O H H1 G1 m2 y w:=by
 obtain⟨v,r,e,h1,w,r2,e2,h2,h3⟩:=h
 rw[show r2=[] from h3] at e2
 exact⟨v,w,by rw[e,e2],h1,h2⟩
def D.EN (x:D):Option D:=(x.items).map fun ds=>.int ds.length
def D.vt (x:D):Option D:=match x with
 | .sc ns=>some (.int ns.length)
 |_=>none
theorem EO:OpN X (fun xs H Q=> ∃p ys,xs=[.ref p]/\(SqL X.K H p ys\/SqT X.K H p ys)/\Q (.int ys.length) H) [.rg r] (.rg rg) (un1 D.vt):=fun O H0 H G xs vs d Q e hv _ k=>by
 obtain⟨x,rfl,e1⟩:=lR e
 obtain⟨v,rfl,h1⟩:=y7 hv
 cases x <;> first|cases e1|skip
 unfold bA Rep at h1
 obtain⟨a,rfl,l⟩:=h1
 refine⟨a,_,rfl,.inl l.sq,?_⟩
 rw[List.length_map]
 exact k _ H G .refl g8
def D.sE (x:D):Option D:=match x with
 | .str z=>if z.length<=sizeLine then some (.int z.length) else none
 |_=>none
theorem Ag:OpN X (fun xs H Q=> ∃x n,xs=[x]/\LenV X.K x H n/\Q (.int n) H) [.rg r] (.rg rg) (un1 D.sE):=fun O H0 H G xs vs d Q e hv _ k=>by
 obtain⟨x,rfl,e1⟩:=lR e
 obtain⟨v,rfl,h1⟩:=y7 hv
 cases x <;> first|cases e1|skip
 rename_i z
 obtain⟨q,rfl⟩:=aH (show (if z.length<=sizeLine then some (D.int z.length) else none)=some d from e1)
 rw[h1.str]
 exact⟨_,z.length,rfl,⟨q,rfl⟩,k _ H G .refl g8⟩
def D.Co (x:D):Option D:=match x with
 | .dct ks=>some (.int ks.length)
 |_=>none
def D.toL (x:D):Option D:=(x.items).map .lst
end
end Sw
namespace Sw
open PySem PySem.Spec PyProof.Rows L2
variable [NmC]
section
variable {X:Cx} {Δ:List Md} {st:Ds} {a b e o:Expr} {es:List Expr} {m ma mb:VM} {ra rb:Option D} {pos p2:Pos} {r rg:Rg}
def rdO (K:Frg) (Δ:List Md) (st:Ds) (ro:Option (Option Int)):TO:=fun σ H Q=> ∃O G i,Rel K O Δ st σ H G/\ro=some i/\ ∀H' G',Ext H G H' G'->Q i H'
abbrev POx (X:Cx) (Δ:List Md) (st:Ds) (e:Option Expr) (r:Option (Option Int)):Prop:=PO X e (rdO X.K Δ st r)
theorem Ah:POx X Δ st none (some none):=⟨fun pins s σ H Q I ⟨O,G,i,rel,er,k⟩=>by
 cases er
 exact po_none.run pins s σ H Q I (k H G .refl)⟩
def D.toI:D->Option (Option Int)
 | .int i=>some (some i)
 |_=>none
theorem rj (h:PX X Δ st e (.rg r) ra):POx X Δ st (some e) (ra.bind D.toI):=⟨fun pins s σ H Q I ⟨O,G,i,rel,er,k⟩=>by
 obtain⟨d,e1,e2⟩:=bind1 er
 cases d <;> first|cases e2|skip
 exact (po_some h).run pins s σ H Q I (rdE.go rel e1 fun v H1 G1 rel1 x1 v1=>⟨_,v1.int,k H1 G1 x1⟩)⟩
def iZ {α:Type} (xs:List α) (lo hi:Option Int):List α:=(xs.drop (HT.sIx xs.length 0 lo)).take (HT.sIx xs.length xs.length hi -HT.sIx xs.length 0 lo)
def D.iZ (x:D) (lo hi:Option Int):Option D:=match x with
 | .lst ds=>some (.lst (Sw.iZ ds lo hi))
 |_=>none
theorem aB.cut {K:Frg} {S:Sa} {H:Hp} {ds:List D} {vs:List V} (h:aB K S H ds vs) (lo hi:Option Int):aB K S H (Sw.iZ ds lo hi) (cutV vs lo hi):=by
 unfold Sw.iZ cutV
 rw[h.length]
 exact (h.drop _).take _
theorem Cp {lo hi:Option Expr} {rl rh:Option (Option Int)} (ha:PX X Δ st a (.rg .fz) ra) (hl:POx X Δ st lo rl) (hh:POx X Δ st hi rh):PX X Δ st (.Subscript a (.Slice lo hi none p2) pos) (.nw (.ls .fz)) (ra.bind fun x=>rl.bind fun l=>rh.bind fun u=>D.iZ x l u):=
 cD (L2.pe_slice sl_list ha hl hh) fun σ H Q ⟨O,G,d,rel,er,k⟩=>by
  obtain⟨x,e1,er⟩:=bind1 er
  obtain⟨l,u,e2,e3,e4⟩:=cq er
  cases x <;> first|cases e4|skip
  refine rdE.go rel e1 fun v H1 G1 rel1 x1 v1=>⟨O,G1,l,rel1,e2,fun H2 G2 x2=>⟨O,G2,u,rel1.ext x2,e3,fun H3 G3 x3=> ?_⟩⟩
  have v3:=(v1.mono x2).mono x3
  unfold bA Rep at v3
  obtain⟨p,vs,rfl,_,l',r'⟩:=v3
  exact⟨p,vs,rfl,SqL.of l',fun q hq=>k _ _ G3 ((x1.trans (x2.trans x3)).trans (.new hq)) (bA.back (x1.trans (x2.trans x3)) (oV hq ((rel1.ext x2).ext x3).gin (r'.cut l u)))⟩
def D.ET (x:D) (lo hi:Option Int):Option D:=match x with
 | .sc ns=>some (.lst ((Sw.iZ ns lo hi).map D.int))
 |_=>none
theorem oW {K:Frg} {S:Sa} {H:Hp}: ∀ns:List Int,aB K S H (ns.map D.int) (ns.map V.int)
 | []=>.nil
 |n::ns=>.cons (by unfold Rep;rfl) (oW ns)
def D.cutS (x:D) (lo hi:Option Int):Option D:=match x with
 | .str z=>if z.length<=sizeLine then some (.str (L2.cutS z lo hi)) else none
 |_=>none
theorem Cq {lo hi:Option Expr} {rl rh:Option (Option Int)} (ha:PX X Δ st a (.rg r) ra) (hl:POx X Δ st lo rl) (hh:POx X Δ st hi rh):PX X Δ st (.Subscript a (.Slice lo hi none p2) pos) (.rg rg) (ra.bind fun x=>rl.bind fun l=>rh.bind fun u=>D.cutS x l u):=
 cD (L2.pe_slice sl_str ha hl hh) fun σ H Q ⟨O,G,d,rel,er,k⟩=>by
  obtain⟨x,e1,er⟩:=bind1 er
  obtain⟨l,u,e2,e3,e4⟩:=cq er
  cases x <;> first|cases e4|skip
  rename_i z
  obtain⟨q,rfl⟩:=aH (show (if z.length<=sizeLine then some (D.str (L2.cutS z l u)) else none)=some d from e4)
  refine rdE.go rel e1 fun v H1 G1 rel1 x1 v1=>⟨O,G1,l,rel1,e2,fun H2 G2 x2=>⟨O,G2,u,rel1.ext x2,e3,fun H3 G3 x3=> ?_⟩⟩
  exact⟨z,v1.str,q,k _ H3 G3 (x1.trans (x2.trans x3)) m5⟩
def D.wI (x y:D):Option D:=match x,y with
 | .lst xs,.lst ys=>if xs.length+ys.length<=sizeLine then some (.lst (xs++ys)) else none
 |_,_=>none
theorem EU:Op2 X rCat (.rg .fz) (.rg .fz) (.nw (.ls .fz)) D.wI:=fun O H0 H G x y v w d Q e hx hy gin k=>by
 cases x <;> cases y <;> first|cases e|skip
 rename_i xs ys
 obtain⟨q,rfl⟩:=aH (show (if xs.length+ys.length<=sizeLine then some (D.lst (xs++ys)) else none)=some d from e)
 unfold bA Rep at hx hy
 obtain⟨a,vs,rfl,_,l,rr⟩:=hx
 obtain⟨b,ws,rfl,_,l',rr'⟩:=hy
 exact⟨a,b,vs,ws,rfl,rfl,l,l',by rw[rr.length,rr'.length];exact q,fun p hp=>k _ _ G (.new hp) (oV hp gin (rr.append rr'))⟩
def D.IU:D->Bool
 | .tup (_::_)=>true
 |_=>false
def D.noT:D->Bool
 | .int _=>true| .str _=>true| .bl _=>true| .lst _=>true
 |_=>false
theorem gh {tg:Expr} (h:PX X Δ st e (.rg rg) ra):PIx (δ:=D) X Δ st tg e rg (irV X.K) (ra.bind fun x=>match x with| .lst ds=>some ds|_=>none):=
 vj (pi_list h) fun σ H R ⟨O,G,ds,rel,er,k⟩=>by
  obtain⟨x,e1,e2⟩:=bind1 er
  cases x <;> first|cases e2|skip
  rename_i ds
  refine rdE.go rel e1 fun v H1 G1 rel1 x1 v1=> ?_
  unfold bA Rep at v1
  obtain⟨a,vs,rfl,s,l,rr⟩:=v1
  refine⟨a,rfl,⟨vs,SqL.of l⟩,k _ H1 G1 x1 (wkS fun H2 hst i=> ?_)⟩
  have l2:SqL X.K H2 a vs:=SqL.of (hst a _ s l (fun _ z=>by cases z))
  refine⟨fun d hd=> ?_,fun hi=>⟨vs,l2,by rw[rr.length];exact hi⟩⟩
  obtain⟨u,e3,e4⟩:=rr.get hd
  refine⟨⟨vs,u,l2,e3⟩,fun x H3 ⟨eH,f⟩=> ?_⟩
  subst eH
  have:=f vs l2
  rw[e3] at this;cases this
  exact⟨fun _ _ e=>e,Rep.mono (fun _ g=>g) (fun p sp=>jt.xZ fun u n e=>hst p u sp e n) _ _ e4⟩
theorem Cr {K:Frg} {S:Sa} {H:Hp} {a b:D} {v:V} (h:Rep K S H (.tup [a,b]) v):irP K S H (a,b) v:=by
 unfold Rep at h
 obtain⟨p,vs,e,l,r⟩:=h
 unfold aB at r
 obtain⟨x,r1,rfl,h1,h2⟩:=r
 unfold aB at h2
 obtain⟨y,r2,rfl,h3,h4⟩:=h2
 unfold aB at h4
 subst h4
 exact⟨p,x,y,e,l.sq,h1,h3⟩
def D.pr:D->Option (D×D)
 | .tup [a,b]=>some (a,b)
 |_=>none
def D.prs:List D->Option (List (D×D))
 | []=>some []
 |d::ds=>(D.pr d).bind fun x=>(D.prs ds).bind fun xs=>some (x::xs)
theorem yb: ∀{ds:List D} {ps:List (D×D)} {i:Nat} {p:D×D},D.prs ds=some ps->ps[i]? =some p->ds[i]? =some (.tup [p.1,p.2])
 | [],_,_,_,e,h=>by cases e;simp at h
 |d::ds,_,i,p,e,h=>by
  unfold D.prs at e
  obtain⟨x,y,e1,e2,e3⟩:=cq e
  cases e3
  cases i with
  |zero=>
   simp at h;subst h
   unfold D.pr at e1
   split at e1
   ·cases e1;rfl
   ·cases e1
  |succ i=>simpa using yb e2 (by simpa using h)
theorem yc: ∀{ds:List D} {ps:List (D×D)},D.prs ds=some ps->ps.length=ds.length
 | [],_,e=>by cases e;rfl
 |d::ds,_,e=>by
  unfold D.prs at e
  obtain⟨x,y,e1,e2,e3⟩:=cq e
  cases e3
  rw[List.length_cons,List.length_cons,yc e2]
theorem Cs {tg:Expr} (h:PX X Δ st e (.rg rg) ra):PIx (δ:=D×D) X Δ st tg e rg (irP X.K) (ra.bind fun x=>match x with| .lst ds=>D.prs ds|_=>none):=
 vj (pi_list h) fun σ H R ⟨O,G,ps,rel,er,k⟩=>by
  obtain⟨x,e1,e2⟩:=bind1 er
  cases x <;> first|cases e2|skip
  rename_i ds
  refine rdE.go rel e1 fun v H1 G1 rel1 x1 v1=> ?_
  unfold bA Rep at v1
  obtain⟨a,vs,rfl,s,l,rr⟩:=v1
  refine⟨a,rfl,⟨vs,SqL.of l⟩,k _ H1 G1 x1 (wkS fun H2 hst i=> ?_)⟩
  have l2:SqL X.K H2 a vs:=SqL.of (hst a _ s l (fun _ z=>by cases z))
  refine⟨fun d hd=> ?_,fun hi=>⟨vs,l2,by rw[rr.length,←yc e2];exact hi⟩⟩
  obtain⟨u,e3,e4⟩:=rr.get (yb e2 hd)
  refine⟨⟨vs,u,l2,e3⟩,fun x H3 ⟨eH,f⟩=> ?_⟩
  subst eH
  have:=f vs l2
  rw[e3] at this;cases this
  exact⟨fun _ _ e=>e,Cr (Rep.mono (fun _ g=>g) (fun p sp=>jt.xZ fun u n e=>hst p u sp e n) _ _ e4)⟩
def sF (lo:Int) (n:Nat):List D:=(List.range n).map fun i:Nat=>D.int (lo+i)
theorem Ct {lo:Int} {n i:Nat} {d:D} (h:(sF lo n)[i]? =some d):i<n/\d= .int (lo+i):=by
 unfold sF at h
 rw[List.getElem?_map] at h
 by_cases hi:i<n
 ·rw[List.getElem?_range hi] at h
  exact⟨hi,(Option.some.inj h).symm⟩
 ·rw[List.getElem?_eq_none (by simpa using hi)] at h;cases h
theorem Cu {K:Frg} {S S':Sa} {H:Hp} {lo:Int} {n:Nat}:Wlk (irV K S') S (Itr lo n) (sF lo n) H:=fun H2 _ i=>by
 refine⟨fun d hd=> ?_,fun hi=> ?_⟩
 ·obtain⟨hi,rfl⟩:=Ct hd
  refine⟨hi,fun x H3 ⟨eH,ex⟩=> ?_⟩
  subst eH;subst ex
  exact⟨fun _ _ e=>e,by unfold irV Rep;rfl⟩
 ·show n<=i
  unfold sF at hi
  simpa using hi
noncomputable def okR (i:Int):Bool:=@decide (-(2^62)<=i/\i<2^62) (Classical.propDecidable _)
noncomputable def D.mG (xs:List D):Option (List D):=match xs with
 | [.int n]=>if okR n=true then some (sF 0 n.toNat) else none
 |_=>none
theorem yd {i:Int} (h:okR i=true): -(2^62)<=i/\i<2^62:=by
 unfold okR at h
 exact @of_decide_eq_true _ (Classical.propDecidable _) h
theorem nW {tg:Expr} {p:Pos} {rs:Option (List D)} (hg:Gl X "range") (hm:X.mg "range" =none) (ha:PAx X Δ st [a] [.rg r] rs) (hs:starEach [a] X.env=[(false,eval a X.env)]:=by rfl):
  PIx (δ:=D) X Δ st tg (.Call (.Name "range" p) [a] [] pos) .fz (irV X.K) (rs.bind D.mG):=vj (pi_range1 hg hm ha hs) fun σ H R ⟨O,G,ds,rel,er,k⟩=>by
 obtain⟨xs,e1,e2⟩:=bind1 er
 unfold D.mG at e2
 split at e2
 ·rename_i n
  obtain⟨q,rfl⟩:=aH e2
  refine rdA.go rel e1 fun vs H1 G1 rel1 x1 v1=> ?_
  obtain⟨v,rfl,h1⟩:=y7 v1
  rw[h1.int]
  exact⟨n,rfl,(yd q).1,(yd q).2,k _ H1 G1 x1 Cu⟩
 ·cases e2
def sgn (c:Nat):D:=.str ⟨#[c]⟩
def D.rq (x:D):Option (List D):=match x with
 | .str z=>some (z.cps.toList.map sgn)
 |_=>none
theorem tY {tg:Expr} (h:PX X Δ st e (.rg r) ra):PIx (δ:=D) X Δ st tg e .fz (irV X.K) (ra.bind D.rq):=
 vj (pi_str h) fun σ H R ⟨O,G,ds,rel,er,k⟩=>by
  obtain⟨x,e1,e2⟩:=bind1 er
  cases x <;> first|cases e2|skip
  rename_i z
  refine rdE.go rel e1 fun v H1 G1 rel1 x1 v1=>⟨z,v1.str,k _ H1 G1 x1 fun H2 hst i=>⟨fun d hd=> ?_,fun hi=>by
   show z.cps.size<=i
   simpa using hi⟩⟩
  rw[List.getElem?_map] at hd
  cases q:z.cps.toList[i]? with
  |none=>rw[q] at hd;cases hd
  |some c=>
   rw[q] at hd;cases hd
   have hlt:i<z.cps.size:=by
    have:=(List.getElem?_eq_some_iff.mp q).1
    simpa using this
   refine⟨hlt,fun x H3 ⟨eH,c',e3,e4⟩=> ?_⟩
   subst eH
   rw[Array.getElem?_toList] at q
   rw[q] at e3;cases e3
   subst e4
   exact⟨fun _ _ e=>e,by unfold irV sgn Rep;rfl⟩
end
def nX {δ:Type} (rt:δ->Option Bool) (re:δ->Option D):List δ->Option (List D)
 | []=>some []
 |d::ds=>(rt d).bind fun b=>if b=true then (re d).bind fun x=>(nX rt re ds).bind fun xs=>some (x::xs) else nX rt re ds
def rz {δ:Type} (rt:δ->Option Bool) (re:δ->Option D) (ds:List δ):Option D:=if ds.length<=sizeLine then (nX rt re ds).map D.lst else none
abbrev GW (X:Cx) (Δ:List Md) (st:Ds) (ifs:List Expr) (r:Option Bool):Prop:=PTs X ifs (rdT X.K Δ st r)
section
variable {X:Cx} {Δ:List Md} {st:Ds} {pos:Pos}
theorem j7:GW X Δ st [] (some true):=⟨fun pins s σ H Q I ⟨O,G,b,rel,er,k⟩=>by
 cases er
 exact pts_nil.run pins s σ H Q I (k H G .refl)⟩
theorem vu {c:Expr} {r:Option Bool} (h:PTx X Δ st c r):GW X Δ st [c] r:=pts_one h
theorem Ai {ifs:List Expr} {α:Type} {t:α->TT} (h: ∀a,PTs X ifs (t a)):PTs X ifs (fun σ H Q=> ∃a,t a σ H Q):=⟨fun pins s σ H De I ⟨a,q⟩=>(h a).run pins s σ H De I q⟩
theorem Rel.wipe {K:Frg} {O:Org} {σ:CS} {H:Hp} {G:Sa}: ∀{vs:List Nat},(∀v∈vs,st[v]? =some none)->Rel K O Δ st σ H G->Rel K O Δ st (L2.wipe σ vs) H G
 | [],_,r=>r
 |v::vs,h,r=>by
  obtain⟨L,g,s⟩:=Rel.wipe (fun u m=>h u (List.mem_cons_of_mem _ m)) r
  unfold L2.wipe
  have hv:=h v List.mem_cons_self
  have hlt:v<Δ.length:=by rw[<-s.len.1];exact (List.getElem?_eq_some_iff.mp hv).1
  obtain⟨x',y',L1,L2',ex,ey,sr,pm,f⟩:=s.split (List.getElem?_eq_getElem hlt)
  rw[hv] at ex;cases ex
  obtain⟨L',pm',s'⟩:=f G H Δ[v] none none [] (fun _ g=>g) au au (fun _ _=>rfl) ju.none
  rw[f9 hv,f9 (List.getElem?_eq_getElem hlt)] at s'
  exact⟨L',((g.perm pm).sub (List.sublist_append_right _ _)).perm pm'.symm,s'⟩
theorem sZ {σ:CS} {vs:List Nat}: ∀{us:List Nat},(∀u∈us,u∈vs)->L2.wipe (L2.wipe σ us) vs=L2.wipe σ vs
 | [],_=>rfl
 |u::us,h=>by
  show L2.wipe ((L2.wipe σ us).set u none) vs=_
  rw[iz (h u List.mem_cons_self)]
  exact sZ fun w m=>h w (List.mem_cons_of_mem _ m)
theorem Aj {K:Frg} {δ:Type} {g:TG} {rg:Rg} {IR:Sa->Hp->δ->V->Prop} {rI:Option (List δ)} {uM:List Md->List Md} {uS:δ->Ds->Ds} {is vs0:List Nat} {rt:δ->Option Bool} {re:δ->Option D}
  (him:jR IR) (hw: ∀v∈vs0,st[v]? =some none) (his: ∀i∈is,i∈vs0) (htg:sD K g rg IR uM uS Δ.length is) {σ:CS} {H:Hp} {Q:VK}
  (h:rdE K Δ st (.nw (.ls .fz)) (rI.bind fun ds=>rz rt re ds) σ H Q):
  tLc (rdI K Δ st rg IR rI) g (fun σ H Q=> ∃d,rdT K (uM Δ) (uS d st) (rt d) σ H Q) (fun σ H Q=> ∃d,rdE K (uM Δ) (uS d st) (.rg .fz) (re d) σ H Q) vs0 σ H Q:=by
  obtain⟨O,G,d,rel,er,k⟩:=h
  obtain⟨ds,e1,e2⟩:=bind1 er
  unfold rz at e2
  split at e2
  case isFalse=>cases e2
  rename_i hz
  cases e3:nX rt re ds with
  |none=>rw[e3] at e2;cases e2
  |some all=>
   rw[e3] at e2;cases e2
   refine⟨O,G,ds,rel,e1,fun J H1 G1 x1 hwk D0 hD=> ?_⟩
   have rel1:=(rel.ext x1).wipe hw
   have nG: ¬G1 D0:=fun g=>rel1.gin _ g hD
   refine⟨fun i m H=> ∃G xs vs rest,m=ds.length -i/\i<=ds.length/\Ext H1 G1 H G/\H D0=some (.lst vs)/\ ¬G D0/\aB K G H xs vs/\xs.length<=i/\nX rt re (ds.drop i)=some rest/\all=xs++rest,
    ⟨ds.length,G1,[],[],all,by omega,by omega,.new hD,upd_same,nG,.nil,Nat.le_refl _,by simpa using e3,rfl⟩,fun i m H hW=> ?_⟩
   obtain⟨Gi,xs,vs,rest,em,hil,xi,hDi,nGi,rs,hxs,ec,ea⟩:=hW
   have hst: ∀p u,stR O G1 rg p->H1 p=some u->NT u->H p=some u:=fun p u _ e nt=>xi.hh p u e
   obtain⟨w1,w2⟩:=hwk H hst i
   by_cases hlt:i<ds.length
   ·have hd:ds[i]? =some ds[i]:=List.getElem?_eq_getElem hlt
    obtain⟨go,yl⟩:=w1 _ hd
    refine .inr ⟨go,fun H'=> ∃G xs vs rest,Ext H1 G1 H' G/\H' D0=some (.lst vs)/\ ¬G D0/\aB K G H' xs vs/\xs.length<=i+1/\nX rt re (ds.drop (i+1))=some rest/\all=xs++rest,
     fun H' ⟨G',xs',vs',rest',z1,z2,z3,z4,z5,z6,z7⟩=>⟨m -1,by omega,G',xs',vs',rest',by omega,by omega,z1,z2,z3,z4,z5,z6,z7⟩,fun x H3 hy=> ?_⟩
    obtain⟨hh,ir⟩:=yl x H3 hy
    have x3:Ext H Gi H3 Gi:=.of hh (fun _ g=>g) fun _ g=>.inl g
    have rl3:=rel1.ext (xi.trans x3)
    have hsub: ∀p,rgn O G1 rg p->rgn O Gi rg p:=fun p s=>by
     cases rg with
     |hb=>exact trivial
     |bb=>exact s
     |fz=>exact xi.gg p s
    refine htg _ _ _ _ _ _ _ x _ rfl rl3 (him _ _ H3 H3 _ x hsub (fun _ _ e=>e) ir) fun σ' rl' hwp=>⟨?_,?_⟩
    ·rw[hwp _ his]
     exact sZ fun u m=>m
    ·rw[vm hd] at ec
     unfold nX at ec
     obtain⟨b,eb,ec⟩:=bind1 ec
     refine⟨ds[i],rdT.go rl' eb fun H4 G4 rl4 x4=> ?_⟩
     cases b with
     |true=>
      rw[if_pos rfl] at ec⊢
      obtain⟨y,ys,e5,e6,e7⟩:=cq ec
      cases e7
      refine⟨ds[i],rdE.go rl4 e5 fun v H5 G5 rl5 x5 v5=> ?_⟩
      have x35:Ext H Gi H5 G5:=x3.trans (x4.trans x5)
      have hD5:H5 D0=some (.lst vs):=x35.hh _ _ hDi
      have nG5: ¬G5 D0:=fun g=>by
       rcases x35.gn D0 g with g|⟨n,_⟩|⟨xs,t⟩
       ·exact nGi g
       ·rw[hDi] at n;cases n
       ·rw[hDi] at t;cases xs <;> cases t
      have ag:Agr G5 H5 (upd H5 D0 (.lst (vs++[v]))):=fun p g=>jt.of_eq fun u e=>by
       rw[upd_ne (fun z=>by subst z;exact nG5 g)];exact e
      have rs5:aB K G5 H5 xs vs:=aB.mono x35.gg x35.agr xs vs rs
      refine⟨vs,hD5,by rw[rs.length];exact Nat.lt_of_lt_of_le (by omega) hz,G5,xs++[y],vs++[v],ys,?_,upd_same,nG5,aB.mono (fun _ g=>g) ag _ _ (rs5.append (.one v5)),by rw[List.length_append];simp;omega,e6,by rw[List.append_assoc];exact ea⟩
      have xx:=xi.trans x35
      exact xx.IP hD ⟨_,hD5,trivial⟩
     |false=>
      rw[if_neg Bool.false_ne_true] at ec⊢
      have x34:Ext H Gi H4 G4:=x3.trans x4
      have nG4: ¬G4 D0:=fun g=>by
       rcases x34.gn D0 g with g|⟨n,_⟩|⟨xs,t⟩
       ·exact nGi g
       ·rw[hDi] at n;cases n
       ·rw[hDi] at t;cases xs <;> cases t
      exact⟨G4,xs,vs,rest,xi.trans x34,x34.hh _ _ hDi,nG4,aB.mono x34.gg x34.agr xs vs rs,by omega,ec,ea⟩
   ·refine .inl ⟨w2 (by omega),?_⟩
    rw[List.drop_of_length_le (by omega)] at ec
    cases ec
    rw[List.append_nil] at ea
    subst ea
    refine k _ H Gi (x1.trans xi) ⟨[D0],by simp,fun p m=> ?_,?_⟩
    ·rw[List.mem_singleton] at m
     subst m
     exact⟨x1.back hD,nGi⟩
    ·unfold Own
     exact⟨D0,vs,_,[],rfl,rfl,hDi,tU rs,rfl⟩
theorem s6 {δ:Type} {elt tg iter:Expr} {ifs:List Expr} {scope:Scope} {own:List (Str×Nat)} {g:TG} {rg:Rg} {IR:Sa->Hp->δ->V->Prop} {rI:Option (List δ)} {uM:List Md->List Md} {uS:δ->Ds->Ds} {is:List Nat} {rt:δ->Option Bool} {re:δ->Option D}
  (hc:X.calm=true) (hN:X.N.Nodup) (hi:PIx X Δ st tg iter rg IR rI) (him:jR IR) (hr:rg≠ .hb) (ok:BlkOk X.N X.env.scope scope own) (hw: ∀v∈own.map (·.2),st[v]? =some none) (his: ∀i∈is,i∈own.map (·.2))
  (hg: ∀(s:Shared) (H:Hp) (C:Addr) (cl:List (Str×Addr)) (fp:List Addr),PG (X.blk s H scope (compEnvC scope cl C X.env) fp) tg g) (htg:sD X.K g rg IR uM uS Δ.length is)
  (ht: ∀(s:Shared) (H:Hp) (C:Addr) (cl:List (Str×Addr)) (fp:List Addr) (d:δ),PTs (X.blk s H scope (compEnvC scope cl C X.env) fp) ifs (rdT X.K (uM Δ) (uS d st) (rt d)))
  (he: ∀(s:Shared) (H:Hp) (C:Addr) (cl:List (Str×Addr)) (fp:List Addr) (d:δ),PE (X.blk s H scope (compEnvC scope cl C X.env) fp) elt (rdE X.K (uM Δ) (uS d st) (.rg .fz) (re d)))
  (hs: ∀x,foldedSetIterable iter X.env x=pure x:=by intro _;rfl):
  PX X Δ st (.ListComp elt [⟨tg,iter,ifs,0⟩] scope pos) (.nw (.ls .fz)) (rI.bind fun ds=>rz rt re ds):=
 cD (pe_lc hc hN hi ok hg (fun s H C cl fp=>Ai fun d=>ht s H C cl fp d) (fun s H C cl fp=>D7 fun d=>he s H C cl fp d) hs) fun σ H Q h=>Aj him hw his htg h
end
end Sw
namespace Sw
open PySem PySem.Spec PyProof.Rows L2
variable [NmC]
inductive PM where
 |bo|fz|ow (s:Sh)|ini (s:Sh)|bl
def IV (K:Frg) (B G:Sa) (H:Hp):PM->D->V->List Addr->Prop
 | .bo,d,v,L=>Rep K B H d v/\L=[]
 | .fz,d,v,L=>Rep K G H d v/\L=[]
 | .ow s,d,v,L=>Own K G H s d v L
 | .ini _,d,v,L=>Own K G H (.is []) d v L
 | .bl,d,v,L=>Spn K B G H d v/\L=[]
def lu (K:Frg) (B G:Sa) (H:Hp):List PM->List D->List V->List Addr->Prop
 | [],[],[],L=>L=[]
 |m::ms,d::ds,v::vs,L=> ∃L1 L2,IV K B G H m d v L1/\lu K B G H ms ds vs L2/\L=L1++L2
 |_,_,_,_=>False
def bq:List PM->List V->List (V×Sh)
 | .ow s::ms,v::vs=>(v,s)::bq ms vs
 | .ini s::ms,v::vs=>(v,s)::bq ms vs
 |_::ms,_::vs=>bq ms vs
 |_,_=>[]
def tZ:List PM->List V->List Md
 | .bo::ms,_::vs=>.bo::tZ ms vs
 | .fz::ms,_::vs=>.fz::tZ ms vs
 | .bl::ms,_::vs=>.bl::tZ ms vs
 | .ow s::ms,v::vs=>.pn v s::tZ ms vs
 | .ini _::ms,v::vs=>.pn v (.is [])::tZ ms vs
 |_,_=>[]
def FSp (K:Frg) (ms:List PM) (rm:VM) (Fs:List D->Option FR):Sp:=fun vs H Q E=>
 ∃(O:Org) (ds:List D) (fr:FR),O.H0=H/\b8 O H O.G0 O.L0/\lu K O.B O.G0 H ms ds vs O.L0/\Fs ds=some fr/\match fr with
  | .ok d os=> ∀v H' G',yZ K rm (bq ms vs) O d os v H' G'->Q v H'
  | .er x=> ∀c od H' G',XcR K (bq ms vs) O x c od H' G'->E c od H'
theorem lu.len {K:Frg} {B G:Sa} {H:Hp}: ∀{ms:List PM} {ds:List D} {vs:List V} {L:List Addr},lu K B G H ms ds vs L->vs.length=ms.length/\ds.length=ms.length
 | [],[],[],_,_=>⟨rfl,rfl⟩
 |m::ms,d::ds,v::vs,_,⟨L1,L2,h1,h2,e⟩=>by
  have:=lu.len h2
  simp[this.1,this.2]
 | [],[],_::_,_,h=>h.elim
 | [],_::_,_,_,h=>h.elim
 |_::_,[],_,_,h=>h.elim
 |_::_,_::_,[],_,h=>h.elim
def outF:Out PEmpty PEmpty->Option FR
 | .ret d os=>some (.ok d os)
 | .exc x=>some (.er x)
 |_=>none
def fnX (rm:VM) (ps:List (V×Sh)) (E:XK):Exits PEmpty PEmpty:=⟨[],fun _=>[],[],fun _=>[],rm,ps,E,true⟩
theorem s7 {K:Frg} {B G:Sa} {H:Hp}: ∀n:Nat,Slots K B G H (List.replicate n .fz) (List.replicate n none) (List.replicate n none) []
 |0=>rfl
 |n+1=>⟨[],[],rfl,s7 n,rfl⟩
theorem m7 {K:Frg} {B G:Sa} {H:Hp} {n:Nat}: ∀{ms:List PM} {ds:List D} {vs:List V} {L:List Addr},lu K B G H ms ds vs L->Slots K B G H (tZ ms vs++List.replicate n .fz) (ds.map some++List.replicate n none) (vs.map some++List.replicate n none) L
 | [],[],[],L,h=>by rw[show L=[] from h];exact s7 n
 |m::ms,d::ds,v::vs,_,⟨L1,L2,h1,h2,e⟩=>by
  have ih:=m7 (n:=n) h2
  subst e
  cases m with
  |bo=>exact⟨L1,L2,⟨v,rfl,h1.1,h1.2⟩,ih,rfl⟩
  |fz=>exact⟨L1,L2,⟨v,rfl,h1.1,h1.2⟩,ih,rfl⟩
  |ow s=>exact⟨L1,L2,⟨rfl,h1⟩,ih,rfl⟩
  |ini s=>exact⟨L1,L2,⟨rfl,h1⟩,ih,rfl⟩
  |bl=>exact⟨L1,L2,⟨v,rfl,h1.1,h1.2⟩,ih,rfl⟩
 | [],[],_::_,_,h=>h.elim
 | [],_::_,_,_,h=>h.elim
 |_::_,[],_,_,h=>h.elim
 |_::_,_::_,[],_,h=>h.elim
section
variable {P:Program} {w:World} {K:Frg} {mg:Str->Option Value} {base:Heap}
abbrev cxT (P:Program) (w:World) (K:Frg) (mg:Str->Option Value) (base:Heap) (N:List Str) (qual:Str) (sc:Scope) (f:Addr) (cdv:Value) (A:Around) (outer:List Env) (s:Shared) (H:Hp) (E:XK):Cx:=
 (cxOf CX0 P w K mg base N qual sc f cdv A outer s H E).nox
theorem EV {x qual:Str} {st:Stmt} {f:Addr} {fd:FuncData} {N ps:List Str} {k n:Nat} {ms:List PM} {rm:VM} {Fs:List D->Option FR} (F:Fun K x qual st f fd) (S:FnScope N ps (defScope st)) (hl:ms.length=ps.length) (hn:N.length=ps.length+n)
  (h: ∀(cdv:Value) (A:Around) (outer:List Env) (s:Shared) (H:Hp) (vs:List V) (E:XK),fd.code=cdv->Room k (A.deeper (envOfC qual (defScope st) s.heap.objs.size f cdv))->vs.length=ms.length-> ∀ds fr,ds.length=ms.length->Fs ds=some fr→
   ∃m,Blk (cxT P w K mg base N qual (defScope st) f cdv A outer s H E) (fnX rm (bq ms vs) E) (tZ ms vs++List.replicate n .fz) (ds.map some++List.replicate n none) (defBody st) m/\m.bind outF=some fr):
  FnOk P w K mg base CX0 (k+1) f fd ps (FSp K ms rm Fs):=by
 obtain⟨oc,od,kV,doc,pm,an,cdv,ct,osl,rfl,lk,hcd⟩:=F.ex
 refine fn_of lk hcd S (fun vs H Q E ⟨O,ds,fr,e,g,a,_⟩=>a.len.1.trans hl) (fun A outer s H vs Q E hr ⟨O,ds,fr,e,g,a,ef,q⟩=> ?_)
 obtain⟨hv,hd⟩:=a.len
 obtain⟨m,hb,hm⟩:=h cdv A outer s H vs E rfl hr hv ds fr hd ef
 refine⟨_,PSs.nox hb,?_⟩
 obtain⟨o,e1,e2⟩:=bind1 hm
 have hs:L2.start N vs=vs.map some++List.replicate n none:=by
  unfold L2.start
  rw[show N.length -vs.length=n by omega]
 rw[hs]
 refine⟨O,O.G0,o,⟨O.L0,g,m7 a⟩,e1,?_⟩
 cases o with
 |nx a=>exact a.elim
 |bk a=>exact a.elim
 |ct a=>exact a.elim
 |ret d os=>
  cases e2
  exact fun v H' G' r=>⟨q v H' G' r,fun _ ev σ=>by subst ev;exact q _ H' G' r⟩
 |exc x=>
  cases e2
  exact fun c od H' G' r=>q c od H' G' r
theorem cJ {x qual:Str} {st:Stmt} {f:Addr} {fd:FuncData} {N ps:List Str} {k n:Nat} {ms:List PM} {rm:VM} {Fs:List D->Option FR} (F:Fun K x qual st f fd) (S:FnScope N ps (defScope st)) (hl:ms.length=ps.length) (hn:N.length=ps.length+n)
  (h: ∀(cdv:Value) (A:Around) (outer:List Env) (s:Shared) (H:Hp) (vs:List V) (E:XK),Room k (A.deeper (envOfC qual (defScope st) s.heap.objs.size f cdv))->vs.length=ms.length-> ∀ds fr,ds.length=ms.length->Fs ds=some fr→
   ∃m,Blk (cxT P w K mg base N qual (defScope st) f cdv A outer s H E) (fnX rm (bq ms vs) E) (tZ ms vs++List.replicate n .fz) (ds.map some++List.replicate n none) (defBody st) m/\m.bind outF=some fr):
  FnOk P w K mg base CX0 (k+1) f fd ps (FSp K ms rm Fs):=
 EV F S hl hn fun cdv A outer s H vs E _=>h cdv A outer s H vs E
end
def FR.val:FR->Option D
 | .ok d []=>some d
 |_=>none
def fn0 (f:Option FR):List D->Option FR
 | []=>f
 |_=>none
def fn1 (f:D->Option FR):List D->Option FR
 | [a]=>f a
 |_=>none
def fn2 (f:D->D->Option FR):List D->Option FR
 | [a,b]=>f a b
 |_=>none
def fn3 (f:D->D->D->Option FR):List D->Option FR
 | [a,b,c]=>f a b c
 |_=>none
def fn4 (f:D->D->D->D->Option FR):List D->Option FR
 | [a,b,c,d]=>f a b c d
 |_=>none
def fn5 (f:D->D->D->D->D->Option FR):List D->Option FR
 | [a,b,c,d,e]=>f a b c d e
 |_=>none
def fn6 (f:D->D->D->D->D->D->Option FR):List D->Option FR
 | [a,b,c,d,e,g]=>f a b c d e g
 |_=>none
mutual
theorem Rep.dom {K:Frg} {S:Sa} {H:Hp}: ∀(d:D) (v:V),Rep K S H d v->Rep K (fun p=>S p/\H p≠none) H d v
 | .non,_,h=>h
 | .bl _,_,h=>h
 | .int _,_,h=>h
 | .str _,_,h=>h
 | .fn _,_,h=>h
 | .glf _,_,h=>h
 | .clo F d,v,h=>by
  unfold Rep at h⊢
  obtain⟨f,c',c,lo,w,e,⟨s1,h1⟩,⟨s2,h2⟩,⟨s3,h3⟩,l,r⟩:=h
  exact⟨f,c',c,lo,w,e,⟨⟨s1,by rw[h1];simp⟩,h1⟩,⟨⟨s2,by rw[h2];simp⟩,h2⟩,⟨⟨s3,by rw[h3];simp⟩,h3⟩,l,Rep.mono (fun p s=>⟨⟨s.1.1,s.2⟩,s.1.2⟩) (fun p _=>jt.of_eq fun _ e=>e) d w (Rep.dom d w r)⟩
 | .lst ds,v,h=>by
  unfold Rep at h⊢
  obtain⟨a,vs,e,s,l,r⟩:=h
  exact⟨a,vs,e,⟨s,by rw[l];simp⟩,l,aB.dom ds vs r⟩
 | .sc ns,v,h=>by
  unfold Rep at h⊢
  obtain⟨a,e,l⟩:=h
  exact⟨a,e,l.imp (fun⟨s,r⟩=>⟨⟨s,by rcases r with r|⟨o,r⟩ <;> (rw[r];simp)⟩,r⟩) id⟩
 | .tup ds,v,h=>by
  unfold Rep at h⊢
  obtain⟨a,vs,e,l,r⟩:=h
  exact⟨a,vs,e,⟨⟨l.1,by rw[l.2];simp⟩,l.2⟩,aB.dom ds vs r⟩
 | .dct ks,v,h=>by
  unfold Rep at h⊢
  obtain⟨a,kvs,e,s,l,n,r⟩:=h
  exact⟨a,kvs,e,⟨s,by rcases l with l|⟨o,l⟩ <;> (rw[l];simp)⟩,l,n,bE.dom ks kvs r⟩
 | .dcT ks,v,h=>by
  unfold Rep at h⊢
  obtain⟨a,kvs,e,s,l,n,r⟩:=h
  exact⟨a,kvs,e,⟨s,by rcases l with l|⟨o,l⟩ <;> (rw[l];simp)⟩,l,n,fu.dom ks kvs r⟩
 | .ins C fds,v,h=>by
  unfold Rep at h⊢
  obtain⟨a,dx,fs,e,s,l,r⟩:=h
  exact⟨a,dx,fs,e,⟨s,by rw[l];simp⟩,l,fv.dom fds fs r⟩
theorem aB.dom {K:Frg} {S:Sa} {H:Hp}: ∀(ds:List D) (vs:List V),aB K S H ds vs->aB K (fun p=>S p/\H p≠none) H ds vs
 | [],_,h=>by unfold aB at h ⊢; exact h
 |d::ds,vs,h=>by
  unfold aB at h⊢
  obtain⟨v,r,e,h1,h2⟩:=h
  exact⟨v,r,e,Rep.dom d v h1,aB.dom ds r h2⟩
theorem bE.dom {K:Frg} {S:Sa} {H:Hp}: ∀(ds:List (Key×D)) (vs:List (Key×V)),bE K S H ds vs->bE K (fun p=>S p/\H p≠none) H ds vs
 | [],_,h=>by unfold bE at h ⊢; exact h
 |(k,d)::ds,vs,h=>by
  unfold bE at h⊢
  obtain⟨v,r,e,h1,h2⟩:=h
  exact⟨v,r,e,Rep.dom d v h1,bE.dom ds r h2⟩
theorem fu.dom {K:Frg} {S:Sa} {H:Hp}: ∀(ds:List (List Key×D)) (vs:List (List Key×V)),fu K S H ds vs->fu K (fun p=>S p/\H p≠none) H ds vs
 | [],_,h=>by unfold fu at h ⊢; exact h
 |(k,d)::ds,vs,h=>by
  unfold fu at h⊢
  obtain⟨v,r,e,h1,h2⟩:=h
  exact⟨v,r,e,Rep.dom d v h1,fu.dom ds r h2⟩
theorem fv.dom {K:Frg} {S:Sa} {H:Hp}: ∀(ds:List (Str×D)) (vs:List (Str×V)),fv K S H ds vs->fv K (fun p=>S p/\H p≠none) H ds vs
 | [],_,h=>by unfold fv at h ⊢; exact h
 |(k,d)::ds,vs,h=>by
  unfold fv at h⊢
  obtain⟨v,r,e,h1,h2⟩:=h
  exact⟨v,r,e,Rep.dom d v h1,fv.dom ds r h2⟩
end
end Sw
namespace Sw
open PySem PySem.Spec PyProof.Rows L2
variable [NmC]
section
variable {K:Frg} {O:Org} {H H1 H2:Hp} {G G1 G2:Sa} {Δ:List Md} {st:Ds} {σ:CS}
def Org.all (H:Hp) (G:Sa):Org:=⟨G,H,[],fun p=>H p≠none⟩
theorem lS (tb:LamX.Tabs NmC.T H) (gin: ∀p,G p->H p≠none):b8 (Org.all H G) H G []:=
 ⟨fun p b=>⟨b,by simp[Org.all]⟩,fun _ _ e _ _=>e,fun _ g=>g,fun _ g=>.inl g,gin,fun _ h=>h,List.nodup_nil,fun p m=>(nomatch m),fun _ ps e=>⟨ps,e⟩,tb⟩
theorem Cv {L:List Addr} (r:b8 (Org.all H G) H1 G1 L):Ext H G H1 G1:=
 ⟨fun p u e t=>r.frame p u e (by simp[Org.all]),r.gsub,fun p g=>by
  rcases r.gold p g with g'|n|t|m
  ·exact .inl g'
  ·exact .inr (.inl ⟨n,r.gin p g⟩)
  ·exact .inr (.inr t)
  ·exact (nomatch m),r.tl,fun _=>r.tb⟩
def GX:PM->VM->Bool
 | .bo,_=>true
 | .fz,.rg .fz=>true
 | .bl,.sp _=>true
 |_,_=>false
def lT:List PM->List VM->Bool
 | [],[]=>true
 |p::ps,m::ms=>GX p m&&lT ps ms
 |_,_=>false
theorem nY: ∀{ps:List PM} {ms:List VM} {ds:List D} {vs:List V},lT ps ms=true->jH K O H H1 G1 ms ds vs->lu K (Org.all H1 G1).B (Org.all H1 G1).G0 H1 ps ds vs []/\bq ps vs=[]
 | [],[],[],vs,_,h=>by rw[show vs=[] from h];exact⟨rfl,rfl⟩
 |p::ps,m::ms,d::ds,_,ok,⟨v,r,e,h1,h2⟩=>by
  subst e
  unfold lT at ok
  rw[Bool.and_eq_true] at ok
  obtain⟨a,b⟩:=nY ok.2 h2
  cases p with
  |bo=>exact⟨⟨[],[],⟨Rep.mono (fun p h=>h.2) au d v (Rep.dom d v h1.hb),rfl⟩,a,rfl⟩,b⟩
  |fz=>
   cases m with
   |rg r=>
    cases r with
    |fz=>exact⟨⟨[],[],⟨h1,rfl⟩,a,rfl⟩,b⟩
    |hb=>cases ok.1
    |bb=>cases ok.1
   |nw s=>cases ok.1
   |sp r=>cases ok.1
  |ow s=>cases ok.1
  |ini s=>cases ok.1
  |bl=>
   cases m with
   |rg r=>cases ok.1
   |nw s=>cases ok.1
   |sp r=>
    obtain⟨a',vs',ds',e1,e2,b',hl,rr⟩:=h1
    exact⟨⟨[],[],⟨⟨a',vs',ds',e1,e2,by rw[show (Org.all H1 G1).B=fun p=>H1 p≠none from rfl];show H1 a'≠none;rw[hl];simp,hl,rr⟩,rfl⟩,a,rfl⟩,b⟩
 | [],_::_,_,_,ok,_=>by cases ok
 |_::_,[],_,_,ok,_=>by cases ok
 | [],[],_::_,_,_,h=>h.elim
 |_::_,_::_,[],_,_,h=>h.elim
theorem nZ {rm:VM} {d:D} {os:List D} {v:V} (r:yZ K rm [] (Org.all H G) d os v H1 G1):os=[]/\Ext H G H1 G1/\ ∀O',bA K O' H H1 G1 rm d v:=by
 obtain⟨L1,L2',g,rv,p⟩:=r
 cases os with
 |cons x xs=>exact p.elim
 |nil=>
  have e2:L2'=[]:=p
  subst e2
  rw[List.append_nil] at g
  refine⟨rfl,Cv g,fun O'=> ?_⟩
  cases rm with
  |rg r=>
   cases r with
   |fz=>exact rv.1
   |hb=>exact rv.elim
   |bb=>exact rv.elim
  |nw s=>exact⟨L1,g.nd,fun p m=>⟨(g.lg p m).2.elim (fun h=>nomatch h) id,(g.lg p m).1⟩,rv⟩
  |sp r=>exact rv.elim
end
section
variable {X:Cx} {Δ:List Md} {st:Ds} {a b e o:Expr} {es:List Expr} {m ma mb rm:VM} {ra rb:Option D} {rs:Option (List D)} {pos p apos:Pos} {vms:List VM} {ps:List PM} {Fs:List D->Option FR} {k:Nat} {f:Addr} {fd:FuncData} {pn:List Str} {x:Str}
theorem call_of {H:Hp} {σ:CS} {Q:VK} (ok:lT ps vms=true) (h:rdE X.K Δ st rm (rs.bind fun ds=>(Fs ds).bind FR.val) σ H Q):tCall (FSp X.K ps rm Fs) [] E0 (rdA X.K Δ st vms rs) σ H Q:=by
 obtain⟨O,G,d,rel,er,kk⟩:=h
 obtain⟨ds,e1,e2⟩:=bind1 er
 obtain⟨fr,e3,e4⟩:=bind1 e2
 refine rdA.go rel e1 fun vs H1 G1 rel1 x1 v1=> ?_
 rw[List.append_nil]
 obtain⟨ha,hp⟩:=nY ok v1
 cases fr with
 |er x=>cases e4
 |ok d' os=>
  cases os with
  |cons x xs=>cases e4
  |nil=>
   cases e4
   refine⟨Org.all H1 G1,ds,_,rfl,lS rel1.tb rel1.gin,ha,e3,fun v H' G' r=> ?_⟩
   rw[hp] at r
   obtain⟨_,x2,hv⟩:=nZ r
   exact kk v H' G' (x1.trans x2) ((hv O).back x1)
theorem Cw (F:FnOk X.prog X.w X.K X.mg X.base CX0 k f fd pn (FSp X.K ps rm Fs)) (hr:Room k X.A) (hg:Gl X x) (hm:X.mg x=some (.ref f)) (hk:PySem.W.keepIn X.K (.ref f)=true) (hb:Binds X.K fd pn []) (ha:PAx X Δ st (e::es) vms rs) (ok:lT ps vms=true:=by rfl)
  (hdb:(x==("__debug__" :Str))=false:=by decide) (he:starEach (e::es) X.env=(false,eval e X.env)::starEach es X.env:=by rfl) (hpl:(backTo pos (starEach es X.env)).any (·.1)=false:=by rfl):
  PX X Δ st (.Call (.Name x p) (e::es) [] pos) rm (rs.bind fun ds=>(Fs ds).bind FR.val):=cD (pe_call F hr hg hm hk hb .nil pass0 ha hdb he hpl) fun σ H Q h=>call_of ok h
def VL (K:Frg) (O:Org) (H:Hp) (G:Sa):VM->D->V->List Addr->Prop
 | .rg r,d,v,L=>Rep K (rgn O G r) H d v/\L=[]
 | .nw s,d,v,L=>Own K G H s d v L
 | .sp r,d,v,L=>Spn K (rgn O G r) G H d v/\L=[]
def RelV (K:Frg) (O:Org) (Δ:List Md) (st:Ds) (σ:CS) (H:Hp) (G:Sa) (m:VM) (d:D) (v:V):Prop:= ∃L Lv,b8 O H G (Lv++L)/\Slots K O.B G H Δ st σ L/\VL K O H G m d v Lv
def rdY (K:Frg) (Δ:List Md) (st:Ds) (m:VM) (r:Option (D×Ds)):TE:=fun σ H Q=> ∃O G ds,Rel K O Δ st σ H G/\r=some ds/\ ∀v H' G',RelV K O Δ ds.2 σ H' G' m ds.1 v->Q v H'
abbrev PY (X:Cx) (Δ:List Md) (st:Ds) (e:Expr) (m:VM) (r:Option (D×Ds)):Prop:=PE X e (rdY X.K Δ st m r)
theorem Cy {K:Frg} {O:Org} {σ:CS} {H H1:Hp} {G G1:Sa} {d:D} {v:V} (rel:Rel K O Δ st σ H G) (x1:Ext H G H1 G1) (hv:bA K O H H1 G1 m d v):RelV K O Δ st σ H1 G1 m d v:=by
 obtain⟨L,g,s⟩:=rel
 have g1:=g.ext x1 s.kind (x1.gin g.gin)
 have s1:=Slots.mono (G':=G1) (H':=H1) x1.gg x1.agr x1.agr (fun p m=>x1.vh (s.kind p m)) s
 cases m with
 |rg r=>exact⟨L,[],g1,s1,hv,rfl⟩
 |nw sh=>
  obtain⟨L1,nd,f,o⟩:=hv
  exact⟨L,L1,g1.wG s1.kind (H0:=H) (fun p h=>g.back h) nd f fun p m=>(s.kind p m).ne,s1,o⟩
 |sp r=>exact⟨L,[],g1,s1,hv,rfl⟩
def rdP (K:Frg) (Δ:List Md) (st:Ds) (i:Nat) (r:Option (List Stp)):TE:=fun σ H Q=> ∃O G q,Rel K O Δ st σ H G/\r=some q/\ ∀v0 v H' G',σ[i]? =some (some v0)->Ext H G H' G'->AtP H' v0 q v->Q v H'
abbrev PPx (X:Cx) (Δ:List Md) (st:Ds) (e:Expr) (i:Nat) (r:Option (List Stp)):Prop:=PE X e (rdP X.K Δ st i r)
def Ak:Md->Option Sh
 | .ow s=>some s
 | .pn _ s=>some s
 |_=>none
theorem vw {K:Frg} {O:Org} {σ:CS} {H:Hp} {G:Sa} {i:Nat} {md:Md} {s:Sh} {d:D} (rel:Rel K O Δ st σ H G) (hm:Δ[i]? =some md) (hs:Ak md=some s) (hd:st[i]? =some (some d)): ∃v L,σ[i]? =some (some v)/\Own K G H s d v L:=by
 obtain⟨L,g,sl⟩:=rel
 obtain⟨x',y',L1,L2,ex,ey,sr,pm,f⟩:=sl.split hm
 rw[hd] at ex;cases ex
 cases md <;> first|cases hs|skip
 ·obtain⟨v,e,o⟩:=sr
  exact⟨v,L1,by rw[ey,e],o⟩
 ·exact⟨_,L1,by rw[ey,sr.1],sr.2⟩
theorem Am (i:Nat) {md:Md} {s:Sh} {d:D} (hm:Δ[i]? =some md) (hs:Ak md=some s) (hd:st[i]? =some (some d)) (hN:X.N[i]? =some x) (hv:Vis X.env.scope x) (h1:(x==("__debug__" :Str))=false:=by decide) (h2:(x==("__classdict__" :Str))=false:=by decide):
  PPx X Δ st (.Name x p) i (some []):=cD (pe_var hN hv h1 h2) fun σ H Q ⟨O,G,q,rel,er,k⟩=>by
 cases er
 obtain⟨v,L,e,o⟩:=vw rel hm hs hd
 exact⟨v,e,k v v H G e .refl rfl⟩
theorem AtP.last {H:Hp} {s:Stp} {w:V}: ∀{q:List Stp} {v:V},AtP H v (q++[s]) w-> ∃v1,AtP H v q v1/\AtP H v1 [s] w
 | [],v,h=>⟨v,rfl,h⟩
 | .ix i::q,v,⟨a,vs,y,e1,e2,e3,h⟩=>by
  obtain⟨v1,h1,h2⟩:=AtP.last h
  exact⟨v1,⟨a,vs,y,e1,e2,e3,h1⟩,h2⟩
 | .ky k::q,v,⟨a,vs,y,e1,e2,e3,h⟩=>by
  obtain⟨v1,h1,h2⟩:=AtP.last h
  exact⟨v1,⟨a,vs,y,e1,e2,e3,h1⟩,h2⟩
 | .kt k::q,v,⟨a,vs,y,e1,e2,e3,h⟩=>by
  obtain⟨v1,h1,h2⟩:=AtP.last h
  exact⟨v1,⟨a,vs,y,e1,e2,e3,h1⟩,h2⟩
 | .fd f::q,v,⟨a,C,dx,fs,y,e1,e2,e3,h⟩=>by
  obtain⟨v1,h1,h2⟩:=AtP.last h
  exact⟨v1,⟨a,C,dx,fs,y,e1,e2,e3,h1⟩,h2⟩
end
theorem s8 {α:Type} {A B C:List α} (h:(A++(B++C)).Nodup):(B++A).Nodup/\(∀x∈B++A,x∉C)/\C.Nodup:=by
 rw[List.nodup_append] at h
 obtain⟨hA,hBC,hd⟩:=h
 rw[List.nodup_append] at hBC
 obtain⟨hB,hC,hd2⟩:=hBC
 refine⟨List.nodup_append.mpr ⟨hB,hA,fun a ha b hb e=>hd b hb a (List.mem_append_left _ ha) e.symm⟩,fun x hx hc=> ?_,hC⟩
 rcases List.mem_append.mp hx with hx|hx
 ·exact hd2 x hx x hc rfl
 ·exact hd x hx x (List.mem_append_right _ hc) rfl
section
variable {K:Frg} {O:Org} {H:Hp} {G:Sa} {Δ:List Md} {st:Ds} {σ:CS} {i:Nat} {md:Md} {s s':Sh} {d d':D} {q:List Stp} {v0 v:V} {L Lv:List Addr}
theorem EW (g:b8 O H G (Lv++L)) (sl:Slots K O.B G H Δ st σ L) (hm:Δ[i]? =some md) (hs:Ak md=some s) (hd:st[i]? =some (some d)) (e0:σ[i]? =some (some v0)) (at1:AtP H v0 q v) (hs':shP s q=some s') (hd':lM d q=some d'):
  ∃L1 Lr,Own K G H s' d' v L1/\(Lv++L).Perm (Lv++(L1++Lr))/\ ∀(a:Addr) (o:HO) (d'':D) (L1' Lv':List Addr),a∈L1->(L1'++Lv').Nodup->(∀p∈L1'++Lv',p∈L1\/p∈Lv)->Own K G (upd H a o) s' d'' v L1'→
   ∃L',b8 O (upd H a o) G (Lv'++L')/\Slots K O.B G (upd H a o) Δ (st.set i (some (g6 d q d''))) σ L'/\ ∀p∈Lv',p≠a->(upd H a o) p=H p:=by
 obtain⟨x',y',L1,L2',ex,ey,sr,pm,f⟩:=sl.split hm
 rw[hd] at ex;cases ex
 have hv:y'=some v0:=by
  rw[ey] at e0;exact Option.some.inj e0
 subst hv
 have ho:Own K G H s d v0 L1:=by
  cases md <;> first|cases hs|skip
  ·obtain⟨w,e,o⟩:=sr
   cases e;exact o
  ·obtain⟨e,o⟩:=sr
   cases e;exact o
 obtain⟨v',N1,N2,at2,o1,pn,f2⟩:=ho.place q hs' hd'
 have:=at2.inj at1
 subst this
 have pL:L.Perm (N1++(N2++L2')):=by
  have:=pm.trans (pn.append_right L2')
  rwa[List.append_assoc] at this
 have pAll:(Lv++L).Perm (Lv++(N1++(N2++L2'))):=List.Perm.append_left Lv pL
 refine⟨N1,N2++L2',o1,pAll,fun a o d'' L1' Lv' ha nd' sub own'=> ?_⟩
 have gp:=g.perm pAll
 obtain⟨nd1,dis,ndC⟩:=s8 gp.nd
 have haL:a∈Lv++L:=pAll.mem_iff.mpr (List.mem_append_right _ (List.mem_append_left _ ha))
 have nGa: ¬G a:=(g.lg a haL).1
 have nBa: ¬O.B a:=fun b=>(g.lg a haL).2.elim (g.bin a b).2 (g.bin a b).1
 have agG:Agr G H (upd H a o):=fun p gp=>jt.of_eq fun u e=>by rw[upd_ne (fun z=>by subst z;exact nGa gp)];exact e
 have agB:Agr O.B H (upd H a o):=fun p gp=>jt.of_eq fun u e=>by rw[upd_ne (fun z=>by subst z;exact nBa gp)];exact e
 have out: ∀p∈N2++L2',(upd H a o) p=H p:=fun p hp=>upd_ne fun z=>by subst z;exact dis p (List.mem_append_left _ ha) hp
 obtain⟨L3,p3,o3⟩:=f2 G (upd H a o) d'' L1' (fun _ g=>g) agG (fun p hp=>out p (List.mem_append_left _ hp)) own'
 have sr':ju K O.B G (upd H a o) md (some (g6 d q d'')) (some v0) L3:=by
  cases md <;> first|cases hs|skip
  ·exact⟨v0,rfl,o3⟩
  ·obtain⟨e,_⟩:=sr
   cases e
   exact⟨rfl,o3⟩
 obtain⟨L4,p4,s4⟩:=f G (upd H a o) md (some (g6 d q d'')) (some v0) L3 (fun _ g=>g) agG agB (fun p hp=>out p (List.mem_append_right _ hp)) sr'
 rw[f9 hm,f9 ey] at s4
 have p5:(Lv'++L4).Perm ((L1'++Lv')++(N2++L2')):=by
  have h1:L4.Perm (L1'++(N2++L2')):=by
   have:=p4.trans (p3.append_right L2')
   rwa[List.append_assoc] at this
  refine (List.Perm.append_left Lv' h1).trans ?_
  rw[<-List.append_assoc]
  exact List.Perm.append_right _ List.perm_append_comm
 have hk:Ndd H a:=Own.kind _ _ _ _ o1 a ha
 refine⟨L4,b8.perm ⟨g.bin,fun p u e n t=> ?_,g.gsub,g.gold,fun p gp=> ?_,fun p h=> ?_,?_,fun p m=> ?_,fun p ps e=>z0 (.inl hk) (g.tl p ps e),vi (.inl hk) g.tb⟩ p5.symm,s4,fun p hp hne=>upd_ne hne⟩
 ·have hne:p≠a:=fun z=>by
   subst z
   exact (g.lg p haL).2.elim n fun h=>by rw[h] at e;cases e
  rw[upd_ne hne];exact g.frame p u e n
 ·by_cases hp:p=a
  ·subst hp;exact absurd gp nGa
  ·rw[upd_ne hp];exact g.gin p gp
 ·by_cases hp:p=a
  ·subst hp;rw[upd_same];simp
  ·rw[upd_ne hp];exact g.dom p h
 ·rw[List.nodup_append]
  refine⟨nd',ndC,fun x hx y hy e=> ?_⟩
  subst e
  rcases sub x hx with h|h
  ·exact dis x (List.mem_append_left _ h) hy
  ·exact dis x (List.mem_append_right _ h) hy
 ·have:p∈Lv++L:=by
   rcases List.mem_append.mp m with m|m
   ·rcases sub p m with h|h
    ·exact pAll.mem_iff.mpr (List.mem_append_right _ (List.mem_append_left _ h))
    ·exact List.mem_append_left _ h
   ·exact pAll.mem_iff.mpr (List.mem_append_right _ (List.mem_append_right _ m))
  exact g.lg p this
theorem vx {R:D->V->List Addr->Prop} {d1:D} {v1:V} {Lv:List Addr} (h1:R d1 v1 Lv): ∀{ds:List D} {vs:List V} {L:List Addr},fx R ds vs L->fx R (ds++[d1]) (vs++[v1]) (L++Lv)
 | [],_,_,o=>by
  rw[o.1,o.2]
  exact⟨v1,[],Lv,[],rfl,h1,⟨rfl,rfl⟩,by simp⟩
 |d::ds,_,_,⟨v,r,L1,L2,e1,o1,o2,e2⟩=>by
  subst e1;subst e2
  exact⟨v,r++[v1],L1,L2++Lv,rfl,o1,vx h1 o2,by rw[List.append_assoc]⟩
end
def shV:VM->Option Sh
 | .rg .fz=>some .fz
 | .nw s=>some s
 |_=>none
theorem EX {K:Frg} {O:Org} {H:Hp} {G:Sa} {m:VM} {s:Sh} {d:D} {v:V} {L:List Addr} (h:shV m=some s) (hv:VL K O H G m d v L):Own K G H s d v L:=by
 cases m with
 |rg r=>
  cases r <;> first|cases h|skip
  unfold Own
  exact hv
 |nw s'=>cases h;exact hv
 |sp r=>cases h
section
variable {X:Cx} {Δ:List Md} {st:Ds} {a b e o:Expr} {es:List Expr} {m ma mb:VM} {ra rb:Option D} {pos apos:Pos} {i:Nat} {md:Md} {s s' s'':Sh} {d:D} {rp:Option (List Stp)}
def D.app (x:D) (e:D):Option (D×D):=match x with
 | .lst ds=>if ds.length<sizeLine then some (.non,.lst (ds++[e])) else none
 |_=>none
def An (st:Ds) (i:Nat) (d:D) (q:List Stp) (f:D->Option (D×D)):Option (D×Ds):=(lM d q).bind fun d'=>(f d').bind fun r=>some (r.1,st.set i (some (g6 d q r.2)))
theorem s9 (hm:Δ[i]? =some md) (hs:Ak md=some s) (hd:st[i]? =some (some d)) (ho:PPx X Δ st o i rp) (hsh: ∀q,rp=some q->shP s q=some (.ls s'')) (he:PX X Δ st e m ra) (hv:shV m=some s'')
  (hbase:attributeBase o "append" X.env (eval o X.env)=eval o X.env:=by rfl)
  (hfew:((backTo pos (starEach [e] X.env)).all (fun x=> !x.1)&&(backToKw pos (keywordEach [] X.env)).all (fun x=>x.1.isSome)&&decide ([e].length+([]:List Keyword).length+(if ([]:List Keyword).isEmpty then 0 else 1)<30))=true:=by rfl)
  (hline:(apos.endLine==pos.line)=true:=by rfl) (hse:starEach [e] X.env=(false,eval e X.env)::starEach [] X.env:=by rfl):
  PY X Δ st (.Call (.Attribute o "append" apos) [e] [] pos) (.rg .fz) (rp.bind fun q=>ra.bind fun x=>An st i d q fun d'=>D.app d' x):=
 cD (pe_bm PySem.F.plainAttrs_list PySem.F.slot_list_append PySem.F.type_list_append mt_append ho (pa_cons he pa_nil hse) hbase hfew hline hse) fun σ H Q ⟨O,G,ds,rel,er,k⟩=>by
  obtain⟨q,x,e1,e2,e3⟩:=cq er
  obtain⟨d',e4,e5⟩:=bind1 e3
  obtain⟨r,e6,e7⟩:=bind1 e5
  cases e7
  have hsq:=hsh q e1
  refine⟨O,G,q,rel,e1,fun v0 v H1 G1 ev0 x1 at1=> ?_⟩
  have rel1:=rel.ext x1
  have hty: ∃l vs,v= .ref l/\H1 l=some (.lst vs):=by
   obtain⟨v0',L,e8,ow⟩:=vw rel1 hm hs hd
   rw[ev0] at e8;cases e8
   obtain⟨v',L1,L2',at2,o1,_⟩:=ow.place _ hsq e4
   have:=at2.inj at1
   subst this
   unfold Own at o1
   obtain⟨l,vs,ds',L',_,ev,hl,_⟩:=o1
   exact⟨l,vs,ev,hl⟩
  obtain⟨l,vs,rfl,hl⟩:=hty
  refine⟨.inl ⟨rfl,vs,SqL.of hl⟩,rdE.go rel1 e2 fun w H2 G2 rel2 x2 v2=> ?_⟩
  obtain⟨L,Lv,g,sl,vl⟩:=Cy rel1 x2 v2
  obtain⟨L1,Lr,o1,pa,f⟩:=EW g sl hm hs hd ev0 (at1.mono x2.hx) hsq e4
  unfold Own at o1
  obtain⟨l',vs',ds',L',rfl,ev,hl',ol,rfl⟩:=o1
  cases ev
  obtain⟨hz,rfl⟩:=aH (show (if ds'.length<sizeLine then some (D.non,D.lst (ds'++[x])) else none)=some r from e6)
  have nd:=(s8 (g.perm pa).nd).1
  have ow:=EX hv vl
  obtain⟨L3,g3,s3,_⟩:=f l (.lst (vs'++[w])) (.lst (ds'++[x])) (l::(L'++Lv)) [] List.mem_cons_self (by rw[List.append_nil];exact nd) (fun p hp=>by
    rw[List.append_nil] at hp
    rcases List.mem_cons.mp hp with rfl|hp
    ·exact .inl List.mem_cons_self
    ·rcases List.mem_append.mp hp with hp|hp
     ·exact .inl (List.mem_cons_of_mem _ hp)
     ·exact .inr hp) (by
    have nl: ∀p∈L'++Lv,p≠l:=fun p hp z=>by
     subst z
     rw[List.cons_append,List.nodup_cons] at nd
     exact nd.1 hp
    have nG: ¬G2 l:=(g.lg l (pa.mem_iff.mpr (List.mem_append_right _ (List.mem_append_left _ List.mem_cons_self)))).1
    have ag:Agr G2 H2 (upd H2 l (.lst (vs'++[w]))):=fun p gp=>jt.of_eq fun u e=>by rw[upd_ne (fun z=>by subst z;exact nG gp)];exact e
    unfold Own
    refine⟨l,vs'++[w],ds'++[x],L'++Lv,rfl,rfl,upd_same,vx ?_ (fx.mono (P:=fun p=>p∈L') (fun d v M hM o=>Own.mono (fun _ g=>g) ag s'' d v M (fun p hp=>upd_ne (nl p (List.mem_append_left _ (hM p hp)))) o) ds' vs' L' (fun _ h=>h) ol),rfl⟩
    exact Own.mono (fun _ g=>g) ag s'' x w Lv (fun p hp=>upd_ne (nl p (List.mem_append_right _ hp))) ow)
  refine⟨l,vs',w,rfl,rfl,hl',by rw[ol.length];exact hz,k .non _ G2 ⟨L3,[],g3,s3,by unfold VL;exact⟨by unfold Rep;rfl,rfl⟩⟩⟩
end
end Sw
namespace Sw
open PySem PySem.Spec PyProof.Rows L2
variable [NmC]
section
variable {K:Frg} {O:Org} {H H1:Hp} {G G1:Sa} {Δ:List Md} {st:Ds} {σ:CS} {i:Nat} {md:Md} {m:VM} {d:D} {v:V}
theorem VL.kind {L:List Addr} (h:VL K O H G m d v L): ∀p∈L,Ndd H p:=by
 cases m with
 |rg r=>intro p m;rw[h.2] at m;cases m
 |nw s=>exact Own.kind s d v L h
 |sp r=>intro p m;rw[h.2] at m;cases m
theorem RelV.rel (r:RelV K O Δ st σ H G m d v):Rel K O Δ st σ H G:=by
 obtain⟨L,Lv,g,s,vl⟩:=r
 exact⟨L,g.sub (List.sublist_append_right _ _),s⟩
theorem RelV.set (r:RelV K O Δ st σ H G m d v) (hi:i<Δ.length) (hm:z8 m=some md):Rel K O (Δ.set i md) (st.set i (some d)) (σ.set i (some v)) H G:=by
 obtain⟨L,Lv,g,s,vl⟩:=r
 obtain⟨x',y',L1,L2,ex,ey,sr,pm,f⟩:=s.split (List.getElem?_eq_getElem hi)
 have base:b8 O H G (Lv++L2):=(g.perm (List.Perm.append_left Lv pm)).sub (List.Sublist.append (List.Sublist.refl _) (List.sublist_append_right _ _))
 cases m with
 |rg r=>
  cases r with
  |hb=>cases hm
  |bb=>
   cases hm
   obtain⟨L',pm',s'⟩:=f G H .bo (some d) (some v) [] (fun _ g=>g) au au (fun _ _=>rfl) ⟨v,rfl,vl.1,rfl⟩
   exact⟨L',(base.sub (List.sublist_append_right _ _)).perm pm'.symm,s'⟩
  |fz=>
   cases hm
   obtain⟨L',pm',s'⟩:=f G H .fz (some d) (some v) [] (fun _ g=>g) au au (fun _ _=>rfl) ⟨v,rfl,vl.1,rfl⟩
   exact⟨L',(base.sub (List.sublist_append_right _ _)).perm pm'.symm,s'⟩
 |nw sh=>
  cases hm
  obtain⟨L',pm',s'⟩:=f G H (.ow sh) (some d) (some v) Lv (fun _ g=>g) au au (fun _ _=>rfl) ⟨v,rfl,vl⟩
  exact⟨L',base.perm pm'.symm,s'⟩
 |sp r=>
  cases r <;> first|(cases hm;done)|skip
  cases hm
  obtain⟨L',pm',s'⟩:=f G H .bl (some d) (some v) [] (fun _ g=>g) au au (fun _ _=>rfl) ⟨v,rfl,vl.1,rfl⟩
  exact⟨L',(base.sub (List.sublist_append_right _ _)).perm pm'.symm,s'⟩
end
def Cz (f:List D->List D->Option (D×List D)) (xs:List D):D->Option (D×D)
 | .lst ds=>(f ds xs).map fun r=>(r.1,.lst r.2)
 |_=>none
end Sw
namespace Sw
open PySem PySem.Spec PyProof.Rows L2
variable [NmC]
def Ao:List Nat->List D->Ds->Ds
 |i::is,d::ds,st=>Ao is ds (st.set i (some d))
 |_,_,st=>st
inductive wJ (Δ:List Md) (st:Ds):List Nat->List Sh->List D->Prop where
 |nil:wJ Δ st [] [] []
 |cons {i:Nat} {is:List Nat} {md:Md} {s:Sh} {ss:List Sh} {d:D} {ds:List D}:Δ[i]? =some md->Ak md=some s->st[i]? =some (some d)->i∉is->wJ Δ st is ss ds->wJ Δ st (i::is) (s::ss) (d::ds)
theorem za {i:Nat} {y:Option D}: ∀{is:List Nat} {ds:List D} {st:Ds},i∉is->Ao is ds (st.set i y)=(Ao is ds st).set i y
 | [],_,_,_=>rfl
 |j::is,[],_,_=>rfl
 |j::is,d::ds,st,h=>by
  simp only[List.mem_cons,not_or] at h
  show Ao is ds ((st.set i y).set j (some d))=_
  rw[List.set_comm _ _ h.1,za h.2]
  rfl
theorem wJ.drop {Δ:List Md} {st:Ds} {i:Nat} {y:Option D}: ∀{is:List Nat} {ss:List Sh} {ds:List D},i∉is->wJ Δ st is ss ds->wJ Δ (st.set i y) is ss ds
 |_,_,_,_,.nil=>.nil
 |_,_,_,h,.cons h1 h2 h3 h4 h5=>by
  simp only[List.mem_cons,not_or] at h
  exact .cons h1 h2 (by rw[List.getElem?_set_ne h.1];exact h3) h4 (wJ.drop h.2 h5)
section
variable {K:Frg} {B G:Sa} {H:Hp}
theorem sC.kind: ∀{ps:List (V×Sh)} {ds:List D} {L:List Addr},sC K G H ps ds L-> ∀p∈L,Ndd H p
 | [],[],_,h,p,m=>by rw[show _=[] from h] at m;cases m
 |(v,s)::ps,d::ds,_,⟨L1,L2,o1,o2,e⟩,p,m=>by
  subst e
  rcases List.mem_append.mp m with m|m
  ·exact Own.kind s d v L1 o1 p m
  ·exact sC.kind o2 p m
 | [],_::_,_,h,_,_=>h.elim
 |_::_,[],_,h,_,_=>h.elim
theorem b8.nX {O:Org} {B':Sa} {H1 H2:Hp} {G1 G2:Sa} {Ll Lr Lx:List Addr} (r:b8 O H1 G1 (Ll++Lr)) (hk: ∀p∈Lr,Ndd H1 p) (q:b8 ⟨G1,H1,Ll,B'⟩ H2 G2 Lx):b8 O H2 G2 (Lx++Lr)/\ ∀p∈Lr,H2 p=H1 p:=by
 have dis:=List.nodup_append.mp r.nd
 have keep: ∀p∈Lr,H2 p=H1 p:=fun p m=>by
  obtain⟨u,e,nn⟩:=hk p m
  rw[e]
  exact q.frame p u e (fun h=>dis.2.2 p h p m rfl) nn.nt
 refine⟨⟨r.bin,fun p u e n t=> ?_,fun p g=>q.gsub p (r.gsub p g),fun p g=> ?_,q.gin,fun p h=>q.dom p (r.dom p h),?_,fun p m=> ?_,fun p ps e=>(by
  obtain⟨ps1,e1⟩:=r.tl p ps e
  exact q.tl p ps1 e1),q.tb⟩,keep⟩
 ·exact q.frame p u (r.frame p u e n) fun m=>(r.lg p (List.mem_append_left _ m)).2.elim n fun z=>by rw[z] at e;cases e
 ·rcases q.gold p g with g|n|⟨xs,t⟩|m
  ·exact r.gold p g
  ·exact .inr (.inl (r.back n))
  ·rcases r.was (show H1 p=some (imm xs) from t) (oP _) with e|e|e
   ·exact .inr (.inr (.inl ⟨xs,e⟩))
   ·exact .inr (.inl e)
   ·exact .inr (.inr (.inr e))
  ·rcases (r.lg p (List.mem_append_left _ m)).2 with h|h
   ·exact .inr (.inr (.inr h))
   ·exact .inr (.inl h)
 ·rw[List.nodup_append]
  refine⟨q.nd,dis.2.1,fun x hx y hy e=> ?_⟩
  subst e
  rcases (q.lg x hx).2 with h|h
  ·exact dis.2.2 x h x hy rfl
  ·exact (hk x hy).ne h
 ·rcases List.mem_append.mp m with m|m
  ·refine⟨(q.lg p m).1,?_⟩
   rcases (q.lg p m).2 with h|h
   ·exact (r.lg p (List.mem_append_left _ h)).2
   ·exact .inr (r.back h)
  ·refine⟨fun g=> ?_,(r.lg p (List.mem_append_right _ m)).2⟩
   rcases q.gold p g with g|n|⟨xs,t⟩|h
   ·exact (r.lg p (List.mem_append_right _ m)).1 g
   ·exact (hk p m).ne n
   ·exact (hk p m).zY t
   ·exact dis.2.2 p h p m rfl
end
inductive AS where
 |pv (m:VM)|ln (i:Nat)
section
variable {X:Cx} {Δ:List Md} {st:Ds} {a b e o:Expr} {es:List Expr} {m ma mb rm:VM} {ra rb:Option D} {rs:Option (List D)} {pos p apos:Pos} {as:List AS} {ps:List PM} {Fs:List D->Option FR} {k:Nat} {f:Addr} {fd:FuncData} {pn:List Str} {x:Str}
def FR.out (st:Ds) (is:List Nat):FR->Option (D×Ds)
 | .ok d os=>if os.length=is.length then some (d,Ao is os st) else none
 |_=>none
end
def D.put (d:D) (k:Key) (x:D):Option D:=match d with
 | .dct ks=>if ks.length<sizeLine then some (.dct (bH ks k x)) else none
 |_=>none
end Sw
namespace Sw
open PySem PySem.Spec PyProof.Rows L2
variable [NmC]
def b1 {α β:Type} (f:α->Option β) (a:Option α):Option β:=a.bind f
def b2 {α β γ:Type} (f:α->β->Option γ) (a:Option α) (b:Option β):Option γ:=a.bind fun x=>b.bind fun y=>f x y
def aj (a:Option D) (r:Option (List D)):Option (List D):=a.bind fun x=>r.bind fun xs=>some (x::xs)
def aM:Option (List D):=some []
def aT (Fs:List D->Option FR) (rs:Option (List D)):Option D:=rs.bind fun ds=>(Fs ds).bind FR.val
def do1 (d:D) (q:List Stp) (f:D->Option (D×D)):Option (D×D):=(lM d q).bind fun d'=>(f d').bind fun r=>some (r.1,g6 d q r.2)
def FR.EY:FR->Option (D×D)
 | .ok d [o]=>some (d,o)
 |_=>none
def FR.EZ:FR->Option (D×D×D)
 | .ok d [o,p]=>some (d,o,p)
 |_=>none
def GY (Fs:List D->Option FR) (rs:Option (List D)):Option (D×D):=rs.bind fun ds=>(Fs ds).bind FR.EY
def call2 (Fs:List D->Option FR) (rs:Option (List D)):Option (D×D×D):=rs.bind fun ds=>(Fs ds).bind FR.EZ
abbrev PY1 (X:Cx) (Δ:List Md) (st:Ds) (e:Expr) (m:VM) (i:Nat) (r:Option (D×D)):Prop:=PY X Δ st e m (r.bind fun d=>some (d.1,st.set i (some d.2)))
section
variable {X:Cx} {Δ:List Md} {st:Ds} {e:Expr} {m:VM} {i j:Nat}
theorem CA (d:D) (q:List Stp) (f:D->Option (D×D)):An st i d q f=(do1 d q f).bind fun d=>some (d.1,st.set i (some d.2)):=by
 unfold An do1
 cases lM d q with
 |none=>rfl
 |some d'=>
  show (f d').bind _=((f d').bind _).bind _
  cases f d' <;> rfl
theorem ye {α β:Type} {d:D} {a:Option α} {b:Option β} {q:α->List Stp} {f:α->β->D->Option (D×D)} (h:PY X Δ st e m (a.bind fun x=>b.bind fun y=>An st i d (q x) (f x y))):PY1 X Δ st e m i (a.bind fun x=>b.bind fun y=>do1 d (q x) (f x y)):=by
 have e1:(a.bind fun x=>b.bind fun y=>An st i d (q x) (f x y))=((a.bind fun x=>b.bind fun y=>do1 d (q x) (f x y)).bind fun d=>some (d.1,st.set i (some d.2))):=by
  cases a with
  |none=>rfl
  |some x=>cases b with
   |none=>rfl
   |some y=>exact CA _ _ _
 rw[e1] at h;exact h
end
section
variable {α β:Type} {X:Cx} {E:Exits α β} {Δ:List Md} {st:Ds} {rest:List Stmt} {e:Expr} {m:VM} {pos:Pos} {i j k:Nat}
theorem Ia (i0:Nat) {x:Str} {p':Pos} {md:Md} {r:Option (D×D)} {k:D×D->Option (Out α β)} (he:PY1 X Δ st e m i r) (hm:z8 m=some md) (hi:i0<Δ.length) (hnd:X.N.Nodup) (hN:X.N[i0]? =some x) (hx:Loc X.env.scope x)
  (h: ∀d:D×D,Blk X E (Δ.set i0 md) ((st.set i (some d.2)).set i0 (some d.1)) rest (k d)) (hs:swapsWith e (some (.Name x p')) pos.line X.env=pure false:=by rfl) (hf:X.fn x=true\/X.env.scope.names.lookup x=some .local:=by first|exact .inl rfl|exact .inr rfl|assumption):
  Blk X E Δ st (.Assign [.Name x p'] e pos::rest) (r.bind k):=
 g7 (pss_cons (ps_set hnd hN hx he hs hf) (gc h)) fun De σ H ⟨O,G,q,rel,er,kk⟩=>by
  obtain⟨d,e1,e2⟩:=bind1 er
  exact⟨O,G,_,rel,by rw[e1];rfl,fun v H1 G1 rv=>⟨d,O,G1,q,rv.set hi hm,e2,kk⟩⟩
theorem Ap {r:Option (D×D)} {k:D×D->Option (Out α β)} (he:PY1 X Δ st e m i r) (h: ∀d:D×D,Blk X E Δ (st.set i (some d.2)) rest (k d)) (hs:swapsWith e none pos.line X.env=pure false:=by rfl):Blk X E Δ st (.Expr e pos::rest) (r.bind k):=
 g7 (pss_cons (ps_expr he hs) (gc h)) fun De σ H ⟨O,G,q,rel,er,kk⟩=>by
  obtain⟨d,e1,e2⟩:=bind1 er
  exact⟨O,G,_,rel,by rw[e1];rfl,fun v H1 G1 rv=>⟨d,O,G1,q,rv.rel,e2,kk⟩⟩
theorem zd (i:Nat) {s:Sh} {ss:List Stmt} {r:Option (Out α β)} (hm:Δ[i]? =some (.ow s)) (h:Blk X E (Δ.set i .fz) st ss r):Blk X E Δ st ss r:=
 g7 h fun De σ H ⟨O,G,q,⟨L,g,sl⟩,er,kk⟩=>by
  obtain⟨x',y',L1,L2',ex,ey,sr,pm,f⟩:=sl.split hm
  cases x' with
  |none=>
   obtain⟨L',pm',s'⟩:=f G H .fz none y' [] (fun _ g=>g) au au (fun _ _=>rfl) ju.none
   rw[f9 ex,f9 ey] at s'
   exact⟨O,G,q,⟨L',((g.perm pm).sub (List.sublist_append_right _ _)).perm pm'.symm,s'⟩,er,kk⟩
  |some d=>
   obtain⟨v,rfl,ow⟩:=sr
   have gp:=g.perm pm
   obtain⟨L',pm',s'⟩:=f (fun p=>G p\/p∈L1) H .fz (some d) (some v) [] (fun _ g=>.inl g) au au (fun _ _=>rfl) ⟨v,rfl,Own.rep _ _ _ _ ow,rfl⟩
   rw[f9 ex,f9 ey] at s'
   have pe:L'.Perm L2':=by simpa using pm'
   refine⟨O,_,q,⟨L',b8.perm ⟨g.bin,g.fr0,fun p h=>.inl (g.gsub p h),fun p h=> ?_,fun p h=> ?_,g.dom,(List.nodup_append.mp gp.nd).2.1,fun p m=>⟨fun h=> ?_,(gp.lg p (List.mem_append_right _ m)).2⟩,g.tl,g.tb⟩ pe.symm,s'⟩,er,kk⟩
   ·rcases h with h|h
    ·exact g.gold p h
    ·rcases (gp.lg p (List.mem_append_left _ h)).2 with h|h
     ·exact .inr (.inr (.inr h))
     ·exact .inr (.inl h)
   ·rcases h with h|h
    ·exact g.gin p h
    ·exact (Own.kind _ _ _ _ ow p h).ne
   ·rcases h with h|h
    ·exact (gp.lg p (List.mem_append_right _ m)).1 h
    ·exact (List.nodup_append.mp gp.nd).2.2 p h p m rfl
theorem Aq {δ:Type} {elt tg iter:Expr} {ifs:List Expr} {scope:Scope} {own:List (Str×Nat)} {g:TG} {rg:Rg} {IR:Sa->Hp->δ->V->Prop} {rI:Option (List δ)} {uM:List Md->List Md} {uS:δ->Ds->Ds} {is:List Nat} {rt:δ->Option Bool} {re:δ->Option D} {spos:Pos} {y:Str} {py:Pos} {k:D->Option (Out α β)}
  (i:Nat) (hc:X.calm=true) (hN:X.N.Nodup) (hy:X.N[i]? =some y) (hi0:i<Δ.length) (hyl:X.env.scope.names.lookup y=some .local) (hsw:swapsWith (.ListComp elt [⟨tg,iter,ifs,0⟩] scope pos) (some (.Name y py)) spos.line X.env=pure true)
  (hi:PIx X Δ st tg iter rg IR rI) (him:jR IR) (hr:rg≠ .hb) (ok:BlkOk X.N X.env.scope scope own) (hw: ∀v∈own.map (·.2),st[v]? =some none) (his: ∀i∈is,i∈own.map (·.2))
  (hg: ∀(s:Shared) (H:Hp) (C:Addr) (cl:List (Str×Addr)) (fp:List Addr),PG (X.blk s H scope (compEnvC scope cl C X.env) fp) tg g) (htg:sD X.K g rg IR uM uS Δ.length is)
  (ht: ∀(s:Shared) (H:Hp) (C:Addr) (cl:List (Str×Addr)) (fp:List Addr) (d:δ),PTs (X.blk s H scope (compEnvC scope cl C X.env) fp) ifs (rdT X.K (uM Δ) (uS d st) (rt d)))
  (he: ∀(s:Shared) (H:Hp) (C:Addr) (cl:List (Str×Addr)) (fp:List Addr) (d:δ),PE (X.blk s H scope (compEnvC scope cl C X.env) fp) elt (rdE X.K (uM Δ) (uS d st) (.rg .fz) (re d)))
  (h: ∀d,Blk X E (Δ.set i (.ow (.ls .fz))) (st.set i (some d)) rest (k d)) (hs: ∀x,foldedSetIterable iter X.env x=pure x:=by intro _;rfl):
  Blk X E Δ st (.Assign [.Name y py] (.ListComp elt [⟨tg,iter,ifs,0⟩] scope pos) spos::rest) ((rI.bind fun ds=>rz rt re ds).bind k):=
 g7 (pss_cons (ps_setLc hc hN hy hyl hsw hi ok hg (fun s H C cl fp=>Ai fun d=>ht s H C cl fp d) (fun s H C cl fp=>D7 fun d=>he s H C cl fp d) hs) (gc h)) fun De σ H ⟨O,G,q,rel,er,kk⟩=>by
  obtain⟨d,e1,e2⟩:=bind1 er
  refine Aj (Q:=fun x H1=>gName i x σ H1 fun σ' H'=> ∃a,rdS X.K E (Δ.set i (.ow (.ls .fz))) (List.set st i (some a)) (k a) De σ' H') him hw his htg (rdE.go rel e1 fun v H1 G1 rel1 x1 v1=>⟨d,O,G1,q,rel.lQ x1 hi0 rfl v1,e2,kk⟩)
end
end Sw
namespace Sw
open PySem PySem.Spec PyProof.Rows L2
variable [NmC]
section
variable {α β γ δ:Type}
def ifO (rc:Option Bool) (mA mB:Option (Out γ β)) (k:γ->Option (Out α β)):Option (Out α β):=rc.bind fun c=>(if c=true then mA else mB).bind (sqO k)
def oY (rI:Option (List δ)) (step:γ->δ->Option (Out γ γ)) (b0:γ) (k:γ->Option (Out α β)):Option (Out α β):=rI.bind fun ds=>(forL step ds b0).bind (sqF k)
noncomputable def whO (tst:γ->Option Bool) (step:γ->Option (Out γ γ)) (b0:γ) (k:γ->Option (Out α β)):Option (Out α β):=(whL tst step b0).bind (sqF k)
def cR (r:Option D) (os:List D):Option (Out α β):=r.bind fun d=>some (.ret d os)
def ifE (rc:Option Bool) (a b:Option D):Option D:=rc.bind fun c=>if c=true then a else b
def m8 (a b:Option Bool):Option Bool:=a.bind fun c=>if c=true then b else some false
def orB (a b:Option Bool):Option Bool:=a.bind fun c=>if c=true then some true else b
def jS (a:Option Bool):Option Bool:=a.bind fun b=>some (!b)
def lcO (rI:Option (List δ)) (rt:δ->Option Bool) (re:δ->Option D):Option D:=rI.bind fun ds=>rz rt re ds
def qj (x:Option D):Option (List D):=x.bind fun x=>match x with| .lst ds=>some ds|_=>none
def CB (x:Option D):Option (List (D×D)):=x.bind fun x=>match x with| .lst ds=>D.prs ds|_=>none
def FO (m:Option (Out PEmpty PEmpty)):Option FR:=m.bind outF
end
section
variable {α β:Type} {X:Cx} {E:Exits α β} {Δ:List Md} {st:Ds}
theorem qF {ss:List Stmt}:Blk X E Δ st ss none:=⟨fun pins s σ H De I ⟨O,G,r,rel,er,k⟩=>nomatch er⟩
end
structure Cal (P:Program) (w:World) (K:Frg) (mg:Str->Option Value) (base:Heap) (k:Nat) (x:Str) (ps:List Str) (ms:List PM) (rm:VM) (Fs:List D->Option FR):Prop where
 ok: ∃(f:Addr) (fd:FuncData),FnOk P w K mg base CX0 k f fd ps (FSp K ms rm Fs)/\mg x=some (.ref f)/\PySem.W.keepIn K (.ref f)=true/\Binds K fd ps []
section
variable {X:Cx} {Δ:List Md} {st:Ds} {e:Expr} {es:List Expr} {rm:VM} {rs:Option (List D)} {pos p:Pos} {vms:List VM} {ps:List PM} {as:List AS} {Fs:List D->Option FR} {k k':Nat} {pn:List Str} {x:Str} {i j:Nat}
theorem aE (C:Cal X.prog X.w X.K X.mg X.base k x pn ps rm Fs) (hr:Room k' X.A) (ha:PAx X Δ st (e::es) vms rs) (hg:Gl X x:=by rfl) (hk:k<=k':=by decide) (ok:lT ps vms=true:=by rfl)
  (hdb:(x==("__debug__" :Str))=false:=by decide) (he:starEach (e::es) X.env=(false,eval e X.env)::starEach es X.env:=by rfl) (hpl:(backTo pos (starEach es X.env)).any (·.1)=false:=by rfl):
  PX X Δ st (.Call (.Name x p) (e::es) [] pos) rm (aT Fs rs):=by
 obtain⟨f,fd,F,hm,hkp,hb⟩:=C.ok
 exact Cw F (hr.mono hk) hg hm hkp hb ha ok hdb he hpl
end
section
variable {α β γ δ:Type} {X:Cx} {E:Exits α β} {Δ Δ':List Md} {st st':Ds} {rest body:List Stmt} {e:Expr} {m:VM} {r:Option D} {pos:Pos} {i j:Nat}
theorem bI (i:Nat) (Δ':List Md) (st':D->Ds) {x:Str} {p':Pos} {md:Md} {k:D->Option (Out α β)} (he:PX X Δ st e m r) (h: ∀d,Blk X E Δ' (st' d) rest (k d)) (hx:Loc X.env.scope x) (hnd:X.N.Nodup) (hm:z8 m=some md:=by rfl) (e1:Δ.set i md=Δ':=by rfl) (e2: ∀d,st.set i (some d)=st' d:=by intro _;rfl) (hi:i<Δ.length:=by exact Nat.le_of_ble_eq_true rfl) (hN:X.N[i]? =some x:=by rfl)
  (hs:swapsWith e (some (.Name x p')) pos.line X.env=pure false:=by rfl) (hf:X.fn x=true\/X.env.scope.names.lookup x=some .local:=by first|exact .inl rfl|exact .inr rfl|assumption):
  Blk X E Δ st (.Assign [.Name x p'] e pos::rest) (r.bind k):=EG i he hm hi hnd hN hx (fun d=>by rw[e1,e2];exact h d) hs hf
theorem vy (i:Nat) (st':D×D->Ds) {r:Option (D×D)} {k:D×D->Option (Out α β)} (he:PY1 X Δ st e m i r) (h: ∀d:D×D,Blk X E Δ (st' d) rest (k d)) (e2: ∀d:D×D,st.set i (some d.2)=st' d:=by intro _;rfl) (hs:swapsWith e none pos.line X.env=pure false:=by rfl):Blk X E Δ st (.Expr e pos::rest) (r.bind k):=
 Ap he (fun d=>by rw[e2];exact h d) hs
theorem mj (i:Nat) (Δ':List Md) {s:Sh} {ss:List Stmt} {r:Option (Out α β)} (h:Blk X E Δ' st ss r) (hm:Δ[i]? =some (.ow s):=by rfl) (e1:Δ.set i .fz=Δ':=by rfl):Blk X E Δ st ss r:=zd i hm (by rw[e1];exact h)
theorem jT {rg:Rg} {IR:Sa->Hp->δ->V->Prop} {rI:Option (List δ)} {g:TG} {uM:List Md->List Md} {uS:δ->Ds->Ds} {tg it:Expr} {is:List Nat} (Dl:List Md) (el:γ->Ds) (Dm:List Md) (em:γ->δ->Ds) {b0:γ} {step:γ->δ->Option (Out γ γ)} {k:γ->Option (Out α β)}
  (hi:PIx X Δ st tg it rg IR rI) (him:jR IR) (hr:rg≠ .hb) (hg:PG X tg g) (ht:sD X.K g rg IR uM uS Dl.length is) (w:Wk Δ st Dl (el b0)) (hb: ∀b d,Blk X (E.loop Dl el) Dm (em b d) body (step b d)) (h: ∀b,Blk X E Dl (el b) rest (k b))
  (e1:uM Dl=Dm:=by rfl) (e2: ∀b d,uS d (el b)=em b d:=by intro _ _;rfl) (hc:X.calm=true:=by rfl) (hs: ∀x,foldedSetIterable it X.env x=pure x:=by intro _;rfl) (hp:PassesOwn (model X.prog X.w) X.A X.env X.xe:=by exact PassesOwn.never):
  Blk X E Δ st (.For tg it body [] pos::rest) (oY rI step b0 k):=EH Dl el hi him hr hg ht w (fun b d=>by rw[e1,e2];exact hb b d) h hc hp hs
end
end Sw
namespace Sw
open PySem PySem.Spec PyProof.Rows L2
variable [NmC]
def blO (a:Option Bool):Option D:=a.bind fun b=>some (.bl b)
def CC (a:Option D):Option D:=(a.bind D.tb).bind fun c=>some (.bl (!c))
def Ar (a b:Option D):Option D:=(a.bind D.tb).bind fun c=>if c=true then b else some (.bl false)
def orE (a b:Option D):Option D:=(a.bind D.tb).bind fun c=>if c=true then some (.bl true) else b
def tupO (r:Option (List D)):Option D:=r.bind fun ds=>some (.tup ds)
def t6 (r:Option (List D)):Option D:=r.bind fun ds=>if ds.length<=sizeLine then some (.lst ds) else none
def CD (f:D->Option Int->Option Int->Option D) (a:Option D) (l h:Option (Option Int)):Option D:=a.bind fun x=>l.bind fun l=>h.bind fun u=>f x l u
def As (d:D) (rp:Option (List Stp)) (ra:Option D) (f:D->D->Option (D×D)):Option (D×D):=rp.bind fun q=>ra.bind fun x=>do1 d q fun d'=>f d' x
def IW (d:D) (rp:Option (List Stp)) (rs:Option (List D)) (f:List D->List D->Option (D×List D)):Option (D×D):=rp.bind fun q=>rs.bind fun xs=>do1 d q (Cz f xs)
def IX (d:D) (rp:Option (List Stp)) (f:List D->List D->Option (D×List D)):Option (D×D):=rp.bind fun q=>do1 d q (Cz f [])
theorem j8:Rg.bb≠Rg.hb:=fun h=>nomatch h
theorem dM:Rg.fz≠Rg.hb:=fun h=>nomatch h
theorem wK:allM (.rg .fz) [.rg .fz,.rg .fz]:=⟨rfl,rfl,trivial⟩
theorem t7:allM (.rg .fz) [.rg .fz,.rg .fz,.rg .fz]:=⟨rfl,rfl,rfl,trivial⟩
theorem E2:allM (.rg .fz) [.rg .fz,.rg .fz,.rg .fz,.rg .fz]:=⟨rfl,rfl,rfl,rfl,trivial⟩
theorem vA {st:Ds} {x:Str} {i:Nat} (h:st[i]? =some none): ∀v∈([(x,i)]:List (Str×Nat)).map (·.2),st[v]? =some none:=by simpa using h
theorem pR {x:Str} {i:Nat}: ∀v∈[i],v∈([(x,i)]:List (Str×Nat)).map (·.2):=by simp
theorem Ea {s s':Sh} (h:s=s'): ∀q,(some []:Option (List Stp))=some q->shP s q=some s':=by
 intro q e;cases e;rw[h];cases s' <;> rfl
section
variable {X:Cx} {Δ:List Md} {st:Ds} {a b c e o:Expr} {es:List Expr} {m ma mb mc:VM} {ra rb rc:Option D} {pos p pos' apos:Pos} {r rg:Rg}
theorem CF {x1:Nat} {ra rb:Option D} (h:PAx X Δ st [a,b] [.rg .fz,.rg .fz] (aj ra (aj rb aM))):PX X Δ st (.Tuple [a,b] x1 pos) (.rg .fz) (tupO (aj ra (aj rb aM))):=Ad h wK (by simp) fun ds e=>by
 obtain⟨x,y,e1,e2,e3⟩:=cq e
 obtain⟨z,w,e4,e5,e6⟩:=cq e2
 cases e5;cases e6;cases e3;simp
theorem n4 {x1:Nat} {ra rb rc:Option D} (h:PAx X Δ st [a,b,c] [.rg .fz,.rg .fz,.rg .fz] (aj ra (aj rb (aj rc aM)))):PX X Δ st (.Tuple [a,b,c] x1 pos) (.rg .fz) (tupO (aj ra (aj rb (aj rc aM)))):=Ad h t7 (by simp) fun ds e=>by
 obtain⟨x,y,e1,e2,e3⟩:=cq e
 obtain⟨z,w,e4,e5,e6⟩:=cq e2
 obtain⟨u,v,e7,e8,e9⟩:=cq e5
 cases e8;cases e9;cases e6;cases e3;simp
end
abbrev D.leS:D->D->Option Bool:=ss fun a b=>some (!decide (b.cps.toList<a.cps.toList))
abbrev D.gtS:D->D->Option Bool:=ss fun a b=>some (decide (b.cps.toList<a.cps.toList))
abbrev D.geS:D->D->Option Bool:=ss fun a b=>some (!decide (a.cps.toList<b.cps.toList))
section
variable {X:Cx} {ma mb rg:Rg}
def t8:PyData->Bool
 | .none=>true
 |_=>false
end
end Sw
namespace Sw
open PySem PySem.Spec PyProof.Rows L2
variable [NmC]
theorem wL:bootBuiltins "len" =some (.builtin "len"):=by decide+kernel
theorem E3:bootBuiltins "min" =some (.builtin "min"):=by decide+kernel
theorem E4:bootBuiltins "max" =some (.builtin "max"):=by decide+kernel
theorem sG:bootBuiltins "isinstance" =some (.builtin "isinstance"):=by decide+kernel
theorem E5:bootBuiltins "abs" =some (.builtin "abs"):=by decide+kernel
def Eb:List Key->Option (List Str)
 | []=>some []
 | .inr x::ks=>(Eb ks).map fun xs=>x::xs
 | .inl _::_=>none
def m9 (xs:List Str):List Str:=xs.mergeSort sLe
theorem ze (a b c:Str) (h:sLe a b=true) (g:sLe b c=true):sLe a c=true:=by
 unfold sLe at*
 simp only[decide_eq_true_eq] at*
 exact List.le_trans h g
theorem zf (a b:Str):(sLe a b||sLe b a)=true:=by
 unfold sLe
 rw[Bool.or_eq_true]
 simp only[decide_eq_true_eq]
 exact List.le_total _ _
def D.JX (x:D):Option D:=match x with
 | .dct ks=>(Eb (ks.map (·.1))).bind fun xs=>if xs.length<64 then some (.lst ((m9 xs).map D.str)) else none
 |_=>none
def D.Ec (x:D):Option D:=match x with
 | .dct ks=>some (.lst (ks.map fun k=>kD k.1))
 |_=>none
theorem td {K:Frg} {S:Sa} {H:Hp}: ∀xs:List Str,aB K S H (xs.map D.str) (xs.map V.str)
 | []=>.nil
 |x::xs=>.cons (by unfold Rep;rfl) (td xs)
section
variable {X:Cx} {Δ:List Md} {st:Ds} {a b c e o:Expr} {es:List Expr} {m ma mb mc:VM} {ra rb rc:Option D} {pos p p2 pos' apos pT:Pos} {r rg r1 r2':Rg}
def D.strs:List D->Option (List Str)
 | []=>some []
 | .str x::ds=>(D.strs ds).map fun xs=>x::xs
 |_::_=>none
theorem yf: ∀{ds:List D} {xs:List Str},D.strs ds=some xs->ds=xs.map D.str
 | [],_,h=>by cases h;rfl
 | .str x::ds,_,h=>by
  unfold D.strs at h
  cases e:D.strs ds with
  |none=>rw[e] at h;cases h
  |some ys=>rw[e] at h;cases h;rw[yf e];rfl
theorem aB.strs {K:Frg} {S:Sa} {H:Hp}: ∀{xs:List Str} {vs:List V},aB K S H (xs.map D.str) vs->vs=xs.map V.str
 | [],_,h=>by unfold aB at h;exact h
 |x::xs,_,h=>by
  unfold aB at h
  obtain⟨v,r,rfl,h1,h2⟩:=h
  unfold Rep at h1
  rw[h1,aB.strs h2];rfl
def D.join (x y:D):Option D:=match x with
 | .str a=>(y.items).bind fun ds=>(D.strs ds).bind fun xs=>if (xs.map (·.length)).sum+xs.length*a.length<=16777216 then some (.str (Txt.join a xs)) else none
 |_=>none
theorem t9 (ho:PX X Δ st o (.rg r) ra) (he:PX X Δ st e m rb) (hs:starEach [e] X.env=[(false,eval e X.env)]:=by rfl) (hbase:attributeBase o "join" X.env (eval o X.env)=eval o X.env:=by rfl) (hline:(apos.endLine==pos.line)=true:=by rfl):
  PX X Δ st (.Call (.Attribute o "join" apos) [e] [] pos) (.rg rg) (b2 D.join ra rb):=cD (pe_join ho he hs hbase hline) fun σ H Q ⟨O,G,d,rel,er,k⟩=>by
 obtain⟨x,y,e1,e2,e3⟩:=cq er
 cases x <;> first|cases e3|skip
 rename_i a
 obtain⟨ds,e4,e5⟩:=bind1 (show ((y.items).bind fun ds=>(D.strs ds).bind fun xs=>if (xs.map (·.length)).sum+xs.length*a.length<=16777216 then some (D.str (Txt.join a xs)) else none)=some d from e3)
 obtain⟨xs,e6,e7⟩:=bind1 e5
 obtain⟨hz,rfl⟩:=aH e7
 refine rdE.go rel e1 fun v H1 G1 rel1 x1 v1=>⟨⟨a,v1.str⟩,rdE.go rel1 e2 fun w H2 G2 rel2 x2 v2=> ?_⟩
 obtain⟨p,vs,rfl,l,rr⟩:=Rep.items e4 v2.hb
 have:=yf e6
 subst this
 rw[aB.strs rr] at l
 exact⟨a,p,xs,v1.str,rfl,l,hz,k _ H2 G2 (x1.trans x2) m5⟩
def tyN:D->Option String
 | .non=>some "NoneType" | .bl _=>some "bool" | .int _=>some "int" | .str _=>some "str"
 | .lst _=>some "list" | .tup _=>some "tuple" | .dct _=>some "dict"
 |_=>none
def IY (t T:String):Option Bool:=if (Value.type t==Value.type T)=true then some true else if PySem.W.kitMeta T=true then (fastBuiltinMro t).map (·.contains (.type T)) else none
def D.isa (T:String) (x:D):Option Bool:=(tyN x).bind fun t=>IY t T
theorem Rep.ty {K:Frg} {S:Sa} {H:Hp} {d:D} {v:V} {t:String} (e:tyN d=some t) (h:Rep K S H d v):TyX K H v (.type t):=by
 cases d <;> first|cases e|skip
 ·unfold Rep at h;subst h;exact .base .non
 ·unfold Rep at h;subst h;exact .base (.bl _)
 ·unfold Rep at h;subst h;exact .base (.int _)
 ·unfold Rep at h;subst h;exact .base (.str _)
 ·unfold Rep at h
  obtain⟨a,vs,rfl,_,l,_⟩:=h
  exact .base (.lst l)
 ·unfold Rep at h
  obtain⟨a,vs,rfl,l,_⟩:=h
  exact .base (.tup l.2)
 ·unfold Rep at h
  obtain⟨a,vs,rfl,_,l,_⟩:=h
  rcases l with l|⟨o,l⟩
  ·exact .base (.dK l)
  ·exact .fDict l
theorem wM {T:String} {x:Str} (hg:Gl X "isinstance") (hm:X.mg "isinstance" =none) (hmT:X.mg x=none) (hv:bootBuiltins x=some (.type T)) (hgT:Gl X x) (he:PX X Δ st e m ra) (hn:x≠"__name__" :=by decide) (hd:(x==("__debug__" :Str))=false:=by decide)
  (hst:starEach [e,.Name x pT] X.env=(false,eval e X.env)::starEach [.Name x pT] X.env:=by rfl) (hst2:starEach [.Name x pT] X.env=(false,eval (.Name x pT) X.env)::starEach [] X.env:=by rfl) (hpl:(backTo pos (starEach [.Name x pT] X.env)).any (·.1)=false:=by rfl):
  PX X Δ st (.Call (.Name "isinstance" p) [e,.Name x pT] [] pos) (.rg rg) (blO (b1 (D.isa T) ra)):=cD (pe_callB call_isi hg hm sG (pa_cons he (pa_cons (pe_bltn (v:=.ty T) hgT hmT hv rfl hn hd) pa_nil hst2) hst) (by decide) (by decide) hst hpl) fun σ H Q ⟨O,G,d,rel,er,k⟩=>by
 obtain⟨b,e1,e2⟩:=bind1 er
 obtain⟨x',e3,e4⟩:=bind1 e1
 obtain⟨t,e5,e6⟩:=bind1 e4
 cases e2
 exact rdE.go rel e3 fun v H1 G1 rel1 x1 v1=>⟨v,.ty T,.type t,.type T,b,rfl,.ty T,v1.hb.ty e5,e6,k _ H1 G1 x1 lr⟩
end
end Sw
namespace Sw
open PySem PySem.Spec PyProof.Rows L2
variable [NmC]
def D.JC (d' y x:D):Option D:=match d',y with
 | .lst ds,.int i=>(ixN ds.length i).map fun j=>.lst (ds.set j x)
 |_,_=>none
theorem aB.set {K:Frg} {S:Sa} {H:Hp} {x:D} {w:V} (hw:Rep K S H x w): ∀{ds:List D} {vs:List V} (j:Nat),aB K S H ds vs->aB K S H (ds.set j x) (vs.set j w)
 | [],_,j,h=>by unfold aB at h;subst h;exact .nil
 |d::ds,_,0,h=>by
  unfold aB at h
  obtain⟨v,r,rfl,h1,h2⟩:=h
  exact .cons hw h2
 |d::ds,_,j+1,h=>by
  unfold aB at h
  obtain⟨v,r,rfl,h1,h2⟩:=h
  exact .cons h1 (aB.set hw j h2)
theorem bE.drop {K:Frg} {S:Sa} {H:Hp} (k:Key): ∀{ds:List (Key×D)} {vs:List (Key×V)},bE K S H ds vs->bE K S H (qY ds k) (qY vs k)
 | [],_,h=>by unfold bE at h;subst h;exact .nil
 |(k0,d)::ds,_,h=>by
  unfold bE at h
  obtain⟨v,r,rfl,h1,h2⟩:=h
  have ih:=bE.drop k h2
  unfold qY at*
  rw[List.filter_cons,List.filter_cons]
  by_cases e:k0=k
  ·simp only[e,ne_eq,not_true,decide_false,Bool.false_eq_true,if_false];exact ih
  ·simp only[e,ne_eq,not_false_iff,decide_true,if_true];exact .cons h1 ih
section
variable {α β γ δ:Type} {X:Cx} {E:Exits α β} {Δ Δ':List Md} {st:Ds} {rest body:List Stmt} {a b e o tg:Expr} {m mb:VM} {ra rb:Option D} {rp:Option (List Stp)} {pos pos' apos:Pos} {i j:Nat} {md:Md} {s s'':Sh} {d:D} {r:Rg}
theorem vB {elt iter:Expr} {ifs:List Expr} {scope:Scope} {own:List (Str×Nat)} {g:TG} {rg:Rg} {IR:Sa->Hp->δ->V->Prop} {rI:Option (List δ)} {uM:List Md->List Md} {uS:δ->Ds->Ds} {is:List Nat} {rt:δ->Option Bool} {re:δ->Option D} {spos:Pos} {y:Str} {py:Pos} {k:D->Option (Out α β)}
  (i:Nat) (Δ':List Md) (st':D->Ds) (hN:X.N.Nodup) (hi:PIx X Δ st tg iter rg IR rI) (him:jR IR) (hr:rg≠ .hb) (ok:BlkOk X.N X.env.scope scope own) (hw: ∀v∈own.map (·.2),st[v]? =some none) (his: ∀i∈is,i∈own.map (·.2))
  (hg: ∀(s:Shared) (H:Hp) (C:Addr) (cl:List (Str×Addr)) (fp:List Addr),PG (X.blk s H scope (compEnvC scope cl C X.env) fp) tg g) (htg:sD X.K g rg IR uM uS Δ.length is)
  (ht: ∀(s:Shared) (H:Hp) (C:Addr) (cl:List (Str×Addr)) (fp:List Addr) (d:δ),PTs (X.blk s H scope (compEnvC scope cl C X.env) fp) ifs (rdT X.K (uM Δ) (uS d st) (rt d)))
  (he: ∀(s:Shared) (H:Hp) (C:Addr) (cl:List (Str×Addr)) (fp:List Addr) (d:δ),PE (X.blk s H scope (compEnvC scope cl C X.env) fp) elt (rdE X.K (uM Δ) (uS d st) (.rg .fz) (re d)))
  (h: ∀d,Blk X E Δ' (st' d) rest (k d)) (e1:Δ.set i (.ow (.ls .fz))=Δ':=by rfl) (e2: ∀d,st.set i (some d)=st' d:=by intro _;rfl) (hc:X.calm=true:=by rfl) (hy:X.N[i]? =some y:=by rfl) (hi0:i<Δ.length:=by exact Nat.le_of_ble_eq_true rfl) (hyl:X.env.scope.names.lookup y=some .local:=by rfl)
  (hsw:swapsWith (.ListComp elt [⟨tg,iter,ifs,0⟩] scope pos) (some (.Name y py)) spos.line X.env=pure true:=by rfl) (hs: ∀x,foldedSetIterable iter X.env x=pure x:=by intro _;rfl):
  Blk X E Δ st (.Assign [.Name y py] (.ListComp elt [⟨tg,iter,ifs,0⟩] scope pos) spos::rest) ((lcO rI rt re).bind k):=
 Aq i hc hN hy hi0 hyl hsw hi him hr ok hw his hg htg ht he (fun d=>by rw[e1,e2];exact h d) hs
end
def D.min2:List D->Option D
 | [.int a,.int b]=>some (.int (if b<a then b else a))
 |_=>none
def D.max2:List D->Option D
 | [.int a,.int b]=>some (.int (if b>a then b else a))
 |_=>none
def D.Ed:List D->Option D
 | [.str a,.str b]=>some (.str (if b.cps.toList<a.cps.toList then b else a))
 |_=>none
def D.Ee:List D->Option D
 | [.str a,.str b]=>some (.str (if a.cps.toList<b.cps.toList then b else a))
 |_=>none
section
variable {X:Cx} {r1 r2' rg:Rg}
theorem E6:OpN X (fun xs H Q=> ∃i j,xs=[.int i,.int j]/\Q (.int (if j<i then j else i)) H) [.rg r1,.rg r2'] (.rg rg) D.min2:=fun O H0 H G xs vs d Q e hv gin k=>by
 match xs,e with
 | [.int a,.int b],e=>
  cases e
  obtain⟨v,w,rfl,h1,h2⟩:=GV hv
  exact⟨a,b,by rw[h1.int,h2.int],k _ H G .refl g8⟩
theorem E7:OpN X (fun xs H Q=> ∃i j,xs=[.int i,.int j]/\Q (.int (if j>i then j else i)) H) [.rg r1,.rg r2'] (.rg rg) D.max2:=fun O H0 H G xs vs d Q e hv gin k=>by
 match xs,e with
 | [.int a,.int b],e=>
  cases e
  obtain⟨v,w,rfl,h1,h2⟩:=GV hv
  exact⟨a,b,by rw[h1.int,h2.int],k _ H G .refl g8⟩
end
end Sw
namespace Sw
open PySem PySem.Spec PyProof.Rows L2
variable [NmC]
theorem yg:bootBuiltins "int" =some (.type "int"):=by decide+kernel
theorem CG:bootBuiltins "str" =some (.type "str"):=by decide+kernel
theorem vC:bootBuiltins "bool" =some (.type "bool"):=by decide+kernel
end Sw
namespace Sw
open PySem PySem.Spec PyProof.Rows L2
variable [NmC]
theorem E8 {K:Frg} {H:Hp} {a:Addr} {ns:List Int} {Fs:List D->Option FR} (hS:SqL K H a (ns.map V.int)) (h:Fs [.sc ns]=some (.ok (.bl true) [])) (tb:LamX.Tabs NmC.T H:=by exact fun p hp=>nomatch (show p∈([]:List (Addr×Str)) from hp)):FSp K [.bo] (.rg .fz) Fs [.ref a] H (fun v _=>v= .bl true) (fun _ _ _=>False):=by
 refine⟨Org.all H fun _=>False,[.sc ns],_,rfl,lS tb (fun _ f=>f.elim),⟨[],[],⟨?_,rfl⟩,rfl,rfl⟩,h,fun v H' G' r=> ?_⟩
 ·unfold Rep
  refine⟨a,rfl,?_⟩
  rcases hS with r|⟨o,its,n,hk,z⟩
  ·exact .inl ⟨by rcases r with r|⟨o,r⟩ <;> (show H a≠none;rw[r];simp),r⟩
  ·exact .inr (.inr ⟨o,its,n,hk,z⟩)
 ·obtain⟨_,_,hv⟩:=nZ r
  exact (hv (Org.all H fun _=>False)).bl
theorem aS {K:Frg} {x qual:Str} {st:Stmt} {f:Addr} {fd:FuncData} {kws:List (Str×V)} (F:FunD K x qual (defArgs st) (defBody st) (defScope st) [] kws f fd):Fun K x qual st f fd:=by
 obtain⟨oc,od,dV,kV,doc,pm,an,cdv,ct,osl,e,l,c,hd,_⟩:=F.ex
 rcases hd with ⟨_,e2⟩|⟨e2,_⟩
 ·subst e2
  exact⟨⟨oc,od,kV,doc,pm,an,cdv,ct,osl,e,l,c⟩,F.kp⟩
 ·exact absurd rfl e2
end Sw
namespace Sw
open PySem PySem.Spec PyProof.Rows L2
variable [NmC]
section
variable {X:Cx} {e:Expr} {st:Stmt}
def unl {α:Type} (H:Hp) (f:α->Hp->Prop):α->Hp->Prop:=fun a H'=>f a H'\/ ∃d od u,(∀o v,H d≠some (.frz o v))/\H' d=some (.frz od u)/\f a (upd H' d u)
end
section
variable {K:Frg} {O:Org} {Δ Δ2:List Md} {st st2:Ds} {σ σ2:CS} {H H2:Hp} {G G2:Sa} {L L2':List Addr} {d:Addr} {od:Obj} {u:HO}
def DkU (u:HO):Prop:=(∃kvs,u= .dK kvs)\/ ∃kvs,u= .dT kvs
theorem DkU.nd {u:HO} (h:DkU u):Nd u:=by rcases h with ⟨k,rfl⟩|⟨k,rfl⟩ <;> trivial
theorem DkU.fz {u:HO} {od:Obj} (h:DkU u):Nd (.frz od u):=by rcases h with ⟨k,rfl⟩|⟨k,rfl⟩ <;> trivial
theorem DkU.nt {u:HO} (h:DkU u): ∀xs,u≠ .tup xs:=fun xs z=>by rcases h with ⟨k,rfl⟩|⟨k,rfl⟩ <;> cases z
def Out.calm {α β:Type}:Out α β->Bool
 | .exc _=>false
 |_=>true
end
end Sw
namespace Sw
open PySem PySem.Spec PyProof.Rows L2
variable [NmC]
theorem bE.at {K:Frg} {S:Sa} {H:Hp}: ∀{ks:List (Key×D)} {kvs:List (Key×V)} {i:Nat} {k:Key} {v:V},bE K S H ks kvs->kvs[i]? =some (k,v)-> ∃x,ks[i]? =some (k,x)/\Rep K S H x v
 | [],_,_,_,_,h,e=>by unfold bE at h;subst h;simp at e
 |(k0,x)::ks,_,0,k,v,h,e=>by
  unfold bE at h
  obtain⟨w,r,rfl,h1,h2⟩:=h
  simp at e
  obtain⟨rfl,rfl⟩:=e
  exact⟨x,rfl,h1⟩
 |(k0,x)::ks,_,i+1,k,v,h,e=>by
  unfold bE at h
  obtain⟨w,r,rfl,h1,h2⟩:=h
  obtain⟨y,e1,e2⟩:=bE.at (i:=i) h2 (by simpa using e)
  exact⟨y,by simpa using e1,e2⟩
theorem Meets.inl {α β:Type} {K:Frg} {E:Exits α β} {O:Org} {De:Ends} {o:Out α β} {Hs:Hp} (hc:o.calm=true) (h:Meets K E O De o):Meets K E O ⟨unl Hs De.nx,unl Hs De.rt,unl Hs De.bk,unl Hs De.ct⟩ o:=by
 cases o with
 |nx a=>exact fun σ H' G' rel=>.inl (h _ _ _ rel)
 |bk b=>exact fun σ H' G' rel=>.inl (h _ _ _ rel)
 |ct b=>exact fun σ H' G' rel=>.inl (h _ _ _ rel)
 |ret x os=>exact fun v H' G' q=>⟨.inl (h _ _ _ q).1,fun fl ev σ=>.inl ((h _ _ _ q).2 fl ev σ)⟩
 |exc x=>cases hc
end Sw
namespace Sw
open PySem PySem.Spec PyProof.Rows L2
variable [NmC]
def D.ints:List D->Option (List Int)
 | []=>some []
 | .int x::ds=>(D.ints ds).map fun xs=>x::xs
 |_::_=>none
def D.GZ (x:D):Option D:=match x with
 | .lst ds=>(D.ints ds).map fun ns=>.int ns.sum
 |_=>none
end Sw
namespace Sw
open PySem PySem.Spec PyProof.Rows L2 PySem.Calls PySem.W
variable [NmC]
section
variable {prog:Program} {w:World} {A:Around} {E:Value->Shared->Prop} {s:Shared}
def Au (z TI TO i1 i2 l1 l2 S:Addr) (xs ys:Array Value) (i:Nat) (h:Heap):Prop:=
 IsPair h TI (.ref i1) (.ref i2)/\h.IsListIter i1 l1 i/\h.IsListIter i2 l2 i/\h.IsList l1 xs/\h.IsList l2 ys∧
  ((IsZip h z TI TO .none/\ ∃a b,IsPair h TO a b)\/ ∃T f oT,IsZipHeld h z TI TO T f/\h.get? T=some oT/\T≠z/\T≠i1/\T≠i2/\T≠S)
theorem Au.at {z TI TO i1 i2 l1 l2 S:Addr} {xs ys:Array Value} {i:Nat} {h h':Heap} (x:Au z TI TO i1 i2 l1 l2 S xs ys i h) (d:z≠S/\TI≠S/\TO≠S/\i1≠S/\i2≠S/\l1≠S/\l2≠S)
  (k: ∀b o,b≠S->h.get? b=some o->h'.get? b=some o):Au z TI TO i1 i2 l1 l2 S xs ys i h':=by
 obtain⟨hTI,h1,h2,hl1,hl2,hz⟩:=x
 obtain⟨dz,dTI,dTO,d1,d2,dl1,dl2⟩:=d
 refine⟨k _ _ dTI hTI,h1.at fun o e=>k _ o d1 e,h2.at fun o e=>k _ o d2 e,hl1.at fun o e=>k _ o dl1 e,hl2.at fun o e=>k _ o dl2 e,?_⟩
 rcases hz with ⟨hz,a,b,hTO⟩|⟨T,f,oT,hz,hT,r1,r2,r3,r4⟩
 ·exact .inl ⟨k _ _ dz hz,a,b,k _ _ dTO hTO⟩
 ·exact .inr ⟨T,f,oT,k _ _ dz hz,k _ _ r4 hT,r1,r2,r3,r4⟩
end
end Sw
namespace Sw
open PySem PySem.Spec PyProof.Rows L2 PySem.Calls
variable [NmC]
section
variable {X:Cx} {Δ:List Md} {st:Ds} {a b c e o:Expr} {es:List Expr} {m ma mb mc:VM} {ra rb rc:Option D} {pos p apos cpos:Pos} {r rg:Rg}
def IZ:PyData->Option D
 | .int i=>some (.int i)
 | .str x=>some (.str x)
 |_=>none
end
end Sw
namespace Sw
open PySem PySem.Spec PyProof.Rows L2
variable [NmC]
section
variable {α β γ:Type} {X:Cx} {E:Exits α β} {Δ:List Md} {st:Ds} {rest body:List Stmt} {a b:Expr} {pos:Pos} {r1 r2:Rg} {ra rb:Option D}
theorem rA {K:Frg} {O:Org} {σ:CS} {H:Hp} {G:Sa} {i:Nat} {d:D} {x:V} {r:Rg} (hr:r≠ .hb) (rel:Rel K O Δ st σ H G) (hi:i<Δ.length) (h:Rep K (rgn O G r) H d x):Rel K O (Δ.set i (mdR r)) (st.set i (some d)) (σ.set i (some x)) H G:=by
 cases r with
 |hb=>exact absurd rfl hr
 |bb=>exact rel.lQ (m:=.rg .bb) .refl hi rfl h
 |fz=>exact rel.lQ (m:=.rg .fz) .refl hi rfl h
theorem Av {c:Expr} (Dl:List Md) (el:γ->Ds) {b0:γ} {tst:γ->Option Bool} {step:γ->Option (Out γ γ)} {k:γ->Option (Out α β)} (hc: ∀b,PTx X Dl (el b) c (tst b)) (w:Wk Δ st Dl (el b0)) (hb: ∀b,Blk X (E.loop Dl el) Dl (el b) body (step b))
  (h: ∀b,Blk X E Dl (el b) rest (k b)) (hp:PassesOwn (model X.prog X.w) X.A X.env X.xe:=by exact PassesOwn.never):Blk X E Δ st (.While c body [] pos::rest) (whO tst step b0 k):=Ac Dl el hc w hb h hp
end
end Sw
namespace Sw
open PySem PySem.Spec PyProof.Rows L2
variable [NmC]
section
variable {α β γ:Type} {X:Cx} {E:Exits α β} {Δ:List Md} {st:Ds} {rest body:List Stmt} {a b c e o:Expr} {es:List Expr} {pos apos p2:Pos} {r rg:Rg} {m ma mb mc:VM} {ra rb rc:Option D}
def chB (f f':D->D->Option Bool) (ra rb rc:Option D):Option Bool:=ra.bind fun x=>rb.bind fun y=>(f x y).bind fun k=>if k=true then rc.bind fun z=>f' y z else some false
theorem zg {r2 r2':R2} {f f':D->D->Option Bool} (hf:Op2 X r2 ma mb (.rg .fz) (blD f)) (hf':Op2 X r2' mb mc (.rg .fz) (blD f')) {σ:CS} {H:Hp} {O:Org} {G:Sa} {k:Bool} {Q:VK}
  (rel:Rel X.K O Δ st σ H G) (er:chB f f' ra rb rc=some k) (q: ∀H' G',Ext H G H' G'->Q (.bl k) H'):tChain r2 r2' (rdE X.K Δ st ma ra) (rdE X.K Δ st mb rb) (rdE X.K Δ st mc rc) σ H Q:=by
 obtain⟨x,y,e1,e2,e3⟩:=cq er
 obtain⟨k1,e4,e5⟩:=bind1 e3
 refine rdE.go rel e1 fun v H1 G1 rel1 x1 v1=>rdE.go rel1 e2 fun w H2 G2 rel2 x2 v2=> ?_
 refine hf O H H2 G2 x y v w (.bl k1) _ (by unfold blD;rw[e4];rfl) (v1.mono x2) (v2.back x1) rel2.gin fun u H3 G3 x3 hu=> ?_
 refine⟨k1,hu.bl,?_⟩
 cases k1 with
 |false=>
  rw[if_neg Bool.false_ne_true] at e5⊢
  cases e5
  exact q H3 G3 (x1.trans (x2.trans x3))
 |true=>
  rw[if_pos rfl] at e5⊢
  obtain⟨z,e6,e7⟩:=bind1 e5
  refine rdE.go (rel2.ext x3) e6 fun t H4 G4 rel4 x4 v4=> ?_
  exact hf' O H1 H4 G4 y z w t (.bl k) _ (by unfold blD;rw[e7];rfl) ((v2.mono x3).mono x4) (v4.back (x2.trans x3)) rel4.gin fun u5 H5 G5 x5 hu5=>by
   rw[hu5.bl];exact q H5 G5 (x1.trans (x2.trans (x3.trans (x4.trans x5))))
theorem zh {op op':CmpOp} {r2 r2':R2} {f f':D->D->Option Bool} (ho:OpR X (compareOp op) r2) (hf:Op2 X r2 ma mb (.rg .fz) (blD f)) (ho':OpR X (compareOp op') r2') (hf':Op2 X r2' mb mc (.rg .fz) (blD f')) (ha:PX X Δ st a ma ra) (hb:PX X Δ st b mb rb) (hc:PX X Δ st c mc rc)
  (hm:lastMarks [op,op'] [b,c]=false:=by with_unfolding_all rfl):PTx X Δ st (.Compare a [op,op'] [b,c] pos) (chB f f' ra rb rc):=
 x6 (pt_chain ho ho' ha hb hc hm) fun σ H Q ⟨O,G,t,rel,er,k⟩=>zg hf hf' rel er fun H' G' x=>⟨t,rfl,k H' G' x⟩
theorem Aw {x:Str} {z:Str} {pos:Pos} (hm: ∃t,X.mg x=some (.str z t)) (hg:Gl X x:=by rfl) (hd:(x==("__debug__" :Str))=false:=by decide):PX X Δ st (.Name x pos) (.rg rg) (some (.str z)):=by
 obtain⟨t,hm⟩:=hm
 exact cD (pe_glob hg hm (v:=.str z) ⟨t,rfl⟩ hd) fun σ H Q ⟨O,G,d,rel,er,k⟩=>by cases er;exact k _ H G .refl m5
def Ef (K:Frg) (x:Str) (zs:List Str):Bool:=match PySem.W.nsIn K mainGlobals x with
 |some (some (.ref p))=>match K.lookup p with
  |some o=>decide (o.cls= .type "tuple")&&match o.data with
   | .seq its _=>decide (its.size<=sizeLine)&&decide (its.toList.map (fun v=>match v with| .str y _=>some y|_=>none)=zs.map some)
   |_=>false
  |none=>false
 |_=>false
def D.inG (neg:Bool) (zs:List Str) (x:D):Option Bool:=match x with
 | .str a=>some (if neg=true then !inV (.str a) (zs.map V.str) else inV (.str a) (zs.map V.str))
 |_=>none
def D.mH (neg:Bool) (x y:D):Option Bool:=match x,y with
 | .str a,.str z=>match a.cps.toList with
  | [c]=>some (if neg=true then !decide (c∈z.cps.toList) else decide (c∈z.cps.toList))
  |_=>none
 |_,_=>none
theorem te {neg:Bool} {x y:D} {k:Bool} (h:D.mH neg x y=some k): ∃(c:Nat) (z:Str),x= .str ⟨#[c]⟩/\y= .str z/\k=(if neg=true then !decide (c∈z.cps.toList) else decide (c∈z.cps.toList)):=by
 unfold D.mH at h
 split at h
 ·rename_i a z
  split at h
  ·rename_i c hc
   cases h
   obtain⟨⟨l⟩⟩:=a
   cases hc
   exact⟨c,z,rfl,rfl,rfl⟩
  ·cases h
 ·cases h
theorem Ax:Op2 X (fun x y H Q=> ∃(c:Nat) (z:Str),x= .str ⟨#[c]⟩/\y= .str z/\Q (.bl (decide (c∈z.cps.toList))) H) (.rg r) (.rg rg) (.rg .fz) (blD (D.mH false)):=fun O H0 H G x y v w d Q e hx hy _ k=>by
 obtain⟨t,e1,rfl⟩:=jv e
 obtain⟨c,z,rfl,rfl,rfl⟩:=te e1
 exact⟨c,z,hx.str,hy.str,k _ H G .refl lr⟩
theorem CH:Op2 X (fun x y H Q=> ∃(c:Nat) (z:Str),x= .str ⟨#[c]⟩/\y= .str z/\Q (.bl (!decide (c∈z.cps.toList))) H) (.rg r) (.rg rg) (.rg .fz) (blD (D.mH true)):=fun O H0 H G x y v w d Q e hx hy _ k=>by
 obtain⟨t,e1,rfl⟩:=jv e
 obtain⟨c,z,rfl,rfl,rfl⟩:=te e1
 exact⟨c,z,hx.str,hy.str,k _ H G .refl lr⟩
def D.split (x y:D):Option D:=match x,y with
 | .str a,.str b=>if (b.length==0)=false/\a.length+2<=sizeLine then some (.lst ((Txt.split a b).map D.str)) else none
 |_,_=>none
theorem vD (ho:PX X Δ st o (.rg r) ra) (he:PX X Δ st e (.rg rg) rb) (hs:starEach [e] X.env=[(false,eval e X.env)]:=by rfl) (hbase:attributeBase o "split" X.env (eval o X.env)=eval o X.env:=by rfl) (hline:(apos.endLine==pos.line)=true:=by rfl):
  PX X Δ st (.Call (.Attribute o "split" apos) [e] [] pos) (.nw (.ls .fz)) (b2 D.split ra rb):=cD (pe_split ho he hs hbase hline) fun σ H Q ⟨O,G,d,rel,er,k⟩=>by
 obtain⟨x,y,e1,e2,e3⟩:=cq er
 cases x <;> first|(cases e3;done)|skip
 cases y <;> first|(cases e3;done)|skip
 rename_i u w
 obtain⟨⟨h1,h2⟩,rfl⟩:=aH (show (if (w.length==0)=false/\u.length+2<=sizeLine then some (D.lst ((Txt.split u w).map D.str)) else none)=some d from e3)
 refine rdE.go rel e1 fun v H1 G1 rel1 x1 v1=>⟨⟨u,v1.str⟩,rdE.go rel1 e2 fun v' H2 G2 rel2 x2 v2=> ?_⟩
 exact⟨u,w,v1.str,by rw[v2.str],h1,h2,fun p hp=>k _ _ G2 ((x1.trans x2).trans (.new hp)) (bA.back (x1.trans x2) (oV hp rel2.gin (td _)))⟩
def D.part (x y:D):Option D:=match x,y with
 | .str a,.str b=>if (b.length==0)=false/\a.length<=sizeLine then some (.tup [.str (Txt.partition a b).1,.str (Txt.partition a b).2.1,.str (Txt.partition a b).2.2]) else none
 |_,_=>none
theorem CI (ho:PX X Δ st o (.rg r) ra) (he:PX X Δ st e (.rg rg) rb) (hs:starEach [e] X.env=[(false,eval e X.env)]:=by rfl) (hbase:attributeBase o "partition" X.env (eval o X.env)=eval o X.env:=by rfl) (hline:(apos.endLine==pos.line)=true:=by rfl):
  PX X Δ st (.Call (.Attribute o "partition" apos) [e] [] pos) (.rg .fz) (b2 D.part ra rb):=cD (pe_partition ho he hs hbase hline) fun σ H Q ⟨O,G,d,rel,er,k⟩=>by
 obtain⟨x,y,e1,e2,e3⟩:=cq er
 cases x <;> first|(cases e3;done)|skip
 cases y <;> first|(cases e3;done)|skip
 rename_i u w
 obtain⟨⟨h1,h2⟩,rfl⟩:=aH (show (if (w.length==0)=false/\u.length<=sizeLine then some (D.tup [.str (Txt.partition u w).1,.str (Txt.partition u w).2.1,.str (Txt.partition u w).2.2]) else none)=some d from e3)
 refine rdE.go rel e1 fun v H1 G1 rel1 x1 v1=>⟨⟨u,v1.str⟩,rdE.go rel1 e2 fun v' H2 G2 rel2 x2 v2=> ?_⟩
 refine⟨u,w,v1.str,by rw[v2.str],h1,h2,fun p hp=>k _ _ _ ((x1.trans x2).trans (.GS hp)) ?_⟩
 unfold bA Rep
 exact⟨p,_,rfl,⟨.inr rfl,upd_same⟩,.cons (by unfold Rep;rfl) (.cons (by unfold Rep;rfl) (.cons (by unfold Rep;rfl) .nil))⟩
def D.wN:D->Option D
 | .int i=>if i.natAbs.log2<1920 then some (.str (toString i)) else none
 |_=>none
theorem E9:OpN X (fun xs H Q=> ∃i,xs=[.int i]/\i.natAbs.log2<1920/\Q (.str (toString i)) H) [.rg r] (.rg rg) (un1 D.wN):=fun O H0 H G xs vs d Q e hv gin k=>by
 obtain⟨x,rfl,e1⟩:=lR e
 obtain⟨v,rfl,h1⟩:=y7 hv
 cases x <;> first|(cases e1;done)|skip
 rename_i i
 obtain⟨h2,rfl⟩:=aH (show (if i.natAbs.log2<1920 then some (D.str (toString i)) else none)=some d from e1)
 exact⟨i,by rw[h1.int],h2,k _ H G .refl m5⟩
def D.sH:D->Option D
 | .str a=>if a.length<=640 then (PySem.intText? a).map D.int else none
 |_=>none
theorem Fb:OpN X (fun xs H Q=> ∃a n,xs=[.str a]/\PySem.intText? a=some n/\a.length<=640/\Q (.int n) H) [.rg r] (.rg rg) (un1 D.sH):=fun O H0 H G xs vs d Q e hv gin k=>by
 obtain⟨x,rfl,e1⟩:=lR e
 obtain⟨v,rfl,h1⟩:=y7 hv
 cases x <;> first|(cases e1;done)|skip
 rename_i a
 have e1:(if a.length<=640 then (PySem.intText? a).map D.int else none)=some d:=e1
 by_cases z:a.length<=640
 ·rw[if_pos z] at e1
  cases q:PySem.intText? a with
  |none=>rw[q] at e1;cases e1
  |some n=>
   rw[q] at e1;cases e1
   exact⟨a,n,by rw[h1.str],q,z,k _ H G .refl g8⟩
 ·rw[if_neg z] at e1;cases e1
theorem CJ:OpR X (binaryOp .Add) (fun x y H Q=> ∃l b xs zs,x= .ref l/\y= .ref b/\SqL X.K H l xs/\H b=some (.lst zs)/\xs.length+zs.length<=sizeLine/\ ∀p,H p=none->Q (.ref p) (upd H p (.lst (xs++zs)))):=by
 intro pins s σ H x y v u Q I rx ry h
 obtain⟨l,b,xs,zs,rfl,rfl,hH,hB,hz,q⟩:=h
 cases rx
 cases ry
 obtain⟨its,r,pl,z⟩:=I.list hH
 obtain⟨⟨cls,dd,data,sl⟩,n,ho,hc,_,hd⟩:=pl
 simp only at hc hd
 subst hc hd
 obtain⟨z2,its2,n2,r2,hl2,e2⟩:=I.lstM hB
 have hl:=r.length
 refine concat_meets ⟨_,ho,rfl⟩ ⟨_,e2,rfl⟩ noFill_list_add seq_list_add PySem.F.slot_list_add PySem.F.entry_list_add (PySem.F.args_list_add_2 _ _) (list_addW l b its.toArray its2.toArray n n2 dd none sl #[] (by rw[List.size_toArray,List.size_toArray];omega)) ⟨ho,e2,?_⟩
 have ea:its.toArray++its2.toArray=(its++its2).toArray:=by simp
 rw[ea]
 exact⟨.ref _,_,I.lnew (t':=s.toks) (r.append r2) (by rw[List.length_append];omega),rfl,q _ I.fresh⟩
def D.wO (x y:D):Option D:=match x,y with
 | .sc ns,.lst ds=>if ns.length+ds.length<=sizeLine then some (.lst (ns.map D.int++ds)) else none
 |_,_=>none
theorem Fc:Op2 X (fun x y H Q=> ∃l b xs zs,x= .ref l/\y= .ref b/\SqL X.K H l xs/\H b=some (.lst zs)/\xs.length+zs.length<=sizeLine/\ ∀p,H p=none->Q (.ref p) (upd H p (.lst (xs++zs)))) (.rg r) (.rg .fz) (.nw (.ls .fz)) D.wO:=fun O H0 H G x y v w d Q e hx hy gin k=>by
 cases x <;> cases y <;> first|cases e|skip
 rename_i ys ns
 first
  |(obtain⟨q,rfl⟩:=aH (show (if ns.length+ys.length<=sizeLine then some (D.lst (ns.map D.int++ys)) else none)=some d from e)
    unfold bA Rep at hx hy
    obtain⟨a,rfl,l⟩:=hx
    obtain⟨b,ws,rfl,_,l',rr'⟩:=hy
    exact⟨a,b,_,ws,rfl,rfl,l.sq,l',by rw[List.length_map,rr'.length];exact q,fun p hp=>k _ _ G (.new hp) (oV hp gin ((oW ns).append rr'))⟩)
  |(obtain⟨q,rfl⟩:=aH (show (if ys.length+ns.length<=sizeLine then some (D.lst (ys.map D.int++ns)) else none)=some d from e)
    unfold bA Rep at hx hy
    obtain⟨a,rfl,l⟩:=hx
    obtain⟨b,ws,rfl,_,l',rr'⟩:=hy
    exact⟨a,b,_,ws,rfl,rfl,l.sq,l',by rw[List.length_map,rr'.length];exact q,fun p hp=>k _ _ G (.new hp) (oV hp gin ((oW ys).append rr'))⟩)
end
end Sw
namespace Sw
open PySem PySem.Spec PyProof.Rows L2
variable [NmC]
section
variable {α β γ δ:Type} {X:Cx} {E:Exits α β} {Δ:List Md} {st:Ds} {rest body orelse:List Stmt} {e:Expr} {pos:Pos} {r:Rg} {ra:Option D} {tg:Expr}
def Fd (rb:Option (Out γ β)) (ro:γ->Option (Out δ β)) (k:δ->Option (Out α β)):Option (Out α β):=(rb.bind (sqO ro)).bind (sqO k)
theorem Fe (Dj:List Md) (ej:γ->Ds) (D2:List Md) (e2:δ->Ds) {h₀:ExceptHandler} {hs:List ExceptHandler} {rb:Option (Out γ β)} {ro:γ->Option (Out δ β)} {k:δ->Option (Out α β)} (hb:Blk X (E.join Dj ej) Δ st body rb) (ho: ∀a,Blk X (E.join D2 e2) Dj (ej a) orelse (ro a)) (h: ∀a,Blk X E D2 (e2 a) rest (k a))
  (hn: ∀e s,¬X.xe e s:=by exact fun _ _ h=>h):Blk X E Δ st (.Try body (h₀::hs) orelse [] pos::rest) (Fd rb ro k):=
 g7 (pss_cons (ps_try_never hn hb (gc ho)) (gc h)) fun De σ H ⟨O,G,q,rel,er,kk⟩=>by
  obtain⟨o2,e3,e4⟩:=bind1 er
  obtain⟨o1,e5,e6⟩:=bind1 e3
  have m2:=Meets.seq (Dj:=D2) (ej:=e2) (U:=fun σ H=> ∃a,rdS X.K E D2 (e2 a) (k a) De σ H) e4 kk fun a ea σ' H' G' rel'=>⟨a,O,G',q,rel',ea,kk⟩
  have m1:=Meets.seq (Dj:=Dj) (ej:=ej) (U:=fun σ H=> ∃a,rdS X.K (E.join D2 e2) Dj (ej a) (ro a) {De with nx:=fun σ H=> ∃a,rdS X.K E D2 (e2 a) (k a) De σ H} σ H) e6 m2 fun a ea σ' H' G' rel'=>⟨a,O,G',o2,rel',ea,m2⟩
  exact⟨O,G,o1,rel,e5,m1⟩
def D.pr3:D->Option (D×D×D)
 | .tup [a,b,c]=>some (a,b,c)
 |_=>none
theorem yh (i j l:Nat) (Δ':List Md) (st':D×D×D->Ds) {k:D×D×D->Option (Out α β)} (he:PX X Δ st e (.rg r) ra) (hr:r≠ .hb) (hg:PG X tg (gTup X.K 3 (gCons (gName i) (gCons (gName j) (gCons (gName l) gNil))))) (h: ∀d,Blk X E Δ' (st' d) rest (k d))
  (e1:((Δ.set i (mdR r)).set j (mdR r)).set l (mdR r)=Δ':=by rfl) (e2: ∀d:D×D×D,((st.set i (some d.1)).set j (some d.2.1)).set l (some d.2.2)=st' d:=by intro _;rfl) (hi:i<Δ.length:=by exact Nat.le_of_ble_eq_true rfl) (hj:j<Δ.length:=by exact Nat.le_of_ble_eq_true rfl) (hl:l<Δ.length:=by exact Nat.le_of_ble_eq_true rfl)
  (hs1:swapsWithSole [tg] e pos.line X.env=pure false:=by rfl) (hw:swappedStores [tg] e X.env=pure none:=by rfl) (h1:(assignEach [tg] X.env).map (·.2)=[assign tg X.env]:=by rfl):
  Blk X E Δ st (.Assign [tg] e pos::rest) ((b1 D.pr3 ra).bind k):=by
 refine g7 (pss_cons (ps_asg he hg hs1 hw h1) (gc h)) fun De σ H ⟨O,G,qq,rel,er,kk⟩=> ?_
 obtain⟨p,e3,e4⟩:=bind1 er
 obtain⟨x,e5,e6⟩:=bind1 e3
 refine rdE.go rel e5 fun v H1 G1 rel1 x1 v1=> ?_
 have hp:x= .tup [p.1,p.2.1,p.2.2]:=by
  match x,e6 with
  | .tup [a,b,c],e6=>cases e6;rfl
 subst hp
 have v1:Rep X.K (rgn O G1 r) H1 (.tup [p.1,p.2.1,p.2.2]) v:=v1
 unfold Rep at v1
 obtain⟨a,vs,rfl,t,rr⟩:=v1
 unfold aB at rr
 obtain⟨u,vs0,rfl,r1,rr⟩:=rr
 unfold aB at rr
 obtain⟨w,vs1,rfl,r2,rr⟩:=rr
 unfold aB at rr
 obtain⟨z,vs2,rfl,r3,rr⟩:=rr
 unfold aB at rr
 subst rr
 refine⟨a,[u,w,z],rfl,t.sq,rfl,u,[w,z],rfl,w,[z],rfl,z,[],rfl,rfl,p,O,G1,qq,?_,e4,kk⟩
 rw[<-e1,←e2]
 exact rA hr (rA hr (rA hr rel1 hi r1) (by simpa using hj) r2) (by simpa using hl) r3
end
def SaysX (fa:List He.Fa) (fn:List He.DefD) (tp:List (Str×List Str)) (K:PySem.W.Frag):Prop:=He.SaysD fa fn K/\(tp.all fun p=>Ef K p.1 p.2)=true
theorem SaysX.tup {fa:List He.Fa} {fn:List He.DefD} {tp:List (Str×List Str)} {K:PySem.W.Frag} (c:SaysX fa fn tp K) (i:Nat) {x:Str} {zs:List Str} (h:tp[i]? =some (x,zs):=by rfl):Ef K x zs=true:=List.all_eq_true.mp c.2 _ (List.mem_of_getElem? h)
end Sw
namespace Sw
open PySem PySem.Spec PyProof.Rows L2
variable [NmC]
section
variable {α β γ:Type} {X:Cx} {E:Exits α β} {Δ:List Md} {st:Ds} {rest body:List Stmt} {a b c e o:Expr} {es:List Expr} {pos apos cpos:Pos} {r rg:Rg} {m ma mb mc:VM} {ra rb rc:Option D}
theorem yi:OpR X (binaryOp .Mult) (fun x y H Q=> ∃(a:Str) (i:Int),x= .str a/\y= .int i/\MulOk a i/\Q (.str (Txt.mul a i)) H):=by
 intro pins s σ H x y v u Q I rx ry h
 obtain⟨a,i,rfl,rfl,ok,q⟩:=h
 obtain⟨t,rfl⟩:=rx
 obtain⟨t',rfl⟩:=ry
 exact SB.mul ok fun t2 k=>⟨.str _,H,I.tok _,⟨_,rfl⟩,q⟩
noncomputable def D.mI (x y:D):Option D:=match x,y with
 | .str a,.int i=>cif (MulOk a i) (.str (Txt.mul a i))
 |_,_=>none
theorem Ay:Op2 X (fun x y H Q=> ∃(a:Str) (i:Int),x= .str a/\y= .int i/\MulOk a i/\Q (.str (Txt.mul a i)) H) (.rg r) (.rg r') (.rg rg) D.mI:=fun O H0 H G x y v w d Q e hx hy _ k=>by
 cases x <;> first|(cases e;done)|skip
 cases y <;> first|(cases e;done)|skip
 rename_i a i
 obtain⟨ok,rfl⟩:=nU (show cif (MulOk a i) (D.str (Txt.mul a i))=some d from e)
 exact⟨a,i,hx.str,hy.int,ok,k _ H G .refl m5⟩
theorem Az {K:Frg} {O:Org} {σ:CS} {H:Hp} {G:Sa} {i:Nat} {md:Md} {d:D} (rel:Rel K O Δ st σ H G) (hm:Δ[i]? =some md) (hd:st[i]? =some (some d)): ∃v,σ[i]? =some (some v)/\Rep K (fun _=>True) H d v:=by
 obtain⟨L,g,s⟩:=rel
 obtain⟨x',y',L1,L2,ex,ey,sr,pm,_⟩:=s.split hm
 rw[hd] at ex;cases ex
 cases md with
 |bo=>obtain⟨v,e1,r1,_⟩:=sr;subst e1;exact⟨v,ey,Rep.mono (fun _ _=>trivial) au _ _ r1⟩
 |fz=>obtain⟨v,e1,r1,_⟩:=sr;subst e1;exact⟨v,ey,Rep.mono (fun _ _=>trivial) au _ _ r1⟩
 |ow s=>obtain⟨v,e1,r1⟩:=sr;subst e1;exact⟨v,ey,Rep.mono (fun _ _=>trivial) au _ _ (Own.rep _ _ _ _ r1)⟩
 |pn v s=>obtain⟨e1,r1⟩:=sr;subst e1;exact⟨v,ey,Rep.mono (fun _ _=>trivial) au _ _ (Own.rep _ _ _ _ r1)⟩
 |bl=>obtain⟨v,e1,r1,_⟩:=sr;subst e1;exact⟨v,ey,r1.rep⟩
theorem CK (i:Nat) (Δ':List Md) (st':D->Ds) {op:Operator} {fI:Int->Int->Int} {fD:D->D->Option D} (hip:PIp X op (ipI fI)) (hfD: ∀x y d,fD x y=some d-> ∃p q,x= .int p/\y= .int q/\d= .int (fI p q)) {x:Str} {p':Pos} {md:Md} {d0:D} {k:D->Option (Out α β)} (he:PX X Δ st e (.rg r) ra) (h: ∀d,Blk X E Δ' (st' d) rest (k d)) (hx:Loc X.env.scope x) (hnd:X.N.Nodup) (hm:Δ[i]? =some md:=by rfl) (hd:st[i]? =some (some d0):=by rfl) (e1:Δ.set i .fz=Δ':=by rfl) (e2: ∀d,st.set i (some d)=st' d:=by intro _;rfl) (hi:i<Δ.length:=by exact Nat.le_of_ble_eq_true rfl) (hN:X.N[i]? =some x:=by rfl)
  (hf:X.fn x=true\/X.env.scope.names.lookup x=some .local:=by first|exact .inl rfl|exact .inr rfl|assumption):
  Blk X E Δ st (.AugAssign (.Name x p') op e pos::rest) ((b2 fD (some d0) ra).bind k):=
 g7 (pss_cons (ps_aug hnd hN hx he hip hf) (gc h)) fun De σ H ⟨O,G,qq,rel,er,kk⟩=>by
  obtain⟨d,e3,e4⟩:=bind1 er
  obtain⟨y,z,e5,e6,e7⟩:=cq e3
  cases e5
  obtain⟨p,q,rfl,rfl,rfl⟩:=hfD _ _ _ e7
  obtain⟨v,ev,rv⟩:=Az rel hm hd
  unfold Rep at rv
  subst rv
  refine⟨_,ev,rdE.go rel e6 fun u H1 G1 rel1 x1 v1=>⟨p,q,rfl,v1.int,.int (fI p q),O,G1,qq,?_,e4,kk⟩⟩
  rw[<-e1,←e2]
  exact rel1.lQ (m:=.rg .fz) .refl hi rfl g8
theorem Ff (x y d:D) (h:D.cQ x y=some d): ∃p q,x= .int p/\y= .int q/\d= .int (p+q):=by
 cases x <;> cases y <;> first|(cases h;done)|(cases h;exact⟨_,_,rfl,rfl,rfl⟩)
end
end Sw
namespace Sw
open PySem PySem.Spec PyProof.Rows L2
variable [NmC]
theorem AA (m:Nat) (owner:Array (Option Nat)): ∀(f n i b:Nat),n<f->oAt owner (itL m i b n).1=none-> ∃j,SetTable.layClean.free m owner f i b=some j/\oAt owner j=none
 |0,n,i,b,hn,_=>by omega
 |f+1,n,i,b,hn,hx=>by
  rw[free_succ]
  cases e:(List.range (SetTable.runEnd m i+1 -i)).find? fun k=>(oAt owner (i+k)).isNone with
  |some k=>
   refine⟨i+k,rfl,?_⟩
   have:=List.find?_some e
   simpa using this
  |none=>
   cases n with
   |zero=>
    exfalso
    have h0:0∈List.range (SetTable.runEnd m i+1 -i):=List.mem_range.mpr (by have:=runEnd_ge m i;omega)
    have:=List.find?_eq_none.mp e 0 h0
    apply this
    show (oAt owner (i+0)).isNone=true
    rw[Nat.add_zero,show oAt owner i=none from hx];rfl
   |succ n=>
    exact AA m owner f n _ _ (by omega) hx
structure G6 (m:Nat) (n:Nat) (owner:Array (Option Nat)) (ps:List Nat):Prop where
 sz:owner.size=m+1
 nd:ps.Nodup
 len:ps.length=n
 tk: ∀j,j∈ps↔j<=m/\oAt owner j≠none
 lt: ∀j k,j<=m->oAt owner j=some k->k<n
 all: ∀k,k<n-> ∃j,j<=m/\oAt owner j=some k
theorem G6.zero (m:Nat):G6 m 0 (Array.replicate (m+1) none) [] where
 sz:=by simp
 nd:=List.nodup_nil
 len:=rfl
 tk:=fun j=>⟨fun h=>(by cases h),fun⟨h,g⟩=>absurd (oAt_init h) g⟩
 lt:=fun j k h e=>by rw[oAt_init h] at e;cases e
 all:=fun k h=>by omega
end Sw
namespace Sw
open PySem PySem.Spec PyProof.Rows L2
variable [NmC]
def CL (e:Int×Value):Str:=match e.2 with
 | .str x _=>x
 |_=>""
def Fg (w:World) (e:Int×Value):Prop:= ∃x tk,e.2=Value.str x tk/\e.1=keyH w (.inr x)
structure sI (w:World) (h:Heap) (a:Addr) (es:Array (Int×Value)) (ep:Nat) (t:SetTable) (ks:List Str):Prop where
 ob: ∃o,h.get? a=some o/\o.ExactSet/\o.data= .set es ep t
 rows: ∀e∈es.toList,Fg w e
 keys:(es.toList.map CL).Perm ks
 nd:ks.Nodup
 few:ks.length<1000
 fits:t.fits es.size=true
 ris:Ris t.place.toList
 led:w.params.followText "set-order" =true\/t.led=true
section
variable {P:Program} {w:World} {A:Around} {E:Value->Shared->Prop} {s:Shared} {a:Addr} {es:Array (Int×Value)} {ep:Nat} {t:SetTable} {ks:List Str}
theorem sI.size {h:Heap} (R:sI w h a es ep t ks):es.size=ks.length:=by
 rw[<-R.keys.length_eq,List.length_map,Array.length_toList]
theorem sI.lt {h:Heap} (R:sI w h a es ep t ks):es.size<scanBound:=by
 rw[R.size];have:=R.few;unfold scanBound;omega
theorem Fg.is {e:Int×Value} (h:Fg w e) (x:Str):(mixKind P w).is (.inr x) e.2=true↔CL e=x:=by
 obtain⟨y,tk,h1,_⟩:=h
 have hy:(mixKind P w).is (.inr y) e.2=true:=by rw[h1];exact mixKind_str P w y tk
 have er:CL e=y:=by unfold CL;rw[h1]
 rw[er]
 constructor
 ·intro q
  have:=(mixKind P w).inj e.2 _ _ q hy
  exact (Sum.inr.inj this).symm
 ·rintro rfl;exact hy
theorem sI.at {h h':Heap} (R:sI w h a es ep t ks) (k: ∀o,h.get? a=some o->h'.get? a=some o):sI w h' a es ep t ks:=by
 obtain⟨⟨o,ho,r⟩,r2,r3,r4,r5,r6,r7,r8⟩:=R
 exact⟨⟨o,k o ho,r⟩,r2,r3,r4,r5,r6,r7,r8⟩
end
end Sw
namespace Sw
open PySem PySem.Spec PyProof.Rows L2
variable [NmC]
section
variable {P:Program} {w:World} {A:Around} {E:Value->Shared->Prop} {s:Shared} {a b:Addr} {es eo:Array (Int×Value)} {ep epo:Nat} {t to:SetTable} {ks js:List Str}
theorem sI.other {h h':Heap} (R:sI w h b eo epo to js) (hne:b≠a) (sb:Heap.SameBut a h h'):sI w h' b eo epo to js:=R.at fun o e=>(sb.2 b hne).trans e
end
end Sw
namespace Sw
open PySem PySem.Spec PyProof.Rows L2
variable [NmC]
section
variable {K:Frg} {S:Sa} {H:Hp}
def AB (H:Hp) (T:Sa) (L:List Addr):List (Str×List Str)->List V->Prop
 | [],vs=>vs=[]
 |p::ps,vs=> ∃t b r,vs= .ref t::r/\T t/\H t=some (.tup [.str p.1,.ref b])/\b∈L/\H b=some (.lst (p.2.map V.str))/\AB H T L ps r
theorem AB.more {T:Sa} {L L':List Addr} (s: ∀p∈L,p∈L'): ∀{ps:List (Str×List Str)} {vs:List V},AB H T L ps vs->AB H T L' ps vs
 | [],_,h=>h
 |p::ps,_,⟨t,b,r,e,h1,h2,h3,h4,h5⟩=>⟨t,b,r,e,h1,h2,s b h3,h4,AB.more s h5⟩
end
end Sw
namespace Sw
open PySem PySem.Spec PyProof.Rows L2
variable [NmC]
section
variable {P:Program} {w:World} {A:Around} {E:Value->Shared->Prop} {s:Shared} {a:Addr}
structure Same (ls xs:List Str):Prop where
 nd:ls.Nodup
 mem: ∀z,z∈ls↔z∈xs
end
theorem Same.len {ls ms xs:List Str} (h:Same ls xs) (g:Same ms xs):ls.length=ms.length:=
 ((List.perm_ext_iff_of_nodup h.nd g.nd).mpr fun z=>(h.mem z).trans (g.mem z).symm).length_eq
end Sw
namespace Sw
open PySem PySem.Spec PyProof.Rows L2
variable [NmC]
section
variable {K:Frg} {S G G' B B':Sa} {H H':Hp}
theorem fv.get (f:Str): ∀{ds:List (Str×D)} {vs:List (Str×V)},fv K S H ds vs->(∀d,ds.lookup f=some d-> ∃v,vs.lookup f=some v/\Rep K S H d v)/\(ds.lookup f=none->vs.lookup f=none)
 | [],_,h=>by
  unfold fv at h
  rw[h]
  exact⟨fun d e=>(nomatch e),fun _=>rfl⟩
 |(g,d)::ds,_,h=>by
  unfold fv at h
  obtain⟨v,r,rfl,h1,h2⟩:=h
  have ih:=fv.get f h2
  cases hb:(f==g) with
  |true=>
   simp only[List.lookup_cons,hb]
   exact⟨fun d' e=>⟨v,rfl,(Option.some.inj e)▸h1⟩,fun e=>nomatch e⟩
  |false=>
   simp only[List.lookup_cons,hb]
   exact ih
theorem Rep.ins {C:Str} {fs:List (Str×D)} {v:V} (h:Rep K S H (.ins C fs) v): ∃a dx vs,v= .ref a/\H a=some (.ins (He.ga K C) dx vs)/\fv K S H fs vs:=by
 unfold Rep at h
 obtain⟨a,dx,vs,e,_,ha,r⟩:=h
 exact⟨a,dx,vs,e,ha,r⟩
end
def D.fld (C f:Str) (x:D):Option D:=match x with
 | .ins C' fs=>if C'=C then fs.lookup f else none
 |_=>none
def G7 (m:Str) (tbl:List (Str×(List D->Option FR))) (ds:List D):Option FR:=match ds with
 | .ins C fs::r=>if (fs.lookup m).isNone=true then (tbl.lookup C).bind fun F=>F (.ins C fs::r) else none
 |_=>none
structure Mth (P:Program) (w:World) (K:Frg) (mg:Str->Option Value) (base:Heap) (k:Nat) (m:Str) (ps:List Str) (ms:List PM) (rm:VM) (Fs:List D->Option FR):Prop where
 at_: ∀ds fr,Fs ds=some fr-> ∃(C:Str) (fs:List (Str×D)) (r:List D) (f:Addr) (fd:FuncData) (F:List D->Option FR),ds= .ins C fs::r/\fs.lookup m=none/\Cls K (He.ga K C)/\Meth K (He.ga K C) m f∧
  FnOk P w K mg base CX0 k f fd ps (FSp K ms rm F)/\Binds K fd ps []/\F ds=some fr
structure I0 (P:Program) (w:World) (K:Frg) (mg:Str->Option Value) (base:Heap) (k:Nat) (C m:Str) (ps:List Str) (ms:List PM) (rm:VM) (F:List D->Option FR):Prop where
 cl:Cls K (He.ga K C)
 ok: ∃(f:Addr) (fd:FuncData),Meth K (He.ga K C) m f/\FnOk P w K mg base CX0 k f fd ps (FSp K ms rm F)/\Binds K fd ps []
section
variable {P:Program} {w:World} {K:Frg} {mg:Str->Option Value} {base:Heap} {k k':Nat} {m:Str} {ps:List Str} {ms:List PM} {rm:VM} {tbl:List (Str×(List D->Option FR))}
theorem Mth.of (h: ∀q∈tbl,I0 P w K mg base k q.1 m ps ms rm q.2):Mth P w K mg base k m ps ms rm (G7 m tbl) where
 at_:=fun ds fr e=>by
  unfold G7 at e
  split at e
  ·rename_i C fs r
   split at e
   ·rename_i hn
    obtain⟨F,e1,e2⟩:=bind1 e
    have hin:(C,F)∈tbl:=by
     clear e h
     induction tbl with
     |nil=>cases e1
     |cons q t ih=>
      obtain⟨C',F'⟩:=q
      cases hb:(C==C') with
      |true=>
       simp only[List.lookup_cons,hb] at e1
       cases e1
       rw[beq_iff_eq] at hb
       subst hb
       exact List.mem_cons_self
      |false=>
       simp only[List.lookup_cons,hb] at e1
       exact List.mem_cons_of_mem _ (ih e1)
    obtain⟨c,f,fd,h1,h2,h3⟩:=h _ hin
    exact⟨C,fs,r,f,fd,F,rfl,by simpa using hn,c,h1,h2,h3,e2⟩
   ·cases e
  ·cases e
theorem Mth.none:Mth P w K mg base k m ps ms rm (fun _=>none):=⟨fun _ _ e=>nomatch e⟩
end
end Sw
namespace Sw
open PySem PySem.Spec PyProof.Rows L2
variable [NmC]
def Md.re:Md->Sh->Md
 | .ow _,s=>.ow s
 | .pn v _,s=>.pn v s
 |m,_=>m
def AD (f:Str) (s:Sh):List (Str×Sh)->List (Str×Sh)
 | []=>[(f,s)]
 |(g,y)::r=>if g=f then (g,s)::r else (g,y)::AD f s r
section
variable {K:Frg} {O:Org} {H H':Hp} {G G':Sa} {Δ:List Md} {st:Ds} {σ:CS} {i:Nat} {md:Md} {s s':Sh} {d d':D} {v0 v:V} {L Lv:List Addr}
theorem cV.put {f:Str} {x:D} {w:V} {Lw:List Addr} (hx:Own K G' H' s' x w Lw) (hG: ∀p,G p->G' p) (ha:Agr G H H'): ∀{fs:List (Str×Sh)} {ds:List (Str×D)} {vs:List (Str×V)} {L:List Addr},(∀p∈L,H' p=H p)->cV K G H fs ds vs L→
  ∃L' M,M.Sublist L/\L'.Perm (Lw++M)/\cV K G' H' (AD f s' fs) (qZ f x ds) (putF f w vs) L'
 | [],ds,vs,L,_,o=>by
  unfold cV at o
  obtain⟨rfl,rfl,rfl⟩:=o
  refine⟨Lw++[],[],List.Sublist.refl _,.refl _,?_⟩
  unfold AD qZ putF cV
  refine⟨x,[],w,[],Lw,[],rfl,rfl,hx,?_,rfl⟩
  unfold cV
  exact⟨rfl,rfl,rfl⟩
 |(g,s0)::fs,ds,vs,L,hl,o=>by
  unfold cV at o
  obtain⟨d1,dr,v1,vr,L1,L2,rfl,rfl,o1,o2,rfl⟩:=o
  by_cases e:g=f
  ·refine⟨Lw++L2,L2,List.sublist_append_right _ _,.refl _,?_⟩
   unfold AD qZ putF
   rw[if_pos e,if_pos e,if_pos e]
   unfold cV
   exact⟨x,dr,w,vr,Lw,L2,rfl,rfl,hx,cV.mono hG ha fs dr vr L2 (fun p m=>hl p (List.mem_append_right _ m)) o2,rfl⟩
  ·obtain⟨L',M,sl,pm,o'⟩:=cV.put (f:=f) hx hG ha (fun p m=>hl p (List.mem_append_right _ m)) o2
   refine⟨L1++L',L1++M,List.Sublist.append (List.Sublist.refl _) sl,(List.Perm.append_left L1 pm).trans (dJ L1 Lw M),?_⟩
   unfold AD qZ putF
   rw[if_neg e,if_neg e,if_neg e]
   unfold cV
   exact⟨d1,_,v1,_,L1,L',rfl,rfl,Own.mono hG ha s0 d1 v1 L1 (fun p m=>hl p (List.mem_append_left _ m)) o1,o',rfl⟩
end
end Sw
namespace Sw
open PySem PySem.Spec PyProof.Rows L2
variable [NmC]
def AE (fa:List He.Fa) (fn:List He.DefD) (ex:Frg->Bool) (K:Frg):Prop:=He.SaysD fa fn K/\ex K=true
end Sw
namespace Sw
open PySem PySem.Spec PyProof.Rows L2
variable [NmC]
section
variable {P:Program} {w:World} {K:Frg} {mg:Str->Option Value} {base:Heap} {k k':Nat} {C C1 C2 m:Str} {ps:List Str} {ms:List PM} {rm:VM} {F F1 F2:List D->Option FR} {f:Addr} {fd:FuncData}
theorem AE.ex {fa:List He.Fa} {fn:List He.DefD} {xs:List (Frg->Bool)} (c:AE fa fn (fun K=>xs.all fun f=>f K) K) (i:Nat) {g:Frg->Bool} (h:xs[i]? =some g:=by rfl):g K=true:=List.all_eq_true.mp c.2 _ (List.mem_of_getElem? h)
end
end Sw
namespace Sw
open PySem PySem.Spec PyProof.Rows L2
variable [NmC]
section
variable {α β:Type} {X:Cx} {E:Exits α β} {Δ:List Md} {st:Ds} {rest:List Stmt} {e tg a b c:Expr} {pos p:Pos} {r r2' r3 rg:Rg}
noncomputable def D.JY (xs:List D):Option (List D):=match xs with
 | [.int i,.int j,.int c]=>if (okR i&&okR j&&decide (c=2))=true then some ((List.range ((j -i+1)/2).toNat).map fun k:Nat=>D.int (i+(k:Nat)*2)) else none
 |_=>none
def D.zj:D->Option D
 | .int i=>some (.int (if i<0 then -i else i))
 |_=>none
theorem Fh:OpN X (fun xs H Q=> ∃i,xs=[.int i]/\Q (.int (if i<0 then -i else i)) H) [.rg r] (.rg rg) (un1 D.zj):=fun O H0 H G xs vs d Q e hv gin k=>by
 obtain⟨x,rfl,e1⟩:=lR e
 obtain⟨v,rfl,h1⟩:=y7 hv
 cases x <;> first|(cases e1;done)|skip
 rename_i t
 cases (show some (D.int (if t<0 then -t else t))=some d from e1)
 exact⟨t,by rw[h1.int],k _ H G .refl g8⟩
end
end Sw
namespace Sw
open PySem PySem.Spec PyProof.Rows L2
section
variable {X:Cx} {pins:List (Addr×Obj)} {σ:L2.St} {JH:Hp->Prop} {a q I S:Addr} {xs:List V} {kf:Nat->Int} {Q:VK}
structure MxI (X:Cx) (pins:List (Addr×Obj)) (σ:L2.St) (JH:Hp->Prop) (I S:Addr) (oI oS:Obj) (H:Hp) (s:Shared):Prop where
 inv:Inv X pins σ H s
 j:JH H
 fI:FpOk X pins H I
 fS:FpOk X pins H S
 gI:s.heap.get? I=some oI
 gS:s.heap.get? S=some oS
theorem MxI.turn {oI oS oI' oS':Obj} {H:Hp} {s:Shared} {h':Heap} {tk:Nat} (m:MxI X pins σ JH I S oI oS H s) (k: ∀b o,b∉[I,S]->s.heap.get? b=some o->h'.get? b=some o) (eI:h'.get? I=some oI') (eS:h'.get? S=some oS'):
  MxI X pins σ JH I S oI' oS' H {s with heap:=h',toks:=tk}:=
 ⟨m.inv.turnedL k (fun b hb=>by
  rcases List.mem_cons.mp hb with rfl|hb
  ·exact m.fI
  ·rw[List.mem_singleton.mp hb];exact m.fS),m.j,m.fI,m.fS,eI,eS⟩
theorem MxI.call {oI oS:Obj} {H:Hp} {s:Shared} {i:Nat} {v:Value} {E:Value->Shared->Prop} {P:Value->Shared->Prop} (m:MxI X pins σ JH I S oI oS H s) (nI: ∀v,oI.data≠ .cell v) (nS: ∀v,oS.data≠ .cell v)
  (turn: ∀(pins1:List (Addr×Obj)) (H1:Hp) (s1:Shared),(∀p∈pins,p∈pins1)->Inv X pins1 σ H1 s1->JH H1->wpAny (model X.prog X.w) X.A.in1 (PySem.call (.ref q) [v]) (EP X pins1 σ fun y H2=>y= .int (kf i)/\JH H2) (fun _ _=>False) s1)
  (h: ∀(t:Tok) (H2:Hp) (s2:Shared),MxI X pins σ JH I S oI oS H2 s2->P (.int (kf i) t) s2):
  wpAny (model X.prog X.w) X.A.in1 (PySem.call (.ref q) [v]) P E s:=by
 have J:=m.inv.pinned (fp:=[I,S]) (fun b hb=>by
  rcases List.mem_cons.mp hb with rfl|hb
  ·exact m.fI
  ·rw[List.mem_singleton.mp hb];exact m.fS) (fun b hb=>by
  rcases List.mem_cons.mp hb with rfl|hb
  ·exact⟨oI,m.gI,nI⟩
  ·rw[List.mem_singleton.mp hb];exact⟨oS,m.gS,nS⟩)
 refine wpAny_mono (turn _ H s (fun p hp=>List.mem_append_left _ hp) J m.j) (fun u s2 hq=> ?_) fun _ _ hF=>hF.elim
 obtain⟨y,H2,J2,r,e,j2⟩:=hq
 subst e
 obtain⟨t,rfl⟩:=r
 have pin: ∀b o,b∈[I,S]->s.heap.get? b=some o->s2.heap.get? b=some o/\H2 b=none:=fun b o hb e=>
  let z:=J2.pin (b,o) (List.mem_append_right _ (List.mem_append_right _ (mem_pinsAt hb e)))
  ⟨z.1,z.2.1⟩
 have pI:=pin I oI (by simp) m.gI
 have pS:=pin S oS (by simp) m.gS
 exact h t H2 s2 ⟨J2.unpinned,j2,⟨pI.2,m.fI.2⟩,⟨pS.2,m.fS.2⟩,pI.1,pS.1⟩
end
end Sw
namespace Sw
open PySem PySem.Spec PyProof.Rows L2
structure LF where
 q:Str
 params:Arguments
 body:Expr
 scope:Scope
 cl:List (Str×Addr)
 c:Addr
end Sw
namespace Sw
open PySem PySem.Spec PyProof.Rows L2
section
variable [NmC]
structure TabAt (base:Heap) (mg:Str->Option Value) (cdv:Value) (q:Str) (c P:Addr):Prop where
 code:cdv= .ref c
 tb:LamX.TabB base mg c P
 mem:(P,q)∈NmC.T
 uni: ∀p∈NmC.T,p.1=P->p.2=q
def lU (base:Heap) (mg:Str->Option Value) (cdv:Value) (q:Str):Prop:= ∃c P,TabAt base mg cdv q c P
end
def mT (K:Frg) (tf:List (He.Defn×Str)):List (Addr×Str):=tf.map fun p=>((He.cT K p.1).2,p.2)
theorem AF {K:Frg} {tf:List (He.Defn×Str)} (h:xY K tf=true) {p:He.Defn×Str} (hp:p∈tf): ∀q∈mT K tf,q.1=(He.cT K p.1).2->q.2=p.2:=fun q hq e=>by
 obtain⟨r,hr,rfl⟩:=List.mem_map.mp hq
 have nd:=of_decide_eq_true h
 obtain⟨i,hi,ei⟩:=List.mem_iff_getElem.mp hr
 obtain⟨j,hj,ej⟩:=List.mem_iff_getElem.mp hp
 have pw:=List.pairwise_iff_getElem.mp nd
 have hl:(tf.map fun p=>(He.cT K p.1).2).length=tf.length:=List.length_map ..
 have e:(He.cT K r.1).2=(He.cT K p.1).2:=e
 rcases Nat.lt_trichotomy i j with l|l|l
 ·have z:=pw i j (by omega) (by omega) l
  rw[List.getElem_map,List.getElem_map,ei,ej] at z
  exact absurd e z
 ·subst l
  rw[ei] at ej;rw[ej]
 ·have z:=pw j i (by omega) (by omega) l
  rw[List.getElem_map,List.getElem_map,ei,ej] at z
  exact absurd e.symm z
section
variable {fa:List He.Fa} {fn:List He.DefD} {tf:List (He.Defn×Str)} {ex:Frg->Bool} {w:World} {h:Heap} {K:Frg}
abbrev mU (fa:List He.Fa) (fn:List He.DefD) (tf:List (He.Defn×Str)) (ex:Frg->Bool) (w:World) (h:Heap) (K:Frg):Prop:=He.SaysX fa fn [] (tf.map (·.1)) (fun K=>xY K tf&&ex K) w h K
theorem mU.y (c:mU fa fn tf ex w h K):AE fa fn ex K:=⟨c.t.d,(Bool.and_eq_true_iff.mp c.more).2⟩
theorem mU.at_ (c:mU fa fn tf ex w h K) {base:Heap} {mg:Str->Option Value} (TB: ∀p∈tf.map (fun p=>He.cT K p.1),LamX.TabB base mg p.1 p.2) {p:He.Defn×Str} (hp:p∈tf) {fd:FuncData} {oc:Value} {od:Option Addr} {osl:Array (Option Value)} {q:Str}
  (lk:K.lookup (He.fAd K p.1)=some ⟨oc,od,.func fd,osl⟩) (cd:PySem.W.codeIn K fd.code q=true): @lU ⟨mT K tf⟩ base mg fd.code p.2:=by
 obtain⟨cc,e⟩:=He.codeIn_ref cd
 have e2:=He.codeOf_eq lk e
 letI:NmC:=⟨mT K tf⟩
 refine⟨cc,(He.cT K p.1).2,⟨e,?_,show _∈mT K tf from List.mem_map.mpr ⟨p,hp,rfl⟩,show ∀q∈mT K tf,_ from AF (Bool.and_eq_true_iff.mp c.more).1 hp⟩⟩
 have:=TB (He.cT K p.1) (List.mem_map.mpr ⟨p,hp,rfl⟩)
 rw[show (He.cT K p.1).1=cc from e2] at this
 exact this
theorem mU.law {l:PySem.W.OpenLaw} {k n:Nat} {x:Str} {mg:Str->Option Value} {fa':Addr} {Fs:List D->Option FR} (KX:K.In h) (c:mU fa fn tf ex w h K) {fd:FuncData} (hb: ∀(s:Shared) (v:Value),BindsTo s fd ⟨[v],[]⟩ [(x,v)])
  (hF: ∀base:Heap,K.In base->base.Ns mainGlobals mg->(∀p∈tf.map (fun p=>He.cT K p.1),LamX.TabB base mg p.1 p.2)->FnOk l.prog w K mg base CX0 k fa' fd [x] (@FSp ⟨mT K tf⟩ K [.bo] (.rg .fz) Fs))
  (hlaw: ∀ns:List Int,ns.length<=n->Fs [.sc ns]=some (.ok (.bl true) [])):LamX.LawAtS l w K CX0 k n x mg fa' h:=by
 refine⟨fd,tf.map (fun p=>He.cT K p.1),_,fun p hp=> ?_,fun p hp=> ?_,fun p hp=> ?_,hb,fun H a ns hl _ hT hS=> ?_,hF⟩
 ·obtain⟨q,hq,rfl⟩:=List.mem_map.mp hp
  exact c.empty _ (List.mem_map.mpr ⟨q,hq,rfl⟩)
 ·obtain⟨q,hq,rfl⟩:=List.mem_map.mp hp
  exact c.out _ (List.mem_map.mpr ⟨q,hq,rfl⟩)
 ·obtain⟨q,hq,rfl⟩:=List.mem_map.mp hp
  exact PySem.W.codeHd_of_K KX (c.hd _ (List.mem_map.mpr ⟨q,hq,rfl⟩))
 ·letI:NmC:=⟨mT K tf⟩
  refine E8 hS (hlaw ns hl) (fun p hp=> ?_)
  obtain⟨q,hq,rfl⟩:=List.mem_map.mp hp
  exact LamX.TabS.nil (hT _ (List.mem_map.mpr ⟨q,hq,rfl⟩))
end
end Sw
namespace Sw
open PySem PySem.Spec PyProof.Rows L2
theorem mU.lam {fa:List He.Fa} {fn:List He.DefD} {tf:List (He.Defn×Str)} {ex:Frg->Bool} {w:World} {h:Heap} {K:Frg} (c:mU fa fn tf ex w h K) {base:Heap} {mg:Str->Option Value} (TB: ∀p∈tf.map (fun p=>He.cT K p.1),LamX.TabB base mg p.1 p.2) {p:He.Defn×Str} (hp:p∈tf)
  {fd:FuncData} {x qual:Str} {ps:Arguments} {bd:List Stmt} {sc:Scope} {ds:List V} {kws:List (Str×V)} (F:FunD K x qual ps bd sc ds kws (He.fAd K p.1) fd): @lU ⟨mT K tf⟩ base mg fd.code p.2:=by
 obtain⟨oc,od,dV,kV,doc,pm,an,cdv,ct,osl,rfl,l,cd,_⟩:=F.ex
 exact c.at_ TB hp l cd
end Sw
namespace Sw
open PySem PySem.Spec PyProof.Rows L2
variable [NmC]
def Eg (K:Frg) (C:Addr) (f:Str):Sp:=fun vs H Q E=> ∃(a:Addr) (v:V),vs=[.ref a,v]/\H a=some (exo a C none)/\ ∀d,H d=none->d≠a->Q .non (upd (upd H d (exd d [(f,v)])) a (exo a C (some d)))
structure Xcl (P:Program) (w:World) (K:Frg) (mg:Str->Option Value) (base:Heap) (Cn fld:Str):Prop where
 ox:OexC K (He.ga K Cn)
 no:PySem.W.findIn K (.ref (He.ga K Cn)) fld=some none
 gm:mg Cn=some (.ref (He.ga K Cn))
 ini: ∃(fI:Addr) (fd:FuncData) (ps:List Str),PySem.W.findIn K (.ref (He.ga K Cn)) "__init__" =some (some (.ref fI))/\PySem.W.typeIn K (.ref fI)=some (.type "function")/\FnOk P w K mg base CX0 1 fI fd ps (Eg K (He.ga K Cn) fld)/\Binds K fd ps []
section
variable {X:Cx} {α β:Type} {E:Exits α β} {Δ:List Md} {st:Ds} {rest:List Stmt} {e:Expr} {ra:Option D}
theorem fv.one {K:Frg} {S S':Sa} {H H':Hp} {f:Str} {d:D} {v:V} (h:Rep K S' H' d v):fv K S' H' [(f,d)] [(f,v)]:=by
 unfold fv
 exact⟨v,[],rfl,h,by unfold fv;rfl⟩
end
end Sw
namespace Sw
open PySem PySem.Spec PyProof.Rows L2
variable [NmC]
structure G8 (K:Frg) (Cn fld S:Str):Prop where
 ox:OexC K (He.ga K Cn)
 no:PySem.W.findIn K (.ref (He.ga K Cn)) fld=some none
 xf:XfC K (He.ga K Cn)
 tr:PySem.W.exmOne K (.ref (He.ga K Cn)) (.ref (He.ga K Cn))=some true
 ii:PySem.W.findIn K (.ref (He.ga K Cn)) "__init__" =some (some (.ref (He.ma K (He.ga K Cn) "__init__")))
 it:PySem.W.typeIn K (.ref (He.ma K (He.ga K Cn) "__init__"))=some (.type "function")
 rd:ClX.CRead K (He.ga K S) (.type "type")
 vv:PySem.W.findCls K (.ref (He.ga K S)) (.type "type") "__init__" =some (.val (.builtin "ValueError.__init__"))
theorem G8.cl {P:Program} {w:World} {K:Frg} {mg:Str->Option Value} {base:Heap} {Cn fld S pn:Str} {fd:FuncData} (T:G8 K Cn fld S) (gm:mg Cn=some (.ref (He.ga K Cn))) (F:FnOk P w K mg base CX0 1 (He.ma K (He.ga K Cn) "__init__") fd ["self",pn] (Eg K (He.ga K Cn) fld)) (hb:Binds K fd ["self",pn] []):Xcl P w K mg base Cn fld:=
 ⟨T.ox,T.no,gm,_,fd,_,T.ii,T.it,F,hb⟩
end Sw
namespace Sw
open PySem PySem.Spec PyProof.Rows L2
variable [NmC]
mutual
def D.flt:D->Bool
 | .non=>true| .bl _=>true| .int _=>true| .str _=>true
 | .tup ds=>zl ds
 |_=>false
def zl:List D->Bool
 | []=>true
 |d::ds=>d.flt&&zl ds
end
mutual
def eJ:Sh->D->Bool
 | .fz,d=>d.flt
 | .ls s,.lst ds=>ds.all fun d=>eJ s d
 | .dc s,.dct ks=>ks.all fun k=>eJ s k.2
 | .is fs,.ins _ ds=>n5 fs ds
 |_,_=>false
def n5:List (Str×Sh)->List (Str×D)->Bool
 | [],_=>true
 |(_,s)::fs,ds=>match ds with
  | []=>false
  |d::dr=>eJ s d.2&&n5 fs dr
end
section
variable {K:Frg} {G:Sa} {H:Hp}
theorem sC.more {G':Sa} (hG: ∀p,G p->G' p): ∀{ps:List (V×Sh)} {ds:List D} {L:List Addr},sC K G H ps ds L->sC K G' H ps ds L
 | [],[],_,h=>h
 |(v,s)::ps,d::ds,_,⟨L1,L2,h1,h2,e⟩=>⟨L1,L2,Own.mono hG au s d v L1 (fun _ _=>rfl) h1,sC.more hG h2,e⟩
 | [],_::_,_,h=>h.elim
 |_::_,[],_,h=>h.elim
end
end Sw
namespace Sw
open PySem PySem.Spec PyProof.Rows L2
variable [NmC]
def irQ (K:Frg) (S:Sa) (H:Hp) (p:D×D×D) (x:V):Prop:= ∃a v w u,x= .ref a/\SqT K H a [v,w,u]/\Rep K S H p.1 v/\Rep K S H p.2.1 w/\Rep K S H p.2.2 u
theorem AG {K:Frg}:jR (irQ K):=fun S S' H H' d x hS hH ⟨a,v,w,u,e,t,h1,h2,h3⟩=>⟨a,v,w,u,e,vk hH t,Rep.mono hS (mZ hH) _ v h1,Rep.mono hS (mZ hH) _ w h2,Rep.mono hS (mZ hH) _ u h3⟩
theorem Fi (K:Frg) (i j l:Nat) {n:Nat} {rg:Rg} (hr:rg≠ .hb) (hi:i<n) (hj:j<n) (hl:l<n):sD K (gTup K 3 (gCons (gName i) (gCons (gName j) (gCons (gName l) gNil)))) rg (irQ K) (fun Δ=>((Δ.set i (mdR rg)).set j (mdR rg)).set l (mdR rg)) (fun d st=>((st.set i (some d.1)).set j (some d.2.1)).set l (some d.2.2)) n [i,j,l]:=
 fun O Δ st σ H G d x Q hn rel ⟨a,v,w,u,e,t,h1,h2,h3⟩ q=>by
  refine⟨a,[v,w,u],e,t,rfl,v,[w,u],rfl,w,[u],rfl,u,[],rfl,rfl,q _ ?_ fun vs hv=>(iz (hv l (by simp))).trans ((iz (hv j (by simp))).trans (iz (hv i (by simp))))⟩
  cases rg with
  |hb=>exact absurd rfl hr
  |bb=>exact ((rel.lQ (m:=.rg .bb) .refl (by omega) rfl h1).lQ (m:=.rg .bb) .refl (by simp;omega) rfl h2).lQ (m:=.rg .bb) .refl (by simp;omega) rfl h3
  |fz=>exact ((rel.lQ (m:=.rg .fz) .refl (by omega) rfl h1).lQ (m:=.rg .fz) .refl (by simp;omega) rfl h2).lQ (m:=.rg .fz) .refl (by simp;omega) rfl h3
theorem AH {K:Frg} {S:Sa} {H:Hp} {a b c:D} {v:V} (h:Rep K S H (.tup [a,b,c]) v):irQ K S H (a,b,c) v:=by
 unfold Rep at h
 obtain⟨p,vs,e,l,r⟩:=h
 unfold aB at r
 obtain⟨x,r1,rfl,h1,h2⟩:=r
 unfold aB at h2
 obtain⟨y,r2,rfl,h3,h4⟩:=h2
 unfold aB at h4
 obtain⟨z,r3,rfl,h5,h6⟩:=h4
 unfold aB at h6
 subst h6
 exact⟨p,x,y,z,e,l.sq,h1,h3,h5⟩
def D.tr:D->Option (D×D×D)
 | .tup [a,b,c]=>some (a,b,c)
 |_=>none
def D.trs:List D->Option (List (D×D×D))
 | []=>some []
 |d::ds=>(D.tr d).bind fun x=>(D.trs ds).bind fun xs=>some (x::xs)
theorem yj: ∀{ds:List D} {ps:List (D×D×D)} {i:Nat} {p:D×D×D},D.trs ds=some ps->ps[i]? =some p->ds[i]? =some (.tup [p.1,p.2.1,p.2.2])
 | [],_,_,_,e,h=>by cases e;simp at h
 |d::ds,_,i,p,e,h=>by
  unfold D.trs at e
  obtain⟨x,y,e1,e2,e3⟩:=cq e
  cases e3
  cases i with
  |zero=>
   simp at h;subst h
   unfold D.tr at e1
   split at e1
   ·cases e1;rfl
   ·cases e1
  |succ i=>simpa using yj e2 (by simpa using h)
theorem ym: ∀{ds:List D} {ps:List (D×D×D)},D.trs ds=some ps->ps.length=ds.length
 | [],_,e=>by cases e;rfl
 |d::ds,_,e=>by
  unfold D.trs at e
  obtain⟨x,y,e1,e2,e3⟩:=cq e
  cases e3
  rw[List.length_cons,List.length_cons,ym e2]
def CM (x:Option D):Option (List (D×D×D)):=x.bind fun x=>match x with| .lst ds=>D.trs ds|_=>none
section
variable {X:Cx} {Δ:List Md} {st:Ds} {e:Expr} {rg:Rg} {ra:Option D}
theorem CN {tg:Expr} (h:PX X Δ st e (.rg rg) ra):PIx (δ:=D×D×D) X Δ st tg e rg (irQ X.K) (CM ra):=
 vj (pi_list h) fun σ H R ⟨O,G,ps,rel,er,k⟩=>by
  obtain⟨x,e1,e2⟩:=bind1 er
  cases x <;> first|cases e2|skip
  rename_i ds
  refine rdE.go rel e1 fun v H1 G1 rel1 x1 v1=> ?_
  unfold bA Rep at v1
  obtain⟨a,vs,rfl,s,l,rr⟩:=v1
  refine⟨a,rfl,⟨vs,SqL.of l⟩,k _ H1 G1 x1 (wkS fun H2 hst i=> ?_)⟩
  have l2:SqL X.K H2 a vs:=SqL.of (hst a _ s l (fun _ z=>by cases z))
  refine⟨fun d hd=> ?_,fun hi=>⟨vs,l2,by rw[rr.length,←ym e2];exact hi⟩⟩
  obtain⟨u,e3,e4⟩:=rr.get (yj e2 hd)
  refine⟨⟨vs,u,l2,e3⟩,fun x H3 ⟨eH,f⟩=> ?_⟩
  subst eH
  have:=f vs l2
  rw[e3] at this;cases this
  exact⟨fun _ _ e=>e,AH (Rep.mono (fun _ g=>g) (fun p sp=>jt.xZ fun u n e=>hst p u sp e n) _ _ e4)⟩
end
theorem fu.at {K:Frg} {S:Sa} {H:Hp}: ∀{ks:List (List Key×D)} {kvs:List (List Key×V)} {i:Nat} {k:List Key} {v:V},fu K S H ks kvs->kvs[i]? =some (k,v)-> ∃x,ks[i]? =some (k,x)/\Rep K S H x v
 | [],_,_,_,_,h,e=>by unfold fu at h;subst h;simp at e
 |(k0,x)::ks,_,0,k,v,h,e=>by
  unfold fu at h
  obtain⟨w,r,rfl,h1,h2⟩:=h
  simp at e
  obtain⟨rfl,rfl⟩:=e
  exact⟨x,rfl,h1⟩
 |(k0,x)::ks,_,i+1,k,v,h,e=>by
  unfold fu at h
  obtain⟨w,r,rfl,h1,h2⟩:=h
  obtain⟨y,e1,e2⟩:=fu.at (i:=i) h2 (by simpa using e)
  exact⟨y,by simpa using e1,e2⟩
end Sw
namespace Sw
open PySem PySem.Spec PyProof.Rows L2
variable [NmC]
abbrev Sh.gx (vs:List V):Sh:=.hl (vs.map .ex)
end Sw
namespace Sw
open PySem PySem.Spec PyProof.Rows L2
variable [NmC]
theorem RelV.fz {K:Frg} {O:Org} {Δ:List Md} {st:Ds} {σ:CS} {H:Hp} {G:Sa} {s:Sh} {d:D} {v:V} (h:RelV K O Δ st σ H G (.nw s) d v): ∃G',Rel K O Δ st σ H G'/\Rep K G' H d v:=by
 obtain⟨L,Lv,g,sl,ow⟩:=h
 have ow:Own K G H s d v Lv:=ow
 have nd:=List.nodup_append.mp g.nd
 refine⟨fun p=>G p\/p∈Lv,⟨L,⟨g.bin,g.fr0,fun p q=>.inl (g.gsub p q),fun p q=> ?_,fun p q=> ?_,g.dom,nd.2.1,fun p m=>⟨fun q=> ?_,(g.lg p (List.mem_append_right _ m)).2⟩,g.tl,g.tb⟩,Slots.mono (fun p q=>.inl q) au au (fun _ _=>rfl) sl⟩,Own.rep s d v Lv ow⟩
 ·rcases q with q|q
  ·exact g.gold p q
  ·rcases (g.lg p (List.mem_append_left _ q)).2 with h|h
   ·exact .inr (.inr (.inr h))
   ·exact .inr (.inl h)
 ·rcases q with q|q
  ·exact g.gin p q
  ·exact (Own.kind s d v Lv ow p q).ne
 ·rcases q with q|q
  ·exact (g.lg p (List.mem_append_right _ m)).1 q
  ·exact nd.2.2 p q p m rfl
end Sw
namespace Sw
open PySem PySem.Spec PyProof.Rows L2
variable [NmC]
section
variable {K:Frg} {S:Sa} {H:Hp}
def AI (H:Hp) (T:Sa) (L:List Addr):List (List Str×Int)->List V->Prop
 | [],vs=>vs=[]
 |g::gs,vs=> ∃t b r,vs= .ref t::r/\T t/\H t=some (.tup [.ref b,.int g.2])/\b∈L/\H b=some (.lst (g.1.map V.str))/\AI H T L gs r
theorem AI.more {T:Sa} {L L':List Addr} (s: ∀p∈L,p∈L'): ∀{gs:List (List Str×Int)} {vs:List V},AI H T L gs vs->AI H T L' gs vs
 | [],_,h=>h
 |_::_,_,⟨t,b,r,e,h1,h2,h3,h4,h5⟩=>⟨t,b,r,e,h1,h2,s b h3,h4,AI.more s h5⟩
end
end Sw
namespace Sw
open PySem PySem.Spec PyProof.Rows L2
variable [NmC]
def D.n6:D->Option D
 | .bl b=>some (.bl b)
 |_=>none
end Sw
namespace Sw
open PySem PySem.Spec PyProof.Rows L2
variable [NmC]
section
variable {P:Program} {w:World} {K:Frg} {mg:Str->Option Value} {base:Heap} {H:Hp} {h:Heap} {c:Addr} {v:V}
theorem qG (hok:HOk P w H h) (e:H c=some (fR c v)): ∃u,L2.RelV v u/\h.IsCell c (some u):=by
 obtain⟨z,_,_⟩:=hok c _ e
 exact z
theorem lV {b:Addr} (n:H b=none):del H c b=none:=by
 unfold del
 split
 ·rfl
 ·exact n
theorem jd {u:HO} {a:Addr} (e:H c=some (fR c v)) (q:H a=some u) (d: ∀φ,u≠ .ext φ):a≠c:=fun z=>by
 rw[z,e] at q
 unfold fR at q
 cases q
 exact d _ rfl
theorem yn {a:Addr} {q:Str} (hok:HOk P w H h) (e:H c=some (fR c v)) (ea:H a=some (LamX.CodeO a q)):a≠c:=fun z=>by
 subst z
 obtain⟨u,_,o,g,d⟩:=qG hok e
 obtain⟨⟨oc,vs,t,g2,d2,_⟩,_,_⟩:=hok a _ ea
 rw[g] at g2;cases g2
 rw[d] at d2;cases d2
theorem Fj {a:Addr} {F:NdefX.NF} (hok:HOk P w H h) (e:H c=some (fR c v)) (ea:H a=some (NdefX.FnO a F)):a≠c:=fun z=>by
 subst z
 obtain⟨u,_,o,g,d⟩:=qG hok e
 obtain⟨od,sl,doc,pm,ctv,g2⟩:=NdefX.fnO_at hok ea
 rw[g] at g2;cases g2
 cases d
theorem CO (hok:HOk P w H h) (e:H c=some (fR c v)):HOk P w (del H c) h:=fun a o q=>by
 by_cases hb:a=c
 ·rw[hb,del_same] at q;cases q
 ·rw[del_ne hb] at q
  exact (hok a o q).stay (fun b u _ z=>z) (fun b z=>by rw[del_ne (jd e z fun _ y=>by cases y)];exact z) (fun b xs z=>by rw[del_ne (jd e z fun _ y=>by cases y)];exact z)
theorem AJ {A:Around} {outer:List Env} {s:Shared} (e0:Env0 P w K mg base A outer s H) (e:H c=some (fR c v)):Env0 P w K mg base A outer s (del H c):=
 ⟨e0.frames,e0.mod,fun b o z=>⟨(e0.bs b o z).1,lV (e0.bs b o z).2⟩,e0.bsz,e0.funs,fun b hb=>lV (e0.frf b hb),CO e0.hok e,e0.bare⟩
theorem vE {T:List (Addr×Str)} (hok:HOk P w H h) (e:H c=some (fR c v)) (t:LamX.Tabs T H):LamX.Tabs T (del H c):=fun p hp=>by
 obtain⟨ps,h1,h2,h3⟩:=t p hp
 refine⟨ps,by rw[del_ne (jd e h1 fun _ y=>by cases y)];exact h1,h2,fun pos cv hc=> ?_⟩
 obtain⟨c',e1,e2⟩:=h3 pos cv hc
 exact⟨c',e1,by rw[del_ne (yn hok e e2)];exact e2⟩
theorem CP {outer:List Env} {s s':Shared} {Q Q':VK} {u:Value} (hok:HOk P w H s.heap) (frf: ∀b∈frs outer,H b=none) (e:H c=some (fR c v)) (x:CE outer P w (del H c) s Q' u s')
  (hq: ∀v' H',H' c=none->Q' v' H'->Q v' (upd H' c (fR c v))):CE outer P w H s Q u s':=by
 obtain⟨v',H',os,ba,un,hk,rv,q⟩:=x
 obtain⟨u0,r0,o0,g0,d0⟩:=qG hok e
 have cn:c∉frs outer:=fun m=>by rw[frf c m] at e;cases e
 have hn:H' c=none:=un.free c o0 g0 del_same (by simp)
 have g1:=un.keep c o0 g0 del_same cn (by simp)
 have ne: ∀{b:Addr} {z:HO},H' b=some z->b≠c:=fun q y=>by rw[y,hn] at q;cases q
 refine⟨v',upd H' c (fR c v),os,ba,⟨fun b o z n=>un.keep b o z (lV n),fun b o z n=>un.slot b o z (lV n),fun b o z n hx=> ?_,un.there,fun b xs z=> ?_,fun b o u z=> ?_,fun b ps z=> ?_⟩,fun a o z=> ?_,rv,hq v' H' hn q⟩
 ·rw[upd_ne (fun y=>by rw[y,e] at n;cases n)]
  exact un.free b o z (lV n) hx
 ·have hb:=jd e z fun _ y=>by cases y
  rw[upd_ne hb]
  exact un.tups b xs (by rw[del_ne hb];exact z)
 ·have hb:=jd e z fun _ y=>by cases y
  rw[upd_ne hb]
  exact un.frzs b o u (by rw[del_ne hb];exact z)
 ·have hb:=jd e z fun _ y=>by cases y
  rw[upd_ne hb]
  exact un.tbls b ps (by rw[del_ne hb];exact z)
 ·by_cases hb:a=c
  ·rw[hb,upd_same] at z
   cases z
   rw[hb]
   exact⟨⟨u0,r0,o0,g1,d0⟩,⟨o0,g1⟩,fun h1 h2 ⟨u,r,o,g,d⟩ st=>⟨u,r,o,st o g,d⟩⟩
  ·rw[upd_ne hb] at z
   exact (hk a o z).stay (fun _ _ _ y=>y) (fun b y=>by rw[upd_ne (ne y)];exact y) (fun b xs y=>by rw[upd_ne (ne y)];exact y)
def cSp (K:Frg) (ms:List PM) (rm:VM) (Fs:List D->Option FR):List (Option V)->Sp:=fun ws vs H Q E=> ∃wv,ws=[some wv]/\FSp K (ms++[.bo]) rm Fs (vs++[wv]) H Q E
theorem qH {F:FnT} {N ps:List Str} {f c c':Addr} {k n:Nat} {ms:List PM} {rm:VM} {Fs:List D->Option FR} (S:NdefX.NScope N ps [F.y] F.scope) (hl:ms.length=ps.length) (hn:N.length=ps.length+1+n)
  (hb: ∀(doc pm ctv:Value) (us:List Value),us.length=ps.length->bindArgs ((F.nf c c').fd doc pm ctv) ⟨us,[]⟩=pure (ps.zip us))
  (h: ∀(A:Around) (outer:List Env) (s:Shared) (H:Hp) (vs:List V) (E:XK),Room k (A.deeper (NdefX.envF (F.nf c c') f s.heap.objs.size))->vs.length=(ms++[PM.bo]).length-> ∀ds fr,ds.length=(ms++[PM.bo]).length->Fs ds=some fr→
   ∃m,Blk (NdefX.ncx CX0 P w K mg base N (F.nf c c') f A outer s H E).nox (fnX rm (bq (ms++[.bo]) vs) E) (tZ (ms++[.bo]) vs++List.replicate n .fz) (ds.map some++List.replicate n none) F.body m/\m.bind outF=some fr):
  NdefX.NOk P w K mg base CX0 (k+1) f (F.nf c c') ps [F.y] (cSp K ms rm Fs):=by
 refine NdefX.nok_of S hb (fun ws vs H Q E ⟨wv,_,O,ds,fr,e,g,a,_⟩=> ?_) fun A outer s H vs ws Q E hr _ _ _ ⟨wv,ew,O,ds,fr,e,g,a,ef,q⟩=> ?_
 ·have:=a.len.1
  rw[List.length_append,List.length_append] at this
  simp at this
  omega
 ·subst ew
  obtain⟨hv,hd⟩:=a.len
  obtain⟨m,hb,hm⟩:=h A outer s H (vs++[wv]) E hr hv ds fr hd ef
  refine⟨_,PSs.nox hb,?_⟩
  obtain⟨o,e1,e2⟩:=bind1 hm
  have hvl:vs.length=ps.length:=by
   rw[List.length_append,List.length_append] at hv
   simp at hv
   omega
  have hs:NdefX.startF N vs [some wv]=(vs++[wv]).map some++List.replicate n none:=by
   unfold NdefX.startF
   rw[show N.length -vs.length -([some wv]:List (Option V)).length=n by simp;omega,List.map_append,List.append_assoc]
   rfl
  rw[hs]
  refine⟨O,O.G0,o,⟨O.L0,g,m7 a⟩,e1,?_⟩
  cases o with
  |nx a=>exact a.elim
  |bk a=>exact a.elim
  |ct a=>exact a.elim
  |ret d os=>
   cases e2
   exact fun v H' G' r=>⟨q v H' G' r,fun _ ev σ=>by subst ev;exact q _ H' G' r⟩
  |exc x=>
   cases e2
   exact fun c od H' G' r=>q c od H' G' r
theorem CQ {F:FnT} {f c':Addr} {k:Nat} {ps:List Str} {sp:List (Option V)->Sp} {wv:V} {A:Around} {outer:List Env} {s:Shared} {us:List Value} {vs:List V} {Q:VK} {E:XK} (N:NdefX.NOk P w K mg base CX0 k f (F.nf c c') ps [F.y] sp)
  (hr:Room k A) (e0:Env0 P w K mg base A outer s H) (ef:H f=some (NdefX.FnO f (F.nf c c'))) (ec:H c'=some (LamX.CodeO c' F.qual)) (e:H c=some (fR c wv)) (r:Vals vs us)
  (q:sp [some wv] vs (del H c) (fun v' H'=>H' c=none->Q v' (upd H' c (fR c wv))) E):codeAny (model P w) A (.call (.ref f) ⟨us,[]⟩) (CR CX0 outer P w H s Q E) s:=by
 obtain⟨u0,r0,o0,g0,d0⟩:=qG e0.hok e
 have C:NdefX.CellsAt (F.nf c c').cl [F.y] [some wv] s.heap (del H c):=by
  have lk: ∀{y:Str} {a:Addr},(F.nf c c').cl.lookup y=some a->y=F.y/\a=c:=fun {y a} z=>by
   have z:List.lookup y [(F.y,c)]=some a:=z
   unfold List.lookup at z
   split at z
   ·rename_i hb
    cases z
    exact⟨eq_of_beq hb,rfl⟩
   ·cases z
  refine⟨rfl,fun y a z=> ?_,fun x y a z1 z2=>(lk z1).1.trans (lk z2).1.symm,fun i y z=> ?_⟩
  ·obtain⟨_,rfl⟩:=lk z
   exact⟨del_same,_,o0,g0,d0⟩
  ·cases i with
   |succ i=>simp at z
   |zero=>
    cases z
    refine⟨c,by show List.lookup F.y [(F.y,c)]=_;simp[List.lookup],fun v z=> ?_⟩
    cases z
    exact⟨u0,r0,o0,g0,d0⟩
 refine codeAny_mono (N.run A outer s (del H c) us vs [some wv] _ E hr (AJ e0 e) (by rw[del_ne (Fj e0.hok e ef)];exact ef) (by show del H c c'=_;rw[del_ne (yn e0.hok e ec)];exact ec) C r q) fun r s' hq=> ?_
 match r,hq with
 | .error _,hq=>exact hq.elim
 | .ok (.ret u),hq=>exact CP e0.hok e0.frf e hq fun v' H' n z=>z n
 | .ok .next,hq=>exact hq.elim
 | .ok .brk,hq=>exact hq.elim
 | .ok .cont,hq=>exact hq.elim
abbrev mV:List PM:=[.bo,.bo,.bo]
structure ng (P:Program) (w:World) (K:Frg) (mg:Str->Option Value) (base:Heap) (k:Nat) (Fs:List D->Option FR):Prop where
 at_: ∀{h:Heap} {H:Hp} {S:Sa} {u:Value} {v:V} {d:D} {ds:List D} {fr:FR},K.In h->HOk P w H h->L2.RelV v u->Rep K S H d v->Fs (d::ds)=some fr-> ∃q,u= .ref q/\PySem.W.FnAt q h
 run: ∀{A:Around} {outer:List Env} {s:Shared} {H:Hp} {u:Value} {us:List Value} {v:V} {vs:List V} {Q:VK} {E:XK},Room k A->Env0 P w K mg base A outer s H->L2.RelV v u->Vals vs us->FSp K mV (.rg .fz) Fs (v::vs) H Q E→
  codeAny (model P w) A (.call u ⟨us,[]⟩) (CR CX0 outer P w H s Q E) s
theorem zo {k:Nat}:ng P w K mg base k (fun _=>none):=⟨fun _ _ _ _ e=>(nomatch e),fun _ _ _ _ ⟨_,_,_,_,_,_,e,_⟩=>(nomatch e)⟩
structure CT (P:Program) (w:World) (K:Frg) (mg:Str->Option Value) (base:Heap) (k:Nat) (x:Str) (Fs:List D->Option FR):Prop where
 lk: ∃oc od fd sl,K.lookup (He.ga K x)=some (⟨oc,od,.func fd,sl⟩:Obj)
 ok: ∃(fd:FuncData) (ps:List Str),FnOk P w K mg base CX0 k (He.ga K x) fd ps (FSp K [.bo,.bo] (.rg .fz) Fs)/\Binds K fd ps []
def AK (P:Program) (w:World) (K:Frg) (mg:Str->Option Value) (base:Heap) (k:Nat) (F:FnT) (Fs:List D->Option FR):Prop:=
 ∃ps:List Str,∀f c c',NdefX.NOk P w K mg base CX0 k f (F.nf c c') ps [F.y] (cSp K [.bo,.bo] (.rg .fz) Fs)
def n6:FR->Option FR
 | .ok (.bl b) []=>some (.ok (.bl b) [])
 |_=>none
open Classical in
noncomputable def lA (F:FnT):List (FnT×(List D->Option FR))->Option (List D->Option FR)
 | []=>none
 |p::r=>if F=p.1 then some p.2 else lA F r
noncomputable def fcD (gl:List (Str×(List D->Option FR))) (cl:List (FnT×(List D->Option FR))):List D->Option FR
 | .glf x::ds=>(gl.lookup x).bind fun f=>(f ds).bind n6
 | .clo F d::ds=>if D.evs ds=true then (lA F cl).bind fun f=>(f (ds++[d])).bind n6 else none
 |_=>none
theorem rB {r fr:FR} (h:n6 r=some fr): ∃b,r= .ok (.bl b) []/\fr= .ok (.bl b) []:=by
 unfold n6 at h
 split at h
 ·cases h;exact⟨_,rfl,rfl⟩
 ·cases h
theorem vF {F:FnT} {f:List D->Option FR}: ∀{cl:List (FnT×(List D->Option FR))},lA F cl=some f-> ∃p∈cl,F=p.1/\f=p.2
 |p::r,h=>by
  unfold lA at h
  split at h
  ·rename_i e
   cases h
   exact⟨p,List.mem_cons_self,e,rfl⟩
  ·obtain⟨q,hq,e⟩:=vF h
   exact⟨q,List.mem_cons_of_mem _ hq,e⟩
theorem CU {S:Sa} (e:H c=some (fR c v)) {ds:List D} {vs:List V} (he:D.evs ds=true) (r:aB K S H ds vs):aB K (fun p=>del H c p≠none) (del H c) ds vs:=by
 obtain⟨N,hN,r2⟩:=aB.et (G:=fun _=>False) ds vs he r
 refine aB.mono (fun p hp=> ?_) (fun p hp=> ?_) ds vs r2
 ·rcases hp with z|z
  ·exact z.elim
  ·obtain⟨xs,q⟩:=hN p z
   show del H c p≠none
   rw[del_ne (jd e q fun _ y=>by cases y),q]
   simp
 ·rcases hp with z|z
  ·exact z.elim
  ·obtain⟨xs,q⟩:=hN p z
   exact jt.of_eq fun u e2=>by rw[del_ne (jd e q fun _ y=>by cases y)];exact e2
theorem vG {B G:Sa}: ∀{ds:List D} {vs:List V},aB K B H ds vs->lu K B G H (List.replicate ds.length .bo) ds vs []
 | [],_,r=>by unfold aB at r;rw[r];rfl
 |d::ds,_,r=>by
  unfold aB at r
  obtain⟨v,r',rfl,h1,h2⟩:=r
  exact⟨[],[],⟨h1,rfl⟩,vG h2,rfl⟩
theorem yo {B G:Sa}: ∀{ds:List D} {vs:List V} {L:List Addr},lu K B G H (List.replicate ds.length .bo) ds vs L->aB K B H ds vs
 | [],vs,_,a=>by
  cases vs with
  |nil=>exact .nil
  |cons _ _=>exact a.elim
 |d::ds,vs,_,a=>by
  cases vs with
  |nil=>exact a.elim
  |cons v vs=>
   obtain⟨L1,L2,h1,h2,_⟩:=a
   exact .cons h1.1 (yo h2)
theorem CV {k:Nat} {gl:List (Str×(List D->Option FR))} {cl:List (FnT×(List D->Option FR))} (hg: ∀p∈gl,CT P w K mg base k p.1 p.2) (hc: ∀p∈cl,AK P w K mg base k p.1 p.2):ng P w K mg base k (fcD gl cl) where
 at_:=fun {h H S u v d ds fr} KI hok rv rep e=>by
  cases d with
  |glf x=>
   obtain⟨f,e1,_⟩:=bind1 (show (gl.lookup x).bind _=some fr from e)
   obtain⟨oc,od,fd,sl,lk⟩:=(hg (x,f) (PySem.mem_of_lookup e1)).lk
   unfold Rep at rep
   subst rep
   exact⟨_,rv,oc,od,fd,sl,KI _ _ lk⟩
  |clo F d=>
   unfold Rep at rep
   obtain⟨f,c',c,lo,wv,rfl,⟨_,ef⟩,_⟩:=rep
   obtain⟨od,sl,doc,pm,ctv,g⟩:=NdefX.fnO_at hok ef
   exact⟨_,rv,_,od,_,sl,g⟩
  |_=>cases e
 run:=fun {A outer s H u us v vs Q E} hr e0 rv rvs ⟨O,dds,fr,eO,g,a,ef,q⟩=>by
  subst eO
  match dds,a,ef with
  |d::ds,⟨L1,L2,⟨rep,_⟩,ar,_⟩,ef=>
   cases d with
   |glf x=>
    obtain⟨f,e1,e2⟩:=bind1 (show (gl.lookup x).bind _=some fr from ef)
    obtain⟨r1,e3,e4⟩:=bind1 e2
    obtain⟨b,rfl,rfl⟩:=rB e4
    obtain⟨fd,ps,Fo,hb⟩:=(hg (x,f) (PySem.mem_of_lookup e1)).ok
    unfold Rep at rep
    subst rep
    cases (show u=Value.ref (He.ga K x) from rv)
    have sp:FSp K [.bo,.bo] (.rg .fz) f vs O.H0 Q E:=⟨O,ds,_,rfl,g,by
     obtain⟨hL1,hL2⟩:=(⟨by assumption,by assumption⟩:L1=[]/\O.L0=L1++L2)
     rw[hL2,hL1];exact ar,e3,q⟩
    have KI:K.In s.heap:=e0.mod.kin.keeps fun b o e=>(e0.bs b o e).1
    have hl:us.length=ps.length:=by rw[<-rvs.length];exact Fo.len _ _ _ _ sp
    have bb:=hb s us KI (by rw[List.append_nil];exact hl)
    rw[List.append_nil] at bb
    exact Fo.run A outer s O.H0 ⟨us,[]⟩ us vs Q E hr e0 bb rvs sp
   |clo F d=>
    have ef:(if D.evs ds=true then (lA F cl).bind fun f=>(f (ds++[d])).bind n6 else none)=some fr:=ef
    by_cases hev:D.evs ds=true
    case neg=>rw[if_neg hev] at ef;cases ef
    rw[if_pos hev] at ef
    obtain⟨fs,e1,e2⟩:=bind1 ef
    obtain⟨r1,e3,e4⟩:=bind1 e2
    obtain⟨b,rfl,rfl⟩:=rB e4
    obtain⟨p,hp,rfl,rfl⟩:=vF e1
    obtain⟨ps,No⟩:=hc p hp
    unfold Rep at rep
    obtain⟨f,c',c,lo,wv,rfl,⟨sf,hf⟩,⟨sc',hc'⟩,⟨sc,hcell⟩,le,rd⟩:=rep
    cases (show u=Value.ref f from rv)
    have hl2:ds.length=2:=(lu.len ar).2
    have ar':lu K O.B O.G0 O.H0 (List.replicate ds.length .bo) ds vs L2:=by rw[hl2];exact ar
    have rds:=CU hcell hev (yo ar')
    refine CQ (No f c c') hr e0 hf hc' hcell rvs ⟨wv,rfl,Org.all (del O.H0 c) (fun _=>False),ds++[d],.ok (.bl b) [],rfl,lS (vE e0.hok hcell g.tb) (fun p z=>z.elim),?_,e3,fun v' H' G' r n=> ?_⟩
    ·have rd2:Rep K (fun p=>del O.H0 c p≠none) (del O.H0 c) d wv:=Rep.mono (fun p z=>by
      show del O.H0 c p≠none
      rw[del_ne (Nat.ne_of_lt (Nat.lt_of_lt_of_le z.1.2 le))];exact z.2) (fun p z=>jt.of_eq fun u e=>by rw[del_ne (Nat.ne_of_lt (Nat.lt_of_lt_of_le z.1.2 le))];exact e) d wv (Rep.dom d wv rd)
     have:=vG (B:=(Org.all (del O.H0 c) (fun _=>False)).B) (G:=(Org.all (del O.H0 c) (fun _=>False)).G0) (rds.append (.one rd2))
     rw[List.length_append,hl2] at this
     exact this
    ·have hvl:vs.length=2:=(lu.len ar).1
     have hp0:bq ([PM.bo,PM.bo]++[PM.bo]) (vs++[wv])=[]:=by
      match vs,hvl with
      | [_,_],_=>rfl
     have hp1:bq mV (V.ref f::vs)=[]:=by
      match vs,hvl with
      | [_,_],_=>rfl
     rw[hp0] at r
     obtain⟨_,x2,hv⟩:=nZ r
     have hv:Rep K G' H' (.bl b) v':=hv O
     unfold Rep at hv
     refine q v' _ O.G0 ⟨[],[],⟨g.bin,fun p u e _ nt=> ?_,fun _ z=>z,fun _ z=>.inl z,fun p z=> ?_,fun p z=> ?_,List.nodup_nil,fun p m=>(nomatch m),fun p ps' e=> ?_,?_⟩,⟨by unfold Rep;exact hv,rfl⟩,by rw[hp1];rfl⟩
     ·by_cases hb:p=c
      ·rw[hb,upd_same,←hcell,←hb];exact e
      ·rw[upd_ne hb]
       exact x2.hh p u (by rw[del_ne hb];exact e) nt
     ·by_cases hb:p=c
      ·rw[hb,upd_same];simp
      ·rw[upd_ne hb]
       exact x2.dm p (by rw[del_ne hb];exact g.gin p z)
     ·by_cases hb:p=c
      ·rw[hb,upd_same];simp
      ·rw[upd_ne hb]
       exact x2.dm p (by rw[del_ne hb];exact z)
     ·have hb:=jd hcell e fun _ y=>by cases y
      obtain⟨ps2,e5⟩:=x2.tl p ps' (by rw[del_ne hb];exact e)
      exact⟨ps2,by rw[upd_ne hb];exact e5⟩
     ·exact LamX.Tabs.ext (x2.tb (vE e0.hok hcell g.tb)) fun b o e=>by
       rw[upd_ne (fun y=>by rw[y,n] at e;cases e)];exact e
   |_=>cases ef
  | [],a,ef=>cases ef
end
end Sw
namespace Sw
open PySem PySem.Spec PyProof.Rows L2
variable [NmC]
section
variable {X:Cx} {Δ:List Md} {st:Ds} {e:Expr} {es:List Expr} {rs:Option (List D)} {pos p:Pos} {vms:List VM} {Fs:List D->Option FR} {k k':Nat} {x:Str}
theorem wQ (i:Nat) {md:Md} {d:D} (C:ng X.prog X.w X.K X.mg X.base k Fs) (hr:Room k' X.A) (hm:Δ[i]? =some md) (hd:st[i]? =some (some d)) (hN:X.N[i]? =some x) (hv:Vis X.env.scope x) (ha:PAx X Δ st (e::es) vms rs) (hk:k<=k':=by decide) (ok:lT [.bo,.bo] vms=true:=by rfl) (hmd:md= .bo\/md= .fz:=by first|exact .inl rfl|exact .inr rfl)
  (hdb:(x==("__debug__" :Str))=false:=by decide) (hcd:(x==("__classdict__" :Str))=false:=by decide) (he:starEach (e::es) X.env=(false,eval e X.env)::starEach es X.env:=by rfl) (hpl:(backTo pos (starEach es X.env)).any (·.1)=false:=by rfl):
  PX X Δ st (.Call (.Name x p) (e::es) [] pos) (.rg .fz) (aT Fs (aj (some d) rs)):=by
 refine⟨fun pins s σ H Q I ⟨O,G,dr,rel,er,kk⟩=> ?_⟩
 obtain⟨dds,e1,e2⟩:=bind1 er
 obtain⟨d',e3,e4⟩:=bind1 e1
 cases e3
 obtain⟨ds,e5,e6⟩:=bind1 e4
 cases e6
 obtain⟨fr,e7,e8⟩:=bind1 e2
 obtain⟨v,hs,rep⟩: ∃v,σ[i]? =some (some v)/\Rep X.K (fun _=>True) H d v:=by
  obtain⟨L,g,sl⟩:=rel
  obtain⟨x',y',L1,L2,ex,ey,sr,pm,_⟩:=sl.split hm
  rw[hd] at ex;cases ex
  rcases hmd with rfl|rfl
  ·obtain⟨v,e1,r1,_⟩:=sr;subst e1;exact⟨v,ey,Rep.mono (fun _ _=>trivial) au _ _ r1⟩
  ·obtain⟨v,e1,r1,_⟩:=sr;subst e1;exact⟨v,ey,Rep.mono (fun _ _=>trivial) au _ _ r1⟩
 refine wpAny_Call_Name_kw (thn ((pe_var (pos:=p) hN hv hdb hcd).run pins s σ H (fun v1 H1=>v1=v/\H1=H) I ⟨v,hs,rfl,rfl⟩) fun u s1 ⟨v1,H1,I1,r1,q1⟩=> ?_)
 obtain⟨rfl,rfl⟩:=q1
 obtain⟨q,rfl,fa⟩:=C.at_ I1.kIn I1.hok r1 rep e7
 refine PySem.W.callWith_F (first:=[]) fa (thn (ha.run pos pins s1 σ H1 (fun vs H2=>Rep X.K (fun _=>True) H2 d v1/\FSp X.K mV (.rg .fz) Fs (v1::vs) H2 Q E0) I1 (rdA.go rel e5 fun vs H2 G2 rel2 x2 v2=> ?_)) fun us s2 ⟨vs,H2,I2,r2,rep2,sp⟩=> ?_) he hpl
 ·have rep2:Rep X.K (fun _=>True) H2 d v1:=Rep.mono (fun _ _=>trivial) x2.agr d v1 rep
  refine⟨rep2,?_⟩
  obtain⟨ha,hp⟩:=nY ok v2
  refine⟨Org.all H2 G2,d::ds,fr,rfl,lS rel2.tb rel2.gin,⟨[],[],⟨Rep.mono (fun p h=>h.2) au d v1 (Rep.dom d v1 rep2),rfl⟩,ha,rfl⟩,e7,?_⟩
  cases fr with
  |er x=>cases e8
  |ok d'' os=>
   cases os with
   |cons _ _=>cases e8
   |nil=>
    cases e8
    refine fun v H' G' r=> ?_
    rw[show bq mV (v1::vs)=bq [.bo,.bo] vs from rfl,hp] at r
    obtain⟨_,x3,hv⟩:=nZ r
    exact kk v H' G' (x2.trans x3) ((hv O).back x2)
 ·obtain⟨q2,eq2,fa2⟩:=C.at_ I2.kIn I2.hok r1 rep2 e7
  cases eq2
  refine⟨fa2,?_⟩
  show wpAny _ _ (call (.ref q) us) _ _ _
  refine wpAny_call (codeAny_mono (C.run (hr.mono hk) I2.env0 r1 r2 sp) fun r s' hq=> ?_)
  match r,hq with
  | .error _,hq=>exact hq.elim
  | .ok (.ret u),hq=>exact I2.after hq
  | .ok .next,hq=>exact hq.elim
  | .ok .brk,hq=>exact hq.elim
  | .ok .cont,hq=>exact hq.elim
end
section
variable {P:Program} {w:World} {K:Frg} {mg:Str->Option Value} {base:Heap}
abbrev fnT (nst:Stmt) (n qual y:Str):FnT:=⟨n,qual++".<locals>." ++n,C8.fnArgs nst,C8.fnBody nst,C8.fnScope nst,y⟩
theorem yp {x qual y n:Str} {st nst:Stmt} {f:Addr} {fd:FuncData} {k:Nat} {p rpos npos:Pos} (F:Fun K x qual st f fd) (S:FnScope [y,n] [y] (defScope st)) (Lm:lU base mg fd.code (qual++".<locals>." ++n)) (hbody:defBody st=[nst,.Return (some (.Name n p)) rpos])
  (hnst:nst= .FunctionDef n (C8.fnArgs nst) (C8.fnBody nst) [] none [] (C8.fnScope nst) none n npos) (hfree:NdefX.ndefB (defScope st) (C8.fnScope nst) [y]=true) (hd0:(C8.fnArgs nst).defaults=[]) (hk0:(C8.fnArgs nst).kw_defaults=[]) (hann: ∀env,annTrees (C8.fnArgs nst) none env=[])
  (hcl: ∀cells,cloFrom cells (C8.fnScope nst).names []=[(y,(cells.lookup y).getD 0)]) (hyc:(defScope st).names.lookup y=some .cell) (hnl:(defScope st).names.lookup n=some .local) (hdb:(n==("__debug__" :Str))=false:=by decide) (hcd:(n==("__classdict__" :Str))=false:=by decide)
  (hsw: ∀env,swapsWith (.Name n p) none rpos.line env=pure false:=by intro _;rfl):
  FnOk P w K mg base CX0 (k+1) f fd [y] (FSp K [.fz] (.rg .fz) (fn1 fun d=>some (.ok (.clo (fnT nst n qual y) d) []))):=by
 obtain⟨oc,od,kV,doc,pm,an,cdv,ct,osl,rfl,lk,hcode⟩:=F.ex
 obtain⟨cc,PP,t⟩:=Lm
 have len: ∀vs H Q E,FSp K [.fz] (.rg .fz) (fn1 fun d=>some (.ok (.clo (fnT nst n qual y) d) [])) vs H Q E->vs.length=[y].length:=fun vs H Q E ⟨O,ds,fr,e,g,a,_⟩=>a.len.1
 refine⟨len,fun A outer s H args us vs Q E hr e0 hb r hsp=> ?_⟩
 have hl:=len _ _ _ _ hsp
 have KX:K.In s.heap:=e0.mod.kin.keeps fun b o e=>(e0.bs b o e).1
 have lim:s.heap.NoLimit:=e0.mod.nolimit.keeps fun b o e=>(e0.bs b o e).1
 have kinds: ∀z∈[y].zip us,(defScope st).names.lookup z.1=some .local\/((defScope st).names.lookup z.1=some .cell/\((cellsFrom (s.heap.objs.size+1) (defScope st).names []).lookup z.1).isSome=true):=fun⟨m,v⟩ hz=>by
  rcases S.par m (List.of_mem_zip hz).1 with q|q
  ·exact .inl q
  ·exact .inr ⟨q,PySem.W.cellsFrom_some _ _ _ (.inl q)⟩
 refine codeAny_call_function hr.depth (KX _ _ lk) rfl S.co S.gen rfl (PySem.W.codeRec_of KX hcode) (hb _ _ _ _ ?_)
 refine wpAny_newFunctionEnv_cells S.kind kinds fun env he s1 xx=> ?_
 subst he
 refine⟨lim.keeps xx.toInCall.keep,codeAny_func ?_⟩
 have I:Inv (cxOf CX0 P w K mg base [y,n] qual (defScope st) f cdv A outer s H E) [] (start [y,n] vs) H s1:=inv_start S hr.hd e0 hl r xx
 obtain⟨O,ds,fr,eO,g,a,ef,q⟩:=hsp
 subst eO
 match ds,vs,a,ef,hl with
 | [d],[v],⟨M1,M2,⟨rep,hL1⟩,hL2,hL0⟩,ef,_=>
 cases ef
 rw[show defBody st=[nst,.Return (some (.Name n p)) rpos] from hbody]
 have tN:NdefX.TabsN (NmC.T.map fun p=>(p.1,fun _ _=>p.2)) O.H0:=fun p hp=>by
  obtain⟨p0,hp0,rfl⟩:=List.mem_map.mp hp
  exact NdefX.TabN.of (g.tb p0 hp0)
 have pn:=NdefX.ps_ndefMS (X:=cxOf CX0 P w K mg base [y,n] qual (defScope st) f cdv A outer s O.H0 E) (st:=nst) (T:=NmC.T.map fun p=>(p.1,fun _ _=>p.2)) (nm:=fun _ _=>qual++".<locals>." ++n) (c:=cc) (P:=PP) (name:=n) (pos:=npos) (i:=1) hnst t.tb (show cdv=_ from t.code)
  (List.mem_map.mpr ⟨_,t.mem,rfl⟩) rfl (fun p hp e=>by
   obtain⟨p0,hp0,rfl⟩:=List.mem_map.mp hp
   have:=t.uni p0 hp0 e
   funext _ _;exact this) (NdefX.ndef_free hfree) hd0 hk0 (hann _) S.nd rfl (.inl hnl) (.inr hnl)
 refine wpAny_execs_cons (thn (pn.run [] s1 _ O.H0 {nx:=fun σ' H1=> ∃f' c',σ'=[some v,some (.ref f')]/\LamX.ExtN O.H0 H1/\(∀b,H1 b=none->O.H0 b=none)/\NdefX.TabsN (NmC.T.map fun p=>(p.1,fun _ _=>p.2)) H1/\O.H0 f'=none/\H1 f'=some (NdefX.FnO f' ((fnT nst n qual y).nf (((cxOf CX0 P w K mg base [y,n] qual (defScope st) f cdv A outer s O.H0 E).env.cells.lookup y).getD 0) c'))/\H1 c'=some (LamX.CodeO c' (qual++".<locals>." ++n)),rt:=fun _ _=>False} I ⟨tN,fun f' c' H1 h1 h2 h3 h4 h5 h6=>⟨f',c',rfl,h1,h2,h3,h4,by
   have z:=h5
   unfold NdefX.NF.of at z
   rw[hcl] at z
   exact z,h6⟩⟩) fun fl s2 hs=> ?_)
 match fl,hs with
 | .brk,⟨_,_,_,z⟩=>exact z.elim
 | .cont,⟨_,_,_,z⟩=>exact z.elim
 | .ret _,⟨_,_,_,_,_,z⟩=>exact z.elim
 | .next,⟨σ',H1,I1,f',c',eσ,eN,bk,t1,nf',hf',hc'⟩=>
 subst eσ
 refine wpAny_execs_cons (wpAny_Return_some (thn ((pe_var (i:=1) (pos:=p) (x:=n) rfl (.inl hnl) hdb hcd).run [] s2 _ H1 (fun v1 H2=>v1= .ref f'/\H2=H1) I1 ⟨.ref f',rfl,rfl,rfl⟩) fun u3 s3 ⟨v3,H3,I3,r3,q3⟩=> ?_))
 obtain⟨rfl,rfl⟩:=q3
 obtain⟨c,hlk⟩:=I1.ok.has y (.inl hyc)
 rw[hlk] at hf'
 have hf':H3 f'=some (NdefX.FnO f' ((fnT nst n qual y).nf c c')):=hf'
 obtain⟨uc,ruc,cellu⟩: ∃u,L2.RelV v u/\s3.heap.IsCell c (some u):=by
  obtain⟨m,hn,hlo⟩:=I3.loc
  obtain⟨u,ru,lo⟩:=hlo 0 y v rfl rfl (.inr (.inl hyc))
  rcases lo with ⟨z,_⟩|⟨_,a',ha',hcell⟩
  ·have z:(defScope st).names.lookup y=some .local:=z
   rw[hyc] at z;cases z
  ·rw[hlk] at ha';cases ha'
   exact⟨u,ru,hcell⟩
 have abv:s.heap.objs.size<c:=xx.above y c (PySem.mem_of_lookup hlk)
 have n1:H3 c=none:=I3.freeC y c hlk
 have ne1: ∀{b:Addr} {z:HO},H3 b=some z->b≠c:=fun q y=>by rw[y,n1] at q;cases q
 have old: ∀{b:Addr} {o:Obj},s.heap.get? b=some o->b≠c:=fun q y=>by
  have:=Heap.lt_size q
  rw[y] at this
  exact Nat.lt_asymm this abv
 have keepN: ∀(b:Addr) (u:HO),O.H0 b=some u->NT u->upd H3 c (fR c v) b=some u:=fun b u e nt=>by
  have e1:=eN b u e nt
  rw[upd_ne (ne1 e1)];exact e1
 have below: ∀b,O.H0 b≠none->b<c:=fun b hb=>by
  rcases Nat.lt_or_ge b s.heap.objs.size with z|z
  ·exact Nat.lt_trans z abv
  ·exact absurd (e0.hok.fresh z) hb
 have un0:Un (frs outer) [] O.H0 H3 s.heap s3.heap:=I3.base
 have tblE: ∀(b:Addr) (ps:Array Value),O.H0 b=some (.tbl ps)-> ∃ps',upd H3 c (fR c v) b=some (.tbl ps'):=fun b ps e=>by
  obtain⟨more,e1⟩:=un0.tbls b ps e
  exact⟨_,by rw[upd_ne (ne1 e1)];exact e1⟩
 have un1:Un (frs outer) [] O.H0 (upd H3 c (fR c v)) s.heap s3.heap:=⟨un0.keep,un0.slot,fun b o z m hx=>by rw[upd_ne (old z)];exact un0.free b o z m hx,un0.there,fun b xs z=>by
   have:=un0.tups b xs z
   rw[upd_ne (ne1 this)];exact this,fun b o u z=>by
   have:=un0.frzs b o u z
   rw[upd_ne (ne1 this)];exact this,fun b ps z=>by
   obtain⟨more,e1⟩:=un0.tbls b ps z
   exact⟨more,by rw[upd_ne (ne1 e1)];exact e1⟩⟩
 have hok1:HOk P w (upd H3 c (fR c v)) s3.heap:=fun a o z=>by
  by_cases hb:a=c
  ·rw[hb,upd_same] at z
   cases z
   rw[hb]
   obtain⟨o0,g1,d0⟩:=cellu
   exact⟨⟨uc,ruc,o0,g1,d0⟩,⟨o0,g1⟩,fun h1 h2 ⟨u,r,o,g,d⟩ st=>⟨u,r,o,st o g,d⟩⟩
  ·rw[upd_ne hb] at z
   exact (I3.hok a o z).stay (fun _ _ _ y=>y) (fun b y=>by rw[upd_ne (ne1 y)];exact y) (fun b xs y=>by rw[upd_ne (ne1 y)];exact y)
 refine⟨.ref f',upd H3 c (fR c v),I3.os,I3.bare,un1,hok1,r3,q _ _ (fun p=>O.G0 p\/p=f'\/p=c'\/p=c) ⟨[],[],⟨g.bin,fun p u e _ nt=>keepN p u e nt,fun p z=>.inl z,fun p hp=> ?_,fun p hp=> ?_,fun p hp=> ?_,List.nodup_nil,fun p m=>(nomatch m),fun p ps e=>tblE p ps e,fun p hp=> ?_⟩,⟨?_,rfl⟩,rfl⟩⟩
 ·rcases hp with z|rfl|rfl|rfl
  ·exact .inl z
  ·exact .inr (.inl nf')
  ·cases e:O.H0 p with
   |none=>exact .inr (.inl rfl)
   |some u=>
    rcases sU u with nt|⟨ps,rfl⟩
    ·have e1:=eN p u e nt
     rw[hc'] at e1
     cases e1
     exact .inr (.inr (.inl ⟨.inr _,rfl⟩))
    ·obtain⟨more,e1⟩:=un0.tbls p ps e
     rw[hc'] at e1
     cases e1
  ·exact .inr (.inl (bk p n1))
 ·rcases hp with z|rfl|rfl|rfl
  ·cases e:O.H0 p with
   |none=>exact absurd e (g.gin p z)
   |some u=>
    rcases sU u with nt|⟨ps,rfl⟩
    ·rw[keepN p u e nt];simp
    ·obtain⟨ps',e1⟩:=tblE p ps e
     rw[e1];simp
  ·rw[upd_ne (ne1 hf'),hf'];simp
  ·rw[upd_ne (ne1 hc'),hc'];simp
  ·rw[upd_same];simp
 ·cases e:O.H0 p with
  |none=>exact absurd e hp
  |some u=>
   rcases sU u with nt|⟨ps,rfl⟩
   ·rw[keepN p u e nt];simp
   ·obtain⟨ps',e1⟩:=tblE p ps e
    rw[e1];simp
 ·have z:=NdefX.TabN.to (t1 (p.1,fun _ _=>p.2) (List.mem_map.mpr ⟨p,hp,rfl⟩))
  exact z.ext fun b o e=>by rw[upd_ne (ne1 e)];exact e
 ·unfold Rep
  refine⟨f',c',c,c,v,rfl,⟨.inr (.inl rfl),by rw[upd_ne (ne1 hf')];exact hf'⟩,⟨.inr (.inr (.inl rfl)),by rw[upd_ne (ne1 hc')];exact hc'⟩,⟨.inr (.inr (.inr rfl)),upd_same⟩,Nat.le_refl _,?_⟩
  refine Rep.mono (fun p z=>⟨.inl z,below p (g.gin p z)⟩) (fun p z=>jt.xZ fun u nt e=>keepN p u e nt) d v rep
end
end Sw
namespace Sw
open PySem PySem.Spec PyProof.Rows L2
variable [NmC]
section
variable {X:Cx} {Δ:List Md} {st:Ds} {o e ix:Expr} {es:List Expr} {rf ra rb:Option D} {rs:Option (List D)} {pos p apos:Pos} {r r2 rg:Rg} {vms:List VM} {Fs:List D->Option FR} {k k':Nat} {x:Str}
theorem Fl:allM (.rg .fz) [.rg .fz,.rg .fz,.rg .fz,.rg .fz,.rg .fz,.rg .fz,.rg .fz,.rg .fz,.rg .fz]:=⟨rfl,rfl,rfl,rfl,rfl,rfl,rfl,rfl,rfl,trivial⟩
theorem CW (C:ng X.prog X.w X.K X.mg X.base k Fs) (hr:Room k' X.A) (hf:PX X Δ st o (.rg r) rf) (ha:PAx X Δ st (e::es) vms rs) (hk:k<=k':=by decide) (ok:lT [.bo,.bo] vms=true:=by rfl)
  (hev:eval (.Call o (e::es) [] pos) X.env=(eval o X.env >>= fun f=>callWith pos f [] (backTo pos (starEach (e::es) X.env)) (backToKw pos (keywordEach [] X.env))):=by rfl)
  (he:starEach (e::es) X.env=(false,eval e X.env)::starEach es X.env:=by rfl) (hpl:(backTo pos (starEach es X.env)).any (·.1)=false:=by rfl):
  PX X Δ st (.Call o (e::es) [] pos) (.rg .fz) (aT Fs (aj rf rs)):=by
 refine⟨fun pins s σ H Q I ⟨O,G,dr,rel,er,kk⟩=> ?_⟩
 obtain⟨dds,e1,e2⟩:=bind1 er
 obtain⟨d,e3,e4⟩:=bind1 e1
 obtain⟨ds,e5,e6⟩:=bind1 e4
 cases e6
 obtain⟨fr,e7,e8⟩:=bind1 e2
 rw[hev]
 refine wpAny_bind (thn (hf.run pins s σ H (fun v1 H1=> ∃G1,Rel X.K O Δ st σ H1 G1/\Ext H G H1 G1/\bA X.K O H H1 G1 (.rg r) d v1) I (rdE.go rel e3 fun v1 H1 G1 rel1 x1 v1'=>⟨G1,rel1,x1,v1'⟩)) fun u s1 ⟨v1,H1,I1,r1,G1,rel1,x1,v1'⟩=> ?_)
 have rep:Rep X.K (fun _=>True) H1 d v1:=Rep.mono (fun _ _=>trivial) au _ _ v1'.hb
 obtain⟨q,rfl,fa⟩:=C.at_ I1.kIn I1.hok r1 rep e7
 refine PySem.W.callWith_F (first:=[]) fa (thn (ha.run pos pins s1 σ H1 (fun vs H2=>Rep X.K (fun _=>True) H2 d v1/\FSp X.K mV (.rg .fz) Fs (v1::vs) H2 Q E0) I1 (rdA.go rel1 e5 fun vs H2 G2 rel2 x2 v2=> ?_)) fun us s2 ⟨vs,H2,I2,r2,rep2,sp⟩=> ?_) he hpl
 ·have rep2:Rep X.K (fun _=>True) H2 d v1:=Rep.mono (fun _ _=>trivial) x2.agr d v1 rep
  refine⟨rep2,?_⟩
  obtain⟨ha,hp⟩:=nY ok v2
  refine⟨Org.all H2 G2,d::ds,fr,rfl,lS rel2.tb rel2.gin,⟨[],[],⟨Rep.mono (fun p h=>h.2) au d v1 (Rep.dom d v1 rep2),rfl⟩,ha,rfl⟩,e7,?_⟩
  cases fr with
  |er x=>cases e8
  |ok d'' os=>
   cases os with
   |cons _ _=>cases e8
   |nil=>
    cases e8
    refine fun v H' G' r=> ?_
    rw[show bq mV (v1::vs)=bq [.bo,.bo] vs from rfl,hp] at r
    obtain⟨_,x3,hv⟩:=nZ r
    exact kk v H' G' (x1.trans (x2.trans x3)) ((hv O).back (x1.trans x2))
 ·obtain⟨q2,eq2,fa2⟩:=C.at_ I2.kIn I2.hok r1 rep2 e7
  cases eq2
  refine⟨fa2,?_⟩
  show wpAny _ _ (call (.ref q) us) _ _ _
  refine wpAny_call (codeAny_mono (C.run (hr.mono hk) I2.env0 r1 r2 sp) fun r s' hq=> ?_)
  match r,hq with
  | .error _,hq=>exact hq.elim
  | .ok (.ret u),hq=>exact I2.after hq
  | .ok .next,hq=>exact hq.elim
  | .ok .brk,hq=>exact hq.elim
  | .ok .cont,hq=>exact hq.elim
theorem AL {x:Str} {pos:Pos} (hm:X.mg x=some (.ref (He.ga X.K x))) (hg:Gl X x:=by rfl) (hd:(x==("__debug__" :Str))=false:=by decide):PX X Δ st (.Name x pos) (.rg rg) (some (.glf x)):=
 cD (pe_glob hg hm (v:=.ref (He.ga X.K x)) rfl hd) fun σ H Q ⟨O,G,d,rel,er,k⟩=>by
  cases er
  exact k _ H G .refl (by unfold bA Rep;rfl)
def D.starts (x y:D):Option D:=match x,y with
 | .str u,.str w=>some (.bl (Txt.startswith u w))
 |_,_=>none
theorem zp (ho:PX X Δ st o (.rg r) ra) (he:PX X Δ st e (.rg r2) rb) (hs:starEach [e] X.env=[(false,eval e X.env)]:=by rfl) (hbase:attributeBase o "startswith" X.env (eval o X.env)=eval o X.env:=by rfl) (hline:(apos.endLine==pos.line)=true:=by rfl):
  PX X Δ st (.Call (.Attribute o "startswith" apos) [e] [] pos) (.rg rg) (b2 D.starts ra rb):=cD (pe_m1 PySem.F.slot_str_startswith PySem.F.type_str_startswith mt_startswith ho he hs hbase hline) fun σ H Q ⟨O,G,d,rel,er,k⟩=>by
 obtain⟨x,y,e1,e2,e3⟩:=cq er
 cases x <;> first|(cases e3;done)|skip
 cases y <;> first|(cases e3;done)|skip
 rename_i u w
 cases e3
 refine rdE.go rel e1 fun v H1 G1 rel1 x1 v1=>⟨⟨u,v1.str⟩,rdE.go rel1 e2 fun v' H2 G2 rel2 x2 v2=> ?_⟩
 exact⟨u,w,v1.str,by rw[v2.str],k _ _ _ (x1.trans x2) lr⟩
end
end Sw
namespace Sw
open PySem PySem.Spec PyProof.Rows L2
section
variable {α β γ δ:Type}
@[simp] theorem aL (f:α->Option β) (a:α):b1 f (some a)=f a:=rfl
@[simp] theorem aq (f:α->β->Option γ) (a:α) (b:β):b2 f (some a) (some b)=f a b:=rfl
@[simp] theorem Fm (a:D) (r:List D):aj (some a) (some r)=some (a::r):=rfl
@[simp] theorem Ib:aM=some []:=rfl
@[simp] theorem Fn (Fs:List D->Option FR) (ds:List D):aT Fs (some ds)=(Fs ds).bind FR.val:=rfl
@[simp] theorem Fp (Fs:List D->Option FR) (ds:List D):GY Fs (some ds)=(Fs ds).bind FR.EY:=rfl
@[simp] theorem Fq (Fs:List D->Option FR) (ds:List D):call2 Fs (some ds)=(Fs ds).bind FR.EZ:=rfl
@[simp] theorem G9 (d:D):FR.val (.ok d [])=some d:=rfl
@[simp] theorem Gu (d e:D):FR.EY (.ok d [e])=some (d,e):=rfl
@[simp] theorem Gv (d e f:D):FR.EZ (.ok d [e,f])=some (d,e,f):=rfl
@[simp] theorem Gx (d:D) (os:List D):(cR (some d) os:Option (Out α β))=some (.ret d os):=rfl
@[simp] theorem Ha (c:Bool) (A B:Option (Out γ β)) (k:γ->Option (Out α β)):ifO (some c) A B k=(if c=true then A else B).bind (sqO k):=rfl
@[simp] theorem Gy (ds:List δ) (step:γ->δ->Option (Out γ γ)) (b0:γ) (k:γ->Option (Out α β)):oY (some ds) step b0 k=(forL step ds b0).bind (sqF k):=rfl
@[simp] theorem rC (a:Bool) (b:Option Bool):orB (some a) b=if a=true then some true else b:=rfl
@[simp] theorem j9 (a:Bool) (b:Option Bool):m8 (some a) b=if a=true then b else some false:=rfl
@[simp] theorem zq (a:Bool):jS (some a)=some (!a):=rfl
@[simp] theorem Hb (a:Bool):blO (some a)=some (.bl a):=rfl
@[simp] theorem Gz (a:Bool):CC (some (.bl a))=some (.bl (!a)):=rfl
@[simp] theorem GA (a:Bool) (b:Option D):Ar (some (.bl a)) b=if a=true then b else some (.bl false):=rfl
@[simp] theorem Hc (a:Bool) (b:Option D):orE (some (.bl a)) b=if a=true then some (.bl true) else b:=rfl
@[simp] theorem Hf (a:Bool) (x y:Option D):ifE (some a) x y=if a=true then x else y:=rfl
@[simp] theorem GB (ds:List D):tupO (some ds)=some (.tup ds):=rfl
@[simp] theorem GC (ds:List D):t6 (some ds)=if ds.length<=sizeLine then some (.lst ds) else none:=rfl
@[simp] theorem Hg (ds:List δ) (rt:δ->Option Bool) (re:δ->Option D):lcO (some ds) rt re=rz rt re ds:=rfl
@[simp] theorem GD (f:D->Option Int->Option Int->Option D) (a:D) (l h:Option Int):CD f (some a) (some l) (some h)=f a l h:=rfl
@[simp] theorem GF (ds:List D):qj (some (.lst ds))=some ds:=rfl
@[simp] theorem GG (ds:List D):CB (some (.lst ds))=D.prs ds:=rfl
@[simp] theorem GH (d:D) (q:List Stp) (x:D) (f:D->D->Option (D×D)):As d (some q) (some x) f=do1 d q fun d'=>f d' x:=rfl
@[simp] theorem GI (d:D) (q:List Stp) (xs:List D) (f:List D->List D->Option (D×List D)):IW d (some q) (some xs) f=do1 d q (Cz f xs):=rfl
@[simp] theorem GJ (d:D) (q:List Stp) (f:List D->List D->Option (D×List D)):IX d (some q) f=do1 d q (Cz f []):=rfl
@[simp] theorem Ic (d:D) (f:D->Option (D×D)):do1 d [] f=f d:=by
 unfold do1
 have:lM d []=some d:=by cases d <;> rfl
 rw[this]
 show (f d).bind _=f d
 cases f d with
 |none=>rfl
 |some r=>show some (r.1,g6 d [] r.2)=some r;cases d <;> rfl
@[simp] theorem I4 (k:γ->Option (Out α β)) (a:γ):sqO k (.nx a)=k a:=rfl
@[simp] theorem I5 (k:γ->Option (Out α β)) (a:β):sqO k (.bk a)=some (.bk a):=rfl
@[simp] theorem I6 (k:γ->Option (Out α β)) (a:β):sqO k (.ct a)=some (.ct a):=rfl
@[simp] theorem Ie (k:γ->Option (Out α β)) (d:D) (os:List D):sqO k (.ret d os)=some (.ret d os):=rfl
@[simp] theorem Ig (k:γ->Option (Out α β)) (a:γ):sqF k (.fin a)=k a:=rfl
@[simp] theorem Ih (k:γ->Option (Out α β)) (d:D) (os:List D):sqF k (.ret d os)=some (.ret d os):=rfl
@[simp] theorem I7 (d:D) (os:List D):FO (some (.ret d os))=some (.ok d os):=rfl
@[simp] theorem Hh (d:D) (os:List D):outF (.ret d os)=some (.ok d os):=rfl
@[simp] theorem Ii (f:D->Option α) (x:D):un1 f [x]=f x:=rfl
@[simp] theorem Ij (f:D->D->Option α) (x y:D):un2 f [x,y]=f x y:=rfl
@[simp] theorem JZ (f:Option FR):fn0 f []=f:=rfl
@[simp] theorem J0 (f:D->Option FR) (a:D):fn1 f [a]=f a:=rfl
@[simp] theorem J1 (f:D->D->Option FR) (a b:D):fn2 f [a,b]=f a b:=rfl
@[simp] theorem J3 (f:D->D->D->Option FR) (a b c:D):fn3 f [a,b,c]=f a b c:=rfl
@[simp] theorem J4 (f:D->D->D->D->Option FR) (a b c d:D):fn4 f [a,b,c,d]=f a b c d:=rfl
@[simp] theorem J5 (f:D->D->D->D->D->Option FR) (a b c d e:D):fn5 f [a,b,c,d,e]=f a b c d e:=rfl
@[simp] theorem J6 (f:D->D->D->D->D->D->Option FR) (a b c d e g:D):fn6 f [a,b,c,d,e,g]=f a b c d e g:=rfl
@[simp] theorem I8 (a b:Int):D.cQ (.int a) (.int b)=some (.int (a+b)):=rfl
@[simp] theorem I9 (a b:Int):D.lN (.int a) (.int b)=some (.int (a -b)):=rfl
theorem Ft {a b:Int} (h:q7 a b=true):D.jD (.int a) (.int b)=some (.int (a*b)):=by
 show (if q7 a b=true then some (a*b) else none).map D.int=_
 rw[if_pos h];rfl
theorem yq {a b:Int} (h1: -(2^64)<a) (h2:a<2^64):q7 a b=true:=by
 unfold q7;exact @decide_eq_true _ (Classical.propDecidable _) (.inl ⟨h1,h2⟩)
theorem oZ {a b:Int} (h1: -(2^64)<a) (h2:a<2^64):D.jD (.int a) (.int b)=some (.int (a*b)):=Ft (yq h1 h2)
@[simp] theorem Ja (a:Int):D.EK (.int a)=some (.int (-a)):=rfl
@[simp] theorem JD (a b:Int):D.ltI (.int a) (.int b)=some (decide (a<b)):=rfl
@[simp] theorem JE (a b:Int):D.leI (.int a) (.int b)=some (decide (a<=b)):=rfl
@[simp] theorem JF (a b:Int):D.gtI (.int a) (.int b)=some (decide (b<a)):=rfl
@[simp] theorem JG (a b:Int):D.geI (.int a) (.int b)=some (decide (b<=a)):=rfl
@[simp] theorem Eh (a b:Int):D.eqA (.int a) (.int b)=some (decide (a=b)):=by
 unfold D.eqA D.toV;simp[scal]
@[simp] theorem Ei (a b:Int):D.neA (.int a) (.int b)=some (!decide (a=b)):=by
 unfold D.neA D.toV;simp[scal]
@[simp] theorem Ej (a b:Str):D.eqA (.str a) (.str b)=some (decide (a=b)):=by
 unfold D.eqA D.toV;simp[scal]
@[simp] theorem Ek (a b:Str):D.neA (.str a) (.str b)=some (!decide (a=b)):=by
 unfold D.neA D.toV;simp[scal]
@[simp] theorem Hi (a b:Bool):D.eqA (.bl a) (.bl b)=some (decide (a=b)):=by
 unfold D.eqA D.toV;simp[scal]
@[simp] theorem Hj (a b:Bool):D.neA (.bl a) (.bl b)=some (!decide (a=b)):=by
 unfold D.neA D.toV;simp[scal]
@[simp] theorem Jb (f:D->D->Option Bool) (x y:D):blD f x y=(f x y).map D.bl:=rfl
@[simp] theorem J7 (a:Bool):D.tb (.bl a)=some a:=rfl
@[simp] theorem JI (a:Int):D.toI (.int a)=some (some a):=rfl
@[simp] theorem J8 (x:Str):D.et (.str x)=some (.str x):=rfl
@[simp] theorem J9 (x:Int):D.et (.int x)=some (.int x):=rfl
@[simp] theorem Ka (x:Bool):D.et (.bl x)=some (.bl x):=rfl
@[simp] theorem JJ (a b:Str):D.et (.tup [.str a,.str b])=some (.tup [.str a,.str b]):=rfl
@[simp] theorem Hk (x:Str):D.key (.str x)=some (.inr x):=rfl
@[simp] theorem JK (x:Int):D.key (.int x)=some (.inl x):=rfl
@[simp] theorem JL (x:Str):D.toV (.str x)=some (.str x):=rfl
@[simp] theorem JM (x:Int):D.toV (.int x)=some (.int x):=rfl
@[simp] theorem JN (a b:Str):D.ltS (.str a) (.str b)=some (decide (a.cps.toList<b.cps.toList)):=rfl
@[simp] theorem JO (a b:Str):D.leS (.str a) (.str b)=some (!decide (b.cps.toList<a.cps.toList)):=rfl
@[simp] theorem JP (a b:Str):D.gtS (.str a) (.str b)=some (decide (b.cps.toList<a.cps.toList)):=rfl
@[simp] theorem JQ (a b:Str):D.geS (.str a) (.str b)=some (!decide (a.cps.toList<b.cps.toList)):=rfl
theorem atI_nat {α:Type} {xs:List α} {i:Int} (h0:0<=i) (h1:i<xs.length):atI xs i=xs[i.toNat]? :=by
 unfold L2.atI L2.ixN;rw[if_pos h0,if_pos h1];rfl
theorem qI {ds:List D} {i:Int} (h0:0<=i) (h1:i<ds.length):D.atL (.lst ds) (.int i)=ds[i.toNat]? :=atI_nat h0 h1
@[simp] theorem Jc (ds:List D):D.EN (.lst ds)=some (.int ds.length):=rfl
@[simp] theorem Jd (ks:List (Key×D)):D.Co (.dct ks)=some (.int ks.length):=rfl
@[simp] theorem Je (ns:List Int):D.vt (.sc ns)=some (.int ns.length):=rfl
@[simp] theorem JR (ds:List D):D.toL (.lst ds)=some (.lst ds):=rfl
@[simp] theorem JS (ds:List D):D.toL (.tup ds)=some (.lst ds):=rfl
theorem ua:16777000<=sizeLine:=by decide+kernel
@[simp] theorem El (lo:Int) (n:Nat):(sF lo n).length=n:=by unfold sF;simp
theorem CY (ds:List D):D.evs ds=ds.all D.ev:=by
 induction ds with
 |nil=>rfl
 |cons d ds ih=>rw[List.all_cons,←ih];rfl
theorem CZ {α:Type} {f:α->D} (h: ∀x,(f x).ev=true) (xs:List α):D.evs (xs.map f)=true:=by
 rw[CY,List.all_eq_true]
 intro d hd
 obtain⟨x,_,rfl⟩:=List.mem_map.mp hd
 exact h x
end
end Sw
namespace Sw
open PySem PySem.Spec PyProof.Rows L2
section
variable {κ α β:Type} [DecidableEq κ]
theorem dU (k j:κ) (x:α): ∀ks:List (κ×α),aD (bH ks k x) j=if j=k then some x else aD ks j
 | []=>by
  unfold bH
  rw[bc]
  by_cases e:k=j
  ·simp[e]
  ·rw[if_neg e,if_neg (fun q=>e q.symm)]
 |p::r=>by
  unfold bH
  by_cases e:p.1=k
  ·rw[if_pos e,bc,bc]
   by_cases h:k=j
   ·subst h;simp[e]
   ·rw[if_neg h,if_neg (fun q=>h q.symm),if_neg (fun q=>h (e.symm.trans q))]
  ·rw[if_neg e,bc,bc,dU k j x r]
   by_cases h:p.1=j
   ·rw[if_pos h,if_neg (fun q=>e (h.trans q)),if_pos h]
   ·rw[if_neg h,if_neg h]
theorem jI {k:κ} {ks:List (κ×α)}:(aD ks k).isSome=true↔k∈ks.map (·.1):=by
 cases e:aD ks k with
 |none=>simp[oO.mp e]
 |some v=>simp;exact⟨v,jZ e⟩
theorem jJ {k:κ} {x:α} {ks:List (κ×α)} (hn:(ks.map (·.1)).Nodup) (h:(k,x)∈ks):aD ks k=some x:=by
 induction ks with
 |nil=>cases h
 |cons p r ih=>
  rw[List.map_cons,List.nodup_cons] at hn
  rw[bc]
  rcases List.mem_cons.mp h with e|h
  ·subst e;simp
  ·have:p.1≠k:=fun e=>hn.1 (e▸List.mem_map.mpr ⟨_,h,rfl⟩)
   rw[if_neg this,ih hn.2 h]
theorem dB {k:κ} {x:α} {ks:List (κ×α)} (h:k∈ks.map (·.1)):(bH ks k x).map (·.1)=ks.map (·.1):=by
 rw[mh,if_pos (jI.mpr h)]
theorem sJ {k:κ} {x:α} {ks:List (κ×α)} (h:k∉ks.map (·.1)):(bH ks k x).map (·.1)=ks.map (·.1)++[k]:=by
 rw[mh,if_neg (fun q=>h (jI.mp q))]
end
section
variable {α:Type}
def eD (e:α->D) (r:List (Str×α)):D:=.dct (r.map fun p=>(Sum.inr p.1,e p.2))
theorem yr (e:α->D) (x:Str): ∀r:List (Str×α),aD (r.map fun p=>((Sum.inr p.1:Key),e p.2)) (Sum.inr x)=(aD r x).map e
 | []=>rfl
 |p::r=>by
  rw[List.map_cons,bc,bc,yr e x r]
  by_cases h:p.1=x
  ·simp[h]
  ·rw[if_neg h,if_neg (fun q=>h (Sum.inr.inj q))]
@[simp] theorem Ik (e:α->D) (r:List (Str×α)) (x:Str):D.look (eD e r) (.str x)=some ((aD r x).map e):=by
 unfold eD D.look
 simp only[Hk,Option.map_some,yr]
@[simp] theorem Jf (e:α->D) (r:List (Str×α)) (x:Str):D.inK (.str x) (eD e r)=some (aD r x).isSome:=by
 unfold D.inK;simp
@[simp] theorem Il (e:α->D) (r:List (Str×α)) (x:Str):D.Cm (.str x) (eD e r)=some (!(aD r x).isSome):=by
 unfold D.Cm;simp
@[simp] theorem Im (e:α->D) (r:List (Str×α)) (x:Str):D.Ck (eD e r) (.str x)=(aD r x).map e:=by
 unfold D.Ck;simp
@[simp] theorem Io (e:α->D) (r:List (Str×α)):D.Co (eD e r)=some (.int r.length):=by
 unfold eD;simp
end
theorem ka {α:Type} {xs ys:List α} (h:xs.Nodup) (hs: ∀x∈xs,x∈ys):xs.length<=ys.length:=h.length_le_of_subset hs
end Sw
namespace Sw
open PySem PySem.Spec PyProof.Rows L2
@[simp] theorem Jg (ns:List Int) (lo hi:Option Int):D.ET (.sc ns) lo hi=some (.lst ((Sw.iZ ns lo hi).map D.int)):=rfl
theorem AM (n:Nat):sF 0 n=(List.range n).map fun i:Nat=>D.int i:=by
 unfold sF
 exact List.map_congr_left fun i _=>by rw[Int.zero_add]
def sg (n:Nat):Str:=⟨#[n]⟩
theorem C0 {a b:Str} (h:a.cps.toList=b.cps.toList):a=b:=PySem.W.str_of_cps h
theorem th: ∀ys:List Str,(Str.join "" ys).cps.toList=(ys.map fun y=>y.cps.toList).flatten
 | []=>rfl
 | [x]=>by simp[Str.join]
 |x::y::r=>by
  have ih:=th (y::r)
  unfold Str.join
  show ((x.cps++(Str.ofString "").cps)++(Str.join "" (y::r)).cps).toList=_
  rw[Array.toList_append,Array.toList_append,ih]
  show (x.cps.toList++[])++_=_
  rw[List.append_nil];rfl
theorem AN (cs:List Nat):Txt.join "" (cs.map sg)=⟨cs.toArray⟩:=by
 have h:Txt.join "" (cs.map sg)=Str.join "" (cs.map sg):=PySem.StrLaws.glued_eq_join _ _
 rw[h]
 refine C0 ?_
 rw[th,List.map_map]
 show ((cs.map fun c=>[c]).flatten)=cs
 clear h
 induction cs with
 |nil=>rfl
 |cons c cs ih=>rw[List.map_cons,List.flatten_cons,ih];rfl
theorem strs_map: ∀xs:List Str,D.strs (xs.map D.str)=some xs
 | []=>rfl
 |x::xs=>by rw[List.map_cons];unfold D.strs;rw[strs_map xs];rfl
def qJ:Str:="abcdefghijklmnopqrstuvwxyz"
theorem vH:qJ.cps.toList=(List.range 26).map fun i=>97+i:=by decide+kernel
end Sw
namespace Sw
open PySem PySem.Spec PyProof.Rows L2
abbrev Web:=List (Str×List (Str×Int))
def lk (w:Web) (x y:Str):Option Int:=(aD w x).bind fun r=>aD r y
structure lB (ns:List Str) (w:Web):Prop where
 keys:w.map (·.1)=ns
 rows: ∀x r,aD w x=some r->(r.map (·.1)).Nodup
 sym: ∀x y v,lk w x y=some v->lk w y x=some v
 irr: ∀x,lk w x x=none
 rng: ∀x y v,lk w x y=some v->1<=v/\v<=1000000000000
def AO (w:Web) (x y:Str) (v:Int):Web:=
 let w1:=bH w x (bH ((aD w x).getD []) y v)
 bH w1 y (bH ((aD w1 y).getD []) x v)
section
variable {ns:List Str} {w:Web} {x y:Str} {v:Int}
theorem lB.has (h:lB ns w):(aD w x).isSome=true↔x∈ns:=by rw[jI,h.keys]
theorem lB.get (h:lB ns w) (hx:x∈ns): ∃r,aD w x=some r:=Option.isSome_iff_exists.mp (h.has.mpr hx)
theorem lB.len (h:lB ns w):w.length=ns.length:=by rw[<-h.keys];simp
theorem C3 (w:Web) (x:Str) (r:List (Str×Int)) (a b:Str):lk (bH w x r) a b=if a=x then aD r b else lk w a b:=by
 unfold lk
 rw[dU]
 by_cases e:a=x
 ·rw[if_pos e,if_pos e];rfl
 ·rw[if_neg e,if_neg e]
theorem rD (hxy:x≠y) (a b:Str):lk (AO w x y v) a b=if (a=x/\b=y)\/(a=y/\b=x) then some v else lk w a b:=by
 unfold AO
 simp only[C3,dU]
 by_cases ha:a=y
 ·subst ha
  rw[if_pos rfl,if_neg (show ¬a=x from fun e=>hxy e.symm)]
  by_cases hb:b=x
  ·rw[if_pos hb,if_pos (.inr ⟨rfl,hb⟩)]
  ·rw[if_neg hb,if_neg (by rintro (⟨e,_⟩|⟨_,e⟩);exact hxy e.symm;exact hb e)]
   unfold lk
   cases aD w a <;> rfl
 ·rw[if_neg ha]
  by_cases hx:a=x
  ·subst hx
   rw[if_pos rfl]
   by_cases hb:b=y
   ·rw[if_pos hb,if_pos (.inl ⟨rfl,hb⟩)]
   ·rw[if_neg hb,if_neg (by rintro (⟨_,e⟩|⟨e,_⟩);exact hb e;exact ha e)]
    unfold lk
    cases aD w a <;> rfl
  ·rw[if_neg hx,if_neg (by rintro (⟨e,_⟩|⟨e,_⟩);exact hx e;exact ha e)]
theorem AQ {r s:List (Str×Int)} (hk:w.map (·.1)=ns) (hx:x∈ns) (hy:y∈ns):(bH (bH w x r) y s).map (·.1)=ns:=by
 rw[dB,dB,hk]
 ·rw[hk];exact hx
 ·rw[dB (by rw[hk];exact hx),hk];exact hy
theorem AR {r s:List (Str×Int)} (h:lB ns w) (hr:(r.map (·.1)).Nodup) (hs:(s.map (·.1)).Nodup): ∀a t,aD (bH (bH w x r) y s) a=some t->(t.map (·.1)).Nodup:=fun a t e=>by
 rw[dU,dU] at e
 split at e
 ·cases e;exact hs
 ·split at e
  ·cases e;exact hr
  ·exact h.rows a t e
theorem lB.rE (h:lB ns w) (x:Str):(((aD w x).getD []).map (·.1)).Nodup:=by
 cases e:aD w x with
 |none=>exact List.nodup_nil
 |some r=>exact h.rows x r e
theorem lB.join (h:lB ns w) (hx:x∈ns) (hy:y∈ns) (hxy:x≠y) (hv:1<=v/\v<=1000000000000):lB ns (AO w x y v) where
 keys:=AQ h.keys hx hy
 rows:=by
  refine AR h (fL (h.rE x)) (fL ?_)
  rw[dU,if_neg (fun e=>hxy e.symm)]
  exact h.rE y
 sym:=fun a b u e=>by
  rw[rD hxy] at e⊢
  split at e
  ·rename_i q
   rw[if_pos (q.symm.imp And.symm And.symm)];exact e
  ·rename_i q
   rw[if_neg (fun z=>q (z.symm.imp And.symm And.symm))];exact h.sym _ _ _ e
 irr:=fun a=>by
  rw[rD hxy,if_neg (by rintro (⟨e,f⟩|⟨e,f⟩);exact hxy (e.symm.trans f);exact hxy (f.symm.trans e))]
  exact h.irr a
 rng:=fun a b u e=>by
  rw[rD hxy] at e
  split at e
  ·cases e;exact hv
  ·exact h.rng _ _ _ e
end
end Sw
namespace Sw
open PySem PySem.Spec PyProof.Rows L2
def bS (a b:Str):Prop:=a.cps.toList<b.cps.toList
instance (a b:Str):Decidable (bS a b):=inferInstanceAs (Decidable (a.cps.toList<b.cps.toList))
theorem cL (a:Str): ¬bS a a:=List.lt_irrefl _
theorem kc {a b c:Str} (h:bS a b) (g:bS b c):bS a c:=List.lt_trans h g
theorem o5 {a b:Str} (h:bS a b): ¬bS b a:=fun g=>cL a (kc h g)
theorem kF (a b:Str):bS a b\/a=b\/bS b a:=by
 by_cases h:bS a b
 ·exact .inl h
 ·by_cases g:bS b a
  ·exact .inr (.inr g)
  ·exact .inr (.inl (PySem.W.str_of_cps (List.le_antisymm (List.not_lt.mp g) (List.not_lt.mp h))))
theorem C4 {a b:Str}:sLe a b=true↔ ¬bS b a:=by
 unfold sLe bS
 rw[decide_eq_true_eq,List.not_lt]
def pLt (p q:Str×Str):Prop:=bS p.1 q.1\/(p.1=q.1/\bS p.2 q.2)
instance (p q:Str×Str):Decidable (pLt p q):=inferInstanceAs (Decidable (_\/_))
theorem AU:PyProof.Rows.lexLt PyProof.Rows.itemOrd (PySem.W.keyToksAll []) (PySem.W.keyToksAll [])=false:=by
 unfold PySem.W.keyToksAll;rfl
theorem kG (p:Str×Str): ¬pLt p p:=by
 rintro (h|⟨_,h⟩)
 ·exact cL _ h
 ·exact cL _ h
theorem mn {p q r:Str×Str} (h:pLt p q) (g:pLt q r):pLt p r:=by
 rcases h with h|⟨e,h⟩
 ·rcases g with g|⟨e,g⟩
  ·exact .inl (kc h g)
  ·exact .inl (e▸h)
 ·rcases g with g|⟨e',g⟩
  ·exact .inl (e▸g)
  ·exact .inr ⟨e.trans e',kc h g⟩
theorem ub (p q:Str×Str):pLt p q\/p=q\/pLt q p:=by
 rcases kF p.1 q.1 with h|h|h
 ·exact .inl (.inl h)
 ·rcases kF p.2 q.2 with g|g|g
  ·exact .inl (.inr ⟨h,g⟩)
  ·exact .inr (.inl (Prod.ext h g))
  ·exact .inr (.inr (.inr ⟨h.symm,g⟩))
 ·exact .inr (.inr (.inl h))
def pLe (p q:Str×Str):Bool:= !decide (pLt q p)
theorem zr (a b c:Str×Str) (h:pLe a b=true) (g:pLe b c=true):pLe a c=true:=by
 unfold pLe at*
 simp only[Bool.not_eq_true',decide_eq_false_iff_not] at*
 intro k
 rcases ub a b with e|e|e
 ·exact g (mn k e)
 ·subst e;exact g k
 ·exact h e
theorem zt (a b:Str×Str):(pLe a b||pLe b a)=true:=by
 unfold pLe
 rcases ub a b with e|e|e
 ·simp[show ¬pLt b a from fun g=>kG _ (mn e g)]
 ·subst e;simp[kG]
 ·simp[show ¬pLt a b from fun g=>kG _ (mn e g)]
def zu (ps:List (Str×Str)):List (Str×Str):=ps.mergeSort pLe
theorem o6 (ps:List (Str×Str)):(zu ps).Perm ps:=List.mergeSort_perm _ _
theorem vI (ps:List (Str×Str)):(zu ps).Pairwise (fun a b=>pLe a b=true):=List.pairwise_mergeSort zr zt ps
def aZ (ps:List (Str×Str)):List Str:=ps.flatMap fun p=>[p.1,p.2]
end Sw
namespace Sw
open PySem PySem.Spec PyProof.Rows L2
theorem AV {α:Type} (f:α->D) (xs:List α):D.pds (xs.map f)=xs.map fun x=>(f x).pd:=by rw[D.Cf,List.map_map];rfl
theorem nh {α:Type} {f:α->PyData} (h: ∀x y,PyData.eqv (f x) (f y)=true↔x=y): ∀xs ys:List α,PyData.eqvAll (xs.map f) (ys.map f)=true↔xs=ys
 | [],[]=>by simp[PyData.eqvAll]
 | [],y::ys=>by simp[PyData.eqvAll]
 |x::xs,[]=>by simp[PyData.eqvAll]
 |x::xs,y::ys=>by
  simp only[List.map_cons,PyData.eqvAll,Bool.and_eq_true,h,nh h xs ys,List.cons.injEq]
theorem pU {ds:List PyData} {n:Nat} (h: ∀d∈ds,d.depth<=n):PyData.depthAll ds<=n:=by
 induction ds with
 |nil=>exact Nat.zero_le _
 |cons d ds ih=>
  show max d.depth (PyData.depthAll ds)<=n
  exact Nat.max_le.mpr ⟨h d List.mem_cons_self,ih fun e he=>h e (List.mem_cons_of_mem _ he)⟩
theorem AW {ds:List PyData} (h: ∀d∈ds,d.canLay0=true):PyData.canLayAll0 ds=true:=by
 induction ds with
 |nil=>rfl
 |cons d ds ih=>
  show (d.canLay0&&PyData.canLayAll0 ds)=true
  rw[h d List.mem_cons_self,ih fun e he=>h e (List.mem_cons_of_mem _ he)];rfl
def Low (x:Str):Prop:= ∀c∈x.cps.toList,97<=c/\c<123
theorem Low.ok {x:Str} (h:Low x):PySem.PyData.strOk x=true:=by
 unfold PySem.PyData.strOk
 rw[Array.all_eq_true']
 intro c hc
 have:=h c (Array.mem_toList_iff.mpr hc)
 rw[decide_eq_true_eq];omega
end Sw
namespace Sw
open PySem PySem.Spec PyProof.Rows L2
class En (A:Type) where
 en:A->D
abbrev en {A:Type} [En A] (a:A):D:=En.en a
structure Sd (A:Type) where
 l:List (Str×A)
structure Td (K A:Type) where
 l:List (K×A)
structure Scr where
 l:List Int
structure Tl (A:Type) where
 l:List A
deriving DecidableEq
structure T3 (A B C:Type) where
 a:A
 b:B
 c:C
deriving DecidableEq
structure T4 (A B C E:Type) where
 a:A
 b:B
 c:C
 d:E
deriving DecidableEq
structure T5 (A B C E F:Type) where
 a:A
 b:B
 c:C
 d:E
 e:F
deriving DecidableEq
class KT (K:Type) where
 kt:K->List Key
section
variable {A B C E F K:Type}
instance:En Int:=⟨.int⟩
instance:En Str:=⟨.str⟩
instance:En Bool:=⟨.bl⟩
instance:En Unit:=⟨fun _=>.non⟩
instance [En A]:En (List A):=⟨fun xs=>.lst (xs.map en)⟩
instance [En A]:En (Option A):=⟨fun o=>match o with|none=>.non|some a=>en a⟩
instance [En A] [En B]:En (A×B):=⟨fun p=>.tup [en p.1,en p.2]⟩
instance [En A] [En B] [En C]:En (T3 A B C):=⟨fun p=>.tup [en p.a,en p.b,en p.c]⟩
instance [En A] [En B] [En C] [En E]:En (T4 A B C E):=⟨fun p=>.tup [en p.a,en p.b,en p.c,en p.d]⟩
instance [En A] [En B] [En C] [En E] [En F]:En (T5 A B C E F):=⟨fun p=>.tup [en p.a,en p.b,en p.c,en p.d,en p.e]⟩
instance [En A]:En (Tl A):=⟨fun xs=>.tup (xs.l.map en)⟩
def sdK [En A] (d:List (Str×A)):List (Key×D):=d.map fun p=>((Sum.inr p.1:Key),en p.2)
instance [En A]:En (Sd A):=⟨fun d=>.dct (sdK d.l)⟩
def tdK [KT K] [En A] (d:List (K×A)):List (List Key×D):=d.map fun p=>(KT.kt p.1,en p.2)
instance [KT K] [En A]:En (Td K A):=⟨fun d=>.dcT (tdK d.l)⟩
instance:En Scr:=⟨fun s=>.sc s.l⟩
instance:KT (Str×Str):=⟨fun p=>[.inr p.1,.inr p.2]⟩
instance:KT (Tl Str):=⟨fun p=>p.l.map Sum.inr⟩
instance:KT (Int×Int):=⟨fun p=>[.inl p.1,.inl p.2]⟩
class Ev (A:Type) [En A]:Prop where
 ev: ∀a:A,(en a).ev=true
instance:Ev Int:=⟨fun _=>rfl⟩
instance:Ev Str:=⟨fun _=>rfl⟩
instance:Ev Bool:=⟨fun _=>rfl⟩
instance:Ev Unit:=⟨fun _=>rfl⟩
instance [En A] [En B] [Ev A] [Ev B]:Ev (A×B):=⟨fun p=>by
 show (D.ev (en p.1)&&(D.ev (en p.2)&&true))=true
 rw[Ev.ev,Ev.ev];rfl⟩
instance [En A] [En B] [En C] [Ev A] [Ev B] [Ev C]:Ev (T3 A B C):=⟨fun p=>by
 show (D.ev (en p.a)&&(D.ev (en p.b)&&(D.ev (en p.c)&&true)))=true
 rw[Ev.ev,Ev.ev,Ev.ev];rfl⟩
instance [En A] [En B] [En C] [En E] [Ev A] [Ev B] [Ev C] [Ev E]:Ev (T4 A B C E):=⟨fun p=>by
 show (D.ev (en p.a)&&(D.ev (en p.b)&&(D.ev (en p.c)&&(D.ev (en p.d)&&true))))=true
 rw[Ev.ev,Ev.ev,Ev.ev,Ev.ev];rfl⟩
instance [En A] [En B] [En C] [En E] [En F] [Ev A] [Ev B] [Ev C] [Ev E] [Ev F]:Ev (T5 A B C E F):=⟨fun p=>by
 show (D.ev (en p.a)&&(D.ev (en p.b)&&(D.ev (en p.c)&&(D.ev (en p.d)&&(D.ev (en p.e)&&true)))))=true
 rw[Ev.ev,Ev.ev,Ev.ev,Ev.ev,Ev.ev];rfl⟩
instance [En A] [Ev A]:Ev (Tl A):=⟨fun p=>CZ (fun x=>Ev.ev x) p.l⟩
instance [En A] [Ev A]:Ev (Option A):=⟨fun p=>by cases p with
 |none=>rfl
 |some a=>exact Ev.ev a⟩
end
class ES (A S:Type) where
 es:A->S
abbrev es {A S:Type} [ES A S] (a:A):S:=ES.es a
inductive TO (α β ρ:Type) where
 |nx (a:α)|bk (b:β)|ct (b:β)|ret (r:ρ)|exc (x:Xn)
inductive qk (β ρ:Type) where
 |fin (b:β)|ret (r:ρ)|exc (x:Xn)
class ER (ρ:Type) where
 er:ρ->D×List D
structure R0 (A:Type) where
 v:A
structure R1 (A B:Type) where
 v:A
 o:B
structure R2' (A B C:Type) where
 v:A
 o:B
 p:C
structure R3 (A B C E:Type) where
 v:A
 o:B
 p:C
 q:E
section
variable {A B C E S T α β ρ:Type}
instance [En A]:ER (R0 A):=⟨fun r=>(en r.v,[])⟩
instance [En A] [En B]:ER (R1 A B):=⟨fun r=>(en r.v,[en r.o])⟩
instance [En A] [En B] [En C]:ER (R2' A B C):=⟨fun r=>(en r.v,[en r.o,en r.p])⟩
instance [En A] [En B] [En C] [En E]:ER (R3 A B C E):=⟨fun r=>(en r.v,[en r.o,en r.p,en r.q])⟩
instance [En A]:ES A D:=⟨en⟩
instance:ES Bool Bool:=⟨id⟩
instance:ES Int Int:=⟨id⟩
instance:ES Unit Unit:=⟨id⟩
instance:ES PEmpty PEmpty:=⟨id⟩
instance [ES A S] [ES B T]:ES (A×B) (S×T):=⟨fun p=>(es p.1,es p.2)⟩
instance [ES A S]:ES (List A) (List S):=⟨List.map es⟩
instance [ES A S]:ES (Option A) (Option S):=⟨Option.map es⟩
instance [ES α S] [ES β T] [ER ρ]:ES (TO α β ρ) (Out S T):=⟨fun o=>match o with
 | .nx a=>.nx (es a)| .bk b=>.bk (es b)| .ct b=>.ct (es b)| .ret r=>.ret (ER.er r).1 (ER.er r).2| .exc x=>.exc x⟩
instance [ES β T] [ER ρ]:ES (qk β ρ) (Res T):=⟨fun o=>match o with
 | .fin a=>.fin (es a)| .ret r=>.ret (ER.er r).1 (ER.er r).2| .exc x=>.exc x⟩
end
def TyS {A S:Type} [ES A S] (m:Option S) (t:Option A):Prop:= ∀a,t=some a->m=some (es a)
section
variable {A B C E F S T U A' B' α β γ δ ρ α' β' γ' δ':Type}
theorem aa [ES A S] {m:S} {a:A} (h:m=es a):TyS (some m) (some a):=fun b e=>by cases e;rw[h]
theorem av [En A] (a:A):TyS (some (en a)) (some a):=aa rfl
theorem qK [ES A S] {m:Option S}:TyS m (none:Option A):=fun _ e=>by cases e
theorem aw [ES A S] [ES B T] {m:Option S} {k:S->Option T} {t:Option A} {l:A->Option B} (h:TyS m t) (g: ∀a,TyS (k (es a)) (l a)):TyS (m.bind k) (t.bind l):=fun b e=>by
 obtain⟨a,e1,e2⟩:=bind1 e
 rw[h a e1];exact g a b e2
def ud [ES A S] [ES B T] (f:S->Option T) (g:A->Option B):Prop:= ∀a b,g a=some b->f (es a)=some (es b)
def fy [ES A S] [ES B T] [ES C U] (f:S->T->Option U) (g:A->B->Option C):Prop:= ∀a b c,g a b=some c->f (es a) (es b)=some (es c)
theorem tj [ES A S] [ES B T] {f:S->Option T} {g:A->Option B} (h:ud f g) {m:Option S} {t:Option A} (q:TyS m t):TyS (b1 f m) (b1 g t):=aw q fun a b e=>h a b e
theorem ay [ES A S] [ES B T] [ES C U] {f:S->T->Option U} {g:A->B->Option C} (h:fy f g) {m:Option S} {t:Option A} {m':Option T} {t':Option B} (q:TyS m t) (q':TyS m' t'):TyS (b2 f m m') (b2 g t t'):=
 aw q fun a=>aw q' fun b c e=>h a b c e
theorem jU [En A] [En B] {f:D->D->Option Bool} {g:A->B->Option Bool} (h:fy f g):fy (blD f) g:=fun a b c e=>by
 unfold blD;rw[h a b c e];rfl
theorem mW {m:Option D} {t:Option Bool} (q:TyS m t):TyS (b1 D.tb m) t:=fun a e=>by
 unfold b1;rw[q a e];rfl
theorem n7 {m:Option Bool} {t:Option Bool} (q:TyS m t):TyS (jS m) (jS t):=aw q fun a=>aa rfl
theorem yt {m n:Option Bool} {t u:Option Bool} (q:TyS m t) (r:TyS n u):TyS (m8 m n) (m8 t u):=aw q fun a=>by
 cases a
 ·exact aa rfl
 ·exact r
theorem ue {m n:Option Bool} {t u:Option Bool} (q:TyS m t) (r:TyS n u):TyS (orB m n) (orB t u):=aw q fun a=>by
 cases a
 ·exact r
 ·exact aa rfl
theorem yu {m:Option D} {t:Option Bool} (q:TyS m t):TyS (CC m) (jS t):=aw (mW q) fun a=>aa rfl
theorem uf {m n:Option D} {t u:Option Bool} (q:TyS m t) (r:TyS n u):TyS (Ar m n) (m8 t u):=aw (mW q) fun a=>by
 cases a
 ·exact aa rfl
 ·exact r
theorem AX {m n:Option D} {t u:Option Bool} (q:TyS m t) (r:TyS n u):TyS (orE m n) (orB t u):=aw (mW q) fun a=>by
 cases a
 ·exact r
 ·exact aa rfl
def Jh (c:Option Bool) (x y:Option A):Option A:=c.bind fun c=>if c=true then x else y
def ug (k:γ->Option (TO α β ρ)):TO γ β ρ->Option (TO α β ρ)
 | .nx a=>k a
 | .bk b=>some (.bk b)
 | .ct b=>some (.ct b)
 | .ret r=>some (.ret r)
 | .exc x=>some (.exc x)
def f6 (c:Option Bool) (x y:Option (TO γ β ρ)) (k:γ->Option (TO α β ρ)):Option (TO α β ρ):=c.bind fun c=>(if c=true then x else y).bind (ug k)
theorem uh [ES α A] [ES β B] [ES γ C] [ER ρ] {k:C->Option (Out A B)} {l:γ->Option (TO α β ρ)} (h: ∀a,TyS (k (es a)) (l a)) (o:TO γ β ρ):TyS (sqO k (es o)) (ug l o):=by
 cases o with
 |nx a=>exact h a
 |bk a=>exact aa rfl
 |ct a=>exact aa rfl
 |ret a=>exact aa rfl
 |exc a=>exact aa rfl
theorem cu [ES α A] [ES β B] [ES γ C] [ER ρ] {c c':Option Bool} {x y:Option (Out C B)} {x' y':Option (TO γ β ρ)} {k:C->Option (Out A B)} {l:γ->Option (TO α β ρ)}
  (q:TyS c c') (hx:TyS x x') (hy:TyS y y') (h: ∀a,TyS (k (es a)) (l a)):TyS (ifO c x y k) (f6 c' x' y' l):=aw q fun a=>by
 cases a
 ·exact aw hy fun o=>uh h o
 ·exact aw hx fun o=>uh h o
def eL (step:β->δ->Option (TO β β ρ)):List δ->β->Option (qk β ρ)
 | [],b=>some (.fin b)
 |x::xs,b=>(step b x).bind fun
  | .nx b'=>eL step xs b'
  | .ct b'=>eL step xs b'
  | .bk b'=>some (.fin b')
  | .ret r=>some (.ret r)
  | .exc x=>some (.exc x)
def zv (k:γ->Option (TO α β ρ)):qk γ ρ->Option (TO α β ρ)
 | .fin b=>k b
 | .ret r=>some (.ret r)
 | .exc x=>some (.exc x)
def lC (ds:Option (List δ)) (step:γ->δ->Option (TO γ γ ρ)) (b0:γ) (k:γ->Option (TO α β ρ)):Option (TO α β ρ):=ds.bind fun ds=>(eL step ds b0).bind (zv k)
theorem ui [ES β B] [ES δ E] [ER ρ] {st:B->E->Option (Out B B)} {st':β->δ->Option (TO β β ρ)} (h: ∀b x,TyS (st (es b) (es x)) (st' b x)): ∀(xs:List δ) (b:β),TyS (forL st (es xs) (es b)) (eL st' xs b)
 | [],b=>aa rfl
 |x::xs,b=>by
  show TyS ((st (es b) (es x)).bind _) ((st' b x).bind _)
  refine aw (h b x) fun o=> ?_
  cases o with
  |nx a=>exact ui h xs a
  |ct a=>exact ui h xs a
  |bk a=>exact aa rfl
  |ret a=>exact aa rfl
  |exc a=>exact aa rfl
theorem AY [ES α A] [ES β B] [ES γ C] [ER ρ] {k:C->Option (Out A B)} {l:γ->Option (TO α β ρ)} (h: ∀a,TyS (k (es a)) (l a)) (o:qk γ ρ):TyS (sqF k (es o)) (zv l o):=by
 cases o with
 |fin a=>exact h a
 |ret a=>exact aa rfl
 |exc a=>exact aa rfl
theorem ia [ES α A] [ES β B] [ES γ C] [ES δ E] [ER ρ] {m:Option (List E)} {t:Option (List δ)} {st:C->E->Option (Out C C)} {st':γ->δ->Option (TO γ γ ρ)} {b:C} {b':γ} {k:C->Option (Out A B)} {l:γ->Option (TO α β ρ)}
  (q:TyS m t) (hs: ∀b x,TyS (st (es b) (es x)) (st' b x)) (hb:b=es b') (h: ∀a,TyS (k (es a)) (l a)):TyS (oY m st b k) (lC t st' b' l):=aw q fun xs=>by
 subst hb
 exact aw (ui hs xs b') fun o=>AY h o
def C5 (k:γ->Option (TO α β ρ)):qk γ ρ->Option (TO α β ρ)
 | .fin b=>k b
 | .ret r=>some (.ret r)
 | .exc _=>none
def Hm (ds:Option (List δ)) (step:γ->δ->Option (TO γ γ ρ)) (b0:γ) (k:γ->Option (TO α β ρ)):Option (TO α β ρ):=ds.bind fun ds=>(eL step ds b0).bind (C5 k)
theorem bC [ES α A] [ES β B] [ER ρ] {s:A} {a:α} (h:s=es a):TyS (some (Out.nx s:Out A B)) (some (TO.nx a:TO α β ρ)):=aa (by rw[h];rfl)
theorem Fu [ES α A] [ES β B] [ER ρ] {d:D} {os:List D} {r:ρ} (h:(d,os)=ER.er r):TyS (some (Out.ret d os:Out A B)) (some (TO.ret r:TO α β ρ)):=aa (by
 show Out.ret d os=Out.ret (ER.er r).1 (ER.er r).2
 rw[<-h])
def cF (t:Option A) (f:A->ρ):Option (TO α β ρ):=t.bind fun a=>some (.ret (f a))
theorem aF [En A'] [ES α A] [ES β B] [ER ρ] {m:Option D} {t:Option A'} {os:List D} {f:A'->ρ} (q:TyS m t) (h: ∀a,(en a,os)=ER.er (f a)):TyS (cR m os:Option (Out A B)) (cF t f:Option (TO α β ρ)):=aw q fun a=>Fu (h a)
def tF0 (t:Option (TO PEmpty PEmpty (R0 A))):Option A:=t.bind fun o=>match o with| .ret r=>some r.v|_=>none
def tF1 (t:Option (TO PEmpty PEmpty (R1 A B))):Option (A×B):=t.bind fun o=>match o with| .ret r=>some (r.v,r.o)|_=>none
def tF2 (t:Option (TO PEmpty PEmpty (R2' A B C))):Option (A×B×C):=t.bind fun o=>match o with| .ret r=>some (r.v,r.o,r.p)|_=>none
def tF3 (t:Option (TO PEmpty PEmpty (R3 A B C E))):Option (A×B×C×E):=t.bind fun o=>match o with| .ret r=>some (r.v,r.o,r.p,r.q)|_=>none
def Fo0 [En A] (m:Option FR) (t:Option A):Prop:= ∀r,t=some r->m=some (.ok (en r) [])
theorem fo0 [En A] {m:Option (Out PEmpty PEmpty)} {t:Option (TO PEmpty PEmpty (R0 A))} (h:TyS m t):Fo0 (FO m) (tF0 t):=fun r e=>by
 obtain⟨o,e1,e2⟩:=bind1 e
 cases o <;> cases e2
 unfold FO;rw[h _ e1];rfl
def b3 (f:A->B->C->Option E) (a:Option A) (b:Option B) (c:Option C):Option E:=a.bind fun a=>b.bind fun b=>c.bind fun c=>f a b c
def b4 {A B C E F:Type} (f:A->B->C->E->Option F) (a:Option A) (b:Option B) (c:Option C) (d:Option E):Option F:=a.bind fun a=>b.bind fun b=>c.bind fun c=>d.bind fun d=>f a b c d
def b5 {A B C E F G:Type} (f:A->B->C->E->F->Option G) (a:Option A) (b:Option B) (c:Option C) (d:Option E) (e:Option F):Option G:=a.bind fun a=>b.bind fun b=>c.bind fun c=>d.bind fun d=>e.bind fun e=>f a b c d e
def b6 {A B C E F G H:Type} (f:A->B->C->E->F->G->Option H) (a:Option A) (b:Option B) (c:Option C) (d:Option E) (e:Option F) (g:Option G):Option H:=a.bind fun a=>b.bind fun b=>c.bind fun c=>d.bind fun d=>e.bind fun e=>g.bind fun g=>f a b c d e g
@[simp] theorem kH (f:A->B->C->Option E) (a b c):b3 f (some a) (some b) (some c)=f a b c:=rfl
@[simp] theorem uj {A B C E F:Type} (f:A->B->C->E->Option F) (a b c d):b4 f (some a) (some b) (some c) (some d)=f a b c d:=rfl
@[simp] theorem Ip {A B C E F G:Type} (f:A->B->C->E->F->Option G) (a b c d e):b5 f (some a) (some b) (some c) (some d) (some e)=f a b c d e:=rfl
@[simp] theorem Iq {A B C E F G H:Type} (f:A->B->C->E->F->G->Option H) (a b c d e g):b6 f (some a) (some b) (some c) (some d) (some e) (some g)=f a b c d e g:=rfl
end
section
variable {A B C E S ρ A1 A2 A3 A4 A5 A6:Type} [En A] [En B] [En C] [En E] [En A1] [En A2] [En A3] [En A4] [En A5] [En A6]
theorem uk {Fs:List D->Option FR} {ds:List D} {t:Option A} {r:A} (h:Fo0 (Fs ds) t) (e:t=some r):aT Fs (some ds)=some (es r):=by
 unfold aT;rw[Option.bind_some,h r e];rfl
theorem cm {Fs:List D->Option FR} {g:A1->Option (A)} (h: ∀(x1:A1),Fo0 (Fs [en x1]) (g x1)) {m1:Option D} {t1:Option A1} (q1:TyS m1 t1):TyS (aT Fs (aj m1 aM)) (b1 g t1):=fun r e=>by
 obtain⟨x1,e1,e⟩:=bind1 e
 rw[q1 _ e1]
 exact uk (h x1) e
theorem fB {Fs:List D->Option FR} {g:A1->A2->Option (A)} (h: ∀(x1:A1) (x2:A2),Fo0 (Fs [en x1,en x2]) (g x1 x2)) {m1:Option D} {t1:Option A1} {m2:Option D} {t2:Option A2} (q1:TyS m1 t1) (q2:TyS m2 t2):TyS (aT Fs (aj m1 (aj m2 aM))) (b2 g t1 t2):=fun r e=>by
 obtain⟨x1,e1,e⟩:=bind1 e
 obtain⟨x2,e2,e⟩:=bind1 e
 rw[q1 _ e1,q2 _ e2]
 exact uk (h x1 x2) e
theorem n8 {Fs:List D->Option FR} {g:A1->A2->A3->Option (A)} (h: ∀(x1:A1) (x2:A2) (x3:A3),Fo0 (Fs [en x1,en x2,en x3]) (g x1 x2 x3)) {m1:Option D} {t1:Option A1} {m2:Option D} {t2:Option A2} {m3:Option D} {t3:Option A3} (q1:TyS m1 t1) (q2:TyS m2 t2) (q3:TyS m3 t3):TyS (aT Fs (aj m1 (aj m2 (aj m3 aM)))) (b3 g t1 t2 t3):=fun r e=>by
 obtain⟨x1,e1,e⟩:=bind1 e
 obtain⟨x2,e2,e⟩:=bind1 e
 obtain⟨x3,e3,e⟩:=bind1 e
 rw[q1 _ e1,q2 _ e2,q3 _ e3]
 exact uk (h x1 x2 x3) e
theorem um {Fs:List D->Option FR} {g:A1->A2->A3->A4->Option (A)} (h: ∀(x1:A1) (x2:A2) (x3:A3) (x4:A4),Fo0 (Fs [en x1,en x2,en x3,en x4]) (g x1 x2 x3 x4)) {m1:Option D} {t1:Option A1} {m2:Option D} {t2:Option A2} {m3:Option D} {t3:Option A3} {m4:Option D} {t4:Option A4} (q1:TyS m1 t1) (q2:TyS m2 t2) (q3:TyS m3 t3) (q4:TyS m4 t4):TyS (aT Fs (aj m1 (aj m2 (aj m3 (aj m4 aM))))) (b4 g t1 t2 t3 t4):=fun r e=>by
 obtain⟨x1,e1,e⟩:=bind1 e
 obtain⟨x2,e2,e⟩:=bind1 e
 obtain⟨x3,e3,e⟩:=bind1 e
 obtain⟨x4,e4,e⟩:=bind1 e
 rw[q1 _ e1,q2 _ e2,q3 _ e3,q4 _ e4]
 exact uk (h x1 x2 x3 x4) e
end
end Sw
namespace Sw
open PySem PySem.Spec PyProof.Rows L2
section
variable {A B C E F K R S:Type}
namespace T
def cQ (a b:Int):Option Int:=some (a+b)
def lN (a b:Int):Option Int:=some (a -b)
noncomputable def jD (a b:Int):Option Int:=if q7 a b=true then some (a*b) else none
noncomputable def iY (a b:Int):Option Int:=cif (0<b/\b<1073741824) (a/b)
noncomputable def cj (a b:Int):Option Int:=cif (0<b) (a%b)
def EK (a:Int):Option Int:=some (-a)
def ltI (a b:Int):Option Bool:=some (decide (a<b))
def leI (a b:Int):Option Bool:=some (decide (a<=b))
def gtI (a b:Int):Option Bool:=some (decide (b<a))
def geI (a b:Int):Option Bool:=some (decide (b<=a))
def eqA [DecidableEq A] (a b:A):Option Bool:=some (decide (a=b))
def neA [DecidableEq A] (a b:A):Option Bool:=some (!decide (a=b))
def ltS (a b:Str):Option Bool:=some (decide (bS a b))
def leS (a b:Str):Option Bool:=some (!decide (bS b a))
def gtS (a b:Str):Option Bool:=some (decide (bS b a))
def geS (a b:Str):Option Bool:=some (!decide (bS a b))
def mF (a b:Str):Option Str:=if a.length+b.length<=sizeLine then some (a++b) else none
def min2 (a b:Int):Option Int:=some (if b<a then b else a)
def max2 (a b:Int):Option Int:=some (if b>a then b else a)
def Ed (a b:Str):Option Str:=some (if bS b a then b else a)
def Ee (a b:Str):Option Str:=some (if bS a b then b else a)
end T
theorem eB:fy D.cQ T.cQ:=fun a b c e=>by cases e;rfl
theorem mq:fy D.lN T.lN:=fun a b c e=>by cases e;rfl
theorem AZ {f:Int->Int->Option Int}:fy (ii f) f:=fun a b c e=>by
 show (f a b).map D.int=_
 rw[e];rfl
theorem n9:fy D.jD T.jD:=AZ
theorem je:fy D.iY T.iY:=AZ
theorem bL:fy D.cj T.cj:=AZ
theorem A0:fy D.ltI T.ltI:=fun a b c e=>by cases e;rfl
theorem rF:fy D.leI T.leI:=fun a b c e=>by cases e;rfl
theorem A7:fy D.gtI T.gtI:=fun a b c e=>by cases e;rfl
class At (A:Type) [En A] [DecidableEq A]:Prop where
 eqa: ∀a b:A,D.eqA (en a) (en b)=some (decide (a=b))
 nea: ∀a b:A,D.neA (en a) (en b)=some (!decide (a=b))
 toV: ∀a:A,∃v,D.toV (en a)=some v
 eqv: ∀(a b:A) (v w:V),D.toV (en a)=some v->D.toV (en b)=some w->eqV v w=decide (b=a)\/eqV v w=decide (a=b)
instance:At Int:=⟨Eh,Ei,fun a=>⟨_,rfl⟩,fun a b v w e f=>by cases e;cases f;right;simp[eqV];rw[Bool.eq_iff_iff];simp⟩
instance:At Str:=⟨Ej,Ek,fun a=>⟨_,rfl⟩,fun a b v w e f=>by cases e;cases f;right;simp[eqV];rw[Bool.eq_iff_iff];simp⟩
theorem eA [En A] [DecidableEq A] [At A]:fy D.eqA (T.eqA:A->A->Option Bool):=fun a b c e=>by cases e;exact At.eqa a b
theorem Fw [En A] [DecidableEq A] [At A]:fy D.neA (T.neA:A->A->Option Bool):=fun a b c e=>by cases e;exact At.nea a b
theorem Fx:fy D.eqA (T.eqA:Bool->Bool->Option Bool):=fun a b c e=>by cases e;exact Hi a b
theorem Fy:fy D.neA (T.neA:Bool->Bool->Option Bool):=fun a b c e=>by cases e;exact Hj a b
theorem oa:fy D.mF T.mF:=fun a b c e=>by
 obtain⟨h,rfl⟩:=aH e
 show (if a.length+b.length<=sizeLine then some (D.str (a++b)) else none)=_
 rw[if_pos h];rfl
theorem tm [ES A D] [ES B S] {f:D->Option S} {g:A->Option B} (h:ud f g) {m:Option D} {t:Option A} (q:TyS m t):TyS (b1 (un1 f) (aj m aM)) (b1 g t):=fun b e=>by
 obtain⟨a,e1,e2⟩:=bind1 e
 unfold b1 aj
 rw[q a e1]
 exact h a b e2
def Hn [En A] [ES B S] (f:List D->Option S) (g:A->Option B):Prop:= ∀a c,g a=some c->f [en a]=some (es c)
def Fz [En A] [En B] [ES C S] (f:List D->Option S) (g:A->B->Option C):Prop:= ∀a b c,g a b=some c->f [en a,en b]=some (es c)
theorem yv [En A] [ES B S] {f:List D->Option S} {g:A->Option B} (h:Hn f g) {m:Option D} {t:Option A} (q:TyS m t):TyS (b1 f (aj m aM)) (b1 g t):=fun b e=>by
 obtain⟨a,e1,e2⟩:=bind1 e
 unfold b1 aj
 rw[q a e1]
 exact h a b e2
theorem Em [En A] [En B] [ES C S] {f:List D->Option S} {g:A->B->Option C} (h:Fz f g) {m n:Option D} {t:Option A} {u:Option B} (q:TyS m t) (r:TyS n u):TyS (b1 f (aj m (aj n aM))) (b2 g t u):=fun c e=>by
 obtain⟨a,b,e1,e2,e3⟩:=cq e
 unfold b1 aj
 rw[q a e1,r b e2]
 exact h a b c e3
theorem C6:Fz D.min2 T.min2:=fun a b c e=>by cases e;rfl
theorem C7:Fz D.max2 T.max2:=fun a b c e=>by cases e;rfl
namespace T
def pair (a:A) (b:B):Option (A×B):=some (a,b)
def tri (a:A) (b:B) (c:C):Option (T3 A B C):=some ⟨a,b,c⟩
def qua (a:A) (b:B) (c:C) (d:E):Option (T4 A B C E):=some ⟨a,b,c,d⟩
def qui (a:A) (b:B) (c:C) (d:E) (e:F):Option (T5 A B C E F):=some ⟨a,b,c,d,e⟩
def cons (t:Option A) (u:Option (List A)):Option (List A):=t.bind fun a=>u.bind fun r=>some (a::r)
def lst (u:Option (List A)):Option (List A):=u.bind fun r=>if r.length<=sizeLine then some r else none
def atL (xs:List A) (i:Int):Option A:=atI xs i
def atC (xs:Scr) (i:Int):Option Int:=atI xs.l i
def sgs (x:Str):List Str:=x.cps.toList.map fun c=>⟨#[c]⟩
def atS (x:Str) (i:Int):Option Str:=if x.length<=sizeLine then atI (sgs x) i else none
def EN (xs:List A):Option Int:=some xs.length
def vt (xs:Scr):Option Int:=some xs.l.length
def sE (x:Str):Option Int:=if x.length<=sizeLine then some x.length else none
def Co (d:Sd A):Option Int:=some d.l.length
def wI (xs ys:List A):Option (List A):=if xs.length+ys.length<=sizeLine then some (xs++ys) else none
def iZ (xs:List A) (lo hi:Option Int):Option (List A):=some (Sw.iZ xs lo hi)
def ET (xs:Scr) (lo hi:Option Int):Option (List Int):=some (Sw.iZ xs.l lo hi)
def cutS (x:Str) (lo hi:Option Int):Option Str:=if x.length<=sizeLine then some (L2.cutS x lo hi) else none
def toI (i:Int):Option (Option Int):=some (some i)
def rev (xs:List A):Option (List A):=some xs.reverse
def join (a:Str) (xs:List Str):Option Str:=if (xs.map (·.length)).sum+xs.length*a.length<=16777216 then some (Txt.join a xs) else none
def GZ (xs:List Int):Option Int:=some xs.sum
noncomputable def mG (n:Int):Option (List Int):=if okR n=true then some ((List.range n.toNat).map fun i:Nat=>(i:Int)) else none
def rq (x:Str):Option (List Str):=some (sgs x)
def inA [DecidableEq A] (neg:Bool) (a:A) (xs:List A):Option Bool:=some (if neg=true then !decide (a∈xs) else decide (a∈xs))
end T
theorem C9 [En A] [En B] {m n:Option D} {t:Option A} {u:Option B} (q:TyS m t) (r:TyS n u):TyS (tupO (aj m (aj n aM))) (b2 T.pair t u):=fun c e=>by
 obtain⟨a,b,e1,e2,e3⟩:=cq e
 unfold tupO aj
 rw[q a e1,r b e2];cases e3;rfl
theorem oe [En A] [En B] [En C] {m n o:Option D} {t:Option A} {u:Option B} {v:Option C} (q:TyS m t) (r:TyS n u) (s:TyS o v):TyS (tupO (aj m (aj n (aj o aM)))) (b3 T.tri t u v):=fun c e=>by
 obtain⟨a,e1,e⟩:=bind1 e
 obtain⟨b,e2,e⟩:=bind1 e
 obtain⟨d,e3,e⟩:=bind1 e
 unfold tupO aj
 rw[q a e1,r b e2,s d e3];cases e;rfl
theorem ni [En A]:TyS (S:=List D) aM (some ([]:List A)):=fun _ e=>by cases e;rfl
theorem aY [En A] {m:Option D} {t:Option A} {ms:Option (List D)} {u:Option (List A)} (q:TyS m t) (r:TyS ms u):TyS (aj m ms) (T.cons t u):=aw q fun a=>aw r fun b=>aa rfl
theorem nj [En A] {ms:Option (List D)} {u:Option (List A)} (r:TyS ms u):TyS (t6 ms) (T.lst u):=aw r fun xs b e=>by
 obtain⟨h,rfl⟩:=aH e
 show (if ((xs.map en).length)<=sizeLine then _ else _)=_
 rw[List.length_map,if_pos h];rfl
theorem uo [En A]:TyS (some (D.lst [])) (some ([]:List A)):=aa rfl
theorem vJ {α β:Type} (f:α->β) (xs:List α) (i:Int):atI (xs.map f) i=(atI xs i).map f:=by
 unfold L2.atI
 rw[List.length_map]
 cases ixN xs.length i with
 |none=>rfl
 |some j=>simp
theorem o7 [En A]:fy D.atL (T.atL:List A->Int->Option A):=fun xs i a e=>by
 show atI (xs.map en) i=_
 rw[vJ,show atI xs i=some a from e];rfl
theorem FA:fy D.atC T.atC:=fun xs i a e=>by
 show (atI xs.l i).map D.int=_
 rw[show atI xs.l i=some a from e];rfl
theorem wR:fy D.atS T.atS:=fun x i a e=>by
 obtain⟨h,e⟩:=(show x.length<=sizeLine/\atI (T.sgs x) i=some a by
  unfold T.atS at e
  split at e
  ·exact⟨by assumption,e⟩
  ·cases e)
 show (if x.length<=sizeLine then (atI x.cps.toList i).map fun c=>D.str ⟨#[c]⟩ else none)=_
 rw[if_pos h]
 unfold T.sgs at e
 rw[vJ] at e
 cases q:atI x.cps.toList i with
 |none=>rw[q] at e;cases e
 |some c=>rw[q] at e;cases e;rfl
theorem cG [En A] [En B] {m:Option D} {t:Option A} {i:Int} {f:A->B} (q:TyS m t) (h: ∀a,D.atT (en a) (.int i)=some (en (f a))):TyS (b2 D.atT m (some (.int i))) (t.map f):=fun b e=>by
 cases t with
 |none=>cases e
 |some a=>
  cases e
  unfold b2
  rw[q a rfl];exact h a
theorem Dc:ud D.vt T.vt:=fun xs c e=>by cases e;rfl
theorem yw:ud D.sE T.sE:=fun x c e=>by
 obtain⟨h,rfl⟩:=aH e
 show (if x.length<=sizeLine then some (D.int x.length) else none)=_
 rw[if_pos h];rfl
theorem Dd [En A]:fy D.wI (T.wI:List A->List A->Option (List A)):=fun xs ys c e=>by
 obtain⟨h,rfl⟩:=aH e
 show (if (xs.map en).length+(ys.map en).length<=sizeLine then some (D.lst (xs.map en++ys.map en)) else none)=_
 rw[List.length_map,List.length_map,if_pos h,←List.map_append];rfl
theorem A8 {α β:Type} (f:α->β) (xs:List α) (lo hi:Option Int):Sw.iZ (xs.map f) lo hi=(Sw.iZ xs lo hi).map f:=by
 unfold Sw.iZ
 rw[List.length_map,←List.map_drop,←List.map_take]
def A9 (f:A->Option Int->Option Int->Option B) (a:Option A) (l h:Option (Option Int)):Option B:=a.bind fun x=>l.bind fun l=>h.bind fun u=>f x l u
@[simp] theorem tn (f:A->Option Int->Option Int->Option B) (a:A) (l h:Option Int):A9 f (some a) (some l) (some h)=f a l h:=rfl
def TyC [En A] [En B] (f:D->Option Int->Option Int->Option D) (g:A->Option Int->Option Int->Option B):Prop:= ∀a l h b,g a l h=some b->f (en a) l h=some (en b)
theorem Ba [En A] [En B] {f:D->Option Int->Option Int->Option D} {g:A->Option Int->Option Int->Option B} (h:TyC f g) {m:Option D} {t:Option A} {l l' u u':Option (Option Int)} (q:TyS m t) (r:TyS l l') (s:TyS u u'):TyS (CD f m l u) (A9 g t l' u'):=
 aw q fun a=>aw r fun l=>aw s fun u b e=>by
  have el:(es l:Option Int)=l:=by cases l <;> rfl
  have eu:(es u:Option Int)=u:=by cases u <;> rfl
  rw[el,eu]
  exact h a l u b e
theorem Ho:TyS (some (none:Option Int)) (some (none:Option Int)):=aa rfl
theorem wU:ud D.toI T.toI:=fun a b e=>by cases e;rfl
theorem Ji [En A]:TyC D.iZ (T.iZ:List A->Option Int->Option Int->Option (List A)):=fun xs l h b e=>by
 cases e
 show some (D.lst (Sw.iZ (xs.map en) l h))=_
 rw[A8];rfl
theorem Jj:TyC D.cutS T.cutS:=fun x l h b e=>by
 obtain⟨g,rfl⟩:=aH e
 show (if x.length<=sizeLine then some (D.str (L2.cutS x l h)) else none)=_
 rw[if_pos g];rfl
theorem jf [En A] {m:Option D} {t:Option (List A)} (q:TyS m t):TyS (qj m) t:=fun a e=>by
 unfold qj;rw[q a e];rfl
theorem Bb [En A] [En B]: ∀xs:List (A×B),D.prs (xs.map en)=some (xs.map es)
 | []=>rfl
 |x::xs=>by rw[List.map_cons];unfold D.prs;rw[Bb xs];rfl
theorem Df [En A] [En B] {m:Option D} {t:Option (List (A×B))} (q:TyS m t):TyS (CB m) t:=fun a e=>by
 unfold CB;rw[q a e];exact Bb a
namespace T
def zip (xs:List A) (ys:List B):Option (List (A×B)):=some (xs.zip ys)
end T
theorem qL:Hn (S:=List D) D.mG T.mG:=fun n c e=>by
 obtain⟨h,rfl⟩:=aH e
 show (if okR n=true then some (sF 0 n.toNat) else none)=_
 rw[if_pos h,AM]
 show _=some (List.map en _)
 rw[List.map_map];rfl
theorem uq:ud (T:=List D) D.rq T.rq:=fun x c e=>by
 cases e
 show some (x.cps.toList.map sgn)=some (List.map en (T.sgs x))
 unfold T.sgs
 rw[List.map_map];rfl
theorem Dg (xs:List Str):D.strs (xs.map en)=some xs:=strs_map xs
theorem ur:fy D.join T.join:=fun a xs c e=>by
 obtain⟨h,rfl⟩:=aH e
 show ((D.strs (xs.map en)).bind _)=_
 rw[Dg,Option.bind_some,if_pos h];rfl
theorem Bc [En A] [DecidableEq A] [At A] (a:A) (v:V) (hv:D.toV (en a)=some v): ∀xs:List A,∃vs,D.oQ (xs.map en)=some vs/\inV v vs=decide (a∈xs)
 | []=>⟨[],rfl,rfl⟩
 |x::xs=>by
  obtain⟨vs,e1,e2⟩:=Bc a v hv xs
  obtain⟨w,hw⟩:=At.toV x
  refine⟨w::vs,?_,?_⟩
  ·rw[List.map_cons];unfold D.oQ;rw[hw,e1];rfl
  ·show (eqV w v||inV v vs)=_
   have h:eqV w v=decide (x=a):=by
    rcases At.eqv x a w v hw hv with h|h
    ·rw[h];rw[Bool.eq_iff_iff];simp only[decide_eq_true_eq];exact eq_comm
    ·exact h
   rw[h,e2,Bool.eq_iff_iff]
   simp only[Bool.or_eq_true,decide_eq_true_eq,List.mem_cons]
   exact or_congr eq_comm Iff.rfl
theorem FD [En A] [DecidableEq A] [At A] (neg:Bool):fy (D.inA neg) (T.inA neg:A->List A->Option Bool):=fun a xs c e=>by
 cases e
 obtain⟨v,hv⟩:=At.toV a
 obtain⟨vs,e1,e2⟩:=Bc a v hv xs
 show (((D.toV (en a)).bind fun a=>(some (xs.map en)).bind fun ds=>(D.oQ ds).map fun vs=>if neg=true then !inV a vs else inV a vs))=_
 rw[hv,Option.bind_some,Option.bind_some,e1,Option.map_some,e2];rfl
def rG (rt:A->Option Bool) (re:A->Option B):List A->Option (List B)
 | []=>some []
 |d::ds=>(rt d).bind fun b=>if b=true then (re d).bind fun x=>(rG rt re ds).bind fun xs=>some (x::xs) else rG rt re ds
def tlc (xs:Option (List A)) (rt:A->Option Bool) (re:A->Option B):Option (List B):=xs.bind fun ds=>if ds.length<=sizeLine then rG rt re ds else none
theorem rH [ES A S] [En B] {rt:S->Option Bool} {re:S->Option D} {rt':A->Option Bool} {re':A->Option B} (h: ∀a,TyS (rt (es a)) (rt' a)) (g: ∀a,TyS (re (es a)) (re' a)): ∀xs:List A,TyS (S:=List D) (nX rt re (xs.map es)) (rG rt' re' xs)
 | []=>aa rfl
 |x::xs=>by
  show TyS ((rt (es x)).bind _) ((rt' x).bind _)
  refine aw (h x) fun b=> ?_
  cases b with
  |false=>exact rH h g xs
  |true=>exact aw (g x) fun y=>aw (rH h g xs) fun ys=>aa rfl
theorem pV [ES A S] [En B] {m:Option (List S)} {t:Option (List A)} {rt:S->Option Bool} {re:S->Option D} {rt':A->Option Bool} {re':A->Option B} (q:TyS m t) (h: ∀a,TyS (rt (es a)) (rt' a)) (g: ∀a,TyS (re (es a)) (re' a)):TyS (lcO m rt re) (tlc t rt' re'):=aw q fun xs b e=>by
 split at e
 ·rename_i hl
  unfold rz
  rw[show (es xs:List S).length=xs.length from List.length_map ..]
  rw[if_pos hl]
  have:=rH h g xs b e
  rw[show (es xs:List S)=xs.map es from rfl,this];rfl
 ·cases e
namespace T
def Ck (d:Sd A) (x:Str):Option A:=aD d.l x
def inK (x:Str) (d:Sd A):Option Bool:=some (aD d.l x).isSome
def Cm (x:Str) (d:Sd A):Option Bool:=some (!(aD d.l x).isSome)
def Ec (d:Sd A):Option (List Str):=some (d.l.map (·.1))
def items (d:Sd A):Option (List (Str×A)):=some d.l
def vals (d:Sd A):Option (List A):=some (d.l.map (·.2))
end T
structure Lz (R A:Type) where
 get:R->Option A
 put:R->A->R
def plR:Lz R R:=⟨some,fun _ a=>a⟩
def FE [En R] [En A] (s:Sh) (r:R) (q:Option (List Stp)) (p:Option (Lz R A)) (s':Sh):Prop:=
 ∀p0,p=some p0-> ∃q0,q=some q0/\shP s q0=some s'/\ ∃a,p0.get r=some a/\lM (en r) q0=some (en a)/\ ∀a',g6 (en r) q0 (en a')=en (p0.put r a')
theorem Be (d:D):lM d []=some d:=by cases d <;> rfl
theorem Bf (d e:D):g6 d [] e=e:=by cases d <;> rfl
theorem yx [En R] (s:Sh) (r:R):FE s r (some []) (some plR) s:=fun p0 e=>by
 cases e
 exact⟨[],rfl,by cases s <;> rfl,r,rfl,Be _,fun a'=>Bf _ _⟩
namespace T
def at0 (r:R) (p:Option (Lz R A)) (f:A->Option (C×A)):Option (C×R):=p.bind fun p=>(p.get r).bind fun a=>(f a).bind fun c=>some (c.1,p.put r c.2)
def at1 (r:R) (p:Option (Lz R A)) (t:Option B) (f:A->B->Option (C×A)):Option (C×R):=p.bind fun p=>t.bind fun x=>(p.get r).bind fun a=>(f a x).bind fun c=>some (c.1,p.put r c.2)
def at2 (r:R) (p:Option (Lz R A)) (t:Option B) (u:Option E) (f:A->B->E->Option (C×A)):Option (C×R):=p.bind fun p=>t.bind fun x=>u.bind fun y=>(p.get r).bind fun a=>(f a x y).bind fun c=>some (c.1,p.put r c.2)
def app (xs:List A) (x:A):Option (Unit×List A):=if xs.length<sizeLine then some ((),xs++[x]) else none
noncomputable def ins (xs:List A) (i:Int) (x:A):Option (Unit×List A):=cif (xs.length<sizeLine/\0<=i/\i<2^63) ((),xs.take i.toNat++[x]++xs.drop i.toNat)
def clr (xs:List A):Option (Unit×List A):=some ((),[])
def rvs (xs:List A):Option (Unit×List A):=some ((),xs.reverse)
def Jk (d:Sd A):Option (Unit×Sd A):=some ((),⟨[]⟩)
end T
theorem FF [En R] [En A] [En C] {s s':Sh} {r:R} {q:Option (List Stp)} {p:Option (Lz R A)} (h:FE s r q p s') {p0:Lz R A} (e:p=some p0) {a:A} (ea:p0.get r=some a) {f:D->Option (D×D)} {c:C×A} (hf:f (en a)=some (en c.1,en c.2)): ∃q0,q=some q0/\do1 (en r) q0 f=some (es (c.1,p0.put r c.2)):=by
 obtain⟨q0,f1,f2,a',f3,f4,f5⟩:=h p0 e
 rw[ea] at f3;cases f3
 refine⟨q0,f1,?_⟩
 unfold do1
 rw[f4,Option.bind_some,hf]
 show some (en c.1,g6 (en r) q0 (en c.2))=_
 rw[f5];rfl
theorem Bg [En R] [En A] [En B] [En C] {s s':Sh} {r:R} {q:Option (List Stp)} {p:Option (Lz R A)} {m:Option D} {t:Option B} {f:D->D->Option (D×D)} {g:A->B->Option (C×A)} (hf: ∀a b c,g a b=some c->f (en a) (en b)=some (en c.1,en c.2)) (h:FE s r q p s') (hm:TyS m t):TyS (As (en r) q m f) (T.at1 r p t g):=fun c e=>by
 obtain⟨p0,e1,e⟩:=bind1 e
 obtain⟨b,e4,e⟩:=bind1 e
 obtain⟨a,e2,e⟩:=bind1 e
 obtain⟨x,e3,e⟩:=bind1 e
 cases e
 obtain⟨q0,g1,g2⟩:=FF (f:=fun d=>f d (en b)) h e1 e2 (hf a b x e3)
 unfold As;rw[g1,hm b e4,Option.bind_some,Option.bind_some];exact g2
theorem Bh [En A]: ∀(a:List A) (b:A) c,T.app a b=some c->D.app (en a) (en b)=some (en c.1,en c.2):=fun a b c e=>by
 obtain⟨h,rfl⟩:=aH e
 show (if (a.map en).length<sizeLine then some (D.non,D.lst (a.map en++[en b])) else none)=_
 rw[List.length_map,if_pos h]
 show some (D.non,D.lst _)=some (D.non,D.lst (List.map en (a++[b])))
 rw[List.map_append];rfl
end
end Sw
namespace Sw
open PySem PySem.Spec PyProof.Rows L2
class So (A:Type) [En A] where
 dec:DecidableEq A
 lt:A->A->Bool
 dep:Nat
 ok:A->Bool
 dat: ∀a:A,(en a).dat=true
 depth: ∀a:A,(en a).pd.depth<=dep
 al: ∀a b:A,PySem.W.alike (en a).pd (en b).pd=true
 eqv: ∀a b:A,PyData.eqv (en a).pd (en b).pd=true↔a=b
 lt_ok: ∀a b:A,PySem.W.dataLt (en a).pd (en b).pd=lt a b
 lay: ∀a:A,ok a=true->(en a).pd.canLay0=true
 noN: ∀a:A,t8 (en a).pd=false
class St1 (A:Type) [En A]:Prop where
 st:(∀a:A,(en a).IU=true)\/(∀a:A,(en a).noT=true)
section
variable {A B C E F:Type}
instance instSoInt:So Int where
 dec:=inferInstance
 lt a b:=decide (a<b)
 dep:=0
 ok _:=true
 dat _:=rfl
 depth _:=Nat.le_refl _
 al _ _:=rfl
 eqv a b:=by show (a==b)=true↔_;exact beq_iff_eq
 lt_ok a b:=PySem.W.dataLt_int a b
 lay _ _:=rfl
 noN _:=rfl
instance instSoStr:So Str where
 dec:=inferInstance
 lt a b:=decide (bS a b)
 dep:=0
 ok a:=PySem.PyData.strOk a
 dat _:=rfl
 depth _:=Nat.le_refl _
 al _ _:=rfl
 eqv a b:=by show (a==b)=true↔_;exact beq_iff_eq
 lt_ok a b:=PySem.W.dataLt_str a b
 lay a h:=h
 noN _:=rfl
instance instSoBool:So Bool where
 dec:=inferInstance
 lt a b:=PySem.W.dataLt (.bool a) (.bool b)
 dep:=0
 ok _:=true
 dat _:=rfl
 depth _:=Nat.le_refl _
 al _ _:=rfl
 eqv a b:=by show (a==b)=true↔_;exact beq_iff_eq
 lt_ok a b:=rfl
 lay _ _:=rfl
 noN _:=rfl
theorem FG [En A] [So A] {a b:A} (h:a=b):PyData.eqv (en a).pd (en b).pd=true:=(So.eqv a b).mpr h
theorem Hq [En A] [So A] {a b:A} (h:a≠b):PyData.eqv (en a).pd (en b).pd=false:=by
 cases e:PyData.eqv (en a).pd (en b).pd with
 |false=>rfl
 |true=>exact absurd ((So.eqv a b).mp e) h
def fM (xs ys:List PyData):Bool:=PyProof.Rows.lexLt PyProof.Rows.itemOrd (PySem.W.keyToksAll xs) (PySem.W.keyToksAll ys)
theorem bf [En A] [So A] (a b:A) (xs ys:List PyData):fM ((en a).pd::xs) ((en b).pd::ys)= @ite _ (a=b) (So.dec a b) (fM xs ys) (So.lt a b):=by
 unfold fM
 by_cases h:a=b
 ·rw[PySem.W.dataLt_all_yes (So.al a b) (FG h),if_pos h]
 ·rw[PySem.W.dataLt_all_no (So.al a b) (Hq h),if_neg h,So.lt_ok]
theorem kI:fM [] []=false:=AU
theorem zw (x:PyData) (xs:List PyData):fM [] (x::xs)=true:=by
 unfold fM
 show PyProof.Rows.lexLt PyProof.Rows.itemOrd (PySem.W.keyToksAll []) (PySem.W.keyToksAll (x::xs))=true
 rw[show PySem.W.keyToksAll []=[.inl 0] by unfold PySem.W.keyToksAll;rfl,show PySem.W.keyToksAll (x::xs)= .inl 1::(PySem.W.keyToks x++PySem.W.keyToksAll xs) by rw[PySem.W.keyToksAll]]
 exact (PyProof.Rows.lex_diff (O:=PyProof.Rows.itemOrd) (by simp)).trans rfl
theorem Bi (x:PyData) (xs:List PyData):fM (x::xs) []=false:=by
 unfold fM
 rw[show PySem.W.keyToksAll []=[.inl 0] by unfold PySem.W.keyToksAll;rfl,show PySem.W.keyToksAll (x::xs)= .inl 1::(PySem.W.keyToks x++PySem.W.keyToksAll xs) by rw[PySem.W.keyToksAll]]
 exact (PyProof.Rows.lex_diff (O:=PyProof.Rows.itemOrd) (by simp)).trans rfl
instance instSoPair [En A] [En B] [So A] [So B]:So (A×B) where
 dec:=@instDecidableEqProd A B So.dec So.dec
 lt p q:=@ite _ (p.1=q.1) (So.dec p.1 q.1) (@ite _ (p.2=q.2) (So.dec p.2 q.2) false (So.lt p.2 q.2)) (So.lt p.1 q.1)
 dep:=max (So.dep A) (So.dep B)+1
 ok p:=So.ok p.1&&So.ok p.2
 dat p:=by
  show ((en p.1).dat&&((en p.2).dat&&true))=true
  rw[So.dat,So.dat];rfl
 depth p:=by
  show max (en p.1).pd.depth (max (en p.2).pd.depth 0)+1<=_
  have:=So.depth p.1;have:=So.depth p.2;omega
 al p q:=by
  show (PySem.W.alike (en p.1).pd (en q.1).pd&&(PySem.W.alike (en p.2).pd (en q.2).pd&&true))=true
  rw[So.al,So.al];rfl
 eqv p q:=by
  show (PyData.eqv (en p.1).pd (en q.1).pd&&(PyData.eqv (en p.2).pd (en q.2).pd&&true))=true↔_
  rw[Bool.and_true,Bool.and_eq_true,So.eqv,So.eqv]
  exact⟨fun h=>Prod.ext h.1 h.2,fun h=>by rw[h];exact⟨rfl,rfl⟩⟩
 lt_ok p q:=by
  show PySem.W.dataLt (.tuple [(en p.1).pd,(en p.2).pd]) (.tuple [(en q.1).pd,(en q.2).pd])=_
  rw[PySem.W.dataLt_tuple]
  show fM _ _=_
  rw[bf,bf,kI]
 lay p h:=by
  rw[Bool.and_eq_true] at h
  show ((en p.1).pd.canLay0&&((en p.2).pd.canLay0&&true))=true
  rw[So.lay _ h.1,So.lay _ h.2];rfl
 noN _:=rfl
def lD [En A] [So A]:List A->List A->Bool
 | [],[]=>false
 | [],_::_=>true
 |_::_,[]=>false
 |a::xs,b::ys=>@ite _ (a=b) (So.dec a b) (lD xs ys) (So.lt a b)
theorem o8 [En A] [So A]: ∀xs ys:List A,fM (xs.map fun a=>(en a).pd) (ys.map fun a=>(en a).pd)=lD xs ys
 | [],[]=>kI
 | [],y::ys=>zw _ _
 |x::xs,[]=>Bi _ _
 |x::xs,y::ys=>by
  rw[List.map_cons,List.map_cons,bf,o8 xs ys];rfl
theorem Bj [En A] [So A]: ∀xs ys:List A,PySem.W.alikeAll (xs.map fun a=>(en a).pd) (ys.map fun a=>(en a).pd)=true
 | [],ys=>by rw[List.map_nil];unfold PySem.W.alikeAll;cases ys <;> rfl
 |x::xs,[]=>rfl
 |x::xs,y::ys=>by
  rw[List.map_cons,List.map_cons,PySem.W.alikeAll,So.al,Bj xs ys];rfl
theorem fo [En A] (xs:List A):D.pds (xs.map en)=xs.map fun a=>(en a).pd:=AV en xs
instance instSoList [En A] [So A]:So (List A) where
 dec:=@instDecidableEqList A So.dec
 lt:=lD
 dep:=So.dep A+1
 ok xs:=xs.all So.ok
 dat xs:=by
  show D.vn (xs.map en)=true
  rw[D.vo,List.all_eq_true]
  intro d hd
  obtain⟨a,_,rfl⟩:=List.mem_map.mp hd
  exact So.dat a
 depth xs:=by
  show PyData.depthAll (D.pds (xs.map en))+1<=_
  rw[fo]
  have:=pU (n:=So.dep A) (ds:=xs.map fun a=>(en a).pd) fun d hd=>by obtain⟨a,_,rfl⟩:=List.mem_map.mp hd;exact So.depth a
  omega
 al xs ys:=by
  show PySem.W.alike (.list (D.pds (xs.map en))) (.list (D.pds (ys.map en)))=true
  rw[fo,fo]
  exact Bj xs ys
 eqv xs ys:=by
  show PyData.eqvAll (D.pds (xs.map en)) (D.pds (ys.map en))=true↔_
  rw[fo,fo]
  exact nh (fun a b=>So.eqv a b) xs ys
 lt_ok xs ys:=by
  show PySem.W.dataLt (.list (D.pds (xs.map en))) (.list (D.pds (ys.map en)))=_
  rw[PySem.W.dataLt_list,fo,fo]
  exact o8 xs ys
 lay xs h:=by
  show PyData.canLayAll0 (D.pds (xs.map en))=true
  rw[fo]
  rw[List.all_eq_true] at h
  exact AW fun d hd=>by obtain⟨a,ha,rfl⟩:=List.mem_map.mp hd;exact So.lay a (h a ha)
 noN _:=rfl
instance instSoTl [En A] [So A]:So (Tl A) where
 dec:=fun a b=>@decidable_of_iff _ (a.l=b.l) ⟨fun h=>by cases a;cases b;simpa using h,fun h=>by rw[h]⟩ (@instDecidableEqList A So.dec a.l b.l)
 lt a b:=lD a.l b.l
 dep:=So.dep A+1
 ok xs:=xs.l.all So.ok
 dat xs:=by
  show D.vn (xs.l.map en)=true
  rw[D.vo,List.all_eq_true]
  intro d hd
  obtain⟨a,_,rfl⟩:=List.mem_map.mp hd
  exact So.dat a
 depth xs:=by
  show PyData.depthAll (D.pds (xs.l.map en))+1<=_
  rw[fo]
  have:=pU (n:=So.dep A) (ds:=xs.l.map fun a=>(en a).pd) fun d hd=>by obtain⟨a,_,rfl⟩:=List.mem_map.mp hd;exact So.depth a
  omega
 al xs ys:=by
  show PySem.W.alike (.tuple (D.pds (xs.l.map en))) (.tuple (D.pds (ys.l.map en)))=true
  rw[fo,fo]
  exact Bj xs.l ys.l
 eqv xs ys:=by
  show PyData.eqvAll (D.pds (xs.l.map en)) (D.pds (ys.l.map en))=true↔_
  rw[fo,fo,nh (fun a b=>So.eqv a b) xs.l ys.l]
  exact⟨fun h=>by cases xs;cases ys;simpa using h,fun h=>by rw[h]⟩
 lt_ok xs ys:=by
  show PySem.W.dataLt (.tuple (D.pds (xs.l.map en))) (.tuple (D.pds (ys.l.map en)))=_
  rw[PySem.W.dataLt_tuple,fo,fo]
  exact o8 xs.l ys.l
 lay xs h:=by
  show PyData.canLayAll0 (D.pds (xs.l.map en))=true
  rw[fo]
  rw[List.all_eq_true] at h
  exact AW fun d hd=>by obtain⟨a,ha,rfl⟩:=List.mem_map.mp hd;exact So.lay a (h a ha)
 noN _:=rfl
instance instSoT3 [En A] [En B] [En C] [So A] [So B] [So C]:So (T3 A B C) where
 dec:=@instDecidableEqT3 A B C So.dec So.dec So.dec
 lt p q:=@ite _ (p.a=q.a) (So.dec p.a q.a) (@ite _ (p.b=q.b) (So.dec p.b q.b) (@ite _ (p.c=q.c) (So.dec p.c q.c) false (So.lt p.c q.c)) (So.lt p.b q.b)) (So.lt p.a q.a)
 dep:=max (So.dep A) (max (So.dep B) (So.dep C))+1
 ok p:=So.ok p.a&&So.ok p.b&&So.ok p.c
 dat p:=by
  show ((en p.a).dat&&((en p.b).dat&&((en p.c).dat&&true)))=true
  rw[So.dat,So.dat,So.dat];rfl
 depth p:=by
  show max (en p.a).pd.depth (max (en p.b).pd.depth (max (en p.c).pd.depth 0))+1<=_
  have:=So.depth p.a;have:=So.depth p.b;have:=So.depth p.c;omega
 al p q:=by
  show (PySem.W.alike (en p.a).pd (en q.a).pd&&(PySem.W.alike (en p.b).pd (en q.b).pd&&(PySem.W.alike (en p.c).pd (en q.c).pd&&true)))=true
  rw[So.al,So.al,So.al];rfl
 eqv p q:=by
  show (PyData.eqv (en p.a).pd (en q.a).pd&&(PyData.eqv (en p.b).pd (en q.b).pd&&(PyData.eqv (en p.c).pd (en q.c).pd&&true)))=true↔_
  rw[Bool.and_true,Bool.and_eq_true,Bool.and_eq_true,So.eqv,So.eqv,So.eqv]
  exact⟨fun h=>by cases p;cases q;simp at h ⊢; exact h,fun h=>by rw[h];exact⟨rfl,rfl,rfl⟩⟩
 lt_ok p q:=by
  show PySem.W.dataLt (.tuple [(en p.a).pd,(en p.b).pd,(en p.c).pd]) (.tuple [(en q.a).pd,(en q.b).pd,(en q.c).pd])=_
  rw[PySem.W.dataLt_tuple]
  show fM _ _=_
  rw[bf,bf,bf,kI]
 lay p h:=by
  rw[Bool.and_eq_true,Bool.and_eq_true] at h
  show ((en p.a).pd.canLay0&&((en p.b).pd.canLay0&&((en p.c).pd.canLay0&&true)))=true
  rw[So.lay _ h.1.1,So.lay _ h.1.2,So.lay _ h.2];rfl
 noN _:=rfl
instance:St1 Int:=⟨.inr fun _=>rfl⟩
instance:St1 Str:=⟨.inr fun _=>rfl⟩
instance [En A]:St1 (List A):=⟨.inr fun _=>rfl⟩
instance [En A] [En B]:St1 (A×B):=⟨.inl fun _=>rfl⟩
instance [En A] [En B] [En C]:St1 (T3 A B C):=⟨.inl fun _=>rfl⟩
namespace T
def eqD [En A] [So A] (a b:A):Option Bool:=if (So.ok a&&So.ok b)=true then some (@decide (a=b) (So.dec a b)) else none
end T
theorem tu [En A] [So A] (hd:So.dep A<=64) {a:A} (h:So.ok a=true):SeqAt.shaped (en a).pd=true:=by
 unfold SeqAt.shaped
 rw[So.lay a h,Bool.true_and,decide_eq_true_eq]
 exact Nat.le_trans (So.depth a) hd
theorem FH [En A] [So A] (hd:So.dep A<=64) {a b:A} (h:(So.ok a&&So.ok b)=true):D.ok2 (en a) (en b)=true:=by
 rw[Bool.and_eq_true] at h
 unfold D.ok2
 rw[So.dat,So.dat,tu hd h.1,tu hd h.2];rfl
theorem FI [En A] [So A] (a b:A):PyData.eqv (en a).pd (en b).pd= @decide (a=b) (So.dec a b):=by
 rw[Bool.eq_iff_iff,So.eqv,@decide_eq_true_eq _ (So.dec a b)]
theorem FJ [En A] [So A] (hd:So.dep A<=64):fy D.eqD (T.eqD:A->A->Option Bool):=fun a b c e=>by
 obtain⟨h,rfl⟩:=aH e
 show D.eqD (en a) (en b)=_
 unfold D.eqD
 rw[if_pos (FH hd h)]
 show some (PyData.eqv (en a).pd (en b).pd)=_
 rw[FI];rfl
theorem wV [En A] {T':String} {c:Bool} {m:Option D} {t:Option A} (h: ∀a:A,D.isa T' (en a)=some c) (q:TyS m t):TyS (blO (b1 (D.isa T') m)) (t.bind fun _=>some c):=fun b e=>by
 obtain⟨a,e1,e2⟩:=bind1 e
 cases e2
 unfold blO b1
 rw[q a e1]
 show (D.isa T' (en a)).bind _=_
 rw[h a];rfl
end
end Sw
namespace Sw
open PySem PySem.Spec PyProof.Rows L2
section
variable {A B C:Type}
class NN (A:Type) [En A]:Prop where
 nn: ∀a:A,D.isN (en a)=some false
instance:NN Int:=⟨fun _=>rfl⟩
instance:NN Str:=⟨fun _=>rfl⟩
instance:NN Bool:=⟨fun _=>rfl⟩
instance [En A]:NN (List A):=⟨fun _=>rfl⟩
instance [En A] [En B]:NN (A×B):=⟨fun _=>rfl⟩
instance [En A] [En B] [En C]:NN (T3 A B C):=⟨fun _=>rfl⟩
instance [En A]:NN (Sd A):=⟨fun _=>rfl⟩
instance [En A]:NN (Tl A):=⟨fun _=>rfl⟩
theorem uu (o:Option Str) (a:Str):D.neA (en o) (en a)=some (!decide (o=some a))/\D.eqA (en o) (en a)=some (decide (o=some a)):=by
 cases o with
 |none=>exact⟨rfl,rfl⟩
 |some b=>
  refine⟨(Ek b a).trans ?_,(Ej b a).trans ?_⟩ <;> simp
theorem uv (o:Option Int) (a:Int):D.neA (en o) (en a)=some (!decide (o=some a))/\D.eqA (en o) (en a)=some (decide (o=some a)):=by
 cases o with
 |none=>exact⟨rfl,rfl⟩
 |some b=>
  refine⟨(Ei b a).trans ?_,(Eh b a).trans ?_⟩ <;> simp
class AtO (A:Type) [En A] [DecidableEq A]:Prop where
 ao: ∀(o:Option A) (a:A),D.neA (en o) (en a)=some (!decide (o=some a))/\D.eqA (en o) (en a)=some (decide (o=some a))
instance:AtO Str:=⟨uu⟩
instance:AtO Int:=⟨uv⟩
class Sc1 (A:Type) [En A] [So A]:Prop where
 of: ∀a:A,IZ (en a).pd=some (en a)
 dp:So.dep A<=30
instance:Sc1 Int:=⟨fun _=>rfl,Nat.zero_le _⟩
instance:Sc1 Str:=⟨fun _=>rfl,Nat.zero_le _⟩
end
end Sw
namespace Sw
open PySem PySem.Spec PyProof.Rows L2
section
variable {α β γ ρ A B C:Type}
def mJ (tst:β->Option Bool) (step:β->Option (TO β β ρ)):Nat->β->Option (qk β ρ)
 |0,_=>none
 |n+1,b=>(tst b).bind fun c=>if c=true then (step b).bind fun
  | .nx b'=>mJ tst step n b'
  | .ct b'=>mJ tst step n b'
  | .bk b'=>some (.fin b')
  | .ret r=>some (.ret r)
  | .exc x=>some (.exc x) else some (.fin b)
theorem o9 {tst:β->Option Bool} {step:β->Option (TO β β ρ)}: ∀{n:Nat} {b:β} {r:qk β ρ},mJ tst step n b=some r->mJ tst step (n+1) b=some r
 |n+1,b,r,h=>by
  unfold mJ at h
  unfold mJ
  obtain⟨c,e1,e2⟩:=bind1 h
  rw[e1]
  show (if c=true then _ else _)=_
  cases c with
  |false=>exact e2
  |true=>
   rw[if_pos rfl] at e2⊢
   obtain⟨o,e3,e4⟩:=bind1 e2
   rw[e3]
   cases o with
   |nx b'=>exact o9 e4
   |ct b'=>exact o9 e4
   |bk b'=>exact e4
   |ret d=>exact e4
   |exc x=>exact e4
theorem yy {tst:β->Option Bool} {step:β->Option (TO β β ρ)} {n m:Nat} {b:β} {r:qk β ρ} (h:mJ tst step n b=some r) (hl:n<=m):mJ tst step m b=some r:=by
 obtain⟨k,rfl⟩:=Nat.exists_eq_add_of_le hl
 induction k with
 |zero=>exact h
 |succ k ih=>exact o9 (ih (by omega))
open Classical in
noncomputable def vL (tst:β->Option Bool) (step:β->Option (TO β β ρ)) (b:β):Option (qk β ρ):=
 if h: ∃n r,mJ tst step n b=some r then some h.choose_spec.choose else none
theorem Dh {tst:β->Option Bool} {step:β->Option (TO β β ρ)} {n:Nat} {b:β} {r:qk β ρ} (h:mJ tst step n b=some r):vL tst step b=some r:=by
 unfold vL
 have hx: ∃n r,mJ tst step n b=some r:=⟨n,r,h⟩
 rw[dif_pos hx]
 have h2:=hx.choose_spec.choose_spec
 have a:=yy h (Nat.le_max_left n hx.choose)
 have b':=yy h2 (Nat.le_max_right n hx.choose)
 rw[a] at b'
 exact b'.symm
theorem Di {tst:β->Option Bool} {step:β->Option (TO β β ρ)} {b:β} {r:qk β ρ} (h:vL tst step b=some r): ∃n,mJ tst step n b=some r:=by
 unfold vL at h
 split at h
 ·rename_i hx
  cases h
  exact⟨hx.choose,hx.choose_spec.choose_spec⟩
 ·cases h
noncomputable def Dk (tst:γ->Option Bool) (step:γ->Option (TO γ γ ρ)) (b0:γ) (k:γ->Option (TO α β ρ)):Option (TO α β ρ):=(vL tst step b0).bind (zv k)
theorem wW [ES β B] [ER ρ] {ts:B->Option Bool} {ts':β->Option Bool} {st:B->Option (Out B B)} {st':β->Option (TO β β ρ)} (ht: ∀b,TyS (ts (es b)) (ts' b)) (h: ∀b,TyS (st (es b)) (st' b)): ∀(n:Nat) (b:β),TyS (whN ts st n (es b)) (mJ ts' st' n b)
 |0,b=>fun a e=>by cases e
 |n+1,b=>by
  show TyS ((ts (es b)).bind _) ((ts' b).bind _)
  refine aw (ht b) fun c=> ?_
  cases c with
  |false=>exact aa rfl
  |true=>
   show TyS ((st (es b)).bind _) ((st' b).bind _)
   refine aw (h b) fun o=> ?_
   cases o with
   |nx a=>exact wW ht h n a
   |ct a=>exact wW ht h n a
   |bk a=>exact aa rfl
   |ret a=>exact aa rfl
   |exc a=>exact aa rfl
theorem FL [ES α A] [ES β B] [ES γ C] [ER ρ] {ts:C->Option Bool} {ts':γ->Option Bool} {st:C->Option (Out C C)} {st':γ->Option (TO γ γ ρ)} {b:C} {b':γ} {k:C->Option (Out A B)} {l:γ->Option (TO α β ρ)}
  (ht: ∀b,TyS (ts (es b)) (ts' b)) (hs: ∀b,TyS (st (es b)) (st' b)) (hb:b=es b') (h: ∀a,TyS (k (es a)) (l a)):TyS (whO ts st b k) (Dk ts' st' b' l):=by
 subst hb
 refine aw (m:=whL ts st (es b')) (t:=vL ts' st' b') (fun r e=> ?_) fun o=>AY h o
 obtain⟨n,e⟩:=Di e
 exact EI (wW ht hs n b' r e)
theorem Bk {tst:γ->Option Bool} {step:γ->Option (TO γ γ ρ)} {b0 b1:γ} {k:γ->Option (TO α β ρ)} (h:vL tst step b0=some (.fin b1)):Dk tst step b0 k=k b1:=by
 unfold Dk;rw[h];rfl
theorem Dq {tst:β->Option Bool} {step:β->Option (TO β β ρ)} (I:β->Prop) (m:β->Nat) (hs: ∀b,I b->tst b=some false\/(tst b=some true/\ ∃b',(step b=some (.nx b')\/step b=some (.ct b'))/\I b'/\m b'<m b)) {b0:β} (h0:I b0): ∃b',vL tst step b0=some (.fin b')/\I b'/\tst b'=some false:=by
 have key: ∀(n:Nat) (b:β),m b<n->I b-> ∃b',mJ tst step n b=some (.fin b')/\I b'/\tst b'=some false:=by
  intro n
  induction n with
  |zero=>intro b h;omega
  |succ n ih=>
   intro b hm hI
   rcases hs b hI with e|⟨e,b',e2,h2,h3⟩
   ·refine⟨b,?_,hI,e⟩
    unfold mJ;rw[e];rfl
   ·obtain⟨b2,e4,h4⟩:=ih b' (by omega) h2
    refine⟨b2,?_,h4⟩
    unfold mJ
    rw[e,Option.bind_some,if_pos rfl]
    rcases e2 with e2|e2 <;> (rw[e2];exact e4)
 obtain⟨b',e,h⟩:=key (m b0+1) b0 (by omega) h0
 exact⟨b',Dh e,h⟩
end
end Sw
namespace Sw
open PySem PySem.Spec PyProof.Rows L2
section
variable {α β γ δ ρ A B C F G':Type}
def Dr (g:A->B->Option Bool) (g':B->C->Option Bool) (ta:Option A) (tb:Option B) (tc:Option C):Option Bool:=ta.bind fun x=>tb.bind fun y=>(g x y).bind fun k=>if k=true then tc.bind fun z=>g' y z else some false
theorem FN [En A] [En B] [En C] {f f':D->D->Option Bool} {g:A->B->Option Bool} {g':B->C->Option Bool} (h:fy f g) (h':fy f' g') {ma mb mc:Option D} {ta:Option A} {tb:Option B} {tc:Option C} (q1:TyS ma ta) (q2:TyS mb tb) (q3:TyS mc tc):TyS (chB f f' ma mb mc) (Dr g g' ta tb tc):=
 aw q1 fun x=>aw q2 fun y=>aw (m:=f (en x) (en y)) (t:=g x y) (fun b e=>h x y b e) fun k=>by
  cases k with
  |false=>exact aa rfl
  |true=>exact aw q3 fun z b e=>h' y z b e
namespace T
def mH (neg:Bool) (a z:Str):Option Bool:=match a.cps.toList with
 | [c]=>some (if neg=true then !decide (c∈z.cps.toList) else decide (c∈z.cps.toList))
 |_=>none
def split (a b:Str):Option (List Str):=if (b.length==0)=false/\a.length+2<=sizeLine then some (Txt.split a b) else none
def part (a b:Str):Option (T3 Str Str Str):=if (b.length==0)=false/\a.length<=sizeLine then some ⟨(Txt.partition a b).1,(Txt.partition a b).2.1,(Txt.partition a b).2.2⟩ else none
def wN (i:Int):Option Str:=if i.natAbs.log2<1920 then some (toString i) else none
def sH (a:Str):Option Int:=if a.length<=640 then PySem.intText? a else none
def wO (x:Scr) (ys:List Int):Option (List Int):=if x.l.length+ys.length<=sizeLine then some (x.l++ys) else none
end T
theorem uw (neg:Bool):fy (D.mH neg) (T.mH neg):=fun a z b e=>by
 unfold T.mH at e
 show (match a.cps.toList with| [c]=>_|_=>none)=_
 split at e
 ·rename_i c hc;cases e;rfl
 ·cases e
theorem vM:fy D.split T.split:=fun a b c e=>by
 obtain⟨h,rfl⟩:=aH e
 show (if (b.length==0)=false/\a.length+2<=sizeLine then some (D.lst ((Txt.split a b).map D.str)) else none)=_
 rw[if_pos h];rfl
theorem Dt:fy D.part T.part:=fun a b c e=>by
 obtain⟨h,rfl⟩:=aH e
 show (if (b.length==0)=false/\a.length<=sizeLine then some (D.tup [.str (Txt.partition a b).1,.str (Txt.partition a b).2.1,.str (Txt.partition a b).2.2]) else none)=_
 rw[if_pos h];rfl
theorem Du:ud D.wN T.wN:=fun a b e=>by
 obtain⟨h,rfl⟩:=aH e
 show (if a.natAbs.log2<1920 then some (D.str (toString a)) else none)=_
 rw[if_pos h];rfl
theorem Dw:ud D.sH T.sH:=fun a b e=>by
 unfold T.sH at e
 show (if a.length<=640 then (PySem.intText? a).map D.int else none)=_
 by_cases h:a.length<=640
 ·rw[if_pos h] at e ⊢; rw[e];rfl
 ·rw[if_neg h] at e;cases e
theorem Dx:fy D.wO T.wO:=fun x ys c e=>by
 obtain⟨h,rfl⟩:=aH e
 show (if x.l.length+(ys.map en).length<=sizeLine then some (D.lst (x.l.map D.int++ys.map en)) else none)=_
 rw[List.length_map,if_pos h,show (x.l.map D.int++ys.map en)=(x.l++ys).map en from (List.map_append).symm];rfl
def T.un3 (t:T3 A B C):Option (A×B×C):=some (t.a,t.b,t.c)
theorem Bl [En A] [En B] [En C] {m:Option D} {t:Option (T3 A B C)} (q:TyS m t):TyS (b1 D.pr3 m) (b1 T.un3 t):=fun a e=>by
 obtain⟨x,e1,e2⟩:=bind1 e
 cases e2
 unfold b1;rw[q x e1];rfl
def Eo (rb:Option (TO γ β ρ)) (ro:γ->Option (TO δ β ρ)) (k:δ->Option (TO α β ρ)):Option (TO α β ρ):=(rb.bind (ug ro)).bind (ug k)
theorem Dy {A B C F:Type} [ES α A] [ES β B] [ES γ C] [ES δ F] [ER ρ] {rb:Option (Out C B)} {rb':Option (TO γ β ρ)} {ro:C->Option (Out F B)} {ro':γ->Option (TO δ β ρ)} {k:F->Option (Out A B)} {k':δ->Option (TO α β ρ)}
  (h1:TyS rb rb') (h2: ∀a,TyS (ro (es a)) (ro' a)) (h3: ∀a,TyS (k (es a)) (k' a)):TyS (Fd rb ro k) (Eo rb' ro' k'):=
 aw (aw h1 fun o=>uh h2 o) fun o=>uh h3 o
end
end Sw
namespace Sw
open PySem PySem.Spec PyProof.Rows L2
section
variable {α β γ ρ A B C:Type}
namespace T
noncomputable def mI (a:Str) (i:Int):Option Str:=cif (MulOk a i) (Txt.mul a i)
end T
theorem yz:fy D.mI T.mI:=fun a i c e=>by
 obtain⟨h,rfl⟩:=nU e
 show cif (MulOk a i) (D.str (Txt.mul a i))=_
 rw[jc h];rfl
class Atm (A:Type) [En A]:Prop where
 atm: ∀a:A,((en a).toV).isSome=true
instance:Atm Int:=⟨fun _=>rfl⟩
instance:Atm Str:=⟨fun _=>rfl⟩
instance:Atm Bool:=⟨fun _=>rfl⟩
class Atv (A:Type) [En A]:Prop where
 atv: ∀a:A,∃v,(en a).toV=some v/\flatB v=true
instance:Atv Int:=⟨fun a=>⟨.int a,rfl,rfl⟩⟩
instance:Atv Str:=⟨fun a=>⟨.str a,rfl,rfl⟩⟩
end
end Sw
namespace Sw
open PySem PySem.Spec PyProof.Rows L2
section
variable {A B C E α β γ δ ρ:Type}
def FP (k:γ->Option (TO α β ρ)):qk γ ρ->Option (TO α β ρ)
 | .fin b=>k b
 |_=>none
def Hr (ds:Option (List δ)) (step:γ->δ->Option (TO γ γ ρ)) (b0:γ) (k:γ->Option (TO α β ρ)):Option (TO α β ρ):=ds.bind fun ds=>(eL step ds b0).bind (FP k)
@[simp] theorem Ht (k:γ->Option (TO α β ρ)) (a:γ):FP k (.fin a)=k a:=rfl
@[simp] theorem FQ (ds:List δ) (step:γ->δ->Option (TO γ γ ρ)) (b0:γ) (k:γ->Option (TO α β ρ)):Hr (some ds) step b0 k=(eL step ds b0).bind (FP k):=rfl
end
end Sw
namespace Sw
open PySem PySem.Spec PyProof.Rows L2
section
variable {A B C' E R S:Type}
namespace T
def qZ (g:R->A->S) (r:R) (t:Option A):Option S:=t.map (g r)
end T
end
inductive aC where
 |single (couple:Str)
 |group (ring:List aC) (links:List (Str×Str))
mutual
def aC.d:aC->D
 | .single c=>.ins "Single" [("couple",.str c)]
 | .group r l=>.ins "Group" [("ring",.lst (aC.ds r)),("links",en l)]
def aC.ds:List aC->List D
 | []=>[]
 |k::r=>aC.d k::aC.ds r
end
instance:En aC:=⟨aC.d⟩
structure zx where
structure Bm where
structure Bn where
 ring:List aC
instance:En zx:=⟨fun _=>.ins "Single" []⟩
instance:En Bm:=⟨fun _=>.ins "Group" []⟩
instance:En Bn:=⟨fun s=>.ins "Group" [("ring",en s.ring)]⟩
inductive RV where
 |k (x:aC)|s (x:Str)|i (x:Int)|ls (x:List Str)|lp (x:List (Str×Str))|ll (x:List (List Str))
instance:En RV:=⟨fun v=>match v with
 | .k x=>en x| .s x=>en x| .i x=>en x| .ls x=>en x| .lp x=>en x| .ll x=>en x⟩
namespace RV
def as:RV->Option Str| .s x=>some x|_=>none
def ai:RV->Option Int| .i x=>some x|_=>none
def all:RV->Option (List (List Str))| .ll x=>some x|_=>none
end RV
namespace T
def dct (u:Option (List (Str×RV))):Option (Sd RV):=u.bind fun l=>if (l.map (·.1)).Nodup/\l.length<=15 then some ⟨l⟩ else none
end T
end Sw
namespace Sw
open PySem PySem.Spec PyProof.Rows L2
section
variable {A B C' E S:Type}
namespace T
def zj (i:Int):Option Int:=some (if i<0 then -i else i)
end T
theorem Dz:ud D.zj T.zj:=fun i b e=>by cases e;rfl
end
structure aP where
 mates:Sd Str
 top:Sd aC
 roots:Sd Str
 reached:Sd (Str×Str)
 waiting:List Str
 longer:Option (List Str)
structure wX where
structure wY where
 mates:Sd Str
structure wZ where
 mates:Sd Str
 top:Sd aC
structure w6 where
 mates:Sd Str
 top:Sd aC
 roots:Sd Str
structure w7 where
 mates:Sd Str
 top:Sd aC
 roots:Sd Str
 reached:Sd (Str×Str)
structure w8 where
 mates:Sd Str
 top:Sd aC
 roots:Sd Str
 reached:Sd (Str×Str)
 waiting:List Str
instance:En wX:=⟨fun _=>.ins "Outcome" []⟩
instance:En wY:=⟨fun s=>.ins "Outcome" [("mates",en s.mates)]⟩
instance:En wZ:=⟨fun s=>.ins "Outcome" [("mates",en s.mates),("top",en s.top)]⟩
instance:En w6:=⟨fun s=>.ins "Outcome" [("mates",en s.mates),("top",en s.top),("roots",en s.roots)]⟩
instance:En w7:=⟨fun s=>.ins "Outcome" [("mates",en s.mates),("top",en s.top),("roots",en s.roots),("reached",en s.reached)]⟩
instance:En w8:=⟨fun s=>.ins "Outcome" [("mates",en s.mates),("top",en s.top),("roots",en s.roots),("reached",en s.reached),("waiting",en s.waiting)]⟩
instance:En aP:=⟨fun s=>.ins "Outcome" [("mates",en s.mates),("top",en s.top),("roots",en s.roots),("reached",en s.reached),("waiting",en s.waiting),("longer",en s.longer)]⟩
end Sw
namespace Sw
open PySem PySem.Spec PyProof.Rows L2
structure Hl (A B:Type) where
 a:A
 b:B
variable {A B:Type}
instance [En A] [En B]:En (Hl A B):=⟨fun x=>.lst [en x.a,en x.b]⟩
def T.hl (t:Option A) (u:Option B):Option (Hl A B):=t.bind fun a=>u.bind fun b=>some ⟨a,b⟩
end Sw
namespace Sw
open PySem PySem.Spec PyProof.Rows L2
variable {A B C:Type}
structure Hl3 (A B C:Type) where
 a:A
 b:B
 c:C
instance [En A] [En B] [En C]:En (Hl3 A B C):=⟨fun x=>.lst [en x.a,en x.b,en x.c]⟩
instance instSoHl [En A] [En B] [So A] [So B]:So (Hl A B) where
 dec p q:=@decidable_of_iff _ ((p.a,p.b)=(q.a,q.b)) ⟨fun h=>by cases p;cases q;simpa using h,fun h=>by rw[h]⟩ (@instDecidableEqProd A B So.dec So.dec (p.a,p.b) (q.a,q.b))
 lt p q:=@ite _ (p.a=q.a) (So.dec p.a q.a) (@ite _ (p.b=q.b) (So.dec p.b q.b) false (So.lt p.b q.b)) (So.lt p.a q.a)
 dep:=max (So.dep A) (So.dep B)+1
 ok p:=So.ok p.a&&So.ok p.b
 dat p:=by
  show ((en p.a).dat&&((en p.b).dat&&true))=true
  rw[So.dat,So.dat];rfl
 depth p:=by
  show max (en p.a).pd.depth (max (en p.b).pd.depth 0)+1<=_
  have:=So.depth p.a;have:=So.depth p.b;omega
 al p q:=by
  show (PySem.W.alike (en p.a).pd (en q.a).pd&&(PySem.W.alike (en p.b).pd (en q.b).pd&&true))=true
  rw[So.al,So.al];rfl
 eqv p q:=by
  show (PyData.eqv (en p.a).pd (en q.a).pd&&(PyData.eqv (en p.b).pd (en q.b).pd&&true))=true↔_
  rw[Bool.and_true,Bool.and_eq_true,So.eqv,So.eqv]
  exact⟨fun h=>by cases p;cases q;simp at h ⊢; exact h,fun h=>by rw[h];exact⟨rfl,rfl⟩⟩
 lt_ok p q:=by
  show PySem.W.dataLt (.list [(en p.a).pd,(en p.b).pd]) (.list [(en q.a).pd,(en q.b).pd])=_
  rw[PySem.W.dataLt_list]
  show fM _ _=_
  rw[bf,bf,kI]
 lay p h:=by
  rw[Bool.and_eq_true] at h
  show ((en p.a).pd.canLay0&&((en p.b).pd.canLay0&&true))=true
  rw[So.lay _ h.1,So.lay _ h.2];rfl
 noN _:=rfl
instance instSoHl3 [En A] [En B] [En C] [So A] [So B] [So C]:So (Hl3 A B C) where
 dec p q:=@decidable_of_iff _ ((p.a,p.b,p.c)=(q.a,q.b,q.c)) ⟨fun h=>by cases p;cases q;simpa using h,fun h=>by rw[h]⟩ (@instDecidableEqProd A (B×C) So.dec (@instDecidableEqProd B C So.dec So.dec) (p.a,p.b,p.c) (q.a,q.b,q.c))
 lt p q:=@ite _ (p.a=q.a) (So.dec p.a q.a) (@ite _ (p.b=q.b) (So.dec p.b q.b) (@ite _ (p.c=q.c) (So.dec p.c q.c) false (So.lt p.c q.c)) (So.lt p.b q.b)) (So.lt p.a q.a)
 dep:=max (So.dep A) (max (So.dep B) (So.dep C))+1
 ok p:=So.ok p.a&&So.ok p.b&&So.ok p.c
 dat p:=by
  show ((en p.a).dat&&((en p.b).dat&&((en p.c).dat&&true)))=true
  rw[So.dat,So.dat,So.dat];rfl
 depth p:=by
  show max (en p.a).pd.depth (max (en p.b).pd.depth (max (en p.c).pd.depth 0))+1<=_
  have:=So.depth p.a;have:=So.depth p.b;have:=So.depth p.c;omega
 al p q:=by
  show (PySem.W.alike (en p.a).pd (en q.a).pd&&(PySem.W.alike (en p.b).pd (en q.b).pd&&(PySem.W.alike (en p.c).pd (en q.c).pd&&true)))=true
  rw[So.al,So.al,So.al];rfl
 eqv p q:=by
  show (PyData.eqv (en p.a).pd (en q.a).pd&&(PyData.eqv (en p.b).pd (en q.b).pd&&(PyData.eqv (en p.c).pd (en q.c).pd&&true)))=true↔_
  rw[Bool.and_true,Bool.and_eq_true,Bool.and_eq_true,So.eqv,So.eqv,So.eqv]
  exact⟨fun h=>by cases p;cases q;simp at h ⊢; exact h,fun h=>by rw[h];exact⟨rfl,rfl,rfl⟩⟩
 lt_ok p q:=by
  show PySem.W.dataLt (.list [(en p.a).pd,(en p.b).pd,(en p.c).pd]) (.list [(en q.a).pd,(en q.b).pd,(en q.c).pd])=_
  rw[PySem.W.dataLt_list]
  show fM _ _=_
  rw[bf,bf,bf,kI]
 lay p h:=by
  rw[Bool.and_eq_true,Bool.and_eq_true] at h
  show ((en p.a).pd.canLay0&&((en p.b).pd.canLay0&&((en p.c).pd.canLay0&&true)))=true
  rw[So.lay _ h.1.1,So.lay _ h.1.2,So.lay _ h.2];rfl
 noN _:=rfl
end Sw
namespace Sw
open PySem PySem.Spec PyProof.Rows L2
section
variable {A B C S T U α β γ δ ρ:Type}
instance [ES A S]:ES (Xn ⊕ A) (Xn ⊕ S):=⟨fun r=>match r with| .inl x=>.inl x| .inr a=>.inr (es a)⟩
end
end Sw
namespace Sw
open PySem PySem.Spec PyProof.Rows L2
instance:NN aP:=⟨fun _=>rfl⟩
end Sw
namespace Sw
open PySem PySem.Spec PyProof.Rows L2
section
variable {A B C S U α β γ δ ρ:Type}
structure Any where
 d:D
instance:En Any:=⟨Any.d⟩
def T.up [En A] (a:A):Any:=⟨en a⟩
instance instSoT4 {E:Type} [En A] [En B] [En C] [En E] [So A] [So B] [So C] [So E]:So (T4 A B C E) where
 dec:=@instDecidableEqT4 A B C E So.dec So.dec So.dec So.dec
 lt p q:=@ite _ (p.a=q.a) (So.dec p.a q.a) (@ite _ (p.b=q.b) (So.dec p.b q.b) (@ite _ (p.c=q.c) (So.dec p.c q.c) (@ite _ (p.d=q.d) (So.dec p.d q.d) false (So.lt p.d q.d)) (So.lt p.c q.c)) (So.lt p.b q.b)) (So.lt p.a q.a)
 dep:=max (So.dep A) (max (So.dep B) (max (So.dep C) (So.dep E)))+1
 ok p:=So.ok p.a&&So.ok p.b&&So.ok p.c&&So.ok p.d
 dat p:=by
  show ((en p.a).dat&&((en p.b).dat&&((en p.c).dat&&((en p.d).dat&&true))))=true
  rw[So.dat,So.dat,So.dat,So.dat];rfl
 depth p:=by
  show max (en p.a).pd.depth (max (en p.b).pd.depth (max (en p.c).pd.depth (max (en p.d).pd.depth 0)))+1<=_
  have:=So.depth p.a;have:=So.depth p.b;have:=So.depth p.c;have:=So.depth p.d;omega
 al p q:=by
  show (PySem.W.alike (en p.a).pd (en q.a).pd&&(PySem.W.alike (en p.b).pd (en q.b).pd&&(PySem.W.alike (en p.c).pd (en q.c).pd&&(PySem.W.alike (en p.d).pd (en q.d).pd&&true))))=true
  rw[So.al,So.al,So.al,So.al];rfl
 eqv p q:=by
  show (PyData.eqv (en p.a).pd (en q.a).pd&&(PyData.eqv (en p.b).pd (en q.b).pd&&(PyData.eqv (en p.c).pd (en q.c).pd&&(PyData.eqv (en p.d).pd (en q.d).pd&&true))))=true↔_
  rw[Bool.and_true,Bool.and_eq_true,Bool.and_eq_true,Bool.and_eq_true,So.eqv,So.eqv,So.eqv,So.eqv]
  exact⟨fun h=>by cases p;cases q;simp at h ⊢; exact h,fun h=>by rw[h];exact⟨rfl,rfl,rfl,rfl⟩⟩
 lt_ok p q:=by
  show PySem.W.dataLt (.tuple [(en p.a).pd,(en p.b).pd,(en p.c).pd,(en p.d).pd]) (.tuple [(en q.a).pd,(en q.b).pd,(en q.c).pd,(en q.d).pd])=_
  rw[PySem.W.dataLt_tuple]
  show fM _ _=_
  rw[bf,bf,bf,bf,kI]
 lay p h:=by
  rw[Bool.and_eq_true,Bool.and_eq_true,Bool.and_eq_true] at h
  show ((en p.a).pd.canLay0&&((en p.b).pd.canLay0&&((en p.c).pd.canLay0&&((en p.d).pd.canLay0&&true))))=true
  rw[So.lay _ h.1.1.1,So.lay _ h.1.1.2,So.lay _ h.1.2,So.lay _ h.2];rfl
 noN _:=rfl
instance {E:Type} [En A] [En B] [En C] [En E]:NN (T4 A B C E):=⟨fun _=>rfl⟩
end
end Sw
namespace Sw
open PySem PySem.Spec PyProof.Rows L2
section
variable {A B C E:Type}
structure Hl4 (A B C E:Type) where
 a:A
 b:B
 c:C
 d:E
instance [En A] [En B] [En C] [En E]:En (Hl4 A B C E):=⟨fun x=>.lst [en x.a,en x.b,en x.c,en x.d]⟩
end
end Sw
namespace Sw
open PySem PySem.Spec PyProof.Rows L2
section
variable {A B C S T U α β γ δ ρ:Type}
def Hu (t:Option (Xn ⊕ A)) (k:A->Option (TO α β ρ)):Option (TO α β ρ):=t.bind fun x=>match x with
 | .inl e=>some (.exc e)
 | .inr a=>k a
@[simp] theorem Ir (a:A) (k:A->Option (TO α β ρ)):Hu (some (.inr a)) k=k a:=rfl
@[simp] theorem Iu (x:Xn) (k:A->Option (TO α β ρ)):Hu (some (.inl x)) k=some (.exc x):=rfl
end
end Sw
namespace Sw
open PySem PySem.Spec PyProof.Rows L2
variable {A B C E F S S' U α β γ δ ρ α' β' γ' δ':Type}
class FlS (A:Type) [En A] (s:Sh):Prop where
 fl: ∀a:A,eJ s (en a)=true
theorem FlS.flt [En A] [FlS A .fz] (a:A):(en a).flt=true:=by
 have:=FlS.fl (s:=.fz) a
 unfold eJ at this
 exact this
instance:FlS Int .fz:=⟨fun a=>by unfold eJ;rfl⟩
instance:FlS Str .fz:=⟨fun a=>by unfold eJ;rfl⟩
instance:FlS Bool .fz:=⟨fun a=>by unfold eJ;rfl⟩
instance [En A] [En B] [FlS A .fz] [FlS B .fz]:FlS (A×B) .fz:=⟨fun a=>by
 unfold eJ
 show zl [en a.1,en a.2]=true
 unfold zl zl zl
 rw[FlS.flt,FlS.flt];rfl⟩
instance [En A] {s:Sh} [FlS A s]:FlS (List A) (.ls s):=⟨fun a=>by
 show eJ (.ls s) (.lst (a.map en))=true
 unfold eJ
 rw[List.all_map,List.all_eq_true]
 intro x _
 exact FlS.fl x⟩
instance [En A] {s:Sh} [FlS A s]:FlS (Sd A) (.dc s):=⟨fun a=>by
 show eJ (.dc s) (.dct (sdK a.l))=true
 unfold eJ sdK
 rw[List.all_map,List.all_eq_true]
 intro x _
 exact FlS.fl x.2⟩
theorem zy {ds:List (Str×D)}:n5 [] ds=true:=by unfold n5;rfl
theorem nk {f g:Str} {s:Sh} {fs:List (Str×Sh)} {d:D} {ds:List (Str×D)} (h:eJ s d=true) (r:n5 fs ds=true):n5 ((f,s)::fs) ((g,d)::ds)=true:=by
 unfold n5
 show (eJ s d&&n5 fs ds)=true
 rw[h,r];rfl
theorem flatIs {fs:List (Str×Sh)} {c:Str} {ds:List (Str×D)} (h:n5 fs ds=true):eJ (.is fs) (.ins c ds)=true:=by unfold eJ;exact h
end Sw
namespace Sw
open PySem PySem.Spec PyProof.Rows L2
structure Bo where
 swaps:Sd (Sd Int)
 ranks:Sd Int
 kept:List (Str×Str)
structure DA where
structure DB where
 swaps:Sd (Sd Int)
structure DC where
 swaps:Sd (Sd Int)
 ranks:Sd Int
instance:En DA:=⟨fun _=>.ins "Ward" []⟩
instance:En DB:=⟨fun s=>.ins "Ward" [("swaps",en s.swaps)]⟩
instance:En DC:=⟨fun s=>.ins "Ward" [("swaps",en s.swaps),("ranks",en s.ranks)]⟩
instance:En Bo:=⟨fun s=>.ins "Ward" [("swaps",en s.swaps),("ranks",en s.ranks),("kept",en s.kept)]⟩
instance:FlS Bo (.is [("swaps",.dc (.dc .fz)),("ranks",.dc .fz),("kept",.ls .fz)]):=⟨fun s=>flatIs (nk (FlS.fl s.swaps) (nk (FlS.fl s.ranks) (nk (FlS.fl s.kept) zy)))⟩
end Sw
namespace Sw
open PySem PySem.Spec PyProof.Rows L2
variable [NmC]
section
variable {A B C:Type} [En A] [En B] [En C]
def T.trs (xs:List (T3 A B C)):Option (List (A×B×C)):=some (xs.map fun x=>(x.a,x.b,x.c))
theorem Bp: ∀xs:List (T3 A B C),D.trs (xs.map en)=some ((xs.map fun x=>(x.a,x.b,x.c)).map es)
 | []=>rfl
 |x::xs=>by rw[List.map_cons];unfold D.trs;rw[Bp xs];rfl
theorem DD {m:Option D} {t:Option (List (T3 A B C))} (q:TyS m t):TyS (CM m) (b1 T.trs t):=fun a e=>by
 obtain⟨x,e1,e2⟩:=bind1 e
 cases e2
 unfold CM;rw[q x e1];exact Bp x
end
end Sw
namespace Sw
open PySem PySem.Spec PyProof.Rows L2
variable [NmC]
structure zz where
 net:Sd (Sd Int)
 prices:Sd Int
 paying:Td (Tl Str) Int
 mates:Sd Str
 Bq:List aC
structure w9 where
structure xg where
 net:Sd (Sd Int)
structure xh where
 net:Sd (Sd Int)
 prices:Sd Int
structure xn where
 net:Sd (Sd Int)
 prices:Sd Int
 paying:Td (Tl Str) Int
structure xo where
 net:Sd (Sd Int)
 prices:Sd Int
 paying:Td (Tl Str) Int
 mates:Sd Str
instance:En w9:=⟨fun _=>.ins "Pricing" []⟩
instance:En xg:=⟨fun s=>.ins "Pricing" [("net",en s.net)]⟩
instance:En xh:=⟨fun s=>.ins "Pricing" [("net",en s.net),("prices",en s.prices)]⟩
instance:En xn:=⟨fun s=>.ins "Pricing" [("net",en s.net),("prices",en s.prices),("paying",en s.paying)]⟩
instance:En xo:=⟨fun s=>.ins "Pricing" [("net",en s.net),("prices",en s.prices),("paying",en s.paying),("mates",en s.mates)]⟩
instance:En zz:=⟨fun s=>.ins "Pricing" [("net",en s.net),("prices",en s.prices),("paying",en s.paying),("mates",en s.mates),("knots",en s.Bq)]⟩
end Sw
namespace Sw
open PySem PySem.Spec PyProof.Rows L2
section
variable {A B C:Type}
class Sq (A:Type) [En A] where
 dec:DecidableEq A
 dep:Nat
 ok:A->Bool
 dat: ∀a:A,(en a).dat=true
 depth: ∀a:A,(en a).pd.depth<=dep
 eqv: ∀a b:A,PyData.eqv (en a).pd (en b).pd=true↔a=b
 lay: ∀a:A,ok a=true->(en a).pd.canLay0=true
theorem zA {d:PyData} (h:t8 d=false):PyData.eqv .none d=false:=by
 cases d <;> first|rfl|exact absurd h (by decide)
theorem zB {d:PyData} (h:t8 d=false):PyData.eqv d .none=false:=by
 cases d <;> first|rfl|exact absurd h (by decide)
instance instSqO [En A] [So A]:Sq (Option A) where
 dec:=letI:DecidableEq A:=So.dec;inferInstance
 dep:=So.dep A
 ok o:=match o with|none=>true|some a=>So.ok a
 dat o:=by
  cases o with
  |none=>rfl
  |some a=>exact So.dat a
 depth o:=by
  cases o with
  |none=>exact Nat.zero_le _
  |some a=>exact So.depth a
 eqv a b:=by
  cases a with
  |none=>
   cases b with
   |none=>exact⟨fun _=>rfl,fun _=>rfl⟩
   |some b=>
    show PyData.eqv .none (en b).pd=true↔_
    rw[zA (So.noN b)]
    exact⟨(fun z=>by cases z),fun z=>by cases z⟩
  |some a=>
   cases b with
   |none=>
    show PyData.eqv (en a).pd .none=true↔_
    rw[zB (So.noN a)]
    exact⟨(fun z=>by cases z),fun z=>by cases z⟩
   |some b=>
    show PyData.eqv (en a).pd (en b).pd=true↔_
    rw[So.eqv]
    exact⟨(fun z=>by rw[z]),fun z=>by cases z;rfl⟩
 lay o h:=by
  cases o with
  |none=>rfl
  |some a=>exact So.lay a h
instance instSqP [En A] [En B] [Sq A] [Sq B]:Sq (A×B) where
 dec:=@instDecidableEqProd A B Sq.dec Sq.dec
 dep:=max (Sq.dep A) (Sq.dep B)+1
 ok p:=Sq.ok p.1&&Sq.ok p.2
 dat p:=by
  show (D.dat (en p.1)&&(D.dat (en p.2)&&true))=true
  rw[Sq.dat,Sq.dat];rfl
 depth p:=by
  show max (en p.1).pd.depth (max (en p.2).pd.depth 0)+1<=_
  have:=Sq.depth p.1;have:=Sq.depth p.2;omega
 eqv p q:=by
  show (PyData.eqv (en p.1).pd (en q.1).pd&&(PyData.eqv (en p.2).pd (en q.2).pd&&true))=true↔_
  rw[Bool.and_true,Bool.and_eq_true,Sq.eqv,Sq.eqv]
  exact⟨fun h=>Prod.ext h.1 h.2,fun h=>by rw[h];exact⟨rfl,rfl⟩⟩
 lay p h:=by
  rw[Bool.and_eq_true] at h
  show ((en p.1).pd.canLay0&&((en p.2).pd.canLay0&&true))=true
  rw[Sq.lay _ h.1,Sq.lay _ h.2];rfl
instance instSoT5 {E F:Type} [En A] [En B] [En C] [En E] [En F] [So A] [So B] [So C] [So E] [So F]:So (T5 A B C E F) where
 dec:=@instDecidableEqT5 A B C E F So.dec So.dec So.dec So.dec So.dec
 lt p q:=@ite _ (p.a=q.a) (So.dec p.a q.a) (@ite _ (p.b=q.b) (So.dec p.b q.b) (@ite _ (p.c=q.c) (So.dec p.c q.c) (@ite _ (p.d=q.d) (So.dec p.d q.d) (@ite _ (p.e=q.e) (So.dec p.e q.e) false (So.lt p.e q.e)) (So.lt p.d q.d)) (So.lt p.c q.c)) (So.lt p.b q.b)) (So.lt p.a q.a)
 dep:=max (So.dep A) (max (So.dep B) (max (So.dep C) (max (So.dep E) (So.dep F))))+1
 ok p:=So.ok p.a&&So.ok p.b&&So.ok p.c&&So.ok p.d&&So.ok p.e
 dat p:=by
  show ((en p.a).dat&&((en p.b).dat&&((en p.c).dat&&((en p.d).dat&&((en p.e).dat&&true)))))=true
  rw[So.dat,So.dat,So.dat,So.dat,So.dat];rfl
 depth p:=by
  show max (en p.a).pd.depth (max (en p.b).pd.depth (max (en p.c).pd.depth (max (en p.d).pd.depth (max (en p.e).pd.depth 0))))+1<=_
  have:=So.depth p.a;have:=So.depth p.b;have:=So.depth p.c;have:=So.depth p.d;have:=So.depth p.e;omega
 al p q:=by
  show (PySem.W.alike (en p.a).pd (en q.a).pd&&(PySem.W.alike (en p.b).pd (en q.b).pd&&(PySem.W.alike (en p.c).pd (en q.c).pd&&(PySem.W.alike (en p.d).pd (en q.d).pd&&(PySem.W.alike (en p.e).pd (en q.e).pd&&true)))))=true
  rw[So.al,So.al,So.al,So.al,So.al];rfl
 eqv p q:=by
  show (PyData.eqv (en p.a).pd (en q.a).pd&&(PyData.eqv (en p.b).pd (en q.b).pd&&(PyData.eqv (en p.c).pd (en q.c).pd&&(PyData.eqv (en p.d).pd (en q.d).pd&&(PyData.eqv (en p.e).pd (en q.e).pd&&true)))))=true↔_
  rw[Bool.and_true,Bool.and_eq_true,Bool.and_eq_true,Bool.and_eq_true,Bool.and_eq_true,So.eqv,So.eqv,So.eqv,So.eqv,So.eqv]
  exact⟨(fun h=>by cases p;cases q;simp at h ⊢; exact h),fun h=>by rw[h];exact⟨rfl,rfl,rfl,rfl,rfl⟩⟩
 lt_ok p q:=by
  show PySem.W.dataLt (.tuple [(en p.a).pd,(en p.b).pd,(en p.c).pd,(en p.d).pd,(en p.e).pd]) (.tuple [(en q.a).pd,(en q.b).pd,(en q.c).pd,(en q.d).pd,(en q.e).pd])=_
  rw[PySem.W.dataLt_tuple]
  show fM _ _=_
  rw[bf,bf,bf,bf,bf,kI]
 lay p h:=by
  rw[Bool.and_eq_true,Bool.and_eq_true,Bool.and_eq_true,Bool.and_eq_true] at h
  show ((en p.a).pd.canLay0&&((en p.b).pd.canLay0&&((en p.c).pd.canLay0&&((en p.d).pd.canLay0&&((en p.e).pd.canLay0&&true)))))=true
  rw[So.lay _ h.1.1.1.1,So.lay _ h.1.1.1.2,So.lay _ h.1.1.2,So.lay _ h.1.2,So.lay _ h.2];rfl
 noN _:=rfl
instance {E F:Type} [En A] [En B] [En C] [En E] [En F]:NN (T5 A B C E F):=⟨fun _=>rfl⟩
end
end Sw
namespace Sw
open PySem PySem.Spec PyProof.Rows L2
structure Fv where
 d:D
instance:En Fv:=⟨Fv.d⟩
def FR.asB:FR->Option Bool
 | .ok (.bl b) []=>some b
 |_=>none
theorem FT {m:Option FR}:Fo0 m (m.bind FR.asB):=fun b e=>by
 obtain⟨r,e1,e2⟩:=bind1 e
 subst e1
 unfold FR.asB at e2
 split at e2
 ·cases e2;rfl
 ·cases e2
theorem Br {m:Option FR} {b:Bool} (h:m=some (.ok (.bl b) [])):m.bind FR.asB=some b:=by subst h;rfl
def T.starts (u w:Str):Option Bool:=some (Txt.startswith u w)
theorem zC:fy D.starts T.starts:=fun a b c e=>by cases e;rfl
section
variable [NmC] {P:Program} {w:World} {K:Frg} {mg:Str->Option Value} {base:Heap}
theorem yA {x qual:Str} {st:Stmt} {fd:FuncData} {k k':Nat} {ps:List Str} {Fs:List D->Option FR} (F:Fun K x qual st (He.ga K x) fd) (ok:FnOk P w K mg base CX0 k (He.ga K x) fd ps (FSp K [.bo,.bo] (.rg .fz) Fs)) (b:Binds K fd ps []) (h:k<=k'):CT P w K mg base k' x Fs:=by
 refine⟨?_,fd,ps,ok.mono h,b⟩
 obtain⟨oc,od,kV,doc,pm,an,cdv,ct,osl,rfl,lk,hcode⟩:=F.ex
 exact⟨_,_,_,_,lk⟩
end
end Sw
namespace Sw
open PySem PySem.Spec PyProof.Rows L2
section
variable {A B C E F K R S α β γ δ ρ:Type}
theorem big:16777000<=sizeLine:=ua
namespace T
@[simp] theorem fC (a b:Int):cQ a b=some (a+b):=rfl
@[simp] theorem og (a b:Int):lN a b=some (a -b):=rfl
@[simp] theorem Iv (a:Int):EK a=some (-a):=rfl
theorem oZ {a b:Int} (h1: -18446744073709551616<a) (h2:a<18446744073709551616):jD a b=some (a*b):=by
 unfold jD;rw[if_pos (yq (by simpa using h1) (by simpa using h2))]
theorem jK {a b:Int} (h:0<b) (h2:b<1073741824):iY a b=some (a/b):=jc ⟨h,h2⟩
theorem b9 {a b:Int} (h:0<b):cj a b=some (a%b):=jc h
@[simp] theorem Bt (a b:Int):ltI a b=some (decide (a<b)):=rfl
@[simp] theorem xp (a b:Int):leI a b=some (decide (a<=b)):=rfl
@[simp] theorem Bu (a b:Int):gtI a b=some (decide (b<a)):=rfl
@[simp] theorem Jl (a b:Int):geI a b=some (decide (b<=a)):=rfl
@[simp] theorem i5 [DecidableEq A] (a b:A):eqA a b=some (decide (a=b)):=rfl
@[simp] theorem Bv [DecidableEq A] (a b:A):neA a b=some (!decide (a=b)):=rfl
@[simp] theorem Jm (a b:Str):ltS a b=some (decide (bS a b)):=rfl
@[simp] theorem Jn (a b:Str):leS a b=some (!decide (bS b a)):=rfl
@[simp] theorem Jo (a b:Str):gtS a b=some (decide (bS b a)):=rfl
@[simp] theorem Jp (a b:Str):geS a b=some (!decide (bS a b)):=rfl
theorem DE {a b:Str} (h:a.length+b.length<=sizeLine):mF a b=some (a++b):=if_pos h
@[simp] theorem DF (a b:Int):min2 a b=some (if b<a then b else a):=rfl
@[simp] theorem DG (a b:Int):max2 a b=some (if b>a then b else a):=rfl
@[simp] theorem Hv (a b:Str):Ed a b=some (if bS b a then b else a):=rfl
@[simp] theorem Hw (a b:Str):Ee a b=some (if bS a b then b else a):=rfl
@[simp] theorem Iw (a:A) (b:B):pair a b=some (a,b):=rfl
@[simp] theorem FU (a:A) (b:B) (c:C):tri a b c=some ⟨a,b,c⟩:=rfl
@[simp] theorem Jq (a:A) (b:B) (c:C) (d:E):qua a b c d=some ⟨a,b,c,d⟩:=rfl
@[simp] theorem Jr (a:A) (b:B) (c:C) (d:E) (e:F):qui a b c d e=some ⟨a,b,c,d,e⟩:=rfl
@[simp] theorem oh (a:A) (r:List A):T.cons (some a) (some r)=some (a::r):=rfl
theorem rJ {r:List A} (h:r.length<=sizeLine):T.lst (some r)=some r:=if_pos h
@[simp] theorem JT (a:A):T.lst (some [a])=some [a]:=rJ (Nat.le_trans (by simp) big)
@[simp] theorem Ep (a b:A):T.lst (some [a,b])=some [a,b]:=rJ (Nat.le_trans (by simp) big)
@[simp] theorem Bw (a b c:A):T.lst (some [a,b,c])=some [a,b,c]:=rJ (Nat.le_trans (by simp) big)
@[simp] theorem Hx (a b c d:A):T.lst (some [a,b,c,d])=some [a,b,c,d]:=rJ (Nat.le_trans (by simp) big)
theorem qI {xs:List A} {i:Int} (h0:0<=i) (h1:i<xs.length):atL xs i=some (xs[i.toNat]'(by omega)):=by
 unfold atL
 rw[atI_nat h0 h1,List.getElem?_eq_getElem]
theorem DH {xs:Scr} {i:Int} (h0:0<=i) (h1:i<xs.l.length):atC xs i=some (xs.l[i.toNat]'(by omega)):=by
 unfold atC
 rw[atI_nat h0 h1,List.getElem?_eq_getElem]
@[simp] theorem Iy (xs:List A):EN xs=some (xs.length:Int):=rfl
@[simp] theorem Iz (xs:Scr):vt xs=some (xs.l.length:Int):=rfl
@[simp] theorem IA (d:Sd A):Co d=some (d.l.length:Int):=rfl
theorem DI {x:Str} (h:x.length<=sizeLine):sE x=some (x.length:Int):=if_pos h
theorem DJ {xs ys:List A} (h:xs.length+ys.length<=sizeLine):wI xs ys=some (xs++ys):=if_pos h
@[simp] theorem DK (xs:List A) (lo hi:Option Int):T.iZ xs lo hi=some (Sw.iZ xs lo hi):=rfl
@[simp] theorem IB (xs:Scr) (lo hi:Option Int):T.ET xs lo hi=some (Sw.iZ xs.l lo hi):=rfl
@[simp] theorem xq (i:Int):T.toI i=some (some i):=rfl
@[simp] theorem rev_eq (xs:List A):T.rev xs=some xs.reverse:=rfl
@[simp] theorem Js (xs:List A) (ys:List B):T.zip xs ys=some (xs.zip ys):=rfl
@[simp] theorem IC (xs:List Int):GZ xs=some xs.sum:=rfl
theorem qM {n:Int} (h0: -4611686018427387904<=n) (h:n<4611686018427387904):mG n=some ((List.range n.toNat).map fun i:Nat=>(i:Int)):=by
 unfold mG
 rw[if_pos]
 unfold okR
 exact @decide_eq_true _ (Classical.propDecidable _) ⟨by omega,by omega⟩
@[simp] theorem ux (x:Str):rq x=some (sgs x):=rfl
@[simp] theorem JU [DecidableEq A] (a:A) (xs:List A):inA true a xs=some (!decide (a∈xs)):=rfl
@[simp] theorem Hy [DecidableEq A] (a:A) (xs:List A):inA false a xs=some (decide (a∈xs)):=rfl
@[simp] theorem ID (d:Sd A) (x:Str):Ck d x=aD d.l x:=rfl
@[simp] theorem Jt (d:Sd A) (x:Str):inK x d=some (aD d.l x).isSome:=rfl
@[simp] theorem IE (d:Sd A) (x:Str):Cm x d=some (!(aD d.l x).isSome):=rfl
@[simp] theorem Hz (d:Sd A):Ec d=some (d.l.map (·.1)):=rfl
@[simp] theorem HA (d:Sd A):items d=some d.l:=rfl
@[simp] theorem IF (d:Sd A):vals d=some (d.l.map (·.2)):=rfl
theorem Bx {xs:List A} {x:A} (h:xs.length<sizeLine):app xs x=some ((),xs++[x]):=if_pos h
@[simp] theorem Ju (xs:List A):clr xs=some ((),[]):=rfl
@[simp] theorem Jv (xs:List A):rvs xs=some ((),xs.reverse):=rfl
@[simp] theorem IG (d:Sd A):Jk d=some ((),⟨[]⟩):=rfl
@[simp] theorem JV (r:R) (f:R->Option (C×R)):at0 r (some plR) f=f r:=by
 show (f r).bind _=_
 cases f r <;> rfl
@[simp] theorem Er (r:R) (x:B) (f:R->B->Option (C×R)):at1 r (some plR) (some x) f=f r x:=by
 show (f r x).bind _=_
 cases f r x <;> rfl
@[simp] theorem JW (r:R) (x:B) (y:E) (f:R->B->E->Option (C×R)):at2 r (some plR) (some x) (some y) f=f r x y:=by
 show (f r x y).bind _=_
 cases f r x y <;> rfl
theorem FV [En A] [So A] {a b:A} (h:So.ok a=true) (g:So.ok b=true):eqD a b=some (@decide (a=b) (So.dec a b)):=by unfold eqD;rw[h,g];rfl
end T
@[simp] theorem bM (c:Bool) (x y:Option (TO γ β ρ)) (k:γ->Option (TO α β ρ)):f6 (some c) x y k=(if c=true then x else y).bind (ug k):=rfl
@[simp] theorem GK (c:Bool) (x y:Option A):Jh (some c) x y=if c=true then x else y:=rfl
@[simp] theorem ie (k:γ->Option (TO α β ρ)) (a:γ):ug k (.nx a)=k a:=rfl
@[simp] theorem IH (k:γ->Option (TO α β ρ)) (a:β):ug k (.bk a)=some (.bk a):=rfl
@[simp] theorem II (k:γ->Option (TO α β ρ)) (a:β):ug k (.ct a)=some (.ct a):=rfl
@[simp] theorem HB (k:γ->Option (TO α β ρ)) (a:ρ):ug k (.ret a)=some (.ret a):=rfl
@[simp] theorem rK (k:γ->Option (TO α β ρ)) (a:γ):zv k (.fin a)=k a:=rfl
@[simp] theorem HD (k:γ->Option (TO α β ρ)) (a:ρ):zv k (.ret a)=some (.ret a):=rfl
@[simp] theorem HE (k:γ->Option (TO α β ρ)) (a:γ):C5 k (.fin a)=k a:=rfl
@[simp] theorem HF (k:γ->Option (TO α β ρ)) (a:ρ):C5 k (.ret a)=some (.ret a):=rfl
@[simp] theorem cM (ds:List δ) (step:γ->δ->Option (TO γ γ ρ)) (b0:γ) (k:γ->Option (TO α β ρ)):lC (some ds) step b0 k=(eL step ds b0).bind (zv k):=rfl
@[simp] theorem FW (ds:List δ) (step:γ->δ->Option (TO γ γ ρ)) (b0:γ) (k:γ->Option (TO α β ρ)):Hm (some ds) step b0 k=(eL step ds b0).bind (C5 k):=rfl
@[simp] theorem tv (a:A) (f:A->ρ):(cF (some a) f:Option (TO α β ρ))=some (.ret (f a)):=rfl
@[simp] theorem DL (r:R0 A):tF0 (some (.ret r))=some r.v:=rfl
@[simp] theorem IJ (r:R1 A B):tF1 (some (.ret r))=some (r.v,r.o):=rfl
@[simp] theorem IK (r:R2' A B C):tF2 (some (.ret r))=some (r.v,r.o,r.p):=rfl
@[simp] theorem IL (r:R3 A B C E):tF3 (some (.ret r))=some (r.v,r.o,r.p,r.q):=rfl
theorem xr {xs:List A} {rt:A->Option Bool} {re:A->Option B} (p:A->Bool) (g:A->B) (hl:xs.length<=sizeLine) (h1: ∀x∈xs,rt x=some (p x)) (h2: ∀x∈xs,p x=true->re x=some (g x)):tlc (some xs) rt re=some ((xs.filter p).map g):=by
 unfold tlc
 rw[Option.bind_some,if_pos hl]
 clear hl
 induction xs with
 |nil=>rfl
 |cons x xs ih=>
  have ih:=ih (fun y hy=>h1 y (List.mem_cons_of_mem _ hy)) (fun y hy=>h2 y (List.mem_cons_of_mem _ hy))
  unfold rG
  rw[h1 x List.mem_cons_self,Option.bind_some]
  cases hp:p x with
  |true=>rw[if_pos rfl,h2 x List.mem_cons_self hp,Option.bind_some,ih,List.filter_cons_of_pos hp];rfl
  |false=>rw[if_neg Bool.false_ne_true,ih,List.filter_cons_of_neg (by simp[hp])]
theorem mr {xs:List A} {re:A->Option B} (g:A->B) (hl:xs.length<=sizeLine) (h2: ∀x∈xs,re x=some (g x)):tlc (some xs) (fun _=>some true) re=some (xs.map g):=by
 rw[xr (fun _=>true) g hl (fun _ _=>rfl) (fun x hx _=>h2 x hx),List.filter_eq_self.mpr (fun _ _=>rfl)]
theorem By {step:γ->δ->Option (TO γ γ ρ)} {xs:List δ} (I:List δ->γ->Prop) {b0:γ} (h0:I [] b0) (hs: ∀pre x post b,xs=pre++x::post->I pre b-> ∃b',(step b x=some (.nx b')\/step b x=some (.ct b'))/\I (pre++[x]) b'): ∃b',eL step xs b0=some (.fin b')/\I xs b':=by
 have key: ∀(ys pre:List δ) (b:γ),xs=pre++ys->I pre b-> ∃b',eL step ys b=some (.fin b')/\I xs b':=by
  intro ys
  induction ys with
  |nil=>intro pre b e h;rw[List.append_nil] at e;subst e;exact⟨b,rfl,h⟩
  |cons y ys ih=>
   intro pre b e h
   obtain⟨b1,e1,h1⟩:=hs pre y ys b e h
   obtain⟨b2,e2,h2⟩:=ih (pre++[y]) b1 (by rw[e,List.append_assoc];rfl) h1
   refine⟨b2,?_,h2⟩
   unfold eL
   rcases e1 with e1|e1 <;> (rw[e1];exact e2)
 exact key xs [] b0 rfl h0
theorem Bz {step:γ->Int->Option (TO γ γ ρ)} (I:Nat->γ->Prop) {n:Nat} {b0:γ} (h0:I 0 b0) (hs: ∀i:Nat,i<n-> ∀b,I i b-> ∃b',(step b (i:Int)=some (.nx b')\/step b (i:Int)=some (.ct b'))/\I (i+1) b'): ∃b',eL step ((List.range n).map fun i:Nat=>(i:Int)) b0=some (.fin b')/\I n b':=by
 obtain⟨b',e,h⟩:=By (step:=step) (xs:=(List.range n).map fun i:Nat=>(i:Int)) (fun pre b=>I pre.length b) h0 fun pre x post b e h=>by
  have hl:=congrArg List.length e
  simp at hl
  have hx:x=(pre.length:Int):=by
   have:=congrArg (fun l=>l[pre.length]?) e
   simp at this
   obtain⟨m,hm1,hm2⟩:=this
   rw[List.getElem?_range (by omega)] at hm1
   simp at hm1;omega
  subst hx
  obtain⟨b',e1,h1⟩:=hs pre.length (by omega) b h
  exact⟨b',e1,by simpa using h1⟩
 exact⟨b',e,by simpa using h⟩
end
end Sw
namespace Sw
open PySem PySem.Spec PyProof.Rows L2
abbrev Wb:=Sd (Sd Int)
def lO (w:Wb) (x:Str):List (Str×Int):=match aD w.l x with
 |some r=>r.l
 |none=>[]
def wk (w:Wb) (x y:Str):Option Int:=aD (lO w x) y
structure f7 (ns:List Str) (w:Wb):Prop where
 keys:w.l.map (·.1)=ns
 rows: ∀x,((lO w x).map (·.1)).Nodup
 sym: ∀x y v,wk w x y=some v->wk w y x=some v
 irr: ∀x,wk w x x=none
 rng: ∀x y v,wk w x y=some v->1<=v/\v<=1000000000000
def yB (w:Wb) (x y:Str) (v:Int):Wb:=⟨bH (bH w.l x ⟨bH (lO w x) y v⟩) y ⟨bH (lO w y) x v⟩⟩
section
variable {ns:List Str} {w:Wb} {x y:Str} {v:Int}
theorem yC {r:Sd Int} (h:aD w.l x=some r):lO w x=r.l:=by unfold lO;rw[h]
theorem HG {r:Sd Int} (h:aD w.l x=some r) (y:Str):wk w x y=aD r.l y:=by unfold wk;rw[yC h]
theorem Es {w:Wb} {x y:Str} {v:Int} (h:wk w x y=some v): ∃r,aD w.l x=some r/\aD r.l y=some v:=by
 unfold wk lO at h
 cases e:aD w.l x with
 |none=>rw[e] at h;cases h
 |some r=>rw[e] at h;exact⟨r,rfl,h⟩
theorem tw (w:Wb) (x:Str) (r:Sd Int) (a:Str):lO ⟨bH w.l x r⟩ a=if a=x then r.l else lO w a:=by
 unfold lO
 rw[dU]
 by_cases e:a=x
 ·rw[if_pos e,if_pos e]
 ·rw[if_neg e,if_neg e]
theorem f7.has (h:f7 ns w):(aD w.l x).isSome=true↔x∈ns:=by rw[jI,h.keys]
theorem f7.get (h:f7 ns w) (hx:x∈ns): ∃r,aD w.l x=some r:=Option.isSome_iff_exists.mp (h.has.mpr hx)
theorem f7.inl (h:f7 ns w) (e:wk w x y=some v):x∈ns:=by
 obtain⟨r,e1,_⟩:=Es e
 exact h.has.mp (by rw[e1];rfl)
theorem f7.inside (h:f7 ns w) (e:wk w x y=some v):x∈ns/\y∈ns:=⟨h.inl e,h.inl (h.sym _ _ _ e)⟩
theorem f7.ne (h:f7 ns w) (e:wk w x y=some v):x≠y:=fun q=>by subst q;rw[h.irr] at e;cases e
theorem f7.len (h:f7 ns w):w.l.length=ns.length:=by rw[<-h.keys];simp
theorem rL (hxy:x≠y) (a:Str):lO (yB w x y v) a=if a=y then bH (lO w y) x v else if a=x then bH (lO w x) y v else lO w a:=by
 unfold yB
 rw[show (⟨bH (bH w.l x ⟨bH (lO w x) y v⟩) y ⟨bH (lO w y) x v⟩⟩:Wb)=⟨bH (⟨bH w.l x ⟨bH (lO w x) y v⟩⟩:Wb).l y ⟨bH (lO w y) x v⟩⟩ from rfl,tw,tw]
theorem rM (hxy:x≠y) (a b:Str):wk (yB w x y v) a b=if (a=x/\b=y)\/(a=y/\b=x) then some v else wk w a b:=by
 unfold wk
 rw[rL hxy]
 by_cases ha:a=y
 ·subst ha
  rw[if_pos rfl,dU]
  by_cases hb:b=x
  ·rw[if_pos hb,if_pos (.inr ⟨rfl,hb⟩)]
  ·rw[if_neg hb,if_neg (by rintro (⟨e,_⟩|⟨_,e⟩);exact hxy e.symm;exact hb e)]
 ·rw[if_neg ha]
  by_cases hx:a=x
  ·subst hx
   rw[if_pos rfl,dU]
   by_cases hb:b=y
   ·rw[if_pos hb,if_pos (.inl ⟨rfl,hb⟩)]
   ·rw[if_neg hb,if_neg (by rintro (⟨_,e⟩|⟨e,_⟩);exact hb e;exact ha e)]
  ·rw[if_neg hx,if_neg (by rintro (⟨e,_⟩|⟨e,_⟩);exact hx e;exact ha e)]
theorem zD {r s:Sd Int} (hk:w.l.map (·.1)=ns) (hx:x∈ns) (hy:y∈ns):(bH (bH w.l x r) y s).map (·.1)=ns:=by
 rw[dB,dB,hk]
 ·rw[hk];exact hx
 ·rw[dB (by rw[hk];exact hx),hk];exact hy
theorem f7.join (h:f7 ns w) (hx:x∈ns) (hy:y∈ns) (hxy:x≠y) (hv:1<=v/\v<=1000000000000):f7 ns (yB w x y v) where
 keys:=zD h.keys hx hy
 rows:=fun a=>by
  rw[rL hxy]
  split
  ·exact fL (h.rows y)
  ·split
   ·exact fL (h.rows x)
   ·exact h.rows a
 sym:=fun a b u e=>by
  rw[rM hxy] at e⊢
  split at e
  ·rename_i q
   rw[if_pos (q.symm.imp And.symm And.symm)];exact e
  ·rename_i q
   rw[if_neg (fun z=>q (z.symm.imp And.symm And.symm))];exact h.sym _ _ _ e
 irr:=fun a=>by
  rw[rM hxy,if_neg (by rintro (⟨e,f⟩|⟨e,f⟩);exact hxy (e.symm.trans f);exact hxy (f.symm.trans e))]
  exact h.irr a
 rng:=fun a b u e=>by
  rw[rM hxy] at e
  split at e
  ·cases e;exact hv
  ·exact h.rng _ _ _ e
end
theorem aQ (xs:List Str):(m9 xs).Perm xs:=List.mergeSort_perm _ _
theorem uy (xs:List Str):(m9 xs).Pairwise (fun a b=>sLe a b=true):=List.pairwise_mergeSort ze zf xs
theorem uz {xs:List Str} (h:xs.Nodup):(m9 xs).Pairwise bS:=by
 have h1:=uy xs
 have h2:(m9 xs).Nodup:=(aQ xs).nodup_iff.mpr h
 rw[List.nodup_iff_pairwise_ne] at h2
 refine (h1.and h2).imp fun {a b} ⟨h,g⟩=> ?_
 rw[C4] at h
 rcases kF a b with e|e|e
 ·exact e
 ·exact absurd e g
 ·exact absurd e h
theorem tA (xs:List Str):(m9 xs).length=xs.length:=(aQ xs).length_eq
theorem rN {α:Type} {lt:α->α->Prop} (ir: ∀a,¬lt a a) (tr: ∀a b c,lt a b->lt b c->lt a c): ∀{xs ys:List α},xs.Pairwise lt->ys.Pairwise lt->(∀a,a∈xs↔a∈ys)->xs=ys
 | [],[],_,_,_=>rfl
 | [],y::ys,_,_,h=>absurd ((h y).mpr List.mem_cons_self) (by simp)
 |x::xs,[],_,_,h=>absurd ((h x).mp List.mem_cons_self) (by simp)
 |x::xs,y::ys,hx,hy,h=>by
  rw[List.pairwise_cons] at hx hy
  have e:x=y:=by
   have h1:=(h x).mp List.mem_cons_self
   have h2:=(h y).mpr List.mem_cons_self
   rcases List.mem_cons.mp h1 with e|h1
   ·exact e
   ·rcases List.mem_cons.mp h2 with e|h2
    ·exact e.symm
    ·exact absurd (tr _ _ _ (hx.1 y h2) (hy.1 x h1)) (ir _)
  subst e
  congr 1
  refine rN ir tr hx.2 hy.2 fun a=>⟨fun m=> ?_,fun m=> ?_⟩
  ·rcases List.mem_cons.mp ((h a).mp (List.mem_cons_of_mem _ m)) with e|q
   ·subst e;exact absurd (hx.1 a m) (ir a)
   ·exact q
  ·rcases List.mem_cons.mp ((h a).mpr (List.mem_cons_of_mem _ m)) with e|q
   ·subst e;exact absurd (hy.1 a m) (ir a)
   ·exact q
theorem risingS {xs ys:List Str} (hx:xs.Pairwise bS) (hy:ys.Pairwise bS) (h: ∀a,a∈xs↔a∈ys):xs=ys:=rN cL (fun _ _ _=>kc) hx hy h
theorem IM {ps:List (Str×Str)} (h:ps.Pairwise pLt):zu ps=ps:=List.mergeSort_of_pairwise (h.imp fun {a b} h=>by unfold pLe;simp only[Bool.not_eq_true',decide_eq_false_iff_not];exact fun g=>kG _ (mn h g))
theorem BA {ps:List (Str×Str)} (h:ps.Nodup):(zu ps).Pairwise pLt:=by
 have h1:=vI ps
 have h2:(zu ps).Nodup:=(o6 ps).nodup_iff.mpr h
 rw[List.nodup_iff_pairwise_ne] at h2
 refine (h1.and h2).imp fun {a b} ⟨h,g⟩=> ?_
 unfold pLe at h
 simp only[Bool.not_eq_true',decide_eq_false_iff_not] at h
 rcases ub a b with e|e|e
 ·exact e
 ·exact absurd e g
 ·exact absurd e h
def fq (ps:List (Str×Str)):Prop:=(aZ ps).Nodup
theorem ends_app (a b:List (Str×Str)):aZ (a++b)=aZ a++aZ b:=List.flatMap_append
theorem rO (a:List (Str×Str)):(aZ a).length=2*a.length:=by
 induction a with
 |nil=>rfl
 |cons p a ih=>unfold aZ at *; rw[List.flatMap_cons,List.length_append,ih];simp;omega
theorem DM {pre:List (Str×Str)} {q:Str×Str} (h:q∈pre):q.1∈aZ pre/\q.2∈aZ pre:=
 ⟨List.mem_flatMap.mpr ⟨q,h,by simp⟩,List.mem_flatMap.mpr ⟨q,h,by simp⟩⟩
theorem dN {pre:List (Str×Str)} {x:Str}:x∈aZ pre↔ ∃q∈pre,x=q.1\/x=q.2:=by
 unfold aZ
 rw[List.mem_flatMap]
 simp
theorem oj: ∀{ps:List (Str×Str)},fq ps->ps.Nodup
 | [],_=>List.nodup_nil
 |p::ps,h=>by
  unfold fq at h
  rw[show aZ (p::ps)=[p.1,p.2]++aZ ps from rfl,List.nodup_append] at h
  exact List.nodup_cons.mpr ⟨fun m=>h.2.2 p.1 (by simp) p.1 (DM m).1 rfl,oj h.2.1⟩
theorem vN {ps qs:List (Str×Str)} (p:ps.Perm qs) (h:fq ps):fq qs:=(List.Perm.flatMap_right (fun p:Str×Str=>[p.1,p.2]) p).nodup_iff.mp h
theorem jq {ps:List (Str×Str)} (h:fq ps) {p q:Str×Str} (hp:p∈ps) (hq:q∈ps) {x:Str} (h1:x=p.1\/x=p.2) (h2:x=q.1\/x=q.2):p=q:=by
 induction ps with
 |nil=>cases hp
 |cons a ps ih=>
  unfold fq at h
  rw[show aZ (a::ps)=[a.1,a.2]++aZ ps from rfl,List.nodup_append] at h
  rcases List.mem_cons.mp hp with e1|hp
  ·rcases List.mem_cons.mp hq with e2|hq
   ·rw[e1,e2]
   ·exact absurd rfl (h.2.2 x (by rw[<-e1];simpa using h1) x (dN.mpr ⟨q,hq,h2⟩))
  ·rcases List.mem_cons.mp hq with e2|hq
   ·exact absurd rfl (h.2.2 x (by rw[<-e2];simpa using h2) x (dN.mpr ⟨p,hp,h1⟩))
   ·exact ih h.2.1 hp hq
structure Plan (w:Wb) (ps:List (Str×Str)):Prop where
 rise:ps.Pairwise pLt
 apart:fq ps
 lt: ∀p∈ps,bS p.1 p.2
 swap: ∀p∈ps,∃v,wk w p.1 p.2=some v
end Sw
namespace Sw
open PySem PySem.Spec PyProof.Rows L2
def mix (c k:Int):Int:=
 let n:=(c%2147483629*48271+7919*k+104729)%2147483629
 let m:=n*n%2147483629
 (m+k)*(m+k)%2147483587
def pl (c:Int):List Int:=(List.range 8).map fun j:Nat=>mix c (10+(j:Int))%26
def xt (c:Int):Int:=mix c 7%8
def Jw (c:Int) (k:Nat):List Int:=if c%3<2 then (pl c).set (xt c).toNat (((pl c).getD (xt c).toNat 0+k)%26) else (pl c).set 0 (((pl c).getD 0 0+(k:Int)/8)%26)
def Jx (c:Int) (k:Nat):Int:=if c%3<2 then (if c%3=1 then xt c+1+mix c (30+(k:Int))%(8 -xt c) else xt c+1+c/3%(8 -xt c)) else 1+(xt c+k)%8
def nm (c:Int) (k:Nat):Str:=⟨(((Jw c k).take (Jx c k).toNat).map fun p=>97+p.toNat).toArray⟩
end Sw
namespace Sw
open PySem PySem.Spec PyProof.Rows L2
def nP (e:Str×Str):Str×Str:=(if bS e.2 e.1 then e.2 else e.1,if bS e.1 e.2 then e.2 else e.1)
theorem rP {e:Str×Str} (h:bS e.1 e.2):nP e=e:=by
 unfold nP;rw[if_neg (o5 h),if_pos h]
theorem yD {e:Str×Str} (h:bS e.2 e.1):nP e=(e.2,e.1):=by
 unfold nP;rw[if_pos h,if_neg (o5 h)]
theorem qN (x y:Str):nP (x,y)=nP (y,x):=by
 rcases kF x y with h|h|h
 ·rw[rP h,yD (e:=(y,x)) h]
 ·rw[h]
 ·rw[yD (e:=(x,y)) h,rP (e:=(y,x)) h]
theorem tD {e:Str×Str} (h:e.1≠e.2):(nP e=e/\bS e.1 e.2)\/(nP e=(e.2,e.1)/\bS e.2 e.1):=by
 rcases kF e.1 e.2 with g|g|g
 ·exact .inl ⟨rP g,g⟩
 ·exact absurd g h
 ·exact .inr ⟨yD g,g⟩
theorem DN {e:Str×Str} (h:e.1≠e.2):bS (nP e).1 (nP e).2:=by
 rcases tD h with ⟨g,k⟩|⟨g,k⟩ <;> (rw[g];exact k)
theorem i6 {e:Str×Str} (h:e.1≠e.2) {x:Str}:(x=(nP e).1\/x=(nP e).2)↔(x=e.1\/x=e.2):=by
 rcases tD h with ⟨g,k⟩|⟨g,k⟩
 ·rw[g]
 ·rw[g];exact Or.comm
def mt (P:List (Str×Str)) (x y:Str):Prop:=(x,y)∈P\/(y,x)∈P
instance (P:List (Str×Str)) (x y:Str):Decidable (mt P x y):=inferInstanceAs (Decidable (_\/_))
theorem kJ {P:List (Str×Str)} {x y:Str} (h:mt P x y):mt P y x:=h.symm
theorem nu {w:Wb} {P:List (Str×Str)} (hP:Plan w P) {x y z:Str} (h:mt P x y) (g:mt P x z):y=z:=by
 have ne: ∀p∈P,p.1≠p.2:=fun p hp e=>cL p.2 (by have:=hP.lt p hp;rwa[e] at this)
 rcases h with h|h <;> rcases g with g|g
 ·have:=jq hP.apart h g (x:=x) (.inl rfl) (.inl rfl);exact congrArg Prod.snd this
 ·have:=jq hP.apart h g (x:=x) (.inl rfl) (.inr rfl)
  have e1:x=z:=congrArg Prod.fst this
  have e2:y=x:=congrArg Prod.snd this
  rw[e2,e1]
 ·have:=jq hP.apart h g (x:=x) (.inr rfl) (.inl rfl)
  have e1:y=x:=congrArg Prod.fst this
  have e2:x=z:=congrArg Prod.snd this
  rw[e1,e2]
 ·have:=jq hP.apart h g (x:=x) (.inr rfl) (.inr rfl);exact congrArg Prod.fst this
theorem rQ {w:Wb} {P:List (Str×Str)} (hP:Plan w P) {x y:Str} (h:mt P x y):x≠y:=fun e=>by
 subst e
 rcases h with h|h <;> exact cL x (hP.lt _ h)
theorem pW {w:Wb} {P:List (Str×Str)} (hP:Plan w P) {e:Str×Str} (he:e.1≠e.2):nP e∈P↔mt P e.1 e.2:=by
 constructor
 ·intro h
  rcases tD he with ⟨g,k⟩|⟨g,k⟩
  ·rw[g] at h;exact .inl h
  ·rw[g] at h;exact .inr h
 ·rintro (h|h)
  ·rw[rP (hP.lt _ h)];exact h
  ·rw[yD (hP.lt _ h)];exact h
theorem rR: ∀{xs:List (Str×Str)},xs.Nodup->(∀p∈xs,p.1≠p.2)->(∀p∈xs,∀q∈xs,∀x,(x=p.1\/x=p.2)->(x=q.1\/x=q.2)->p=q)->fq xs
 | [],_,_,_=>List.nodup_nil
 |p::xs,h1,h2,h3=>by
  rw[List.nodup_cons] at h1
  have ih:=rR h1.2 (fun q hq=>h2 q (List.mem_cons_of_mem _ hq)) (fun q hq r hr=>h3 q (List.mem_cons_of_mem _ hq) r (List.mem_cons_of_mem _ hr))
  unfold fq
  rw[show aZ (p::xs)=[p.1,p.2]++aZ xs from rfl,List.nodup_append]
  refine⟨by simpa using h2 p List.mem_cons_self,ih,fun a ha b hb e=> ?_⟩
  subst e
  obtain⟨q,hq,e⟩:=dN.mp hb
  have:p=q:=h3 p List.mem_cons_self q (List.mem_cons_of_mem _ hq) a (by simpa using ha) e
  rw[this] at h1
  exact h1.1 hq
def mX (P A:List (Str×Str)):List (Str×Str):=zu ((P.filter fun p=> !decide (p∈A))++A.filter fun p=> !decide (p∈P))
theorem kd {P A:List (Str×Str)} (q:Str×Str):q∈mX P A↔(q∈P/\q∉A)\/(q∈A/\q∉P):=by
 unfold mX
 rw[(o6 _).mem_iff,List.mem_append,List.mem_filter,List.mem_filter]
 simp
theorem vO {P A:List (Str×Str)} (hP:P.Nodup) (hA:A.Nodup):((P.filter fun p=> !decide (p∈A))++A.filter fun p=> !decide (p∈P)).Nodup:=by
 refine List.nodup_append.mpr ⟨hP.sublist List.filter_sublist,hA.sublist List.filter_sublist,fun a ha b hb e=> ?_⟩
 subst e
 rw[List.mem_filter] at ha hb
 simp at ha hb
 exact hb.2 ha.1
structure TurnOk (w:Wb) (P A:List (Str×Str)):Prop where
 nd:A.Nodup
 lt: ∀p∈A,bS p.1 p.2
 sw: ∀p∈A,∃v,wk w p.1 p.2=some v
 a: ∀p∈A,p∉P-> ∀q∈A,q∉P-> ∀x,(x=p.1\/x=p.2)->(x=q.1\/x=q.2)->p=q
 b: ∀p∈P,∀q∈A,q∉P-> ∀x,(x=p.1\/x=p.2)->(x=q.1\/x=q.2)->p∈A
theorem tE {w:Wb} {P A:List (Str×Str)} (hP:Plan w P) (h:TurnOk w P A):Plan w (mX P A):=by
 have nd:=vO (oj hP.apart) h.nd
 have lt: ∀p∈mX P A,bS p.1 p.2:=fun p hp=>by
  rcases (kd p).mp hp with ⟨q,_⟩|⟨q,_⟩
  ·exact hP.lt p q
  ·exact h.lt p q
 refine⟨BA nd,rR (by unfold mX;exact (o6 _).nodup_iff.mpr nd) (fun p hp e=>cL p.2 (by have:=lt p hp;rwa[e] at this)) (fun p hp q hq x h1 h2=> ?_),lt,fun p hp=> ?_⟩
 ·rcases (kd p).mp hp with ⟨a1,a2⟩|⟨a1,a2⟩ <;> rcases (kd q).mp hq with ⟨b1,b2⟩|⟨b1,b2⟩
  ·exact jq hP.apart a1 b1 h1 h2
  ·exact absurd (h.b p a1 q b1 b2 x h1 h2) a2
  ·exact absurd (h.b q b1 p a1 a2 x h2 h1) b2
  ·exact h.a p a1 a2 q b1 b2 x h1 h2
 ·rcases (kd p).mp hp with ⟨q,_⟩|⟨q,_⟩
  ·exact hP.swap p q
  ·exact h.sw p q
theorem TurnOk.perm {w:Wb} {P A B:List (Str×Str)} (h:TurnOk w P A) (p:A.Perm B):TurnOk w P B where
 nd:=p.nodup_iff.mp h.nd
 lt:=fun q hq=>h.lt q (p.mem_iff.mpr hq)
 sw:=fun q hq=>h.sw q (p.mem_iff.mpr hq)
 a:=fun q hq nq r hr nr=>h.a q (p.mem_iff.mpr hq) nq r (p.mem_iff.mpr hr) nr
 b:=fun q hq r hr nr x h1 h2=>p.mem_iff.mp (h.b q hq r (p.mem_iff.mpr hr) nr x h1 h2)
theorem TurnOk.nil (w:Wb) (P:List (Str×Str)):TurnOk w P []:=⟨List.nodup_nil,by simp,by simp,by simp,by simp⟩
def eds:List Str->List (Str×Str)
 | []=>[]
 | [_]=>[]
 |a::b::l=>(a,b)::eds (b::l)
theorem jV {e:Str×Str}: ∀{l:List Str},e∈eds l->e.1∈l/\e.2∈l
 | [],h=>by cases h
 | [_],h=>by cases h
 |a::b::l,h=>by
  rcases List.mem_cons.mp h with h|h
  ·subst h;simp
  ·have:=jV h
   exact⟨List.mem_cons_of_mem _ this.1,List.mem_cons_of_mem _ this.2⟩
def alo (ring:Bool) (cs:List Str):List (Str×Str):=(eds cs++if ring=true then (match cs.getLast?,cs.head? with|some l,some h=>[(l,h)]|_,_=>[]) else []).map nP
theorem yE (cs:List Str):alo false cs=(eds cs).map nP:=by
 unfold alo
 rw[if_neg Bool.false_ne_true,List.append_nil]
def om (P es:List (Str×Str)):List (Str×Str):=es.filter fun e=> !decide (mt P e.1 e.2)
theorem jw {P es:List (Str×Str)} {e:Str×Str}:e∈om P es↔e∈es/\ ¬mt P e.1 e.2:=by
 unfold om;rw[List.mem_filter];simp
theorem BB (P a b:List (Str×Str)):om P (a++b)=om P a++om P b:=List.filter_append _ _
structure pb (w:Wb) (P es:List (Str×Str)):Prop where
 nd:(es.map nP).Nodup
 ne: ∀e∈es,e.1≠e.2
 sw: ∀e∈es,∃v,wk w e.1 e.2=some v
 ap:fq (om P es)
 cl: ∀e∈es,∀x,(x=e.1\/x=e.2)-> ∀y,mt P x y->(x,y)∈es\/(y,x)∈es
theorem pb.turn {ns:List Str} {w:Wb} {P es:List (Str×Str)} (hw:f7 ns w) (hP:Plan w P) (h:pb w P es):TurnOk w P (es.map nP) where
 nd:=h.nd
 lt:=fun p hp=>by
  obtain⟨e,he,rfl⟩:=List.mem_map.mp hp
  exact DN (h.ne e he)
 sw:=fun p hp=>by
  obtain⟨e,he,rfl⟩:=List.mem_map.mp hp
  obtain⟨v,hv⟩:=h.sw e he
  rcases tD (h.ne e he) with ⟨g,k⟩|⟨g,k⟩
  ·rw[g];exact⟨v,hv⟩
  ·rw[g];exact⟨v,hw.sym _ _ _ hv⟩
 a:=fun p hp np q hq nq x h1 h2=>by
  obtain⟨e,he,rfl⟩:=List.mem_map.mp hp
  obtain⟨f,hf,rfl⟩:=List.mem_map.mp hq
  rw[i6 (h.ne e he)] at h1
  rw[i6 (h.ne f hf)] at h2
  rw[pW hP (h.ne e he)] at np
  rw[pW hP (h.ne f hf)] at nq
  rw[jq h.ap (jw.mpr ⟨he,np⟩) (jw.mpr ⟨hf,nq⟩) h1 h2]
 b:=fun p hp q hq nq x h1 h2=>by
  obtain⟨f,hf,rfl⟩:=List.mem_map.mp hq
  rw[i6 (h.ne f hf)] at h2
  have key: ∃y,mt P x y/\(p=(x,y)\/p=(y,x)):=by
   rcases h1 with h1|h1
   ·exact⟨p.2,.inl (by rw[h1];exact hp),.inl (by rw[h1])⟩
   ·exact⟨p.1,.inr (by rw[h1];exact hp),.inr (by rw[h1])⟩
  obtain⟨y,my,hpe⟩:=key
  have hn:nP p=p:=rP (hP.lt p hp)
  rcases h.cl f hf x h2 y my with g|g
  ·refine List.mem_map.mpr ⟨_,g,?_⟩
   rcases hpe with e|e
   ·rw[<-e];exact hn
   ·rw[qN,←e];exact hn
  ·refine List.mem_map.mpr ⟨_,g,?_⟩
   rcases hpe with e|e
   ·rw[qN,←e];exact hn
   ·rw[<-e];exact hn
theorem jW: ∀{cs:List Str},cs.Nodup->((eds cs).map nP).Nodup/\ ∀e∈eds cs,e.1≠e.2
 | [],_=>⟨List.nodup_nil,by simp[eds]⟩
 | [_],_=>⟨List.nodup_nil,by simp[eds]⟩
 |a::b::l,h=>by
  rw[List.nodup_cons] at h
  have ih:=jW h.2
  have ab:a≠b:=fun e=>h.1 (by rw[e];simp)
  have ne: ∀e∈eds (a::b::l),e.1≠e.2:=fun e he=>by
   rcases List.mem_cons.mp he with he|he
   ·subst he;exact ab
   ·exact ih.2 e he
  refine⟨?_,ne⟩
  show (nP (a,b)::(eds (b::l)).map nP).Nodup
  refine List.nodup_cons.mpr ⟨fun m=> ?_,ih.1⟩
  obtain⟨e,he,q⟩:=List.mem_map.mp m
  have t1:=(i6 (e:=(a,b)) ab (x:=a)).mpr (.inl rfl)
  rw[<-q,i6 (ih.2 e he)] at t1
  have:=jV he
  rcases t1 with t|t
  ·exact h.1 (t▸this.1)
  ·exact h.1 (t▸this.2)
structure pX (w:Wb) (P:List (Str×Str)) (cs:List Str) (l:Str):Prop where
 la:cs.getLast? =some l
 nd:cs.Nodup
 cl: ∀x∈cs,∀y,mt P x y->y∈cs/\((x,y)∈eds cs\/(y,x)∈eds cs)
 sw: ∀e∈eds cs,∃v,wk w e.1 e.2=some v
 ap:fq (om P (eds cs))
 fr:(∃y,mt P l y)->l∉aZ (om P (eds cs))
 ev: ∀h,cs.head? =some h->(∃y,mt P h y)->(cs.length%2=0/\ ∃y,mt P l y)\/(cs.length%2=1/\ ¬ ∃y,mt P l y)
section
variable {w:Wb} {P:List (Str×Str)} {cs:List Str} {l x:Str}
theorem pX.one {c:Str} (h: ¬ ∃y,mt P c y):pX w P [c] c:=
 ⟨rfl,by simp,fun x hx y hy=>absurd ⟨y,(List.mem_singleton.mp hx)▸hy⟩ h,by simp[eds],List.nodup_nil,fun g=>absurd g h,fun z hz g=>by cases hz;exact absurd g h⟩
theorem pX.two (hP:Plan w P) (hs: ∀x y,mt P x y-> ∃v,wk w x y=some v) {c d:Str} (h:mt P c d):pX w P [c,d] d:=by
 have ne:=rQ hP h
 have nn:om P (eds [c,d])=[]:=by
  refine List.filter_eq_nil_iff.mpr fun e he=> ?_
  have:e=(c,d):=by simpa [eds] using he
  subst this;simp[h]
 refine⟨rfl,by simpa using ne,fun x hx y hy=> ?_,fun e he=> ?_,by rw[nn];exact List.nodup_nil,fun _=>by rw[nn];simp[aZ],fun z hz _=>.inl ⟨by simp,c,kJ h⟩⟩
 ·rcases List.mem_cons.mp hx with rfl|hx
  ·rw[nu hP hy h];exact⟨by simp,.inl (by simp[eds])⟩
  ·rw[List.mem_singleton.mp hx] at hy⊢
   rw[nu hP hy (kJ h)]
   exact⟨by simp,.inr (by simp[eds])⟩
 ·have:e=(c,d):=by simpa [eds] using he
  subst this;exact hs _ _ h
theorem pX.BC (h:pX w P cs l):pb w P (eds cs):=
 ⟨(jW h.nd).1,(jW h.nd).2,h.sw,h.ap,fun e he x hx y hy=>by
  have:=jV he
  exact (h.cl x (by rcases hx with e|e <;> (rw[e];first|exact this.1|exact this.2)) y hy).2⟩
theorem pX.ring (hP:Plan w P) (h:pX w P cs l) {a b:Str} {t:List Str} (hc:cs=a::b::t) (h3:3<cs.length) (h2:cs.length%2=0) (hi:mt P a b) (hv: ∃v,wk w l a=some v):pb w P (eds cs++[(l,a)]):=by
 have hl: ∃y,mt P l y:=by
  rcases h.ev a (by rw[hc];rfl) ⟨b,hi⟩ with ⟨_,q⟩|⟨q,_⟩
  ·exact q
  ·omega
 have hlm:=List.mem_of_getLast? h.la
 have nd:=h.nd
 have key:l≠a/\l≠b:=by
  subst hc
  rw[List.nodup_cons,List.nodup_cons] at nd
  have ht:t≠[]:=fun e=>by subst e;simp at h3
  have:l∈t:=by
   have:=h.la
   rw[List.getLast?_cons_cons,List.getLast?_cons_of_ne_nil ht] at this
   exact List.mem_of_getLast? this
  exact⟨fun e=>nd.1 (e▸List.mem_cons_of_mem _ this),fun e=>nd.2.1 (e▸this)⟩
 have hn: ¬mt P l a:=fun m=>key.2 (nu hP (kJ m) hi)
 have ha:a∉aZ (om P (eds cs)):=fun m=>by
  obtain⟨e,he,q⟩:=dN.mp m
  obtain⟨he,ne⟩:=jw.mp he
  subst hc
  rcases List.mem_cons.mp (show e∈(a,b)::eds (b::t) from he) with g|g
  ·subst g;exact ne hi
  ·have:=jV g
   rw[List.nodup_cons] at nd
   rcases q with q|q
   ·exact nd.1 (q▸this.1)
   ·exact nd.1 (q▸this.2)
 have hf:=h.fr hl
 have nn:om P (eds cs++[(l,a)])=om P (eds cs)++[(l,a)]:=by
  rw[BB];unfold om;rw[List.filter_cons_of_pos (by simpa using hn)];rfl
 have E:=h.BC
 refine⟨?_,fun e he=> ?_,fun e he=> ?_,?_,fun e he x hx y hy=> ?_⟩
 ·rw[List.map_append]
  refine List.nodup_append.mpr ⟨E.nd,by simp,fun p hp q hq e=> ?_⟩
  subst e
  have hq:p=nP (l,a):=by simpa using hq
  obtain⟨e,he,g⟩:=List.mem_map.mp hp
  rw[hq] at g
  have t1:l=e.1\/l=e.2:=by
   rw[<-i6 (E.ne e he),g,i6 (e:=(l,a)) key.1];exact .inl rfl
  by_cases me:mt P e.1 e.2
  ·rw[<-pW hP (E.ne e he),g,pW hP (e:=(l,a)) key.1] at me
   exact hn me
  ·exact hf (dN.mpr ⟨e,jw.mpr ⟨he,me⟩,t1⟩)
 ·rcases List.mem_append.mp he with he|he
  ·exact E.ne e he
  ·rw[List.mem_singleton.mp he];exact key.1
 ·rcases List.mem_append.mp he with he|he
  ·exact E.sw e he
  ·rw[List.mem_singleton.mp he];exact hv
 ·rw[nn]
  unfold fq
  rw[ends_app,List.nodup_append]
  refine⟨h.ap,?_,fun c hc2 d hd e=> ?_⟩
  ·show ([l,a]:List Str).Nodup
   simpa using key.1
  ·subst e
   rcases List.mem_cons.mp (show c∈[l,a] from hd) with e|hd
   ·exact hf (e▸hc2)
   ·exact ha (List.mem_singleton.mp hd▸hc2)
 ·have hx':x∈cs:=by
   rcases List.mem_append.mp he with he|he
   ·have:=jV he
    rcases hx with e|e <;> (rw[e];first|exact this.1|exact this.2)
   ·rw[List.mem_singleton.mp he] at hx
    rcases hx with e|e
    ·rw[e];exact hlm
    ·rw[e,hc];exact List.mem_cons_self
  exact (h.cl x hx' y hy).2.imp (List.mem_append_left _) (List.mem_append_left _)
end
theorem xv {A:Type} {xs:List A} {rt:A->Option Bool} (p:A->Bool) (hl:xs.length<=sizeLine) (h1: ∀x∈xs,rt x=some (p x)):tlc (some xs) rt (fun x=>some x)=some (xs.filter p):=by
 have:=xr (re:=fun x=>some x) p id hl h1 (fun _ _ _=>rfl)
 rwa[List.map_id] at this
end Sw
namespace Sw
open PySem PySem.Spec PyProof.Rows L2
inductive Rch (w:Wb) (P:Str->Prop) (x:Str):Str->Prop
 |refl:Rch w P x x
 |step {y z:Str} {v:Int}:Rch w P x y->wk w y z=some v-> ¬P z->Rch w P x z
section
variable {w:Wb} {P Q:Str->Prop} {x y z:Str} {v:Int} {ks:List Str}
theorem Rch.trans (h:Rch w P x y) (g:Rch w P y z):Rch w P x z:=by
 induction g with
 |refl=>exact h
 |step _ e n ih=>exact .step ih e n
theorem Rch.out (h:Rch w P x y) (n: ¬P x): ¬P y:=by
 cases h with
 |refl=>exact n
 |step _ _ m=>exact m
theorem Rch.symm (ok:f7 ks w) (n: ¬P x) (h:Rch w P x y):Rch w P y x:=by
 induction h with
 |refl=>exact .refl
 |step h e m ih=>exact Rch.trans (.step .refl (ok.sym _ _ _ e) (h.out n)) ih
theorem rS {x:Str}:x∈m9 ks↔x∈ks:=(aQ ks).mem_iff
end
end Sw
namespace Sw
open PySem PySem.Spec PyProof.Rows L2
abbrev SR:=Str->Str->Prop
theorem hE {cs:List Str} (h:cs.Nodup) {i j:Nat} {hi:i<cs.length} {hj:j<cs.length} (e:cs[i]=cs[j]):i=j:=by
 rcases Nat.lt_trichotomy i j with c|c|c
 ·exact absurd e (List.pairwise_iff_getElem.mp h i j hi hj c)
 ·exact c
 ·exact absurd e.symm (List.pairwise_iff_getElem.mp h j i hj hi c)
structure jg (F:SR):Prop where
 symm: ∀{x y},F x y->F y x
 one: ∀{x y z},F x y->F x z->y=z
 irr: ∀{x},¬F x x
def own (P Q:List (Str×Str)):SR:=fun x y=>mt P x y/\ ¬mt Q x y
def alt (F S:SR) (i:Nat):SR:=if i%2=0 then F else S
section
variable {F S f g:SR} {cs ds:List Str} {a x y z:Str} {i j:Nat} {wd wd':Str}
theorem qO (hF:jg F) (hS:jg S) (i:Nat):jg (alt F S i):=by
 unfold alt;split <;> assumption
theorem xA (h:i%2=j%2):alt F S i=alt F S j:=by unfold alt;rw[h]
theorem BD (h:alt F S i x y):F x y\/S x y:=by
 unfold alt at h;split at h
 ·exact .inl h
 ·exact .inr h
theorem FX (i:Nat) (h:F x y\/S x y):alt F S i x y\/alt F S (i+1) x y:=by
 unfold alt
 by_cases c:i%2=0
 ·rw[if_pos c,if_neg (by omega)];exact h
 ·rw[if_neg c,if_pos (by omega)];exact h.symm
theorem iA (h:i%2=0):alt F S i=F:=if_pos h
theorem oo (h:i%2=1):alt F S i=S:=if_neg (by omega)
def Walk (F S:SR) (cs:List Str):Prop:= ∀i (h:i+1<cs.length),alt F S i (cs[i]'(by omega)) cs[i+1]
theorem HH (hF:jg F) (hS:jg S) (nd:cs.Nodup) (hw:Walk F S cs) (hp:0<cs.length) (hy:alt F S (cs.length -1) (cs[cs.length -1]'(by omega)) y) (ne:y≠cs[0]):y∉cs:=fun m=>by
 obtain⟨j,hj,e⟩:=List.mem_iff_getElem.mp m
 have R:=qO hF hS (cs.length -1)
 have j0:0<j:=by
  rcases Nat.eq_zero_or_pos j with z|z
  ·subst z;exact absurd e.symm ne
  ·exact z
 subst e
 by_cases c:j%2=cs.length%2
 ·have h1:=hw (j -1) (by omega)
  rw[xA (j:=cs.length -1) (by omega)] at h1
  have h2:cs[j -1+1]'(by omega)=cs[j]:=by congr 1;omega
  rw[h2] at h1
  have:=R.one (R.symm h1) (R.symm hy)
  have:=hE nd this
  omega
 ·by_cases l:j=cs.length -1
  ·subst l;exact R.irr hy
  ·have h1:=hw j (by omega)
   rw[xA (j:=cs.length -1) (by omega)] at h1
   have:=R.one h1 (R.symm hy)
   have:=hE nd this
   omega
structure ig (F S:SR) (a:Str) (cs:List Str):Prop where
 pos:0<cs.length
 hd:cs[0]=a
 nd:cs.Nodup
 wk:Walk F S cs
 en:(¬ ∃y,alt F S (cs.length -1) (cs[cs.length -1]'(by omega)) y)\/alt F S (cs.length -1) (cs[cs.length -1]'(by omega)) a
theorem jL: ∀(cs:List Str) (i:Nat) (h:i+1<cs.length),(cs[i]'(by omega),cs[i+1])∈eds cs
 | [],_,h=>by simp at h
 | [_],_,h=>by simp at h
 |a::b::l,0,_=>List.mem_cons_self
 |a::b::l,i+1,h=>List.mem_cons_of_mem _ (jL (b::l) i (by simpa using h))
theorem jh {e:Str×Str}: ∀{cs:List Str},e∈eds cs-> ∃(i:Nat) (h:i+1<cs.length),e=(cs[i]'(by omega),cs[i+1])
 | [],h=>by cases h
 | [_],h=>by cases h
 |a::b::l,h=>by
  rcases List.mem_cons.mp h with h|h
  ·exact⟨0,by simp,h⟩
  ·obtain⟨i,hi,e⟩:=jh h
   exact⟨i+1,by simpa using hi,e⟩
def edg (ring:Bool) (cs:List Str):List (Str×Str):=eds cs++if ring=true then (match cs.getLast?,cs.head? with|some l,some h=>[(l,h)]|_,_=>[]) else []
theorem yF (r:Bool) (cs:List Str):alo r cs=(edg r cs).map nP:=rfl
theorem uA (cs:List Str):edg false cs=eds cs:=List.append_nil _
theorem vP (hp:0<cs.length):edg true cs=eds cs++[(cs[cs.length -1]'(by omega),cs[0])]:=by
 have h:cs≠[]:=List.length_pos_iff.mp hp
 unfold edg
 rw[List.getLast?_eq_some_getLast h,List.head?_eq_some_head h,List.getLast_eq_getElem,List.head_eq_getElem];rfl
theorem xB {r:Bool} {e:Str×Str} (h:e∈edg r cs):e.1∈cs/\e.2∈cs:=by
 cases r with
 |false=>rw[uA] at h;exact jV h
 |true=>
  have hp:0<cs.length:=by
   cases cs with
   |nil=>cases h
   |cons _ _=>simp
  rw[vP hp] at h
  rcases List.mem_append.mp h with h|h
  ·exact jV h
  ·rw[List.mem_singleton.mp h];exact⟨List.getElem_mem _,List.getElem_mem _⟩
theorem ig.two (h:ig F S a cs) (hF:jg F) (ha: ∃y,F a y):2<=cs.length:=by
 have:=h.pos
 rcases Nat.lt_or_ge cs.length 2 with c|c
 ·have e:cs.length -1=0:=by omega
  have en:=h.en
  simp only[e,h.hd] at en
  rw[iA rfl] at en
  rcases en with en|en
  ·exact absurd ha en
  ·exact absurd en hF.irr
 ·exact c
theorem Walk.BE (hw:Walk F S cs) (hF:jg F) (hS:jg S) {i:Nat} (h:i<cs.length) (hy:F cs[i] y\/S cs[i] y):((cs[i],y)∈eds cs\/(y,cs[i])∈eds cs)\/(i=0/\S cs[i] y)\/(i=cs.length -1/\alt F S (cs.length -1) cs[i] y):=by
 rcases FX i hy with q|q
 ·by_cases l:i+1<cs.length
  ·have:=(qO hF hS i).one (hw i l) q
   subst this
   exact .inl (.inl (jL cs i l))
  ·have e:i=cs.length -1:=by omega
   refine .inr (.inr ⟨e,?_⟩)
   rw[<-e];exact q
 ·rcases Nat.eq_zero_or_pos i with z|z
  ·subst z
   exact .inr (.inl ⟨rfl,q⟩)
  ·have w:=hw (i -1) (by omega)
   have e1:cs[i -1+1]'(by omega)=cs[i]:=by congr 1;omega
   rw[xA (j:=i+1) (by omega),e1] at w
   have:=(qO hF hS (i+1)).one ((qO hF hS (i+1)).symm w) q
   subst this
   have:=jL cs (i -1) (by omega)
   rw[e1] at this
   exact .inl (.inr this)
theorem ig.HI (h:ig F S a cs) (hF:jg F) (hS:jg S) (ha: ∃y,F a y) (hn: ¬ ∃y,S a y): ¬ ∃y,alt F S (cs.length -1) (cs[cs.length -1]'(by have:=h.pos;omega)) y:=by
 have h2:=h.two hF ha
 rcases h.en with q|q
 ·exact q
 ·exfalso
  by_cases c:(cs.length -1)%2=0
  ·rw[iA c] at q
   have w:=h.wk 0 (by omega)
   rw[iA rfl,h.hd] at w
   have:=hF.one w (hF.symm q)
   have:=hE h.nd this
   omega
  ·rw[oo (by omega)] at q
   exact hn ⟨_,hS.symm q⟩
theorem ig.Jy (h:ig F S a cs) (hF:jg F) (hS:jg S) (ha: ∃y,F a y) (hb: ∀x∈cs,(∃y,F x y)/\ ∃y,S x y):cs.length%2=0/\S (cs[cs.length -1]'(by have:=h.pos;omega)) a:=by
 have h2:=h.two hF ha
 have hb':=hb _ (List.getElem_mem (l:=cs) (n:=cs.length -1) (by omega))
 have q:alt F S (cs.length -1) (cs[cs.length -1]'(by omega)) a:=h.en.resolve_left fun n=>n (by
  unfold alt;split
  ·exact hb'.1
  ·exact hb'.2)
 by_cases c:(cs.length -1)%2=0
 ·rw[iA c] at q
  have w:=h.wk 0 (by omega)
  rw[iA rfl,h.hd] at w
  have:=hF.one w (hF.symm q)
  have:=hE h.nd this
  omega
 ·rw[oo (by omega)] at q
  exact⟨by omega,q⟩
end
def isR (wd:Str):Bool:=decide (wd=("ring" :Str))
def bo (f g:SR) (x:Str):Prop:=(∃y,f x y)/\ ∃y,g x y
structure jE (f g:SR) (wd:Str) (cs:List Str):Prop where
 nd:cs.Nodup
 two:2<=cs.length
 adj: ∀x∈cs,∀y,(f x y\/g x y)->(x,y)∈edg (isR wd) cs\/(y,x)∈edg (isR wd) cs
 ed: ∀e∈edg (isR wd) cs,f e.1 e.2\/g e.1 e.2
 alo:(alo (isR wd) cs).Nodup
 wo:wd="row" \/wd="ring"
 row:wd="row" ->(¬bo f g (cs[0]'(by omega)))/\ ∀x∈cs,¬bo f g x-> ¬bS x (cs[0]'(by omega))
 ring:wd="ring" -> ∀x∈cs,bo f g x/\ ¬bS x (cs[0]'(by omega))
 lst:wd="row" -> ¬bo f g (cs[cs.length -1]'(by omega))
 ev:wd="ring" ->cs.length%2=0/\4<=cs.length
structure Prt (f g:SR) (wd:Str) (cs:List Str):Prop extends jE f g wd cs where
 w1:(∃y,f (cs[0]'(by omega)) y)->Walk f g cs
 w2:(¬ ∃y,f (cs[0]'(by omega)) y)->Walk g f cs
section
variable {F S f g:SR} {cs ds:List Str} {a x y z:Str} {i j:Nat} {wd wd':Str}
theorem jM:("row" :Str)≠"ring" :=by decide
theorem qP:bo f g x↔bo g f x:=And.comm
theorem jE.swap (h:jE f g wd cs):jE g f wd cs where
 nd:=h.nd
 two:=h.two
 adj:=fun x hx y q=>h.adj x hx y q.symm
 ed:=fun e he=>(h.ed e he).symm
 alo:=h.alo
 wo:=h.wo
 row:=fun e=>⟨fun b=>(h.row e).1 (qP.mp b),fun x hx n=>(h.row e).2 x hx fun b=>n (qP.mp b)⟩
 ring:=fun e x hx=>⟨qP.mp (h.ring e x hx).1,(h.ring e x hx).2⟩
 lst:=fun e b=>h.lst e (qP.mp b)
 ev:=h.ev
theorem jE.closed (h:jE f g wd cs) (hx:x∈cs) (hy:f x y\/g x y):y∈cs:=by
 rcases h.adj x hx y hy with q|q
 ·exact (xB q).2
 ·exact (xB q).1
theorem DO {r:Bool} {e:Str×Str} (h:e∈eds cs):e∈edg r cs:=List.mem_append_left _ h
theorem conn (hs: ∀i (h:i+1<cs.length),f (cs[i]'(by omega)) cs[i+1]\/g (cs[i]'(by omega)) cs[i+1]) (hf:jg f) (hg:jg g) (C:Str->Prop) (hC: ∀x y,C x->(f x y\/g x y)->C y) (hx:x∈cs) (cx:C x): ∀z∈cs,C z:=by
 obtain⟨k,hk,e⟩:=List.mem_iff_getElem.mp hx
 subst e
 have up: ∀m (h:k+m<cs.length),C cs[k+m]:=fun m=>by
  induction m with
  |zero=>intro h;exact cx
  |succ m ih=>intro h;exact hC _ _ (ih (by omega)) (hs (k+m) h)
 have dn: ∀m (h:m<=k),C (cs[k -m]'(by omega)):=fun m=>by
  induction m with
  |zero=>intro h;exact cx
  |succ m ih=>
   intro h
   have q:=hs (k -(m+1)) (by omega)
   have e1:cs[k -(m+1)+1]'(by omega)=cs[k -m]'(by omega):=by congr 1;omega
   rw[e1] at q
   exact hC _ _ (ih (by omega)) (q.imp hf.symm hg.symm)
 intro z hz
 obtain⟨j,hj,e⟩:=List.mem_iff_getElem.mp hz
 subst e
 by_cases c:k<=j
 ·have:=up (j -k) (by omega)
  have e1:cs[k+(j -k)]'(by omega)=cs[j]:=by congr 1;omega
  rwa[e1] at this
 ·have:=dn (k -j) (by omega)
  have e1:cs[k -(k -j)]'(by omega)=cs[j]:=by congr 1;omega
  rwa[e1] at this
theorem jE.steps (h:jE f g wd cs): ∀i (h:i+1<cs.length),f (cs[i]'(by omega)) cs[i+1]\/g (cs[i]'(by omega)) cs[i+1]:=fun i hi=>h.ed _ (DO (jL cs i hi))
theorem jE.BF (h:jE f g wd cs) (k:jE f g wd' ds) (hf:jg f) (hg:jg g) (h1:x∈cs) (h2:x∈ds) (z:Str):z∈cs↔z∈ds:=
 ⟨conn h.steps hf hg (fun z=>z∈ds) (fun _ _ c q=>k.closed c q) h1 h2 z,conn k.steps hf hg (fun z=>z∈cs) (fun _ _ c q=>h.closed c q) h2 h1 z⟩
theorem jE.zE (h:jE f g wd cs) (k:jE f g wd' ds) (e: ∀z,z∈cs↔z∈ds):wd=wd'/\cs[0]'(by have:=h.two;omega)=ds[0]'(by have:=k.two;omega):=by
 have h2:=h.two
 have k2:=k.two
 have m1:cs[0]∈ds:=(e _).mp (List.getElem_mem _)
 have m2:ds[0]∈cs:=(e _).mpr (List.getElem_mem _)
 have tri: ¬bS (cs[0]) (ds[0])-> ¬bS (ds[0]) (cs[0])->cs[0]=ds[0]:=fun a b=>by
  rcases kF (cs[0]) (ds[0]) with q|q|q
  ·exact absurd q a
  ·exact q
  ·exact absurd q b
 rcases h.wo with a|a <;> rcases k.wo with b|b
 ·exact⟨by rw[a,b],tri ((k.row b).2 _ m1 (h.row a).1) ((h.row a).2 _ m2 (k.row b).1)⟩
 ·exact absurd (k.ring b _ m1).1 (h.row a).1
 ·exact absurd (h.ring a _ m2).1 (k.row b).1
 ·exact⟨by rw[a,b],tri (k.ring b _ m1).2 (h.ring a _ m2).2⟩
theorem ig.row (h:ig F S a cs) (hF:jg F) (hS:jg S) (ha: ∃y,F a y) (hn: ¬ ∃y,S a y) (hl: ¬bS (cs[cs.length -1]'(by have:=h.pos;omega)) a):jE F S "row" cs:=by
 have h2:=h.two hF ha
 have op:=h.HI hF hS ha hn
 have hr:isR "row" =false:=rfl
 exact {
  nd:=h.nd
  two:=h2
  adj:=fun x hx y q=>by
   rw[hr,uA]
   obtain⟨i,hi,e⟩:=List.mem_iff_getElem.mp hx
   subst e
   rcases h.wk.BE hF hS hi q with r|⟨r,t⟩|⟨r,t⟩
   ·exact r
   ·subst r;rw[h.hd] at t;exact absurd ⟨y,t⟩ hn
   ·subst r;exact absurd ⟨y,t⟩ op
  ed:=fun e he=>by
   rw[hr,uA] at he
   obtain⟨i,hi,e1⟩:=jh he
   subst e1
   exact BD (h.wk i hi)
  alo:=by rw[hr,yE];exact (jW h.nd).1
  wo:=.inl rfl
  row:=fun _=>⟨by rw[h.hd];exact fun b=>hn b.2,fun x hx n=>by
   rw[h.hd]
   obtain⟨i,hi,e⟩:=List.mem_iff_getElem.mp hx
   subst e
   by_cases c0:i=0
   ·subst c0;rw[h.hd];exact cL a
   by_cases c1:i=cs.length -1
   ·subst c1;exact hl
   refine absurd ?_ n
   have q1:=h.wk i (by omega)
   have q2:=h.wk (i -1) (by omega)
   have e1:cs[i -1+1]'(by omega)=cs[i]:=by congr 1;omega
   rw[e1] at q2
   by_cases p:i%2=0
   ·rw[iA p] at q1
    rw[oo (by omega)] at q2
    exact⟨⟨_,q1⟩,⟨_,hS.symm q2⟩⟩
   ·rw[oo (by omega)] at q1
    rw[iA (by omega)] at q2
    exact⟨⟨_,hF.symm q2⟩,⟨_,q1⟩⟩⟩
  ring:=fun e=>absurd e jM
  lst:=fun _ b=>op (by
   unfold alt;split
   ·exact b.1
   ·exact b.2)
  ev:=fun e=>absurd e jM}
theorem ig.ring (h:ig F S a cs) (hF:jg F) (hS:jg S) (hd: ∀x y,F x y-> ¬S x y) (ha: ∃y,F a y) (hb: ∀x∈cs,(∃y,F x y)/\ ∃y,S x y) (hl: ∀x∈cs,¬bS x a):jE F S "ring" cs:=by
 have h2:=h.two hF ha
 obtain⟨ev,cl⟩:=h.Jy hF hS ha hb
 have hr:isR "ring" =true:=rfl
 have ee:edg true cs=eds cs++[(cs[cs.length -1]'(by omega),a)]:=by rw[vP (by omega),h.hd]
 have h4:4<=cs.length:=by
  rcases Nat.lt_or_ge cs.length 4 with c|c
  ·have e:cs.length=2:=by omega
   exfalso
   have w:=h.wk 0 (by omega)
   rw[iA rfl,h.hd] at w
   have:cs[cs.length -1]'(by omega)=cs[0+1]'(by omega):=by congr 1;omega
   rw[this] at cl
   exact hd _ _ w (hS.symm cl)
  ·exact c
 have la:cs[cs.length -1]'(by omega)≠a:=fun e=>by
  rw[<-h.hd] at e
  have:=hE h.nd e
  omega
 exact {
  nd:=h.nd
  two:=h2
  adj:=fun x hx y q=>by
   rw[hr,ee]
   obtain⟨i,hi,e⟩:=List.mem_iff_getElem.mp hx
   subst e
   rcases h.wk.BE hF hS hi q with r|⟨r,t⟩|⟨r,t⟩
   ·exact r.imp (List.mem_append_left _) (List.mem_append_left _)
   ·subst r
    rw[h.hd] at t⊢
    have:=hS.one t (hS.symm cl)
    subst this
    exact .inr (List.mem_append_right _ List.mem_cons_self)
   ·subst r
    rw[oo (by omega)] at t
    have:=hS.one t cl
    subst this
    exact .inl (List.mem_append_right _ List.mem_cons_self)
  ed:=fun e he=>by
   rw[hr,ee] at he
   rcases List.mem_append.mp he with he|he
   ·obtain⟨i,hi,e1⟩:=jh he
    subst e1
    exact BD (h.wk i hi)
   ·rw[List.mem_singleton.mp he];exact .inr cl
  alo:=by
   rw[hr,yF,ee,List.map_append]
   obtain⟨n1,n2⟩:=jW h.nd
   refine List.nodup_append.mpr ⟨n1,by simp,fun p hp q hq e=> ?_⟩
   subst e
   have hq:p=nP (cs[cs.length -1]'(by omega),a):=by simpa using hq
   obtain⟨e,he,q⟩:=List.mem_map.mp hp
   rw[hq] at q
   have t1:cs[cs.length -1]'(by omega)=e.1\/cs[cs.length -1]'(by omega)=e.2:=by
    rw[<-i6 (n2 e he),q,i6 (e:=(cs[cs.length -1]'(by omega),a)) la];exact .inl rfl
   have t2:a=e.1\/a=e.2:=by
    rw[<-i6 (n2 e he),q,i6 (e:=(cs[cs.length -1]'(by omega),a)) la];exact .inr rfl
   obtain⟨i,hi,e1⟩:=jh he
   subst e1
   rw[<-h.hd] at t2
   have k1:cs.length -1=i\/cs.length -1=i+1:=t1.imp (fun t=>hE h.nd t) (fun t=>hE h.nd t)
   have k2:0=i\/0=i+1:=t2.imp (fun t=>hE h.nd t) (fun t=>hE h.nd t)
   omega
  wo:=.inr rfl
  row:=fun e=>absurd e.symm jM
  ring:=fun _ x hx=>⟨hb x hx,by rw[h.hd];exact hl x hx⟩
  lst:=fun e=>absurd e.symm jM
  ev:=fun _=>⟨ev,h4⟩}
end
end Sw
namespace Sw
open PySem PySem.Spec PyProof.Rows L2
section
variable {w:Wb} {P Q:List (Str×Str)} {S cs:List Str} {wd x y:Str} {q:Str×Str}
theorem BG (hP:Plan w P) (hQ:Plan w Q) (h:q∈P) (n:q∉Q):own P Q q.1 q.2:=
 ⟨.inl h,fun m=>m.elim n fun m=>o5 (hP.lt _ h) (hQ.lt _ m)⟩
theorem BH (hP:Plan w P) (hQ:Plan w Q) {e:Str×Str} (h:own P Q e.1 e.2):nP e∈P/\nP e∉Q:=by
 have ne:=rQ hP h.1
 rw[pW hP ne,pW hQ ne]
 exact h
theorem jE.mem (hP:Plan w P) (hQ:Plan w Q) (h:jE (own P Q) (own Q P) wd cs) (q:Str×Str):q∈Sw.alo (isR wd) cs↔((q∈P/\q∉Q)\/(q∈Q/\q∉P))/\q.1∈cs:=by
 rw[yF,List.mem_map]
 constructor
 ·rintro⟨e,he,rfl⟩
  have hi:=xB he
  have ne:e.1≠e.2:=by
   rcases h.ed e he with o|o
   ·exact rQ hP o.1
   ·exact rQ hQ o.1
  refine⟨(h.ed e he).imp (BH hP hQ) (BH hQ hP),?_⟩
  rcases (i6 (e:=e) ne (x:=(nP e).1)).mp (.inl rfl) with t|t
  ·rw[t];exact hi.1
  ·rw[t];exact hi.2
 ·rintro⟨h1,h2⟩
  have lt:bS q.1 q.2:=h1.elim (fun r=>hP.lt _ r.1) (fun r=>hQ.lt _ r.1)
  have o:own P Q q.1 q.2\/own Q P q.1 q.2:=h1.imp (fun r=>BG hP hQ r.1 r.2) (fun r=>BG hQ hP r.1 r.2)
  rcases h.adj _ h2 _ o with r|r
  ·exact⟨_,r,rP lt⟩
  ·exact⟨_,r,by rw[qN];exact rP lt⟩
def uB (P Q:List (Str×Str)) (S:List Str):Prop:= ∀x∈S,∀y,(own P Q x y\/own Q P x y)->y∈S
theorem uB.swap (h:uB P Q S):uB Q P S:=fun x hx y o=>h x hx y o.symm
theorem uB.nil:uB P Q []:=fun x hx=>by cases hx
theorem uB.app (h:uB P Q S) {T:List Str} (k:uB P Q T):uB P Q (S++T):=fun x hx y o=>by
 rcases List.mem_append.mp hx with hx|hx
 ·exact List.mem_append_left _ (h x hx y o)
 ·exact List.mem_append_right _ (k x hx y o)
end
abbrev Pt:=Str×List Str
structure uC (f g:SR) (L:List Pt):Prop where
 ok: ∀p∈L,Prt f g p.1 p.2
 dis:L.Pairwise fun p q=> ∀x∈p.2,x∉q.2
structure Pts (f g:SR) (L:List Pt):Prop extends uC f g L where
 all: ∀x,((∃y,f x y)\/ ∃y,g x y)-> ∃p∈L,x∈p.2
section
variable {f g:SR} {L M:List Pt} {w:Wb} {P Q:List (Str×Str)}
theorem uC.sub (h:uC f g L) (s:List.Sublist M L):uC f g M:=⟨fun p hp=>h.ok p (s.subset hp),h.dis.sublist s⟩
theorem BI {p q:Pt} (h: ∀x∈p.2,x∉q.2): ∀x∈q.2,x∉p.2:=fun x a b=>h x b a
theorem uC.perm (h:uC f g L) (s:L.Perm M):uC f g M:=⟨fun p hp=>h.ok p (s.mem_iff.mpr hp),(List.Perm.pairwise_iff (R:=fun(p q:Pt)=> ∀x∈p.2,x∉q.2) (fun h=>BI h) s).mp h.dis⟩
theorem Pts.perm (h:Pts f g L) (s:L.Perm M):Pts f g M:=⟨h.touC.perm s,fun x hx=>by
 obtain⟨p,hp,q⟩:=h.all x hx
 exact⟨p,s.mem_iff.mp hp,q⟩⟩
theorem jE.DP {wd:Str} {cs:List Str} (h:jE f g wd cs):cs[0]'(by have:=h.two;omega)∈cs:=List.getElem_mem _
theorem jE.BJ {wd:Str} {cs:List Str} (h:jE f g wd cs):(∃y,f (cs[0]'(by have:=h.two;omega)) y)\/ ∃y,g (cs[0]'(by have:=h.two;omega)) y:=by
 have:=h.two
 rcases h.steps 0 (by omega) with q|q
 ·exact .inl ⟨_,q⟩
 ·exact .inr ⟨_,q⟩
def hdP (p:Pt):Str:=p.2.headD ""
theorem uD {p:Pt} (h:2<=p.2.length):hdP p=p.2[0]'(by omega):=by
 obtain⟨wd,cs⟩:=p
 cases cs with
 |nil=>simp at h
 |cons a l=>rfl
theorem uC.heads (h:uC f g L):(L.map hdP).Nodup:=by
 refine List.pairwise_map.mpr ((h.dis.imp_of_mem fun {p q} hp hq d e=> ?_))
 have h1:=(h.ok p hp).two
 have h2:=(h.ok q hq).two
 rw[uD h1,uD h2] at e
 have m:p.2[0]'(by omega)∈q.2:=by rw[e];exact List.getElem_mem _
 exact d _ (List.getElem_mem _) m
theorem Pts.BK (hf:jg f) (hg:jg g) (h:Pts f g L) (k:Pts g f M):L.length<=M.length:=by
 have:=List.Nodup.length_le_of_subset h.touC.heads (l₂:=M.map hdP) fun x hx=>by
  obtain⟨p,hp,e⟩:=List.mem_map.mp hx
  subst e
  have hk:=(h.ok p hp).tojE
  obtain⟨m,hm,mx⟩:=k.all _ hk.BJ.symm
  have km:=(k.ok m hm).tojE.swap
  obtain⟨_,e⟩:=hk.zE km (hk.BF km hf hg hk.DP mx)
  rw[uD hk.two,e,←uD km.two]
  exact List.mem_map_of_mem hm
 simpa using this
theorem Pts.len (hf:jg f) (hg:jg g) (h:Pts f g L) (k:Pts g f M):L.length=M.length:=
 Nat.le_antisymm (h.BK hf hg k) (k.BK hg hf h)
end
end Sw
namespace Sw
open PySem PySem.Spec PyProof.Rows L2
class gY (A:Type) [En A] [So A]:Prop where
 irr: ∀a:A,So.lt a a=false
 tr: ∀a b c:A,So.lt a b=true->So.lt b c=true->So.lt a c=true
 tri: ∀a b:A,So.lt a b=true\/a=b\/So.lt b a=true
instance linStr:gY Str where
 irr a:=decide_eq_false (cL a)
 tr a b c h g:=decide_eq_true (kc (of_decide_eq_true h) (of_decide_eq_true g))
 tri a b:=by
  rcases kF a b with h|h|h
  ·exact .inl (decide_eq_true h)
  ·exact .inr (.inl h)
  ·exact .inr (.inr (decide_eq_true h))
instance linInt:gY Int where
 irr a:=decide_eq_false (by omega)
 tr a b c h g:=decide_eq_true (by have:=of_decide_eq_true h;have:=of_decide_eq_true g;omega)
 tri a b:=by
  rcases Int.lt_trichotomy a b with h|h|h
  ·exact .inl (decide_eq_true h)
  ·exact .inr (.inl h)
  ·exact .inr (.inr (decide_eq_true h))
section
variable {A B:Type} [En A] [So A] [En B] [So B]
theorem uE {p:Prop} {d:Decidable p} {a b:Bool}:(@ite _ p d a b=true)↔(p/\a=true)\/(¬p/\b=true):=by
 cases d with
 |isTrue h=>rw[if_pos h];simp[h]
 |isFalse h=>rw[if_neg h];simp[h]
theorem pair_lt (p q:A×B):So.lt p q=true↔So.lt p.1 q.1=true/\p.1≠q.1\/p.1=q.1/\p.2≠q.2/\So.lt p.2 q.2=true:=by
 show (@ite _ (p.1=q.1) (So.dec p.1 q.1) (@ite _ (p.2=q.2) (So.dec p.2 q.2) false (So.lt p.2 q.2)) (So.lt p.1 q.1))=true↔_
 rw[uE,uE]
 constructor
 ·rintro (⟨h,⟨_,g⟩|⟨g,k⟩⟩|⟨h,g⟩)
  ·cases g
  ·exact .inr ⟨h,g,k⟩
  ·exact .inl ⟨g,h⟩
 ·rintro (⟨h,g⟩|⟨h,g,k⟩)
  ·exact .inr ⟨g,h⟩
  ·exact .inl ⟨h,.inr ⟨g,k⟩⟩
theorem kK [gY A] {a b:A} (h:So.lt a b=true):a≠b:=fun e=>by
 rw[e,gY.irr] at h;cases h
instance linPair [gY A] [gY B]:gY (A×B) where
 irr p:=Bool.eq_false_iff.mpr fun h=>by
  rcases (pair_lt p p).mp h with ⟨_,g⟩|⟨_,g,_⟩ <;> exact g rfl
 tr p q r h g:=by
  rw[pair_lt] at h g⊢
  rcases h with ⟨h,h'⟩|⟨h,h',h''⟩ <;> rcases g with ⟨g,g'⟩|⟨g,g',g''⟩
  ·have:=gY.tr _ _ _ h g;exact .inl ⟨this,kK this⟩
  ·rw[<-g];exact .inl ⟨h,h'⟩
  ·rw[h];exact .inl ⟨g,g'⟩
  ·have:=gY.tr _ _ _ h'' g'';exact .inr ⟨h.trans g,kK this,this⟩
 tri p q:=by
  rw[pair_lt,pair_lt]
  rcases gY.tri p.1 q.1 with h|h|h
  ·exact .inl (.inl ⟨h,kK h⟩)
  ·rcases gY.tri p.2 q.2 with g|g|g
   ·exact .inl (.inr ⟨h,kK g,g⟩)
   ·exact .inr (.inl (Prod.ext h g))
   ·exact .inr (.inr (.inr ⟨h.symm,kK g,g⟩))
  ·exact .inr (.inr (.inl ⟨h,kK h⟩))
theorem kL (a b:A) (xs ys:List A):lD (a::xs) (b::ys)=true↔(a=b/\lD xs ys=true)\/(a≠b/\So.lt a b=true):=uE
theorem tF [gY A]: ∀xs:List A,lD xs xs=false
 | []=>rfl
 |a::xs=>Bool.eq_false_iff.mpr fun h=>by
  rcases (kL a a xs xs).mp h with ⟨_,g⟩|⟨g,_⟩
  ·rw[tF xs] at g;cases g
  ·exact g rfl
theorem vQ [gY A]: ∀xs ys zs:List A,lD xs ys=true->lD ys zs=true->lD xs zs=true
 | [],[],_,h,_=>by cases h
 | [],_::_,[],_,g=>by cases g
 | [],_::_,_::_,_,_=>rfl
 |_::_,[],_,h,_=>by cases h
 |_::_,_::_,[],_,g=>by cases g
 |a::xs,b::ys,c::zs,h,g=>by
  rw[kL] at h g⊢
  rcases h with ⟨h,h'⟩|⟨h,h'⟩ <;> rcases g with ⟨g,g'⟩|⟨g,g'⟩
  ·exact .inl ⟨h.trans g,vQ xs ys zs h' g'⟩
  ·rw[h];exact .inr ⟨g,g'⟩
  ·rw[<-g];exact .inr ⟨h,h'⟩
  ·have:=gY.tr _ _ _ h' g';exact .inr ⟨kK this,this⟩
theorem tG [gY A]: ∀xs ys:List A,lD xs ys=true\/xs=ys\/lD ys xs=true
 | [],[]=>.inr (.inl rfl)
 | [],_::_=>.inl rfl
 |_::_,[]=>.inr (.inr rfl)
 |a::xs,b::ys=>by
  rw[kL,kL]
  rcases gY.tri a b with h|h|h
  ·exact .inl (.inr ⟨kK h,h⟩)
  ·rcases tG xs ys with g|g|g
   ·exact .inl (.inl ⟨h,g⟩)
   ·exact .inr (.inl (by rw[h,g]))
   ·exact .inr (.inr (.inl ⟨h.symm,g⟩))
  ·exact .inr (.inr (.inr ⟨kK h,h⟩))
instance linList [gY A]:gY (List A):=⟨tF,vQ,tG⟩
end
end Sw
namespace Sw
open PySem PySem.Spec PyProof.Rows L2
def Jz (c k:Int):Int:=
 let n:=(c%2147483647+7919*k+1)*48271%2147483647
 let m:=(n*n+k)%2147483629
 m*m%2147483587
def at2 (c:Int):Int:=Jz c 9%6
end Sw
namespace Sw
open PySem PySem.Spec PyProof.Rows L2
inductive F2 {α β:Type} (R:α->β->Prop):List α->List β->Prop where
 |nil:F2 R [] []
 |cons {a b xs ys}:R a b->F2 R xs ys->F2 R (a::xs) (b::ys)
def KM:Nat->aC->List Str->Prop
 |0,_,_=>False
 |_+1,.single c,ms=>ms=[c]
 |n+1,.group r _,ms=> ∃rs,F2 (KM n) r rs/\ms=m9 rs.flatten
structure Kt where
 k:aC
 b:Str
 ms:List Str
def nx (n j:Nat):Nat:=if j+1=n then 0 else j+1
def off (n p j:Nat):Nat:=if p<=j then j -p else j+n -p
theorem BL {n j:Nat} (h:j+1=n):nx n j=0:=if_pos h
theorem uF {n j:Nat} (h:j+1≠n):nx n j=j+1:=if_neg h
theorem gi {n p j:Nat} (h:p<=j):off n p j=j -p:=if_pos h
theorem jX {n p j:Nat} (h:j<p):off n p j=j+n -p:=if_neg (by omega)
theorem HJ {n j:Nat} (h:j<n):nx n j<n:=by unfold nx;split <;> omega
theorem xC {n p j:Nat} (hp:p<n) (h:j<n):off n p j<n:=by unfold off;split <;> omega
theorem BM {n p j:Nat} (hp:p<n) (h:j<n) (h1:off n p j+1<n):off n p (nx n j)=off n p j+1:=by
 by_cases e:j+1=n
 ·rw[BL e]
  by_cases l:p<=j
  ·rw[gi l] at h1⊢
   rw[jX (by omega)];omega
  ·omega
 ·rw[uF e]
  by_cases l:p<=j
  ·rw[gi l] at h1⊢
   rw[gi (by omega)];omega
  ·rw[jX (by omega)] at h1⊢
   by_cases l2:p<=j+1
   ·omega
   ·rw[jX (by omega)];omega
theorem BN {n p j:Nat} (hp:p<n) (h:j<n) (h1:0<off n p (nx n j)):off n p j+1=off n p (nx n j):=by
 by_cases e:j+1=n
 ·rw[BL e] at h1⊢
  by_cases l:p<=j
  ·rw[gi l]
   by_cases l0:p=0
   ·rw[gi (by omega)] at h1;omega
   ·rw[jX (by omega)];omega
  ·omega
 ·rw[uF e] at h1⊢
  by_cases l:p<=j
  ·rw[gi l,gi (by omega)];omega
  ·by_cases l2:p<=j+1
   ·rw[gi l2] at h1;omega
   ·rw[jX (by omega),jX (by omega)];omega
theorem yG {n p i j:Nat} (hp:p<n) (hi:i<n) (hj:j<n) (h:off n p i=off n p j):i=j:=by
 by_cases a:p<=i <;> by_cases b:p<=j
 ·rw[gi a,gi b] at h;omega
 ·rw[gi a,jX (by omega)] at h;omega
 ·rw[jX (by omega),gi b] at h;omega
 ·rw[jX (by omega),jX (by omega)] at h;omega
theorem tH (n p:Nat):off n p p=0:=by rw[gi (Nat.le_refl _)];omega
structure fN (m:Str->Option Str) (t:List Kt) (p:Nat) (l:List (Str×Str)):Prop where
 lead:p<t.length
 odd:t.length%2=1
 nd:(t.map (·.ms)).flatten.Nodup
 len:l.length=t.length
 link: ∀j x y a,j<t.length->t[j]? =some x->t[nx t.length j]? =some y->l[j]? =some a->(off t.length p j%2=1->a=(x.b,y.b)/\m x.b=some y.b/\m y.b=some x.b)/\a.1∈x.ms/\a.2∈y.ms
 three:3<=t.length
def KB (m:Str->Option Str):Nat->aC->Str->List Str->Prop
 |0,_,_,_=>False
 |_+1,.single c,b,ms=>b=c/\ms=[c]
 |n+1,.group r l,b,ms=> ∃(t:List Kt) (p:Nat),fN m t p l/\r=t.map (·.k)/\(∀x∈t,KB m n x.k x.b x.ms)/\ms=m9 (t.map (·.ms)).flatten/\t[p]?.map (·.b)=some b
def KL (L:List (Str×Str)):Nat->aC->Prop
 |0,_=>False
 |_+1,.single _=>True
 |n+1,.group r l=>(∀q∈l,q∈L)/\ ∀k∈r,KL L n k
theorem KL.up {L:List (Str×Str)}: ∀{n:Nat} {k:aC},KL L n k->KL L (n+1) k
 |0,_,h=>h.elim
 |n+1,.single c,h=>h
 |n+1,.group r l,h=>⟨h.1,fun k hk=>(h.2 k hk).up⟩
theorem KL.sub {L L':List (Str×Str)} (s: ∀q∈L,q∈L'): ∀{n:Nat} {k:aC},KL L n k->KL L' n k
 |0,_,h=>h.elim
 |n+1,.single c,h=>h
 |n+1,.group r l,h=>⟨fun q hq=>s q (h.1 q hq),fun k hk=>(h.2 k hk).sub s⟩
theorem pY {α β:Type} {R S:α->β->Prop} (h: ∀a b,R a b->S a b): ∀{xs:List α} {ys:List β},F2 R xs ys->F2 S xs ys
 |_,_,.nil=>.nil
 |_,_,.cons a r=>.cons (h _ _ a) (pY h r)
theorem KM.up: ∀{n:Nat} {k:aC} {ms:List Str},KM n k ms->KM (n+1) k ms
 |0,_,_,h=>h.elim
 |n+1,.single c,_,h=>h
 |n+1,.group r l,_,⟨rs,h1,h2⟩=>⟨rs,pY (fun _ _=>KM.up) h1,h2⟩
theorem KB.up {m:Str->Option Str}: ∀{n:Nat} {k:aC} {b:Str} {ms:List Str},KB m n k b ms->KB m (n+1) k b ms
 |0,_,_,_,h=>h.elim
 |n+1,.single c,_,_,h=>h
 |n+1,.group r l,_,_,⟨t,p,h1,h2,h3,h4⟩=>⟨t,p,h1,h2,fun x hx=>(h3 x hx).up,h4⟩
theorem KB.mono {m:Str->Option Str} {n N:Nat} {k:aC} {b:Str} {ms:List Str} (h:KB m n k b ms) (e:n<=N):KB m N k b ms:=by
 induction e with
 |refl=>exact h
 |step _ ih=>exact ih.up
theorem oq {α β γ:Type} {R:β->γ->Prop} {f:α->β} {g:α->γ}: ∀{xs:List α},(∀x∈xs,R (f x) (g x))->F2 R (xs.map f) (xs.map g)
 | [],_=>.nil
 |x::xs,h=>.cons (h x List.mem_cons_self) (oq fun y hy=>h y (List.mem_cons_of_mem _ hy))
theorem KB.km {m:Str->Option Str}: ∀{n:Nat} {k:aC} {b:Str} {ms:List Str},KB m n k b ms->KM n k ms
 |0,_,_,_,h=>h.elim
 |n+1,.single c,_,_,h=>h.2
 |n+1,.group r l,_,_,⟨t,p,h1,h2,h3,h4,_⟩=>⟨t.map (·.ms),h2▸oq fun x hx=>(h3 x hx).km,h4⟩
theorem bT {t:List Kt} {c:Str}:c∈(t.map (·.ms)).flatten↔ ∃x∈t,c∈x.ms:=by
 rw[List.mem_flatten]
 constructor
 ·rintro⟨l,h1,h2⟩
  obtain⟨x,hx,rfl⟩:=List.mem_map.mp h1
  exact⟨x,hx,h2⟩
 ·rintro⟨x,hx,h⟩
  exact⟨x.ms,List.mem_map_of_mem hx,h⟩
theorem dO {t:List Kt} (nd:(t.map (·.ms)).flatten.Nodup) {i j:Nat} {x y:Kt} (hx:t[i]? =some x) (hy:t[j]? =some y) {c:Str} (h1:c∈x.ms) (h2:c∈y.ms):i=j:=by
 induction t generalizing i j with
 |nil=>cases hx
 |cons z t ih=>
  rw[List.map_cons,List.flatten_cons,List.nodup_append] at nd
  obtain⟨n1,n2,n3⟩:=nd
  cases i with
  |zero=>
   cases j with
   |zero=>rfl
   |succ j=>
    cases hx
    exact absurd rfl (n3 c h1 c (bT.mpr ⟨y,List.mem_of_getElem? hy,h2⟩))
  |succ i=>
   cases j with
   |zero=>
    cases hy
    exact absurd rfl (n3 c h2 c (bT.mpr ⟨x,List.mem_of_getElem? hx,h1⟩))
   |succ j=>rw[ih n2 hx hy]
section
variable {m m':Str->Option Str} {n:Nat} {k:aC} {b c:Str} {ms:List Str}
theorem KB.base: ∀{n:Nat} {k:aC} {b:Str} {ms:List Str},KB m n k b ms->b∈ms
 |0,_,_,_,h=>h.elim
 |n+1,.single c,_,_,h=>by rw[h.1,h.2];exact List.mem_singleton_self _
 |n+1,.group r l,b,_,⟨t,p,h1,h2,h3,h4,h5⟩=>by
  subst h4
  obtain⟨x,e1,e2⟩:=Option.map_eq_some_iff.mp h5
  have hx:=List.mem_of_getElem? e1
  rw[(aQ _).mem_iff,bT]
  exact⟨x,hx,e2▸(h3 x hx).base⟩
theorem KB.rise: ∀{n:Nat} {k:aC} {b:Str} {ms:List Str},KB m n k b ms->ms.Pairwise bS
 |0,_,_,_,h=>h.elim
 |n+1,.single c,_,_,h=>by rw[h.2];exact List.pairwise_singleton _ _
 |n+1,.group r l,b,_,⟨t,p,h1,h2,h3,h4,h5⟩=>h4▸uz h1.nd
theorem KB.nodup (h:KB m n k b ms):ms.Nodup:=List.nodup_iff_pairwise_ne.mpr (h.rise.imp fun {a b} l (e:a=b)=>cL a (by subst e;exact l))
theorem fN.at_ {t:List Kt} {p:Nat} {l:List (Str×Str)} (h:fN m t p l) {j:Nat} (hj:j<t.length): ∃x y a,t[j]? =some x/\t[nx t.length j]? =some y/\l[j]? =some a:=
 ⟨_,_,_,List.getElem?_eq_getElem hj,List.getElem?_eq_getElem (HJ hj),List.getElem?_eq_getElem (by rw[h.len];exact hj)⟩
theorem fN.zF {t:List Kt} {p:Nat} {l:List (Str×Str)} (h:fN m t p l) {j:Nat} {x:Kt} (hj:t[j]? =some x) (hp:j≠p): ∃(i:Nat) (y:Kt),t[i]? =some y/\m x.b=some y.b:=by
 have jl:j<t.length:=(List.getElem?_eq_some_iff.mp hj).1
 have pl:=h.lead
 by_cases o:off t.length p j%2=1
 ·obtain⟨x',y,a,e1,e2,e3⟩:=h.at_ jl
  rw[hj] at e1;cases e1
  exact⟨_,y,e2,((h.link j x y a jl hj e2 e3).1 o).2.1⟩
 ·have o0:0<off t.length p j:=by
   rcases Nat.eq_zero_or_pos (off t.length p j) with e|e
   ·exact absurd (yG pl jl pl (e.trans (tH _ _).symm)) hp
   ·exact e
  have ol:=xC pl jl
  obtain⟨i,hi,e⟩: ∃i,i<t.length/\nx t.length i=j:=by
   by_cases j0:j=0
   ·exact⟨t.length -1,by omega,by unfold nx;rw[if_pos (by omega)];exact j0.symm⟩
   ·exact⟨j -1,by omega,by unfold nx;rw[if_neg (by omega)];omega⟩
  have oi:off t.length p i+1=off t.length p j:=by
   subst e
   exact BN pl hi o0
  obtain⟨x',y,a,e1,e2,e3⟩:=h.at_ hi
  rw[e,hj] at e2;cases e2
  exact⟨i,x',e1,((h.link i x' x a hi e1 (e▸hj) e3).1 (by omega)).2.2⟩
theorem KB.zF: ∀{n:Nat} {k:aC} {b:Str} {ms:List Str},KB m n k b ms-> ∀c∈ms,c≠b-> ∃d∈ms,m c=some d
 |0,_,_,_,h,_,_,_=>h.elim
 |n+1,.single c,_,_,h,d,hd,ne=>by
  rw[h.2] at hd
  exact absurd ((List.mem_singleton.mp hd).trans h.1.symm) ne
 |n+1,.group r l,b,_,⟨t,p,h1,h2,h3,h4,h5⟩,c,hc,ne=>by
  subst h4
  rw[(aQ _).mem_iff,bT] at hc
  obtain⟨x,hx,cx⟩:=hc
  by_cases e:c=x.b
  ·obtain⟨j,hj⟩:=List.getElem?_of_mem hx
   have jp:j≠p:=fun e2=>ne (by
    subst e2
    rw[hj] at h5
    exact e.trans (Option.some.inj h5))
   obtain⟨i,y,hy,my⟩:=h1.zF hj jp
   refine⟨y.b,?_,e▸my⟩
   rw[(aQ _).mem_iff,bT]
   exact⟨y,List.mem_of_getElem? hy,(h3 y (List.mem_of_getElem? hy)).base⟩
  ·obtain⟨d,hd,md⟩:=(h3 x hx).zF c cx e
   refine⟨d,?_,md⟩
   rw[(aQ _).mem_iff,bT]
   exact⟨x,hx,hd⟩
theorem KB.congr: ∀{n:Nat} {k:aC} {b:Str} {ms:List Str},KB m n k b ms->(∀c∈ms,c≠b->m' c=m c)->KB m' n k b ms
 |0,_,_,_,h,_=>h.elim
 |n+1,.single c,_,_,h,_=>h
 |n+1,.group r l,b,_,⟨t,p,h1,h2,h3,h4,h5⟩,he=>by
  subst h4
  obtain⟨z,z1,z2⟩:=Option.map_eq_some_iff.mp h5
  have hs: ∀x∈t,∀c∈x.ms,c≠b->m' c=m c:=fun x hx c hc ne=>he c (by rw[(aQ _).mem_iff,bT];exact⟨x,hx,hc⟩) ne
  have nb: ∀j x,t[j]? =some x->j≠p->b∉x.ms:=fun j x hj jp hb=>jp (dO h1.nd hj z1 hb (z2▸(h3 z (List.mem_of_getElem? z1)).base))
  refine⟨t,p,⟨h1.lead,h1.odd,h1.nd,h1.len,fun j x y a hj hx hy ha=>⟨fun o=> ?_,(h1.link j x y a hj hx hy ha).2⟩,h1.three⟩,h2,fun x hx=>(h3 x hx).congr fun c hc ne=> ?_,rfl,h5⟩
  ·obtain⟨e1,e2,e3⟩:=(h1.link j x y a hj hx hy ha).1 o
   have ol:=xC h1.lead hj
   have odd:=h1.odd
   have o1:=BM h1.lead hj (by omega)
   have jx:j≠p:=fun e=>by rw[e,tH] at o;omega
   have jy:nx t.length j≠p:=fun e=>by rw[e,tH] at o1;omega
   have bx:=(h3 x (List.mem_of_getElem? hx)).base
   have by':=(h3 y (List.mem_of_getElem? hy)).base
   refine⟨e1,?_,?_⟩
   ·rw[hs x (List.mem_of_getElem? hx) _ bx fun e=>nb j x hx jx (e▸bx)];exact e2
   ·rw[hs y (List.mem_of_getElem? hy) _ by' fun e=>nb _ y hy jy (e▸by')];exact e3
  ·by_cases e:c=b
   ·obtain⟨j,hj⟩:=List.getElem?_of_mem hx
    by_cases jp:j=p
    ·subst jp
     rw[hj] at z1;cases z1
     exact absurd (e.trans z2.symm) ne
    ·exact absurd (e▸hc) (nb j x hj jp)
   ·exact hs x hx c hc e
end
end Sw
namespace Sw
open PySem PySem.Spec PyProof.Rows L2
def gK (u:Sd RV):aC:=match aD u.l "knot" with
 |some (.k x)=>x
 |_=>.single ""
def gB (u:Sd RV):Str:=match aD u.l "base" with
 |some (.s x)=>x
 |_=>""
def gM (u:Sd RV):List Str:=match aD u.l "all" with
 |some (.ls x)=>x
 |_=>[]
def kt (u:Sd RV):Kt:=⟨gK u,gB u,gM u⟩
def hf (ms:List Str):Nat:=(ms.length+1)/2
theorem rT: ∀{t:List (List Str)},(∀y∈t,1<=y.length)->t.length<=t.flatten.length
 | [],_=>Nat.le_refl _
 |y::t,h=>by
  rw[List.flatten_cons,List.length_append,List.length_cons]
  have:=h y List.mem_cons_self
  have:=rT (t:=t) fun z hz=>h z (List.mem_cons_of_mem _ hz)
  omega
theorem tI {x:List Str}: ∀{t:List (List Str)},(∀y∈t,1<=y.length)->x∈t->x.length+t.length<=t.flatten.length+1
 |y::t,h,hx=>by
  rw[List.flatten_cons,List.length_append,List.length_cons]
  have h1:=h y List.mem_cons_self
  have h2:=rT (t:=t) fun z hz=>h z (List.mem_cons_of_mem _ hz)
  rcases List.mem_cons.mp hx with rfl|hx
  ·omega
  ·have:=tI (t:=t) (fun z hz=>h z (List.mem_cons_of_mem _ hz)) hx
   omega
end Sw
namespace Sw
open PySem PySem.Spec PyProof.Rows L2
def Alt (X Y:SR):List Str->Prop
 | []=>True
 | [_]=>True
 |a::b::r=>X a b/\Alt Y X (b::r)
section
variable {X Y:SR}
theorem Alt.app: ∀(n:Nat) {r s:List Str} {a b:Str},r.length<=n->r.length%2=1->Alt X Y r->r.getLast? =some a->s.head? =some b->X a b->Alt Y X s->Alt X Y (r++s)
 |n,[],_,_,_,_,h,_,_,_,_,_=>by simp at h
 |n,[x],[],_,_,_,_,_,_,h,_,_=>by cases h
 |n,[x],y::s,a,b,_,_,_,h1,h2,h3,h4=>by cases h1;cases h2;exact⟨h3,h4⟩
 |n,[x,y],_,_,_,_,h,_,_,_,_,_=>by simp at h
 |0,x::y::z::r,_,_,_,h,_,_,_,_,_,_=>by simp at h
 |n+1,x::y::z::r,s,a,b,hn,ho,hr,h1,h2,h3,h4=>by
  refine⟨hr.1,hr.2.1,?_⟩
  exact Alt.app n (r:=z::r) (by simp at hn ⊢; omega) (by simp at ho ⊢; omega) hr.2.2 (by rw[<-h1];simp[List.getLast?_cons_cons]) h2 h3 h4
theorem Alt.rev (hX: ∀a b,X a b->X b a) (hY: ∀a b,Y a b->Y b a): ∀(n:Nat) {r:List Str},r.length<=n->r.length%2=1->Alt X Y r->Alt Y X r.reverse
 |n,[],_,h,_=>by simp at h
 |n,[x],_,_,_=>trivial
 |n,[x,y],_,h,_=>by simp at h
 |0,x::y::z::r,h,_,_=>by simp at h
 |n+1,x::y::z::r,hn,ho,hr=>by
  have ih:=Alt.rev hX hY n (r:=z::r) (by simp at hn ⊢; omega) (by simp at ho ⊢; omega) hr.2.2
  rw[show (x::y::z::r).reverse=(z::r).reverse++[y,x] by simp]
  exact Alt.app _ (Nat.le_refl _) (by simp at ho ⊢; omega) ih (a:=z) (by simp) (b:=y) rfl (hY _ _ hr.2.1) ⟨hX _ _ hr.1,trivial⟩
theorem Alt.at_: ∀{r:List Str},Alt X Y r-> ∀i (h:i+1<r.length),if i%2=0 then X (r[i]'(by omega)) r[i+1] else Y (r[i]'(by omega)) r[i+1]:=fun {r}=>by
 have key: ∀(r:List Str) (X Y:SR),Alt X Y r-> ∀i (h:i+1<r.length),(i%2=0->X (r[i]'(by omega)) r[i+1])/\(i%2=1->Y (r[i]'(by omega)) r[i+1]):=by
  intro r
  induction r with
  |nil=>intro X Y _ i h;simp at h
  |cons a r ih=>
   intro X Y hr i h
   cases r with
   |nil=>simp at h
   |cons b r=>
    cases i with
    |zero=>exact⟨fun _=>hr.1,fun e=>by omega⟩
    |succ i=>
     have:=ih Y X hr.2 i (by simpa using h)
     exact⟨fun e=>this.2 (by omega),fun e=>this.1 (by omega)⟩
 intro hr i h
 split
 ·rename_i e;exact (key r X Y hr i h).1 e
 ·exact (key r X Y hr i h).2 (by omega)
end
def E0 (m:Str->Option Str):SR:=fun a b=>m a=some b/\m b=some a
def E1 (m:Str->Option Str) (L:List (Str×Str)):SR:=fun a b=>((a,b)∈L\/(b,a)∈L)/\m a≠some b/\m b≠some a
theorem E0.symm {m:Str->Option Str} (a b:Str) (h:E0 m a b):E0 m b a:=⟨h.2,h.1⟩
theorem E1.symm {m:Str->Option Str} {L:List (Str×Str)} (a b:Str) (h:E1 m L a b):E1 m L b a:=⟨h.1.symm,h.2.2,h.2.1⟩
structure Led (m:Str->Option Str) (L:List (Str×Str)) (ms:List Str) (c b:Str) (row:List Str):Prop where
 odd:row.length%2=1
 head:row.head? =some c
 last:row.getLast? =some b
 nd:row.Nodup
 inn: ∀x∈row,x∈ms
 alt:Alt (E0 m) (E1 m L) row
structure Part (m:Str->Option Str) (L:List (Str×Str)) (t:List Kt) (w:Nat->Nat) (c:Str) (k:Nat) (row:List Str):Prop where
 odd:row.length%2=1
 head:row.head? =some c
 last: ∃x,t[w k]? =some x/\row.getLast? =some x.b
 nd:row.Nodup
 inn: ∀x∈row,∃j y,k<=j/\j<t.length/\t[w j]? =some y/\x∈y.ms
 alt:Alt (E0 m) (E1 m L) row
section
variable {m:Str->Option Str} {L:List (Str×Str)} {t:List Kt} {w:Nat->Nat} {c:Str} {k:Nat} {row r1 r2:List Str}
theorem Led.single (c:Str):Led m L [c] c c [c]:=⟨rfl,rfl,rfl,by simp,fun x h=>h,trivial⟩
theorem Part.step (nd:(t.map (·.ms)).flatten.Nodup) (wi: ∀i j,i<t.length->j<t.length->w i=w j->i=j) (hk:k+2<t.length) (h:Part m L t w c (k+2) row) {x y z:Kt} (hx:t[w (k+2)]? =some x) (hy:t[w (k+1)]? =some y) (hz:t[w k]? =some z) (e0:E0 m x.b y.b) {l e:Str} (e1:E1 m L l e) (h1:Led m L y.ms l y.b r1) (h2:Led m L z.ms e z.b r2):Part m L t w c k (row++r1.reverse++r2):=by
 have dis: ∀{i j:Nat} {u v:Kt},t[w i]? =some u->t[w j]? =some v->i<t.length->j<t.length-> ∀{a:Str},a∈u.ms->a∈v.ms->i=j:=fun {i j u v} hu hv hi hj {a} ha hb=>wi _ _ hi hj (dO nd hu hv ha hb)
 have o1:=h.odd
 have o2:=h1.odd
 have o3:=h2.odd
 have n0:row≠[]:=fun e=>by rw[e] at o1;simp at o1
 have n1:r1≠[]:=fun e=>by rw[e] at o2;simp at o2
 have n2:r2≠[]:=fun e=>by rw[e] at o3;simp at o3
 refine⟨by simp;omega,?_,⟨z,hz,?_⟩,?_,fun a ha=> ?_,?_⟩
 ·rw[List.append_assoc,List.head?_append,h.head];rfl
 ·rw[List.getLast?_append,h2.last];rfl
 ·rw[List.nodup_append,List.nodup_append]
  refine⟨⟨h.nd,(List.reverse_perm r1).nodup_iff.mpr h1.nd,fun a ha b hb e=> ?_⟩,h2.nd,fun a ha b hb e=> ?_⟩
  ·subst e
   obtain⟨j,v,j1,j2,j3,j4⟩:=h.inn a ha
   have:=dis j3 hy j2 (by omega) j4 (h1.inn a (List.mem_reverse.mp hb))
   omega
  ·subst e
   rcases List.mem_append.mp ha with ha|ha
   ·obtain⟨j,v,j1,j2,j3,j4⟩:=h.inn a ha
    have:=dis j3 hz j2 (by omega) j4 (h2.inn a hb)
    omega
   ·have:=dis hy hz (by omega) (by omega) (h1.inn a (List.mem_reverse.mp ha)) (h2.inn a hb)
    omega
 ·rcases List.mem_append.mp ha with ha|ha
  ·rcases List.mem_append.mp ha with ha|ha
   ·obtain⟨j,v,j1,j2,j3,j4⟩:=h.inn a ha
    exact⟨j,v,by omega,j2,j3,j4⟩
   ·exact⟨k+1,y,by omega,by omega,hy,h1.inn a (List.mem_reverse.mp ha)⟩
  ·exact⟨k,z,Nat.le_refl _,by omega,hz,h2.inn a ha⟩
 ·obtain⟨x',hx',lx⟩:=h.last
  rw[hx] at hx';cases hx'
  rw[List.append_assoc]
  refine Alt.app _ (Nat.le_refl _) o1 h.alt lx (b:=y.b) ?_ e0 ?_
  ·rw[List.head?_append,List.head?_reverse,h1.last];rfl
  ·exact Alt.app _ (Nat.le_refl _) (by rw[List.length_reverse];exact o2) (h1.alt.rev E0.symm E1.symm _ (Nat.le_refl _) o2) (a:=l) (by rw[List.getLast?_reverse];exact h1.head) h2.head e1 h2.alt
theorem Led.part (hk:k<t.length) {x:Kt} (hx:t[w k]? =some x) (h:Led m L x.ms c x.b row):Part m L t w c k row:=
 ⟨h.odd,h.head,⟨x,hx,h.last⟩,h.nd,fun a ha=>⟨k,x,Nat.le_refl _,hk,hx,h.inn a ha⟩,h.alt⟩
theorem Part.led {ms:List Str} {b:Str} (hm: ∀a,a∈ms↔ ∃x∈t,a∈x.ms) (hb:t[w 0]?.map (·.b)=some b) (h:Part m L t w c 0 row):Led m L ms c b row:=by
 obtain⟨x,hx,l⟩:=h.last
 rw[hx] at hb
 refine⟨h.odd,h.head,?_,h.nd,fun a ha=> ?_,h.alt⟩
 ·rw[l];exact hb
 ·obtain⟨j,v,_,_,j3,j4⟩:=h.inn a ha
  exact (hm a).mpr ⟨v,List.mem_of_getElem? j3,j4⟩
theorem fN.ou {p:Nat} {l:List (Str×Str)} (h:fN m t p l) {j:Nat} {x:Kt} (hj:t[j]? =some x) (hp:j≠p): ∃(i:Nat) (y:Kt),t[i]? =some y/\E0 m x.b y.b/\((off t.length p j%2=1/\i=nx t.length j)\/(off t.length p i%2=1/\j=nx t.length i)):=by
 have jl:j<t.length:=(List.getElem?_eq_some_iff.mp hj).1
 have pl:=h.lead
 by_cases o:off t.length p j%2=1
 ·obtain⟨x',y,a,e1,e2,e3⟩:=h.at_ jl
  rw[hj] at e1;cases e1
  exact⟨_,y,e2,((h.link j x y a jl hj e2 e3).1 o).2,.inl ⟨o,rfl⟩⟩
 ·have o0:0<off t.length p j:=by
   rcases Nat.eq_zero_or_pos (off t.length p j) with e|e
   ·exact absurd (yG pl jl pl (e.trans (tH _ _).symm)) hp
   ·exact e
  obtain⟨i,hi,e⟩: ∃i,i<t.length/\nx t.length i=j:=by
   by_cases j0:j=0
   ·exact⟨t.length -1,by omega,by unfold nx;rw[if_pos (by omega)];exact j0.symm⟩
   ·exact⟨j -1,by omega,by unfold nx;rw[if_neg (by omega)];omega⟩
  have oi:off t.length p i+1=off t.length p j:=by
   subst e
   exact BN pl hi o0
  obtain⟨x',y,a,e1,e2,e3⟩:=h.at_ hi
  rw[e,hj] at e2;cases e2
  have q:=((h.link i x' x a hi e1 (e▸hj) e3).1 (by omega)).2
  exact⟨i,x',e1,⟨q.2,q.1⟩,.inr ⟨by omega,e.symm⟩⟩
theorem fN.vR {p n:Nat} {l:List (Str×Str)} (h:fN m t p l) (hk: ∀x∈t,KB m n x.k x.b x.ms) (hb: ∀x,t[p]? =some x->m x.b=none\/ ∃d,m x.b=some d/\ ∀y∈t,d∉y.ms) {i j:Nat} {x y:Kt} (hi:t[i]? =some x) (hj:t[j]? =some y) (ij:i≠j) {a c:Str} (ha:a∈x.ms) (hc:c∈y.ms) (e:m a=some c):(off t.length p i%2=1/\j=nx t.length i)\/(off t.length p j%2=1/\i=nx t.length j):=by
 have ab:a=x.b:=by
  refine Classical.byContradiction fun ne=> ?_
  obtain⟨d,hd,e2⟩:=(hk x (List.mem_of_getElem? hi)).zF a ha ne
  rw[e] at e2;cases e2
  exact ij (dO h.nd hi hj hd hc)
 subst ab
 by_cases ip:i=p
 ·subst ip
  rcases hb x hi with q|⟨d,q,hd⟩
  ·rw[e] at q;cases q
  ·rw[e] at q;cases q
   exact absurd hc (hd y (List.mem_of_getElem? hj))
 ·obtain⟨i',y',h1,h2,h3⟩:=h.ou hi ip
  rw[h2.1] at e;cases e
  have:=dO h.nd h1 hj (hk y' (List.mem_of_getElem? h1)).base hc
  subst this
  rcases h3 with ⟨a,b⟩|⟨a,b⟩
  ·exact .inl ⟨a,b⟩
  ·exact .inr ⟨a,b⟩
theorem fN.apart {p n:Nat} {l:List (Str×Str)} (h:fN m t p l) (h3:3<=t.length) (hk: ∀x∈t,KB m n x.k x.b x.ms) (hb: ∀x,t[p]? =some x->m x.b=none\/ ∃d,m x.b=some d/\ ∀y∈t,d∉y.ms) {j:Nat} (jl:j<t.length) (o:off t.length p j%2=0) {x y:Kt} (hx:t[j]? =some x) (hy:t[nx t.length j]? =some y) {q:Str×Str} (hq:l[j]? =some q) (hL:q∈L):E1 m L q.1 q.2/\q.1∈x.ms/\q.2∈y.ms:=by
 obtain⟨_,q1,q2⟩:=h.link j x y q jl hx hy hq
 have nn:j≠nx t.length j:=by
  unfold nx;split <;> omega
 have n2:j≠nx t.length (nx t.length j):=by
  by_cases e:j+1=t.length
  ·rw[BL e,uF (by omega)];omega
  ·rw[uF e]
   by_cases e2:j+1+1=t.length
   ·rw[BL e2];omega
   ·rw[uF e2];omega
 refine⟨⟨.inl hL,fun e=> ?_,fun e=> ?_⟩,q1,q2⟩
 ·rcases h.vR hk hb hx hy nn q1 q2 e with ⟨a,_⟩|⟨a,b⟩
  ·omega
  ·exact n2 b
 ·rcases h.vR hk hb hy hx (Ne.symm nn) q2 q1 e with ⟨a,b⟩|⟨a,_⟩
  ·exact n2 b
  ·omega
end
end Sw
namespace Sw
open PySem PySem.Spec PyProof.Rows L2
section
variable {m m':Str->Option Str} {n:Nat} {k:aC} {b c:Str} {ms:List Str}
theorem KB.ou: ∀{n:Nat} {k:aC} {b:Str} {ms:List Str},KB m n k b ms-> ∀c∈ms,c≠b-> ∃d∈ms,d≠b/\m c=some d
 |0,_,_,_,h,_,_,_=>h.elim
 |n+1,.single c,_,_,h,d,hd,ne=>by
  rw[h.2] at hd
  exact absurd ((List.mem_singleton.mp hd).trans h.1.symm) ne
 |n+1,.group r l,b,_,⟨t,p,h1,h2,h3,h4,h5⟩,c,hc,ne=>by
  subst h4
  rw[(aQ _).mem_iff,bT] at hc
  obtain⟨x,hx,cx⟩:=hc
  obtain⟨j,hj⟩:=List.getElem?_of_mem hx
  obtain⟨z,z1,z2⟩:=Option.map_eq_some_iff.mp h5
  have bz:b∈z.ms:=z2▸(h3 z (List.mem_of_getElem? z1)).base
  by_cases e:c=x.b
  ·have jp:j≠p:=fun e2=>ne (by
    subst e2
    rw[hj] at h5
    exact e.trans (Option.some.inj h5))
   obtain⟨i,y,hy,my,hr⟩:=h1.ou hj jp
   have by':=(h3 y (List.mem_of_getElem? hy)).base
   refine⟨y.b,?_,fun e2=> ?_,e▸my.1⟩
   ·rw[(aQ _).mem_iff,bT]
    exact⟨y,List.mem_of_getElem? hy,by'⟩
   ·have ip:=dO h1.nd hy z1 by' (e2▸bz)
    subst ip
    have jl:=(List.getElem?_eq_some_iff.mp hj).1
    have pl:=h1.lead
    rcases hr with ⟨o,e3⟩|⟨o,e3⟩
    ·have:=xC pl jl
     have odd:=h1.odd
     have o2:=BM pl jl (by omega)
     rw[<-e3,tH] at o2;omega
    ·rw[tH] at o;omega
  ·obtain⟨d,hd,d1,md⟩:=(h3 x hx).ou c cx e
   refine⟨d,?_,fun e2=> ?_,md⟩
   ·rw[(aQ _).mem_iff,bT]
    exact⟨x,hx,hd⟩
   ·have jp:=dO h1.nd hj z1 hd (e2▸bz)
    subst jp
    rw[hj] at z1;cases z1
    exact d1 (e2.trans z2.symm)
end
structure fO (ns:List Str) (L:List (Str×Str)) (M:Str->Option Str):Prop where
 sym: ∀a b,M a=some b->M b=some a
 inn: ∀a b,M a=some b->a∈ns
 edge: ∀a b,M a=some b->(a,b)∈L
theorem fO.inj {ns:List Str} {L:List (Str×Str)} {M:Str->Option Str} (h:fO ns L M) {a b c:Str} (h1:M a=some c) (h2:M b=some c):a=b:=by
 have e1:=h.sym _ _ h1
 rw[h.sym _ _ h2] at e1
 exact (Option.some.inj e1).symm
def nmK (x:Kt):Str:=x.ms.headD ""
structure eM (ns:List Str) (L:List (Str×Str)) (M:Str->Option Str) (ks:List Kt):Prop where
 perm:(ks.map (·.ms)).flatten.Perm ns
 kb: ∀x∈ks,KB M (hf x.ms) x.k x.b x.ms
 kl: ∀x∈ks,KL L (hf x.ms) x.k
section
variable {ns:List Str} {L:List (Str×Str)} {M:Str->Option Str} {ks:List Kt} {x y z:Kt} {a c d:Str}
theorem eM.nd (h:eM ns L M ks) (hn:ns.Nodup):(ks.map (·.ms)).flatten.Nodup:=h.perm.nodup_iff.mpr hn
theorem eM.one (h:eM ns L M ks) (hn:ns.Nodup) (hx:x∈ks) (hy:y∈ks) (h1:c∈x.ms) (h2:c∈y.ms):x=y:=by
 obtain⟨i,hi⟩:=List.getElem?_of_mem hx
 obtain⟨j,hj⟩:=List.getElem?_of_mem hy
 have:=dO (h.nd hn) hi hj h1 h2
 subst this
 rw[hi] at hj
 exact Option.some.inj hj
theorem eM.has (h:eM ns L M ks) (hc:c∈ns): ∃x∈ks,c∈x.ms:=bT.mp (h.perm.mem_iff.mpr hc)
theorem eM.inn (h:eM ns L M ks) (hx:x∈ks) (hc:c∈x.ms):c∈ns:=h.perm.mem_iff.mp (bT.mpr ⟨x,hx,hc⟩)
theorem FY {m:Str->Option Str} {n:Nat} {k:aC} {b:Str} {ms:List Str} (h:KB m n k b ms):ms.headD "" ∈ms:=by
 have:=h.base
 cases ms with
 |nil=>cases this
 |cons a r=>exact List.mem_cons_self
theorem eM.nm (h:eM ns L M ks) (hx:x∈ks):nmK x∈x.ms:=FY (h.kb x hx)
theorem eM.FZ (h:eM ns L M ks) (hn:ns.Nodup) (hx:x∈ks) (hy:y∈ks) (e:nmK x=nmK y):x=y:=h.one hn hx hy (h.nm hx) (e▸h.nm hy)
theorem eM.yH (h:eM ns L M ks) (hn:ns.Nodup) (hx:x∈ks) (hy:y∈ks) (e:x.b=y.b):x=y:=h.one hn hx hy (h.kb x hx).base (e▸(h.kb y hy).base)
theorem eM.vR (h:eM ns L M ks) (hn:ns.Nodup) (hM:fO ns L M) (hx:x∈ks) (hy:y∈ks) (ne:x≠y) (ha:a∈x.ms) (hc:c∈y.ms) (e:M a=some c):a=x.b/\c=y.b:=by
 constructor
 ·refine Classical.byContradiction fun q=> ?_
  obtain⟨d,hd,_,e2⟩:=(h.kb x hx).ou a ha q
  rw[e] at e2;cases e2
  exact ne (h.one hn hx hy hd hc)
 ·refine Classical.byContradiction fun q=> ?_
  obtain⟨d,hd,_,e2⟩:=(h.kb y hy).ou c hc q
  rw[hM.sym _ _ e] at e2;cases e2
  exact ne (h.one hn hx hy ha hd)
theorem eM.out (h:eM ns L M ks) (hn:ns.Nodup) (hM:fO ns L M) (hx:x∈ks) (e:M x.b=some d) (irr: ∀a,M a≠some a): ∃y∈ks,y≠x/\d=y.b:=by
 obtain⟨y,hy,hd⟩:=h.has (hM.inn _ _ (hM.sym _ _ e))
 have ne:y≠x:=fun q=>by
  subst q
  have:d≠y.b:=fun z=>irr _ (z▸e)
  obtain⟨g,hg,g2,e2⟩:=(h.kb y hy).ou d hd this
  rw[hM.sym _ _ e] at e2;cases e2
  exact g2 rfl
 exact⟨y,hy,ne,(h.vR hn hM hx hy (Ne.symm ne) (h.kb x hx).base hd e).2⟩
theorem eM.len (h:eM ns L M ks) (hx:x∈ks):x.ms.length<=ns.length:=by
 have:=ka (h.kb x hx).nodup fun a ha=>h.inn hx ha
 exact this
end
structure SI (ns:List Str) (L:List (Str×Str)) (o:aP) (ks:List Kt) (lv:Str->Nat) (rt:Str->Str):Prop where
 tops:eM ns L (aD o.mates.l) ks
 top: ∀x∈ks,∀c∈x.ms,aD o.top.l c=some x.k
 tk:(o.top.l.map (·.1)).Perm ns
 rk: ∀n r,aD o.roots.l n=some r-> ∃z∈ks,nmK z=n/\r=rt n
 ok: ∀n q,aD o.reached.l n=some q-> ∃x∈ks,nmK x=n
 rnd:(o.roots.l.map (·.1)).Nodup
 ond:(o.reached.l.map (·.1)).Nodup
 BO: ∀z∈ks,(aD o.roots.l (nmK z)).isSome=true->(aD o.mates.l z.b=none/\rt (nmK z)=z.b)\/ ∃x∈ks,aD o.mates.l z.b=some x.b/\(aD o.reached.l (nmK x)).isSome=true
 odd: ∀x∈ks,∀q,aD o.reached.l (nmK x)=some q->aD o.roots.l (nmK x)=none/\q.2∈x.ms/\(q.1,q.2)∈L/\ ∃y∈ks,q.1∈y.ms/\(aD o.roots.l (nmK y)).isSome=true/\lv (nmK y)<lv (nmK x)/\rt (nmK y)=rt (nmK x)/\ ∃z∈ks,aD o.mates.l x.b=some z.b/\(aD o.roots.l (nmK z)).isSome=true/\lv (nmK x)<lv (nmK z)/\rt (nmK x)=rt (nmK z)
 wt: ∀c,c∈o.waiting↔ ∃z∈ks,c∈z.ms/\(aD o.roots.l (nmK z)).isSome=true
 wnd:o.waiting.Nodup
structure Gr (ns:List Str) (L:List (Str×Str)) (M:Str->Option Str):Prop where
 nd:ns.Nodup
 len:ns.length<=20
 sym: ∀a b,(a,b)∈L->(b,a)∈L
 irr: ∀a,(a,a)∉L
 inn: ∀a b,(a,b)∈L->a∈ns
 mates:fO ns L M
end Sw
namespace Sw
open PySem PySem.Spec PyProof.Rows L2
inductive LC (M:Str->Option Str):Bool->Kt->List Kt->List (Str×Str)->Kt->Prop where
 |nil {p a}:LC M p a [] [] a
 |step {p a c e q cs ls}:q.1∈a.ms->q.2∈c.ms->(p=true->q=(a.b,c.b)/\M a.b=some c.b/\M c.b=some a.b)->LC M (!p) c cs ls e->LC M p a (c::cs) (q::ls) e
section
variable {M:Str->Option Str}
theorem LC.app: ∀{p a cs ls e ds ms f},LC M p a cs ls e->ls.length%2=0->LC M p e ds ms f->LC M p a (cs++ds) (ls++ms) f
 |_,_,_,_,_,_,_,_,.nil,_,h=>h
 |_,_,_,_,_,_,_,_,.step _ _ _ .nil,hl,_=>by simp at hl
 |p,_,_,_,_,_,_,_,.step a1 a2 a3 (.step b1 b2 b3 r),hl,h=>.step a1 a2 a3 (.step b1 b2 b3 (by
   have:=LC.app (p:= !!p) r (by simp at hl;omega) (by rw[Bool.not_not];exact h)
   exact this))
theorem LC.at_: ∀{p a cs ls e},LC M p a cs ls e->cs.length=ls.length/\ ∀j q,ls[j]? =some q-> ∃x y,(a::cs)[j]? =some x/\(a::cs)[j+1]? =some y/\q.1∈x.ms/\q.2∈y.ms/\((decide (j%2=1)= !p)->q=(x.b,y.b)/\M x.b=some y.b/\M y.b=some x.b)
 |_,_,_,_,_,.nil=>⟨rfl,fun j q h=>by simp at h⟩
 |p,a,_,_,_,.step (c:=c) (q:=q0) a1 a2 a3 r=>by
  obtain⟨h1,h2⟩:=r.at_
  refine⟨congrArg (· +1) h1,fun j q h=> ?_⟩
  cases j with
  |zero=>
   cases h
   exact⟨a,c,rfl,rfl,a1,a2,fun e=>a3 (by cases p <;> simp at e⊢)⟩
  |succ j=>
   obtain⟨x,y,e1,e2,e3,e4,e5⟩:=h2 j q h
   refine⟨x,y,e1,e2,e3,e4,fun e=>e5 ?_⟩
   cases p <;> simp at e⊢ <;> omega
theorem LC.ring {w:Kt} {ts:List Kt} {ls:List (Str×Str)} (h:LC M false w (ts++[w]) ls w) (ho:ts.length%2=0) (nd:((w::ts).map (·.ms)).flatten.Nodup) (h3:3<=(w::ts).length):fN M (w::ts) 0 ls:=by
 obtain⟨h1,h2⟩:=h.at_
 rw[List.length_append,List.length_singleton] at h1
 refine⟨by simp,by simp;omega,nd,by simp;omega,fun j x y a hj hx hy ha=> ?_,h3⟩
 obtain⟨x',y',e1,e2,e3,e4,e5⟩:=h2 j a ha
 simp only[List.length_cons] at hj hx hy⊢
 have ex:x'=x:=by
  rw[<-List.cons_append,List.getElem?_append_left (by simpa using hj),hx] at e1
  exact (Option.some.inj e1).symm
 have ey:y'=y:=by
  by_cases q:j+1=ts.length+1
  ·rw[BL q] at hy
   rw[<-List.cons_append,List.getElem?_append_right (by simp;omega)] at e2
   rw[show j+1 -(w::ts).length=0 by simp;omega] at e2
   cases hy;cases e2;rfl
  ·rw[uF q] at hy
   rw[<-List.cons_append,List.getElem?_append_left (by simp;omega),hy] at e2
   exact (Option.some.inj e2).symm
 subst ex;subst ey
 refine⟨fun o=>e5 ?_,e3,e4⟩
 rw[gi (Nat.zero_le _),Nat.sub_zero] at o
 simp[o]
end
structure Stq where
 x:Kt
 one:Str
 other:Str
 y:Kt
inductive Pth (M:Str->Option Str) (o:aP) (ks:List Kt):Kt->List Stq->Kt->Prop where
 |nil {z}:z∈ks->Pth M o ks z [] z
 |cons {z s r w}:z∈ks->s.x∈ks->M z.b=some s.x.b->aD o.reached.l (nmK s.x)=some (s.one,s.other)->s.other∈s.x.ms->s.one∈s.y.ms->Pth M o ks s.y r w->Pth M o ks z (s::r) w
def kn (z:Kt):List Stq->List Kt
 | []=>[]
 |s::r=>z::s.x::kn s.y r
def ln (z:Kt):List Stq->List (Str×Str)
 | []=>[]
 |s::r=>(z.b,s.x.b)::(s.other,s.one)::ln s.y r
def fw:List Stq->List Kt
 | []=>[]
 |s::r=>s.x::s.y::fw r
def evs (z:Kt):List Stq->List Kt
 | []=>[z]
 |s::r=>z::evs s.y r
section
variable {M:Str->Option Str} {o:aP} {ks:List Kt} {z w:Kt} {ss:List Stq}
theorem HK: ∀{z ss w},Pth M o ks z ss w->kn z ss++[w]=z::fw ss
 |_,_,_,.nil _=>rfl
 |_,_,_,.cons _ _ _ _ _ _ r=>by
  show _::_::(kn _ _++[_])=_
  rw[HK r];rfl
theorem xD: ∀(z:Kt) (ss:List Stq),(kn z ss).length=2*ss.length
 |_,[]=>rfl
 |z,s::r=>by
  show (kn s.y r).length+2=_
  rw[xD,List.length_cons];omega
theorem BP: ∀(z:Kt) (ss:List Stq),(ln z ss).length=2*ss.length
 |_,[]=>rfl
 |z,s::r=>by
  show (ln s.y r).length+2=_
  rw[BP,List.length_cons];omega
theorem Pth.zk: ∀{z ss w},Pth M o ks z ss w->z∈ks
 |_,_,_,.nil h=>h
 |_,_,_,.cons h _ _ _ _ _ _=>h
theorem Pth.wk: ∀{z ss w},Pth M o ks z ss w->w∈ks
 |_,_,_,.nil h=>h
 |_,_,_,.cons _ _ _ _ _ _ r=>r.wk
theorem Pth.lc {ns:List Str} {L:List (Str×Str)} (hT:eM ns L M ks) (hs: ∀a b,M a=some b->M b=some a): ∀{z ss w},Pth M o ks z ss w->LC M true z (fw ss) (ln z ss) w
 |_,_,_,.nil _=>.nil
 |_,_,_,.cons h1 h2 h3 h4 h5 h6 r=>.step (hT.kb _ h1).base (hT.kb _ h2).base (fun _=>⟨rfl,h3,hs _ _ h3⟩) (.step h5 h6 (fun e=>by cases e) (by
   have:=Pth.lc hT hs r
   exact this))
theorem Pth.cl {ns:List Str} {L:List (Str×Str)} (hT:eM ns L M ks) (hs: ∀a b,M a=some b->M b=some a): ∀{z ss w},Pth M o ks z ss w->LC M false w (kn z ss).reverse ((ln z ss).reverse.map fun q=>(q.2,q.1)) z
 |_,_,_,.nil _=>.nil
 |z,s::r,w,.cons h1 h2 h3 h4 h5 h6 r'=>by
  have ih:=Pth.cl hT hs r'
  have e1:(kn z (s::r)).reverse=(kn s.y r).reverse++[s.x,z]:=by
   show (z::s.x::kn s.y r).reverse=_
   simp
  have e2:((ln z (s::r)).reverse.map fun q=>(q.2,q.1))=((ln s.y r).reverse.map fun q=>(q.2,q.1))++[(s.one,s.other),(s.x.b,z.b)]:=by
   show ((((z.b,s.x.b)::(s.other,s.one)::ln s.y r).reverse).map fun q=>(q.2,q.1))=_
   simp
  rw[e1,e2]
  refine LC.app ih (by rw[List.length_map,List.length_reverse,BP];omega) ?_
  exact .step h6 h5 (fun e=>by cases e) (.step (hT.kb _ h2).base (hT.kb _ h1).base (fun _=>⟨rfl,hs _ _ h3,h3⟩) .nil)
end
end Sw
namespace Sw
open PySem PySem.Spec PyProof.Rows L2
def EvK (o:aP) (z:Kt):Prop:=(aD o.roots.l (nmK z)).isSome=true
section
variable {ns:List Str} {L:List (Str×Str)} {o:aP} {ks:List Kt} {lv:Str->Nat} {rt:Str->Str} {z w x y:Kt}
structure UpS (L:List (Str×Str)) (o:aP) (ks:List Kt) (lv:Str->Nat) (rt:Str->Str) (z:Kt) (s:Stq):Prop where
 xk:s.x∈ks
 yk:s.y∈ks
 mz:aD o.mates.l z.b=some s.x.b
 rd:aD o.reached.l (nmK s.x)=some (s.one,s.other)
 ot:s.other∈s.x.ms
 on:s.one∈s.y.ms
 ed:(s.one,s.other)∈L
 ny:aD o.roots.l (nmK s.x)=none
 ey:EvK o s.y
 l1:lv (nmK s.y)<lv (nmK s.x)
 l2:lv (nmK s.x)<lv (nmK z)
 r1:rt (nmK s.y)=rt (nmK z)
 r2:rt (nmK s.x)=rt (nmK z)
theorem SI.up (h:SI ns L o ks lv rt) (g:Gr ns L (aD o.mates.l)) (hz:z∈ks) (ez:EvK o z):(aD o.mates.l z.b=none/\rt (nmK z)=z.b)\/ ∃s,UpS L o ks lv rt z s:=by
 rcases h.BO z hz ez with a|⟨x,hx,mx,ox⟩
 ·exact .inl a
 ·obtain⟨q,hq⟩:=Option.isSome_iff_exists.mp ox
  obtain⟨h1,h2,h3,y,hy,h4,h5,h6,h7,z',hz',h8,h9,h10,h11⟩:=h.odd x hx q hq
  have e:=g.mates.sym _ _ mx
  rw[h8] at e
  have:=h.tops.yH g.nd hz' hz (Option.some.inj e)
  subst this
  exact .inr ⟨⟨x,q.1,q.2,y⟩,hx,hy,mx,hq,h2,h4,h3,h1,h5,h6,h10,h7.trans h11,h11⟩
end
inductive ke (L:List (Str×Str)) (o:aP) (ks:List Kt) (lv:Str->Nat) (rt:Str->Str):Kt->List Stq->Kt->Prop where
 |nil {z}:z∈ks->EvK o z->ke L o ks lv rt z [] z
 |cons {z s r w}:z∈ks->EvK o z->UpS L o ks lv rt z s->ke L o ks lv rt s.y r w->ke L o ks lv rt z (s::r) w
section
variable {ns:List Str} {L:List (Str×Str)} {o:aP} {ks:List Kt} {lv:Str->Nat} {rt:Str->Str} {z w x y:Kt}
theorem ke.pth: ∀{z ss w},ke L o ks lv rt z ss w->Pth (aD o.mates.l) o ks z ss w
 |_,_,_,.nil h _=>.nil h
 |_,_,_,.cons h _ u r=>.cons h u.xk u.mz u.rd u.ot u.on r.pth
theorem ke.zk: ∀{z ss w},ke L o ks lv rt z ss w->z∈ks/\EvK o z
 |_,_,_,.nil h e=>⟨h,e⟩
 |_,_,_,.cons h e _ _=>⟨h,e⟩
theorem ke.wk: ∀{z ss w},ke L o ks lv rt z ss w->w∈ks/\EvK o w/\rt (nmK w)=rt (nmK z)/\lv (nmK w)<=lv (nmK z)
 |_,_,_,.nil h e=>⟨h,e,rfl,Nat.le_refl _⟩
 |_,_,_,.cons h e u r=>by
  obtain⟨a,b,c,d⟩:=r.wk
  exact⟨a,b,c.trans u.r1,by have:=u.l1;have:=u.l2;omega⟩
def ek (z:Kt):List Stq->List Kt
 | []=>[]
 |s::r=>z::ek s.y r
theorem rV: ∀{z ss w},ke L o ks lv rt z ss w-> ∀v∈ek z ss,v∈ks/\EvK o v/\lv (nmK w)<lv (nmK v)/\ ∃x∈kn z ss,aD o.mates.l v.b=some x.b
 |_,_,_,.nil _ _,v,hv=>by cases hv
 |z,s::r,w,.cons h e u p,v,hv=>by
  rcases List.mem_cons.mp hv with rfl|hv
  ·exact⟨h,e,by have:=p.wk.2.2.2;have:=u.l1;have:=u.l2;omega,s.x,List.mem_cons_of_mem _ List.mem_cons_self,u.mz⟩
  ·obtain⟨a,b,c,x,d,f⟩:=rV p v hv
   exact⟨a,b,c,x,List.mem_cons_of_mem _ (List.mem_cons_of_mem _ d),f⟩
theorem xE: ∀{z ss w},ke L o ks lv rt z ss w-> ∀v∈kn z ss,v∈ks/\rt (nmK v)=rt (nmK z)/\lv (nmK w)<lv (nmK v)/\lv (nmK v)<=lv (nmK z)/\((v∈ek z ss/\EvK o v)\/(aD o.roots.l (nmK v)=none/\(aD o.reached.l (nmK v)).isSome=true/\ ∃u∈ek z ss,aD o.mates.l u.b=some v.b))
 |_,_,_,.nil _ _,v,hv=>by cases hv
 |z,s::r,w,.cons h e u p,v,hv=>by
  have hw:=p.wk.2.2.2
  have a1:=u.l1
  have a2:=u.l2
  rcases List.mem_cons.mp hv with rfl|hv
  ·exact⟨h,rfl,by omega,Nat.le_refl _,.inl ⟨List.mem_cons_self,e⟩⟩
  ·rcases List.mem_cons.mp hv with rfl|hv
   ·exact⟨u.xk,u.r2,by omega,by omega,.inr ⟨u.ny,by rw[u.rd];rfl,z,List.mem_cons_self,u.mz⟩⟩
   ·obtain⟨b1,b2,b3,b4,b5⟩:=xE p v hv
    refine⟨b1,b2.trans u.r1,b3,by omega,?_⟩
    rcases b5 with ⟨c1,c2⟩|⟨c1,c2,q,c3,c4⟩
    ·exact .inl ⟨List.mem_cons_of_mem _ c1,c2⟩
    ·exact .inr ⟨c1,c2,q,List.mem_cons_of_mem _ c3,c4⟩
theorem ke.links (g:Gr ns L (aD o.mates.l)): ∀{z ss w},ke L o ks lv rt z ss w-> ∀q∈ln z ss,q∈L
 |_,_,_,.nil _ _,q,hq=>by cases hq
 |z,s::r,w,.cons h e u p,q,hq=>by
  rcases List.mem_cons.mp hq with rfl|hq
  ·exact g.mates.edge _ _ u.mz
  ·rcases List.mem_cons.mp hq with rfl|hq
   ·exact g.sym _ _ u.ed
   ·exact p.links g q hq
theorem ke.first (P:Kt->Prop): ∀{z ss w},ke L o ks lv rt z ss w->(∃v∈evs z ss,P v)-> ∃s1 v,ke L o ks lv rt z s1 v/\P v/\(∀u∈ek z s1,¬P u)/\ ∃post,evs z ss=ek z s1++v::post
 |z,_,_,.nil h e,⟨v,hv,pv⟩=>by
  rw[List.mem_singleton.mp hv] at pv
  exact⟨[],z,.nil h e,pv,(fun u hu=>by cases (show u∈([]:List Kt) from hu)),[],rfl⟩
 |z,s::r,w,.cons h e u p,⟨v,hv,pv⟩=>by
  rcases Classical.em (P z) with q|q
  ·exact⟨[],z,.nil h e,q,(fun u hu=>by cases (show u∈([]:List Kt) from hu)),evs s.y r,rfl⟩
  ·rcases List.mem_cons.mp hv with rfl|hv
   ·exact absurd pv q
   ·obtain⟨s1,v1,p1,h1,h2,post,h3⟩:=ke.first P p ⟨v,hv,pv⟩
    refine⟨s::s1,v1,.cons h e u p1,h1,fun u' hu=> ?_,post,?_⟩
    ·rcases List.mem_cons.mp hu with rfl|hu
     ·exact q
     ·exact h2 u' hu
    ·show z::evs s.y r=z::(ek s.y s1++v1::post)
     rw[h3]
end
structure WP (L:List (Str×Str)) (o:aP) (ks:List Kt) (lv:Str->Nat) (rt:Str->Str) (c:Str) (z:Kt) (row:List Str):Prop where
 zk:z∈ks
 ez:EvK o z
 odd:row.length%2=1
 head:row.head? =some c
 last:row.getLast? =some z.b
 nd:row.Nodup
 inn: ∀a∈row,∃v∈ks,a∈v.ms/\lv (nmK z)<=lv (nmK v)/\rt (nmK v)=rt (nmK z)/\(EvK o v\/(aD o.reached.l (nmK v)).isSome=true)
 alt:Alt (E0 (aD o.mates.l)) (E1 (aD o.mates.l) L) row
section
variable {ns:List Str} {L:List (Str×Str)} {o:aP} {ks:List Kt} {lv:Str->Nat} {rt:Str->Str} {z w x y:Kt} {c:Str} {row r1 r2:List Str}
theorem WP.start (hz:z∈ks) (ez:EvK o z) (h:Led (aD o.mates.l) L z.ms c z.b row):WP L o ks lv rt c z row:=
 ⟨hz,ez,h.odd,h.head,h.last,h.nd,fun a ha=>⟨z,hz,h.inn a ha,Nat.le_refl _,rfl,.inl ez⟩,h.alt⟩
theorem UpS.e1 (h:SI ns L o ks lv rt) (g:Gr ns L (aD o.mates.l)) (hz:z∈ks) {s:Stq} (u:UpS L o ks lv rt z s):E1 (aD o.mates.l) L s.other s.one:=by
 have xy:s.x≠s.y:=fun e=>by
  have:=u.l1
  rw[e] at this;omega
 have key:aD o.mates.l s.other≠some s.one:=fun e=>by
  obtain⟨e1,e2⟩:=h.tops.vR g.nd g.mates u.xk u.yk xy u.ot u.on e
  rw[e1,e2] at e
  have e3:=g.mates.sym _ _ u.mz
  rw[e] at e3
  have:=h.tops.yH g.nd u.yk hz (Option.some.inj e3)
  have a1:=u.l1
  have a2:=u.l2
  rw[this] at a1;omega
 exact⟨.inr u.ed,key,fun e=>key (g.mates.sym _ _ e)⟩
theorem WP.step (h:SI ns L o ks lv rt) (g:Gr ns L (aD o.mates.l)) (hw:WP L o ks lv rt c z row) {s:Stq} (u:UpS L o ks lv rt z s) (h1:Led (aD o.mates.l) L s.x.ms s.other s.x.b r1) (h2:Led (aD o.mates.l) L s.y.ms s.one s.y.b r2):WP L o ks lv rt c s.y (row++r1.reverse++r2):=by
 have a1:=u.l1
 have a2:=u.l2
 have o1:=hw.odd
 have o2:=h1.odd
 have o3:=h2.odd
 have dis: ∀{u' v:Kt},u'∈ks->v∈ks-> ∀{a:Str},a∈u'.ms->a∈v.ms->u'=v:=fun {u' v} hu hv {a} ha hb=>h.tops.one g.nd hu hv ha hb
 refine⟨u.yk,u.ey,by simp;omega,?_,?_,?_,fun a ha=> ?_,?_⟩
 ·rw[List.append_assoc,List.head?_append,hw.head];rfl
 ·rw[List.getLast?_append,h2.last];rfl
 ·rw[List.nodup_append,List.nodup_append]
  refine⟨⟨hw.nd,(List.reverse_perm r1).nodup_iff.mpr h1.nd,fun a ha b hb e=> ?_⟩,h2.nd,fun a ha b hb e=> ?_⟩
  ·subst e
   obtain⟨v,v1,v2,v3,v4⟩:=hw.inn a ha
   have:=dis v1 u.xk v2 (h1.inn a (List.mem_reverse.mp hb))
   subst this
   omega
  ·subst e
   rcases List.mem_append.mp ha with ha|ha
   ·obtain⟨v,v1,v2,v3,v4⟩:=hw.inn a ha
    have:=dis v1 u.yk v2 (h2.inn a hb)
    subst this
    omega
   ·have:=dis u.xk u.yk (h1.inn a (List.mem_reverse.mp ha)) (h2.inn a hb)
    rw[this] at a1;omega
 ·rcases List.mem_append.mp ha with ha|ha
  ·rcases List.mem_append.mp ha with ha|ha
   ·obtain⟨v,v1,v2,v3,v4⟩:=hw.inn a ha
    exact⟨v,v1,v2,by omega,v4.1.trans u.r1.symm,v4.2⟩
   ·exact⟨s.x,u.xk,h1.inn a (List.mem_reverse.mp ha),by omega,u.r2.trans u.r1.symm,.inr (by rw[u.rd];rfl)⟩
  ·exact⟨s.y,u.yk,h2.inn a ha,Nat.le_refl _,rfl,.inl u.ey⟩
 ·rw[List.append_assoc]
  refine Alt.app _ (Nat.le_refl _) o1 hw.alt hw.last (b:=s.x.b) ?_ ⟨u.mz,g.mates.sym _ _ u.mz⟩ ?_
  ·rw[List.head?_append,List.head?_reverse,h1.last];rfl
  ·exact Alt.app _ (Nat.le_refl _) (by rw[List.length_reverse];exact o2) (h1.alt.rev E0.symm E1.symm _ (Nat.le_refl _) o2) (a:=s.other) (by rw[List.getLast?_reverse];exact h1.head) h2.head (u.e1 h g hw.zk) h2.alt
theorem WP.len (h:SI ns L o ks lv rt) (hw:WP L o ks lv rt c z row):row.length<=ns.length:=ka hw.nd fun a ha=>by
 obtain⟨v,v1,v2,_⟩:=hw.inn a ha
 exact h.tops.inn v1 v2
end
end Sw
namespace Sw
open PySem PySem.Spec PyProof.Rows L2
theorem BQ {κ α:Type} [DecidableEq κ] {k:κ} {x:α} {l:List (κ×α)} (h:(l.map (·.1)).Nodup):((bH l k x).map (·.1)).Nodup:=by
 by_cases q:k∈l.map (·.1)
 ·rw[dB q];exact h
 ·rw[sJ q]
  exact List.nodup_append.mpr ⟨h,by simp,fun a ha b hb e=>q (by rw[List.mem_singleton.mp hb] at e;exact e▸ha)⟩
def F0 (o:aP) (n:Str) (ms:List Str) (r:Str):aP:={o with roots:=⟨bH o.roots.l n r⟩,waiting:=o.waiting++ms.filter fun c=> !decide (c∈o.waiting)}
section
variable {ns:List Str} {L:List (Str×Str)} {o:aP} {ks:List Kt} {lv:Str->Nat} {rt:Str->Str} {z w x y:Kt} {one other:Str}
theorem BR {ws ms:List Str} {c:Str}:c∈ws++ms.filter (fun c=> !decide (c∈ws))↔c∈ws\/c∈ms:=by
 rw[List.mem_append,List.mem_filter]
 by_cases h:c∈ws <;> simp[h]
theorem DQ {ws ms:List Str} (h1:ws.Nodup) (h2:ms.Nodup):(ws++ms.filter (fun c=> !decide (c∈ws))).Nodup:=List.nodup_append.mpr ⟨h1,h2.filter _,fun a ha b hb e=>by
 have:=(List.mem_filter.mp hb).2
 subst e
 simp[ha] at this⟩
theorem SI.root (h:SI ns L o ks lv rt) (g:Gr ns L (aD o.mates.l)) (hz:z∈ks) (nz:aD o.roots.l (nmK z)=none) (oz:aD o.reached.l (nmK z)=none) (mz:aD o.mates.l z.b=none):
  ∃lv' rt',SI ns L (F0 o (nmK z) z.ms z.b) ks lv' rt':=by
 have inj: ∀{u v:Kt},u∈ks->v∈ks->nmK u=nmK v->u=v:=fun hu hv e=>h.tops.FZ g.nd hu hv e
 have rg: ∀n,aD (bH o.roots.l (nmK z) z.b) n=if n=nmK z then some z.b else aD o.roots.l n:=fun n=>dU _ _ _ _
 refine⟨lv,fun n=>if n=nmK z then z.b else rt n,h.tops,h.top,h.tk,fun n r e=> ?_,h.ok,BQ h.rnd,h.ond,fun v hv ev=> ?_,fun v hv q e=> ?_,fun c=> ?_,DQ h.wnd (h.tops.kb z hz).nodup⟩
 ·have e:=(rg n).symm.trans e
  by_cases q:n=nmK z
  ·rw[if_pos q] at e;cases e
   exact⟨z,hz,q.symm,by rw[if_pos q]⟩
  ·rw[if_neg q] at e
   obtain⟨v,hv,e1,e2⟩:=h.rk n r e
   exact⟨v,hv,e1,by rw[if_neg q];exact e2⟩
 ·have ev:=(congrArg Option.isSome (rg (nmK v))).symm.trans ev
  by_cases q:nmK v=nmK z
  ·have:=inj hv hz q
   subst this
   exact .inl ⟨mz,by rw[if_pos rfl]⟩
  ·rw[if_neg q] at ev
   rcases h.BO v hv ev with ⟨a,b⟩|a
   ·exact .inl ⟨a,by rw[if_neg q];exact b⟩
   ·exact .inr a
 ·obtain⟨a1,a2,a3,y1,b1,b2,b3,b4,b5,z1,c1,c2,c3,c4,c5⟩:=h.odd v hv q e
  have vz:nmK v≠nmK z:=fun r=>by
   have e':aD o.reached.l (nmK v)=some q:=e
   rw[r,oz] at e';cases e'
  have n1:nmK y1≠nmK z:=fun r=>by rw[r,nz] at b3;cases b3
  have n2:nmK z1≠nmK z:=fun r=>by rw[r,nz] at c3;cases c3
  refine⟨by show aD (bH _ _ _) _=none;rw[rg,if_neg vz];exact a1,a2,a3,y1,b1,b2,?_,b4,?_,z1,c1,c2,?_,c4,?_⟩
  ·show (aD (bH _ _ _) _).isSome=true
   rw[rg,if_neg n1];exact b3
  ·rw[if_neg n1,if_neg vz];exact b5
  ·show (aD (bH _ _ _) _).isSome=true
   rw[rg,if_neg n2];exact c3
  ·rw[if_neg n2,if_neg vz];exact c5
 ·show c∈o.waiting++_↔_
  rw[BR,h.wt c]
  constructor
  ·rintro (⟨v,hv,a,b⟩|a)
   ·refine⟨v,hv,a,?_⟩
    show (aD (bH _ _ _) _).isSome=true
    rw[rg]
    split
    ·rfl
    ·exact b
   ·refine⟨z,hz,a,?_⟩
    show (aD (bH _ _ _) _).isSome=true
    rw[rg,if_pos rfl];rfl
  ·rintro⟨v,hv,a,b⟩
   have b:=(congrArg Option.isSome (rg (nmK v))).symm.trans b
   by_cases q:nmK v=nmK z
   ·exact .inr (inj hv hz q▸a)
   ·rw[if_neg q] at b
    exact .inl ⟨v,hv,a,b⟩
end
end Sw
namespace Sw
open PySem PySem.Spec PyProof.Rows L2
theorem qQ {xs ys:List Str} (h1:xs.Nodup) (h2:ys.Nodup) (h: ∀a,a∈xs↔a∈ys):xs.Perm ys:=by
 have e:m9 xs=m9 ys:=risingS (uz h1) (uz h2) fun a=>by rw[(aQ xs).mem_iff,(aQ ys).mem_iff];exact h a
 exact (aQ xs).symm.trans (e▸aQ ys)
def rgT (z1 z2 w:Kt) (s1 s2:List Stq):List Kt:=w::((kn z1 s1).reverse++kn z2 s2)
structure tJ (L:List (Str×Str)) (o:aP) (ks:List Kt) (lv:Str->Nat) (rt:Str->Str) (z1 z2 w:Kt) (s1 s2:List Stq):Prop where
 p1:ke L o ks lv rt z1 s1 w
 p2:ke L o ks lv rt z2 s2 w
 ap: ∀u∈ek z1 s1,u∉ek z2 s2
 ne:z1≠z2
section
variable {ns:List Str} {L:List (Str×Str)} {o o1:aP} {ks:List Kt} {lv:Str->Nat} {rt:Str->Str} {z1 z2 w:Kt} {s1 s2:List Stq} {a b:Str}
theorem tJ.len (m:tJ L o ks lv rt z1 z2 w s1 s2):3<=(rgT z1 z2 w s1 s2).length/\(rgT z1 z2 w s1 s2).length=2*s1.length+2*s2.length+1:=by
 have e:(rgT z1 z2 w s1 s2).length=2*s1.length+2*s2.length+1:=by
  unfold rgT
  rw[List.length_cons,List.length_append,List.length_reverse,xD,xD]
 refine⟨?_,e⟩
 rw[e]
 rcases s1 with _|⟨q1,s1⟩
 ·rcases s2 with _|⟨q2,s2⟩
  ·cases m.p1
   cases m.p2
   exact absurd rfl m.ne
  ·simp;omega
 ·simp;omega
theorem tJ.mem (m:tJ L o ks lv rt z1 z2 w s1 s2) {v:Kt} (hv:v∈rgT z1 z2 w s1 s2):v=w\/v∈kn z1 s1\/v∈kn z2 s2:=by
 rcases List.mem_cons.mp hv with e|hv
 ·exact .inl e
 ·rcases List.mem_append.mp hv with e|e
  ·exact .inr (.inl (List.mem_reverse.mp e))
  ·exact .inr (.inr e)
theorem tJ.facts (h:SI ns L o ks lv rt) (m:tJ L o ks lv rt z1 z2 w s1 s2) {v:Kt} (hv:v∈rgT z1 z2 w s1 s2):v∈ks/\rt (nmK v)=rt (nmK w)/\lv (nmK w)<=lv (nmK v)/\(v=w\/((v∈ek z1 s1\/v∈ek z2 s2)/\EvK o v)\/(aD o.roots.l (nmK v)=none/\ ∃u∈rgT z1 z2 w s1 s2,u≠w/\EvK o u/\aD o.mates.l u.b=some v.b)):=by
 obtain⟨w1,w2,w3,w4⟩:=m.p1.wk
 obtain⟨_,_,w5,_⟩:=m.p2.wk
 have ekm: ∀{z:Kt} {s:List Stq} {w':Kt},ke L o ks lv rt z s w'-> ∀u∈ek z s,u∈kn z s:=by
  intro z s w' p
  induction p with
  |nil=>intro u hu;cases hu
  |cons h e us p ih=>
   intro u hu
   rcases List.mem_cons.mp hu with rfl|hu
   ·exact List.mem_cons_self
   ·exact List.mem_cons_of_mem _ (List.mem_cons_of_mem _ (ih u hu))
 rcases m.mem hv with rfl|e|e
 ·exact⟨w1,rfl,Nat.le_refl _,.inl rfl⟩
 ·obtain⟨a1,a2,a3,a4,a5⟩:=xE m.p1 v e
  refine⟨a1,a2.trans w3.symm,Nat.le_of_lt a3,.inr ?_⟩
  rcases a5 with ⟨c1,c2⟩|⟨c1,c2,u,c3,c4⟩
  ·exact .inl ⟨.inl c1,c2⟩
  ·obtain⟨f1,f2,f3,_⟩:=rV m.p1 u c3
   refine .inr ⟨c1,u,List.mem_cons_of_mem _ (List.mem_append_left _ (List.mem_reverse.mpr (ekm m.p1 u c3))),fun e=> ?_,f2,c4⟩
   rw[e] at f3;omega
 ·obtain⟨a1,a2,a3,a4,a5⟩:=xE m.p2 v e
  refine⟨a1,a2.trans w5.symm,Nat.le_of_lt a3,.inr ?_⟩
  rcases a5 with ⟨c1,c2⟩|⟨c1,c2,u,c3,c4⟩
  ·exact .inl ⟨.inr c1,c2⟩
  ·obtain⟨f1,f2,f3,_⟩:=rV m.p2 u c3
   refine .inr ⟨c1,u,List.mem_cons_of_mem _ (List.mem_append_right _ (ekm m.p2 u c3)),fun e=> ?_,f2,c4⟩
   rw[e] at f3;omega
end
end Sw
namespace Sw
open PySem PySem.Spec PyProof.Rows L2
structure Aug (ns:List Str) (L:List (Str×Str)) (M:Str->Option Str) (R:Str->Prop) (row:List Str):Prop where
 ev:row.length%2=0
 ne:row≠[]
 nd:row.Nodup
 inn: ∀a∈row,a∈ns
 alt:Alt (E1 M L) (E0 M) row
 head: ∃a,row.head? =some a/\M a=none/\R a
 last: ∃b,row.getLast? =some b/\M b=none
section
variable {ns:List Str} {L:List (Str×Str)} {M M':Str->Option Str} {R:Str->Prop} {row:List Str}
theorem Aug.inside (h:Aug ns L M R row) (hs: ∀a b,M a=some b->M b=some a) {c d:Str} (hc:c∈row) (e:M c=some d):d∈row:=by
 obtain⟨i,hi⟩:=List.getElem?_of_mem hc
 obtain⟨il,ei⟩:=List.getElem?_eq_some_iff.mp hi
 have ev:=h.ev
 by_cases p:i%2=1
 ·by_cases q:i+1<row.length
  ·have:=h.alt.at_ i q
   rw[if_neg (by omega)] at this
   have t:=this.1
   rw[ei,e] at t
   cases t
   exact List.getElem_mem _
  ·obtain⟨b,hb,nb⟩:=h.last
   rw[List.getLast?_eq_getElem?,show row.length -1=i by omega,hi] at hb
   cases hb
   rw[e] at nb;cases nb
 ·by_cases q:i=0
  ·obtain⟨a,ha,na,_⟩:=h.head
   rw[List.head?_eq_getElem?,←q,hi] at ha
   cases ha
   rw[e] at na;cases na
  ·have:=h.alt.at_ (i -1) (by omega)
   rw[if_neg (by omega)] at this
   have t:=this.2
   have e2:row[i -1+1]'(by omega)=c:=by
    have:i -1+1=i:=by omega
    simp only[this]
    exact ei
   rw[e2,e] at t
   cases t
   exact List.getElem_mem _
structure DR (M M':Str->Option Str) (row:List Str):Prop where
 on: ∀i (h:i+1<row.length),i%2=0->M' (row[i]'(by omega))=some row[i+1]/\M' row[i+1]=some (row[i]'(by omega))
 off: ∀c,c∉row->M' c=M c
theorem DR.zF (f:DR M M' row) (hl:row.length%2=0) {c:Str} (hc:c∈row): ∃d∈row,M' c=some d/\M' d=some c/\ ∃i,∃(h:i+1<row.length),i%2=0/\((c=row[i]'(by omega)/\d=row[i+1])\/(d=row[i]'(by omega)/\c=row[i+1])):=by
 obtain⟨i,hi⟩:=List.getElem?_of_mem hc
 obtain⟨il,ei⟩:=List.getElem?_eq_some_iff.mp hi
 by_cases p:i%2=0
 ·have h:i+1<row.length:=by omega
  obtain⟨a,b⟩:=f.on i h p
  rw[ei] at a b
  exact⟨_,List.getElem_mem h,a,b,i,h,p,.inl ⟨ei.symm,rfl⟩⟩
 ·have h:i -1+1<row.length:=by omega
  obtain⟨a,b⟩:=f.on (i -1) h (by omega)
  have e2:row[i -1+1]'h=c:=by
   have:i -1+1=i:=by omega
   simp only[this]
   exact ei
  rw[e2] at a b
  exact⟨_,List.getElem_mem (by omega:i -1<row.length),b,a,i -1,h,by omega,.inr ⟨rfl,e2.symm⟩⟩
theorem DR.ok (f:DR M M' row) (h:Aug ns L M R row) (hM:fO ns L M) (hL: ∀a b,(a,b)∈L->(b,a)∈L):fO ns L M':=by
 have key: ∀a b,M' a=some b->M' b=some a/\a∈ns/\(a,b)∈L:=by
  intro a b e
  by_cases ha:a∈row
  ·obtain⟨d,hd,e1,e2,i,hi,p,hc⟩:=f.zF h.ev ha
   rw[e] at e1;cases e1
   refine⟨e2,h.inn a ha,?_⟩
   have al:=h.alt.at_ i hi
   rw[if_pos p] at al
   have ed:(row[i]'(by omega),row[i+1])∈L:=al.1.elim id (hL _ _)
   rcases hc with ⟨rfl,rfl⟩|⟨rfl,rfl⟩
   ·exact ed
   ·exact hL _ _ ed
  ·rw[f.off a ha] at e
   have hb:b∉row:=fun hb=>ha (h.inside hM.sym hb (hM.sym _ _ e))
   exact⟨by rw[f.off b hb];exact hM.sym _ _ e,hM.inn _ _ e,hM.edge _ _ e⟩
 exact⟨fun a b e=>(key a b e).1,fun a b e=>(key a b e).2.1,fun a b e=>(key a b e).2.2⟩
end
def mY (w:Wb):List (Str×Str):=w.l.flatMap fun p=>p.2.l.map fun q=>(p.1,q.1)
theorem kg {ns:List Str} {w:Wb} (h:f7 ns w) (hn:ns.Nodup) {a b:Str}:(a,b)∈mY w↔ ∃v,wk w a b=some v:=by
 have kn:(w.l.map (·.1)).Nodup:=by rw[h.keys];exact hn
 unfold mY
 rw[List.mem_flatMap]
 constructor
 ·rintro⟨p,hp,hq⟩
  obtain⟨q,hq',e⟩:=List.mem_map.mp hq
  cases e
  have e1:=jJ kn (show (p.1,p.2)∈w.l from hp)
  have rn:=h.rows p.1
  rw[yC e1] at rn
  exact⟨q.2,by rw[HG e1];exact jJ rn (show (q.1,q.2)∈p.2.l from hq')⟩
 ·rintro⟨v,hv⟩
  obtain⟨r,e1,e2⟩:=Es hv
  refine⟨(a,r),?_,List.mem_map.mpr ⟨(b,v),?_,rfl⟩⟩
  ·exact jZ e1
  ·exact jZ e2
end Sw
namespace Sw
open PySem PySem.Spec PyProof.Rows L2
theorem vS: ∀{l:List (List Str)},(∀y∈l,y.length%2=1)->l.flatten.length%2=l.length%2
 | [],_=>rfl
 |y::l,h=>by
  rw[List.flatten_cons,List.length_append,List.length_cons]
  have h1:=h y List.mem_cons_self
  have h2:=vS (l:=l) fun z hz=>h z (List.mem_cons_of_mem _ hz)
  omega
theorem KB.uG {m:Str->Option Str}: ∀{n:Nat} {k:aC} {b:Str} {ms:List Str},KB m n k b ms->ms.length%2=1
 |0,_,_,_,h=>h.elim
 |n+1,.single c,_,_,h=>by rw[h.2];rfl
 |n+1,.group r l,b,_,⟨t,p,h1,h2,h3,h4,h5⟩=>by
  have:=vS (l:=t.map (·.ms)) fun y hy=>by
   obtain⟨x,hx,rfl⟩:=List.mem_map.mp hy
   exact (h3 x hx).uG
  rw[List.length_map] at this
  have:=h1.odd
  rw[h4,tA]
  omega
theorem pf {N:Str->Option Str} (hs: ∀a b,N a=some b->N b=some a) (hi: ∀a,N a≠some a): ∀(n:Nat) {l:List Str},l.length<=n->l.Nodup->(∀c∈l,∃d∈l,N c=some d)->l.length%2=0
 |_,[],_,_,_=>rfl
 |0,c::l,h,_,_=>by simp at h
 |n+1,c::l,hl,nd,h=>by
  obtain⟨d,hd,e⟩:=h c List.mem_cons_self
  have dc:d≠c:=fun q=>hi c (q▸e)
  have dl:d∈l:=by
   rcases List.mem_cons.mp hd with q|q
   ·exact absurd q dc
   ·exact q
  rw[List.nodup_cons] at nd
  have le:(l.erase d).length+1=l.length:=by
   rw[List.length_erase_of_mem dl]
   have:=List.length_pos_of_mem dl
   omega
  rw[List.length_cons] at hl
  have ih:=pf hs hi n (l:=l.erase d) (by omega) (nd.2.erase d) fun a ha=>by
   have hal:=List.mem_of_mem_erase ha
   obtain⟨f,hf,ef⟩:=h a (List.mem_cons_of_mem _ hal)
   have fd:f≠d:=fun q=>by
    subst q
    have:=hs _ _ ef
    rw[hs _ _ e] at this
    cases this
    exact nd.1 hal
   have fc:f≠c:=fun q=>by
    subst q
    have:=hs _ _ ef
    rw[e] at this
    cases this
    exact (List.Nodup.mem_erase_iff nd.2).mp ha|>.1 rfl
   rcases List.mem_cons.mp hf with q|q
   ·exact absurd q fc
   ·exact⟨f,(List.Nodup.mem_erase_iff nd.2).mpr ⟨fd,q⟩,ef⟩
  rw[List.length_cons]
  omega
structure Cert (ns:List Str) (L:List (Str×Str)) (M:Str->Option Str) (A:List Str) (zs:List Kt):Prop where
 kb: ∀z∈zs,KB M (hf z.ms) z.k z.b z.ms
 kl: ∀z∈zs,KL L (hf z.ms) z.k
 zn:(zs.map (·.ms)).flatten.Nodup
 zi: ∀z∈zs,∀c∈z.ms,c∈ns
 an:A.Nodup
 ai: ∀c∈A,c∈ns
 az: ∀z∈zs,∀c∈z.ms,c∉A
 cl: ∀z∈zs,∀a b,(a,b)∈L->a∈z.ms->b∈z.ms\/b∈A
 cnt:(ns.filter fun c=> !(M c).isSome).length+A.length=zs.length
 rest: ∀c∈ns,c∉A->(∀z∈zs,c∉z.ms)-> ∃d,M c=some d/\d∉A/\ ∀z∈zs,d∉z.ms
section
variable {ns:List Str} {L:List (Str×Str)} {M N:Str->Option Str} {A:List Str} {zs:List Kt}
theorem vT (h:Cert ns L M A zs):zs.Nodup:=by
 rw[List.nodup_iff_pairwise_ne,List.pairwise_iff_getElem]
 intro i j hi hj ij e
 have hm:=(h.kb _ (List.getElem_mem hi)).base
 have:=dO h.zn (List.getElem?_eq_getElem hi) (List.getElem?_eq_getElem hj) hm (e▸hm)
 omega
theorem nodup_map_on {α β:Type} {f:α->β}: ∀{l:List α},l.Nodup->(∀a∈l,∀b∈l,f a=f b->a=b)->(l.map f).Nodup
 | [],_,_=>List.nodup_nil
 |a::l,h,g=>by
  rw[List.nodup_cons] at h
  rw[List.map_cons,List.nodup_cons]
  refine⟨fun m=> ?_,nodup_map_on h.2 fun x hx y hy e=>g x (List.mem_cons_of_mem _ hx) y (List.mem_cons_of_mem _ hy) e⟩
  obtain⟨b,hb,e⟩:=List.mem_map.mp m
  have:=g b (List.mem_cons_of_mem _ hb) a List.mem_cons_self e
  subst this
  exact h.1 hb
theorem Cert.bound (h:Cert ns L M A zs) (hn:ns.Nodup) (hN:fO ns L N) (irr: ∀a,(a,a)∉L):zs.length<=(ns.filter fun c=> !(N c).isSome).length+A.length:=by
 classical
 have hi: ∀a,N a≠some a:=fun a e=>irr a (hN.edge _ _ e)
 have key: ∀z∈zs,∃g,∃c∈z.ms,(N c=none/\g=c)\/(N c=some g/\g∈A):=fun z hz=>by
  refine Classical.byContradiction fun q=> ?_
  have par:=pf hN.sym hi z.ms.length (Nat.le_refl _) (h.kb z hz).nodup fun c hc=>by
   cases e:N c with
   |none=>exact absurd ⟨c,c,hc,.inl ⟨e,rfl⟩⟩ q
   |some d=>
    refine⟨d,?_,rfl⟩
    rcases h.cl z hz c d (hN.edge _ _ e) hc with a|a
    ·exact a
    ·exact absurd ⟨d,c,hc,.inr ⟨e,a⟩⟩ q
  have:=(h.kb z hz).uG
  omega
 let f:Kt->Str:=fun z=>if hz:z∈zs then Classical.choose (key z hz) else ""
 have hf: ∀z∈zs,∃c∈z.ms,(N c=none/\f z=c)\/(N c=some (f z)/\f z∈A):=fun z hz=>by
  have e:f z=Classical.choose (key z hz):=dif_pos hz
  rw[e]
  exact Classical.choose_spec (key z hz)
 have one: ∀x∈zs,∀y∈zs,∀c,c∈x.ms->c∈y.ms->x=y:=fun x hx y hy c h1 h2=>by
  obtain⟨i,hi⟩:=List.getElem?_of_mem hx
  obtain⟨j,hj⟩:=List.getElem?_of_mem hy
  have:=dO h.zn hi hj h1 h2
  subst this
  rw[hi] at hj
  exact Option.some.inj hj
 have nd:(zs.map f).Nodup:=nodup_map_on (vT h) fun x hx y hy e=>by
  obtain⟨c,hc,c1⟩:=hf x hx
  obtain⟨d,hd,d1⟩:=hf y hy
  rcases c1 with ⟨_,c2⟩|⟨c2,c3⟩
  ·rcases d1 with ⟨_,d2⟩|⟨_,d3⟩
   ·have:c=d:=by rw[<-c2,←d2,e]
    subst this
    exact one x hx y hy c hc hd
   ·exact absurd (by rw[<-c2,e];exact d3) (h.az x hx c hc)
  ·rcases d1 with ⟨_,d2⟩|⟨d2,_⟩
   ·exact absurd (by rw[<-d2,←e];exact c3) (h.az y hy d hd)
   ·rw[<-e] at d2
    have:=hN.inj c2 d2
    subst this
    exact one x hx y hy c hc hd
 have:=ka nd (ys:=(ns.filter fun c=> !(N c).isSome)++A) fun g hg=>by
  obtain⟨z,hz,rfl⟩:=List.mem_map.mp hg
  obtain⟨c,hc,c1⟩:=hf z hz
  rcases c1 with ⟨c1,c2⟩|⟨_,c3⟩
  ·refine List.mem_append_left _ (List.mem_filter.mpr ⟨by rw[c2];exact h.zi z hz c hc,by rw[c2,c1];rfl⟩)
  ·exact List.mem_append_right _ c3
 rw[List.length_map,List.length_append] at this
 exact this
theorem kM {α:Type} (p:α->Bool): ∀l:List α,l.length=(l.filter p).length+(l.filter fun a=> !p a).length
 | []=>rfl
 |a::l=>by
  have:=kM p l
  rw[List.filter_cons,List.filter_cons]
  cases p a <;> simp <;> omega
end
end Sw
namespace Sw
open PySem PySem.Spec PyProof.Rows L2
section
variable {ns:List Str} {w:Wb} {M:Str->Option Str} {P:Str->Prop}
theorem BS (hw:f7 ns w) (hn:ns.Nodup) {a b:Str} (e:(a,b)∈mY w) (nb: ¬P b):Rch w P a b:=by
 obtain⟨v,hv⟩:=(kg hw hn).mp e
 exact .step .refl hv nb
theorem KB.conn (hw:f7 ns w) (hn:ns.Nodup): ∀{n:Nat} {k:aC} {b:Str} {ms:List Str},KB M n k b ms->KL (mY w) n k->(∀c∈ms,¬P c)-> ∀a∈ms,∀c∈ms,Rch w P a c
 |0,_,_,_,h,_,_,_,_,_,_=>h.elim
 |n+1,.single s,_,_,h,_,_,a,ha,c,hc=>by
  rw[h.2] at ha hc
  rw[List.mem_singleton.mp ha,List.mem_singleton.mp hc]
  exact .refl
 |n+1,.group r l,b,ms,⟨t,p,h1,h2,h3,h4,h5⟩,⟨k1,k2⟩,hP,a,ha,c,hc=>by
  subst h2
  have mm: ∀a,a∈ms↔ ∃x∈t,a∈x.ms:=fun a=>by rw[h4,(aQ _).mem_iff,bT]
  have sub: ∀x∈t,∀a∈x.ms,∀c∈x.ms,Rch w P a c:=fun x hx=>(h3 x hx).conn hw hn (k2 _ (List.mem_map_of_mem hx)) fun c hc=>hP c ((mm c).mpr ⟨x,hx,hc⟩)
  have pos:0<t.length:=by have:=h1.lead;omega
  have from0: ∀(j:Nat) (x0 xj:Kt),t[0]? =some x0->t[j]? =some xj-> ∀a∈x0.ms,∀c∈xj.ms,Rch w P a c:=by
   intro j
   induction j with
   |zero=>
    intro x0 xj e0 ej a ha c hc
    rw[e0] at ej;cases ej
    exact sub x0 (List.mem_of_getElem? e0) a ha c hc
   |succ j ih=>
    intro x0 xj e0 ej a ha c hc
    have jl:=(List.getElem?_eq_some_iff.mp ej).1
    obtain⟨x,y,q,g1,g2,g3⟩:=h1.at_ (show j<t.length by omega)
    rw[uF (by omega),ej] at g2
    cases g2
    obtain⟨_,q1,q2⟩:=h1.link j x xj q (by omega) g1 (by rw[uF (by omega)];exact ej) g3
    have xm:=List.mem_of_getElem? ej
    refine (ih x0 x e0 g1 a ha q.1 q1).trans ((BS hw hn (k1 q (List.mem_of_getElem? g3)) (hP _ ((mm _).mpr ⟨xj,xm,q2⟩))).trans (sub xj xm q.2 q2 c hc))
  obtain⟨x,hx,ax⟩:=(mm a).mp ha
  obtain⟨y,hy,cy⟩:=(mm c).mp hc
  obtain⟨i,hi⟩:=List.getElem?_of_mem hx
  obtain⟨j,hj⟩:=List.getElem?_of_mem hy
  have e0:=List.getElem?_eq_getElem pos
  have b0:=(h3 _ (List.getElem_mem pos)).base
  have m0:=hP _ ((mm _).mpr ⟨_,List.getElem_mem pos,b0⟩)
  exact ((from0 i _ x e0 hi _ b0 a ax).symm hw m0).trans (from0 j _ y e0 hj _ b0 c cy)
end
end Sw
namespace Sw
open PySem PySem.Spec PyProof.Rows L2
def Mt (L:List (Str×Str)) (l:List Str) (k:Nat):Prop:= ∃qs:List (Str×Str),qs.length=k/\fq qs/\(∀q∈qs,q∈L)/\ ∀q∈qs,q.1∈l/\q.2∈l
def Gm (L:List (Str×Str)) (l:List Str) (k:Nat):Prop:=Mt L l k/\ ∀j,Mt L l j->j<=k
section
variable {L:List (Str×Str)} {l:List Str} {a:Str}
theorem Mt.sub {l':List Str} {k:Nat} (h:Mt L l k) (s: ∀c∈l,c∈l'):Mt L l' k:=by
 obtain⟨qs,h1,h2,h3,h4⟩:=h
 exact⟨qs,h1,h2,h3,fun q hq=>⟨s _ (h4 q hq).1,s _ (h4 q hq).2⟩⟩
theorem Gm.nil:Gm L [] 0:=⟨⟨[],rfl,List.nodup_nil,(fun q hq=>by cases hq),(fun q hq=>by cases hq)⟩,fun j ⟨qs,h1,_,_,h4⟩=>by
 cases qs with
 |nil=>simp at h1;omega
 |cons q qs=>cases (h4 q List.mem_cons_self).1⟩
theorem Mt.split {k:Nat} (hs: ∀a b,(a,b)∈L->(b,a)∈L) (h:Mt L (a::l) k):Mt L l k\/ ∃b∈l,(a,b)∈L/\Mt L (l.filter fun c=> !decide (c=b)) (k -1)/\1<=k:=by
 obtain⟨qs,h1,h2,h3,h4⟩:=h
 by_cases ha:a∈aZ qs
 ·obtain⟨q,hq,e⟩:=dN.mp ha
  obtain⟨pre,post,eq⟩:=List.append_of_mem hq
  have pm:qs.Perm (q::(pre++post)):=by rw[eq];exact List.perm_middle
  have ap:=vN pm h2
  have ap2:([q.1,q.2]++aZ (pre++post)).Nodup:=ap
  rw[List.nodup_append] at ap2
  obtain⟨n1,n2,n3⟩:=ap2
  have q12:q.1≠q.2:=by simp at n1;exact n1
  obtain⟨b,hab,hne⟩: ∃b,((a=q.1/\b=q.2)\/(a=q.2/\b=q.1))/\b≠a:=by
   rcases e with e|e
   ·exact⟨q.2,.inl ⟨e,rfl⟩,fun x=>q12 (e.symm.trans x.symm)⟩
   ·exact⟨q.1,.inr ⟨e,rfl⟩,fun x=>q12 (x.trans e)⟩
  have bl:b∈l:=by
   have:b∈a::l:=by
    rcases hab with ⟨_,e2⟩|⟨_,e2⟩
    ·rw[e2];exact (h4 q hq).2
    ·rw[e2];exact (h4 q hq).1
   rcases List.mem_cons.mp this with x|x
   ·exact absurd x hne
   ·exact x
  have ed:(a,b)∈L:=by
   rcases hab with ⟨e1,e2⟩|⟨e1,e2⟩
   ·rw[e1,e2];exact h3 q hq
   ·rw[e1,e2];exact hs _ _ (h3 q hq)
  have le:=pm.length_eq
  rw[List.length_cons] at le
  have pin: ∀r∈pre++post,r∈qs:=fun r hr=>pm.mem_iff.mpr (List.mem_cons_of_mem _ hr)
  have inl: ∀r∈pre++post,∀x,(x=r.1\/x=r.2)->x∈l.filter fun c=> !decide (c=b):=fun r hr x hx=>by
   have xe:x∈aZ (pre++post):=dN.mpr ⟨r,hr,hx⟩
   have x1:x≠q.1:=fun e=>n3 q.1 (by simp) x xe e.symm
   have x2:x≠q.2:=fun e=>n3 q.2 (by simp) x xe e.symm
   have xa:x≠a/\x≠b:=by
    rcases hab with ⟨e1,e2⟩|⟨e1,e2⟩
    ·rw[e1,e2];exact⟨x1,x2⟩
    ·rw[e1,e2];exact⟨x2,x1⟩
   have:x∈a::l:=by
    rcases hx with e|e
    ·rw[e];exact (h4 r (pin r hr)).1
    ·rw[e];exact (h4 r (pin r hr)).2
   rcases List.mem_cons.mp this with y|y
   ·exact absurd y xa.1
   ·exact List.mem_filter.mpr ⟨y,by simpa using xa.2⟩
  refine .inr ⟨b,bl,ed,⟨pre++post,by omega,n2,fun r hr=>h3 r (pin r hr),fun r hr=>⟨inl r hr _ (.inl rfl),inl r hr _ (.inr rfl)⟩⟩,by omega⟩
 ·refine .inl ⟨qs,h1,h2,h3,fun q hq=> ?_⟩
  obtain⟨a1,a2⟩:=h4 q hq
  constructor
  ·rcases List.mem_cons.mp a1 with x|x
   ·exact absurd (dN.mpr ⟨q,hq,.inl x.symm⟩) ha
   ·exact x
  ·rcases List.mem_cons.mp a2 with x|x
   ·exact absurd (dN.mpr ⟨q,hq,.inr x.symm⟩) ha
   ·exact x
end
theorem Cert.gm {ns:List Str} {L:List (Str×Str)} {M:Str->Option Str} {A:List Str} {zs:List Kt} (c:Cert ns L M A zs) (g:Gr ns L M) {ps:List (Str×Str)} (hp:fq ps) (he: ∀p∈ps,p∈L) (hc:2*ps.length+(ns.filter fun c=> !(M c).isSome).length=ns.length):Gm L ns ps.length:=by
 refine⟨⟨ps,rfl,hp,he,fun q hq=>⟨g.inn _ _ (he q hq),g.inn _ _ (g.sym _ _ (he q hq))⟩⟩,fun j ⟨qs,h1,h2,h3,h4⟩=> ?_⟩
 obtain⟨N,hN⟩: ∃N:Str->Option Str,∀x y,N x=some y↔(x,y)∈qs\/(y,x)∈qs:=by
  refine⟨fun x=>aD (qs.flatMap fun p=>[(p.1,p.2),(p.2,p.1)]) x,fun x y=> ?_⟩
  have kn:((qs.flatMap fun p=>[(p.1,p.2),(p.2,p.1)]).map (·.1)).Nodup:=by
   have:(qs.flatMap fun p=>[(p.1,p.2),(p.2,p.1)]).map (·.1)=aZ qs:=by
    unfold aZ
    rw[List.map_flatMap]
    rfl
   rw[this];exact h2
  have mem:(x,y)∈(qs.flatMap fun p=>[(p.1,p.2),(p.2,p.1)])↔(x,y)∈qs\/(y,x)∈qs:=by
   rw[List.mem_flatMap]
   constructor
   ·rintro⟨p,hp,h⟩
    rcases List.mem_cons.mp h with e|e
    ·cases e;exact .inl hp
    ·have:=List.mem_singleton.mp e
     cases this;exact .inr hp
   ·rintro (h|h)
    ·exact⟨_,h,List.mem_cons_self⟩
    ·exact⟨_,h,by simp⟩
  rw[<-mem]
  exact⟨fun h=>jZ h,fun h=>jJ kn h⟩
 have MN:fO ns L N:=by
  refine⟨fun a b e=>(hN b a).mpr ((hN a b).mp e).symm,fun a b e=> ?_,fun a b e=> ?_⟩
  ·rcases (hN a b).mp e with q|q
   ·exact (h4 _ q).1
   ·exact (h4 _ q).2
  ·rcases (hN a b).mp e with q|q
   ·exact h3 _ q
   ·exact g.sym _ _ (h3 _ q)
 have b:=c.bound g.nd MN g.irr
 have e:(aZ qs).length=(ns.filter fun c=>(N c).isSome).length:=by
  refine (qQ h2 (g.nd.filter _) fun x=> ?_).length_eq
  rw[dN,List.mem_filter]
  constructor
  ·rintro⟨q,hq,e⟩
   rcases e with rfl|rfl
   ·exact⟨(h4 q hq).1,by rw[(hN q.1 q.2).mpr (.inl hq)];rfl⟩
   ·exact⟨(h4 q hq).2,by rw[(hN q.2 q.1).mpr (.inr hq)];rfl⟩
  ·rintro⟨_,e⟩
   obtain⟨d,hd⟩:=Option.isSome_iff_exists.mp e
   rcases (hN x d).mp hd with q|q
   ·exact⟨_,q,.inl rfl⟩
   ·exact⟨_,q,.inr rfl⟩
 rw[rO] at e
 have:=kM (fun c=>(N c).isSome) ns
 have:=c.cnt
 omega
end Sw
namespace Sw
open PySem PySem.Spec PyProof.Rows L2
def Sv (P:List (Str×Str)) (x:Str):Prop:= ∃y,mt P x y
noncomputable def mO (P:List (Str×Str)) (x:Str):Option Str:=by
 classical exact if h: ∃y,mt P x y then some (Classical.choose h) else none
section
variable {ns:List Str} {w:Wb} {P Q:List (Str×Str)} {x y c l:Str} {row:List Str}
theorem nv (hP:Plan w P):mO P x=some y↔mt P x y:=by
 unfold mO
 constructor
 ·intro h
  by_cases q: ∃y,mt P x y
  ·rw[dif_pos q] at h
   cases h
   exact Classical.choose_spec q
  ·rw[dif_neg q] at h;cases h
 ·intro h
  have q: ∃y,mt P x y:=⟨y,h⟩
  rw[dif_pos q]
  exact congrArg some (nu hP (Classical.choose_spec q) h)
theorem yI:mO P x=none↔ ¬Sv P x:=by
 unfold mO Sv
 by_cases q: ∃y,mt P x y
 ·rw[dif_pos q];simp[q]
 ·rw[dif_neg q];simp[q]
theorem yJ (hw:f7 ns w) (hP:Plan w P) (h:mt P x y): ∃v,wk w x y=some v:=by
 rcases h with h|h
 ·exact hP.swap _ h
 ·obtain⟨v,hv⟩:=hP.swap _ h
  exact⟨v,hw.sym _ _ _ hv⟩
theorem HL (hw:f7 ns w) (hn:ns.Nodup) (hP:Plan w P):fO ns (mY w) (mO P):=
 ⟨fun a b e=>(nv hP).mpr (kJ ((nv hP).mp e)),fun a b e=>by
  obtain⟨v,hv⟩:=yJ hw hP ((nv hP).mp e)
  exact (hw.inside hv).1,fun a b e=>(kg hw hn).mpr (yJ hw hP ((nv hP).mp e))⟩
theorem Sv.inn (hw:f7 ns w) (hP:Plan w P) (h:Sv P x):x∈ns:=by
 obtain⟨y,h⟩:=h
 obtain⟨v,hv⟩:=yJ hw hP h
 exact (hw.inside hv).1
theorem qR (hw:f7 ns w) (hP:Plan w P) {es:List (Str×Str)} (h:pb w P es) (ne:x≠y):mt (mX P (es.map nP)) x y↔(mt P x y/\ ¬((x,y)∈es\/(y,x)∈es))\/(((x,y)∈es\/(y,x)∈es)/\ ¬mt P x y):=by
 have hp:=tE hP (h.turn hw hP)
 have e1:=pW hp (e:=(x,y)) ne
 have e2:=pW hP (e:=(x,y)) ne
 have e3:nP (x,y)∈es.map nP↔((x,y)∈es\/(y,x)∈es):=by
  rw[List.mem_map]
  constructor
  ·rintro⟨e,he,q⟩
   have ee:=h.ne e he
   rcases tD ee with ⟨a,_⟩|⟨a,_⟩ <;> rcases tD (e:=(x,y)) ne with ⟨b,_⟩|⟨b,_⟩
   ·rw[a,b] at q;exact .inl (q▸he)
   ·rw[a,b] at q;exact .inr (q▸he)
   ·rw[a,b] at q
    have:e=(y,x):=Prod.ext (congrArg Prod.snd q) (congrArg Prod.fst q)
    exact .inr (this▸he)
   ·rw[a,b] at q
    have:e=(x,y):=Prod.ext (congrArg Prod.snd q) (congrArg Prod.fst q)
    exact .inl (this▸he)
  ·rintro (he|he)
   ·exact⟨_,he,rfl⟩
   ·exact⟨_,he,qN _ _⟩
 show mt _ (x,y).1 (x,y).2↔_
 rw[<-e1,kd,e3]
 show (nP (x,y)∈P/\_)\/_↔_
 rw[e2]
structure Way (L:List (Str×Str)) (M:Str->Option Str) (l c:Str) (row:List Str):Prop where
 odd:row.length%2=1
 head:row.head? =some l
 last:row.getLast? =some c
 nd:row.Nodup
 alt:Alt (E0 M) (E1 M L) row
 un:M c=none
theorem Way.at0 {L:List (Str×Str)} {M:Str->Option Str} (h:Way L M l c row) (p:0<row.length):row[0]=l:=by
 have:=h.head
 rw[List.head?_eq_getElem?,List.getElem?_eq_getElem p] at this
 exact Option.some.inj this
theorem Way.atE {L:List (Str×Str)} {M:Str->Option Str} (h:Way L M l c row) (p:row.length -1<row.length):row[row.length -1]=c:=by
 have:=h.last
 rw[List.getLast?_eq_getElem?,List.getElem?_eq_getElem p] at this
 exact Option.some.inj this
theorem Way.BC (hw:f7 ns w) (hn:ns.Nodup) (hP:Plan w P) (h:Way (mY w) (mO P) l c row):pb w P (eds row):=by
 have odd:=h.odd
 have ev: ∀i (hi:i+1<row.length),i%2=0->mt P (row[i]'(by omega)) row[i+1]:=fun i hi e=>by
  have:=h.alt.at_ i hi
  rw[if_pos e] at this
  exact (nv hP).mp this.1
 have od: ∀i (hi:i+1<row.length),i%2=1->E1 (mO P) (mY w) (row[i]'(by omega)) row[i+1]:=fun i hi e=>by
  have:=h.alt.at_ i hi
  rw[if_neg (by omega)] at this
  exact this
 refine⟨(jW h.nd).1,(jW h.nd).2,fun e he=> ?_,?_,fun e he x hx y hy=> ?_⟩
 ·obtain⟨i,hi,rfl⟩:=jh he
  by_cases q:i%2=0
  ·exact yJ hw hP (ev i hi q)
  ·rcases (od i hi (by omega)).1 with g|g
   ·exact (kg hw hn).mp g
   ·obtain⟨v,hv⟩:=(kg hw hn).mp g
    exact⟨v,hw.sym _ _ _ hv⟩
 ·have nn:(om P (eds row)).Nodup:=by
   have:=(jW h.nd).1
   have h2:(eds row).Nodup:=List.nodup_iff_pairwise_ne.mpr (List.Pairwise.of_map nP (fun a b (h:nP a≠nP b) e=>h (by rw[e])) (List.nodup_iff_pairwise_ne.mp this))
   exact h2.filter _
  refine rR nn (fun p hp=>(jW h.nd).2 p (jw.mp hp).1) fun p hp q hq x hx hy=> ?_
  obtain⟨p1,p2⟩:=jw.mp hp
  obtain⟨q1,q2⟩:=jw.mp hq
  obtain⟨i,hi,rfl⟩:=jh p1
  obtain⟨j,hj,rfl⟩:=jh q1
  have i1:i%2=1:=Classical.byContradiction fun e=>p2 (ev i hi (by omega))
  have j1:j%2=1:=Classical.byContradiction fun e=>q2 (ev j hj (by omega))
  have ij:i=j:=by
   rcases hx with e|e <;> rcases hy with f|f <;> have k:=hE h.nd (e.symm.trans f) <;> omega
  subst ij
  rfl
 ·have hxr:x∈row:=by
   have:=jV he
   rcases hx with e|e <;> (rw[e];first|exact this.1|exact this.2)
  obtain⟨i,hi,rfl⟩:=List.mem_iff_getElem.mp hxr
  by_cases q:i%2=0
  ·by_cases q2:i+1<row.length
   ·left
    rw[nu hP hy (ev i q2 q)]
    exact jL row i q2
   ·have:i=row.length -1:=by omega
    subst this
    rw[h.atE hi] at hy
    exact absurd ⟨y,hy⟩ (yI.mp h.un)
  ·right
   have hi':i -1+1<row.length:=by omega
   have ee:i -1+1=i:=by omega
   have:=ev (i -1) hi' (by omega)
   simp only[ee] at this
   rw[nu hP hy (kJ this)]
   have:=jL row (i -1) hi'
   simp only[ee] at this
   exact this
theorem Way.turn (hw:f7 ns w) (hn:ns.Nodup) (hP:Plan w P) (h:Way (mY w) (mO P) l c row) (ne:l≠c):Plan w (mX P (alo false row))/\ ∀x,Sv (mX P (alo false row)) x↔(x≠l/\Sv P x)\/x=c:=by
 have ek:=h.BC hw hn hP
 have odd:=h.odd
 have len:3<=row.length:=by
  refine Classical.byContradiction fun q=> ?_
  have e1:row.length=1:=by omega
  have a:=h.at0 (by omega)
  have b:=h.atE (by omega)
  simp only[e1,Nat.sub_self] at b
  exact ne (a.symm.trans b)
 rw[yE]
 have hp:=tE hP (ek.turn hw hP)
 have ev: ∀i (hi:i+1<row.length),i%2=0->mt P (row[i]'(by omega)) row[i+1]:=fun i hi e=>by
  have:=h.alt.at_ i hi
  rw[if_pos e] at this
  exact (nv hP).mp this.1
 have od: ∀i (hi:i+1<row.length),i%2=1->mt (mX P ((eds row).map nP)) (row[i]'(by omega)) row[i+1]:=fun i hi e=>by
  have:=h.alt.at_ i hi
  rw[if_neg (by omega)] at this
  have ge:=jL row i hi
  exact (qR hw hP ek ((jW h.nd).2 _ ge)).mpr (.inr ⟨.inl ge,fun m=>this.2.1 ((nv hP).mpr m)⟩)
 have l0:row[0]'(by omega)=l:=h.at0 (by omega)
 have lE:=h.atE (by omega)
 refine⟨hp,fun x=> ?_⟩
 by_cases hx:x∈row
 ·obtain⟨i,hi,rfl⟩:=List.mem_iff_getElem.mp hx
  by_cases i0:i=0
  ·subst i0
   rw[l0]
   constructor
   ·rintro⟨y,hy⟩
    have ly:l≠y:=rQ hp hy
    rcases (qR hw hP ek ly).mp hy with ⟨a,b⟩|⟨a,b⟩
    ·have e0:=ev 0 (by omega) rfl
     rw[l0] at e0
     have:=nu hP a e0
     subst this
     have g:=jL row 0 (by omega)
     rw[l0] at g
     exact absurd (.inl g) b
    ·rcases a with a|a
     ·obtain⟨j,hj,e⟩:=jh a
      have e1:row[0]'(by omega)=row[j]'(by omega):=by rw[l0];exact congrArg Prod.fst e
      have:=hE h.nd e1
      subst this
      refine absurd ?_ b
      have e0:=ev 0 hj rfl
      rw[l0] at e0
      rw[show y=row[0+1] from congrArg Prod.snd e]
      exact e0
     ·obtain⟨j,hj,e⟩:=jh a
      have e1:row[0]'(by omega)=row[j+1]:=by rw[l0];exact congrArg Prod.snd e
      have:=hE h.nd e1
      omega
   ·rintro (⟨a,_⟩|a)
    ·exact absurd rfl a
    ·exact absurd a ne
  ·have s1:Sv (mX P ((eds row).map nP)) row[i]:=by
    by_cases q:i%2=1
    ·exact⟨_,od i (by omega) q⟩
    ·have:=od (i -1) (by omega) (by omega)
     have ee:i -1+1=i:=by omega
     simp only[ee] at this
     exact⟨_,kJ this⟩
   refine⟨fun _=> ?_,fun _=>s1⟩
   have xl:row[i]≠l:=fun e=>by
    rw[<-l0] at e
    exact i0 (hE h.nd e)
   by_cases q:i=row.length -1
   ·subst q;exact .inr lE
   ·left
    refine⟨xl,?_⟩
    by_cases q2:i%2=0
    ·exact⟨_,ev i (by omega) q2⟩
    ·have:=ev (i -1) (by omega) (by omega)
     have ee:i -1+1=i:=by omega
     simp only[ee] at this
     exact⟨_,kJ this⟩
 ·have nE: ∀y,¬((x,y)∈eds row\/(y,x)∈eds row):=fun y m=>by
   rcases m with m|m
   ·exact hx (jV m).1
   ·exact hx (jV m).2
  have xl:x≠l:=fun e=>hx (by rw[e,←l0];exact List.getElem_mem _)
  have xc:x≠c:=fun e=>hx (by rw[e,←lE];exact List.getElem_mem _)
  constructor
  ·rintro⟨y,hy⟩
   rcases (qR hw hP ek (rQ hp hy)).mp hy with ⟨a,_⟩|⟨a,_⟩
   ·exact .inl ⟨xl,y,a⟩
   ·exact absurd a (nE y)
  ·rintro (⟨_,y,hy⟩|e)
   ·exact⟨y,(qR hw hP ek (rQ hP hy)).mpr (.inl ⟨hy,nE y⟩)⟩
   ·exact absurd e xc
end
def F3 (w:Wb) (X:Str->Prop) (c:Str):Prop:= ∀N,Plan w N->Sv N c->(∀x,X x->Sv N x)->False
end Sw
namespace Sw
open PySem PySem.Spec PyProof.Rows L2
structure Tree (ns:List Str) (L:List (Str×Str)) (M:Str->Option Str) (A:List Str) (zs:List Kt) (c:Str):Prop where
 kb: ∀z∈zs,KB M (hf z.ms) z.k z.b z.ms
 kl: ∀z∈zs,KL L (hf z.ms) z.k
 zn:(zs.map (·.ms)).flatten.Nodup
 zi: ∀z∈zs,∀x∈z.ms,x∈ns
 an:A.Nodup
 ai: ∀x∈A,x∈ns
 az: ∀z∈zs,∀x∈z.ms,x∉A
 cl: ∀z∈zs,∀a b,(a,b)∈L->a∈z.ms->b∈z.ms\/b∈A
 cnt:A.length+1=zs.length
 sv: ∀z∈zs,∀x∈z.ms,x≠c->(M x).isSome=true
 root: ∃z∈zs,c∈z.ms
section
variable {ns:List Str} {L:List (Str×Str)} {M N:Str->Option Str} {A:List Str} {zs:List Kt} {c:Str}
theorem Tree.one (h:Tree ns L M A zs c) {x y:Kt} (hx:x∈zs) (hy:y∈zs) {d:Str} (h1:d∈x.ms) (h2:d∈y.ms):x=y:=by
 obtain⟨i,hi⟩:=List.getElem?_of_mem hx
 obtain⟨j,hj⟩:=List.getElem?_of_mem hy
 have:=dO h.zn hi hj h1 h2
 subst this
 rw[hi] at hj
 exact Option.some.inj hj
end
def Mx (ns:List Str) (w:Wb) (P:List (Str×Str)):Prop:= ∀N,fO ns (mY w) N->(ns.filter fun c=>(mO P c).isNone).length<=(ns.filter fun c=>(N c).isNone).length
structure F4 (ns:List Str) (w:Wb) (ah:Str->Str->Prop) (P:List (Str×Str)) (pre:List Str):Prop where
 pl:Plan w P
 mx:Mx ns w P
 ba: ∀c∈pre,¬Sv P c->F3 w (fun x=>ah x c/\Sv P x) c
section
variable {ns:List Str} {w:Wb} {P P':List (Str×Str)} {ah:Str->Str->Prop} {pre:List Str} {c l:Str} {A:List Str} {zs:List Kt}
theorem hJ {P:List (Str×Str)} {x:Str}:(mO P x).isNone=true↔ ¬Sv P x:=by
 rw[Option.isNone_iff_eq_none,yI]
theorem Mx.turn (hn:ns.Nodup) (h:Mx ns w P) (e: ∀x,Sv P' x↔(x≠l/\Sv P x)\/x=c) (ne:l≠c) (hl:Sv P l) (hc: ¬Sv P c) (ln:l∈ns) (cn:c∈ns):Mx ns w P':=fun N hN=>by
 have key:(c::ns.filter fun x=>(mO P' x).isNone).Perm (l::ns.filter fun x=>(mO P x).isNone):=by
  refine qQ (List.nodup_cons.mpr ⟨fun m=> ?_,hn.filter _⟩) (List.nodup_cons.mpr ⟨fun m=> ?_,hn.filter _⟩) fun x=> ?_
  ·exact hJ.mp (List.mem_filter.mp m).2 ((e c).mpr (.inr rfl))
  ·exact hJ.mp (List.mem_filter.mp m).2 hl
  ·rw[List.mem_cons,List.mem_cons,List.mem_filter,List.mem_filter,hJ,hJ,e]
   constructor
   ·rintro (a|⟨a,b⟩)
    ·subst a;exact .inr ⟨cn,hc⟩
    ·by_cases q:x=l
     ·exact .inl q
     ·exact .inr ⟨a,fun s=>b (.inl ⟨q,s⟩)⟩
   ·rintro (a|⟨a,b⟩)
    ·subst a;exact .inr ⟨ln,fun s=>s.elim (fun s=>s.1 rfl) ne⟩
    ·by_cases q:x=c
     ·exact .inl q
     ·exact .inr ⟨a,fun s=>s.elim (fun s=>b s.2) q⟩
 have k2:=key.length_eq
 rw[List.length_cons,List.length_cons] at k2
 have:=h N hN
 omega
theorem F4.turn (hw:f7 ns w) (hn:ns.Nodup) (h:F4 ns w ah P pre) (hp:Plan w P') (e: ∀x,Sv P' x↔(x≠l/\Sv P x)\/x=c) (ne:l≠c) (hl:Sv P l) (hc: ¬Sv P c) (cn:c∈ns) (hpre: ∀d∈pre,¬ah l d/\ ¬ah c d/\d≠l):F4 ns w ah P' (pre++[c]):=
 ⟨hp,h.mx.turn hn e ne hl hc (hl.inn hw h.pl) cn,fun d hd nd=>by
  rcases List.mem_append.mp hd with hd|hd
  ·obtain⟨p1,p2,p3⟩:=hpre d hd
   have nP: ¬Sv P d:=fun s=>nd ((e d).mpr (.inl ⟨p3,s⟩))
   intro N hN h1 h2
   exact h.ba d hd nP N hN h1 fun x hx=>h2 x ⟨hx.1,(e x).mpr (.inl ⟨fun q=>p1 (q▸hx.1),hx.2⟩)⟩
  ·rw[List.mem_singleton.mp hd] at nd
   exact absurd ((e c).mpr (.inr rfl)) nd⟩
theorem Tree.conn (hw:f7 ns w) (hn:ns.Nodup) {M:Str->Option Str} {A:List Str} {zs:List Kt} (h:Tree ns (mY w) M A zs c) {z:Kt} (hz:z∈zs) {a:Str} (ha:a∈z.ms) (d:Str):Rch w (fun a=>a∈A) a d↔d∈z.ms:=by
 constructor
 ·intro r
  induction r with
  |refl=>exact ha
  |step _ e nb ih=>
   rcases h.cl z hz _ _ ((kg hw hn).mpr ⟨_,e⟩) ih with q|q
   ·exact q
   ·exact absurd q nb
 ·intro hc
  exact (h.kb z hz).conn hw hn (h.kl z hz) (fun c hc=>h.az z hz c hc) a ha d hc
end
end Sw
namespace Sw
open PySem PySem.Spec PyProof.Rows L2
section
variable {ns:List Str} {w:Wb} {N:List (Str×Str)} {f o:Str}
theorem BU {P:List (Str×Str)} {x:Str}:x∈aZ P↔Sv P x:=by
 rw[dN]
 constructor
 ·rintro⟨q,hq,e|e⟩
  ·exact⟨q.2,.inl (e▸hq)⟩
  ·exact⟨q.1,.inr (e▸hq)⟩
 ·rintro⟨y,h|h⟩
  ·exact⟨_,h,.inl rfl⟩
  ·exact⟨_,h,.inr rfl⟩
structure F5 (L y:List (List Str)) (pre:List Str):Prop where
 ne:y≠[]
 sub: ∀S∈y,S∈L
 cl: ∀S∈y,∀T∈L,(∀x∈pre,x∈S->x∈T)->T∈y
 ba: ∀(p q:List Str) (c:Str),pre=p++c::q-> ∀S∈y,c∉S-> ∀T∈L,(∀x∈p,x∈S->x∈T)->c∉T
theorem F5.keep {L y:List (List Str)} {pre:List Str} {x:Str} (h:F5 L y pre) (e: ∀S∈y,x∉S):F5 L y (pre++[x]):=by
 refine⟨h.ne,h.sub,fun S hS T hT k=>h.cl S hS T hT fun z hz=>k z (List.mem_append_left _ hz),fun p q c hp S hS nc T hT k=> ?_⟩
 rcases List.eq_nil_or_concat q with r|⟨q',d,r⟩
 ·subst r
  obtain⟨e1,e2⟩:=List.append_inj' hp rfl
  have e2:x=c:=List.head_eq_of_cons_eq e2
  subst e1;subst e2
  exact e T (h.cl S hS T hT k)
 ·rw[List.concat_eq_append] at r
  subst r
  have hp:pre++[x]=(p++c::q')++[d]:=by rw[hp];simp
  obtain⟨e1,_⟩:=List.append_inj' hp rfl
  exact h.ba p q' c e1 S hS nc T hT k
end
end Sw
namespace Sw
open PySem PySem.Spec PyProof.Rows L2
section
variable {ns:List Str} {L:List (Str×Str)} {M N:Str->Option Str} {A:List Str} {zs:List Kt}
theorem Cert.rep (h:Cert ns L M A zs) (hN:fO ns L N) (irr: ∀a,(a,a)∉L): ∃f:Kt->Str,(zs.map f).Nodup/\ ∀z∈zs,∃c∈z.ms,(N c=none/\f z=c)\/(N c=some (f z)/\f z∈A):=by
 classical
 have hi: ∀a,N a≠some a:=fun a e=>irr a (hN.edge _ _ e)
 have key: ∀z∈zs,∃g,∃c∈z.ms,(N c=none/\g=c)\/(N c=some g/\g∈A):=fun z hz=>by
  refine Classical.byContradiction fun q=> ?_
  have par:=pf hN.sym hi z.ms.length (Nat.le_refl _) (h.kb z hz).nodup fun c hc=>by
   cases e:N c with
   |none=>exact absurd ⟨c,c,hc,.inl ⟨e,rfl⟩⟩ q
   |some d=>
    refine⟨d,?_,rfl⟩
    rcases h.cl z hz c d (hN.edge _ _ e) hc with a|a
    ·exact a
    ·exact absurd ⟨d,c,hc,.inr ⟨e,a⟩⟩ q
  have:=(h.kb z hz).uG
  omega
 let f:Kt->Str:=fun z=>if hz:z∈zs then Classical.choose (key z hz) else ""
 have hf: ∀z∈zs,∃c∈z.ms,(N c=none/\f z=c)\/(N c=some (f z)/\f z∈A):=fun z hz=>by
  have e:f z=Classical.choose (key z hz):=dif_pos hz
  rw[e]
  exact Classical.choose_spec (key z hz)
 have one: ∀x∈zs,∀y∈zs,∀c,c∈x.ms->c∈y.ms->x=y:=fun x hx y hy c h1 h2=>by
  obtain⟨i,hi⟩:=List.getElem?_of_mem hx
  obtain⟨j,hj⟩:=List.getElem?_of_mem hy
  have:=dO h.zn hi hj h1 h2
  subst this
  rw[hi] at hj
  exact Option.some.inj hj
 refine⟨f,nodup_map_on (vT h) fun x hx y hy e=> ?_,hf⟩
 obtain⟨c,hc,c1⟩:=hf x hx
 obtain⟨d,hd,d1⟩:=hf y hy
 rcases c1 with ⟨_,c2⟩|⟨c2,c3⟩
 ·rcases d1 with ⟨_,d2⟩|⟨_,d3⟩
  ·have:c=d:=by rw[<-c2,←d2,e]
   subst this
   exact one x hx y hy c hc hd
  ·exact absurd (by rw[<-c2,e];exact d3) (h.az x hx c hc)
 ·rcases d1 with ⟨_,d2⟩|⟨d2,_⟩
  ·exact absurd (by rw[<-d2,←e];exact c3) (h.az y hy d hd)
  ·rw[<-e] at d2
   have:=hN.inj c2 d2
   subst this
   exact one x hx y hy c hc hd
theorem Cert.HM (h:Cert ns L M A zs) (hn:ns.Nodup) (hN:fO ns L N) (irr: ∀a,(a,a)∉L) (e:(ns.filter fun c=> !(N c).isSome).length+A.length=zs.length) {x:Str} (hx:x∈ns) (nx:N x=none): ∃z∈zs,x∈z.ms:=by
 obtain⟨f,nd,hf⟩:=h.rep hN irr
 have xu:x∈ns.filter fun c=> !(N c).isSome:=List.mem_filter.mpr ⟨hx,by rw[nx];rfl⟩
 by_cases q:x∈zs.map f
 ·obtain⟨z,hz,e2⟩:=List.mem_map.mp q
  obtain⟨c,hc,c1⟩:=hf z hz
  rcases c1 with ⟨_,c2⟩|⟨c2,_⟩
  ·exact⟨z,hz,by rw[<-e2,c2];exact hc⟩
  ·have:=hN.sym _ _ c2
   rw[e2,nx] at this;cases this
 ·exfalso
  have l:=ka nd (ys:=((ns.filter fun c=> !(N c).isSome).erase x)++A) fun g hg=>by
   have gx:g≠x:=fun e=>q (e▸hg)
   obtain⟨z,hz,rfl⟩:=List.mem_map.mp hg
   obtain⟨c,hc,c1⟩:=hf z hz
   rcases c1 with ⟨c1,c2⟩|⟨_,c3⟩
   ·refine List.mem_append_left _ ((List.mem_erase_of_ne gx).mpr (List.mem_filter.mpr ⟨by rw[c2];exact h.zi z hz c hc,by rw[c2,c1];rfl⟩))
   ·exact List.mem_append_right _ c3
  rw[List.length_map,List.length_append,List.length_erase_of_mem xu] at l
  have:=List.length_pos_of_mem xu
  omega
theorem BV (sym: ∀a b,(a,b)∈L->(b,a)∈L) {qs:List (Str×Str)} (hn:ns.Nodup) (h2:fq qs) (h3: ∀q∈qs,q∈L) (h4: ∀q∈qs,q.1∈ns/\q.2∈ns): ∃N:Str->Option Str,fO ns L N/\(∀x y,N x=some y↔(x,y)∈qs\/(y,x)∈qs)/\2*qs.length+(ns.filter fun c=> !(N c).isSome).length=ns.length:=by
 obtain⟨N,hN⟩: ∃N:Str->Option Str,∀x y,N x=some y↔(x,y)∈qs\/(y,x)∈qs:=by
  refine⟨fun x=>aD (qs.flatMap fun p=>[(p.1,p.2),(p.2,p.1)]) x,fun x y=> ?_⟩
  have kn:((qs.flatMap fun p=>[(p.1,p.2),(p.2,p.1)]).map (·.1)).Nodup:=by
   have:(qs.flatMap fun p=>[(p.1,p.2),(p.2,p.1)]).map (·.1)=aZ qs:=by
    unfold aZ
    rw[List.map_flatMap]
    rfl
   rw[this];exact h2
  have mem:(x,y)∈(qs.flatMap fun p=>[(p.1,p.2),(p.2,p.1)])↔(x,y)∈qs\/(y,x)∈qs:=by
   rw[List.mem_flatMap]
   constructor
   ·rintro⟨p,hp,h⟩
    rcases List.mem_cons.mp h with e|e
    ·cases e;exact .inl hp
    ·have:=List.mem_singleton.mp e
     cases this;exact .inr hp
   ·rintro (h|h)
    ·exact⟨_,h,List.mem_cons_self⟩
    ·exact⟨_,h,by simp⟩
  rw[<-mem]
  exact⟨fun h=>jZ h,fun h=>jJ kn h⟩
 refine⟨N,⟨fun a b e=>(hN b a).mpr ((hN a b).mp e).symm,fun a b e=> ?_,fun a b e=> ?_⟩,hN,?_⟩
 ·rcases (hN a b).mp e with q|q
  ·exact (h4 _ q).1
  ·exact (h4 _ q).2
 ·rcases (hN a b).mp e with q|q
  ·exact h3 _ q
  ·exact sym _ _ (h3 _ q)
 have e:(aZ qs).length=(ns.filter fun c=>(N c).isSome).length:=by
  refine (qQ h2 (hn.filter _) fun x=> ?_).length_eq
  rw[dN,List.mem_filter]
  constructor
  ·rintro⟨q,hq,e⟩
   rcases e with rfl|rfl
   ·exact⟨(h4 q hq).1,by rw[(hN q.1 q.2).mpr (.inl hq)];rfl⟩
   ·exact⟨(h4 q hq).2,by rw[(hN q.2 q.1).mpr (.inr hq)];rfl⟩
  ·rintro⟨_,e⟩
   obtain⟨d,hd⟩:=Option.isSome_iff_exists.mp e
   rcases (hN x d).mp hd with q|q
   ·exact⟨_,q,.inl rfl⟩
   ·exact⟨_,q,.inr rfl⟩
 rw[rO] at e
 have:=kM (fun c=>(N c).isSome) ns
 omega
theorem Cert.left (h:Cert ns L M A zs) (g:Gr ns L M) {k:Nat} (hk:2*k+(ns.filter fun c=> !(M c).isSome).length=ns.length) {x:Str} (hx:x∈ns) (mt:Mt L (ns.filter fun c=> !decide (c=x)) k): ∃z∈zs,x∈z.ms:=by
 obtain⟨qs,q1,q2,q3,q4⟩:=mt
 have q5: ∀q∈qs,q.1∈ns/\q.2∈ns:=fun q hq=>⟨(List.mem_filter.mp (q4 q hq).1).1,(List.mem_filter.mp (q4 q hq).2).1⟩
 obtain⟨N,MN,hN,cnt⟩:=BV g.sym g.nd q2 q3 q5
 have nx:N x=none:=by
  cases e:N x with
  |none=>rfl
  |some y=>
   rcases (hN x y).mp e with q|q
   ·have:=(List.mem_filter.mp (q4 _ q).1).2;simp at this
   ·have:=(List.mem_filter.mp (q4 _ q).2).2;simp at this
 have c2:=h.cnt
 exact h.HM g.nd MN g.irr (by omega) hx nx
end
end Sw
namespace Sw
open PySem PySem.Spec PyProof.Rows L2
structure HP (w:Wb) (cs:List Str) (p:List (Str×Str)):Prop where
 plan:Plan w p
 inn: ∀q∈p,q.1∈cs/\q.2∈cs
section
variable {w:Wb} {cs:List Str} {c x:Str} {p:List (Str×Str)}
theorem Plan.nil (w:Wb):Plan w []:=⟨List.Pairwise.nil,List.nodup_nil,by simp,by simp⟩
theorem HP.nil (w:Wb) (cs:List Str):HP w cs []:=⟨Plan.nil w,by simp⟩
end
end Sw
namespace Sw
open PySem PySem.Spec PyProof.Rows L2
structure OkP (ss:List (Str×Str)) (tk:List Str) (p:List (Str×Str)):Prop where
 rise:p.Pairwise pLt
 inn: ∀q∈p,q∈ss
 apart:fq p
 free: ∀z∈aZ p,z∉tk
theorem OkP.nil (ss:List (Str×Str)) (tk:List Str):OkP ss tk []:=⟨List.Pairwise.nil,by simp,List.nodup_nil,by simp[aZ]⟩
end Sw
namespace Sw
open PySem PySem.Spec PyProof.Rows L2
section
variable {ns:List Str} {w:Wb} {P Q:List (Str×Str)} {ord:List Str}
theorem rW (hw:f7 ns w) (hn:ns.Nodup) (hP:Plan w P):(ns.filter fun c=>(mO P c).isNone).length+2*P.length=ns.length:=by
 have h1:(ns.filter fun c=> !(mO P c).isNone).Perm (aZ P):=qQ (hn.filter _) hP.apart fun x=>by
  rw[List.mem_filter,BU]
  constructor
  ·rintro⟨_,h⟩
   refine Classical.byContradiction fun g=> ?_
   rw[hJ.mpr g] at h
   cases h
  ·intro h
   refine⟨h.inn hw hP,?_⟩
   cases e:(mO P x).isNone with
   |true=>exact absurd h (hJ.mp e)
   |false=>rfl
 have h2:=h1.length_eq
 rw[rO] at h2
 have h3: ∀(l:List Str) (f:Str->Bool),(l.filter f).length+(l.filter fun c=> !f c).length=l.length:=by
  intro l f
  induction l with
  |nil=>rfl
  |cons a l ih=>
   cases e:f a with
   |true=>rw[List.filter_cons_of_pos e,List.filter_cons_of_neg (by rw[e];decide)];simp only[List.length_cons];omega
   |false=>rw[List.filter_cons_of_neg (by rw[e];decide),List.filter_cons_of_pos (by rw[e];rfl)];simp only[List.length_cons];omega
 have:=h3 ns fun c=>(mO P c).isNone
 omega
theorem Mx.len (h:Mx ns w P) (hw:f7 ns w) (hn:ns.Nodup) (hP:Plan w P) (hQ:Plan w Q):Q.length<=P.length:=by
 have h1:=h _ (HL hw hn hQ)
 have h2:=rW hw hn hP
 have h3:=rW hw hn hQ
 omega
end
end Sw
namespace Sw
open PySem PySem.Spec PyProof.Rows L2
def Tr:SR:=fun _ _=>True
def FlA (m':Str->Option Str) (row:List Str):Prop:=Alt Tr (E0 m') row
section
variable {X Y:SR}
theorem Alt.split: ∀(n:Nat) {r s:List Str},r.length<=n->r.length%2=1->Alt X Y (r++s)->Alt X Y r/\Alt Y X s/\ ∀a b,r.getLast? =some a->s.head? =some b->X a b
 |n,[],_,_,h,_=>by simp at h
 |n,[x],[],_,_,_=>⟨trivial,trivial,fun a b _ h=>by cases h⟩
 |n,[x],y::s,_,_,h=>⟨trivial,h.2,fun a b h1 h2=>by cases h1;cases h2;exact h.1⟩
 |n,[x,y],_,_,h,_=>by simp at h
 |0,x::y::z::r,_,h,_,_=>by simp at h
 |n+1,x::y::z::r,s,hn,ho,hr=>by
  obtain⟨a,b,c⟩:=Alt.split n (r:=z::r) (s:=s) (by simp at hn ⊢; omega) (by simp at ho ⊢; omega) hr.2.2
  refine⟨⟨hr.1,hr.2.1,a⟩,b,fun u v h1 h2=>c u v ?_ h2⟩
  rw[<-h1];simp[List.getLast?_cons_cons]
end
theorem Tr.symm (a b:Str) (_:Tr a b):Tr b a:=trivial
structure Flp (m m':Str->Option Str) (ms row:List Str):Prop where
 off: ∀d∈ms,d∉row->m' d=m d
 on:FlA m' row
structure uH (m:Str->Option Str) (L:List (Str×Str)) (n:Nat) (k:aC) (ms:List Str) (c b:Str) (row:List Str):Prop extends Led m L ms c b row where
 reb: ∀m',Flp m m' ms row->KB m' n k c ms
theorem uH.single {m:Str->Option Str} {L:List (Str×Str)} {n:Nat} (c:Str):uH m L (n+1) (.single c) [c] c c [c]:=⟨Led.single c,fun _ _=>⟨rfl,rfl⟩⟩
structure yL (m:Str->Option Str) (L:List (Str×Str)) (N:Nat) (t:List Kt) (w:Nat->Nat) (Lk:Nat->Str->Str->Prop) (c:Str) (k0 k:Nat) (row:List Str) (nb:Nat->Str):Prop extends Part m L t w c k row where
 le:k<=k0
 lt:k0<t.length
 par:(k0 -k)%2=0
 hd:nb k0=c
 up: ∀x∈row,∃j y,k<=j/\j<=k0/\t[w j]? =some y/\x∈y.ms
 lk: ∀j,k<=j->j<k0->(k0 -j)%2=0->Lk j (nb (j+1)) (nb j)
 reb: ∀m',(∀j y,k<=j->j<=k0->t[w j]? =some y-> ∀d∈y.ms,d∉row->m' d=m d)->FlA m' row->(∀j y,k<=j->j<=k0->t[w j]? =some y->KB m' N y.k (nb j) y.ms)/\ ∀j,k<=j->j<k0->(k0 -j)%2=0->E0 m' (nb (j+1)) (nb j)
section
variable {m:Str->Option Str} {L:List (Str×Str)} {N:Nat} {t:List Kt} {w:Nat->Nat} {Lk:Nat->Str->Str->Prop} {c:Str} {k0 k:Nat} {row r1 r2:List Str} {nb:Nat->Str}
theorem uH.part (hk:k<t.length) {x:Kt} (hx:t[w k]? =some x) (h:uH m L N x.k x.ms c x.b row):yL m L N t w Lk c k k row (fun _=>c) where
 toPart:=Led.part hk hx h.toLed
 le:=Nat.le_refl _
 lt:=hk
 par:=by omega
 hd:=rfl
 up:=fun a ha=>⟨k,x,Nat.le_refl _,Nat.le_refl _,hx,h.inn a ha⟩
 lk:=fun j h1 h2=>by omega
 reb:=fun m' h1 h2=>⟨fun j y a b hy=>by
  have:j=k:=by omega
  subst this
  rw[hx] at hy;cases hy
  exact h.reb m' ⟨fun d hd hn=>h1 j x a b hx d hd hn,h2⟩,fun j h1 h2=>by omega⟩
theorem yL.step (nd:(t.map (·.ms)).flatten.Nodup) (wi: ∀i j,i<t.length->j<t.length->w i=w j->i=j) (hk:k+2<t.length) (h:yL m L N t w Lk c k0 (k+2) row nb) {x y z:Kt} (hx:t[w (k+2)]? =some x) (hy:t[w (k+1)]? =some y) (hz:t[w k]? =some z) (e0:E0 m x.b y.b) {l e:Str} (e1:E1 m L l e) (hl:Lk k l e) (h1:uH m L N y.k y.ms l y.b r1) (h2:uH m L N z.k z.ms e z.b r2):
  yL m L N t w Lk c k0 k (row++r1.reverse++r2) (fun j=>if j=k then e else if j=k+1 then l else nb j):=by
 have dis: ∀{i j:Nat} {u v:Kt},t[w i]? =some u->t[w j]? =some v->i<t.length->j<t.length-> ∀{a:Str},a∈u.ms->a∈v.ms->i=j:=fun {i j u v} hu hv hi hj {a} ha hb=>wi _ _ hi hj (dO nd hu hv ha hb)
 have hle:=h.le
 have hlt:=h.lt
 have hpar:=h.par
 have nbe: ∀j,k+2<=j->(if j=k then e else if j=k+1 then l else nb j)=nb j:=fun j hj=>by rw[if_neg (by omega),if_neg (by omega)]
 refine⟨Part.step nd wi hk h.toPart hx hy hz e0 e1 h1.toLed h2.toLed,by omega,hlt,by omega,by rw[nbe _ hle];exact h.hd,fun a ha=> ?_,fun j j1 j2 j3=> ?_,fun m' f1 f2=> ?_⟩
 ·rcases List.mem_append.mp ha with ha|ha
  ·rcases List.mem_append.mp ha with ha|ha
   ·obtain⟨j,v,j1,j2,j3,j4⟩:=h.up a ha
    exact⟨j,v,by omega,j2,j3,j4⟩
   ·exact⟨k+1,y,by omega,by omega,hy,h1.inn a (List.mem_reverse.mp ha)⟩
  ·exact⟨k,z,Nat.le_refl _,by omega,hz,h2.inn a ha⟩
 ·by_cases jk:j=k
  ·subst jk
   rw[if_pos rfl,if_neg (by omega),if_pos rfl]
   exact hl
  ·by_cases jk1:j=k+1
   ·omega
   ·rw[nbe j (by omega),nbe (j+1) (by omega)]
    exact h.lk j (by omega) j2 j3
 ·have o1:=h.odd
  have o2:=h1.odd
  unfold FlA at f2
  rw[List.append_assoc] at f2
  obtain⟨a1,a2,_⟩:=Alt.split _ (Nat.le_refl _) o1 f2
  obtain⟨a3,a4,a5⟩:=Alt.split _ (Nat.le_refl _) (by rw[List.length_reverse];exact o2) a2
  have a6:=a3.rev E0.symm Tr.symm _ (Nat.le_refl _) (by rw[List.length_reverse];exact o2)
  rw[List.reverse_reverse] at a6
  have nin: ∀{j:Nat} {v:Kt} {d:Str},j<t.length->t[w j]? =some v->d∈v.ms->(j<k+2->d∉row)/\(j≠k+1->d∉r1)/\(j≠k->d∉r2):=fun {j v d} jl hv hd=>by
   refine⟨fun j1 m1=> ?_,fun j1 m1=> ?_,fun j1 m1=> ?_⟩
   ·obtain⟨i,u,i1,i2,i3,i4⟩:=h.up d m1
    have:=dis i3 hv (by omega) jl i4 hd
    omega
   ·exact j1 (dis hv hy jl (by omega) hd (h1.inn d m1))
   ·exact j1 (dis hv hz jl (by omega) hd (h2.inn d m1))
  have out: ∀d,d∉row->d∉r1->d∉r2->d∉row++r1.reverse++r2:=fun d n1 n2 n3 g=>by
   rcases List.mem_append.mp g with g|g
   ·rcases List.mem_append.mp g with g|g
    ·exact n1 g
    ·exact n2 (List.mem_reverse.mp g)
   ·exact n3 g
  obtain⟨b1,b2⟩:=h.reb m' (fun j v j1 j2 hv d hd hn=>by
   obtain⟨_,c2,c3⟩:=nin (by omega) hv hd
   exact f1 j v (by omega) j2 hv d hd (out d hn (c2 (by omega)) (c3 (by omega)))) a1
  have by':=h1.reb m' ⟨fun d hd hn=>by
   obtain⟨c1,_,c3⟩:=nin (by omega) hy hd
   exact f1 (k+1) y (by omega) (by omega) hy d hd (out d (c1 (by omega)) hn (c3 (by omega))),a6⟩
  have bz':=h2.reb m' ⟨fun d hd hn=>by
   obtain⟨c1,c2,_⟩:=nin (by omega) hz hd
   exact f1 k z (by omega) (by omega) hz d hd (out d (c1 (by omega)) (c2 (by omega)) hn),a4⟩
  refine⟨fun j v j1 j2 hv=> ?_,fun j j1 j2 j3=> ?_⟩
  ·by_cases jk:j=k
   ·subst jk
    rw[hz] at hv;cases hv
    rw[if_pos rfl];exact bz'
   ·by_cases jk1:j=k+1
    ·subst jk1
     rw[hy] at hv;cases hv
     rw[if_neg (by omega),if_pos rfl];exact by'
    ·rw[nbe j (by omega)];exact b1 j v (by omega) j2 hv
  ·by_cases jk:j=k
   ·subst jk
    rw[if_pos rfl,if_neg (by omega),if_pos rfl]
    exact a5 l e (by rw[List.getLast?_reverse];exact h1.head) h2.head
   ·by_cases jk1:j=k+1
    ·omega
    ·rw[nbe j (by omega),nbe (j+1) (by omega)]
     exact b2 j (by omega) j2 j3
def reT (t:List Kt) (f:Nat->Str):List Kt:=t.mapIdx fun i x=>⟨x.k,f i,x.ms⟩
theorem ov (f:Nat->Str):(reT t f).length=t.length:=by unfold reT;simp
theorem uI (f:Nat->Str) (i:Nat):(reT t f)[i]? =t[i]?.map fun x=>⟨x.k,f i,x.ms⟩:=by unfold reT;simp
theorem F6 (f:Nat->Str):(reT t f).map (·.ms)=t.map (·.ms):=by
 apply List.ext_getElem?
 intro i
 rw[List.getElem?_map,uI,List.getElem?_map]
 cases t[i]? <;> rfl
theorem fN.reb {m':Str->Option Str} {p q:Nat} {l:List (Str×Str)} (h:fN m t p l) (hk: ∀x∈t,KB m N x.k x.b x.ms) (hq:q<t.length) (f:Nat->Str) (on:Nat->Prop) [DecidablePred on]
  (hon: ∀i y,on i->t[i]? =some y->KB m' N y.k (f i) y.ms) (hoff: ∀i y,¬on i->t[i]? =some y->f i=y.b/\ ∀d∈y.ms,m' d=m d)
  (hl: ∀i a,i<t.length->off t.length q i%2=1->l[i]? =some a->(on i/\on (nx t.length i)/\a=(f i,f (nx t.length i))/\E0 m' (f i) (f (nx t.length i)))\/(¬on i/\ ¬on (nx t.length i)/\off t.length p i%2=1)):
  fN m' (reT t f) q l/\ ∀x∈reT t f,KB m' N x.k x.b x.ms:=by
 constructor
 ·refine⟨by rw[ov];exact hq,by rw[ov];exact h.odd,by rw[F6];exact h.nd,by rw[ov];exact h.len,fun j x y a jl hx hy ha=> ?_,by rw[ov];exact h.three⟩
  rw[ov] at jl hy⊢
  rw[uI] at hx hy
  obtain⟨x0,hx0,rfl⟩:=Option.map_eq_some_iff.mp hx
  obtain⟨y0,hy0,rfl⟩:=Option.map_eq_some_iff.mp hy
  obtain⟨g1,g2,g3⟩:=h.link j x0 y0 a jl hx0 hy0 ha
  refine⟨fun o=> ?_,g2,g3⟩
  rcases hl j a jl o ha with ⟨_,_,e1,e2⟩|⟨n1,n2,o2⟩
  ·exact⟨e1,e2.1,e2.2⟩
  ·obtain⟨e1,m1,m2⟩:=g1 o2
   obtain⟨f1,u1⟩:=hoff j x0 n1 hx0
   obtain⟨f2,u2⟩:=hoff _ y0 n2 hy0
   show a=(f j,f (nx t.length j))/\m' (f j)=some (f (nx t.length j))/\m' (f (nx t.length j))=some (f j)
   rw[f1,f2,u1 _ (hk x0 (List.mem_of_getElem? hx0)).base,u2 _ (hk y0 (List.mem_of_getElem? hy0)).base]
   exact⟨e1,m1,m2⟩
 ·intro x hx
  obtain⟨i,hi⟩:=List.getElem?_of_mem hx
  rw[uI] at hi
  obtain⟨x0,hx0,rfl⟩:=Option.map_eq_some_iff.mp hi
  by_cases o:on i
  ·exact hon i x0 o hx0
  ·obtain⟨e,u⟩:=hoff i x0 o hx0
   show KB m' N x0.k (f i) x0.ms
   rw[e]
   exact (hk x0 (List.mem_of_getElem? hx0)).congr fun d hd _=>u d hd
end
end Sw
namespace Sw
open PySem PySem.Spec PyProof.Rows L2
def Reb (ks:List Kt) (M:Str->Option Str) (row:List Str):Prop:= ∀m',(∀v∈ks,(∃a∈row,a∈v.ms)-> ∀d∈v.ms,d∉row->m' d=M d)->FlA m' row-> ∀v∈ks,(∃a∈row,a∈v.ms)-> ∃c',KB m' (hf v.ms) v.k c' v.ms
section
variable {ns:List Str} {L:List (Str×Str)} {o:aP} {ks:List Kt} {lv:Str->Nat} {rt:Str->Str} {z w x y:Kt} {c:Str} {row r1 r2:List Str} {M M':Str->Option Str} {R:Str->Prop}
theorem Reb.led (hT:eM ns L M ks) (hn:ns.Nodup) (hz:z∈ks) (h:uH M L (hf z.ms) z.k z.ms c z.b row):Reb ks M row:=fun m' h1 h2 v hv ⟨a,a1,a2⟩=>by
 have:=hT.one hn hz hv (h.inn a a1) a2
 subst this
 exact⟨c,h.reb m' ⟨h1 z hz ⟨a,a1,a2⟩,h2⟩⟩
theorem Reb.step (h:SI ns L o ks lv rt) (g:Gr ns L (aD o.mates.l)) (hw:WP L o ks lv rt c z row) (hr:Reb ks (aD o.mates.l) row) {s:Stq} (u:UpS L o ks lv rt z s) (h1:uH (aD o.mates.l) L (hf s.x.ms) s.x.k s.x.ms s.other s.x.b r1) (h2:uH (aD o.mates.l) L (hf s.y.ms) s.y.k s.y.ms s.one s.y.b r2):Reb ks (aD o.mates.l) (row++r1.reverse++r2):=fun m' f1 f2=>by
 have a1:=u.l1
 have a2:=u.l2
 have one: ∀{u' v:Kt},u'∈ks->v∈ks-> ∀{a:Str},a∈u'.ms->a∈v.ms->u'=v:=fun {u' v} hu hv {a} ha hb=>h.tops.one g.nd hu hv ha hb
 have far: ∀{v:Kt},v∈ks->(∃a∈row,a∈v.ms)->v≠s.x/\v≠s.y:=fun {v} hv ⟨a,b1,b2⟩=>by
  obtain⟨u',u1,u2,u3,_⟩:=hw.inn a b1
  have:=one hv u1 b2 u2
  subst this
  exact⟨fun e=>by rw[e] at u3;omega,fun e=>by rw[e] at u3;omega⟩
 have xy:s.x≠s.y:=fun e=>by rw[e] at a1;omega
 unfold FlA at f2
 rw[List.append_assoc] at f2
 obtain⟨b1,b2,_⟩:=Alt.split _ (Nat.le_refl _) hw.odd f2
 obtain⟨b3,b4,_⟩:=Alt.split _ (Nat.le_refl _) (by rw[List.length_reverse];exact h1.odd) b2
 have b5:=b3.rev E0.symm Tr.symm _ (Nat.le_refl _) (by rw[List.length_reverse];exact h1.odd)
 rw[List.reverse_reverse] at b5
 have out: ∀d,d∉row->d∉r1->d∉r2->d∉row++r1.reverse++r2:=fun d n1 n2 n3 q=>by
  rcases List.mem_append.mp q with q|q
  ·rcases List.mem_append.mp q with q|q
   ·exact n1 q
   ·exact n2 (List.mem_reverse.mp q)
  ·exact n3 q
 intro v hv ⟨a,m1,m2⟩
 rcases List.mem_append.mp m1 with m1|m1
 ·rcases List.mem_append.mp m1 with m1|m1
  ·refine hr m' (fun v' hv' t' d hd hn=> ?_) b1 v hv ⟨a,m1,m2⟩
   obtain⟨t1,t2,t3⟩:=t'
   obtain⟨e1,e2⟩:=far hv' ⟨t1,t2,t3⟩
   exact f1 v' hv' ⟨t1,List.mem_append_left _ (List.mem_append_left _ t2),t3⟩ d hd (out d hn (fun q=>e1 (one hv' u.xk hd (h1.inn d q))) fun q=>e2 (one hv' u.yk hd (h2.inn d q)))
  ·have m1':=List.mem_reverse.mp m1
   have e:=one u.xk hv (h1.inn a m1') m2
   subst e
   exact⟨_,h1.reb m' ⟨fun d hd hn=>f1 _ u.xk ⟨a,List.mem_append_left _ (List.mem_append_right _ m1),m2⟩ d hd (out d (fun q=>(far u.xk ⟨d,q,hd⟩).1 rfl) hn fun q=>xy (one u.xk u.yk hd (h2.inn d q))),b5⟩⟩
 ·have e:=one u.yk hv (h2.inn a m1) m2
  subst e
  exact⟨_,h2.reb m' ⟨fun d hd hn=>f1 _ u.yk ⟨a,List.mem_append_right _ m1,m2⟩ d hd (out d (fun q=>(far u.yk ⟨d,q,hd⟩).2 rfl) (fun q=>xy (one u.xk u.yk (h1.inn d q) hd)) hn),b4⟩⟩
end
inductive Sbk (a:aC):aC->Prop where
 |refl:Sbk a a
 |inn {k:aC} {r:List aC} {l:List (Str×Str)}:k∈r->Sbk a k->Sbk a (.group r l)
theorem Sbk.trans {a b c:aC} (h:Sbk a b) (g:Sbk b c):Sbk a c:=by
 induction g with
 |refl=>exact h
 |inn m _ ih=>exact .inn m ih
theorem Sbk.kb {m:Str->Option Str} {a k:aC} (h:Sbk a k): ∀{n:Nat} {b:Str} {ms:List Str},KB m n k b ms-> ∃n' b' ms',KB m n' a b' ms':=by
 induction h with
 |refl=>intro n b ms g;exact⟨n,b,ms,g⟩
 |inn hm _ ih=>
  intro n b ms g
  cases n with
  |zero=>exact g.elim
  |succ n=>
   obtain⟨t,p,h1,h2,h3,h4,h5⟩:=g
   rw[h2] at hm
   obtain⟨x,hx,rfl⟩:=List.mem_map.mp hm
   exact ih (h3 x hx)
theorem yM {R S:aC->List Str->Prop}: ∀{r:List aC} {xs ys:List (List Str)},(∀k∈r,∀a b,R k a->S k b->a=b)->F2 R r xs->F2 S r ys->xs=ys
 |_,_,_,_,.nil,.nil=>rfl
 |k::r,a::xs,b::ys,h,.cons h1 h2,.cons g1 g2=>by
  rw[h k List.mem_cons_self a b h1 g1,yM (fun k hk=>h k (List.mem_cons_of_mem _ hk)) h2 g2]
theorem KM.uniq: ∀{n n':Nat} {k:aC} {ms ms':List Str},KM n k ms->KM n' k ms'->ms=ms'
 |0,_,_,_,_,h,_=>h.elim
 |_+1,0,_,_,_,_,h=>h.elim
 |n+1,n'+1,.single c,_,_,h,g=>h.trans g.symm
 |n+1,n'+1,.group r l,_,_,⟨rs,h1,h2⟩,⟨rs',g1,g2⟩=>by
  have e:=yM (R:=KM n) (S:=KM n') (fun k _ a b ha hb=>KM.uniq ha hb) h1 g1
  rw[h2,g2,e]
theorem vU {t:List Kt} (hp: ∀x∈t,1<=x.ms.length):t.length<=(t.map (·.ms)).flatten.length:=by
 induction t with
 |nil=>exact Nat.zero_le _
 |cons x t ih=>
  have:=hp x List.mem_cons_self
  have:=ih fun y hy=>hp y (List.mem_cons_of_mem _ hy)
  rw[List.map_cons,List.flatten_cons,List.length_append,List.length_cons]
  omega
theorem zG {t:List Kt} (hp: ∀x∈t,1<=x.ms.length) {x:Kt} (hx:x∈t):x.ms.length+t.length<=(t.map (·.ms)).flatten.length+1:=by
 induction t with
 |nil=>cases hx
 |cons y t ih=>
  rw[List.map_cons,List.flatten_cons,List.length_append,List.length_cons]
  rcases List.mem_cons.mp hx with rfl|hx
  ·have:=vU fun z hz=>hp z (List.mem_cons_of_mem x hz)
   omega
  ·have:=ih (fun z hz=>hp z (List.mem_cons_of_mem _ hz)) hx
   have:=hp y List.mem_cons_self
   omega
theorem KB.fit {m:Str->Option Str}: ∀{n:Nat} {k:aC} {b:Str} {ms:List Str},KB m n k b ms->KB m (hf ms) k b ms
 |0,_,_,_,h=>h.elim
 |n+1,.single c,b,ms,h=>by
  rw[h.2,show hf [c]=0+1 by simp[hf]]
  exact⟨h.1,rfl⟩
 |n+1,.group r l,b,ms,⟨t,p,h1,h2,h3,h4,h5⟩=>by
  have pos: ∀x∈t,1<=x.ms.length:=fun x hx=>List.length_pos_of_mem (h3 x hx).base
  have ml:ms.length=(t.map (·.ms)).flatten.length:=by rw[h4,(aQ _).length_eq]
  have t3:=h1.three
  have big:=vU pos
  obtain⟨q,hq⟩: ∃q,hf ms=q+1:=⟨hf ms -1,by unfold hf;omega⟩
  rw[hq]
  refine⟨t,p,h1,h2,fun x hx=>(h3 x hx).fit.mono ?_,h4,h5⟩
  have:=zG pos hx
  unfold hf at hq⊢
  omega
theorem KB.part {m:Str->Option Str} {m0:Str->Option Str} {a k:aC} {n n0:Nat} {b b0:Str} {ms ms0:List Str} (h:KB m n k b ms) (s:Sbk a k) (h0:KB m0 n0 a b0 ms0): ∃c,KB m (hf ms0) a c ms0:=by
 obtain⟨n',b',ms',g⟩:=s.kb h
 have:=KM.uniq g.km h0.km
 subst this
 exact⟨b',g.fit⟩
end Sw
namespace Sw
open PySem PySem.Spec PyProof.Rows L2
def xF (q:Str×Str):Nat->aC->Prop
 |0,_=>False
 |_+1,.single _=>False
 |n+1,.group r l=>(q∈l\/(q.2,q.1)∈l)\/ ∃k∈r,xF q n k
theorem xF.symm {a b:Str}: ∀{n:Nat} {k:aC},xF (a,b) n k->xF (b,a) n k
 |0,_,h=>h.elim
 |_+1,.single _,h=>h.elim
 |n+1,.group r l,h=>h.imp (fun h=>h.symm) fun⟨k,hk,h⟩=>⟨k,hk,h.symm⟩
theorem xF.up {q:Str×Str}: ∀{n:Nat} {k:aC},xF q n k->xF q (n+1) k
 |0,_,h=>h.elim
 |_+1,.single _,h=>h.elim
 |n+1,.group r l,h=>h.imp id fun⟨k,hk,h⟩=>⟨k,hk,h.up⟩
theorem zH {ns:List Str} {L:List (Str×Str)} {M:Str->Option Str} {pre post:List Kt} {z:Kt} (h:eM ns L M (pre++z::post)) {r:List aC} {l:List (Str×Str)} (e:z.k= .group r l): ∃t:List Kt,t.map (·.k)=r/\eM ns L M (pre++t++post):=by
 have hz:z∈pre++z::post:=by simp
 have kb:=h.kb z hz
 have kl:=h.kl z hz
 obtain⟨n,hn⟩: ∃n,hf z.ms=n+1:=by
  cases q:hf z.ms with
  |zero=>rw[q] at kb;exact kb.elim
  |succ n=>exact⟨n,rfl⟩
 rw[hn,e] at kb kl
 obtain⟨t,p,h1,h2,h3,h4,h5⟩:=kb
 refine⟨t,h2.symm,?_,fun x hx=> ?_,fun x hx=> ?_⟩
 ·have p0:=h.perm
  rw[List.map_append,List.map_cons,List.flatten_append,List.flatten_cons,h4] at p0
  refine List.Perm.trans ?_ p0
  rw[List.map_append,List.map_append,List.flatten_append,List.flatten_append,List.append_assoc]
  exact List.Perm.append_left _ (List.Perm.append_right _ (aQ _).symm)
 ·rcases List.mem_append.mp hx with hx|hx
  ·rcases List.mem_append.mp hx with hx|hx
   ·exact h.kb x (List.mem_append_left _ hx)
   ·exact (h3 x hx).fit
  ·exact h.kb x (List.mem_append_right _ (List.mem_cons_of_mem _ hx))
 ·rcases List.mem_append.mp hx with hx|hx
  ·rcases List.mem_append.mp hx with hx|hx
   ·exact h.kl x (List.mem_append_left _ hx)
   ·have g:=kl.2 x.k (by rw[h2];exact List.mem_map_of_mem hx)
    have key: ∀{n:Nat} {k:aC},KL L n k-> ∀{N:Nat} {b:Str} {ms:List Str},KB M N k b ms->KL L N k:=by
     intro n
     induction n with
     |zero=>intro k h;exact h.elim
     |succ n ih=>
      intro k h N b ms g
      cases k with
      |single c=>
       cases N with
       |zero=>exact g.elim
       |succ N=>exact trivial
      |group r l=>
       cases N with
       |zero=>exact g.elim
       |succ N=>
        obtain⟨t,p,g1,g2,g3,_,_⟩:=g
        refine⟨h.1,fun k hk=> ?_⟩
        rw[g2] at hk
        obtain⟨y,hy,rfl⟩:=List.mem_map.mp hk
        exact ih (h.2 y.k (by rw[g2];exact List.mem_map_of_mem hy)) (g3 y hy)
    exact key g (h3 x hx).fit
  ·exact h.kl x (List.mem_append_right _ (List.mem_cons_of_mem _ hx))
end Sw
namespace Sw
open PySem PySem.Spec PyProof.Rows L2
mutual
def oy:aC->List Str
 | .single c=>[c]
 | .group r _=>m9 (pZ r)
def pZ:List aC->List Str
 | []=>[]
 |k::r=>oy k++pZ r
end
mutual
def grK:aC->List (List Str)
 | .single _=>[]
 | .group r _=>m9 (pZ r)::xG r
def xG:List aC->List (List Str)
 | []=>[]
 |k::r=>grK k++xG r
end
theorem kh: ∀r:List aC,xG r=(r.map grK).flatten
 | []=>rfl
 |k::r=>by unfold xG;rw[kh r];rfl
theorem nA: ∀r:List aC,pZ r=(r.map oy).flatten
 | []=>rfl
 |k::r=>by unfold pZ;rw[nA r];rfl
section
variable {m:Str->Option Str}
theorem KB.mem: ∀{n:Nat} {k:aC} {b:Str} {ms:List Str},KB m n k b ms->oy k=ms
 |0,_,_,_,h=>h.elim
 |n+1,.single c,_,_,h=>by unfold oy;exact h.2.symm
 |n+1,.group r l,b,_,⟨t,p,h1,h2,h3,h4,h5⟩=>by
  unfold oy
  rw[h4,nA,h2,List.map_map]
  congr 2
  exact List.map_congr_left fun x hx=>(h3 x hx).mem
theorem KB.gr: ∀{n:Nat} {k:aC} {b:Str} {ms:List Str},KB m n k b ms-> ∀g∈grK k,(∀c∈g,c∈ms)/\ ∃r l n' b',KB m n' (.group r l) b' g
 |0,_,_,_,h,_,_=>h.elim
 |n+1,.single c,_,_,h,g,hg=>by unfold grK at hg;cases hg
 |n+1,.group r l,b,_,h,g,hg=>by
  have hm:=h.mem
  obtain⟨t,p,h1,h2,h3,h4,h5⟩:=id h
  unfold grK at hg
  rcases List.mem_cons.mp hg with e|hg
  ·have e2:g=oy (.group r l):=by rw[e];unfold oy;rfl
   rw[e2,hm]
   exact⟨fun c hc=>hc,r,l,n+1,b,h⟩
  ·rw[kh,h2,List.map_map,List.mem_flatten] at hg
   obtain⟨gs,hgs,gm⟩:=hg
   obtain⟨x,hx,rfl⟩:=List.mem_map.mp hgs
   obtain⟨q1,q2⟩:=(h3 x hx).gr g gm
   exact⟨fun c hc=>by rw[h4,rS,bT];exact⟨x,hx,q1 c hc⟩,q2⟩
theorem KB.three {n:Nat} {r:List aC} {l:List (Str×Str)} {b:Str} {ms:List Str} (h:KB m n (.group r l) b ms):3<=ms.length/\ ∀x∈r,(oy x).length+2<=ms.length:=by
 cases n with
 |zero=>exact h.elim
 |succ n=>
  obtain⟨t,p,h1,h2,h3,h4,h5⟩:=h
  have pos: ∀y∈t.map (·.ms),1<=y.length:=fun y hy=>by
   obtain⟨x,hx,rfl⟩:=List.mem_map.mp hy
   exact List.length_pos_of_mem (h3 x hx).base
  have three:=h1.three
  have ml:ms.length=(t.map (·.ms)).flatten.length:=by rw[h4,tA]
  refine⟨?_,fun x hx=> ?_⟩
  ·have:=rT pos
   rw[List.length_map] at this
   omega
  ·rw[h2] at hx
   obtain⟨y,hy,rfl⟩:=List.mem_map.mp hx
   rw[(h3 y hy).mem]
   have:=tI pos (List.mem_map_of_mem hy)
   rw[List.length_map] at this
   omega
theorem KB.gr3 {n:Nat} {k:aC} {b:Str} {ms:List Str} (h:KB m n k b ms) {g:List Str} (hg:g∈grK k):3<=g.length/\g.length%2=1/\g.Pairwise bS:=by
 obtain⟨_,r,l,n',b',q⟩:=h.gr g hg
 exact⟨q.three.1,q.uG,q.rise⟩
theorem nB: ∀{xs:List Kt},(∀x∈xs,(grK x.k).Nodup/\ ∀g∈grK x.k,g≠[]/\ ∀c∈g,c∈x.ms)->(xs.map (·.ms)).flatten.Nodup->(xs.map fun x=>grK x.k).flatten.Nodup
 | [],_,_=>List.nodup_nil
 |x::xs,h,nd=>by
  rw[List.map_cons,List.flatten_cons,List.nodup_append] at nd⊢
  refine⟨(h x List.mem_cons_self).1,nB (fun y hy=>h y (List.mem_cons_of_mem _ hy)) nd.2.1,fun g hg g2 hg2 e=> ?_⟩
  subst e
  obtain⟨gs,hgs,gm⟩:=List.mem_flatten.mp hg2
  obtain⟨y,hy,rfl⟩:=List.mem_map.mp hgs
  obtain⟨ne,a1⟩:=(h x List.mem_cons_self).2 g hg
  obtain⟨_,a2⟩:=(h y (List.mem_cons_of_mem _ hy)).2 g gm
  cases g with
  |nil=>exact ne rfl
  |cons c g=>exact nd.2.2 c (a1 c List.mem_cons_self) c (bT.mpr ⟨y,hy,a2 c List.mem_cons_self⟩) rfl
theorem KB.xH: ∀{n:Nat} {k:aC} {b:Str} {ms:List Str},KB m n k b ms->(grK k).Nodup
 |0,_,_,_,h=>h.elim
 |n+1,.single c,_,_,h=>by unfold grK;exact List.nodup_nil
 |n+1,.group r l,b,ms,h=>by
  have hm:=h.mem
  have h3':=h.three.2
  obtain⟨t,p,h1,h2,h3,h4,h5⟩:=id h
  unfold grK
  have ge:xG r=(t.map fun x=>grK x.k).flatten:=by rw[kh,h2,List.map_map];rfl
  rw[List.nodup_cons]
  constructor
  ·intro hg
   have e2:m9 (pZ r)=ms:=by rw[<-hm];unfold oy;rfl
   rw[e2,ge,List.mem_flatten] at hg
   obtain⟨gs,hgs,gm⟩:=hg
   obtain⟨x,hx,rfl⟩:=List.mem_map.mp hgs
   obtain⟨q1,_⟩:=(h3 x hx).gr ms gm
   have l1:=ka h.nodup q1
   have l2:=h3' x.k (by rw[h2];exact List.mem_map_of_mem hx)
   rw[(h3 x hx).mem] at l2
   omega
  ·rw[ge]
   exact nB (fun x hx=>⟨(h3 x hx).xH,fun g hg=>⟨fun e=>by have:=((h3 x hx).gr3 hg).1;rw[e] at this;simp at this,((h3 x hx).gr g hg).1⟩⟩) h1.nd
end
def grT (ks:List Kt):List (List Str):=(ks.map fun x=>grK x.k).flatten
section
variable {ns:List Str} {L:List (Str×Str)} {M:Str->Option Str} {ks:List Kt} {x y:Kt} {g:List Str} {a b c:Str}
theorem yN:g∈grT ks↔ ∃x∈ks,g∈grK x.k:=by
 unfold grT
 rw[List.mem_flatten]
 constructor
 ·rintro⟨gs,hgs,gm⟩
  obtain⟨x,hx,rfl⟩:=List.mem_map.mp hgs
  exact⟨x,hx,gm⟩
 ·rintro⟨x,hx,gm⟩
  exact⟨_,List.mem_map_of_mem hx,gm⟩
theorem eM.xH (h:eM ns L M ks) (hn:ns.Nodup):(grT ks).Nodup:=
 nB (fun x hx=>⟨(h.kb x hx).xH,fun g hg=>⟨fun e=>by have:=((h.kb x hx).gr3 hg).1;rw[e] at this;simp at this,((h.kb x hx).gr g hg).1⟩⟩) (h.nd hn)
end
def jY (q:List Str->Int) (G:List (List Str)) (a b:Str):Int:=((G.filter fun g=>decide (a∈g)&&decide (b∈g)).map q).sum
def tot (p:Str->Int) (q:List Str->Int) (G:List (List Str)) (a b:Str):Int:=p a+p b+jY q G a b
section
variable {p:Str->Int} {q q':List Str->Int} {G:List (List Str)} {a b:Str}
theorem zI:jY q G a b=jY q G b a:=by
 unfold jY
 congr 2
 exact List.filter_congr fun g _=>Bool.and_comm _ _
theorem BW:tot p q G a b=tot p q G b a:=by
 unfold tot
 rw[zI];omega
theorem fT {g:List Str}:jY q (g::G) a b=(if a∈g/\b∈g then q g else 0)+jY q G a b:=by
 unfold jY
 by_cases h:a∈g/\b∈g
 ·rw[if_pos h,List.filter_cons_of_pos (by simpa using h),List.map_cons,List.sum_cons]
 ·rw[if_neg h,List.filter_cons_of_neg (by simpa using h)];omega
theorem BX {G':List (List Str)}:jY q (G++G') a b=jY q G a b+jY q G' a b:=by
 unfold jY
 rw[List.filter_append,List.map_append,List.sum_append]
theorem zJ {G':List (List Str)} (h:G.Perm G'):jY q G a b=jY q G' a b:=by
 induction h with
 |nil=>rfl
 |cons x _ ih=>rw[fT,fT,ih]
 |swap x y l=>rw[fT,fT,fT,fT];omega
 |trans _ _ i1 i2=>rw[i1,i2]
theorem zL (h: ∀g∈G,q g%2=0):jY q G a b%2=0:=by
 induction G with
 |nil=>rfl
 |cons g G ih=>
  rw[fT]
  have h1:=h g List.mem_cons_self
  have h2:=ih fun g' hg=>h g' (List.mem_cons_of_mem _ hg)
  split <;> omega
end
end Sw
namespace Sw
open PySem PySem.Spec PyProof.Rows L2
theorem zM {q:List Str->Int} {G:List (List Str)} {a b:Str} (h: ∀g∈G,q g=0):jY q G a b=0:=by
 induction G with
 |nil=>rfl
 |cons g G ih=>
  rw[fT,ih fun g' hg=>h g' (List.mem_cons_of_mem _ hg),h g List.mem_cons_self]
  split <;> rfl
theorem rX {q:List Str->Int} {G G':List (List Str)} {a b:Str} (n1:G.Nodup) (n2:G'.Nodup) (sub: ∀g∈G,g∈G') (z: ∀g∈G',g∉G->q g=0):jY q G' a b=jY q G a b:=by
 have pm:(G++G'.filter fun g=>decide (g∉G)).Perm G':=by
  refine (List.perm_ext_iff_of_nodup (List.nodup_append.mpr ⟨n1,n2.filter _,fun x hx y hy e=> ?_⟩) n2).mpr fun g=> ?_
  ·subst e
   have:=(List.mem_filter.mp hy).2
   simp at this
   exact this hx
  ·rw[List.mem_append,List.mem_filter]
   constructor
   ·rintro (h|h)
    ·exact sub g h
    ·exact h.1
   ·intro h
    by_cases q:g∈G
    ·exact .inl q
    ·exact .inr ⟨h,by simpa using q⟩
 rw[<-zJ pm,BX,zM (G:=G'.filter _) fun g hg=>z g (List.mem_filter.mp hg).1 (by simpa using (List.mem_filter.mp hg).2)]
 omega
def tL (ed:List (Str×Str)) (w:Str->Str->Int) (p:Str->Int) (q:List Str->Int) (G:List (List Str)):List (Str×Str):=ed.filter fun e=>decide (tot p q G e.1 e.2=2*w e.1 e.2)
section
variable {ns:List Str} {ed:List (Str×Str)} {w:Str->Str->Int} {p p':Str->Int} {q q':List Str->Int} {G G':List (List Str)} {M M':Str->Option Str} {ks ks':List Kt} {a b c:Str}
theorem uJ:(a,b)∈tL ed w p q G↔(a,b)∈ed/\tot p q G a b=2*w a b:=by
 unfold tL
 rw[List.mem_filter]
 simp
theorem vV (h: ∀a b,(a,b)∈ed->tot p q G a b=tot p' q' G' a b):tL ed w p q G=tL ed w p' q' G':=by
 unfold tL
 exact List.filter_congr fun e he=>by rw[h e.1 e.2 he]
structure oA (ns:List Str) (ed:List (Str×Str)) (w:Str->Str->Int) (M:Str->Option Str) (ks:List Kt) (p:Str->Int) (q:List Str->Int):Prop where
 nd:ns.Nodup
 len:ns.length<=20
 sym: ∀a b,(a,b)∈ed->(b,a)∈ed
 irr: ∀a,(a,a)∉ed
 inn: ∀a b,(a,b)∈ed->a∈ns
 ws: ∀a b,w a b=w b a
 tops:eM ns (tL ed w p q (grT ks)) M ks
 mates:fO ns (tL ed w p q (grT ks)) M
 paid: ∀a b,(a,b)∈ed->2*w a b<=tot p q (grT ks) a b
 qn: ∀g,0<=q g/\q g%2=0
 q0: ∀g,g∉grT ks->q g=0
 pn: ∀c∈ns,0<=p c
 least: ∀r∈ns,M r=none-> ∀c∈ns,p r<=p c
theorem oA.gr (h:oA ns ed w M ks p q):Gr ns (tL ed w p q (grT ks)) M:=⟨h.nd,h.len,fun a b e=>by
 rw[uJ] at e⊢
 exact⟨h.sym _ _ e.1,by rw[BW,h.ws];exact e.2⟩,fun a e=>h.irr a (uJ.mp e).1,fun a b e=>h.inn a b (uJ.mp e).1,h.mates⟩
theorem oA.Bq (h:oA ns ed w M ks p q) (hT:eM ns (tL ed w p q (grT ks)) M ks') (z1: ∀g∈grT ks,g∉grT ks'->q g=0):oA ns ed w M ks' p q:=by
 have n1:=h.tops.xH h.nd
 have n2:=hT.xH h.nd
 have tt: ∀a b,tot p q (grT ks') a b=tot p q (grT ks) a b:=fun a b=>by
  unfold tot
  have e1:jY q (grT ks) a b=jY q ((grT ks).filter fun g=>decide (g∈grT ks')) a b:=rX (n1.filter _) n1 (fun g hg=>(List.mem_filter.mp hg).1) fun g hg hn=>z1 g hg fun hg'=>hn (List.mem_filter.mpr ⟨hg,by simpa using hg'⟩)
  have e2:jY q (grT ks') a b=jY q ((grT ks).filter fun g=>decide (g∈grT ks')) a b:=rX (n1.filter _) n2 (fun g hg=>by simpa using (List.mem_filter.mp hg).2) fun g hg hn=>h.q0 g fun hg'=>hn (List.mem_filter.mpr ⟨hg',by simpa using hg⟩)
  rw[e1,e2]
 have tl:tL ed w p q (grT ks')=tL ed w p q (grT ks):=vV fun a b _=>tt a b
 exact⟨h.nd,h.len,h.sym,h.irr,h.inn,h.ws,by rw[tl];exact hT,by rw[tl];exact h.mates,fun a b e=>by rw[tt];exact h.paid a b e,h.qn,fun g hg=>by
  by_cases q1:g∈grT ks
  ·exact z1 g q1 hg
  ·exact h.q0 g q1,h.pn,h.least⟩
end
end Sw
namespace Sw
open PySem PySem.Spec PyProof.Rows L2
theorem BY {g:List Str}: ∀{r:List aC},g∈xG r↔ ∃k∈r,g∈grK k:=fun {r}=>by
 rw[kh,List.mem_flatten]
 constructor
 ·rintro⟨gs,hgs,gm⟩
  obtain⟨x,hx,rfl⟩:=List.mem_map.mp hgs
  exact⟨x,hx,gm⟩
 ·rintro⟨x,hx,gm⟩
  exact⟨_,List.mem_map_of_mem hx,gm⟩
theorem Sbk.gr {a k:aC} (h:Sbk a k) {g:List Str} (hg:g∈grK a):g∈grK k:=by
 induction h with
 |refl=>exact hg
 |inn m _ ih=>unfold grK;exact List.mem_cons_of_mem _ (BY.mpr ⟨_,m,ih⟩)
section
variable {ns:List Str} {ed:List (Str×Str)} {w:Str->Str->Int} {p p':Str->Int} {q q':List Str->Int} {M:Str->Option Str} {ks ks':List Kt} {a b c:Str} {x y z:Kt}
theorem kN {xs ys:List Kt}:grT (xs++ys)=grT xs++grT ys:=by unfold grT;rw[List.map_append,List.flatten_append]
theorem BZ {xs:List Kt}:grT (x::xs)=grK x.k++grT xs:=rfl
theorem oA.part {pre post:List Kt} {r:List aC} {l:List (Str×Str)} (h:oA ns ed w M (pre++z::post) p q) (e:z.k= .group r l) (hq:q z.ms=0): ∃t:List Kt,t.map (·.k)=r/\oA ns ed w M (pre++t++post) p q:=by
 obtain⟨t,et,hT⟩:=zH h.tops e
 refine⟨t,et,h.Bq hT fun g hg hn=> ?_⟩
 rw[kN,BZ,e] at hg
 have tg:grT t=xG r:=by
  rw[kh,←et,List.map_map];rfl
 have zm:z.ms=m9 (pZ r):=by
  rw[<-(h.tops.kb z (by simp)).mem,e];unfold oy;rfl
 rcases List.mem_append.mp hg with hg|hg
 ·exact absurd (by rw[kN,kN];simp[hg]) hn
 ·rcases List.mem_append.mp hg with hg|hg
  ·unfold grK at hg
   rcases List.mem_cons.mp hg with hg|hg
   ·rw[hg,←zm];exact hq
   ·exact absurd (by rw[kN,kN,tg];simp[hg]) hn
  ·exact absurd (by rw[kN,kN];simp[hg]) hn
end
end Sw
namespace Sw
open PySem PySem.Spec PyProof.Rows L2
theorem zN {c:Str} {r:List aC}:c∈pZ r↔ ∃k∈r,c∈oy k:=by
 rw[nA,List.mem_flatten]
 constructor
 ·rintro⟨gs,hgs,gm⟩
  obtain⟨x,hx,rfl⟩:=List.mem_map.mp hgs
  exact⟨x,hx,gm⟩
 ·rintro⟨x,hx,gm⟩
  exact⟨_,List.mem_map_of_mem hx,gm⟩
theorem Sbk.mem {a k:aC} (h:Sbk a k) {c:Str} (hc:c∈oy a):c∈oy k:=by
 induction h with
 |refl=>exact hc
 |inn m _ ih=>
  unfold oy
  rw[rS,zN]
  exact⟨_,m,ih⟩
section
variable {ns:List Str} {L Q:List (Str×Str)} {ks ks':List Kt} {o:aP} {lv:Str->Nat} {rt:Str->Str} {M:Str->Option Str}
structure B0 (ks:List Kt) (M:Str->Option Str) (Q:List (Str×Str)) (R:Str->Prop) (Ev Od:Kt->Prop) (f:Kt->Nat):Prop where
 inn: ∀z,Ev z->z∈ks
 step: ∀z,Ev z->(M z.b=none/\R z.b)\/ ∃x y,x∈ks/\Od x/\Ev y/\f y<f z/\M x.b=some z.b/\ ∃a∈y.ms,∃b∈x.ms,(a,b)∈Q
 dis: ∀z,Ev z-> ¬Od z
theorem B0.BO (hT:eM ns L M ks) (si:SI ns L o ks' lv rt) (g:Gr ns L M) (hM:aD o.mates.l=M) (cl: ∀a b,(a,b)∈Q->a∈o.waiting->(∃x∈ks',a∈x.ms/\b∈x.ms)\/ ∃x∈ks',b∈x.ms/\(aD o.reached.l (nmK x)).isSome=true)
  (part: ∀x∈ks,∃x'∈ks',Sbk x.k x'.k) (made: ∀x∈ks',x∈ks\/(aD o.roots.l (nmK x)).isSome=true) {R:Str->Prop} (hR: ∀r,R r->r∈o.waiting) {Ev Od:Kt->Prop} {f:Kt->Nat} (F:B0 ks M Q R Ev Od f):
  ∀z,Ev z-> ∀c∈z.ms,c∈o.waiting:=by
 have hT':=si.tops
 rw[hM] at hT'
 have up: ∀x∈ks,∃x'∈ks',∀c∈x.ms,c∈x'.ms:=fun x hx=>by
  obtain⟨x',hx',s⟩:=part x hx
  refine⟨x',hx',fun c hc=> ?_⟩
  rw[<-(hT.kb x hx).mem] at hc
  rw[<-(hT'.kb x' hx').mem]
  exact s.mem hc
 have upOf: ∀x∈ks,∀K∈ks',∀c∈x.ms,c∈K.ms-> ∀d∈x.ms,d∈K.ms:=fun x hx K hK c c1 c2 d hd=>by
  obtain⟨x',hx',s⟩:=up x hx
  have:=hT'.one g.nd hx' hK (s c c1) c2
  subst this
  exact s d hd
 have all: ∀z∈ks,∀c∈z.ms,c∈o.waiting-> ∀d∈z.ms,d∈o.waiting:=fun z hz c hc wc d hd=>by
  obtain⟨K,hK,cK,eK⟩:=(si.wt c).mp wc
  exact (si.wt d).mpr ⟨K,hK,upOf z hz K hK c hc cK d hd,eK⟩
 have evOd: ∀x∈ks',(aD o.roots.l (nmK x)).isSome=true-> ¬(aD o.reached.l (nmK x)).isSome=true:=fun x hx e d=>by
  obtain⟨q,hq⟩:=Option.isSome_iff_exists.mp d
  rw[(si.odd x hx q hq).1] at e;cases e
 have key: ∀n:Nat,∀z,f z<n->Ev z-> ∀c∈z.ms,c∈o.waiting:=by
  intro n
  induction n with
  |zero=>intro z h;omega
  |succ n ih=>
   intro z hz ez
   have zin:=F.inn z ez
   have zb:=(hT.kb z zin).base
   rcases F.step z ez with ⟨_,r⟩|⟨x,y,hx,ox,ey,lt,mx,a,ha,b,hb,ab⟩
   ·exact all z zin z.b zb (hR _ r)
   ·have yin:=F.inn y ey
    have wa:=ih y (by omega) ey a ha
    rcases cl a b ab wa with ⟨K,hK,aK,bK⟩|⟨X,hX,bX,oX⟩
    ·
     have eK:(aD o.roots.l (nmK K)).isSome=true:=by
      obtain⟨K',hK',aK',eK'⟩:=(si.wt a).mp wa
      have:=hT'.one g.nd hK hK' aK aK'
      subst this
      exact eK'
     have xK:=upOf x hx K hK b hb bK
     have yK:=upOf y yin K hK a ha aK
     have xb:=(hT.kb x hx).base
     by_cases zK:z.b∈K.ms
     ·exact fun c hc=>(si.wt c).mpr ⟨K,hK,upOf z zin K hK z.b zb zK c hc,eK⟩
     ·exfalso
      have kb:x.b=K.b:=Classical.byContradiction fun ne=>by
       obtain⟨d,hd,_,e⟩:=(hT'.kb K hK).ou x.b (xK _ xb) ne
       rw[mx] at e;cases e
       exact zK hd
      have no: ∀k:Nat,∀v,f v<k->f v<f z->Ev v->(∀c∈v.ms,c∈K.ms)->False:=by
       intro k
       induction k with
       |zero=>intro v h;omega
       |succ k ih2=>
        intro v hv hvz ev vK
        have vin:=F.inn v ev
        have vb:=(hT.kb v vin).base
        have nb:v.b≠K.b:=fun e=>by
         have:=hT.yH g.nd vin hx (e.trans kb.symm)
         subst this
         exact F.dis v ev ox
        obtain⟨d,hd,_,md⟩:=(hT'.kb K hK).ou v.b (vK _ vb) nb
        rcases F.step v ev with ⟨m0,_⟩|⟨x2,y2,hx2,ox2,ey2,lt2,mx2,a2,ha2,b2,hb2,ab2⟩
        ·rw[m0] at md;cases md
        ·rw[g.mates.sym _ _ mx2] at md;cases md
         have x2K:=upOf x2 hx2 K hK x2.b (hT.kb x2 hx2).base hd
         have wa2:=ih y2 (by omega) ey2 a2 ha2
         rcases cl a2 b2 ab2 wa2 with ⟨K2,hK2,c1,c2⟩|⟨K2,hK2,c1,c2⟩
         ·have:=hT'.one g.nd hK hK2 (x2K b2 hb2) c2
          subst this
          exact ih2 y2 (by omega) (by omega) ey2 (upOf y2 (F.inn y2 ey2) K hK a2 ha2 c1)
         ·have:=hT'.one g.nd hK hK2 (x2K b2 hb2) c1
          subst this
          exact evOd K hK eK c2
      exact no (f y+1) y (by omega) lt ey yK
    ·
     have nE:=fun e=>evOd X hX e oX
     have Xk:=(made X hX).resolve_right nE
     have:=hT.one g.nd hx Xk hb bX
     subst this
     obtain⟨q,hq⟩:=Option.isSome_iff_exists.mp oX
     obtain⟨_,_,_,_,_,_,_,_,_,z',hz',m',e',_⟩:=si.odd x hX q hq
     rw[hM,mx] at m'
     have e:=Option.some.inj m'
     have wz:z.b∈o.waiting:=(si.wt _).mpr ⟨z',hz',e▸(hT'.kb z' hz').base,e'⟩
     exact all z zin z.b zb wz
 exact fun z ez=>key (f z+1) z (by omega) ez
end
end Sw
namespace Sw
open PySem PySem.Spec PyProof.Rows L2
theorem KB.par {m:Str->Option Str} {L:List (Str×Str)} {pr:Str->Int} (hL: ∀a c,(a,c)∈L->(pr a+pr c)%2=0): ∀{n:Nat} {k:aC} {b:Str} {ms:List Str},KB m n k b ms->KL L n k-> ∀a∈ms,∀c∈ms,(pr a+pr c)%2=0
 |0,_,_,_,h,_,_,_,_,_=>h.elim
 |n+1,.single x,_,_,h,_,a,ha,c,hc=>by
  rw[h.2] at ha hc
  rw[List.mem_singleton.mp ha,List.mem_singleton.mp hc]
  omega
 |n+1,.group r l,b,ms,⟨t,p,h1,h2,h3,h4,h5⟩,⟨g1,g2⟩,a,ha,c,hc=>by
  have part: ∀{i:Nat} (h:i<t.length),∀a∈t[i].ms,∀c∈t[i].ms,(pr a+pr c)%2=0:=fun {i} h=>KB.par hL (h3 _ (List.getElem_mem h)) (g2 _ (by rw[h2];exact List.mem_map_of_mem (List.getElem_mem h)))
  have base: ∀{i:Nat} (h:i<t.length),t[i].b∈t[i].ms:=fun {i} h=>(h3 _ (List.getElem_mem h)).base
  have tp:0<t.length:=by have:=h1.three;omega
  have all: ∀i (h:i<t.length),(pr (t[0]'tp).b+pr t[i].b)%2=0:=by
   intro i
   induction i with
   |zero=>intro h;have:=part tp _ (base tp) _ (base tp);exact this
   |succ i ih=>
    intro h
    have i0:=ih (by omega)
    have li:i<l.length:=by rw[h1.len];omega
    have ne:nx t.length i=i+1:=uF (by omega)
    obtain⟨_,a1,a2⟩:=h1.link i (t[i]'(by omega)) (t[i+1]'h) (l[i]'li) (by omega) (List.getElem?_eq_getElem (by omega)) (by rw[ne];exact List.getElem?_eq_getElem h) (List.getElem?_eq_getElem li)
    have il:i<t.length:=by omega
    have e1:(pr l[i].1+pr l[i].2)%2=0:=hL _ _ (g1 _ (List.getElem_mem li))
    have e2:(pr t[i].b+pr l[i].1)%2=0:=part il _ (base il) _ a1
    have e3:(pr t[i+1].b+pr l[i].2)%2=0:=part h _ (base h) _ a2
    have i1:(pr (t[0]'tp).b+pr t[i].b)%2=0:=i0
    omega
  rw[h4,rS,bT] at ha hc
  obtain⟨x,hx,ax⟩:=ha
  obtain⟨y,hy,cy⟩:=hc
  obtain⟨i,hi,rfl⟩:=List.getElem_of_mem hx
  obtain⟨j,hj,rfl⟩:=List.getElem_of_mem hy
  have e1:=part hi _ (base hi) a ax
  have e2:=part hj _ (base hj) c cy
  have e3:=all i hi
  have e4:=all j hj
  omega
section
variable {ns:List Str} {ed:List (Str×Str)} {w:Str->Str->Int} {p p':Str->Int} {q q':List Str->Int} {M:Str->Option Str} {ks:List Kt} {o:aP} {lv:Str->Nat} {rt:Str->Str} {a b c r0:Str}
theorem oA.F7 (h:oA ns ed w M ks p q) (e:(a,b)∈tL ed w p q (grT ks)):(p a+p b)%2=0:=by
 have e:=(uJ.mp e).2
 have:=zL (q:=q) (G:=grT ks) (a:=a) (b:=b) fun g _=>(h.qn g).2
 unfold tot at e
 omega
theorem oA.par (h:oA ns ed w M ks p q) (si:SI ns (tL ed w p q (grT ks)) o ks lv rt) (hM:aD o.mates.l=M) (hr:r0∈ns) (hr0:M r0=none): ∀c∈o.waiting,(p r0+p c)%2=0:=by
 have g:=h.gr
 have kp: ∀x∈ks,∀a∈x.ms,∀c∈x.ms,(p a+p c)%2=0:=fun x hx=>KB.par (fun a c e=>h.F7 e) (h.tops.kb x hx) (h.tops.kl x hx)
 have key: ∀n:Nat,∀z∈ks,lv (nmK z)<n->(aD o.roots.l (nmK z)).isSome=true-> ∀c∈z.ms,(p r0+p c)%2=0:=by
  intro n
  induction n with
  |zero=>intro z _ h;omega
  |succ n ih=>
   intro z hz lz ez c hc
   have zb:=(h.tops.kb z hz).base
   have k1:=kp z hz z.b zb c hc
   rcases si.BO z hz ez with ⟨m0,_⟩|⟨x,hx,mx,ox⟩
   ·rw[hM] at m0
    have l1:=h.least z.b (h.tops.inn hz zb) m0 r0 hr
    have l2:=h.least r0 hr hr0 z.b (h.tops.inn hz zb)
    omega
   ·rw[hM] at mx
    obtain⟨qx,hqx⟩:=Option.isSome_iff_exists.mp ox
    obtain⟨_,a2,a12,y,hy,a1,ey,ly,_,z',hz',mz',_,lz',_⟩:=si.odd x hx qx hqx
    rw[hM,h.mates.sym _ _ mx] at mz'
    have:=h.tops.yH h.nd hz hz' (Option.some.inj mz')
    subst this
    have k2:=ih y hy (by omega) ey qx.1 a1
    have k3:=h.F7 a12
    have k4:=kp x hx qx.2 a2 x.b (h.tops.kb x hx).base
    have k5:=h.F7 (h.mates.edge _ _ mx)
    omega
 intro c hc
 obtain⟨z,hz,cz,ez⟩:=(si.wt c).mp hc
 exact key _ z hz (Nat.lt_succ_self _) ez c cz
end
end Sw
namespace Sw
open PySem PySem.Spec PyProof.Rows L2
section
variable {ns:List Str} {L:List (Str×Str)} {M:Str->Option Str} {ks zs:List Kt} {o:aP} {lv:Str->Nat} {rt:Str->Str}
theorem eM.order (h:eM ns L M ks) (p:ks.Perm zs):eM ns L M zs:=
 ⟨(List.Perm.flatten (p.symm.map _)).trans h.perm,fun x hx=>h.kb x (p.mem_iff.mpr hx),fun x hx=>h.kl x (p.mem_iff.mpr hx)⟩
theorem SI.order (h:SI ns L o ks lv rt) (p:ks.Perm zs):SI ns L o zs lv rt:=by
 have e: ∀z,z∈zs↔z∈ks:=fun z=>p.mem_iff.symm
 exact⟨h.tops.order p,fun x hx=>h.top x ((e x).mp hx),h.tk,fun n r q=>by
  obtain⟨z,hz,a⟩:=h.rk n r q
  exact⟨z,(e z).mpr hz,a⟩,fun n q a=>by
  obtain⟨x,hx,b⟩:=h.ok n q a
  exact⟨x,(e x).mpr hx,b⟩,h.rnd,h.ond,fun z hz ez=>(h.BO z ((e z).mp hz) ez).imp id fun⟨x,hx,a⟩=>⟨x,(e x).mpr hx,a⟩,fun x hx q hq=>by
  obtain⟨a1,a2,a3,y,hy,a4,a5,a6,a7,z,hz,a8⟩:=h.odd x ((e x).mp hx) q hq
  exact⟨a1,a2,a3,y,(e y).mpr hy,a4,a5,a6,a7,z,(e z).mpr hz,a8⟩,fun c=>(h.wt c).trans ⟨fun⟨z,hz,a⟩=>⟨z,(e z).mpr hz,a⟩,fun⟨z,hz,a⟩=>⟨z,(e z).mp hz,a⟩⟩,h.wnd⟩
end
section
variable {ns:List Str} {ed:List (Str×Str)} {w:Str->Str->Int} {p:Str->Int} {q:List Str->Int} {M:Str->Option Str} {ks ks':List Kt}
theorem oA.tl (h:oA ns ed w M ks p q) {L:List (Str×Str)} (hT:eM ns L M ks') (part: ∀x∈ks,∃x'∈ks',Sbk x.k x'.k):tL ed w p q (grT ks')=tL ed w p q (grT ks):=vV fun a b _=>by
 unfold tot
 rw[rX (h.tops.xH h.nd) (hT.xH h.nd) (fun g hg=>by
  obtain⟨x,hx,gm⟩:=yN.mp hg
  obtain⟨x',hx',s⟩:=part x hx
  exact yN.mpr ⟨x',hx',s.gr gm⟩) fun g _ hn=>h.q0 g hn]
end
end Sw
namespace Sw.k04
open PySem PySem.Spec PyProof.Rows L2 Sw
structure Zs (K:Frg) (mg:Str->Option Value):Prop where
 abs:mg "abs" =none
 bool:mg "bool" =none
 int:mg "int" =none
 isinstance:mg "isinstance" =none
 len:mg "len" =none
 max:mg "max" =none
 min:mg "min" =none
 range:mg "range" =none
 str:mg "str" =none
 FIGURES: ∃t,mg "FIGURES" =some (.str "0123456789" t)
 g_by_groups:mg "by_groups" =some (.ref (He.ga K "by_groups"))
 g_by_marks:mg "by_marks" =some (.ref (He.ga K "by_marks"))
open T
noncomputable section
variable {P:Program} {w:World} {K:Frg} {mg:Str->Option Value} {base:Heap} [NmC]
def ji (k_text:D) (y2:Unit) (x4:D):Option (Out (Unit) (Unit)):=
 ifO (b2 (D.mH true) (some x4) (some (.str "0123456789"))) (none) (some (.nx ())) fun(y5:Unit)=>some (.nx ())
def iB (a_text:D):Option (Out PEmpty PEmpty):=
 ifO (orB (jS (chB D.leI D.leI (some (.int 1)) (b1 (un1 D.sE) (aj (some a_text) (aM))) (some (.int 12)))) (m8 (b2 D.gtI (b1 (un1 D.sE) (aj (some a_text) (aM))) (some (.int 1))) (b2 D.eqA (b2 D.atS (some a_text) (some (.int 0))) (some (.str "0"))))) (none) (some (.nx ())) fun(y1:Unit)=>oY (b1 D.rq (some a_text)) (ji a_text) () fun(y2:Unit)=>cR (b1 (un1 D.sH) (aj (some a_text) (aM))) []
def dC:List D->Option FR:=fn1 fun a_text=>FO (iB a_text)
abbrev p6:List Str:=["text","sign"]
abbrev iC:List Str:=["text"]
theorem oC:FnScope p6 iC (defScope dh):=⟨rfl,rfl,rfl,by decide+kernel,rfl,by decide+kernel,by decide+kernel⟩
abbrev iD:List PM:=[.bo]
abbrev iE:VM:=.rg .fz
theorem vW (Z:Zs K mg) {f:Addr} {cdv:Value} {A:Around} {outer:List Env} {s:Shared} {H:Hp} {E:XK} (hr:Room 0 (A.deeper (envOfC "number_of" (defScope dh) s.heap.objs.size f cdv))) (v0:V) (a_text:D):
  Blk (cxT P w K mg base p6 "number_of" (defScope dh) f cdv A outer s H E) (fnX iE (bq iD [v0]) E) [.bo,.fz] [some a_text,none] (defBody dh) (iB a_text):=by
 unfold iB
 exact (fm [.bo,.fz] (fun(y1:Unit)=>[some a_text,none]) (PW.pt (tW (nV (zh op_le (kE (rg:=.fz)) op_le (kE (rg:=.fz)) (ak (rg:=.fz)) (j6 call_len (Ag (rg:=.fz)) (by rfl) Z.len wL (ae (af (md:=.bo) 0 rfl rfl rfl (.inl rfl)) aA)) (ak (rg:=.fz)))) (qE (PW.pt (ya (br op_gt (kE (rg:=.fz)) (j6 call_len (Ag (rg:=.fz)) (by rfl) Z.len wL (ae (af (md:=.bo) 0 rfl rfl rfl (.inl rfl)) aA)) (ak (rg:=.fz)) rfl) (vq (br op_eq (gd (rg:=.fz)) (bt ix_str (Ae (rg:=.fz)) (af (md:=.bo) 0 rfl rfl rfl (.inl rfl)) (ak (rg:=.fz)) (fun _ _=>rfl)) (aN (rg:=.fz)) rfl))))))) qF (aO (.keep (.drop (.nil)))) (fun(y1:Unit)=>(jT [.bo,.fz] (fun(y2:Unit)=>[some a_text,none]) [.bo,.fz] (fun(y2:Unit) (x4:D)=>[some a_text,some x4]) (tY (af (md:=.bo) 0 rfl rfl rfl (.inl rfl))) bQ dM (pg_name (i:=1) oC.nd rfl (.inl rfl)) (cS _ 1 dM (Nat.le_of_ble_eq_true rfl)) (.keep (.drop (.nil))) (fun(y2:Unit) (x4:D)=>by unfold ji;exact (fm [.bo,.fz] (fun(y5:Unit)=>[some a_text,some x4]) (br op_notIn_sign CH (af (md:=.fz) 1 rfl rfl rfl (.inl rfl)) (Aw (rg:=.fz) Z.FIGURES) rfl) qF (aO (.keep (.keep (.nil)))) (fun(y5:Unit)=>(aO (.keep (.drop (.nil))))))) (fun(y2:Unit)=>(aJ (sV call_int_str (Fb (rg:=.fz)) (by rfl) Z.int yg (ae (af (md:=.bo) 0 rfl rfl rfl (.inl rfl)) aA)) rfl rfl rfl)))))
theorem uK (Z:Zs K mg) {f:Addr} {fd:FuncData} (F:Fun K "number_of" "number_of" dh f fd):FnOk P w K mg base CX0 (1) f fd iC (FSp K iD iE dC):=
 cJ (n:=1) F oC rfl rfl fun cdv A outer s H vs E hr hv ds fr hd ef=>match vs,hv,ds,hd,ef with| [v0],_,[a_text],_,ef=>⟨_,vW Z hr v0 a_text,ef⟩
def vX (a_giver:D) (a_taker:D):Option (Out PEmpty PEmpty):=
 cR (b1 (un1 D.zj) (aj (b2 D.lN (b2 D.atT (some a_giver) (some (.int 1))) (b2 D.atT (some a_taker) (some (.int 1)))) (aM))) []
def kO:List D->Option FR:=fn2 fun a_giver a_taker=>FO (vX a_giver a_taker)
abbrev Et:List Str:=["giver","taker"]
abbrev rY:List Str:=["giver","taker"]
theorem F8:FnScope Et rY (defScope pK):=⟨rfl,rfl,rfl,by decide+kernel,rfl,by decide+kernel,by decide+kernel⟩
abbrev rZ:List PM:=[.bo,.bo]
abbrev r9:VM:=.rg .fz
theorem HQ (Z:Zs K mg) {f:Addr} {cdv:Value} {A:Around} {outer:List Env} {s:Shared} {H:Hp} {E:XK} (hr:Room 0 (A.deeper (envOfC "gap" (defScope pK) s.heap.objs.size f cdv))) (v0 v1:V) (a_giver a_taker:D):
  Blk (cxT P w K mg base Et "gap" (defScope pK) f cdv A outer s H E) (fnX r9 (bq rZ [v0,v1]) E) [.bo,.bo] [some a_giver,some a_taker] (defBody pK) (vX a_giver a_taker):=by
 unfold vX
 exact (aJ (j6 call_abs (Fh (rg:=.fz)) (by rfl) Z.abs E5 (ae (aG op_sub (oU (rg:=.fz)) (bt ix_tup cE (af (md:=.bo) 0 rfl rfl rfl (.inl rfl)) (ak (rg:=.fz)) (fun _ _=>rfl)) (bt ix_tup cE (af (md:=.bo) 1 rfl rfl rfl (.inl rfl)) (ak (rg:=.fz)) (fun _ _=>rfl))) aA)) rfl rfl rfl)
theorem F9 (Z:Zs K mg) {f:Addr} {fd:FuncData} (F:Fun K "gap" "gap" pK f fd):FnOk P w K mg base CX0 (1) f fd rY (FSp K rZ r9 kO):=
 cJ (n:=0) F F8 rfl rfl fun cdv A outer s H vs E hr hv ds fr hd ef=>match vs,hv,ds,hd,ef with| [v0,v1],_,[a_giver,a_taker],_,ef=>⟨_,HQ Z hr v0 v1 a_giver a_taker,ef⟩
def iF (a_giver:D) (a_taker:D):Option (Out PEmpty PEmpty):=
 cR (orE (b2 (blD D.eqA) (b2 D.atT (some a_giver) (some (.int 0))) (some (.str "O"))) (orE (b2 (blD D.eqA) (b2 D.atT (some a_taker) (some (.int 0))) (some (.str "AB"))) (b2 (blD D.eqA) (b2 D.atT (some a_giver) (some (.int 0))) (b2 D.atT (some a_taker) (some (.int 0)))))) []
def gj:List D->Option FR:=fn2 fun a_giver a_taker=>FO (iF a_giver a_taker)
abbrev p7:List Str:=["giver","taker"]
abbrev lW:List Str:=["giver","taker"]
theorem uL:FnScope p7 lW (defScope cw):=⟨rfl,rfl,rfl,by decide+kernel,rfl,by decide+kernel,by decide+kernel⟩
abbrev lX:List PM:=[.bo,.bo]
abbrev lY:VM:=.rg .fz
theorem vY (Z:Zs K mg) {f:Addr} {cdv:Value} {A:Around} {outer:List Env} {s:Shared} {H:Hp} {E:XK} (hr:Room 0 (A.deeper (envOfC "by_groups" (defScope cw) s.heap.objs.size f cdv))) (v0 v1:V) (a_giver a_taker:D):
  Blk (cxT P w K mg base p7 "by_groups" (defScope cw) f cdv A outer s H E) (fnX lY (bq lX [v0,v1]) E) [.bo,.bo] [some a_giver,some a_taker] (defBody cw) (iF a_giver a_taker):=by
 unfold iF
 exact (aJ (D9 (jP op_eq (gd (rg:=.fz)) (bt ix_tup cE (af (md:=.bo) 0 rfl rfl rfl (.inl rfl)) (ak (rg:=.fz)) (fun _ _=>rfl)) (aN (rg:=.fz)) rfl) (D9 (jP op_eq (gd (rg:=.fz)) (bt ix_tup cE (af (md:=.bo) 1 rfl rfl rfl (.inl rfl)) (ak (rg:=.fz)) (fun _ _=>rfl)) (aN (rg:=.fz)) rfl) (tX (jP op_eq (gd (rg:=.fz)) (bt ix_tup cE (af (md:=.bo) 0 rfl rfl rfl (.inl rfl)) (ak (rg:=.fz)) (fun _ _=>rfl)) (bt ix_tup cE (af (md:=.bo) 1 rfl rfl rfl (.inl rfl)) (ak (rg:=.fz)) (fun _ _=>rfl)) rfl)))) rfl rfl rfl)
theorem oD (Z:Zs K mg) {f:Addr} {fd:FuncData} (F:Fun K "by_groups" "by_groups" cw f fd):FnOk P w K mg base CX0 (1) f fd lW (FSp K lX lY gj):=
 cJ (n:=0) F uL rfl rfl fun cdv A outer s H vs E hr hv ds fr hd ef=>match vs,hv,ds,hd,ef with| [v0,v1],_,[a_giver,a_taker],_,ef=>⟨_,vY Z hr v0 v1 a_giver a_taker,ef⟩
def jN (k_taker:D) (y1:Unit) (x3:D):Option (Out (Unit) (Unit)):=
 ifO (b2 (D.mH false) (some x3) (b2 D.atT (some k_taker) (some (.int 2)))) (cR (some (.bl false)) []) (some (.nx ())) fun(y4:Unit)=>some (.nx ())
def jz (a_giver:D) (a_taker:D):Option (Out PEmpty PEmpty):=
 oY (b1 D.rq (b2 D.atT (some a_giver) (some (.int 2)))) (jN a_taker) () fun(y1:Unit)=>cR (some (.bl true)) []
def iG:List D->Option FR:=fn2 fun a_giver a_taker=>FO (jz a_giver a_taker)
abbrev sd:List Str:=["giver","taker","mark"]
abbrev nC:List Str:=["giver","taker"]
theorem p8:FnScope sd nC (defScope dA):=⟨rfl,rfl,rfl,by decide+kernel,rfl,by decide+kernel,by decide+kernel⟩
abbrev nD:List PM:=[.bo,.bo]
abbrev nF:VM:=.rg .fz
theorem xI (Z:Zs K mg) {f:Addr} {cdv:Value} {A:Around} {outer:List Env} {s:Shared} {H:Hp} {E:XK} (hr:Room 0 (A.deeper (envOfC "by_marks" (defScope dA) s.heap.objs.size f cdv))) (v0 v1:V) (a_giver a_taker:D):
  Blk (cxT P w K mg base sd "by_marks" (defScope dA) f cdv A outer s H E) (fnX nF (bq nD [v0,v1]) E) [.bo,.bo,.fz] [some a_giver,some a_taker,none] (defBody dA) (jz a_giver a_taker):=by
 unfold jz
 exact (jT [.bo,.bo,.fz] (fun(y1:Unit)=>[some a_giver,some a_taker,none]) [.bo,.bo,.fz] (fun(y1:Unit) (x3:D)=>[some a_giver,some a_taker,some x3]) (tY (bt ix_tup cE (af (md:=.bo) 0 rfl rfl rfl (.inl rfl)) (ak (rg:=.fz)) (fun _ _=>rfl))) bQ dM (pg_name (i:=2) p8.nd rfl (.inl rfl)) (cS _ 2 dM (Nat.le_of_ble_eq_true rfl)) (.keep (.keep (.drop (.nil)))) (fun(y1:Unit) (x3:D)=>by unfold jN;exact (fm [.bo,.bo,.fz] (fun(y4:Unit)=>[some a_giver,some a_taker,some x3]) (br op_in_sign Ax (af (md:=.fz) 2 rfl rfl rfl (.inl rfl)) (bt ix_tup cE (af (md:=.bo) 1 rfl rfl rfl (.inl rfl)) (ak (rg:=.fz)) (fun _ _=>rfl)) rfl) (aJ (j5 (rg:=.fz)) rfl rfl rfl) (aO (.keep (.keep (.keep (.nil))))) (fun(y4:Unit)=>(aO (.keep (.keep (.drop (.nil)))))))) (fun(y1:Unit)=>(aJ (j5 (rg:=.fz)) rfl rfl rfl)))
theorem p9 (Z:Zs K mg) {f:Addr} {fd:FuncData} (F:Fun K "by_marks" "by_marks" dA f fd):FnOk P w K mg base CX0 (1) f fd nC (FSp K nD nF iG):=
 cJ (n:=1) F p8 rfl rfl fun cdv A outer s H vs E hr hv ds fr hd ef=>match vs,hv,ds,hd,ef with| [v0,v1],_,[a_giver,a_taker],_,ef=>⟨_,xI Z hr v0 v1 a_giver a_taker,ef⟩
def dP (R_:List D->Option FR) (a_giver:D) (a_taker:D) (a_bound:D):Option (Out PEmpty PEmpty):=
 cR (b2 (blD D.leI) (aT kO (aj (some a_giver) (aj (some a_taker) (aM)))) (some a_bound)) []
def eX (R_:List D->Option FR):List D->Option FR:=fn3 fun a_giver a_taker a_bound=>FO (dP R_ a_giver a_taker a_bound)
abbrev fE:Stmt:=(defBody gZ).headD (.Pass ⟨0,0,0,0⟩)
abbrev bg:FnT:=fnT fE "lets" "by_sizes" "bound"
abbrev lF:List Str:=["giver","taker","bound"]
abbrev lG:List Str:=["giver","taker"]
theorem ph:NdefX.NScope lF lG ["bound"] (C8.fnScope fE):=NdefX.nscope_by (by decide+kernel)
abbrev ql:List PM:=[.bo,.bo,.bo]
abbrev qm:VM:=.rg .fz
theorem qo {R_:List D->Option FR} {k0_:Nat} (hJ_:1<=k0_) (C_rec:ng P w K mg base k0_ R_) (Z:Zs K mg) (C_gap:Cal P w K mg base 1 "gap" rY rZ r9 kO) {f c c':Addr} {A:Around} {outer:List Env} {s:Shared} {H:Hp} {E:XK} (hr:Room k0_ (A.deeper (NdefX.envF (bg.nf c c') f s.heap.objs.size))) (v0 v1 v2:V) (a_giver a_taker a_bound:D):
  Blk (NdefX.ncx CX0 P w K mg base lF (bg.nf c c') f A outer s H E).nox (fnX qm (bq ql [v0,v1,v2]) E) [.bo,.bo,.bo] [some a_giver,some a_taker,some a_bound] (C8.fnBody fE) (dP R_ a_giver a_taker a_bound):=by
 unfold dP
 exact (aJ (jP op_le (kE (rg:=.fz)) (aE (hk:=Nat.le_trans (by decide:1<=1) hJ_) C_gap hr (ae (af (md:=.bo) 0 rfl rfl rfl (.inl rfl)) (ae (af (md:=.bo) 1 rfl rfl rfl (.inl rfl)) aA))) (af (md:=.bo) 2 rfl rfl rfl (.inr (.inr rfl))) rfl) rfl rfl rfl)
theorem pj {R_:List D->Option FR} {k0_:Nat} (hJ_:1<=k0_) (C_rec:ng P w K mg base k0_ R_) (Z:Zs K mg) (C_gap:Cal P w K mg base 1 "gap" rY rZ r9 kO):AK P w K mg base (k0_+1) bg (eX R_):=
 ⟨lG,fun f c c'=>qH (n:=0) ph rfl rfl (fun _ _ _ us hl=>match us,hl with| [_,_],_=>rfl) fun A outer s H vs E hr hv ds fr hd ef=>match vs,hv,ds,hd,ef with| [v0,v1,v2],_,[a_giver,a_taker,a_bound],_,ef=>⟨_,qo hJ_ C_rec Z C_gap hr v0 v1 v2 a_giver a_taker a_bound,ef⟩⟩
def fU:List D->Option FR:=fn1 fun d=>some (.ok (.clo bg d) [])
abbrev kP:List Str:=["bound"]
abbrev kQ:List PM:=[.fz]
abbrev kR:VM:=.rg .fz
theorem vZ:FnScope ["bound","lets"] ["bound"] (defScope gZ):=⟨rfl,rfl,rfl,by decide+kernel,rfl,by decide+kernel,by decide+kernel⟩
theorem v7 (Z:Zs K mg) {f:Addr} {fd:FuncData} (F:Fun K "by_sizes" "by_sizes" gZ f fd) (Lm:lU base mg fd.code (("by_sizes" :Str)++".<locals>." ++"lets")):FnOk P w K mg base CX0 1 f fd kP (FSp K kQ kR fU):=
 yp (nst:=fE) F vZ Lm rfl rfl (by decide+kernel) rfl rfl (fun _=>rfl) (fun _=>rfl) rfl rfl
def dQ (R_:List D->Option FR) (a_giver:D) (a_taker:D) (a_rule:D):Option (Out PEmpty PEmpty):=
 cR (CC (aT R_ (aj (some a_rule) (aj (some a_giver) (aj (some a_taker) (aM)))))) []
def eY (R_:List D->Option FR):List D->Option FR:=fn3 fun a_giver a_taker a_rule=>FO (dQ R_ a_giver a_taker a_rule)
abbrev fF:Stmt:=(defBody g4).headD (.Pass ⟨0,0,0,0⟩)
abbrev bh:FnT:=fnT fF "lets" "opposite" "rule"
abbrev lH:List Str:=["giver","taker","rule"]
abbrev lI:List Str:=["giver","taker"]
theorem pk:NdefX.NScope lH lI ["rule"] (C8.fnScope fF):=NdefX.nscope_by (by decide+kernel)
abbrev qp:List PM:=[.bo,.bo,.bo]
abbrev qr:VM:=.rg .fz
theorem qt {R_:List D->Option FR} {k0_:Nat} (hJ_:1<=k0_) (C_rec:ng P w K mg base k0_ R_) (Z:Zs K mg) {f c c':Addr} {A:Around} {outer:List Env} {s:Shared} {H:Hp} {E:XK} (hr:Room k0_ (A.deeper (NdefX.envF (bh.nf c c') f s.heap.objs.size))) (v0 v1 v2:V) (a_giver a_taker a_rule:D):
  Blk (NdefX.ncx CX0 P w K mg base lH (bh.nf c c') f A outer s H E).nox (fnX qr (bq qp [v0,v1,v2]) E) [.bo,.bo,.bo] [some a_giver,some a_taker,some a_rule] (C8.fnBody fF) (dQ R_ a_giver a_taker a_rule):=by
 unfold dQ
 exact (aJ (Af (rg:=.fz) (wQ (hk:=Nat.le_refl _) 2 C_rec hr rfl rfl rfl (.inr (.inr rfl)) (ae (af (md:=.bo) 0 rfl rfl rfl (.inl rfl)) (ae (af (md:=.bo) 1 rfl rfl rfl (.inl rfl)) aA)))) rfl rfl rfl)
theorem pq {R_:List D->Option FR} {k0_:Nat} (hJ_:1<=k0_) (C_rec:ng P w K mg base k0_ R_) (Z:Zs K mg):AK P w K mg base (k0_+1) bh (eY R_):=
 ⟨lI,fun f c c'=>qH (n:=0) pk rfl rfl (fun _ _ _ us hl=>match us,hl with| [_,_],_=>rfl) fun A outer s H vs E hr hv ds fr hd ef=>match vs,hv,ds,hd,ef with| [v0,v1,v2],_,[a_giver,a_taker,a_rule],_,ef=>⟨_,qt hJ_ C_rec Z hr v0 v1 v2 a_giver a_taker a_rule,ef⟩⟩
def fV:List D->Option FR:=fn1 fun d=>some (.ok (.clo bh d) [])
abbrev kS:List Str:=["rule"]
abbrev kT:List PM:=[.fz]
abbrev kU:VM:=.rg .fz
theorem v8:FnScope ["rule","lets"] ["rule"] (defScope g4):=⟨rfl,rfl,rfl,by decide+kernel,rfl,by decide+kernel,by decide+kernel⟩
theorem v9 (Z:Zs K mg) {f:Addr} {fd:FuncData} (F:Fun K "opposite" "opposite" g4 f fd) (Lm:lU base mg fd.code (("opposite" :Str)++".<locals>." ++"lets")):FnOk P w K mg base CX0 1 f fd kS (FSp K kT kU fV):=
 yp (nst:=fF) F v8 Lm rfl rfl (by decide+kernel) rfl rfl (fun _=>rfl) (fun _=>rfl) rfl rfl
def fG (R_:List D->Option FR) (k_giver:D) (k_taker:D) (y1:Unit) (x3:D):Option (Out (Unit) (Unit)):=
 ifO (jS (b1 D.tb (aT R_ (aj (some x3) (aj (some k_giver) (aj (some k_taker) (aM))))))) (cR (some (.bl false)) []) (some (.nx ())) fun(y4:Unit)=>some (.nx ())
def eP (R_:List D->Option FR) (a_giver:D) (a_taker:D) (a_rules:D):Option (Out PEmpty PEmpty):=
 oY (qj (some a_rules)) (fG R_ a_giver a_taker) () fun(y1:Unit)=>cR (some (.bl true)) []
def fH (R_:List D->Option FR):List D->Option FR:=fn3 fun a_giver a_taker a_rules=>FO (eP R_ a_giver a_taker a_rules)
abbrev gk:Stmt:=(defBody jo).headD (.Pass ⟨0,0,0,0⟩)
abbrev bD:FnT:=fnT gk "lets" "all_let" "rules"
abbrev lZ:List Str:=["giver","taker","rules","rule"]
abbrev l3:List Str:=["giver","taker"]
theorem lJ:NdefX.NScope lZ l3 ["rules"] (C8.fnScope gk):=NdefX.nscope_by (by decide+kernel)
abbrev se:List PM:=[.bo,.bo,.bo]
abbrev sj:VM:=.rg .fz
theorem sk {R_:List D->Option FR} {k0_:Nat} (hJ_:1<=k0_) (C_rec:ng P w K mg base k0_ R_) (Z:Zs K mg) {f c c':Addr} {A:Around} {outer:List Env} {s:Shared} {H:Hp} {E:XK} (hr:Room k0_ (A.deeper (NdefX.envF (bD.nf c c') f s.heap.objs.size))) (v0 v1 v2:V) (a_giver a_taker a_rules:D):
  Blk (NdefX.ncx CX0 P w K mg base lZ (bD.nf c c') f A outer s H E).nox (fnX sj (bq se [v0,v1,v2]) E) [.bo,.bo,.bo,.fz] [some a_giver,some a_taker,some a_rules,none] (C8.fnBody gk) (eP R_ a_giver a_taker a_rules):=by
 unfold eP
 exact (jT [.bo,.bo,.bo,.fz] (fun(y1:Unit)=>[some a_giver,some a_taker,some a_rules,none]) [.bo,.bo,.bo,.bo] (fun(y1:Unit) (x3:D)=>[some a_giver,some a_taker,some a_rules,some x3]) (gh (af (md:=.bo) 2 rfl rfl rfl (.inr (.inr rfl)))) bQ j8 (pg_name (i:=3) lJ.nd rfl (.inl rfl)) (cS _ 3 j8 (Nat.le_of_ble_eq_true rfl)) (.keep (.keep (.keep (.drop (.nil))))) (fun(y1:Unit) (x3:D)=>by unfold fG;exact (fm [.bo,.bo,.bo,.bo] (fun(y4:Unit)=>[some a_giver,some a_taker,some a_rules,some x3]) (nV (ri (wQ (hk:=Nat.le_refl _) 3 C_rec hr rfl rfl rfl (.inl rfl) (ae (af (md:=.bo) 0 rfl rfl rfl (.inl rfl)) (ae (af (md:=.bo) 1 rfl rfl rfl (.inl rfl)) aA))))) (aJ (j5 (rg:=.fz)) rfl rfl rfl) (aO (.keep (.keep (.keep (.keep (.nil)))))) (fun(y4:Unit)=>(aO (.keep (.keep (.keep (.drop (.nil))))))))) (fun(y1:Unit)=>(aJ (j5 (rg:=.fz)) rfl rfl rfl)))
theorem qu {R_:List D->Option FR} {k0_:Nat} (hJ_:1<=k0_) (C_rec:ng P w K mg base k0_ R_) (Z:Zs K mg):AK P w K mg base (k0_+1) bD (fH R_):=
 ⟨l3,fun f c c'=>qH (n:=1) lJ rfl rfl (fun _ _ _ us hl=>match us,hl with| [_,_],_=>rfl) fun A outer s H vs E hr hv ds fr hd ef=>match vs,hv,ds,hd,ef with| [v0,v1,v2],_,[a_giver,a_taker,a_rules],_,ef=>⟨_,sk hJ_ C_rec Z hr v0 v1 v2 a_giver a_taker a_rules,ef⟩⟩
def hO:List D->Option FR:=fn1 fun d=>some (.ok (.clo bD d) [])
abbrev mv:List Str:=["rules"]
abbrev mw:List PM:=[.fz]
abbrev mC:VM:=.rg .fz
theorem xJ:FnScope ["rules","lets"] ["rules"] (defScope jo):=⟨rfl,rfl,rfl,by decide+kernel,rfl,by decide+kernel,by decide+kernel⟩
theorem xM (Z:Zs K mg) {f:Addr} {fd:FuncData} (F:Fun K "all_let" "all_let" jo f fd) (Lm:lU base mg fd.code (("all_let" :Str)++".<locals>." ++"lets")):FnOk P w K mg base CX0 1 f fd mv (FSp K mw mC hO):=
 yp (nst:=gk) F xJ Lm rfl rfl (by decide+kernel) rfl rfl (fun _=>rfl) (fun _=>rfl) rfl rfl
def eZ (R_:List D->Option FR) (k_giver:D) (k_taker:D) (y1:Unit) (x3:D):Option (Out (Unit) (Unit)):=
 ifO (b1 D.tb (aT R_ (aj (some x3) (aj (some k_giver) (aj (some k_taker) (aM)))))) (cR (some (.bl true)) []) (some (.nx ())) fun(y4:Unit)=>some (.nx ())
def dR (R_:List D->Option FR) (a_giver:D) (a_taker:D) (a_rules:D):Option (Out PEmpty PEmpty):=
 oY (qj (some a_rules)) (eZ R_ a_giver a_taker) () fun(y1:Unit)=>cR (some (.bl false)) []
def fb (R_:List D->Option FR):List D->Option FR:=fn3 fun a_giver a_taker a_rules=>FO (dR R_ a_giver a_taker a_rules)
abbrev fJ:Stmt:=(defBody g5).headD (.Pass ⟨0,0,0,0⟩)
abbrev bj:FnT:=fnT fJ "lets" "one_lets" "rules"
abbrev lK:List Str:=["giver","taker","rules","rule"]
abbrev lL:List Str:=["giver","taker"]
theorem ki:NdefX.NScope lK lL ["rules"] (C8.fnScope fJ):=NdefX.nscope_by (by decide+kernel)
abbrev qv:List PM:=[.bo,.bo,.bo]
abbrev qw:VM:=.rg .fz
theorem qy {R_:List D->Option FR} {k0_:Nat} (hJ_:1<=k0_) (C_rec:ng P w K mg base k0_ R_) (Z:Zs K mg) {f c c':Addr} {A:Around} {outer:List Env} {s:Shared} {H:Hp} {E:XK} (hr:Room k0_ (A.deeper (NdefX.envF (bj.nf c c') f s.heap.objs.size))) (v0 v1 v2:V) (a_giver a_taker a_rules:D):
  Blk (NdefX.ncx CX0 P w K mg base lK (bj.nf c c') f A outer s H E).nox (fnX qw (bq qv [v0,v1,v2]) E) [.bo,.bo,.bo,.fz] [some a_giver,some a_taker,some a_rules,none] (C8.fnBody fJ) (dR R_ a_giver a_taker a_rules):=by
 unfold dR
 exact (jT [.bo,.bo,.bo,.fz] (fun(y1:Unit)=>[some a_giver,some a_taker,some a_rules,none]) [.bo,.bo,.bo,.bo] (fun(y1:Unit) (x3:D)=>[some a_giver,some a_taker,some a_rules,some x3]) (gh (af (md:=.bo) 2 rfl rfl rfl (.inr (.inr rfl)))) bQ j8 (pg_name (i:=3) ki.nd rfl (.inl rfl)) (cS _ 3 j8 (Nat.le_of_ble_eq_true rfl)) (.keep (.keep (.keep (.drop (.nil))))) (fun(y1:Unit) (x3:D)=>by unfold eZ;exact (fm [.bo,.bo,.bo,.bo] (fun(y4:Unit)=>[some a_giver,some a_taker,some a_rules,some x3]) (ri (wQ (hk:=Nat.le_refl _) 3 C_rec hr rfl rfl rfl (.inl rfl) (ae (af (md:=.bo) 0 rfl rfl rfl (.inl rfl)) (ae (af (md:=.bo) 1 rfl rfl rfl (.inl rfl)) aA)))) (aJ (j5 (rg:=.fz)) rfl rfl rfl) (aO (.keep (.keep (.keep (.keep (.nil)))))) (fun(y4:Unit)=>(aO (.keep (.keep (.keep (.drop (.nil))))))))) (fun(y1:Unit)=>(aJ (j5 (rg:=.fz)) rfl rfl rfl)))
theorem px {R_:List D->Option FR} {k0_:Nat} (hJ_:1<=k0_) (C_rec:ng P w K mg base k0_ R_) (Z:Zs K mg):AK P w K mg base (k0_+1) bj (fb R_):=
 ⟨lL,fun f c c'=>qH (n:=1) ki rfl rfl (fun _ _ _ us hl=>match us,hl with| [_,_],_=>rfl) fun A outer s H vs E hr hv ds fr hd ef=>match vs,hv,ds,hd,ef with| [v0,v1,v2],_,[a_giver,a_taker,a_rules],_,ef=>⟨_,qy hJ_ C_rec Z hr v0 v1 v2 a_giver a_taker a_rules,ef⟩⟩
def fW:List D->Option FR:=fn1 fun d=>some (.ok (.clo bj d) [])
abbrev kW:List Str:=["rules"]
abbrev kX:List PM:=[.fz]
abbrev kY:VM:=.rg .fz
theorem wb:FnScope ["rules","lets"] ["rules"] (defScope g5):=⟨rfl,rfl,rfl,by decide+kernel,rfl,by decide+kernel,by decide+kernel⟩
theorem we (Z:Zs K mg) {f:Addr} {fd:FuncData} (F:Fun K "one_lets" "one_lets" g5 f fd) (Lm:lU base mg fd.code (("one_lets" :Str)++".<locals>." ++"lets")):FnOk P w K mg base CX0 1 f fd kW (FSp K kX kY fW):=
 yp (nst:=fJ) F wb Lm rfl rfl (by decide+kernel) rfl rfl (fun _=>rfl) (fun _=>rfl) rfl rfl
def kj (a_text:D):Option (Out PEmpty PEmpty):=
 ifO (b2 D.eqA (some a_text) (some (.str "groups"))) (cR (some (.glf "by_groups")) []) (some (.nx ())) fun(y1:Unit)=>ifO (b2 D.eqA (some a_text) (some (.str "marks"))) (cR (some (.glf "by_marks")) []) (some (.nx ())) fun(y2:Unit)=>(b1 D.pr3 (b2 D.part (some a_text) (some (.str " ")))).bind fun d3=>ifO (orB (b2 D.neA (some d3.1) (some (.str "sizes"))) (b2 D.gtI (aT dC (aj (some d3.2.2) (aM))) (some (.int 98)))) (none) (some (.nx ())) fun(y4:Unit)=>cR (aT fU (aj (aT dC (aj (some d3.2.2) (aM))) (aM))) []
def fP:List D->Option FR:=fn1 fun a_text=>FO (kj a_text)
abbrev tK:List Str:=["text","word","blank","figures"]
abbrev ko:List Str:=["text"]
theorem kZ:FnScope tK ko (defScope fQ):=⟨rfl,rfl,rfl,by decide+kernel,rfl,by decide+kernel,by decide+kernel⟩
abbrev kq:List PM:=[.bo]
abbrev kr:VM:=.rg .fz
theorem zO (Z:Zs K mg) (C_number_of:Cal P w K mg base 1 "number_of" iC iD iE dC) (C_by_sizes:Cal P w K mg base 1 "by_sizes" kP kQ kR fU) {f:Addr} {cdv:Value} {A:Around} {outer:List Env} {s:Shared} {H:Hp} {E:XK} (hr:Room 1 (A.deeper (envOfC "term_of" (defScope fQ) s.heap.objs.size f cdv))) (v0:V) (a_text:D):
  Blk (cxT P w K mg base tK "term_of" (defScope fQ) f cdv A outer s H E) (fnX kr (bq kq [v0]) E) [.bo,.fz,.fz,.fz] [some a_text,none,none,none] (defBody fQ) (kj a_text):=by
 unfold kj
 exact (fm [.bo,.fz,.fz,.fz] (fun(y1:Unit)=>[some a_text,none,none,none]) (br op_eq (gd (rg:=.fz)) (af (md:=.bo) 0 rfl rfl rfl (.inl rfl)) (aN (rg:=.fz)) rfl) (aJ (AL (rg:=.fz) Z.g_by_groups) rfl rfl rfl) (aO (.keep (.drop (.drop (.drop (.nil)))))) (fun(y1:Unit)=>(fm [.bo,.fz,.fz,.fz] (fun(y2:Unit)=>[some a_text,none,none,none]) (br op_eq (gd (rg:=.fz)) (af (md:=.bo) 0 rfl rfl rfl (.inl rfl)) (aN (rg:=.fz)) rfl) (aJ (AL (rg:=.fz) Z.g_by_marks) rfl rfl rfl) (aO (.keep (.drop (.drop (.drop (.nil)))))) (fun(y2:Unit)=>(yh 1 2 3 [.bo,.fz,.fz,.fz] (fun(d3:D×D×D)=>[some a_text,some d3.1,some d3.2.1,some d3.2.2]) (CI (af (md:=.bo) 0 rfl rfl rfl (.inl rfl)) (aN (rg:=.fz))) dM (pg_tup rfl (pgs_cons (pg_name (i:=1) kZ.nd rfl (.inl rfl)) (pgs_cons (pg_name (i:=2) kZ.nd rfl (.inl rfl)) (pgs_cons (pg_name (i:=3) kZ.nd rfl (.inl rfl)) pgs_nil)))) (fun(d3:D×D×D)=>(fm [.bo,.fz,.fz,.fz] (fun(y4:Unit)=>[some a_text,some d3.1,some d3.2.1,some d3.2.2]) (PW.pt (tW (br op_ne (D8 (rg:=.fz)) (af (md:=.fz) 1 rfl rfl rfl (.inl rfl)) (aN (rg:=.fz)) rfl) (qE (br op_gt (kE (rg:=.fz)) (aE C_number_of hr (ae (af (md:=.fz) 3 rfl rfl rfl (.inl rfl)) aA)) (ak (rg:=.fz)) rfl)))) qF (aO (.keep (.keep (.keep (.keep (.nil)))))) (fun(y4:Unit)=>(aJ (aE C_by_sizes hr (ae (aE C_number_of hr (ae (af (md:=.fz) 3 rfl rfl rfl (.inl rfl)) aA)) aA)) rfl rfl rfl)))))))))
theorem xN (Z:Zs K mg) (C_number_of:Cal P w K mg base 1 "number_of" iC iD iE dC) (C_by_sizes:Cal P w K mg base 1 "by_sizes" kP kQ kR fU) {f:Addr} {fd:FuncData} (F:Fun K "term_of" "term_of" fQ f fd):FnOk P w K mg base CX0 (2) f fd ko (FSp K kq kr fP):=
 cJ (n:=3) F kZ rfl rfl fun cdv A outer s H vs E hr hv ds fr hd ef=>match vs,hv,ds,hd,ef with| [v0],_,[a_text],_,ef=>⟨_,zO Z C_number_of C_by_sizes hr v0 a_text,ef⟩
def ik (y2:D×D):Option (Out (D×D) (D×D)):=
 (CD D.cutS (some y2.1) (b1 D.toI (some (.int 3))) (some none)).bind fun d3=>(b2 D.cQ (some y2.2) (some (.int 1))).bind fun d4=>some (.nx (d3,d4))
def gq (a_text:D):Option (Out PEmpty PEmpty):=
 (some (.int 0)).bind fun d1=>whO (fun(y2:D×D)=>m8 (b2 D.ltI (some y2.2) (some (.int 5))) (b1 D.tb (b2 D.starts (some y2.1) (some (.str "no "))))) (ik) (a_text,d1) fun(y2:D×D)=>ifO (b2 D.eqA (b2 D.cj (some y2.2) (some (.int 2))) (some (.int 1))) (cR (aT fV (aj (aT fP (aj (some y2.1) (aM))) (aM))) []) (some (.nx ())) fun(y5:Unit)=>cR (aT fP (aj (some y2.1) (aM))) []
def dW:List D->Option FR:=fn1 fun a_text=>FO (gq a_text)
abbrev oE:List Str:=["text","times"]
abbrev gu:List Str:=["text"]
theorem iq:FnScope oE gu (defScope cA):=⟨rfl,rfl,rfl,by decide+kernel,rfl,by decide+kernel,by decide+kernel⟩
abbrev gv:List PM:=[.fz]
abbrev gz:VM:=.rg .fz
theorem uN (Z:Zs K mg) (C_term_of:Cal P w K mg base 2 "term_of" ko kq kr fP) (C_opposite:Cal P w K mg base 1 "opposite" kS kT kU fV) {f:Addr} {cdv:Value} {A:Around} {outer:List Env} {s:Shared} {H:Hp} {E:XK} (hr:Room 2 (A.deeper (envOfC "noted_term" (defScope cA) s.heap.objs.size f cdv))) (v0:V) (a_text:D):
  Blk (cxT P w K mg base oE "noted_term" (defScope cA) f cdv A outer s H E) (fnX gz (bq gv [v0]) E) [.fz,.fz] [some a_text,none] (defBody cA) (gq a_text):=by
 unfold gq
 exact (bI 1 [.fz,.fz] (fun(d1:D)=>[some a_text,some d1]) (ak (rg:=.fz)) (fun(d1:D)=>(Av [.fz,.fz] (fun(y2:D×D)=>[some y2.1,some y2.2]) (fun(y2:D×D)=>(PW.pt (ya (br op_lt (kE (rg:=.fz)) (af (md:=.fz) 1 rfl rfl rfl (.inl rfl)) (ak (rg:=.fz)) rfl) (vq (ri (zp (rg:=.fz) (af (md:=.fz) 0 rfl rfl rfl (.inl rfl)) (aN (rg:=.fz)))))))) (.keep (.keep (.nil))) (fun(y2:D×D)=>by unfold ik;exact (bI 0 [.fz,.fz] (fun(d3:D)=>[some d3,some y2.2]) (Cq (rg:=.fz) (af (md:=.fz) 0 rfl rfl rfl (.inl rfl)) (rj (ak (rg:=.fz))) Ah) (fun(d3:D)=>(CK (fI:=fun i j=>i+j) 1 [.fz,.fz] (fun(d4:D)=>[some d3,some d4]) ip_add Ff (ak (rg:=.fz)) (fun(d4:D)=>(aO (.keep (.keep (.nil))))) (.inl rfl) iq.nd)) (.inl rfl) iq.nd)) (fun(y2:D×D)=>(fm [.fz,.fz] (fun(y5:Unit)=>[some y2.1,some y2.2]) (br op_eq (gd (rg:=.fz)) (aG op_mod (cW (rg:=.fz)) (af (md:=.fz) 1 rfl rfl rfl (.inl rfl)) (ak (rg:=.fz))) (ak (rg:=.fz)) rfl) (aJ (aE C_opposite hr (ae (aE C_term_of hr (ae (af (md:=.fz) 0 rfl rfl rfl (.inl rfl)) aA)) aA)) rfl rfl rfl) (aO (.keep (.keep (.nil)))) (fun(y5:Unit)=>(aJ (aE C_term_of hr (ae (af (md:=.fz) 0 rfl rfl rfl (.inl rfl)) aA)) rfl rfl rfl)))))) (.inl rfl) iq.nd)
theorem sL (Z:Zs K mg) (C_term_of:Cal P w K mg base 2 "term_of" ko kq kr fP) (C_opposite:Cal P w K mg base 1 "opposite" kS kT kU fV) {f:Addr} {fd:FuncData} (F:Fun K "noted_term" "noted_term" cA f fd):FnOk P w K mg base CX0 (3) f fd gu (FSp K gv gz dW):=
 cJ (n:=1) F iq rfl rfl fun cdv A outer s H vs E hr hv ds fr hd ef=>match vs,hv,ds,hd,ef with| [v0],_,[a_text],_,ef=>⟨_,uN Z C_term_of C_opposite hr v0 a_text,ef⟩
def k6 (y3:D) (x5:D):Option (Out (D) (D)):=
 (As y3 (some []) (aT hO (aj (lcO (qj (b2 D.split (some x5) (some (.str " and ")))) (fun c6:D=>some true) (fun c6:D=>aT dW (aj (some c6) (aM)))) (aM))) D.app).bind fun d7=>some (.nx d7.2)
def ku (a_text:D):Option (Out PEmpty PEmpty):=
 (some (.lst [])).bind fun d1=>Fd (oY (qj (b2 D.split (some a_text) (some (.str " or ")))) (k6) d1 fun(y3:D)=>some (.nx y3)) (fun(y2:D)=>cR (aT fW (aj (some y2) (aM))) []) fun(y8:Unit)=>none
def hV:List D->Option FR:=fn1 fun a_text=>FO (ku a_text)
abbrev pz:List Str:=["text","some","part","term"]
abbrev kv:List Str:=["text"]
theorem jA:FnScope pz kv (defScope eW):=⟨rfl,rfl,rfl,by decide+kernel,rfl,by decide+kernel,by decide+kernel⟩
abbrev kx:List PM:=[.bo]
abbrev kz:VM:=.rg .fz
theorem zP (Z:Zs K mg) (C_noted_term:Cal P w K mg base 3 "noted_term" gu gv gz dW) (C_all_let:Cal P w K mg base 1 "all_let" mv mw mC hO) (C_one_lets:Cal P w K mg base 1 "one_lets" kW kX kY fW) {f:Addr} {cdv:Value} {A:Around} {outer:List Env} {s:Shared} {H:Hp} {E:XK} (hr:Room 3 (A.deeper (envOfC "rule_of" (defScope eW) s.heap.objs.size f cdv))) (v0:V) (a_text:D):
  Blk (cxT P w K mg base pz "rule_of" (defScope eW) f cdv A outer s H E) (fnX kz (bq kx [v0]) E) [.bo,.fz,.fz,.fz] [some a_text,none,none,none] (defBody eW) (ku a_text):=by
 unfold ku
 exact (bI 1 [.bo,.ow (.ls .fz),.fz,.fz] (fun(d1:D)=>[some a_text,some d1,none,none]) (tV (s:=.fz)) (fun(d1:D)=>(Fe [.bo,.ow (.ls .fz),.fz,.fz] (fun(y2:D)=>[some a_text,some y2,none,none]) [.bo,.fz,.fz,.fz] (fun(y8:Unit)=>[some a_text,none,none,none]) (jT [.bo,.ow (.ls .fz),.fz,.fz] (fun(y3:D)=>[some a_text,some y3,none,none]) [.bo,.ow (.ls .fz),.fz,.fz] (fun(y3:D) (x5:D)=>[some a_text,some y3,some x5,none]) (gh (gb (vD (af (md:=.bo) 0 rfl rfl rfl (.inl rfl)) (aN (rg:=.fz))))) bQ dM (pg_name (i:=2) jA.nd rfl (.inl rfl)) (cS _ 2 dM (Nat.le_of_ble_eq_true rfl)) (.keep (.keep (.drop (.drop (.nil))))) (fun(y3:D) (x5:D)=>by unfold k6;exact (vy 1 (fun(d7:D×D)=>[some a_text,some d7.2,some x5,none]) (ye (s9 rfl rfl rfl (Am 1 rfl rfl rfl rfl (.inl rfl)) (Ea rfl) (aE C_all_let hr (ae (gb (s6 rfl jA.nd (gh (gb (vD (af (md:=.fz) 2 rfl rfl rfl (.inl rfl)) (aN (rg:=.fz))))) bQ dM (show BlkOk pz (defScope eW) _ [("term",3)] from ⟨rfl,by decide+kernel,by decide+kernel,by decide+kernel,by decide+kernel⟩) (vA rfl) pR (fun _ _ _ _ _=>(pg_name (i:=3) jA.nd rfl (.inl rfl))) (cS _ 3 dM (Nat.le_of_ble_eq_true rfl)) (fun _ _ _ _ _ (c6:D)=>j7) (fun _ _ _ _ _ (c6:D)=>(aE C_noted_term hr (ae (af (md:=.fz) 3 rfl rfl rfl (.inl rfl)) aA))))) aA)) rfl)) (fun(d7:D×D)=>(aO (.keep (.keep (.drop (.drop (.nil))))))))) (fun(y3:D)=>(aO (.keep (.keep (.drop (.drop (.nil)))))))) (fun(y2:D)=>(mj 1 [.bo,.fz,.fz,.fz] (aJ (aE C_one_lets hr (ae (af (md:=.fz) 1 rfl rfl rfl (.inl rfl)) aA)) rfl rfl rfl))) (fun(y8:Unit)=>qF))) (.inl rfl) jA.nd)
theorem xO (Z:Zs K mg) (C_noted_term:Cal P w K mg base 3 "noted_term" gu gv gz dW) (C_all_let:Cal P w K mg base 1 "all_let" mv mw mC hO) (C_one_lets:Cal P w K mg base 1 "one_lets" kW kX kY fW) {f:Addr} {fd:FuncData} (F:Fun K "rule_of" "rule_of" eW f fd):FnOk P w K mg base CX0 (4) f fd kv (FSp K kx kz hV):=
 cJ (n:=3) F jA rfl rfl fun cdv A outer s H vs E hr hv ds fr hd ef=>match vs,hv,ds,hd,ef with| [v0],_,[a_text],_,ef=>⟨_,zP Z C_noted_term C_all_let C_one_lets hr v0 a_text,ef⟩
def iH (a__law_script:D) (a__law_k:D):Option (Out PEmpty PEmpty):=
 ifO (b2 D.ltI (some a__law_k) (b1 (un1 D.vt) (aj (some a__law_script) (aM)))) (cR (b2 D.atC (some a__law_script) (some a__law_k)) []) (some (.nx ())) fun(y1:Unit)=>cR (some (.int 0)) []
def dD:List D->Option FR:=fn2 fun a__law_script a__law_k=>FO (iH a__law_script a__law_k)
abbrev qa:List Str:=["_law_script","_law_k"]
abbrev iI:List Str:=["_law_script","_law_k"]
theorem uO:FnScope qa iI (defScope di):=⟨rfl,rfl,rfl,by decide+kernel,rfl,by decide+kernel,by decide+kernel⟩
abbrev iJ:List PM:=[.bo,.bo]
abbrev iK:VM:=.rg .fz
theorem wg (Z:Zs K mg) {f:Addr} {cdv:Value} {A:Around} {outer:List Env} {s:Shared} {H:Hp} {E:XK} (hr:Room 0 (A.deeper (envOfC "_law_cell" (defScope di) s.heap.objs.size f cdv))) (v0 v1:V) (a__law_script a__law_k:D):
  Blk (cxT P w K mg base qa "_law_cell" (defScope di) f cdv A outer s H E) (fnX iK (bq iJ [v0,v1]) E) [.bo,.bo] [some a__law_script,some a__law_k] (defBody di) (iH a__law_script a__law_k):=by
 unfold iH
 exact (fm [.bo,.bo] (fun(y1:Unit)=>[some a__law_script,some a__law_k]) (br op_lt (kE (rg:=.fz)) (af (md:=.bo) 1 rfl rfl rfl (.inl rfl)) (j6 call_len_seq (EO (rg:=.fz)) (by rfl) Z.len wL (ae (af (md:=.bo) 0 rfl rfl rfl (.inl rfl)) aA)) rfl) (aJ (bt ix_list (GU (rg:=.fz)) (af (md:=.bo) 0 rfl rfl rfl (.inl rfl)) (af (md:=.bo) 1 rfl rfl rfl (.inl rfl)) (fun _ _=>rfl)) rfl rfl rfl) (aO (.keep (.keep (.nil)))) (fun(y1:Unit)=>(aJ (ak (rg:=.fz)) rfl rfl rfl)))
theorem uP (Z:Zs K mg) {f:Addr} {fd:FuncData} (F:Fun K "_law_cell" "_law_cell" di f fd):FnOk P w K mg base CX0 (1) f fd iI (FSp K iJ iK dD):=
 cJ (n:=0) F uO rfl rfl fun cdv A outer s H vs E hr hv ds fr hd ef=>match vs,hv,ds,hd,ef with| [v0,v1],_,[a__law_script,a__law_k],_,ef=>⟨_,wg Z hr v0 v1 a__law_script a__law_k,ef⟩
def jB (a__law_cell_here:D) (a__law_k:D):Option (Out PEmpty PEmpty):=
 (b2 D.cj (b2 D.cQ (b2 D.cQ (b2 D.cj (some a__law_cell_here) (some (.int 2147483629))) (b2 D.jD (some (.int 7919)) (some a__law_k))) (some (.int 12345))) (some (.int 2147483629))).bind fun d1=>(b2 D.cj (b2 D.cQ (b2 D.jD (some d1) (some d1)) (b2 D.jD (some (.int 104729)) (some a__law_k))) (some (.int 2147483629))).bind fun d2=>cR (b2 D.cj (b2 D.jD (b2 D.cQ (some d2) (some a__law_k)) (b2 D.cQ (some d2) (some a__law_k))) (some (.int 2147483587))) []
def aU:List D->Option FR:=fn2 fun a__law_cell_here a__law_k=>FO (jB a__law_cell_here a__law_k)
abbrev sm:List Str:=["_law_cell_here","_law_k","_law_number"]
abbrev dE:List Str:=["_law_cell_here","_law_k"]
theorem l4:FnScope sm dE (defScope eF):=⟨rfl,rfl,rfl,by decide+kernel,rfl,by decide+kernel,by decide+kernel⟩
abbrev dF:List PM:=[.bo,.bo]
abbrev dG:VM:=.rg .fz
theorem xP (Z:Zs K mg) {f:Addr} {cdv:Value} {A:Around} {outer:List Env} {s:Shared} {H:Hp} {E:XK} (hr:Room 0 (A.deeper (envOfC "_law_mix" (defScope eF) s.heap.objs.size f cdv))) (v0 v1:V) (a__law_cell_here a__law_k:D):
  Blk (cxT P w K mg base sm "_law_mix" (defScope eF) f cdv A outer s H E) (fnX dG (bq dF [v0,v1]) E) [.bo,.bo,.fz] [some a__law_cell_here,some a__law_k,none] (defBody eF) (jB a__law_cell_here a__law_k):=by
 unfold jB
 exact (bI 2 [.bo,.bo,.fz] (fun(d1:D)=>[some a__law_cell_here,some a__law_k,some d1]) (aG op_mod (cW (rg:=.fz)) (aG op_add (g9 (rg:=.fz)) (aG op_add (g9 (rg:=.fz)) (aG op_mod (cW (rg:=.fz)) (af (md:=.bo) 0 rfl rfl rfl (.inl rfl)) (ak (rg:=.fz))) (aG op_mul (q8 (rg:=.fz)) (ak (rg:=.fz)) (af (md:=.bo) 1 rfl rfl rfl (.inl rfl)))) (ak (rg:=.fz))) (ak (rg:=.fz))) (fun(d1:D)=>(bI 2 [.bo,.bo,.fz] (fun(d2:D)=>[some a__law_cell_here,some a__law_k,some d2]) (aG op_mod (cW (rg:=.fz)) (aG op_add (g9 (rg:=.fz)) (aG op_mul (q8 (rg:=.fz)) (af (md:=.fz) 2 rfl rfl rfl (.inl rfl)) (af (md:=.fz) 2 rfl rfl rfl (.inl rfl))) (aG op_mul (q8 (rg:=.fz)) (ak (rg:=.fz)) (af (md:=.bo) 1 rfl rfl rfl (.inl rfl)))) (ak (rg:=.fz))) (fun(d2:D)=>(aJ (aG op_mod (cW (rg:=.fz)) (aG op_mul (q8 (rg:=.fz)) (aG op_add (g9 (rg:=.fz)) (af (md:=.fz) 2 rfl rfl rfl (.inl rfl)) (af (md:=.bo) 1 rfl rfl rfl (.inl rfl))) (aG op_add (g9 (rg:=.fz)) (af (md:=.fz) 2 rfl rfl rfl (.inl rfl)) (af (md:=.bo) 1 rfl rfl rfl (.inl rfl)))) (ak (rg:=.fz))) rfl rfl rfl)) (.inl rfl) l4.nd)) (.inl rfl) l4.nd)
theorem wh (Z:Zs K mg) {f:Addr} {fd:FuncData} (F:Fun K "_law_mix" "_law_mix" eF f fd):FnOk P w K mg base CX0 (1) f fd dE (FSp K dF dG aU):=
 cJ (n:=1) F l4 rfl rfl fun cdv A outer s H vs E hr hv ds fr hd ef=>match vs,hv,ds,hd,ef with| [v0,v1],_,[a__law_cell_here,a__law_k],_,ef=>⟨_,xP Z hr v0 v1 a__law_cell_here a__law_k,ef⟩
def gA (a__law_found:D):Option (Out PEmpty PEmpty):=
 cR (Ar (blO (b1 (D.isa "int") (some a__law_found))) (CC (blO (b1 (D.isa "bool") (some a__law_found))))) []
def dX:List D->Option FR:=fn1 fun a__law_found=>FO (gA a__law_found)
abbrev oF:List Str:=["_law_found"]
abbrev gC:List Str:=["_law_found"]
theorem sM:FnScope oF gC (defScope cB):=⟨rfl,rfl,rfl,by decide+kernel,rfl,by decide+kernel,by decide+kernel⟩
abbrev gD:List PM:=[.bo]
abbrev gE:VM:=.rg .fz
theorem uQ (Z:Zs K mg) {f:Addr} {cdv:Value} {A:Around} {outer:List Env} {s:Shared} {H:Hp} {E:XK} (hr:Room 0 (A.deeper (envOfC "_law_whole" (defScope cB) s.heap.objs.size f cdv))) (v0:V) (a__law_found:D):
  Blk (cxT P w K mg base oF "_law_whole" (defScope cB) f cdv A outer s H E) (fnX gE (bq gD [v0]) E) [.bo] [some a__law_found] (defBody cB) (gA a__law_found):=by
 unfold gA
 exact (aJ (wH (wM (rg:=.fz) (T:="int") rfl Z.isinstance Z.int yg rfl (af (md:=.bo) 0 rfl rfl rfl (.inl rfl))) (tX (Af (rg:=.fz) (wM (rg:=.fz) (T:="bool") rfl Z.isinstance Z.bool vC rfl (af (md:=.bo) 0 rfl rfl rfl (.inl rfl)))))) rfl rfl rfl)
theorem sN (Z:Zs K mg) {f:Addr} {fd:FuncData} (F:Fun K "_law_whole" "_law_whole" cB f fd):FnOk P w K mg base CX0 (1) f fd gC (FSp K gD gE dX):=
 cJ (n:=0) F sM rfl rfl fun cdv A outer s H vs E hr hv ds fr hd ef=>match vs,hv,ds,hd,ef with| [v0],_,[a__law_found],_,ef=>⟨_,uQ Z hr v0 a__law_found,ef⟩
def gF (a__law_number:D):Option (Out PEmpty PEmpty):=
 (some (.str "abcdefghijklmnopqrstuvwxyz")).bind fun d1=>(b2 D.cj (some a__law_number) (some (.int 3))).bind fun d2=>ifO (b2 D.eqA (some d2) (some (.int 0))) (cR (some (.str "")) []) (some (.nx ())) fun(y3:Unit)=>ifO (b2 D.eqA (some d2) (some (.int 1))) (cR (b2 D.atS (some d1) (b2 D.cj (b2 D.iY (some a__law_number) (some (.int 3))) (some (.int 26)))) []) (some (.nx ())) fun(y4:Unit)=>cR (b2 D.join (some (.str "")) (lcO (b1 D.mG (aj (some (.int 26)) (aM))) (fun c5:D=>b2 D.eqA (b2 D.cj (b2 D.iY (b2 D.iY (some a__law_number) (some (.int 3))) (b2 D.cQ (some c5) (some (.int 1)))) (some (.int 3))) (some (.int 0))) (fun c5:D=>b2 D.atS (some d1) (some c5)))) []
def dY:List D->Option FR:=fn1 fun a__law_number=>FO (gF a__law_number)
abbrev k7:List Str:=["_law_number","_law_letters","_law_way","_law_k"]
abbrev gG:List Str:=["_law_number"]
theorem fA:FnScope k7 gG (defScope bZ):=⟨rfl,rfl,rfl,by decide+kernel,rfl,by decide+kernel,by decide+kernel⟩
abbrev gH:List PM:=[.bo]
abbrev gJ:VM:=.rg .fz
theorem uR (Z:Zs K mg) {f:Addr} {cdv:Value} {A:Around} {outer:List Env} {s:Shared} {H:Hp} {E:XK} (hr:Room 0 (A.deeper (envOfC "_law_marks" (defScope bZ) s.heap.objs.size f cdv))) (v0:V) (a__law_number:D):
  Blk (cxT P w K mg base k7 "_law_marks" (defScope bZ) f cdv A outer s H E) (fnX gJ (bq gH [v0]) E) [.bo,.fz,.fz,.fz] [some a__law_number,none,none,none] (defBody bZ) (gF a__law_number):=by
 unfold gF
 exact (bI 1 [.bo,.fz,.fz,.fz] (fun(d1:D)=>[some a__law_number,some d1,none,none]) (aN (rg:=.fz)) (fun(d1:D)=>(bI 2 [.bo,.fz,.fz,.fz] (fun(d2:D)=>[some a__law_number,some d1,some d2,none]) (aG op_mod (cW (rg:=.fz)) (af (md:=.bo) 0 rfl rfl rfl (.inr (.inl rfl))) (ak (rg:=.fz))) (fun(d2:D)=>(fm [.bo,.fz,.fz,.fz] (fun(y3:Unit)=>[some a__law_number,some d1,some d2,none]) (br op_eq (gd (rg:=.fz)) (af (md:=.fz) 2 rfl rfl rfl (.inl rfl)) (ak (rg:=.fz)) rfl) (aJ (aN (rg:=.fz)) rfl rfl rfl) (aO (.keep (.keep (.keep (.drop (.nil)))))) (fun(y3:Unit)=>(fm [.bo,.fz,.fz,.fz] (fun(y4:Unit)=>[some a__law_number,some d1,some d2,none]) (br op_eq (gd (rg:=.fz)) (af (md:=.fz) 2 rfl rfl rfl (.inl rfl)) (ak (rg:=.fz)) rfl) (aJ (bt ix_str (Ae (rg:=.fz)) (af (md:=.fz) 1 rfl rfl rfl (.inr (.inl rfl))) (aG op_mod (cW (rg:=.fz)) (aG op_fdiv (kB (rg:=.fz)) (af (md:=.bo) 0 rfl rfl rfl (.inr (.inl rfl))) (ak (rg:=.fz))) (ak (rg:=.fz))) (fun _ _=>rfl)) rfl rfl rfl) (aO (.keep (.keep (.keep (.drop (.nil)))))) (fun(y4:Unit)=>(aJ (t9 (rg:=.fz) (aN (rg:=.fz)) (gb (s6 rfl fA.nd (nW rfl Z.range (ae (ak (rg:=.fz)) aA)) bQ dM (show BlkOk k7 (defScope bZ) _ [("_law_k",3)] from ⟨rfl,by decide+kernel,by decide+kernel,by decide+kernel,by decide+kernel⟩) (vA rfl) pR (fun _ _ _ _ _=>(pg_name (i:=3) fA.nd rfl (.inl rfl))) (cS _ 3 dM (Nat.le_of_ble_eq_true rfl)) (fun _ _ _ _ _ (c5:D)=>(vu (br op_eq (gd (rg:=.fz)) (aG op_mod (cW (rg:=.fz)) (aG op_fdiv (kB (rg:=.fz)) (aG op_fdiv (kB (rg:=.fz)) (af (md:=.bo) 0 rfl rfl rfl (.inr (.inl rfl))) (ak (rg:=.fz))) (aG op_add (g9 (rg:=.fz)) (af (md:=.fz) 3 rfl rfl rfl (.inl rfl)) (ak (rg:=.fz)))) (ak (rg:=.fz))) (ak (rg:=.fz)) rfl))) (fun _ _ _ _ _ (c5:D)=>(bt ix_str (Ae (rg:=.fz)) (af (md:=.fz) 1 rfl rfl rfl (.inr (.inl rfl))) (af (md:=.fz) 3 rfl rfl rfl (.inl rfl)) (fun _ _=>rfl)))))) rfl rfl rfl)))))) (.inl rfl) fA.nd)) (.inr rfl) fA.nd)
theorem sO (Z:Zs K mg) {f:Addr} {fd:FuncData} (F:Fun K "_law_marks" "_law_marks" bZ f fd):FnOk P w K mg base CX0 (1) f fd gG (FSp K gH gJ dY):=
 cJ (n:=3) F fA rfl rfl fun cdv A outer s H vs E hr hv ds fr hd ef=>match vs,hv,ds,hd,ef with| [v0],_,[a__law_number],_,ef=>⟨_,uR Z hr v0 a__law_number,ef⟩
def iL (a__law_cell_here:D) (a__law_k:D):Option (Out PEmpty PEmpty):=
 (aT aU (aj (some a__law_cell_here) (aj (some a__law_k) (aM)))).bind fun d1=>cR (tupO (aj (b2 D.atL (t6 (aj (some (.str "O")) (aj (some (.str "A")) (aj (some (.str "B")) (aj (some (.str "AB")) (aM)))))) (b2 D.cj (some d1) (some (.int 4)))) (aj (b2 D.cQ (some (.int 1)) (b2 D.cj (b2 D.iY (some d1) (some (.int 4))) (some (.int 99)))) (aj (aT dY (aj (b2 D.iY (some d1) (some (.int 400))) (aM))) (aM))))) []
def dH:List D->Option FR:=fn2 fun a__law_cell_here a__law_k=>FO (iL a__law_cell_here a__law_k)
abbrev qb:List Str:=["_law_cell_here","_law_k","_law_number"]
abbrev iM:List Str:=["_law_cell_here","_law_k"]
theorem oG:FnScope qb iM (defScope dj):=⟨rfl,rfl,rfl,by decide+kernel,rfl,by decide+kernel,by decide+kernel⟩
abbrev iN:List PM:=[.bo,.bo]
abbrev iO:VM:=.rg .fz
theorem wj (Z:Zs K mg) (C__law_mix:Cal P w K mg base 1 "_law_mix" dE dF dG aU) (C__law_marks:Cal P w K mg base 1 "_law_marks" gG gH gJ dY) {f:Addr} {cdv:Value} {A:Around} {outer:List Env} {s:Shared} {H:Hp} {E:XK} (hr:Room 1 (A.deeper (envOfC "_law_side" (defScope dj) s.heap.objs.size f cdv))) (v0 v1:V) (a__law_cell_here a__law_k:D):
  Blk (cxT P w K mg base qb "_law_side" (defScope dj) f cdv A outer s H E) (fnX iO (bq iN [v0,v1]) E) [.bo,.bo,.fz] [some a__law_cell_here,some a__law_k,none] (defBody dj) (iL a__law_cell_here a__law_k):=by
 unfold iL
 exact (bI 2 [.bo,.bo,.fz] (fun(d1:D)=>[some a__law_cell_here,some a__law_k,some d1]) (aE C__law_mix hr (ae (af (md:=.bo) 0 rfl rfl rfl (.inl rfl)) (ae (af (md:=.bo) 1 rfl rfl rfl (.inl rfl)) aA))) (fun(d1:D)=>(aJ (n4 (ae (bt ix_list sY (gb (m6 (ae (aN (rg:=.fz)) (ae (aN (rg:=.fz)) (ae (aN (rg:=.fz)) (ae (aN (rg:=.fz)) aA)))) E2)) (aG op_mod (cW (rg:=.fz)) (af (md:=.fz) 2 rfl rfl rfl (.inl rfl)) (ak (rg:=.fz))) (fun _ _=>rfl)) (ae (aG op_add (g9 (rg:=.fz)) (ak (rg:=.fz)) (aG op_mod (cW (rg:=.fz)) (aG op_fdiv (kB (rg:=.fz)) (af (md:=.fz) 2 rfl rfl rfl (.inl rfl)) (ak (rg:=.fz))) (ak (rg:=.fz)))) (ae (aE C__law_marks hr (ae (aG op_fdiv (kB (rg:=.fz)) (af (md:=.fz) 2 rfl rfl rfl (.inl rfl)) (ak (rg:=.fz))) aA)) aA)))) rfl rfl rfl)) (.inl rfl) oG.nd)
theorem uT (Z:Zs K mg) (C__law_mix:Cal P w K mg base 1 "_law_mix" dE dF dG aU) (C__law_marks:Cal P w K mg base 1 "_law_marks" gG gH gJ dY) {f:Addr} {fd:FuncData} (F:Fun K "_law_side" "_law_side" dj f fd):FnOk P w K mg base CX0 (2) f fd iM (FSp K iN iO dH):=
 cJ (n:=1) F oG rfl rfl fun cdv A outer s H vs E hr hv ds fr hd ef=>match vs,hv,ds,hd,ef with| [v0,v1],_,[a__law_cell_here,a__law_k],_,ef=>⟨_,wj Z C__law_mix C__law_marks hr v0 v1 a__law_cell_here a__law_k,ef⟩
def iP (a__law_number:D):Option (Out PEmpty PEmpty):=
 (b2 D.atL (t6 (aj (some (.str "groups")) (aj (some (.str "marks")) (aj (some (.str "sizes")) (aM))))) (b2 D.cj (b2 D.iY (some a__law_number) (some (.int 6))) (some (.int 3)))).bind fun d1=>(b2 D.atL (t6 (aj (b2 D.cj (b2 D.iY (some a__law_number) (some (.int 18))) (some (.int 99))) (aj (b2 D.cj (b2 D.iY (some a__law_number) (some (.int 18))) (some (.int 30))) (aM)))) (b2 D.cj (b2 D.iY (some a__law_number) (some (.int 1782))) (some (.int 2)))).bind fun d2=>cR (tupO (aj (b2 D.cj (some a__law_number) (some (.int 6))) (aj (some d1) (aj (some d2) (aM))))) []
def fe:List D->Option FR:=fn1 fun a__law_number=>FO (iP a__law_number)
abbrev qc:List Str:=["_law_number","_law_kind","_law_bound"]
abbrev iQ:List Str:=["_law_number"]
theorem k8:FnScope qc iQ (defScope dq):=⟨rfl,rfl,rfl,by decide+kernel,rfl,by decide+kernel,by decide+kernel⟩
abbrev iR:List PM:=[.bo]
abbrev iS:VM:=.rg .fz
theorem wm (Z:Zs K mg) {f:Addr} {cdv:Value} {A:Around} {outer:List Env} {s:Shared} {H:Hp} {E:XK} (hr:Room 0 (A.deeper (envOfC "_law_term" (defScope dq) s.heap.objs.size f cdv))) (v0:V) (a__law_number:D):
  Blk (cxT P w K mg base qc "_law_term" (defScope dq) f cdv A outer s H E) (fnX iS (bq iR [v0]) E) [.bo,.fz,.fz] [some a__law_number,none,none] (defBody dq) (iP a__law_number):=by
 unfold iP
 exact (bI 1 [.bo,.fz,.fz] (fun(d1:D)=>[some a__law_number,some d1,none]) (bt ix_list sY (gb (m6 (ae (aN (rg:=.fz)) (ae (aN (rg:=.fz)) (ae (aN (rg:=.fz)) aA))) t7)) (aG op_mod (cW (rg:=.fz)) (aG op_fdiv (kB (rg:=.fz)) (af (md:=.bo) 0 rfl rfl rfl (.inl rfl)) (ak (rg:=.fz))) (ak (rg:=.fz))) (fun _ _=>rfl)) (fun(d1:D)=>(bI 2 [.bo,.fz,.fz] (fun(d2:D)=>[some a__law_number,some d1,some d2]) (bt ix_list sY (gb (m6 (ae (aG op_mod (cW (rg:=.fz)) (aG op_fdiv (kB (rg:=.fz)) (af (md:=.bo) 0 rfl rfl rfl (.inl rfl)) (ak (rg:=.fz))) (ak (rg:=.fz))) (ae (aG op_mod (cW (rg:=.fz)) (aG op_fdiv (kB (rg:=.fz)) (af (md:=.bo) 0 rfl rfl rfl (.inl rfl)) (ak (rg:=.fz))) (ak (rg:=.fz))) aA)) wK)) (aG op_mod (cW (rg:=.fz)) (aG op_fdiv (kB (rg:=.fz)) (af (md:=.bo) 0 rfl rfl rfl (.inl rfl)) (ak (rg:=.fz))) (ak (rg:=.fz))) (fun _ _=>rfl)) (fun(d2:D)=>(aJ (n4 (ae (aG op_mod (cW (rg:=.fz)) (af (md:=.bo) 0 rfl rfl rfl (.inl rfl)) (ak (rg:=.fz))) (ae (af (md:=.fz) 1 rfl rfl rfl (.inl rfl)) (ae (af (md:=.fz) 2 rfl rfl rfl (.inl rfl)) aA)))) rfl rfl rfl)) (.inl rfl) k8.nd)) (.inl rfl) k8.nd)
theorem uU (Z:Zs K mg) {f:Addr} {fd:FuncData} (F:Fun K "_law_term" "_law_term" dq f fd):FnOk P w K mg base CX0 (1) f fd iQ (FSp K iR iS fe):=
 cJ (n:=2) F k8 rfl rfl fun cdv A outer s H vs E hr hv ds fr hd ef=>match vs,hv,ds,hd,ef with| [v0],_,[a__law_number],_,ef=>⟨_,wm Z hr v0 a__law_number,ef⟩
def cH (k__law_cell_here:D) (k__law_count:D) (y3:D) (x5:D):Option (Out (D) (D)):=
 (b2 D.cQ (some (.int 1)) (b2 D.cj (aT aU (aj (some k__law_cell_here) (aj (b2 D.cQ (some (.int 61)) (some x5)) (aM)))) (b2 D.atL (t6 (aj (some (.int 3)) (aj (some (.int 3)) (aj (some (.int 2)) (aM))))) (b2 D.lN (some k__law_count) (some (.int 1)))))).bind fun d6=>(As y3 (some []) (lcO (b1 D.mG (aj (some d6) (aM))) (fun c7:D=>some true) (fun c7:D=>aT fe (aj (aT aU (aj (some k__law_cell_here) (aj (b2 D.cQ (b2 D.cQ (some (.int 70)) (b2 D.jD (some (.int 3)) (some x5))) (some c7)) (aM)))) (aM)))) D.app).bind fun d8=>some (.nx d8.2)
def bU (a__law_cell_here:D):Option (Out PEmpty PEmpty):=
 (some (.lst [])).bind fun d1=>(b2 D.cQ (some (.int 1)) (b2 D.cj (aT aU (aj (some a__law_cell_here) (aj (some (.int 60)) (aM)))) (some (.int 3)))).bind fun d2=>oY (b1 D.mG (aj (some d2) (aM))) (cH a__law_cell_here d2) d1 fun(y3:D)=>cR (some y3) []
def aV:List D->Option FR:=fn1 fun a__law_cell_here=>FO (bU a__law_cell_here)
abbrev ft:List Str:=["_law_cell_here","_law_found","_law_count","_law_k","_law_many","_law_j"]
abbrev bV:List Str:=["_law_cell_here"]
theorem aW:FnScope ft bV (defScope aI):=⟨rfl,rfl,rfl,by decide+kernel,rfl,by decide+kernel,by decide+kernel⟩
abbrev bW:List PM:=[.bo]
abbrev bY:VM:=.rg .fz
theorem mK (Z:Zs K mg) (C__law_mix:Cal P w K mg base 1 "_law_mix" dE dF dG aU) (C__law_term:Cal P w K mg base 1 "_law_term" iQ iR iS fe) {f:Addr} {cdv:Value} {A:Around} {outer:List Env} {s:Shared} {H:Hp} {E:XK} (hr:Room 1 (A.deeper (envOfC "_law_alternatives" (defScope aI) s.heap.objs.size f cdv))) (v0:V) (a__law_cell_here:D):
  Blk (cxT P w K mg base ft "_law_alternatives" (defScope aI) f cdv A outer s H E) (fnX bY (bq bW [v0]) E) [.bo,.fz,.fz,.fz,.fz,.fz] [some a__law_cell_here,none,none,none,none,none] (defBody aI) (bU a__law_cell_here):=by
 unfold bU
 exact (bI 1 [.bo,.ow (.ls .fz),.fz,.fz,.fz,.fz] (fun(d1:D)=>[some a__law_cell_here,some d1,none,none,none,none]) (tV (s:=.fz)) (fun(d1:D)=>(bI 2 [.bo,.ow (.ls .fz),.fz,.fz,.fz,.fz] (fun(d2:D)=>[some a__law_cell_here,some d1,some d2,none,none,none]) (aG op_add (g9 (rg:=.fz)) (ak (rg:=.fz)) (aG op_mod (cW (rg:=.fz)) (aE C__law_mix hr (ae (af (md:=.bo) 0 rfl rfl rfl (.inr (.inl rfl))) (ae (ak (rg:=.fz)) aA))) (ak (rg:=.fz)))) (fun(d2:D)=>(jT [.bo,.ow (.ls .fz),.fz,.fz,.fz,.fz] (fun(y3:D)=>[some a__law_cell_here,some y3,some d2,none,none,none]) [.bo,.ow (.ls .fz),.fz,.fz,.fz,.fz] (fun(y3:D) (x5:D)=>[some a__law_cell_here,some y3,some d2,some x5,none,none]) (nW rfl Z.range (ae (af (md:=.fz) 2 rfl rfl rfl (.inl rfl)) aA)) bQ dM (pg_name (i:=3) aW.nd rfl (.inr rfl)) (cS _ 3 dM (Nat.le_of_ble_eq_true rfl)) (.keep (.keep (.keep (.drop (.drop (.drop (.nil))))))) (fun(y3:D) (x5:D)=>by unfold cH;exact (bI 4 [.bo,.ow (.ls .fz),.fz,.fz,.fz,.fz] (fun(d6:D)=>[some a__law_cell_here,some y3,some d2,some x5,some d6,none]) (aG op_add (g9 (rg:=.fz)) (ak (rg:=.fz)) (aG op_mod (cW (rg:=.fz)) (aE C__law_mix hr (ae (af (md:=.bo) 0 rfl rfl rfl (.inr (.inl rfl))) (ae (aG op_add (g9 (rg:=.fz)) (ak (rg:=.fz)) (af (md:=.fz) 3 rfl rfl rfl (.inr (.inl rfl)))) aA))) (bt ix_list sY (gb (m6 (ae (ak (rg:=.fz)) (ae (ak (rg:=.fz)) (ae (ak (rg:=.fz)) aA))) t7)) (aG op_sub (oU (rg:=.fz)) (af (md:=.fz) 2 rfl rfl rfl (.inl rfl)) (ak (rg:=.fz))) (fun _ _=>rfl)))) (fun(d6:D)=>(vy 1 (fun(d8:D×D)=>[some a__law_cell_here,some d8.2,some d2,some x5,some d6,none]) (ye (s9 rfl rfl rfl (Am 1 rfl rfl rfl rfl (.inl rfl)) (Ea rfl) (gb (s6 rfl aW.nd (nW rfl Z.range (ae (af (md:=.fz) 4 rfl rfl rfl (.inl rfl)) aA)) bQ dM (show BlkOk ft (defScope aI) _ [("_law_j",5)] from ⟨rfl,by decide+kernel,by decide+kernel,by decide+kernel,by decide+kernel⟩) (vA rfl) pR (fun _ _ _ _ _=>(pg_name (i:=5) aW.nd rfl (.inl rfl))) (cS _ 5 dM (Nat.le_of_ble_eq_true rfl)) (fun _ _ _ _ _ (c7:D)=>j7) (fun _ _ _ _ _ (c7:D)=>(aE C__law_term hr (ae (aE C__law_mix hr (ae (af (md:=.bo) 0 rfl rfl rfl (.inr (.inl rfl))) (ae (aG op_add (g9 (rg:=.fz)) (aG op_add (g9 (rg:=.fz)) (ak (rg:=.fz)) (aG op_mul (q8 (rg:=.fz)) (ak (rg:=.fz)) (af (md:=.fz) 3 rfl rfl rfl (.inr (.inl rfl))))) (af (md:=.fz) 5 rfl rfl rfl (.inl rfl))) aA))) aA))))) rfl)) (fun(d8:D×D)=>(aO (.keep (.keep (.keep (.drop (.drop (.drop (.nil))))))))))) (.inl rfl) aW.nd)) (fun(y3:D)=>(mj 1 [.bo,.fz,.fz,.fz,.fz,.fz] (aJ (af (md:=.fz) 1 rfl rfl rfl (.inl rfl)) rfl rfl rfl))))) (.inl rfl) aW.nd)) (.inl rfl) aW.nd)
theorem l5 (Z:Zs K mg) (C__law_mix:Cal P w K mg base 1 "_law_mix" dE dF dG aU) (C__law_term:Cal P w K mg base 1 "_law_term" iQ iR iS fe) {f:Addr} {fd:FuncData} (F:Fun K "_law_alternatives" "_law_alternatives" aI f fd):FnOk P w K mg base CX0 (2) f fd bV (FSp K bW bY aV):=
 cJ (n:=5) F aW rfl rfl fun cdv A outer s H vs E hr hv ds fr hd ef=>match vs,hv,ds,hd,ef with| [v0],_,[a__law_cell_here],_,ef=>⟨_,mK Z C__law_mix C__law_term hr v0 a__law_cell_here,ef⟩
def cX (a__law_term_here:D):Option (Out PEmpty PEmpty):=
 (b1 D.pr3 (some a__law_term_here)).bind fun d1=>ifO (b2 D.eqA (some d1.2.1) (some (.str "sizes"))) (cR (b2 D.mF (b2 D.mF (b2 D.mI (some (.str "no ")) (some d1.1)) (some (.str "sizes "))) (b1 (un1 D.wN) (aj (some d1.2.2) (aM)))) []) (some (.nx ())) fun(y2:Unit)=>cR (b2 D.mF (b2 D.mI (some (.str "no ")) (some d1.1)) (some d1.2.1)) []
def bN:List D->Option FR:=fn1 fun a__law_term_here=>FO (cX a__law_term_here)
abbrev kA:List Str:=["_law_term_here","_law_times","_law_kind","_law_bound"]
abbrev cY:List Str:=["_law_term_here"]
theorem eC:FnScope kA cY (defScope a9):=⟨rfl,rfl,rfl,by decide+kernel,rfl,by decide+kernel,by decide+kernel⟩
abbrev cZ:List PM:=[.bo]
abbrev c8:VM:=.rg .fz
theorem pA (Z:Zs K mg) {f:Addr} {cdv:Value} {A:Around} {outer:List Env} {s:Shared} {H:Hp} {E:XK} (hr:Room 0 (A.deeper (envOfC "_law_term_text" (defScope a9) s.heap.objs.size f cdv))) (v0:V) (a__law_term_here:D):
  Blk (cxT P w K mg base kA "_law_term_text" (defScope a9) f cdv A outer s H E) (fnX c8 (bq cZ [v0]) E) [.bo,.fz,.fz,.fz] [some a__law_term_here,none,none,none] (defBody a9) (cX a__law_term_here):=by
 unfold cX
 exact (yh 1 2 3 [.bo,.bo,.bo,.bo] (fun(d1:D×D×D)=>[some a__law_term_here,some d1.1,some d1.2.1,some d1.2.2]) (af (md:=.bo) 0 rfl rfl rfl (.inl rfl)) j8 (pg_tup rfl (pgs_cons (pg_name (i:=1) eC.nd rfl (.inl rfl)) (pgs_cons (pg_name (i:=2) eC.nd rfl (.inl rfl)) (pgs_cons (pg_name (i:=3) eC.nd rfl (.inl rfl)) pgs_nil)))) (fun(d1:D×D×D)=>(fm [.bo,.bo,.bo,.bo] (fun(y2:Unit)=>[some a__law_term_here,some d1.1,some d1.2.1,some d1.2.2]) (br op_eq (gd (rg:=.fz)) (af (md:=.bo) 2 rfl rfl rfl (.inl rfl)) (aN (rg:=.fz)) rfl) (aJ (aG op_add_str (q9 (rg:=.fz)) (aG op_add_str (q9 (rg:=.fz)) (aG yi (Ay (rg:=.fz)) (aN (rg:=.fz)) (af (md:=.bo) 1 rfl rfl rfl (.inl rfl))) (aN (rg:=.fz))) (sV call_str_int (E9 (rg:=.fz)) (by rfl) Z.str CG (ae (af (md:=.bo) 3 rfl rfl rfl (.inl rfl)) aA))) rfl rfl rfl) (aO (.keep (.keep (.keep (.keep (.nil)))))) (fun(y2:Unit)=>(aJ (aG op_add_str (q9 (rg:=.fz)) (aG yi (Ay (rg:=.fz)) (aN (rg:=.fz)) (af (md:=.bo) 1 rfl rfl rfl (.inl rfl))) (af (md:=.bo) 2 rfl rfl rfl (.inl rfl))) rfl rfl rfl)))))
theorem oH (Z:Zs K mg) {f:Addr} {fd:FuncData} (F:Fun K "_law_term_text" "_law_term_text" a9 f fd):FnOk P w K mg base CX0 (1) f fd cY (FSp K cZ c8 bN):=
 cJ (n:=3) F eC rfl rfl fun cdv A outer s H vs E hr hv ds fr hd ef=>match vs,hv,ds,hd,ef with| [v0],_,[a__law_term_here],_,ef=>⟨_,pA Z hr v0 a__law_term_here,ef⟩
def c9 (a__law_alternatives_here:D):Option (Out PEmpty PEmpty):=
 cR (b2 D.join (some (.str " or ")) (lcO (qj (some a__law_alternatives_here)) (fun c1:D=>some true) (fun c1:D=>b2 D.join (some (.str " and ")) (lcO (qj (some c1)) (fun c2:D=>some true) (fun c2:D=>aT bN (aj (some c2) (aM))))))) []
def bO:List D->Option FR:=fn1 fun a__law_alternatives_here=>FO (c9 a__law_alternatives_here)
abbrev ff:List Str:=["_law_alternatives_here","_law_terms","_law_term_here"]
abbrev da:List Str:=["_law_alternatives_here"]
theorem cI:FnScope ff da (defScope aX):=⟨rfl,rfl,rfl,by decide+kernel,rfl,by decide+kernel,by decide+kernel⟩
abbrev de:List PM:=[.bo]
abbrev df:VM:=.rg .fz
theorem pB (Z:Zs K mg) (C__law_term_text:Cal P w K mg base 1 "_law_term_text" cY cZ c8 bN) {f:Addr} {cdv:Value} {A:Around} {outer:List Env} {s:Shared} {H:Hp} {E:XK} (hr:Room 1 (A.deeper (envOfC "_law_rule_text" (defScope aX) s.heap.objs.size f cdv))) (v0:V) (a__law_alternatives_here:D):
  Blk (cxT P w K mg base ff "_law_rule_text" (defScope aX) f cdv A outer s H E) (fnX df (bq de [v0]) E) [.bo,.fz,.fz] [some a__law_alternatives_here,none,none] (defBody aX) (c9 a__law_alternatives_here):=by
 unfold c9
 exact (aJ (t9 (rg:=.fz) (aN (rg:=.fz)) (gb (s6 rfl cI.nd (gh (af (md:=.bo) 0 rfl rfl rfl (.inl rfl))) bQ j8 (show BlkOk ff (defScope aX) _ [("_law_terms",1)] from ⟨rfl,by decide+kernel,by decide+kernel,by decide+kernel,by decide+kernel⟩) (vA rfl) pR (fun _ _ _ _ _=>(pg_name (i:=1) cI.nd rfl (.inl rfl))) (cS _ 1 j8 (Nat.le_of_ble_eq_true rfl)) (fun _ _ _ _ _ (c1:D)=>j7) (fun _ _ _ _ _ (c1:D)=>(t9 (rg:=.fz) (aN (rg:=.fz)) (gb (s6 rfl cI.nd (gh (af (md:=.bo) 1 rfl rfl rfl (.inl rfl))) bQ j8 (by show BlkOk ff _ _ [("_law_term_here",2)];refine⟨rfl,by decide+kernel,by decide+kernel,?_,by decide+kernel⟩;(repeat' (first|exact List.forall_mem_nil _|(refine List.forall_mem_cons.mpr ⟨?_,?_⟩))) <;> (intro hf;first|(cases hf;done)|exact .inl rfl)) (vA rfl) pR (fun _ _ _ _ _=>(pg_name (i:=2) cI.nd rfl (.inl rfl))) (cS _ 2 j8 (Nat.le_of_ble_eq_true rfl)) (fun _ _ _ _ _ (c2:D)=>j7) (fun _ _ _ _ _ (c2:D)=>(aE C__law_term_text hr (ae (af (md:=.bo) 2 rfl rfl rfl (.inl rfl)) aA)))))))))) rfl rfl rfl)
theorem oJ (Z:Zs K mg) (C__law_term_text:Cal P w K mg base 1 "_law_term_text" cY cZ c8 bN) {f:Addr} {fd:FuncData} (F:Fun K "_law_rule_text" "_law_rule_text" aX f fd):FnOk P w K mg base CX0 (2) f fd da (FSp K de df bO):=
 cJ (n:=2) F cI rfl rfl fun cdv A outer s H vs E hr hv ds fr hd ef=>match vs,hv,ds,hd,ef with| [v0],_,[a__law_alternatives_here],_,ef=>⟨_,pB Z C__law_term_text hr v0 a__law_alternatives_here,ef⟩
def gL (a__law_kind:D) (a__law_bound:D) (a__law_giver:D) (a__law_taker:D):Option (Out PEmpty PEmpty):=
 ifO (b2 D.eqA (some a__law_kind) (some (.str "groups"))) ((t6 (aj (some (.str "O O")) (aj (some (.str "O A")) (aj (some (.str "O B")) (aj (some (.str "O AB")) (aj (some (.str "A A")) (aj (some (.str "A AB")) (aj (some (.str "B B")) (aj (some (.str "B AB")) (aj (some (.str "AB AB")) (aM))))))))))).bind fun d2=>cR (b2 (blD ((D.inA false))) (b2 D.mF (b2 D.mF (b2 D.atT (some a__law_giver) (some (.int 0))) (some (.str " "))) (b2 D.atT (some a__law_taker) (some (.int 0)))) (some d2)) []) (some (.nx ())) fun(y1:Unit)=>ifO (b2 D.eqA (some a__law_kind) (some (.str "marks"))) (cR (b2 (blD D.eqD) (lcO (b1 D.rq (b2 D.atT (some a__law_giver) (some (.int 2)))) (fun c4:D=>b2 (D.mH false) (some c4) (b2 D.atT (some a__law_taker) (some (.int 2)))) (fun c4:D=>some c4)) (some (.lst []))) []) (some (.nx ())) fun(y3:Unit)=>cR (Ar (b2 (blD D.leI) (b2 D.lN (b2 D.atT (some a__law_giver) (some (.int 1))) (b2 D.atT (some a__law_taker) (some (.int 1)))) (some a__law_bound)) (b2 (blD D.leI) (b2 D.lN (b2 D.atT (some a__law_taker) (some (.int 1))) (b2 D.atT (some a__law_giver) (some (.int 1)))) (some a__law_bound))) []
def dZ:List D->Option FR:=fn4 fun a__law_kind a__law_bound a__law_giver a__law_taker=>FO (gL a__law_kind a__law_bound a__law_giver a__law_taker)
abbrev k9:List Str:=["_law_kind","_law_bound","_law_giver","_law_taker","_law_pairs","_law_mark"]
abbrev gN:List Str:=["_law_kind","_law_bound","_law_giver","_law_taker"]
theorem iu:FnScope k9 gN (defScope b7):=⟨rfl,rfl,rfl,by decide+kernel,rfl,by decide+kernel,by decide+kernel⟩
abbrev gO:List PM:=[.bo,.bo,.bo,.bo]
abbrev gQ:VM:=.rg .fz
theorem uV (Z:Zs K mg) {f:Addr} {cdv:Value} {A:Around} {outer:List Env} {s:Shared} {H:Hp} {E:XK} (hr:Room 0 (A.deeper (envOfC "_law_plain" (defScope b7) s.heap.objs.size f cdv))) (v0 v1 v2 v3:V) (a__law_kind a__law_bound a__law_giver a__law_taker:D):
  Blk (cxT P w K mg base k9 "_law_plain" (defScope b7) f cdv A outer s H E) (fnX gQ (bq gO [v0,v1,v2,v3]) E) [.bo,.bo,.bo,.bo,.fz,.fz] [some a__law_kind,some a__law_bound,some a__law_giver,some a__law_taker,none,none] (defBody b7) (gL a__law_kind a__law_bound a__law_giver a__law_taker):=by
 unfold gL
 exact (fm [.bo,.bo,.bo,.bo,.fz,.fz] (fun(y1:Unit)=>[some a__law_kind,some a__law_bound,some a__law_giver,some a__law_taker,none,none]) (br op_eq (gd (rg:=.fz)) (af (md:=.bo) 0 rfl rfl rfl (.inl rfl)) (aN (rg:=.fz)) rfl) (bI 4 [.bo,.bo,.bo,.bo,.fz,.fz] (fun(d2:D)=>[some a__law_kind,some a__law_bound,some a__law_giver,some a__law_taker,some d2,none]) (gb (m6 (ae (aN (rg:=.fz)) (ae (aN (rg:=.fz)) (ae (aN (rg:=.fz)) (ae (aN (rg:=.fz)) (ae (aN (rg:=.fz)) (ae (aN (rg:=.fz)) (ae (aN (rg:=.fz)) (ae (aN (rg:=.fz)) (ae (aN (rg:=.fz)) aA))))))))) Fl)) (fun(d2:D)=>(aJ (jP op_in_seq (GR (rg:=.fz)) (aG op_add_str (q9 (rg:=.fz)) (aG op_add_str (q9 (rg:=.fz)) (bt ix_tup cE (af (md:=.bo) 2 rfl rfl rfl (.inl rfl)) (ak (rg:=.fz)) (fun _ _=>rfl)) (aN (rg:=.fz))) (bt ix_tup cE (af (md:=.bo) 3 rfl rfl rfl (.inr (.inl rfl))) (ak (rg:=.fz)) (fun _ _=>rfl))) (af (md:=.fz) 4 rfl rfl rfl (.inl rfl)) rfl) rfl rfl rfl)) (.inl rfl) iu.nd) (aO (.keep (.keep (.keep (.keep (.drop (.drop (.nil)))))))) (fun(y1:Unit)=>(fm [.bo,.bo,.bo,.bo,.fz,.fz] (fun(y3:Unit)=>[some a__law_kind,some a__law_bound,some a__law_giver,some a__law_taker,none,none]) (br op_eq (gd (rg:=.fz)) (af (md:=.bo) 0 rfl rfl rfl (.inl rfl)) (aN (rg:=.fz)) rfl) (aJ (jP (op_eqD hr.units) (GQ (rg:=.fz)) (gb (s6 rfl iu.nd (tY (bt ix_tup cE (af (md:=.bo) 2 rfl rfl rfl (.inl rfl)) (ak (rg:=.fz)) (fun _ _=>rfl))) bQ dM (show BlkOk k9 (defScope b7) _ [("_law_mark",5)] from ⟨rfl,by decide+kernel,by decide+kernel,by decide+kernel,by decide+kernel⟩) (vA rfl) pR (fun _ _ _ _ _=>(pg_name (i:=5) iu.nd rfl (.inl rfl))) (cS _ 5 dM (Nat.le_of_ble_eq_true rfl)) (fun _ _ _ _ _ (c4:D)=>(vu (br op_in_sign Ax (af (md:=.fz) 5 rfl rfl rfl (.inl rfl)) (bt ix_tup cE (af (md:=.bo) 3 rfl rfl rfl (.inr (.inl rfl))) (ak (rg:=.fz)) (fun _ _=>rfl)) rfl))) (fun _ _ _ _ _ (c4:D)=>(af (md:=.fz) 5 rfl rfl rfl (.inl rfl))))) (gb (tV (s:=.fz))) rfl) rfl rfl rfl) (aO (.keep (.keep (.keep (.keep (.drop (.drop (.nil)))))))) (fun(y3:Unit)=>(aJ (wH (jP op_le (kE (rg:=.fz)) (aG op_sub (oU (rg:=.fz)) (bt ix_tup cE (af (md:=.bo) 2 rfl rfl rfl (.inl rfl)) (ak (rg:=.fz)) (fun _ _=>rfl)) (bt ix_tup cE (af (md:=.bo) 3 rfl rfl rfl (.inr (.inl rfl))) (ak (rg:=.fz)) (fun _ _=>rfl))) (af (md:=.bo) 1 rfl rfl rfl (.inl rfl)) rfl) (tX (jP op_le (kE (rg:=.fz)) (aG op_sub (oU (rg:=.fz)) (bt ix_tup cE (af (md:=.bo) 3 rfl rfl rfl (.inr (.inl rfl))) (ak (rg:=.fz)) (fun _ _=>rfl)) (bt ix_tup cE (af (md:=.bo) 2 rfl rfl rfl (.inl rfl)) (ak (rg:=.fz)) (fun _ _=>rfl))) (af (md:=.bo) 1 rfl rfl rfl (.inl rfl)) rfl))) rfl rfl rfl)))))
theorem sP (Z:Zs K mg) {f:Addr} {fd:FuncData} (F:Fun K "_law_plain" "_law_plain" b7 f fd):FnOk P w K mg base CX0 (1) f fd gN (FSp K gO gQ dZ):=
 cJ (n:=2) F iu rfl rfl fun cdv A outer s H vs E hr hv ds fr hd ef=>match vs,hv,ds,hd,ef with| [v0,v1,v2,v3],_,[a__law_kind,a__law_bound,a__law_giver,a__law_taker],_,ef=>⟨_,uV Z hr v0 v1 v2 v3 a__law_kind a__law_bound a__law_giver a__law_taker,ef⟩
def jj (k__law_giver:D) (k__law_taker:D) (y5:D) (x7:D×D×D):Option (Out (D) (D)):=
 ifO (b2 D.eqA (aT dZ (aj (some x7.2.1) (aj (some x7.2.2) (aj (some k__law_giver) (aj (some k__law_taker) (aM)))))) (b2 (blD D.eqA) (b2 D.cj (some x7.1) (some (.int 2))) (some (.int 1)))) ((some (.bl false)).bind fun d9=>some (.nx d9)) (some (.nx y5)) fun(y8:D)=>some (.nx y8)
def jm (k__law_giver:D) (k__law_taker:D) (y1:Unit) (x3:D):Option (Out (Unit) (Unit)):=
 (some (.bl true)).bind fun d4=>oY (CM (some x3)) (jj k__law_giver k__law_taker) d4 fun(y5:D)=>ifO (b1 D.tb (some y5)) (cR (some (.bl true)) []) (some (.nx ())) fun(y10:Unit)=>some (.nx ())
def iT (a__law_alternatives_here:D) (a__law_giver:D) (a__law_taker:D):Option (Out PEmpty PEmpty):=
 oY (qj (some a__law_alternatives_here)) (jm a__law_giver a__law_taker) () fun(y1:Unit)=>cR (some (.bl false)) []
def fg:List D->Option FR:=fn3 fun a__law_alternatives_here a__law_giver a__law_taker=>FO (iT a__law_alternatives_here a__law_giver a__law_taker)
abbrev qd:List Str:=["_law_alternatives_here","_law_giver","_law_taker","_law_terms","_law_good","_law_times","_law_kind","_law_bound"]
abbrev iU:List Str:=["_law_alternatives_here","_law_giver","_law_taker"]
theorem dI:FnScope qd iU (defScope du):=⟨rfl,rfl,rfl,by decide+kernel,rfl,by decide+kernel,by decide+kernel⟩
abbrev iV:List PM:=[.bo,.bo,.bo]
abbrev iW:VM:=.rg .fz
theorem wq (Z:Zs K mg) (C__law_plain:Cal P w K mg base 1 "_law_plain" gN gO gQ dZ) {f:Addr} {cdv:Value} {A:Around} {outer:List Env} {s:Shared} {H:Hp} {E:XK} (hr:Room 1 (A.deeper (envOfC "_law_lets" (defScope du) s.heap.objs.size f cdv))) (v0 v1 v2:V) (a__law_alternatives_here a__law_giver a__law_taker:D):
  Blk (cxT P w K mg base qd "_law_lets" (defScope du) f cdv A outer s H E) (fnX iW (bq iV [v0,v1,v2]) E) [.bo,.bo,.bo,.fz,.fz,.fz,.fz,.fz] [some a__law_alternatives_here,some a__law_giver,some a__law_taker,none,none,none,none,none] (defBody du) (iT a__law_alternatives_here a__law_giver a__law_taker):=by
 unfold iT
 exact (jT [.bo,.bo,.bo,.fz,.fz,.fz,.fz,.fz] (fun(y1:Unit)=>[some a__law_alternatives_here,some a__law_giver,some a__law_taker,none,none,none,none,none]) [.bo,.bo,.bo,.bo,.fz,.fz,.fz,.fz] (fun(y1:Unit) (x3:D)=>[some a__law_alternatives_here,some a__law_giver,some a__law_taker,some x3,none,none,none,none]) (gh (af (md:=.bo) 0 rfl rfl rfl (.inl rfl))) bQ j8 (pg_name (i:=3) dI.nd rfl (.inl rfl)) (cS _ 3 j8 (Nat.le_of_ble_eq_true rfl)) (.keep (.keep (.keep (.drop (.drop (.drop (.drop (.drop (.nil))))))))) (fun(y1:Unit) (x3:D)=>by unfold jm;exact (bI 4 [.bo,.bo,.bo,.bo,.fz,.fz,.fz,.fz] (fun(d4:D)=>[some a__law_alternatives_here,some a__law_giver,some a__law_taker,some x3,some d4,none,none,none]) (j5 (rg:=.fz)) (fun(d4:D)=>(jT [.bo,.bo,.bo,.bo,.fz,.fz,.fz,.fz] (fun(y5:D)=>[some a__law_alternatives_here,some a__law_giver,some a__law_taker,some x3,some y5,none,none,none]) [.bo,.bo,.bo,.bo,.fz,.bo,.bo,.bo] (fun(y5:D) (x7:D×D×D)=>[some a__law_alternatives_here,some a__law_giver,some a__law_taker,some x3,some y5,some x7.1,some x7.2.1,some x7.2.2]) (CN (af (md:=.bo) 3 rfl rfl rfl (.inl rfl))) AG j8 (pg_tup rfl (pgs_cons (pg_name (i:=5) dI.nd rfl (.inl rfl)) (pgs_cons (pg_name (i:=6) dI.nd rfl (.inl rfl)) (pgs_cons (pg_name (i:=7) dI.nd rfl (.inl rfl)) pgs_nil)))) (Fi _ 5 6 7 j8 (Nat.le_of_ble_eq_true rfl) (Nat.le_of_ble_eq_true rfl) (Nat.le_of_ble_eq_true rfl)) (.keep (.keep (.keep (.keep (.keep (.drop (.drop (.drop (.nil))))))))) (fun(y5:D) (x7:D×D×D)=>by unfold jj;exact (fm [.bo,.bo,.bo,.bo,.fz,.bo,.bo,.bo] (fun(y8:D)=>[some a__law_alternatives_here,some a__law_giver,some a__law_taker,some x3,some y8,some x7.1,some x7.2.1,some x7.2.2]) (br op_eq (gd (rg:=.fz)) (aE C__law_plain hr (ae (af (md:=.bo) 6 rfl rfl rfl (.inl rfl)) (ae (af (md:=.bo) 7 rfl rfl rfl (.inl rfl)) (ae (af (md:=.bo) 1 rfl rfl rfl (.inl rfl)) (ae (af (md:=.bo) 2 rfl rfl rfl (.inl rfl)) aA))))) (jP op_eq (gd (rg:=.fz)) (aG op_mod (cW (rg:=.fz)) (af (md:=.bo) 5 rfl rfl rfl (.inl rfl)) (ak (rg:=.fz))) (ak (rg:=.fz)) rfl) rfl) (bI 4 [.bo,.bo,.bo,.bo,.fz,.bo,.bo,.bo] (fun(d9:D)=>[some a__law_alternatives_here,some a__law_giver,some a__law_taker,some x3,some d9,some x7.1,some x7.2.1,some x7.2.2]) (j5 (rg:=.fz)) (fun(d9:D)=>(aO (.keep (.keep (.keep (.keep (.keep (.keep (.keep (.keep (.nil))))))))))) (.inl rfl) dI.nd) (aO (.keep (.keep (.keep (.keep (.keep (.keep (.keep (.keep (.nil)))))))))) (fun(y8:D)=>(aO (.keep (.keep (.keep (.keep (.keep (.drop (.drop (.drop (.nil))))))))))))) (fun(y5:D)=>(fm [.bo,.bo,.bo,.bo,.fz,.fz,.fz,.fz] (fun(y10:Unit)=>[some a__law_alternatives_here,some a__law_giver,some a__law_taker,some x3,some y5,none,none,none]) (ri (af (md:=.fz) 4 rfl rfl rfl (.inl rfl))) (aJ (j5 (rg:=.fz)) rfl rfl rfl) (aO (.keep (.keep (.keep (.keep (.keep (.drop (.drop (.drop (.nil)))))))))) (fun(y10:Unit)=>(aO (.keep (.keep (.keep (.drop (.drop (.drop (.drop (.drop (.nil))))))))))))))) (.inl rfl) dI.nd)) (fun(y1:Unit)=>(aJ (j5 (rg:=.fz)) rfl rfl rfl)))
theorem uW (Z:Zs K mg) (C__law_plain:Cal P w K mg base 1 "_law_plain" gN gO gQ dZ) {f:Addr} {fd:FuncData} (F:Fun K "_law_lets" "_law_lets" du f fd):FnOk P w K mg base CX0 (2) f fd iU (FSp K iV iW fg):=
 cJ (n:=5) F dI rfl rfl fun cdv A outer s H vs E hr hv ds fr hd ef=>match vs,hv,ds,hd,ef with| [v0,v1,v2],_,[a__law_alternatives_here,a__law_giver,a__law_taker],_,ef=>⟨_,wq Z C__law_plain hr v0 v1 v2 a__law_alternatives_here a__law_giver a__law_taker,ef⟩
def gR (a__law_cell_here:D):Option (Out PEmpty PEmpty):=
 (aT dH (aj (some a__law_cell_here) (aj (some (.int 5)) (aM)))).bind fun d1=>(aT dH (aj (some a__law_cell_here) (aj (some (.int 6)) (aM)))).bind fun d2=>(b2 D.cj (aT aU (aj (some a__law_cell_here) (aj (some (.int 7)) (aM)))) (some (.int 9))).bind fun d3=>ifO (b2 D.eqA (some d3) (some (.int 0))) ((tupO (aj (b2 D.atT (some d1) (some (.int 0))) (aj (b2 D.atT (some d2) (some (.int 1))) (aj (b2 D.atT (some d2) (some (.int 2))) (aM))))).bind fun d5=>some (.nx d5)) (some (.nx d2)) fun(y4:D)=>ifO (b2 D.eqA (some d3) (some (.int 1))) ((tupO (aj (b2 D.atT (some y4) (some (.int 0))) (aj (b1 D.min2 (aj (some (.int 99)) (aj (b2 D.cQ (b2 D.atT (some d1) (some (.int 1))) (b2 D.cj (aT aU (aj (some a__law_cell_here) (aj (some (.int 8)) (aM)))) (some (.int 32)))) (aM)))) (aj (b2 D.atT (some y4) (some (.int 2))) (aM))))).bind fun d7=>some (.nx d7)) (some (.nx y4)) fun(y6:D)=>ifO (b2 D.eqA (some d3) (some (.int 2))) ((tupO (aj (b2 D.atT (some y6) (some (.int 0))) (aj (b2 D.atT (some y6) (some (.int 1))) (aj (b2 D.atT (some d1) (some (.int 2))) (aM))))).bind fun d9=>some (.nx d9)) (some (.nx y6)) fun(y8:D)=>cR (tupO (aj (some d1) (aj (some y8) (aM)))) []
def eh:List D->Option FR:=fn1 fun a__law_cell_here=>FO (gR a__law_cell_here)
abbrev oK:List Str:=["_law_cell_here","_law_giver","_law_taker","_law_way"]
abbrev gT:List Str:=["_law_cell_here"]
theorem cN:FnScope oK gT (defScope cC):=⟨rfl,rfl,rfl,by decide+kernel,rfl,by decide+kernel,by decide+kernel⟩
abbrev gU:List PM:=[.bo]
abbrev gV:VM:=.rg .fz
theorem uX (Z:Zs K mg) (C__law_side:Cal P w K mg base 2 "_law_side" iM iN iO dH) (C__law_mix:Cal P w K mg base 1 "_law_mix" dE dF dG aU) {f:Addr} {cdv:Value} {A:Around} {outer:List Env} {s:Shared} {H:Hp} {E:XK} (hr:Room 2 (A.deeper (envOfC "_law_sides" (defScope cC) s.heap.objs.size f cdv))) (v0:V) (a__law_cell_here:D):
  Blk (cxT P w K mg base oK "_law_sides" (defScope cC) f cdv A outer s H E) (fnX gV (bq gU [v0]) E) [.bo,.fz,.fz,.fz] [some a__law_cell_here,none,none,none] (defBody cC) (gR a__law_cell_here):=by
 unfold gR
 exact (bI 1 [.bo,.fz,.fz,.fz] (fun(d1:D)=>[some a__law_cell_here,some d1,none,none]) (aE C__law_side hr (ae (af (md:=.bo) 0 rfl rfl rfl (.inl rfl)) (ae (ak (rg:=.fz)) aA))) (fun(d1:D)=>(bI 2 [.bo,.fz,.fz,.fz] (fun(d2:D)=>[some a__law_cell_here,some d1,some d2,none]) (aE C__law_side hr (ae (af (md:=.bo) 0 rfl rfl rfl (.inl rfl)) (ae (ak (rg:=.fz)) aA))) (fun(d2:D)=>(bI 3 [.bo,.fz,.fz,.fz] (fun(d3:D)=>[some a__law_cell_here,some d1,some d2,some d3]) (aG op_mod (cW (rg:=.fz)) (aE C__law_mix hr (ae (af (md:=.bo) 0 rfl rfl rfl (.inl rfl)) (ae (ak (rg:=.fz)) aA))) (ak (rg:=.fz))) (fun(d3:D)=>(fm [.bo,.fz,.fz,.fz] (fun(y4:D)=>[some a__law_cell_here,some d1,some y4,some d3]) (br op_eq (gd (rg:=.fz)) (af (md:=.fz) 3 rfl rfl rfl (.inl rfl)) (ak (rg:=.fz)) rfl) (bI 2 [.bo,.fz,.fz,.fz] (fun(d5:D)=>[some a__law_cell_here,some d1,some d5,some d3]) (n4 (ae (bt ix_tup cE (af (md:=.fz) 1 rfl rfl rfl (.inl rfl)) (ak (rg:=.fz)) (fun _ _=>rfl)) (ae (bt ix_tup cE (af (md:=.fz) 2 rfl rfl rfl (.inl rfl)) (ak (rg:=.fz)) (fun _ _=>rfl)) (ae (bt ix_tup cE (af (md:=.fz) 2 rfl rfl rfl (.inl rfl)) (ak (rg:=.fz)) (fun _ _=>rfl)) aA)))) (fun(d5:D)=>(aO (.keep (.keep (.keep (.keep (.nil))))))) (.inl rfl) cN.nd) (aO (.keep (.keep (.keep (.keep (.nil)))))) (fun(y4:D)=>(fm [.bo,.fz,.fz,.fz] (fun(y6:D)=>[some a__law_cell_here,some d1,some y6,some d3]) (br op_eq (gd (rg:=.fz)) (af (md:=.fz) 3 rfl rfl rfl (.inl rfl)) (ak (rg:=.fz)) rfl) (bI 2 [.bo,.fz,.fz,.fz] (fun(d7:D)=>[some a__law_cell_here,some d1,some d7,some d3]) (n4 (ae (bt ix_tup cE (af (md:=.fz) 2 rfl rfl rfl (.inl rfl)) (ak (rg:=.fz)) (fun _ _=>rfl)) (ae (j6 (call_min2 rfl) (E6 (rg:=.fz)) (by rfl) Z.min E3 (ae (ak (rg:=.fz)) (ae (aG op_add (g9 (rg:=.fz)) (bt ix_tup cE (af (md:=.fz) 1 rfl rfl rfl (.inl rfl)) (ak (rg:=.fz)) (fun _ _=>rfl)) (aG op_mod (cW (rg:=.fz)) (aE C__law_mix hr (ae (af (md:=.bo) 0 rfl rfl rfl (.inl rfl)) (ae (ak (rg:=.fz)) aA))) (ak (rg:=.fz)))) aA))) (ae (bt ix_tup cE (af (md:=.fz) 2 rfl rfl rfl (.inl rfl)) (ak (rg:=.fz)) (fun _ _=>rfl)) aA)))) (fun(d7:D)=>(aO (.keep (.keep (.keep (.keep (.nil))))))) (.inl rfl) cN.nd) (aO (.keep (.keep (.keep (.keep (.nil)))))) (fun(y6:D)=>(fm [.bo,.fz,.fz,.fz] (fun(y8:D)=>[some a__law_cell_here,some d1,some y8,some d3]) (br op_eq (gd (rg:=.fz)) (af (md:=.fz) 3 rfl rfl rfl (.inl rfl)) (ak (rg:=.fz)) rfl) (bI 2 [.bo,.fz,.fz,.fz] (fun(d9:D)=>[some a__law_cell_here,some d1,some d9,some d3]) (n4 (ae (bt ix_tup cE (af (md:=.fz) 2 rfl rfl rfl (.inl rfl)) (ak (rg:=.fz)) (fun _ _=>rfl)) (ae (bt ix_tup cE (af (md:=.fz) 2 rfl rfl rfl (.inl rfl)) (ak (rg:=.fz)) (fun _ _=>rfl)) (ae (bt ix_tup cE (af (md:=.fz) 1 rfl rfl rfl (.inl rfl)) (ak (rg:=.fz)) (fun _ _=>rfl)) aA)))) (fun(d9:D)=>(aO (.keep (.keep (.keep (.keep (.nil))))))) (.inl rfl) cN.nd) (aO (.keep (.keep (.keep (.keep (.nil)))))) (fun(y8:D)=>(aJ (CF (ae (af (md:=.fz) 1 rfl rfl rfl (.inl rfl)) (ae (af (md:=.fz) 2 rfl rfl rfl (.inl rfl)) aA))) rfl rfl rfl)))))))) (.inl rfl) cN.nd)) (.inl rfl) cN.nd)) (.inl rfl) cN.nd)
theorem sQ (Z:Zs K mg) (C__law_side:Cal P w K mg base 2 "_law_side" iM iN iO dH) (C__law_mix:Cal P w K mg base 1 "_law_mix" dE dF dG aU) {f:Addr} {fd:FuncData} (F:Fun K "_law_sides" "_law_sides" cC f fd):FnOk P w K mg base CX0 (3) f fd gT (FSp K gU gV eh):=
 cJ (n:=3) F cN rfl rfl fun cdv A outer s H vs E hr hv ds fr hd ef=>match vs,hv,ds,hd,ef with| [v0],_,[a__law_cell_here],_,ef=>⟨_,uX Z C__law_side C__law_mix hr v0 a__law_cell_here,ef⟩
def FC:Nat->List D->Option FR
 |0=>fun _=>none
 |n+1=>fcD [("by_groups",gj),("by_marks",iG)] [(bg,eX (FC n)),(bh,eY (FC n)),(bD,fH (FC n)),(bj,fb (FC n))]
def fK (k__law_rules:D) (k__law_some:D) (k__law_giver:D) (k__law_taker:D) (y1:Unit) (x3:D):Option (Out (Unit) (Unit)):=
 (aT (FC 12) (aj (b2 D.atL (some k__law_rules) (some x3)) (aj (some k__law_giver) (aj (some k__law_taker) (aM))))).bind fun d4=>ifO (orB (jS (b1 D.tb (blO (b1 (D.isa "bool") (some d4))))) (b2 D.neA (some d4) (aT fg (aj (b2 D.atL (some k__law_some) (some x3)) (aj (some k__law_giver) (aj (some k__law_taker) (aM))))))) (cR (some (.bl false)) []) (some (.nx ())) fun(y5:Unit)=>some (.nx ())
def eQ (a__law_rules:D) (a__law_some:D) (a__law_giver:D) (a__law_taker:D):Option (Out PEmpty PEmpty):=
 oY (b1 D.mG (aj (some (.int 2)) (aM))) (fK a__law_rules a__law_some a__law_giver a__law_taker) () fun(y1:Unit)=>(b1 D.max2 (aj (b2 D.lN (b2 D.atT (some a__law_giver) (some (.int 1))) (b2 D.atT (some a__law_taker) (some (.int 1)))) (aj (b2 D.lN (b2 D.atT (some a__law_taker) (some (.int 1))) (b2 D.atT (some a__law_giver) (some (.int 1)))) (aM)))).bind fun d6=>(aT kO (aj (some a__law_giver) (aj (some a__law_taker) (aM)))).bind fun d7=>cR (Ar (aT dX (aj (some d7) (aM))) (b2 (blD D.eqA) (some d7) (some d6))) []
def bP:List D->Option FR:=fn4 fun a__law_rules a__law_some a__law_giver a__law_taker=>FO (eQ a__law_rules a__law_some a__law_giver a__law_taker)
abbrev l6:List Str:=["_law_rules","_law_some","_law_giver","_law_taker","_law_k","_law_distance","_law_found"]
abbrev eR:List Str:=["_law_rules","_law_some","_law_giver","_law_taker"]
theorem dS:FnScope l6 eR (defScope bG):=⟨rfl,rfl,rfl,by decide+kernel,rfl,by decide+kernel,by decide+kernel⟩
abbrev eT:List PM:=[.bo,.bo,.bo,.bo]
abbrev eU:VM:=.rg .fz
theorem so (Z:Zs K mg) (C_val:ng P w K mg base 13 (FC 12)) (C__law_lets:Cal P w K mg base 2 "_law_lets" iU iV iW fg) (C_gap:Cal P w K mg base 1 "gap" rY rZ r9 kO) (C__law_whole:Cal P w K mg base 1 "_law_whole" gC gD gE dX) {f:Addr} {cdv:Value} {A:Around} {outer:List Env} {s:Shared} {H:Hp} {E:XK} (hr:Room 13 (A.deeper (envOfC "_law_answers" (defScope bG) s.heap.objs.size f cdv))) (v0 v1 v2 v3:V) (a__law_rules a__law_some a__law_giver a__law_taker:D):
  Blk (cxT P w K mg base l6 "_law_answers" (defScope bG) f cdv A outer s H E) (fnX eU (bq eT [v0,v1,v2,v3]) E) [.bo,.bo,.bo,.bo,.fz,.fz,.fz] [some a__law_rules,some a__law_some,some a__law_giver,some a__law_taker,none,none,none] (defBody bG) (eQ a__law_rules a__law_some a__law_giver a__law_taker):=by
 unfold eQ
 exact (jT [.bo,.bo,.bo,.bo,.fz,.fz,.fz] (fun(y1:Unit)=>[some a__law_rules,some a__law_some,some a__law_giver,some a__law_taker,none,none,none]) [.bo,.bo,.bo,.bo,.fz,.fz,.fz] (fun(y1:Unit) (x3:D)=>[some a__law_rules,some a__law_some,some a__law_giver,some a__law_taker,some x3,none,none]) (nW rfl Z.range (ae (ak (rg:=.fz)) aA)) bQ dM (pg_name (i:=4) dS.nd rfl (.inl rfl)) (cS _ 4 dM (Nat.le_of_ble_eq_true rfl)) (.keep (.keep (.keep (.keep (.drop (.drop (.drop (.nil)))))))) (fun(y1:Unit) (x3:D)=>by unfold fK;exact (bI 6 [.bo,.bo,.bo,.bo,.fz,.fz,.fz] (fun(d4:D)=>[some a__law_rules,some a__law_some,some a__law_giver,some a__law_taker,some x3,none,some d4]) (CW C_val hr (bt ix_list sY (af (md:=.bo) 0 rfl rfl rfl (.inl rfl)) (af (md:=.fz) 4 rfl rfl rfl (.inl rfl)) (fun _ _=>rfl)) (ae (af (md:=.bo) 2 rfl rfl rfl (.inl rfl)) (ae (af (md:=.bo) 3 rfl rfl rfl (.inl rfl)) aA))) (fun(d4:D)=>(fm [.bo,.bo,.bo,.bo,.fz,.fz,.fz] (fun(y5:Unit)=>[some a__law_rules,some a__law_some,some a__law_giver,some a__law_taker,some x3,none,some d4]) (PW.pt (tW (nV (ri (wM (rg:=.fz) (T:="bool") rfl Z.isinstance Z.bool vC rfl (af (md:=.fz) 6 rfl rfl rfl (.inl rfl))))) (qE (br op_ne (D8 (rg:=.fz)) (af (md:=.fz) 6 rfl rfl rfl (.inl rfl)) (aE C__law_lets hr (ae (bt ix_list sY (af (md:=.bo) 1 rfl rfl rfl (.inl rfl)) (af (md:=.fz) 4 rfl rfl rfl (.inl rfl)) (fun _ _=>rfl)) (ae (af (md:=.bo) 2 rfl rfl rfl (.inl rfl)) (ae (af (md:=.bo) 3 rfl rfl rfl (.inl rfl)) aA)))) rfl)))) (aJ (j5 (rg:=.fz)) rfl rfl rfl) (aO (.keep (.keep (.keep (.keep (.keep (.drop (.keep (.nil))))))))) (fun(y5:Unit)=>(aO (.keep (.keep (.keep (.keep (.drop (.drop (.drop (.nil)))))))))))) (.inl rfl) dS.nd)) (fun(y1:Unit)=>(bI 5 [.bo,.bo,.bo,.bo,.fz,.fz,.fz] (fun(d6:D)=>[some a__law_rules,some a__law_some,some a__law_giver,some a__law_taker,none,some d6,none]) (j6 (call_max2 rfl) (E7 (rg:=.fz)) (by rfl) Z.max E4 (ae (aG op_sub (oU (rg:=.fz)) (bt ix_tup cE (af (md:=.bo) 2 rfl rfl rfl (.inl rfl)) (ak (rg:=.fz)) (fun _ _=>rfl)) (bt ix_tup cE (af (md:=.bo) 3 rfl rfl rfl (.inl rfl)) (ak (rg:=.fz)) (fun _ _=>rfl))) (ae (aG op_sub (oU (rg:=.fz)) (bt ix_tup cE (af (md:=.bo) 3 rfl rfl rfl (.inl rfl)) (ak (rg:=.fz)) (fun _ _=>rfl)) (bt ix_tup cE (af (md:=.bo) 2 rfl rfl rfl (.inl rfl)) (ak (rg:=.fz)) (fun _ _=>rfl))) aA))) (fun(d6:D)=>(bI 6 [.bo,.bo,.bo,.bo,.fz,.fz,.fz] (fun(d7:D)=>[some a__law_rules,some a__law_some,some a__law_giver,some a__law_taker,none,some d6,some d7]) (aE C_gap hr (ae (af (md:=.bo) 2 rfl rfl rfl (.inl rfl)) (ae (af (md:=.bo) 3 rfl rfl rfl (.inl rfl)) aA))) (fun(d7:D)=>(aJ (wH (aE C__law_whole hr (ae (af (md:=.fz) 6 rfl rfl rfl (.inl rfl)) aA)) (tX (jP op_eq (gd (rg:=.fz)) (af (md:=.fz) 6 rfl rfl rfl (.inl rfl)) (af (md:=.fz) 5 rfl rfl rfl (.inl rfl)) rfl))) rfl rfl rfl)) (.inl rfl) dS.nd)) (.inl rfl) dS.nd)))
theorem qz (Z:Zs K mg) (C_val:ng P w K mg base 13 (FC 12)) (C__law_lets:Cal P w K mg base 2 "_law_lets" iU iV iW fg) (C_gap:Cal P w K mg base 1 "gap" rY rZ r9 kO) (C__law_whole:Cal P w K mg base 1 "_law_whole" gC gD gE dX) {f:Addr} {fd:FuncData} (F:Fun K "_law_answers" "_law_answers" bG f fd):FnOk P w K mg base CX0 (14) f fd eR (FSp K eT eU bP):=
 cJ (n:=3) F dS rfl rfl fun cdv A outer s H vs E hr hv ds fr hd ef=>match vs,hv,ds,hd,ef with| [v0,v1,v2,v3],_,[a__law_rules,a__law_some,a__law_giver,a__law_taker],_,ef=>⟨_,so Z C_val C__law_lets C_gap C__law_whole hr v0 v1 v2 v3 a__law_rules a__law_some a__law_giver a__law_taker,ef⟩
def uY (k__law_some:D) (k__law_rules:D) (y6:Unit) (x8:D×D):Option (Out (Unit) (Unit)):=
 ifO (orB (jS (b1 D.tb (aT bP (aj (some k__law_rules) (aj (some k__law_some) (aj (some x8.1) (aj (some x8.2) (aM)))))))) (jS (b1 D.tb (aT bP (aj (some k__law_rules) (aj (some k__law_some) (aj (some x8.2) (aj (some x8.1) (aM))))))))) (cR (some (.bl false)) []) (some (.nx ())) fun(y9:Unit)=>some (.nx ())
def wu (a__law_script:D):Option (Out PEmpty PEmpty):=
 (t6 (aj (aT aV (aj (aT dD (aj (some a__law_script) (aj (some (.int 0)) (aM)))) (aM))) (aj (aT aV (aj (aT dD (aj (some a__law_script) (aj (some (.int 1)) (aM)))) (aM))) (aM)))).bind fun d1=>(lcO (qj (some d1)) (fun c2:D=>some true) (fun c2:D=>aT hV (aj (aT bO (aj (some c2) (aM))) (aM)))).bind fun d3=>(lcO (qj (CD D.iZ (b2 D.wO (some a__law_script) (t6 (aj (some (.int 0)) (aj (some (.int 1)) (aj (some (.int 2)) (aM)))))) (b1 D.toI (some (.int 2))) (b1 D.toI (some (.int 32))))) (fun c4:D=>some true) (fun c4:D=>aT eh (aj (some c4) (aM)))).bind fun d5=>oY (CB (b2 D.wI (some d5) (some d5))) (uY d1 d3) () fun(y6:Unit)=>cR (some (.bl true)) []
def xQ:List D->Option FR:=fn1 fun a__law_script=>FO (wu a__law_script)
abbrev yO:List Str:=["_law_script","_law_some","_law_rules","_law_asked","_law_giver","_law_taker","_law_alternatives_here","_law_cell_here"]
abbrev Eu:List Str:=["_law_script"]
theorem l7:FnScope yO Eu (defScope mM):=⟨rfl,rfl,rfl,by decide+kernel,rfl,by decide+kernel,by decide+kernel⟩
abbrev Ew:List PM:=[.bo]
abbrev Ex:VM:=.rg .fz
theorem HR (Z:Zs K mg) (C__law_cell:Cal P w K mg base 1 "_law_cell" iI iJ iK dD) (C__law_alternatives:Cal P w K mg base 2 "_law_alternatives" bV bW bY aV) (C__law_rule_text:Cal P w K mg base 2 "_law_rule_text" da de df bO) (C_rule_of:Cal P w K mg base 4 "rule_of" kv kx kz hV) (C__law_sides:Cal P w K mg base 3 "_law_sides" gT gU gV eh) (C__law_answers:Cal P w K mg base 14 "_law_answers" eR eT eU bP) {f:Addr} {cdv:Value} {A:Around} {outer:List Env} {s:Shared} {H:Hp} {E:XK} (hr:Room 14 (A.deeper (envOfC "law" (defScope mM) s.heap.objs.size f cdv))) (v0:V) (a__law_script:D):
  Blk (cxT P w K mg base yO "law" (defScope mM) f cdv A outer s H E) (fnX Ex (bq Ew [v0]) E) [.bo,.fz,.fz,.fz,.fz,.fz,.fz,.fz] [some a__law_script,none,none,none,none,none,none,none] (defBody mM) (wu a__law_script):=by
 unfold wu
 exact (bI 1 [.bo,.fz,.fz,.fz,.fz,.fz,.fz,.fz] (fun(d1:D)=>[some a__law_script,some d1,none,none,none,none,none,none]) (gb (m6 (ae (aE C__law_alternatives hr (ae (aE C__law_cell hr (ae (af (md:=.bo) 0 rfl rfl rfl (.inl rfl)) (ae (ak (rg:=.fz)) aA))) aA)) (ae (aE C__law_alternatives hr (ae (aE C__law_cell hr (ae (af (md:=.bo) 0 rfl rfl rfl (.inl rfl)) (ae (ak (rg:=.fz)) aA))) aA)) aA)) wK)) (fun(d1:D)=>(vB 2 [.bo,.fz,.ow (.ls .fz),.fz,.fz,.fz,.fz,.fz] (fun(d3:D)=>[some a__law_script,some d1,some d3,none,none,none,none,none]) l7.nd (gh (af (md:=.fz) 1 rfl rfl rfl (.inl rfl))) bQ dM (show BlkOk yO (defScope mM) _ [("_law_alternatives_here",6)] from ⟨rfl,by decide+kernel,by decide+kernel,by decide+kernel,by decide+kernel⟩) (vA rfl) pR (fun _ _ _ _ _=>(pg_name (i:=6) l7.nd rfl (.inl rfl))) (cS _ 6 dM (Nat.le_of_ble_eq_true rfl)) (fun _ _ _ _ _ (c2:D)=>j7) (fun _ _ _ _ _ (c2:D)=>(aE C_rule_of hr (ae (aE C__law_rule_text hr (ae (af (md:=.fz) 6 rfl rfl rfl (.inl rfl)) aA)) aA))) (fun(d3:D)=>(mj 2 [.bo,.fz,.fz,.fz,.fz,.fz,.fz,.fz] (vB 3 [.bo,.fz,.fz,.ow (.ls .fz),.fz,.fz,.fz,.fz] (fun(d5:D)=>[some a__law_script,some d1,some d3,some d5,none,none,none,none]) l7.nd (gh (gb (Cp (gb (aG CJ Fc (af (md:=.bo) 0 rfl rfl rfl (.inl rfl)) (gb (m6 (ae (ak (rg:=.fz)) (ae (ak (rg:=.fz)) (ae (ak (rg:=.fz)) aA))) t7)))) (rj (ak (rg:=.fz))) (rj (ak (rg:=.fz)))))) bQ dM (show BlkOk yO (defScope mM) _ [("_law_cell_here",7)] from ⟨rfl,by decide+kernel,by decide+kernel,by decide+kernel,by decide+kernel⟩) (vA rfl) pR (fun _ _ _ _ _=>(pg_name (i:=7) l7.nd rfl (.inl rfl))) (cS _ 7 dM (Nat.le_of_ble_eq_true rfl)) (fun _ _ _ _ _ (c4:D)=>j7) (fun _ _ _ _ _ (c4:D)=>(aE C__law_sides hr (ae (af (md:=.fz) 7 rfl rfl rfl (.inl rfl)) aA))) (fun(d5:D)=>(mj 3 [.bo,.fz,.fz,.fz,.fz,.fz,.fz,.fz] (jT [.bo,.fz,.fz,.fz,.fz,.fz,.fz,.fz] (fun(y6:Unit)=>[some a__law_script,some d1,some d3,some d5,none,none,none,none]) [.bo,.fz,.fz,.fz,.fz,.fz,.fz,.fz] (fun(y6:Unit) (x8:D×D)=>[some a__law_script,some d1,some d3,some d5,some x8.1,some x8.2,none,none]) (Cs (gb (aG op_cat EU (af (md:=.fz) 3 rfl rfl rfl (.inl rfl)) (af (md:=.fz) 3 rfl rfl rfl (.inl rfl))))) z9 dM (pg_tup rfl (pgs_cons (pg_name (i:=4) l7.nd rfl (.inl rfl)) (pgs_cons (pg_name (i:=5) l7.nd rfl (.inl rfl)) pgs_nil))) (Ce _ 4 5 dM (Nat.le_of_ble_eq_true rfl) (Nat.le_of_ble_eq_true rfl)) (.keep (.keep (.keep (.keep (.drop (.drop (.drop (.drop (.nil))))))))) (fun(y6:Unit) (x8:D×D)=>by unfold uY;exact (fm [.bo,.fz,.fz,.fz,.fz,.fz,.fz,.fz] (fun(y9:Unit)=>[some a__law_script,some d1,some d3,some d5,some x8.1,some x8.2,none,none]) (PW.pt (tW (nV (ri (aE C__law_answers hr (ae (af (md:=.fz) 2 rfl rfl rfl (.inl rfl)) (ae (af (md:=.fz) 1 rfl rfl rfl (.inl rfl)) (ae (af (md:=.fz) 4 rfl rfl rfl (.inl rfl)) (ae (af (md:=.fz) 5 rfl rfl rfl (.inl rfl)) aA))))))) (qE (nV (ri (aE C__law_answers hr (ae (af (md:=.fz) 2 rfl rfl rfl (.inl rfl)) (ae (af (md:=.fz) 1 rfl rfl rfl (.inl rfl)) (ae (af (md:=.fz) 5 rfl rfl rfl (.inl rfl)) (ae (af (md:=.fz) 4 rfl rfl rfl (.inl rfl)) aA)))))))))) (aJ (j5 (rg:=.fz)) rfl rfl rfl) (aO (.keep (.keep (.keep (.keep (.keep (.keep (.drop (.drop (.nil)))))))))) (fun(y9:Unit)=>(aO (.keep (.keep (.keep (.keep (.drop (.drop (.drop (.drop (.nil))))))))))))) (fun(y6:Unit)=>(aJ (j5 (rg:=.fz)) rfl rfl rfl)))))))))) (.inl rfl) l7.nd)
theorem Ga (Z:Zs K mg) (C__law_cell:Cal P w K mg base 1 "_law_cell" iI iJ iK dD) (C__law_alternatives:Cal P w K mg base 2 "_law_alternatives" bV bW bY aV) (C__law_rule_text:Cal P w K mg base 2 "_law_rule_text" da de df bO) (C_rule_of:Cal P w K mg base 4 "rule_of" kv kx kz hV) (C__law_sides:Cal P w K mg base 3 "_law_sides" gT gU gV eh) (C__law_answers:Cal P w K mg base 14 "_law_answers" eR eT eU bP) {f:Addr} {fd:FuncData} (F:Fun K "law" "law" mM f fd):FnOk P w K mg base CX0 (15) f fd Eu (FSp K Ew Ex xQ):=
 cJ (n:=7) F l7 rfl rfl fun cdv A outer s H vs E hr hv ds fr hd ef=>match vs,hv,ds,hd,ef with| [v0],_,[a__law_script],_,ef=>⟨_,HR Z C__law_cell C__law_alternatives C__law_rule_text C_rule_of C__law_sides C__law_answers hr v0 a__law_script,ef⟩
end
noncomputable def cg (k_text:Str) (y2:Unit) (x4:Str):Option (TO (Unit) (Unit) (R0 Int)):=
 f6 (b2 (T.mH true) (some x4) (some ("0123456789" :Str))) (none) (some (.nx ())) fun(y5:Unit)=>some (.nx ())
theorem sR (k_text:Str) (y2:Unit) (x4:Str):TyS (ji (en k_text) (es y2) (es x4)) (cg k_text y2 x4):=by
 unfold ji cg
 exact (cu (ay (uw true) (av x4) (aa rfl)) qK (bC rfl) (fun(y5:Unit)=>(bC rfl)))
noncomputable def fX (a_text:Str):Option (Int):=
 tF0 (f6 (orB (jS (Dr T.leI T.leI (some (1:Int)) (b1 T.sE (some a_text)) (some (12:Int)))) (m8 (b2 T.gtI (b1 T.sE (some a_text)) (some (1:Int))) (b2 T.eqA (b2 T.atS (some a_text) (some (0:Int))) (some ("0" :Str))))) (none) (some (.nx ())) fun(y1:Unit)=>lC (b1 T.rq (some a_text)) (cg a_text) () fun(y2:Unit)=>cF (b1 T.sH (some a_text)) (fun r=>⟨r⟩))
theorem qe (a_text:Str):Fo0 (dC [en a_text]) (fX a_text):=by
 unfold fX
 refine fo0 (m:=iB (en a_text)) ?_
 unfold iB
 exact (cu (ue (n7 (FN rF rF (aa rfl) (tm yw (av a_text)) (aa rfl))) (yt (ay A7 (tm yw (av a_text)) (aa rfl)) (ay eA (ay wR (av a_text) (aa rfl)) (aa rfl)))) qK (bC rfl) (fun(y1:Unit)=>(ia (tj uq (av a_text)) (fun b x=>sR a_text b x) rfl (fun(y2:Unit)=>(aF (tm Dw (av a_text)) (fun _=>rfl))))))
noncomputable def tM (a_giver:(T3 Str Int Str)) (a_taker:(T3 Str Int Str)):Option (Int):=
 tF0 (cF (b1 T.zj (b2 T.lN ((some a_giver).map T3.b) ((some a_taker).map T3.b))) (fun r=>⟨r⟩))
theorem Ey (a_giver:(T3 Str Int Str)) (a_taker:(T3 Str Int Str)):Fo0 (kO [en a_giver,en a_taker]) (tM a_giver a_taker):=by
 unfold tM
 refine fo0 (m:=vX (en a_giver) (en a_taker)) ?_
 unfold vX
 exact (aF (tm Dz (ay mq (cG (av a_giver) (fun _=>rfl)) (cG (av a_taker) (fun _=>rfl)))) (fun _=>rfl))
noncomputable def jO (a_giver:(T3 Str Int Str)) (a_taker:(T3 Str Int Str)):Option (Bool):=
 tF0 (cF (orB (b2 T.eqA ((some a_giver).map T3.a) (some ("O" :Str))) (orB (b2 T.eqA ((some a_taker).map T3.a) (some ("AB" :Str))) (b2 T.eqA ((some a_giver).map T3.a) ((some a_taker).map T3.a)))) (fun r=>⟨r⟩))
theorem wx (a_giver:(T3 Str Int Str)) (a_taker:(T3 Str Int Str)):Fo0 (gj [en a_giver,en a_taker]) (jO a_giver a_taker):=by
 unfold jO
 refine fo0 (m:=iF (en a_giver) (en a_taker)) ?_
 unfold iF
 exact (aF (AX (ay (jU eA) (cG (av a_giver) (fun _=>rfl)) (aa rfl)) (AX (ay (jU eA) (cG (av a_taker) (fun _=>rfl)) (aa rfl)) (ay (jU eA) (cG (av a_giver) (fun _=>rfl)) (cG (av a_taker) (fun _=>rfl))))) (fun _=>rfl))
noncomputable def gW (k_taker:(T3 Str Int Str)) (y1:Unit) (x3:Str):Option (TO (Unit) (Unit) (R0 Bool)):=
 f6 (b2 (T.mH false) (some x3) ((some k_taker).map T3.c)) (cF (some false) (fun r=>⟨r⟩)) (some (.nx ())) fun(y4:Unit)=>some (.nx ())
theorem uZ (k_taker:(T3 Str Int Str)) (y1:Unit) (x3:Str):TyS (jN (en k_taker) (es y1) (es x3)) (gW k_taker y1 x3):=by
 unfold jN gW
 exact (cu (ay (uw false) (av x3) (cG (av k_taker) (fun _=>rfl))) (aF (aa rfl) (fun _=>rfl)) (bC rfl) (fun(y4:Unit)=>(bC rfl)))
noncomputable def lh (a_giver:(T3 Str Int Str)) (a_taker:(T3 Str Int Str)):Option (Bool):=
 tF0 (lC (b1 T.rq ((some a_giver).map T3.c)) (gW a_taker) () fun(y1:Unit)=>cF (some true) (fun r=>⟨r⟩))
theorem xR (a_giver:(T3 Str Int Str)) (a_taker:(T3 Str Int Str)):Fo0 (iG [en a_giver,en a_taker]) (lh a_giver a_taker):=by
 unfold lh
 refine fo0 (m:=jz (en a_giver) (en a_taker)) ?_
 unfold jz
 exact (ia (tj uq (cG (av a_giver) (fun _=>rfl))) (fun b x=>uZ a_taker b x) rfl (fun(y1:Unit)=>(aF (aa rfl) (fun _=>rfl))))
noncomputable def i7 (R_:Fv->(T3 Str Int Str)->(T3 Str Int Str)->Option Bool) (a_giver:(T3 Str Int Str)) (a_taker:(T3 Str Int Str)) (a_bound:Int):Option (Bool):=
 tF0 (cF (b2 T.leI (b2 tM (some a_giver) (some a_taker)) (some a_bound)) (fun r=>⟨r⟩))
theorem qA {RD_:List D->Option FR} {R_:Fv->(T3 Str Int Str)->(T3 Str Int Str)->Option Bool} (HR_: ∀(z0_:Fv) (z1_:(T3 Str Int Str)) (z2_:(T3 Str Int Str)),Fo0 (RD_ [en z0_,en z1_,en z2_]) (R_ z0_ z1_ z2_)) (a_giver:(T3 Str Int Str)) (a_taker:(T3 Str Int Str)) (a_bound:Int):Fo0 (eX RD_ [en a_giver,en a_taker,en a_bound]) (i7 R_ a_giver a_taker a_bound):=by
 unfold i7
 refine fo0 (m:=dP RD_ (en a_giver) (en a_taker) (en a_bound)) ?_
 unfold dP
 exact (aF (ay (jU rF) (fB Ey (av a_giver) (av a_taker)) (av a_bound)) (fun _=>rfl))
noncomputable def su (a_bound:Int):Option Fv:=some ⟨.clo bg (en a_bound)⟩
theorem xS (a_bound:Int):Fo0 (fU [en a_bound]) (su a_bound):=fun r e=>by cases e;rfl
noncomputable def i8 (R_:Fv->(T3 Str Int Str)->(T3 Str Int Str)->Option Bool) (a_giver:(T3 Str Int Str)) (a_taker:(T3 Str Int Str)) (a_rule:Fv):Option (Bool):=
 tF0 (cF (jS (b3 R_ (some a_rule) (some a_giver) (some a_taker))) (fun r=>⟨r⟩))
theorem qB {RD_:List D->Option FR} {R_:Fv->(T3 Str Int Str)->(T3 Str Int Str)->Option Bool} (HR_: ∀(z0_:Fv) (z1_:(T3 Str Int Str)) (z2_:(T3 Str Int Str)),Fo0 (RD_ [en z0_,en z1_,en z2_]) (R_ z0_ z1_ z2_)) (a_giver:(T3 Str Int Str)) (a_taker:(T3 Str Int Str)) (a_rule:Fv):Fo0 (eY RD_ [en a_giver,en a_taker,en a_rule]) (i8 R_ a_giver a_taker a_rule):=by
 unfold i8
 refine fo0 (m:=dQ RD_ (en a_giver) (en a_taker) (en a_rule)) ?_
 unfold dQ
 exact (aF (yu (n8 HR_ (av a_rule) (av a_giver) (av a_taker))) (fun _=>rfl))
noncomputable def nH (a_rule:Fv):Option Fv:=some ⟨.clo bh (en a_rule)⟩
theorem xT (a_rule:Fv):Fo0 (fV [en a_rule]) (nH a_rule):=fun r e=>by cases e;rfl
noncomputable def fh (R_:Fv->(T3 Str Int Str)->(T3 Str Int Str)->Option Bool) (k_giver:(T3 Str Int Str)) (k_taker:(T3 Str Int Str)) (y1:Unit) (x3:Fv):Option (TO (Unit) (Unit) (R0 Bool)):=
 f6 (jS (b3 R_ (some x3) (some k_giver) (some k_taker))) (cF (some false) (fun r=>⟨r⟩)) (some (.nx ())) fun(y4:Unit)=>some (.nx ())
theorem pC {RD_:List D->Option FR} {R_:Fv->(T3 Str Int Str)->(T3 Str Int Str)->Option Bool} (HR_: ∀(z0_:Fv) (z1_:(T3 Str Int Str)) (z2_:(T3 Str Int Str)),Fo0 (RD_ [en z0_,en z1_,en z2_]) (R_ z0_ z1_ z2_)) (k_giver:(T3 Str Int Str)) (k_taker:(T3 Str Int Str)) (y1:Unit) (x3:Fv):TyS (fG RD_ (en k_giver) (en k_taker) (es y1) (es x3)) (fh R_ k_giver k_taker y1 x3):=by
 unfold fG fh
 exact (cu (n7 (mW (n8 HR_ (av x3) (av k_giver) (av k_taker)))) (aF (aa rfl) (fun _=>rfl)) (bC rfl) (fun(y4:Unit)=>(bC rfl)))
noncomputable def jC (R_:Fv->(T3 Str Int Str)->(T3 Str Int Str)->Option Bool) (a_giver:(T3 Str Int Str)) (a_taker:(T3 Str Int Str)) (a_rules:(List Fv)):Option (Bool):=
 tF0 (lC (some a_rules) (fh R_ a_giver a_taker) () fun(y1:Unit)=>cF (some true) (fun r=>⟨r⟩))
theorem sx {RD_:List D->Option FR} {R_:Fv->(T3 Str Int Str)->(T3 Str Int Str)->Option Bool} (HR_: ∀(z0_:Fv) (z1_:(T3 Str Int Str)) (z2_:(T3 Str Int Str)),Fo0 (RD_ [en z0_,en z1_,en z2_]) (R_ z0_ z1_ z2_)) (a_giver:(T3 Str Int Str)) (a_taker:(T3 Str Int Str)) (a_rules:(List Fv)):Fo0 (fH RD_ [en a_giver,en a_taker,en a_rules]) (jC R_ a_giver a_taker a_rules):=by
 unfold jC
 refine fo0 (m:=eP RD_ (en a_giver) (en a_taker) (en a_rules)) ?_
 unfold eP
 exact (ia (jf (av a_rules)) (fun b x=>pC HR_ a_giver a_taker b x) rfl (fun(y1:Unit)=>(aF (aa rfl) (fun _=>rfl))))
noncomputable def pD (a_rules:(List Fv)):Option Fv:=some ⟨.clo bD (en a_rules)⟩
theorem zQ (a_rules:(List Fv)):Fo0 (hO [en a_rules]) (pD a_rules):=fun r e=>by cases e;rfl
noncomputable def eE (R_:Fv->(T3 Str Int Str)->(T3 Str Int Str)->Option Bool) (k_giver:(T3 Str Int Str)) (k_taker:(T3 Str Int Str)) (y1:Unit) (x3:Fv):Option (TO (Unit) (Unit) (R0 Bool)):=
 f6 (b3 R_ (some x3) (some k_giver) (some k_taker)) (cF (some true) (fun r=>⟨r⟩)) (some (.nx ())) fun(y4:Unit)=>some (.nx ())
theorem oL {RD_:List D->Option FR} {R_:Fv->(T3 Str Int Str)->(T3 Str Int Str)->Option Bool} (HR_: ∀(z0_:Fv) (z1_:(T3 Str Int Str)) (z2_:(T3 Str Int Str)),Fo0 (RD_ [en z0_,en z1_,en z2_]) (R_ z0_ z1_ z2_)) (k_giver:(T3 Str Int Str)) (k_taker:(T3 Str Int Str)) (y1:Unit) (x3:Fv):TyS (eZ RD_ (en k_giver) (en k_taker) (es y1) (es x3)) (eE R_ k_giver k_taker y1 x3):=by
 unfold eZ eE
 exact (cu (mW (n8 HR_ (av x3) (av k_giver) (av k_taker))) (aF (aa rfl) (fun _=>rfl)) (bC rfl) (fun(y4:Unit)=>(bC rfl)))
noncomputable def i9 (R_:Fv->(T3 Str Int Str)->(T3 Str Int Str)->Option Bool) (a_giver:(T3 Str Int Str)) (a_taker:(T3 Str Int Str)) (a_rules:(List Fv)):Option (Bool):=
 tF0 (lC (some a_rules) (eE R_ a_giver a_taker) () fun(y1:Unit)=>cF (some false) (fun r=>⟨r⟩))
theorem qC {RD_:List D->Option FR} {R_:Fv->(T3 Str Int Str)->(T3 Str Int Str)->Option Bool} (HR_: ∀(z0_:Fv) (z1_:(T3 Str Int Str)) (z2_:(T3 Str Int Str)),Fo0 (RD_ [en z0_,en z1_,en z2_]) (R_ z0_ z1_ z2_)) (a_giver:(T3 Str Int Str)) (a_taker:(T3 Str Int Str)) (a_rules:(List Fv)):Fo0 (fb RD_ [en a_giver,en a_taker,en a_rules]) (i9 R_ a_giver a_taker a_rules):=by
 unfold i9
 refine fo0 (m:=dR RD_ (en a_giver) (en a_taker) (en a_rules)) ?_
 unfold dR
 exact (ia (jf (av a_rules)) (fun b x=>oL HR_ a_giver a_taker b x) rfl (fun(y1:Unit)=>(aF (aa rfl) (fun _=>rfl))))
noncomputable def sy (a_rules:(List Fv)):Option Fv:=some ⟨.clo bj (en a_rules)⟩
theorem xU (a_rules:(List Fv)):Fo0 (fW [en a_rules]) (sy a_rules):=fun r e=>by cases e;rfl
noncomputable def fY (a_text:Str):Option (Fv):=
 tF0 (f6 (b2 T.eqA (some a_text) (some ("groups" :Str))) (cF (some (⟨.glf "by_groups"⟩:Fv)) (fun r=>⟨r⟩)) (some (.nx ())) fun(y1:Unit)=>f6 (b2 T.eqA (some a_text) (some ("marks" :Str))) (cF (some (⟨.glf "by_marks"⟩:Fv)) (fun r=>⟨r⟩)) (some (.nx ())) fun(y2:Unit)=>(b1 T.un3 (b2 T.part (some a_text) (some (" " :Str)))).bind fun d3=>f6 (orB (b2 T.neA (some d3.1) (some ("sizes" :Str))) (b2 T.gtI (b1 fX (some d3.2.2)) (some (98:Int)))) (none) (some (.nx ())) fun(y4:Unit)=>cF (b1 su (b1 fX (some d3.2.2))) (fun r=>⟨r⟩))
theorem tO (a_text:Str):Fo0 (fP [en a_text]) (fY a_text):=by
 unfold fY
 refine fo0 (m:=kj (en a_text)) ?_
 unfold kj
 exact (cu (ay eA (av a_text) (aa rfl)) (aF (aa rfl) (fun _=>rfl)) (bC rfl) (fun(y1:Unit)=>(cu (ay eA (av a_text) (aa rfl)) (aF (aa rfl) (fun _=>rfl)) (bC rfl) (fun(y2:Unit)=>(aw (Bl (ay Dt (av a_text) (aa rfl))) (fun d3=>(cu (ue (ay Fw (av d3.1) (aa rfl)) (ay A7 (cm qe (av d3.2.2)) (aa rfl))) qK (bC rfl) (fun(y4:Unit)=>(aF (cm xS (cm qe (av d3.2.2))) (fun _=>rfl))))))))))
noncomputable def eV (y2:Str×Int):Option (TO (Str×Int) (Str×Int) (R0 Fv)):=
 (A9 T.cutS (some y2.1) (b1 T.toI (some (3:Int))) (some none)).bind fun d3=>(b2 T.cQ (some y2.2) (some (1:Int))).bind fun d4=>some (.nx (d3,d4))
theorem sA (y2:Str×Int):TyS (ik (es y2)) (eV y2):=by
 unfold ik eV
 exact (aw (Ba Jj (av y2.1) (tj wU (aa rfl)) Ho) (fun d3=>(aw (ay eB (av y2.2) (aa rfl)) (fun d4=>(bC rfl)))))
noncomputable def cf (a_text:Str):Option (Fv):=
 tF0 ((some (0:Int)).bind fun d1=>Dk (fun(y2:Str×Int)=>m8 (b2 T.ltI (some y2.2) (some (5:Int))) (b2 T.starts (some y2.1) (some ("no " :Str)))) (eV) (a_text,d1) fun(y2:Str×Int)=>f6 (b2 T.eqA (b2 T.cj (some y2.2) (some (2:Int))) (some (1:Int))) (cF (b1 nH (b1 fY (some y2.1))) (fun r=>⟨r⟩)) (some (.nx ())) fun(y5:Unit)=>cF (b1 fY (some y2.1)) (fun r=>⟨r⟩))
theorem u4 (a_text:Str):Fo0 (dW [en a_text]) (cf a_text):=by
 unfold cf
 refine fo0 (m:=gq (en a_text)) ?_
 unfold gq
 exact (aw (aa rfl) (fun d1=>(FL (fun(y2:Str×Int)=>(yt (ay A0 (av y2.2) (aa rfl)) (mW (ay zC (av y2.1) (aa rfl))))) (fun b=>sA b) rfl (fun(y2:Str×Int)=>(cu (ay eA (ay bL (av y2.2) (aa rfl)) (aa rfl)) (aF (cm xT (cm tO (av y2.1))) (fun _=>rfl)) (bC rfl) (fun(y5:Unit)=>(aF (cm tO (av y2.1)) (fun _=>rfl))))))))
noncomputable def dv (y3:(List Fv)) (x5:Str):Option (TO ((List Fv)) ((List Fv)) (R0 Fv)):=
 (T.at1 y3 (some plR) (b1 pD (tlc (b2 T.split (some x5) (some (" and " :Str))) (fun c6:Str=>some true) (fun c6:Str=>b1 cf (some c6)))) T.app).bind fun d7=>some (.nx d7.2)
theorem wy (y3:(List Fv)) (x5:Str):TyS (k6 (es y3) (es x5)) (dv y3 x5):=by
 unfold k6 dv
 exact (aw (Bg Bh (yx (.ls .fz) _) (cm zQ (pV (jf (ay vM (av x5) (aa rfl))) (fun c6=>(aa rfl)) (fun c6=>(cm u4 (av c6)))))) (fun d7=>(bC rfl)))
noncomputable def jr (a_text:Str):Option (Fv):=
 tF0 ((some ([]:(List Fv))).bind fun d1=>Eo (lC (b2 T.split (some a_text) (some (" or " :Str))) (dv) d1 fun(y3:(List Fv))=>some (.nx y3)) (fun(y2:(List Fv))=>cF (b1 sy (some y2)) (fun r=>⟨r⟩)) fun(y8:Unit)=>none)
theorem zR (a_text:Str):Fo0 (hV [en a_text]) (jr a_text):=by
 unfold jr
 refine fo0 (m:=ku (en a_text)) ?_
 unfold ku
 exact (aw uo (fun d1=>(Dy (ia (jf (ay vM (av a_text) (aa rfl))) (fun b x=>wy b x) rfl (fun(y3:(List Fv))=>(bC rfl))) (fun(y2:(List Fv))=>(aF (cm xU (av y2)) (fun _=>rfl))) (fun(y8:Unit)=>qK))))
noncomputable def dw (a__law_script:Scr) (a__law_k:Int):Option (Int):=
 tF0 (f6 (b2 T.ltI (some a__law_k) (b1 T.vt (some a__law_script))) (cF (b2 T.atC (some a__law_script) (some a__law_k)) (fun r=>⟨r⟩)) (some (.nx ())) fun(y1:Unit)=>cF (some (0:Int)) (fun r=>⟨r⟩))
theorem qf (a__law_script:Scr) (a__law_k:Int):Fo0 (dD [en a__law_script,en a__law_k]) (dw a__law_script a__law_k):=by
 unfold dw
 refine fo0 (m:=iH (en a__law_script) (en a__law_k)) ?_
 unfold iH
 exact (cu (ay A0 (av a__law_k) (tm Dc (av a__law_script))) (aF (ay FA (av a__law_script) (av a__law_k)) (fun _=>rfl)) (bC rfl) (fun(y1:Unit)=>(aF (aa rfl) (fun _=>rfl))))
noncomputable def bu (a__law_cell_here:Int) (a__law_k:Int):Option (Int):=
 tF0 ((b2 T.cj (b2 T.cQ (b2 T.cQ (b2 T.cj (some a__law_cell_here) (some (2147483629:Int))) (b2 T.jD (some (7919:Int)) (some a__law_k))) (some (12345:Int))) (some (2147483629:Int))).bind fun d1=>(b2 T.cj (b2 T.cQ (b2 T.jD (some d1) (some d1)) (b2 T.jD (some (104729:Int)) (some a__law_k))) (some (2147483629:Int))).bind fun d2=>cF (b2 T.cj (b2 T.jD (b2 T.cQ (some d2) (some a__law_k)) (b2 T.cQ (some d2) (some a__law_k))) (some (2147483587:Int))) (fun r=>⟨r⟩))
theorem hZ (a__law_cell_here:Int) (a__law_k:Int):Fo0 (aU [en a__law_cell_here,en a__law_k]) (bu a__law_cell_here a__law_k):=by
 unfold bu
 refine fo0 (m:=jB (en a__law_cell_here) (en a__law_k)) ?_
 unfold jB
 exact (aw (ay bL (ay eB (ay eB (ay bL (av a__law_cell_here) (aa rfl)) (ay n9 (aa rfl) (av a__law_k))) (aa rfl)) (aa rfl)) (fun d1=>(aw (ay bL (ay eB (ay n9 (av d1) (av d1)) (ay n9 (aa rfl) (av a__law_k))) (aa rfl)) (fun d2=>(aF (ay bL (ay n9 (ay eB (av d2) (av a__law_k)) (ay eB (av d2) (av a__law_k))) (aa rfl)) (fun _=>rfl))))))
noncomputable def jn (a__law_found:Int):Option (Bool):=
 tF0 (cF (m8 ((some a__law_found).bind fun _=>some true) (jS ((some a__law_found).bind fun _=>some false))) (fun r=>⟨r⟩))
theorem u6 (a__law_found:Int):Fo0 (dX [en a__law_found]) (jn a__law_found):=by
 unfold jn
 refine fo0 (m:=gA (en a__law_found)) ?_
 unfold gA
 exact (aF (uf (wV (fun _=>rfl) (av a__law_found)) (yu (wV (fun _=>rfl) (av a__law_found)))) (fun _=>rfl))
noncomputable def gX (a__law_number:Int):Option (Str):=
 tF0 ((some ("abcdefghijklmnopqrstuvwxyz" :Str)).bind fun d1=>(b2 T.cj (some a__law_number) (some (3:Int))).bind fun d2=>f6 (b2 T.eqA (some d2) (some (0:Int))) (cF (some ("" :Str)) (fun r=>⟨r⟩)) (some (.nx ())) fun(y3:Unit)=>f6 (b2 T.eqA (some d2) (some (1:Int))) (cF (b2 T.atS (some d1) (b2 T.cj (b2 T.iY (some a__law_number) (some (3:Int))) (some (26:Int)))) (fun r=>⟨r⟩)) (some (.nx ())) fun(y4:Unit)=>cF (b2 T.join (some ("" :Str)) (tlc (b1 T.mG (some (26:Int))) (fun c5:Int=>b2 T.eqA (b2 T.cj (b2 T.iY (b2 T.iY (some a__law_number) (some (3:Int))) (b2 T.cQ (some c5) (some (1:Int)))) (some (3:Int))) (some (0:Int))) (fun c5:Int=>b2 T.atS (some d1) (some c5)))) (fun r=>⟨r⟩))
theorem u7 (a__law_number:Int):Fo0 (dY [en a__law_number]) (gX a__law_number):=by
 unfold gX
 refine fo0 (m:=gF (en a__law_number)) ?_
 unfold gF
 exact (aw (aa rfl) (fun d1=>(aw (ay bL (av a__law_number) (aa rfl)) (fun d2=>(cu (ay eA (av d2) (aa rfl)) (aF (aa rfl) (fun _=>rfl)) (bC rfl) (fun(y3:Unit)=>(cu (ay eA (av d2) (aa rfl)) (aF (ay wR (av d1) (ay bL (ay je (av a__law_number) (aa rfl)) (aa rfl))) (fun _=>rfl)) (bC rfl) (fun(y4:Unit)=>(aF (ay ur (aa rfl) (pV (yv qL (aa rfl)) (fun c5=>(ay eA (ay bL (ay je (ay je (av a__law_number) (aa rfl)) (ay eB (av c5) (aa rfl))) (aa rfl)) (aa rfl))) (fun c5=>(ay wR (av d1) (av c5))))) (fun _=>rfl))))))))))
noncomputable def fZ (a__law_cell_here:Int) (a__law_k:Int):Option ((T3 Str Int Str)):=
 tF0 ((b2 bu (some a__law_cell_here) (some a__law_k)).bind fun d1=>cF (b3 T.tri (b2 T.atL (T.lst (T.cons (some ("O" :Str)) (T.cons (some ("A" :Str)) (T.cons (some ("B" :Str)) (T.cons (some ("AB" :Str)) (some [])))))) (b2 T.cj (some d1) (some (4:Int)))) (b2 T.cQ (some (1:Int)) (b2 T.cj (b2 T.iY (some d1) (some (4:Int))) (some (99:Int)))) (b1 gX (b2 T.iY (some d1) (some (400:Int))))) (fun r=>⟨r⟩))
theorem qg (a__law_cell_here:Int) (a__law_k:Int):Fo0 (dH [en a__law_cell_here,en a__law_k]) (fZ a__law_cell_here a__law_k):=by
 unfold fZ
 refine fo0 (m:=iL (en a__law_cell_here) (en a__law_k)) ?_
 unfold iL
 exact (aw (fB hZ (av a__law_cell_here) (av a__law_k)) (fun d1=>(aF (oe (ay o7 (nj (aY (aa rfl) (aY (aa rfl) (aY (aa rfl) (aY (aa rfl) ni))))) (ay bL (av d1) (aa rfl))) (ay eB (aa rfl) (ay bL (ay je (av d1) (aa rfl)) (aa rfl))) (cm u7 (ay je (av d1) (aa rfl)))) (fun _=>rfl))))
noncomputable def dy (a__law_number:Int):Option ((T3 Int Str Int)):=
 tF0 ((b2 T.atL (T.lst (T.cons (some ("groups" :Str)) (T.cons (some ("marks" :Str)) (T.cons (some ("sizes" :Str)) (some []))))) (b2 T.cj (b2 T.iY (some a__law_number) (some (6:Int))) (some (3:Int)))).bind fun d1=>(b2 T.atL (T.lst (T.cons (b2 T.cj (b2 T.iY (some a__law_number) (some (18:Int))) (some (99:Int))) (T.cons (b2 T.cj (b2 T.iY (some a__law_number) (some (18:Int))) (some (30:Int))) (some [])))) (b2 T.cj (b2 T.iY (some a__law_number) (some (1782:Int))) (some (2:Int)))).bind fun d2=>cF (b3 T.tri (b2 T.cj (some a__law_number) (some (6:Int))) (some d1) (some d2)) (fun r=>⟨r⟩))
theorem wA (a__law_number:Int):Fo0 (fe [en a__law_number]) (dy a__law_number):=by
 unfold dy
 refine fo0 (m:=iP (en a__law_number)) ?_
 unfold iP
 exact (aw (ay o7 (nj (aY (aa rfl) (aY (aa rfl) (aY (aa rfl) ni)))) (ay bL (ay je (av a__law_number) (aa rfl)) (aa rfl))) (fun d1=>(aw (ay o7 (nj (aY (ay bL (ay je (av a__law_number) (aa rfl)) (aa rfl)) (aY (ay bL (ay je (av a__law_number) (aa rfl)) (aa rfl)) ni))) (ay bL (ay je (av a__law_number) (aa rfl)) (aa rfl))) (fun d2=>(aF (oe (ay bL (av a__law_number) (aa rfl)) (av d1) (av d2)) (fun _=>rfl))))))
noncomputable def bF (k__law_cell_here:Int) (k__law_count:Int) (y3:(List (List (T3 Int Str Int)))) (x5:Int):Option (TO ((List (List (T3 Int Str Int)))) ((List (List (T3 Int Str Int)))) (R0 (List (List (T3 Int Str Int))))):=
 (b2 T.cQ (some (1:Int)) (b2 T.cj (b2 bu (some k__law_cell_here) (b2 T.cQ (some (61:Int)) (some x5))) (b2 T.atL (T.lst (T.cons (some (3:Int)) (T.cons (some (3:Int)) (T.cons (some (2:Int)) (some []))))) (b2 T.lN (some k__law_count) (some (1:Int)))))).bind fun d6=>(T.at1 y3 (some plR) (tlc (b1 T.mG (some d6)) (fun c7:Int=>some true) (fun c7:Int=>b1 dy (b2 bu (some k__law_cell_here) (b2 T.cQ (b2 T.cQ (some (70:Int)) (b2 T.jD (some (3:Int)) (some x5))) (some c7))))) T.app).bind fun d8=>some (.nx d8.2)
theorem lP (k__law_cell_here:Int) (k__law_count:Int) (y3:(List (List (T3 Int Str Int)))) (x5:Int):TyS (cH (en k__law_cell_here) (en k__law_count) (es y3) (es x5)) (bF k__law_cell_here k__law_count y3 x5):=by
 unfold cH bF
 exact (aw (ay eB (aa rfl) (ay bL (fB hZ (av k__law_cell_here) (ay eB (aa rfl) (av x5))) (ay o7 (nj (aY (aa rfl) (aY (aa rfl) (aY (aa rfl) ni)))) (ay mq (av k__law_count) (aa rfl))))) (fun d6=>(aw (Bg Bh (yx (.ls .fz) _) (pV (yv qL (av d6)) (fun c7=>(aa rfl)) (fun c7=>(cm wA (fB hZ (av k__law_cell_here) (ay eB (ay eB (aa rfl) (ay n9 (aa rfl) (av x5))) (av c7))))))) (fun d8=>(bC rfl)))))
noncomputable def bw (a__law_cell_here:Int):Option ((List (List (T3 Int Str Int)))):=
 tF0 ((some ([]:(List (List (T3 Int Str Int))))).bind fun d1=>(b2 T.cQ (some (1:Int)) (b2 T.cj (b2 bu (some a__law_cell_here) (some (60:Int))) (some (3:Int)))).bind fun d2=>lC (b1 T.mG (some d2)) (bF a__law_cell_here d2) d1 fun(y3:(List (List (T3 Int Str Int))))=>cF (some y3) (fun r=>⟨r⟩))
theorem jb (a__law_cell_here:Int):Fo0 (aV [en a__law_cell_here]) (bw a__law_cell_here):=by
 unfold bw
 refine fo0 (m:=bU (en a__law_cell_here)) ?_
 unfold bU
 exact (aw uo (fun d1=>(aw (ay eB (aa rfl) (ay bL (fB hZ (av a__law_cell_here) (aa rfl)) (aa rfl))) (fun d2=>(ia (yv qL (av d2)) (fun b x=>lP a__law_cell_here d2 b x) rfl (fun(y3:(List (List (T3 Int Str Int))))=>(aF (av y3) (fun _=>rfl))))))))
noncomputable def dg (a__law_term_here:(T3 Int Str Int)):Option (Str):=
 tF0 ((b1 T.un3 (some a__law_term_here)).bind fun d1=>f6 (b2 T.eqA (some d1.2.1) (some ("sizes" :Str))) (cF (b2 T.mF (b2 T.mF (b2 T.mI (some ("no " :Str)) (some d1.1)) (some ("sizes " :Str))) (b1 T.wN (some d1.2.2))) (fun r=>⟨r⟩)) (some (.nx ())) fun(y2:Unit)=>cF (b2 T.mF (b2 T.mI (some ("no " :Str)) (some d1.1)) (some d1.2.1)) (fun r=>⟨r⟩))
theorem pE (a__law_term_here:(T3 Int Str Int)):Fo0 (bN [en a__law_term_here]) (dg a__law_term_here):=by
 unfold dg
 refine fo0 (m:=cX (en a__law_term_here)) ?_
 unfold cX
 exact (aw (Bl (av a__law_term_here)) (fun d1=>(cu (ay eA (av d1.2.1) (aa rfl)) (aF (ay oa (ay oa (ay yz (aa rfl) (av d1.1)) (aa rfl)) (tm Du (av d1.2.2))) (fun _=>rfl)) (bC rfl) (fun(y2:Unit)=>(aF (ay oa (ay yz (aa rfl) (av d1.1)) (av d1.2.1)) (fun _=>rfl))))))
noncomputable def ck (a__law_alternatives_here:(List (List (T3 Int Str Int)))):Option (Str):=
 tF0 (cF (b2 T.join (some (" or " :Str)) (tlc (some a__law_alternatives_here) (fun c1:(List (T3 Int Str Int))=>some true) (fun c1:(List (T3 Int Str Int))=>b2 T.join (some (" and " :Str)) (tlc (some c1) (fun c2:(T3 Int Str Int)=>some true) (fun c2:(T3 Int Str Int)=>b1 dg (some c2)))))) (fun r=>⟨r⟩))
theorem pF (a__law_alternatives_here:(List (List (T3 Int Str Int)))):Fo0 (bO [en a__law_alternatives_here]) (ck a__law_alternatives_here):=by
 unfold ck
 refine fo0 (m:=c9 (en a__law_alternatives_here)) ?_
 unfold c9
 exact (aF (ay ur (aa rfl) (pV (jf (av a__law_alternatives_here)) (fun c1=>(aa rfl)) (fun c1=>(ay ur (aa rfl) (pV (jf (av c1)) (fun c2=>(aa rfl)) (fun c2=>(cm pE (av c2)))))))) (fun _=>rfl))
noncomputable def fj (a__law_kind:Str) (a__law_bound:Int) (a__law_giver:(T3 Str Int Str)) (a__law_taker:(T3 Str Int Str)):Option (Bool):=
 tF0 (f6 (b2 T.eqA (some a__law_kind) (some ("groups" :Str))) ((T.lst (T.cons (some ("O O" :Str)) (T.cons (some ("O A" :Str)) (T.cons (some ("O B" :Str)) (T.cons (some ("O AB" :Str)) (T.cons (some ("A A" :Str)) (T.cons (some ("A AB" :Str)) (T.cons (some ("B B" :Str)) (T.cons (some ("B AB" :Str)) (T.cons (some ("AB AB" :Str)) (some []))))))))))).bind fun d2=>cF (b2 (T.inA false) (b2 T.mF (b2 T.mF ((some a__law_giver).map T3.a) (some (" " :Str))) ((some a__law_taker).map T3.a)) (some d2)) (fun r=>⟨r⟩)) (some (.nx ())) fun(y1:Unit)=>f6 (b2 T.eqA (some a__law_kind) (some ("marks" :Str))) (cF (b2 T.eqD (tlc (b1 T.rq ((some a__law_giver).map T3.c)) (fun c4:Str=>b2 (T.mH false) (some c4) ((some a__law_taker).map T3.c)) (fun c4:Str=>some c4)) (some ([]:(List Str)))) (fun r=>⟨r⟩)) (some (.nx ())) fun(y3:Unit)=>cF (m8 (b2 T.leI (b2 T.lN ((some a__law_giver).map T3.b) ((some a__law_taker).map T3.b)) (some a__law_bound)) (b2 T.leI (b2 T.lN ((some a__law_taker).map T3.b) ((some a__law_giver).map T3.b)) (some a__law_bound))) (fun r=>⟨r⟩))
theorem u9 (a__law_kind:Str) (a__law_bound:Int) (a__law_giver:(T3 Str Int Str)) (a__law_taker:(T3 Str Int Str)):Fo0 (dZ [en a__law_kind,en a__law_bound,en a__law_giver,en a__law_taker]) (fj a__law_kind a__law_bound a__law_giver a__law_taker):=by
 unfold fj
 refine fo0 (m:=gL (en a__law_kind) (en a__law_bound) (en a__law_giver) (en a__law_taker)) ?_
 unfold gL
 exact (cu (ay eA (av a__law_kind) (aa rfl)) (aw (nj (aY (aa rfl) (aY (aa rfl) (aY (aa rfl) (aY (aa rfl) (aY (aa rfl) (aY (aa rfl) (aY (aa rfl) (aY (aa rfl) (aY (aa rfl) ni)))))))))) (fun d2=>(aF (ay (jU (FD false)) (ay oa (ay oa (cG (av a__law_giver) (fun _=>rfl)) (aa rfl)) (cG (av a__law_taker) (fun _=>rfl))) (av d2)) (fun _=>rfl)))) (bC rfl) (fun(y1:Unit)=>(cu (ay eA (av a__law_kind) (aa rfl)) (aF (ay (jU (FJ (Nat.le_of_ble_eq_true rfl))) (pV (tj uq (cG (av a__law_giver) (fun _=>rfl))) (fun c4=>(ay (uw false) (av c4) (cG (av a__law_taker) (fun _=>rfl)))) (fun c4=>(av c4))) uo) (fun _=>rfl)) (bC rfl) (fun(y3:Unit)=>(aF (uf (ay (jU rF) (ay mq (cG (av a__law_giver) (fun _=>rfl)) (cG (av a__law_taker) (fun _=>rfl))) (av a__law_bound)) (ay (jU rF) (ay mq (cG (av a__law_taker) (fun _=>rfl)) (cG (av a__law_giver) (fun _=>rfl))) (av a__law_bound))) (fun _=>rfl))))))
noncomputable def cO (k__law_giver:(T3 Str Int Str)) (k__law_taker:(T3 Str Int Str)) (y5:Bool) (x7:Int×Str×Int):Option (TO (Bool) (Bool) (R0 Bool)):=
 f6 (b2 T.eqA (b4 fj (some x7.2.1) (some x7.2.2) (some k__law_giver) (some k__law_taker)) (b2 T.eqA (b2 T.cj (some x7.1) (some (2:Int))) (some (1:Int)))) ((some false).bind fun d9=>some (.nx d9)) (some (.nx y5)) fun(y8:Bool)=>some (.nx y8)
theorem sS (k__law_giver:(T3 Str Int Str)) (k__law_taker:(T3 Str Int Str)) (y5:Bool) (x7:Int×Str×Int):TyS (jj (en k__law_giver) (en k__law_taker) (es y5) (es x7)) (cO k__law_giver k__law_taker y5 x7):=by
 unfold jj cO
 exact (cu (ay Fx (um u9 (av x7.2.1) (av x7.2.2) (av k__law_giver) (av k__law_taker)) (ay (jU eA) (ay bL (av x7.1) (aa rfl)) (aa rfl))) (aw (aa rfl) (fun d9=>(bC rfl))) (bC rfl) (fun(y8:Bool)=>(bC rfl)))
noncomputable def iw (k__law_giver:(T3 Str Int Str)) (k__law_taker:(T3 Str Int Str)) (y1:Unit) (x3:(List (T3 Int Str Int))):Option (TO (Unit) (Unit) (R0 Bool)):=
 (some true).bind fun d4=>lC (b1 T.trs (some x3)) (cO k__law_giver k__law_taker) d4 fun(y5:Bool)=>f6 (some y5) (cF (some true) (fun r=>⟨r⟩)) (some (.nx ())) fun(y10:Unit)=>some (.nx ())
theorem sT (k__law_giver:(T3 Str Int Str)) (k__law_taker:(T3 Str Int Str)) (y1:Unit) (x3:(List (T3 Int Str Int))):TyS (jm (en k__law_giver) (en k__law_taker) (es y1) (es x3)) (iw k__law_giver k__law_taker y1 x3):=by
 unfold jm iw
 exact (aw (aa rfl) (fun d4=>(ia (DD (av x3)) (fun b x=>sS k__law_giver k__law_taker b x) rfl (fun(y5:Bool)=>(cu (mW (av y5)) (aF (aa rfl) (fun _=>rfl)) (bC rfl) (fun(y10:Unit)=>(bC rfl)))))))
noncomputable def iX (a__law_alternatives_here:(List (List (T3 Int Str Int)))) (a__law_giver:(T3 Str Int Str)) (a__law_taker:(T3 Str Int Str)):Option (Bool):=
 tF0 (lC (some a__law_alternatives_here) (iw a__law_giver a__law_taker) () fun(y1:Unit)=>cF (some false) (fun r=>⟨r⟩))
theorem wB (a__law_alternatives_here:(List (List (T3 Int Str Int)))) (a__law_giver:(T3 Str Int Str)) (a__law_taker:(T3 Str Int Str)):Fo0 (fg [en a__law_alternatives_here,en a__law_giver,en a__law_taker]) (iX a__law_alternatives_here a__law_giver a__law_taker):=by
 unfold iX
 refine fo0 (m:=iT (en a__law_alternatives_here) (en a__law_giver) (en a__law_taker)) ?_
 unfold iT
 exact (ia (jf (av a__law_alternatives_here)) (fun b x=>sT a__law_giver a__law_taker b x) rfl (fun(y1:Unit)=>(aF (aa rfl) (fun _=>rfl))))
noncomputable def fk (a__law_cell_here:Int):Option (((T3 Str Int Str)×(T3 Str Int Str))):=
 tF0 ((b2 fZ (some a__law_cell_here) (some (5:Int))).bind fun d1=>(b2 fZ (some a__law_cell_here) (some (6:Int))).bind fun d2=>(b2 T.cj (b2 bu (some a__law_cell_here) (some (7:Int))) (some (9:Int))).bind fun d3=>f6 (b2 T.eqA (some d3) (some (0:Int))) ((b3 T.tri ((some d1).map T3.a) ((some d2).map T3.b) ((some d2).map T3.c)).bind fun d5=>some (.nx d5)) (some (.nx d2)) fun(y4:(T3 Str Int Str))=>f6 (b2 T.eqA (some d3) (some (1:Int))) ((b3 T.tri ((some y4).map T3.a) (b2 T.min2 (some (99:Int)) (b2 T.cQ ((some d1).map T3.b) (b2 T.cj (b2 bu (some a__law_cell_here) (some (8:Int))) (some (32:Int))))) ((some y4).map T3.c)).bind fun d7=>some (.nx d7)) (some (.nx y4)) fun(y6:(T3 Str Int Str))=>f6 (b2 T.eqA (some d3) (some (2:Int))) ((b3 T.tri ((some y6).map T3.a) ((some y6).map T3.b) ((some d1).map T3.c)).bind fun d9=>some (.nx d9)) (some (.nx y6)) fun(y8:(T3 Str Int Str))=>cF (b2 T.pair (some d1) (some y8)) (fun r=>⟨r⟩))
theorem va (a__law_cell_here:Int):Fo0 (eh [en a__law_cell_here]) (fk a__law_cell_here):=by
 unfold fk
 refine fo0 (m:=gR (en a__law_cell_here)) ?_
 unfold gR
 exact (aw (fB qg (av a__law_cell_here) (aa rfl)) (fun d1=>(aw (fB qg (av a__law_cell_here) (aa rfl)) (fun d2=>(aw (ay bL (fB hZ (av a__law_cell_here) (aa rfl)) (aa rfl)) (fun d3=>(cu (ay eA (av d3) (aa rfl)) (aw (oe (cG (av d1) (fun _=>rfl)) (cG (av d2) (fun _=>rfl)) (cG (av d2) (fun _=>rfl))) (fun d5=>(bC rfl))) (bC rfl) (fun(y4:(T3 Str Int Str))=>(cu (ay eA (av d3) (aa rfl)) (aw (oe (cG (av y4) (fun _=>rfl)) (Em C6 (aa rfl) (ay eB (cG (av d1) (fun _=>rfl)) (ay bL (fB hZ (av a__law_cell_here) (aa rfl)) (aa rfl)))) (cG (av y4) (fun _=>rfl))) (fun d7=>(bC rfl))) (bC rfl) (fun(y6:(T3 Str Int Str))=>(cu (ay eA (av d3) (aa rfl)) (aw (oe (cG (av y6) (fun _=>rfl)) (cG (av y6) (fun _=>rfl)) (cG (av d1) (fun _=>rfl))) (fun d9=>(bC rfl))) (bC rfl) (fun(y8:(T3 Str Int Str))=>(aF (C9 (av d1) (av y8)) (fun _=>rfl))))))))))))))
noncomputable def TC (n:Nat) (r:Fv) (x:(T3 Str Int Str)) (y:(T3 Str Int Str)):Option Bool:=(FC n [r.d,en x,en y]).bind FR.asB
theorem HC (n:Nat) (r:Fv) (x:(T3 Str Int Str)) (y:(T3 Str Int Str)):Fo0 (FC n [en r,en x,en y]) (TC n r x y):=FT
noncomputable def bp (k__law_rules:(List Fv)) (k__law_some:(List (List (List (T3 Int Str Int))))) (k__law_giver:(T3 Str Int Str)) (k__law_taker:(T3 Str Int Str)) (y1:Unit) (x3:Int):Option (TO (Unit) (Unit) (R0 Bool)):=
 (b3 (TC 12) (b2 T.atL (some k__law_rules) (some x3)) (some k__law_giver) (some k__law_taker)).bind fun d4=>f6 (orB (jS ((some d4).bind fun _=>some true)) (b2 T.neA (some d4) (b3 iX (b2 T.atL (some k__law_some) (some x3)) (some k__law_giver) (some k__law_taker)))) (cF (some false) (fun r=>⟨r⟩)) (some (.nx ())) fun(y5:Unit)=>some (.nx ())
theorem pG (k__law_rules:(List Fv)) (k__law_some:(List (List (List (T3 Int Str Int))))) (k__law_giver:(T3 Str Int Str)) (k__law_taker:(T3 Str Int Str)) (y1:Unit) (x3:Int):TyS (fK (en k__law_rules) (en k__law_some) (en k__law_giver) (en k__law_taker) (es y1) (es x3)) (bp k__law_rules k__law_some k__law_giver k__law_taker y1 x3):=by
 unfold fK bp
 exact (aw (n8 (HC 12) (ay o7 (av k__law_rules) (av x3)) (av k__law_giver) (av k__law_taker)) (fun d4=>(cu (ue (n7 (mW (wV (fun _=>rfl) (av d4)))) (ay Fy (av d4) (n8 wB (ay o7 (av k__law_some) (av x3)) (av k__law_giver) (av k__law_taker)))) (aF (aa rfl) (fun _=>rfl)) (bC rfl) (fun(y5:Unit)=>(bC rfl)))))
noncomputable def bJ (a__law_rules:(List Fv)) (a__law_some:(List (List (List (T3 Int Str Int))))) (a__law_giver:(T3 Str Int Str)) (a__law_taker:(T3 Str Int Str)):Option (Bool):=
 tF0 (lC (b1 T.mG (some (2:Int))) (bp a__law_rules a__law_some a__law_giver a__law_taker) () fun(y1:Unit)=>(b2 T.max2 (b2 T.lN ((some a__law_giver).map T3.b) ((some a__law_taker).map T3.b)) (b2 T.lN ((some a__law_taker).map T3.b) ((some a__law_giver).map T3.b))).bind fun d6=>(b2 tM (some a__law_giver) (some a__law_taker)).bind fun d7=>cF (m8 (b1 jn (some d7)) (b2 T.eqA (some d7) (some d6))) (fun r=>⟨r⟩))
theorem l8 (a__law_rules:(List Fv)) (a__law_some:(List (List (List (T3 Int Str Int))))) (a__law_giver:(T3 Str Int Str)) (a__law_taker:(T3 Str Int Str)):Fo0 (bP [en a__law_rules,en a__law_some,en a__law_giver,en a__law_taker]) (bJ a__law_rules a__law_some a__law_giver a__law_taker):=by
 unfold bJ
 refine fo0 (m:=eQ (en a__law_rules) (en a__law_some) (en a__law_giver) (en a__law_taker)) ?_
 unfold eQ
 exact (ia (yv qL (aa rfl)) (fun b x=>pG a__law_rules a__law_some a__law_giver a__law_taker b x) rfl (fun(y1:Unit)=>(aw (Em C7 (ay mq (cG (av a__law_giver) (fun _=>rfl)) (cG (av a__law_taker) (fun _=>rfl))) (ay mq (cG (av a__law_taker) (fun _=>rfl)) (cG (av a__law_giver) (fun _=>rfl)))) (fun d6=>(aw (fB Ey (av a__law_giver) (av a__law_taker)) (fun d7=>(aF (uf (cm u6 (av d7)) (ay (jU eA) (av d7) (av d6))) (fun _=>rfl))))))))
noncomputable def qS (k__law_some:(List (List (List (T3 Int Str Int))))) (k__law_rules:(List Fv)) (y6:Unit) (x8:(T3 Str Int Str)×(T3 Str Int Str)):Option (TO (Unit) (Unit) (R0 Bool)):=
 f6 (orB (jS (b4 bJ (some k__law_rules) (some k__law_some) (some x8.1) (some x8.2))) (jS (b4 bJ (some k__law_rules) (some k__law_some) (some x8.2) (some x8.1)))) (cF (some false) (fun r=>⟨r⟩)) (some (.nx ())) fun(y9:Unit)=>some (.nx ())
theorem DS (k__law_some:(List (List (List (T3 Int Str Int))))) (k__law_rules:(List Fv)) (y6:Unit) (x8:(T3 Str Int Str)×(T3 Str Int Str)):TyS (uY (en k__law_some) (en k__law_rules) (es y6) (es x8)) (qS k__law_some k__law_rules y6 x8):=by
 unfold uY qS
 exact (cu (ue (n7 (mW (um l8 (av k__law_rules) (av k__law_some) (av x8.1) (av x8.2)))) (n7 (mW (um l8 (av k__law_rules) (av k__law_some) (av x8.2) (av x8.1))))) (aF (aa rfl) (fun _=>rfl)) (bC rfl) (fun(y9:Unit)=>(bC rfl)))
noncomputable def yP (a__law_script:Scr):Option (Bool):=
 tF0 ((T.lst (T.cons (b1 bw (b2 dw (some a__law_script) (some (0:Int)))) (T.cons (b1 bw (b2 dw (some a__law_script) (some (1:Int)))) (some [])))).bind fun d1=>(tlc (some d1) (fun c2:(List (List (T3 Int Str Int)))=>some true) (fun c2:(List (List (T3 Int Str Int)))=>b1 jr (b1 ck (some c2)))).bind fun d3=>(tlc (A9 T.iZ (b2 T.wO (some a__law_script) (T.lst (T.cons (some (0:Int)) (T.cons (some (1:Int)) (T.cons (some (2:Int)) (some [])))))) (b1 T.toI (some (2:Int))) (b1 T.toI (some (32:Int)))) (fun c4:Int=>some true) (fun c4:Int=>b1 fk (some c4))).bind fun d5=>lC (b2 T.wI (some d5) (some d5)) (qS d1 d3) () fun(y6:Unit)=>cF (some true) (fun r=>⟨r⟩))
theorem HS (a__law_script:Scr):Fo0 (xQ [en a__law_script]) (yP a__law_script):=by
 unfold yP
 refine fo0 (m:=wu (en a__law_script)) ?_
 unfold wu
 exact (aw (nj (aY (cm jb (fB qf (av a__law_script) (aa rfl))) (aY (cm jb (fB qf (av a__law_script) (aa rfl))) ni))) (fun d1=>(aw (pV (jf (av d1)) (fun c2=>(aa rfl)) (fun c2=>(cm zR (cm pF (av c2))))) (fun d3=>(aw (pV (jf (Ba Ji (ay Dx (av a__law_script) (nj (aY (aa rfl) (aY (aa rfl) (aY (aa rfl) ni))))) (tj wU (aa rfl)) (tj wU (aa rfl)))) (fun c4=>(aa rfl)) (fun c4=>(cm va (av c4)))) (fun d5=>(ia (Df (ay Dd (av d5) (av d5))) (fun b x=>DS d1 d3 b x) rfl (fun(y6:Unit)=>(aF (aa rfl) (fun _=>rfl))))))))))
end Sw.k04
namespace Sw.k04
open PySem PySem.Spec PyProof.Rows L2 Sw
theorem yQ (sc:Scr) (k:Int) (h:0<=k):dw sc k=some (sc.l.getD k.toNat 0):=by
 unfold dw
 by_cases hk:k<sc.l.length
 ·have h2:k.toNat<sc.l.length:=by omega
  simp[hk,T.DH h hk,List.getD_eq_getElem?_getD,List.getElem?_eq_getElem h2]
 ·have:sc.l.getD k.toNat 0=0:=by
   rw[List.getD_eq_getElem?_getD,List.getElem?_eq_none (by omega)];rfl
  rw[this]
  simp[hk]
def mL (c k:Int):Int:=
 let n:=(c%2147483629+7919*k+12345)%2147483629
 let m:=(n*n+104729*k)%2147483629
 (m+k)*(m+k)%2147483587
theorem qh (c k:Int):0<=mL c k:=Int.emod_nonneg _ (by decide)
theorem mD (c k:Int) (h1: -1000000<=k) (h2:k<=1000000):bu c k=some (mL c k):=by
 unfold bu mL
 simp only[aq,T.fC,Option.bind_some,T.b9 (b:=2147483629) (by decide),T.oZ (a:=7919) (by decide) (by decide)]
 generalize hn:(c%2147483629+7919*k+12345)%2147483629=n
 have n0:0<=n:=by rw[<-hn];exact Int.emod_nonneg _ (by decide)
 have n1:n<2147483629:=by rw[<-hn];exact Int.emod_lt_of_pos _ (by decide)
 rw[T.oZ (a:=n) (by omega) (by omega)]
 simp only[aq,T.fC,Option.bind_some,T.b9 (b:=2147483629) (by decide),T.oZ (a:=104729) (by decide) (by decide)]
 generalize hm:(n*n+104729*k)%2147483629=m
 have m0:0<=m:=by rw[<-hm];exact Int.emod_nonneg _ (by decide)
 have m1:m<2147483629:=by rw[<-hm];exact Int.emod_lt_of_pos _ (by decide)
 rw[T.oZ (a:=m+k) (by omega) (by omega)]
 simp only[aq,T.fC,Option.bind_some,T.b9 (b:=2147483587) (by decide),tv,DL]
def Let (x:Str):Prop:= ∀c∈TL.tl x,97<=c/\c<123
structure ja (s:T3 Str Int Str):Prop where
 grp:s.a∈[("O" :Str),"A","B","AB"]
 lo:1<=s.b
 hi:s.b<=99
 rise:(TL.tl s.c).Pairwise (· < ·)
 low:Let s.c
 len:(TL.tl s.c).length<=26
structure Ez (s:T3 Str Int Str):Prop where
 grp:s.a∈[("O" :Str),"A","B","AB"]
 lo:0<=s.b
 hi:s.b<=100
 rise:(TL.tl s.c).Pairwise (· < ·)
 low:Let s.c
 len:(TL.tl s.c).length<=26
theorem ja.w {s:T3 Str Int Str} (h:ja s):Ez s:=⟨h.grp,by have:=h.lo;omega,by have:=h.hi;omega,h.rise,h.low,h.len⟩
def num (i:Int):Str:=toString i
theorem nJ {i:Int} (h:0<=i):TL.tl (num i)=TL.numL i.toNat:=by
 have:=TL.tl_num i.toNat
 rw[Int.toNat_of_nonneg h] at this
 exact this
theorem DU {i:Int} (h:0<=i) (h2:i<=1000001):(TL.tl (num i)).length<=7:=by
 rw[nJ h]
 exact TL.numL_len (by decide) (by omega)
theorem zS {i:Int} (h:0<=i) (h2:i<=1000001):i.natAbs.log2<1920:=by
 by_cases z:i.natAbs=0
 ·rw[z];decide
 ·rw[Nat.log2_lt z]
  exact Nat.lt_of_lt_of_le (show i.natAbs<2^20 by omega) (Nat.pow_le_pow_right (by decide) (by decide))
def hd (c:T5 Str Int Int (T3 Str Int Str) (T3 Str Int Str)):Str:=Txt.join " " [c.a,num c.b,num c.c]
theorem EA:TL.tl (" " :Str)=[32]:=rfl
theorem yR {s:T3 Str Int Str} (h:Ez s):(TL.tl s.a).length<=2/\ ∀c∈TL.tl s.a,65<=c/\c<91:=by
 have:=h.grp
 simp only[List.mem_cons,List.not_mem_nil,or_false] at this
 rcases this with e|e|e|e <;> (rw[e];decide)
theorem vc {i:Int} (h:0<=i): ∀c∈TL.tl (num i),48<=c/\c<58:=fun c hc=>by
 rw[nJ h] at hc
 have:=TL.numL_digits _ c hc
 omega
theorem oM {a b:Str} (h:(TL.tl a).length+(TL.tl b).length<=1000):T.mF a b=some (a++b):=T.DE (by rw[TL.len_tl,TL.len_tl];exact Nat.le_trans h (Nat.le_trans (by decide) big))
theorem Gb {x:Str} (h:Let x):PySem.PyData.strOk x=true:=Low.ok h
theorem yS {i:Int} (h0:0<=i) (h1:i<26):T.atS qJ i=some (sg (97+i.toNat)):=by
 unfold T.atS
 rw[if_pos (by decide+kernel)]
 unfold T.sgs
 rw[vH,atI_nat h0 (by simpa using h1),List.getElem?_map,List.getElem?_map,List.getElem?_range (by omega)]
 rfl
theorem B1 {cs:List Nat} (h:cs.length<=1000):T.join ("" :Str) (cs.map sg)=some ⟨cs.toArray⟩:=by
 unfold T.join
 rw[if_pos,AN]
 have e1: ∀l:List Nat,(l.map fun _=>1).sum=l.length:=fun l=>by induction l with
  |nil=>rfl
  |cons a l ih=>rw[List.map_cons,List.sum_cons,ih];simp;omega
 have e2:((cs.map sg).map fun x=>x.length)=cs.map fun _=>1:=by rw[List.map_map];rfl
 rw[e2,e1,List.length_map]
 show _+_*0<=_
 omega
theorem B2 {n:Int} (h:0<=n): ∃m,gX n=some m/\(TL.tl m).Pairwise (· < ·)/\Let m/\(TL.tl m).length<=26:=by
 have:=big
 unfold gX
 simp only[Option.bind_some,aq,T.b9 (b:=3) (by decide),T.i5,bM]
 rw[show ("abcdefghijklmnopqrstuvwxyz" :Str)=qJ from rfl]
 by_cases w0:n%3=0
 ·refine⟨"",?_,List.Pairwise.nil,fun c hc=>(by cases hc),by decide⟩
  rw[decide_eq_true w0,if_pos rfl];rfl
 rw[decide_eq_false w0,if_neg Bool.false_ne_true]
 simp only[Option.bind_some,ie]
 by_cases w1:n%3=1
 ·have m0:=Int.emod_nonneg (n/3) (show (26:Int)≠0 by decide)
  have m1:=Int.emod_lt_of_pos (n/3) (show (0:Int)<26 by decide)
  refine⟨sg (97+(n/3%26).toNat),?_,List.pairwise_singleton _ _,fun c hc=> ?_,by show 1<=26;decide⟩
  ·rw[decide_eq_true w1,if_pos rfl,T.jK (by decide) (by decide),aq,T.b9 (by decide),aq,yS m0 m1];rfl
  ·have:c=97+(n/3%26).toNat:=by simpa using (show c∈[97+(n/3%26).toNat] from hc)
   omega
 rw[decide_eq_false w1,if_neg Bool.false_ne_true]
 simp only[Option.bind_some,ie]
 let p:Nat->Bool:=fun i=>decide (n/3/((i:Int)+1)%3=0)
 have lc:tlc (b1 T.mG (some (26:Int))) (fun c5:Int=>b2 T.eqA (b2 T.cj (b2 T.iY (b2 T.iY (some n) (some (3:Int))) (b2 T.cQ (some c5) (some (1:Int)))) (some (3:Int))) (some (0:Int))) (fun c5:Int=>b2 T.atS (some qJ) (some c5))=some ((((List.range 26).filter p).map fun i=>97+i).map sg):=by
  rw[aL,T.qM (by decide) (by decide)]
  rw[xr (fun i:Int=>decide (n/3/(i+1)%3=0)) (fun i=>sg (97+i.toNat)) (by simp;exact Nat.le_trans (by decide) big)]
  ·congr 1
   rw[List.filter_map,List.map_map,List.map_map]
   rfl
  ·intro i hi
   obtain⟨j,hj,rfl⟩:=List.mem_map.mp hi
   have:=List.mem_range.mp hj
   have:(26:Int).toNat=26:=rfl
   rw[aq,T.jK (by decide) (by decide),aq,T.fC,aq,T.jK (by omega) (by omega),aq,T.b9 (by decide),aq,T.i5]
  ·intro i hi _
   obtain⟨j,hj,rfl⟩:=List.mem_map.mp hi
   have:=List.mem_range.mp hj
   have:(26:Int).toNat=26:=rfl
   rw[aq,yS (by omega) (by omega)]
 have fl:=List.length_filter_le p (List.range 26)
 rw[List.length_range] at fl
 simp only[aq] at lc
 rw[lc]
 refine⟨⟨(((List.range 26).filter p).map fun i=>97+i).toArray⟩,?_,?_,fun c hc=> ?_,?_⟩
 ·rw[aq,B1 (by rw[List.length_map];omega)];rfl
 ·show (((List.range 26).filter p).map fun i=>97+i).Pairwise (· < ·)
  rw[List.pairwise_map]
  exact (List.pairwise_lt_range.sublist List.filter_sublist).imp fun h=>by omega
 ·obtain⟨i,hi,rfl⟩:=List.mem_map.mp (show c∈((List.range 26).filter p).map fun i=>97+i from hc)
  have:=List.mem_range.mp (List.mem_filter.mp hi).1
  omega
 ·show (((List.range 26).filter p).map fun i=>97+i).length<=26
  rw[List.length_map];omega
theorem yT (c k:Int) (h1: -1000000<=k) (h2:k<=1000000): ∃s,fZ c k=some s/\ja s:=by
 unfold fZ
 rw[aq,mD c k h1 h2]
 have n0:=qh c k
 generalize mL c k=d at n0
 obtain⟨m,em,m1,m2,m3⟩:=B2 (n:=d/400) (by omega)
 have d0:=Int.emod_nonneg d (show (4:Int)≠0 by decide)
 have d1:=Int.emod_lt_of_pos d (show (0:Int)<4 by decide)
 have s0:=Int.emod_nonneg (d/4) (show (99:Int)≠0 by decide)
 have s1:=Int.emod_lt_of_pos (d/4) (show (0:Int)<99 by decide)
 rw[Option.bind_some]
 simp only[T.oh,T.Hx,aq,T.b9 (b:=4) (by decide),T.jK (b:=4) (by decide) (by decide),T.jK (b:=400) (by decide) (by decide),T.b9 (b:=99) (by decide),T.fC,aL,em]
 rw[T.qI d0 (by show d%4<4;omega)]
 exact⟨_,rfl,List.getElem_mem _,by show 1<=1+_;omega,by show 1+_<=99;omega,m1,m2,m3⟩
def dig (c:Nat):Bool:=decide (48<=c/\c<=57)
def low (c:Nat):Bool:=decide (97<=c/\c<=122)
def xV (x:Str) (k:Int):Bool:=decide ((1:Int)<=(x.length:Int))&&decide ((x.length:Int)<=k)
def hd0 (l:List Nat):Bool:=match l with
 | []=>false
 |c::r=>decide (c=48)&& !decide (r=[])
def wrB (x:Str):Bool:=(TL.tl x).all dig&&(xV x 12&& !hd0 (TL.tl x))
theorem ltl {x:Str}:x.length=(TL.tl x).length:=TL.len_tl x
theorem JA {x:Str} (h:x.length<=2000):T.sE x=some (x.length:Int):=T.DI (by have:=big;omega)
theorem yU {ρ:Type} {step:Unit->Str->Option (TO Unit Unit ρ)} {p:Nat->Bool} {r:ρ}: ∀(l:List Nat),(∀c∈l,step () ⟨#[c]⟩=some (if p c=true then .nx () else .ret r))->eL step (l.map fun c=>(⟨#[c]⟩:Str)) ()=some (if l.all p=true then .fin () else .ret r)
 | [],_=>rfl
 |c::l,h=>by
  show (step () ⟨#[c]⟩).bind _=_
  rw[h c List.mem_cons_self]
  by_cases q:p c=true
  ·rw[if_pos q,List.all_cons,q,Bool.true_and]
   exact yU l fun c hc=>h c (List.mem_cons_of_mem _ hc)
  ·rw[if_neg q,List.all_cons,Bool.eq_false_iff.mpr q];rfl
theorem DV:("0123456789" :Str).cps.toList=[48,49,50,51,52,53,54,55,56,57]:=by decide+kernel
theorem HU (c:Nat):T.mH true ⟨#[c]⟩ ("0123456789" :Str)=some (!dig c):=by
 show some (!decide (c∈("0123456789" :Str).cps.toList))=_
 congr 2
 unfold dig
 rw[decide_eq_decide,DV]
 simp only[List.mem_cons,List.not_mem_nil,or_false]
 omega
theorem chI (a n b:Int):Dr T.leI T.leI (some a) (some n) (some b)=some (decide (a<=n)&&decide (n<=b)):=by
 unfold Dr
 simp only[Option.bind_some,T.xp]
 cases decide (a<=n) <;> rfl
theorem at0 {x:Str} {c:Nat} {r:List Nat} (h:x.length<=2000) (e:TL.tl x=c::r):T.atS x 0=some ⟨#[c]⟩:=by
 have:=big
 unfold T.atS T.sgs
 rw[if_pos (by omega),show x.cps.toList=c::r from e,atI_nat (by decide) (by simp)];rfl
theorem c0 (c:Nat):decide ((⟨#[c]⟩:Str)=("0" :Str))=decide (c=48):=by
 rw[decide_eq_decide]
 constructor
 ·intro q
  have:[c]=[48]:=congrArg TL.tl q
  simpa using this
 ·rintro rfl;rfl
theorem headOf {x:Str} {k:Int} (h:xV x k=true): ∃c r,TL.tl x=c::r:=by
 cases e:TL.tl x with
 |cons c r=>exact⟨c,r,rfl⟩
 |nil=>
  exfalso
  have:=of_decide_eq_true (Bool.and_eq_true_iff.mp h).1
  rw[ltl,e] at this
  simp at this
def HV (x:Str):Int:=((PySem.NumText.digitsVal (TL.tl x):Nat):Int)
theorem intD {x:Str} (h1:(TL.tl x).all dig=true) (h3:xV x 12=true):T.sH x=some (HV x):=by
 obtain⟨c,r,e⟩:=headOf h3
 have l:=of_decide_eq_true (Bool.and_eq_true_iff.mp h3).2
 unfold T.sH
 rw[if_pos (by omega)]
 exact PySem.intText_digits (fun c hc=>of_decide_eq_true (List.all_eq_true.mp h1 c hc)) (by rw[show x.cps.toList=c::r from e];simp) (by omega)
theorem DW {i:Int} (h:0<=i) (h2:i<=1000001):wrB (num i)=true/\HV (num i)=i:=by
 have l:=DU h h2
 have n1:1<=(TL.tl (num i)).length:=by
  rw[nJ h]
  exact List.length_pos_iff.mpr (TL.numL_ne _)
 have d:(TL.tl (num i)).all dig=true:=List.all_eq_true.mpr fun c hc=>decide_eq_true (by have:=vc h c hc;omega)
 have lb:xV (num i) 12=true:=by
  unfold xV
  rw[ltl,decide_eq_true (by omega),decide_eq_true (by omega)];rfl
 have h0:hd0 (TL.tl (num i))=false:=by
  rw[nJ h]
  by_cases z:i.toNat<10
  ·rw[TL.numL_lt z];simp[hd0]
  ·rw[TL.numL_step (by omega)]
   have: ∀(n:Nat),1<=n-> ∃d r,TL.numL n=d::r/\d≠48:=fun n=>by
    induction n using Nat.strongRecOn with
    |_ n ih=>
     intro h
     by_cases z:n<10
     ·exact⟨48+n,[],TL.numL_lt z,by omega⟩
     ·obtain⟨d,r,e,h2⟩:=ih (n/10) (by omega) (by omega)
      exact⟨d,r++[48+n%10],by rw[TL.numL_step (by omega),e];rfl,h2⟩
   obtain⟨d,r,e,hd⟩:=this (i.toNat/10) (by omega)
   rw[e]
   show (decide (d=48)&&_)=false
   rw[decide_eq_false hd];rfl
 refine⟨by unfold wrB;rw[d,lb,h0];rfl,?_⟩
 have e:=TL.int_num (n:=i.toNat) (by rw[<-nJ h];omega)
 rw[Int.toNat_of_nonneg h] at e
 have e2:=intD d lb
 unfold T.sH at e2
 rw[if_pos (by rw[ltl];omega)] at e2
 exact Option.some.inj (e2.symm.trans e)
def nbl (d:Nat):List Nat->Prop
 | []=>True
 |c::r=>(c=32-> ∃e s,r=e::s/\e≠d)/\nbl d r
theorem oN {d:Nat}: ∀{l:List Nat},32∉l->nbl d l
 | [],_=>trivial
 |c::r,h=>⟨fun e=>absurd (by rw[e];exact List.mem_cons_self) h,oN fun m=>h (List.mem_cons_of_mem _ m)⟩
theorem yV {d:Nat}: ∀{a b:List Nat},nbl d a->nbl d b->nbl d (a++b)
 | [],_,_,h=>h
 |c::r,b,h,g=>⟨fun e=>by
   obtain⟨x,s,e1,e2⟩:=h.1 e
   exact⟨x,s++b,by rw[e1];rfl,e2⟩,yV h.2 g⟩
theorem vd {d:Nat} {S:List Nat} (q:List Nat): ∀{p:List Nat},nbl d p-> ∀i,i<p.length->TL.pre (32::d::S) ((p++q).drop i)=false
 | [],_,i,h=>absurd h (by simp)
 |c::r,h,0,_=>by
  by_cases e:c=32
  ·obtain⟨x,s,e1,e2⟩:=h.1 e
   rw[e1,e]
   unfold TL.pre
   show ((32::x::(s++q)).take (S.length+1+1)==32::d::S)=false
   rw[List.take_succ_cons,List.take_succ_cons,beq_eq_false_iff_ne]
   intro z
   injection z with _ z
   injection z with z _
   exact e2 z
  ·exact TL.pre_of_head _ _ e
 |c::r,h,i+1,hi=>vd q h.2 i (by simpa using hi)
theorem yW {d:Nat} {S:List Nat}: ∀{parts:List (List Nat)},parts≠[]->(∀p∈parts,nbl d p)->TL.spl (32::d::S) 0 [] (TL.joinL (32::d::S) parts)=parts
 | [a],_,h=>by
  show TL.spl _ 0 [] a=[a]
  rw[TL.spl_last fun i hi=>by
   have:=vd (S:=S) [] (h a List.mem_cons_self) i hi
   rwa[List.append_nil] at this]
  rfl
 |a::b::r,_,h=>by
  show TL.spl _ 0 [] (a++((32::d::S)++TL.joinL _ (b::r)))=_
  rw[TL.spl_part (by simp) (vd _ (h a List.mem_cons_self)),yW (by simp) fun p hp=>h p (List.mem_cons_of_mem _ hp)]
  rfl
theorem tP {y:Str} {d:Nat} {S:List Nat} (ey:TL.tl y=32::d::S) (hk:y.cps.all (· <256)=true) {parts:List Str} (hne:parts≠[]) (h: ∀p∈parts,nbl d (TL.tl p)):Txt.split (Txt.join y parts) y=parts:=by
 refine TL.map_tl_inj ?_
 rw[TL.split_spl _ _ (by rw[ey];simp) (TL.kind_ok hk),TL.join_eq,TL.tl_join,ey,yW (by simpa using hne) fun p hp=>by
  obtain⟨x,hx,rfl⟩:=List.mem_map.mp hp
  exact h x hx]
def Wd (d:Nat) (l:List Nat):Prop:=(∃c r,l=c::r/\c≠d)/\nbl d l
theorem Wd.and {d:Nat} (hd:d≠97): ∀{parts:List (List Nat)},parts≠[]->(∀p∈parts,Wd d p)->Wd d (TL.joinL [32,97,110,100,32] parts)
 | [a],_,h=>h a List.mem_cons_self
 |a::b::r,_,h=>by
  obtain⟨⟨c,s,e,n⟩,z⟩:=h a List.mem_cons_self
  obtain⟨⟨c',s',e',n'⟩,z'⟩:=Wd.and hd (parts:=b::r) (by simp) fun p hp=>h p (List.mem_cons_of_mem _ hp)
  show Wd d (a++([32,97,110,100,32]++TL.joinL [32,97,110,100,32] (b::r)))
  refine⟨⟨c,_,by rw[e];rfl,n⟩,yV z ⟨fun _=>⟨97,_,rfl,fun q=>hd q.symm⟩,fun q=>absurd q (by decide),fun q=>absurd q (by decide),fun q=>absurd q (by decide),fun _=>⟨c',s',e',n'⟩,z'⟩⟩
def noL:Nat->List Nat
 |0=>[]
 |k+1=>110::111::32::noL k
def noS (k:Nat):Str:=⟨(noL k).toArray⟩
theorem qT: ∀k,(noL k).length=3*k
 |0=>rfl
 |k+1=>by show (noL k).length+1+1+1=_;rw[qT k];omega
theorem Wd.no {d:Nat} (hd:d≠110) {l:List Nat} (h:Wd d l): ∀k,Wd d (noL k++l)
 |0=>h
 |k+1=>by
  obtain⟨⟨c,s,e,n⟩,z⟩:=Wd.no hd h k
  exact⟨⟨110,_,rfl,fun q=>hd q.symm⟩,fun q=>absurd q (by decide),fun q=>absurd q (by decide),fun _=>⟨c,s,e,n⟩,z⟩
theorem Ge: ∀{k:Nat},k<=5->T.mI ("no " :Str) (k:Int)=some (noS k)
 |0,_=>by unfold T.mI;rw[jc (by unfold MulOk;decide+kernel)];rfl
 |1,_=>by unfold T.mI;rw[jc (by unfold MulOk;decide+kernel)];rfl
 |2,_=>by unfold T.mI;rw[jc (by unfold MulOk;decide+kernel)];rfl
 |3,_=>by unfold T.mI;rw[jc (by unfold MulOk;decide+kernel)];rfl
 |4,_=>by unfold T.mI;rw[jc (by unfold MulOk;decide+kernel)];rfl
 |5,_=>by unfold T.mI;rw[jc (by unfold MulOk;decide+kernel)];rfl
 |k+6,h=>absurd h (by omega)
abbrev Tm:=T3 Int Str Int
structure pH (t:Tm):Prop where
 t0:0<=t.a
 t5:t.a<=5
 kind:t.b=("groups" :Str)\/t.b=("marks" :Str)\/t.b=("sizes" :Str)
 b0:0<=t.c
 b98:t.c<=98
def bsS (t:Tm):Str:=if t.b=("sizes" :Str) then ("sizes " :Str)++num t.c else t.b
def tmS (t:Tm):Str:=noS t.a.toNat++bsS t
theorem l9:TL.tl ("sizes " :Str)=[115,105,122,101,115,32]:=rfl
theorem B3 {i:Int} (h:0<=i) (h2:i<=98): ∃c r,TL.tl (num i)=c::r/\48<=c/\c<58/\32∉TL.tl (num i)/\(TL.tl (num i)).length<=2:=by
 have l:(TL.tl (num i)).length<=2:=by
  rw[nJ h]
  exact TL.numL_len (by decide) (by omega)
 have f:32∉TL.tl (num i):=fun m=>by have:=vc h 32 m;omega
 cases e:TL.tl (num i) with
 |nil=>rw[nJ h] at e;exact absurd e (TL.numL_ne _)
 |cons c r=>
  have:=vc h c (by rw[e];exact List.mem_cons_self)
  rw[e] at f l
  exact⟨c,r,rfl,by omega,by omega,f,l⟩
theorem B4 {t:Tm} (h:pH t) {d:Nat} (hd:d=97\/d=111):Wd d (TL.tl (bsS t))/\(TL.tl (bsS t)).length<=8/\ ∃c r,TL.tl (bsS t)=c::r/\c≠110:=by
 unfold bsS
 rcases h.kind with e|e|e
 ·rw[e,if_neg (by decide+kernel)]
  refine⟨⟨⟨103,_,rfl,by omega⟩,oN (by decide)⟩,by decide,103,_,rfl,by decide⟩
 ·rw[e,if_neg (by decide+kernel)]
  refine⟨⟨⟨109,_,rfl,by omega⟩,oN (by decide)⟩,by decide,109,_,rfl,by decide⟩
 ·rw[e,if_pos rfl,TL.tl_append,l9]
  obtain⟨c,r,e1,e2,e3,e4,e5⟩:=B3 h.b0 h.b98
  refine⟨⟨⟨115,_,rfl,by omega⟩,?_⟩,by rw[List.length_append];show 6+_<=8;omega,115,_,rfl,by decide⟩
  exact⟨fun q=>absurd q (by decide),fun q=>absurd q (by decide),fun q=>absurd q (by decide),fun q=>absurd q (by decide),fun q=>absurd q (by decide),fun _=>⟨c,r,e1,by omega⟩,oN e4⟩
theorem pJ (k:Nat):TL.tl (noS k)=noL k:=rfl
theorem B5 {t:Tm} (h:pH t) {d:Nat} (hd:d=97\/d=111):Wd d (TL.tl (tmS t))/\(TL.tl (tmS t)).length<=23:=by
 obtain⟨h1,h2,_⟩:=B4 h hd
 unfold tmS
 rw[TL.tl_append,pJ]
 refine⟨Wd.no (by omega) h1 _,?_⟩
 rw[List.length_append,qT]
 have:=h.t5
 omega
theorem HW {t:Tm} (h:pH t):dg t=some (tmS t):=by
 have k5:t.a.toNat<=5:=by have:=h.t5;omega
 have mu:T.mI ("no " :Str) t.a=some (noS t.a.toNat):=by
  have:=Ge k5
  rwa[Int.toNat_of_nonneg h.t0] at this
 have l0:(TL.tl (noS t.a.toNat)).length<=15:=by rw[pJ,qT];omega
 obtain⟨_,_,_,_,_,_,nl⟩:=B3 h.b0 h.b98
 unfold dg tmS bsS
 rw[aL,show T.un3 t=some (t.a,t.b,t.c) from rfl,Option.bind_some]
 simp only[aq,T.i5,bM]
 rw[mu]
 by_cases e:t.b=("sizes" :Str)
 ·rw[decide_eq_true e,if_pos rfl,if_pos e,aL,show T.wN t.c=some (num t.c) from if_pos (zS h.b0 (by have:=h.b98;omega)),aq,oM (by rw[l9];show _+6<=_;omega),aq,oM (by rw[TL.tl_append,List.length_append,l9];show _+6+_<=_;omega),tv]
  show some _=some _
  congr 1
  refine TL.ext_tl ?_
  simp only[TL.tl_append,List.append_assoc]
 ·have lb:(TL.tl t.b).length<=8:=by
   rcases h.kind with q|q|q
   ·rw[q];decide
   ·rw[q];decide
   ·exact absurd q e
  rw[decide_eq_false e,if_neg Bool.false_ne_true,if_neg e,Option.bind_some,ie,aq,oM (by omega)];rfl
abbrev Alt:=List (List Tm)
def qi (a:Alt):Prop:=(1<=a.length/\a.length<=3)/\ ∀ts∈a,(1<=ts.length/\ts.length<=3)/\ ∀t∈ts,pH t
def nK (ts:List Tm):Str:=Txt.join " and " (ts.map tmS)
def B6 (a:Alt):Str:=Txt.join " or " (a.map nK)
theorem wC {S:List Nat} (B:Nat): ∀(ls:List (List Nat)),(∀l∈ls,l.length<=B)->(TL.joinL S ls).length<=ls.length*(B+S.length)
 | [],_=>by show 0<=_;omega
 | [a],h=>by
  have:=h a List.mem_cons_self
  show a.length<=1*(B+S.length);omega
 |a::b::r,h=>by
  have h1:=h a List.mem_cons_self
  have h2:=wC (S:=S) B (b::r) fun l hl=>h l (List.mem_cons_of_mem _ hl)
  show (a++(S++TL.joinL S (b::r))).length<=(r.length+1+1)*(B+S.length)
  rw[List.length_append,List.length_append]
  rw[show (b::r).length=r.length+1 from rfl] at h2
  rw[Nat.add_mul (r.length+1) 1]
  omega
theorem B7 {B:Nat}: ∀(ws:List Str),(∀w∈ws,w.length<=B)->(ws.map (·.length)).sum<=ws.length*B
 | [],_=>by show 0<=_;omega
 |a::r,h=>by
  have h1:=h a List.mem_cons_self
  have h2:=B7 r fun w hw=>h w (List.mem_cons_of_mem _ hw)
  rw[List.map_cons,List.sum_cons,List.length_cons,Nat.add_mul]
  omega
theorem yX {y:Str} {B n:Nat} {ws:List Str} (h: ∀w∈ws,w.length<=B) (hn:ws.length<=n) (hy:n*(B+y.length)<=16000):T.join y ws=some (Txt.join y ws)/\(Txt.join y ws).length<=n*(B+y.length):=by
 have m1:ws.length*(B+y.length)<=n*(B+y.length):=Nat.mul_le_mul_right _ hn
 constructor
 ·unfold T.join
  have:=B7 ws h
  rw[if_pos]
  rw[Nat.mul_add] at m1
  omega
 ·rw[ltl,TL.join_eq,TL.tl_join]
  have:=wC (S:=TL.tl y) B (ws.map TL.tl) fun l hl=>by
   obtain⟨w,hw,rfl⟩:=List.mem_map.mp hl
   have:=h w hw
   rwa[ltl] at this
  rw[List.length_map,←ltl] at this
  omega
theorem ve {ts:List Tm} (h1:1<=ts.length) (h3:ts.length<=3) (h: ∀t∈ts,pH t):Wd 111 (TL.tl (nK ts))/\(nK ts).length<=84/\T.join (" and " :Str) (ts.map tmS)=some (nK ts)/\Txt.split (nK ts) " and " =ts.map tmS:=by
 have ne:ts≠[]:=fun e=>by rw[e] at h1;exact absurd h1 (by decide)
 have b:=yX (y:=(" and " :Str)) (B:=23) (n:=3) (ws:=ts.map tmS) (fun w hw=>by
  obtain⟨t,ht,rfl⟩:=List.mem_map.mp hw
  rw[ltl];exact (B5 (h t ht) (.inl rfl)).2) (by rw[List.length_map];exact h3) (by decide)
 refine⟨?_,b.2,b.1,?_⟩
 ·unfold nK
  rw[TL.join_eq,TL.tl_join]
  refine Wd.and (by decide) (by simpa using ne) fun p hp=> ?_
  obtain⟨w,hw,rfl⟩:=List.mem_map.mp hp
  obtain⟨t,ht,rfl⟩:=List.mem_map.mp hw
  exact (B5 (h t ht) (.inr rfl)).1
 ·exact tP (d:=97) (S:=[110,100,32]) rfl (by decide+kernel) (by simpa using ne) fun p hp=>by
   obtain⟨t,ht,rfl⟩:=List.mem_map.mp hp
   exact (B5 (h t ht) (.inl rfl)).1.2
theorem HX {a:Alt} (h:qi a):ck a=some (B6 a)/\(B6 a).length<=264/\Txt.split (B6 a) " or " =a.map nK:=by
 have:=big
 obtain⟨⟨h1,h3⟩,h⟩:=h
 have ne:a≠[]:=fun e=>by rw[e] at h1;exact absurd h1 (by decide)
 have b:=yX (y:=(" or " :Str)) (B:=84) (n:=3) (ws:=a.map nK) (fun w hw=>by
  obtain⟨t,ht,rfl⟩:=List.mem_map.mp hw
  exact (ve (h t ht).1.1 (h t ht).1.2 (h t ht).2).2.1) (by rw[List.length_map];exact h3) (by decide)
 refine⟨?_,b.2,?_⟩
 ·unfold ck
  rw[mr nK (by omega) fun ts hts=>by
   rw[mr tmS (by have:=(h ts hts).1.2;omega) fun t ht=>by rw[aL,HW ((h ts hts).2 t ht)],aq,(ve (h ts hts).1.1 (h ts hts).1.2 (h ts hts).2).2.2.1],aq,b.1]
  rfl
 ·exact tP (d:=111) (S:=[114,32]) rfl (by decide+kernel) (by simpa using ne) fun p hp=>by
   obtain⟨t,ht,rfl⟩:=List.mem_map.mp hp
   exact (ve (h t ht).1.1 (h t ht).1.2 (h t ht).2).1.2
abbrev cP:=T3 Str Int Str
def Ans (k:Nat) (r:Fv) (f:cP->cP->Bool):Prop:= ∀n,k<=n-> ∀x y,TC n r x y=some (f x y)
theorem Ans.le {k k':Nat} {r:Fv} {f:cP->cP->Bool} (h:Ans k r f) (l:k<=k'):Ans k' r f:=fun n hn=>h n (Nat.le_trans l hn)
theorem qU {F:FnT} {f:List D->Option FR} {r:List (FnT×(List D->Option FR))}:lA F ((F,f)::r)=some f:=by
 unfold lA;rw[if_pos rfl]
theorem mE {F G:FnT} {f:List D->Option FR} {r:List (FnT×(List D->Option FR))} (h:F.qual≠G.qual):lA F ((G,f)::r)=lA F r:=by
 conv=>lhs;unfold lA
 rw[if_neg fun e=>h (by rw[e])]
theorem Gf (x y:cP):D.evs [en x,en y]=true:=rfl
theorem vf {n:Nat} {x y:cP} {gl:List (Str×(List D->Option FR))} {cl:List (FnT×(List D->Option FR))} {F:FnT} {d:D} {f:List D->Option FR} {b:Bool} (e:FC (n+1)=fcD gl cl) (hp:lA F cl=some f) (h:f [en x,en y,d]=some (.ok (.bl b) [])):TC (n+1) ⟨.clo F d⟩ x y=some b:=by
 refine Br ?_
 show (FC (n+1)) (.clo F d::[en x,en y])=_
 rw[e]
 show (if D.evs [en x,en y]=true then (lA F cl).bind fun f=>(f ([en x,en y]++[d])).bind n6 else none)=_
 rw[if_pos (Gf x y),hp,Option.bind_some]
 show (f [en x,en y,d]).bind n6=_
 rw[h];rfl
theorem yY {n:Nat} {x y:cP} {gl:List (Str×(List D->Option FR))} {cl:List (FnT×(List D->Option FR))} {z:Str} {f:List D->Option FR} {b:Bool} (e:FC (n+1)=fcD gl cl) (hp:gl.lookup z=some f) (h:f [en x,en y]=some (.ok (.bl b) [])):TC (n+1) ⟨.glf z⟩ x y=some b:=by
 refine Br ?_
 show (FC (n+1)) (.glf z::[en x,en y])=_
 rw[e]
 show (gl.lookup z).bind (fun f=>(f [en x,en y]).bind n6)=_
 rw[hp,Option.bind_some,h];rfl
def dst (x y:cP):Int:=if x.b -y.b<0 then -(x.b -y.b) else x.b -y.b
theorem HY (x y:cP):tM x y=some (dst x y):=by
 unfold tM
 simp only[Option.map_some,aq,T.og,aL]
 rfl
def DY (x y:cP):Bool:=decide (x.a=("O" :Str))||(decide (y.a=("AB" :Str))||decide (x.a=y.a))
def zT (x y:cP):Bool:=(TL.tl x.c).all fun c=> !decide (c∈TL.tl y.c)
def szB (k:Int) (x y:cP):Bool:=decide (dst x y<=k)
theorem DZ (x y:cP):jO x y=some (DY x y):=by
 unfold jO DY
 simp only[Option.map_some,aq,T.i5,rC]
 cases decide (x.a=("O" :Str)) <;> cases decide (y.a=("AB" :Str)) <;> rfl
theorem mf {A ρ:Type} {step:Unit->A->Option (TO Unit Unit ρ)} {p:A->Bool} {r:ρ}: ∀(l:List A),(∀c∈l,step () c=some (if p c=true then .nx () else .ret r))->eL step l ()=some (if l.all p=true then .fin () else .ret r)
 | [],_=>rfl
 |c::l,h=>by
  show (step () c).bind _=_
  rw[h c List.mem_cons_self]
  by_cases q:p c=true
  ·rw[if_pos q,List.all_cons,q,Bool.true_and]
   exact mf l fun c hc=>h c (List.mem_cons_of_mem _ hc)
  ·rw[if_neg q,List.all_cons,Bool.eq_false_iff.mpr q];rfl
theorem Gg (x y:cP):lh x y=some (zT x y):=by
 unfold lh zT
 rw[Option.map_some,aL,T.ux,cM]
 show tF0 ((eL (gW y) ((TL.tl x.c).map fun c=>(⟨#[c]⟩:Str)) ()).bind _)=_
 rw[yU (p:=fun c=> !decide (c∈TL.tl y.c)) (r:=⟨false⟩) (TL.tl x.c) fun c hc=>by
  unfold gW
  rw[Option.map_some,aq,show T.mH false ⟨#[c]⟩ y.c=some (decide (c∈TL.tl y.c)) from rfl,bM]
  cases decide (c∈TL.tl y.c) <;> rfl]
 cases (TL.tl x.c).all fun c=> !decide (c∈TL.tl y.c) <;> rfl
theorem vg {A:Type} {p q:A->Bool}: ∀{l:List A},(∀a∈l,p a=q a)->l.all p=l.all q
 | [],_=>rfl
 |a::l,h=>by
  rw[List.all_cons,List.all_cons,h a List.mem_cons_self,vg fun b hb=>h b (List.mem_cons_of_mem _ hb)]
theorem xW:Ans 1 ⟨.glf "by_groups"⟩ DY:=fun n hn x y=>by
 obtain⟨m,rfl⟩:=Nat.exists_eq_add_of_le' hn
 exact yY rfl rfl (wx x y _ (DZ x y))
theorem zU:Ans 1 ⟨.glf "by_marks"⟩ zT:=fun n hn x y=>by
 obtain⟨m,rfl⟩:=Nat.exists_eq_add_of_le' hn
 exact yY rfl rfl (xR x y _ (Gg x y))
theorem zV (k:Int):Ans 1 ⟨.clo bg (en k)⟩ (szB k):=fun n hn x y=>by
 obtain⟨m,rfl⟩:=Nat.exists_eq_add_of_le' hn
 refine vf (f:=eX (FC m)) rfl qU (qA (HC m) x y k _ ?_)
 unfold i7 szB
 rw[aq,HY,aq,T.xp];rfl
theorem D1 {k:Nat} {r:Fv} {f:cP->cP->Bool} (h:Ans k r f):Ans (k+1) ⟨.clo bh (en r)⟩ (fun x y=> !f x y):=fun n hn x y=>by
 obtain⟨m,rfl⟩:=Nat.exists_eq_add_of_le' (Nat.le_trans (Nat.le_add_left 1 k) hn)
 refine vf (f:=eY (FC m)) rfl ((mE (by decide+kernel)).trans qU) (qB (HC m) x y r _ ?_)
 unfold i8
 rw[kH,h m (by omega) x y];rfl
theorem D3 {A:Type} {k:Nat} {g:A->Fv} {f:A->cP->cP->Bool} {ts:List A} (h: ∀t∈ts,Ans k (g t) (f t)):Ans (k+1) ⟨.clo bD (en (ts.map g))⟩ (fun x y=>ts.all fun t=>f t x y):=fun n hn x y=>by
 obtain⟨m,rfl⟩:=Nat.exists_eq_add_of_le' (Nat.le_trans (Nat.le_add_left 1 k) hn)
 refine vf (f:=fH (FC m)) rfl ((mE (by decide+kernel)).trans ((mE (by decide+kernel)).trans qU)) (sx (HC m) x y (ts.map g) _ ?_)
 unfold jC
 rw[cM,mf (p:=fun r=>((TC m r x y).getD false)) (r:=⟨false⟩) (ts.map g) fun c hc=>by
  obtain⟨t,ht,rfl⟩:=List.mem_map.mp hc
  unfold fh
  rw[kH,h t ht m (by omega) x y]
  show f6 (some (!f t x y)) _ _ _=_
  rw[bM,Option.getD_some]
  cases f t x y <;> rfl]
 have e:(ts.map g).all (fun r=>(TC m r x y).getD false)=ts.all fun t=>f t x y:=by
  rw[List.all_map]
  refine vg fun t ht=> ?_
  show (TC m (g t) x y).getD false=_
  rw[h t ht m (by omega) x y];rfl
 rw[e]
 show _=some (ts.all fun t=>f t x y)
 cases ts.all fun t=>f t x y <;> rfl
theorem D4 {A:Type} {k:Nat} {g:A->Fv} {f:A->cP->cP->Bool} {ts:List A} (h: ∀t∈ts,Ans k (g t) (f t)):Ans (k+1) ⟨.clo bj (en (ts.map g))⟩ (fun x y=>ts.any fun t=>f t x y):=fun n hn x y=>by
 obtain⟨m,rfl⟩:=Nat.exists_eq_add_of_le' (Nat.le_trans (Nat.le_add_left 1 k) hn)
 refine vf (f:=fb (FC m)) rfl ((mE (by decide+kernel)).trans ((mE (by decide+kernel)).trans ((mE (by decide+kernel)).trans qU))) (qC (HC m) x y (ts.map g) _ ?_)
 unfold i9
 rw[cM,mf (p:=fun r=> !((TC m r x y).getD false)) (r:=⟨true⟩) (ts.map g) fun c hc=>by
  obtain⟨t,ht,rfl⟩:=List.mem_map.mp hc
  unfold eE
  rw[kH,h t ht m (by omega) x y]
  rw[bM,Option.getD_some]
  cases f t x y <;> rfl]
 have e:(ts.map g).all (fun r=> !(TC m r x y).getD false)= !ts.any fun t=>f t x y:=by
  rw[List.all_map,List.not_any_eq_all_not]
  refine vg fun t ht=> ?_
  show (!(TC m (g t) x y).getD false)=_
  rw[h t ht m (by omega) x y];rfl
 rw[e]
 show _=some (ts.any fun t=>f t x y)
 cases ts.any fun t=>f t x y <;> rfl
def bR (t:Tm):Fv:=if t.b=("groups" :Str) then ⟨.glf "by_groups"⟩ else if t.b=("marks" :Str) then ⟨.glf "by_marks"⟩ else ⟨.clo bg (en t.c)⟩
def bB (t:Tm):cP->cP->Bool:=if t.b=("groups" :Str) then DY else if t.b=("marks" :Str) then zT else szB t.c
def tR (t:Tm):Fv:=if t.a%2=1 then ⟨.clo bh (en (bR t))⟩ else bR t
def tB (t:Tm) (x y:cP):Bool:=if t.a%2=1 then !bB t x y else bB t x y
def aR (ts:List Tm):Fv:=⟨.clo bD (en (ts.map tR))⟩
def oR (a:Alt):Fv:=⟨.clo bj (en (a.map aR))⟩
def oB (a:Alt) (x y:cP):Bool:=a.any fun ts=>ts.all fun t=>tB t x y
theorem EB (t:Tm):Ans 1 (bR t) (bB t):=by
 unfold bR bB
 by_cases e:t.b=("groups" :Str)
 ·rw[if_pos e,if_pos e];exact xW
 ·rw[if_neg e,if_neg e]
  by_cases e:t.b=("marks" :Str)
  ·rw[if_pos e,if_pos e];exact zU
  ·rw[if_neg e,if_neg e];exact zV t.c
theorem HZ (t:Tm):Ans 2 (tR t) (tB t):=by
 unfold tR
 rw[show tB t=fun x y=>if t.a%2=1 then !bB t x y else bB t x y from rfl]
 by_cases e:t.a%2=1
 ·simp only[if_pos e];exact D1 (EB t)
 ·simp only[if_neg e];exact (EB t).le (by decide)
theorem H6 (a:Alt):Ans 4 (oR a) (oB a):=D4 fun ts _=>D3 fun t _=>HZ t
theorem JB {i:Int} (h:0<=i) (h2:i<=98):fX (num i)=some i:=by
 have:=big
 obtain⟨w,d⟩:=DW h (show i<=1000001 by omega)
 obtain⟨h1,h2⟩:=Bool.and_eq_true_iff.mp w
 obtain⟨h3,h4⟩:=Bool.and_eq_true_iff.mp h2
 have l:=of_decide_eq_true (Bool.and_eq_true_iff.mp h3).2
 unfold fX
 rw[aL,JA (by omega),chI,aq]
 change tF0 (f6 (orB (jS (some (xV (num i) 12))) _) _ _ _)=_
 have cond:orB (jS (some (xV (num i) 12))) (m8 (T.gtI ((num i).length:Int) 1) (b2 T.eqA (b2 T.atS (some (num i)) (some (0:Int))) (some ("0" :Str))))=some false:=by
  obtain⟨c,r,e⟩:=headOf h3
  rw[h3,zq,rC,Bool.not_true,if_neg Bool.false_ne_true,T.Bu,j9,aq,at0 (by omega) e,aq,T.i5,c0]
  rw[e] at h4
  have h4:(!(decide (c=48)&& !decide (r=[])))=true:=h4
  rw[Bool.not_eq_true'] at h4
  have:decide ((1:Int)<((num i).length:Int))= !decide (r=[]):=by
   rw[ltl,e]
   cases r with
   |nil=>rfl
   |cons a r=>rw[decide_eq_true (by simp only[List.length_cons];omega)];rfl
  rw[this]
  cases q:decide (r=[]) with
  |true=>rfl
  |false=>
   rw[q] at h4
   rw[Bool.not_false,Bool.and_true] at h4
   rw[h4];rfl
 rw[cond,bM,if_neg Bool.false_ne_true,Option.bind_some,ie,aL,T.ux,cM]
 change tF0 ((eL (cg (num i)) ((TL.tl (num i)).map fun c=>(⟨#[c]⟩:Str)) ()).bind _)=_
 have lp: ∀l:List Nat,l.all dig=true->eL (cg (num i)) (l.map fun c=>(⟨#[c]⟩:Str)) ()=some (.fin ()):=fun l=>by
  induction l with
  |nil=>intro _;rfl
  |cons c l ih=>
   intro q
   obtain⟨q1,q2⟩:=Bool.and_eq_true_iff.mp (List.all_cons▸q)
   show (cg (num i) () ⟨#[c]⟩).bind _=_
   rw[show cg (num i) () ⟨#[c]⟩=some (.nx ()) by
    unfold cg
    rw[aq,HU,q1,bM];rfl]
   exact ih q2
 rw[lp _ h1,Option.bind_some,rK,aL,intD h1 h3,d];rfl
theorem xX {i:Int} (h:0<=i):Txt.partition (("sizes " :Str)++num i) " " =(("sizes" :Str),(" " :Str),num i):=by
 have:=TL.partition_app (y:=(" " :Str)) (s:=32) (S:=[]) rfl (a:=("sizes" :Str)) (b:=num i) (by decide)
 rw[show ("sizes" :Str)++(" " :Str)=("sizes " :Str) from by decide+kernel] at this
 exact this
theorem H7 {t:Tm} (h:pH t):fY (bsS t)=some (bR t):=by
 have:=big
 obtain⟨_,lb,_⟩:=B4 h (.inl rfl)
 unfold fY
 simp only[aq,T.i5,bM]
 rcases h.kind with e|e|e
 ·have:bsS t=("groups" :Str):=by unfold bsS;rw[e,if_neg (by decide+kernel)]
  rw[this,decide_eq_true rfl,if_pos rfl]
  unfold bR
  rw[if_pos e];rfl
 ·have:bsS t=("marks" :Str):=by unfold bsS;rw[e,if_neg (by decide+kernel)]
  rw[this,decide_eq_false (by decide+kernel),if_neg Bool.false_ne_true,Option.bind_some,ie,decide_eq_true rfl,if_pos rfl]
  unfold bR
  rw[if_neg (by rw[e];decide+kernel),if_pos e];rfl
 ·have eb:bsS t=("sizes " :Str)++num t.c:=by unfold bsS;rw[if_pos e]
  have n1:bsS t≠("groups" :Str):=fun q=>by
   have:=congrArg TL.tl (eb.symm.trans q)
   rw[TL.tl_append,l9] at this
   have:=congrArg (fun l=>l[0]?) this
   simp at this
   exact absurd this (by decide)
  have n2:bsS t≠("marks" :Str):=fun q=>by
   have:=congrArg TL.tl (eb.symm.trans q)
   rw[TL.tl_append,l9] at this
   have:=congrArg (fun l=>l[0]?) this
   simp at this
   exact absurd this (by decide)
  rw[decide_eq_false n1,if_neg Bool.false_ne_true,Option.bind_some,ie,decide_eq_false n2,if_neg Bool.false_ne_true,Option.bind_some,ie]
  have pt:T.part (bsS t) (" " :Str)=some ⟨("sizes" :Str),(" " :Str),num t.c⟩:=by
   unfold T.part
   rw[if_pos ⟨by decide+kernel,by rw[ltl];omega⟩,eb,xX h.b0]
  rw[pt,aL,show T.un3 (⟨("sizes" :Str),(" " :Str),num t.c⟩:T3 Str Str Str)=some (("sizes" :Str),(" " :Str),num t.c) from rfl,Option.bind_some,aL,JB h.b0 h.b98]
  simp only[T.Bv,T.Bu,aq,aL]
  rw[decide_true,rC,Bool.not_true,if_neg Bool.false_ne_true,decide_eq_false (by have:=h.b98;omega),bM,if_neg Bool.false_ne_true,Option.bind_some,ie]
  unfold bR
  rw[if_neg (by rw[e];decide+kernel),if_neg (by rw[e];decide+kernel)];rfl
theorem starts_pre (x y:Str):Txt.startswith x y=TL.pre (TL.tl y) (TL.tl x):=by
 unfold Txt.startswith TL.pre
 rw[PySem.StrLaws.subAt_eq,List.drop_zero,ltl,ltl]
 show (decide (0+(TL.tl y).length<=(TL.tl x).length)&&((TL.tl x).take (TL.tl y).length==TL.tl y))=_
 by_cases h:(TL.tl y).length<=(TL.tl x).length
 ·rw[decide_eq_true (by omega),Bool.true_and]
 ·rw[decide_eq_false (by omega),Bool.false_and]
  symm
  rw[beq_eq_false_iff_ne]
  intro q
  have:=congrArg List.length q
  rw[List.length_take] at this
  omega
theorem tQ {b:Str} (h: ∃c r,TL.tl b=c::r/\c≠110): ∀k,Txt.startswith (noS k++b) "no " =decide (0<k)
 |0=>by
  obtain⟨c,r,e,n⟩:=h
  rw[starts_pre,TL.tl_append,pJ]
  show TL.pre [110,111,32] ([]++TL.tl b)=false
  rw[List.nil_append,e]
  exact TL.pre_of_head _ _ n
 |k+1=>by
  rw[starts_pre,TL.tl_append,pJ]
  rfl
theorem Gh (b:Str) (k:Nat) (l:(noS (k+1)++b).length<=2000):T.cutS (noS (k+1)++b) (some 3) none=some (noS k++b):=by
 have:=big
 have e:TL.tl (noS (k+1)++b)=110::111::32::(noL k++TL.tl b):=by rw[TL.tl_append,pJ];rfl
 have le:(noS (k+1)++b).length=(noL k++TL.tl b).length+3:=by rw[ltl,e];rfl
 have i1:HT.sIx (noS (k+1)++b).length 0 (some ((3:Nat):Int))=min 3 (noS (k+1)++b).length:=HT.sIx_nat _ _ _
 unfold T.cutS
 rw[if_pos (by omega)]
 congr 1
 refine TL.ext_tl ?_
 show (((noS (k+1)++b).cps.toList.drop (HT.sIx (noS (k+1)++b).length 0 (some ((3:Nat):Int)))).take ((noS (k+1)++b).length -HT.sIx (noS (k+1)++b).length 0 (some ((3:Nat):Int))))=_
 rw[i1,show (noS (k+1)++b).cps.toList=110::111::32::(noL k++TL.tl b) from e,le,show min 3 ((noL k++TL.tl b).length+3)=3 by omega]
 show (noL k++TL.tl b).take ((noL k++TL.tl b).length+3 -3)=_
 rw[Nat.add_sub_cancel,List.take_length,TL.tl_append];rfl
theorem B9 {t:Tm} (h:pH t):cf (tmS t)=some (tR t):=by
 have:=big
 have k5:t.a.toNat<=5:=by have:=h.t5;omega
 obtain⟨_,lb,hb⟩:=B4 h (.inl rfl)
 unfold cf
 rw[Option.bind_some]
 have L:=Dq (tst:=fun y2:Str×Int=>m8 (b2 T.ltI (some y2.2) (some (5:Int))) (b2 T.starts (some y2.1) (some ("no " :Str)))) (step:=eV) (fun y=> ∃i:Nat,i<=t.a.toNat/\y=(noS (t.a.toNat -i)++bsS t,(i:Int))) (fun y=>t.a.toNat -y.2.toNat) (fun y ⟨i,hi,ey⟩=>by
  subst ey
  have ts:m8 (b2 T.ltI (some (i:Int)) (some (5:Int))) (b2 T.starts (some (noS (t.a.toNat -i)++bsS t)) (some ("no " :Str)))=some (decide (i<t.a.toNat)):=by
   rw[aq,T.Bt,aq,show T.starts (noS (t.a.toNat -i)++bsS t) "no " =some (Txt.startswith (noS (t.a.toNat -i)++bsS t) "no ") from rfl,tQ hb,j9]
   by_cases z:i<t.a.toNat
   ·rw[decide_eq_true (show ((i:Nat):Int)<5 by omega),if_pos rfl,decide_eq_true z,decide_eq_true (by omega)]
   ·rw[decide_eq_false z,decide_eq_false (show ¬0<t.a.toNat -i by omega)]
    cases decide (((i:Nat):Int)<5) <;> rfl
  by_cases z:i<t.a.toNat
  ·refine .inr ⟨by rw[decide_eq_true z] at ts;exact ts,(noS (t.a.toNat -(i+1))++bsS t,((i+1:Nat):Int)),.inl ?_,⟨i+1,z,rfl⟩,?_⟩
   ·unfold eV
    obtain⟨j,hj⟩: ∃j,t.a.toNat -i=j+1:=⟨t.a.toNat -i -1,by omega⟩
    show ((A9 T.cutS (some (noS (t.a.toNat -i)++bsS t)) (b1 T.toI (some (3:Int))) (some none)).bind _)=_
    rw[aL,T.xq,tn,hj,Gh _ _ (by rw[ltl,TL.tl_append,List.length_append,pJ,qT];omega),Option.bind_some,aq,T.fC,Option.bind_some,show t.a.toNat -(i+1)=j by omega]
    rfl
   ·show t.a.toNat -(((i+1:Nat):Int)).toNat<t.a.toNat -((i:Nat):Int).toNat
    omega
  ·exact .inl (by rw[decide_eq_false z] at ts;exact ts)) (b0:=(tmS t,(0:Int))) ⟨0,Nat.zero_le _,by unfold tmS;rfl⟩
 obtain⟨y,e1,⟨i,hi,rfl⟩,e2⟩:=L
 rw[Bk e1]
 have ti:i=t.a.toNat:=by
  have e2:m8 (b2 T.ltI (some (i:Int)) (some (5:Int))) (b2 T.starts (some (noS (t.a.toNat -i)++bsS t)) (some ("no " :Str)))=some false:=e2
  rw[aq,T.Bt,aq,show T.starts (noS (t.a.toNat -i)++bsS t) "no " =some (Txt.startswith (noS (t.a.toNat -i)++bsS t) "no ") from rfl,tQ hb,j9] at e2
  by_cases z:i<t.a.toNat
  ·rw[decide_eq_true (show ((i:Nat):Int)<5 by omega),if_pos rfl,decide_eq_true (by omega)] at e2
   cases e2
  ·omega
 have e0:noS (t.a.toNat -i)++bsS t=bsS t:=by
  rw[ti,Nat.sub_self]
  refine TL.ext_tl ?_
  rw[TL.tl_append];rfl
 have ei:((i:Nat):Int)=t.a:=by rw[ti,Int.toNat_of_nonneg h.t0]
 show tF0 (f6 (b2 T.eqA (b2 T.cj (some ((i:Nat):Int)) (some (2:Int))) (some (1:Int))) (cF (b1 nH (b1 fY (some (noS (t.a.toNat -i)++bsS t)))) fun r=>⟨r⟩) (some (.nx ())) fun _=>cF (b1 fY (some (noS (t.a.toNat -i)++bsS t))) fun r=>(⟨r⟩:R0 Fv))=_
 rw[e0,ei,aL,H7 h,aq,T.b9 (by decide),aq,T.i5,bM]
 unfold tR
 by_cases q:t.a%2=1
 ·rw[decide_eq_true q,if_pos rfl,if_pos q];rfl
 ·rw[decide_eq_false q,if_neg Bool.false_ne_true,if_neg q];rfl
theorem H8 {a:Alt} (h:qi a):jr (B6 a)=some (oR a):=by
 have:=big
 obtain⟨_,hl,hs⟩:=HX h
 obtain⟨⟨h1,h3⟩,h⟩:=h
 unfold jr
 rw[Option.bind_some,aq]
 have sp:T.split (B6 a) (" or " :Str)=some (a.map nK):=by
  unfold T.split
  rw[if_pos ⟨by decide+kernel,by omega⟩,hs]
 rw[sp,cM]
 have lp: ∀(l:List (List Tm)) (acc:List Fv),(∀ts∈l,ts∈a)->acc.length+l.length<=100->eL dv (l.map nK) acc=some (.fin (acc++l.map aR)):=fun l=>by
  induction l with
  |nil=>intro acc _ _;rw[List.map_nil,List.map_nil,List.append_nil];rfl
  |cons ts l ih=>
   intro acc hm hn
   rw[List.length_cons] at hn
   obtain⟨⟨t1,t3⟩,ht⟩:=h ts (hm ts List.mem_cons_self)
   obtain⟨_,al,_,as⟩:=ve t1 t3 ht
   show (dv acc (nK ts)).bind _=_
   have st:dv acc (nK ts)=some (.nx (acc++[aR ts])):=by
    unfold dv
    rw[aq,show T.split (nK ts) (" and " :Str)=some (ts.map tmS) by
     unfold T.split
     rw[if_pos ⟨by decide+kernel,by omega⟩,as]]
    have lc:tlc (some (ts.map tmS)) (fun c6:Str=>some true) (fun c6:Str=>b1 cf (some c6))=some (ts.map tR):=by
     have e:=mr (xs:=ts.map tmS) (re:=fun c6:Str=>b1 cf (some c6)) (fun w=>(cf w).getD ⟨.non⟩) (by rw[List.length_map];omega) fun w hw=>by
      obtain⟨t,hq,rfl⟩:=List.mem_map.mp hw
      rw[aL,B9 (ht t hq)];rfl
     rw[e,List.map_map]
     congr 1
     refine List.map_congr_left fun t hw=> ?_
     show (cf (tmS t)).getD _=_
     rw[B9 (ht t hw)];rfl
    rw[lc,aL,show pD (ts.map tR)=some (aR ts) from rfl,T.Er,T.Bx (by omega),Option.bind_some]
   rw[st]
   show eL dv (l.map nK) (acc++[aR ts])=_
   rw[ih _ (fun ts hts=>hm ts (List.mem_cons_of_mem _ hts)) (by rw[List.length_append,List.length_singleton];omega),List.append_assoc]
   rfl
 rw[lp a [] (fun _ h=>h) (by simp;omega)]
 rfl
theorem wD (a:Int) {b:Int} (h:0<b):0<=a%b/\a%b<b:=⟨Int.emod_nonneg a (by omega),Int.emod_lt_of_pos a h⟩
theorem Gj {n:Int} (h:0<=n): ∃t,dy n=some t/\pH t:=by
 obtain⟨a0,a1⟩:=wD (n/6) (show (0:Int)<3 by decide)
 obtain⟨b0,b1⟩:=wD (n/1782) (show (0:Int)<2 by decide)
 obtain⟨c0,c1⟩:=wD n (show (0:Int)<6 by decide)
 obtain⟨d0,d1⟩:=wD (n/18) (show (0:Int)<99 by decide)
 obtain⟨e0,e1⟩:=wD (n/18) (show (0:Int)<30 by decide)
 unfold dy
 simp only[T.oh,T.Bw,aq,T.jK (b:=6) (by decide) (by decide),T.jK (b:=18) (by decide) (by decide),T.jK (b:=1782) (by decide) (by decide),T.b9 (b:=3) (by decide),T.b9 (b:=99) (by decide),T.b9 (b:=30) (by decide),T.b9 (b:=2) (by decide),T.b9 (b:=6) (by decide),T.Ep]
 rw[T.qI a0 (by show n/6%3<3;omega),Option.bind_some,T.qI b0 (by show n/1782%2<2;omega),Option.bind_some,kH]
 have m1:[("groups" :Str),"marks","sizes"][(n/6%3).toNat]'(by simp;omega)∈[("groups" :Str),"marks","sizes"]:=List.getElem_mem _
 have m2:[n/18%99,n/18%30][(n/1782%2).toNat]'(by simp;omega)∈[n/18%99,n/18%30]:=List.getElem_mem _
 simp only[List.mem_cons,List.not_mem_nil,or_false] at m1 m2
 refine⟨_,rfl,c0,by show n%6<=5;omega,m1,?_,?_⟩
 ·show 0<=[n/18%99,n/18%30][(n/1782%2).toNat]'_
  rcases m2 with e|e <;> (rw[e];omega)
 ·show [n/18%99,n/18%30][(n/1782%2).toNat]'_<=98
  rcases m2 with e|e <;> (rw[e];omega)
theorem EC (c:Int): ∃a,bw c=some a/\qi a:=by
 have:=big
 obtain⟨a0,a1⟩:=wD (mL c 60) (show (0:Int)<3 by decide)
 unfold bw
 rw[Option.bind_some,aq (f:=bu),mD c 60 (by decide) (by decide),aq,T.b9 (by decide),aq,T.fC,Option.bind_some,aL,T.qM (by omega) (by omega),cM]
 generalize mL c 60%3=q at a0 a1
 obtain⟨a,e,h1,h2⟩:=Bz (step:=bF c (1+q)) (fun i (y:Alt)=>y.length=i/\ ∀ts∈y,(1<=ts.length/\ts.length<=3)/\ ∀t∈ts,pH t) (n:=(1+q).toNat) (b0:=[]) ⟨rfl,fun _ h=>nomatch h⟩ fun i hi y ⟨y1,y2⟩=>by
  have lk:T.atL [(3:Int),3,2] (1+q -1)=some (if q=2 then 2 else 3):=by
   have:q=0\/q=1\/q=2:=by omega
   rcases this with e|e|e <;> (subst e;rfl)
  have w2:(0:Int)<(if q=2 then 2 else 3):=by split <;> decide
  have w3:(if q=2 then (2:Int) else 3)<=3:=by split <;> decide
  obtain⟨r0,r1⟩:=wD (mL c (61+(i:Int))) w2
  have tt: ∀j:Int,0<=j->j<3-> ∃t,b1 dy (b2 bu (some c) (b2 T.cQ (b2 T.cQ (some (70:Int)) (b2 T.jD (some (3:Int)) (some (i:Int)))) (some j)))=some t/\pH t:=fun j j0 j1=>by
   rw[aq (f:=T.jD),T.oZ (a:=3) (by decide) (by decide),aq,T.fC,aq,T.fC,aq,mD _ _ (by omega) (by omega),aL]
   exact Gj (qh _ _)
  have tt': ∀j:Int,∃t:Tm,0<=j->j<3->b1 dy (b2 bu (some c) (b2 T.cQ (b2 T.cQ (some (70:Int)) (b2 T.jD (some (3:Int)) (some (i:Int)))) (some j)))=some t/\pH t:=fun j=>by
   by_cases z:0<=j/\j<3
   ·obtain⟨t,h⟩:=tt j z.1 z.2;exact⟨t,fun _ _=>h⟩
   ·exact⟨⟨0,"",0⟩,fun a b=>absurd ⟨a,b⟩ z⟩
  obtain⟨g,hg⟩:=Classical.axiomOfChoice tt'
  generalize hm:mL c (61+(i:Int))%(if q=2 then 2 else 3)=m at r0 r1
  refine⟨y++[((List.range (1+m).toNat).map fun j:Nat=>(j:Int)).map g],.inl ?_,by rw[List.length_append,y1];rfl,fun ts hts=> ?_⟩
  ·unfold bF
   simp only[T.oh,T.Bw,aq,T.og,lk]
   rw[T.fC,aq,mD _ _ (by omega) (by omega),aq,T.b9 w2,hm,aq,T.fC,Option.bind_some,aL,T.qM (by omega) (by omega)]
   have lc:=mr (xs:=(List.range (1+m).toNat).map fun j:Nat=>(j:Int)) (re:=fun c7:Int=>b1 dy (b2 bu (some c) (b2 T.cQ (b2 T.cQ (some (70:Int)) (b2 T.jD (some (3:Int)) (some (i:Int)))) (some c7)))) g (by simp;omega) fun j hj=>by
    obtain⟨k,hk,rfl⟩:=List.mem_map.mp hj
    have:=List.mem_range.mp hk
    exact (hg k (by omega) (by omega)).1
   simp only[aq] at lc
   rw[lc,T.Er,T.Bx (by omega),Option.bind_some]
  ·rcases List.mem_append.mp hts with z|z
   ·exact y2 ts z
   ·rw[List.mem_singleton.mp z]
    refine⟨⟨by simp;omega,by simp;omega⟩,fun t ht=> ?_⟩
    obtain⟨j,hj,rfl⟩:=List.mem_map.mp ht
    obtain⟨k,hk,rfl⟩:=List.mem_map.mp hj
    have:=List.mem_range.mp hk
    exact (hg k (by omega) (by omega)).2
 rw[e]
 exact⟨a,rfl,⟨by omega,by omega⟩,h2⟩
theorem tS {x:cP} (h:ja x):x.a=("O" :Str)\/x.a=("A" :Str)\/x.a=("B" :Str)\/x.a=("AB" :Str):=by
 have:=h.grp
 simpa only[List.mem_cons,List.not_mem_nil,or_false] using this
theorem Gk {a b:Str} (ha:a=("O" :Str)\/a=("A" :Str)\/a=("B" :Str)\/a=("AB" :Str)) (hb:b=("O" :Str)\/b=("A" :Str)\/b=("B" :Str)\/b=("AB" :Str)):
  decide (a++(" " :Str)++b∈[("O O" :Str),"O A","O B","O AB","A A","A AB","B B","B AB","AB AB"])=(decide (a=("O" :Str))||(decide (b=("AB" :Str))||decide (a=b))):=by
 rcases ha with rfl|rfl|rfl|rfl <;> rcases hb with rfl|rfl|rfl|rfl <;> decide+kernel
theorem Gn: ∀(l:List Nat),(∀c∈l,97<=c/\c<123)->So.ok (l.map fun c=>(⟨#[c]⟩:Str))=true:=fun l h=>by
 show (l.map fun c=>(⟨#[c]⟩:Str)).all PySem.PyData.strOk=true
 rw[List.all_map]
 refine List.all_eq_true.mpr fun c hc=> ?_
 exact Gb (x:=⟨#[c]⟩) fun d hd=>by
  have:d=c:=by simpa using (show d∈[c] from hd)
  rw[this];exact h c hc
theorem plainT {t:Tm} (ht:pH t) {x y:cP} (hx:ja x) (hy:ja y):fj t.b t.c x y=some (bB t x y):=by
 have:=big
 unfold fj bB
 simp only[Option.map_some,aq,T.i5,bM]
 by_cases e:t.b=("groups" :Str)
 ·rw[decide_eq_true e,if_pos rfl,if_pos e]
  simp only[T.oh]
  rw[T.rJ (by simp;omega),Option.bind_some]
  have gx:=yR hx.w
  have gy:=yR hy.w
  rw[oM (by rw[EA];show _+1<=_;omega),aq,oM (by rw[TL.tl_append,List.length_append,EA];show _+1+_<=_;omega),aq,T.Hy,Gk (tS hx) (tS hy)]
  rfl
 ·rw[decide_eq_false e,if_neg Bool.false_ne_true,if_neg e,Option.bind_some,ie]
  by_cases e2:t.b=("marks" :Str)
  ·rw[decide_eq_true e2,if_pos rfl,if_pos e2,aL,T.ux]
   have sg:T.sgs x.c=(TL.tl x.c).map fun c=>(⟨#[c]⟩:Str):=rfl
   have l:=hx.len
   rw[sg,Sw.xv (fun c:Str=>decide (c∈(TL.tl y.c).map fun c=>(⟨#[c]⟩:Str))) (by rw[List.length_map];omega) (fun c hc=>by
    obtain⟨d,hd,rfl⟩:=List.mem_map.mp hc
    show some (decide (d∈TL.tl y.c))=_
    congr 1
    rw[decide_eq_decide,List.mem_map]
    constructor
    ·intro h;exact⟨d,h,rfl⟩
    ·rintro⟨e,he,q⟩
     have:[e]=[d]:=congrArg TL.tl q
     injection this with q _
     rw[<-q];exact he),aq]
   have fl:(((TL.tl x.c).map fun c=>(⟨#[c]⟩:Str)).filter fun c=>decide (c∈(TL.tl y.c).map fun c=>(⟨#[c]⟩:Str)))=((TL.tl x.c).filter fun c=>decide (c∈TL.tl y.c)).map fun c=>(⟨#[c]⟩:Str):=by
    rw[List.filter_map]
    congr 1
    refine List.filter_congr fun d _=> ?_
    show decide _=decide _
    rw[decide_eq_decide,List.mem_map]
    constructor
    ·rintro⟨e,he,q⟩
     have:[e]=[d]:=congrArg TL.tl q
     injection this with q _
     rw[<-q];exact he
    ·intro h;exact⟨d,h,rfl⟩
   rw[fl,T.FV (Gn _ fun c hc=>hx.low c (List.mem_filter.mp hc).1) rfl]
   show some (@decide _ (So.dec _ _))=some (zT x y)
   congr 1
   unfold zT
   cases q:(TL.tl x.c).all fun c=> !decide (c∈TL.tl y.c) with
   |true=>
    refine @decide_eq_true _ (So.dec _ _) ?_
    rw[List.map_eq_nil_iff,List.filter_eq_nil_iff]
    intro c hc
    have:=List.all_eq_true.mp q c hc
    simpa using this
   |false=>
    refine @decide_eq_false _ (So.dec _ _) fun z=> ?_
    rw[List.map_eq_nil_iff,List.filter_eq_nil_iff] at z
    rw[List.all_eq_true.mpr fun c hc=>by have:=z c hc;simpa using this] at q
    cases q
  ·rw[decide_eq_false e2,if_neg Bool.false_ne_true,if_neg e2,Option.bind_some,ie]
   simp only[T.og,aq,T.xp,j9]
   have:(if decide (x.b -y.b<=t.c)=true then some (decide (y.b -x.b<=t.c)) else some false)=some (szB t.c x y):=by
    unfold szB dst
    by_cases a:x.b -y.b<0
    ·rw[if_pos a]
     by_cases b:x.b -y.b<=t.c
     ·rw[decide_eq_true b,if_pos rfl]
      congr 1
      rw[decide_eq_decide];omega
     ·have:=ht.b0
      omega
    ·rw[if_neg a]
     by_cases b:x.b -y.b<=t.c
     ·rw[decide_eq_true b,if_pos rfl,decide_eq_true (by omega)]
     ·rw[decide_eq_false b,if_neg Bool.false_ne_true]
   rw[this];rfl
theorem H9 {a:Alt} (h:qi a) {x y:cP} (hx:ja x) (hy:ja y):iX a x y=some (oB a x y):=by
 unfold iX oB
 have inn: ∀(ts:List Tm) (g:Bool),(∀t∈ts,pH t)->eL (cO x y) (ts.map fun t=>(t.a,t.b,t.c)) g=some (.fin (g&&ts.all fun t=>tB t x y)):=fun ts=>by
  induction ts with
  |nil=>intro g _;rw[List.all_nil,Bool.and_true];rfl
  |cons t ts ih=>
   intro g hm
   have st:cO x y g (t.a,t.b,t.c)=some (.nx (g&&tB t x y)):=by
    unfold cO
    show f6 (b2 T.eqA (b4 fj (some t.b) (some t.c) (some x) (some y)) (b2 T.eqA (b2 T.cj (some t.a) (some (2:Int))) (some (1:Int)))) _ _ _=_
    rw[uj,plainT (hm t List.mem_cons_self) hx hy,aq,T.b9 (by decide),aq,T.i5,aq,T.i5,bM]
    unfold tB
    by_cases q:t.a%2=1
    ·rw[if_pos q,decide_eq_true q]
     cases bB t x y <;> cases g <;> rfl
    ·rw[if_neg q,decide_eq_false q]
     cases bB t x y <;> cases g <;> rfl
   show (cO x y g (t.a,t.b,t.c)).bind _=_
   rw[st]
   show eL _ (ts.map _) (g&&tB t x y)=_
   rw[ih _ fun t ht=>hm t (List.mem_cons_of_mem _ ht),List.all_cons,Bool.and_assoc]
 rw[cM,mf (p:=fun ts=> !(ts.all fun t=>tB t x y)) (r:=⟨true⟩) a fun ts hts=>by
  unfold iw
  rw[Option.bind_some,aL,show T.trs ts=some (ts.map fun t=>(t.a,t.b,t.c)) from rfl,cM,inn ts true (h.2 ts hts).2,Option.bind_some,rK,Bool.true_and,bM]
  cases ts.all fun t=>tB t x y <;> rfl]
 rw[<-List.not_any_eq_all_not]
 cases a.any fun ts=>ts.all fun t=>tB t x y <;> rfl
theorem Gp (c:Int): ∃p,fk c=some p/\ja p.1/\ja p.2:=by
 obtain⟨g,eg,hg⟩:=yT c 5 (by decide) (by decide)
 obtain⟨t,et,ht⟩:=yT c 6 (by decide) (by decide)
 obtain⟨m0,m1⟩:=wD (mL c 8) (show (0:Int)<32 by decide)
 unfold fk
 simp only[aq,eg,et,Option.bind_some,mD c 7 (by decide) (by decide),mD c 8 (by decide) (by decide),T.b9 (b:=9) (by decide),T.b9 (b:=32) (by decide),T.i5,bM,Option.map_some,kH,T.FU,T.fC,T.DF]
 by_cases q0:mL c 7%9=0
 ·rw[decide_eq_true q0,decide_eq_false (by omega),decide_eq_false (by omega)]
  exact⟨(g,⟨g.a,t.b,t.c⟩),rfl,hg,hg.grp,ht.lo,ht.hi,ht.rise,ht.low,ht.len⟩
 ·by_cases q1:mL c 7%9=1
  ·rw[decide_eq_false q0,decide_eq_true q1,decide_eq_false (by omega)]
   refine⟨(g,⟨t.a,_,t.c⟩),rfl,hg,ht.grp,?_,?_,ht.rise,ht.low,ht.len⟩
   ·have:=hg.lo
    show 1<=(if g.b+mL c 8%32<99 then g.b+mL c 8%32 else 99)
    split <;> omega
   ·show (if g.b+mL c 8%32<99 then g.b+mL c 8%32 else 99)<=99
    split <;> omega
  ·by_cases q2:mL c 7%9=2
   ·rw[decide_eq_false q0,decide_eq_false q1,decide_eq_true q2]
    exact⟨(g,⟨t.a,t.b,g.c⟩),rfl,hg,ht.grp,ht.lo,ht.hi,hg.rise,hg.low,hg.len⟩
   ·rw[decide_eq_false q0,decide_eq_false q1,decide_eq_false q2]
    exact⟨(g,t),rfl,hg,ht⟩
theorem Gq (i:Int):jn i=some true:=rfl
theorem wF {a b:Alt} (ha:qi a) (hb:qi b) {x y:cP} (hx:ja x) (hy:ja y):bJ [oR a,oR b] [a,b] x y=some true:=by
 unfold bJ
 have st: ∀(k:Int) (c:Alt),T.atL [oR a,oR b] k=some (oR c)->T.atL [a,b] k=some c->qi c->bp [oR a,oR b] [a,b] x y () k=some (.nx ()):=fun k c e1 e2 hc=>by
  unfold bp
  rw[aq,e1,kH,H6 c 12 (by decide) x y,Option.bind_some,aq,e2,kH,H9 hc hx hy]
  show f6 (orB (jS (some true)) (T.neA (oB c x y) (oB c x y))) _ _ _=_
  rw[T.Bv,decide_eq_true rfl];rfl
 rw[aL,T.qM (by decide) (by decide),cM]
 have lp:eL (bp [oR a,oR b] [a,b] x y) ((List.range (2:Int).toNat).map fun i:Nat=>(i:Int)) ()=some (.fin ()):=by
  show (bp _ _ x y () 0).bind _=_
  rw[st 0 a rfl rfl ha]
  show (bp _ _ x y () 1).bind _=_
  rw[st 1 b rfl rfl hb];rfl
 rw[lp,Option.bind_some,rK,Option.map_some,Option.map_some,aq,T.og,aq,T.og,aq,T.DG,Option.bind_some,aq,HY,Option.bind_some,aL,Gq,j9,if_pos rfl,aq,T.i5]
 rw[decide_eq_true (show dst x y=if y.b -x.b>x.b -y.b then y.b -x.b else x.b -y.b by
  unfold dst
  split <;> split <;> omega)]
 rfl
theorem Ca (ns:List Int) (hl:ns.length<=63):yP ⟨ns⟩=some true:=by
 have:=big
 obtain⟨a,ea,ha⟩:=EC (ns.getD (0:Int).toNat 0)
 obtain⟨b,eb,hb⟩:=EC (ns.getD (1:Int).toNat 0)
 obtain⟨g,hg⟩:=Classical.axiomOfChoice Gp
 unfold yP
 rw[aq (f:=dw),yQ _ _ (by decide),aL,ea,aq (f:=dw),yQ _ _ (by decide),aL,eb]
 simp only[T.oh]
 rw[T.Ep,Option.bind_some]
 have l1:=mr (xs:=[a,b]) (re:=fun c2:Alt=>b1 jr (b1 ck (some c2))) oR (by show 2<=_;omega) fun c hc=>by
  have:qi c:=by
   rcases List.mem_cons.mp hc with rfl|hc
   ·exact ha
   ·rw[List.mem_singleton.mp hc];exact hb
  rw[aL,(HX this).1,aL,H8 this]
 rw[l1,Option.bind_some,T.Bw,aq,show T.wO ⟨ns⟩ [0,1,2]=some (ns++[0,1,2]) from if_pos (by show ns.length+3<=_;omega),aL,T.xq,aL,T.xq,tn,T.DK]
 have cl:(Sw.iZ (ns++[0,1,2]) (some 2) (some 32)).length<=66:=by
  unfold Sw.iZ
  rw[List.length_take,List.length_drop,List.length_append]
  show min _ (ns.length+3 -_)<=66
  omega
 have l2:=mr (xs:=Sw.iZ (ns++[0,1,2]) (some 2) (some 32)) (re:=fun c4:Int=>b1 fk (some c4)) g (by omega) fun c _=>by rw[aL,(hg c).1]
 rw[l2,Option.bind_some,aq,T.DJ (by rw[List.length_map];omega),cM]
 rw[mf (p:=fun _=>true) (r:=⟨false⟩) _ fun p hp=>by
  have hp:p∈(Sw.iZ (ns++[0,1,2]) (some 2) (some 32)).map g:=by
   rcases List.mem_append.mp hp with z|z <;> exact z
  obtain⟨c,_,rfl⟩:=List.mem_map.mp hp
  unfold qS
  show f6 (orB (jS (b4 bJ (some [oR a,oR b]) (some [a,b]) (some (g c).1) (some (g c).2))) (jS (b4 bJ (some [oR a,oR b]) (some [a,b]) (some (g c).2) (some (g c).1)))) _ _ _=_
  rw[uj,wF ha hb (hg c).2.1 (hg c).2.2,uj,wF ha hb (hg c).2.2 (hg c).2.1];rfl]
 rw[List.all_eq_true.mpr fun _ _=>rfl]
 rfl
end Sw.k04
namespace Sw.k04
open PySem PySem.Spec PyProof.Rows L2 Sw
theorem facts {P:Program} {w:World} {K:PySem.W.Frag} {h:Heap} {mg:Str->Option Value} {f:Addr} (X:K.In h) (G:h.Ns mainGlobals mg) (hfa:mg ("law" :Str)=some (.ref f)) (c0:mU faL fnL tfL exB w h K):
  ∃fd:FuncData,(∀(s:Shared) (v:Value),BindsTo s fd ⟨[v],[]⟩ [("_law_script",v)])/\ ∀base:Heap,K.In base->base.Ns mainGlobals mg->(∀p∈tfL.map (fun p=>He.cT K p.1),LamX.TabB base mg p.1 p.2)->FnOk P w K mg base CX0 15 f fd ["_law_script"] (@FSp ⟨mT K tfL⟩ K [.bo] (.rg .fz) xQ):=by
 letI:NmC:=⟨mT K tfL⟩
 have c:=c0.y.1
 obtain⟨fd_number_of,E_number_of⟩:=c.def_ 0 (d:=nL) rfl
 obtain⟨fd_gap,E_gap⟩:=c.def_ 1 (d:=zW) rfl
 obtain⟨fd_by_groups,E_by_groups⟩:=c.def_ 2 (d:=nM) rfl
 obtain⟨fd_by_marks,E_by_marks⟩:=c.def_ 3 (d:=pM) rfl
 obtain⟨fd_by_sizes,E_by_sizes⟩:=c.def_ 4 (d:=pN) rfl
 obtain⟨fd_opposite,E_opposite⟩:=c.def_ 5 (d:=pO) rfl
 obtain⟨fd_all_let,E_all_let⟩:=c.def_ 6 (d:=qV) rfl
 obtain⟨fd_one_lets,E_one_lets⟩:=c.def_ 7 (d:=pP) rfl
 obtain⟨fd_term_of,E_term_of⟩:=c.def_ 8 (d:=qW) rfl
 obtain⟨fd_noted_term,E_noted_term⟩:=c.def_ 9 (d:=mN) rfl
 obtain⟨fd_rule_of,E_rule_of⟩:=c.def_ 10 (d:=qX) rfl
 obtain⟨fd__law_cell,E__law_cell⟩:=c.def_ 11 (d:=nN) rfl
 obtain⟨fd__law_mix,E__law_mix⟩:=c.def_ 12 (d:=pQ) rfl
 obtain⟨fd__law_whole,E__law_whole⟩:=c.def_ 13 (d:=mP) rfl
 obtain⟨fd__law_marks,E__law_marks⟩:=c.def_ 14 (d:=mQ) rfl
 obtain⟨fd__law_side,E__law_side⟩:=c.def_ 15 (d:=nO) rfl
 obtain⟨fd__law_term,E__law_term⟩:=c.def_ 16 (d:=nQ) rfl
 obtain⟨fd__law_alternatives,E__law_alternatives⟩:=c.def_ 17 (d:=iy) rfl
 obtain⟨fd__law_term_text,E__law_term_text⟩:=c.def_ 18 (d:=jF) rfl
 obtain⟨fd__law_rule_text,E__law_rule_text⟩:=c.def_ 19 (d:=jG) rfl
 obtain⟨fd__law_plain,E__law_plain⟩:=c.def_ 20 (d:=mR) rfl
 obtain⟨fd__law_lets,E__law_lets⟩:=c.def_ 21 (d:=nR) rfl
 obtain⟨fd__law_sides,E__law_sides⟩:=c.def_ 22 (d:=mS) rfl
 obtain⟨fd__law_answers,E__law_answers⟩:=c.def_ 23 (d:=lj) rfl
 obtain⟨fd_law,E_law⟩:=c.def_ 24 (d:=zX) rfl
 have e:=hfa.symm.trans (He.glo_ok X G (c.fact 24 (f:=.glo "law") rfl))
 cases e
 have b:=FunD.bindsA (ps:=["_law_script"]) E_law fun _ _ _ _ _ _ us hl=>match us,hl with| [_],_=>rfl
 have Z:Zs K mg:=⟨He.free_ok X G (c.fact 25 (f:=.free "abs") rfl),He.free_ok X G (c.fact 26 (f:=.free "bool") rfl),He.free_ok X G (c.fact 27 (f:=.free "int") rfl),He.free_ok X G (c.fact 28 (f:=.free "isinstance") rfl),He.free_ok X G (c.fact 29 (f:=.free "len") rfl),He.free_ok X G (c.fact 30 (f:=.free "max") rfl),He.free_ok X G (c.fact 31 (f:=.free "min") rfl),He.free_ok X G (c.fact 32 (f:=.free "range") rfl),He.free_ok X G (c.fact 33 (f:=.free "str") rfl),He.str_ok X G (c.fact 34 (f:=.str "FIGURES" "0123456789") rfl),He.glo_ok X G (c.fact 2 (f:=.glo "by_groups") rfl),He.glo_ok X G (c.fact 3 (f:=.glo "by_marks") rfl)⟩
 refine⟨fd_law,fun s v=>b s [v] rfl,fun base _ _ TB_=> ?_⟩
 have L_by_sizes:lU base mg fd_by_sizes.code (("by_sizes" :Str)++".<locals>." ++"lets"):=c0.lam TB_ (p:=(("by_sizes",none),(("by_sizes" :Str)++".<locals>." ++"lets"))) (List.mem_of_getElem? (i:=0) rfl) E_by_sizes
 have L_opposite:lU base mg fd_opposite.code (("opposite" :Str)++".<locals>." ++"lets"):=c0.lam TB_ (p:=(("opposite",none),(("opposite" :Str)++".<locals>." ++"lets"))) (List.mem_of_getElem? (i:=1) rfl) E_opposite
 have L_all_let:lU base mg fd_all_let.code (("all_let" :Str)++".<locals>." ++"lets"):=c0.lam TB_ (p:=(("all_let",none),(("all_let" :Str)++".<locals>." ++"lets"))) (List.mem_of_getElem? (i:=2) rfl) E_all_let
 have L_one_lets:lU base mg fd_one_lets.code (("one_lets" :Str)++".<locals>." ++"lets"):=c0.lam TB_ (p:=(("one_lets",none),(("one_lets" :Str)++".<locals>." ++"lets"))) (List.mem_of_getElem? (i:=3) rfl) E_one_lets
 have C_number_of:Cal P w K mg base 1 "number_of" iC iD iE dC:=⟨_,fd_number_of,uK Z (aS E_number_of),He.glo_ok X G (c.fact 0 (f:=.glo "number_of") rfl),E_number_of.kp,E_number_of.bindsN fun _ _ _ _ _ _ us hl=>match us,hl with| [_],_=>rfl⟩
 have C_gap:Cal P w K mg base 1 "gap" rY rZ r9 kO:=⟨_,fd_gap,F9 Z (aS E_gap),He.glo_ok X G (c.fact 1 (f:=.glo "gap") rfl),E_gap.kp,E_gap.bindsN fun _ _ _ _ _ _ us hl=>match us,hl with| [_,_],_=>rfl⟩
 have C_by_groups:Cal P w K mg base 1 "by_groups" lW lX lY gj:=⟨_,fd_by_groups,oD Z (aS E_by_groups),He.glo_ok X G (c.fact 2 (f:=.glo "by_groups") rfl),E_by_groups.kp,E_by_groups.bindsN fun _ _ _ _ _ _ us hl=>match us,hl with| [_,_],_=>rfl⟩
 have C_by_marks:Cal P w K mg base 1 "by_marks" nC nD nF iG:=⟨_,fd_by_marks,p9 Z (aS E_by_marks),He.glo_ok X G (c.fact 3 (f:=.glo "by_marks") rfl),E_by_marks.kp,E_by_marks.bindsN fun _ _ _ _ _ _ us hl=>match us,hl with| [_,_],_=>rfl⟩
 have C_by_sizes:Cal P w K mg base 1 "by_sizes" kP kQ kR fU:=⟨_,fd_by_sizes,v7 Z (aS E_by_sizes) L_by_sizes,He.glo_ok X G (c.fact 4 (f:=.glo "by_sizes") rfl),E_by_sizes.kp,E_by_sizes.bindsN fun _ _ _ _ _ _ us hl=>match us,hl with| [_],_=>rfl⟩
 have C_opposite:Cal P w K mg base 1 "opposite" kS kT kU fV:=⟨_,fd_opposite,v9 Z (aS E_opposite) L_opposite,He.glo_ok X G (c.fact 5 (f:=.glo "opposite") rfl),E_opposite.kp,E_opposite.bindsN fun _ _ _ _ _ _ us hl=>match us,hl with| [_],_=>rfl⟩
 have C_all_let:Cal P w K mg base 1 "all_let" mv mw mC hO:=⟨_,fd_all_let,xM Z (aS E_all_let) L_all_let,He.glo_ok X G (c.fact 6 (f:=.glo "all_let") rfl),E_all_let.kp,E_all_let.bindsN fun _ _ _ _ _ _ us hl=>match us,hl with| [_],_=>rfl⟩
 have C_one_lets:Cal P w K mg base 1 "one_lets" kW kX kY fW:=⟨_,fd_one_lets,we Z (aS E_one_lets) L_one_lets,He.glo_ok X G (c.fact 7 (f:=.glo "one_lets") rfl),E_one_lets.kp,E_one_lets.bindsN fun _ _ _ _ _ _ us hl=>match us,hl with| [_],_=>rfl⟩
 have C_term_of:Cal P w K mg base 2 "term_of" ko kq kr fP:=⟨_,fd_term_of,xN Z C_number_of C_by_sizes (aS E_term_of),He.glo_ok X G (c.fact 8 (f:=.glo "term_of") rfl),E_term_of.kp,E_term_of.bindsN fun _ _ _ _ _ _ us hl=>match us,hl with| [_],_=>rfl⟩
 have C_noted_term:Cal P w K mg base 3 "noted_term" gu gv gz dW:=⟨_,fd_noted_term,sL Z C_term_of C_opposite (aS E_noted_term),He.glo_ok X G (c.fact 9 (f:=.glo "noted_term") rfl),E_noted_term.kp,E_noted_term.bindsN fun _ _ _ _ _ _ us hl=>match us,hl with| [_],_=>rfl⟩
 have C_rule_of:Cal P w K mg base 4 "rule_of" kv kx kz hV:=⟨_,fd_rule_of,xO Z C_noted_term C_all_let C_one_lets (aS E_rule_of),He.glo_ok X G (c.fact 10 (f:=.glo "rule_of") rfl),E_rule_of.kp,E_rule_of.bindsN fun _ _ _ _ _ _ us hl=>match us,hl with| [_],_=>rfl⟩
 have C__law_cell:Cal P w K mg base 1 "_law_cell" iI iJ iK dD:=⟨_,fd__law_cell,uP Z (aS E__law_cell),He.glo_ok X G (c.fact 11 (f:=.glo "_law_cell") rfl),E__law_cell.kp,E__law_cell.bindsN fun _ _ _ _ _ _ us hl=>match us,hl with| [_,_],_=>rfl⟩
 have C__law_mix:Cal P w K mg base 1 "_law_mix" dE dF dG aU:=⟨_,fd__law_mix,wh Z (aS E__law_mix),He.glo_ok X G (c.fact 12 (f:=.glo "_law_mix") rfl),E__law_mix.kp,E__law_mix.bindsN fun _ _ _ _ _ _ us hl=>match us,hl with| [_,_],_=>rfl⟩
 have C__law_whole:Cal P w K mg base 1 "_law_whole" gC gD gE dX:=⟨_,fd__law_whole,sN Z (aS E__law_whole),He.glo_ok X G (c.fact 13 (f:=.glo "_law_whole") rfl),E__law_whole.kp,E__law_whole.bindsN fun _ _ _ _ _ _ us hl=>match us,hl with| [_],_=>rfl⟩
 have C__law_marks:Cal P w K mg base 1 "_law_marks" gG gH gJ dY:=⟨_,fd__law_marks,sO Z (aS E__law_marks),He.glo_ok X G (c.fact 14 (f:=.glo "_law_marks") rfl),E__law_marks.kp,E__law_marks.bindsN fun _ _ _ _ _ _ us hl=>match us,hl with| [_],_=>rfl⟩
 have C__law_side:Cal P w K mg base 2 "_law_side" iM iN iO dH:=⟨_,fd__law_side,uT Z C__law_mix C__law_marks (aS E__law_side),He.glo_ok X G (c.fact 15 (f:=.glo "_law_side") rfl),E__law_side.kp,E__law_side.bindsN fun _ _ _ _ _ _ us hl=>match us,hl with| [_,_],_=>rfl⟩
 have C__law_term:Cal P w K mg base 1 "_law_term" iQ iR iS fe:=⟨_,fd__law_term,uU Z (aS E__law_term),He.glo_ok X G (c.fact 16 (f:=.glo "_law_term") rfl),E__law_term.kp,E__law_term.bindsN fun _ _ _ _ _ _ us hl=>match us,hl with| [_],_=>rfl⟩
 have C__law_alternatives:Cal P w K mg base 2 "_law_alternatives" bV bW bY aV:=⟨_,fd__law_alternatives,l5 Z C__law_mix C__law_term (aS E__law_alternatives),He.glo_ok X G (c.fact 17 (f:=.glo "_law_alternatives") rfl),E__law_alternatives.kp,E__law_alternatives.bindsN fun _ _ _ _ _ _ us hl=>match us,hl with| [_],_=>rfl⟩
 have C__law_term_text:Cal P w K mg base 1 "_law_term_text" cY cZ c8 bN:=⟨_,fd__law_term_text,oH Z (aS E__law_term_text),He.glo_ok X G (c.fact 18 (f:=.glo "_law_term_text") rfl),E__law_term_text.kp,E__law_term_text.bindsN fun _ _ _ _ _ _ us hl=>match us,hl with| [_],_=>rfl⟩
 have C__law_rule_text:Cal P w K mg base 2 "_law_rule_text" da de df bO:=⟨_,fd__law_rule_text,oJ Z C__law_term_text (aS E__law_rule_text),He.glo_ok X G (c.fact 19 (f:=.glo "_law_rule_text") rfl),E__law_rule_text.kp,E__law_rule_text.bindsN fun _ _ _ _ _ _ us hl=>match us,hl with| [_],_=>rfl⟩
 have C__law_plain:Cal P w K mg base 1 "_law_plain" gN gO gQ dZ:=⟨_,fd__law_plain,sP Z (aS E__law_plain),He.glo_ok X G (c.fact 20 (f:=.glo "_law_plain") rfl),E__law_plain.kp,E__law_plain.bindsN fun _ _ _ _ _ _ us hl=>match us,hl with| [_,_,_,_],_=>rfl⟩
 have C__law_lets:Cal P w K mg base 2 "_law_lets" iU iV iW fg:=⟨_,fd__law_lets,uW Z C__law_plain (aS E__law_lets),He.glo_ok X G (c.fact 21 (f:=.glo "_law_lets") rfl),E__law_lets.kp,E__law_lets.bindsN fun _ _ _ _ _ _ us hl=>match us,hl with| [_,_,_],_=>rfl⟩
 have C__law_sides:Cal P w K mg base 3 "_law_sides" gT gU gV eh:=⟨_,fd__law_sides,sQ Z C__law_side C__law_mix (aS E__law_sides),He.glo_ok X G (c.fact 22 (f:=.glo "_law_sides") rfl),E__law_sides.kp,E__law_sides.bindsN fun _ _ _ _ _ _ us hl=>match us,hl with| [_],_=>rfl⟩
 have W_val: ∀n,ng P w K mg base (1+n) (FC n):=fun n=>by
  induction n with
  |zero=>exact zo
  |succ n ih=>exact CV (List.forall_mem_cons.mpr ⟨(show CT P w K mg base (1+(n+1)) "by_groups" gj from yA (aS (qual:="by_groups") (st:=cw) E_by_groups) (oD Z (aS E_by_groups)) (E_by_groups.bindsN fun _ _ _ _ _ _ us hl=>match us,hl with| [_,_],_=>rfl) (Nat.le_trans (by decide:1<=1+1) (by omega))),(List.forall_mem_cons.mpr ⟨(show CT P w K mg base (1+(n+1)) "by_marks" iG from yA (aS (qual:="by_marks") (st:=dA) E_by_marks) (p9 Z (aS E_by_marks)) (E_by_marks.bindsN fun _ _ _ _ _ _ us hl=>match us,hl with| [_,_],_=>rfl) (Nat.le_trans (by decide:1<=1+1) (by omega))),(fun _ hp=>nomatch hp)⟩)⟩) (List.forall_mem_cons.mpr ⟨pj (Nat.le_add_right _ _) ih Z C_gap,(List.forall_mem_cons.mpr ⟨pq (Nat.le_add_right _ _) ih Z,(List.forall_mem_cons.mpr ⟨qu (Nat.le_add_right _ _) ih Z,(List.forall_mem_cons.mpr ⟨px (Nat.le_add_right _ _) ih Z,(fun _ hp=>nomatch hp)⟩)⟩)⟩)⟩)
 have C_val:=W_val 12
 have C__law_answers:Cal P w K mg base 14 "_law_answers" eR eT eU bP:=⟨_,fd__law_answers,qz Z C_val C__law_lets C_gap C__law_whole (aS E__law_answers),He.glo_ok X G (c.fact 23 (f:=.glo "_law_answers") rfl),E__law_answers.kp,E__law_answers.bindsN fun _ _ _ _ _ _ us hl=>match us,hl with| [_,_,_,_],_=>rfl⟩
 exact Ga Z C__law_cell C__law_alternatives C__law_rule_text C_rule_of C__law_sides C__law_answers (aS E_law)
end Sw.k04
open PySem PySem.W PySem.Calls PyProof.Rows
theorem PySem.Challenge.cw_swapward_k04_rules_let_holds : PySem.Challenge.rw_swapward_k04_rules_let.Holds := by
 w_on;o_law
 refine HandSHeadRun.head_any (r:=PySem.W.OpenLaw.row PySem.Challenge.rw_swapward_k04_rules_let) (q:=PySem.W.view (PySem.W.OpenLaw.row PySem.Challenge.rw_swapward_k04_rules_let).prog [31]) (H:=Sw.k04.hk) (ob:=Sw.k04.ob) (M:=6000) (loose:=Sw.k04.loose) (d:=HandSHeadRun.topDef (PySem.W.OpenLaw.row PySem.Challenge.rw_swapward_k04_rules_let).prog 31) (kwd:=[]) Sw.k04.GL
  (by kernel_rfl) (fun s=>by kernel_rfl) Sw.k04.run (by kernel_rfl) (by kernel_rfl) (by kernel_rfl) (by rfl) (by first|assumption|decide+kernel) (by decide+kernel) ⟨rfl,rfl,rfl,rfl,rfl,by decide+kernel⟩ ?hw ?hc
 case hw=>w_witness2
 case hc=>
  refine LamX.walk_ofTsE (l:=PySem.Challenge.rw_swapward_k04_rules_let) (n:=63) (k:=15) (x:="_law_script") (CX:=fun _=>L2.CX0) rfl (by decide) (by kernel_rfl) ⟨rfl,by decide,by decide⟩ ?F (fun _ _ _ _ _ z=>z)
  intro w mg fa h Y G hmg0
  obtain⟨K,KX,c⟩:=Y
  have hmg:mg ("law" :PySem.Str)=some (.ref fa):=by
   have e:(HandSHeadRun.topDef (PySem.W.OpenLaw.row PySem.Challenge.rw_swapward_k04_rules_let).prog 31).name=("law" :PySem.Str):=by kernel_rfl
   rw[<-e]
   exact hmg0
  obtain⟨fd,hb,hF⟩:=Sw.k04.facts (P:=(PySem.Challenge.rw_swapward_k04_rules_let).prog) (w:=w) KX G hmg c
  exact⟨K,KX,Sw.mU.law KX c hb hF (fun ns hl=>Sw.k04.HS ⟨ns⟩ true (Sw.k04.Ca ns hl))⟩
