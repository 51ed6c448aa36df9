import PyProof.Rows.All
import Wide.All
import OpenK.AllK
import Wide.FinOn
import HandS.ForMost
import HandS.HeadHook1
import HandS.Nested
import HandS.Deep
import HandS.More
import KE.SortData
import KE.DataCmp
import HandS.IsInst
import KE.KStateDown
import HandS.Defaults
import HandS.Head0
import HandS.Head1
import HandS.Head2
import HandS.HeadEnd
import HandS.HeadHook2
import HandS.DictComp
import HandS.Finally
import KE.KDictZip
import KE.KRevIter
import KE.KDictList
import HandS.ExcValue
import HandS.Exc
import KE.DataFind
import KE.DataMinMax
import HandS.Text
import HandS.FStr
import PyProof.StrBlock2
import HandS.DeepEq
import KE.KEqDict
import HandS.SetKeys
import HandS.Set
import HandS.TupSets
import HandS.SetFor
import PyProof.SeqIndex
import PyProof.Rows.SortStr
import PyProof.SetRoads
import HandS.Codes
import HandS.TupLe
import HandS.Iter
import KE.KMinKey
import HandS.SortKw
import KE.KLam
import HandS.HeadHook4
import HandS.HeadWalk
import HandS.Wide
import HandS.ExcInit
import HandS.ClsMeth
import HandS.WordsExc
import HandS.ExcField
import HandS.ListEq
import KE.GoesZip
import KE.GoesMore
import KE.KExcIs
import HandS.ExcOwn
import PyProof.ExcBaseAll.ValueError
import KE.SortKeyHeap
import HandS.DictTup
import KE.SortCalls
import HandS.Conv
import PyProof.NeKinds
import HandS.TryOnly
import HandS.ExcInitHot
import HandS.SuiteRaise
import HandS.RaiseFrom
import KE.IntTextLaws
import PySem.Challenge.RW_swapward_k03_couples_refused
set_option Elab.async false
set_option linter.all false
set_option maxRecDepth 100000
set_option maxHeartbeats 0
namespace Sw
open PySem PySem.Spec PyProof.Rows L2
abbrev Frg:=PySem.W.Frag
def yo (K:Frg) (x:Str) (zs:List Str):Bool:=match PySem.W.nsIn K mainGlobals x with
 |some (some (.ref p))=>match K.lookup p with
  |some o=>decide (o.cls= .type "tuple")&&match o.data with
   | .seq its _=>decide (its.size<=sizeLine)&&decide (its.toList.map (fun v=>match v with| .str y _=>some y|_=>none)=zs.map some)
   |_=>false
  |none=>false
 |_=>false
abbrev AlX:Type:=He.AlD×Bool
def clsAt:Stmt->Nat->Stmt
 | .ClassDef _ _ _ body _ _ _ _ _ _ _,i=>body.getD i (.Pass ⟨0,0,0,0⟩)
 |_,_=>.Pass ⟨0,0,0,0⟩
def AR (fa:List He.Fa) (fn:List He.DefD) (ex:Frg->Bool) (K:Frg):Prop:=He.SaysD fa fn K/\ex K=true
def HX (K:Frg) (C:Addr):Bool:=match K.lookup C with
 |some ⟨.type "type",_,.cls cd,sl⟩=>(match cd.mro,sl.toList with
  | .ref C'::bm,[_,_,_,_,some (.builtin n),_]=>C'==C&&n=="ValueError.__new__" && !cd.hasDel&&cd.hasDict&&PySem.HandSPX.refsVE bm
  |_,_=>false)
 |_=>false
def HY (K:Frg) (C:Addr):Bool:=match PySem.W.findCls K (.ref C) (.type "type") "__init__" with
 |some (.val (.builtin n))=>n=="ValueError.__init__"
 |_=>false
def xcB (K:Frg) (Cn fld S:Str):Bool:=
 HX K (He.ga K Cn)&&(He.eqO (PySem.W.findIn K (.ref (He.ga K Cn)) "__setattr__") (some (some (.builtin "object.__setattr__")))&&(decide (PySem.W.subIn K (.ref (He.ga K Cn)) (.type "BaseException")=some true)&&(decide (PySem.W.typeIn K (.ref (He.ga K Cn))=some (.type "type"))&&(PySem.W.keepIn K (.ref (He.ga K Cn))&&
  (He.eqO (PySem.W.findIn K (.ref (He.ga K Cn)) fld) (some none)&&(xfB K (He.ga K Cn)&&(decide (PySem.W.exmOne K (.ref (He.ga K Cn)) (.ref (He.ga K Cn))=some true)&&
   (He.eqO (PySem.W.findIn K (.ref (He.ga K Cn)) "__init__") (some (some (.ref (He.ma K (He.ga K Cn) "__init__"))))&&(decide (PySem.W.typeIn K (.ref (He.ma K (He.ga K Cn) "__init__"))=some (.type "function"))&&
    (PySem.W.readsIn K (He.ga K S) (.type "type")&&(He.eqO (PySem.W.specialIn K (.ref (He.ga K S)) "__getattribute__") (some (some (.builtin "type.__getattribute__")))&&HY K (He.ga K S))))))))))))
def asS (g:Addr->Option Obj) (n:Nat):List Addr:=He.asD g n++[cStatics]
abbrev CD (n:Nat) (fa:List He.Fa) (fn:List He.DefD) (ex:Frg->Bool) (g:Addr->Option Obj):AlX:=(He.obsD fa fn (He.frG g (asS g n)),ex (He.frG g (asS g n)))
def CF (n:Nat) (fa:List He.Fa) (fn:List He.DefD) (ex:Frg->Bool):PySem.W.Hook where
 α:=AlX
 obs:=fun s=>CD n fa fn ex s.heap.get?
 val:=fun _=>(He.valD fn,true)
 says:=fun _ h=> ∃K:PySem.W.Frag,K.In h/\AR fa fn ex K
 of:=fun _ _ e=>⟨_,He.frG_in,congrArg Prod.fst e,congrArg Prod.snd e⟩
 keeps:=fun _ _ _ ⟨K,hK,c⟩ k=>⟨K,PySem.W.Frag.In.keeps hK k,c⟩
theorem CG {n:Nat} {fa:List He.Fa} {fn:List He.DefD} {ex:Frg->Bool} {g:Addr->Option Obj} {s:Shared} (h: ∀a,g a=s.heap.get? a):CD n fa fn ex g=(CF n fa fn ex).obs s:=by
 have e:g=s.heap.get? :=funext h
 rw[e];rfl
def JQ (K:Frg) (C:Str) (tc:List (Str×Bool)) (tt:List (String×Bool)) (th:List Str):Bool:=
 (PySem.W.clsIn K (He.ga K C)).isSome&&(He.eqO (PySem.W.findIn K (.ref (He.ga K C)) "__getattribute__") (some (some (.builtin "BaseException.__getattribute__")))&&(He.eqO (PySem.W.findIn K (.ref (He.ga K C)) "__getattr__") (some none)&&(decide (PySem.W.subIn K (.ref (He.ga K C)) (.type "BaseException")=some true)&&
  (He.eqO (PySem.W.findIn K (.ref (He.ga K C)) "__class__") (some (some (.builtin "object.__class__")))&&(He.eqO (PySem.W.specialIn K (.builtin "object.__class__") "__get__") (some (some (.builtin "getset_descriptor.__get__")))&&(decide (PySem.W.takesIn K (.builtin "object.__class__")=some true)&&(decide (PySem.W.mroIn K (He.ga K C) (.type "object")=some true)&&
   ((tc.all fun q=>decide (PySem.W.kitOne K (.ref (He.ga K C)) (.ref (He.ga K q.1))=some q.2))&&((tt.all fun q=>decide (PySem.W.kitOne K (.ref (He.ga K C)) (.type q.1)=some q.2))&&(th.all fun q=>decide (PySem.W.exmOne K (.ref (He.ga K C)) (.ref (He.ga K q))=some true)))))))))))
end Sw
namespace Sw.k03
open PySem PySem.Spec PyProof.Rows L2 Sw
def top (i:Nat):Stmt:=PySem.Challenge.pw_swapward_k03_couples_refused.main.body.getD i (.Pass ⟨0,0,0,0⟩)
abbrev iE:Stmt:=top 7
abbrev dP:Stmt:=top 8
abbrev dQ:Stmt:=top 11
abbrev bS:Stmt:=top 12
abbrev iF:Stmt:=top 13
abbrev dR:Stmt:=top 14
abbrev cO:Stmt:=top 15
abbrev dS:Stmt:=top 17
abbrev fv:Stmt:=top 18
abbrev cF:Stmt:=top 19
abbrev dU:Stmt:=top 20
abbrev c6:Stmt:=top 21
abbrev cP:Stmt:=top 22
abbrev bA:Stmt:=top 23
abbrev c7:Stmt:=top 24
abbrev dW:Stmt:=top 25
abbrev bT:Stmt:=top 26
abbrev cQ:Stmt:=top 27
abbrev cR:Stmt:=top 28
abbrev b7:Stmt:=top 29
abbrev cb:Stmt:=top 30
abbrev dX:Stmt:=top 31
abbrev dY:Stmt:=top 32
abbrev dZ:Stmt:=top 33
abbrev b8:Stmt:=top 34
abbrev r9:Stmt:=top 35
abbrev cW:Stmt:=clsAt (top 2) 0
theorem lS:FnScope ["self","row"] ["self","row"] (defScope cW):=⟨rfl,rfl,rfl,by decide+kernel,rfl,by decide+kernel,by decide+kernel⟩
def tT:He.DefD:=⟨("is_name",none),"is_name","is_name",defArgs iE,defBody iE,defScope iE,[],[]⟩
def qw:He.DefD:=⟨("number_of",none),"number_of","number_of",defArgs dP,defBody dP,defScope dP,[],[]⟩
def qy:He.DefD:=⟨("are_marks",none),"are_marks","are_marks",defArgs dQ,defBody dQ,defScope dQ,[],[]⟩
def mN:He.DefD:=⟨("number_within",none),"number_within","number_within",defArgs bS,defBody bS,defScope bS,[],[]⟩
def tU:He.DefD:=⟨("side_of",none),"side_of","side_of",defArgs iF,defBody iF,defScope iF,[],[]⟩
def qz:He.DefD:=⟨("couple_of",none),"couple_of","couple_of",defArgs dR,defBody dR,defScope dR,[],[]⟩
def oH:He.DefD:=⟨("read_couple",none),"read_couple","read_couple",defArgs cO,defBody cO,defScope cO,[],[]⟩
def qA:He.DefD:=⟨("_law_cell",none),"_law_cell","_law_cell",defArgs dS,defBody dS,defScope dS,[],[]⟩
def se:He.DefD:=⟨("_law_mix",none),"_law_mix","_law_mix",defArgs fv,defBody fv,defScope fv,[],[]⟩
def pK:He.DefD:=⟨("_law_marks",none),"_law_marks","_law_marks",defArgs cF,defBody cF,defScope cF,[],[]⟩
def qB:He.DefD:=⟨("_law_side",none),"_law_side","_law_side",defArgs dU,defBody dU,defScope dU,[],[]⟩
def qD:He.DefD:=⟨("_law_name",none),"_law_name","_law_name",defArgs c6,defBody c6,defScope c6,[],[]⟩
def oJ:He.DefD:=⟨("_law_couple",none),"_law_couple","_law_couple",defArgs cP,defBody cP,defScope cP,[],[]⟩
def lr:He.DefD:=⟨("_law_shown_side",none),"_law_shown_side","_law_shown_side",defArgs bA,defBody bA,defScope bA,[],[]⟩
def pM:He.DefD:=⟨("_law_shown",none),"_law_shown","_law_shown",defArgs c7,defBody c7,defScope c7,[],[]⟩
def qE:He.DefD:=⟨("_law_sign",none),"_law_sign","_law_sign",defArgs dW,defBody dW,defScope dW,[],[]⟩
def mP:He.DefD:=⟨("_law_odd_word",none),"_law_odd_word","_law_odd_word",defArgs bT,defBody bT,defScope bT,[],[]⟩
def oK:He.DefD:=⟨("_law_spoilt",none),"_law_spoilt","_law_spoilt",defArgs cQ,defBody cQ,defScope cQ,[],[]⟩
def oL:He.DefD:=⟨("_law_number",none),"_law_number","_law_number",defArgs cR,defBody cR,defScope cR,[],[]⟩
def oM:He.DefD:=⟨("_law_rising",none),"_law_rising","_law_rising",defArgs b7,defBody b7,defScope b7,[],[]⟩
def ou:He.DefD:=⟨("_law_side_of",none),"_law_side_of","_law_side_of",defArgs cb,defBody cb,defScope cb,[],[]⟩
def qF:He.DefD:=⟨("_law_read",none),"_law_read","_law_read",defArgs dX,defBody dX,defScope dX,[],[]⟩
def qG:He.DefD:=⟨("_law_ends",none),"_law_ends","_law_ends",defArgs dY,defBody dY,defScope dY,[],[]⟩
def qH:He.DefD:=⟨("_law_told",none),"_law_told","_law_told",defArgs dZ,defBody dZ,defScope dZ,[],[]⟩
def oN:He.DefD:=⟨("_law_beyond",none),"_law_beyond","_law_beyond",defArgs b8,defBody b8,defScope b8,[],[]⟩
def CH:He.DefD:=⟨("law",none),"law","law",defArgs r9,defBody r9,defScope r9,[],[]⟩
def lT:He.DefD:=⟨("NoRow",some "__init__"),"__init__","NoRow.__init__",defArgs cW,defBody cW,defScope cW,[],[]⟩
def fnL:List He.DefD:=[tT,qw,qy,mN,tU,qz,oH,qA,se,pK,qB,qD,oJ,lr,pM,qE,mP,oK,oL,oM,ou,qF,qG,qH,oN,CH,lT]
def faL:List He.Fa:=[.glo "is_name",.glo "number_of",.glo "are_marks",.glo "number_within",.glo "side_of",.glo "couple_of",.glo "read_couple",.glo "_law_cell",.glo "_law_mix",.glo "_law_marks",.glo "_law_side",.glo "_law_name",.glo "_law_couple",.glo "_law_shown_side",.glo "_law_shown",.glo "_law_sign",.glo "_law_odd_word",.glo "_law_spoilt",.glo "_law_number",.glo "_law_rising",.glo "_law_side_of",.glo "_law_read",.glo "_law_ends",.glo "_law_told",.glo "_law_beyond",.glo "law",.free "ValueError",.free "int",.free "isinstance",.free "len"]++[.free "range",.free "set",.free "sorted",.free "str",.str "FIGURES" "0123456789",.str "LETTERS" "abcdefghijklmnopqrstuvwxyz",.glo "NoRow",.glo "SwapError",.glo "NoSwap"]
def exL:List (Frg->Bool):=[fun K=>yo K "GROUPS" ["O","A","B","AB"],fun K=>xcB K "NoRow" "row" "SwapError",fun K=>JQ K "NoRow" [("SwapError",true),("NoSwap",false)] [("ValueError",true)] []]
abbrev RR:PySem.W.OpenRow:=PySem.W.OpenLaw.row PySem.Challenge.rw_swapward_k03_couples_refused
abbrev exB:Frg->Bool:=fun K=>exL.all fun f=>f K
abbrev hk:PySem.W.Hook:=CF 4 faL fnL exB
def ob (s:PySem.W.SharedT):AlX:=CD 4 faL fnL exB (HandSHeadRun.getT s)
theorem JR (s:PySem.W.SharedT):ob s=hk.obs s.abs:=CG (HandSHeadRun.getT_eq s)
def loose:List PySem.Str:=(["SwapError","NoRow","NoSwap","LETTERS","FIGURES","is_name","number_of","GROUPS","are_marks","number_within","side_of","couple_of","read_couple","_law_cell","_law_mix","_law_marks","_law_side","_law_name","_law_couple","_law_shown_side","_law_shown","_law_sign","_law_odd_word","_law_spoilt","_law_number","_law_rising","_law_side_of","_law_read","_law_ends","_law_told"]:List PySem.Str)++(["_law_beyond"]:List PySem.Str)
theorem run (w:World):HandSHeadRun.RunEq RR (PySem.W.view RR.prog [35]) hk ob 6000 loose w:=by
 intro os
 kernel_rfl
end Sw.k03
namespace Sw
open PySem PySem.Spec PyProof.Rows L2
inductive D where
 |non|bl (b:Bool)|int (i:Int)|str (x:Str)
 |lst (xs:List D)|tup (xs:List D)|dct (ks:List (Key×D))|dcT (ks:List (List Key×D))
 |ins (C:Str) (fs:List (Str×D))|fn (a:Addr)|sc (ns:List Int)
abbrev Sa:=Addr->Prop
def TupAt (K:Frg) (S:Sa) (H:Hp) (a:Addr) (xs:List V):Prop:=S a/\H a=some (.tup xs)
theorem TupAt.sq {K:Frg} {S:Sa} {H:Hp} {a:Addr} {xs:List V} (h:TupAt K S H a xs):SqT K H a xs:=.inl (.inl h.2)
def HZ (K:Frg) (S:Sa) (H:Hp) (a:Addr) (xs:List V):Prop:=(S a/\Rd H a (.lst xs))\/SqL K (fun _=>none) a xs
theorem AU {a:Addr} {u:HO} (h:Rd (fun _=>none) a u):False:=by
 rcases h with h|⟨_,h⟩ <;> cases h
theorem HZ.sq {K:Frg} {S:Sa} {H:Hp} {a:Addr} {xs:List V} (h:HZ K S H a xs):SqL K H a xs:=by
 rcases h with ⟨_,h⟩|h
 ·exact .inl h
 ·rcases h with h|h
  ·exact (AU h).elim
  ·exact .inr h
mutual
def Rep (K:Frg) (S:Sa) (H:Hp):D->V->Prop
 | .non,v=>v= .non
 | .bl b,v=>v= .bl b
 | .int i,v=>v= .int i
 | .str x,v=>v= .str x
 | .fn a,v=>v= .ref a
 | .lst ds,v=> ∃a vs,v= .ref a/\S a/\H a=some (.lst vs)/\aC K S H ds vs
 | .sc ns,v=> ∃a,v= .ref a/\HZ K S H a (ns.map V.int)
 | .tup ds,v=> ∃a vs,v= .ref a/\TupAt K S H a vs/\aC K S H ds vs
 | .dct ks,v=> ∃a kvs,v= .ref a/\S a/\Rd H a (.dK kvs)/\(ks.map (·.1)).Nodup/\bV K S H ks kvs
 | .dcT ks,v=> ∃a kvs,v= .ref a/\S a/\Rd H a (.dT kvs)/\(ks.map (·.1)).Nodup/\gk K S H ks kvs
 | .ins C fds,v=> ∃a dx fs,v= .ref a/\S a/\H a=some (.ins (He.ga K C) dx fs)/\eN K S H fds fs
def aC (K:Frg) (S:Sa) (H:Hp):List D->List V->Prop
 | [],vs=>vs=[]
 |d::ds,vs=> ∃v r,vs=v::r/\Rep K S H d v/\aC K S H ds r
def bV (K:Frg) (S:Sa) (H:Hp):List (Key×D)->List (Key×V)->Prop
 | [],vs=>vs=[]
 |(k,d)::ds,vs=> ∃v r,vs=(k,v)::r/\Rep K S H d v/\bV K S H ds r
def gk (K:Frg) (S:Sa) (H:Hp):List (List Key×D)->List (List Key×V)->Prop
 | [],vs=>vs=[]
 |(k,d)::ds,vs=> ∃v r,vs=(k,v)::r/\Rep K S H d v/\gk K S H ds r
def eN (K:Frg) (S:Sa) (H:Hp):List (Str×D)->List (Str×V)->Prop
 | [],vs=>vs=[]
 |(k,d)::ds,vs=> ∃v r,vs=(k,v)::r/\Rep K S H d v/\eN K S H ds r
end
def Pl:HO->Prop
 | .frz _ _=>False
 | .tbl _=>False
 |_=>True
def Sc:HO->Prop
 | .lst _=>True| .tup _=>True| .ins _ _ _=>True
 |_=>False
structure oE (H H':Hp) (p:Addr):Prop where
 rd: ∀u,Pl u->Rd H p u->Rd H' p u
 st: ∀u,Sc u->H p=some u->H' p=some u
theorem oE.of_eq {H H':Hp} {p:Addr} (h: ∀u,H p=some u->H' p=some u):oE H H' p:=
 ⟨fun u _ r=>r.elim (fun r=>.inl (h _ r)) fun⟨o,r⟩=>.inr ⟨o,h _ r⟩,fun _ _ e=>h _ e⟩
theorem oE.trans {H H1 H2:Hp} {p:Addr} (a:oE H H1 p) (b:oE H1 H2 p):oE H H2 p:=
 ⟨fun u hu r=>b.rd u hu (a.rd u hu r),fun u hu e=>b.st u hu (a.st u hu e)⟩
def Agr (S:Sa) (H H':Hp):Prop:= ∀p,S p->oE H H' p
section
variable {K:Frg} {S S':Sa} {H H':Hp}
theorem TupAt.mono (hS: ∀p,S p->S' p) (ha:Agr S H H') {a:Addr} {xs:List V} (h:TupAt K S H a xs):TupAt K S' H' a xs:=
 ⟨hS _ h.1,(ha a h.1).st _ trivial h.2⟩
mutual
theorem Rep.mono (hS: ∀p,S p->S' p) (ha:Agr S H H'): ∀(d:D) (v:V),Rep K S H d v->Rep K S' H' d v
 | .non,_,h=>h
 | .bl _,_,h=>h
 | .int _,_,h=>h
 | .str _,_,h=>h
 | .fn _,_,h=>h
 | .lst ds,v,h=>by
  unfold Rep at h⊢
  obtain⟨a,vs,e,s,l,r⟩:=h
  exact⟨a,vs,e,hS _ s,(ha a s).st _ trivial l,aC.mono hS ha ds vs r⟩
 | .sc ns,v,h=>by
  unfold Rep at h⊢
  obtain⟨a,e,l⟩:=h
  exact⟨a,e,l.imp (fun⟨s,r⟩=>⟨hS _ s,(ha a s).rd _ trivial r⟩) id⟩
 | .tup ds,v,h=>by
  unfold Rep at h⊢
  obtain⟨a,vs,e,l,r⟩:=h
  exact⟨a,vs,e,l.mono hS ha,aC.mono hS ha ds vs r⟩
 | .dct ks,v,h=>by
  unfold Rep at h⊢
  obtain⟨a,kvs,e,s,l,n,r⟩:=h
  exact⟨a,kvs,e,hS _ s,(ha a s).rd _ trivial l,n,bV.mono hS ha ks kvs r⟩
 | .dcT ks,v,h=>by
  unfold Rep at h⊢
  obtain⟨a,kvs,e,s,l,n,r⟩:=h
  exact⟨a,kvs,e,hS _ s,(ha a s).rd _ trivial l,n,gk.mono hS ha ks kvs r⟩
 | .ins C fds,v,h=>by
  unfold Rep at h⊢
  obtain⟨a,dx,fs,e,s,l,r⟩:=h
  exact⟨a,dx,fs,e,hS _ s,(ha a s).st _ trivial l,eN.mono hS ha fds fs r⟩
theorem aC.mono (hS: ∀p,S p->S' p) (ha:Agr S H H'): ∀(ds:List D) (vs:List V),aC K S H ds vs->aC K S' H' ds vs
 | [],_,h=>by unfold aC at h ⊢; exact h
 |d::ds,vs,h=>by
  unfold aC at h⊢
  obtain⟨v,r,e,h1,h2⟩:=h
  exact⟨v,r,e,Rep.mono hS ha d v h1,aC.mono hS ha ds r h2⟩
theorem bV.mono (hS: ∀p,S p->S' p) (ha:Agr S H H'): ∀(ds:List (Key×D)) (vs:List (Key×V)),bV K S H ds vs->bV K S' H' ds vs
 | [],_,h=>by unfold bV at h ⊢; exact h
 |(k,d)::ds,vs,h=>by
  unfold bV at h⊢
  obtain⟨v,r,e,h1,h2⟩:=h
  exact⟨v,r,e,Rep.mono hS ha d v h1,bV.mono hS ha ds r h2⟩
theorem gk.mono (hS: ∀p,S p->S' p) (ha:Agr S H H'): ∀(ds:List (List Key×D)) (vs:List (List Key×V)),gk K S H ds vs->gk K S' H' ds vs
 | [],_,h=>by unfold gk at h ⊢; exact h
 |(k,d)::ds,vs,h=>by
  unfold gk at h⊢
  obtain⟨v,r,e,h1,h2⟩:=h
  exact⟨v,r,e,Rep.mono hS ha d v h1,gk.mono hS ha ds r h2⟩
theorem eN.mono (hS: ∀p,S p->S' p) (ha:Agr S H H'): ∀(ds:List (Str×D)) (vs:List (Str×V)),eN K S H ds vs->eN K S' H' ds vs
 | [],_,h=>by unfold eN at h ⊢; exact h
 |(k,d)::ds,vs,h=>by
  unfold eN at h⊢
  obtain⟨v,r,e,h1,h2⟩:=h
  exact⟨v,r,e,Rep.mono hS ha d v h1,eN.mono hS ha ds r h2⟩
end
theorem aC.length: ∀{ds:List D} {vs:List V},aC K S H ds vs->vs.length=ds.length
 | [],_,h=>by unfold aC at h;rw[h];rfl
 |d::ds,vs,h=>by
  unfold aC at h
  obtain⟨v,r,rfl,_,h2⟩:=h
  rw[List.length_cons,List.length_cons,aC.length h2]
theorem aC.get: ∀{ds:List D} {vs:List V} {i:Nat} {d:D},aC K S H ds vs->ds[i]? =some d-> ∃v,vs[i]? =some v/\Rep K S H d v
 | [],_,_,_,_,e=>by simp at e
 |d::ds,vs,0,_,h,e=>by
  unfold aC at h
  obtain⟨v,r,rfl,h1,h2⟩:=h
  simp at e
  exact⟨v,rfl,e▸h1⟩
 |d::ds,vs,i+1,d',h,e=>by
  unfold aC at h
  obtain⟨v,r,rfl,h1,h2⟩:=h
  obtain⟨v',e1,e2⟩:=aC.get (i:=i) (d:=d') h2 (by simpa using e)
  exact⟨v',by simpa using e1,e2⟩
theorem aC.append: ∀{ds es:List D} {vs ws:List V},aC K S H ds vs->aC K S H es ws->aC K S H (ds++es) (vs++ws)
 | [],_,_,_,h,g=>by unfold aC at h;rw[h];exact g
 |d::ds,es,vs,ws,h,g=>by
  unfold aC at h
  obtain⟨v,r,rfl,h1,h2⟩:=h
  show aC K S H (d::(ds++es)) (v::(r++ws))
  unfold aC
  exact⟨v,r++ws,rfl,h1,aC.append h2 g⟩
theorem aC.nil:aC K S H [] []:=by unfold aC;rfl
theorem aC.cons {d:D} {v:V} {ds:List D} {vs:List V} (h:Rep K S H d v) (g:aC K S H ds vs):aC K S H (d::ds) (v::vs):=by
 unfold aC;exact⟨v,vs,rfl,h,g⟩
theorem aC.one {d:D} {v:V} (h:Rep K S H d v):aC K S H [d] [v]:=.cons h .nil
theorem aC.take: ∀{ds:List D} {vs:List V} (n:Nat),aC K S H ds vs->aC K S H (ds.take n) (vs.take n)
 |_,_,0,_=>aC.nil
 | [],_,n+1,h=>by unfold aC at h;rw[h];exact aC.nil
 |d::ds,vs,n+1,h=>by
  unfold aC at h
  obtain⟨v,r,rfl,h1,h2⟩:=h
  exact .cons h1 (aC.take n h2)
theorem aC.drop: ∀{ds:List D} {vs:List V} (n:Nat),aC K S H ds vs->aC K S H (ds.drop n) (vs.drop n)
 |_,_,0,h=>h
 | [],_,n+1,h=>by unfold aC at h;rw[h];exact aC.nil
 |d::ds,vs,n+1,h=>by
  unfold aC at h
  obtain⟨v,r,rfl,h1,h2⟩:=h
  exact aC.drop n h2
theorem bV.keys: ∀{ks:List (Key×D)} {kvs:List (Key×V)},bV K S H ks kvs->kvs.map (·.1)=ks.map (·.1)
 | [],_,h=>by unfold bV at h;rw[h];rfl
 |(k,d)::ks,_,h=>by
  unfold bV at h
  obtain⟨v,r,rfl,_,h2⟩:=h
  rw[List.map_cons,List.map_cons,bV.keys h2]
end
section
variable {κ α:Type} [DecidableEq κ]
def aF (ks:List (κ×α)) (k:κ):Option α:=(ks.find? fun p=>decide (p.1=k)).map (·.2)
def cf:List (κ×α)->κ->α->List (κ×α)
 | [],k,x=>[(k,x)]
 |p::r,k,x=>if p.1=k then (k,x)::r else p::cf r k x
def tV (ks:List (κ×α)) (k:κ):List (κ×α):=ks.filter fun p=>decide (p.1≠k)
theorem CI {k:κ}:aF ([]:List (κ×α)) k=none:=rfl
theorem aW (p:κ×α) (r:List (κ×α)) (k:κ):aF (p::r) k=if p.1=k then some p.2 else aF r k:=by
 unfold aF
 rw[List.find?_cons]
 by_cases h:p.1=k <;> simp[h]
theorem pq (k:κ) (x:α): ∀ks:List (κ×α),(cf ks k x).map (·.1)=if (aF ks k).isSome=true then ks.map (·.1) else ks.map (·.1)++[k]
 | []=>rfl
 |p::r=>by
  rw[aW]
  unfold cf
  by_cases e:p.1=k
  ·simp[e]
  ·simp only[e,if_false,List.map_cons,pq k x r]
   split <;> simp
theorem mQ {k:κ} {x:α}: ∀{ks:List (κ×α)},aF ks k=some x->(k,x)∈ks
 |p::r,h=>by
  rw[aW] at h
  by_cases e:p.1=k
  ·simp only[e,if_true,Option.some.injEq] at h
   subst h;subst e
   exact List.mem_cons_self
  ·simp only[e,if_false] at h
   exact List.mem_cons_of_mem _ (mQ h)
theorem rD {k:κ}: ∀{ks:List (κ×α)},aF ks k=none↔k∉ks.map (·.1)
 | []=>by simp[aF]
 |p::r=>by
  rw[aW,List.map_cons,List.mem_cons]
  by_cases e:p.1=k
  ·simp[e]
  ·simp only[e,if_false,rD (ks:=r),not_or]
   exact⟨fun h=>⟨fun q=>e q.symm,h⟩,fun h=>h.2⟩
theorem iu {k:κ} {x:α} {ks:List (κ×α)} (h:(ks.map (·.1)).Nodup):((cf ks k x).map (·.1)).Nodup:=by
 rw[pq]
 split
 ·exact h
 ·rename_i q
  have:aF ks k=none:=by simpa using q
  rw[rD] at this
  rw[List.nodup_append]
  exact⟨h,by simp,fun a ha b hb e=>by simp at hb;subst hb;subst e;exact this ha⟩
theorem px {k:κ} {x:α}: ∀{ks:List (κ×α)},aF ks k=some x->cf ks k x=ks
 |p::r,h=>by
  rw[aW] at h
  unfold cf
  by_cases e:p.1=k
  ·simp only[e,if_true,Option.some.injEq] at h⊢
   rw[<-h,←e]
  ·simp only[e,if_false] at h⊢
   rw[px h]
end
section
variable {K:Frg} {S S':Sa} {H H':Hp}
theorem bV.nil:bV K S H [] []:=by unfold bV;rfl
theorem bV.cons {k:Key} {d:D} {v:V} {ds:List (Key×D)} {vs:List (Key×V)} (h:Rep K S H d v) (g:bV K S H ds vs):bV K S H ((k,d)::ds) ((k,v)::vs):=by
 unfold bV;exact⟨v,vs,rfl,h,g⟩
theorem bV.get: ∀{ks:List (Key×D)} {kvs:List (Key×V)} (k:Key),bV K S H ks kvs->(∀d,aF ks k=some d-> ∃v,valV kvs k=some v/\Rep K S H d v)/\(aF ks k=none->valV kvs k=none)
 | [],_,k,h=>by
  unfold bV at h
  rw[h]
  exact⟨fun d e=>(nomatch e),fun _=>rfl⟩
 |(j,d)::ks,_,k,h=>by
  unfold bV at h
  obtain⟨v,r,rfl,h1,h2⟩:=h
  have ih:=bV.get k h2
  rw[aW]
  by_cases e:j=k
  ·subst e
   rw[valV_pos rfl]
   simp only[if_true]
   exact⟨fun d' e'=>⟨v,rfl,(Option.some.inj e')▸h1⟩,fun e'=>(nomatch e')⟩
  ·rw[valV_neg (show ¬(j,v).1=k from e)]
   simp only[e,if_false]
   exact ih
theorem bV.append: ∀{ks js:List (Key×D)} {vs ws:List (Key×V)},bV K S H ks vs->bV K S H js ws->bV K S H (ks++js) (vs++ws)
 | [],_,_,_,h,g=>by unfold bV at h;rw[h];exact g
 |(k,d)::ks,js,_,ws,h,g=>by
  unfold bV at h
  obtain⟨v,r,rfl,h1,h2⟩:=h
  exact .cons h1 (bV.append h2 g)
end
end Sw
namespace Sw
open PySem PySem.Spec PyProof.Rows L2
inductive Sh where
 |fz|ls (s:Sh)|dc (s:Sh)|dt (s:Sh)|is (fs:List (Str×Sh))|dk (od:Obj) (kvs:List (Key×V)) (s:Sh)|lz|op (s:Sh)|tp (s:Sh)|hl (ss:List Sh)|tq (ss:List Sh)|ex (v:V)
section
variable {α β:Type}
def fX (R:D->V->List Addr->Prop):List D->List V->List Addr->Prop
 | [],vs,L=>vs=[]/\L=[]
 |d::ds,vs,L=> ∃v r L1 L2,vs=v::r/\R d v L1/\fX R ds r L2/\L=L1++L2
def dC {κ:Type} (R:D->V->List Addr->Prop):List (κ×D)->List (κ×V)->List Addr->Prop
 | [],vs,L=>vs=[]/\L=[]
 |(k,d)::ds,vs,L=> ∃v r L1 L2,vs=(k,v)::r/\R d v L1/\dC R ds r L2/\L=L1++L2
end
mutual
def Own (K:Frg) (G:Sa) (H:Hp):Sh->D->V->List Addr->Prop
 | .fz,d,v,L=>Rep K G H d v/\L=[]
 | .ex v0,d,v,L=>v=v0/\Rep K G H d v/\L=[]
 | .ls s,d,v,L=> ∃a vs ds L',d= .lst ds/\v= .ref a/\H a=some (.lst vs)/\fX (Own K G H s) ds vs L'/\L=a::L'
 | .dc s,d,v,L=> ∃a vs ds L',d= .dct ds/\v= .ref a/\H a=some (.dK vs)/\(ds.map (·.1)).Nodup/\dC (Own K G H s) ds vs L'/\L=a::L'
 | .dt s,d,v,L=> ∃a vs ds L',d= .dcT ds/\v= .ref a/\H a=some (.dT vs)/\(ds.map (·.1)).Nodup/\dC (Own K G H s) ds vs L'/\L=a::L'
 | .dk od kvs s,d,v,L=> ∃a ds L',d= .dct ds/\v= .ref a/\H a=some (.frz od (.dK kvs))/\(ds.map (·.1)).Nodup/\dC (Own K G H s) ds kvs L'/\L=a::L'
 | .lz,d,v,L=> ∃a vs ds L',d= .lst ds/\v= .ref a/\H a=some (.lst vs)/\(∀p∈L',∃us,H p=some (.lst us))/\aC K (fun p=>p∈L'\/(G p/\ ∃xs,H p=some (.tup xs))) H ds vs/\L=a::L'
 | .op s,d,v,L=>(d= .non/\v= .non/\L=[])\/Own K G H s d v L
 | .tp s,d,v,L=> ∃a vs ds,d= .tup ds/\v= .ref a/\G a/\H a=some (.tup vs)/\fX (Own K G H s) ds vs L
 | .hl ss,d,v,L=> ∃a vs ds L',d= .lst ds/\v= .ref a/\H a=some (.lst vs)/\fx K G H ss ds vs L'/\L=a::L'
 | .tq ss,d,v,L=> ∃a vs ds,d= .tup ds/\v= .ref a/\G a/\H a=some (.tup vs)/\fx K G H ss ds vs L
 | .is fs,d,v,L=> ∃a C dx vs ds L',d= .ins C ds/\v= .ref a/\H a=some (.ins (He.ga K C) dx vs)/\dD K G H fs ds vs L'/\L=a::L'
def dD (K:Frg) (G:Sa) (H:Hp):List (Str×Sh)->List (Str×D)->List (Str×V)->List Addr->Prop
 | [],ds,vs,L=>ds=[]/\vs=[]/\L=[]
 |(f,s)::fs,ds,vs,L=> ∃d dr v vr L1 L2,ds=(f,d)::dr/\vs=(f,v)::vr/\Own K G H s d v L1/\dD K G H fs dr vr L2/\L=L1++L2
def fx (K:Frg) (G:Sa) (H:Hp):List Sh->List D->List V->List Addr->Prop
 | [],ds,vs,L=>ds=[]/\vs=[]/\L=[]
 |s::ss,ds,vs,L=> ∃d dr v vr L1 L2,ds=d::dr/\vs=v::vr/\Own K G H s d v L1/\fx K G H ss dr vr L2/\L=L1++L2
end
section
variable {K:Frg} {G G':Sa} {H H':Hp}
theorem fX.mono {R R':D->V->List Addr->Prop} {P:Addr->Prop} (h: ∀d v L,(∀p∈L,P p)->R d v L->R' d v L): ∀(ds:List D) (vs:List V) (L:List Addr),(∀p∈L,P p)->fX R ds vs L->fX R' ds vs L
 | [],_,_,_,o=>o
 |d::ds,_,_,hp,⟨v,r,L1,L2,e1,o1,o2,e2⟩=>by
  subst e2
  exact⟨v,r,L1,L2,e1,h _ _ _ (fun p m=>hp p (List.mem_append_left _ m)) o1,fX.mono h ds r L2 (fun p m=>hp p (List.mem_append_right _ m)) o2,rfl⟩
theorem dC.mono {κ:Type} {R R':D->V->List Addr->Prop} {P:Addr->Prop} (h: ∀d v L,(∀p∈L,P p)->R d v L->R' d v L): ∀(ds:List (κ×D)) (vs:List (κ×V)) (L:List Addr),(∀p∈L,P p)->dC R ds vs L->dC R' ds vs L
 | [],_,_,_,o=>o
 |(k,d)::ds,_,_,hp,⟨v,r,L1,L2,e1,o1,o2,e2⟩=>by
  subst e2
  exact⟨v,r,L1,L2,e1,h _ _ _ (fun p m=>hp p (List.mem_append_left _ m)) o1,dC.mono h ds r L2 (fun p m=>hp p (List.mem_append_right _ m)) o2,rfl⟩
mutual
theorem Own.mono (hG: ∀p,G p->G' p) (ha:Agr G H H'): ∀(s:Sh) (d:D) (v:V) (L:List Addr),(∀p∈L,H' p=H p)->Own K G H s d v L->Own K G' H' s d v L
 | .fz,d,v,L,_,o=>by
  unfold Own at o⊢
  exact⟨Rep.mono hG ha d v o.1,o.2⟩
 | .ex _,d,v,L,_,o=>by
  unfold Own at o⊢
  exact⟨o.1,Rep.mono hG ha d v o.2.1,o.2.2⟩
 | .ls s,d,v,L,hl,o=>by
  unfold Own at o⊢
  obtain⟨a,vs,ds,L',e1,e2,e3,o1,rfl⟩:=o
  exact⟨a,vs,ds,L',e1,e2,(hl a List.mem_cons_self).trans e3,fX.mono (fun d v L hp o=>Own.mono hG ha s d v L hp o) ds vs L' (fun p m=>hl p (List.mem_cons_of_mem _ m)) o1,rfl⟩
 | .dc s,d,v,L,hl,o=>by
  unfold Own at o⊢
  obtain⟨a,vs,ds,L',e1,e2,e3,nd,o1,rfl⟩:=o
  exact⟨a,vs,ds,L',e1,e2,(hl a List.mem_cons_self).trans e3,nd,dC.mono (fun d v L hp o=>Own.mono hG ha s d v L hp o) ds vs L' (fun p m=>hl p (List.mem_cons_of_mem _ m)) o1,rfl⟩
 | .dt s,d,v,L,hl,o=>by
  unfold Own at o⊢
  obtain⟨a,vs,ds,L',e1,e2,e3,nd,o1,rfl⟩:=o
  exact⟨a,vs,ds,L',e1,e2,(hl a List.mem_cons_self).trans e3,nd,dC.mono (fun d v L hp o=>Own.mono hG ha s d v L hp o) ds vs L' (fun p m=>hl p (List.mem_cons_of_mem _ m)) o1,rfl⟩
 | .dk od kvs s,d,v,L,hl,o=>by
  unfold Own at o⊢
  obtain⟨a,ds,L',e1,e2,e3,nd,o1,rfl⟩:=o
  exact⟨a,ds,L',e1,e2,(hl a List.mem_cons_self).trans e3,nd,dC.mono (fun d v L hp o=>Own.mono hG ha s d v L hp o) ds kvs L' (fun p m=>hl p (List.mem_cons_of_mem _ m)) o1,rfl⟩
 | .lz,d,v,L,hl,o=>by
  unfold Own at o⊢
  obtain⟨a,vs,ds,L',e1,e2,e3,nd,o1,rfl⟩:=o
  have hl': ∀p∈L',H' p=H p:=fun p m=>hl p (List.mem_cons_of_mem _ m)
  have tup: ∀p,G p->(∃xs,H p=some (.tup xs))-> ∃xs,H' p=some (.tup xs):=fun p g ⟨xs,e⟩=>⟨xs,(ha p g).st _ (by trivial) e⟩
  refine⟨a,vs,ds,L',e1,e2,(hl a List.mem_cons_self).trans e3,fun p m=>by rw[hl' p m];exact nd p m,aC.mono (fun p s=>s.imp id fun s=>⟨hG p s.1,tup p s.1 s.2⟩) (fun p s=> ?_) ds vs o1,rfl⟩
  rcases s with s|s
  ·exact oE.of_eq fun u e=>by rw[hl' p s];exact e
  ·exact ha p s.1
 | .op s,d,v,L,hl,o=>by
  unfold Own at o⊢
  exact o.imp id fun o=>Own.mono hG ha s d v L hl o
 | .tp s,d,v,L,hl,o=>by
  unfold Own at o⊢
  obtain⟨a,vs,ds,e1,e2,g,e3,o1⟩:=o
  exact⟨a,vs,ds,e1,e2,hG a g,(ha a g).st _ (by trivial) e3,fX.mono (fun d v L hp o=>Own.mono hG ha s d v L hp o) ds vs L hl o1⟩
 | .tq ss,d,v,L,hl,o=>by
  unfold Own at o⊢
  obtain⟨a,vs,ds,e1,e2,g,e3,o1⟩:=o
  exact⟨a,vs,ds,e1,e2,hG a g,(ha a g).st _ (by trivial) e3,fx.mono hG ha ss ds vs L hl o1⟩
 | .hl ss,d,v,L,hl,o=>by
  unfold Own at o⊢
  obtain⟨a,vs,ds,L',e1,e2,e3,o1,rfl⟩:=o
  exact⟨a,vs,ds,L',e1,e2,(hl a List.mem_cons_self).trans e3,fx.mono hG ha ss ds vs L' (fun p m=>hl p (List.mem_cons_of_mem _ m)) o1,rfl⟩
 | .is fs,d,v,L,hl,o=>by
  unfold Own at o⊢
  obtain⟨a,C,dx,vs,ds,L',e1,e2,e3,o1,rfl⟩:=o
  exact⟨a,C,dx,vs,ds,L',e1,e2,(hl a List.mem_cons_self).trans e3,dD.mono hG ha fs ds vs L' (fun p m=>hl p (List.mem_cons_of_mem _ m)) o1,rfl⟩
theorem dD.mono (hG: ∀p,G p->G' p) (ha:Agr G H H'): ∀(fs:List (Str×Sh)) (ds:List (Str×D)) (vs:List (Str×V)) (L:List Addr),(∀p∈L,H' p=H p)->dD K G H fs ds vs L->dD K G' H' fs ds vs L
 | [],_,_,_,_,o=>by unfold dD at o ⊢; exact o
 |(f,s)::fs,_,_,L,hl,o=>by
  unfold dD at o⊢
  obtain⟨d,dr,v,vr,L1,L2,e1,e2,o1,o2,rfl⟩:=o
  exact⟨d,dr,v,vr,L1,L2,e1,e2,Own.mono hG ha s d v L1 (fun p m=>hl p (List.mem_append_left _ m)) o1,dD.mono hG ha fs dr vr L2 (fun p m=>hl p (List.mem_append_right _ m)) o2,rfl⟩
theorem fx.mono (hG: ∀p,G p->G' p) (ha:Agr G H H'): ∀(ss:List Sh) (ds:List D) (vs:List V) (L:List Addr),(∀p∈L,H' p=H p)->fx K G H ss ds vs L->fx K G' H' ss ds vs L
 | [],_,_,_,_,o=>by unfold fx at o ⊢; exact o
 |s::ss,_,_,L,hl,o=>by
  unfold fx at o⊢
  obtain⟨d,dr,v,vr,L1,L2,e1,e2,o1,o2,rfl⟩:=o
  exact⟨d,dr,v,vr,L1,L2,e1,e2,Own.mono hG ha s d v L1 (fun p m=>hl p (List.mem_append_left _ m)) o1,fx.mono hG ha ss dr vr L2 (fun p m=>hl p (List.mem_append_right _ m)) o2,rfl⟩
end
def Nd:HO->Prop
 | .lst _=>True| .dK _=>True| .dT _=>True| .ins _ _ _=>True| .frz _ (.dK _)=>True| .frz _ (.dT _)=>True
 |_=>False
def Ndd (H:Hp) (p:Addr):Prop:= ∃u,H p=some u/\Nd u
theorem fX.kind {R:D->V->List Addr->Prop} (h: ∀d v L,R d v L-> ∀p∈L,Ndd H p): ∀(ds:List D) (vs:List V) (L:List Addr),fX R ds vs L-> ∀p∈L,Ndd H p
 | [],_,_,o,p,m=>by rw[o.2] at m;cases m
 |d::ds,_,_,⟨v,r,L1,L2,e1,o1,o2,e2⟩,p,m=>by
  subst e2
  rcases List.mem_append.mp m with m|m
  ·exact h _ _ _ o1 p m
  ·exact fX.kind h ds r L2 o2 p m
theorem dC.kind {κ:Type} {R:D->V->List Addr->Prop} (h: ∀d v L,R d v L-> ∀p∈L,Ndd H p): ∀(ds:List (κ×D)) (vs:List (κ×V)) (L:List Addr),dC R ds vs L-> ∀p∈L,Ndd H p
 | [],_,_,o,p,m=>by rw[o.2] at m;cases m
 |(k,d)::ds,_,_,⟨v,r,L1,L2,e1,o1,o2,e2⟩,p,m=>by
  subst e2
  rcases List.mem_append.mp m with m|m
  ·exact h _ _ _ o1 p m
  ·exact dC.kind h ds r L2 o2 p m
mutual
theorem Own.kind: ∀(s:Sh) (d:D) (v:V) (L:List Addr),Own K G H s d v L-> ∀p∈L,Ndd H p
 | .fz,d,v,L,o,p,m=>by
  unfold Own at o
  rw[o.2] at m;cases m
 | .ex _,d,v,L,o,p,m=>by
  unfold Own at o
  rw[o.2.2] at m;cases m
 | .ls s,d,v,L,o,p,m=>by
  unfold Own at o
  obtain⟨a,vs,ds,L',e1,e2,e3,o1,rfl⟩:=o
  rcases List.mem_cons.mp m with rfl|m
  ·exact⟨_,e3,trivial⟩
  ·exact fX.kind (fun d v L o=>Own.kind s d v L o) ds vs L' o1 p m
 | .dc s,d,v,L,o,p,m=>by
  unfold Own at o
  obtain⟨a,vs,ds,L',e1,e2,e3,nd,o1,rfl⟩:=o
  rcases List.mem_cons.mp m with rfl|m
  ·exact⟨_,e3,trivial⟩
  ·exact dC.kind (fun d v L o=>Own.kind s d v L o) ds vs L' o1 p m
 | .dt s,d,v,L,o,p,m=>by
  unfold Own at o
  obtain⟨a,vs,ds,L',e1,e2,e3,nd,o1,rfl⟩:=o
  rcases List.mem_cons.mp m with rfl|m
  ·exact⟨_,e3,trivial⟩
  ·exact dC.kind (fun d v L o=>Own.kind s d v L o) ds vs L' o1 p m
 | .dk od kvs s,d,v,L,o,p,m=>by
  unfold Own at o
  obtain⟨a,ds,L',e1,e2,e3,nd,o1,rfl⟩:=o
  rcases List.mem_cons.mp m with rfl|m
  ·exact⟨_,e3,trivial⟩
  ·exact dC.kind (fun d v L o=>Own.kind s d v L o) ds kvs L' o1 p m
 | .lz,d,v,L,o,p,m=>by
  unfold Own at o
  obtain⟨a,vs,ds,L',e1,e2,e3,nd,o1,rfl⟩:=o
  rcases List.mem_cons.mp m with rfl|m
  ·exact⟨_,e3,trivial⟩
  ·obtain⟨us,e⟩:=nd p m
   exact⟨_,e,trivial⟩
 | .op s,d,v,L,o,p,m=>by
  unfold Own at o
  rcases o with ⟨_,_,e⟩|o
  ·rw[e] at m;cases m
  ·exact Own.kind s d v L o p m
 | .tp s,d,v,L,o,p,m=>by
  unfold Own at o
  obtain⟨a,vs,ds,e1,e2,g,e3,o1⟩:=o
  exact fX.kind (fun d v L o=>Own.kind s d v L o) ds vs L o1 p m
 | .tq ss,d,v,L,o,p,m=>by
  unfold Own at o
  obtain⟨a,vs,ds,e1,e2,g,e3,o1⟩:=o
  exact fx.kind ss ds vs L o1 p m
 | .hl ss,d,v,L,o,p,m=>by
  unfold Own at o
  obtain⟨a,vs,ds,L',e1,e2,e3,o1,rfl⟩:=o
  rcases List.mem_cons.mp m with rfl|m
  ·exact⟨_,e3,trivial⟩
  ·exact fx.kind ss ds vs L' o1 p m
 | .is fs,d,v,L,o,p,m=>by
  unfold Own at o
  obtain⟨a,C,dx,vs,ds,L',e1,e2,e3,o1,rfl⟩:=o
  rcases List.mem_cons.mp m with rfl|m
  ·exact⟨_,e3,trivial⟩
  ·exact dD.kind fs ds vs L' o1 p m
theorem dD.kind: ∀(fs:List (Str×Sh)) (ds:List (Str×D)) (vs:List (Str×V)) (L:List Addr),dD K G H fs ds vs L-> ∀p∈L,Ndd H p
 | [],_,_,L,o,p,m=>by
  unfold dD at o
  rw[o.2.2] at m;cases m
 |(f,s)::fs,_,_,L,o,p,m=>by
  unfold dD at o
  obtain⟨d,dr,v,vr,L1,L2,e1,e2,o1,o2,rfl⟩:=o
  rcases List.mem_append.mp m with m|m
  ·exact Own.kind s d v L1 o1 p m
  ·exact dD.kind fs dr vr L2 o2 p m
theorem fx.kind: ∀(ss:List Sh) (ds:List D) (vs:List V) (L:List Addr),fx K G H ss ds vs L-> ∀p∈L,Ndd H p
 | [],_,_,L,o,p,m=>by
  unfold fx at o
  rw[o.2.2] at m;cases m
 |s::ss,_,_,L,o,p,m=>by
  unfold fx at o
  obtain⟨d,dr,v,vr,L1,L2,e1,e2,o1,o2,rfl⟩:=o
  rcases List.mem_append.mp m with m|m
  ·exact Own.kind s d v L1 o1 p m
  ·exact fx.kind ss dr vr L2 o2 p m
end
theorem aB {S:Sa} {H:Hp}:Agr S H H:=fun p _=>oE.of_eq fun _ e=>e
theorem H7 {S:Sa} {H H':Hp} (h: ∀p u,H p=some u->(∀ps,u≠ .tbl ps)->H' p=some u):Agr S H H':=fun p _=>
 ⟨fun u hu r=>r.elim (fun r=>.inl (h _ _ r (fun ps z=>by subst z;exact hu))) fun⟨o,r⟩=>.inr ⟨o,h _ _ r fun _ z=>by cases z⟩,fun u hu e=>h _ _ e (fun ps z=>by subst z;exact hu)⟩
theorem CJ {S:Sa} {H H':Hp} (h: ∀p u,H p=some u->H' p=some u):Agr S H H':=fun p _=>oE.of_eq (h p)
theorem fX.rep {R:D->V->List Addr->Prop} (h: ∀d v L,R d v L->Rep K (fun p=>G p\/p∈L) H d v): ∀(ds:List D) (vs:List V) (L:List Addr),fX R ds vs L->aC K (fun p=>G p\/p∈L) H ds vs
 | [],_,_,o=>by rw[o.1];exact .nil
 |d::ds,_,_,⟨v,r,L1,L2,e1,o1,o2,e2⟩=>by
  subst e2;subst e1
  exact .cons (Rep.mono (fun p x=>x.imp id (List.mem_append_left _)) aB _ _ (h _ _ _ o1)) (aC.mono (fun p x=>x.imp id (List.mem_append_right _)) aB _ _ (fX.rep h ds r L2 o2))
theorem dC.H8 {R:D->V->List Addr->Prop} (h: ∀d v L,R d v L->Rep K (fun p=>G p\/p∈L) H d v): ∀(ds:List (Key×D)) (vs:List (Key×V)) (L:List Addr),dC R ds vs L->bV K (fun p=>G p\/p∈L) H ds vs
 | [],_,_,o=>by rw[o.1];exact .nil
 |(k,d)::ds,_,_,⟨v,r,L1,L2,e1,o1,o2,e2⟩=>by
  subst e2;subst e1
  exact .cons (Rep.mono (fun p x=>x.imp id (List.mem_append_left _)) aB _ _ (h _ _ _ o1)) (bV.mono (fun p x=>x.imp id (List.mem_append_right _)) aB _ _ (dC.H8 h ds r L2 o2))
theorem dC.JS {R:D->V->List Addr->Prop} (h: ∀d v L,R d v L->Rep K (fun p=>G p\/p∈L) H d v): ∀(ds:List (List Key×D)) (vs:List (List Key×V)) (L:List Addr),dC R ds vs L->gk K (fun p=>G p\/p∈L) H ds vs
 | [],_,_,o=>by rw[o.1];unfold gk;rfl
 |(k,d)::ds,_,_,⟨v,r,L1,L2,e1,o1,o2,e2⟩=>by
  subst e2;subst e1
  unfold gk
  exact⟨v,r,rfl,Rep.mono (fun p x=>x.imp id (List.mem_append_left _)) aB _ _ (h _ _ _ o1),gk.mono (fun p x=>x.imp id (List.mem_append_right _)) aB _ _ (dC.JS h ds r L2 o2)⟩
mutual
theorem Own.rep: ∀(s:Sh) (d:D) (v:V) (L:List Addr),Own K G H s d v L->Rep K (fun p=>G p\/p∈L) H d v
 | .fz,d,v,L,o=>by
  unfold Own at o
  exact Rep.mono (fun p x=>.inl x) aB _ _ o.1
 | .ex _,d,v,L,o=>by
  unfold Own at o
  exact Rep.mono (fun p x=>.inl x) aB _ _ o.2.1
 | .ls s,d,v,L,o=>by
  unfold Own at o
  obtain⟨a,vs,ds,L',rfl,rfl,e3,o1,rfl⟩:=o
  unfold Rep
  exact⟨a,vs,rfl,.inr List.mem_cons_self,e3,aC.mono (fun p x=>x.imp id (List.mem_cons_of_mem _)) aB _ _ (fX.rep (fun d v L o=>Own.rep s d v L o) ds vs L' o1)⟩
 | .dc s,d,v,L,o=>by
  unfold Own at o
  obtain⟨a,vs,ds,L',rfl,rfl,e3,nd,o1,rfl⟩:=o
  unfold Rep
  exact⟨a,vs,rfl,.inr List.mem_cons_self,.inl e3,nd,bV.mono (fun p x=>x.imp id (List.mem_cons_of_mem _)) aB _ _ (dC.H8 (fun d v L o=>Own.rep s d v L o) ds vs L' o1)⟩
 | .dt s,d,v,L,o=>by
  unfold Own at o
  obtain⟨a,vs,ds,L',rfl,rfl,e3,nd,o1,rfl⟩:=o
  unfold Rep
  exact⟨a,vs,rfl,.inr List.mem_cons_self,.inl e3,nd,gk.mono (fun p x=>x.imp id (List.mem_cons_of_mem _)) aB _ _ (dC.JS (fun d v L o=>Own.rep s d v L o) ds vs L' o1)⟩
 | .dk od kvs s,d,v,L,o=>by
  unfold Own at o
  obtain⟨a,ds,L',rfl,rfl,e3,nd,o1,rfl⟩:=o
  unfold Rep
  exact⟨a,kvs,rfl,.inr List.mem_cons_self,.inr ⟨od,e3⟩,nd,bV.mono (fun p x=>x.imp id (List.mem_cons_of_mem _)) aB _ _ (dC.H8 (fun d v L o=>Own.rep s d v L o) ds kvs L' o1)⟩
 | .lz,d,v,L,o=>by
  unfold Own at o
  obtain⟨a,vs,ds,L',rfl,rfl,e3,nd,o1,rfl⟩:=o
  unfold Rep
  exact⟨a,vs,rfl,.inr List.mem_cons_self,e3,aC.mono (fun p s=>s.elim (fun s=>.inr (List.mem_cons_of_mem _ s)) (fun s=>.inl s.1)) aB _ _ o1⟩
 | .op s,d,v,L,o=>by
  unfold Own at o
  rcases o with ⟨e1,e2,_⟩|o
  ·subst e1;subst e2
   unfold Rep
   rfl
  ·exact Own.rep s d v L o
 | .tp s,d,v,L,o=>by
  unfold Own at o
  obtain⟨a,vs,ds,rfl,rfl,g,e3,o1⟩:=o
  unfold Rep
  exact⟨a,vs,rfl,⟨.inl g,e3⟩,fX.rep (fun d v L o=>Own.rep s d v L o) ds vs L o1⟩
 | .tq ss,d,v,L,o=>by
  unfold Own at o
  obtain⟨a,vs,ds,rfl,rfl,g,e3,o1⟩:=o
  unfold Rep
  exact⟨a,vs,rfl,⟨.inl g,e3⟩,fx.rep ss ds vs L o1⟩
 | .hl ss,d,v,L,o=>by
  unfold Own at o
  obtain⟨a,vs,ds,L',rfl,rfl,e3,o1,rfl⟩:=o
  unfold Rep
  exact⟨a,vs,rfl,.inr List.mem_cons_self,e3,aC.mono (fun p x=>x.imp id (List.mem_cons_of_mem _)) aB _ _ (fx.rep ss ds vs L' o1)⟩
 | .is fs,d,v,L,o=>by
  unfold Own at o
  obtain⟨a,C,dx,vs,ds,L',rfl,rfl,e3,o1,rfl⟩:=o
  unfold Rep
  exact⟨a,dx,vs,rfl,.inr List.mem_cons_self,e3,eN.mono (fun p x=>x.imp id (List.mem_cons_of_mem _)) aB _ _ (dD.rep fs ds vs L' o1)⟩
theorem dD.rep: ∀(fs:List (Str×Sh)) (ds:List (Str×D)) (vs:List (Str×V)) (L:List Addr),dD K G H fs ds vs L->eN K (fun p=>G p\/p∈L) H ds vs
 | [],_,_,L,o=>by
  unfold dD at o
  rw[o.1,o.2.1];unfold eN;rfl
 |(f,s)::fs,_,_,L,o=>by
  unfold dD at o
  obtain⟨d,dr,v,vr,L1,L2,rfl,rfl,o1,o2,rfl⟩:=o
  unfold eN
  exact⟨v,vr,rfl,Rep.mono (fun p x=>x.imp id (List.mem_append_left _)) aB _ _ (Own.rep s d v L1 o1),eN.mono (fun p x=>x.imp id (List.mem_append_right _)) aB _ _ (dD.rep fs dr vr L2 o2)⟩
theorem fx.rep: ∀(ss:List Sh) (ds:List D) (vs:List V) (L:List Addr),fx K G H ss ds vs L->aC K (fun p=>G p\/p∈L) H ds vs
 | [],_,_,L,o=>by
  unfold fx at o
  rw[o.1,o.2.1];exact .nil
 |s::ss,_,_,L,o=>by
  unfold fx at o
  obtain⟨d,dr,v,vr,L1,L2,rfl,rfl,o1,o2,rfl⟩:=o
  exact .cons (Rep.mono (fun p x=>x.imp id (List.mem_append_left _)) aB _ _ (Own.rep s d v L1 o1)) (aC.mono (fun p x=>x.imp id (List.mem_append_right _)) aB _ _ (fx.rep ss dr vr L2 o2))
end
end
abbrev CS:=L2.St
def Spn (K:Frg) (B G:Sa) (H:Hp) (d:D) (v:V):Prop:= ∃a vs ds,d= .lst ds/\v= .ref a/\B a/\H a=some (.lst vs)/\aC K G H ds vs
theorem Spn.mono {K:Frg} {B B' G G':Sa} {H H':Hp} {d:D} {v:V} (hB: ∀p,B p->B' p) (hG: ∀p,G p->G' p) (ha:Agr G H H') (hb:Agr B H H') (h:Spn K B G H d v):Spn K B' G' H' d v:=by
 obtain⟨a,vs,ds,e1,e2,b,hl,r⟩:=h
 exact⟨a,vs,ds,e1,e2,hB a b,(hb a b).st _ trivial hl,aC.mono hG ha ds vs r⟩
theorem Spn.rep {K:Frg} {B G:Sa} {H:Hp} {d:D} {v:V} (h:Spn K B G H d v):Rep K (fun _=>True) H d v:=by
 obtain⟨a,vs,ds,rfl,rfl,b,hl,r⟩:=h
 unfold Rep
 exact⟨a,vs,rfl,trivial,hl,aC.mono (fun _ _=>trivial) aB ds vs r⟩
inductive Md where
 |bo|fz|ow (s:Sh)|pn (v:V) (s:Sh)|bl
def lu (K:Frg) (B G:Sa) (H:Hp):Md->Option D->Option V->List Addr->Prop
 |_,none,_,L=>L=[]
 | .bo,some d,sv,L=> ∃v,sv=some v/\Rep K B H d v/\L=[]
 | .fz,some d,sv,L=> ∃v,sv=some v/\Rep K G H d v/\L=[]
 | .ow s,some d,sv,L=> ∃v,sv=some v/\Own K G H s d v L
 | .pn v s,some d,sv,L=>sv=some v/\Own K G H s d v L
 | .bl,some d,sv,L=> ∃v,sv=some v/\Spn K B G H d v/\L=[]
abbrev Ds:=List (Option D)
def Slots (K:Frg) (B G:Sa) (H:Hp):List Md->Ds->CS->List Addr->Prop
 | [],[],[],L=>L=[]
 |m::ms,x::xs,y::ys,L=> ∃L1 L2,lu K B G H m x y L1/\Slots K B G H ms xs ys L2/\L=L1++L2
 |_,_,_,_=>False
structure Org where
 G0:Sa
 H0:Hp
 L0:List Addr
 B:Sa
class NmC where
 T:List (Addr×Str)
instance (priority:=low) nm0:NmC:=⟨[]⟩
variable [NmC]
def NT (u:HO):Prop:= ∀ps,u≠ .tbl ps
structure cG (O:Org) (H:Hp) (G:Sa) (L:List Addr):Prop where
 bin: ∀p,O.B p->O.H0 p≠none/\p∉O.L0
 fr0: ∀p u,O.H0 p=some u->p∉O.L0->NT u->H p=some u
 gsub: ∀p,O.G0 p->G p
 gold: ∀p,G p->O.G0 p\/O.H0 p=none\/(∃xs,O.H0 p=some (.tup xs))\/p∈O.L0
 gin: ∀p,G p->H p≠none
 dom: ∀p,O.H0 p≠none->H p≠none
 nd:L.Nodup
 lg: ∀p∈L,¬G p/\(p∈O.L0\/O.H0 p=none)
 tl: ∀p ps,O.H0 p=some (.tbl ps)-> ∃ps',H p=some (.tbl ps')
 tb:LamX.Tabs NmC.T H
theorem cG.frame {O:Org} {H:Hp} {G:Sa} {L:List Addr} (r:cG O H G L) (p:Addr) (u:HO) (e:O.H0 p=some u) (n:p∉O.L0) (t:NT u:=by first|assumption|(intro _ z;cases z;done)):H p=some u:=r.fr0 p u e n t
def Rel (K:Frg) (O:Org) (Δ:List Md) (st:Ds) (σ:CS) (H:Hp) (G:Sa):Prop:= ∃L,cG O H G L/\Slots K O.B G H Δ st σ L
structure Ext (H:Hp) (G:Sa) (H':Hp) (G':Sa):Prop where
 hx: ∀p u,H p=some u->NT u->H' p=some u
 gg: ∀p,G p->G' p
 gn: ∀p,G' p->G p\/(H p=none/\H' p≠none)\/ ∃xs,H p=some (.tup xs)
 tl: ∀p ps,H p=some (.tbl ps)-> ∃ps',H' p=some (.tbl ps')
 tb:LamX.Tabs NmC.T H->LamX.Tabs NmC.T H'
theorem Ext.hh {H:Hp} {G:Sa} {H':Hp} {G':Sa} (x:Ext H G H' G') (p:Addr) (u:HO) (e:H p=some u) (t:NT u:=by first|assumption|(intro _ z;cases z;done)):H' p=some u:=x.hx p u e t
theorem CK (u:HO):NT u\/ ∃ps,u= .tbl ps:=by
 cases u with
 |tbl ps=>exact .inr ⟨ps,rfl⟩
 |_=>exact .inl fun _ z=>by cases z
theorem Ext.dm {H:Hp} {G:Sa} {H':Hp} {G':Sa} (x:Ext H G H' G') (p:Addr) (h:H p≠none):H' p≠none:=by
 cases q:H p with
 |none=>exact absurd q h
 |some u=>
  rcases CK u with n|⟨ps,rfl⟩
  ·rw[x.hh p u q];simp
  ·obtain⟨ps',e⟩:=x.tl p ps q
   rw[e];simp
theorem Ext.bk {H:Hp} {G:Sa} {H':Hp} {G':Sa} (x:Ext H G H' G') {p:Addr} (h:H' p=none):H p=none:=by
 cases q:H p with
 |none=>rfl
 |some u=>exact absurd h (x.dm p (by rw[q];simp))
theorem Ext.was {H:Hp} {G:Sa} {H':Hp} {G':Sa} (x:Ext H G H' G') {p:Addr} {u:HO} (h:H' p=some u) (n:NT u):H p=some u\/H p=none:=by
 cases q:H p with
 |none=>exact .inr rfl
 |some v=>
  rcases CK v with m|⟨ps,rfl⟩
  ·have:=x.hh p v q
   rw[h] at this;exact .inl (by rw[this])
  ·obtain⟨ps',e⟩:=x.tl p ps q
   rw[h] at e;cases e
   exact absurd rfl (n ps')
theorem cG.was {O:Org} {H:Hp} {G:Sa} {L:List Addr} (r:cG O H G L) {p:Addr} {u:HO} (h:H p=some u) (n:NT u):O.H0 p=some u\/O.H0 p=none\/p∈O.L0:=by
 cases q:O.H0 p with
 |none=>exact .inr (.inl rfl)
 |some v=>
  by_cases hp:p∈O.L0
  ·exact .inr (.inr hp)
  ·rcases CK v with m|⟨ps,rfl⟩
   ·have:=r.frame p v q hp
    rw[h] at this;exact .inl (by rw[this])
   ·obtain⟨ps',e⟩:=r.tl p ps q
    rw[h] at e;cases e
    exact absurd rfl (n ps')
theorem Ext.of {H:Hp} {G:Sa} {H':Hp} {G':Sa} (hh: ∀p u,H p=some u->H' p=some u) (gg: ∀p,G p->G' p) (gn: ∀p,G' p->G p\/(H p=none/\H' p≠none)\/ ∃xs,H p=some (.tup xs)):Ext H G H' G':=
 ⟨fun p u e _=>hh p u e,gg,gn,fun p ps e=>⟨ps,hh p _ e⟩,fun t=>LamX.Tabs.ext t hh⟩
theorem Ext.re {H:Hp} {G:Sa} {H':Hp} {G' G1:Sa} (x:Ext H G H' G') (gg: ∀p,G p->G1 p) (gn: ∀p,G1 p->G p\/(H p=none/\H' p≠none)\/ ∃xs,H p=some (.tup xs)):Ext H G H' G1:=⟨x.hx,gg,gn,x.tl,x.tb⟩
theorem Ext.refl {H:Hp} {G:Sa}:Ext H G H G:=.of (fun _ _ e=>e) (fun _ g=>g) (fun _ g=>.inl g)
theorem Ext.trans {H H1 H2:Hp} {G G1 G2:Sa} (a:Ext H G H1 G1) (b:Ext H1 G1 H2 G2):Ext H G H2 G2:=
 ⟨fun p u e t=>b.hh p u (a.hh p u e),fun p g=>b.gg p (a.gg p g),fun p g=>by
  rcases b.gn p g with g|⟨e1,e2⟩|⟨xs,e⟩
  ·rcases a.gn p g with g|⟨e1,e2⟩|⟨xs,e⟩
   ·exact .inl g
   ·exact .inr (.inl ⟨e1,b.dm p e2⟩)
   ·exact .inr (.inr ⟨xs,e⟩)
  ·exact .inr (.inl ⟨a.bk e1,e2⟩)
  ·rcases a.was e (fun _ z=>by cases z) with q|q
   ·exact .inr (.inr ⟨xs,q⟩)
   ·exact .inr (.inl ⟨q,b.dm p (by rw[e];simp)⟩),
  fun p ps e=>by
   obtain⟨ps1,e1⟩:=a.tl p ps e
   exact b.tl p ps1 e1,
  fun t=>b.tb (a.tb t)⟩
section
variable {K:Frg} {O:Org} {B G G':Sa} {H H':Hp} {Δ:List Md} {st:Ds} {σ:CS} {L:List Addr}
theorem lu.mono {m:Md} {x:Option D} {y:Option V} (hG: ∀p,G p->G' p) (ha:Agr G H H') (hb:Agr B H H') (hl: ∀p∈L,H' p=H p) (h:lu K B G H m x y L):lu K B G' H' m x y L:=by
 cases x with
 |none=>cases m <;> exact h
 |some d=>
  cases m with
  |bo=>obtain⟨v,e,r,l⟩:=h;exact⟨v,e,Rep.mono (fun _ g=>g) hb d v r,l⟩
  |fz=>obtain⟨v,e,r,l⟩:=h;exact⟨v,e,Rep.mono hG ha d v r,l⟩
  |ow s=>obtain⟨v,e,r⟩:=h;exact⟨v,e,Own.mono hG ha s d v L hl r⟩
  |pn v s=>obtain⟨e,r⟩:=h;exact⟨e,Own.mono hG ha s d v L hl r⟩
  |bl=>obtain⟨v,e,r,l⟩:=h;exact⟨v,e,r.mono (fun _ g=>g) hG ha hb,l⟩
theorem lu.kind {m:Md} {x:Option D} {y:Option V} (h:lu K B G H m x y L): ∀p∈L,Ndd H p:=by
 cases x with
 |none=>cases m <;> (intro p m;rw[show L=[] from h] at m;cases m)
 |some d=>
  cases m with
  |bo=>obtain⟨v,e,r,l⟩:=h;intro p m;rw[l] at m;cases m
  |fz=>obtain⟨v,e,r,l⟩:=h;intro p m;rw[l] at m;cases m
  |ow s=>obtain⟨v,e,r⟩:=h;exact Own.kind s d v L r
  |pn v s=>obtain⟨e,r⟩:=h;exact Own.kind s d v L r
  |bl=>obtain⟨v,e,r,l⟩:=h;intro p m;rw[l] at m;cases m
theorem Slots.mono (hG: ∀p,G p->G' p) (ha:Agr G H H') (hb:Agr B H H'): ∀{Δ:List Md} {st:Ds} {σ:CS} {L:List Addr},(∀p∈L,H' p=H p)->Slots K B G H Δ st σ L->Slots K B G' H' Δ st σ L
 | [],[],[],_,_,h=>h
 |m::ms,x::xs,y::ys,_,hl,⟨L1,L2,h1,h2,e⟩=>by
  subst e
  exact⟨L1,L2,lu.mono hG ha hb (fun p m=>hl p (List.mem_append_left _ m)) h1,Slots.mono hG ha hb (fun p m=>hl p (List.mem_append_right _ m)) h2,rfl⟩
 | [],[],_::_,_,_,h=>h.elim
 | [],_::_,_,_,_,h=>h.elim
 |_::_,[],_,_,_,h=>h.elim
 |_::_,_::_,[],_,_,h=>h.elim
theorem Slots.kind: ∀{Δ:List Md} {st:Ds} {σ:CS} {L:List Addr},Slots K B G H Δ st σ L-> ∀p∈L,Ndd H p
 | [],[],[],_,h,p,m=>by rw[show _=[] from h] at m;cases m
 |m::ms,x::xs,y::ys,_,⟨L1,L2,h1,h2,e⟩,p,m'=>by
  subst e
  rcases List.mem_append.mp m' with m'|m'
  ·exact h1.kind p m'
  ·exact Slots.kind h2 p m'
 | [],[],_::_,_,h,_,_=>h.elim
 | [],_::_,_,_,h,_,_=>h.elim
 |_::_,[],_,_,h,_,_=>h.elim
 |_::_,_::_,[],_,h,_,_=>h.elim
theorem Ext.agr {S:Sa} (e:Ext H G H' G'):Agr S H H':=H7 e.hx
theorem Ndd.ne {p:Addr} (h:Ndd H p):H p≠none:=by
 obtain⟨u,e,_⟩:=h
 rw[e];simp
theorem Ndd.CL {p:Addr} {xs:List V} (h:Ndd H p) (e:H p=some (.tup xs)):False:=by
 obtain⟨u,e',n⟩:=h
 rw[e] at e';cases e';exact n
theorem Nd.nt {u:HO} (n:Nd u):NT u:=fun ps z=>by subst z;exact n
theorem Ndd.nt {p:Addr} {u:HO} (h:Ndd H p) (e:H p=some u):NT u:=by
 obtain⟨v,q,n⟩:=h
 rw[q] at e;cases e;exact n.nt
theorem Ext.vI (e:Ext H G H' G') {p:Addr} (h:Ndd H p):H' p=H p:=by
 obtain⟨u,q,n⟩:=h
 rw[q];exact e.hh p u q n.nt
theorem cG.ext (r:cG O H G L) (e:Ext H G H' G') (hk: ∀p∈L,Ndd H p) (gin: ∀p,G' p->H' p≠none):cG O H' G' L where
 bin:=r.bin
 fr0:=fun p u h n t=>e.hh p u (r.frame p u h n)
 gsub:=fun p g=>e.gg p (r.gsub p g)
 gold:=fun p g=>by
  rcases e.gn p g with g|⟨n,_⟩|⟨xs,t⟩
  ·exact r.gold p g
  ·refine .inr (.inl ?_)
   cases q:O.H0 p with
   |none=>rfl
   |some u=>exact absurd n (r.dom p (by rw[q];simp))
  ·rcases r.was t (fun _ z=>by cases z) with q|q|q
   ·exact .inr (.inr (.inl ⟨xs,q⟩))
   ·exact .inr (.inl q)
   ·exact .inr (.inr (.inr q))
 gin:=gin
 dom:=fun p h=>e.dm p (r.dom p h)
 nd:=r.nd
 lg:=fun p m=>⟨fun g=>by
  rcases e.gn p g with g|⟨n,_⟩|⟨xs,t⟩
  ·exact (r.lg p m).1 g
  ·exact (hk p m).ne n
  ·exact (hk p m).CL t,(r.lg p m).2⟩
 tl:=fun p ps h=>by
  obtain⟨ps1,e1⟩:=r.tl p ps h
  exact e.tl p ps1 e1
 tb:=e.tb r.tb
theorem Ext.gin (e:Ext H G H' G') (h: ∀p,G p->H p≠none): ∀p,G' p->H' p≠none:=fun p g=>by
 rcases e.gn p g with g|⟨_,n⟩|⟨xs,t⟩
 ·exact e.dm p (h p g)
 ·exact n
 ·exact e.dm p (by rw[t];simp)
theorem Rel.ext (r:Rel K O Δ st σ H G) (e:Ext H G H' G'):Rel K O Δ st σ H' G':=by
 obtain⟨L,g,s⟩:=r
 exact⟨L,g.ext e s.kind (e.gin g.gin),Slots.mono e.gg e.agr e.agr (fun p m=>e.vI (s.kind p m)) s⟩
end
theorem CM {H H':Hp} (hh: ∀p u,H p=some u-> ¬Nd u->H' p=some u) (t:LamX.Tabs NmC.T H):LamX.Tabs NmC.T H':=fun q hq=>by
 obtain⟨ps,h1,h2,h3⟩:=t q hq
 refine⟨ps,hh _ _ h1 (fun n=>n),h2,fun pos cv hc=> ?_⟩
 obtain⟨c,e1,e2⟩:=h3 pos cv hc
 exact⟨c,e1,hh _ _ e2 (fun n=>n)⟩
theorem yp {H:Hp} {a:Addr} {o:HO} (h:Ndd H a\/H a=none) (t:LamX.Tabs NmC.T H):LamX.Tabs NmC.T (upd H a o):=CM (fun p u e n=>by
 have hne:p≠a:=fun z=>by
  subst z
  rcases h with ⟨v,q,m⟩|q
  ·rw[q] at e;cases e;exact n m
  ·rw[q] at e;cases e
 rw[upd_ne hne];exact e) t
theorem CN {H:Hp} {a:Addr} {o:HO} (h:Ndd H a\/H a=none) {p:Addr} (e: ∃ps,H p=some (.tbl ps)): ∃ps,upd H a o p=some (.tbl ps):=by
 obtain⟨ps,e⟩:=e
 have hne:p≠a:=fun z=>by
  subst z
  rcases h with ⟨v,q,m⟩|q
  ·rw[q] at e;cases e;exact m
  ·rw[q] at e;cases e
 exact⟨ps,by rw[upd_ne hne];exact e⟩
theorem oE.JT {H H':Hp} {p:Addr} (h: ∀u,NT u->H p=some u->H' p=some u):oE H H' p:=
 ⟨fun u hu r=>r.elim (fun r=>.inl (h _ (fun ps z=>by subst z;exact hu) r)) fun⟨o,r⟩=>.inr ⟨o,h _ (fun _ z=>by cases z) r⟩,fun u hu e=>h _ (fun ps z=>by subst z;exact hu) e⟩
theorem Ext.LP {H H':Hp} {G G':Sa} {D:Addr} {o:HO} (x:Ext H G H' G') (hD:H D=none) (hd:Ndd H' D):Ext H G (upd H' D o) G':=
 ⟨fun p u e _=>by rw[upd_ne (ne_of_none e hD)];exact x.hh p u e,x.gg,fun p g=>by
  rcases x.gn p g with g|⟨n,n2⟩|t
  ·exact .inl g
  ·refine .inr (.inl ⟨n,?_⟩)
   by_cases hp:p=D
   ·subst hp;rw[upd_same];simp
   ·rw[upd_ne hp];exact n2
  ·exact .inr (.inr t),fun p ps e=>CN (.inl hd) (x.tl p ps e),fun t=>yp (.inl hd) (x.tb t)⟩
end Sw
namespace Sw
open PySem PySem.Spec PyProof.Rows L2
variable [NmC]
section
variable {K:Frg} {O:Org} {B G:Sa} {H:Hp}
theorem eO {α:Type} (a b c:List α):(a++(b++c)).Perm (b++(a++c)):=by
 rw[<-List.append_assoc,←List.append_assoc]
 exact List.perm_append_comm.append_right c
theorem Slots.split: ∀{Δ:List Md} {st:Ds} {σ:CS} {L:List Addr} {i:Nat} {m:Md},Slots K B G H Δ st σ L->Δ[i]? =some m→
  ∃x y L1 L2,st[i]? =some x/\σ[i]? =some y/\lu K B G H m x y L1/\L.Perm (L1++L2)∧
   ∀(G':Sa) (H':Hp) m' x' y' L1',(∀p,G p->G' p)->Agr G H H'->Agr B H H'->(∀p∈L2,H' p=H p)->lu K B G' H' m' x' y' L1'→
    ∃L',L'.Perm (L1'++L2)/\Slots K B G' H' (Δ.set i m') (st.set i x') (σ.set i y') L'
 |m::ms,x::xs,y::ys,_,0,_,⟨L1,L2,h1,h2,e⟩,e0=>by
  subst e
  cases e0
  exact⟨x,y,L1,L2,rfl,rfl,h1,.refl _,fun G' H' m' x' y' L1' hG ha hb hl s=>⟨L1'++L2,.refl _,L1',L2,s,h2.mono hG ha hb hl,rfl⟩⟩
 |m::ms,x::xs,y::ys,_,i+1,m0,⟨L1,L2,h1,h2,e⟩,e0=>by
  subst e
  obtain⟨x1,y1,M1,M2,ex,ey,s1,pm,f⟩:=Slots.split (i:=i) (m:=m0) h2 (by simpa using e0)
  refine⟨x1,y1,M1,L1++M2,by simpa using ex,by simpa using ey,s1,((List.Perm.append_left L1 pm).trans (eO L1 M1 M2)),fun G' H' m' x' y' L1' hG ha hb hl s=> ?_⟩
  obtain⟨L',pm',s'⟩:=f G' H' m' x' y' L1' hG ha hb (fun p hp=>hl p (List.mem_append_right _ hp)) s
  exact⟨L1++L',(List.Perm.append_left L1 pm').trans (eO L1 L1' M2),L1,L',h1.mono hG ha hb (fun p hp=>hl p (List.mem_append_left _ hp)),s',rfl⟩
 | [],[],[],_,_,_,_,e0=>by cases e0
 | [],[],_::_,_,_,_,h,_=>h.elim
 | [],_::_,_,_,_,_,h,_=>h.elim
 |_::_,[],_,_,_,_,h,_=>h.elim
 |_::_,_::_,[],_,_,_,h,_=>h.elim
theorem Slots.len: ∀{Δ:List Md} {st:Ds} {σ:CS} {L:List Addr},Slots K B G H Δ st σ L->st.length=Δ.length/\σ.length=Δ.length
 | [],[],[],_,_=>⟨rfl,rfl⟩
 |m::ms,x::xs,y::ys,_,⟨L1,L2,h1,h2,e⟩=>by
  have:=Slots.len h2
  simp[this.1,this.2]
 | [],[],_::_,_,h=>h.elim
 | [],_::_,_,_,h=>h.elim
 |_::_,[],_,_,h=>h.elim
 |_::_,_::_,[],_,h=>h.elim
theorem iN {α:Type} {l:List α} {i:Nat} {x:α} (h:l[i]? =some x):l.set i x=l:=by
 apply List.ext_getElem?
 intro j
 by_cases e:i=j
 ·subst e
  rw[List.getElem?_set_self (List.getElem?_eq_some_iff.mp h).1,h]
 ·rw[List.getElem?_set_ne e]
inductive Wk:List Md->Ds->List Md->Ds->Prop where
 |nil:Wk [] [] [] []
 |keep {m:Md} {x:Option D} {ms ns:List Md} {xs zs:Ds}:Wk ms xs ns zs->Wk (m::ms) (x::xs) (m::ns) (x::zs)
 |drop {m n:Md} {x:Option D} {ms ns:List Md} {xs zs:Ds}:Wk ms xs ns zs->Wk (m::ms) (x::xs) (n::ns) (none::zs)
theorem lu.none {m:Md} {y:Option V}:lu K B G H m none y []:=by cases m <;> rfl
theorem Slots.weak: ∀{Δ Δ':List Md} {st st':Ds} {σ:CS} {L:List Addr},Wk Δ st Δ' st'->Slots K B G H Δ st σ L-> ∃L',L'.Sublist L/\Slots K B G H Δ' st' σ L'
 |_,_,_,_,[],_,.nil,h=>⟨_,List.Sublist.refl _,h⟩
 |_,_,_,_,_::_,_,.nil,h=>h.elim
 |_,_,_,_,[],_,.keep _,h=>h.elim
 |_,_,_,_,[],_,.drop _,h=>h.elim
 |_,_,_,_,y::ys,_,.keep w,⟨L1,L2,h1,h2,e⟩=>by
  obtain⟨L',s,q⟩:=Slots.weak w h2
  exact⟨L1++L',e▸List.Sublist.append (List.Sublist.refl _) s,L1,L',h1,q,rfl⟩
 |_,_,_,_,y::ys,_,.drop w,⟨L1,L2,h1,h2,e⟩=>by
  obtain⟨L',s,q⟩:=Slots.weak w h2
  exact⟨L',e▸(s.trans (List.sublist_append_right _ _)),[],L',lu.none,q,rfl⟩
theorem cG.sub {L L':List Addr} (r:cG O H G L) (s:L'.Sublist L):cG O H G L':=
 ⟨r.bin,r.fr0,r.gsub,r.gold,r.gin,r.dom,r.nd.sublist s,fun p m=>r.lg p (s.subset m),r.tl,r.tb⟩
theorem cG.perm {L L':List Addr} (r:cG O H G L) (s:L.Perm L'):cG O H G L':=
 ⟨r.bin,r.fr0,r.gsub,r.gold,r.gin,r.dom,s.nodup_iff.mp r.nd,fun p m=>r.lg p (s.mem_iff.mpr m),r.tl,r.tb⟩
theorem Rel.weak {Δ Δ':List Md} {st st':Ds} {σ:CS} (w:Wk Δ st Δ' st') (r:Rel K O Δ st σ H G):Rel K O Δ' st' σ H G:=by
 obtain⟨L,g,s⟩:=r
 obtain⟨L',sl,q⟩:=s.weak w
 exact⟨L',g.sub sl,q⟩
end
inductive Stp where
 |ix (i:Nat)|ky (k:Key)|kt (k:List Key)|fd (f:Str)
def lP:D->List Stp->Option D
 |d,[]=>some d
 | .lst ds,.ix i::q=>(ds[i]?).bind fun x=>lP x q
 | .dct ks,.ky k::q=>(aF ks k).bind fun x=>lP x q
 | .dcT ks,.kt k::q=>(aF ks k).bind fun x=>lP x q
 | .ins _ fs,.fd f::q=>(fs.lookup f).bind fun x=>lP x q
 |_,_::_=>none
def tW (f:Str) (x:D):List (Str×D)->List (Str×D)
 | []=>[(f,x)]
 |(g,y)::r=>if g=f then (g,x)::r else (g,y)::tW f x r
def iM:D->List Stp->D->D
 |_,[],e=>e
 | .lst ds,.ix i::q,e=>match ds[i]? with
  |some x=>.lst (ds.set i (iM x q e))
  |none=>.lst ds
 | .dct ks,.ky k::q,e=>match aF ks k with
  |some x=>.dct (cf ks k (iM x q e))
  |none=>.dct ks
 | .dcT ks,.kt k::q,e=>match aF ks k with
  |some x=>.dcT (cf ks k (iM x q e))
  |none=>.dcT ks
 | .ins C fs,.fd f::q,e=>match fs.lookup f with
  |some x=>.ins C (tW f (iM x q e) fs)
  |none=>.ins C fs
 |d,_::_,_=>d
def shP:Sh->List Stp->Option Sh
 |s,[]=>some s
 | .ls s,.ix _::q=>shP s q
 | .dc s,.ky _::q=>shP s q
 | .dt s,.kt _::q=>shP s q
 | .dk _ _ s,.ky _::q=>shP s q
 | .is fs,.fd f::q=>(fs.lookup f).bind fun s=>shP s q
 | .hl ss,.ix i::q=>(ss[i]?).bind fun s=>shP s q
 |_,_::_=>none
def AtP (H:Hp):V->List Stp->V->Prop
 |v,[],w=>w=v
 |v,.ix i::q,w=> ∃a vs x,v= .ref a/\H a=some (.lst vs)/\vs[i]? =some x/\AtP H x q w
 |v,.ky k::q,w=> ∃a kvs x,v= .ref a/\Rd H a (.dK kvs)/\valV kvs k=some x/\AtP H x q w
 |v,.kt k::q,w=> ∃a kvs x,v= .ref a/\H a=some (.dT kvs)/\valV kvs k=some x/\AtP H x q w
 |v,.fd f::q,w=> ∃a C dx fs x,v= .ref a/\H a=some (.ins C dx fs)/\fs.lookup f=some x/\AtP H x q w
theorem E9 {H:Hp} {a:Addr} {u v:List (Key×V)} (h:Rd H a (.dK u)) (g:Rd H a (.dK v)):u=v:=by
 rcases h with h|⟨o,h⟩ <;> rcases g with g|⟨o',g⟩ <;> rw[h] at g <;> cases g <;> rfl
theorem AtP.inj {H:Hp}: ∀{q:List Stp} {v w w':V},AtP H v q w->AtP H v q w'->w=w'
 | [],v,w,w',h,h'=>by
  have e:w=v:=h
  have e':w'=v:=h'
  rw[e,e']
 | .ix i::q,v,w,w',⟨a,vs,x,e1,e2,e3,h⟩,⟨a',vs',x',e1',e2',e3',h'⟩=>by
  subst e1;cases e1'
  rw[e2] at e2';cases e2'
  rw[e3] at e3';cases e3'
  exact AtP.inj h h'
 | .ky k::q,v,w,w',⟨a,vs,x,e1,e2,e3,h⟩,⟨a',vs',x',e1',e2',e3',h'⟩=>by
  subst e1;cases e1'
  obtain rfl:=E9 e2 e2'
  rw[e3] at e3';cases e3'
  exact AtP.inj h h'
 | .kt k::q,v,w,w',⟨a,vs,x,e1,e2,e3,h⟩,⟨a',vs',x',e1',e2',e3',h'⟩=>by
  subst e1;cases e1'
  rw[e2] at e2';cases e2'
  rw[e3] at e3';cases e3'
  exact AtP.inj h h'
 | .fd f::q,v,w,w',⟨a,C,dx,fs,x,e1,e2,e3,h⟩,⟨a',C',dx',fs',x',e1',e2',e3',h'⟩=>by
  subst e1;cases e1'
  rw[e2] at e2';cases e2'
  rw[e3] at e3';cases e3'
  exact AtP.inj h h'
theorem AtP.mono {H H':Hp} (hh: ∀p u,H p=some u->NT u->H' p=some u): ∀{q:List Stp} {v w:V},AtP H v q w->AtP H' v q w
 | [],v,w,h=>h
 | .ix i::q,v,w,⟨a,vs,x,e1,e2,e3,h⟩=>⟨a,vs,x,e1,hh _ _ e2 (fun _ z=>by cases z),e3,AtP.mono hh h⟩
 | .ky k::q,v,w,⟨a,vs,x,e1,e2,e3,h⟩=>⟨a,vs,x,e1,e2.imp (fun e=>hh _ _ e fun _ z=>by cases z) (fun⟨o,e⟩=>⟨o,hh _ _ e fun _ z=>by cases z⟩),e3,AtP.mono hh h⟩
 | .kt k::q,v,w,⟨a,vs,x,e1,e2,e3,h⟩=>⟨a,vs,x,e1,hh _ _ e2 (fun _ z=>by cases z),e3,AtP.mono hh h⟩
 | .fd f::q,v,w,⟨a,C,dx,fs,x,e1,e2,e3,h⟩=>⟨a,C,dx,fs,x,e1,hh _ _ e2 (fun _ z=>by cases z),e3,AtP.mono hh h⟩
section
variable {K:Frg} {G G':Sa} {H H':Hp}
theorem fX.item {R:D->V->List Addr->Prop}: ∀{ds:List D} {vs:List V} {L:List Addr} {i:Nat} {d:D},fX R ds vs L->ds[i]? =some d→
  ∃v L1 L2,vs[i]? =some v/\R d v L1/\L.Perm (L1++L2)/\ ∀(R':D->V->List Addr->Prop) d' v' L1',(∀d v M,(∀p∈M,p∈L2)->R d v M->R' d v M)->R' d' v' L1'-> ∃L',L'.Perm (L1'++L2)/\fX R' (ds.set i d') (vs.set i v') L'
 |d::ds,_,_,0,_,⟨v,r,L1,L2,e1,o1,o2,e2⟩,e=>by
  subst e1;subst e2
  cases e
  exact⟨v,L1,L2,rfl,o1,.refl _,fun R' d' v' L1' hm o=>⟨L1'++L2,.refl _,v',r,L1',L2,rfl,o,fX.mono (P:=fun p=>p∈L2) hm ds r L2 (fun _ h=>h) o2,rfl⟩⟩
 |d::ds,_,_,i+1,d0,⟨v,r,L1,L2,e1,o1,o2,e2⟩,e=>by
  subst e1;subst e2
  obtain⟨v1,M1,M2,g1,g2,pm,f⟩:=fX.item (i:=i) (d:=d0) o2 (by simpa using e)
  refine⟨v1,M1,L1++M2,by simpa using g1,g2,(List.Perm.append_left L1 pm).trans (eO L1 M1 M2),fun R' d' v' L1' hm o=> ?_⟩
  obtain⟨L',pm',o'⟩:=f R' d' v' L1' (fun d v M hM=>hm d v M fun p hp=>List.mem_append_right _ (hM p hp)) o
  exact⟨L1++L',(List.Perm.append_left L1 pm').trans (eO L1 L1' M2),v,r.set i v',L1,L',rfl,hm _ _ _ (fun p hp=>List.mem_append_left _ hp) o1,o',rfl⟩
 | [],_,_,_,_,_,e=>by simp at e
theorem dC.item {κ:Type} [DecidableEq κ] {R:D->V->List Addr->Prop}: ∀{ds:List (κ×D)} {vs:List (κ×V)} {L:List Addr} {k:κ} {d:D},dC R ds vs L->aF ds k=some d→
  ∃v L1 L2,aF vs k=some v/\R d v L1/\L.Perm (L1++L2)∧
   ∀(R':D->V->List Addr->Prop) d' v' L1',(∀d v M,(∀p∈M,p∈L2)->R d v M->R' d v M)->R' d' v' L1'-> ∃L',L'.Perm (L1'++L2)/\dC R' (cf ds k d') (cf vs k v') L'
 |(k0,d)::ds,_,_,k,d0,⟨v,r,L1,L2,e1,o1,o2,e2⟩,e=>by
  subst e1;subst e2
  rw[aW] at e
  by_cases hk:k0=k
  ·subst hk
   simp only[if_true] at e
   cases e
   refine⟨v,L1,L2,(aW _ _ _).trans (if_pos rfl),o1,.refl _,fun R' d' v' L1' hm o=>⟨L1'++L2,.refl _,?_⟩⟩
   unfold cf
   rw[if_pos rfl,if_pos rfl]
   exact⟨v',r,L1',L2,rfl,o,dC.mono (P:=fun p=>p∈L2) hm ds r L2 (fun _ h=>h) o2,rfl⟩
  ·simp only[hk,if_false] at e
   obtain⟨v1,M1,M2,g1,g2,pm,f⟩:=dC.item (k:=k) (d:=d0) o2 e
   refine⟨v1,M1,L1++M2,(aW _ _ _).trans ((if_neg hk).trans g1),g2,(List.Perm.append_left L1 pm).trans (eO L1 M1 M2),fun R' d' v' L1' hm o=> ?_⟩
   obtain⟨L',pm',o'⟩:=f R' d' v' L1' (fun d v M hM=>hm d v M fun p hp=>List.mem_append_right _ (hM p hp)) o
   refine⟨L1++L',(List.Perm.append_left L1 pm').trans (eO L1 L1' M2),?_⟩
   unfold cf
   rw[if_neg hk,if_neg hk]
   exact⟨v,cf r k v',L1,L',rfl,hm _ _ _ (fun p hp=>List.mem_append_left _ hp) o1,o',rfl⟩
 | [],_,_,_,_,_,e=>by cases e
theorem dC.drop {κ:Type} [DecidableEq κ] {R:D->V->List Addr->Prop} (k:κ): ∀{ds:List (κ×D)} {vs:List (κ×V)} {L:List Addr},dC R ds vs L-> ∃L',L'.Sublist L/\dC R (tV ds k) (tV vs k) L'
 | [],_,_,o=>by
  rw[o.1,o.2]
  exact⟨[],List.Sublist.refl _,rfl,rfl⟩
 |(k0,d)::ds,_,_,⟨v,r,L1,L2,e1,o1,o2,e2⟩=>by
  subst e1;subst e2
  obtain⟨L',s,o'⟩:=dC.drop k o2
  by_cases hk:k0=k
  ·refine⟨L',s.trans (List.sublist_append_right _ _),?_⟩
   unfold tV at o'⊢
   rw[List.filter_cons_of_neg (by simp[hk]),List.filter_cons_of_neg (by simp[hk])]
   exact o'
  ·refine⟨L1++L',List.Sublist.append (List.Sublist.refl _) s,?_⟩
   unfold tV at o'⊢
   rw[List.filter_cons_of_pos (by simp[hk]),List.filter_cons_of_pos (by simp[hk])]
   exact⟨v,_,L1,L',rfl,o1,o',rfl⟩
theorem dC.keys {κ:Type} {R:D->V->List Addr->Prop}: ∀{ds:List (κ×D)} {vs:List (κ×V)} {L:List Addr},dC R ds vs L->vs.map (·.1)=ds.map (·.1)
 | [],_,_,o=>by rw[o.1];rfl
 |(k,d)::ds,_,_,⟨v,r,L1,L2,e1,o1,o2,e2⟩=>by
  subst e1
  rw[List.map_cons,List.map_cons,dC.keys o2]
theorem fX.length {R:D->V->List Addr->Prop}: ∀{ds:List D} {vs:List V} {L:List Addr},fX R ds vs L->vs.length=ds.length
 | [],_,_,o=>by rw[o.1];rfl
 |d::ds,_,_,⟨v,r,L1,L2,e1,o1,o2,e2⟩=>by
  subst e1
  rw[List.length_cons,List.length_cons,fX.length o2]
theorem dD.item: ∀{fs:List (Str×Sh)} {ds:List (Str×D)} {vs:List (Str×V)} {L:List Addr} {f:Str} {s:Sh} {d:D},dD K G H fs ds vs L->fs.lookup f=some s->ds.lookup f=some d→
  ∃v L1 L2,vs.lookup f=some v/\Own K G H s d v L1/\L.Perm (L1++L2)∧
   ∀(G':Sa) (H':Hp) d' L1',(∀p,G p->G' p)->Agr G H H'->(∀p∈L2,H' p=H p)->Own K G' H' s d' v L1'-> ∃L',L'.Perm (L1'++L2)/\dD K G' H' fs (tW f d' ds) vs L'
 |(g,s0)::fs,ds,vs,L,f,s,d,o,e,e'=>by
  unfold dD at o
  obtain⟨d1,dr,v,vr,L1,L2,rfl,rfl,o1,o2,rfl⟩:=o
  by_cases hf:f=g
  ·subst hf
   simp[List.lookup_cons] at e e'
   subst e;subst e'
   refine⟨v,L1,L2,by simp[List.lookup_cons],o1,.refl _,fun G' H' d' L1' hG ha hl o=>⟨L1'++L2,.refl _,?_⟩⟩
   unfold dD tW
   simp only[if_true]
   exact⟨d',dr,v,vr,L1',L2,rfl,rfl,o,dD.mono hG ha fs dr vr L2 hl o2,rfl⟩
  ·have hb:(f==g)=false:=by simp[hf]
   simp only[List.lookup_cons,hb] at e e'
   obtain⟨v1,M1,M2,g1,g2,pm,f'⟩:=dD.item o2 e e'
   refine⟨v1,M1,L1++M2,by simp only[List.lookup_cons,hb];exact g1,g2,(List.Perm.append_left L1 pm).trans (eO L1 M1 M2),fun G' H' d' L1' hG ha hl o=> ?_⟩
   obtain⟨L',pm',o'⟩:=f' G' H' d' L1' hG ha (fun p hp=>hl p (List.mem_append_right _ hp)) o
   refine⟨L1++L',(List.Perm.append_left L1 pm').trans (eO L1 L1' M2),?_⟩
   unfold dD tW
   simp only[show ¬g=f from fun q=>hf q.symm,if_false]
   exact⟨d1,tW f d' dr,v,vr,L1,L',rfl,rfl,Own.mono hG ha s0 d1 v L1 (fun p hp=>hl p (List.mem_append_left _ hp)) o1,o',rfl⟩
 | [],_,_,_,_,_,_,_,e,_=>by cases e
theorem fx.item: ∀{ss:List Sh} {ds:List D} {vs:List V} {L:List Addr} {i:Nat} {s:Sh} {d:D},fx K G H ss ds vs L->ss[i]? =some s->ds[i]? =some d→
  ∃v L1 L2,vs[i]? =some v/\Own K G H s d v L1/\L.Perm (L1++L2)∧
   ∀(G':Sa) (H':Hp) d' L1',(∀p,G p->G' p)->Agr G H H'->(∀p∈L2,H' p=H p)->Own K G' H' s d' v L1'-> ∃L',L'.Perm (L1'++L2)/\fx K G' H' ss (ds.set i d') vs L'
 |s0::ss,ds,vs,L,0,s,d,o,e,e'=>by
  unfold fx at o
  obtain⟨d1,dr,v,vr,L1,L2,rfl,rfl,o1,o2,rfl⟩:=o
  simp only[List.getElem?_cons_zero] at e e'
  cases e;cases e'
  refine⟨v,L1,L2,rfl,o1,.refl _,fun G' H' d' L1' hG ha hl o=>⟨L1'++L2,.refl _,?_⟩⟩
  unfold fx
  exact⟨d',dr,v,vr,L1',L2,rfl,rfl,o,fx.mono hG ha ss dr vr L2 hl o2,rfl⟩
 |s0::ss,ds,vs,L,i+1,s,d,o,e,e'=>by
  unfold fx at o
  obtain⟨d1,dr,v,vr,L1,L2,rfl,rfl,o1,o2,rfl⟩:=o
  simp only[List.getElem?_cons_succ] at e e'
  obtain⟨v1,M1,M2,g1,g2,pm,f'⟩:=fx.item o2 e e'
  refine⟨v1,M1,L1++M2,by simpa using g1,g2,(List.Perm.append_left L1 pm).trans (eO L1 M1 M2),fun G' H' d' L1' hG ha hl o=> ?_⟩
  obtain⟨L',pm',o'⟩:=f' G' H' d' L1' hG ha (fun p hp=>hl p (List.mem_append_right _ hp)) o
  refine⟨L1++L',(List.Perm.append_left L1 pm').trans (eO L1 L1' M2),?_⟩
  rw[List.set_cons_succ]
  unfold fx
  exact⟨d1,dr.set i d',v,vr,L1,L',rfl,rfl,Own.mono hG ha s0 d1 v L1 (fun p hp=>hl p (List.mem_append_left _ hp)) o1,o',rfl⟩
 | [],_,_,_,_,_,_,_,e,_=>by simp at e
theorem oy {α:Type} {a:α} {L4 L3 M2 L1 N2:List α} (p4:L4.Perm (L3++M2)) (p3:L3.Perm (L1++N2)):(a::L4).Perm (L1++a::(N2++M2)):=by
 have h:L4.Perm (L1++(N2++M2)):=by
  have:=p4.trans (p3.append_right M2)
  rwa[List.append_assoc] at this
 exact (h.cons a).trans (eO [a] L1 (N2++M2))
theorem Own.place: ∀{s:Sh} {d:D} {v:V} {L:List Addr} (q:List Stp) {s':Sh} {d':D},Own K G H s d v L->shP s q=some s'->lP d q=some d'→
  ∃v' L1 L2,AtP H v q v'/\Own K G H s' d' v' L1/\L.Perm (L1++L2)∧
   ∀(G':Sa) (H':Hp) d'' L1',(∀p,G p->G' p)->Agr G H H'->(∀p∈L2,H' p=H p)->Own K G' H' s' d'' v' L1'-> ∃L',L'.Perm (L1'++L2)/\Own K G' H' s (iM d q d'') v L'
 |s,d,v,L,[],s',d',o,hs,hd=>by
  cases hs;cases hd
  exact⟨v,L,[],rfl,o,by rw[List.append_nil],fun G' H' d'' L1' _ _ _ o'=>⟨L1',by rw[List.append_nil],by unfold iM;exact o'⟩⟩
 | .ls s,d,v,L,.ix i::q,s',d',o,hs,hd=>by
  unfold Own at o
  obtain⟨a,vs,ds,L',rfl,rfl,e3,o1,rfl⟩:=o
  unfold shP at hs
  unfold lP at hd
  cases hi:ds[i]? with
  |none=>rw[hi] at hd;cases hd
  |some x=>
   rw[hi] at hd
   obtain⟨w,M1,M2,g1,g2,pm,f⟩:=fX.item o1 hi
   obtain⟨v',N1,N2,h1,h2,pn,f2⟩:=Own.place q g2 hs hd
   refine⟨v',N1,a::(N2++M2),⟨a,vs,w,rfl,e3,g1,h1⟩,h2,?_,fun G' H' d'' L1' hG ha hl o'=> ?_⟩
   ·exact oy pm pn
   ·obtain⟨L3,p3,o3⟩:=f2 G' H' d'' L1' hG ha (fun p hp=>hl p (List.mem_cons_of_mem _ (List.mem_append_left _ hp))) o'
    obtain⟨L4,p4,o4⟩:=f (Own K G' H' s) (iM x q d'') w L3 (fun d v M hM o=>Own.mono hG ha s d v M (fun p hp=>hl p (List.mem_cons_of_mem _ (List.mem_append_right _ (hM p hp)))) o) o3
    rw[iN g1] at o4
    refine⟨a::L4,oy p4 p3,?_⟩
    unfold iM
    simp only[hi]
    unfold Own
    exact⟨a,vs,_,L4,rfl,rfl,(hl a List.mem_cons_self).trans e3,o4,rfl⟩
 | .dc s,d,v,L,.ky k::q,s',d',o,hs,hd=>by
  unfold Own at o
  obtain⟨a,vs,ds,L',rfl,rfl,e3,nd,o1,rfl⟩:=o
  unfold shP at hs
  unfold lP at hd
  cases hi:aF ds k with
  |none=>rw[hi] at hd;cases hd
  |some x=>
   rw[hi] at hd
   obtain⟨w,M1,M2,g1,g2,pm,f⟩:=dC.item o1 hi
   obtain⟨v',N1,N2,h1,h2,pn,f2⟩:=Own.place q g2 hs hd
   refine⟨v',N1,a::(N2++M2),⟨a,vs,w,rfl,.inl e3,g1,h1⟩,h2,?_,fun G' H' d'' L1' hG ha hl o'=> ?_⟩
   ·exact oy pm pn
   ·obtain⟨L3,p3,o3⟩:=f2 G' H' d'' L1' hG ha (fun p hp=>hl p (List.mem_cons_of_mem _ (List.mem_append_left _ hp))) o'
    obtain⟨L4,p4,o4⟩:=f (Own K G' H' s) (iM x q d'') w L3 (fun d v M hM o=>Own.mono hG ha s d v M (fun p hp=>hl p (List.mem_cons_of_mem _ (List.mem_append_right _ (hM p hp)))) o) o3
    rw[px g1] at o4
    refine⟨a::L4,oy p4 p3,?_⟩
    unfold iM
    simp only[hi]
    unfold Own
    exact⟨a,vs,_,L4,rfl,rfl,(hl a List.mem_cons_self).trans e3,iu nd,o4,rfl⟩
 | .dk od vs s,d,v,L,.ky k::q,s',d',o,hs,hd=>by
  unfold Own at o
  obtain⟨a,ds,L',rfl,rfl,e3,nd,o1,rfl⟩:=o
  unfold shP at hs
  unfold lP at hd
  cases hi:aF ds k with
  |none=>rw[hi] at hd;cases hd
  |some x=>
   rw[hi] at hd
   obtain⟨w,M1,M2,g1,g2,pm,f⟩:=dC.item o1 hi
   obtain⟨v',N1,N2,h1,h2,pn,f2⟩:=Own.place q g2 hs hd
   refine⟨v',N1,a::(N2++M2),⟨a,vs,w,rfl,.inr ⟨od,e3⟩,g1,h1⟩,h2,?_,fun G' H' d'' L1' hG ha hl o'=> ?_⟩
   ·exact oy pm pn
   ·obtain⟨L3,p3,o3⟩:=f2 G' H' d'' L1' hG ha (fun p hp=>hl p (List.mem_cons_of_mem _ (List.mem_append_left _ hp))) o'
    obtain⟨L4,p4,o4⟩:=f (Own K G' H' s) (iM x q d'') w L3 (fun d v M hM o=>Own.mono hG ha s d v M (fun p hp=>hl p (List.mem_cons_of_mem _ (List.mem_append_right _ (hM p hp)))) o) o3
    rw[px g1] at o4
    refine⟨a::L4,oy p4 p3,?_⟩
    unfold iM
    simp only[hi]
    unfold Own
    exact⟨a,_,L4,rfl,rfl,(hl a List.mem_cons_self).trans e3,iu nd,o4,rfl⟩
 | .dt s,d,v,L,.kt k::q,s',d',o,hs,hd=>by
  unfold Own at o
  obtain⟨a,vs,ds,L',rfl,rfl,e3,nd,o1,rfl⟩:=o
  unfold shP at hs
  unfold lP at hd
  cases hi:aF ds k with
  |none=>rw[hi] at hd;cases hd
  |some x=>
   rw[hi] at hd
   obtain⟨w,M1,M2,g1,g2,pm,f⟩:=dC.item o1 hi
   obtain⟨v',N1,N2,h1,h2,pn,f2⟩:=Own.place q g2 hs hd
   refine⟨v',N1,a::(N2++M2),⟨a,vs,w,rfl,e3,g1,h1⟩,h2,?_,fun G' H' d'' L1' hG ha hl o'=> ?_⟩
   ·exact oy pm pn
   ·obtain⟨L3,p3,o3⟩:=f2 G' H' d'' L1' hG ha (fun p hp=>hl p (List.mem_cons_of_mem _ (List.mem_append_left _ hp))) o'
    obtain⟨L4,p4,o4⟩:=f (Own K G' H' s) (iM x q d'') w L3 (fun d v M hM o=>Own.mono hG ha s d v M (fun p hp=>hl p (List.mem_cons_of_mem _ (List.mem_append_right _ (hM p hp)))) o) o3
    rw[px g1] at o4
    refine⟨a::L4,oy p4 p3,?_⟩
    unfold iM
    simp only[hi]
    unfold Own
    exact⟨a,vs,_,L4,rfl,rfl,(hl a List.mem_cons_self).trans e3,iu nd,o4,rfl⟩
 | .is fs,d,v,L,.fd k::q,s',d',o,hs,hd=>by
  unfold Own at o
  obtain⟨a,C,dx,vs,ds,L',rfl,rfl,e3,o1,rfl⟩:=o
  unfold shP at hs
  unfold lP at hd
  cases hi:ds.lookup k with
  |none=>rw[hi] at hd;cases hd
  |some x=>
   cases hj:fs.lookup k with
   |none=>rw[hj] at hs;cases hs
   |some s1=>
    rw[hi] at hd
    rw[hj] at hs
    obtain⟨w,M1,M2,g1,g2,pm,f⟩:=dD.item o1 hj hi
    obtain⟨v',N1,N2,h1,h2,pn,f2⟩:=Own.place q g2 hs hd
    refine⟨v',N1,a::(N2++M2),⟨a,_,dx,vs,w,rfl,e3,g1,h1⟩,h2,?_,fun G' H' d'' L1' hG ha hl o'=> ?_⟩
    ·exact oy pm pn
    ·obtain⟨L3,p3,o3⟩:=f2 G' H' d'' L1' hG ha (fun p hp=>hl p (List.mem_cons_of_mem _ (List.mem_append_left _ hp))) o'
     obtain⟨L4,p4,o4⟩:=f G' H' (iM x q d'') L3 hG ha (fun p hp=>hl p (List.mem_cons_of_mem _ (List.mem_append_right _ hp))) o3
     refine⟨a::L4,oy p4 p3,?_⟩
     unfold iM
     simp only[hi]
     unfold Own
     exact⟨a,C,dx,vs,_,L4,rfl,rfl,(hl a List.mem_cons_self).trans e3,o4,rfl⟩
 | .hl ss,d,v,L,.ix i::q,s',d',o,hs,hd=>by
  unfold Own at o
  obtain⟨a,vs,ds,L',rfl,rfl,e3,o1,rfl⟩:=o
  unfold shP at hs
  unfold lP at hd
  cases hi:ds[i]? with
  |none=>rw[hi] at hd;cases hd
  |some x=>
   cases hj:ss[i]? with
   |none=>rw[hj] at hs;cases hs
   |some s1=>
    rw[hi] at hd
    rw[hj] at hs
    obtain⟨w,M1,M2,g1,g2,pm,f⟩:=fx.item o1 hj hi
    obtain⟨v',N1,N2,h1,h2,pn,f2⟩:=Own.place q g2 hs hd
    refine⟨v',N1,a::(N2++M2),⟨a,vs,w,rfl,e3,g1,h1⟩,h2,?_,fun G' H' d'' L1' hG ha hl o'=> ?_⟩
    ·exact oy pm pn
    ·obtain⟨L3,p3,o3⟩:=f2 G' H' d'' L1' hG ha (fun p hp=>hl p (List.mem_cons_of_mem _ (List.mem_append_left _ hp))) o'
     obtain⟨L4,p4,o4⟩:=f G' H' (iM x q d'') L3 hG ha (fun p hp=>hl p (List.mem_cons_of_mem _ (List.mem_append_right _ hp))) o3
     refine⟨a::L4,oy p4 p3,?_⟩
     unfold iM
     simp only[hi]
     unfold Own
     exact⟨a,vs,_,L4,rfl,rfl,(hl a List.mem_cons_self).trans e3,o4,rfl⟩
 | .hl s,d,v,L,.ky k::q,s',d',o,hs,hd=>by simp[shP] at hs
 | .hl s,d,v,L,.kt k::q,s',d',o,hs,hd=>by simp[shP] at hs
 | .hl s,d,v,L,.fd k::q,s',d',o,hs,hd=>by simp[shP] at hs
 | .fz,d,v,L,x::q,s',d',o,hs,hd=>by cases x <;> simp[shP] at hs
 | .ls s,d,v,L,.ky k::q,s',d',o,hs,hd=>by simp[shP] at hs
 | .ls s,d,v,L,.kt k::q,s',d',o,hs,hd=>by simp[shP] at hs
 | .ls s,d,v,L,.fd k::q,s',d',o,hs,hd=>by simp[shP] at hs
 | .dc s,d,v,L,.ix k::q,s',d',o,hs,hd=>by simp[shP] at hs
 | .dc s,d,v,L,.kt k::q,s',d',o,hs,hd=>by simp[shP] at hs
 | .dc s,d,v,L,.fd k::q,s',d',o,hs,hd=>by simp[shP] at hs
 | .dt s,d,v,L,.ix k::q,s',d',o,hs,hd=>by simp[shP] at hs
 | .dt s,d,v,L,.ky k::q,s',d',o,hs,hd=>by simp[shP] at hs
 | .dt s,d,v,L,.fd k::q,s',d',o,hs,hd=>by simp[shP] at hs
 | .is s,d,v,L,.ix k::q,s',d',o,hs,hd=>by simp[shP] at hs
 | .is s,d,v,L,.ky k::q,s',d',o,hs,hd=>by simp[shP] at hs
 | .is s,d,v,L,.kt k::q,s',d',o,hs,hd=>by simp[shP] at hs
 | .dk _ _ s,d,v,L,.ix k::q,s',d',o,hs,hd=>by simp[shP] at hs
 | .dk _ _ s,d,v,L,.kt k::q,s',d',o,hs,hd=>by simp[shP] at hs
 | .dk _ _ s,d,v,L,.fd k::q,s',d',o,hs,hd=>by simp[shP] at hs
 | .lz,d,v,L,x::q,s',d',o,hs,hd=>by cases x <;> simp[shP] at hs
 | .op _,d,v,L,x::q,s',d',o,hs,hd=>by cases x <;> simp[shP] at hs
 | .tp _,d,v,L,x::q,s',d',o,hs,hd=>by cases x <;> simp[shP] at hs
 | .tq _,d,v,L,x::q,s',d',o,hs,hd=>by cases x <;> simp[shP] at hs
 | .ex _,d,v,L,x::q,s',d',o,hs,hd=>by cases x <;> simp[shP] at hs
termination_by _ _ _ _ q=>q.length
end
end Sw
namespace Sw
open PySem PySem.Spec PyProof.Rows L2
variable [NmC]
inductive Rg where
 |hb|bb|fz
inductive VM where
 |rg (r:Rg)|nw (s:Sh)|sp (r:Rg)
def rgn (O:Org) (G:Sa):Rg->Sa
 | .hb=>fun _=>True
 | .bb=>O.B
 | .fz=>G
def bE (K:Frg) (O:Org) (H H':Hp) (G':Sa):VM->D->V->Prop
 | .rg r,d,v=>Rep K (rgn O G' r) H' d v
 | .nw s,d,v=> ∃L,L.Nodup/\(∀p∈L,H p=none/\ ¬G' p)/\Own K G' H' s d v L
 | .sp r,d,v=>Spn K (rgn O G' r) G' H' d v
def rdE (K:Frg) (Δ:List Md) (st:Ds) (m:VM) (r:Option D):TE:=fun σ H Q=>
 ∃O G d,Rel K O Δ st σ H G/\r=some d/\ ∀v H' G',Ext H G H' G'->bE K O H H' G' m d v->Q v H'
def rdT (K:Frg) (Δ:List Md) (st:Ds) (r:Option Bool):TT:=fun σ H Q=>
 ∃O G b,Rel K O Δ st σ H G/\r=some b/\ ∀H' G',Ext H G H' G'->Q b H'
def kP (K:Frg) (O:Org) (H H':Hp) (G':Sa):List VM->List D->List V->Prop
 | [],[],vs=>vs=[]
 |m::ms,d::ds,vs=> ∃v r,vs=v::r/\bE K O H H' G' m d v/\kP K O H H' G' ms ds r
 |_,_,_=>False
def rdA (K:Frg) (Δ:List Md) (st:Ds) (ms:List VM) (r:Option (List D)):TA:=fun σ H Q=>
 ∃O G ds,Rel K O Δ st σ H G/\r=some ds/\ ∀vs H' G',Ext H G H' G'->kP K O H H' G' ms ds vs->Q vs H'
abbrev PX (X:Cx) (Δ:List Md) (st:Ds) (e:Expr) (m:VM) (r:Option D):Prop:=PE X e (rdE X.K Δ st m r)
abbrev PTx (X:Cx) (Δ:List Md) (st:Ds) (e:Expr) (r:Option Bool):Prop:=PT X e (rdT X.K Δ st r)
abbrev PWx (X:Cx) (Δ:List Md) (st:Ds) (e:Expr) (r:Option Bool):Prop:=PW X e (rdT X.K Δ st r)
abbrev PAx (X:Cx) (Δ:List Md) (st:Ds) (es:List Expr) (ms:List VM) (r:Option (List D)):Prop:=PA X es (rdA X.K Δ st ms r)
section
variable {X:Cx} {e:Expr} {es:List Expr} {t t':TE} {pos:Pos}
theorem bW (h:PE X e t) (i: ∀σ H Q,t' σ H Q->t σ H Q):PE X e t':=⟨fun pins s σ H Q I q=>h.run pins s σ H Q I (i σ H Q q)⟩
theorem yq {t t':TT} (h:PT X e t) (i: ∀σ H Q,t' σ H Q->t σ H Q):PT X e t':=⟨fun pins s σ H Q I q=>h.run pins s σ H Q I (i σ H Q q)⟩
theorem Ho {t t':TT} (h:PW X e t) (i: ∀σ H Q,t' σ H Q->t σ H Q):PW X e t':=⟨fun w pins s σ H Q I q=>h.run w pins s σ H Q I (i σ H Q q)⟩
theorem vJ {t t':TA} (h:PA X es t) (i: ∀σ H Q,t' σ H Q->t σ H Q):PA X es t':=⟨fun pos pins s σ H Q I q=>h.run pos pins s σ H Q I (i σ H Q q)⟩
theorem cY {t t':TS} {st:List Stmt} (h:PSs X st t) (i: ∀D σ H,t' D σ H->t D σ H):PSs X st t':=⟨fun pins s σ H D I q=>h.run pins s σ H D I (i D σ H q)⟩
end
section
variable {K:Frg} {O:Org} {H H1 H2:Hp} {G G1 G2:Sa} {Δ:List Md} {st:Ds} {σ:CS}
theorem bE.mono {m:VM} {d:D} {v:V} (h:bE K O H H1 G1 m d v) (e:Ext H1 G1 H2 G2):bE K O H H2 G2 m d v:=by
 cases m with
 |rg r=>
  cases r with
  |hb=>exact Rep.mono (fun _ g=>g) e.agr d v h
  |bb=>exact Rep.mono (fun _ g=>g) e.agr d v h
  |fz=>exact Rep.mono e.gg e.agr d v h
 |nw s=>
  obtain⟨L,nd,f,o⟩:=h
  have hk:=Own.kind s d v L o
  refine⟨L,nd,fun p m=>⟨(f p m).1,fun g=> ?_⟩,Own.mono e.gg e.agr s d v L (fun p m=>e.vI (hk p m)) o⟩
  rcases e.gn p g with g|⟨n,_⟩|⟨xs,t⟩
  ·exact (f p m).2 g
  ·exact (hk p m).ne n
  ·exact (hk p m).CL t
 |sp r=>
  cases r with
  |hb=>exact Spn.mono (fun _ g=>g) e.gg e.agr e.agr h
  |bb=>exact Spn.mono (fun _ g=>g) e.gg e.agr e.agr h
  |fz=>exact Spn.mono e.gg e.gg e.agr e.agr h
theorem Ext.back (e:Ext H G H1 G1) {p:Addr} (h:H1 p=none):H p=none:=e.bk h
theorem bE.back {m:VM} {d:D} {v:V} (e:Ext H G H1 G1) (h:bE K O H1 H2 G2 m d v):bE K O H H2 G2 m d v:=by
 cases m with
 |rg r=>exact h
 |nw s=>
  obtain⟨L,nd,f,o⟩:=h
  exact⟨L,nd,fun p m=>⟨e.back (f p m).1,(f p m).2⟩,o⟩
 |sp r=>exact h
theorem kP.back: ∀{ms:List VM} {ds:List D} {vs:List V},Ext H G H1 G1->kP K O H1 H2 G2 ms ds vs->kP K O H H2 G2 ms ds vs
 | [],[],_,_,h=>h
 |m::ms,d::ds,_,e,⟨v,r,e1,h1,h2⟩=>⟨v,r,e1,h1.back e,kP.back e h2⟩
 | [],_::_,_,_,h=>h.elim
 |_::_,[],_,_,h=>h.elim
theorem rdE.go {m:VM} {r:Option D} {d:D} {Q:VK} (rel:Rel K O Δ st σ H G) (e:r=some d) (k: ∀v H' G',Rel K O Δ st σ H' G'->Ext H G H' G'->bE K O H H' G' m d v->Q v H'):rdE K Δ st m r σ H Q:=
 ⟨O,G,d,rel,e,fun v H' G' x h=>k v H' G' (rel.ext x) x h⟩
theorem rdT.go {r:Option Bool} {b:Bool} {Q:Bool->Hp->Prop} (rel:Rel K O Δ st σ H G) (e:r=some b) (k: ∀H' G',Rel K O Δ st σ H' G'->Ext H G H' G'->Q b H'):rdT K Δ st r σ H Q:=
 ⟨O,G,b,rel,e,fun H' G' x=>k H' G' (rel.ext x) x⟩
theorem rdA.go {ms:List VM} {r:Option (List D)} {d:List D} {Q:List V->Hp->Prop} (rel:Rel K O Δ st σ H G) (e:r=some d) (k: ∀v H' G',Rel K O Δ st σ H' G'->Ext H G H' G'->kP K O H H' G' ms d v->Q v H'):rdA K Δ st ms r σ H Q:=
 ⟨O,G,d,rel,e,fun v H' G' x h=>k v H' G' (rel.ext x) x h⟩
theorem bE.hb {m:VM} {d:D} {v:V} (h:bE K O H H1 G1 m d v):Rep K (fun _=>True) H1 d v:=by
 cases m with
 |rg r=>exact Rep.mono (fun _ _=>trivial) aB d v h
 |nw s=>
  obtain⟨L,nd,f,o⟩:=h
  exact Rep.mono (fun _ _=>trivial) aB d v (Own.rep s d v L o)
 |sp r=>exact Spn.rep h
theorem bD {α β γ:Type} {a:Option α} {b:Option β} {f:α->β->Option γ} {d:γ} (h:(a.bind fun x=>b.bind fun y=>f x y)=some d): ∃x y,a=some x/\b=some y/\f x y=some d:=by
 cases a with
 |none=>cases h
 |some x=>
  cases b with
  |none=>cases h
  |some y=>exact⟨x,y,rfl,rfl,h⟩
theorem bind1 {α γ:Type} {a:Option α} {f:α->Option γ} {d:γ} (h:a.bind f=some d): ∃x,a=some x/\f x=some d:=by
 cases a with
 |none=>cases h
 |some x=>exact⟨x,rfl,h⟩
end
mutual
def D.ev:D->Bool
 | .non=>true| .bl _=>true| .int _=>true| .str _=>true| .fn _=>true
 | .tup ds=>D.evs ds
 |_=>false
def D.evs:List D->Bool
 | []=>true
 |d::ds=>D.ev d&&D.evs ds
end
def D.et (d:D):Option D:=if d.ev=true then some d else none
section
variable {K:Frg} {S G:Sa} {H:Hp}
mutual
theorem Rep.et: ∀(d:D) (v:V),d.ev=true->Rep K S H d v-> ∃N:Sa,(∀p,N p-> ∃xs,H p=some (.tup xs))/\Rep K (fun p=>G p\/N p) H d v
 | .non,v,_,h=>⟨fun _=>False,fun _ f=>f.elim,h⟩
 | .bl _,v,_,h=>⟨fun _=>False,fun _ f=>f.elim,h⟩
 | .int _,v,_,h=>⟨fun _=>False,fun _ f=>f.elim,h⟩
 | .str _,v,_,h=>⟨fun _=>False,fun _ f=>f.elim,h⟩
 | .fn _,v,_,h=>⟨fun _=>False,fun _ f=>f.elim,h⟩
 | .tup ds,v,he,h=>by
  unfold Rep at h
  unfold D.ev at he
  obtain⟨a,vs,e,l,r⟩:=h
  obtain⟨N,hN,g⟩:=aC.et ds vs he r
  refine⟨fun p=>N p\/(p=a/\H a=some (.tup vs)),fun p hp=> ?_,?_⟩
  ·rcases hp with hp|⟨rfl,hp⟩
   ·exact hN p hp
   ·exact⟨_,hp⟩
  ·unfold Rep
   exact⟨a,vs,e,⟨.inr (.inr ⟨rfl,l.2⟩),l.2⟩,aC.mono (fun p x=>x.imp id .inl) aB ds vs g⟩
 | .lst _,v,he,h=>by simp[D.ev] at he
 | .dct _,v,he,h=>by simp[D.ev] at he
 | .dcT _,v,he,h=>by simp[D.ev] at he
 | .ins _ _,v,he,h=>by simp[D.ev] at he
 | .sc _,v,he,h=>by simp[D.ev] at he
theorem aC.et: ∀(ds:List D) (vs:List V),D.evs ds=true->aC K S H ds vs-> ∃N:Sa,(∀p,N p-> ∃xs,H p=some (.tup xs))/\aC K (fun p=>G p\/N p) H ds vs
 | [],vs,_,h=>by unfold aC at h;rw[h];exact⟨fun _=>False,fun _ f=>f.elim,.nil⟩
 |d::ds,vs,he,h=>by
  unfold aC at h
  unfold D.evs at he
  rw[Bool.and_eq_true] at he
  obtain⟨v,r,e,h1,h2⟩:=h
  obtain⟨N1,hN1,g1⟩:=Rep.et d v he.1 h1
  obtain⟨N2,hN2,g2⟩:=aC.et ds r he.2 h2
  subst e
  refine⟨fun p=>N1 p\/N2 p,fun p hp=>hp.elim (hN1 p) (hN2 p),.cons (Rep.mono (fun p x=>x.imp id .inl) aB d v g1) (aC.mono (fun p x=>x.imp id .inr) aB ds r g2)⟩
end
end
section
variable {X:Cx} {Δ:List Md} {st:Ds} {e:Expr} {m:VM} {r:Option D}
theorem c8 {s:Sh} (h:PX X Δ st e (.nw s) r):PX X Δ st e (.rg .fz) r:=bW h fun σ H Q ⟨O,G,d,rel,er,k⟩=>⟨O,G,d,rel,er,fun v H' G' x ⟨L,nd,f,o⟩=>by
 refine k v H' (fun p=>G' p\/p∈L) (x.re (fun p g=>.inl (x.gg p g)) fun p g=> ?_) (Own.rep s d v L o)
 rcases g with g|g
 ·exact x.gn p g
 ·exact .inr (.inl ⟨(f p g).1,(Own.kind s d v L o p g).ne⟩)⟩
theorem bJ (h:PX X Δ st e m r):PX X Δ st e (.rg .fz) (r.bind D.et):=bW h fun σ H Q ⟨O,G,d,rel,er,k⟩=>by
 obtain⟨d',e1,e2⟩:=bind1 er
 unfold D.et at e2
 split at e2
 ·rename_i hev
  cases e2
  refine⟨O,G,d,rel,e1,fun v H' G' x hv=> ?_⟩
  obtain⟨N,hN,g⟩:=Rep.et (G:=G') d v hev hv.hb
  refine k v H' (fun p=>G' p\/N p) (x.re (fun p g=>.inl (x.gg p g)) fun p g=> ?_) g
  rcases g with g|g
  ·exact x.gn p g
  ·obtain⟨xs,t⟩:=hN p g
   rcases x.was t (fun _ z=>by cases z) with q|q
   ·exact .inr (.inr ⟨xs,q⟩)
   ·exact .inr (.inl ⟨q,by rw[t];simp⟩)
 ·cases e2
theorem ak {i:Int} {j pos} {rg:Rg}:PX X Δ st (.Constant (.int i) j pos) (.rg rg) (some (.int i)):=bW pe_int fun σ H Q ⟨O,G,d,rel,er,k⟩=>by
 cases er;exact k _ H G .refl (by unfold bE Rep;rfl)
theorem aG {i:Str} {j pos} {rg:Rg}:PX X Δ st (.Constant (.str i) j pos) (.rg rg) (some (.str i)):=bW pe_str fun σ H Q ⟨O,G,d,rel,er,k⟩=>by
 cases er;exact k _ H G .refl (by unfold bE Rep;rfl)
theorem mR {i:Bool} {j pos} {rg:Rg}:PX X Δ st (.Constant (.bool i) j pos) (.rg rg) (some (.bl i)):=bW pe_bl fun σ H Q ⟨O,G,d,rel,er,k⟩=>by
 cases er;exact k _ H G .refl (by unfold bE Rep;rfl)
theorem fk {j pos} {rg:Rg}:PX X Δ st (.Constant .none j pos) (.rg rg) (some .non):=bW pe_non fun σ H Q ⟨O,G,d,rel,er,k⟩=>by
 cases er;exact k _ H G .refl (by unfold bE Rep;rfl)
def LQ:Md->Rg
 | .bo=>.bb| .fz=>.fz| .ow _=>.hb| .pn _ _=>.hb| .bl=>.hb
theorem af (i:Nat) {x:Str} {pos:Pos} {md:Md} {d:D} (hm:Δ[i]? =some md) (hd:st[i]? =some (some d)) (hN:X.N[i]? =some x) (hv:Vis X.env.scope x) (h1:(x==("__debug__" :Str))=false:=by decide) (h2:(x==("__classdict__" :Str))=false:=by decide):
  PX X Δ st (.Name x pos) (.rg (LQ md)) (some d):=bW (pe_var hN hv h1 h2) fun σ H Q ⟨O,G,d',rel,er,k⟩=>by
 cases er
 obtain⟨L,g,s⟩:=rel
 obtain⟨x',y',L1,L2,ex,ey,sr,pm,_⟩:=s.split hm
 rw[hd] at ex;cases ex
 cases md with
 |bo=>obtain⟨v,e1,r1,_⟩:=sr;subst e1;exact⟨v,ey,k v H G .refl r1⟩
 |fz=>obtain⟨v,e1,r1,_⟩:=sr;subst e1;exact⟨v,ey,k v H G .refl r1⟩
 |ow s=>obtain⟨v,e1,r1⟩:=sr;subst e1;exact⟨v,ey,k v H G .refl (Rep.mono (fun _ _=>trivial) aB _ _ (Own.rep _ _ _ _ r1))⟩
 |pn v s=>obtain⟨e1,r1⟩:=sr;subst e1;exact⟨v,ey,k v H G .refl (Rep.mono (fun _ _=>trivial) aB _ _ (Own.rep _ _ _ _ r1))⟩
 |bl=>obtain⟨v,e1,r1,_⟩:=sr;subst e1;exact⟨v,ey,k v H G .refl r1.rep⟩
end
section
variable {X:Cx} {Δ:List Md} {st:Ds} {a b c e o:Expr} {es:List Expr} {m ma mb mc:VM} {ra rb rc:Option D} {pos:Pos}
def Op2 (X:Cx) (r2:R2) (ma mb:VM) (m:VM) (f:D->D->Option D):Prop:=
 ∀O H0 H G x y v w d Q,f x y=some d->bE X.K O H0 H G ma x v->bE X.K O H0 H G mb y w->(∀p,G p->H p≠none)->(∀u H' G',Ext H G H' G'->bE X.K O H H' G' m d u->Q u H')->r2 v w H Q
def Op1 (X:Cx) (r1:V->Hp->VK->Prop) (ma:VM) (m:VM) (f:D->Option D):Prop:=
 ∀O H0 H G x v d Q,f x=some d->bE X.K O H0 H G ma x v->(∀p,G p->H p≠none)->(∀u H' G',Ext H G H' G'->bE X.K O H H' G' m d u->Q u H')->r1 v H Q
def OpN (X:Cx) (rn:List V->Hp->VK->Prop) (ms:List VM) (m:VM) (f:List D->Option D):Prop:=
 ∀O H0 H G xs vs d Q,f xs=some d->kP X.K O H0 H G ms xs vs->(∀p,G p->H p≠none)->(∀u H' G',Ext H G H' G'->bE X.K O H H' G' m d u->Q u H')->rn vs H Q
theorem Rel.tb {K:Frg} {O:Org} {σ:CS} {H:Hp} {G:Sa} (r:Rel K O Δ st σ H G):LamX.Tabs NmC.T H:=by
 obtain⟨L,g,_⟩:=r
 exact g.tb
theorem Rel.gin {K:Frg} {O:Org} {σ:CS} {H:Hp} {G:Sa} (r:Rel K O Δ st σ H G): ∀p,G p->H p≠none:=by
 obtain⟨L,g,_⟩:=r
 exact g.gin
theorem wx {r2:R2} {f:D->D->Option D} (hf:Op2 X r2 ma mb m f) {σ:CS} {H:Hp} {Q:VK} (h:rdE X.K Δ st m (ra.bind fun x=>rb.bind fun y=>f x y) σ H Q):tOp r2 (rdE X.K Δ st ma ra) (rdE X.K Δ st mb rb) σ H Q:=by
 obtain⟨O,G,d,rel,er,k⟩:=h
 obtain⟨x,y,e1,e2,e3⟩:=bD er
 refine rdE.go rel e1 fun v H1 G1 rel1 x1 v1=>rdE.go rel1 e2 fun w H2 G2 rel2 x2 v2=> ?_
 exact hf O H H2 G2 x y v w d Q e3 (v1.mono x2) (v2.back x1) rel2.gin fun u H' G' x3 hu=>k u H' G' (x1.trans (x2.trans x3)) (hu.back (x1.trans x2))
theorem aJ {op:Operator} {r2:R2} {f:D->D->Option D} (ho:OpR X (binaryOp op) r2) (hf:Op2 X r2 ma mb m f) (ha:PX X Δ st a ma ra) (hb:PX X Δ st b mb rb):PX X Δ st (.BinOp a op b pos) m (ra.bind fun x=>rb.bind fun y=>f x y):=
 bW (pe_op ho ha hb) fun _ _ _ h=>wx hf h
theorem pZ {op:CmpOp} {r2:R2} {f:D->D->Option D} (ho:OpR X (compareOp op) r2) (hf:Op2 X r2 ma mb m f) (ha:PX X Δ st a ma ra) (hb:PX X Δ st b mb rb) (hm:behindInMarks op b=false):PX X Δ st (.Compare a [op] [b] pos) m (ra.bind fun x=>rb.bind fun y=>f x y):=
 bW (pe_cmpR ho ha hb hm) fun _ _ _ h=>wx hf h
def blD (f:D->D->Option Bool) (x y:D):Option D:=(f x y).map D.bl
theorem bE.bl {K:Frg} {O:Org} {H H1:Hp} {G1:Sa} {r:Rg} {b:Bool} {v:V} (h:bE K O H H1 G1 (.rg r) (.bl b) v):v= .bl b:=by
 unfold bE Rep at h;exact h
theorem aR {op:CmpOp} {r2:R2} {f:D->D->Option Bool} (ho:OpR X (compareOp op) r2) (hf:Op2 X r2 ma mb (.rg .fz) (blD f)) (ha:PX X Δ st a ma ra) (hb:PX X Δ st b mb rb) (hm:behindInMarks op b=false):PTx X Δ st (.Compare a [op] [b] pos) (ra.bind fun x=>rb.bind fun y=>f x y):=
 yq (pt_cmpR ho ha hb hm) fun σ H Q ⟨O,G,c,rel,er,k⟩=>by
  obtain⟨x,y,e1,e2,e3⟩:=bD er
  refine wx (m:=.rg .fz) (f:=blD f) hf ⟨O,G,.bl c,rel,by rw[e1,e2];show (f x y).map D.bl=_;rw[e3];rfl,fun v H' G' x hv=>⟨c,hv.bl,k H' G' x⟩⟩
theorem JU {op:UnaryOp} {r1:V->Hp->VK->Prop} {f:D->Option D} (ho:UnR X (unaryOp op) r1) (hf:Op1 X r1 ma m f) (ha:PX X Δ st a ma ra):PX X Δ st (.UnaryOp op a pos) m (ra.bind f):=
 bW (pe_un ho ha) fun σ H Q ⟨O,G,d,rel,er,k⟩=>by
  obtain⟨x,e1,e2⟩:=bind1 er
  exact rdE.go rel e1 fun v H1 G1 rel1 x1 v1=>hf O H H1 G1 x v d Q e2 v1 rel1.gin fun u H' G' x3 hu=>k u H' G' (x1.trans x3) (hu.back x1)
theorem au:PAx X Δ st [] [] (some []):=vJ pa_nil fun σ H Q ⟨O,G,d,rel,er,k⟩=>by
 cases er;exact k _ H G .refl rfl
theorem aa {ms:List VM} {rs:Option (List D)} (ha:PX X Δ st e m ra) (hr:PAx X Δ st es ms rs) (hs:starEach (e::es) X.env=(false,eval e X.env)::starEach es X.env:=by rfl):
  PAx X Δ st (e::es) (m::ms) (ra.bind fun x=>rs.bind fun xs=>some (x::xs)):=vJ (pa_cons ha hr hs) fun σ H Q ⟨O,G,d,rel,er,k⟩=>by
 obtain⟨x,y,e1,e2,e3⟩:=bD er
 cases e3
 exact rdE.go rel e1 fun v H1 G1 rel1 x1 v1=>rdA.go rel1 e2 fun w H2 G2 rel2 x2 v2=>k _ H2 G2 (x1.trans x2) ⟨v,w,rfl,v1.mono x2,v2.back x1⟩
theorem cg {x:Str} {p:Pos} {id:String} {ms:List VM} {rs:Option (List D)} {rn:List V->Hp->VK->Prop} {f:List D->Option D} (hc:CallR X (.builtin id) rn) (hf:OpN X rn ms m f) (hg:Gl X x) (hm:X.mg x=none) (hv:bootBuiltins x=some (.builtin id)) (ha:PAx X Δ st (e::es) ms rs)
  (hn:x≠"__name__" :=by decide) (hdb:(x==("__debug__" :Str))=false:=by decide) (he:starEach (e::es) X.env=(false,eval e X.env)::starEach es X.env:=by rfl) (hpl:(backTo pos (starEach es X.env)).any (·.1)=false:=by rfl):
  PX X Δ st (.Call (.Name x p) (e::es) [] pos) m (rs.bind f):=bW (pe_callB hc hg hm hv ha hn hdb he hpl) fun σ H Q ⟨O,G,d,rel,er,k⟩=>by
 obtain⟨xs,e1,e2⟩:=bind1 er
 exact rdA.go rel e1 fun v H1 G1 rel1 x1 v1=>hf O H H1 G1 xs v d Q e2 v1 rel1.gin fun u H' G' x3 hu=>k u H' G' (x1.trans x3) (hu.back x1)
theorem je {x:Str} {p:Pos} {T:String} {ms:List VM} {rs:Option (List D)} {rn:List V->Hp->VK->Prop} {f:List D->Option D} (hc:CallR X (.type T) rn) (hf:OpN X rn ms m f) (hg:Gl X x) (hm:X.mg x=none) (hv:bootBuiltins x=some (.type T)) (ha:PAx X Δ st (e::es) ms rs)
  (hn:x≠"__name__" :=by decide) (hdb:(x==("__debug__" :Str))=false:=by decide) (he:starEach (e::es) X.env=(false,eval e X.env)::starEach es X.env:=by rfl) (hpl:(backTo pos (starEach es X.env)).any (·.1)=false:=by rfl):
  PX X Δ st (.Call (.Name x p) (e::es) [] pos) m (rs.bind f):=bW (pe_callTy hc hg hm hv ha hn hdb he hpl) fun σ H Q ⟨O,G,d,rel,er,k⟩=>by
 obtain⟨xs,e1,e2⟩:=bind1 er
 exact rdA.go rel e1 fun v H1 G1 rel1 x1 v1=>hf O H H1 G1 xs v d Q e2 v1 rel1.gin fun u H' G' x3 hu=>k u H' G' (x1.trans x3) (hu.back x1)
end
end Sw
namespace Sw
open PySem PySem.Spec PyProof.Rows L2
variable [NmC]
structure Xn where
 C:Str
 fs:List (Str×D)
inductive Out (α β:Type) where
 |nx (a:α)|bk (b:β)|ct (b:β)|ret (d:D) (os:List D)|exc (x:Xn)
inductive FR where
 |ok (d:D) (os:List D)|er (x:Xn)
structure Exits (α β:Type) where
 Dn:List Md
 en:α->Ds
 Dl:List Md
 el:β->Ds
 rm:VM
 pins:List (V×Sh)
 xw:XK
 fl:Bool
def H9 (K:Frg) (G:Sa) (H:Hp):List (V×Sh)->List D->List Addr->Prop
 | [],[],L=>L=[]
 |(v,s)::ps,d::ds,L=> ∃L1 L2,Own K G H s d v L1/\H9 K G H ps ds L2/\L=L1++L2
 |_,_,_=>False
def LR (K:Frg) (G:Sa) (H:Hp):VM->D->V->List Addr->Prop
 | .rg .fz,d,v,L=>Rep K G H d v/\L=[]
 | .rg _,_,_,_=>False
 | .nw s,d,v,L=>Own K G H s d v L
 | .sp _,_,_,_=>False
def zU (K:Frg) (rm:VM) (ps:List (V×Sh)) (O:Org) (d:D) (os:List D) (v:V) (H:Hp) (G:Sa):Prop:=
 ∃L1 L2,cG O H G (L1++L2)/\LR K G H rm d v L1/\H9 K G H ps os L2
def XcR (K:Frg) (ps:List (V×Sh)) (O:Org) (x:Xn) (c:Value) (od:Option Addr) (H:Hp) (G:Sa):Prop:=
 c= .ref (He.ga K x.C)/\(∃L,cG O H G L)/\((x.fs=[]/\od=none)\/ ∃a fvs,od=some a/\H a=some (.xd fvs)/\O.H0 a=none/\ ¬G a/\eN K G H x.fs fvs)
def Meets {α β:Type} (K:Frg) (E:Exits α β) (O:Org) (De:Ends):Out α β->Prop
 | .nx a=> ∀σ H G,Rel K O E.Dn (E.en a) σ H G->De.nx σ H
 | .bk b=> ∀σ H G,Rel K O E.Dl (E.el b) σ H G->De.bk σ H
 | .ct b=> ∀σ H G,Rel K O E.Dl (E.el b) σ H G->De.ct σ H
 | .ret d os=> ∀v H G,zU K E.rm E.pins O d os v H G->De.rt v H/\(E.fl=true->v= .non-> ∀σ,De.nx σ H)
 | .exc x=> ∀c od H G,XcR K E.pins O x c od H G->E.xw c od H
def rdS {α β:Type} (K:Frg) (E:Exits α β) (Δ:List Md) (st:Ds) (m:Option (Out α β)):TS:=fun De σ H=>
 ∃O G r,Rel K O Δ st σ H G/\m=some r/\Meets K E O De r
abbrev Blk {α β:Type} (X:Cx) (E:Exits α β) (Δ:List Md) (st:Ds) (ss:List Stmt) (m:Option (Out α β)):Prop:=PSs X ss (rdS X.K E Δ st m)
theorem fY {X:Cx} {ss:List Stmt} {α:Type} {t:α->TS} (h: ∀a,PSs X ss (t a)):PSs X ss (fun De σ H=> ∃a,t a De σ H):=⟨fun pins s σ H De I ⟨a,q⟩=>(h a).run pins s σ H De I q⟩
theorem Hq {X:Cx} {e:Expr} {α:Type} {t:α->TE} (h: ∀a,PE X e (t a)):PE X e (fun σ H Q=> ∃a,t a σ H Q):=⟨fun pins s σ H De I ⟨a,q⟩=>(h a).run pins s σ H De I q⟩
def kF:List Md->Ds->Option (List D)
 | [],[]=>some []
 | .pn _ _::ms,some d::st=>(kF ms st).map fun ds=>d::ds
 | .pn _ _::_,none::_=>none
 |_::ms,_::st=>kF ms st
 |_,_=>none
def BS:List Md->List (V×Sh)
 | []=>[]
 | .pn v s::ms=>(v,s)::BS ms
 |_::ms=>BS ms
section
variable {K:Frg} {O:Org} {B G:Sa} {H:Hp}
theorem Slots.pins: ∀{Δ:List Md} {st:Ds} {σ:CS} {L:List Addr} {os:List D},Slots K B G H Δ st σ L->kF Δ st=some os-> ∃L',L'.Sublist L/\H9 K G H (BS Δ) os L'
 | [],[],[],_,_,h,e=>by cases e;exact⟨[],List.nil_sublist _,rfl⟩
 | .pn v s::ms,some d::xs,y::ys,_,os,⟨L1,L2,h1,h2,e⟩,e'=>by
  unfold kF at e'
  cases q:kF ms xs with
  |none=>rw[q] at e';cases e'
  |some ds=>
   rw[q] at e';cases e'
   obtain⟨L',sl,p⟩:=Slots.pins h2 q
   exact⟨L1++L',e▸List.Sublist.append (List.Sublist.refl _) sl,L1,L',h1.2,p,rfl⟩
 | .pn v s::ms,none::xs,y::ys,_,os,_,e'=>by cases e'
 | .bo::ms,x::xs,y::ys,_,os,⟨L1,L2,h1,h2,e⟩,e'=>by
  obtain⟨L',sl,p⟩:=Slots.pins h2 (by unfold kF at e';exact e')
  exact⟨L',e▸sl.trans (List.sublist_append_right _ _),p⟩
 | .fz::ms,x::xs,y::ys,_,os,⟨L1,L2,h1,h2,e⟩,e'=>by
  obtain⟨L',sl,p⟩:=Slots.pins h2 (by unfold kF at e';exact e')
  exact⟨L',e▸sl.trans (List.sublist_append_right _ _),p⟩
 | .bl::ms,x::xs,y::ys,_,os,⟨L1,L2,h1,h2,e⟩,e'=>by
  obtain⟨L',sl,p⟩:=Slots.pins h2 (by unfold kF at e';exact e')
  exact⟨L',e▸sl.trans (List.sublist_append_right _ _),p⟩
 | .ow _::ms,x::xs,y::ys,_,os,⟨L1,L2,h1,h2,e⟩,e'=>by
  obtain⟨L',sl,p⟩:=Slots.pins h2 (by unfold kF at e';exact e')
  exact⟨L',e▸sl.trans (List.sublist_append_right _ _),p⟩
 | [],[],_::_,_,_,h,_=>h.elim
 | [],_::_,_,_,_,h,_=>h.elim
 |_::_,[],_,_,_,h,_=>h.elim
 |_::_,_::_,[],_,_,h,_=>h.elim
theorem cG.wy {L L1:List Addr} (r:cG O H G L) (hk: ∀p∈L,Ndd H p) {H0:Hp} (hn: ∀p,H0 p=none->O.H0 p=none) (nd:L1.Nodup) (h: ∀p∈L1,H0 p=none/\ ¬G p) (hl: ∀p∈L,H0 p≠none):cG O H G (L1++L):=
 ⟨r.bin,r.fr0,r.gsub,r.gold,r.gin,r.dom,List.nodup_append.mpr ⟨nd,r.nd,fun a ha b hb e=>hl b hb (e▸(h a ha).1)⟩,fun p m=>by
  rcases List.mem_append.mp m with m|m
  ·exact⟨(h p m).2,.inr (hn p (h p m).1)⟩
  ·exact r.lg p m,r.tl,r.tb⟩
theorem cG.back {L:List Addr} (r:cG O H G L) {p:Addr} (h:H p=none):O.H0 p=none:=by
 cases q:O.H0 p with
 |none=>rfl
 |some u=>exact absurd h (r.dom p (by rw[q];simp))
end
section
variable {α β γ:Type} {X:Cx} {E:Exits α β} {Δ:List Md} {st:Ds} {rest:List Stmt} {e:Expr} {m:VM} {r:Option D} {pos:Pos}
theorem aP {a:α} (w:Wk Δ st E.Dn (E.en a)):Blk X E Δ st [] (some (.nx a)):=cY pss_nil fun De σ H ⟨O,G,r,rel,er,k⟩=>by
 cases er;exact k σ H G (rel.weak w)
def CO:VM->Bool
 | .rg .fz=>true
 | .nw _=>true
 |_=>false
theorem aQ {os:List D} (he:PX X Δ st e m r) (hm:E.rm=m) (hp:kF Δ st=some os) (hq:BS Δ=E.pins) (hi:CO m=true:=by rfl):Blk X E Δ st (.Return (some e) pos::rest) (r.bind fun d=>some (.ret d os)):=
 cY (pss_cons (ps_ret he) pss_never) fun De σ H ⟨O,G,q,rel,er,k⟩=>by
  obtain⟨d,e1,e2⟩:=bind1 er
  cases e2
  refine rdE.go rel e1 fun v H1 G1 rel1 x1 v1=> ?_
  obtain⟨L,g,s⟩:=rel
  have g1:=g.ext x1 s.kind (x1.gin g.gin)
  have s1:=Slots.mono (G':=G1) (H':=H1) x1.gg x1.agr x1.agr (fun p m=>x1.vI (s.kind p m)) s
  obtain⟨L',sl,p⟩:=s1.pins hp
  refine (k v H1 G1 ?_).1
  rw[hm,←hq]
  cases m with
  |rg r=>
   cases r with
   |fz=>exact⟨[],L',g1.sub sl,⟨v1,rfl⟩,p⟩
   |hb=>cases hi
   |bb=>cases hi
  |nw sh=>
   obtain⟨L1,nd,f,o⟩:=v1
   exact⟨L1,L',(g1.wy s1.kind (H0:=H) (fun p h=>g.back h) nd f fun p m=>(s.kind p m).ne).sub (List.Sublist.append (List.Sublist.refl _) sl),o,p⟩
  |sp r=>cases hi
def wA:VM->Option Md
 | .rg .bb=>some .bo
 | .rg .fz=>some .fz
 | .rg .hb=>none
 | .nw s=>some (.ow s)
 | .sp .bb=>some .bl
 | .sp _=>none
theorem Rel.p6 {O:Org} {K:Frg} {H H1:Hp} {G G1:Sa} {σ:CS} {i:Nat} {d:D} {v:V} {md:Md} (rel:Rel K O Δ st σ H G) (x1:Ext H G H1 G1) (hi:i<Δ.length) (hm:wA m=some md) (hv:bE K O H H1 G1 m d v):
  Rel K O (Δ.set i md) (st.set i (some d)) (σ.set i (some v)) H1 G1:=by
 obtain⟨L,g0,s0⟩:=rel
 have g:=g0.ext x1 s0.kind (x1.gin g0.gin)
 have s:=Slots.mono (G':=G1) (H':=H1) x1.gg x1.agr x1.agr (fun p m=>x1.vI (s0.kind p m)) s0
 obtain⟨x',y',L1,L2,ex,ey,sr,pm,f⟩:=s.split (List.getElem?_eq_getElem hi)
 have hk: ∀p∈L2,Ndd H1 p:=fun p hp=>s.kind p (pm.mem_iff.mpr (List.mem_append_right _ hp))
 have base:cG O H1 G1 L2:=(g.perm pm).sub (List.sublist_append_right _ _)
 cases m with
 |rg r=>
  cases r with
  |hb=>cases hm
  |bb=>
   cases hm
   obtain⟨L',pm',s'⟩:=f G1 H1 .bo (some d) (some v) [] (fun _ g=>g) aB aB (fun _ _=>rfl) ⟨v,rfl,hv,rfl⟩
   exact⟨L',base.perm pm'.symm,s'⟩
  |fz=>
   cases hm
   obtain⟨L',pm',s'⟩:=f G1 H1 .fz (some d) (some v) [] (fun _ g=>g) aB aB (fun _ _=>rfl) ⟨v,rfl,hv,rfl⟩
   exact⟨L',base.perm pm'.symm,s'⟩
 |nw sh=>
  cases hm
  obtain⟨Ln,nd,fr,o⟩:=hv
  obtain⟨L',pm',s'⟩:=f G1 H1 (.ow sh) (some d) (some v) Ln (fun _ g=>g) aB aB (fun _ _=>rfl) ⟨v,rfl,o⟩
  refine⟨L',cG.perm (base.wy hk (H0:=H) (fun p h=>g0.back h) nd fr fun p m=>(s0.kind p (pm.mem_iff.mpr (List.mem_append_right _ m))).ne) pm'.symm,s'⟩
 |sp r=>
  cases r <;> first|(cases hm;done)|skip
  cases hm
  obtain⟨L',pm',s'⟩:=f G1 H1 .bl (some d) (some v) [] (fun _ g=>g) aB aB (fun _ _=>rfl) ⟨v,rfl,hv,rfl⟩
  exact⟨L',base.perm pm'.symm,s'⟩
theorem Ia (i:Nat) {x:Str} {p':Pos} {md:Md} {k:D->Option (Out α β)} (he:PX X Δ st e m r) (hm:wA m=some md) (hi:i<Δ.length) (hnd:X.N.Nodup) (hN:X.N[i]? =some x) (hx:Loc X.env.scope x)
  (h: ∀d,Blk X E (Δ.set i md) (st.set i (some d)) rest (k d)) (hs:swapsWith e (some (.Name x p')) pos.line X.env=pure false:=by rfl) (hf:X.fn x=true\/X.env.scope.names.lookup x=some .local:=by first|exact .inl rfl|exact .inr rfl|assumption):
  Blk X E Δ st (.Assign [.Name x p'] e pos::rest) (r.bind k):=
 cY (pss_cons (ps_set hnd hN hx he hs hf) (fY h)) fun De σ H ⟨O,G,q,rel,er,kk⟩=>by
  obtain⟨d,e1,e2⟩:=bind1 er
  exact rdE.go rel e1 fun v H1 G1 rel1 x1 v1=>⟨d,O,G1,q,rel.p6 x1 hi hm v1,e2,kk⟩
def sqO {α β γ:Type} (k:γ->Option (Out α β)):Out γ β->Option (Out α β)
 | .nx a=>k a
 | .bk b=>some (.bk b)
 | .ct b=>some (.ct b)
 | .ret d os=>some (.ret d os)
 | .exc x=>some (.exc x)
def Exits.join {α β γ:Type} (E:Exits α β) (Dj:List Md) (ej:γ->Ds):Exits γ β:={E with Dn:=Dj,en:=ej,fl:=false}
theorem Meets.seq {O:Org} {De:Ends} {K:Frg} {Dj:List Md} {ej:γ->Ds} {k:γ->Option (Out α β)} {r1:Out γ β} {r:Out α β} {U:CS->Hp->Prop} (e:sqO k r1=some r) (h:Meets K E O De r)
  (hU: ∀a,k a=some r-> ∀σ H G,Rel K O Dj (ej a) σ H G->U σ H):Meets K (E.join Dj ej) O {De with nx:=U} r1:=by
 cases r1 with
 |nx a=>exact fun σ H G rel=>hU a e σ H G rel
 |bk b=>cases e;exact h
 |ct b=>cases e;exact h
 |ret d os=>cases e;exact fun v H G q=>⟨(h v H G q).1,fun f=>(nomatch f)⟩
 |exc x=>cases e;exact h
theorem bY {c:Expr} {A Bs:List Stmt} {rc:Option Bool} {mA mB:Option (Out γ β)} (Dj:List Md) (ej:γ->Ds) {k:γ->Option (Out α β)} (hc:PTx X Δ st c rc) (hA:Blk X (E.join Dj ej) Δ st A mA) (hB:Blk X (E.join Dj ej) Δ st Bs mB)
  (h: ∀a,Blk X E Dj (ej a) rest (k a)):Blk X E Δ st (.If c A Bs pos::rest) (rc.bind fun c=>(if c=true then mA else mB).bind (sqO k)):=
 cY (pss_cons (ps_if hc hA hB) (fY h)) fun De σ H ⟨O,G,q,rel,er,kk⟩=>by
  obtain⟨b,e1,e2⟩:=bind1 er
  obtain⟨r1,e3,e4⟩:=bind1 e2
  refine rdT.go rel e1 fun H1 G1 rel1 x1=> ?_
  have hm:=Meets.seq (Dj:=Dj) (ej:=ej) (U:=fun σ H=> ∃a,rdS X.K E Dj (ej a) (k a) De σ H) e4 kk fun a ea σ' H' G' rel'=>⟨a,O,G',q,rel',ea,kk⟩
  cases b with
  |true=>exact⟨O,G1,r1,rel1,by simpa using e3,hm⟩
  |false=>exact⟨O,G1,r1,rel1,by simpa using e3,hm⟩
end
inductive Res (β:Type) where
 |fin (b:β)|ret (d:D) (os:List D)|exc (x:Xn)
def forL {β δ:Type} (step:β->δ->Option (Out β β)):List δ->β->Option (Res β)
 | [],b=>some (.fin b)
 |x::xs,b=>(step b x).bind fun
  | .nx b'=>forL step xs b'
  | .ct b'=>forL step xs b'
  | .bk b'=>some (.fin b')
  | .ret d os=>some (.ret d os)
  | .exc x=>some (.exc x)
def sqF {α β γ:Type} (k:γ->Option (Out α β)):Res γ->Option (Out α β)
 | .fin b=>k b
 | .ret d os=>some (.ret d os)
 | .exc x=>some (.exc x)
def Exits.loop {α β γ:Type} (E:Exits α β) (Dl:List Md) (el:γ->Ds):Exits γ γ:={E with Dn:=Dl,en:=el,Dl:=Dl,el:=el,fl:=false}
section
variable {K:Frg} {O:Org} {H H2:Hp} {G G2:Sa} {L L2:List Addr}
def Org.at (O:Org) (H:Hp) (G:Sa) (L:List Addr):Org:=⟨G,H,L,O.B⟩
theorem cG.start (r:cG O H G L) (hk: ∀p∈L,Ndd H p):cG (O.at H G L) H G L:=
 ⟨fun p b=>⟨r.dom p (r.bin p b).1,fun m=>(r.lg p m).2.elim (r.bin p b).2 (r.bin p b).1⟩,fun _ _ e _ _=>e,fun _ g=>g,fun _ g=>.inl g,r.gin,fun _ h=>h,r.nd,fun p m=>⟨(r.lg p m).1,.inl m⟩,fun _ ps e=>⟨ps,e⟩,r.tb⟩
theorem cG.comp (r:cG O H G L) (q:cG (O.at H G L) H2 G2 L2):cG O H2 G2 L2 where
 bin:=r.bin
 fr0:=fun p u e n t=>q.frame p u (r.frame p u e n) fun m=>(r.lg p m).2.elim n fun z=>by rw[z] at e;cases e
 gsub:=fun p g=>q.gsub p (r.gsub p g)
 gold:=fun p g=>by
  rcases q.gold p g with g|n|⟨xs,t⟩|m
  ·exact r.gold p g
  ·exact .inr (.inl (r.back n))
  ·rcases r.was (show H p=some (.tup xs) from t) (fun _ z=>by cases z) with e|e|e
   ·exact .inr (.inr (.inl ⟨xs,e⟩))
   ·exact .inr (.inl e)
   ·exact .inr (.inr (.inr e))
  ·rcases (r.lg p m).2 with h|h
   ·exact .inr (.inr (.inr h))
   ·exact .inr (.inl h)
 gin:=q.gin
 dom:=fun p h=>q.dom p (r.dom p h)
 nd:=q.nd
 lg:=fun p m=>⟨(q.lg p m).1,by
  rcases (q.lg p m).2 with h|h
  ·exact (r.lg p h).2
  ·exact .inr (r.back h)⟩
 tl:=fun p ps e=>by
  obtain⟨ps1,e1⟩:=r.tl p ps e
  exact q.tl p ps1 e1
 tb:=q.tb
theorem Rel.start {Δ:List Md} {st:Ds} {σ:CS} (r:Rel K O Δ st σ H G): ∃L,cG O H G L/\Rel K (O.at H G L) Δ st σ H G:=by
 obtain⟨L,g,s⟩:=r
 exact⟨L,g,L,g.start s.kind,s⟩
theorem Rel.comp {Δ:List Md} {st:Ds} {σ:CS} (g:cG O H G L) (r:Rel K (O.at H G L) Δ st σ H2 G2):Rel K O Δ st σ H2 G2:=by
 obtain⟨L2,g2,s2⟩:=r
 exact⟨L2,g.comp g2,s2⟩
theorem zU.comp {rm:VM} {ps:List (V×Sh)} {d:D} {os:List D} {v:V} (g:cG O H G L) (r:zU K rm ps (O.at H G L) d os v H2 G2):zU K rm ps O d os v H2 G2:=by
 obtain⟨L1,L2,g2,a,b⟩:=r
 exact⟨L1,L2,g.comp g2,a,b⟩
theorem XcR.comp {ps:List (V×Sh)} {x:Xn} {c:Value} {od:Option Addr} (g:cG O H G L) (r:XcR K ps (O.at H G L) x c od H2 G2):XcR K ps O x c od H2 G2:=by
 obtain⟨e,⟨L1,g2⟩,h⟩:=r
 refine⟨e,⟨L1,g.comp g2⟩,h.imp id ?_⟩
 rintro⟨a,fvs,e1,e2,e3,e4⟩
 exact⟨a,fvs,e1,e2,g.back e3,e4⟩
theorem Meets.comp {α β:Type} {E:Exits α β} {De:Ends} {r:Out α β} (g:cG O H G L) (h:Meets K E O De r):Meets K E (O.at H G L) De r:=by
 cases r with
 |nx a=>exact fun σ H' G' rel=>h σ H' G' (rel.comp g)
 |bk b=>exact fun σ H' G' rel=>h σ H' G' (rel.comp g)
 |ct b=>exact fun σ H' G' rel=>h σ H' G' (rel.comp g)
 |ret d os=>exact fun v H' G' q=>h v H' G' (q.comp g)
 |exc x=>exact fun c od H' G' q=>h c od H' G' (q.comp g)
end
end Sw
namespace Sw
open PySem PySem.Spec PyProof.Rows L2
variable [NmC]
def Wlk {δ:Type} (IR:Hp->δ->V->Prop) (S:Sa) (J:It) (ds:List δ) (H1:Hp):Prop:=
 ∀H2,(∀p u,S p->H1 p=some u->NT u->H2 p=some u)-> ∀i,(∀d,ds[i]? =some d->J.go i H2/\ ∀x H3,J.yld i H2 x H3->(∀p u,H2 p=some u->H3 p=some u)/\IR H3 d x)/\(ds.length<=i->J.stop i H2)
def stR (O:Org) (G:Sa) (rg:Rg):Sa:=fun p=>rgn O G rg p\/O.B p\/G p
theorem wkS {δ:Type} {IR:Hp->δ->V->Prop} {O:Org} {G:Sa} {rg:Rg} {J:It} {ds:List δ} {H:Hp} (h:Wlk IR (rgn O G rg) J ds H):Wlk IR (stR O G rg) J ds H:=fun H2 hst=>h H2 fun p u s=>hst p u (.inl s)
def rdI {δ:Type} (K:Frg) (Δ:List Md) (st:Ds) (rg:Rg) (IR:Sa->Hp->δ->V->Prop) (rI:Option (List δ)):TI:=fun σ H R=>
 ∃O G ds,Rel K O Δ st σ H G/\rI=some ds/\ ∀J H' G',Ext H G H' G'->Wlk (IR (rgn O G' rg)) (stR O G' rg) J ds H'->R J H'
abbrev PIx {δ:Type} (X:Cx) (Δ:List Md) (st:Ds) (tg it:Expr) (rg:Rg) (IR:Sa->Hp->δ->V->Prop) (rI:Option (List δ)):Prop:=PI X tg it (rdI X.K Δ st rg IR rI)
theorem CP {X:Cx} {tg it:Expr} {t t':TI} (h:PI X tg it t) (i: ∀σ H Q,t' σ H Q->t σ H Q):PI X tg it t':=⟨fun pins s σ H Q I q=>h.run pins s σ H Q I (i σ H Q q)⟩
def irV (K:Frg) (S:Sa) (H:Hp) (d:D) (x:V):Prop:=Rep K S H d x
def irP (K:Frg) (S:Sa) (H:Hp) (p:D×D) (x:V):Prop:= ∃a v w,x= .ref a/\SqT K H a [v,w]/\Rep K S H p.1 v/\Rep K S H p.2 w
def wB {δ:Type} (K:Frg) (g:TG) (rg:Rg) (IR:Sa->Hp->δ->V->Prop) (uM:List Md->List Md) (uS:δ->Ds->Ds) (n:Nat) (is:List Nat):Prop:=
 ∀O Δ st σ H G d x Q,Δ.length=n->Rel K O Δ st σ H G->IR (rgn O G rg) H d x->(∀σ',Rel K O (uM Δ) (uS d st) σ' H G->(∀vs,(∀i∈is,i∈vs)->wipe σ' vs=wipe σ vs)->Q σ' H)->g x σ H Q
theorem vL (σ:CS) (i:Nat) (y:Option V): ∀vs:List Nat,i∉vs->wipe (σ.set i y) vs=(wipe σ vs).set i y
 | [],_=>rfl
 |v::vs,h=>by
  simp only[List.mem_cons,not_or] at h
  unfold wipe
  rw[vL σ i y vs h.2,List.set_comm _ _ h.1]
theorem oO {i:Nat} {y:Option V}: ∀{σ:CS} {vs:List Nat},i∈vs->wipe (σ.set i y) vs=wipe σ vs
 |σ,[],h=>by cases h
 |σ,v::vs,h=>by
  unfold wipe
  by_cases hi:i∈vs
  ·rw[oO hi]
  ·have e:i=v:=by
    rcases List.mem_cons.mp h with e|e
    ·exact e
    ·exact absurd e hi
   subst e
   rw[vL σ i y vs hi,List.set_set]
def oP {δ:Type} (IR:Sa->Hp->δ->V->Prop):Prop:= ∀S S' H H' d x,(∀p,S p->S' p)->(∀p u,H p=some u->H' p=some u)->IR S H d x->IR S' H' d x
theorem fy {K:Frg}:oP (irV K):=fun S S' H H' d x hS hH h=>Rep.mono hS (CJ hH) d x h
def mdR:Rg->Md
 | .bb=>.bo
 |_=>.fz
theorem iO (K:Frg) (i:Nat) {n:Nat} {rg:Rg} (hr:rg≠ .hb) (hi:i<n):wB K (gName i) rg (irV K) (fun Δ=>Δ.set i (mdR rg)) (fun d st=>st.set i (some d)) n [i]:=fun O Δ st σ H G d x Q hn rel h q=>by
 refine q _ ?_ fun vs hv=>oO (hv i (by simp))
 cases rg with
 |hb=>exact absurd rfl hr
 |bb=>exact rel.p6 (m:=.rg .bb) .refl (by omega) rfl h
 |fz=>exact rel.p6 (m:=.rg .fz) .refl (by omega) rfl h
theorem Fb (K:Frg) (i j:Nat) {n:Nat} {rg:Rg} (hr:rg≠ .hb) (hi:i<n) (hj:j<n):wB K (gTup K 2 (gCons (gName i) (gCons (gName j) gNil))) rg (irP K) (fun Δ=>(Δ.set i (mdR rg)).set j (mdR rg)) (fun d st=>(st.set i (some d.1)).set j (some d.2)) n [i,j]:=
 fun O Δ st σ H G d x Q hn rel ⟨a,v,w,e,t,h1,h2⟩ q=>by
  refine⟨a,[v,w],e,t,rfl,v,[w],rfl,w,[],rfl,rfl,q _ ?_ fun vs hv=>(oO (hv j (by simp))).trans (oO (hv i (by simp)))⟩
  cases rg with
  |hb=>exact absurd rfl hr
  |bb=>exact (rel.p6 (m:=.rg .bb) .refl (by omega) rfl h1).p6 (m:=.rg .bb) .refl (by simp;omega) rfl h2
  |fz=>exact (rel.p6 (m:=.rg .fz) .refl (by omega) rfl h1).p6 (m:=.rg .fz) .refl (by simp;omega) rfl h2
section
variable {α β γ δ:Type} {X:Cx} {E:Exits α β} {Δ:List Md} {st:Ds} {rest body:List Stmt} {pos:Pos} {tg it:Expr}
theorem yt {α:Type} {l:List α} {i:Nat} {x:α} (h:l[i]? =some x):l.drop i=x::l.drop (i+1):=by
 obtain⟨hi,e⟩:=List.getElem?_eq_some_iff.mp h
 rw[<-e];exact List.drop_eq_getElem_cons hi
theorem CQ {K:Frg} {O:Org} {H1:Hp} {G1:Sa} {L:List Addr} {J:It} {ds:List δ} {IR:Sa->Hp->δ->V->Prop} {rg:Rg} {uM:List Md->List Md} {uS:δ->Ds->Ds} {g:TG} {Dl:List Md} {el:γ->Ds} {step:γ->δ->Option (Out γ γ)} {k:γ->Option (Out α β)} {r:Out α β}
  {U:CS->Hp->Prop} {De:Ends} {σ:CS} {b0:γ} {tb:TS}
  (g0:cG O H1 G1 L) (rel:Rel K (O.at H1 G1 L) Dl (el b0) σ H1 G1) (hw:Wlk (IR (rgn O G1 rg)) (stR O G1 rg) J ds H1) (him:oP IR) (hr:rg≠ .hb) {is:List Nat} (ht:wB K g rg IR uM uS Dl.length is)
  (htb: ∀b d De σ H,rdS K (E.loop Dl el) (uM Dl) (uS d (el b)) (step b d) De σ H->tb De σ H)
  {rs:Res γ} (ef:forL step ds b0=some rs) (es:sqF k rs=some r) (hm:Meets K E O De r)
  (hU: ∀b,k b=some r-> ∀σ H G,Rel K (O.at H1 G1 L) Dl (el b) σ H G->U σ H):
  ∃W:Nat->Nat->CS->Hp->Prop,(∃m,W 0 m σ H1)/\ ∀i m σ H,W i m σ H→
   (J.stop i H/\U σ H)\/(J.go i H/\ ∃N:CS->Hp->Prop,(∀σ' H',N σ' H'-> ∃m',m'<m/\W (i+1) m' σ' H')/\ ∀x H',J.yld i H x H'->g x σ H' fun σ2 H2=>tb {De with nx:=N,ct:=N,bk:=U} σ2 H2):=by
 have hm':=hm.comp g0
 have hS: ∀p,stR O G1 rg p->p∉L:=fun p s m=>by
  rcases s with s|s|s
  ·cases rg with
   |hb=>exact hr rfl
   |bb=>exact (g0.lg p m).2.elim (g0.bin p s).2 (g0.bin p s).1
   |fz=>exact (g0.lg p m).1 s
  ·exact (g0.lg p m).2.elim (g0.bin p s).2 (g0.bin p s).1
  ·exact (g0.lg p m).1 s
 refine⟨fun i m σ H=> ∃b G,m=ds.length -i/\i<=ds.length/\Rel K (O.at H1 G1 L) Dl (el b) σ H G/\forL step (ds.drop i) b=some rs,⟨ds.length,b0,G1,by omega,by omega,rel,by simpa using ef⟩,fun i m σ H hW=> ?_⟩
 obtain⟨b,G,em,hi,rl,hf⟩:=hW
 have hst: ∀p u,stR O G1 rg p->H1 p=some u->NT u->H p=some u:=fun p u s e nt=>by
  obtain⟨L2,g2,_⟩:=rl
  exact g2.frame p u e (hS p s)
 obtain⟨w1,w2⟩:=hw H hst i
 by_cases hlt:i<ds.length
 ·refine .inr ?_
  have hd:ds[i]? =some ds[i]:=List.getElem?_eq_getElem hlt
  obtain⟨go,yl⟩:=w1 _ hd
  rw[yt hd] at hf
  unfold forL at hf
  obtain⟨o,eo,ho⟩:=bind1 hf
  refine⟨go,fun σ' H'=> ∃b' G',Rel K (O.at H1 G1 L) Dl (el b') σ' H' G'/\forL step (ds.drop (i+1)) b'=some rs,fun σ' H' ⟨b',G',rl',hf'⟩=>⟨m -1,by omega,b',G',by omega,by omega,rl',hf'⟩,fun x H3 hy=> ?_⟩
  obtain⟨hh,ir⟩:=yl x H3 hy
  have x3:Ext H G H3 G:=.of hh (fun _ g=>g) fun _ g=>.inl g
  have rl3:=rl.ext x3
  have hsub: ∀p,rgn O G1 rg p->rgn (O.at H1 G1 L) G rg p:=fun p s=>by
   cases rg with
   |hb=>exact trivial
   |bb=>exact s
   |fz=>
    obtain⟨L2,g2,_⟩:=rl
    exact g2.gsub p s
  refine ht _ _ _ _ _ _ _ x _ rfl rl3 (him _ _ H3 H3 _ x hsub (fun _ _ e=>e) ir) fun σ' rl' _=> ?_
  refine htb b ds[i] _ _ _ ⟨O.at H1 G1 L,G,o,rl',eo,?_⟩
  cases o with
  |nx b'=>exact fun σ2 H2 G2 r2=>⟨b',G2,r2,ho⟩
  |ct b'=>exact fun σ2 H2 G2 r2=>⟨b',G2,r2,ho⟩
  |bk b'=>
   simp only[Option.some.injEq] at ho
   subst ho
   exact fun σ2 H2 G2 r2=>hU b' es σ2 H2 G2 r2
  |ret d os=>
   simp only[Option.some.injEq] at ho
   subst ho
   cases es
   exact fun v H' G' q=>⟨(hm' v H' G' q).1,fun f=>(nomatch f)⟩
  |exc x=>
   simp only[Option.some.injEq] at ho
   subst ho
   cases es
   exact fun c od H' G' q=>hm' c od H' G' q
 ·refine .inl ⟨w2 (by omega),?_⟩
  rw[List.drop_of_length_le (by omega)] at hf
  unfold forL at hf
  simp only[Option.some.injEq] at hf
  subst hf
  exact hU b es σ H G rl
theorem Ib {rg:Rg} {IR:Sa->Hp->δ->V->Prop} {rI:Option (List δ)} {g:TG} {uM:List Md->List Md} {uS:δ->Ds->Ds} (Dl:List Md) (el:γ->Ds) {b0:γ} {step:γ->δ->Option (Out γ γ)} {k:γ->Option (Out α β)}
  (hi:PIx X Δ st tg it rg IR rI) (him:oP IR) (hr:rg≠ .hb) (hg:PG X tg g) {is:List Nat} (ht:wB X.K g rg IR uM uS Dl.length is) (w:Wk Δ st Dl (el b0)) (hb: ∀b d,Blk X (E.loop Dl el) (uM Dl) (uS d (el b)) body (step b d)) (h: ∀b,Blk X E Dl (el b) rest (k b))
  (hc:X.calm=true) (hp:PassesOwn (model X.prog X.w) X.A X.env X.xe) (hs: ∀x,foldedSetIterable it X.env x=pure x:=by intro _;rfl):
  Blk X E Δ st (.For tg it body [] pos::rest) (rI.bind fun ds=>(forL step ds b0).bind (sqF k)):=
 cY (pss_cons (ps_for hp hc hi hg (fY fun b=>fY fun d=>hb b d) hs) (fY h)) fun De σ H ⟨O,G,q,rel,er,kk⟩=>by
  obtain⟨ds,e1,e2⟩:=bind1 er
  obtain⟨rs,e3,e4⟩:=bind1 e2
  refine⟨O,G,ds,rel,e1,fun J H1 G1 x1 hw=> ?_⟩
  obtain⟨L,g0,rl⟩:=((rel.ext x1).weak w).start
  exact CQ (De:=De) (U:=fun σ H=> ∃a,rdS X.K E Dl (el a) (k a) De σ H) (tb:=fun De σ H=> ∃b d,rdS X.K (E.loop Dl el) (uM Dl) (uS d (el b)) (step b d) De σ H) g0 rl hw him hr ht (fun b d De σ H q=>⟨b,d,q⟩) e3 e4 kk fun b eb σ' H' G' rl'=>⟨b,O,G',q,rl'.comp g0,eb,kk⟩
end
end Sw
namespace Sw
open PySem PySem.Spec PyProof.Rows L2
variable [NmC]
mutual
def D.pd:D->PyData
 | .non=>.none| .bl b=>.bool b| .int i=>.int i| .str x=>.str x
 | .lst ds=>.list (D.pds ds)
 | .tup ds=>.tuple (D.pds ds)
 | .dct _=>.dict []| .dcT _=>.dict []| .ins _ _=>.dict []| .fn _=>.dict []| .sc _=>.dict []
def D.pds:List D->List PyData
 | []=>[]
 |d::ds=>D.pd d::D.pds ds
end
mutual
def D.dat:D->Bool
 | .non=>true| .bl _=>true| .int _=>true| .str _=>true
 | .lst ds=>D.yu ds| .tup ds=>D.yu ds
 |_=>false
def D.yu:List D->Bool
 | []=>true
 |d::ds=>D.dat d&&D.yu ds
end
theorem D.Fc (ds:List D):D.pds ds=ds.map D.pd:=by
 induction ds with
 |nil=>rfl
 |cons d ds ih=>rw[List.map_cons,←ih];rfl
theorem D.yv (ds:List D):D.yu ds=ds.all D.dat:=by
 induction ds with
 |nil=>rfl
 |cons d ds ih=>rw[List.all_cons,←ih];rfl
section
variable {K:Frg} {S:Sa} {H:Hp}
mutual
theorem Rep.dp: ∀(d:D) (v:V),d.dat=true->Rep K S H d v->Dp K H v d.pd
 | .non,v,_,h=>by unfold Rep at h;subst h;exact .non
 | .bl b,v,_,h=>by unfold Rep at h;subst h;exact .bl b
 | .int b,v,_,h=>by unfold Rep at h;subst h;exact .int b
 | .str b,v,_,h=>by unfold Rep at h;subst h;exact .str b
 | .lst ds,v,hd,h=>by
  unfold Rep at h
  obtain⟨a,vs,rfl,_,l,r⟩:=h
  exact .lst (SqL.of l) (aC.dp ds vs (by unfold D.dat at hd;exact hd) r)
 | .tup ds,v,hd,h=>by
  unfold Rep at h
  obtain⟨a,vs,rfl,l,r⟩:=h
  exact .tup l.sq (aC.dp ds vs (by unfold D.dat at hd;exact hd) r)
 | .dct _,v,hd,h=>by cases hd
 | .dcT _,v,hd,h=>by cases hd
 | .ins _ _,v,hd,h=>by cases hd
 | .fn _,v,hd,h=>by cases hd
 | .sc _,v,hd,h=>by cases hd
theorem aC.dp: ∀(ds:List D) (vs:List V),D.yu ds=true->aC K S H ds vs->DpAll K H vs (D.pds ds)
 | [],vs,_,h=>by unfold aC at h;subst h;exact .nil
 |d::ds,vs,hd,h=>by
  unfold aC at h
  obtain⟨v,r,rfl,h1,h2⟩:=h
  unfold D.yu at hd
  rw[Bool.and_eq_true] at hd
  exact .cons (Rep.dp d v hd.1 h1) (aC.dp ds r hd.2 h2)
end
def D.toV:D->Option V
 | .non=>some .non| .bl b=>some (.bl b)| .int i=>some (.int i)| .str x=>some (.str x)
 |_=>none
theorem Rep.toV {d:D} {v w:V} (e:d.toV=some w) (h:Rep K S H d v):v=w:=by
 cases d with
 |non=>cases e;unfold Rep at h;exact h
 |bl b=>cases e;unfold Rep at h;exact h
 |int b=>cases e;unfold Rep at h;exact h
 |str b=>cases e;unfold Rep at h;exact h
 |_=>cases e
theorem yw {d:D} {w:V} (e:d.toV=some w):flatV w=true:=by
 cases d <;> first|(cases e;rfl)|cases e
def D.p7:List D->Option (List V)
 | []=>some []
 |d::ds=>(d.toV).bind fun v=>(D.p7 ds).bind fun vs=>some (v::vs)
theorem aC.p7: ∀{ds:List D} {vs ws:List V},D.p7 ds=some ws->aC K S H ds vs->vs=ws
 | [],vs,ws,e,h=>by unfold aC at h;cases e;exact h
 |d::ds,vs,ws,e,h=>by
  unfold aC at h
  obtain⟨v,r,rfl,h1,h2⟩:=h
  unfold D.p7 at e
  obtain⟨x,y,e1,e2,e3⟩:=bD e
  cases e3
  rw[Rep.toV e1 h1,aC.p7 e2 h2]
theorem vM: ∀{ds:List D} {ws:List V},D.p7 ds=some ws->ws.all flatV=true
 | [],ws,e=>by cases e;rfl
 |d::ds,ws,e=>by
  unfold D.p7 at e
  obtain⟨x,y,e1,e2,e3⟩:=bD e
  cases e3
  rw[List.all_cons,yw e1,vM e2];rfl
end
section
variable {X:Cx} {ma mb:Rg} {rg:Rg}
theorem bE.int {K:Frg} {O:Org} {H H1:Hp} {G1:Sa} {r:Rg} {b:Int} {v:V} (h:bE K O H H1 G1 (.rg r) (.int b) v):v= .int b:=by unfold bE Rep at h;exact h
theorem bE.str {K:Frg} {O:Org} {H H1:Hp} {G1:Sa} {r:Rg} {b:Str} {v:V} (h:bE K O H H1 G1 (.rg r) (.str b) v):v= .str b:=by unfold bE Rep at h;exact h
theorem kH {K:Frg} {O:Org} {H H1:Hp} {G1:Sa} {r:Rg} {b:Int}:bE K O H H1 G1 (.rg r) (.int b) (.int b):=by unfold bE Rep;rfl
theorem p8 {K:Frg} {O:Org} {H H1:Hp} {G1:Sa} {r:Rg} {b:Str}:bE K O H H1 G1 (.rg r) (.str b) (.str b):=by unfold bE Rep;rfl
theorem mS {K:Frg} {O:Org} {H H1:Hp} {G1:Sa} {r:Rg} {b:Bool}:bE K O H H1 G1 (.rg r) (.bl b) (.bl b):=by unfold bE Rep;rfl
def ii (f:Int->Int->Option Int):D->D->Option D
 | .int a,.int b=>(f a b).map .int
 |_,_=>none
theorem qI {f:Int->Int->Option Int} {x y d:D} (h:ii f x y=some d): ∃a b c,x= .int a/\y= .int b/\f a b=some c/\d= .int c:=by
 cases x <;> cases y <;> first|cases h|skip
 rename_i a b
 have h:(f a b).map D.int=some d:=h
 cases e:f a b with
 |none=>rw[e] at h;cases h
 |some c=>rw[e] at h;cases h;exact⟨a,b,c,rfl,rfl,e,rfl⟩
def D.dA:D->D->Option D:=ii fun a b=>some (a+b)
def D.Ic:D->D->Option D:=ii fun a b=>some (a -b)
noncomputable def cif {α:Type} (p:Prop) (a:α):Option α:=@ite _ p (Classical.propDecidable p) (some a) none
theorem oQ {α:Type} {p:Prop} {a c:α} (h:cif p a=some c):p/\a=c:=by
 unfold cif at h
 split at h
 ·rename_i q;cases h;exact⟨q,rfl⟩
 ·cases h
theorem qJ {α:Type} {p:Prop} {a:α} (h:p):cif p a=some a:=by
 unfold cif;exact if_pos h
noncomputable def tX (a b:Int):Bool:=@decide ((-(2^64)<a/\a<2^64)\/(-(2^64)<b/\b<2^64)) (Classical.propDecidable _)
noncomputable def D.pH:D->D->Option D:=ii fun a b=>if tX a b=true then some (a*b) else none
noncomputable def D.gq:D->D->Option D:=ii fun a b=>cif (0<b/\b<1073741824) (a/b)
noncomputable def D.bu:D->D->Option D:=ii fun a b=>cif (0<b) (a%b)
noncomputable def D.kQ:D->D->Option D:=ii fun a b=>cif (0<=b/\b<=1000000/\a.natAbs<2^64) (a^b.toNat)
theorem fA:Op2 X (rI0 fun i j=>.int (i+j)) (.rg ma) (.rg mb) (.rg rg) D.dA:=fun O H0 H G x y v w d Q e hx hy _ k=>by
 obtain⟨a,b,c,rfl,rfl,e2,rfl⟩:=qI e;cases e2
 exact⟨a,b,hx.int,hy.int,k _ H G .refl kH⟩
theorem aH {α:Type} {p:Prop} [Decidable p] {a c:α} (h:(if p then some a else none)=some c):p/\a=c:=by
 split at h
 ·rename_i q;cases h;exact⟨q,rfl⟩
 ·cases h
theorem wC:Op2 X (rI CMul fun i j=>.int (i*j)) (.rg ma) (.rg mb) (.rg rg) D.pH:=fun O H0 H G x y v w d Q e hx hy _ k=>by
 obtain⟨a,b,c,rfl,rfl,e2,rfl⟩:=qI e
 obtain⟨q,rfl⟩:=aH e2
 refine⟨a,b,hx.int,hy.int,?_,k _ H G .refl kH⟩
 unfold tX at q
 exact @of_decide_eq_true _ (Classical.propDecidable _) q
theorem kI:Op2 X (rI CDiv fun i j=>.int (i/j)) (.rg ma) (.rg mb) (.rg rg) D.gq:=fun O H0 H G x y v w d Q e hx hy _ k=>by
 obtain⟨a,b,c,rfl,rfl,e2,rfl⟩:=qI e
 obtain⟨q,rfl⟩:=oQ e2
 exact⟨a,b,hx.int,hy.int,q,k _ H G .refl kH⟩
theorem bI:Op2 X (rI (fun _ j=>0<j) fun i j=>.int (i%j)) (.rg ma) (.rg mb) (.rg rg) D.bu:=fun O H0 H G x y v w d Q e hx hy _ k=>by
 obtain⟨a,b,c,rfl,rfl,e2,rfl⟩:=qI e
 obtain⟨q,rfl⟩:=oQ e2
 exact⟨a,b,hx.int,hy.int,q,k _ H G .refl kH⟩
theorem oR:Op2 X (rI CPow fun i j=>.int (i^j.toNat)) (.rg ma) (.rg mb) (.rg rg) D.kQ:=fun O H0 H G x y v w d Q e hx hy _ k=>by
 obtain⟨a,b,c,rfl,rfl,e2,rfl⟩:=qI e
 obtain⟨q,rfl⟩:=oQ e2
 exact⟨a,b,hx.int,hy.int,q,k _ H G .refl kH⟩
def D.yx:D->Option D
 | .int a=>some (.int (-a))
 |_=>none
theorem Ie:Op1 X (rU fun i=>.int (-i)) (.rg ma) (.rg rg) D.yx:=fun O H0 H G x v d Q e hx _ k=>by
 cases x <;> first|cases e|skip
 exact⟨_,hx.int,k _ H G .refl kH⟩
def ss {α:Type} (f:Str->Str->Option α):D->D->Option α
 | .str a,.str b=>f a b
 |_,_=>none
theorem AV {α:Type} {f:Str->Str->Option α} {x y:D} {d:α} (h:ss f x y=some d): ∃a b,x= .str a/\y= .str b/\f a b=some d:=by
 cases x <;> cases y <;> first|cases h|skip
 exact⟨_,_,rfl,rfl,h⟩
def D.fK:D->D->Option D:=ss fun a b=>if a.length+b.length<=sizeLine then some (.str (a++b)) else none
theorem lA:Op2 X (fun x y H Q=> ∃i j,x= .str i/\y= .str j/\i.length+j.length<=sizeLine/\Q (.str (i++j)) H) (.rg ma) (.rg mb) (.rg rg) D.fK:=fun O H0 H G x y v w d Q e hx hy _ k=>by
 obtain⟨a,b,rfl,rfl,e2⟩:=AV e
 obtain⟨q,rfl⟩:=aH e2
 exact⟨a,b,hx.str,hy.str,q,k _ H G .refl p8⟩
def ib (f:Int->Int->Bool):D->D->Option Bool
 | .int a,.int b=>some (f a b)
 |_,_=>none
theorem Fd {f:Int->Int->Bool} {x y:D} {d:Bool} (h:ib f x y=some d): ∃a b,x= .int a/\y= .int b/\f a b=d:=by
 cases x <;> cases y <;> first|cases h|skip
 exact⟨_,_,rfl,rfl,rfl⟩
theorem iP {f:D->D->Option Bool} {x y d:D} (h:blD f x y=some d): ∃b,f x y=some b/\d= .bl b:=by
 unfold blD at h
 cases e:f x y with
 |none=>rw[e] at h;cases h
 |some b=>rw[e] at h;cases h;exact⟨b,rfl,rfl⟩
theorem iQ {g:Int->Int->Bool}:Op2 X (rI0 fun i j=>.bl (g i j)) (.rg ma) (.rg mb) (.rg rg) (blD (ib g)):=fun O H0 H G x y v w d Q e hx hy _ k=>by
 obtain⟨b,e1,rfl⟩:=iP e
 obtain⟨i,j,rfl,rfl,e2⟩:=Fd e1
 subst e2
 exact⟨i,j,hx.int,hy.int,k _ H G .refl mS⟩
abbrev D.ltI:D->D->Option Bool:=ib fun i j=>decide (i<j)
abbrev D.leI:D->D->Option Bool:=ib fun i j=>decide (i<=j)
abbrev D.gtI:D->D->Option Bool:=ib fun i j=>decide (j<i)
abbrev D.geI:D->D->Option Bool:=ib fun i j=>decide (j<=i)
def sLe (a b:Str):Bool:=decide (a.cps.toList<=b.cps.toList)
abbrev D.ltS:D->D->Option Bool:=ss fun a b=>some (decide (a.cps.toList<b.cps.toList))
theorem Ig {g:Str->Str->Bool} {r2:R2} (h: ∀x y H Q,(∃i j,x= .str i/\y= .str j/\Q (.bl (g i j)) H)->r2 x y H Q):Op2 X r2 (.rg ma) (.rg mb) (.rg rg) (blD (ss fun a b=>some (g a b))):=fun O H0 H G x y v w d Q e hx hy _ k=>by
 obtain⟨b,e1,rfl⟩:=iP e
 obtain⟨i,j,rfl,rfl,e2⟩:=AV e1
 cases e2
 exact h _ _ _ _ ⟨i,j,hx.str,hy.str,k _ H G .refl mS⟩
def D.eqA (x y:D):Option Bool:=(x.toV).bind fun a=>(y.toV).bind fun b=>if scal a b=true then some (decide (a=b)) else none
def D.neA (x y:D):Option Bool:=(x.toV).bind fun a=>(y.toV).bind fun b=>if scal a b=true then some (!decide (a=b)) else none
theorem gu:Op2 X rEq (.rg ma) (.rg mb) (.rg rg) (blD D.eqA):=fun O H0 H G x y v w d Q e hx hy _ k=>by
 obtain⟨b,e1,rfl⟩:=iP e
 obtain⟨a,c,e2,e3,e4⟩:=bD e1
 obtain⟨q,rfl⟩:=aH e4
 rw[Rep.toV e2 hx,Rep.toV e3 hy]
 exact⟨q,k _ H G .refl mS⟩
theorem yy:Op2 X rNe (.rg ma) (.rg mb) (.rg rg) (blD D.neA):=fun O H0 H G x y v w d Q e hx hy _ k=>by
 obtain⟨b,e1,rfl⟩:=iP e
 obtain⟨a,c,e2,e3,e4⟩:=bD e1
 obtain⟨q,rfl⟩:=aH e4
 rw[Rep.toV e2 hx,Rep.toV e3 hy]
 exact⟨q,k _ H G .refl mS⟩
def D.ok2 (x y:D):Bool:=x.dat&&y.dat&&SeqAt.shaped x.pd&&SeqAt.shaped y.pd
def D.eqD (x y:D):Option Bool:=if D.ok2 x y=true then some (PyData.eqv x.pd y.pd) else none
def D.neD (x y:D):Option Bool:=if D.ok2 x y=true then some (!PyData.eqv x.pd y.pd) else none
theorem CT {x y:D} (h:D.ok2 x y=true):x.dat=true/\y.dat=true/\SeqAt.shaped x.pd=true/\SeqAt.shaped y.pd=true:=by
 unfold D.ok2 at h
 simp only[Bool.and_eq_true] at h
 exact⟨h.1.1.1,h.1.1.2,h.1.2,h.2⟩
theorem CU {m1 m2:VM}:Op2 X (rEqD X.K) m1 m2 (.rg rg) (blD D.eqD):=fun O H0 H G x y v w d Q e hx hy _ k=>by
 obtain⟨b,e1,rfl⟩:=iP e
 obtain⟨q,rfl⟩:=aH e1
 obtain⟨h1,h2,h3,h4⟩:=CT q
 exact⟨_,_,Rep.dp x v h1 hx.hb,Rep.dp y w h2 hy.hb,h3,h4,k _ H G .refl mS⟩
theorem JV {m1 m2:VM}:Op2 X (rNeD X.K) m1 m2 (.rg rg) (blD D.neD):=fun O H0 H G x y v w d Q e hx hy _ k=>by
 obtain⟨b,e1,rfl⟩:=iP e
 obtain⟨q,rfl⟩:=aH e1
 obtain⟨h1,h2,h3,h4⟩:=CT q
 exact⟨_,_,Rep.dp x v h1 hx.hb,Rep.dp y w h2 hy.hb,h3,h4,k _ H G .refl mS⟩
def D.items:D->Option (List D)
 | .lst ds=>some ds
 | .tup ds=>some ds
 |_=>none
theorem Rep.items {K:Frg} {S:Sa} {H:Hp} {d:D} {ds:List D} {v:V} (e:d.items=some ds) (h:Rep K S H d v): ∃a vs,v= .ref a/\(SqL K H a vs\/SqT K H a vs)/\aC K S H ds vs:=by
 cases d <;> first|cases e|skip
 ·unfold Rep at h
  obtain⟨a,vs,e1,_,l,r⟩:=h
  exact⟨a,vs,e1,.inl (SqL.of l),r⟩
 ·unfold Rep at h
  obtain⟨a,vs,e1,l,r⟩:=h
  exact⟨a,vs,e1,.inr l.sq,r⟩
def D.inA (neg:Bool) (x y:D):Option Bool:=(x.toV).bind fun a=>(y.items).bind fun ds=>(D.p7 ds).map fun vs=>if neg=true then !inV a vs else inV a vs
theorem JW {neg:Bool} {m2:VM}:Op2 X (rIn X.K neg) (.rg ma) m2 (.rg rg) (blD (D.inA neg)):=fun O H0 H G x y v w d Q e hx hy _ k=>by
 obtain⟨b,e1,rfl⟩:=iP e
 obtain⟨a,ds,e2,e3,e4⟩:=bD e1
 cases q:D.p7 ds with
 |none=>rw[q] at e4;cases e4
 |some vs=>
  rw[q] at e4;cases e4
  obtain⟨p,ws,rfl,l,r⟩:=Rep.items e3 hy.hb
  have:=aC.p7 q r
  subst this
  have hv:=Rep.toV e2 hx
  subst hv
  exact⟨p,ws,rfl,l,yw e2,vM q,k _ H G .refl mS⟩
def D.isN:D->Option Bool
 | .non=>some true
 | .bl _=>some false| .int _=>some false| .str _=>some false
 | .lst _=>some false| .tup _=>some false| .dct _=>some false| .dcT _=>some false| .ins _ _=>some false| .fn _=>some false| .sc _=>some false
theorem Fe {K:Frg} {S:Sa} {H:Hp} {d:D} {v:V} {b:Bool} (h:Rep K S H d v) (e:d.isN=some b):decide (v= .non)=b:=by
 cases d <;> cases e <;> unfold Rep at h
 ·rw[h];rfl
 ·rw[h];rfl
 ·rw[h];rfl
 ·rw[h];rfl
 ·obtain⟨a,vs,rfl,_⟩:=h;rfl
 ·obtain⟨a,vs,rfl,_⟩:=h;rfl
 ·obtain⟨a,vs,rfl,_⟩:=h;rfl
 ·obtain⟨a,vs,rfl,_⟩:=h;rfl
 ·obtain⟨a,dx,fs,rfl,_⟩:=h;rfl
 ·rw[h];rfl
 ·obtain⟨a,rfl,_⟩:=h;rfl
def D.vh (x y:D):Option Bool:=match y with
 | .non=>x.isN
 |_=>none
theorem BU {x y:D} {b:Bool} (h:D.vh x y=some b):y= .non/\x.isN=some b:=by
 cases y <;> first|cases h|skip
 exact⟨rfl,h⟩
theorem tY {m1:VM}:Op2 X (fun x y H Q=>y= .non/\Q (.bl (decide (x= .non))) H) m1 (.rg mb) (.rg rg) (blD D.vh):=fun O H0 H G x y v w d Q e hx hy _ k=>by
 obtain⟨b,e1,rfl⟩:=iP e
 obtain⟨rfl,e2⟩:=BU e1
 refine⟨by unfold bE Rep at hy;exact hy,?_⟩
 rw[Fe hx.hb e2]
 exact k _ H G .refl mS
end
end Sw
namespace Sw
open PySem PySem.Spec PyProof.Rows L2
variable [NmC]
section
variable {K:Frg} {O:Org} {H H1 H2:Hp} {G G1 G2:Sa}
theorem Ext.new {p:Addr} {o:HO} (h:H p=none):Ext H G (upd H p o) G:=
 .of (fun q u e=>by rw[upd_ne (ne_of_none e h)];exact e) (fun _ g=>g) (fun _ g=>.inl g)
theorem Ext.Ff {p:Addr} {o:HO} (h:H p=none):Ext H G (upd H p o) (fun q=>G q\/q=p):=
 .of (fun q u e=>by rw[upd_ne (ne_of_none e h)];exact e) (fun _ g=>.inl g) (fun q g=>g.elim .inl fun e=>by subst e;exact .inr (.inl ⟨h,by rw[upd_same];simp⟩))
theorem qK {S:Sa} {p:Addr} {o:HO} (h:H p=none):Agr S H (upd H p o):=CJ fun q u e=>by rw[upd_ne (ne_of_none e h)];exact e
theorem s9: ∀{ds:List D} {vs:List V},aC K G H ds vs->fX (Own K G H .fz) ds vs []
 | [],_,h=>by unfold aC at h;exact⟨h,rfl⟩
 |d::ds,_,h=>by
  unfold aC at h
  obtain⟨v,r,e,h1,h2⟩:=h
  exact⟨v,r,[],[],e,by unfold Own;exact⟨h1,rfl⟩,s9 h2,rfl⟩
theorem yz: ∀{ds:List D} {vs:List V} {L:List Addr},fX (Own K G H .fz) ds vs L->aC K G H ds vs/\L=[]
 | [],_,_,h=>by rw[h.1];exact⟨.nil,h.2⟩
 |d::ds,_,_,⟨v,r,L1,L2,e1,o1,o2,e2⟩=>by
  unfold Own at o1
  obtain⟨h1,h2⟩:=yz o2
  rw[e1,e2,o1.2,h2]
  exact⟨.cons o1.1 h1,rfl⟩
theorem rE {ds:List D} {vs:List V} {p:Addr} (hp:H p=none) (gin: ∀p,G p->H p≠none) (r:aC K G H ds vs):bE K O H (upd H p (.lst vs)) G (.nw (.ls .fz)) (.lst ds) (.ref p):=by
 refine⟨[p],(by simp:[p].Nodup),fun q m=> ?_,?_⟩
 ·rw[List.mem_singleton] at m
  subst m
  exact⟨hp,fun g=>gin _ g hp⟩
 ·unfold Own
  exact⟨p,vs,ds,[],rfl,rfl,upd_same,s9 (aC.mono (fun _ g=>g) (qK hp) ds vs r),rfl⟩
def allM (m:VM):List VM->Prop
 | []=>True
 |n::ns=>n=m/\allM m ns
theorem kP.CV {r:Rg}: ∀{ms:List VM} {ds:List D} {vs:List V},allM (.rg r) ms->kP K O H H1 G1 ms ds vs->aC K (rgn O G1 r) H1 ds vs
 | [],[],_,_,h=>by rw[show _=[] from h];exact .nil
 |m::ms,d::ds,_,⟨e,a⟩,⟨v,r,e1,h1,h2⟩=>by
  subst e;subst e1
  exact .cons h1 (kP.CV a h2)
 | [],_::_,_,_,h=>h.elim
 |_::_,[],_,_,h=>h.elim
end
section
variable {X:Cx} {Δ:List Md} {st:Ds} {a b e o:Expr} {es:List Expr} {m ma mb:VM} {ra rb:Option D} {pos:Pos} {r rg:Rg}
theorem fZ {ms:List VM} {rs:Option (List D)} (h:PAx X Δ st es ms rs) (hm:allM (.rg .fz) ms):PX X Δ st (.List es pos) (.nw (.ls .fz)) (rs.bind fun ds=>if ds.length<=sizeLine then some (.lst ds) else none):=
 bW (pe_lst h) fun σ H Q ⟨O,G,d,rel,er,k⟩=>by
  obtain⟨ds,e1,e2⟩:=bind1 er
  obtain⟨q,rfl⟩:=aH e2
  refine rdA.go rel e1 fun vs H1 G1 rel1 x1 v1=> ?_
  have hr:=v1.CV hm
  exact⟨by rw[hr.length];exact q,fun p hp=>k _ _ G1 (x1.trans (.new hp)) (bE.back x1 (rE hp rel1.gin hr))⟩
theorem wD {ms:List VM} {rs:Option (List D)} (h:PAx X Δ st es ms rs) (hm:allM (.rg .fz) ms) {x1:Nat} (hl:es.length<=1000) (hlen: ∀ds,rs=some ds->ds.length<=1000):PX X Δ st (.Tuple es x1 pos) (.rg .fz) (rs.bind fun ds=>some (.tup ds)):=
 bW (pe_tup h) fun σ H Q ⟨O,G,d,rel,er,k⟩=>by
  obtain⟨ds,e1,e2⟩:=bind1 er
  cases e2
  refine rdA.go rel e1 fun vs H1 G1 rel1 x1 v1=> ?_
  have hr:=v1.CV hm
  refine⟨by rw[hr.length];exact Nat.le_of_lt (small1000 (hlen ds e1)),fun p hp=>k _ _ _ (x1.trans (.Ff hp)) ?_⟩
  unfold bE Rep
  exact⟨p,vs,rfl,⟨.inr rfl,upd_same⟩,aC.mono (fun _ g=>.inl g) (qK hp) ds vs hr⟩
theorem aT {r2:R2} {f:D->D->Option D} (hr:IxR X r2) (hf:Op2 X r2 ma mb m f) (ha:PX X Δ st a ma ra) (hb:PX X Δ st b mb rb) (hs:PlainIx b):PX X Δ st (.Subscript a b pos) m (ra.bind fun x=>rb.bind fun y=>f x y):=
 bW (pe_ix hr ha hb hs) fun _ _ _ h=>wx hf h
def D.atL (x y:D):Option D:=match x,y with
 | .lst ds,.int i=>atI ds i
 |_,_=>none
def D.atT (x y:D):Option D:=match x,y with
 | .tup ds,.int i=>atI ds i
 |_,_=>none
def D.atS (x y:D):Option D:=match x,y with
 | .str z,.int i=>if z.length<=sizeLine then (atI z.cps.toList i).map fun c=>.str ⟨#[c]⟩ else none
 |_,_=>none
def D.atC (x y:D):Option D:=match x,y with
 | .sc ns,.int i=>(atI ns i).map D.int
 |_,_=>none
theorem aC.atI {K:Frg} {S:Sa} {H:Hp} {ds:List D} {vs:List V} {i:Int} {d:D} (h:aC K S H ds vs) (e:L2.atI ds i=some d): ∃v,L2.atI vs i=some v/\Rep K S H d v:=by
 unfold L2.atI at e⊢
 rw[h.length]
 cases q:ixN ds.length i with
 |none=>rw[q] at e;cases e
 |some j=>
  rw[q] at e
  exact h.get e
theorem cj:Op2 X (rIxL X.K) (.rg r) (.rg mb') (.rg r) D.atL:=fun O H0 H G x y v w d Q e hx hy _ k=>by
 cases x <;> cases y <;> first|cases e|skip
 rename_i ds i
 unfold bE Rep at hx
 obtain⟨a,vs,rfl,_,l,rr⟩:=hx
 obtain⟨u,e1,e2⟩:=rr.atI e
 exact⟨a,vs,i,u,rfl,hy.int,SqL.of l,e1,k _ H G .refl e2⟩
theorem lB:Op2 X (rIxT X.K) (.rg r) (.rg mb') (.rg r) D.atT:=fun O H0 H G x y v w d Q e hx hy _ k=>by
 cases x <;> cases y <;> first|cases e|skip
 rename_i ds i
 unfold bE Rep at hx
 obtain⟨a,vs,rfl,l,rr⟩:=hx
 obtain⟨u,e1,e2⟩:=rr.atI e
 exact⟨a,vs,i,u,rfl,hy.int,l.sq,e1,k _ H G .refl e2⟩
theorem yA:Op2 X rIxS (.rg r) (.rg mb') (.rg rg) D.atS:=fun O H0 H G x y v w d Q e hx hy _ k=>by
 cases x <;> cases y <;> first|cases e|skip
 rename_i z i
 have e:(if z.length<=sizeLine then (atI z.cps.toList i).map fun c=>D.str ⟨#[c]⟩ else none)=some d:=e
 split at e
 ·rename_i q
  cases e1:atI z.cps.toList i with
  |none=>rw[e1] at e;cases e
  |some c=>rw[e1] at e;cases e;exact⟨z,i,c,hx.str,hy.int,q,e1,k _ H G .refl p8⟩
 ·cases e
theorem Fg {α β:Type} (f:α->β) (l:List α) (i:Int):atI (l.map f) i=(atI l i).map f:=by
 unfold atI
 rw[List.length_map]
 cases ixN l.length i with
 |none=>rfl
 |some j=>simp
theorem JX:Op2 X (rIxL X.K) (.rg r) (.rg mb') (.rg rg) D.atC:=fun O H0 H G x y v w d Q e hx hy _ k=>by
 cases x <;> cases y <;> first|cases e|skip
 rename_i ns i
 have e:(atI ns i).map D.int=some d:=e
 unfold bE Rep at hx
 obtain⟨a,rfl,l⟩:=hx
 cases e1:atI ns i with
 |none=>rw[e1] at e;cases e
 |some c=>rw[e1] at e;cases e;exact⟨a,_,i,.int c,rfl,hy.int,l.sq,by rw[Fg,e1];rfl,k _ H G .refl kH⟩
def D.key:D->Option Key
 | .int i=>some (.inl i)
 | .str x=>some (.inr x)
 |_=>none
def kD:Key->D
 | .inl i=>.int i
 | .inr x=>.str x
theorem Rep.key {K:Frg} {S:Sa} {H:Hp} {d:D} {k:Key} {v:V} (e:d.key=some k) (h:Rep K S H d v):v=kV k:=by
 cases d <;> first|cases e|skip
 ·unfold Rep at h;exact h
 ·unfold Rep at h;exact h
def D.keys:List D->Option (List Key)
 | []=>some []
 |d::ds=>(d.key).bind fun k=>(D.keys ds).bind fun ks=>some (k::ks)
theorem aC.keys {K:Frg} {S:Sa} {H:Hp}: ∀{ds:List D} {ks:List Key} {vs:List V},D.keys ds=some ks->aC K S H ds vs->vs=ks.map kV
 | [],_,_,e,h=>by unfold aC at h;cases e;exact h
 |d::ds,_,_,e,h=>by
  unfold aC at h
  obtain⟨v,r,rfl,h1,h2⟩:=h
  unfold D.keys at e
  obtain⟨x,y,e1,e2,e3⟩:=bD e
  cases e3
  rw[Rep.key e1 h1,aC.keys e2 h2];rfl
def D.Ih:D->Option (List Key)
 | .tup ds=>D.keys ds
 |_=>none
def D.look (x y:D):Option (Option D):=match x with
 | .dct ks=>(y.key).map fun k=>aF ks k
 | .dcT ks=>(y.Ih).map fun k=>aF ks k
 |_=>none
theorem gk.get {K:Frg} {S:Sa} {H:Hp}: ∀{ks:List (List Key×D)} {kvs:List (List Key×V)} (k:List Key),gk K S H ks kvs->(∀d,aF ks k=some d-> ∃v,valV kvs k=some v/\Rep K S H d v)/\(aF ks k=none->valV kvs k=none)
 | [],_,k,h=>by
  unfold gk at h
  rw[h]
  exact⟨fun d e=>(nomatch e),fun _=>rfl⟩
 |(j,d)::ks,_,k,h=>by
  unfold gk at h
  obtain⟨v,r,rfl,h1,h2⟩:=h
  have ih:=gk.get k h2
  rw[aW]
  by_cases e:j=k
  ·subst e
   rw[valV_pos rfl]
   simp only[if_true]
   exact⟨fun d' e'=>⟨v,rfl,(Option.some.inj e')▸h1⟩,fun e'=>(nomatch e')⟩
  ·rw[valV_neg (show ¬(j,v).1=k from e)]
   simp only[e,if_false]
   exact ih
theorem Rep.look {K:Frg} {S S':Sa} {H:Hp} {x y:D} {o:Option D} {v w:V} (e:D.look x y=some o) (hx:Rep K S H x v) (hy:Rep K S' H y w): ∃a u,v= .ref a/\DGet H a w u/\IsD H a/\(∀d,o=some d-> ∃z,u=some z/\Rep K S H d z)/\(o=none->u=none):=by
 cases x <;> first|cases e|skip
 ·rename_i ks
  have e:(y.key).map (fun k=>aF ks k)=some o:=e
  cases q:y.key with
  |none=>rw[q] at e;cases e
  |some k=>
   rw[q] at e;cases e
   unfold Rep at hx
   obtain⟨a,kvs,rfl,_,l,nd,rr⟩:=hx
   obtain⟨g1,g2⟩:=rr.get k
   exact⟨a,valV kvs k,rfl,.inl ⟨kvs,k,l,Rep.key q hy,rfl⟩,.inl ⟨kvs,l⟩,fun d e=>g1 d e,g2⟩
 ·rename_i ks
  have e:(y.Ih).map (fun k=>aF ks k)=some o:=e
  cases q:y.Ih with
  |none=>rw[q] at e;cases e
  |some k=>
   rw[q] at e;cases e
   unfold Rep at hx
   obtain⟨a,kvs,rfl,_,l,nd,rr⟩:=hx
   obtain⟨g1,g2⟩:=rr.get k
   cases y <;> first|cases q|skip
   unfold Rep at hy
   obtain⟨b,vs,rfl,lt,rs⟩:=hy
   have:=rs.keys q
   subst this
   exact⟨a,valV kvs k,rfl,.inr ⟨kvs,k,b,l,rfl,lt.2,rfl⟩,.inr ⟨kvs,l⟩,fun d e=>g1 d e,g2⟩
def D.Fh (x y:D):Option D:=(D.look x y).bind id
def D.inK (y x:D):Option Bool:=(D.look x y).map fun o=>o.isSome
def D.Fj (y x:D):Option Bool:=(D.look x y).map fun o=> !o.isSome
def D.tb:D->Option Bool
 | .bl b=>some b
 |_=>none
theorem AW {d:D} {b:Bool} (h:d.tb=some b):d= .bl b:=by
 cases d <;> first|cases h|skip
 rfl
theorem AX (h:PX X Δ st e (.rg r) ra) (he: ∀whole,isTrue e X.env whole=(do let v<-whole;standAt e.pos;holding [v] (truthy v)):=by intro _;rfl):PTx X Δ st e (ra.bind D.tb):=
 yq (pt_val h he) fun σ H Q ⟨O,G,b,rel,er,k⟩=>by
  obtain⟨d,e1,e2⟩:=bind1 er
  have:=AW e2
  subst this
  exact rdE.go rel e1 fun v H1 G1 rel1 x1 v1=>⟨b,v1.bl,k H1 G1 x1⟩
theorem ia {rt:Option Bool} (h:PTx X Δ st e rt):PTx X Δ st (.UnaryOp .Not e pos) (rt.bind fun b=>some (!b)):=
 yq (pt_not h) fun σ H Q ⟨O,G,b,rel,er,k⟩=>by
  obtain⟨d,e1,e2⟩:=bind1 er
  cases e2
  exact rdT.go rel e1 fun H1 G1 rel1 x1=>k H1 G1 x1
theorem CW {rt:Option Bool} (h:PTx X Δ st e rt):PWx X Δ st (.BoolOp .And [e] pos) rt:=pw_and1 h
theorem jq {rt:Option Bool} (h:PTx X Δ st e rt):PWx X Δ st (.BoolOp .Or [e] pos) rt:=pw_or1 h
theorem Fl {rt rs:Option Bool} {b:Expr} {rest:List Expr} (h:PTx X Δ st e rt) (hb:PWx X Δ st (.BoolOp .And (b::rest) pos) rs):PWx X Δ st (.BoolOp .And (e::b::rest) pos) (rt.bind fun c=>if c=true then rs else some false):=
 Ho (pw_and h hb) fun σ H Q ⟨O,G,b,rel,er,k⟩=>by
  obtain⟨c,e1,e2⟩:=bind1 er
  refine rdT.go rel e1 fun H1 G1 rel1 x1=> ?_
  cases c with
  |true=>exact rdT.go rel1 (by simpa using e2) fun H2 G2 rel2 x2=>k H2 G2 (x1.trans x2)
  |false=>cases e2;exact k H1 G1 x1
theorem kJ {rt rs:Option Bool} {b:Expr} {rest:List Expr} (h:PTx X Δ st e rt) (hb:PWx X Δ st (.BoolOp .Or (b::rest) pos) rs):PWx X Δ st (.BoolOp .Or (e::b::rest) pos) (rt.bind fun c=>if c=true then some true else rs):=
 Ho (pw_or h hb) fun σ H Q ⟨O,G,b,rel,er,k⟩=>by
  obtain⟨c,e1,e2⟩:=bind1 er
  refine rdT.go rel e1 fun H1 G1 rel1 x1=> ?_
  cases c with
  |false=>exact rdT.go rel1 (by simpa using e2) fun H2 G2 rel2 x2=>k H2 G2 (x1.trans x2)
  |true=>cases e2;exact k H1 G1 x1
theorem zV {op:PySem.BoolOp} (h:PX X Δ st e m ra):PX X Δ st (.BoolOp op [e] pos) m ra:=pe_one h
theorem zW {b:Expr} {rest:List Expr} (h:PX X Δ st e (.rg r) ra) (hb:PX X Δ st (.BoolOp .And (b::rest) pos) (.rg rg) rb):PX X Δ st (.BoolOp .And (e::b::rest) pos) (.rg rg) ((ra.bind D.tb).bind fun c=>if c=true then rb else some (.bl false)):=
 bW (pe_and h hb) fun σ H Q ⟨O,G,d,rel,er,k⟩=>by
  obtain⟨c,e1,e2⟩:=bind1 er
  obtain⟨x,e3,e4⟩:=bind1 e1
  have:=AW e4
  subst this
  refine rdE.go rel e3 fun v H1 G1 rel1 x1 v1=>⟨c,v1.bl,?_⟩
  cases c with
  |true=>exact rdE.go rel1 (by simpa using e2) fun w H2 G2 rel2 x2 v2=>k w H2 G2 (x1.trans x2) v2
  |false=>cases e2;exact k _ H1 G1 x1 mS
def un1 {α:Type} (f:D->Option α):List D->Option α
 | [x]=>f x
 |_=>none
def un2 {α:Type} (f:D->D->Option α):List D->Option α
 | [x,y]=>f x y
 |_=>none
theorem mT {α:Type} {f:D->Option α} {xs:List D} {d:α} (h:un1 f xs=some d): ∃x,xs=[x]/\f x=some d:=by
 match xs,h with
 | [x],h=>exact⟨x,rfl,h⟩
theorem zX {K:Frg} {O:Org} {H H1:Hp} {G1:Sa} {m1:VM} {x:D} {vs:List V} (h:kP K O H H1 G1 [m1] [x] vs): ∃v,vs=[v]/\bE K O H H1 G1 m1 x v:=by
 obtain⟨v,r,e,h1,h2⟩:=h
 rw[show r=[] from h2] at e
 exact⟨v,e,h1⟩
def D.lC (x:D):Option D:=(x.items).map fun ds=>.int ds.length
theorem oU:OpN X (fun xs H Q=> ∃p ys,xs=[.ref p]/\(SqL X.K H p ys\/SqT X.K H p ys)/\Q (.int ys.length) H) [ma] (.rg rg) (un1 D.lC):=fun O H0 H G xs vs d Q e hv _ k=>by
 obtain⟨x,rfl,e1⟩:=mT e
 obtain⟨v,rfl,h1⟩:=zX hv
 unfold D.lC at e1
 cases q:x.items with
 |none=>rw[q] at e1;cases e1
 |some ds=>
  rw[q] at e1;cases e1
  obtain⟨p,ws,rfl,l,r⟩:=Rep.items q h1.hb
  refine⟨p,ws,rfl,l,?_⟩
  rw[r.length]
  exact k _ H G .refl kH
def D.yB (x:D):Option D:=match x with
 | .sc ns=>some (.int ns.length)
 |_=>none
theorem Ii:OpN X (fun xs H Q=> ∃p ys,xs=[.ref p]/\(SqL X.K H p ys\/SqT X.K H p ys)/\Q (.int ys.length) H) [.rg r] (.rg rg) (un1 D.yB):=fun O H0 H G xs vs d Q e hv _ k=>by
 obtain⟨x,rfl,e1⟩:=mT e
 obtain⟨v,rfl,h1⟩:=zX hv
 cases x <;> first|cases e1|skip
 unfold bE Rep at h1
 obtain⟨a,rfl,l⟩:=h1
 refine⟨a,_,rfl,.inl l.sq,?_⟩
 rw[List.length_map]
 exact k _ H G .refl kH
def D.lQ (x:D):Option D:=match x with
 | .str z=>if z.length<=sizeLine then some (.int z.length) else none
 |_=>none
theorem oV:OpN X (fun xs H Q=> ∃x n,xs=[x]/\LenV X.K x H n/\Q (.int n) H) [.rg r] (.rg rg) (un1 D.lQ):=fun O H0 H G xs vs d Q e hv _ k=>by
 obtain⟨x,rfl,e1⟩:=mT e
 obtain⟨v,rfl,h1⟩:=zX hv
 cases x <;> first|cases e1|skip
 rename_i z
 obtain⟨q,rfl⟩:=aH (show (if z.length<=sizeLine then some (D.int z.length) else none)=some d from e1)
 rw[h1.str]
 exact⟨_,z.length,rfl,⟨q,rfl⟩,k _ H G .refl kH⟩
def D.Fm (x:D):Option D:=match x with
 | .dct ks=>some (.int ks.length)
 |_=>none
def D.toL (x:D):Option D:=(x.items).map .lst
end
end Sw
namespace Sw
open PySem PySem.Spec PyProof.Rows L2
variable [NmC]
section
variable {X:Cx} {Δ:List Md} {st:Ds} {a b e o:Expr} {es:List Expr} {m ma mb:VM} {ra rb:Option D} {pos p2:Pos} {r rg:Rg}
def rdO (K:Frg) (Δ:List Md) (st:Ds) (ro:Option (Option Int)):TO:=fun σ H Q=> ∃O G i,Rel K O Δ st σ H G/\ro=some i/\ ∀H' G',Ext H G H' G'->Q i H'
abbrev POx (X:Cx) (Δ:List Md) (st:Ds) (e:Option Expr) (r:Option (Option Int)):Prop:=PO X e (rdO X.K Δ st r)
theorem da:POx X Δ st none (some none):=⟨fun pins s σ H Q I ⟨O,G,i,rel,er,k⟩=>by
 cases er
 exact po_none.run pins s σ H Q I (k H G .refl)⟩
def D.toI:D->Option (Option Int)
 | .int i=>some (some i)
 |_=>none
theorem cD (h:PX X Δ st e (.rg r) ra):POx X Δ st (some e) (ra.bind D.toI):=⟨fun pins s σ H Q I ⟨O,G,i,rel,er,k⟩=>by
 obtain⟨d,e1,e2⟩:=bind1 er
 cases d <;> first|cases e2|skip
 exact (po_some h).run pins s σ H Q I (rdE.go rel e1 fun v H1 G1 rel1 x1 v1=>⟨_,v1.int,k H1 G1 x1⟩)⟩
def dO {α:Type} (xs:List α) (lo hi:Option Int):List α:=(xs.drop (HT.sIx xs.length 0 lo)).take (HT.sIx xs.length xs.length hi -HT.sIx xs.length 0 lo)
def D.dO (x:D) (lo hi:Option Int):Option D:=match x with
 | .lst ds=>some (.lst (Sw.dO ds lo hi))
 |_=>none
theorem aC.cut {K:Frg} {S:Sa} {H:Hp} {ds:List D} {vs:List V} (h:aC K S H ds vs) (lo hi:Option Int):aC K S H (Sw.dO ds lo hi) (cutV vs lo hi):=by
 unfold Sw.dO cutV
 rw[h.length]
 exact (h.drop _).take _
theorem AY {lo hi:Option Expr} {rl rh:Option (Option Int)} (ha:PX X Δ st a (.rg .fz) ra) (hl:POx X Δ st lo rl) (hh:POx X Δ st hi rh):PX X Δ st (.Subscript a (.Slice lo hi none p2) pos) (.nw (.ls .fz)) (ra.bind fun x=>rl.bind fun l=>rh.bind fun u=>D.dO x l u):=
 bW (L2.pe_slice sl_list ha hl hh) fun σ H Q ⟨O,G,d,rel,er,k⟩=>by
  obtain⟨x,e1,er⟩:=bind1 er
  obtain⟨l,u,e2,e3,e4⟩:=bD er
  cases x <;> first|cases e4|skip
  refine rdE.go rel e1 fun v H1 G1 rel1 x1 v1=>⟨O,G1,l,rel1,e2,fun H2 G2 x2=>⟨O,G2,u,rel1.ext x2,e3,fun H3 G3 x3=> ?_⟩⟩
  have v3:=(v1.mono x2).mono x3
  unfold bE Rep at v3
  obtain⟨p,vs,rfl,_,l',r'⟩:=v3
  exact⟨p,vs,rfl,SqL.of l',fun q hq=>k _ _ G3 ((x1.trans (x2.trans x3)).trans (.new hq)) (bE.back (x1.trans (x2.trans x3)) (rE hq ((rel1.ext x2).ext x3).gin (r'.cut l u)))⟩
def D.Ij (x:D) (lo hi:Option Int):Option D:=match x with
 | .sc ns=>some (.lst ((Sw.dO ns lo hi).map D.int))
 |_=>none
def D.cutS (x:D) (lo hi:Option Int):Option D:=match x with
 | .str z=>if z.length<=sizeLine then some (.str (L2.cutS z lo hi)) else none
 |_=>none
theorem kR {lo hi:Option Expr} {rl rh:Option (Option Int)} (ha:PX X Δ st a (.rg r) ra) (hl:POx X Δ st lo rl) (hh:POx X Δ st hi rh):PX X Δ st (.Subscript a (.Slice lo hi none p2) pos) (.rg rg) (ra.bind fun x=>rl.bind fun l=>rh.bind fun u=>D.cutS x l u):=
 bW (L2.pe_slice sl_str ha hl hh) fun σ H Q ⟨O,G,d,rel,er,k⟩=>by
  obtain⟨x,e1,er⟩:=bind1 er
  obtain⟨l,u,e2,e3,e4⟩:=bD er
  cases x <;> first|cases e4|skip
  rename_i z
  obtain⟨q,rfl⟩:=aH (show (if z.length<=sizeLine then some (D.str (L2.cutS z l u)) else none)=some d from e4)
  refine rdE.go rel e1 fun v H1 G1 rel1 x1 v1=>⟨O,G1,l,rel1,e2,fun H2 G2 x2=>⟨O,G2,u,rel1.ext x2,e3,fun H3 G3 x3=> ?_⟩⟩
  exact⟨z,v1.str,q,k _ H3 G3 (x1.trans (x2.trans x3)) p8⟩
def D.qL (x y:D):Option D:=match x,y with
 | .lst xs,.lst ys=>if xs.length+ys.length<=sizeLine then some (.lst (xs++ys)) else none
 |_,_=>none
theorem wF:Op2 X rCat (.rg .fz) (.rg .fz) (.nw (.ls .fz)) D.qL:=fun O H0 H G x y v w d Q e hx hy gin k=>by
 cases x <;> cases y <;> first|cases e|skip
 rename_i xs ys
 obtain⟨q,rfl⟩:=aH (show (if xs.length+ys.length<=sizeLine then some (D.lst (xs++ys)) else none)=some d from e)
 unfold bE Rep at hx hy
 obtain⟨a,vs,rfl,_,l,rr⟩:=hx
 obtain⟨b,ws,rfl,_,l',rr'⟩:=hy
 exact⟨a,b,vs,ws,rfl,rfl,l,l',by rw[rr.length,rr'.length];exact q,fun p hp=>k _ _ G (.new hp) (rE hp gin (rr.append rr'))⟩
def dLe (x y:D):Bool:= !PySem.W.dataLt y.pd x.pd
def Ik (ds:List D):Bool:=ds.all fun a=>ds.all fun b=>PySem.W.alike a.pd b.pd
def D.JY:D->Bool
 | .tup (_::_)=>true
 |_=>false
def D.noT:D->Bool
 | .int _=>true| .str _=>true| .bl _=>true| .lst _=>true
 |_=>false
def Il (ds:List D):Bool:=ds.all (fun d=>d.dat&&decide (d.pd.depth<=40))&&Ik ds&&(ds.all D.JY||ds.all D.noT)&&decide (ds.length<=sizeLine)
def srt (ds:List D):List D:=ds.mergeSort dLe
theorem tZ {tg:Expr} (h:PX X Δ st e (.rg rg) ra):PIx (δ:=D) X Δ st tg e rg (irV X.K) (ra.bind fun x=>match x with| .lst ds=>some ds|_=>none):=
 CP (pi_list h) fun σ H R ⟨O,G,ds,rel,er,k⟩=>by
  obtain⟨x,e1,e2⟩:=bind1 er
  cases x <;> first|cases e2|skip
  rename_i ds
  refine rdE.go rel e1 fun v H1 G1 rel1 x1 v1=> ?_
  unfold bE Rep at v1
  obtain⟨a,vs,rfl,s,l,rr⟩:=v1
  refine⟨a,rfl,⟨vs,SqL.of l⟩,k _ H1 G1 x1 (wkS fun H2 hst i=> ?_)⟩
  have l2:SqL X.K H2 a vs:=SqL.of (hst a _ s l (fun _ z=>by cases z))
  refine⟨fun d hd=> ?_,fun hi=>⟨vs,l2,by rw[rr.length];exact hi⟩⟩
  obtain⟨u,e3,e4⟩:=rr.get hd
  refine⟨⟨vs,u,l2,e3⟩,fun x H3 ⟨eH,f⟩=> ?_⟩
  subst eH
  have:=f vs l2
  rw[e3] at this;cases this
  exact⟨fun _ _ e=>e,Rep.mono (fun _ g=>g) (fun p sp=>oE.JT fun u n e=>hst p u sp e n) _ _ e4⟩
theorem Fn {K:Frg} {S:Sa} {H:Hp} {a b:D} {v:V} (h:Rep K S H (.tup [a,b]) v):irP K S H (a,b) v:=by
 unfold Rep at h
 obtain⟨p,vs,e,l,r⟩:=h
 unfold aC at r
 obtain⟨x,r1,rfl,h1,h2⟩:=r
 unfold aC at h2
 obtain⟨y,r2,rfl,h3,h4⟩:=h2
 unfold aC at h4
 subst h4
 exact⟨p,x,y,e,l.sq,h1,h3⟩
def D.pr:D->Option (D×D)
 | .tup [a,b]=>some (a,b)
 |_=>none
def D.prs:List D->Option (List (D×D))
 | []=>some []
 |d::ds=>(D.pr d).bind fun x=>(D.prs ds).bind fun xs=>some (x::xs)
def vi (lo:Int) (n:Nat):List D:=(List.range n).map fun i:Nat=>D.int (lo+i)
theorem Fo {lo:Int} {n i:Nat} {d:D} (h:(vi lo n)[i]? =some d):i<n/\d= .int (lo+i):=by
 unfold vi at h
 rw[List.getElem?_map] at h
 by_cases hi:i<n
 ·rw[List.getElem?_range hi] at h
  exact⟨hi,(Option.some.inj h).symm⟩
 ·rw[List.getElem?_eq_none (by simpa using hi)] at h;cases h
theorem Fp {K:Frg} {S S':Sa} {H:Hp} {lo:Int} {n:Nat}:Wlk (irV K S') S (Itr lo n) (vi lo n) H:=fun H2 _ i=>by
 refine⟨fun d hd=> ?_,fun hi=> ?_⟩
 ·obtain⟨hi,rfl⟩:=Fo hd
  refine⟨hi,fun x H3 ⟨eH,ex⟩=> ?_⟩
  subst eH;subst ex
  exact⟨fun _ _ e=>e,by unfold irV Rep;rfl⟩
 ·show n<=i
  unfold vi at hi
  simpa using hi
noncomputable def okR (i:Int):Bool:=@decide (-(2^62)<=i/\i<2^62) (Classical.propDecidable _)
noncomputable def D.rF (xs:List D):Option (List D):=match xs with
 | [.int n]=>if okR n=true then some (vi 0 n.toNat) else none
 |_=>none
theorem AZ {i:Int} (h:okR i=true): -(2^62)<=i/\i<2^62:=by
 unfold okR at h
 exact @of_decide_eq_true _ (Classical.propDecidable _) h
theorem yC {tg:Expr} {p:Pos} {rs:Option (List D)} (hg:Gl X "range") (hm:X.mg "range" =none) (ha:PAx X Δ st [a] [.rg r] rs) (hs:starEach [a] X.env=[(false,eval a X.env)]:=by rfl):
  PIx (δ:=D) X Δ st tg (.Call (.Name "range" p) [a] [] pos) .fz (irV X.K) (rs.bind D.rF):=CP (pi_range1 hg hm ha hs) fun σ H R ⟨O,G,ds,rel,er,k⟩=>by
 obtain⟨xs,e1,e2⟩:=bind1 er
 unfold D.rF at e2
 split at e2
 ·rename_i n
  obtain⟨q,rfl⟩:=aH e2
  refine rdA.go rel e1 fun vs H1 G1 rel1 x1 v1=> ?_
  obtain⟨v,rfl,h1⟩:=zX v1
  rw[h1.int]
  exact⟨n,rfl,(AZ q).1,(AZ q).2,k _ H1 G1 x1 Fp⟩
 ·cases e2
def sgn (c:Nat):D:=.str ⟨#[c]⟩
def D.oW (x:D):Option (List D):=match x with
 | .str z=>some (z.cps.toList.map sgn)
 |_=>none
theorem pz {tg:Expr} (h:PX X Δ st e (.rg r) ra):PIx (δ:=D) X Δ st tg e .fz (irV X.K) (ra.bind D.oW):=
 CP (pi_str h) fun σ H R ⟨O,G,ds,rel,er,k⟩=>by
  obtain⟨x,e1,e2⟩:=bind1 er
  cases x <;> first|cases e2|skip
  rename_i z
  refine rdE.go rel e1 fun v H1 G1 rel1 x1 v1=>⟨z,v1.str,k _ H1 G1 x1 fun H2 hst i=>⟨fun d hd=> ?_,fun hi=>by
   show z.cps.size<=i
   simpa using hi⟩⟩
  rw[List.getElem?_map] at hd
  cases q:z.cps.toList[i]? with
  |none=>rw[q] at hd;cases hd
  |some c=>
   rw[q] at hd;cases hd
   have hlt:i<z.cps.size:=by
    have:=(List.getElem?_eq_some_iff.mp q).1
    simpa using this
   refine⟨hlt,fun x H3 ⟨eH,c',e3,e4⟩=> ?_⟩
   subst eH
   rw[Array.getElem?_toList] at q
   rw[q] at e3;cases e3
   subst e4
   exact⟨fun _ _ e=>e,by unfold irV sgn Rep;rfl⟩
end
def qM {δ:Type} (rt:δ->Option Bool) (re:δ->Option D):List δ->Option (List D)
 | []=>some []
 |d::ds=>(rt d).bind fun b=>if b=true then (re d).bind fun x=>(qM rt re ds).bind fun xs=>some (x::xs) else qM rt re ds
def ua {δ:Type} (rt:δ->Option Bool) (re:δ->Option D) (ds:List δ):Option D:=if ds.length<=sizeLine then (qM rt re ds).map D.lst else none
abbrev JZ (X:Cx) (Δ:List Md) (st:Ds) (ifs:List Expr) (r:Option Bool):Prop:=PTs X ifs (rdT X.K Δ st r)
section
variable {X:Cx} {Δ:List Md} {st:Ds} {pos:Pos}
theorem yD:JZ X Δ st [] (some true):=⟨fun pins s σ H Q I ⟨O,G,b,rel,er,k⟩=>by
 cases er
 exact pts_nil.run pins s σ H Q I (k H G .refl)⟩
theorem yE {c:Expr} {r:Option Bool} (h:PTx X Δ st c r):JZ X Δ st [c] r:=pts_one h
theorem CY {ifs:List Expr} {α:Type} {t:α->TT} (h: ∀a,PTs X ifs (t a)):PTs X ifs (fun σ H Q=> ∃a,t a σ H Q):=⟨fun pins s σ H De I ⟨a,q⟩=>(h a).run pins s σ H De I q⟩
theorem Rel.wipe {K:Frg} {O:Org} {σ:CS} {H:Hp} {G:Sa}: ∀{vs:List Nat},(∀v∈vs,st[v]? =some none)->Rel K O Δ st σ H G->Rel K O Δ st (L2.wipe σ vs) H G
 | [],_,r=>r
 |v::vs,h,r=>by
  obtain⟨L,g,s⟩:=Rel.wipe (fun u m=>h u (List.mem_cons_of_mem _ m)) r
  unfold L2.wipe
  have hv:=h v List.mem_cons_self
  have hlt:v<Δ.length:=by rw[<-s.len.1];exact (List.getElem?_eq_some_iff.mp hv).1
  obtain⟨x',y',L1,L2',ex,ey,sr,pm,f⟩:=s.split (List.getElem?_eq_getElem hlt)
  rw[hv] at ex;cases ex
  obtain⟨L',pm',s'⟩:=f G H Δ[v] none none [] (fun _ g=>g) aB aB (fun _ _=>rfl) lu.none
  rw[iN hv,iN (List.getElem?_eq_getElem hlt)] at s'
  exact⟨L',((g.perm pm).sub (List.sublist_append_right _ _)).perm pm'.symm,s'⟩
theorem vN {σ:CS} {vs:List Nat}: ∀{us:List Nat},(∀u∈us,u∈vs)->L2.wipe (L2.wipe σ us) vs=L2.wipe σ vs
 | [],_=>rfl
 |u::us,h=>by
  show L2.wipe ((L2.wipe σ us).set u none) vs=_
  rw[oO (h u List.mem_cons_self)]
  exact vN fun w m=>h w (List.mem_cons_of_mem _ m)
theorem CZ {K:Frg} {δ:Type} {g:TG} {rg:Rg} {IR:Sa->Hp->δ->V->Prop} {rI:Option (List δ)} {uM:List Md->List Md} {uS:δ->Ds->Ds} {is vs0:List Nat} {rt:δ->Option Bool} {re:δ->Option D}
  (him:oP IR) (hw: ∀v∈vs0,st[v]? =some none) (his: ∀i∈is,i∈vs0) (htg:wB K g rg IR uM uS Δ.length is) {σ:CS} {H:Hp} {Q:VK}
  (h:rdE K Δ st (.nw (.ls .fz)) (rI.bind fun ds=>ua rt re ds) σ H Q):
  tLc (rdI K Δ st rg IR rI) g (fun σ H Q=> ∃d,rdT K (uM Δ) (uS d st) (rt d) σ H Q) (fun σ H Q=> ∃d,rdE K (uM Δ) (uS d st) (.rg .fz) (re d) σ H Q) vs0 σ H Q:=by
  obtain⟨O,G,d,rel,er,k⟩:=h
  obtain⟨ds,e1,e2⟩:=bind1 er
  unfold ua at e2
  split at e2
  case isFalse=>cases e2
  rename_i hz
  cases e3:qM rt re ds with
  |none=>rw[e3] at e2;cases e2
  |some all=>
   rw[e3] at e2;cases e2
   refine⟨O,G,ds,rel,e1,fun J H1 G1 x1 hwk D0 hD=> ?_⟩
   have rel1:=(rel.ext x1).wipe hw
   have nG: ¬G1 D0:=fun g=>rel1.gin _ g hD
   refine⟨fun i m H=> ∃G xs vs rest,m=ds.length -i/\i<=ds.length/\Ext H1 G1 H G/\H D0=some (.lst vs)/\ ¬G D0/\aC K G H xs vs/\xs.length<=i/\qM rt re (ds.drop i)=some rest/\all=xs++rest,
    ⟨ds.length,G1,[],[],all,by omega,by omega,.new hD,upd_same,nG,.nil,Nat.le_refl _,by simpa using e3,rfl⟩,fun i m H hW=> ?_⟩
   obtain⟨Gi,xs,vs,rest,em,hil,xi,hDi,nGi,rs,hxs,ec,ea⟩:=hW
   have hst: ∀p u,stR O G1 rg p->H1 p=some u->NT u->H p=some u:=fun p u _ e nt=>xi.hh p u e
   obtain⟨w1,w2⟩:=hwk H hst i
   by_cases hlt:i<ds.length
   ·have hd:ds[i]? =some ds[i]:=List.getElem?_eq_getElem hlt
    obtain⟨go,yl⟩:=w1 _ hd
    refine .inr ⟨go,fun H'=> ∃G xs vs rest,Ext H1 G1 H' G/\H' D0=some (.lst vs)/\ ¬G D0/\aC K G H' xs vs/\xs.length<=i+1/\qM rt re (ds.drop (i+1))=some rest/\all=xs++rest,
     fun H' ⟨G',xs',vs',rest',z1,z2,z3,z4,z5,z6,z7⟩=>⟨m -1,by omega,G',xs',vs',rest',by omega,by omega,z1,z2,z3,z4,z5,z6,z7⟩,fun x H3 hy=> ?_⟩
    obtain⟨hh,ir⟩:=yl x H3 hy
    have x3:Ext H Gi H3 Gi:=.of hh (fun _ g=>g) fun _ g=>.inl g
    have rl3:=rel1.ext (xi.trans x3)
    have hsub: ∀p,rgn O G1 rg p->rgn O Gi rg p:=fun p s=>by
     cases rg with
     |hb=>exact trivial
     |bb=>exact s
     |fz=>exact xi.gg p s
    refine htg _ _ _ _ _ _ _ x _ rfl rl3 (him _ _ H3 H3 _ x hsub (fun _ _ e=>e) ir) fun σ' rl' hwp=>⟨?_,?_⟩
    ·rw[hwp _ his]
     exact vN fun u m=>m
    ·rw[yt hd] at ec
     unfold qM at ec
     obtain⟨b,eb,ec⟩:=bind1 ec
     refine⟨ds[i],rdT.go rl' eb fun H4 G4 rl4 x4=> ?_⟩
     cases b with
     |true=>
      rw[if_pos rfl] at ec⊢
      obtain⟨y,ys,e5,e6,e7⟩:=bD ec
      cases e7
      refine⟨ds[i],rdE.go rl4 e5 fun v H5 G5 rl5 x5 v5=> ?_⟩
      have x35:Ext H Gi H5 G5:=x3.trans (x4.trans x5)
      have hD5:H5 D0=some (.lst vs):=x35.hh _ _ hDi
      have nG5: ¬G5 D0:=fun g=>by
       rcases x35.gn D0 g with g|⟨n,_⟩|⟨xs,t⟩
       ·exact nGi g
       ·rw[hDi] at n;cases n
       ·rw[hDi] at t;cases t
      have ag:Agr G5 H5 (upd H5 D0 (.lst (vs++[v]))):=fun p g=>oE.of_eq fun u e=>by
       rw[upd_ne (fun z=>by subst z;exact nG5 g)];exact e
      have rs5:aC K G5 H5 xs vs:=aC.mono x35.gg x35.agr xs vs rs
      refine⟨vs,hD5,by rw[rs.length];exact Nat.lt_of_lt_of_le (by omega) hz,G5,xs++[y],vs++[v],ys,?_,upd_same,nG5,aC.mono (fun _ g=>g) ag _ _ (rs5.append (.one v5)),by rw[List.length_append];simp;omega,e6,by rw[List.append_assoc];exact ea⟩
      have xx:=xi.trans x35
      exact xx.LP hD ⟨_,hD5,trivial⟩
     |false=>
      rw[if_neg Bool.false_ne_true] at ec⊢
      have x34:Ext H Gi H4 G4:=x3.trans x4
      have nG4: ¬G4 D0:=fun g=>by
       rcases x34.gn D0 g with g|⟨n,_⟩|⟨xs,t⟩
       ·exact nGi g
       ·rw[hDi] at n;cases n
       ·rw[hDi] at t;cases t
      exact⟨G4,xs,vs,rest,xi.trans x34,x34.hh _ _ hDi,nG4,aC.mono x34.gg x34.agr xs vs rs,by omega,ec,ea⟩
   ·refine .inl ⟨w2 (by omega),?_⟩
    rw[List.drop_of_length_le (by omega)] at ec
    cases ec
    rw[List.append_nil] at ea
    subst ea
    refine k _ H Gi (x1.trans xi) ⟨[D0],by simp,fun p m=> ?_,?_⟩
    ·rw[List.mem_singleton] at m
     subst m
     exact⟨x1.back hD,nGi⟩
    ·unfold Own
     exact⟨D0,vs,_,[],rfl,rfl,hDi,s9 rs,rfl⟩
theorem C0 {δ:Type} {elt tg iter:Expr} {ifs:List Expr} {scope:Scope} {own:List (Str×Nat)} {g:TG} {rg:Rg} {IR:Sa->Hp->δ->V->Prop} {rI:Option (List δ)} {uM:List Md->List Md} {uS:δ->Ds->Ds} {is:List Nat} {rt:δ->Option Bool} {re:δ->Option D}
  (hc:X.calm=true) (hN:X.N.Nodup) (hi:PIx X Δ st tg iter rg IR rI) (him:oP IR) (hr:rg≠ .hb) (ok:BlkOk X.N X.env.scope scope own) (hw: ∀v∈own.map (·.2),st[v]? =some none) (his: ∀i∈is,i∈own.map (·.2))
  (hg: ∀(s:Shared) (H:Hp) (C:Addr) (cl:List (Str×Addr)) (fp:List Addr),PG (X.blk s H scope (compEnvC scope cl C X.env) fp) tg g) (htg:wB X.K g rg IR uM uS Δ.length is)
  (ht: ∀(s:Shared) (H:Hp) (C:Addr) (cl:List (Str×Addr)) (fp:List Addr) (d:δ),PTs (X.blk s H scope (compEnvC scope cl C X.env) fp) ifs (rdT X.K (uM Δ) (uS d st) (rt d)))
  (he: ∀(s:Shared) (H:Hp) (C:Addr) (cl:List (Str×Addr)) (fp:List Addr) (d:δ),PE (X.blk s H scope (compEnvC scope cl C X.env) fp) elt (rdE X.K (uM Δ) (uS d st) (.rg .fz) (re d)))
  (hs: ∀x,foldedSetIterable iter X.env x=pure x:=by intro _;rfl):
  PX X Δ st (.ListComp elt [⟨tg,iter,ifs,0⟩] scope pos) (.nw (.ls .fz)) (rI.bind fun ds=>ua rt re ds):=
 bW (pe_lc hc hN hi ok hg (fun s H C cl fp=>CY fun d=>ht s H C cl fp d) (fun s H C cl fp=>Hq fun d=>he s H C cl fp d) hs) fun σ H Q h=>CZ him hw his htg h
end
end Sw
namespace Sw
open PySem PySem.Spec PyProof.Rows L2
variable [NmC]
inductive PM where
 |bo|fz|ow (s:Sh)|ini (s:Sh)|bl
def LU (K:Frg) (B G:Sa) (H:Hp):PM->D->V->List Addr->Prop
 | .bo,d,v,L=>Rep K B H d v/\L=[]
 | .fz,d,v,L=>Rep K G H d v/\L=[]
 | .ow s,d,v,L=>Own K G H s d v L
 | .ini _,d,v,L=>Own K G H (.is []) d v L
 | .bl,d,v,L=>Spn K B G H d v/\L=[]
def ub (K:Frg) (B G:Sa) (H:Hp):List PM->List D->List V->List Addr->Prop
 | [],[],[],L=>L=[]
 |m::ms,d::ds,v::vs,L=> ∃L1 L2,LU K B G H m d v L1/\ub K B G H ms ds vs L2/\L=L1++L2
 |_,_,_,_=>False
def bZ:List PM->List V->List (V×Sh)
 | .ow s::ms,v::vs=>(v,s)::bZ ms vs
 | .ini s::ms,v::vs=>(v,s)::bZ ms vs
 |_::ms,_::vs=>bZ ms vs
 |_,_=>[]
def vj:List PM->List V->List Md
 | .bo::ms,_::vs=>.bo::vj ms vs
 | .fz::ms,_::vs=>.fz::vj ms vs
 | .bl::ms,_::vs=>.bl::vj ms vs
 | .ow s::ms,v::vs=>.pn v s::vj ms vs
 | .ini _::ms,v::vs=>.pn v (.is [])::vj ms vs
 |_,_=>[]
def FSp (K:Frg) (ms:List PM) (rm:VM) (Fs:List D->Option FR):Sp:=fun vs H Q E=>
 ∃(O:Org) (ds:List D) (fr:FR),O.H0=H/\cG O H O.G0 O.L0/\ub K O.B O.G0 H ms ds vs O.L0/\Fs ds=some fr/\match fr with
  | .ok d os=> ∀v H' G',zU K rm (bZ ms vs) O d os v H' G'->Q v H'
  | .er x=> ∀c od H' G',XcR K (bZ ms vs) O x c od H' G'->E c od H'
theorem ub.len {K:Frg} {B G:Sa} {H:Hp}: ∀{ms:List PM} {ds:List D} {vs:List V} {L:List Addr},ub K B G H ms ds vs L->vs.length=ms.length/\ds.length=ms.length
 | [],[],[],_,_=>⟨rfl,rfl⟩
 |m::ms,d::ds,v::vs,_,⟨L1,L2,h1,h2,e⟩=>by
  have:=ub.len h2
  simp[this.1,this.2]
 | [],[],_::_,_,h=>h.elim
 | [],_::_,_,_,h=>h.elim
 |_::_,[],_,_,h=>h.elim
 |_::_,_::_,[],_,h=>h.elim
def outF:Out PEmpty PEmpty->Option FR
 | .ret d os=>some (.ok d os)
 | .exc x=>some (.er x)
 |_=>none
def fnX (rm:VM) (ps:List (V×Sh)) (E:XK):Exits PEmpty PEmpty:=⟨[],fun _=>[],[],fun _=>[],rm,ps,E,true⟩
theorem vO {K:Frg} {B G:Sa} {H:Hp}: ∀n:Nat,Slots K B G H (List.replicate n .fz) (List.replicate n none) (List.replicate n none) []
 |0=>rfl
 |n+1=>⟨[],[],rfl,vO n,rfl⟩
theorem nF {K:Frg} {B G:Sa} {H:Hp} {n:Nat}: ∀{ms:List PM} {ds:List D} {vs:List V} {L:List Addr},ub K B G H ms ds vs L->Slots K B G H (vj ms vs++List.replicate n .fz) (ds.map some++List.replicate n none) (vs.map some++List.replicate n none) L
 | [],[],[],L,h=>by rw[show L=[] from h];exact vO n
 |m::ms,d::ds,v::vs,_,⟨L1,L2,h1,h2,e⟩=>by
  have ih:=nF (n:=n) h2
  subst e
  cases m with
  |bo=>exact⟨L1,L2,⟨v,rfl,h1.1,h1.2⟩,ih,rfl⟩
  |fz=>exact⟨L1,L2,⟨v,rfl,h1.1,h1.2⟩,ih,rfl⟩
  |ow s=>exact⟨L1,L2,⟨rfl,h1⟩,ih,rfl⟩
  |ini s=>exact⟨L1,L2,⟨rfl,h1⟩,ih,rfl⟩
  |bl=>exact⟨L1,L2,⟨v,rfl,h1.1,h1.2⟩,ih,rfl⟩
 | [],[],_::_,_,h=>h.elim
 | [],_::_,_,_,h=>h.elim
 |_::_,[],_,_,h=>h.elim
 |_::_,_::_,[],_,h=>h.elim
section
variable {P:Program} {w:World} {K:Frg} {mg:Str->Option Value} {base:Heap}
abbrev cxT (P:Program) (w:World) (K:Frg) (mg:Str->Option Value) (base:Heap) (N:List Str) (qual:Str) (sc:Scope) (f:Addr) (cdv:Value) (A:Around) (outer:List Env) (s:Shared) (H:Hp) (E:XK):Cx:=
 (cxOf CX0 P w K mg base N qual sc f cdv A outer s H E).nox
theorem Im {x qual:Str} {st:Stmt} {f:Addr} {fd:FuncData} {N ps:List Str} {k n:Nat} {ms:List PM} {rm:VM} {Fs:List D->Option FR} (F:Fun K x qual st f fd) (S:FnScope N ps (defScope st)) (hl:ms.length=ps.length) (hn:N.length=ps.length+n)
  (h: ∀(cdv:Value) (A:Around) (outer:List Env) (s:Shared) (H:Hp) (vs:List V) (E:XK),fd.code=cdv->Room k (A.deeper (envOfC qual (defScope st) s.heap.objs.size f cdv))->vs.length=ms.length-> ∀ds fr,ds.length=ms.length->Fs ds=some fr→
   ∃m,Blk (cxT P w K mg base N qual (defScope st) f cdv A outer s H E) (fnX rm (bZ ms vs) E) (vj ms vs++List.replicate n .fz) (ds.map some++List.replicate n none) (defBody st) m/\m.bind outF=some fr):
  FnOk P w K mg base CX0 (k+1) f fd ps (FSp K ms rm Fs):=by
 obtain⟨oc,od,kV,doc,pm,an,cdv,ct,osl,rfl,lk,hcd⟩:=F.ex
 refine fn_of lk hcd S (fun vs H Q E ⟨O,ds,fr,e,g,a,_⟩=>a.len.1.trans hl) (fun A outer s H vs Q E hr ⟨O,ds,fr,e,g,a,ef,q⟩=> ?_)
 obtain⟨hv,hd⟩:=a.len
 obtain⟨m,hb,hm⟩:=h cdv A outer s H vs E rfl hr hv ds fr hd ef
 refine⟨_,PSs.nox hb,?_⟩
 obtain⟨o,e1,e2⟩:=bind1 hm
 have hs:L2.start N vs=vs.map some++List.replicate n none:=by
  unfold L2.start
  rw[show N.length -vs.length=n by omega]
 rw[hs]
 refine⟨O,O.G0,o,⟨O.L0,g,nF a⟩,e1,?_⟩
 cases o with
 |nx a=>exact a.elim
 |bk a=>exact a.elim
 |ct a=>exact a.elim
 |ret d os=>
  cases e2
  exact fun v H' G' r=>⟨q v H' G' r,fun _ ev σ=>by subst ev;exact q _ H' G' r⟩
 |exc x=>
  cases e2
  exact fun c od H' G' r=>q c od H' G' r
theorem dq {x qual:Str} {st:Stmt} {f:Addr} {fd:FuncData} {N ps:List Str} {k n:Nat} {ms:List PM} {rm:VM} {Fs:List D->Option FR} (F:Fun K x qual st f fd) (S:FnScope N ps (defScope st)) (hl:ms.length=ps.length) (hn:N.length=ps.length+n)
  (h: ∀(cdv:Value) (A:Around) (outer:List Env) (s:Shared) (H:Hp) (vs:List V) (E:XK),Room k (A.deeper (envOfC qual (defScope st) s.heap.objs.size f cdv))->vs.length=ms.length-> ∀ds fr,ds.length=ms.length->Fs ds=some fr→
   ∃m,Blk (cxT P w K mg base N qual (defScope st) f cdv A outer s H E) (fnX rm (bZ ms vs) E) (vj ms vs++List.replicate n .fz) (ds.map some++List.replicate n none) (defBody st) m/\m.bind outF=some fr):
  FnOk P w K mg base CX0 (k+1) f fd ps (FSp K ms rm Fs):=
 Im F S hl hn fun cdv A outer s H vs E _=>h cdv A outer s H vs E
end
def FR.val:FR->Option D
 | .ok d []=>some d
 |_=>none
def fn0 (f:Option FR):List D->Option FR
 | []=>f
 |_=>none
def fn1 (f:D->Option FR):List D->Option FR
 | [a]=>f a
 |_=>none
def fn2 (f:D->D->Option FR):List D->Option FR
 | [a,b]=>f a b
 |_=>none
def fn3 (f:D->D->D->Option FR):List D->Option FR
 | [a,b,c]=>f a b c
 |_=>none
def fn4 (f:D->D->D->D->Option FR):List D->Option FR
 | [a,b,c,d]=>f a b c d
 |_=>none
def fn5 (f:D->D->D->D->D->Option FR):List D->Option FR
 | [a,b,c,d,e]=>f a b c d e
 |_=>none
def fn6 (f:D->D->D->D->D->D->Option FR):List D->Option FR
 | [a,b,c,d,e,g]=>f a b c d e g
 |_=>none
mutual
theorem Rep.dom {K:Frg} {S:Sa} {H:Hp}: ∀(d:D) (v:V),Rep K S H d v->Rep K (fun p=>S p/\H p≠none) H d v
 | .non,_,h=>h
 | .bl _,_,h=>h
 | .int _,_,h=>h
 | .str _,_,h=>h
 | .fn _,_,h=>h
 | .lst ds,v,h=>by
  unfold Rep at h⊢
  obtain⟨a,vs,e,s,l,r⟩:=h
  exact⟨a,vs,e,⟨s,by rw[l];simp⟩,l,aC.dom ds vs r⟩
 | .sc ns,v,h=>by
  unfold Rep at h⊢
  obtain⟨a,e,l⟩:=h
  exact⟨a,e,l.imp (fun⟨s,r⟩=>⟨⟨s,by rcases r with r|⟨o,r⟩ <;> (rw[r];simp)⟩,r⟩) id⟩
 | .tup ds,v,h=>by
  unfold Rep at h⊢
  obtain⟨a,vs,e,l,r⟩:=h
  exact⟨a,vs,e,⟨⟨l.1,by rw[l.2];simp⟩,l.2⟩,aC.dom ds vs r⟩
 | .dct ks,v,h=>by
  unfold Rep at h⊢
  obtain⟨a,kvs,e,s,l,n,r⟩:=h
  exact⟨a,kvs,e,⟨s,by rcases l with l|⟨o,l⟩ <;> (rw[l];simp)⟩,l,n,bV.dom ks kvs r⟩
 | .dcT ks,v,h=>by
  unfold Rep at h⊢
  obtain⟨a,kvs,e,s,l,n,r⟩:=h
  exact⟨a,kvs,e,⟨s,by rcases l with l|⟨o,l⟩ <;> (rw[l];simp)⟩,l,n,gk.dom ks kvs r⟩
 | .ins C fds,v,h=>by
  unfold Rep at h⊢
  obtain⟨a,dx,fs,e,s,l,r⟩:=h
  exact⟨a,dx,fs,e,⟨s,by rw[l];simp⟩,l,eN.dom fds fs r⟩
theorem aC.dom {K:Frg} {S:Sa} {H:Hp}: ∀(ds:List D) (vs:List V),aC K S H ds vs->aC K (fun p=>S p/\H p≠none) H ds vs
 | [],_,h=>by unfold aC at h ⊢; exact h
 |d::ds,vs,h=>by
  unfold aC at h⊢
  obtain⟨v,r,e,h1,h2⟩:=h
  exact⟨v,r,e,Rep.dom d v h1,aC.dom ds r h2⟩
theorem bV.dom {K:Frg} {S:Sa} {H:Hp}: ∀(ds:List (Key×D)) (vs:List (Key×V)),bV K S H ds vs->bV K (fun p=>S p/\H p≠none) H ds vs
 | [],_,h=>by unfold bV at h ⊢; exact h
 |(k,d)::ds,vs,h=>by
  unfold bV at h⊢
  obtain⟨v,r,e,h1,h2⟩:=h
  exact⟨v,r,e,Rep.dom d v h1,bV.dom ds r h2⟩
theorem gk.dom {K:Frg} {S:Sa} {H:Hp}: ∀(ds:List (List Key×D)) (vs:List (List Key×V)),gk K S H ds vs->gk K (fun p=>S p/\H p≠none) H ds vs
 | [],_,h=>by unfold gk at h ⊢; exact h
 |(k,d)::ds,vs,h=>by
  unfold gk at h⊢
  obtain⟨v,r,e,h1,h2⟩:=h
  exact⟨v,r,e,Rep.dom d v h1,gk.dom ds r h2⟩
theorem eN.dom {K:Frg} {S:Sa} {H:Hp}: ∀(ds:List (Str×D)) (vs:List (Str×V)),eN K S H ds vs->eN K (fun p=>S p/\H p≠none) H ds vs
 | [],_,h=>by unfold eN at h ⊢; exact h
 |(k,d)::ds,vs,h=>by
  unfold eN at h⊢
  obtain⟨v,r,e,h1,h2⟩:=h
  exact⟨v,r,e,Rep.dom d v h1,eN.dom ds r h2⟩
end
end Sw
namespace Sw
open PySem PySem.Spec PyProof.Rows L2
variable [NmC]
section
variable {K:Frg} {O:Org} {H H1 H2:Hp} {G G1 G2:Sa} {Δ:List Md} {st:Ds} {σ:CS}
def Org.all (H:Hp) (G:Sa):Org:=⟨G,H,[],fun p=>H p≠none⟩
theorem mU (tb:LamX.Tabs NmC.T H) (gin: ∀p,G p->H p≠none):cG (Org.all H G) H G []:=
 ⟨fun p b=>⟨b,by simp[Org.all]⟩,fun _ _ e _ _=>e,fun _ g=>g,fun _ g=>.inl g,gin,fun _ h=>h,List.nodup_nil,fun p m=>(nomatch m),fun _ ps e=>⟨ps,e⟩,tb⟩
theorem wG {L:List Addr} (r:cG (Org.all H G) H1 G1 L):Ext H G H1 G1:=
 ⟨fun p u e t=>r.frame p u e (by simp[Org.all]),r.gsub,fun p g=>by
  rcases r.gold p g with g'|n|t|m
  ·exact .inl g'
  ·exact .inr (.inl ⟨n,r.gin p g⟩)
  ·exact .inr (.inr t)
  ·exact (nomatch m),r.tl,fun _=>r.tb⟩
def J0:PM->VM->Bool
 | .bo,_=>true
 | .fz,.rg .fz=>true
 | .bl,.sp _=>true
 |_,_=>false
def mC:List PM->List VM->Bool
 | [],[]=>true
 |p::ps,m::ms=>J0 p m&&mC ps ms
 |_,_=>false
theorem qN: ∀{ps:List PM} {ms:List VM} {ds:List D} {vs:List V},mC ps ms=true->kP K O H H1 G1 ms ds vs->ub K (Org.all H1 G1).B (Org.all H1 G1).G0 H1 ps ds vs []/\bZ ps vs=[]
 | [],[],[],vs,_,h=>by rw[show vs=[] from h];exact⟨rfl,rfl⟩
 |p::ps,m::ms,d::ds,_,ok,⟨v,r,e,h1,h2⟩=>by
  subst e
  unfold mC at ok
  rw[Bool.and_eq_true] at ok
  obtain⟨a,b⟩:=qN ok.2 h2
  cases p with
  |bo=>exact⟨⟨[],[],⟨Rep.mono (fun p h=>h.2) aB d v (Rep.dom d v h1.hb),rfl⟩,a,rfl⟩,b⟩
  |fz=>
   cases m with
   |rg r=>
    cases r with
    |fz=>exact⟨⟨[],[],⟨h1,rfl⟩,a,rfl⟩,b⟩
    |hb=>cases ok.1
    |bb=>cases ok.1
   |nw s=>cases ok.1
   |sp r=>cases ok.1
  |ow s=>cases ok.1
  |ini s=>cases ok.1
  |bl=>
   cases m with
   |rg r=>cases ok.1
   |nw s=>cases ok.1
   |sp r=>
    obtain⟨a',vs',ds',e1,e2,b',hl,rr⟩:=h1
    exact⟨⟨[],[],⟨⟨a',vs',ds',e1,e2,by rw[show (Org.all H1 G1).B=fun p=>H1 p≠none from rfl];show H1 a'≠none;rw[hl];simp,hl,rr⟩,rfl⟩,a,rfl⟩,b⟩
 | [],_::_,_,_,ok,_=>by cases ok
 |_::_,[],_,_,ok,_=>by cases ok
 | [],[],_::_,_,_,h=>h.elim
 |_::_,_::_,[],_,_,h=>h.elim
theorem td {rm:VM} {d:D} {os:List D} {v:V} (r:zU K rm [] (Org.all H G) d os v H1 G1):os=[]/\Ext H G H1 G1/\ ∀O',bE K O' H H1 G1 rm d v:=by
 obtain⟨L1,L2',g,rv,p⟩:=r
 cases os with
 |cons x xs=>exact p.elim
 |nil=>
  have e2:L2'=[]:=p
  subst e2
  rw[List.append_nil] at g
  refine⟨rfl,wG g,fun O'=> ?_⟩
  cases rm with
  |rg r=>
   cases r with
   |fz=>exact rv.1
   |hb=>exact rv.elim
   |bb=>exact rv.elim
  |nw s=>exact⟨L1,g.nd,fun p m=>⟨(g.lg p m).2.elim (fun h=>nomatch h) id,(g.lg p m).1⟩,rv⟩
  |sp r=>exact rv.elim
end
section
variable {X:Cx} {Δ:List Md} {st:Ds} {a b e o:Expr} {es:List Expr} {m ma mb rm:VM} {ra rb:Option D} {rs:Option (List D)} {pos p apos:Pos} {vms:List VM} {ps:List PM} {Fs:List D->Option FR} {k:Nat} {f:Addr} {fd:FuncData} {pn:List Str} {x:Str}
theorem call_of {H:Hp} {σ:CS} {Q:VK} (ok:mC ps vms=true) (h:rdE X.K Δ st rm (rs.bind fun ds=>(Fs ds).bind FR.val) σ H Q):tCall (FSp X.K ps rm Fs) [] E0 (rdA X.K Δ st vms rs) σ H Q:=by
 obtain⟨O,G,d,rel,er,kk⟩:=h
 obtain⟨ds,e1,e2⟩:=bind1 er
 obtain⟨fr,e3,e4⟩:=bind1 e2
 refine rdA.go rel e1 fun vs H1 G1 rel1 x1 v1=> ?_
 rw[List.append_nil]
 obtain⟨ha,hp⟩:=qN ok v1
 cases fr with
 |er x=>cases e4
 |ok d' os=>
  cases os with
  |cons x xs=>cases e4
  |nil=>
   cases e4
   refine⟨Org.all H1 G1,ds,_,rfl,mU rel1.tb rel1.gin,ha,e3,fun v H' G' r=> ?_⟩
   rw[hp] at r
   obtain⟨_,x2,hv⟩:=td r
   exact kk v H' G' (x1.trans x2) ((hv O).back x1)
theorem Fq (F:FnOk X.prog X.w X.K X.mg X.base CX0 k f fd pn (FSp X.K ps rm Fs)) (hr:Room k X.A) (hg:Gl X x) (hm:X.mg x=some (.ref f)) (hk:PySem.W.keepIn X.K (.ref f)=true) (hb:Binds X.K fd pn []) (ha:PAx X Δ st (e::es) vms rs) (ok:mC ps vms=true:=by rfl)
  (hdb:(x==("__debug__" :Str))=false:=by decide) (he:starEach (e::es) X.env=(false,eval e X.env)::starEach es X.env:=by rfl) (hpl:(backTo pos (starEach es X.env)).any (·.1)=false:=by rfl):
  PX X Δ st (.Call (.Name x p) (e::es) [] pos) rm (rs.bind fun ds=>(Fs ds).bind FR.val):=bW (pe_call F hr hg hm hk hb .nil pass0 ha hdb he hpl) fun σ H Q h=>call_of ok h
def VL (K:Frg) (O:Org) (H:Hp) (G:Sa):VM->D->V->List Addr->Prop
 | .rg r,d,v,L=>Rep K (rgn O G r) H d v/\L=[]
 | .nw s,d,v,L=>Own K G H s d v L
 | .sp r,d,v,L=>Spn K (rgn O G r) G H d v/\L=[]
def RelV (K:Frg) (O:Org) (Δ:List Md) (st:Ds) (σ:CS) (H:Hp) (G:Sa) (m:VM) (d:D) (v:V):Prop:= ∃L Lv,cG O H G (Lv++L)/\Slots K O.B G H Δ st σ L/\VL K O H G m d v Lv
def rdY (K:Frg) (Δ:List Md) (st:Ds) (m:VM) (r:Option (D×Ds)):TE:=fun σ H Q=> ∃O G ds,Rel K O Δ st σ H G/\r=some ds/\ ∀v H' G',RelV K O Δ ds.2 σ H' G' m ds.1 v->Q v H'
abbrev PY (X:Cx) (Δ:List Md) (st:Ds) (e:Expr) (m:VM) (r:Option (D×Ds)):Prop:=PE X e (rdY X.K Δ st m r)
theorem Ft {K:Frg} {O:Org} {σ:CS} {H H1:Hp} {G G1:Sa} {d:D} {v:V} (rel:Rel K O Δ st σ H G) (x1:Ext H G H1 G1) (hv:bE K O H H1 G1 m d v):RelV K O Δ st σ H1 G1 m d v:=by
 obtain⟨L,g,s⟩:=rel
 have g1:=g.ext x1 s.kind (x1.gin g.gin)
 have s1:=Slots.mono (G':=G1) (H':=H1) x1.gg x1.agr x1.agr (fun p m=>x1.vI (s.kind p m)) s
 cases m with
 |rg r=>exact⟨L,[],g1,s1,hv,rfl⟩
 |nw sh=>
  obtain⟨L1,nd,f,o⟩:=hv
  exact⟨L,L1,g1.wy s1.kind (H0:=H) (fun p h=>g.back h) nd f fun p m=>(s.kind p m).ne,s1,o⟩
 |sp r=>exact⟨L,[],g1,s1,hv,rfl⟩
def rdP (K:Frg) (Δ:List Md) (st:Ds) (i:Nat) (r:Option (List Stp)):TE:=fun σ H Q=> ∃O G q,Rel K O Δ st σ H G/\r=some q/\ ∀v0 v H' G',σ[i]? =some (some v0)->Ext H G H' G'->AtP H' v0 q v->Q v H'
abbrev PPx (X:Cx) (Δ:List Md) (st:Ds) (e:Expr) (i:Nat) (r:Option (List Stp)):Prop:=PE X e (rdP X.K Δ st i r)
def yF:Md->Option Sh
 | .ow s=>some s
 | .pn _ s=>some s
 |_=>none
theorem uc {K:Frg} {O:Org} {σ:CS} {H:Hp} {G:Sa} {i:Nat} {md:Md} {s:Sh} {d:D} (rel:Rel K O Δ st σ H G) (hm:Δ[i]? =some md) (hs:yF md=some s) (hd:st[i]? =some (some d)): ∃v L,σ[i]? =some (some v)/\Own K G H s d v L:=by
 obtain⟨L,g,sl⟩:=rel
 obtain⟨x',y',L1,L2,ex,ey,sr,pm,f⟩:=sl.split hm
 rw[hd] at ex;cases ex
 cases md <;> first|cases hs|skip
 ·obtain⟨v,e,o⟩:=sr
  exact⟨v,L1,by rw[ey,e],o⟩
 ·exact⟨_,L1,by rw[ey,sr.1],sr.2⟩
theorem p9 (i:Nat) {md:Md} {s:Sh} {d:D} (hm:Δ[i]? =some md) (hs:yF md=some s) (hd:st[i]? =some (some d)) (hN:X.N[i]? =some x) (hv:Vis X.env.scope x) (h1:(x==("__debug__" :Str))=false:=by decide) (h2:(x==("__classdict__" :Str))=false:=by decide):
  PPx X Δ st (.Name x p) i (some []):=bW (pe_var hN hv h1 h2) fun σ H Q ⟨O,G,q,rel,er,k⟩=>by
 cases er
 obtain⟨v,L,e,o⟩:=uc rel hm hs hd
 exact⟨v,e,k v v H G e .refl rfl⟩
theorem AtP.last {H:Hp} {s:Stp} {w:V}: ∀{q:List Stp} {v:V},AtP H v (q++[s]) w-> ∃v1,AtP H v q v1/\AtP H v1 [s] w
 | [],v,h=>⟨v,rfl,h⟩
 | .ix i::q,v,⟨a,vs,y,e1,e2,e3,h⟩=>by
  obtain⟨v1,h1,h2⟩:=AtP.last h
  exact⟨v1,⟨a,vs,y,e1,e2,e3,h1⟩,h2⟩
 | .ky k::q,v,⟨a,vs,y,e1,e2,e3,h⟩=>by
  obtain⟨v1,h1,h2⟩:=AtP.last h
  exact⟨v1,⟨a,vs,y,e1,e2,e3,h1⟩,h2⟩
 | .kt k::q,v,⟨a,vs,y,e1,e2,e3,h⟩=>by
  obtain⟨v1,h1,h2⟩:=AtP.last h
  exact⟨v1,⟨a,vs,y,e1,e2,e3,h1⟩,h2⟩
 | .fd f::q,v,⟨a,C,dx,fs,y,e1,e2,e3,h⟩=>by
  obtain⟨v1,h1,h2⟩:=AtP.last h
  exact⟨v1,⟨a,C,dx,fs,y,e1,e2,e3,h1⟩,h2⟩
end
theorem vP {α:Type} {A B C:List α} (h:(A++(B++C)).Nodup):(B++A).Nodup/\(∀x∈B++A,x∉C)/\C.Nodup:=by
 rw[List.nodup_append] at h
 obtain⟨hA,hBC,hd⟩:=h
 rw[List.nodup_append] at hBC
 obtain⟨hB,hC,hd2⟩:=hBC
 refine⟨List.nodup_append.mpr ⟨hB,hA,fun a ha b hb e=>hd b hb a (List.mem_append_left _ ha) e.symm⟩,fun x hx hc=> ?_,hC⟩
 rcases List.mem_append.mp hx with hx|hx
 ·exact hd2 x hx x hc rfl
 ·exact hd x hx x (List.mem_append_right _ hc) rfl
section
variable {K:Frg} {O:Org} {H:Hp} {G:Sa} {Δ:List Md} {st:Ds} {σ:CS} {i:Nat} {md:Md} {s s':Sh} {d d':D} {q:List Stp} {v0 v:V} {L Lv:List Addr}
theorem C3 (g:cG O H G (Lv++L)) (sl:Slots K O.B G H Δ st σ L) (hm:Δ[i]? =some md) (hs:yF md=some s) (hd:st[i]? =some (some d)) (e0:σ[i]? =some (some v0)) (at1:AtP H v0 q v) (hs':shP s q=some s') (hd':lP d q=some d'):
  ∃L1 Lr,Own K G H s' d' v L1/\(Lv++L).Perm (Lv++(L1++Lr))/\ ∀(a:Addr) (o:HO) (d'':D) (L1' Lv':List Addr),a∈L1->(L1'++Lv').Nodup->(∀p∈L1'++Lv',p∈L1\/p∈Lv)->Own K G (upd H a o) s' d'' v L1'→
   ∃L',cG O (upd H a o) G (Lv'++L')/\Slots K O.B G (upd H a o) Δ (st.set i (some (iM d q d''))) σ L'/\ ∀p∈Lv',p≠a->(upd H a o) p=H p:=by
 obtain⟨x',y',L1,L2',ex,ey,sr,pm,f⟩:=sl.split hm
 rw[hd] at ex;cases ex
 have hv:y'=some v0:=by
  rw[ey] at e0;exact Option.some.inj e0
 subst hv
 have ho:Own K G H s d v0 L1:=by
  cases md <;> first|cases hs|skip
  ·obtain⟨w,e,o⟩:=sr
   cases e;exact o
  ·obtain⟨e,o⟩:=sr
   cases e;exact o
 obtain⟨v',N1,N2,at2,o1,pn,f2⟩:=ho.place q hs' hd'
 have:=at2.inj at1
 subst this
 have pL:L.Perm (N1++(N2++L2')):=by
  have:=pm.trans (pn.append_right L2')
  rwa[List.append_assoc] at this
 have pAll:(Lv++L).Perm (Lv++(N1++(N2++L2'))):=List.Perm.append_left Lv pL
 refine⟨N1,N2++L2',o1,pAll,fun a o d'' L1' Lv' ha nd' sub own'=> ?_⟩
 have gp:=g.perm pAll
 obtain⟨nd1,dis,ndC⟩:=vP gp.nd
 have haL:a∈Lv++L:=pAll.mem_iff.mpr (List.mem_append_right _ (List.mem_append_left _ ha))
 have nGa: ¬G a:=(g.lg a haL).1
 have nBa: ¬O.B a:=fun b=>(g.lg a haL).2.elim (g.bin a b).2 (g.bin a b).1
 have agG:Agr G H (upd H a o):=fun p gp=>oE.of_eq fun u e=>by rw[upd_ne (fun z=>by subst z;exact nGa gp)];exact e
 have agB:Agr O.B H (upd H a o):=fun p gp=>oE.of_eq fun u e=>by rw[upd_ne (fun z=>by subst z;exact nBa gp)];exact e
 have out: ∀p∈N2++L2',(upd H a o) p=H p:=fun p hp=>upd_ne fun z=>by subst z;exact dis p (List.mem_append_left _ ha) hp
 obtain⟨L3,p3,o3⟩:=f2 G (upd H a o) d'' L1' (fun _ g=>g) agG (fun p hp=>out p (List.mem_append_left _ hp)) own'
 have sr':lu K O.B G (upd H a o) md (some (iM d q d'')) (some v0) L3:=by
  cases md <;> first|cases hs|skip
  ·exact⟨v0,rfl,o3⟩
  ·obtain⟨e,_⟩:=sr
   cases e
   exact⟨rfl,o3⟩
 obtain⟨L4,p4,s4⟩:=f G (upd H a o) md (some (iM d q d'')) (some v0) L3 (fun _ g=>g) agG agB (fun p hp=>out p (List.mem_append_right _ hp)) sr'
 rw[iN hm,iN ey] at s4
 have p5:(Lv'++L4).Perm ((L1'++Lv')++(N2++L2')):=by
  have h1:L4.Perm (L1'++(N2++L2')):=by
   have:=p4.trans (p3.append_right L2')
   rwa[List.append_assoc] at this
  refine (List.Perm.append_left Lv' h1).trans ?_
  rw[<-List.append_assoc]
  exact List.Perm.append_right _ List.perm_append_comm
 have hk:Ndd H a:=Own.kind _ _ _ _ o1 a ha
 refine⟨L4,cG.perm ⟨g.bin,fun p u e n t=> ?_,g.gsub,g.gold,fun p gp=> ?_,fun p h=> ?_,?_,fun p m=> ?_,fun p ps e=>CN (.inl hk) (g.tl p ps e),yp (.inl hk) g.tb⟩ p5.symm,s4,fun p hp hne=>upd_ne hne⟩
 ·have hne:p≠a:=fun z=>by
   subst z
   exact (g.lg p haL).2.elim n fun h=>by rw[h] at e;cases e
  rw[upd_ne hne];exact g.frame p u e n
 ·by_cases hp:p=a
  ·subst hp;exact absurd gp nGa
  ·rw[upd_ne hp];exact g.gin p gp
 ·by_cases hp:p=a
  ·subst hp;rw[upd_same];simp
  ·rw[upd_ne hp];exact g.dom p h
 ·rw[List.nodup_append]
  refine⟨nd',ndC,fun x hx y hy e=> ?_⟩
  subst e
  rcases sub x hx with h|h
  ·exact dis x (List.mem_append_left _ h) hy
  ·exact dis x (List.mem_append_right _ h) hy
 ·have:p∈Lv++L:=by
   rcases List.mem_append.mp m with m|m
   ·rcases sub p m with h|h
    ·exact pAll.mem_iff.mpr (List.mem_append_right _ (List.mem_append_left _ h))
    ·exact List.mem_append_left _ h
   ·exact pAll.mem_iff.mpr (List.mem_append_right _ (List.mem_append_right _ m))
  exact g.lg p this
theorem yG {R:D->V->List Addr->Prop} {d1:D} {v1:V} {Lv:List Addr} (h1:R d1 v1 Lv): ∀{ds:List D} {vs:List V} {L:List Addr},fX R ds vs L->fX R (ds++[d1]) (vs++[v1]) (L++Lv)
 | [],_,_,o=>by
  rw[o.1,o.2]
  exact⟨v1,[],Lv,[],rfl,h1,⟨rfl,rfl⟩,by simp⟩
 |d::ds,_,_,⟨v,r,L1,L2,e1,o1,o2,e2⟩=>by
  subst e1;subst e2
  exact⟨v,r++[v1],L1,L2++Lv,rfl,o1,yG h1 o2,by rw[List.append_assoc]⟩
end
def shV:VM->Option Sh
 | .rg .fz=>some .fz
 | .nw s=>some s
 |_=>none
theorem Io {K:Frg} {O:Org} {H:Hp} {G:Sa} {m:VM} {s:Sh} {d:D} {v:V} {L:List Addr} (h:shV m=some s) (hv:VL K O H G m d v L):Own K G H s d v L:=by
 cases m with
 |rg r=>
  cases r <;> first|cases h|skip
  unfold Own
  exact hv
 |nw s'=>cases h;exact hv
 |sp r=>cases h
section
variable {X:Cx} {Δ:List Md} {st:Ds} {a b e o:Expr} {es:List Expr} {m ma mb:VM} {ra rb:Option D} {pos apos:Pos} {i:Nat} {md:Md} {s s' s'':Sh} {d:D} {rp:Option (List Stp)}
def D.app (x:D) (e:D):Option (D×D):=match x with
 | .lst ds=>if ds.length<sizeLine then some (.non,.lst (ds++[e])) else none
 |_=>none
def C4 (st:Ds) (i:Nat) (d:D) (q:List Stp) (f:D->Option (D×D)):Option (D×Ds):=(lP d q).bind fun d'=>(f d').bind fun r=>some (r.1,st.set i (some (iM d q r.2)))
theorem rG (hm:Δ[i]? =some md) (hs:yF md=some s) (hd:st[i]? =some (some d)) (ho:PPx X Δ st o i rp) (hsh: ∀q,rp=some q->shP s q=some (.ls s'')) (he:PX X Δ st e m ra) (hv:shV m=some s'')
  (hbase:attributeBase o "append" X.env (eval o X.env)=eval o X.env:=by rfl)
  (hfew:((backTo pos (starEach [e] X.env)).all (fun x=> !x.1)&&(backToKw pos (keywordEach [] X.env)).all (fun x=>x.1.isSome)&&decide ([e].length+([]:List Keyword).length+(if ([]:List Keyword).isEmpty then 0 else 1)<30))=true:=by rfl)
  (hline:(apos.endLine==pos.line)=true:=by rfl) (hse:starEach [e] X.env=(false,eval e X.env)::starEach [] X.env:=by rfl):
  PY X Δ st (.Call (.Attribute o "append" apos) [e] [] pos) (.rg .fz) (rp.bind fun q=>ra.bind fun x=>C4 st i d q fun d'=>D.app d' x):=
 bW (pe_bm PySem.F.plainAttrs_list PySem.F.slot_list_append PySem.F.type_list_append mt_append ho (pa_cons he pa_nil hse) hbase hfew hline hse) fun σ H Q ⟨O,G,ds,rel,er,k⟩=>by
  obtain⟨q,x,e1,e2,e3⟩:=bD er
  obtain⟨d',e4,e5⟩:=bind1 e3
  obtain⟨r,e6,e7⟩:=bind1 e5
  cases e7
  have hsq:=hsh q e1
  refine⟨O,G,q,rel,e1,fun v0 v H1 G1 ev0 x1 at1=> ?_⟩
  have rel1:=rel.ext x1
  have hty: ∃l vs,v= .ref l/\H1 l=some (.lst vs):=by
   obtain⟨v0',L,e8,ow⟩:=uc rel1 hm hs hd
   rw[ev0] at e8;cases e8
   obtain⟨v',L1,L2',at2,o1,_⟩:=ow.place _ hsq e4
   have:=at2.inj at1
   subst this
   unfold Own at o1
   obtain⟨l,vs,ds',L',_,ev,hl,_⟩:=o1
   exact⟨l,vs,ev,hl⟩
  obtain⟨l,vs,rfl,hl⟩:=hty
  refine⟨.inl ⟨rfl,vs,SqL.of hl⟩,rdE.go rel1 e2 fun w H2 G2 rel2 x2 v2=> ?_⟩
  obtain⟨L,Lv,g,sl,vl⟩:=Ft rel1 x2 v2
  obtain⟨L1,Lr,o1,pa,f⟩:=C3 g sl hm hs hd ev0 (at1.mono x2.hx) hsq e4
  unfold Own at o1
  obtain⟨l',vs',ds',L',rfl,ev,hl',ol,rfl⟩:=o1
  cases ev
  obtain⟨hz,rfl⟩:=aH (show (if ds'.length<sizeLine then some (D.non,D.lst (ds'++[x])) else none)=some r from e6)
  have nd:=(vP (g.perm pa).nd).1
  have ow:=Io hv vl
  obtain⟨L3,g3,s3,_⟩:=f l (.lst (vs'++[w])) (.lst (ds'++[x])) (l::(L'++Lv)) [] List.mem_cons_self (by rw[List.append_nil];exact nd) (fun p hp=>by
    rw[List.append_nil] at hp
    rcases List.mem_cons.mp hp with rfl|hp
    ·exact .inl List.mem_cons_self
    ·rcases List.mem_append.mp hp with hp|hp
     ·exact .inl (List.mem_cons_of_mem _ hp)
     ·exact .inr hp) (by
    have nl: ∀p∈L'++Lv,p≠l:=fun p hp z=>by
     subst z
     rw[List.cons_append,List.nodup_cons] at nd
     exact nd.1 hp
    have nG: ¬G2 l:=(g.lg l (pa.mem_iff.mpr (List.mem_append_right _ (List.mem_append_left _ List.mem_cons_self)))).1
    have ag:Agr G2 H2 (upd H2 l (.lst (vs'++[w]))):=fun p gp=>oE.of_eq fun u e=>by rw[upd_ne (fun z=>by subst z;exact nG gp)];exact e
    unfold Own
    refine⟨l,vs'++[w],ds'++[x],L'++Lv,rfl,rfl,upd_same,yG ?_ (fX.mono (P:=fun p=>p∈L') (fun d v M hM o=>Own.mono (fun _ g=>g) ag s'' d v M (fun p hp=>upd_ne (nl p (List.mem_append_left _ (hM p hp)))) o) ds' vs' L' (fun _ h=>h) ol),rfl⟩
    exact Own.mono (fun _ g=>g) ag s'' x w Lv (fun p hp=>upd_ne (nl p (List.mem_append_right _ hp))) ow)
  refine⟨l,vs',w,rfl,rfl,hl',by rw[ol.length];exact hz,k .non _ G2 ⟨L3,[],g3,s3,by unfold VL;exact⟨by unfold Rep;rfl,rfl⟩⟩⟩
end
end Sw
namespace Sw
open PySem PySem.Spec PyProof.Rows L2
variable [NmC]
section
variable {K:Frg} {O:Org} {H H1:Hp} {G G1:Sa} {Δ:List Md} {st:Ds} {σ:CS} {i:Nat} {md:Md} {m:VM} {d:D} {v:V}
theorem RelV.rel (r:RelV K O Δ st σ H G m d v):Rel K O Δ st σ H G:=by
 obtain⟨L,Lv,g,s,vl⟩:=r
 exact⟨L,g.sub (List.sublist_append_right _ _),s⟩
theorem RelV.set (r:RelV K O Δ st σ H G m d v) (hi:i<Δ.length) (hm:wA m=some md):Rel K O (Δ.set i md) (st.set i (some d)) (σ.set i (some v)) H G:=by
 obtain⟨L,Lv,g,s,vl⟩:=r
 obtain⟨x',y',L1,L2,ex,ey,sr,pm,f⟩:=s.split (List.getElem?_eq_getElem hi)
 have base:cG O H G (Lv++L2):=(g.perm (List.Perm.append_left Lv pm)).sub (List.Sublist.append (List.Sublist.refl _) (List.sublist_append_right _ _))
 cases m with
 |rg r=>
  cases r with
  |hb=>cases hm
  |bb=>
   cases hm
   obtain⟨L',pm',s'⟩:=f G H .bo (some d) (some v) [] (fun _ g=>g) aB aB (fun _ _=>rfl) ⟨v,rfl,vl.1,rfl⟩
   exact⟨L',(base.sub (List.sublist_append_right _ _)).perm pm'.symm,s'⟩
  |fz=>
   cases hm
   obtain⟨L',pm',s'⟩:=f G H .fz (some d) (some v) [] (fun _ g=>g) aB aB (fun _ _=>rfl) ⟨v,rfl,vl.1,rfl⟩
   exact⟨L',(base.sub (List.sublist_append_right _ _)).perm pm'.symm,s'⟩
 |nw sh=>
  cases hm
  obtain⟨L',pm',s'⟩:=f G H (.ow sh) (some d) (some v) Lv (fun _ g=>g) aB aB (fun _ _=>rfl) ⟨v,rfl,vl⟩
  exact⟨L',base.perm pm'.symm,s'⟩
 |sp r=>
  cases r <;> first|(cases hm;done)|skip
  cases hm
  obtain⟨L',pm',s'⟩:=f G H .bl (some d) (some v) [] (fun _ g=>g) aB aB (fun _ _=>rfl) ⟨v,rfl,vl.1,rfl⟩
  exact⟨L',(base.sub (List.sublist_append_right _ _)).perm pm'.symm,s'⟩
end
section
variable {K:Frg} {O:Org} {H:Hp} {G:Sa}
theorem Fu {ds:List D} {vs:List V} {l:Addr} {H':Hp} (h:H' l=some (.lst vs)) (r:aC K G H' ds vs):Own K G H' (.ls .fz) (.lst ds) (.ref l) [l]:=by
 unfold Own
 exact⟨l,vs,ds,[],rfl,rfl,h,s9 r,rfl⟩
end
def Fv (f:List D->List D->Option (D×List D)) (xs:List D):D->Option (D×D)
 | .lst ds=>(f ds xs).map fun r=>(r.1,.lst r.2)
 |_=>none
section
variable {X:Cx} {Δ:List Md} {st:Ds} {a b e o:Expr} {es:List Expr} {m ma mb:VM} {ra rb:Option D} {pos apos:Pos} {i:Nat} {md:Md} {s s' s'':Sh} {d:D} {rp:Option (List Stp)}
theorem C5 {K:Frg} {O:Org} {H1:Hp} {G1:Sa} {σ:CS} {q:List Stp} {v0 v:V} {d':D} (rel1:Rel K O Δ st σ H1 G1) (hm:Δ[i]? =some md) (hs:yF md=some s) (hd:st[i]? =some (some d)) (ev0:σ[i]? =some (some v0)) (at1:AtP H1 v0 q v) (hsq:shP s q=some (.ls s'')) (hd':lP d q=some d'):
  ∃l vs,v= .ref l/\H1 l=some (.lst vs):=by
 obtain⟨v0',L,e8,ow⟩:=uc rel1 hm hs hd
 rw[ev0] at e8;cases e8
 obtain⟨v',L1,L2',at2,o1,_⟩:=ow.place _ hsq hd'
 have:=at2.inj at1
 subst this
 unfold Own at o1
 obtain⟨l,vs,ds',L',_,ev,hl,_⟩:=o1
 exact⟨l,vs,ev,hl⟩
theorem Fw {K:Frg} {O:Org} {H2:Hp} {G2:Sa} {σ:CS} {q:List Stp} {v0:V} {l:Addr} {ds ds2:List D} {res:D} {Q:VK} (rel2:Rel K O Δ st σ H2 G2) (hm:Δ[i]? =some md) (hs:yF md=some s) (hd:st[i]? =some (some d)) (ev0:σ[i]? =some (some v0)) (at2:AtP H2 v0 q (.ref l)) (hsq:shP s q=some (.ls .fz)) (hd':lP d q=some (.lst ds))
  (k: ∀v H' G',RelV K O Δ (st.set i (some (iM d q (.lst ds2)))) σ H' G' (.rg .fz) res v->Q v H'): ¬G2 l/\(∃vs,H2 l=some (.lst vs)/\aC K G2 H2 ds vs)/\(∀vs2 w,aC K G2 H2 ds2 vs2->Rep K G2 H2 res w->Q w (upd H2 l (.lst vs2))):=by
 obtain⟨L,g,sl⟩:=rel2
 obtain⟨L1,Lr,o1,pa,f⟩:=C3 (Lv:=[]) (by simpa using g) sl hm hs hd ev0 at2 hsq hd'
 unfold Own at o1
 obtain⟨l',vs',ds',L',ed,ev,hl',ol,rfl⟩:=o1
 cases ev;cases ed
 obtain⟨rr,rfl⟩:=yz ol
 have nG: ¬G2 l:=(g.lg l (by have:=pa.mem_iff (a:=l);simp at this;exact this)).1
 have ag: ∀o,Agr G2 H2 (upd H2 l o):=fun o p gp=>oE.of_eq fun u e=>by rw[upd_ne (fun z=>by subst z;exact nG gp)];exact e
 refine⟨nG,⟨vs',hl',rr⟩,fun vs2 w r2 rw'=> ?_⟩
 obtain⟨L3,g3,s3,_⟩:=f l (.lst vs2) (.lst ds2) [l] [] (by simp) (by simp) (by simp) (Fu upd_same (aC.mono (fun _ g=>g) (ag _) _ _ r2))
 exact k w _ G2 ⟨L3,[],g3,s3,Rep.mono (fun _ g=>g) (ag _) _ _ rw',rfl⟩
end
end Sw
namespace Sw
open PySem PySem.Spec PyProof.Rows L2
variable [NmC]
def C6:List Nat->List D->Ds->Ds
 |i::is,d::ds,st=>C6 is ds (st.set i (some d))
 |_,_,st=>st
inductive zY (Δ:List Md) (st:Ds):List Nat->List Sh->List D->Prop where
 |nil:zY Δ st [] [] []
 |cons {i:Nat} {is:List Nat} {md:Md} {s:Sh} {ss:List Sh} {d:D} {ds:List D}:Δ[i]? =some md->yF md=some s->st[i]? =some (some d)->i∉is->zY Δ st is ss ds->zY Δ st (i::is) (s::ss) (d::ds)
theorem BV {i:Nat} {y:Option D}: ∀{is:List Nat} {ds:List D} {st:Ds},i∉is->C6 is ds (st.set i y)=(C6 is ds st).set i y
 | [],_,_,_=>rfl
 |j::is,[],_,_=>rfl
 |j::is,d::ds,st,h=>by
  simp only[List.mem_cons,not_or] at h
  show C6 is ds ((st.set i y).set j (some d))=_
  rw[List.set_comm _ _ h.1,BV h.2]
  rfl
theorem zY.drop {Δ:List Md} {st:Ds} {i:Nat} {y:Option D}: ∀{is:List Nat} {ss:List Sh} {ds:List D},i∉is->zY Δ st is ss ds->zY Δ (st.set i y) is ss ds
 |_,_,_,_,.nil=>.nil
 |_,_,_,h,.cons h1 h2 h3 h4 h5=>by
  simp only[List.mem_cons,not_or] at h
  exact .cons h1 h2 (by rw[List.getElem?_set_ne h.1];exact h3) h4 (zY.drop h.2 h5)
section
variable {K:Frg} {B G:Sa} {H:Hp}
theorem cG.qM {O:Org} {B':Sa} {H1 H2:Hp} {G1 G2:Sa} {Ll Lr Lx:List Addr} (r:cG O H1 G1 (Ll++Lr)) (hk: ∀p∈Lr,Ndd H1 p) (q:cG ⟨G1,H1,Ll,B'⟩ H2 G2 Lx):cG O H2 G2 (Lx++Lr)/\ ∀p∈Lr,H2 p=H1 p:=by
 have dis:=List.nodup_append.mp r.nd
 have keep: ∀p∈Lr,H2 p=H1 p:=fun p m=>by
  obtain⟨u,e,nn⟩:=hk p m
  rw[e]
  exact q.frame p u e (fun h=>dis.2.2 p h p m rfl) nn.nt
 refine⟨⟨r.bin,fun p u e n t=> ?_,fun p g=>q.gsub p (r.gsub p g),fun p g=> ?_,q.gin,fun p h=>q.dom p (r.dom p h),?_,fun p m=> ?_,fun p ps e=>(by
  obtain⟨ps1,e1⟩:=r.tl p ps e
  exact q.tl p ps1 e1),q.tb⟩,keep⟩
 ·exact q.frame p u (r.frame p u e n) fun m=>(r.lg p (List.mem_append_left _ m)).2.elim n fun z=>by rw[z] at e;cases e
 ·rcases q.gold p g with g|n|⟨xs,t⟩|m
  ·exact r.gold p g
  ·exact .inr (.inl (r.back n))
  ·rcases r.was (show H1 p=some (.tup xs) from t) (fun _ z=>by cases z) with e|e|e
   ·exact .inr (.inr (.inl ⟨xs,e⟩))
   ·exact .inr (.inl e)
   ·exact .inr (.inr (.inr e))
  ·rcases (r.lg p (List.mem_append_left _ m)).2 with h|h
   ·exact .inr (.inr (.inr h))
   ·exact .inr (.inl h)
 ·rw[List.nodup_append]
  refine⟨q.nd,dis.2.1,fun x hx y hy e=> ?_⟩
  subst e
  rcases (q.lg x hx).2 with h|h
  ·exact dis.2.2 x h x hy rfl
  ·exact (hk x hy).ne h
 ·rcases List.mem_append.mp m with m|m
  ·refine⟨(q.lg p m).1,?_⟩
   rcases (q.lg p m).2 with h|h
   ·exact (r.lg p (List.mem_append_left _ h)).2
   ·exact .inr (r.back h)
  ·refine⟨fun g=> ?_,(r.lg p (List.mem_append_right _ m)).2⟩
   rcases q.gold p g with g|n|⟨xs,t⟩|h
   ·exact (r.lg p (List.mem_append_right _ m)).1 g
   ·exact (hk p m).ne n
   ·exact (hk p m).CL t
   ·exact dis.2.2 p h p m rfl
end
inductive AS where
 |pv (m:VM)|ln (i:Nat)
section
variable {X:Cx} {Δ:List Md} {st:Ds} {a b e o:Expr} {es:List Expr} {m ma mb rm:VM} {ra rb:Option D} {rs:Option (List D)} {pos p apos:Pos} {as:List AS} {ps:List PM} {Fs:List D->Option FR} {k:Nat} {f:Addr} {fd:FuncData} {pn:List Str} {x:Str}
def FR.out (st:Ds) (is:List Nat):FR->Option (D×Ds)
 | .ok d os=>if os.length=is.length then some (d,C6 is os st) else none
 |_=>none
end
def D.put (d:D) (k:Key) (x:D):Option D:=match d with
 | .dct ks=>if ks.length<sizeLine then some (.dct (cf ks k x)) else none
 |_=>none
end Sw
namespace Sw
open PySem PySem.Spec PyProof.Rows L2
variable [NmC]
def b1 {α β:Type} (f:α->Option β) (a:Option α):Option β:=a.bind f
def b2 {α β γ:Type} (f:α->β->Option γ) (a:Option α) (b:Option β):Option γ:=a.bind fun x=>b.bind fun y=>f x y
def aj (a:Option D) (r:Option (List D)):Option (List D):=a.bind fun x=>r.bind fun xs=>some (x::xs)
def aI:Option (List D):=some []
def bp (Fs:List D->Option FR) (rs:Option (List D)):Option D:=rs.bind fun ds=>(Fs ds).bind FR.val
def do1 (d:D) (q:List Stp) (f:D->Option (D×D)):Option (D×D):=(lP d q).bind fun d'=>(f d').bind fun r=>some (r.1,iM d q r.2)
def FR.Ip:FR->Option (D×D)
 | .ok d [o]=>some (d,o)
 |_=>none
def FR.Iq:FR->Option (D×D×D)
 | .ok d [o,p]=>some (d,o,p)
 |_=>none
def J1 (Fs:List D->Option FR) (rs:Option (List D)):Option (D×D):=rs.bind fun ds=>(Fs ds).bind FR.Ip
def call2 (Fs:List D->Option FR) (rs:Option (List D)):Option (D×D×D):=rs.bind fun ds=>(Fs ds).bind FR.Iq
abbrev PY1 (X:Cx) (Δ:List Md) (st:Ds) (e:Expr) (m:VM) (i:Nat) (r:Option (D×D)):Prop:=PY X Δ st e m (r.bind fun d=>some (d.1,st.set i (some d.2)))
section
variable {X:Cx} {Δ:List Md} {st:Ds} {e:Expr} {m:VM} {i j:Nat}
theorem Fx (d:D) (q:List Stp) (f:D->Option (D×D)):C4 st i d q f=(do1 d q f).bind fun d=>some (d.1,st.set i (some d.2)):=by
 unfold C4 do1
 cases lP d q with
 |none=>rfl
 |some d'=>
  show (f d').bind _=((f d').bind _).bind _
  cases f d' <;> rfl
theorem wH {α β:Type} {d:D} {a:Option α} {b:Option β} {q:α->List Stp} {f:α->β->D->Option (D×D)} (h:PY X Δ st e m (a.bind fun x=>b.bind fun y=>C4 st i d (q x) (f x y))):PY1 X Δ st e m i (a.bind fun x=>b.bind fun y=>do1 d (q x) (f x y)):=by
 have e1:(a.bind fun x=>b.bind fun y=>C4 st i d (q x) (f x y))=((a.bind fun x=>b.bind fun y=>do1 d (q x) (f x y)).bind fun d=>some (d.1,st.set i (some d.2))):=by
  cases a with
  |none=>rfl
  |some x=>cases b with
   |none=>rfl
   |some y=>exact Fx _ _ _
 rw[e1] at h;exact h
end
section
variable {α β:Type} {X:Cx} {E:Exits α β} {Δ:List Md} {st:Ds} {rest:List Stmt} {e:Expr} {m:VM} {pos:Pos} {i j k:Nat}
theorem K4 (i0:Nat) {x:Str} {p':Pos} {md:Md} {r:Option (D×D)} {k:D×D->Option (Out α β)} (he:PY1 X Δ st e m i r) (hm:wA m=some md) (hi:i0<Δ.length) (hnd:X.N.Nodup) (hN:X.N[i0]? =some x) (hx:Loc X.env.scope x)
  (h: ∀d:D×D,Blk X E (Δ.set i0 md) ((st.set i (some d.2)).set i0 (some d.1)) rest (k d)) (hs:swapsWith e (some (.Name x p')) pos.line X.env=pure false:=by rfl) (hf:X.fn x=true\/X.env.scope.names.lookup x=some .local:=by first|exact .inl rfl|exact .inr rfl|assumption):
  Blk X E Δ st (.Assign [.Name x p'] e pos::rest) (r.bind k):=
 cY (pss_cons (ps_set hnd hN hx he hs hf) (fY h)) fun De σ H ⟨O,G,q,rel,er,kk⟩=>by
  obtain⟨d,e1,e2⟩:=bind1 er
  exact⟨O,G,_,rel,by rw[e1];rfl,fun v H1 G1 rv=>⟨d,O,G1,q,rv.set hi hm,e2,kk⟩⟩
theorem C7 {r:Option (D×D)} {k:D×D->Option (Out α β)} (he:PY1 X Δ st e m i r) (h: ∀d:D×D,Blk X E Δ (st.set i (some d.2)) rest (k d)) (hs:swapsWith e none pos.line X.env=pure false:=by rfl):Blk X E Δ st (.Expr e pos::rest) (r.bind k):=
 cY (pss_cons (ps_expr he hs) (fY h)) fun De σ H ⟨O,G,q,rel,er,kk⟩=>by
  obtain⟨d,e1,e2⟩:=bind1 er
  exact⟨O,G,_,rel,by rw[e1];rfl,fun v H1 G1 rv=>⟨d,O,G1,q,rv.rel,e2,kk⟩⟩
theorem BW (i:Nat) {s:Sh} {ss:List Stmt} {r:Option (Out α β)} (hm:Δ[i]? =some (.ow s)) (h:Blk X E (Δ.set i .fz) st ss r):Blk X E Δ st ss r:=
 cY h fun De σ H ⟨O,G,q,⟨L,g,sl⟩,er,kk⟩=>by
  obtain⟨x',y',L1,L2',ex,ey,sr,pm,f⟩:=sl.split hm
  cases x' with
  |none=>
   obtain⟨L',pm',s'⟩:=f G H .fz none y' [] (fun _ g=>g) aB aB (fun _ _=>rfl) lu.none
   rw[iN ex,iN ey] at s'
   exact⟨O,G,q,⟨L',((g.perm pm).sub (List.sublist_append_right _ _)).perm pm'.symm,s'⟩,er,kk⟩
  |some d=>
   obtain⟨v,rfl,ow⟩:=sr
   have gp:=g.perm pm
   obtain⟨L',pm',s'⟩:=f (fun p=>G p\/p∈L1) H .fz (some d) (some v) [] (fun _ g=>.inl g) aB aB (fun _ _=>rfl) ⟨v,rfl,Own.rep _ _ _ _ ow,rfl⟩
   rw[iN ex,iN ey] at s'
   have pe:L'.Perm L2':=by simpa using pm'
   refine⟨O,_,q,⟨L',cG.perm ⟨g.bin,g.fr0,fun p h=>.inl (g.gsub p h),fun p h=> ?_,fun p h=> ?_,g.dom,(List.nodup_append.mp gp.nd).2.1,fun p m=>⟨fun h=> ?_,(gp.lg p (List.mem_append_right _ m)).2⟩,g.tl,g.tb⟩ pe.symm,s'⟩,er,kk⟩
   ·rcases h with h|h
    ·exact g.gold p h
    ·rcases (gp.lg p (List.mem_append_left _ h)).2 with h|h
     ·exact .inr (.inr (.inr h))
     ·exact .inr (.inl h)
   ·rcases h with h|h
    ·exact g.gin p h
    ·exact (Own.kind _ _ _ _ ow p h).ne
   ·rcases h with h|h
    ·exact (gp.lg p (List.mem_append_right _ m)).1 h
    ·exact (List.nodup_append.mp gp.nd).2.2 p h p m rfl
theorem C9 {δ:Type} {elt tg iter:Expr} {ifs:List Expr} {scope:Scope} {own:List (Str×Nat)} {g:TG} {rg:Rg} {IR:Sa->Hp->δ->V->Prop} {rI:Option (List δ)} {uM:List Md->List Md} {uS:δ->Ds->Ds} {is:List Nat} {rt:δ->Option Bool} {re:δ->Option D} {spos:Pos} {y:Str} {py:Pos} {k:D->Option (Out α β)}
  (i:Nat) (hc:X.calm=true) (hN:X.N.Nodup) (hy:X.N[i]? =some y) (hi0:i<Δ.length) (hyl:X.env.scope.names.lookup y=some .local) (hsw:swapsWith (.ListComp elt [⟨tg,iter,ifs,0⟩] scope pos) (some (.Name y py)) spos.line X.env=pure true)
  (hi:PIx X Δ st tg iter rg IR rI) (him:oP IR) (hr:rg≠ .hb) (ok:BlkOk X.N X.env.scope scope own) (hw: ∀v∈own.map (·.2),st[v]? =some none) (his: ∀i∈is,i∈own.map (·.2))
  (hg: ∀(s:Shared) (H:Hp) (C:Addr) (cl:List (Str×Addr)) (fp:List Addr),PG (X.blk s H scope (compEnvC scope cl C X.env) fp) tg g) (htg:wB X.K g rg IR uM uS Δ.length is)
  (ht: ∀(s:Shared) (H:Hp) (C:Addr) (cl:List (Str×Addr)) (fp:List Addr) (d:δ),PTs (X.blk s H scope (compEnvC scope cl C X.env) fp) ifs (rdT X.K (uM Δ) (uS d st) (rt d)))
  (he: ∀(s:Shared) (H:Hp) (C:Addr) (cl:List (Str×Addr)) (fp:List Addr) (d:δ),PE (X.blk s H scope (compEnvC scope cl C X.env) fp) elt (rdE X.K (uM Δ) (uS d st) (.rg .fz) (re d)))
  (h: ∀d,Blk X E (Δ.set i (.ow (.ls .fz))) (st.set i (some d)) rest (k d)) (hs: ∀x,foldedSetIterable iter X.env x=pure x:=by intro _;rfl):
  Blk X E Δ st (.Assign [.Name y py] (.ListComp elt [⟨tg,iter,ifs,0⟩] scope pos) spos::rest) ((rI.bind fun ds=>ua rt re ds).bind k):=
 cY (pss_cons (ps_setLc hc hN hy hyl hsw hi ok hg (fun s H C cl fp=>CY fun d=>ht s H C cl fp d) (fun s H C cl fp=>Hq fun d=>he s H C cl fp d) hs) (fY h)) fun De σ H ⟨O,G,q,rel,er,kk⟩=>by
  obtain⟨d,e1,e2⟩:=bind1 er
  refine CZ (Q:=fun x H1=>gName i x σ H1 fun σ' H'=> ∃a,rdS X.K E (Δ.set i (.ow (.ls .fz))) (List.set st i (some a)) (k a) De σ' H') him hw his htg (rdE.go rel e1 fun v H1 G1 rel1 x1 v1=>⟨d,O,G1,q,rel.p6 x1 hi0 rfl v1,e2,kk⟩)
end
end Sw
namespace Sw
open PySem PySem.Spec PyProof.Rows L2
variable [NmC]
section
variable {α β γ δ:Type}
def ifO (rc:Option Bool) (mA mB:Option (Out γ β)) (k:γ->Option (Out α β)):Option (Out α β):=rc.bind fun c=>(if c=true then mA else mB).bind (sqO k)
def vk (rI:Option (List δ)) (step:γ->δ->Option (Out γ γ)) (b0:γ) (k:γ->Option (Out α β)):Option (Out α β):=rI.bind fun ds=>(forL step ds b0).bind (sqF k)
def cH (r:Option D) (os:List D):Option (Out α β):=r.bind fun d=>some (.ret d os)
def ifE (rc:Option Bool) (a b:Option D):Option D:=rc.bind fun c=>if c=true then a else b
def sT (a b:Option Bool):Option Bool:=a.bind fun c=>if c=true then b else some false
def orB (a b:Option Bool):Option Bool:=a.bind fun c=>if c=true then some true else b
def eP (a:Option Bool):Option Bool:=a.bind fun b=>some (!b)
def lcO (rI:Option (List δ)) (rt:δ->Option Bool) (re:δ->Option D):Option D:=rI.bind fun ds=>ua rt re ds
def BX (x:Option D):Option (List D):=x.bind fun x=>match x with| .lst ds=>some ds|_=>none
def LV (x:Option D):Option (List (D×D)):=x.bind fun x=>match x with| .lst ds=>D.prs ds|_=>none
def FO (m:Option (Out PEmpty PEmpty)):Option FR:=m.bind outF
end
structure Cal (P:Program) (w:World) (K:Frg) (mg:Str->Option Value) (base:Heap) (k:Nat) (x:Str) (ps:List Str) (ms:List PM) (rm:VM) (Fs:List D->Option FR):Prop where
 ok: ∃(f:Addr) (fd:FuncData),FnOk P w K mg base CX0 k f fd ps (FSp K ms rm Fs)/\mg x=some (.ref f)/\PySem.W.keepIn K (.ref f)=true/\Binds K fd ps []
section
variable {X:Cx} {Δ:List Md} {st:Ds} {e:Expr} {es:List Expr} {rm:VM} {rs:Option (List D)} {pos p:Pos} {vms:List VM} {ps:List PM} {as:List AS} {Fs:List D->Option FR} {k k':Nat} {pn:List Str} {x:Str} {i j:Nat}
theorem aM (C:Cal X.prog X.w X.K X.mg X.base k x pn ps rm Fs) (hr:Room k' X.A) (ha:PAx X Δ st (e::es) vms rs) (hg:Gl X x:=by rfl) (hk:k<=k':=by decide) (ok:mC ps vms=true:=by rfl)
  (hdb:(x==("__debug__" :Str))=false:=by decide) (he:starEach (e::es) X.env=(false,eval e X.env)::starEach es X.env:=by rfl) (hpl:(backTo pos (starEach es X.env)).any (·.1)=false:=by rfl):
  PX X Δ st (.Call (.Name x p) (e::es) [] pos) rm (bp Fs rs):=by
 obtain⟨f,fd,F,hm,hkp,hb⟩:=C.ok
 exact Fq F (hr.mono hk) hg hm hkp hb ha ok hdb he hpl
end
section
variable {α β γ δ:Type} {X:Cx} {E:Exits α β} {Δ Δ':List Md} {st st':Ds} {rest body:List Stmt} {e:Expr} {m:VM} {r:Option D} {pos:Pos} {i j:Nat}
theorem aS (i:Nat) (Δ':List Md) (st':D->Ds) {x:Str} {p':Pos} {md:Md} {k:D->Option (Out α β)} (he:PX X Δ st e m r) (h: ∀d,Blk X E Δ' (st' d) rest (k d)) (hx:Loc X.env.scope x) (hnd:X.N.Nodup) (hm:wA m=some md:=by rfl) (e1:Δ.set i md=Δ':=by rfl) (e2: ∀d,st.set i (some d)=st' d:=by intro _;rfl) (hi:i<Δ.length:=by exact Nat.le_of_ble_eq_true rfl) (hN:X.N[i]? =some x:=by rfl)
  (hs:swapsWith e (some (.Name x p')) pos.line X.env=pure false:=by rfl) (hf:X.fn x=true\/X.env.scope.names.lookup x=some .local:=by first|exact .inl rfl|exact .inr rfl|assumption):
  Blk X E Δ st (.Assign [.Name x p'] e pos::rest) (r.bind k):=Ia i he hm hi hnd hN hx (fun d=>by rw[e1,e2];exact h d) hs hf
theorem ud (i:Nat) (st':D×D->Ds) {r:Option (D×D)} {k:D×D->Option (Out α β)} (he:PY1 X Δ st e m i r) (h: ∀d:D×D,Blk X E Δ (st' d) rest (k d)) (e2: ∀d:D×D,st.set i (some d.2)=st' d:=by intro _;rfl) (hs:swapsWith e none pos.line X.env=pure false:=by rfl):Blk X E Δ st (.Expr e pos::rest) (r.bind k):=
 C7 he (fun d=>by rw[e2];exact h d) hs
theorem vQ (i:Nat) (Δ':List Md) {s:Sh} {ss:List Stmt} {r:Option (Out α β)} (h:Blk X E Δ' st ss r) (hm:Δ[i]? =some (.ow s):=by rfl) (e1:Δ.set i .fz=Δ':=by rfl):Blk X E Δ st ss r:=BW i hm (by rw[e1];exact h)
theorem qa {rg:Rg} {IR:Sa->Hp->δ->V->Prop} {rI:Option (List δ)} {g:TG} {uM:List Md->List Md} {uS:δ->Ds->Ds} {tg it:Expr} {is:List Nat} (Dl:List Md) (el:γ->Ds) (Dm:List Md) (em:γ->δ->Ds) {b0:γ} {step:γ->δ->Option (Out γ γ)} {k:γ->Option (Out α β)}
  (hi:PIx X Δ st tg it rg IR rI) (him:oP IR) (hr:rg≠ .hb) (hg:PG X tg g) (ht:wB X.K g rg IR uM uS Dl.length is) (w:Wk Δ st Dl (el b0)) (hb: ∀b d,Blk X (E.loop Dl el) Dm (em b d) body (step b d)) (h: ∀b,Blk X E Dl (el b) rest (k b))
  (e1:uM Dl=Dm:=by rfl) (e2: ∀b d,uS d (el b)=em b d:=by intro _ _;rfl) (hc:X.calm=true:=by rfl) (hs: ∀x,foldedSetIterable it X.env x=pure x:=by intro _;rfl) (hp:PassesOwn (model X.prog X.w) X.A X.env X.xe:=by exact PassesOwn.never):
  Blk X E Δ st (.For tg it body [] pos::rest) (vk rI step b0 k):=Ib Dl el hi him hr hg ht w (fun b d=>by rw[e1,e2];exact hb b d) h hc hp hs
end
end Sw
namespace Sw
open PySem PySem.Spec PyProof.Rows L2
variable [NmC]
def blO (a:Option Bool):Option D:=a.bind fun b=>some (.bl b)
def LW (a:Option D):Option D:=(a.bind D.tb).bind fun c=>some (.bl (!c))
def Dc (a b:Option D):Option D:=(a.bind D.tb).bind fun c=>if c=true then b else some (.bl false)
def orE (a b:Option D):Option D:=(a.bind D.tb).bind fun c=>if c=true then some (.bl true) else b
def tupO (r:Option (List D)):Option D:=r.bind fun ds=>some (.tup ds)
def oF (r:Option (List D)):Option D:=r.bind fun ds=>if ds.length<=sizeLine then some (.lst ds) else none
def oG (f:D->Option Int->Option Int->Option D) (a:Option D) (l h:Option (Option Int)):Option D:=a.bind fun x=>l.bind fun l=>h.bind fun u=>f x l u
def BY (d:D) (rp:Option (List Stp)) (ra:Option D) (f:D->D->Option (D×D)):Option (D×D):=rp.bind fun q=>ra.bind fun x=>do1 d q fun d'=>f d' x
def LX (d:D) (rp:Option (List Stp)) (rs:Option (List D)) (f:List D->List D->Option (D×List D)):Option (D×D):=rp.bind fun q=>rs.bind fun xs=>do1 d q (Fv f xs)
def LY (d:D) (rp:Option (List Stp)) (f:List D->List D->Option (D×List D)):Option (D×D):=rp.bind fun q=>do1 d q (Fv f [])
theorem J3:Rg.bb≠Rg.hb:=fun h=>nomatch h
theorem eh:Rg.fz≠Rg.hb:=fun h=>nomatch h
theorem hu_of {k:Nat} {A:Around} (r:Room k A):A.units+1<cLine:=by have:=r.un;omega
theorem Ir:allM (.rg .fz) [.rg .fz]:=⟨rfl,trivial⟩
theorem mD:allM (.rg .fz) [.rg .fz,.rg .fz]:=⟨rfl,rfl,trivial⟩
theorem zZ:allM (.rg .fz) [.rg .fz,.rg .fz,.rg .fz]:=⟨rfl,rfl,rfl,trivial⟩
theorem wI:allM (.rg .fz) [.rg .fz,.rg .fz,.rg .fz,.rg .fz]:=⟨rfl,rfl,rfl,rfl,trivial⟩
theorem Dd:allM (.rg .fz) [.rg .fz,.rg .fz,.rg .fz,.rg .fz,.rg .fz]:=⟨rfl,rfl,rfl,rfl,rfl,trivial⟩
theorem Fy {st:Ds} {x:Str} {i:Nat} (h:st[i]? =some none): ∀v∈([(x,i)]:List (Str×Nat)).map (·.2),st[v]? =some none:=by simpa using h
theorem A0 {x:Str} {i:Nat}: ∀v∈[i],v∈([(x,i)]:List (Str×Nat)).map (·.2):=by simp
theorem ue {s s':Sh} (h:s=s'): ∀q,(some []:Option (List Stp))=some q->shP s q=some s':=by
 intro q e;cases e;rw[h];cases s' <;> rfl
section
variable {X:Cx} {Δ:List Md} {st:Ds} {a b c e o:Expr} {es:List Expr} {m ma mb mc:VM} {ra rb rc:Option D} {pos p pos' apos:Pos} {r rg:Rg}
theorem A7 {x1:Nat} {ra rb:Option D} (h:PAx X Δ st [a,b] [.rg .fz,.rg .fz] (aj ra (aj rb aI))):PX X Δ st (.Tuple [a,b] x1 pos) (.rg .fz) (tupO (aj ra (aj rb aI))):=wD h mD (by simp) fun ds e=>by
 obtain⟨x,y,e1,e2,e3⟩:=bD e
 obtain⟨z,w,e4,e5,e6⟩:=bD e2
 cases e5;cases e6;cases e3;simp
theorem nH {x1:Nat} {ra rb rc:Option D} (h:PAx X Δ st [a,b,c] [.rg .fz,.rg .fz,.rg .fz] (aj ra (aj rb (aj rc aI)))):PX X Δ st (.Tuple [a,b,c] x1 pos) (.rg .fz) (tupO (aj ra (aj rb (aj rc aI)))):=wD h zZ (by simp) fun ds e=>by
 obtain⟨x,y,e1,e2,e3⟩:=bD e
 obtain⟨z,w,e4,e5,e6⟩:=bD e2
 obtain⟨u,v,e7,e8,e9⟩:=bD e5
 cases e8;cases e9;cases e6;cases e3;simp
end
abbrev D.leS:D->D->Option Bool:=ss fun a b=>some (!decide (b.cps.toList<a.cps.toList))
abbrev D.gtS:D->D->Option Bool:=ss fun a b=>some (decide (b.cps.toList<a.cps.toList))
abbrev D.geS:D->D->Option Bool:=ss fun a b=>some (!decide (a.cps.toList<b.cps.toList))
section
variable {X:Cx} {ma mb rg:Rg}
theorem uf:Op2 X (fun x y H Q=> ∃i j,x= .str i/\y= .str j/\Q (.bl (!decide (j.cps.toList<i.cps.toList))) H) (.rg ma) (.rg mb) (.rg rg) (blD D.leS):=Ig fun _ _ _ _ h=>h
def wJ:PyData->Bool
 | .none=>true
 |_=>false
end
end Sw
namespace Sw
open PySem PySem.Spec PyProof.Rows L2
variable [NmC]
theorem fB:bootBuiltins "len" =some (.builtin "len"):=by decide+kernel
theorem BZ:bootBuiltins "sorted" =some (.builtin "sorted"):=by decide+kernel
theorem mE:bootBuiltins "isinstance" =some (.builtin "isinstance"):=by decide+kernel
def D.ML (x:D):Option D:=match x with
 | .lst ds=>if D.evs ds=true/\Il ds=true then some (.lst (srt ds)) else none
 |_=>none
def D.vR (x:D) (lo hi:Option Int):Option D:=match x with
 | .lst ds=>if D.evs ds=true then some (.lst (Sw.dO ds lo hi)) else none
 |_=>none
theorem Df {H:Hp} {G N:Sa} (hN: ∀p,N p-> ∃xs,H p=some (.tup xs)):Ext H G H (fun p=>G p\/N p):=.of (fun _ _ e=>e) (fun p g=>.inl g) (fun p g=>by
 rcases g with g|g
 ·exact .inl g
 ·obtain⟨xs,t⟩:=hN p g
  exact .inr (.inr ⟨xs,t⟩))
theorem Dg {H:Hp} {G N:Sa} (gin: ∀p,G p->H p≠none) (hN: ∀p,N p-> ∃xs,H p=some (.tup xs)): ∀p,(G p\/N p)->H p≠none:=fun p g=>by
 rcases g with g|g
 ·exact gin p g
 ·obtain⟨xs,t⟩:=hN p g
  rw[t];simp
section
variable {X:Cx} {Δ:List Md} {st:Ds} {a b c e o:Expr} {es:List Expr} {m ma mb mc:VM} {ra rb rc:Option D} {pos p p2 pos' apos:Pos} {r rg r1 r2':Rg}
theorem qO {lo hi:Option Expr} {rl rh:Option (Option Int)} (ha:PX X Δ st a m ra) (hl:POx X Δ st lo rl) (hh:POx X Δ st hi rh):PX X Δ st (.Subscript a (.Slice lo hi none p2) pos) (.nw (.ls .fz)) (oG D.vR ra rl rh):=
 bW (L2.pe_slice sl_list ha hl hh) fun σ H Q ⟨O,G,d,rel,er,k⟩=>by
  obtain⟨x,e1,er⟩:=bind1 er
  obtain⟨l,u,e2,e3,e4⟩:=bD er
  cases x <;> first|cases e4|skip
  rename_i ds
  obtain⟨he,rfl⟩:=aH (show (if D.evs ds=true then some (D.lst (Sw.dO ds l u)) else none)=some d from e4)
  refine rdE.go rel e1 fun v H1 G1 rel1 x1 v1=>⟨O,G1,l,rel1,e2,fun H2 G2 x2=>⟨O,G2,u,rel1.ext x2,e3,fun H3 G3 x3=> ?_⟩⟩
  have v3:=((v1.mono x2).mono x3).hb
  unfold Rep at v3
  obtain⟨p,vs,rfl,_,l',r'⟩:=v3
  obtain⟨N,hN,g⟩:=aC.et (G:=G3) ds vs he r'
  have x03:=(x1.trans (x2.trans x3)).trans (Df hN)
  exact⟨p,vs,rfl,SqL.of l',fun q hq=>k _ _ _ (x03.trans (.new hq)) (bE.back x03 (rE hq (Dg ((rel1.ext x2).ext x3).gin hN) (g.cut l u)))⟩
end
def Hr:List Key->Option (List Str)
 | []=>some []
 | .inr x::ks=>(Hr ks).map fun xs=>x::xs
 | .inl _::_=>none
def fL (xs:List Str):List Str:=xs.mergeSort sLe
theorem rH (a b c:Str) (h:sLe a b=true) (g:sLe b c=true):sLe a c=true:=by
 unfold sLe at*
 simp only[decide_eq_true_eq] at*
 exact List.le_trans h g
theorem vS (a b:Str):(sLe a b||sLe b a)=true:=by
 unfold sLe
 rw[Bool.or_eq_true]
 simp only[decide_eq_true_eq]
 exact List.le_total _ _
theorem Dh {a b:Str} (h:sLe a b=true) (g:sLe b a=true):a=b:=by
 unfold sLe at*
 simp only[decide_eq_true_eq] at*
 exact PySem.W.str_of_cps (List.le_antisymm h g)
theorem vT: ∀(xs:List Str) (x:Str),risingS x xs=true->(x::xs).Pairwise (fun a b=>sLe a b=true)
 | [],x,_=>by simp
 |y::ys,x,h=>by
  unfold risingS at h
  rw[Bool.and_eq_true] at h
  have ih:=vT ys y h.2
  have hxy:sLe x y=true:=by
   unfold sLe
   have h1:=h.1
   rw[ltCps_eq] at h1
   simpa using h1
  rw[List.pairwise_cons]
  refine⟨fun z hz=> ?_,ih⟩
  rcases List.mem_cons.mp hz with rfl|hz
  ·exact hxy
  ·exact rH _ _ _ hxy ((List.pairwise_cons.mp ih).1 z hz)
theorem B0 {xs:List Str} (h:sortedS xs=true):xs.Pairwise (fun a b=>sLe a b=true):=by
 cases xs with
 |nil=>simp
 |cons x r=>exact vT r x h
theorem rJ {xs ys:List Str} (p:ys.Perm xs) (h:sortedS ys=true):ys=fL xs:=
 List.Perm.eq_of_pairwise (le:=fun a b=>sLe a b=true) (fun a b _ _=>Dh) (B0 h) (List.pairwise_mergeSort rH vS xs) (p.trans (List.mergeSort_perm xs sLe).symm)
def D.Na (x:D):Option D:=match x with
 | .dct ks=>(Hr (ks.map (·.1))).bind fun xs=>if xs.length<64 then some (.lst ((fL xs).map D.str)) else none
 |_=>none
def D.Ht (x:D):Option D:=match x with
 | .dct ks=>some (.lst (ks.map fun k=>kD k.1))
 |_=>none
theorem rK {K:Frg} {S:Sa} {H:Hp}: ∀xs:List Str,aC K S H (xs.map D.str) (xs.map V.str)
 | []=>.nil
 |x::xs=>.cons (by unfold Rep;rfl) (rK xs)
section
variable {X:Cx} {Δ:List Md} {st:Ds} {a b c e o:Expr} {es:List Expr} {m ma mb mc:VM} {ra rb rc:Option D} {pos p p2 pos' apos pT:Pos} {r rg r1 r2':Rg}
def D.strs:List D->Option (List Str)
 | []=>some []
 | .str x::ds=>(D.strs ds).map fun xs=>x::xs
 |_::_=>none
theorem wK: ∀{ds:List D} {xs:List Str},D.strs ds=some xs->ds=xs.map D.str
 | [],_,h=>by cases h;rfl
 | .str x::ds,_,h=>by
  unfold D.strs at h
  cases e:D.strs ds with
  |none=>rw[e] at h;cases h
  |some ys=>rw[e] at h;cases h;rw[wK e];rfl
theorem aC.strs {K:Frg} {S:Sa} {H:Hp}: ∀{xs:List Str} {vs:List V},aC K S H (xs.map D.str) vs->vs=xs.map V.str
 | [],_,h=>by unfold aC at h;exact h
 |x::xs,_,h=>by
  unfold aC at h
  obtain⟨v,r,rfl,h1,h2⟩:=h
  unfold Rep at h1
  rw[h1,aC.strs h2];rfl
def D.join (x y:D):Option D:=match x with
 | .str a=>(y.items).bind fun ds=>(D.strs ds).bind fun xs=>if (xs.map (·.length)).sum+xs.length*a.length<=16777216 then some (.str (Txt.join a xs)) else none
 |_=>none
theorem qP (ho:PX X Δ st o (.rg r) ra) (he:PX X Δ st e m rb) (hs:starEach [e] X.env=[(false,eval e X.env)]:=by rfl) (hbase:attributeBase o "join" X.env (eval o X.env)=eval o X.env:=by rfl) (hline:(apos.endLine==pos.line)=true:=by rfl):
  PX X Δ st (.Call (.Attribute o "join" apos) [e] [] pos) (.rg rg) (b2 D.join ra rb):=bW (pe_join ho he hs hbase hline) fun σ H Q ⟨O,G,d,rel,er,k⟩=>by
 obtain⟨x,y,e1,e2,e3⟩:=bD er
 cases x <;> first|cases e3|skip
 rename_i a
 obtain⟨ds,e4,e5⟩:=bind1 (show ((y.items).bind fun ds=>(D.strs ds).bind fun xs=>if (xs.map (·.length)).sum+xs.length*a.length<=16777216 then some (D.str (Txt.join a xs)) else none)=some d from e3)
 obtain⟨xs,e6,e7⟩:=bind1 e5
 obtain⟨hz,rfl⟩:=aH e7
 refine rdE.go rel e1 fun v H1 G1 rel1 x1 v1=>⟨⟨a,v1.str⟩,rdE.go rel1 e2 fun w H2 G2 rel2 x2 v2=> ?_⟩
 obtain⟨p,vs,rfl,l,rr⟩:=Rep.items e4 v2.hb
 have:=wK e6
 subst this
 rw[aC.strs rr] at l
 exact⟨a,p,xs,v1.str,rfl,l,hz,k _ H2 G2 (x1.trans x2) p8⟩
def tyN:D->Option String
 | .non=>some "NoneType" | .bl _=>some "bool" | .int _=>some "int" | .str _=>some "str"
 | .lst _=>some "list" | .tup _=>some "tuple" | .dct _=>some "dict"
 |_=>none
def LZ (t T:String):Option Bool:=if (Value.type t==Value.type T)=true then some true else if PySem.W.kitMeta T=true then (fastBuiltinMro t).map (·.contains (.type T)) else none
def D.isa (T:String) (x:D):Option Bool:=(tyN x).bind fun t=>LZ t T
theorem Rep.ty {K:Frg} {S:Sa} {H:Hp} {d:D} {v:V} {t:String} (e:tyN d=some t) (h:Rep K S H d v):TyX K H v (.type t):=by
 cases d <;> first|cases e|skip
 ·unfold Rep at h;subst h;exact .base .non
 ·unfold Rep at h;subst h;exact .base (.bl _)
 ·unfold Rep at h;subst h;exact .base (.int _)
 ·unfold Rep at h;subst h;exact .base (.str _)
 ·unfold Rep at h
  obtain⟨a,vs,rfl,_,l,_⟩:=h
  exact .base (.lst l)
 ·unfold Rep at h
  obtain⟨a,vs,rfl,l,_⟩:=h
  exact .base (.tup l.2)
 ·unfold Rep at h
  obtain⟨a,vs,rfl,_,l,_⟩:=h
  rcases l with l|⟨o,l⟩
  ·exact .base (.dK l)
  ·exact .fDict l
theorem Iu {T:String} {x:Str} (hg:Gl X "isinstance") (hm:X.mg "isinstance" =none) (hmT:X.mg x=none) (hv:bootBuiltins x=some (.type T)) (hgT:Gl X x) (he:PX X Δ st e m ra) (hn:x≠"__name__" :=by decide) (hd:(x==("__debug__" :Str))=false:=by decide)
  (hst:starEach [e,.Name x pT] X.env=(false,eval e X.env)::starEach [.Name x pT] X.env:=by rfl) (hst2:starEach [.Name x pT] X.env=(false,eval (.Name x pT) X.env)::starEach [] X.env:=by rfl) (hpl:(backTo pos (starEach [.Name x pT] X.env)).any (·.1)=false:=by rfl):
  PX X Δ st (.Call (.Name "isinstance" p) [e,.Name x pT] [] pos) (.rg rg) (blO (b1 (D.isa T) ra)):=bW (pe_callB call_isi hg hm mE (pa_cons he (pa_cons (pe_bltn (v:=.ty T) hgT hmT hv rfl hn hd) pa_nil hst2) hst) (by decide) (by decide) hst hpl) fun σ H Q ⟨O,G,d,rel,er,k⟩=>by
 obtain⟨b,e1,e2⟩:=bind1 er
 obtain⟨x',e3,e4⟩:=bind1 e1
 obtain⟨t,e5,e6⟩:=bind1 e4
 cases e2
 exact rdE.go rel e3 fun v H1 G1 rel1 x1 v1=>⟨v,.ty T,.type t,.type T,b,rfl,.ty T,v1.hb.ty e5,e6,k _ H1 G1 x1 mS⟩
end
end Sw
namespace Sw
open PySem PySem.Spec PyProof.Rows L2
variable [NmC]
def D.Di (d' y x:D):Option D:=match d',y with
 | .lst ds,.int i=>(ixN ds.length i).map fun j=>.lst (ds.set j x)
 |_,_=>none
def sf (d:D) (ra:Option D) (rp:Option (List Stp)) (rb:Option D):Option D:=ra.bind fun x=>rp.bind fun q=>rb.bind fun y=>(lP d q).bind fun d'=>(D.Di d' y x).bind fun d''=>some (iM d q d'')
theorem aC.set {K:Frg} {S:Sa} {H:Hp} {x:D} {w:V} (hw:Rep K S H x w): ∀{ds:List D} {vs:List V} (j:Nat),aC K S H ds vs->aC K S H (ds.set j x) (vs.set j w)
 | [],_,j,h=>by unfold aC at h;subst h;exact .nil
 |d::ds,_,0,h=>by
  unfold aC at h
  obtain⟨v,r,rfl,h1,h2⟩:=h
  exact .cons hw h2
 |d::ds,_,j+1,h=>by
  unfold aC at h
  obtain⟨v,r,rfl,h1,h2⟩:=h
  exact .cons h1 (aC.set hw j h2)
theorem bV.drop {K:Frg} {S:Sa} {H:Hp} (k:Key): ∀{ds:List (Key×D)} {vs:List (Key×V)},bV K S H ds vs->bV K S H (tV ds k) (tV vs k)
 | [],_,h=>by unfold bV at h;subst h;exact .nil
 |(k0,d)::ds,_,h=>by
  unfold bV at h
  obtain⟨v,r,rfl,h1,h2⟩:=h
  have ih:=bV.drop k h2
  unfold tV at*
  rw[List.filter_cons,List.filter_cons]
  by_cases e:k0=k
  ·simp only[e,ne_eq,not_true,decide_false,Bool.false_eq_true,if_false];exact ih
  ·simp only[e,ne_eq,not_false_iff,decide_true,if_true];exact .cons h1 ih
section
variable {α β γ δ:Type} {X:Cx} {E:Exits α β} {Δ Δ':List Md} {st:Ds} {rest body:List Stmt} {a b e o tg:Expr} {m mb:VM} {ra rb:Option D} {rp:Option (List Stp)} {pos pos' apos:Pos} {i j:Nat} {md:Md} {s s'':Sh} {d:D} {r:Rg}
theorem te (i:Nat) (st':D->Ds) {k:D->Option (Out α β)} (hu:X.A.units+1<cLine) (he:PX X Δ st e (.rg .fz) ra) (hv:shV (.rg .fz)=some s'') (ho:PPx X Δ st o i rp) (hsh: ∀q,rp=some q->shP s q=some (.ls s'')) (hk:PX X Δ st b (.rg r) rb) (h: ∀d1,Blk X E Δ (st' d1) rest (k d1))
  (hm:Δ[i]? =some md:=by rfl) (hs:yF md=some s:=by rfl) (hd:st[i]? =some (some d):=by rfl) (e2: ∀d1,st.set i (some d1)=st' d1:=by intro _;rfl)
  (hs1:swapsWithSole [.Subscript o b pos'] e pos.line X.env=pure false:=by rfl) (hw:swappedStores [.Subscript o b pos'] e X.env=pure none:=by rfl) (h1:(assignEach [.Subscript o b pos'] X.env).map (·.2)=[assign (.Subscript o b pos') X.env]:=by rfl)
  (ha: ∀v,assign (.Subscript o b pos') X.env v=(do
   let ov<-holding [v] (eval o X.env)
   let iv<-holding [v,ov] (eval b X.env)
   standAt pos'
   holding [v,ov,iv] (setItem ov iv v)
   release [v,ov,iv] []):=by intro _;rfl):
  Blk X E Δ st (.Assign [.Subscript o b pos'] e pos::rest) ((sf d ra rp rb).bind k):=by
 cases hv
 refine cY (pss_cons (ps_asg he (pg_sub ho hk set_list ha) hs1 hw h1) (fY h)) fun De σ H ⟨O,G,qq,rel,er,kk⟩=> ?_
 obtain⟨d2,e0,ek⟩:=bind1 er
 unfold sf at e0
 obtain⟨x,e1,e0⟩:=bind1 e0
 obtain⟨q,y,e3,e4,e0⟩:=bD e0
 obtain⟨d',e5,e0⟩:=bind1 e0
 obtain⟨d'',e6,e0⟩:=bind1 e0
 cases e0
 obtain⟨ds,rfl⟩: ∃ds,d'= .lst ds:=by cases d' <;> first|exact⟨_,rfl⟩|cases e6
 obtain⟨iy,rfl⟩: ∃iy,y= .int iy:=by cases y <;> first|exact⟨_,rfl⟩|cases e6
 have e6:(ixN ds.length iy).map (fun j=>D.lst (ds.set j x))=some d'':=e6
 cases ej:ixN ds.length iy with
 |none=>rw[ej] at e6;cases e6
 |some jj=>
  rw[ej] at e6;cases e6
  have hsq:=hsh q e3
  refine rdE.go rel e1 fun w H1 G1 rel1 x1 v1=>⟨O,G1,q,rel1,e3,fun v0 v H2 G2 ev0 x2 at2=>rdE.go (rel1.ext x2) e4 fun u H3 G3 rel3 x3 v3=> ?_⟩
  obtain⟨l,vs0,rfl,hl0⟩:=C5 rel3 hm hs hd ev0 (at2.mono x3.hx) hsq e5
  have v13:Rep X.K G3 H3 x w:=(v1.mono x2).mono x3
  obtain⟨nG,⟨vs,hl,rr⟩,fin⟩:=Fw (ds2:=ds.set jj x) (res:=.non) (Q:=fun _ H'=> ∃a,rdS X.K E Δ (st' a) (k a) De σ H') rel3 hm hs hd ev0 (at2.mono x3.hx) hsq e5 fun v H' G' rv=>⟨_,O,G',qq,by rw[<-e2];exact rv.rel,ek,kk⟩
  exact⟨l,vs,iy,jj,rfl,v3.int,hl,by rw[rr.length];exact ej,fin (vs.set jj w) .non (rr.set v13 jj) (by unfold Rep;rfl)⟩
theorem Fz (i j:Nat) (Δ':List Md) (st':D×D->Ds) {k:D×D->Option (Out α β)} (he:PX X Δ st e (.rg r) ra) (hr:r≠ .hb) (hg:PG X tg (gTup X.K 2 (gCons (gName i) (gCons (gName j) gNil)))) (h: ∀d,Blk X E Δ' (st' d) rest (k d))
  (e1:(Δ.set i (mdR r)).set j (mdR r)=Δ':=by rfl) (e2: ∀d:D×D,(st.set i (some d.1)).set j (some d.2)=st' d:=by intro _;rfl) (hi:i<Δ.length:=by exact Nat.le_of_ble_eq_true rfl) (hj:j<Δ.length:=by exact Nat.le_of_ble_eq_true rfl)
  (hs1:swapsWithSole [tg] e pos.line X.env=pure false:=by rfl) (hw:swappedStores [tg] e X.env=pure none:=by rfl) (h1:(assignEach [tg] X.env).map (·.2)=[assign tg X.env]:=by rfl):
  Blk X E Δ st (.Assign [tg] e pos::rest) ((b1 D.pr ra).bind k):=by
 refine cY (pss_cons (ps_asg he hg hs1 hw h1) (fY h)) fun De σ H ⟨O,G,qq,rel,er,kk⟩=> ?_
 obtain⟨p,e3,e4⟩:=bind1 er
 obtain⟨x,e5,e6⟩:=bind1 e3
 refine rdE.go rel e5 fun v H1 G1 rel1 x1 v1=> ?_
 have hp:x= .tup [p.1,p.2]:=by
  match x,e6 with
  | .tup [a,b],e6=>cases e6;rfl
 subst hp
 have v1:Rep X.K (rgn O G1 r) H1 (.tup [p.1,p.2]) v:=v1
 refine Fb X.K i j hr hi hj O Δ st σ H1 G1 p v _ rfl rel1 (Fn v1) fun σ' rel' _=> ?_
 exact⟨p,O,G1,qq,by rw[<-e1,←e2];exact rel',e4,kk⟩
theorem Dk {elt iter:Expr} {ifs:List Expr} {scope:Scope} {own:List (Str×Nat)} {g:TG} {rg:Rg} {IR:Sa->Hp->δ->V->Prop} {rI:Option (List δ)} {uM:List Md->List Md} {uS:δ->Ds->Ds} {is:List Nat} {rt:δ->Option Bool} {re:δ->Option D} {spos:Pos} {y:Str} {py:Pos} {k:D->Option (Out α β)}
  (i:Nat) (Δ':List Md) (st':D->Ds) (hN:X.N.Nodup) (hi:PIx X Δ st tg iter rg IR rI) (him:oP IR) (hr:rg≠ .hb) (ok:BlkOk X.N X.env.scope scope own) (hw: ∀v∈own.map (·.2),st[v]? =some none) (his: ∀i∈is,i∈own.map (·.2))
  (hg: ∀(s:Shared) (H:Hp) (C:Addr) (cl:List (Str×Addr)) (fp:List Addr),PG (X.blk s H scope (compEnvC scope cl C X.env) fp) tg g) (htg:wB X.K g rg IR uM uS Δ.length is)
  (ht: ∀(s:Shared) (H:Hp) (C:Addr) (cl:List (Str×Addr)) (fp:List Addr) (d:δ),PTs (X.blk s H scope (compEnvC scope cl C X.env) fp) ifs (rdT X.K (uM Δ) (uS d st) (rt d)))
  (he: ∀(s:Shared) (H:Hp) (C:Addr) (cl:List (Str×Addr)) (fp:List Addr) (d:δ),PE (X.blk s H scope (compEnvC scope cl C X.env) fp) elt (rdE X.K (uM Δ) (uS d st) (.rg .fz) (re d)))
  (h: ∀d,Blk X E Δ' (st' d) rest (k d)) (e1:Δ.set i (.ow (.ls .fz))=Δ':=by rfl) (e2: ∀d,st.set i (some d)=st' d:=by intro _;rfl) (hc:X.calm=true:=by rfl) (hy:X.N[i]? =some y:=by rfl) (hi0:i<Δ.length:=by exact Nat.le_of_ble_eq_true rfl) (hyl:X.env.scope.names.lookup y=some .local:=by rfl)
  (hsw:swapsWith (.ListComp elt [⟨tg,iter,ifs,0⟩] scope pos) (some (.Name y py)) spos.line X.env=pure true:=by rfl) (hs: ∀x,foldedSetIterable iter X.env x=pure x:=by intro _;rfl):
  Blk X E Δ st (.Assign [.Name y py] (.ListComp elt [⟨tg,iter,ifs,0⟩] scope pos) spos::rest) ((lcO rI rt re).bind k):=
 C9 i hc hN hy hi0 hyl hsw hi him hr ok hw his hg htg ht he (fun d=>by rw[e1,e2];exact h d) hs
end
def D.min2:List D->Option D
 | [.int a,.int b]=>some (.int (if b<a then b else a))
 |_=>none
def D.max2:List D->Option D
 | [.int a,.int b]=>some (.int (if b>a then b else a))
 |_=>none
def D.Hu:List D->Option D
 | [.str a,.str b]=>some (.str (if b.cps.toList<a.cps.toList then b else a))
 |_=>none
def D.Hv:List D->Option D
 | [.str a,.str b]=>some (.str (if a.cps.toList<b.cps.toList then b else a))
 |_=>none
end Sw
namespace Sw
open PySem PySem.Spec PyProof.Rows L2
variable [NmC]
theorem ti:bootBuiltins "int" =some (.type "int"):=by decide+kernel
theorem tj:bootBuiltins "str" =some (.type "str"):=by decide+kernel
theorem FA:bootBuiltins "set" =some (.type "set"):=by decide+kernel
end Sw
namespace Sw
open PySem PySem.Spec PyProof.Rows L2
variable [NmC]
theorem Dq {K:Frg} {H:Hp} {a:Addr} {ns:List Int} {Fs:List D->Option FR} (hS:SqL K H a (ns.map V.int)) (h:Fs [.sc ns]=some (.ok (.bl true) [])) (tb:LamX.Tabs NmC.T H:=by exact fun p hp=>nomatch (show p∈([]:List (Addr×Str)) from hp)):FSp K [.bo] (.rg .fz) Fs [.ref a] H (fun v _=>v= .bl true) (fun _ _ _=>False):=by
 refine⟨Org.all H fun _=>False,[.sc ns],_,rfl,mU tb (fun _ f=>f.elim),⟨[],[],⟨?_,rfl⟩,rfl,rfl⟩,h,fun v H' G' r=> ?_⟩
 ·unfold Rep
  refine⟨a,rfl,?_⟩
  rcases hS with r|⟨o,its,n,hk,z⟩
  ·exact .inl ⟨by rcases r with r|⟨o,r⟩ <;> (show H a≠none;rw[r];simp),r⟩
  ·exact .inr (.inr ⟨o,its,n,hk,z⟩)
 ·obtain⟨_,_,hv⟩:=td r
  exact (hv (Org.all H fun _=>False)).bl
theorem bh {K:Frg} {x qual:Str} {st:Stmt} {f:Addr} {fd:FuncData} {kws:List (Str×V)} (F:FunD K x qual (defArgs st) (defBody st) (defScope st) [] kws f fd):Fun K x qual st f fd:=by
 obtain⟨oc,od,dV,kV,doc,pm,an,cdv,ct,osl,e,l,c,hd,_⟩:=F.ex
 rcases hd with ⟨_,e2⟩|⟨e2,_⟩
 ·subst e2
  exact⟨⟨oc,od,kV,doc,pm,an,cdv,ct,osl,e,l,c⟩,F.kp⟩
 ·exact absurd rfl e2
end Sw
namespace Sw
open PySem PySem.Spec PyProof.Rows L2
variable [NmC]
section
variable {X:Cx} {e:Expr} {st:Stmt}
def unl {α:Type} (H:Hp) (f:α->Hp->Prop):α->Hp->Prop:=fun a H'=>f a H'\/ ∃d od u,(∀o v,H d≠some (.frz o v))/\H' d=some (.frz od u)/\f a (upd H' d u)
end
section
variable {K:Frg} {O:Org} {Δ Δ2:List Md} {st st2:Ds} {σ σ2:CS} {H H2:Hp} {G G2:Sa} {L L2':List Addr} {d:Addr} {od:Obj} {u:HO}
def DkU (u:HO):Prop:=(∃kvs,u= .dK kvs)\/ ∃kvs,u= .dT kvs
theorem DkU.nd {u:HO} (h:DkU u):Nd u:=by rcases h with ⟨k,rfl⟩|⟨k,rfl⟩ <;> trivial
theorem DkU.fz {u:HO} {od:Obj} (h:DkU u):Nd (.frz od u):=by rcases h with ⟨k,rfl⟩|⟨k,rfl⟩ <;> trivial
theorem DkU.nt {u:HO} (h:DkU u): ∀xs,u≠ .tup xs:=fun xs z=>by rcases h with ⟨k,rfl⟩|⟨k,rfl⟩ <;> cases z
def Out.calm {α β:Type}:Out α β->Bool
 | .exc _=>false
 |_=>true
end
end Sw
namespace Sw
open PySem PySem.Spec PyProof.Rows L2
variable [NmC]
theorem bV.at {K:Frg} {S:Sa} {H:Hp}: ∀{ks:List (Key×D)} {kvs:List (Key×V)} {i:Nat} {k:Key} {v:V},bV K S H ks kvs->kvs[i]? =some (k,v)-> ∃x,ks[i]? =some (k,x)/\Rep K S H x v
 | [],_,_,_,_,h,e=>by unfold bV at h;subst h;simp at e
 |(k0,x)::ks,_,0,k,v,h,e=>by
  unfold bV at h
  obtain⟨w,r,rfl,h1,h2⟩:=h
  simp at e
  obtain⟨rfl,rfl⟩:=e
  exact⟨x,rfl,h1⟩
 |(k0,x)::ks,_,i+1,k,v,h,e=>by
  unfold bV at h
  obtain⟨w,r,rfl,h1,h2⟩:=h
  obtain⟨y,e1,e2⟩:=bV.at (i:=i) h2 (by simpa using e)
  exact⟨y,by simpa using e1,e2⟩
theorem Meets.inl {α β:Type} {K:Frg} {E:Exits α β} {O:Org} {De:Ends} {o:Out α β} {Hs:Hp} (hc:o.calm=true) (h:Meets K E O De o):Meets K E O ⟨unl Hs De.nx,unl Hs De.rt,unl Hs De.bk,unl Hs De.ct⟩ o:=by
 cases o with
 |nx a=>exact fun σ H' G' rel=>.inl (h _ _ _ rel)
 |bk b=>exact fun σ H' G' rel=>.inl (h _ _ _ rel)
 |ct b=>exact fun σ H' G' rel=>.inl (h _ _ _ rel)
 |ret x os=>exact fun v H' G' q=>⟨.inl (h _ _ _ q).1,fun fl ev σ=>.inl ((h _ _ _ q).2 fl ev σ)⟩
 |exc x=>cases hc
end Sw
namespace Sw
open PySem PySem.Spec PyProof.Rows L2
variable [NmC]
def D.ints:List D->Option (List Int)
 | []=>some []
 | .int x::ds=>(D.ints ds).map fun xs=>x::xs
 |_::_=>none
def D.J4 (x:D):Option D:=match x with
 | .lst ds=>(D.ints ds).map fun ns=>.int ns.sum
 |_=>none
end Sw
namespace Sw
open PySem PySem.Spec PyProof.Rows L2 PySem.Calls PySem.W
variable [NmC]
section
variable {prog:Program} {w:World} {A:Around} {E:Value->Shared->Prop} {s:Shared}
def Dr (z TI TO i1 i2 l1 l2 S:Addr) (xs ys:Array Value) (i:Nat) (h:Heap):Prop:=
 IsPair h TI (.ref i1) (.ref i2)/\h.IsListIter i1 l1 i/\h.IsListIter i2 l2 i/\h.IsList l1 xs/\h.IsList l2 ys∧
  ((IsZip h z TI TO .none/\ ∃a b,IsPair h TO a b)\/ ∃T f oT,IsZipHeld h z TI TO T f/\h.get? T=some oT/\T≠z/\T≠i1/\T≠i2/\T≠S)
theorem Dr.at {z TI TO i1 i2 l1 l2 S:Addr} {xs ys:Array Value} {i:Nat} {h h':Heap} (x:Dr z TI TO i1 i2 l1 l2 S xs ys i h) (d:z≠S/\TI≠S/\TO≠S/\i1≠S/\i2≠S/\l1≠S/\l2≠S)
  (k: ∀b o,b≠S->h.get? b=some o->h'.get? b=some o):Dr z TI TO i1 i2 l1 l2 S xs ys i h':=by
 obtain⟨hTI,h1,h2,hl1,hl2,hz⟩:=x
 obtain⟨dz,dTI,dTO,d1,d2,dl1,dl2⟩:=d
 refine⟨k _ _ dTI hTI,h1.at fun o e=>k _ o d1 e,h2.at fun o e=>k _ o d2 e,hl1.at fun o e=>k _ o dl1 e,hl2.at fun o e=>k _ o dl2 e,?_⟩
 rcases hz with ⟨hz,a,b,hTO⟩|⟨T,f,oT,hz,hT,r1,r2,r3,r4⟩
 ·exact .inl ⟨k _ _ dz hz,a,b,k _ _ dTO hTO⟩
 ·exact .inr ⟨T,f,oT,k _ _ dz hz,k _ _ r4 hT,r1,r2,r3,r4⟩
end
end Sw
namespace Sw
open PySem PySem.Spec PyProof.Rows L2 PySem.Calls
variable [NmC]
section
variable {X:Cx} {Δ:List Md} {st:Ds} {a b c e o:Expr} {es:List Expr} {m ma mb mc:VM} {ra rb rc:Option D} {pos p apos cpos:Pos} {r rg:Rg}
def L5:PyData->Option D
 | .int i=>some (.int i)
 | .str x=>some (.str x)
 |_=>none
end
end Sw
namespace Sw
open PySem PySem.Spec PyProof.Rows L2
variable [NmC]
section
variable {α β γ:Type} {X:Cx} {E:Exits α β} {Δ:List Md} {st:Ds} {rest body:List Stmt} {a b:Expr} {pos:Pos} {r1 r2:Rg} {ra rb:Option D}
theorem ju {K:Frg} {O:Org} {σ:CS} {H:Hp} {G:Sa} {i:Nat} {d:D} {x:V} {r:Rg} (hr:r≠ .hb) (rel:Rel K O Δ st σ H G) (hi:i<Δ.length) (h:Rep K (rgn O G r) H d x):Rel K O (Δ.set i (mdR r)) (st.set i (some d)) (σ.set i (some x)) H G:=by
 cases r with
 |hb=>exact absurd rfl hr
 |bb=>exact rel.p6 (m:=.rg .bb) .refl hi rfl h
 |fz=>exact rel.p6 (m:=.rg .fz) .refl hi rfl h
end
end Sw
namespace Sw
open PySem PySem.Spec PyProof.Rows L2
variable [NmC]
section
variable {α β γ:Type} {X:Cx} {E:Exits α β} {Δ:List Md} {st:Ds} {rest body:List Stmt} {a b c e o:Expr} {es:List Expr} {pos apos p2:Pos} {r rg:Rg} {m ma mb mc:VM} {ra rb rc:Option D}
def chB (f f':D->D->Option Bool) (ra rb rc:Option D):Option Bool:=ra.bind fun x=>rb.bind fun y=>(f x y).bind fun k=>if k=true then rc.bind fun z=>f' y z else some false
theorem B1 {r2 r2':R2} {f f':D->D->Option Bool} (hf:Op2 X r2 ma mb (.rg .fz) (blD f)) (hf':Op2 X r2' mb mc (.rg .fz) (blD f')) {σ:CS} {H:Hp} {O:Org} {G:Sa} {k:Bool} {Q:VK}
  (rel:Rel X.K O Δ st σ H G) (er:chB f f' ra rb rc=some k) (q: ∀H' G',Ext H G H' G'->Q (.bl k) H'):tChain r2 r2' (rdE X.K Δ st ma ra) (rdE X.K Δ st mb rb) (rdE X.K Δ st mc rc) σ H Q:=by
 obtain⟨x,y,e1,e2,e3⟩:=bD er
 obtain⟨k1,e4,e5⟩:=bind1 e3
 refine rdE.go rel e1 fun v H1 G1 rel1 x1 v1=>rdE.go rel1 e2 fun w H2 G2 rel2 x2 v2=> ?_
 refine hf O H H2 G2 x y v w (.bl k1) _ (by unfold blD;rw[e4];rfl) (v1.mono x2) (v2.back x1) rel2.gin fun u H3 G3 x3 hu=> ?_
 refine⟨k1,hu.bl,?_⟩
 cases k1 with
 |false=>
  rw[if_neg Bool.false_ne_true] at e5⊢
  cases e5
  exact q H3 G3 (x1.trans (x2.trans x3))
 |true=>
  rw[if_pos rfl] at e5⊢
  obtain⟨z,e6,e7⟩:=bind1 e5
  refine rdE.go (rel2.ext x3) e6 fun t H4 G4 rel4 x4 v4=> ?_
  exact hf' O H1 H4 G4 y z w t (.bl k) _ (by unfold blD;rw[e7];rfl) ((v2.mono x3).mono x4) (v4.back (x2.trans x3)) rel4.gin fun u5 H5 G5 x5 hu5=>by
   rw[hu5.bl];exact q H5 G5 (x1.trans (x2.trans (x3.trans (x4.trans x5))))
theorem fM {op op':CmpOp} {r2 r2':R2} {f f':D->D->Option Bool} (ho:OpR X (compareOp op) r2) (hf:Op2 X r2 ma mb (.rg .fz) (blD f)) (ho':OpR X (compareOp op') r2') (hf':Op2 X r2' mb mc (.rg .fz) (blD f')) (ha:PX X Δ st a ma ra) (hb:PX X Δ st b mb rb) (hc:PX X Δ st c mc rc)
  (hm:lastMarks [op,op'] [b,c]=false:=by with_unfolding_all rfl):PTx X Δ st (.Compare a [op,op'] [b,c] pos) (chB f f' ra rb rc):=
 yq (pt_chain ho ho' ha hb hc hm) fun σ H Q ⟨O,G,t,rel,er,k⟩=>B1 hf hf' rel er fun H' G' x=>⟨t,rfl,k H' G' x⟩
theorem ug {x:Str} {z:Str} {pos:Pos} (hm: ∃t,X.mg x=some (.str z t)) (hg:Gl X x:=by rfl) (hd:(x==("__debug__" :Str))=false:=by decide):PX X Δ st (.Name x pos) (.rg rg) (some (.str z)):=by
 obtain⟨t,hm⟩:=hm
 exact bW (pe_glob hg hm (v:=.str z) ⟨t,rfl⟩ hd) fun σ H Q ⟨O,G,d,rel,er,k⟩=>by cases er;exact k _ H G .refl p8
def Dt (K:Frg) (mg:Str->Option Value) (x:Str) (zs:List Str):Prop:= ∃(p:Addr) (o:Obj) (its:Array Value) (n:Nat),mg x=some (.ref p)/\K.lookup p=some o/\o.cls= .type "tuple" /\o.data= .seq its n/\its.size<=sizeLine/\Vals (zs.map V.str) its.toList
theorem pN: ∀{its:List Value} {zs:List Str},its.map (fun v=>match v with| .str y _=>some y|_=>none)=zs.map some->Vals (zs.map V.str) its
 | [],[],_=>.nil
 | [],_::_,h=>by cases h
 |_::_,[],h=>by cases h
 |v::its,z::zs,h=>by
  rw[List.map_cons,List.map_cons] at h
  obtain⟨h1,h2⟩:=List.cons.inj h
  cases v <;> first|(cases h1;done)|skip
  rename_i y t
  cases h1
  exact .cons ⟨t,rfl⟩ (pN h2)
theorem Iv {K:Frg} {h:Heap} {mg:Str->Option Value} (KX:K.In h) (G:h.Ns mainGlobals mg) {x:Str} {zs:List Str} (c:yo K x zs=true):Dt K mg x zs:=by
 unfold yo at c
 split at c
 ·rename_i p hp
  split at c
  ·rename_i o ho
   rw[Bool.and_eq_true,decide_eq_true_eq] at c
   obtain⟨c1,c2⟩:=c
   split at c2
   ·rename_i its n hd
    rw[Bool.and_eq_true,decide_eq_true_eq,decide_eq_true_eq] at c2
    exact⟨p,o,its,n,PySem.W.mg_of KX G hp,ho,c1,hd,c2.1,pN c2.2⟩
   ·cases c2
  ·cases c
 ·cases c
def D.inG (neg:Bool) (zs:List Str) (x:D):Option Bool:=match x with
 | .str a=>some (if neg=true then !inV (.str a) (zs.map V.str) else inV (.str a) (zs.map V.str))
 |_=>none
theorem wL (zs:List Str):(zs.map V.str).all flatV=true:=by
 rw[List.all_eq_true]
 intro v hv
 obtain⟨z,_,rfl⟩:=List.mem_map.mp hv
 rfl
theorem FC {neg:Bool} {zs:List Str} {σ:CS} {H:Hp} {O:Org} {G:Sa} {k:Bool} {Q:VK} {p:Addr} (hq:SqT X.K (fun _=>none) p (zs.map V.str)) (rel:Rel X.K O Δ st σ H G) (er:b1 (D.inG neg zs) ra=some k) (q: ∀H' G',Ext H G H' G'->Q (.bl k) H'):
  tOp (rIn X.K neg) (rdE X.K Δ st (.rg r) ra) (tC (.ref p)) σ H Q:=by
 obtain⟨d,e1,e2⟩:=bind1 er
 cases d <;> first|(cases e2;done)|skip
 rename_i a
 cases (show some (if neg=true then !inV (.str a) (zs.map V.str) else inV (.str a) (zs.map V.str))=some k from e2)
 refine rdE.go rel e1 fun v H1 G1 rel1 x1 v1=> ?_
 rw[v1.str]
 refine⟨p,_,rfl,.inr ?_,rfl,wL zs,q H1 G1 x1⟩
 rcases hq with hq|hq
 ·exact (AU hq).elim
 ·exact .inr hq
theorem Dt.sq {K:Frg} {mg:Str->Option Value} {x:Str} {zs:List Str} (h:Dt K mg x zs): ∃p,mg x=some (.ref p)/\SqT K (fun _=>none) p (zs.map V.str):=by
 obtain⟨p,o,its,n,h1,h2⟩:=h
 exact⟨p,h1,.inr ⟨o,its,n,h2⟩⟩
theorem FD {x:Str} {zs:List Str} {gp:Pos} (h:Dt X.K X.mg x zs) (ha:PX X Δ st a (.rg r) ra) (hg:Gl X x:=by rfl) (hd:(x==("__debug__" :Str))=false:=by decide) (hm:behindInMarks .NotIn (.Name x gp)=false:=by rfl):PTx X Δ st (.Compare a [.NotIn] [.Name x gp] pos) (b1 (D.inG true zs) ra):=by
 obtain⟨p,h1,h2⟩:=h.sq
 exact yq (pt_cmpR op_notIn_seq ha (pe_glob hg h1 (v:=.ref p) rfl hd) hm) fun σ H Q ⟨O,G,t,rel,er,k⟩=>FC (neg:=true) h2 rel er fun H' G' x=>⟨t,rfl,k H' G' x⟩
def D.qb (neg:Bool) (x y:D):Option Bool:=match x,y with
 | .str a,.str z=>match a.cps.toList with
  | [c]=>some (if neg=true then !decide (c∈z.cps.toList) else decide (c∈z.cps.toList))
  |_=>none
 |_,_=>none
theorem B3 {neg:Bool} {x y:D} {k:Bool} (h:D.qb neg x y=some k): ∃(c:Nat) (z:Str),x= .str ⟨#[c]⟩/\y= .str z/\k=(if neg=true then !decide (c∈z.cps.toList) else decide (c∈z.cps.toList)):=by
 unfold D.qb at h
 split at h
 ·rename_i a z
  split at h
  ·rename_i c hc
   cases h
   obtain⟨⟨l⟩⟩:=a
   cases hc
   exact⟨c,z,rfl,rfl,rfl⟩
  ·cases h
 ·cases h
theorem wM:Op2 X (fun x y H Q=> ∃(c:Nat) (z:Str),x= .str ⟨#[c]⟩/\y= .str z/\Q (.bl (!decide (c∈z.cps.toList))) H) (.rg r) (.rg rg) (.rg .fz) (blD (D.qb true)):=fun O H0 H G x y v w d Q e hx hy _ k=>by
 obtain⟨t,e1,rfl⟩:=iP e
 obtain⟨c,z,rfl,rfl,rfl⟩:=B3 e1
 exact⟨c,z,hx.str,hy.str,k _ H G .refl mS⟩
def D.split (x y:D):Option D:=match x,y with
 | .str a,.str b=>if (b.length==0)=false/\a.length+2<=sizeLine then some (.lst ((Txt.split a b).map D.str)) else none
 |_,_=>none
theorem qQ (ho:PX X Δ st o (.rg r) ra) (he:PX X Δ st e (.rg rg) rb) (hs:starEach [e] X.env=[(false,eval e X.env)]:=by rfl) (hbase:attributeBase o "split" X.env (eval o X.env)=eval o X.env:=by rfl) (hline:(apos.endLine==pos.line)=true:=by rfl):
  PX X Δ st (.Call (.Attribute o "split" apos) [e] [] pos) (.nw (.ls .fz)) (b2 D.split ra rb):=bW (pe_split ho he hs hbase hline) fun σ H Q ⟨O,G,d,rel,er,k⟩=>by
 obtain⟨x,y,e1,e2,e3⟩:=bD er
 cases x <;> first|(cases e3;done)|skip
 cases y <;> first|(cases e3;done)|skip
 rename_i u w
 obtain⟨⟨h1,h2⟩,rfl⟩:=aH (show (if (w.length==0)=false/\u.length+2<=sizeLine then some (D.lst ((Txt.split u w).map D.str)) else none)=some d from e3)
 refine rdE.go rel e1 fun v H1 G1 rel1 x1 v1=>⟨⟨u,v1.str⟩,rdE.go rel1 e2 fun v' H2 G2 rel2 x2 v2=> ?_⟩
 exact⟨u,w,v1.str,by rw[v2.str],h1,h2,fun p hp=>k _ _ G2 ((x1.trans x2).trans (.new hp)) (bE.back (x1.trans x2) (rE hp rel2.gin (rK _)))⟩
def D.part (x y:D):Option D:=match x,y with
 | .str a,.str b=>if (b.length==0)=false/\a.length<=sizeLine then some (.tup [.str (Txt.partition a b).1,.str (Txt.partition a b).2.1,.str (Txt.partition a b).2.2]) else none
 |_,_=>none
theorem A8 (ho:PX X Δ st o (.rg r) ra) (he:PX X Δ st e (.rg rg) rb) (hs:starEach [e] X.env=[(false,eval e X.env)]:=by rfl) (hbase:attributeBase o "partition" X.env (eval o X.env)=eval o X.env:=by rfl) (hline:(apos.endLine==pos.line)=true:=by rfl):
  PX X Δ st (.Call (.Attribute o "partition" apos) [e] [] pos) (.rg .fz) (b2 D.part ra rb):=bW (pe_partition ho he hs hbase hline) fun σ H Q ⟨O,G,d,rel,er,k⟩=>by
 obtain⟨x,y,e1,e2,e3⟩:=bD er
 cases x <;> first|(cases e3;done)|skip
 cases y <;> first|(cases e3;done)|skip
 rename_i u w
 obtain⟨⟨h1,h2⟩,rfl⟩:=aH (show (if (w.length==0)=false/\u.length<=sizeLine then some (D.tup [.str (Txt.partition u w).1,.str (Txt.partition u w).2.1,.str (Txt.partition u w).2.2]) else none)=some d from e3)
 refine rdE.go rel e1 fun v H1 G1 rel1 x1 v1=>⟨⟨u,v1.str⟩,rdE.go rel1 e2 fun v' H2 G2 rel2 x2 v2=> ?_⟩
 refine⟨u,w,v1.str,by rw[v2.str],h1,h2,fun p hp=>k _ _ _ ((x1.trans x2).trans (.Ff hp)) ?_⟩
 unfold bE Rep
 exact⟨p,_,rfl,⟨.inr rfl,upd_same⟩,.cons (by unfold Rep;rfl) (.cons (by unfold Rep;rfl) (.cons (by unfold Rep;rfl) .nil))⟩
def D.rL:D->Option D
 | .int i=>if i.natAbs.log2<1920 then some (.str (toString i)) else none
 |_=>none
theorem z0:OpN X (fun xs H Q=> ∃i,xs=[.int i]/\i.natAbs.log2<1920/\Q (.str (toString i)) H) [.rg r] (.rg rg) (un1 D.rL):=fun O H0 H G xs vs d Q e hv gin k=>by
 obtain⟨x,rfl,e1⟩:=mT e
 obtain⟨v,rfl,h1⟩:=zX hv
 cases x <;> first|(cases e1;done)|skip
 rename_i i
 obtain⟨h2,rfl⟩:=aH (show (if i.natAbs.log2<1920 then some (D.str (toString i)) else none)=some d from e1)
 exact⟨i,by rw[h1.int],h2,k _ H G .refl p8⟩
def D.qR:D->Option D
 | .str a=>if a.length<=640 then (PySem.intText? a).map D.int else none
 |_=>none
theorem z8:OpN X (fun xs H Q=> ∃a n,xs=[.str a]/\PySem.intText? a=some n/\a.length<=640/\Q (.int n) H) [.rg r] (.rg rg) (un1 D.qR):=fun O H0 H G xs vs d Q e hv gin k=>by
 obtain⟨x,rfl,e1⟩:=mT e
 obtain⟨v,rfl,h1⟩:=zX hv
 cases x <;> first|(cases e1;done)|skip
 rename_i a
 have e1:(if a.length<=640 then (PySem.intText? a).map D.int else none)=some d:=e1
 by_cases z:a.length<=640
 ·rw[if_pos z] at e1
  cases q:PySem.intText? a with
  |none=>rw[q] at e1;cases e1
  |some n=>
   rw[q] at e1;cases e1
   exact⟨a,n,by rw[h1.str],q,z,k _ H G .refl kH⟩
 ·rw[if_neg z] at e1;cases e1
end
end Sw
namespace Sw
open PySem PySem.Spec PyProof.Rows L2
variable [NmC]
section
variable {α β γ δ:Type} {X:Cx} {E:Exits α β} {Δ:List Md} {st:Ds} {rest body orelse:List Stmt} {e:Expr} {pos:Pos} {r:Rg} {ra:Option D} {tg:Expr}
def D.pr3:D->Option (D×D×D)
 | .tup [a,b,c]=>some (a,b,c)
 |_=>none
def D.pr5:D->Option (D×D×D×D×D)
 | .tup [a,b,c,d,e]=>some (a,b,c,d,e)
 |_=>none
theorem A9 (i j l:Nat) (Δ':List Md) (st':D×D×D->Ds) {k:D×D×D->Option (Out α β)} (he:PX X Δ st e (.rg r) ra) (hr:r≠ .hb) (hg:PG X tg (gTup X.K 3 (gCons (gName i) (gCons (gName j) (gCons (gName l) gNil))))) (h: ∀d,Blk X E Δ' (st' d) rest (k d))
  (e1:((Δ.set i (mdR r)).set j (mdR r)).set l (mdR r)=Δ':=by rfl) (e2: ∀d:D×D×D,((st.set i (some d.1)).set j (some d.2.1)).set l (some d.2.2)=st' d:=by intro _;rfl) (hi:i<Δ.length:=by exact Nat.le_of_ble_eq_true rfl) (hj:j<Δ.length:=by exact Nat.le_of_ble_eq_true rfl) (hl:l<Δ.length:=by exact Nat.le_of_ble_eq_true rfl)
  (hs1:swapsWithSole [tg] e pos.line X.env=pure false:=by rfl) (hw:swappedStores [tg] e X.env=pure none:=by rfl) (h1:(assignEach [tg] X.env).map (·.2)=[assign tg X.env]:=by rfl):
  Blk X E Δ st (.Assign [tg] e pos::rest) ((b1 D.pr3 ra).bind k):=by
 refine cY (pss_cons (ps_asg he hg hs1 hw h1) (fY h)) fun De σ H ⟨O,G,qq,rel,er,kk⟩=> ?_
 obtain⟨p,e3,e4⟩:=bind1 er
 obtain⟨x,e5,e6⟩:=bind1 e3
 refine rdE.go rel e5 fun v H1 G1 rel1 x1 v1=> ?_
 have hp:x= .tup [p.1,p.2.1,p.2.2]:=by
  match x,e6 with
  | .tup [a,b,c],e6=>cases e6;rfl
 subst hp
 have v1:Rep X.K (rgn O G1 r) H1 (.tup [p.1,p.2.1,p.2.2]) v:=v1
 unfold Rep at v1
 obtain⟨a,vs,rfl,t,rr⟩:=v1
 unfold aC at rr
 obtain⟨u,vs0,rfl,r1,rr⟩:=rr
 unfold aC at rr
 obtain⟨w,vs1,rfl,r2,rr⟩:=rr
 unfold aC at rr
 obtain⟨z,vs2,rfl,r3,rr⟩:=rr
 unfold aC at rr
 subst rr
 refine⟨a,[u,w,z],rfl,t.sq,rfl,u,[w,z],rfl,w,[z],rfl,z,[],rfl,rfl,p,O,G1,qq,?_,e4,kk⟩
 rw[<-e1,←e2]
 exact ju hr (ju hr (ju hr rel1 hi r1) (by simpa using hj) r2) (by simpa using hl) r3
theorem Ba (i j l m n:Nat) (Δ':List Md) (st':D×D×D×D×D->Ds) {k:D×D×D×D×D->Option (Out α β)} (he:PX X Δ st e (.rg r) ra) (hr:r≠ .hb) (hg:PG X tg (gTup X.K 5 (gCons (gName i) (gCons (gName j) (gCons (gName l) (gCons (gName m) (gCons (gName n) gNil))))))) (h: ∀d,Blk X E Δ' (st' d) rest (k d))
  (e1:((((Δ.set i (mdR r)).set j (mdR r)).set l (mdR r)).set m (mdR r)).set n (mdR r)=Δ':=by rfl) (e2: ∀d:D×D×D×D×D,((((st.set i (some d.1)).set j (some d.2.1)).set l (some d.2.2.1)).set m (some d.2.2.2.1)).set n (some d.2.2.2.2)=st' d:=by intro _;rfl) (hi:i<Δ.length:=by exact Nat.le_of_ble_eq_true rfl) (hj:j<Δ.length:=by exact Nat.le_of_ble_eq_true rfl) (hl:l<Δ.length:=by exact Nat.le_of_ble_eq_true rfl) (hm:m<Δ.length:=by exact Nat.le_of_ble_eq_true rfl) (hn:n<Δ.length:=by exact Nat.le_of_ble_eq_true rfl)
  (hs1:swapsWithSole [tg] e pos.line X.env=pure false:=by rfl) (hw:swappedStores [tg] e X.env=pure none:=by rfl) (h1:(assignEach [tg] X.env).map (·.2)=[assign tg X.env]:=by rfl):
  Blk X E Δ st (.Assign [tg] e pos::rest) ((b1 D.pr5 ra).bind k):=by
 refine cY (pss_cons (ps_asg he hg hs1 hw h1) (fY h)) fun De σ H ⟨O,G,qq,rel,er,kk⟩=> ?_
 obtain⟨p,e3,e4⟩:=bind1 er
 obtain⟨x,e5,e6⟩:=bind1 e3
 refine rdE.go rel e5 fun v H1 G1 rel1 x1 v1=> ?_
 have hp:x= .tup [p.1,p.2.1,p.2.2.1,p.2.2.2.1,p.2.2.2.2]:=by
  match x,e6 with
  | .tup [a,b,c,d,e],e6=>cases e6;rfl
 subst hp
 have v1:Rep X.K (rgn O G1 r) H1 (.tup [p.1,p.2.1,p.2.2.1,p.2.2.2.1,p.2.2.2.2]) v:=v1
 unfold Rep at v1
 obtain⟨a,vs,rfl,t,rr⟩:=v1
 unfold aC at rr
 obtain⟨u,vs0,rfl,r1,rr⟩:=rr
 unfold aC at rr
 obtain⟨w,vs1,rfl,r2,rr⟩:=rr
 unfold aC at rr
 obtain⟨z,vs2,rfl,r3,rr⟩:=rr
 unfold aC at rr
 obtain⟨y,vs3,rfl,r4,rr⟩:=rr
 unfold aC at rr
 obtain⟨q,vs4,rfl,r5,rr⟩:=rr
 unfold aC at rr
 subst rr
 refine⟨a,[u,w,z,y,q],rfl,t.sq,rfl,u,[w,z,y,q],rfl,w,[z,y,q],rfl,z,[y,q],rfl,y,[q],rfl,q,[],rfl,rfl,p,O,G1,qq,?_,e4,kk⟩
 rw[<-e1,←e2]
 exact ju hr (ju hr (ju hr (ju hr (ju hr rel1 hi r1) (by simpa using hj) r2) (by simpa using hl) r3) (by simpa using hm) r4) (by simpa using hn) r5
end
section
variable {X:Cx} {Δ:List Md} {st:Ds} {a b c d e:Expr} {pos:Pos}
theorem Bb {x1:Nat} {ra rb rc rd:Option D} (h:PAx X Δ st [a,b,c,d] [.rg .fz,.rg .fz,.rg .fz,.rg .fz] (aj ra (aj rb (aj rc (aj rd aI))))):PX X Δ st (.Tuple [a,b,c,d] x1 pos) (.rg .fz) (tupO (aj ra (aj rb (aj rc (aj rd aI))))):=wD h wI (by simp) fun ds e=>by
 obtain⟨x,y,e1,e2,e3⟩:=bD e
 obtain⟨z,w,e4,e5,e6⟩:=bD e2
 obtain⟨u,v,e7,e8,e9⟩:=bD e5
 obtain⟨p,q,f1,f2,f3⟩:=bD e8
 cases f2;cases f3;cases e9;cases e6;cases e3;simp
theorem lU {x1:Nat} {ra rb rc rd re:Option D} (h:PAx X Δ st [a,b,c,d,e] [.rg .fz,.rg .fz,.rg .fz,.rg .fz,.rg .fz] (aj ra (aj rb (aj rc (aj rd (aj re aI)))))):PX X Δ st (.Tuple [a,b,c,d,e] x1 pos) (.rg .fz) (tupO (aj ra (aj rb (aj rc (aj rd (aj re aI)))))):=wD h Dd (by simp) fun ds e=>by
 obtain⟨x,y,e1,e2,e3⟩:=bD e
 obtain⟨z,w,e4,e5,e6⟩:=bD e2
 obtain⟨u,v,e7,e8,e9⟩:=bD e5
 obtain⟨p,q,f1,f2,f3⟩:=bD e8
 obtain⟨g,h,g1,g2,g3⟩:=bD f2
 cases g2;cases g3;cases f3;cases e9;cases e6;cases e3;simp
end
def SaysX (fa:List He.Fa) (fn:List He.DefD) (tp:List (Str×List Str)) (K:PySem.W.Frag):Prop:=He.SaysD fa fn K/\(tp.all fun p=>yo K p.1 p.2)=true
theorem SaysX.tup {fa:List He.Fa} {fn:List He.DefD} {tp:List (Str×List Str)} {K:PySem.W.Frag} (c:SaysX fa fn tp K) (i:Nat) {x:Str} {zs:List Str} (h:tp[i]? =some (x,zs):=by rfl):yo K x zs=true:=List.all_eq_true.mp c.2 _ (List.mem_of_getElem? h)
end Sw
namespace Sw
open PySem PySem.Spec PyProof.Rows L2
variable [NmC]
section
variable {α β γ:Type} {X:Cx} {E:Exits α β} {Δ:List Md} {st:Ds} {rest body:List Stmt} {a b c e o:Expr} {es:List Expr} {pos apos cpos:Pos} {r rg:Rg} {m ma mb mc:VM} {ra rb rc:Option D}
theorem FE:OpR X (binaryOp .Mult) (fun x y H Q=> ∃(a:Str) (i:Int),x= .str a/\y= .int i/\MulOk a i/\Q (.str (Txt.mul a i)) H):=by
 intro pins s σ H x y v u Q I rx ry h
 obtain⟨a,i,rfl,rfl,ok,q⟩:=h
 obtain⟨t,rfl⟩:=rx
 obtain⟨t',rfl⟩:=ry
 exact SB.mul ok fun t2 k=>⟨.str _,H,I.tok _,⟨_,rfl⟩,q⟩
noncomputable def D.wN (x y:D):Option D:=match x,y with
 | .str a,.int i=>cif (MulOk a i) (.str (Txt.mul a i))
 |_,_=>none
theorem Iw:Op2 X (fun x y H Q=> ∃(a:Str) (i:Int),x= .str a/\y= .int i/\MulOk a i/\Q (.str (Txt.mul a i)) H) (.rg r) (.rg r') (.rg rg) D.wN:=fun O H0 H G x y v w d Q e hx hy _ k=>by
 cases x <;> first|(cases e;done)|skip
 cases y <;> first|(cases e;done)|skip
 rename_i a i
 obtain⟨ok,rfl⟩:=oQ (show cif (MulOk a i) (D.str (Txt.mul a i))=some d from e)
 exact⟨a,i,hx.str,hy.int,ok,k _ H G .refl p8⟩
def D.z9:D->Option D
 | .bl k=>some (.int (if k then 1 else 0))
 |_=>none
theorem Iy:OpN X (fun xs H Q=>(∃i,xs=[.int i]/\Q (.int i) H)\/ ∃k,xs=[.bl k]/\Q (.int (if k then 1 else 0)) H) [.rg r] (.rg rg) (un1 D.z9):=fun O H0 H G xs vs d Q e hv gin k=>by
 obtain⟨x,rfl,e1⟩:=mT e
 obtain⟨v,rfl,h1⟩:=zX hv
 cases x <;> first|(cases e1;done)|skip
 rename_i t
 cases (show some (D.int (if t then 1 else 0))=some d from e1)
 exact .inr ⟨t,by rw[h1.bl],k _ H G .refl kH⟩
end
end Sw
namespace Sw
open PySem PySem.Spec PyProof.Rows L2
variable [NmC]
section
variable {α β γ:Type}
theorem jf {A B:Type} {o:Option A} {f:A->B} {b:B} (h:o.map f=some b): ∃a,o=some a/\f a=b:=by
 cases o with
 |none=>cases h
 |some a=>exact⟨a,rfl,Option.some.inj h⟩
variable {X:Cx} {E:Exits α β} {Δ Dl:List Md} {st:Ds} {rest body:List Stmt} {pos p p1:Pos} {x y:Str} {i j:Nat} {md mi:Md} {s:Sh}
end
end Sw
namespace Sw
open PySem PySem.Spec PyProof.Rows L2
variable [NmC]
theorem Du {m:Nat} (h1: ∀j,j<=m-> ∃a,a<=m/\lcgN m a=j) (h2:lcgN m (m+1)=0) {i j:Nat} (hi:i<=m) (hj:j<=m): ∃k,k<=m/\lcgI m i k=j:=by
 have per: ∀k,lcgN m (m+1+k)=lcgN m k:=fun k=>by
  induction k with
  |zero=>exact h2
  |succ k ih=>
   show (lcgN m (m+1+k)*5+1)%(m+1)=(lcgN m k*5+1)%(m+1)
   rw[ih]
 obtain⟨u,hu,eu⟩:=h1 i hi
 obtain⟨v,hv,ev⟩:=h1 j hj
 subst eu
 by_cases c:u<=v
 ·refine⟨v -u,by omega,?_⟩
  rw[lcgN_add,show u+(v -u)=v by omega,ev]
 ·refine⟨m+1+v -u,by omega,?_⟩
  rw[lcgN_add,show u+(m+1+v -u)=m+1+v by omega,per,ev]
theorem Bc {n:Nat} (h:((List.range (n+1)).all fun j=>(List.range (n+1)).any fun b=>lcgN n b==j)=true): ∀j,j<=n-> ∃a,a<=n/\lcgN n a=j:=fun j hj=>by
 rw[List.all_eq_true] at h
 have g:=h j (List.mem_range.mpr (by omega))
 rw[List.any_eq_true] at g
 obtain⟨b,hb,e⟩:=g
 exact⟨b,by have:=List.mem_range.mp hb;omega,by simpa using e⟩
def lV (m:Nat):Prop:=m=7\/m=15\/m=31\/m=63\/m=127
theorem cyc {m:Nat} (hm:lV m) {i j:Nat} (hi:i<=m) (hj:j<=m): ∃k,k<=m/\lcgI m i k=j:=by
 rcases hm with e|e|e|e|e <;> subst e
 ·exact lcgI_all (.inl rfl) hi hj
 ·exact Du (Bc (by decide+kernel)) (by decide+kernel) hi hj
 ·exact lcgI_all (.inr (.inl rfl)) hi hj
 ·exact Du (Bc (by decide+kernel)) (by decide+kernel) hi hj
 ·exact lcgI_all (.inr (.inr rfl)) hi hj
theorem Iz {m:Nat} (hm:lV m) (h:Int) {j:Nat} (hj:j<=m): ∃n,n<SetTable.turns m/\runI m (SetTable.bits h) n=j:=by
 obtain⟨k,hk,e⟩:=cyc hm (runI_le m (SetTable.bits h) 12) hj
 refine⟨12+k,?_,?_⟩
 ·unfold SetTable.turns;omega
 ·rw[runI_tail (bits_lt h),e]
theorem yH (m:Nat) (owner:Array (Option Nat)): ∀(f n i b:Nat),n<f->oAt owner (itL m i b n).1=none-> ∃j,SetTable.layClean.free m owner f i b=some j/\oAt owner j=none
 |0,n,i,b,hn,_=>by omega
 |f+1,n,i,b,hn,hx=>by
  rw[free_succ]
  cases e:(List.range (SetTable.runEnd m i+1 -i)).find? fun k=>(oAt owner (i+k)).isNone with
  |some k=>
   refine⟨i+k,rfl,?_⟩
   have:=List.find?_some e
   simpa using this
  |none=>
   cases n with
   |zero=>
    exfalso
    have h0:0∈List.range (SetTable.runEnd m i+1 -i):=List.mem_range.mpr (by have:=runEnd_ge m i;omega)
    have:=List.find?_eq_none.mp e 0 h0
    apply this
    show (oAt owner (i+0)).isNone=true
    rw[Nat.add_zero,show oAt owner i=none from hx];rfl
   |succ n=>
    exact yH m owner f n _ _ (by omega) hx
structure wO (m:Nat) (n:Nat) (owner:Array (Option Nat)) (ps:List Nat):Prop where
 sz:owner.size=m+1
 nd:ps.Nodup
 len:ps.length=n
 tk: ∀j,j∈ps↔j<=m/\oAt owner j≠none
 lt: ∀j k,j<=m->oAt owner j=some k->k<n
 all: ∀k,k<n-> ∃j,j<=m/\oAt owner j=some k
theorem wO.zero (m:Nat):wO m 0 (Array.replicate (m+1) none) [] where
 sz:=by simp
 nd:=List.nodup_nil
 len:=rfl
 tk:=fun j=>⟨fun h=>(by cases h),fun⟨h,g⟩=>absurd (oAt_init h) g⟩
 lt:=fun j k h e=>by rw[oAt_init h] at e;cases e
 all:=fun k h=>by omega
theorem IA {m:Nat} {owner:Array (Option Nat)} (hs:owner.size=m+1) {j:Nat} (h:oAt owner j=none):j<=m:=by
 by_cases c:j<owner.size
 ·omega
 ·exfalso
  have:owner.getD j (some 0)=some 0:=by simp[Array.getD,c]
  rw[show owner.getD j (some 0)=none from h] at this
  cases this
theorem wO.next {m n:Nat} {owner:Array (Option Nat)} {ps:List Nat} (hm:lV m) (S:wO m n owner ps) (hn:n<=m) (h:Int):
  ∃j,SetTable.layClean.free m owner (SetTable.turns m) (SetTable.bits h%(m+1)) (SetTable.bits h)=some j/\ ∃ps',wO m (n+1) (owner.setIfInBounds j (some n)) ps':=by
 obtain⟨q,hq,hnq⟩:=st_missing ps (m+1) (by rw[S.len];omega)
 have fq:oAt owner q=none:=by
  cases e:oAt owner q with
  |none=>rfl
  |some k=>exact absurd ((S.tk q).mpr ⟨by omega,by rw[e];exact fun z=>nomatch z⟩) hnq
 obtain⟨r,hr,er⟩:=Iz hm h (j:=q) (by omega)
 have ei:(itL m (SetTable.bits h%(m+1)) (SetTable.bits h) r).1=q:=by rw[itL_run];exact er
 obtain⟨j,e1,e2⟩:=yH m owner (SetTable.turns m) r _ _ hr (by rw[ei];exact fq)
 have hj:=IA S.sz e2
 have hjs:j<owner.size:=by rw[S.sz];omega
 have hnj:j∉ps:=fun z=>((S.tk j).mp z).2 e2
 refine⟨j,e1,j::ps,?_⟩
 exact {
  sz:=by rw[Array.size_setIfInBounds];exact S.sz
  nd:=List.nodup_cons.mpr ⟨hnj,S.nd⟩
  len:=by rw[List.length_cons,S.len]
  tk:=fun i=>by
   by_cases c:i=j
   ·subst c
    rw[oAt_set_self _ hjs]
    simp[hj]
   ·rw[oAt_set_ne _ c,List.mem_cons,S.tk i]
    exact⟨fun z=>z.resolve_left c,.inr⟩
  lt:=fun i k hi e=>by
   by_cases c:i=j
   ·subst c
    rw[oAt_set_self _ hjs] at e
    cases e;omega
   ·rw[oAt_set_ne _ c] at e
    have:=S.lt i k hi e;omega
  all:=fun k hk=>by
   by_cases c:k=n
   ·subst c
    exact⟨j,hj,oAt_set_self _ hjs⟩
   ·obtain⟨i,hi,e⟩:=S.all k (by omega)
    refine⟨i,hi,?_⟩
    rw[oAt_set_ne _ (fun z=>by rw[z,e2] at e;cases e)];exact e}
theorem yI {m:Nat} (hm:lV m): ∀(hs:List Int) (n:Nat) (owner:Array (Option Nat)) (ps:List Nat),wO m n owner ps->n+hs.length<=m→
  ∃owner' ps',hs.foldl (stepF m) (some (owner,n))=some (owner',n+hs.length)/\wO m (n+hs.length) owner' ps'
 | [],n,owner,ps,S,_=>⟨owner,ps,rfl,S⟩
 |h::hs,n,owner,ps,S,hl=>by
  rw[List.length_cons] at hl
  obtain⟨j,e1,ps',S'⟩:=S.next hm (by omega) h
  obtain⟨o2,ps2,e2,S2⟩:=yI hm hs (n+1) _ ps' S' (by omega)
  refine⟨o2,ps2,?_,?_⟩
  ·rw[List.foldl_cons,stepF_some e1,e2,List.length_cons]
   congr 2;omega
  ·rw[List.length_cons,show n+(hs.length+1)=n+1+hs.length by omega]
   exact S2
theorem IB {m:Nat} (hm:lV m) {hs:Array Int} (hn:hs.size<=m): ∃owner ps,SetTable.layClean m hs=some owner/\wO m hs.size owner ps:=by
 obtain⟨o,ps,e,S⟩:=yI hm hs.toList 0 _ [] (wO.zero m) (by rw[Array.length_toList];omega)
 rw[Nat.zero_add,Array.length_toList] at e S
 refine⟨o,ps,?_,S⟩
 rw[layClean_eq,e];rfl
theorem Be {m:Nat} (hm:lV m) (fg mv:Nat) (ld pl:Bool) {hs:Array Int} (hn:hs.size<=m):
  ∃t order,SetTable.laid m fg mv ld pl hs=some (t,order)/\order.toList.Perm (List.range hs.size)/\t.fits hs.size=true/\Ris t.place.toList/\t.led=ld/\t.mask=m/\t.dummies= #[]:=by
 obtain⟨owner,ps,e,S⟩:=IB hm hn
 have el:SetTable.laid m fg mv ld pl hs=some (({mask:=m,place:=((liveOf m owner).map (·.1)).toArray,dummies:= #[],finger:=fg,led:=ld,moves:=mv,plain:=pl}:SetTable),((liveOf m owner).map (·.2)).toArray):=by
  unfold SetTable.laid
  rw[e];rfl
 have rs:=ris_live (fun j=>owner.getD j none) (List.range (m+1)) (by unfold Ris;exact List.pairwise_lt_range)
 have r1:Ris ((liveOf m owner).map (·.1)):=rs.1
 have n1:((liveOf m owner).map (·.1)).Nodup:=List.Pairwise.imp (fun {a b} h=>Nat.ne_of_lt h) r1
 have m1: ∀j,j∈(liveOf m owner).map (·.1)↔j∈ps:=fun j=>by
  rw[S.tk j,List.mem_map]
  constructor
  ·rintro⟨⟨j',k⟩,h1,rfl⟩
   obtain⟨h2,h3⟩:=(mem_live S.sz).mp h1
   exact⟨h2,by show oAt owner j'≠none;rw[h3];exact fun z=>nomatch z⟩
  ·rintro⟨h1,h2⟩
   cases q:oAt owner j with
   |none=>exact absurd q h2
   |some k=>exact⟨(j,k),(mem_live S.sz).mpr ⟨h1,q⟩,rfl⟩
 have len:(liveOf m owner).length=hs.size:=by
  have p:=(List.perm_ext_iff_of_nodup n1 S.nd).mpr m1
  have:=p.length_eq
  rw[List.length_map,S.len] at this
  exact this
 refine⟨_,_,el,?_,?_,r1,rfl,rfl,rfl⟩
 ·refine perm_range _ _ (by rw[List.length_map];exact len) fun k hk=> ?_
  obtain⟨j,hj,ej⟩:=S.all k hk
  exact List.mem_map.mpr ⟨(j,k),(mem_live S.sz).mpr ⟨hj,ej⟩,rfl⟩
 ·unfold SetTable.fits SetTable.fill
  rw[Bool.and_eq_true]
  refine⟨by simp[len],?_⟩
  simp[len,hn]
theorem uh {α:Type} (es:Array α) {order:Array Nat} (h:order.toList.Perm (List.range es.size)):(order.filterMap (es[·]?)).toList.Perm es.toList:=by
 rw[Array.toList_filterMap]
 refine (h.filterMap _).trans ?_
 have e:(fun i:Nat=>es[i]?)=fun i:Nat=>es.toList[i]? :=by funext i;rw[Array.getElem?_toList]
 rw[e,←Array.length_toList,List.filterMap_getElem?_range_length]
theorem Dw: ∀n,n<=40->lV (SetTable.sizeAbove (n*2) -1)/\n*2<=SetTable.sizeAbove (n*2) -1/\SetTable.sizeAbove (n*2)<=128:=by
 intro n h1
 have key: ∀n∈List.range 41,lV (SetTable.sizeAbove (n*2) -1)/\n*2<=SetTable.sizeAbove (n*2) -1/\SetTable.sizeAbove (n*2)<=128:=by
  unfold lV
  decide+kernel
 exact key n (List.mem_range.mpr (by omega))
end Sw
namespace Sw
open PySem PySem.Spec PyProof.Rows L2
variable [NmC]
def pJ (e:Int×Value):Str:=match e.2 with
 | .str x _=>x
 |_=>""
def sU (w:World) (e:Int×Value):Prop:= ∃x tk,e.2=Value.str x tk/\e.1=keyH w (.inr x)
structure aX (w:World) (h:Heap) (a:Addr) (es:Array (Int×Value)) (ep:Nat) (t:SetTable) (ks:List Str):Prop where
 ob: ∃o,h.get? a=some o/\o.ExactSet/\o.data= .set es ep t
 rows: ∀e∈es.toList,sU w e
 keys:(es.toList.map pJ).Perm ks
 nd:ks.Nodup
 few:ks.length<1000
 fits:t.fits es.size=true
 ris:Ris t.place.toList
 led:w.params.followText "set-order" =true\/t.led=true
section
variable {P:Program} {w:World} {A:Around} {E:Value->Shared->Prop} {s:Shared} {a:Addr} {es:Array (Int×Value)} {ep:Nat} {t:SetTable} {ks:List Str}
theorem aX.size {h:Heap} (R:aX w h a es ep t ks):es.size=ks.length:=by
 rw[<-R.keys.length_eq,List.length_map,Array.length_toList]
theorem aX.lt {h:Heap} (R:aX w h a es ep t ks):es.size<scanBound:=by
 rw[R.size];have:=R.few;unfold scanBound;omega
theorem sU.elems {l:List (Int×Value)} (h: ∀e∈l,sU w e):ElemsOf (mixKind P w) l:=fun e he=>by
 obtain⟨x,tk,h1,h2⟩:=h e he
 refine⟨⟨.inr x,?_,h2⟩,?_⟩
 ·rw[h1];exact mixKind_str P w x tk
 ·rw[h1];rfl
theorem sU.is {e:Int×Value} (h:sU w e) (x:Str):(mixKind P w).is (.inr x) e.2=true↔pJ e=x:=by
 obtain⟨y,tk,h1,_⟩:=h
 have hy:(mixKind P w).is (.inr y) e.2=true:=by rw[h1];exact mixKind_str P w y tk
 have er:pJ e=y:=by unfold pJ;rw[h1]
 rw[er]
 constructor
 ·intro q
  have:=(mixKind P w).inj e.2 _ _ q hy
  exact (Sum.inr.inj this).symm
 ·rintro rfl;exact hy
theorem aX.at {h h':Heap} (R:aX w h a es ep t ks) (k: ∀o,h.get? a=some o->h'.get? a=some o):aX w h' a es ep t ks:=by
 obtain⟨⟨o,ho,r⟩,r2,r3,r4,r5,r6,r7,r8⟩:=R
 exact⟨⟨o,k o ho,r⟩,r2,r3,r4,r5,r6,r7,r8⟩
theorem aX.store (R:aX w s.heap a es ep t ks) {es2:Array (Int×Value)} {t2:SetTable} {js:List Str} (g1: ∀e∈es2.toList,sU w e) (g2:(es2.toList.map pJ).Perm js) (g3:js.Nodup) (g4:js.length<1000) (g5:t2.fits es2.size=true) (g6:Ris t2.place.toList) (g7:w.params.followText "set-order" =true\/t2.led=true)
  {Q:Unit->Shared->Prop} (hQ: ∀h' ep2,Heap.SameBut a s.heap h'->aX w h' a es2 ep2 t2 js->Q () {s with heap:=h'}):wpAny (model P w) A (storeSet a es2 t2) Q E s:=by
 obtain⟨⟨o,ho,hex,hd⟩,_⟩:=R
 have hsz:es2.size<scanBound:=by
  have:es2.size=js.length:=by rw[<-g2.length_eq,List.length_map,Array.length_toList]
  rw[this];unfold scanBound;omega
 exact wpAny_storeSet_of ho hd (hQ _ (ep+1) (Heap.SameBut.update _ a _) ⟨⟨_,store_at ho hd,hex,rfl⟩,g1,g2,g3,g4,g5,g6,g7⟩) (fits_of_scanBound hsz)
theorem aX.state (R:aX w s.heap a es ep t ks) {Q:(Array (Int×Value)×Nat×SetTable)->Shared->Prop} (hQ:Q (es,ep,t) s):wpAny (model P w) A (setState a) Q E s:=by
 obtain⟨⟨o,ho,_,hd⟩,_,_,_,_,hf,_⟩:=R
 exact wpAny_setState_of ho hd hf hQ
def FF (b:Bool):Sem Unit:=match b with
 |true=>rule "set.scan.the-table-gave-way"
 |false=>pure ()
theorem Bf {b:Bool} {s1:Shared} {Q:Unit->Shared->Prop} (q:Q () s1):wpAny (model P w) A (FF b) Q E s1:=by
 cases b with
 |true=>exact wpAny_rule q
 |false=>exact wpAny_pure q
theorem wQ (a:Addr) (x:Value) (h:Int) (es:Array (Int×Value)) (t:SetTable):setAddByScan a x h es t=(do
  rule "set.add.by-scan"
  match<-setScan a x h true es with
  | .found _=>return some false
  | .anew=>return none
  | .absent=>pure ()
  let Z:=layNew t es h x
  FF Z.2.2.2
  let byValue<-if Z.2.1.plain then hashByValue 8 x else pure true
  let t2:=if byValue then Z.2.1 else {Z.2.1 with plain:=false}
  storeSet a Z.1 t2
  if !Z.2.2.1&&t2.tooFull then
   let Y:=relayAll t2 Z.1 (SetTable.grown Z.1.size)
   FF Y.2.2
   storeSet a Y.1 Y.2.1
  return some true):=by rfl
theorem aX.add (R:aX w s.heap a es ep t ks) (x:Str) (tk:Tok) (room:ks.length+1<1000) {Q:Bool->Shared->Prop}
  (hQ: ∀b h' es2 ep2 t2,Heap.SameBut a s.heap h'->aX w h' a es2 ep2 t2 (if x∈ks then ks else x::ks)->Q b {s with heap:=h'}):wpAny (model P w) A (setAddHashed a (.str x tk) (keyH w (.inr x))) Q E s:=by
 have hel:ElemsOf (mixKind P w) es.toList:=sU.elems R.rows
 have hkey:(mixKind P w).is (.inr x) (.str x tk)=true:=mixKind_str P w x tk
 obtain⟨o,ho,hex,hd⟩:=R.ob
 unfold setAddHashed
 refine wpAny_holding ?_
 unfold setAddHashedIn
 refine wpAny_bind (R.state ?_)
 show wpAny _ _ (if byScan (.str x tk) es=true then _ else _) _ _ _
 rw[if_pos (byScan_of rfl R.lt hel),wQ]
 refine wpAny_bind (wpAny_bind (wpAny_rule (wpAny_bind (wpAny_setScan_of hkey ho hd R.fits hel ?_))))
 cases hf:es.toList.findIdx? (fun e=>(mixKind P w).is (.inr x) e.2) with
 |some j=>
  obtain⟨hj,pj,_⟩:=List.findIdx?_eq_some_iff_getElem.mp hf
  have hx:x∈ks:=R.keys.mem_iff.mp (List.mem_map.mpr ⟨_,List.getElem_mem hj,(sU.is (P:=P) (R.rows _ (List.getElem_mem hj)) x).mp pj⟩)
  have q:=hQ false s.heap es ep t (Heap.SameBut.refl a s.heap) (by rw[if_pos hx];exact R)
  exact wpAny_pure (wpAny_pure q)
 |none=>
  have hx:x∉ks:=fun z=>by
   obtain⟨e,he,q⟩:=List.mem_map.mp (R.keys.mem_iff.mpr z)
   have:=List.findIdx?_eq_none_iff.mp hf e he
   rw[(sU.is (P:=P) (R.rows e he) x).mpr q] at this
   cases this
  rw[if_neg hx] at hQ
  have pm:(layNew t es (keyH w (.inr x)) (.str x tk)).1.toList.Perm ((keyH w (.inr x),Value.str x tk)::es.toList):=by
   have:=layNew_perm t es (keyH w (.inr x)) (.str x tk)
   rw[Array.toList_push] at this
   exact this.trans (List.perm_append_singleton _ _)
  have f1:=layNew_fits t es (keyH w (.inr x)) (.str x tk)
  have r1:=layNew_ris t es (keyH w (.inr x)) (.str x tk) R.ris
  have l1:=layNew_led t es (keyH w (.inr x)) (.str x tk)
  have ehash:(mixKind P w).hash (.inr x)=keyH w (.inr x):=rfl
  show wpAny _ _ _ _ _ _
  dsimp only
  generalize layNew t es (keyH w (.inr x)) (.str x tk)=Z at pm f1 r1 l1⊢
  obtain⟨es1,t1,wd,gv⟩:=Z
  dsimp only at pm f1 r1 l1⊢
  have g1: ∀e∈es1.toList,sU w e:=fun e he=>by
   rcases List.mem_cons.mp (pm.mem_iff.mp he) with q|q
   ·rw[q];exact⟨x,tk,rfl,rfl⟩
   ·exact R.rows e q
  have g2:(es1.toList.map pJ).Perm (x::ks):=(pm.map pJ).trans (List.Perm.cons x R.keys)
  have g3:(x::ks).Nodup:=List.nodup_cons.mpr ⟨hx,R.nd⟩
  have fin: ∀t2:SetTable,t2.fits es1.size=true->Ris t2.place.toList->t2.led=t.led->wpAny (model P w) A (do
    storeSet a es1 t2
    if (!wd&&t2.tooFull)=true then do
     FF (relayAll t2 es1 (SetTable.grown es1.size)).2.2
     storeSet a (relayAll t2 es1 (SetTable.grown es1.size)).1 (relayAll t2 es1 (SetTable.grown es1.size)).2.1
     pure (some true)
    else pure (some true):Sem (Option Bool)) (fun r s'=>wpAny (model P w) A (match r with|some b=>pure b|none=>setAddHashedIn a (.str x tk) (keyH w (.inr x)) 99999) Q E s') E s:=fun t2 k1 k2 k3=>by
   refine wpAny_bind (R.store g1 g2 g3 (by rw[List.length_cons];exact room) k1 k2 (by rw[k3];exact R.led) fun h2 ep2 sb2 R2=> ?_)
   split
   ·refine wpAny_bind (Bf (wpAny_bind ?_))
    have p3:=relayAll_perm t2 es1 (SetTable.grown es1.size)
    refine aX.store (s:={s with heap:=h2}) R2 (fun e he=>g1 e (p3.mem_iff.mp he)) ((p3.map pJ).trans g2) g3 (by rw[List.length_cons];exact room) (relayAll_fits t2 es1 _) (relayAll_ris t2 es1 _) (by rw[relayAll_led,k3];exact R.led) fun h3 ep3 sb3 R3=> ?_
    exact wpAny_pure (wpAny_pure (hQ true h3 _ ep3 _ (sb2.trans sb3) R3))
   ·exact wpAny_pure (wpAny_pure (hQ true h2 _ ep2 _ sb2 R2))
  refine wpAny_bind (Bf ?_)
  by_cases hp:t1.plain=true
  ·rw[if_pos hp]
   refine wpAny_bind ?_
   rw[hashByValue_scannable 8 (x:=.str x tk) rfl]
   refine wpAny_pure ?_
   have:plainKind (.str x tk)=false:=rfl
   rw[this]
   exact fin _ (SetTable.fits_plain_off f1) r1 l1
  ·rw[if_neg hp]
   exact wpAny_bind (wpAny_pure (fin _ f1 r1 l1))
theorem aX.J5 (R:aX w s.heap a es ep t ks) {n:Nat} (hn:n<=40) (hk:ks.length<=n*2) {Q:Unit->Shared->Prop}
  (hQ: ∀h' es2 ep2 t2,Heap.SameBut a s.heap h'->aX w h' a es2 ep2 t2 ks->t2.mask=SetTable.sizeAbove (n*2) -1->Q () {s with heap:=h'}):wpAny (model P w) A (setRelay a (n*2)) Q E s:=by
 obtain⟨m1,m2,m3⟩:=Dw n hn
 have hes:(es.map (·.1)).size<=SetTable.sizeAbove (n*2) -1:=by rw[Array.size_map,R.size];omega
 obtain⟨t2,order,e,po,f2,r2,l2,k2,_⟩:=Be m1 t.finger (t.movedTo (SetTable.sizeAbove (n*2) -1)) t.led t.plain hes
 have e2:t.relaid (es.map (·.1)) (n*2)=some (t2,order):=e
 rw[Array.size_map] at po f2
 have pm:=uh es po
 have hsz:(order.filterMap (es[·]?)).size=es.size:=by rw[<-Array.length_toList,pm.length_eq,Array.length_toList]
 rw[setRelay_eq]
 refine wpAny_bind (R.state ?_)
 dsimp only
 refine wp_if_neg (by rw[sizeLine_eq];omega) ?_
 try refine wpAny_bind (wpAny_pure ?_)
 rw[e2]
 dsimp only
 refine wpAny_bind ?_
 refine wp_if_neg (by rw[hsz];simp) ?_
 try refine wpAny_bind (wpAny_pure ?_)
 refine wpAny_pure ?_
 dsimp only
 exact R.store (fun e he=>R.rows e (pm.mem_iff.mp he)) ((pm.map pJ).trans R.keys) R.nd R.few (by rw[hsz];exact f2) r2 (by rw[l2];exact R.led) fun h' ep2 sb R2=>hQ h' _ ep2 _ sb R2 k2
theorem aX.room (R:aX w s.heap a es ep t ks) {n:Nat} (hn:ks.length+n<=40) {Q:Unit->Shared->Prop}
  (hQ: ∀h' es2 ep2 t2,Heap.SameBut a s.heap h'->aX w h' a es2 ep2 t2 ks->(lV t.mask->lV t2.mask/\n<=t2.mask)->Q () {s with heap:=h'}):wpAny (model P w) A (setRoomFor a n) Q E s:=by
 have hps:t.place.size=es.size:=by
  have:=R.fits
  unfold SetTable.fits at this
  simp only[Bool.and_eq_true,beq_iff_eq] at this
  exact this.1
 unfold setRoomFor
 refine wpAny_bind (R.state ?_)
 unfold SetTable.roomFor
 dsimp only
 split
 ·rename_i wanted hw
  split at hw
  ·cases hw
   rw[hps,R.size]
   obtain⟨m1,m2,_⟩:=Dw (ks.length+n) hn
   exact R.J5 hn (by omega) fun h' es2 ep2 t2 sb R2 e=>hQ h' es2 ep2 t2 sb R2 fun _=>by rw[e];exact⟨m1,by omega⟩
  ·cases hw
 ·rename_i hw
  refine wpAny_pure (hQ s.heap es ep t (Heap.SameBut.refl a _) R fun m=>⟨m,?_⟩)
  split at hw
  ·exact (hw _ rfl).elim
  ·omega
end
end Sw
namespace Sw
open PySem PySem.Spec PyProof.Rows L2
variable [NmC]
theorem yJ (s o:Addr) (each:Sem Unit):setMerge s o each=(do
  if s==o then return
  let (eo,epoch,to)<-setState o
  if eo.isEmpty then return
  setRoomFor s eo.size
  let (_,_,ts)<-setState s
  match ts.road to with
  | .slotForSlot=>storeSet s eo {to with finger:=ts.finger,led:=ts.led&&to.led,moves:=ts.moves,plain:=ts.plain&&to.plain}
  | .clean=>
   let (es,t)<-(do
    let some (t,order):=SetTable.laid ts.mask ts.finger ts.moves (led:=ts.led&&to.led) (plain:=ts.plain&&to.plain) (eo.map (·.1))|unsupported "internal:set-table-without-room"
    let es':=order.filterMap (eo[·]?)
    if es'.size != eo.size then unsupported "internal:set-table-lost-an-element"
    pure (es',t):Sem (Array (Int×Value)×SetTable))
   storeSet s es t
  | .oneByOne=>
   for (h,x) in<-setWalkUnseen o [s] (some s) do
    let _<-holding [x] (setAddHashed s x h)
    each
    if (←setState o).2.1 != epoch then unsupported "set.changed-during-merge"):=by rfl
section
variable {P:Program} {w:World} {A:Around} {E:Value->Shared->Prop} {s:Shared} {a b:Addr} {es eo:Array (Int×Value)} {ep epo:Nat} {t to:SetTable} {ks js:List Str}
theorem aX.walk (R:aX w s.heap a es ep t ks) {Q:Array (Int×Value)->Shared->Prop} (hQ: ∀xs d,xs.toList.Perm es.toList->Q xs {s with drawn:=d}):wpAny (model P w) A (setWalk a) Q E s:=by
 unfold setWalk
 refine wpAny_bind (R.state ?_)
 dsimp only
 refine wpAny_bind (wpAny_byText ?_)
 by_cases hb:w.params.followText "set-order" =true
 ·rw[if_pos hb]
  exact wpAny_bind (wpAny_askSetting (wpAny_pure (hQ _ s.drawn (pick_perm _ _))))
 ·rw[if_neg hb]
  have hl:t.led=true:=R.led.resolve_left hb
  split
  ·refine wpAny_bind (drawOrder_at es.size es.toList s _ (by simp) fun ys d p=> ?_)
   exact wpAny_pure (hQ _ d (by simpa using p))
  ·refine wpAny_bind ?_
   show wpAny _ _ (if (!t.led&&decide (es.size>1))=true then (unsupported "set:maker-not-led" :Sem Unit) else pure ()) _ _ _
   rw[hl]
   refine wp_if_neg (by simp) ?_
   exact wpAny_pure (wpAny_pure (hQ es s.drawn (List.Perm.refl _)))
theorem aX.quiet {l:List Addr} (h: ∀a∈l,∃es ep t ks,aX w s.heap a es ep t ks) {Q:Bool->Shared->Prop} (hQ: ∀b,Q b s):wpAny (model P w) A (setsQuiet l) Q E s:=by
 unfold setsQuiet
 refine wpAny_bind (wpAny_forIn_list _ (fun l' r s'=>r=⟨none,⟨⟩⟩/\s'=s/\ ∀a∈l',a∈l) _ ?_ ?_ l _ ⟨rfl,rfl,fun _ z=>z⟩)
 ·rintro a l' r s' ⟨rfl,rfl,hl⟩
  obtain⟨es,ep,t,ks,R⟩:=h a (hl a List.mem_cons_self)
  unfold setEntries
  refine wpAny_bind (wpAny_bind (R.state (wpAny_pure ?_)))
  refine wpAny_bind (wpAny_forIn_array' _ (fun l2 r s2=>r=⟨none,⟨⟩⟩/\s2=s'/\ ∀e∈l2,sU w e) _ ?_ ?_ es _ ⟨rfl,rfl,R.rows⟩)
  ·rintro⟨hh,x⟩ l2 r s2 ⟨rfl,rfl,g⟩
   obtain⟨z,tk,e1,_⟩:=g _ List.mem_cons_self
   have e1:x=Value.str z tk:=e1
   subst e1
   exact wpAny_pure ⟨rfl,rfl,fun e he=>g e (List.mem_cons_of_mem _ he)⟩
  ·rintro r s2 ⟨rfl,rfl,_⟩
   exact wpAny_pure ⟨rfl,rfl,fun b hb=>hl b (List.mem_cons_of_mem _ hb)⟩
 ·rintro r s' ⟨rfl,rfl,_⟩
  exact wpAny_pure (hQ _)
theorem aX.flags {t2:SetTable} (R:aX w s.heap a es ep t ks) (h1:t2.place=t.place) (h2:t2.dummies=t.dummies) (h3:t2.mask=t.mask) (h4:w.params.followText "set-order" =true\/t2.led=true) {Q:Unit->Shared->Prop}
  (hQ: ∀h' ep2,Heap.SameBut a s.heap h'->aX w h' a es ep2 t2 ks->Q () {s with heap:=h'}):wpAny (model P w) A (storeSet a es t2) Q E s:=by
 refine R.store R.rows R.keys R.nd R.few ?_ (by rw[h1];exact R.ris) h4 hQ
 have:=R.fits
 unfold SetTable.fits SetTable.fill at this⊢
 rw[h1,h2,h3];exact this
theorem aX.other {h h':Heap} (R:aX w h b eo epo to js) (hne:b≠a) (sb:Heap.SameBut a h h'):aX w h' b eo epo to js:=R.at fun o e=>(sb.2 b hne).trans e
theorem aX.IC (Ra:aX w s.heap a es ep t ks) (Rb:aX w s.heap b eo epo to js) (hne:b≠a) {Q:Array (Int×Value)->Shared->Prop}
  (hQ: ∀xs d h' ep2 t2,xs.toList.Perm eo.toList->Heap.SameBut a s.heap h'->aX w h' a es ep2 t2 ks->Q xs {s with heap:=h',drawn:=d}):wpAny (model P w) A (setWalkUnseen b [a] (some a)) Q E s:=by
 have self: ∀xs d,xs.toList.Perm eo.toList->Q xs {s with drawn:=d}:=fun xs d p=>hQ xs d s.heap ep t p (Heap.SameBut.refl a _) Ra
 unfold setWalkUnseen
 refine wpAny_bind (Rb.state ?_)
 dsimp only
 refine wpAny_bind (wpAny_byText ?_)
 split
 ·exact Rb.walk fun xs d p=>self xs d p
 ·rename_i hb
  have hbt:w.params.followText "set-order" =false:=by
   cases q:w.params.followText "set-order" with
   |false=>rfl
   |true=>rw[q] at hb;simp at hb
  have lb:to.led=true:=Rb.led.resolve_left (by rw[hbt];exact Bool.false_ne_true)
  have la:t.led=true:=Ra.led.resolve_left (by rw[hbt];exact Bool.false_ne_true)
  refine wpAny_bind (aX.quiet (w:=w) (l:=[b,a]) (fun c hc=> ?_) fun q=> ?_)
  ·rcases List.mem_cons.mp hc with rfl|hc
   ·exact⟨_,_,_,_,Rb⟩
   ·rw[List.mem_singleton.mp hc];exact⟨_,_,_,_,Ra⟩
  ·split
   ·exact Rb.walk fun xs d p=>self xs d p
   ·refine wpAny_bind (wpAny_rule ?_)
    refine wpAny_bind (Ra.state ?_)
    dsimp only
    split
    ·refine wpAny_bind (Ra.flags (t2:={t with led:=t.led&&to.led,plain:=t.plain&&to.plain}) rfl rfl rfl (.inr (by rw[la,lb];rfl)) fun h' ep2 sb R2=> ?_)
     exact wpAny_pure (hQ eo s.drawn h' ep2 _ (List.Perm.refl _) sb R2)
    ·exact wpAny_pure (self eo s.drawn (List.Perm.refl _))
def Dx (ls ks js:List Str):Prop:=ls.Nodup/\ ∀z,z∈ls↔z∈ks\/z∈js
theorem aX.merge (Ra:aX w s.heap a es ep t ks) (Rb:aX w s.heap b eo epo to js) (hne:b≠a) (hk:ks.length<=20) (hj:js.length<=20) (hm:ks=[]->lV t.mask) {each:Sem Unit}
  (hE: ∀(s1:Shared) (Q':Unit->Shared->Prop),aX w s1.heap b eo epo to js->Q' () s1->wpAny (model P w) A each Q' E s1) {Q:Unit->Shared->Prop}
  (hQ: ∀d h' es2 ep2 t2 ls,Heap.SameBut a s.heap h'->aX w h' a es2 ep2 t2 ls->Dx ls ks js->(ls=[]->lV t2.mask)->Q () {s with heap:=h',drawn:=d}):wpAny (model P w) A (setMerge a b each) Q E s:=by
 rw[yJ]
 refine wp_if_neg (by simpa using fun e:a=b=>hne e.symm) ?_
 try refine wpAny_bind (wpAny_pure ?_)
 refine wpAny_bind (Rb.state ?_)
 dsimp only
 by_cases he:eo.isEmpty=true
 ·rw[if_pos he]
  have hz:js=[]:=by
   have h1:=Rb.size
   have h2:eo.size=0:=by simpa using he
   exact List.length_eq_zero_iff.mp (by omega)
  exact wpAny_pure (hQ s.drawn s.heap es ep t ks (Heap.SameBut.refl a _) Ra ⟨Ra.nd,fun z=>by rw[hz];simp⟩ hm)
 ·rw[if_neg he]
  try refine wpAny_bind (wpAny_pure ?_)
  have hj0:js≠[]:=fun z=>he (by
   have h1:=Rb.size
   rw[z] at h1
   simpa using h1)
  refine wpAny_bind (Ra.room (n:=eo.size) (by rw[Rb.size];omega) fun h1 es1 ep1 t1 sb1 R1 hmask=> ?_)
  have Rb1:=Rb.other hne sb1
  refine wpAny_bind (aX.state (s:={s with heap:=h1}) R1 ?_)
  dsimp only
  have emp:t1.fill=0->ks=[]:=fun h0=>by
   have h2:=R1.fits
   unfold SetTable.fits at h2
   simp only[Bool.and_eq_true,beq_iff_eq] at h2
   unfold SetTable.fill at h0
   have h3:=R1.size
   exact List.length_eq_zero_iff.mp (by omega)
  have lediff:w.params.followText "set-order" =true\/(t1.led&&to.led)=true:=by
   rcases R1.led with q|q
   ·exact .inl q
   ·rcases Rb.led with q2|q2
    ·exact .inl q2
    ·exact .inr (by rw[q,q2];rfl)
  unfold SetTable.road
  by_cases hf:t1.fill=0
  ·have hk0:=emp hf
   have bth:Dx js ks js:=⟨Rb.nd,fun z=>by rw[hk0];simp⟩
   rw[if_neg (by simpa using hf)]
   split
   ·refine aX.store (s:={s with heap:=h1}) (t2:={to with finger:=t1.finger,led:=t1.led&&to.led,moves:=t1.moves,plain:=t1.plain&&to.plain}) R1 Rb.rows Rb.keys Rb.nd Rb.few Rb.fits Rb.ris lediff fun h2 ep2 sb2 R2=> ?_
    exact hQ s.drawn h2 _ ep2 _ js (sb1.trans sb2) R2 bth fun z=>absurd z hj0
   ·obtain⟨mk,mn⟩:=hmask (hm hk0)
    obtain⟨t2,order,e,po,f2,r2,l2,_,_⟩:=Be mk t1.finger t1.moves (t1.led&&to.led) (t1.plain&&to.plain) (hs:=eo.map (·.1)) (by rw[Array.size_map];exact mn)
    rw[Array.size_map] at po f2
    have pm:=uh eo po
    have hsz:(order.filterMap (eo[·]?)).size=eo.size:=by rw[<-Array.length_toList,pm.length_eq,Array.length_toList]
    rw[e]
    dsimp only
    refine wpAny_bind ?_
    refine wp_if_neg (by rw[hsz];simp) ?_
    try refine wpAny_bind (wpAny_pure ?_)
    refine wpAny_pure ?_
    dsimp only
    refine aX.store (s:={s with heap:=h1}) R1 (fun e he=>Rb.rows e (pm.mem_iff.mp he)) ((pm.map pJ).trans Rb.keys) Rb.nd Rb.few (by rw[hsz];exact f2) r2 (by rw[l2];exact lediff) fun h2 ep2 sb2 R2=> ?_
    exact hQ s.drawn h2 _ ep2 _ js (sb1.trans sb2) R2 bth fun z=>absurd z hj0
   ·rename_i q
    split at q <;> cases q
  ·rw[if_pos (by simpa using hf)]
   dsimp only
   refine wpAny_bind (aX.IC (s:={s with heap:=h1}) R1 Rb1 hne fun xs d h2 ep2 t2 p sb2 R2=> ?_)
   have Rb2:=Rb1.other hne sb2
   refine wpAny_bind (wpAny_forIn_array' _ (fun l _ s'=> ∃h' es3 ep3 t3 ls,s'={s with heap:=h',drawn:=d}/\Heap.SameBut a s.heap h'/\aX w h' a es3 ep3 t3 ls/\(∀z∈ls,z∈ks\/z∈js)/\(∀z,z∈ks->z∈ls)/\(∀e∈l,sU w e/\pJ e∈js)/\(∀z,z∈js->z∈ls\/z∈l.map pJ)) _ ?_ ?_ xs _
    ⟨h2,es1,ep2,t2,ks,rfl,sb1.trans sb2,R2,fun z hz=>.inl hz,fun z hz=>hz,fun e he=> ?_,fun z hz=> ?_⟩)
   ·rintro⟨hh,x⟩ l _ s' ⟨h3,es3,ep3,t3,ls,rfl,sb3,R3,g1,g2,g3,g4⟩
    obtain⟨⟨z,tk,e1,e2⟩,hzj⟩:=g3 _ List.mem_cons_self
    replace e1:x=Value.str z tk:=e1
    replace e2:hh=keyH w (.inr z):=e2
    subst e1 e2
    replace hzj:z∈js:=hzj
    have llen:ls.length<=40:=by
     have:=List.Nodup.length_le_of_subset R3.nd (l₂:=ks++js) fun a ha=>List.mem_append.mpr (g1 a ha)
     rw[List.length_append] at this;omega
    have Rb3:=Rb.other hne sb3
    refine wpAny_bind (wpAny_holding (aX.add (s:={s with heap:=h3,drawn:=d}) R3 z tk (by omega) fun bb h4 es4 ep4 t4 sb4 R4=> ?_))
    have Rb4:aX w h4 b eo epo to js:=Rb3.other hne sb4
    refine wpAny_bind (hE _ _ Rb4 ?_)
    refine wpAny_bind (aX.state (s:={s with heap:=h4,drawn:=d}) Rb4 ?_)
    refine wp_if_neg (by simp) ?_
    refine wpAny_pure ⟨h4,es4,ep4,t4,_,rfl,sb3.trans sb4,R4,fun y hy=> ?_,fun y hy=> ?_,fun e he=>g3 e (List.mem_cons_of_mem _ he),fun y hy=> ?_⟩
    ·split at hy
     ·exact g1 y hy
     ·rcases List.mem_cons.mp hy with rfl|hy
      ·exact .inr hzj
      ·exact g1 y hy
    ·split
     ·exact g2 y hy
     ·exact List.mem_cons_of_mem _ (g2 y hy)
    ·rcases g4 y hy with q|q
     ·left
      split
      ·exact q
      ·exact List.mem_cons_of_mem _ q
     ·rw[List.map_cons] at q
      rcases List.mem_cons.mp q with q|q
      ·left
       have q:y=z:=q
       subst q
       split
       ·assumption
       ·exact List.mem_cons_self
      ·exact .inr q
   ·rintro _ s' ⟨h3,es3,ep3,t3,ls,rfl,sb3,R3,g1,g2,g3,g4⟩
    refine wpAny_pure (hQ d h3 es3 ep3 t3 ls sb3 R3 ⟨R3.nd,fun z=>⟨g1 z,fun q=>q.elim (g2 z) fun q=>(g4 z q).resolve_right (by simp)⟩⟩ fun z=> ?_)
    exfalso
    obtain⟨y,hy⟩:=List.exists_mem_of_ne_nil js hj0
    rcases g4 y hy with q|q
    ·rw[z] at q;cases q
    ·cases q
   ·have hp:=p.mem_iff.mp he
    exact⟨Rb.rows e hp,Rb.keys.mem_iff.mp (List.mem_map.mpr ⟨e,hp,rfl⟩)⟩
   ·right
    exact ((p.map pJ).trans Rb.keys).mem_iff.mpr hz
end
end Sw
namespace Sw
open PySem PySem.Spec PyProof.Rows L2
variable [NmC]
abbrev sV (w:World):Obj:={cls:=.type "set",dict:=none,data:=.set #[] 0 (.fresh 0 0 (!w.params.followText "set-order"))}
section
variable {P:Program} {w:World} {A:Around} {E:Value->Shared->Prop} {s:Shared} {a b:Addr}
theorem Dy {h:Heap} (ho:h.get? a=some (sV w)):aX w h a #[] 0 (.fresh 0 0 (!w.params.followText "set-order")) [] where
 ob:=⟨_,ho,⟨rfl,rfl,rfl⟩,rfl⟩
 rows:=by simp
 keys:=List.Perm.refl _
 nd:=List.nodup_nil
 few:=by decide
 fits:=rfl
 ris:=List.Pairwise.nil
 led:=by
  cases q:w.params.followText "set-order" with
  |true=>exact .inl rfl
  |false=>exact .inr rfl
theorem ID {x:Value} {Q:Value->Shared->Prop} {G:Shared->Prop}
  (hU: ∀(A':Around) (E':Value->Shared->Prop),A'.handled=A.handled->wpAny (model P w) A' (Builtin.Frozenset.updateFrom "set.__init__" s.heap.objs.size x) (fun _ s2=>G s2) E' {s with heap:=s.heap.push (sV w)})
  (hG: ∀s2,G s2->Q (.ref s.heap.objs.size) s2):
  wpAny (model P w) A (call (.type "set") [x]) Q E s:=by
 obtain⟨c,tl,hmro⟩:=F.called_set.mro
 have z1:=F.called_set.made
 have z2:=F.called_set.sub
 refine wpAny_call (codeAny_of_tree ?_)
 show wpAny _ _ (callAny (.type "set") ⟨[x],[]⟩) _ _ _
 refine wpAny_pure ⟨Code.quiet_builtin _ (by decide+kernel),codeAny_builtin F.entry_type_call ?_⟩
 rw[Around.under_plain (weight_type_call_type "set" [x] []) rfl]
 have z3:=F.called_set.notType
 have z4:=F.called_set.canCreate
 have z5:=F.typeCall_set_1 x
 repeat (any_goals (first|assumption|wp_step))
 refine codeAny_mono (code_set_led1 x (E:=E) (Q₁:=fun o s1=>o= .ref s.heap.objs.size/\s1={s with heap:=s.heap.push (sV w)}) ⟨rfl,rfl⟩) fun r s1 hr=> ?_
 cases r with
 |error e=>exact hr
 |ok fl=>
  cases fl with
  |ret o=>
   obtain⟨rfl,rfl⟩:=hr
   have hS:(s.heap.push (sV w)).get? s.heap.objs.size=some (sV w):=Heap.get?_push_size _ rfl
   have hT:Shared.TypeIs {s with heap:=s.heap.push (sV w)} (.ref s.heap.objs.size) "set" :=⟨_,hS,rfl⟩
   have z6:=F.called_set.init.lookup
   have z7:=F.called_set.init.bind (.ref s.heap.objs.size)
   repeat (any_goals (first|assumption|wp_step))
   refine codeAny_mono (codeAny_call_builtin (R:=wants (fun r s2=>r= .none/\G s2) E) F.called_set.init.plain F.entry_set_init (check_set_init_1 hT ?_)) fun r2 s2 hr2=> ?_
   ·unfold Builtin.«set.__init__» noKeywords
    generalize hUF:Builtin.Frozenset.updateFrom=UF
    wp_walk
    subst hUF
    exact wpAny_mono (hU A.in1.in1 _ (by simp)) (fun _ s2 g=>wpAny_pure ⟨rfl,g⟩) fun _ _ z=>z
   ·cases r2 with
    |error e=>exact hr2
    |ok fl2=>
     cases fl2 with
     |ret r=>
      obtain⟨rfl,g⟩:=hr2
      repeat (any_goals (first|assumption|wp_step))
      exact hG s2 g
     |_=>exact hr2.elim
  |_=>exact hr.elim
end
end Sw
namespace Sw
open PySem PySem.Spec PyProof.Rows L2
variable [NmC]
theorem sub_set_set:isSubtype (.type "set") (.type "set")=pure true:=by rw[isSubtype_type];kernel_rfl
section
variable {P:Program} {w:World} {A:Around} {E:Value->Shared->Prop} {s:Shared} {a b d:Addr}
theorem qc {v:Value} {Q:Bool->Shared->Prop} (hT:s.TypeIs v "set") (h:Q true s):wpAny (model P w) A (Builtin.Frozenset.isAnySet v) Q E s:=by
 unfold Builtin.Frozenset.isAnySet
 exact wpAny_bind (wpAny_isInstance hT sub_set_set (wpAny_pure h))
end
end Sw
namespace Sw
open PySem PySem.Spec PyProof.Rows L2
variable [NmC]
theorem wR:entryFor table "set.__or__" =some Builtin.«frozenset.__or__»:=
 entryFor_alias (id':="frozenset.__or__") (by kernel_rfl) rfl (by decide+kernel) (by kernel_rfl)
section
variable {P:Program} {w:World} {A:Around} {E:Value->Shared->Prop} {s:Shared} {a b d:Addr} {es eo:Array (Int×Value)} {ep epo:Nat} {t to:SetTable} {ks js:List Str}
theorem aX.ty {h:Heap} (R:aX w h a es ep t ks) {g:Array GenState} {dr:Drawn} {tk:Nat} {os:OsState}:Shared.TypeIs ⟨h,g,dr,tk,os⟩ (.ref a) "set" :=by
 obtain⟨⟨o,ho,hx,_⟩,_⟩:=R
 exact⟨o,ho,hx.1⟩
theorem aX.tyS (R:aX w s.heap a es ep t ks):s.TypeIs (.ref a) "set" :=by
 obtain⟨⟨o,ho,hx,_⟩,_⟩:=R
 exact⟨o,ho,hx.1⟩
theorem aX.copy (R:aX w s.heap a es ep t ks) (hk:ks.length<=20) {Q:Value->Shared->Prop}
  (hQ: ∀dr h' es2 ep2 t2 ls,(∀c o,s.heap.get? c=some o->h'.get? c=some o)->aX w h' s.heap.objs.size es2 ep2 t2 ls->Dx ls [] ks->(ls=[]->lV t2.mask)->Q (.ref s.heap.objs.size) {s with heap:=h',drawn:=dr}):
  wpAny (model P w) A (Builtin.Frozenset.copyOf a) Q E s:=by
 unfold Builtin.Frozenset.copyOf Builtin.Frozenset.baseOf newSet
 refine wpAny_bind (wpAny_bind (wpAny_isInstance R.tyS sub_set_set (wpAny_pure ?_)))
 rw[if_pos rfl]
 refine wpAny_bind (wpAny_bind (wpAny_byText (wpAny_newObj_type ?_)))
 refine wpAny_bind (m:=Builtin.Frozenset.addrOf (.ref s.heap.objs.size)) (wpAny_pure ?_)
 have hlt:a<s.heap.objs.size:=by
  obtain⟨⟨o,ho,_⟩,_⟩:=R
  exact Heap.lt_size ho
 have hS:(s.heap.push (sV w)).get? s.heap.objs.size=some (sV w):=Heap.get?_push_size _ rfl
 refine wpAny_bind (aX.merge (s:={s with heap:=s.heap.push (sV w)}) (Dy hS) (R.at fun o e=>Heap.get?_push_of_some _ e) (Nat.ne_of_lt hlt) (by simp) hk (fun _=>.inl rfl) (fun s1 Q' _ q=>wpAny_pure q) fun dr h' es2 ep2 t2 ls sb R2 bt mk=> ?_)
 exact wpAny_pure (hQ dr h' es2 ep2 t2 ls (fun c o e=>(sb.2 c (Nat.ne_of_lt (Heap.lt_size e))).trans (Heap.get?_push_of_some _ e)) R2 bt mk)
theorem FG (Ra:aX w s.heap a es ep t ks) (Rb:aX w s.heap b eo epo to js) (hne:b≠a) (hk:ks.length<=20) (hj:js.length<=20) {Q:Value->Shared->Prop}
  (hQ: ∀dr h' es2 ep2 t2 ls,(∀c o,s.heap.get? c=some o->h'.get? c=some o)->aX w h' s.heap.objs.size es2 ep2 t2 ls->Dx ls ks js->Q (.ref s.heap.objs.size) {s with heap:=h',drawn:=dr}):
  wpAny (model P w) A (binaryOp .BitOr (.ref a) (.ref b)) Q E s:=by
 refine wpAny_binaryOp_same Ra.tyS Rb.tyS F.fills_set_or F.slot_set_or (wpAny_call_entry F.slot_set_or Ra.tyS wR ?_ (F.args_set_or_2 _ _))
 unfold Builtin.«frozenset.__or__»
 refine wpAny_bind (m:=Builtin.Frozenset.slot1 "__or__" ⟨[.ref a,.ref b],[]⟩) (wpAny_of_eq (a:=(Value.ref a,Value.ref b)) (by rfl) ?_)
 dsimp only
 refine wpAny_bind (wpAny_bind (qc Ra.tyS (qc Rb.tyS ?_)))
 refine wp_if_neg (by simp) ?_
 refine wpAny_bind (m:=Builtin.Frozenset.addrOf (.ref a)) (wpAny_pure ?_)
 refine wpAny_bind ?_
 show wpAny _ _ (do
  let result<-Builtin.Frozenset.copyOf a
  if (Value.ref b) != .ref a then holding [result] (Builtin.Frozenset.updateFrom "frozenset.__or__" (←Builtin.Frozenset.addrOf result) (.ref b))
  return result:Sem Value) _ _ _
 refine wpAny_bind (Ra.copy hk fun dr h1 es1 ep1 t1 l1 k1 R1 b1 m1=> ?_)
 have hlb:b<s.heap.objs.size:=by
  obtain⟨⟨o,ho,_⟩,_⟩:=Rb
  exact Heap.lt_size ho
 have Rb1:aX w h1 b eo epo to js:=Rb.at fun o e=>k1 b o e
 have hb1:((Value.ref b) != .ref a)=true:=by simpa using hne
 rw[if_pos hb1]
 refine wpAny_bind (m:=Builtin.Frozenset.addrOf (.ref s.heap.objs.size)) (wpAny_pure ?_)
 refine wpAny_bind (wpAny_holding ?_)
 unfold Builtin.Frozenset.updateFrom
 refine wpAny_bind (qc Rb1.ty ?_)
 refine wp_if_pos rfl ?_
 refine wpAny_bind (m:=Builtin.Frozenset.addrOf (.ref b)) (wpAny_pure ?_)
 unfold Builtin.Frozenset.merge
 have ep_at: ∀{s1:Shared} {A':Around} {E':Value->Shared->Prop} {Q':Nat->Shared->Prop},aX w s1.heap b eo epo to js->Q' epo s1->wpAny (model P w) A' (setEpoch b) Q' E' s1:=fun R' q=>by
  unfold setEpoch
  exact wpAny_bind (R'.state (wpAny_pure q))
 refine wpAny_bind (ep_at Rb1 ?_)
 have hl1:l1.length<=20:=by
  have:=List.Nodup.length_le_of_subset R1.nd (l₂:=ks) fun z hz=>((b1.2 z).mp hz).resolve_left (by simp)
  omega
 refine aX.merge (s:={s with heap:=h1,drawn:=dr}) R1 Rb1 (Nat.ne_of_lt hlb) hl1 hj m1 (fun s1 Q' R' q=> ?_) fun dr2 h2 es2 ep2 t2 l2 sb2 R2 b2 _=> ?_
 ·unfold Builtin.Frozenset.unchanged
  refine wpAny_bind (ep_at R' ?_)
  exact wp_if_neg (by simp) (wpAny_pure q)
 ·refine wpAny_pure (wpAny_pure ⟨_,rfl,by simp,hQ dr2 h2 es2 ep2 t2 l2 (fun c o e=>(sb2.2 c (Nat.ne_of_lt (Heap.lt_size e))).trans (k1 c o e)) R2 ⟨R2.nd,fun z=> ?_⟩⟩)
  rw[b2.2 z,b1.2 z]
  simp
end
end Sw
namespace Sw
open PySem PySem.Spec PyProof.Rows L2
variable [NmC]
section
variable {P:Program} {w:World} {A:Around} {E:Value->Shared->Prop} {s:Shared} {a:Addr} {es:Array (Int×Value)} {ep:Nat} {t:SetTable} {ks:List Str}
theorem strs_of_rows: ∀{vs:List Value},(∀v∈vs,∃x tk,v=Value.str x tk)->StrsAre vs (vs.map strOf)
 | [],_=>.nil
 |v::vs,h=>by
  obtain⟨x,tk,e⟩:=h v List.mem_cons_self
  subst e
  exact .cons x tk (strs_of_rows fun u hu=>h u (List.mem_cons_of_mem _ hu))
theorem aX.sorted (R:aX w s.heap a es ep t ks) (hh:A.handled=none) (h64:ks.length<64) {Q:Value->Shared->Prop}
  (hQ: ∀s' p (out:Array Value) (c:Nat) (ys:List Str),(∀b o,s.heap.get? b=some o->s'.heap.get? b=some o)->s'.gens=s.gens->s'.os=s.os->s.heap.objs.size<=p->s'.heap.get? p=some (seqObj "list" out c)->StrsAre out.toList ys->ys.Perm ks->sortedS ys=true->Q (.ref p) s'):
  wpAny (model P w) A (call (.builtin "sorted") [.ref a]) Q E s:=by
 obtain⟨o,ho,hex,hd⟩:=R.ob
 have hsz:=R.size
 have hlt:=R.lt
 refine Calls.call_function_entry kind_sorted plain_sorted entry_sorted (args_sorted1 _) ?_
 unfold Builtin.«sorted»
 refine wpAny_bind (m:=checkCount "sorted" 1 1 _) (wpAny_pure ?_)
 refine wpAny_bind (collect_set (A:=A.in1) hh ⟨o,ho,hex.1,hd⟩ R.fits hlt R.ris R.led fun s1 vs k1 hz g1 o1 pm=> ?_)
 have hv: ∀v∈vs,∃x tk,v=Value.str x tk:=fun v m=>by
  obtain⟨e,he,q⟩:=List.mem_map.mp (pm.mem_iff.mp m)
  obtain⟨x,tk,e1,_⟩:=R.rows e he
  exact⟨x,tk,by rw[<-q];exact e1⟩
 have hS:=strs_of_rows hv
 have pk:(vs.map strOf).Perm ks:=by
  have q:=pm.map strOf
  rw[List.map_map] at q
  have e:es.toList.map (strOf∘fun x=>x.2)=es.toList.map pJ:=List.map_congr_left fun e he=>by
   obtain⟨x,tk,e1,_⟩:=R.rows e he
   show strOf e.2=pJ e
   unfold pJ
   rw[e1];rfl
  rw[e] at q
  exact q.trans R.keys
 have hvl:vs.length=ks.length:=by rw[<-pk.length_eq,List.length_map]
 refine wpAny_bind (wpAny_newList ?_ (by rw[hvl,sizeLine_eq];omega))
 have hoL:(s1.heap.push (seqObj "list" vs.toArray 0)).get? s1.heap.objs.size=some (seqObj "list" vs.toArray 0):=Heap.get?_push_size _ rfl
 refine wpAny_bind (wpAny_holding (wpAny_call_entry slot_list_sort ⟨_,hoL,rfl⟩ entry_list_sort (list_sort_treeK strKind_oneLt hoL hS.keysOf (fun v1 v2 rest e=>keyKind_strs (by rw[<-e];exact hS)) (by rw[hvl];exact h64) fun st' hp hs=>⟨_,rfl,?_⟩) (args_list_sort _)))
 obtain⟨ys,y1,y2,y3⟩:=sorted_out_str hS hp hs
 obtain⟨c,hc⟩:=sortedHeap_at (vs:=vs) (out:=(arrOf st').map (·.2)) hoL
 refine wpAny_pure ⟨_,rfl,hQ _ s1.heap.objs.size _ c ys (fun b u e=> ?_) g1 o1 hz hc y1 (y2.trans pk) y3⟩
 have q:=k1 b u e
 have hb:=Heap.lt_size q
 show (sortedHeap (s1.heap.push (seqObj "list" vs.toArray 0)) s1.heap.objs.size vs ((arrOf st').map (·.2))).get? b=some u
 rw[sortedHeap_old (Nat.ne_of_lt hb) (by rw[size_push'];exact Nat.lt_succ_of_lt hb)]
 exact Heap.get?_push_of_some _ q
end
def SetTO (w:World) (a:Addr) (ks:List Str):HO:=.ext fun h=> ∃es ep t,aX w h a es ep t ks
theorem yL {P:Program} {w:World} {H:Hp} {h:Heap} {a:Addr} {ks:List Str} {es:Array (Int×Value)} {ep:Nat} {t:SetTable} (R:aX w h a es ep t ks):ObjOk P w H h a (SetTO w a ks):=by
 obtain⟨o,ho,_⟩:=R.ob
 exact⟨⟨es,ep,t,R⟩,⟨o,ho⟩,fun h1 h2 ⟨es',ep',t',R'⟩ k=>⟨es',ep',t',R'.at fun o e=>k o e⟩⟩
section
variable {X:Cx}
theorem ui {pins:List (Addr×Obj)} {σ:CS} {H:Hp} {s:Shared} {a:Addr} {ks:List Str} (I:Inv X pins σ H s) (ha:H a=some (SetTO X.w a ks)): ∃es ep t,aX X.w s.heap a es ep t ks:=by
 have x:ObjOk X.prog X.w H s.heap a (.ext fun h=> ∃es ep t,aX X.w h a es ep t ks):=I.hok a _ ha
 exact x.1
def L6 (w:World):R2:=fun x y H Q=> ∃(a b:Addr) (ks js:List Str),x= .ref a/\y= .ref b/\a≠b/\H a=some (SetTO w a ks)/\H b=some (SetTO w b js)/\ks.length<=20/\js.length<=20∧
 ∀p ls,H p=none->Dx ls ks js->Q (.ref p) (upd H p (SetTO w p ls))
theorem L7:OpR X (binaryOp .BitOr) (L6 X.w):=by
 intro pins s σ H x y v u Q I rx ry h
 obtain⟨a,b,ks,js,rfl,rfl,hne,ha,hb,hk,hj,q⟩:=h
 cases rx
 cases ry
 obtain⟨_,_,_,Ra⟩:=ui I ha
 obtain⟨_,_,_,Rb⟩:=ui I hb
 refine FG Ra Rb hne.symm hk hj fun dr h' es2 ep2 t2 ls k R2 bt=> ?_
 have hn:H s.heap.objs.size=none:=I.hok.fresh (Nat.le_refl _)
 exact⟨.ref _,_,I.call' (ch:=[]) (s':={s with heap:=h',drawn:=dr}) rfl (Un.laid k (Nat.le_refl _) hn) (I.hok.laid k (Nat.le_refl _) (yL R2)) I.bare (fun _ z=>nomatch z),rfl,q _ ls hn bt⟩
def Dz (w:World):List V->Hp->VK->Prop:=fun xs H Q=> ∃(a:Addr) (ks:List Str),xs=[V.ref a]/\H a=some (SetTO w a ks)/\ks.length<64∧
 ∀p (ys:List Str),H p=none->ys.Perm ks->sortedS ys=true->Q (.ref p) (upd H p (.lst (ys.map V.str)))
theorem Aa (hc:X.calm=true):CallR X (.builtin "sorted") (Dz X.w):=by
 intro pins s σ H xs us Q I r h
 obtain⟨a,ks,rfl,ha,h64,q⟩:=h
 rw[Vals.ref1 r]
 obtain⟨_,_,_,R⟩:=ui I ha
 refine R.sorted (I.ok.hd hc) h64 fun s' p out c ys k g o hp hg hS pm so=> ?_
 have hn:H p=none:=I.hok.fresh hp
 have hlen:(ys.map V.str).length<=sizeLine:=by rw[List.length_map,pm.length_eq,sizeLine_eq];omega
 exact⟨.ref p,upd H p (.lst (ys.map V.str)),I.call' (ch:=[]) (s':=s') o (Un.laid k hp hn) (I.hok.laid k hp ⟨hlen,out.toList,c,vals_of_strs hS,hg⟩) (by rw[g];exact I.bare) (fun _ z=>nomatch z),rfl,q p ys hn pm so⟩
end
end Sw
namespace Sw
open PySem PySem.Spec PyProof.Rows L2
variable [NmC]
section
variable {P:Program} {w:World} {A:Around} {E:Value->Shared->Prop} {s:Shared} {a:Addr}
structure Same (ls xs:List Str):Prop where
 nd:ls.Nodup
 mem: ∀z,z∈ls↔z∈xs
theorem DA {I:Addr} {fp wr:List Addr} {G:Array GenState->Array GenState->Prop} {n:Nat} {Pv:Nat->Value->Prop} {St:Nat->Shared->Prop} {R:Result->Shared->Prop}
  (W:WalksS P w A.in1 I fp wr G n Pv St) (S:Addr) (hSf:S∉fp) (xs:List Str) (hn:n=xs.length) (hb:xs.length<=500) (hval: ∀i v,Pv i v-> ∃k t,xs[i]? =some k/\v= .str k t):
  ∀(k i:Nat) (s:Shared),n -i=k->i<=n->St i s->(∃es ep t ls,aX w s.heap S es ep t ls/\Same ls (xs.take i))→
   (∀s' es ep t ls,Moved (S::wr) G s s'->aX w s'.heap S es ep t ls->Same ls xs->R (.ok (.ret .none)) s')→
   codeAny (model P w) A (.builtin "set.update.loop" ⟨[.ref S,.ref I],[]⟩) R s:=by
 have hSw:S∉wr:=fun h=>hSf (W.sub _ h)
 have hsub: ∀b∈wr,b∈S::wr:=fun b hb=>List.mem_cons_of_mem _ hb
 intro k
 induction k with
 |zero=>
  intro i s hk' hi hst ⟨es,ep,t,ls,hS,sm⟩ hR
  have hin:i=n:=by omega
  subst hin
  refine codeAny_builtin F.entry_set_update_loop ?_
  rw[Around.under_plainId F.plain_set_update_loop _]
  show wpAny _ A.in1 (pyNext (.ref I) >>= _) _ _ s
  refine wpAny_bind (W.done s _ _ hst fun s' hm=> ?_)
  show wpAny _ A.in1 (ret Value.none) _ _ s'
  rw[List.take_of_length_le (by omega)] at sm
  exact wpAny_pure (hR s' es ep t ls (hm.mono hsub) (hS.at fun o e=>hm.heap S o hSw e) sm)
 |succ k ih=>
  intro i s hk' hi hst ⟨es,ep,t,ls,hS,sm⟩ hR
  have hlt:i<n:=by omega
  refine codeAny_builtin F.entry_set_update_loop ?_
  rw[Around.under_plainId F.plain_set_update_loop _]
  show wpAny _ A.in1 (pyNext (.ref I) >>= _) _ _ s
  refine wpAny_bind (W.item i s _ _ hlt hst fun v s' hP hst' hm=> ?_)
  obtain⟨z,tk,hz,rfl⟩:=hval i v hP
  have hS':aX w s'.heap S es ep t ls:=hS.at fun o e=>hm.heap S o hSw e
  have hll:ls.length<=500:=by
   have:=List.Nodup.length_le_of_subset sm.nd (l₂:=xs.take i) fun y hy=>(sm.mem y).mp hy
   rw[List.length_take] at this;omega
  show wpAny _ A.in1 (holding [Value.str z tk] (setAdd S (.str z tk)) >>= _) _ _ s'
  refine wpAny_bind (wpAny_holding ?_)
  unfold setAdd
  refine wpAny_holding ?_
  refine wpAny_bind ((mixKind P w).pyHash (k:=.inr z) (mixKind_str P w z tk) ?_)
  refine aX.add (s:={s' with toks:=s'.toks+1}) hS' z tk (by omega) fun bb h' es2 ep2 t2 hsb hS2=> ?_
  have sm2:Same (if z∈ls then ls else z::ls) (xs.take (i+1)):=by
   rw[List.take_add_one,hz]
   by_cases c:z∈ls
   ·rw[if_pos c]
    refine⟨sm.nd,fun y=> ?_⟩
    rw[sm.mem y]
    simp only[List.mem_append,Option.toList_some,List.mem_singleton]
    exact⟨.inl,fun q=>q.elim id fun e=>by rw[e];exact (sm.mem z).mp c⟩
   ·rw[if_neg c]
    refine⟨List.nodup_cons.mpr ⟨c,sm.nd⟩,fun y=> ?_⟩
    simp only[List.mem_append,Option.toList_some,List.mem_singleton,List.mem_cons]
    rw[sm.mem y]
    simp only[List.not_mem_nil,or_false]
    exact Or.comm
  refine wpAny_pure ⟨plainId_quiet F.plain_set_update_loop _,ih (i+1) _ (by omega) hlt (W.frame _ s' _ _ hst' (Nat.le_succ _) fun b hb o e=> ?_) ⟨es2,ep2,t2,_,hS2,sm2⟩ fun s'' es3 ep3 t3 ls3 hm'' hS'' sm''=> ?_⟩
  ·rw[hsb.2 b (fun h:b=S=>hSf (by rw[<-h];exact hb))];exact e
  ·refine hR s'' es3 ep3 t3 ls3 (Moved.trans W.gtrans ((hm.mono hsub).then_heap (Nat.le_succ _) fun b o hb e=> ?_) hm'') hS'' sm''
   rw[hsb.2 b (fun h:b=S=>hb (by rw[h];exact List.mem_cons_self))];exact e
theorem yM: ∀{us:List Value} {xs:List Str},StrsAre us xs-> ∀(i:Nat) (v:Value),us[i]? =some v-> ∃k t,xs[i]? =some k/\v= .str k t
 |_,_,.nil,i,v,h=>by simp at h
 |_,_,.cons y t h,0,v,e=>by cases e;exact⟨y,t,rfl,rfl⟩
 |_,_,.cons y t h,i+1,v,e=>yM h i v e
theorem DB {es:Array (Int×Value)} {ep:Nat} {t:SetTable} {l:Addr} {items:Array Value} {xs:List Str} {id':String} (hh:A.handled=none) (R:aX w s.heap a es ep t []) (hl:s.heap.IsList l items) (hit:StrsAre items.toList xs) (hb:xs.length<=500) (hne:l≠a)
  {Q:Unit->Shared->Prop} (hQ: ∀h' tk es2 ep2 t2 ks,(∀c o,c≠a->s.heap.get? c=some o->h'.get? c=some o)->aX w h' a es2 ep2 t2 ks->Same ks xs->Q () {s with heap:=h',toks:=tk}):
  wpAny (model P w) A (Builtin.Frozenset.updateFrom id' a (.ref l)) Q E s:=by
 have hisz:items.size=xs.length:=by
  have q:=hit.length
  rw[Array.length_toList] at q
  exact q
 have hT:s.TypeIs (.ref l) "list" :=hl.typeIs
 have hsls:=F.sub_list_set
 have hslf:=F.sub_list_frozenset
 have hl1:=hl
 have hcd:(Value.type "list" ==Value.type "dict")=false:=by decide
 unfold Builtin.Frozenset.updateFrom
 refine wpAny_bind (m:=Builtin.Frozenset.isAnySet (.ref l)) (by
  unfold Builtin.Frozenset.isAnySet
  exact wpAny_bind (wpAny_isInstance hT hsls (wpAny_isInstance hT hslf (by
   refine wp_if_neg (by simp) ?_
   refine wpAny_bind (wpAny_typeOf hT ?_)
   refine wp_if_neg (by rw[hcd];simp) ?_
   refine wpAny_bind (wpAny_pyIter_list hl ?_)
   refine wpAny_bind (wpAny_runValue ?_)
   have hz1:l<s.heap.objs.size:=by
    obtain⟨o,ho,_⟩:=hl
    exact Heap.lt_size ho
   have hz2:a<s.heap.objs.size:=by
    obtain⟨o,ho,_⟩:=R.ob
    exact Heap.lt_size ho
   have hneI:l≠s.heap.objs.size:=Nat.ne_of_lt hz1
   have hSf:a∉[s.heap.objs.size,l]:=by
    simp only[List.mem_cons,List.mem_singleton,List.not_mem_nil,or_false,not_or]
    exact⟨Nat.ne_of_lt hz2,hne.symm⟩
   have hval: ∀(i:Nat) (v:Value),items[i]? =some v-> ∃k t,xs[i]? =some k/\v= .str k t:=fun i v hv=>by
    exact yM hit i v (by rw[Array.getElem?_toList];exact hv)
   refine DA ((Walks.list (by simp[hh]) _ l hneI items).toS) a hSf xs hisz hb hval (items.size -0) 0 _ (by omega) (Nat.zero_le _) ?_ ?_ ?_
   ·exact⟨⟨_,Heap.get?_push_size _ rfl,rfl,rfl⟩,hl.push _⟩
   ·exact⟨es,ep,t,[],R.at fun o e=>Heap.get?_push_of_some _ e,⟨List.nodup_nil,by simp⟩⟩
   ·intro s' es2 ep2 t2 ls hm R2 sm
    obtain⟨h',g2,d',tk',os'⟩:=s'
    have eg:g2=s.gens:=hm.gens
    have ed:d'=s.drawn:=hm.drawn
    have eo:os'=s.os:=hm.os
    subst eg;subst ed;subst eo
    show wpAny _ _ _ _ _ _
    refine wpAny_pure ?_
    exact hQ h' tk' es2 ep2 t2 ls (fun c o hc e=>hm.heap c o (by
     simp only[List.mem_cons,List.mem_singleton,List.not_mem_nil,or_false,not_or]
     exact⟨hc,Nat.ne_of_lt (Heap.lt_size e)⟩) (Heap.get?_push_of_some _ e)) R2 sm))))
end
section
variable {X:Cx}
def rSetL (X:Cx):List V->Hp->VK->Prop:=fun xs H Q=> ∃(l:Addr) (ys:List Str),xs=[V.ref l]/\SqL X.K H l (ys.map V.str)/\ys.length<=500/\ ∀p ls,H p=none->Same ls ys->Q (.ref p) (upd H p (SetTO X.w p ls))
theorem FH (hc:X.calm=true):CallR X (.type "set") (rSetL X):=by
 intro pins s σ H xs us Q I r h
 obtain⟨l,ys,rfl,hq,hl,q⟩:=h
 rw[Vals.ref1 r]
 obtain⟨its,rv,pl,hz⟩:=I.list hq
 have hil:=pl.isList
 have hit:=strs_of_vals rv
 have hS:(s.heap.push (sV X.w)).get? s.heap.objs.size=some (sV X.w):=Heap.get?_push_size _ rfl
 have hlt:l<s.heap.objs.size:=by
  obtain⟨o,ho,_⟩:=hil
  exact Heap.lt_size ho
 refine ID (w:=X.w) (G:=fun s2=> ∃h' tk es2 ep2 t2 ls,s2={s with heap:=h',toks:=tk}/\(∀c o,s.heap.get? c=some o->h'.get? c=some o)/\aX X.w h' s.heap.objs.size es2 ep2 t2 ls/\Same ls ys)
  (fun A' E' hA=>DB (s:={s with heap:=s.heap.push (sV X.w)}) (hA.trans (I.ok.hd hc)) (Dy hS) (hil.push _) (by simpa using hit) hl (Nat.ne_of_lt hlt) fun h' tk es2 ep2 t2 ls k R2 sm=>
   ⟨h',tk,es2,ep2,t2,ls,rfl,fun c o e=>k c o (Nat.ne_of_lt (Heap.lt_size e)) (Heap.get?_push_of_some _ e),R2,sm⟩) fun s2 ⟨h',tk,es2,ep2,t2,ls,e,k,R2,sm⟩=> ?_
 subst e
 exact⟨.ref _,_,I.laid (t':=tk) k (Nat.le_refl _) (yL R2),rfl,q _ ls (I.hok.fresh (Nat.le_refl _)) sm⟩
end
def jw:List Str->List Str
 | []=>[]
 |x::xs=>if x∈xs then jw xs else x::jw xs
theorem iG: ∀xs:List Str,Same (jw xs) xs
 | []=>⟨List.nodup_nil,by simp[jw]⟩
 |x::xs=>by
  have ih:=iG xs
  unfold jw
  by_cases c:x∈xs
  ·rw[if_pos c]
   exact⟨ih.nd,fun z=>by rw[ih.mem z,List.mem_cons];exact⟨.inr,fun h=>h.elim (fun e=>by rw[e];exact c) id⟩⟩
  ·rw[if_neg c]
   exact⟨List.nodup_cons.mpr ⟨fun m=>c ((ih.mem x).mp m),ih.nd⟩,fun z=>by rw[List.mem_cons,ih.mem z,List.mem_cons]⟩
theorem Same.len {ls ms xs:List Str} (h:Same ls xs) (g:Same ms xs):ls.length=ms.length:=
 ((List.perm_ext_iff_of_nodup h.nd g.nd).mpr fun z=>(h.mem z).trans (g.mem z).symm).length_eq
end Sw
namespace Sw
open PySem PySem.Spec PyProof.Rows L2
variable [NmC]
section
variable {K:Frg} {S G G' B B':Sa} {H H':Hp}
theorem eN.get (f:Str): ∀{ds:List (Str×D)} {vs:List (Str×V)},eN K S H ds vs->(∀d,ds.lookup f=some d-> ∃v,vs.lookup f=some v/\Rep K S H d v)/\(ds.lookup f=none->vs.lookup f=none)
 | [],_,h=>by
  unfold eN at h
  rw[h]
  exact⟨fun d e=>(nomatch e),fun _=>rfl⟩
 |(g,d)::ds,_,h=>by
  unfold eN at h
  obtain⟨v,r,rfl,h1,h2⟩:=h
  have ih:=eN.get f h2
  cases hb:(f==g) with
  |true=>
   simp only[List.lookup_cons,hb]
   exact⟨fun d' e=>⟨v,rfl,(Option.some.inj e)▸h1⟩,fun e=>nomatch e⟩
  |false=>
   simp only[List.lookup_cons,hb]
   exact ih
theorem Rep.ins {C:Str} {fs:List (Str×D)} {v:V} (h:Rep K S H (.ins C fs) v): ∃a dx vs,v= .ref a/\H a=some (.ins (He.ga K C) dx vs)/\eN K S H fs vs:=by
 unfold Rep at h
 obtain⟨a,dx,vs,e,_,ha,r⟩:=h
 exact⟨a,dx,vs,e,ha,r⟩
end
def D.fld (C f:Str) (x:D):Option D:=match x with
 | .ins C' fs=>if C'=C then fs.lookup f else none
 |_=>none
def J6 (m:Str) (tbl:List (Str×(List D->Option FR))) (ds:List D):Option FR:=match ds with
 | .ins C fs::r=>if (fs.lookup m).isNone=true then (tbl.lookup C).bind fun F=>F (.ins C fs::r) else none
 |_=>none
structure Mth (P:Program) (w:World) (K:Frg) (mg:Str->Option Value) (base:Heap) (k:Nat) (m:Str) (ps:List Str) (ms:List PM) (rm:VM) (Fs:List D->Option FR):Prop where
 at_: ∀ds fr,Fs ds=some fr-> ∃(C:Str) (fs:List (Str×D)) (r:List D) (f:Addr) (fd:FuncData) (F:List D->Option FR),ds= .ins C fs::r/\fs.lookup m=none/\Cls K (He.ga K C)/\Meth K (He.ga K C) m f∧
  FnOk P w K mg base CX0 k f fd ps (FSp K ms rm F)/\Binds K fd ps []/\F ds=some fr
structure L8 (P:Program) (w:World) (K:Frg) (mg:Str->Option Value) (base:Heap) (k:Nat) (C m:Str) (ps:List Str) (ms:List PM) (rm:VM) (F:List D->Option FR):Prop where
 cl:Cls K (He.ga K C)
 ok: ∃(f:Addr) (fd:FuncData),Meth K (He.ga K C) m f/\FnOk P w K mg base CX0 k f fd ps (FSp K ms rm F)/\Binds K fd ps []
section
variable {P:Program} {w:World} {K:Frg} {mg:Str->Option Value} {base:Heap} {k k':Nat} {m:Str} {ps:List Str} {ms:List PM} {rm:VM} {tbl:List (Str×(List D->Option FR))}
theorem Mth.of (h: ∀q∈tbl,L8 P w K mg base k q.1 m ps ms rm q.2):Mth P w K mg base k m ps ms rm (J6 m tbl) where
 at_:=fun ds fr e=>by
  unfold J6 at e
  split at e
  ·rename_i C fs r
   split at e
   ·rename_i hn
    obtain⟨F,e1,e2⟩:=bind1 e
    have hin:(C,F)∈tbl:=by
     clear e h
     induction tbl with
     |nil=>cases e1
     |cons q t ih=>
      obtain⟨C',F'⟩:=q
      cases hb:(C==C') with
      |true=>
       simp only[List.lookup_cons,hb] at e1
       cases e1
       rw[beq_iff_eq] at hb
       subst hb
       exact List.mem_cons_self
      |false=>
       simp only[List.lookup_cons,hb] at e1
       exact List.mem_cons_of_mem _ (ih e1)
    obtain⟨c,f,fd,h1,h2,h3⟩:=h _ hin
    exact⟨C,fs,r,f,fd,F,rfl,by simpa using hn,c,h1,h2,h3,e2⟩
   ·cases e
  ·cases e
theorem Mth.none:Mth P w K mg base k m ps ms rm (fun _=>none):=⟨fun _ _ e=>nomatch e⟩
end
end Sw
namespace Sw
open PySem PySem.Spec PyProof.Rows L2
variable [NmC]
def Md.re:Md->Sh->Md
 | .ow _,s=>.ow s
 | .pn v _,s=>.pn v s
 |m,_=>m
def DC (f:Str) (s:Sh):List (Str×Sh)->List (Str×Sh)
 | []=>[(f,s)]
 |(g,y)::r=>if g=f then (g,s)::r else (g,y)::DC f s r
section
variable {K:Frg} {O:Org} {H H':Hp} {G G':Sa} {Δ:List Md} {st:Ds} {σ:CS} {i:Nat} {md:Md} {s s':Sh} {d d':D} {v0 v:V} {L Lv:List Addr}
theorem dD.put {f:Str} {x:D} {w:V} {Lw:List Addr} (hx:Own K G' H' s' x w Lw) (hG: ∀p,G p->G' p) (ha:Agr G H H'): ∀{fs:List (Str×Sh)} {ds:List (Str×D)} {vs:List (Str×V)} {L:List Addr},(∀p∈L,H' p=H p)->dD K G H fs ds vs L→
  ∃L' M,M.Sublist L/\L'.Perm (Lw++M)/\dD K G' H' (DC f s' fs) (tW f x ds) (putF f w vs) L'
 | [],ds,vs,L,_,o=>by
  unfold dD at o
  obtain⟨rfl,rfl,rfl⟩:=o
  refine⟨Lw++[],[],List.Sublist.refl _,.refl _,?_⟩
  unfold DC tW putF dD
  refine⟨x,[],w,[],Lw,[],rfl,rfl,hx,?_,rfl⟩
  unfold dD
  exact⟨rfl,rfl,rfl⟩
 |(g,s0)::fs,ds,vs,L,hl,o=>by
  unfold dD at o
  obtain⟨d1,dr,v1,vr,L1,L2,rfl,rfl,o1,o2,rfl⟩:=o
  by_cases e:g=f
  ·refine⟨Lw++L2,L2,List.sublist_append_right _ _,.refl _,?_⟩
   unfold DC tW putF
   rw[if_pos e,if_pos e,if_pos e]
   unfold dD
   exact⟨x,dr,w,vr,Lw,L2,rfl,rfl,hx,dD.mono hG ha fs dr vr L2 (fun p m=>hl p (List.mem_append_right _ m)) o2,rfl⟩
  ·obtain⟨L',M,sl,pm,o'⟩:=dD.put (f:=f) hx hG ha (fun p m=>hl p (List.mem_append_right _ m)) o2
   refine⟨L1++L',L1++M,List.Sublist.append (List.Sublist.refl _) sl,(List.Perm.append_left L1 pm).trans (eO L1 Lw M),?_⟩
   unfold DC tW putF
   rw[if_neg e,if_neg e,if_neg e]
   unfold dD
   exact⟨d1,_,v1,_,L1,L',rfl,rfl,Own.mono hG ha s0 d1 v1 L1 (fun p m=>hl p (List.mem_append_left _ m)) o1,o',rfl⟩
end
end Sw
namespace Sw
open PySem PySem.Spec PyProof.Rows L2
variable [NmC]
section
variable {P:Program} {w:World} {K:Frg} {mg:Str->Option Value} {base:Heap} {k k':Nat} {C C1 C2 m:Str} {ps:List Str} {ms:List PM} {rm:VM} {F F1 F2:List D->Option FR} {f:Addr} {fd:FuncData}
theorem AR.ex {fa:List He.Fa} {fn:List He.DefD} {xs:List (Frg->Bool)} (c:AR fa fn (fun K=>xs.all fun f=>f K) K) (i:Nat) {g:Frg->Bool} (h:xs[i]? =some g:=by rfl):g K=true:=List.all_eq_true.mp c.2 _ (List.mem_of_getElem? h)
end
end Sw
namespace Sw
open PySem PySem.Spec PyProof.Rows L2
variable [NmC]
def D.Ab (x:D):Option D:=match x with
 | .lst ds=>(D.strs ds).bind fun xs=>if xs.length<=500/\(jw xs).length<64 then some (.lst ((fL (jw xs)).map D.str)) else none
 |_=>none
section
variable {X:Cx} {Δ:List Md} {st:Ds} {a:Expr} {ma:VM} {ra:Option D} {pos p p1 p2:Pos}
theorem FI (hc:X.calm=true) (g1:Gl X "sorted") (m1:X.mg "sorted" =none) (g2:Gl X "set") (m2:X.mg "set" =none) (ha:PX X Δ st a ma ra)
  (he1:starEach [a] X.env=(false,eval a X.env)::starEach [] X.env:=by rfl)
  (he3:starEach [.Call (.Name "set" p1) [a] [] p2] X.env=(false,eval (.Call (.Name "set" p1) [a] [] p2) X.env)::starEach [] X.env:=by rfl)
  (hp0:(backTo pos (starEach [] X.env)).any (·.1)=false:=by rfl) (hp2:(backTo p2 (starEach [] X.env)).any (·.1)=false:=by rfl):
  PX X Δ st (.Call (.Name "sorted" p) [.Call (.Name "set" p1) [a] [] p2] [] pos) (.nw (.ls .fz)) (b1 D.Ab ra):=
 bW (pe_callB (Aa hc) g1 m1 BZ (pa_cons (pe_callTy (FH hc) g2 m2 FA (pa_cons ha pa_nil he1) (by decide) (by decide) he1 hp2) pa_nil he3) (by decide) (by decide) he3 hp0)
  fun σ H Q ⟨O,G,d,rel,er,k⟩=>by
   obtain⟨x,e1,e2⟩:=bind1 er
   have hx: ∃ds xs,x= .lst ds/\D.strs ds=some xs/\(xs.length<=500/\(jw xs).length<64)/\D.lst ((fL (jw xs)).map D.str)=d:=by
    cases x <;> first|(cases e2;done)|skip
    rename_i ds
    obtain⟨xs,f1,f2⟩:=bind1 (show ((D.strs ds).bind fun xs=>if xs.length<=500/\(jw xs).length<64 then some (D.lst ((fL (jw xs)).map D.str)) else none)=some d from e2)
    obtain⟨f3,f4⟩:=aH f2
    exact⟨ds,xs,rfl,f1,f3,f4⟩
   obtain⟨ds,xs,rfl,f1,⟨f3,f5⟩,rfl⟩:=hx
   obtain⟨L,rg,_⟩:=id rel
   have gin0:=rg.gin
   refine rdE.go rel e1 fun v1 H1 G1 rel1 x1 hv1=> ?_
   have q1:=hv1.hb
   unfold Rep at q1
   obtain⟨l,vs,rfl,_,hl,rr⟩:=q1
   have ev:vs=xs.map V.str:=by
    rw[wK f1] at rr
    clear f1 f3 f5 k e1 er e2 hl hv1
    induction xs generalizing vs with
    |nil=>unfold aC at rr;exact rr
    |cons y ys ih=>
     rw[List.map_cons] at rr
     unfold aC at rr
     obtain⟨u,r,rfl,g1,g2⟩:=rr
     unfold Rep at g1
     rw[g1,ih r g2];rfl
   subst ev
   refine⟨l,xs,rfl,SqL.of hl,f3,fun p1 ls hp1 sm=> ?_⟩
   have e:=sm.len (iG xs)
   refine⟨p1,ls,rfl,by rw[upd_same],by rw[e];exact f5,fun p4 zs hp4 pm4 so=> ?_⟩
   have ez:fL ls=fL (jw xs):=by
    refine rJ (xs:=jw xs) ?_ ?_
    ·exact (List.mergeSort_perm _ _).trans ((List.perm_ext_iff_of_nodup sm.nd (iG xs).nd).mpr fun z=>(sm.mem z).trans ((iG xs).mem z).symm)
    ·rw[<-rJ pm4 so];exact so
   have ez':zs=fL (jw xs):=(rJ pm4 so).trans ez
   rw[ez']
   have ex:Ext H G (upd (upd H1 p1 (SetTO X.w p1 ls)) p4 (.lst ((fL (jw xs)).map V.str))) G1:=(x1.trans (.new hp1)).trans (.new hp4)
   have ginX: ∀p,G1 p->upd H1 p1 (SetTO X.w p1 ls) p≠none:=(x1.trans (.new hp1)).gin gin0
   exact k _ _ _ ex ((rE hp4 ginX (rK _)).back (x1.trans (.new hp1)))
end
end Sw
namespace Sw
open PySem PySem.Spec PyProof.Rows L2
section
variable {X:Cx} {pins:List (Addr×Obj)} {σ:L2.St} {JH:Hp->Prop} {a q I S:Addr} {xs:List V} {kf:Nat->Int} {Q:VK}
structure MxI (X:Cx) (pins:List (Addr×Obj)) (σ:L2.St) (JH:Hp->Prop) (I S:Addr) (oI oS:Obj) (H:Hp) (s:Shared):Prop where
 inv:Inv X pins σ H s
 j:JH H
 fI:FpOk X pins H I
 fS:FpOk X pins H S
 gI:s.heap.get? I=some oI
 gS:s.heap.get? S=some oS
theorem MxI.turn {oI oS oI' oS':Obj} {H:Hp} {s:Shared} {h':Heap} {tk:Nat} (m:MxI X pins σ JH I S oI oS H s) (k: ∀b o,b∉[I,S]->s.heap.get? b=some o->h'.get? b=some o) (eI:h'.get? I=some oI') (eS:h'.get? S=some oS'):
  MxI X pins σ JH I S oI' oS' H {s with heap:=h',toks:=tk}:=
 ⟨m.inv.turnedL k (fun b hb=>by
  rcases List.mem_cons.mp hb with rfl|hb
  ·exact m.fI
  ·rw[List.mem_singleton.mp hb];exact m.fS),m.j,m.fI,m.fS,eI,eS⟩
theorem MxI.call {oI oS:Obj} {H:Hp} {s:Shared} {i:Nat} {v:Value} {E:Value->Shared->Prop} {P:Value->Shared->Prop} (m:MxI X pins σ JH I S oI oS H s) (nI: ∀v,oI.data≠ .cell v) (nS: ∀v,oS.data≠ .cell v)
  (turn: ∀(pins1:List (Addr×Obj)) (H1:Hp) (s1:Shared),(∀p∈pins,p∈pins1)->Inv X pins1 σ H1 s1->JH H1->wpAny (model X.prog X.w) X.A.in1 (PySem.call (.ref q) [v]) (EP X pins1 σ fun y H2=>y= .int (kf i)/\JH H2) (fun _ _=>False) s1)
  (h: ∀(t:Tok) (H2:Hp) (s2:Shared),MxI X pins σ JH I S oI oS H2 s2->P (.int (kf i) t) s2):
  wpAny (model X.prog X.w) X.A.in1 (PySem.call (.ref q) [v]) P E s:=by
 have J:=m.inv.pinned (fp:=[I,S]) (fun b hb=>by
  rcases List.mem_cons.mp hb with rfl|hb
  ·exact m.fI
  ·rw[List.mem_singleton.mp hb];exact m.fS) (fun b hb=>by
  rcases List.mem_cons.mp hb with rfl|hb
  ·exact⟨oI,m.gI,nI⟩
  ·rw[List.mem_singleton.mp hb];exact⟨oS,m.gS,nS⟩)
 refine wpAny_mono (turn _ H s (fun p hp=>List.mem_append_left _ hp) J m.j) (fun u s2 hq=> ?_) fun _ _ hF=>hF.elim
 obtain⟨y,H2,J2,r,e,j2⟩:=hq
 subst e
 obtain⟨t,rfl⟩:=r
 have pin: ∀b o,b∈[I,S]->s.heap.get? b=some o->s2.heap.get? b=some o/\H2 b=none:=fun b o hb e=>
  let z:=J2.pin (b,o) (List.mem_append_right _ (List.mem_append_right _ (mem_pinsAt hb e)))
  ⟨z.1,z.2.1⟩
 have pI:=pin I oI (by simp) m.gI
 have pS:=pin S oS (by simp) m.gS
 exact h t H2 s2 ⟨J2.unpinned,j2,⟨pI.2,m.fI.2⟩,⟨pS.2,m.fS.2⟩,pI.1,pS.1⟩
end
end Sw
namespace Sw
open PySem PySem.Spec PyProof.Rows L2
structure LF where
 q:Str
 params:Arguments
 body:Expr
 scope:Scope
 cl:List (Str×Addr)
 c:Addr
abbrev LF.nf (F:LF):NdefX.NF:=⟨"<lambda>",F.q,F.params,[],F.scope,F.cl,F.c⟩
end Sw
namespace Sw
open PySem PySem.Spec PyProof.Rows L2
section
variable [NmC]
structure TabAt (base:Heap) (mg:Str->Option Value) (cdv:Value) (q:Str) (c P:Addr):Prop where
 code:cdv= .ref c
 tb:LamX.TabB base mg c P
 mem:(P,q)∈NmC.T
 uni: ∀p∈NmC.T,p.1=P->p.2=q
def J7 (base:Heap) (mg:Str->Option Value) (cdv:Value) (q:Str):Prop:= ∃c P,TabAt base mg cdv q c P
end
def uj (K:Frg) (tf:List (He.Defn×Str)):List (Addr×Str):=tf.map fun p=>((He.cT K p.1).2,p.2)
def Hw (K:Frg) (tf:List (He.Defn×Str)):Bool:=decide ((tf.map fun p=>(He.cT K p.1).2).Nodup)
theorem DD {K:Frg} {tf:List (He.Defn×Str)} (h:Hw K tf=true) {p:He.Defn×Str} (hp:p∈tf): ∀q∈uj K tf,q.1=(He.cT K p.1).2->q.2=p.2:=fun q hq e=>by
 obtain⟨r,hr,rfl⟩:=List.mem_map.mp hq
 have nd:=of_decide_eq_true h
 obtain⟨i,hi,ei⟩:=List.mem_iff_getElem.mp hr
 obtain⟨j,hj,ej⟩:=List.mem_iff_getElem.mp hp
 have pw:=List.pairwise_iff_getElem.mp nd
 have hl:(tf.map fun p=>(He.cT K p.1).2).length=tf.length:=List.length_map ..
 have e:(He.cT K r.1).2=(He.cT K p.1).2:=e
 rcases Nat.lt_trichotomy i j with l|l|l
 ·have z:=pw i j (by omega) (by omega) l
  rw[List.getElem_map,List.getElem_map,ei,ej] at z
  exact absurd e z
 ·subst l
  rw[ei] at ej;rw[ej]
 ·have z:=pw j i (by omega) (by omega) l
  rw[List.getElem_map,List.getElem_map,ei,ej] at z
  exact absurd e.symm z
section
variable {fa:List He.Fa} {fn:List He.DefD} {tf:List (He.Defn×Str)} {ex:Frg->Bool} {w:World} {h:Heap} {K:Frg}
abbrev Bg (fa:List He.Fa) (fn:List He.DefD) (tf:List (He.Defn×Str)) (ex:Frg->Bool) (w:World) (h:Heap) (K:Frg):Prop:=He.SaysX fa fn [] (tf.map (·.1)) (fun K=>Hw K tf&&ex K) w h K
theorem Bg.at_ (c:Bg fa fn tf ex w h K) {base:Heap} {mg:Str->Option Value} (TB: ∀p∈tf.map (fun p=>He.cT K p.1),LamX.TabB base mg p.1 p.2) {p:He.Defn×Str} (hp:p∈tf) {fd:FuncData} {oc:Value} {od:Option Addr} {osl:Array (Option Value)} {q:Str}
  (lk:K.lookup (He.fAd K p.1)=some ⟨oc,od,.func fd,osl⟩) (cd:PySem.W.codeIn K fd.code q=true): @J7 ⟨uj K tf⟩ base mg fd.code p.2:=by
 obtain⟨cc,e⟩:=He.codeIn_ref cd
 have e2:=He.codeOf_eq lk e
 letI:NmC:=⟨uj K tf⟩
 refine⟨cc,(He.cT K p.1).2,⟨e,?_,show _∈uj K tf from List.mem_map.mpr ⟨p,hp,rfl⟩,show ∀q∈uj K tf,_ from DD (Bool.and_eq_true_iff.mp c.more).1 hp⟩⟩
 have:=TB (He.cT K p.1) (List.mem_map.mpr ⟨p,hp,rfl⟩)
 rw[show (He.cT K p.1).1=cc from e2] at this
 exact this
theorem Bg.law {l:PySem.W.OpenLaw} {k n:Nat} {x:Str} {mg:Str->Option Value} {fa':Addr} {Fs:List D->Option FR} (KX:K.In h) (c:Bg fa fn tf ex w h K) {fd:FuncData} (hb: ∀(s:Shared) (v:Value),BindsTo s fd ⟨[v],[]⟩ [(x,v)])
  (hF: ∀base:Heap,K.In base->base.Ns mainGlobals mg->(∀p∈tf.map (fun p=>He.cT K p.1),LamX.TabB base mg p.1 p.2)->FnOk l.prog w K mg base CX0 k fa' fd [x] (@FSp ⟨uj K tf⟩ K [.bo] (.rg .fz) Fs))
  (hlaw: ∀ns:List Int,ns.length<=n->Fs [.sc ns]=some (.ok (.bl true) [])):LamX.LawAtS l w K CX0 k n x mg fa' h:=by
 refine⟨fd,tf.map (fun p=>He.cT K p.1),_,fun p hp=> ?_,fun p hp=> ?_,fun p hp=> ?_,hb,fun H a ns hl _ hT hS=> ?_,hF⟩
 ·obtain⟨q,hq,rfl⟩:=List.mem_map.mp hp
  exact c.empty _ (List.mem_map.mpr ⟨q,hq,rfl⟩)
 ·obtain⟨q,hq,rfl⟩:=List.mem_map.mp hp
  exact c.out _ (List.mem_map.mpr ⟨q,hq,rfl⟩)
 ·obtain⟨q,hq,rfl⟩:=List.mem_map.mp hp
  exact PySem.W.codeHd_of_K KX (c.hd _ (List.mem_map.mpr ⟨q,hq,rfl⟩))
 ·letI:NmC:=⟨uj K tf⟩
  refine Dq hS (hlaw ns hl) (fun p hp=> ?_)
  obtain⟨q,hq,rfl⟩:=List.mem_map.mp hp
  exact LamX.TabS.nil (hT _ (List.mem_map.mpr ⟨q,hq,rfl⟩))
end
end Sw
namespace Sw
open PySem PySem.Spec PyProof.Rows L2
variable [NmC]
section
variable {X:Cx} {e:Expr} {es:List Expr} {ta:TA}
theorem yN {S:Str} {cS:Addr} {mc:Value} {p1 p2 pos:Pos} {pl:Sem Bool} (hg:Gl X S) (hm:X.mg S=some (.ref cS)) (rd:ClX.CRead X.K cS mc) (vV:PySem.W.findCls X.K (.ref cS) mc "__init__" =some (.val (.builtin "ValueError.__init__"))) (ha:PA X (e::es) ta)
  (hc:eval (.Call (.Attribute (.Name S p1) "__init__" p2) (e::es) [] pos) X.env=(do
   let ov<-eval (.Name S p1) X.env
   standAt p2.atName
   let (f,first)<-holding [ov] (getMethod ov "__init__" pl)
   callWith pos f first (backTo pos (starEach (e::es) X.env)) (backToKw pos (keywordEach [] X.env))):=by rfl)
  (hdb:(S==("__debug__" :Str))=false:=by decide) (he:starEach (e::es) X.env=(false,eval e X.env)::starEach es X.env:=by rfl) (hpl:(backTo pos (starEach es X.env)).any (·.1)=false:=by rfl):
  PE X (.Call (.Attribute (.Name S p1) "__init__" p2) (e::es) [] pos) (tVeI X.K ta):=by
 refine⟨fun pins s σ H Q I h=> ?_⟩
 refine PySem.W.methodCall_KW (ld_glob I hg hm ?_ hdb) hc
 refine PySem.W.method_cls I.kIn rd.ga (PySem.W.cls_value I.kIn rd.rd vV (by rfl) ?_)
 show wpAny _ _ (callWith pos (Value.builtin "ValueError.__init__") [] (backTo pos (starEach (e::es) X.env)) []) _ _ _
 refine PyProof.Rows.callWith_method1 (thn (ha.run pos pins _ σ H _ (I.tok _) h) fun us s1 ⟨vs,H1,I1,r1,a,C,ws,ev,hl,T,ea,q⟩=> ?_) he hpl
 subst ev
 cases r1 with
 | @cons _ u0 _ ur ra rw'=>
  obtain rfl:u0=Value.ref a:=ra
  have hlen:ur.length<=sizeLine:=by
   rw[<-Paired.length rw',sizeLine_eq]
   omega
  exact oinit_ok T I1 ea hlen fun s' J=>⟨.non,H1,J,rfl,q⟩
def IE (K:Frg) (f:Str):TS:=fun D σ H=> ∃(a C:Addr) (v:V),σ[0]? =some (some (.ref a))/\σ[1]? =some (some v)/\OexC K C/\PySem.W.findIn K (.ref C) f=some none/\H a=some (exo a C none)∧
 ∀dx,H dx=none->dx≠a->D.nx σ (upd (upd H dx (exd dx [(f,v)])) a (exo a C (some dx)))
theorem Bh {c o v:Expr} {f txt:Str} {p q1 q2:Pos} (h1:PE X c (tVeI X.K (tCons (tVar 0) (tCons (tC (.str txt)) tNil)))) (ho:PE X o (tVar 0)) (hv:PE X v (tVar 1)) (hs1:swapsWith c none p.line X.env=pure false:=by rfl) (hs:swapsWith v (some (.Attribute o f q1)) q2.line X.env=pure false:=by rfl):
  PSs X [.Expr c p,.Assign [.Attribute o f q1] v q2] (IE X.K f):=
 cY (pss_cons (ps_expr h1 hs1) (pss_cons (ps_ost ho hv hs) pss_nil)) fun D σ H ⟨a,C,v,e0,e1,T,no,ea,k⟩=>
  ⟨.ref a,e0,a,C,[.str txt],rfl,by simp,T,ea,v,e1,.ref a,e0,a,C,rfl,T,no,.inl ⟨ea,fun dx n ne=>k dx n ne⟩⟩
end
def uk (K:Frg) (C:Addr) (f:Str):Sp:=fun vs H Q E=> ∃(a:Addr) (v:V),vs=[.ref a,v]/\H a=some (exo a C none)/\ ∀d,H d=none->d≠a->Q .non (upd (upd H d (exd d [(f,v)])) a (exo a C (some d)))
section
variable {P:Program} {w:World} {K:Frg} {mg:Str->Option Value} {base:Heap}
theorem IF {qual pn fld:Str} {st:Stmt} {f C:Addr} {fd:FuncData} (F:Fun K "__init__" qual st f fd) (S:FnScope ["self",pn] ["self",pn] (defScope st)) (T:OexC K C) (no:PySem.W.findIn K (.ref C) fld=some none)
  (h: ∀(cdv:Value) (A:Around) (outer:List Env) (s:Shared) (H:Hp) (E:XK),PSs (cxT P w K mg base ["self",pn] qual (defScope st) f cdv A outer s H E) (defBody st) (IE K fld)):
  FnOk P w K mg base CX0 1 f fd ["self",pn] (uk K C fld):=
 F.ok (k:=0) S (fun vs H Q E ⟨a,v,e,_⟩=>by rw[e];rfl) fun cdv A outer s H vs Q E hr ⟨a,v,ev,ea,q⟩=>⟨_,h cdv A outer s H E,by
  subst ev
  exact⟨a,C,v,rfl,rfl,T,no,ea,fun dx n ne=>q dx n ne⟩⟩
end
structure Xcl (P:Program) (w:World) (K:Frg) (mg:Str->Option Value) (base:Heap) (Cn fld:Str):Prop where
 ox:OexC K (He.ga K Cn)
 no:PySem.W.findIn K (.ref (He.ga K Cn)) fld=some none
 gm:mg Cn=some (.ref (He.ga K Cn))
 ini: ∃(fI:Addr) (fd:FuncData) (ps:List Str),PySem.W.findIn K (.ref (He.ga K Cn)) "__init__" =some (some (.ref fI))/\PySem.W.typeIn K (.ref fI)=some (.type "function")/\FnOk P w K mg base CX0 1 fI fd ps (uk K (He.ga K Cn) fld)/\Binds K fd ps []
section
variable {X:Cx} {α β:Type} {E:Exits α β} {Δ:List Md} {st:Ds} {rest:List Stmt} {e:Expr} {ra:Option D}
theorem eN.one {K:Frg} {S S':Sa} {H H':Hp} {f:Str} {d:D} {v:V} (h:Rep K S' H' d v):eN K S' H' [(f,d)] [(f,v)]:=by
 unfold eN
 exact⟨v,[],rfl,h,by unfold eN;rfl⟩
end
end Sw
namespace Sw
open PySem PySem.Spec PyProof.Rows L2
variable [NmC]
section
variable {P:Program} {w:World} {K:Frg} {mg:Str->Option Value} {base:Heap}
abbrev cxX (P:Program) (w:World) (K:Frg) (mg:Str->Option Value) (base:Heap) (N:List Str) (qual:Str) (sc:Scope) (f:Addr) (cdv:Value) (A:Around) (outer:List Env) (s:Shared) (H:Hp) (E:XK):Cx:=
 cxOf (L2.CX P w) P w K mg base N qual sc f cdv A outer s H E
theorem IG {N:List Str} {qual:Str} {sc:Scope} {f:Addr} {cdv:Value} {A:Around} {outer:List Env} {s:Shared} {H:Hp} {E:XK}:Takes (cxX P w K mg base N qual sc f cdv A outer s H E) (fun c d _ H=>E c d H):=takes_of rfl rfl rfl rfl
theorem IH {x qual:Str} {st:Stmt} {f:Addr} {fd:FuncData} {N ps:List Str} {k n:Nat} {ms:List PM} {rm:VM} {Fs:List D->Option FR} (F:Fun K x qual st f fd) (S:FnScope N ps (defScope st)) (hl:ms.length=ps.length) (hn:N.length=ps.length+n)
  (h: ∀(cdv:Value) (A:Around) (outer:List Env) (s:Shared) (H:Hp) (vs:List V) (E:XK),Room k (A.deeper (envOfC qual (defScope st) s.heap.objs.size f cdv))->vs.length=ms.length-> ∀ds fr,ds.length=ms.length->Fs ds=some fr→
   ∃m,Blk (cxX P w K mg base N qual (defScope st) f cdv A outer s H E) (fnX rm (bZ ms vs) E) (vj ms vs++List.replicate n .fz) (ds.map some++List.replicate n none) (defBody st) m/\m.bind outF=some fr):
  FnOk P w K mg base (L2.CX P w) (k+1) f fd ps (FSp K ms rm Fs):=by
 obtain⟨oc,od,kV,doc,pm,an,cdv,ct,osl,rfl,lk,hcd⟩:=F.ex
 refine fn_of lk hcd S (fun vs H Q E ⟨O,ds,fr,e,g,a,_⟩=>a.len.1.trans hl) (fun A outer s H vs Q E hr ⟨O,ds,fr,e,g,a,ef,q⟩=> ?_)
 obtain⟨hv,hd⟩:=a.len
 obtain⟨m,hb,hm⟩:=h cdv A outer s H vs E hr hv ds fr hd ef
 refine⟨_,hb,?_⟩
 obtain⟨o,e1,e2⟩:=bind1 hm
 have hs:L2.start N vs=vs.map some++List.replicate n none:=by
  unfold L2.start
  rw[show N.length -vs.length=n by omega]
 rw[hs]
 refine⟨O,O.G0,o,⟨O.L0,g,nF a⟩,e1,?_⟩
 cases o with
 |nx a=>exact a.elim
 |bk a=>exact a.elim
 |ct a=>exact a.elim
 |ret d os=>
  cases e2
  exact fun v H' G' r=>⟨q v H' G' r,fun _ ev σ=>by subst ev;exact q _ H' G' r⟩
 |exc x=>
  cases e2
  exact fun c od H' G' r=>q c od H' G' r
end
structure FJ (P:Program) (w:World) (K:Frg) (mg:Str->Option Value) (base:Heap) (k:Nat) (x:Str) (ps:List Str) (ms:List PM) (rm:VM) (Fs:List D->Option FR):Prop where
 ok: ∃(f:Addr) (fd:FuncData),FnOk P w K mg base (L2.CX P w) k f fd ps (FSp K ms rm Fs)/\mg x=some (.ref f)/\PySem.W.keepIn K (.ref f)=true/\Binds K fd ps []
def XcF (K:Frg) (x:Xn) (c:Value) (od:Option Addr) (H:Hp) (G:Sa):Prop:=
 c= .ref (He.ga K x.C)/\((x.fs=[]/\od=none)\/ ∃a fvs,od=some a/\H a=some (.xd fvs)/\eN K G H x.fs fvs)
def rdB {γ:Type} (K:Frg) (W:WX) (Δ:List Md) (st:Ds) (Δ':List Md) (el:γ->Ds) (mb:Option (Xn ⊕ γ)):TS:=fun De σ H=> ∃O G r,Rel K O Δ st σ H G/\mb=some r/\match r with
 | .inl x=> ∀c od H' G',Rel K O Δ st σ H' G'->XcF K x c od H' G'->W c od σ H'
 | .inr g=> ∀σ' H' G',Rel K O Δ' (el g) σ' H' G'->De.nx σ' H'
def frB {γ:Type} (k:D->γ):FR->Option (Xn ⊕ γ)
 | .ok d []=>some (.inr (k d))
 | .ok _ _=>none
 | .er x=>some (.inl x)
section
variable {X:Cx} {Δ:List Md} {st:Ds} {e:Expr} {es:List Expr} {rm:VM} {rs:Option (List D)} {pos p:Pos} {vms:List VM} {ps:List PM} {Fs:List D->Option FR} {k k':Nat} {pn:List Str} {x:Str}
theorem DE {W:WX} {H:Hp} {σ:CS} {Q:VK} (ok:mC ps vms=true) (h: ∃O G fr,Rel X.K O Δ st σ H G/\(rs.bind Fs)=some fr/\match fr with
   | .ok d []=> ∀v H' G',Ext H G H' G'->bE X.K O H H' G' rm d v->Q v H'
   | .ok _ _=>False
   | .er x=> ∀c od H' G',Rel X.K O Δ st σ H' G'->XcF X.K x c od H' G'->W c od σ H'):tCallS (FSp X.K ps rm Fs) (WE W) (rdA X.K Δ st vms rs) σ H Q:=by
 obtain⟨O,G,fr,rel,er,kk⟩:=h
 obtain⟨ds,e1,e3⟩:=bind1 er
 refine rdA.go rel e1 fun vs H1 G1 rel1 x1 v1=> ?_
 obtain⟨ha,hp⟩:=qN ok v1
 cases fr with
 |er x=>
  refine⟨Org.all H1 G1,ds,_,rfl,mU rel1.tb rel1.gin,ha,e3,fun c od H' G' ⟨ec,⟨L,g⟩,hx⟩=> ?_⟩
  have x2:=wG g
  refine kk c od H' G' (rel1.ext x2) ⟨ec,?_⟩
  rcases hx with h|⟨a,fvs,e1,e2,_,_,r⟩
  ·exact .inl h
  ·exact .inr ⟨a,fvs,e1,e2,r⟩
 |ok d' os=>
  cases os with
  |cons x xs=>exact kk.elim
  |nil=>
   refine⟨Org.all H1 G1,ds,_,rfl,mU rel1.tb rel1.gin,ha,e3,fun v H' G' r=> ?_⟩
   rw[hp] at r
   obtain⟨_,x2,hv⟩:=td r
   exact kk v H' G' (x1.trans x2) ((hv O).back x1)
end
end Sw
namespace Sw
open PySem PySem.Spec PyProof.Rows L2
variable [NmC]
theorem eN.look {K:Frg} {S:Sa} {H:Hp} {f:Str} {d:D}: ∀{fs:List (Str×D)} {vs:List (Str×V)},eN K S H fs vs->fs.lookup f=some d-> ∃v,vs.lookup f=some v/\Rep K S H d v
 | [],_,_,e=>by cases e
 |(g,d')::fs,vs,h,e=>by
  unfold eN at h
  obtain⟨v,r,rfl,h1,h2⟩:=h
  rw[List.lookup_cons] at e⊢
  by_cases q:(f==g)=true
  ·rw[q] at e⊢
   cases e
   exact⟨v,rfl,h1⟩
  ·have q:(f==g)=false:=by simpa using q
   rw[q] at e⊢
   exact eN.look h2 e
theorem XcF.ext {K:Frg} {x:Xn} {c:Value} {od:Option Addr} {H H1:Hp} {G G1:Sa} (x1:Ext H G H1 G1) (h:XcF K x c od H G):XcF K x c od H1 G1:=by
 obtain⟨e,h|⟨a,fvs,e1,e2,r⟩⟩:=h
 ·exact⟨e,.inl h⟩
 ·exact⟨e,.inr ⟨a,fvs,e1,x1.hh _ _ e2,r.mono x1.gg x1.agr⟩⟩
def rdZ (K:Frg) (Δ:List Md) (st:Ds) (x:Xn) (c:Value) (od:Option Addr) (m:VM) (r:Option D):TE:=fun σ H Q=>
 ∃O G d,Rel K O Δ st σ H G/\XcF K x c od H G/\r=some d/\ ∀v H' G',Ext H G H' G'->bE K O H H' G' m d v->Q v H'
def DF (K:Frg) (Δ:List Md) (st:Ds) (x:Xn) (c:Value) (od:Option Addr) (ms:List VM) (r:Option (List D)):TA:=fun σ H Q=>
 ∃O G d,Rel K O Δ st σ H G/\XcF K x c od H G/\r=some d/\ ∀v H' G',Ext H G H' G'->kP K O H H' G' ms d v->Q v H'
section
variable {X:Cx} {Δ:List Md} {st:Ds} {e:Expr} {es:List Expr} {m:VM} {ms:List VM} {ra:Option D} {rs:Option (List D)} {pos p:Pos} {x:Xn} {c:Value} {od:Option Addr}
theorem FL:PA X [] (DF X.K Δ st x c od [] (some [])):=vJ pa_nil fun σ H Q ⟨O,G,d,rel,_,er,k⟩=>by
 cases er
 exact k [] H G .refl rfl
theorem qS (ha:PE X e (rdZ X.K Δ st x c od m ra)) (hr:PA X es (DF X.K Δ st x c od ms rs)) (hs:starEach (e::es) X.env=(false,eval e X.env)::starEach es X.env:=by rfl):
  PA X (e::es) (DF X.K Δ st x c od (m::ms) (ra.bind fun y=>rs.bind fun ys=>some (y::ys))):=vJ (pa_cons ha hr hs) fun σ H Q ⟨O,G,d,rel,hx,er,k⟩=>by
 obtain⟨y,ys,e1,e2,e3⟩:=bD er
 cases e3
 refine⟨O,G,y,rel,hx,e1,fun v H1 G1 x1 v1=> ?_⟩
 exact⟨O,G1,ys,rel.ext x1,hx.ext x1,e2,fun w H2 G2 x2 v2=>k _ H2 G2 (x1.trans x2) ⟨v,w,rfl,v1.mono x2,v2.back x1⟩⟩
theorem II (h:PA X es (DF X.K Δ st x c od ms rs)) (hm:allM (.rg .fz) ms) {x1:Nat} (hl:es.length<=1000) (hlen: ∀ds,rs=some ds->ds.length<=1000):PE X (.Tuple es x1 pos) (rdZ X.K Δ st x c od (.rg .fz) (rs.bind fun ds=>some (.tup ds))):=
 bW (pe_tup h) fun σ H Q ⟨O,G,d,rel,hx,er,k⟩=>by
  obtain⟨ds,e1,e2⟩:=bind1 er
  cases e2
  refine⟨O,G,ds,rel,hx,e1,fun vs H1 G1 x1 v1=> ?_⟩
  have hr:=v1.CV hm
  refine⟨by rw[hr.length];exact Nat.le_of_lt (small1000 (hlen ds e1)),fun p hp=>k _ _ _ (x1.trans (.Ff hp)) ?_⟩
  unfold bE Rep
  exact⟨p,vs,rfl,⟨.inr rfl,upd_same⟩,aC.mono (fun _ g=>.inl g) (qK hp) ds vs hr⟩
theorem IJ {i:Nat} {a:Addr} {oe:Obj} {pn:List (Addr×Obj)} {Cn f n:Str} {np:Pos} (T:XfC X.K (He.ga X.K Cn)) (hno:PySem.W.findIn X.K (.ref (He.ga X.K Cn)) f=some none) (hz:Zc c od oe) (hf: ∃vs,oe.data= .fields vs)
  (hm:Δ[i]? =some .fz) (hd:st[i]? =some (some (.fn a))) (hN:X.N[i]? =some n) (hv:Vis X.env.scope n) (h1:(n==("__debug__" :Str))=false:=by decide) (h2:(n==("__classdict__" :Str))=false:=by decide)
  (hb:attributeBase (.Name n np) f X.env (eval (.Name n np) X.env)=eval (.Name n np) X.env:=by rfl):
  PE (X.suite a ((a,oe)::pn)) (.Attribute (.Name n np) f pos) (rdZ X.K Δ st x c od (.rg .fz) (if x.C=Cn then x.fs.lookup f else none)):=
 bW (pe_xf T hno hz hf (pe_var (X:=X.suite a ((a,oe)::pn)) hN hv h1 h2) hb) fun σ H Q ⟨O,G,d,rel,hx,er,k⟩=>by
  by_cases q:x.C=Cn
  ·rw[if_pos q] at er
   obtain⟨L,g,s⟩:=rel
   obtain⟨x',y',L1,L2,ex,ey,sr,_⟩:=s.split hm
   rw[hd] at ex;cases ex
   obtain⟨v,e1,r1,_⟩:=sr
   subst e1
   unfold Rep at r1
   subst r1
   obtain⟨ec,hx|⟨dd,fvs,e3,e4,r⟩⟩:=hx
   ·rw[hx.1] at er;cases er
   ·obtain⟨v',l,rv⟩:=r.look er
    exact⟨_,ey,rfl,by rw[ec,q],dd,fvs,v',e3,e4,l,k v' H G .refl rv⟩
  ·rw[if_neg q] at er;cases er
end
def IK {α β γ:Type} (mb:Option (Xn ⊕ γ)) (Cn:Str) (zf:Xn->Option D) (gx:D->γ) (k:γ->Option (Out α β)):Option (Out α β):=(mb.bind fun r=>match r with| .inl x=>if x.C=Cn then (zf x).map gx else none| .inr g=>some g).bind k
def IL (Cn f:Str) (x:Xn):Option D:=if x.C=Cn then x.fs.lookup f else none
section
variable {X:Cx} {α β γ:Type} {E:Exits α β} {Δ Δ':List Md} {st:Ds} {rest body:List Stmt} {e:Expr} {m:VM}
theorem FN (i j:Nat) {Cn n y:Str} {np py sp pos pos':Pos} {md:Md} {el:γ->Ds} {mb:Option (Xn ⊕ γ)} {zf:Xn->Option D} {gx:D->γ} {k:γ->Option (Out α β)}
  (hs:X.stack=X.env::X.outer) (hf:X.env.frame=some X.env.locals) (hN:X.N.Nodup) (hi:X.N[i]? =some n) (hln:X.env.kindOf n=some .local) (hc:Names X Cn (.ref (He.ga X.K Cn))) (hT:PySem.W.exmOne X.K (.ref (He.ga X.K Cn)) (.ref (He.ga X.K Cn))=some true)
  (hj:X.N[j]? =some y) (hly:Loc X.env.scope y) (hfy:X.fn y=true\/X.env.scope.names.lookup y=some .local)
  (hmi:Δ[i]? =some .fz) (hsi:st[i]? =some none) (hjl:j<Δ.length) (ij:i≠j) (hmd:wA m=some md)
  (hbody: ∀(W:WX) (pn:List (Addr×Obj)) (xe:Value->Shared->Prop),Takes (X.tr pn xe) W->PassesOwn (model X.prog X.w) X.A X.env xe->PSs (X.tr pn xe) body (rdB X.K W Δ st Δ' el mb))
  (hz: ∀(a:Addr) (oe:Obj) (cls:Value) (d:Option Addr) (pn:List (Addr×Obj)) (x:Xn),Zc cls d oe->(∃vs,oe.data= .fields vs)->PE (X.suite a ((a,oe)::pn)) e (rdZ X.K Δ (st.set i (some (.fn a))) x cls d m (zf x)))
  (hk: ∀g,Blk X E Δ' (el g) rest (k g)) (e1:Δ.set j md=Δ') (e2: ∀d,st.set j (some d)=el (gx d))
  (hsw:swapsWith e (some (.Name y py)) sp.line X.env=pure false:=by rfl):
  Blk X E Δ st (.Try body [.ExceptHandler (some (.Name Cn np)) (some n) [.Assign [.Name y py] e sp] pos'] [] [] pos::rest)
   (IK mb Cn zf gx k):=by
 refine cY (pss_cons (ps_try_as hs hf hN hi hln hc (takes0 (X:=X)) hbody (ts:=fun a cls d De σ H=> ∃x,rdZ X.K Δ (st.set i (some (.fn a))) x cls d m (zf x) σ H fun v H'=>De.nx (σ.set j (some v)) H') fun a oe cls d pn z fl=> ?_) (fY hk)) fun De σ H ⟨O,G,q,rel,er,kk⟩=> ?_
 ·exact fY fun x=>cY (pss_cons (ps_set (X:=X.suite a ((a,oe)::pn)) hN hj hly (hz a oe cls d pn x z fl) hsw hfy) pss_nil) fun De σ H h=>h
 ·obtain⟨g,e3,e4⟩:=bind1 er
  obtain⟨r,e5,e6⟩:=bind1 e3
  refine⟨O,G,r,rel,e5,?_⟩
  cases r with
  |inr g'=>
   cases e6
   exact fun σ' H' G' rel'=>⟨g,O,G',q,rel',e4,kk⟩
  |inl x=>
   intro c od H' G' rel' hx
   by_cases qC:x.C=Cn
   ·have e6:(if x.C=Cn then (zf x).map gx else none)=some g:=e6
    rw[if_pos qC] at e6
    obtain⟨d,e7,rfl⟩:=jf e6
    have ec:c= .ref (He.ga X.K Cn):=by rw[hx.1,qC]
    refine⟨true,by rw[ec];exact hT,fun _ a na=>⟨x,O,G',d,?_,hx,e7,fun v H2 G2 x2 v2=> ?_⟩,fun z=>by cases z⟩
    ·have il:i<Δ.length:=(List.getElem?_eq_some_iff.mp hmi).1
     have:=rel'.p6 (m:=.rg .fz) (md:=.fz) (i:=i) (d:=.fn a) (v:=.ref a) .refl il rfl (by unfold bE Rep;rfl)
     have eΔ:Δ.set i .fz=Δ:=by
      obtain⟨h,e⟩:=List.getElem?_eq_some_iff.mp hmi
      rw[<-e];exact List.set_getElem_self h
     rw[eΔ] at this
     exact this
    ·refine⟨gx d,O,G2,q,?_,e4,kk⟩
     have il:i<Δ.length:=(List.getElem?_eq_some_iff.mp hmi).1
     have:=rel'.p6 x2 hjl hmd v2
     rw[e1,e2 d] at this
     obtain⟨L,g2,s2⟩:=this
     have hmi':Δ'[i]? =some .fz:=by rw[<-e1,List.getElem?_set_ne (Ne.symm ij)];exact hmi
     obtain⟨x',y',L1,L2,ex,ey,sr,pm,f⟩:=s2.split hmi'
     have ex2:(el (gx d))[i]? =some none:=by rw[<-e2 d,List.getElem?_set_ne (Ne.symm ij)];exact hsi
     rw[ex2] at ex;cases ex
     have l1:L1=[]:=sr
     subst l1
     obtain⟨L',pm',s3⟩:=f G2 H2 .fz none none [] (fun _ h=>h) aB aB (fun _ _=>rfl) rfl
     have h1:Δ'.set i .fz=Δ':=by
      obtain⟨h,e⟩:=List.getElem?_eq_some_iff.mp hmi'
      rw[<-e];exact List.set_getElem_self h
     have h2:(el (gx d)).set i none=el (gx d):=by
      obtain⟨h,e⟩:=List.getElem?_eq_some_iff.mp ex2
      rw[<-e];exact List.set_getElem_self h
     rw[h1,h2] at s3
     have hσ:((σ.set i (some (.ref a))).set j (some v)).set i none=(σ.set j (some v)).set i none:=by
      rw[List.set_comm _ _ ij,List.set_set]
     rw[hσ]
     exact⟨L',g2.perm (pm.trans pm'.symm),s3⟩
   ·have e6:(if x.C=Cn then (zf x).map gx else none)=some g:=e6
    rw[if_neg qC] at e6;cases e6
end
end Sw
namespace Sw
open PySem PySem.Spec PyProof.Rows L2
variable [NmC]
theorem FP {K:Frg} {C:Addr} (q:HX K C=true): ∃nm q N bs bm sn sub ab col dd k0 k1 k2 k3 k5,K.lookup C=some (excClassObj nm q C N bs bm true sn sub ab col dd k0 k1 k2 k3 k5 "ValueError.__new__")/\PySem.HandSPX.refsVE bm=true:=by
 unfold HX at q
 split at q
 ·rename_i dd cd sl ho
  split at q
  ·rename_i C' bm k0 k1 k2 k3 n k5 hm hs
   simp only[Bool.and_eq_true,beq_iff_eq,Bool.not_eq_true'] at q
   obtain⟨⟨⟨⟨rfl,rfl⟩,hdel⟩,hd⟩,hv⟩:=q
   obtain⟨nm,bs,mro,ns,qn,hd',sn,sub,ab,col,del⟩:=cd
   dsimp only at hm hdel hd
   subst hm hdel hd
   have hsl:sl= #[k0,k1,k2,k3,some (.builtin "ValueError.__new__"),k5]:=by
    obtain⟨l⟩:=sl
    simp only at hs
    rw[hs]
   subst hsl
   exact⟨nm,qn,ns,bs,bm,sn,sub,ab,col,dd,k0,k1,k2,k3,k5,ho,hv⟩
  ·cases q
 ·cases q
theorem FQ {K:Frg} {C:Addr} (h:HY K C=true):PySem.W.findCls K (.ref C) (.type "type") "__init__" =some (.val (.builtin "ValueError.__init__")):=by
 unfold HY at h
 split at h
 ·rename_i n e
  rw[e,eq_of_beq h]
 ·cases h
structure Ac (K:Frg) (Cn fld S:Str):Prop where
 ox:OexC K (He.ga K Cn)
 no:PySem.W.findIn K (.ref (He.ga K Cn)) fld=some none
 xf:XfC K (He.ga K Cn)
 tr:PySem.W.exmOne K (.ref (He.ga K Cn)) (.ref (He.ga K Cn))=some true
 ii:PySem.W.findIn K (.ref (He.ga K Cn)) "__init__" =some (some (.ref (He.ma K (He.ga K Cn) "__init__")))
 it:PySem.W.typeIn K (.ref (He.ma K (He.ga K Cn) "__init__"))=some (.type "function")
 rd:ClX.CRead K (He.ga K S) (.type "type")
 vv:PySem.W.findCls K (.ref (He.ga K S)) (.type "type") "__init__" =some (.val (.builtin "ValueError.__init__"))
theorem IM {K:Frg} {Cn fld S:Str} (h:xcB K Cn fld S=true):Ac K Cn fld S:=by
 obtain⟨h1,h⟩:=Bool.and_eq_true_iff.mp h
 obtain⟨h2,h⟩:=Bool.and_eq_true_iff.mp h
 obtain⟨h3,h⟩:=Bool.and_eq_true_iff.mp h
 obtain⟨h4,h⟩:=Bool.and_eq_true_iff.mp h
 obtain⟨h5,h⟩:=Bool.and_eq_true_iff.mp h
 obtain⟨h6,h⟩:=Bool.and_eq_true_iff.mp h
 obtain⟨h7,h⟩:=Bool.and_eq_true_iff.mp h
 obtain⟨h8,h⟩:=Bool.and_eq_true_iff.mp h
 obtain⟨h9,h⟩:=Bool.and_eq_true_iff.mp h
 obtain⟨h10,h⟩:=Bool.and_eq_true_iff.mp h
 obtain⟨h11,h⟩:=Bool.and_eq_true_iff.mp h
 obtain⟨h12,h13⟩:=Bool.and_eq_true_iff.mp h
 exact⟨⟨FP h1,He.eqO_ok h2,of_decide_eq_true h3,of_decide_eq_true h4,h5⟩,He.eqO_ok h6,xfB_ok h7,of_decide_eq_true h8,He.eqO_ok h9,of_decide_eq_true h10,⟨h11,He.eqO_ok h12⟩,FQ h13⟩
theorem Ac.cl {P:Program} {w:World} {K:Frg} {mg:Str->Option Value} {base:Heap} {Cn fld S pn:Str} {fd:FuncData} (T:Ac K Cn fld S) (gm:mg Cn=some (.ref (He.ga K Cn))) (F:FnOk P w K mg base CX0 1 (He.ma K (He.ga K Cn) "__init__") fd ["self",pn] (uk K (He.ga K Cn) fld)) (hb:Binds K fd ["self",pn] []):Xcl P w K mg base Cn fld:=
 ⟨T.ox,T.no,gm,_,fd,_,T.ii,T.it,F,hb⟩
end Sw
namespace Sw
open PySem PySem.Spec PyProof.Rows L2
variable [NmC]
def D.there:D->Option D
 | .non=>none
 |d=>some d
end Sw
namespace Sw
open PySem PySem.Spec PyProof.Rows L2
variable [NmC]
structure DG (K:Frg) (C:Str) (tc:List (Str×Bool)) (tt:List (String×Bool)) (th:List Str):Prop where
 hc:(PySem.W.clsIn K (He.ga K C)).isSome=true
 hg:PySem.W.findIn K (.ref (He.ga K C)) "__getattribute__" =some (some (.builtin "BaseException.__getattribute__"))
 hk:PySem.W.findIn K (.ref (He.ga K C)) "__getattr__" =some none
 hs:PySem.W.subIn K (.ref (He.ga K C)) (.type "BaseException")=some true
 ha:PySem.W.findIn K (.ref (He.ga K C)) "__class__" =some (some (.builtin "object.__class__"))
 hn:PySem.W.specialIn K (.builtin "object.__class__") "__get__" =some (some (.builtin "getset_descriptor.__get__"))
 ht:PySem.W.takesIn K (.builtin "object.__class__")=some true
 hm:PySem.W.mroIn K (He.ga K C) (.type "object")=some true
 kc: ∀q∈tc,PySem.W.kitOne K (.ref (He.ga K C)) (.ref (He.ga K q.1))=some q.2
 kt: ∀q∈tt,PySem.W.kitOne K (.ref (He.ga K C)) (.type q.1)=some q.2
 ex: ∀q∈th,PySem.W.exmOne K (.ref (He.ga K C)) (.ref (He.ga K q))=some true
theorem FT {K:Frg} {C:Str} {tc:List (Str×Bool)} {tt:List (String×Bool)} {th:List Str} (h:JQ K C tc tt th=true):DG K C tc tt th:=by
 obtain⟨h1,h⟩:=Bool.and_eq_true_iff.mp h
 obtain⟨h2,h⟩:=Bool.and_eq_true_iff.mp h
 obtain⟨h3,h⟩:=Bool.and_eq_true_iff.mp h
 obtain⟨h4,h⟩:=Bool.and_eq_true_iff.mp h
 obtain⟨h5,h⟩:=Bool.and_eq_true_iff.mp h
 obtain⟨h6,h⟩:=Bool.and_eq_true_iff.mp h
 obtain⟨h7,h⟩:=Bool.and_eq_true_iff.mp h
 obtain⟨h8,h⟩:=Bool.and_eq_true_iff.mp h
 obtain⟨h9,h⟩:=Bool.and_eq_true_iff.mp h
 obtain⟨h10,h11⟩:=Bool.and_eq_true_iff.mp h
 exact⟨h1,He.eqO_ok h2,He.eqO_ok h3,of_decide_eq_true h4,He.eqO_ok h5,He.eqO_ok h6,of_decide_eq_true h7,of_decide_eq_true h8,fun q hq=>of_decide_eq_true (List.all_eq_true.mp h9 q hq),fun q hq=>of_decide_eq_true (List.all_eq_true.mp h10 q hq),fun q hq=>of_decide_eq_true (List.all_eq_true.mp h11 q hq)⟩
def L9 (K:Frg) (D a:Addr) (od:Option Addr):List V->Hp->VK->Prop:=fun xs H Q=> ∃(c:V) (cv:Value) (b:Bool),xs=[.ref a,c]/\(∀u,L2.RelV c u->u=cv)/\PySem.W.kitOne K (.ref D) cv=some b/\(od=none\/ ∃dd fs,od=some dd/\H dd=some (.xd fs))/\Q (.bl b) H
theorem yO {X:Cx} {a:Addr} {od:Option Addr} {oe:Obj} {pn:List (Addr×Obj)} {C:Str} {tc:List (Str×Bool)} {tt:List (String×Bool)} {th:List Str} (F:DG X.K C tc tt th) (hz:Zc (.ref (He.ga X.K C)) od oe) (hf: ∃vs,oe.data= .fields vs):CallR (X.suite a ((a,oe)::pn)) (.builtin "isinstance") (L9 X.K (He.ga X.K C) a od):=by
 intro pins s σ H xs us Q I r h
 obtain⟨c,cv,b,rfl,hcv,e,hd,q⟩:=h
 cases r with
 |cons rx rr=>
  cases rr with
  |cons rt rr=>
   cases rr
   cases rx
   have ec:=hcv _ rt
   subst ec
   obtain⟨hget,_⟩:=I.pin (a,oe) (List.mem_append.mpr (.inl List.mem_cons_self))
   obtain⟨vs,hv⟩:=hf
   have ncl:PySem.W.notCls oe:=by unfold PySem.W.notCls;rw[hv] <;> rfl
   rcases hd with rfl|⟨dd,fs,rfl,hdd⟩
   ·have J:PySem.W.InstAt s.heap a oe (He.ga X.K C) none:=⟨hget,hz.1,ncl,by rw[hz.2];trivial⟩
    exact PySem.W.kia_one (PySem.W.kitx_exc F.hc F.hg F.hk F.hs F.ha F.hn F.ht F.hm) I.kIn J e (fun z=>nomatch z) fun tk=>⟨.bl b,H,I.kept (t':=tk) fun _ _ z=>z,rfl,q⟩
   ·have hx:ObjOk X.prog X.w H s.heap dd (.xd fs):=I.hok dd _ hdd
    obtain⟨mA,hns,_⟩:=hx
    obtain⟨od',ho,_⟩:=lookIn_ns hns
    have J:PySem.W.InstAt s.heap a oe (He.ga X.K C) (some od'):=⟨hget,hz.1,ncl,by rw[hz.2];exact ho⟩
    exact PySem.W.kia_one (PySem.W.kitx_exc F.hc F.hg F.hk F.hs F.ha F.hn F.ht F.hm) I.kIn J e (fun z=>nomatch z) fun tk=>⟨.bl b,H,I.kept (t':=tk) fun _ _ z=>z,rfl,q⟩
def isX (Cn:Str) (b:Bool) (x:Xn):Option D:=if x.C=Cn then some (.bl b) else none
section
variable {X:Cx} {Δ:List Md} {st:Ds} {e b:Expr} {rest:List Expr} {ra rb:Option D} {pos p:Pos} {x:Xn} {c:Value} {od:Option Addr} {r rg:Rg}
theorem yP {i:Nat} {a:Addr} {σ:CS} {H:Hp} {O:Org} {G:Sa} (rel:Rel X.K O Δ st σ H G) (hm:Δ[i]? =some .fz) (hd:st[i]? =some (some (.fn a))):σ[i]? =some (some (.ref a)):=by
 obtain⟨L,g,s⟩:=rel
 obtain⟨x',y',L1,L2,ex,ey,sr,_⟩:=s.split hm
 rw[hd] at ex;cases ex
 obtain⟨v,e1,r1,_⟩:=sr
 subst e1
 unfold Rep at r1
 subst r1
 exact ey
theorem Hx {K:Frg} {H:Hp} {G:Sa} (h:XcF K x c od H G):od=none\/ ∃dd fs,od=some dd/\H dd=some (.xd fs):=by
 obtain⟨_,h|⟨a,fvs,e1,e2,_⟩⟩:=h
 ·exact .inl h.2
 ·exact .inr ⟨a,fvs,e1,e2⟩
theorem DH {i:Nat} {a:Addr} {oe:Obj} {pn:List (Addr×Obj)} {Cn Dn n:Str} {np pT:Pos} {q:Bool} {tc:List (Str×Bool)} {tt:List (String×Bool)} {th:List Str} (F:DG X.K Cn tc tt th) (hq:(Dn,q)∈tc) (hz:Zc c od oe) (hf: ∃vs,oe.data= .fields vs)
  (hg:Gl X "isinstance") (hi:X.mg "isinstance" =none) (hgT:Gl X Dn) (hmT:X.mg Dn=some (.ref (He.ga X.K Dn)))
  (hm:Δ[i]? =some .fz) (hd:st[i]? =some (some (.fn a))) (hN:X.N[i]? =some n) (hv:Vis X.env.scope n) (h1:(n==("__debug__" :Str))=false:=by decide) (h2:(n==("__classdict__" :Str))=false:=by decide) (h3:(Dn==("__debug__" :Str))=false:=by decide)
  (hst:starEach [.Name n np,.Name Dn pT] X.env=(false,eval (.Name n np) X.env)::starEach [.Name Dn pT] X.env:=by rfl) (hst2:starEach [.Name Dn pT] X.env=(false,eval (.Name Dn pT) X.env)::starEach [] X.env:=by rfl) (hpl:(backTo pos (starEach [.Name Dn pT] X.env)).any (·.1)=false:=by rfl):
  PE (X.suite a ((a,oe)::pn)) (.Call (.Name "isinstance" p) [.Name n np,.Name Dn pT] [] pos) (rdZ X.K Δ st x c od (.rg .fz) (isX Cn q x)):=by
 by_cases qC:c= .ref (He.ga X.K Cn)
 ·subst qC
  refine bW (pe_callB (X:=X.suite a ((a,oe)::pn)) (yO F hz hf) hg hi mE (pa_cons (pe_var (X:=X.suite a ((a,oe)::pn)) hN hv h1 h2) (pa_cons (C8.pe_gc (X:=X.suite a ((a,oe)::pn)) (v:=.ref (He.ga X.K Dn)) hgT ⟨_,hmT,(rfl:L2.RelV (.ref (He.ga X.K Dn)) (.ref (He.ga X.K Dn)))⟩ h3) pa_nil hst2) hst) (by decide) (by decide) hst hpl) fun σ H Q ⟨O,G,d,rel,hx,er,k⟩=> ?_
  obtain⟨_,rfl⟩:=aH er
  exact⟨.ref a,yP rel hm hd,.ref (He.ga X.K Dn),.ref (He.ga X.K Dn),q,rfl,fun u r=>r,F.kc _ hq,Hx hx,k _ H G .refl mS⟩
 ·exact⟨fun pins s σ H Q I ⟨O,G,d,rel,hx,er,k⟩=>by
   obtain⟨e,rfl⟩:=aH er
   exact absurd (by rw[hx.1,e]) qC⟩
theorem IP {i:Nat} {a:Addr} {oe:Obj} {pn:List (Addr×Obj)} {Cn n Tn:Str} {T:String} {np pT:Pos} {q:Bool} {tc:List (Str×Bool)} {tt:List (String×Bool)} {th:List Str} (F:DG X.K Cn tc tt th) (hq:(T,q)∈tt) (hz:Zc c od oe) (hf: ∃vs,oe.data= .fields vs)
  (hg:Gl X "isinstance") (hi:X.mg "isinstance" =none) (hgT:Gl X Tn) (hmT:X.mg Tn=none) (hb:bootBuiltins Tn=some (.type T))
  (hm:Δ[i]? =some .fz) (hd:st[i]? =some (some (.fn a))) (hN:X.N[i]? =some n) (hv:Vis X.env.scope n) (h1:(n==("__debug__" :Str))=false:=by decide) (h2:(n==("__classdict__" :Str))=false:=by decide) (h3:Tn≠"__name__" :=by decide) (h4:(Tn==("__debug__" :Str))=false:=by decide)
  (hst:starEach [.Name n np,.Name Tn pT] X.env=(false,eval (.Name n np) X.env)::starEach [.Name Tn pT] X.env:=by rfl) (hst2:starEach [.Name Tn pT] X.env=(false,eval (.Name Tn pT) X.env)::starEach [] X.env:=by rfl) (hpl:(backTo pos (starEach [.Name Tn pT] X.env)).any (·.1)=false:=by rfl):
  PE (X.suite a ((a,oe)::pn)) (.Call (.Name "isinstance" p) [.Name n np,.Name Tn pT] [] pos) (rdZ X.K Δ st x c od (.rg .fz) (isX Cn q x)):=by
 by_cases qC:c= .ref (He.ga X.K Cn)
 ·subst qC
  refine bW (pe_callB (X:=X.suite a ((a,oe)::pn)) (yO F hz hf) hg hi mE (pa_cons (pe_var (X:=X.suite a ((a,oe)::pn)) hN hv h1 h2) (pa_cons (pe_bltn (X:=X.suite a ((a,oe)::pn)) (v:=.ty T) hgT hmT hb rfl h3 h4) pa_nil hst2) hst) (by decide) (by decide) hst hpl) fun σ H Q ⟨O,G,d,rel,hx,er,k⟩=> ?_
  obtain⟨_,rfl⟩:=aH er
  exact⟨.ref a,yP rel hm hd,.ty T,.type T,q,rfl,fun u r=>r,F.kt _ hq,Hx hx,k _ H G .refl mS⟩
 ·exact⟨fun pins s σ H Q I ⟨O,G,d,rel,hx,er,k⟩=>by
   obtain⟨e,rfl⟩:=aH er
   exact absurd (by rw[hx.1,e]) qC⟩
theorem FU {x1:Nat} {e1 e2 e3 e4:Expr} {ra rb rc rd:Option D} (h:PA X [e1,e2,e3,e4] (DF X.K Δ st x c od [.rg .fz,.rg .fz,.rg .fz,.rg .fz] (aj ra (aj rb (aj rc (aj rd aI)))))):PE X (.Tuple [e1,e2,e3,e4] x1 pos) (rdZ X.K Δ st x c od (.rg .fz) (tupO (aj ra (aj rb (aj rc (aj rd aI)))))):=II h wI (by simp) fun ds e=>by
 obtain⟨_,_,_,e2,e3⟩:=bD e
 obtain⟨_,_,_,e5,e6⟩:=bD e2
 obtain⟨_,_,_,e8,e9⟩:=bD e5
 obtain⟨_,_,_,e11,e12⟩:=bD e8
 cases e11;cases e12;cases e9;cases e6;cases e3;simp
end
end Sw
namespace Sw
open PySem PySem.Spec PyProof.Rows L2
variable [NmC]
section
variable {X:Cx} {Δ Δ':List Md} {st:Ds} {e:Expr} {es:List Expr} {rm:VM} {rs:Option (List D)} {pos p:Pos} {vms:List VM} {ps:List PM} {Fs:List D->Option FR} {k k':Nat} {pn:List Str} {x:Str}
theorem FV {W:WX} {spos py:Pos} {md:Md} {y:Str} {γ:Type} {el:γ->Ds} (fe:D->γ) (i:Nat) (C:FJ X.prog X.w X.K X.mg X.base k x pn ps rm Fs) (hr:Room k' X.A) (tk:Takes X W) (ha:PAx X Δ st (e::es) vms rs) (hmd:wA rm=some md) (hi:i<Δ.length) (hnd:X.N.Nodup) (hN:X.N[i]? =some y) (hy:Loc X.env.scope y)
  (hΔ:Δ.set i md=Δ') (hel: ∀d,st.set i (some d)=el (fe d)) (hg:Gl X x:=by rfl) (hk:k<=k':=by decide) (ok:mC ps vms=true:=by rfl)
  (hs:swapsWith (.Call (.Name x p) (e::es) [] pos) (some (.Name y py)) spos.line X.env=pure false:=by rfl) (hf:X.fn y=true\/X.env.scope.names.lookup y=some .local:=by first|exact .inl rfl|exact .inr rfl|assumption)
  (hdb:(x==("__debug__" :Str))=false:=by decide) (he:starEach (e::es) X.env=(false,eval e X.env)::starEach es X.env:=by rfl) (hpl:(backTo pos (starEach es X.env)).any (·.1)=false:=by rfl):
  PSs X [.Assign [.Name y py] (.Call (.Name x p) (e::es) [] pos) spos] (rdB X.K W Δ st Δ' el ((rs.bind Fs).bind (frB fe))):=by
 obtain⟨f,fd,F,hm,hkp,hb⟩:=C.ok
 refine cY (pss_cons (ps_set hnd hN hy (pe_callS (E:=WE W) F (hr.mono hk) hg hm hkp hb (fun σ=>passAt tk σ) ha hdb he hpl) hs hf) pss_nil) fun De σ H ⟨O,G,r,rel,er,kk⟩=> ?_
 obtain⟨fr,e1,e2⟩:=bind1 er
 refine DE (rm:=rm) (W:=W) ok ⟨O,G,fr,rel,e1,?_⟩
 cases fr with
 |er x=>
  cases e2
  exact kk
 |ok d os=>
  cases os with
  |cons _ _=>cases e2
  |nil=>
   cases e2
   exact fun v H' G' x1 hv=>kk _ H' G' (by rw[<-hΔ,←hel d];exact rel.p6 x1 hi hmd hv)
end
def setB {γ:Type} (Fs:List D->Option FR) (rs:Option (List D)) (fe:D->γ):Option (Xn ⊕ γ):=(rs.bind Fs).bind (frB fe)
end Sw
namespace Sw
open PySem PySem.Spec PyProof.Rows L2
variable [NmC]
def D.emp (q:Bool) (x y:D):Option Bool:=match x,y with
 | .lst xs,.lst []=>some (xs.isEmpty==q)
 |_,_=>none
end Sw
namespace Sw
open PySem PySem.Spec PyProof.Rows L2
variable [NmC]
def rdX (K:Frg) (W:WX) (Δ:List Md) (st:Ds) (m:VM) (r:Option (Xn ⊕ D)):TE:=fun σ H Q=>
 ∃O G x,Rel K O Δ st σ H G/\r=some x/\match x with
  | .inr d=> ∀v H' G',Ext H G H' G'->bE K O H H' G' m d v->Q v H'
  | .inl x=> ∀c od H' G',Rel K O Δ st σ H' G'->XcR K [] O x c od H' G'->W c od σ H'
def DI (K:Frg) (W:WX) (Δ:List Md) (st:Ds) (ms:List VM) (r:Option (Xn ⊕ List D)):TA:=fun σ H Q=>
 ∃O G x,Rel K O Δ st σ H G/\r=some x/\match x with
  | .inr ds=> ∀vs H' G',Ext H G H' G'->kP K O H H' G' ms ds vs->Q vs H'
  | .inl x=> ∀c od H' G',Rel K O Δ st σ H' G'->XcR K [] O x c od H' G'->W c od σ H'
def frX:FR->Option (Xn ⊕ D)
 | .ok d []=>some (.inr d)
 | .ok _ _=>none
 | .er x=>some (.inl x)
def okX (r:Option D):Option (Xn ⊕ D):=r.map Sum.inr
def Bi:Option (Xn ⊕ List D):=some (.inr [])
def iR (a:Option (Xn ⊕ D)) (r:Option (Xn ⊕ List D)):Option (Xn ⊕ List D):=a.bind fun x=>match x with
 | .inl e=>some (.inl e)
 | .inr d=>r.bind fun y=>match y with
  | .inl e=>some (.inl e)
  | .inr ds=>some (.inr (d::ds))
def FW (rs:Option (Xn ⊕ List D)):Option (Xn ⊕ D):=rs.bind fun y=>match y with
 | .inl e=>some (.inl e)
 | .inr ds=>some (.inr (.tup ds))
def xbO {α β:Type} (r:Option (Xn ⊕ D)) (k:D->Option (Out α β)):Option (Out α β):=r.bind fun x=>match x with
 | .inl e=>some (.exc e)
 | .inr d=>k d
theorem XcR.f {K:Frg} {ps:List (V×Sh)} {O:Org} {x:Xn} {c:Value} {od:Option Addr} {H:Hp} {G:Sa} (h:XcR K ps O x c od H G):XcF K x c od H G:=by
 obtain⟨e,_,h|⟨a,fvs,e1,e2,_,_,r⟩⟩:=h
 ·exact⟨e,.inl h⟩
 ·exact⟨e,.inr ⟨a,fvs,e1,e2,r⟩⟩
section
variable {X:Cx} {W:WX} {Δ:List Md} {st:Ds} {e:Expr} {es:List Expr} {m rm:VM} {ms vms:List VM} {r:Option D} {rx:Option (Xn ⊕ D)} {rs:Option (Xn ⊕ List D)} {pos p:Pos} {ps:List PM} {Fs:List D->Option FR} {k k':Nat} {pn:List Str} {x:Str}
theorem Ad (h:PX X Δ st e m r):PE X e (rdX X.K W Δ st m (okX r)):=bW h fun σ H Q ⟨O,G,x,rel,er,kk⟩=>by
 unfold okX at er
 obtain⟨d,e1,e2⟩:=jf er
 subst e2
 exact⟨O,G,d,rel,e1,kk⟩
theorem DJ:PA X [] (DI X.K W Δ st [] Bi):=vJ pa_nil fun σ H Q ⟨O,G,x,rel,er,kk⟩=>by
 cases er
 exact kk [] H G .refl rfl
theorem mV (ha:PE X e (rdX X.K W Δ st m rx)) (hr:PA X es (DI X.K W Δ st ms rs)) (hs:starEach (e::es) X.env=(false,eval e X.env)::starEach es X.env:=by rfl):PA X (e::es) (DI X.K W Δ st (m::ms) (iR rx rs)):=
 vJ (pa_cons ha hr hs) fun σ H Q ⟨O,G,y,rel,er,kk⟩=>by
  obtain⟨a,e1,e2⟩:=bind1 er
  cases a with
  |inl a=>
   cases e2
   exact⟨O,G,.inl a,rel,e1,kk⟩
  |inr d=>
   obtain⟨b,e3,e4⟩:=bind1 e2
   refine⟨O,G,.inr d,rel,e1,fun v H1 G1 x1 v1=> ?_⟩
   refine⟨O,G1,b,rel.ext x1,e3,?_⟩
   cases b with
   |inl b=>cases e4;exact kk
   |inr ds=>cases e4;exact fun w H2 G2 x2 v2=>kk _ H2 G2 (x1.trans x2) ⟨v,w,rfl,v1.mono x2,v2.back x1⟩
theorem FX {x1:Nat} (h:PA X es (DI X.K W Δ st ms rs)) (hm:allM (.rg .fz) ms) (hlen: ∀ds,rs=some (.inr ds)->ds.length<=1000):PE X (.Tuple es x1 pos) (rdX X.K W Δ st (.rg .fz) (FW rs)):=
 bW (pe_tup h) fun σ H Q ⟨O,G,y,rel,er,kk⟩=>by
  obtain⟨a,e1,e2⟩:=bind1 er
  refine⟨O,G,a,rel,e1,?_⟩
  cases a with
  |inl a=>cases e2;exact kk
  |inr ds=>
   cases e2
   refine fun vs H1 G1 x1 v1=> ?_
   have hr:=v1.CV hm
   refine⟨by rw[hr.length];exact Nat.le_of_lt (small1000 (hlen ds e1)),fun p hp=>kk _ _ _ (x1.trans (.Ff hp)) ?_⟩
   unfold bE Rep
   exact⟨p,vs,rfl,⟨.inr rfl,upd_same⟩,aC.mono (fun _ g=>.inl g) (qK hp) ds vs hr⟩
theorem B4 {H:Hp} {σ:CS} {Q:VK} {O:Org} {G:Sa} {ds:List D} {rc:Xn ⊕ D} (ok:mC ps vms=true) (rel:Rel X.K O Δ st σ H G) (e3:(Fs ds).bind frX=some rc) {vs:List V} {H1:Hp} {G1:Sa} (x1:Ext H G H1 G1) (v1:kP X.K O H H1 G1 vms ds vs)
  (kk:match rc with
  | .inr d=> ∀v H' G',Ext H G H' G'->bE X.K O H H' G' rm d v->Q v H'
  | .inl x=> ∀c od H' G',Rel X.K O Δ st σ H' G'->XcR X.K [] O x c od H' G'->W c od σ H'):FSp X.K ps rm Fs vs H1 Q (WE W σ):=by
 have rel1:=rel.ext x1
 obtain⟨ha,hp⟩:=qN ok v1
 obtain⟨fr,e4,e5⟩:=bind1 e3
 cases fr with
 |er x=>
  cases e5
  refine⟨Org.all H1 G1,ds,_,rfl,mU rel1.tb rel1.gin,ha,e4,fun c od H' G' ⟨ec,⟨L,g⟩,hx⟩=> ?_⟩
  have x2:=wG g
  have rel2:=rel1.ext x2
  refine kk c od H' G' rel2 ⟨ec,?_,?_⟩
  ·obtain⟨L2,g2,_⟩:=rel2
   exact⟨L2,g2⟩
  ·rcases hx with h|⟨a,fvs,e1,e2,hn,ng,r⟩
   ·exact .inl h
   ·obtain⟨L1,g1,_⟩:=rel1
    exact .inr ⟨a,fvs,e1,e2,g1.back hn,ng,r⟩
 |ok d' os=>
  cases os with
  |cons x xs=>cases e5
  |nil=>
   cases e5
   refine⟨Org.all H1 G1,ds,_,rfl,mU rel1.tb rel1.gin,ha,e4,fun v H' G' r=> ?_⟩
   rw[hp] at r
   obtain⟨_,x2,hv⟩:=td r
   exact kk v H' G' (x1.trans x2) ((hv O).back x1)
end
section
variable {α β γ:Type} {X:Cx} {E:Exits α β} {Δ Δ':List Md} {st:Ds} {rest body:List Stmt} {e:Expr} {m:VM} {rx:Option (Xn ⊕ D)} {pos:Pos}
abbrev exW {α β:Type} (E:Exits α β):WX:=fun c d _ H=>E.xw c d H
theorem tm (i:Nat) (Δ':List Md) (st':D->Ds) {x:Str} {p':Pos} {md:Md} {k:D->Option (Out α β)} (he:PE X e (rdX X.K (exW E) Δ st m rx)) (h: ∀d,Blk X E Δ' (st' d) rest (k d)) (hx:Loc X.env.scope x) (hnd:X.N.Nodup) (hm:wA m=some md:=by rfl) (e1:Δ.set i md=Δ':=by rfl) (e2: ∀d,st.set i (some d)=st' d:=by intro _;rfl) (hi:i<Δ.length:=by exact Nat.le_of_ble_eq_true rfl) (hN:X.N[i]? =some x:=by rfl)
  (hs:swapsWith e (some (.Name x p')) pos.line X.env=pure false:=by rfl) (hf:X.fn x=true\/X.env.scope.names.lookup x=some .local:=by first|exact .inl rfl|exact .inr rfl|assumption):
  Blk X E Δ st (.Assign [.Name x p'] e pos::rest) (xbO rx k):=
 cY (pss_cons (ps_set hnd hN hx he hs hf) (fY h)) fun De σ H ⟨O,G,q,rel,er,kk⟩=>by
  obtain⟨a,e3,e4⟩:=bind1 er
  refine⟨O,G,a,rel,e3,?_⟩
  cases a with
  |inl a=>cases e4;exact fun c od H' G' _ hx=>kk c od H' G' hx
  |inr d=>exact fun v H1 G1 x1 v1=>⟨d,O,G1,q,by rw[<-e1,←e2 d];exact rel.p6 x1 hi hm v1,e4,kk⟩
theorem FY {K:Frg} {O:Org} {σ:CS} {H H1:Hp} {G G1:Sa} {d:D} {v:V} {os:List D} (rel:Rel K O Δ st σ H G) (x1:Ext H G H1 G1) (v1:bE K O H H1 G1 m d v) (hp:kF Δ st=some os) (hi:CO m=true):zU K m (BS Δ) O d os v H1 G1:=by
 obtain⟨L,g,s⟩:=rel
 have g1:=g.ext x1 s.kind (x1.gin g.gin)
 have s1:=Slots.mono (G':=G1) (H':=H1) x1.gg x1.agr x1.agr (fun p m=>x1.vI (s.kind p m)) s
 obtain⟨L',sl,p⟩:=s1.pins hp
 cases m with
 |rg r=>
  cases r with
  |fz=>exact⟨[],L',g1.sub sl,⟨v1,rfl⟩,p⟩
  |hb=>cases hi
  |bb=>cases hi
 |nw sh=>
  obtain⟨L1,nd,f,o⟩:=v1
  exact⟨L1,L',(g1.wy s1.kind (H0:=H) (fun p h=>g.back h) nd f fun p m=>(s.kind p m).ne).sub (List.Sublist.append (List.Sublist.refl _) sl),o,p⟩
 |sp r=>cases hi
theorem FZ {os:List D} (he:PE X e (rdX X.K (exW E) Δ st m rx)) (hm:E.rm=m) (hp:kF Δ st=some os) (hq:BS Δ=E.pins) (hi:CO m=true:=by rfl):Blk X E Δ st (.Return (some e) pos::rest) (xbO rx fun d=>some (.ret d os)):=
 cY (pss_cons (ps_ret he) pss_never) fun De σ H ⟨O,G,q,rel,er,kk⟩=>by
  obtain⟨a,e3,e4⟩:=bind1 er
  refine⟨O,G,a,rel,e3,?_⟩
  cases a with
  |inl a=>cases e4;exact fun c od H' G' _ hx=>kk c od H' G' hx
  |inr d=>
   cases e4
   refine fun v H1 G1 x1 v1=>(kk v H1 G1 ?_).1
   rw[hm,←hq]
   exact FY rel x1 v1 hp hi
theorem F0 {W:WX} {spos py:Pos} {md:Md} {y:Str} {el:γ->Ds} (fe:D->γ) (i:Nat) (he:PE X e (rdX X.K W Δ st m rx)) (hmd:wA m=some md) (hi:i<Δ.length) (hnd:X.N.Nodup) (hN:X.N[i]? =some y) (hy:Loc X.env.scope y)
  (hΔ:Δ.set i md=Δ') (hel: ∀d,st.set i (some d)=el (fe d)) (hs:swapsWith e (some (.Name y py)) spos.line X.env=pure false:=by rfl) (hf:X.fn y=true\/X.env.scope.names.lookup y=some .local:=by first|exact .inl rfl|exact .inr rfl|assumption):
  PSs X [.Assign [.Name y py] e spos] (rdB X.K W Δ st Δ' el (rx.map (Sum.map id fe))):=
 cY (pss_cons (ps_set hnd hN hy he hs hf) pss_nil) fun De σ H ⟨O,G,q,rel,er,kk⟩=>by
  obtain⟨a,e3,e4⟩:=jf er
  subst e4
  refine⟨O,G,a,rel,e3,?_⟩
  cases a with
  |inl a=>exact fun c od H' G' rel' hx=>kk c od H' G' rel' hx.f
  |inr d=>exact fun v H1 G1 x1 v1=>kk _ H1 G1 (by rw[<-hΔ,←hel d];exact rel.p6 x1 hi hmd v1)
end
end Sw
namespace Sw
open PySem PySem.Spec PyProof.Rows L2
variable [NmC]
mutual
def D.flt:D->Bool
 | .non=>true| .bl _=>true| .int _=>true| .str _=>true
 | .tup ds=>B5 ds
 |_=>false
def B5:List D->Bool
 | []=>true
 |d::ds=>d.flt&&B5 ds
end
mutual
def fC:Sh->D->Bool
 | .fz,d=>d.flt
 | .ls s,.lst ds=>ds.all fun d=>fC s d
 | .dc s,.dct ks=>ks.all fun k=>fC s k.2
 | .is fs,.ins _ ds=>qT fs ds
 |_,_=>false
def qT:List (Str×Sh)->List (Str×D)->Bool
 | [],_=>true
 |(_,s)::fs,ds=>match ds with
  | []=>false
  |d::dr=>fC s d.2&&qT fs dr
end
end Sw
namespace Sw
open PySem PySem.Spec PyProof.Rows L2
variable [NmC]
def D.tr:D->Option (D×D×D)
 | .tup [a,b,c]=>some (a,b,c)
 |_=>none
theorem gk.at {K:Frg} {S:Sa} {H:Hp}: ∀{ks:List (List Key×D)} {kvs:List (List Key×V)} {i:Nat} {k:List Key} {v:V},gk K S H ks kvs->kvs[i]? =some (k,v)-> ∃x,ks[i]? =some (k,x)/\Rep K S H x v
 | [],_,_,_,_,h,e=>by unfold gk at h;subst h;simp at e
 |(k0,x)::ks,_,0,k,v,h,e=>by
  unfold gk at h
  obtain⟨w,r,rfl,h1,h2⟩:=h
  simp at e
  obtain⟨rfl,rfl⟩:=e
  exact⟨x,rfl,h1⟩
 |(k0,x)::ks,_,i+1,k,v,h,e=>by
  unfold gk at h
  obtain⟨w,r,rfl,h1,h2⟩:=h
  obtain⟨y,e1,e2⟩:=gk.at (i:=i) h2 (by simpa using e)
  exact⟨y,by simpa using e1,e2⟩
end Sw
namespace Sw
open PySem PySem.Spec PyProof.Rows L2
variable [NmC]
abbrev Sh.gx (vs:List V):Sh:=.hl (vs.map .ex)
end Sw
namespace Sw
open PySem PySem.Spec PyProof.Rows L2
variable [NmC]
theorem RelV.fz {K:Frg} {O:Org} {Δ:List Md} {st:Ds} {σ:CS} {H:Hp} {G:Sa} {s:Sh} {d:D} {v:V} (h:RelV K O Δ st σ H G (.nw s) d v): ∃G',Rel K O Δ st σ H G'/\Rep K G' H d v:=by
 obtain⟨L,Lv,g,sl,ow⟩:=h
 have ow:Own K G H s d v Lv:=ow
 have nd:=List.nodup_append.mp g.nd
 refine⟨fun p=>G p\/p∈Lv,⟨L,⟨g.bin,g.fr0,fun p q=>.inl (g.gsub p q),fun p q=> ?_,fun p q=> ?_,g.dom,nd.2.1,fun p m=>⟨fun q=> ?_,(g.lg p (List.mem_append_right _ m)).2⟩,g.tl,g.tb⟩,Slots.mono (fun p q=>.inl q) aB aB (fun _ _=>rfl) sl⟩,Own.rep s d v Lv ow⟩
 ·rcases q with q|q
  ·exact g.gold p q
  ·rcases (g.lg p (List.mem_append_left _ q)).2 with h|h
   ·exact .inr (.inr (.inr h))
   ·exact .inr (.inl h)
 ·rcases q with q|q
  ·exact g.gin p q
  ·exact (Own.kind s d v Lv ow p q).ne
 ·rcases q with q|q
  ·exact (g.lg p (List.mem_append_right _ m)).1 q
  ·exact nd.2.2 p q p m rfl
end Sw
namespace Sw
open PySem PySem.Spec PyProof.Rows L2
variable [NmC]
section
variable {X:Cx} {e:Expr} {es:List Expr} {ta:TA} {p pos:Pos}
theorem DK {cx:CXT} {x:Str} {C g:Addr} {k:Nat} {fd:FuncData} {ps:List Str} {sp:Sp} (T:OexC X.K C) (i1:PySem.W.findIn X.K (.ref C) "__init__" =some (some (.ref g))) (i2:PySem.W.typeIn X.K (.ref g)=some (.type "function"))
  (Fi:FnOk X.prog X.w X.K X.mg X.base cx k g fd ps sp) (hr:Room (k+1) X.A) (hb:Binds X.K fd ps []) (hx:Passes cx X (fun _ _ _=>False)) (hg:Gl X x) (hm:X.mg x=some (.ref C)) (ha:PA X (e::es) ta)
  (hdb:(x==("__debug__" :Str))=false) (he:starEach (e::es) X.env=(false,eval e X.env)::starEach es X.env) (hpl:(backTo pos (starEach es X.env)).any (·.1)=false):
  L2N.PMk X (.Call (.Name x p) (e::es) [] pos) (tMkO C sp [] ta):=by
 intro pins s σ H Q iv hh
 obtain⟨n1,n2,n3,n4,bm,n5,n6,n7,n8,n9,n10,n11,n12,n13,n14,lkC,hbm⟩:=T.cls
 refine wpAny_Call_Name_kw (ld_glob iv hg hm ?_ hdb)
 refine PySem.W.callWith_K (h₀:=X.base) iv.ok.mod.kin T.kC (thn (ha.run pos pins s σ H _ iv hh) fun us s1 ⟨vs,H1,iv1,rv1,_,q1⟩=>⟨iv1.kIn,?_⟩) he hpl
 show wpAny _ _ (call (.ref C) us) _ _ _
 obtain⟨hp,gs,dr,tk,os⟩:=s1
 have le1:hp.objs.size<=hp.objs.size+1:=Nat.le_succ _
 have qq:=q1 (hp.objs.size+1) (iv1.hok.fresh le1)
 rw[List.append_nil] at qq
 have keepB: ∀b o,hp.get? b=some o->((hp.push (PySem.W.kdv_tup us)).push (PySem.HandSPX.excO C hp.objs.size)).get? b=some o:=fun b o z=>Heap.get?_push_of_some _ (Heap.get?_push_of_some _ z)
 have there:((hp.push (PySem.W.kdv_tup us)).push (PySem.HandSPX.excO C hp.objs.size)).get? (hp.objs.size+1)=some (PySem.HandSPX.excO C hp.objs.size):=by heap_get
 have iv2:Inv X pins σ (upd H1 (hp.objs.size+1) (exo (hp.objs.size+1) C none)) ⟨(hp.push (PySem.W.kdv_tup us)).push (PySem.HandSPX.excO C hp.objs.size),gs,dr,tk,os⟩:=iv1.laid (t':=tk) (a:=hp.objs.size+1) (o:=exo (hp.objs.size+1) C none) (h':=(hp.push (PySem.W.kdv_tup us)).push (PySem.HandSPX.excO C hp.objs.size)) keepB le1 (exo_ok there)
 have rv2:Vals (V.ref (hp.objs.size+1)::vs) (Value.ref (hp.objs.size+1)::us):=.cons rfl rv1
 have bD:=hb _ (Value.ref (hp.objs.size+1)::us) iv2.kIn (by rw[List.append_nil];exact rv2.length.symm.trans (Fi.len _ _ _ _ qq))
 rw[List.append_nil] at bD
 have short:us.length<=sizeLine:=by
  have:=Paired.length rv1
  rw[sizeLine_eq]
  omega
 refine wpAny_call (PySem.HandSPX.call_own PySem.F.excBase_ValueError (fun Y=>PySem.HandSPX.refsVE_contains Y bm hbm) (iv1.kIn _ _ lkC) (PySem.W.looks_findIn iv1.kIn i1) (fun self=>PySem.W.bind_fn iv1.kIn self i2) short
  (codeAny_mono (Fi.run _ X.stack _ _ ⟨Value.ref (hp.objs.size+1)::us,[]⟩ (Value.ref (hp.objs.size+1)::us) _ _ (fun _ _ _=>False) (hr.make C us []) (iv2.env0.make C us []) bD rv2 qq) fun r s2 hq=> ?_))
 match r,hq with
 | .error er,hq=>exact hx pins σ _ _ er s2 iv2 hq
 | .ok (.ret u),hq=>
  obtain⟨v,H2,os2,ba2,un2,hok2,rv,ev,d,fs,ea,ed,hd1,q2⟩:=hq
  subst ev
  obtain⟨h2,g2,d2,t2,os'⟩:=s2
  obtain⟨t0,G,J,kG,ge,hoe,na⟩:=mk_end0 (d2:=d2) (t2:=t2) iv1 le1 keepB un2 hok2 os2 ba2 ea ed hd1
  exact⟨rv,hp.objs.size+1,_,_,⟨G,g2,d2,t2,os'⟩,_,.ref C,some d,rfl,J,kG,ge,hoe,⟨rfl,rfl,fun vs hv=>by cases hv;rfl⟩,rfl,rfl,na,rfl,ba2,raises_own T.exC T.tyC,q2⟩
 | .ok .next,hq=>exact hq.elim
 | .ok .brk,hq=>exact hq.elim
 | .ok .cont,hq=>exact hq.elim
end
section
variable {P:Program} {w:World} {K:Frg} {mg:Str->Option Value} {base:Heap}
theorem F3 {qual pn fld:Str} {st:Stmt} {f C:Addr} {fd:FuncData} (F:Fun K "__init__" qual st f fd) (S:FnScope ["self",pn] ["self",pn] (defScope st)) (T:OexC K C) (no:PySem.W.findIn K (.ref C) fld=some none)
  (h: ∀(cdv:Value) (A:Around) (outer:List Env) (s:Shared) (H:Hp) (E:XK) (p:Addr×Obj),PSs (L2H.cxH CX0 P w K mg base ["self",pn] qual (defScope st) f cdv A outer s H E p) (defBody st) (IE K fld)):
  L2H.FnH P w K mg base CX0 1 f fd ["self",pn] (uk K C fld):=by
 obtain⟨oc,od,kV,doc,pm,an,cdv,ct,osl,rfl,lk,hcd⟩:=F.ex
 exact L2H.fn_ofH (k:=0) lk hcd S (fun vs H Q E ⟨a,v,e,_⟩=>by rw[e];rfl) fun A outer s H vs Q E p _ _ ⟨a,v,ev,ea,q⟩=>⟨_,h cdv A outer s H E p,by
  subst ev
  exact⟨a,C,v,rfl,rfl,T,no,ea,fun dx n ne=>q dx n ne⟩⟩
end
structure F4 (P:Program) (w:World) (K:Frg) (mg:Str->Option Value) (base:Heap) (Cn fld:Str):Prop where
 xc:Xcl P w K mg base Cn fld
 inh: ∃(fI:Addr) (fd:FuncData) (ps:List Str),PySem.W.findIn K (.ref (He.ga K Cn)) "__init__" =some (some (.ref fI))/\PySem.W.typeIn K (.ref fI)=some (.type "function")/\L2H.FnH P w K mg base CX0 1 fI fd ps (uk K (He.ga K Cn) fld)/\Binds K fd ps []
section
variable {X:Cx} {α β:Type} {E:Exits α β} {Δ:List Md} {st:Ds} {rest:List Stmt} {e:Expr} {ra:Option D}
theorem DL {Cn fld:Str} {O:Org} {G:Sa} {q:Out α β} {σ:CS} {H:Hp} (rel:Rel X.K O Δ st σ H G) (er:(ra.bind fun d=>some (Out.exc (α:=α) (β:=β) ⟨Cn,[(fld,d)]⟩))=some q) (kk: ∀De,Meets X.K E O De q):
  tMkO (He.ga X.K Cn) (uk X.K (He.ga X.K Cn) fld) [] (tCons (rdE X.K Δ st (.rg .fz) ra) tNil) σ H fun c d H'=>E.xw c d H':=by
 obtain⟨d,e1,e2⟩:=bind1 er
 cases e2
 refine rdE.go rel e1 fun v H1 G1 rel1 x1 v1=>⟨by simp,fun a hn=> ?_⟩
 refine⟨a,v,rfl,upd_same,fun dx hd ne=>⟨rfl,dx,[(fld,v)],upd_same,by rw[upd_ne ne,upd_same],?_,?_⟩⟩
 ·rw[upd_ne ne] at hd;exact hd
 ·have hd1:H1 dx=none:=by rw[upd_ne ne] at hd;exact hd
  have eH:upd (del (upd (upd (upd H1 a (exo a (He.ga X.K Cn) none)) dx (exd dx [(fld,v)])) a (exo a (He.ga X.K Cn) (some dx))) a) dx (.xd [(fld,v)])=upd H1 dx (.xd [(fld,v)]):=by
   funext b
   by_cases hb:b=dx
   ·rw[hb,upd_same,upd_same]
   ·rw[upd_ne hb,upd_ne hb]
    by_cases hba:b=a
    ·rw[hba,del_same,hn]
    ·rw[del_ne hba,upd_ne hba,upd_ne hb,upd_ne hba]
  rw[eH]
  have x2:Ext H1 G1 (upd H1 dx (.xd [(fld,v)])) G1:=.new hd1
  have rel2:=rel1.ext x2
  obtain⟨L,g2,_⟩:=rel2
  obtain⟨L1,g1,_⟩:=rel1
  refine kk {nx:=fun _ _=>True,rt:=fun _ _=>True} _ _ _ G1 ⟨rfl,⟨L,g2⟩,.inr ⟨dx,_,rfl,upd_same,g1.back hd1,fun gd=>g1.gin dx gd hd1,?_⟩⟩
  exact eN.one (S:=G1) (H:=H1) (Rep.mono (fun _ g=>g) (qK hd1) _ _ (show Rep X.K G1 H1 d v from v1))
theorem lh {Cn fld:Str} {p pos rpos:Pos} {k:Nat} (T:Xcl X.prog X.w X.K X.mg X.base Cn fld) (hr:Room (k+2) X.A) (hg:Gl X Cn) (tk:L2N.Takes X fun c d _ H=>E.xw c d H) (ha:PX X Δ st e (.rg .fz) ra)
  (hc:X.calm=true:=by rfl) (hdb:(Cn==("__debug__" :Str))=false:=by decide) (he:starEach [e] X.env=(false,eval e X.env)::starEach [] X.env:=by rfl) (hpl:(backTo pos (starEach [] X.env)).any (·.1)=false:=by rfl):
  Blk X E Δ st (.Raise (some (.Call (.Name Cn p) [e] [] pos)) none rpos::rest) (ra.bind fun d=>some (.exc ⟨Cn,[(fld,d)]⟩)):=by
 obtain⟨fI,fd,ps,i1,i2,F,hb⟩:=T.ini
 refine cY (pss_cons (L2N.ps_raise hc tk (DK T.ox i1 i2 F (hr.mono (by omega)) hb pass0 hg T.gm (pa_cons ha pa_nil he) hdb he hpl)) pss_never) fun De σ H ⟨O,G,q,rel,er,kk⟩=> ?_
 obtain⟨d,e1,e2⟩:=bind1 er
 cases e2
 exact DL (q:=.exc ⟨Cn,[(fld,d)]⟩) rel (by rw[e1];rfl) fun _=>kk
end
section
variable {X:Cx} {x:Str} {c:Value} {body suite orelse:List Stmt} {b₀:Stmt} {np pos pos':Pos} {tb:WX->TS} {ts:Addr->Value->Option Addr->TS} {Wo:WX} {u:TS}
theorem F5 (ho:PSs X orelse u) (hs:X.stack=X.env::X.outer) (hf:X.env.frame=some X.env.locals) (hc:Names X x c) (hpa: ∀hd:Option Value,PassesOwnAt (model X.prog X.w) (X.A.mark hd) X.A X.env X.xe) (tk:L2.Takes X Wo)
  (hb: ∀(W:WX) (pn:List (Addr×Obj)) (xe:Value->Shared->Prop),L2N.Takes (X.tr pn xe) W->PassesOwn (model X.prog X.w) X.A X.env xe->PSs (X.tr pn xe) body (tb W))
  (hsu: ∀(a:Addr) (oe:Obj) (cls:Value) (d:Option Addr) (pn:List (Addr×Obj)),L2.Takes (L2H.suiteX X a ((a,oe)::pn)) Wo->L2H.HotC (L2H.suiteX X a ((a,oe)::pn))->PSs (L2H.suiteX X a ((a,oe)::pn)) (b₀::suite) (ts a cls d)):
  PS X (.Try body [.ExceptHandler (some (.Name x np)) none (b₀::suite) pos'] orelse [] pos) (fun De σ H=>tb (wOnly X.K c ts (fun _ _ _ _=>False) De) {De with nx:=u De} σ H):=by
 refine⟨fun pins s σ H De iv hh=> ?_⟩
 have okX:=iv.ok
 have frX:X.A.frames=some (X.env::X.outer):=okX.frames.trans (congrArg some hs)
 refine wpAny_Try_except (wpAny_mono ((hb _ (X.pn++pins) (fun ev s1=>wpAny (model X.prog X.w) X.A (noteFrame ev X.env) (fun _ s2=>wpAny (model X.prog X.w) X.A (setFlight ev none) (fun _ s3=>
  wpAny (model X.prog X.w) X.A (handleBy ev X.env [.ExceptHandler (some (.Name x np)) none (b₀::suite) pos']) (SP X pins De) X.xe s3) X.xe s2) X.xe s1) (fun ev sN air=> ?_) PassesOwn.looking).run [] s σ H {De with nx:=u De} (iv.toTry _) hh) (fun fl s1 hsp=> ?_) (fun _ _ z=>z))
 ·
  obtain⟨a,B,sI,pins',σ1,H1,cls,d,rfl,jv',nb,up,sky,na,os,ag,b,hb1,yes,no⟩:=air
  have jv:Inv X pins σ1 H1 sI:=jv'.ofTry okX
  have sky1:Sky B (X.env::X.outer) a (L2N.Zn cls d) X.env.locals sN.heap:=by rw[<-hs];exact sky
  show wpAny (model X.prog X.w) X.A (noteFrame (.ref a) X.env) _ _ _
  refine L2N.Sky.land L2N.Zn.steady frX hf sky1 fun h3 fl3 up3=> ?_
  have j3:Inv X pins σ1 H1 {sN with heap:=h3}:=jv.landed nb fl3.1 (up.trans up3) os ag
  obtain⟨oe3,vs3,g3,z3,dd3⟩:=fl3.there
  have outF:a∉frs (X.env::X.outer):=fun hm=>by
   obtain⟨_,oo,ge,nf⟩:=fl3.2.2.1.mem hm
   rw[g3] at ge;cases ge
   exact nf _ dd3
  have outL:a≠X.env.locals:=fun z=>outF (List.mem_filterMap.mpr ⟨X.env,List.mem_cons_self,by rw[hf,z]⟩)
  have outS:a∉X.fs:=fun hm=>by
   obtain⟨en,m1,m2⟩:=List.mem_filterMap.mp hm
   exact outF (List.mem_filterMap.mpr ⟨en,List.mem_cons_of_mem _ m1,m2⟩)
  have s3:=j3.suite g3 dd3 na outL outS
  refine wpAny_handleBy_cons (codeAny_handlers_test ?_) (by intro q;cases q)
  have ty:PySem.W.Looks (model X.prog X.w) h3 (typeOf (.ref a)) cls:=fun A Q E s k q=>wpAny_typeOf_ref (k _ _ g3) (by rw[z3.1];exact q)
  have look:=(PySem.W.exm_one (M:=model X.prog X.w) (j3.kIn) ty hb1)
  have named: ∀{Q:Value->Shared->Prop} {E:Value->Shared->Prop},Q c {sN with heap:=h3}->wpAny (model X.prog X.w) (X.A.mark (some (.ref a))) (eval (.Name x np) X.env) Q E {sN with heap:=h3}:=fun {Q E} q=>by
   obtain⟨h1,h2,h3'|⟨h4,h5,h6⟩⟩:=hc
   ·exact ld_glob (X:=X.suite a ((a,oe3)::(X.pn++pins))) s3 h1 h3' q h2
   ·exact ld_blt (X:=X.suite a ((a,oe3)::(X.pn++pins))) s3 h1 h4 h5 q h6 h2
  refine named (look.here ?_)
  cases b with
  |false=>exact (no rfl).elim
  |true=>
   refine codeAny_handlers_suite (HandSPX.lands_againZ fl3 fun h4 fl4 up4=> ?_)
   have j4:Inv X pins σ1 H1 {sN with heap:=h4}:=jv.landed nb fl4.1 ((up.trans up3).trans up4) os ag
   obtain⟨oe4,vs4,g4,z4,dd4⟩:=fl4.there
   have s4:=j4.suite g4 dd4 na outL outS
   have tkS:L2.Takes (L2H.suiteX X a ((a,oe4)::(X.pn++pins))) Wo:=fun u2 s2 x2=>by
    obtain⟨a2,B2,t2,pn2,σ2,H2,cls2,d2,e2,I2,r2⟩:=x2
    exact tk u2 s2 ⟨a2,B2,t2,pins,σ2,H2,cls2,d2,e2,L2H.unsuiteX I2 okX,r2⟩
   have hot:L2H.HotC (L2H.suiteX X a ((a,oe4)::(X.pn++pins))):=⟨(a,oe4),⟨rfl,vs4,dd4,z4.2.2 vs4 dd4⟩,List.mem_cons_self⟩
   refine wpAny_mono ((hsu a oe4 cls d (X.pn++pins) tkS hot).run [] _ _ H1 _ (L2H.suiteX_of s4) (yes rfl a na)) (fun fl s6 hsp=> ?_) (fun e6 s6 z=>hpa (some (.ref a)) e6 s6 z)
   match fl,hsp with
   | .next,⟨σ6,H6,i6,q6⟩=>exact⟨σ6,H6,L2H.unsuiteX i6 okX,q6⟩
   | .brk,⟨σ6,H6,i6,q6⟩=>exact⟨σ6,H6,L2H.unsuiteX i6 okX,q6⟩
   | .cont,⟨σ6,H6,i6,q6⟩=>exact⟨σ6,H6,L2H.unsuiteX i6 okX,q6⟩
   | .ret v,⟨v6,σ6,H6,i6,r6,q6⟩=>exact⟨v6,σ6,H6,L2H.unsuiteX i6 okX,r6,q6⟩
 ·match fl,hsp with
  | .next,⟨σ1,H1,jv,q⟩=>exact ho.run pins s1 σ1 H1 De (jv.ofTry okX) q
  | .brk,⟨σ1,H1,jv,q⟩=>exact⟨σ1,H1,jv.ofTry okX,q⟩
  | .cont,⟨σ1,H1,jv,q⟩=>exact⟨σ1,H1,jv.ofTry okX,q⟩
  | .ret v,⟨v1,σ1,H1,jv,r,q⟩=>exact⟨v1,σ1,H1,jv.ofTry okX,r,q⟩
end
def IQ {α β γ:Type} (mb:Option (Xn ⊕ γ)) (Cn fld:Str) (ra:Option D) (k:γ->Option (Out α β)):Option (Out α β):=mb.bind fun r=>match r with
 | .inl x=>if x.C=Cn then ra.bind fun d=>some (.exc ⟨Cn,[(fld,d)]⟩) else none
 | .inr g=>k g
section
variable {X:Cx} {α β γ:Type} {E:Exits α β} {Δ Δ':List Md} {st:Ds} {rest body orelse:List Stmt} {e:Expr} {ra:Option D} {el:γ->Ds} {mb:Option (Xn ⊕ γ)} {k:γ->Option (Out α β)}
theorem F6 {Cn fld:Str} {np p cp qp rp pos' pos:Pos} {j n:Nat} (T:F4 X.prog X.w X.K X.mg X.base Cn fld) (hr:Room (n+2) X.A) (hT:PySem.W.exmOne X.K (.ref (He.ga X.K Cn)) (.ref (He.ga X.K Cn))=some true)
  (hs:X.stack=X.env::X.outer) (hf:X.env.frame=some X.env.locals) (hg:Gl X Cn) (hpa: ∀hd:Option Value,PassesOwnAt (model X.prog X.w) (X.A.mark hd) X.A X.env X.xe) (tk:L2.Takes X fun c d _ H=>E.xw c d H)
  (hbody: ∀(W:WX) (pn:List (Addr×Obj)) (xe:Value->Shared->Prop),L2N.Takes (X.tr pn xe) W->PassesOwn (model X.prog X.w) X.A X.env xe->PSs (X.tr pn xe) body (rdB X.K W Δ st Δ' el mb))
  (ha: ∀(a:Addr) (oe:Obj) (pn:List (Addr×Obj)),PX (L2H.suiteX X a ((a,oe)::pn)) Δ st e (.rg .fz) ra)
  (hk: ∀g,Blk X E Δ' (el g) orelse (k g))
  (hdb:(Cn==("__debug__" :Str))=false:=by decide) (he:starEach [e] X.env=(false,eval e X.env)::starEach [] X.env:=by rfl) (hpl:(backTo qp (starEach [] X.env)).any (·.1)=false:=by rfl):
  Blk X E Δ st [.Try body [.ExceptHandler (some (.Name Cn np)) none [.Raise (some (.Call (.Name Cn p) [e] [] qp)) (some (.Constant .none j cp)) rp] pos'] orelse [] pos] (IQ mb Cn fld ra k):=by
 obtain⟨fI,fd,ps,i1,i2,F,hb⟩:=T.inh
 refine cY (pss_cons (F5 (fY hk) hs hf ⟨hg,hdb,.inl T.xc.gm⟩ hpa tk hbody (ts:=fun a cls d De σ H=>tMkO (He.ga X.K Cn) (uk X.K (He.ga X.K Cn) fld) [] (tCons (rdE X.K Δ st (.rg .fz) ra) tNil) σ H fun c d H'=>E.xw c d H') fun a oe cls d pn tkS hot=>
  cY (pss_cons (L2H.ps_raiseHN hot tkS (L2H.pmk5_oexH T.xc.ox i1 i2 F (L2H.roomH_mark (hr.mono (by omega)) _) hot hb pass0 hg T.xc.gm (pa_cons (ha a oe pn) pa_nil he) hdb he hpl)) pss_never) fun De σ H h=>h) pss_nil) fun De σ H ⟨O,G,q,rel,er,kk⟩=> ?_
 obtain⟨r,e5,e6⟩:=bind1 er
 refine⟨O,G,r,rel,e5,?_⟩
 cases r with
 |inr g=>exact fun σ' H' G' rel'=>⟨g,O,G',q,rel',e6,kk⟩
 |inl x=>
  intro c od H' G' rel' hx
  have e7:(if x.C=Cn then ra.bind fun d=>some (.exc ⟨Cn,[(fld,d)]⟩) else none)=some q:=e6
  by_cases qC:x.C=Cn
  ·rw[if_pos qC] at e7
   have ec:c= .ref (He.ga X.K Cn):=by rw[hx.1,qC]
   have kx: ∀De,Meets X.K E O De q:=fun De'=>by
    obtain⟨d,_,e8⟩:=bind1 e7
    cases e8
    exact kk
   exact⟨true,by rw[ec];exact hT,fun _ a na=>DL rel' e7 kx,fun z=>by cases z⟩
  ·rw[if_neg qC] at e7;cases e7
end
end Sw
namespace Sw
open PySem PySem.Spec PyProof.Rows L2
variable [NmC]
section
variable {P:Program} {w:World} {K:Frg} {mg:Str->Option Value} {base:Heap}
abbrev cxN (P:Program) (w:World) (K:Frg) (mg:Str->Option Value) (base:Heap) (N:List Str) (qual:Str) (sc:Scope) (f:Addr) (cdv:Value) (A:Around) (outer:List Env) (s:Shared) (H:Hp) (E:XK):Cx:=
 cxOf (L2N.CX P w) P w K mg base N qual sc f cdv A outer s H E
theorem kK {N:List Str} {qual:Str} {sc:Scope} {f:Addr} {cdv:Value} {A:Around} {outer:List Env} {s:Shared} {H:Hp} {E:XK}:L2N.Takes (cxN P w K mg base N qual sc f cdv A outer s H E) (fun c d _ H=>E c d H):=L2N.takes_of rfl rfl rfl rfl
theorem wU {x qual:Str} {st:Stmt} {f:Addr} {fd:FuncData} {N ps:List Str} {k n:Nat} {ms:List PM} {rm:VM} {Fs:List D->Option FR} (F:Fun K x qual st f fd) (S:FnScope N ps (defScope st)) (hl:ms.length=ps.length) (hn:N.length=ps.length+n)
  (h: ∀(cdv:Value) (A:Around) (outer:List Env) (s:Shared) (H:Hp) (vs:List V) (E:XK),Room k (A.deeper (envOfC qual (defScope st) s.heap.objs.size f cdv))->vs.length=ms.length-> ∀ds fr,ds.length=ms.length->Fs ds=some fr→
   ∃m,Blk (cxN P w K mg base N qual (defScope st) f cdv A outer s H E) (fnX rm (bZ ms vs) E) (vj ms vs++List.replicate n .fz) (ds.map some++List.replicate n none) (defBody st) m/\m.bind outF=some fr):
  FnOk P w K mg base (L2N.CX P w) (k+1) f fd ps (FSp K ms rm Fs):=by
 obtain⟨oc,od,kV,doc,pm,an,cdv,ct,osl,rfl,lk,hcd⟩:=F.ex
 refine fn_of lk hcd S (fun vs H Q E ⟨O,ds,fr,e,g,a,_⟩=>a.len.1.trans hl) (fun A outer s H vs Q E hr ⟨O,ds,fr,e,g,a,ef,q⟩=> ?_)
 obtain⟨hv,hd⟩:=a.len
 obtain⟨m,hb,hm⟩:=h cdv A outer s H vs E hr hv ds fr hd ef
 refine⟨_,hb,?_⟩
 obtain⟨o,e1,e2⟩:=bind1 hm
 have hs:L2.start N vs=vs.map some++List.replicate n none:=by
  unfold L2.start
  rw[show N.length -vs.length=n by omega]
 rw[hs]
 refine⟨O,O.G0,o,⟨O.L0,g,nF a⟩,e1,?_⟩
 cases o with
 |nx a=>exact a.elim
 |bk a=>exact a.elim
 |ct a=>exact a.elim
 |ret d os=>
  cases e2
  exact fun v H' G' r=>⟨q v H' G' r,fun _ ev σ=>by subst ev;exact q _ H' G' r⟩
 |exc x=>
  cases e2
  exact fun c od H' G' r=>q c od H' G' r
end
structure qd (P:Program) (w:World) (K:Frg) (mg:Str->Option Value) (base:Heap) (k:Nat) (x:Str) (ps:List Str) (ms:List PM) (rm:VM) (Fs:List D->Option FR):Prop where
 ok: ∃(f:Addr) (fd:FuncData),FnOk P w K mg base (L2N.CX P w) k f fd ps (FSp K ms rm Fs)/\mg x=some (.ref f)/\PySem.W.keepIn K (.ref f)=true/\Binds K fd ps []
section
variable {X:Cx} {Δ:List Md} {st:Ds} {e:Expr} {es:List Expr} {rm:VM} {rs:Option (List D)} {pos p:Pos} {vms:List VM} {ps:List PM} {Fs:List D->Option FR} {k k':Nat} {pn:List Str} {x:Str}
theorem iw {W:WX} {ra:Option (List D)} (C:qd X.prog X.w X.K X.mg X.base k x pn ps rm Fs) (hr:Room k' X.A) (tk:L2N.Takes X W) (ha:PAx X Δ st (e::es) vms ra) (hg:Gl X x:=by rfl) (hk:k<=k':=by decide) (ok:mC ps vms=true:=by rfl)
  (hdb:(x==("__debug__" :Str))=false:=by decide) (he:starEach (e::es) X.env=(false,eval e X.env)::starEach es X.env:=by rfl) (hpl:(backTo pos (starEach es X.env)).any (·.1)=false:=by rfl):
  PE X (.Call (.Name x p) (e::es) [] pos) (rdX X.K W Δ st rm ((ra.bind Fs).bind frX)):=by
 obtain⟨f,fd,F,hm,hkp,hb⟩:=C.ok
 refine bW (pe_callS (E:=WE W) F (hr.mono hk) hg hm hkp hb (fun σ=>L2N.passAt tk σ) ha hdb he hpl) fun σ H Q ⟨O,G,y,rel,er,kk⟩=> ?_
 rw[Option.bind_assoc] at er
 obtain⟨ds,e1,e2⟩:=bind1 er
 exact⟨O,G,ds,rel,e1,fun vs H1 G1 x1 v1=>B4 ok rel e2 x1 v1 (by cases y <;> exact kk)⟩
end
def F7 (n:Nat) (rs:Option (Xn ⊕ List D)):Prop:= ∀ds,rs=some (.inr ds)->ds.length=n
theorem DM:F7 0 Bi:=fun ds e=>by cases e;rfl
theorem mW {n:Nat} {a:Option (Xn ⊕ D)} {r:Option (Xn ⊕ List D)} (h:F7 n r):F7 (n+1) (iR a r):=fun ds e=>by
 obtain⟨x,e1,e2⟩:=bind1 e
 cases x with
 |inl x=>cases e2
 |inr d=>
  obtain⟨y,e3,e4⟩:=bind1 e2
  cases y with
  |inl x=>cases e4
  |inr ds'=>cases e4;rw[List.length_cons,h ds' e3]
section
variable {X:Cx} {W:WX} {Δ:List Md} {st:Ds} {es:List Expr} {ms:List VM} {rs:Option (Xn ⊕ List D)} {pos:Pos}
theorem DN {x1 n:Nat} (h:PA X es (DI X.K W Δ st ms rs)) (hm:allM (.rg .fz) ms) (hl:F7 n rs) (hn:n<=1000:=by decide):PE X (.Tuple es x1 pos) (rdX X.K W Δ st (.rg .fz) (FW rs)):=FX h hm fun ds e=>by rw[hl ds e];exact hn
end
theorem F8:allM (.rg .fz) [.rg .fz,.rg .fz,.rg .fz,.rg .fz,.rg .fz,.rg .fz,.rg .fz,.rg .fz,.rg .fz,.rg .fz,.rg .fz,.rg .fz]:=⟨rfl,rfl,rfl,rfl,rfl,rfl,rfl,rfl,rfl,rfl,rfl,rfl,trivial⟩
theorem F9:allM (.rg .fz) [.rg .fz,.rg .fz,.rg .fz,.rg .fz,.rg .fz,.rg .fz,.rg .fz,.rg .fz,.rg .fz,.rg .fz,.rg .fz,.rg .fz,.rg .fz,.rg .fz,.rg .fz]:=⟨rfl,rfl,rfl,rfl,rfl,rfl,rfl,rfl,rfl,rfl,rfl,rfl,rfl,rfl,rfl,trivial⟩
end Sw
namespace Sw
open PySem PySem.Spec PyProof.Rows L2
section
variable {α β γ δ:Type}
@[simp] theorem aL (f:α->Option β) (a:α):b1 f (some a)=f a:=rfl
@[simp] theorem av (f:α->β->Option γ) (a:α) (b:β):b2 f (some a) (some b)=f a b:=rfl
@[simp] theorem IS (a:D) (r:List D):aj (some a) (some r)=some (a::r):=rfl
@[simp] theorem K5:aI=some []:=rfl
@[simp] theorem IT (Fs:List D->Option FR) (ds:List D):bp Fs (some ds)=(Fs ds).bind FR.val:=rfl
@[simp] theorem IU (Fs:List D->Option FR) (ds:List D):J1 Fs (some ds)=(Fs ds).bind FR.Ip:=rfl
@[simp] theorem IV (Fs:List D->Option FR) (ds:List D):call2 Fs (some ds)=(Fs ds).bind FR.Iq:=rfl
@[simp] theorem J8 (d:D):FR.val (.ok d [])=some d:=rfl
@[simp] theorem JA (d e:D):FR.Ip (.ok d [e])=some (d,e):=rfl
@[simp] theorem JB (d e f:D):FR.Iq (.ok d [e,f])=some (d,e,f):=rfl
@[simp] theorem JC (d:D) (os:List D):(cH (some d) os:Option (Out α β))=some (.ret d os):=rfl
@[simp] theorem J9 (c:Bool) (A B:Option (Out γ β)) (k:γ->Option (Out α β)):ifO (some c) A B k=(if c=true then A else B).bind (sqO k):=rfl
@[simp] theorem JD (ds:List δ) (step:γ->δ->Option (Out γ γ)) (b0:γ) (k:γ->Option (Out α β)):vk (some ds) step b0 k=(forL step ds b0).bind (sqF k):=rfl
@[simp] theorem fD (a:Bool) (b:Option Bool):orB (some a) b=if a=true then some true else b:=rfl
@[simp] theorem pA (a:Bool) (b:Option Bool):sT (some a) b=if a=true then b else some false:=rfl
@[simp] theorem fb (a:Bool):eP (some a)=some (!a):=rfl
@[simp] theorem Ka (a:Bool):blO (some a)=some (.bl a):=rfl
@[simp] theorem JE (a:Bool):LW (some (.bl a))=some (.bl (!a)):=rfl
@[simp] theorem JF (a:Bool) (b:Option D):Dc (some (.bl a)) b=if a=true then b else some (.bl false):=rfl
@[simp] theorem Kb (a:Bool) (b:Option D):orE (some (.bl a)) b=if a=true then some (.bl true) else b:=rfl
@[simp] theorem Kc (a:Bool) (x y:Option D):ifE (some a) x y=if a=true then x else y:=rfl
@[simp] theorem JG (ds:List D):tupO (some ds)=some (.tup ds):=rfl
@[simp] theorem JI (ds:List D):oF (some ds)=if ds.length<=sizeLine then some (.lst ds) else none:=rfl
@[simp] theorem Kd (ds:List δ) (rt:δ->Option Bool) (re:δ->Option D):lcO (some ds) rt re=ua rt re ds:=rfl
@[simp] theorem JJ (f:D->Option Int->Option Int->Option D) (a:D) (l h:Option Int):oG f (some a) (some l) (some h)=f a l h:=rfl
@[simp] theorem JK (ds:List D):BX (some (.lst ds))=some ds:=rfl
@[simp] theorem JL (ds:List D):LV (some (.lst ds))=D.prs ds:=rfl
@[simp] theorem JM (d:D) (q:List Stp) (x:D) (f:D->D->Option (D×D)):BY d (some q) (some x) f=do1 d q fun d'=>f d' x:=rfl
@[simp] theorem JN (d:D) (q:List Stp) (xs:List D) (f:List D->List D->Option (D×List D)):LX d (some q) (some xs) f=do1 d q (Fv f xs):=rfl
@[simp] theorem JO (d:D) (q:List Stp) (f:List D->List D->Option (D×List D)):LY d (some q) f=do1 d q (Fv f []):=rfl
@[simp] theorem K6 (d:D) (f:D->Option (D×D)):do1 d [] f=f d:=by
 unfold do1
 have:lP d []=some d:=by cases d <;> rfl
 rw[this]
 show (f d).bind _=f d
 cases f d with
 |none=>rfl
 |some r=>show some (r.1,iM d [] r.2)=some r;cases d <;> rfl
@[simp] theorem Ma (k:γ->Option (Out α β)) (a:γ):sqO k (.nx a)=k a:=rfl
@[simp] theorem Mb (k:γ->Option (Out α β)) (a:β):sqO k (.bk a)=some (.bk a):=rfl
@[simp] theorem Mc (k:γ->Option (Out α β)) (a:β):sqO k (.ct a)=some (.ct a):=rfl
@[simp] theorem K7 (k:γ->Option (Out α β)) (d:D) (os:List D):sqO k (.ret d os)=some (.ret d os):=rfl
@[simp] theorem K8 (k:γ->Option (Out α β)) (a:γ):sqF k (.fin a)=k a:=rfl
@[simp] theorem K9 (k:γ->Option (Out α β)) (d:D) (os:List D):sqF k (.ret d os)=some (.ret d os):=rfl
@[simp] theorem Me (d:D) (os:List D):FO (some (.ret d os))=some (.ok d os):=rfl
@[simp] theorem Ke (d:D) (os:List D):outF (.ret d os)=some (.ok d os):=rfl
@[simp] theorem La (f:D->Option α) (x:D):un1 f [x]=f x:=rfl
@[simp] theorem Lb (f:D->D->Option α) (x y:D):un2 f [x,y]=f x y:=rfl
@[simp] theorem Nb (f:Option FR):fn0 f []=f:=rfl
@[simp] theorem Nc (f:D->Option FR) (a:D):fn1 f [a]=f a:=rfl
@[simp] theorem Nf (f:D->D->Option FR) (a b:D):fn2 f [a,b]=f a b:=rfl
@[simp] theorem Ng (f:D->D->D->Option FR) (a b c:D):fn3 f [a,b,c]=f a b c:=rfl
@[simp] theorem Nh (f:D->D->D->D->Option FR) (a b c d:D):fn4 f [a,b,c,d]=f a b c d:=rfl
@[simp] theorem Ni (f:D->D->D->D->D->Option FR) (a b c d e:D):fn5 f [a,b,c,d,e]=f a b c d e:=rfl
@[simp] theorem Nj (f:D->D->D->D->D->D->Option FR) (a b c d e g:D):fn6 f [a,b,c,d,e,g]=f a b c d e g:=rfl
@[simp] theorem Mf (a b:Int):D.dA (.int a) (.int b)=some (.int (a+b)):=rfl
@[simp] theorem Mg (a b:Int):D.Ic (.int a) (.int b)=some (.int (a -b)):=rfl
theorem IW {a b:Int} (h:tX a b=true):D.pH (.int a) (.int b)=some (.int (a*b)):=by
 show (if tX a b=true then some (a*b) else none).map D.int=_
 rw[if_pos h];rfl
theorem Bj {a b:Int} (h1: -(2^64)<a) (h2:a<2^64):tX a b=true:=by
 unfold tX;exact @decide_eq_true _ (Classical.propDecidable _) (.inl ⟨h1,h2⟩)
theorem um {a b:Int} (h1: -(2^64)<a) (h2:a<2^64):D.pH (.int a) (.int b)=some (.int (a*b)):=IW (Bj h1 h2)
@[simp] theorem Mh (a:Int):D.yx (.int a)=some (.int (-a)):=rfl
@[simp] theorem MM (a b:Int):D.ltI (.int a) (.int b)=some (decide (a<b)):=rfl
@[simp] theorem MO (a b:Int):D.leI (.int a) (.int b)=some (decide (a<=b)):=rfl
@[simp] theorem MP (a b:Int):D.gtI (.int a) (.int b)=some (decide (b<a)):=rfl
@[simp] theorem MQ (a b:Int):D.geI (.int a) (.int b)=some (decide (b<=a)):=rfl
@[simp] theorem Hy (a b:Int):D.eqA (.int a) (.int b)=some (decide (a=b)):=by
 unfold D.eqA D.toV;simp[scal]
@[simp] theorem Hz (a b:Int):D.neA (.int a) (.int b)=some (!decide (a=b)):=by
 unfold D.neA D.toV;simp[scal]
@[simp] theorem HA (a b:Str):D.eqA (.str a) (.str b)=some (decide (a=b)):=by
 unfold D.eqA D.toV;simp[scal]
@[simp] theorem HB (a b:Str):D.neA (.str a) (.str b)=some (!decide (a=b)):=by
 unfold D.neA D.toV;simp[scal]
@[simp] theorem MR (a b:Bool):D.eqA (.bl a) (.bl b)=some (decide (a=b)):=by
 unfold D.eqA D.toV;simp[scal]
@[simp] theorem MS (a b:Bool):D.neA (.bl a) (.bl b)=some (!decide (a=b)):=by
 unfold D.neA D.toV;simp[scal]
@[simp] theorem Mi (f:D->D->Option Bool) (x y:D):blD f x y=(f x y).map D.bl:=rfl
@[simp] theorem Nk (a:Bool):D.tb (.bl a)=some a:=rfl
@[simp] theorem MT (a:Int):D.toI (.int a)=some (some a):=rfl
@[simp] theorem Nl (x:Str):D.et (.str x)=some (.str x):=rfl
@[simp] theorem Nm (x:Int):D.et (.int x)=some (.int x):=rfl
@[simp] theorem Nn (x:Bool):D.et (.bl x)=some (.bl x):=rfl
theorem Kf {d:D} (h:d.ev=true):D.et d=some d:=by unfold D.et;rw[if_pos h]
@[simp] theorem MU (a b:Str):D.et (.tup [.str a,.str b])=some (.tup [.str a,.str b]):=rfl
@[simp] theorem Kg (x:Str):D.key (.str x)=some (.inr x):=rfl
@[simp] theorem MV (x:Int):D.key (.int x)=some (.inl x):=rfl
@[simp] theorem MW (x:Str):D.toV (.str x)=some (.str x):=rfl
@[simp] theorem MX (x:Int):D.toV (.int x)=some (.int x):=rfl
@[simp] theorem MY (a b:Str):D.ltS (.str a) (.str b)=some (decide (a.cps.toList<b.cps.toList)):=rfl
@[simp] theorem MZ (a b:Str):D.leS (.str a) (.str b)=some (!decide (b.cps.toList<a.cps.toList)):=rfl
@[simp] theorem M0 (a b:Str):D.gtS (.str a) (.str b)=some (decide (b.cps.toList<a.cps.toList)):=rfl
@[simp] theorem M3 (a b:Str):D.geS (.str a) (.str b)=some (!decide (a.cps.toList<b.cps.toList)):=rfl
theorem atI_nat {α:Type} {xs:List α} {i:Int} (h0:0<=i) (h1:i<xs.length):atI xs i=xs[i.toNat]? :=by
 unfold L2.atI L2.ixN;rw[if_pos h0,if_pos h1];rfl
theorem tn {ds:List D} {i:Int} (h0:0<=i) (h1:i<ds.length):D.atL (.lst ds) (.int i)=ds[i.toNat]? :=atI_nat h0 h1
@[simp] theorem Mj (ds:List D):D.lC (.lst ds)=some (.int ds.length):=rfl
@[simp] theorem Ml (ks:List (Key×D)):D.Fm (.dct ks)=some (.int ks.length):=rfl
@[simp] theorem Mm (ns:List Int):D.yB (.sc ns)=some (.int ns.length):=rfl
@[simp] theorem M4 (ds:List D):D.toL (.lst ds)=some (.lst ds):=rfl
@[simp] theorem M5 (ds:List D):D.toL (.tup ds)=some (.lst ds):=rfl
theorem wV:16777000<=sizeLine:=by decide+kernel
@[simp] theorem HC (lo:Int) (n:Nat):(vi lo n).length=n:=by unfold vi;simp
theorem Ga (ds:List D):D.evs ds=ds.all D.ev:=by
 induction ds with
 |nil=>rfl
 |cons d ds ih=>rw[List.all_cons,←ih];rfl
theorem Bk {α:Type} {f:α->D} (h: ∀x,(f x).ev=true) (xs:List α):D.evs (xs.map f)=true:=by
 rw[Ga,List.all_eq_true]
 intro d hd
 obtain⟨x,_,rfl⟩:=List.mem_map.mp hd
 exact h x
end
end Sw
namespace Sw
open PySem PySem.Spec PyProof.Rows L2
section
variable {κ α β:Type} [DecidableEq κ]
theorem ff (k j:κ) (x:α): ∀ks:List (κ×α),aF (cf ks k x) j=if j=k then some x else aF ks j
 | []=>by
  unfold cf
  rw[aW]
  by_cases e:k=j
  ·simp[e]
  ·rw[if_neg e,if_neg (fun q=>e q.symm)]
 |p::r=>by
  unfold cf
  by_cases e:p.1=k
  ·rw[if_pos e,aW,aW]
   by_cases h:k=j
   ·subst h;simp[e]
   ·rw[if_neg h,if_neg (fun q=>h q.symm),if_neg (fun q=>h (e.symm.trans q))]
  ·rw[if_neg e,aW,aW,ff k j x r]
   by_cases h:p.1=j
   ·rw[if_pos h,if_neg (fun q=>e (h.trans q)),if_pos h]
   ·rw[if_neg h,if_neg h]
theorem lW {k:κ} {ks:List (κ×α)}:(aF ks k).isSome=true↔k∈ks.map (·.1):=by
 cases e:aF ks k with
 |none=>simp[rD.mp e]
 |some v=>simp;exact⟨v,mQ e⟩
theorem lX {k:κ} {x:α} {ks:List (κ×α)} (hn:(ks.map (·.1)).Nodup) (h:(k,x)∈ks):aF ks k=some x:=by
 induction ks with
 |nil=>cases h
 |cons p r ih=>
  rw[List.map_cons,List.nodup_cons] at hn
  rw[aW]
  rcases List.mem_cons.mp h with e|h
  ·subst e;simp
  ·have:p.1≠k:=fun e=>hn.1 (e▸List.mem_map.mpr ⟨_,h,rfl⟩)
   rw[if_neg this,ih hn.2 h]
theorem eA {k:κ} {x:α} {ks:List (κ×α)} (h:k∈ks.map (·.1)):(cf ks k x).map (·.1)=ks.map (·.1):=by
 rw[pq,if_pos (lW.mpr h)]
theorem vm {k:κ} {x:α} {ks:List (κ×α)} (h:k∉ks.map (·.1)):(cf ks k x).map (·.1)=ks.map (·.1)++[k]:=by
 rw[pq,if_neg (fun q=>h (lW.mp q))]
end
section
variable {α:Type}
def eD (e:α->D) (r:List (Str×α)):D:=.dct (r.map fun p=>(Sum.inr p.1,e p.2))
theorem Bl (e:α->D) (x:Str): ∀r:List (Str×α),aF (r.map fun p=>((Sum.inr p.1:Key),e p.2)) (Sum.inr x)=(aF r x).map e
 | []=>rfl
 |p::r=>by
  rw[List.map_cons,aW,aW,Bl e x r]
  by_cases h:p.1=x
  ·simp[h]
  ·rw[if_neg h,if_neg (fun q=>h (Sum.inr.inj q))]
@[simp] theorem Lc (e:α->D) (r:List (Str×α)) (x:Str):D.look (eD e r) (.str x)=some ((aF r x).map e):=by
 unfold eD D.look
 simp only[Kg,Option.map_some,Bl]
@[simp] theorem Mn (e:α->D) (r:List (Str×α)) (x:Str):D.inK (.str x) (eD e r)=some (aF r x).isSome:=by
 unfold D.inK;simp
@[simp] theorem Ld (e:α->D) (r:List (Str×α)) (x:Str):D.Fj (.str x) (eD e r)=some (!(aF r x).isSome):=by
 unfold D.Fj;simp
@[simp] theorem Le (e:α->D) (r:List (Str×α)) (x:Str):D.Fh (eD e r) (.str x)=(aF r x).map e:=by
 unfold D.Fh;simp
@[simp] theorem Lf (e:α->D) (r:List (Str×α)):D.Fm (eD e r)=some (.int r.length):=by
 unfold eD;simp
end
theorem lj {α:Type} {xs ys:List α} (h:xs.Nodup) (hs: ∀x∈xs,x∈ys):xs.length<=ys.length:=h.length_le_of_subset hs
end Sw
namespace Sw
open PySem PySem.Spec PyProof.Rows L2
@[simp] theorem Mo (ns:List Int) (lo hi:Option Int):D.Ij (.sc ns) lo hi=some (.lst ((Sw.dO ns lo hi).map D.int)):=rfl
theorem DO (n:Nat):vi 0 n=(List.range n).map fun i:Nat=>D.int i:=by
 unfold vi
 exact List.map_congr_left fun i _=>by rw[Int.zero_add]
def sg (n:Nat):Str:=⟨#[n]⟩
theorem Gb {a b:Str} (h:a.cps.toList=b.cps.toList):a=b:=PySem.W.str_of_cps h
theorem vU: ∀ys:List Str,(Str.join "" ys).cps.toList=(ys.map fun y=>y.cps.toList).flatten
 | []=>rfl
 | [x]=>by simp[Str.join]
 |x::y::r=>by
  have ih:=vU (y::r)
  unfold Str.join
  show ((x.cps++(Str.ofString "").cps)++(Str.join "" (y::r)).cps).toList=_
  rw[Array.toList_append,Array.toList_append,ih]
  show (x.cps.toList++[])++_=_
  rw[List.append_nil];rfl
theorem DP (cs:List Nat):Txt.join "" (cs.map sg)=⟨cs.toArray⟩:=by
 have h:Txt.join "" (cs.map sg)=Str.join "" (cs.map sg):=PySem.StrLaws.glued_eq_join _ _
 rw[h]
 refine Gb ?_
 rw[vU,List.map_map]
 show ((cs.map fun c=>[c]).flatten)=cs
 clear h
 induction cs with
 |nil=>rfl
 |cons c cs ih=>rw[List.map_cons,List.flatten_cons,ih];rfl
theorem strs_map: ∀xs:List Str,D.strs (xs.map D.str)=some xs
 | []=>rfl
 |x::xs=>by rw[List.map_cons];unfold D.strs;rw[strs_map xs];rfl
def jr:Str:="abcdefghijklmnopqrstuvwxyz"
theorem sj:jr.cps.toList=(List.range 26).map fun i=>97+i:=by decide+kernel
end Sw
namespace Sw
open PySem PySem.Spec PyProof.Rows L2
abbrev Web:=List (Str×List (Str×Int))
def lk (w:Web) (x y:Str):Option Int:=(aF w x).bind fun r=>aF r y
structure oA (ns:List Str) (w:Web):Prop where
 keys:w.map (·.1)=ns
 rows: ∀x r,aF w x=some r->(r.map (·.1)).Nodup
 sym: ∀x y v,lk w x y=some v->lk w y x=some v
 irr: ∀x,lk w x x=none
 rng: ∀x y v,lk w x y=some v->1<=v/\v<=1000000000000
def DQ (w:Web) (x y:Str) (v:Int):Web:=
 let w1:=cf w x (cf ((aF w x).getD []) y v)
 cf w1 y (cf ((aF w1 y).getD []) x v)
section
variable {ns:List Str} {w:Web} {x y:Str} {v:Int}
theorem oA.has (h:oA ns w):(aF w x).isSome=true↔x∈ns:=by rw[lW,h.keys]
theorem oA.get (h:oA ns w) (hx:x∈ns): ∃r,aF w x=some r:=Option.isSome_iff_exists.mp (h.has.mpr hx)
theorem oA.len (h:oA ns w):w.length=ns.length:=by rw[<-h.keys];simp
theorem Ge (w:Web) (x:Str) (r:List (Str×Int)) (a b:Str):lk (cf w x r) a b=if a=x then aF r b else lk w a b:=by
 unfold lk
 rw[ff]
 by_cases e:a=x
 ·rw[if_pos e,if_pos e];rfl
 ·rw[if_neg e,if_neg e]
theorem uo (hxy:x≠y) (a b:Str):lk (DQ w x y v) a b=if (a=x/\b=y)\/(a=y/\b=x) then some v else lk w a b:=by
 unfold DQ
 simp only[Ge,ff]
 by_cases ha:a=y
 ·subst ha
  rw[if_pos rfl,if_neg (show ¬a=x from fun e=>hxy e.symm)]
  by_cases hb:b=x
  ·rw[if_pos hb,if_pos (.inr ⟨rfl,hb⟩)]
  ·rw[if_neg hb,if_neg (by rintro (⟨e,_⟩|⟨_,e⟩);exact hxy e.symm;exact hb e)]
   unfold lk
   cases aF w a <;> rfl
 ·rw[if_neg ha]
  by_cases hx:a=x
  ·subst hx
   rw[if_pos rfl]
   by_cases hb:b=y
   ·rw[if_pos hb,if_pos (.inl ⟨rfl,hb⟩)]
   ·rw[if_neg hb,if_neg (by rintro (⟨_,e⟩|⟨e,_⟩);exact hb e;exact ha e)]
    unfold lk
    cases aF w a <;> rfl
  ·rw[if_neg hx,if_neg (by rintro (⟨e,_⟩|⟨e,_⟩);exact hx e;exact ha e)]
theorem DR {r s:List (Str×Int)} (hk:w.map (·.1)=ns) (hx:x∈ns) (hy:y∈ns):(cf (cf w x r) y s).map (·.1)=ns:=by
 rw[eA,eA,hk]
 ·rw[hk];exact hx
 ·rw[eA (by rw[hk];exact hx),hk];exact hy
theorem DS {r s:List (Str×Int)} (h:oA ns w) (hr:(r.map (·.1)).Nodup) (hs:(s.map (·.1)).Nodup): ∀a t,aF (cf (cf w x r) y s) a=some t->(t.map (·.1)).Nodup:=fun a t e=>by
 rw[ff,ff] at e
 split at e
 ·cases e;exact hs
 ·split at e
  ·cases e;exact hr
  ·exact h.rows a t e
theorem oA.uq (h:oA ns w) (x:Str):(((aF w x).getD []).map (·.1)).Nodup:=by
 cases e:aF w x with
 |none=>exact List.nodup_nil
 |some r=>exact h.rows x r e
theorem oA.join (h:oA ns w) (hx:x∈ns) (hy:y∈ns) (hxy:x≠y) (hv:1<=v/\v<=1000000000000):oA ns (DQ w x y v) where
 keys:=DR h.keys hx hy
 rows:=by
  refine DS h (iu (h.uq x)) (iu ?_)
  rw[ff,if_neg (fun e=>hxy e.symm)]
  exact h.uq y
 sym:=fun a b u e=>by
  rw[uo hxy] at e⊢
  split at e
  ·rename_i q
   rw[if_pos (q.symm.imp And.symm And.symm)];exact e
  ·rename_i q
   rw[if_neg (fun z=>q (z.symm.imp And.symm And.symm))];exact h.sym _ _ _ e
 irr:=fun a=>by
  rw[uo hxy,if_neg (by rintro (⟨e,f⟩|⟨e,f⟩);exact hxy (e.symm.trans f);exact hxy (f.symm.trans e))]
  exact h.irr a
 rng:=fun a b u e=>by
  rw[uo hxy] at e
  split at e
  ·cases e;exact hv
  ·exact h.rng _ _ _ e
end
end Sw
namespace Sw
open PySem PySem.Spec PyProof.Rows L2
def bQ (a b:Str):Prop:=a.cps.toList<b.cps.toList
instance (a b:Str):Decidable (bQ a b):=inferInstanceAs (Decidable (a.cps.toList<b.cps.toList))
theorem cZ (a:Str): ¬bQ a a:=List.lt_irrefl _
theorem mX {a b c:Str} (h:bQ a b) (g:bQ b c):bQ a c:=List.lt_trans h g
theorem pB {a b:Str} (h:bQ a b): ¬bQ b a:=fun g=>cZ a (mX h g)
theorem nJ (a b:Str):bQ a b\/a=b\/bQ b a:=by
 by_cases h:bQ a b
 ·exact .inl h
 ·by_cases g:bQ b a
  ·exact .inr (.inr g)
  ·exact .inr (.inl (PySem.W.str_of_cps (List.le_antisymm (List.not_lt.mp g) (List.not_lt.mp h))))
theorem Bm {a b:Str}:sLe a b=true↔ ¬bQ b a:=by
 unfold sLe bQ
 rw[decide_eq_true_eq,List.not_lt]
def pLt (p q:Str×Str):Prop:=bQ p.1 q.1\/(p.1=q.1/\bQ p.2 q.2)
instance (p q:Str×Str):Decidable (pLt p q):=inferInstanceAs (Decidable (_\/_))
theorem DU:PyProof.Rows.lexLt PyProof.Rows.itemOrd (PySem.W.keyToksAll []) (PySem.W.keyToksAll [])=false:=by
 unfold PySem.W.keyToksAll;rfl
theorem nK (p:Str×Str): ¬pLt p p:=by
 rintro (h|⟨_,h⟩)
 ·exact cZ _ h
 ·exact cZ _ h
theorem pC {p q r:Str×Str} (h:pLt p q) (g:pLt q r):pLt p r:=by
 rcases h with h|⟨e,h⟩
 ·rcases g with g|⟨e,g⟩
  ·exact .inl (mX h g)
  ·exact .inl (e▸h)
 ·rcases g with g|⟨e',g⟩
  ·exact .inl (e▸g)
  ·exact .inr ⟨e.trans e',mX h g⟩
theorem wW (p q:Str×Str):pLt p q\/p=q\/pLt q p:=by
 rcases nJ p.1 q.1 with h|h|h
 ·exact .inl (.inl h)
 ·rcases nJ p.2 q.2 with g|g|g
  ·exact .inl (.inr ⟨h,g⟩)
  ·exact .inr (.inl (Prod.ext h g))
  ·exact .inr (.inr (.inr ⟨h.symm,g⟩))
 ·exact .inr (.inr (.inl h))
def pLe (p q:Str×Str):Bool:= !decide (pLt q p)
theorem B6 (a b c:Str×Str) (h:pLe a b=true) (g:pLe b c=true):pLe a c=true:=by
 unfold pLe at*
 simp only[Bool.not_eq_true',decide_eq_false_iff_not] at*
 intro k
 rcases wW a b with e|e|e
 ·exact g (pC k e)
 ·subst e;exact g k
 ·exact h e
theorem B7 (a b:Str×Str):(pLe a b||pLe b a)=true:=by
 unfold pLe
 rcases wW a b with e|e|e
 ·simp[show ¬pLt b a from fun g=>nK _ (pC e g)]
 ·subst e;simp[nK]
 ·simp[show ¬pLt a b from fun g=>nK _ (pC e g)]
def B9 (ps:List (Str×Str)):List (Str×Str):=ps.mergeSort pLe
theorem rM (ps:List (Str×Str)):(B9 ps).Perm ps:=List.mergeSort_perm _ _
theorem yQ (ps:List (Str×Str)):(B9 ps).Pairwise (fun a b=>pLe a b=true):=List.pairwise_mergeSort B6 B7 ps
def bf (ps:List (Str×Str)):List Str:=ps.flatMap fun p=>[p.1,p.2]
end Sw
namespace Sw
open PySem PySem.Spec PyProof.Rows L2
theorem DV {α:Type} (f:α->D) (xs:List α):D.pds (xs.map f)=xs.map fun x=>(f x).pd:=by rw[D.Fc,List.map_map];rfl
theorem qe {α:Type} {f:α->PyData} (h: ∀x y,PyData.eqv (f x) (f y)=true↔x=y): ∀xs ys:List α,PyData.eqvAll (xs.map f) (ys.map f)=true↔xs=ys
 | [],[]=>by simp[PyData.eqvAll]
 | [],y::ys=>by simp[PyData.eqvAll]
 |x::xs,[]=>by simp[PyData.eqvAll]
 |x::xs,y::ys=>by
  simp only[List.map_cons,PyData.eqvAll,Bool.and_eq_true,h,qe h xs ys,List.cons.injEq]
theorem sk {ds:List PyData} {n:Nat} (h: ∀d∈ds,d.depth<=n):PyData.depthAll ds<=n:=by
 induction ds with
 |nil=>exact Nat.zero_le _
 |cons d ds ih=>
  show max d.depth (PyData.depthAll ds)<=n
  exact Nat.max_le.mpr ⟨h d List.mem_cons_self,ih fun e he=>h e (List.mem_cons_of_mem _ he)⟩
theorem DW {ds:List PyData} (h: ∀d∈ds,d.canLay0=true):PyData.canLayAll0 ds=true:=by
 induction ds with
 |nil=>rfl
 |cons d ds ih=>
  show (d.canLay0&&PyData.canLayAll0 ds)=true
  rw[h d List.mem_cons_self,ih fun e he=>h e (List.mem_cons_of_mem _ he)];rfl
def Low (x:Str):Prop:= ∀c∈x.cps.toList,97<=c/\c<123
theorem Low.ok {x:Str} (h:Low x):PySem.PyData.strOk x=true:=by
 unfold PySem.PyData.strOk
 rw[Array.all_eq_true']
 intro c hc
 have:=h c (Array.mem_toList_iff.mpr hc)
 rw[decide_eq_true_eq];omega
end Sw
namespace Sw
open PySem PySem.Spec PyProof.Rows L2
class En (A:Type) where
 en:A->D
abbrev en {A:Type} [En A] (a:A):D:=En.en a
structure Sd (A:Type) where
 l:List (Str×A)
structure Td (K A:Type) where
 l:List (K×A)
structure Scr where
 l:List Int
structure Tl (A:Type) where
 l:List A
deriving DecidableEq
structure T3 (A B C:Type) where
 a:A
 b:B
 c:C
deriving DecidableEq
structure T4 (A B C E:Type) where
 a:A
 b:B
 c:C
 d:E
deriving DecidableEq
structure T5 (A B C E F:Type) where
 a:A
 b:B
 c:C
 d:E
 e:F
deriving DecidableEq
class KT (K:Type) where
 kt:K->List Key
section
variable {A B C E F K:Type}
instance:En Int:=⟨.int⟩
instance:En Str:=⟨.str⟩
instance:En Bool:=⟨.bl⟩
instance:En Unit:=⟨fun _=>.non⟩
instance [En A]:En (List A):=⟨fun xs=>.lst (xs.map en)⟩
instance [En A]:En (Option A):=⟨fun o=>match o with|none=>.non|some a=>en a⟩
instance [En A] [En B]:En (A×B):=⟨fun p=>.tup [en p.1,en p.2]⟩
instance [En A] [En B] [En C]:En (T3 A B C):=⟨fun p=>.tup [en p.a,en p.b,en p.c]⟩
instance [En A] [En B] [En C] [En E]:En (T4 A B C E):=⟨fun p=>.tup [en p.a,en p.b,en p.c,en p.d]⟩
instance [En A] [En B] [En C] [En E] [En F]:En (T5 A B C E F):=⟨fun p=>.tup [en p.a,en p.b,en p.c,en p.d,en p.e]⟩
instance [En A]:En (Tl A):=⟨fun xs=>.tup (xs.l.map en)⟩
def sdK [En A] (d:List (Str×A)):List (Key×D):=d.map fun p=>((Sum.inr p.1:Key),en p.2)
instance [En A]:En (Sd A):=⟨fun d=>.dct (sdK d.l)⟩
def tdK [KT K] [En A] (d:List (K×A)):List (List Key×D):=d.map fun p=>(KT.kt p.1,en p.2)
instance [KT K] [En A]:En (Td K A):=⟨fun d=>.dcT (tdK d.l)⟩
instance:En Scr:=⟨fun s=>.sc s.l⟩
instance:KT (Str×Str):=⟨fun p=>[.inr p.1,.inr p.2]⟩
instance:KT (Tl Str):=⟨fun p=>p.l.map Sum.inr⟩
instance:KT (Int×Int):=⟨fun p=>[.inl p.1,.inl p.2]⟩
class Ev (A:Type) [En A]:Prop where
 ev: ∀a:A,(en a).ev=true
instance:Ev Int:=⟨fun _=>rfl⟩
instance:Ev Str:=⟨fun _=>rfl⟩
instance:Ev Bool:=⟨fun _=>rfl⟩
instance:Ev Unit:=⟨fun _=>rfl⟩
instance [En A] [En B] [Ev A] [Ev B]:Ev (A×B):=⟨fun p=>by
 show (D.ev (en p.1)&&(D.ev (en p.2)&&true))=true
 rw[Ev.ev,Ev.ev];rfl⟩
instance [En A] [En B] [En C] [Ev A] [Ev B] [Ev C]:Ev (T3 A B C):=⟨fun p=>by
 show (D.ev (en p.a)&&(D.ev (en p.b)&&(D.ev (en p.c)&&true)))=true
 rw[Ev.ev,Ev.ev,Ev.ev];rfl⟩
instance [En A] [En B] [En C] [En E] [Ev A] [Ev B] [Ev C] [Ev E]:Ev (T4 A B C E):=⟨fun p=>by
 show (D.ev (en p.a)&&(D.ev (en p.b)&&(D.ev (en p.c)&&(D.ev (en p.d)&&true))))=true
 rw[Ev.ev,Ev.ev,Ev.ev,Ev.ev];rfl⟩
instance [En A] [En B] [En C] [En E] [En F] [Ev A] [Ev B] [Ev C] [Ev E] [Ev F]:Ev (T5 A B C E F):=⟨fun p=>by
 show (D.ev (en p.a)&&(D.ev (en p.b)&&(D.ev (en p.c)&&(D.ev (en p.d)&&(D.ev (en p.e)&&true)))))=true
 rw[Ev.ev,Ev.ev,Ev.ev,Ev.ev,Ev.ev];rfl⟩
instance [En A] [Ev A]:Ev (Tl A):=⟨fun p=>Bk (fun x=>Ev.ev x) p.l⟩
instance [En A] [Ev A]:Ev (Option A):=⟨fun p=>by cases p with
 |none=>rfl
 |some a=>exact Ev.ev a⟩
theorem IX [En A] [Ev A] (xs:List A):D.evs (xs.map en)=true:=Bk (fun x=>Ev.ev x) xs
end
class ES (A S:Type) where
 es:A->S
abbrev es {A S:Type} [ES A S] (a:A):S:=ES.es a
inductive TO (α β ρ:Type) where
 |nx (a:α)|bk (b:β)|ct (b:β)|ret (r:ρ)|exc (x:Xn)
inductive Ca (β ρ:Type) where
 |fin (b:β)|ret (r:ρ)|exc (x:Xn)
class ER (ρ:Type) where
 er:ρ->D×List D
structure R0 (A:Type) where
 v:A
structure R1 (A B:Type) where
 v:A
 o:B
structure R2' (A B C:Type) where
 v:A
 o:B
 p:C
structure R3 (A B C E:Type) where
 v:A
 o:B
 p:C
 q:E
section
variable {A B C E S T α β ρ:Type}
instance [En A]:ER (R0 A):=⟨fun r=>(en r.v,[])⟩
instance [En A] [En B]:ER (R1 A B):=⟨fun r=>(en r.v,[en r.o])⟩
instance [En A] [En B] [En C]:ER (R2' A B C):=⟨fun r=>(en r.v,[en r.o,en r.p])⟩
instance [En A] [En B] [En C] [En E]:ER (R3 A B C E):=⟨fun r=>(en r.v,[en r.o,en r.p,en r.q])⟩
instance [En A]:ES A D:=⟨en⟩
instance:ES Bool Bool:=⟨id⟩
instance:ES Int Int:=⟨id⟩
instance:ES Unit Unit:=⟨id⟩
instance:ES PEmpty PEmpty:=⟨id⟩
instance [ES A S] [ES B T]:ES (A×B) (S×T):=⟨fun p=>(es p.1,es p.2)⟩
instance [ES A S]:ES (List A) (List S):=⟨List.map es⟩
instance [ES A S]:ES (Option A) (Option S):=⟨Option.map es⟩
instance [ES α S] [ES β T] [ER ρ]:ES (TO α β ρ) (Out S T):=⟨fun o=>match o with
 | .nx a=>.nx (es a)| .bk b=>.bk (es b)| .ct b=>.ct (es b)| .ret r=>.ret (ER.er r).1 (ER.er r).2| .exc x=>.exc x⟩
instance [ES β T] [ER ρ]:ES (Ca β ρ) (Res T):=⟨fun o=>match o with
 | .fin a=>.fin (es a)| .ret r=>.ret (ER.er r).1 (ER.er r).2| .exc x=>.exc x⟩
end
def TyS {A S:Type} [ES A S] (m:Option S) (t:Option A):Prop:= ∀a,t=some a->m=some (es a)
section
variable {A B C E F S T U A' B' α β γ δ ρ α' β' γ' δ':Type}
theorem ae [ES A S] {m:S} {a:A} (h:m=es a):TyS (some m) (some a):=fun b e=>by cases e;rw[h]
theorem aq [En A] (a:A):TyS (some (en a)) (some a):=ae rfl
theorem aA [ES A S] [ES B T] {m:Option S} {k:S->Option T} {t:Option A} {l:A->Option B} (h:TyS m t) (g: ∀a,TyS (k (es a)) (l a)):TyS (m.bind k) (t.bind l):=fun b e=>by
 obtain⟨a,e1,e2⟩:=bind1 e
 rw[h a e1];exact g a b e2
def rN [ES A S] [ES B T] (f:S->Option T) (g:A->Option B):Prop:= ∀a b,g a=some b->f (es a)=some (es b)
def f6 [ES A S] [ES B T] [ES C U] (f:S->T->Option U) (g:A->B->Option C):Prop:= ∀a b c,g a b=some c->f (es a) (es b)=some (es c)
theorem eQ [ES A S] [ES B T] {f:S->Option T} {g:A->Option B} (h:rN f g) {m:Option S} {t:Option A} (q:TyS m t):TyS (b1 f m) (b1 g t):=aA q fun a b e=>h a b e
theorem ar [ES A S] [ES B T] [ES C U] {f:S->T->Option U} {g:A->B->Option C} (h:f6 f g) {m:Option S} {t:Option A} {m':Option T} {t':Option B} (q:TyS m t) (q':TyS m' t'):TyS (b2 f m m') (b2 g t t'):=
 aA q fun a=>aA q' fun b c e=>h a b c e
theorem bL [En A] [Ev A] {m:Option D} {t:Option A} (q:TyS m t):TyS (b1 D.et m) t:=fun a e=>by
 unfold b1;rw[q a e];exact Kf (Ev.ev a)
theorem qf [En A] [En B] {f:D->D->Option Bool} {g:A->B->Option Bool} (h:f6 f g):f6 (blD f) g:=fun a b c e=>by
 unfold blD;rw[h a b c e];rfl
theorem yR {m:Option D} {t:Option Bool} (q:TyS m t):TyS (b1 D.tb m) t:=fun a e=>by
 unfold b1;rw[q a e];rfl
theorem ie {m:Option Bool} {t:Option Bool} (q:TyS m t):TyS (eP m) (eP t):=aA q fun a=>ae rfl
theorem Gf {m n:Option Bool} {t u:Option Bool} (q:TyS m t) (r:TyS n u):TyS (sT m n) (sT t u):=aA q fun a=>by
 cases a
 ·exact ae rfl
 ·exact r
theorem kL {m n:Option Bool} {t u:Option Bool} (q:TyS m t) (r:TyS n u):TyS (orB m n) (orB t u):=aA q fun a=>by
 cases a
 ·exact r
 ·exact ae rfl
theorem wX {m n:Option D} {t u:Option Bool} (q:TyS m t) (r:TyS n u):TyS (Dc m n) (sT t u):=aA (yR q) fun a=>by
 cases a
 ·exact ae rfl
 ·exact r
def Mp (c:Option Bool) (x y:Option A):Option A:=c.bind fun c=>if c=true then x else y
def Ae (k:γ->Option (TO α β ρ)):TO γ β ρ->Option (TO α β ρ)
 | .nx a=>k a
 | .bk b=>some (.bk b)
 | .ct b=>some (.ct b)
 | .ret r=>some (.ret r)
 | .exc x=>some (.exc x)
def cE (c:Option Bool) (x y:Option (TO γ β ρ)) (k:γ->Option (TO α β ρ)):Option (TO α β ρ):=c.bind fun c=>(if c=true then x else y).bind (Ae k)
theorem DY [ES α A] [ES β B] [ES γ C] [ER ρ] {k:C->Option (Out A B)} {l:γ->Option (TO α β ρ)} (h: ∀a,TyS (k (es a)) (l a)) (o:TO γ β ρ):TyS (sqO k (es o)) (Ae l o):=by
 cases o with
 |nx a=>exact h a
 |bk a=>exact ae rfl
 |ct a=>exact ae rfl
 |ret a=>exact ae rfl
 |exc a=>exact ae rfl
theorem bg [ES α A] [ES β B] [ES γ C] [ER ρ] {c c':Option Bool} {x y:Option (Out C B)} {x' y':Option (TO γ β ρ)} {k:C->Option (Out A B)} {l:γ->Option (TO α β ρ)}
  (q:TyS c c') (hx:TyS x x') (hy:TyS y y') (h: ∀a,TyS (k (es a)) (l a)):TyS (ifO c x y k) (cE c' x' y' l):=aA q fun a=>by
 cases a
 ·exact aA hy fun o=>DY h o
 ·exact aA hx fun o=>DY h o
def iH (step:β->δ->Option (TO β β ρ)):List δ->β->Option (Ca β ρ)
 | [],b=>some (.fin b)
 |x::xs,b=>(step b x).bind fun
  | .nx b'=>iH step xs b'
  | .ct b'=>iH step xs b'
  | .bk b'=>some (.fin b')
  | .ret r=>some (.ret r)
  | .exc x=>some (.exc x)
def DZ (k:γ->Option (TO α β ρ)):Ca γ ρ->Option (TO α β ρ)
 | .fin b=>k b
 | .ret r=>some (.ret r)
 | .exc x=>some (.exc x)
def qU (ds:Option (List δ)) (step:γ->δ->Option (TO γ γ ρ)) (b0:γ) (k:γ->Option (TO α β ρ)):Option (TO α β ρ):=ds.bind fun ds=>(iH step ds b0).bind (DZ k)
theorem wY [ES β B] [ES δ E] [ER ρ] {st:B->E->Option (Out B B)} {st':β->δ->Option (TO β β ρ)} (h: ∀b x,TyS (st (es b) (es x)) (st' b x)): ∀(xs:List δ) (b:β),TyS (forL st (es xs) (es b)) (iH st' xs b)
 | [],b=>ae rfl
 |x::xs,b=>by
  show TyS ((st (es b) (es x)).bind _) ((st' b x).bind _)
  refine aA (h b x) fun o=> ?_
  cases o with
  |nx a=>exact wY h xs a
  |ct a=>exact wY h xs a
  |bk a=>exact ae rfl
  |ret a=>exact ae rfl
  |exc a=>exact ae rfl
theorem IY [ES α A] [ES β B] [ES γ C] [ER ρ] {k:C->Option (Out A B)} {l:γ->Option (TO α β ρ)} (h: ∀a,TyS (k (es a)) (l a)) (o:Ca γ ρ):TyS (sqF k (es o)) (DZ l o):=by
 cases o with
 |fin a=>exact h a
 |ret a=>exact ae rfl
 |exc a=>exact ae rfl
theorem nL [ES α A] [ES β B] [ES γ C] [ES δ E] [ER ρ] {m:Option (List E)} {t:Option (List δ)} {st:C->E->Option (Out C C)} {st':γ->δ->Option (TO γ γ ρ)} {b:C} {b':γ} {k:C->Option (Out A B)} {l:γ->Option (TO α β ρ)}
  (q:TyS m t) (hs: ∀b x,TyS (st (es b) (es x)) (st' b x)) (hb:b=es b') (h: ∀a,TyS (k (es a)) (l a)):TyS (vk m st b k) (qU t st' b' l):=aA q fun xs=>by
 subst hb
 exact aA (wY hs xs b') fun o=>IY h o
def Gg (k:γ->Option (TO α β ρ)):Ca γ ρ->Option (TO α β ρ)
 | .fin b=>k b
 | .ret r=>some (.ret r)
 | .exc _=>none
def Kh (ds:Option (List δ)) (step:γ->δ->Option (TO γ γ ρ)) (b0:γ) (k:γ->Option (TO α β ρ)):Option (TO α β ρ):=ds.bind fun ds=>(iH step ds b0).bind (Gg k)
theorem aY [ES α A] [ES β B] [ER ρ] {s:A} {a:α} (h:s=es a):TyS (some (Out.nx s:Out A B)) (some (TO.nx a:TO α β ρ)):=ae (by rw[h];rfl)
theorem D1 [ES α A] [ES β B] [ER ρ] {d:D} {os:List D} {r:ρ} (h:(d,os)=ER.er r):TyS (some (Out.ret d os:Out A B)) (some (TO.ret r:TO α β ρ)):=ae (by
 show Out.ret d os=Out.ret (ER.er r).1 (ER.er r).2
 rw[<-h])
def bR (t:Option A) (f:A->ρ):Option (TO α β ρ):=t.bind fun a=>some (.ret (f a))
theorem aN [En A'] [ES α A] [ES β B] [ER ρ] {m:Option D} {t:Option A'} {os:List D} {f:A'->ρ} (q:TyS m t) (h: ∀a,(en a,os)=ER.er (f a)):TyS (cH m os:Option (Out A B)) (bR t f:Option (TO α β ρ)):=aA q fun a=>D1 (h a)
def tF0 (t:Option (TO PEmpty PEmpty (R0 A))):Option A:=t.bind fun o=>match o with| .ret r=>some r.v|_=>none
def tF1 (t:Option (TO PEmpty PEmpty (R1 A B))):Option (A×B):=t.bind fun o=>match o with| .ret r=>some (r.v,r.o)|_=>none
def tF2 (t:Option (TO PEmpty PEmpty (R2' A B C))):Option (A×B×C):=t.bind fun o=>match o with| .ret r=>some (r.v,r.o,r.p)|_=>none
def tF3 (t:Option (TO PEmpty PEmpty (R3 A B C E))):Option (A×B×C×E):=t.bind fun o=>match o with| .ret r=>some (r.v,r.o,r.p,r.q)|_=>none
def Fo0 [En A] (m:Option FR) (t:Option A):Prop:= ∀r,t=some r->m=some (.ok (en r) [])
theorem fo0 [En A] {m:Option (Out PEmpty PEmpty)} {t:Option (TO PEmpty PEmpty (R0 A))} (h:TyS m t):Fo0 (FO m) (tF0 t):=fun r e=>by
 obtain⟨o,e1,e2⟩:=bind1 e
 cases o <;> cases e2
 unfold FO;rw[h _ e1];rfl
def b3 (f:A->B->C->Option E) (a:Option A) (b:Option B) (c:Option C):Option E:=a.bind fun a=>b.bind fun b=>c.bind fun c=>f a b c
def b4 {A B C E F:Type} (f:A->B->C->E->Option F) (a:Option A) (b:Option B) (c:Option C) (d:Option E):Option F:=a.bind fun a=>b.bind fun b=>c.bind fun c=>d.bind fun d=>f a b c d
def b5 {A B C E F G:Type} (f:A->B->C->E->F->Option G) (a:Option A) (b:Option B) (c:Option C) (d:Option E) (e:Option F):Option G:=a.bind fun a=>b.bind fun b=>c.bind fun c=>d.bind fun d=>e.bind fun e=>f a b c d e
def b6 {A B C E F G H:Type} (f:A->B->C->E->F->G->Option H) (a:Option A) (b:Option B) (c:Option C) (d:Option E) (e:Option F) (g:Option G):Option H:=a.bind fun a=>b.bind fun b=>c.bind fun c=>d.bind fun d=>e.bind fun e=>g.bind fun g=>f a b c d e g
@[simp] theorem nM (f:A->B->C->Option E) (a b c):b3 f (some a) (some b) (some c)=f a b c:=rfl
@[simp] theorem Lg {A B C E F:Type} (f:A->B->C->E->Option F) (a b c d):b4 f (some a) (some b) (some c) (some d)=f a b c d:=rfl
@[simp] theorem wZ {A B C E F G:Type} (f:A->B->C->E->F->Option G) (a b c d e):b5 f (some a) (some b) (some c) (some d) (some e)=f a b c d e:=rfl
@[simp] theorem Lh {A B C E F G H:Type} (f:A->B->C->E->F->G->Option H) (a b c d e g):b6 f (some a) (some b) (some c) (some d) (some e) (some g)=f a b c d e g:=rfl
end
section
variable {A B C E S ρ A1 A2 A3 A4 A5 A6:Type} [En A] [En B] [En C] [En E] [En A1] [En A2] [En A3] [En A4] [En A5] [En A6]
theorem Af {Fs:List D->Option FR} {ds:List D} {t:Option A} {r:A} (h:Fo0 (Fs ds) t) (e:t=some r):bp Fs (some ds)=some (es r):=by
 unfold bp;rw[Option.bind_some,h r e];rfl
theorem cm {Fs:List D->Option FR} {g:A1->Option (A)} (h: ∀(x1:A1),Fo0 (Fs [en x1]) (g x1)) {m1:Option D} {t1:Option A1} (q1:TyS m1 t1):TyS (bp Fs (aj m1 aI)) (b1 g t1):=fun r e=>by
 obtain⟨x1,e1,e⟩:=bind1 e
 rw[q1 _ e1]
 exact Af (h x1) e
theorem dB {Fs:List D->Option FR} {g:A1->A2->Option (A)} (h: ∀(x1:A1) (x2:A2),Fo0 (Fs [en x1,en x2]) (g x1 x2)) {m1:Option D} {t1:Option A1} {m2:Option D} {t2:Option A2} (q1:TyS m1 t1) (q2:TyS m2 t2):TyS (bp Fs (aj m1 (aj m2 aI))) (b2 g t1 t2):=fun r e=>by
 obtain⟨x1,e1,e⟩:=bind1 e
 obtain⟨x2,e2,e⟩:=bind1 e
 rw[q1 _ e1,q2 _ e2]
 exact Af (h x1 x2) e
theorem tu {Fs:List D->Option FR} {g:A1->A2->A3->Option (A)} (h: ∀(x1:A1) (x2:A2) (x3:A3),Fo0 (Fs [en x1,en x2,en x3]) (g x1 x2 x3)) {m1:Option D} {t1:Option A1} {m2:Option D} {t2:Option A2} {m3:Option D} {t3:Option A3} (q1:TyS m1 t1) (q2:TyS m2 t2) (q3:TyS m3 t3):TyS (bp Fs (aj m1 (aj m2 (aj m3 aI)))) (b3 g t1 t2 t3):=fun r e=>by
 obtain⟨x1,e1,e⟩:=bind1 e
 obtain⟨x2,e2,e⟩:=bind1 e
 obtain⟨x3,e3,e⟩:=bind1 e
 rw[q1 _ e1,q2 _ e2,q3 _ e3]
 exact Af (h x1 x2 x3) e
end
end Sw
namespace Sw
open PySem PySem.Spec PyProof.Rows L2
section
variable {A B C E F K R S:Type}
namespace T
def dA (a b:Int):Option Int:=some (a+b)
def Ic (a b:Int):Option Int:=some (a -b)
noncomputable def pH (a b:Int):Option Int:=if tX a b=true then some (a*b) else none
noncomputable def gq (a b:Int):Option Int:=cif (0<b/\b<1073741824) (a/b)
noncomputable def bu (a b:Int):Option Int:=cif (0<b) (a%b)
noncomputable def kQ (a b:Int):Option Int:=cif (0<=b/\b<=1000000/\a.natAbs<2^64) (a^b.toNat)
def yx (a:Int):Option Int:=some (-a)
def ltI (a b:Int):Option Bool:=some (decide (a<b))
def leI (a b:Int):Option Bool:=some (decide (a<=b))
def gtI (a b:Int):Option Bool:=some (decide (b<a))
def geI (a b:Int):Option Bool:=some (decide (b<=a))
def eqA [DecidableEq A] (a b:A):Option Bool:=some (decide (a=b))
def neA [DecidableEq A] (a b:A):Option Bool:=some (!decide (a=b))
def ltS (a b:Str):Option Bool:=some (decide (bQ a b))
def leS (a b:Str):Option Bool:=some (!decide (bQ b a))
def gtS (a b:Str):Option Bool:=some (decide (bQ b a))
def geS (a b:Str):Option Bool:=some (!decide (bQ a b))
def fK (a b:Str):Option Str:=if a.length+b.length<=sizeLine then some (a++b) else none
def min2 (a b:Int):Option Int:=some (if b<a then b else a)
def max2 (a b:Int):Option Int:=some (if b>a then b else a)
def Hu (a b:Str):Option Str:=some (if bQ b a then b else a)
def Hv (a b:Str):Option Str:=some (if bQ a b then b else a)
end T
theorem de:f6 D.dA T.dA:=fun a b c e=>by cases e;rfl
theorem Bn {f:Int->Int->Option Int}:f6 (ii f) f:=fun a b c e=>by
 show (f a b).map D.int=_
 rw[e];rfl
theorem tv:f6 D.pH T.pH:=Bn
theorem ig:f6 D.gq T.gq:=Bn
theorem aZ:f6 D.bu T.bu:=Bn
theorem lY:f6 D.kQ T.kQ:=Bn
theorem Gh:rN D.yx T.yx:=fun a c e=>by cases e;rfl
theorem IZ:f6 D.ltI T.ltI:=fun a b c e=>by cases e;rfl
theorem kM:f6 D.leI T.leI:=fun a b c e=>by cases e;rfl
theorem I0:f6 D.gtI T.gtI:=fun a b c e=>by cases e;rfl
theorem qg:f6 D.leS T.leS:=fun a b c e=>by cases e;rfl
class At (A:Type) [En A] [DecidableEq A]:Prop where
 eqa: ∀a b:A,D.eqA (en a) (en b)=some (decide (a=b))
 nea: ∀a b:A,D.neA (en a) (en b)=some (!decide (a=b))
 toV: ∀a:A,∃v,D.toV (en a)=some v
 eqv: ∀(a b:A) (v w:V),D.toV (en a)=some v->D.toV (en b)=some w->eqV v w=decide (b=a)\/eqV v w=decide (a=b)
instance:At Int:=⟨Hy,Hz,fun a=>⟨_,rfl⟩,fun a b v w e f=>by cases e;cases f;right;simp[eqV];rw[Bool.eq_iff_iff];simp⟩
instance:At Str:=⟨HA,HB,fun a=>⟨_,rfl⟩,fun a b v w e f=>by cases e;cases f;right;simp[eqV];rw[Bool.eq_iff_iff];simp⟩
theorem du [En A] [DecidableEq A] [At A]:f6 D.eqA (T.eqA:A->A->Option Bool):=fun a b c e=>by cases e;exact At.eqa a b
theorem uu [En A] [DecidableEq A] [At A]:f6 D.neA (T.neA:A->A->Option Bool):=fun a b c e=>by cases e;exact At.nea a b
theorem iS:f6 D.fK T.fK:=fun a b c e=>by
 obtain⟨h,rfl⟩:=aH e
 show (if a.length+b.length<=sizeLine then some (D.str (a++b)) else none)=_
 rw[if_pos h];rfl
theorem fo [ES A D] [ES B S] {f:D->Option S} {g:A->Option B} (h:rN f g) {m:Option D} {t:Option A} (q:TyS m t):TyS (b1 (un1 f) (aj m aI)) (b1 g t):=fun b e=>by
 obtain⟨a,e1,e2⟩:=bind1 e
 unfold b1 aj
 rw[q a e1]
 exact h a b e2
def Ki [En A] [ES B S] (f:List D->Option S) (g:A->Option B):Prop:= ∀a c,g a=some c->f [en a]=some (es c)
theorem HD [En A] [ES B S] {f:List D->Option S} {g:A->Option B} (h:Ki f g) {m:Option D} {t:Option A} (q:TyS m t):TyS (b1 f (aj m aI)) (b1 g t):=fun b e=>by
 obtain⟨a,e1,e2⟩:=bind1 e
 unfold b1 aj
 rw[q a e1]
 exact h a b e2
namespace T
def pair (a:A) (b:B):Option (A×B):=some (a,b)
def tri (a:A) (b:B) (c:C):Option (T3 A B C):=some ⟨a,b,c⟩
def qua (a:A) (b:B) (c:C) (d:E):Option (T4 A B C E):=some ⟨a,b,c,d⟩
def qui (a:A) (b:B) (c:C) (d:E) (e:F):Option (T5 A B C E F):=some ⟨a,b,c,d,e⟩
def cons (t:Option A) (u:Option (List A)):Option (List A):=t.bind fun a=>u.bind fun r=>some (a::r)
def lst (u:Option (List A)):Option (List A):=u.bind fun r=>if r.length<=sizeLine then some r else none
def atL (xs:List A) (i:Int):Option A:=atI xs i
def atC (xs:Scr) (i:Int):Option Int:=atI xs.l i
def sgs (x:Str):List Str:=x.cps.toList.map fun c=>⟨#[c]⟩
def atS (x:Str) (i:Int):Option Str:=if x.length<=sizeLine then atI (sgs x) i else none
def lC (xs:List A):Option Int:=some xs.length
def yB (xs:Scr):Option Int:=some xs.l.length
def lQ (x:Str):Option Int:=if x.length<=sizeLine then some x.length else none
def Fm (d:Sd A):Option Int:=some d.l.length
def qL (xs ys:List A):Option (List A):=if xs.length+ys.length<=sizeLine then some (xs++ys) else none
def dO (xs:List A) (lo hi:Option Int):Option (List A):=some (Sw.dO xs lo hi)
def Ij (xs:Scr) (lo hi:Option Int):Option (List Int):=some (Sw.dO xs.l lo hi)
def cutS (x:Str) (lo hi:Option Int):Option Str:=if x.length<=sizeLine then some (L2.cutS x lo hi) else none
def toI (i:Int):Option (Option Int):=some (some i)
def rev (xs:List A):Option (List A):=some xs.reverse
def join (a:Str) (xs:List Str):Option Str:=if (xs.map (·.length)).sum+xs.length*a.length<=16777216 then some (Txt.join a xs) else none
def J4 (xs:List Int):Option Int:=some xs.sum
noncomputable def rF (n:Int):Option (List Int):=if okR n=true then some ((List.range n.toNat).map fun i:Nat=>(i:Int)) else none
def oW (x:Str):Option (List Str):=some (sgs x)
def inA [DecidableEq A] (neg:Bool) (a:A) (xs:List A):Option Bool:=some (if neg=true then !decide (a∈xs) else decide (a∈xs))
end T
theorem Bo [En A] [En B] {m n:Option D} {t:Option A} {u:Option B} (q:TyS m t) (r:TyS n u):TyS (tupO (aj m (aj n aI))) (b2 T.pair t u):=fun c e=>by
 obtain⟨a,b,e1,e2,e3⟩:=bD e
 unfold tupO aj
 rw[q a e1,r b e2];cases e3;rfl
theorem nN [En A] [En B] [En C] {m n o:Option D} {t:Option A} {u:Option B} {v:Option C} (q:TyS m t) (r:TyS n u) (s:TyS o v):TyS (tupO (aj m (aj n (aj o aI)))) (b3 T.tri t u v):=fun c e=>by
 obtain⟨a,e1,e⟩:=bind1 e
 obtain⟨b,e2,e⟩:=bind1 e
 obtain⟨d,e3,e⟩:=bind1 e
 unfold tupO aj
 rw[q a e1,r b e2,s d e3];cases e;rfl
theorem w8 [En A] [En B] [En C] [En E] {m n o p:Option D} {t:Option A} {u:Option B} {v:Option C} {w:Option E} (q:TyS m t) (r:TyS n u) (s:TyS o v) (z:TyS p w):TyS (tupO (aj m (aj n (aj o (aj p aI))))) (b4 T.qua t u v w):=fun c e=>by
 obtain⟨a,e1,e⟩:=bind1 e
 obtain⟨b,e2,e⟩:=bind1 e
 obtain⟨d,e3,e⟩:=bind1 e
 obtain⟨f,e4,e⟩:=bind1 e
 unfold tupO aj
 rw[q a e1,r b e2,s d e3,z f e4];cases e;rfl
theorem lZ [En A] [En B] [En C] [En E] [En F] {m n o p k:Option D} {t:Option A} {u:Option B} {v:Option C} {w:Option E} {l:Option F} (q:TyS m t) (r:TyS n u) (s:TyS o v) (z:TyS p w) (y:TyS k l):TyS (tupO (aj m (aj n (aj o (aj p (aj k aI)))))) (b5 T.qui t u v w l):=fun c e=>by
 obtain⟨a,e1,e⟩:=bind1 e
 obtain⟨b,e2,e⟩:=bind1 e
 obtain⟨d,e3,e⟩:=bind1 e
 obtain⟨f,e4,e⟩:=bind1 e
 obtain⟨g,e5,e⟩:=bind1 e
 unfold tupO aj
 rw[q a e1,r b e2,s d e3,z f e4,y g e5];cases e;rfl
theorem f7 [En A]:TyS (S:=List D) aI (some ([]:List A)):=fun _ e=>by cases e;rfl
theorem aD [En A] {m:Option D} {t:Option A} {ms:Option (List D)} {u:Option (List A)} (q:TyS m t) (r:TyS ms u):TyS (aj m ms) (T.cons t u):=aA q fun a=>aA r fun b=>ae rfl
theorem f9 [En A] {ms:Option (List D)} {u:Option (List A)} (r:TyS ms u):TyS (oF ms) (T.lst u):=aA r fun xs b e=>by
 obtain⟨h,rfl⟩:=aH e
 show (if ((xs.map en).length)<=sizeLine then _ else _)=_
 rw[List.length_map,if_pos h];rfl
theorem yS {α β:Type} (f:α->β) (xs:List α) (i:Int):atI (xs.map f) i=(atI xs i).map f:=by
 unfold L2.atI
 rw[List.length_map]
 cases ixN xs.length i with
 |none=>rfl
 |some j=>simp
theorem bq [En A]:f6 D.atL (T.atL:List A->Int->Option A):=fun xs i a e=>by
 show atI (xs.map en) i=_
 rw[yS,show atI xs i=some a from e];rfl
theorem I3:f6 D.atC T.atC:=fun xs i a e=>by
 show (atI xs.l i).map D.int=_
 rw[show atI xs.l i=some a from e];rfl
theorem uv:f6 D.atS T.atS:=fun x i a e=>by
 obtain⟨h,e⟩:=(show x.length<=sizeLine/\atI (T.sgs x) i=some a by
  unfold T.atS at e
  split at e
  ·exact⟨by assumption,e⟩
  ·cases e)
 show (if x.length<=sizeLine then (atI x.cps.toList i).map fun c=>D.str ⟨#[c]⟩ else none)=_
 rw[if_pos h]
 unfold T.sgs at e
 rw[yS] at e
 cases q:atI x.cps.toList i with
 |none=>rw[q] at e;cases e
 |some c=>rw[q] at e;cases e;rfl
theorem lD [En A] [En B] {m:Option D} {t:Option A} {i:Int} {f:A->B} (q:TyS m t) (h: ∀a,D.atT (en a) (.int i)=some (en (f a))):TyS (b2 D.atT m (some (.int i))) (t.map f):=fun b e=>by
 cases t with
 |none=>cases e
 |some a=>
  cases e
  unfold b2
  rw[q a rfl];exact h a
theorem l5 [En A]:rN D.lC (T.lC:List A->Option Int):=fun xs c e=>by
 cases e
 show some (D.int (xs.map en).length)=_
 rw[List.length_map];rfl
theorem Gj:rN D.yB T.yB:=fun xs c e=>by cases e;rfl
theorem l6:rN D.lQ T.lQ:=fun x c e=>by
 obtain⟨h,rfl⟩:=aH e
 show (if x.length<=sizeLine then some (D.int x.length) else none)=_
 rw[if_pos h];rfl
theorem tw [En A]:f6 D.qL (T.qL:List A->List A->Option (List A)):=fun xs ys c e=>by
 obtain⟨h,rfl⟩:=aH e
 show (if (xs.map en).length+(ys.map en).length<=sizeLine then some (D.lst (xs.map en++ys.map en)) else none)=_
 rw[List.length_map,List.length_map,if_pos h,←List.map_append];rfl
theorem yT {α β:Type} (f:α->β) (xs:List α) (lo hi:Option Int):Sw.dO (xs.map f) lo hi=(Sw.dO xs lo hi).map f:=by
 unfold Sw.dO
 rw[List.length_map,←List.map_drop,←List.map_take]
def oY (f:A->Option Int->Option Int->Option B) (a:Option A) (l h:Option (Option Int)):Option B:=a.bind fun x=>l.bind fun l=>h.bind fun u=>f x l u
@[simp] theorem vW (f:A->Option Int->Option Int->Option B) (a:A) (l h:Option Int):oY f (some a) (some l) (some h)=f a l h:=rfl
def TyC [En A] [En B] (f:D->Option Int->Option Int->Option D) (g:A->Option Int->Option Int->Option B):Prop:= ∀a l h b,g a l h=some b->f (en a) l h=some (en b)
theorem iz [En A] [En B] {f:D->Option Int->Option Int->Option D} {g:A->Option Int->Option Int->Option B} (h:TyC f g) {m:Option D} {t:Option A} {l l' u u':Option (Option Int)} (q:TyS m t) (r:TyS l l') (s:TyS u u'):TyS (oG f m l u) (oY g t l' u'):=
 aA q fun a=>aA r fun l=>aA s fun u b e=>by
  have el:(es l:Option Int)=l:=by cases l <;> rfl
  have eu:(es u:Option Int)=u:=by cases u <;> rfl
  rw[el,eu]
  exact h a l u b e
theorem l7:TyS (some (none:Option Int)) (some (none:Option Int)):=ae rfl
theorem gb:rN D.toI T.toI:=fun a b e=>by cases e;rfl
theorem Kj [En A]:TyC D.dO (T.dO:List A->Option Int->Option Int->Option (List A)):=fun xs l h b e=>by
 cases e
 show some (D.lst (Sw.dO (xs.map en) l h))=_
 rw[yT];rfl
theorem Bp [En A] [Ev A]:TyC D.vR (T.dO:List A->Option Int->Option Int->Option (List A)):=fun xs l h b e=>by
 cases e
 show (if D.evs (xs.map en)=true then some (D.lst (Sw.dO (xs.map en) l h)) else none)=_
 rw[if_pos (IX xs),yT];rfl
theorem w9:TyC D.cutS T.cutS:=fun x l h b e=>by
 obtain⟨g,rfl⟩:=aH e
 show (if x.length<=sizeLine then some (D.str (L2.cutS x l h)) else none)=_
 rw[if_pos g];rfl
theorem xg [En A] {m:Option D} {t:Option (List A)} (q:TyS m t):TyS (BX m) t:=fun a e=>by
 unfold BX;rw[q a e];rfl
theorem Kk [En A] [En B] {m:Option D} {t:Option (A×B)} (q:TyS m t):TyS (b1 D.pr m) t:=fun a e=>by
 unfold b1;rw[q a e];rfl
namespace T
def zip (xs:List A) (ys:List B):Option (List (A×B)):=some (xs.zip ys)
end T
theorem Bq:Ki (S:=List D) D.rF T.rF:=fun n c e=>by
 obtain⟨h,rfl⟩:=aH e
 show (if okR n=true then some (vi 0 n.toNat) else none)=_
 rw[if_pos h,DO]
 show _=some (List.map en _)
 rw[List.map_map];rfl
theorem pD:rN (T:=List D) D.oW T.oW:=fun x c e=>by
 cases e
 show some (x.cps.toList.map sgn)=some (List.map en (T.sgs x))
 unfold T.sgs
 rw[List.map_map];rfl
theorem Gk (xs:List Str):D.strs (xs.map en)=some xs:=strs_map xs
theorem qV:f6 D.join T.join:=fun a xs c e=>by
 obtain⟨h,rfl⟩:=aH e
 show ((D.strs (xs.map en)).bind _)=_
 rw[Gk,Option.bind_some,if_pos h];rfl
theorem Ag [En A] [DecidableEq A] [At A] (a:A) (v:V) (hv:D.toV (en a)=some v): ∀xs:List A,∃vs,D.p7 (xs.map en)=some vs/\inV v vs=decide (a∈xs)
 | []=>⟨[],rfl,rfl⟩
 |x::xs=>by
  obtain⟨vs,e1,e2⟩:=Ag a v hv xs
  obtain⟨w,hw⟩:=At.toV x
  refine⟨w::vs,?_,?_⟩
  ·rw[List.map_cons];unfold D.p7;rw[hw,e1];rfl
  ·show (eqV w v||inV v vs)=_
   have h:eqV w v=decide (x=a):=by
    rcases At.eqv x a w v hw hv with h|h
    ·rw[h];rw[Bool.eq_iff_iff];simp only[decide_eq_true_eq];exact eq_comm
    ·exact h
   rw[h,e2,Bool.eq_iff_iff]
   simp only[Bool.or_eq_true,decide_eq_true_eq,List.mem_cons]
   exact or_congr eq_comm Iff.rfl
theorem I4 [En A] [DecidableEq A] [At A] (neg:Bool):f6 (D.inA neg) (T.inA neg:A->List A->Option Bool):=fun a xs c e=>by
 cases e
 obtain⟨v,hv⟩:=At.toV a
 obtain⟨vs,e1,e2⟩:=Ag a v hv xs
 show (((D.toV (en a)).bind fun a=>(some (xs.map en)).bind fun ds=>(D.p7 ds).map fun vs=>if neg=true then !inV a vs else inV a vs))=_
 rw[hv,Option.bind_some,Option.bind_some,e1,Option.map_some,e2];rfl
def uw (rt:A->Option Bool) (re:A->Option B):List A->Option (List B)
 | []=>some []
 |d::ds=>(rt d).bind fun b=>if b=true then (re d).bind fun x=>(uw rt re ds).bind fun xs=>some (x::xs) else uw rt re ds
def tlc (xs:Option (List A)) (rt:A->Option Bool) (re:A->Option B):Option (List B):=xs.bind fun ds=>if ds.length<=sizeLine then uw rt re ds else none
theorem ux [ES A S] [En B] {rt:S->Option Bool} {re:S->Option D} {rt':A->Option Bool} {re':A->Option B} (h: ∀a,TyS (rt (es a)) (rt' a)) (g: ∀a,TyS (re (es a)) (re' a)): ∀xs:List A,TyS (S:=List D) (qM rt re (xs.map es)) (uw rt' re' xs)
 | []=>ae rfl
 |x::xs=>by
  show TyS ((rt (es x)).bind _) ((rt' x).bind _)
  refine aA (h x) fun b=> ?_
  cases b with
  |false=>exact ux h g xs
  |true=>exact aA (g x) fun y=>aA (ux h g xs) fun ys=>ae rfl
theorem Br [ES A S] [En B] {m:Option (List S)} {t:Option (List A)} {rt:S->Option Bool} {re:S->Option D} {rt':A->Option Bool} {re':A->Option B} (q:TyS m t) (h: ∀a,TyS (rt (es a)) (rt' a)) (g: ∀a,TyS (re (es a)) (re' a)):TyS (lcO m rt re) (tlc t rt' re'):=aA q fun xs b e=>by
 split at e
 ·rename_i hl
  unfold ua
  rw[show (es xs:List S).length=xs.length from List.length_map ..]
  rw[if_pos hl]
  have:=ux h g xs b e
  rw[show (es xs:List S)=xs.map es from rfl,this];rfl
 ·cases e
namespace T
def Fh (d:Sd A) (x:Str):Option A:=aF d.l x
def inK (x:Str) (d:Sd A):Option Bool:=some (aF d.l x).isSome
def Fj (x:Str) (d:Sd A):Option Bool:=some (!(aF d.l x).isSome)
def Ht (d:Sd A):Option (List Str):=some (d.l.map (·.1))
def items (d:Sd A):Option (List (Str×A)):=some d.l
def vals (d:Sd A):Option (List A):=some (d.l.map (·.2))
end T
structure Lz (R A:Type) where
 get:R->Option A
 put:R->A->R
def plR:Lz R R:=⟨some,fun _ a=>a⟩
def Gn [En R] [En A] (s:Sh) (r:R) (q:Option (List Stp)) (p:Option (Lz R A)) (s':Sh):Prop:=
 ∀p0,p=some p0-> ∃q0,q=some q0/\shP s q0=some s'/\ ∃a,p0.get r=some a/\lP (en r) q0=some (en a)/\ ∀a',iM (en r) q0 (en a')=en (p0.put r a')
theorem D2 (d:D):lP d []=some d:=by cases d <;> rfl
theorem D3 (d e:D):iM d [] e=e:=by cases d <;> rfl
theorem nO [En R] (s:Sh) (r:R):Gn s r (some []) (some plR) s:=fun p0 e=>by
 cases e
 exact⟨[],rfl,by cases s <;> rfl,r,rfl,D2 _,fun a'=>D3 _ _⟩
namespace T
def at0 (r:R) (p:Option (Lz R A)) (f:A->Option (C×A)):Option (C×R):=p.bind fun p=>(p.get r).bind fun a=>(f a).bind fun c=>some (c.1,p.put r c.2)
def at1 (r:R) (p:Option (Lz R A)) (t:Option B) (f:A->B->Option (C×A)):Option (C×R):=p.bind fun p=>t.bind fun x=>(p.get r).bind fun a=>(f a x).bind fun c=>some (c.1,p.put r c.2)
def at2 (r:R) (p:Option (Lz R A)) (t:Option B) (u:Option E) (f:A->B->E->Option (C×A)):Option (C×R):=p.bind fun p=>t.bind fun x=>u.bind fun y=>(p.get r).bind fun a=>(f a x y).bind fun c=>some (c.1,p.put r c.2)
def Ah (r:R) (t:Option A) (p:Option (Lz R (List A))) (u:Option Int):Option R:=t.bind fun x=>p.bind fun p=>u.bind fun i=>(p.get r).bind fun d=>(ixN d.length i).bind fun j=>some (p.put r (d.set j x))
def app (xs:List A) (x:A):Option (Unit×List A):=if xs.length<sizeLine then some ((),xs++[x]) else none
noncomputable def ins (xs:List A) (i:Int) (x:A):Option (Unit×List A):=cif (xs.length<sizeLine/\0<=i/\i<2^63) ((),xs.take i.toNat++[x]++xs.drop i.toNat)
def clr (xs:List A):Option (Unit×List A):=some ((),[])
def rvs (xs:List A):Option (Unit×List A):=some ((),xs.reverse)
def Mq (d:Sd A):Option (Unit×Sd A):=some ((),⟨[]⟩)
end T
theorem I5 [En R] [En A] [En C] {s s':Sh} {r:R} {q:Option (List Stp)} {p:Option (Lz R A)} (h:Gn s r q p s') {p0:Lz R A} (e:p=some p0) {a:A} (ea:p0.get r=some a) {f:D->Option (D×D)} {c:C×A} (hf:f (en a)=some (en c.1,en c.2)): ∃q0,q=some q0/\do1 (en r) q0 f=some (es (c.1,p0.put r c.2)):=by
 obtain⟨q0,f1,f2,a',f3,f4,f5⟩:=h p0 e
 rw[ea] at f3;cases f3
 refine⟨q0,f1,?_⟩
 unfold do1
 rw[f4,Option.bind_some,hf]
 show some (en c.1,iM (en r) q0 (en c.2))=_
 rw[f5];rfl
theorem Ai [En R] [En A] [En B] [En C] {s s':Sh} {r:R} {q:Option (List Stp)} {p:Option (Lz R A)} {m:Option D} {t:Option B} {f:D->D->Option (D×D)} {g:A->B->Option (C×A)} (hf: ∀a b c,g a b=some c->f (en a) (en b)=some (en c.1,en c.2)) (h:Gn s r q p s') (hm:TyS m t):TyS (BY (en r) q m f) (T.at1 r p t g):=fun c e=>by
 obtain⟨p0,e1,e⟩:=bind1 e
 obtain⟨b,e4,e⟩:=bind1 e
 obtain⟨a,e2,e⟩:=bind1 e
 obtain⟨x,e3,e⟩:=bind1 e
 cases e
 obtain⟨q0,g1,g2⟩:=I5 (f:=fun d=>f d (en b)) h e1 e2 (hf a b x e3)
 unfold BY;rw[g1,hm b e4,Option.bind_some,Option.bind_some];exact g2
theorem Aj [En A]: ∀(a:List A) (b:A) c,T.app a b=some c->D.app (en a) (en b)=some (en c.1,en c.2):=fun a b c e=>by
 obtain⟨h,rfl⟩:=aH e
 show (if (a.map en).length<sizeLine then some (D.non,D.lst (a.map en++[en b])) else none)=_
 rw[List.length_map,if_pos h]
 show some (D.non,D.lst _)=some (D.non,D.lst (List.map en (a++[b])))
 rw[List.map_append];rfl
theorem tA [En R] [En A] {s s':Sh} {r:R} {m:Option D} {t:Option A} {q:Option (List Stp)} {p:Option (Lz R (List A))} {n:Option D} {u:Option Int} (h:Gn s r q p s') (hm:TyS m t) (hn:TyS n u):TyS (sf (en r) m q n) (T.Ah r t p u):=fun c e=>by
 obtain⟨x,e1,e⟩:=bind1 e
 obtain⟨p0,e2,e⟩:=bind1 e
 obtain⟨k,e3,e⟩:=bind1 e
 obtain⟨d,e4,e⟩:=bind1 e
 obtain⟨j,e5,e⟩:=bind1 e
 cases e
 obtain⟨q0,f1,f2,a',f3,f4,f5⟩:=h p0 e2
 rw[e4] at f3;cases f3
 unfold sf
 rw[hm x e1,f1,hn k e3]
 show (lP (en r) q0).bind _=_
 rw[f4,Option.bind_some]
 have:D.Di (en d) (en k) (en x)=some (en (d.set j x)):=by
  show ((ixN (d.map en).length k).map fun j=>D.lst ((d.map en).set j (en x)))=_
  rw[List.length_map,e5]
  show some (D.lst ((d.map en).set j (en x)))=_
  rw[<-List.map_set];rfl
 show (D.Di (en d) (en k) (en x)).bind _=_
 rw[this]
 show some (iM (en r) q0 (en _))=_
 rw[f5];rfl
end
end Sw
namespace Sw
open PySem PySem.Spec PyProof.Rows L2
class So (A:Type) [En A] where
 dec:DecidableEq A
 lt:A->A->Bool
 dep:Nat
 ok:A->Bool
 dat: ∀a:A,(en a).dat=true
 depth: ∀a:A,(en a).pd.depth<=dep
 al: ∀a b:A,PySem.W.alike (en a).pd (en b).pd=true
 eqv: ∀a b:A,PyData.eqv (en a).pd (en b).pd=true↔a=b
 lt_ok: ∀a b:A,PySem.W.dataLt (en a).pd (en b).pd=lt a b
 lay: ∀a:A,ok a=true->(en a).pd.canLay0=true
 noN: ∀a:A,wJ (en a).pd=false
class St1 (A:Type) [En A]:Prop where
 st:(∀a:A,(en a).JY=true)\/(∀a:A,(en a).noT=true)
section
variable {A B C E F:Type}
instance instSoInt:So Int where
 dec:=inferInstance
 lt a b:=decide (a<b)
 dep:=0
 ok _:=true
 dat _:=rfl
 depth _:=Nat.le_refl _
 al _ _:=rfl
 eqv a b:=by show (a==b)=true↔_;exact beq_iff_eq
 lt_ok a b:=PySem.W.dataLt_int a b
 lay _ _:=rfl
 noN _:=rfl
instance instSoStr:So Str where
 dec:=inferInstance
 lt a b:=decide (bQ a b)
 dep:=0
 ok a:=PySem.PyData.strOk a
 dat _:=rfl
 depth _:=Nat.le_refl _
 al _ _:=rfl
 eqv a b:=by show (a==b)=true↔_;exact beq_iff_eq
 lt_ok a b:=PySem.W.dataLt_str a b
 lay a h:=h
 noN _:=rfl
instance instSoBool:So Bool where
 dec:=inferInstance
 lt a b:=PySem.W.dataLt (.bool a) (.bool b)
 dep:=0
 ok _:=true
 dat _:=rfl
 depth _:=Nat.le_refl _
 al _ _:=rfl
 eqv a b:=by show (a==b)=true↔_;exact beq_iff_eq
 lt_ok a b:=rfl
 lay _ _:=rfl
 noN _:=rfl
theorem I6 [En A] [So A] {a b:A} (h:a=b):PyData.eqv (en a).pd (en b).pd=true:=(So.eqv a b).mpr h
theorem Kl [En A] [So A] {a b:A} (h:a≠b):PyData.eqv (en a).pd (en b).pd=false:=by
 cases e:PyData.eqv (en a).pd (en b).pd with
 |false=>rfl
 |true=>exact absurd ((So.eqv a b).mp e) h
def iA (xs ys:List PyData):Bool:=PyProof.Rows.lexLt PyProof.Rows.itemOrd (PySem.W.keyToksAll xs) (PySem.W.keyToksAll ys)
theorem bG [En A] [So A] (a b:A) (xs ys:List PyData):iA ((en a).pd::xs) ((en b).pd::ys)= @ite _ (a=b) (So.dec a b) (iA xs ys) (So.lt a b):=by
 unfold iA
 by_cases h:a=b
 ·rw[PySem.W.dataLt_all_yes (So.al a b) (I6 h),if_pos h]
 ·rw[PySem.W.dataLt_all_no (So.al a b) (Kl h),if_neg h,So.lt_ok]
theorem nQ:iA [] []=false:=DU
theorem Cb (x:PyData) (xs:List PyData):iA [] (x::xs)=true:=by
 unfold iA
 show PyProof.Rows.lexLt PyProof.Rows.itemOrd (PySem.W.keyToksAll []) (PySem.W.keyToksAll (x::xs))=true
 rw[show PySem.W.keyToksAll []=[.inl 0] by unfold PySem.W.keyToksAll;rfl,show PySem.W.keyToksAll (x::xs)= .inl 1::(PySem.W.keyToks x++PySem.W.keyToksAll xs) by rw[PySem.W.keyToksAll]]
 exact (PyProof.Rows.lex_diff (O:=PyProof.Rows.itemOrd) (by simp)).trans rfl
theorem D4 (x:PyData) (xs:List PyData):iA (x::xs) []=false:=by
 unfold iA
 rw[show PySem.W.keyToksAll []=[.inl 0] by unfold PySem.W.keyToksAll;rfl,show PySem.W.keyToksAll (x::xs)= .inl 1::(PySem.W.keyToks x++PySem.W.keyToksAll xs) by rw[PySem.W.keyToksAll]]
 exact (PyProof.Rows.lex_diff (O:=PyProof.Rows.itemOrd) (by simp)).trans rfl
instance instSoPair [En A] [En B] [So A] [So B]:So (A×B) where
 dec:=@instDecidableEqProd A B So.dec So.dec
 lt p q:=@ite _ (p.1=q.1) (So.dec p.1 q.1) (@ite _ (p.2=q.2) (So.dec p.2 q.2) false (So.lt p.2 q.2)) (So.lt p.1 q.1)
 dep:=max (So.dep A) (So.dep B)+1
 ok p:=So.ok p.1&&So.ok p.2
 dat p:=by
  show ((en p.1).dat&&((en p.2).dat&&true))=true
  rw[So.dat,So.dat];rfl
 depth p:=by
  show max (en p.1).pd.depth (max (en p.2).pd.depth 0)+1<=_
  have:=So.depth p.1;have:=So.depth p.2;omega
 al p q:=by
  show (PySem.W.alike (en p.1).pd (en q.1).pd&&(PySem.W.alike (en p.2).pd (en q.2).pd&&true))=true
  rw[So.al,So.al];rfl
 eqv p q:=by
  show (PyData.eqv (en p.1).pd (en q.1).pd&&(PyData.eqv (en p.2).pd (en q.2).pd&&true))=true↔_
  rw[Bool.and_true,Bool.and_eq_true,So.eqv,So.eqv]
  exact⟨fun h=>Prod.ext h.1 h.2,fun h=>by rw[h];exact⟨rfl,rfl⟩⟩
 lt_ok p q:=by
  show PySem.W.dataLt (.tuple [(en p.1).pd,(en p.2).pd]) (.tuple [(en q.1).pd,(en q.2).pd])=_
  rw[PySem.W.dataLt_tuple]
  show iA _ _=_
  rw[bG,bG,nQ]
 lay p h:=by
  rw[Bool.and_eq_true] at h
  show ((en p.1).pd.canLay0&&((en p.2).pd.canLay0&&true))=true
  rw[So.lay _ h.1,So.lay _ h.2];rfl
 noN _:=rfl
def oB [En A] [So A]:List A->List A->Bool
 | [],[]=>false
 | [],_::_=>true
 |_::_,[]=>false
 |a::xs,b::ys=>@ite _ (a=b) (So.dec a b) (oB xs ys) (So.lt a b)
theorem rO [En A] [So A]: ∀xs ys:List A,iA (xs.map fun a=>(en a).pd) (ys.map fun a=>(en a).pd)=oB xs ys
 | [],[]=>nQ
 | [],y::ys=>Cb _ _
 |x::xs,[]=>D4 _ _
 |x::xs,y::ys=>by
  rw[List.map_cons,List.map_cons,bG,rO xs ys];rfl
theorem D5 [En A] [So A]: ∀xs ys:List A,PySem.W.alikeAll (xs.map fun a=>(en a).pd) (ys.map fun a=>(en a).pd)=true
 | [],ys=>by rw[List.map_nil];unfold PySem.W.alikeAll;cases ys <;> rfl
 |x::xs,[]=>rfl
 |x::xs,y::ys=>by
  rw[List.map_cons,List.map_cons,PySem.W.alikeAll,So.al,D5 xs ys];rfl
theorem gc [En A] (xs:List A):D.pds (xs.map en)=xs.map fun a=>(en a).pd:=DV en xs
instance instSoList [En A] [So A]:So (List A) where
 dec:=@instDecidableEqList A So.dec
 lt:=oB
 dep:=So.dep A+1
 ok xs:=xs.all So.ok
 dat xs:=by
  show D.yu (xs.map en)=true
  rw[D.yv,List.all_eq_true]
  intro d hd
  obtain⟨a,_,rfl⟩:=List.mem_map.mp hd
  exact So.dat a
 depth xs:=by
  show PyData.depthAll (D.pds (xs.map en))+1<=_
  rw[gc]
  have:=sk (n:=So.dep A) (ds:=xs.map fun a=>(en a).pd) fun d hd=>by obtain⟨a,_,rfl⟩:=List.mem_map.mp hd;exact So.depth a
  omega
 al xs ys:=by
  show PySem.W.alike (.list (D.pds (xs.map en))) (.list (D.pds (ys.map en)))=true
  rw[gc,gc]
  exact D5 xs ys
 eqv xs ys:=by
  show PyData.eqvAll (D.pds (xs.map en)) (D.pds (ys.map en))=true↔_
  rw[gc,gc]
  exact qe (fun a b=>So.eqv a b) xs ys
 lt_ok xs ys:=by
  show PySem.W.dataLt (.list (D.pds (xs.map en))) (.list (D.pds (ys.map en)))=_
  rw[PySem.W.dataLt_list,gc,gc]
  exact rO xs ys
 lay xs h:=by
  show PyData.canLayAll0 (D.pds (xs.map en))=true
  rw[gc]
  rw[List.all_eq_true] at h
  exact DW fun d hd=>by obtain⟨a,ha,rfl⟩:=List.mem_map.mp hd;exact So.lay a (h a ha)
 noN _:=rfl
instance instSoTl [En A] [So A]:So (Tl A) where
 dec:=fun a b=>@decidable_of_iff _ (a.l=b.l) ⟨fun h=>by cases a;cases b;simpa using h,fun h=>by rw[h]⟩ (@instDecidableEqList A So.dec a.l b.l)
 lt a b:=oB a.l b.l
 dep:=So.dep A+1
 ok xs:=xs.l.all So.ok
 dat xs:=by
  show D.yu (xs.l.map en)=true
  rw[D.yv,List.all_eq_true]
  intro d hd
  obtain⟨a,_,rfl⟩:=List.mem_map.mp hd
  exact So.dat a
 depth xs:=by
  show PyData.depthAll (D.pds (xs.l.map en))+1<=_
  rw[gc]
  have:=sk (n:=So.dep A) (ds:=xs.l.map fun a=>(en a).pd) fun d hd=>by obtain⟨a,_,rfl⟩:=List.mem_map.mp hd;exact So.depth a
  omega
 al xs ys:=by
  show PySem.W.alike (.tuple (D.pds (xs.l.map en))) (.tuple (D.pds (ys.l.map en)))=true
  rw[gc,gc]
  exact D5 xs.l ys.l
 eqv xs ys:=by
  show PyData.eqvAll (D.pds (xs.l.map en)) (D.pds (ys.l.map en))=true↔_
  rw[gc,gc,qe (fun a b=>So.eqv a b) xs.l ys.l]
  exact⟨fun h=>by cases xs;cases ys;simpa using h,fun h=>by rw[h]⟩
 lt_ok xs ys:=by
  show PySem.W.dataLt (.tuple (D.pds (xs.l.map en))) (.tuple (D.pds (ys.l.map en)))=_
  rw[PySem.W.dataLt_tuple,gc,gc]
  exact rO xs.l ys.l
 lay xs h:=by
  show PyData.canLayAll0 (D.pds (xs.l.map en))=true
  rw[gc]
  rw[List.all_eq_true] at h
  exact DW fun d hd=>by obtain⟨a,ha,rfl⟩:=List.mem_map.mp hd;exact So.lay a (h a ha)
 noN _:=rfl
instance instSoT3 [En A] [En B] [En C] [So A] [So B] [So C]:So (T3 A B C) where
 dec:=@instDecidableEqT3 A B C So.dec So.dec So.dec
 lt p q:=@ite _ (p.a=q.a) (So.dec p.a q.a) (@ite _ (p.b=q.b) (So.dec p.b q.b) (@ite _ (p.c=q.c) (So.dec p.c q.c) false (So.lt p.c q.c)) (So.lt p.b q.b)) (So.lt p.a q.a)
 dep:=max (So.dep A) (max (So.dep B) (So.dep C))+1
 ok p:=So.ok p.a&&So.ok p.b&&So.ok p.c
 dat p:=by
  show ((en p.a).dat&&((en p.b).dat&&((en p.c).dat&&true)))=true
  rw[So.dat,So.dat,So.dat];rfl
 depth p:=by
  show max (en p.a).pd.depth (max (en p.b).pd.depth (max (en p.c).pd.depth 0))+1<=_
  have:=So.depth p.a;have:=So.depth p.b;have:=So.depth p.c;omega
 al p q:=by
  show (PySem.W.alike (en p.a).pd (en q.a).pd&&(PySem.W.alike (en p.b).pd (en q.b).pd&&(PySem.W.alike (en p.c).pd (en q.c).pd&&true)))=true
  rw[So.al,So.al,So.al];rfl
 eqv p q:=by
  show (PyData.eqv (en p.a).pd (en q.a).pd&&(PyData.eqv (en p.b).pd (en q.b).pd&&(PyData.eqv (en p.c).pd (en q.c).pd&&true)))=true↔_
  rw[Bool.and_true,Bool.and_eq_true,Bool.and_eq_true,So.eqv,So.eqv,So.eqv]
  exact⟨fun h=>by cases p;cases q;simp at h ⊢; exact h,fun h=>by rw[h];exact⟨rfl,rfl,rfl⟩⟩
 lt_ok p q:=by
  show PySem.W.dataLt (.tuple [(en p.a).pd,(en p.b).pd,(en p.c).pd]) (.tuple [(en q.a).pd,(en q.b).pd,(en q.c).pd])=_
  rw[PySem.W.dataLt_tuple]
  show iA _ _=_
  rw[bG,bG,bG,nQ]
 lay p h:=by
  rw[Bool.and_eq_true,Bool.and_eq_true] at h
  show ((en p.a).pd.canLay0&&((en p.b).pd.canLay0&&((en p.c).pd.canLay0&&true)))=true
  rw[So.lay _ h.1.1,So.lay _ h.1.2,So.lay _ h.2];rfl
 noN _:=rfl
instance:St1 Int:=⟨.inr fun _=>rfl⟩
instance:St1 Str:=⟨.inr fun _=>rfl⟩
instance [En A]:St1 (List A):=⟨.inr fun _=>rfl⟩
instance [En A] [En B]:St1 (A×B):=⟨.inl fun _=>rfl⟩
instance [En A] [En B] [En C]:St1 (T3 A B C):=⟨.inl fun _=>rfl⟩
namespace T
def leO [En A] [So A] (a b:A):Bool:= !So.lt b a
def srt [En A] [So A] (xs:List A):List A:=xs.mergeSort leO
def eqD [En A] [So A] (a b:A):Option Bool:=if (So.ok a&&So.ok b)=true then some (@decide (a=b) (So.dec a b)) else none
end T
theorem vX [En A] [So A] (hd:So.dep A<=64) {a:A} (h:So.ok a=true):SeqAt.shaped (en a).pd=true:=by
 unfold SeqAt.shaped
 rw[So.lay a h,Bool.true_and,decide_eq_true_eq]
 exact Nat.le_trans (So.depth a) hd
theorem I7 [En A] [So A] (hd:So.dep A<=64) {a b:A} (h:(So.ok a&&So.ok b)=true):D.ok2 (en a) (en b)=true:=by
 rw[Bool.and_eq_true] at h
 unfold D.ok2
 rw[So.dat,So.dat,vX hd h.1,vX hd h.2];rfl
theorem I8 [En A] [So A] (a b:A):PyData.eqv (en a).pd (en b).pd= @decide (a=b) (So.dec a b):=by
 rw[Bool.eq_iff_iff,So.eqv,@decide_eq_true_eq _ (So.dec a b)]
theorem I9 [En A] [So A] (hd:So.dep A<=64):f6 D.eqD (T.eqD:A->A->Option Bool):=fun a b c e=>by
 obtain⟨h,rfl⟩:=aH e
 show D.eqD (en a) (en b)=_
 unfold D.eqD
 rw[if_pos (I7 hd h)]
 show some (PyData.eqv (en a).pd (en b).pd)=_
 rw[I8];rfl
theorem Ja [En A] {T':String} {c:Bool} {m:Option D} {t:Option A} (h: ∀a:A,D.isa T' (en a)=some c) (q:TyS m t):TyS (blO (b1 (D.isa T') m)) (t.bind fun _=>some c):=fun b e=>by
 obtain⟨a,e1,e2⟩:=bind1 e
 cases e2
 unfold blO b1
 rw[q a e1]
 show (D.isa T' (en a)).bind _=_
 rw[h a];rfl
end
end Sw
namespace Sw
open PySem PySem.Spec PyProof.Rows L2
section
variable {A B C:Type}
theorem uy [En A] {m:Option D} {t:Option (Option A)} (q:TyS m t):TyS m (t.bind id):=fun a e=>by
 obtain⟨o,e1,e2⟩:=bind1 e
 have e2:o=some a:=e2
 rw[q o e1,e2];rfl
theorem tD [En A] {m:Option D} {t:Option A} (q:TyS m t):TyS m (t.map some):=fun a e=>by
 cases t with
 |none=>cases e
 |some b=>cases e;rw[q b rfl];rfl
theorem iT [En A]:TyS (some D.non) (some (none:Option A)):=ae rfl
class NN (A:Type) [En A]:Prop where
 nn: ∀a:A,D.isN (en a)=some false
instance:NN Int:=⟨fun _=>rfl⟩
instance:NN Str:=⟨fun _=>rfl⟩
instance:NN Bool:=⟨fun _=>rfl⟩
instance [En A]:NN (List A):=⟨fun _=>rfl⟩
instance [En A] [En B]:NN (A×B):=⟨fun _=>rfl⟩
instance [En A] [En B] [En C]:NN (T3 A B C):=⟨fun _=>rfl⟩
instance [En A]:NN (Sd A):=⟨fun _=>rfl⟩
instance [En A]:NN (Tl A):=⟨fun _=>rfl⟩
namespace T
def isN (o:Option A) (_:Unit):Option Bool:=some o.isNone
end T
theorem xh (o:Option Str) (a:Str):D.neA (en o) (en a)=some (!decide (o=some a))/\D.eqA (en o) (en a)=some (decide (o=some a)):=by
 cases o with
 |none=>exact⟨rfl,rfl⟩
 |some b=>
  refine⟨(HB b a).trans ?_,(HA b a).trans ?_⟩ <;> simp
theorem xn (o:Option Int) (a:Int):D.neA (en o) (en a)=some (!decide (o=some a))/\D.eqA (en o) (en a)=some (decide (o=some a)):=by
 cases o with
 |none=>exact⟨rfl,rfl⟩
 |some b=>
  refine⟨(Hz b a).trans ?_,(Hy b a).trans ?_⟩ <;> simp
class AtO (A:Type) [En A] [DecidableEq A]:Prop where
 ao: ∀(o:Option A) (a:A),D.neA (en o) (en a)=some (!decide (o=some a))/\D.eqA (en o) (en a)=some (decide (o=some a))
instance:AtO Str:=⟨xh⟩
instance:AtO Int:=⟨xn⟩
theorem qh [En A] [NN A]:f6 D.vh (T.isN:Option A->Unit->Option Bool):=fun o a c e=>by
 cases e
 show D.isN (en o)=_
 cases o with
 |none=>rfl
 |some x=>exact NN.nn x
class Sc1 (A:Type) [En A] [So A]:Prop where
 of: ∀a:A,L5 (en a).pd=some (en a)
 dp:So.dep A<=30
instance:Sc1 Int:=⟨fun _=>rfl,Nat.zero_le _⟩
instance:Sc1 Str:=⟨fun _=>rfl,Nat.zero_le _⟩
end
end Sw
namespace Sw
open PySem PySem.Spec PyProof.Rows L2
section
variable {α β γ δ ρ A B C F G':Type}
def qi (g:A->B->Option Bool) (g':B->C->Option Bool) (ta:Option A) (tb:Option B) (tc:Option C):Option Bool:=ta.bind fun x=>tb.bind fun y=>(g x y).bind fun k=>if k=true then tc.bind fun z=>g' y z else some false
theorem nR [En A] [En B] [En C] {f f':D->D->Option Bool} {g:A->B->Option Bool} {g':B->C->Option Bool} (h:f6 f g) (h':f6 f' g') {ma mb mc:Option D} {ta:Option A} {tb:Option B} {tc:Option C} (q1:TyS ma ta) (q2:TyS mb tb) (q3:TyS mc tc):TyS (chB f f' ma mb mc) (qi g g' ta tb tc):=
 aA q1 fun x=>aA q2 fun y=>aA (m:=f (en x) (en y)) (t:=g x y) (fun b e=>h x y b e) fun k=>by
  cases k with
  |false=>exact ae rfl
  |true=>exact aA q3 fun z b e=>h' y z b e
namespace T
def qb (neg:Bool) (a z:Str):Option Bool:=match a.cps.toList with
 | [c]=>some (if neg=true then !decide (c∈z.cps.toList) else decide (c∈z.cps.toList))
 |_=>none
def inG (neg:Bool) (zs:List Str) (a:Str):Option Bool:=some (if neg=true then !decide (a∈zs) else decide (a∈zs))
def split (a b:Str):Option (List Str):=if (b.length==0)=false/\a.length+2<=sizeLine then some (Txt.split a b) else none
def part (a b:Str):Option (T3 Str Str Str):=if (b.length==0)=false/\a.length<=sizeLine then some ⟨(Txt.partition a b).1,(Txt.partition a b).2.1,(Txt.partition a b).2.2⟩ else none
def rL (i:Int):Option Str:=if i.natAbs.log2<1920 then some (toString i) else none
def qR (a:Str):Option Int:=if a.length<=640 then PySem.intText? a else none
end T
theorem xo (neg:Bool):f6 (D.qb neg) (T.qb neg):=fun a z b e=>by
 unfold T.qb at e
 show (match a.cps.toList with| [c]=>_|_=>none)=_
 split at e
 ·rename_i c hc;cases e;rfl
 ·cases e
theorem Jb (neg:Bool) (zs:List Str):rN (D.inG neg zs) (T.inG neg zs):=fun a b e=>by
 cases e
 obtain⟨vs,e1,e2⟩:=Ag a (.str a) rfl zs
 have e1':D.p7 (zs.map en)=some (zs.map V.str):=by
  clear e1 e2
  induction zs with
  |nil=>rfl
  |cons z zs ih=>
   show (D.toV (en z)).bind (fun v=>(D.p7 (zs.map en)).bind fun vs=>some (v::vs))=_
   rw[ih];rfl
 rw[e1'] at e1
 cases e1
 show some (if neg=true then !inV (.str a) (zs.map V.str) else inV (.str a) (zs.map V.str))=_
 rw[e2];rfl
theorem qW:f6 D.split T.split:=fun a b c e=>by
 obtain⟨h,rfl⟩:=aH e
 show (if (b.length==0)=false/\a.length+2<=sizeLine then some (D.lst ((Txt.split a b).map D.str)) else none)=_
 rw[if_pos h];rfl
theorem Bt:f6 D.part T.part:=fun a b c e=>by
 obtain⟨h,rfl⟩:=aH e
 show (if (b.length==0)=false/\a.length<=sizeLine then some (D.tup [.str (Txt.partition a b).1,.str (Txt.partition a b).2.1,.str (Txt.partition a b).2.2]) else none)=_
 rw[if_pos h];rfl
theorem xp:rN D.rL T.rL:=fun a b e=>by
 obtain⟨h,rfl⟩:=aH e
 show (if a.natAbs.log2<1920 then some (D.str (toString a)) else none)=_
 rw[if_pos h];rfl
theorem xq:rN D.qR T.qR:=fun a b e=>by
 unfold T.qR at e
 show (if a.length<=640 then (PySem.intText? a).map D.int else none)=_
 by_cases h:a.length<=640
 ·rw[if_pos h] at e ⊢; rw[e];rfl
 ·rw[if_neg h] at e;cases e
def T.un3 (t:T3 A B C):Option (A×B×C):=some (t.a,t.b,t.c)
def T.un5 (t:T5 A B C F G'):Option (A×B×C×F×G'):=some (t.a,t.b,t.c,t.d,t.e)
theorem D6 [En A] [En B] [En C] {m:Option D} {t:Option (T3 A B C)} (q:TyS m t):TyS (b1 D.pr3 m) (b1 T.un3 t):=fun a e=>by
 obtain⟨x,e1,e2⟩:=bind1 e
 cases e2
 unfold b1;rw[q x e1];rfl
theorem D7 [En A] [En B] [En C] [En F] [En G'] {m:Option D} {t:Option (T5 A B C F G')} (q:TyS m t):TyS (b1 D.pr5 m) (b1 T.un5 t):=fun a e=>by
 obtain⟨x,e1,e2⟩:=bind1 e
 cases e2
 unfold b1;rw[q x e1];rfl
end
end Sw
namespace Sw
open PySem PySem.Spec PyProof.Rows L2
section
variable {α β γ ρ A B C:Type}
namespace T
noncomputable def wN (a:Str) (i:Int):Option Str:=cif (MulOk a i) (Txt.mul a i)
def z9 (k:Bool):Option Int:=some (if k then 1 else 0)
end T
theorem Gp:f6 D.wN T.wN:=fun a i c e=>by
 obtain⟨h,rfl⟩:=oQ e
 show cif (MulOk a i) (D.str (Txt.mul a i))=_
 rw[qJ h];rfl
theorem Gq:rN D.z9 T.z9:=fun k b e=>by cases e;rfl
class Atm (A:Type) [En A]:Prop where
 atm: ∀a:A,((en a).toV).isSome=true
instance:Atm Int:=⟨fun _=>rfl⟩
instance:Atm Str:=⟨fun _=>rfl⟩
instance:Atm Bool:=⟨fun _=>rfl⟩
class Atv (A:Type) [En A]:Prop where
 atv: ∀a:A,∃v,(en a).toV=some v/\flatB v=true
instance:Atv Int:=⟨fun a=>⟨.int a,rfl,rfl⟩⟩
instance:Atv Str:=⟨fun a=>⟨.str a,rfl,rfl⟩⟩
end
end Sw
namespace Sw
open PySem PySem.Spec PyProof.Rows L2
section
variable {A B C E α β γ δ ρ:Type}
def Jc (k:γ->Option (TO α β ρ)):Ca γ ρ->Option (TO α β ρ)
 | .fin b=>k b
 |_=>none
def Km (ds:Option (List δ)) (step:γ->δ->Option (TO γ γ ρ)) (b0:γ) (k:γ->Option (TO α β ρ)):Option (TO α β ρ):=ds.bind fun ds=>(iH step ds b0).bind (Jc k)
@[simp] theorem Kn (k:γ->Option (TO α β ρ)) (a:γ):Jc k (.fin a)=k a:=rfl
@[simp] theorem Jd (ds:List δ) (step:γ->δ->Option (TO γ γ ρ)) (b0:γ) (k:γ->Option (TO α β ρ)):Km (some ds) step b0 k=(iH step ds b0).bind (Jc k):=rfl
end
end Sw
namespace Sw
open PySem PySem.Spec PyProof.Rows L2
section
variable {A B C' E R S:Type}
namespace T
def tW (g:R->A->S) (r:R) (t:Option A):Option S:=t.map (g r)
end T
end
inductive aE where
 |single (couple:Str)
 |group (ring:List aE) (links:List (Str×Str))
mutual
def aE.d:aE->D
 | .single c=>.ins "Single" [("couple",.str c)]
 | .group r l=>.ins "Group" [("ring",.lst (aE.ds r)),("links",en l)]
def aE.ds:List aE->List D
 | []=>[]
 |k::r=>aE.d k::aE.ds r
end
instance:En aE:=⟨aE.d⟩
structure Cc where
structure D8 where
structure D9 where
 ring:List aE
instance:En Cc:=⟨fun _=>.ins "Single" []⟩
instance:En D8:=⟨fun _=>.ins "Group" []⟩
instance:En D9:=⟨fun s=>.ins "Group" [("ring",en s.ring)]⟩
inductive RV where
 |k (x:aE)|s (x:Str)|i (x:Int)|ls (x:List Str)|lp (x:List (Str×Str))|ll (x:List (List Str))
instance:En RV:=⟨fun v=>match v with
 | .k x=>en x| .s x=>en x| .i x=>en x| .ls x=>en x| .lp x=>en x| .ll x=>en x⟩
namespace RV
def as:RV->Option Str| .s x=>some x|_=>none
def ai:RV->Option Int| .i x=>some x|_=>none
def all:RV->Option (List (List Str))| .ll x=>some x|_=>none
end RV
namespace T
def dct (u:Option (List (Str×RV))):Option (Sd RV):=u.bind fun l=>if (l.map (·.1)).Nodup/\l.length<=15 then some ⟨l⟩ else none
end T
end Sw
namespace Sw
open PySem PySem.Spec PyProof.Rows L2
section
variable {A B C' E S:Type}
def T.Ab (xs:List Str):Option (List Str):=if xs.length<=500/\(jw xs).length<64 then some (fL (jw xs)) else none
theorem Gu:rN D.Ab T.Ab:=fun xs c e=>by
 obtain⟨h,rfl⟩:=aH e
 show (D.strs (xs.map D.str)).bind _=_
 rw[strs_map,Option.bind_some,if_pos h]
 rfl
end
structure a9 where
 mates:Sd Str
 top:Sd aE
 roots:Sd Str
 reached:Sd (Str×Str)
 waiting:List Str
 longer:Option (List Str)
structure Ak where
structure Am where
 mates:Sd Str
structure An where
 mates:Sd Str
 top:Sd aE
structure Ao where
 mates:Sd Str
 top:Sd aE
 roots:Sd Str
structure Ap where
 mates:Sd Str
 top:Sd aE
 roots:Sd Str
 reached:Sd (Str×Str)
structure Aq where
 mates:Sd Str
 top:Sd aE
 roots:Sd Str
 reached:Sd (Str×Str)
 waiting:List Str
instance:En Ak:=⟨fun _=>.ins "Outcome" []⟩
instance:En Am:=⟨fun s=>.ins "Outcome" [("mates",en s.mates)]⟩
instance:En An:=⟨fun s=>.ins "Outcome" [("mates",en s.mates),("top",en s.top)]⟩
instance:En Ao:=⟨fun s=>.ins "Outcome" [("mates",en s.mates),("top",en s.top),("roots",en s.roots)]⟩
instance:En Ap:=⟨fun s=>.ins "Outcome" [("mates",en s.mates),("top",en s.top),("roots",en s.roots),("reached",en s.reached)]⟩
instance:En Aq:=⟨fun s=>.ins "Outcome" [("mates",en s.mates),("top",en s.top),("roots",en s.roots),("reached",en s.reached),("waiting",en s.waiting)]⟩
instance:En a9:=⟨fun s=>.ins "Outcome" [("mates",en s.mates),("top",en s.top),("roots",en s.roots),("reached",en s.reached),("waiting",en s.waiting),("longer",en s.longer)]⟩
end Sw
namespace Sw
open PySem PySem.Spec PyProof.Rows L2
structure Hl (A B:Type) where
 a:A
 b:B
variable {A B:Type}
instance [En A] [En B]:En (Hl A B):=⟨fun x=>.lst [en x.a,en x.b]⟩
def T.hl (t:Option A) (u:Option B):Option (Hl A B):=t.bind fun a=>u.bind fun b=>some ⟨a,b⟩
end Sw
namespace Sw
open PySem PySem.Spec PyProof.Rows L2
variable {A B C:Type}
structure Hl3 (A B C:Type) where
 a:A
 b:B
 c:C
instance [En A] [En B] [En C]:En (Hl3 A B C):=⟨fun x=>.lst [en x.a,en x.b,en x.c]⟩
instance instSoHl [En A] [En B] [So A] [So B]:So (Hl A B) where
 dec p q:=@decidable_of_iff _ ((p.a,p.b)=(q.a,q.b)) ⟨fun h=>by cases p;cases q;simpa using h,fun h=>by rw[h]⟩ (@instDecidableEqProd A B So.dec So.dec (p.a,p.b) (q.a,q.b))
 lt p q:=@ite _ (p.a=q.a) (So.dec p.a q.a) (@ite _ (p.b=q.b) (So.dec p.b q.b) false (So.lt p.b q.b)) (So.lt p.a q.a)
 dep:=max (So.dep A) (So.dep B)+1
 ok p:=So.ok p.a&&So.ok p.b
 dat p:=by
  show ((en p.a).dat&&((en p.b).dat&&true))=true
  rw[So.dat,So.dat];rfl
 depth p:=by
  show max (en p.a).pd.depth (max (en p.b).pd.depth 0)+1<=_
  have:=So.depth p.a;have:=So.depth p.b;omega
 al p q:=by
  show (PySem.W.alike (en p.a).pd (en q.a).pd&&(PySem.W.alike (en p.b).pd (en q.b).pd&&true))=true
  rw[So.al,So.al];rfl
 eqv p q:=by
  show (PyData.eqv (en p.a).pd (en q.a).pd&&(PyData.eqv (en p.b).pd (en q.b).pd&&true))=true↔_
  rw[Bool.and_true,Bool.and_eq_true,So.eqv,So.eqv]
  exact⟨fun h=>by cases p;cases q;simp at h ⊢; exact h,fun h=>by rw[h];exact⟨rfl,rfl⟩⟩
 lt_ok p q:=by
  show PySem.W.dataLt (.list [(en p.a).pd,(en p.b).pd]) (.list [(en q.a).pd,(en q.b).pd])=_
  rw[PySem.W.dataLt_list]
  show iA _ _=_
  rw[bG,bG,nQ]
 lay p h:=by
  rw[Bool.and_eq_true] at h
  show ((en p.a).pd.canLay0&&((en p.b).pd.canLay0&&true))=true
  rw[So.lay _ h.1,So.lay _ h.2];rfl
 noN _:=rfl
instance instSoHl3 [En A] [En B] [En C] [So A] [So B] [So C]:So (Hl3 A B C) where
 dec p q:=@decidable_of_iff _ ((p.a,p.b,p.c)=(q.a,q.b,q.c)) ⟨fun h=>by cases p;cases q;simpa using h,fun h=>by rw[h]⟩ (@instDecidableEqProd A (B×C) So.dec (@instDecidableEqProd B C So.dec So.dec) (p.a,p.b,p.c) (q.a,q.b,q.c))
 lt p q:=@ite _ (p.a=q.a) (So.dec p.a q.a) (@ite _ (p.b=q.b) (So.dec p.b q.b) (@ite _ (p.c=q.c) (So.dec p.c q.c) false (So.lt p.c q.c)) (So.lt p.b q.b)) (So.lt p.a q.a)
 dep:=max (So.dep A) (max (So.dep B) (So.dep C))+1
 ok p:=So.ok p.a&&So.ok p.b&&So.ok p.c
 dat p:=by
  show ((en p.a).dat&&((en p.b).dat&&((en p.c).dat&&true)))=true
  rw[So.dat,So.dat,So.dat];rfl
 depth p:=by
  show max (en p.a).pd.depth (max (en p.b).pd.depth (max (en p.c).pd.depth 0))+1<=_
  have:=So.depth p.a;have:=So.depth p.b;have:=So.depth p.c;omega
 al p q:=by
  show (PySem.W.alike (en p.a).pd (en q.a).pd&&(PySem.W.alike (en p.b).pd (en q.b).pd&&(PySem.W.alike (en p.c).pd (en q.c).pd&&true)))=true
  rw[So.al,So.al,So.al];rfl
 eqv p q:=by
  show (PyData.eqv (en p.a).pd (en q.a).pd&&(PyData.eqv (en p.b).pd (en q.b).pd&&(PyData.eqv (en p.c).pd (en q.c).pd&&true)))=true↔_
  rw[Bool.and_true,Bool.and_eq_true,Bool.and_eq_true,So.eqv,So.eqv,So.eqv]
  exact⟨fun h=>by cases p;cases q;simp at h ⊢; exact h,fun h=>by rw[h];exact⟨rfl,rfl,rfl⟩⟩
 lt_ok p q:=by
  show PySem.W.dataLt (.list [(en p.a).pd,(en p.b).pd,(en p.c).pd]) (.list [(en q.a).pd,(en q.b).pd,(en q.c).pd])=_
  rw[PySem.W.dataLt_list]
  show iA _ _=_
  rw[bG,bG,bG,nQ]
 lay p h:=by
  rw[Bool.and_eq_true,Bool.and_eq_true] at h
  show ((en p.a).pd.canLay0&&((en p.b).pd.canLay0&&((en p.c).pd.canLay0&&true)))=true
  rw[So.lay _ h.1.1,So.lay _ h.1.2,So.lay _ h.2];rfl
 noN _:=rfl
end Sw
namespace Sw
open PySem PySem.Spec PyProof.Rows L2
section
variable {A B C S T U α β γ δ ρ:Type}
instance [ES A S]:ES (Xn ⊕ A) (Xn ⊕ S):=⟨fun r=>match r with| .inl x=>.inl x| .inr a=>.inr (es a)⟩
def tX0 (t:Option (TO PEmpty PEmpty (R0 A))):Option (Xn ⊕ A):=t.bind fun o=>match o with| .ret r=>some (.inr r.v)| .exc x=>some (.inl x)|_=>none
def FoX [En A] (m:Option FR) (t:Option (Xn ⊕ A)):Prop:= ∀r,t=some r->m=some (match r with| .inl x=>.er x| .inr v=>.ok (en v) [])
theorem foX [En A] {m:Option (Out PEmpty PEmpty)} {t:Option (TO PEmpty PEmpty (R0 A))} (h:TyS m t):FoX (FO m) (tX0 t):=fun r e=>by
 obtain⟨o,e1,e2⟩:=bind1 e
 cases o <;> cases e2
 ·unfold FO;rw[h _ e1];rfl
 ·unfold FO;rw[h _ e1];rfl
theorem mY [ES α S] [ES β T] [ER ρ] [En A] {Cn f:Str} {m:Option D} {t:Option A} (q:TyS m t):TyS (m.bind fun d=>(some (.exc ⟨Cn,[(f,d)]⟩):Option (Out S T))) (t.bind fun a=>(some (.exc ⟨Cn,[(f,en a)]⟩):Option (TO α β ρ))):=aA q fun a=>ae rfl
def yU (Cn f:Str) (x:Xn):Option Str:=if x.C=Cn then (match x.fs.lookup f with|some (.str s)=>some s|_=>none) else none
theorem Gv {Cn f:Str} {x:Xn}:TyS (IL Cn f x) (yU Cn f x):=fun s e=>by
 unfold yU at e
 unfold IL
 by_cases q:x.C=Cn
 ·rw[if_pos q] at e⊢
  split at e
  ·rename_i s' e2
   cases e
   exact e2
  ·cases e
 ·rw[if_neg q] at e;cases e
def Je (mb:Option (Xn ⊕ γ)) (Cn:Str) (zf:Xn->Option B) (gx:B->γ) (k:γ->Option (TO α β ρ)):Option (TO α β ρ):=(mb.bind fun r=>match r with| .inl x=>if x.C=Cn then (zf x).map gx else none| .inr g=>some g).bind k
theorem Gx [ES α S] [ES β T] [ER ρ] [ES γ U] [En B] {mb:Option (Xn ⊕ U)} {mb':Option (Xn ⊕ γ)} {Cn:Str} {zf:Xn->Option D} {zf':Xn->Option B} {gx:D->U} {gx':B->γ} {k:U->Option (Out S T)} {k':γ->Option (TO α β ρ)}
  (h:TyS mb mb') (hz: ∀x,TyS (zf x) (zf' x)) (hg: ∀b,gx (en b)=es (gx' b)) (hk: ∀g,TyS (k (es g)) (k' g)):TyS (IK mb Cn zf gx k) (Je mb' Cn zf' gx' k'):=aA (aA h fun r=>by
   cases r with
   |inr g=>exact fun b e=>by cases e;rfl
   |inl x=>
    intro b e
    have e:(if x.C=Cn then (zf' x).map gx' else none)=some b:=e
    show (if x.C=Cn then (zf x).map gx else none)=_
    by_cases q:x.C=Cn
    ·rw[if_pos q] at e⊢
     obtain⟨c,e1,rfl⟩:=jf e
     rw[hz x c e1,Option.map_some]
     exact congrArg some (hg c)
    ·rw[if_neg q] at e;cases e) hk
theorem Ea {A1:Type} [En A1] [En A] {Fs:List D->Option FR} {g:A1->Option (Xn ⊕ A)} (h: ∀(x1:A1),FoX (Fs [en x1]) (g x1)) {m1:Option D} {t1:Option A1} (q1:TyS m1 t1):FoX ((aj m1 aI).bind Fs) (b1 g t1):=fun r e=>by
 obtain⟨x1,e1,e⟩:=bind1 e
 rw[q1 _ e1]
 exact h x1 r e
theorem Jf {A1 A2 A3:Type} [En A1] [En A2] [En A3] [En A] {Fs:List D->Option FR} {g:A1->A2->A3->Option (Xn ⊕ A)} (h: ∀(x1:A1) (x2:A2) (x3:A3),FoX (Fs [en x1,en x2,en x3]) (g x1 x2 x3)) {m1:Option D} {t1:Option A1} {m2:Option D} {t2:Option A2} {m3:Option D} {t3:Option A3} (q1:TyS m1 t1) (q2:TyS m2 t2) (q3:TyS m3 t3):FoX ((aj m1 (aj m2 (aj m3 aI))).bind Fs) (b3 g t1 t2 t3):=fun r e=>by
 obtain⟨x1,e1,e⟩:=bind1 e
 obtain⟨x2,e2,e⟩:=bind1 e
 obtain⟨x3,e3,e⟩:=bind1 e
 rw[q1 _ e1,q2 _ e2,q3 _ e3]
 exact h x1 x2 x3 r e
end
end Sw
namespace Sw
open PySem PySem.Spec PyProof.Rows L2
instance:NN a9:=⟨fun _=>rfl⟩
end Sw
namespace Sw
open PySem PySem.Spec PyProof.Rows L2
def T.isX (Cn:Str) (b:Bool) (x:Xn):Option Bool:=if x.C=Cn then some b else none
theorem Ar {Cn:Str} {b:Bool} {x:Xn}:TyS (isX Cn b x) (T.isX Cn b x):=fun c e=>by
 obtain⟨h,rfl⟩:=aH e
 unfold isX
 rw[if_pos h];rfl
end Sw
namespace Sw
open PySem PySem.Spec PyProof.Rows L2
section
variable {A B C S U α β γ δ ρ:Type}
def tsB (t:Option (Xn ⊕ A)) (fe:A->γ):Option (Xn ⊕ γ):=t.map fun r=>match r with| .inl x=>.inl x| .inr a=>.inr (fe a)
theorem Gy [En A] [ES γ S] {Fs:List D->Option FR} {rs:Option (List D)} {t:Option (Xn ⊕ A)} {fe:A->γ} {fd:D->S} (h:FoX (rs.bind Fs) t) (e0: ∀a,fd (en a)=es (fe a)):TyS (setB Fs rs fd) (tsB t fe):=fun r e=>by
 obtain⟨o,e1,e2⟩:=jf e
 subst e2
 show (rs.bind Fs).bind _=_
 rw[h o e1]
 cases o with
 |inl x=>rfl
 |inr a=>exact congrArg (fun z=>some (Sum.inr z)) (e0 a)
structure Any where
 d:D
instance:En Any:=⟨Any.d⟩
def T.up [En A] (a:A):Any:=⟨en a⟩
def T.asS (x:Any):Option Str:=match x.d with| .str s=>some s|_=>none
instance instSoT4 {E:Type} [En A] [En B] [En C] [En E] [So A] [So B] [So C] [So E]:So (T4 A B C E) where
 dec:=@instDecidableEqT4 A B C E So.dec So.dec So.dec So.dec
 lt p q:=@ite _ (p.a=q.a) (So.dec p.a q.a) (@ite _ (p.b=q.b) (So.dec p.b q.b) (@ite _ (p.c=q.c) (So.dec p.c q.c) (@ite _ (p.d=q.d) (So.dec p.d q.d) false (So.lt p.d q.d)) (So.lt p.c q.c)) (So.lt p.b q.b)) (So.lt p.a q.a)
 dep:=max (So.dep A) (max (So.dep B) (max (So.dep C) (So.dep E)))+1
 ok p:=So.ok p.a&&So.ok p.b&&So.ok p.c&&So.ok p.d
 dat p:=by
  show ((en p.a).dat&&((en p.b).dat&&((en p.c).dat&&((en p.d).dat&&true))))=true
  rw[So.dat,So.dat,So.dat,So.dat];rfl
 depth p:=by
  show max (en p.a).pd.depth (max (en p.b).pd.depth (max (en p.c).pd.depth (max (en p.d).pd.depth 0)))+1<=_
  have:=So.depth p.a;have:=So.depth p.b;have:=So.depth p.c;have:=So.depth p.d;omega
 al p q:=by
  show (PySem.W.alike (en p.a).pd (en q.a).pd&&(PySem.W.alike (en p.b).pd (en q.b).pd&&(PySem.W.alike (en p.c).pd (en q.c).pd&&(PySem.W.alike (en p.d).pd (en q.d).pd&&true))))=true
  rw[So.al,So.al,So.al,So.al];rfl
 eqv p q:=by
  show (PyData.eqv (en p.a).pd (en q.a).pd&&(PyData.eqv (en p.b).pd (en q.b).pd&&(PyData.eqv (en p.c).pd (en q.c).pd&&(PyData.eqv (en p.d).pd (en q.d).pd&&true))))=true↔_
  rw[Bool.and_true,Bool.and_eq_true,Bool.and_eq_true,Bool.and_eq_true,So.eqv,So.eqv,So.eqv,So.eqv]
  exact⟨fun h=>by cases p;cases q;simp at h ⊢; exact h,fun h=>by rw[h];exact⟨rfl,rfl,rfl,rfl⟩⟩
 lt_ok p q:=by
  show PySem.W.dataLt (.tuple [(en p.a).pd,(en p.b).pd,(en p.c).pd,(en p.d).pd]) (.tuple [(en q.a).pd,(en q.b).pd,(en q.c).pd,(en q.d).pd])=_
  rw[PySem.W.dataLt_tuple]
  show iA _ _=_
  rw[bG,bG,bG,bG,nQ]
 lay p h:=by
  rw[Bool.and_eq_true,Bool.and_eq_true,Bool.and_eq_true] at h
  show ((en p.a).pd.canLay0&&((en p.b).pd.canLay0&&((en p.c).pd.canLay0&&((en p.d).pd.canLay0&&true))))=true
  rw[So.lay _ h.1.1.1,So.lay _ h.1.1.2,So.lay _ h.1.2,So.lay _ h.2];rfl
 noN _:=rfl
instance {E:Type} [En A] [En B] [En C] [En E]:NN (T4 A B C E):=⟨fun _=>rfl⟩
end
end Sw
namespace Sw
open PySem PySem.Spec PyProof.Rows L2
def T.emp {A B:Type} (q:Bool) (xs:List A) (ys:List B):Option Bool:=if ys.isEmpty=true then some (xs.isEmpty==q) else none
end Sw
namespace Sw
open PySem PySem.Spec PyProof.Rows L2
section
variable {A B C E:Type}
structure Hl4 (A B C E:Type) where
 a:A
 b:B
 c:C
 d:E
instance [En A] [En B] [En C] [En E]:En (Hl4 A B C E):=⟨fun x=>.lst [en x.a,en x.b,en x.c,en x.d]⟩
end
end Sw
namespace Sw
open PySem PySem.Spec PyProof.Rows L2
section
variable {A B C S T U α β γ δ ρ:Type}
def vn (t:Option (Xn ⊕ A)) (k:A->Option (TO α β ρ)):Option (TO α β ρ):=t.bind fun x=>match x with
 | .inl e=>some (.exc e)
 | .inr a=>k a
@[simp] theorem Li (a:A) (k:A->Option (TO α β ρ)):vn (some (.inr a)) k=k a:=rfl
@[simp] theorem Lj (x:Xn) (k:A->Option (TO α β ρ)):vn (some (.inl x)) k=some (.exc x):=rfl
theorem uz [En A] [ES α S] [ES β T] [ER ρ] {r:Option (Xn ⊕ D)} {t:Option (Xn ⊕ A)} {k:D->Option (Out S T)} {k':A->Option (TO α β ρ)} (h:TyS r t) (hk: ∀a,TyS (k (en a)) (k' a)):TyS (xbO r k) (vn t k'):=aA h fun x=>by
 cases x with
 |inl e=>exact fun b q=>by cases q;rfl
 |inr a=>exact hk a
theorem lF [En A] {m:Option FR} {t:Option (Xn ⊕ A)} (h:FoX m t):TyS (m.bind frX) t:=fun r e=>by
 rw[h r e]
 cases r <;> rfl
def tsX (t:Option (Xn ⊕ A)) (fe:A->γ):Option (Xn ⊕ γ):=t.map (Sum.map id fe)
theorem Gz [En A] [ES γ S] {r:Option (Xn ⊕ D)} {t:Option (Xn ⊕ A)} {fe:D->S} {fe':A->γ} (h:TyS r t) (he: ∀a,fe (en a)=es (fe' a)):TyS (r.map (Sum.map id fe)) (tsX t fe'):=fun b e=>by
 obtain⟨a,e1,e2⟩:=jf e
 subst e2
 rw[h a e1]
 cases a with
 |inl x=>rfl
 |inr a=>exact congrArg (fun z=>some (Sum.inr z)) (he a)
end
end Sw
namespace Sw
open PySem PySem.Spec PyProof.Rows L2
variable {A B C E F S S' U α β γ δ ρ α' β' γ' δ':Type}
class FlS (A:Type) [En A] (s:Sh):Prop where
 fl: ∀a:A,fC s (en a)=true
theorem FlS.flt [En A] [FlS A .fz] (a:A):(en a).flt=true:=by
 have:=FlS.fl (s:=.fz) a
 unfold fC at this
 exact this
instance:FlS Int .fz:=⟨fun a=>by unfold fC;rfl⟩
instance:FlS Str .fz:=⟨fun a=>by unfold fC;rfl⟩
instance:FlS Bool .fz:=⟨fun a=>by unfold fC;rfl⟩
instance [En A] [En B] [FlS A .fz] [FlS B .fz]:FlS (A×B) .fz:=⟨fun a=>by
 unfold fC
 show B5 [en a.1,en a.2]=true
 unfold B5 B5 B5
 rw[FlS.flt,FlS.flt];rfl⟩
instance [En A] {s:Sh} [FlS A s]:FlS (List A) (.ls s):=⟨fun a=>by
 show fC (.ls s) (.lst (a.map en))=true
 unfold fC
 rw[List.all_map,List.all_eq_true]
 intro x _
 exact FlS.fl x⟩
instance [En A] {s:Sh} [FlS A s]:FlS (Sd A) (.dc s):=⟨fun a=>by
 show fC (.dc s) (.dct (sdK a.l))=true
 unfold fC sdK
 rw[List.all_map,List.all_eq_true]
 intro x _
 exact FlS.fl x.2⟩
theorem Cd {ds:List (Str×D)}:qT [] ds=true:=by unfold qT;rfl
theorem qj {f g:Str} {s:Sh} {fs:List (Str×Sh)} {d:D} {ds:List (Str×D)} (h:fC s d=true) (r:qT fs ds=true):qT ((f,s)::fs) ((g,d)::ds)=true:=by
 unfold qT
 show (fC s d&&qT fs ds)=true
 rw[h,r];rfl
theorem flatIs {fs:List (Str×Sh)} {c:Str} {ds:List (Str×D)} (h:qT fs ds=true):fC (.is fs) (.ins c ds)=true:=by unfold fC;exact h
end Sw
namespace Sw
open PySem PySem.Spec PyProof.Rows L2
structure Eb where
 swaps:Sd (Sd Int)
 ranks:Sd Int
 kept:List (Str×Str)
structure GA where
structure GB where
 swaps:Sd (Sd Int)
structure GC where
 swaps:Sd (Sd Int)
 ranks:Sd Int
instance:En GA:=⟨fun _=>.ins "Ward" []⟩
instance:En GB:=⟨fun s=>.ins "Ward" [("swaps",en s.swaps)]⟩
instance:En GC:=⟨fun s=>.ins "Ward" [("swaps",en s.swaps),("ranks",en s.ranks)]⟩
instance:En Eb:=⟨fun s=>.ins "Ward" [("swaps",en s.swaps),("ranks",en s.ranks),("kept",en s.kept)]⟩
instance:FlS Eb (.is [("swaps",.dc (.dc .fz)),("ranks",.dc .fz),("kept",.ls .fz)]):=⟨fun s=>flatIs (qj (FlS.fl s.swaps) (qj (FlS.fl s.ranks) (qj (FlS.fl s.kept) Cd)))⟩
end Sw
namespace Sw
open PySem PySem.Spec PyProof.Rows L2
variable [NmC]
structure Ce where
 net:Sd (Sd Int)
 prices:Sd Int
 paying:Td (Tl Str) Int
 mates:Sd Str
 Bu:List aE
structure As where
structure Au where
 net:Sd (Sd Int)
structure Av where
 net:Sd (Sd Int)
 prices:Sd Int
structure Aw where
 net:Sd (Sd Int)
 prices:Sd Int
 paying:Td (Tl Str) Int
structure Ax where
 net:Sd (Sd Int)
 prices:Sd Int
 paying:Td (Tl Str) Int
 mates:Sd Str
instance:En As:=⟨fun _=>.ins "Pricing" []⟩
instance:En Au:=⟨fun s=>.ins "Pricing" [("net",en s.net)]⟩
instance:En Av:=⟨fun s=>.ins "Pricing" [("net",en s.net),("prices",en s.prices)]⟩
instance:En Aw:=⟨fun s=>.ins "Pricing" [("net",en s.net),("prices",en s.prices),("paying",en s.paying)]⟩
instance:En Ax:=⟨fun s=>.ins "Pricing" [("net",en s.net),("prices",en s.prices),("paying",en s.paying),("mates",en s.mates)]⟩
instance:En Ce:=⟨fun s=>.ins "Pricing" [("net",en s.net),("prices",en s.prices),("paying",en s.paying),("mates",en s.mates),("knots",en s.Bu)]⟩
end Sw
namespace Sw
open PySem PySem.Spec PyProof.Rows L2
section
variable {A B C S T U α β γ δ ρ:Type}
def HE [En A] (mb:Option (Xn ⊕ γ)) (Cn fld:Str) (ra:Option A) (k:γ->Option (TO α β ρ)):Option (TO α β ρ):=mb.bind fun r=>match r with
 | .inl x=>if x.C=Cn then ra.bind fun a=>some (.exc ⟨Cn,[(fld,en a)]⟩) else none
 | .inr g=>k g
theorem GD [ES α S] [ES β T] [ER ρ] [ES γ U] [En A] {mb:Option (Xn ⊕ U)} {mb':Option (Xn ⊕ γ)} {Cn fld:Str} {ra:Option D} {ra':Option A} {k:U->Option (Out S T)} {k':γ->Option (TO α β ρ)}
  (h:TyS mb mb') (hr:TyS ra ra') (hk: ∀g,TyS (k (es g)) (k' g)):TyS (IQ mb Cn fld ra k) (HE mb' Cn fld ra' k'):=aA h fun r=>by
 cases r with
 |inr g=>exact hk g
 |inl x=>
  show TyS (if x.C=Cn then ra.bind fun d=>(some (Out.exc ⟨Cn,[(fld,d)]⟩):Option (Out S T)) else none) (if x.C=Cn then ra'.bind fun a=>(some (TO.exc ⟨Cn,[(fld,en a)]⟩):Option (TO α β ρ)) else none)
  by_cases q:x.C=Cn
  ·rw[if_pos q,if_pos q];exact aA hr fun a=>ae rfl
  ·rw[if_neg q,if_neg q];exact fun b e=>by cases e
end
section
variable {A B C:Type}
class Sq (A:Type) [En A] where
 dec:DecidableEq A
 dep:Nat
 ok:A->Bool
 dat: ∀a:A,(en a).dat=true
 depth: ∀a:A,(en a).pd.depth<=dep
 eqv: ∀a b:A,PyData.eqv (en a).pd (en b).pd=true↔a=b
 lay: ∀a:A,ok a=true->(en a).pd.canLay0=true
theorem Cf {d:PyData} (h:wJ d=false):PyData.eqv .none d=false:=by
 cases d <;> first|rfl|exact absurd h (by decide)
theorem Cg {d:PyData} (h:wJ d=false):PyData.eqv d .none=false:=by
 cases d <;> first|rfl|exact absurd h (by decide)
instance instSqO [En A] [So A]:Sq (Option A) where
 dec:=letI:DecidableEq A:=So.dec;inferInstance
 dep:=So.dep A
 ok o:=match o with|none=>true|some a=>So.ok a
 dat o:=by
  cases o with
  |none=>rfl
  |some a=>exact So.dat a
 depth o:=by
  cases o with
  |none=>exact Nat.zero_le _
  |some a=>exact So.depth a
 eqv a b:=by
  cases a with
  |none=>
   cases b with
   |none=>exact⟨fun _=>rfl,fun _=>rfl⟩
   |some b=>
    show PyData.eqv .none (en b).pd=true↔_
    rw[Cf (So.noN b)]
    exact⟨(fun z=>by cases z),fun z=>by cases z⟩
  |some a=>
   cases b with
   |none=>
    show PyData.eqv (en a).pd .none=true↔_
    rw[Cg (So.noN a)]
    exact⟨(fun z=>by cases z),fun z=>by cases z⟩
   |some b=>
    show PyData.eqv (en a).pd (en b).pd=true↔_
    rw[So.eqv]
    exact⟨(fun z=>by rw[z]),fun z=>by cases z;rfl⟩
 lay o h:=by
  cases o with
  |none=>rfl
  |some a=>exact So.lay a h
instance instSqP [En A] [En B] [Sq A] [Sq B]:Sq (A×B) where
 dec:=@instDecidableEqProd A B Sq.dec Sq.dec
 dep:=max (Sq.dep A) (Sq.dep B)+1
 ok p:=Sq.ok p.1&&Sq.ok p.2
 dat p:=by
  show (D.dat (en p.1)&&(D.dat (en p.2)&&true))=true
  rw[Sq.dat,Sq.dat];rfl
 depth p:=by
  show max (en p.1).pd.depth (max (en p.2).pd.depth 0)+1<=_
  have:=Sq.depth p.1;have:=Sq.depth p.2;omega
 eqv p q:=by
  show (PyData.eqv (en p.1).pd (en q.1).pd&&(PyData.eqv (en p.2).pd (en q.2).pd&&true))=true↔_
  rw[Bool.and_true,Bool.and_eq_true,Sq.eqv,Sq.eqv]
  exact⟨fun h=>Prod.ext h.1 h.2,fun h=>by rw[h];exact⟨rfl,rfl⟩⟩
 lay p h:=by
  rw[Bool.and_eq_true] at h
  show ((en p.1).pd.canLay0&&((en p.2).pd.canLay0&&true))=true
  rw[Sq.lay _ h.1,Sq.lay _ h.2];rfl
def T.Ci [En A] [Sq A] (a b:A):Option Bool:=if (Sq.ok a&&Sq.ok b)=true then some (@decide (a=b) (Sq.dec a b)) else none
def T.GF [En A] [Sq A] (a b:A):Option Bool:=if (Sq.ok a&&Sq.ok b)=true then some (!@decide (a=b) (Sq.dec a b)) else none
theorem Ec [En A] [Sq A] (hd:Sq.dep A<=64) {a b:A} (h:(Sq.ok a&&Sq.ok b)=true):D.ok2 (en a) (en b)=true:=by
 rw[Bool.and_eq_true] at h
 have sh: ∀{x:A},Sq.ok x=true->SeqAt.shaped (en x).pd=true:=fun {x} hx=>by
  unfold SeqAt.shaped
  rw[Sq.lay x hx,Bool.true_and,decide_eq_true_eq]
  exact Nat.le_trans (Sq.depth x) hd
 unfold D.ok2
 rw[Sq.dat,Sq.dat,sh h.1,sh h.2];rfl
theorem Ed [En A] [Sq A] (a b:A):PyData.eqv (en a).pd (en b).pd= @decide (a=b) (Sq.dec a b):=by
 rw[Bool.eq_iff_iff,Sq.eqv,@decide_eq_true_eq _ (Sq.dec a b)]
theorem Bv [En A] [Sq A] (hd:Sq.dep A<=64):f6 D.eqD (T.Ci:A->A->Option Bool):=fun a b c e=>by
 obtain⟨h,rfl⟩:=aH e
 show D.eqD (en a) (en b)=_
 unfold D.eqD
 rw[if_pos (Ec hd h)]
 show some (PyData.eqv (en a).pd (en b).pd)=_
 rw[Ed];rfl
theorem GG [En A] [Sq A] (hd:Sq.dep A<=64):f6 D.neD (T.GF:A->A->Option Bool):=fun a b c e=>by
 obtain⟨h,rfl⟩:=aH e
 show D.neD (en a) (en b)=_
 unfold D.neD
 rw[if_pos (Ec hd h)]
 show some (!PyData.eqv (en a).pd (en b).pd)=_
 rw[Ed];rfl
def T.GH [En A] [So A] (a:Option A) (b:A):Option Bool:=T.Ci a (some b)
theorem GI [En A] [So A] (hd:So.dep A<=64):f6 D.eqD (T.GH:Option A->A->Option Bool):=fun a b c e=>Bv (A:=Option A) hd a (some b) c e
instance instSoT5 {E F:Type} [En A] [En B] [En C] [En E] [En F] [So A] [So B] [So C] [So E] [So F]:So (T5 A B C E F) where
 dec:=@instDecidableEqT5 A B C E F So.dec So.dec So.dec So.dec So.dec
 lt p q:=@ite _ (p.a=q.a) (So.dec p.a q.a) (@ite _ (p.b=q.b) (So.dec p.b q.b) (@ite _ (p.c=q.c) (So.dec p.c q.c) (@ite _ (p.d=q.d) (So.dec p.d q.d) (@ite _ (p.e=q.e) (So.dec p.e q.e) false (So.lt p.e q.e)) (So.lt p.d q.d)) (So.lt p.c q.c)) (So.lt p.b q.b)) (So.lt p.a q.a)
 dep:=max (So.dep A) (max (So.dep B) (max (So.dep C) (max (So.dep E) (So.dep F))))+1
 ok p:=So.ok p.a&&So.ok p.b&&So.ok p.c&&So.ok p.d&&So.ok p.e
 dat p:=by
  show ((en p.a).dat&&((en p.b).dat&&((en p.c).dat&&((en p.d).dat&&((en p.e).dat&&true)))))=true
  rw[So.dat,So.dat,So.dat,So.dat,So.dat];rfl
 depth p:=by
  show max (en p.a).pd.depth (max (en p.b).pd.depth (max (en p.c).pd.depth (max (en p.d).pd.depth (max (en p.e).pd.depth 0))))+1<=_
  have:=So.depth p.a;have:=So.depth p.b;have:=So.depth p.c;have:=So.depth p.d;have:=So.depth p.e;omega
 al p q:=by
  show (PySem.W.alike (en p.a).pd (en q.a).pd&&(PySem.W.alike (en p.b).pd (en q.b).pd&&(PySem.W.alike (en p.c).pd (en q.c).pd&&(PySem.W.alike (en p.d).pd (en q.d).pd&&(PySem.W.alike (en p.e).pd (en q.e).pd&&true)))))=true
  rw[So.al,So.al,So.al,So.al,So.al];rfl
 eqv p q:=by
  show (PyData.eqv (en p.a).pd (en q.a).pd&&(PyData.eqv (en p.b).pd (en q.b).pd&&(PyData.eqv (en p.c).pd (en q.c).pd&&(PyData.eqv (en p.d).pd (en q.d).pd&&(PyData.eqv (en p.e).pd (en q.e).pd&&true)))))=true↔_
  rw[Bool.and_true,Bool.and_eq_true,Bool.and_eq_true,Bool.and_eq_true,Bool.and_eq_true,So.eqv,So.eqv,So.eqv,So.eqv,So.eqv]
  exact⟨(fun h=>by cases p;cases q;simp at h ⊢; exact h),fun h=>by rw[h];exact⟨rfl,rfl,rfl,rfl,rfl⟩⟩
 lt_ok p q:=by
  show PySem.W.dataLt (.tuple [(en p.a).pd,(en p.b).pd,(en p.c).pd,(en p.d).pd,(en p.e).pd]) (.tuple [(en q.a).pd,(en q.b).pd,(en q.c).pd,(en q.d).pd,(en q.e).pd])=_
  rw[PySem.W.dataLt_tuple]
  show iA _ _=_
  rw[bG,bG,bG,bG,bG,nQ]
 lay p h:=by
  rw[Bool.and_eq_true,Bool.and_eq_true,Bool.and_eq_true,Bool.and_eq_true] at h
  show ((en p.a).pd.canLay0&&((en p.b).pd.canLay0&&((en p.c).pd.canLay0&&((en p.d).pd.canLay0&&((en p.e).pd.canLay0&&true)))))=true
  rw[So.lay _ h.1.1.1.1,So.lay _ h.1.1.1.2,So.lay _ h.1.1.2,So.lay _ h.1.2,So.lay _ h.2];rfl
 noN _:=rfl
instance {E F:Type} [En A] [En B] [En C] [En E] [En F]:NN (T5 A B C E F):=⟨fun _=>rfl⟩
end
section
variable {A B C E F G:Type}
def bxO (t:Option (Xn ⊕ A)) (k:A->Option (Xn ⊕ B)):Option (Xn ⊕ B):=t.bind fun x=>match x with
 | .inl e=>some (.inl e)
 | .inr a=>k a
def bxV (t:Option A):Option (Xn ⊕ A):=t.map Sum.inr
theorem Ay [En A] {m:Option D} {t:Option A} (q:TyS m t):TyS (okX m) (bxV t):=fun b e=>by
 obtain⟨a,e1,rfl⟩:=jf e
 unfold okX
 rw[q a e1];rfl
theorem yV [En A] {m:Option (Xn ⊕ D)} {t:Option (Xn ⊕ A)} {r:Option (Xn ⊕ List D)} {f:List D->Option (Xn ⊕ D)} {k:A->Option (Xn ⊕ B)} [En B] (q:TyS m t)
  (h: ∀a,TyS (r.bind fun y=>match y with| .inl e=>some (.inl e)| .inr ds=>f (en a::ds)) (k a)):
  TyS ((iR m r).bind fun y=>match y with| .inl e=>some (.inl e)| .inr ds=>f ds) (bxO t k):=fun b e=>by
 obtain⟨x,e1,e2⟩:=bind1 e
 unfold iR
 rw[q x e1]
 cases x with
 |inl x=>cases e2;rfl
 |inr a=>
  rw[<-h a b e2]
  cases r with
  |none=>rfl
  |some y=>cases y <;> rfl
theorem Ee [En A] [En B] [En C] [En E] [En F] {m n o p k:Option (Xn ⊕ D)} {t:Option (Xn ⊕ A)} {u:Option (Xn ⊕ B)} {v:Option (Xn ⊕ C)} {w:Option (Xn ⊕ E)} {l:Option (Xn ⊕ F)} (q:TyS m t) (r:TyS n u) (s:TyS o v) (z:TyS p w) (y:TyS k l):
  TyS (FW (iR m (iR n (iR o (iR p (iR k Bi)))))) (bxO t fun a=>bxO u fun b=>bxO v fun c=>bxO w fun d=>bxO l fun e=>some (.inr (⟨a,b,c,d,e⟩:T5 A B C E F))):=
 yV (f:=fun ds=>some (.inr (.tup ds))) q fun a=>yV (f:=fun ds=>some (.inr (.tup (en a::ds)))) r fun b=>yV (f:=fun ds=>some (.inr (.tup (en a::en b::ds)))) s fun c=>yV (f:=fun ds=>some (.inr (.tup (en a::en b::en c::ds)))) z fun d=>
  yV (f:=fun ds=>some (.inr (.tup (en a::en b::en c::en d::ds)))) y fun e=>fun b e=>by cases e;rfl
end
end Sw
namespace Sw
open PySem PySem.Spec PyProof.Rows L2
section
variable {A B C E F K R S α β γ δ ρ:Type}
theorem big:16777000<=sizeLine:=wV
namespace T
@[simp] theorem ik (a b:Int):dA a b=some (a+b):=rfl
@[simp] theorem Lm (a b:Int):Ic a b=some (a -b):=rfl
@[simp] theorem GJ (a:Int):yx a=some (-a):=rfl
theorem um {a b:Int} (h1: -18446744073709551616<a) (h2:a<18446744073709551616):pH a b=some (a*b):=by
 unfold pH;rw[if_pos (Bj (by simpa using h1) (by simpa using h2))]
theorem iU {a b:Int} (h:0<b) (h2:b<1073741824):gq a b=some (a/b):=qJ ⟨h,h2⟩
theorem bw {a b:Int} (h:0<b):bu a b=some (a%b):=qJ h
theorem Bw {a b:Int} (h:0<=b) (h1:b<=1000000) (h2:a.natAbs<2^64):kQ a b=some (a^b.toNat):=qJ ⟨h,h1,h2⟩
@[simp] theorem Mr (a b:Int):ltI a b=some (decide (a<b)):=rfl
@[simp] theorem Jg (a b:Int):leI a b=some (decide (a<=b)):=rfl
@[simp] theorem Jh (a b:Int):gtI a b=some (decide (b<a)):=rfl
@[simp] theorem Ms (a b:Int):geI a b=some (decide (b<=a)):=rfl
@[simp] theorem kN [DecidableEq A] (a b:A):eqA a b=some (decide (a=b)):=rfl
@[simp] theorem uA [DecidableEq A] (a b:A):neA a b=some (!decide (a=b)):=rfl
@[simp] theorem Mu (a b:Str):ltS a b=some (decide (bQ a b)):=rfl
@[simp] theorem Ef (a b:Str):leS a b=some (!decide (bQ b a)):=rfl
@[simp] theorem Mv (a b:Str):gtS a b=some (decide (bQ b a)):=rfl
@[simp] theorem Mw (a b:Str):geS a b=some (!decide (bQ a b)):=rfl
theorem xr {a b:Str} (h:a.length+b.length<=sizeLine):fK a b=some (a++b):=if_pos h
@[simp] theorem Lo (a b:Int):min2 a b=some (if b<a then b else a):=rfl
@[simp] theorem Lp (a b:Int):max2 a b=some (if b>a then b else a):=rfl
@[simp] theorem Ko (a b:Str):Hu a b=some (if bQ b a then b else a):=rfl
@[simp] theorem Kq (a b:Str):Hv a b=some (if bQ a b then b else a):=rfl
@[simp] theorem Lq (a:A) (b:B):pair a b=some (a,b):=rfl
@[simp] theorem Ji (a:A) (b:B) (c:C):tri a b c=some ⟨a,b,c⟩:=rfl
@[simp] theorem My (a:A) (b:B) (c:C) (d:E):qua a b c d=some ⟨a,b,c,d⟩:=rfl
@[simp] theorem Eg (a:A) (b:B) (c:C) (d:E) (e:F):qui a b c d e=some ⟨a,b,c,d,e⟩:=rfl
@[simp] theorem fN (a:A) (r:List A):T.cons (some a) (some r)=some (a::r):=rfl
theorem xt {r:List A} (h:r.length<=sizeLine):T.lst (some r)=some r:=if_pos h
@[simp] theorem Kr (a:A):T.lst (some [a])=some [a]:=xt (Nat.le_trans (by simp) big)
@[simp] theorem yW (a b:A):T.lst (some [a,b])=some [a,b]:=xt (Nat.le_trans (by simp) big)
@[simp] theorem HF (a b c:A):T.lst (some [a,b,c])=some [a,b,c]:=xt (Nat.le_trans (by simp) big)
@[simp] theorem HG (a b c d:A):T.lst (some [a,b,c,d])=some [a,b,c,d]:=xt (Nat.le_trans (by simp) big)
theorem GK {n:Nat} {i:Int} (h0:0<=i) (h1:i<n):ixN n i=some i.toNat:=by unfold ixN;rw[if_pos h0,if_pos h1]
theorem tn {xs:List A} {i:Int} (h0:0<=i) (h1:i<xs.length):atL xs i=some (xs[i.toNat]'(by omega)):=by
 unfold atL
 rw[atI_nat h0 h1,List.getElem?_eq_getElem]
theorem GL {xs:Scr} {i:Int} (h0:0<=i) (h1:i<xs.l.length):atC xs i=some (xs.l[i.toNat]'(by omega)):=by
 unfold atC
 rw[atI_nat h0 h1,List.getElem?_eq_getElem]
@[simp] theorem nT (xs:List A):lC xs=some (xs.length:Int):=rfl
@[simp] theorem Ls (xs:Scr):yB xs=some (xs.l.length:Int):=rfl
@[simp] theorem Lu (d:Sd A):Fm d=some (d.l.length:Int):=rfl
theorem GN {x:Str} (h:x.length<=sizeLine):lQ x=some (x.length:Int):=if_pos h
theorem tE {xs ys:List A} (h:xs.length+ys.length<=sizeLine):qL xs ys=some (xs++ys):=if_pos h
@[simp] theorem tF (xs:List A) (lo hi:Option Int):T.dO xs lo hi=some (Sw.dO xs lo hi):=rfl
@[simp] theorem Ly (xs:Scr) (lo hi:Option Int):T.Ij xs lo hi=some (Sw.dO xs.l lo hi):=rfl
@[simp] theorem Eh (i:Int):T.toI i=some (some i):=rfl
@[simp] theorem rev_eq (xs:List A):T.rev xs=some xs.reverse:=rfl
@[simp] theorem Mz (xs:List A) (ys:List B):T.zip xs ys=some (xs.zip ys):=rfl
@[simp] theorem LA (xs:List Int):J4 xs=some xs.sum:=rfl
theorem Bx {n:Int} (h0: -4611686018427387904<=n) (h:n<4611686018427387904):rF n=some ((List.range n.toNat).map fun i:Nat=>(i:Int)):=by
 unfold rF
 rw[if_pos]
 unfold okR
 exact @decide_eq_true _ (Classical.propDecidable _) ⟨by omega,by omega⟩
@[simp] theorem pE (x:Str):oW x=some (sgs x):=rfl
@[simp] theorem M6 [DecidableEq A] (a:A) (xs:List A):inA true a xs=some (!decide (a∈xs)):=rfl
@[simp] theorem M7 [DecidableEq A] (a:A) (xs:List A):inA false a xs=some (decide (a∈xs)):=rfl
@[simp] theorem LB (d:Sd A) (x:Str):Fh d x=aF d.l x:=rfl
@[simp] theorem MA (d:Sd A) (x:Str):inK x d=some (aF d.l x).isSome:=rfl
@[simp] theorem LD (d:Sd A) (x:Str):Fj x d=some (!(aF d.l x).isSome):=rfl
@[simp] theorem Ks (d:Sd A):Ht d=some (d.l.map (·.1)):=rfl
@[simp] theorem Ku (d:Sd A):items d=some d.l:=rfl
@[simp] theorem LG (d:Sd A):vals d=some (d.l.map (·.2)):=rfl
theorem Jj {xs:List A} {x:A} (h:xs.length<sizeLine):app xs x=some ((),xs++[x]):=if_pos h
@[simp] theorem MB (xs:List A):clr xs=some ((),[]):=rfl
@[simp] theorem MC (xs:List A):rvs xs=some ((),xs.reverse):=rfl
@[simp] theorem LH (d:Sd A):Mq d=some ((),⟨[]⟩):=rfl
@[simp] theorem M8 (r:R) (f:R->Option (C×R)):at0 r (some plR) f=f r:=by
 show (f r).bind _=_
 cases f r <;> rfl
@[simp] theorem Kv (r:R) (x:B) (f:R->B->Option (C×R)):at1 r (some plR) (some x) f=f r x:=by
 show (f r x).bind _=_
 cases f r x <;> rfl
@[simp] theorem M9 (r:R) (x:B) (y:E) (f:R->B->E->Option (C×R)):at2 r (some plR) (some x) (some y) f=f r x y:=by
 show (f r x y).bind _=_
 cases f r x y <;> rfl
theorem xv {r:List A} {x:A} {i:Int} (h0:0<=i) (h1:i<r.length):Ah r (some x) (some plR) (some i)=some (r.set i.toNat x):=by
 unfold Ah plR
 simp[GK h0 h1]
end T
@[simp] theorem aO (c:Bool) (x y:Option (TO γ β ρ)) (k:γ->Option (TO α β ρ)):cE (some c) x y k=(if c=true then x else y).bind (Ae k):=rfl
@[simp] theorem JP (c:Bool) (x y:Option A):Mp (some c) x y=if c=true then x else y:=rfl
@[simp] theorem bj (k:γ->Option (TO α β ρ)) (a:γ):Ae k (.nx a)=k a:=rfl
@[simp] theorem LJ (k:γ->Option (TO α β ρ)) (a:β):Ae k (.bk a)=some (.bk a):=rfl
@[simp] theorem LK (k:γ->Option (TO α β ρ)) (a:β):Ae k (.ct a)=some (.ct a):=rfl
@[simp] theorem Kw (k:γ->Option (TO α β ρ)) (a:ρ):Ae k (.ret a)=some (.ret a):=rfl
@[simp] theorem qX (k:γ->Option (TO α β ρ)) (a:γ):DZ k (.fin a)=k a:=rfl
@[simp] theorem Kx (k:γ->Option (TO α β ρ)) (a:ρ):DZ k (.ret a)=some (.ret a):=rfl
@[simp] theorem Ky (k:γ->Option (TO α β ρ)) (a:γ):Gg k (.fin a)=k a:=rfl
@[simp] theorem Kz (k:γ->Option (TO α β ρ)) (a:ρ):Gg k (.ret a)=some (.ret a):=rfl
@[simp] theorem iB (ds:List δ) (step:γ->δ->Option (TO γ γ ρ)) (b0:γ) (k:γ->Option (TO α β ρ)):qU (some ds) step b0 k=(iH step ds b0).bind (DZ k):=rfl
@[simp] theorem Jk (ds:List δ) (step:γ->δ->Option (TO γ γ ρ)) (b0:γ) (k:γ->Option (TO α β ρ)):Kh (some ds) step b0 k=(iH step ds b0).bind (Gg k):=rfl
@[simp] theorem rP (a:A) (f:A->ρ):(bR (some a) f:Option (TO α β ρ))=some (.ret (f a)):=rfl
@[simp] theorem xA (r:R0 A):tF0 (some (.ret r))=some r.v:=rfl
@[simp] theorem LL (r:R1 A B):tF1 (some (.ret r))=some (r.v,r.o):=rfl
@[simp] theorem LM (r:R2' A B C):tF2 (some (.ret r))=some (r.v,r.o,r.p):=rfl
@[simp] theorem LN (r:R3 A B C E):tF3 (some (.ret r))=some (r.v,r.o,r.p,r.q):=rfl
theorem xB {xs:List A} {rt:A->Option Bool} {re:A->Option B} (p:A->Bool) (g:A->B) (hl:xs.length<=sizeLine) (h1: ∀x∈xs,rt x=some (p x)) (h2: ∀x∈xs,p x=true->re x=some (g x)):tlc (some xs) rt re=some ((xs.filter p).map g):=by
 unfold tlc
 rw[Option.bind_some,if_pos hl]
 clear hl
 induction xs with
 |nil=>rfl
 |cons x xs ih=>
  have ih:=ih (fun y hy=>h1 y (List.mem_cons_of_mem _ hy)) (fun y hy=>h2 y (List.mem_cons_of_mem _ hy))
  unfold uw
  rw[h1 x List.mem_cons_self,Option.bind_some]
  cases hp:p x with
  |true=>rw[if_pos rfl,h2 x List.mem_cons_self hp,Option.bind_some,ih,List.filter_cons_of_pos hp];rfl
  |false=>rw[if_neg Bool.false_ne_true,ih,List.filter_cons_of_neg (by simp[hp])]
theorem By {xs:List A} {re:A->Option B} (g:A->B) (hl:xs.length<=sizeLine) (h2: ∀x∈xs,re x=some (g x)):tlc (some xs) (fun _=>some true) re=some (xs.map g):=by
 rw[xB (fun _=>true) g hl (fun _ _=>rfl) (fun x hx _=>h2 x hx),List.filter_eq_self.mpr (fun _ _=>rfl)]
theorem Ei {step:γ->δ->Option (TO γ γ ρ)} {xs:List δ} (I:List δ->γ->Prop) {b0:γ} (h0:I [] b0) (hs: ∀pre x post b,xs=pre++x::post->I pre b-> ∃b',(step b x=some (.nx b')\/step b x=some (.ct b'))/\I (pre++[x]) b'): ∃b',iH step xs b0=some (.fin b')/\I xs b':=by
 have key: ∀(ys pre:List δ) (b:γ),xs=pre++ys->I pre b-> ∃b',iH step ys b=some (.fin b')/\I xs b':=by
  intro ys
  induction ys with
  |nil=>intro pre b e h;rw[List.append_nil] at e;subst e;exact⟨b,rfl,h⟩
  |cons y ys ih=>
   intro pre b e h
   obtain⟨b1,e1,h1⟩:=hs pre y ys b e h
   obtain⟨b2,e2,h2⟩:=ih (pre++[y]) b1 (by rw[e,List.append_assoc];rfl) h1
   refine⟨b2,?_,h2⟩
   unfold iH
   rcases e1 with e1|e1 <;> (rw[e1];exact e2)
 exact key xs [] b0 rfl h0
end
end Sw
namespace Sw
open PySem PySem.Spec PyProof.Rows L2
abbrev Wb:=Sd (Sd Int)
def mF (w:Wb) (x:Str):List (Str×Int):=match aF w.l x with
 |some r=>r.l
 |none=>[]
def wk (w:Wb) (x y:Str):Option Int:=aF (mF w x) y
structure gh (ns:List Str) (w:Wb):Prop where
 keys:w.l.map (·.1)=ns
 rows: ∀x,((mF w x).map (·.1)).Nodup
 sym: ∀x y v,wk w x y=some v->wk w y x=some v
 irr: ∀x,wk w x x=none
 rng: ∀x y v,wk w x y=some v->1<=v/\v<=1000000000000
def Bz (w:Wb) (x y:Str) (v:Int):Wb:=⟨cf (cf w.l x ⟨cf (mF w x) y v⟩) y ⟨cf (mF w y) x v⟩⟩
section
variable {ns:List Str} {w:Wb} {x y:Str} {v:Int}
theorem BA {r:Sd Int} (h:aF w.l x=some r):mF w x=r.l:=by unfold mF;rw[h]
theorem KA {r:Sd Int} (h:aF w.l x=some r) (y:Str):wk w x y=aF r.l y:=by unfold wk;rw[BA h]
theorem HH {w:Wb} {x y:Str} {v:Int} (h:wk w x y=some v): ∃r,aF w.l x=some r/\aF r.l y=some v:=by
 unfold wk mF at h
 cases e:aF w.l x with
 |none=>rw[e] at h;cases h
 |some r=>rw[e] at h;exact⟨r,rfl,h⟩
theorem vY (w:Wb) (x:Str) (r:Sd Int) (a:Str):mF ⟨cf w.l x r⟩ a=if a=x then r.l else mF w a:=by
 unfold mF
 rw[ff]
 by_cases e:a=x
 ·rw[if_pos e,if_pos e]
 ·rw[if_neg e,if_neg e]
theorem gh.has (h:gh ns w):(aF w.l x).isSome=true↔x∈ns:=by rw[lW,h.keys]
theorem gh.get (h:gh ns w) (hx:x∈ns): ∃r,aF w.l x=some r:=Option.isSome_iff_exists.mp (h.has.mpr hx)
theorem gh.inl (h:gh ns w) (e:wk w x y=some v):x∈ns:=by
 obtain⟨r,e1,_⟩:=HH e
 exact h.has.mp (by rw[e1];rfl)
theorem gh.inside (h:gh ns w) (e:wk w x y=some v):x∈ns/\y∈ns:=⟨h.inl e,h.inl (h.sym _ _ _ e)⟩
theorem gh.ne (h:gh ns w) (e:wk w x y=some v):x≠y:=fun q=>by subst q;rw[h.irr] at e;cases e
theorem gh.len (h:gh ns w):w.l.length=ns.length:=by rw[<-h.keys];simp
theorem uB (hxy:x≠y) (a:Str):mF (Bz w x y v) a=if a=y then cf (mF w y) x v else if a=x then cf (mF w x) y v else mF w a:=by
 unfold Bz
 rw[show (⟨cf (cf w.l x ⟨cf (mF w x) y v⟩) y ⟨cf (mF w y) x v⟩⟩:Wb)=⟨cf (⟨cf w.l x ⟨cf (mF w x) y v⟩⟩:Wb).l y ⟨cf (mF w y) x v⟩⟩ from rfl,vY,vY]
theorem uC (hxy:x≠y) (a b:Str):wk (Bz w x y v) a b=if (a=x/\b=y)\/(a=y/\b=x) then some v else wk w a b:=by
 unfold wk
 rw[uB hxy]
 by_cases ha:a=y
 ·subst ha
  rw[if_pos rfl,ff]
  by_cases hb:b=x
  ·rw[if_pos hb,if_pos (.inr ⟨rfl,hb⟩)]
  ·rw[if_neg hb,if_neg (by rintro (⟨e,_⟩|⟨_,e⟩);exact hxy e.symm;exact hb e)]
 ·rw[if_neg ha]
  by_cases hx:a=x
  ·subst hx
   rw[if_pos rfl,ff]
   by_cases hb:b=y
   ·rw[if_pos hb,if_pos (.inl ⟨rfl,hb⟩)]
   ·rw[if_neg hb,if_neg (by rintro (⟨_,e⟩|⟨e,_⟩);exact hb e;exact ha e)]
  ·rw[if_neg hx,if_neg (by rintro (⟨e,_⟩|⟨e,_⟩);exact hx e;exact ha e)]
theorem Cj {r s:Sd Int} (hk:w.l.map (·.1)=ns) (hx:x∈ns) (hy:y∈ns):(cf (cf w.l x r) y s).map (·.1)=ns:=by
 rw[eA,eA,hk]
 ·rw[hk];exact hx
 ·rw[eA (by rw[hk];exact hx),hk];exact hy
theorem gh.join (h:gh ns w) (hx:x∈ns) (hy:y∈ns) (hxy:x≠y) (hv:1<=v/\v<=1000000000000):gh ns (Bz w x y v) where
 keys:=Cj h.keys hx hy
 rows:=fun a=>by
  rw[uB hxy]
  split
  ·exact iu (h.rows y)
  ·split
   ·exact iu (h.rows x)
   ·exact h.rows a
 sym:=fun a b u e=>by
  rw[uC hxy] at e⊢
  split at e
  ·rename_i q
   rw[if_pos (q.symm.imp And.symm And.symm)];exact e
  ·rename_i q
   rw[if_neg (fun z=>q (z.symm.imp And.symm And.symm))];exact h.sym _ _ _ e
 irr:=fun a=>by
  rw[uC hxy,if_neg (by rintro (⟨e,f⟩|⟨e,f⟩);exact hxy (e.symm.trans f);exact hxy (f.symm.trans e))]
  exact h.irr a
 rng:=fun a b u e=>by
  rw[uC hxy] at e
  split at e
  ·cases e;exact hv
  ·exact h.rng _ _ _ e
end
theorem aV (xs:List Str):(fL xs).Perm xs:=List.mergeSort_perm _ _
theorem xC (xs:List Str):(fL xs).Pairwise (fun a b=>sLe a b=true):=List.pairwise_mergeSort rH vS xs
theorem tG {xs:List Str} (h:xs.Nodup):(fL xs).Pairwise bQ:=by
 have h1:=xC xs
 have h2:(fL xs).Nodup:=(aV xs).nodup_iff.mpr h
 rw[List.nodup_iff_pairwise_ne] at h2
 refine (h1.and h2).imp fun {a b} ⟨h,g⟩=> ?_
 rw[Bm] at h
 rcases nJ a b with e|e|e
 ·exact e
 ·exact absurd e g
 ·exact absurd e h
theorem pF (xs:List Str):(fL xs).length=xs.length:=(aV xs).length_eq
theorem uD {α:Type} {lt:α->α->Prop} (ir: ∀a,¬lt a a) (tr: ∀a b c,lt a b->lt b c->lt a c): ∀{xs ys:List α},xs.Pairwise lt->ys.Pairwise lt->(∀a,a∈xs↔a∈ys)->xs=ys
 | [],[],_,_,_=>rfl
 | [],y::ys,_,_,h=>absurd ((h y).mpr List.mem_cons_self) (by simp)
 |x::xs,[],_,_,h=>absurd ((h x).mp List.mem_cons_self) (by simp)
 |x::xs,y::ys,hx,hy,h=>by
  rw[List.pairwise_cons] at hx hy
  have e:x=y:=by
   have h1:=(h x).mp List.mem_cons_self
   have h2:=(h y).mpr List.mem_cons_self
   rcases List.mem_cons.mp h1 with e|h1
   ·exact e
   ·rcases List.mem_cons.mp h2 with e|h2
    ·exact e.symm
    ·exact absurd (tr _ _ _ (hx.1 y h2) (hy.1 x h1)) (ir _)
  subst e
  congr 1
  refine uD ir tr hx.2 hy.2 fun a=>⟨fun m=> ?_,fun m=> ?_⟩
  ·rcases List.mem_cons.mp ((h a).mp (List.mem_cons_of_mem _ m)) with e|q
   ·subst e;exact absurd (hx.1 a m) (ir a)
   ·exact q
  ·rcases List.mem_cons.mp ((h a).mpr (List.mem_cons_of_mem _ m)) with e|q
   ·subst e;exact absurd (hy.1 a m) (ir a)
   ·exact q
theorem risingS {xs ys:List Str} (hx:xs.Pairwise bQ) (hy:ys.Pairwise bQ) (h: ∀a,a∈xs↔a∈ys):xs=ys:=uD cZ (fun _ _ _=>mX) hx hy h
theorem LO {ps:List (Str×Str)} (h:ps.Pairwise pLt):B9 ps=ps:=List.mergeSort_of_pairwise (h.imp fun {a b} h=>by unfold pLe;simp only[Bool.not_eq_true',decide_eq_false_iff_not];exact fun g=>nK _ (pC h g))
theorem GO {xs:List Str} (h:xs.Pairwise bQ):fL xs=xs:=List.mergeSort_of_pairwise (h.imp fun {a b} h=>Bm.mpr (pB h))
theorem Ej {ps:List (Str×Str)} (h:ps.Nodup):(B9 ps).Pairwise pLt:=by
 have h1:=yQ ps
 have h2:(B9 ps).Nodup:=(rM ps).nodup_iff.mpr h
 rw[List.nodup_iff_pairwise_ne] at h2
 refine (h1.and h2).imp fun {a b} ⟨h,g⟩=> ?_
 unfold pLe at h
 simp only[Bool.not_eq_true',decide_eq_false_iff_not] at h
 rcases wW a b with e|e|e
 ·exact e
 ·exact absurd e g
 ·exact absurd e h
def dE (ps:List (Str×Str)):Prop:=(bf ps).Nodup
theorem ends_app (a b:List (Str×Str)):bf (a++b)=bf a++bf b:=List.flatMap_append
theorem uE (a:List (Str×Str)):(bf a).length=2*a.length:=by
 induction a with
 |nil=>rfl
 |cons p a ih=>unfold bf at *; rw[List.flatMap_cons,List.length_append,ih];simp;omega
theorem GP {pre:List (Str×Str)} {q:Str×Str} (h:q∈pre):q.1∈bf pre/\q.2∈bf pre:=
 ⟨List.mem_flatMap.mpr ⟨q,h,by simp⟩,List.mem_flatMap.mpr ⟨q,h,by simp⟩⟩
theorem eR {pre:List (Str×Str)} {x:Str}:x∈bf pre↔ ∃q∈pre,x=q.1\/x=q.2:=by
 unfold bf
 rw[List.mem_flatMap]
 simp
theorem qY: ∀{ps:List (Str×Str)},dE ps->ps.Nodup
 | [],_=>List.nodup_nil
 |p::ps,h=>by
  unfold dE at h
  rw[show bf (p::ps)=[p.1,p.2]++bf ps from rfl,List.nodup_append] at h
  exact List.nodup_cons.mpr ⟨fun m=>h.2.2 p.1 (by simp) p.1 (GP m).1 rfl,qY h.2.1⟩
theorem yX {ps qs:List (Str×Str)} (p:ps.Perm qs) (h:dE ps):dE qs:=(List.Perm.flatMap_right (fun p:Str×Str=>[p.1,p.2]) p).nodup_iff.mp h
theorem Ck {ps qs:List (Str×Str)} (p:List.Sublist ps qs) (h:dE qs):dE ps:=h.sublist (by
 induction p with
 |slnil=>exact List.Sublist.refl _
 |cons a p ih=>exact (ih (by unfold dE at *; rw[show bf (a::_)=[a.1,a.2]++bf _ from rfl,List.nodup_append] at h;exact h.2.1)).trans (List.sublist_append_right _ _)
 |cons_cons a p ih=>exact List.Sublist.append (List.Sublist.refl _) (ih (by unfold dE at *; rw[show bf (a::_)=[a.1,a.2]++bf _ from rfl,List.nodup_append] at h;exact h.2.1)))
theorem lq {ps:List (Str×Str)} (h:dE ps) {p q:Str×Str} (hp:p∈ps) (hq:q∈ps) {x:Str} (h1:x=p.1\/x=p.2) (h2:x=q.1\/x=q.2):p=q:=by
 induction ps with
 |nil=>cases hp
 |cons a ps ih=>
  unfold dE at h
  rw[show bf (a::ps)=[a.1,a.2]++bf ps from rfl,List.nodup_append] at h
  rcases List.mem_cons.mp hp with e1|hp
  ·rcases List.mem_cons.mp hq with e2|hq
   ·rw[e1,e2]
   ·exact absurd rfl (h.2.2 x (by rw[<-e1];simpa using h1) x (eR.mpr ⟨q,hq,h2⟩))
  ·rcases List.mem_cons.mp hq with e2|hq
   ·exact absurd rfl (h.2.2 x (by rw[<-e2];simpa using h2) x (eR.mpr ⟨p,hp,h1⟩))
   ·exact ih h.2.1 hp hq
structure Plan (w:Wb) (ps:List (Str×Str)):Prop where
 rise:ps.Pairwise pLt
 apart:dE ps
 lt: ∀p∈ps,bQ p.1 p.2
 swap: ∀p∈ps,∃v,wk w p.1 p.2=some v
end Sw
namespace Sw
open PySem PySem.Spec PyProof.Rows L2
def mix (c k:Int):Int:=
 let n:=(c%2147483629*48271+7919*k+104729)%2147483629
 let m:=n*n%2147483629
 (m+k)*(m+k)%2147483587
def pl (c:Int):List Int:=(List.range 8).map fun j:Nat=>mix c (10+(j:Int))%26
def Az (c:Int):Int:=mix c 7%8
def MD (c:Int) (k:Nat):List Int:=if c%3<2 then (pl c).set (Az c).toNat (((pl c).getD (Az c).toNat 0+k)%26) else (pl c).set 0 (((pl c).getD 0 0+(k:Int)/8)%26)
def ME (c:Int) (k:Nat):Int:=if c%3<2 then (if c%3=1 then Az c+1+mix c (30+(k:Int))%(8 -Az c) else Az c+1+c/3%(8 -Az c)) else 1+(Az c+k)%8
def nm (c:Int) (k:Nat):Str:=⟨(((MD c k).take (ME c k).toNat).map fun p=>97+p.toNat).toArray⟩
end Sw
namespace Sw
open PySem PySem.Spec PyProof.Rows L2
def nP (e:Str×Str):Str×Str:=(if bQ e.2 e.1 then e.2 else e.1,if bQ e.1 e.2 then e.2 else e.1)
theorem uF {e:Str×Str} (h:bQ e.1 e.2):nP e=e:=by
 unfold nP;rw[if_neg (pB h),if_pos h]
theorem BB {e:Str×Str} (h:bQ e.2 e.1):nP e=(e.2,e.1):=by
 unfold nP;rw[if_pos h,if_neg (pB h)]
theorem tH (x y:Str):nP (x,y)=nP (y,x):=by
 rcases nJ x y with h|h|h
 ·rw[uF h,BB (e:=(y,x)) h]
 ·rw[h]
 ·rw[BB (e:=(x,y)) h,uF (e:=(y,x)) h]
theorem vZ {e:Str×Str} (h:e.1≠e.2):(nP e=e/\bQ e.1 e.2)\/(nP e=(e.2,e.1)/\bQ e.2 e.1):=by
 rcases nJ e.1 e.2 with g|g|g
 ·exact .inl ⟨uF g,g⟩
 ·exact absurd g h
 ·exact .inr ⟨BB g,g⟩
theorem GQ {e:Str×Str} (h:e.1≠e.2):bQ (nP e).1 (nP e).2:=by
 rcases vZ h with ⟨g,k⟩|⟨g,k⟩ <;> (rw[g];exact k)
theorem kO {e:Str×Str} (h:e.1≠e.2) {x:Str}:(x=(nP e).1\/x=(nP e).2)↔(x=e.1\/x=e.2):=by
 rcases vZ h with ⟨g,k⟩|⟨g,k⟩
 ·rw[g]
 ·rw[g];exact Or.comm
def mt (P:List (Str×Str)) (x y:Str):Prop:=(x,y)∈P\/(y,x)∈P
instance (P:List (Str×Str)) (x y:Str):Decidable (mt P x y):=inferInstanceAs (Decidable (_\/_))
theorem nU {P:List (Str×Str)} {x y:Str} (h:mt P x y):mt P y x:=h.symm
theorem qk {w:Wb} {P:List (Str×Str)} (hP:Plan w P) {x y z:Str} (h:mt P x y) (g:mt P x z):y=z:=by
 have ne: ∀p∈P,p.1≠p.2:=fun p hp e=>cZ p.2 (by have:=hP.lt p hp;rwa[e] at this)
 rcases h with h|h <;> rcases g with g|g
 ·have:=lq hP.apart h g (x:=x) (.inl rfl) (.inl rfl);exact congrArg Prod.snd this
 ·have:=lq hP.apart h g (x:=x) (.inl rfl) (.inr rfl)
  have e1:x=z:=congrArg Prod.fst this
  have e2:y=x:=congrArg Prod.snd this
  rw[e2,e1]
 ·have:=lq hP.apart h g (x:=x) (.inr rfl) (.inl rfl)
  have e1:y=x:=congrArg Prod.fst this
  have e2:x=z:=congrArg Prod.snd this
  rw[e1,e2]
 ·have:=lq hP.apart h g (x:=x) (.inr rfl) (.inr rfl);exact congrArg Prod.fst this
theorem uG {w:Wb} {P:List (Str×Str)} (hP:Plan w P) {x y:Str} (h:mt P x y):x≠y:=fun e=>by
 subst e
 rcases h with h|h <;> exact cZ x (hP.lt _ h)
theorem sx {w:Wb} {P:List (Str×Str)} (hP:Plan w P) {e:Str×Str} (he:e.1≠e.2):nP e∈P↔mt P e.1 e.2:=by
 constructor
 ·intro h
  rcases vZ he with ⟨g,k⟩|⟨g,k⟩
  ·rw[g] at h;exact .inl h
  ·rw[g] at h;exact .inr h
 ·rintro (h|h)
  ·rw[uF (hP.lt _ h)];exact h
  ·rw[BB (hP.lt _ h)];exact h
theorem uH: ∀{xs:List (Str×Str)},xs.Nodup->(∀p∈xs,p.1≠p.2)->(∀p∈xs,∀q∈xs,∀x,(x=p.1\/x=p.2)->(x=q.1\/x=q.2)->p=q)->dE xs
 | [],_,_,_=>List.nodup_nil
 |p::xs,h1,h2,h3=>by
  rw[List.nodup_cons] at h1
  have ih:=uH h1.2 (fun q hq=>h2 q (List.mem_cons_of_mem _ hq)) (fun q hq r hr=>h3 q (List.mem_cons_of_mem _ hq) r (List.mem_cons_of_mem _ hr))
  unfold dE
  rw[show bf (p::xs)=[p.1,p.2]++bf xs from rfl,List.nodup_append]
  refine⟨by simpa using h2 p List.mem_cons_self,ih,fun a ha b hb e=> ?_⟩
  subst e
  obtain⟨q,hq,e⟩:=eR.mp hb
  have:p=q:=h3 p List.mem_cons_self q (List.mem_cons_of_mem _ hq) a (by simpa using ha) e
  rw[this] at h1
  exact h1.1 hq
def pO (P A:List (Str×Str)):List (Str×Str):=B9 ((P.filter fun p=> !decide (p∈A))++A.filter fun p=> !decide (p∈P))
theorem mZ {P A:List (Str×Str)} (q:Str×Str):q∈pO P A↔(q∈P/\q∉A)\/(q∈A/\q∉P):=by
 unfold pO
 rw[(rM _).mem_iff,List.mem_append,List.mem_filter,List.mem_filter]
 simp
theorem yY {P A:List (Str×Str)} (hP:P.Nodup) (hA:A.Nodup):((P.filter fun p=> !decide (p∈A))++A.filter fun p=> !decide (p∈P)).Nodup:=by
 refine List.nodup_append.mpr ⟨hP.sublist List.filter_sublist,hA.sublist List.filter_sublist,fun a ha b hb e=> ?_⟩
 subst e
 rw[List.mem_filter] at ha hb
 simp at ha hb
 exact hb.2 ha.1
structure TurnOk (w:Wb) (P A:List (Str×Str)):Prop where
 nd:A.Nodup
 lt: ∀p∈A,bQ p.1 p.2
 sw: ∀p∈A,∃v,wk w p.1 p.2=some v
 a: ∀p∈A,p∉P-> ∀q∈A,q∉P-> ∀x,(x=p.1\/x=p.2)->(x=q.1\/x=q.2)->p=q
 b: ∀p∈P,∀q∈A,q∉P-> ∀x,(x=p.1\/x=p.2)->(x=q.1\/x=q.2)->p∈A
theorem v7 {w:Wb} {P A:List (Str×Str)} (hP:Plan w P) (h:TurnOk w P A):Plan w (pO P A):=by
 have nd:=yY (qY hP.apart) h.nd
 have lt: ∀p∈pO P A,bQ p.1 p.2:=fun p hp=>by
  rcases (mZ p).mp hp with ⟨q,_⟩|⟨q,_⟩
  ·exact hP.lt p q
  ·exact h.lt p q
 refine⟨Ej nd,uH (by unfold pO;exact (rM _).nodup_iff.mpr nd) (fun p hp e=>cZ p.2 (by have:=lt p hp;rwa[e] at this)) (fun p hp q hq x h1 h2=> ?_),lt,fun p hp=> ?_⟩
 ·rcases (mZ p).mp hp with ⟨a1,a2⟩|⟨a1,a2⟩ <;> rcases (mZ q).mp hq with ⟨b1,b2⟩|⟨b1,b2⟩
  ·exact lq hP.apart a1 b1 h1 h2
  ·exact absurd (h.b p a1 q b1 b2 x h1 h2) a2
  ·exact absurd (h.b q b1 p a1 a2 x h2 h1) b2
  ·exact h.a p a1 a2 q b1 b2 x h1 h2
 ·rcases (mZ p).mp hp with ⟨q,_⟩|⟨q,_⟩
  ·exact hP.swap p q
  ·exact h.sw p q
theorem TurnOk.perm {w:Wb} {P A B:List (Str×Str)} (h:TurnOk w P A) (p:A.Perm B):TurnOk w P B where
 nd:=p.nodup_iff.mp h.nd
 lt:=fun q hq=>h.lt q (p.mem_iff.mpr hq)
 sw:=fun q hq=>h.sw q (p.mem_iff.mpr hq)
 a:=fun q hq nq r hr nr=>h.a q (p.mem_iff.mpr hq) nq r (p.mem_iff.mpr hr) nr
 b:=fun q hq r hr nr x h1 h2=>p.mem_iff.mp (h.b q hq r (p.mem_iff.mpr hr) nr x h1 h2)
theorem TurnOk.nil (w:Wb) (P:List (Str×Str)):TurnOk w P []:=⟨List.nodup_nil,by simp,by simp,by simp,by simp⟩
def eds:List Str->List (Str×Str)
 | []=>[]
 | [_]=>[]
 |a::b::l=>(a,b)::eds (b::l)
theorem mG {e:Str×Str}: ∀{l:List Str},e∈eds l->e.1∈l/\e.2∈l
 | [],h=>by cases h
 | [_],h=>by cases h
 |a::b::l,h=>by
  rcases List.mem_cons.mp h with h|h
  ·subst h;simp
  ·have:=mG h
   exact⟨List.mem_cons_of_mem _ this.1,List.mem_cons_of_mem _ this.2⟩
def alo (ring:Bool) (cs:List Str):List (Str×Str):=(eds cs++if ring=true then (match cs.getLast?,cs.head? with|some l,some h=>[(l,h)]|_,_=>[]) else []).map nP
theorem BC (cs:List Str):alo false cs=(eds cs).map nP:=by
 unfold alo
 rw[if_neg Bool.false_ne_true,List.append_nil]
def qZ (P es:List (Str×Str)):List (Str×Str):=es.filter fun e=> !decide (mt P e.1 e.2)
theorem lG {P es:List (Str×Str)} {e:Str×Str}:e∈qZ P es↔e∈es/\ ¬mt P e.1 e.2:=by
 unfold qZ;rw[List.mem_filter];simp
theorem Ek (P a b:List (Str×Str)):qZ P (a++b)=qZ P a++qZ P b:=List.filter_append _ _
structure rQ (w:Wb) (P es:List (Str×Str)):Prop where
 nd:(es.map nP).Nodup
 ne: ∀e∈es,e.1≠e.2
 sw: ∀e∈es,∃v,wk w e.1 e.2=some v
 ap:dE (qZ P es)
 cl: ∀e∈es,∀x,(x=e.1\/x=e.2)-> ∀y,mt P x y->(x,y)∈es\/(y,x)∈es
theorem rQ.turn {ns:List Str} {w:Wb} {P es:List (Str×Str)} (hw:gh ns w) (hP:Plan w P) (h:rQ w P es):TurnOk w P (es.map nP) where
 nd:=h.nd
 lt:=fun p hp=>by
  obtain⟨e,he,rfl⟩:=List.mem_map.mp hp
  exact GQ (h.ne e he)
 sw:=fun p hp=>by
  obtain⟨e,he,rfl⟩:=List.mem_map.mp hp
  obtain⟨v,hv⟩:=h.sw e he
  rcases vZ (h.ne e he) with ⟨g,k⟩|⟨g,k⟩
  ·rw[g];exact⟨v,hv⟩
  ·rw[g];exact⟨v,hw.sym _ _ _ hv⟩
 a:=fun p hp np q hq nq x h1 h2=>by
  obtain⟨e,he,rfl⟩:=List.mem_map.mp hp
  obtain⟨f,hf,rfl⟩:=List.mem_map.mp hq
  rw[kO (h.ne e he)] at h1
  rw[kO (h.ne f hf)] at h2
  rw[sx hP (h.ne e he)] at np
  rw[sx hP (h.ne f hf)] at nq
  rw[lq h.ap (lG.mpr ⟨he,np⟩) (lG.mpr ⟨hf,nq⟩) h1 h2]
 b:=fun p hp q hq nq x h1 h2=>by
  obtain⟨f,hf,rfl⟩:=List.mem_map.mp hq
  rw[kO (h.ne f hf)] at h2
  have key: ∃y,mt P x y/\(p=(x,y)\/p=(y,x)):=by
   rcases h1 with h1|h1
   ·exact⟨p.2,.inl (by rw[h1];exact hp),.inl (by rw[h1])⟩
   ·exact⟨p.1,.inr (by rw[h1];exact hp),.inr (by rw[h1])⟩
  obtain⟨y,my,hpe⟩:=key
  have hn:nP p=p:=uF (hP.lt p hp)
  rcases h.cl f hf x h2 y my with g|g
  ·refine List.mem_map.mpr ⟨_,g,?_⟩
   rcases hpe with e|e
   ·rw[<-e];exact hn
   ·rw[tH,←e];exact hn
  ·refine List.mem_map.mpr ⟨_,g,?_⟩
   rcases hpe with e|e
   ·rw[tH,←e];exact hn
   ·rw[<-e];exact hn
theorem mH: ∀{cs:List Str},cs.Nodup->((eds cs).map nP).Nodup/\ ∀e∈eds cs,e.1≠e.2
 | [],_=>⟨List.nodup_nil,by simp[eds]⟩
 | [_],_=>⟨List.nodup_nil,by simp[eds]⟩
 |a::b::l,h=>by
  rw[List.nodup_cons] at h
  have ih:=mH h.2
  have ab:a≠b:=fun e=>h.1 (by rw[e];simp)
  have ne: ∀e∈eds (a::b::l),e.1≠e.2:=fun e he=>by
   rcases List.mem_cons.mp he with he|he
   ·subst he;exact ab
   ·exact ih.2 e he
  refine⟨?_,ne⟩
  show (nP (a,b)::(eds (b::l)).map nP).Nodup
  refine List.nodup_cons.mpr ⟨fun m=> ?_,ih.1⟩
  obtain⟨e,he,q⟩:=List.mem_map.mp m
  have t1:=(kO (e:=(a,b)) ab (x:=a)).mpr (.inl rfl)
  rw[<-q,kO (ih.2 e he)] at t1
  have:=mG he
  rcases t1 with t|t
  ·exact h.1 (t▸this.1)
  ·exact h.1 (t▸this.2)
structure sy (w:Wb) (P:List (Str×Str)) (cs:List Str) (l:Str):Prop where
 la:cs.getLast? =some l
 nd:cs.Nodup
 cl: ∀x∈cs,∀y,mt P x y->y∈cs/\((x,y)∈eds cs\/(y,x)∈eds cs)
 sw: ∀e∈eds cs,∃v,wk w e.1 e.2=some v
 ap:dE (qZ P (eds cs))
 fr:(∃y,mt P l y)->l∉bf (qZ P (eds cs))
 ev: ∀h,cs.head? =some h->(∃y,mt P h y)->(cs.length%2=0/\ ∃y,mt P l y)\/(cs.length%2=1/\ ¬ ∃y,mt P l y)
section
variable {w:Wb} {P:List (Str×Str)} {cs:List Str} {l x:Str}
theorem sy.one {c:Str} (h: ¬ ∃y,mt P c y):sy w P [c] c:=
 ⟨rfl,by simp,fun x hx y hy=>absurd ⟨y,(List.mem_singleton.mp hx)▸hy⟩ h,by simp[eds],List.nodup_nil,fun g=>absurd g h,fun z hz g=>by cases hz;exact absurd g h⟩
theorem sy.two (hP:Plan w P) (hs: ∀x y,mt P x y-> ∃v,wk w x y=some v) {c d:Str} (h:mt P c d):sy w P [c,d] d:=by
 have ne:=uG hP h
 have nn:qZ P (eds [c,d])=[]:=by
  refine List.filter_eq_nil_iff.mpr fun e he=> ?_
  have:e=(c,d):=by simpa [eds] using he
  subst this;simp[h]
 refine⟨rfl,by simpa using ne,fun x hx y hy=> ?_,fun e he=> ?_,by rw[nn];exact List.nodup_nil,fun _=>by rw[nn];simp[bf],fun z hz _=>.inl ⟨by simp,c,nU h⟩⟩
 ·rcases List.mem_cons.mp hx with rfl|hx
  ·rw[qk hP hy h];exact⟨by simp,.inl (by simp[eds])⟩
  ·rw[List.mem_singleton.mp hx] at hy⊢
   rw[qk hP hy (nU h)]
   exact⟨by simp,.inr (by simp[eds])⟩
 ·have:e=(c,d):=by simpa [eds] using he
  subst this;exact hs _ _ h
theorem sy.El (h:sy w P cs l):rQ w P (eds cs):=
 ⟨(mH h.nd).1,(mH h.nd).2,h.sw,h.ap,fun e he x hx y hy=>by
  have:=mG he
  exact (h.cl x (by rcases hx with e|e <;> (rw[e];first|exact this.1|exact this.2)) y hy).2⟩
theorem sy.ring (hP:Plan w P) (h:sy w P cs l) {a b:Str} {t:List Str} (hc:cs=a::b::t) (h3:3<cs.length) (h2:cs.length%2=0) (hi:mt P a b) (hv: ∃v,wk w l a=some v):rQ w P (eds cs++[(l,a)]):=by
 have hl: ∃y,mt P l y:=by
  rcases h.ev a (by rw[hc];rfl) ⟨b,hi⟩ with ⟨_,q⟩|⟨q,_⟩
  ·exact q
  ·omega
 have hlm:=List.mem_of_getLast? h.la
 have nd:=h.nd
 have key:l≠a/\l≠b:=by
  subst hc
  rw[List.nodup_cons,List.nodup_cons] at nd
  have ht:t≠[]:=fun e=>by subst e;simp at h3
  have:l∈t:=by
   have:=h.la
   rw[List.getLast?_cons_cons,List.getLast?_cons_of_ne_nil ht] at this
   exact List.mem_of_getLast? this
  exact⟨fun e=>nd.1 (e▸List.mem_cons_of_mem _ this),fun e=>nd.2.1 (e▸this)⟩
 have hn: ¬mt P l a:=fun m=>key.2 (qk hP (nU m) hi)
 have ha:a∉bf (qZ P (eds cs)):=fun m=>by
  obtain⟨e,he,q⟩:=eR.mp m
  obtain⟨he,ne⟩:=lG.mp he
  subst hc
  rcases List.mem_cons.mp (show e∈(a,b)::eds (b::t) from he) with g|g
  ·subst g;exact ne hi
  ·have:=mG g
   rw[List.nodup_cons] at nd
   rcases q with q|q
   ·exact nd.1 (q▸this.1)
   ·exact nd.1 (q▸this.2)
 have hf:=h.fr hl
 have nn:qZ P (eds cs++[(l,a)])=qZ P (eds cs)++[(l,a)]:=by
  rw[Ek];unfold qZ;rw[List.filter_cons_of_pos (by simpa using hn)];rfl
 have E:=h.El
 refine⟨?_,fun e he=> ?_,fun e he=> ?_,?_,fun e he x hx y hy=> ?_⟩
 ·rw[List.map_append]
  refine List.nodup_append.mpr ⟨E.nd,by simp,fun p hp q hq e=> ?_⟩
  subst e
  have hq:p=nP (l,a):=by simpa using hq
  obtain⟨e,he,g⟩:=List.mem_map.mp hp
  rw[hq] at g
  have t1:l=e.1\/l=e.2:=by
   rw[<-kO (E.ne e he),g,kO (e:=(l,a)) key.1];exact .inl rfl
  by_cases me:mt P e.1 e.2
  ·rw[<-sx hP (E.ne e he),g,sx hP (e:=(l,a)) key.1] at me
   exact hn me
  ·exact hf (eR.mpr ⟨e,lG.mpr ⟨he,me⟩,t1⟩)
 ·rcases List.mem_append.mp he with he|he
  ·exact E.ne e he
  ·rw[List.mem_singleton.mp he];exact key.1
 ·rcases List.mem_append.mp he with he|he
  ·exact E.sw e he
  ·rw[List.mem_singleton.mp he];exact hv
 ·rw[nn]
  unfold dE
  rw[ends_app,List.nodup_append]
  refine⟨h.ap,?_,fun c hc2 d hd e=> ?_⟩
  ·show ([l,a]:List Str).Nodup
   simpa using key.1
  ·subst e
   rcases List.mem_cons.mp (show c∈[l,a] from hd) with e|hd
   ·exact hf (e▸hc2)
   ·exact ha (List.mem_singleton.mp hd▸hc2)
 ·have hx':x∈cs:=by
   rcases List.mem_append.mp he with he|he
   ·have:=mG he
    rcases hx with e|e <;> (rw[e];first|exact this.1|exact this.2)
   ·rw[List.mem_singleton.mp he] at hx
    rcases hx with e|e
    ·rw[e];exact hlm
    ·rw[e,hc];exact List.mem_cons_self
  exact (h.cl x hx' y hy).2.imp (List.mem_append_left _) (List.mem_append_left _)
end
theorem uI {A:Type} {xs:List A} {rt:A->Option Bool} (p:A->Bool) (hl:xs.length<=sizeLine) (h1: ∀x∈xs,rt x=some (p x)):tlc (some xs) rt (fun x=>some x)=some (xs.filter p):=by
 have:=xB (re:=fun x=>some x) p id hl h1 (fun _ _ _=>rfl)
 rwa[List.map_id] at this
end Sw
namespace Sw
open PySem PySem.Spec PyProof.Rows L2
inductive Rch (w:Wb) (P:Str->Prop) (x:Str):Str->Prop
 |refl:Rch w P x x
 |step {y z:Str} {v:Int}:Rch w P x y->wk w y z=some v-> ¬P z->Rch w P x z
section
variable {w:Wb} {P Q:Str->Prop} {x y z:Str} {v:Int} {ks:List Str}
theorem Rch.trans (h:Rch w P x y) (g:Rch w P y z):Rch w P x z:=by
 induction g with
 |refl=>exact h
 |step _ e n ih=>exact .step ih e n
theorem Rch.out (h:Rch w P x y) (n: ¬P x): ¬P y:=by
 cases h with
 |refl=>exact n
 |step _ _ m=>exact m
theorem Rch.symm (ok:gh ks w) (n: ¬P x) (h:Rch w P x y):Rch w P y x:=by
 induction h with
 |refl=>exact .refl
 |step h e m ih=>exact Rch.trans (.step .refl (ok.sym _ _ _ e) (h.out n)) ih
def KC (w:Wb) (P:Str->Prop) (x:Str):Prop:= ¬P x/\ ∀y,Rch w P x y-> ¬bQ y x
open Classical in
noncomputable def KD (w:Wb) (P:Str->Prop) (ks:List Str) (x:Str):List Str:=(fL ks).filter fun y=>decide (Rch w P x y)
open Classical in
noncomputable def uJ (w:Wb) (P:Str->Prop) (ks:List Str):List (List Str):=((fL ks).filter fun x=>decide (KC w P x)).map (KD w P ks)
theorem uK {x:Str}:x∈fL ks↔x∈ks:=(aV ks).mem_iff
section
variable {κ α β:Type} [DecidableEq κ]
theorem kS (q:κ->Bool) (k:κ): ∀ps:List (κ×α),aF (ps.filter fun p=>q p.1) k=if q k=true then aF ps k else none
 | []=>by simp[CI]
 |p::ps=>by
  rw[List.filter_cons]
  by_cases h:q p.1=true
  ·rw[if_pos h,aW,aW,kS q k ps]
   by_cases e:p.1=k
   ·subst e;simp[h]
   ·simp[e]
  ·rw[if_neg h,kS q k ps,aW]
   by_cases e:p.1=k
   ·subst e;simp[h]
   ·simp[e]
theorem v8 (f:α->β) (k:κ): ∀ps:List (κ×α),aF (ps.map fun p=>(p.1,f p.2)) k=(aF ps k).map f
 | []=>rfl
 |p::ps=>by
  rw[List.map_cons,aW,aW,v8 f k ps]
  by_cases e:p.1=k
  ·simp[e]
  ·simp[e]
end
def woB (w:Wb) (out:List Str):Wb:=⟨(w.l.filter fun p=> !decide (p.1∈out)).map fun p=>(p.1,⟨p.2.l.filter fun q=> !decide (q.1∈out)⟩)⟩
theorem Em (w:Wb) (out:List Str) (x:Str):aF (woB w out).l x=if x∈out then none else (aF w.l x).map fun r=>⟨r.l.filter fun q=> !decide (q.1∈out)⟩:=by
 unfold woB
 show aF ((w.l.filter fun p=> !decide (p.1∈out)).map fun p=>(p.1,(⟨p.2.l.filter fun q=> !decide (q.1∈out)⟩:Sd Int))) x=_
 rw[v8 (fun r:Sd Int=>(⟨r.l.filter fun q=> !decide (q.1∈out)⟩:Sd Int)),kS (fun k=> !decide (k∈out))]
 by_cases h:x∈out <;> simp[h]
theorem yZ (w:Wb) (out:List Str) (x:Str):mF (woB w out) x=if x∈out then [] else (mF w x).filter fun q=> !decide (q.1∈out):=by
 unfold mF
 rw[Em]
 by_cases h:x∈out
 ·simp[h]
 ·rw[if_neg h,if_neg h]
  cases aF w.l x <;> rfl
theorem AA (w:Wb) (out:List Str) (x y:Str):wk (woB w out) x y=if x∈out\/y∈out then none else wk w x y:=by
 unfold wk
 rw[yZ]
 by_cases h:x∈out
 ·rw[if_pos h,if_pos (.inl h)];rfl
 ·rw[if_neg h,kS (fun k=> !decide (k∈out))]
  by_cases g:y∈out <;> simp[h,g]
theorem Eo (w:Wb) (out:List Str):(woB w out).l.map (·.1)=(w.l.map (·.1)).filter fun x=> !decide (x∈out):=by
 unfold woB
 rw[List.map_map,List.filter_map]
 rfl
theorem gh.without (ok:gh ks w) (out:List Str):gh (ks.filter fun x=> !decide (x∈out)) (woB w out) where
 keys:=by rw[Eo,ok.keys]
 rows:=fun x=>by
  rw[yZ]
  split
  ·exact List.nodup_nil
  ·exact (ok.rows x).sublist ((List.filter_sublist).map _)
 sym:=fun x y v e=>by
  rw[AA] at e⊢
  split at e
  ·cases e
  ·rename_i q
   rw[if_neg (fun z=>q z.symm)];exact ok.sym _ _ _ e
 irr:=fun x=>by
  rw[AA]
  split
  ·rfl
  ·exact ok.irr x
 rng:=fun x y v e=>by
  rw[AA] at e
  split at e
  ·cases e
  ·exact ok.rng _ _ _ e
end
end Sw
namespace Sw
open PySem PySem.Spec PyProof.Rows L2
abbrev SR:=Str->Str->Prop
theorem jg {cs:List Str} (h:cs.Nodup) {i j:Nat} {hi:i<cs.length} {hj:j<cs.length} (e:cs[i]=cs[j]):i=j:=by
 rcases Nat.lt_trichotomy i j with c|c|c
 ·exact absurd e (List.pairwise_iff_getElem.mp h i j hi hj c)
 ·exact c
 ·exact absurd e.symm (List.pairwise_iff_getElem.mp h j i hj hi c)
structure kT (F:SR):Prop where
 symm: ∀{x y},F x y->F y x
 one: ∀{x y z},F x y->F x z->y=z
 irr: ∀{x},¬F x x
def own (P Q:List (Str×Str)):SR:=fun x y=>mt P x y/\ ¬mt Q x y
def alt (F S:SR) (i:Nat):SR:=if i%2=0 then F else S
section
variable {F S f g:SR} {cs ds:List Str} {a x y z:Str} {i j:Nat} {wd wd':Str}
theorem tI (hF:kT F) (hS:kT S) (i:Nat):kT (alt F S i):=by
 unfold alt;split <;> assumption
theorem AB (h:i%2=j%2):alt F S i=alt F S j:=by unfold alt;rw[h]
theorem Ep (h:alt F S i x y):F x y\/S x y:=by
 unfold alt at h;split at h
 ·exact .inl h
 ·exact .inr h
theorem Jl (i:Nat) (h:F x y\/S x y):alt F S i x y\/alt F S (i+1) x y:=by
 unfold alt
 by_cases c:i%2=0
 ·rw[if_pos c,if_neg (by omega)];exact h
 ·rw[if_neg c,if_pos (by omega)];exact h.symm
theorem jz (h:i%2=0):alt F S i=F:=if_pos h
theorem q7 (h:i%2=1):alt F S i=S:=if_neg (by omega)
def Walk (F S:SR) (cs:List Str):Prop:= ∀i (h:i+1<cs.length),alt F S i (cs[i]'(by omega)) cs[i+1]
theorem KG (hF:kT F) (hS:kT S) (nd:cs.Nodup) (hw:Walk F S cs) (hp:0<cs.length) (hy:alt F S (cs.length -1) (cs[cs.length -1]'(by omega)) y) (ne:y≠cs[0]):y∉cs:=fun m=>by
 obtain⟨j,hj,e⟩:=List.mem_iff_getElem.mp m
 have R:=tI hF hS (cs.length -1)
 have j0:0<j:=by
  rcases Nat.eq_zero_or_pos j with z|z
  ·subst z;exact absurd e.symm ne
  ·exact z
 subst e
 by_cases c:j%2=cs.length%2
 ·have h1:=hw (j -1) (by omega)
  rw[AB (j:=cs.length -1) (by omega)] at h1
  have h2:cs[j -1+1]'(by omega)=cs[j]:=by congr 1;omega
  rw[h2] at h1
  have:=R.one (R.symm h1) (R.symm hy)
  have:=jg nd this
  omega
 ·by_cases l:j=cs.length -1
  ·subst l;exact R.irr hy
  ·have h1:=hw j (by omega)
   rw[AB (j:=cs.length -1) (by omega)] at h1
   have:=R.one h1 (R.symm hy)
   have:=jg nd this
   omega
structure jt (F S:SR) (a:Str) (cs:List Str):Prop where
 pos:0<cs.length
 hd:cs[0]=a
 nd:cs.Nodup
 wk:Walk F S cs
 en:(¬ ∃y,alt F S (cs.length -1) (cs[cs.length -1]'(by omega)) y)\/alt F S (cs.length -1) (cs[cs.length -1]'(by omega)) a
theorem l8: ∀(cs:List Str) (i:Nat) (h:i+1<cs.length),(cs[i]'(by omega),cs[i+1])∈eds cs
 | [],_,h=>by simp at h
 | [_],_,h=>by simp at h
 |a::b::l,0,_=>List.mem_cons_self
 |a::b::l,i+1,h=>List.mem_cons_of_mem _ (l8 (b::l) i (by simpa using h))
theorem kU {e:Str×Str}: ∀{cs:List Str},e∈eds cs-> ∃(i:Nat) (h:i+1<cs.length),e=(cs[i]'(by omega),cs[i+1])
 | [],h=>by cases h
 | [_],h=>by cases h
 |a::b::l,h=>by
  rcases List.mem_cons.mp h with h|h
  ·exact⟨0,by simp,h⟩
  ·obtain⟨i,hi,e⟩:=kU h
   exact⟨i+1,by simpa using hi,e⟩
def edg (ring:Bool) (cs:List Str):List (Str×Str):=eds cs++if ring=true then (match cs.getLast?,cs.head? with|some l,some h=>[(l,h)]|_,_=>[]) else []
theorem BD (r:Bool) (cs:List Str):alo r cs=(edg r cs).map nP:=rfl
theorem xD (cs:List Str):edg false cs=eds cs:=List.append_nil _
theorem za (hp:0<cs.length):edg true cs=eds cs++[(cs[cs.length -1]'(by omega),cs[0])]:=by
 have h:cs≠[]:=List.length_pos_iff.mp hp
 unfold edg
 rw[List.getLast?_eq_some_getLast h,List.head?_eq_some_head h,List.getLast_eq_getElem,List.head_eq_getElem];rfl
theorem AD {r:Bool} {e:Str×Str} (h:e∈edg r cs):e.1∈cs/\e.2∈cs:=by
 cases r with
 |false=>rw[xD] at h;exact mG h
 |true=>
  have hp:0<cs.length:=by
   cases cs with
   |nil=>cases h
   |cons _ _=>simp
  rw[za hp] at h
  rcases List.mem_append.mp h with h|h
  ·exact mG h
  ·rw[List.mem_singleton.mp h];exact⟨List.getElem_mem _,List.getElem_mem _⟩
theorem jt.two (h:jt F S a cs) (hF:kT F) (ha: ∃y,F a y):2<=cs.length:=by
 have:=h.pos
 rcases Nat.lt_or_ge cs.length 2 with c|c
 ·have e:cs.length -1=0:=by omega
  have en:=h.en
  simp only[e,h.hd] at en
  rw[jz rfl] at en
  rcases en with en|en
  ·exact absurd ha en
  ·exact absurd en hF.irr
 ·exact c
theorem Walk.Er (hw:Walk F S cs) (hF:kT F) (hS:kT S) {i:Nat} (h:i<cs.length) (hy:F cs[i] y\/S cs[i] y):((cs[i],y)∈eds cs\/(y,cs[i])∈eds cs)\/(i=0/\S cs[i] y)\/(i=cs.length -1/\alt F S (cs.length -1) cs[i] y):=by
 rcases Jl i hy with q|q
 ·by_cases l:i+1<cs.length
  ·have:=(tI hF hS i).one (hw i l) q
   subst this
   exact .inl (.inl (l8 cs i l))
  ·have e:i=cs.length -1:=by omega
   refine .inr (.inr ⟨e,?_⟩)
   rw[<-e];exact q
 ·rcases Nat.eq_zero_or_pos i with z|z
  ·subst z
   exact .inr (.inl ⟨rfl,q⟩)
  ·have w:=hw (i -1) (by omega)
   have e1:cs[i -1+1]'(by omega)=cs[i]:=by congr 1;omega
   rw[AB (j:=i+1) (by omega),e1] at w
   have:=(tI hF hS (i+1)).one ((tI hF hS (i+1)).symm w) q
   subst this
   have:=l8 cs (i -1) (by omega)
   rw[e1] at this
   exact .inl (.inr this)
theorem jt.KH (h:jt F S a cs) (hF:kT F) (hS:kT S) (ha: ∃y,F a y) (hn: ¬ ∃y,S a y): ¬ ∃y,alt F S (cs.length -1) (cs[cs.length -1]'(by have:=h.pos;omega)) y:=by
 have h2:=h.two hF ha
 rcases h.en with q|q
 ·exact q
 ·exfalso
  by_cases c:(cs.length -1)%2=0
  ·rw[jz c] at q
   have w:=h.wk 0 (by omega)
   rw[jz rfl,h.hd] at w
   have:=hF.one w (hF.symm q)
   have:=jg h.nd this
   omega
  ·rw[q7 (by omega)] at q
   exact hn ⟨_,hS.symm q⟩
theorem jt.MF (h:jt F S a cs) (hF:kT F) (hS:kT S) (ha: ∃y,F a y) (hb: ∀x∈cs,(∃y,F x y)/\ ∃y,S x y):cs.length%2=0/\S (cs[cs.length -1]'(by have:=h.pos;omega)) a:=by
 have h2:=h.two hF ha
 have hb':=hb _ (List.getElem_mem (l:=cs) (n:=cs.length -1) (by omega))
 have q:alt F S (cs.length -1) (cs[cs.length -1]'(by omega)) a:=h.en.resolve_left fun n=>n (by
  unfold alt;split
  ·exact hb'.1
  ·exact hb'.2)
 by_cases c:(cs.length -1)%2=0
 ·rw[jz c] at q
  have w:=h.wk 0 (by omega)
  rw[jz rfl,h.hd] at w
  have:=hF.one w (hF.symm q)
  have:=jg h.nd this
  omega
 ·rw[q7 (by omega)] at q
  exact⟨by omega,q⟩
end
def isR (wd:Str):Bool:=decide (wd=("ring" :Str))
def bo (f g:SR) (x:Str):Prop:=(∃y,f x y)/\ ∃y,g x y
structure lR (f g:SR) (wd:Str) (cs:List Str):Prop where
 nd:cs.Nodup
 two:2<=cs.length
 adj: ∀x∈cs,∀y,(f x y\/g x y)->(x,y)∈edg (isR wd) cs\/(y,x)∈edg (isR wd) cs
 ed: ∀e∈edg (isR wd) cs,f e.1 e.2\/g e.1 e.2
 alo:(alo (isR wd) cs).Nodup
 wo:wd="row" \/wd="ring"
 row:wd="row" ->(¬bo f g (cs[0]'(by omega)))/\ ∀x∈cs,¬bo f g x-> ¬bQ x (cs[0]'(by omega))
 ring:wd="ring" -> ∀x∈cs,bo f g x/\ ¬bQ x (cs[0]'(by omega))
 lst:wd="row" -> ¬bo f g (cs[cs.length -1]'(by omega))
 ev:wd="ring" ->cs.length%2=0/\4<=cs.length
structure Prt (f g:SR) (wd:Str) (cs:List Str):Prop extends lR f g wd cs where
 w1:(∃y,f (cs[0]'(by omega)) y)->Walk f g cs
 w2:(¬ ∃y,f (cs[0]'(by omega)) y)->Walk g f cs
section
variable {F S f g:SR} {cs ds:List Str} {a x y z:Str} {i j:Nat} {wd wd':Str}
theorem l9:("row" :Str)≠"ring" :=by decide
theorem tJ:bo f g x↔bo g f x:=And.comm
theorem lR.swap (h:lR f g wd cs):lR g f wd cs where
 nd:=h.nd
 two:=h.two
 adj:=fun x hx y q=>h.adj x hx y q.symm
 ed:=fun e he=>(h.ed e he).symm
 alo:=h.alo
 wo:=h.wo
 row:=fun e=>⟨fun b=>(h.row e).1 (tJ.mp b),fun x hx n=>(h.row e).2 x hx fun b=>n (tJ.mp b)⟩
 ring:=fun e x hx=>⟨tJ.mp (h.ring e x hx).1,(h.ring e x hx).2⟩
 lst:=fun e b=>h.lst e (tJ.mp b)
 ev:=h.ev
theorem lR.closed (h:lR f g wd cs) (hx:x∈cs) (hy:f x y\/g x y):y∈cs:=by
 rcases h.adj x hx y hy with q|q
 ·exact (AD q).2
 ·exact (AD q).1
theorem GR {r:Bool} {e:Str×Str} (h:e∈eds cs):e∈edg r cs:=List.mem_append_left _ h
theorem conn (hs: ∀i (h:i+1<cs.length),f (cs[i]'(by omega)) cs[i+1]\/g (cs[i]'(by omega)) cs[i+1]) (hf:kT f) (hg:kT g) (C:Str->Prop) (hC: ∀x y,C x->(f x y\/g x y)->C y) (hx:x∈cs) (cx:C x): ∀z∈cs,C z:=by
 obtain⟨k,hk,e⟩:=List.mem_iff_getElem.mp hx
 subst e
 have up: ∀m (h:k+m<cs.length),C cs[k+m]:=fun m=>by
  induction m with
  |zero=>intro h;exact cx
  |succ m ih=>intro h;exact hC _ _ (ih (by omega)) (hs (k+m) h)
 have dn: ∀m (h:m<=k),C (cs[k -m]'(by omega)):=fun m=>by
  induction m with
  |zero=>intro h;exact cx
  |succ m ih=>
   intro h
   have q:=hs (k -(m+1)) (by omega)
   have e1:cs[k -(m+1)+1]'(by omega)=cs[k -m]'(by omega):=by congr 1;omega
   rw[e1] at q
   exact hC _ _ (ih (by omega)) (q.imp hf.symm hg.symm)
 intro z hz
 obtain⟨j,hj,e⟩:=List.mem_iff_getElem.mp hz
 subst e
 by_cases c:k<=j
 ·have:=up (j -k) (by omega)
  have e1:cs[k+(j -k)]'(by omega)=cs[j]:=by congr 1;omega
  rwa[e1] at this
 ·have:=dn (k -j) (by omega)
  have e1:cs[k -(k -j)]'(by omega)=cs[j]:=by congr 1;omega
  rwa[e1] at this
theorem lR.steps (h:lR f g wd cs): ∀i (h:i+1<cs.length),f (cs[i]'(by omega)) cs[i+1]\/g (cs[i]'(by omega)) cs[i+1]:=fun i hi=>h.ed _ (GR (l8 cs i hi))
theorem lR.Es (h:lR f g wd cs) (k:lR f g wd' ds) (hf:kT f) (hg:kT g) (h1:x∈cs) (h2:x∈ds) (z:Str):z∈cs↔z∈ds:=
 ⟨conn h.steps hf hg (fun z=>z∈ds) (fun _ _ c q=>k.closed c q) h1 h2 z,conn k.steps hf hg (fun z=>z∈cs) (fun _ _ c q=>h.closed c q) h2 h1 z⟩
theorem lR.Cm (h:lR f g wd cs) (k:lR f g wd' ds) (e: ∀z,z∈cs↔z∈ds):wd=wd'/\cs[0]'(by have:=h.two;omega)=ds[0]'(by have:=k.two;omega):=by
 have h2:=h.two
 have k2:=k.two
 have m1:cs[0]∈ds:=(e _).mp (List.getElem_mem _)
 have m2:ds[0]∈cs:=(e _).mpr (List.getElem_mem _)
 have tri: ¬bQ (cs[0]) (ds[0])-> ¬bQ (ds[0]) (cs[0])->cs[0]=ds[0]:=fun a b=>by
  rcases nJ (cs[0]) (ds[0]) with q|q|q
  ·exact absurd q a
  ·exact q
  ·exact absurd q b
 rcases h.wo with a|a <;> rcases k.wo with b|b
 ·exact⟨by rw[a,b],tri ((k.row b).2 _ m1 (h.row a).1) ((h.row a).2 _ m2 (k.row b).1)⟩
 ·exact absurd (k.ring b _ m1).1 (h.row a).1
 ·exact absurd (h.ring a _ m2).1 (k.row b).1
 ·exact⟨by rw[a,b],tri (k.ring b _ m1).2 (h.ring a _ m2).2⟩
theorem jt.row (h:jt F S a cs) (hF:kT F) (hS:kT S) (ha: ∃y,F a y) (hn: ¬ ∃y,S a y) (hl: ¬bQ (cs[cs.length -1]'(by have:=h.pos;omega)) a):lR F S "row" cs:=by
 have h2:=h.two hF ha
 have op:=h.KH hF hS ha hn
 have hr:isR "row" =false:=rfl
 exact {
  nd:=h.nd
  two:=h2
  adj:=fun x hx y q=>by
   rw[hr,xD]
   obtain⟨i,hi,e⟩:=List.mem_iff_getElem.mp hx
   subst e
   rcases h.wk.Er hF hS hi q with r|⟨r,t⟩|⟨r,t⟩
   ·exact r
   ·subst r;rw[h.hd] at t;exact absurd ⟨y,t⟩ hn
   ·subst r;exact absurd ⟨y,t⟩ op
  ed:=fun e he=>by
   rw[hr,xD] at he
   obtain⟨i,hi,e1⟩:=kU he
   subst e1
   exact Ep (h.wk i hi)
  alo:=by rw[hr,BC];exact (mH h.nd).1
  wo:=.inl rfl
  row:=fun _=>⟨by rw[h.hd];exact fun b=>hn b.2,fun x hx n=>by
   rw[h.hd]
   obtain⟨i,hi,e⟩:=List.mem_iff_getElem.mp hx
   subst e
   by_cases c0:i=0
   ·subst c0;rw[h.hd];exact cZ a
   by_cases c1:i=cs.length -1
   ·subst c1;exact hl
   refine absurd ?_ n
   have q1:=h.wk i (by omega)
   have q2:=h.wk (i -1) (by omega)
   have e1:cs[i -1+1]'(by omega)=cs[i]:=by congr 1;omega
   rw[e1] at q2
   by_cases p:i%2=0
   ·rw[jz p] at q1
    rw[q7 (by omega)] at q2
    exact⟨⟨_,q1⟩,⟨_,hS.symm q2⟩⟩
   ·rw[q7 (by omega)] at q1
    rw[jz (by omega)] at q2
    exact⟨⟨_,hF.symm q2⟩,⟨_,q1⟩⟩⟩
  ring:=fun e=>absurd e l9
  lst:=fun _ b=>op (by
   unfold alt;split
   ·exact b.1
   ·exact b.2)
  ev:=fun e=>absurd e l9}
theorem jt.ring (h:jt F S a cs) (hF:kT F) (hS:kT S) (hd: ∀x y,F x y-> ¬S x y) (ha: ∃y,F a y) (hb: ∀x∈cs,(∃y,F x y)/\ ∃y,S x y) (hl: ∀x∈cs,¬bQ x a):lR F S "ring" cs:=by
 have h2:=h.two hF ha
 obtain⟨ev,cl⟩:=h.MF hF hS ha hb
 have hr:isR "ring" =true:=rfl
 have ee:edg true cs=eds cs++[(cs[cs.length -1]'(by omega),a)]:=by rw[za (by omega),h.hd]
 have h4:4<=cs.length:=by
  rcases Nat.lt_or_ge cs.length 4 with c|c
  ·have e:cs.length=2:=by omega
   exfalso
   have w:=h.wk 0 (by omega)
   rw[jz rfl,h.hd] at w
   have:cs[cs.length -1]'(by omega)=cs[0+1]'(by omega):=by congr 1;omega
   rw[this] at cl
   exact hd _ _ w (hS.symm cl)
  ·exact c
 have la:cs[cs.length -1]'(by omega)≠a:=fun e=>by
  rw[<-h.hd] at e
  have:=jg h.nd e
  omega
 exact {
  nd:=h.nd
  two:=h2
  adj:=fun x hx y q=>by
   rw[hr,ee]
   obtain⟨i,hi,e⟩:=List.mem_iff_getElem.mp hx
   subst e
   rcases h.wk.Er hF hS hi q with r|⟨r,t⟩|⟨r,t⟩
   ·exact r.imp (List.mem_append_left _) (List.mem_append_left _)
   ·subst r
    rw[h.hd] at t⊢
    have:=hS.one t (hS.symm cl)
    subst this
    exact .inr (List.mem_append_right _ List.mem_cons_self)
   ·subst r
    rw[q7 (by omega)] at t
    have:=hS.one t cl
    subst this
    exact .inl (List.mem_append_right _ List.mem_cons_self)
  ed:=fun e he=>by
   rw[hr,ee] at he
   rcases List.mem_append.mp he with he|he
   ·obtain⟨i,hi,e1⟩:=kU he
    subst e1
    exact Ep (h.wk i hi)
   ·rw[List.mem_singleton.mp he];exact .inr cl
  alo:=by
   rw[hr,BD,ee,List.map_append]
   obtain⟨n1,n2⟩:=mH h.nd
   refine List.nodup_append.mpr ⟨n1,by simp,fun p hp q hq e=> ?_⟩
   subst e
   have hq:p=nP (cs[cs.length -1]'(by omega),a):=by simpa using hq
   obtain⟨e,he,q⟩:=List.mem_map.mp hp
   rw[hq] at q
   have t1:cs[cs.length -1]'(by omega)=e.1\/cs[cs.length -1]'(by omega)=e.2:=by
    rw[<-kO (n2 e he),q,kO (e:=(cs[cs.length -1]'(by omega),a)) la];exact .inl rfl
   have t2:a=e.1\/a=e.2:=by
    rw[<-kO (n2 e he),q,kO (e:=(cs[cs.length -1]'(by omega),a)) la];exact .inr rfl
   obtain⟨i,hi,e1⟩:=kU he
   subst e1
   rw[<-h.hd] at t2
   have k1:cs.length -1=i\/cs.length -1=i+1:=t1.imp (fun t=>jg h.nd t) (fun t=>jg h.nd t)
   have k2:0=i\/0=i+1:=t2.imp (fun t=>jg h.nd t) (fun t=>jg h.nd t)
   omega
  wo:=.inr rfl
  row:=fun e=>absurd e.symm l9
  ring:=fun _ x hx=>⟨hb x hx,by rw[h.hd];exact hl x hx⟩
  lst:=fun e=>absurd e.symm l9
  ev:=fun _=>⟨ev,h4⟩}
end
end Sw
namespace Sw
open PySem PySem.Spec PyProof.Rows L2
section
variable {w:Wb} {P Q:List (Str×Str)} {S cs:List Str} {wd x y:Str} {q:Str×Str}
theorem Et (hP:Plan w P) (hQ:Plan w Q) (h:q∈P) (n:q∉Q):own P Q q.1 q.2:=
 ⟨.inl h,fun m=>m.elim n fun m=>pB (hP.lt _ h) (hQ.lt _ m)⟩
theorem Eu (hP:Plan w P) (hQ:Plan w Q) {e:Str×Str} (h:own P Q e.1 e.2):nP e∈P/\nP e∉Q:=by
 have ne:=uG hP h.1
 rw[sx hP ne,sx hQ ne]
 exact h
theorem lR.mem (hP:Plan w P) (hQ:Plan w Q) (h:lR (own P Q) (own Q P) wd cs) (q:Str×Str):q∈Sw.alo (isR wd) cs↔((q∈P/\q∉Q)\/(q∈Q/\q∉P))/\q.1∈cs:=by
 rw[BD,List.mem_map]
 constructor
 ·rintro⟨e,he,rfl⟩
  have hi:=AD he
  have ne:e.1≠e.2:=by
   rcases h.ed e he with o|o
   ·exact uG hP o.1
   ·exact uG hQ o.1
  refine⟨(h.ed e he).imp (Eu hP hQ) (Eu hQ hP),?_⟩
  rcases (kO (e:=e) ne (x:=(nP e).1)).mp (.inl rfl) with t|t
  ·rw[t];exact hi.1
  ·rw[t];exact hi.2
 ·rintro⟨h1,h2⟩
  have lt:bQ q.1 q.2:=h1.elim (fun r=>hP.lt _ r.1) (fun r=>hQ.lt _ r.1)
  have o:own P Q q.1 q.2\/own Q P q.1 q.2:=h1.imp (fun r=>Et hP hQ r.1 r.2) (fun r=>Et hQ hP r.1 r.2)
  rcases h.adj _ h2 _ o with r|r
  ·exact⟨_,r,uF lt⟩
  ·exact⟨_,r,by rw[tH];exact uF lt⟩
def xE (P Q:List (Str×Str)) (S:List Str):Prop:= ∀x∈S,∀y,(own P Q x y\/own Q P x y)->y∈S
theorem xE.swap (h:xE P Q S):xE Q P S:=fun x hx y o=>h x hx y o.symm
theorem xE.nil:xE P Q []:=fun x hx=>by cases hx
theorem xE.app (h:xE P Q S) {T:List Str} (k:xE P Q T):xE P Q (S++T):=fun x hx y o=>by
 rcases List.mem_append.mp hx with hx|hx
 ·exact List.mem_append_left _ (h x hx y o)
 ·exact List.mem_append_right _ (k x hx y o)
end
abbrev Pt:=Str×List Str
structure xF (f g:SR) (L:List Pt):Prop where
 ok: ∀p∈L,Prt f g p.1 p.2
 dis:L.Pairwise fun p q=> ∀x∈p.2,x∉q.2
structure Pts (f g:SR) (L:List Pt):Prop extends xF f g L where
 all: ∀x,((∃y,f x y)\/ ∃y,g x y)-> ∃p∈L,x∈p.2
section
variable {f g:SR} {L M:List Pt} {w:Wb} {P Q:List (Str×Str)}
theorem xF.sub (h:xF f g L) (s:List.Sublist M L):xF f g M:=⟨fun p hp=>h.ok p (s.subset hp),h.dis.sublist s⟩
theorem Ew {p q:Pt} (h: ∀x∈p.2,x∉q.2): ∀x∈q.2,x∉p.2:=fun x a b=>h x b a
theorem xF.perm (h:xF f g L) (s:L.Perm M):xF f g M:=⟨fun p hp=>h.ok p (s.mem_iff.mpr hp),(List.Perm.pairwise_iff (R:=fun(p q:Pt)=> ∀x∈p.2,x∉q.2) (fun h=>Ew h) s).mp h.dis⟩
theorem Pts.perm (h:Pts f g L) (s:L.Perm M):Pts f g M:=⟨h.toxF.perm s,fun x hx=>by
 obtain⟨p,hp,q⟩:=h.all x hx
 exact⟨p,s.mem_iff.mp hp,q⟩⟩
theorem lR.GS {wd:Str} {cs:List Str} (h:lR f g wd cs):cs[0]'(by have:=h.two;omega)∈cs:=List.getElem_mem _
theorem lR.Ex {wd:Str} {cs:List Str} (h:lR f g wd cs):(∃y,f (cs[0]'(by have:=h.two;omega)) y)\/ ∃y,g (cs[0]'(by have:=h.two;omega)) y:=by
 have:=h.two
 rcases h.steps 0 (by omega) with q|q
 ·exact .inl ⟨_,q⟩
 ·exact .inr ⟨_,q⟩
def hdP (p:Pt):Str:=p.2.headD ""
theorem xG {p:Pt} (h:2<=p.2.length):hdP p=p.2[0]'(by omega):=by
 obtain⟨wd,cs⟩:=p
 cases cs with
 |nil=>simp at h
 |cons a l=>rfl
theorem xF.heads (h:xF f g L):(L.map hdP).Nodup:=by
 refine List.pairwise_map.mpr ((h.dis.imp_of_mem fun {p q} hp hq d e=> ?_))
 have h1:=(h.ok p hp).two
 have h2:=(h.ok q hq).two
 rw[xG h1,xG h2] at e
 have m:p.2[0]'(by omega)∈q.2:=by rw[e];exact List.getElem_mem _
 exact d _ (List.getElem_mem _) m
theorem Pts.Ey (hf:kT f) (hg:kT g) (h:Pts f g L) (k:Pts g f M):L.length<=M.length:=by
 have:=List.Nodup.length_le_of_subset h.toxF.heads (l₂:=M.map hdP) fun x hx=>by
  obtain⟨p,hp,e⟩:=List.mem_map.mp hx
  subst e
  have hk:=(h.ok p hp).tolR
  obtain⟨m,hm,mx⟩:=k.all _ hk.Ex.symm
  have km:=(k.ok m hm).tolR.swap
  obtain⟨_,e⟩:=hk.Cm km (hk.Es km hf hg hk.GS mx)
  rw[xG hk.two,e,←xG km.two]
  exact List.mem_map_of_mem hm
 simpa using this
theorem Pts.len (hf:kT f) (hg:kT g) (h:Pts f g L) (k:Pts g f M):L.length=M.length:=
 Nat.le_antisymm (h.Ey hf hg k) (k.Ey hg hf h)
end
end Sw
namespace Sw
open PySem PySem.Spec PyProof.Rows L2
class jd (A:Type) [En A] [So A]:Prop where
 irr: ∀a:A,So.lt a a=false
 tr: ∀a b c:A,So.lt a b=true->So.lt b c=true->So.lt a c=true
 tri: ∀a b:A,So.lt a b=true\/a=b\/So.lt b a=true
instance linStr:jd Str where
 irr a:=decide_eq_false (cZ a)
 tr a b c h g:=decide_eq_true (mX (of_decide_eq_true h) (of_decide_eq_true g))
 tri a b:=by
  rcases nJ a b with h|h|h
  ·exact .inl (decide_eq_true h)
  ·exact .inr (.inl h)
  ·exact .inr (.inr (decide_eq_true h))
instance linInt:jd Int where
 irr a:=decide_eq_false (by omega)
 tr a b c h g:=decide_eq_true (by have:=of_decide_eq_true h;have:=of_decide_eq_true g;omega)
 tri a b:=by
  rcases Int.lt_trichotomy a b with h|h|h
  ·exact .inl (decide_eq_true h)
  ·exact .inr (.inl h)
  ·exact .inr (.inr (decide_eq_true h))
section
variable {A B:Type} [En A] [So A] [En B] [So B]
theorem xH {p:Prop} {d:Decidable p} {a b:Bool}:(@ite _ p d a b=true)↔(p/\a=true)\/(¬p/\b=true):=by
 cases d with
 |isTrue h=>rw[if_pos h];simp[h]
 |isFalse h=>rw[if_neg h];simp[h]
theorem pair_lt (p q:A×B):So.lt p q=true↔So.lt p.1 q.1=true/\p.1≠q.1\/p.1=q.1/\p.2≠q.2/\So.lt p.2 q.2=true:=by
 show (@ite _ (p.1=q.1) (So.dec p.1 q.1) (@ite _ (p.2=q.2) (So.dec p.2 q.2) false (So.lt p.2 q.2)) (So.lt p.1 q.1))=true↔_
 rw[xH,xH]
 constructor
 ·rintro (⟨h,⟨_,g⟩|⟨g,k⟩⟩|⟨h,g⟩)
  ·cases g
  ·exact .inr ⟨h,g,k⟩
  ·exact .inl ⟨g,h⟩
 ·rintro (⟨h,g⟩|⟨h,g,k⟩)
  ·exact .inr ⟨g,h⟩
  ·exact .inl ⟨h,.inr ⟨g,k⟩⟩
theorem nV [jd A] {a b:A} (h:So.lt a b=true):a≠b:=fun e=>by
 rw[e,jd.irr] at h;cases h
instance linPair [jd A] [jd B]:jd (A×B) where
 irr p:=Bool.eq_false_iff.mpr fun h=>by
  rcases (pair_lt p p).mp h with ⟨_,g⟩|⟨_,g,_⟩ <;> exact g rfl
 tr p q r h g:=by
  rw[pair_lt] at h g⊢
  rcases h with ⟨h,h'⟩|⟨h,h',h''⟩ <;> rcases g with ⟨g,g'⟩|⟨g,g',g''⟩
  ·have:=jd.tr _ _ _ h g;exact .inl ⟨this,nV this⟩
  ·rw[<-g];exact .inl ⟨h,h'⟩
  ·rw[h];exact .inl ⟨g,g'⟩
  ·have:=jd.tr _ _ _ h'' g'';exact .inr ⟨h.trans g,nV this,this⟩
 tri p q:=by
  rw[pair_lt,pair_lt]
  rcases jd.tri p.1 q.1 with h|h|h
  ·exact .inl (.inl ⟨h,nV h⟩)
  ·rcases jd.tri p.2 q.2 with g|g|g
   ·exact .inl (.inr ⟨h,nV g,g⟩)
   ·exact .inr (.inl (Prod.ext h g))
   ·exact .inr (.inr (.inr ⟨h.symm,nV g,g⟩))
  ·exact .inr (.inr (.inl ⟨h,nV h⟩))
theorem nW (a b:A) (xs ys:List A):oB (a::xs) (b::ys)=true↔(a=b/\oB xs ys=true)\/(a≠b/\So.lt a b=true):=xH
theorem v9 [jd A]: ∀xs:List A,oB xs xs=false
 | []=>rfl
 |a::xs=>Bool.eq_false_iff.mpr fun h=>by
  rcases (nW a a xs xs).mp h with ⟨_,g⟩|⟨g,_⟩
  ·rw[v9 xs] at g;cases g
  ·exact g rfl
theorem zd [jd A]: ∀xs ys zs:List A,oB xs ys=true->oB ys zs=true->oB xs zs=true
 | [],[],_,h,_=>by cases h
 | [],_::_,[],_,g=>by cases g
 | [],_::_,_::_,_,_=>rfl
 |_::_,[],_,h,_=>by cases h
 |_::_,_::_,[],_,g=>by cases g
 |a::xs,b::ys,c::zs,h,g=>by
  rw[nW] at h g⊢
  rcases h with ⟨h,h'⟩|⟨h,h'⟩ <;> rcases g with ⟨g,g'⟩|⟨g,g'⟩
  ·exact .inl ⟨h.trans g,zd xs ys zs h' g'⟩
  ·rw[h];exact .inr ⟨g,g'⟩
  ·rw[<-g];exact .inr ⟨h,h'⟩
  ·have:=jd.tr _ _ _ h' g';exact .inr ⟨nV this,this⟩
theorem wb [jd A]: ∀xs ys:List A,oB xs ys=true\/xs=ys\/oB ys xs=true
 | [],[]=>.inr (.inl rfl)
 | [],_::_=>.inl rfl
 |_::_,[]=>.inr (.inr rfl)
 |a::xs,b::ys=>by
  rw[nW,nW]
  rcases jd.tri a b with h|h|h
  ·exact .inl (.inr ⟨nV h,h⟩)
  ·rcases wb xs ys with g|g|g
   ·exact .inl (.inl ⟨h,g⟩)
   ·exact .inr (.inl (by rw[h,g]))
   ·exact .inr (.inr (.inl ⟨h.symm,g⟩))
  ·exact .inr (.inr (.inr ⟨nV h,h⟩))
instance linList [jd A]:jd (List A):=⟨v9,zd,wb⟩
end
end Sw
namespace Sw
open PySem PySem.Spec PyProof.Rows L2
def MG (c k:Int):Int:=
 let n:=(c%2147483647+7919*k+1)*48271%2147483647
 let m:=(n*n+k)%2147483629
 m*m%2147483587
def at2 (c:Int):Int:=MG c 9%6
end Sw
namespace Sw
open PySem PySem.Spec PyProof.Rows L2
inductive F2 {α β:Type} (R:α->β->Prop):List α->List β->Prop where
 |nil:F2 R [] []
 |cons {a b xs ys}:R a b->F2 R xs ys->F2 R (a::xs) (b::ys)
def KM:Nat->aE->List Str->Prop
 |0,_,_=>False
 |_+1,.single c,ms=>ms=[c]
 |n+1,.group r _,ms=> ∃rs,F2 (KM n) r rs/\ms=fL rs.flatten
structure Kt where
 k:aE
 b:Str
 ms:List Str
def nx (n j:Nat):Nat:=if j+1=n then 0 else j+1
def off (n p j:Nat):Nat:=if p<=j then j -p else j+n -p
theorem Ez {n j:Nat} (h:j+1=n):nx n j=0:=if_pos h
theorem xI {n j:Nat} (h:j+1≠n):nx n j=j+1:=if_neg h
theorem iV {n p j:Nat} (h:p<=j):off n p j=j -p:=if_pos h
theorem mI {n p j:Nat} (h:j<p):off n p j=j+n -p:=if_neg (by omega)
theorem HI {n j:Nat} (h:j<n):nx n j<n:=by unfold nx;split <;> omega
theorem AE {n p j:Nat} (hp:p<n) (h:j<n):off n p j<n:=by unfold off;split <;> omega
theorem EA {n p j:Nat} (hp:p<n) (h:j<n) (h1:off n p j+1<n):off n p (nx n j)=off n p j+1:=by
 by_cases e:j+1=n
 ·rw[Ez e]
  by_cases l:p<=j
  ·rw[iV l] at h1⊢
   rw[mI (by omega)];omega
  ·omega
 ·rw[xI e]
  by_cases l:p<=j
  ·rw[iV l] at h1⊢
   rw[iV (by omega)];omega
  ·rw[mI (by omega)] at h1⊢
   by_cases l2:p<=j+1
   ·omega
   ·rw[mI (by omega)];omega
theorem EB {n p j:Nat} (hp:p<n) (h:j<n) (h1:0<off n p (nx n j)):off n p j+1=off n p (nx n j):=by
 by_cases e:j+1=n
 ·rw[Ez e] at h1⊢
  by_cases l:p<=j
  ·rw[iV l]
   by_cases l0:p=0
   ·rw[iV (by omega)] at h1;omega
   ·rw[mI (by omega)];omega
  ·omega
 ·rw[xI e] at h1⊢
  by_cases l:p<=j
  ·rw[iV l,iV (by omega)];omega
  ·by_cases l2:p<=j+1
   ·rw[iV l2] at h1;omega
   ·rw[mI (by omega),mI (by omega)];omega
theorem BE {n p i j:Nat} (hp:p<n) (hi:i<n) (hj:j<n) (h:off n p i=off n p j):i=j:=by
 by_cases a:p<=i <;> by_cases b:p<=j
 ·rw[iV a,iV b] at h;omega
 ·rw[iV a,mI (by omega)] at h;omega
 ·rw[mI (by omega),iV b] at h;omega
 ·rw[mI (by omega),mI (by omega)] at h;omega
theorem we (n p:Nat):off n p p=0:=by rw[iV (Nat.le_refl _)];omega
structure gj (m:Str->Option Str) (t:List Kt) (p:Nat) (l:List (Str×Str)):Prop where
 lead:p<t.length
 odd:t.length%2=1
 nd:(t.map (·.ms)).flatten.Nodup
 len:l.length=t.length
 link: ∀j x y a,j<t.length->t[j]? =some x->t[nx t.length j]? =some y->l[j]? =some a->(off t.length p j%2=1->a=(x.b,y.b)/\m x.b=some y.b/\m y.b=some x.b)/\a.1∈x.ms/\a.2∈y.ms
 three:3<=t.length
def KB (m:Str->Option Str):Nat->aE->Str->List Str->Prop
 |0,_,_,_=>False
 |_+1,.single c,b,ms=>b=c/\ms=[c]
 |n+1,.group r l,b,ms=> ∃(t:List Kt) (p:Nat),gj m t p l/\r=t.map (·.k)/\(∀x∈t,KB m n x.k x.b x.ms)/\ms=fL (t.map (·.ms)).flatten/\t[p]?.map (·.b)=some b
def KL (L:List (Str×Str)):Nat->aE->Prop
 |0,_=>False
 |_+1,.single _=>True
 |n+1,.group r l=>(∀q∈l,q∈L)/\ ∀k∈r,KL L n k
theorem KL.up {L:List (Str×Str)}: ∀{n:Nat} {k:aE},KL L n k->KL L (n+1) k
 |0,_,h=>h.elim
 |n+1,.single c,h=>h
 |n+1,.group r l,h=>⟨h.1,fun k hk=>(h.2 k hk).up⟩
theorem KL.mono {L:List (Str×Str)} {n N:Nat} {k:aE} (h:KL L n k) (e:n<=N):KL L N k:=by
 induction e with
 |refl=>exact h
 |step _ ih=>exact ih.up
theorem KL.sub {L L':List (Str×Str)} (s: ∀q∈L,q∈L'): ∀{n:Nat} {k:aE},KL L n k->KL L' n k
 |0,_,h=>h.elim
 |n+1,.single c,h=>h
 |n+1,.group r l,h=>⟨fun q hq=>s q (h.1 q hq),fun k hk=>(h.2 k hk).sub s⟩
theorem sA {α β:Type} {R S:α->β->Prop} (h: ∀a b,R a b->S a b): ∀{xs:List α} {ys:List β},F2 R xs ys->F2 S xs ys
 |_,_,.nil=>.nil
 |_,_,.cons a r=>.cons (h _ _ a) (sA h r)
theorem KM.up: ∀{n:Nat} {k:aE} {ms:List Str},KM n k ms->KM (n+1) k ms
 |0,_,_,h=>h.elim
 |n+1,.single c,_,h=>h
 |n+1,.group r l,_,⟨rs,h1,h2⟩=>⟨rs,sA (fun _ _=>KM.up) h1,h2⟩
theorem KM.mono {n N:Nat} {k:aE} {ms:List Str} (h:KM n k ms) (e:n<=N):KM N k ms:=by
 induction e with
 |refl=>exact h
 |step _ ih=>exact ih.up
theorem KB.up {m:Str->Option Str}: ∀{n:Nat} {k:aE} {b:Str} {ms:List Str},KB m n k b ms->KB m (n+1) k b ms
 |0,_,_,_,h=>h.elim
 |n+1,.single c,_,_,h=>h
 |n+1,.group r l,_,_,⟨t,p,h1,h2,h3,h4⟩=>⟨t,p,h1,h2,fun x hx=>(h3 x hx).up,h4⟩
theorem KB.mono {m:Str->Option Str} {n N:Nat} {k:aE} {b:Str} {ms:List Str} (h:KB m n k b ms) (e:n<=N):KB m N k b ms:=by
 induction e with
 |refl=>exact h
 |step _ ih=>exact ih.up
theorem nX {α β γ:Type} {R:β->γ->Prop} {f:α->β} {g:α->γ}: ∀{xs:List α},(∀x∈xs,R (f x) (g x))->F2 R (xs.map f) (xs.map g)
 | [],_=>.nil
 |x::xs,h=>.cons (h x List.mem_cons_self) (nX fun y hy=>h y (List.mem_cons_of_mem _ hy))
theorem KB.km {m:Str->Option Str}: ∀{n:Nat} {k:aE} {b:Str} {ms:List Str},KB m n k b ms->KM n k ms
 |0,_,_,_,h=>h.elim
 |n+1,.single c,_,_,h=>h.2
 |n+1,.group r l,_,_,⟨t,p,h1,h2,h3,h4,_⟩=>⟨t.map (·.ms),h2▸nX fun x hx=>(h3 x hx).km,h4⟩
theorem ck {t:List Kt} {c:Str}:c∈(t.map (·.ms)).flatten↔ ∃x∈t,c∈x.ms:=by
 rw[List.mem_flatten]
 constructor
 ·rintro⟨l,h1,h2⟩
  obtain⟨x,hx,rfl⟩:=List.mem_map.mp h1
  exact⟨x,hx,h2⟩
 ·rintro⟨x,hx,h⟩
  exact⟨x.ms,List.mem_map_of_mem hx,h⟩
theorem dF {t:List Kt} (nd:(t.map (·.ms)).flatten.Nodup) {i j:Nat} {x y:Kt} (hx:t[i]? =some x) (hy:t[j]? =some y) {c:Str} (h1:c∈x.ms) (h2:c∈y.ms):i=j:=by
 induction t generalizing i j with
 |nil=>cases hx
 |cons z t ih=>
  rw[List.map_cons,List.flatten_cons,List.nodup_append] at nd
  obtain⟨n1,n2,n3⟩:=nd
  cases i with
  |zero=>
   cases j with
   |zero=>rfl
   |succ j=>
    cases hx
    exact absurd rfl (n3 c h1 c (ck.mpr ⟨y,List.mem_of_getElem? hy,h2⟩))
  |succ i=>
   cases j with
   |zero=>
    cases hy
    exact absurd rfl (n3 c h2 c (ck.mpr ⟨x,List.mem_of_getElem? hx,h1⟩))
   |succ j=>rw[ih n2 hx hy]
section
variable {m m':Str->Option Str} {n:Nat} {k:aE} {b c:Str} {ms:List Str}
theorem KB.base: ∀{n:Nat} {k:aE} {b:Str} {ms:List Str},KB m n k b ms->b∈ms
 |0,_,_,_,h=>h.elim
 |n+1,.single c,_,_,h=>by rw[h.1,h.2];exact List.mem_singleton_self _
 |n+1,.group r l,b,_,⟨t,p,h1,h2,h3,h4,h5⟩=>by
  subst h4
  obtain⟨x,e1,e2⟩:=Option.map_eq_some_iff.mp h5
  have hx:=List.mem_of_getElem? e1
  rw[(aV _).mem_iff,ck]
  exact⟨x,hx,e2▸(h3 x hx).base⟩
theorem KB.rise: ∀{n:Nat} {k:aE} {b:Str} {ms:List Str},KB m n k b ms->ms.Pairwise bQ
 |0,_,_,_,h=>h.elim
 |n+1,.single c,_,_,h=>by rw[h.2];exact List.pairwise_singleton _ _
 |n+1,.group r l,b,_,⟨t,p,h1,h2,h3,h4,h5⟩=>h4▸tG h1.nd
theorem KB.nodup (h:KB m n k b ms):ms.Nodup:=List.nodup_iff_pairwise_ne.mpr (h.rise.imp fun {a b} l (e:a=b)=>cZ a (by subst e;exact l))
theorem gj.at_ {t:List Kt} {p:Nat} {l:List (Str×Str)} (h:gj m t p l) {j:Nat} (hj:j<t.length): ∃x y a,t[j]? =some x/\t[nx t.length j]? =some y/\l[j]? =some a:=
 ⟨_,_,_,List.getElem?_eq_getElem hj,List.getElem?_eq_getElem (HI hj),List.getElem?_eq_getElem (by rw[h.len];exact hj)⟩
theorem gj.Cp {t:List Kt} {p:Nat} {l:List (Str×Str)} (h:gj m t p l) {j:Nat} {x:Kt} (hj:t[j]? =some x) (hp:j≠p): ∃(i:Nat) (y:Kt),t[i]? =some y/\m x.b=some y.b:=by
 have jl:j<t.length:=(List.getElem?_eq_some_iff.mp hj).1
 have pl:=h.lead
 by_cases o:off t.length p j%2=1
 ·obtain⟨x',y,a,e1,e2,e3⟩:=h.at_ jl
  rw[hj] at e1;cases e1
  exact⟨_,y,e2,((h.link j x y a jl hj e2 e3).1 o).2.1⟩
 ·have o0:0<off t.length p j:=by
   rcases Nat.eq_zero_or_pos (off t.length p j) with e|e
   ·exact absurd (BE pl jl pl (e.trans (we _ _).symm)) hp
   ·exact e
  have ol:=AE pl jl
  obtain⟨i,hi,e⟩: ∃i,i<t.length/\nx t.length i=j:=by
   by_cases j0:j=0
   ·exact⟨t.length -1,by omega,by unfold nx;rw[if_pos (by omega)];exact j0.symm⟩
   ·exact⟨j -1,by omega,by unfold nx;rw[if_neg (by omega)];omega⟩
  have oi:off t.length p i+1=off t.length p j:=by
   subst e
   exact EB pl hi o0
  obtain⟨x',y,a,e1,e2,e3⟩:=h.at_ hi
  rw[e,hj] at e2;cases e2
  exact⟨i,x',e1,((h.link i x' x a hi e1 (e▸hj) e3).1 (by omega)).2.2⟩
theorem KB.Cp: ∀{n:Nat} {k:aE} {b:Str} {ms:List Str},KB m n k b ms-> ∀c∈ms,c≠b-> ∃d∈ms,m c=some d
 |0,_,_,_,h,_,_,_=>h.elim
 |n+1,.single c,_,_,h,d,hd,ne=>by
  rw[h.2] at hd
  exact absurd ((List.mem_singleton.mp hd).trans h.1.symm) ne
 |n+1,.group r l,b,_,⟨t,p,h1,h2,h3,h4,h5⟩,c,hc,ne=>by
  subst h4
  rw[(aV _).mem_iff,ck] at hc
  obtain⟨x,hx,cx⟩:=hc
  by_cases e:c=x.b
  ·obtain⟨j,hj⟩:=List.getElem?_of_mem hx
   have jp:j≠p:=fun e2=>ne (by
    subst e2
    rw[hj] at h5
    exact e.trans (Option.some.inj h5))
   obtain⟨i,y,hy,my⟩:=h1.Cp hj jp
   refine⟨y.b,?_,e▸my⟩
   rw[(aV _).mem_iff,ck]
   exact⟨y,List.mem_of_getElem? hy,(h3 y (List.mem_of_getElem? hy)).base⟩
  ·obtain⟨d,hd,md⟩:=(h3 x hx).Cp c cx e
   refine⟨d,?_,md⟩
   rw[(aV _).mem_iff,ck]
   exact⟨x,hx,hd⟩
theorem KB.congr: ∀{n:Nat} {k:aE} {b:Str} {ms:List Str},KB m n k b ms->(∀c∈ms,c≠b->m' c=m c)->KB m' n k b ms
 |0,_,_,_,h,_=>h.elim
 |n+1,.single c,_,_,h,_=>h
 |n+1,.group r l,b,_,⟨t,p,h1,h2,h3,h4,h5⟩,he=>by
  subst h4
  obtain⟨z,z1,z2⟩:=Option.map_eq_some_iff.mp h5
  have hs: ∀x∈t,∀c∈x.ms,c≠b->m' c=m c:=fun x hx c hc ne=>he c (by rw[(aV _).mem_iff,ck];exact⟨x,hx,hc⟩) ne
  have nb: ∀j x,t[j]? =some x->j≠p->b∉x.ms:=fun j x hj jp hb=>jp (dF h1.nd hj z1 hb (z2▸(h3 z (List.mem_of_getElem? z1)).base))
  refine⟨t,p,⟨h1.lead,h1.odd,h1.nd,h1.len,fun j x y a hj hx hy ha=>⟨fun o=> ?_,(h1.link j x y a hj hx hy ha).2⟩,h1.three⟩,h2,fun x hx=>(h3 x hx).congr fun c hc ne=> ?_,rfl,h5⟩
  ·obtain⟨e1,e2,e3⟩:=(h1.link j x y a hj hx hy ha).1 o
   have ol:=AE h1.lead hj
   have odd:=h1.odd
   have o1:=EA h1.lead hj (by omega)
   have jx:j≠p:=fun e=>by rw[e,we] at o;omega
   have jy:nx t.length j≠p:=fun e=>by rw[e,we] at o1;omega
   have bx:=(h3 x (List.mem_of_getElem? hx)).base
   have by':=(h3 y (List.mem_of_getElem? hy)).base
   refine⟨e1,?_,?_⟩
   ·rw[hs x (List.mem_of_getElem? hx) _ bx fun e=>nb j x hx jx (e▸bx)];exact e2
   ·rw[hs y (List.mem_of_getElem? hy) _ by' fun e=>nb _ y hy jy (e▸by')];exact e3
  ·by_cases e:c=b
   ·obtain⟨j,hj⟩:=List.getElem?_of_mem hx
    by_cases jp:j=p
    ·subst jp
     rw[hj] at z1;cases z1
     exact absurd (e.trans z2.symm) ne
    ·exact absurd (e▸hc) (nb j x hj jp)
   ·exact hs x hx c hc e
end
end Sw
namespace Sw
open PySem PySem.Spec PyProof.Rows L2
def gK (u:Sd RV):aE:=match aF u.l "knot" with
 |some (.k x)=>x
 |_=>.single ""
def gB (u:Sd RV):Str:=match aF u.l "base" with
 |some (.s x)=>x
 |_=>""
def gM (u:Sd RV):List Str:=match aF u.l "all" with
 |some (.ls x)=>x
 |_=>[]
def gL (u:Sd RV):List (Str×Str):=match aF u.l "links" with
 |some (.lp x)=>x
 |_=>[]
def gR (u:Sd RV):List (List Str):=match aF u.l "ring" with
 |some (.ll x)=>x
 |_=>[]
structure HJ (u:Sd RV):Prop where
 k:aF u.l "knot" =some (.k (gK u))
 b:aF u.l "base" =some (.s (gB u))
 m:aF u.l "all" =some (.ls (gM u))
 l:aF u.l "links" =some (.lp (gL u))
 r:aF u.l "ring" =some (.ll (gR u))
def kt (u:Sd RV):Kt:=⟨gK u,gB u,gM u⟩
def hf (ms:List Str):Nat:=(ms.length+1)/2
def KI (u:Sd RV):Prop:=match gK u with
 | .single c=>gR u=[]/\c=gB u
 | .group r l=>gR u≠[]/\F2 (KM 11) r (gR u)/\l=(gL u).take (gR u).length/\gM u=fL (gR u).flatten
structure St (names:List Str) (us:List (Sd RV)) (m:Str->Option Str):Prop where
 rec_: ∀u∈us,HJ u
 perm:(us.map gM).flatten.Perm names
 kb: ∀u∈us,KB m (hf (gM u)) (gK u) (gB u) (gM u)
 fin: ∀u∈us,KI u
 lk: ∀u∈us,∀q∈gL u,q.1∈names/\q.2∈names
 kl: ∀u∈us,KL (gL u) (hf (gM u)) (gK u)
 free: ∀u∈us,m (gB u)=none
structure LS (m m':Str->Option Str) (ring:List (Sd RV)) (p:Nat) (L:List (Str×Str)):Prop where
 len:L.length=ring.length
 link: ∀j u v,ring[j]? =some u->ring[nx ring.length j]? =some v-> ∃a,L[j]? =some a/\(off ring.length p j%2=1->a=(gB u,gB v)/\m' (gB u)=some (gB v)/\m' (gB v)=some (gB u))/\a.1∈gM u/\a.2∈gM v
 keep: ∀x,(∀(j:Nat) u,ring[j]? =some u->j≠p->x≠gB u)->m' x=m x
theorem uL: ∀{t:List (List Str)},(∀y∈t,1<=y.length)->t.length<=t.flatten.length
 | [],_=>Nat.le_refl _
 |y::t,h=>by
  rw[List.flatten_cons,List.length_append,List.length_cons]
  have:=h y List.mem_cons_self
  have:=uL (t:=t) fun z hz=>h z (List.mem_cons_of_mem _ hz)
  omega
theorem rR {x:List Str}: ∀{t:List (List Str)},(∀y∈t,1<=y.length)->x∈t->x.length+t.length<=t.flatten.length+1
 |y::t,h,hx=>by
  rw[List.flatten_cons,List.length_append,List.length_cons]
  have h1:=h y List.mem_cons_self
  have h2:=uL (t:=t) fun z hz=>h z (List.mem_cons_of_mem _ hz)
  rcases List.mem_cons.mp hx with rfl|hx
  ·omega
  ·have:=rR (t:=t) (fun z hz=>h z (List.mem_cons_of_mem _ hz)) hx
   omega
theorem EC (us:List (Sd RV)):(us.map kt).map (·.ms)=us.map gM:=by rw[List.map_map];rfl
theorem MH (us:List (Sd RV)):(us.map kt).map (·.k)=us.map gK:=by rw[List.map_map];rfl
theorem rS {us:List (Sd RV)} {c:Str}:c∈(us.map gM).flatten↔ ∃u∈us,c∈gM u:=by
 rw[<-EC,ck]
 constructor
 ·rintro⟨x,hx,hc⟩
  obtain⟨u,hu,rfl⟩:=List.mem_map.mp hx
  exact⟨u,hu,hc⟩
 ·rintro⟨u,hu,hc⟩
  exact⟨kt u,List.mem_map_of_mem hu,hc⟩
section
variable {names:List Str} {us ring rest:List (Sd RV)} {m m':Str->Option Str} {p:Nat} {L:List (Str×Str)} {y:Sd RV}
theorem St.KJ (h:St names us m) {u:Sd RV} (hu:u∈us):1<=(gM u).length:=List.length_pos_of_mem (h.kb u hu).base
theorem St.merge (hn:names.Nodup) (hl:names.length<=20) (h:St names (ring++rest) m) (h3:3<=ring.length) (ho:ring.length%2=1) (hp:p<ring.length) (ls:LS m m' ring p L) (ry:HJ y) (yk:gK y= .group (ring.map gK) L) (yb:ring[p]?.map gB=some (gB y)) (ym:gM y=fL (ring.map gM).flatten) (yl:gL y=L++(ring.map gL).flatten) (yr:gR y=ring.map gM):St names (rest++[y]) m':=by
 have nd0:((ring++rest).map gM).flatten.Nodup:=h.perm.nodup_iff.mpr hn
 rw[List.map_append,List.flatten_append] at nd0
 obtain⟨ndr,_,dj⟩:=List.nodup_append.mp nd0
 have lenR:(ring.map gM).flatten.length<=20:=by
  have e:=h.perm.length_eq
  rw[List.map_append,List.flatten_append,List.length_append] at e
  omega
 have inN: ∀u∈ring++rest,∀c∈gM u,c∈names:=fun u hu c hc=>h.perm.mem_iff.mp (rS.mpr ⟨u,hu,hc⟩)
 have rb: ∀j u,ring[j]? =some u->gB u∈gM u:=fun j u hu=>(h.kb u (List.mem_append_left _ (List.mem_of_getElem? hu))).base
 have keepR: ∀u∈rest,∀c∈gM u,m' c=m c:=fun u hu c hc=>ls.keep c fun j v hv _ e=>
  dj (gB v) (rS.mpr ⟨v,List.mem_of_getElem? hv,rb j v hv⟩) c (rS.mpr ⟨u,hu,hc⟩) e.symm
 have ndK:((ring.map kt).map (·.ms)).flatten.Nodup:=by rw[EC];exact ndr
 have one: ∀(i j:Nat) u v,ring[i]? =some u->ring[j]? =some v-> ∀c,c∈gM u->c∈gM v->i=j:=fun i j u v hu hv c h1 h2=>
  dF ndK (x:=kt u) (y:=kt v) (by rw[List.getElem?_map,hu];rfl) (by rw[List.getElem?_map,hv];rfl) h1 h2
 have keepI: ∀u∈ring,∀c∈gM u,c≠gB u->m' c=m c:=fun u hu c hc ne=>ls.keep c fun j v hv jp e=>by
  obtain⟨i,hi⟩:=List.getElem?_of_mem hu
  have ij:=one i j u v hi hv c hc (e▸rb j v hv)
  subst ij
  rw[hi] at hv;cases hv
  exact ne e
 obtain⟨z,z1,z2⟩:=Option.map_eq_some_iff.mp yb
 have ro:gj m' (ring.map kt) p L:=by
  refine⟨by rw[List.length_map];exact hp,by rw[List.length_map];exact ho,ndK,by rw[List.length_map];exact ls.len,fun j x w a hj hx hw ha=> ?_,by rw[List.length_map];exact h3⟩
  rw[List.length_map] at hj hw⊢
  rw[List.getElem?_map] at hx hw
  obtain⟨u,u1,u2⟩:=Option.map_eq_some_iff.mp hx
  obtain⟨v,v1,v2⟩:=Option.map_eq_some_iff.mp hw
  subst u2;subst v2
  obtain⟨a',a1,a2,a3⟩:=ls.link j u v u1 v1
  rw[ha] at a1;cases a1
  exact⟨a2,a3⟩
 have ne1: ∀w∈ring.map gM,1<=w.length:=fun w hw=>by
  obtain⟨u,hu,rfl⟩:=List.mem_map.mp hw
  exact h.KJ (List.mem_append_left _ hu)
 have hfy: ∀u∈ring,hf (gM u)+1<=hf (gM y):=fun u hu=>by
  have:=rR ne1 (List.mem_map_of_mem hu)
  rw[List.length_map] at this
  unfold hf
  rw[ym,pF]
  omega
 have hfm:hf (gM y)<=10:=by unfold hf;rw[ym,pF];omega
 obtain⟨q,hq⟩: ∃q,hf (gM y)=q+1:=⟨hf (gM y) -1,by
  have:=hfy z (List.mem_of_getElem? z1)
  omega⟩
 have hmem: ∀{w:Sd RV},w∈rest++[y]->w∈rest\/w=y:=fun {w} hw=>by
  rcases List.mem_append.mp hw with a|a
  ·exact .inl a
  ·exact .inr (List.mem_singleton.mp a)
 have Lin: ∀a∈L,a.1∈names/\a.2∈names:=fun a ha=>by
  obtain⟨j,hj⟩:=List.getElem?_of_mem ha
  have jl:j<ring.length:=ls.len▸(List.getElem?_eq_some_iff.mp hj).1
  obtain⟨a',a1,_,a3⟩:=ls.link j _ _ (List.getElem?_eq_getElem jl) (List.getElem?_eq_getElem (HI jl))
  rw[hj] at a1;cases a1
  exact⟨inN _ (List.mem_append_left _ (List.getElem_mem _)) _ a3.1,inN _ (List.mem_append_left _ (List.getElem_mem _)) _ a3.2⟩
 refine⟨fun w hw=> ?_,?_,fun w hw=> ?_,fun w hw=> ?_,fun w hw=> ?_,fun w hw=> ?_,fun w hw=> ?_⟩
 ·rcases hmem hw with a|rfl
  ·exact h.rec_ w (List.mem_append_right _ a)
  ·exact ry
 ·refine List.Perm.trans ?_ h.perm
  rw[List.map_append,List.flatten_append,List.map_append,List.flatten_append]
  refine List.perm_append_comm.trans (List.Perm.append_right _ ?_)
  rw[List.map_cons,List.map_nil,List.flatten_cons,List.flatten_nil,List.append_nil,ym]
  exact aV _
 ·rcases hmem hw with a|rfl
  ·exact (h.kb w (List.mem_append_right _ a)).congr fun c hc _=>keepR w a c hc
  ·rw[hq,yk]
   refine⟨ring.map kt,p,ro,(MH ring).symm,fun x hx=> ?_,by rw[EC];exact ym,?_⟩
   ·obtain⟨u,hu,rfl⟩:=List.mem_map.mp hx
    refine KB.mono ((h.kb u (List.mem_append_left _ hu)).congr fun c hc ne=>keepI u hu c hc ne) ?_
    have:=hfy u hu
    show hf (gM u)<=q
    omega
   ·rw[List.getElem?_map,z1]
    exact congrArg some z2
 ·rcases hmem hw with a|rfl
  ·exact h.fin w (List.mem_append_right _ a)
  ·unfold KI
   rw[yk]
   refine⟨?_,?_,?_,by rw[yr];exact ym⟩
   ·rw[yr]
    intro e
    have:=congrArg List.length e
    simp at this
    subst this;simp at h3
   ·rw[yr]
    refine nX fun u hu=>KM.mono (h.kb u (List.mem_append_left _ hu)).km ?_
    have:=hfy u hu
    omega
   ·rw[yr,yl,List.length_map,List.take_left' ls.len]
 ·rcases hmem hw with a|rfl
  ·exact h.lk w (List.mem_append_right _ a)
  ·intro a ha
   rw[yl] at ha
   rcases List.mem_append.mp ha with ha|ha
   ·exact Lin a ha
   ·obtain⟨s,hs,as⟩:=List.mem_flatten.mp ha
    obtain⟨u,hu,rfl⟩:=List.mem_map.mp hs
    exact h.lk u (List.mem_append_left _ hu) a as
 ·rcases hmem hw with a|rfl
  ·exact h.kl w (List.mem_append_right _ a)
  ·rw[hq,yk]
   refine⟨fun a ha=>yl▸List.mem_append_left _ ha,fun k hk=> ?_⟩
   obtain⟨u,hu,rfl⟩:=List.mem_map.mp hk
   refine KL.sub (fun a ha=> ?_) (KL.mono (h.kl u (List.mem_append_left _ hu)) ?_)
   ·rw[yl]
    exact List.mem_append_right _ (List.mem_flatten.mpr ⟨_,List.mem_map_of_mem hu,ha⟩)
   ·have:=hfy u hu
    omega
 ·rcases hmem hw with a|rfl
  ·rw[keepR w a _ (h.kb w (List.mem_append_right _ a)).base]
   exact h.free w (List.mem_append_right _ a)
  ·rw[<-z2,ls.keep (gB z) fun j v hv jp e=>jp (one j p v z hv z1 (gB z) (e▸rb j v hv) (rb p z z1))]
   exact h.free z (List.mem_append_left _ (List.mem_of_getElem? z1))
end
end Sw
namespace Sw
open PySem PySem.Spec PyProof.Rows L2
def Alt (X Y:SR):List Str->Prop
 | []=>True
 | [_]=>True
 |a::b::r=>X a b/\Alt Y X (b::r)
section
variable {X Y:SR}
theorem Alt.app: ∀(n:Nat) {r s:List Str} {a b:Str},r.length<=n->r.length%2=1->Alt X Y r->r.getLast? =some a->s.head? =some b->X a b->Alt Y X s->Alt X Y (r++s)
 |n,[],_,_,_,_,h,_,_,_,_,_=>by simp at h
 |n,[x],[],_,_,_,_,_,_,h,_,_=>by cases h
 |n,[x],y::s,a,b,_,_,_,h1,h2,h3,h4=>by cases h1;cases h2;exact⟨h3,h4⟩
 |n,[x,y],_,_,_,_,h,_,_,_,_,_=>by simp at h
 |0,x::y::z::r,_,_,_,h,_,_,_,_,_,_=>by simp at h
 |n+1,x::y::z::r,s,a,b,hn,ho,hr,h1,h2,h3,h4=>by
  refine⟨hr.1,hr.2.1,?_⟩
  exact Alt.app n (r:=z::r) (by simp at hn ⊢; omega) (by simp at ho ⊢; omega) hr.2.2 (by rw[<-h1];simp[List.getLast?_cons_cons]) h2 h3 h4
theorem Alt.rev (hX: ∀a b,X a b->X b a) (hY: ∀a b,Y a b->Y b a): ∀(n:Nat) {r:List Str},r.length<=n->r.length%2=1->Alt X Y r->Alt Y X r.reverse
 |n,[],_,h,_=>by simp at h
 |n,[x],_,_,_=>trivial
 |n,[x,y],_,h,_=>by simp at h
 |0,x::y::z::r,h,_,_=>by simp at h
 |n+1,x::y::z::r,hn,ho,hr=>by
  have ih:=Alt.rev hX hY n (r:=z::r) (by simp at hn ⊢; omega) (by simp at ho ⊢; omega) hr.2.2
  rw[show (x::y::z::r).reverse=(z::r).reverse++[y,x] by simp]
  exact Alt.app _ (Nat.le_refl _) (by simp at ho ⊢; omega) ih (a:=z) (by simp) (b:=y) rfl (hY _ _ hr.2.1) ⟨hX _ _ hr.1,trivial⟩
theorem Alt.at_: ∀{r:List Str},Alt X Y r-> ∀i (h:i+1<r.length),if i%2=0 then X (r[i]'(by omega)) r[i+1] else Y (r[i]'(by omega)) r[i+1]:=fun {r}=>by
 have key: ∀(r:List Str) (X Y:SR),Alt X Y r-> ∀i (h:i+1<r.length),(i%2=0->X (r[i]'(by omega)) r[i+1])/\(i%2=1->Y (r[i]'(by omega)) r[i+1]):=by
  intro r
  induction r with
  |nil=>intro X Y _ i h;simp at h
  |cons a r ih=>
   intro X Y hr i h
   cases r with
   |nil=>simp at h
   |cons b r=>
    cases i with
    |zero=>exact⟨fun _=>hr.1,fun e=>by omega⟩
    |succ i=>
     have:=ih Y X hr.2 i (by simpa using h)
     exact⟨fun e=>this.2 (by omega),fun e=>this.1 (by omega)⟩
 intro hr i h
 split
 ·rename_i e;exact (key r X Y hr i h).1 e
 ·exact (key r X Y hr i h).2 (by omega)
end
def E0 (m:Str->Option Str):SR:=fun a b=>m a=some b/\m b=some a
def E1 (m:Str->Option Str) (L:List (Str×Str)):SR:=fun a b=>((a,b)∈L\/(b,a)∈L)/\m a≠some b/\m b≠some a
theorem E0.symm {m:Str->Option Str} (a b:Str) (h:E0 m a b):E0 m b a:=⟨h.2,h.1⟩
theorem E1.symm {m:Str->Option Str} {L:List (Str×Str)} (a b:Str) (h:E1 m L a b):E1 m L b a:=⟨h.1.symm,h.2.2,h.2.1⟩
structure Led (m:Str->Option Str) (L:List (Str×Str)) (ms:List Str) (c b:Str) (row:List Str):Prop where
 odd:row.length%2=1
 head:row.head? =some c
 last:row.getLast? =some b
 nd:row.Nodup
 inn: ∀x∈row,x∈ms
 alt:Alt (E0 m) (E1 m L) row
structure Part (m:Str->Option Str) (L:List (Str×Str)) (t:List Kt) (w:Nat->Nat) (c:Str) (k:Nat) (row:List Str):Prop where
 odd:row.length%2=1
 head:row.head? =some c
 last: ∃x,t[w k]? =some x/\row.getLast? =some x.b
 nd:row.Nodup
 inn: ∀x∈row,∃j y,k<=j/\j<t.length/\t[w j]? =some y/\x∈y.ms
 alt:Alt (E0 m) (E1 m L) row
section
variable {m:Str->Option Str} {L:List (Str×Str)} {t:List Kt} {w:Nat->Nat} {c:Str} {k:Nat} {row r1 r2:List Str}
theorem Led.single (c:Str):Led m L [c] c c [c]:=⟨rfl,rfl,rfl,by simp,fun x h=>h,trivial⟩
theorem Part.step (nd:(t.map (·.ms)).flatten.Nodup) (wi: ∀i j,i<t.length->j<t.length->w i=w j->i=j) (hk:k+2<t.length) (h:Part m L t w c (k+2) row) {x y z:Kt} (hx:t[w (k+2)]? =some x) (hy:t[w (k+1)]? =some y) (hz:t[w k]? =some z) (e0:E0 m x.b y.b) {l e:Str} (e1:E1 m L l e) (h1:Led m L y.ms l y.b r1) (h2:Led m L z.ms e z.b r2):Part m L t w c k (row++r1.reverse++r2):=by
 have dis: ∀{i j:Nat} {u v:Kt},t[w i]? =some u->t[w j]? =some v->i<t.length->j<t.length-> ∀{a:Str},a∈u.ms->a∈v.ms->i=j:=fun {i j u v} hu hv hi hj {a} ha hb=>wi _ _ hi hj (dF nd hu hv ha hb)
 have o1:=h.odd
 have o2:=h1.odd
 have o3:=h2.odd
 have n0:row≠[]:=fun e=>by rw[e] at o1;simp at o1
 have n1:r1≠[]:=fun e=>by rw[e] at o2;simp at o2
 have n2:r2≠[]:=fun e=>by rw[e] at o3;simp at o3
 refine⟨by simp;omega,?_,⟨z,hz,?_⟩,?_,fun a ha=> ?_,?_⟩
 ·rw[List.append_assoc,List.head?_append,h.head];rfl
 ·rw[List.getLast?_append,h2.last];rfl
 ·rw[List.nodup_append,List.nodup_append]
  refine⟨⟨h.nd,(List.reverse_perm r1).nodup_iff.mpr h1.nd,fun a ha b hb e=> ?_⟩,h2.nd,fun a ha b hb e=> ?_⟩
  ·subst e
   obtain⟨j,v,j1,j2,j3,j4⟩:=h.inn a ha
   have:=dis j3 hy j2 (by omega) j4 (h1.inn a (List.mem_reverse.mp hb))
   omega
  ·subst e
   rcases List.mem_append.mp ha with ha|ha
   ·obtain⟨j,v,j1,j2,j3,j4⟩:=h.inn a ha
    have:=dis j3 hz j2 (by omega) j4 (h2.inn a hb)
    omega
   ·have:=dis hy hz (by omega) (by omega) (h1.inn a (List.mem_reverse.mp ha)) (h2.inn a hb)
    omega
 ·rcases List.mem_append.mp ha with ha|ha
  ·rcases List.mem_append.mp ha with ha|ha
   ·obtain⟨j,v,j1,j2,j3,j4⟩:=h.inn a ha
    exact⟨j,v,by omega,j2,j3,j4⟩
   ·exact⟨k+1,y,by omega,by omega,hy,h1.inn a (List.mem_reverse.mp ha)⟩
  ·exact⟨k,z,Nat.le_refl _,by omega,hz,h2.inn a ha⟩
 ·obtain⟨x',hx',lx⟩:=h.last
  rw[hx] at hx';cases hx'
  rw[List.append_assoc]
  refine Alt.app _ (Nat.le_refl _) o1 h.alt lx (b:=y.b) ?_ e0 ?_
  ·rw[List.head?_append,List.head?_reverse,h1.last];rfl
  ·exact Alt.app _ (Nat.le_refl _) (by rw[List.length_reverse];exact o2) (h1.alt.rev E0.symm E1.symm _ (Nat.le_refl _) o2) (a:=l) (by rw[List.getLast?_reverse];exact h1.head) h2.head e1 h2.alt
theorem Led.part (hk:k<t.length) {x:Kt} (hx:t[w k]? =some x) (h:Led m L x.ms c x.b row):Part m L t w c k row:=
 ⟨h.odd,h.head,⟨x,hx,h.last⟩,h.nd,fun a ha=>⟨k,x,Nat.le_refl _,hk,hx,h.inn a ha⟩,h.alt⟩
theorem Part.led {ms:List Str} {b:Str} (hm: ∀a,a∈ms↔ ∃x∈t,a∈x.ms) (hb:t[w 0]?.map (·.b)=some b) (h:Part m L t w c 0 row):Led m L ms c b row:=by
 obtain⟨x,hx,l⟩:=h.last
 rw[hx] at hb
 refine⟨h.odd,h.head,?_,h.nd,fun a ha=> ?_,h.alt⟩
 ·rw[l];exact hb
 ·obtain⟨j,v,_,_,j3,j4⟩:=h.inn a ha
  exact (hm a).mpr ⟨v,List.mem_of_getElem? j3,j4⟩
theorem gj.q9 {p:Nat} {l:List (Str×Str)} (h:gj m t p l) {j:Nat} {x:Kt} (hj:t[j]? =some x) (hp:j≠p): ∃(i:Nat) (y:Kt),t[i]? =some y/\E0 m x.b y.b/\((off t.length p j%2=1/\i=nx t.length j)\/(off t.length p i%2=1/\j=nx t.length i)):=by
 have jl:j<t.length:=(List.getElem?_eq_some_iff.mp hj).1
 have pl:=h.lead
 by_cases o:off t.length p j%2=1
 ·obtain⟨x',y,a,e1,e2,e3⟩:=h.at_ jl
  rw[hj] at e1;cases e1
  exact⟨_,y,e2,((h.link j x y a jl hj e2 e3).1 o).2,.inl ⟨o,rfl⟩⟩
 ·have o0:0<off t.length p j:=by
   rcases Nat.eq_zero_or_pos (off t.length p j) with e|e
   ·exact absurd (BE pl jl pl (e.trans (we _ _).symm)) hp
   ·exact e
  obtain⟨i,hi,e⟩: ∃i,i<t.length/\nx t.length i=j:=by
   by_cases j0:j=0
   ·exact⟨t.length -1,by omega,by unfold nx;rw[if_pos (by omega)];exact j0.symm⟩
   ·exact⟨j -1,by omega,by unfold nx;rw[if_neg (by omega)];omega⟩
  have oi:off t.length p i+1=off t.length p j:=by
   subst e
   exact EB pl hi o0
  obtain⟨x',y,a,e1,e2,e3⟩:=h.at_ hi
  rw[e,hj] at e2;cases e2
  have q:=((h.link i x' x a hi e1 (e▸hj) e3).1 (by omega)).2
  exact⟨i,x',e1,⟨q.2,q.1⟩,.inr ⟨by omega,e.symm⟩⟩
theorem gj.ze {p n:Nat} {l:List (Str×Str)} (h:gj m t p l) (hk: ∀x∈t,KB m n x.k x.b x.ms) (hb: ∀x,t[p]? =some x->m x.b=none\/ ∃d,m x.b=some d/\ ∀y∈t,d∉y.ms) {i j:Nat} {x y:Kt} (hi:t[i]? =some x) (hj:t[j]? =some y) (ij:i≠j) {a c:Str} (ha:a∈x.ms) (hc:c∈y.ms) (e:m a=some c):(off t.length p i%2=1/\j=nx t.length i)\/(off t.length p j%2=1/\i=nx t.length j):=by
 have ab:a=x.b:=by
  refine Classical.byContradiction fun ne=> ?_
  obtain⟨d,hd,e2⟩:=(hk x (List.mem_of_getElem? hi)).Cp a ha ne
  rw[e] at e2;cases e2
  exact ij (dF h.nd hi hj hd hc)
 subst ab
 by_cases ip:i=p
 ·subst ip
  rcases hb x hi with q|⟨d,q,hd⟩
  ·rw[e] at q;cases q
  ·rw[e] at q;cases q
   exact absurd hc (hd y (List.mem_of_getElem? hj))
 ·obtain⟨i',y',h1,h2,h3⟩:=h.q9 hi ip
  rw[h2.1] at e;cases e
  have:=dF h.nd h1 hj (hk y' (List.mem_of_getElem? h1)).base hc
  subst this
  rcases h3 with ⟨a,b⟩|⟨a,b⟩
  ·exact .inl ⟨a,b⟩
  ·exact .inr ⟨a,b⟩
theorem gj.apart {p n:Nat} {l:List (Str×Str)} (h:gj m t p l) (h3:3<=t.length) (hk: ∀x∈t,KB m n x.k x.b x.ms) (hb: ∀x,t[p]? =some x->m x.b=none\/ ∃d,m x.b=some d/\ ∀y∈t,d∉y.ms) {j:Nat} (jl:j<t.length) (o:off t.length p j%2=0) {x y:Kt} (hx:t[j]? =some x) (hy:t[nx t.length j]? =some y) {q:Str×Str} (hq:l[j]? =some q) (hL:q∈L):E1 m L q.1 q.2/\q.1∈x.ms/\q.2∈y.ms:=by
 obtain⟨_,q1,q2⟩:=h.link j x y q jl hx hy hq
 have nn:j≠nx t.length j:=by
  unfold nx;split <;> omega
 have n2:j≠nx t.length (nx t.length j):=by
  by_cases e:j+1=t.length
  ·rw[Ez e,xI (by omega)];omega
  ·rw[xI e]
   by_cases e2:j+1+1=t.length
   ·rw[Ez e2];omega
   ·rw[xI e2];omega
 refine⟨⟨.inl hL,fun e=> ?_,fun e=> ?_⟩,q1,q2⟩
 ·rcases h.ze hk hb hx hy nn q1 q2 e with ⟨a,_⟩|⟨a,b⟩
  ·omega
  ·exact n2 b
 ·rcases h.ze hk hb hy hx (Ne.symm nn) q2 q1 e with ⟨a,b⟩|⟨a,_⟩
  ·exact n2 b
  ·omega
end
end Sw
namespace Sw
open PySem PySem.Spec PyProof.Rows L2
section
variable {m m':Str->Option Str} {n:Nat} {k:aE} {b c:Str} {ms:List Str}
theorem KB.q9: ∀{n:Nat} {k:aE} {b:Str} {ms:List Str},KB m n k b ms-> ∀c∈ms,c≠b-> ∃d∈ms,d≠b/\m c=some d
 |0,_,_,_,h,_,_,_=>h.elim
 |n+1,.single c,_,_,h,d,hd,ne=>by
  rw[h.2] at hd
  exact absurd ((List.mem_singleton.mp hd).trans h.1.symm) ne
 |n+1,.group r l,b,_,⟨t,p,h1,h2,h3,h4,h5⟩,c,hc,ne=>by
  subst h4
  rw[(aV _).mem_iff,ck] at hc
  obtain⟨x,hx,cx⟩:=hc
  obtain⟨j,hj⟩:=List.getElem?_of_mem hx
  obtain⟨z,z1,z2⟩:=Option.map_eq_some_iff.mp h5
  have bz:b∈z.ms:=z2▸(h3 z (List.mem_of_getElem? z1)).base
  by_cases e:c=x.b
  ·have jp:j≠p:=fun e2=>ne (by
    subst e2
    rw[hj] at h5
    exact e.trans (Option.some.inj h5))
   obtain⟨i,y,hy,my,hr⟩:=h1.q9 hj jp
   have by':=(h3 y (List.mem_of_getElem? hy)).base
   refine⟨y.b,?_,fun e2=> ?_,e▸my.1⟩
   ·rw[(aV _).mem_iff,ck]
    exact⟨y,List.mem_of_getElem? hy,by'⟩
   ·have ip:=dF h1.nd hy z1 by' (e2▸bz)
    subst ip
    have jl:=(List.getElem?_eq_some_iff.mp hj).1
    have pl:=h1.lead
    rcases hr with ⟨o,e3⟩|⟨o,e3⟩
    ·have:=AE pl jl
     have odd:=h1.odd
     have o2:=EA pl jl (by omega)
     rw[<-e3,we] at o2;omega
    ·rw[we] at o;omega
  ·obtain⟨d,hd,d1,md⟩:=(h3 x hx).q9 c cx e
   refine⟨d,?_,fun e2=> ?_,md⟩
   ·rw[(aV _).mem_iff,ck]
    exact⟨x,hx,hd⟩
   ·have jp:=dF h1.nd hj z1 hd (e2▸bz)
    subst jp
    rw[hj] at z1;cases z1
    exact d1 (e2.trans z2.symm)
end
structure iC (ns:List Str) (L:List (Str×Str)) (M:Str->Option Str):Prop where
 sym: ∀a b,M a=some b->M b=some a
 inn: ∀a b,M a=some b->a∈ns
 edge: ∀a b,M a=some b->(a,b)∈L
theorem iC.inj {ns:List Str} {L:List (Str×Str)} {M:Str->Option Str} (h:iC ns L M) {a b c:Str} (h1:M a=some c) (h2:M b=some c):a=b:=by
 have e1:=h.sym _ _ h1
 rw[h.sym _ _ h2] at e1
 exact (Option.some.inj e1).symm
def nmK (x:Kt):Str:=x.ms.headD ""
structure fu (ns:List Str) (L:List (Str×Str)) (M:Str->Option Str) (ks:List Kt):Prop where
 perm:(ks.map (·.ms)).flatten.Perm ns
 kb: ∀x∈ks,KB M (hf x.ms) x.k x.b x.ms
 kl: ∀x∈ks,KL L (hf x.ms) x.k
section
variable {ns:List Str} {L:List (Str×Str)} {M:Str->Option Str} {ks:List Kt} {x y z:Kt} {a c d:Str}
theorem fu.nd (h:fu ns L M ks) (hn:ns.Nodup):(ks.map (·.ms)).flatten.Nodup:=h.perm.nodup_iff.mpr hn
theorem fu.one (h:fu ns L M ks) (hn:ns.Nodup) (hx:x∈ks) (hy:y∈ks) (h1:c∈x.ms) (h2:c∈y.ms):x=y:=by
 obtain⟨i,hi⟩:=List.getElem?_of_mem hx
 obtain⟨j,hj⟩:=List.getElem?_of_mem hy
 have:=dF (h.nd hn) hi hj h1 h2
 subst this
 rw[hi] at hj
 exact Option.some.inj hj
theorem fu.has (h:fu ns L M ks) (hc:c∈ns): ∃x∈ks,c∈x.ms:=ck.mp (h.perm.mem_iff.mpr hc)
theorem fu.inn (h:fu ns L M ks) (hx:x∈ks) (hc:c∈x.ms):c∈ns:=h.perm.mem_iff.mp (ck.mpr ⟨x,hx,hc⟩)
theorem Jm {m:Str->Option Str} {n:Nat} {k:aE} {b:Str} {ms:List Str} (h:KB m n k b ms):ms.headD "" ∈ms:=by
 have:=h.base
 cases ms with
 |nil=>cases this
 |cons a r=>exact List.mem_cons_self
theorem fu.nm (h:fu ns L M ks) (hx:x∈ks):nmK x∈x.ms:=Jm (h.kb x hx)
theorem fu.Jn (h:fu ns L M ks) (hn:ns.Nodup) (hx:x∈ks) (hy:y∈ks) (e:nmK x=nmK y):x=y:=h.one hn hx hy (h.nm hx) (e▸h.nm hy)
theorem fu.BF (h:fu ns L M ks) (hn:ns.Nodup) (hx:x∈ks) (hy:y∈ks) (e:x.b=y.b):x=y:=h.one hn hx hy (h.kb x hx).base (e▸(h.kb y hy).base)
theorem fu.ze (h:fu ns L M ks) (hn:ns.Nodup) (hM:iC ns L M) (hx:x∈ks) (hy:y∈ks) (ne:x≠y) (ha:a∈x.ms) (hc:c∈y.ms) (e:M a=some c):a=x.b/\c=y.b:=by
 constructor
 ·refine Classical.byContradiction fun q=> ?_
  obtain⟨d,hd,_,e2⟩:=(h.kb x hx).q9 a ha q
  rw[e] at e2;cases e2
  exact ne (h.one hn hx hy hd hc)
 ·refine Classical.byContradiction fun q=> ?_
  obtain⟨d,hd,_,e2⟩:=(h.kb y hy).q9 c hc q
  rw[hM.sym _ _ e] at e2;cases e2
  exact ne (h.one hn hx hy ha hd)
theorem fu.out (h:fu ns L M ks) (hn:ns.Nodup) (hM:iC ns L M) (hx:x∈ks) (e:M x.b=some d) (irr: ∀a,M a≠some a): ∃y∈ks,y≠x/\d=y.b:=by
 obtain⟨y,hy,hd⟩:=h.has (hM.inn _ _ (hM.sym _ _ e))
 have ne:y≠x:=fun q=>by
  subst q
  have:d≠y.b:=fun z=>irr _ (z▸e)
  obtain⟨g,hg,g2,e2⟩:=(h.kb y hy).q9 d hd this
  rw[hM.sym _ _ e] at e2;cases e2
  exact g2 rfl
 exact⟨y,hy,ne,(h.ze hn hM hx hy (Ne.symm ne) (h.kb x hx).base hd e).2⟩
theorem fu.len (h:fu ns L M ks) (hx:x∈ks):x.ms.length<=ns.length:=by
 have:=lj (h.kb x hx).nodup fun a ha=>h.inn hx ha
 exact this
end
structure SI (ns:List Str) (L:List (Str×Str)) (o:a9) (ks:List Kt) (lv:Str->Nat) (rt:Str->Str):Prop where
 tops:fu ns L (aF o.mates.l) ks
 top: ∀x∈ks,∀c∈x.ms,aF o.top.l c=some x.k
 tk:(o.top.l.map (·.1)).Perm ns
 rk: ∀n r,aF o.roots.l n=some r-> ∃z∈ks,nmK z=n/\r=rt n
 ok: ∀n q,aF o.reached.l n=some q-> ∃x∈ks,nmK x=n
 rnd:(o.roots.l.map (·.1)).Nodup
 ond:(o.reached.l.map (·.1)).Nodup
 ED: ∀z∈ks,(aF o.roots.l (nmK z)).isSome=true->(aF o.mates.l z.b=none/\rt (nmK z)=z.b)\/ ∃x∈ks,aF o.mates.l z.b=some x.b/\(aF o.reached.l (nmK x)).isSome=true
 odd: ∀x∈ks,∀q,aF o.reached.l (nmK x)=some q->aF o.roots.l (nmK x)=none/\q.2∈x.ms/\(q.1,q.2)∈L/\ ∃y∈ks,q.1∈y.ms/\(aF o.roots.l (nmK y)).isSome=true/\lv (nmK y)<lv (nmK x)/\rt (nmK y)=rt (nmK x)/\ ∃z∈ks,aF o.mates.l x.b=some z.b/\(aF o.roots.l (nmK z)).isSome=true/\lv (nmK x)<lv (nmK z)/\rt (nmK x)=rt (nmK z)
 wt: ∀c,c∈o.waiting↔ ∃z∈ks,c∈z.ms/\(aF o.roots.l (nmK z)).isSome=true
 wnd:o.waiting.Nodup
structure Gr (ns:List Str) (L:List (Str×Str)) (M:Str->Option Str):Prop where
 nd:ns.Nodup
 len:ns.length<=20
 sym: ∀a b,(a,b)∈L->(b,a)∈L
 irr: ∀a,(a,a)∉L
 inn: ∀a b,(a,b)∈L->a∈ns
 mates:iC ns L M
end Sw
namespace Sw
open PySem PySem.Spec PyProof.Rows L2
inductive LC (M:Str->Option Str):Bool->Kt->List Kt->List (Str×Str)->Kt->Prop where
 |nil {p a}:LC M p a [] [] a
 |step {p a c e q cs ls}:q.1∈a.ms->q.2∈c.ms->(p=true->q=(a.b,c.b)/\M a.b=some c.b/\M c.b=some a.b)->LC M (!p) c cs ls e->LC M p a (c::cs) (q::ls) e
section
variable {M:Str->Option Str}
theorem LC.app: ∀{p a cs ls e ds ms f},LC M p a cs ls e->ls.length%2=0->LC M p e ds ms f->LC M p a (cs++ds) (ls++ms) f
 |_,_,_,_,_,_,_,_,.nil,_,h=>h
 |_,_,_,_,_,_,_,_,.step _ _ _ .nil,hl,_=>by simp at hl
 |p,_,_,_,_,_,_,_,.step a1 a2 a3 (.step b1 b2 b3 r),hl,h=>.step a1 a2 a3 (.step b1 b2 b3 (by
   have:=LC.app (p:= !!p) r (by simp at hl;omega) (by rw[Bool.not_not];exact h)
   exact this))
theorem LC.at_: ∀{p a cs ls e},LC M p a cs ls e->cs.length=ls.length/\ ∀j q,ls[j]? =some q-> ∃x y,(a::cs)[j]? =some x/\(a::cs)[j+1]? =some y/\q.1∈x.ms/\q.2∈y.ms/\((decide (j%2=1)= !p)->q=(x.b,y.b)/\M x.b=some y.b/\M y.b=some x.b)
 |_,_,_,_,_,.nil=>⟨rfl,fun j q h=>by simp at h⟩
 |p,a,_,_,_,.step (c:=c) (q:=q0) a1 a2 a3 r=>by
  obtain⟨h1,h2⟩:=r.at_
  refine⟨congrArg (· +1) h1,fun j q h=> ?_⟩
  cases j with
  |zero=>
   cases h
   exact⟨a,c,rfl,rfl,a1,a2,fun e=>a3 (by cases p <;> simp at e⊢)⟩
  |succ j=>
   obtain⟨x,y,e1,e2,e3,e4,e5⟩:=h2 j q h
   refine⟨x,y,e1,e2,e3,e4,fun e=>e5 ?_⟩
   cases p <;> simp at e⊢ <;> omega
theorem LC.ring {w:Kt} {ts:List Kt} {ls:List (Str×Str)} (h:LC M false w (ts++[w]) ls w) (ho:ts.length%2=0) (nd:((w::ts).map (·.ms)).flatten.Nodup) (h3:3<=(w::ts).length):gj M (w::ts) 0 ls:=by
 obtain⟨h1,h2⟩:=h.at_
 rw[List.length_append,List.length_singleton] at h1
 refine⟨by simp,by simp;omega,nd,by simp;omega,fun j x y a hj hx hy ha=> ?_,h3⟩
 obtain⟨x',y',e1,e2,e3,e4,e5⟩:=h2 j a ha
 simp only[List.length_cons] at hj hx hy⊢
 have ex:x'=x:=by
  rw[<-List.cons_append,List.getElem?_append_left (by simpa using hj),hx] at e1
  exact (Option.some.inj e1).symm
 have ey:y'=y:=by
  by_cases q:j+1=ts.length+1
  ·rw[Ez q] at hy
   rw[<-List.cons_append,List.getElem?_append_right (by simp;omega)] at e2
   rw[show j+1 -(w::ts).length=0 by simp;omega] at e2
   cases hy;cases e2;rfl
  ·rw[xI q] at hy
   rw[<-List.cons_append,List.getElem?_append_left (by simp;omega),hy] at e2
   exact (Option.some.inj e2).symm
 subst ex;subst ey
 refine⟨fun o=>e5 ?_,e3,e4⟩
 rw[iV (Nat.zero_le _),Nat.sub_zero] at o
 simp[o]
end
structure Stq where
 x:Kt
 one:Str
 other:Str
 y:Kt
inductive Pth (M:Str->Option Str) (o:a9) (ks:List Kt):Kt->List Stq->Kt->Prop where
 |nil {z}:z∈ks->Pth M o ks z [] z
 |cons {z s r w}:z∈ks->s.x∈ks->M z.b=some s.x.b->aF o.reached.l (nmK s.x)=some (s.one,s.other)->s.other∈s.x.ms->s.one∈s.y.ms->Pth M o ks s.y r w->Pth M o ks z (s::r) w
def kn (z:Kt):List Stq->List Kt
 | []=>[]
 |s::r=>z::s.x::kn s.y r
def ln (z:Kt):List Stq->List (Str×Str)
 | []=>[]
 |s::r=>(z.b,s.x.b)::(s.other,s.one)::ln s.y r
def fw:List Stq->List Kt
 | []=>[]
 |s::r=>s.x::s.y::fw r
def evs (z:Kt):List Stq->List Kt
 | []=>[z]
 |s::r=>z::evs s.y r
section
variable {M:Str->Option Str} {o:a9} {ks:List Kt} {z w:Kt} {ss:List Stq}
theorem KN: ∀{z ss w},Pth M o ks z ss w->kn z ss++[w]=z::fw ss
 |_,_,_,.nil _=>rfl
 |_,_,_,.cons _ _ _ _ _ _ r=>by
  show _::_::(kn _ _++[_])=_
  rw[KN r];rfl
theorem AF: ∀(z:Kt) (ss:List Stq),(kn z ss).length=2*ss.length
 |_,[]=>rfl
 |z,s::r=>by
  show (kn s.y r).length+2=_
  rw[AF,List.length_cons];omega
theorem EE: ∀(z:Kt) (ss:List Stq),(ln z ss).length=2*ss.length
 |_,[]=>rfl
 |z,s::r=>by
  show (ln s.y r).length+2=_
  rw[EE,List.length_cons];omega
theorem Pth.zk: ∀{z ss w},Pth M o ks z ss w->z∈ks
 |_,_,_,.nil h=>h
 |_,_,_,.cons h _ _ _ _ _ _=>h
theorem Pth.wk: ∀{z ss w},Pth M o ks z ss w->w∈ks
 |_,_,_,.nil h=>h
 |_,_,_,.cons _ _ _ _ _ _ r=>r.wk
theorem Pth.lc {ns:List Str} {L:List (Str×Str)} (hT:fu ns L M ks) (hs: ∀a b,M a=some b->M b=some a): ∀{z ss w},Pth M o ks z ss w->LC M true z (fw ss) (ln z ss) w
 |_,_,_,.nil _=>.nil
 |_,_,_,.cons h1 h2 h3 h4 h5 h6 r=>.step (hT.kb _ h1).base (hT.kb _ h2).base (fun _=>⟨rfl,h3,hs _ _ h3⟩) (.step h5 h6 (fun e=>by cases e) (by
   have:=Pth.lc hT hs r
   exact this))
theorem Pth.cl {ns:List Str} {L:List (Str×Str)} (hT:fu ns L M ks) (hs: ∀a b,M a=some b->M b=some a): ∀{z ss w},Pth M o ks z ss w->LC M false w (kn z ss).reverse ((ln z ss).reverse.map fun q=>(q.2,q.1)) z
 |_,_,_,.nil _=>.nil
 |z,s::r,w,.cons h1 h2 h3 h4 h5 h6 r'=>by
  have ih:=Pth.cl hT hs r'
  have e1:(kn z (s::r)).reverse=(kn s.y r).reverse++[s.x,z]:=by
   show (z::s.x::kn s.y r).reverse=_
   simp
  have e2:((ln z (s::r)).reverse.map fun q=>(q.2,q.1))=((ln s.y r).reverse.map fun q=>(q.2,q.1))++[(s.one,s.other),(s.x.b,z.b)]:=by
   show ((((z.b,s.x.b)::(s.other,s.one)::ln s.y r).reverse).map fun q=>(q.2,q.1))=_
   simp
  rw[e1,e2]
  refine LC.app ih (by rw[List.length_map,List.length_reverse,EE];omega) ?_
  exact .step h6 h5 (fun e=>by cases e) (.step (hT.kb _ h2).base (hT.kb _ h1).base (fun _=>⟨rfl,hs _ _ h3,h3⟩) .nil)
end
end Sw
namespace Sw
open PySem PySem.Spec PyProof.Rows L2
def EvK (o:a9) (z:Kt):Prop:=(aF o.roots.l (nmK z)).isSome=true
section
variable {ns:List Str} {L:List (Str×Str)} {o:a9} {ks:List Kt} {lv:Str->Nat} {rt:Str->Str} {z w x y:Kt}
structure UpS (L:List (Str×Str)) (o:a9) (ks:List Kt) (lv:Str->Nat) (rt:Str->Str) (z:Kt) (s:Stq):Prop where
 xk:s.x∈ks
 yk:s.y∈ks
 mz:aF o.mates.l z.b=some s.x.b
 rd:aF o.reached.l (nmK s.x)=some (s.one,s.other)
 ot:s.other∈s.x.ms
 on:s.one∈s.y.ms
 ed:(s.one,s.other)∈L
 ny:aF o.roots.l (nmK s.x)=none
 ey:EvK o s.y
 l1:lv (nmK s.y)<lv (nmK s.x)
 l2:lv (nmK s.x)<lv (nmK z)
 r1:rt (nmK s.y)=rt (nmK z)
 r2:rt (nmK s.x)=rt (nmK z)
theorem SI.up (h:SI ns L o ks lv rt) (g:Gr ns L (aF o.mates.l)) (hz:z∈ks) (ez:EvK o z):(aF o.mates.l z.b=none/\rt (nmK z)=z.b)\/ ∃s,UpS L o ks lv rt z s:=by
 rcases h.ED z hz ez with a|⟨x,hx,mx,ox⟩
 ·exact .inl a
 ·obtain⟨q,hq⟩:=Option.isSome_iff_exists.mp ox
  obtain⟨h1,h2,h3,y,hy,h4,h5,h6,h7,z',hz',h8,h9,h10,h11⟩:=h.odd x hx q hq
  have e:=g.mates.sym _ _ mx
  rw[h8] at e
  have:=h.tops.BF g.nd hz' hz (Option.some.inj e)
  subst this
  exact .inr ⟨⟨x,q.1,q.2,y⟩,hx,hy,mx,hq,h2,h4,h3,h1,h5,h6,h10,h7.trans h11,h11⟩
end
inductive m4 (L:List (Str×Str)) (o:a9) (ks:List Kt) (lv:Str->Nat) (rt:Str->Str):Kt->List Stq->Kt->Prop where
 |nil {z}:z∈ks->EvK o z->m4 L o ks lv rt z [] z
 |cons {z s r w}:z∈ks->EvK o z->UpS L o ks lv rt z s->m4 L o ks lv rt s.y r w->m4 L o ks lv rt z (s::r) w
section
variable {ns:List Str} {L:List (Str×Str)} {o:a9} {ks:List Kt} {lv:Str->Nat} {rt:Str->Str} {z w x y:Kt}
theorem m4.pth: ∀{z ss w},m4 L o ks lv rt z ss w->Pth (aF o.mates.l) o ks z ss w
 |_,_,_,.nil h _=>.nil h
 |_,_,_,.cons h _ u r=>.cons h u.xk u.mz u.rd u.ot u.on r.pth
theorem m4.zk: ∀{z ss w},m4 L o ks lv rt z ss w->z∈ks/\EvK o z
 |_,_,_,.nil h e=>⟨h,e⟩
 |_,_,_,.cons h e _ _=>⟨h,e⟩
theorem m4.wk: ∀{z ss w},m4 L o ks lv rt z ss w->w∈ks/\EvK o w/\rt (nmK w)=rt (nmK z)/\lv (nmK w)<=lv (nmK z)
 |_,_,_,.nil h e=>⟨h,e,rfl,Nat.le_refl _⟩
 |_,_,_,.cons h e u r=>by
  obtain⟨a,b,c,d⟩:=r.wk
  exact⟨a,b,c.trans u.r1,by have:=u.l1;have:=u.l2;omega⟩
def ek (z:Kt):List Stq->List Kt
 | []=>[]
 |s::r=>z::ek s.y r
theorem uN: ∀{z ss w},m4 L o ks lv rt z ss w-> ∀v∈ek z ss,v∈ks/\EvK o v/\lv (nmK w)<lv (nmK v)/\ ∃x∈kn z ss,aF o.mates.l v.b=some x.b
 |_,_,_,.nil _ _,v,hv=>by cases hv
 |z,s::r,w,.cons h e u p,v,hv=>by
  rcases List.mem_cons.mp hv with rfl|hv
  ·exact⟨h,e,by have:=p.wk.2.2.2;have:=u.l1;have:=u.l2;omega,s.x,List.mem_cons_of_mem _ List.mem_cons_self,u.mz⟩
  ·obtain⟨a,b,c,x,d,f⟩:=uN p v hv
   exact⟨a,b,c,x,List.mem_cons_of_mem _ (List.mem_cons_of_mem _ d),f⟩
theorem AG: ∀{z ss w},m4 L o ks lv rt z ss w-> ∀v∈kn z ss,v∈ks/\rt (nmK v)=rt (nmK z)/\lv (nmK w)<lv (nmK v)/\lv (nmK v)<=lv (nmK z)/\((v∈ek z ss/\EvK o v)\/(aF o.roots.l (nmK v)=none/\(aF o.reached.l (nmK v)).isSome=true/\ ∃u∈ek z ss,aF o.mates.l u.b=some v.b))
 |_,_,_,.nil _ _,v,hv=>by cases hv
 |z,s::r,w,.cons h e u p,v,hv=>by
  have hw:=p.wk.2.2.2
  have a1:=u.l1
  have a2:=u.l2
  rcases List.mem_cons.mp hv with rfl|hv
  ·exact⟨h,rfl,by omega,Nat.le_refl _,.inl ⟨List.mem_cons_self,e⟩⟩
  ·rcases List.mem_cons.mp hv with rfl|hv
   ·exact⟨u.xk,u.r2,by omega,by omega,.inr ⟨u.ny,by rw[u.rd];rfl,z,List.mem_cons_self,u.mz⟩⟩
   ·obtain⟨b1,b2,b3,b4,b5⟩:=AG p v hv
    refine⟨b1,b2.trans u.r1,b3,by omega,?_⟩
    rcases b5 with ⟨c1,c2⟩|⟨c1,c2,q,c3,c4⟩
    ·exact .inl ⟨List.mem_cons_of_mem _ c1,c2⟩
    ·exact .inr ⟨c1,c2,q,List.mem_cons_of_mem _ c3,c4⟩
theorem m4.links (g:Gr ns L (aF o.mates.l)): ∀{z ss w},m4 L o ks lv rt z ss w-> ∀q∈ln z ss,q∈L
 |_,_,_,.nil _ _,q,hq=>by cases hq
 |z,s::r,w,.cons h e u p,q,hq=>by
  rcases List.mem_cons.mp hq with rfl|hq
  ·exact g.mates.edge _ _ u.mz
  ·rcases List.mem_cons.mp hq with rfl|hq
   ·exact g.sym _ _ u.ed
   ·exact p.links g q hq
theorem m4.first (P:Kt->Prop): ∀{z ss w},m4 L o ks lv rt z ss w->(∃v∈evs z ss,P v)-> ∃s1 v,m4 L o ks lv rt z s1 v/\P v/\(∀u∈ek z s1,¬P u)/\ ∃post,evs z ss=ek z s1++v::post
 |z,_,_,.nil h e,⟨v,hv,pv⟩=>by
  rw[List.mem_singleton.mp hv] at pv
  exact⟨[],z,.nil h e,pv,(fun u hu=>by cases (show u∈([]:List Kt) from hu)),[],rfl⟩
 |z,s::r,w,.cons h e u p,⟨v,hv,pv⟩=>by
  rcases Classical.em (P z) with q|q
  ·exact⟨[],z,.nil h e,q,(fun u hu=>by cases (show u∈([]:List Kt) from hu)),evs s.y r,rfl⟩
  ·rcases List.mem_cons.mp hv with rfl|hv
   ·exact absurd pv q
   ·obtain⟨s1,v1,p1,h1,h2,post,h3⟩:=m4.first P p ⟨v,hv,pv⟩
    refine⟨s::s1,v1,.cons h e u p1,h1,fun u' hu=> ?_,post,?_⟩
    ·rcases List.mem_cons.mp hu with rfl|hu
     ·exact q
     ·exact h2 u' hu
    ·show z::evs s.y r=z::(ek s.y s1++v1::post)
     rw[h3]
end
structure WP (L:List (Str×Str)) (o:a9) (ks:List Kt) (lv:Str->Nat) (rt:Str->Str) (c:Str) (z:Kt) (row:List Str):Prop where
 zk:z∈ks
 ez:EvK o z
 odd:row.length%2=1
 head:row.head? =some c
 last:row.getLast? =some z.b
 nd:row.Nodup
 inn: ∀a∈row,∃v∈ks,a∈v.ms/\lv (nmK z)<=lv (nmK v)/\rt (nmK v)=rt (nmK z)/\(EvK o v\/(aF o.reached.l (nmK v)).isSome=true)
 alt:Alt (E0 (aF o.mates.l)) (E1 (aF o.mates.l) L) row
section
variable {ns:List Str} {L:List (Str×Str)} {o:a9} {ks:List Kt} {lv:Str->Nat} {rt:Str->Str} {z w x y:Kt} {c:Str} {row r1 r2:List Str}
theorem UpS.e1 (h:SI ns L o ks lv rt) (g:Gr ns L (aF o.mates.l)) (hz:z∈ks) {s:Stq} (u:UpS L o ks lv rt z s):E1 (aF o.mates.l) L s.other s.one:=by
 have xy:s.x≠s.y:=fun e=>by
  have:=u.l1
  rw[e] at this;omega
 have key:aF o.mates.l s.other≠some s.one:=fun e=>by
  obtain⟨e1,e2⟩:=h.tops.ze g.nd g.mates u.xk u.yk xy u.ot u.on e
  rw[e1,e2] at e
  have e3:=g.mates.sym _ _ u.mz
  rw[e] at e3
  have:=h.tops.BF g.nd u.yk hz (Option.some.inj e3)
  have a1:=u.l1
  have a2:=u.l2
  rw[this] at a1;omega
 exact⟨.inr u.ed,key,fun e=>key (g.mates.sym _ _ e)⟩
theorem WP.step (h:SI ns L o ks lv rt) (g:Gr ns L (aF o.mates.l)) (hw:WP L o ks lv rt c z row) {s:Stq} (u:UpS L o ks lv rt z s) (h1:Led (aF o.mates.l) L s.x.ms s.other s.x.b r1) (h2:Led (aF o.mates.l) L s.y.ms s.one s.y.b r2):WP L o ks lv rt c s.y (row++r1.reverse++r2):=by
 have a1:=u.l1
 have a2:=u.l2
 have o1:=hw.odd
 have o2:=h1.odd
 have o3:=h2.odd
 have dis: ∀{u' v:Kt},u'∈ks->v∈ks-> ∀{a:Str},a∈u'.ms->a∈v.ms->u'=v:=fun {u' v} hu hv {a} ha hb=>h.tops.one g.nd hu hv ha hb
 refine⟨u.yk,u.ey,by simp;omega,?_,?_,?_,fun a ha=> ?_,?_⟩
 ·rw[List.append_assoc,List.head?_append,hw.head];rfl
 ·rw[List.getLast?_append,h2.last];rfl
 ·rw[List.nodup_append,List.nodup_append]
  refine⟨⟨hw.nd,(List.reverse_perm r1).nodup_iff.mpr h1.nd,fun a ha b hb e=> ?_⟩,h2.nd,fun a ha b hb e=> ?_⟩
  ·subst e
   obtain⟨v,v1,v2,v3,v4⟩:=hw.inn a ha
   have:=dis v1 u.xk v2 (h1.inn a (List.mem_reverse.mp hb))
   subst this
   omega
  ·subst e
   rcases List.mem_append.mp ha with ha|ha
   ·obtain⟨v,v1,v2,v3,v4⟩:=hw.inn a ha
    have:=dis v1 u.yk v2 (h2.inn a hb)
    subst this
    omega
   ·have:=dis u.xk u.yk (h1.inn a (List.mem_reverse.mp ha)) (h2.inn a hb)
    rw[this] at a1;omega
 ·rcases List.mem_append.mp ha with ha|ha
  ·rcases List.mem_append.mp ha with ha|ha
   ·obtain⟨v,v1,v2,v3,v4⟩:=hw.inn a ha
    exact⟨v,v1,v2,by omega,v4.1.trans u.r1.symm,v4.2⟩
   ·exact⟨s.x,u.xk,h1.inn a (List.mem_reverse.mp ha),by omega,u.r2.trans u.r1.symm,.inr (by rw[u.rd];rfl)⟩
  ·exact⟨s.y,u.yk,h2.inn a ha,Nat.le_refl _,rfl,.inl u.ey⟩
 ·rw[List.append_assoc]
  refine Alt.app _ (Nat.le_refl _) o1 hw.alt hw.last (b:=s.x.b) ?_ ⟨u.mz,g.mates.sym _ _ u.mz⟩ ?_
  ·rw[List.head?_append,List.head?_reverse,h1.last];rfl
  ·exact Alt.app _ (Nat.le_refl _) (by rw[List.length_reverse];exact o2) (h1.alt.rev E0.symm E1.symm _ (Nat.le_refl _) o2) (a:=s.other) (by rw[List.getLast?_reverse];exact h1.head) h2.head (u.e1 h g hw.zk) h2.alt
theorem WP.len (h:SI ns L o ks lv rt) (hw:WP L o ks lv rt c z row):row.length<=ns.length:=lj hw.nd fun a ha=>by
 obtain⟨v,v1,v2,_⟩:=hw.inn a ha
 exact h.tops.inn v1 v2
end
end Sw
namespace Sw
open PySem PySem.Spec PyProof.Rows L2
theorem EF {κ α:Type} [DecidableEq κ] {k:κ} {x:α} {l:List (κ×α)} (h:(l.map (·.1)).Nodup):((cf l k x).map (·.1)).Nodup:=by
 by_cases q:k∈l.map (·.1)
 ·rw[eA q];exact h
 ·rw[vm q]
  exact List.nodup_append.mpr ⟨h,by simp,fun a ha b hb e=>q (by rw[List.mem_singleton.mp hb] at e;exact e▸ha)⟩
def Jo (o:a9) (n:Str) (ms:List Str) (r:Str):a9:={o with roots:=⟨cf o.roots.l n r⟩,waiting:=o.waiting++ms.filter fun c=> !decide (c∈o.waiting)}
section
variable {ns:List Str} {L:List (Str×Str)} {o:a9} {ks:List Kt} {lv:Str->Nat} {rt:Str->Str} {z w x y:Kt} {one other:Str}
theorem EG {ws ms:List Str} {c:Str}:c∈ws++ms.filter (fun c=> !decide (c∈ws))↔c∈ws\/c∈ms:=by
 rw[List.mem_append,List.mem_filter]
 by_cases h:c∈ws <;> simp[h]
theorem GU {ws ms:List Str} (h1:ws.Nodup) (h2:ms.Nodup):(ws++ms.filter (fun c=> !decide (c∈ws))).Nodup:=List.nodup_append.mpr ⟨h1,h2.filter _,fun a ha b hb e=>by
 have:=(List.mem_filter.mp hb).2
 subst e
 simp[ha] at this⟩
theorem SI.root (h:SI ns L o ks lv rt) (g:Gr ns L (aF o.mates.l)) (hz:z∈ks) (nz:aF o.roots.l (nmK z)=none) (oz:aF o.reached.l (nmK z)=none) (mz:aF o.mates.l z.b=none):
  ∃lv' rt',SI ns L (Jo o (nmK z) z.ms z.b) ks lv' rt':=by
 have inj: ∀{u v:Kt},u∈ks->v∈ks->nmK u=nmK v->u=v:=fun hu hv e=>h.tops.Jn g.nd hu hv e
 have rg: ∀n,aF (cf o.roots.l (nmK z) z.b) n=if n=nmK z then some z.b else aF o.roots.l n:=fun n=>ff _ _ _ _
 refine⟨lv,fun n=>if n=nmK z then z.b else rt n,h.tops,h.top,h.tk,fun n r e=> ?_,h.ok,EF h.rnd,h.ond,fun v hv ev=> ?_,fun v hv q e=> ?_,fun c=> ?_,GU h.wnd (h.tops.kb z hz).nodup⟩
 ·have e:=(rg n).symm.trans e
  by_cases q:n=nmK z
  ·rw[if_pos q] at e;cases e
   exact⟨z,hz,q.symm,by rw[if_pos q]⟩
  ·rw[if_neg q] at e
   obtain⟨v,hv,e1,e2⟩:=h.rk n r e
   exact⟨v,hv,e1,by rw[if_neg q];exact e2⟩
 ·have ev:=(congrArg Option.isSome (rg (nmK v))).symm.trans ev
  by_cases q:nmK v=nmK z
  ·have:=inj hv hz q
   subst this
   exact .inl ⟨mz,by rw[if_pos rfl]⟩
  ·rw[if_neg q] at ev
   rcases h.ED v hv ev with ⟨a,b⟩|a
   ·exact .inl ⟨a,by rw[if_neg q];exact b⟩
   ·exact .inr a
 ·obtain⟨a1,a2,a3,y1,b1,b2,b3,b4,b5,z1,c1,c2,c3,c4,c5⟩:=h.odd v hv q e
  have vz:nmK v≠nmK z:=fun r=>by
   have e':aF o.reached.l (nmK v)=some q:=e
   rw[r,oz] at e';cases e'
  have n1:nmK y1≠nmK z:=fun r=>by rw[r,nz] at b3;cases b3
  have n2:nmK z1≠nmK z:=fun r=>by rw[r,nz] at c3;cases c3
  refine⟨by show aF (cf _ _ _) _=none;rw[rg,if_neg vz];exact a1,a2,a3,y1,b1,b2,?_,b4,?_,z1,c1,c2,?_,c4,?_⟩
  ·show (aF (cf _ _ _) _).isSome=true
   rw[rg,if_neg n1];exact b3
  ·rw[if_neg n1,if_neg vz];exact b5
  ·show (aF (cf _ _ _) _).isSome=true
   rw[rg,if_neg n2];exact c3
  ·rw[if_neg n2,if_neg vz];exact c5
 ·show c∈o.waiting++_↔_
  rw[EG,h.wt c]
  constructor
  ·rintro (⟨v,hv,a,b⟩|a)
   ·refine⟨v,hv,a,?_⟩
    show (aF (cf _ _ _) _).isSome=true
    rw[rg]
    split
    ·rfl
    ·exact b
   ·refine⟨z,hz,a,?_⟩
    show (aF (cf _ _ _) _).isSome=true
    rw[rg,if_pos rfl];rfl
  ·rintro⟨v,hv,a,b⟩
   have b:=(congrArg Option.isSome (rg (nmK v))).symm.trans b
   by_cases q:nmK v=nmK z
   ·exact .inr (inj hv hz q▸a)
   ·rw[if_neg q] at b
    exact .inl ⟨v,hv,a,b⟩
end
end Sw
namespace Sw
open PySem PySem.Spec PyProof.Rows L2
theorem tK {xs ys:List Str} (h1:xs.Nodup) (h2:ys.Nodup) (h: ∀a,a∈xs↔a∈ys):xs.Perm ys:=by
 have e:fL xs=fL ys:=risingS (tG h1) (tG h2) fun a=>by rw[(aV xs).mem_iff,(aV ys).mem_iff];exact h a
 exact (aV xs).symm.trans (e▸aV ys)
def rgT (z1 z2 w:Kt) (s1 s2:List Stq):List Kt:=w::((kn z1 s1).reverse++kn z2 s2)
structure wg (L:List (Str×Str)) (o:a9) (ks:List Kt) (lv:Str->Nat) (rt:Str->Str) (z1 z2 w:Kt) (s1 s2:List Stq):Prop where
 p1:m4 L o ks lv rt z1 s1 w
 p2:m4 L o ks lv rt z2 s2 w
 ap: ∀u∈ek z1 s1,u∉ek z2 s2
 ne:z1≠z2
section
variable {ns:List Str} {L:List (Str×Str)} {o o1:a9} {ks:List Kt} {lv:Str->Nat} {rt:Str->Str} {z1 z2 w:Kt} {s1 s2:List Stq} {a b:Str}
theorem wg.len (m:wg L o ks lv rt z1 z2 w s1 s2):3<=(rgT z1 z2 w s1 s2).length/\(rgT z1 z2 w s1 s2).length=2*s1.length+2*s2.length+1:=by
 have e:(rgT z1 z2 w s1 s2).length=2*s1.length+2*s2.length+1:=by
  unfold rgT
  rw[List.length_cons,List.length_append,List.length_reverse,AF,AF]
 refine⟨?_,e⟩
 rw[e]
 rcases s1 with _|⟨q1,s1⟩
 ·rcases s2 with _|⟨q2,s2⟩
  ·cases m.p1
   cases m.p2
   exact absurd rfl m.ne
  ·simp;omega
 ·simp;omega
theorem wg.mem (m:wg L o ks lv rt z1 z2 w s1 s2) {v:Kt} (hv:v∈rgT z1 z2 w s1 s2):v=w\/v∈kn z1 s1\/v∈kn z2 s2:=by
 rcases List.mem_cons.mp hv with e|hv
 ·exact .inl e
 ·rcases List.mem_append.mp hv with e|e
  ·exact .inr (.inl (List.mem_reverse.mp e))
  ·exact .inr (.inr e)
theorem wg.facts (h:SI ns L o ks lv rt) (m:wg L o ks lv rt z1 z2 w s1 s2) {v:Kt} (hv:v∈rgT z1 z2 w s1 s2):v∈ks/\rt (nmK v)=rt (nmK w)/\lv (nmK w)<=lv (nmK v)/\(v=w\/((v∈ek z1 s1\/v∈ek z2 s2)/\EvK o v)\/(aF o.roots.l (nmK v)=none/\ ∃u∈rgT z1 z2 w s1 s2,u≠w/\EvK o u/\aF o.mates.l u.b=some v.b)):=by
 obtain⟨w1,w2,w3,w4⟩:=m.p1.wk
 obtain⟨_,_,w5,_⟩:=m.p2.wk
 have ekm: ∀{z:Kt} {s:List Stq} {w':Kt},m4 L o ks lv rt z s w'-> ∀u∈ek z s,u∈kn z s:=by
  intro z s w' p
  induction p with
  |nil=>intro u hu;cases hu
  |cons h e us p ih=>
   intro u hu
   rcases List.mem_cons.mp hu with rfl|hu
   ·exact List.mem_cons_self
   ·exact List.mem_cons_of_mem _ (List.mem_cons_of_mem _ (ih u hu))
 rcases m.mem hv with rfl|e|e
 ·exact⟨w1,rfl,Nat.le_refl _,.inl rfl⟩
 ·obtain⟨a1,a2,a3,a4,a5⟩:=AG m.p1 v e
  refine⟨a1,a2.trans w3.symm,Nat.le_of_lt a3,.inr ?_⟩
  rcases a5 with ⟨c1,c2⟩|⟨c1,c2,u,c3,c4⟩
  ·exact .inl ⟨.inl c1,c2⟩
  ·obtain⟨f1,f2,f3,_⟩:=uN m.p1 u c3
   refine .inr ⟨c1,u,List.mem_cons_of_mem _ (List.mem_append_left _ (List.mem_reverse.mpr (ekm m.p1 u c3))),fun e=> ?_,f2,c4⟩
   rw[e] at f3;omega
 ·obtain⟨a1,a2,a3,a4,a5⟩:=AG m.p2 v e
  refine⟨a1,a2.trans w5.symm,Nat.le_of_lt a3,.inr ?_⟩
  rcases a5 with ⟨c1,c2⟩|⟨c1,c2,u,c3,c4⟩
  ·exact .inl ⟨.inr c1,c2⟩
  ·obtain⟨f1,f2,f3,_⟩:=uN m.p2 u c3
   refine .inr ⟨c1,u,List.mem_cons_of_mem _ (List.mem_append_right _ (ekm m.p2 u c3)),fun e=> ?_,f2,c4⟩
   rw[e] at f3;omega
end
end Sw
namespace Sw
open PySem PySem.Spec PyProof.Rows L2
structure Aug (ns:List Str) (L:List (Str×Str)) (M:Str->Option Str) (R:Str->Prop) (row:List Str):Prop where
 ev:row.length%2=0
 ne:row≠[]
 nd:row.Nodup
 inn: ∀a∈row,a∈ns
 alt:Alt (E1 M L) (E0 M) row
 head: ∃a,row.head? =some a/\M a=none/\R a
 last: ∃b,row.getLast? =some b/\M b=none
section
variable {ns:List Str} {L:List (Str×Str)} {M M':Str->Option Str} {R:Str->Prop} {row:List Str}
theorem Aug.inside (h:Aug ns L M R row) (hs: ∀a b,M a=some b->M b=some a) {c d:Str} (hc:c∈row) (e:M c=some d):d∈row:=by
 obtain⟨i,hi⟩:=List.getElem?_of_mem hc
 obtain⟨il,ei⟩:=List.getElem?_eq_some_iff.mp hi
 have ev:=h.ev
 by_cases p:i%2=1
 ·by_cases q:i+1<row.length
  ·have:=h.alt.at_ i q
   rw[if_neg (by omega)] at this
   have t:=this.1
   rw[ei,e] at t
   cases t
   exact List.getElem_mem _
  ·obtain⟨b,hb,nb⟩:=h.last
   rw[List.getLast?_eq_getElem?,show row.length -1=i by omega,hi] at hb
   cases hb
   rw[e] at nb;cases nb
 ·by_cases q:i=0
  ·obtain⟨a,ha,na,_⟩:=h.head
   rw[List.head?_eq_getElem?,←q,hi] at ha
   cases ha
   rw[e] at na;cases na
  ·have:=h.alt.at_ (i -1) (by omega)
   rw[if_neg (by omega)] at this
   have t:=this.2
   have e2:row[i -1+1]'(by omega)=c:=by
    have:i -1+1=i:=by omega
    simp only[this]
    exact ei
   rw[e2,e] at t
   cases t
   exact List.getElem_mem _
structure GV (M M':Str->Option Str) (row:List Str):Prop where
 on: ∀i (h:i+1<row.length),i%2=0->M' (row[i]'(by omega))=some row[i+1]/\M' row[i+1]=some (row[i]'(by omega))
 off: ∀c,c∉row->M' c=M c
theorem GV.Cp (f:GV M M' row) (hl:row.length%2=0) {c:Str} (hc:c∈row): ∃d∈row,M' c=some d/\M' d=some c/\ ∃i,∃(h:i+1<row.length),i%2=0/\((c=row[i]'(by omega)/\d=row[i+1])\/(d=row[i]'(by omega)/\c=row[i+1])):=by
 obtain⟨i,hi⟩:=List.getElem?_of_mem hc
 obtain⟨il,ei⟩:=List.getElem?_eq_some_iff.mp hi
 by_cases p:i%2=0
 ·have h:i+1<row.length:=by omega
  obtain⟨a,b⟩:=f.on i h p
  rw[ei] at a b
  exact⟨_,List.getElem_mem h,a,b,i,h,p,.inl ⟨ei.symm,rfl⟩⟩
 ·have h:i -1+1<row.length:=by omega
  obtain⟨a,b⟩:=f.on (i -1) h (by omega)
  have e2:row[i -1+1]'h=c:=by
   have:i -1+1=i:=by omega
   simp only[this]
   exact ei
  rw[e2] at a b
  exact⟨_,List.getElem_mem (by omega:i -1<row.length),b,a,i -1,h,by omega,.inr ⟨rfl,e2.symm⟩⟩
theorem GV.ok (f:GV M M' row) (h:Aug ns L M R row) (hM:iC ns L M) (hL: ∀a b,(a,b)∈L->(b,a)∈L):iC ns L M':=by
 have key: ∀a b,M' a=some b->M' b=some a/\a∈ns/\(a,b)∈L:=by
  intro a b e
  by_cases ha:a∈row
  ·obtain⟨d,hd,e1,e2,i,hi,p,hc⟩:=f.Cp h.ev ha
   rw[e] at e1;cases e1
   refine⟨e2,h.inn a ha,?_⟩
   have al:=h.alt.at_ i hi
   rw[if_pos p] at al
   have ed:(row[i]'(by omega),row[i+1])∈L:=al.1.elim id (hL _ _)
   rcases hc with ⟨rfl,rfl⟩|⟨rfl,rfl⟩
   ·exact ed
   ·exact hL _ _ ed
  ·rw[f.off a ha] at e
   have hb:b∉row:=fun hb=>ha (h.inside hM.sym hb (hM.sym _ _ e))
   exact⟨by rw[f.off b hb];exact hM.sym _ _ e,hM.inn _ _ e,hM.edge _ _ e⟩
 exact⟨fun a b e=>(key a b e).1,fun a b e=>(key a b e).2.1,fun a b e=>(key a b e).2.2⟩
end
def pP (w:Wb):List (Str×Str):=w.l.flatMap fun p=>p.2.l.map fun q=>(p.1,q.1)
theorem m5 {ns:List Str} {w:Wb} (h:gh ns w) (hn:ns.Nodup) {a b:Str}:(a,b)∈pP w↔ ∃v,wk w a b=some v:=by
 have kn:(w.l.map (·.1)).Nodup:=by rw[h.keys];exact hn
 unfold pP
 rw[List.mem_flatMap]
 constructor
 ·rintro⟨p,hp,hq⟩
  obtain⟨q,hq',e⟩:=List.mem_map.mp hq
  cases e
  have e1:=lX kn (show (p.1,p.2)∈w.l from hp)
  have rn:=h.rows p.1
  rw[BA e1] at rn
  exact⟨q.2,by rw[KA e1];exact lX rn (show (q.1,q.2)∈p.2.l from hq')⟩
 ·rintro⟨v,hv⟩
  obtain⟨r,e1,e2⟩:=HH hv
  refine⟨(a,r),?_,List.mem_map.mpr ⟨(b,v),?_,rfl⟩⟩
  ·exact mQ e1
  ·exact mQ e2
end Sw
namespace Sw
open PySem PySem.Spec PyProof.Rows L2
theorem zg: ∀{l:List (List Str)},(∀y∈l,y.length%2=1)->l.flatten.length%2=l.length%2
 | [],_=>rfl
 |y::l,h=>by
  rw[List.flatten_cons,List.length_append,List.length_cons]
  have h1:=h y List.mem_cons_self
  have h2:=zg (l:=l) fun z hz=>h z (List.mem_cons_of_mem _ hz)
  omega
theorem KB.xJ {m:Str->Option Str}: ∀{n:Nat} {k:aE} {b:Str} {ms:List Str},KB m n k b ms->ms.length%2=1
 |0,_,_,_,h=>h.elim
 |n+1,.single c,_,_,h=>by rw[h.2];rfl
 |n+1,.group r l,b,_,⟨t,p,h1,h2,h3,h4,h5⟩=>by
  have:=zg (l:=t.map (·.ms)) fun y hy=>by
   obtain⟨x,hx,rfl⟩:=List.mem_map.mp hy
   exact (h3 x hx).xJ
  rw[List.length_map] at this
  have:=h1.odd
  rw[h4,pF]
  omega
theorem rT {N:Str->Option Str} (hs: ∀a b,N a=some b->N b=some a) (hi: ∀a,N a≠some a): ∀(n:Nat) {l:List Str},l.length<=n->l.Nodup->(∀c∈l,∃d∈l,N c=some d)->l.length%2=0
 |_,[],_,_,_=>rfl
 |0,c::l,h,_,_=>by simp at h
 |n+1,c::l,hl,nd,h=>by
  obtain⟨d,hd,e⟩:=h c List.mem_cons_self
  have dc:d≠c:=fun q=>hi c (q▸e)
  have dl:d∈l:=by
   rcases List.mem_cons.mp hd with q|q
   ·exact absurd q dc
   ·exact q
  rw[List.nodup_cons] at nd
  have le:(l.erase d).length+1=l.length:=by
   rw[List.length_erase_of_mem dl]
   have:=List.length_pos_of_mem dl
   omega
  rw[List.length_cons] at hl
  have ih:=rT hs hi n (l:=l.erase d) (by omega) (nd.2.erase d) fun a ha=>by
   have hal:=List.mem_of_mem_erase ha
   obtain⟨f,hf,ef⟩:=h a (List.mem_cons_of_mem _ hal)
   have fd:f≠d:=fun q=>by
    subst q
    have:=hs _ _ ef
    rw[hs _ _ e] at this
    cases this
    exact nd.1 hal
   have fc:f≠c:=fun q=>by
    subst q
    have:=hs _ _ ef
    rw[e] at this
    cases this
    exact (List.Nodup.mem_erase_iff nd.2).mp ha|>.1 rfl
   rcases List.mem_cons.mp hf with q|q
   ·exact absurd q fc
   ·exact⟨f,(List.Nodup.mem_erase_iff nd.2).mpr ⟨fd,q⟩,ef⟩
  rw[List.length_cons]
  omega
structure Cert (ns:List Str) (L:List (Str×Str)) (M:Str->Option Str) (A:List Str) (zs:List Kt):Prop where
 kb: ∀z∈zs,KB M (hf z.ms) z.k z.b z.ms
 kl: ∀z∈zs,KL L (hf z.ms) z.k
 zn:(zs.map (·.ms)).flatten.Nodup
 zi: ∀z∈zs,∀c∈z.ms,c∈ns
 an:A.Nodup
 ai: ∀c∈A,c∈ns
 az: ∀z∈zs,∀c∈z.ms,c∉A
 cl: ∀z∈zs,∀a b,(a,b)∈L->a∈z.ms->b∈z.ms\/b∈A
 cnt:(ns.filter fun c=> !(M c).isSome).length+A.length=zs.length
 rest: ∀c∈ns,c∉A->(∀z∈zs,c∉z.ms)-> ∃d,M c=some d/\d∉A/\ ∀z∈zs,d∉z.ms
section
variable {ns:List Str} {L:List (Str×Str)} {M N:Str->Option Str} {A:List Str} {zs:List Kt}
theorem zh (h:Cert ns L M A zs):zs.Nodup:=by
 rw[List.nodup_iff_pairwise_ne,List.pairwise_iff_getElem]
 intro i j hi hj ij e
 have hm:=(h.kb _ (List.getElem_mem hi)).base
 have:=dF h.zn (List.getElem?_eq_getElem hi) (List.getElem?_eq_getElem hj) hm (e▸hm)
 omega
theorem nodup_map_on {α β:Type} {f:α->β}: ∀{l:List α},l.Nodup->(∀a∈l,∀b∈l,f a=f b->a=b)->(l.map f).Nodup
 | [],_,_=>List.nodup_nil
 |a::l,h,g=>by
  rw[List.nodup_cons] at h
  rw[List.map_cons,List.nodup_cons]
  refine⟨fun m=> ?_,nodup_map_on h.2 fun x hx y hy e=>g x (List.mem_cons_of_mem _ hx) y (List.mem_cons_of_mem _ hy) e⟩
  obtain⟨b,hb,e⟩:=List.mem_map.mp m
  have:=g b (List.mem_cons_of_mem _ hb) a List.mem_cons_self e
  subst this
  exact h.1 hb
theorem Cert.bound (h:Cert ns L M A zs) (hn:ns.Nodup) (hN:iC ns L N) (irr: ∀a,(a,a)∉L):zs.length<=(ns.filter fun c=> !(N c).isSome).length+A.length:=by
 classical
 have hi: ∀a,N a≠some a:=fun a e=>irr a (hN.edge _ _ e)
 have key: ∀z∈zs,∃g,∃c∈z.ms,(N c=none/\g=c)\/(N c=some g/\g∈A):=fun z hz=>by
  refine Classical.byContradiction fun q=> ?_
  have par:=rT hN.sym hi z.ms.length (Nat.le_refl _) (h.kb z hz).nodup fun c hc=>by
   cases e:N c with
   |none=>exact absurd ⟨c,c,hc,.inl ⟨e,rfl⟩⟩ q
   |some d=>
    refine⟨d,?_,rfl⟩
    rcases h.cl z hz c d (hN.edge _ _ e) hc with a|a
    ·exact a
    ·exact absurd ⟨d,c,hc,.inr ⟨e,a⟩⟩ q
  have:=(h.kb z hz).xJ
  omega
 let f:Kt->Str:=fun z=>if hz:z∈zs then Classical.choose (key z hz) else ""
 have hf: ∀z∈zs,∃c∈z.ms,(N c=none/\f z=c)\/(N c=some (f z)/\f z∈A):=fun z hz=>by
  have e:f z=Classical.choose (key z hz):=dif_pos hz
  rw[e]
  exact Classical.choose_spec (key z hz)
 have one: ∀x∈zs,∀y∈zs,∀c,c∈x.ms->c∈y.ms->x=y:=fun x hx y hy c h1 h2=>by
  obtain⟨i,hi⟩:=List.getElem?_of_mem hx
  obtain⟨j,hj⟩:=List.getElem?_of_mem hy
  have:=dF h.zn hi hj h1 h2
  subst this
  rw[hi] at hj
  exact Option.some.inj hj
 have nd:(zs.map f).Nodup:=nodup_map_on (zh h) fun x hx y hy e=>by
  obtain⟨c,hc,c1⟩:=hf x hx
  obtain⟨d,hd,d1⟩:=hf y hy
  rcases c1 with ⟨_,c2⟩|⟨c2,c3⟩
  ·rcases d1 with ⟨_,d2⟩|⟨_,d3⟩
   ·have:c=d:=by rw[<-c2,←d2,e]
    subst this
    exact one x hx y hy c hc hd
   ·exact absurd (by rw[<-c2,e];exact d3) (h.az x hx c hc)
  ·rcases d1 with ⟨_,d2⟩|⟨d2,_⟩
   ·exact absurd (by rw[<-d2,←e];exact c3) (h.az y hy d hd)
   ·rw[<-e] at d2
    have:=hN.inj c2 d2
    subst this
    exact one x hx y hy c hc hd
 have:=lj nd (ys:=(ns.filter fun c=> !(N c).isSome)++A) fun g hg=>by
  obtain⟨z,hz,rfl⟩:=List.mem_map.mp hg
  obtain⟨c,hc,c1⟩:=hf z hz
  rcases c1 with ⟨c1,c2⟩|⟨_,c3⟩
  ·refine List.mem_append_left _ (List.mem_filter.mpr ⟨by rw[c2];exact h.zi z hz c hc,by rw[c2,c1];rfl⟩)
  ·exact List.mem_append_right _ c3
 rw[List.length_map,List.length_append] at this
 exact this
theorem nY {α:Type} (p:α->Bool): ∀l:List α,l.length=(l.filter p).length+(l.filter fun a=> !p a).length
 | []=>rfl
 |a::l=>by
  have:=nY p l
  rw[List.filter_cons,List.filter_cons]
  cases p a <;> simp <;> omega
end
end Sw
namespace Sw
open PySem PySem.Spec PyProof.Rows L2
section
variable {ns:List Str} {w:Wb} {M:Str->Option Str} {P:Str->Prop}
theorem EH (hw:gh ns w) (hn:ns.Nodup) {a b:Str} (e:(a,b)∈pP w) (nb: ¬P b):Rch w P a b:=by
 obtain⟨v,hv⟩:=(m5 hw hn).mp e
 exact .step .refl hv nb
theorem KB.conn (hw:gh ns w) (hn:ns.Nodup): ∀{n:Nat} {k:aE} {b:Str} {ms:List Str},KB M n k b ms->KL (pP w) n k->(∀c∈ms,¬P c)-> ∀a∈ms,∀c∈ms,Rch w P a c
 |0,_,_,_,h,_,_,_,_,_,_=>h.elim
 |n+1,.single s,_,_,h,_,_,a,ha,c,hc=>by
  rw[h.2] at ha hc
  rw[List.mem_singleton.mp ha,List.mem_singleton.mp hc]
  exact .refl
 |n+1,.group r l,b,ms,⟨t,p,h1,h2,h3,h4,h5⟩,⟨k1,k2⟩,hP,a,ha,c,hc=>by
  subst h2
  have mm: ∀a,a∈ms↔ ∃x∈t,a∈x.ms:=fun a=>by rw[h4,(aV _).mem_iff,ck]
  have sub: ∀x∈t,∀a∈x.ms,∀c∈x.ms,Rch w P a c:=fun x hx=>(h3 x hx).conn hw hn (k2 _ (List.mem_map_of_mem hx)) fun c hc=>hP c ((mm c).mpr ⟨x,hx,hc⟩)
  have pos:0<t.length:=by have:=h1.lead;omega
  have from0: ∀(j:Nat) (x0 xj:Kt),t[0]? =some x0->t[j]? =some xj-> ∀a∈x0.ms,∀c∈xj.ms,Rch w P a c:=by
   intro j
   induction j with
   |zero=>
    intro x0 xj e0 ej a ha c hc
    rw[e0] at ej;cases ej
    exact sub x0 (List.mem_of_getElem? e0) a ha c hc
   |succ j ih=>
    intro x0 xj e0 ej a ha c hc
    have jl:=(List.getElem?_eq_some_iff.mp ej).1
    obtain⟨x,y,q,g1,g2,g3⟩:=h1.at_ (show j<t.length by omega)
    rw[xI (by omega),ej] at g2
    cases g2
    obtain⟨_,q1,q2⟩:=h1.link j x xj q (by omega) g1 (by rw[xI (by omega)];exact ej) g3
    have xm:=List.mem_of_getElem? ej
    refine (ih x0 x e0 g1 a ha q.1 q1).trans ((EH hw hn (k1 q (List.mem_of_getElem? g3)) (hP _ ((mm _).mpr ⟨xj,xm,q2⟩))).trans (sub xj xm q.2 q2 c hc))
  obtain⟨x,hx,ax⟩:=(mm a).mp ha
  obtain⟨y,hy,cy⟩:=(mm c).mp hc
  obtain⟨i,hi⟩:=List.getElem?_of_mem hx
  obtain⟨j,hj⟩:=List.getElem?_of_mem hy
  have e0:=List.getElem?_eq_getElem pos
  have b0:=(h3 _ (List.getElem_mem pos)).base
  have m0:=hP _ ((mm _).mpr ⟨_,List.getElem_mem pos,b0⟩)
  exact ((from0 i _ x e0 hi _ b0 a ax).symm hw m0).trans (from0 j _ y e0 hj _ b0 c cy)
end
end Sw
namespace Sw
open PySem PySem.Spec PyProof.Rows L2
def Mt (L:List (Str×Str)) (l:List Str) (k:Nat):Prop:= ∃qs:List (Str×Str),qs.length=k/\dE qs/\(∀q∈qs,q∈L)/\ ∀q∈qs,q.1∈l/\q.2∈l
def Gm (L:List (Str×Str)) (l:List Str) (k:Nat):Prop:=Mt L l k/\ ∀j,Mt L l j->j<=k
section
variable {L:List (Str×Str)} {l:List Str} {a:Str}
theorem Mt.sub {l':List Str} {k:Nat} (h:Mt L l k) (s: ∀c∈l,c∈l'):Mt L l' k:=by
 obtain⟨qs,h1,h2,h3,h4⟩:=h
 exact⟨qs,h1,h2,h3,fun q hq=>⟨s _ (h4 q hq).1,s _ (h4 q hq).2⟩⟩
theorem Gm.nil:Gm L [] 0:=⟨⟨[],rfl,List.nodup_nil,(fun q hq=>by cases hq),(fun q hq=>by cases hq)⟩,fun j ⟨qs,h1,_,_,h4⟩=>by
 cases qs with
 |nil=>simp at h1;omega
 |cons q qs=>cases (h4 q List.mem_cons_self).1⟩
theorem Mt.split {k:Nat} (hs: ∀a b,(a,b)∈L->(b,a)∈L) (h:Mt L (a::l) k):Mt L l k\/ ∃b∈l,(a,b)∈L/\Mt L (l.filter fun c=> !decide (c=b)) (k -1)/\1<=k:=by
 obtain⟨qs,h1,h2,h3,h4⟩:=h
 by_cases ha:a∈bf qs
 ·obtain⟨q,hq,e⟩:=eR.mp ha
  obtain⟨pre,post,eq⟩:=List.append_of_mem hq
  have pm:qs.Perm (q::(pre++post)):=by rw[eq];exact List.perm_middle
  have ap:=yX pm h2
  have ap2:([q.1,q.2]++bf (pre++post)).Nodup:=ap
  rw[List.nodup_append] at ap2
  obtain⟨n1,n2,n3⟩:=ap2
  have q12:q.1≠q.2:=by simp at n1;exact n1
  obtain⟨b,hab,hne⟩: ∃b,((a=q.1/\b=q.2)\/(a=q.2/\b=q.1))/\b≠a:=by
   rcases e with e|e
   ·exact⟨q.2,.inl ⟨e,rfl⟩,fun x=>q12 (e.symm.trans x.symm)⟩
   ·exact⟨q.1,.inr ⟨e,rfl⟩,fun x=>q12 (x.trans e)⟩
  have bl:b∈l:=by
   have:b∈a::l:=by
    rcases hab with ⟨_,e2⟩|⟨_,e2⟩
    ·rw[e2];exact (h4 q hq).2
    ·rw[e2];exact (h4 q hq).1
   rcases List.mem_cons.mp this with x|x
   ·exact absurd x hne
   ·exact x
  have ed:(a,b)∈L:=by
   rcases hab with ⟨e1,e2⟩|⟨e1,e2⟩
   ·rw[e1,e2];exact h3 q hq
   ·rw[e1,e2];exact hs _ _ (h3 q hq)
  have le:=pm.length_eq
  rw[List.length_cons] at le
  have pin: ∀r∈pre++post,r∈qs:=fun r hr=>pm.mem_iff.mpr (List.mem_cons_of_mem _ hr)
  have inl: ∀r∈pre++post,∀x,(x=r.1\/x=r.2)->x∈l.filter fun c=> !decide (c=b):=fun r hr x hx=>by
   have xe:x∈bf (pre++post):=eR.mpr ⟨r,hr,hx⟩
   have x1:x≠q.1:=fun e=>n3 q.1 (by simp) x xe e.symm
   have x2:x≠q.2:=fun e=>n3 q.2 (by simp) x xe e.symm
   have xa:x≠a/\x≠b:=by
    rcases hab with ⟨e1,e2⟩|⟨e1,e2⟩
    ·rw[e1,e2];exact⟨x1,x2⟩
    ·rw[e1,e2];exact⟨x2,x1⟩
   have:x∈a::l:=by
    rcases hx with e|e
    ·rw[e];exact (h4 r (pin r hr)).1
    ·rw[e];exact (h4 r (pin r hr)).2
   rcases List.mem_cons.mp this with y|y
   ·exact absurd y xa.1
   ·exact List.mem_filter.mpr ⟨y,by simpa using xa.2⟩
  refine .inr ⟨b,bl,ed,⟨pre++post,by omega,n2,fun r hr=>h3 r (pin r hr),fun r hr=>⟨inl r hr _ (.inl rfl),inl r hr _ (.inr rfl)⟩⟩,by omega⟩
 ·refine .inl ⟨qs,h1,h2,h3,fun q hq=> ?_⟩
  obtain⟨a1,a2⟩:=h4 q hq
  constructor
  ·rcases List.mem_cons.mp a1 with x|x
   ·exact absurd (eR.mpr ⟨q,hq,.inl x.symm⟩) ha
   ·exact x
  ·rcases List.mem_cons.mp a2 with x|x
   ·exact absurd (eR.mpr ⟨q,hq,.inr x.symm⟩) ha
   ·exact x
end
theorem Cert.gm {ns:List Str} {L:List (Str×Str)} {M:Str->Option Str} {A:List Str} {zs:List Kt} (c:Cert ns L M A zs) (g:Gr ns L M) {ps:List (Str×Str)} (hp:dE ps) (he: ∀p∈ps,p∈L) (hc:2*ps.length+(ns.filter fun c=> !(M c).isSome).length=ns.length):Gm L ns ps.length:=by
 refine⟨⟨ps,rfl,hp,he,fun q hq=>⟨g.inn _ _ (he q hq),g.inn _ _ (g.sym _ _ (he q hq))⟩⟩,fun j ⟨qs,h1,h2,h3,h4⟩=> ?_⟩
 obtain⟨N,hN⟩: ∃N:Str->Option Str,∀x y,N x=some y↔(x,y)∈qs\/(y,x)∈qs:=by
  refine⟨fun x=>aF (qs.flatMap fun p=>[(p.1,p.2),(p.2,p.1)]) x,fun x y=> ?_⟩
  have kn:((qs.flatMap fun p=>[(p.1,p.2),(p.2,p.1)]).map (·.1)).Nodup:=by
   have:(qs.flatMap fun p=>[(p.1,p.2),(p.2,p.1)]).map (·.1)=bf qs:=by
    unfold bf
    rw[List.map_flatMap]
    rfl
   rw[this];exact h2
  have mem:(x,y)∈(qs.flatMap fun p=>[(p.1,p.2),(p.2,p.1)])↔(x,y)∈qs\/(y,x)∈qs:=by
   rw[List.mem_flatMap]
   constructor
   ·rintro⟨p,hp,h⟩
    rcases List.mem_cons.mp h with e|e
    ·cases e;exact .inl hp
    ·have:=List.mem_singleton.mp e
     cases this;exact .inr hp
   ·rintro (h|h)
    ·exact⟨_,h,List.mem_cons_self⟩
    ·exact⟨_,h,by simp⟩
  rw[<-mem]
  exact⟨fun h=>mQ h,fun h=>lX kn h⟩
 have MN:iC ns L N:=by
  refine⟨fun a b e=>(hN b a).mpr ((hN a b).mp e).symm,fun a b e=> ?_,fun a b e=> ?_⟩
  ·rcases (hN a b).mp e with q|q
   ·exact (h4 _ q).1
   ·exact (h4 _ q).2
  ·rcases (hN a b).mp e with q|q
   ·exact h3 _ q
   ·exact g.sym _ _ (h3 _ q)
 have b:=c.bound g.nd MN g.irr
 have e:(bf qs).length=(ns.filter fun c=>(N c).isSome).length:=by
  refine (tK h2 (g.nd.filter _) fun x=> ?_).length_eq
  rw[eR,List.mem_filter]
  constructor
  ·rintro⟨q,hq,e⟩
   rcases e with rfl|rfl
   ·exact⟨(h4 q hq).1,by rw[(hN q.1 q.2).mpr (.inl hq)];rfl⟩
   ·exact⟨(h4 q hq).2,by rw[(hN q.2 q.1).mpr (.inr hq)];rfl⟩
  ·rintro⟨_,e⟩
   obtain⟨d,hd⟩:=Option.isSome_iff_exists.mp e
   rcases (hN x d).mp hd with q|q
   ·exact⟨_,q,.inl rfl⟩
   ·exact⟨_,q,.inr rfl⟩
 rw[uE] at e
 have:=nY (fun c=>(N c).isSome) ns
 have:=c.cnt
 omega
end Sw
namespace Sw
open PySem PySem.Spec PyProof.Rows L2
def Sv (P:List (Str×Str)) (x:Str):Prop:= ∃y,mt P x y
noncomputable def mO (P:List (Str×Str)) (x:Str):Option Str:=by
 classical exact if h: ∃y,mt P x y then some (Classical.choose h) else none
section
variable {ns:List Str} {w:Wb} {P Q:List (Str×Str)} {x y c l:Str} {row:List Str}
theorem ql (hP:Plan w P):mO P x=some y↔mt P x y:=by
 unfold mO
 constructor
 ·intro h
  by_cases q: ∃y,mt P x y
  ·rw[dif_pos q] at h
   cases h
   exact Classical.choose_spec q
  ·rw[dif_neg q] at h;cases h
 ·intro h
  have q: ∃y,mt P x y:=⟨y,h⟩
  rw[dif_pos q]
  exact congrArg some (qk hP (Classical.choose_spec q) h)
theorem BG:mO P x=none↔ ¬Sv P x:=by
 unfold mO Sv
 by_cases q: ∃y,mt P x y
 ·rw[dif_pos q];simp[q]
 ·rw[dif_neg q];simp[q]
theorem BH (hw:gh ns w) (hP:Plan w P) (h:mt P x y): ∃v,wk w x y=some v:=by
 rcases h with h|h
 ·exact hP.swap _ h
 ·obtain⟨v,hv⟩:=hP.swap _ h
  exact⟨v,hw.sym _ _ _ hv⟩
theorem KO (hw:gh ns w) (hn:ns.Nodup) (hP:Plan w P):iC ns (pP w) (mO P):=
 ⟨fun a b e=>(ql hP).mpr (nU ((ql hP).mp e)),fun a b e=>by
  obtain⟨v,hv⟩:=BH hw hP ((ql hP).mp e)
  exact (hw.inside hv).1,fun a b e=>(m5 hw hn).mpr (BH hw hP ((ql hP).mp e))⟩
theorem Sv.inn (hw:gh ns w) (hP:Plan w P) (h:Sv P x):x∈ns:=by
 obtain⟨y,h⟩:=h
 obtain⟨v,hv⟩:=BH hw hP h
 exact (hw.inside hv).1
theorem tM (hw:gh ns w) (hP:Plan w P) {es:List (Str×Str)} (h:rQ w P es) (ne:x≠y):mt (pO P (es.map nP)) x y↔(mt P x y/\ ¬((x,y)∈es\/(y,x)∈es))\/(((x,y)∈es\/(y,x)∈es)/\ ¬mt P x y):=by
 have hp:=v7 hP (h.turn hw hP)
 have e1:=sx hp (e:=(x,y)) ne
 have e2:=sx hP (e:=(x,y)) ne
 have e3:nP (x,y)∈es.map nP↔((x,y)∈es\/(y,x)∈es):=by
  rw[List.mem_map]
  constructor
  ·rintro⟨e,he,q⟩
   have ee:=h.ne e he
   rcases vZ ee with ⟨a,_⟩|⟨a,_⟩ <;> rcases vZ (e:=(x,y)) ne with ⟨b,_⟩|⟨b,_⟩
   ·rw[a,b] at q;exact .inl (q▸he)
   ·rw[a,b] at q;exact .inr (q▸he)
   ·rw[a,b] at q
    have:e=(y,x):=Prod.ext (congrArg Prod.snd q) (congrArg Prod.fst q)
    exact .inr (this▸he)
   ·rw[a,b] at q
    have:e=(x,y):=Prod.ext (congrArg Prod.snd q) (congrArg Prod.fst q)
    exact .inl (this▸he)
  ·rintro (he|he)
   ·exact⟨_,he,rfl⟩
   ·exact⟨_,he,tH _ _⟩
 show mt _ (x,y).1 (x,y).2↔_
 rw[<-e1,mZ,e3]
 show (nP (x,y)∈P/\_)\/_↔_
 rw[e2]
structure Way (L:List (Str×Str)) (M:Str->Option Str) (l c:Str) (row:List Str):Prop where
 odd:row.length%2=1
 head:row.head? =some l
 last:row.getLast? =some c
 nd:row.Nodup
 alt:Alt (E0 M) (E1 M L) row
 un:M c=none
theorem Way.at0 {L:List (Str×Str)} {M:Str->Option Str} (h:Way L M l c row) (p:0<row.length):row[0]=l:=by
 have:=h.head
 rw[List.head?_eq_getElem?,List.getElem?_eq_getElem p] at this
 exact Option.some.inj this
theorem Way.atE {L:List (Str×Str)} {M:Str->Option Str} (h:Way L M l c row) (p:row.length -1<row.length):row[row.length -1]=c:=by
 have:=h.last
 rw[List.getLast?_eq_getElem?,List.getElem?_eq_getElem p] at this
 exact Option.some.inj this
theorem Way.El (hw:gh ns w) (hn:ns.Nodup) (hP:Plan w P) (h:Way (pP w) (mO P) l c row):rQ w P (eds row):=by
 have odd:=h.odd
 have ev: ∀i (hi:i+1<row.length),i%2=0->mt P (row[i]'(by omega)) row[i+1]:=fun i hi e=>by
  have:=h.alt.at_ i hi
  rw[if_pos e] at this
  exact (ql hP).mp this.1
 have od: ∀i (hi:i+1<row.length),i%2=1->E1 (mO P) (pP w) (row[i]'(by omega)) row[i+1]:=fun i hi e=>by
  have:=h.alt.at_ i hi
  rw[if_neg (by omega)] at this
  exact this
 refine⟨(mH h.nd).1,(mH h.nd).2,fun e he=> ?_,?_,fun e he x hx y hy=> ?_⟩
 ·obtain⟨i,hi,rfl⟩:=kU he
  by_cases q:i%2=0
  ·exact BH hw hP (ev i hi q)
  ·rcases (od i hi (by omega)).1 with g|g
   ·exact (m5 hw hn).mp g
   ·obtain⟨v,hv⟩:=(m5 hw hn).mp g
    exact⟨v,hw.sym _ _ _ hv⟩
 ·have nn:(qZ P (eds row)).Nodup:=by
   have:=(mH h.nd).1
   have h2:(eds row).Nodup:=List.nodup_iff_pairwise_ne.mpr (List.Pairwise.of_map nP (fun a b (h:nP a≠nP b) e=>h (by rw[e])) (List.nodup_iff_pairwise_ne.mp this))
   exact h2.filter _
  refine uH nn (fun p hp=>(mH h.nd).2 p (lG.mp hp).1) fun p hp q hq x hx hy=> ?_
  obtain⟨p1,p2⟩:=lG.mp hp
  obtain⟨q1,q2⟩:=lG.mp hq
  obtain⟨i,hi,rfl⟩:=kU p1
  obtain⟨j,hj,rfl⟩:=kU q1
  have i1:i%2=1:=Classical.byContradiction fun e=>p2 (ev i hi (by omega))
  have j1:j%2=1:=Classical.byContradiction fun e=>q2 (ev j hj (by omega))
  have ij:i=j:=by
   rcases hx with e|e <;> rcases hy with f|f <;> have k:=jg h.nd (e.symm.trans f) <;> omega
  subst ij
  rfl
 ·have hxr:x∈row:=by
   have:=mG he
   rcases hx with e|e <;> (rw[e];first|exact this.1|exact this.2)
  obtain⟨i,hi,rfl⟩:=List.mem_iff_getElem.mp hxr
  by_cases q:i%2=0
  ·by_cases q2:i+1<row.length
   ·left
    rw[qk hP hy (ev i q2 q)]
    exact l8 row i q2
   ·have:i=row.length -1:=by omega
    subst this
    rw[h.atE hi] at hy
    exact absurd ⟨y,hy⟩ (BG.mp h.un)
  ·right
   have hi':i -1+1<row.length:=by omega
   have ee:i -1+1=i:=by omega
   have:=ev (i -1) hi' (by omega)
   simp only[ee] at this
   rw[qk hP hy (nU this)]
   have:=l8 row (i -1) hi'
   simp only[ee] at this
   exact this
theorem Way.turn (hw:gh ns w) (hn:ns.Nodup) (hP:Plan w P) (h:Way (pP w) (mO P) l c row) (ne:l≠c):Plan w (pO P (alo false row))/\ ∀x,Sv (pO P (alo false row)) x↔(x≠l/\Sv P x)\/x=c:=by
 have ek:=h.El hw hn hP
 have odd:=h.odd
 have len:3<=row.length:=by
  refine Classical.byContradiction fun q=> ?_
  have e1:row.length=1:=by omega
  have a:=h.at0 (by omega)
  have b:=h.atE (by omega)
  simp only[e1,Nat.sub_self] at b
  exact ne (a.symm.trans b)
 rw[BC]
 have hp:=v7 hP (ek.turn hw hP)
 have ev: ∀i (hi:i+1<row.length),i%2=0->mt P (row[i]'(by omega)) row[i+1]:=fun i hi e=>by
  have:=h.alt.at_ i hi
  rw[if_pos e] at this
  exact (ql hP).mp this.1
 have od: ∀i (hi:i+1<row.length),i%2=1->mt (pO P ((eds row).map nP)) (row[i]'(by omega)) row[i+1]:=fun i hi e=>by
  have:=h.alt.at_ i hi
  rw[if_neg (by omega)] at this
  have ge:=l8 row i hi
  exact (tM hw hP ek ((mH h.nd).2 _ ge)).mpr (.inr ⟨.inl ge,fun m=>this.2.1 ((ql hP).mpr m)⟩)
 have l0:row[0]'(by omega)=l:=h.at0 (by omega)
 have lE:=h.atE (by omega)
 refine⟨hp,fun x=> ?_⟩
 by_cases hx:x∈row
 ·obtain⟨i,hi,rfl⟩:=List.mem_iff_getElem.mp hx
  by_cases i0:i=0
  ·subst i0
   rw[l0]
   constructor
   ·rintro⟨y,hy⟩
    have ly:l≠y:=uG hp hy
    rcases (tM hw hP ek ly).mp hy with ⟨a,b⟩|⟨a,b⟩
    ·have e0:=ev 0 (by omega) rfl
     rw[l0] at e0
     have:=qk hP a e0
     subst this
     have g:=l8 row 0 (by omega)
     rw[l0] at g
     exact absurd (.inl g) b
    ·rcases a with a|a
     ·obtain⟨j,hj,e⟩:=kU a
      have e1:row[0]'(by omega)=row[j]'(by omega):=by rw[l0];exact congrArg Prod.fst e
      have:=jg h.nd e1
      subst this
      refine absurd ?_ b
      have e0:=ev 0 hj rfl
      rw[l0] at e0
      rw[show y=row[0+1] from congrArg Prod.snd e]
      exact e0
     ·obtain⟨j,hj,e⟩:=kU a
      have e1:row[0]'(by omega)=row[j+1]:=by rw[l0];exact congrArg Prod.snd e
      have:=jg h.nd e1
      omega
   ·rintro (⟨a,_⟩|a)
    ·exact absurd rfl a
    ·exact absurd a ne
  ·have s1:Sv (pO P ((eds row).map nP)) row[i]:=by
    by_cases q:i%2=1
    ·exact⟨_,od i (by omega) q⟩
    ·have:=od (i -1) (by omega) (by omega)
     have ee:i -1+1=i:=by omega
     simp only[ee] at this
     exact⟨_,nU this⟩
   refine⟨fun _=> ?_,fun _=>s1⟩
   have xl:row[i]≠l:=fun e=>by
    rw[<-l0] at e
    exact i0 (jg h.nd e)
   by_cases q:i=row.length -1
   ·subst q;exact .inr lE
   ·left
    refine⟨xl,?_⟩
    by_cases q2:i%2=0
    ·exact⟨_,ev i (by omega) q2⟩
    ·have:=ev (i -1) (by omega) (by omega)
     have ee:i -1+1=i:=by omega
     simp only[ee] at this
     exact⟨_,nU this⟩
 ·have nE: ∀y,¬((x,y)∈eds row\/(y,x)∈eds row):=fun y m=>by
   rcases m with m|m
   ·exact hx (mG m).1
   ·exact hx (mG m).2
  have xl:x≠l:=fun e=>hx (by rw[e,←l0];exact List.getElem_mem _)
  have xc:x≠c:=fun e=>hx (by rw[e,←lE];exact List.getElem_mem _)
  constructor
  ·rintro⟨y,hy⟩
   rcases (tM hw hP ek (uG hp hy)).mp hy with ⟨a,_⟩|⟨a,_⟩
   ·exact .inl ⟨xl,y,a⟩
   ·exact absurd a (nE y)
  ·rintro (⟨_,y,hy⟩|e)
   ·exact⟨y,(tM hw hP ek (uG hP hy)).mpr (.inl ⟨hy,nE y⟩)⟩
   ·exact absurd e xc
end
def Jp (w:Wb) (X:Str->Prop) (c:Str):Prop:= ∀N,Plan w N->Sv N c->(∀x,X x->Sv N x)->False
end Sw
namespace Sw
open PySem PySem.Spec PyProof.Rows L2
structure Tree (ns:List Str) (L:List (Str×Str)) (M:Str->Option Str) (A:List Str) (zs:List Kt) (c:Str):Prop where
 kb: ∀z∈zs,KB M (hf z.ms) z.k z.b z.ms
 kl: ∀z∈zs,KL L (hf z.ms) z.k
 zn:(zs.map (·.ms)).flatten.Nodup
 zi: ∀z∈zs,∀x∈z.ms,x∈ns
 an:A.Nodup
 ai: ∀x∈A,x∈ns
 az: ∀z∈zs,∀x∈z.ms,x∉A
 cl: ∀z∈zs,∀a b,(a,b)∈L->a∈z.ms->b∈z.ms\/b∈A
 cnt:A.length+1=zs.length
 sv: ∀z∈zs,∀x∈z.ms,x≠c->(M x).isSome=true
 root: ∃z∈zs,c∈z.ms
section
variable {ns:List Str} {L:List (Str×Str)} {M N:Str->Option Str} {A:List Str} {zs:List Kt} {c:Str}
theorem Tree.one (h:Tree ns L M A zs c) {x y:Kt} (hx:x∈zs) (hy:y∈zs) {d:Str} (h1:d∈x.ms) (h2:d∈y.ms):x=y:=by
 obtain⟨i,hi⟩:=List.getElem?_of_mem hx
 obtain⟨j,hj⟩:=List.getElem?_of_mem hy
 have:=dF h.zn hi hj h1 h2
 subst this
 rw[hi] at hj
 exact Option.some.inj hj
end
def Mx (ns:List Str) (w:Wb) (P:List (Str×Str)):Prop:= ∀N,iC ns (pP w) N->(ns.filter fun c=>(mO P c).isNone).length<=(ns.filter fun c=>(N c).isNone).length
structure Jq (ns:List Str) (w:Wb) (ah:Str->Str->Prop) (P:List (Str×Str)) (pre:List Str):Prop where
 pl:Plan w P
 mx:Mx ns w P
 ba: ∀c∈pre,¬Sv P c->Jp w (fun x=>ah x c/\Sv P x) c
section
variable {ns:List Str} {w:Wb} {P P':List (Str×Str)} {ah:Str->Str->Prop} {pre:List Str} {c l:Str} {A:List Str} {zs:List Kt}
theorem jh {P:List (Str×Str)} {x:Str}:(mO P x).isNone=true↔ ¬Sv P x:=by
 rw[Option.isNone_iff_eq_none,BG]
theorem Mx.turn (hn:ns.Nodup) (h:Mx ns w P) (e: ∀x,Sv P' x↔(x≠l/\Sv P x)\/x=c) (ne:l≠c) (hl:Sv P l) (hc: ¬Sv P c) (ln:l∈ns) (cn:c∈ns):Mx ns w P':=fun N hN=>by
 have key:(c::ns.filter fun x=>(mO P' x).isNone).Perm (l::ns.filter fun x=>(mO P x).isNone):=by
  refine tK (List.nodup_cons.mpr ⟨fun m=> ?_,hn.filter _⟩) (List.nodup_cons.mpr ⟨fun m=> ?_,hn.filter _⟩) fun x=> ?_
  ·exact jh.mp (List.mem_filter.mp m).2 ((e c).mpr (.inr rfl))
  ·exact jh.mp (List.mem_filter.mp m).2 hl
  ·rw[List.mem_cons,List.mem_cons,List.mem_filter,List.mem_filter,jh,jh,e]
   constructor
   ·rintro (a|⟨a,b⟩)
    ·subst a;exact .inr ⟨cn,hc⟩
    ·by_cases q:x=l
     ·exact .inl q
     ·exact .inr ⟨a,fun s=>b (.inl ⟨q,s⟩)⟩
   ·rintro (a|⟨a,b⟩)
    ·subst a;exact .inr ⟨ln,fun s=>s.elim (fun s=>s.1 rfl) ne⟩
    ·by_cases q:x=c
     ·exact .inl q
     ·exact .inr ⟨a,fun s=>s.elim (fun s=>b s.2) q⟩
 have k2:=key.length_eq
 rw[List.length_cons,List.length_cons] at k2
 have:=h N hN
 omega
theorem Jq.turn (hw:gh ns w) (hn:ns.Nodup) (h:Jq ns w ah P pre) (hp:Plan w P') (e: ∀x,Sv P' x↔(x≠l/\Sv P x)\/x=c) (ne:l≠c) (hl:Sv P l) (hc: ¬Sv P c) (cn:c∈ns) (hpre: ∀d∈pre,¬ah l d/\ ¬ah c d/\d≠l):Jq ns w ah P' (pre++[c]):=
 ⟨hp,h.mx.turn hn e ne hl hc (hl.inn hw h.pl) cn,fun d hd nd=>by
  rcases List.mem_append.mp hd with hd|hd
  ·obtain⟨p1,p2,p3⟩:=hpre d hd
   have nP: ¬Sv P d:=fun s=>nd ((e d).mpr (.inl ⟨p3,s⟩))
   intro N hN h1 h2
   exact h.ba d hd nP N hN h1 fun x hx=>h2 x ⟨hx.1,(e x).mpr (.inl ⟨fun q=>p1 (q▸hx.1),hx.2⟩)⟩
  ·rw[List.mem_singleton.mp hd] at nd
   exact absurd ((e c).mpr (.inr rfl)) nd⟩
theorem Tree.conn (hw:gh ns w) (hn:ns.Nodup) {M:Str->Option Str} {A:List Str} {zs:List Kt} (h:Tree ns (pP w) M A zs c) {z:Kt} (hz:z∈zs) {a:Str} (ha:a∈z.ms) (d:Str):Rch w (fun a=>a∈A) a d↔d∈z.ms:=by
 constructor
 ·intro r
  induction r with
  |refl=>exact ha
  |step _ e nb ih=>
   rcases h.cl z hz _ _ ((m5 hw hn).mpr ⟨_,e⟩) ih with q|q
   ·exact q
   ·exact absurd q nb
 ·intro hc
  exact (h.kb z hz).conn hw hn (h.kl z hz) (fun c hc=>h.az z hz c hc) a ha d hc
end
end Sw
namespace Sw
open PySem PySem.Spec PyProof.Rows L2
section
variable {ns:List Str} {w:Wb} {N:List (Str×Str)} {f o:Str}
theorem EI {P:List (Str×Str)} {x:Str}:x∈bf P↔Sv P x:=by
 rw[eR]
 constructor
 ·rintro⟨q,hq,e|e⟩
  ·exact⟨q.2,.inl (e▸hq)⟩
  ·exact⟨q.1,.inr (e▸hq)⟩
 ·rintro⟨y,h|h⟩
  ·exact⟨_,h,.inl rfl⟩
  ·exact⟨_,h,.inr rfl⟩
structure Jr (L y:List (List Str)) (pre:List Str):Prop where
 ne:y≠[]
 sub: ∀S∈y,S∈L
 cl: ∀S∈y,∀T∈L,(∀x∈pre,x∈S->x∈T)->T∈y
 ba: ∀(p q:List Str) (c:Str),pre=p++c::q-> ∀S∈y,c∉S-> ∀T∈L,(∀x∈p,x∈S->x∈T)->c∉T
theorem Jr.keep {L y:List (List Str)} {pre:List Str} {x:Str} (h:Jr L y pre) (e: ∀S∈y,x∉S):Jr L y (pre++[x]):=by
 refine⟨h.ne,h.sub,fun S hS T hT k=>h.cl S hS T hT fun z hz=>k z (List.mem_append_left _ hz),fun p q c hp S hS nc T hT k=> ?_⟩
 rcases List.eq_nil_or_concat q with r|⟨q',d,r⟩
 ·subst r
  obtain⟨e1,e2⟩:=List.append_inj' hp rfl
  have e2:x=c:=List.head_eq_of_cons_eq e2
  subst e1;subst e2
  exact e T (h.cl S hS T hT k)
 ·rw[List.concat_eq_append] at r
  subst r
  have hp:pre++[x]=(p++c::q')++[d]:=by rw[hp];simp
  obtain⟨e1,_⟩:=List.append_inj' hp rfl
  exact h.ba p q' c e1 S hS nc T hT k
end
end Sw
namespace Sw
open PySem PySem.Spec PyProof.Rows L2
section
variable {ns:List Str} {L:List (Str×Str)} {M N:Str->Option Str} {A:List Str} {zs:List Kt}
theorem Cert.rep (h:Cert ns L M A zs) (hN:iC ns L N) (irr: ∀a,(a,a)∉L): ∃f:Kt->Str,(zs.map f).Nodup/\ ∀z∈zs,∃c∈z.ms,(N c=none/\f z=c)\/(N c=some (f z)/\f z∈A):=by
 classical
 have hi: ∀a,N a≠some a:=fun a e=>irr a (hN.edge _ _ e)
 have key: ∀z∈zs,∃g,∃c∈z.ms,(N c=none/\g=c)\/(N c=some g/\g∈A):=fun z hz=>by
  refine Classical.byContradiction fun q=> ?_
  have par:=rT hN.sym hi z.ms.length (Nat.le_refl _) (h.kb z hz).nodup fun c hc=>by
   cases e:N c with
   |none=>exact absurd ⟨c,c,hc,.inl ⟨e,rfl⟩⟩ q
   |some d=>
    refine⟨d,?_,rfl⟩
    rcases h.cl z hz c d (hN.edge _ _ e) hc with a|a
    ·exact a
    ·exact absurd ⟨d,c,hc,.inr ⟨e,a⟩⟩ q
  have:=(h.kb z hz).xJ
  omega
 let f:Kt->Str:=fun z=>if hz:z∈zs then Classical.choose (key z hz) else ""
 have hf: ∀z∈zs,∃c∈z.ms,(N c=none/\f z=c)\/(N c=some (f z)/\f z∈A):=fun z hz=>by
  have e:f z=Classical.choose (key z hz):=dif_pos hz
  rw[e]
  exact Classical.choose_spec (key z hz)
 have one: ∀x∈zs,∀y∈zs,∀c,c∈x.ms->c∈y.ms->x=y:=fun x hx y hy c h1 h2=>by
  obtain⟨i,hi⟩:=List.getElem?_of_mem hx
  obtain⟨j,hj⟩:=List.getElem?_of_mem hy
  have:=dF h.zn hi hj h1 h2
  subst this
  rw[hi] at hj
  exact Option.some.inj hj
 refine⟨f,nodup_map_on (zh h) fun x hx y hy e=> ?_,hf⟩
 obtain⟨c,hc,c1⟩:=hf x hx
 obtain⟨d,hd,d1⟩:=hf y hy
 rcases c1 with ⟨_,c2⟩|⟨c2,c3⟩
 ·rcases d1 with ⟨_,d2⟩|⟨_,d3⟩
  ·have:c=d:=by rw[<-c2,←d2,e]
   subst this
   exact one x hx y hy c hc hd
  ·exact absurd (by rw[<-c2,e];exact d3) (h.az x hx c hc)
 ·rcases d1 with ⟨_,d2⟩|⟨d2,_⟩
  ·exact absurd (by rw[<-d2,←e];exact c3) (h.az y hy d hd)
  ·rw[<-e] at d2
   have:=hN.inj c2 d2
   subst this
   exact one x hx y hy c hc hd
theorem Cert.KP (h:Cert ns L M A zs) (hn:ns.Nodup) (hN:iC ns L N) (irr: ∀a,(a,a)∉L) (e:(ns.filter fun c=> !(N c).isSome).length+A.length=zs.length) {x:Str} (hx:x∈ns) (nx:N x=none): ∃z∈zs,x∈z.ms:=by
 obtain⟨f,nd,hf⟩:=h.rep hN irr
 have xu:x∈ns.filter fun c=> !(N c).isSome:=List.mem_filter.mpr ⟨hx,by rw[nx];rfl⟩
 by_cases q:x∈zs.map f
 ·obtain⟨z,hz,e2⟩:=List.mem_map.mp q
  obtain⟨c,hc,c1⟩:=hf z hz
  rcases c1 with ⟨_,c2⟩|⟨c2,_⟩
  ·exact⟨z,hz,by rw[<-e2,c2];exact hc⟩
  ·have:=hN.sym _ _ c2
   rw[e2,nx] at this;cases this
 ·exfalso
  have l:=lj nd (ys:=((ns.filter fun c=> !(N c).isSome).erase x)++A) fun g hg=>by
   have gx:g≠x:=fun e=>q (e▸hg)
   obtain⟨z,hz,rfl⟩:=List.mem_map.mp hg
   obtain⟨c,hc,c1⟩:=hf z hz
   rcases c1 with ⟨c1,c2⟩|⟨_,c3⟩
   ·refine List.mem_append_left _ ((List.mem_erase_of_ne gx).mpr (List.mem_filter.mpr ⟨by rw[c2];exact h.zi z hz c hc,by rw[c2,c1];rfl⟩))
   ·exact List.mem_append_right _ c3
  rw[List.length_map,List.length_append,List.length_erase_of_mem xu] at l
  have:=List.length_pos_of_mem xu
  omega
theorem EJ (sym: ∀a b,(a,b)∈L->(b,a)∈L) {qs:List (Str×Str)} (hn:ns.Nodup) (h2:dE qs) (h3: ∀q∈qs,q∈L) (h4: ∀q∈qs,q.1∈ns/\q.2∈ns): ∃N:Str->Option Str,iC ns L N/\(∀x y,N x=some y↔(x,y)∈qs\/(y,x)∈qs)/\2*qs.length+(ns.filter fun c=> !(N c).isSome).length=ns.length:=by
 obtain⟨N,hN⟩: ∃N:Str->Option Str,∀x y,N x=some y↔(x,y)∈qs\/(y,x)∈qs:=by
  refine⟨fun x=>aF (qs.flatMap fun p=>[(p.1,p.2),(p.2,p.1)]) x,fun x y=> ?_⟩
  have kn:((qs.flatMap fun p=>[(p.1,p.2),(p.2,p.1)]).map (·.1)).Nodup:=by
   have:(qs.flatMap fun p=>[(p.1,p.2),(p.2,p.1)]).map (·.1)=bf qs:=by
    unfold bf
    rw[List.map_flatMap]
    rfl
   rw[this];exact h2
  have mem:(x,y)∈(qs.flatMap fun p=>[(p.1,p.2),(p.2,p.1)])↔(x,y)∈qs\/(y,x)∈qs:=by
   rw[List.mem_flatMap]
   constructor
   ·rintro⟨p,hp,h⟩
    rcases List.mem_cons.mp h with e|e
    ·cases e;exact .inl hp
    ·have:=List.mem_singleton.mp e
     cases this;exact .inr hp
   ·rintro (h|h)
    ·exact⟨_,h,List.mem_cons_self⟩
    ·exact⟨_,h,by simp⟩
  rw[<-mem]
  exact⟨fun h=>mQ h,fun h=>lX kn h⟩
 refine⟨N,⟨fun a b e=>(hN b a).mpr ((hN a b).mp e).symm,fun a b e=> ?_,fun a b e=> ?_⟩,hN,?_⟩
 ·rcases (hN a b).mp e with q|q
  ·exact (h4 _ q).1
  ·exact (h4 _ q).2
 ·rcases (hN a b).mp e with q|q
  ·exact h3 _ q
  ·exact sym _ _ (h3 _ q)
 have e:(bf qs).length=(ns.filter fun c=>(N c).isSome).length:=by
  refine (tK h2 (hn.filter _) fun x=> ?_).length_eq
  rw[eR,List.mem_filter]
  constructor
  ·rintro⟨q,hq,e⟩
   rcases e with rfl|rfl
   ·exact⟨(h4 q hq).1,by rw[(hN q.1 q.2).mpr (.inl hq)];rfl⟩
   ·exact⟨(h4 q hq).2,by rw[(hN q.2 q.1).mpr (.inr hq)];rfl⟩
  ·rintro⟨_,e⟩
   obtain⟨d,hd⟩:=Option.isSome_iff_exists.mp e
   rcases (hN x d).mp hd with q|q
   ·exact⟨_,q,.inl rfl⟩
   ·exact⟨_,q,.inr rfl⟩
 rw[uE] at e
 have:=nY (fun c=>(N c).isSome) ns
 omega
theorem Cert.left (h:Cert ns L M A zs) (g:Gr ns L M) {k:Nat} (hk:2*k+(ns.filter fun c=> !(M c).isSome).length=ns.length) {x:Str} (hx:x∈ns) (mt:Mt L (ns.filter fun c=> !decide (c=x)) k): ∃z∈zs,x∈z.ms:=by
 obtain⟨qs,q1,q2,q3,q4⟩:=mt
 have q5: ∀q∈qs,q.1∈ns/\q.2∈ns:=fun q hq=>⟨(List.mem_filter.mp (q4 q hq).1).1,(List.mem_filter.mp (q4 q hq).2).1⟩
 obtain⟨N,MN,hN,cnt⟩:=EJ g.sym g.nd q2 q3 q5
 have nx:N x=none:=by
  cases e:N x with
  |none=>rfl
  |some y=>
   rcases (hN x y).mp e with q|q
   ·have:=(List.mem_filter.mp (q4 _ q).1).2;simp at this
   ·have:=(List.mem_filter.mp (q4 _ q).2).2;simp at this
 have c2:=h.cnt
 exact h.KP g.nd MN g.irr (by omega) hx nx
end
end Sw
namespace Sw
open PySem PySem.Spec PyProof.Rows L2
structure KQ (w:Wb) (cs:List Str) (p:List (Str×Str)):Prop where
 plan:Plan w p
 inn: ∀q∈p,q.1∈cs/\q.2∈cs
section
variable {w:Wb} {cs:List Str} {c x:Str} {p:List (Str×Str)}
theorem Plan.nil (w:Wb):Plan w []:=⟨List.Pairwise.nil,List.nodup_nil,by simp,by simp⟩
theorem KQ.nil (w:Wb) (cs:List Str):KQ w cs []:=⟨Plan.nil w,by simp⟩
theorem Plan.tail {q:Str×Str} (h:Plan w (q::p)):Plan w p:=⟨(List.pairwise_cons.mp h.rise).2,Ck (List.sublist_cons_self q p) h.apart,fun r hr=>h.lt r (List.mem_cons_of_mem _ hr),fun r hr=>h.swap r (List.mem_cons_of_mem _ hr)⟩
end
end Sw
namespace Sw
open PySem PySem.Spec PyProof.Rows L2
structure OkP (ss:List (Str×Str)) (tk:List Str) (p:List (Str×Str)):Prop where
 rise:p.Pairwise pLt
 inn: ∀q∈p,q∈ss
 apart:dE p
 free: ∀z∈bf p,z∉tk
theorem OkP.nil (ss:List (Str×Str)) (tk:List Str):OkP ss tk []:=⟨List.Pairwise.nil,by simp,List.nodup_nil,by simp[bf]⟩
end Sw
namespace Sw
open PySem PySem.Spec PyProof.Rows L2
section
variable {ns:List Str} {w:Wb} {P Q:List (Str×Str)} {ord:List Str}
theorem uO (hw:gh ns w) (hn:ns.Nodup) (hP:Plan w P):(ns.filter fun c=>(mO P c).isNone).length+2*P.length=ns.length:=by
 have h1:(ns.filter fun c=> !(mO P c).isNone).Perm (bf P):=tK (hn.filter _) hP.apart fun x=>by
  rw[List.mem_filter,EI]
  constructor
  ·rintro⟨_,h⟩
   refine Classical.byContradiction fun g=> ?_
   rw[jh.mpr g] at h
   cases h
  ·intro h
   refine⟨h.inn hw hP,?_⟩
   cases e:(mO P x).isNone with
   |true=>exact absurd h (jh.mp e)
   |false=>rfl
 have h2:=h1.length_eq
 rw[uE] at h2
 have h3: ∀(l:List Str) (f:Str->Bool),(l.filter f).length+(l.filter fun c=> !f c).length=l.length:=by
  intro l f
  induction l with
  |nil=>rfl
  |cons a l ih=>
   cases e:f a with
   |true=>rw[List.filter_cons_of_pos e,List.filter_cons_of_neg (by rw[e];decide)];simp only[List.length_cons];omega
   |false=>rw[List.filter_cons_of_neg (by rw[e];decide),List.filter_cons_of_pos (by rw[e];rfl)];simp only[List.length_cons];omega
 have:=h3 ns fun c=>(mO P c).isNone
 omega
theorem Mx.len (h:Mx ns w P) (hw:gh ns w) (hn:ns.Nodup) (hP:Plan w P) (hQ:Plan w Q):Q.length<=P.length:=by
 have h1:=h _ (KO hw hn hQ)
 have h2:=uO hw hn hP
 have h3:=uO hw hn hQ
 omega
end
end Sw
namespace Sw
open PySem PySem.Spec PyProof.Rows L2
def Tr:SR:=fun _ _=>True
def FlA (m':Str->Option Str) (row:List Str):Prop:=Alt Tr (E0 m') row
section
variable {X Y:SR}
theorem Alt.split: ∀(n:Nat) {r s:List Str},r.length<=n->r.length%2=1->Alt X Y (r++s)->Alt X Y r/\Alt Y X s/\ ∀a b,r.getLast? =some a->s.head? =some b->X a b
 |n,[],_,_,h,_=>by simp at h
 |n,[x],[],_,_,_=>⟨trivial,trivial,fun a b _ h=>by cases h⟩
 |n,[x],y::s,_,_,h=>⟨trivial,h.2,fun a b h1 h2=>by cases h1;cases h2;exact h.1⟩
 |n,[x,y],_,_,h,_=>by simp at h
 |0,x::y::z::r,_,h,_,_=>by simp at h
 |n+1,x::y::z::r,s,hn,ho,hr=>by
  obtain⟨a,b,c⟩:=Alt.split n (r:=z::r) (s:=s) (by simp at hn ⊢; omega) (by simp at ho ⊢; omega) hr.2.2
  refine⟨⟨hr.1,hr.2.1,a⟩,b,fun u v h1 h2=>c u v ?_ h2⟩
  rw[<-h1];simp[List.getLast?_cons_cons]
end
theorem Tr.symm (a b:Str) (_:Tr a b):Tr b a:=trivial
structure Flp (m m':Str->Option Str) (ms row:List Str):Prop where
 off: ∀d∈ms,d∉row->m' d=m d
 on:FlA m' row
structure xM (m:Str->Option Str) (L:List (Str×Str)) (n:Nat) (k:aE) (ms:List Str) (c b:Str) (row:List Str):Prop extends Led m L ms c b row where
 reb: ∀m',Flp m m' ms row->KB m' n k c ms
theorem xM.single {m:Str->Option Str} {L:List (Str×Str)} {n:Nat} (c:Str):xM m L (n+1) (.single c) [c] c c [c]:=⟨Led.single c,fun _ _=>⟨rfl,rfl⟩⟩
structure BI (m:Str->Option Str) (L:List (Str×Str)) (N:Nat) (t:List Kt) (w:Nat->Nat) (Lk:Nat->Str->Str->Prop) (c:Str) (k0 k:Nat) (row:List Str) (nb:Nat->Str):Prop extends Part m L t w c k row where
 le:k<=k0
 lt:k0<t.length
 par:(k0 -k)%2=0
 hd:nb k0=c
 up: ∀x∈row,∃j y,k<=j/\j<=k0/\t[w j]? =some y/\x∈y.ms
 lk: ∀j,k<=j->j<k0->(k0 -j)%2=0->Lk j (nb (j+1)) (nb j)
 reb: ∀m',(∀j y,k<=j->j<=k0->t[w j]? =some y-> ∀d∈y.ms,d∉row->m' d=m d)->FlA m' row->(∀j y,k<=j->j<=k0->t[w j]? =some y->KB m' N y.k (nb j) y.ms)/\ ∀j,k<=j->j<k0->(k0 -j)%2=0->E0 m' (nb (j+1)) (nb j)
section
variable {m:Str->Option Str} {L:List (Str×Str)} {N:Nat} {t:List Kt} {w:Nat->Nat} {Lk:Nat->Str->Str->Prop} {c:Str} {k0 k:Nat} {row r1 r2:List Str} {nb:Nat->Str}
theorem xM.part (hk:k<t.length) {x:Kt} (hx:t[w k]? =some x) (h:xM m L N x.k x.ms c x.b row):BI m L N t w Lk c k k row (fun _=>c) where
 toPart:=Led.part hk hx h.toLed
 le:=Nat.le_refl _
 lt:=hk
 par:=by omega
 hd:=rfl
 up:=fun a ha=>⟨k,x,Nat.le_refl _,Nat.le_refl _,hx,h.inn a ha⟩
 lk:=fun j h1 h2=>by omega
 reb:=fun m' h1 h2=>⟨fun j y a b hy=>by
  have:j=k:=by omega
  subst this
  rw[hx] at hy;cases hy
  exact h.reb m' ⟨fun d hd hn=>h1 j x a b hx d hd hn,h2⟩,fun j h1 h2=>by omega⟩
theorem BI.step (nd:(t.map (·.ms)).flatten.Nodup) (wi: ∀i j,i<t.length->j<t.length->w i=w j->i=j) (hk:k+2<t.length) (h:BI m L N t w Lk c k0 (k+2) row nb) {x y z:Kt} (hx:t[w (k+2)]? =some x) (hy:t[w (k+1)]? =some y) (hz:t[w k]? =some z) (e0:E0 m x.b y.b) {l e:Str} (e1:E1 m L l e) (hl:Lk k l e) (h1:xM m L N y.k y.ms l y.b r1) (h2:xM m L N z.k z.ms e z.b r2):
  BI m L N t w Lk c k0 k (row++r1.reverse++r2) (fun j=>if j=k then e else if j=k+1 then l else nb j):=by
 have dis: ∀{i j:Nat} {u v:Kt},t[w i]? =some u->t[w j]? =some v->i<t.length->j<t.length-> ∀{a:Str},a∈u.ms->a∈v.ms->i=j:=fun {i j u v} hu hv hi hj {a} ha hb=>wi _ _ hi hj (dF nd hu hv ha hb)
 have hle:=h.le
 have hlt:=h.lt
 have hpar:=h.par
 have nbe: ∀j,k+2<=j->(if j=k then e else if j=k+1 then l else nb j)=nb j:=fun j hj=>by rw[if_neg (by omega),if_neg (by omega)]
 refine⟨Part.step nd wi hk h.toPart hx hy hz e0 e1 h1.toLed h2.toLed,by omega,hlt,by omega,by rw[nbe _ hle];exact h.hd,fun a ha=> ?_,fun j j1 j2 j3=> ?_,fun m' f1 f2=> ?_⟩
 ·rcases List.mem_append.mp ha with ha|ha
  ·rcases List.mem_append.mp ha with ha|ha
   ·obtain⟨j,v,j1,j2,j3,j4⟩:=h.up a ha
    exact⟨j,v,by omega,j2,j3,j4⟩
   ·exact⟨k+1,y,by omega,by omega,hy,h1.inn a (List.mem_reverse.mp ha)⟩
  ·exact⟨k,z,Nat.le_refl _,by omega,hz,h2.inn a ha⟩
 ·by_cases jk:j=k
  ·subst jk
   rw[if_pos rfl,if_neg (by omega),if_pos rfl]
   exact hl
  ·by_cases jk1:j=k+1
   ·omega
   ·rw[nbe j (by omega),nbe (j+1) (by omega)]
    exact h.lk j (by omega) j2 j3
 ·have o1:=h.odd
  have o2:=h1.odd
  unfold FlA at f2
  rw[List.append_assoc] at f2
  obtain⟨a1,a2,_⟩:=Alt.split _ (Nat.le_refl _) o1 f2
  obtain⟨a3,a4,a5⟩:=Alt.split _ (Nat.le_refl _) (by rw[List.length_reverse];exact o2) a2
  have a6:=a3.rev E0.symm Tr.symm _ (Nat.le_refl _) (by rw[List.length_reverse];exact o2)
  rw[List.reverse_reverse] at a6
  have nin: ∀{j:Nat} {v:Kt} {d:Str},j<t.length->t[w j]? =some v->d∈v.ms->(j<k+2->d∉row)/\(j≠k+1->d∉r1)/\(j≠k->d∉r2):=fun {j v d} jl hv hd=>by
   refine⟨fun j1 m1=> ?_,fun j1 m1=> ?_,fun j1 m1=> ?_⟩
   ·obtain⟨i,u,i1,i2,i3,i4⟩:=h.up d m1
    have:=dis i3 hv (by omega) jl i4 hd
    omega
   ·exact j1 (dis hv hy jl (by omega) hd (h1.inn d m1))
   ·exact j1 (dis hv hz jl (by omega) hd (h2.inn d m1))
  have out: ∀d,d∉row->d∉r1->d∉r2->d∉row++r1.reverse++r2:=fun d n1 n2 n3 g=>by
   rcases List.mem_append.mp g with g|g
   ·rcases List.mem_append.mp g with g|g
    ·exact n1 g
    ·exact n2 (List.mem_reverse.mp g)
   ·exact n3 g
  obtain⟨b1,b2⟩:=h.reb m' (fun j v j1 j2 hv d hd hn=>by
   obtain⟨_,c2,c3⟩:=nin (by omega) hv hd
   exact f1 j v (by omega) j2 hv d hd (out d hn (c2 (by omega)) (c3 (by omega)))) a1
  have by':=h1.reb m' ⟨fun d hd hn=>by
   obtain⟨c1,_,c3⟩:=nin (by omega) hy hd
   exact f1 (k+1) y (by omega) (by omega) hy d hd (out d (c1 (by omega)) hn (c3 (by omega))),a6⟩
  have bz':=h2.reb m' ⟨fun d hd hn=>by
   obtain⟨c1,c2,_⟩:=nin (by omega) hz hd
   exact f1 k z (by omega) (by omega) hz d hd (out d (c1 (by omega)) (c2 (by omega)) hn),a4⟩
  refine⟨fun j v j1 j2 hv=> ?_,fun j j1 j2 j3=> ?_⟩
  ·by_cases jk:j=k
   ·subst jk
    rw[hz] at hv;cases hv
    rw[if_pos rfl];exact bz'
   ·by_cases jk1:j=k+1
    ·subst jk1
     rw[hy] at hv;cases hv
     rw[if_neg (by omega),if_pos rfl];exact by'
    ·rw[nbe j (by omega)];exact b1 j v (by omega) j2 hv
  ·by_cases jk:j=k
   ·subst jk
    rw[if_pos rfl,if_neg (by omega),if_pos rfl]
    exact a5 l e (by rw[List.getLast?_reverse];exact h1.head) h2.head
   ·by_cases jk1:j=k+1
    ·omega
    ·rw[nbe j (by omega),nbe (j+1) (by omega)]
     exact b2 j (by omega) j2 j3
def reT (t:List Kt) (f:Nat->Str):List Kt:=t.mapIdx fun i x=>⟨x.k,f i,x.ms⟩
theorem rf (f:Nat->Str):(reT t f).length=t.length:=by unfold reT;simp
theorem xN (f:Nat->Str) (i:Nat):(reT t f)[i]? =t[i]?.map fun x=>⟨x.k,f i,x.ms⟩:=by unfold reT;simp
theorem Js (f:Nat->Str):(reT t f).map (·.ms)=t.map (·.ms):=by
 apply List.ext_getElem?
 intro i
 rw[List.getElem?_map,xN,List.getElem?_map]
 cases t[i]? <;> rfl
theorem gj.reb {m':Str->Option Str} {p q:Nat} {l:List (Str×Str)} (h:gj m t p l) (hk: ∀x∈t,KB m N x.k x.b x.ms) (hq:q<t.length) (f:Nat->Str) (on:Nat->Prop) [DecidablePred on]
  (hon: ∀i y,on i->t[i]? =some y->KB m' N y.k (f i) y.ms) (hoff: ∀i y,¬on i->t[i]? =some y->f i=y.b/\ ∀d∈y.ms,m' d=m d)
  (hl: ∀i a,i<t.length->off t.length q i%2=1->l[i]? =some a->(on i/\on (nx t.length i)/\a=(f i,f (nx t.length i))/\E0 m' (f i) (f (nx t.length i)))\/(¬on i/\ ¬on (nx t.length i)/\off t.length p i%2=1)):
  gj m' (reT t f) q l/\ ∀x∈reT t f,KB m' N x.k x.b x.ms:=by
 constructor
 ·refine⟨by rw[rf];exact hq,by rw[rf];exact h.odd,by rw[Js];exact h.nd,by rw[rf];exact h.len,fun j x y a jl hx hy ha=> ?_,by rw[rf];exact h.three⟩
  rw[rf] at jl hy⊢
  rw[xN] at hx hy
  obtain⟨x0,hx0,rfl⟩:=Option.map_eq_some_iff.mp hx
  obtain⟨y0,hy0,rfl⟩:=Option.map_eq_some_iff.mp hy
  obtain⟨g1,g2,g3⟩:=h.link j x0 y0 a jl hx0 hy0 ha
  refine⟨fun o=> ?_,g2,g3⟩
  rcases hl j a jl o ha with ⟨_,_,e1,e2⟩|⟨n1,n2,o2⟩
  ·exact⟨e1,e2.1,e2.2⟩
  ·obtain⟨e1,m1,m2⟩:=g1 o2
   obtain⟨f1,u1⟩:=hoff j x0 n1 hx0
   obtain⟨f2,u2⟩:=hoff _ y0 n2 hy0
   show a=(f j,f (nx t.length j))/\m' (f j)=some (f (nx t.length j))/\m' (f (nx t.length j))=some (f j)
   rw[f1,f2,u1 _ (hk x0 (List.mem_of_getElem? hx0)).base,u2 _ (hk y0 (List.mem_of_getElem? hy0)).base]
   exact⟨e1,m1,m2⟩
 ·intro x hx
  obtain⟨i,hi⟩:=List.getElem?_of_mem hx
  rw[xN] at hi
  obtain⟨x0,hx0,rfl⟩:=Option.map_eq_some_iff.mp hi
  by_cases o:on i
  ·exact hon i x0 o hx0
  ·obtain⟨e,u⟩:=hoff i x0 o hx0
   show KB m' N x0.k (f i) x0.ms
   rw[e]
   exact (hk x0 (List.mem_of_getElem? hx0)).congr fun d hd _=>u d hd
end
end Sw
namespace Sw
open PySem PySem.Spec PyProof.Rows L2
def Reb (ks:List Kt) (M:Str->Option Str) (row:List Str):Prop:= ∀m',(∀v∈ks,(∃a∈row,a∈v.ms)-> ∀d∈v.ms,d∉row->m' d=M d)->FlA m' row-> ∀v∈ks,(∃a∈row,a∈v.ms)-> ∃c',KB m' (hf v.ms) v.k c' v.ms
section
variable {ns:List Str} {L:List (Str×Str)} {o:a9} {ks:List Kt} {lv:Str->Nat} {rt:Str->Str} {z w x y:Kt} {c:Str} {row r1 r2:List Str} {M M':Str->Option Str} {R:Str->Prop}
theorem Reb.led (hT:fu ns L M ks) (hn:ns.Nodup) (hz:z∈ks) (h:xM M L (hf z.ms) z.k z.ms c z.b row):Reb ks M row:=fun m' h1 h2 v hv ⟨a,a1,a2⟩=>by
 have:=hT.one hn hz hv (h.inn a a1) a2
 subst this
 exact⟨c,h.reb m' ⟨h1 z hz ⟨a,a1,a2⟩,h2⟩⟩
theorem Reb.step (h:SI ns L o ks lv rt) (g:Gr ns L (aF o.mates.l)) (hw:WP L o ks lv rt c z row) (hr:Reb ks (aF o.mates.l) row) {s:Stq} (u:UpS L o ks lv rt z s) (h1:xM (aF o.mates.l) L (hf s.x.ms) s.x.k s.x.ms s.other s.x.b r1) (h2:xM (aF o.mates.l) L (hf s.y.ms) s.y.k s.y.ms s.one s.y.b r2):Reb ks (aF o.mates.l) (row++r1.reverse++r2):=fun m' f1 f2=>by
 have a1:=u.l1
 have a2:=u.l2
 have one: ∀{u' v:Kt},u'∈ks->v∈ks-> ∀{a:Str},a∈u'.ms->a∈v.ms->u'=v:=fun {u' v} hu hv {a} ha hb=>h.tops.one g.nd hu hv ha hb
 have far: ∀{v:Kt},v∈ks->(∃a∈row,a∈v.ms)->v≠s.x/\v≠s.y:=fun {v} hv ⟨a,b1,b2⟩=>by
  obtain⟨u',u1,u2,u3,_⟩:=hw.inn a b1
  have:=one hv u1 b2 u2
  subst this
  exact⟨fun e=>by rw[e] at u3;omega,fun e=>by rw[e] at u3;omega⟩
 have xy:s.x≠s.y:=fun e=>by rw[e] at a1;omega
 unfold FlA at f2
 rw[List.append_assoc] at f2
 obtain⟨b1,b2,_⟩:=Alt.split _ (Nat.le_refl _) hw.odd f2
 obtain⟨b3,b4,_⟩:=Alt.split _ (Nat.le_refl _) (by rw[List.length_reverse];exact h1.odd) b2
 have b5:=b3.rev E0.symm Tr.symm _ (Nat.le_refl _) (by rw[List.length_reverse];exact h1.odd)
 rw[List.reverse_reverse] at b5
 have out: ∀d,d∉row->d∉r1->d∉r2->d∉row++r1.reverse++r2:=fun d n1 n2 n3 q=>by
  rcases List.mem_append.mp q with q|q
  ·rcases List.mem_append.mp q with q|q
   ·exact n1 q
   ·exact n2 (List.mem_reverse.mp q)
  ·exact n3 q
 intro v hv ⟨a,m1,m2⟩
 rcases List.mem_append.mp m1 with m1|m1
 ·rcases List.mem_append.mp m1 with m1|m1
  ·refine hr m' (fun v' hv' t' d hd hn=> ?_) b1 v hv ⟨a,m1,m2⟩
   obtain⟨t1,t2,t3⟩:=t'
   obtain⟨e1,e2⟩:=far hv' ⟨t1,t2,t3⟩
   exact f1 v' hv' ⟨t1,List.mem_append_left _ (List.mem_append_left _ t2),t3⟩ d hd (out d hn (fun q=>e1 (one hv' u.xk hd (h1.inn d q))) fun q=>e2 (one hv' u.yk hd (h2.inn d q)))
  ·have m1':=List.mem_reverse.mp m1
   have e:=one u.xk hv (h1.inn a m1') m2
   subst e
   exact⟨_,h1.reb m' ⟨fun d hd hn=>f1 _ u.xk ⟨a,List.mem_append_left _ (List.mem_append_right _ m1),m2⟩ d hd (out d (fun q=>(far u.xk ⟨d,q,hd⟩).1 rfl) hn fun q=>xy (one u.xk u.yk hd (h2.inn d q))),b5⟩⟩
 ·have e:=one u.yk hv (h2.inn a m1) m2
  subst e
  exact⟨_,h2.reb m' ⟨fun d hd hn=>f1 _ u.yk ⟨a,List.mem_append_right _ m1,m2⟩ d hd (out d (fun q=>(far u.yk ⟨d,q,hd⟩).2 rfl) (fun q=>xy (one u.xk u.yk (h1.inn d q) hd)) hn),b4⟩⟩
end
inductive Sbk (a:aE):aE->Prop where
 |refl:Sbk a a
 |inn {k:aE} {r:List aE} {l:List (Str×Str)}:k∈r->Sbk a k->Sbk a (.group r l)
theorem Sbk.trans {a b c:aE} (h:Sbk a b) (g:Sbk b c):Sbk a c:=by
 induction g with
 |refl=>exact h
 |inn m _ ih=>exact .inn m ih
theorem Sbk.kb {m:Str->Option Str} {a k:aE} (h:Sbk a k): ∀{n:Nat} {b:Str} {ms:List Str},KB m n k b ms-> ∃n' b' ms',KB m n' a b' ms':=by
 induction h with
 |refl=>intro n b ms g;exact⟨n,b,ms,g⟩
 |inn hm _ ih=>
  intro n b ms g
  cases n with
  |zero=>exact g.elim
  |succ n=>
   obtain⟨t,p,h1,h2,h3,h4,h5⟩:=g
   rw[h2] at hm
   obtain⟨x,hx,rfl⟩:=List.mem_map.mp hm
   exact ih (h3 x hx)
theorem BJ {R S:aE->List Str->Prop}: ∀{r:List aE} {xs ys:List (List Str)},(∀k∈r,∀a b,R k a->S k b->a=b)->F2 R r xs->F2 S r ys->xs=ys
 |_,_,_,_,.nil,.nil=>rfl
 |k::r,a::xs,b::ys,h,.cons h1 h2,.cons g1 g2=>by
  rw[h k List.mem_cons_self a b h1 g1,BJ (fun k hk=>h k (List.mem_cons_of_mem _ hk)) h2 g2]
theorem KM.uniq: ∀{n n':Nat} {k:aE} {ms ms':List Str},KM n k ms->KM n' k ms'->ms=ms'
 |0,_,_,_,_,h,_=>h.elim
 |_+1,0,_,_,_,_,h=>h.elim
 |n+1,n'+1,.single c,_,_,h,g=>h.trans g.symm
 |n+1,n'+1,.group r l,_,_,⟨rs,h1,h2⟩,⟨rs',g1,g2⟩=>by
  have e:=BJ (R:=KM n) (S:=KM n') (fun k _ a b ha hb=>KM.uniq ha hb) h1 g1
  rw[h2,g2,e]
theorem zj {t:List Kt} (hp: ∀x∈t,1<=x.ms.length):t.length<=(t.map (·.ms)).flatten.length:=by
 induction t with
 |nil=>exact Nat.zero_le _
 |cons x t ih=>
  have:=hp x List.mem_cons_self
  have:=ih fun y hy=>hp y (List.mem_cons_of_mem _ hy)
  rw[List.map_cons,List.flatten_cons,List.length_append,List.length_cons]
  omega
theorem Cq {t:List Kt} (hp: ∀x∈t,1<=x.ms.length) {x:Kt} (hx:x∈t):x.ms.length+t.length<=(t.map (·.ms)).flatten.length+1:=by
 induction t with
 |nil=>cases hx
 |cons y t ih=>
  rw[List.map_cons,List.flatten_cons,List.length_append,List.length_cons]
  rcases List.mem_cons.mp hx with rfl|hx
  ·have:=zj fun z hz=>hp z (List.mem_cons_of_mem x hz)
   omega
  ·have:=ih (fun z hz=>hp z (List.mem_cons_of_mem _ hz)) hx
   have:=hp y List.mem_cons_self
   omega
theorem KB.fit {m:Str->Option Str}: ∀{n:Nat} {k:aE} {b:Str} {ms:List Str},KB m n k b ms->KB m (hf ms) k b ms
 |0,_,_,_,h=>h.elim
 |n+1,.single c,b,ms,h=>by
  rw[h.2,show hf [c]=0+1 by simp[hf]]
  exact⟨h.1,rfl⟩
 |n+1,.group r l,b,ms,⟨t,p,h1,h2,h3,h4,h5⟩=>by
  have pos: ∀x∈t,1<=x.ms.length:=fun x hx=>List.length_pos_of_mem (h3 x hx).base
  have ml:ms.length=(t.map (·.ms)).flatten.length:=by rw[h4,(aV _).length_eq]
  have t3:=h1.three
  have big:=zj pos
  obtain⟨q,hq⟩: ∃q,hf ms=q+1:=⟨hf ms -1,by unfold hf;omega⟩
  rw[hq]
  refine⟨t,p,h1,h2,fun x hx=>(h3 x hx).fit.mono ?_,h4,h5⟩
  have:=Cq pos hx
  unfold hf at hq⊢
  omega
theorem KB.part {m:Str->Option Str} {m0:Str->Option Str} {a k:aE} {n n0:Nat} {b b0:Str} {ms ms0:List Str} (h:KB m n k b ms) (s:Sbk a k) (h0:KB m0 n0 a b0 ms0): ∃c,KB m (hf ms0) a c ms0:=by
 obtain⟨n',b',ms',g⟩:=s.kb h
 have:=KM.uniq g.km h0.km
 subst this
 exact⟨b',g.fit⟩
end Sw
namespace Sw
open PySem PySem.Spec PyProof.Rows L2
def AH (q:Str×Str):Nat->aE->Prop
 |0,_=>False
 |_+1,.single _=>False
 |n+1,.group r l=>(q∈l\/(q.2,q.1)∈l)\/ ∃k∈r,AH q n k
theorem AH.symm {a b:Str}: ∀{n:Nat} {k:aE},AH (a,b) n k->AH (b,a) n k
 |0,_,h=>h.elim
 |_+1,.single _,h=>h.elim
 |n+1,.group r l,h=>h.imp (fun h=>h.symm) fun⟨k,hk,h⟩=>⟨k,hk,h.symm⟩
theorem AH.up {q:Str×Str}: ∀{n:Nat} {k:aE},AH q n k->AH q (n+1) k
 |0,_,h=>h.elim
 |_+1,.single _,h=>h.elim
 |n+1,.group r l,h=>h.imp id fun⟨k,hk,h⟩=>⟨k,hk,h.up⟩
theorem Cr {ns:List Str} {L:List (Str×Str)} {M:Str->Option Str} {pre post:List Kt} {z:Kt} (h:fu ns L M (pre++z::post)) {r:List aE} {l:List (Str×Str)} (e:z.k= .group r l): ∃t:List Kt,t.map (·.k)=r/\fu ns L M (pre++t++post):=by
 have hz:z∈pre++z::post:=by simp
 have kb:=h.kb z hz
 have kl:=h.kl z hz
 obtain⟨n,hn⟩: ∃n,hf z.ms=n+1:=by
  cases q:hf z.ms with
  |zero=>rw[q] at kb;exact kb.elim
  |succ n=>exact⟨n,rfl⟩
 rw[hn,e] at kb kl
 obtain⟨t,p,h1,h2,h3,h4,h5⟩:=kb
 refine⟨t,h2.symm,?_,fun x hx=> ?_,fun x hx=> ?_⟩
 ·have p0:=h.perm
  rw[List.map_append,List.map_cons,List.flatten_append,List.flatten_cons,h4] at p0
  refine List.Perm.trans ?_ p0
  rw[List.map_append,List.map_append,List.flatten_append,List.flatten_append,List.append_assoc]
  exact List.Perm.append_left _ (List.Perm.append_right _ (aV _).symm)
 ·rcases List.mem_append.mp hx with hx|hx
  ·rcases List.mem_append.mp hx with hx|hx
   ·exact h.kb x (List.mem_append_left _ hx)
   ·exact (h3 x hx).fit
  ·exact h.kb x (List.mem_append_right _ (List.mem_cons_of_mem _ hx))
 ·rcases List.mem_append.mp hx with hx|hx
  ·rcases List.mem_append.mp hx with hx|hx
   ·exact h.kl x (List.mem_append_left _ hx)
   ·have g:=kl.2 x.k (by rw[h2];exact List.mem_map_of_mem hx)
    have key: ∀{n:Nat} {k:aE},KL L n k-> ∀{N:Nat} {b:Str} {ms:List Str},KB M N k b ms->KL L N k:=by
     intro n
     induction n with
     |zero=>intro k h;exact h.elim
     |succ n ih=>
      intro k h N b ms g
      cases k with
      |single c=>
       cases N with
       |zero=>exact g.elim
       |succ N=>exact trivial
      |group r l=>
       cases N with
       |zero=>exact g.elim
       |succ N=>
        obtain⟨t,p,g1,g2,g3,_,_⟩:=g
        refine⟨h.1,fun k hk=> ?_⟩
        rw[g2] at hk
        obtain⟨y,hy,rfl⟩:=List.mem_map.mp hk
        exact ih (h.2 y.k (by rw[g2];exact List.mem_map_of_mem hy)) (g3 y hy)
    exact key g (h3 x hx).fit
  ·exact h.kl x (List.mem_append_right _ (List.mem_cons_of_mem _ hx))
end Sw
namespace Sw
open PySem PySem.Spec PyProof.Rows L2
mutual
def ri:aE->List Str
 | .single c=>[c]
 | .group r _=>fL (sC r)
def sC:List aE->List Str
 | []=>[]
 |k::r=>ri k++sC r
end
mutual
def grK:aE->List (List Str)
 | .single _=>[]
 | .group r _=>fL (sC r)::AI r
def AI:List aE->List (List Str)
 | []=>[]
 |k::r=>grK k++AI r
end
theorem m6: ∀r:List aE,AI r=(r.map grK).flatten
 | []=>rfl
 |k::r=>by unfold AI;rw[m6 r];rfl
theorem qm: ∀r:List aE,sC r=(r.map ri).flatten
 | []=>rfl
 |k::r=>by unfold sC;rw[qm r];rfl
section
variable {m:Str->Option Str}
theorem KB.mem: ∀{n:Nat} {k:aE} {b:Str} {ms:List Str},KB m n k b ms->ri k=ms
 |0,_,_,_,h=>h.elim
 |n+1,.single c,_,_,h=>by unfold ri;exact h.2.symm
 |n+1,.group r l,b,_,⟨t,p,h1,h2,h3,h4,h5⟩=>by
  unfold ri
  rw[h4,qm,h2,List.map_map]
  congr 2
  exact List.map_congr_left fun x hx=>(h3 x hx).mem
theorem KB.gr: ∀{n:Nat} {k:aE} {b:Str} {ms:List Str},KB m n k b ms-> ∀g∈grK k,(∀c∈g,c∈ms)/\ ∃r l n' b',KB m n' (.group r l) b' g
 |0,_,_,_,h,_,_=>h.elim
 |n+1,.single c,_,_,h,g,hg=>by unfold grK at hg;cases hg
 |n+1,.group r l,b,_,h,g,hg=>by
  have hm:=h.mem
  obtain⟨t,p,h1,h2,h3,h4,h5⟩:=id h
  unfold grK at hg
  rcases List.mem_cons.mp hg with e|hg
  ·have e2:g=ri (.group r l):=by rw[e];unfold ri;rfl
   rw[e2,hm]
   exact⟨fun c hc=>hc,r,l,n+1,b,h⟩
  ·rw[m6,h2,List.map_map,List.mem_flatten] at hg
   obtain⟨gs,hgs,gm⟩:=hg
   obtain⟨x,hx,rfl⟩:=List.mem_map.mp hgs
   obtain⟨q1,q2⟩:=(h3 x hx).gr g gm
   exact⟨fun c hc=>by rw[h4,uK,ck];exact⟨x,hx,q1 c hc⟩,q2⟩
theorem KB.three {n:Nat} {r:List aE} {l:List (Str×Str)} {b:Str} {ms:List Str} (h:KB m n (.group r l) b ms):3<=ms.length/\ ∀x∈r,(ri x).length+2<=ms.length:=by
 cases n with
 |zero=>exact h.elim
 |succ n=>
  obtain⟨t,p,h1,h2,h3,h4,h5⟩:=h
  have pos: ∀y∈t.map (·.ms),1<=y.length:=fun y hy=>by
   obtain⟨x,hx,rfl⟩:=List.mem_map.mp hy
   exact List.length_pos_of_mem (h3 x hx).base
  have three:=h1.three
  have ml:ms.length=(t.map (·.ms)).flatten.length:=by rw[h4,pF]
  refine⟨?_,fun x hx=> ?_⟩
  ·have:=uL pos
   rw[List.length_map] at this
   omega
  ·rw[h2] at hx
   obtain⟨y,hy,rfl⟩:=List.mem_map.mp hx
   rw[(h3 y hy).mem]
   have:=rR pos (List.mem_map_of_mem hy)
   rw[List.length_map] at this
   omega
theorem KB.gr3 {n:Nat} {k:aE} {b:Str} {ms:List Str} (h:KB m n k b ms) {g:List Str} (hg:g∈grK k):3<=g.length/\g.length%2=1/\g.Pairwise bQ:=by
 obtain⟨_,r,l,n',b',q⟩:=h.gr g hg
 exact⟨q.three.1,q.xJ,q.rise⟩
theorem qo: ∀{xs:List Kt},(∀x∈xs,(grK x.k).Nodup/\ ∀g∈grK x.k,g≠[]/\ ∀c∈g,c∈x.ms)->(xs.map (·.ms)).flatten.Nodup->(xs.map fun x=>grK x.k).flatten.Nodup
 | [],_,_=>List.nodup_nil
 |x::xs,h,nd=>by
  rw[List.map_cons,List.flatten_cons,List.nodup_append] at nd⊢
  refine⟨(h x List.mem_cons_self).1,qo (fun y hy=>h y (List.mem_cons_of_mem _ hy)) nd.2.1,fun g hg g2 hg2 e=> ?_⟩
  subst e
  obtain⟨gs,hgs,gm⟩:=List.mem_flatten.mp hg2
  obtain⟨y,hy,rfl⟩:=List.mem_map.mp hgs
  obtain⟨ne,a1⟩:=(h x List.mem_cons_self).2 g hg
  obtain⟨_,a2⟩:=(h y (List.mem_cons_of_mem _ hy)).2 g gm
  cases g with
  |nil=>exact ne rfl
  |cons c g=>exact nd.2.2 c (a1 c List.mem_cons_self) c (ck.mpr ⟨y,hy,a2 c List.mem_cons_self⟩) rfl
theorem KB.AJ: ∀{n:Nat} {k:aE} {b:Str} {ms:List Str},KB m n k b ms->(grK k).Nodup
 |0,_,_,_,h=>h.elim
 |n+1,.single c,_,_,h=>by unfold grK;exact List.nodup_nil
 |n+1,.group r l,b,ms,h=>by
  have hm:=h.mem
  have h3':=h.three.2
  obtain⟨t,p,h1,h2,h3,h4,h5⟩:=id h
  unfold grK
  have ge:AI r=(t.map fun x=>grK x.k).flatten:=by rw[m6,h2,List.map_map];rfl
  rw[List.nodup_cons]
  constructor
  ·intro hg
   have e2:fL (sC r)=ms:=by rw[<-hm];unfold ri;rfl
   rw[e2,ge,List.mem_flatten] at hg
   obtain⟨gs,hgs,gm⟩:=hg
   obtain⟨x,hx,rfl⟩:=List.mem_map.mp hgs
   obtain⟨q1,_⟩:=(h3 x hx).gr ms gm
   have l1:=lj h.nodup q1
   have l2:=h3' x.k (by rw[h2];exact List.mem_map_of_mem hx)
   rw[(h3 x hx).mem] at l2
   omega
  ·rw[ge]
   exact qo (fun x hx=>⟨(h3 x hx).AJ,fun g hg=>⟨fun e=>by have:=((h3 x hx).gr3 hg).1;rw[e] at this;simp at this,((h3 x hx).gr g hg).1⟩⟩) h1.nd
end
def grT (ks:List Kt):List (List Str):=(ks.map fun x=>grK x.k).flatten
section
variable {ns:List Str} {L:List (Str×Str)} {M:Str->Option Str} {ks:List Kt} {x y:Kt} {g:List Str} {a b c:Str}
theorem tN:g∈grT ks↔ ∃x∈ks,g∈grK x.k:=by
 unfold grT
 rw[List.mem_flatten]
 constructor
 ·rintro⟨gs,hgs,gm⟩
  obtain⟨x,hx,rfl⟩:=List.mem_map.mp hgs
  exact⟨x,hx,gm⟩
 ·rintro⟨x,hx,gm⟩
  exact⟨_,List.mem_map_of_mem hx,gm⟩
theorem fu.AJ (h:fu ns L M ks) (hn:ns.Nodup):(grT ks).Nodup:=
 qo (fun x hx=>⟨(h.kb x hx).AJ,fun g hg=>⟨fun e=>by have:=((h.kb x hx).gr3 hg).1;rw[e] at this;simp at this,((h.kb x hx).gr g hg).1⟩⟩) (h.nd hn)
end
def mJ (q:List Str->Int) (G:List (List Str)) (a b:Str):Int:=((G.filter fun g=>decide (a∈g)&&decide (b∈g)).map q).sum
def tot (p:Str->Int) (q:List Str->Int) (G:List (List Str)) (a b:Str):Int:=p a+p b+mJ q G a b
section
variable {p:Str->Int} {q q':List Str->Int} {G:List (List Str)} {a b:Str}
theorem Cs:mJ q G a b=mJ q G b a:=by
 unfold mJ
 congr 2
 exact List.filter_congr fun g _=>Bool.and_comm _ _
theorem EK:tot p q G a b=tot p q G b a:=by
 unfold tot
 rw[Cs];omega
theorem iI {g:List Str}:mJ q (g::G) a b=(if a∈g/\b∈g then q g else 0)+mJ q G a b:=by
 unfold mJ
 by_cases h:a∈g/\b∈g
 ·rw[if_pos h,List.filter_cons_of_pos (by simpa using h),List.map_cons,List.sum_cons]
 ·rw[if_neg h,List.filter_cons_of_neg (by simpa using h)];omega
theorem EL {G':List (List Str)}:mJ q (G++G') a b=mJ q G a b+mJ q G' a b:=by
 unfold mJ
 rw[List.filter_append,List.map_append,List.sum_append]
theorem Ct {G':List (List Str)} (h:G.Perm G'):mJ q G a b=mJ q G' a b:=by
 induction h with
 |nil=>rfl
 |cons x _ ih=>rw[iI,iI,ih]
 |swap x y l=>rw[iI,iI,iI,iI];omega
 |trans _ _ i1 i2=>rw[i1,i2]
theorem Cu (h: ∀g∈G,q g%2=0):mJ q G a b%2=0:=by
 induction G with
 |nil=>rfl
 |cons g G ih=>
  rw[iI]
  have h1:=h g List.mem_cons_self
  have h2:=ih fun g' hg=>h g' (List.mem_cons_of_mem _ hg)
  split <;> omega
end
end Sw
namespace Sw
open PySem PySem.Spec PyProof.Rows L2
def inG (g:List Str) (e:Str×Str):Bool:=decide (e.1∈g)&&decide (e.2∈g)
end Sw
namespace Sw
open PySem PySem.Spec PyProof.Rows L2
theorem Cv {q:List Str->Int} {G:List (List Str)} {a b:Str} (h: ∀g∈G,q g=0):mJ q G a b=0:=by
 induction G with
 |nil=>rfl
 |cons g G ih=>
  rw[iI,ih fun g' hg=>h g' (List.mem_cons_of_mem _ hg),h g List.mem_cons_self]
  split <;> rfl
theorem uP {q:List Str->Int} {G G':List (List Str)} {a b:Str} (n1:G.Nodup) (n2:G'.Nodup) (sub: ∀g∈G,g∈G') (z: ∀g∈G',g∉G->q g=0):mJ q G' a b=mJ q G a b:=by
 have pm:(G++G'.filter fun g=>decide (g∉G)).Perm G':=by
  refine (List.perm_ext_iff_of_nodup (List.nodup_append.mpr ⟨n1,n2.filter _,fun x hx y hy e=> ?_⟩) n2).mpr fun g=> ?_
  ·subst e
   have:=(List.mem_filter.mp hy).2
   simp at this
   exact this hx
  ·rw[List.mem_append,List.mem_filter]
   constructor
   ·rintro (h|h)
    ·exact sub g h
    ·exact h.1
   ·intro h
    by_cases q:g∈G
    ·exact .inl q
    ·exact .inr ⟨h,by simpa using q⟩
 rw[<-Ct pm,EL,Cv (G:=G'.filter _) fun g hg=>z g (List.mem_filter.mp hg).1 (by simpa using (List.mem_filter.mp hg).2)]
 omega
def tL (ed:List (Str×Str)) (w:Str->Str->Int) (p:Str->Int) (q:List Str->Int) (G:List (List Str)):List (Str×Str):=ed.filter fun e=>decide (tot p q G e.1 e.2=2*w e.1 e.2)
section
variable {ns:List Str} {ed:List (Str×Str)} {w:Str->Str->Int} {p p':Str->Int} {q q':List Str->Int} {G G':List (List Str)} {M M':Str->Option Str} {ks ks':List Kt} {a b c:Str}
theorem xO:(a,b)∈tL ed w p q G↔(a,b)∈ed/\tot p q G a b=2*w a b:=by
 unfold tL
 rw[List.mem_filter]
 simp
theorem zl (h: ∀a b,(a,b)∈ed->tot p q G a b=tot p' q' G' a b):tL ed w p q G=tL ed w p' q' G':=by
 unfold tL
 exact List.filter_congr fun e he=>by rw[h e.1 e.2 he]
structure oZ (ns:List Str) (ed:List (Str×Str)) (w:Str->Str->Int) (M:Str->Option Str) (ks:List Kt) (p:Str->Int) (q:List Str->Int):Prop where
 nd:ns.Nodup
 len:ns.length<=20
 sym: ∀a b,(a,b)∈ed->(b,a)∈ed
 irr: ∀a,(a,a)∉ed
 inn: ∀a b,(a,b)∈ed->a∈ns
 ws: ∀a b,w a b=w b a
 tops:fu ns (tL ed w p q (grT ks)) M ks
 mates:iC ns (tL ed w p q (grT ks)) M
 paid: ∀a b,(a,b)∈ed->2*w a b<=tot p q (grT ks) a b
 qn: ∀g,0<=q g/\q g%2=0
 q0: ∀g,g∉grT ks->q g=0
 pn: ∀c∈ns,0<=p c
 least: ∀r∈ns,M r=none-> ∀c∈ns,p r<=p c
theorem oZ.gr (h:oZ ns ed w M ks p q):Gr ns (tL ed w p q (grT ks)) M:=⟨h.nd,h.len,fun a b e=>by
 rw[xO] at e⊢
 exact⟨h.sym _ _ e.1,by rw[EK,h.ws];exact e.2⟩,fun a e=>h.irr a (xO.mp e).1,fun a b e=>h.inn a b (xO.mp e).1,h.mates⟩
theorem oZ.Bu (h:oZ ns ed w M ks p q) (hT:fu ns (tL ed w p q (grT ks)) M ks') (z1: ∀g∈grT ks,g∉grT ks'->q g=0):oZ ns ed w M ks' p q:=by
 have n1:=h.tops.AJ h.nd
 have n2:=hT.AJ h.nd
 have tt: ∀a b,tot p q (grT ks') a b=tot p q (grT ks) a b:=fun a b=>by
  unfold tot
  have e1:mJ q (grT ks) a b=mJ q ((grT ks).filter fun g=>decide (g∈grT ks')) a b:=uP (n1.filter _) n1 (fun g hg=>(List.mem_filter.mp hg).1) fun g hg hn=>z1 g hg fun hg'=>hn (List.mem_filter.mpr ⟨hg,by simpa using hg'⟩)
  have e2:mJ q (grT ks') a b=mJ q ((grT ks).filter fun g=>decide (g∈grT ks')) a b:=uP (n1.filter _) n2 (fun g hg=>by simpa using (List.mem_filter.mp hg).2) fun g hg hn=>h.q0 g fun hg'=>hn (List.mem_filter.mpr ⟨hg',by simpa using hg⟩)
  rw[e1,e2]
 have tl:tL ed w p q (grT ks')=tL ed w p q (grT ks):=zl fun a b _=>tt a b
 exact⟨h.nd,h.len,h.sym,h.irr,h.inn,h.ws,by rw[tl];exact hT,by rw[tl];exact h.mates,fun a b e=>by rw[tt];exact h.paid a b e,h.qn,fun g hg=>by
  by_cases q1:g∈grT ks
  ·exact z1 g q1 hg
  ·exact h.q0 g q1,h.pn,h.least⟩
end
end Sw
namespace Sw
open PySem PySem.Spec PyProof.Rows L2
theorem EM {g:List Str}: ∀{r:List aE},g∈AI r↔ ∃k∈r,g∈grK k:=fun {r}=>by
 rw[m6,List.mem_flatten]
 constructor
 ·rintro⟨gs,hgs,gm⟩
  obtain⟨x,hx,rfl⟩:=List.mem_map.mp hgs
  exact⟨x,hx,gm⟩
 ·rintro⟨x,hx,gm⟩
  exact⟨_,List.mem_map_of_mem hx,gm⟩
theorem Sbk.gr {a k:aE} (h:Sbk a k) {g:List Str} (hg:g∈grK a):g∈grK k:=by
 induction h with
 |refl=>exact hg
 |inn m _ ih=>unfold grK;exact List.mem_cons_of_mem _ (EM.mpr ⟨_,m,ih⟩)
section
variable {ns:List Str} {ed:List (Str×Str)} {w:Str->Str->Int} {p p':Str->Int} {q q':List Str->Int} {M:Str->Option Str} {ks ks':List Kt} {a b c:Str} {x y z:Kt}
theorem nZ {xs ys:List Kt}:grT (xs++ys)=grT xs++grT ys:=by unfold grT;rw[List.map_append,List.flatten_append]
theorem EN {xs:List Kt}:grT (x::xs)=grK x.k++grT xs:=rfl
theorem oZ.part {pre post:List Kt} {r:List aE} {l:List (Str×Str)} (h:oZ ns ed w M (pre++z::post) p q) (e:z.k= .group r l) (hq:q z.ms=0): ∃t:List Kt,t.map (·.k)=r/\oZ ns ed w M (pre++t++post) p q:=by
 obtain⟨t,et,hT⟩:=Cr h.tops e
 refine⟨t,et,h.Bu hT fun g hg hn=> ?_⟩
 rw[nZ,EN,e] at hg
 have tg:grT t=AI r:=by
  rw[m6,←et,List.map_map];rfl
 have zm:z.ms=fL (sC r):=by
  rw[<-(h.tops.kb z (by simp)).mem,e];unfold ri;rfl
 rcases List.mem_append.mp hg with hg|hg
 ·exact absurd (by rw[nZ,nZ];simp[hg]) hn
 ·rcases List.mem_append.mp hg with hg|hg
  ·unfold grK at hg
   rcases List.mem_cons.mp hg with hg|hg
   ·rw[hg,←zm];exact hq
   ·exact absurd (by rw[nZ,nZ,tg];simp[hg]) hn
  ·exact absurd (by rw[nZ,nZ];simp[hg]) hn
theorem oZ.found (h:oZ ns ed w M ks p q) (hT:fu ns (tL ed w p q (grT ks)) M ks') (part: ∀x∈ks,∃x'∈ks',Sbk x.k x'.k):oZ ns ed w M ks' p q:=h.Bu hT fun g hg hn=>by
 obtain⟨x,hx,gm⟩:=tN.mp hg
 obtain⟨x',hx',s⟩:=part x hx
 exact absurd (tN.mpr ⟨x',hx',s.gr gm⟩) hn
end
end Sw
namespace Sw
open PySem PySem.Spec PyProof.Rows L2
theorem Cw {c:Str} {r:List aE}:c∈sC r↔ ∃k∈r,c∈ri k:=by
 rw[qm,List.mem_flatten]
 constructor
 ·rintro⟨gs,hgs,gm⟩
  obtain⟨x,hx,rfl⟩:=List.mem_map.mp hgs
  exact⟨x,hx,gm⟩
 ·rintro⟨x,hx,gm⟩
  exact⟨_,List.mem_map_of_mem hx,gm⟩
theorem Sbk.mem {a k:aE} (h:Sbk a k) {c:Str} (hc:c∈ri a):c∈ri k:=by
 induction h with
 |refl=>exact hc
 |inn m _ ih=>
  unfold ri
  rw[uK,Cw]
  exact⟨_,m,ih⟩
section
variable {ns:List Str} {L Q:List (Str×Str)} {ks ks':List Kt} {o:a9} {lv:Str->Nat} {rt:Str->Str} {M:Str->Option Str}
structure EO (ks:List Kt) (M:Str->Option Str) (Q:List (Str×Str)) (R:Str->Prop) (Ev Od:Kt->Prop) (f:Kt->Nat):Prop where
 inn: ∀z,Ev z->z∈ks
 step: ∀z,Ev z->(M z.b=none/\R z.b)\/ ∃x y,x∈ks/\Od x/\Ev y/\f y<f z/\M x.b=some z.b/\ ∃a∈y.ms,∃b∈x.ms,(a,b)∈Q
 dis: ∀z,Ev z-> ¬Od z
theorem EO.ED (hT:fu ns L M ks) (si:SI ns L o ks' lv rt) (g:Gr ns L M) (hM:aF o.mates.l=M) (cl: ∀a b,(a,b)∈Q->a∈o.waiting->(∃x∈ks',a∈x.ms/\b∈x.ms)\/ ∃x∈ks',b∈x.ms/\(aF o.reached.l (nmK x)).isSome=true)
  (part: ∀x∈ks,∃x'∈ks',Sbk x.k x'.k) (made: ∀x∈ks',x∈ks\/(aF o.roots.l (nmK x)).isSome=true) {R:Str->Prop} (hR: ∀r,R r->r∈o.waiting) {Ev Od:Kt->Prop} {f:Kt->Nat} (F:EO ks M Q R Ev Od f):
  ∀z,Ev z-> ∀c∈z.ms,c∈o.waiting:=by
 have hT':=si.tops
 rw[hM] at hT'
 have up: ∀x∈ks,∃x'∈ks',∀c∈x.ms,c∈x'.ms:=fun x hx=>by
  obtain⟨x',hx',s⟩:=part x hx
  refine⟨x',hx',fun c hc=> ?_⟩
  rw[<-(hT.kb x hx).mem] at hc
  rw[<-(hT'.kb x' hx').mem]
  exact s.mem hc
 have upOf: ∀x∈ks,∀K∈ks',∀c∈x.ms,c∈K.ms-> ∀d∈x.ms,d∈K.ms:=fun x hx K hK c c1 c2 d hd=>by
  obtain⟨x',hx',s⟩:=up x hx
  have:=hT'.one g.nd hx' hK (s c c1) c2
  subst this
  exact s d hd
 have all: ∀z∈ks,∀c∈z.ms,c∈o.waiting-> ∀d∈z.ms,d∈o.waiting:=fun z hz c hc wc d hd=>by
  obtain⟨K,hK,cK,eK⟩:=(si.wt c).mp wc
  exact (si.wt d).mpr ⟨K,hK,upOf z hz K hK c hc cK d hd,eK⟩
 have evOd: ∀x∈ks',(aF o.roots.l (nmK x)).isSome=true-> ¬(aF o.reached.l (nmK x)).isSome=true:=fun x hx e d=>by
  obtain⟨q,hq⟩:=Option.isSome_iff_exists.mp d
  rw[(si.odd x hx q hq).1] at e;cases e
 have key: ∀n:Nat,∀z,f z<n->Ev z-> ∀c∈z.ms,c∈o.waiting:=by
  intro n
  induction n with
  |zero=>intro z h;omega
  |succ n ih=>
   intro z hz ez
   have zin:=F.inn z ez
   have zb:=(hT.kb z zin).base
   rcases F.step z ez with ⟨_,r⟩|⟨x,y,hx,ox,ey,lt,mx,a,ha,b,hb,ab⟩
   ·exact all z zin z.b zb (hR _ r)
   ·have yin:=F.inn y ey
    have wa:=ih y (by omega) ey a ha
    rcases cl a b ab wa with ⟨K,hK,aK,bK⟩|⟨X,hX,bX,oX⟩
    ·
     have eK:(aF o.roots.l (nmK K)).isSome=true:=by
      obtain⟨K',hK',aK',eK'⟩:=(si.wt a).mp wa
      have:=hT'.one g.nd hK hK' aK aK'
      subst this
      exact eK'
     have xK:=upOf x hx K hK b hb bK
     have yK:=upOf y yin K hK a ha aK
     have xb:=(hT.kb x hx).base
     by_cases zK:z.b∈K.ms
     ·exact fun c hc=>(si.wt c).mpr ⟨K,hK,upOf z zin K hK z.b zb zK c hc,eK⟩
     ·exfalso
      have kb:x.b=K.b:=Classical.byContradiction fun ne=>by
       obtain⟨d,hd,_,e⟩:=(hT'.kb K hK).q9 x.b (xK _ xb) ne
       rw[mx] at e;cases e
       exact zK hd
      have no: ∀k:Nat,∀v,f v<k->f v<f z->Ev v->(∀c∈v.ms,c∈K.ms)->False:=by
       intro k
       induction k with
       |zero=>intro v h;omega
       |succ k ih2=>
        intro v hv hvz ev vK
        have vin:=F.inn v ev
        have vb:=(hT.kb v vin).base
        have nb:v.b≠K.b:=fun e=>by
         have:=hT.BF g.nd vin hx (e.trans kb.symm)
         subst this
         exact F.dis v ev ox
        obtain⟨d,hd,_,md⟩:=(hT'.kb K hK).q9 v.b (vK _ vb) nb
        rcases F.step v ev with ⟨m0,_⟩|⟨x2,y2,hx2,ox2,ey2,lt2,mx2,a2,ha2,b2,hb2,ab2⟩
        ·rw[m0] at md;cases md
        ·rw[g.mates.sym _ _ mx2] at md;cases md
         have x2K:=upOf x2 hx2 K hK x2.b (hT.kb x2 hx2).base hd
         have wa2:=ih y2 (by omega) ey2 a2 ha2
         rcases cl a2 b2 ab2 wa2 with ⟨K2,hK2,c1,c2⟩|⟨K2,hK2,c1,c2⟩
         ·have:=hT'.one g.nd hK hK2 (x2K b2 hb2) c2
          subst this
          exact ih2 y2 (by omega) (by omega) ey2 (upOf y2 (F.inn y2 ey2) K hK a2 ha2 c1)
         ·have:=hT'.one g.nd hK hK2 (x2K b2 hb2) c1
          subst this
          exact evOd K hK eK c2
      exact no (f y+1) y (by omega) lt ey yK
    ·
     have nE:=fun e=>evOd X hX e oX
     have Xk:=(made X hX).resolve_right nE
     have:=hT.one g.nd hx Xk hb bX
     subst this
     obtain⟨q,hq⟩:=Option.isSome_iff_exists.mp oX
     obtain⟨_,_,_,_,_,_,_,_,_,z',hz',m',e',_⟩:=si.odd x hX q hq
     rw[hM,mx] at m'
     have e:=Option.some.inj m'
     have wz:z.b∈o.waiting:=(si.wt _).mpr ⟨z',hz',e▸(hT'.kb z' hz').base,e'⟩
     exact all z zin z.b zb wz
 exact fun z ez=>key (f z+1) z (by omega) ez
end
end Sw
namespace Sw
open PySem PySem.Spec PyProof.Rows L2
theorem KB.par {m:Str->Option Str} {L:List (Str×Str)} {pr:Str->Int} (hL: ∀a c,(a,c)∈L->(pr a+pr c)%2=0): ∀{n:Nat} {k:aE} {b:Str} {ms:List Str},KB m n k b ms->KL L n k-> ∀a∈ms,∀c∈ms,(pr a+pr c)%2=0
 |0,_,_,_,h,_,_,_,_,_=>h.elim
 |n+1,.single x,_,_,h,_,a,ha,c,hc=>by
  rw[h.2] at ha hc
  rw[List.mem_singleton.mp ha,List.mem_singleton.mp hc]
  omega
 |n+1,.group r l,b,ms,⟨t,p,h1,h2,h3,h4,h5⟩,⟨g1,g2⟩,a,ha,c,hc=>by
  have part: ∀{i:Nat} (h:i<t.length),∀a∈t[i].ms,∀c∈t[i].ms,(pr a+pr c)%2=0:=fun {i} h=>KB.par hL (h3 _ (List.getElem_mem h)) (g2 _ (by rw[h2];exact List.mem_map_of_mem (List.getElem_mem h)))
  have base: ∀{i:Nat} (h:i<t.length),t[i].b∈t[i].ms:=fun {i} h=>(h3 _ (List.getElem_mem h)).base
  have tp:0<t.length:=by have:=h1.three;omega
  have all: ∀i (h:i<t.length),(pr (t[0]'tp).b+pr t[i].b)%2=0:=by
   intro i
   induction i with
   |zero=>intro h;have:=part tp _ (base tp) _ (base tp);exact this
   |succ i ih=>
    intro h
    have i0:=ih (by omega)
    have li:i<l.length:=by rw[h1.len];omega
    have ne:nx t.length i=i+1:=xI (by omega)
    obtain⟨_,a1,a2⟩:=h1.link i (t[i]'(by omega)) (t[i+1]'h) (l[i]'li) (by omega) (List.getElem?_eq_getElem (by omega)) (by rw[ne];exact List.getElem?_eq_getElem h) (List.getElem?_eq_getElem li)
    have il:i<t.length:=by omega
    have e1:(pr l[i].1+pr l[i].2)%2=0:=hL _ _ (g1 _ (List.getElem_mem li))
    have e2:(pr t[i].b+pr l[i].1)%2=0:=part il _ (base il) _ a1
    have e3:(pr t[i+1].b+pr l[i].2)%2=0:=part h _ (base h) _ a2
    have i1:(pr (t[0]'tp).b+pr t[i].b)%2=0:=i0
    omega
  rw[h4,uK,ck] at ha hc
  obtain⟨x,hx,ax⟩:=ha
  obtain⟨y,hy,cy⟩:=hc
  obtain⟨i,hi,rfl⟩:=List.getElem_of_mem hx
  obtain⟨j,hj,rfl⟩:=List.getElem_of_mem hy
  have e1:=part hi _ (base hi) a ax
  have e2:=part hj _ (base hj) c cy
  have e3:=all i hi
  have e4:=all j hj
  omega
section
variable {ns:List Str} {ed:List (Str×Str)} {w:Str->Str->Int} {p p':Str->Int} {q q':List Str->Int} {M:Str->Option Str} {ks:List Kt} {o:a9} {lv:Str->Nat} {rt:Str->Str} {a b c r0:Str}
theorem oZ.Jt (h:oZ ns ed w M ks p q) (e:(a,b)∈tL ed w p q (grT ks)):(p a+p b)%2=0:=by
 have e:=(xO.mp e).2
 have:=Cu (q:=q) (G:=grT ks) (a:=a) (b:=b) fun g _=>(h.qn g).2
 unfold tot at e
 omega
theorem oZ.par (h:oZ ns ed w M ks p q) (si:SI ns (tL ed w p q (grT ks)) o ks lv rt) (hM:aF o.mates.l=M) (hr:r0∈ns) (hr0:M r0=none): ∀c∈o.waiting,(p r0+p c)%2=0:=by
 have g:=h.gr
 have kp: ∀x∈ks,∀a∈x.ms,∀c∈x.ms,(p a+p c)%2=0:=fun x hx=>KB.par (fun a c e=>h.Jt e) (h.tops.kb x hx) (h.tops.kl x hx)
 have key: ∀n:Nat,∀z∈ks,lv (nmK z)<n->(aF o.roots.l (nmK z)).isSome=true-> ∀c∈z.ms,(p r0+p c)%2=0:=by
  intro n
  induction n with
  |zero=>intro z _ h;omega
  |succ n ih=>
   intro z hz lz ez c hc
   have zb:=(h.tops.kb z hz).base
   have k1:=kp z hz z.b zb c hc
   rcases si.ED z hz ez with ⟨m0,_⟩|⟨x,hx,mx,ox⟩
   ·rw[hM] at m0
    have l1:=h.least z.b (h.tops.inn hz zb) m0 r0 hr
    have l2:=h.least r0 hr hr0 z.b (h.tops.inn hz zb)
    omega
   ·rw[hM] at mx
    obtain⟨qx,hqx⟩:=Option.isSome_iff_exists.mp ox
    obtain⟨_,a2,a12,y,hy,a1,ey,ly,_,z',hz',mz',_,lz',_⟩:=si.odd x hx qx hqx
    rw[hM,h.mates.sym _ _ mx] at mz'
    have:=h.tops.BF h.nd hz hz' (Option.some.inj mz')
    subst this
    have k2:=ih y hy (by omega) ey qx.1 a1
    have k3:=h.Jt a12
    have k4:=kp x hx qx.2 a2 x.b (h.tops.kb x hx).base
    have k5:=h.Jt (h.mates.edge _ _ mx)
    omega
 intro c hc
 obtain⟨z,hz,cz,ez⟩:=(si.wt c).mp hc
 exact key _ z hz (Nat.lt_succ_self _) ez c cz
end
end Sw
namespace Sw
open PySem PySem.Spec PyProof.Rows L2
section
variable {ns:List Str} {L:List (Str×Str)} {M:Str->Option Str} {ks zs:List Kt} {o:a9} {lv:Str->Nat} {rt:Str->Str}
theorem fu.order (h:fu ns L M ks) (p:ks.Perm zs):fu ns L M zs:=
 ⟨(List.Perm.flatten (p.symm.map _)).trans h.perm,fun x hx=>h.kb x (p.mem_iff.mpr hx),fun x hx=>h.kl x (p.mem_iff.mpr hx)⟩
theorem SI.order (h:SI ns L o ks lv rt) (p:ks.Perm zs):SI ns L o zs lv rt:=by
 have e: ∀z,z∈zs↔z∈ks:=fun z=>p.mem_iff.symm
 exact⟨h.tops.order p,fun x hx=>h.top x ((e x).mp hx),h.tk,fun n r q=>by
  obtain⟨z,hz,a⟩:=h.rk n r q
  exact⟨z,(e z).mpr hz,a⟩,fun n q a=>by
  obtain⟨x,hx,b⟩:=h.ok n q a
  exact⟨x,(e x).mpr hx,b⟩,h.rnd,h.ond,fun z hz ez=>(h.ED z ((e z).mp hz) ez).imp id fun⟨x,hx,a⟩=>⟨x,(e x).mpr hx,a⟩,fun x hx q hq=>by
  obtain⟨a1,a2,a3,y,hy,a4,a5,a6,a7,z,hz,a8⟩:=h.odd x ((e x).mp hx) q hq
  exact⟨a1,a2,a3,y,(e y).mpr hy,a4,a5,a6,a7,z,(e z).mpr hz,a8⟩,fun c=>(h.wt c).trans ⟨fun⟨z,hz,a⟩=>⟨z,(e z).mpr hz,a⟩,fun⟨z,hz,a⟩=>⟨z,(e z).mp hz,a⟩⟩,h.wnd⟩
end
section
variable {ns:List Str} {ed:List (Str×Str)} {w:Str->Str->Int} {p:Str->Int} {q:List Str->Int} {M:Str->Option Str} {ks ks':List Kt}
theorem oZ.tl (h:oZ ns ed w M ks p q) {L:List (Str×Str)} (hT:fu ns L M ks') (part: ∀x∈ks,∃x'∈ks',Sbk x.k x'.k):tL ed w p q (grT ks')=tL ed w p q (grT ks):=zl fun a b _=>by
 unfold tot
 rw[uP (h.tops.AJ h.nd) (hT.AJ h.nd) (fun g hg=>by
  obtain⟨x,hx,gm⟩:=tN.mp hg
  obtain⟨x',hx',s⟩:=part x hx
  exact tN.mpr ⟨x',hx',s.gr gm⟩) fun g _ hn=>h.q0 g hn]
end
end Sw
namespace Sw.k03
open PySem PySem.Spec PyProof.Rows L2 Sw
structure Zs (K:Frg) (mg:Str->Option Value):Prop where
 ValueError:mg "ValueError" =none
 int:mg "int" =none
 isinstance:mg "isinstance" =none
 len:mg "len" =none
 range:mg "range" =none
 set:mg "set" =none
 sorted:mg "sorted" =none
 str:mg "str" =none
 FIGURES: ∃t,mg "FIGURES" =some (.str "0123456789" t)
 GROUPS:Dt K mg "GROUPS" [("O" :Str),("A" :Str),("B" :Str),("AB" :Str)]
 LETTERS: ∃t,mg "LETTERS" =some (.str "abcdefghijklmnopqrstuvwxyz" t)
 g_NoSwap:mg "NoSwap" =some (.ref (He.ga K "NoSwap"))
 g_SwapError:mg "SwapError" =some (.ref (He.ga K "SwapError"))
 x_NoRow:DG K "NoRow" [("SwapError",true),("NoSwap",false)] [("ValueError",true)] []
open T
noncomputable section
variable {P:Program} {w:World} {K:Frg} {mg:Str->Option Value} {base:Heap}
def oa (y2:Unit) (x4:D):Option (Out (Unit) (Unit)):=
 ifO (b2 (D.qb true) (some x4) (some (.str "abcdefghijklmnopqrstuvwxyz"))) (cH (some (.bl false)) []) (some (.nx ())) fun(y5:Unit)=>some (.nx ())
def m7 (a_thing:D):Option (Out PEmpty PEmpty):=
 ifO (orB (eP (b1 D.tb (blO (b1 (D.isa "str") (some a_thing))))) (eP (chB D.leI D.leI (some (.int 1)) (b1 (un1 D.lQ) (aj (some a_thing) (aI))) (some (.int 8))))) (cH (some (.bl false)) []) (some (.nx ())) fun(y1:Unit)=>vk (b1 D.oW (some a_thing)) (oa) () fun(y2:Unit)=>cH (some (.bl true)) []
def ji:List D->Option FR:=fn1 fun a_thing=>FO (m7 a_thing)
abbrev wh:List Str:=["thing","sign"]
abbrev m8:List Str:=["thing"]
theorem uQ:FnScope wh m8 (defScope iE):=⟨rfl,rfl,rfl,by decide+kernel,rfl,by decide+kernel,by decide+kernel⟩
abbrev m9:List PM:=[.bo]
abbrev nh:VM:=.rg .fz
theorem Cy (Z:Zs K mg) {f:Addr} {cdv:Value} {A:Around} {outer:List Env} {s:Shared} {H:Hp} {E:XK} (hr:Room 0 (A.deeper (envOfC "is_name" (defScope iE) s.heap.objs.size f cdv))) (v0:V) (a_thing:D):
  Blk (cxT P w K mg base wh "is_name" (defScope iE) f cdv A outer s H E) (fnX nh (bZ m9 [v0]) E) [.bo,.fz] [some a_thing,none] (defBody iE) (m7 a_thing):=by
 unfold m7
 exact (bY [.bo,.fz] (fun(y1:Unit)=>[some a_thing,none]) (PW.pt (kJ (ia (AX (Iu (rg:=.fz) (T:="str") rfl Z.isinstance Z.str tj rfl (af (md:=.bo) 0 rfl rfl rfl (.inl rfl))))) (jq (ia (fM op_le (iQ (rg:=.fz)) op_le (iQ (rg:=.fz)) (ak (rg:=.fz)) (cg call_len (oV (rg:=.fz)) (by rfl) Z.len fB (aa (af (md:=.bo) 0 rfl rfl rfl (.inl rfl)) au)) (ak (rg:=.fz))))))) (aQ (mR (rg:=.fz)) rfl rfl rfl) (aP (.keep (.drop (.nil)))) (fun(y1:Unit)=>(qa [.bo,.fz] (fun(y2:Unit)=>[some a_thing,none]) [.bo,.fz] (fun(y2:Unit) (x4:D)=>[some a_thing,some x4]) (pz (af (md:=.bo) 0 rfl rfl rfl (.inl rfl))) fy eh (pg_name (i:=1) uQ.nd rfl (.inl rfl)) (iO _ 1 eh (Nat.le_of_ble_eq_true rfl)) (.keep (.drop (.nil))) (fun(y2:Unit) (x4:D)=>by unfold oa;exact (bY [.bo,.fz] (fun(y5:Unit)=>[some a_thing,some x4]) (aR op_notIn_sign wM (af (md:=.fz) 1 rfl rfl rfl (.inl rfl)) (ug (rg:=.fz) Z.LETTERS) rfl) (aQ (mR (rg:=.fz)) rfl rfl rfl) (aP (.keep (.keep (.nil)))) (fun(y5:Unit)=>(aP (.keep (.drop (.nil))))))) (fun(y2:Unit)=>(aQ (mR (rg:=.fz)) rfl rfl rfl)))))
theorem AK (Z:Zs K mg) {f:Addr} {fd:FuncData} (F:Fun K "is_name" "is_name" iE f fd):FnOk P w K mg base CX0 (1) f fd m8 (FSp K m9 nh ji):=
 dq (n:=1) F uQ rfl rfl fun cdv A outer s H vs E hr hv ds fr hd ef=>match vs,hv,ds,hd,ef with| [v0],_,[a_thing],_,ef=>⟨_,Cy Z hr v0 a_thing,ef⟩
def kW (k_text:D) (y3:Unit) (x5:D):Option (Out (Unit) (Unit)):=
 ifO (b2 (D.qb true) (some x5) (some (.str "0123456789"))) ((b1 D.et (some k_text)).bind fun d7=>some (.exc ⟨"NoRow",[("row",d7)]⟩)) (some (.nx ())) fun(y6:Unit)=>some (.nx ())
def jA (a_text:D):Option (Out PEmpty PEmpty):=
 ifO (orB (eP (chB D.leI D.leI (some (.int 1)) (b1 (un1 D.lQ) (aj (some a_text) (aI))) (some (.int 12)))) (sT (b2 D.gtI (b1 (un1 D.lQ) (aj (some a_text) (aI))) (some (.int 1))) (b2 D.eqA (b2 D.atS (some a_text) (some (.int 0))) (some (.str "0"))))) ((b1 D.et (some a_text)).bind fun d2=>some (.exc ⟨"NoRow",[("row",d2)]⟩)) (some (.nx ())) fun(y1:Unit)=>vk (b1 D.oW (some a_text)) (kW a_text) () fun(y3:Unit)=>cH (b1 (un1 D.qR) (aj (some a_text) (aI))) []
def fO:List D->Option FR:=fn1 fun a_text=>FO (jA a_text)
abbrev sD:List Str:=["text","sign"]
abbrev jB:List Str:=["text"]
theorem rj:FnScope sD jB (defScope dP):=⟨rfl,rfl,rfl,by decide+kernel,rfl,by decide+kernel,by decide+kernel⟩
abbrev jC:List PM:=[.bo]
abbrev jD:VM:=.rg .fz
theorem zo (Z:Zs K mg) (X_NoRow:Xcl P w K mg base "NoRow" "row") {f:Addr} {cdv:Value} {A:Around} {outer:List Env} {s:Shared} {H:Hp} {E:XK} (hr:Room 2 (A.deeper (envOfC "number_of" (defScope dP) s.heap.objs.size f cdv))) (v0:V) (a_text:D):
  Blk (cxN P w K mg base sD "number_of" (defScope dP) f cdv A outer s H E) (fnX jD (bZ jC [v0]) E) [.bo,.fz] [some a_text,none] (defBody dP) (jA a_text):=by
 unfold jA
 exact (bY [.bo,.fz] (fun(y1:Unit)=>[some a_text,none]) (PW.pt (kJ (ia (fM op_le (iQ (rg:=.fz)) op_le (iQ (rg:=.fz)) (ak (rg:=.fz)) (cg call_len (oV (rg:=.fz)) (by rfl) Z.len fB (aa (af (md:=.bo) 0 rfl rfl rfl (.inl rfl)) au)) (ak (rg:=.fz)))) (jq (PW.pt (Fl (aR op_gt (iQ (rg:=.fz)) (cg call_len (oV (rg:=.fz)) (by rfl) Z.len fB (aa (af (md:=.bo) 0 rfl rfl rfl (.inl rfl)) au)) (ak (rg:=.fz)) rfl) (CW (aR op_eq (gu (rg:=.fz)) (aT ix_str (yA (rg:=.fz)) (af (md:=.bo) 0 rfl rfl rfl (.inl rfl)) (ak (rg:=.fz)) (fun _ _=>rfl)) (aG (rg:=.fz)) rfl))))))) (lh X_NoRow hr rfl kK (bJ (af (md:=.bo) 0 rfl rfl rfl (.inl rfl)))) (aP (.keep (.drop (.nil)))) (fun(y1:Unit)=>(qa (hp:=passes_of rfl) [.bo,.fz] (fun(y3:Unit)=>[some a_text,none]) [.bo,.fz] (fun(y3:Unit) (x5:D)=>[some a_text,some x5]) (pz (af (md:=.bo) 0 rfl rfl rfl (.inl rfl))) fy eh (pg_name (i:=1) rj.nd rfl (.inl rfl)) (iO _ 1 eh (Nat.le_of_ble_eq_true rfl)) (.keep (.drop (.nil))) (fun(y3:Unit) (x5:D)=>by unfold kW;exact (bY [.bo,.fz] (fun(y6:Unit)=>[some a_text,some x5]) (aR op_notIn_sign wM (af (md:=.fz) 1 rfl rfl rfl (.inl rfl)) (ug (rg:=.fz) Z.FIGURES) rfl) (lh X_NoRow hr rfl kK (bJ (af (md:=.bo) 0 rfl rfl rfl (.inl rfl)))) (aP (.keep (.keep (.nil)))) (fun(y6:Unit)=>(aP (.keep (.drop (.nil))))))) (fun(y3:Unit)=>(PSs.nox (aQ (je call_int_str (z8 (rg:=.fz)) (by rfl) Z.int ti (aa (af (md:=.bo) 0 rfl rfl rfl (.inl rfl)) au)) rfl rfl rfl))))))
theorem xP (Z:Zs K mg) (X_NoRow:Xcl P w K mg base "NoRow" "row") {f:Addr} {fd:FuncData} (F:Fun K "number_of" "number_of" dP f fd):FnOk P w K mg base (L2N.CX P w) (3) f fd jB (FSp K jC jD fO):=
 wU (n:=1) F rj rfl rfl fun cdv A outer s H vs E hr hv ds fr hd ef=>match vs,hv,ds,hd,ef with| [v0],_,[a_text],_,ef=>⟨_,zo Z X_NoRow hr v0 a_text,ef⟩
def kX (y3:D) (x5:D):Option (Out (D) (D)):=
 ifO (orB (b2 (D.qb true) (some x5) (some (.str "abcdefghijklmnopqrstuvwxyz"))) (b2 D.leS (some x5) (some y3))) (cH (some (.bl false)) []) (some (.nx ())) fun(y6:Unit)=>(some x5).bind fun d7=>some (.nx d7)
def jE (a_text:D):Option (Out PEmpty PEmpty):=
 ifO (b2 D.eqA (some a_text) (some (.str ""))) (cH (some (.bl false)) []) (some (.nx ())) fun(y1:Unit)=>(some (.str "")).bind fun d2=>vk (b1 D.oW (some a_text)) (kX) d2 fun(y3:D)=>cH (some (.bl true)) []
def fP:List D->Option FR:=fn1 fun a_text=>FO (jE a_text)
abbrev sE:List Str:=["text","last","sign"]
abbrev jF:List Str:=["text"]
theorem kY:FnScope sE jF (defScope dQ):=⟨rfl,rfl,rfl,by decide+kernel,rfl,by decide+kernel,by decide+kernel⟩
abbrev jG:List PM:=[.bo]
abbrev jH:VM:=.rg .fz
theorem zp (Z:Zs K mg) {f:Addr} {cdv:Value} {A:Around} {outer:List Env} {s:Shared} {H:Hp} {E:XK} (hr:Room 0 (A.deeper (envOfC "are_marks" (defScope dQ) s.heap.objs.size f cdv))) (v0:V) (a_text:D):
  Blk (cxT P w K mg base sE "are_marks" (defScope dQ) f cdv A outer s H E) (fnX jH (bZ jG [v0]) E) [.bo,.fz,.fz] [some a_text,none,none] (defBody dQ) (jE a_text):=by
 unfold jE
 exact (bY [.bo,.fz,.fz] (fun(y1:Unit)=>[some a_text,none,none]) (aR op_eq (gu (rg:=.fz)) (af (md:=.bo) 0 rfl rfl rfl (.inl rfl)) (aG (rg:=.fz)) rfl) (aQ (mR (rg:=.fz)) rfl rfl rfl) (aP (.keep (.drop (.drop (.nil))))) (fun(y1:Unit)=>(aS 1 [.bo,.fz,.fz] (fun(d2:D)=>[some a_text,some d2,none]) (aG (rg:=.fz)) (fun(d2:D)=>(qa [.bo,.fz,.fz] (fun(y3:D)=>[some a_text,some y3,none]) [.bo,.fz,.fz] (fun(y3:D) (x5:D)=>[some a_text,some y3,some x5]) (pz (af (md:=.bo) 0 rfl rfl rfl (.inl rfl))) fy eh (pg_name (i:=2) kY.nd rfl (.inl rfl)) (iO _ 2 eh (Nat.le_of_ble_eq_true rfl)) (.keep (.keep (.drop (.nil)))) (fun(y3:D) (x5:D)=>by unfold kX;exact (bY [.bo,.fz,.fz] (fun(y6:Unit)=>[some a_text,some y3,some x5]) (PW.pt (kJ (aR op_notIn_sign wM (af (md:=.fz) 2 rfl rfl rfl (.inl rfl)) (ug (rg:=.fz) Z.LETTERS) rfl) (jq (aR op_le_str (uf (rg:=.fz)) (af (md:=.fz) 2 rfl rfl rfl (.inl rfl)) (af (md:=.fz) 1 rfl rfl rfl (.inl rfl)) rfl)))) (aQ (mR (rg:=.fz)) rfl rfl rfl) (aP (.keep (.keep (.keep (.nil))))) (fun(y6:Unit)=>(aS 1 [.bo,.fz,.fz] (fun(d7:D)=>[some a_text,some d7,some x5]) (af (md:=.fz) 2 rfl rfl rfl (.inl rfl)) (fun(d7:D)=>(aP (.keep (.keep (.drop (.nil)))))) (.inl rfl) kY.nd)))) (fun(y3:D)=>(aQ (mR (rg:=.fz)) rfl rfl rfl)))) (.inl rfl) kY.nd)))
theorem xQ (Z:Zs K mg) {f:Addr} {fd:FuncData} (F:Fun K "are_marks" "are_marks" dQ f fd):FnOk P w K mg base CX0 (1) f fd jF (FSp K jG jH fP):=
 dq (n:=2) F kY rfl rfl fun cdv A outer s H vs E hr hv ds fr hd ef=>match vs,hv,ds,hd,ef with| [v0],_,[a_text],_,ef=>⟨_,zp Z hr v0 a_text,ef⟩
def eT (a_text:D) (a_low:D) (a_high:D):Option (Out PEmpty PEmpty):=
 xbO (((aj (some a_text) (aI)).bind fO).bind frX) fun d1=>ifO (eP (chB D.leI D.leI (some a_low) (some d1) (some a_high))) ((b1 D.et (some a_text)).bind fun d3=>some (.exc ⟨"NoRow",[("row",d3)]⟩)) (some (.nx ())) fun(y2:Unit)=>cH (some d1) []
def bc:List D->Option FR:=fn3 fun a_text a_low a_high=>FO (eT a_text a_low a_high)
abbrev oC:List Str:=["text","low","high","number"]
abbrev cu:List Str:=["text","low","high"]
theorem ni:FnScope oC cu (defScope bS):=⟨rfl,rfl,rfl,by decide+kernel,rfl,by decide+kernel,by decide+kernel⟩
abbrev cw:List PM:=[.bo,.bo,.bo]
abbrev cA:VM:=.rg .fz
theorem sW (Z:Zs K mg) (C_number_of:qd P w K mg base 3 "number_of" jB jC jD fO) (X_NoRow:Xcl P w K mg base "NoRow" "row") {f:Addr} {cdv:Value} {A:Around} {outer:List Env} {s:Shared} {H:Hp} {E:XK} (hr:Room 3 (A.deeper (envOfC "number_within" (defScope bS) s.heap.objs.size f cdv))) (v0 v1 v2:V) (a_text a_low a_high:D):
  Blk (cxN P w K mg base oC "number_within" (defScope bS) f cdv A outer s H E) (fnX cA (bZ cw [v0,v1,v2]) E) [.bo,.bo,.bo,.fz] [some a_text,some a_low,some a_high,none] (defBody bS) (eT a_text a_low a_high):=by
 unfold eT
 exact (tm 3 [.bo,.bo,.bo,.fz] (fun(d1:D)=>[some a_text,some a_low,some a_high,some d1]) (iw C_number_of hr kK (aa (af (md:=.bo) 0 rfl rfl rfl (.inl rfl)) au)) (fun(d1:D)=>(bY [.bo,.bo,.bo,.fz] (fun(y2:Unit)=>[some a_text,some a_low,some a_high,some d1]) (ia (fM op_le (iQ (rg:=.fz)) op_le (iQ (rg:=.fz)) (af (md:=.bo) 1 rfl rfl rfl (.inl rfl)) (af (md:=.fz) 3 rfl rfl rfl (.inl rfl)) (af (md:=.bo) 2 rfl rfl rfl (.inl rfl)))) (lh X_NoRow hr rfl kK (bJ (af (md:=.bo) 0 rfl rfl rfl (.inl rfl)))) (aP (.keep (.keep (.keep (.keep (.nil)))))) (fun(y2:Unit)=>(PSs.nox (aQ (af (md:=.fz) 3 rfl rfl rfl (.inl rfl)) rfl rfl rfl))))) (.inl rfl) ni.nd)
theorem rV (Z:Zs K mg) (C_number_of:qd P w K mg base 3 "number_of" jB jC jD fO) (X_NoRow:Xcl P w K mg base "NoRow" "row") {f:Addr} {fd:FuncData} (F:Fun K "number_within" "number_within" bS f fd):FnOk P w K mg base (L2N.CX P w) (4) f fd cu (FSp K cw cA bc):=
 wU (n:=1) F ni rfl rfl fun cdv A outer s H vs E hr hv ds fr hd ef=>match vs,hv,ds,hd,ef with| [v0,v1,v2],_,[a_text,a_low,a_high],_,ef=>⟨_,sW Z C_number_of X_NoRow hr v0 v1 v2 a_text a_low a_high,ef⟩
def nj (a_text:D):Option (Out PEmpty PEmpty):=
 (b2 D.split (some a_text) (some (.str " "))).bind fun d1=>ifO (orB (b2 D.neA (b1 (un1 D.lC) (aj (some d1) (aI))) (some (.int 3))) (b1 (D.inG true [("O" :Str),("A" :Str),("B" :Str),("AB" :Str)]) (b2 D.atL (some d1) (some (.int 0))))) ((b1 D.et (some a_text)).bind fun d3=>some (.exc ⟨"NoRow",[("row",d3)]⟩)) (some (.nx ())) fun(y2:Unit)=>xbO (((aj (b2 D.atL (some d1) (some (.int 1))) (aj (some (.int 1)) (aj (some (.int 99)) (aI)))).bind bc).bind frX) fun d4=>ifO (b2 D.eqA (b2 D.atL (some d1) (some (.int 2))) (some (.str "-"))) (cH (tupO (aj (b2 D.atL (some d1) (some (.int 0))) (aj (some d4) (aj (some (.str "")) (aI))))) []) (some (.nx ())) fun(y5:Unit)=>ifO (eP (b1 D.tb (bp fP (aj (b2 D.atL (some d1) (some (.int 2))) (aI))))) ((b1 D.et (some a_text)).bind fun d7=>some (.exc ⟨"NoRow",[("row",d7)]⟩)) (some (.nx ())) fun(y6:Unit)=>cH (tupO (aj (b2 D.atL (some d1) (some (.int 0))) (aj (some d4) (aj (b2 D.atL (some d1) (some (.int 2))) (aI))))) []
def iD:List D->Option FR:=fn1 fun a_text=>FO (nj a_text)
abbrev wj:List Str:=["text","words","size"]
abbrev nk:List Str:=["text"]
theorem qr:FnScope wj nk (defScope iF):=⟨rfl,rfl,rfl,by decide+kernel,rfl,by decide+kernel,by decide+kernel⟩
abbrev nu:List PM:=[.bo]
abbrev nv:VM:=.rg .fz
theorem Cz (Z:Zs K mg) (C_number_within:qd P w K mg base 4 "number_within" cu cw cA bc) (C_are_marks:Cal P w K mg base 1 "are_marks" jF jG jH fP) (X_NoRow:Xcl P w K mg base "NoRow" "row") {f:Addr} {cdv:Value} {A:Around} {outer:List Env} {s:Shared} {H:Hp} {E:XK} (hr:Room 4 (A.deeper (envOfC "side_of" (defScope iF) s.heap.objs.size f cdv))) (v0:V) (a_text:D):
  Blk (cxN P w K mg base wj "side_of" (defScope iF) f cdv A outer s H E) (fnX nv (bZ nu [v0]) E) [.bo,.fz,.fz] [some a_text,none,none] (defBody iF) (nj a_text):=by
 unfold nj
 exact (aS 1 [.bo,.fz,.fz] (fun(d1:D)=>[some a_text,some d1,none]) (c8 (qQ (af (md:=.bo) 0 rfl rfl rfl (.inl rfl)) (aG (rg:=.fz)))) (fun(d1:D)=>(bY [.bo,.fz,.fz] (fun(y2:Unit)=>[some a_text,some d1,none]) (PW.pt (kJ (aR op_ne (yy (rg:=.fz)) (cg call_len_seq (oU (rg:=.fz)) (by rfl) Z.len fB (aa (af (md:=.fz) 1 rfl rfl rfl (.inl rfl)) au)) (ak (rg:=.fz)) rfl) (jq (FD Z.GROUPS (aT ix_list cj (af (md:=.fz) 1 rfl rfl rfl (.inl rfl)) (ak (rg:=.fz)) (fun _ _=>rfl)))))) (lh X_NoRow hr rfl kK (bJ (af (md:=.bo) 0 rfl rfl rfl (.inl rfl)))) (aP (.keep (.keep (.drop (.nil))))) (fun(y2:Unit)=>(tm 2 [.bo,.fz,.fz] (fun(d4:D)=>[some a_text,some d1,some d4]) (iw C_number_within hr kK (aa (aT ix_list cj (af (md:=.fz) 1 rfl rfl rfl (.inl rfl)) (ak (rg:=.fz)) (fun _ _=>rfl)) (aa (ak (rg:=.fz)) (aa (ak (rg:=.fz)) au)))) (fun(d4:D)=>(bY [.bo,.fz,.fz] (fun(y5:Unit)=>[some a_text,some d1,some d4]) (aR op_eq (gu (rg:=.fz)) (aT ix_list cj (af (md:=.fz) 1 rfl rfl rfl (.inl rfl)) (ak (rg:=.fz)) (fun _ _=>rfl)) (aG (rg:=.fz)) rfl) (PSs.nox (aQ (nH (aa (aT ix_list cj (af (md:=.fz) 1 rfl rfl rfl (.inl rfl)) (ak (rg:=.fz)) (fun _ _=>rfl)) (aa (af (md:=.fz) 2 rfl rfl rfl (.inl rfl)) (aa (aG (rg:=.fz)) au)))) rfl rfl rfl)) (aP (.keep (.keep (.keep (.nil))))) (fun(y5:Unit)=>(bY [.bo,.fz,.fz] (fun(y6:Unit)=>[some a_text,some d1,some d4]) (ia (AX (aM C_are_marks hr (aa (aT ix_list cj (af (md:=.fz) 1 rfl rfl rfl (.inl rfl)) (ak (rg:=.fz)) (fun _ _=>rfl)) au)))) (lh X_NoRow hr rfl kK (bJ (af (md:=.bo) 0 rfl rfl rfl (.inl rfl)))) (aP (.keep (.keep (.keep (.nil))))) (fun(y6:Unit)=>(PSs.nox (aQ (nH (aa (aT ix_list cj (af (md:=.fz) 1 rfl rfl rfl (.inl rfl)) (ak (rg:=.fz)) (fun _ _=>rfl)) (aa (af (md:=.fz) 2 rfl rfl rfl (.inl rfl)) (aa (aT ix_list cj (af (md:=.fz) 1 rfl rfl rfl (.inl rfl)) (ak (rg:=.fz)) (fun _ _=>rfl)) au)))) rfl rfl rfl))))))) (.inl rfl) qr.nd)))) (.inl rfl) qr.nd)
theorem AL (Z:Zs K mg) (C_number_within:qd P w K mg base 4 "number_within" cu cw cA bc) (C_are_marks:Cal P w K mg base 1 "are_marks" jF jG jH fP) (X_NoRow:Xcl P w K mg base "NoRow" "row") {f:Addr} {fd:FuncData} (F:Fun K "side_of" "side_of" iF f fd):FnOk P w K mg base (L2N.CX P w) (5) f fd nk (FSp K nu nv iD):=
 wU (n:=2) F qr rfl rfl fun cdv A outer s H vs E hr hv ds fr hd ef=>match vs,hv,ds,hd,ef with| [v0],_,[a_text],_,ef=>⟨_,Cz Z C_number_within C_are_marks X_NoRow hr v0 a_text,ef⟩
def jI (a_text:D):Option (Out PEmpty PEmpty):=
 (b1 D.pr3 (b2 D.part (some a_text) (some (.str ": ")))).bind fun d1=>(b2 D.split (some d1.1) (some (.str " "))).bind fun d2=>ifO (orB (b2 D.neA (b1 (un1 D.lC) (aj (some d2) (aI))) (some (.int 3))) (eP (b1 D.tb (bp ji (aj (b2 D.atL (some d2) (some (.int 0))) (aI)))))) ((b1 D.et (some a_text)).bind fun d4=>some (.exc ⟨"NoRow",[("row",d4)]⟩)) (some (.nx ())) fun(y3:Unit)=>xbO (((aj (b2 D.atL (some d2) (some (.int 1))) (aj (some (.int 1)) (aj (some (.int 1000000)) (aI)))).bind bc).bind frX) fun d5=>xbO (((aj (b2 D.atL (some d2) (some (.int 2))) (aj (some (.int 0)) (aj (some (.int 1000000)) (aI)))).bind bc).bind frX) fun d6=>(b1 D.pr3 (b2 D.part (some d1.2.2) (some (.str " > ")))).bind fun d7=>xbO (FW (iR (okX (b2 D.atL (some d2) (some (.int 0)))) (iR (okX (some d5)) (iR (okX (some d6)) (iR (((aj (some d7.1) (aI)).bind iD).bind frX) (iR (((aj (some d7.2.2) (aI)).bind iD).bind frX) (Bi))))))) fun d8=>some (.ret d8 [])
def fQ:List D->Option FR:=fn1 fun a_text=>FO (jI a_text)
abbrev sF:List Str:=["text","words","need","rank","head","colon","tail","giver","arrow","taker"]
abbrev jJ:List Str:=["text"]
theorem b9:FnScope sF jJ (defScope dR):=⟨rfl,rfl,rfl,by decide+kernel,rfl,by decide+kernel,by decide+kernel⟩
abbrev jK:List PM:=[.bo]
abbrev jL:VM:=.rg .fz
theorem zq (Z:Zs K mg) (C_is_name:Cal P w K mg base 1 "is_name" m8 m9 nh ji) (C_number_within:qd P w K mg base 4 "number_within" cu cw cA bc) (C_side_of:qd P w K mg base 5 "side_of" nk nu nv iD) (X_NoRow:Xcl P w K mg base "NoRow" "row") {f:Addr} {cdv:Value} {A:Around} {outer:List Env} {s:Shared} {H:Hp} {E:XK} (hr:Room 5 (A.deeper (envOfC "couple_of" (defScope dR) s.heap.objs.size f cdv))) (v0:V) (a_text:D):
  Blk (cxN P w K mg base sF "couple_of" (defScope dR) f cdv A outer s H E) (fnX jL (bZ jK [v0]) E) [.bo,.fz,.fz,.fz,.fz,.fz,.fz,.fz,.fz,.fz] [some a_text,none,none,none,none,none,none,none,none,none] (defBody dR) (jI a_text):=by
 unfold jI
 exact (A9 4 5 6 [.bo,.fz,.fz,.fz,.fz,.fz,.fz,.fz,.fz,.fz] (fun(d1:D×D×D)=>[some a_text,none,none,none,some d1.1,some d1.2.1,some d1.2.2,none,none,none]) (A8 (af (md:=.bo) 0 rfl rfl rfl (.inl rfl)) (aG (rg:=.fz))) eh (pg_tup rfl (pgs_cons (pg_name (i:=4) b9.nd rfl (.inl rfl)) (pgs_cons (pg_name (i:=5) b9.nd rfl (.inl rfl)) (pgs_cons (pg_name (i:=6) b9.nd rfl (.inl rfl)) pgs_nil)))) (fun(d1:D×D×D)=>(aS 1 [.bo,.fz,.fz,.fz,.fz,.fz,.fz,.fz,.fz,.fz] (fun(d2:D)=>[some a_text,some d2,none,none,some d1.1,some d1.2.1,some d1.2.2,none,none,none]) (c8 (qQ (af (md:=.fz) 4 rfl rfl rfl (.inl rfl)) (aG (rg:=.fz)))) (fun(d2:D)=>(bY [.bo,.fz,.fz,.fz,.fz,.fz,.fz,.fz,.fz,.fz] (fun(y3:Unit)=>[some a_text,some d2,none,none,some d1.1,some d1.2.1,some d1.2.2,none,none,none]) (PW.pt (kJ (aR op_ne (yy (rg:=.fz)) (cg call_len_seq (oU (rg:=.fz)) (by rfl) Z.len fB (aa (af (md:=.fz) 1 rfl rfl rfl (.inl rfl)) au)) (ak (rg:=.fz)) rfl) (jq (ia (AX (aM C_is_name hr (aa (aT ix_list cj (af (md:=.fz) 1 rfl rfl rfl (.inl rfl)) (ak (rg:=.fz)) (fun _ _=>rfl)) au))))))) (lh X_NoRow hr rfl kK (bJ (af (md:=.bo) 0 rfl rfl rfl (.inl rfl)))) (aP (.keep (.keep (.drop (.drop (.keep (.keep (.keep (.drop (.drop (.drop (.nil)))))))))))) (fun(y3:Unit)=>(tm 2 [.bo,.fz,.fz,.fz,.fz,.fz,.fz,.fz,.fz,.fz] (fun(d5:D)=>[some a_text,some d2,some d5,none,some d1.1,some d1.2.1,some d1.2.2,none,none,none]) (iw C_number_within hr kK (aa (aT ix_list cj (af (md:=.fz) 1 rfl rfl rfl (.inl rfl)) (ak (rg:=.fz)) (fun _ _=>rfl)) (aa (ak (rg:=.fz)) (aa (ak (rg:=.fz)) au)))) (fun(d5:D)=>(tm 3 [.bo,.fz,.fz,.fz,.fz,.fz,.fz,.fz,.fz,.fz] (fun(d6:D)=>[some a_text,some d2,some d5,some d6,some d1.1,some d1.2.1,some d1.2.2,none,none,none]) (iw C_number_within hr kK (aa (aT ix_list cj (af (md:=.fz) 1 rfl rfl rfl (.inl rfl)) (ak (rg:=.fz)) (fun _ _=>rfl)) (aa (ak (rg:=.fz)) (aa (ak (rg:=.fz)) au)))) (fun(d6:D)=>(A9 7 8 9 [.bo,.fz,.fz,.fz,.fz,.fz,.fz,.fz,.fz,.fz] (fun(d7:D×D×D)=>[some a_text,some d2,some d5,some d6,some d1.1,some d1.2.1,some d1.2.2,some d7.1,some d7.2.1,some d7.2.2]) (A8 (af (md:=.fz) 6 rfl rfl rfl (.inl rfl)) (aG (rg:=.fz))) eh (pg_tup rfl (pgs_cons (pg_name (i:=7) b9.nd rfl (.inl rfl)) (pgs_cons (pg_name (i:=8) b9.nd rfl (.inl rfl)) (pgs_cons (pg_name (i:=9) b9.nd rfl (.inl rfl)) pgs_nil)))) (fun(d7:D×D×D)=>(FZ (DN (mV (Ad (aT ix_list cj (af (md:=.fz) 1 rfl rfl rfl (.inl rfl)) (ak (rg:=.fz)) (fun _ _=>rfl))) (mV (Ad (af (md:=.fz) 2 rfl rfl rfl (.inl rfl))) (mV (Ad (af (md:=.fz) 3 rfl rfl rfl (.inl rfl))) (mV (iw C_side_of hr kK (aa (af (md:=.fz) 7 rfl rfl rfl (.inl rfl)) au)) (mV (iw C_side_of hr kK (aa (af (md:=.fz) 9 rfl rfl rfl (.inl rfl)) au)) DJ))))) Dd (mW (mW (mW (mW (mW DM)))))) rfl rfl rfl)))) (.inl rfl) b9.nd)) (.inl rfl) b9.nd)))) (.inl rfl) b9.nd)))
theorem xR (Z:Zs K mg) (C_is_name:Cal P w K mg base 1 "is_name" m8 m9 nh ji) (C_number_within:qd P w K mg base 4 "number_within" cu cw cA bc) (C_side_of:qd P w K mg base 5 "side_of" nk nu nv iD) (X_NoRow:Xcl P w K mg base "NoRow" "row") {f:Addr} {fd:FuncData} (F:Fun K "couple_of" "couple_of" dR f fd):FnOk P w K mg base (L2N.CX P w) (6) f fd jJ (FSp K jK jL fQ):=
 wU (n:=9) F b9 rfl rfl fun cdv A outer s H vs E hr hv ds fr hd ef=>match vs,hv,ds,hd,ef with| [v0],_,[a_text],_,ef=>⟨_,zq Z C_is_name C_number_within C_side_of X_NoRow hr v0 a_text,ef⟩
def gy (a_text:D):Option (Out PEmpty PEmpty):=
 IQ ((((aj (some a_text) (aI)).bind fQ).bind frX).map (Sum.map id fun r_=>r_)) "NoRow" "row" (b1 D.et (some a_text)) fun(y1:D)=>cH (some y1) []
def dG:List D->Option FR:=fn1 fun a_text=>FO (gy a_text)
abbrev pQ:List Str:=["text","found"]
abbrev gz:List Str:=["text"]
theorem o5:FnScope pQ gz (defScope cO):=⟨rfl,rfl,rfl,by decide+kernel,rfl,by decide+kernel,by decide+kernel⟩
abbrev gA:List PM:=[.bo]
abbrev gC:VM:=.rg .fz
theorem vo (Z:Zs K mg) (C_couple_of:qd P w K mg base 6 "couple_of" jJ jK jL fQ) (X_NoRow:Xcl P w K mg base "NoRow" "row") (Xf_NoRow:Ac K "NoRow" "row" "SwapError") (Xg_NoRow:mg "NoRow" =some (.ref (He.ga K "NoRow"))) (Xh_NoRow:F4 P w K mg base "NoRow" "row") {f:Addr} {cdv:Value} {A:Around} {outer:List Env} {s:Shared} {H:Hp} {E:XK} (hr:Room 6 (A.deeper (envOfC "read_couple" (defScope cO) s.heap.objs.size f cdv))) (v0:V) (a_text:D):
  Blk (cxX P w K mg base pQ "read_couple" (defScope cO) f cdv A outer s H E) (fnX gC (bZ gA [v0]) E) [.bo,.fz] [some a_text,none] (defBody cO) (gy a_text):=by
 unfold gy
 exact (F6 (el:=fun(y1:D)=>[some a_text,some y1]) Xh_NoRow hr Xf_NoRow.tr rfl rfl rfl (fun hd_=>L2H.passesAt_of rfl hd_) IG (fun W_ pn_ xe_ tk_ po_=>(F0 (fun r_=>r_) 1 (iw C_couple_of hr tk_ (aa (af (md:=.bo) 0 rfl rfl rfl (.inl rfl)) au)) rfl (Nat.le_of_ble_eq_true rfl) o5.nd rfl (.inl rfl) rfl (fun _=>rfl))) (fun a_ oe_ pn_=>(bJ (af (md:=.bo) 0 rfl rfl rfl (.inl rfl)))) (fun(y1:D)=>(PSs.nox (aQ (af (md:=.fz) 1 rfl rfl rfl (.inl rfl)) rfl rfl rfl))))
theorem uR (Z:Zs K mg) (C_couple_of:qd P w K mg base 6 "couple_of" jJ jK jL fQ) (X_NoRow:Xcl P w K mg base "NoRow" "row") (Xf_NoRow:Ac K "NoRow" "row" "SwapError") (Xg_NoRow:mg "NoRow" =some (.ref (He.ga K "NoRow"))) (Xh_NoRow:F4 P w K mg base "NoRow" "row") {f:Addr} {fd:FuncData} (F:Fun K "read_couple" "read_couple" cO f fd):FnOk P w K mg base (L2.CX P w) (7) f fd gz (FSp K gA gC dG):=
 IH (n:=1) F o5 rfl rfl fun cdv A outer s H vs E hr hv ds fr hd ef=>match vs,hv,ds,hd,ef with| [v0],_,[a_text],_,ef=>⟨_,vo Z C_couple_of X_NoRow Xf_NoRow Xg_NoRow Xh_NoRow hr v0 a_text,ef⟩
def jM (a__law_script:D) (a__law_k:D):Option (Out PEmpty PEmpty):=
 ifO (b2 D.ltI (some a__law_k) (b1 (un1 D.yB) (aj (some a__law_script) (aI)))) (cH (b2 D.atC (some a__law_script) (some a__law_k)) []) (some (.nx ())) fun(y1:Unit)=>cH (some (.int 0)) []
def cI:List D->Option FR:=fn2 fun a__law_script a__law_k=>FO (jM a__law_script a__law_k)
abbrev sG:List Str:=["_law_script","_law_k"]
abbrev jN:List Str:=["_law_script","_law_k"]
theorem xS:FnScope sG jN (defScope dS):=⟨rfl,rfl,rfl,by decide+kernel,rfl,by decide+kernel,by decide+kernel⟩
abbrev jO:List PM:=[.bo,.bo]
abbrev jP:VM:=.rg .fz
theorem zr (Z:Zs K mg) {f:Addr} {cdv:Value} {A:Around} {outer:List Env} {s:Shared} {H:Hp} {E:XK} (hr:Room 0 (A.deeper (envOfC "_law_cell" (defScope dS) s.heap.objs.size f cdv))) (v0 v1:V) (a__law_script a__law_k:D):
  Blk (cxT P w K mg base sG "_law_cell" (defScope dS) f cdv A outer s H E) (fnX jP (bZ jO [v0,v1]) E) [.bo,.bo] [some a__law_script,some a__law_k] (defBody dS) (jM a__law_script a__law_k):=by
 unfold jM
 exact (bY [.bo,.bo] (fun(y1:Unit)=>[some a__law_script,some a__law_k]) (aR op_lt (iQ (rg:=.fz)) (af (md:=.bo) 1 rfl rfl rfl (.inl rfl)) (cg call_len_seq (Ii (rg:=.fz)) (by rfl) Z.len fB (aa (af (md:=.bo) 0 rfl rfl rfl (.inl rfl)) au)) rfl) (aQ (aT ix_list (JX (rg:=.fz)) (af (md:=.bo) 0 rfl rfl rfl (.inl rfl)) (af (md:=.bo) 1 rfl rfl rfl (.inl rfl)) (fun _ _=>rfl)) rfl rfl rfl) (aP (.keep (.keep (.nil)))) (fun(y1:Unit)=>(aQ (ak (rg:=.fz)) rfl rfl rfl)))
theorem xT (Z:Zs K mg) {f:Addr} {fd:FuncData} (F:Fun K "_law_cell" "_law_cell" dS f fd):FnOk P w K mg base CX0 (1) f fd jN (FSp K jO jP cI):=
 dq (n:=0) F xS rfl rfl fun cdv A outer s H vs E hr hv ds fr hd ef=>match vs,hv,ds,hd,ef with| [v0,v1],_,[a__law_script,a__law_k],_,ef=>⟨_,zr Z hr v0 v1 a__law_script a__law_k,ef⟩
def lH (a__law_cell_here:D) (a__law_k:D):Option (Out PEmpty PEmpty):=
 (b2 D.bu (b2 D.dA (b2 D.dA (b2 D.bu (some a__law_cell_here) (some (.int 2147483629))) (b2 D.pH (some (.int 7919)) (some a__law_k))) (some (.int 12345))) (some (.int 2147483629))).bind fun d1=>(b2 D.bu (b2 D.dA (b2 D.pH (some d1) (some d1)) (b2 D.pH (some (.int 104729)) (some a__law_k))) (some (.int 2147483629))).bind fun d2=>cH (b2 D.bu (b2 D.pH (b2 D.dA (some d2) (some a__law_k)) (b2 D.dA (some d2) (some a__law_k))) (some (.int 2147483587))) []
def aU:List D->Option FR:=fn2 fun a__law_cell_here a__law_k=>FO (lH a__law_cell_here a__law_k)
abbrev uT:List Str:=["_law_cell_here","_law_k","_law_number_here"]
abbrev eB:List Str:=["_law_cell_here","_law_k"]
theorem o6:FnScope uT eB (defScope fv):=⟨rfl,rfl,rfl,by decide+kernel,rfl,by decide+kernel,by decide+kernel⟩
abbrev eC:List PM:=[.bo,.bo]
abbrev eE:VM:=.rg .fz
theorem AM (Z:Zs K mg) {f:Addr} {cdv:Value} {A:Around} {outer:List Env} {s:Shared} {H:Hp} {E:XK} (hr:Room 0 (A.deeper (envOfC "_law_mix" (defScope fv) s.heap.objs.size f cdv))) (v0 v1:V) (a__law_cell_here a__law_k:D):
  Blk (cxT P w K mg base uT "_law_mix" (defScope fv) f cdv A outer s H E) (fnX eE (bZ eC [v0,v1]) E) [.bo,.bo,.fz] [some a__law_cell_here,some a__law_k,none] (defBody fv) (lH a__law_cell_here a__law_k):=by
 unfold lH
 exact (aS 2 [.bo,.bo,.fz] (fun(d1:D)=>[some a__law_cell_here,some a__law_k,some d1]) (aJ op_mod (bI (rg:=.fz)) (aJ op_add (fA (rg:=.fz)) (aJ op_add (fA (rg:=.fz)) (aJ op_mod (bI (rg:=.fz)) (af (md:=.bo) 0 rfl rfl rfl (.inl rfl)) (ak (rg:=.fz))) (aJ op_mul (wC (rg:=.fz)) (ak (rg:=.fz)) (af (md:=.bo) 1 rfl rfl rfl (.inl rfl)))) (ak (rg:=.fz))) (ak (rg:=.fz))) (fun(d1:D)=>(aS 2 [.bo,.bo,.fz] (fun(d2:D)=>[some a__law_cell_here,some a__law_k,some d2]) (aJ op_mod (bI (rg:=.fz)) (aJ op_add (fA (rg:=.fz)) (aJ op_mul (wC (rg:=.fz)) (af (md:=.fz) 2 rfl rfl rfl (.inl rfl)) (af (md:=.fz) 2 rfl rfl rfl (.inl rfl))) (aJ op_mul (wC (rg:=.fz)) (ak (rg:=.fz)) (af (md:=.bo) 1 rfl rfl rfl (.inl rfl)))) (ak (rg:=.fz))) (fun(d2:D)=>(aQ (aJ op_mod (bI (rg:=.fz)) (aJ op_mul (wC (rg:=.fz)) (aJ op_add (fA (rg:=.fz)) (af (md:=.fz) 2 rfl rfl rfl (.inl rfl)) (af (md:=.bo) 1 rfl rfl rfl (.inl rfl))) (aJ op_add (fA (rg:=.fz)) (af (md:=.fz) 2 rfl rfl rfl (.inl rfl)) (af (md:=.bo) 1 rfl rfl rfl (.inl rfl)))) (ak (rg:=.fz))) rfl rfl rfl)) (.inl rfl) o6.nd)) (.inl rfl) o6.nd)
theorem zt (Z:Zs K mg) {f:Addr} {fd:FuncData} (F:Fun K "_law_mix" "_law_mix" fv f fd):FnOk P w K mg base CX0 (1) f fd eB (FSp K eC eE aU):=
 dq (n:=1) F o6 rfl rfl fun cdv A outer s H vs E hr hv ds fr hd ef=>match vs,hv,ds,hd,ef with| [v0,v1],_,[a__law_cell_here,a__law_k],_,ef=>⟨_,AM Z hr v0 v1 a__law_cell_here a__law_k,ef⟩
def iW (a__law_number_here:D):Option (Out PEmpty PEmpty):=
 (some (.str "abcdefghijklmnopqrstuvwxyz")).bind fun d1=>(b2 D.bu (some a__law_number_here) (some (.int 3))).bind fun d2=>ifO (b2 D.eqA (some d2) (some (.int 0))) (cH (some (.str "")) []) (some (.nx ())) fun(y3:Unit)=>ifO (b2 D.eqA (some d2) (some (.int 1))) (cH (b2 D.atS (some d1) (b2 D.bu (b2 D.gq (some a__law_number_here) (some (.int 3))) (some (.int 26)))) []) (some (.nx ())) fun(y4:Unit)=>cH (b2 D.join (some (.str "")) (lcO (b1 D.rF (aj (some (.int 26)) (aI))) (fun c5:D=>b2 D.eqA (b2 D.bu (b2 D.gq (b2 D.gq (some a__law_number_here) (some (.int 3))) (b2 D.dA (some c5) (some (.int 1)))) (some (.int 3))) (some (.int 0))) (fun c5:D=>b2 D.atS (some d1) (some c5)))) []
def fh:List D->Option FR:=fn1 fun a__law_number_here=>FO (iW a__law_number_here)
abbrev og:List Str:=["_law_number_here","_law_letters","_law_way","_law_k"]
abbrev iX:List Str:=["_law_number_here"]
theorem gD:FnScope og iX (defScope cF):=⟨rfl,rfl,rfl,by decide+kernel,rfl,by decide+kernel,by decide+kernel⟩
abbrev iY:List PM:=[.bo]
abbrev iZ:VM:=.rg .fz
theorem xU (Z:Zs K mg) {f:Addr} {cdv:Value} {A:Around} {outer:List Env} {s:Shared} {H:Hp} {E:XK} (hr:Room 0 (A.deeper (envOfC "_law_marks" (defScope cF) s.heap.objs.size f cdv))) (v0:V) (a__law_number_here:D):
  Blk (cxT P w K mg base og "_law_marks" (defScope cF) f cdv A outer s H E) (fnX iZ (bZ iY [v0]) E) [.bo,.fz,.fz,.fz] [some a__law_number_here,none,none,none] (defBody cF) (iW a__law_number_here):=by
 unfold iW
 exact (aS 1 [.bo,.fz,.fz,.fz] (fun(d1:D)=>[some a__law_number_here,some d1,none,none]) (aG (rg:=.fz)) (fun(d1:D)=>(aS 2 [.bo,.fz,.fz,.fz] (fun(d2:D)=>[some a__law_number_here,some d1,some d2,none]) (aJ op_mod (bI (rg:=.fz)) (af (md:=.bo) 0 rfl rfl rfl (.inr (.inl rfl))) (ak (rg:=.fz))) (fun(d2:D)=>(bY [.bo,.fz,.fz,.fz] (fun(y3:Unit)=>[some a__law_number_here,some d1,some d2,none]) (aR op_eq (gu (rg:=.fz)) (af (md:=.fz) 2 rfl rfl rfl (.inl rfl)) (ak (rg:=.fz)) rfl) (aQ (aG (rg:=.fz)) rfl rfl rfl) (aP (.keep (.keep (.keep (.drop (.nil)))))) (fun(y3:Unit)=>(bY [.bo,.fz,.fz,.fz] (fun(y4:Unit)=>[some a__law_number_here,some d1,some d2,none]) (aR op_eq (gu (rg:=.fz)) (af (md:=.fz) 2 rfl rfl rfl (.inl rfl)) (ak (rg:=.fz)) rfl) (aQ (aT ix_str (yA (rg:=.fz)) (af (md:=.fz) 1 rfl rfl rfl (.inr (.inl rfl))) (aJ op_mod (bI (rg:=.fz)) (aJ op_fdiv (kI (rg:=.fz)) (af (md:=.bo) 0 rfl rfl rfl (.inr (.inl rfl))) (ak (rg:=.fz))) (ak (rg:=.fz))) (fun _ _=>rfl)) rfl rfl rfl) (aP (.keep (.keep (.keep (.drop (.nil)))))) (fun(y4:Unit)=>(aQ (qP (rg:=.fz) (aG (rg:=.fz)) (c8 (C0 rfl gD.nd (yC rfl Z.range (aa (ak (rg:=.fz)) au)) fy eh (show BlkOk og (defScope cF) _ [("_law_k",3)] from ⟨rfl,by decide+kernel,by decide+kernel,by decide+kernel,by decide+kernel⟩) (Fy rfl) A0 (fun _ _ _ _ _=>(pg_name (i:=3) gD.nd rfl (.inl rfl))) (iO _ 3 eh (Nat.le_of_ble_eq_true rfl)) (fun _ _ _ _ _ (c5:D)=>(yE (aR op_eq (gu (rg:=.fz)) (aJ op_mod (bI (rg:=.fz)) (aJ op_fdiv (kI (rg:=.fz)) (aJ op_fdiv (kI (rg:=.fz)) (af (md:=.bo) 0 rfl rfl rfl (.inr (.inl rfl))) (ak (rg:=.fz))) (aJ op_add (fA (rg:=.fz)) (af (md:=.fz) 3 rfl rfl rfl (.inl rfl)) (ak (rg:=.fz)))) (ak (rg:=.fz))) (ak (rg:=.fz)) rfl))) (fun _ _ _ _ _ (c5:D)=>(aT ix_str (yA (rg:=.fz)) (af (md:=.fz) 1 rfl rfl rfl (.inr (.inl rfl))) (af (md:=.fz) 3 rfl rfl rfl (.inl rfl)) (fun _ _=>rfl)))))) rfl rfl rfl)))))) (.inl rfl) gD.nd)) (.inr rfl) gD.nd)
theorem vp (Z:Zs K mg) {f:Addr} {fd:FuncData} (F:Fun K "_law_marks" "_law_marks" cF f fd):FnOk P w K mg base CX0 (1) f fd iX (FSp K iY iZ fh):=
 dq (n:=3) F gD rfl rfl fun cdv A outer s H vs E hr hv ds fr hd ef=>match vs,hv,ds,hd,ef with| [v0],_,[a__law_number_here],_,ef=>⟨_,xU Z hr v0 a__law_number_here,ef⟩
def jQ (a__law_cell_here:D) (a__law_k:D):Option (Out PEmpty PEmpty):=
 (bp aU (aj (some a__law_cell_here) (aj (some a__law_k) (aI)))).bind fun d1=>cH (tupO (aj (b2 D.atL (oF (aj (some (.str "O")) (aj (some (.str "A")) (aj (some (.str "B")) (aj (some (.str "AB")) (aI)))))) (b2 D.bu (some d1) (some (.int 4)))) (aj (b2 D.dA (some (.int 1)) (b2 D.bu (b2 D.gq (some d1) (some (.int 4))) (some (.int 99)))) (aj (bp fh (aj (b2 D.gq (some d1) (some (.int 400))) (aI))) (aI))))) []
def eF:List D->Option FR:=fn2 fun a__law_cell_here a__law_k=>FO (jQ a__law_cell_here a__law_k)
abbrev sH:List Str:=["_law_cell_here","_law_k","_law_number_here"]
abbrev jR:List Str:=["_law_cell_here","_law_k"]
theorem rq:FnScope sH jR (defScope dU):=⟨rfl,rfl,rfl,by decide+kernel,rfl,by decide+kernel,by decide+kernel⟩
abbrev jS:List PM:=[.bo,.bo]
abbrev jT:VM:=.rg .fz
theorem zu (Z:Zs K mg) (C__law_mix:Cal P w K mg base 1 "_law_mix" eB eC eE aU) (C__law_marks:Cal P w K mg base 1 "_law_marks" iX iY iZ fh) {f:Addr} {cdv:Value} {A:Around} {outer:List Env} {s:Shared} {H:Hp} {E:XK} (hr:Room 1 (A.deeper (envOfC "_law_side" (defScope dU) s.heap.objs.size f cdv))) (v0 v1:V) (a__law_cell_here a__law_k:D):
  Blk (cxT P w K mg base sH "_law_side" (defScope dU) f cdv A outer s H E) (fnX jT (bZ jS [v0,v1]) E) [.bo,.bo,.fz] [some a__law_cell_here,some a__law_k,none] (defBody dU) (jQ a__law_cell_here a__law_k):=by
 unfold jQ
 exact (aS 2 [.bo,.bo,.fz] (fun(d1:D)=>[some a__law_cell_here,some a__law_k,some d1]) (aM C__law_mix hr (aa (af (md:=.bo) 0 rfl rfl rfl (.inl rfl)) (aa (af (md:=.bo) 1 rfl rfl rfl (.inl rfl)) au))) (fun(d1:D)=>(aQ (nH (aa (aT ix_list cj (c8 (fZ (aa (aG (rg:=.fz)) (aa (aG (rg:=.fz)) (aa (aG (rg:=.fz)) (aa (aG (rg:=.fz)) au)))) wI)) (aJ op_mod (bI (rg:=.fz)) (af (md:=.fz) 2 rfl rfl rfl (.inl rfl)) (ak (rg:=.fz))) (fun _ _=>rfl)) (aa (aJ op_add (fA (rg:=.fz)) (ak (rg:=.fz)) (aJ op_mod (bI (rg:=.fz)) (aJ op_fdiv (kI (rg:=.fz)) (af (md:=.fz) 2 rfl rfl rfl (.inl rfl)) (ak (rg:=.fz))) (ak (rg:=.fz)))) (aa (aM C__law_marks hr (aa (aJ op_fdiv (kI (rg:=.fz)) (af (md:=.fz) 2 rfl rfl rfl (.inl rfl)) (ak (rg:=.fz))) au)) au)))) rfl rfl rfl)) (.inl rfl) rq.nd)
theorem xV (Z:Zs K mg) (C__law_mix:Cal P w K mg base 1 "_law_mix" eB eC eE aU) (C__law_marks:Cal P w K mg base 1 "_law_marks" iX iY iZ fh) {f:Addr} {fd:FuncData} (F:Fun K "_law_side" "_law_side" dU f fd):FnOk P w K mg base CX0 (2) f fd jR (FSp K jS jT eF):=
 dq (n:=1) F rq rfl rfl fun cdv A outer s H vs E hr hv ds fr hd ef=>match vs,hv,ds,hd,ef with| [v0,v1],_,[a__law_cell_here,a__law_k],_,ef=>⟨_,zu Z C__law_mix C__law_marks hr v0 v1 a__law_cell_here a__law_k,ef⟩
def jU (a__law_cell_here:D):Option (Out PEmpty PEmpty):=
 (some (.str "abcdefghijklmnopqrstuvwxyz")).bind fun d1=>cH (b2 D.join (some (.str "")) (lcO (b1 D.rF (aj (b2 D.dA (some (.int 1)) (b2 D.bu (bp aU (aj (some a__law_cell_here) (aj (some (.int 39)) (aI)))) (some (.int 8)))) (aI))) (fun c2:D=>some true) (fun c2:D=>b2 D.atS (some d1) (b2 D.bu (bp aU (aj (some a__law_cell_here) (aj (b2 D.dA (some (.int 40)) (some c2)) (aI)))) (some (.int 26)))))) []
def fR:List D->Option FR:=fn1 fun a__law_cell_here=>FO (jU a__law_cell_here)
abbrev o7:List Str:=["_law_cell_here","_law_letters","_law_k"]
abbrev jV:List Str:=["_law_cell_here"]
theorem kZ:FnScope o7 jV (defScope c6):=⟨rfl,rfl,rfl,by decide+kernel,rfl,by decide+kernel,by decide+kernel⟩
abbrev jW:List PM:=[.bo]
abbrev jX:VM:=.rg .fz
theorem zv (Z:Zs K mg) (C__law_mix:Cal P w K mg base 1 "_law_mix" eB eC eE aU) {f:Addr} {cdv:Value} {A:Around} {outer:List Env} {s:Shared} {H:Hp} {E:XK} (hr:Room 1 (A.deeper (envOfC "_law_name" (defScope c6) s.heap.objs.size f cdv))) (v0:V) (a__law_cell_here:D):
  Blk (cxT P w K mg base o7 "_law_name" (defScope c6) f cdv A outer s H E) (fnX jX (bZ jW [v0]) E) [.bo,.fz,.fz] [some a__law_cell_here,none,none] (defBody c6) (jU a__law_cell_here):=by
 unfold jU
 exact (aS 1 [.bo,.fz,.fz] (fun(d1:D)=>[some a__law_cell_here,some d1,none]) (aG (rg:=.fz)) (fun(d1:D)=>(aQ (qP (rg:=.fz) (aG (rg:=.fz)) (c8 (C0 rfl kZ.nd (yC rfl Z.range (aa (aJ op_add (fA (rg:=.fz)) (ak (rg:=.fz)) (aJ op_mod (bI (rg:=.fz)) (aM C__law_mix hr (aa (af (md:=.bo) 0 rfl rfl rfl (.inr (.inl rfl))) (aa (ak (rg:=.fz)) au))) (ak (rg:=.fz)))) au)) fy eh (show BlkOk o7 (defScope c6) _ [("_law_k",2)] from ⟨rfl,by decide+kernel,by decide+kernel,by decide+kernel,by decide+kernel⟩) (Fy rfl) A0 (fun _ _ _ _ _=>(pg_name (i:=2) kZ.nd rfl (.inl rfl))) (iO _ 2 eh (Nat.le_of_ble_eq_true rfl)) (fun _ _ _ _ _ (c2:D)=>yD) (fun _ _ _ _ _ (c2:D)=>(aT ix_str (yA (rg:=.fz)) (af (md:=.fz) 1 rfl rfl rfl (.inr (.inl rfl))) (aJ op_mod (bI (rg:=.fz)) (aM C__law_mix hr (aa (af (md:=.bo) 0 rfl rfl rfl (.inr (.inl rfl))) (aa (aJ op_add (fA (rg:=.fz)) (ak (rg:=.fz)) (af (md:=.fz) 2 rfl rfl rfl (.inl rfl))) au))) (ak (rg:=.fz))) (fun _ _=>rfl)))))) rfl rfl rfl)) (.inr rfl) kZ.nd)
theorem xW (Z:Zs K mg) (C__law_mix:Cal P w K mg base 1 "_law_mix" eB eC eE aU) {f:Addr} {fd:FuncData} (F:Fun K "_law_name" "_law_name" c6 f fd):FnOk P w K mg base CX0 (2) f fd jV (FSp K jW jX fR):=
 dq (n:=2) F kZ rfl rfl fun cdv A outer s H vs E hr hv ds fr hd ef=>match vs,hv,ds,hd,ef with| [v0],_,[a__law_cell_here],_,ef=>⟨_,zv Z C__law_mix hr v0 a__law_cell_here,ef⟩
def gE (a__law_cell_here:D):Option (Out PEmpty PEmpty):=
 (b2 D.dA (some (.int 1)) (b2 D.atL (oF (aj (b2 D.bu (bp aU (aj (some a__law_cell_here) (aj (some (.int 1)) (aI)))) (some (.int 200))) (aj (b2 D.bu (bp aU (aj (some a__law_cell_here) (aj (some (.int 1)) (aI)))) (b2 D.kQ (some (.int 10)) (some (.int 6)))) (aI)))) (b2 D.bu (bp aU (aj (some a__law_cell_here) (aj (some (.int 2)) (aI)))) (some (.int 2))))).bind fun d1=>(b2 D.atL (oF (aj (b2 D.bu (bp aU (aj (some a__law_cell_here) (aj (some (.int 3)) (aI)))) (some (.int 4))) (aj (b2 D.bu (bp aU (aj (some a__law_cell_here) (aj (some (.int 3)) (aI)))) (b2 D.dA (b2 D.kQ (some (.int 10)) (some (.int 6))) (some (.int 1)))) (aI)))) (b2 D.bu (bp aU (aj (some a__law_cell_here) (aj (some (.int 4)) (aI)))) (some (.int 2)))).bind fun d2=>cH (tupO (aj (bp fR (aj (some a__law_cell_here) (aI))) (aj (some d1) (aj (some d2) (aj (bp eF (aj (some a__law_cell_here) (aj (some (.int 5)) (aI)))) (aj (bp eF (aj (some a__law_cell_here) (aj (some (.int 6)) (aI)))) (aI))))))) []
def dH:List D->Option FR:=fn1 fun a__law_cell_here=>FO (gE a__law_cell_here)
abbrev pR:List Str:=["_law_cell_here","_law_need","_law_rank"]
abbrev gF:List Str:=["_law_cell_here"]
theorem lI:FnScope pR gF (defScope cP):=⟨rfl,rfl,rfl,by decide+kernel,rfl,by decide+kernel,by decide+kernel⟩
abbrev gG:List PM:=[.bo]
abbrev gH:VM:=.rg .fz
theorem vq (Z:Zs K mg) (C__law_mix:Cal P w K mg base 1 "_law_mix" eB eC eE aU) (C__law_name:Cal P w K mg base 2 "_law_name" jV jW jX fR) (C__law_side:Cal P w K mg base 2 "_law_side" jR jS jT eF) {f:Addr} {cdv:Value} {A:Around} {outer:List Env} {s:Shared} {H:Hp} {E:XK} (hr:Room 2 (A.deeper (envOfC "_law_couple" (defScope cP) s.heap.objs.size f cdv))) (v0:V) (a__law_cell_here:D):
  Blk (cxT P w K mg base pR "_law_couple" (defScope cP) f cdv A outer s H E) (fnX gH (bZ gG [v0]) E) [.bo,.fz,.fz] [some a__law_cell_here,none,none] (defBody cP) (gE a__law_cell_here):=by
 unfold gE
 exact (aS 1 [.bo,.fz,.fz] (fun(d1:D)=>[some a__law_cell_here,some d1,none]) (aJ op_add (fA (rg:=.fz)) (ak (rg:=.fz)) (aT ix_list cj (c8 (fZ (aa (aJ op_mod (bI (rg:=.fz)) (aM C__law_mix hr (aa (af (md:=.bo) 0 rfl rfl rfl (.inl rfl)) (aa (ak (rg:=.fz)) au))) (ak (rg:=.fz))) (aa (aJ op_mod (bI (rg:=.fz)) (aM C__law_mix hr (aa (af (md:=.bo) 0 rfl rfl rfl (.inl rfl)) (aa (ak (rg:=.fz)) au))) (aJ op_pow (oR (rg:=.fz)) (ak (rg:=.fz)) (ak (rg:=.fz)))) au)) mD)) (aJ op_mod (bI (rg:=.fz)) (aM C__law_mix hr (aa (af (md:=.bo) 0 rfl rfl rfl (.inl rfl)) (aa (ak (rg:=.fz)) au))) (ak (rg:=.fz))) (fun _ _=>rfl))) (fun(d1:D)=>(aS 2 [.bo,.fz,.fz] (fun(d2:D)=>[some a__law_cell_here,some d1,some d2]) (aT ix_list cj (c8 (fZ (aa (aJ op_mod (bI (rg:=.fz)) (aM C__law_mix hr (aa (af (md:=.bo) 0 rfl rfl rfl (.inl rfl)) (aa (ak (rg:=.fz)) au))) (ak (rg:=.fz))) (aa (aJ op_mod (bI (rg:=.fz)) (aM C__law_mix hr (aa (af (md:=.bo) 0 rfl rfl rfl (.inl rfl)) (aa (ak (rg:=.fz)) au))) (aJ op_add (fA (rg:=.fz)) (aJ op_pow (oR (rg:=.fz)) (ak (rg:=.fz)) (ak (rg:=.fz))) (ak (rg:=.fz)))) au)) mD)) (aJ op_mod (bI (rg:=.fz)) (aM C__law_mix hr (aa (af (md:=.bo) 0 rfl rfl rfl (.inl rfl)) (aa (ak (rg:=.fz)) au))) (ak (rg:=.fz))) (fun _ _=>rfl)) (fun(d2:D)=>(aQ (lU (aa (aM C__law_name hr (aa (af (md:=.bo) 0 rfl rfl rfl (.inl rfl)) au)) (aa (af (md:=.fz) 1 rfl rfl rfl (.inl rfl)) (aa (af (md:=.fz) 2 rfl rfl rfl (.inl rfl)) (aa (aM C__law_side hr (aa (af (md:=.bo) 0 rfl rfl rfl (.inl rfl)) (aa (ak (rg:=.fz)) au))) (aa (aM C__law_side hr (aa (af (md:=.bo) 0 rfl rfl rfl (.inl rfl)) (aa (ak (rg:=.fz)) au))) au)))))) rfl rfl rfl)) (.inl rfl) lI.nd)) (.inl rfl) lI.nd)
theorem uU (Z:Zs K mg) (C__law_mix:Cal P w K mg base 1 "_law_mix" eB eC eE aU) (C__law_name:Cal P w K mg base 2 "_law_name" jV jW jX fR) (C__law_side:Cal P w K mg base 2 "_law_side" jR jS jT eF) {f:Addr} {fd:FuncData} (F:Fun K "_law_couple" "_law_couple" cP f fd):FnOk P w K mg base CX0 (3) f fd gF (FSp K gG gH dH):=
 dq (n:=2) F lI rfl rfl fun cdv A outer s H vs E hr hv ds fr hd ef=>match vs,hv,ds,hd,ef with| [v0],_,[a__law_cell_here],_,ef=>⟨_,vq Z C__law_mix C__law_name C__law_side hr v0 a__law_cell_here,ef⟩
def df (a__law_side_here:D):Option (Out PEmpty PEmpty):=
 (oF (aj (b1 D.et (b2 D.atT (some a__law_side_here) (some (.int 0)))) (aj (b1 (un1 D.rL) (aj (b2 D.atT (some a__law_side_here) (some (.int 1))) (aI))) (aj (b1 D.et (b2 D.atT (some a__law_side_here) (some (.int 2)))) (aI))))).bind fun d1=>ifO (b2 D.eqA (b2 D.atT (some a__law_side_here) (some (.int 2))) (some (.str ""))) ((sf d1 (some (.str "-")) (some []) (some (.int 2))).bind fun d3=>some (.nx d3)) (some (.nx d1)) fun(y2:D)=>cH (b2 D.join (some (.str " ")) (some y2)) []
def bF:List D->Option FR:=fn1 fun a__law_side_here=>FO (df a__law_side_here)
abbrev mf:List Str:=["_law_side_here","_law_words"]
abbrev dg:List Str:=["_law_side_here"]
theorem lJ:FnScope mf dg (defScope bA):=⟨rfl,rfl,rfl,by decide+kernel,rfl,by decide+kernel,by decide+kernel⟩
abbrev dh:List PM:=[.bo]
abbrev di:VM:=.rg .fz
theorem ru (Z:Zs K mg) {f:Addr} {cdv:Value} {A:Around} {outer:List Env} {s:Shared} {H:Hp} {E:XK} (hr:Room 0 (A.deeper (envOfC "_law_shown_side" (defScope bA) s.heap.objs.size f cdv))) (v0:V) (a__law_side_here:D):
  Blk (cxT P w K mg base mf "_law_shown_side" (defScope bA) f cdv A outer s H E) (fnX di (bZ dh [v0]) E) [.bo,.fz] [some a__law_side_here,none] (defBody bA) (df a__law_side_here):=by
 unfold df
 exact (aS 1 [.bo,.ow (.ls .fz)] (fun(d1:D)=>[some a__law_side_here,some d1]) (fZ (aa (bJ (aT ix_tup lB (af (md:=.bo) 0 rfl rfl rfl (.inl rfl)) (ak (rg:=.fz)) (fun _ _=>rfl))) (aa (je call_str_int (z0 (rg:=.fz)) (by rfl) Z.str tj (aa (aT ix_tup lB (af (md:=.bo) 0 rfl rfl rfl (.inl rfl)) (ak (rg:=.fz)) (fun _ _=>rfl)) au)) (aa (bJ (aT ix_tup lB (af (md:=.bo) 0 rfl rfl rfl (.inl rfl)) (ak (rg:=.fz)) (fun _ _=>rfl))) au))) zZ) (fun(d1:D)=>(bY [.bo,.ow (.ls .fz)] (fun(y2:D)=>[some a__law_side_here,some y2]) (aR op_eq (gu (rg:=.fz)) (aT ix_tup lB (af (md:=.bo) 0 rfl rfl rfl (.inl rfl)) (ak (rg:=.fz)) (fun _ _=>rfl)) (aG (rg:=.fz)) rfl) (te 1 (fun(d3:D)=>[some a__law_side_here,some d3]) (hu_of hr) (aG (rg:=.fz)) rfl (p9 1 rfl rfl rfl rfl (.inl rfl)) (ue rfl) (ak (rg:=.fz)) (fun(d3:D)=>(aP (.keep (.keep (.nil)))))) (aP (.keep (.keep (.nil)))) (fun(y2:D)=>(aQ (qP (rg:=.fz) (aG (rg:=.fz)) (af (md:=.ow (.ls .fz)) 1 rfl rfl rfl (.inl rfl))) rfl rfl rfl)))) (.inl rfl) lJ.nd)
theorem qt (Z:Zs K mg) {f:Addr} {fd:FuncData} (F:Fun K "_law_shown_side" "_law_shown_side" bA f fd):FnOk P w K mg base CX0 (1) f fd dg (FSp K dh di bF):=
 dq (n:=1) F lJ rfl rfl fun cdv A outer s H vs E hr hv ds fr hd ef=>match vs,hv,ds,hd,ef with| [v0],_,[a__law_side_here],_,ef=>⟨_,ru Z hr v0 a__law_side_here,ef⟩
def i5 (a__law_couple_here:D):Option (Out PEmpty PEmpty):=
 (b2 D.join (some (.str " ")) (oF (aj (b1 D.et (b2 D.atT (some a__law_couple_here) (some (.int 0)))) (aj (b1 (un1 D.rL) (aj (b2 D.atT (some a__law_couple_here) (some (.int 1))) (aI))) (aj (b1 (un1 D.rL) (aj (b2 D.atT (some a__law_couple_here) (some (.int 2))) (aI))) (aI)))))).bind fun d1=>cH (b2 D.fK (b2 D.fK (b2 D.fK (b2 D.fK (some d1) (some (.str ": "))) (bp bF (aj (b2 D.atT (some a__law_couple_here) (some (.int 3))) (aI)))) (some (.str " > "))) (bp bF (aj (b2 D.atT (some a__law_couple_here) (some (.int 4))) (aI)))) []
def br:List D->Option FR:=fn1 fun a__law_couple_here=>FO (i5 a__law_couple_here)
abbrev rz:List Str:=["_law_couple_here","_law_head"]
abbrev cJ:List Str:=["_law_couple_here"]
theorem pU:FnScope rz cJ (defScope c7):=⟨rfl,rfl,rfl,by decide+kernel,rfl,by decide+kernel,by decide+kernel⟩
abbrev cL:List PM:=[.bo]
abbrev cM:VM:=.rg .fz
theorem xX (Z:Zs K mg) (C__law_shown_side:Cal P w K mg base 1 "_law_shown_side" dg dh di bF) {f:Addr} {cdv:Value} {A:Around} {outer:List Env} {s:Shared} {H:Hp} {E:XK} (hr:Room 1 (A.deeper (envOfC "_law_shown" (defScope c7) s.heap.objs.size f cdv))) (v0:V) (a__law_couple_here:D):
  Blk (cxT P w K mg base rz "_law_shown" (defScope c7) f cdv A outer s H E) (fnX cM (bZ cL [v0]) E) [.bo,.fz] [some a__law_couple_here,none] (defBody c7) (i5 a__law_couple_here):=by
 unfold i5
 exact (aS 1 [.bo,.fz] (fun(d1:D)=>[some a__law_couple_here,some d1]) (qP (rg:=.fz) (aG (rg:=.fz)) (c8 (fZ (aa (bJ (aT ix_tup lB (af (md:=.bo) 0 rfl rfl rfl (.inl rfl)) (ak (rg:=.fz)) (fun _ _=>rfl))) (aa (je call_str_int (z0 (rg:=.fz)) (by rfl) Z.str tj (aa (aT ix_tup lB (af (md:=.bo) 0 rfl rfl rfl (.inl rfl)) (ak (rg:=.fz)) (fun _ _=>rfl)) au)) (aa (je call_str_int (z0 (rg:=.fz)) (by rfl) Z.str tj (aa (aT ix_tup lB (af (md:=.bo) 0 rfl rfl rfl (.inl rfl)) (ak (rg:=.fz)) (fun _ _=>rfl)) au)) au))) zZ))) (fun(d1:D)=>(aQ (aJ op_add_str (lA (rg:=.fz)) (aJ op_add_str (lA (rg:=.fz)) (aJ op_add_str (lA (rg:=.fz)) (aJ op_add_str (lA (rg:=.fz)) (af (md:=.fz) 1 rfl rfl rfl (.inl rfl)) (aG (rg:=.fz))) (aM C__law_shown_side hr (aa (aT ix_tup lB (af (md:=.bo) 0 rfl rfl rfl (.inl rfl)) (ak (rg:=.fz)) (fun _ _=>rfl)) au))) (aG (rg:=.fz))) (aM C__law_shown_side hr (aa (aT ix_tup lB (af (md:=.bo) 0 rfl rfl rfl (.inl rfl)) (ak (rg:=.fz)) (fun _ _=>rfl)) au))) rfl rfl rfl)) (.inl rfl) pU.nd)
theorem vt (Z:Zs K mg) (C__law_shown_side:Cal P w K mg base 1 "_law_shown_side" dg dh di bF) {f:Addr} {fd:FuncData} (F:Fun K "_law_shown" "_law_shown" c7 f fd):FnOk P w K mg base CX0 (2) f fd cJ (FSp K cL cM br):=
 dq (n:=1) F pU rfl rfl fun cdv A outer s H vs E hr hv ds fr hd ef=>match vs,hv,ds,hd,ef with| [v0],_,[a__law_couple_here],_,ef=>⟨_,xX Z C__law_shown_side hr v0 a__law_couple_here,ef⟩
def jY (a__law_cell_here:D):Option (Out PEmpty PEmpty):=
 (some (.str " !\"#$&'()*+,-./0123456789:;<=>?@ABCDEFGHIJKLMNOPQRSTUVWXYZ[\\]^_`")).bind fun d1=>(b2 D.fK (some d1) (some (.str "abcdefghijklmnopqrstuvwxyz{|}~"))).bind fun d2=>ifO (b2 D.eqA (b2 D.bu (some a__law_cell_here) (some (.int 2))) (some (.int 0))) ((some (.str "0123456789: >-abAB")).bind fun d4=>some (.nx d4)) (some (.nx d2)) fun(y3:D)=>cH (b2 D.atS (some y3) (b2 D.bu (b2 D.gq (some a__law_cell_here) (some (.int 2))) (b1 (un1 D.lQ) (aj (some y3) (aI))))) []
def eG:List D->Option FR:=fn1 fun a__law_cell_here=>FO (jY a__law_cell_here)
abbrev sJ:List Str:=["_law_cell_here","_law_signs"]
abbrev jZ:List Str:=["_law_cell_here"]
theorem k6:FnScope sJ jZ (defScope dW):=⟨rfl,rfl,rfl,by decide+kernel,rfl,by decide+kernel,by decide+kernel⟩
abbrev j5:List PM:=[.bo]
abbrev j6:VM:=.rg .fz
theorem zw (Z:Zs K mg) {f:Addr} {cdv:Value} {A:Around} {outer:List Env} {s:Shared} {H:Hp} {E:XK} (hr:Room 0 (A.deeper (envOfC "_law_sign" (defScope dW) s.heap.objs.size f cdv))) (v0:V) (a__law_cell_here:D):
  Blk (cxT P w K mg base sJ "_law_sign" (defScope dW) f cdv A outer s H E) (fnX j6 (bZ j5 [v0]) E) [.bo,.fz] [some a__law_cell_here,none] (defBody dW) (jY a__law_cell_here):=by
 unfold jY
 exact (aS 1 [.bo,.fz] (fun(d1:D)=>[some a__law_cell_here,some d1]) (aG (rg:=.fz)) (fun(d1:D)=>(aS 1 [.bo,.fz] (fun(d2:D)=>[some a__law_cell_here,some d2]) (aJ op_add_str (lA (rg:=.fz)) (af (md:=.fz) 1 rfl rfl rfl (.inl rfl)) (aG (rg:=.fz))) (fun(d2:D)=>(bY [.bo,.fz] (fun(y3:D)=>[some a__law_cell_here,some y3]) (aR op_eq (gu (rg:=.fz)) (aJ op_mod (bI (rg:=.fz)) (af (md:=.bo) 0 rfl rfl rfl (.inl rfl)) (ak (rg:=.fz))) (ak (rg:=.fz)) rfl) (aS 1 [.bo,.fz] (fun(d4:D)=>[some a__law_cell_here,some d4]) (aG (rg:=.fz)) (fun(d4:D)=>(aP (.keep (.keep (.nil))))) (.inl rfl) k6.nd) (aP (.keep (.keep (.nil)))) (fun(y3:D)=>(aQ (aT ix_str (yA (rg:=.fz)) (af (md:=.fz) 1 rfl rfl rfl (.inl rfl)) (aJ op_mod (bI (rg:=.fz)) (aJ op_fdiv (kI (rg:=.fz)) (af (md:=.bo) 0 rfl rfl rfl (.inl rfl)) (ak (rg:=.fz))) (cg call_len (oV (rg:=.fz)) (by rfl) Z.len fB (aa (af (md:=.fz) 1 rfl rfl rfl (.inl rfl)) au))) (fun _ _=>rfl)) rfl rfl rfl)))) (.inl rfl) k6.nd)) (.inl rfl) k6.nd)
theorem xY (Z:Zs K mg) {f:Addr} {fd:FuncData} (F:Fun K "_law_sign" "_law_sign" dW f fd):FnOk P w K mg base CX0 (1) f fd jZ (FSp K j5 j6 eG):=
 dq (n:=1) F k6 rfl rfl fun cdv A outer s H vs E hr hv ds fr hd ef=>match vs,hv,ds,hd,ef with| [v0],_,[a__law_cell_here],_,ef=>⟨_,zw Z hr v0 a__law_cell_here,ef⟩
def eU (a__law_cell_here:D):Option (Out PEmpty PEmpty):=
 (oF (aj (some (.str "0")) (aj (some (.str "1000000")) (aj (some (.str "1000001")) (aj (some (.str "00")) (aj (some (.str "01")) (aj (some (.str "99")) (aj (some (.str "100")) (aj (some (.str "1000000000000")) (aj (some (.str "-")) (aj (some (.str "")) (aj (some (.str "O")) (aj (some (.str "AB")) (aj (some (.str "BA")) (aj (some (.str "ABO")) (aj (some (.str "o")) (aI))))))))))))))))).bind fun d1=>(b2 D.qL (some d1) (oF (aj (some (.str "ba")) (aj (some (.str "aa")) (aj (some (.str "az")) (aj (some (.str "za")) (aj (some (.str "abcdefghijklmnopqrstuvwxyz")) (aj (some (.str "a-")) (aj (some (.str "--")) (aj (some (.str ">")) (aj (some (.str ":")) (aj (some (.str "0:")) (aj (some (.str "fox")) (aj (some (.str "abcdefghi")) (aI))))))))))))))).bind fun d2=>cH (b2 D.atL (some d2) (b2 D.bu (some a__law_cell_here) (b1 (un1 D.lC) (aj (some d2) (aI))))) []
def cX:List D->Option FR:=fn1 fun a__law_cell_here=>FO (eU a__law_cell_here)
abbrev oD:List Str:=["_law_cell_here","_law_some"]
abbrev eV:List Str:=["_law_cell_here"]
theorem jm:FnScope oD eV (defScope bT):=⟨rfl,rfl,rfl,by decide+kernel,rfl,by decide+kernel,by decide+kernel⟩
abbrev eW:List PM:=[.bo]
abbrev eX:VM:=.rg .fz
theorem sX (Z:Zs K mg) {f:Addr} {cdv:Value} {A:Around} {outer:List Env} {s:Shared} {H:Hp} {E:XK} (hr:Room 0 (A.deeper (envOfC "_law_odd_word" (defScope bT) s.heap.objs.size f cdv))) (v0:V) (a__law_cell_here:D):
  Blk (cxT P w K mg base oD "_law_odd_word" (defScope bT) f cdv A outer s H E) (fnX eX (bZ eW [v0]) E) [.bo,.fz] [some a__law_cell_here,none] (defBody bT) (eU a__law_cell_here):=by
 unfold eU
 exact (aS 1 [.bo,.fz] (fun(d1:D)=>[some a__law_cell_here,some d1]) (c8 (fZ (aa (aG (rg:=.fz)) (aa (aG (rg:=.fz)) (aa (aG (rg:=.fz)) (aa (aG (rg:=.fz)) (aa (aG (rg:=.fz)) (aa (aG (rg:=.fz)) (aa (aG (rg:=.fz)) (aa (aG (rg:=.fz)) (aa (aG (rg:=.fz)) (aa (aG (rg:=.fz)) (aa (aG (rg:=.fz)) (aa (aG (rg:=.fz)) (aa (aG (rg:=.fz)) (aa (aG (rg:=.fz)) (aa (aG (rg:=.fz)) au))))))))))))))) F9)) (fun(d1:D)=>(aS 1 [.bo,.fz] (fun(d2:D)=>[some a__law_cell_here,some d2]) (c8 (aJ op_cat wF (af (md:=.fz) 1 rfl rfl rfl (.inl rfl)) (c8 (fZ (aa (aG (rg:=.fz)) (aa (aG (rg:=.fz)) (aa (aG (rg:=.fz)) (aa (aG (rg:=.fz)) (aa (aG (rg:=.fz)) (aa (aG (rg:=.fz)) (aa (aG (rg:=.fz)) (aa (aG (rg:=.fz)) (aa (aG (rg:=.fz)) (aa (aG (rg:=.fz)) (aa (aG (rg:=.fz)) (aa (aG (rg:=.fz)) au)))))))))))) F8)))) (fun(d2:D)=>(aQ (aT ix_list cj (af (md:=.fz) 1 rfl rfl rfl (.inl rfl)) (aJ op_mod (bI (rg:=.fz)) (af (md:=.bo) 0 rfl rfl rfl (.inl rfl)) (cg call_len_seq (oU (rg:=.fz)) (by rfl) Z.len fB (aa (af (md:=.fz) 1 rfl rfl rfl (.inl rfl)) au))) (fun _ _=>rfl)) rfl rfl rfl)) (.inl rfl) jm.nd)) (.inl rfl) jm.nd)
theorem rW (Z:Zs K mg) {f:Addr} {fd:FuncData} (F:Fun K "_law_odd_word" "_law_odd_word" bT f fd):FnOk P w K mg base CX0 (1) f fd eV (FSp K eW eX cX):=
 dq (n:=1) F jm rfl rfl fun cdv A outer s H vs E hr hv ds fr hd ef=>match vs,hv,ds,hd,ef with| [v0],_,[a__law_cell_here],_,ef=>⟨_,sX Z hr v0 a__law_cell_here,ef⟩
def gJ (a__law_text:D) (a__law_cell_here:D) (a__law_other:D):Option (Out PEmpty PEmpty):=
 (b2 D.bu (some a__law_cell_here) (some (.int 9))).bind fun d1=>(b2 D.bu (b2 D.gq (some a__law_cell_here) (some (.int 9))) (b2 D.dA (b1 (un1 D.lQ) (aj (some a__law_text) (aI))) (some (.int 1)))).bind fun d2=>(b2 D.split (some a__law_text) (some (.str " "))).bind fun d3=>(b2 D.bu (b2 D.gq (some a__law_cell_here) (some (.int 9))) (b1 (un1 D.lC) (aj (some d3) (aI)))).bind fun d4=>(b2 D.bu (some a__law_other) (b1 (un1 D.lC) (aj (some d3) (aI)))).bind fun d5=>ifO (b2 D.eqA (some d1) (some (.int 0))) (cH (b2 D.fK (b2 D.fK (oG D.cutS (some a__law_text) (some none) (b1 D.toI (some d2))) (bp eG (aj (some a__law_other) (aI)))) (oG D.cutS (some a__law_text) (b1 D.toI (some d2)) (some none))) []) (some (.nx ())) fun(y6:Unit)=>ifO (b2 D.eqA (some d1) (some (.int 1))) (cH (b2 D.fK (oG D.cutS (some a__law_text) (some none) (b1 D.toI (some d2))) (oG D.cutS (some a__law_text) (b1 D.toI (b2 D.dA (some d2) (some (.int 1)))) (some none))) []) (some (.nx ())) fun(y7:Unit)=>ifO (b2 D.eqA (some d1) (some (.int 2))) (cH (b2 D.fK (b2 D.fK (oG D.cutS (some a__law_text) (some none) (b1 D.toI (some d2))) (bp eG (aj (some a__law_other) (aI)))) (oG D.cutS (some a__law_text) (b1 D.toI (b2 D.dA (some d2) (some (.int 1)))) (some none))) []) (some (.nx ())) fun(y8:Unit)=>ifO (b2 D.eqA (some d1) (some (.int 3))) ((b1 D.et (b2 D.atL (some d3) (some d4))).bind fun d10=>(sf d3 (b1 D.et (b2 D.atL (some d3) (some d5))) (some []) (some d4)).bind fun d11=>(sf d11 (some d10) (some []) (some d5)).bind fun d12=>some (.nx d12)) (some (.nx d3)) fun(y9:D)=>ifO (b2 D.eqA (some d1) (some (.int 4))) ((b2 D.qL (oG D.vR (some y9) (some none) (b1 D.toI (some d4))) (oG D.vR (some y9) (b1 D.toI (b2 D.dA (some d4) (some (.int 1)))) (some none))).bind fun d14=>some (.nx d14)) (some (.nx y9)) fun(y13:D)=>ifO (b2 D.eqA (some d1) (some (.int 5))) ((b2 D.qL (b2 D.qL (oG D.vR (some y13) (some none) (b1 D.toI (some d4))) (oF (aj (b1 D.et (b2 D.atL (some y13) (some d5))) (aI)))) (oG D.vR (some y13) (b1 D.toI (some d4)) (some none))).bind fun d16=>some (.nx d16)) (some (.nx y13)) fun(y15:D)=>ifO (b2 D.eqA (some d1) (some (.int 6))) ((sf y15 (b2 D.fK (bp cX (aj (some a__law_other) (aI))) (b2 D.wN (some (.str ":")) (b1 (un1 D.z9) (aj (Dc (b2 (blD D.eqA) (some d4) (some (.int 2))) (b2 (blD D.eqA) (b2 D.bu (b2 D.gq (some a__law_other) (some (.int 40))) (some (.int 2))) (some (.int 0)))) (aI))))) (some []) (some d4)).bind fun d18=>some (.nx d18)) (some (.nx y15)) fun(y17:D)=>ifO (b2 D.eqA (some d1) (some (.int 7))) (cH (b2 D.atL (oF (aj (oG D.cutS (some a__law_text) (some none) (b1 D.toI (some d2))) (aj (oG D.cutS (some a__law_text) (b1 D.toI (some d2)) (some none)) (aI)))) (b2 D.bu (some a__law_other) (some (.int 2)))) []) (some (.nx ())) fun(y19:Unit)=>cH (b2 D.join (some (.str " ")) (some y17)) []
def dI:List D->Option FR:=fn3 fun a__law_text a__law_cell_here a__law_other=>FO (gJ a__law_text a__law_cell_here a__law_other)
abbrev pV:List Str:=["_law_text","_law_cell_here","_law_other","_law_way","_law_at","_law_words","_law_place","_law_to","_law_kept"]
abbrev gN:List Str:=["_law_text","_law_cell_here","_law_other"]
theorem bM:FnScope pV gN (defScope cQ):=⟨rfl,rfl,rfl,by decide+kernel,rfl,by decide+kernel,by decide+kernel⟩
abbrev gO:List PM:=[.bo,.bo,.bo]
abbrev gQ:VM:=.rg .fz
theorem vu (Z:Zs K mg) (C__law_sign:Cal P w K mg base 1 "_law_sign" jZ j5 j6 eG) (C__law_odd_word:Cal P w K mg base 1 "_law_odd_word" eV eW eX cX) {f:Addr} {cdv:Value} {A:Around} {outer:List Env} {s:Shared} {H:Hp} {E:XK} (hr:Room 1 (A.deeper (envOfC "_law_spoilt" (defScope cQ) s.heap.objs.size f cdv))) (v0 v1 v2:V) (a__law_text a__law_cell_here a__law_other:D):
  Blk (cxT P w K mg base pV "_law_spoilt" (defScope cQ) f cdv A outer s H E) (fnX gQ (bZ gO [v0,v1,v2]) E) [.bo,.bo,.bo,.fz,.fz,.fz,.fz,.fz,.fz] [some a__law_text,some a__law_cell_here,some a__law_other,none,none,none,none,none,none] (defBody cQ) (gJ a__law_text a__law_cell_here a__law_other):=by
 unfold gJ
 exact (aS 3 [.bo,.bo,.bo,.fz,.fz,.fz,.fz,.fz,.fz] (fun(d1:D)=>[some a__law_text,some a__law_cell_here,some a__law_other,some d1,none,none,none,none,none]) (aJ op_mod (bI (rg:=.fz)) (af (md:=.bo) 1 rfl rfl rfl (.inl rfl)) (ak (rg:=.fz))) (fun(d1:D)=>(aS 4 [.bo,.bo,.bo,.fz,.fz,.fz,.fz,.fz,.fz] (fun(d2:D)=>[some a__law_text,some a__law_cell_here,some a__law_other,some d1,some d2,none,none,none,none]) (aJ op_mod (bI (rg:=.fz)) (aJ op_fdiv (kI (rg:=.fz)) (af (md:=.bo) 1 rfl rfl rfl (.inl rfl)) (ak (rg:=.fz))) (aJ op_add (fA (rg:=.fz)) (cg call_len (oV (rg:=.fz)) (by rfl) Z.len fB (aa (af (md:=.bo) 0 rfl rfl rfl (.inl rfl)) au)) (ak (rg:=.fz)))) (fun(d2:D)=>(aS 5 [.bo,.bo,.bo,.fz,.fz,.ow (.ls .fz),.fz,.fz,.fz] (fun(d3:D)=>[some a__law_text,some a__law_cell_here,some a__law_other,some d1,some d2,some d3,none,none,none]) (qQ (af (md:=.bo) 0 rfl rfl rfl (.inl rfl)) (aG (rg:=.fz))) (fun(d3:D)=>(aS 6 [.bo,.bo,.bo,.fz,.fz,.ow (.ls .fz),.fz,.fz,.fz] (fun(d4:D)=>[some a__law_text,some a__law_cell_here,some a__law_other,some d1,some d2,some d3,some d4,none,none]) (aJ op_mod (bI (rg:=.fz)) (aJ op_fdiv (kI (rg:=.fz)) (af (md:=.bo) 1 rfl rfl rfl (.inl rfl)) (ak (rg:=.fz))) (cg call_len_seq (oU (rg:=.fz)) (by rfl) Z.len fB (aa (af (md:=.ow (.ls .fz)) 5 rfl rfl rfl (.inl rfl)) au))) (fun(d4:D)=>(aS 7 [.bo,.bo,.bo,.fz,.fz,.ow (.ls .fz),.fz,.fz,.fz] (fun(d5:D)=>[some a__law_text,some a__law_cell_here,some a__law_other,some d1,some d2,some d3,some d4,some d5,none]) (aJ op_mod (bI (rg:=.fz)) (af (md:=.bo) 2 rfl rfl rfl (.inl rfl)) (cg call_len_seq (oU (rg:=.fz)) (by rfl) Z.len fB (aa (af (md:=.ow (.ls .fz)) 5 rfl rfl rfl (.inl rfl)) au))) (fun(d5:D)=>(bY [.bo,.bo,.bo,.fz,.fz,.ow (.ls .fz),.fz,.fz,.fz] (fun(y6:Unit)=>[some a__law_text,some a__law_cell_here,some a__law_other,some d1,some d2,some d3,some d4,some d5,none]) (aR op_eq (gu (rg:=.fz)) (af (md:=.fz) 3 rfl rfl rfl (.inl rfl)) (ak (rg:=.fz)) rfl) (aQ (aJ op_add_str (lA (rg:=.fz)) (aJ op_add_str (lA (rg:=.fz)) (kR (rg:=.fz) (af (md:=.bo) 0 rfl rfl rfl (.inl rfl)) da (cD (af (md:=.fz) 4 rfl rfl rfl (.inl rfl)))) (aM C__law_sign hr (aa (af (md:=.bo) 2 rfl rfl rfl (.inl rfl)) au))) (kR (rg:=.fz) (af (md:=.bo) 0 rfl rfl rfl (.inl rfl)) (cD (af (md:=.fz) 4 rfl rfl rfl (.inl rfl))) da)) rfl rfl rfl) (aP (.keep (.keep (.keep (.keep (.keep (.keep (.keep (.keep (.drop (.nil))))))))))) (fun(y6:Unit)=>(bY [.bo,.bo,.bo,.fz,.fz,.ow (.ls .fz),.fz,.fz,.fz] (fun(y7:Unit)=>[some a__law_text,some a__law_cell_here,some a__law_other,some d1,some d2,some d3,some d4,some d5,none]) (aR op_eq (gu (rg:=.fz)) (af (md:=.fz) 3 rfl rfl rfl (.inl rfl)) (ak (rg:=.fz)) rfl) (aQ (aJ op_add_str (lA (rg:=.fz)) (kR (rg:=.fz) (af (md:=.bo) 0 rfl rfl rfl (.inl rfl)) da (cD (af (md:=.fz) 4 rfl rfl rfl (.inl rfl)))) (kR (rg:=.fz) (af (md:=.bo) 0 rfl rfl rfl (.inl rfl)) (cD (aJ op_add (fA (rg:=.fz)) (af (md:=.fz) 4 rfl rfl rfl (.inl rfl)) (ak (rg:=.fz)))) da)) rfl rfl rfl) (aP (.keep (.keep (.keep (.keep (.keep (.keep (.keep (.keep (.drop (.nil))))))))))) (fun(y7:Unit)=>(bY [.bo,.bo,.bo,.fz,.fz,.ow (.ls .fz),.fz,.fz,.fz] (fun(y8:Unit)=>[some a__law_text,some a__law_cell_here,some a__law_other,some d1,some d2,some d3,some d4,some d5,none]) (aR op_eq (gu (rg:=.fz)) (af (md:=.fz) 3 rfl rfl rfl (.inl rfl)) (ak (rg:=.fz)) rfl) (aQ (aJ op_add_str (lA (rg:=.fz)) (aJ op_add_str (lA (rg:=.fz)) (kR (rg:=.fz) (af (md:=.bo) 0 rfl rfl rfl (.inl rfl)) da (cD (af (md:=.fz) 4 rfl rfl rfl (.inl rfl)))) (aM C__law_sign hr (aa (af (md:=.bo) 2 rfl rfl rfl (.inl rfl)) au))) (kR (rg:=.fz) (af (md:=.bo) 0 rfl rfl rfl (.inl rfl)) (cD (aJ op_add (fA (rg:=.fz)) (af (md:=.fz) 4 rfl rfl rfl (.inl rfl)) (ak (rg:=.fz)))) da)) rfl rfl rfl) (aP (.keep (.keep (.keep (.keep (.keep (.keep (.keep (.keep (.drop (.nil))))))))))) (fun(y8:Unit)=>(bY [.bo,.bo,.bo,.fz,.fz,.ow (.ls .fz),.fz,.fz,.fz] (fun(y9:D)=>[some a__law_text,some a__law_cell_here,some a__law_other,some d1,some d2,some y9,some d4,some d5,none]) (aR op_eq (gu (rg:=.fz)) (af (md:=.fz) 3 rfl rfl rfl (.inl rfl)) (ak (rg:=.fz)) rfl) (aS 8 [.bo,.bo,.bo,.fz,.fz,.ow (.ls .fz),.fz,.fz,.fz] (fun(d10:D)=>[some a__law_text,some a__law_cell_here,some a__law_other,some d1,some d2,some d3,some d4,some d5,some d10]) (bJ (aT ix_list cj (af (md:=.ow (.ls .fz)) 5 rfl rfl rfl (.inl rfl)) (af (md:=.fz) 6 rfl rfl rfl (.inl rfl)) (fun _ _=>rfl))) (fun(d10:D)=>(te 5 (fun(d11:D)=>[some a__law_text,some a__law_cell_here,some a__law_other,some d1,some d2,some d11,some d4,some d5,some d10]) (hu_of hr) (bJ (aT ix_list cj (af (md:=.ow (.ls .fz)) 5 rfl rfl rfl (.inl rfl)) (af (md:=.fz) 7 rfl rfl rfl (.inl rfl)) (fun _ _=>rfl))) rfl (p9 5 rfl rfl rfl rfl (.inl rfl)) (ue rfl) (af (md:=.fz) 6 rfl rfl rfl (.inl rfl)) (fun(d11:D)=>(te 5 (fun(d12:D)=>[some a__law_text,some a__law_cell_here,some a__law_other,some d1,some d2,some d12,some d4,some d5,some d10]) (hu_of hr) (af (md:=.fz) 8 rfl rfl rfl (.inl rfl)) rfl (p9 5 rfl rfl rfl rfl (.inl rfl)) (ue rfl) (af (md:=.fz) 7 rfl rfl rfl (.inl rfl)) (fun(d12:D)=>(aP (.keep (.keep (.keep (.keep (.keep (.keep (.keep (.keep (.drop (.nil)))))))))))))))) (.inl rfl) bM.nd) (aP (.keep (.keep (.keep (.keep (.keep (.keep (.keep (.keep (.drop (.nil))))))))))) (fun(y9:D)=>(bY [.bo,.bo,.bo,.fz,.fz,.ow (.ls .fz),.fz,.fz,.fz] (fun(y13:D)=>[some a__law_text,some a__law_cell_here,some a__law_other,some d1,some d2,some y13,some d4,some d5,none]) (aR op_eq (gu (rg:=.fz)) (af (md:=.fz) 3 rfl rfl rfl (.inl rfl)) (ak (rg:=.fz)) rfl) (aS 5 [.bo,.bo,.bo,.fz,.fz,.ow (.ls .fz),.fz,.fz,.fz] (fun(d14:D)=>[some a__law_text,some a__law_cell_here,some a__law_other,some d1,some d2,some d14,some d4,some d5,none]) (aJ op_cat wF (c8 (qO (af (md:=.ow (.ls .fz)) 5 rfl rfl rfl (.inl rfl)) da (cD (af (md:=.fz) 6 rfl rfl rfl (.inl rfl))))) (c8 (qO (af (md:=.ow (.ls .fz)) 5 rfl rfl rfl (.inl rfl)) (cD (aJ op_add (fA (rg:=.fz)) (af (md:=.fz) 6 rfl rfl rfl (.inl rfl)) (ak (rg:=.fz)))) da))) (fun(d14:D)=>(aP (.keep (.keep (.keep (.keep (.keep (.keep (.keep (.keep (.drop (.nil)))))))))))) (.inl rfl) bM.nd) (aP (.keep (.keep (.keep (.keep (.keep (.keep (.keep (.keep (.drop (.nil))))))))))) (fun(y13:D)=>(bY [.bo,.bo,.bo,.fz,.fz,.ow (.ls .fz),.fz,.fz,.fz] (fun(y15:D)=>[some a__law_text,some a__law_cell_here,some a__law_other,some d1,some d2,some y15,some d4,some d5,none]) (aR op_eq (gu (rg:=.fz)) (af (md:=.fz) 3 rfl rfl rfl (.inl rfl)) (ak (rg:=.fz)) rfl) (aS 5 [.bo,.bo,.bo,.fz,.fz,.ow (.ls .fz),.fz,.fz,.fz] (fun(d16:D)=>[some a__law_text,some a__law_cell_here,some a__law_other,some d1,some d2,some d16,some d4,some d5,none]) (aJ op_cat wF (c8 (aJ op_cat wF (c8 (qO (af (md:=.ow (.ls .fz)) 5 rfl rfl rfl (.inl rfl)) da (cD (af (md:=.fz) 6 rfl rfl rfl (.inl rfl))))) (c8 (fZ (aa (bJ (aT ix_list cj (af (md:=.ow (.ls .fz)) 5 rfl rfl rfl (.inl rfl)) (af (md:=.fz) 7 rfl rfl rfl (.inl rfl)) (fun _ _=>rfl))) au) Ir)))) (c8 (qO (af (md:=.ow (.ls .fz)) 5 rfl rfl rfl (.inl rfl)) (cD (af (md:=.fz) 6 rfl rfl rfl (.inl rfl))) da))) (fun(d16:D)=>(aP (.keep (.keep (.keep (.keep (.keep (.keep (.keep (.keep (.drop (.nil)))))))))))) (.inl rfl) bM.nd) (aP (.keep (.keep (.keep (.keep (.keep (.keep (.keep (.keep (.drop (.nil))))))))))) (fun(y15:D)=>(bY [.bo,.bo,.bo,.fz,.fz,.ow (.ls .fz),.fz,.fz,.fz] (fun(y17:D)=>[some a__law_text,some a__law_cell_here,some a__law_other,some d1,some d2,some y17,some d4,some d5,none]) (aR op_eq (gu (rg:=.fz)) (af (md:=.fz) 3 rfl rfl rfl (.inl rfl)) (ak (rg:=.fz)) rfl) (te 5 (fun(d18:D)=>[some a__law_text,some a__law_cell_here,some a__law_other,some d1,some d2,some d18,some d4,some d5,none]) (hu_of hr) (aJ op_add_str (lA (rg:=.fz)) (aM C__law_odd_word hr (aa (af (md:=.bo) 2 rfl rfl rfl (.inl rfl)) au)) (aJ FE (Iw (rg:=.fz)) (aG (rg:=.fz)) (je call_int1 (Iy (rg:=.fz)) (by rfl) Z.int ti (aa (zW (pZ op_eq (gu (rg:=.fz)) (af (md:=.fz) 6 rfl rfl rfl (.inl rfl)) (ak (rg:=.fz)) rfl) (zV (pZ op_eq (gu (rg:=.fz)) (aJ op_mod (bI (rg:=.fz)) (aJ op_fdiv (kI (rg:=.fz)) (af (md:=.bo) 2 rfl rfl rfl (.inl rfl)) (ak (rg:=.fz))) (ak (rg:=.fz))) (ak (rg:=.fz)) rfl))) au)))) rfl (p9 5 rfl rfl rfl rfl (.inl rfl)) (ue rfl) (af (md:=.fz) 6 rfl rfl rfl (.inl rfl)) (fun(d18:D)=>(aP (.keep (.keep (.keep (.keep (.keep (.keep (.keep (.keep (.drop (.nil))))))))))))) (aP (.keep (.keep (.keep (.keep (.keep (.keep (.keep (.keep (.drop (.nil))))))))))) (fun(y17:D)=>(bY [.bo,.bo,.bo,.fz,.fz,.ow (.ls .fz),.fz,.fz,.fz] (fun(y19:Unit)=>[some a__law_text,some a__law_cell_here,some a__law_other,some d1,some d2,some y17,some d4,some d5,none]) (aR op_eq (gu (rg:=.fz)) (af (md:=.fz) 3 rfl rfl rfl (.inl rfl)) (ak (rg:=.fz)) rfl) (aQ (aT ix_list cj (c8 (fZ (aa (kR (rg:=.fz) (af (md:=.bo) 0 rfl rfl rfl (.inl rfl)) da (cD (af (md:=.fz) 4 rfl rfl rfl (.inl rfl)))) (aa (kR (rg:=.fz) (af (md:=.bo) 0 rfl rfl rfl (.inl rfl)) (cD (af (md:=.fz) 4 rfl rfl rfl (.inl rfl))) da) au)) mD)) (aJ op_mod (bI (rg:=.fz)) (af (md:=.bo) 2 rfl rfl rfl (.inl rfl)) (ak (rg:=.fz))) (fun _ _=>rfl)) rfl rfl rfl) (aP (.keep (.keep (.keep (.keep (.keep (.keep (.keep (.keep (.drop (.nil))))))))))) (fun(y19:Unit)=>(aQ (qP (rg:=.fz) (aG (rg:=.fz)) (af (md:=.ow (.ls .fz)) 5 rfl rfl rfl (.inl rfl))) rfl rfl rfl)))))))))))))))))) (.inl rfl) bM.nd)) (.inl rfl) bM.nd)) (.inl rfl) bM.nd)) (.inl rfl) bM.nd)) (.inl rfl) bM.nd)
theorem uV (Z:Zs K mg) (C__law_sign:Cal P w K mg base 1 "_law_sign" jZ j5 j6 eG) (C__law_odd_word:Cal P w K mg base 1 "_law_odd_word" eV eW eX cX) {f:Addr} {fd:FuncData} (F:Fun K "_law_spoilt" "_law_spoilt" cQ f fd):FnOk P w K mg base CX0 (2) f fd gN (FSp K gO gQ dI):=
 dq (n:=6) F bM rfl rfl fun cdv A outer s H vs E hr hv ds fr hd ef=>match vs,hv,ds,hd,ef with| [v0,v1,v2],_,[a__law_text,a__law_cell_here,a__law_other],_,ef=>⟨_,vu Z C__law_sign C__law_odd_word hr v0 v1 v2 a__law_text a__law_cell_here a__law_other,ef⟩
def i7 (y1:Unit) (x3:D):Option (Out (Unit) (Unit)):=
 ifO (eP (chB D.leS D.leS (some (.str "0")) (some x3) (some (.str "9")))) (cH (some .non) []) (some (.nx ())) fun(y4:Unit)=>some (.nx ())
def gT (a__law_text:D) (a__law_low:D) (a__law_high:D):Option (Out PEmpty PEmpty):=
 vk (b1 D.oW (some a__law_text)) (i7) () fun(y1:Unit)=>ifO (orB (eP (chB D.leI D.leI (some (.int 1)) (b1 (un1 D.lQ) (aj (some a__law_text) (aI))) (some (.int 12)))) (eP (chB D.leI D.leI (some a__law_low) (b1 (un1 D.qR) (aj (some a__law_text) (aI))) (some a__law_high)))) (cH (some .non) []) (some (.nx ())) fun(y5:Unit)=>cH (b1 (un1 D.qR) (aj (some a__law_text) (aI))) []
def bB:List D->Option FR:=fn3 fun a__law_text a__law_low a__law_high=>FO (gT a__law_text a__law_low a__law_high)
abbrev pW:List Str:=["_law_text","_law_low","_law_high","_law_sign_here"]
abbrev dv:List Str:=["_law_text","_law_low","_law_high"]
theorem o8:FnScope pW dv (defScope cR):=⟨rfl,rfl,rfl,by decide+kernel,rfl,by decide+kernel,by decide+kernel⟩
abbrev dw:List PM:=[.bo,.bo,.bo]
abbrev dy:VM:=.rg .fz
theorem vw (Z:Zs K mg) {f:Addr} {cdv:Value} {A:Around} {outer:List Env} {s:Shared} {H:Hp} {E:XK} (hr:Room 0 (A.deeper (envOfC "_law_number" (defScope cR) s.heap.objs.size f cdv))) (v0 v1 v2:V) (a__law_text a__law_low a__law_high:D):
  Blk (cxT P w K mg base pW "_law_number" (defScope cR) f cdv A outer s H E) (fnX dy (bZ dw [v0,v1,v2]) E) [.bo,.bo,.bo,.fz] [some a__law_text,some a__law_low,some a__law_high,none] (defBody cR) (gT a__law_text a__law_low a__law_high):=by
 unfold gT
 exact (qa [.bo,.bo,.bo,.fz] (fun(y1:Unit)=>[some a__law_text,some a__law_low,some a__law_high,none]) [.bo,.bo,.bo,.fz] (fun(y1:Unit) (x3:D)=>[some a__law_text,some a__law_low,some a__law_high,some x3]) (pz (af (md:=.bo) 0 rfl rfl rfl (.inl rfl))) fy eh (pg_name (i:=3) o8.nd rfl (.inl rfl)) (iO _ 3 eh (Nat.le_of_ble_eq_true rfl)) (.keep (.keep (.keep (.drop (.nil))))) (fun(y1:Unit) (x3:D)=>by unfold i7;exact (bY [.bo,.bo,.bo,.fz] (fun(y4:Unit)=>[some a__law_text,some a__law_low,some a__law_high,some x3]) (ia (fM op_le_str (uf (rg:=.fz)) op_le_str (uf (rg:=.fz)) (aG (rg:=.fz)) (af (md:=.fz) 3 rfl rfl rfl (.inl rfl)) (aG (rg:=.fz)))) (aQ (fk (rg:=.fz)) rfl rfl rfl) (aP (.keep (.keep (.keep (.keep (.nil)))))) (fun(y4:Unit)=>(aP (.keep (.keep (.keep (.drop (.nil))))))))) (fun(y1:Unit)=>(bY [.bo,.bo,.bo,.fz] (fun(y5:Unit)=>[some a__law_text,some a__law_low,some a__law_high,none]) (PW.pt (kJ (ia (fM op_le (iQ (rg:=.fz)) op_le (iQ (rg:=.fz)) (ak (rg:=.fz)) (cg call_len (oV (rg:=.fz)) (by rfl) Z.len fB (aa (af (md:=.bo) 0 rfl rfl rfl (.inl rfl)) au)) (ak (rg:=.fz)))) (jq (ia (fM op_le (iQ (rg:=.fz)) op_le (iQ (rg:=.fz)) (af (md:=.bo) 1 rfl rfl rfl (.inl rfl)) (je call_int_str (z8 (rg:=.fz)) (by rfl) Z.int ti (aa (af (md:=.bo) 0 rfl rfl rfl (.inl rfl)) au)) (af (md:=.bo) 2 rfl rfl rfl (.inl rfl))))))) (aQ (fk (rg:=.fz)) rfl rfl rfl) (aP (.keep (.keep (.keep (.drop (.nil)))))) (fun(y5:Unit)=>(aQ (je call_int_str (z8 (rg:=.fz)) (by rfl) Z.int ti (aa (af (md:=.bo) 0 rfl rfl rfl (.inl rfl)) au)) rfl rfl rfl)))))
theorem uW (Z:Zs K mg) {f:Addr} {fd:FuncData} (F:Fun K "_law_number" "_law_number" cR f fd):FnOk P w K mg base CX0 (1) f fd dv (FSp K dw dy bB):=
 dq (n:=1) F o8 rfl rfl fun cdv A outer s H vs E hr hv ds fr hd ef=>match vs,hv,ds,hd,ef with| [v0,v1,v2],_,[a__law_text,a__law_low,a__law_high],_,ef=>⟨_,vw Z hr v0 v1 v2 a__law_text a__law_low a__law_high,ef⟩
def gU (a__law_text:D):Option (Out PEmpty PEmpty):=
 (lcO (b1 D.oW (some a__law_text)) (fun c1:D=>chB D.leS D.leS (some (.str "a")) (some c1) (some (.str "z"))) (fun c1:D=>some c1)).bind fun d2=>cH (Dc (b2 (blD D.eqA) (b1 (un1 D.lC) (aj (some d2) (aI))) (b1 (un1 D.lQ) (aj (some a__law_text) (aI)))) (b2 (blD D.eqD) (some d2) (b1 D.Ab (some d2)))) []
def dJ:List D->Option FR:=fn1 fun a__law_text=>FO (gU a__law_text)
abbrev mK:List Str:=["_law_text","_law_letters","_law_sign_here"]
abbrev gV:List Str:=["_law_text"]
theorem lK:FnScope mK gV (defScope b7):=⟨rfl,rfl,rfl,by decide+kernel,rfl,by decide+kernel,by decide+kernel⟩
abbrev gW:List PM:=[.bo]
abbrev gX:VM:=.rg .fz
theorem vx (Z:Zs K mg) {f:Addr} {cdv:Value} {A:Around} {outer:List Env} {s:Shared} {H:Hp} {E:XK} (hr:Room 0 (A.deeper (envOfC "_law_rising" (defScope b7) s.heap.objs.size f cdv))) (v0:V) (a__law_text:D):
  Blk (cxT P w K mg base mK "_law_rising" (defScope b7) f cdv A outer s H E) (fnX gX (bZ gW [v0]) E) [.bo,.fz,.fz] [some a__law_text,none,none] (defBody b7) (gU a__law_text):=by
 unfold gU
 exact (Dk 1 [.bo,.ow (.ls .fz),.fz] (fun(d2:D)=>[some a__law_text,some d2,none]) lK.nd (pz (af (md:=.bo) 0 rfl rfl rfl (.inl rfl))) fy eh (show BlkOk mK (defScope b7) _ [("_law_sign_here",2)] from ⟨rfl,by decide+kernel,by decide+kernel,by decide+kernel,by decide+kernel⟩) (Fy rfl) A0 (fun _ _ _ _ _=>(pg_name (i:=2) lK.nd rfl (.inl rfl))) (iO _ 2 eh (Nat.le_of_ble_eq_true rfl)) (fun _ _ _ _ _ (c1:D)=>(yE (fM op_le_str (uf (rg:=.fz)) op_le_str (uf (rg:=.fz)) (aG (rg:=.fz)) (af (md:=.fz) 2 rfl rfl rfl (.inl rfl)) (aG (rg:=.fz))))) (fun _ _ _ _ _ (c1:D)=>(af (md:=.fz) 2 rfl rfl rfl (.inl rfl))) (fun(d2:D)=>(vQ 1 [.bo,.fz,.fz] (aQ (zW (pZ op_eq (gu (rg:=.fz)) (cg call_len_seq (oU (rg:=.fz)) (by rfl) Z.len fB (aa (af (md:=.fz) 1 rfl rfl rfl (.inl rfl)) au)) (cg call_len (oV (rg:=.fz)) (by rfl) Z.len fB (aa (af (md:=.bo) 0 rfl rfl rfl (.inl rfl)) au)) rfl) (zV (pZ (op_eqD hr.units) (CU (rg:=.fz)) (af (md:=.fz) 1 rfl rfl rfl (.inl rfl)) (c8 (FI rfl (by rfl) Z.sorted (by rfl) Z.set (af (md:=.fz) 1 rfl rfl rfl (.inl rfl)))) rfl))) rfl rfl rfl))))
theorem uX (Z:Zs K mg) {f:Addr} {fd:FuncData} (F:Fun K "_law_rising" "_law_rising" b7 f fd):FnOk P w K mg base CX0 (1) f fd gV (FSp K gW gX dJ):=
 dq (n:=2) F lK rfl rfl fun cdv A outer s H vs E hr hv ds fr hd ef=>match vs,hv,ds,hd,ef with| [v0],_,[a__law_text],_,ef=>⟨_,vx Z hr v0 a__law_text,ef⟩
def fE (a__law_words:D):Option (Out PEmpty PEmpty):=
 ifO (orB (b2 D.neA (b1 (un1 D.lC) (aj (some a__law_words) (aI))) (some (.int 3))) (b2 (D.inA true) (b2 D.atL (some a__law_words) (some (.int 0))) (oF (aj (some (.str "O")) (aj (some (.str "A")) (aj (some (.str "B")) (aj (some (.str "AB")) (aI)))))))) (cH (some .non) []) (some (.nx ())) fun(y1:Unit)=>(b1 D.et (b2 D.atL (some a__law_words) (some (.int 2)))).bind fun d2=>ifO (b2 D.eqA (some d2) (some (.str "-"))) ((some (.str "")).bind fun d4=>some (.nx d4)) (some (.nx d2)) fun(y3:D)=>(bp bB (aj (b2 D.atL (some a__law_words) (some (.int 1))) (aj (some (.int 1)) (aj (some (.int 99)) (aI))))).bind fun d5=>ifO (orB (b2 D.vh (some d5) (some .non)) (eP (b1 D.tb (bp dJ (aj (some y3) (aI)))))) (cH (some .non) []) (some (.nx ())) fun(y6:Unit)=>cH (tupO (aj (b1 D.et (b2 D.atL (some a__law_words) (some (.int 0)))) (aj (some d5) (aj (some y3) (aI))))) []
def cB:List D->Option FR:=fn1 fun a__law_words=>FO (fE a__law_words)
abbrev o9:List Str:=["_law_words","_law_marks_here","_law_size"]
abbrev fF:List Str:=["_law_words"]
theorem iq:FnScope o9 fF (defScope cb):=⟨rfl,rfl,rfl,by decide+kernel,rfl,by decide+kernel,by decide+kernel⟩
abbrev fG:List PM:=[.bo]
abbrev fH:VM:=.rg .fz
theorem uY (Z:Zs K mg) (C__law_number:Cal P w K mg base 1 "_law_number" dv dw dy bB) (C__law_rising:Cal P w K mg base 1 "_law_rising" gV gW gX dJ) {f:Addr} {cdv:Value} {A:Around} {outer:List Env} {s:Shared} {H:Hp} {E:XK} (hr:Room 1 (A.deeper (envOfC "_law_side_of" (defScope cb) s.heap.objs.size f cdv))) (v0:V) (a__law_words:D):
  Blk (cxT P w K mg base o9 "_law_side_of" (defScope cb) f cdv A outer s H E) (fnX fH (bZ fG [v0]) E) [.bo,.fz,.fz] [some a__law_words,none,none] (defBody cb) (fE a__law_words):=by
 unfold fE
 exact (bY [.bo,.fz,.fz] (fun(y1:Unit)=>[some a__law_words,none,none]) (PW.pt (kJ (aR op_ne (yy (rg:=.fz)) (cg call_len_seq (oU (rg:=.fz)) (by rfl) Z.len fB (aa (af (md:=.bo) 0 rfl rfl rfl (.inl rfl)) au)) (ak (rg:=.fz)) rfl) (jq (aR op_notIn_seq (JW (rg:=.fz)) (aT ix_list cj (af (md:=.bo) 0 rfl rfl rfl (.inl rfl)) (ak (rg:=.fz)) (fun _ _=>rfl)) (c8 (fZ (aa (aG (rg:=.fz)) (aa (aG (rg:=.fz)) (aa (aG (rg:=.fz)) (aa (aG (rg:=.fz)) au)))) wI)) rfl)))) (aQ (fk (rg:=.fz)) rfl rfl rfl) (aP (.keep (.drop (.drop (.nil))))) (fun(y1:Unit)=>(aS 1 [.bo,.fz,.fz] (fun(d2:D)=>[some a__law_words,some d2,none]) (bJ (aT ix_list cj (af (md:=.bo) 0 rfl rfl rfl (.inl rfl)) (ak (rg:=.fz)) (fun _ _=>rfl))) (fun(d2:D)=>(bY [.bo,.fz,.fz] (fun(y3:D)=>[some a__law_words,some y3,none]) (aR op_eq (gu (rg:=.fz)) (af (md:=.fz) 1 rfl rfl rfl (.inl rfl)) (aG (rg:=.fz)) rfl) (aS 1 [.bo,.fz,.fz] (fun(d4:D)=>[some a__law_words,some d4,none]) (aG (rg:=.fz)) (fun(d4:D)=>(aP (.keep (.keep (.drop (.nil)))))) (.inl rfl) iq.nd) (aP (.keep (.keep (.drop (.nil))))) (fun(y3:D)=>(aS 2 [.bo,.fz,.fz] (fun(d5:D)=>[some a__law_words,some y3,some d5]) (aM C__law_number hr (aa (aT ix_list cj (af (md:=.bo) 0 rfl rfl rfl (.inl rfl)) (ak (rg:=.fz)) (fun _ _=>rfl)) (aa (ak (rg:=.fz)) (aa (ak (rg:=.fz)) au)))) (fun(d5:D)=>(bY [.bo,.fz,.fz] (fun(y6:Unit)=>[some a__law_words,some y3,some d5]) (PW.pt (kJ (aR op_isN (tY (rg:=.fz)) (af (md:=.fz) 2 rfl rfl rfl (.inl rfl)) (fk (rg:=.fz)) rfl) (jq (ia (AX (aM C__law_rising hr (aa (af (md:=.fz) 1 rfl rfl rfl (.inl rfl)) au))))))) (aQ (fk (rg:=.fz)) rfl rfl rfl) (aP (.keep (.keep (.keep (.nil))))) (fun(y6:Unit)=>(aQ (nH (aa (bJ (aT ix_list cj (af (md:=.bo) 0 rfl rfl rfl (.inl rfl)) (ak (rg:=.fz)) (fun _ _=>rfl))) (aa (af (md:=.fz) 2 rfl rfl rfl (.inl rfl)) (aa (af (md:=.fz) 1 rfl rfl rfl (.inl rfl)) au)))) rfl rfl rfl)))) (.inl rfl) iq.nd)))) (.inl rfl) iq.nd)))
theorem sY (Z:Zs K mg) (C__law_number:Cal P w K mg base 1 "_law_number" dv dw dy bB) (C__law_rising:Cal P w K mg base 1 "_law_rising" gV gW gX dJ) {f:Addr} {fd:FuncData} (F:Fun K "_law_side_of" "_law_side_of" cb f fd):FnOk P w K mg base CX0 (2) f fd fF (FSp K fG fH cB):=
 dq (n:=2) F iq rfl rfl fun cdv A outer s H vs E hr hv ds fr hd ef=>match vs,hv,ds,hd,ef with| [v0],_,[a__law_words],_,ef=>⟨_,uY Z C__law_number C__law_rising hr v0 a__law_words,ef⟩
def k7 (y3:Unit) (x5:D):Option (Out (Unit) (Unit)):=
 ifO (eP (chB D.leS D.leS (some (.str "a")) (some x5) (some (.str "z")))) (cH (some .non) []) (some (.nx ())) fun(y6:Unit)=>some (.nx ())
def j7 (a__law_text:D):Option (Out PEmpty PEmpty):=
 (b2 D.split (some a__law_text) (some (.str " "))).bind fun d1=>ifO (orB (b2 D.neA (b1 (un1 D.lC) (aj (some d1) (aI))) (some (.int 10))) (eP (chB D.leI D.leI (some (.int 1)) (b1 (un1 D.lQ) (aj (b2 D.atL (some d1) (some (.int 0))) (aI))) (some (.int 8))))) (cH (some .non) []) (some (.nx ())) fun(y2:Unit)=>vk (b1 D.oW (b2 D.atL (some d1) (some (.int 0)))) (k7) () fun(y3:Unit)=>(oF (aj (bp cB (aj (oG D.dO (some d1) (b1 D.toI (some (.int 3))) (b1 D.toI (some (.int 6)))) (aI))) (aj (bp cB (aj (oG D.dO (some d1) (b1 D.toI (some (.int 7))) (some none)) (aI))) (aI)))).bind fun d7=>(bp bB (aj (b2 D.atL (some d1) (some (.int 1))) (aj (some (.int 1)) (aj (b2 D.kQ (some (.int 10)) (some (.int 6))) (aI))))).bind fun d8=>(bp bB (aj (oG D.cutS (b2 D.atL (some d1) (some (.int 2))) (some none) (b1 D.toI (b1 D.yx (some (.int 1))))) (aj (some (.int 0)) (aj (b2 D.kQ (some (.int 10)) (some (.int 6))) (aI))))).bind fun d9=>ifO (orB (b2 D.vh (b2 D.atL (some d7) (some (.int 0))) (some .non)) (orB (b2 D.vh (b2 D.atL (some d7) (some (.int 1))) (some .non)) (orB (b2 D.vh (some d8) (some .non)) (b2 D.vh (some d9) (some .non))))) (cH (some .non) []) (some (.nx ())) fun(y10:Unit)=>(tupO (aj (b2 D.atL (some d1) (some (.int 0))) (aj (some d8) (aj (some d9) (aj (b2 D.atL (some d7) (some (.int 0))) (aj (b2 D.atL (some d7) (some (.int 1))) (aI))))))).bind fun d11=>ifO (b2 D.neA (bp br (aj (some d11) (aI))) (some a__law_text)) (cH (some .non) []) (some (.nx ())) fun(y12:Unit)=>cH (some d11) []
def fT:List D->Option FR:=fn1 fun a__law_text=>FO (j7 a__law_text)
abbrev sL:List Str:=["_law_text","_law_words","_law_sign_here","_law_sides","_law_need","_law_rank","_law_couple_here"]
abbrev j8:List Str:=["_law_text"]
theorem eJ:FnScope sL j8 (defScope dX):=⟨rfl,rfl,rfl,by decide+kernel,rfl,by decide+kernel,by decide+kernel⟩
abbrev j9:List PM:=[.bo]
abbrev kd:VM:=.rg .fz
theorem zx (Z:Zs K mg) (C__law_side_of:Cal P w K mg base 2 "_law_side_of" fF fG fH cB) (C__law_number:Cal P w K mg base 1 "_law_number" dv dw dy bB) (C__law_shown:Cal P w K mg base 2 "_law_shown" cJ cL cM br) {f:Addr} {cdv:Value} {A:Around} {outer:List Env} {s:Shared} {H:Hp} {E:XK} (hr:Room 2 (A.deeper (envOfC "_law_read" (defScope dX) s.heap.objs.size f cdv))) (v0:V) (a__law_text:D):
  Blk (cxT P w K mg base sL "_law_read" (defScope dX) f cdv A outer s H E) (fnX kd (bZ j9 [v0]) E) [.bo,.fz,.fz,.fz,.fz,.fz,.fz] [some a__law_text,none,none,none,none,none,none] (defBody dX) (j7 a__law_text):=by
 unfold j7
 exact (aS 1 [.bo,.fz,.fz,.fz,.fz,.fz,.fz] (fun(d1:D)=>[some a__law_text,some d1,none,none,none,none,none]) (c8 (qQ (af (md:=.bo) 0 rfl rfl rfl (.inl rfl)) (aG (rg:=.fz)))) (fun(d1:D)=>(bY [.bo,.fz,.fz,.fz,.fz,.fz,.fz] (fun(y2:Unit)=>[some a__law_text,some d1,none,none,none,none,none]) (PW.pt (kJ (aR op_ne (yy (rg:=.fz)) (cg call_len_seq (oU (rg:=.fz)) (by rfl) Z.len fB (aa (af (md:=.fz) 1 rfl rfl rfl (.inl rfl)) au)) (ak (rg:=.fz)) rfl) (jq (ia (fM op_le (iQ (rg:=.fz)) op_le (iQ (rg:=.fz)) (ak (rg:=.fz)) (cg call_len (oV (rg:=.fz)) (by rfl) Z.len fB (aa (aT ix_list cj (af (md:=.fz) 1 rfl rfl rfl (.inl rfl)) (ak (rg:=.fz)) (fun _ _=>rfl)) au)) (ak (rg:=.fz))))))) (aQ (fk (rg:=.fz)) rfl rfl rfl) (aP (.keep (.keep (.drop (.drop (.drop (.drop (.drop (.nil))))))))) (fun(y2:Unit)=>(qa [.bo,.fz,.fz,.fz,.fz,.fz,.fz] (fun(y3:Unit)=>[some a__law_text,some d1,none,none,none,none,none]) [.bo,.fz,.fz,.fz,.fz,.fz,.fz] (fun(y3:Unit) (x5:D)=>[some a__law_text,some d1,some x5,none,none,none,none]) (pz (aT ix_list cj (af (md:=.fz) 1 rfl rfl rfl (.inl rfl)) (ak (rg:=.fz)) (fun _ _=>rfl))) fy eh (pg_name (i:=2) eJ.nd rfl (.inl rfl)) (iO _ 2 eh (Nat.le_of_ble_eq_true rfl)) (.keep (.keep (.drop (.drop (.drop (.drop (.drop (.nil)))))))) (fun(y3:Unit) (x5:D)=>by unfold k7;exact (bY [.bo,.fz,.fz,.fz,.fz,.fz,.fz] (fun(y6:Unit)=>[some a__law_text,some d1,some x5,none,none,none,none]) (ia (fM op_le_str (uf (rg:=.fz)) op_le_str (uf (rg:=.fz)) (aG (rg:=.fz)) (af (md:=.fz) 2 rfl rfl rfl (.inl rfl)) (aG (rg:=.fz)))) (aQ (fk (rg:=.fz)) rfl rfl rfl) (aP (.keep (.keep (.keep (.drop (.drop (.drop (.drop (.nil))))))))) (fun(y6:Unit)=>(aP (.keep (.keep (.drop (.drop (.drop (.drop (.drop (.nil)))))))))))) (fun(y3:Unit)=>(aS 3 [.bo,.fz,.fz,.fz,.fz,.fz,.fz] (fun(d7:D)=>[some a__law_text,some d1,none,some d7,none,none,none]) (c8 (fZ (aa (aM C__law_side_of hr (aa (c8 (AY (af (md:=.fz) 1 rfl rfl rfl (.inl rfl)) (cD (ak (rg:=.fz))) (cD (ak (rg:=.fz))))) au)) (aa (aM C__law_side_of hr (aa (c8 (AY (af (md:=.fz) 1 rfl rfl rfl (.inl rfl)) (cD (ak (rg:=.fz))) da)) au)) au)) mD)) (fun(d7:D)=>(aS 4 [.bo,.fz,.fz,.fz,.fz,.fz,.fz] (fun(d8:D)=>[some a__law_text,some d1,none,some d7,some d8,none,none]) (aM C__law_number hr (aa (aT ix_list cj (af (md:=.fz) 1 rfl rfl rfl (.inl rfl)) (ak (rg:=.fz)) (fun _ _=>rfl)) (aa (ak (rg:=.fz)) (aa (aJ op_pow (oR (rg:=.fz)) (ak (rg:=.fz)) (ak (rg:=.fz))) au)))) (fun(d8:D)=>(aS 5 [.bo,.fz,.fz,.fz,.fz,.fz,.fz] (fun(d9:D)=>[some a__law_text,some d1,none,some d7,some d8,some d9,none]) (aM C__law_number hr (aa (kR (rg:=.fz) (aT ix_list cj (af (md:=.fz) 1 rfl rfl rfl (.inl rfl)) (ak (rg:=.fz)) (fun _ _=>rfl)) da (cD (JU un_neg (Ie (rg:=.fz)) (ak (rg:=.fz))))) (aa (ak (rg:=.fz)) (aa (aJ op_pow (oR (rg:=.fz)) (ak (rg:=.fz)) (ak (rg:=.fz))) au)))) (fun(d9:D)=>(bY [.bo,.fz,.fz,.fz,.fz,.fz,.fz] (fun(y10:Unit)=>[some a__law_text,some d1,none,some d7,some d8,some d9,none]) (PW.pt (kJ (aR op_isN (tY (rg:=.fz)) (aT ix_list cj (af (md:=.fz) 3 rfl rfl rfl (.inl rfl)) (ak (rg:=.fz)) (fun _ _=>rfl)) (fk (rg:=.fz)) rfl) (kJ (aR op_isN (tY (rg:=.fz)) (aT ix_list cj (af (md:=.fz) 3 rfl rfl rfl (.inl rfl)) (ak (rg:=.fz)) (fun _ _=>rfl)) (fk (rg:=.fz)) rfl) (kJ (aR op_isN (tY (rg:=.fz)) (af (md:=.fz) 4 rfl rfl rfl (.inl rfl)) (fk (rg:=.fz)) rfl) (jq (aR op_isN (tY (rg:=.fz)) (af (md:=.fz) 5 rfl rfl rfl (.inl rfl)) (fk (rg:=.fz)) rfl)))))) (aQ (fk (rg:=.fz)) rfl rfl rfl) (aP (.keep (.keep (.drop (.keep (.keep (.keep (.drop (.nil))))))))) (fun(y10:Unit)=>(aS 6 [.bo,.fz,.fz,.fz,.fz,.fz,.fz] (fun(d11:D)=>[some a__law_text,some d1,none,some d7,some d8,some d9,some d11]) (lU (aa (aT ix_list cj (af (md:=.fz) 1 rfl rfl rfl (.inl rfl)) (ak (rg:=.fz)) (fun _ _=>rfl)) (aa (af (md:=.fz) 4 rfl rfl rfl (.inl rfl)) (aa (af (md:=.fz) 5 rfl rfl rfl (.inl rfl)) (aa (aT ix_list cj (af (md:=.fz) 3 rfl rfl rfl (.inl rfl)) (ak (rg:=.fz)) (fun _ _=>rfl)) (aa (aT ix_list cj (af (md:=.fz) 3 rfl rfl rfl (.inl rfl)) (ak (rg:=.fz)) (fun _ _=>rfl)) au)))))) (fun(d11:D)=>(bY [.bo,.fz,.fz,.fz,.fz,.fz,.fz] (fun(y12:Unit)=>[some a__law_text,some d1,none,some d7,some d8,some d9,some d11]) (aR op_ne (yy (rg:=.fz)) (aM C__law_shown hr (aa (af (md:=.fz) 6 rfl rfl rfl (.inl rfl)) au)) (af (md:=.bo) 0 rfl rfl rfl (.inl rfl)) rfl) (aQ (fk (rg:=.fz)) rfl rfl rfl) (aP (.keep (.keep (.drop (.keep (.keep (.keep (.keep (.nil))))))))) (fun(y12:Unit)=>(aQ (af (md:=.fz) 6 rfl rfl rfl (.inl rfl)) rfl rfl rfl)))) (.inl rfl) eJ.nd)))) (.inl rfl) eJ.nd)) (.inl rfl) eJ.nd)) (.inl rfl) eJ.nd)))))) (.inl rfl) eJ.nd)
theorem xZ (Z:Zs K mg) (C__law_side_of:Cal P w K mg base 2 "_law_side_of" fF fG fH cB) (C__law_number:Cal P w K mg base 1 "_law_number" dv dw dy bB) (C__law_shown:Cal P w K mg base 2 "_law_shown" cJ cL cM br) {f:Addr} {fd:FuncData} (F:Fun K "_law_read" "_law_read" dX f fd):FnOk P w K mg base CX0 (3) f fd j8 (FSp K j9 kd fT):=
 dq (n:=6) F eJ rfl rfl fun cdv A outer s H vs E hr hv ds fr hd ef=>match vs,hv,ds,hd,ef with| [v0],_,[a__law_text],_,ef=>⟨_,zx Z C__law_side_of C__law_number C__law_shown hr v0 a__law_text,ef⟩
def ke (a__law_couple_here:D) (a__law_cell_here:D):Option (Out PEmpty PEmpty):=
 (b1 D.pr5 (some a__law_couple_here)).bind fun d1=>ifO (b2 D.eqA (b2 D.bu (some a__law_cell_here) (some (.int 3))) (some (.int 1))) ((b2 D.atL (oF (aj (some (.int 1)) (aj (b2 D.kQ (some (.int 10)) (some (.int 6))) (aI)))) (b2 D.bu (b2 D.gq (some a__law_cell_here) (some (.int 3))) (some (.int 2)))).bind fun d3=>(b2 D.atL (oF (aj (some (.int 0)) (aj (b2 D.kQ (some (.int 10)) (some (.int 6))) (aI)))) (b2 D.bu (b2 D.gq (some a__law_cell_here) (some (.int 6))) (some (.int 2)))).bind fun d4=>(tupO (aj (b2 D.atT (some d1.2.2.2.1) (some (.int 0))) (aj (b2 D.atL (oF (aj (some (.int 1)) (aj (some (.int 99)) (aI)))) (b2 D.bu (b2 D.gq (some a__law_cell_here) (some (.int 12))) (some (.int 2)))) (aj (b2 D.atT (some d1.2.2.2.1) (some (.int 2))) (aI))))).bind fun d5=>some (.nx (d3,d4,d5))) (some (.nx (d1.2.1,d1.2.2.1,d1.2.2.2.1))) fun(y2:D×D×D)=>cH (tupO (aj (some d1.1) (aj (some y2.1) (aj (some y2.2.1) (aj (some y2.2.2) (aj (some d1.2.2.2.2) (aI))))))) []
def fU:List D->Option FR:=fn2 fun a__law_couple_here a__law_cell_here=>FO (ke a__law_couple_here a__law_cell_here)
abbrev sM:List Str:=["_law_couple_here","_law_cell_here","_law_name_here","_law_need","_law_rank","_law_giver","_law_taker"]
abbrev kg:List Str:=["_law_couple_here","_law_cell_here"]
theorem cN:FnScope sM kg (defScope dY):=⟨rfl,rfl,rfl,by decide+kernel,rfl,by decide+kernel,by decide+kernel⟩
abbrev kh:List PM:=[.fz,.bo]
abbrev ki:VM:=.rg .fz
theorem zy (Z:Zs K mg) {f:Addr} {cdv:Value} {A:Around} {outer:List Env} {s:Shared} {H:Hp} {E:XK} (hr:Room 0 (A.deeper (envOfC "_law_ends" (defScope dY) s.heap.objs.size f cdv))) (v0 v1:V) (a__law_couple_here a__law_cell_here:D):
  Blk (cxT P w K mg base sM "_law_ends" (defScope dY) f cdv A outer s H E) (fnX ki (bZ kh [v0,v1]) E) [.fz,.bo,.fz,.fz,.fz,.fz,.fz] [some a__law_couple_here,some a__law_cell_here,none,none,none,none,none] (defBody dY) (ke a__law_couple_here a__law_cell_here):=by
 unfold ke
 exact (Ba 2 3 4 5 6 [.fz,.bo,.fz,.fz,.fz,.fz,.fz] (fun(d1:D×D×D×D×D)=>[some a__law_couple_here,some a__law_cell_here,some d1.1,some d1.2.1,some d1.2.2.1,some d1.2.2.2.1,some d1.2.2.2.2]) (af (md:=.fz) 0 rfl rfl rfl (.inl rfl)) eh (pg_tup rfl (pgs_cons (pg_name (i:=2) cN.nd rfl (.inl rfl)) (pgs_cons (pg_name (i:=3) cN.nd rfl (.inl rfl)) (pgs_cons (pg_name (i:=4) cN.nd rfl (.inl rfl)) (pgs_cons (pg_name (i:=5) cN.nd rfl (.inl rfl)) (pgs_cons (pg_name (i:=6) cN.nd rfl (.inl rfl)) pgs_nil)))))) (fun(d1:D×D×D×D×D)=>(bY [.fz,.bo,.fz,.fz,.fz,.fz,.fz] (fun(y2:D×D×D)=>[some a__law_couple_here,some a__law_cell_here,some d1.1,some y2.1,some y2.2.1,some y2.2.2,some d1.2.2.2.2]) (aR op_eq (gu (rg:=.fz)) (aJ op_mod (bI (rg:=.fz)) (af (md:=.bo) 1 rfl rfl rfl (.inl rfl)) (ak (rg:=.fz))) (ak (rg:=.fz)) rfl) (aS 3 [.fz,.bo,.fz,.fz,.fz,.fz,.fz] (fun(d3:D)=>[some a__law_couple_here,some a__law_cell_here,some d1.1,some d3,some d1.2.2.1,some d1.2.2.2.1,some d1.2.2.2.2]) (aT ix_list cj (c8 (fZ (aa (ak (rg:=.fz)) (aa (aJ op_pow (oR (rg:=.fz)) (ak (rg:=.fz)) (ak (rg:=.fz))) au)) mD)) (aJ op_mod (bI (rg:=.fz)) (aJ op_fdiv (kI (rg:=.fz)) (af (md:=.bo) 1 rfl rfl rfl (.inl rfl)) (ak (rg:=.fz))) (ak (rg:=.fz))) (fun _ _=>rfl)) (fun(d3:D)=>(aS 4 [.fz,.bo,.fz,.fz,.fz,.fz,.fz] (fun(d4:D)=>[some a__law_couple_here,some a__law_cell_here,some d1.1,some d3,some d4,some d1.2.2.2.1,some d1.2.2.2.2]) (aT ix_list cj (c8 (fZ (aa (ak (rg:=.fz)) (aa (aJ op_pow (oR (rg:=.fz)) (ak (rg:=.fz)) (ak (rg:=.fz))) au)) mD)) (aJ op_mod (bI (rg:=.fz)) (aJ op_fdiv (kI (rg:=.fz)) (af (md:=.bo) 1 rfl rfl rfl (.inl rfl)) (ak (rg:=.fz))) (ak (rg:=.fz))) (fun _ _=>rfl)) (fun(d4:D)=>(aS 5 [.fz,.bo,.fz,.fz,.fz,.fz,.fz] (fun(d5:D)=>[some a__law_couple_here,some a__law_cell_here,some d1.1,some d3,some d4,some d5,some d1.2.2.2.2]) (nH (aa (aT ix_tup lB (af (md:=.fz) 5 rfl rfl rfl (.inl rfl)) (ak (rg:=.fz)) (fun _ _=>rfl)) (aa (aT ix_list cj (c8 (fZ (aa (ak (rg:=.fz)) (aa (ak (rg:=.fz)) au)) mD)) (aJ op_mod (bI (rg:=.fz)) (aJ op_fdiv (kI (rg:=.fz)) (af (md:=.bo) 1 rfl rfl rfl (.inl rfl)) (ak (rg:=.fz))) (ak (rg:=.fz))) (fun _ _=>rfl)) (aa (aT ix_tup lB (af (md:=.fz) 5 rfl rfl rfl (.inl rfl)) (ak (rg:=.fz)) (fun _ _=>rfl)) au)))) (fun(d5:D)=>(aP (.keep (.keep (.keep (.keep (.keep (.keep (.keep (.nil)))))))))) (.inl rfl) cN.nd)) (.inl rfl) cN.nd)) (.inl rfl) cN.nd) (aP (.keep (.keep (.keep (.keep (.keep (.keep (.keep (.nil))))))))) (fun(y2:D×D×D)=>(aQ (lU (aa (af (md:=.fz) 2 rfl rfl rfl (.inl rfl)) (aa (af (md:=.fz) 3 rfl rfl rfl (.inl rfl)) (aa (af (md:=.fz) 4 rfl rfl rfl (.inl rfl)) (aa (af (md:=.fz) 5 rfl rfl rfl (.inl rfl)) (aa (af (md:=.fz) 6 rfl rfl rfl (.inl rfl)) au)))))) rfl rfl rfl)))))
theorem x7 (Z:Zs K mg) {f:Addr} {fd:FuncData} (F:Fun K "_law_ends" "_law_ends" dY f fd):FnOk P w K mg base CX0 (1) f fd kg (FSp K kh ki fU):=
 dq (n:=5) F cN rfl rfl fun cdv A outer s H vs E hr hv ds fr hd ef=>match vs,hv,ds,hd,ef with| [v0,v1],_,[a__law_couple_here,a__law_cell_here],_,ef=>⟨_,zy Z hr v0 v1 a__law_couple_here a__law_cell_here,ef⟩
def kj (a__law_text:D):Option (Out PEmpty PEmpty):=
 (some .non).bind fun d1=>(some .non).bind fun d2=>IK (setB dG (aj (some a__law_text) (aI)) fun r_=>(r_,d2)) "NoRow" (fun x_=>tupO (aj (IL "NoRow" "row" x_) (aj (isX "NoRow" true x_) (aj (isX "NoRow" true x_) (aj (isX "NoRow" false x_) (aI)))))) (fun d_=>(d1,d_)) fun(y3:D×D)=>cH (tupO (aj (some y3.1) (aj (some y3.2) (aI)))) []
def eL:List D->Option FR:=fn1 fun a__law_text=>FO (kj a__law_text)
abbrev sO:List Str:=["_law_text","_law_found","_law_told_here","e"]
abbrev ko:List Str:=["_law_text"]
theorem i8:FnScope sO ko (defScope dZ):=⟨rfl,rfl,rfl,by decide+kernel,rfl,by decide+kernel,by decide+kernel⟩
abbrev kq:List PM:=[.bo]
abbrev kr:VM:=.rg .fz
theorem zz (Z:Zs K mg) (C_read_couple:FJ P w K mg base 7 "read_couple" gz gA gC dG) (Xf_NoRow:Ac K "NoRow" "row" "SwapError") (Xg_NoRow:mg "NoRow" =some (.ref (He.ga K "NoRow"))) {f:Addr} {cdv:Value} {A:Around} {outer:List Env} {s:Shared} {H:Hp} {E:XK} (hr:Room 7 (A.deeper (envOfC "_law_told" (defScope dZ) s.heap.objs.size f cdv))) (v0:V) (a__law_text:D):
  Blk (cxT P w K mg base sO "_law_told" (defScope dZ) f cdv A outer s H E) (fnX kr (bZ kq [v0]) E) [.bo,.fz,.fz,.fz] [some a__law_text,none,none,none] (defBody dZ) (kj a__law_text):=by
 unfold kj
 exact (aS 1 [.bo,.fz,.fz,.fz] (fun(d1:D)=>[some a__law_text,some d1,none,none]) (fk (rg:=.fz)) (fun(d1:D)=>(aS 2 [.bo,.fz,.fz,.fz] (fun(d2:D)=>[some a__law_text,some d1,some d2,none]) (fk (rg:=.fz)) (fun(d2:D)=>(FN 3 2 (el:=fun(y3:D×D)=>[some a__law_text,some y3.1,some y3.2,none]) (gx:=fun d_=>(d1,d_)) rfl rfl i8.nd rfl rfl ⟨rfl,by decide,.inl Xg_NoRow⟩ Xf_NoRow.tr rfl (.inl rfl) (.inr rfl) rfl rfl (Nat.le_of_ble_eq_true rfl) (by decide) rfl (fun W_ pn_ xe_ tk_ po_=>(FV (fun r_=>(r_,d2)) 1 C_read_couple hr tk_ (aa (af (md:=.bo) 0 rfl rfl rfl (.inl rfl)) au) rfl (Nat.le_of_ble_eq_true rfl) i8.nd rfl (.inl rfl) rfl (fun _=>rfl))) (fun a_ oe_ cls_ d_ pn_ x_ z_ fl_=>(FU (qS (IJ (i:=3) Xf_NoRow.xf Xf_NoRow.no z_ fl_ rfl rfl rfl (.inl rfl)) (qS (DH (i:=3) Z.x_NoRow (List.mem_of_getElem? (i:=0) rfl) z_ fl_ rfl Z.isinstance rfl Z.g_SwapError rfl rfl rfl (.inl rfl)) (qS (IP (i:=3) Z.x_NoRow (List.mem_of_getElem? (i:=0) rfl) z_ fl_ rfl Z.isinstance rfl Z.ValueError (by decide+kernel) rfl rfl rfl (.inl rfl)) (qS (DH (i:=3) Z.x_NoRow (List.mem_of_getElem? (i:=1) rfl) z_ fl_ rfl Z.isinstance rfl Z.g_NoSwap rfl rfl rfl (.inl rfl)) FL)))))) (fun(y3:D×D)=>(aQ (A7 (aa (af (md:=.fz) 1 rfl rfl rfl (.inl rfl)) (aa (af (md:=.fz) 2 rfl rfl rfl (.inl rfl)) au))) rfl rfl rfl)) rfl (fun _=>rfl))) (.inl rfl) i8.nd)) (.inl rfl) i8.nd)
theorem x8 (Z:Zs K mg) (C_read_couple:FJ P w K mg base 7 "read_couple" gz gA gC dG) (Xf_NoRow:Ac K "NoRow" "row" "SwapError") (Xg_NoRow:mg "NoRow" =some (.ref (He.ga K "NoRow"))) {f:Addr} {fd:FuncData} (F:Fun K "_law_told" "_law_told" dZ f fd):FnOk P w K mg base CX0 (8) f fd ko (FSp K kq kr eL):=
 dq (n:=3) F i8 rfl rfl fun cdv A outer s H vs E hr hv ds fr hd ef=>match vs,hv,ds,hd,ef with| [v0],_,[a__law_text],_,ef=>⟨_,zz Z C_read_couple Xf_NoRow Xg_NoRow hr v0 a__law_text,ef⟩
def i9 (k__law_name_here:D) (k__law_need:D) (k__law_rank:D) (k__law_giver:D) (k__law_taker:D) (y4:D) (x6:D):Option (Out (D) (D)):=
 (BY y4 (some []) (tupO (aj (b1 D.et (some k__law_name_here)) (aj (b1 D.et (some k__law_need)) (aj (b1 D.et (some k__law_rank)) (aj (tupO (aj (b1 D.et (b2 D.atT (some k__law_giver) (some (.int 0)))) (aj (some x6) (aj (b1 D.et (b2 D.atT (some k__law_giver) (some (.int 2)))) (aI))))) (aj (b1 D.et (some k__law_taker)) (aI))))))) D.app).bind fun d7=>(BY d7.2 (some []) (tupO (aj (b1 D.et (some k__law_name_here)) (aj (b1 D.et (some k__law_need)) (aj (b1 D.et (some k__law_rank)) (aj (b1 D.et (some k__law_giver)) (aj (tupO (aj (b1 D.et (b2 D.atT (some k__law_taker) (some (.int 0)))) (aj (some x6) (aj (b1 D.et (b2 D.atT (some k__law_taker) (some (.int 2)))) (aI))))) (aI))))))) D.app).bind fun d8=>some (.nx d8.2)
def gY (a__law_couple_here:D):Option (Out PEmpty PEmpty):=
 (b1 D.pr5 (some a__law_couple_here)).bind fun d1=>(oF (aj (tupO (aj (b1 D.et (some d1.1)) (aj (some (.int 0)) (aj (b1 D.et (some d1.2.2.1)) (aj (b1 D.et (some d1.2.2.2.1)) (aj (b1 D.et (some d1.2.2.2.2)) (aI))))))) (aj (tupO (aj (b1 D.et (some d1.1)) (aj (b2 D.dA (b2 D.kQ (some (.int 10)) (some (.int 6))) (some (.int 1))) (aj (b1 D.et (some d1.2.2.1)) (aj (b1 D.et (some d1.2.2.2.1)) (aj (b1 D.et (some d1.2.2.2.2)) (aI))))))) (aI)))).bind fun d2=>(BY d2 (some []) (tupO (aj (b1 D.et (some d1.1)) (aj (b1 D.et (some d1.2.1)) (aj (b2 D.dA (b2 D.kQ (some (.int 10)) (some (.int 6))) (some (.int 1))) (aj (b1 D.et (some d1.2.2.2.1)) (aj (b1 D.et (some d1.2.2.2.2)) (aI))))))) D.app).bind fun d3=>vk (BX (oF (aj (some (.int 0)) (aj (some (.int 100)) (aI))))) (i9 d1.1 d1.2.1 d1.2.2.1 d1.2.2.2.1 d1.2.2.2.2) d3.2 fun(y4:D)=>cH (lcO (BX (some y4)) (fun c9:D=>some true) (fun c9:D=>bp br (aj (some c9) (aI)))) []
def dM:List D->Option FR:=fn1 fun a__law_couple_here=>FO (gY a__law_couple_here)
abbrev mL:List Str:=["_law_couple_here","_law_some","_law_size","_law_name_here","_law_need","_law_rank","_law_giver","_law_taker","_law_one"]
abbrev gZ:List Str:=["_law_couple_here"]
theorem bC:FnScope mL gZ (defScope b8):=⟨rfl,rfl,rfl,by decide+kernel,rfl,by decide+kernel,by decide+kernel⟩
abbrev g8:List PM:=[.bo]
abbrev g9:VM:=.rg .fz
theorem vy (Z:Zs K mg) (C__law_shown:Cal P w K mg base 2 "_law_shown" cJ cL cM br) {f:Addr} {cdv:Value} {A:Around} {outer:List Env} {s:Shared} {H:Hp} {E:XK} (hr:Room 2 (A.deeper (envOfC "_law_beyond" (defScope b8) s.heap.objs.size f cdv))) (v0:V) (a__law_couple_here:D):
  Blk (cxT P w K mg base mL "_law_beyond" (defScope b8) f cdv A outer s H E) (fnX g9 (bZ g8 [v0]) E) [.bo,.fz,.fz,.fz,.fz,.fz,.fz,.fz,.fz] [some a__law_couple_here,none,none,none,none,none,none,none,none] (defBody b8) (gY a__law_couple_here):=by
 unfold gY
 exact (Ba 3 4 5 6 7 [.bo,.fz,.fz,.bo,.bo,.bo,.bo,.bo,.fz] (fun(d1:D×D×D×D×D)=>[some a__law_couple_here,none,none,some d1.1,some d1.2.1,some d1.2.2.1,some d1.2.2.2.1,some d1.2.2.2.2,none]) (af (md:=.bo) 0 rfl rfl rfl (.inl rfl)) J3 (pg_tup rfl (pgs_cons (pg_name (i:=3) bC.nd rfl (.inl rfl)) (pgs_cons (pg_name (i:=4) bC.nd rfl (.inl rfl)) (pgs_cons (pg_name (i:=5) bC.nd rfl (.inl rfl)) (pgs_cons (pg_name (i:=6) bC.nd rfl (.inl rfl)) (pgs_cons (pg_name (i:=7) bC.nd rfl (.inl rfl)) pgs_nil)))))) (fun(d1:D×D×D×D×D)=>(aS 1 [.bo,.ow (.ls .fz),.fz,.bo,.bo,.bo,.bo,.bo,.fz] (fun(d2:D)=>[some a__law_couple_here,some d2,none,some d1.1,some d1.2.1,some d1.2.2.1,some d1.2.2.2.1,some d1.2.2.2.2,none]) (fZ (aa (lU (aa (bJ (af (md:=.bo) 3 rfl rfl rfl (.inl rfl))) (aa (ak (rg:=.fz)) (aa (bJ (af (md:=.bo) 5 rfl rfl rfl (.inl rfl))) (aa (bJ (af (md:=.bo) 6 rfl rfl rfl (.inl rfl))) (aa (bJ (af (md:=.bo) 7 rfl rfl rfl (.inl rfl))) au)))))) (aa (lU (aa (bJ (af (md:=.bo) 3 rfl rfl rfl (.inl rfl))) (aa (aJ op_add (fA (rg:=.fz)) (aJ op_pow (oR (rg:=.fz)) (ak (rg:=.fz)) (ak (rg:=.fz))) (ak (rg:=.fz))) (aa (bJ (af (md:=.bo) 5 rfl rfl rfl (.inl rfl))) (aa (bJ (af (md:=.bo) 6 rfl rfl rfl (.inl rfl))) (aa (bJ (af (md:=.bo) 7 rfl rfl rfl (.inl rfl))) au)))))) au)) mD) (fun(d2:D)=>(ud 1 (fun(d3:D×D)=>[some a__law_couple_here,some d3.2,none,some d1.1,some d1.2.1,some d1.2.2.1,some d1.2.2.2.1,some d1.2.2.2.2,none]) (wH (rG rfl rfl rfl (p9 1 rfl rfl rfl rfl (.inl rfl)) (ue rfl) (lU (aa (bJ (af (md:=.bo) 3 rfl rfl rfl (.inl rfl))) (aa (bJ (af (md:=.bo) 4 rfl rfl rfl (.inl rfl))) (aa (aJ op_add (fA (rg:=.fz)) (aJ op_pow (oR (rg:=.fz)) (ak (rg:=.fz)) (ak (rg:=.fz))) (ak (rg:=.fz))) (aa (bJ (af (md:=.bo) 6 rfl rfl rfl (.inl rfl))) (aa (bJ (af (md:=.bo) 7 rfl rfl rfl (.inl rfl))) au)))))) rfl)) (fun(d3:D×D)=>(qa [.bo,.ow (.ls .fz),.fz,.bo,.bo,.bo,.bo,.bo,.fz] (fun(y4:D)=>[some a__law_couple_here,some y4,none,some d1.1,some d1.2.1,some d1.2.2.1,some d1.2.2.2.1,some d1.2.2.2.2,none]) [.bo,.ow (.ls .fz),.fz,.bo,.bo,.bo,.bo,.bo,.fz] (fun(y4:D) (x6:D)=>[some a__law_couple_here,some y4,some x6,some d1.1,some d1.2.1,some d1.2.2.1,some d1.2.2.2.1,some d1.2.2.2.2,none]) (tZ (c8 (fZ (aa (ak (rg:=.fz)) (aa (ak (rg:=.fz)) au)) mD))) fy eh (pg_name (i:=2) bC.nd rfl (.inl rfl)) (iO _ 2 eh (Nat.le_of_ble_eq_true rfl)) (.keep (.keep (.drop (.keep (.keep (.keep (.keep (.keep (.drop (.nil)))))))))) (fun(y4:D) (x6:D)=>by unfold i9;exact (ud 1 (fun(d7:D×D)=>[some a__law_couple_here,some d7.2,some x6,some d1.1,some d1.2.1,some d1.2.2.1,some d1.2.2.2.1,some d1.2.2.2.2,none]) (wH (rG rfl rfl rfl (p9 1 rfl rfl rfl rfl (.inl rfl)) (ue rfl) (lU (aa (bJ (af (md:=.bo) 3 rfl rfl rfl (.inl rfl))) (aa (bJ (af (md:=.bo) 4 rfl rfl rfl (.inl rfl))) (aa (bJ (af (md:=.bo) 5 rfl rfl rfl (.inl rfl))) (aa (nH (aa (bJ (aT ix_tup lB (af (md:=.bo) 6 rfl rfl rfl (.inl rfl)) (ak (rg:=.fz)) (fun _ _=>rfl))) (aa (af (md:=.fz) 2 rfl rfl rfl (.inl rfl)) (aa (bJ (aT ix_tup lB (af (md:=.bo) 6 rfl rfl rfl (.inl rfl)) (ak (rg:=.fz)) (fun _ _=>rfl))) au)))) (aa (bJ (af (md:=.bo) 7 rfl rfl rfl (.inl rfl))) au)))))) rfl)) (fun(d7:D×D)=>(ud 1 (fun(d8:D×D)=>[some a__law_couple_here,some d8.2,some x6,some d1.1,some d1.2.1,some d1.2.2.1,some d1.2.2.2.1,some d1.2.2.2.2,none]) (wH (rG rfl rfl rfl (p9 1 rfl rfl rfl rfl (.inl rfl)) (ue rfl) (lU (aa (bJ (af (md:=.bo) 3 rfl rfl rfl (.inl rfl))) (aa (bJ (af (md:=.bo) 4 rfl rfl rfl (.inl rfl))) (aa (bJ (af (md:=.bo) 5 rfl rfl rfl (.inl rfl))) (aa (bJ (af (md:=.bo) 6 rfl rfl rfl (.inl rfl))) (aa (nH (aa (bJ (aT ix_tup lB (af (md:=.bo) 7 rfl rfl rfl (.inl rfl)) (ak (rg:=.fz)) (fun _ _=>rfl))) (aa (af (md:=.fz) 2 rfl rfl rfl (.inl rfl)) (aa (bJ (aT ix_tup lB (af (md:=.bo) 7 rfl rfl rfl (.inl rfl)) (ak (rg:=.fz)) (fun _ _=>rfl))) au)))) au)))))) rfl)) (fun(d8:D×D)=>(aP (.keep (.keep (.drop (.keep (.keep (.keep (.keep (.keep (.drop (.nil)))))))))))))))) (fun(y4:D)=>(vQ 1 [.bo,.fz,.fz,.bo,.bo,.bo,.bo,.bo,.fz] (aQ (c8 (C0 rfl bC.nd (tZ (af (md:=.fz) 1 rfl rfl rfl (.inl rfl))) fy eh (show BlkOk mL (defScope b8) _ [("_law_one",8)] from ⟨rfl,by decide+kernel,by decide+kernel,by decide+kernel,by decide+kernel⟩) (Fy rfl) A0 (fun _ _ _ _ _=>(pg_name (i:=8) bC.nd rfl (.inl rfl))) (iO _ 8 eh (Nat.le_of_ble_eq_true rfl)) (fun _ _ _ _ _ (c9:D)=>yD) (fun _ _ _ _ _ (c9:D)=>(aM C__law_shown hr (aa (af (md:=.fz) 8 rfl rfl rfl (.inl rfl)) au))))) rfl rfl rfl))))))) (.inl rfl) bC.nd)))
theorem uZ (Z:Zs K mg) (C__law_shown:Cal P w K mg base 2 "_law_shown" cJ cL cM br) {f:Addr} {fd:FuncData} (F:Fun K "_law_beyond" "_law_beyond" b8 f fd):FnOk P w K mg base CX0 (3) f fd gZ (FSp K g8 g9 dM):=
 dq (n:=8) F bC rfl rfl fun cdv A outer s H vs E hr hv ds fr hd ef=>match vs,hv,ds,hd,ef with| [v0],_,[a__law_couple_here],_,ef=>⟨_,vy Z C__law_shown hr v0 a__law_couple_here,ef⟩
def x9 (y2:Unit) (x4:D):Option (Out (Unit) (Unit)):=
 ifO (b2 D.neD (bp eL (aj (some x4) (aI))) (tupO (aj (some .non) (aj (tupO (aj (some x4) (aj (some (.bl true)) (aj (some (.bl true)) (aj (some (.bl false)) (aI)))))) (aI))))) (cH (some (.bl false)) []) (some (.nx ())) fun(y5:Unit)=>some (.nx ())
def zA (a__law_script:D):Option (Out PEmpty PEmpty):=
 (bp fU (aj (bp dH (aj (bp cI (aj (some a__law_script) (aj (some (.int 0)) (aI)))) (aI))) (aj (bp cI (aj (some a__law_script) (aj (some (.int 3)) (aI)))) (aI)))).bind fun d1=>vk (BX (bp dM (aj (some d1) (aI)))) (x9) () fun(y2:Unit)=>(bp dI (aj (bp br (aj (some d1) (aI))) (aj (bp cI (aj (some a__law_script) (aj (some (.int 1)) (aI)))) (aj (bp cI (aj (some a__law_script) (aj (some (.int 2)) (aI)))) (aI))))).bind fun d6=>(bp fT (aj (some d6) (aI))).bind fun d7=>(b1 D.pr (bp eL (aj (some d6) (aI)))).bind fun d8=>ifO (b2 D.vh (some d7) (some .non)) (cH (b2 (blD D.eqD) (some d8.2) (tupO (aj (some d6) (aj (some (.bl true)) (aj (some (.bl true)) (aj (some (.bl false)) (aI))))))) []) (some (.nx ())) fun(y9:Unit)=>cH (Dc (b2 (blD D.vh) (some d8.2) (some .non)) (b2 (blD D.eqD) (some d8.1) (some d7))) []
def AN:List D->Option FR:=fn1 fun a__law_script=>FO (zA a__law_script)
abbrev HK:List Str:=["_law_script","_law_couple_here","_law_text","_law_due","_law_found","_law_told_here"]
abbrev HL:List Str:=["_law_script"]
theorem qu:FnScope HK HL (defScope r9):=⟨rfl,rfl,rfl,by decide+kernel,rfl,by decide+kernel,by decide+kernel⟩
abbrev HM:List PM:=[.bo]
abbrev HP:VM:=.rg .fz
theorem KR (Z:Zs K mg) (C__law_cell:Cal P w K mg base 1 "_law_cell" jN jO jP cI) (C__law_couple:Cal P w K mg base 3 "_law_couple" gF gG gH dH) (C__law_ends:Cal P w K mg base 1 "_law_ends" kg kh ki fU) (C__law_beyond:Cal P w K mg base 3 "_law_beyond" gZ g8 g9 dM) (C__law_told:Cal P w K mg base 8 "_law_told" ko kq kr eL) (C__law_shown:Cal P w K mg base 2 "_law_shown" cJ cL cM br) (C__law_spoilt:Cal P w K mg base 2 "_law_spoilt" gN gO gQ dI) (C__law_read:Cal P w K mg base 3 "_law_read" j8 j9 kd fT) {f:Addr} {cdv:Value} {A:Around} {outer:List Env} {s:Shared} {H:Hp} {E:XK} (hr:Room 8 (A.deeper (envOfC "law" (defScope r9) s.heap.objs.size f cdv))) (v0:V) (a__law_script:D):
  Blk (cxT P w K mg base HK "law" (defScope r9) f cdv A outer s H E) (fnX HP (bZ HM [v0]) E) [.bo,.fz,.fz,.fz,.fz,.fz] [some a__law_script,none,none,none,none,none] (defBody r9) (zA a__law_script):=by
 unfold zA
 exact (aS 1 [.bo,.fz,.fz,.fz,.fz,.fz] (fun(d1:D)=>[some a__law_script,some d1,none,none,none,none]) (aM C__law_ends hr (aa (aM C__law_couple hr (aa (aM C__law_cell hr (aa (af (md:=.bo) 0 rfl rfl rfl (.inl rfl)) (aa (ak (rg:=.fz)) au))) au)) (aa (aM C__law_cell hr (aa (af (md:=.bo) 0 rfl rfl rfl (.inl rfl)) (aa (ak (rg:=.fz)) au))) au))) (fun(d1:D)=>(qa [.bo,.fz,.fz,.fz,.fz,.fz] (fun(y2:Unit)=>[some a__law_script,some d1,none,none,none,none]) [.bo,.fz,.fz,.fz,.fz,.fz] (fun(y2:Unit) (x4:D)=>[some a__law_script,some d1,some x4,none,none,none]) (tZ (aM C__law_beyond hr (aa (af (md:=.fz) 1 rfl rfl rfl (.inl rfl)) au))) fy eh (pg_name (i:=2) qu.nd rfl (.inl rfl)) (iO _ 2 eh (Nat.le_of_ble_eq_true rfl)) (.keep (.keep (.drop (.drop (.drop (.drop (.nil))))))) (fun(y2:Unit) (x4:D)=>by unfold x9;exact (bY [.bo,.fz,.fz,.fz,.fz,.fz] (fun(y5:Unit)=>[some a__law_script,some d1,some x4,none,none,none]) (aR (op_neD hr.units) (JV (rg:=.fz)) (aM C__law_told hr (aa (af (md:=.fz) 2 rfl rfl rfl (.inl rfl)) au)) (A7 (aa (fk (rg:=.fz)) (aa (Bb (aa (af (md:=.fz) 2 rfl rfl rfl (.inl rfl)) (aa (mR (rg:=.fz)) (aa (mR (rg:=.fz)) (aa (mR (rg:=.fz)) au))))) au))) rfl) (aQ (mR (rg:=.fz)) rfl rfl rfl) (aP (.keep (.keep (.keep (.drop (.drop (.drop (.nil)))))))) (fun(y5:Unit)=>(aP (.keep (.keep (.drop (.drop (.drop (.drop (.nil))))))))))) (fun(y2:Unit)=>(aS 2 [.bo,.fz,.fz,.fz,.fz,.fz] (fun(d6:D)=>[some a__law_script,some d1,some d6,none,none,none]) (aM C__law_spoilt hr (aa (aM C__law_shown hr (aa (af (md:=.fz) 1 rfl rfl rfl (.inl rfl)) au)) (aa (aM C__law_cell hr (aa (af (md:=.bo) 0 rfl rfl rfl (.inl rfl)) (aa (ak (rg:=.fz)) au))) (aa (aM C__law_cell hr (aa (af (md:=.bo) 0 rfl rfl rfl (.inl rfl)) (aa (ak (rg:=.fz)) au))) au)))) (fun(d6:D)=>(aS 3 [.bo,.fz,.fz,.fz,.fz,.fz] (fun(d7:D)=>[some a__law_script,some d1,some d6,some d7,none,none]) (aM C__law_read hr (aa (af (md:=.fz) 2 rfl rfl rfl (.inl rfl)) au)) (fun(d7:D)=>(Fz 4 5 [.bo,.fz,.fz,.fz,.fz,.fz] (fun(d8:D×D)=>[some a__law_script,some d1,some d6,some d7,some d8.1,some d8.2]) (aM C__law_told hr (aa (af (md:=.fz) 2 rfl rfl rfl (.inl rfl)) au)) eh (pg_tup rfl (pgs_cons (pg_name (i:=4) qu.nd rfl (.inl rfl)) (pgs_cons (pg_name (i:=5) qu.nd rfl (.inl rfl)) pgs_nil))) (fun(d8:D×D)=>(bY [.bo,.fz,.fz,.fz,.fz,.fz] (fun(y9:Unit)=>[some a__law_script,some d1,some d6,some d7,some d8.1,some d8.2]) (aR op_isN (tY (rg:=.fz)) (af (md:=.fz) 3 rfl rfl rfl (.inl rfl)) (fk (rg:=.fz)) rfl) (aQ (pZ (op_eqD hr.units) (CU (rg:=.fz)) (af (md:=.fz) 5 rfl rfl rfl (.inl rfl)) (Bb (aa (af (md:=.fz) 2 rfl rfl rfl (.inl rfl)) (aa (mR (rg:=.fz)) (aa (mR (rg:=.fz)) (aa (mR (rg:=.fz)) au))))) rfl) rfl rfl rfl) (aP (.keep (.keep (.keep (.keep (.keep (.keep (.nil)))))))) (fun(y9:Unit)=>(aQ (zW (pZ op_isN (tY (rg:=.fz)) (af (md:=.fz) 5 rfl rfl rfl (.inl rfl)) (fk (rg:=.fz)) rfl) (zV (pZ (op_eqD hr.units) (CU (rg:=.fz)) (af (md:=.fz) 4 rfl rfl rfl (.inl rfl)) (af (md:=.fz) 3 rfl rfl rfl (.inl rfl)) rfl))) rfl rfl rfl)))))) (.inl rfl) qu.nd)) (.inl rfl) qu.nd)))) (.inl rfl) qu.nd)
theorem Ju (Z:Zs K mg) (C__law_cell:Cal P w K mg base 1 "_law_cell" jN jO jP cI) (C__law_couple:Cal P w K mg base 3 "_law_couple" gF gG gH dH) (C__law_ends:Cal P w K mg base 1 "_law_ends" kg kh ki fU) (C__law_beyond:Cal P w K mg base 3 "_law_beyond" gZ g8 g9 dM) (C__law_told:Cal P w K mg base 8 "_law_told" ko kq kr eL) (C__law_shown:Cal P w K mg base 2 "_law_shown" cJ cL cM br) (C__law_spoilt:Cal P w K mg base 2 "_law_spoilt" gN gO gQ dI) (C__law_read:Cal P w K mg base 3 "_law_read" j8 j9 kd fT) {f:Addr} {fd:FuncData} (F:Fun K "law" "law" r9 f fd):FnOk P w K mg base CX0 (9) f fd HL (FSp K HM HP AN):=
 dq (n:=5) F qu rfl rfl fun cdv A outer s H vs E hr hv ds fr hd ef=>match vs,hv,ds,hd,ef with| [v0],_,[a__law_script],_,ef=>⟨_,KR Z C__law_cell C__law_couple C__law_ends C__law_beyond C__law_told C__law_shown C__law_spoilt C__law_read hr v0 a__law_script,ef⟩
end
noncomputable def ku (y2:Unit) (x4:Str):Option (TO (Unit) (Unit) (R0 Bool)):=
 cE (b2 (T.qb true) (some x4) (some ("abcdefghijklmnopqrstuvwxyz" :Str))) (bR (some false) (fun r=>⟨r⟩)) (some (.nx ())) fun(y5:Unit)=>some (.nx ())
theorem zB (y2:Unit) (x4:Str):TyS (oa (es y2) (es x4)) (ku y2 x4):=by
 unfold oa ku
 exact (bg (ar (xo true) (aq x4) (ae rfl)) (aN (ae rfl) (fun _=>rfl)) (aY rfl) (fun(y5:Unit)=>(aY rfl)))
noncomputable def nA (a_thing:Str):Option (Bool):=
 tF0 (cE (orB (eP ((some a_thing).bind fun _=>some true)) (eP (qi T.leI T.leI (some (1:Int)) (b1 T.lQ (some a_thing)) (some (8:Int))))) (bR (some false) (fun r=>⟨r⟩)) (some (.nx ())) fun(y1:Unit)=>qU (b1 T.oW (some a_thing)) (ku) () fun(y2:Unit)=>bR (some true) (fun r=>⟨r⟩))
theorem CA (a_thing:Str):Fo0 (ji [en a_thing]) (nA a_thing):=by
 unfold nA
 refine fo0 (m:=m7 (en a_thing)) ?_
 unfold m7
 exact (bg (kL (ie (yR (Ja (fun _=>rfl) (aq a_thing)))) (ie (nR kM kM (ae rfl) (fo l6 (aq a_thing)) (ae rfl)))) (aN (ae rfl) (fun _=>rfl)) (aY rfl) (fun(y1:Unit)=>(nL (eQ pD (aq a_thing)) (fun b x=>zB b x) rfl (fun(y2:Unit)=>(aN (ae rfl) (fun _=>rfl))))))
noncomputable def hI (k_text:Str) (y3:Unit) (x5:Str):Option (TO (Unit) (Unit) (R0 Int)):=
 cE (b2 (T.qb true) (some x5) (some ("0123456789" :Str))) ((some k_text).bind fun d7=>some (.exc ⟨"NoRow",[("row",en d7)]⟩)) (some (.nx ())) fun(y6:Unit)=>some (.nx ())
theorem vA (k_text:Str) (y3:Unit) (x5:Str):TyS (kW (en k_text) (es y3) (es x5)) (hI k_text y3 x5):=by
 unfold kW hI
 exact (bg (ar (xo true) (aq x5) (ae rfl)) (mY (bL (aq k_text))) (aY rfl) (fun(y6:Unit)=>(aY rfl)))
noncomputable def ja (a_text:Str):Option (Xn ⊕ Int):=
 tX0 (cE (orB (eP (qi T.leI T.leI (some (1:Int)) (b1 T.lQ (some a_text)) (some (12:Int)))) (sT (b2 T.gtI (b1 T.lQ (some a_text)) (some (1:Int))) (b2 T.eqA (b2 T.atS (some a_text) (some (0:Int))) (some ("0" :Str))))) ((some a_text).bind fun d2=>some (.exc ⟨"NoRow",[("row",en d2)]⟩)) (some (.nx ())) fun(y1:Unit)=>qU (b1 T.oW (some a_text)) (hI a_text) () fun(y3:Unit)=>bR (b1 T.qR (some a_text)) (fun r=>⟨r⟩))
theorem ya (a_text:Str):FoX (fO [en a_text]) (ja a_text):=by
 unfold ja
 refine foX (m:=jA (en a_text)) ?_
 unfold jA
 exact (bg (kL (ie (nR kM kM (ae rfl) (fo l6 (aq a_text)) (ae rfl))) (Gf (ar I0 (fo l6 (aq a_text)) (ae rfl)) (ar du (ar uv (aq a_text) (ae rfl)) (ae rfl)))) (mY (bL (aq a_text))) (aY rfl) (fun(y1:Unit)=>(nL (eQ pD (aq a_text)) (fun b x=>vA a_text b x) rfl (fun(y3:Unit)=>(aN (fo xq (aq a_text)) (fun _=>rfl))))))
noncomputable def cU (y3:Str) (x5:Str):Option (TO (Str) (Str) (R0 Bool)):=
 cE (orB (b2 (T.qb true) (some x5) (some ("abcdefghijklmnopqrstuvwxyz" :Str))) (b2 T.leS (some x5) (some y3))) (bR (some false) (fun r=>⟨r⟩)) (some (.nx ())) fun(y6:Unit)=>(some x5).bind fun d7=>some (.nx d7)
theorem vB (y3:Str) (x5:Str):TyS (kX (es y3) (es x5)) (cU y3 x5):=by
 unfold kX cU
 exact (bg (kL (ar (xo true) (aq x5) (ae rfl)) (ar qg (aq x5) (aq y3))) (aN (ae rfl) (fun _=>rfl)) (aY rfl) (fun(y6:Unit)=>(aA (aq x5) (fun d7=>(aY rfl)))))
noncomputable def kv (a_text:Str):Option (Bool):=
 tF0 (cE (b2 T.eqA (some a_text) (some ("" :Str))) (bR (some false) (fun r=>⟨r⟩)) (some (.nx ())) fun(y1:Unit)=>(some ("" :Str)).bind fun d2=>qU (b1 T.oW (some a_text)) (cU) d2 fun(y3:Str)=>bR (some true) (fun r=>⟨r⟩))
theorem zC (a_text:Str):Fo0 (fP [en a_text]) (kv a_text):=by
 unfold kv
 refine fo0 (m:=jE (en a_text)) ?_
 unfold jE
 exact (bg (ar du (aq a_text) (ae rfl)) (aN (ae rfl) (fun _=>rfl)) (aY rfl) (fun(y1:Unit)=>(aA (ae rfl) (fun d2=>(nL (eQ pD (aq a_text)) (fun b x=>vB b x) rfl (fun(y3:Str)=>(aN (ae rfl) (fun _=>rfl))))))))
noncomputable def bH (a_text:Str) (a_low:Int) (a_high:Int):Option (Xn ⊕ Int):=
 tX0 (vn (b1 ja (some a_text)) fun d1=>cE (eP (qi T.leI T.leI (some a_low) (some d1) (some a_high))) ((some a_text).bind fun d3=>some (.exc ⟨"NoRow",[("row",en d3)]⟩)) (some (.nx ())) fun(y2:Unit)=>bR (some d1) (fun r=>⟨r⟩))
theorem jn (a_text:Str) (a_low:Int) (a_high:Int):FoX (bc [en a_text,en a_low,en a_high]) (bH a_text a_low a_high):=by
 unfold bH
 refine foX (m:=eT (en a_text) (en a_low) (en a_high)) ?_
 unfold eT
 exact (uz (lF (Ea ya (aq a_text))) (fun d1=>(bg (ie (nR kM kM (aq a_low) (aq d1) (aq a_high))) (mY (bL (aq a_text))) (aY rfl) (fun(y2:Unit)=>(aN (aq d1) (fun _=>rfl))))))
noncomputable def bN (a_text:Str):Option (Xn ⊕ (T3 Str Int Str)):=
 tX0 ((b2 T.split (some a_text) (some (" " :Str))).bind fun d1=>cE (orB (b2 T.neA (b1 T.lC (some d1)) (some (3:Int))) (b1 (T.inG true [("O" :Str),("A" :Str),("B" :Str),("AB" :Str)]) (b2 T.atL (some d1) (some (0:Int))))) ((some a_text).bind fun d3=>some (.exc ⟨"NoRow",[("row",en d3)]⟩)) (some (.nx ())) fun(y2:Unit)=>vn (b3 bH (b2 T.atL (some d1) (some (1:Int))) (some (1:Int)) (some (99:Int))) fun d4=>cE (b2 T.eqA (b2 T.atL (some d1) (some (2:Int))) (some ("-" :Str))) (bR (b3 T.tri (b2 T.atL (some d1) (some (0:Int))) (some d4) (some ("" :Str))) (fun r=>⟨r⟩)) (some (.nx ())) fun(y5:Unit)=>cE (eP (b1 kv (b2 T.atL (some d1) (some (2:Int))))) ((some a_text).bind fun d7=>some (.exc ⟨"NoRow",[("row",en d7)]⟩)) (some (.nx ())) fun(y6:Unit)=>bR (b3 T.tri (b2 T.atL (some d1) (some (0:Int))) (some d4) (b2 T.atL (some d1) (some (2:Int)))) (fun r=>⟨r⟩))
theorem u4 (a_text:Str):FoX (iD [en a_text]) (bN a_text):=by
 unfold bN
 refine foX (m:=nj (en a_text)) ?_
 unfold nj
 exact (aA (ar qW (aq a_text) (ae rfl)) (fun d1=>(bg (kL (ar uu (fo l5 (aq d1)) (ae rfl)) (eQ (Jb true [("O" :Str),("A" :Str),("B" :Str),("AB" :Str)]) (ar bq (aq d1) (ae rfl)))) (mY (bL (aq a_text))) (aY rfl) (fun(y2:Unit)=>(uz (lF (Jf jn (ar bq (aq d1) (ae rfl)) (ae rfl) (ae rfl))) (fun d4=>(bg (ar du (ar bq (aq d1) (ae rfl)) (ae rfl)) (aN (nN (ar bq (aq d1) (ae rfl)) (aq d4) (ae rfl)) (fun _=>rfl)) (aY rfl) (fun(y5:Unit)=>(bg (ie (yR (cm zC (ar bq (aq d1) (ae rfl))))) (mY (bL (aq a_text))) (aY rfl) (fun(y6:Unit)=>(aN (nN (ar bq (aq d1) (ae rfl)) (aq d4) (ar bq (aq d1) (ae rfl))) (fun _=>rfl))))))))))))
noncomputable def fV (a_text:Str):Option (Xn ⊕ (T5 Str Int Int (T3 Str Int Str) (T3 Str Int Str))):=
 tX0 ((b1 T.un3 (b2 T.part (some a_text) (some (": " :Str)))).bind fun d1=>(b2 T.split (some d1.1) (some (" " :Str))).bind fun d2=>cE (orB (b2 T.neA (b1 T.lC (some d2)) (some (3:Int))) (eP (b1 nA (b2 T.atL (some d2) (some (0:Int)))))) ((some a_text).bind fun d4=>some (.exc ⟨"NoRow",[("row",en d4)]⟩)) (some (.nx ())) fun(y3:Unit)=>vn (b3 bH (b2 T.atL (some d2) (some (1:Int))) (some (1:Int)) (some (1000000:Int))) fun d5=>vn (b3 bH (b2 T.atL (some d2) (some (2:Int))) (some (0:Int)) (some (1000000:Int))) fun d6=>(b1 T.un3 (b2 T.part (some d1.2.2) (some (" > " :Str)))).bind fun d7=>vn (bxO (bxV (b2 T.atL (some d2) (some (0:Int)))) fun z0_=>bxO (bxV (some d5)) fun z1_=>bxO (bxV (some d6)) fun z2_=>bxO (b1 bN (some d7.1)) fun z3_=>bxO (b1 bN (some d7.2.2)) fun z4_=>some (.inr (⟨z0_,z1_,z2_,z3_,z4_⟩:(T5 Str Int Int (T3 Str Int Str) (T3 Str Int Str))))) fun d8=>some (.ret ⟨d8⟩))
theorem yc (a_text:Str):FoX (fQ [en a_text]) (fV a_text):=by
 unfold fV
 refine foX (m:=jI (en a_text)) ?_
 unfold jI
 exact (aA (D6 (ar Bt (aq a_text) (ae rfl))) (fun d1=>(aA (ar qW (aq d1.1) (ae rfl)) (fun d2=>(bg (kL (ar uu (fo l5 (aq d2)) (ae rfl)) (ie (yR (cm CA (ar bq (aq d2) (ae rfl)))))) (mY (bL (aq a_text))) (aY rfl) (fun(y3:Unit)=>(uz (lF (Jf jn (ar bq (aq d2) (ae rfl)) (ae rfl) (ae rfl))) (fun d5=>(uz (lF (Jf jn (ar bq (aq d2) (ae rfl)) (ae rfl) (ae rfl))) (fun d6=>(aA (D6 (ar Bt (aq d1.2.2) (ae rfl))) (fun d7=>(uz (Ee (Ay (ar bq (aq d2) (ae rfl))) (Ay (aq d5)) (Ay (aq d6)) (lF (Ea u4 (aq d7.1))) (lF (Ea u4 (aq d7.2.2)))) (fun d8=>(D1 rfl)))))))))))))))
noncomputable def fJ (a_text:Str):Option (Xn ⊕ (T5 Str Int Int (T3 Str Int Str) (T3 Str Int Str))):=
 tX0 (HE (tsX (b1 fV (some a_text)) fun r_=>r_) "NoRow" "row" (some a_text) fun(y1:(T5 Str Int Int (T3 Str Int Str) (T3 Str Int Str)))=>bR (some y1) (fun r=>⟨r⟩))
theorem u6 (a_text:Str):FoX (dG [en a_text]) (fJ a_text):=by
 unfold fJ
 refine foX (m:=gy (en a_text)) ?_
 unfold gy
 exact (GD (Gz (lF (Ea yc (aq a_text))) (fun _=>rfl)) (bL (aq a_text)) (fun(y1:(T5 Str Int Int (T3 Str Int Str) (T3 Str Int Str)))=>(aN (aq y1) (fun _=>rfl))))
noncomputable def bU (a__law_script:Scr) (a__law_k:Int):Option (Int):=
 tF0 (cE (b2 T.ltI (some a__law_k) (b1 T.yB (some a__law_script))) (bR (b2 T.atC (some a__law_script) (some a__law_k)) (fun r=>⟨r⟩)) (some (.nx ())) fun(y1:Unit)=>bR (some (0:Int)) (fun r=>⟨r⟩))
theorem mh (a__law_script:Scr) (a__law_k:Int):Fo0 (cI [en a__law_script,en a__law_k]) (bU a__law_script a__law_k):=by
 unfold bU
 refine fo0 (m:=jM (en a__law_script) (en a__law_k)) ?_
 unfold jM
 exact (bg (ar IZ (aq a__law_k) (fo Gj (aq a__law_script))) (aN (ar I3 (aq a__law_script) (aq a__law_k)) (fun _=>rfl)) (aY rfl) (fun(y1:Unit)=>(aN (ae rfl) (fun _=>rfl))))
noncomputable def bO (a__law_cell_here:Int) (a__law_k:Int):Option (Int):=
 tF0 ((b2 T.bu (b2 T.dA (b2 T.dA (b2 T.bu (some a__law_cell_here) (some (2147483629:Int))) (b2 T.pH (some (7919:Int)) (some a__law_k))) (some (12345:Int))) (some (2147483629:Int))).bind fun d1=>(b2 T.bu (b2 T.dA (b2 T.pH (some d1) (some d1)) (b2 T.pH (some (104729:Int)) (some a__law_k))) (some (2147483629:Int))).bind fun d2=>bR (b2 T.bu (b2 T.pH (b2 T.dA (some d2) (some a__law_k)) (b2 T.dA (some d2) (some a__law_k))) (some (2147483587:Int))) (fun r=>⟨r⟩))
theorem eM (a__law_cell_here:Int) (a__law_k:Int):Fo0 (aU [en a__law_cell_here,en a__law_k]) (bO a__law_cell_here a__law_k):=by
 unfold bO
 refine fo0 (m:=lH (en a__law_cell_here) (en a__law_k)) ?_
 unfold lH
 exact (aA (ar aZ (ar de (ar de (ar aZ (aq a__law_cell_here) (ae rfl)) (ar tv (ae rfl) (aq a__law_k))) (ae rfl)) (ae rfl)) (fun d1=>(aA (ar aZ (ar de (ar tv (aq d1) (aq d1)) (ar tv (ae rfl) (aq a__law_k))) (ae rfl)) (fun d2=>(aN (ar aZ (ar tv (ar de (aq d2) (aq a__law_k)) (ar de (aq d2) (aq a__law_k))) (ae rfl)) (fun _=>rfl))))))
noncomputable def jb (a__law_number_here:Int):Option (Str):=
 tF0 ((some ("abcdefghijklmnopqrstuvwxyz" :Str)).bind fun d1=>(b2 T.bu (some a__law_number_here) (some (3:Int))).bind fun d2=>cE (b2 T.eqA (some d2) (some (0:Int))) (bR (some ("" :Str)) (fun r=>⟨r⟩)) (some (.nx ())) fun(y3:Unit)=>cE (b2 T.eqA (some d2) (some (1:Int))) (bR (b2 T.atS (some d1) (b2 T.bu (b2 T.gq (some a__law_number_here) (some (3:Int))) (some (26:Int)))) (fun r=>⟨r⟩)) (some (.nx ())) fun(y4:Unit)=>bR (b2 T.join (some ("" :Str)) (tlc (b1 T.rF (some (26:Int))) (fun c5:Int=>b2 T.eqA (b2 T.bu (b2 T.gq (b2 T.gq (some a__law_number_here) (some (3:Int))) (b2 T.dA (some c5) (some (1:Int)))) (some (3:Int))) (some (0:Int))) (fun c5:Int=>b2 T.atS (some d1) (some c5)))) (fun r=>⟨r⟩))
theorem yd (a__law_number_here:Int):Fo0 (fh [en a__law_number_here]) (jb a__law_number_here):=by
 unfold jb
 refine fo0 (m:=iW (en a__law_number_here)) ?_
 unfold iW
 exact (aA (ae rfl) (fun d1=>(aA (ar aZ (aq a__law_number_here) (ae rfl)) (fun d2=>(bg (ar du (aq d2) (ae rfl)) (aN (ae rfl) (fun _=>rfl)) (aY rfl) (fun(y3:Unit)=>(bg (ar du (aq d2) (ae rfl)) (aN (ar uv (aq d1) (ar aZ (ar ig (aq a__law_number_here) (ae rfl)) (ae rfl))) (fun _=>rfl)) (aY rfl) (fun(y4:Unit)=>(aN (ar qV (ae rfl) (Br (HD Bq (ae rfl)) (fun c5=>(ar du (ar aZ (ar ig (ar ig (aq a__law_number_here) (ae rfl)) (ar de (aq c5) (ae rfl))) (ae rfl)) (ae rfl))) (fun c5=>(ar uv (aq d1) (aq c5))))) (fun _=>rfl))))))))))
noncomputable def iJ (a__law_cell_here:Int) (a__law_k:Int):Option ((T3 Str Int Str)):=
 tF0 ((b2 bO (some a__law_cell_here) (some a__law_k)).bind fun d1=>bR (b3 T.tri (b2 T.atL (T.lst (T.cons (some ("O" :Str)) (T.cons (some ("A" :Str)) (T.cons (some ("B" :Str)) (T.cons (some ("AB" :Str)) (some [])))))) (b2 T.bu (some d1) (some (4:Int)))) (b2 T.dA (some (1:Int)) (b2 T.bu (b2 T.gq (some d1) (some (4:Int))) (some (99:Int)))) (b1 jb (b2 T.gq (some d1) (some (400:Int))))) (fun r=>⟨r⟩))
theorem sP (a__law_cell_here:Int) (a__law_k:Int):Fo0 (eF [en a__law_cell_here,en a__law_k]) (iJ a__law_cell_here a__law_k):=by
 unfold iJ
 refine fo0 (m:=jQ (en a__law_cell_here) (en a__law_k)) ?_
 unfold jQ
 exact (aA (dB eM (aq a__law_cell_here) (aq a__law_k)) (fun d1=>(aN (nN (ar bq (f9 (aD (ae rfl) (aD (ae rfl) (aD (ae rfl) (aD (ae rfl) f7))))) (ar aZ (aq d1) (ae rfl))) (ar de (ae rfl) (ar aZ (ar ig (aq d1) (ae rfl)) (ae rfl))) (cm yd (ar ig (aq d1) (ae rfl)))) (fun _=>rfl))))
noncomputable def kz (a__law_cell_here:Int):Option (Str):=
 tF0 ((some ("abcdefghijklmnopqrstuvwxyz" :Str)).bind fun d1=>bR (b2 T.join (some ("" :Str)) (tlc (b1 T.rF (b2 T.dA (some (1:Int)) (b2 T.bu (b2 bO (some a__law_cell_here) (some (39:Int))) (some (8:Int))))) (fun c2:Int=>some true) (fun c2:Int=>b2 T.atS (some d1) (b2 T.bu (b2 bO (some a__law_cell_here) (b2 T.dA (some (40:Int)) (some c2))) (some (26:Int)))))) (fun r=>⟨r⟩))
theorem zD (a__law_cell_here:Int):Fo0 (fR [en a__law_cell_here]) (kz a__law_cell_here):=by
 unfold kz
 refine fo0 (m:=jU (en a__law_cell_here)) ?_
 unfold jU
 exact (aA (ae rfl) (fun d1=>(aN (ar qV (ae rfl) (Br (HD Bq (ar de (ae rfl) (ar aZ (dB eM (aq a__law_cell_here) (ae rfl)) (ae rfl)))) (fun c2=>(ae rfl)) (fun c2=>(ar uv (aq d1) (ar aZ (dB eM (aq a__law_cell_here) (ar de (ae rfl) (aq c2))) (ae rfl)))))) (fun _=>rfl))))
noncomputable def hJ (a__law_cell_here:Int):Option ((T5 Str Int Int (T3 Str Int Str) (T3 Str Int Str))):=
 tF0 ((b2 T.dA (some (1:Int)) (b2 T.atL (T.lst (T.cons (b2 T.bu (b2 bO (some a__law_cell_here) (some (1:Int))) (some (200:Int))) (T.cons (b2 T.bu (b2 bO (some a__law_cell_here) (some (1:Int))) (b2 T.kQ (some (10:Int)) (some (6:Int)))) (some [])))) (b2 T.bu (b2 bO (some a__law_cell_here) (some (2:Int))) (some (2:Int))))).bind fun d1=>(b2 T.atL (T.lst (T.cons (b2 T.bu (b2 bO (some a__law_cell_here) (some (3:Int))) (some (4:Int))) (T.cons (b2 T.bu (b2 bO (some a__law_cell_here) (some (3:Int))) (b2 T.dA (b2 T.kQ (some (10:Int)) (some (6:Int))) (some (1:Int)))) (some [])))) (b2 T.bu (b2 bO (some a__law_cell_here) (some (4:Int))) (some (2:Int)))).bind fun d2=>bR (b5 T.qui (b1 kz (some a__law_cell_here)) (some d1) (some d2) (b2 iJ (some a__law_cell_here) (some (5:Int))) (b2 iJ (some a__law_cell_here) (some (6:Int)))) (fun r=>⟨r⟩))
theorem vC (a__law_cell_here:Int):Fo0 (dH [en a__law_cell_here]) (hJ a__law_cell_here):=by
 unfold hJ
 refine fo0 (m:=gE (en a__law_cell_here)) ?_
 unfold gE
 exact (aA (ar de (ae rfl) (ar bq (f9 (aD (ar aZ (dB eM (aq a__law_cell_here) (ae rfl)) (ae rfl)) (aD (ar aZ (dB eM (aq a__law_cell_here) (ae rfl)) (ar lY (ae rfl) (ae rfl))) f7))) (ar aZ (dB eM (aq a__law_cell_here) (ae rfl)) (ae rfl)))) (fun d1=>(aA (ar bq (f9 (aD (ar aZ (dB eM (aq a__law_cell_here) (ae rfl)) (ae rfl)) (aD (ar aZ (dB eM (aq a__law_cell_here) (ae rfl)) (ar de (ar lY (ae rfl) (ae rfl)) (ae rfl))) f7))) (ar aZ (dB eM (aq a__law_cell_here) (ae rfl)) (ae rfl))) (fun d2=>(aN (lZ (cm zD (aq a__law_cell_here)) (aq d1) (aq d2) (dB sP (aq a__law_cell_here) (ae rfl)) (dB sP (aq a__law_cell_here) (ae rfl))) (fun _=>rfl))))))
noncomputable def cq (a__law_side_here:(T3 Str Int Str)):Option (Str):=
 tF0 ((T.lst (T.cons ((some a__law_side_here).map T3.a) (T.cons (b1 T.rL ((some a__law_side_here).map T3.b)) (T.cons ((some a__law_side_here).map T3.c) (some []))))).bind fun d1=>cE (b2 T.eqA ((some a__law_side_here).map T3.c) (some ("" :Str))) ((T.Ah d1 (some ("-" :Str)) (some plR) (some (2:Int))).bind fun d3=>some (.nx d3)) (some (.nx d1)) fun(y2:(List Str))=>bR (b2 T.join (some (" " :Str)) (some y2)) (fun r=>⟨r⟩))
theorem mj (a__law_side_here:(T3 Str Int Str)):Fo0 (bF [en a__law_side_here]) (cq a__law_side_here):=by
 unfold cq
 refine fo0 (m:=df (en a__law_side_here)) ?_
 unfold df
 exact (aA (f9 (aD (bL (lD (aq a__law_side_here) (fun _=>rfl))) (aD (fo xp (lD (aq a__law_side_here) (fun _=>rfl))) (aD (bL (lD (aq a__law_side_here) (fun _=>rfl))) f7)))) (fun d1=>(bg (ar du (lD (aq a__law_side_here) (fun _=>rfl)) (ae rfl)) (aA (tA (nO (.ls .fz) _) (ae rfl) (ae rfl)) (fun d3=>(aY rfl))) (aY rfl) (fun(y2:(List Str))=>(aN (ar qV (ae rfl) (aq y2)) (fun _=>rfl))))))
noncomputable def bP (a__law_couple_here:(T5 Str Int Int (T3 Str Int Str) (T3 Str Int Str))):Option (Str):=
 tF0 ((b2 T.join (some (" " :Str)) (T.lst (T.cons ((some a__law_couple_here).map T5.a) (T.cons (b1 T.rL ((some a__law_couple_here).map T5.b)) (T.cons (b1 T.rL ((some a__law_couple_here).map T5.c)) (some [])))))).bind fun d1=>bR (b2 T.fK (b2 T.fK (b2 T.fK (b2 T.fK (some d1) (some (": " :Str))) (b1 cq ((some a__law_couple_here).map T5.d))) (some (" > " :Str))) (b1 cq ((some a__law_couple_here).map T5.e))) (fun r=>⟨r⟩))
theorem oh (a__law_couple_here:(T5 Str Int Int (T3 Str Int Str) (T3 Str Int Str))):Fo0 (br [en a__law_couple_here]) (bP a__law_couple_here):=by
 unfold bP
 refine fo0 (m:=i5 (en a__law_couple_here)) ?_
 unfold i5
 exact (aA (ar qV (ae rfl) (f9 (aD (bL (lD (aq a__law_couple_here) (fun _=>rfl))) (aD (fo xp (lD (aq a__law_couple_here) (fun _=>rfl))) (aD (fo xp (lD (aq a__law_couple_here) (fun _=>rfl))) f7))))) (fun d1=>(aN (ar iS (ar iS (ar iS (ar iS (aq d1) (ae rfl)) (cm mj (lD (aq a__law_couple_here) (fun _=>rfl)))) (ae rfl)) (cm mj (lD (aq a__law_couple_here) (fun _=>rfl)))) (fun _=>rfl))))
noncomputable def iK (a__law_cell_here:Int):Option (Str):=
 tF0 ((some (" !\"#$&'()*+,-./0123456789:;<=>?@ABCDEFGHIJKLMNOPQRSTUVWXYZ[\\]^_`" :Str)).bind fun d1=>(b2 T.fK (some d1) (some ("abcdefghijklmnopqrstuvwxyz{|}~" :Str))).bind fun d2=>cE (b2 T.eqA (b2 T.bu (some a__law_cell_here) (some (2:Int))) (some (0:Int))) ((some ("0123456789: >-abAB" :Str)).bind fun d4=>some (.nx d4)) (some (.nx d2)) fun(y3:Str)=>bR (b2 T.atS (some y3) (b2 T.bu (b2 T.gq (some a__law_cell_here) (some (2:Int))) (b1 T.lQ (some y3)))) (fun r=>⟨r⟩))
theorem sQ (a__law_cell_here:Int):Fo0 (eG [en a__law_cell_here]) (iK a__law_cell_here):=by
 unfold iK
 refine fo0 (m:=jY (en a__law_cell_here)) ?_
 unfold jY
 exact (aA (ae rfl) (fun d1=>(aA (ar iS (aq d1) (ae rfl)) (fun d2=>(bg (ar du (ar aZ (aq a__law_cell_here) (ae rfl)) (ae rfl)) (aA (ae rfl) (fun d4=>(aY rfl))) (aY rfl) (fun(y3:Str)=>(aN (ar uv (aq y3) (ar aZ (ar ig (aq a__law_cell_here) (ae rfl)) (fo l6 (aq y3)))) (fun _=>rfl))))))))
noncomputable def eY (a__law_cell_here:Int):Option (Str):=
 tF0 ((T.lst (T.cons (some ("0" :Str)) (T.cons (some ("1000000" :Str)) (T.cons (some ("1000001" :Str)) (T.cons (some ("00" :Str)) (T.cons (some ("01" :Str)) (T.cons (some ("99" :Str)) (T.cons (some ("100" :Str)) (T.cons (some ("1000000000000" :Str)) (T.cons (some ("-" :Str)) (T.cons (some ("" :Str)) (T.cons (some ("O" :Str)) (T.cons (some ("AB" :Str)) (T.cons (some ("BA" :Str)) (T.cons (some ("ABO" :Str)) (T.cons (some ("o" :Str)) (some []))))))))))))))))).bind fun d1=>(b2 T.qL (some d1) (T.lst (T.cons (some ("ba" :Str)) (T.cons (some ("aa" :Str)) (T.cons (some ("az" :Str)) (T.cons (some ("za" :Str)) (T.cons (some ("abcdefghijklmnopqrstuvwxyz" :Str)) (T.cons (some ("a-" :Str)) (T.cons (some ("--" :Str)) (T.cons (some (">" :Str)) (T.cons (some (":" :Str)) (T.cons (some ("0:" :Str)) (T.cons (some ("fox" :Str)) (T.cons (some ("abcdefghi" :Str)) (some []))))))))))))))).bind fun d2=>bR (b2 T.atL (some d2) (b2 T.bu (some a__law_cell_here) (b1 T.lC (some d2)))) (fun r=>⟨r⟩))
theorem sZ (a__law_cell_here:Int):Fo0 (cX [en a__law_cell_here]) (eY a__law_cell_here):=by
 unfold eY
 refine fo0 (m:=eU (en a__law_cell_here)) ?_
 unfold eU
 exact (aA (f9 (aD (ae rfl) (aD (ae rfl) (aD (ae rfl) (aD (ae rfl) (aD (ae rfl) (aD (ae rfl) (aD (ae rfl) (aD (ae rfl) (aD (ae rfl) (aD (ae rfl) (aD (ae rfl) (aD (ae rfl) (aD (ae rfl) (aD (ae rfl) (aD (ae rfl) f7)))))))))))))))) (fun d1=>(aA (ar tw (aq d1) (f9 (aD (ae rfl) (aD (ae rfl) (aD (ae rfl) (aD (ae rfl) (aD (ae rfl) (aD (ae rfl) (aD (ae rfl) (aD (ae rfl) (aD (ae rfl) (aD (ae rfl) (aD (ae rfl) (aD (ae rfl) f7)))))))))))))) (fun d2=>(aN (ar bq (aq d2) (ar aZ (aq a__law_cell_here) (fo l5 (aq d2)))) (fun _=>rfl))))))
noncomputable def hO (a__law_text:Str) (a__law_cell_here:Int) (a__law_other:Int):Option (Str):=
 tF0 ((b2 T.bu (some a__law_cell_here) (some (9:Int))).bind fun d1=>(b2 T.bu (b2 T.gq (some a__law_cell_here) (some (9:Int))) (b2 T.dA (b1 T.lQ (some a__law_text)) (some (1:Int)))).bind fun d2=>(b2 T.split (some a__law_text) (some (" " :Str))).bind fun d3=>(b2 T.bu (b2 T.gq (some a__law_cell_here) (some (9:Int))) (b1 T.lC (some d3))).bind fun d4=>(b2 T.bu (some a__law_other) (b1 T.lC (some d3))).bind fun d5=>cE (b2 T.eqA (some d1) (some (0:Int))) (bR (b2 T.fK (b2 T.fK (oY T.cutS (some a__law_text) (some none) (b1 T.toI (some d2))) (b1 iK (some a__law_other))) (oY T.cutS (some a__law_text) (b1 T.toI (some d2)) (some none))) (fun r=>⟨r⟩)) (some (.nx ())) fun(y6:Unit)=>cE (b2 T.eqA (some d1) (some (1:Int))) (bR (b2 T.fK (oY T.cutS (some a__law_text) (some none) (b1 T.toI (some d2))) (oY T.cutS (some a__law_text) (b1 T.toI (b2 T.dA (some d2) (some (1:Int)))) (some none))) (fun r=>⟨r⟩)) (some (.nx ())) fun(y7:Unit)=>cE (b2 T.eqA (some d1) (some (2:Int))) (bR (b2 T.fK (b2 T.fK (oY T.cutS (some a__law_text) (some none) (b1 T.toI (some d2))) (b1 iK (some a__law_other))) (oY T.cutS (some a__law_text) (b1 T.toI (b2 T.dA (some d2) (some (1:Int)))) (some none))) (fun r=>⟨r⟩)) (some (.nx ())) fun(y8:Unit)=>cE (b2 T.eqA (some d1) (some (3:Int))) ((b2 T.atL (some d3) (some d4)).bind fun d10=>(T.Ah d3 (b2 T.atL (some d3) (some d5)) (some plR) (some d4)).bind fun d11=>(T.Ah d11 (some d10) (some plR) (some d5)).bind fun d12=>some (.nx d12)) (some (.nx d3)) fun(y9:(List Str))=>cE (b2 T.eqA (some d1) (some (4:Int))) ((b2 T.qL (oY T.dO (some y9) (some none) (b1 T.toI (some d4))) (oY T.dO (some y9) (b1 T.toI (b2 T.dA (some d4) (some (1:Int)))) (some none))).bind fun d14=>some (.nx d14)) (some (.nx y9)) fun(y13:(List Str))=>cE (b2 T.eqA (some d1) (some (5:Int))) ((b2 T.qL (b2 T.qL (oY T.dO (some y13) (some none) (b1 T.toI (some d4))) (T.lst (T.cons (b2 T.atL (some y13) (some d5)) (some [])))) (oY T.dO (some y13) (b1 T.toI (some d4)) (some none))).bind fun d16=>some (.nx d16)) (some (.nx y13)) fun(y15:(List Str))=>cE (b2 T.eqA (some d1) (some (6:Int))) ((T.Ah y15 (b2 T.fK (b1 eY (some a__law_other)) (b2 T.wN (some (":" :Str)) (b1 T.z9 (sT (b2 T.eqA (some d4) (some (2:Int))) (b2 T.eqA (b2 T.bu (b2 T.gq (some a__law_other) (some (40:Int))) (some (2:Int))) (some (0:Int))))))) (some plR) (some d4)).bind fun d18=>some (.nx d18)) (some (.nx y15)) fun(y17:(List Str))=>cE (b2 T.eqA (some d1) (some (7:Int))) (bR (b2 T.atL (T.lst (T.cons (oY T.cutS (some a__law_text) (some none) (b1 T.toI (some d2))) (T.cons (oY T.cutS (some a__law_text) (b1 T.toI (some d2)) (some none)) (some [])))) (b2 T.bu (some a__law_other) (some (2:Int)))) (fun r=>⟨r⟩)) (some (.nx ())) fun(y19:Unit)=>bR (b2 T.join (some (" " :Str)) (some y17)) (fun r=>⟨r⟩))
theorem vD (a__law_text:Str) (a__law_cell_here:Int) (a__law_other:Int):Fo0 (dI [en a__law_text,en a__law_cell_here,en a__law_other]) (hO a__law_text a__law_cell_here a__law_other):=by
 unfold hO
 refine fo0 (m:=gJ (en a__law_text) (en a__law_cell_here) (en a__law_other)) ?_
 unfold gJ
 exact (aA (ar aZ (aq a__law_cell_here) (ae rfl)) (fun d1=>(aA (ar aZ (ar ig (aq a__law_cell_here) (ae rfl)) (ar de (fo l6 (aq a__law_text)) (ae rfl))) (fun d2=>(aA (ar qW (aq a__law_text) (ae rfl)) (fun d3=>(aA (ar aZ (ar ig (aq a__law_cell_here) (ae rfl)) (fo l5 (aq d3))) (fun d4=>(aA (ar aZ (aq a__law_other) (fo l5 (aq d3))) (fun d5=>(bg (ar du (aq d1) (ae rfl)) (aN (ar iS (ar iS (iz w9 (aq a__law_text) l7 (eQ gb (aq d2))) (cm sQ (aq a__law_other))) (iz w9 (aq a__law_text) (eQ gb (aq d2)) l7)) (fun _=>rfl)) (aY rfl) (fun(y6:Unit)=>(bg (ar du (aq d1) (ae rfl)) (aN (ar iS (iz w9 (aq a__law_text) l7 (eQ gb (aq d2))) (iz w9 (aq a__law_text) (eQ gb (ar de (aq d2) (ae rfl))) l7)) (fun _=>rfl)) (aY rfl) (fun(y7:Unit)=>(bg (ar du (aq d1) (ae rfl)) (aN (ar iS (ar iS (iz w9 (aq a__law_text) l7 (eQ gb (aq d2))) (cm sQ (aq a__law_other))) (iz w9 (aq a__law_text) (eQ gb (ar de (aq d2) (ae rfl))) l7)) (fun _=>rfl)) (aY rfl) (fun(y8:Unit)=>(bg (ar du (aq d1) (ae rfl)) (aA (bL (ar bq (aq d3) (aq d4))) (fun d10=>(aA (tA (nO (.ls .fz) _) (bL (ar bq (aq d3) (aq d5))) (aq d4)) (fun d11=>(aA (tA (nO (.ls .fz) _) (aq d10) (aq d5)) (fun d12=>(aY rfl))))))) (aY rfl) (fun(y9:(List Str))=>(bg (ar du (aq d1) (ae rfl)) (aA (ar tw (iz Bp (aq y9) l7 (eQ gb (aq d4))) (iz Bp (aq y9) (eQ gb (ar de (aq d4) (ae rfl))) l7)) (fun d14=>(aY rfl))) (aY rfl) (fun(y13:(List Str))=>(bg (ar du (aq d1) (ae rfl)) (aA (ar tw (ar tw (iz Bp (aq y13) l7 (eQ gb (aq d4))) (f9 (aD (bL (ar bq (aq y13) (aq d5))) f7))) (iz Bp (aq y13) (eQ gb (aq d4)) l7)) (fun d16=>(aY rfl))) (aY rfl) (fun(y15:(List Str))=>(bg (ar du (aq d1) (ae rfl)) (aA (tA (nO (.ls .fz) _) (ar iS (cm sZ (aq a__law_other)) (ar Gp (ae rfl) (fo Gq (wX (ar (qf du) (aq d4) (ae rfl)) (ar (qf du) (ar aZ (ar ig (aq a__law_other) (ae rfl)) (ae rfl)) (ae rfl)))))) (aq d4)) (fun d18=>(aY rfl))) (aY rfl) (fun(y17:(List Str))=>(bg (ar du (aq d1) (ae rfl)) (aN (ar bq (f9 (aD (iz w9 (aq a__law_text) l7 (eQ gb (aq d2))) (aD (iz w9 (aq a__law_text) (eQ gb (aq d2)) l7) f7))) (ar aZ (aq a__law_other) (ae rfl))) (fun _=>rfl)) (aY rfl) (fun(y19:Unit)=>(aN (ar qV (ae rfl) (aq y17)) (fun _=>rfl))))))))))))))))))))))))))))
noncomputable def eZ (y1:Unit) (x3:Str):Option (TO (Unit) (Unit) (R0 (Option Int))):=
 cE (eP (qi T.leS T.leS (some ("0" :Str)) (some x3) (some ("9" :Str)))) (bR (some (none:(Option Int))) (fun r=>⟨r⟩)) (some (.nx ())) fun(y4:Unit)=>some (.nx ())
theorem s7 (y1:Unit) (x3:Str):TyS (i7 (es y1) (es x3)) (eZ y1 x3):=by
 unfold i7 eZ
 exact (bg (ie (nR qg qg (ae rfl) (aq x3) (ae rfl))) (aN iT (fun _=>rfl)) (aY rfl) (fun(y4:Unit)=>(aY rfl)))
noncomputable def cV (a__law_text:Str) (a__law_low:Int) (a__law_high:Int):Option ((Option Int)):=
 tF0 (qU (b1 T.oW (some a__law_text)) (eZ) () fun(y1:Unit)=>cE (orB (eP (qi T.leI T.leI (some (1:Int)) (b1 T.lQ (some a__law_text)) (some (12:Int)))) (eP (qi T.leI T.leI (some a__law_low) (b1 T.qR (some a__law_text)) (some a__law_high)))) (bR (some (none:(Option Int))) (fun r=>⟨r⟩)) (some (.nx ())) fun(y5:Unit)=>bR ((b1 T.qR (some a__law_text)).map some) (fun r=>⟨r⟩))
theorem mM (a__law_text:Str) (a__law_low:Int) (a__law_high:Int):Fo0 (bB [en a__law_text,en a__law_low,en a__law_high]) (cV a__law_text a__law_low a__law_high):=by
 unfold cV
 refine fo0 (m:=gT (en a__law_text) (en a__law_low) (en a__law_high)) ?_
 unfold gT
 exact (nL (eQ pD (aq a__law_text)) (fun b x=>s7 b x) rfl (fun(y1:Unit)=>(bg (kL (ie (nR kM kM (ae rfl) (fo l6 (aq a__law_text)) (ae rfl))) (ie (nR kM kM (aq a__law_low) (fo xq (aq a__law_text)) (aq a__law_high)))) (aN iT (fun _=>rfl)) (aY rfl) (fun(y5:Unit)=>(aN (tD (fo xq (aq a__law_text))) (fun _=>rfl))))))
noncomputable def fj (a__law_text:Str):Option (Bool):=
 tF0 ((tlc (b1 T.oW (some a__law_text)) (fun c1:Str=>qi T.leS T.leS (some ("a" :Str)) (some c1) (some ("z" :Str))) (fun c1:Str=>some c1)).bind fun d2=>bR (sT (b2 T.eqA (b1 T.lC (some d2)) (b1 T.lQ (some a__law_text))) (b2 T.eqD (some d2) (b1 T.Ab (some d2)))) (fun r=>⟨r⟩))
theorem vE (a__law_text:Str):Fo0 (dJ [en a__law_text]) (fj a__law_text):=by
 unfold fj
 refine fo0 (m:=gU (en a__law_text)) ?_
 unfold gU
 exact (aA (Br (eQ pD (aq a__law_text)) (fun c1=>(nR qg qg (ae rfl) (aq c1) (ae rfl))) (fun c1=>(aq c1))) (fun d2=>(aN (wX (ar (qf du) (fo l5 (aq d2)) (fo l6 (aq a__law_text))) (ar (qf (I9 (Nat.le_of_ble_eq_true rfl))) (aq d2) (eQ Gu (aq d2)))) (fun _=>rfl))))
noncomputable def dN (a__law_words:(List Str)):Option ((Option (T3 Str Int Str))):=
 tF0 (cE (orB (b2 T.neA (b1 T.lC (some a__law_words)) (some (3:Int))) (b2 (T.inA true) (b2 T.atL (some a__law_words) (some (0:Int))) (T.lst (T.cons (some ("O" :Str)) (T.cons (some ("A" :Str)) (T.cons (some ("B" :Str)) (T.cons (some ("AB" :Str)) (some [])))))))) (bR (some (none:(Option (T3 Str Int Str)))) (fun r=>⟨r⟩)) (some (.nx ())) fun(y1:Unit)=>(b2 T.atL (some a__law_words) (some (2:Int))).bind fun d2=>cE (b2 T.eqA (some d2) (some ("-" :Str))) ((some ("" :Str)).bind fun d4=>some (.nx d4)) (some (.nx d2)) fun(y3:Str)=>(b3 cV (b2 T.atL (some a__law_words) (some (1:Int))) (some (1:Int)) (some (99:Int))).bind fun d5=>cE (orB (b2 T.isN (some d5) (some ())) (eP (b1 fj (some y3)))) (bR (some (none:(Option (T3 Str Int Str)))) (fun r=>⟨r⟩)) (some (.nx ())) fun(y6:Unit)=>bR ((b3 T.tri (b2 T.atL (some a__law_words) (some (0:Int))) ((some d5).bind id) (some y3)).map some) (fun r=>⟨r⟩))
theorem pb (a__law_words:(List Str)):Fo0 (cB [en a__law_words]) (dN a__law_words):=by
 unfold dN
 refine fo0 (m:=fE (en a__law_words)) ?_
 unfold fE
 exact (bg (kL (ar uu (fo l5 (aq a__law_words)) (ae rfl)) (ar (I4 true) (ar bq (aq a__law_words) (ae rfl)) (f9 (aD (ae rfl) (aD (ae rfl) (aD (ae rfl) (aD (ae rfl) f7))))))) (aN iT (fun _=>rfl)) (aY rfl) (fun(y1:Unit)=>(aA (bL (ar bq (aq a__law_words) (ae rfl))) (fun d2=>(bg (ar du (aq d2) (ae rfl)) (aA (ae rfl) (fun d4=>(aY rfl))) (aY rfl) (fun(y3:Str)=>(aA (tu mM (ar bq (aq a__law_words) (ae rfl)) (ae rfl) (ae rfl)) (fun d5=>(bg (kL (ar qh (aq d5) (ae rfl)) (ie (yR (cm vE (aq y3))))) (aN iT (fun _=>rfl)) (aY rfl) (fun(y6:Unit)=>(aN (tD (nN (bL (ar bq (aq a__law_words) (ae rfl))) (uy (aq d5)) (aq y3))) (fun _=>rfl))))))))))))
noncomputable def hV (y3:Unit) (x5:Str):Option (TO (Unit) (Unit) (R0 (Option (T5 Str Int Int (T3 Str Int Str) (T3 Str Int Str))))):=
 cE (eP (qi T.leS T.leS (some ("a" :Str)) (some x5) (some ("z" :Str)))) (bR (some (none:(Option (T5 Str Int Int (T3 Str Int Str) (T3 Str Int Str))))) (fun r=>⟨r⟩)) (some (.nx ())) fun(y6:Unit)=>some (.nx ())
theorem vF (y3:Unit) (x5:Str):TyS (k7 (es y3) (es x5)) (hV y3 x5):=by
 unfold k7 hV
 exact (bg (ie (nR qg qg (ae rfl) (aq x5) (ae rfl))) (aN iT (fun _=>rfl)) (aY rfl) (fun(y6:Unit)=>(aY rfl)))
noncomputable def kA (a__law_text:Str):Option ((Option (T5 Str Int Int (T3 Str Int Str) (T3 Str Int Str)))):=
 tF0 ((b2 T.split (some a__law_text) (some (" " :Str))).bind fun d1=>cE (orB (b2 T.neA (b1 T.lC (some d1)) (some (10:Int))) (eP (qi T.leI T.leI (some (1:Int)) (b1 T.lQ (b2 T.atL (some d1) (some (0:Int)))) (some (8:Int))))) (bR (some (none:(Option (T5 Str Int Int (T3 Str Int Str) (T3 Str Int Str))))) (fun r=>⟨r⟩)) (some (.nx ())) fun(y2:Unit)=>qU (b1 T.oW (b2 T.atL (some d1) (some (0:Int)))) (hV) () fun(y3:Unit)=>(T.lst (T.cons (b1 dN (oY T.dO (some d1) (b1 T.toI (some (3:Int))) (b1 T.toI (some (6:Int))))) (T.cons (b1 dN (oY T.dO (some d1) (b1 T.toI (some (7:Int))) (some none))) (some [])))).bind fun d7=>(b3 cV (b2 T.atL (some d1) (some (1:Int))) (some (1:Int)) (b2 T.kQ (some (10:Int)) (some (6:Int)))).bind fun d8=>(b3 cV (oY T.cutS (b2 T.atL (some d1) (some (2:Int))) (some none) (b1 T.toI (b1 T.yx (some (1:Int))))) (some (0:Int)) (b2 T.kQ (some (10:Int)) (some (6:Int)))).bind fun d9=>cE (orB (b2 T.isN (b2 T.atL (some d7) (some (0:Int))) (some ())) (orB (b2 T.isN (b2 T.atL (some d7) (some (1:Int))) (some ())) (orB (b2 T.isN (some d8) (some ())) (b2 T.isN (some d9) (some ()))))) (bR (some (none:(Option (T5 Str Int Int (T3 Str Int Str) (T3 Str Int Str))))) (fun r=>⟨r⟩)) (some (.nx ())) fun(y10:Unit)=>(b5 T.qui (b2 T.atL (some d1) (some (0:Int))) ((some d8).bind id) ((some d9).bind id) ((b2 T.atL (some d7) (some (0:Int))).bind id) ((b2 T.atL (some d7) (some (1:Int))).bind id)).bind fun d11=>cE (b2 T.neA (b1 bP (some d11)) (some a__law_text)) (bR (some (none:(Option (T5 Str Int Int (T3 Str Int Str) (T3 Str Int Str))))) (fun r=>⟨r⟩)) (some (.nx ())) fun(y12:Unit)=>bR ((some d11).map some) (fun r=>⟨r⟩))
theorem zE (a__law_text:Str):Fo0 (fT [en a__law_text]) (kA a__law_text):=by
 unfold kA
 refine fo0 (m:=j7 (en a__law_text)) ?_
 unfold j7
 exact (aA (ar qW (aq a__law_text) (ae rfl)) (fun d1=>(bg (kL (ar uu (fo l5 (aq d1)) (ae rfl)) (ie (nR kM kM (ae rfl) (fo l6 (ar bq (aq d1) (ae rfl))) (ae rfl)))) (aN iT (fun _=>rfl)) (aY rfl) (fun(y2:Unit)=>(nL (eQ pD (ar bq (aq d1) (ae rfl))) (fun b x=>vF b x) rfl (fun(y3:Unit)=>(aA (f9 (aD (cm pb (iz Kj (aq d1) (eQ gb (ae rfl)) (eQ gb (ae rfl)))) (aD (cm pb (iz Kj (aq d1) (eQ gb (ae rfl)) l7)) f7))) (fun d7=>(aA (tu mM (ar bq (aq d1) (ae rfl)) (ae rfl) (ar lY (ae rfl) (ae rfl))) (fun d8=>(aA (tu mM (iz w9 (ar bq (aq d1) (ae rfl)) l7 (eQ gb (eQ Gh (ae rfl)))) (ae rfl) (ar lY (ae rfl) (ae rfl))) (fun d9=>(bg (kL (ar qh (ar bq (aq d7) (ae rfl)) (ae rfl)) (kL (ar qh (ar bq (aq d7) (ae rfl)) (ae rfl)) (kL (ar qh (aq d8) (ae rfl)) (ar qh (aq d9) (ae rfl))))) (aN iT (fun _=>rfl)) (aY rfl) (fun(y10:Unit)=>(aA (lZ (ar bq (aq d1) (ae rfl)) (uy (aq d8)) (uy (aq d9)) (uy (ar bq (aq d7) (ae rfl))) (uy (ar bq (aq d7) (ae rfl)))) (fun d11=>(bg (ar uu (cm oh (aq d11)) (aq a__law_text)) (aN iT (fun _=>rfl)) (aY rfl) (fun(y12:Unit)=>(aN (tD (aq d11)) (fun _=>rfl))))))))))))))))))))
noncomputable def kB (a__law_couple_here:(T5 Str Int Int (T3 Str Int Str) (T3 Str Int Str))) (a__law_cell_here:Int):Option ((T5 Str Int Int (T3 Str Int Str) (T3 Str Int Str))):=
 tF0 ((b1 T.un5 (some a__law_couple_here)).bind fun d1=>cE (b2 T.eqA (b2 T.bu (some a__law_cell_here) (some (3:Int))) (some (1:Int))) ((b2 T.atL (T.lst (T.cons (some (1:Int)) (T.cons (b2 T.kQ (some (10:Int)) (some (6:Int))) (some [])))) (b2 T.bu (b2 T.gq (some a__law_cell_here) (some (3:Int))) (some (2:Int)))).bind fun d3=>(b2 T.atL (T.lst (T.cons (some (0:Int)) (T.cons (b2 T.kQ (some (10:Int)) (some (6:Int))) (some [])))) (b2 T.bu (b2 T.gq (some a__law_cell_here) (some (6:Int))) (some (2:Int)))).bind fun d4=>(b3 T.tri ((some d1.2.2.2.1).map T3.a) (b2 T.atL (T.lst (T.cons (some (1:Int)) (T.cons (some (99:Int)) (some [])))) (b2 T.bu (b2 T.gq (some a__law_cell_here) (some (12:Int))) (some (2:Int)))) ((some d1.2.2.2.1).map T3.c)).bind fun d5=>some (.nx (d3,d4,d5))) (some (.nx (d1.2.1,d1.2.2.1,d1.2.2.2.1))) fun(y2:Int×Int×(T3 Str Int Str))=>bR (b5 T.qui (some d1.1) (some y2.1) (some y2.2.1) (some y2.2.2) (some d1.2.2.2.2)) (fun r=>⟨r⟩))
theorem zF (a__law_couple_here:(T5 Str Int Int (T3 Str Int Str) (T3 Str Int Str))) (a__law_cell_here:Int):Fo0 (fU [en a__law_couple_here,en a__law_cell_here]) (kB a__law_couple_here a__law_cell_here):=by
 unfold kB
 refine fo0 (m:=ke (en a__law_couple_here) (en a__law_cell_here)) ?_
 unfold ke
 exact (aA (D7 (aq a__law_couple_here)) (fun d1=>(bg (ar du (ar aZ (aq a__law_cell_here) (ae rfl)) (ae rfl)) (aA (ar bq (f9 (aD (ae rfl) (aD (ar lY (ae rfl) (ae rfl)) f7))) (ar aZ (ar ig (aq a__law_cell_here) (ae rfl)) (ae rfl))) (fun d3=>(aA (ar bq (f9 (aD (ae rfl) (aD (ar lY (ae rfl) (ae rfl)) f7))) (ar aZ (ar ig (aq a__law_cell_here) (ae rfl)) (ae rfl))) (fun d4=>(aA (nN (lD (aq d1.2.2.2.1) (fun _=>rfl)) (ar bq (f9 (aD (ae rfl) (aD (ae rfl) f7))) (ar aZ (ar ig (aq a__law_cell_here) (ae rfl)) (ae rfl))) (lD (aq d1.2.2.2.1) (fun _=>rfl))) (fun d5=>(aY rfl))))))) (aY rfl) (fun(y2:Int×Int×(T3 Str Int Str))=>(aN (lZ (aq d1.1) (aq y2.1) (aq y2.2.1) (aq y2.2.2) (aq d1.2.2.2.2)) (fun _=>rfl))))))
noncomputable def iL (a__law_text:Str):Option (((Option (T5 Str Int Int (T3 Str Int Str) (T3 Str Int Str)))×(Option (T4 Str Bool Bool Bool)))):=
 tF0 ((some (none:(Option (T5 Str Int Int (T3 Str Int Str) (T3 Str Int Str))))).bind fun d1=>(some (none:(Option (T4 Str Bool Bool Bool)))).bind fun d2=>Je (tsB (b1 fJ (some a__law_text)) fun r_=>(some r_,d2)) "NoRow" (fun x_=>b4 T.qua (yU "NoRow" "row" x_) (T.isX "NoRow" true x_) (T.isX "NoRow" true x_) (T.isX "NoRow" false x_)) (fun d_=>(d1,some d_)) fun(y3:(Option (T5 Str Int Int (T3 Str Int Str) (T3 Str Int Str)))×(Option (T4 Str Bool Bool Bool)))=>bR (b2 T.pair (some y3.1) (some y3.2)) (fun r=>⟨r⟩))
theorem sR (a__law_text:Str):Fo0 (eL [en a__law_text]) (iL a__law_text):=by
 unfold iL
 refine fo0 (m:=kj (en a__law_text)) ?_
 unfold kj
 exact (aA iT (fun d1=>(aA iT (fun d2=>(Gx (Gy (Ea u6 (aq a__law_text)) (fun _=>rfl)) (fun x_=>(w8 Gv Ar Ar Ar)) (fun _=>rfl) (fun(y3:(Option (T5 Str Int Int (T3 Str Int Str) (T3 Str Int Str)))×(Option (T4 Str Bool Bool Bool)))=>(aN (Bo (aq y3.1) (aq y3.2)) (fun _=>rfl))))))))
noncomputable def cC (k__law_name_here:Str) (k__law_need:Int) (k__law_rank:Int) (k__law_giver:(T3 Str Int Str)) (k__law_taker:(T3 Str Int Str)) (y4:(List (T5 Str Int Int (T3 Str Int Str) (T3 Str Int Str)))) (x6:Int):Option (TO ((List (T5 Str Int Int (T3 Str Int Str) (T3 Str Int Str)))) ((List (T5 Str Int Int (T3 Str Int Str) (T3 Str Int Str)))) (R0 (List Str))):=
 (T.at1 y4 (some plR) (b5 T.qui (some k__law_name_here) (some k__law_need) (some k__law_rank) (b3 T.tri ((some k__law_giver).map T3.a) (some x6) ((some k__law_giver).map T3.c)) (some k__law_taker)) T.app).bind fun d7=>(T.at1 d7.2 (some plR) (b5 T.qui (some k__law_name_here) (some k__law_need) (some k__law_rank) (some k__law_giver) (b3 T.tri ((some k__law_taker).map T3.a) (some x6) ((some k__law_taker).map T3.c))) T.app).bind fun d8=>some (.nx d8.2)
theorem s8 (k__law_name_here:Str) (k__law_need:Int) (k__law_rank:Int) (k__law_giver:(T3 Str Int Str)) (k__law_taker:(T3 Str Int Str)) (y4:(List (T5 Str Int Int (T3 Str Int Str) (T3 Str Int Str)))) (x6:Int):TyS (i9 (en k__law_name_here) (en k__law_need) (en k__law_rank) (en k__law_giver) (en k__law_taker) (es y4) (es x6)) (cC k__law_name_here k__law_need k__law_rank k__law_giver k__law_taker y4 x6):=by
 unfold i9 cC
 exact (aA (Ai Aj (nO (.ls .fz) _) (lZ (bL (aq k__law_name_here)) (bL (aq k__law_need)) (bL (aq k__law_rank)) (nN (bL (lD (aq k__law_giver) (fun _=>rfl))) (aq x6) (bL (lD (aq k__law_giver) (fun _=>rfl)))) (bL (aq k__law_taker)))) (fun d7=>(aA (Ai Aj (nO (.ls .fz) _) (lZ (bL (aq k__law_name_here)) (bL (aq k__law_need)) (bL (aq k__law_rank)) (bL (aq k__law_giver)) (nN (bL (lD (aq k__law_taker) (fun _=>rfl))) (aq x6) (bL (lD (aq k__law_taker) (fun _=>rfl)))))) (fun d8=>(aY rfl)))))
noncomputable def hZ (a__law_couple_here:(T5 Str Int Int (T3 Str Int Str) (T3 Str Int Str))):Option ((List Str)):=
 tF0 ((b1 T.un5 (some a__law_couple_here)).bind fun d1=>(T.lst (T.cons (b5 T.qui (some d1.1) (some (0:Int)) (some d1.2.2.1) (some d1.2.2.2.1) (some d1.2.2.2.2)) (T.cons (b5 T.qui (some d1.1) (b2 T.dA (b2 T.kQ (some (10:Int)) (some (6:Int))) (some (1:Int))) (some d1.2.2.1) (some d1.2.2.2.1) (some d1.2.2.2.2)) (some [])))).bind fun d2=>(T.at1 d2 (some plR) (b5 T.qui (some d1.1) (some d1.2.1) (b2 T.dA (b2 T.kQ (some (10:Int)) (some (6:Int))) (some (1:Int))) (some d1.2.2.2.1) (some d1.2.2.2.2)) T.app).bind fun d3=>qU (T.lst (T.cons (some (0:Int)) (T.cons (some (100:Int)) (some [])))) (cC d1.1 d1.2.1 d1.2.2.1 d1.2.2.2.1 d1.2.2.2.2) d3.2 fun(y4:(List (T5 Str Int Int (T3 Str Int Str) (T3 Str Int Str))))=>bR (tlc (some y4) (fun c9:(T5 Str Int Int (T3 Str Int Str) (T3 Str Int Str))=>some true) (fun c9:(T5 Str Int Int (T3 Str Int Str) (T3 Str Int Str))=>b1 bP (some c9))) (fun r=>⟨r⟩))
theorem vG (a__law_couple_here:(T5 Str Int Int (T3 Str Int Str) (T3 Str Int Str))):Fo0 (dM [en a__law_couple_here]) (hZ a__law_couple_here):=by
 unfold hZ
 refine fo0 (m:=gY (en a__law_couple_here)) ?_
 unfold gY
 exact (aA (D7 (aq a__law_couple_here)) (fun d1=>(aA (f9 (aD (lZ (bL (aq d1.1)) (ae rfl) (bL (aq d1.2.2.1)) (bL (aq d1.2.2.2.1)) (bL (aq d1.2.2.2.2))) (aD (lZ (bL (aq d1.1)) (ar de (ar lY (ae rfl) (ae rfl)) (ae rfl)) (bL (aq d1.2.2.1)) (bL (aq d1.2.2.2.1)) (bL (aq d1.2.2.2.2))) f7))) (fun d2=>(aA (Ai Aj (nO (.ls .fz) _) (lZ (bL (aq d1.1)) (bL (aq d1.2.1)) (ar de (ar lY (ae rfl) (ae rfl)) (ae rfl)) (bL (aq d1.2.2.2.1)) (bL (aq d1.2.2.2.2)))) (fun d3=>(nL (xg (f9 (aD (ae rfl) (aD (ae rfl) f7)))) (fun b x=>s8 d1.1 d1.2.1 d1.2.2.1 d1.2.2.2.1 d1.2.2.2.2 b x) rfl (fun(y4:(List (T5 Str Int Int (T3 Str Int Str) (T3 Str Int Str))))=>(aN (Br (xg (aq y4)) (fun c9=>(ae rfl)) (fun c9=>(cm oh (aq c9)))) (fun _=>rfl))))))))))
noncomputable def oj (y2:Unit) (x4:Str):Option (TO (Unit) (Unit) (R0 Bool)):=
 cE (b2 T.GF (b1 iL (some x4)) (b2 T.pair (some (none:(Option (T5 Str Int Int (T3 Str Int Str) (T3 Str Int Str))))) ((b4 T.qua (some x4) (some true) (some true) (some false)).map some))) (bR (some false) (fun r=>⟨r⟩)) (some (.nx ())) fun(y5:Unit)=>some (.nx ())
theorem GW (y2:Unit) (x4:Str):TyS (x9 (es y2) (es x4)) (oj y2 x4):=by
 unfold x9 oj
 exact (bg (ar (GG (Nat.le_of_ble_eq_true rfl)) (cm sR (aq x4)) (Bo iT (tD (w8 (aq x4) (ae rfl) (ae rfl) (ae rfl))))) (aN (ae rfl) (fun _=>rfl)) (aY rfl) (fun(y5:Unit)=>(aY rfl)))
noncomputable def BK (a__law_script:Scr):Option (Bool):=
 tF0 ((b2 kB (b1 hJ (b2 bU (some a__law_script) (some (0:Int)))) (b2 bU (some a__law_script) (some (3:Int)))).bind fun d1=>qU (b1 hZ (some d1)) (oj) () fun(y2:Unit)=>(b3 hO (b1 bP (some d1)) (b2 bU (some a__law_script) (some (1:Int))) (b2 bU (some a__law_script) (some (2:Int)))).bind fun d6=>(b1 kA (some d6)).bind fun d7=>(b1 iL (some d6)).bind fun d8=>cE (b2 T.isN (some d7) (some ())) (bR (b2 T.GH (some d8.2) (b4 T.qua (some d6) (some true) (some true) (some false))) (fun r=>⟨r⟩)) (some (.nx ())) fun(y9:Unit)=>bR (sT (b2 T.isN (some d8.2) (some ())) (b2 T.Ci (some d8.1) (some d7))) (fun r=>⟨r⟩))
theorem KS (a__law_script:Scr):Fo0 (AN [en a__law_script]) (BK a__law_script):=by
 unfold BK
 refine fo0 (m:=zA (en a__law_script)) ?_
 unfold zA
 exact (aA (dB zF (cm vC (dB mh (aq a__law_script) (ae rfl))) (dB mh (aq a__law_script) (ae rfl))) (fun d1=>(nL (xg (cm vG (aq d1))) (fun b x=>GW b x) rfl (fun(y2:Unit)=>(aA (tu vD (cm oh (aq d1)) (dB mh (aq a__law_script) (ae rfl)) (dB mh (aq a__law_script) (ae rfl))) (fun d6=>(aA (cm zE (aq d6)) (fun d7=>(aA (Kk (cm sR (aq d6))) (fun d8=>(bg (ar qh (aq d7) (ae rfl)) (aN (ar (qf (GI (Nat.le_of_ble_eq_true rfl))) (aq d8.2) (w8 (aq d6) (ae rfl) (ae rfl) (ae rfl))) (fun _=>rfl)) (aY rfl) (fun(y9:Unit)=>(aN (wX (ar (qf qh) (aq d8.2) (ae rfl)) (ar (qf (Bv (Nat.le_of_ble_eq_true rfl))) (aq d8.1) (aq d7))) (fun _=>rfl))))))))))))))
end Sw.k03
namespace Sw.k03
open PySem PySem.Spec PyProof.Rows L2 Sw
theorem tO (sc:Scr) (k:Int) (h:0<=k):bU sc k=some (sc.l.getD k.toNat 0):=by
 unfold bU
 by_cases hk:k<sc.l.length
 ·have h2:k.toNat<sc.l.length:=by omega
  simp[hk,T.GL h hk,List.getD_eq_getElem?_getD,List.getElem?_eq_getElem h2]
 ·have:sc.l.getD k.toNat 0=0:=by
   rw[List.getD_eq_getElem?_getD,List.getElem?_eq_none (by omega)];rfl
  rw[this]
  simp[hk]
def lL (c k:Int):Int:=
 let n:=(c%2147483629+7919*k+12345)%2147483629
 let m:=(n*n+104729*k)%2147483629
 (m+k)*(m+k)%2147483587
theorem zG (c k:Int):0<=lL c k:=Int.emod_nonneg _ (by decide)
theorem om (c k:Int) (h1: -1000000<=k) (h2:k<=1000000):bO c k=some (lL c k):=by
 unfold bO lL
 simp only[av,T.ik,Option.bind_some,T.bw (b:=2147483629) (by decide),T.um (a:=7919) (by decide) (by decide)]
 generalize hn:(c%2147483629+7919*k+12345)%2147483629=n
 have n0:0<=n:=by rw[<-hn];exact Int.emod_nonneg _ (by decide)
 have n1:n<2147483629:=by rw[<-hn];exact Int.emod_lt_of_pos _ (by decide)
 rw[T.um (a:=n) (by omega) (by omega)]
 simp only[av,T.ik,Option.bind_some,T.bw (b:=2147483629) (by decide),T.um (a:=104729) (by decide) (by decide)]
 generalize hm:(n*n+104729*k)%2147483629=m
 have m0:0<=m:=by rw[<-hm];exact Int.emod_nonneg _ (by decide)
 have m1:m<2147483629:=by rw[<-hm];exact Int.emod_lt_of_pos _ (by decide)
 rw[T.um (a:=m+k) (by omega) (by omega)]
 simp only[av,T.ik,Option.bind_some,T.bw (b:=2147483587) (by decide),rP,xA]
def Let (x:Str):Prop:= ∀c∈TL.tl x,97<=c/\c<123
structure jc (s:T3 Str Int Str):Prop where
 grp:s.a∈[("O" :Str),"A","B","AB"]
 lo:1<=s.b
 hi:s.b<=99
 rise:(TL.tl s.c).Pairwise (· < ·)
 low:Let s.c
 len:(TL.tl s.c).length<=26
structure qv (c:T5 Str Int Int (T3 Str Int Str) (T3 Str Int Str)):Prop where
 name:Let c.a
 n1:1<=(TL.tl c.a).length
 n8:(TL.tl c.a).length<=8
 need1:1<=c.b
 need:c.b<=1000000
 rank0:0<=c.c
 rank:c.c<=1000000
 d:jc c.d
 e:jc c.e
structure pX (s:T3 Str Int Str):Prop where
 grp:s.a∈[("O" :Str),"A","B","AB"]
 lo:0<=s.b
 hi:s.b<=100
 rise:(TL.tl s.c).Pairwise (· < ·)
 low:Let s.c
 len:(TL.tl s.c).length<=26
structure CoW (c:T5 Str Int Int (T3 Str Int Str) (T3 Str Int Str)):Prop where
 name:Let c.a
 n1:1<=(TL.tl c.a).length
 n8:(TL.tl c.a).length<=8
 need0:0<=c.b
 need:c.b<=1000001
 rank0:0<=c.c
 rank:c.c<=1000001
 d:pX c.d
 e:pX c.e
theorem jc.w {s:T3 Str Int Str} (h:jc s):pX s:=⟨h.grp,by have:=h.lo;omega,by have:=h.hi;omega,h.rise,h.low,h.len⟩
theorem qv.w {c:T5 Str Int Int (T3 Str Int Str) (T3 Str Int Str)} (h:qv c):CoW c:=⟨h.name,h.n1,h.n8,by have:=h.need1;omega,by have:=h.need;omega,h.rank0,by have:=h.rank;omega,h.d.w,h.e.w⟩
def num (i:Int):Str:=toString i
theorem rX {i:Int} (h:0<=i):TL.tl (num i)=TL.numL i.toNat:=by
 have:=TL.tl_num i.toNat
 rw[Int.toNat_of_nonneg h] at this
 exact this
theorem mq {i:Int} (h:0<=i) (h2:i<=1000001):(TL.tl (num i)).length<=7:=by
 rw[rX h]
 exact TL.numL_len (by decide) (by omega)
theorem rY {i:Int} (h:0<=i) (h2:i<=1000001):i.natAbs.log2<1920:=by
 by_cases z:i.natAbs=0
 ·rw[z];decide
 ·rw[Nat.log2_lt z]
  exact Nat.lt_of_lt_of_le (show i.natAbs<2^20 by omega) (Nat.pow_le_pow_right (by decide) (by decide))
def mk (s:T3 Str Int Str):Str:=if s.c=("" :Str) then "-" else s.c
def shS (s:T3 Str Int Str):Str:=Txt.join " " [s.a,num s.b,mk s]
def hd (c:T5 Str Int Int (T3 Str Int Str) (T3 Str Int Str)):Str:=Txt.join " " [c.a,num c.b,num c.c]
def shC (c:T5 Str Int Int (T3 Str Int Str) (T3 Str Int Str)):Str:=hd c++": " ++(shS c.d++" > " ++shS c.e)
theorem u7:TL.tl (" " :Str)=[32]:=rfl
theorem pf:TL.tl (": " :Str)=[58,32]:=rfl
theorem rA:TL.tl (" > " :Str)=[32,62,32]:=rfl
theorem kE (a b c:Str):TL.tl (Txt.join " " [a,b,c])=TL.tl a++([32]++(TL.tl b++([32]++TL.tl c))):=by
 rw[TL.join_eq,TL.tl_join,u7];rfl
theorem mk_tl (s:T3 Str Int Str):TL.tl (mk s)=if s.c=("" :Str) then [45] else TL.tl s.c:=by
 unfold mk;split <;> rfl
theorem AO {s:T3 Str Int Str} (h:pX s):(TL.tl (mk s)).length<=26:=by
 rw[mk_tl];split
 ·decide
 ·exact h.len
theorem u9 {s:T3 Str Int Str} (h:pX s): ∀c∈TL.tl (mk s),c=45\/(97<=c/\c<123):=fun c hc=>by
 rw[mk_tl] at hc
 split at hc
 ·left;simpa using hc
 ·right;exact h.low c hc
theorem mr {s:T3 Str Int Str} (h:pX s):(TL.tl s.a).length<=2/\ ∀c∈TL.tl s.a,65<=c/\c<91:=by
 have:=h.grp
 simp only[List.mem_cons,List.not_mem_nil,or_false] at this
 rcases this with e|e|e|e <;> (rw[e];decide)
theorem ft {i:Int} (h:0<=i): ∀c∈TL.tl (num i),48<=c/\c<58:=fun c hc=>by
 rw[rX h] at hc
 have:=TL.numL_digits _ c hc
 omega
theorem pG {s:T3 Str Int Str} (h:pX s):(TL.tl (shS s)).length<=40:=by
 unfold shS
 rw[kE]
 have:=AO h
 have:=(mr h).1
 have:=mq (i:=s.b) (h.lo) (by have:=h.hi;omega)
 simp only[List.length_append,List.length_singleton];omega
theorem AQ {c:T5 Str Int Int (T3 Str Int Str) (T3 Str Int Str)} (h:CoW c):(TL.tl (hd c)).length<=30:=by
 unfold hd
 rw[kE]
 have:=h.n8
 have:=mq (i:=c.b) (h.need0) h.need
 have:=mq (i:=c.c) h.rank0 h.rank
 simp only[List.length_append,List.length_singleton];omega
theorem va {a b c:Str} (h:(TL.tl a).length+(TL.tl b).length+(TL.tl c).length<=1000):T.join " " [a,b,c]=some (Txt.join " " [a,b,c]):=by
 unfold T.join
 rw[if_pos]
 simp only[List.map_cons,List.map_nil,List.sum_cons,List.sum_nil,List.length_cons,List.length_nil,TL.len_tl,u7];omega
theorem pY {s:T3 Str Int Str} (h:pX s):cq s=some (shS s):=by
 have hm:=AO h
 have hg:=(mr h).1
 have hn:=mq (i:=s.b) (h.lo) (by have:=h.hi;omega)
 have hl:=h.len
 unfold cq
 simp only[Option.map_some,aL]
 rw[show T.rL s.b=some (num s.b) from if_pos (rY (h.lo) (by have:=h.hi;omega))]
 simp only[T.fN,T.HF,Option.bind_some,av,T.kN,aO]
 rw[T.xv (by decide) (by simp)]
 unfold shS mk
 by_cases z:s.c=("" :Str)
 ·rw[if_pos z,decide_eq_true z,if_pos rfl]
  simp only[Option.bind_some,bj]
  rw[show [s.a,num s.b,s.c].set (2:Int).toNat ("-" :Str)=[s.a,num s.b,"-"] from rfl,va (by show _+_+1<=_;omega)];rfl
 ·rw[if_neg z,decide_eq_false z,if_neg Bool.false_ne_true]
  simp only[Option.bind_some,bj]
  rw[va (by omega)];rfl
theorem tP {a b:Str} (h:(TL.tl a).length+(TL.tl b).length<=1000):T.fK a b=some (a++b):=T.xr (by rw[TL.len_tl,TL.len_tl];exact Nat.le_trans h (Nat.le_trans (by decide) big))
theorem vc {c:T5 Str Int Int (T3 Str Int Str) (T3 Str Int Str)} (h:CoW c):bP c=some (shC c):=by
 have l1:=pG h.d
 have l2:=pG h.e
 have l3:=h.n8
 have l4:=AQ h
 have n1:=mq (i:=c.b) (h.need0) h.need
 have n2:=mq (i:=c.c) h.rank0 h.rank
 unfold bP
 simp only[Option.map_some,aL]
 rw[show T.rL c.b=some (num c.b) from if_pos (rY (h.need0) h.need),show T.rL c.c=some (num c.c) from if_pos (rY h.rank0 h.rank),pY h.d,pY h.e]
 simp only[T.fN,T.HF,av]
 rw[va (by omega)]
 show tF0 ((some (hd c)).bind _)=_
 have e1:T.fK (hd c) ": " =some (hd c++": "):=tP (by rw[pf];simp only[List.length_append,List.length_cons,List.length_nil];omega)
 have e2:T.fK (hd c++": ") (shS c.d)=some (hd c++": " ++shS c.d):=tP (by rw[TL.tl_append,pf];simp only[List.length_append,List.length_cons,List.length_nil];omega)
 have e3:T.fK (hd c++": " ++shS c.d) " > " =some (hd c++": " ++shS c.d++" > "):=tP (by rw[TL.tl_append,TL.tl_append,pf,rA];simp only[List.length_append,List.length_cons,List.length_nil];omega)
 have e4:T.fK (hd c++": " ++shS c.d++" > ") (shS c.e)=some (hd c++": " ++shS c.d++" > " ++shS c.e):=tP (by rw[TL.tl_append,TL.tl_append,TL.tl_append,pf,rA];simp only[List.length_append,List.length_cons,List.length_nil];omega)
 rw[Option.bind_some,e1,av,e2,av,e3,av,e4,rP,xA]
 congr 1
 refine TL.ext_tl ?_
 unfold shC
 simp only[TL.tl_append,List.append_assoc]
theorem ET {x:Str} (h:Let x):PySem.PyData.strOk x=true:=Low.ok h
theorem BL {s:T3 Str Int Str} (h:jc s):So.ok s=true:=by
 show (PySem.PyData.strOk s.a&&true&&PySem.PyData.strOk s.c)=true
 rw[ET h.low]
 have:=h.grp
 simp only[List.mem_cons,List.not_mem_nil,or_false] at this
 rcases this with e|e|e|e <;> (rw[e];decide+kernel)
theorem ye {i:Int} (h0:0<=i) (h1:i<26):T.atS jr i=some (sg (97+i.toNat)):=by
 unfold T.atS
 rw[if_pos (by decide+kernel)]
 unfold T.sgs
 rw[sj,atI_nat h0 (by simpa using h1),List.getElem?_map,List.getElem?_map,List.getElem?_range (by omega)]
 rfl
theorem zH {cs:List Nat} (h:cs.length<=1000):T.join ("" :Str) (cs.map sg)=some ⟨cs.toArray⟩:=by
 unfold T.join
 rw[if_pos,DP]
 have e1: ∀l:List Nat,(l.map fun _=>1).sum=l.length:=fun l=>by induction l with
  |nil=>rfl
  |cons a l ih=>rw[List.map_cons,List.sum_cons,ih];simp;omega
 have e2:((cs.map sg).map fun x=>x.length)=cs.map fun _=>1:=by rw[List.map_map];rfl
 rw[e2,e1,List.length_map]
 show _+_*0<=_
 omega
theorem EU {n:Int} (h:0<=n): ∃m,jb n=some m/\(TL.tl m).Pairwise (· < ·)/\Let m/\(TL.tl m).length<=26:=by
 have:=big
 unfold jb
 simp only[Option.bind_some,av,T.bw (b:=3) (by decide),T.kN,aO]
 rw[show ("abcdefghijklmnopqrstuvwxyz" :Str)=jr from rfl]
 by_cases w0:n%3=0
 ·refine⟨"",?_,List.Pairwise.nil,fun c hc=>(by cases hc),by decide⟩
  rw[decide_eq_true w0,if_pos rfl];rfl
 rw[decide_eq_false w0,if_neg Bool.false_ne_true]
 simp only[Option.bind_some,bj]
 by_cases w1:n%3=1
 ·have m0:=Int.emod_nonneg (n/3) (show (26:Int)≠0 by decide)
  have m1:=Int.emod_lt_of_pos (n/3) (show (0:Int)<26 by decide)
  refine⟨sg (97+(n/3%26).toNat),?_,List.pairwise_singleton _ _,fun c hc=> ?_,by show 1<=26;decide⟩
  ·rw[decide_eq_true w1,if_pos rfl,T.iU (by decide) (by decide),av,T.bw (by decide),av,ye m0 m1];rfl
  ·have:c=97+(n/3%26).toNat:=by simpa using (show c∈[97+(n/3%26).toNat] from hc)
   omega
 rw[decide_eq_false w1,if_neg Bool.false_ne_true]
 simp only[Option.bind_some,bj]
 let p:Nat->Bool:=fun i=>decide (n/3/((i:Int)+1)%3=0)
 have lc:tlc (b1 T.rF (some (26:Int))) (fun c5:Int=>b2 T.eqA (b2 T.bu (b2 T.gq (b2 T.gq (some n) (some (3:Int))) (b2 T.dA (some c5) (some (1:Int)))) (some (3:Int))) (some (0:Int))) (fun c5:Int=>b2 T.atS (some jr) (some c5))=some ((((List.range 26).filter p).map fun i=>97+i).map sg):=by
  rw[aL,T.Bx (by decide) (by decide)]
  rw[xB (fun i:Int=>decide (n/3/(i+1)%3=0)) (fun i=>sg (97+i.toNat)) (by simp;exact Nat.le_trans (by decide) big)]
  ·congr 1
   rw[List.filter_map,List.map_map,List.map_map]
   rfl
  ·intro i hi
   obtain⟨j,hj,rfl⟩:=List.mem_map.mp hi
   have:=List.mem_range.mp hj
   have:(26:Int).toNat=26:=rfl
   rw[av,T.iU (by decide) (by decide),av,T.ik,av,T.iU (by omega) (by omega),av,T.bw (by decide),av,T.kN]
  ·intro i hi _
   obtain⟨j,hj,rfl⟩:=List.mem_map.mp hi
   have:=List.mem_range.mp hj
   have:(26:Int).toNat=26:=rfl
   rw[av,ye (by omega) (by omega)]
 have fl:=List.length_filter_le p (List.range 26)
 rw[List.length_range] at fl
 simp only[av] at lc
 rw[lc]
 refine⟨⟨(((List.range 26).filter p).map fun i=>97+i).toArray⟩,?_,?_,fun c hc=> ?_,?_⟩
 ·rw[av,zH (by rw[List.length_map];omega)];rfl
 ·show (((List.range 26).filter p).map fun i=>97+i).Pairwise (· < ·)
  rw[List.pairwise_map]
  exact (List.pairwise_lt_range.sublist List.filter_sublist).imp fun h=>by omega
 ·obtain⟨i,hi,rfl⟩:=List.mem_map.mp (show c∈((List.range 26).filter p).map fun i=>97+i from hc)
  have:=List.mem_range.mp (List.mem_filter.mp hi).1
  omega
 ·show (((List.range 26).filter p).map fun i=>97+i).length<=26
  rw[List.length_map];omega
theorem BM (c k:Int) (h1: -1000000<=k) (h2:k<=1000000): ∃s,iJ c k=some s/\jc s:=by
 unfold iJ
 rw[av,om c k h1 h2]
 have n0:=zG c k
 generalize lL c k=d at n0
 obtain⟨m,em,m1,m2,m3⟩:=EU (n:=d/400) (by omega)
 have d0:=Int.emod_nonneg d (show (4:Int)≠0 by decide)
 have d1:=Int.emod_lt_of_pos d (show (0:Int)<4 by decide)
 have s0:=Int.emod_nonneg (d/4) (show (99:Int)≠0 by decide)
 have s1:=Int.emod_lt_of_pos (d/4) (show (0:Int)<99 by decide)
 rw[Option.bind_some]
 simp only[T.fN,T.HG,av,T.bw (b:=4) (by decide),T.iU (b:=4) (by decide) (by decide),T.iU (b:=400) (by decide) (by decide),T.bw (b:=99) (by decide),T.ik,aL,em]
 rw[T.tn d0 (by show d%4<4;omega)]
 exact⟨_,rfl,List.getElem_mem _,by show 1<=1+_;omega,by show 1+_<=99;omega,m1,m2,m3⟩
theorem GX (c:Int): ∃x,kz c=some x/\Let x/\1<=(TL.tl x).length/\(TL.tl x).length<=8:=by
 have:=big
 unfold kz
 rw[Option.bind_some,show ("abcdefghijklmnopqrstuvwxyz" :Str)=jr from rfl,av (a:=c),om c 39 (by decide) (by decide),av,T.bw (by decide),av,T.ik]
 have n0:=Int.emod_nonneg (lL c 39) (show (8:Int)≠0 by decide)
 have n1:=Int.emod_lt_of_pos (lL c 39) (show (0:Int)<8 by decide)
 generalize lL c 39%8=k at n0 n1
 let g:Nat->Nat:=fun i=>97+(lL c (40+(i:Int))%26).toNat
 have lc:tlc (b1 T.rF (some (1+k))) (fun c2:Int=>some true) (fun c2:Int=>b2 T.atS (some jr) (b2 T.bu (b2 bO (some c) (b2 T.dA (some (40:Int)) (some c2))) (some (26:Int))))=some (((List.range (1+k).toNat).map g).map sg):=by
  rw[aL,T.Bx (by omega) (by omega),By (fun i:Int=>sg (97+(lL c (40+i)%26).toNat)) (by simp;omega)]
  ·rw[List.map_map,List.map_map];rfl
  ·intro i hi
   obtain⟨j,hj,rfl⟩:=List.mem_map.mp hi
   have:=List.mem_range.mp hj
   rw[av (a:=(40:Int)),T.ik,av,om _ _ (by omega) (by omega),av,T.bw (by decide),av,ye (Int.emod_nonneg _ (by decide)) (Int.emod_lt_of_pos _ (by decide))]
 rw[lc]
 refine⟨⟨((List.range (1+k).toNat).map g).toArray⟩,?_,fun x hx=> ?_,?_,?_⟩
 ·rw[av,zH (by simp;omega)];rfl
 ·obtain⟨i,hi,rfl⟩:=List.mem_map.mp (show x∈(List.range (1+k).toNat).map g from hx)
  have a:=Int.emod_nonneg (lL c (40+(i:Int))) (show (26:Int)≠0 by decide)
  have b:=Int.emod_lt_of_pos (lL c (40+(i:Int))) (show (0:Int)<26 by decide)
  show 97<=97+_/\97+_<123
  omega
 ·show 1<=((List.range (1+k).toNat).map g).length
  rw[List.length_map,List.length_range];omega
 ·show ((List.range (1+k).toNat).map g).length<=8
  rw[List.length_map,List.length_range];omega
theorem EV {x y:Int} {i:Int} (h0:0<=i) (h1:i<2) {lo hi:Int} (hx:lo<=x/\x<=hi) (hy:lo<=y/\y<=hi): ∃z,T.atL [x,y] i=some z/\lo<=z/\z<=hi:=by
 rw[T.tn h0 (by show i<2;omega)]
 have:[x,y][i.toNat]'(by simp;omega)∈[x,y]:=List.getElem_mem _
 simp only[List.mem_cons,List.not_mem_nil,or_false] at this
 refine⟨_,rfl,?_⟩
 rcases this with e|e <;> (rw[e];assumption)
theorem CB (c:Int): ∃co,hJ c=some co/\qv co:=by
 obtain⟨x,ex,x1,x2,x3⟩:=GX c
 obtain⟨s,es,hs⟩:=BM c 5 (by decide) (by decide)
 obtain⟨t,et,ht⟩:=BM c 6 (by decide) (by decide)
 have pw:T.kQ 10 6=some 1000000:=by rw[T.Bw (by decide) (by decide) (by decide)];rfl
 have md:=fun(a b:Int) (hb:0<b)=>(⟨Int.emod_nonneg a (by omega),Int.emod_lt_of_pos a hb⟩:0<=a%b/\a%b<b)
 obtain⟨u,eu,u1,u2⟩:=EV (x:=lL c 1%200) (y:=lL c 1%1000000) (i:=lL c 2%2) (lo:=0) (hi:=999999) (md _ 2 (by decide)).1 (md _ 2 (by decide)).2 (by have:=md (lL c 1) 200 (by decide);omega) (by have:=md (lL c 1) 1000000 (by decide);omega)
 obtain⟨v,ev,v1,v2⟩:=EV (x:=lL c 3%4) (y:=lL c 3%1000001) (i:=lL c 4%2) (lo:=0) (hi:=1000000) (md _ 2 (by decide)).1 (md _ 2 (by decide)).2 (by have:=md (lL c 3) 4 (by decide);omega) (by have:=md (lL c 3) 1000001 (by decide);omega)
 unfold hJ
 simp only[av,om c 1 (by decide) (by decide),om c 2 (by decide) (by decide),om c 3 (by decide) (by decide),om c 4 (by decide) (by decide),T.bw (b:=200) (by decide),pw,T.bw (b:=1000000) (by decide),T.bw (b:=4) (by decide),T.ik,T.bw (b:=2) (by decide),T.fN]
 rw[show T.bu (lL c 3) (1000000+1)=some (lL c 3%1000001) from T.bw (by decide)]
 simp only[T.fN,T.yW,av,eu,ev,T.ik,Option.bind_some,aL,ex,es,et,wZ]
 exact⟨_,rfl,x1,x2,x3,by show 1<=1+u;omega,by show 1+u<=1000000;omega,v1,v2,hs,ht⟩
def dig (c:Nat):Bool:=decide (48<=c/\c<=57)
def low (c:Nat):Bool:=decide (97<=c/\c<=122)
def lM (x:Str) (k:Int):Bool:=decide ((1:Int)<=(x.length:Int))&&decide ((x.length:Int)<=k)
def mu (x:Str):Bool:=(TL.tl x).all low&&lM x 8
def hd0 (l:List Nat):Bool:=match l with
 | []=>false
 |c::r=>decide (c=48)&& !decide (r=[])
def wrB (x:Str):Bool:=(TL.tl x).all dig&&(lM x 12&& !hd0 (TL.tl x))
def rB (x:Str):Xn:=⟨"NoRow",[("row",en x)]⟩
theorem ltl {x:Str}:x.length=(TL.tl x).length:=TL.len_tl x
theorem zI {x:Str} (h:x.length<=2000):T.lQ x=some (x.length:Int):=T.GN (by have:=big;omega)
theorem tQ {ρ:Type} {step:Unit->Str->Option (TO Unit Unit ρ)} {p:Nat->Bool} {r:ρ}: ∀(l:List Nat),(∀c∈l,step () ⟨#[c]⟩=some (if p c=true then .nx () else .ret r))->iH step (l.map fun c=>(⟨#[c]⟩:Str)) ()=some (if l.all p=true then .fin () else .ret r)
 | [],_=>rfl
 |c::l,h=>by
  show (step () ⟨#[c]⟩).bind _=_
  rw[h c List.mem_cons_self]
  by_cases q:p c=true
  ·rw[if_pos q,List.all_cons,q,Bool.true_and]
   exact tQ l fun c hc=>h c (List.mem_cons_of_mem _ hc)
  ·rw[if_neg q,List.all_cons,Bool.eq_false_iff.mpr q];rfl
theorem BN {ρ:Type} {step:Unit->Str->Option (TO Unit Unit ρ)} {p:Nat->Bool} {e:Xn}: ∀(l:List Nat),(∀c∈l,step () ⟨#[c]⟩=some (if p c=true then .nx () else .exc e))->iH step (l.map fun c=>(⟨#[c]⟩:Str)) ()=some (if l.all p=true then .fin () else .exc e)
 | [],_=>rfl
 |c::l,h=>by
  show (step () ⟨#[c]⟩).bind _=_
  rw[h c List.mem_cons_self]
  by_cases q:p c=true
  ·rw[if_pos q,List.all_cons,q,Bool.true_and]
   exact BN l fun c hc=>h c (List.mem_cons_of_mem _ hc)
  ·rw[if_neg q,List.all_cons,Bool.eq_false_iff.mpr q];rfl
theorem HQ (c:Nat):T.qb true ⟨#[c]⟩ jr=some (!low c):=by
 show some (!decide (c∈jr.cps.toList))=_
 congr 2
 unfold low
 rw[decide_eq_decide,sj,List.mem_map]
 constructor
 ·rintro⟨i,hi,rfl⟩
  have:=List.mem_range.mp hi
  omega
 ·intro h
  exact⟨c -97,List.mem_range.mpr (by omega),by omega⟩
theorem GY:("0123456789" :Str).cps.toList=[48,49,50,51,52,53,54,55,56,57]:=by decide+kernel
theorem KU (c:Nat):T.qb true ⟨#[c]⟩ ("0123456789" :Str)=some (!dig c):=by
 show some (!decide (c∈("0123456789" :Str).cps.toList))=_
 congr 2
 unfold dig
 rw[decide_eq_decide,GY]
 simp only[List.mem_cons,List.not_mem_nil,or_false]
 omega
theorem lt1 (c d:Nat):bQ ⟨#[c]⟩ ⟨#[d]⟩↔c<d:=by
 show [c]<[d]↔_
 rw[List.cons_lt_cons_iff]
 simp
theorem chS (a c b:Nat):qi T.leS T.leS (some (⟨#[a]⟩:Str)) (some ⟨#[c]⟩) (some ⟨#[b]⟩)=some (decide (a<=c/\c<=b)):=by
 unfold qi
 simp only[Option.bind_some,T.Ef]
 rw[decide_eq_decide.mpr (lt1 c a),decide_eq_decide.mpr (lt1 b c)]
 by_cases h:c<a
 ·rw[decide_eq_true h,decide_eq_false (show ¬(a<=c/\c<=b) by omega)];rfl
 ·rw[decide_eq_false h]
  show some (!decide (b<c))=_
  congr 1
  by_cases g:b<c
  ·rw[decide_eq_true g,decide_eq_false (show ¬(a<=c/\c<=b) by omega)];rfl
  ·rw[decide_eq_false g,decide_eq_true (show a<=c/\c<=b by omega)];rfl
theorem chI (a n b:Int):qi T.leI T.leI (some a) (some n) (some b)=some (decide (a<=n)&&decide (n<=b)):=by
 unfold qi
 simp only[Option.bind_some,T.Jg]
 cases decide (a<=n) <;> rfl
theorem at0 {x:Str} {c:Nat} {r:List Nat} (h:x.length<=2000) (e:TL.tl x=c::r):T.atS x 0=some ⟨#[c]⟩:=by
 have:=big
 unfold T.atS T.sgs
 rw[if_pos (by omega),show x.cps.toList=c::r from e,atI_nat (by decide) (by simp)];rfl
theorem c0 (c:Nat):decide ((⟨#[c]⟩:Str)=("0" :Str))=decide (c=48):=by
 rw[decide_eq_decide]
 constructor
 ·intro q
  have:[c]=[48]:=congrArg TL.tl q
  simpa using this
 ·rintro rfl;rfl
theorem headOf {x:Str} {k:Int} (h:lM x k=true): ∃c r,TL.tl x=c::r:=by
 cases e:TL.tl x with
 |cons c r=>exact⟨c,r,rfl⟩
 |nil=>
  exfalso
  have:=of_decide_eq_true (Bool.and_eq_true_iff.mp h).1
  rw[ltl,e] at this
  simp at this
def vH (x:Str):Int:=((PySem.NumText.digitsVal (TL.tl x):Nat):Int)
theorem intD {x:Str} (h1:(TL.tl x).all dig=true) (h3:lM x 12=true):T.qR x=some (vH x):=by
 obtain⟨c,r,e⟩:=headOf h3
 have l:=of_decide_eq_true (Bool.and_eq_true_iff.mp h3).2
 unfold T.qR
 rw[if_pos (by omega)]
 exact PySem.intText_digits (fun c hc=>of_decide_eq_true (List.all_eq_true.mp h1 c hc)) (by rw[show x.cps.toList=c::r from e];simp) (by omega)
def EW (x:Str):Option Int:=if wrB x=true then some (vH x) else none
def zJ {A:Type} (x:Str) (o:Option A):Xn ⊕ A:=match o with
 |some a=>.inr a
 |none=>.inl (rB x)
theorem GZ {x:Str} (h:x.length<=2000):ja x=some (zJ x (EW x)):=by
 unfold ja
 rw[aL,zI h,chI,av]
 change tX0 (cE (orB (eP (some (lM x 12))) _) _ _ _)=_
 have cond:orB (eP (some (lM x 12))) (sT (T.gtI (x.length:Int) 1) (b2 T.eqA (b2 T.atS (some x) (some (0:Int))) (some ("0" :Str))))=some (!lM x 12||hd0 (TL.tl x)):=by
  rw[fb,fD]
  cases q:lM x 12 with
  |false=>rfl
  |true=>
   obtain⟨c,r,e⟩:=headOf q
   rw[Bool.not_true,if_neg Bool.false_ne_true,Bool.false_or,T.Jh,pA,av,at0 h e,av,T.kN,c0,e]
   have:decide ((1:Int)<(x.length:Int))= !decide (r=[]):=by
    rw[ltl,e]
    cases r with
    |nil=>rfl
    |cons a r=>rw[decide_eq_true (by simp only[List.length_cons];omega)];rfl
   rw[this]
   show (if (!decide (r=[]))=true then some (decide (c=48)) else some false)=some (decide (c=48)&& !decide (r=[]))
   cases decide (c=48) <;> cases decide (r=[]) <;> rfl
 rw[cond,aO]
 unfold EW wrB
 cases q1:lM x 12 with
 |false=>rw[Bool.false_and,Bool.and_false,if_neg Bool.false_ne_true];rfl
 |true=>
  cases q2:hd0 (TL.tl x) with
  |true=>rw[Bool.not_true,Bool.and_false,Bool.and_false,if_neg Bool.false_ne_true];rfl
  |false=>
   rw[Bool.not_true,Bool.false_or,if_neg Bool.false_ne_true,Option.bind_some,bj,aL,T.pE,iB,Bool.not_false,Bool.and_true,Bool.and_true]
   change tX0 ((iH (hI x) ((TL.tl x).map fun c=>(⟨#[c]⟩:Str)) ()).bind _)=_
   rw[BN (p:=dig) (e:=rB x) (TL.tl x) fun c hc=>by
    unfold hI
    rw[av,KU,aO]
    cases dig c <;> rfl]
   cases q3:(TL.tl x).all dig with
   |false=>rfl
   |true=>rw[if_pos rfl,if_pos rfl,Option.bind_some,qX,aL,intD q3 q1];rfl
theorem numL_val: ∀(r:List Nat),(∀c∈r,48<=c/\c<=57)->r≠[]->hd0 r.reverse=false->TL.numL (PySem.NumText.digitsVal r.reverse)=r.reverse
 | [],_,n,_=>absurd rfl n
 |d::r,hd,_,h0=>by
  have hd':=hd d List.mem_cons_self
  have e:PySem.NumText.digitsVal (d::r).reverse=PySem.NumText.digitsVal r.reverse*10+(d -48):=by
   unfold PySem.NumText.digitsVal
   rw[List.reverse_cons,List.foldl_append];rfl
  rw[e,List.reverse_cons]
  cases q:r with
  |nil=>
   show TL.numL (0*10+(d -48))=[d]
   rw[TL.numL_lt (by omega)]
   congr 1;omega
  |cons a b=>
   rw[<-q]
   have rn:r≠[]:=by rw[q];simp
   have h1:hd0 r.reverse=false:=by
    cases z:r.reverse with
    |nil=>rfl
    |cons x y=>
     rw[List.reverse_cons,z] at h0
     have h0':(decide (x=48)&& !decide (y++[d]=[]))=false:=h0
     have:decide (x=48)=false:=by
      cases w:decide (x=48) with
      |false=>rfl
      |true=>rw[w] at h0';simp at h0'
     show (decide (x=48)&& !decide (y=[]))=false
     rw[this];rfl
   have ih:=numL_val r (fun c hc=>hd c (List.mem_cons_of_mem _ hc)) rn h1
   have pos:1<=PySem.NumText.digitsVal r.reverse:=by
    cases w:PySem.NumText.digitsVal r.reverse with
    |succ n=>omega
    |zero=>
     exfalso
     rw[w,TL.numL_lt (by omega)] at ih
     rw[<-ih] at h1
     have e48:r.reverse=[48]:=ih.symm
     rw[List.reverse_cons,e48] at h0
     exact absurd h0 (by simp[hd0])
   rw[TL.numL_step (by omega),show (PySem.NumText.digitsVal r.reverse*10+(d -48))/10=PySem.NumText.digitsVal r.reverse by omega,ih,show 48+(PySem.NumText.digitsVal r.reverse*10+(d -48))%10=d by omega]
theorem G6 (x:Str):0<=vH x:=Int.natCast_nonneg _
theorem G7 {x:Str} (h:wrB x=true):x=num (vH x):=by
 obtain⟨h1,h2⟩:=Bool.and_eq_true_iff.mp h
 obtain⟨h3,h4⟩:=Bool.and_eq_true_iff.mp h2
 obtain⟨c,r,e⟩:=headOf h3
 refine TL.ext_tl ?_
 rw[rX (G6 x)]
 have:=numL_val (TL.tl x).reverse (fun c hc=>of_decide_eq_true (List.all_eq_true.mp h1 c (List.mem_reverse.mp hc))) (by rw[e];simp) (by rw[List.reverse_reverse];simpa using h4)
 rw[List.reverse_reverse] at this
 exact this.symm
theorem tR {i:Int} (h:0<=i) (h2:i<=1000001):wrB (num i)=true/\vH (num i)=i:=by
 have l:=mq h h2
 have n1:1<=(TL.tl (num i)).length:=by
  rw[rX h]
  exact List.length_pos_iff.mpr (TL.numL_ne _)
 have d:(TL.tl (num i)).all dig=true:=List.all_eq_true.mpr fun c hc=>decide_eq_true (by have:=ft h c hc;omega)
 have lb:lM (num i) 12=true:=by
  unfold lM
  rw[ltl,decide_eq_true (by omega),decide_eq_true (by omega)];rfl
 have h0:hd0 (TL.tl (num i))=false:=by
  rw[rX h]
  by_cases z:i.toNat<10
  ·rw[TL.numL_lt z];simp[hd0]
  ·rw[TL.numL_step (by omega)]
   have: ∀(n:Nat),1<=n-> ∃d r,TL.numL n=d::r/\d≠48:=fun n=>by
    induction n using Nat.strongRecOn with
    |_ n ih=>
     intro h
     by_cases z:n<10
     ·exact⟨48+n,[],TL.numL_lt z,by omega⟩
     ·obtain⟨d,r,e,h2⟩:=ih (n/10) (by omega) (by omega)
      exact⟨d,r++[48+n%10],by rw[TL.numL_step (by omega),e];rfl,h2⟩
   obtain⟨d,r,e,hd⟩:=this (i.toNat/10) (by omega)
   rw[e]
   show (decide (d=48)&&_)=false
   rw[decide_eq_false hd];rfl
 refine⟨by unfold wrB;rw[d,lb,h0];rfl,?_⟩
 have e:=TL.int_num (n:=i.toNat) (by rw[<-rX h];omega)
 rw[Int.toNat_of_nonneg h] at e
 have e2:=intD d lb
 unfold T.qR at e2
 rw[if_pos (by rw[ltl];omega)] at e2
 exact Option.some.inj (e2.symm.trans e)
def fW (x:Str) (lo hi:Int):Option Int:=(EW x).bind fun n=>if lo<=n/\n<=hi then some n else none
theorem yf {x:Str} {lo hi:Int} (h:x.length<=2000):bH x lo hi=some (zJ x (fW x lo hi)):=by
 unfold bH fW
 rw[aL,GZ h]
 cases EW x with
 |none=>rfl
 |some n=>
  show tX0 (cE (eP (qi T.leI T.leI (some lo) (some n) (some hi))) _ _ _)=some (zJ x (if lo<=n/\n<=hi then some n else none))
  rw[chI,←Bool.decide_and,fb,aO]
  by_cases q:lo<=n/\n<=hi
  ·rw[decide_eq_true q,if_pos q];rfl
  ·rw[decide_eq_false q,if_neg q];rfl
theorem jo {x:Str} {lo hi n:Int} (h0:0<=lo) (h1:hi<=1000000):fW x lo hi=some n↔(lo<=n/\n<=hi/\x=num n):=by
 unfold fW EW
 constructor
 ·intro e
  obtain⟨m,e1,e2⟩:=bind1 e
  obtain⟨q1,q2⟩:=aH e1
  obtain⟨q3,q4⟩:=aH e2
  cases q4
  exact⟨q3.1,q3.2,by rw[<-q2];exact G7 q1⟩
 ·rintro⟨a,b,rfl⟩
  obtain⟨w,d⟩:=tR (i:=n) (by omega) (by omega)
  rw[if_pos w,d,Option.bind_some,if_pos ⟨a,b⟩]
theorem KW {x:Str} (h:x.length<=2000):nA x=some (mu x):=by
 unfold nA
 rw[show ((some x).bind fun _=>some true)=some true from rfl,aL,zI h,chI]
 change tF0 (cE (orB (eP (some true)) (eP (some (lM x 8)))) _ _ _)=_
 rw[show orB (eP (some true)) (eP (some (lM x 8)))=some (!lM x 8) by cases lM x 8 <;> rfl,aO]
 unfold mu
 cases lM x 8 with
 |false=>rw[Bool.and_false];rfl
 |true=>
  rw[Bool.not_true,if_neg Bool.false_ne_true,Option.bind_some,bj,aL,T.pE,iB,Bool.and_true]
  change tF0 ((iH ku ((TL.tl x).map fun c=>(⟨#[c]⟩:Str)) ()).bind _)=_
  rw[tQ (p:=low) (r:=⟨false⟩) (TL.tl x) fun c hc=>by
   unfold ku
   rw[av,show ("abcdefghijklmnopqrstuvwxyz" :Str)=jr from rfl,HQ,aO]
   cases low c <;> rfl]
  cases (TL.tl x).all low <;> rfl
theorem HR (c:Nat) (r:List Nat):TL.pre [32] (c::r)=decide (c=32):=by
 unfold TL.pre
 show ((c::r).take 1==[32])=_
 rw[List.take_succ_cons,List.take_zero,Bool.eq_iff_iff,beq_iff_eq,decide_eq_true_eq]
 simp
theorem EX: ∀(l acc:List Nat),32∉acc->TL.joinL [32] (TL.spl [32] 0 acc l)=acc++l/\(∀p∈TL.spl [32] 0 acc l,32∉p)/\TL.spl [32] 0 acc l≠[]
 | [],acc,h=>by
  rw[TL.spl_nil,List.append_nil]
  exact⟨rfl,fun p hp=>by rw[List.mem_singleton.mp hp];exact h,by simp⟩
 |c::r,acc,h=>by
  by_cases q:c=32
  ·rw[TL.spl_hit (by rw[HR,decide_eq_true q])]
   obtain⟨h1,h2,h3⟩:=EX r [] (by simp)
   show TL.joinL [32] (acc::TL.spl [32] 0 [] r)=_/\_
   refine⟨?_,fun p hp=> ?_,by simp⟩
   ·cases e:TL.spl [32] 0 [] r with
    |nil=>exact absurd e h3
    |cons a b=>
     rw[e] at h1
     show acc++([32]++TL.joinL [32] (a::b))=_
     rw[h1,q];rfl
   ·rcases List.mem_cons.mp hp with rfl|hp
    ·exact h
    ·exact h2 p hp
  ·rw[TL.spl_miss (by rw[HR,decide_eq_false q])]
   obtain⟨h1,h2,h3⟩:=EX r (acc++[c]) (fun m=>by
    rcases List.mem_append.mp m with m|m
    ·exact h m
    ·exact q (by simpa using (List.mem_singleton.mp m).symm))
   exact⟨by rw[h1,List.append_assoc];rfl,h2,h3⟩
def words (x:Str):List Str:=Txt.split x " "
theorem words_tl (x:Str):(words x).map TL.tl=TL.spl [32] 0 [] (TL.tl x):=TL.split_spl x " " (by decide+kernel) (TL.kind_ok (by decide+kernel))
theorem oq (x:Str):Txt.join " " (words x)=x:=by
 refine TL.ext_tl ?_
 rw[TL.join_eq,TL.tl_join,u7,words_tl,(EX (TL.tl x) [] (by simp)).1,List.nil_append]
theorem words_of {ws:List Str} (h:ws≠[]) (hn: ∀w∈ws,32∉TL.tl w):words (Txt.join " " ws)=ws:=TL.split_join (s:=32) (S:=[]) rfl (by decide+kernel) h hn
theorem yg {x:Str} (h:x.length<=2000):T.split x " " =some (words x):=by
 have:=big
 unfold T.split
 rw[if_pos ⟨by decide+kernel,by omega⟩];rfl
theorem zL (w:Str): ∀(ws:List Str),w∈ws->(TL.tl w).length<=(TL.joinL [32] (ws.map TL.tl)).length
 | [a],h=>by rw[List.mem_singleton.mp h];exact Nat.le_refl _
 |a::b::r,h=>by
  show _<=(TL.tl a++([32]++TL.joinL [32] ((b::r).map TL.tl))).length
  rw[List.length_append,List.length_append]
  rcases List.mem_cons.mp h with rfl|h
  ·omega
  ·have:=zL w (b::r) h
   omega
theorem rZ {x w:Str} (h:w∈words x):w.length<=x.length:=by
 rw[ltl,ltl]
 have:=zL w (words x) h
 rw[<-u7,←TL.tl_join,←TL.join_eq,oq] at this
 exact this
theorem BO {S:List Nat}: ∀(l acc a b:List Nat),TL.par S acc l=some (a,b)->acc++l=a++(S++b)
 | [],_,_,_,h=>by cases h
 |c::r,acc,a,b,h=>by
  cases q:TL.pre S (c::r) with
  |true=>
   rw[TL.par_hit q] at h
   cases h
   have e:(c::r).take S.length=S:=eq_of_beq q
   rw[<-e,List.length_take,←List.append_assoc,List.append_assoc]
   congr 1
   have:min S.length (c::r).length=S.length:=by
    have:=congrArg List.length e
    rw[List.length_take] at this
    exact this
   rw[this,List.take_append_drop]
  |false=>
   rw[TL.par_miss q] at h
   have:=BO r (acc++[c]) a b h
   rw[<-this,List.append_assoc];rfl
theorem yh (x y:Str) (hy:TL.tl y≠[]):(x=(Txt.partition x y).1++y++(Txt.partition x y).2.2)\/Txt.partition x y=(x,Str.empty,Str.empty):=by
 rw[TL.partition_par x y hy]
 cases q:TL.par (TL.tl y) [] (TL.tl x) with
 |none=>exact .inr rfl
 |some p=>
  obtain⟨a,b⟩:=p
  refine .inl (TL.ext_tl ?_)
  have:=BO _ _ _ _ q
  rw[List.nil_append] at this
  rw[this,TL.tl_append,TL.tl_append,List.append_assoc]
theorem HS {x y:Str} (hy:(y.length==0)=false) (h:x.length<=2000):T.part x y=some ⟨(Txt.partition x y).1,(Txt.partition x y).2.1,(Txt.partition x y).2.2⟩:=by
 have:=big
 unfold T.part
 rw[if_pos ⟨hy,by omega⟩]
def Rd {A:Type} (t:Option (Xn ⊕ A)) (o:Option A):Prop:=match o with
 |some a=>t=some (.inr a)
 |none=> ∃z,t=some (.inl (rB z))
def sS:Option Nat->Nat->Bool
 |none,_=>true
 |some q,c=>decide (q<c)
def nB:Option Nat->List Nat->Bool
 |_,[]=>true
 |p,c::r=>low c&&sS p c&&nB (some c) r
theorem lN: ∀(l:List Nat) (p:Option Nat),nB p l=true↔(∀c∈l,97<=c/\c<123)/\l.Pairwise (· < ·)/\ ∀q,p=some q-> ∀c∈l,q<c
 | [],p=>by simp[nB]
 |c::r,p=>by
  have e:low c=true↔97<=c/\c<123:=by unfold low;rw[decide_eq_true_eq];omega
  have g:sS p c=true↔ ∀q,p=some q->q<c:=by
   cases p with
   |none=>simp[sS]
   |some q=>simp[sS]
  unfold nB
  rw[Bool.and_eq_true,Bool.and_eq_true,e,g,lN r (some c)]
  constructor
  ·rintro⟨⟨h1,h2⟩,h3,h4,h5⟩
   have h6:=h5 c rfl
   refine⟨fun d hd=> ?_,List.pairwise_cons.mpr ⟨h6,h4⟩,fun q hq d hd=> ?_⟩
   ·rcases List.mem_cons.mp hd with rfl|hd
    ·exact h1
    ·exact h3 d hd
   ·rcases List.mem_cons.mp hd with rfl|hd
    ·exact h2 q hq
    ·exact Nat.lt_trans (h2 q hq) (h6 d hd)
  ·rintro⟨h1,h2,h3⟩
   obtain⟨h4,h5⟩:=List.pairwise_cons.mp h2
   exact⟨⟨h1 c List.mem_cons_self,fun q hq=>h3 q hq c List.mem_cons_self⟩,fun d hd=>h1 d (List.mem_cons_of_mem _ hd),h5,fun q hq d hd=>by cases hq;exact h4 d hd⟩
def vd:Option Nat->Str
 |none=>""
 |some q=>⟨#[q]⟩
theorem ve: ∀(l:List Nat) (p:Option Nat),∃b,iH cU (l.map fun c=>(⟨#[c]⟩:Str)) (vd p)=some (if nB p l=true then .fin b else .ret ⟨false⟩)
 | [],p=>⟨vd p,rfl⟩
 |c::r,p=>by
  have e:cU (vd p) ⟨#[c]⟩=some (if (low c&&sS p c)=true then .nx ⟨#[c]⟩ else .ret ⟨false⟩):=by
   unfold cU
   rw[av,show ("abcdefghijklmnopqrstuvwxyz" :Str)=jr from rfl,HQ,av,T.Ef,fD]
   cases low c with
   |false=>rfl
   |true=>
    rw[Bool.not_true,if_neg Bool.false_ne_true,aO,Bool.true_and]
    cases p with
    |none=>
     rw[decide_eq_true (show bQ (vd none) ⟨#[c]⟩ from List.nil_lt_cons c [])];rfl
    |some q=>
     rw[show decide (bQ (vd (some q)) ⟨#[c]⟩)=sS (some q) c from decide_eq_decide.mpr (lt1 q c)]
     cases sS (some q) c <;> rfl
  show ∃b,((cU (vd p) ⟨#[c]⟩).bind _)=_
  rw[e]
  unfold nB
  by_cases q:(low c&&sS p c)=true
  ·obtain⟨b,ih⟩:=ve r (some c)
   rw[if_pos q,q,Bool.true_and]
   exact⟨b,ih⟩
  ·rw[if_neg q,Bool.eq_false_iff.mpr q,Bool.false_and]
   exact⟨("" :Str),rfl⟩
theorem Jv (m:Str):kv m=some (!decide (m="")&&nB none (TL.tl m)):=by
 unfold kv
 rw[av,T.kN,aO]
 by_cases q:m=""
 ·rw[decide_eq_true q];rfl
 ·rw[decide_eq_false q,if_neg Bool.false_ne_true,Option.bind_some,bj,Option.bind_some,aL,T.pE,iB]
  obtain⟨b,e⟩:=ve (TL.tl m) none
  change tF0 ((iH cU ((TL.tl m).map fun c=>(⟨#[c]⟩:Str)) (vd none)).bind _)=_
  rw[e]
  cases nB none (TL.tl m) <;> rfl
abbrev uJ:List Str:=["O","A","B","AB"]
def zM (g z m:Str):Option (T3 Str Int Str):=if g∈uJ then (fW z 1 99).bind fun n=>if m="-" then some ⟨g,n,""⟩ else if (!decide (m="")&&nB none (TL.tl m))=true then some ⟨g,n,m⟩ else none else none
def mw (x:Str):Option (T3 Str Int Str):=match words x with
 | [g,z,m]=>zM g z m
 |_=>none
theorem HU {x:Str} (h:x.length<=2000):Rd (bN x) (mw x):=by
 unfold bN
 rw[av,yg h,Option.bind_some,aL,T.nT,av,T.uA]
 unfold mw
 have wl:=fun w (m:w∈words x)=>Nat.le_trans (rZ m) h
 generalize words x=ws at wl
 have no: ∀(k:Option (TO Unit PEmpty (R0 (T3 Str Int Str)))) (k2) (k3),ws.length≠3->Rd (tX0 (cE (orB (some (!decide ((ws.length:Int)=3))) k2) ((some x).bind fun d3=>some (.exc ⟨"NoRow",[("row",en d3)]⟩)) k k3)) (none:Option (T3 Str Int Str)):=fun k k2 k3 hn=>by
  rw[decide_eq_false (show ¬((ws.length:Int)=3) by omega),fD,Bool.not_false,if_pos rfl,aO,if_pos rfl]
  exact⟨x,rfl⟩
 match ws,wl,no with
 | [],_,no=>exact no _ _ _ (by simp)
 | [_],_,no=>exact no _ _ _ (by simp)
 | [_,_],_,no=>exact no _ _ _ (by simp)
 |_::_::_::_::_,_,no=>exact no _ _ _ (by simp)
 | [g,z,m],wl,_=>
  show Rd _ (zM g z m)
  have a0:T.atL [g,z,m] 0=some g:=rfl
  have a1:T.atL [g,z,m] 1=some z:=rfl
  have a2:T.atL [g,z,m] 2=some m:=rfl
  have gi:T.inG true uJ g=some (!decide (g∈uJ)):=rfl
  rw[show decide ((([g,z,m]:List Str).length:Int)=3)=true from rfl,Bool.not_true,fD,if_neg Bool.false_ne_true,av,a0,aL,gi,aO]
  unfold zM
  by_cases hg:g∈uJ
  ·rw[decide_eq_true hg,Bool.not_true,if_neg Bool.false_ne_true,if_pos hg,Option.bind_some,bj,av,a1,nM,yf (wl z (by simp))]
   cases fW z 1 99 with
   |none=>exact⟨z,rfl⟩
   |some n=>
    show Rd (tX0 (cE (b2 T.eqA (b2 T.atL (some [g,z,m]) (some (2:Int))) (some ("-" :Str))) _ _ _)) (if m="-" then some (⟨g,n,""⟩:T3 Str Int Str) else if (!decide (m="")&&nB none (TL.tl m))=true then some (⟨g,n,m⟩:T3 Str Int Str) else none)
    rw[av,a2,av,T.kN,aO]
    by_cases hm:m="-"
    ·rw[decide_eq_true hm,if_pos rfl,if_pos hm]
     exact rfl
    ·rw[decide_eq_false hm,if_neg Bool.false_ne_true,if_neg hm,Option.bind_some,bj,aL,Jv,fb,aO]
     cases (!decide (m="")&&nB none (TL.tl m)) with
     |true=>exact rfl
     |false=>exact⟨x,rfl⟩
  ·rw[decide_eq_false hg,Bool.not_false,if_pos rfl,if_neg hg]
   exact⟨x,rfl⟩
theorem zN (hi:Nat): ∀(l:List Nat) (lo:Nat),(∀c∈l,lo<=c/\c<hi)->l.Pairwise (· < ·)->l.length<=hi -lo
 | [],_,_,_=>Nat.zero_le _
 |c::r,lo,h,p=>by
  obtain⟨p1,p2⟩:=List.pairwise_cons.mp p
  have h1:=h c List.mem_cons_self
  have:=zN hi r (c+1) (fun d hd=>⟨p1 d hd,(h d (List.mem_cons_of_mem _ hd)).2⟩) p2
  rw[List.length_cons];omega
theorem BP {l:List Nat} (h1: ∀c∈l,97<=c/\c<123) (h2:l.Pairwise (· < ·)):l.length<=26:=zN 123 l 97 h1 h2
theorem wm {g z m:Str} {s:T3 Str Int Str}:zM g z m=some s↔jc s/\g=s.a/\z=num s.b/\m=mk s:=by
 unfold zM
 constructor
 ·intro e
  by_cases hg:g∈uJ
  case neg=>rw[if_neg hg] at e;cases e
  rw[if_pos hg] at e
  obtain⟨n,e1,e2⟩:=bind1 e
  clear e
  obtain⟨n1,n2,ez⟩:=(jo (by decide) (by decide)).mp e1
  subst ez
  have e:(if m="-" then some (⟨g,n,""⟩:T3 Str Int Str) else if (!decide (m="")&&nB none (TL.tl m))=true then some (⟨g,n,m⟩:T3 Str Int Str) else none)=some s:=e2
  by_cases hm:m="-"
  ·rw[if_pos hm] at e
   cases e
   exact⟨⟨hg,n1,n2,List.Pairwise.nil,(fun c hc=>by cases hc),(by show (TL.tl ("" :Str)).length<=26;decide)⟩,rfl,rfl,hm⟩
  ·rw[if_neg hm] at e
   obtain⟨q,e⟩:=aH e
   cases e
   obtain⟨q1,q2⟩:=Bool.and_eq_true_iff.mp q
   obtain⟨r1,r2,_⟩:=(lN _ _).mp q2
   have ne:m≠"" :=by
    intro z
    rw[decide_eq_true z] at q1
    cases q1
   exact⟨⟨hg,n1,n2,r2,r1,BP r1 r2⟩,rfl,rfl,by unfold mk;rw[if_neg ne]⟩
 ·rintro⟨h,rfl,rfl,rfl⟩
  rw[if_pos h.grp,(jo (by decide) (by decide)).mpr ⟨h.lo,h.hi,rfl⟩,Option.bind_some]
  obtain⟨a,b,c⟩:=s
  by_cases q:c=("" :Str)
  ·have e:mk ⟨a,b,c⟩="-" :=if_pos q
   rw[if_pos e]
   subst q;rfl
  ·have e:mk ⟨a,b,c⟩=c:=if_neg q
   have ne:c≠("-" :Str):=fun z=>by
    have:=h.low 45 (by show 45∈TL.tl c;rw[z];decide)
    omega
   rw[e,if_neg ne,if_pos]
   rw[decide_eq_false q,Bool.not_false,Bool.true_and]
   exact (lN _ _).mpr ⟨h.low,h.rise,fun q z=>by cases z⟩
theorem KY {s:T3 Str Int Str} (h:jc s):32∉TL.tl (mk s):=fun m=>by
 have:=u9 h.w _ m;omega
theorem G8 {s:T3 Str Int Str} (h:jc s): ∀w∈[s.a,num s.b,mk s],32∉TL.tl w:=fun w hw m=>by
 simp only[List.mem_cons,List.not_mem_nil,or_false] at hw
 rcases hw with rfl|rfl|rfl
 ·have:=(mr h.w).2 _ m;omega
 ·have:=ft (i:=s.b) (by have:=h.lo;omega) _ m;omega
 ·exact KY h m
theorem ph {x:Str} {s:T3 Str Int Str}:mw x=some s↔jc s/\x=shS s:=by
 constructor
 ·intro e
  unfold mw at e
  split at e
  ·rename_i g z m hw
   obtain⟨h,rfl,rfl,rfl⟩:=wm.mp e
   exact⟨h,by rw[<-oq x,hw];rfl⟩
  ·cases e
 ·rintro⟨h,rfl⟩
  have:words (shS s)=[s.a,num s.b,mk s]:=words_of (by simp) (G8 h)
  unfold mw
  rw[this]
  exact wm.mpr ⟨h,rfl,rfl,rfl⟩
abbrev Co:=T5 Str Int Int (T3 Str Int Str) (T3 Str Int Str)
def coO (x:Str):Option Co:=match words (Txt.partition x ": ").1 with
 | [a,b,c]=>if mu a=true then (fW b 1 1000000).bind fun n=>(fW c 0 1000000).bind fun k=>(mw (Txt.partition (Txt.partition x ": ").2.2 " > ").1).bind fun g=>(mw (Txt.partition (Txt.partition x ": ").2.2 " > ").2.2).bind fun t=>some ⟨a,n,k,g,t⟩ else none
 |_=>none
theorem zO {x y:Str} (hy:TL.tl y≠[]):(Txt.partition x y).1.length<=x.length/\(Txt.partition x y).2.2.length<=x.length:=by
 rcases yh x y hy with e|e
 ·have:=congrArg TL.tl e
  have:=congrArg List.length this
  rw[TL.tl_append,TL.tl_append,List.length_append,List.length_append] at this
  rw[ltl (x:=x),ltl (x:=(Txt.partition x y).1),ltl (x:=(Txt.partition x y).2.2)]
  omega
 ·rw[e]
  exact⟨Nat.le_refl _,Nat.zero_le _⟩
theorem G9 {x:Str} (h:x.length<=2000):Rd (fV x) (coO x):=by
 unfold fV coO
 have p1:=zO (x:=x) (y:=": ") (by decide+kernel)
 have p2:=zO (x:=(Txt.partition x ": ").2.2) (y:=" > ") (by decide+kernel)
 rw[av,HS (by decide+kernel) h,aL]
 show Rd (tX0 ((b2 T.split (some (Txt.partition x ": ").1) (some (" " :Str))).bind _)) _
 rw[av,yg (by omega),Option.bind_some,aL,T.nT,av,T.uA]
 have wl:=fun w (m:w∈words (Txt.partition x ": ").1)=>Nat.le_trans (rZ m) (Nat.le_trans p1.1 h)
 generalize words (Txt.partition x ": ").1=ws at wl
 have no: ∀(k:Option (TO Unit PEmpty (R0 Co))) (k2) (k3),ws.length≠3->Rd (tX0 (cE (orB (some (!decide ((ws.length:Int)=3))) k2) ((some x).bind fun d3=>some (.exc ⟨"NoRow",[("row",en d3)]⟩)) k k3)) (none:Option Co):=fun k k2 k3 hn=>by
  rw[decide_eq_false (show ¬((ws.length:Int)=3) by omega),fD,Bool.not_false,if_pos rfl,aO,if_pos rfl]
  exact⟨x,rfl⟩
 match ws,wl,no with
 | [],_,no=>exact no _ _ _ (by simp)
 | [_],_,no=>exact no _ _ _ (by simp)
 | [_,_],_,no=>exact no _ _ _ (by simp)
 |_::_::_::_::_,_,no=>exact no _ _ _ (by simp)
 | [a,b,c],wl,_=>
  have a0:T.atL [a,b,c] 0=some a:=rfl
  have a1:T.atL [a,b,c] 1=some b:=rfl
  have a2:T.atL [a,b,c] 2=some c:=rfl
  rw[show decide ((([a,b,c]:List Str).length:Int)=3)=true from rfl,Bool.not_true,fD,if_neg Bool.false_ne_true,av,a0,aL,KW (wl a (by simp)),fb,aO]
  show Rd _ (if mu a=true then _ else none)
  cases mu a with
  |false=>exact⟨x,rfl⟩
  |true=>
   rw[Bool.not_true,if_neg Bool.false_ne_true,if_pos rfl,Option.bind_some,bj,av,a1,nM,yf (wl b (by simp))]
   cases fW b 1 1000000 with
   |none=>exact⟨b,rfl⟩
   |some n=>
    show Rd (tX0 (vn (b3 bH (b2 T.atL (some [a,b,c]) (some (2:Int))) (some (0:Int)) (some (1000000:Int))) _)) ((fW c 0 1000000).bind _)
    rw[av,a2,nM,yf (wl c (by simp))]
    cases fW c 0 1000000 with
    |none=>exact⟨c,rfl⟩
    |some k=>
     show Rd (tX0 ((b1 T.un3 (b2 T.part (some (Txt.partition x ": ").2.2) (some (" > " :Str)))).bind _)) ((mw (Txt.partition (Txt.partition x ": ").2.2 " > ").1).bind _)
     rw[av,HS (by decide+kernel) (by omega),aL]
     show Rd (tX0 (vn (bxO (b1 bN (some (Txt.partition (Txt.partition x ": ").2.2 " > ").1)) fun z3_=>bxO (b1 bN (some (Txt.partition (Txt.partition x ": ").2.2 " > ").2.2)) fun z4_=>some (.inr (⟨a,n,k,z3_,z4_⟩:Co))) fun d8=>some (.ret ⟨d8⟩))) _
     rw[aL,aL]
     have s1:=HU (x:=(Txt.partition (Txt.partition x ": ").2.2 " > ").1) (by omega)
     have s2:=HU (x:=(Txt.partition (Txt.partition x ": ").2.2 " > ").2.2) (by omega)
     generalize (Txt.partition (Txt.partition x ": ").2.2 " > ").1=u at s1
     generalize (Txt.partition (Txt.partition x ": ").2.2 " > ").2.2=v at s2
     cases e1:mw u with
     |none=>
      rw[e1] at s1
      obtain⟨z,s1⟩:=s1
      rw[s1]
      exact⟨z,rfl⟩
     |some g=>
      rw[e1] at s1
      rw[show bN u=some (.inr g) from s1]
      cases e2:mw v with
      |none=>
       rw[e2] at s2
       obtain⟨z,s2⟩:=s2
       rw[show bxO (some (Sum.inr g)) (fun z3_=>bxO (bN v) fun z4_=>some (.inr (⟨a,n,k,z3_,z4_⟩:Co)))=bxO (bN v) fun z4_=>some (.inr (⟨a,n,k,g,z4_⟩:Co)) from rfl,s2]
       exact⟨z,rfl⟩
      |some t=>
       rw[e2] at s2
       rw[show bxO (some (Sum.inr g)) (fun z3_=>bxO (bN v) fun z4_=>some (.inr (⟨a,n,k,z3_,z4_⟩:Co)))=bxO (bN v) fun z4_=>some (.inr (⟨a,n,k,g,z4_⟩:Co)) from rfl,show bN v=some (.inr t) from s2]
       exact rfl
theorem nC {x:Str}:mu x=true↔Let x/\1<=(TL.tl x).length/\(TL.tl x).length<=8:=by
 unfold mu lM Let
 rw[Bool.and_eq_true,Bool.and_eq_true,List.all_eq_true,decide_eq_true_eq,decide_eq_true_eq,ltl]
 have: ∀c,low c=true↔97<=c/\c<123:=fun c=>by unfold low;rw[decide_eq_true_eq];omega
 simp only[this]
 exact⟨fun⟨a,b,c⟩=>⟨a,by omega,by omega⟩,fun⟨a,b,c⟩=>⟨a,by omega,by omega⟩⟩
theorem CC:mw Str.empty=none:=by
 cases e:mw Str.empty with
 |none=>rfl
 |some s=>
  have:=congrArg TL.tl (ph.mp e).2
  unfold shS at this
  rw[kE] at this
  have:=congrArg List.length this
  rw[List.length_append,List.length_append,List.length_append] at this
  simp[show TL.tl Str.empty=[] from rfl] at this
theorem MI {a b c:Nat} {l:List Nat} (h:l[1]? ≠some b):TL.pre [a,b,c] l=false:=by
 cases hp:TL.pre [a,b,c] l with
 |false=>rfl
 |true=>
  have e:l.take 3=[a,b,c]:=eq_of_beq hp
  exfalso
  apply h
  have:=congrArg (fun l=>l[1]?) e
  simpa [List.getElem?_take_of_lt] using this
theorem Ha {a b:Str} (h:62∉TL.tl a):Txt.partition (a++" > " ++b) " > " =(a,(" > " :Str),b):=by
 rw[TL.partition_par _ (" > " :Str) (by rw[rA];simp),TL.tl_append,TL.tl_append,List.append_assoc,rA,TL.par_part (by simp) fun i hi=>MI ?_]
 ·show ((⟨([]++TL.tl a).toArray⟩:Str),(" > " :Str),(⟨(TL.tl b).toArray⟩:Str))=_
  rw[List.nil_append,TL.mk_tl,TL.mk_tl]
 ·rw[List.getElem?_drop]
  intro q
  rcases Nat.lt_or_ge (i+1) (TL.tl a).length with z|z
  ·rw[List.getElem?_append_left z] at q
   exact h (List.mem_of_getElem? q)
  ·rw[List.getElem?_append_right z,show i+1 -(TL.tl a).length=0 by omega] at q
   simp at q
theorem HV {c:Co} (h:qv c): ∀w∈[c.a,num c.b,num c.c],32∉TL.tl w/\58∉TL.tl w:=fun w hw=>by
 simp only[List.mem_cons,List.not_mem_nil,or_false] at hw
 rcases hw with rfl|rfl|rfl
 ·exact⟨fun m=>by have:=h.name _ m;omega,fun m=>by have:=h.name _ m;omega⟩
 ·exact⟨fun m=>by have:=ft (i:=c.b) (by have:=h.need1;omega) _ m;omega,fun m=>by have:=ft (i:=c.b) (by have:=h.need1;omega) _ m;omega⟩
 ·exact⟨fun m=>by have:=ft h.rank0 _ m;omega,fun m=>by have:=ft h.rank0 _ m;omega⟩
theorem Hb {c:Co} (h:qv c):58∉TL.tl (hd c):=fun m=>by
 unfold hd at m
 rw[kE] at m
 simp only[List.mem_append,List.mem_singleton] at m
 have:=HV h
 rcases m with m|m|m|m|m
 ·exact (this c.a (by simp)).2 m
 ·omega
 ·exact (this (num c.b) (by simp)).2 m
 ·omega
 ·exact (this (num c.c) (by simp)).2 m
theorem EY {s:T3 Str Int Str} (h:jc s):62∉TL.tl (shS s):=fun m=>by
 unfold shS at m
 rw[kE] at m
 simp only[List.mem_append,List.mem_singleton] at m
 rcases m with m|m|m|m|m
 ·have:=(mr h.w).2 _ m;omega
 ·omega
 ·have:=ft (i:=s.b) (by have:=h.lo;omega) _ m;omega
 ·omega
 ·have:=u9 h.w _ m;omega
theorem yi {x:Str} {c:Co}:coO x=some c↔qv c/\x=shC c:=by
 constructor
 ·intro e
  unfold coO at e
  split at e
  ·rename_i a b d hw
   by_cases hn:mu a=true
   case neg=>rw[if_neg hn] at e;cases e
   rw[if_pos hn] at e
   obtain⟨n,e1,e⟩:=bind1 e
   obtain⟨k,e2,e⟩:=bind1 e
   obtain⟨g,e3,e⟩:=bind1 e
   obtain⟨t,e4,e⟩:=bind1 e
   cases e
   obtain⟨n1,n2,rfl⟩:=(jo (by decide) (by decide)).mp e1
   obtain⟨k1,k2,rfl⟩:=(jo (by decide) (by decide)).mp e2
   obtain⟨x1,x2,x3⟩:=nC.mp hn
   rcases yh (Txt.partition x ": ").2.2 " > " (by decide+kernel) with q|q
   ·obtain⟨g1,g2⟩:=ph.mp e3
    obtain⟨t1,t2⟩:=ph.mp e4
    rw[g2,t2] at q
    have hne:(Txt.partition x ": ").2.2≠Str.empty:=fun z=>by
     have:=congrArg (fun y=>(TL.tl y).length) (q.symm.trans z)
     simp only[TL.tl_append,List.length_append,rA,show TL.tl Str.empty=[] from rfl] at this
     simp at this
    rcases yh x ": " (by decide+kernel) with r|r
    ·refine⟨⟨x1,x2,x3,n1,n2,k1,k2,g1,t1⟩,?_⟩
     rw[r,q,<-oq (Txt.partition x ": ").1,hw]
     refine TL.ext_tl ?_
     unfold shC hd
     simp only[TL.tl_append,List.append_assoc]
    ·rw[r] at hne
     exact absurd rfl hne
   ·rw[q,CC] at e4
    cases e4
  ·cases e
 ·rintro⟨h,rfl⟩
  have p1:Txt.partition (shC c) ": " =(hd c,(": " :Str),shS c.d++" > " ++shS c.e):=by
   have:shC c=hd c++": " ++(shS c.d++" > " ++shS c.e):=rfl
   rw[this,TL.partition_app (s:=58) (S:=[32]) rfl (Hb h)]
  have p2:=Ha (b:=shS c.e) (EY h.d)
  have w:words (hd c)=[c.a,num c.b,num c.c]:=words_of (by simp) fun w hw=>(HV h w hw).1
  unfold coO
  rw[p1]
  show (match words (hd c) with| [a,b,c']=>_|_=>none)=_
  rw[w]
  show (if mu c.a=true then (fW (num c.b) 1 1000000).bind fun n=>(fW (num c.c) 0 1000000).bind fun k=>(mw (Txt.partition (shS c.d++" > " ++shS c.e) " > ").1).bind fun g=>(mw (Txt.partition (shS c.d++" > " ++shS c.e) " > ").2.2).bind fun t=>some (⟨c.a,n,k,g,t⟩:Co) else none)=_
  rw[p2,if_pos (nC.mpr ⟨h.name,h.n1,h.n8⟩),(jo (by decide) (by decide)).mpr ⟨h.need1,h.need,rfl⟩,(jo (by decide) (by decide)).mpr ⟨h.rank0,h.rank,rfl⟩,ph.mpr ⟨h.d,rfl⟩,ph.mpr ⟨h.e,rfl⟩]
  rfl
def lO (x:Str) (lo hi:Int):Option Int:=if (TL.tl x).all dig=true then (if lM x 12=true then (if lo<=vH x/\vH x<=hi then some (vH x) else none) else none) else none
theorem EZ {x:Str} {lo hi:Int} (h:x.length<=2000):cV x lo hi=some (lO x lo hi):=by
 unfold cV
 rw[aL,T.pE,iB]
 change tF0 ((iH eZ ((TL.tl x).map fun c=>(⟨#[c]⟩:Str)) ()).bind _)=_
 rw[tQ (p:=dig) (r:=⟨none⟩) (TL.tl x) fun c hc=>by
  unfold eZ
  rw[show ("0" :Str)=⟨#[48]⟩ from rfl,show ("9" :Str)=⟨#[57]⟩ from rfl,chS,fb,aO]
  change _=some (if decide (48<=c/\c<=57)=true then _ else _)
  cases decide (48<=c/\c<=57) <;> rfl]
 unfold lO
 cases q:(TL.tl x).all dig with
 |false=>rfl
 |true=>
  rw[if_pos rfl,if_pos rfl,Option.bind_some,qX,aL,zI h,chI]
  change tF0 (cE (orB (eP (some (lM x 12))) _) _ _ _)=_
  cases q2:lM x 12 with
  |false=>rfl
  |true=>
   rw[fb,fD,Bool.not_true,if_neg Bool.false_ne_true,aL,intD q q2,chI,fb,aO,←Bool.decide_and,if_pos rfl]
   by_cases q3:lo<=vH x/\vH x<=hi
   ·rw[decide_eq_true q3,if_pos q3];rfl
   ·rw[decide_eq_false q3,if_neg q3];rfl
theorem vf {i lo hi:Int} (h:0<=i) (h2:i<=1000000) (h3:lo<=i) (h4:i<=hi):lO (num i) lo hi=some i:=by
 obtain⟨w,d⟩:=tR h (by omega)
 obtain⟨w1,w2⟩:=Bool.and_eq_true_iff.mp w
 unfold lO
 rw[d,if_pos w1,if_pos (Bool.and_eq_true_iff.mp w2).1,if_pos ⟨h3,h4⟩]
theorem k8 {x:Str} {lo hi n:Int} (h:lO x lo hi=some n):lo<=n/\n<=hi:=by
 unfold lO at h
 split at h
 ·split at h
  ·split at h
   ·rename_i q
    cases h;exact q
   ·cases h
  ·cases h
 ·cases h
theorem E2: ∀{xs:List Str},xs.Nodup->jw xs=xs
 | [],_=>rfl
 |x::xs,h=>by
  obtain⟨h1,h2⟩:=List.nodup_cons.mp h
  unfold jw
  rw[if_neg h1,E2 h2]
theorem E3 {xs:List Str} (h:xs.Pairwise bQ):xs.Nodup:=h.imp fun {a b} h e=>by
 subst e
 exact cZ _ h
theorem Hc (xs:List Str):xs=fL (jw xs)↔xs.Pairwise bQ:=by
 constructor
 ·intro h
  rw[h]
  exact tG (iG xs).1
 ·intro h
  rw[E2 (E3 h),GO h]
theorem uI {xs:List Str} {t:Str->Option Bool} (p:Str->Bool) (hl:xs.length<=sizeLine) (h: ∀x∈xs,t x=some (p x)):tlc (some xs) t (fun x=>some x)=some (xs.filter p):=by
 show tlc (some xs) t (fun x=>some (id x))=_
 rw[xB p id hl h fun _ _ _=>rfl,List.map_id]
theorem E4 (x:Str):T.sgs x=(TL.tl x).map fun c=>(⟨#[c]⟩:Str):=rfl
theorem Hf {m:Str} (h:m.length<=400):fj m=some (nB none (TL.tl m)):=by
 have:=big
 unfold fj
 rw[aL,T.pE,E4,uI (fun x=>(x.cps.toList).all low) (by rw[List.length_map,←ltl];omega) fun x hx=>by
  obtain⟨c,hc,rfl⟩:=List.mem_map.mp hx
  rw[show ("a" :Str)=⟨#[97]⟩ from rfl,show ("z" :Str)=⟨#[122]⟩ from rfl,chS]
  show some (low c)=some (low c&&true)
  rw[Bool.and_true],Option.bind_some,aL,T.nT,aL,zI (by omega),av,T.kN]
 have ef:(((TL.tl m).map fun c=>(⟨#[c]⟩:Str)).filter fun x=>(x.cps.toList).all low)=((TL.tl m).filter low).map fun c=>(⟨#[c]⟩:Str):=by
  rw[List.filter_map]
  congr 1
  refine List.filter_congr fun c _=> ?_
  show (low c&&true)=low c
  rw[Bool.and_true]
 rw[ef,List.length_map,ltl]
 by_cases q: ∀c∈TL.tl m,low c=true
 ·have e:(TL.tl m).filter low=TL.tl m:=List.filter_eq_self.mpr q
  rw[e,decide_eq_true rfl,pA,if_pos rfl,aL]
  have nb:(jw ((TL.tl m).map fun c=>(⟨#[c]⟩:Str))).length<64:=by
   have nd:=(iG ((TL.tl m).map fun c=>(⟨#[c]⟩:Str))).1
   have sub: ∀x∈jw ((TL.tl m).map fun c=>(⟨#[c]⟩:Str)),x∈(List.range 26).map fun i=>(⟨#[97+i]⟩:Str):=fun x hx=>by
    obtain⟨c,hc,rfl⟩:=List.mem_map.mp (((iG _).2 x).mp hx)
    have:=of_decide_eq_true (q c hc)
    exact List.mem_map.mpr ⟨c -97,List.mem_range.mpr (by omega),by rw[show 97+(c -97)=c by omega]⟩
   have:=lj nd sub
   rw[List.length_map,List.length_range] at this
   omega
  have su:T.Ab ((TL.tl m).map fun c=>(⟨#[c]⟩:Str))=some (fL (jw ((TL.tl m).map fun c=>(⟨#[c]⟩:Str)))):=if_pos ⟨by rw[List.length_map,←ltl];omega,nb⟩
  rw[su,av]
  have okA: ∀(xs:List Str),(∀x∈xs,PySem.PyData.strOk x=true)->So.ok xs=true:=fun xs h=>List.all_eq_true.mpr h
  have ok1: ∀x∈(TL.tl m).map fun c=>(⟨#[c]⟩:Str),PySem.PyData.strOk x=true:=fun x hx=>by
   obtain⟨c,hc,rfl⟩:=List.mem_map.mp hx
   have:=of_decide_eq_true (q c hc)
   unfold PySem.PyData.strOk
   rw[Array.all_eq_true']
   intro d hd
   have:d=c:=by simpa using Array.mem_toList_iff.mpr hd
   rw[decide_eq_true_eq];omega
  have ok2: ∀x∈fL (jw ((TL.tl m).map fun c=>(⟨#[c]⟩:Str))),PySem.PyData.strOk x=true:=fun x hx=>ok1 x (((iG _).2 x).mp (((aV _).mem_iff).mp hx))
  rw[show T.eqD ((TL.tl m).map fun c=>(⟨#[c]⟩:Str)) (fL (jw ((TL.tl m).map fun c=>(⟨#[c]⟩:Str))))=some (decide ((TL.tl m).map (fun c=>(⟨#[c]⟩:Str))=fL (jw ((TL.tl m).map fun c=>(⟨#[c]⟩:Str))))) from by
   unfold T.eqD
   rw[if_pos (by rw[okA _ ok1,okA _ ok2];rfl)],rP,xA]
  congr 1
  rw[Bool.eq_iff_iff,decide_eq_true_eq,Hc,List.pairwise_map,lN]
  have:(TL.tl m).Pairwise (fun a b=>bQ ⟨#[a]⟩ ⟨#[b]⟩)↔(TL.tl m).Pairwise (· < ·):=⟨fun h=>h.imp fun {a b} h=>(lt1 a b).mp h,fun h=>h.imp fun {a b} h=>(lt1 a b).mpr h⟩
  rw[this]
  exact⟨fun h=>⟨fun c hc=>by have:=of_decide_eq_true (q c hc);omega,h,fun q z=>by cases z⟩,fun h=>h.2.1⟩
 ·have ne:((TL.tl m).filter low).length≠(TL.tl m).length:=fun z=>q fun c hc=>by
   have:(TL.tl m).filter low=TL.tl m:=List.filter_sublist.eq_of_length z
   exact (List.filter_eq_self.mp this) c hc
  rw[decide_eq_false (by omega),pA,if_neg Bool.false_ne_true]
  have:nB none (TL.tl m)=false:=by
   cases w:nB none (TL.tl m) with
   |false=>rfl
   |true=>
    exfalso
    exact q fun c hc=>decide_eq_true (by have:=((lN _ _).mp w).1 c hc;omega)
  rw[this];rfl
def fm (g z m:Str):Option (T3 Str Int Str):=if g∈uJ then (lO z 1 99).bind fun n=>if nB none (TL.tl (if m="-" then ("" :Str) else m))=true then some ⟨g,n,if m="-" then ("" :Str) else m⟩ else none else none
theorem E5 {g z m:Str} (hz:z.length<=400) (hm:m.length<=400):dN [g,z,m]=some (fm g z m):=by
 have a0:T.atL [g,z,m] 0=some g:=rfl
 have a1:T.atL [g,z,m] 1=some z:=rfl
 have a2:T.atL [g,z,m] 2=some m:=rfl
 have gi:T.inA true g uJ=some (!decide (g∈uJ)):=rfl
 unfold dN fm
 simp only[T.fN,T.HG,aL,T.nT,av,T.uA,a0,gi,a1,a2]
 rw[show decide ((([g,z,m]:List Str).length:Int)=3)=true from rfl,Bool.not_true,fD,if_neg Bool.false_ne_true,aO]
 by_cases hg:g∈uJ
 ·rw[decide_eq_true hg,Bool.not_true,if_neg Bool.false_ne_true,if_pos hg,Option.bind_some,bj,Option.bind_some,T.kN,aO]
  have st: ∀y:Str,y=(if m="-" then ("" :Str) else m)->(b3 cV (some z) (some (1:Int)) (some (99:Int))).bind (fun d5=>cE (orB (T.isN d5 ()) (eP (fj y))) (bR (some (none:(Option (T3 Str Int Str)))) (fun r=>(⟨r⟩:R0 (Option (T3 Str Int Str))))) (some (.nx ())) fun(y6:Unit)=>bR ((b3 T.tri (some g) ((some d5).bind id) (some y)).map some) (fun r=>(⟨r⟩:R0 (Option (T3 Str Int Str)))))=(some (.ret ⟨(lO z 1 99).bind fun n=>if nB none (TL.tl (if m="-" then ("" :Str) else m))=true then some ⟨g,n,if m="-" then ("" :Str) else m⟩ else none⟩):Option (TO PEmpty PEmpty (R0 (Option (T3 Str Int Str))))):=fun y hy=>by
   rw[nM,EZ (by omega),Option.bind_some,←hy]
   cases lO z 1 99 with
   |none=>rfl
   |some n=>
    have yl:y.length<=400:=by
     rw[hy]
     split
     ·decide
     ·exact hm
    rw[Hf yl]
    show cE (orB (some false) (eP (some (nB none (TL.tl y))))) _ _ _=(some (.ret (⟨if nB none (TL.tl y)=true then some (⟨g,n,y⟩:T3 Str Int Str) else none⟩:R0 (Option (T3 Str Int Str)))):Option (TO PEmpty PEmpty (R0 (Option (T3 Str Int Str)))))
    rw[fD,if_neg Bool.false_ne_true,fb,aO]
    cases nB none (TL.tl y) <;> rfl
  by_cases hm':m="-"
  ·rw[decide_eq_true hm',if_pos rfl,Option.bind_some,Option.bind_some,bj,st "" (by rw[if_pos hm'])];rfl
  ·rw[decide_eq_false hm',if_neg Bool.false_ne_true,Option.bind_some,bj,st m (by rw[if_neg hm'])];rfl
 ·rw[decide_eq_false hg,Bool.not_false,if_pos rfl,if_neg hg];rfl
theorem rC {g z m:Str} {s:T3 Str Int Str} (h:fm g z m=some s):jc s:=by
 unfold fm at h
 by_cases hg:g∈uJ
 case neg=>rw[if_neg hg] at h;cases h
 rw[if_pos hg] at h
 obtain⟨n,e1,e2⟩:=bind1 h
 obtain⟨q,e3⟩:=aH e2
 cases e3
 obtain⟨n1,n2⟩:=k8 e1
 obtain⟨r1,r2,_⟩:=(lN _ _).mp q
 exact⟨hg,n1,n2,r2,r1,BP r1 r2⟩
theorem zP {s:T3 Str Int Str} (h:jc s):fm s.a (num s.b) (mk s)=some s:=by
 have e:(if mk s="-" then ("" :Str) else mk s)=s.c:=by
  by_cases q:s.c=("" :Str)
  ·have e0:mk s="-" :=if_pos q
   rw[if_pos e0,q]
  ·have e:mk s=s.c:=if_neg q
   have ne:s.c≠("-" :Str):=fun z=>by
    have:=h.low 45 (by rw[z];decide)
    omega
   rw[e,if_neg ne]
 unfold fm
 rw[if_pos h.grp,vf (by have:=h.lo;omega) (by have:=h.hi;omega) h.lo h.hi,Option.bind_some,e,if_pos ((lN _ _).mpr ⟨h.low,h.rise,fun q z=>by cases z⟩)]
def zQ (x:Str):Str:=L2.cutS x none (some (-1))
theorem BQ (x:Str):TL.tl (zQ x)=(TL.tl x).take ((TL.tl x).length -1):=by
 show ((x.cps.toList.drop 0).take (HT.sIx x.length x.length (some (-1)) -0))=_
 rw[List.drop_zero,Nat.sub_zero]
 have:HT.sIx x.length x.length (some (-1))=(TL.tl x).length -1:=by
  show (if (-1:Int)<0 then ((-1:Int)+(x.length:Int)).toNat else min (-1:Int).toNat x.length)=_
  rw[if_pos (by decide),ltl];omega
 rw[this]
def zR (t:Str) (ws:List Str):Option Co:=match ws with
 | [a,b,c,g1,z1,m1,_,g2,z2,m2]=>if mu a=true then (fm g1 z1 m1).bind fun d=>(fm g2 z2 m2).bind fun e=>(lO b 1 1000000).bind fun n=>(lO (zQ c) 0 1000000).bind fun k=>if shC ⟨a,n,k,d,e⟩=t then some ⟨a,n,k,d,e⟩ else none else none
 |_=>none
theorem Jw:T.kQ 10 6=some 1000000:=by
 rw[T.Bw (by decide) (by decide) (by decide)];rfl
theorem Jx {t:Str} (h:t.length<=400):kA t=some (zR t (words t)):=by
 have:=big
 unfold kA
 rw[av,yg (by omega),Option.bind_some,aL,T.nT,av,T.uA]
 have wl:=fun w (m:w∈words t)=>Nat.le_trans (rZ m) h
 generalize words t=ws at wl
 by_cases hl:ws.length=10
 case neg=>
  rw[decide_eq_false (by omega),Bool.not_false,fD,if_pos rfl,aO,if_pos rfl]
  have:zR t ws=none:=by
   unfold zR
   split
   ·exact absurd rfl hl
   ·rfl
  rw[this];rfl
 match ws,wl,hl with
 | [a,b,c,g1,z1,m1,s,g2,z2,m2],wl,_=>
  have la:=wl a (by simp)
  have lc:=wl c (by simp)
  have a0:T.atL [a,b,c,g1,z1,m1,s,g2,z2,m2] 0=some a:=rfl
  have a1:T.atL [a,b,c,g1,z1,m1,s,g2,z2,m2] 1=some b:=rfl
  have a2:T.atL [a,b,c,g1,z1,m1,s,g2,z2,m2] 2=some c:=rfl
  have c1:T.dO [a,b,c,g1,z1,m1,s,g2,z2,m2] (some 3) (some 6)=some [g1,z1,m1]:=rfl
  have c2:T.dO [a,b,c,g1,z1,m1,s,g2,z2,m2] (some 7) none=some [g2,z2,m2]:=rfl
  have c3:T.cutS c none (some (-1))=some (zQ c):=if_pos (by omega)
  have lce:(zQ c).length<=400:=by
   rw[ltl,BQ,List.length_take,←ltl];omega
  simp only[aL,av,a0,a1,a2,T.Eh,T.GJ,vW,c1,c2,c3,E5 (wl z1 (by simp)) (wl m1 (by simp)),E5 (wl z2 (by simp)) (wl m2 (by simp)),T.fN,T.yW,Jw,nM,EZ (x:=b) (lo:=1) (hi:=1000000) (by have:=wl b (by simp);omega),EZ (x:=zQ c) (lo:=0) (hi:=1000000) (by omega)]
  rw[zI (by omega),chI]
  change tF0 (cE (orB (some false) (eP (some (lM a 8)))) _ _ _)=_
  change _=some (if ((TL.tl a).all low&&lM a 8)=true then _ else none)
  rw[fD,if_neg Bool.false_ne_true,fb,aO]
  cases q8:lM a 8 with
  |false=>rw[Bool.and_false];rfl
  |true=>
   rw[Bool.not_true,if_neg Bool.false_ne_true,Option.bind_some,bj,T.pE,iB,Bool.and_true]
   change tF0 ((iH hV ((TL.tl a).map fun c=>(⟨#[c]⟩:Str)) ()).bind _)=_
   rw[tQ (p:=low) (r:=⟨none⟩) (TL.tl a) fun c hc=>by
    unfold hV
    rw[show ("a" :Str)=⟨#[97]⟩ from rfl,show ("z" :Str)=⟨#[122]⟩ from rfl,chS,fb,aO]
    change _=some (if decide (97<=c/\c<=122)=true then _ else _)
    cases decide (97<=c/\c<=122) <;> rfl]
   cases qn:(TL.tl a).all low with
   |false=>rfl
   |true=>
    rw[if_pos rfl,if_pos rfl,Option.bind_some,qX,Option.bind_some,Option.bind_some,Option.bind_some]
    rw[show T.atL [fm g1 z1 m1,fm g2 z2 m2] 0=some (fm g1 z1 m1) from rfl,show T.atL [fm g1 z1 m1,fm g2 z2 m2] 1=some (fm g2 z2 m2) from rfl]
    cases e1:fm g1 z1 m1 with
    |none=>rfl
    |some d=>
     cases e2:fm g2 z2 m2 with
     |none=>rfl
     |some e=>
      cases e3:lO b 1 1000000 with
      |none=>rfl
      |some n=>
       cases e4:lO (zQ c) 0 1000000 with
       |none=>rfl
       |some k=>
        have lb:=q8
        obtain⟨x1,x2,x3⟩:=nC.mp (show mu a=true by unfold mu;rw[qn,lb];rfl)
        have ok:qv (⟨a,n,k,d,e⟩:Co):=⟨x1,x2,x3,(k8 e3).1,(k8 e3).2,(k8 e4).1,(k8 e4).2,rC e1,rC e2⟩
        show tF0 (cE (b2 T.neA (bP (⟨a,n,k,d,e⟩:Co)) (some t)) (bR (some (none:Option Co)) fun r=>(⟨r⟩:R0 (Option Co))) (some (.nx ())) fun(y12:Unit)=>bR (Option.map some (some (⟨a,n,k,d,e⟩:Co))) fun r=>(⟨r⟩:R0 (Option Co)))=some (if shC (⟨a,n,k,d,e⟩:Co)=t then some (⟨a,n,k,d,e⟩:Co) else none)
        rw[vc ok.w,av,T.uA,aO]
        by_cases q:shC (⟨a,n,k,d,e⟩:Co)=t
        ·rw[decide_eq_true q,if_pos q];rfl
        ·rw[decide_eq_false q,if_neg q];rfl
theorem Hg {t:Str} {ws:List Str} {c:Co} (h:zR t ws=some c):qv c/\shC c=t:=by
 unfold zR at h
 split at h
 ·rename_i a b c' g1 z1 m1 _ g2 z2 m2
  by_cases hn:mu a=true
  case neg=>rw[if_neg hn] at h;cases h
  rw[if_pos hn] at h
  obtain⟨d,e1,h1⟩:=bind1 h
  obtain⟨e,e2,h2⟩:=bind1 h1
  obtain⟨n,e3,h3⟩:=bind1 h2
  obtain⟨k,e4,h4⟩:=bind1 h3
  obtain⟨q,h5⟩:=aH h4
  cases h5
  obtain⟨x1,x2,x3⟩:=nC.mp hn
  exact⟨⟨x1,x2,x3,(k8 e3).1,(k8 e3).2,(k8 e4).1,(k8 e4).2,rC e1,rC e2⟩,q⟩
 ·cases h
abbrev ten (c:Co):List Str:=[c.a,num c.b,num c.c++":",c.d.a,num c.d.b,mk c.d,">",c.e.a,num c.e.b,mk c.e]
theorem zS {s:T3 Str Int Str} (h:pX s):32∉TL.tl s.a/\32∉TL.tl (num s.b)/\32∉TL.tl (mk s):=
 ⟨fun m=>by have:=(mr h).2 _ m;omega,fun m=>by have:=ft h.lo _ m;omega,fun m=>by have:=u9 h _ m;omega⟩
theorem nD {c:Co} (h:CoW c):words (shC c)=ten c:=by
 have e:shC c=Txt.join " " (ten c):=by
  refine TL.ext_tl ?_
  rw[TL.join_eq,TL.tl_join,u7]
  unfold shC hd shS
  simp only[TL.tl_append,kE,pf,rA,List.map_cons,List.map_nil,TL.joinL,List.append_assoc]
  rfl
 rw[e]
 refine words_of (by simp) fun w hw=> ?_
 obtain⟨d1,d2,d3⟩:=zS h.d
 obtain⟨e1,e2,e3⟩:=zS h.e
 simp only[List.mem_cons,List.not_mem_nil,or_false] at hw
 rcases hw with rfl|rfl|rfl|rfl|rfl|rfl|rfl|rfl|rfl|rfl
 ·exact fun m=>by have:=h.name _ m;omega
 ·exact fun m=>by have:=ft h.need0 _ m;omega
 ·intro m
  rw[TL.tl_append] at m
  rcases List.mem_append.mp m with m|m
  ·have:=ft h.rank0 _ m;omega
  ·revert m;decide
 ·exact d1
 ·exact d2
 ·exact d3
 ·decide
 ·exact e1
 ·exact e2
 ·exact e3
theorem vg (k:Int):zQ (num k++":")=num k:=by
 refine TL.ext_tl ?_
 rw[BQ,TL.tl_append,List.length_append,show (TL.tl (":" :Str)).length=1 from by decide,Nat.add_sub_cancel,List.take_left]
theorem Hh {c:Co} (h:qv c):zR (shC c) (words (shC c))=some c:=by
 rw[nD h.w]
 show (if mu c.a=true then (fm c.d.a (num c.d.b) (mk c.d)).bind fun d=>(fm c.e.a (num c.e.b) (mk c.e)).bind fun e=>(lO (num c.b) 1 1000000).bind fun n=>(lO (zQ (num c.c++":")) 0 1000000).bind fun k=>if shC (⟨c.a,n,k,d,e⟩:Co)=shC c then some (⟨c.a,n,k,d,e⟩:Co) else none else none)=some c
 rw[if_pos (nC.mpr ⟨h.name,h.n1,h.n8⟩),zP h.d,Option.bind_some,zP h.e,Option.bind_some,vf (by have:=h.need1;omega) h.need h.need1 h.need,Option.bind_some,vg,vf h.rank0 h.rank h.rank0 h.rank,Option.bind_some,if_pos rfl]
theorem Hi (t:Str):zR t (words t)=coO t:=by
 cases e:coO t with
 |some c=>
  obtain⟨h,rfl⟩:=yi.mp e
  exact Hh h
 |none=>
  cases e2:zR t (words t) with
  |none=>rfl
  |some c=>
   obtain⟨h,q⟩:=Hg e2
   rw[yi.mpr ⟨h,q.symm⟩] at e
   cases e
def Asc (x:Str):Prop:= ∀c∈TL.tl x,c<127
theorem Asc.ok {x:Str} (h:Asc x):PySem.PyData.strOk x=true:=by
 unfold PySem.PyData.strOk
 rw[Array.all_eq_true']
 intro c hc
 have:=h c (Array.mem_toList_iff.mpr hc)
 rw[decide_eq_true_eq];omega
theorem Asc.app {x y:Str} (h:Asc x) (g:Asc y):Asc (x++y):=fun c hc=>by
 rw[TL.tl_append] at hc
 rcases List.mem_append.mp hc with m|m
 ·exact h c m
 ·exact g c m
theorem k9 (x y:Str):(x++y).length=x.length+y.length:=by rw[TL.len_tl,TL.len_tl,TL.len_tl,TL.tl_append,List.length_append]
theorem yj {z:Str} (h:Asc z) (l:z.length<=2000) (lo hi:Option Int): ∃y,T.cutS z lo hi=some y/\Asc y/\y.length<=z.length:=by
 have:=big
 refine⟨L2.cutS z lo hi,if_pos (by omega),fun c hc=> ?_,?_⟩
 ·have:TL.tl (L2.cutS z lo hi)=(z.cps.toList.drop (HT.sIx z.length 0 lo)).take (HT.sIx z.length z.length hi -HT.sIx z.length 0 lo):=rfl
  rw[this] at hc
  exact h c (List.mem_of_mem_drop (List.mem_of_mem_take hc))
 ·rw[ltl,ltl]
  show ((z.cps.toList.drop (HT.sIx z.length 0 lo)).take (HT.sIx z.length z.length hi -HT.sIx z.length 0 lo)).length<=z.cps.toList.length
  rw[List.length_take,List.length_drop];omega
structure Ws (n B:Nat) (ws:List Str):Prop where
 len:ws.length<=n
 w: ∀w∈ws,Asc w/\w.length<=B
theorem wq (B:Nat): ∀(ls:List (List Nat)),(∀l∈ls,l.length<=B)->(TL.joinL [32] ls).length<=ls.length*(B+1)
 | [],_=>Nat.zero_le _
 | [p],h=>by
  show p.length<=1*(B+1)
  have:=h p (by simp)
  omega
 |p::q::r,h=>by
  show (p++([32]++TL.joinL [32] (q::r))).length<=_
  have h1:=h p (by simp)
  have:=wq B (q::r) fun l hl=>h l (List.mem_cons_of_mem _ hl)
  rw[List.length_append,List.length_append,List.length_cons (as:=q::r),Nat.succ_mul]
  show p.length+(1+_)<=_
  omega
theorem wu {c:Nat}: ∀(ls:List (List Nat)),c∈TL.joinL [32] ls->c=32\/ ∃l∈ls,c∈l
 | [],h=>by cases h
 | [p],h=>.inr ⟨p,by simp,h⟩
 |p::q::r,h=>by
  rcases List.mem_append.mp (show c∈p++([32]++TL.joinL [32] (q::r)) from h) with m|m
  ·exact .inr ⟨p,by simp,m⟩
  ·rcases List.mem_append.mp m with m|m
   ·exact .inl (by simpa using m)
   ·rcases wu (q::r) m with e|⟨l,hl,m⟩
    ·exact .inl e
    ·exact .inr ⟨l,List.mem_cons_of_mem _ hl,m⟩
theorem E6 {B:Nat}: ∀(ws:List Str),(∀w∈ws,w.length<=B)->(ws.map (·.length)).sum<=ws.length*B
 | [],_=>Nat.zero_le _
 |w::ws,h=>by
  rw[List.map_cons,List.sum_cons,List.length_cons,Nat.succ_mul]
  have:=h w (by simp)
  have:=E6 ws fun v hv=>h v (List.mem_cons_of_mem _ hv)
  omega
theorem Ws.join {n B:Nat} {ws:List Str} (h:Ws n B ws) (hs:n*(B+1)<=10000): ∃y,T.join " " ws=some y/\Asc y/\y.length<=n*(B+1):=by
 have hl:=h.len
 have s:=E6 (B:=B) ws fun w hw=>(h.w w hw).2
 have m1:ws.length*(B+1)<=n*(B+1):=Nat.mul_le_mul_right _ hl
 rw[Nat.mul_succ] at m1
 refine⟨Txt.join " " ws,if_pos ?_,fun c hc=> ?_,?_⟩
 ·show _+ws.length*1<=_
  omega
 ·rw[TL.join_eq,TL.tl_join,u7] at hc
  rcases wu _ hc with e|⟨l,hl,m⟩
  ·omega
  ·obtain⟨w,hw,rfl⟩:=List.mem_map.mp hl
   exact (h.w w hw).1 c m
 ·rw[ltl,TL.join_eq,TL.tl_join,u7]
  have:=wq B (ws.map TL.tl) fun l hl=>by
   obtain⟨w,hw,rfl⟩:=List.mem_map.mp hl
   rw[<-ltl];exact (h.w w hw).2
  rw[List.length_map,Nat.mul_succ] at this
  omega
theorem Ws.set {n B:Nat} {ws:List Str} (h:Ws n B ws) {i:Nat} {x:Str} (hx:Asc x/\x.length<=B):Ws n B (ws.set i x):=
 ⟨by rw[List.length_set];exact h.len,fun w hw=>by
  rcases List.mem_or_eq_of_mem_set hw with m|e
  ·exact h.w w m
  ·rw[e];exact hx⟩
theorem Ws.cut {n B:Nat} {ws:List Str} (h:Ws n B ws) (lo hi:Option Int):Ws n B (Sw.dO ws lo hi):=
 ⟨by
  have:=h.len
  show ((ws.drop _).take _).length<=_
  rw[List.length_take,List.length_drop];omega,fun w hw=>h.w w (List.mem_of_mem_drop (List.mem_of_mem_take hw))⟩
theorem BR {ws:List Str} {p:Int} (h:0<=p):(Sw.dO ws none (some p)).length+(Sw.dO ws (some p) none).length=ws.length:=by
 obtain⟨k,rfl⟩:=Int.eq_ofNat_of_zero_le h
 have e:HT.sIx ws.length ws.length (some (k:Int))=min k ws.length:=HT.sIx_nat _ _ _
 have e':HT.sIx ws.length 0 (some (k:Int))=min k ws.length:=HT.sIx_nat _ _ _
 show ((ws.drop 0).take (HT.sIx ws.length ws.length (some (k:Int)) -0)).length+((ws.drop (HT.sIx ws.length 0 (some (k:Int)))).take (ws.length -HT.sIx ws.length 0 (some (k:Int)))).length=_
 rw[e,e',List.length_take,List.length_take,List.length_drop,List.length_drop];omega
theorem yn {ws:List Str} {i:Int} (h0:0<=i) (h1:i<ws.length): ∃x,T.atL ws i=some x/\x∈ws:=by
 rw[T.tn h0 h1]
 exact⟨_,rfl,List.getElem_mem _⟩
theorem E7 (a:Int) {n:Nat} (h:0<n):0<=a%(n:Int)/\a%(n:Int)<n:=⟨Int.emod_nonneg _ (by omega),Int.emod_lt_of_pos _ (by omega)⟩
theorem MJ {k:Int} (h:k=0\/k=1): ∃y,T.wN ":" k=some y/\Asc y/\y.length<=1:=by
 have e:T.wN (":" :Str) k=some (Txt.mul ":" k):=by
  unfold T.wN
  refine qJ ?_
  rcases h with rfl|rfl
  ·exact⟨by decide,fun z=>absurd (by decide:(0:Int)<1) z,fun z=>absurd (by decide:(0:Int)<1) z⟩
  ·exact⟨by decide,fun _ z=>by simp at z,fun _ z=>by simp at z⟩
 refine⟨_,e,?_⟩
 rcases h with rfl|rfl
 ·exact⟨(fun c hc=>by cases hc),by decide+kernel⟩
 ·refine⟨?_,by decide+kernel⟩
  show ∀c∈TL.tl (Txt.mul (":" :Str) 1),c<127
  decide+kernel
theorem sign_of {z:Str} (hz:Asc z) (h1:0<z.length) (h2:z.length<=200) (v:Int): ∃y,T.atS z (v%(z.length:Int))=some y/\Asc y/\y.length=1:=by
 have:=big
 obtain⟨m0,m1⟩:=E7 v h1
 have hi:(v%(z.length:Int)).toNat<(TL.tl z).length:=by rw[<-ltl];omega
 refine⟨⟨#[(TL.tl z)[(v%(z.length:Int)).toNat]]⟩,?_,fun c hc=> ?_,rfl⟩
 ·unfold T.atS
  rw[if_pos (by omega),E4,atI_nat m0 (by rw[List.length_map,←ltl];omega),List.getElem?_map,List.getElem?_eq_getElem hi];rfl
 ·have:c=(TL.tl z)[(v%(z.length:Int)).toNat]:=List.mem_singleton.mp (show c∈[(TL.tl z)[(v%(z.length:Int)).toNat]] from hc)
  rw[this]
  exact hz _ (List.getElem_mem _)
theorem KZ (v:Int): ∃y,iK v=some y/\Asc y/\y.length=1:=by
 obtain⟨z,hz⟩: ∃z:Str,z=(" !\"#$&'()*+,-./0123456789:;<=>?@ABCDEFGHIJKLMNOPQRSTUVWXYZ[\\]^_`" :Str)++("abcdefghijklmnopqrstuvwxyz{|}~" :Str):=⟨_,rfl⟩
 have e1:T.fK (" !\"#$&'()*+,-./0123456789:;<=>?@ABCDEFGHIJKLMNOPQRSTUVWXYZ[\\]^_`" :Str) ("abcdefghijklmnopqrstuvwxyz{|}~" :Str)=some z:=by
  rw[hz];exact T.xr (by decide+kernel)
 have l:z.length=94:=by rw[hz];decide+kernel
 have lo:Asc z:=by rw[hz];show ∀c∈TL.tl _,c<127;decide+kernel
 have lo2:Asc ("0123456789: >-abAB" :Str):=by show ∀c∈TL.tl _,c<127;decide+kernel
 have l2:("0123456789: >-abAB" :Str).length=18:=by decide+kernel
 unfold iK
 rw[Option.bind_some,av,e1,Option.bind_some,av,T.bw (by decide),av,T.kN,aO,av,T.iU (by decide) (by decide)]
 by_cases q:v%2=0
 ·obtain⟨y,ey,hy⟩:=sign_of lo2 (by rw[l2];decide) (by rw[l2];decide) (v/2)
  refine⟨y,?_,hy⟩
  rw[decide_eq_true q,if_pos rfl,Option.bind_some,Option.bind_some,bj,aL,zI (by rw[l2];decide),av,T.bw (by rw[l2];decide),av,ey];rfl
 ·obtain⟨y,ey,hy⟩:=sign_of lo (by rw[l];decide) (by rw[l];decide) (v/2)
  refine⟨y,?_,hy⟩
  rw[decide_eq_false q,if_neg Bool.false_ne_true,Option.bind_some,bj,aL,zI (by rw[l];decide),av,T.bw (by rw[l];decide),av,ey];rfl
theorem MK (v:Int): ∃y,eY v=some y/\Asc y/\y.length<=26:=by
 have:=big
 obtain⟨l,hl⟩: ∃l:List Str,l=(["0","1000000","1000001","00","01","99","100","1000000000000","-","","O","AB","BA","ABO","o"]:List Str)++(["ba","aa","az","za","abcdefghijklmnopqrstuvwxyz","a-","--",">",":","0:","fox","abcdefghi"]:List Str):=⟨_,rfl⟩
 have ad:T.qL (["0","1000000","1000001","00","01","99","100","1000000000000","-","","O","AB","BA","ABO","o"]:List Str) (["ba","aa","az","za","abcdefghijklmnopqrstuvwxyz","a-","--",">",":","0:","fox","abcdefghi"]:List Str)=some l:=by
  rw[hl];exact T.tE (by show 15+12<=_;omega)
 have ll:l.length=27:=by rw[hl];rfl
 have la: ∀w∈l,(∀c∈TL.tl w,c<127)/\w.length<=26:=by rw[hl];decide+kernel
 have ls: ∀xs:List Str,xs.length<=100->T.lst (some xs)=some xs:=fun xs h=>if_pos (by omega)
 obtain⟨m0,m1⟩:=E7 v (show 0<27 by decide)
 obtain⟨y,ey,hy⟩:=yn (ws:=l) (i:=v%27) m0 (by rw[ll];exact m1)
 refine⟨y,?_,la y hy⟩
 unfold eY
 simp only[T.fN]
 rw[ls _ (by simp),Option.bind_some,ls _ (by simp),av,ad,Option.bind_some,aL,T.nT,ll,av,show ((27:Nat):Int)=27 from rfl,T.bw (by decide),av,ey];rfl
theorem Jy {c:Co} (h:qv c):Ws 10 28 (ten c):=by
 refine⟨Nat.le_refl _,fun w hw=> ?_⟩
 have ln: ∀{i:Int},0<=i->i<=1000001->Asc (num i)/\(num i).length<=7:=fun h h2=>⟨fun c hc=>by have:=ft h c hc;omega,by rw[ltl];exact mq h h2⟩
 have lm: ∀{s:T3 Str Int Str},jc s->(Asc s.a/\s.a.length<=28)/\(Asc (num s.b)/\(num s.b).length<=28)/\(Asc (mk s)/\(mk s).length<=28):=fun {s} h=>
  ⟨⟨fun c hc=>by have:=(mr h.w).2 c hc;omega,by rw[ltl];have:=(mr h.w).1;omega⟩,⟨(ln (by have:=h.lo;omega) (by have:=h.hi;omega)).1,by have:=(ln (i:=s.b) (by have:=h.lo;omega) (by have:=h.hi;omega)).2;omega⟩,⟨fun c hc=>by have:=u9 h.w c hc;omega,by rw[ltl];have:=AO h.w;omega⟩⟩
 obtain⟨d1,d2,d3⟩:=lm h.d
 obtain⟨e1,e2,e3⟩:=lm h.e
 have b:=ln (i:=c.b) (by have:=h.need1;omega) (by have:=h.need;omega)
 have r:=ln (i:=c.c) h.rank0 (by have:=h.rank;omega)
 simp only[List.mem_cons,List.not_mem_nil,or_false] at hw
 rcases hw with rfl|rfl|rfl|rfl|rfl|rfl|rfl|rfl|rfl|rfl
 ·exact⟨fun c hc=>by have:=h.name c hc;omega,by rw[ltl];have:=h.n8;omega⟩
 ·exact⟨b.1,by omega⟩
 ·exact⟨r.1.app (by show ∀c∈TL.tl (":" :Str),c<127;decide),by rw[k9,show (":" :Str).length=1 from rfl];omega⟩
 ·exact d1
 ·exact d2
 ·exact d3
 ·exact⟨by show ∀c∈TL.tl (">" :Str),c<127;decide,by decide+kernel⟩
 ·exact e1
 ·exact e2
 ·exact e3
theorem Jz {c:Co} (h:qv c) (v o:Int): ∃y,hO (shC c) v o=some y/\Asc y/\y.length<=400:=by
 have:=big
 have W:=Jy h
 have A:Asc (shC c):=fun x hx=>by
  have e:=oq (shC c)
  rw[nD h.w] at e
  obtain⟨y,ey,ay,_⟩:=W.join (by decide)
  have:Txt.join " " (ten c)=y:=by
   obtain⟨_,z⟩:=aH ey
   exact z
  rw[<-this,e] at ay
  exact ay x hx
 have Ll:(shC c).length<=120:=by
  have l1:=pG h.w.d
  have l2:=pG h.w.e
  have l4:=AQ h.w
  rw[ltl]
  unfold shC
  simp only[TL.tl_append,List.length_append,pf,rA,List.length_cons,List.length_nil];omega
 obtain⟨s,es,as,ls⟩:=KZ o
 obtain⟨w,ew,aw,lw⟩:=MK o
 unfold hO
 rw[av,T.bw (by decide),Option.bind_some,av,T.iU (by decide) (by decide),aL,zI (by omega),av,T.ik,av,T.bw (by omega),Option.bind_some,av,yg (by omega),Option.bind_some,nD h.w,aL,T.nT,show (((ten c).length:Nat):Int)=10 from rfl,av,T.bw (by decide),Option.bind_some,av,T.bw (by decide),Option.bind_some]
 generalize hp:v/9%((shC c).length+1)=p
 have p0:0<=p:=by rw[<-hp];exact Int.emod_nonneg _ (by omega)
 obtain⟨i0,i1⟩:=E7 (v/9) (show 0<10 by decide)
 obtain⟨j0,j1⟩:=E7 o (show 0<10 by decide)
 change 0<=v/9%10 at i0;change v/9%10<10 at i1;change 0<=o%10 at j0;change o%10<10 at j1
 generalize v/9%10=i at*
 generalize o%10=j at*
 generalize v%9=way
 obtain⟨u1,eu1,au1,lu1⟩:=yj A (by omega) none (some p)
 obtain⟨u2,eu2,au2,lu2⟩:=yj A (by omega) (some p) none
 obtain⟨u3,eu3,au3,lu3⟩:=yj A (by omega) (some (p+1)) none
 simp only[T.Eh,aL,vW,eu1,eu2,eu3,es,av,T.kN,T.ik,aO]
 have ad: ∀{x y:Str},x.length+y.length<=2000->T.fK x y=some (x++y):=fun h=>T.xr (by omega)
 have fin: ∀{ws:List Str},Ws 11 28 ws-> ∃y,tF0 (bR (T.join " " ws) fun r=>(⟨r⟩:R0 Str))=some y/\Asc y/\y.length<=400:=fun {ws} h=>by
  obtain⟨y,ey,a,l⟩:=h.join (by decide)
  exact⟨y,by rw[ey];rfl,a,by omega⟩
 have W11:Ws 11 28 (ten c):=⟨Nat.le_trans W.len (by decide),W.w⟩
 have il:i<((ten c).length:Nat):=i1
 have jl:j<((ten c).length:Nat):=j1
 obtain⟨x1,ex1,hx1⟩:=yn i0 il
 obtain⟨x2,ex2,hx2⟩:=yn j0 jl
 by_cases w0:way=0
 ·subst w0
  rw[decide_eq_true rfl,if_pos rfl,ad (by omega),av,ad (by rw[k9];omega)]
  exact⟨_,rfl,(au1.app as).app au2,by rw[k9,k9];omega⟩
 rw[decide_eq_false w0,if_neg Bool.false_ne_true,Option.bind_some,bj]
 by_cases w1:way=1
 ·subst w1
  rw[decide_eq_true rfl,if_pos rfl,ad (by omega)]
  exact⟨_,rfl,au1.app au3,by rw[k9];omega⟩
 rw[decide_eq_false w1,if_neg Bool.false_ne_true,Option.bind_some,bj]
 by_cases w2:way=2
 ·subst w2
  rw[decide_eq_true rfl,if_pos rfl,ad (by omega),av,ad (by rw[k9];omega)]
  exact⟨_,rfl,(au1.app as).app au3,by rw[k9,k9];omega⟩
 rw[decide_eq_false w2,if_neg Bool.false_ne_true,Option.bind_some,bj]
 by_cases w3:way=3
 ·subst w3
  rw[decide_eq_true rfl,if_pos rfl,ex1,Option.bind_some,ex2,T.xv i0 il,Option.bind_some,T.xv j0 (by rw[List.length_set];exact jl),Option.bind_some,Option.bind_some,bj]
  exact fin ((W11.set (W.w _ hx2)).set (W.w _ hx1))
 rw[decide_eq_false w3,if_neg Bool.false_ne_true,Option.bind_some,bj]
 by_cases w4:way=4
 ·subst w4
  have l1:=(W.cut none (some i)).len
  have l2:=(W.cut (some (i+1)) none).len
  have l3:(Sw.dO (ten c) none (some i)).length+(Sw.dO (ten c) (some (i+1)) none).length<=11:=by
   have a:=BR (ws:=ten c) (p:=i+1) (by omega)
   have b:(Sw.dO (ten c) none (some i)).length<=(Sw.dO (ten c) none (some (i+1))).length:=by
    obtain⟨k,rfl⟩:=Int.eq_ofNat_of_zero_le i0
    have e1:HT.sIx (ten c).length (ten c).length (some (k:Int))=min k (ten c).length:=HT.sIx_nat _ _ _
    have e2:HT.sIx (ten c).length (ten c).length (some ((k:Int)+1))=min (k+1) (ten c).length:=HT.sIx_nat _ _ (k+1)
    show (((ten c).drop 0).take (HT.sIx (ten c).length (ten c).length (some (k:Int)) -0)).length<=(((ten c).drop 0).take (HT.sIx (ten c).length (ten c).length (some ((k:Int)+1)) -0)).length
    rw[e1,e2,List.length_take,List.length_take];omega
   have:(ten c).length=10:=rfl
   omega
  rw[decide_eq_true rfl,if_pos rfl,T.tF,T.tF,av,T.tE (by omega),Option.bind_some,Option.bind_some,bj]
  exact fin ⟨by rw[List.length_append];exact l3,fun w hw=>by
   rcases List.mem_append.mp hw with m|m
   ·exact (W.cut _ _).w w m
   ·exact (W.cut _ _).w w m⟩
 rw[decide_eq_false w4,if_neg Bool.false_ne_true,Option.bind_some,bj]
 by_cases w5:way=5
 ·subst w5
  have l3:=BR (ws:=ten c) i0
  have l4:(ten c).length=10:=rfl
  rw[decide_eq_true rfl,if_pos rfl,T.tF,T.tF,ex2,T.fN,T.Kr,av,T.tE (by rw[List.length_singleton];omega),av,T.tE (by rw[List.length_append,List.length_singleton];omega),Option.bind_some,Option.bind_some,bj]
  exact fin ⟨by rw[List.length_append,List.length_append,List.length_singleton];omega,fun w hw=>by
   rcases List.mem_append.mp hw with m|m
   ·rcases List.mem_append.mp m with m|m
    ·exact (W.cut _ _).w w m
    ·rw[List.mem_singleton.mp m];exact W.w _ hx2
   ·exact (W.cut _ _).w w m⟩
 rw[decide_eq_false w5,if_neg Bool.false_ne_true,Option.bind_some,bj]
 by_cases w6:way=6
 ·subst w6
  have ka: ∃k:Int,b1 T.z9 (sT (some (decide (i=2))) (b2 T.eqA (b2 T.bu (T.gq o 40) (some 2)) (some 0)))=some k/\(k=0\/k=1):=by
   rw[T.iU (by decide) (by decide),av,T.bw (by decide),av,T.kN,pA]
   by_cases q:i=2
   ·rw[decide_eq_true q,if_pos rfl,aL]
    refine⟨_,rfl,?_⟩
    split
    ·exact .inr rfl
    ·exact .inl rfl
   ·rw[decide_eq_false q,if_neg Bool.false_ne_true,aL]
    exact⟨_,rfl,.inl rfl⟩
  obtain⟨k,ek,hk⟩:=ka
  obtain⟨y,ey,ay,ly⟩:=MJ hk
  rw[decide_eq_true rfl,if_pos rfl,ek,av (a:=(":" :Str)),ey,ew,av,ad (by omega),T.xv i0 il,Option.bind_some,Option.bind_some,bj]
  exact fin (W11.set ⟨aw.app ay,by rw[k9];omega⟩)
 rw[decide_eq_false w6,if_neg Bool.false_ne_true,Option.bind_some,bj]
 by_cases w7:way=7
 ·subst w7
  obtain⟨m0,m1⟩:=E7 o (show 0<2 by decide)
  obtain⟨y,ey,hy⟩:=yn (ws:=[u1,u2]) (i:=o%2) m0 m1
  rw[decide_eq_true rfl,if_pos rfl,T.fN,T.fN,T.yW,T.bw (by decide),av,ey]
  simp only[List.mem_cons,List.not_mem_nil,or_false] at hy
  rcases hy with rfl|rfl
  ·exact⟨y,rfl,au1,by omega⟩
  ·exact⟨y,rfl,au2,by omega⟩
 rw[decide_eq_false w7,if_neg Bool.false_ne_true,Option.bind_some,bj]
 exact fin W11
theorem K0 {x:Str} (h:x.length<=400):fJ x=some (zJ x (coO x)):=by
 unfold fJ
 rw[aL]
 have c:=G9 (x:=x) (by omega)
 cases e:coO x with
 |none=>
  rw[e] at c
  obtain⟨z,c⟩:=c
  rw[c]
  show tX0 (if (rB z).C=("NoRow" :Str) then _ else none)=_
  rw[if_pos (show (rB z).C=("NoRow" :Str) from rfl)];rfl
 |some v=>
  rw[e] at c
  rw[show fV x=some (.inr v) from c];rfl
def zT (x:Str):Option Co×Option (T4 Str Bool Bool Bool):=match coO x with
 |some c=>(some c,none)
 |none=>(none,some ⟨x,true,true,false⟩)
theorem HW {x:Str} (h:x.length<=400):iL x=some (zT x):=by
 unfold iL zT
 rw[Option.bind_some,Option.bind_some,aL,K0 h]
 cases coO x with
 |some c=>rfl
 |none=>
  have e1:yU "NoRow" "row" (rB x)=some x:=by
   unfold yU
   rw[if_pos (show (rB x).C=("NoRow" :Str) from rfl)];rfl
  have e2: ∀b,T.isX "NoRow" b (rB x)=some b:=fun b=>if_pos rfl
  simp only[Je,tsB,zJ,Option.map_some,Option.bind_some]
  rw[if_pos (show (rB x).C=("NoRow" :Str) from rfl),e1,e2,e2]
  rfl
theorem K1 {c:Co} (h:qv c) (v:Int): ∃c',kB c v=some c'/\qv c':=by
 obtain⟨a,b,k,d,e⟩:=c
 have pw:T.kQ 10 6=some 1000000:=Jw
 have md:=fun(a:Int)=>(⟨Int.emod_nonneg a (by decide),Int.emod_lt_of_pos a (by decide)⟩:0<=a%2/\a%2<2)
 obtain⟨u,eu,u1,u2⟩:=EV (x:=1) (y:=1000000) (i:=v/3%2) (lo:=1) (hi:=1000000) (md _).1 (md _).2 (by decide) (by decide)
 obtain⟨w,ew,w1,w2⟩:=EV (x:=0) (y:=1000000) (i:=v/6%2) (lo:=0) (hi:=1000000) (md _).1 (md _).2 (by decide) (by decide)
 obtain⟨z,ez,z1,z2⟩:=EV (x:=1) (y:=99) (i:=v/12%2) (lo:=1) (hi:=99) (md _).1 (md _).2 (by decide) (by decide)
 unfold kB
 rw[aL,show T.un5 (⟨a,b,k,d,e⟩:Co)=some (a,b,k,d,e) from rfl,Option.bind_some,av,T.bw (by decide),av,T.kN,aO]
 by_cases q:v%3=1
 ·rw[decide_eq_true q,if_pos rfl]
  simp only[T.fN,av,pw,T.yW,T.iU (b:=3) (by decide) (by decide),T.iU (b:=6) (by decide) (by decide),T.iU (b:=12) (by decide) (by decide),T.bw (b:=2) (by decide),eu,ew,ez,Option.bind_some]
  exact⟨_,rfl,h.name,h.n1,h.n8,u1,u2,w1,w2,⟨h.d.grp,z1,z2,h.d.rise,h.d.low,h.d.len⟩,h.e⟩
 ·rw[decide_eq_false q,if_neg Bool.false_ne_true]
  exact⟨_,rfl,h⟩
theorem tS {a b:Int} (ha:0<=a) (hb:0<=b) (ha2:a<=1000001) (hb2:b<=1000001) (e:num a=num b):a=b:=by
 have h1:=(tR ha ha2).2
 have h2:=(tR hb hb2).2
 rw[e] at h1
 exact h1.symm.trans h2
theorem beyond {c:Co} (h:CoW c) (n: ¬(1<=c.b/\c.b<=1000000/\c.c<=1000000/\1<=c.d.b/\c.d.b<=99/\1<=c.e.b/\c.e.b<=99)):coO (shC c)=none:=by
 cases e:coO (shC c) with
 |none=>rfl
 |some g=>
  exfalso
  obtain⟨hg,q⟩:=yi.mp e
  have t:=congrArg words q
  rw[nD h,nD hg.w] at t
  injection t with t1 t
  injection t with t2 t
  injection t with t3 t
  injection t with t4 t
  injection t with t5 t
  injection t with t6 t
  injection t with t7 t
  injection t with t8 t
  injection t with t9 t
  have e2:=tS h.need0 (by have:=hg.need1;omega) h.need (by have:=hg.need;omega) t2
  have e3:=tS h.rank0 hg.rank0 h.rank (by have:=hg.rank;omega) (by rw[<-vg,t3,vg])
  have e5:=tS h.d.lo (by have:=hg.d.lo;omega) (by have:=h.d.hi;omega) (by have:=hg.d.hi;omega) t5
  have e9:=tS h.e.lo (by have:=hg.e.lo;omega) (by have:=h.e.hi;omega) (by have:=hg.e.hi;omega) t9
  have:=hg.need1;have:=hg.need;have:=hg.rank;have:=hg.d.lo;have:=hg.d.hi;have:=hg.e.lo;have:=hg.e.hi
  omega
theorem Hj {c:Co} (h:CoW c):Asc (shC c):=fun x hx=>by
 have sd: ∀{s:T3 Str Int Str},pX s-> ∀x∈TL.tl (shS s),x<127:=fun {s} h x hx=>by
  unfold shS at hx
  rw[kE] at hx
  simp only[List.mem_append,List.mem_singleton] at hx
  rcases hx with m|m|m|m|m
  ·have:=(mr h).2 _ m;omega
  ·omega
  ·have:=ft h.lo _ m;omega
  ·omega
  ·have:=u9 h _ m;omega
 unfold shC hd at hx
 simp only[TL.tl_append,kE,List.mem_append,List.mem_singleton,pf,rA,List.mem_cons,List.not_mem_nil,or_false,or_assoc] at hx
 rcases hx with m|m|m|m|m|m|m|m|m|m|m|m
 ·have:=h.name _ m;omega
 ·omega
 ·have:=ft h.need0 _ m;omega
 ·omega
 ·have:=ft h.rank0 _ m;omega
 ·omega
 ·omega
 ·exact sd h.d _ m
 ·omega
 ·omega
 ·omega
 ·exact sd h.e _ m
theorem Hk {c:Co} (h:CoW c):(shC c).length<=120:=by
 have l1:=pG h.d
 have l2:=pG h.e
 have l4:=AQ h
 rw[ltl]
 unfold shC
 simp only[TL.tl_append,List.length_append,pf,rA,List.length_cons,List.length_nil];omega
theorem ok4 {x:Str} (h:Asc x):So.ok (⟨x,true,true,false⟩:T4 Str Bool Bool Bool)=true:=by
 show (PySem.PyData.strOk x&&true&&true&&true)=true
 rw[h.ok];rfl
theorem Hm {c:Co} (h:CoW c) (n: ¬(1<=c.b/\c.b<=1000000/\c.c<=1000000/\1<=c.d.b/\c.d.b<=99/\1<=c.e.b/\c.e.b<=99)):oj () (shC c)=some (.nx ()):=by
 unfold oj
 have l:=Hk h
 rw[aL,HW (by omega),show zT (shC c)=(none,some ⟨shC c,true,true,false⟩) by unfold zT;rw[beyond h n]]
 have ok:Sq.ok ((none,some ⟨shC c,true,true,false⟩):Option Co×Option (T4 Str Bool Bool Bool))=true:=ok4 (Hj h)
 show cE (T.GF ((none,some ⟨shC c,true,true,false⟩):Option Co×Option (T4 Str Bool Bool Bool)) (none,some ⟨shC c,true,true,false⟩)) _ _ _=_
 unfold T.GF
 rw[ok,Bool.and_self,if_pos rfl,decide_eq_true rfl];rfl
theorem Hn {c:Co} (h:qv c): ∃l,hZ c=some l/\ ∀x∈l,oj () x=some (.nx ()):=by
 have:=big
 obtain⟨a,b,k,d,e⟩:=c
 have W:=h.w
 have D:=W.d
 have E:=W.e
 have cs: ∀c∈([⟨a,0,k,d,e⟩,⟨a,1000001,k,d,e⟩,⟨a,b,1000001,d,e⟩,⟨a,b,k,⟨d.a,0,d.c⟩,e⟩,⟨a,b,k,d,⟨e.a,0,e.c⟩⟩,⟨a,b,k,⟨d.a,100,d.c⟩,e⟩,⟨a,b,k,d,⟨e.a,100,e.c⟩⟩]:List Co),CoW c/\ ¬(1<=c.b/\c.b<=1000000/\c.c<=1000000/\1<=c.d.b/\c.d.b<=99/\1<=c.e.b/\c.e.b<=99):=fun c hc=>by
  simp only[List.mem_cons,List.not_mem_nil,or_false] at hc
  rcases hc with rfl|rfl|rfl|rfl|rfl|rfl|rfl
  ·exact⟨⟨W.name,W.n1,W.n8,by show (0:Int)<=0;decide,by show (0:Int)<=_;decide,W.rank0,W.rank,D,E⟩,fun z=>absurd z.1 (by show ¬(1:Int)<=0;decide)⟩
  ·exact⟨⟨W.name,W.n1,W.n8,by show (0:Int)<=1000001;decide,by show (1000001:Int)<=_;decide,W.rank0,W.rank,D,E⟩,fun z=>absurd z.2.1 (by show ¬(1000001:Int)<=1000000;decide)⟩
  ·exact⟨⟨W.name,W.n1,W.n8,W.need0,W.need,by show (0:Int)<=1000001;decide,by show (1000001:Int)<=_;decide,D,E⟩,fun z=>absurd z.2.2.1 (by show ¬(1000001:Int)<=1000000;decide)⟩
  ·exact⟨⟨W.name,W.n1,W.n8,W.need0,W.need,W.rank0,W.rank,⟨D.grp,by show (0:Int)<=0;decide,by show (0:Int)<=100;decide,D.rise,D.low,D.len⟩,E⟩,fun z=>absurd z.2.2.2.1 (by show ¬(1:Int)<=0;decide)⟩
  ·exact⟨⟨W.name,W.n1,W.n8,W.need0,W.need,W.rank0,W.rank,D,⟨E.grp,by show (0:Int)<=0;decide,by show (0:Int)<=100;decide,E.rise,E.low,E.len⟩⟩,fun z=>absurd z.2.2.2.2.2.1 (by show ¬(1:Int)<=0;decide)⟩
  ·exact⟨⟨W.name,W.n1,W.n8,W.need0,W.need,W.rank0,W.rank,⟨D.grp,by show (0:Int)<=100;decide,by show (100:Int)<=100;decide,D.rise,D.low,D.len⟩,E⟩,fun z=>absurd z.2.2.2.2.1 (by show ¬(100:Int)<=99;decide)⟩
  ·exact⟨⟨W.name,W.n1,W.n8,W.need0,W.need,W.rank0,W.rank,D,⟨E.grp,by show (0:Int)<=100;decide,by show (100:Int)<=100;decide,E.rise,E.low,E.len⟩⟩,fun z=>absurd z.2.2.2.2.2.2 (by show ¬(100:Int)<=99;decide)⟩
 generalize hl:([⟨a,0,k,d,e⟩,⟨a,1000001,k,d,e⟩,⟨a,b,1000001,d,e⟩,⟨a,b,k,⟨d.a,0,d.c⟩,e⟩,⟨a,b,k,d,⟨e.a,0,e.c⟩⟩,⟨a,b,k,⟨d.a,100,d.c⟩,e⟩,⟨a,b,k,d,⟨e.a,100,e.c⟩⟩]:List Co)=cl at cs
 have ll:cl.length=7:=by rw[<-hl];rfl
 have lc:tlc (some cl) (fun c9:Co=>some true) (fun c9:Co=>b1 bP (some c9))=some (cl.map shC):=By shC (by omega) fun c hc=>by rw[aL,vc (cs c hc).1]
 refine⟨cl.map shC,?_,fun x hx=> ?_⟩
 ·unfold hZ
  rw[aL,show T.un5 (⟨a,b,k,d,e⟩:Co)=some (a,b,k,d,e) from rfl,Option.bind_some]
  have ls: ∀xs:List Co,xs.length<=100->T.lst (some xs)=some xs:=fun xs h=>if_pos (by omega)
  simp only[av,Jw,T.ik,T.fN,wZ,T.Eg]
  rw[ls _ (by simp),Option.bind_some]
  have ap: ∀(xs:List Co) (x:Co),xs.length<=100->T.at1 xs (some plR) (some x) T.app=some ((),xs++[x]):=fun xs x h=>by rw[T.Kv,T.Jj (by omega)]
  have st: ∀(xs:List Co) (z:Int),xs.length<=50->cC a b k d e xs z=some (.nx (xs++[⟨a,b,k,⟨d.a,z,d.c⟩,e⟩]++[⟨a,b,k,d,⟨e.a,z,e.c⟩⟩])):=fun xs z h=>by
   unfold cC
   simp only[Option.map_some,nM,T.Ji,wZ,T.Eg]
   rw[ap _ _ (by omega),Option.bind_some,ap _ _ (by simp;omega),Option.bind_some]
  rw[ap _ _ (by simp),Option.bind_some,T.yW,iB]
  show tF0 (((cC a b k d e _ 0).bind _).bind _)=_
  rw[st _ _ (by simp)]
  rw[Option.bind_some]
  show tF0 (((cC a b k d e _ 100).bind _).bind _)=_
  rw[st _ _ (by simp),Option.bind_some]
  show tF0 (bR (tlc (some _) (fun c9:Co=>some true) (fun c9:Co=>b1 bP (some c9))) fun r=>(⟨r⟩:R0 (List Str)))=_
  rw[<-hl] at lc
  have e1:(1000000+1:Int)=1000001:=rfl
  rw[e1]
  show tF0 (bR (tlc (some ([⟨a,0,k,d,e⟩,⟨a,1000001,k,d,e⟩,⟨a,b,1000001,d,e⟩,⟨a,b,k,⟨d.a,0,d.c⟩,e⟩,⟨a,b,k,d,⟨e.a,0,e.c⟩⟩,⟨a,b,k,⟨d.a,100,d.c⟩,e⟩,⟨a,b,k,d,⟨e.a,100,e.c⟩⟩]:List Co)) (fun c9:Co=>some true) (fun c9:Co=>b1 bP (some c9))) fun r=>(⟨r⟩:R0 (List Str)))=_
  rw[lc,←hl];rfl
 ·obtain⟨c,hc,rfl⟩:=List.mem_map.mp hx
  exact Hm (cs c hc).1 (cs c hc).2
theorem K3 {c:Co} (h:qv c):So.ok c=true:=by
 show (PySem.PyData.strOk c.a&&true&&true&&So.ok c.d&&So.ok c.e)=true
 rw[ET h.name,BL h.d,BL h.e];rfl
theorem E8 (ns:List Int) (_:ns.length<=63):BK ⟨ns⟩=some true:=by
 obtain⟨c0,e0,h0⟩:=CB (ns.getD (0:Int).toNat 0)
 obtain⟨c,ec,h⟩:=K1 h0 (ns.getD (3:Int).toNat 0)
 obtain⟨l,el,hl⟩:=Hn h
 obtain⟨y,ey,ay,ly⟩:=Jz h (ns.getD (1:Int).toNat 0) (ns.getD (2:Int).toNat 0)
 unfold BK
 rw[av (f:=bU),tO _ _ (by decide),aL,e0,av (f:=bU),tO _ _ (by decide),av,ec,Option.bind_some,aL,el,iB]
 obtain⟨_,e,_⟩:=Ei (step:=oj) (xs:=l) (b0:=()) (fun _ _=>True) trivial fun pre x post b hp _=>⟨(),.inl (hl x (by rw[hp];simp)),trivial⟩
 rw[e,Option.bind_some,qX,aL,vc h.w,av (f:=bU),tO _ _ (by decide),av (f:=bU),tO _ _ (by decide),nM,ey,Option.bind_some,aL,Jx ly,Option.bind_some,Hi,aL,HW ly,Option.bind_some]
 unfold zT
 cases q:coO y with
 |none=>
  rw[show b2 T.isN (some (none:Option Co)) (some ())=some true from rfl,aO,if_pos rfl]
  show tF0 ((bR (T.GH (some (⟨y,true,true,false⟩:T4 Str Bool Bool Bool)) ⟨y,true,true,false⟩) fun r=>(⟨r⟩:R0 Bool)).bind _)=some true
  unfold T.GH T.Ci
  rw[if_pos (by show (So.ok (⟨y,true,true,false⟩:T4 Str Bool Bool Bool)&&So.ok (⟨y,true,true,false⟩:T4 Str Bool Bool Bool))=true;rw[ok4 ay];rfl),decide_eq_true rfl];rfl
 |some g=>
  rw[show b2 T.isN (some (some g)) (some ())=some false from rfl,aO,if_neg Bool.false_ne_true]
  show tF0 (bR (sT (some true) (T.Ci (some g) (some g))) fun r=>(⟨r⟩:R0 Bool))=some true
  unfold T.Ci
  rw[if_pos (by show (So.ok g&&So.ok g)=true;rw[K3 (yi.mp q).1];rfl),decide_eq_true rfl];rfl
end Sw.k03
namespace Sw.k03
open PySem PySem.Spec PyProof.Rows L2 Sw
theorem facts {P:Program} {w:World} {K:PySem.W.Frag} {h:Heap} {mg:Str->Option Value} {f:Addr} (X:K.In h) (G:h.Ns mainGlobals mg) (hfa:mg ("law" :Str)=some (.ref f)) (c0:AR faL fnL exB K):
  ∃fd:FuncData,(∀(s:Shared) (v:Value),BindsTo s fd ⟨[v],[]⟩ [("_law_script",v)])/\ ∀base:Heap,K.In base->base.Ns mainGlobals mg->FnOk P w K mg base CX0 9 f fd ["_law_script"] (FSp K [.bo] (.rg .fz) AN):=by
 have c:=c0.1
 obtain⟨fd_is_name,E_is_name⟩:=c.def_ 0 (d:=tT) rfl
 obtain⟨fd_number_of,E_number_of⟩:=c.def_ 1 (d:=qw) rfl
 obtain⟨fd_are_marks,E_are_marks⟩:=c.def_ 2 (d:=qy) rfl
 obtain⟨fd_number_within,E_number_within⟩:=c.def_ 3 (d:=mN) rfl
 obtain⟨fd_side_of,E_side_of⟩:=c.def_ 4 (d:=tU) rfl
 obtain⟨fd_couple_of,E_couple_of⟩:=c.def_ 5 (d:=qz) rfl
 obtain⟨fd_read_couple,E_read_couple⟩:=c.def_ 6 (d:=oH) rfl
 obtain⟨fd__law_cell,E__law_cell⟩:=c.def_ 7 (d:=qA) rfl
 obtain⟨fd__law_mix,E__law_mix⟩:=c.def_ 8 (d:=se) rfl
 obtain⟨fd__law_marks,E__law_marks⟩:=c.def_ 9 (d:=pK) rfl
 obtain⟨fd__law_side,E__law_side⟩:=c.def_ 10 (d:=qB) rfl
 obtain⟨fd__law_name,E__law_name⟩:=c.def_ 11 (d:=qD) rfl
 obtain⟨fd__law_couple,E__law_couple⟩:=c.def_ 12 (d:=oJ) rfl
 obtain⟨fd__law_shown_side,E__law_shown_side⟩:=c.def_ 13 (d:=lr) rfl
 obtain⟨fd__law_shown,E__law_shown⟩:=c.def_ 14 (d:=pM) rfl
 obtain⟨fd__law_sign,E__law_sign⟩:=c.def_ 15 (d:=qE) rfl
 obtain⟨fd__law_odd_word,E__law_odd_word⟩:=c.def_ 16 (d:=mP) rfl
 obtain⟨fd__law_spoilt,E__law_spoilt⟩:=c.def_ 17 (d:=oK) rfl
 obtain⟨fd__law_number,E__law_number⟩:=c.def_ 18 (d:=oL) rfl
 obtain⟨fd__law_rising,E__law_rising⟩:=c.def_ 19 (d:=oM) rfl
 obtain⟨fd__law_side_of,E__law_side_of⟩:=c.def_ 20 (d:=ou) rfl
 obtain⟨fd__law_read,E__law_read⟩:=c.def_ 21 (d:=qF) rfl
 obtain⟨fd__law_ends,E__law_ends⟩:=c.def_ 22 (d:=qG) rfl
 obtain⟨fd__law_told,E__law_told⟩:=c.def_ 23 (d:=qH) rfl
 obtain⟨fd__law_beyond,E__law_beyond⟩:=c.def_ 24 (d:=oN) rfl
 obtain⟨fd_law,E_law⟩:=c.def_ 25 (d:=CH) rfl
 obtain⟨fd_NoRow___init__,E_NoRow___init__⟩:=c.def_ 26 (d:=lT) rfl
 have e:=hfa.symm.trans (He.glo_ok X G (c.fact 25 (f:=.glo "law") rfl))
 cases e
 have b:=FunD.bindsA (ps:=["_law_script"]) E_law fun _ _ _ _ _ _ us hl=>match us,hl with| [_],_=>rfl
 have Z:Zs K mg:=⟨He.free_ok X G (c.fact 26 (f:=.free "ValueError") rfl),He.free_ok X G (c.fact 27 (f:=.free "int") rfl),He.free_ok X G (c.fact 28 (f:=.free "isinstance") rfl),He.free_ok X G (c.fact 29 (f:=.free "len") rfl),He.free_ok X G (c.fact 30 (f:=.free "range") rfl),He.free_ok X G (c.fact 31 (f:=.free "set") rfl),He.free_ok X G (c.fact 32 (f:=.free "sorted") rfl),He.free_ok X G (c.fact 33 (f:=.free "str") rfl),He.str_ok X G (c.fact 34 (f:=.str "FIGURES" "0123456789") rfl),Iv X G (c0.ex 0),He.str_ok X G (c.fact 35 (f:=.str "LETTERS" "abcdefghijklmnopqrstuvwxyz") rfl),He.glo_ok X G (c.fact 38 (f:=.glo "NoSwap") rfl),He.glo_ok X G (c.fact 37 (f:=.glo "SwapError") rfl),FT (c0.ex 2)⟩
 refine⟨fd_law,fun s v=>b s [v] rfl,fun base _ _=> ?_⟩
 have Xf_NoRow:=IM (c0.ex 1)
 have Xg_NoRow:=He.glo_ok X G (c.fact 36 (f:=.glo "NoRow") rfl)
 have X_NoRow:Xcl P w K mg base "NoRow" "row" :=Xf_NoRow.cl (He.glo_ok X G (c.fact 36 (f:=.glo "NoRow") rfl)) (IF (bh (qual:="NoRow.__init__") (st:=cW) E_NoRow___init__) lS Xf_NoRow.ox Xf_NoRow.no fun cdv A outer s H E=>Bh (yN rfl (He.glo_ok X G (c.fact 37 (f:=.glo "SwapError") rfl)) Xf_NoRow.rd Xf_NoRow.vv (pa_cons (pv 0) (pa_cons pe_str pa_nil))) (pv 0) (pv 1)) (E_NoRow___init__.bindsN fun _ _ _ _ _ _ us hl=>match us,hl with| [_,_],_=>rfl)
 have Xh_NoRow:F4 P w K mg base "NoRow" "row" :=⟨X_NoRow,_,fd_NoRow___init__,_,Xf_NoRow.ii,Xf_NoRow.it,F3 (bh (qual:="NoRow.__init__") (st:=cW) E_NoRow___init__) lS Xf_NoRow.ox Xf_NoRow.no (fun cdv A outer s H E p=>Bh (yN rfl (He.glo_ok X G (c.fact 37 (f:=.glo "SwapError") rfl)) Xf_NoRow.rd Xf_NoRow.vv (pa_cons (pv 0) (pa_cons pe_str pa_nil))) (pv 0) (pv 1)),E_NoRow___init__.bindsN fun _ _ _ _ _ _ us hl=>match us,hl with| [_,_],_=>rfl⟩
 have C_is_name:Cal P w K mg base 1 "is_name" m8 m9 nh ji:=⟨_,fd_is_name,AK Z (bh E_is_name),He.glo_ok X G (c.fact 0 (f:=.glo "is_name") rfl),E_is_name.kp,E_is_name.bindsN fun _ _ _ _ _ _ us hl=>match us,hl with| [_],_=>rfl⟩
 have C_number_of:qd P w K mg base 3 "number_of" jB jC jD fO:=⟨_,fd_number_of,xP Z X_NoRow (bh E_number_of),He.glo_ok X G (c.fact 1 (f:=.glo "number_of") rfl),E_number_of.kp,E_number_of.bindsN fun _ _ _ _ _ _ us hl=>match us,hl with| [_],_=>rfl⟩
 have C_are_marks:Cal P w K mg base 1 "are_marks" jF jG jH fP:=⟨_,fd_are_marks,xQ Z (bh E_are_marks),He.glo_ok X G (c.fact 2 (f:=.glo "are_marks") rfl),E_are_marks.kp,E_are_marks.bindsN fun _ _ _ _ _ _ us hl=>match us,hl with| [_],_=>rfl⟩
 have C_number_within:qd P w K mg base 4 "number_within" cu cw cA bc:=⟨_,fd_number_within,rV Z C_number_of X_NoRow (bh E_number_within),He.glo_ok X G (c.fact 3 (f:=.glo "number_within") rfl),E_number_within.kp,E_number_within.bindsN fun _ _ _ _ _ _ us hl=>match us,hl with| [_,_,_],_=>rfl⟩
 have C_side_of:qd P w K mg base 5 "side_of" nk nu nv iD:=⟨_,fd_side_of,AL Z C_number_within C_are_marks X_NoRow (bh E_side_of),He.glo_ok X G (c.fact 4 (f:=.glo "side_of") rfl),E_side_of.kp,E_side_of.bindsN fun _ _ _ _ _ _ us hl=>match us,hl with| [_],_=>rfl⟩
 have C_couple_of:qd P w K mg base 6 "couple_of" jJ jK jL fQ:=⟨_,fd_couple_of,xR Z C_is_name C_number_within C_side_of X_NoRow (bh E_couple_of),He.glo_ok X G (c.fact 5 (f:=.glo "couple_of") rfl),E_couple_of.kp,E_couple_of.bindsN fun _ _ _ _ _ _ us hl=>match us,hl with| [_],_=>rfl⟩
 have C_read_couple:FJ P w K mg base 7 "read_couple" gz gA gC dG:=⟨_,fd_read_couple,uR Z C_couple_of X_NoRow Xf_NoRow Xg_NoRow Xh_NoRow (bh E_read_couple),He.glo_ok X G (c.fact 6 (f:=.glo "read_couple") rfl),E_read_couple.kp,E_read_couple.bindsN fun _ _ _ _ _ _ us hl=>match us,hl with| [_],_=>rfl⟩
 have C__law_cell:Cal P w K mg base 1 "_law_cell" jN jO jP cI:=⟨_,fd__law_cell,xT Z (bh E__law_cell),He.glo_ok X G (c.fact 7 (f:=.glo "_law_cell") rfl),E__law_cell.kp,E__law_cell.bindsN fun _ _ _ _ _ _ us hl=>match us,hl with| [_,_],_=>rfl⟩
 have C__law_mix:Cal P w K mg base 1 "_law_mix" eB eC eE aU:=⟨_,fd__law_mix,zt Z (bh E__law_mix),He.glo_ok X G (c.fact 8 (f:=.glo "_law_mix") rfl),E__law_mix.kp,E__law_mix.bindsN fun _ _ _ _ _ _ us hl=>match us,hl with| [_,_],_=>rfl⟩
 have C__law_marks:Cal P w K mg base 1 "_law_marks" iX iY iZ fh:=⟨_,fd__law_marks,vp Z (bh E__law_marks),He.glo_ok X G (c.fact 9 (f:=.glo "_law_marks") rfl),E__law_marks.kp,E__law_marks.bindsN fun _ _ _ _ _ _ us hl=>match us,hl with| [_],_=>rfl⟩
 have C__law_side:Cal P w K mg base 2 "_law_side" jR jS jT eF:=⟨_,fd__law_side,xV Z C__law_mix C__law_marks (bh E__law_side),He.glo_ok X G (c.fact 10 (f:=.glo "_law_side") rfl),E__law_side.kp,E__law_side.bindsN fun _ _ _ _ _ _ us hl=>match us,hl with| [_,_],_=>rfl⟩
 have C__law_name:Cal P w K mg base 2 "_law_name" jV jW jX fR:=⟨_,fd__law_name,xW Z C__law_mix (bh E__law_name),He.glo_ok X G (c.fact 11 (f:=.glo "_law_name") rfl),E__law_name.kp,E__law_name.bindsN fun _ _ _ _ _ _ us hl=>match us,hl with| [_],_=>rfl⟩
 have C__law_couple:Cal P w K mg base 3 "_law_couple" gF gG gH dH:=⟨_,fd__law_couple,uU Z C__law_mix C__law_name C__law_side (bh E__law_couple),He.glo_ok X G (c.fact 12 (f:=.glo "_law_couple") rfl),E__law_couple.kp,E__law_couple.bindsN fun _ _ _ _ _ _ us hl=>match us,hl with| [_],_=>rfl⟩
 have C__law_shown_side:Cal P w K mg base 1 "_law_shown_side" dg dh di bF:=⟨_,fd__law_shown_side,qt Z (bh E__law_shown_side),He.glo_ok X G (c.fact 13 (f:=.glo "_law_shown_side") rfl),E__law_shown_side.kp,E__law_shown_side.bindsN fun _ _ _ _ _ _ us hl=>match us,hl with| [_],_=>rfl⟩
 have C__law_shown:Cal P w K mg base 2 "_law_shown" cJ cL cM br:=⟨_,fd__law_shown,vt Z C__law_shown_side (bh E__law_shown),He.glo_ok X G (c.fact 14 (f:=.glo "_law_shown") rfl),E__law_shown.kp,E__law_shown.bindsN fun _ _ _ _ _ _ us hl=>match us,hl with| [_],_=>rfl⟩
 have C__law_sign:Cal P w K mg base 1 "_law_sign" jZ j5 j6 eG:=⟨_,fd__law_sign,xY Z (bh E__law_sign),He.glo_ok X G (c.fact 15 (f:=.glo "_law_sign") rfl),E__law_sign.kp,E__law_sign.bindsN fun _ _ _ _ _ _ us hl=>match us,hl with| [_],_=>rfl⟩
 have C__law_odd_word:Cal P w K mg base 1 "_law_odd_word" eV eW eX cX:=⟨_,fd__law_odd_word,rW Z (bh E__law_odd_word),He.glo_ok X G (c.fact 16 (f:=.glo "_law_odd_word") rfl),E__law_odd_word.kp,E__law_odd_word.bindsN fun _ _ _ _ _ _ us hl=>match us,hl with| [_],_=>rfl⟩
 have C__law_spoilt:Cal P w K mg base 2 "_law_spoilt" gN gO gQ dI:=⟨_,fd__law_spoilt,uV Z C__law_sign C__law_odd_word (bh E__law_spoilt),He.glo_ok X G (c.fact 17 (f:=.glo "_law_spoilt") rfl),E__law_spoilt.kp,E__law_spoilt.bindsN fun _ _ _ _ _ _ us hl=>match us,hl with| [_,_,_],_=>rfl⟩
 have C__law_number:Cal P w K mg base 1 "_law_number" dv dw dy bB:=⟨_,fd__law_number,uW Z (bh E__law_number),He.glo_ok X G (c.fact 18 (f:=.glo "_law_number") rfl),E__law_number.kp,E__law_number.bindsN fun _ _ _ _ _ _ us hl=>match us,hl with| [_,_,_],_=>rfl⟩
 have C__law_rising:Cal P w K mg base 1 "_law_rising" gV gW gX dJ:=⟨_,fd__law_rising,uX Z (bh E__law_rising),He.glo_ok X G (c.fact 19 (f:=.glo "_law_rising") rfl),E__law_rising.kp,E__law_rising.bindsN fun _ _ _ _ _ _ us hl=>match us,hl with| [_],_=>rfl⟩
 have C__law_side_of:Cal P w K mg base 2 "_law_side_of" fF fG fH cB:=⟨_,fd__law_side_of,sY Z C__law_number C__law_rising (bh E__law_side_of),He.glo_ok X G (c.fact 20 (f:=.glo "_law_side_of") rfl),E__law_side_of.kp,E__law_side_of.bindsN fun _ _ _ _ _ _ us hl=>match us,hl with| [_],_=>rfl⟩
 have C__law_read:Cal P w K mg base 3 "_law_read" j8 j9 kd fT:=⟨_,fd__law_read,xZ Z C__law_side_of C__law_number C__law_shown (bh E__law_read),He.glo_ok X G (c.fact 21 (f:=.glo "_law_read") rfl),E__law_read.kp,E__law_read.bindsN fun _ _ _ _ _ _ us hl=>match us,hl with| [_],_=>rfl⟩
 have C__law_ends:Cal P w K mg base 1 "_law_ends" kg kh ki fU:=⟨_,fd__law_ends,x7 Z (bh E__law_ends),He.glo_ok X G (c.fact 22 (f:=.glo "_law_ends") rfl),E__law_ends.kp,E__law_ends.bindsN fun _ _ _ _ _ _ us hl=>match us,hl with| [_,_],_=>rfl⟩
 have C__law_told:Cal P w K mg base 8 "_law_told" ko kq kr eL:=⟨_,fd__law_told,x8 Z C_read_couple Xf_NoRow Xg_NoRow (bh E__law_told),He.glo_ok X G (c.fact 23 (f:=.glo "_law_told") rfl),E__law_told.kp,E__law_told.bindsN fun _ _ _ _ _ _ us hl=>match us,hl with| [_],_=>rfl⟩
 have C__law_beyond:Cal P w K mg base 3 "_law_beyond" gZ g8 g9 dM:=⟨_,fd__law_beyond,uZ Z C__law_shown (bh E__law_beyond),He.glo_ok X G (c.fact 24 (f:=.glo "_law_beyond") rfl),E__law_beyond.kp,E__law_beyond.bindsN fun _ _ _ _ _ _ us hl=>match us,hl with| [_],_=>rfl⟩
 exact Ju Z C__law_cell C__law_couple C__law_ends C__law_beyond C__law_told C__law_shown C__law_spoilt C__law_read (bh E_law)
end Sw.k03
open PySem PySem.W PySem.Calls PyProof.Rows
theorem PySem.Challenge.cw_swapward_k03_couples_refused_holds : PySem.Challenge.rw_swapward_k03_couples_refused.Holds := by
 w_on;o_law
 refine HandSHeadRun.head_any (r:=PySem.W.OpenLaw.row PySem.Challenge.rw_swapward_k03_couples_refused) (q:=PySem.W.view (PySem.W.OpenLaw.row PySem.Challenge.rw_swapward_k03_couples_refused).prog [35]) (H:=Sw.k03.hk) (ob:=Sw.k03.ob) (M:=6000) (loose:=Sw.k03.loose) (d:=HandSHeadRun.topDef (PySem.W.OpenLaw.row PySem.Challenge.rw_swapward_k03_couples_refused).prog 35) (kwd:=[]) Sw.k03.JR
  (by kernel_rfl) (fun s=>by kernel_rfl) Sw.k03.run (by kernel_rfl) (by kernel_rfl) (by kernel_rfl) (by rfl) (by first|assumption|decide+kernel) (by decide+kernel) ⟨rfl,rfl,rfl,rfl,rfl,by decide+kernel⟩ ?hw ?hc
 case hw=>w_witness2
 case hc=>
  refine L2.walk_ofE (l:=PySem.Challenge.rw_swapward_k03_couples_refused) (n:=63) (k:=9) (x:="_law_script") (CX:=L2.CX0) rfl (by decide) (by kernel_rfl) ⟨rfl,by decide,by decide⟩ ?F (fun _ _ _ _ z=>z)
  intro w mg fa h Y G hmg0
  obtain⟨K,KX,c⟩:=Y
  have hmg:mg ("law" :PySem.Str)=some (.ref fa):=by
   have e:(HandSHeadRun.topDef (PySem.W.OpenLaw.row PySem.Challenge.rw_swapward_k03_couples_refused).prog 35).name=("law" :PySem.Str):=by kernel_rfl
   rw[<-e]
   exact hmg0
  obtain⟨fd,hb,hF⟩:=Sw.k03.facts (P:=(PySem.Challenge.rw_swapward_k03_couples_refused).prog) (w:=w) KX G hmg c
  exact⟨K,fd,_,KX,hb,fun H a ns hl _ hS=>Sw.Dq hS (Sw.k03.KS ⟨ns⟩ true (Sw.k03.E8 ns hl)),hF⟩
